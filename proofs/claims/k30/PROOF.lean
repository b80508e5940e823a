import PyProof.Rows.All
import Wide.All
import OpenK.AllK
import Wide.FinOn
import HandS.ForMost
import HandS.ForExc
import HandS.CallSlots
import HandS.Lambda
import HandS.TupAny
import HandS.TupMul
import HandS.IsInst
import HandS.Deep
import HandS.Zip
import HandS.SetFor
import HandS.Style
import HandS.NoneIn
import KE.LtData
import KE.SortData
import KE.DataMinMax
import KE.GoesMore
import KE.KDictZip
import HandS.Set
import KE.KItemsList
import KE.DataFind
import HandS.EndTab
import HandS.HotCalls
import HandS.ExcIs
import HandS.Conv
import PyProof.StrLawsIn
import PyProof.P3Eq
import PySem.Challenge.RW_shelfround_k30_whole_loads
set_option Elab.async false
set_option linter.all false
set_option maxRecDepth 100000
set_option maxHeartbeats 4000000
set_option autoImplicit false
/-! Mi: a refinement layer. Data trees with value semantics, a store of mutable cells; each construct computes a Lean function. -/
namespace Mi
open PySem PySem.Spec PyProof.Rows L2
/-- the tables of code objects of defs that make lambdas -/
class Tb where
  T : List (Addr × Str)
variable [Tb]

inductive Ty where
  | int | bool | str | list | tuple | dict
  deriving DecidableEq
def Ty.name : Ty → String
  | .int => "int" | .bool => "bool" | .str => "str" | .list => "list" | .tuple => "tuple" | .dict => "dict"
/-- data -/
inductive D where
  | non | bl (b : Bool) | int (i : Int) | str (x : Str) | lst (xs : List D) | tup (xs : List D)
  | dic (ks : List Key) (vs : List D) | set (xs : List D) | cell (n : Nat) | ref (a : Addr) | exc (c : Str) | scr (ns : List Int) | ty (n : Ty)
inductive Cell where
  | dead | lst (xs : List D) | dic (ks : List Key) (vs : List D) | ins (C : Str) (fs : List (Str × D))
  | llst (xs : List D) | ldic (ks : List Key) (vs : List D)
inductive Res (α : Type) where
  | ok (a : α) (ω : List Cell) | raise (c : Str) (ω : List Cell) | stuck
abbrev M (α : Type) := List Cell → Res α
abbrev Env := List (Option D)
structure Wd where
  S : Addr → Prop
  μ : List Addr
  ω : List Cell
  H : Hp

mutual
inductive Rep (K : PySem.W.Frag) (S : Addr → Prop) (μ : List Addr) (H : Hp) : V → D → Prop
  | non : Rep K S μ H .non .non
  | bl (b : Bool) : Rep K S μ H (.bl b) (.bl b)
  | int (i : Int) : Rep K S μ H (.int i) (.int i)
  | str (x : Str) : x.length ≤ sizeLine → PyData.strOk x = true → Rep K S μ H (.str x) (.str x)
  | lst {a : Addr} {vs : List V} {ds : List D} : S a → H a = some (.lst vs) → vs.length ≤ sizeLine → Reps K S μ H vs ds → Rep K S μ H (.ref a) (.lst ds)
  | tup {a : Addr} {vs : List V} {ds : List D} : S a → H a = some (.tup vs) → vs.length ≤ sizeLine → Reps K S μ H vs ds → Rep K S μ H (.ref a) (.tup ds)
  | dic {a : Addr} {o : Obj} {kvs : List (Key × V)} {ds : List D} : S a → H a = some (.frz o (.dK kvs)) → kvs.length ≤ sizeLine → Reps K S μ H (kvs.map (·.2)) ds → Rep K S μ H (.ref a) (.dic (kvs.map (·.1)) ds)
  | cell {n : Nat} {a : Addr} : μ[n]? = some a → Rep K S μ H (.ref a) (.cell n)
  | ref (a : Addr) : Rep K S μ H (.ref a) (.ref a)
  | ty (n : Ty) : Rep K S μ H (.ty n.name) (.ty n)
  | scr {a : Addr} {ns : List Int} : (S a ∨ ∀ H', SqL K H' a (ns.map V.int)) → SqL K H a (ns.map V.int) → Rep K S μ H (.ref a) (.scr ns)
inductive Reps (K : PySem.W.Frag) (S : Addr → Prop) (μ : List Addr) (H : Hp) : List V → List D → Prop
  | nil : Reps K S μ H [] []
  | cons {v : V} {vs : List V} {d : D} {ds : List D} : Rep K S μ H v d → Reps K S μ H vs ds → Reps K S μ H (v :: vs) (d :: ds)
end
abbrev Wd.rep (K : PySem.W.Frag) (w : Wd) : V → D → Prop := Rep K w.S w.μ w.H
abbrev Wd.reps (K : PySem.W.Frag) (w : Wd) : List V → List D → Prop := Reps K w.S w.μ w.H

def CellOk (K : PySem.W.Frag) (w : Wd) (a : Addr) : Cell → Prop
  | .dead => True
  | .lst xs => ∃ vs, w.H a = some (.lst vs) ∧ vs.length ≤ sizeLine ∧ w.reps K vs xs
  | .dic ks xs => ∃ kvs, w.H a = some (.dK kvs) ∧ kvs.length ≤ sizeLine ∧ kvs.map (·.1) = ks ∧ w.reps K (kvs.map (·.2)) xs
  | .ins C fs => ∃ Ca dx vs, PySem.W.nsIn K mainGlobals C = some (some (.ref Ca)) ∧ w.H a = some (.ins Ca dx ((fs.map (·.1)).zip vs)) ∧ w.reps K vs (fs.map (·.2))
  | .llst xs => ∃ o vs, w.H a = some (.frz o (.lst vs)) ∧ vs.length ≤ sizeLine ∧ w.reps K vs xs
  | .ldic ks xs => ∃ o kvs, w.H a = some (.frz o (.dK kvs)) ∧ kvs.length ≤ sizeLine ∧ kvs.map (·.1) = ks ∧ w.reps K (kvs.map (·.2)) xs
structure Fits (K : PySem.W.Frag) (w : Wd) : Prop where
  len : w.μ.length = w.ω.length
  nd : w.μ.Nodup
  dom : ∀ a, w.S a → w.H a ≠ none
  domμ : ∀ a ∈ w.μ, w.H a ≠ none
  live : ∀ (n : Nat) (a : Addr) (c : Cell), w.μ[n]? = some a → w.ω[n]? = some c → c = .dead ∨ (¬ w.S a ∧ CellOk K w a c)
  tabs : LamX.Tabs Tb.T w.H
  nt : ∀ a ps, w.S a → w.H a ≠ some (.tbl ps)
/-- neither a table nor a code object of one -/
def NoTab (o : Option HO) : Prop := (∀ ps, o ≠ some (.tbl ps)) ∧ ∀ c q, o ≠ some (LamX.CodeO c q)
theorem noTab_none : NoTab none := ⟨(fun _ z => nomatch z), fun _ _ z => nomatch z⟩
theorem noTab_lst {xs : List V} : NoTab (some (.lst xs)) := ⟨(fun _ z => nomatch z), fun _ _ z => nomatch z⟩
theorem noTab_dK {xs : List (Key × V)} : NoTab (some (.dK xs)) := ⟨(fun _ z => nomatch z), fun _ _ z => nomatch z⟩
theorem noTab_ins {C dx : Addr} {fs : List (Str × V)} : NoTab (some (.ins C dx fs)) := ⟨(fun _ z => nomatch z), fun _ _ z => nomatch z⟩
theorem noTab_frz {o : Obj} {u : HO} : NoTab (some (.frz o u)) := ⟨(fun _ z => nomatch z), fun _ _ z => nomatch z⟩
theorem tabs_upd {T : List (Addr × Str)} {H : Hp} {p : Addr} {o : HO} (h : NoTab (H p)) (t : LamX.Tabs T H) : LamX.Tabs T (upd H p o) := fun q hq => by
  obtain ⟨ps, h1, h2, h3⟩ := t q hq
  refine ⟨ps, ?_, h2, fun pos cv e => ?_⟩
  · rw [upd_ne (fun e => h.1 ps (by rw [← e]; exact h1))]; exact h1
  · obtain ⟨c, e1, e2⟩ := h3 pos cv e
    exact ⟨c, e1, by rw [upd_ne (fun e => h.2 c _ (by rw [← e]; exact e2))]; exact e2⟩
structure Grow (w w' : Wd) : Prop where
  S : ∀ a, w.S a → w'.S a
  S' : ∀ a, w'.S a → w.S a ∨ w.H a = none ∨ a ∈ w.μ
  μ : w.μ <+: w'.μ
  μ' : ∀ a ∈ w'.μ, a ∈ w.μ ∨ w.H a = none
  fr : ∀ a o, w.H a = some o → (w.S a ∨ (a ∉ w.μ ∧ ∀ ps, o ≠ .tbl ps)) → w'.H a = some o
  fz : ∀ a o u, w.H a = some (.frz o u) → w'.H a = some (.frz o u)
  tb : ∀ a ps, w.H a = some (.tbl ps) → ∃ ps', w'.H a = some (.tbl ps')
theorem Grow.refl (w : Wd) : Grow w w := ⟨fun _ h => h, fun _ h => .inl h, List.prefix_refl _, fun _ h => .inl h, fun _ _ h _ => h, fun _ _ _ h => h, fun _ ps h => ⟨ps, h⟩⟩
theorem Grow.some {w w' : Wd} (g : Grow w w') {a : Addr} {o : HO} (h : w.H a = some o) (hm : a ∉ w.μ) : w'.H a ≠ none := by
  cases o with
  | tbl ps => obtain ⟨ps', e⟩ := g.tb a ps h; rw [e]; exact fun z => nomatch z
  | _ => rw [g.fr a _ h (.inr ⟨hm, fun _ z => nomatch z⟩)]; exact fun z => nomatch z
theorem Grow.trans {w w1 w2 : Wd} (a : Grow w w1) (b : Grow w1 w2) : Grow w w2 := by
  refine ⟨fun x h => b.S x (a.S x h), fun x h => ?_, a.μ.trans b.μ, fun x h => ?_, fun x o h k => ?_, fun x o u h => b.fz x o u (a.fz x o u h), fun x ps h => ?_⟩
  · rcases b.S' x h with h | h | h
    · exact a.S' x h
    · by_cases hm : x ∈ w.μ
      · exact .inr (.inr hm)
      · refine .inr (.inl ?_)
        cases q : w.H x with
        | none => rfl
        | some o => exact absurd h (a.some q hm)
    · rcases a.μ' x h with h | h
      · exact .inr (.inr h)
      · exact .inr (.inl h)
  · rcases b.μ' x h with h | h
    · exact a.μ' x h
    · by_cases hm : x ∈ w.μ
      · exact .inl hm
      · refine .inr ?_
        cases q : w.H x with
        | none => rfl
        | some o => exact absurd h (a.some q hm)
  · refine b.fr x o (a.fr x o h k) ?_
    rcases k with k | ⟨k, k'⟩
    · exact .inl (a.S x k)
    · refine .inr ⟨fun h2 => ?_, k'⟩
      rcases a.μ' x h2 with h3 | h3
      · exact k h3
      · rw [h3] at h; cases h
  · obtain ⟨ps', e⟩ := a.tb x ps h
    exact b.tb x ps' e

section
variable {K : PySem.W.Frag}
theorem sqL_mono {H H' : Hp} {a : Addr} {vs : List V} (h : ∀ o, H a = some o → H' a = some o) (x : SqL K H a vs) : SqL K H' a vs := by
  rcases x with (x | ⟨o, x⟩) | x
  · exact .inl (.inl (h _ x))
  · exact .inl (.inr ⟨o, h _ x⟩)
  · exact .inr x
theorem sqT_mono {H H' : Hp} {a : Addr} {vs : List V} (h : ∀ o, H a = some o → H' a = some o) (x : SqT K H a vs) : SqT K H' a vs := by
  rcases x with (x | ⟨o, x⟩) | x
  · exact .inl (.inl (h _ x))
  · exact .inl (.inr ⟨o, h _ x⟩)
  · exact .inr x
variable {S S' : Addr → Prop} {μ μ' : List Addr} {H H' : Hp}
mutual
theorem Rep.mono (hS : ∀ a, S a → S' a) (hm : ∀ (n : Nat) (a : Addr), μ[n]? = some a → μ'[n]? = some a) (hH : ∀ a o, S a → H a = some o → H' a = some o) : ∀ {v : V} {d : D}, Rep K S μ H v d → Rep K S' μ' H' v d
  | _, _, .non => .non
  | _, _, .bl b => .bl b
  | _, _, .int i => .int i
  | _, _, .str x h h' => .str x h h'
  | _, _, .lst h1 h2 h3 h4 => .lst (hS _ h1) (hH _ _ h1 h2) h3 (Reps.mono hS hm hH h4)
  | _, _, .tup h1 h2 h3 h4 => .tup (hS _ h1) (hH _ _ h1 h2) h3 (Reps.mono hS hm hH h4)
  | _, _, .ty n => .ty n
  | _, _, .scr (.inl h1) h2 => .scr (.inl (hS _ h1)) (sqL_mono (hH _ · h1) h2)
  | _, _, .scr (.inr h1) h2 => .scr (.inr h1) (h1 _)
  | _, _, .dic h1 h2 h3 h4 => .dic (hS _ h1) (hH _ _ h1 h2) h3 (Reps.mono hS hm hH h4)
  | _, _, .cell h => .cell (hm _ _ h)
  | _, _, .ref a => .ref a
theorem Reps.mono (hS : ∀ a, S a → S' a) (hm : ∀ (n : Nat) (a : Addr), μ[n]? = some a → μ'[n]? = some a) (hH : ∀ a o, S a → H a = some o → H' a = some o) : ∀ {vs : List V} {ds : List D}, Reps K S μ H vs ds → Reps K S' μ' H' vs ds
  | _, _, .nil => .nil
  | _, _, .cons h t => .cons (Rep.mono hS hm hH h) (Reps.mono hS hm hH t)
end
theorem pre_get {μ μ' : List Addr} (h : μ <+: μ') (n : Nat) (a : Addr) (e : μ[n]? = some a) : μ'[n]? = some a := by
  obtain ⟨t, rfl⟩ := h
  rw [List.getElem?_append_left (List.getElem?_eq_some_iff.mp e).1]; exact e
theorem Grow.rep {w w' : Wd} (g : Grow w w') {v : V} {d : D} (r : w.rep K v d) : w'.rep K v d := Rep.mono g.S (pre_get g.μ) (fun a o s h => g.fr a o h (.inl s)) r
theorem Grow.reps {w w' : Wd} (g : Grow w w') {v : List V} {d : List D} (r : w.reps K v d) : w'.reps K v d := Reps.mono g.S (pre_get g.μ) (fun a o s h => g.fr a o h (.inl s)) r
theorem Reps.length {vs : List V} {ds : List D} (h : Reps K S μ H vs ds) : vs.length = ds.length := by
  induction vs generalizing ds with
  | nil => cases h; rfl
  | cons v vs ih => cases h with | cons h t => simp [ih t]
theorem Reps.get : ∀ {vs : List V} {ds : List D} {i : Nat} {d : D}, Reps K S μ H vs ds → ds[i]? = some d → ∃ v, vs[i]? = some v ∧ Rep K S μ H v d
  | _, _, _, _, .nil, e => by simp at e
  | _, _, 0, _, .cons h _, e => by simp at e; subst e; exact ⟨_, rfl, h⟩
  | _, _, i + 1, _, .cons _ t, e => by
    obtain ⟨v, h1, h2⟩ := Reps.get (i := i) t (by simpa using e)
    exact ⟨v, by simpa using h1, h2⟩
theorem Reps.get' : ∀ {vs : List V} {ds : List D} {i : Nat} {v : V}, Reps K S μ H vs ds → vs[i]? = some v → ∃ d, ds[i]? = some d ∧ Rep K S μ H v d
  | _, _, _, _, .nil, e => by simp at e
  | _, _, 0, _, .cons h _, e => by simp at e; subst e; exact ⟨_, rfl, h⟩
  | _, _, i + 1, _, .cons _ t, e => by
    obtain ⟨v, h1, h2⟩ := Reps.get' (i := i) t (by simpa using e)
    exact ⟨v, by simpa using h1, h2⟩
theorem Reps.append : ∀ {vs vs' : List V} {ds ds' : List D}, Reps K S μ H vs ds → Reps K S μ H vs' ds' → Reps K S μ H (vs ++ vs') (ds ++ ds')
  | _, _, _, _, .nil, h => h
  | _, _, _, _, .cons h t, h' => .cons h (Reps.append t h')
theorem Reps.take : ∀ {vs : List V} {ds : List D} (n : Nat), Reps K S μ H vs ds → Reps K S μ H (vs.take n) (ds.take n)
  | _, _, 0, _ => by simp; exact .nil
  | _, _, n + 1, .nil => .nil
  | _, _, n + 1, .cons h t => .cons h (Reps.take n t)
theorem Reps.drop : ∀ {vs : List V} {ds : List D} (n : Nat), Reps K S μ H vs ds → Reps K S μ H (vs.drop n) (ds.drop n)
  | _, _, 0, h => by simpa using h
  | _, _, n + 1, .nil => .nil
  | _, _, n + 1, .cons h t => Reps.drop n t
theorem Reps.set : ∀ {vs : List V} {ds : List D} (n : Nat) {v : V} {d : D}, Rep K S μ H v d → Reps K S μ H vs ds → Reps K S μ H (vs.set n v) (ds.set n d)
  | _, _, 0, _, _, r, .nil => .nil
  | _, _, 0, _, _, r, .cons h t => .cons r t
  | _, _, n + 1, _, _, r, .nil => .nil
  | _, _, n + 1, _, _, r, .cons h t => .cons h (Reps.set n r t)
theorem Reps.reverse {vs : List V} {ds : List D} (h : Reps K S μ H vs ds) : Reps K S μ H vs.reverse ds.reverse := by
  induction vs generalizing ds with
  | nil => cases h; exact .nil
  | cons v vs ih => cases h with | cons h t => simp only [List.reverse_cons]; exact (ih t).append (.cons h .nil)
theorem Reps.mem {vs : List V} {ds : List D} {v : V} (h : Reps K S μ H vs ds) (m : v ∈ vs) : ∃ d ∈ ds, Rep K S μ H v d := by
  obtain ⟨i, hi⟩ := List.getElem?_of_mem m
  obtain ⟨d, h1, h2⟩ := h.get' hi
  exact ⟨d, List.mem_of_getElem? h1, h2⟩
end

/-! ### results -/
def M.ret {α : Type} (a : α) : M α := fun ω => .ok a ω
def M.bind {α β : Type} (m : M α) (k : α → M β) : M β := fun ω => match m ω with
  | .ok a ω1 => k a ω1
  | .raise c ω1 => .raise c ω1
  | .stuck => .stuck
def M.stuck {α : Type} : M α := fun _ => .stuck
def M.raise {α : Type} (c : Str) : M α := fun ω => .raise c ω

section
variable {α β : Type} (K : PySem.W.Frag) (mg : Str → Option Value)
def Holds (W : WX) (σ : L2.St) (w : Wd) (r : Res α) (P : α → Wd → Prop) : Prop := match r with
  | .ok a ω' => ∀ w', Grow w w' → Fits K w' → w'.ω = ω' → P a w'
  | .raise c ω' => ∀ w' u, Grow w w' → Fits K w' → w'.ω = ω' → mg c = some u → W u none σ w'.H
  | .stuck => False
variable {K mg}
theorem Holds.grow {W : WX} {σ : L2.St} {w w1 : Wd} {r : Res α} {P : α → Wd → Prop} (g : Grow w w1) (h : Holds K mg W σ w r P) : Holds K mg W σ w1 r P := by
  cases r with
  | ok a ω => exact fun w' g' f e => h w' (g.trans g') f e
  | raise c ω => exact fun w' u g' f e m => h w' u (g.trans g') f e m
  | stuck => exact h
theorem Holds.mono {W : WX} {σ : L2.St} {w : Wd} {r : Res α} {P P' : α → Wd → Prop} (h : Holds K mg W σ w r P) (hp : ∀ a w', Grow w w' → Fits K w' → P a w' → P' a w') : Holds K mg W σ w r P' := by
  cases r with
  | ok a ω => exact fun w' g' f e => hp a w' g' f (h w' g' f e)
  | raise c ω => exact h
  | stuck => exact h
theorem Holds.bind {W : WX} {σ : L2.St} {w : Wd} {m : M α} {k : α → M β} {P : β → Wd → Prop} (h : Holds K mg W σ w (M.bind m k w.ω) P) : Holds K mg W σ w (m w.ω) fun a w1 => Holds K mg W σ w1 (k a w1.ω) P := by
  unfold M.bind at h
  cases q : m w.ω with
  | ok a ω =>
    rw [q] at h
    intro w1 g1 f1 e1
    subst e1
    exact Holds.grow g1 h
  | raise c ω => rw [q] at h; exact h
  | stuck => rw [q] at h; exact h
/-- bind, and the rest in hand -/
theorem Holds.thn {W : WX} {σ : L2.St} {w : Wd} {m : M α} {k : α → M β} {P : β → Wd → Prop} {P' : α → Wd → Prop} (h : Holds K mg W σ w (M.bind m k w.ω) P) (hp : ∀ a w1, Grow w w1 → Fits K w1 → Holds K mg W σ w1 (k a w1.ω) P → P' a w1) : Holds K mg W σ w (m w.ω) P' :=
  h.bind.mono hp
theorem Holds.here {W : WX} {σ : L2.St} {w : Wd} {a : α} {P : α → Wd → Prop} (f : Fits K w) (h : Holds K mg W σ w (M.ret a w.ω) P) : P a w := h w (Grow.refl w) f rfl
theorem Holds.no {W : WX} {σ : L2.St} {w : Wd} {P : α → Wd → Prop} {R : Prop} (h : Holds K mg W σ w (M.stuck (α := α) w.ω) P) : R := h.elim
end

/-! ### the slots -/
structure EnvRep (K : PySem.W.Frag) (w : Wd) (ρ : Env) (σ : L2.St) : Prop where
  len : ρ.length = σ.length
  get : ∀ (i : Nat) (d : D), ρ[i]? = some (some d) → ∃ v, σ[i]? = some (some v) ∧ w.rep K v d
theorem EnvRep.grow {K : PySem.W.Frag} {w w' : Wd} {ρ : Env} {σ : L2.St} (e : EnvRep K w ρ σ) (g : Grow w w') : EnvRep K w' ρ σ :=
  ⟨e.len, fun i d h => let ⟨v, h1, h2⟩ := e.get i d h; ⟨v, h1, g.rep h2⟩⟩
theorem EnvRep.set {K : PySem.W.Frag} {w : Wd} {ρ : Env} {σ : L2.St} (e : EnvRep K w ρ σ) {i : Nat} {v : V} {d : D} (r : w.rep K v d) : EnvRep K w (ρ.set i (some d)) (σ.set i (some v)) := by
  refine ⟨by simp [e.len], fun j x h => ?_⟩
  by_cases hj : i = j
  · subst hj
    by_cases hl : i < ρ.length
    · rw [List.getElem?_set_self hl] at h
      cases h
      exact ⟨v, List.getElem?_set_self (e.len ▸ hl), r⟩
    · rw [List.getElem?_eq_none (by simpa using hl)] at h; cases h
  · rw [List.getElem?_set_ne hj] at h
    rw [List.getElem?_set_ne hj]
    exact e.get j x h

section
variable (K : PySem.W.Frag) (mg : Str → Option Value) (W : WX)
def tM (f : Env → M D) : TE := fun σ H Q => ∃ w ρ, w.H = H ∧ Fits K w ∧ EnvRep K w ρ σ ∧ Holds K mg W σ w (f ρ w.ω) fun d w' => ∀ v, w'.rep K v d → Q v w'.H
def tMT (f : Env → M Bool) : TT := fun σ H Q => ∃ w ρ, w.H = H ∧ Fits K w ∧ EnvRep K w ρ σ ∧ Holds K mg W σ w (f ρ w.ω) fun b w' => Q b w'.H
def tMA (f : Env → M (List D)) : TA := fun σ H Q => ∃ w ρ, w.H = H ∧ Fits K w ∧ EnvRep K w ρ σ ∧ Holds K mg W σ w (f ρ w.ω) fun ds w' => ∀ vs, w'.reps K vs ds → Q vs w'.H
end
def ME (X : Cx) (W : WX) (e : Expr) (f : Env → M D) : Prop := PE X e (tM X.K X.mg W f)
def MT (X : Cx) (W : WX) (e : Expr) (f : Env → M Bool) : Prop := PT X e (tMT X.K X.mg W f)
def MW (X : Cx) (W : WX) (e : Expr) (f : Env → M Bool) : Prop := PW X e (tMT X.K X.mg W f)
def MA (X : Cx) (W : WX) (es : List Expr) (f : Env → M (List D)) : Prop := PA X es (tMA X.K X.mg W f)
theorem PE.sub {X : Cx} {e : Expr} {t t' : TE} (h : PE X e t) (i : ∀ σ H Q, t' σ H Q → t σ H Q) : PE X e t' := ⟨fun pins s σ H Q I hw => h.run pins s σ H Q I (i σ H Q hw)⟩
theorem PT.sub {X : Cx} {e : Expr} {t t' : TT} (h : PT X e t) (i : ∀ σ H Q, t' σ H Q → t σ H Q) : PT X e t' := ⟨fun pins s σ H Q I hw => h.run pins s σ H Q I (i σ H Q hw)⟩
theorem PW.sub {X : Cx} {e : Expr} {t t' : TT} (h : PW X e t) (i : ∀ σ H Q, t' σ H Q → t σ H Q) : PW X e t' := ⟨fun whole pins s σ H Q I hw => h.run whole pins s σ H Q I (i σ H Q hw)⟩
theorem PA.sub {X : Cx} {e : List Expr} {t t' : TA} (h : PA X e t) (i : ∀ σ H Q, t' σ H Q → t σ H Q) : PA X e t' := ⟨fun pos pins s σ H Q I hw => h.run pos pins s σ H Q I (i σ H Q hw)⟩
theorem PS.sub {X : Cx} {e : Stmt} {t t' : TS} (h : PS X e t) (i : ∀ D σ H, t' D σ H → t D σ H) : PS X e t' := ⟨fun pins s σ H D I hw => h.run pins s σ H D I (i D σ H hw)⟩
theorem PSs.sub {X : Cx} {e : List Stmt} {t t' : TS} (h : PSs X e t) (i : ∀ D σ H, t' D σ H → t D σ H) : PSs X e t' := ⟨fun pins s σ H D I hw => h.run pins s σ H D I (i D σ H hw)⟩
theorem PG.sub {X : Cx} {e : Expr} {t t' : TG} (h : PG X e t) (i : ∀ v σ H Q, t' v σ H Q → t v σ H Q) : PG X e t' := ⟨fun pins s σ H v u Q I r hw => h.run pins s σ H v u Q I r (i v σ H Q hw)⟩
theorem PI.sub {X : Cx} {tg e : Expr} {t t' : TI} (h : PI X tg e t) (i : ∀ σ H Q, t' σ H Q → t σ H Q) : PI X tg e t' := ⟨fun pins s σ H Q I hw => h.run pins s σ H Q I (i σ H Q hw)⟩

/-! ### names, constants -/
def eV (i : Nat) : Env → M D := fun ρ => match ρ[i]? with
  | some (some d) => M.ret d
  | _ => M.stuck
def eC (d : D) : Env → M D := fun _ => M.ret d
section
variable {X : Cx} {W : WX}
theorem me_v (i : Nat) {x : Str} {pos : Pos} (hN : X.N[i]? = some x := by rfl) (hv : Vis X.env.scope x := by first | exact Or.inl rfl | exact Or.inr (Or.inl rfl) | exact Or.inr (Or.inr rfl)) (hd : (x == ("__debug__" : Str)) = false := by decide)
    (hcd : (x == ("__classdict__" : Str)) = false := by decide) : ME X W (.Name x pos) (eV i) := by
  refine PE.sub (pv i hN hv hd hcd) ?_
  rintro σ H Q ⟨w, ρ, rfl, f, E, h⟩
  unfold eV at h
  cases q : ρ[i]? with
  | none => rw [q] at h; exact h.no
  | some o => cases o with
    | none => rw [q] at h; exact h.no
    | some d =>
      rw [q] at h
      obtain ⟨v, h1, h2⟩ := E.get i d q
      exact ⟨v, h1, (Holds.here f h) v h2⟩
theorem me_c {e : Expr} {v : V} {d : D} (he : PE X e (tC v)) (r : ∀ K S μ H, Rep K S μ H v d) : ME X W e (eC d) := by
  refine PE.sub he ?_
  rintro σ H Q ⟨w, ρ, rfl, f, E, h⟩
  exact (Holds.here f h) v (r _ _ _ _)
theorem me_int {i j pos} : ME X W (.Constant (.int i) j pos) (eC (.int i)) := me_c pe_int fun _ _ _ _ => .int i
theorem me_bl {i j pos} : ME X W (.Constant (.bool i) j pos) (eC (.bl i)) := me_c pe_bl fun _ _ _ _ => .bl i
theorem me_non {j pos} : ME X W (.Constant .none j pos) (eC .non) := me_c pe_non fun _ _ _ _ => .non
theorem me_str {i j pos} (h : i.length ≤ sizeLine := by decide +kernel) (h' : PyData.strOk i = true := by decide +kernel) : ME X W (.Constant (.str i) j pos) (eC (.str i)) := me_c pe_str fun _ _ _ _ => .str i h h'
/-- a module's constant, a def or class as a value -/
theorem me_gint {x : Str} {i : Int} {t : Tok} {pos : Pos} (hg : Gl X x) (hm : X.mg x = some (.int i t)) (hd : (x == ("__debug__" : Str)) = false := by decide) : ME X W (.Name x pos) (eC (.int i)) := me_c (pe_glob (v := .int i) hg hm ⟨t, rfl⟩ hd) fun _ _ _ _ => .int i
theorem me_gstr {x i : Str} {t : Tok} {pos : Pos} (hg : Gl X x) (hm : X.mg x = some (.str i t)) (hd : (x == ("__debug__" : Str)) = false := by decide) (h : i.length ≤ sizeLine := by decide +kernel) (h' : PyData.strOk i = true := by decide +kernel) : ME X W (.Name x pos) (eC (.str i)) := me_c (pe_glob (v := .str i) hg hm ⟨t, rfl⟩ hd) fun _ _ _ _ => .str i h h'
theorem me_gref {x : Str} {a : Addr} {pos : Pos} (hg : Gl X x) (hm : X.mg x = some (.ref a)) (hd : (x == ("__debug__" : Str)) = false := by decide) : ME X W (.Name x pos) (eC (.ref a)) := me_c (pe_glob (v := .ref a) hg hm rfl hd) fun _ _ _ _ => .ref a
end
end Mi
namespace Mi
open PySem PySem.Spec PyProof.Rows L2
variable [Tb]

/-! ### new objects -/
def Wd.lay (w : Wd) (p : Addr) (o : HO) : Wd := { w with S := fun a => w.S a ∨ a = p, H := upd w.H p o }
section
variable {K : PySem.W.Frag} {mg : Str → Option Value} {W : WX} {σ : L2.St} {w w' : Wd} {p : Addr} {o : HO} {Q : VK}
theorem upd_new (hp : w.H p = none) : ∀ a u, w.H a = some u → upd w.H p o a = some u := fun a u h => by rw [upd_ne (ne_of_none h hp)]; exact h
theorem lay_grow (hp : w.H p = none) : Grow w (w.lay p o) :=
  ⟨fun _ h => .inl h, fun a h => h.elim (fun z => .inl z) fun z => .inr (.inl (by rw [z]; exact hp)), List.prefix_refl _, fun _ h => .inl h, fun a u h _ => upd_new hp a u h, fun a _ _ h => upd_new hp a _ h, fun a ps h => ⟨ps, upd_new hp a _ h⟩⟩
theorem CellOk.mono {a : Addr} {c : Cell} (h : CellOk K w a c) (e : w'.H a = w.H a) (r : ∀ vs ds, w.reps K vs ds → w'.reps K vs ds) : CellOk K w' a c := by
  cases c with
  | dead => trivial
  | lst xs => obtain ⟨vs, h1, h2, h3⟩ := h; exact ⟨vs, e.trans h1, h2, r _ _ h3⟩
  | dic ks xs => obtain ⟨vs, h1, h2, h3, h4⟩ := h; exact ⟨vs, e.trans h1, h2, h3, r _ _ h4⟩
  | ins C fs => obtain ⟨Ca, dx, vs, h1, h2, h3⟩ := h; exact ⟨Ca, dx, vs, h1, e.trans h2, r _ _ h3⟩
  | llst xs => obtain ⟨o, vs, h1, h2, h3⟩ := h; exact ⟨o, vs, e.trans h1, h2, r _ _ h3⟩
  | ldic ks xs => obtain ⟨o, vs, h1, h2, h3, h4⟩ := h; exact ⟨o, vs, e.trans h1, h2, h3, r _ _ h4⟩
theorem lay_fits (F : Fits K w) (hp : w.H p = none) (ho : ∀ ps, o ≠ .tbl ps) : Fits K (w.lay p o) := by
  refine ⟨F.len, F.nd, fun a h => ?_, fun a h => ?_, fun n a c h1 h2 => ?_, F.tabs.ext (upd_new hp), fun a ps h z => ?_⟩
  · show upd w.H p o a ≠ none
    by_cases e : a = p
    · rw [e, upd_same]; exact fun z => nomatch z
    · rw [upd_ne e]; exact h.elim (F.dom a) fun z => absurd z e
  · show upd w.H p o a ≠ none
    by_cases e : a = p
    · rw [e, upd_same]; exact fun z => nomatch z
    · rw [upd_ne e]; exact F.domμ a h
  · have hne : a ≠ p := fun e => F.domμ a (List.mem_of_getElem? h1) (by rw [e]; exact hp)
    rcases F.live n a c h1 h2 with h | ⟨h, h'⟩
    · exact .inl h
    · refine .inr ⟨fun z => z.elim h hne, h'.mono (upd_ne hne) fun vs ds r => (lay_grow hp).reps r⟩
  · have z' : upd w.H p o a = some (.tbl ps) := z
    by_cases e : a = p
    · rw [e, upd_same] at z'; exact ho ps (Option.some.inj z')
    · rw [upd_ne e] at z'
      rcases h with h | h
      · exact F.nt a ps h z'
      · exact e h
abbrev Ans (K : PySem.W.Frag) (mg : Str → Option Value) (W : WX) (σ : L2.St) (w : Wd) (m : M D) (Q : VK) : Prop := Holds K mg W σ w (m w.ω) fun d w' => ∀ v, w'.rep K v d → Q v w'.H
theorem Ans.val {v : V} {d : D} (F : Fits K w) (h : Ans K mg W σ w (M.ret d) Q) (r : w.rep K v d) : Q v w.H := (Holds.here F h) v r
theorem Ans.lst {vs : List V} {ds : List D} (F : Fits K w) (h : Ans K mg W σ w (M.ret (.lst ds)) Q) (r : w.reps K vs ds) (hl : vs.length ≤ sizeLine) : ∀ p, w.H p = none → Q (.ref p) (upd w.H p (.lst vs)) := fun p hp =>
  h (w.lay p (.lst vs)) (lay_grow hp) (lay_fits F hp (fun _ z => nomatch z)) rfl (.ref p) (.lst (.inr rfl) upd_same hl ((lay_grow hp).reps r))
theorem Ans.tup {vs : List V} {ds : List D} (F : Fits K w) (h : Ans K mg W σ w (M.ret (.tup ds)) Q) (r : w.reps K vs ds) (hl : vs.length ≤ sizeLine) : ∀ p, w.H p = none → Q (.ref p) (upd w.H p (.tup vs)) := fun p hp =>
  h (w.lay p (.tup vs)) (lay_grow hp) (lay_fits F hp (fun _ z => nomatch z)) rfl (.ref p) (.tup (.inr rfl) upd_same hl ((lay_grow hp).reps r))
end

/-! ### operators -/
def Op2 (X : Cx) (r : R2) (o : D → D → M D) : Prop := ∀ (W : WX) (σ : L2.St) (w : Wd) (x y : V) (d e : D) (Q : VK), Fits X.K w → w.rep X.K x d → w.rep X.K y e → Ans X.K X.mg W σ w (o d e) Q → r x y w.H Q
def Op1 (X : Cx) (r : V → Hp → VK → Prop) (o : D → M D) : Prop := ∀ (W : WX) (σ : L2.St) (w : Wd) (x : V) (d : D) (Q : VK), Fits X.K w → w.rep X.K x d → Ans X.K X.mg W σ w (o d) Q → r x w.H Q
def OpN (X : Cx) (r : List V → Hp → VK → Prop) (o : List D → M D) : Prop := ∀ (W : WX) (σ : L2.St) (w : Wd) (xs : List V) (ds : List D) (Q : VK), Fits X.K w → w.reps X.K xs ds → Ans X.K X.mg W σ w (o ds) Q → r xs w.H Q
@[simp] def e2 (o : D → D → M D) (f g : Env → M D) : Env → M D := fun ρ => (f ρ).bind fun d => (g ρ).bind fun e => o d e
@[simp] def e1 (o : D → M D) (f : Env → M D) : Env → M D := fun ρ => (f ρ).bind o
@[simp] def eN (o : List D → M D) (f : Env → M (List D)) : Env → M D := fun ρ => (f ρ).bind o
section
variable {X : Cx} {W : WX} {a b : Expr} {f g : Env → M D}
theorem sub2 {r : R2} {o : D → D → M D} (h2 : Op2 X r o) : ∀ σ H Q, tM X.K X.mg W (e2 o f g) σ H Q → tOp r (tM X.K X.mg W f) (tM X.K X.mg W g) σ H Q := by
  rintro σ H Q ⟨w, ρ, rfl, F, E, h⟩
  refine ⟨w, ρ, rfl, F, E, Holds.thn h fun d w1 g1 F1 h1 x rx => ?_⟩
  refine ⟨w1, ρ, rfl, F1, E.grow g1, Holds.thn h1 fun e w2 g2 F2 h3 y ry => ?_⟩
  exact h2 W σ w2 x y d e Q F2 (g2.rep rx) ry h3
theorem me_bin {op : Operator} {r : R2} {o : D → D → M D} {pos : Pos} (ho : OpR X (binaryOp op) r) (h2 : Op2 X r o) (ha : ME X W a f) (hb : ME X W b g) : ME X W (.BinOp a op b pos) (e2 o f g) := PE.sub (pe_op ho ha hb) (sub2 h2)
theorem me_cmp {op : CmpOp} {r : R2} {o : D → D → M D} {pos : Pos} (ho : OpR X (compareOp op) r) (h2 : Op2 X r o) (ha : ME X W a f) (hb : ME X W b g) (hm : behindInMarks op b = false) : ME X W (.Compare a [op] [b] pos) (e2 o f g) := PE.sub (pe_cmpR ho ha hb hm) (sub2 h2)
theorem me_un {op : UnaryOp} {r : V → Hp → VK → Prop} {o : D → M D} {pos : Pos} (ho : UnR X (unaryOp op) r) (h2 : Op1 X r o) (ha : ME X W a f) : ME X W (.UnaryOp op a pos) (e1 o f) := by
  refine PE.sub (pe_un ho ha) ?_
  rintro σ H Q ⟨w, ρ, rfl, F, E, h⟩
  exact ⟨w, ρ, rfl, F, E, Holds.thn h fun d w1 g1 F1 h1 x rx => h2 W σ w1 x d Q F1 rx h1⟩

/-! arithmetic -/
@[simp] def oSub : D → D → M D
  | .int i, .int j => M.ret (.int (i - j))
  | _, _ => M.stuck
@[simp] def oAdd : D → D → M D
  | .int i, .int j => M.ret (.int (i + j))
  | .str x, .str y => if x.length + y.length ≤ sizeLine then M.ret (.str (x ++ y)) else M.stuck
  | .lst xs, .lst ys => if xs.length + ys.length ≤ sizeLine then M.ret (.lst (xs ++ ys)) else M.stuck
  | .tup xs, .tup ys => if xs.length + ys.length ≤ sizeLine then M.ret (.tup (xs ++ ys)) else M.stuck
  | _, _ => M.stuck
def small (i : Int) : Bool := Nat.ble i.natAbs 18446744073709551615
def tiny (i : Int) : Bool := Nat.ble i.natAbs 1000000
def lt30 (i : Int) : Bool := Nat.ble i.natAbs 1073741823
theorem tiny_iff {i : Int} : tiny i = true ↔ -1000000 ≤ i ∧ i ≤ 1000000 := by unfold tiny; rw [Nat.ble_eq]; omega
theorem lt30_iff {i : Int} : lt30 i = true ↔ -1073741824 < i ∧ i < 1073741824 := by unfold lt30; rw [Nat.ble_eq]; omega
@[simp] def oMul : D → D → M D
  | .int i, .int j => if small i || small j then M.ret (.int (i * j)) else M.stuck
  | .lst xs, .int k => if 0 ≤ k ∧ tiny k = true ∧ xs.length * k.toNat ≤ sizeLine then M.ret (.lst (List.replicate k.toNat xs).flatten) else M.stuck
  | .tup xs, .int k => if xs ≠ [] ∧ 2 ≤ k ∧ k ≤ 1000 ∧ xs.length ≤ 1000 then M.ret (.tup (List.replicate k.toNat xs).flatten) else M.stuck
  | _, _ => M.stuck
@[simp] def oMod : D → D → M D
  | .int i, .int j => if 0 < j then M.ret (.int (i % j)) else M.stuck
  | _, _ => M.stuck
@[simp] def oDiv : D → D → M D
  | .int i, .int j => if 0 < j ∧ lt30 j = true then M.ret (.int (i / j)) else M.stuck
  | _, _ => M.stuck
@[simp] def oPow : D → D → M D
  | .int i, .int j => if 0 ≤ j ∧ tiny j = true ∧ i.natAbs < 2 ^ 64 then M.ret (.int (i ^ j.toNat)) else M.stuck
  | _, _ => M.stuck
@[simp] def oNeg : D → M D
  | .int i => M.ret (.int (-i))
  | _ => M.stuck
theorem Holds.ite {K : PySem.W.Frag} {mg : Str → Option Value} {W : WX} {σ : L2.St} {w : Wd} {α : Type} {c : Prop} [Decidable c] {m : M α} {P : α → Wd → Prop} (h : Holds K mg W σ w ((if c then m else M.stuck) w.ω) P) : c ∧ Holds K mg W σ w (m w.ω) P := by
  by_cases hc : c
  · rw [if_pos hc] at h; exact ⟨hc, h⟩
  · rw [if_neg hc] at h; exact h.no
theorem op2_sub : Op2 X (rI0 fun i j => .int (i - j)) oSub := by
  intro W σ w x y d e Q F rx ry h
  cases rx with
  | int i => cases ry with
    | int j => exact ⟨i, j, rfl, rfl, Ans.val F h (.int _)⟩
    | _ => exact h.no
  | _ => exact h.no
theorem strOk_append {x y : Str} (h : PyData.strOk x = true) (h' : PyData.strOk y = true) : PyData.strOk (x ++ y) = true := by
  unfold PyData.strOk at *
  show ((x.cps ++ y.cps).all _) = true
  rw [Array.all_append, h, h']; rfl
theorem str_len_append (x y : Str) : (x ++ y).length = x.length + y.length := by
  show (x.cps ++ y.cps).size = _
  rw [Array.size_append]; rfl
def rAddA (K : PySem.W.Frag) : R2 := fun x y H Q => rI0 (fun i j => .int (i + j)) x y H Q ∨ (∃ i j, x = .str i ∧ y = .str j ∧ i.length + j.length ≤ sizeLine ∧ Q (.str (i ++ j)) H) ∨ rCat x y H Q ∨ rCatA K x y H Q
theorem op_addA : OpR X (binaryOp .Add) (rAddA X.K) := OpR.or op_add (OpR.or op_add_str (OpR.or op_cat op_catA))
theorem op2_add : Op2 X (rAddA X.K) oAdd := by
  intro W σ w x y d e Q F rx ry h
  cases rx with
  | int i => cases ry with
    | int j => exact .inl ⟨i, j, rfl, rfl, Ans.val F h (.int _)⟩
    | _ => exact h.no
  | str x hx hx' => cases ry with
    | str y hy hy' =>
      obtain ⟨c, h⟩ := Holds.ite h
      exact .inr (.inl ⟨x, y, rfl, rfl, c, Ans.val F h (.str _ (by rw [str_len_append]; exact c) (strOk_append hx' hy'))⟩)
    | _ => exact h.no
  | lst s1 e1 l1 r1 => cases ry with
    | lst s2 e2 l2 r2 =>
      obtain ⟨c, h⟩ := Holds.ite h
      have c' := c
      rw [← r1.length, ← r2.length] at c'
      exact .inr (.inr (.inl ⟨_, _, _, _, rfl, rfl, e1, e2, c', Ans.lst F h (r1.append r2) (by rw [List.length_append]; exact c')⟩))
    | _ => exact h.no
  | tup s1 e1 l1 r1 => cases ry with
    | tup s2 e2 l2 r2 =>
      obtain ⟨c, h⟩ := Holds.ite h
      have c' := c
      rw [← r1.length, ← r2.length] at c'
      refine .inr (.inr (.inr ⟨_, _, _, _, rfl, rfl, .of e1, .of e2, c', fun z => ?_, fun z z' => ?_, fun _ _ => Ans.tup F h (r1.append r2) (by rw [List.length_append]; exact c')⟩))
      · subst z; cases r1
        exact Ans.val F h (.tup s2 e2 l2 (by simpa using r2))
      · subst z'; cases r2
        exact Ans.val F h (.tup s1 e1 l1 (by simpa using r1))
    | _ => exact h.no
  | _ => exact h.no
theorem Reps.rep {K : PySem.W.Frag} {S : Addr → Prop} {μ : List Addr} {H : Hp} {vs : List V} {ds : List D} (h : Reps K S μ H vs ds) : ∀ n, Reps K S μ H (List.replicate n vs).flatten (List.replicate n ds).flatten
  | 0 => .nil
  | n + 1 => by
    rw [List.replicate_succ, List.replicate_succ, List.flatten_cons, List.flatten_cons]
    exact h.append (h.rep n)
theorem flat_len {α : Type} (n : Nat) (xs : List α) : (List.replicate n xs).flatten.length = n * xs.length := by
  induction n with
  | zero => simp
  | succ n ih => rw [List.replicate_succ, List.flatten_cons, List.length_append, ih, Nat.succ_mul]; omega
def rMulA (K : PySem.W.Frag) : R2 := fun x y H Q => rI CMul (fun i j => .int (i * j)) x y H Q ∨ rRep x y H Q ∨ rRepT K x y H Q
theorem op_mulA : OpR X (binaryOp .Mult) (rMulA X.K) := OpR.or op_mul (OpR.or op_rep op_repT)
theorem small_iff {i : Int} : small i = true ↔ -(2 ^ 64) < i ∧ i < 2 ^ 64 := by unfold small; rw [Nat.ble_eq]; omega
theorem op2_mul : Op2 X (rMulA X.K) oMul := by
  intro W σ w x y d e Q F rx ry h
  cases rx with
  | int i => cases ry with
    | int j =>
      obtain ⟨c, h⟩ := Holds.ite h
      rw [Bool.or_eq_true, small_iff, small_iff] at c
      exact .inl ⟨i, j, rfl, rfl, c, Ans.val F h (.int _)⟩
    | _ => exact h.no
  | lst s1 e1 l1 r1 => cases ry with
    | int k =>
      obtain ⟨⟨c1, c2, c3⟩, h⟩ := Holds.ite h
      rw [← r1.length] at c3
      rw [tiny_iff] at c2
      exact .inr (.inl ⟨_, k, _, rfl, rfl, e1, by omega, by omega, c3, Ans.lst F h (r1.rep _) (by rw [flat_len, Nat.mul_comm]; exact c3)⟩)
    | _ => exact h.no
  | tup s1 e1 l1 r1 => cases ry with
    | int k =>
      obtain ⟨⟨c1, c2, c3, c4⟩, h⟩ := Holds.ite h
      have hl := r1.length
      rw [← hl] at c4
      refine .inr (.inr ⟨_, k, _, rfl, rfl, .of e1, fun z => c1 (List.length_eq_zero_iff.mp (by rw [← hl, z]; rfl)), c2, c3, c4, Ans.tup F h (r1.rep _) ?_⟩)
      rw [flat_len]
      refine Nat.le_trans (Nat.mul_le_mul (show k.toNat ≤ 1000 by omega) c4) (by decide)
    | _ => exact h.no
  | _ => exact h.no
theorem op2_mod : Op2 X (rI (fun _ j => 0 < j) fun i j => .int (i % j)) oMod := by
  intro W σ w x y d e Q F rx ry h
  cases rx with
  | int i => cases ry with
    | int j =>
      obtain ⟨c, h⟩ := Holds.ite h
      exact ⟨i, j, rfl, rfl, c, Ans.val F h (.int _)⟩
    | _ => exact h.no
  | _ => exact h.no
theorem op2_div : Op2 X (rI CDiv fun i j => .int (i / j)) oDiv := by
  intro W σ w x y d e Q F rx ry h
  cases rx with
  | int i => cases ry with
    | int j =>
      obtain ⟨c, h⟩ := Holds.ite h
      rw [lt30_iff] at c
      exact ⟨i, j, rfl, rfl, ⟨c.1, by omega⟩, Ans.val F h (.int _)⟩
    | _ => exact h.no
  | _ => exact h.no
theorem op2_pow : Op2 X (rI CPow fun i j => .int (i ^ j.toNat)) oPow := by
  intro W σ w x y d e Q F rx ry h
  cases rx with
  | int i => cases ry with
    | int j =>
      obtain ⟨c, h⟩ := Holds.ite h
      rw [tiny_iff] at c
      exact ⟨i, j, rfl, rfl, ⟨c.1, c.2.1.2, c.2.2⟩, Ans.val F h (.int _)⟩
    | _ => exact h.no
  | _ => exact h.no
theorem op1_neg : Op1 X (rU fun i => .int (-i)) oNeg := by
  intro W σ w x d Q F rx h
  cases rx with
  | int i => exact ⟨i, rfl, Ans.val F h (.int _)⟩
  | _ => exact h.no
variable {pos : Pos}
theorem me_add (ha : ME X W a f) (hb : ME X W b g) : ME X W (.BinOp a .Add b pos) (e2 oAdd f g) := me_bin op_addA op2_add ha hb
theorem me_sub (ha : ME X W a f) (hb : ME X W b g) : ME X W (.BinOp a .Sub b pos) (e2 oSub f g) := me_bin op_sub op2_sub ha hb
theorem me_mul (ha : ME X W a f) (hb : ME X W b g) : ME X W (.BinOp a .Mult b pos) (e2 oMul f g) := me_bin op_mulA op2_mul ha hb
theorem me_mod (ha : ME X W a f) (hb : ME X W b g) : ME X W (.BinOp a .Mod b pos) (e2 oMod f g) := me_bin op_mod op2_mod ha hb
theorem me_div (ha : ME X W a f) (hb : ME X W b g) : ME X W (.BinOp a .FloorDiv b pos) (e2 oDiv f g) := me_bin op_fdiv op2_div ha hb
theorem me_pow (ha : ME X W a f) (hb : ME X W b g) : ME X W (.BinOp a .Pow b pos) (e2 oPow f g) := me_bin op_pow op2_pow ha hb
theorem me_neg (ha : ME X W a f) : ME X W (.UnaryOp .USub a pos) (e1 oNeg f) := me_un un_neg op1_neg ha

/-! comparisons -/
mutual
def toP : D → Option PyData
  | .non => some .none
  | .bl b => some (.bool b)
  | .int i => some (.int i)
  | .str x => some (.str x)
  | .lst xs => match toPs xs with
    | some ps => some (.list ps)
    | none => none
  | .tup xs => match toPs xs with
    | some ps => some (.tuple ps)
    | none => none
  | .scr ns => some (.list (ns.map .int))
  | _ => none
def toPs : List D → Option (List PyData)
  | [] => some []
  | x :: xs => match toP x, toPs xs with
    | some p, some ps => some (p :: ps)
    | _, _ => none
end
theorem dp_ints {K : PySem.W.Frag} {H : Hp} : ∀ ns : List Int, DpAll K H (ns.map V.int) (ns.map PyData.int)
  | [] => .nil
  | n :: ns => .cons (.int n) (dp_ints ns)
mutual
theorem Rep.dp {K : PySem.W.Frag} {S : Addr → Prop} {μ : List Addr} {H : Hp} : ∀ {v : V} {d : D} {p : PyData}, Rep K S μ H v d → toP d = some p → Dp K H v p
  | _, _, _, .non, e => by cases e; exact .non
  | _, _, _, .bl b, e => by cases e; exact .bl b
  | _, _, _, .int b, e => by cases e; exact .int b
  | _, _, _, .str b _ _, e => by cases e; exact .str b
  | _, _, _, .lst (ds := ds) _ h _ r, e => by
    unfold toP at e
    cases q : toPs ds with
    | none => rw [q] at e; cases e
    | some ps => rw [q] at e; cases e; exact .lst (.of h) (Reps.dp r q)
  | _, _, _, .tup (ds := ds) _ h _ r, e => by
    unfold toP at e
    cases q : toPs ds with
    | none => rw [q] at e; cases e
    | some ps => rw [q] at e; cases e; exact .tup (.of h) (Reps.dp r q)
  | _, _, _, .scr (ns := ns) _ h, e => by
    unfold toP at e
    cases e
    exact .lst h (dp_ints ns)
  | _, _, _, .dic .., e => by unfold toP at e; cases e
  | _, _, _, .cell .., e => by unfold toP at e; cases e
  | _, _, _, .ref .., e => by unfold toP at e; cases e
  | _, _, _, .ty .., e => by unfold toP at e; cases e
theorem Reps.dp {K : PySem.W.Frag} {S : Addr → Prop} {μ : List Addr} {H : Hp} : ∀ {v : List V} {d : List D} {p : List PyData}, Reps K S μ H v d → toPs d = some p → DpAll K H v p
  | _, _, _, .nil, e => by unfold toPs at e; cases e; exact .nil
  | _, _, _, .cons (d := d) (ds := ds) h t, e => by
    unfold toPs at e
    cases q : toP d with
    | none => rw [q] at e; cases e
    | some p => cases q' : toPs ds with
      | none => rw [q, q'] at e; cases e
      | some ps => rw [q, q'] at e; cases e; exact .cons (Rep.dp h q) (Reps.dp t q')
end

def pyEq (d e : D) : Option Bool := match toP d, toP e with
  | some p, some q => if SeqAt.shaped p = true ∧ SeqAt.shaped q = true then some (PyData.eqv p q) else none
  | _, _ => none
@[simp] def oEq (d e : D) : M D := match pyEq d e with
  | some b => M.ret (.bl b)
  | none => M.stuck
@[simp] def oNe (d e : D) : M D := match pyEq d e with
  | some b => M.ret (.bl (!b))
  | none => M.stuck
theorem pyEq_some {d e : D} {b : Bool} (h : pyEq d e = some b) : ∃ p q, toP d = some p ∧ toP e = some q ∧ SeqAt.shaped p = true ∧ SeqAt.shaped q = true ∧ b = PyData.eqv p q := by
  unfold pyEq at h
  cases q1 : toP d with
  | none => rw [q1] at h; cases h
  | some p => cases q2 : toP e with
    | none => rw [q1, q2] at h; cases h
    | some q =>
      rw [q1, q2] at h
      dsimp only at h
      by_cases c : SeqAt.shaped p = true ∧ SeqAt.shaped q = true
      · rw [if_pos c] at h; cases h; exact ⟨p, q, rfl, rfl, c.1, c.2, rfl⟩
      · rw [if_neg c] at h; cases h
theorem op2_eq : Op2 X (rEqD X.K) oEq := by
  intro W σ w x y d e Q F rx ry h
  unfold oEq at h
  cases q : pyEq d e with
  | none => rw [q] at h; exact h.no
  | some b =>
    rw [q] at h
    obtain ⟨p, p', h1, h2, h3, h4, rfl⟩ := pyEq_some q
    exact ⟨p, p', rx.dp h1, ry.dp h2, h3, h4, Ans.val F h (.bl _)⟩
theorem op2_ne : Op2 X (rNeD X.K) oNe := by
  intro W σ w x y d e Q F rx ry h
  unfold oNe at h
  cases q : pyEq d e with
  | none => rw [q] at h; exact h.no
  | some b =>
    rw [q] at h
    obtain ⟨p, p', h1, h2, h3, h4, rfl⟩ := pyEq_some q
    exact ⟨p, p', rx.dp h1, ry.dp h2, h3, h4, Ans.val F h (.bl _)⟩
@[simp] def oCmp (c : Int → Int → Bool) (s : List Nat → List Nat → Bool) : D → D → M D
  | .int i, .int j => M.ret (.bl (c i j))
  | .str x, .str y => M.ret (.bl (s x.cps.toList y.cps.toList))
  | _, _ => M.stuck
@[simp] def oLt : D → D → M D := oCmp (fun i j => decide (i < j)) (fun x y => decide (x < y))
@[simp] def oLe : D → D → M D := oCmp (fun i j => decide (i ≤ j)) (fun x y => !decide (y < x))
@[simp] def oGt : D → D → M D := oCmp (fun i j => decide (j < i)) (fun x y => decide (y < x))
@[simp] def oGe : D → D → M D := oCmp (fun i j => decide (j ≤ i)) (fun x y => !decide (x < y))
def rCmp (c : Int → Int → Bool) (s : List Nat → List Nat → Bool) : R2 := fun x y H Q => rI0 (fun i j => .bl (c i j)) x y H Q ∨ (∃ i j, x = .str i ∧ y = .str j ∧ Q (.bl (s i.cps.toList j.cps.toList)) H)
theorem op2_cmp {c : Int → Int → Bool} {s : List Nat → List Nat → Bool} : Op2 X (rCmp c s) (oCmp c s) := by
  intro W σ w x y d e Q F rx ry h
  cases rx with
  | int i => cases ry with
    | int j => exact .inl ⟨i, j, rfl, rfl, Ans.val F h (.bl _)⟩
    | _ => exact h.no
  | str x => cases ry with
    | str y => exact .inr ⟨x, y, rfl, rfl, Ans.val F h (.bl _)⟩
    | _ => exact h.no
  | _ => exact h.no
theorem op_ltA : OpR X (compareOp .Lt) (rCmp (fun i j => decide (i < j)) (fun x y => decide (x < y))) := OpR.or op_lt op_lt_str
theorem op_leA : OpR X (compareOp .LtE) (rCmp (fun i j => decide (i ≤ j)) (fun x y => !decide (y < x))) := OpR.or op_le op_le_str
theorem op_gtA : OpR X (compareOp .Gt) (rCmp (fun i j => decide (j < i)) (fun x y => decide (y < x))) := OpR.or op_gt op_gt_str
theorem op_geA : OpR X (compareOp .GtE) (rCmp (fun i j => decide (j ≤ i)) (fun x y => !decide (x < y))) := OpR.or op_ge op_ge_str
@[simp] def isNon : D → Bool
  | .non => true
  | _ => false
@[simp] def oIsN (d e : D) : M D := match e with
  | .non => M.ret (.bl (isNon d))
  | _ => M.stuck
@[simp] def oNotN (d e : D) : M D := match e with
  | .non => M.ret (.bl (!isNon d))
  | _ => M.stuck
theorem Rep.isNon {K : PySem.W.Frag} {S : Addr → Prop} {μ : List Addr} {H : Hp} {v : V} {d : D} (h : Rep K S μ H v d) : decide (v = .non) = isNon d := by
  cases h <;> first | rfl | exact decide_eq_false (fun z => nomatch z)
theorem op2_isN : Op2 X (fun x y H Q => y = .non ∧ Q (.bl (decide (x = .non))) H) oIsN := by
  intro W σ w x y d e Q F rx ry h
  cases ry with
  | non => rw [rx.isNon]; exact ⟨rfl, Ans.val F h (.bl _)⟩
  | _ => exact h.no
theorem op2_notN : Op2 X (fun x y H Q => y = .non ∧ Q (.bl (!decide (x = .non))) H) oNotN := by
  intro W σ w x y d e Q F rx ry h
  cases ry with
  | non => rw [rx.isNon]; exact ⟨rfl, Ans.val F h (.bl _)⟩
  | _ => exact h.no
/-- in, not in a list, a tuple -/
def anyEq (d : D) (xs : List D) : Option Bool := match toP d, toPs xs with
  | some p, some ps => if SeqAt.shaped p = true ∧ SeqAt.shaped (.list ps) = true then some (ps.any fun z => PyData.eqv z p) else none
  | _, _ => none
theorem anyEq_some {d : D} {xs : List D} {b : Bool} (h : anyEq d xs = some b) : ∃ p ps, toP d = some p ∧ toPs xs = some ps ∧ SeqAt.shaped p = true ∧ SeqAt.shaped (.list ps) = true ∧ b = ps.any fun z => PyData.eqv z p := by
  unfold anyEq at h
  cases q1 : toP d with
  | none => rw [q1] at h; cases h
  | some p => cases q2 : toPs xs with
    | none => rw [q1, q2] at h; cases h
    | some q =>
      rw [q1, q2] at h
      dsimp only at h
      by_cases c : SeqAt.shaped p = true ∧ SeqAt.shaped (.list q) = true
      · rw [if_pos c] at h; cases h; exact ⟨p, q, rfl, rfl, c.1, c.2, rfl⟩
      · rw [if_neg c] at h; cases h

/-! tests -/
@[simp] def asB : D → M Bool
  | .bl b => M.ret b
  | _ => M.stuck
@[simp] def tst (f : Env → M D) : Env → M Bool := fun ρ => (f ρ).bind asB
theorem asB_ok {K : PySem.W.Frag} {mg : Str → Option Value} {σ : L2.St} {w : Wd} {d : D} {x : V} {Q : Bool → Hp → Prop} (F : Fits K w) (h : Holds K mg W σ w (asB d w.ω) fun b w' => Q b w'.H) (r : w.rep K x d) : ∃ c, x = .bl c ∧ Q c w.H := by
  cases r with
  | bl b => exact ⟨b, rfl, Holds.here F h⟩
  | _ => exact h.no
theorem sub_tst : ∀ σ H Q, tMT X.K X.mg W (tst f) σ H Q → tM X.K X.mg W f σ H fun x H1 => ∃ c, x = .bl c ∧ Q c H1 := by
  rintro σ H Q ⟨w, ρ, rfl, F, E, h⟩
  exact ⟨w, ρ, rfl, F, E, Holds.thn h fun d w1 g1 F1 h1 x rx => asB_ok F1 h1 rx⟩
theorem mt_val (h : ME X W a f) (he : ∀ whole, isTrue a X.env whole = (do let v ← whole; standAt a.pos; holding [v] (truthy v)) := by intro _; rfl) : MT X W a (tst f) := PT.sub (pt_val h he) sub_tst
theorem mt_cmp {op : CmpOp} {r : R2} {o : D → D → M D} (ho : OpR X (compareOp op) r) (h2 : Op2 X r o) (ha : ME X W a f) (hb : ME X W b g) (hm : behindInMarks op b = false) : MT X W (.Compare a [op] [b] pos) (tst (e2 o f g)) :=
  PT.sub (pt_cmpR ho ha hb hm) fun σ H Q h => sub2 h2 _ _ _ (sub_tst σ H Q h)
@[simp] def bAnd (f g : Env → M Bool) : Env → M Bool := fun ρ => (f ρ).bind fun b => if b = true then g ρ else M.ret false
@[simp] def bOr (f g : Env → M Bool) : Env → M Bool := fun ρ => (f ρ).bind fun b => if b = true then M.ret true else g ρ
@[simp] def bNot (f : Env → M Bool) : Env → M Bool := fun ρ => (f ρ).bind fun b => M.ret (!b)
variable {u v : Env → M Bool} {rest : List Expr}
theorem mt_not (ha : MT X W a u) : MT X W (.UnaryOp .Not a pos) (bNot u) := by
  refine PT.sub (pt_not ha) ?_
  rintro σ H Q ⟨w, ρ, rfl, F, E, h⟩
  exact ⟨w, ρ, rfl, F, E, Holds.thn h fun b w1 g1 F1 h1 => Holds.here F1 h1⟩
theorem mw_and1 (ha : MT X W a u) : MW X W (.BoolOp .And [a] pos) u := pw_and1 ha
theorem mw_or1 (ha : MT X W a u) : MW X W (.BoolOp .Or [a] pos) u := pw_or1 ha
theorem mw_and (ha : MT X W a u) (hb : MW X W (.BoolOp .And (b :: rest) pos) v) : MW X W (.BoolOp .And (a :: b :: rest) pos) (bAnd u v) := by
  refine PW.sub (pw_and ha hb) ?_
  rintro σ H Q ⟨w, ρ, rfl, F, E, h⟩
  refine ⟨w, ρ, rfl, F, E, Holds.thn h fun b w1 g1 F1 h1 => ?_⟩
  cases b with
  | true => rw [if_pos rfl] at h1 ⊢; exact ⟨w1, ρ, rfl, F1, E.grow g1, h1⟩
  | false => rw [if_neg Bool.false_ne_true] at h1 ⊢; exact Holds.here F1 h1
theorem mw_or (ha : MT X W a u) (hb : MW X W (.BoolOp .Or (b :: rest) pos) v) : MW X W (.BoolOp .Or (a :: b :: rest) pos) (bOr u v) := by
  refine PW.sub (pw_or ha hb) ?_
  rintro σ H Q ⟨w, ρ, rfl, F, E, h⟩
  refine ⟨w, ρ, rfl, F, E, Holds.thn h fun b w1 g1 F1 h1 => ?_⟩
  cases b with
  | true => rw [if_pos rfl] at h1 ⊢; exact Holds.here F1 h1
  | false => rw [if_neg Bool.false_ne_true] at h1 ⊢; exact ⟨w1, ρ, rfl, F1, E.grow g1, h1⟩
theorem MW.mt {X : Cx} {W : WX} {e : Expr} {f : Env → M Bool} (h : MW X W e f) : MT X W e f := PW.pt h
@[simp] def vAnd (f g : Env → M D) : Env → M D := fun ρ => (f ρ).bind fun d => (asB d).bind fun b => if b = true then g ρ else M.ret (.bl false)
@[simp] def vOr (f g : Env → M D) : Env → M D := fun ρ => (f ρ).bind fun d => (asB d).bind fun b => if b = true then M.ret (.bl true) else g ρ
@[simp] def vNot (f : Env → M D) : Env → M D := fun ρ => (f ρ).bind fun d => (asB d).bind fun b => M.ret (.bl (!b))
theorem asB_thn {K : PySem.W.Frag} {mg : Str → Option Value} {σ : L2.St} {w : Wd} {d : D} {x : V} {k : Bool → M D} {P : D → Wd → Prop} (F : Fits K w) (h : Holds K mg W σ w ((asB d).bind k w.ω) P) (r : w.rep K x d) : ∃ c, x = .bl c ∧ Holds K mg W σ w (k c w.ω) P := by
  cases r with
  | bl b => exact ⟨b, rfl, h⟩
  | _ => exact Holds.no (α := D) h
theorem me_one {op : BoolOp} (h : ME X W a f) : ME X W (.BoolOp op [a] pos) f := pe_one h
theorem me_and (ha : ME X W a f) (hb : ME X W (.BoolOp .And (b :: rest) pos) g) : ME X W (.BoolOp .And (a :: b :: rest) pos) (vAnd f g) := by
  refine PE.sub (pe_and ha hb) ?_
  rintro σ H Q ⟨w, ρ, rfl, F, E, h⟩
  refine ⟨w, ρ, rfl, F, E, Holds.thn h fun d w1 g1 F1 h1 x rx => ?_⟩
  obtain ⟨c, rfl, h2⟩ := asB_thn F1 h1 rx
  refine ⟨c, rfl, ?_⟩
  cases c with
  | true => rw [if_pos rfl] at h2 ⊢; exact ⟨w1, ρ, rfl, F1, E.grow g1, h2⟩
  | false => rw [if_neg Bool.false_ne_true] at h2 ⊢; exact Ans.val F1 h2 (.bl _)
theorem me_or (ha : ME X W a f) (hb : ME X W (.BoolOp .Or (b :: rest) pos) g) : ME X W (.BoolOp .Or (a :: b :: rest) pos) (vOr f g) := by
  refine PE.sub (pe_or ha hb) ?_
  rintro σ H Q ⟨w, ρ, rfl, F, E, h⟩
  refine ⟨w, ρ, rfl, F, E, Holds.thn h fun d w1 g1 F1 h1 x rx => ?_⟩
  obtain ⟨c, rfl, h2⟩ := asB_thn F1 h1 rx
  refine ⟨c, rfl, ?_⟩
  cases c with
  | true => rw [if_pos rfl] at h2 ⊢; exact Ans.val F1 h2 (.bl _)
  | false => rw [if_neg Bool.false_ne_true] at h2 ⊢; exact ⟨w1, ρ, rfl, F1, E.grow g1, h2⟩
theorem me_not (ha : ME X W a f) : ME X W (.UnaryOp .Not a pos) (vNot f) := by
  refine PE.sub (pe_not ha) ?_
  rintro σ H Q ⟨w, ρ, rfl, F, E, h⟩
  refine ⟨w, ρ, rfl, F, E, Holds.thn h fun d w1 g1 F1 h1 x rx => ?_⟩
  obtain ⟨c, rfl, h2⟩ := asB_thn F1 h1 rx
  exact ⟨c, rfl, Ans.val F1 h2 (.bl _)⟩
@[simp] def eIf (c : Env → M Bool) (f g : Env → M D) : Env → M D := fun ρ => (c ρ).bind fun b => if b = true then f ρ else g ρ
theorem me_if {c : Expr} (hc : MT X W c u) (ha : ME X W a f) (hb : ME X W b g) : ME X W (.IfExp c a b pos) (eIf u f g) := by
  refine PE.sub (pe_ifExp hc ha hb) ?_
  rintro σ H Q ⟨w, ρ, rfl, F, E, h⟩
  refine ⟨w, ρ, rfl, F, E, Holds.thn h fun b w1 g1 F1 h1 => ?_⟩
  cases b with
  | true => rw [if_pos rfl] at h1 ⊢; exact ⟨w1, ρ, rfl, F1, E.grow g1, h1⟩
  | false => rw [if_neg Bool.false_ne_true] at h1 ⊢; exact ⟨w1, ρ, rfl, F1, E.grow g1, h1⟩
/-- a op b op' c -/
@[simp] def eChain (o o' : D → D → M D) (f g h : Env → M D) : Env → M D := fun ρ => (f ρ).bind fun d => (g ρ).bind fun e => (o d e).bind fun z => (asB z).bind fun b => if b = true then (h ρ).bind fun z' => o' e z' else M.ret (.bl false)

/-! arguments, displays -/
@[simp] def aNil : Env → M (List D) := fun _ => M.ret []
@[simp] def aCons (f : Env → M D) (r : Env → M (List D)) : Env → M (List D) := fun ρ => (f ρ).bind fun d => (r ρ).bind fun ds => M.ret (d :: ds)
theorem ma_nil : MA X W [] aNil := by
  refine PA.sub pa_nil ?_
  rintro σ H Q ⟨w, ρ, rfl, F, E, h⟩
  exact Holds.here F h [] .nil
variable {es : List Expr} {fs : Env → M (List D)}
theorem ma_cons (ha : ME X W a f) (hr : MA X W es fs) (hs : starEach (a :: es) X.env = (false, eval a X.env) :: starEach es X.env := by rfl) : MA X W (a :: es) (aCons f fs) := by
  refine PA.sub (pa_cons ha hr hs) ?_
  rintro σ H Q ⟨w, ρ, rfl, F, E, h⟩
  refine ⟨w, ρ, rfl, F, E, Holds.thn h fun d w1 g1 F1 h1 x rx => ?_⟩
  refine ⟨w1, ρ, rfl, F1, E.grow g1, Holds.thn h1 fun ds w2 g2 F2 h2 xs rs => ?_⟩
  exact Holds.here F2 h2 (x :: xs) (.cons (g2.rep rx) rs)
@[simp] def eTup (fs : Env → M (List D)) : Env → M D := eN (fun ds => if ds.length ≤ 1000 then M.ret (.tup ds) else M.stuck) fs
@[simp] def eLst (fs : Env → M (List D)) : Env → M D := eN (fun ds => if ds.length ≤ 1000 then M.ret (.lst ds) else M.stuck) fs
theorem sz1000 {n : Nat} (h : n ≤ 1000) : n ≤ sizeLine := Nat.le_trans h (by decide)
theorem me_tup {k : Nat} (h : MA X W es fs) : ME X W (.Tuple es k pos) (eTup fs) := by
  refine PE.sub (pe_tup h) ?_
  rintro σ H Q ⟨w, ρ, rfl, F, E, h⟩
  refine ⟨w, ρ, rfl, F, E, Holds.thn h fun ds w1 g1 F1 h1 xs rs => ?_⟩
  obtain ⟨c, h1⟩ := Holds.ite h1
  have c' : xs.length ≤ sizeLine := sz1000 (by rw [rs.length]; exact c)
  exact ⟨c', Ans.tup F1 h1 rs c'⟩
theorem me_lst (h : MA X W es fs) : ME X W (.List es pos) (eLst fs) := by
  refine PE.sub (pe_lst h) ?_
  rintro σ H Q ⟨w, ρ, rfl, F, E, h⟩
  refine ⟨w, ρ, rfl, F, E, Holds.thn h fun ds w1 g1 F1 h1 xs rs => ?_⟩
  obtain ⟨c, h1⟩ := Holds.ite h1
  have c' : xs.length ≤ sizeLine := sz1000 (by rw [rs.length]; exact c)
  exact ⟨c', Ans.lst F1 h1 rs c'⟩
theorem me_callB {id : String} {r : List V → Hp → VK → Prop} {o : List D → M D} {x : Str} {p : Pos} (hc : CallR X (.builtin id) r) (h2 : OpN X r o) (hg : Gl X x) (hm : X.mg x = none) (hv : bootBuiltins x = some (.builtin id)) (ha : MA X W (a :: es) fs)
    (hn : x ≠ "__name__" := by decide) (hdb : (x == ("__debug__" : Str)) = false := by decide) (he : starEach (a :: es) X.env = (false, eval a X.env) :: starEach es X.env := by rfl) (hpl : (backTo pos (starEach es X.env)).any (·.1) = false := by rfl) : ME X W (.Call (.Name x p) (a :: es) [] pos) (eN o fs) := by
  refine PE.sub (pe_callB hc hg hm hv ha hn hdb he hpl) ?_
  rintro σ H Q ⟨w, ρ, rfl, F, E, h⟩
  exact ⟨w, ρ, rfl, F, E, Holds.thn h fun ds w1 g1 F1 h1 xs rs => h2 W σ w1 xs ds Q F1 rs h1⟩
theorem me_callTy {T : String} {r : List V → Hp → VK → Prop} {o : List D → M D} {x : Str} {p : Pos} (hc : CallR X (.type T) r) (h2 : OpN X r o) (hg : Gl X x) (hm : X.mg x = none) (hv : bootBuiltins x = some (.type T)) (ha : MA X W (a :: es) fs)
    (hn : x ≠ "__name__" := by decide) (hdb : (x == ("__debug__" : Str)) = false := by decide) (he : starEach (a :: es) X.env = (false, eval a X.env) :: starEach es X.env := by rfl) (hpl : (backTo pos (starEach es X.env)).any (·.1) = false := by rfl) : ME X W (.Call (.Name x p) (a :: es) [] pos) (eN o fs) := by
  refine PE.sub (pe_callTy hc hg hm hv ha hn hdb he hpl) ?_
  rintro σ H Q ⟨w, ρ, rfl, F, E, h⟩
  exact ⟨w, ρ, rfl, F, E, Holds.thn h fun ds w1 g1 F1 h1 xs rs => h2 W σ w1 xs ds Q F1 rs h1⟩
end
end Mi
namespace Mi
open PySem PySem.Spec PyProof.Rows L2
variable [Tb]

section
variable {X : Cx} {W : WX} {a b c : Expr} {f g h : Env → M D} {pos : Pos}
theorem sub_chain {r r' : R2} {o o' : D → D → M D} (h2 : Op2 X r o) (h2' : Op2 X r' o') : ∀ σ H Q, tM X.K X.mg W (eChain o o' f g h) σ H Q → tChain r r' (tM X.K X.mg W f) (tM X.K X.mg W g) (tM X.K X.mg W h) σ H Q := by
  rintro σ H Q ⟨w, ρ, rfl, F, E, q⟩
  refine ⟨w, ρ, rfl, F, E, Holds.thn q fun d w1 g1 F1 q1 x rx => ?_⟩
  refine ⟨w1, ρ, rfl, F1, E.grow g1, Holds.thn q1 fun e w2 g2 F2 q2 y ry => ?_⟩
  refine h2 W σ w2 x y d e _ F2 (g2.rep rx) ry (Holds.thn q2 fun z w3 g3 F3 q3 v rv => ?_)
  obtain ⟨k, rfl, q4⟩ := asB_thn F3 q3 rv
  refine ⟨k, rfl, ?_⟩
  cases k with
  | true =>
    rw [if_pos rfl] at q4 ⊢
    refine ⟨w3, ρ, rfl, F3, (E.grow g1).grow (g2.trans g3), Holds.thn q4 fun z' w4 g4 F4 q5 v' rv' => ?_⟩
    exact h2' W σ w4 y v' e z' Q F4 ((g3.trans g4).rep ry) rv' q5
  | false => rw [if_neg Bool.false_ne_true] at q4 ⊢; exact Ans.val F3 q4 (.bl _)
theorem me_chain {op op' : CmpOp} {r r' : R2} {o o' : D → D → M D} (ho : OpR X (compareOp op) r) (ho' : OpR X (compareOp op') r') (h2 : Op2 X r o) (h2' : Op2 X r' o') (ha : ME X W a f) (hb : ME X W b g) (hc : ME X W c h)
    (hm : lastMarks [op, op'] [b, c] = false := by with_unfolding_all rfl) : ME X W (.Compare a [op, op'] [b, c] pos) (eChain o o' f g h) := PE.sub (pe_chain ho ho' ha hb hc hm) (sub_chain h2 h2')
theorem mt_chain {op op' : CmpOp} {r r' : R2} {o o' : D → D → M D} (ho : OpR X (compareOp op) r) (ho' : OpR X (compareOp op') r') (h2 : Op2 X r o) (h2' : Op2 X r' o') (ha : ME X W a f) (hb : ME X W b g) (hc : ME X W c h)
    (hm : lastMarks [op, op'] [b, c] = false := by with_unfolding_all rfl) : MT X W (.Compare a [op, op'] [b, c] pos) (tst (eChain o o' f g h)) :=
  PT.sub (pt_chain ho ho' ha hb hc hm) fun σ H Q q => sub_chain h2 h2' _ _ _ (sub_tst σ H Q q)
end

/-! ### statements -/
inductive Out where
  | next (ρ : Env) (ω : List Cell) | ret (d : D) (ω : List Cell) | brk (ρ : Env) (ω : List Cell) | cont (ρ : Env) (ω : List Cell)
  | exc (c : Str) (ρ : Env) (ω : List Cell) | stuck
abbrev SM := Env → List Cell → Out
section
variable (K : PySem.W.Frag) (mg : Str → Option Value) (W : WX)
def HoldsS (w : Wd) (r : Out) (D : Ends) : Prop := match r with
  | .next ρ' ω' => ∀ w' σ', Grow w w' → Fits K w' → w'.ω = ω' → EnvRep K w' ρ' σ' → D.nx σ' w'.H
  | .ret d ω' => ∀ w' v, Grow w w' → Fits K w' → w'.ω = ω' → w'.rep K v d → D.rt v w'.H
  | .brk ρ' ω' => ∀ w' σ', Grow w w' → Fits K w' → w'.ω = ω' → EnvRep K w' ρ' σ' → D.bk σ' w'.H
  | .cont ρ' ω' => ∀ w' σ', Grow w w' → Fits K w' → w'.ω = ω' → EnvRep K w' ρ' σ' → D.ct σ' w'.H
  | .exc c ρ' ω' => ∀ w' σ' u, Grow w w' → Fits K w' → w'.ω = ω' → EnvRep K w' ρ' σ' → mg c = some u → W u none σ' w'.H
  | .stuck => False
def tMS (f : SM) : TS := fun D σ H => ∃ w ρ, w.H = H ∧ Fits K w ∧ EnvRep K w ρ σ ∧ HoldsS K mg W w (f ρ w.ω) D
end
def MS (X : Cx) (W : WX) (st : Stmt) (f : SM) : Prop := PS X st (tMS X.K X.mg W f)
def MSs (X : Cx) (W : WX) (st : List Stmt) (f : SM) : Prop := PSs X st (tMS X.K X.mg W f)
section
variable {K : PySem.W.Frag} {mg : Str → Option Value} {W : WX}
theorem HoldsS.grow {w w1 : Wd} {r : Out} {D : Ends} (g : Grow w w1) (h : HoldsS K mg W w r D) : HoldsS K mg W w1 r D := by
  cases r with
  | next ρ ω => exact fun w' σ' g' f e x => h w' σ' (g.trans g') f e x
  | ret ρ ω => exact fun w' σ' g' f e x => h w' σ' (g.trans g') f e x
  | brk ρ ω => exact fun w' σ' g' f e x => h w' σ' (g.trans g') f e x
  | cont ρ ω => exact fun w' σ' g' f e x => h w' σ' (g.trans g') f e x
  | exc c ρ ω => exact fun w' σ' u g' f e x m => h w' σ' u (g.trans g') f e x m
  | stuck => exact h
theorem HoldsS.no {w : Wd} {D : Ends} {R : Prop} (h : HoldsS K mg W w .stuck D) : R := h.elim
theorem HoldsS.next' {w : Wd} {ρ : Env} {σ : L2.St} {D : Ends} (F : Fits K w) (E : EnvRep K w ρ σ) (h : HoldsS K mg W w (.next ρ w.ω) D) : D.nx σ w.H := h w σ (Grow.refl w) F rfl E
theorem HoldsS.ret' {w : Wd} {d : D} {v : V} {D : Ends} (F : Fits K w) (E : w.rep K v d) (h : HoldsS K mg W w (.ret d w.ω) D) : D.rt v w.H := h w v (Grow.refl w) F rfl E
/-- first a value, then a statement -/
def thenS {α : Type} (m : Env → M α) (k : α → SM) : SM := fun ρ ω => match m ρ ω with
  | .ok a ω1 => k a ρ ω1
  | .raise c ω1 => .exc c ρ ω1
  | .stuck => .stuck
theorem HoldsS.thn {α : Type} {w : Wd} {ρ : Env} {σ : L2.St} {m : Env → M α} {k : α → SM} {D : Ends} {P : α → Wd → Prop} (E : EnvRep K w ρ σ) (h : HoldsS K mg W w (thenS m k ρ w.ω) D)
    (hp : ∀ a w1, Grow w w1 → Fits K w1 → EnvRep K w1 ρ σ → HoldsS K mg W w1 (k a ρ w1.ω) D → P a w1) : Holds K mg W σ w (m ρ w.ω) P := by
  unfold thenS at h
  cases q : m ρ w.ω with
  | ok a ω =>
    rw [q] at h
    intro w1 g1 f1 e1
    subst e1
    exact hp a w1 g1 f1 (E.grow g1) (h.grow g1)
  | raise c ω => rw [q] at h; exact fun w' u g' f e m => h w' σ u g' f e (E.grow g') m
  | stuck => rw [q] at h; exact h
end

section
variable {X : Cx} {W : WX} {a b : Expr} {f g : Env → M D} {u : Env → M Bool} {pos : Pos} {s t : SM} {st : Stmt} {sts sts' : List Stmt}
@[simp] def sNext : SM := fun ρ ω => .next ρ ω
@[simp] def sBrk : SM := fun ρ ω => .brk ρ ω
@[simp] def sCont : SM := fun ρ ω => .cont ρ ω
def sSeq (s t : SM) : SM := fun ρ ω => match s ρ ω with
  | .next ρ' ω' => t ρ' ω'
  | o => o
@[simp] def sSet (i : Nat) (f : Env → M D) : SM := thenS f fun d ρ ω => .next (ρ.set i (some d)) ω
@[simp] def sRet (f : Env → M D) : SM := thenS f fun d _ ω => .ret d ω
@[simp] def sRetN : SM := fun _ ω => .ret .non ω
@[simp] def sExpr (f : Env → M D) : SM := thenS f fun _ ρ ω => .next ρ ω
@[simp] def sIf (u : Env → M Bool) (s t : SM) : SM := thenS u fun b => if b = true then s else t
@[simp] def sRaise (c : Str) : SM := fun ρ ω => .exc c ρ ω
theorem mss_nil : MSs X W [] sNext := by
  refine PSs.sub pss_nil ?_
  rintro D σ H ⟨w, ρ, rfl, F, E, q⟩
  exact q.next' F E
theorem ms_pass : MS X W (.Pass pos) sNext := by
  refine PS.sub ps_pass ?_
  rintro D σ H ⟨w, ρ, rfl, F, E, q⟩
  exact q.next' F E
theorem ms_brk : MS X W (.Break pos) sBrk := by
  refine PS.sub ps_break ?_
  rintro D σ H ⟨w, ρ, rfl, F, E, q⟩
  exact q w σ (Grow.refl w) F rfl E
theorem ms_cont : MS X W (.Continue pos) sCont := by
  refine PS.sub ps_continue ?_
  rintro D σ H ⟨w, ρ, rfl, F, E, q⟩
  exact q w σ (Grow.refl w) F rfl E
theorem sub_seq : ∀ D σ H, tMS X.K X.mg W (sSeq s t) D σ H → tSeq (tMS X.K X.mg W s) (tMS X.K X.mg W t) D σ H := by
  rintro D σ H ⟨w, ρ, rfl, F, E, q⟩
  refine ⟨w, ρ, rfl, F, E, ?_⟩
  unfold sSeq at q
  cases z : s ρ w.ω with
  | next ρ' ω' =>
    rw [z] at q
    intro w' σ' g' F' e' E'
    subst e'
    exact ⟨w', ρ', rfl, F', E', q.grow g'⟩
  | ret d ω => rw [z] at q; exact q
  | brk d ω => rw [z] at q; exact q
  | cont d ω => rw [z] at q; exact q
  | exc c d ω => rw [z] at q; exact q
  | stuck => rw [z] at q; exact q
theorem mss_cons (h1 : MS X W st s) (h2 : MSs X W sts t) : MSs X W (st :: sts) (sSeq s t) := PSs.sub (pss_cons h1 h2) sub_seq
theorem mss_one (h1 : MS X W st s) : MSs X W [st] s := pss_one h1
theorem ms_ret (h1 : ME X W a f) : MS X W (.Return (some a) pos) (sRet f) := by
  refine PS.sub (ps_ret h1) ?_
  rintro D σ H ⟨w, ρ, rfl, F, E, q⟩
  exact ⟨w, ρ, rfl, F, E, HoldsS.thn E q fun d w1 g1 F1 E1 q1 v rv => q1.ret' F1 rv⟩
theorem ms_retN : MS X W (.Return none pos) sRetN := by
  refine PS.sub ps_retN ?_
  rintro D σ H ⟨w, ρ, rfl, F, E, q⟩
  exact q.ret' F .non
theorem ms_expr (h1 : ME X W a f) (hs : swapsWith a none pos.line X.env = pure false := by rfl) : MS X W (.Expr a pos) (sExpr f) := by
  refine PS.sub (ps_expr h1 hs) ?_
  rintro D σ H ⟨w, ρ, rfl, F, E, q⟩
  exact ⟨w, ρ, rfl, F, E, HoldsS.thn E q fun d w1 g1 F1 E1 q1 v rv => q1.next' F1 E1⟩
theorem ms_if {st1 st2 : List Stmt} (hc : MT X W a u) (ha : MSs X W st1 s) (hb : MSs X W st2 t) : MS X W (.If a st1 st2 pos) (sIf u s t) := by
  refine PS.sub (ps_if hc ha hb) ?_
  rintro D σ H ⟨w, ρ, rfl, F, E, q⟩
  refine ⟨w, ρ, rfl, F, E, HoldsS.thn E q fun b w1 g1 F1 E1 q1 => ?_⟩
  cases b with
  | true => rw [if_pos rfl] at q1 ⊢; exact ⟨w1, ρ, rfl, F1, E1, q1⟩
  | false => rw [if_neg Bool.false_ne_true] at q1 ⊢; exact ⟨w1, ρ, rfl, F1, E1, q1⟩
theorem ms_set {i : Nat} {x : Str} {pos' : Pos} (hN : X.N.Nodup) (hi : X.N[i]? = some x) (hx : Loc X.env.scope x) (he : ME X W a f) (hs : swapsWith a (some (.Name x pos')) pos.line X.env = pure false := by rfl) (hf : X.fn x = true ∨ X.env.scope.names.lookup x = some .local := by first | exact .inl rfl | exact .inr rfl | assumption) :
    MS X W (.Assign [.Name x pos'] a pos) (sSet i f) := by
  refine PS.sub (ps_set hN hi hx he hs hf) ?_
  rintro D σ H ⟨w, ρ, rfl, F, E, q⟩
  exact ⟨w, ρ, rfl, F, E, HoldsS.thn E q fun d w1 g1 F1 E1 q1 v rv => q1.next' F1 (E1.set rv)⟩
theorem ms_raise {C : Addr} {x m : Str} {j : Nat} {p p2 pos' : Pos} {B newId initId : String} {bmB : List Value} (hcalm : X.calm = true) (tk : Takes X W) (Fb : ExcBaseFacts B newId initId bmB) (q : PySem.W.excIn X.K C bmB newId = true) (gC : X.mg x = some (.ref C)) (kC : PySem.W.keepIn X.K (.ref C) = true) (r : Raises X (.ref C)) (hg : Gl X x)
    (hdb : (x == ("__debug__" : Str)) = false := by decide) : MS X W (.Raise (some (.Call (.Name x p) [.Constant (.str m) j p2] [] pos')) none pos) (sRaise x) := by
  refine PS.sub (ps_raise hcalm tk (pmk_own Fb q gC kC r hg hdb)) ?_
  rintro D σ H ⟨w, ρ, rfl, F, E, q⟩
  exact q w σ (.ref C) (Grow.refl w) F rfl E gC

/-! targets: vs the slots that are stored -/
theorem wipe_in {σ : L2.St} {i : Nat} : ∀ {vs : List Nat}, i ∈ vs → (wipe σ vs)[i]? = if i < σ.length then some none else none
  | [], h => by cases h
  | v :: vs, h => by
    unfold wipe
    by_cases e : v = i
    · subst e
      rw [List.getElem?_set]
      simp [wipe_length]
    · rw [List.getElem?_set_ne e]
      exact wipe_in (List.mem_of_ne_of_mem (fun z => e z.symm) h)
theorem wipe_not {σ : L2.St} {i : Nat} : ∀ {vs : List Nat}, i ∉ vs → (wipe σ vs)[i]? = σ[i]?
  | [], _ => rfl
  | v :: vs, h => by
    unfold wipe
    rw [List.getElem?_set_ne (fun e => h (by simp [e]))]
    exact wipe_not fun z => h (List.mem_cons_of_mem _ z)
theorem wipe_eq {σ σ' : L2.St} {vs : List Nat} (hl : σ'.length = σ.length) (h : ∀ i, i ∉ vs → σ'[i]? = σ[i]?) : wipe σ' vs = wipe σ vs := by
  apply List.ext_getElem?
  intro i
  by_cases hi : i ∈ vs
  · rw [wipe_in hi, wipe_in hi, hl]
  · rw [wipe_not hi, wipe_not hi]; exact h i hi
theorem wipe_set {σ : L2.St} {vs : List Nat} {i : Nat} {o : Option V} (hi : i ∈ vs) : wipe (σ.set i o) vs = wipe σ vs :=
  wipe_eq (by simp) fun j hj => List.getElem?_set_ne fun e => hj (by rw [← e]; exact hi)
theorem wipe_wipe {σ : L2.St} {vs : List Nat} : wipe (wipe σ vs) vs = wipe σ vs := wipe_eq (wipe_length σ vs) fun _ hj => wipe_not hj
def tMG (K : PySem.W.Frag) (vs : List Nat) (g : D → Env → Option Env) : TG := fun v σ H Q => ∃ w ρ d ρ', w.H = H ∧ Fits K w ∧ EnvRep K w ρ σ ∧ w.rep K v d ∧ g d ρ = some ρ' ∧ ∀ σ', EnvRep K w ρ' σ' → wipe σ' vs = wipe σ vs → Q σ' H
def MG (X : Cx) (vs : List Nat) (tg : Expr) (g : D → Env → Option Env) : Prop := PG X tg (tMG X.K vs g)
@[simp] def gN (i : Nat) : D → Env → Option Env := fun d ρ => some (ρ.set i (some d))
theorem mg_name {vs : List Nat} {i : Nat} {x : Str} (hN : X.N.Nodup) (hi : X.N[i]? = some x) (hx : Loc X.env.scope x) (hv : i ∈ vs := by decide) (hf : X.fn x = true ∨ X.env.scope.names.lookup x = some .local := by first | exact .inl rfl | exact .inr rfl | assumption) : MG X vs (.Name x pos) (gN i) := by
  refine PG.sub (pg_name hN hi hx hf) ?_
  rintro v σ H Q ⟨w, ρ, d, ρ', rfl, F, E, r, e, q⟩
  cases e
  exact q _ (E.set r) (wipe_set hv)
def tMGs (K : PySem.W.Frag) (vs : List Nat) (g : List D → Env → Option Env) : TGs := fun us σ H Q => ∃ w ρ ds ρ', w.H = H ∧ Fits K w ∧ EnvRep K w ρ σ ∧ w.reps K us ds ∧ g ds ρ = some ρ' ∧ ∀ σ', EnvRep K w ρ' σ' → wipe σ' vs = wipe σ vs → Q σ' H
def MGs (X : Cx) (vs : List Nat) (tg : List Expr) (g : List D → Env → Option Env) : Prop := PGs X tg (tMGs X.K vs g)
@[simp] def gsNil : List D → Env → Option Env := fun ds ρ => match ds with
  | [] => some ρ
  | _ => none
@[simp] def gsCons (g : D → Env → Option Env) (gs : List D → Env → Option Env) : List D → Env → Option Env := fun ds ρ => match ds with
  | d :: ds => match g d ρ with
    | some ρ' => gs ds ρ'
    | none => none
  | [] => none
theorem mgs_nil {vs : List Nat} : MGs X vs [] gsNil := by
  refine ⟨fun pins s σ H ws us Q I rr h => pgs_nil.run pins s σ H ws us Q I rr ?_⟩
  obtain ⟨w, ρ, ds, ρ', rfl, F, E, r, e, q⟩ := h
  cases r with
  | nil => cases e; exact ⟨rfl, q _ E rfl⟩
  | cons _ _ => cases e
theorem mgs_cons {vs : List Nat} {es : List Expr} {g1 : D → Env → Option Env} {gs : List D → Env → Option Env} (h1 : MG X vs a g1) (h2 : MGs X vs es gs)
    (hs : (assignEach (a :: es) X.env).map (·.2) = assign a X.env :: (assignEach es X.env).map (·.2) := by rfl) : MGs X vs (a :: es) (gsCons g1 gs) := by
  refine ⟨fun pins s σ H ws us Q I rr h => (pgs_cons h1 h2 hs).run pins s σ H ws us Q I rr ?_⟩
  obtain ⟨w, ρ, ds, ρ', rfl, F, E, r, e, q⟩ := h
  cases r with
  | nil => cases e
  | @cons v ws d ds r rs =>
    dsimp only [gsCons] at e
    cases z : g1 d ρ with
    | none => rw [z] at e; cases e
    | some ρ1 =>
      rw [z] at e
      exact ⟨_, _, rfl, w, ρ, d, ρ1, rfl, F, E, r, z, fun σ1 E1 e1 => ⟨w, ρ1, ds, ρ', rfl, F, E1, rs, e, fun σ2 E2 e2 => q σ2 E2 (e2.trans e1)⟩⟩
/-- (a, b, ..) = a tuple -/
@[simp] def gTp (n : Nat) (gs : List D → Env → Option Env) : D → Env → Option Env := fun d ρ => match d with
  | .tup ds => if ds.length = n then gs ds ρ else none
  | _ => none
theorem mg_tup {vs : List Nat} {es : List Expr} {k : Nat} {gs : List D → Env → Option Env} {n : Nat} (hc : X.calm = true) (h : MGs X vs es gs)
    (hn : (assignEach es X.env).length = n := by rfl) (hst : (assignEach es X.env).findIdx? (·.1) = none := by rfl) : MG X vs (.Tuple es k pos) (gTp n gs) := by
  refine PG.sub (pg_tup hc h hn hst) ?_
  rintro v σ H Q ⟨w, ρ, d, ρ', rfl, F, E, r, e, q⟩
  cases r with
  | @tup a us ds h1 h2 h3 h4 =>
    dsimp only [gTp] at e
    by_cases c : ds.length = n
    · rw [if_pos c] at e
      exact ⟨a, us, rfl, .of h2, h4.length.trans c, w, ρ, ds, ρ', rfl, F, E, h4, e, q⟩
    · rw [if_neg c] at e; cases e
  | _ => cases e
def sAsg (g : D → Env → Option Env) (f : Env → M D) : SM := thenS f fun d ρ ω => match g d ρ with
  | some ρ' => .next ρ' ω
  | none => .stuck
theorem ms_asg {vs : List Nat} {tg : Expr} {g : D → Env → Option Env} (he : ME X W a f) (hg : MG X vs tg g) (hs : swapsWithSole [tg] a pos.line X.env = pure false := by rfl) (hw : swappedStores [tg] a X.env = pure none := by rfl)
    (h1 : (assignEach [tg] X.env).map (·.2) = [assign tg X.env] := by rfl) : MS X W (.Assign [tg] a pos) (sAsg g f) := by
  refine PS.sub (ps_asg he hg hs hw h1) ?_
  rintro D σ H ⟨w, ρ, rfl, F, E, q⟩
  refine ⟨w, ρ, rfl, F, E, HoldsS.thn E q fun d w1 g1 F1 E1 q1 v rv => ?_⟩
  cases z : g d ρ with
  | none => rw [z] at q1; exact q1.no
  | some ρ' =>
    rw [z] at q1
    exact ⟨w1, ρ, d, ρ', rfl, F1, E1, rv, z, fun σ' E' _ => q1.next' F1 E'⟩

/-! iterations -/
structure Covers (K : PySem.W.Frag) (w : Wd) (J : It) (ds : List D) : Prop where
  go : ∀ w', Grow w w' → Fits K w' → ∀ i, i < ds.length → J.go i w'.H
  yld : ∀ w', Grow w w' → Fits K w' → ∀ (i : Nat) (d : D) (x : V) (H' : Hp), ds[i]? = some d → J.yld i w'.H x H' → ∃ w'', Grow w' w'' ∧ Fits K w'' ∧ w''.ω = w'.ω ∧ w''.H = H' ∧ w''.rep K x d
  stop : ∀ w', Grow w w' → Fits K w' → ∀ i, ds.length ≤ i → J.stop i w'.H
def tMI (K : PySem.W.Frag) (mg : Str → Option Value) (W : WX) (f : Env → M (List D)) : TI := fun σ H R => ∃ w ρ, w.H = H ∧ Fits K w ∧ EnvRep K w ρ σ ∧ Holds K mg W σ w (f ρ w.ω) fun ds w' => ∀ J, Covers K w' J ds → R J w'.H
def MI (X : Cx) (W : WX) (tg iter : Expr) (f : Env → M (List D)) : Prop := PI X tg iter (tMI X.K X.mg W f)
def loopS (g : D → Env → Option Env) (s : SM) : List D → SM
  | [], ρ, ω => .next ρ ω
  | d :: ds, ρ, ω => match g d ρ with
    | none => .stuck
    | some ρ1 => match s ρ1 ω with
      | .next ρ2 ω2 => loopS g s ds ρ2 ω2
      | .cont ρ2 ω2 => loopS g s ds ρ2 ω2
      | .brk ρ2 ω2 => .next ρ2 ω2
      | o => o
def sFor (fi : Env → M (List D)) (g : D → Env → Option Env) (s : SM) : SM := thenS fi fun ds => loopS g s ds
theorem ms_for {vs : List Nat} {tg iter : Expr} {body : List Stmt} {fi : Env → M (List D)} {g : D → Env → Option Env} (hp : PassesOwn (model X.prog X.w) X.A X.env X.xe) (hc : X.calm = true) (hi : MI X W tg iter fi) (hg : MG X vs tg g) (hb : MSs X W body s)
    (hs : ∀ x, foldedSetIterable iter X.env x = pure x := by intro _; rfl) : MS X W (.For tg iter body [] pos) (sFor fi g s) := by
  refine PS.sub (ps_for hp hc hi hg hb hs) ?_
  rintro D σ H ⟨w, ρ, rfl, F, E, q⟩
  refine ⟨w, ρ, rfl, F, E, HoldsS.thn E q fun ds w1 g1 F1 E1 q1 J C => ?_⟩
  refine ⟨fun i m σ H => m = ds.length - i ∧ i ≤ ds.length ∧ ∃ w' ρ', w'.H = H ∧ Grow w1 w' ∧ Fits X.K w' ∧ EnvRep X.K w' ρ' σ ∧ HoldsS X.K X.mg W w' (loopS g s (ds.drop i) ρ' w'.ω) D, ⟨ds.length, by simp, Nat.zero_le _, w1, ρ, rfl, Grow.refl _, F1, E1, q1⟩, ?_⟩
  rintro i m σ H ⟨rfl, hi, w', ρ', rfl, g', F', E', q'⟩
  by_cases hlt : i < ds.length
  · refine .inr ⟨C.go w' g' F' i hlt, fun σ' H' => ∃ w2 ρ2, w2.H = H' ∧ Grow w1 w2 ∧ Fits X.K w2 ∧ EnvRep X.K w2 ρ2 σ' ∧ HoldsS X.K X.mg W w2 (loopS g s (ds.drop (i + 1)) ρ2 w2.ω) D, ?_, ?_⟩
    · rintro σ' H' ⟨w2, ρ2, h1, h2, h3, h4, h5⟩
      exact ⟨ds.length - (i + 1), by omega, rfl, hlt, w2, ρ2, h1, h2, h3, h4, h5⟩
    · intro x H' y
      have e : ds[i]? = some ds[i] := List.getElem?_eq_getElem hlt
      obtain ⟨w2, g2, F2, eω, rfl, r2⟩ := C.yld w' g' F' i _ x H' e y
      rw [List.drop_eq_getElem_cons hlt] at q'
      unfold loopS at q'
      cases z : g ds[i] ρ' with
      | none => rw [z] at q'; exact q'.no
      | some ρ1 =>
        rw [z] at q'
        refine ⟨w2, ρ', ds[i], ρ1, rfl, F2, E'.grow g2, r2, z, fun σ2 E2 _ => ⟨w2, ρ1, rfl, F2, E2, ?_⟩⟩
        dsimp only at q'
        rw [eω]
        cases z2 : s ρ1 w'.ω with
        | next ρ2 ω2 =>
          rw [z2] at q'
          intro w3 σ3 g3 F3 e3 E3
          subst e3
          exact ⟨w3, ρ2, rfl, (g'.trans g2).trans g3, F3, E3, q'.grow (g2.trans g3)⟩
        | cont ρ2 ω2 =>
          rw [z2] at q'
          intro w3 σ3 g3 F3 e3 E3
          subst e3
          exact ⟨w3, ρ2, rfl, (g'.trans g2).trans g3, F3, E3, q'.grow (g2.trans g3)⟩
        | brk ρ2 ω2 => rw [z2] at q'; exact fun w3 σ3 g3 F3 e3 E3 => q' w3 σ3 (g2.trans g3) F3 e3 E3
        | ret d ω => rw [z2] at q'; exact fun w3 v g3 F3 e3 r3 => q' w3 v (g2.trans g3) F3 e3 r3
        | exc c d ω => rw [z2] at q'; exact fun w3 σ3 u g3 F3 e3 E3 m => q' w3 σ3 u (g2.trans g3) F3 e3 E3 m
        | stuck => rw [z2] at q'; exact q'
  · have e : i = ds.length := by omega
    subst e
    rw [List.drop_length] at q'
    exact .inl ⟨C.stop w' g' F' _ (Nat.le_refl _), q'.next' F' E'⟩
/-- while, so many turns at most -/
def whileS (u : Env → M Bool) (s : SM) : Nat → SM
  | 0 => fun _ _ => .stuck
  | n + 1 => thenS u fun b => if b = true then fun ρ ω => match s ρ ω with
      | .next ρ2 ω2 => whileS u s n ρ2 ω2
      | .cont ρ2 ω2 => whileS u s n ρ2 ω2
      | .brk ρ2 ω2 => .next ρ2 ω2
      | o => o
    else sNext
theorem ms_while (n : Nat) {body : List Stmt} (hp : PassesOwn (model X.prog X.w) X.A X.env X.xe) (hc : MT X W a u) (hb : MSs X W body s) : MS X W (.While a body [] pos) (whileS u s n) := by
  refine PS.sub (ps_while hp hc hb) ?_
  rintro D σ H ⟨w, ρ, rfl, F, E, q⟩
  refine ⟨fun m σ H => ∃ w ρ, w.H = H ∧ Fits X.K w ∧ EnvRep X.K w ρ σ ∧ HoldsS X.K X.mg W w (whileS u s m ρ w.ω) D, ⟨n, w, ρ, rfl, F, E, q⟩, ?_⟩
  rintro m σ H ⟨w, ρ, rfl, F, E, q⟩
  cases m with
  | zero => exact q.no
  | succ m =>
    refine ⟨w, ρ, rfl, F, E, HoldsS.thn E q fun b w1 g1 F1 E1 q1 => ?_⟩
    cases b with
    | false => rw [if_neg Bool.false_ne_true] at q1 ⊢; exact q1.next' F1 E1
    | true =>
      rw [if_pos rfl] at q1 ⊢
      refine ⟨fun σ' H' => ∃ w ρ, w.H = H' ∧ Fits X.K w ∧ EnvRep X.K w ρ σ' ∧ HoldsS X.K X.mg W w (whileS u s m ρ w.ω) D, fun σ' H' h' => ⟨m, Nat.lt_succ_self m, h'⟩, w1, ρ, rfl, F1, E1, ?_⟩
      cases z2 : s ρ w1.ω with
      | next ρ2 ω2 =>
        rw [z2] at q1
        intro w3 σ3 g3 F3 e3 E3
        subst e3
        exact ⟨w3, ρ2, rfl, F3, E3, q1.grow g3⟩
      | cont ρ2 ω2 =>
        rw [z2] at q1
        intro w3 σ3 g3 F3 e3 E3
        subst e3
        exact ⟨w3, ρ2, rfl, F3, E3, q1.grow g3⟩
      | brk ρ2 ω2 => rw [z2] at q1; exact q1
      | ret d ω => rw [z2] at q1; exact q1
      | exc c d ω => rw [z2] at q1; exact q1
      | stuck => rw [z2] at q1; exact q1
end
end Mi
namespace Mi
open PySem PySem.Spec PyProof.Rows L2
variable [Tb]
section
variable {X : Cx} {W : WX} {a b tg : Expr} {f g : Env → M D} {pos p : Pos}
/-! ### what is walked -/
@[simp] def asSeq : D → M (List D)
  | .lst ds => M.ret ds
  | .tup ds => M.ret ds
  | .str x => M.ret (x.cps.toList.map fun c => .str ⟨#[c]⟩)
  | _ => M.stuck
@[simp] def iSeq (f : Env → M D) : Env → M (List D) := fun ρ => (f ρ).bind asSeq
theorem cov_lst {K : PySem.W.Frag} {w : Wd} {a : Addr} {vs : List V} {ds : List D} (hS : w.S a) (e : w.H a = some (.lst vs)) (r : w.reps K vs ds) : Covers K w (Itl K a) ds := by
  have at' : ∀ w', Grow w w' → w'.H a = some (.lst vs) := fun w' g => g.fr a _ e (.inl hS)
  refine ⟨fun w' g F i hi => ?_, fun w' g F i d x H' hd y => ?_, fun w' g F i hi => ⟨vs, .of (at' w' g), by rw [r.length]; exact hi⟩⟩
  · have : i < vs.length := by rw [r.length]; exact hi
    exact ⟨vs, vs[i], .of (at' w' g), List.getElem?_eq_getElem this⟩
  · obtain ⟨rfl, h⟩ := y
    obtain ⟨v, h1, h2⟩ := (g.reps r).get hd
    have e2 := h vs (.of (at' w' g))
    rw [h1] at e2; cases e2
    exact ⟨w', Grow.refl _, F, rfl, rfl, h2⟩
theorem cov_tup {K : PySem.W.Frag} {w : Wd} {a : Addr} {vs : List V} {ds : List D} (hS : w.S a) (e : w.H a = some (.tup vs)) (r : w.reps K vs ds) : Covers K w (Itt K a) ds := by
  have at' : ∀ w', Grow w w' → w'.H a = some (.tup vs) := fun w' g => g.fr a _ e (.inl hS)
  refine ⟨fun w' g F i hi => ?_, fun w' g F i d x H' hd y => ?_, fun w' g F i hi => ⟨vs, .of (at' w' g), by rw [r.length]; exact hi⟩⟩
  · have : i < vs.length := by rw [r.length]; exact hi
    exact ⟨vs, vs[i], .of (at' w' g), List.getElem?_eq_getElem this⟩
  · obtain ⟨rfl, h⟩ := y
    obtain ⟨v, h1, h2⟩ := (g.reps r).get hd
    have e2 := h vs (.of (at' w' g))
    rw [h1] at e2; cases e2
    exact ⟨w', Grow.refl _, F, rfl, rfl, h2⟩
theorem cov_range {K : PySem.W.Frag} {w : Wd} {lo : Int} {n : Nat} : Covers K w (Itr lo n) ((List.range n).map fun (i : Nat) => D.int (lo + (i : Int))) := by
  refine ⟨fun w' g F i hi => ?_, fun w' g F i d x H' hd y => ?_, fun w' g F i hi => ?_⟩
  · show i < n; simpa using hi
  · obtain ⟨rfl, rfl⟩ := y
    rw [List.getElem?_map] at hd
    have hi : i < n := by
      rcases Nat.lt_or_ge i n with h | h
      · exact h
      · rw [List.getElem?_eq_none (by simpa using h)] at hd; cases hd
    rw [List.getElem?_eq_getElem (by simpa using hi)] at hd
    simp only [List.getElem_range, Option.map_some, Option.some.injEq] at hd
    subst hd
    exact ⟨w', Grow.refl _, F, rfl, rfl, .int _⟩
  · show n ≤ i; simpa using hi
theorem str_one {x : Str} {i c : Nat} (h : PyData.strOk x = true) (e : x.cps[i]? = some c) : PyData.strOk ⟨#[c]⟩ = true := by
  unfold PyData.strOk at *
  rw [Array.all_eq_true'] at h
  have hm : c ∈ x.cps := Array.mem_of_getElem? e
  have := h c hm
  simpa using this
theorem cov_str {K : PySem.W.Frag} {w : Wd} {x : Str} (hx : PyData.strOk x = true) : Covers K w (Its x) (x.cps.toList.map fun c => D.str ⟨#[c]⟩) := by
  refine ⟨fun w' g F i hi => ?_, fun w' g F i d y H' hd z => ?_, fun w' g F i hi => ?_⟩
  · show i < x.cps.size; simpa using hi
  · obtain ⟨rfl, c, hc, rfl⟩ := z
    rw [List.getElem?_map, Array.getElem?_toList, hc] at hd
    cases hd
    exact ⟨w', Grow.refl _, F, rfl, rfl, .str _ (by show 1 ≤ sizeLine; decide) (str_one hx hc)⟩
  · show x.cps.size ≤ i; simpa using hi
theorem mi_seq (ha : ME X W a f) : MI X W tg a (iSeq f) := by
  refine ⟨fun pins s σ H R I h => ?_⟩
  obtain ⟨w, ρ, rfl, F, E, q⟩ := h
  have key : ∀ (t : TI), PI X tg a t → t σ w.H R → wpAny (model X.prog X.w) X.A (eval a X.env) (fun v s1 => wpAny (model X.prog X.w) X.A (pyIter v) (PIE X pins σ tg R) X.xe s1) X.xe s := fun t ht hh => ht.run pins s σ w.H R I hh
  have q' := q
  unfold iSeq M.bind at q'
  cases z : f ρ w.ω with
  | ok d ω =>
    rw [z] at q'
    dsimp only at q'
    cases d with
    | lst ds =>
      refine key _ (pi_list ha) ⟨w, ρ, rfl, F, E, ?_⟩
      rw [z]
      rintro w1 g1 F1 rfl v (_ | _ | _ | _ | @⟨c, vs, _, h1, h2, h3, h4⟩)
      exact ⟨c, rfl, ⟨vs, .of h2⟩, (q'.grow g1) w1 (Grow.refl _) F1 rfl _ (cov_lst h1 h2 h4)⟩
    | tup ds =>
      refine key _ (pi_tup ha) ⟨w, ρ, rfl, F, E, ?_⟩
      rw [z]
      intro w1 g1 F1 e1 v r
      subst e1
      cases r with
      | @tup c vs _ h1 h2 h3 h4 => exact ⟨c, rfl, ⟨vs, .of h2⟩, (q'.grow g1) w1 (Grow.refl _) F1 rfl _ (cov_tup h1 h2 h4)⟩
    | str x =>
      refine key _ (pi_str ha) ⟨w, ρ, rfl, F, E, ?_⟩
      rw [z]
      intro w1 g1 F1 e1 v r
      subst e1
      cases r with
      | str _ h1 h2 => exact ⟨x, rfl, (q'.grow g1) w1 (Grow.refl _) F1 rfl _ (cov_str h2)⟩
    | _ => exact Holds.no (α := List D) q'
  | raise c ω =>
    rw [z] at q'
    refine key _ (pi_list ha) ⟨w, ρ, rfl, F, E, ?_⟩
    rw [z]; exact q'
  | stuck => rw [z] at q'; exact q'.elim
variable {es : List Expr} {fs : Env → M (List D)}
def big62 (n : Int) : Bool := Nat.ble n.natAbs 4611686018427387903
theorem big62_iff {n : Int} (h : big62 n = true) : -(2 ^ 62) ≤ n ∧ n < 2 ^ 62 := by unfold big62 at h; rw [Nat.ble_eq] at h; omega
theorem big62_mk {n : Int} (h : -(2 ^ 62) < n ∧ n < 2 ^ 62) : big62 n = true := by unfold big62; rw [Nat.ble_eq]; omega
def rangeD (lo : Int) (n : Nat) : List D := (List.range n).map fun (i : Nat) => D.int (lo + (i : Int))
@[simp] def one {β : Type} (o : D → M β) : List D → M β
  | [d] => o d
  | _ => M.stuck
@[simp] def two {β : Type} (o : D → D → M β) : List D → M β
  | [d, e] => o d e
  | _ => M.stuck
theorem one_thn {β : Type} {K : PySem.W.Frag} {mg : Str → Option Value} {σ : L2.St} {w : Wd} {o : D → M β} {ds : List D} {vs : List V} {P : β → Wd → Prop} {R : Prop} (h : Holds K mg W σ w (one o ds w.ω) P) (r : w.reps K vs ds)
    (k : ∀ v d, vs = [v] → w.rep K v d → Holds K mg W σ w (o d w.ω) P → R) : R := by
  cases r with
  | nil => exact h.no
  | cons r rs => cases rs with
    | nil => exact k _ _ rfl r h
    | cons _ _ => exact h.no
theorem two_thn {β : Type} {K : PySem.W.Frag} {mg : Str → Option Value} {σ : L2.St} {w : Wd} {o : D → D → M β} {ds : List D} {vs : List V} {P : β → Wd → Prop} {R : Prop} (h : Holds K mg W σ w (two o ds w.ω) P) (r : w.reps K vs ds)
    (k : ∀ v u d e, vs = [v, u] → w.rep K v d → w.rep K u e → Holds K mg W σ w (o d e w.ω) P → R) : R := by
  cases r with
  | nil => exact h.no
  | cons r rs => cases rs with
    | nil => exact h.no
    | cons r' rs => cases rs with
      | nil => exact k _ _ _ _ rfl r r' h
      | cons _ _ => exact h.no
theorem opN_one {r : List V → Hp → VK → Prop} {o : D → M D} (h : Op1 X (fun x H Q => r [x] H Q) o) : OpN X r (one o) := by
  intro W σ w xs ds Q F rs q
  exact one_thn q rs fun v d e r' q' => by subst e; exact h W σ w v d Q F r' q'
theorem opN_two {r : List V → Hp → VK → Prop} {o : D → D → M D} (h : Op2 X (fun x y H Q => r [x, y] H Q) o) : OpN X r (two o) := by
  intro W σ w xs ds Q F rs q
  exact two_thn q rs fun v u d e e' r1 r2 q' => by subst e'; exact h W σ w v u d e Q F r1 r2 q'
@[simp] def asRange1 : D → M (List D)
  | .int n => if big62 n = true then M.ret (rangeD 0 n.toNat) else M.stuck
  | _ => M.stuck
@[simp] def asRange2 : D → D → M (List D)
  | .int i, .int j => if big62 i = true ∧ big62 j = true then M.ret (rangeD i (j - i).toNat) else M.stuck
  | _, _ => M.stuck
@[simp] def iRange1 (fs : Env → M (List D)) : Env → M (List D) := fun ρ => (fs ρ).bind (one asRange1)
@[simp] def iRange2 (fs : Env → M (List D)) : Env → M (List D) := fun ρ => (fs ρ).bind (two asRange2)
theorem mi_range1 (hg : Gl X "range") (hm : X.mg "range" = none) (ha : MA X W [a] fs) (hs : starEach [a] X.env = [(false, eval a X.env)] := by rfl) : MI X W tg (.Call (.Name "range" p) [a] [] pos) (iRange1 fs) := by
  refine PI.sub (pi_range1 hg hm ha hs) ?_
  rintro σ H R ⟨w, ρ, rfl, F, E, q⟩
  refine ⟨w, ρ, rfl, F, E, Holds.thn q fun ds w1 g1 F1 q1 vs rs => one_thn q1 rs fun v d ev r q2 => ?_⟩
  subst ev
  cases r with
  | int n =>
    obtain ⟨c, q1⟩ := Holds.ite q2
    have c := big62_iff c
    exact ⟨n, rfl, c.1, c.2, Holds.here F1 q1 _ cov_range⟩
  | _ => exact q2.no
theorem mi_range2 (hg : Gl X "range") (hm : X.mg "range" = none) (ha : MA X W [a, b] fs) (hs : starEach [a, b] X.env = [(false, eval a X.env), (false, eval b X.env)] := by rfl) (hs2 : starEach [b] X.env = [(false, eval b X.env)] := by rfl) : MI X W tg (.Call (.Name "range" p) [a, b] [] pos) (iRange2 fs) := by
  refine PI.sub (pi_range2 hg hm ha hs hs2) ?_
  rintro σ H R ⟨w, ρ, rfl, F, E, q⟩
  refine ⟨w, ρ, rfl, F, E, Holds.thn q fun ds w1 g1 F1 q1 vs rs => two_thn q1 rs fun v v' d d' ev r r' q2 => ?_⟩
  subst ev
  cases r with
  | int n => cases r' with
    | int m =>
      obtain ⟨c, q1⟩ := Holds.ite q2
      have c1 := big62_iff c.1
      have c2 := big62_iff c.2
      exact ⟨n, m, rfl, ⟨c1.1, c1.2, c2.1, c2.2⟩, Holds.here F1 q1 _ cov_range⟩
    | _ => exact q2.no
  | _ => exact q2.no
/-- zip of two lists, of two tuples; enumerate of a list -/
def zipD : List D → List D → List D
  | x :: xs, y :: ys => .tup [x, y] :: zipD xs ys
  | _, _ => []
theorem zipD_get : ∀ (xs ys : List D) (i : Nat) (d : D), (zipD xs ys)[i]? = some d → ∃ x y, xs[i]? = some x ∧ ys[i]? = some y ∧ d = .tup [x, y]
  | [], _, _, _, h => by simp [zipD] at h
  | _ :: _, [], _, _, h => by simp [zipD] at h
  | x :: xs, y :: ys, 0, d, h => by simp [zipD] at h; subst h; exact ⟨x, y, rfl, rfl, rfl⟩
  | x :: xs, y :: ys, i + 1, d, h => by
    simp only [zipD, List.getElem?_cons_succ] at h
    simpa using zipD_get xs ys i d h
theorem zipD_len : ∀ (xs ys : List D), (zipD xs ys).length = min xs.length ys.length
  | [], _ => by simp [zipD]
  | _ :: _, [] => by simp [zipD]
  | x :: xs, y :: ys => by simp [zipD, zipD_len xs ys]
theorem pair_new {K : PySem.W.Frag} {w : Wd} {T : Addr} {x y : V} {d e : D} (F : Fits K w) (h : w.H T = none) (r1 : w.rep K x d) (r2 : w.rep K y e) : ∃ w'', Grow w w'' ∧ Fits K w'' ∧ w''.ω = w.ω ∧ w''.H = upd w.H T (.tup [x, y]) ∧ w''.rep K (.ref T) (.tup [d, e]) :=
  ⟨w.lay T (.tup [x, y]), lay_grow h, lay_fits F h (fun _ z => nomatch z), rfl, rfl, .tup (.inr rfl) upd_same (by show 2 ≤ sizeLine; decide) (.cons ((lay_grow h).rep r1) (.cons ((lay_grow h).rep r2) .nil))⟩
theorem cov_zip {K : PySem.W.Frag} {w : Wd} {a b : Addr} {vs us : List V} {ds es : List D} (hS : w.S a) (e : w.H a = some (.lst vs)) (r : w.reps K vs ds) (hS' : w.S b) (e' : w.H b = some (.lst us)) (r' : w.reps K us es) : Covers K w (Itz K a b) (zipD ds es) := by
  have at' : ∀ w', Grow w w' → w'.H a = some (.lst vs) := fun w' g => g.fr a _ e (.inl hS)
  have at2 : ∀ w', Grow w w' → w'.H b = some (.lst us) := fun w' g => g.fr b _ e' (.inl hS')
  have l1 := r.length
  have l2 := r'.length
  refine ⟨fun w' g F i hi => ?_, fun w' g F i d x H' hd y => ?_, fun w' g F i hi => ⟨vs, us, .of (at' w' g), .of (at2 w' g), ?_⟩⟩
  · rw [zipD_len] at hi
    exact ⟨vs, us, vs[i], us[i], .of (at' w' g), .of (at2 w' g), List.getElem?_eq_getElem _, List.getElem?_eq_getElem _⟩
  · obtain ⟨T, x, y, rfl, hT, rfl, h1, h2⟩ := y
    obtain ⟨d1, d2, z1, z2, rfl⟩ := zipD_get _ _ _ _ hd
    obtain ⟨v, u1, u2⟩ := (g.reps r).get z1
    obtain ⟨v', u3, u4⟩ := (g.reps r').get z2
    have e1 := h1 vs (.of (at' w' g))
    have e2 := h2 us (.of (at2 w' g))
    rw [u1] at e1; cases e1
    rw [u3] at e2; cases e2
    exact pair_new F hT u2 u4
  · rw [zipD_len] at hi; omega
theorem cov_zipT {K : PySem.W.Frag} {w : Wd} {a b : Addr} {vs us : List V} {ds es : List D} (hS : w.S a) (e : w.H a = some (.tup vs)) (r : w.reps K vs ds) (hS' : w.S b) (e' : w.H b = some (.tup us)) (r' : w.reps K us es) : Covers K w (RZ.ItzT K a b) (zipD ds es) := by
  have at' : ∀ w', Grow w w' → w'.H a = some (.tup vs) := fun w' g => g.fr a _ e (.inl hS)
  have at2 : ∀ w', Grow w w' → w'.H b = some (.tup us) := fun w' g => g.fr b _ e' (.inl hS')
  have l1 := r.length
  have l2 := r'.length
  refine ⟨fun w' g F i hi => ?_, fun w' g F i d x H' hd y => ?_, fun w' g F i hi => ⟨vs, us, .of (at' w' g), .of (at2 w' g), ?_⟩⟩
  · rw [zipD_len] at hi
    exact ⟨vs, us, vs[i], us[i], .of (at' w' g), .of (at2 w' g), List.getElem?_eq_getElem _, List.getElem?_eq_getElem _⟩
  · obtain ⟨T, x, y, rfl, hT, rfl, h1, h2⟩ := y
    obtain ⟨d1, d2, z1, z2, rfl⟩ := zipD_get _ _ _ _ hd
    obtain ⟨v, u1, u2⟩ := (g.reps r).get z1
    obtain ⟨v', u3, u4⟩ := (g.reps r').get z2
    have e1 := h1 vs (.of (at' w' g))
    have e2 := h2 us (.of (at2 w' g))
    rw [u1] at e1; cases e1
    rw [u3] at e2; cases e2
    exact pair_new F hT u2 u4
  · rw [zipD_len] at hi; omega
@[simp] def asZip : D → D → M (List D)
  | .lst xs, .lst ys => M.ret (zipD xs ys)
  | .tup xs, .tup ys => M.ret (zipD xs ys)
  | _, _ => M.stuck
@[simp] def iZip (fs : Env → M (List D)) : Env → M (List D) := fun ρ => (fs ρ).bind (two asZip)
theorem mi_zip {elts : List Expr} {kk : Nat} {tpos : Pos} (hg : Gl X "zip") (hm : X.mg "zip" = none) (ha : MA X W [a, b] fs)
    (hs : starEach [a, b] X.env = (false, eval a X.env) :: starEach [b] X.env := by rfl) (hpl : (backTo pos (starEach [b] X.env)).any (·.1) = false := by rfl) :
    MI X W (.Tuple elts kk tpos) (.Call (.Name "zip" p) [a, b] [] pos) (iZip fs) := by
  refine PI.sub (RZ.pi_zipA hg hm ha hs hpl) ?_
  rintro σ H R ⟨w, ρ, rfl, F, E, q⟩
  refine ⟨w, ρ, rfl, F, E, Holds.thn q fun ds w1 g1 F1 q1 vs rs => two_thn q1 rs fun v v' d d' ev r r' q2 => ?_⟩
  subst ev
  cases r with
  | lst h1 h2 h3 h4 => cases r' with
    | lst k1 k2 k3 k4 => exact ⟨_, _, _, _, rfl, .inl ⟨.of h2, .of k2, Holds.here F1 q2 _ (cov_zip h1 h2 h4 k1 k2 k4)⟩⟩
    | _ => exact q2.no
  | tup h1 h2 h3 h4 => cases r' with
    | tup k1 k2 k3 k4 => exact ⟨_, _, _, _, rfl, .inr ⟨.of h2, .of k2, Holds.here F1 q2 _ (cov_zipT h1 h2 h4 k1 k2 k4)⟩⟩
    | _ => exact q2.no
  | _ => exact q2.no
def enumD (n : Nat) : List D → List D
  | [] => []
  | x :: xs => .tup [.int (n : Int), x] :: enumD (n + 1) xs
theorem enumD_get : ∀ (xs : List D) (n i : Nat) (d : D), (enumD n xs)[i]? = some d → ∃ x, xs[i]? = some x ∧ d = .tup [.int ((n + i : Nat) : Int), x]
  | [], _, _, _, h => by simp [enumD] at h
  | x :: xs, n, 0, d, h => by simp [enumD] at h; subst h; exact ⟨x, rfl, rfl⟩
  | x :: xs, n, i + 1, d, h => by
    simp only [enumD, List.getElem?_cons_succ] at h
    obtain ⟨y, h1, h2⟩ := enumD_get xs (n + 1) i d h
    exact ⟨y, by simpa using h1, by rw [h2]; congr 4; omega⟩
theorem enumD_len : ∀ (xs : List D) (n : Nat), (enumD n xs).length = xs.length
  | [], _ => rfl
  | x :: xs, n => by simp [enumD, enumD_len xs (n + 1)]
theorem cov_enum {K : PySem.W.Frag} {w : Wd} {a : Addr} {vs : List V} {ds : List D} (hS : w.S a) (e : w.H a = some (.lst vs)) (r : w.reps K vs ds) : Covers K w (Ite K a) (enumD 0 ds) := by
  have at' : ∀ w', Grow w w' → w'.H a = some (.lst vs) := fun w' g => g.fr a _ e (.inl hS)
  have l1 := r.length
  refine ⟨fun w' g F i hi => ?_, fun w' g F i d x H' hd y => ?_, fun w' g F i hi => ⟨vs, .of (at' w' g), ?_⟩⟩
  · rw [enumD_len] at hi
    exact ⟨vs, vs[i], .of (at' w' g), List.getElem?_eq_getElem _⟩
  · obtain ⟨T, x, rfl, hT, rfl, h1⟩ := y
    obtain ⟨d1, z1, rfl⟩ := enumD_get _ _ _ _ hd
    obtain ⟨v, u1, u2⟩ := (g.reps r).get z1
    have e1 := h1 vs (.of (at' w' g))
    rw [u1] at e1; cases e1
    rw [Nat.zero_add]
    exact pair_new F hT (.int _) u2
  · rw [enumD_len] at hi; omega
@[simp] def asEnum : D → M (List D)
  | .lst xs => M.ret (enumD 0 xs)
  | _ => M.stuck
@[simp] def iEnum (fs : Env → M (List D)) : Env → M (List D) := fun ρ => (fs ρ).bind (one asEnum)
theorem mi_enum {elts : List Expr} {kk : Nat} {tpos : Pos} (hg : Gl X "enumerate") (hm : X.mg "enumerate" = none) (ha : MA X W [a] fs) (hs : starEach [a] X.env = [(false, eval a X.env)] := by rfl) :
    MI X W (.Tuple elts kk tpos) (.Call (.Name "enumerate" p) [a] [] pos) (iEnum fs) := by
  refine PI.sub (pi_enum hg hm ha hs) ?_
  rintro σ H R ⟨w, ρ, rfl, F, E, q⟩
  refine ⟨w, ρ, rfl, F, E, Holds.thn q fun ds w1 g1 F1 q1 vs rs => one_thn q1 rs fun v d ev r q2 => ?_⟩
  subst ev
  cases r with
  | lst h1 h2 h3 h4 => exact ⟨_, _, rfl, .of h2, Holds.here F1 q2 _ (cov_enum h1 h2 h4)⟩
  | _ => exact q2.no

/-! ### list comprehensions -/
def wipeE (ρ : Env) : List Nat → Env
  | [] => ρ
  | v :: vs => (wipeE ρ vs).set v none
theorem EnvRep.setNone {K : PySem.W.Frag} {w : Wd} {ρ : Env} {σ : L2.St} (e : EnvRep K w ρ σ) (i : Nat) : EnvRep K w (ρ.set i none) (σ.set i none) := by
  refine ⟨by simp [e.len], fun j x h => ?_⟩
  by_cases hj : i = j
  · subst hj
    by_cases hl : i < ρ.length
    · rw [List.getElem?_set_self hl] at h; cases h
    · rw [List.getElem?_eq_none (by simpa using hl)] at h; cases h
  · rw [List.getElem?_set_ne hj] at h
    rw [List.getElem?_set_ne hj]
    exact e.get j x h
theorem EnvRep.wipe {K : PySem.W.Frag} {w : Wd} {ρ : Env} {σ : L2.St} (e : EnvRep K w ρ σ) : ∀ vs, EnvRep K w (wipeE ρ vs) (wipe σ vs)
  | [] => e
  | v :: vs => (e.wipe vs).setNone v

def MTs (X : Cx) (W : WX) (ifs : List Expr) (f : Env → M Bool) : Prop := PTs X ifs (tMT X.K X.mg W f)
@[simp] def bYes : Env → M Bool := fun _ => M.ret true
theorem mts_nil : MTs X W [] bYes := by
  refine ⟨fun pins s σ H Q I h => pts_nil.run pins s σ H Q I ?_⟩
  obtain ⟨w, ρ, rfl, F, E, q⟩ := h
  exact Holds.here F q
theorem mts_one {u : Env → M Bool} (h : MT X W a u) : MTs X W [a] u := pts_one h
/-- no exception leaves a comprehension -/
def WF : WX := fun _ _ _ _ => False
def compM (g : D → Env → Option Env) (t : Env → M Bool) (e : Env → M D) (ρ : Env) : List D → M (List D)
  | [], ω => .ok [] ω
  | d :: ds, ω => match g d ρ with
    | none => .stuck
    | some ρ1 => match t ρ1 ω with
      | .ok true ω1 => match e ρ1 ω1 with
        | .ok y ω2 => match compM g t e ρ ds ω2 with
          | .ok ys ω3 => .ok (y :: ys) ω3
          | _ => .stuck
        | _ => .stuck
      | .ok false ω1 => compM g t e ρ ds ω1
      | _ => .stuck
def eLc (fi : Env → M (List D)) (vs : List Nat) (g : D → Env → Option Env) (t : Env → M Bool) (e : Env → M D) : Env → M D := fun ρ => (fi ρ).bind fun ds => if ds.length ≤ 1000000 then (compM g t e (wipeE ρ vs) ds).bind fun ys => M.ret (.lst ys) else M.stuck
/-- what is laid beside the world: not shared, not a cell -/
theorem side_grow {K : PySem.W.Frag} {w w' : Wd} {p : Addr} {o : HO} (g : Grow w w') (hp : w.H p = none) : Grow w { w' with H := upd w'.H p o } :=
  have at_ : ∀ a u u', w.H a = some u → w'.H a = some u' → upd w'.H p o a = some u' := fun a u u' h k => by rw [upd_ne (ne_of_none h hp)]; exact k
  ⟨g.S, g.S', g.μ, g.μ', fun a u h k => at_ a u u h (g.fr a u h k), fun a o' u h => at_ a _ _ h (g.fz a o' u h), fun a ps h => let ⟨ps', e⟩ := g.tb a ps h; ⟨ps', at_ a _ _ h e⟩⟩
theorem ne_side {S : Addr → Prop} {p a : Addr} (hp : ¬ S p) (ha : S a) : a ≠ p := fun e => hp (e ▸ ha)
theorem side_reps {K : PySem.W.Frag} {w : Wd} {p : Addr} {o : HO} (hS : ¬ w.S p) {vs : List V} {ds : List D} (r : w.reps K vs ds) : Reps K w.S w.μ (upd w.H p o) vs ds :=
  Reps.mono (fun _ h => h) (fun _ _ h => h) (fun a u hs h => by rw [upd_ne (ne_side hS hs)]; exact h) r
theorem side_rep {K : PySem.W.Frag} {w : Wd} {p : Addr} {o : HO} (hS : ¬ w.S p) {v : V} {d : D} (r : w.rep K v d) : Rep K w.S w.μ (upd w.H p o) v d :=
  Rep.mono (fun _ h => h) (fun _ _ h => h) (fun a u hs h => by rw [upd_ne (ne_side hS hs)]; exact h) r
theorem side_fits {K : PySem.W.Frag} {w : Wd} {p : Addr} {o : HO} (F : Fits K w) (hS : ¬ w.S p) (hm : p ∉ w.μ) (hn : NoTab (w.H p)) : Fits K { w with H := upd w.H p o } := by
  refine ⟨F.len, F.nd, fun a h => ?_, fun a h => ?_, fun n a c h1 h2 => ?_, tabs_upd hn F.tabs, fun a ps h z => F.nt a ps h ?_⟩
  · show upd w.H p o a ≠ none
    rw [upd_ne (ne_side hS h)]; exact F.dom a h
  · show upd w.H p o a ≠ none
    rw [upd_ne (ne_side (S := (· ∈ w.μ)) hm h)]; exact F.domμ a h
  · rcases F.live n a c h1 h2 with h | ⟨h, h'⟩
    · exact .inl h
    · exact .inr ⟨h, h'.mono (upd_ne fun e => hm (e ▸ List.mem_of_getElem? h1)) fun vs ds r => side_reps hS r⟩
  · have z' : upd w.H p o a = some (.tbl ps) := z
    rw [upd_ne (ne_side hS h)] at z'; exact z'
theorem side_env {K : PySem.W.Frag} {w : Wd} {p : Addr} {o : HO} {ρ : Env} {σ : L2.St} (hS : ¬ w.S p) (E : EnvRep K w ρ σ) : EnvRep K { w with H := upd w.H p o } ρ σ :=
  ⟨E.len, fun i d h => let ⟨v, h1, h2⟩ := E.get i d h; ⟨v, h1, side_rep hS h2⟩⟩
theorem compM_cons (g : D → Env → Option Env) (t : Env → M Bool) (e : Env → M D) (ρ : Env) (d : D) (ds : List D) (ω : List Cell) : compM g t e ρ (d :: ds) ω = (match g d ρ with
    | none => .stuck
    | some ρ1 => match t ρ1 ω with
      | .ok true ω1 => match e ρ1 ω1 with
        | .ok y ω2 => match compM g t e ρ ds ω2 with
          | .ok ys ω3 => .ok (y :: ys) ω3
          | _ => .stuck
        | _ => .stuck
      | .ok false ω1 => compM g t e ρ ds ω1
      | _ => .stuck) := rfl
theorem compM_raise {g : D → Env → Option Env} {t : Env → M Bool} {e : Env → M D} {ρ : Env} : ∀ {ds : List D} {ω ω' : List Cell} {c : Str}, compM g t e ρ ds ω = .raise c ω' → False
  | [], ω, ω', c, h => by cases h
  | d :: ds, ω, ω', c, h => by
    rw [compM_cons] at h
    cases zg : g d ρ with
    | none => rw [zg] at h; cases h
    | some ρ1 =>
      rw [zg] at h
      dsimp only at h
      cases zt : t ρ1 ω with
      | ok b ω1 =>
        rw [zt] at h
        cases b with
        | false => exact compM_raise h
        | true =>
          dsimp only at h
          cases ze : e ρ1 ω1 with
          | ok y ω2 =>
            rw [ze] at h
            dsimp only at h
            cases zr : compM g t e ρ ds ω2 with
            | ok ys ω3 => rw [zr] at h; cases h
            | raise c ω3 => rw [zr] at h; cases h
            | stuck => rw [zr] at h; cases h
          | raise c ω2 => rw [ze] at h; cases h
          | stuck => rw [ze] at h; cases h
      | raise c ω1 => rw [zt] at h; cases h
      | stuck => rw [zt] at h; cases h
/-- what is left to come of a comprehension, its list so far at Dl -/
structure LcAt (K : PySem.W.Frag) (mg : Str → Option Value) (W : WX) (σ : L2.St) (Q : VK) (w1 : Wd) (Dl : Addr) (ρ : Env) (g : D → Env → Option Env) (t : Env → M Bool) (e : Env → M D) (i : Nat) (ds : List D) (w : Wd) (acc : List V) (yacc : List D) : Prop where
  gr : Grow w1 w
  fits : Fits K w
  at_ : w.H Dl = some (.lst acc)
  nS : ¬ w.S Dl
  nm : Dl ∉ w.μ
  reps : w.reps K acc yacc
  le : acc.length ≤ i
  rest : ∃ ys ω', compM g t e ρ ds w.ω = .ok ys ω' ∧ ∀ w', Grow w1 w' → Fits K w' → w'.ω = ω' → ∀ v, w'.rep K v (.lst (yacc ++ ys)) → Q v w'.H
theorem sub_lc {fi : Env → M (List D)} {vs : List Nat} {g : D → Env → Option Env} {t : Env → M Bool} {e : Env → M D} : ∀ σ H Q, tM X.K X.mg W (eLc fi vs g t e) σ H Q → tLc (tMI X.K X.mg W fi) (tMG X.K vs g) (tMT X.K X.mg WF t) (tM X.K X.mg WF e) vs σ H Q := by
  rintro σ H Q ⟨w, ρ, rfl, F, E, q⟩
  refine ⟨w, ρ, rfl, F, E, Holds.thn q fun ds w1 g1 F1 q1 J C Dl hD => ?_⟩
  obtain ⟨hz, q1⟩ := Holds.ite q1
  have E1 := (E.grow g1).wipe vs
  have h0 : ∃ ys ω', compM g t e (wipeE ρ vs) ds w1.ω = .ok ys ω' ∧ ∀ w', Grow w1 w' → Fits X.K w' → w'.ω = ω' → ∀ v, w'.rep X.K v (.lst ys) → Q v w'.H := by
    cases z : compM g t e (wipeE ρ vs) ds w1.ω with
    | ok ys ω' =>
      refine ⟨ys, ω', rfl, fun w' g' F' e' v r => ?_⟩
      unfold M.bind at q1
      rw [z] at q1
      exact q1 w' g' F' e' v r
    | raise c ω' => exfalso; exact compM_raise z
    | stuck => unfold M.bind at q1; rw [z] at q1; exact q1.elim
  obtain ⟨ys0, ω0, hc0, hq0⟩ := h0
  have nS : ¬ w1.S Dl := fun h => F1.dom Dl h hD
  have nm : Dl ∉ w1.μ := fun h => F1.domμ Dl h hD
  refine ⟨fun i m H => m = ds.length - i ∧ i ≤ ds.length ∧ ∃ w' acc yacc, w'.H = H ∧ LcAt X.K X.mg W σ Q w1 Dl (wipeE ρ vs) g t e i (ds.drop i) w' acc yacc, ⟨ds.length, by simp, Nat.zero_le _, { w1 with H := upd w1.H Dl (.lst []) }, [], [], rfl, ?_⟩, ?_⟩
  · exact ⟨side_grow (K := X.K) (Grow.refl w1) hD, side_fits F1 nS nm (by rw [hD]; exact noTab_none), upd_same, nS, nm, .nil, Nat.zero_le _, ys0, ω0, hc0, hq0⟩
  rintro i m H ⟨rfl, hi, w', acc, yacc, rfl, L⟩
  by_cases hlt : i < ds.length
  · have hget : ds[i]? = some ds[i] := List.getElem?_eq_getElem hlt
    refine .inr ⟨C.go w' L.gr L.fits i hlt, fun H' => ∃ w' acc yacc, w'.H = H' ∧ LcAt X.K X.mg W σ Q w1 Dl (wipeE ρ vs) g t e (i + 1) (ds.drop (i + 1)) w' acc yacc, ?_, ?_⟩
    · rintro H' ⟨w2, acc2, yacc2, h1, h2⟩
      exact ⟨ds.length - (i + 1), by omega, rfl, hlt, w2, acc2, yacc2, h1, h2⟩
    · intro x H' y
      obtain ⟨w2, g2, F2, eω, rfl, r2⟩ := C.yld w' L.gr L.fits i _ x H' hget y
      obtain ⟨ys, ω', hc, hq⟩ := L.rest
      rw [List.drop_eq_getElem_cons hlt, compM_cons] at hc
      have Dat : ∀ {w3 : Wd}, Grow w' w3 → w3.H Dl = some (.lst acc) := fun g3 => g3.fr Dl _ L.at_ (.inr ⟨L.nm, fun _ z => nomatch z⟩)
      have DnS : ∀ {w3 : Wd}, Grow w' w3 → ¬ w3.S Dl := fun g3 h => by
        rcases g3.S' Dl h with h | h | h
        · exact L.nS h
        · rw [L.at_] at h; cases h
        · exact L.nm h
      have Dnm : ∀ {w3 : Wd}, Grow w' w3 → Dl ∉ w3.μ := fun g3 h => by
        rcases g3.μ' Dl h with h | h
        · exact L.nm h
        · rw [L.at_] at h; cases h
      cases zg : g ds[i] (wipeE ρ vs) with
      | none => rw [zg] at hc; cases hc
      | some ρ1 =>
        rw [zg] at hc
        dsimp only at hc
        have Ew : EnvRep X.K w2 (wipeE ρ vs) (wipe σ vs) := (E1.grow L.gr).grow g2
        refine ⟨w2, wipeE ρ vs, ds[i], ρ1, rfl, F2, Ew, r2, zg, fun σ2 E2 e2 => ⟨e2.trans wipe_wipe, w2, ρ1, rfl, F2, E2, ?_⟩⟩
        rw [eω]
        cases zt : t ρ1 w'.ω with
        | ok b ω1 =>
          rw [zt] at hc
          intro w3 g3 F3 e3
          subst e3
          have G3 := g2.trans g3
          cases b with
          | false =>
            rw [if_neg Bool.false_ne_true]
            exact ⟨w3, acc, yacc, rfl, L.gr.trans G3, F3, Dat G3, DnS G3, Dnm G3, G3.reps L.reps, Nat.le_succ_of_le L.le, ys, ω', hc, hq⟩
          | true =>
            rw [if_pos rfl]
            dsimp only at hc
            refine ⟨w3, ρ1, rfl, F3, E2.grow g3, ?_⟩
            cases ze : e ρ1 w3.ω with
            | ok y ω2 =>
              rw [ze] at hc
              dsimp only at hc
              intro w4 g4 F4 e4 v rv
              subst e4
              have G4 := G3.trans g4
              refine ⟨acc, Dat G4, Nat.lt_of_le_of_lt L.le (Nat.lt_of_lt_of_le hlt (Nat.le_trans hz (by decide))), { w4 with H := upd w4.H Dl (.lst (acc ++ [v])) }, acc ++ [v], yacc ++ [y], rfl, ?_⟩
              cases zr : compM g t e (wipeE ρ vs) (ds.drop (i + 1)) w4.ω with
              | ok ys2 ω3 =>
                rw [zr] at hc
                cases hc
                have dS : ¬ w4.S Dl := DnS G4
                have dm : Dl ∉ w4.μ := Dnm G4
                refine ⟨side_grow (K := X.K) (L.gr.trans G4) hD, side_fits F4 dS dm (by rw [Dat G4]; exact noTab_lst), upd_same, dS, dm, ?_, ?_, ys2, ω', zr, fun w5 g5 F5 e5 v5 r5 => hq w5 g5 F5 e5 v5 ?_⟩
                · exact side_reps dS ((G4.reps L.reps).append (.cons rv .nil))
                · rw [List.length_append]; exact Nat.succ_le_succ L.le
                · rw [List.append_assoc] at r5; exact r5
              | raise c ω3 => rw [zr] at hc; cases hc
              | stuck => rw [zr] at hc; cases hc
            | raise c ω2 => rw [ze] at hc; cases hc
            | stuck => rw [ze] at hc; cases hc
        | raise c ω1 => rw [zt] at hc; cases hc
        | stuck => rw [zt] at hc; cases hc
  · have ei : i = ds.length := by omega
    subst ei
    obtain ⟨ys, ω', hc, hq⟩ := L.rest
    rw [List.drop_length] at hc
    cases hc
    refine .inl ⟨C.stop w' L.gr L.fits _ (Nat.le_refl _), ?_⟩
    let wf : Wd := { w' with S := fun a => w'.S a ∨ a = Dl }
    have gf : Grow w1 wf := ⟨fun a h => .inl (L.gr.S a h), fun a h => h.elim (fun z => L.gr.S' a z) fun z => .inr (.inl (by rw [z]; exact hD)), L.gr.μ, L.gr.μ', L.gr.fr, L.gr.fz, L.gr.tb⟩
    have rf : ∀ vs ds, w'.reps X.K vs ds → wf.reps X.K vs ds := fun vs ds r => Reps.mono (fun _ h => .inl h) (fun _ _ h => h) (fun _ _ _ h => h) r
    have ff : Fits X.K wf := ⟨L.fits.len, L.fits.nd, fun a h => h.elim (L.fits.dom a) (fun z => by show w'.H a ≠ none; rw [z, L.at_]; exact fun z => nomatch z), L.fits.domμ, fun n a c h1 h2 => by
      rcases L.fits.live n a c h1 h2 with h | ⟨h, h'⟩
      · exact .inl h
      · exact .inr ⟨fun z => z.elim h fun e => L.nm (e ▸ List.mem_of_getElem? h1), h'.mono rfl rf⟩, L.fits.tabs, fun a ps h => h.elim (L.fits.nt a ps) fun z => by rw [z]; show w'.H Dl ≠ _; rw [L.at_]; exact fun z => nomatch z⟩
    refine hq wf gf ff rfl (.ref Dl) ?_
    rw [List.append_nil]
    exact .lst (.inr rfl) L.at_ (Nat.le_trans L.le (Nat.le_trans hz (by decide))) (rf _ _ L.reps)
theorem me_lc {elt iter : Expr} {ifs : List Expr} {scope : Scope} {own : List (Str × Nat)} {fi : Env → M (List D)} {gt : D → Env → Option Env} {t : Env → M Bool} {e : Env → M D} (hc : X.calm = true) (hN : X.N.Nodup) (hi : MI X W tg iter fi) (ok : BlkOk X.N X.env.scope scope own)
    (hg : ∀ (s : Shared) (H : Hp) (C : Addr) (cl : List (Str × Addr)) (fp : List Addr), MG (X.blk s H scope (compEnvC scope cl C X.env) fp) (own.map (·.2)) tg gt)
    (ht : ∀ (s : Shared) (H : Hp) (C : Addr) (cl : List (Str × Addr)) (fp : List Addr), MTs (X.blk s H scope (compEnvC scope cl C X.env) fp) WF ifs t)
    (he : ∀ (s : Shared) (H : Hp) (C : Addr) (cl : List (Str × Addr)) (fp : List Addr), ME (X.blk s H scope (compEnvC scope cl C X.env) fp) WF elt e) (hs : ∀ x, foldedSetIterable iter X.env x = pure x := by intro _; rfl) :
    ME X W (.ListComp elt [⟨tg, iter, ifs, 0⟩] scope pos) (eLc fi (own.map (·.2)) gt t e) := PE.sub (pe_lc (g := tMG X.K (own.map fun q : Str × Nat => q.2) gt) (tt := tMT X.K X.mg WF t) (te := tM X.K X.mg WF e) hc hN hi ok hg ht he hs) sub_lc
theorem ms_setLc {i : Nat} {y : Str} {py : Pos} {elt iter : Expr} {ifs : List Expr} {scope : Scope} {own : List (Str × Nat)} {spos : Pos} {fi : Env → M (List D)} {gt : D → Env → Option Env} {t : Env → M Bool} {e : Env → M D} (hc : X.calm = true) (hN : X.N.Nodup) (hy : X.N[i]? = some y) (hyl : X.env.scope.names.lookup y = some .local)
    (hsw : swapsWith (.ListComp elt [⟨tg, iter, ifs, 0⟩] scope pos) (some (.Name y py)) spos.line X.env = pure true) (hi : MI X W tg iter fi) (ok : BlkOk X.N X.env.scope scope own)
    (hg : ∀ (s : Shared) (H : Hp) (C : Addr) (cl : List (Str × Addr)) (fp : List Addr), MG (X.blk s H scope (compEnvC scope cl C X.env) fp) (own.map (·.2)) tg gt)
    (ht : ∀ (s : Shared) (H : Hp) (C : Addr) (cl : List (Str × Addr)) (fp : List Addr), MTs (X.blk s H scope (compEnvC scope cl C X.env) fp) WF ifs t)
    (he : ∀ (s : Shared) (H : Hp) (C : Addr) (cl : List (Str × Addr)) (fp : List Addr), ME (X.blk s H scope (compEnvC scope cl C X.env) fp) WF elt e) (hs : ∀ x, foldedSetIterable iter X.env x = pure x := by intro _; rfl) :
    MS X W (.Assign [.Name y py] (.ListComp elt [⟨tg, iter, ifs, 0⟩] scope pos) spos) (sSet i (eLc fi (own.map (·.2)) gt t e)) := by
  refine PS.sub (ps_setLc (g := tMG X.K (own.map fun q : Str × Nat => q.2) gt) (tt := tMT X.K X.mg WF t) (te := tM X.K X.mg WF e) hc hN hy hyl hsw hi ok hg ht he hs) ?_
  rintro D σ H ⟨w, ρ, rfl, F, E, q⟩
  refine sub_lc _ _ _ ⟨w, ρ, rfl, F, E, HoldsS.thn E q fun d w1 g1 F1 E1 q1 v rv => q1.next' F1 (E1.set rv)⟩
end
end Mi
namespace Mi
open PySem PySem.Spec PyProof.Rows L2
variable [Tb]

/-! ### no cells within -/
mutual
@[simp] def clean : D → Bool
  | .lst xs => cleanL xs
  | .tup xs => cleanL xs
  | .dic _ xs => cleanL xs
  | .set xs => cleanL xs
  | .cell _ => false
  | _ => true
@[simp] def cleanL : List D → Bool
  | [] => true
  | x :: xs => clean x && cleanL xs
end
section
variable {K : PySem.W.Frag} {S : Addr → Prop} {μ μ' : List Addr} {H : Hp}
mutual
theorem Rep.uncell : ∀ {v : V} {d : D}, Rep K S μ H v d → clean d = true → Rep K S μ' H v d
  | _, _, .non, _ => .non
  | _, _, .bl b, _ => .bl b
  | _, _, .int b, _ => .int b
  | _, _, .str b h h', _ => .str b h h'
  | _, _, .lst h1 h2 h3 h4, c => .lst h1 h2 h3 (Reps.uncell h4 (by unfold clean at c; exact c))
  | _, _, .tup h1 h2 h3 h4, c => .tup h1 h2 h3 (Reps.uncell h4 (by unfold clean at c; exact c))
  | _, _, .dic h1 h2 h3 h4, c => .dic h1 h2 h3 (Reps.uncell h4 (by unfold clean at c; exact c))
  | _, _, .cell _, c => by unfold clean at c; cases c
  | _, _, .ref a, _ => .ref a
  | _, _, .ty a, _ => .ty a
  | _, _, .scr h1 h2, _ => .scr h1 h2
theorem Reps.uncell : ∀ {v : List V} {d : List D}, Reps K S μ H v d → cleanL d = true → Reps K S μ' H v d
  | _, _, .nil, _ => .nil
  | _, _, .cons h t, c => by
    unfold cleanL at c
    rw [Bool.and_eq_true] at c
    exact .cons (Rep.uncell h c.1) (Reps.uncell t c.2)
end
end
/-! ### pure defs -/
inductive PR where
  | ok (d : D) | raise (c : Str) | stuck
def fnOf (p n : Nat) (s : SM) (ds : List D) : PR := match s (ds.map some ++ List.replicate (n - p) none) [] with
  | .ret d _ => if clean d = true then .ok d else .stuck
  | .next _ _ => .ok .non
  | .exc c _ _ => .raise c
  | _ => .stuck
def W0 (S : Addr → Prop) (H : Hp) : Wd := ⟨S, [], [], H⟩
structure Good (S : Addr → Prop) (H : Hp) : Prop where
  dom : ∀ a, S a → H a ≠ none
  tabs : LamX.Tabs Tb.T H
  nt : ∀ a ps, S a → H a ≠ some (.tbl ps)
theorem Fits.good {K : PySem.W.Frag} {w : Wd} (F : Fits K w) : Good w.S w.H := ⟨F.dom, F.tabs, F.nt⟩
def spF (K : PySem.W.Frag) (mg : Str → Option Value) (n : Nat) (F : List D → PR) : Sp := fun vs H Q E => ∃ S ds, vs.length = n ∧ Good S H ∧ Reps K S [] H vs ds ∧ match F ds with
  | .ok d => ∀ v S' H', Grow (W0 S H) (W0 S' H') → Good S' H' → Rep K S' [] H' v d → Q v H'
  | .raise c => ∀ u S' H', Grow (W0 S H) (W0 S' H') → Good S' H' → mg c = some u → E u none H'
  | .stuck => False
theorem w0_fits {K : PySem.W.Frag} {S : Addr → Prop} {H : Hp} (h : Good S H) : Fits K (W0 S H) := ⟨rfl, List.nodup_nil, h.dom, (fun _ z => nomatch z), (fun n a c z => by cases n <;> cases z), h.tabs, h.nt⟩
theorem w0_grow {S : Addr → Prop} {H : Hp} {w : Wd} (g : Grow (W0 S H) w) : Grow (W0 S H) (W0 w.S w.H) :=
  ⟨g.S, g.S', List.prefix_refl _, fun _ h => .inl h, g.fr, g.fz, g.tb⟩
section
variable {P : Program} {w : World} {K : PySem.W.Frag} {mg : Str → Option Value} {base : Heap}
theorem start_rep {K : PySem.W.Frag} {wd : Wd} {N : List Str} {vs : List V} {ds : List D} (r : wd.reps K vs ds) : EnvRep K wd (ds.map some ++ List.replicate (N.length - vs.length) none) (start N vs) := by
  refine ⟨?_, fun i d h => ?_⟩
  · unfold L2.start
    simp [r.length]
  · unfold L2.start
    by_cases hi : i < ds.length
    · rw [List.getElem?_append_left (by simpa using hi), List.getElem?_map, List.getElem?_eq_getElem hi] at h
      simp only [Option.map_some, Option.some.injEq] at h
      subst h
      obtain ⟨v, h1, h2⟩ := r.get (List.getElem?_eq_getElem hi)
      refine ⟨v, ?_, h2⟩
      rw [List.getElem?_append_left (by simpa [r.length] using hi), List.getElem?_map, h1]
      rfl
    · rw [List.getElem?_append_right (by simpa using hi)] at h
      rw [List.getElem?_replicate] at h
      split at h <;> cases h
theorem fn_ok {x qual : Str} {st : Stmt} {f : Addr} {fd : FuncData} {N ps : List Str} {k : Nat} {body : SM} (F : Fun K x qual st f fd) (S : FnScope N ps (defScope st))
    (hb : ∀ (cdv : Value) (A : Around) (outer : List PySem.Env) (s : Shared) (H : Hp) (E : XK), Room k (A.deeper (envOfC qual (defScope st) s.heap.objs.size f cdv)) → MSs (cxOf (L2.CX P w) P w K mg base N qual (defScope st) f cdv A outer s H E) (fun cls d _ H => E cls d H) (defBody st) body) :
    FnOk P w K mg base (L2.CX P w) (k + 1) f fd ps (spF K mg ps.length (fnOf ps.length N.length body)) := by
  refine Fun.okX F S (fun vs H Q E h => ?_) (fun cdv A outer s H vs Q E hr h => ⟨_, hb cdv A outer s H E hr, ?_⟩)
  · obtain ⟨S, ds, h, _⟩ := h; exact h
  · obtain ⟨S, ds, hl, hd, r, q⟩ := h
    refine ⟨W0 S H, ds.map some ++ List.replicate (N.length - ps.length) none, rfl, w0_fits hd, hl ▸ start_rep r, ?_⟩
    unfold fnOf at q
    show HoldsS K mg _ (W0 S H) (body _ []) _
    cases z : body (ds.map some ++ List.replicate (N.length - ps.length) none) [] with
    | ret d ω =>
      rw [z] at q
      dsimp only at q
      by_cases c : clean d = true
      · rw [if_pos c] at q
        exact fun w' v g F' e rv => q v w'.S w'.H (w0_grow g) F'.good (Rep.uncell rv c)
      · rw [if_neg c] at q; exact q.elim
    | next ρ ω =>
      rw [z] at q
      exact fun w' σ' g F' e rv => q .non w'.S w'.H (w0_grow g) F'.good .non
    | exc c ρ ω =>
      rw [z] at q
      exact fun w' σ' u g F' e rv m => q u w'.S w'.H (w0_grow g) F'.good m
    | brk ρ ω => rw [z] at q; exact q.elim
    | cont ρ ω => rw [z] at q; exact q.elim
    | stuck => rw [z] at q; exact q.elim
end
def callP (n : Nat) (F : List D → PR) (ds : List D) : M D := fun ω => if ds.length = n ∧ cleanL ds = true then (match F ds with
    | .ok d => .ok d ω
    | .raise c => .raise c ω
    | .stuck => .stuck) else .stuck
/-- behind a pure call: the world goes on -/
theorem CellOk.at {K : PySem.W.Frag} {w : Wd} {a : Addr} {c : Cell} (h : CellOk K w a c) (hd : c ≠ .dead) : ∃ o, w.H a = some o ∧ ∀ ps, o ≠ .tbl ps := by
  cases c with
  | dead => exact absurd rfl hd
  | lst xs => obtain ⟨vs, h1, _⟩ := h; exact ⟨_, h1, fun _ z => nomatch z⟩
  | dic ks xs => obtain ⟨vs, h1, _⟩ := h; exact ⟨_, h1, fun _ z => nomatch z⟩
  | ins C fs => obtain ⟨Ca, dx, vs, _, h2, _⟩ := h; exact ⟨_, h2, fun _ z => nomatch z⟩
  | llst xs => obtain ⟨o, vs, h1, _⟩ := h; exact ⟨_, h1, fun _ z => nomatch z⟩
  | ldic ks xs => obtain ⟨o, vs, h1, _⟩ := h; exact ⟨_, h1, fun _ z => nomatch z⟩
theorem call_world {K : PySem.W.Frag} {w : Wd} {S' : Addr → Prop} {H' : Hp} (F : Fits K w) (g : Grow (W0 w.S w.H) (W0 S' H')) (hd : Good S' H') : Grow w ⟨S', w.μ, w.ω, H'⟩ ∧ Fits K ⟨S', w.μ, w.ω, H'⟩ := by
  have keep : ∀ a o, w.H a = some o → (∀ ps, o ≠ .tbl ps) → H' a = some o := fun a o h n => g.fr a o h (.inr ⟨(fun z => nomatch z), n⟩)
  have gw : Grow w ⟨S', w.μ, w.ω, H'⟩ := by
    refine ⟨g.S, fun a h => ?_, List.prefix_refl _, fun _ h => .inl h, fun a o h k => k.elim (fun z => g.fr a o h (.inl z)) fun z => keep a o h z.2, g.fz, g.tb⟩
    rcases g.S' a h with h | h | h
    · exact .inl h
    · exact .inr (.inl h)
    · exact nomatch h
  refine ⟨gw, F.len, F.nd, hd.dom, fun a h => ?_, fun n a c h1 h2 => ?_, hd.tabs, hd.nt⟩
  · cases q : w.H a with
    | none => exact absurd q (F.domμ a h)
    | some o => exact g.some (a := a) q (fun z => nomatch z)
  · have ha : w.H a ≠ none := F.domμ a (List.mem_of_getElem? h1)
    rcases F.live n a c h1 h2 with h | ⟨h, h'⟩
    · exact .inl h
    · by_cases hc : c = .dead
      · exact .inl hc
      · obtain ⟨o, ho, hn⟩ := h'.at hc
        refine .inr ⟨fun z => ?_, h'.mono ((keep a o ho hn).trans ho.symm) fun vs ds r => gw.reps r⟩
        rcases g.S' a z with q | q | q
        · exact h q
        · exact ha q
        · exact nomatch q
section
variable {X : Cx} {W : WX} {a b : Expr} {es : List Expr} {fs : Env → M (List D)} {f g : Env → M D} {pos p : Pos}
theorem me_call {k : Nat} {fa : Addr} {fd : FuncData} {ps : List Str} {Fn : List D → PR} {x : Str} (G : FnOk X.prog X.w X.K X.mg X.base (L2.CX X.prog X.w) k fa fd ps (spF X.K X.mg ps.length Fn)) (hr : Room k X.A) (hg : Gl X x) (hm : X.mg x = some (.ref fa)) (hk : PySem.W.keepIn X.K (.ref fa) = true)
    (hb : Binds X.K fd ps []) (tk : Takes X W) (ha : MA X W (a :: es) fs) (hdb : (x == ("__debug__" : Str)) = false := by decide) (he : starEach (a :: es) X.env = (false, eval a X.env) :: starEach es X.env := by rfl) (hpl : (backTo pos (starEach es X.env)).any (·.1) = false := by rfl) :
    ME X W (.Call (.Name x p) (a :: es) [] pos) (eN (callP ps.length Fn) fs) := by
  refine PE.sub (pe_callS G hr hg hm hk hb (fun σ => passAt tk σ) ha hdb he hpl) ?_
  rintro σ H Q ⟨w, ρ, rfl, F, E, h⟩
  refine ⟨w, ρ, rfl, F, E, Holds.thn h fun ds w1 g1 F1 h1 xs rs => ?_⟩
  unfold callP at h1
  by_cases c : ds.length = ps.length ∧ cleanL ds = true
  · rw [if_pos c] at h1
    refine ⟨w1.S, ds, rs.length.trans c.1, F1.good, Reps.uncell rs c.2, ?_⟩
    cases z : Fn ds with
    | ok d =>
      rw [z] at h1
      intro v S' H' gg hd rv
      obtain ⟨g2, F2⟩ := call_world F1 gg hd
      exact h1 _ g2 F2 rfl v (Rep.mono (fun _ h => h) (fun n a h => by simp at h) (fun _ _ _ h => h) rv)
    | raise c =>
      rw [z] at h1
      intro u S' H' gg hd m
      obtain ⟨g2, F2⟩ := call_world F1 gg hd
      exact h1 _ u g2 F2 rfl m
    | stuck => rw [z] at h1; exact h1.elim
  · rw [if_neg c] at h1; exact h1.elim
end
end Mi
namespace Mi
open PySem PySem.Spec PyProof.Rows L2
variable [Tb]

/-! ### reading a cell's content -/
inductive Shal (K : PySem.W.Frag) (w : Wd) : V → D → Prop
  | of {v : V} {d : D} : w.rep K v d → Shal K w v d
  | lst {a : Addr} {vs : List V} {ds : List D} : w.H a = some (.lst vs) → vs.length ≤ sizeLine → w.reps K vs ds → Shal K w (.ref a) (.lst ds)
  | dic {a : Addr} {kvs : List (Key × V)} {ds : List D} : Rd w.H a (.dK kvs) → kvs.length ≤ sizeLine → w.reps K (kvs.map (·.2)) ds → Shal K w (.ref a) (.dic (kvs.map (·.1)) ds)
def drf (d : D) : M D := fun ω => match d with
  | .cell n => match ω[n]? with
    | some (.lst xs) => .ok (.lst xs) ω
    | some (.dic ks xs) => .ok (.dic ks xs) ω
    | some (.ldic ks xs) => .ok (.dic ks xs) ω
    | _ => .stuck
  | d => .ok d ω
section
variable {X : Cx} {W : WX} {a b : Expr} {es : List Expr} {fs : Env → M (List D)} {f g : Env → M D} {pos p : Pos}
theorem drf_thn {α : Type} {K : PySem.W.Frag} {mg : Str → Option Value} {σ : L2.St} {w : Wd} {d : D} {v : V} {k : D → M α} {P : α → Wd → Prop} {R : Prop} (F : Fits K w) (h : Holds K mg W σ w ((drf d).bind k w.ω) P) (r : w.rep K v d)
    (hk : ∀ d', Shal K w v d' → Holds K mg W σ w (k d' w.ω) P → R) : R := by
  unfold drf M.bind at h
  cases r with
  | @cell n a hn =>
    dsimp only at h
    cases z : w.ω[n]? with
    | none => rw [z] at h; exact h.elim
    | some c =>
      rw [z] at h
      rcases F.live n a c hn z with e | ⟨_, ok⟩
      · subst e; exact h.elim
      · cases c with
        | dead => exact h.elim
        | lst xs => obtain ⟨vs, h1, h2, h3⟩ := ok; exact hk _ (.lst h1 h2 h3) h
        | dic ks xs => obtain ⟨kvs, h1, h2, rfl, h3⟩ := ok; exact hk _ (.dic (.inl h1) h2 h3) h
        | ins C fs => exact h.elim
        | llst xs => exact h.elim
        | ldic ks xs => obtain ⟨o, kvs, h1, h2, rfl, h3⟩ := ok; exact hk _ (.dic (.inr ⟨o, h1⟩) h2 h3) h
  | non => exact hk _ (.of .non) h
  | bl x => exact hk _ (.of (.bl x)) h
  | int x => exact hk _ (.of (.int x)) h
  | str x q q' => exact hk _ (.of (.str x q q')) h
  | lst q1 q2 q3 q4 => exact hk _ (.of (.lst q1 q2 q3 q4)) h
  | tup q1 q2 q3 q4 => exact hk _ (.of (.tup q1 q2 q3 q4)) h
  | dic q1 q2 q3 q4 => exact hk _ (.of (.dic q1 q2 q3 q4)) h
  | ref x => exact hk _ (.of (.ref x)) h
  | ty x => exact hk _ (.of (.ty x)) h
  | scr q1 q2 => exact hk _ (.of (.scr q1 q2)) h
@[simp] def d2 (o : D → D → M D) : D → D → M D := fun d e => (drf d).bind fun d' => (drf e).bind fun e' => o d' e'
@[simp] def d1 (o : D → M D) : D → M D := fun d => (drf d).bind o
theorem op2_drf {r : R2} {o : D → D → M D} (h : ∀ (W : WX) (σ : L2.St) (w : Wd) (x y : V) (d e : D) (Q : VK), Fits X.K w → Shal X.K w x d → Shal X.K w y e → Ans X.K X.mg W σ w (o d e) Q → r x y w.H Q) : Op2 X r (d2 o) := by
  intro W σ w x y d e Q F rx ry q
  exact drf_thn F q rx fun d' sx q' => drf_thn F q' ry fun e' sy q'' => h W σ w x y d' e' Q F sx sy q''
theorem op1_drf {r : V → Hp → VK → Prop} {o : D → M D} (h : ∀ (W : WX) (σ : L2.St) (w : Wd) (x : V) (d : D) (Q : VK), Fits X.K w → Shal X.K w x d → Ans X.K X.mg W σ w (o d) Q → r x w.H Q) : Op1 X r (d1 o) := by
  intro W σ w x d Q F rx q
  exact drf_thn F q rx fun d' sx q' => h W σ w x d' Q F sx q'
theorem Shal.dp {K : PySem.W.Frag} {w : Wd} {v : V} {d : D} {p : PyData} (s : Shal K w v d) (e : toP d = some p) : Dp K w.H v p := by
  cases s with
  | of r => exact r.dp e
  | @lst a vs ds h1 h2 h3 =>
    unfold toP at e
    cases q : toPs ds with
    | none => rw [q] at e; cases e
    | some ps => rw [q] at e; cases e; exact .lst (.of h1) (h3.dp q)
  | dic _ _ _ => unfold toP at e; cases e
theorem op2_eqC : Op2 X (rEqD X.K) (d2 oEq) := op2_drf fun W σ w x y d e Q F sx sy h => by
  unfold oEq at h
  cases q : pyEq d e with
  | none => rw [q] at h; exact h.no
  | some b =>
    rw [q] at h
    obtain ⟨p, p', h1, h2, h3, h4, rfl⟩ := pyEq_some q
    exact ⟨p, p', sx.dp h1, sy.dp h2, h3, h4, Ans.val F h (.bl _)⟩
theorem op2_neC : Op2 X (rNeD X.K) (d2 oNe) := op2_drf fun W σ w x y d e Q F sx sy h => by
  unfold oNe at h
  cases q : pyEq d e with
  | none => rw [q] at h; exact h.no
  | some b =>
    rw [q] at h
    obtain ⟨p, p', h1, h2, h3, h4, rfl⟩ := pyEq_some q
    exact ⟨p, p', sx.dp h1, sy.dp h2, h3, h4, Ans.val F h (.bl _)⟩
theorem me_eq {k : Nat} (hr : Room k X.A) (ha : ME X W a f) (hb : ME X W b g) : ME X W (.Compare a [.Eq] [b] pos) (e2 (d2 oEq) f g) := me_cmp (op_eqD hr.units) op2_eqC ha hb (nomark _)
theorem me_ne {k : Nat} (hr : Room k X.A) (ha : ME X W a f) (hb : ME X W b g) : ME X W (.Compare a [.NotEq] [b] pos) (e2 (d2 oNe) f g) := me_cmp (op_neD hr.units) op2_neC ha hb (nomark _)
theorem me_lt (ha : ME X W a f) (hb : ME X W b g) : ME X W (.Compare a [.Lt] [b] pos) (e2 oLt f g) := me_cmp op_ltA op2_cmp ha hb (nomark _)
theorem me_le (ha : ME X W a f) (hb : ME X W b g) : ME X W (.Compare a [.LtE] [b] pos) (e2 oLe f g) := me_cmp op_leA op2_cmp ha hb (nomark _)
theorem me_gt (ha : ME X W a f) (hb : ME X W b g) : ME X W (.Compare a [.Gt] [b] pos) (e2 oGt f g) := me_cmp op_gtA op2_cmp ha hb (nomark _)
theorem me_ge (ha : ME X W a f) (hb : ME X W b g) : ME X W (.Compare a [.GtE] [b] pos) (e2 oGe f g) := me_cmp op_geA op2_cmp ha hb (nomark _)
theorem me_isN (ha : ME X W a f) (hb : ME X W b g) : ME X W (.Compare a [.Is] [b] pos) (e2 oIsN f g) := me_cmp op_isN op2_isN ha hb (nomark _)
theorem me_notN (ha : ME X W a f) (hb : ME X W b g) : ME X W (.Compare a [.IsNot] [b] pos) (e2 oNotN f g) := me_cmp op_notN op2_notN ha hb (nomark _)
theorem mt_eq {k : Nat} (hr : Room k X.A) (ha : ME X W a f) (hb : ME X W b g) : MT X W (.Compare a [.Eq] [b] pos) (tst (e2 (d2 oEq) f g)) := mt_cmp (op_eqD hr.units) op2_eqC ha hb (nomark _)
theorem mt_ne {k : Nat} (hr : Room k X.A) (ha : ME X W a f) (hb : ME X W b g) : MT X W (.Compare a [.NotEq] [b] pos) (tst (e2 (d2 oNe) f g)) := mt_cmp (op_neD hr.units) op2_neC ha hb (nomark _)
theorem mt_lt (ha : ME X W a f) (hb : ME X W b g) : MT X W (.Compare a [.Lt] [b] pos) (tst (e2 oLt f g)) := mt_cmp op_ltA op2_cmp ha hb (nomark _)
theorem mt_le (ha : ME X W a f) (hb : ME X W b g) : MT X W (.Compare a [.LtE] [b] pos) (tst (e2 oLe f g)) := mt_cmp op_leA op2_cmp ha hb (nomark _)
theorem mt_gt (ha : ME X W a f) (hb : ME X W b g) : MT X W (.Compare a [.Gt] [b] pos) (tst (e2 oGt f g)) := mt_cmp op_gtA op2_cmp ha hb (nomark _)
theorem mt_ge (ha : ME X W a f) (hb : ME X W b g) : MT X W (.Compare a [.GtE] [b] pos) (tst (e2 oGe f g)) := mt_cmp op_geA op2_cmp ha hb (nomark _)
theorem mt_isN (ha : ME X W a f) (hb : ME X W b g) : MT X W (.Compare a [.Is] [b] pos) (tst (e2 oIsN f g)) := mt_cmp op_isN op2_isN ha hb (nomark _)
theorem mt_notN (ha : ME X W a f) (hb : ME X W b g) : MT X W (.Compare a [.IsNot] [b] pos) (tst (e2 oNotN f g)) := mt_cmp op_notN op2_notN ha hb (nomark _)
theorem me_lele {c : Expr} {h : Env → M D} (ha : ME X W a f) (hb : ME X W b g) (hc : ME X W c h) (hm : lastMarks [.LtE, .LtE] [b, c] = false := by with_unfolding_all rfl) : ME X W (.Compare a [.LtE, .LtE] [b, c] pos) (eChain oLe oLe f g h) := me_chain op_leA op_leA op2_cmp op2_cmp ha hb hc hm
theorem mt_lele {c : Expr} {h : Env → M D} (ha : ME X W a f) (hb : ME X W b g) (hc : ME X W c h) (hm : lastMarks [.LtE, .LtE] [b, c] = false := by with_unfolding_all rfl) : MT X W (.Compare a [.LtE, .LtE] [b, c] pos) (tst (eChain oLe oLe f g h)) := mt_chain op_leA op_leA op2_cmp op2_cmp ha hb hc hm

/-! in, not in -/
def rInA (K : PySem.W.Frag) (neg : Bool) : R2 := fun x y H Q => ∃ d ds, Dp K H x d ∧ (Dp K H y (.list ds) ∨ Dp K H y (.tuple ds)) ∧ SeqAt.shaped d = true ∧ SeqAt.shaped (.list ds) = true ∧ Q (.bl (neg ^^ ds.any fun z => PyData.eqv z d)) H
theorem canLay_tup {ds : List PyData} (h : SeqAt.shaped (.list ds) = true) : (PyData.tuple ds).canLay0 = true := by
  have h' := SeqAt.canLay_of_shaped h
  unfold PyData.canLay0 at *
  exact h'
theorem op_inA (hu : X.A.units + 65 < cLine) : OpR X (compareOp .In) (rInA X.K false) := by
  intro pins s σ H x y v u Q I rx ry h
  obtain ⟨d, ds, hd, he, sd, se, q⟩ := h
  rw [Bool.false_xor] at q
  obtain ⟨as, r1⟩ := Dp.reads I d x v hd rx
  rcases he with he | he
  · obtain ⟨bs, r2⟩ := Dp.reads I (.list ds) y u he ry
    exact SeqAt.in_list_reads r2 r1 (SeqAt.canLay_of_shaped se) (SeqAt.canLay_of_shaped sd) (room_in_shaped sd hu) ⟨.bl _, H, I, rfl, q⟩
  · obtain ⟨bs, r2⟩ := Dp.reads I (.tuple ds) y u he ry
    exact SeqAt.in_tuple_reads r2 r1 (canLay_tup se) (SeqAt.canLay_of_shaped sd) (room_in_shaped sd hu) ⟨.bl _, H, I, rfl, q⟩
theorem op_notInA (hu : X.A.units + 65 < cLine) : OpR X (compareOp .NotIn) (rInA X.K true) := by
  intro pins s σ H x y v u Q I rx ry h
  obtain ⟨d, ds, hd, he, sd, se, q⟩ := h
  rw [Bool.true_xor] at q
  obtain ⟨as, r1⟩ := Dp.reads I d x v hd rx
  rcases he with he | he
  · obtain ⟨bs, r2⟩ := Dp.reads I (.list ds) y u he ry
    exact SeqAt.notIn_list_reads r2 r1 (SeqAt.canLay_of_shaped se) (SeqAt.canLay_of_shaped sd) (room_in_shaped sd hu) ⟨.bl _, H, I, rfl, q⟩
  · obtain ⟨bs, r2⟩ := Dp.reads I (.tuple ds) y u he ry
    exact SeqAt.notIn_tuple_reads r2 r1 (canLay_tup se) (SeqAt.canLay_of_shaped sd) (room_in_shaped sd hu) ⟨.bl _, H, I, rfl, q⟩
@[simp] def oIn (neg : Bool) (d e : D) : M D := match e with
  | .lst xs => match anyEq d xs with
    | some b => M.ret (.bl (neg ^^ b))
    | none => M.stuck
  | .tup xs => match anyEq d xs with
    | some b => M.ret (.bl (neg ^^ b))
    | none => M.stuck
  | _ => M.stuck
theorem Shal.dpL {K : PySem.W.Frag} {w : Wd} {v : V} {xs : List D} {ps : List PyData} (s : Shal K w v (.lst xs)) (e : toPs xs = some ps) : Dp K w.H v (.list ps) := s.dp (by unfold toP; rw [e])
theorem Shal.dpT {K : PySem.W.Frag} {w : Wd} {v : V} {xs : List D} {ps : List PyData} (s : Shal K w v (.tup xs)) (e : toPs xs = some ps) : Dp K w.H v (.tuple ps) := s.dp (by unfold toP; rw [e])
theorem op2_in {neg : Bool} : Op2 X (rInA X.K neg) (d2 (oIn neg)) := op2_drf fun W σ w x y d e Q F sx sy h => by
  unfold oIn at h
  cases e with
  | lst xs =>
    dsimp only at h
    cases q : anyEq d xs with
    | none => rw [q] at h; exact h.no
    | some b =>
      rw [q] at h
      obtain ⟨p, ps, h1, h2, h3, h4, rfl⟩ := anyEq_some q
      exact ⟨p, ps, sx.dp h1, .inl (sy.dpL h2), h3, h4, Ans.val F h (.bl _)⟩
  | tup xs =>
    dsimp only at h
    cases q : anyEq d xs with
    | none => rw [q] at h; exact h.no
    | some b =>
      rw [q] at h
      obtain ⟨p, ps, h1, h2, h3, h4, rfl⟩ := anyEq_some q
      exact ⟨p, ps, sx.dp h1, .inr (sy.dpT h2), h3, h4, Ans.val F h (.bl _)⟩
  | _ => exact h.no
theorem room65 {k : Nat} {A : Around} (r : Room k A) : A.units + 65 < cLine := by have := r.un; omega
theorem me_in {k : Nat} (hr : Room k X.A) (ha : ME X W a f) (hb : ME X W b g) (hm : behindInMarks .In b = false := by rfl) : ME X W (.Compare a [.In] [b] pos) (e2 (d2 (oIn false)) f g) := me_cmp (op_inA (room65 hr)) op2_in ha hb hm
theorem me_notIn {k : Nat} (hr : Room k X.A) (ha : ME X W a f) (hb : ME X W b g) (hm : behindInMarks .NotIn b = false := by rfl) : ME X W (.Compare a [.NotIn] [b] pos) (e2 (d2 (oIn true)) f g) := me_cmp (op_notInA (room65 hr)) op2_in ha hb hm
theorem mt_in {k : Nat} (hr : Room k X.A) (ha : ME X W a f) (hb : ME X W b g) (hm : behindInMarks .In b = false := by rfl) : MT X W (.Compare a [.In] [b] pos) (tst (e2 (d2 (oIn false)) f g)) := mt_cmp (op_inA (room65 hr)) op2_in ha hb hm
theorem mt_notIn {k : Nat} (hr : Room k X.A) (ha : ME X W a f) (hb : ME X W b g) (hm : behindInMarks .NotIn b = false := by rfl) : MT X W (.Compare a [.NotIn] [b] pos) (tst (e2 (d2 (oIn true)) f g)) := mt_cmp (op_notInA (room65 hr)) op2_in ha hb hm

/-! len, indices, slices -/
@[simp] def oLen : D → M D
  | .lst xs => M.ret (.int (xs.length : Nat))
  | .tup xs => M.ret (.int (xs.length : Nat))
  | .scr xs => M.ret (.int (xs.length : Nat))
  | .str x => M.ret (.int (x.length : Nat))
  | _ => M.stuck
theorem op1_len : Op1 X (fun x H Q => ∃ y n, [x] = [y] ∧ LenV X.K y H n ∧ Q (.int n) H) (d1 oLen) := op1_drf fun W σ w x d Q F sx h => by
  cases sx with
  | lst h1 h2 h3 => refine ⟨_, _, rfl, .inl ⟨_, .of h1, rfl⟩, ?_⟩; rw [h3.length]; exact Ans.val F h (.int _)
  | dic _ _ _ => exact h.no
  | of r => cases r with
    | str y hy hy' => exact ⟨_, _, rfl, ⟨hy, rfl⟩, Ans.val F h (.int _)⟩
    | lst _ h1 h2 h3 => refine ⟨_, _, rfl, .inl ⟨_, .of h1, rfl⟩, ?_⟩; rw [h3.length]; exact Ans.val F h (.int _)
    | tup _ h1 h2 h3 => refine ⟨_, _, rfl, .inr ⟨_, .of h1, rfl⟩, ?_⟩; rw [h3.length]; exact Ans.val F h (.int _)
    | scr _ h1 => refine ⟨_, _, rfl, .inl ⟨_, h1, rfl⟩, ?_⟩; rw [List.length_map]; exact Ans.val F h (.int _)
    | _ => exact h.no
theorem me_len (hg : Gl X "len") (hm : X.mg "len" = none) (ha : MA X W [a] fs) (he : starEach [a] X.env = (false, eval a X.env) :: starEach [] X.env := by rfl) (hpl : (backTo pos (starEach [] X.env)).any (·.1) = false := by rfl) : ME X W (.Call (.Name "len" p) [a] [] pos) (eN (one (d1 oLen)) fs) := me_callB call_len (opN_one op1_len) hg hm PySem.boot_len ha (by decide) (by decide) he hpl
theorem reps_atI {K : PySem.W.Frag} {S : Addr → Prop} {μ : List Addr} {H : Hp} {vs : List V} {ds : List D} {i : Int} {d : D} (r : Reps K S μ H vs ds) (h : atI ds i = some d) : ∃ v, atI vs i = some v ∧ Rep K S μ H v d := by
  unfold atI at *
  rw [r.length]
  cases q : ixN ds.length i with
  | none => rw [q] at h; cases h
  | some j => rw [q] at h; exact r.get h
def oAt {α : Type} (xs : List α) (i : Int) (k : α → D) : M D := match atI xs i with
  | some d => M.ret (k d)
  | none => M.stuck
@[simp] def oIx : D → D → M D
  | .lst xs, .int i => oAt xs i id
  | .tup xs, .int i => oAt xs i id
  | .scr ns, .int i => oAt ns i D.int
  | .str x, .int i => oAt x.cps.toList i fun c => .str ⟨#[c]⟩
  | _, _ => M.stuck
theorem oAt_thn {α : Type} {K : PySem.W.Frag} {mg : Str → Option Value} {σ : L2.St} {w : Wd} {xs : List α} {i : Int} {k : α → D} {Q : VK} (h : Ans K mg W σ w (oAt xs i k) Q) : ∃ d, atI xs i = some d ∧ Ans K mg W σ w (M.ret (k d)) Q := by
  unfold oAt at h
  cases q : atI xs i with
  | none => rw [q] at h; exact h.no
  | some d => rw [q] at h; exact ⟨d, rfl, h⟩
theorem atI_map {α β : Type} (g : α → β) (xs : List α) (i : Int) : atI (xs.map g) i = (atI xs i).map g := by
  unfold atI
  rw [List.length_map]
  cases ixN xs.length i with
  | none => rfl
  | some j => simp
theorem atI_mem {α : Type} {xs : List α} {i : Int} {d : α} (h : atI xs i = some d) : ∃ j : Nat, xs[j]? = some d := by
  unfold atI at h
  cases q : ixN xs.length i with
  | none => rw [q] at h; cases h
  | some j => rw [q] at h; exact ⟨j, h⟩
theorem op2_ix : Op2 X (rIx X.K) (d2 oIx) := op2_drf fun W σ w x y d e Q F sx sy h => by
  have hi : ∀ {i : Int}, Shal X.K w y (.int i) → y = .int i := fun s => by cases s with | of r => cases r; rfl
  cases e with
  | int i =>
    have ey := hi sy
    subst ey
    cases sx with
    | lst h1 h2 h3 =>
      obtain ⟨d, e1, h⟩ := oAt_thn h
      obtain ⟨v, e2, r⟩ := reps_atI h3 e1
      exact .inl ⟨_, _, i, v, rfl, rfl, .of h1, e2, Ans.val F h r⟩
    | dic _ _ _ => exact h.no
    | of r => cases r with
      | lst _ h1 h2 h3 =>
        obtain ⟨d, e1, h⟩ := oAt_thn h
        obtain ⟨v, e2, r⟩ := reps_atI h3 e1
        exact .inl ⟨_, _, i, v, rfl, rfl, .of h1, e2, Ans.val F h r⟩
      | tup _ h1 h2 h3 =>
        obtain ⟨d, e1, h⟩ := oAt_thn h
        obtain ⟨v, e2, r⟩ := reps_atI h3 e1
        exact .inr (.inl ⟨_, _, i, v, rfl, rfl, .of h1, e2, Ans.val F h r⟩)
      | scr _ h1 =>
        obtain ⟨d, e1, h⟩ := oAt_thn h
        refine .inl ⟨_, _, i, .int d, rfl, rfl, h1, ?_, Ans.val F h (.int d)⟩
        rw [atI_map, e1]; rfl
      | str z hz hz' =>
        obtain ⟨c, e1, h⟩ := oAt_thn h
        obtain ⟨j, hj⟩ := atI_mem e1
        refine .inr (.inr ⟨z, i, c, rfl, rfl, hz, e1, Ans.val F h (.str _ (by show 1 ≤ sizeLine; decide) (str_one hz' (by rw [← Array.getElem?_toList]; exact hj)))⟩)
      | _ => exact h.no
  | _ => cases sx with
    | of r => cases r <;> exact h.no
    | _ => exact h.no
theorem me_ix (ha : ME X W a f) (hb : ME X W b g) (hs : PlainIx b := by intro _ _; rfl) : ME X W (.Subscript a b pos) (e2 (d2 oIx) f g) := PE.sub (pe_ix ix_seq ha hb hs) (sub2 op2_ix)
end
end Mi
namespace Mi
open PySem PySem.Spec PyProof.Rows L2
variable [Tb]
section
variable {X : Cx} {W : WX} {a b : Expr} {es : List Expr} {fs : Env → M (List D)} {f g : Env → M D} {pos p : Pos}
/-! ### built-ins -/
@[simp] def oAbs : D → M D
  | .int i => M.ret (.int (if i < 0 then -i else i))
  | _ => M.stuck
theorem op1_abs : Op1 X (fun x H Q => ∃ i, [x] = [V.int i] ∧ Q (.int (if i < 0 then -i else i)) H) oAbs := by
  intro W σ w x d Q F rx h
  cases rx with
  | int i => exact ⟨i, rfl, Ans.val F h (.int _)⟩
  | _ => exact h.no
theorem boot_abs' : bootBuiltins "abs" = some (.builtin "abs") := by decide +kernel
theorem boot_sum' : bootBuiltins "sum" = some (.builtin "sum") := by decide +kernel
theorem boot_all' : bootBuiltins "all" = some (.builtin "all") := by decide +kernel
theorem boot_max' : bootBuiltins "max" = some (.builtin "max") := by decide +kernel
theorem boot_min' : bootBuiltins "min" = some (.builtin "min") := by decide +kernel
theorem boot_isi' : bootBuiltins "isinstance" = some (.builtin "isinstance") := by decide +kernel
theorem boot_list' : bootBuiltins "list" = some (.type "list") := by decide +kernel
theorem boot_tuple' : bootBuiltins "tuple" = some (.type "tuple") := by decide +kernel
theorem boot_ty : ∀ t : Ty, bootBuiltins (Str.ofString t.name) = some (.type t.name) := by intro t; cases t <;> decide +kernel
theorem me_abs (hg : Gl X "abs") (hm : X.mg "abs" = none) (ha : MA X W [a] fs) (he : starEach [a] X.env = (false, eval a X.env) :: starEach [] X.env := by rfl) (hpl : (backTo pos (starEach [] X.env)).any (·.1) = false := by rfl) : ME X W (.Call (.Name "abs" p) [a] [] pos) (eN (one oAbs) fs) := me_callB call_abs (opN_one op1_abs) hg hm boot_abs' ha (by decide) (by decide) he hpl
@[simp] def oMax2 : D → D → M D
  | .int i, .int j => M.ret (.int (if j > i then j else i))
  | _, _ => M.stuck
@[simp] def oMin2 : D → D → M D
  | .int i, .int j => M.ret (.int (if j < i then j else i))
  | _, _ => M.stuck
theorem op2_max2 : Op2 X (fun x y H Q => ∃ i j, [x, y] = [V.int i, V.int j] ∧ Q (.int (if j > i then j else i)) H) oMax2 := by
  intro W σ w x y d e Q F rx ry h
  cases rx with
  | int i => cases ry with
    | int j => exact ⟨i, j, rfl, Ans.val F h (.int _)⟩
    | _ => exact h.no
  | _ => exact h.no
theorem op2_min2 : Op2 X (fun x y H Q => ∃ i j, [x, y] = [V.int i, V.int j] ∧ Q (.int (if j < i then j else i)) H) oMin2 := by
  intro W σ w x y d e Q F rx ry h
  cases rx with
  | int i => cases ry with
    | int j => exact ⟨i, j, rfl, Ans.val F h (.int _)⟩
    | _ => exact h.no
  | _ => exact h.no
theorem me_max2 (hc : X.calm = true) (hg : Gl X "max") (hm : X.mg "max" = none) (ha : MA X W [a, b] fs) (he : starEach [a, b] X.env = (false, eval a X.env) :: starEach [b] X.env := by rfl) (hpl : (backTo pos (starEach [b] X.env)).any (·.1) = false := by rfl) : ME X W (.Call (.Name "max" p) [a, b] [] pos) (eN (two oMax2) fs) := me_callB (call_max2 hc) (opN_two op2_max2) hg hm boot_max' ha (by decide) (by decide) he hpl
theorem me_min2 (hc : X.calm = true) (hg : Gl X "min") (hm : X.mg "min" = none) (ha : MA X W [a, b] fs) (he : starEach [a, b] X.env = (false, eval a X.env) :: starEach [b] X.env := by rfl) (hpl : (backTo pos (starEach [b] X.env)).any (·.1) = false := by rfl) : ME X W (.Call (.Name "min" p) [a, b] [] pos) (eN (two oMin2) fs) := me_callB (call_min2 hc) (opN_two op2_min2) hg hm boot_min' ha (by decide) (by decide) he hpl
def ints? : List D → Option (List Int)
  | [] => some []
  | .int i :: ds => match ints? ds with
    | some is => some (i :: is)
    | none => none
  | _ => none
def bools? : List D → Option (List Bool)
  | [] => some []
  | .bl i :: ds => match bools? ds with
    | some is => some (i :: is)
    | none => none
  | _ => none
theorem ints_reps {K : PySem.W.Frag} {S : Addr → Prop} {μ : List Addr} {H : Hp} : ∀ {vs : List V} {ds : List D} {ns : List Int}, Reps K S μ H vs ds → ints? ds = some ns → vs = ns.map V.int
  | _, _, _, .nil, e => by cases e; rfl
  | _, _, _, .cons (d := d) (ds := ds) h t, e => by
    cases h with
    | int i =>
      unfold ints? at e
      cases q : ints? ds with
      | none => rw [q] at e; cases e
      | some is => rw [q] at e; cases e; rw [ints_reps t q]; rfl
    | _ => unfold ints? at e; cases e
theorem bools_reps {K : PySem.W.Frag} {S : Addr → Prop} {μ : List Addr} {H : Hp} : ∀ {vs : List V} {ds : List D} {ns : List Bool}, Reps K S μ H vs ds → bools? ds = some ns → vs = ns.map V.bl
  | _, _, _, .nil, e => by cases e; rfl
  | _, _, _, .cons (d := d) (ds := ds) h t, e => by
    cases h with
    | bl i =>
      unfold bools? at e
      cases q : bools? ds with
      | none => rw [q] at e; cases e
      | some is => rw [q] at e; cases e; rw [bools_reps t q]; rfl
    | _ => unfold bools? at e; cases e
@[simp] def oSum : D → M D
  | .lst xs => match ints? xs with
    | some ns => M.ret (.int ns.sum)
    | none => M.stuck
  | _ => M.stuck
@[simp] def oAll : D → M D
  | .lst xs => match bools? xs with
    | some ns => M.ret (.bl (ns.all id))
    | none => M.stuck
  | _ => M.stuck
theorem op1_sum : Op1 X (fun x H Q => rSum X.K [x] H Q) (d1 oSum) := op1_drf fun W σ w x d Q F sx h => by
  have key : ∀ {a : Addr} {vs : List V} {ds : List D}, w.H a = some (.lst vs) → w.reps X.K vs ds → Ans X.K X.mg W σ w (oSum (.lst ds)) Q → rSum X.K [.ref a] w.H Q := fun {a vs ds} h1 h2 h3 => by
    dsimp only [oSum] at h3
    cases q : ints? ds with
    | none => rw [q] at h3; exact h3.no
    | some ns =>
      rw [q] at h3
      have e := ints_reps h2 q
      subst e
      exact ⟨a, ns, rfl, .of h1, Ans.val F h3 (.int _)⟩
  cases sx with
  | lst h1 h2 h3 => exact key h1 h3 h
  | dic _ _ _ => exact h.no
  | of r => cases r with
    | lst _ h1 _ h3 => exact key h1 h3 h
    | _ => exact h.no
theorem op1_all : Op1 X (fun x H Q => rAll X.K [x] H Q) (d1 oAll) := op1_drf fun W σ w x d Q F sx h => by
  have key : ∀ {a : Addr} {vs : List V} {ds : List D}, w.H a = some (.lst vs) → w.reps X.K vs ds → Ans X.K X.mg W σ w (oAll (.lst ds)) Q → rAll X.K [.ref a] w.H Q := fun {a vs ds} h1 h2 h3 => by
    dsimp only [oAll] at h3
    cases q : bools? ds with
    | none => rw [q] at h3; exact h3.no
    | some ns =>
      rw [q] at h3
      have e := bools_reps h2 q
      subst e
      exact ⟨a, ns, rfl, .of h1, Ans.val F h3 (.bl _)⟩
  cases sx with
  | lst h1 h2 h3 => exact key h1 h3 h
  | dic _ _ _ => exact h.no
  | of r => cases r with
    | lst _ h1 _ h3 => exact key h1 h3 h
    | _ => exact h.no
theorem me_sum (hc : X.calm = true) (hg : Gl X "sum") (hm : X.mg "sum" = none) (ha : MA X W [a] fs) (he : starEach [a] X.env = (false, eval a X.env) :: starEach [] X.env := by rfl) (hpl : (backTo pos (starEach [] X.env)).any (·.1) = false := by rfl) : ME X W (.Call (.Name "sum" p) [a] [] pos) (eN (one (d1 oSum)) fs) := me_callB (cr_sum hc) (opN_one op1_sum) hg hm boot_sum' ha (by decide) (by decide) he hpl
theorem me_all (hc : X.calm = true) (hg : Gl X "all") (hm : X.mg "all" = none) (ha : MA X W [a] fs) (he : starEach [a] X.env = (false, eval a X.env) :: starEach [] X.env := by rfl) (hpl : (backTo pos (starEach [] X.env)).any (·.1) = false := by rfl) : ME X W (.Call (.Name "all" p) [a] [] pos) (eN (one (d1 oAll)) fs) := me_callB (cr_all hc) (opN_one op1_all) hg hm boot_all' ha (by decide) (by decide) he hpl
/-! isinstance -/
theorem me_ty {x : Str} (t : Ty) (hx : x = Str.ofString t.name) (hg : Gl X x) (hm : X.mg x = none) (hn : x ≠ "__name__" := by decide) (hd : (x == ("__debug__" : Str)) = false := by decide) : ME X W (.Name x pos) (eC (.ty t)) :=
  me_c (pe_bltn (v := .ty t.name) hg hm (hx ▸ boot_ty t) rfl hn hd) fun _ _ _ _ => .ty t
@[simp] def isTy : D → Ty → Option Bool
  | .int _, t => some (match t with | .int => true | _ => false)
  | .bl _, t => some (match t with | .int => true | .bool => true | _ => false)
  | .str _, t => some (match t with | .str => true | _ => false)
  | .lst _, t => some (match t with | .list => true | _ => false)
  | .scr _, t => some (match t with | .list => true | _ => false)
  | .tup _, t => some (match t with | .tuple => true | _ => false)
  | .dic _ _, t => some (match t with | .dict => true | _ => false)
  | .non, _ => some false
  | _, _ => none
theorem kitTab : kitB "NoneType" "int" = some false := by decide +kernel
theorem rd_ty {K : PySem.W.Frag} {H : Hp} {a : Addr} {kvs : List (Key × V)} (h : Rd H a (.dK kvs)) : TyX K H (.ref a) (.type "dict") := by
  rcases h with h | ⟨o, h⟩
  · exact .base (.dK h)
  · exact .fDict h
theorem isTy_kit {K : PySem.W.Frag} {w : Wd} {v : V} {d : D} {t : Ty} {b : Bool} (s : Shal K w v d) (h : isTy d t = some b) : ∃ u, TyX K w.H v u ∧ PySem.W.kitOne K u (.type t.name) = some b := by
  have hs : ∀ {a : Addr} {ns : List Int}, SqL K w.H a (ns.map V.int) → TyX K w.H (.ref a) (.type "list") := fun {a ns} q => by
    rcases q with (q | ⟨o, q⟩) | ⟨o, its, n, q1, q2, _⟩
    · exact .base (.lst q)
    · exact .base (.frz q)
    · exact .kList q1 q2
  cases s with
  | lst h1 _ _ => exact ⟨_, .base (.lst h1), kit_ty (by cases t <;> cases h <;> decide +kernel)⟩
  | dic h1 _ _ => exact ⟨_, rd_ty h1, kit_ty (by cases t <;> cases h <;> decide +kernel)⟩
  | of r => cases r with
    | int i => exact ⟨_, .base (.int i), kit_ty (by cases t <;> cases h <;> decide +kernel)⟩
    | bl i => exact ⟨_, .base (.bl i), kit_ty (by cases t <;> cases h <;> decide +kernel)⟩
    | str i => exact ⟨_, .base (.str i), kit_ty (by cases t <;> cases h <;> decide +kernel)⟩
    | non => exact ⟨_, .base .non, kit_ty (by cases t <;> cases h <;> decide +kernel)⟩
    | lst _ h1 _ _ => exact ⟨_, .base (.lst h1), kit_ty (by cases t <;> cases h <;> decide +kernel)⟩
    | tup _ h1 _ _ => exact ⟨_, .base (.tup h1), kit_ty (by cases t <;> cases h <;> decide +kernel)⟩
    | dic _ h1 _ _ => exact ⟨_, .fDict h1, kit_ty (by cases t <;> cases h <;> decide +kernel)⟩
    | scr _ h1 => exact ⟨_, hs h1, kit_ty (by cases t <;> cases h <;> decide +kernel)⟩
    | _ => cases h
@[simp] def tys? : List D → Option (List Ty)
  | [] => some []
  | .ty i :: ds => match tys? ds with
    | some is => some (i :: is)
    | none => none
  | _ => none
@[simp] def isTys0 (d : D) : List Ty → Option Bool
  | [] => some false
  | t :: ts => match isTy d t with
    | some true => some true
    | some false => isTys0 d ts
    | none => none
@[simp] def isTys (d : D) : List Ty → Option Bool
  | [] => none
  | ts => isTys0 d ts
@[simp] def oIsi (d e : D) : M D := match e with
  | .ty t => match isTy d t with
    | some b => M.ret (.bl b)
    | none => M.stuck
  | .tup cs => match tys? cs with
    | some ts => match isTys d ts with
      | some b => M.ret (.bl b)
      | none => M.stuck
    | none => M.stuck
  | _ => M.stuck
theorem tys_reps {K : PySem.W.Frag} {S : Addr → Prop} {μ : List Addr} {H : Hp} : ∀ {vs : List V} {ds : List D} {ns : List Ty}, Reps K S μ H vs ds → tys? ds = some ns → vs = ns.map (fun t => V.ty t.name)
  | _, _, _, .nil, e => by cases e; rfl
  | _, _, _, .cons (d := d) (ds := ds) h t, e => by
    cases h with
    | ty i =>
      unfold tys? at e
      cases q : tys? ds with
      | none => rw [q] at e; cases e
      | some is => rw [q] at e; cases e; rw [tys_reps t q]; rfl
    | _ => unfold tys? at e; cases e
theorem cls_all : ∀ ts : List Ty, Paired ClsV (ts.map fun t => V.ty t.name) (ts.map fun t => Value.type t.name)
  | [] => .nil
  | t :: ts => .cons (.ty t.name) (cls_all ts)
theorem isTys_kit {K : PySem.W.Frag} {w : Wd} {v : V} {d : D} (s : Shal K w v d) : ∀ {ts : List Ty} {b : Bool}, isTys d ts = some b → ∃ u, TyX K w.H v u ∧ PySem.W.kitAny K u (ts.map fun t => .type t.name) = some b := by
  intro ts b h
  -- the type is the same for all
  have ty : ∀ t b, isTy d t = some b → ∃ u, TyX K w.H v u ∧ ∀ t' b', isTy d t' = some b' → PySem.W.kitOne K u (.type t'.name) = some b' := by
    intro t b h
    have hs : ∀ {a : Addr} {ns : List Int}, SqL K w.H a (ns.map V.int) → TyX K w.H (.ref a) (.type "list") := fun {a ns} q => by
      rcases q with (q | ⟨o, q⟩) | ⟨o, its, n, q1, q2, _⟩
      · exact .base (.lst q)
      · exact .base (.frz q)
      · exact .kList q1 q2
    cases s with
    | lst h1 _ _ => exact ⟨_, .base (.lst h1), fun t' b' h' => kit_ty (by cases t' <;> cases h' <;> decide +kernel)⟩
    | dic h1 _ _ => exact ⟨_, rd_ty h1, fun t' b' h' => kit_ty (by cases t' <;> cases h' <;> decide +kernel)⟩
    | of r => cases r with
      | int i => exact ⟨_, .base (.int i), fun t' b' h' => kit_ty (by cases t' <;> cases h' <;> decide +kernel)⟩
      | bl i => exact ⟨_, .base (.bl i), fun t' b' h' => kit_ty (by cases t' <;> cases h' <;> decide +kernel)⟩
      | str i => exact ⟨_, .base (.str i), fun t' b' h' => kit_ty (by cases t' <;> cases h' <;> decide +kernel)⟩
      | non => exact ⟨_, .base .non, fun t' b' h' => kit_ty (by cases t' <;> cases h' <;> decide +kernel)⟩
      | lst _ h1 _ _ => exact ⟨_, .base (.lst h1), fun t' b' h' => kit_ty (by cases t' <;> cases h' <;> decide +kernel)⟩
      | tup _ h1 _ _ => exact ⟨_, .base (.tup h1), fun t' b' h' => kit_ty (by cases t' <;> cases h' <;> decide +kernel)⟩
      | dic _ h1 _ _ => exact ⟨_, .fDict h1, fun t' b' h' => kit_ty (by cases t' <;> cases h' <;> decide +kernel)⟩
      | scr _ h1 => exact ⟨_, hs h1, fun t' b' h' => kit_ty (by cases t' <;> cases h' <;> decide +kernel)⟩
      | _ => cases h
  have go : ∀ (u : Value), (∀ t' b', isTy d t' = some b' → PySem.W.kitOne K u (.type t'.name) = some b') → ∀ (ts : List Ty) (b : Bool), isTys0 d ts = some b → PySem.W.kitAny K u (ts.map fun t => .type t.name) = some b := by
    intro u hu ts
    induction ts with
    | nil => intro b h; cases h; exact kitAny_nil
    | cons t ts ih =>
      intro b h
      unfold isTys0 at h
      cases q : isTy d t with
      | none => rw [q] at h; cases h
      | some b0 =>
        rw [q] at h
        cases b0 with
        | true => cases h; exact kitAny_cons (hu t _ q) (fun z => nomatch z) (fun _ => rfl)
        | false => exact kitAny_cons (hu t _ q) (fun _ => ih b h) (fun z => nomatch z)
  cases ts with
  | nil => cases h
  | cons t ts =>
    have : ∃ b0, isTy d t = some b0 := by
      have h : isTys0 d (t :: ts) = some b := h
      unfold isTys0 at h
      cases q : isTy d t with
      | none => rw [q] at h; cases h
      | some b0 => exact ⟨b0, rfl⟩
    obtain ⟨b0, hb⟩ := this
    obtain ⟨u, h1, h2⟩ := ty _ _ hb
    exact ⟨u, h1, go u h2 (t :: ts) b h⟩
theorem opN_isi : OpN X (fun xs H Q => rIsi X.K xs H Q ∨ rIsiT X.K xs H Q) (two fun d e => (drf d).bind fun d' => oIsi d' e) := opN_two fun W σ w x y d e Q F rx ry h => drf_thn F h rx fun d' sx h' => by
  unfold oIsi at h'
  cases ry with
  | ty t =>
    dsimp only at h'
    cases q : isTy d' t with
    | none => rw [q] at h'; exact h'.no
    | some b =>
      rw [q] at h'
      obtain ⟨u, h1, h2⟩ := isTy_kit sx q
      exact .inl ⟨x, _, u, _, b, rfl, .ty _, h1, h2, Ans.val F h' (.bl _)⟩
  | @tup c vs ds _ h1 _ h3 =>
    dsimp only at h'
    cases q : tys? ds with
    | none => rw [q] at h'; exact h'.no
    | some ts =>
      rw [q] at h'
      dsimp only at h'
      cases q2 : isTys d' ts with
      | none => rw [q2] at h'; exact h'.no
      | some b =>
        rw [q2] at h'
        have e := tys_reps h3 q
        subst e
        obtain ⟨u, k1, k2⟩ := isTys_kit sx q2
        exact .inr ⟨x, c, _, u, _, b, rfl, h1, cls_all ts, k1, k2, Ans.val F h' (.bl _)⟩
  | _ => exact h'.no
theorem call_isiA : CallR X (.builtin "isinstance") (fun xs H Q => rIsi X.K xs H Q ∨ rIsiT X.K xs H Q) := by
  intro pins s σ H xs us Q I rs h
  rcases h with h | h
  · exact call_isi pins s σ H xs us Q I rs h
  · exact call_isiT pins s σ H xs us Q I rs h
theorem me_isi (hg : Gl X "isinstance") (hm : X.mg "isinstance" = none) (ha : MA X W [a, b] fs) (he : starEach [a, b] X.env = (false, eval a X.env) :: starEach [b] X.env := by rfl) (hpl : (backTo pos (starEach [b] X.env)).any (·.1) = false := by rfl) : ME X W (.Call (.Name "isinstance" p) [a, b] [] pos) (eN (two fun d e => (drf d).bind fun d' => oIsi d' e) fs) := me_callB call_isiA opN_isi hg hm boot_isi' ha (by decide) (by decide) he hpl
/-! list(..), tuple(..) -/
@[simp] def oList : D → M D
  | .lst xs => M.ret (.lst xs)
  | .tup xs => M.ret (.lst xs)
  | _ => M.stuck
@[simp] def oTuple : D → M D
  | .lst xs => M.ret (.tup xs)
  | .tup xs => M.ret (.tup xs)
  | _ => M.stuck
theorem op1_list : Op1 X (fun x H Q => ∃ p ys, [x] = [V.ref p] ∧ (SqL X.K H p ys ∨ SqT X.K H p ys) ∧ ∀ l, H l = none → Q (.ref l) (upd H l (.lst ys))) (d1 oList) := op1_drf fun W σ w x d Q F sx h => by
  cases sx with
  | lst h1 h2 h3 => exact ⟨_, _, rfl, .inl (.of h1), Ans.lst F h h3 h2⟩
  | dic _ _ _ => exact h.no
  | of r => cases r with
    | lst _ h1 h2 h3 => exact ⟨_, _, rfl, .inl (.of h1), Ans.lst F h h3 h2⟩
    | tup _ h1 h2 h3 => exact ⟨_, _, rfl, .inr (.of h1), Ans.lst F h h3 h2⟩
    | _ => exact h.no
theorem op1_tuple : Op1 X (fun x H Q => ∃ p ys, [x] = [V.ref p] ∧ ((SqL X.K H p ys ∧ ∀ l, H l = none → Q (.ref l) (upd H l (.tup ys))) ∨ (SqT X.K H p ys ∧ Q (.ref p) H))) (d1 oTuple) := op1_drf fun W σ w x d Q F sx h => by
  cases sx with
  | lst h1 h2 h3 => exact ⟨_, _, rfl, .inl ⟨.of h1, Ans.tup F h h3 h2⟩⟩
  | dic _ _ _ => exact h.no
  | of r => cases r with
    | lst _ h1 h2 h3 => exact ⟨_, _, rfl, .inl ⟨.of h1, Ans.tup F h h3 h2⟩⟩
    | tup h0 h1 h2 h3 => exact ⟨_, _, rfl, .inr ⟨.of h1, Ans.val F h (.tup h0 h1 h2 h3)⟩⟩
    | _ => exact h.no
theorem me_list (hg : Gl X "list") (hm : X.mg "list" = none) (ha : MA X W [a] fs) (he : starEach [a] X.env = (false, eval a X.env) :: starEach [] X.env := by rfl) (hpl : (backTo pos (starEach [] X.env)).any (·.1) = false := by rfl) : ME X W (.Call (.Name "list" p) [a] [] pos) (eN (one (d1 oList)) fs) := me_callTy call_list_of (opN_one op1_list) hg hm boot_list' ha (by decide) (by decide) he hpl
theorem me_tuple (hg : Gl X "tuple") (hm : X.mg "tuple" = none) (ha : MA X W [a] fs) (he : starEach [a] X.env = (false, eval a X.env) :: starEach [] X.env := by rfl) (hpl : (backTo pos (starEach [] X.env)).any (·.1) = false := by rfl) : ME X W (.Call (.Name "tuple" p) [a] [] pos) (eN (one (d1 oTuple)) fs) := me_callTy call_tuple_of (opN_one op1_tuple) hg hm boot_tuple' ha (by decide) (by decide) he hpl

/-! ### cells -/
def newCell (c : Cell) : M D := fun ω => .ok (.cell ω.length) (ω ++ [c])
def Wd.alloc (w : Wd) (p : Addr) (o : HO) (c : Cell) : Wd := ⟨w.S, w.μ ++ [p], w.ω ++ [c], upd w.H p o⟩
theorem alloc_grow {w : Wd} {p : Addr} {o : HO} {c : Cell} (hp : w.H p = none) : Grow w (w.alloc p o c) :=
  ⟨fun _ h => h, fun _ h => .inl h, ⟨[p], rfl⟩, fun a h => by
    rcases List.mem_append.mp h with h | h
    · exact .inl h
    · have e : a = p := by simpa using h
      exact .inr (e ▸ hp), fun a u h _ => upd_new hp a u h, fun a _ _ h => upd_new hp a _ h, fun a ps h => ⟨ps, upd_new hp a _ h⟩⟩
theorem alloc_fits {K : PySem.W.Frag} {w : Wd} {p : Addr} {o : HO} {c : Cell} (F : Fits K w) (hp : w.H p = none) (ok : CellOk K (w.alloc p o c) p c) : Fits K (w.alloc p o c) := by
  have np : p ∉ w.μ := fun h => F.domμ p h hp
  have nS : ¬ w.S p := fun h => F.dom p h hp
  refine ⟨by simp [Wd.alloc, F.len], ?_, fun a h => ?_, fun a h => ?_, fun n a c' h1 h2 => ?_, F.tabs.ext (upd_new hp), fun a ps h z => F.nt a ps h (by have z' : upd w.H p o a = some (.tbl ps) := z; rw [upd_ne (ne_side nS h)] at z'; exact z')⟩
  · show (w.μ ++ [p]).Nodup
    rw [List.nodup_append]
    exact ⟨F.nd, by simp, fun a ha b hb e => np (by rw [← (by simpa using hb : b = p), ← e]; exact ha)⟩
  · show upd w.H p o a ≠ none
    rw [upd_ne (ne_side nS h)]; exact F.dom a h
  · show upd w.H p o a ≠ none
    by_cases e : a = p
    · rw [e, upd_same]; exact fun z => nomatch z
    · rw [upd_ne e]
      rcases List.mem_append.mp h with h | h
      · exact F.domμ a h
      · exact absurd (by simpa using h) e
  · have h1' : (w.μ ++ [p])[n]? = some a := h1
    have h2' : (w.ω ++ [c])[n]? = some c' := h2
    by_cases hn : n < w.μ.length
    · rw [List.getElem?_append_left hn] at h1'
      rw [List.getElem?_append_left (F.len ▸ hn)] at h2'
      have hne : a ≠ p := fun e => np (e ▸ List.mem_of_getElem? h1')
      rcases F.live n a c' h1' h2' with h | ⟨h, h'⟩
      · exact .inl h
      · exact .inr ⟨h, h'.mono (upd_ne hne) fun vs ds r => (alloc_grow hp).reps r⟩
    · have hn' : n = w.μ.length := by
        have := (List.getElem?_eq_some_iff.mp h1').1
        simp at this; omega
      subst hn'
      rw [List.getElem?_append_right (Nat.le_refl _), Nat.sub_self] at h1'
      rw [F.len, List.getElem?_append_right (Nat.le_refl _), Nat.sub_self] at h2'
      cases h1'; cases h2'
      exact .inr ⟨nS, ok⟩
theorem Ans.cell {K : PySem.W.Frag} {mg : Str → Option Value} {σ : L2.St} {w : Wd} {Q : VK} {vs : List V} {ds : List D} (F : Fits K w) (h : Ans K mg W σ w (newCell (.lst ds)) Q) (r : w.reps K vs ds) (hl : vs.length ≤ sizeLine) : ∀ p, w.H p = none → Q (.ref p) (upd w.H p (.lst vs)) := fun p hp => by
  refine h (w.alloc p (.lst vs) (.lst ds)) (alloc_grow hp) (alloc_fits F hp ⟨vs, upd_same, hl, (alloc_grow hp).reps r⟩) rfl (.ref p) (.cell ?_)
  show (w.μ ++ [p])[w.ω.length]? = some p
  rw [← F.len, List.getElem?_append_right (Nat.le_refl _), Nat.sub_self]; rfl
/-- a written list as a cell -/
@[simp] def eLstC (fs : Env → M (List D)) : Env → M D := eN (fun ds => if ds.length ≤ 1000 then newCell (.lst ds) else M.stuck) fs
theorem me_lstC (h : MA X W es fs) : ME X W (.List es pos) (eLstC fs) := by
  refine PE.sub (pe_lst h) ?_
  rintro σ H Q ⟨w, ρ, rfl, F, E, h⟩
  refine ⟨w, ρ, rfl, F, E, Holds.thn h fun ds w1 g1 F1 h1 xs rs => ?_⟩
  obtain ⟨c, h1⟩ := Holds.ite h1
  have c' : xs.length ≤ sizeLine := sz1000 (by rw [rs.length]; exact c)
  exact ⟨c', Ans.cell F1 h1 rs c'⟩
/-- a cell's content changed -/
def Wd.put (w : Wd) (n : Nat) (a : Addr) (o : HO) (c : Cell) : Wd := ⟨w.S, w.μ, w.ω.set n c, upd w.H a o⟩
/-- what is written: no table, nothing locked -/
def Wr (o : Option HO) : Prop := NoTab o ∧ ∀ ob u, o ≠ some (.frz ob u)
theorem wr_lst {xs : List V} : Wr (some (.lst xs)) := ⟨noTab_lst, fun _ _ z => nomatch z⟩
theorem wr_dK {xs : List (Key × V)} : Wr (some (.dK xs)) := ⟨noTab_dK, fun _ _ z => nomatch z⟩
theorem wr_ins {C dx : Addr} {fs : List (Str × V)} : Wr (some (.ins C dx fs)) := ⟨noTab_ins, fun _ _ z => nomatch z⟩
theorem put_grow {w : Wd} {n : Nat} {a : Addr} {o : HO} {c : Cell} (hn : w.μ[n]? = some a) (nS : ¬ w.S a) (wr : Wr (w.H a)) : Grow w (w.put n a o c) := by
  refine ⟨fun _ h => h, fun _ h => .inl h, List.prefix_refl _, fun _ h => .inl h, fun b u h k => ?_, fun b ob u h => ?_, fun b ps h => ⟨ps, ?_⟩⟩
  · have hne : b ≠ a := fun e => by
      subst e
      rcases k with k | k
      · exact nS k
      · exact k.1 (List.mem_of_getElem? hn)
    show upd w.H a o b = some u
    rw [upd_ne hne]; exact h
  · show upd w.H a o b = _
    rw [upd_ne (fun e => wr.2 ob u (by rw [← e]; exact h))]; exact h
  · show upd w.H a o b = _
    rw [upd_ne (fun e => wr.1.1 ps (by rw [← e]; exact h))]; exact h
theorem put_all {K : PySem.W.Frag} {w : Wd} {n : Nat} {a : Addr} {o : HO} {c : Cell} (F : Fits K w) (hn : w.μ[n]? = some a) (nS : ¬ w.S a) (wr : Wr (w.H a)) (ok : CellOk K (w.put n a o c) a c) : Grow w (w.put n a o c) ∧ Fits K (w.put n a o c) := by
  have gr : Grow w (w.put n a o c) := put_grow hn nS wr
  refine ⟨gr, by simp [Wd.put, F.len], F.nd, fun b h => ?_, fun b h => ?_, fun m b c' h1 h2 => ?_, tabs_upd wr.1 F.tabs, fun b ps h z => F.nt b ps h (by have z' : upd w.H a o b = some (.tbl ps) := z; rw [upd_ne (ne_side nS h)] at z'; exact z')⟩
  · show upd w.H a o b ≠ none
    rw [upd_ne (ne_side nS h)]; exact F.dom b h
  · show upd w.H a o b ≠ none
    by_cases e : b = a
    · rw [e, upd_same]; exact fun z => nomatch z
    · rw [upd_ne e]; exact F.domμ b h
  · have h1' : w.μ[m]? = some b := h1
    have h2' : (w.ω.set n c)[m]? = some c' := h2
    by_cases hm : n = m
    · subst hm
      rw [hn] at h1'; cases h1'
      have hl : n < w.ω.length := F.len ▸ (List.getElem?_eq_some_iff.mp hn).1
      rw [List.getElem?_set_self hl] at h2'; cases h2'
      exact .inr ⟨nS, ok⟩
    · rw [List.getElem?_set_ne hm] at h2'
      have hne : b ≠ a := fun e => by
        subst e
        exact hm ((List.getElem?_inj (List.getElem?_eq_some_iff.mp hn).1 F.nd).mp (hn.trans h1'.symm))
      rcases F.live m b c' h1' h2' with h | ⟨h, h'⟩
      · exact .inl h
      · exact .inr ⟨h, h'.mono (upd_ne hne) fun vs ds r => gr.reps r⟩
theorem cell_live {K : PySem.W.Frag} {w : Wd} {n : Nat} {a : Addr} {xs : List D} (F : Fits K w) (hn : w.μ[n]? = some a) (h : w.ω[n]? = some (.lst xs)) : ¬ w.S a ∧ ∃ vs, w.H a = some (.lst vs) ∧ vs.length ≤ sizeLine ∧ w.reps K vs xs := by
  rcases F.live n a _ hn h with e | e
  · cases e
  · exact e
/-! ### methods of built-in types -/
def eBM (chk : D → List Cell → Bool) (o : D → List D → M D) (f : Env → M D) (fs : Env → M (List D)) : Env → M D := fun ρ => (f ρ).bind fun d ω => if chk d ω = true then ((fs ρ).bind fun ds => o d ds) ω else .stuck
def OpM (X : Cx) (r : V → List V → Hp → VK → Prop) (o : D → List D → M D) : Prop := ∀ (W : WX) (σ : L2.St) (w : Wd) (x : V) (d : D) (xs : List V) (ds : List D) (Q : VK), Fits X.K w → w.rep X.K x d → w.reps X.K xs ds → Ans X.K X.mg W σ w (o d ds) Q → r x xs w.H Q
def ChkT (X : Cx) (T : String) (chk : D → List Cell → Bool) : Prop := ∀ (w : Wd) (x : V) (d : D), Fits X.K w → w.rep X.K x d → chk d w.ω = true → tyV X.K T x w.H
theorem me_bm {T id : String} {name : Str} {r : V → List V → Hp → VK → Prop} {chk : D → List Cell → Bool} {o : D → List D → M D} {apos : Pos} (pa : PlainAttrs T) (slot : Slot T name id) (hty : typeOf (.builtin id) = pure (.type "method_descriptor")) (hm : MtR X id r) (ho : OpM X r o) (hc : ChkT X T chk)
    (ha : ME X W a f) (hb : MA X W (b :: es) fs) (hbase : attributeBase a name X.env (eval a X.env) = eval a X.env := by rfl)
    (hfew : ((backTo pos (starEach (b :: es) X.env)).all (fun x => !x.1) && (backToKw pos (keywordEach [] X.env)).all (fun x => x.1.isSome)
      && decide ((b :: es).length + ([] : List Keyword).length + (if ([] : List Keyword).isEmpty then 0 else 1) < 30)) = true := by rfl)
    (hline : (apos.endLine == pos.line) = true := by rfl) (hs : starEach (b :: es) X.env = (false, eval b X.env) :: starEach es X.env := by rfl) (hplain : (backTo pos (starEach es X.env)).any (·.1) = false := by rfl) :
    ME X W (.Call (.Attribute a name apos) (b :: es) [] pos) (eBM chk o f fs) := by
  refine PE.sub (pe_bm pa slot hty hm ha hb hbase hfew hline hs hplain) ?_
  rintro σ H Q ⟨w, ρ, rfl, F, E, h⟩
  refine ⟨w, ρ, rfl, F, E, Holds.thn h fun d w1 g1 F1 h1 x rx => ?_⟩
  by_cases c : chk d w1.ω = true
  · rw [if_pos c] at h1
    refine ⟨hc w1 x d F1 rx c, w1, ρ, rfl, F1, E.grow g1, Holds.thn h1 fun ds w2 g2 F2 h2 xs rs => ?_⟩
    exact ho W σ w2 x d xs ds Q F2 (g2.rep rx) rs h2
  · rw [if_neg c] at h1; exact h1.elim
theorem me_bm0 {T id : String} {name : Str} {r : V → List V → Hp → VK → Prop} {chk : D → List Cell → Bool} {o : D → List D → M D} {apos : Pos} (pa : PlainAttrs T) (slot : Slot T name id) (hty : typeOf (.builtin id) = pure (.type "method_descriptor")) (hm : MtR X id r) (ho : OpM X r o) (hc : ChkT X T chk)
    (ha : ME X W a f) (hbase : attributeBase a name X.env (eval a X.env) = eval a X.env := by rfl) (hline : (apos.endLine == pos.line) = true := by rfl) :
    ME X W (.Call (.Attribute a name apos) [] [] pos) (eBM chk o f aNil) := by
  refine PE.sub (pe_bm0 pa slot hty hm ha hbase hline) ?_
  rintro σ H Q ⟨w, ρ, rfl, F, E, h⟩
  refine ⟨w, ρ, rfl, F, E, Holds.thn h fun d w1 g1 F1 h1 x rx => ?_⟩
  by_cases c : chk d w1.ω = true
  · rw [if_pos c] at h1
    exact ⟨hc w1 x d F1 rx c, ho W σ w1 x d [] [] Q F1 rx .nil h1⟩
  · rw [if_neg c] at h1; exact h1.elim
def chkL (d : D) (ω : List Cell) : Bool := match d with
  | .lst _ => true
  | .cell n => match ω[n]? with
    | some (.lst _) => true
    | _ => false
  | _ => false
def chkS (d : D) (_ : List Cell) : Bool := match d with
  | .str _ => true
  | _ => false
theorem chkL_ok : ChkT X "list" chkL := fun w x d F r c => by
  cases r with
  | lst _ h1 _ _ => exact .inl ⟨rfl, _, .of h1⟩
  | @cell n a hn =>
    dsimp only [chkL] at c
    cases z : w.ω[n]? with
    | none => rw [z] at c; cases c
    | some cc =>
      rw [z] at c
      cases cc with
      | lst xs =>
        obtain ⟨_, vs, h1, _⟩ := cell_live F hn z
        exact .inl ⟨rfl, _, .of h1⟩
      | _ => cases c
  | _ => cases c
theorem chkS_ok : ChkT X "str" chkS := fun w x d F r c => by
  cases r with
  | str y _ _ => exact (rfl : ("str" : String) = "str")
  | _ => cases c
/-- a list's cell changed: the new content, the answer -/
def upL (k : List D → List D → Option (List D × D)) (d : D) (ds : List D) : M D := fun ω => match d with
  | .cell n => match ω[n]? with
    | some (.lst xs) => match k xs ds with
      | some (ys, z) => .ok z (ω.set n (.lst ys))
      | none => .stuck
    | _ => .stuck
  | _ => .stuck
theorem upL_thn {K : PySem.W.Frag} {mg : Str → Option Value} {σ : L2.St} {w : Wd} {x : V} {d : D} {ds : List D} {k : List D → List D → Option (List D × D)} {P : D → Wd → Prop} {R : Prop} (F : Fits K w) (r : w.rep K x d) (h : Holds K mg W σ w (upL k d ds w.ω) P)
    (hk : ∀ (a : Addr) (vs : List V) (xs ys : List D) (z : D), x = .ref a → w.H a = some (.lst vs) → vs.length ≤ sizeLine → w.reps K vs xs → k xs ds = some (ys, z) →
      (∀ vs', vs'.length ≤ sizeLine → w.reps K vs' ys → ∃ w', Grow w w' ∧ w'.H = upd w.H a (.lst vs') ∧ P z w') → R) : R := by
  unfold upL at h
  cases r with
  | @cell n a hn =>
    dsimp only at h
    cases z : w.ω[n]? with
    | none => rw [z] at h; exact h.elim
    | some c =>
      rw [z] at h
      cases c with
      | lst xs =>
        dsimp only at h
        obtain ⟨nS, vs, h1, h2, h3⟩ := cell_live F hn z
        cases q : k xs ds with
        | none => rw [q] at h; exact h.elim
        | some yz =>
          rw [q] at h
          refine hk a vs xs yz.1 yz.2 rfl h1 h2 h3 q fun vs' hl hr => ?_
          have wr : Wr (w.H a) := by rw [h1]; exact wr_lst
          have gr0 : Grow w (w.put n a (.lst vs') (.lst yz.1)) := put_grow hn nS wr
          obtain ⟨g1, F1⟩ := put_all F hn nS wr (o := .lst vs') (c := .lst yz.1) ⟨vs', upd_same, hl, gr0.reps hr⟩
          exact ⟨_, g1, rfl, h _ g1 F1 rfl⟩
      | _ => exact h.elim
  | _ => exact h.elim
def kAppend (xs ds : List D) : Option (List D × D) := match ds with
  | [d] => if xs.length < 1000000 then some (xs ++ [d], .non) else none
  | _ => none
theorem big6 {n : Nat} (h : n < 1000000) : n < sizeLine := Nat.lt_of_lt_of_le h (by decide)
theorem opM_append : OpM X rAppend (upL kAppend) := fun W σ w x d xs ds Q F rx rs h => upL_thn F rx h fun a vs ys zs z e h1 h2 h3 hk hw => by
  subst e
  cases rs with
  | nil => cases hk
  | cons r rs => cases rs with
    | cons _ _ => cases hk
    | nil =>
      dsimp only [kAppend] at hk
      by_cases c : ys.length < 1000000
      · rw [if_pos c] at hk
        cases hk
        have c' : vs.length < 1000000 := by rw [h3.length]; exact c
        obtain ⟨w', g', e', q⟩ := hw (vs ++ [_]) (by rw [List.length_append]; exact big6 c') (h3.append (.cons r .nil))
        refine ⟨a, vs, _, rfl, rfl, h1, big6 c', ?_⟩
        rw [← e']
        exact q .non .non
      · rw [if_neg c] at hk; cases hk
end
end Mi
namespace Mi
open PySem PySem.Spec PyProof.Rows L2
variable [Tb]
section
variable {X : Cx} {W : WX} {a b c : Expr} {es : List Expr} {fs : Env → M (List D)} {f g : Env → M D} {pos p : Pos}
theorem takesWF : Takes X WF := fun _ _ x => by
  obtain ⟨_, _, _, _, _, _, _, _, _, _, _, _, _, _, _, _, z⟩ := x
  exact z.elim
/-- a cell is changed no more -/
def frzD (d : D) : M D := fun ω => match d with
  | .cell n => match ω[n]? with
    | some (.lst xs) => .ok (.lst xs) (ω.set n .dead)
    | some (.dic ks xs) => .ok (.dic ks xs) (ω.set n .dead)
    | _ => .stuck
  | d => .ok d ω
@[simp] def frz (f : Env → M D) : Env → M D := fun ρ => (f ρ).bind frzD
theorem frz_world {K : PySem.W.Frag} {w : Wd} {n : Nat} {a : Addr} (F : Fits K w) (hn : w.μ[n]? = some a) (hnt : ∀ ps, w.H a ≠ some (.tbl ps)) : Grow w ⟨fun x => w.S x ∨ x = a, w.μ, w.ω.set n .dead, w.H⟩ ∧ Fits K ⟨fun x => w.S x ∨ x = a, w.μ, w.ω.set n .dead, w.H⟩ := by
  have ha : a ∈ w.μ := List.mem_of_getElem? hn
  have gr : Grow w ⟨fun x => w.S x ∨ x = a, w.μ, w.ω.set n .dead, w.H⟩ := ⟨fun _ h => .inl h, fun x h => h.elim .inl fun z => .inr (.inr (z ▸ ha)), List.prefix_refl _, fun _ h => .inl h, fun _ _ h _ => h, fun _ _ _ h => h, fun _ ps h => ⟨ps, h⟩⟩
  refine ⟨gr, by simp [F.len], F.nd, fun x h => h.elim (F.dom x) fun z => z ▸ F.domμ a ha, F.domμ, fun m x c h1 h2 => ?_, F.tabs, fun x ps h => h.elim (F.nt x ps) fun z => by rw [z]; exact hnt ps⟩
  have h1' : w.μ[m]? = some x := h1
  have h2' : (w.ω.set n .dead)[m]? = some c := h2
  by_cases hm : n = m
  · subst hm
    have hl : n < w.ω.length := F.len ▸ (List.getElem?_eq_some_iff.mp hn).1
    rw [List.getElem?_set_self hl] at h2'; cases h2'
    exact .inl rfl
  · rw [List.getElem?_set_ne hm] at h2'
    have hne : x ≠ a := fun e => by
      subst e
      exact hm ((List.getElem?_inj (List.getElem?_eq_some_iff.mp hn).1 F.nd).mp (hn.trans h1'.symm))
    rcases F.live m x c h1' h2' with h | ⟨h, h'⟩
    · exact .inl h
    · exact .inr ⟨fun z => z.elim h hne, h'.mono rfl fun vs ds r => gr.reps r⟩
/-- a dict that is changed no more is locked -/
theorem frz_dict {K : PySem.W.Frag} {w : Wd} {n : Nat} {a : Addr} {kvs : List (Key × V)} (od : Obj) (F : Fits K w) (hn : w.μ[n]? = some a) (nS : ¬ w.S a) (h : w.H a = some (.dK kvs)) :
    Grow w ⟨fun x => w.S x ∨ x = a, w.μ, w.ω.set n .dead, upd w.H a (.frz od (.dK kvs))⟩ ∧ Fits K ⟨fun x => w.S x ∨ x = a, w.μ, w.ω.set n .dead, upd w.H a (.frz od (.dK kvs))⟩ := by
  have ha : a ∈ w.μ := List.mem_of_getElem? hn
  have wr : Wr (w.H a) := by rw [h]; exact wr_dK
  obtain ⟨g1, F1⟩ := put_all (o := .frz od (.dK kvs)) (c := .dead) F hn nS wr trivial
  have nt : ∀ ps, (w.put n a (.frz od (.dK kvs)) .dead).H a ≠ some (.tbl ps) := fun ps z => by
    have z' : upd w.H a (.frz od (.dK kvs)) a = some (.tbl ps) := z
    rw [upd_same] at z'; cases z'
  have hn' : (w.put n a (.frz od (.dK kvs)) .dead).μ[n]? = some a := hn
  obtain ⟨g2, F2⟩ := frz_world F1 hn' nt
  have e : (w.put n a (.frz od (.dK kvs)) .dead).ω.set n .dead = w.ω.set n .dead := by
    show (w.ω.set n .dead).set n .dead = _
    rw [List.set_set]
  have eq : (⟨fun x => (w.put n a (.frz od (.dK kvs)) .dead).S x ∨ x = a, (w.put n a (.frz od (.dK kvs)) .dead).μ, (w.put n a (.frz od (.dK kvs)) .dead).ω.set n .dead, (w.put n a (.frz od (.dK kvs)) .dead).H⟩ : Wd) = ⟨fun x => w.S x ∨ x = a, w.μ, w.ω.set n .dead, upd w.H a (.frz od (.dK kvs))⟩ := by rw [e]; rfl
  rw [eq] at g2 F2
  exact ⟨g1.trans g2, F2⟩
theorem pe_lockAfter {X : Cx} {e : Expr} {t : TE} (h : PE X e t) : PE X e (fun σ H Q => t σ H fun v H1 => Q v H1 ∨ ∃ a u, H1 a = some u ∧ Mut (some u) ∧ ∀ od, Q v (upd H1 a (.frz od u))) := by
  refine ⟨fun pins s σ H Q I hw => wpAny_mono (h.run pins s σ H _ I hw) (fun u s1 hu => ?_) fun _ _ x => x⟩
  obtain ⟨v, H1, I1, r, q | ⟨a, o, ho, mu, q⟩⟩ := hu
  · exact ⟨v, H1, I1, r, q⟩
  · obtain ⟨od, I2⟩ := I1.lock ho mu
    exact ⟨v, _, I2, r, q od⟩
theorem me_frz (ha : ME X W a f) : ME X W a (frz f) := by
  refine PE.sub (pe_lockAfter ha) ?_
  rintro σ H Q ⟨w, ρ, rfl, F, E, h⟩
  refine ⟨w, ρ, rfl, F, E, Holds.thn h fun d w1 g1 F1 h1 x rx => ?_⟩
  unfold frzD at h1
  cases rx with
  | @cell n a hn =>
    dsimp only at h1
    cases z : w1.ω[n]? with
    | none => rw [z] at h1; exact h1.elim
    | some cc =>
      rw [z] at h1
      rcases F1.live n a cc hn z with e | ⟨nS, ok⟩
      · subst e; exact h1.elim
      · cases cc with
        | dead => exact h1.elim
        | lst xs =>
          obtain ⟨vs, k1, k2, k3⟩ := ok
          obtain ⟨g2, F2⟩ := frz_world F1 hn (by rw [k1]; exact fun _ z => nomatch z)
          exact .inl (h1 _ g2 F2 rfl _ (.lst (.inr rfl) k1 k2 (g2.reps k3)))
        | dic ks xs =>
          obtain ⟨kvs, k1, k2, rfl, k3⟩ := ok
          refine .inr ⟨a, _, k1, trivial, fun od => ?_⟩
          obtain ⟨g2, F2⟩ := frz_dict od F1 hn nS k1
          exact h1 _ g2 F2 rfl _ (.dic (.inr rfl) upd_same k2 (g2.reps k3))
        | ins C fs => exact h1.elim
        | llst xs => exact h1.elim
        | ldic ks xs => exact h1.elim
  | non => exact .inl (h1 w1 (Grow.refl _) F1 rfl _ .non)
  | bl y => exact .inl (h1 w1 (Grow.refl _) F1 rfl _ (.bl y))
  | int y => exact .inl (h1 w1 (Grow.refl _) F1 rfl _ (.int y))
  | str y q q' => exact .inl (h1 w1 (Grow.refl _) F1 rfl _ (.str y q q'))
  | lst q1 q2 q3 q4 => exact .inl (h1 w1 (Grow.refl _) F1 rfl _ (.lst q1 q2 q3 q4))
  | tup q1 q2 q3 q4 => exact .inl (h1 w1 (Grow.refl _) F1 rfl _ (.tup q1 q2 q3 q4))
  | dic q1 q2 q3 q4 => exact .inl (h1 w1 (Grow.refl _) F1 rfl _ (.dic q1 q2 q3 q4))
  | ref y => exact .inl (h1 w1 (Grow.refl _) F1 rfl _ (.ref y))
  | ty y => exact .inl (h1 w1 (Grow.refl _) F1 rfl _ (.ty y))
  | scr q1 q2 => exact .inl (h1 w1 (Grow.refl _) F1 rfl _ (.scr q1 q2))
/-- a, b = x, y -/
@[simp] def sPar (is : List Nat) (fs : Env → M (List D)) : SM := thenS fs fun ds ρ ω => if ds.length = is.length then .next ((is.zip ds).foldl (fun r p => r.set p.1 (some p.2)) ρ) ω else .stuck
theorem ms_par2 {i j : Nat} {x y : Str} {px py pt : Pos} {kt k2 pt2} (hc : X.calm = true) (hN : X.N.Nodup) (hi : X.N[i]? = some x) (hj : X.N[j]? = some y) (hij : i ≠ j)
    (hx : X.env.scope.names.lookup x = some .local) (hy : X.env.scope.names.lookup y = some .local) (ha : MA X W [a, b] fs)
    (hw : swappedStores [.Tuple [.Name x px, .Name y py] kt pt] (.Tuple [a, b] k2 pt2) X.env = pure (some [x, y]))
    (hs : swapsWithSole [.Tuple [.Name x px, .Name y py] kt pt] (.Tuple [a, b] k2 pt2) pos.line X.env = pure false := by rfl) :
    MS X W (.Assign [.Tuple [.Name x px, .Name y py] kt pt] (.Tuple [a, b] k2 pt2) pos) (sPar [i, j] fs) := by
  refine PS.sub (ps_par hc hN hi hj hij hx hy ha hw hs) ?_
  rintro D σ H ⟨w, ρ, rfl, F, E, q⟩
  refine ⟨w, ρ, rfl, F, E, HoldsS.thn E q fun ds w1 g1 F1 E1 q1 vs rs => ?_⟩
  by_cases hl : ds.length = [i, j].length
  · rw [if_pos hl] at q1
    match ds, vs, rs, hl with
    | [d, e], _, .cons r1 (.cons r2 .nil), _ => exact ⟨_, _, rfl, q1.next' F1 ((E1.set r1).set r2)⟩
  · rw [if_neg hl] at q1; exact q1.no
theorem ms_par3 {i j l : Nat} {x y z : Str} {px py pz pt : Pos} {kt k2 pt2} (hc : X.calm = true) (hN : X.N.Nodup) (hi : X.N[i]? = some x) (hj : X.N[j]? = some y) (hl : X.N[l]? = some z) (hij : i ≠ j) (hil : i ≠ l) (hjl : j ≠ l)
    (hx : X.env.scope.names.lookup x = some .local) (hy : X.env.scope.names.lookup y = some .local) (hz : X.env.scope.names.lookup z = some .local) (ha : MA X W [a, b, c] fs)
    (hw : swappedStores [.Tuple [.Name x px, .Name y py, .Name z pz] kt pt] (.Tuple [a, b, c] k2 pt2) X.env = pure (some [x, y, z]))
    (hs : swapsWithSole [.Tuple [.Name x px, .Name y py, .Name z pz] kt pt] (.Tuple [a, b, c] k2 pt2) pos.line X.env = pure false := by rfl) :
    MS X W (.Assign [.Tuple [.Name x px, .Name y py, .Name z pz] kt pt] (.Tuple [a, b, c] k2 pt2) pos) (sPar [i, j, l] fs) := by
  refine PS.sub (ps_par3 hc hN hi hj hl hij hil hjl hx hy hz ha hw hs) ?_
  rintro D σ H ⟨w, ρ, rfl, F, E, q⟩
  refine ⟨w, ρ, rfl, F, E, HoldsS.thn E q fun ds w1 g1 F1 E1 q1 vs rs => ?_⟩
  by_cases hl : ds.length = [i, j, l].length
  · rw [if_pos hl] at q1
    match ds, vs, rs, hl with
    | [d, e, k], _, .cons r1 (.cons r2 (.cons r3 .nil)), _ => exact ⟨_, _, _, rfl, q1.next' F1 (((E1.set r1).set r2).set r3)⟩
  · rw [if_neg hl] at q1; exact q1.no
/-- (a, b, ..) = a list -/
@[simp] def gLs (n : Nat) (gs : List D → Env → Option Env) : D → Env → Option Env := fun d ρ => match d with
  | .lst ds => if ds.length = n then gs ds ρ else none
  | _ => none
theorem mg_lst {vs : List Nat} {es : List Expr} {k : Nat} {gs : List D → Env → Option Env} {n : Nat} (hc : X.calm = true) (h : MGs X vs es gs)
    (hn : (assignEach es X.env).length = n := by rfl) (hst : (assignEach es X.env).findIdx? (·.1) = none := by rfl) : MG X vs (.Tuple es k pos) (gLs n gs) := by
  refine PG.sub (pg_unl hc h hn hst) ?_
  rintro v σ H Q ⟨w, ρ, d, ρ', rfl, F, E, r, e, q⟩
  cases r with
  | @lst a us ds h1 h2 h3 h4 =>
    dsimp only [gLs] at e
    by_cases c : ds.length = n
    · rw [if_pos c] at e
      exact ⟨a, us, rfl, .of h2, h4.length.trans c, w, ρ, ds, ρ', rfl, F, E, h4, e, q⟩
    · rw [if_neg c] at e; cases e
  | _ => cases e
theorem me_append {apos : Pos} (ha : ME X W a f) (hb : MA X W [b] fs) (hbase : attributeBase a "append" X.env (eval a X.env) = eval a X.env := by rfl)
    (hfew : ((backTo pos (starEach [b] X.env)).all (fun x => !x.1) && (backToKw pos (keywordEach [] X.env)).all (fun x => x.1.isSome)
      && decide ([b].length + ([] : List Keyword).length + (if ([] : List Keyword).isEmpty then 0 else 1) < 30)) = true := by rfl)
    (hline : (apos.endLine == pos.line) = true := by rfl) (hs : starEach [b] X.env = (false, eval b X.env) :: starEach [] X.env := by rfl) (hplain : (backTo pos (starEach [] X.env)).any (·.1) = false := by rfl) :
    ME X W (.Call (.Attribute a "append" apos) [b] [] pos) (eBM chkL (upL kAppend) f fs) := me_bm PySem.F.plainAttrs_list PySem.F.slot_list_append PySem.F.type_list_append mt_append opM_append chkL_ok ha hb hbase hfew hline hs hplain
end
section
variable {P : Program} {w : World} {K : PySem.W.Frag} {mg : Str → Option Value} {base : Heap}
theorem fn_ok' {x qual : Str} {st : Stmt} {f : Addr} {fd : FuncData} {N ps : List Str} {k : Nat} {body : SM} (F : Fun K x qual st f fd) (S : FnScope N ps (defScope st))
    (hb : ∀ (cdv : Value) (A : Around) (outer : List PySem.Env) (s : Shared) (H : Hp) (E : XK), Room k (A.deeper (envOfC qual (defScope st) s.heap.objs.size f cdv)) →
      Takes (cxOf (L2.CX P w) P w K mg base N qual (defScope st) f cdv A outer s H E) (fun cls d _ H => E cls d H) →
      PassesOwn (model P w) (A.deeper (envOfC qual (defScope st) s.heap.objs.size f cdv)) (envOfC qual (defScope st) s.heap.objs.size f cdv) (cxOf (L2.CX P w) P w K mg base N qual (defScope st) f cdv A outer s H E).xe →
      MSs (cxOf (L2.CX P w) P w K mg base N qual (defScope st) f cdv A outer s H E) (fun cls d _ H => E cls d H) (defBody st) body) :
    FnOk P w K mg base (L2.CX P w) (k + 1) f fd ps (spF K mg ps.length (fnOf ps.length N.length body)) :=
  fn_ok F S fun cdv A outer s H E hr => hb cdv A outer s H E hr (takes_of rfl rfl rfl rfl) (passes_of (X := cxOf (L2.CX P w) P w K mg base N qual (defScope st) f cdv A outer s H E) rfl)
/-- the law's promise -/
def spLaw (K : PySem.W.Frag) : Sp := fun vs H Q _ => ∃ (a : Addr) (ns : List Int), vs = [.ref a] ∧ SqL K H a (ns.map V.int) ∧ ns.length ≤ 63 ∧ LamX.Tabs Tb.T H ∧ ∀ H', Q (.bl true) H'
theorem law_ok {f : Addr} {fd : FuncData} {x : Str} {k : Nat} {F : List D → PR} (G : FnOk P w K mg base (L2.CX P w) k f fd [x] (spF K mg 1 F)) (h : ∀ ns : List Int, ns.length ≤ 63 → F [.scr ns] = .ok (.bl true)) : FnOk P w K mg base (L2.CX P w) k f fd [x] (spLaw K) := by
  refine G.imp (fun vs H Q E q => ?_)
  · obtain ⟨a, ns, rfl, hS, hl, ht, hq⟩ := q
    refine ⟨fun b => b = a ∧ (H a = some (.lst (ns.map V.int)) ∨ ∃ o, H a = some (.frz o (.lst (ns.map V.int)))), [.scr ns], rfl, ⟨fun b hb => ?_, ht, fun b ps hb z => ?_⟩, .cons (.scr ?_ hS) .nil, ?_⟩
    · obtain ⟨rfl, z | ⟨o, z⟩⟩ := hb <;> rw [z] <;> exact fun z => nomatch z
    · obtain ⟨rfl, k | ⟨o, k⟩⟩ := hb <;> rw [k] at z <;> cases z
    · rcases hS with hS | hS
      · exact .inl ⟨rfl, hS⟩
      · exact .inr fun H' => .inr hS
    · rw [h ns hl]
      intro v S' H' _ _ rv
      cases rv
      exact hq H'
theorem cx_false {H : Hp} {s : Shared} {e : Value} {s' : Shared} (h : L2.CX P w [] H s (fun _ _ _ => False) e s') : False := by
  obtain ⟨_, _, _, _, _, _, _, _, _, _, _, _, z⟩ := h
  exact z
end
end Mi
namespace Mi
open PySem PySem.Spec PyProof.Rows L2
/-- where no table is asked for -/
instance (priority := low) tb0 : Tb := ⟨[]⟩
/-! ### evaluation by rewriting -/
section
variable {α β : Type}
@[simp] theorem bind_ret (a : α) (k : α → M β) : M.bind (M.ret a) k = k a := rfl
@[simp] theorem bind_stuck (k : α → M β) : M.bind (M.stuck : M α) k = M.stuck := rfl
@[simp] theorem bind_raise (c : Str) (k : α → M β) : M.bind (M.raise c : M α) k = M.raise c := rfl
@[simp] theorem bind_bind {γ : Type} (m : M α) (f : α → M β) (k : β → M γ) : M.bind (M.bind m f) k = M.bind m (fun a => M.bind (f a) k) := by
  funext ω
  unfold M.bind
  cases m ω <;> rfl
@[simp] theorem bind_ite (c : Prop) [Decidable c] (x y : M α) (k : α → M β) : M.bind (if c then x else y) k = if c then M.bind x k else M.bind y k := by
  split <;> rfl
def runS (m : M α) (k : α → List Cell → Out) (ρ : Env) (ω : List Cell) : Out := match m ω with
  | .ok a ω1 => k a ω1
  | .raise c ω1 => .exc c ρ ω1
  | .stuck => .stuck
@[simp] theorem runS_ret (a : α) (k : α → List Cell → Out) (ρ : Env) (ω : List Cell) : runS (M.ret a) k ρ ω = k a ω := rfl
@[simp] theorem runS_stuck (k : α → List Cell → Out) (ρ : Env) (ω : List Cell) : runS (M.stuck) k ρ ω = .stuck := rfl
@[simp] theorem runS_raise (c : Str) (k : α → List Cell → Out) (ρ : Env) (ω : List Cell) : runS (M.raise c) k ρ ω = .exc c ρ ω := rfl
@[simp] theorem runS_bind (m : M α) (f : α → M β) (k : β → List Cell → Out) (ρ : Env) (ω : List Cell) : runS (M.bind m f) k ρ ω = runS m (fun a => runS (f a) k ρ) ρ ω := by
  unfold runS M.bind
  cases m ω <;> rfl
@[simp] theorem runS_ite (c : Prop) [Decidable c] (x y : M α) (k : α → List Cell → Out) (ρ : Env) (ω : List Cell) : runS (if c then x else y) k ρ ω = if c then runS x k ρ ω else runS y k ρ ω := by
  split <;> rfl
@[simp] theorem thenS_run (m : Env → M α) (k : α → SM) (ρ : Env) (ω : List Cell) : thenS m k ρ ω = runS (m ρ) (fun a => k a ρ) ρ ω := rfl
end
def andThen (o : Out) (t : SM) : Out := match o with
  | .next ρ ω => t ρ ω
  | o => o
@[simp] theorem ite_SM (c : Prop) [Decidable c] (s t : SM) (ρ : Env) (ω : List Cell) : (if c then s else t) ρ ω = if c then s ρ ω else t ρ ω := by split <;> rfl
@[simp] theorem sSeq_then (s t : SM) (ρ : Env) (ω : List Cell) : sSeq s t ρ ω = andThen (s ρ ω) t := rfl
@[simp] theorem then_next (ρ : Env) (ω : List Cell) (t : SM) : andThen (.next ρ ω) t = t ρ ω := rfl
@[simp] theorem then_ret (d : D) (ω : List Cell) (t : SM) : andThen (.ret d ω) t = .ret d ω := rfl
@[simp] theorem then_exc (c : Str) (ρ : Env) (ω : List Cell) (t : SM) : andThen (.exc c ρ ω) t = .exc c ρ ω := rfl
@[simp] theorem then_brk (ρ : Env) (ω : List Cell) (t : SM) : andThen (.brk ρ ω) t = .brk ρ ω := rfl
@[simp] theorem then_cont (ρ : Env) (ω : List Cell) (t : SM) : andThen (.cont ρ ω) t = .cont ρ ω := rfl
@[simp] theorem then_stuck (t : SM) : andThen .stuck t = .stuck := rfl
@[simp] theorem then_ite (c : Prop) [Decidable c] (x y : Out) (t : SM) : andThen (if c then x else y) t = if c then andThen x t else andThen y t := by
  split <;> rfl
def outP (o : Out) : PR := match o with
  | .ret d _ => if clean d = true then .ok d else .stuck
  | .next _ _ => .ok .non
  | .exc c _ _ => .raise c
  | _ => .stuck
@[simp] theorem fnOf_out (p n : Nat) (s : SM) (ds : List D) : fnOf p n s ds = outP (s (ds.map some ++ List.replicate (n - p) none) []) := rfl
@[simp] theorem outP_ret (d : D) (ω : List Cell) : outP (.ret d ω) = if clean d = true then .ok d else .stuck := rfl
@[simp] theorem outP_next (ρ : Env) (ω : List Cell) : outP (.next ρ ω) = .ok .non := rfl
@[simp] theorem outP_exc (c : Str) (ρ : Env) (ω : List Cell) : outP (.exc c ρ ω) = .raise c := rfl
@[simp] theorem outP_ite (c : Prop) [Decidable c] (x y : Out) : outP (if c then x else y) = if c then outP x else outP y := by
  split <;> rfl
def ofPR (r : PR) : M D := match r with
  | .ok d => M.ret d
  | .raise c => M.raise c
  | .stuck => M.stuck
@[simp] theorem callP_of (n : Nat) (F : List D → PR) (ds : List D) : callP n F ds = if ds.length = n ∧ cleanL ds = true then ofPR (F ds) else M.stuck := by
  funext ω
  unfold callP
  split
  · cases F ds <;> rfl
  · rfl
@[simp] theorem ofPR_ok (d : D) : ofPR (.ok d) = M.ret d := rfl
@[simp] theorem ofPR_raise (c : Str) : ofPR (.raise c) = M.raise c := rfl
@[simp] theorem eV_0 (d : D) (ρ : Env) : eV 0 (some d :: ρ) = M.ret d := rfl
@[simp] theorem eV_s (n : Nat) (o : Option D) (ρ : Env) : eV (n + 1) (o :: ρ) = eV n ρ := rfl
@[simp] theorem eC_ (d : D) (ρ : Env) : eC d ρ = M.ret d := rfl
@[simp] theorem drf_int (i : Int) : drf (.int i) = M.ret (.int i) := rfl
@[simp] theorem drf_lst (i : List D) : drf (.lst i) = M.ret (.lst i) := rfl
@[simp] theorem drf_tup (i : List D) : drf (.tup i) = M.ret (.tup i) := rfl
@[simp] theorem drf_str (i : Str) : drf (.str i) = M.ret (.str i) := rfl
@[simp] theorem drf_scr (i : List Int) : drf (.scr i) = M.ret (.scr i) := rfl
@[simp] theorem drf_non : drf .non = M.ret .non := rfl
@[simp] theorem drf_bl (b : Bool) : drf (.bl b) = M.ret (.bl b) := rfl
@[simp] theorem drf_dic (ks : List Key) (b : List D) : drf (.dic ks b) = M.ret (.dic ks b) := rfl
def rdC (o : Option Cell) (k : D → Out) : Out := match o with
  | some (.lst xs) => k (.lst xs)
  | some (.dic ks xs) => k (.dic ks xs)
  | some (.ldic ks xs) => k (.dic ks xs)
  | _ => .stuck
@[simp] theorem runS_drf (n : Nat) (k : D → List Cell → Out) (ρ : Env) (ω : List Cell) : runS (drf (.cell n)) k ρ ω = rdC ω[n]? (fun d => k d ω) := by
  unfold runS drf rdC
  dsimp only
  cases ω[n]? with
  | none => rfl
  | some c => cases c <;> rfl
@[simp] theorem rdC_lst (xs : List D) (k : D → Out) : rdC (some (.lst xs)) k = k (.lst xs) := rfl
@[simp] theorem runS_new (c : Cell) (k : D → List Cell → Out) (ρ : Env) (ω : List Cell) : runS (newCell c) k ρ ω = k (.cell ω.length) (ω ++ [c]) := rfl
@[simp] theorem frzD_int (i : Int) : frzD (.int i) = M.ret (.int i) := rfl
@[simp] theorem frzD_lst (i : List D) : frzD (.lst i) = M.ret (.lst i) := rfl
@[simp] theorem frzD_tup (i : List D) : frzD (.tup i) = M.ret (.tup i) := rfl
def rdF (o : Option Cell) (k : D → Out) : Out := match o with
  | some (.lst xs) => k (.lst xs)
  | some (.dic ks xs) => k (.dic ks xs)
  | _ => .stuck
@[simp] theorem rdF_lst (xs : List D) (k : D → Out) : rdF (some (.lst xs)) k = k (.lst xs) := rfl
@[simp] theorem rdF_dic (ks : List Key) (xs : List D) (k : D → Out) : rdF (some (.dic ks xs)) k = k (.dic ks xs) := rfl
@[simp] theorem runS_frz (n : Nat) (k : D → List Cell → Out) (ρ : Env) (ω : List Cell) : runS (frzD (.cell n)) k ρ ω = rdF ω[n]? (fun d => k d (ω.set n .dead)) := by
  unfold runS frzD rdF
  dsimp only
  cases ω[n]? with
  | none => rfl
  | some c => cases c <;> rfl
def upC (o : Option Cell) (k : List D → Out) : Out := match o with
  | some (.lst xs) => k xs
  | _ => .stuck
def opC (o : Option (List D × D)) (k : List D → D → Out) : Out := match o with
  | some (ys, z) => k ys z
  | none => .stuck
@[simp] theorem runS_upL (f : List D → List D → Option (List D × D)) (n : Nat) (ds : List D) (k : D → List Cell → Out) (ρ : Env) (ω : List Cell) : runS (upL f (.cell n) ds) k ρ ω = upC ω[n]? fun xs => opC (f xs ds) fun ys z => k z (ω.set n (.lst ys)) := by
  unfold runS upL upC opC
  dsimp only
  cases ω[n]? with
  | none => rfl
  | some c => cases c with
    | lst xs => dsimp only; cases f xs ds <;> rfl
    | _ => rfl
@[simp] theorem upC_lst (xs : List D) (k : List D → Out) : upC (some (.lst xs)) k = k xs := rfl
@[simp] theorem opC_some (ys : List D) (z : D) (k : List D → D → Out) : opC (some (ys, z)) k = k ys z := rfl
theorem kAppend_ (xs : List D) (d : D) (h : xs.length < 1000000) : kAppend xs [d] = some (xs ++ [d], .non) := if_pos h
/-- the receiver is looked at, then the arguments -/
@[simp] theorem eBM_run (chk : D → List Cell → Bool) (o : D → List D → M D) (f : Env → M D) (fs : Env → M (List D)) (ρ : Env) (k : D → List Cell → Out) (ρ' : Env) (ω : List Cell) : runS (eBM chk o f fs ρ) k ρ' ω = runS (f ρ) (fun d ω1 => if chk d ω1 = true then runS (fs ρ) (fun ds => runS (o d ds) k ρ') ρ' ω1 else .stuck) ρ' ω := by
  unfold eBM
  rw [runS_bind]
  congr 1
  funext d ω1
  by_cases c : chk d ω1 = true
  · rw [if_pos c, ← runS_bind]
    unfold runS
    dsimp only
    rw [if_pos c]
  · rw [if_neg c]
    unfold runS
    dsimp only
    rw [if_neg c]
@[simp] theorem chkL_lst (xs : List D) (ω : List Cell) : chkL (.lst xs) ω = true := rfl
def isL (o : Option Cell) : Bool := match o with
  | some (.lst _) => true
  | _ => false
@[simp] theorem chkL_cell (n : Nat) (ω : List Cell) : chkL (.cell n) ω = isL ω[n]? := rfl
@[simp] theorem isL_lst (xs : List D) : isL (some (.lst xs)) = true := rfl
def asgO (o : Option Env) (ω : List Cell) : Out := match o with
  | some ρ' => .next ρ' ω
  | none => .stuck
@[simp] theorem sAsg_run (g : D → Env → Option Env) (f : Env → M D) (ρ : Env) (ω : List Cell) : sAsg g f ρ ω = runS (f ρ) (fun d ω1 => asgO (g d ρ) ω1) ρ ω := rfl
@[simp] theorem asgO_some (ρ : Env) (ω : List Cell) : asgO (some ρ) ω = .next ρ ω := rfl
@[simp] theorem pyEq_int (i j : Int) : pyEq (.int i) (.int j) = some (decide (i = j)) := by
  unfold pyEq toP
  dsimp only
  rw [if_pos ⟨rfl, rfl⟩]
  rfl
@[simp] theorem loop_nil (g : D → Env → Option Env) (s : SM) (ρ : Env) (ω : List Cell) : loopS g s [] ρ ω = .next ρ ω := rfl
@[simp] theorem rangeD_len (lo : Int) (n : Nat) : (rangeD lo n).length = n := by simp [rangeD]
/-- a loop's invariant: all turns go on -/
theorem loop_inv {g : D → Env → Option Env} {s : SM} (Inv : Env → List Cell → Prop) : ∀ (ds : List D) (ρ : Env) (ω : List Cell), (∀ d ∈ ds, ∀ ρ ω, Inv ρ ω → ∃ ρ1 ρ2 ω2, g d ρ = some ρ1 ∧ s ρ1 ω = .next ρ2 ω2 ∧ Inv ρ2 ω2) → Inv ρ ω → ∃ ρ' ω', loopS g s ds ρ ω = .next ρ' ω' ∧ Inv ρ' ω'
  | [], ρ, ω, _, h => ⟨ρ, ω, rfl, h⟩
  | d :: ds, ρ, ω, hs, h => by
    obtain ⟨ρ1, ρ2, ω2, e1, e2, h2⟩ := hs d List.mem_cons_self ρ ω h
    obtain ⟨ρ', ω', e3, h3⟩ := loop_inv Inv ds ρ2 ω2 (fun x hx => hs x (List.mem_cons_of_mem _ hx)) h2
    refine ⟨ρ', ω', ?_, h3⟩
    unfold loopS
    rw [e1]
    dsimp only
    rw [e2]
    exact e3
/-- a loop that carries a state: st d is what a turn makes of it -/
theorem loop_fold {τ : Type} {g : D → Env → Option Env} {s : SM} (At : τ → Env → List Cell → Prop) (st : τ → D → τ) : ∀ (ds : List D) (t : τ) (ρ : Env) (ω : List Cell), (∀ d ∈ ds, ∀ t ρ ω, At t ρ ω → ∃ ρ1 ρ2 ω2, g d ρ = some ρ1 ∧ s ρ1 ω = .next ρ2 ω2 ∧ At (st t d) ρ2 ω2) → At t ρ ω → ∃ ρ' ω', loopS g s ds ρ ω = .next ρ' ω' ∧ At (ds.foldl st t) ρ' ω'
  | [], t, ρ, ω, _, h => ⟨ρ, ω, rfl, h⟩
  | d :: ds, t, ρ, ω, hs, h => by
    obtain ⟨ρ1, ρ2, ω2, e1, e2, h2⟩ := hs d List.mem_cons_self t ρ ω h
    obtain ⟨ρ', ω', e3, h3⟩ := loop_fold At st ds (st t d) ρ2 ω2 (fun x hx => hs x (List.mem_cons_of_mem _ hx)) h2
    refine ⟨ρ', ω', ?_, h3⟩
    unfold loopS
    rw [e1]
    dsimp only
    rw [e2]
    exact e3
/-- a comprehension without a test, its element a value -/
theorem compM_map {g : D → Env → Option Env} {e : Env → M D} {ρ : Env} (h : D → D) : ∀ (ds : List D), (∀ d ∈ ds, ∃ ρ1, g d ρ = some ρ1 ∧ e ρ1 = M.ret (h d)) → compM g bYes e ρ ds = M.ret (ds.map h)
  | [], _ => rfl
  | d :: ds, hs => by
    obtain ⟨ρ1, e1, e2⟩ := hs d List.mem_cons_self
    have ih := compM_map h ds fun x hx => hs x (List.mem_cons_of_mem _ hx)
    funext ω
    rw [compM_cons, e1]
    dsimp only [bYes, M.ret]
    rw [e2]
    dsimp only [M.ret]
    rw [ih]
    rfl
/-- .. with a test -/
theorem compM_filter {g : D → Env → Option Env} {t : Env → M Bool} {e : Env → M D} {ρ : Env} (p : D → Bool) (h : D → D) : ∀ (ds : List D), (∀ d ∈ ds, ∃ ρ1, g d ρ = some ρ1 ∧ t ρ1 = M.ret (p d) ∧ (p d = true → e ρ1 = M.ret (h d))) → compM g t e ρ ds = M.ret ((ds.filter p).map h)
  | [], _ => rfl
  | d :: ds, hs => by
    obtain ⟨ρ1, e1, e2, e3⟩ := hs d List.mem_cons_self
    have ih := compM_filter p h ds fun x hx => hs x (List.mem_cons_of_mem _ hx)
    funext ω
    rw [compM_cons, e1]
    dsimp only
    rw [e2]
    dsimp only [M.ret]
    cases hp : p d with
    | false =>
      rw [List.filter_cons_of_neg (by rw [hp]; exact Bool.false_ne_true)]
      dsimp only
      rw [ih]
      rfl
    | true =>
      rw [List.filter_cons_of_pos hp]
      dsimp only
      rw [e3 hp]
      dsimp only [M.ret]
      rw [ih]
      rfl
end Mi
namespace Mi
open PySem PySem.Spec PyProof.Rows L2
/-- a type of Lean whose values are Python data (no truths) -/
class Da (α : Type) where
  toD : α → D
  py : α → PyData
  dep : Nat
  ok : ∀ a, toP (toD a) = some (py a)
  lay : ∀ a, (py a).canLay0 = true
  le : ∀ a, (py a).depth ≤ dep
  inj : ∀ a b, PyData.eqv (py a) (py b) = true ↔ a = b
  cl : ∀ a, clean (toD a) = true
open Da (toD)
section
variable {α β γ : Type} [Da α] [Da β] [Da γ]
instance : Da Int := ⟨.int, .int, 0, fun _ => rfl, fun _ => rfl, fun _ => Nat.le_refl _, fun a b => by simp [PyData.eqv], fun _ => rfl⟩
theorem toPs_map (xs : List α) : toPs (xs.map toD) = some (xs.map Da.py) := by
  induction xs with
  | nil => rfl
  | cons x xs ih => rw [List.map_cons]; unfold toPs; rw [Da.ok, ih]; rfl
theorem layAll_map (xs : List α) : PyData.canLayAll0 (xs.map Da.py) = true := by
  induction xs with
  | nil => rfl
  | cons x xs ih => rw [List.map_cons]; unfold PyData.canLayAll0; rw [Da.lay, ih]; rfl
theorem depAll_map (xs : List α) : PyData.depthAll (xs.map Da.py) ≤ Da.dep α := by
  induction xs with
  | nil => exact Nat.zero_le _
  | cons x xs ih => rw [List.map_cons]; unfold PyData.depthAll; exact Nat.max_le.mpr ⟨Da.le x, ih⟩
theorem eqvAll_map (xs ys : List α) : PyData.eqvAll (xs.map Da.py) (ys.map Da.py) = true ↔ xs = ys := by
  induction xs generalizing ys with
  | nil => cases ys with
    | nil => simp [PyData.eqvAll]
    | cons y ys => simp [PyData.eqvAll]
  | cons x xs ih => cases ys with
    | nil => simp [PyData.eqvAll]
    | cons y ys => rw [List.map_cons, List.map_cons]; unfold PyData.eqvAll; rw [Bool.and_eq_true, Da.inj, ih, List.cons.injEq]
theorem cleanL_map (xs : List α) : cleanL (xs.map toD) = true := by
  induction xs with
  | nil => rfl
  | cons x xs ih => rw [List.map_cons]; unfold cleanL; rw [Da.cl, ih]; rfl
instance : Da (List α) where
  toD xs := .lst (xs.map toD)
  py xs := .list (xs.map Da.py)
  dep := Da.dep α + 1
  ok xs := by unfold toP; rw [toPs_map]
  lay xs := by unfold PyData.canLay0; exact layAll_map xs
  le xs := by unfold PyData.depth; exact Nat.succ_le_succ (depAll_map xs)
  inj a b := by unfold PyData.eqv; exact eqvAll_map a b
  cl xs := by unfold clean; exact cleanL_map xs
/-- a tuple of like things -/
structure Tu (α : Type) where
  l : List α
  deriving DecidableEq
instance : Da (Tu α) where
  toD xs := .tup (xs.l.map toD)
  py xs := .tuple (xs.l.map Da.py)
  dep := Da.dep α + 1
  ok xs := by unfold toP; rw [toPs_map]
  lay xs := by unfold PyData.canLay0; exact layAll_map xs.l
  le xs := by unfold PyData.depth; exact Nat.succ_le_succ (depAll_map xs.l)
  inj a b := by unfold PyData.eqv; rw [eqvAll_map]; cases a; cases b; simp
  cl xs := by unfold clean; exact cleanL_map xs.l
instance : Da (α × β) where
  toD p := .tup [toD p.1, toD p.2]
  py p := .tuple [Da.py p.1, Da.py p.2]
  dep := max (Da.dep α) (Da.dep β) + 1
  ok p := by simp [toP, toPs, Da.ok]
  lay p := by simp [PyData.canLay0, PyData.canLayAll0, Da.lay]
  le p := by
    have h1 := Da.le p.1
    have h2 := Da.le p.2
    simp only [PyData.depth, PyData.depthAll]
    omega
  inj a b := by simp [PyData.eqv, PyData.eqvAll, Da.inj, Prod.ext_iff]
  cl p := by simp [clean, cleanL, Da.cl]
theorem toD_int (i : Int) : (toD i : D) = .int i := rfl
theorem toD_list (xs : List α) : (toD xs : D) = .lst (xs.map toD) := rfl
theorem toD_tu (xs : Tu α) : (toD xs : D) = .tup (xs.l.map toD) := rfl
theorem toD_pair (p : α × β) : (toD p : D) = .tup [toD p.1, toD p.2] := rfl
theorem shaped_da (h : Da.dep α ≤ 64) (a : α) : SeqAt.shaped (Da.py a) = true := by
  unfold SeqAt.shaped
  rw [Da.lay, Bool.true_and, decide_eq_true_eq]
  exact Nat.le_trans (Da.le a) h
theorem pyEq_da [DecidableEq α] (h : Da.dep α ≤ 64) (a b : α) : pyEq (toD a) (toD b) = some (decide (a = b)) := by
  unfold pyEq
  rw [Da.ok, Da.ok]
  dsimp only
  rw [if_pos ⟨shaped_da h a, shaped_da h b⟩]
  congr 1
  rw [Bool.eq_iff_iff, Da.inj, decide_eq_true_eq]
theorem anyEq_da [DecidableEq α] (h : Da.dep α + 1 ≤ 64) (a : α) (xs : List α) : anyEq (toD a) (xs.map toD) = some (decide (a ∈ xs)) := by
  unfold anyEq
  rw [Da.ok, toPs_map]
  dsimp only
  rw [if_pos ⟨shaped_da (by omega) a, shaped_da (α := List α) h xs⟩]
  congr 1
  rw [Bool.eq_iff_iff, List.any_eq_true, decide_eq_true_eq]
  constructor
  · rintro ⟨z, hz, e⟩
    obtain ⟨y, hy, rfl⟩ := List.mem_map.mp hz
    rw [Da.inj] at e
    exact e ▸ hy
  · intro hm
    exact ⟨Da.py a, List.mem_map.mpr ⟨a, hm, rfl⟩, (Da.inj a a).mpr rfl⟩
theorem ints_map (xs : List Int) : ints? (xs.map toD) = some xs := by
  induction xs with
  | nil => rfl
  | cons x xs ih => rw [List.map_cons, toD_int]; unfold ints?; rw [ih]
end
end Mi
namespace Mi
open PySem PySem.Spec PyProof.Rows L2
variable [Tb]
/-! ### walks of a list or a tuple, for sum, max, min -/
section
variable {prog : Program} {w : World} {A : Around} {E : Value → Shared → Prop} {s : Shared}
/-- a list or a tuple at a -/
def Sq (h : Heap) (a : Addr) (its : Array Value) : Prop := h.IsList a its ∨ IsTup h a its
/-- its iterator, as a walk -/
theorem iter_sq {a : Addr} {its : Array Value} {Q : Value → Shared → Prop} (hh : A.handled = none) (hl : Sq s.heap a its)
    (h : ∀ (it : Addr) (fp wr : List Addr) (St : Nat → Heap → Prop) (s2 : Shared), (∃ h2, s2 = { s with heap := h2 }) → Walks prog w A it fp wr its.size (fun i v => its[i]? = some v) St → St 0 s2.heap → (∀ b ∈ fp, b < s2.heap.objs.size) →
      (∀ b o, s.heap.get? b = some o → b ∉ wr ∧ s2.heap.get? b = some o) → Q (.ref it) s2) :
    wpAny (model prog w) A (pyIter (.ref a)) Q E s := by
  have hlt : a < s.heap.objs.size := by
    rcases hl with ⟨o, e, _⟩ | ⟨o, e, _⟩ <;> exact Heap.lt_size e
  have hne : a ≠ s.heap.objs.size := Nat.ne_of_lt hlt
  have old : ∀ (ob : Obj) (b : Addr) (o : Obj), s.heap.get? b = some o → b ∉ [s.heap.objs.size] ∧ (s.heap.push ob).get? b = some o := fun ob b o e =>
    ⟨fun hm => absurd (Heap.lt_size e) (by rw [List.mem_singleton.mp hm]; exact Nat.lt_irrefl _), Heap.get?_push_of_some _ e⟩
  have small : ∀ (ob : Obj) (b : Addr), b ∈ [s.heap.objs.size, a] → b < (s.heap.push ob).objs.size := fun ob b hb => by
    rw [Heap.size_push]
    rcases List.mem_cons.mp hb with rfl | hb
    · exact Nat.lt_succ_self _
    · rw [List.mem_singleton.mp hb]; exact Nat.lt_succ_of_lt hlt
  rcases hl with hl | hl
  · refine wpAny_pyIter_list hl ?_
    exact h _ _ _ _ _ ⟨_, rfl⟩ (Walks.list hh _ a hne its) ⟨⟨_, Heap.get?_push_size _ rfl, rfl, rfl⟩, hl.push _⟩ (small _) (old _)
  · have hl' : s.heap.IsTuple a its := hl
    refine wpAny_pyIter_tuple hl' ?_
    exact h _ _ _ _ _ ⟨_, rfl⟩ (Walks.tuple hh _ a hne its) ⟨⟨_, Heap.get?_push_size _ rfl, rfl, rfl⟩, hl'.push _⟩ (small _) (old _)
theorem preSum_take (ns : List Int) : ∀ j, j ≤ ns.length → preSum (fun i => ns.getD i 0) j = (ns.take j).sum
  | 0, _ => by simp [preSum]
  | j + 1, hj => by
    have hlt : j < ns.length := hj
    have e : ns.getD j 0 = ns[j] := by simp [List.getD_eq_getElem?_getD, List.getElem?_eq_getElem hlt]
    rw [preSum, preSum_take ns j (by omega), e, List.take_add_one, List.getElem?_eq_getElem hlt, Option.toList_some, List.sum_append, List.sum_singleton]
theorem ints_get {its : List Value} {ns : List Int} (r : Vals (ns.map V.int) its) {i : Nat} {v : Value} (h : its.toArray[i]? = some v) : ∃ t, v = .int (ns.getD i 0) t := by
  have h' : its[i]? = some v := by simpa using h
  have hl := r.length
  have hi : i < ns.length := by
    have := (List.getElem?_eq_some_iff.mp h').1
    simp at hl; omega
  obtain ⟨u, h1, h2⟩ := r.get (i := i) (x := .int (ns.getD i 0)) (by rw [List.getElem?_map, List.getElem?_eq_getElem hi]; simp [List.getD_eq_getElem?_getD, List.getElem?_eq_getElem hi])
  rw [h'] at h1; cases h1
  exact h2
theorem sum_sq {a : Addr} {its : List Value} {ns : List Int} {Q : Value → Shared → Prop} (hh : A.handled = none) (hl : Sq s.heap a its.toArray) (r : Vals (ns.map V.int) its)
    (h : ∀ h' tk t', (∀ b o, s.heap.get? b = some o → h'.get? b = some o) → Q (.int ns.sum t') { s with heap := h', toks := tk }) : wpAny (model prog w) A (call (.builtin "sum") [.ref a]) Q E s := by
  have hlen : its.toArray.size = ns.length := by have := r.length; simp at this; simp; omega
  refine call_sum_walkG (iter_sq (A := A.in1) hh hl fun it fp wr St s2 e2 W st hfp old => ?_)
  obtain ⟨h2, rfl⟩ := e2
  refine ⟨it, fp, wr, _, _, St, fun i => ns.getD i 0, rfl, W, st, hfp, fun i v hv => ints_get r hv, fun h' tk t' hk => ?_⟩
  rw [hlen, preSum_take ns _ (Nat.le_refl _), List.take_length]
  exact h h' tk t' fun b o e => hk b o (old b o e).1 (old b o e).2
end
section
variable {X : Cx}
/-- a list or a tuple that is read -/
def SqA (K : PySem.W.Frag) (H : Hp) (a : Addr) (xs : List V) : Prop := SqL K H a xs ∨ SqT K H a xs
theorem Inv.sq {pins : List (Addr × Obj)} {σ : L2.St} {H : Hp} {s : Shared} {a : Addr} {xs : List V} (I : Inv X pins σ H s) (h : SqA X.K H a xs) : ∃ its : List Value, Vals xs its ∧ Sq s.heap a its.toArray ∧ xs.length ≤ sizeLine := by
  rcases h with h | h
  · obtain ⟨its, rv, p, hz⟩ := I.list h; exact ⟨its, rv, .inl p.isList, hz⟩
  · obtain ⟨its, rv, p, hz⟩ := I.tuple h; exact ⟨its, rv, .inr p, hz⟩
def rSumA (K : PySem.W.Frag) : List V → Hp → VK → Prop := fun vs H Q => ∃ (a : Addr) (ns : List Int), vs = [V.ref a] ∧ SqA K H a (ns.map V.int) ∧ Q (.int ns.sum) H
theorem ref_one {a : Addr} {us : List Value} (r : Vals [V.ref a] us) : us = [.ref a] := by
  cases r with
  | cons r rs => cases rs; cases r; rfl
theorem cr_sumA (hc : X.calm = true) : CallR X (.builtin "sum") (rSumA X.K) := by
  intro pins s σ H vs us Q I r h
  obtain ⟨a, ns, rfl, hs, q⟩ := h
  obtain ⟨its, rv, hl, _⟩ := Inv.sq I hs
  rw [ref_one r]
  exact sum_sq (I.ok.hd hc) hl rv fun h' tk t' hk => ⟨.int _, H, I.kept hk, ⟨_, rfl⟩, q⟩
end
/-! ### min of data: the comparison looks at objects that were there ahead of the call -/
section
variable {prog : Program} {w : World} {A : Around} {R : Result → Shared → Prop} {it : Addr} {fp wr : List Addr} {n : Nat} {P : Nat → Value → Prop} {St : Nat → Heap → Prop}
/-- what stood in g stands in h -/
def Stays (g h : Heap) : Prop := ∀ b o, g.get? b = some o → h.get? b = some o
def LessIn (prog : Program) (w : World) (A : Around) (g : Heap) (P : Nat → Value → Prop) (lt : Nat → Nat → Bool) : Prop :=
  ∀ (i j : Nat) (x y : Value) (s : Shared) (Q : Value → Shared → Prop) (E : Value → Shared → Prop), Stays g s.heap → P i x → P j y → Q (.bool (lt i j)) s → wpAny (model prog w) A (richCompare .Lt x y) Q E s
theorem min_turns (W : Walks prog w A.in1 it fp wr n P St) (lt : Nat → Nat → Bool) {g : Heap} (less : LessIn prog w A.in1 g P lt) (gw : ∀ b o, g.get? b = some o → b ∉ wr) (B : Addr) (Bf : B ∉ fp) (gB : g.get? B = none) :
    ∀ (k j : Nat) (s : Shared) (best : Value) (c : Nat), n - (j + 1) = k → j + 1 ≤ n → St (j + 1) s.heap → Stays g s.heap → P (argBest lt j) best →
    s.heap.get? B = some { cls := .type "list", dict := none, data := .seq #[best, best] c, slots := #[] } →
    (∀ v h' tk, P (argBest lt (n - 1)) v → (∀ b o, b ∉ wr → b ≠ B → s.heap.get? b = some o → h'.get? b = some o) → R (.ok (.ret v)) { s with heap := h', toks := tk }) →
    codeAny (model prog w) A (.builtin "min.loop" ⟨[.ref it, .none, .ref B], []⟩) R s := by
  have Bw : B ∉ wr := fun z => Bf (W.sub _ z)
  have nm : (toString "min" ++ toString ".loop" : String) = "min.loop" := by decide
  have gne : ∀ b o, g.get? b = some o → b ≠ B := fun b o e z => by rw [z, gB] at e; cases e
  intro k
  induction k with
  | zero =>
    intro j s best c ek hj st keep pb eB fin
    have en : j + 1 = n := by omega
    refine codeAny_builtin PySem.F.entry_min_loop ?_
    rw [Around.under_plainId PySem.F.plain_min_loop _]
    show wpAny _ A.in1 (seqItems? (.ref B) >>= _) _ _ s
    refine wpAny_bind (wpAny_seqItems eB rfl ?_)
    show wpAny _ A.in1 (tryCatch (pyNext (.ref it)) _ >>= _) _ _ s
    refine wpAny_bind (wpAny_tryCatch (W.done s _ _ (en ▸ st) fun h1 tk k1 => ?_))
    have eB1 := k1 B _ Bw eB
    show wpAny _ A.in1 (updateSeq B (fun _ => #[]) >>= _) _ _ _
    refine wpAny_bind (wpAny_updateSeq eB1 rfl (wpAny_bind (wpAny_letGo (wpAny_pure ?_))))
    exact fin best _ tk (by rw [← en]; exact pb) fun b o nb nB e => (Heap.get?_update_other _ _ (Ne.symm nB)).trans (k1 b o nb e)
  | succ k ih =>
    intro j s best c ek hj st keep pb eB fin
    have lt1 : j + 1 < n := by omega
    refine codeAny_builtin PySem.F.entry_min_loop ?_
    rw [Around.under_plainId PySem.F.plain_min_loop _]
    show wpAny _ A.in1 (seqItems? (.ref B) >>= _) _ _ s
    refine wpAny_bind (wpAny_seqItems eB rfl ?_)
    show wpAny _ A.in1 (tryCatch (pyNext (.ref it)) _ >>= _) _ _ s
    refine wpAny_bind (wpAny_tryCatch (W.item (j + 1) s _ _ lt1 st fun v h1 tk pv st1 k1 => ?_))
    have eB1 := k1 B _ Bw eB
    have keep1 : Stays g h1 := fun b o e => k1 b o (gw b o e) (keep b o e)
    show wpAny _ A.in1 (tryCatch (holding [v, v] (richCompare .Lt v best >>= _)) _ >>= _) _ _ _
    refine wpAny_bind (wpAny_tryCatch (wpAny_holding (wpAny_bind (less (j + 1) (argBest lt j) v best _ _ _ keep1 pv pb ?_))))
    refine wpAny_bind (wpAny_holding (wpAny_truthy_bool (wpAny_bind (wpAny_letGo (wpAny_pure ?_)))))
    cases hb : lt (j + 1) (argBest lt j) with
    | true =>
      simp only [if_true]
      refine wpAny_bind (wpAny_updateSeq eB1 rfl (wpAny_bind (wpAny_letGo ?_)))
      rw [nm]
      refine wpAny_pure ⟨plainId_quiet PySem.F.plain_min_loop _, ih (j + 1) _ v _ (by omega) lt1 (W.frame _ _ _ st1 fun b bf o e => ?_) (fun b o e => ?_) (by simp only [argBest, hb, if_true]; exact pv) (Heap.get?_update_self _ eB1 rfl) fun v' h2 tk2 pv' k2 => ?_⟩
      · exact (Heap.get?_update_other _ _ (fun z : B = b => Bf (by rw [z]; exact bf))).trans e
      · exact (Heap.get?_update_other _ _ (Ne.symm (gne b o e))).trans (keep1 b o e)
      · exact fin v' h2 tk2 pv' fun b o nb nB e => k2 b o nb nB ((Heap.get?_update_other _ _ (Ne.symm nB)).trans (k1 b o nb e))
    | false =>
      simp only [Bool.false_eq_true, if_false]
      refine wpAny_bind (wpAny_letGo ?_)
      rw [nm]
      refine wpAny_pure ⟨plainId_quiet PySem.F.plain_min_loop _, ih (j + 1) _ best c (by omega) lt1 st1 keep1 (by simp only [argBest, hb, Bool.false_eq_true, if_false]; exact pb) eB1 fun v' h2 tk2 pv' k2 => ?_⟩
      exact fin v' h2 tk2 pv' fun b o nb nB e => k2 b o nb nB (k1 b o nb e)
end
section
variable {prog : Program} {w : World} {A : Around} {E : Value → Shared → Prop} {s : Shared}
theorem min_sq {a : Addr} {its : Array Value} {lt : Nat → Nat → Bool} {Q : Value → Shared → Prop} (hh : A.handled = none) (hl : Sq s.heap a its) (hn : 0 < its.size) (less : LessIn prog w A.in1 s.heap (fun i v => its[i]? = some v) lt)
    (h : ∀ v h' tk, its[argBest lt (its.size - 1)]? = some v → Stays s.heap h' → Q v { s with heap := h', toks := tk }) : wpAny (model prog w) A (call (.builtin "min") [.ref a]) Q E s := by
  have nm : (toString "min" ++ toString ".loop" : String) = "min.loop" := by decide
  refine call_function_tree PySem.F.kind_min PySem.F.plain_min PySem.F.entry_min (PySem.F.args_min1 _) ?_
  show wpAny _ A.in1 (Builtin.Builtins.bindParams "min" ["key", "default"] 0 ⟨[], []⟩ >>= _) _ _ s
  refine wpAny_bind (wpAny_of_eq (show Builtin.Builtins.bindParams "min" ["key", "default"] 0 ⟨[], []⟩ = pure [none, none] from rfl) (wpAny_bind (wpAny_pure ?_)))
  refine wpAny_bind (iter_sq (A := A.in1) hh hl fun it fp wr St s2 e2 W st hfp old => ?_)
  obtain ⟨h2, rfl⟩ := e2
  refine wpAny_bind (wpAny_newObj_type ?_)
  have Bf : h2.objs.size ∉ fp := fun hm => Nat.lt_irrefl _ (hfp _ hm)
  have Bw : h2.objs.size ∉ wr := fun z => Bf (W.sub _ z)
  have gB : s.heap.get? h2.objs.size = none := by
    cases q : s.heap.get? h2.objs.size with
    | none => rfl
    | some o => exact absurd (Heap.lt_size (old _ o q).2) (Nat.lt_irrefl _)
  have gne : ∀ b o, s.heap.get? b = some o → b ≠ h2.objs.size := fun b o e z => by rw [z, gB] at e; cases e
  rw [nm]
  refine wpAny_pure ⟨plainId_quiet PySem.F.plain_min_loop _, ?_⟩
  have st' := W.frame _ _ (h2.push { cls := .type "list", data := .seq #[] }) st fun b _ o e => Heap.get?_push_of_some _ e
  have eB0 : (h2.push { cls := .type "list", data := .seq #[] }).get? h2.objs.size = some { cls := .type "list", dict := none, data := .seq #[] 0, slots := #[] } := Heap.get?_push_size _ rfl
  refine codeAny_builtin PySem.F.entry_min_loop ?_
  rw [Around.under_plainId PySem.F.plain_min_loop _]
  show wpAny _ A.in1 (seqItems? (.ref h2.objs.size) >>= _) _ _ _
  refine wpAny_bind (wpAny_seqItems eB0 rfl ?_)
  show wpAny _ A.in1 (tryCatch (pyNext (.ref it)) _ >>= _) _ _ _
  refine wpAny_bind (wpAny_tryCatch (W.item 0 _ _ _ hn st' fun v h1 tk pv st1 k1 => ?_))
  have eB1 := k1 _ _ Bw eB0
  show wpAny _ A.in1 (updateSeq h2.objs.size (fun _ => #[v, v]) >>= _) _ _ _
  refine wpAny_bind (wpAny_updateSeq eB1 rfl ?_)
  rw [nm]
  refine wpAny_pure ⟨plainId_quiet PySem.F.plain_min_loop _, min_turns W lt less (fun b o e => (old b o e).1) _ Bf gB _ 0 _ v _ rfl hn (W.frame _ _ _ st1 fun b bf o e => ?_) (fun b o e => ?_) pv (Heap.get?_update_self _ eB1 rfl) fun v' h3 tk3 pv' k3 => ?_⟩
  · exact (Heap.get?_update_other _ _ (fun z : h2.objs.size = b => Bf (by rw [z]; exact bf))).trans e
  · exact (Heap.get?_update_other _ _ (Ne.symm (gne b o e))).trans (k1 b o (old b o e).1 (Heap.get?_push_of_some _ (old b o e).2))
  · refine h v' h3 tk3 pv' fun b o e => k3 b o (old b o e).1 (gne b o e) ?_
    exact (Heap.get?_update_other _ _ (Ne.symm (gne b o e))).trans (k1 b o (old b o e).1 (Heap.get?_push_of_some _ (old b o e).2))
end
section
variable {X : Cx}
/-- items that are alike, their order -/
def AlikeL (ps : List PyData) : Bool := ps.all fun x => ps.all fun y => PySem.W.alike x y
def minOk (ps : List PyData) : Bool := !ps.isEmpty && AlikeL ps && ps.all fun x => (match x with | .none => false | _ => true) && decide (x.depth ≤ 60)
def minIx (ps : List PyData) : Nat := argBest (fun i j => PySem.W.dataLt (ps.getD i .none) (ps.getD j .none)) (ps.length - 1)
def rMinD (K : PySem.W.Frag) : List V → Hp → VK → Prop := fun vs H Q => ∃ (a : Addr) (xs : List V) (ps : List PyData), vs = [V.ref a] ∧ SqA K H a xs ∧ DpAll K H xs ps ∧ minOk ps = true ∧ ∀ v, xs[minIx ps]? = some v → Q v H
theorem dpAll_len {K : PySem.W.Frag} {H : Hp} : ∀ {xs : List V} {ps : List PyData}, DpAll K H xs ps → xs.length = ps.length
  | _, _, .nil => rfl
  | _, _, .cons _ t => by simp [dpAll_len t]
theorem dpAll_get {K : PySem.W.Frag} {H : Hp} : ∀ {xs : List V} {ps : List PyData} {i : Nat} {x : V}, DpAll K H xs ps → xs[i]? = some x → ∃ p, ps[i]? = some p ∧ Dp K H x p
  | _, _, _, _, .nil, e => by simp at e
  | _, _, 0, _, .cons h _, e => by simp at e; subst e; exact ⟨_, rfl, h⟩
  | _, _, i + 1, _, .cons _ t, e => by
    obtain ⟨p, h1, h2⟩ := dpAll_get (i := i) t (by simpa using e)
    exact ⟨p, by simpa using h1, h2⟩
theorem vals_get' : ∀ {xs : List V} {us : List Value} {i : Nat} {u : Value}, Vals xs us → us[i]? = some u → ∃ x, xs[i]? = some x ∧ RelV x u
  | _, _, _, _, .nil, e => by simp at e
  | _, _, 0, _, .cons h _, e => by simp at e; subst e; exact ⟨_, rfl, h⟩
  | _, _, i + 1, _, .cons _ t, e => by
    obtain ⟨p, h1, h2⟩ := vals_get' (i := i) t (by simpa using e)
    exact ⟨p, by simpa using h1, h2⟩
theorem cr_minD {k : Nat} (hc : X.calm = true) (hr : Room k X.A) : CallR X (.builtin "min") (rMinD X.K) := by
  intro pins s σ H vs us Q I r h
  obtain ⟨a, xs, ps, rfl, hs, hd, ok, q⟩ := h
  obtain ⟨its, rv, hl, _⟩ := Inv.sq I hs
  rw [ref_one r]
  have l1 := rv.length
  have l2 := dpAll_len hd
  unfold minOk at ok
  simp only [Bool.and_eq_true, List.all_eq_true, Bool.not_eq_true', List.isEmpty_eq_false_iff] at ok
  obtain ⟨⟨hne, hal⟩, hall⟩ := ok
  have hpos : 0 < ps.length := List.length_pos_iff.mpr hne
  refine min_sq (lt := fun i j => PySem.W.dataLt (ps.getD i .none) (ps.getD j .none)) (I.ok.hd hc) hl (by simp; omega) ?_ fun v h' tk hv keep => ?_
  · intro i j x y s1 Q1 E1 st px py hq
    have px' : its[i]? = some x := by simpa using px
    have py' : its[j]? = some y := by simpa using py
    obtain ⟨x', e1, r1⟩ := vals_get' rv px'
    obtain ⟨y', e2, r2⟩ := vals_get' rv py'
    obtain ⟨d, e3, d1⟩ := dpAll_get hd e1
    obtain ⟨e, e4, d2⟩ := dpAll_get hd e2
    obtain ⟨as, k1⟩ := Dp.reads I d x' x d1 r1
    obtain ⟨bs, k2⟩ := Dp.reads I e y' y d2 r2
    have md : d ∈ ps := List.mem_of_getElem? e3
    have me : e ∈ ps := List.mem_of_getElem? e4
    have ha : PySem.W.alike d e = true := by
      unfold AlikeL at hal
      simp only [List.all_eq_true] at hal
      exact hal d md e me
    have hd1 := hall d md
    have hdn : d ≠ .none := fun z => by rw [z] at hd1; simp at hd1
    have hdp : d.depth ≤ 60 := by have := hd1.2; simpa using this
    have g1 : ps.getD i .none = d := by rw [List.getD_eq_getElem?_getD, e3]; rfl
    have g2 : ps.getD j .none = e := by rw [List.getD_eq_getElem?_getD, e4]; rfl
    have hu : X.A.in1.units + min d.depth e.depth < cLine := by
      have h1 := hr.un
      have h2 : X.A.in1.units ≤ X.A.units + 1 := by first | exact Nat.le_refl _ | exact Nat.le_succ _ | (simp [Around.in1]; done)
      have h3 : min d.depth e.depth ≤ d.depth := Nat.min_le_left _ _
      omega
    dsimp only at hq
    rw [g1, g2] at hq
    exact PySem.W.rcLt_alike d e X.A.in1 s1 x y as bs (Reads.keeps st k1) (Reads.keeps st k2) ha hdn hu _ _ _ _ hq
  · have hv' : its[minIx ps]? = some v := by
      unfold minIx
      have : its.toArray.size - 1 = ps.length - 1 := by simp; omega
      rw [this] at hv
      simpa using hv
    obtain ⟨x, e1, r1⟩ := vals_get' rv hv'
    exact ⟨x, H, I.kept keep, r1, q x e1⟩
end
end Mi
namespace Mi
open PySem PySem.Spec PyProof.Rows L2
variable [Tb]
/-! ### new lists: shared, or as a cell -/
abbrev AnsF (K : PySem.W.Frag) (mg : Str → Option Value) (W : WX) (σ : L2.St) (w : Wd) (m : M (List D)) (Q : VK) : Prop := Holds K mg W σ w (m w.ω) fun ds w' => ∀ p vs, w'.H p = none → w'.reps K vs ds → vs.length ≤ sizeLine → Q (.ref p) (upd w'.H p (.lst vs))
def tMF (K : PySem.W.Frag) (mg : Str → Option Value) (W : WX) (f : Env → M (List D)) : TE := fun σ H Q => ∃ w ρ, w.H = H ∧ Fits K w ∧ EnvRep K w ρ σ ∧ AnsF K mg W σ w (f ρ) Q
def MF (X : Cx) (W : WX) (e : Expr) (f : Env → M (List D)) : Prop := PE X e (tMF X.K X.mg W f)
@[simp] def asL (f : Env → M (List D)) : Env → M D := fun ρ => (f ρ).bind fun ds => M.ret (.lst ds)
@[simp] def asC (f : Env → M (List D)) : Env → M D := fun ρ => (f ρ).bind fun ds => newCell (.lst ds)
section
variable {X : Cx} {W : WX} {a b : Expr} {es : List Expr} {fs : Env → M (List D)} {f g : Env → M D} {pos p : Pos} {fl : Env → M (List D)}
theorem MF.me (h : MF X W a fl) : ME X W a (asL fl) := by
  refine PE.sub h ?_
  rintro σ H Q ⟨w, ρ, rfl, F, E, h⟩
  exact ⟨w, ρ, rfl, F, E, Holds.thn h fun ds w1 g1 F1 h1 p vs hp rs hl => Ans.lst F1 h1 rs hl p hp⟩
theorem MF.mc (h : MF X W a fl) : ME X W a (asC fl) := by
  refine PE.sub h ?_
  rintro σ H Q ⟨w, ρ, rfl, F, E, h⟩
  exact ⟨w, ρ, rfl, F, E, Holds.thn h fun ds w1 g1 F1 h1 p vs hp rs hl => Ans.cell F1 h1 rs hl p hp⟩
theorem AnsF.new {K : PySem.W.Frag} {mg : Str → Option Value} {σ : L2.St} {w : Wd} {Q : VK} {vs : List V} {ds : List D} (F : Fits K w) (h : AnsF K mg W σ w (M.ret ds) Q) (r : w.reps K vs ds) (hl : vs.length ≤ sizeLine) : ∀ p, w.H p = none → Q (.ref p) (upd w.H p (.lst vs)) := fun p hp => (Holds.here F h) p vs hp r hl
def OpNF (X : Cx) (r : List V → Hp → VK → Prop) (o : List D → M (List D)) : Prop := ∀ (W : WX) (σ : L2.St) (w : Wd) (xs : List V) (ds : List D) (Q : VK), Fits X.K w → w.reps X.K xs ds → AnsF X.K X.mg W σ w (o ds) Q → r xs w.H Q
@[simp] def eNF (o : List D → M (List D)) (f : Env → M (List D)) : Env → M (List D) := fun ρ => (f ρ).bind o
theorem mf_callB {id : String} {r : List V → Hp → VK → Prop} {o : List D → M (List D)} {x : Str} {p : Pos} (hc : CallR X (.builtin id) r) (h2 : OpNF X r o) (hg : Gl X x) (hm : X.mg x = none) (hv : bootBuiltins x = some (.builtin id)) (ha : MA X W (a :: es) fs)
    (hn : x ≠ "__name__" := by decide) (hdb : (x == ("__debug__" : Str)) = false := by decide) (he : starEach (a :: es) X.env = (false, eval a X.env) :: starEach es X.env := by rfl) (hpl : (backTo pos (starEach es X.env)).any (·.1) = false := by rfl) : MF X W (.Call (.Name x p) (a :: es) [] pos) (eNF o fs) := by
  refine PE.sub (pe_callB hc hg hm hv ha hn hdb he hpl) ?_
  rintro σ H Q ⟨w, ρ, rfl, F, E, h⟩
  exact ⟨w, ρ, rfl, F, E, Holds.thn h fun ds w1 g1 F1 h1 xs rs => h2 W σ w1 xs ds Q F1 rs h1⟩
theorem mf_callTy {T : String} {r : List V → Hp → VK → Prop} {o : List D → M (List D)} {x : Str} {p : Pos} (hc : CallR X (.type T) r) (h2 : OpNF X r o) (hg : Gl X x) (hm : X.mg x = none) (hv : bootBuiltins x = some (.type T)) (ha : MA X W (a :: es) fs)
    (hn : x ≠ "__name__" := by decide) (hdb : (x == ("__debug__" : Str)) = false := by decide) (he : starEach (a :: es) X.env = (false, eval a X.env) :: starEach es X.env := by rfl) (hpl : (backTo pos (starEach es X.env)).any (·.1) = false := by rfl) : MF X W (.Call (.Name x p) (a :: es) [] pos) (eNF o fs) := by
  refine PE.sub (pe_callTy hc hg hm hv ha hn hdb he hpl) ?_
  rintro σ H Q ⟨w, ρ, rfl, F, E, h⟩
  exact ⟨w, ρ, rfl, F, E, Holds.thn h fun ds w1 g1 F1 h1 xs rs => h2 W σ w1 xs ds Q F1 rs h1⟩
/-- what is read of a list or a tuple -/
@[simp] def oItems : D → M (List D)
  | .lst xs => M.ret xs
  | .tup xs => M.ret xs
  | _ => M.stuck
theorem items_thn {K : PySem.W.Frag} {mg : Str → Option Value} {σ : L2.St} {w : Wd} {d : D} {v : V} {β : Type} {k : List D → M β} {P : β → Wd → Prop} {R : Prop} (F : Fits K w) (h : Holds K mg W σ w ((drf d).bind (fun d' => (oItems d').bind k) w.ω) P) (r : w.rep K v d)
    (hk : ∀ (a : Addr) (vs : List V) (ds : List D), v = .ref a → SqA K w.H a vs → vs.length ≤ sizeLine → w.reps K vs ds → Holds K mg W σ w (k ds w.ω) P → R) : R := by
  refine drf_thn F h r fun d' sx h' => ?_
  cases sx with
  | lst h1 h2 h3 => exact hk _ _ _ rfl (.inl (.of h1)) h2 h3 h'
  | dic _ _ _ => exact Holds.no (α := β) h'
  | of r => cases r with
    | lst _ h1 h2 h3 => exact hk _ _ _ rfl (.inl (.of h1)) h2 h3 h'
    | tup _ h1 h2 h3 => exact hk _ _ _ rfl (.inr (.of h1)) h2 h3 h'
    | _ => exact Holds.no (α := β) h'
@[simp] def oi {β : Type} (k : List D → M β) : D → M β := fun d => (drf d).bind fun d' => (oItems d').bind k
/-- list(x) -/
theorem opNF_list : OpNF X (fun xs H Q => ∃ p ys, xs = [V.ref p] ∧ (SqL X.K H p ys ∨ SqT X.K H p ys) ∧ ∀ l, H l = none → Q (.ref l) (upd H l (.lst ys))) (one (oi M.ret)) := by
  intro W σ w xs ds Q F rs q
  exact one_thn q rs fun v d e r' q' => by
    subst e
    exact items_thn F q' r' fun a vs ds e hs hl hr h => by subst e; exact ⟨a, vs, rfl, hs, AnsF.new F h hr hl⟩
theorem mf_list (hg : Gl X "list") (hm : X.mg "list" = none) (ha : MA X W [a] fs) (he : starEach [a] X.env = (false, eval a X.env) :: starEach [] X.env := by rfl) (hpl : (backTo pos (starEach [] X.env)).any (·.1) = false := by rfl) : MF X W (.Call (.Name "list" p) [a] [] pos) (eNF (one (oi M.ret)) fs) := mf_callTy call_list_of opNF_list hg hm boot_list' ha (by decide) (by decide) he hpl
/-- xs * k -/
@[simp] def oRepL : D → D → M (List D)
  | .lst xs, .int k => if 0 ≤ k ∧ tiny k = true ∧ xs.length * k.toNat ≤ sizeLine then M.ret (List.replicate k.toNat xs).flatten else M.stuck
  | _, _ => M.stuck
@[simp] def e2F (o : D → D → M (List D)) (f g : Env → M D) : Env → M (List D) := fun ρ => (f ρ).bind fun d => (g ρ).bind fun e => o d e
theorem mf_rep (ha : ME X W a f) (hb : ME X W b g) : MF X W (.BinOp a .Mult b pos) (e2F oRepL f g) := by
  refine PE.sub (pe_op op_rep ha hb) ?_
  rintro σ H Q ⟨w, ρ, rfl, F, E, h⟩
  refine ⟨w, ρ, rfl, F, E, Holds.thn h fun d w1 g1 F1 h1 x rx => ?_⟩
  refine ⟨w1, ρ, rfl, F1, E.grow g1, Holds.thn h1 fun e w2 g2 F2 h3 y ry => ?_⟩
  cases g2.rep rx with
  | lst s1 e1 l1 r1 => cases ry with
    | int k =>
      obtain ⟨⟨c1, c2, c3⟩, h⟩ := Holds.ite h3
      rw [← r1.length] at c3
      rw [tiny_iff] at c2
      exact ⟨_, k, _, rfl, rfl, e1, by omega, by omega, c3, AnsF.new F2 h (r1.rep _) (by rw [flat_len, Nat.mul_comm]; exact c3)⟩
    | _ => exact h3.no
  | _ => cases ry <;> exact h3.no
/-! ### slices -/
def tMO (K : PySem.W.Frag) (mg : Str → Option Value) (W : WX) (f : Env → M (Option Int)) : TO := fun σ H Q => ∃ w ρ, w.H = H ∧ Fits K w ∧ EnvRep K w ρ σ ∧ Holds K mg W σ w (f ρ w.ω) fun i w' => Q i w'.H
def MO (X : Cx) (W : WX) (e : Option Expr) (f : Env → M (Option Int)) : Prop := PO X e (tMO X.K X.mg W f)
@[simp] def oNo : Env → M (Option Int) := fun _ => M.ret none
@[simp] def asI : D → M (Option Int)
  | .int i => M.ret (some i)
  | _ => M.stuck
@[simp] def oSome (f : Env → M D) : Env → M (Option Int) := fun ρ => (f ρ).bind asI
theorem mo_none : MO X W none oNo := by
  refine ⟨fun pins s σ H Q I h => po_none.run pins s σ H Q I ?_⟩
  obtain ⟨w, ρ, rfl, F, E, h⟩ := h
  exact Holds.here F h
theorem mo_some (ha : ME X W a f) : MO X W (some a) (oSome f) := by
  refine ⟨fun pins s σ H Q I h => (po_some ha).run pins s σ H Q I ?_⟩
  obtain ⟨w, ρ, rfl, F, E, h⟩ := h
  refine ⟨w, ρ, rfl, F, E, Holds.thn h fun d w1 g1 F1 h1 x rx => ?_⟩
  cases rx with
  | int i => exact ⟨i, rfl, Holds.here F1 h1⟩
  | _ => exact Holds.no (α := Option Int) h1
def cutD {α : Type} (xs : List α) (lo hi : Option Int) : List α := (xs.drop (HT.sIx xs.length 0 lo)).take (HT.sIx xs.length xs.length hi - HT.sIx xs.length 0 lo)
theorem cut_reps {K : PySem.W.Frag} {S : Addr → Prop} {μ : List Addr} {H : Hp} {vs : List V} {ds : List D} (h : Reps K S μ H vs ds) (lo hi : Option Int) : Reps K S μ H (cutV vs lo hi) (cutD ds lo hi) := by
  unfold cutV cutD
  rw [h.length]
  exact (h.drop _).take _
@[simp] def oSl (d : D) (lo hi : Option Int) : M D := match d with
  | .lst xs => M.ret (.lst (cutD xs lo hi))
  | .tup xs => M.ret (.tup (cutD xs lo hi))
  | .str x => M.ret (.str (cutS x lo hi))
  | _ => M.stuck
@[simp] def eSl (f : Env → M D) (fl fh : Env → M (Option Int)) : Env → M D := fun ρ => (f ρ).bind fun d => (fl ρ).bind fun l => (fh ρ).bind fun h => (drf d).bind fun d' => oSl d' l h
theorem cutD_whole {α : Type} {xs : List α} {lo hi : Option Int} (h : HT.sIx xs.length 0 lo = 0 ∧ HT.sIx xs.length xs.length hi = xs.length) : cutD xs lo hi = xs := by
  unfold cutD
  rw [h.1, h.2, List.drop_zero, Nat.sub_zero, List.take_length]
theorem mem_take' {α : Type} {x : α} : ∀ {n : Nat} {l : List α}, x ∈ l.take n → x ∈ l
  | 0, _, h => by simp at h
  | n + 1, [], h => by simp at h
  | n + 1, y :: l, h => by
    rw [List.take_succ_cons, List.mem_cons] at h
    rcases h with h | h
    · exact List.mem_cons.mpr (.inl h)
    · exact List.mem_cons_of_mem _ (mem_take' h)
theorem cutS_ok {x : Str} {lo hi : Option Int} (h : PyData.strOk x = true) : PyData.strOk (cutS x lo hi) = true := by
  unfold PyData.strOk at *
  rw [Array.all_eq_true'] at *
  intro c hc
  refine h c ?_
  unfold cutS at hc
  rw [← Array.mem_toList_iff] at hc ⊢
  rw [List.toList_toArray] at hc
  exact List.mem_of_mem_drop (mem_take' hc)
def rSlAll (K : PySem.W.Frag) : V → Option Int → Option Int → Hp → VK → Prop := fun x lo hi H Q => rSlL K x lo hi H Q ∨ (rSlA K x lo hi H Q ∨ rSlS x lo hi H Q)
theorem me_slice {lo hi : Option Expr} {tl th : Env → M (Option Int)} {p2 : Pos} (ha : ME X W a f) (hl : MO X W lo tl) (hh : MO X W hi th) : ME X W (.Subscript a (.Slice lo hi none p2) pos) (eSl f tl th) := by
  refine PE.sub (pe_slice (r := rSlAll X.K) (SlR.or sl_list (SlR.or sl_tupA sl_str)) ha hl hh) ?_
  rintro σ H Q ⟨w, ρ, rfl, F, E, h⟩
  refine ⟨w, ρ, rfl, F, E, Holds.thn h fun d w1 g1 F1 h1 x rx => ?_⟩
  refine ⟨w1, ρ, rfl, F1, E.grow g1, Holds.thn h1 fun l w2 g2 F2 h2 => ?_⟩
  refine ⟨w2, ρ, rfl, F2, E.grow (g1.trans g2), Holds.thn h2 fun u w3 g3 F3 h3 => ?_⟩
  refine drf_thn F3 h3 ((g2.trans g3).rep rx) fun d' sx h' => ?_
  have hL : ∀ {a : Addr} {vs : List V} {ds : List D}, w3.H a = some (.lst vs) → vs.length ≤ sizeLine → w3.reps X.K vs ds → Ans X.K X.mg W σ w3 (oSl (.lst ds) l u) Q → rSlAll X.K (.ref a) l u w3.H Q := fun {a vs ds} e hz r h => .inl ⟨a, vs, rfl, .of e, Ans.lst F3 h (cut_reps r l u) (Nat.le_trans (cutV_length _ _ _) hz)⟩
  cases sx with
  | lst h1 h2 h3 => exact hL h1 h2 h3 h'
  | dic _ _ _ => exact h'.no
  | of r => cases r with
    | lst _ h1 h2 h3 => exact hL h1 h2 h3 h'
    | @tup c vs ds h0 h1 h2 h3 =>
      refine .inr (.inl ⟨c, vs, rfl, .of h1, fun hw => ?_, fun hw => Ans.tup F3 h' (cut_reps h3 l u) (Nat.le_trans (cutV_length _ _ _) h2)⟩)
      rw [h3.length] at hw
      refine Ans.val F3 h' ?_
      rw [cutD_whole hw]
      exact .tup h0 h1 h2 h3
    | str z hz hz' => exact .inr (.inr ⟨z, rfl, hz, Ans.val F3 h' (.str _ (Nat.le_trans (cutS_length _ _ _) hz) (cutS_ok hz'))⟩)
    | _ => exact h'.no
theorem sIx_pos (n d : Nat) (i : Int) (h : 0 ≤ i) : HT.sIx n d (some i) = min i.toNat n := by
  show (if i < 0 then (i + (n : Int)).toNat else min i.toNat n) = _
  rw [if_neg (by omega)]
theorem take_min' {α : Type} (xs : List α) (k : Nat) : xs.take (min k xs.length) = xs.take k := by
  rcases Nat.le_total k xs.length with h | h
  · rw [Nat.min_eq_left h]
  · rw [Nat.min_eq_right h, List.take_length, List.take_of_length_le h]
theorem drop_min' {α : Type} (xs : List α) (k : Nat) : xs.drop (min k xs.length) = xs.drop k := by
  rcases Nat.le_total k xs.length with h | h
  · rw [Nat.min_eq_left h]
  · rw [Nat.min_eq_right h, List.drop_length, List.drop_eq_nil_of_le h]
theorem cut_to {α : Type} (xs : List α) (k : Int) (h : 0 ≤ k) : cutD xs none (some k) = xs.take k.toNat := by
  unfold cutD
  rw [HT.sIx_none, sIx_pos _ _ _ h, List.drop_zero, Nat.sub_zero, take_min']
theorem cut_from {α : Type} (xs : List α) (k : Int) (h : 0 ≤ k) : cutD xs (some k) none = xs.drop k.toNat := by
  unfold cutD
  rw [HT.sIx_none, sIx_pos _ _ _ h, drop_min']
  refine List.take_of_length_le ?_
  rw [List.length_drop]
  omega
theorem cut_mid {α : Type} (xs : List α) (i j : Int) (h : 0 ≤ i) (h' : i ≤ j) : cutD xs (some i) (some j) = (xs.drop i.toNat).take (j.toNat - i.toNat) := by
  unfold cutD
  rw [sIx_pos _ _ _ h, sIx_pos _ _ _ (Int.le_trans h h'), drop_min']
  rcases Nat.le_total j.toNat xs.length with hj | hj
  · rw [Nat.min_eq_left hj, Nat.min_eq_left (by omega)]
  · rw [Nat.min_eq_right hj]
    rw [List.take_of_length_le (by rw [List.length_drop]; omega), List.take_of_length_le (by rw [List.length_drop]; omega)]
/-! ### [::-1] -/
end
section
variable {prog : Program} {w : World} {A : Around} {E : Value → Shared → Prop} {s : Shared}
theorem sliceApplied_rev {sl : Addr} {vl vu vs : Value} {n : Nat} {Q : Int × Int × Nat → Shared → Prop} (hs : s.heap.IsSliceOf sl vl vu vs) (pl : IsPart vl none) (pu : IsPart vu none) (ps : IsPart vs (some (-1)))
    (h : Q ((n : Int) - 1, -1, n) s) : wpAny (model prog w) A (Builtin.Slice.sliceApplied (.ref sl) (pure (n : Int))) Q E s := by
  obtain ⟨os, hos, hcs, hds⟩ := id hs
  unfold Builtin.Slice.sliceApplied Builtin.Slice.sliceFields
  refine wpAny_bind (wpAny_bind (wpAny_field hos hds (x := vl) rfl (wpAny_bind (wpAny_field hos hds (x := vu) rfl (wpAny_bind (wpAny_field hos hds (x := vs) rfl (wpAny_pure ?_)))))))
  refine wpAny_bind (HT.slicePart_ ps ?_)
  show wpAny _ _ (if ((-1 : Int) == 0) = true then _ else _) _ _ s
  rw [if_neg (by decide)]
  refine wpAny_bind (HT.slicePart_ pl (wpAny_bind (HT.slicePart_ pu (wpAny_bind (wpAny_pure ?_)))))
  show wpAny _ _ (pure ((n : Int) - 1, (-1 : Int), Builtin.Slice.slicePlaces ((n : Int) - 1) (-1) (-1))) _ _ s
  have e : Builtin.Slice.slicePlaces ((n : Int) - 1) (-1) (-1) = n := by
    unfold Builtin.Slice.slicePlaces
    rw [if_neg (by omega)]
    split
    · simp
    · omega
  rw [e]
  exact wpAny_pure h
theorem filterMap_eq {α β : Type} {f g : α → Option β} : ∀ {l : List α}, (∀ x ∈ l, f x = g x) → l.filterMap f = l.filterMap g
  | [], _ => rfl
  | x :: l, h => by
    rw [List.filterMap_cons, List.filterMap_cons, h x List.mem_cons_self, filterMap_eq fun y hy => h y (List.mem_cons_of_mem _ hy)]
theorem pick_rev (xs : Array Value) : ((List.range xs.size).filterMap fun (m : Nat) => xs[(((xs.size : Nat) : Int) - 1 + (m : Int) * (-1)).toNat]?).toArray = xs.toList.reverse.toArray := by
  congr 1
  have e : ∀ m ∈ List.range xs.size, (fun (m : Nat) => xs[(((xs.size : Nat) : Int) - 1 + (m : Int) * (-1)).toNat]?) m = (fun m => xs.toList.reverse[m]?) m := by
    intro m hm
    have hm' : m < xs.size := List.mem_range.mp hm
    show xs[(((xs.size : Nat) : Int) - 1 + (m : Int) * (-1)).toNat]? = xs.toList.reverse[m]?
    rw [List.getElem?_reverse (by simpa using hm')]
    have : (((xs.size : Nat) : Int) - 1 + (m : Int) * (-1)).toNat = xs.toList.length - 1 - m := by rw [Array.length_toList]; omega
    rw [this, Array.getElem?_toList]
  rw [filterMap_eq e]
  have key : ∀ l : List Value, (List.range l.length).filterMap (fun m => l[m]?) = l := by
    intro l
    induction l with
    | nil => rfl
    | cons x l ih =>
      rw [List.length_cons, List.range_succ_eq_map, List.filterMap_cons]
      simp only [List.getElem?_cons_zero]
      rw [List.filterMap_map]
      have : ((fun m => (x :: l)[m]?) ∘ Nat.succ) = fun m => l[m]? := by funext m; simp
      rw [this, ih]
  have k2 := key xs.toList.reverse
  rw [List.length_reverse, Array.length_toList] at k2
  exact k2
theorem getItem_tuple_rev {t sl : Addr} {items : Array Value} {vl vu vs : Value} {Q : Value → Shared → Prop} (ht : IsTup s.heap t items) (hs : s.heap.IsSliceOf sl vl vu vs) (pl : IsPart vl none) (pu : IsPart vu none) (ps : IsPart vs (some (-1)))
    (h : Q (.ref s.heap.objs.size) { s with heap := s.heap.push { cls := .type "tuple", data := .seq items.toList.reverse.toArray } })
    (hsz : items.size ≤ sizeLine) : wpAny (model prog w) A (getItem (.ref t) (.ref sl)) Q E s := by
  have htake : sizeOk (.seq items.toList.reverse.toArray) := by
    show items.toList.reverse.toArray.size ≤ sizeLine
    rw [List.size_toArray, List.length_reverse, Array.length_toList]
    exact hsz
  obtain ⟨os, hos, hcs, hds⟩ := id hs
  have hTs : s.TypeIs (.ref sl) "slice" := ⟨os, hos, hcs⟩
  unfold getItem
  try with_reducible refine wpAny_holding ?_
  first | refine wpAny_bind (wpAny_pure ?_) | skip
  refine wpAny_bind (wpAny_sequenceKey ht.typeIs (by decide) ?_)
  refine wpAny_bind (wpAny_callSpecial?_slot (name := Str.ofString "__getitem__") ht.typeIs PyProof.Rows.slot_tuple_getitem
    (wpAny_call_entry PyProof.Rows.slot_tuple_getitem ht.typeIs entry_tuple_getitem ?_ (args_tuple_getitem _ _)))
  show wpAny _ _ (Builtin.Tuple.tupleItemsOf (.ref t) >>= _) _ _ s
  refine wpAny_bind (tupleItemsOf_ ht ?_)
  refine wpAny_bind (wpAny_typeOf hTs ?_)
  rw [if_pos (by decide)]
  refine wpAny_bind (sliceApplied_rev hs pl pu ps ?_)
  have hno : ¬ ((((items.size : Nat) : Int) - 1 == 0 && (-1 : Int) == 1 && items.size == items.size) = true) := by
    intro q
    rw [Bool.and_eq_true, Bool.and_eq_true] at q
    exact absurd q.1.2 (by decide)
  show wpAny _ _ (if (((items.size : Nat) : Int) - 1 == 0 && (-1 : Int) == 1 && items.size == items.size) = true then _ else _) _ _ s
  rw [if_neg hno, pick_rev]
  first
    | exact wpAny_bind (m := Builtin.Tuple.tupleExact _) (wpAny_newObj_type (wpAny_pure ⟨_, rfl, wpAny_pure h⟩) htake)
    | exact wpAny_bind (m := Builtin.Tuple.tupleExact _) (wpAny_newObj_type (wpAny_bind (wpAny_pure (wpAny_pure ⟨_, rfl, wpAny_pure h⟩))) htake)
    | exact wpAny_bind (wpAny_bind (m := Builtin.Tuple.tupleExact _) (wpAny_newObj_type (wpAny_pure (wpAny_pure ⟨_, rfl, wpAny_pure h⟩)) htake))
    | exact wpAny_bind (wpAny_bind (m := Builtin.Tuple.tupleExact _) (wpAny_newObj_type (wpAny_pure ⟨_, rfl, wpAny_pure h⟩) htake))
end
section
variable {X : Cx} {W : WX} {a b : Expr} {es : List Expr} {fs : Env → M (List D)} {f g : Env → M D} {pos p : Pos}
def tRevA (K : PySem.W.Frag) (te : TE) : TE := fun σ H Q => te σ H fun x H1 => ∃ a xs, x = .ref a ∧ ((SqL K H1 a xs ∧ ∀ p, H1 p = none → Q (.ref p) (upd H1 p (.lst xs.reverse))) ∨ (SqT K H1 a xs ∧ ∀ p, H1 p = none → Q (.ref p) (upd H1 p (.tup xs.reverse))))
theorem pe_revA {e : Expr} {te : TE} {k : Nat} {p1 p2 p3 pos : Pos} (he : PE X e te) : PE X (.Subscript e (.Slice none none (some (.UnaryOp .USub (.Constant (.int 1) k p1) p2)) p3) pos) (tRevA X.K te) := by
  refine ⟨fun pins s σ H Q I h => ?_⟩
  refine Subscript_ (thn (he.run pins s σ H _ I h) fun v s1 ⟨x, H1, I1, r1, q1⟩ => ?_)
  obtain ⟨a, xs, ex, hx⟩ := q1
  subst ex
  cases r1
  have hst : PO X (some (.UnaryOp .USub (.Constant (.int 1) k p1) p2)) (tPart (tUn (rU fun i => .int (-i)) (tC (.int 1)))) := po_some (pe_un un_neg pe_int)
  refine wpAny_Slice (thn (po_none.run pins s1 σ H1 (fun o H2 => o = none ∧ H2 = H1) I1 ⟨rfl, rfl⟩) fun vl s2 ⟨l, H2, I2, pl, el, e2⟩ => ?_)
  subst el e2
  refine thn (po_none.run pins s2 σ H2 (fun o H3 => o = none ∧ H3 = H2) I2 ⟨rfl, rfl⟩) fun vu s3 ⟨u, H3, I3, pu, eu, e3⟩ => ?_
  subst eu e3
  refine thn (hst.run pins s3 σ H3 (fun o H4 => o = some (-1) ∧ H4 = H3) I3 ⟨1, rfl, -1, rfl, rfl, rfl⟩) fun vs s4 ⟨o, H4, I4, ps, eo, e4⟩ => ?_
  subst eo e4
  have I5 : Inv X pins σ H4 { s4 with heap := s4.heap.push { cls := .type "slice", data := .fields #[vl, vu, vs] } } := I4.kept (t' := s4.toks) fun b ob q => Heap.get?_push_of_some _ q
  show wpAny (model X.prog X.w) X.A (subscriptTail e (.Slice none none (some (.UnaryOp .USub (.Constant (.int 1) k p1) p2)) p3) (.ref a) (.ref s4.heap.objs.size)) (EP X pins σ Q) X.xe { s4 with heap := s4.heap.push { cls := .type "slice", data := .fields #[vl, vu, vs] } }
  rcases hx with ⟨hx, q⟩ | ⟨hx, q⟩
  · obtain ⟨its, r, ht, hz⟩ := I5.list hx
    have hlen := r.length
    refine tail_any (ops := [.ref a, .ref s4.heap.objs.size]) ht.isList.typeIs (PySem.slot_list_getitem.lookup) ?_ (by with_unfolding_all rfl)
    refine wpAny_getItem_list_slice ht.isList (Heap.IsSliceOf.new _ vl vu vs) pl pu ps (by decide) ?_ (by rw [List.size_toArray]; omega)
    rw [PySem.W.krv_pick]
    refine ⟨.ref _, _, I5.laid (t' := s4.toks) (o := .lst xs.reverse) (fun b ob q => Heap.get?_push_of_some _ q) (Nat.le_refl _) ?_, rfl, q _ (I5.hok.fresh (Nat.le_refl _))⟩
    exact ⟨by rw [List.length_reverse]; exact hz, _, 0, r.reverse, Heap.get?_push_size _ rfl⟩
  · obtain ⟨its, r, ht, hz⟩ := I5.tuple hx
    have hlen := r.length
    refine tail_any (ops := [.ref a, .ref s4.heap.objs.size]) ht.typeIs (PyProof.Rows.slot_tuple_getitem.lookup) ?_ (by with_unfolding_all rfl)
    refine getItem_tuple_rev ht (Heap.IsSliceOf.new _ vl vu vs) pl pu ps ?_ (by rw [List.size_toArray]; omega)
    refine ⟨.ref _, _, I5.laid (t' := s4.toks) (o := .tup xs.reverse) (fun b ob q => Heap.get?_push_of_some _ q) (Nat.le_refl _) ?_, rfl, q _ (I5.hok.fresh (Nat.le_refl _))⟩
    refine ⟨by rw [List.length_reverse]; exact hz, _, r.reverse, ?_⟩
    exact IsTup.new _ _
@[simp] def oRev : D → M D
  | .lst xs => M.ret (.lst xs.reverse)
  | .tup xs => M.ret (.tup xs.reverse)
  | _ => M.stuck
theorem me_rev {k : Nat} {p1 p2 p3 : Pos} (ha : ME X W a f) : ME X W (.Subscript a (.Slice none none (some (.UnaryOp .USub (.Constant (.int 1) k p1) p2)) p3) pos) (e1 (d1 oRev) f) := by
  refine PE.sub (pe_revA ha) ?_
  rintro σ H Q ⟨w, ρ, rfl, F, E, h⟩
  refine ⟨w, ρ, rfl, F, E, Holds.thn h fun d w1 g1 F1 h1 x rx => ?_⟩
  refine drf_thn F1 h1 rx fun d' sx h' => ?_
  cases sx with
  | lst h1 h2 h3 => exact ⟨_, _, rfl, .inl ⟨.of h1, Ans.lst F1 h' h3.reverse (by rw [List.length_reverse]; exact h2)⟩⟩
  | dic _ _ _ => exact h'.no
  | of r => cases r with
    | lst _ h1 h2 h3 => exact ⟨_, _, rfl, .inl ⟨.of h1, Ans.lst F1 h' h3.reverse (by rw [List.length_reverse]; exact h2)⟩⟩
    | tup _ h1 h2 h3 => exact ⟨_, _, rfl, .inr ⟨.of h1, Ans.tup F1 h' h3.reverse (by rw [List.length_reverse]; exact h2)⟩⟩
    | _ => exact h'.no
@[simp] def oLs : D → M (List D)
  | .lst xs => M.ret xs
  | _ => M.stuck
@[simp] def eRevF (f : Env → M D) : Env → M (List D) := fun ρ => (f ρ).bind fun d => (oLs d).bind fun xs => M.ret xs.reverse
theorem mf_rev {k : Nat} {p1 p2 p3 : Pos} (ha : ME X W a f) : MF X W (.Subscript a (.Slice none none (some (.UnaryOp .USub (.Constant (.int 1) k p1) p2)) p3) pos) (eRevF f) := by
  refine PE.sub (pe_revA ha) ?_
  rintro σ H Q ⟨w, ρ, rfl, F, E, h⟩
  refine ⟨w, ρ, rfl, F, E, Holds.thn h fun d w1 g1 F1 h1 x rx => ?_⟩
  cases rx with
  | lst _ k1 k2 k3 => exact ⟨_, _, rfl, .inl ⟨.of k1, AnsF.new F1 h1 k3.reverse (by rw [List.length_reverse]; exact k2)⟩⟩
  | _ => exact Holds.no (α := List D) h1
end
end Mi
namespace Mi
open PySem PySem.Spec PyProof.Rows L2
open Da (toD)
variable [Tb]
/-! ### sum, max, min, sorted -/
section
variable {X : Cx} {W : WX} {a b : Expr} {es : List Expr} {fs : Env → M (List D)} {f g : Env → M D} {pos p : Pos}
@[simp] def sumL (ds : List D) : M D := match ints? ds with
  | some ns => M.ret (.int ns.sum)
  | none => M.stuck
theorem opN_sumA : OpN X (rSumA X.K) (one (oi sumL)) := by
  intro W σ w xs ds Q F rs q
  exact one_thn q rs fun v d e r' q' => by
    subst e
    refine items_thn F q' r' fun a vs ds e hs hl hr h => ?_
    subst e
    unfold sumL at h
    cases z : ints? ds with
    | none => rw [z] at h; exact h.no
    | some ns =>
      rw [z] at h
      have e := ints_reps hr z
      subst e
      exact ⟨a, ns, rfl, hs, Ans.val F h (.int _)⟩
theorem me_sumA (hc : X.calm = true) (hg : Gl X "sum") (hm : X.mg "sum" = none) (ha : MA X W [a] fs) (he : starEach [a] X.env = (false, eval a X.env) :: starEach [] X.env := by rfl) (hpl : (backTo pos (starEach [] X.env)).any (·.1) = false := by rfl) : ME X W (.Call (.Name "sum" p) [a] [] pos) (eN (one (oi sumL)) fs) := me_callB (cr_sumA hc) opN_sumA hg hm boot_sum' ha (by decide) (by decide) he hpl
def rMaxA (K : PySem.W.Frag) : List V → Hp → VK → Prop := fun vs H Q => ∃ (a : Addr) (n : Int) (ns : List Int), vs = [V.ref a] ∧ SqA K H a ((n :: ns).map V.int) ∧ Q (.int (ns.foldl max n)) H
theorem reads_ints {h : Heap} : ∀ {ns : List Int} {its : List Value}, Vals (ns.map V.int) its → ∃ as, ReadsAll h its (ns.map PyData.int) as
  | [], _, .nil => ⟨[], .nil⟩
  | n :: ns, _, .cons r t => by
    obtain ⟨as, k⟩ := reads_ints (h := h) t
    obtain ⟨tk, rfl⟩ := r
    exact ⟨_, .cons (.int n tk) k⟩
theorem alike_intsL (ns : List Int) : PySem.W.AlikeAll (ns.map PyData.int) := by
  refine ⟨fun d hd d' hd' => ?_, fun d hd => ?_⟩
  · obtain ⟨i, _, rfl⟩ := List.mem_map.mp hd
    obtain ⟨j, _, rfl⟩ := List.mem_map.mp hd'
    simp [PySem.W.alike]
  · obtain ⟨i, _, rfl⟩ := List.mem_map.mp hd
    exact fun z => nomatch z
theorem cr_maxA {k : Nat} (hc : X.calm = true) (hr : Room k X.A) : CallR X (.builtin "max") (rMaxA X.K) := by
  intro pins s σ H vs us Q I r h
  obtain ⟨a, n, ns, rfl, hs, q⟩ := h
  obtain ⟨its, rv, hl, _⟩ := Inv.sq I hs
  rw [ref_one r]
  obtain ⟨as, hra⟩ := reads_ints (h := s.heap) rv
  have hu : X.A.units + 1 + PyData.depthAll (PyData.int n :: ns.map PyData.int) < cLine := by
    have h1 := hr.un
    have h2 : PyData.depthAll ((n :: ns).map PyData.int) = 0 := PySem.W.depth_ints (n :: ns)
    rw [List.map_cons] at h2
    rw [h2]
    omega
  have fin : ∀ (i : Nat) (v : Value) (h' : Heap) (tk : Nat) (bs : List Addr), its.toArray[i]? = some v → Reads h' v (PySem.W.maxD (PyData.int n) (ns.map PyData.int)) bs → (∀ b o, s.heap.get? b = some o → h'.get? b = some o) → EP X pins σ Q v { s with heap := h', toks := tk } := fun i v h' tk bs hv hr' hk => by
    rw [PySem.W.maxD_ints] at hr'
    obtain ⟨x, e1, r1⟩ := vals_get' rv (by simpa using hv)
    cases hr'
    exact ⟨.int _, H, I.kept hk, ⟨_, rfl⟩, q⟩
  rcases hl with hl | hl
  · exact PySem.W.max_list_data (I.ok.hd hc) hl (x := .int n) (xs := ns.map .int) hra (alike_intsL (n :: ns)) hu fin
  · exact PySem.W.max_tuple_data (I.ok.hd hc) hl (x := .int n) (xs := ns.map .int) hra (alike_intsL (n :: ns)) hu fin
@[simp] def maxL (ds : List D) : M D := match ints? ds with
  | some (n :: ns) => M.ret (.int (ns.foldl max n))
  | _ => M.stuck
theorem opN_maxA : OpN X (rMaxA X.K) (one (oi maxL)) := by
  intro W σ w xs ds Q F rs q
  exact one_thn q rs fun v d e r' q' => by
    subst e
    refine items_thn F q' r' fun a vs ds e hs hl hr h => ?_
    subst e
    unfold maxL at h
    cases z : ints? ds with
    | none => rw [z] at h; exact h.no
    | some ns =>
      rw [z] at h
      have e := ints_reps hr z
      subst e
      cases ns with
      | nil => exact h.no
      | cons n ns => exact ⟨a, n, ns, rfl, hs, Ans.val F h (.int _)⟩
theorem me_maxA {k : Nat} (hr : Room k X.A) (hc : X.calm = true) (hg : Gl X "max") (hm : X.mg "max" = none) (ha : MA X W [a] fs) (he : starEach [a] X.env = (false, eval a X.env) :: starEach [] X.env := by rfl) (hpl : (backTo pos (starEach [] X.env)).any (·.1) = false := by rfl) : ME X W (.Call (.Name "max" p) [a] [] pos) (eN (one (oi maxL)) fs) := me_callB (cr_maxA hc hr) opN_maxA hg hm boot_max' ha (by decide) (by decide) he hpl
def minL (ds : List D) : M D := match toPs ds with
  | some ps => if minOk ps = true then (match ds[minIx ps]? with
    | some d => M.ret d
    | none => M.stuck) else M.stuck
  | none => M.stuck
theorem opN_minD : OpN X (rMinD X.K) (one (oi minL)) := by
  intro W σ w xs ds Q F rs q
  exact one_thn q rs fun v d e r' q' => by
    subst e
    refine items_thn F q' r' fun a vs ds e hs hl hr h => ?_
    subst e
    unfold minL at h
    cases z : toPs ds with
    | none => rw [z] at h; exact h.no
    | some ps =>
      rw [z] at h
      dsimp only at h
      obtain ⟨ok, h⟩ := Holds.ite h
      refine ⟨a, vs, ps, rfl, hs, hr.dp z, ok, fun v hv => ?_⟩
      obtain ⟨d, e1, r1⟩ := hr.get' hv
      rw [e1] at h
      exact Ans.val F h r1
theorem me_minD {k : Nat} (hr : Room k X.A) (hc : X.calm = true) (hg : Gl X "min") (hm : X.mg "min" = none) (ha : MA X W [a] fs) (he : starEach [a] X.env = (false, eval a X.env) :: starEach [] X.env := by rfl) (hpl : (backTo pos (starEach [] X.env)).any (·.1) = false := by rfl) : ME X W (.Call (.Name "min" p) [a] [] pos) (eN (one (oi minL)) fs) := me_callB (cr_minD hc hr) opN_minD hg hm boot_min' ha (by decide) (by decide) he hpl
end
/-! sorted -/
section
variable {prog : Program} {w : World} {A : Around} {E : Value → Shared → Prop} {s : Shared} {β : Type}
theorem collect_sq {a : Addr} {its : Array Value} {Q : List Value → Shared → Prop} (hl : Sq s.heap a its) (hsz : its.size ≤ sizeLine) (h : ∀ h', Stays s.heap h' → Q its.toList { s with heap := h' }) : wpAny (model prog w) A (collect (.ref a)) Q E s := by
  rcases hl with ⟨o, ho, hc, n, hd⟩ | ⟨o, ho, hc, n, hd⟩
  · exact wpAny_collect_seq a (.inl rfl) ho hc hd h hsz
  · exact wpAny_collect_seq a (.inr rfl) ho hc hd h hsz
theorem sorted_sq {a : Addr} {vs : List Value} {bs : List β} {enc : β → PyData} {R : Value → β → Prop} {Q : Value → Shared → Prop} (hl : Sq s.heap a vs.toArray) (e : PySem.W.EachIs R vs bs) (er : PySem.W.EachIs (fun v b => ∃ as, Reads s.heap v (enc b) as) vs bs)
    (hal : PySem.W.AllAlike (bs.map enc)) (hk : PySem.W.Sortable (bs.map enc)) (hL : bs.length ≤ sizeLine) (hu : ∀ b, b ∈ bs → A.units + 2 + (enc b).depth < cLine)
    (h : ∀ h1 p out c h', Stays s.heap h1 → h1.objs.size ≤ p → Stays h1 h' → h'.get? p = some (seqObj "list" (List.toArray out) c) → PySem.W.EachIs R out (bs.mergeSort (PySem.W.dataLe false enc)) → Q (.ref p) { s with heap := h' }) :
    wpAny (model prog w) A (call (.builtin "sorted") [.ref a]) Q E s := by
  refine Calls.call_function_entry kind_sorted plain_sorted entry_sorted (args_sorted1 _) ?_
  unfold Builtin.«sorted»
  refine wpAny_bind (m := checkCount "sorted" 1 1 _) (wpAny_pure ?_)
  have hvl : vs.length ≤ sizeLine := by rw [e.length]; exact hL
  refine wpAny_bind (collect_sq (A := A.in1) hl (by simpa using hvl) fun h1 st => ?_)
  rw [List.toList_toArray]
  refine wpAny_bind (wpAny_newList ?_ hvl)
  have hoL : (h1.push (seqObj "list" vs.toArray 0)).get? h1.objs.size = some (seqObj "list" vs.toArray 0) := Heap.get?_push_size _ rfl
  have old : Stays s.heap (PySem.W.sortingHeap (h1.push (seqObj "list" vs.toArray 0)) h1.objs.size vs) := fun b o q =>
    PySem.W.sortingHeap_old (Nat.ne_of_lt (Heap.lt_size (st b o q))) (Heap.get?_push_of_some _ (st b o q))
  have er' : PySem.W.EachIs (fun v b => ∃ as, Reads (PySem.W.sortingHeap (h1.push (seqObj "list" vs.toArray 0)) h1.objs.size vs) v (enc b) as) vs bs := er.mono fun _ _ ⟨as, r⟩ => ⟨as, PyProof.Rows.Reads.keeps old r⟩
  refine wpAny_bind (wpAny_holding (wpAny_call_entry slot_list_sort ⟨_, hoL, rfl⟩ entry_list_sort (PySem.W.list_sort_vals (s := { s with heap := h1.push (seqObj "list" vs.toArray 0) }) hoL
    (PySem.W.SortsAt.data (s := { s with heap := PySem.W.sortingHeap (h1.push (seqObj "list" vs.toArray 0)) h1.objs.size vs }) (PySem.W.each_map (R := fun v d => ∃ as, Reads (PySem.W.sortingHeap (h1.push (seqObj "list" vs.toArray 0)) h1.objs.size vs) v d as) enc er') hal hk (PySem.W.bound_map (A := A.in1.in1) hu)) hvl ⟨_, rfl, ?_⟩) (args_list_sort _)))
  have ev := PySem.W.sortVals_data (R := R) false e er' hal
  generalize hout : PySem.W.sortVals (PySem.W.dataKind (PySem.W.sortingHeap (h1.push (seqObj "list" vs.toArray 0)) h1.objs.size vs) (bs.map enc)) false vs vs = out at ev
  obtain ⟨c, hc⟩ := sortedHeap_at (vs := vs) (out := out.toArray) hoL
  refine wpAny_pure ⟨_, rfl, h h1 h1.objs.size out c _ st (Nat.le_refl _) (fun b u q => ?_) hc ev⟩
  have hlt := Heap.lt_size q
  show (sortedHeap (h1.push (seqObj "list" vs.toArray 0)) h1.objs.size vs out.toArray).get? b = some u
  rw [sortedHeap_old (Nat.ne_of_lt hlt) (by rw [size_push']; exact Nat.lt_succ_of_lt hlt)]
  exact Heap.get?_push_of_some _ q
end
section
variable {X : Cx} {W : WX} {a b : Expr} {es : List Expr} {fs : Env → M (List D)} {f g : Env → M D} {pos p : Pos}
def isTupNe (d : PyData) : Bool := match d with
  | .tuple (_ :: _) => true
  | _ => false
def isOther (d : PyData) : Bool := match d with
  | .none => false
  | .tuple _ => false
  | _ => true
def sortOk (ps : List PyData) : Bool := AlikeL ps && (ps.all isTupNe || ps.all isOther) && ps.all fun x => decide (x.depth ≤ 60)
theorem sortable_of {ps : List PyData} (h : (ps.all isTupNe || ps.all isOther) = true) : PySem.W.Sortable ps := by
  rw [Bool.or_eq_true, List.all_eq_true, List.all_eq_true] at h
  rcases h with h | h
  · refine .inl fun d hd => ?_
    have z := h d hd
    unfold isTupNe at z
    split at z
    · exact ⟨_, _, rfl⟩
    · cases z
  · refine .inr fun d hd => ?_
    have z := h d hd
    unfold isOther at z
    split at z
    · cases z
    · cases z
    · rename_i h1 h2
      exact ⟨h1, h2⟩
def sortBy {α : Type} (xs : List α) (ps : List PyData) : List α := ((xs.zip ps).mergeSort (PySem.W.dataLe false Prod.snd)).map Prod.fst
def rSortD (K : PySem.W.Frag) : List V → Hp → VK → Prop := fun vs H Q => ∃ (a : Addr) (xs : List V) (ps : List PyData), vs = [V.ref a] ∧ SqA K H a xs ∧ DpAll K H xs ps ∧ sortOk ps = true ∧ ∀ p, H p = none → Q (.ref p) (upd H p (.lst (sortBy xs ps)))
theorem each_zip {R : Value → V × PyData → Prop} : ∀ {its : List Value} {xs : List V} {ps : List PyData}, its.length = xs.length → xs.length = ps.length → (∀ (i : Nat) (v : Value) (x : V) (p : PyData), its[i]? = some v → xs[i]? = some x → ps[i]? = some p → R v (x, p)) → PySem.W.EachIs R its (xs.zip ps)
  | [], [], [], _, _, _ => .nil
  | v :: its, x :: xs, p :: ps, h1, h2, h => .cons (h 0 v x p rfl rfl rfl) (each_zip (by simpa using h1) (by simpa using h2) fun i v' x' p' e1 e2 e3 => h (i + 1) v' x' p' (by simpa using e1) (by simpa using e2) (by simpa using e3))
  | [], _ :: _, _, h1, _, _ => by simp at h1
  | _ :: _, [], _, h1, _, _ => by simp at h1
  | [], [], _ :: _, _, h2, _ => by simp at h2
  | _ :: _, _ :: _, [], _, h2, _ => by simp at h2
theorem vals_of_each : ∀ {out : List Value} {bs : List (V × PyData)}, PySem.W.EachIs (fun v b => RelV b.1 v) out bs → Vals (bs.map Prod.fst) out
  | _, _, .nil => .nil
  | _, _, .cons h t => .cons h (vals_of_each t)
theorem cr_sortD {k : Nat} (hr : Room k X.A) : CallR X (.builtin "sorted") (rSortD X.K) := by
  intro pins s σ H vs us Q I r h
  obtain ⟨a, xs, ps, rfl, hs, hd, ok, q⟩ := h
  obtain ⟨its, rv, hl, hz⟩ := Inv.sq I hs
  rw [ref_one r]
  have l1 := rv.length
  have l2 := dpAll_len hd
  unfold sortOk at ok
  rw [Bool.and_eq_true, Bool.and_eq_true] at ok
  obtain ⟨⟨hal, hso⟩, hdep⟩ := ok
  have hm : (xs.zip ps).map Prod.snd = ps := List.map_snd_zip (by omega)
  have hlz : (xs.zip ps).length = xs.length := by rw [List.length_zip]; omega
  refine sorted_sq (bs := xs.zip ps) (enc := Prod.snd) (R := fun v b => RelV b.1 v) hl (each_zip (by omega) l2 fun i v x p e1 e2 e3 => ?_) (each_zip (by omega) l2 fun i v x p e1 e2 e3 => ?_) ?_ ?_ (by omega) (fun b hb => ?_) fun h1 p out c h' st hp st' hat ev => ?_
  · obtain ⟨x', e4, r4⟩ := vals_get' rv e1
    rw [e2] at e4; cases e4
    exact r4
  · obtain ⟨x', e4, r4⟩ := vals_get' rv e1
    rw [e2] at e4; cases e4
    obtain ⟨d, e5, d1⟩ := dpAll_get hd e2
    rw [e3] at e5; cases e5
    exact Dp.reads I p x v d1 r4
  · rw [hm]
    unfold AlikeL at hal
    simp only [List.all_eq_true] at hal
    exact fun d hd d' hd' => hal d hd d' hd'
  · rw [hm]; exact sortable_of hso
  · have hb' : b.2 ∈ ps := by
      have := List.mem_map_of_mem (f := Prod.snd) hb
      rw [hm] at this
      exact this
    have h1 := hr.un
    have h2 : b.2.depth ≤ 60 := by
      rw [List.all_eq_true] at hdep
      simpa using hdep b.2 hb'
    omega
  · have I1 : Inv X pins σ H { s with heap := h1, toks := s.toks } := I.kept st
    refine ⟨.ref p, _, I1.laid (t' := s.toks) (o := .lst (sortBy xs ps)) st' hp ?_, rfl, q p (I1.hok.fresh hp)⟩
    have hlen : (sortBy xs ps).length = xs.length := by
      unfold sortBy
      rw [List.length_map, List.length_mergeSort, hlz]
    refine ⟨by rw [hlen]; exact hz, out, c, vals_of_each ev, ?_⟩
    exact hat
theorem reps_sort {K : PySem.W.Frag} {S : Addr → Prop} {μ : List Addr} {H : Hp} {vs : List V} {ds : List D} {ps : List PyData} (h : Reps K S μ H vs ds) (hl : ds.length = ps.length) : Reps K S μ H (sortBy vs ps) (sortBy ds ps) := by
  have hv := h.length
  have of_all : ∀ (T : List ((V × D) × PyData)), (∀ t ∈ T, Rep K S μ H t.1.1 t.1.2) → Reps K S μ H (T.map fun t => t.1.1) (T.map fun t => t.1.2) := by
    intro T
    induction T with
    | nil => intro _; exact .nil
    | cons t T ih => intro hT; exact .cons (hT t List.mem_cons_self) (ih fun x hx => hT x (List.mem_cons_of_mem _ hx))
  let T := (vs.zip ds).zip ps
  have eV : T.map (fun t => (t.1.1, t.2)) = vs.zip ps := by
    show ((vs.zip ds).zip ps).map (fun t => (t.1.1, t.2)) = vs.zip ps
    have := List.zip_map_left (f := Prod.fst) (l₁ := vs.zip ds) (l₂ := ps)
    rw [List.map_fst_zip (by omega)] at this
    rw [this]
    rfl
  have eD : T.map (fun t => (t.1.2, t.2)) = ds.zip ps := by
    show ((vs.zip ds).zip ps).map (fun t => (t.1.2, t.2)) = ds.zip ps
    have := List.zip_map_left (f := Prod.snd) (l₁ := vs.zip ds) (l₂ := ps)
    rw [List.map_snd_zip (by omega)] at this
    rw [this]
    rfl
  have kV := List.map_mergeSort (r := PySem.W.dataLe false fun t : (V × D) × PyData => t.2) (s := PySem.W.dataLe false (Prod.snd : V × PyData → PyData)) (f := fun t => (t.1.1, t.2)) (l := T) fun a _ b _ => rfl
  have kD := List.map_mergeSort (r := PySem.W.dataLe false fun t : (V × D) × PyData => t.2) (s := PySem.W.dataLe false (Prod.snd : D × PyData → PyData)) (f := fun t => (t.1.2, t.2)) (l := T) fun a _ b _ => rfl
  rw [eV] at kV
  rw [eD] at kD
  unfold sortBy
  rw [← kV, ← kD, List.map_map, List.map_map]
  refine of_all _ fun t ht => ?_
  have ht' : t ∈ T := (List.mem_mergeSort).mp ht
  have hz : t.1 ∈ vs.zip ds := (List.of_mem_zip (show (t.1, t.2) ∈ (vs.zip ds).zip ps from ht')).1
  obtain ⟨i, hi⟩ := List.mem_iff_getElem?.mp hz
  have hi' : (vs.zip ds)[i]? = some (t.1.1, t.1.2) := hi
  rw [List.getElem?_zip_eq_some] at hi'
  obtain ⟨d, e1, r1⟩ := h.get' hi'.1
  rw [hi'.2] at e1; cases e1
  exact r1
def sortL (ds : List D) : M (List D) := match toPs ds with
  | some ps => if sortOk ps = true then M.ret (sortBy ds ps) else M.stuck
  | none => M.stuck
theorem toPs_len : ∀ {ds : List D} {ps : List PyData}, toPs ds = some ps → ds.length = ps.length
  | [], _, h => by unfold toPs at h; cases h; rfl
  | d :: ds, ps, h => by
    unfold toPs at h
    cases q1 : toP d with
    | none => rw [q1] at h; cases h
    | some p => cases q2 : toPs ds with
      | none => rw [q1, q2] at h; cases h
      | some ps' => rw [q1, q2] at h; cases h; simp [toPs_len q2]
theorem opNF_sort : OpNF X (rSortD X.K) (one (oi sortL)) := by
  intro W σ w xs ds Q F rs q
  exact one_thn q rs fun v d e r' q' => by
    subst e
    refine items_thn F q' r' fun a vs ds e hs hl hr h => ?_
    subst e
    unfold sortL at h
    cases z : toPs ds with
    | none => rw [z] at h; exact Holds.no (α := List D) h
    | some ps =>
      rw [z] at h
      dsimp only at h
      obtain ⟨ok, h⟩ := Holds.ite h
      refine ⟨a, vs, ps, rfl, hs, hr.dp z, ok, AnsF.new F h (reps_sort hr (toPs_len z)) ?_⟩
      unfold sortBy
      rw [List.length_map, List.length_mergeSort, List.length_zip]
      omega
theorem boot_sorted' : bootBuiltins "sorted" = some (.builtin "sorted") := by decide +kernel
theorem mf_sorted {k : Nat} (hr : Room k X.A) (hg : Gl X "sorted") (hm : X.mg "sorted" = none) (ha : MA X W [a] fs) (he : starEach [a] X.env = (false, eval a X.env) :: starEach [] X.env := by rfl) (hpl : (backTo pos (starEach [] X.env)).any (·.1) = false := by rfl) : MF X W (.Call (.Name "sorted" p) [a] [] pos) (eNF (one (oi sortL)) fs) := mf_callB (cr_sortD hr) opNF_sort hg hm boot_sorted' ha (by decide) (by decide) he hpl
end
end Mi
namespace Mi
open PySem PySem.Spec PyProof.Rows L2
open Da (toD)
variable [Tb]
/-! ### methods of lists -/
section
variable {X : Cx} {W : WX} {a b : Expr} {es : List Expr} {fs : Env → M (List D)} {f g h : Env → M D} {pos p apos : Pos}
def kExtend (xs ds : List D) : Option (List D × D) := match ds with
  | [.lst ys] => if xs.length + ys.length ≤ 1000000 then some (xs ++ ys, .non) else none
  | _ => none
theorem big6' {n : Nat} (h : n ≤ 1000000) : n ≤ sizeLine := Nat.le_trans h (by decide)
theorem opM_extend : OpM X rExtend (upL kExtend) := fun W σ w x d xs ds Q F rx rs h => upL_thn F rx h fun a vs ys zs z e h1 h2 h3 hk hw => by
  subst e
  cases rs with
  | nil => cases hk
  | cons r rs => cases rs with
    | cons _ _ => cases r <;> cases hk
    | nil =>
      cases r with
      | @lst c us ds q1 q2 q3 q4 =>
        dsimp only [kExtend] at hk
        by_cases hc : ys.length + ds.length ≤ 1000000
        · rw [if_pos hc] at hk
          cases hk
          have hc' : vs.length + us.length ≤ sizeLine := by rw [h3.length, q4.length]; exact big6' hc
          obtain ⟨w', g', e', q⟩ := hw (vs ++ us) (by rw [List.length_append]; exact hc') (h3.append q4)
          refine ⟨a, c, vs, us, rfl, rfl, h1, q2, hc', ?_⟩
          rw [← e']
          exact q .non .non
        · rw [if_neg hc] at hk; cases hk
      | _ => cases hk
theorem me_extend (ha : ME X W a f) (hb : MA X W [b] fs) (hbase : attributeBase a "extend" X.env (eval a X.env) = eval a X.env := by rfl)
    (hfew : ((backTo pos (starEach [b] X.env)).all (fun x => !x.1) && (backToKw pos (keywordEach [] X.env)).all (fun x => x.1.isSome)
      && decide ([b].length + ([] : List Keyword).length + (if ([] : List Keyword).isEmpty then 0 else 1) < 30)) = true := by rfl)
    (hline : (apos.endLine == pos.line) = true := by rfl) (hs : starEach [b] X.env = (false, eval b X.env) :: starEach [] X.env := by rfl) (hplain : (backTo pos (starEach [] X.env)).any (·.1) = false := by rfl) :
    ME X W (.Call (.Attribute a "extend" apos) [b] [] pos) (eBM chkL (upL kExtend) f fs) := me_bm PySem.F.plainAttrs_list PySem.F.slot_list_extend PySem.F.type_list_extend mt_extend opM_extend chkL_ok ha hb hbase hfew hline hs hplain
def kPop0 (xs ds : List D) : Option (List D × D) := match ds with
  | [.int i] => if tiny i = true then match seqIndex? i xs.length with
    | some k => match xs[k]? with
      | some y => some (xs.eraseIdx k, y)
      | none => none
    | none => none else none
  | _ => none
theorem Reps.eraseIdx {K : PySem.W.Frag} {S : Addr → Prop} {μ : List Addr} {H : Hp} : ∀ {vs : List V} {ds : List D} (n : Nat), Reps K S μ H vs ds → Reps K S μ H (vs.eraseIdx n) (ds.eraseIdx n)
  | _, _, _, .nil => .nil
  | _, _, 0, .cons _ t => t
  | _, _, n + 1, .cons h t => .cons h (Reps.eraseIdx n t)
theorem len_eraseIdx_le {α : Type} (xs : List α) (k : Nat) : (xs.eraseIdx k).length ≤ xs.length := by
  rw [List.length_eraseIdx]; split <;> omega
theorem opM_popAt : OpM X rPopAt (upL kPop0) := fun W σ w x d xs ds Q F rx rs h => upL_thn F rx h fun a vs ys zs z e h1 h2 h3 hk hw => by
  subst e
  cases rs with
  | nil => cases hk
  | cons r rs => cases rs with
    | cons _ _ => cases r <;> cases hk
    | nil =>
      cases r with
      | int i =>
        dsimp only [kPop0] at hk
        by_cases hc : tiny i = true
        · rw [if_pos hc] at hk
          cases q1 : seqIndex? i ys.length with
          | none => rw [q1] at hk; cases hk
          | some k =>
            rw [q1] at hk
            dsimp only at hk
            cases q2 : ys[k]? with
            | none => rw [q2] at hk; cases hk
            | some y =>
              rw [q2] at hk
              cases hk
              obtain ⟨v, e1, r1⟩ := h3.get q2
              obtain ⟨w', g', e', q⟩ := hw (vs.eraseIdx k) (Nat.le_trans (len_eraseIdx_le _ _) h2) (h3.eraseIdx k)
              have hc2 := tiny_iff.mp hc
              refine ⟨a, vs, i, k, v, rfl, rfl, h1, by omega, by omega, by rw [h3.length]; exact q1, e1, ?_⟩
              rw [← e']
              exact q v (g'.rep r1)
        · rw [if_neg hc] at hk; cases hk
      | _ => cases hk
theorem me_popAt (ha : ME X W a f) (hb : MA X W [b] fs) (hbase : attributeBase a "pop" X.env (eval a X.env) = eval a X.env := by rfl)
    (hfew : ((backTo pos (starEach [b] X.env)).all (fun x => !x.1) && (backToKw pos (keywordEach [] X.env)).all (fun x => x.1.isSome)
      && decide ([b].length + ([] : List Keyword).length + (if ([] : List Keyword).isEmpty then 0 else 1) < 30)) = true := by rfl)
    (hline : (apos.endLine == pos.line) = true := by rfl) (hs : starEach [b] X.env = (false, eval b X.env) :: starEach [] X.env := by rfl) (hplain : (backTo pos (starEach [] X.env)).any (·.1) = false := by rfl) :
    ME X W (.Call (.Attribute a "pop" apos) [b] [] pos) (eBM chkL (upL kPop0) f fs) := me_bm PySem.F.plainAttrs_list PySem.F.slot_list_pop PySem.F.type_list_pop mt_popAt opM_popAt chkL_ok ha hb hbase hfew hline hs hplain
def kPop (xs ds : List D) : Option (List D × D) := match ds with
  | [] => match xs[xs.length - 1]? with
    | some y => some (xs.dropLast, y)
    | none => none
  | _ => none
theorem Reps.dropLast {K : PySem.W.Frag} {S : Addr → Prop} {μ : List Addr} {H : Hp} {vs : List V} {ds : List D} (h : Reps K S μ H vs ds) : Reps K S μ H vs.dropLast ds.dropLast := by
  rw [List.dropLast_eq_take, List.dropLast_eq_take, h.length]
  exact h.take _
theorem opM_pop : OpM X rPop (upL kPop) := fun W σ w x d xs ds Q F rx rs h => upL_thn F rx h fun a vs ys zs z e h1 h2 h3 hk hw => by
  subst e
  cases rs with
  | cons _ _ => cases hk
  | nil =>
    dsimp only [kPop] at hk
    cases q2 : ys[ys.length - 1]? with
    | none => rw [q2] at hk; cases hk
    | some y =>
      rw [q2] at hk
      cases hk
      obtain ⟨v, e1, r1⟩ := h3.get q2
      obtain ⟨w', g', e', q⟩ := hw vs.dropLast (by rw [List.length_dropLast]; omega) h3.dropLast
      refine ⟨a, vs, v, rfl, rfl, h1, by rw [h3.length]; exact e1, ?_⟩
      rw [← e']
      exact q v (g'.rep r1)
theorem me_pop (ha : ME X W a f) (hbase : attributeBase a "pop" X.env (eval a X.env) = eval a X.env := by rfl) (hline : (apos.endLine == pos.line) = true := by rfl) :
    ME X W (.Call (.Attribute a "pop" apos) [] [] pos) (eBM chkL (upL kPop) f aNil) := me_bm0 PySem.F.plainAttrs_list PySem.F.slot_list_pop PySem.F.type_list_pop mt_pop opM_pop chkL_ok ha hbase hline
def kRemove (xs ds : List D) : Option (List D × D) := match ds with
  | [.int k] => match ints? xs with
    | some ns => match ns.idxOf? k with
      | some j => some ((ns.eraseIdx j).map D.int, .non)
      | none => none
    | none => none
  | _ => none
theorem reps_ints {K : PySem.W.Frag} {S : Addr → Prop} {μ : List Addr} {H : Hp} : ∀ ns : List Int, Reps K S μ H (ns.map V.int) (ns.map D.int)
  | [] => .nil
  | n :: ns => .cons (.int n) (reps_ints ns)
theorem idxOf_spec {ns : List Int} {k : Int} {j : Nat} (h : ns.idxOf? k = some j) : ns[j]? = some k ∧ ∀ m : Nat, m < j → ns[m]? ≠ some k := by
  unfold List.idxOf? at h
  rw [List.findIdx?_eq_some_iff_getElem] at h
  obtain ⟨h1, h2, h3⟩ := h
  refine ⟨by rw [List.getElem?_eq_getElem h1]; simpa using h2, fun m hm e => ?_⟩
  have := h3 m hm
  rw [List.getElem?_eq_getElem (by omega)] at e
  simp at e this
  exact this e
theorem opM_remove : OpM X rRemI (upL kRemove) := fun W σ w x d xs ds Q F rx rs h => upL_thn F rx h fun a vs ys zs z e h1 h2 h3 hk hw => by
  subst e
  cases rs with
  | nil => cases hk
  | cons r rs => cases rs with
    | cons _ _ => cases r <;> cases hk
    | nil =>
      cases r with
      | int k =>
        dsimp only [kRemove] at hk
        cases q1 : ints? ys with
        | none => rw [q1] at hk; cases hk
        | some ns =>
          rw [q1] at hk
          dsimp only at hk
          have ev := ints_reps h3 q1
          subst ev
          cases q2 : ns.idxOf? k with
          | none => rw [q2] at hk; cases hk
          | some j =>
            rw [q2] at hk
            cases hk
            obtain ⟨i1, i2⟩ := idxOf_spec q2
            obtain ⟨w', g', e', q⟩ := hw ((ns.eraseIdx j).map V.int) (by rw [List.length_map] at *; exact Nat.le_trans (len_eraseIdx_le _ _) h2) (reps_ints _)
            refine ⟨a, ns, k, j, rfl, rfl, h1, i1, i2, ?_⟩
            rw [← e']
            exact q .non .non
      | _ => cases hk
theorem me_remove (ha : ME X W a f) (hb : MA X W [b] fs) (hbase : attributeBase a "remove" X.env (eval a X.env) = eval a X.env := by rfl)
    (hfew : ((backTo pos (starEach [b] X.env)).all (fun x => !x.1) && (backToKw pos (keywordEach [] X.env)).all (fun x => x.1.isSome)
      && decide ([b].length + ([] : List Keyword).length + (if ([] : List Keyword).isEmpty then 0 else 1) < 30)) = true := by rfl)
    (hline : (apos.endLine == pos.line) = true := by rfl) (hs : starEach [b] X.env = (false, eval b X.env) :: starEach [] X.env := by rfl) (hplain : (backTo pos (starEach [] X.env)).any (·.1) = false := by rfl) :
    ME X W (.Call (.Attribute a "remove" apos) [b] [] pos) (eBM chkL (upL kRemove) f fs) := me_bm PySem.F.plainAttrs_list PySem.F.slot_list_remove PySem.F.type_list_remove mt_remove opM_remove chkL_ok ha hb hbase hfew hline hs hplain
/-! o[i] = v -/
def putL (d c j : D) : M Unit := fun ω => match c, j with
  | .cell n, .int i => match ω[n]? with
    | some (.lst xs) => match ixN xs.length i with
      | some k => .ok () (ω.set n (.lst (xs.set k d)))
      | none => .stuck
    | _ => .stuck
  | _, _ => .stuck
def sPut (f o i : Env → M D) : SM := thenS f fun d => thenS o fun c => thenS i fun j => thenS (fun _ => putL d c j) fun _ => sNext
theorem ms_put {pos' : Pos} (hv : ME X W a f) (ho : ME X W b g) {c : Expr} (hi : ME X W c h) (hs : swapsWithSole [.Subscript b c pos'] a pos.line X.env = pure false := by rfl) (hw : swappedStores [.Subscript b c pos'] a X.env = pure none := by rfl)
    (h1 : (assignEach [.Subscript b c pos'] X.env).map (·.2) = [assign (.Subscript b c pos') X.env] := by rfl)
    (ha : ∀ v, assign (.Subscript b c pos') X.env v = (do
      let ov ← holding [v] (eval b X.env)
      let iv ← holding [v, ov] (eval c X.env)
      standAt pos'
      holding [v, ov, iv] (setItem ov iv v)
      release [v, ov, iv] []) := by intro _; rfl) : MS X W (.Assign [.Subscript b c pos'] a pos) (sPut f g h) := by
  refine PS.sub (ps_asg hv (pg_sub ho hi set_list ha) hs hw h1) ?_
  rintro D σ H ⟨w, ρ, rfl, F, E, q⟩
  refine ⟨w, ρ, rfl, F, E, HoldsS.thn E q fun d w1 g1 F1 E1 q1 v rv => ?_⟩
  refine ⟨w1, ρ, rfl, F1, E1, HoldsS.thn E1 q1 fun c w2 g2 F2 E2 q2 x rx => ?_⟩
  refine ⟨w2, ρ, rfl, F2, E2, HoldsS.thn E2 q2 fun j w3 g3 F3 E3 q3 y ry => ?_⟩
  have rx' := g3.rep rx
  have rv' := (g2.trans g3).rep rv
  unfold thenS putL at q3
  cases rx' with
  | @cell n al hn =>
    cases ry with
    | int i =>
      dsimp only at q3
      cases z : w3.ω[n]? with
      | none => rw [z] at q3; exact q3.no
      | some cc =>
        rw [z] at q3
        cases cc with
        | lst xs =>
          dsimp only at q3
          obtain ⟨nS, vs, k1, k2, k3⟩ := cell_live F3 hn z
          cases z2 : ixN xs.length i with
          | none => rw [z2] at q3; exact q3.no
          | some k =>
            rw [z2] at q3
            dsimp only at q3
            refine ⟨al, vs, i, k, rfl, rfl, k1, by rw [k3.length]; exact z2, ?_⟩
            have wr : Wr (w3.H al) := by rw [k1]; exact wr_lst
            have gr0 : Grow w3 (w3.put n al (.lst (vs.set k v)) (.lst (xs.set k d))) := put_grow hn nS wr
            obtain ⟨g4, F4⟩ := put_all F3 hn nS wr (o := .lst (vs.set k v)) (c := .lst (xs.set k d)) ⟨vs.set k v, upd_same, by rw [List.length_set]; exact k2, gr0.reps (k3.set k rv')⟩
            exact q3 _ σ g4 F4 rfl (E3.grow g4)
        | _ => exact q3.no
    | _ => exact q3.no
  | _ => cases ry <;> exact q3.no
end
/-! ### tuple * int, any count -/
section
theorem tuple_mul0 (l : Addr) (items : Array Value) (n : Nat) (dd : Option Addr) (sl : Array (Option Value)) (x : Int) (u : Tok) (c0 : (decide (x < -(2 ^ 63)) || decide (x ≥ 2 ^ 63)) = false) (c1 : (items.isEmpty || x == 1) = false) (c2 : (decide (x ≤ 0) || items.isEmpty) = true) :
    Meets (Builtin.«tuple.__mul__» ⟨[.ref l, .int x u], []⟩) (fun _ R s => s.heap.get? l = some { cls := .type "tuple", dict := dd, data := .seq items n, slots := sl } ∧
      R (.ok (.ret (Value.ref s.heap.objs.size))) { s with heap := s.heap.push { cls := Value.type "tuple", data := Data.seq #[] }, toks := s.toks }) :=
  .of_wp fun prog w A R s h => by
    obtain ⟨hp, g, d, tk, os⟩ := s
    obtain ⟨hl, h⟩ := h
    have f1 := AutoSeq1.idx_int
    wp_walk using wpAny_loadPart' hl
    repeat (first
      | (refine wpAny_ite_false (decide_eq_false (by rw [c0]; exact Bool.false_ne_true)) ?_; wp_walk using wpAny_loadPart' hl)
      | (refine wpAny_ite_false (decide_eq_false (by rw [c1]; exact Bool.false_ne_true)) ?_; wp_walk using wpAny_loadPart' hl)
      | (refine wpAny_ite_true (decide_eq_true c2) ?_; wp_walk using wpAny_loadPart' hl))
    exact ⟨_, rfl, h⟩
theorem tuple_mul1 (l : Addr) (items : Array Value) (n : Nat) (dd : Option Addr) (sl : Array (Option Value)) (x : Int) (u : Tok) (c0 : (decide (x < -(2 ^ 63)) || decide (x ≥ 2 ^ 63)) = false) (c1 : (items.isEmpty || x == 1) = true) :
    Meets (Builtin.«tuple.__mul__» ⟨[.ref l, .int x u], []⟩) (fun _ R s => s.heap.get? l = some { cls := .type "tuple", dict := dd, data := .seq items n, slots := sl } ∧ R (.ok (.ret (Value.ref l))) s) :=
  .of_wp fun prog w A R s h => by
    obtain ⟨hp, g, d, tk, os⟩ := s
    obtain ⟨hl, h⟩ := h
    have f1 := AutoSeq1.idx_int
    wp_walk using wpAny_loadPart' hl
    repeat (first
      | (refine wpAny_ite_false (decide_eq_false (by rw [c0]; exact Bool.false_ne_true)) ?_; wp_walk using wpAny_loadPart' hl)
      | (refine wpAny_ite_true (decide_eq_true c1) ?_; wp_walk using wpAny_loadPart' hl))
    exact ⟨_, rfl, h⟩
end
end Mi
namespace Mi
open PySem PySem.Spec PyProof.Rows L2
open Da (toD)
variable [Tb]
section
variable {X : Cx} {W : WX} {a b tg : Expr} {es : List Expr} {fs : Env → M (List D)} {f g h : Env → M D} {pos p apos : Pos}
def rRepS (K : PySem.W.Frag) : R2 := fun x y H Q => ∃ l k xs, x = .ref l ∧ y = .int k ∧ SqT K H l xs ∧ 0 ≤ k ∧ k ≤ 1000 ∧ (((xs = [] ∨ k = 1) ∧ Q (.ref l) H) ∨ (xs ≠ [] ∧ k = 0 ∧ ∀ p, H p = none → Q (.ref p) (upd H p (.tup []))))
theorem op_repS : OpR X (binaryOp .Mult) (rRepS X.K) := by
  intro pins s σ H x y v u Q I rx ry h
  obtain ⟨l, k, xs, rfl, rfl, hT, h0, h1, h2⟩ := h
  cases rx
  obtain ⟨t, rfl⟩ := ry
  obtain ⟨its, r, ⟨⟨cls, dd, data, sl⟩, ho, hc, n, hd⟩, hs⟩ := I.tuple hT
  simp only at hc hd
  subst hc hd
  have hle : its.length = xs.length := r.length.symm
  have c0 : (decide (k < -(2 ^ 63)) || decide (k ≥ 2 ^ 63)) = false := by
    rw [decide_eq_false (by omega), decide_eq_false (by omega)] <;> rfl
  rcases h2 with ⟨hk, q⟩ | ⟨hne, hk, q⟩
  · have c1 : (its.toArray.isEmpty || k == 1) = true := by
      rcases hk with hk | hk
      · subst hk
        cases r
        rfl
      · subst hk
        rw [Bool.or_eq_true]
        exact .inr rfl
    refine wpAny_binaryOp_repeat_ref (T := "tuple") (U := "int") (by decide) ⟨_, ho, rfl⟩ (fun s' => typeIs_int s' k t) noFill_tuple_mul F.fills_int_mul F.slot_int_rmul repeat_tuple F.slot_int_index.lookup
      (call_meets F.slot_int_rmul (typeIs_int s k t) F.entry_int_rmul (F.args_int_rmul_2 _ _) (int_rmul_tuple k t l its.toArray n dd sl)
        ⟨ho, rfl, ⟨_, ho, rfl⟩, call_meets F.slot_tuple_mul ⟨_, ho, rfl⟩ F.entry_tuple_mul (F.args_tuple_mul_2 _ _) (tuple_mul1 l its.toArray n dd sl k t c0 c1) ⟨ho, ?_⟩⟩)
    exact ⟨.ref l, H, I, rfl, q⟩
  · subst hk
    have hi : its.toArray.isEmpty = false := by
      cases its with
      | nil => exact absurd (List.eq_nil_of_length_eq_zero hle.symm) hne
      | cons a b => rfl
    have c1 : (its.toArray.isEmpty || (0 : Int) == 1) = false := by rw [hi]; rfl
    have c2 : (decide ((0 : Int) ≤ 0) || its.toArray.isEmpty) = true := rfl
    refine wpAny_binaryOp_repeat_ref (T := "tuple") (U := "int") (by decide) ⟨_, ho, rfl⟩ (fun s' => typeIs_int s' 0 t) noFill_tuple_mul F.fills_int_mul F.slot_int_rmul repeat_tuple F.slot_int_index.lookup
      (call_meets F.slot_int_rmul (typeIs_int s 0 t) F.entry_int_rmul (F.args_int_rmul_2 _ _) (int_rmul_tuple 0 t l its.toArray n dd sl)
        ⟨ho, rfl, ⟨_, ho, rfl⟩, call_meets F.slot_tuple_mul ⟨_, ho, rfl⟩ F.entry_tuple_mul (F.args_tuple_mul_2 _ _) (tuple_mul0 l its.toArray n dd sl 0 t c0 c1 c2) ⟨ho, ?_⟩⟩)
    refine ⟨.ref s.heap.objs.size, _, I.laid (t' := s.toks) (o := .tup []) (fun b ob q => Heap.get?_push_of_some _ q) (Nat.le_refl _) ?_, rfl, q _ (I.hok.fresh (Nat.le_refl _))⟩
    exact ⟨Nat.zero_le _, [], .nil, IsTup.new _ _⟩
@[simp] def oMulA : D → D → M D
  | .int i, .int j => if small i || small j then M.ret (.int (i * j)) else M.stuck
  | .lst xs, .int k => if 0 ≤ k ∧ tiny k = true ∧ xs.length * k.toNat ≤ sizeLine then M.ret (.lst (List.replicate k.toNat xs).flatten) else M.stuck
  | .tup xs, .int k => if 0 ≤ k ∧ k.toNat ≤ 1000 ∧ xs.length ≤ 1000 then M.ret (.tup (List.replicate k.toNat xs).flatten) else M.stuck
  | _, _ => M.stuck
theorem flat_nil {α : Type} : ∀ n : Nat, (List.replicate n ([] : List α)).flatten = []
  | 0 => rfl
  | n + 1 => by rw [List.replicate_succ, List.flatten_cons, flat_nil n]; rfl
theorem op2_mulA : Op2 X (fun x y H Q => rMulA X.K x y H Q ∨ rRepS X.K x y H Q) oMulA := by
  intro W σ w x y d e Q F rx ry h
  cases rx with
  | int i => cases ry with
    | int j => exact .inl (op2_mul W σ w _ _ _ _ Q F (.int i) (.int j) h)
    | _ => exact h.no
  | lst s1 e1 l1 r1 => cases ry with
    | int k => exact .inl (op2_mul W σ w _ _ _ _ Q F (.lst s1 e1 l1 r1) (.int k) h)
    | _ => exact h.no
  | @tup al vs ds s1 e1 l1 r1 => cases ry with
    | int k =>
      obtain ⟨⟨c1, c2', c3⟩, h⟩ := Holds.ite h
      have c2 : k ≤ 1000 := by omega
      have hl := r1.length
      by_cases he : ds = []
      · subst he
        cases r1
        rw [flat_nil] at h
        exact .inr ⟨al, k, [], rfl, rfl, .of e1, c1, c2, .inl ⟨.inl rfl, Ans.val F h (.tup s1 e1 l1 .nil)⟩⟩
      · have hv : vs ≠ [] := fun z => he (List.eq_nil_of_length_eq_zero (by rw [← hl, z]; rfl))
        by_cases k1 : k = 1
        · subst k1
          have e : (List.replicate (1 : Int).toNat ds).flatten = ds := by simp
          rw [e] at h
          exact .inr ⟨al, 1, vs, rfl, rfl, .of e1, c1, c2, .inl ⟨.inr rfl, Ans.val F h (.tup s1 e1 l1 r1)⟩⟩
        · by_cases k0 : k = 0
          · subst k0
            exact .inr ⟨al, 0, vs, rfl, rfl, .of e1, c1, c2, .inr ⟨hv, rfl, Ans.tup F h .nil (Nat.zero_le _)⟩⟩
          · refine .inl (op2_mul W σ w _ _ _ _ Q F (.tup s1 e1 l1 r1) (.int k) ?_)
            show Ans X.K X.mg W σ w (if ds ≠ [] ∧ 2 ≤ k ∧ k ≤ 1000 ∧ ds.length ≤ 1000 then M.ret (.tup (List.replicate k.toNat ds).flatten) else M.stuck) Q
            rw [if_pos ⟨he, by omega, c2, c3⟩]
            exact h
    | _ => exact h.no
  | _ => exact h.no
theorem me_mulA (ha : ME X W a f) (hb : ME X W b g) : ME X W (.BinOp a .Mult b pos) (e2 oMulA f g) := me_bin (OpR.or op_mulA op_repS) op2_mulA ha hb
/-! < of data -/
def oLtD (d e : D) : M D := match toP d, toP e with
  | some p, some q => if PySem.W.alike p q = true ∧ isNonP p = false ∧ p.depth ≤ 60 then M.ret (.bl (PySem.W.dataLt p q)) else M.stuck
  | _, _ => M.stuck
where isNonP : PyData → Bool
  | .none => true
  | _ => false
def rLtD (K : PySem.W.Frag) : R2 := fun x y H Q => ∃ d e, Dp K H x d ∧ Dp K H y e ∧ PySem.W.alike d e = true ∧ d ≠ .none ∧ d.depth ≤ 60 ∧ Q (.bl (PySem.W.dataLt d e)) H
theorem op_ltD {k : Nat} (hr : Room k X.A) : OpR X (compareOp .Lt) (rLtD X.K) := by
  intro pins s σ H x y v u Q I rx ry h
  obtain ⟨d, e, hd, he, ha, hn, hp, q⟩ := h
  obtain ⟨as, r1⟩ := Dp.reads I d x v hd rx
  obtain ⟨bs, r2⟩ := Dp.reads I e y u he ry
  refine PySem.W.lt_data r1 r2 ha hn ?_ ⟨.bl _, H, I, rfl, q⟩
  have h1 := hr.un
  have h3 : min d.depth e.depth ≤ d.depth := Nat.min_le_left _ _
  omega
theorem op2_ltD : Op2 X (rLtD X.K) (d2 oLtD) := op2_drf fun W σ w x y d e Q F sx sy h => by
  unfold oLtD at h
  cases z1 : toP d with
  | none => rw [z1] at h; exact h.no
  | some p => cases z2 : toP e with
    | none => rw [z1, z2] at h; exact h.no
    | some q =>
      rw [z1, z2] at h
      dsimp only at h
      obtain ⟨⟨c1, c2, c3⟩, h⟩ := Holds.ite h
      exact ⟨p, q, sx.dp z1, sy.dp z2, c1, (fun z => by rw [z] at c2; cases c2), c3, Ans.val F h (.bl _)⟩
theorem me_ltD {k : Nat} (hr : Room k X.A) (ha : ME X W a f) (hb : ME X W b g) : ME X W (.Compare a [.Lt] [b] pos) (e2 (d2 oLtD) f g) := me_cmp (op_ltD hr) op2_ltD ha hb (nomark _)
theorem mt_ltD {k : Nat} (hr : Room k X.A) (ha : ME X W a f) (hb : ME X W b g) : MT X W (.Compare a [.Lt] [b] pos) (tst (e2 (d2 oLtD) f g)) := mt_cmp (op_ltD hr) op2_ltD ha hb (nomark _)
/-! enumerate(tuple) -/
end
theorem meets_enumerate_newT (l : Addr) (items : Array Value) (hsub : True) :
    Meets (Builtin.«enumerate.__new__» ⟨[.type "enumerate", .ref l], []⟩) (fun _ R s => s.heap.IsTuple l items ∧
      R (.ok (.ret (.ref (s.heap.push { cls := .type "tuple_iterator", data := .fields #[.ref l, .int 0 0] }).objs.size)))
        { s with heap := (s.heap.push { cls := .type "tuple_iterator", data := .fields #[.ref l, .int 0 0] }).push { cls := .type "enumerate", data := .fields #[.none, .bool false, .ref s.heap.objs.size, rawInt 0, .none, .none] } }) :=
  .of_wp fun prog w A R s h => by
    obtain ⟨hp, g, d, tk, os⟩ := s; obtain ⟨hL, h⟩ := h
    have hsub := sub_enumerate
    wp_walk
    refine wpAny_stack_any fun st => wpAny_pure ?_
    split
    · rename_i c _ _ _ _ _
      cases (c == Value.type "enumerate")
      · wp_walk using wpAny_pyIter_tuple hL
        exact ⟨_, rfl, h⟩
      · wp_walk using wpAny_pyIter_tuple hL
        exact ⟨_, rfl, h⟩
    · wp_walk using wpAny_pyIter_tuple hL
      exact ⟨_, rfl, h⟩
section
variable {prog : Program} {w : World} {A : Around} {E : Value → Shared → Prop} {s : Shared}
theorem call_enumT {l : Addr} {items : Array Value} {Q : Value → Shared → Prop} (hL : s.heap.IsTuple l items)
    (h : ∀ h', IsEnum h' (s.heap.objs.size + 1) s.heap.objs.size 0 .none → h'.IsTupleIter s.heap.objs.size l 0 → h'.objs.size = s.heap.objs.size + 2 →
      (∀ b o, s.heap.get? b = some o → h'.get? b = some o) → Q (.ref (s.heap.objs.size + 1)) { s with heap := h' }) :
    wpAny (model prog w) A (call (.type "enumerate") [.ref l]) Q E s := by
  refine callType_new F.called_enumerate (by decide) (F.typeCall_enumerate_1 _) (F.newCall_enumerate_1 _) (fun obj => F.args_object_init_2 obj _) F.entry_enumerate_new
    (meets_enumerate_newT l items trivial) ⟨hL, ?_⟩
  have hz : (s.heap.push { cls := .type "tuple_iterator", data := .fields #[.ref l, .int 0 0] }).objs.size = s.heap.objs.size + 1 := Heap.size_push ..
  show _ ∧ _
  rw [hz]
  have he : IsEnum ((s.heap.push { cls := .type "tuple_iterator", data := .fields #[.ref l, .int 0 0] }).push
      { cls := .type "enumerate", data := .fields #[.none, .bool false, .ref s.heap.objs.size, rawInt 0, .none, .none] }) (s.heap.objs.size + 1) s.heap.objs.size 0 .none := by
    have := Heap.get?_push_size (s.heap.push { cls := .type "tuple_iterator", data := .fields #[.ref l, .int 0 0] })
      (o := { cls := .type "enumerate", data := .fields #[.none, .bool false, .ref s.heap.objs.size, rawInt 0, .none, .none] }) rfl
    rw [hz] at this; exact this
  refine ⟨⟨_, he, rfl⟩, h _ he ⟨_, Heap.get?_push_of_some _ (Heap.get?_push_size _ rfl), rfl, rfl⟩ (by rw [Heap.size_push, hz]) fun b o x => Heap.get?_push_of_some _ (Heap.get?_push_of_some _ x)⟩
end
def IteT (K : PySem.W.Frag) (a : Addr) : It :=
  ⟨fun i H => ∃ (xs : List V) (x : V), SqT K H a xs ∧ xs[i]? = some x, fun i H v H' => ∃ T x, v = .ref T ∧ H T = none ∧ H' = upd H T (.tup [.int (i : Nat), x]) ∧ ∀ xs, SqT K H a xs → xs[i]? = some x, fun i H => ∃ xs : List V, SqT K H a xs ∧ xs.length ≤ i⟩
theorem turn_enumT {P : Program} {w : World} {K : PySem.W.Frag} {elts : List Expr} {kk : Nat} {tpos : Pos} (a e it : Addr) :
    Turn P w K (.Tuple elts kk tpos) (IteT K a) [e, it] e (fun i h => (∃ old, IsEnum h e it ((i : Nat) : Int) old) ∧ h.IsTupleIter it a i ∧ e ≠ it ∧ a ≠ e ∧ a ≠ it) where
  mem := by simp
  obj := fun i h st b hb => by
    obtain ⟨⟨old, he⟩, ⟨o, ho, hc, hd⟩, _⟩ := st
    have e' : b = e ∨ b = it := by simpa using hb
    rcases e' with z | z
    · rw [z]; exact ⟨_, he, fun v q => nomatch q⟩
    · rw [z]; exact ⟨o, ho, fun v q => by rw [hd] at q; cases q⟩
  keep := fun i h h' st k => let ⟨⟨old, he⟩, hi, hne⟩ := st; ⟨⟨old, k e (by simp) _ he⟩, hi.at fun o q => k it (by simp) o q, hne⟩
  item := by
    intro X hP hw hK hc i pins s σ H E I hf st hg
    subst hP hw hK
    obtain ⟨⟨old, he⟩, hit, hne, hae, hai⟩ := st
    obtain ⟨xs, x, hq, hx⟩ := hg
    obtain ⟨its, rv, p, hz⟩ := I.tuple hq
    obtain ⟨u, hu, ru⟩ := rv.get hx
    have hel : e < s.heap.objs.size := Heap.lt_size he
    have hil : it < s.heap.objs.size := by obtain ⟨_, q, _⟩ := hit; exact Heap.lt_size q
    have hlt : i < its.toArray.size := by
      have := (List.getElem?_eq_some_iff.mp hu).1
      simpa using this
    refine wpAny_pyNext_enum_itemD (Draws.tuple (A := X.A.in1) (I.ok.hd hc) it a hai its.toArray) he ⟨hit, p⟩ hlt hne (by simp; exact ⟨hne, fun z => hae z.symm⟩) fun y h' tk hy ho hit' hT hsz hk => ?_
    have ey : y = u := by
      have hy' : its[i]? = some y := by simpa using hy
      rw [hu] at hy'; cases hy'; rfl
    subst ey
    refine ⟨_, rfl, wpAny_letOwnedTupleGo_enum (s := { s with heap := h', toks := tk + 1 }) ho fun h'' he' sb => ?_⟩
    have hT2 : h''.get? s.heap.objs.size = some { cls := .type "tuple", data := .seq #[.int i tk, y] } := (sb.2 _ (Nat.ne_of_gt hel)).trans hT
    have new : ObjOk X.prog X.w (upd H s.heap.objs.size (.tup [.int (i : Nat), x])) h'' s.heap.objs.size (.tup [.int (i : Nat), x]) :=
      ⟨by show 2 ≤ sizeLine; decide, [.int i tk, y], .cons ⟨_, rfl⟩ (.cons ru .nil), ⟨_, hT2, rfl, _, rfl⟩⟩
    have I1 : Inv X pins σ (upd H s.heap.objs.size (.tup [.int (i : Nat), x])) { s with heap := h'', toks := tk + 1 } :=
      I.turnedNew (ch := [e, it]) (fun b ob hb q => (sb.2 b (fun z => hb (by simp [z]))).trans (hk b ob (fun z => hb (by simp [z])) (fun z => hb (by simp [z])) q)) hf (Nat.le_refl _) new
    refine ⟨.ref s.heap.objs.size, _, I1, rfl, ⟨_, x, rfl, I.hok.fresh (Nat.le_refl _), rfl, fun ys hy => by rw [I.tuple_inj hy hq]; exact hx⟩, ⟨⟨y, ?_⟩, hit'.1.at fun o q => (sb.2 it (Ne.symm hne)).trans q, hne, hae, hai⟩, fun b hb => ?_⟩
    · have e1 : ((i + 1 : Nat) : Int) = (i : Int) + 1 := by omega
      rw [e1]; exact he'
    · have hb' : b < s.heap.objs.size := by
        have e' : b = e ∨ b = it := by simpa using hb
        rcases e' with z | z
        · rw [z]; exact hel
        · rw [z]; exact hil
      rw [upd_ne (Nat.ne_of_lt hb')]
      exact (hf b hb).1
  done := by
    intro X hP hw hK hc i pins s σ H E I hf st hg
    subst hP hw hK
    obtain ⟨⟨old, he⟩, hit, hne, hae, hai⟩ := st
    obtain ⟨xs, hq, hx⟩ := hg
    obtain ⟨its, rv, p, hz⟩ := I.tuple hq
    obtain ⟨f0, f1, f2, f3, f4, f5⟩ := hf it (by simp)
    have hl := rv.length
    have D' : Draws X.prog X.w X.A.in1 it [it, a] i (fun _ _ => True) (fun j h => j = i ∧ h.IsTupleIter it a i ∧ h.IsTuple a its.toArray) :=
      { live := fun _ _ st => let ⟨o, ho, _⟩ := st.2.1; ⟨o, ho⟩
        frame := fun _ _ _ st hk => ⟨st.1, st.2.1.at fun o e => hk it (by simp) o e, st.2.2.at fun o e => hk a (by simp) o e⟩
        item := fun j s Q E hj st hQ => absurd hj (by rw [st.1]; exact Nat.lt_irrefl _)
        done := fun s Q E st hE => wpAny_nextOf_tuple_end (A := X.A.in1) (I.ok.hd hc) st.2.1 st.2.2 (by simp; omega) hE }
    exact wpAny_pyNext_enum_endD D' he ⟨rfl, hit, p⟩ fun h' eb => ⟨rfl, I.turned (t' := s.toks) (fun b o hb q => eb b o hb q) f0 f1 f3 f4 f5⟩
  self := fun A i s Q E st h => let ⟨⟨_, he⟩, _⟩ := st; wpAny_pyIter_enum he h
section
variable {X : Cx} {W : WX} {a b tg : Expr} {es : List Expr} {fs : Env → M (List D)} {f g h : Env → M D} {pos p apos : Pos}
def iEnumA (K : PySem.W.Frag) (ta : TA) : TI := fun σ H R => ta σ H fun vs H1 => ∃ a xs, vs = [.ref a] ∧ ((SqL K H1 a xs ∧ R (Ite K a) H1) ∨ (SqT K H1 a xs ∧ R (IteT K a) H1))
theorem pi_enumA {e : Expr} {ta : TA} {tpos : Pos} {elts : List Expr} {kk : Nat} (hg : Gl X "enumerate") (hm : X.mg "enumerate" = none) (ha : PA X [e] ta) (hs : starEach [e] X.env = [(false, eval e X.env)] := by rfl) :
    PI X (.Tuple elts kk tpos) (.Call (.Name "enumerate" p) [e] [] pos) (iEnumA X.K ta) := by
  refine ⟨fun pins s σ H R I h => ?_⟩
  refine Call_ (ld_blt I hg hm boot_enumerate (PyProof.Rows.callWith_type1 (thn (ha.run pos pins s σ H _ I h) fun us s1 ⟨vs, H1, I1, r1, q1⟩ => ?_) hs rfl))
  obtain ⟨a, xs, ex, q⟩ := q1
  subst ex
  cases r1 with
  | cons r rr =>
    cases rr
    cases r
    have fp : ∀ b, b ∈ [s1.heap.objs.size + 1, s1.heap.objs.size] → s1.heap.objs.size ≤ b := fun b hb => by
      have e' : b = s1.heap.objs.size + 1 ∨ b = s1.heap.objs.size := by simpa using hb
      rcases e' with z | z
      · rw [z]; exact Nat.le_add_right _ _
      · rw [z]; exact Nat.le_refl _
    rcases q with ⟨hq, q⟩ | ⟨hq, q⟩
    · obtain ⟨its, rv, p', hz⟩ := I1.list hq
      refine call_enumerate_list p'.isList fun h' he hit hsz hk => wpAny_pyIter_enum he ?_
      have I2 : Inv X pins σ H1 { s1 with heap := h' } := I1.kept (t' := s1.toks) hk
      exact ⟨s1.heap.objs.size + 1, [s1.heap.objs.size + 1, s1.heap.objs.size], _, _, H1, rfl, I2, turn_enum a (s1.heap.objs.size + 1) s1.heap.objs.size, ⟨⟨.none, he⟩, hit, Nat.succ_ne_self _⟩, fun b hb => I1.fpOk (fp b hb) (I1.hok.fresh (fp b hb)), q⟩
    · obtain ⟨its, rv, p', hz⟩ := I1.tuple hq
      have hal : a < s1.heap.objs.size := by obtain ⟨o, ho, _⟩ := p'; exact Heap.lt_size ho
      refine call_enumT p' fun h' he hit hsz hk => wpAny_pyIter_enum he ?_
      have I2 : Inv X pins σ H1 { s1 with heap := h' } := I1.kept (t' := s1.toks) hk
      exact ⟨s1.heap.objs.size + 1, [s1.heap.objs.size + 1, s1.heap.objs.size], _, _, H1, rfl, I2, turn_enumT a (s1.heap.objs.size + 1) s1.heap.objs.size, ⟨⟨.none, he⟩, hit, Nat.succ_ne_self _, Nat.ne_of_lt (Nat.lt_succ_of_lt hal), Nat.ne_of_lt hal⟩, fun b hb => I1.fpOk (fp b hb) (I1.hok.fresh (fp b hb)), q⟩
theorem cov_enumT {K : PySem.W.Frag} {w : Wd} {a : Addr} {vs : List V} {ds : List D} (hS : w.S a) (e : w.H a = some (.tup vs)) (r : w.reps K vs ds) : Covers K w (IteT K a) (enumD 0 ds) := by
  have at' : ∀ w', Grow w w' → w'.H a = some (.tup vs) := fun w' g => g.fr a _ e (.inl hS)
  have l1 := r.length
  refine ⟨fun w' g F i hi => ?_, fun w' g F i d x H' hd y => ?_, fun w' g F i hi => ⟨vs, .of (at' w' g), ?_⟩⟩
  · rw [enumD_len] at hi
    exact ⟨vs, vs[i], .of (at' w' g), List.getElem?_eq_getElem _⟩
  · obtain ⟨T, x, rfl, hT, rfl, h1⟩ := y
    obtain ⟨d1, z1, rfl⟩ := enumD_get _ _ _ _ hd
    obtain ⟨v, u1, u2⟩ := (g.reps r).get z1
    have e1 := h1 vs (.of (at' w' g))
    rw [u1] at e1; cases e1
    rw [Nat.zero_add]
    exact pair_new F hT (.int _) u2
  · rw [enumD_len] at hi; omega
@[simp] def asEnumA : D → M (List D)
  | .lst xs => M.ret (enumD 0 xs)
  | .tup xs => M.ret (enumD 0 xs)
  | _ => M.stuck
@[simp] def iEnum2 (fs : Env → M (List D)) : Env → M (List D) := fun ρ => (fs ρ).bind (one asEnumA)
theorem mi_enumA {elts : List Expr} {kk : Nat} {tpos : Pos} (hg : Gl X "enumerate") (hm : X.mg "enumerate" = none) (ha : MA X W [a] fs) (hs : starEach [a] X.env = [(false, eval a X.env)] := by rfl) :
    MI X W (.Tuple elts kk tpos) (.Call (.Name "enumerate" p) [a] [] pos) (iEnum2 fs) := by
  refine PI.sub (pi_enumA hg hm ha hs) ?_
  rintro σ H R ⟨w, ρ, rfl, F, E, q⟩
  refine ⟨w, ρ, rfl, F, E, Holds.thn q fun ds w1 g1 F1 q1 vs rs => one_thn q1 rs fun v d ev r q2 => ?_⟩
  subst ev
  cases r with
  | lst h1 h2 h3 h4 => exact ⟨_, _, rfl, .inl ⟨.of h2, Holds.here F1 q2 _ (cov_enum h1 h2 h4)⟩⟩
  | tup h1 h2 h3 h4 => exact ⟨_, _, rfl, .inr ⟨.of h2, Holds.here F1 q2 _ (cov_enumT h1 h2 h4)⟩⟩
  | _ => exact q2.no
end
end Mi
namespace Mi
open PySem PySem.Spec PyProof.Rows L2
open Da (toD)
/-- data that are alike, with their order -/
class Dl (α : Type) extends Da α where
  lt : α → α → Bool
  alk : ∀ a b : α, PySem.W.alike (Da.py a) (Da.py b) = true
  nn : ∀ a : α, Da.py a ≠ .none
  ltok : ∀ a b : α, PySem.W.dataLt (Da.py a) (Da.py b) = lt a b
  irr : ∀ a, lt a a = false
  tr : ∀ a b c, lt a b = true → lt b c = true → lt a c = true
  tot : ∀ a b, lt a b = false → lt b a = false → a = b
section
variable {α β : Type} [Dl α] [Dl β]
instance : Dl Int where
  lt a b := decide (a < b)
  alk a b := by show PySem.W.alike (.int a) (.int b) = true; simp [PySem.W.alike]
  nn a := fun z => nomatch z
  ltok a b := PySem.W.dataLt_int a b
  irr a := by simp
  tr a b c := by simp; omega
  tot a b := by simp; omega
theorem eqv_iff (a b : α) : PyData.eqv (Da.py a) (Da.py b) = true ↔ a = b := Da.inj a b
theorem lt_asym (a b : α) (h : Dl.lt a b = true) : Dl.lt b a = false := by
  cases q : Dl.lt b a with
  | false => rfl
  | true => have := Dl.tr a b a h q; rw [Dl.irr] at this; cases this
variable [DecidableEq α] [DecidableEq β]
def lexL : List α → List α → Bool
  | [], [] => false
  | [], _ :: _ => true
  | _ :: _, [] => false
  | x :: xs, y :: ys => if x = y then lexL xs ys else Dl.lt x y
theorem alikeAll_map : ∀ xs ys : List α, PySem.W.alikeAll (xs.map Da.py) (ys.map Da.py) = true
  | [], _ => by simp [PySem.W.alikeAll]
  | _ :: _, [] => by simp [PySem.W.alikeAll]
  | x :: xs, y :: ys => by
    rw [List.map_cons, List.map_cons]
    unfold PySem.W.alikeAll
    rw [Dl.alk, alikeAll_map xs ys]; rfl
theorem lexL_toks : ∀ xs ys : List α, PyProof.Rows.lexLt itemOrd (PySem.W.keyToksAll (xs.map Da.py)) (PySem.W.keyToksAll (ys.map Da.py)) = lexL xs ys
  | [], [] => by
    unfold lexL
    exact lex_irrefl _
  | [], y :: ys => by
    rw [List.map_nil, List.map_cons, PySem.W.toks_all_cons]
    unfold PySem.W.keyToksAll lexL
    rw [PySem.W.lex_atom (by simp), PySem.W.lex_one]
    rfl
  | x :: xs, [] => by
    rw [List.map_nil, List.map_cons, PySem.W.toks_all_cons]
    unfold PySem.W.keyToksAll lexL
    rw [PySem.W.lex_atom (by simp), PySem.W.lex_one]
    rfl
  | x :: xs, y :: ys => by
    rw [List.map_cons, List.map_cons, PySem.W.dataLt_cons (Dl.alk x y), lexL_toks xs ys, Dl.ltok]
    show _ = if x = y then lexL xs ys else Dl.lt x y
    by_cases h : x = y
    · rw [if_pos h, if_pos ((eqv_iff x y).mpr h)]
    · rw [if_neg h, if_neg (fun z => h ((eqv_iff x y).mp z))]
theorem lexL_irr : ∀ xs : List α, lexL xs xs = false
  | [] => rfl
  | x :: xs => by unfold lexL; rw [if_pos rfl]; exact lexL_irr xs
theorem lexL_tr : ∀ xs ys zs : List α, lexL xs ys = true → lexL ys zs = true → lexL xs zs = true
  | [], _, [], _, h2 => by
    rename_i ys h1
    cases ys with
    | nil => cases h1
    | cons _ _ => cases h2
  | [], _, _ :: _, _, _ => rfl
  | _ :: _, [], _, h1, _ => by cases h1
  | _ :: _, _ :: _, [], _, h2 => by cases h2
  | x :: xs, y :: ys, z :: zs, h1, h2 => by
    unfold lexL at *
    by_cases e1 : x = y
    · subst e1
      rw [if_pos rfl] at h1
      by_cases e2 : x = z
      · rw [if_pos e2] at h2 ⊢; exact lexL_tr xs ys zs h1 h2
      · rw [if_neg e2] at h2 ⊢; exact h2
    · rw [if_neg e1] at h1
      by_cases e2 : y = z
      · subst e2; rw [if_neg e1]; exact h1
      · rw [if_neg e2] at h2
        have h3 := Dl.tr _ _ _ h1 h2
        have e3 : x ≠ z := fun e => by subst e; rw [Dl.irr] at h3; cases h3
        rw [if_neg e3]; exact h3
theorem lexL_tot : ∀ xs ys : List α, lexL xs ys = false → lexL ys xs = false → xs = ys
  | [], [], _, _ => rfl
  | [], _ :: _, h1, _ => by cases h1
  | _ :: _, [], _, h2 => by cases h2
  | x :: xs, y :: ys, h1, h2 => by
    unfold lexL at *
    by_cases e1 : x = y
    · subst e1
      rw [if_pos rfl] at h1 h2
      rw [lexL_tot xs ys h1 h2]
    · rw [if_neg e1] at h1
      rw [if_neg (fun e => e1 e.symm)] at h2
      exact absurd (Dl.tot _ _ h1 h2) e1
instance : Dl (Tu α) where
  lt a b := lexL a.l b.l
  alk a b := by show PySem.W.alike (.tuple _) (.tuple _) = true; unfold PySem.W.alike; exact alikeAll_map (α := α) _ _
  nn a := fun z => nomatch z
  ltok a b := by show PySem.W.dataLt (.tuple _) (.tuple _) = _; rw [PySem.W.dataLt_tuple]; exact lexL_toks a.l b.l
  irr a := lexL_irr _
  tr a b c := lexL_tr _ _ _
  tot a b h1 h2 := by cases a; cases b; congr 1; exact lexL_tot _ _ h1 h2
instance : Dl (List α) where
  lt a b := lexL a b
  alk a b := by show PySem.W.alike (.list _) (.list _) = true; unfold PySem.W.alike; exact alikeAll_map (α := α) _ _
  nn a := fun z => nomatch z
  ltok a b := by show PySem.W.dataLt (.list _) (.list _) = _; rw [PySem.W.dataLt_list]; exact lexL_toks a b
  irr a := lexL_irr _
  tr a b c := lexL_tr _ _ _
  tot a b h1 h2 := lexL_tot _ _ h1 h2
instance : Dl (α × β) where
  lt a b := if a.1 = b.1 then Dl.lt a.2 b.2 else Dl.lt a.1 b.1
  alk a b := by show PySem.W.alike (.tuple [_, _]) (.tuple [_, _]) = true; simp [PySem.W.alike, PySem.W.alikeAll, Dl.alk]
  nn a := fun z => nomatch z
  ltok a b := by
    show PySem.W.dataLt (.tuple [_, _]) (.tuple [_, _]) = _
    rw [PySem.W.dataLt_pair (Dl.alk _ _) (Dl.alk _ _), Dl.ltok, Dl.ltok]
    by_cases h : a.1 = b.1
    · rw [if_pos h, if_pos ((eqv_iff _ _).mpr h)]
      by_cases h2 : a.2 = b.2
      · rw [if_pos ((eqv_iff _ _).mpr h2), h2, Dl.irr]
      · rw [if_neg (fun z => h2 ((eqv_iff _ _).mp z))]
    · rw [if_neg h, if_neg (fun z => h ((eqv_iff _ _).mp z))]
  irr a := by rw [if_pos rfl]; exact Dl.irr _
  tr a b c h1 h2 := by
    by_cases e1 : a.1 = b.1
    · rw [if_pos e1] at h1
      by_cases e2 : b.1 = c.1
      · rw [if_pos e2] at h2; rw [if_pos (e1.trans e2)]; exact Dl.tr _ _ _ h1 h2
      · rw [if_neg e2] at h2; rw [if_neg (e1 ▸ e2), e1]; exact h2
    · rw [if_neg e1] at h1
      by_cases e2 : b.1 = c.1
      · rw [if_neg (e2 ▸ e1), ← e2]; exact h1
      · rw [if_neg e2] at h2
        have h3 := Dl.tr _ _ _ h1 h2
        have e3 : a.1 ≠ c.1 := fun e => by rw [e, Dl.irr] at h3; cases h3
        rw [if_neg e3]; exact h3
  tot a b h1 h2 := by
    by_cases e1 : a.1 = b.1
    · rw [if_pos e1] at h1
      rw [if_pos e1.symm] at h2
      exact Prod.ext e1 (Dl.tot _ _ h1 h2)
    · rw [if_neg e1] at h1
      rw [if_neg (fun e => e1 e.symm)] at h2
      exact absurd (Dl.tot _ _ h1 h2) e1
end
section
variable {α : Type} [Dl α]
/-- the least -/
def minBy (x : α) (xs : List α) : α := xs.foldl (fun a y => if Dl.lt y a = true then y else a) x
theorem minBy_spec : ∀ (xs : List α) (x : α), minBy x xs ∈ x :: xs ∧ ∀ y ∈ x :: xs, Dl.lt y (minBy x xs) = false
  | [], x => by
    refine ⟨List.mem_cons_self, fun y hy => ?_⟩
    have : y = x := by simpa using hy
    subst this; exact Dl.irr _
  | z :: xs, x => by
    have e : minBy x (z :: xs) = minBy (if Dl.lt z x = true then z else x) xs := rfl
    obtain ⟨h1, h2⟩ := minBy_spec xs (if Dl.lt z x = true then z else x)
    rw [e]
    by_cases c : Dl.lt z x = true
    · rw [if_pos c] at h1 h2 ⊢
      refine ⟨List.mem_cons_of_mem _ h1, fun y hy => ?_⟩
      rcases List.mem_cons.mp hy with rfl | hy
      · cases q : Dl.lt y (minBy z xs) with
        | false => rfl
        | true => have := Dl.tr _ _ _ c q; rw [h2 z List.mem_cons_self] at this; cases this
      · exact h2 y hy
    · rw [if_neg c] at h1 h2 ⊢
      refine ⟨?_, fun y hy => ?_⟩
      · rcases List.mem_cons.mp h1 with h1 | h1
        · rw [h1]; exact List.mem_cons_self
        · exact List.mem_cons_of_mem _ (List.mem_cons_of_mem _ h1)
      · rcases List.mem_cons.mp hy with rfl | hy
        · exact h2 y List.mem_cons_self
        · rcases List.mem_cons.mp hy with rfl | hy
          · cases q : Dl.lt y (minBy x xs) with
            | false => rfl
            | true =>
              exfalso
              have c' : Dl.lt y x = false := by simpa using c
              have hx := h2 x List.mem_cons_self
              by_cases e : y = x
              · subst e; rw [hx] at q; cases q
              · have : Dl.lt x y = true := by
                  cases r : Dl.lt x y with
                  | true => rfl
                  | false => exact absurd (Dl.tot _ _ c' r) e
                have := Dl.tr _ _ _ this q
                rw [hx] at this; cases this
          · exact h2 y (List.mem_cons_of_mem _ hy)
theorem minBy_unique {x : α} {xs : List α} {m : α} (h1 : m ∈ x :: xs) (h2 : ∀ y ∈ x :: xs, Dl.lt y m = false) : minBy x xs = m :=
  Dl.tot _ _ (h2 _ (minBy_spec xs x).1) ((minBy_spec xs x).2 _ h1)
theorem minOk_map {xs : List α} (hn : xs ≠ []) (hd : Da.dep α ≤ 60) : minOk (xs.map Da.py) = true := by
  unfold minOk AlikeL
  simp only [Bool.and_eq_true, List.all_eq_true, Bool.not_eq_true', List.isEmpty_eq_false_iff, List.mem_map, ne_eq, List.map_eq_nil_iff]
  refine ⟨⟨hn, ?_⟩, ?_⟩
  · rintro _ ⟨a, _, rfl⟩ _ ⟨b, _, rfl⟩
    exact Dl.alk a b
  · rintro _ ⟨a, _, rfl⟩
    refine ⟨?_, decide_eq_true (Nat.le_trans (Da.le a) hd)⟩
    have := Dl.nn a
    split
    · rename_i e; exact absurd e this
    · rfl
theorem argBest_le (lt : Nat → Nat → Bool) : ∀ j, argBest lt j ≤ j
  | 0 => Nat.le_refl _
  | j + 1 => by
    unfold argBest
    split
    · exact Nat.le_refl _
    · exact Nat.le_succ_of_le (argBest_le lt j)
theorem argBest_min (a : Nat → α) (lt : Nat → Nat → Bool) : ∀ j, (∀ i k, i ≤ j → k ≤ j → lt i k = Dl.lt (a i) (a k)) → ∀ i, i ≤ j → Dl.lt (a i) (a (argBest lt j)) = false
  | 0, _, i, hi => by
    have : i = 0 := by omega
    subst this; exact Dl.irr _
  | j + 1, hl, i, hi => by
    have ih := argBest_min a lt j (fun i k h1 h2 => hl i k (by omega) (by omega))
    have hb := argBest_le lt j
    have e := hl (j + 1) (argBest lt j) (Nat.le_refl _) (by omega)
    unfold argBest
    by_cases c : lt (j + 1) (argBest lt j) = true
    · rw [if_pos c]
      rw [e] at c
      rcases Nat.lt_or_ge i (j + 1) with h | h
      · cases q : Dl.lt (a i) (a (j + 1)) with
        | false => rfl
        | true => have := Dl.tr _ _ _ q c; rw [ih i (by omega)] at this; cases this
      · have : i = j + 1 := by omega
        subst this; exact Dl.irr _
    · rw [if_neg c]
      rcases Nat.lt_or_ge i (j + 1) with h | h
      · exact ih i (by omega)
      · have : i = j + 1 := by omega
        subst this
        rw [e] at c; simpa using c
theorem minL_map (x : α) (xs : List α) (hd : Da.dep α ≤ 60) : minL ((x :: xs).map toD) = M.ret (toD (minBy x xs)) := by
  unfold minL
  rw [toPs_map]
  dsimp only
  rw [if_pos (minOk_map (by simp) hd)]
  have hlen : ((x :: xs).map (Da.py : α → PyData)).length - 1 = xs.length := by simp
  have hle : minIx ((x :: xs).map Da.py) ≤ xs.length := by
    unfold minIx
    have := argBest_le (fun i j => PySem.W.dataLt (((x :: xs).map (Da.py : α → PyData)).getD i .none) (((x :: xs).map (Da.py : α → PyData)).getD j .none)) (((x :: xs).map (Da.py : α → PyData)).length - 1)
    rw [hlen] at this ⊢
    exact this
  have hget : ∀ i, i ≤ xs.length → (x :: xs)[i]? = some ((x :: xs).getD i x) := fun i hi => by
    rw [List.getD_eq_getElem?_getD, List.getElem?_eq_getElem (by simp; omega)]; rfl
  have hpy : ∀ i, i ≤ xs.length → ((x :: xs).map (Da.py : α → PyData)).getD i .none = Da.py ((x :: xs).getD i x) := fun i hi => by
    rw [List.getD_eq_getElem?_getD, List.getElem?_map, hget i hi]; rfl
  have em : minBy x xs = (x :: xs).getD (minIx ((x :: xs).map Da.py)) x := by
    refine minBy_unique (List.mem_of_getElem? (hget _ hle)) fun y hy => ?_
    obtain ⟨i, hi⟩ := List.mem_iff_getElem?.mp hy
    have hi' : i ≤ xs.length := by
      have := (List.getElem?_eq_some_iff.mp hi).1
      simp at this; omega
    have ey : y = (x :: xs).getD i x := by rw [hget i hi'] at hi; cases hi; rfl
    rw [ey]
    have key := argBest_min (fun i => (x :: xs).getD i x) (fun i j => PySem.W.dataLt (((x :: xs).map (Da.py : α → PyData)).getD i .none) (((x :: xs).map (Da.py : α → PyData)).getD j .none)) xs.length (fun i k h1 h2 => by rw [hpy i h1, hpy k h2, Dl.ltok]) i hi'
    unfold minIx
    rw [hlen]
    exact key
  rw [List.getElem?_map, hget _ hle]
  dsimp only [Option.map]
  rw [em]
/-! sorted -/
def sortT (xs : List α) : List α := xs.mergeSort fun a b => !Dl.lt b a
theorem sortT_perm (xs : List α) : (sortT xs).Perm xs := List.mergeSort_perm _ _
theorem lt_negtr (a b c : α) (h1 : Dl.lt b a = false) (h2 : Dl.lt c b = false) : Dl.lt c a = false := by
  cases q : Dl.lt c a with
  | false => rfl
  | true =>
    exfalso
    cases r : Dl.lt a b with
    | true => have := Dl.tr _ _ _ q r; rw [h2] at this; cases this
    | false => have e := Dl.tot _ _ r h1; subst e; rw [h2] at q; cases q
theorem sortT_sorted (xs : List α) : (sortT xs).Pairwise fun a b => Dl.lt b a = false := by
  have := List.pairwise_mergeSort (le := fun a b : α => !Dl.lt b a) (fun a b c h1 h2 => by simp at *; exact lt_negtr a b c h1 h2) (fun a b => by
    cases q : Dl.lt a b with
    | false => simp
    | true => simp [lt_asym a b q]) xs
  refine this.imp fun {a b} h => ?_
  simpa using h
theorem sorted_unique : ∀ {xs ys : List α}, xs.Perm ys → xs.Pairwise (fun a b => Dl.lt b a = false) → ys.Pairwise (fun a b => Dl.lt b a = false) → xs = ys := by
  intro xs ys hp hx hy
  exact List.Perm.eq_of_pairwise (le := fun a b => Dl.lt b a = false) (fun a b _ _ h1 h2 => Dl.tot a b h2 h1) hx hy hp
theorem sortT_eq {xs ys : List α} (h : xs.Perm ys) : sortT xs = sortT ys := sorted_unique (((sortT_perm xs).trans h).trans (sortT_perm ys).symm) (sortT_sorted xs) (sortT_sorted ys)
theorem sortBy_map (xs : List α) : sortBy (xs.map toD) (xs.map Da.py) = (sortT xs).map toD := by
  unfold sortBy sortT
  have e : (xs.map (toD : α → D)).zip (xs.map Da.py) = xs.map fun x => (toD x, Da.py x) := by
    rw [List.zip_map', ]
  have k := List.map_mergeSort (r := fun a b : α => !Dl.lt b a) (s := PySem.W.dataLe false (Prod.snd : D × PyData → PyData)) (f := fun x => (toD x, Da.py x)) (l := xs) (fun a _ b _ => by
    rw [PySem.W.dataLe_eq]
    dsimp only [cond]
    rw [Dl.ltok])
  rw [e, ← k, List.map_map]
  rfl
theorem sortOk_map {xs : List α} (hd : Da.dep α ≤ 60) (hs : (∀ a : α, isTupNe (Da.py a) = true) ∨ ∀ a : α, isOther (Da.py a) = true) : sortOk (xs.map Da.py) = true := by
  unfold sortOk AlikeL
  simp only [Bool.and_eq_true, Bool.or_eq_true, List.all_eq_true, List.mem_map]
  refine ⟨⟨?_, ?_⟩, ?_⟩
  · rintro _ ⟨a, _, rfl⟩ _ ⟨b, _, rfl⟩
    exact Dl.alk a b
  · rcases hs with h | h
    · left; rintro _ ⟨a, _, rfl⟩; exact h a
    · right; rintro _ ⟨a, _, rfl⟩; exact h a
  · rintro _ ⟨a, _, rfl⟩
    exact decide_eq_true (Nat.le_trans (Da.le a) hd)
theorem sortL_map (xs : List α) (hd : Da.dep α ≤ 60) (hs : (∀ a : α, isTupNe (Da.py a) = true) ∨ ∀ a : α, isOther (Da.py a) = true) : sortL (xs.map toD) = M.ret ((sortT xs).map toD) := by
  unfold sortL
  rw [toPs_map]
  dsimp only
  rw [if_pos (sortOk_map hd hs), sortBy_map]
theorem sortL_ints (xs : List Int) : sortL (xs.map toD) = M.ret ((sortT xs).map toD) := sortL_map xs (by decide) (.inr fun _ => rfl)
end
/-! ### evaluation -/
def opU (o : Option (List D)) (k : List D → Out) : Out := match o with
  | some ys => k ys
  | none => .stuck
def setL (xs : List D) (i : Int) (d : D) : Option (List D) := match ixN xs.length i with
  | some k => some (xs.set k d)
  | none => none
@[simp] theorem runS_put (d : D) (n : Nat) (i : Int) (k : Unit → List Cell → Out) (ρ : Env) (ω : List Cell) : runS (putL d (.cell n) (.int i)) k ρ ω = upC ω[n]? fun xs => opU (setL xs i d) fun ys => k () (ω.set n (.lst ys)) := by
  unfold runS putL upC opU setL
  dsimp only
  cases ω[n]? with
  | none => rfl
  | some c => cases c with
    | lst xs => dsimp only; cases ixN xs.length i <;> rfl
    | _ => rfl
@[simp] theorem opU_some (ys : List D) (k : List D → Out) : opU (some ys) k = k ys := rfl
theorem ixN_pos (n : Nat) (i : Int) (h0 : 0 ≤ i) (h1 : i < n) : ixN n i = some i.toNat := by
  unfold ixN
  simp [h0, h1]
theorem setL_ (xs : List D) (i : Int) (d : D) (h0 : 0 ≤ i) (h1 : i < xs.length) : setL xs i d = some (xs.set i.toNat d) := by
  unfold setL
  rw [ixN_pos _ _ h0 h1]
@[simp] theorem sPut_run (f o i : Env → M D) (ρ : Env) (ω : List Cell) : sPut f o i ρ ω = runS (f ρ) (fun d => runS (o ρ) (fun c => runS (i ρ) (fun j => runS (putL d c j) (fun _ ω => .next ρ ω) ρ) ρ) ρ) ρ ω := rfl
theorem kExtend_ (xs ys : List D) (h : xs.length + ys.length ≤ 1000000) : kExtend xs [.lst ys] = some (xs ++ ys, .non) := if_pos h
theorem kPop_cons (xs : List D) (d : D) : kPop0 (d :: xs) [.int 0] = some (xs, d) := by
  unfold kPop0
  simp [seqIndex?, show tiny 0 = true by decide]
theorem kPop_last (xs : List D) (d : D) : kPop (xs ++ [d]) [] = some (xs, d) := by
  unfold kPop
  simp
end Mi
namespace Mi
open PySem PySem.Spec PyProof.Rows L2
open Da (toD)
variable [Tb]
/-! ### a name whose list is changed no more -/
def frzVar (i : Nat) : SM := fun ρ ω => match ρ[i]? with
  | some (some (.cell n)) => match ω[n]? with
    | some (.lst xs) => .next (ρ.set i (some (.lst xs))) (ω.set n .dead)
    | some (.dic ks xs) => .next (ρ.set i (some (.dic ks xs))) (ω.set n .dead)
    | _ => .stuck
  | _ => .next ρ ω
section
variable {X : Cx} {W : WX} {sts : List Stmt} {f : SM}
theorem set_same {α : Type} {xs : List α} {i : Nat} {a : α} (h : xs[i]? = some a) : xs.set i a = xs := by
  apply List.ext_getElem?
  intro j
  by_cases e : i = j
  · subst e; rw [List.getElem?_set_self (List.getElem?_eq_some_iff.mp h).1, h]
  · rw [List.getElem?_set_ne e]
theorem pss_lock {X : Cx} {sts : List Stmt} {t : TS} (h : PSs X sts t) : PSs X sts (fun D σ H => t D σ H ∨ ∃ a u, H a = some u ∧ Mut (some u) ∧ ∀ od, t D σ (upd H a (.frz od u))) := by
  refine ⟨fun pins s σ H D I hw => ?_⟩
  rcases hw with hw | ⟨a, u, hu, mu, hw⟩
  · exact h.run pins s σ H D I hw
  · obtain ⟨od, I2⟩ := I.lock hu mu
    exact h.run pins s σ _ D I2 (hw od)
theorem mss_frz (i : Nat) (h : MSs X W sts f) : MSs X W sts (sSeq (frzVar i) f) := by
  refine PSs.sub (pss_lock h) ?_
  rintro D σ H ⟨w, ρ, rfl, F, E, q⟩
  unfold sSeq frzVar at q
  cases z : ρ[i]? with
  | none => rw [z] at q; exact .inl ⟨w, ρ, rfl, F, E, q⟩
  | some o =>
    rw [z] at q
    cases o with
    | none => exact .inl ⟨w, ρ, rfl, F, E, q⟩
    | some d =>
      cases d with
      | cell n =>
        dsimp only at q
        obtain ⟨v, e1, r1⟩ := E.get i _ z
        cases r1 with
        | @cell _ a hn =>
          cases z2 : w.ω[n]? with
          | none => rw [z2] at q; exact q.no
          | some cc =>
            rw [z2] at q
            rcases F.live n a cc hn z2 with e | ⟨nS, ok⟩
            · subst e; exact q.no
            · cases cc with
              | dead => exact q.no
              | lst xs =>
                obtain ⟨vs, k1, k2, k3⟩ := ok
                obtain ⟨g2, F2⟩ := frz_world F hn (by rw [k1]; exact fun _ z => nomatch z)
                have E2 := (E.grow g2).set (i := i) (v := .ref a) (d := .lst xs) (.lst (.inr rfl) k1 k2 (g2.reps k3))
                rw [set_same e1] at E2
                exact .inl ⟨⟨fun x => w.S x ∨ x = a, w.μ, w.ω.set n .dead, w.H⟩, _, rfl, F2, E2, HoldsS.grow g2 q⟩
              | dic ks xs =>
                obtain ⟨kvs, k1, k2, rfl, k3⟩ := ok
                refine .inr ⟨a, _, k1, trivial, fun od => ?_⟩
                obtain ⟨g2, F2⟩ := frz_dict od F hn nS k1
                have E2 := (E.grow g2).set (i := i) (v := .ref a) (d := .dic (kvs.map (·.1)) xs) (.dic (.inr rfl) upd_same k2 (g2.reps k3))
                rw [set_same e1] at E2
                exact ⟨_, _, rfl, F2, E2, HoldsS.grow g2 q⟩
              | ins C fs => exact q.no
              | llst xs => exact q.no
              | ldic ks xs => exact q.no
      | _ => exact .inl ⟨w, ρ, rfl, F, E, q⟩
end
/-! ### list(zip(a, b)) of two lists -/
section
variable {X : Cx} {pins : List (Addr × Obj)} {σ : L2.St}
theorem zip_no_len : typeLookup (.type "zip") "__len__" = pure none := by rw [typeLookup_type, builtinLookup_eq_fast]; kernel_rfl
theorem zip_no_hint : typeLookup (.type "zip") "__length_hint__" = pure none := by rw [typeLookup_type, builtinLookup_eq_fast]; kernel_rfl
/-- the zip behind k pairs: the tuple that it gave out before is there -/
def ZipAt (h : Heap) (z TI TO i1 i2 l1 l2 : Addr) (k : Nat) : Prop :=
  (∃ o, h.get? TO = some o) ∧ IsPair h TI (.ref i1) (.ref i2) ∧ h.IsListIter i1 l1 k ∧ h.IsListIter i2 l2 k ∧ ((∃ a b, IsZip h z TI TO .none ∧ IsPair h TO a b) ∨ ∃ T f oT, IsZipHeld h z TI TO T f ∧ h.get? T = some oT ∧ T ≠ z ∧ T ≠ i1 ∧ T ≠ i2)
theorem zip_turn {A : Around} {s : Shared} {E : Value → Shared → Prop} {Q : Option Value → Shared → Prop} {z TI TO i1 i2 l1 l2 : Addr} {k : Nat} {xs ys : Array Value} {x y : Value} (D : ZipApart z TI TO i1 i2 l1 l2) (st : ZipAt s.heap z TI TO i1 i2 l1 l2 k)
    (hl1 : s.heap.IsList l1 xs) (hl2 : s.heap.IsList l2 ys) (hx : xs[k]? = some x) (hy : ys[k]? = some y)
    (hQ : ∀ h', ZipAt h' z TI TO i1 i2 l1 l2 (k + 1) → IsPair h' s.heap.objs.size x y → h'.objs.size = s.heap.objs.size + 1 → (∀ c o, c ≠ z → c ≠ TO → c ≠ i1 → c ≠ i2 → s.heap.get? c = some o → h'.get? c = some o) → Q (some (.ref s.heap.objs.size)) { s with heap := h' }) :
    wpAny (model X.prog X.w) A (pyNext (.ref z)) Q E s := by
  obtain ⟨⟨oO, hO⟩, hTI, h1, h2, h3⟩ := st
  have z1 : i1 < s.heap.objs.size := by obtain ⟨_, q, _⟩ := h1; exact Heap.lt_size q
  have z2 : i2 < s.heap.objs.size := by obtain ⟨_, q, _⟩ := h2; exact Heap.lt_size q
  rcases h3 with ⟨a, b, hz, hTO⟩ | ⟨T, f, oT, hz, hT, n1, n2, n3⟩
  · have z0 : z < s.heap.objs.size := Heap.lt_size hz
    exact wpAny_pyNext_zip_item D hz hTI hTO h1 h2 hl1 hl2 hx hy fun h' a1 a2 a3 a4 a5 a6 a7 => hQ h' ⟨⟨_, a2⟩, a7 _ _ D.TIz D.TITO D.TIi1 D.TIi2 hTI, a3, a4, .inr ⟨_, _, _, a1, a5, Nat.ne_of_gt z0, Nat.ne_of_gt z1, Nat.ne_of_gt z2⟩⟩ a5 a6 fun c o c1 c2 c3 c4 e => a7 c o c1 c2 c3 c4 e
  · exact wpAny_pyNext_zip_item_held D hz hT hTI h1 h2 hl1 hl2 hx hy fun h' a1 a3 a4 a5 a6 a7 => hQ h' ⟨⟨oO, a7 _ _ D.TOz D.TOi1 D.TOi2 hO⟩, a7 _ _ D.TIz D.TIi1 D.TIi2 hTI, a3, a4, .inr ⟨T, true, oT, a1, a7 _ _ n1 n2 n3 hT, n1, n2, n3⟩⟩ a5 a6 fun c o c1 c2 c3 c4 e => a7 c o c1 c3 c4 e
theorem zip_stop {A : Around} {s : Shared} {E : Value → Shared → Prop} {Q : Option Value → Shared → Prop} {z TI TO i1 i2 l1 l2 : Addr} {k : Nat} {xs ys : Array Value} (hh : A.handled = none) (D : ZipApart z TI TO i1 i2 l1 l2) (st : ZipAt s.heap z TI TO i1 i2 l1 l2 k)
    (hl1 : s.heap.IsList l1 xs) (hl2 : s.heap.IsList l2 ys) (hend : xs[k]? = none ∨ ys[k]? = none)
    (hQ : ∀ h', (∀ c o, c ≠ z → c ≠ TO → c ≠ i1 → c ≠ i2 → s.heap.get? c = some o → h'.get? c = some o) → Q none { s with heap := h' }) :
    wpAny (model X.prog X.w) A (pyNext (.ref z)) Q E s := by
  obtain ⟨⟨oO, hO⟩, hTI, h1, h2, h3⟩ := st
  rcases h3 with ⟨a, b, hz, hTO⟩ | ⟨T, f, oT, hz, hT, n1, n2, n3⟩
  · exact wpAny_pyNext_zip_end hh D hz hTI hTO h1 h2 hl1 hl2 hend hQ
  · exact wpAny_pyNext_zip_end_held hh D hz hT hTI h1 h2 hl1 hl2 hend fun h' k => hQ h' fun c o c1 c2 c3 c4 e => k c o c1 c3 c4 e
theorem ZipAt.keep {h h' : Heap} {z TI TO i1 i2 l1 l2 S : Addr} {k : Nat} (st : ZipAt h z TI TO i1 i2 l1 l2 k) (hk : ∀ b o, b ≠ S → h.get? b = some o → h'.get? b = some o) (nS : S ≠ z ∧ S ≠ TI ∧ S ≠ TO ∧ S ≠ i1 ∧ S ≠ i2) (hS : ∃ o, h'.get? S = some o) : ZipAt h' z TI TO i1 i2 l1 l2 k := by
  obtain ⟨n1, n2, n3, n4, n5⟩ := nS
  obtain ⟨⟨oO, hO⟩, hTI, h1, h2, h3⟩ := st
  refine ⟨⟨oO, hk _ _ (Ne.symm n3) hO⟩, hk _ _ (Ne.symm n2) hTI, h1.at fun o e => hk _ o (Ne.symm n4) e, h2.at fun o e => hk _ o (Ne.symm n5) e, ?_⟩
  rcases h3 with ⟨a, b, hz, hTO⟩ | ⟨T, f, oT, hz, hT, m1, m2, m3⟩
  · exact .inl ⟨a, b, hk _ _ (Ne.symm n1) hz, hk _ _ (Ne.symm n3) hTO⟩
  · by_cases e : T = S
    · obtain ⟨o, ho⟩ := hS
      exact .inr ⟨T, f, o, hk _ _ (Ne.symm n1) hz, e ▸ ho, m1, m2, m3⟩
    · exact .inr ⟨T, f, oT, hk _ _ (Ne.symm n1) hz, hk _ _ e hT, m1, m2, m3⟩
/-- what list(zip(..)) asks of the turns: J i acc H, the list so far at S -/
def rLz (K : PySem.W.Frag) (vs : List V) (H : Hp) (Q : VK) : Prop := ∃ (a b : Addr) (xs ys : List V), vs = [.ref a, .ref b] ∧ SqL K H a xs ∧ SqL K H b ys ∧ ∀ S, H S = none → ∃ J : Nat → List V → Hp → Prop, J 0 [] (upd H S (.lst [])) ∧
  (∀ i acc H', J i acc H' → H' S = some (.lst acc) ∧ acc.length ≤ i ∧ SqL K H' a xs ∧ SqL K H' b ys) ∧
  (∀ i acc H' x y T, J i acc H' → xs[i]? = some x → ys[i]? = some y → H' T = none → J (i + 1) (acc ++ [.ref T]) (upd (upd H' T (.tup [x, y])) S (.lst (acc ++ [.ref T])))) ∧
  (∀ i acc H', J i acc H' → (xs[i]? = none ∨ ys[i]? = none) → Q (.ref S) H')
theorem lz_loop (hc : X.calm = true) {A : Around} (hh : A.handled = none) {R : Result → Shared → Prop} {z TI TO i1 i2 a b S : Addr} {xs ys : List V} {J : Nat → List V → Hp → Prop} {Q : VK} (D : ZipApart z TI TO i1 i2 a b)
    (nS : S ≠ z ∧ S ≠ TI ∧ S ≠ TO ∧ S ≠ i1 ∧ S ≠ i2)
    (j1 : ∀ i acc H', J i acc H' → H' S = some (.lst acc) ∧ acc.length ≤ i ∧ SqL X.K H' a xs ∧ SqL X.K H' b ys)
    (j2 : ∀ i acc H' x y T, J i acc H' → xs[i]? = some x → ys[i]? = some y → H' T = none → J (i + 1) (acc ++ [.ref T]) (upd (upd H' T (.tup [x, y])) S (.lst (acc ++ [.ref T]))))
    (j3 : ∀ i acc H', J i acc H' → (xs[i]? = none ∨ ys[i]? = none) → Q (.ref S) H')
    (fin : ∀ H' s', Inv X pins σ H' s' → Q (.ref S) H' → R (.ok (.ret .none)) s') :
    ∀ (k i : Nat) (acc : List V) (H : Hp) (s : Shared), xs.length - i = k → Inv X pins σ H s → J i acc H → ZipAt s.heap z TI TO i1 i2 a b i → (∀ c ∈ [z, TO, i1, i2], FpOk X pins H c) →
      codeAny (model X.prog X.w) A (.builtin "list.extend.loop" ⟨[.ref S, .ref z, .none], []⟩) R s := by
  intro k
  induction k with
  | zero =>
    intro i acc H s ek I hJ st hf
    obtain ⟨hS, hl, q1, q2⟩ := j1 i acc H hJ
    obtain ⟨its1, rv1, p1, hz1⟩ := I.list q1
    obtain ⟨its2, rv2, p2, hz2⟩ := I.list q2
    have l1 := rv1.length
    refine codeAny_builtin F.entry_extend_loop ?_
    rw [Around.under_plainId F.plain_extend_loop _]
    show wpAny _ A.in1 (pyNext (.ref z) >>= _) _ _ s
    refine wpAny_bind (zip_stop (X := X) (A := A.in1) hh D st p1.isList p2.isList (.inl (by simp; omega)) fun h' hk => wpAny_pure ?_)
    refine fin H _ (Inv.turnedL (t' := s.toks) (ch := [z, TO, i1, i2]) I (fun c o hc e => ?_) hf) (j3 i acc H hJ (.inl (by rw [List.getElem?_eq_none]; omega)))
    simp only [List.mem_cons, List.not_mem_nil, or_false, not_or] at hc
    exact hk c o hc.1 hc.2.1 hc.2.2.1 hc.2.2.2 e
  | succ k ih =>
    intro i acc H s ek I hJ st hf
    obtain ⟨hS, hl, q1, q2⟩ := j1 i acc H hJ
    obtain ⟨its1, rv1, p1, hz1⟩ := I.list q1
    obtain ⟨its2, rv2, p2, hz2⟩ := I.list q2
    have l1 := rv1.length
    have hi : i < xs.length := by omega
    obtain ⟨u1, hu1, ru1⟩ := rv1.get (List.getElem?_eq_getElem hi)
    refine codeAny_builtin F.entry_extend_loop ?_
    rw [Around.under_plainId F.plain_extend_loop _]
    show wpAny _ A.in1 (pyNext (.ref z) >>= _) _ _ s
    by_cases h2 : i < ys.length
    · obtain ⟨u2, hu2, ru2⟩ := rv2.get (List.getElem?_eq_getElem h2)
      refine wpAny_bind (zip_turn (X := X) (A := A.in1) D st p1.isList p2.isList (x := u1) (y := u2) (by simpa using hu1) (by simpa using hu2) fun h' st' hp hsz hk => ?_)
      have kk : ∀ c o, c ∉ [z, TO, i1, i2] → s.heap.get? c = some o → h'.get? c = some o := fun c o hc e => by
        simp only [List.mem_cons, List.not_mem_nil, or_false, not_or] at hc
        exact hk c o hc.1 hc.2.1 hc.2.2.1 hc.2.2.2 e
      have new : ObjOk X.prog X.w (upd H s.heap.objs.size (.tup [xs[i], ys[i]])) h' s.heap.objs.size (.tup [xs[i], ys[i]]) :=
        ⟨by show 2 ≤ sizeLine; decide, [u1, u2], .cons ru1 (.cons ru2 .nil), ⟨_, hp, rfl, _, rfl⟩⟩
      have hT : H s.heap.objs.size = none := I.hok.fresh (Nat.le_refl _)
      have I1 : Inv X pins σ (upd H s.heap.objs.size (.tup [xs[i], ys[i]])) { s with heap := h', toks := s.toks } := I.turnedNew (ch := [z, TO, i1, i2]) kk hf (Nat.le_refl _) new
      have hne : S ≠ s.heap.objs.size := ne_of_none hS hT
      have hS1 : upd H s.heap.objs.size (.tup [xs[i], ys[i]]) S = some (.lst acc) := by rw [upd_ne hne]; exact hS
      obtain ⟨hzS, itsS, nn, rS, hlS, eS⟩ := I1.lstM hS1
      have hacc : acc.length < sizeLine := by omega
      show wpAny _ A.in1 (updateSeq S (·.push (.ref s.heap.objs.size)) >>= _) _ _ _
      refine wpAny_bind (wpAny_updateSeq eS rfl (wpAny_pure ⟨plainId_quiet F.plain_extend_loop _, ?_⟩) (by rw [List.size_toArray]; omega) (by show (itsS.toArray.push _).size ≤ sizeLine + 1; rw [Array.size_push, List.size_toArray]; omega))
      have I2 := I1.lset (t' := s.toks) (f := (·.push (.ref s.heap.objs.size))) (its' := itsS ++ [.ref s.heap.objs.size]) (ys := acc ++ [.ref s.heap.objs.size]) hS1 eS (by simp) (rS.append (.cons (show RelV (.ref s.heap.objs.size) (.ref s.heap.objs.size) from rfl) .nil)) (by rw [List.length_append]; exact hacc)
      refine ih (i + 1) (acc ++ [.ref s.heap.objs.size]) _ _ (by omega) I2 (j2 i acc H _ _ _ hJ (List.getElem?_eq_getElem hi) (List.getElem?_eq_getElem h2) hT) (st'.keep (S := S) (fun b o hb e => (Heap.get?_update_other _ _ (Ne.symm hb)).trans e) nS ?_) fun c hc => ?_
      · exact ⟨_, Heap.get?_update_self _ eS rfl⟩
      · obtain ⟨f0, f1⟩ := hf c hc
        have hlt : c ≠ s.heap.objs.size := fun e => by
          have : ∃ o, s.heap.get? c = some o := by
            obtain ⟨hO, hTI, h1, h2', h3⟩ := st
            simp only [List.mem_cons, List.not_mem_nil, or_false] at hc
            rcases hc with rfl | rfl | rfl | rfl
            · rcases h3 with ⟨_, _, hz, _⟩ | ⟨_, _, _, hz, _⟩ <;> exact ⟨_, hz⟩
            · exact hO
            · obtain ⟨o, q, _⟩ := h1; exact ⟨o, q⟩
            · obtain ⟨o, q, _⟩ := h2'; exact ⟨o, q⟩
          obtain ⟨o, ho⟩ := this
          exact absurd (Heap.lt_size ho) (by rw [e]; exact Nat.lt_irrefl _)
        have hcS : c ≠ S := fun e => by rw [e, hS] at f0; cases f0
        refine ⟨?_, f1⟩
        rw [upd_ne hcS, upd_ne hlt]; exact f0
    · refine wpAny_bind (zip_stop (X := X) (A := A.in1) hh D st p1.isList p2.isList (.inr (by have := rv2.length; simp; omega)) fun h' hk => wpAny_pure ?_)
      refine fin H _ (Inv.turnedL (t' := s.toks) (ch := [z, TO, i1, i2]) I (fun c o hc e => ?_) hf) (j3 i acc H hJ (.inr (by rw [List.getElem?_eq_none]; omega)))
      simp only [List.mem_cons, List.not_mem_nil, or_false, not_or] at hc
      exact hk c o hc.1 hc.2.1 hc.2.2.1 hc.2.2.2 e
theorem listZip_call (hc : X.calm = true) {H : Hp} {s : Shared} {z TI TO i1 i2 a b : Addr} {xs ys : List V} {Q : VK} (I : Inv X pins σ H s) (D : ZipApart z TI TO i1 i2 a b) (hz0 : IsZip s.heap z TI TO .none) (st : ZipAt s.heap z TI TO i1 i2 a b 0) (hf : ∀ c ∈ [z, TO, i1, i2], FpOk X pins H c)
    (hlt : z < s.heap.objs.size ∧ TI < s.heap.objs.size ∧ TO < s.heap.objs.size ∧ i1 < s.heap.objs.size ∧ i2 < s.heap.objs.size)
    (q : ∀ S, H S = none → ∃ J : Nat → List V → Hp → Prop, J 0 [] (upd H S (.lst [])) ∧
      (∀ i acc H', J i acc H' → H' S = some (.lst acc) ∧ acc.length ≤ i ∧ SqL X.K H' a xs ∧ SqL X.K H' b ys) ∧
      (∀ i acc H' x y T, J i acc H' → xs[i]? = some x → ys[i]? = some y → H' T = none → J (i + 1) (acc ++ [.ref T]) (upd (upd H' T (.tup [x, y])) S (.lst (acc ++ [.ref T])))) ∧
      (∀ i acc H', J i acc H' → (xs[i]? = none ∨ ys[i]? = none) → Q (.ref S) H')) :
    wpAny (model X.prog X.w) X.A (call (.type "list") [.ref z]) (EP X pins σ Q) X.xe s := by
  have hS0 : H s.heap.objs.size = none := I.hok.fresh (Nat.le_refl _)
  obtain ⟨J, j0, j1, j2, j3⟩ := q _ hS0
  have nS : s.heap.objs.size ≠ z ∧ s.heap.objs.size ≠ TI ∧ s.heap.objs.size ≠ TO ∧ s.heap.objs.size ≠ i1 ∧ s.heap.objs.size ≠ i2 := ⟨Nat.ne_of_gt hlt.1, Nat.ne_of_gt hlt.2.1, Nat.ne_of_gt hlt.2.2.1, Nat.ne_of_gt hlt.2.2.2.1, Nat.ne_of_gt hlt.2.2.2.2⟩
  refine callType_codes (Q₁ := fun obj s₁ => obj = .ref s.heap.objs.size ∧ s₁ = { s with heap := s.heap.push { cls := .type "list", data := .seq #[] } }) F.called_list (F.typeCall_list_1 _) F.entry_list_init
    (code_list_new _ ⟨rfl, rfl⟩) fun obj s₁ h₁ => ?_
  obtain ⟨rfl, rfl⟩ := h₁
  have hS : (s.heap.push { cls := .type "list", data := .seq #[] }).get? s.heap.objs.size = some { cls := .type "list", data := .seq #[] } := Heap.get?_push_size _ rfl
  refine ⟨⟨_, hS, rfl⟩, F.args_list_init_2 _ _, ?_⟩
  have I1 : Inv X pins σ (upd H s.heap.objs.size (.lst [])) { s with heap := s.heap.push { cls := .type "list", data := .seq #[] }, toks := s.toks } := I.laid (fun b u e => Heap.get?_push_of_some _ e) (Nat.le_refl _) ⟨Nat.zero_le _, [], 0, .nil, hS⟩
  have e1 : upd H s.heap.objs.size (.lst []) s.heap.objs.size = some (.lst []) := upd_same
  show wpAny _ X.A.in1.in1 (do let old ← Builtin.List.listItems (.ref s.heap.objs.size); Builtin.List.listUpdate (.ref s.heap.objs.size) (fun _ => #[]); letGo old.toList.reverse; Builtin.List.listExtendWith (.ref s.heap.objs.size) (.ref z) .none) _ _ _
  refine wpAny_bind ?_
  unfold Builtin.List.listItems
  refine wpAny_bind (wpAny_seqItems hS rfl (wpAny_pure ?_))
  show wpAny _ X.A.in1.in1 (updateSeq s.heap.objs.size (fun _ => #[]) >>= fun _ => letGo (#[] : Array Value).toList.reverse >>= fun _ => Builtin.List.listExtendWith (.ref s.heap.objs.size) (.ref z) .none) _ _ _
  refine wpAny_bind (wpAny_updateSeq hS rfl ?_)
  have hS2 := Heap.get?_update_self (Obj.mapSeq (fun _ => (#[] : Array Value))) hS rfl
  have up : ∀ (h : Heap) (f : Obj → Obj), (∀ b o, b ≠ s.heap.objs.size → s.heap.get? b = some o → h.get? b = some o) → ∀ b o, b ≠ s.heap.objs.size → s.heap.get? b = some o → (h.update s.heap.objs.size f).get? b = some o := fun h f q b o hb e =>
    (Heap.get?_update_other _ _ (Ne.symm hb)).trans (q b o hb e)
  have k1 : ∀ b o, b ≠ s.heap.objs.size → s.heap.get? b = some o → (s.heap.push { cls := .type "list", data := .seq #[] }).get? b = some o := fun b o _ e => Heap.get?_push_of_some _ e
  have k2 := up _ (Obj.mapSeq (fun _ => (#[] : Array Value))) k1
  have I2 := I1.lset (t' := s.toks) (f := fun _ => (#[] : Array Value)) (its := []) (its' := []) (ys := []) e1 hS rfl .nil (Nat.zero_le _)
  refine wpAny_bind (wpAny_letGo ?_)
  unfold Builtin.List.listExtendWith
  have hT : ∀ h' : Heap, IsZip h' z TI TO .none → Shared.TypeIs { s with heap := h' } (.ref z) "zip" := fun h' e => ⟨_, e, rfl⟩
  have hzz := k2 _ _ (Ne.symm nS.1) hz0
  refine wpAny_bind (wpAny_typeOf (hT _ hzz) ?_)
  have h1 : Builtin.List.listSameRef (.ref s.heap.objs.size) (.ref z) = false := by simp [Builtin.List.listSameRef, nS.1]
  have h2 : (Value.type "zip" == Value.type "list") = false := by decide
  have h3 : (Value.type "zip" == Value.type "tuple") = false := by decide
  simp only [h1, h2, h3, Bool.or_false, Bool.false_eq_true, if_false]
  refine wpAny_bind (wpAny_pyIter_zip hzz ?_)
  refine wpAny_bind (wpAny_holding ?_)
  unfold Builtin.List.listLengthHint
  refine wpAny_bind (wpAny_specialOf (hT _ hzz) zip_no_len ?_)
  show wpAny _ X.A.in1.in1 (specialOf (Value.ref z) (Str.ofString "__length_hint__") >>= _) _ _ _
  refine wpAny_bind (wpAny_specialOf (hT _ hzz) zip_no_hint ?_)
  refine wpAny_pure ?_
  show wpAny _ X.A.in1.in1 (rule "list.extend.makes-room" >>= fun _ => Builtin.List.listTouch (.ref s.heap.objs.size) >>= fun _ =>
    again (.builtin "list.extend.loop" ⟨[.ref s.heap.objs.size, .ref z, .none], []⟩)) _ _ _
  refine wpAny_bind (wpAny_rule ?_)
  refine wpAny_bind ?_
  show wpAny _ X.A.in1.in1 (updateSeq s.heap.objs.size (·.push .none) >>= fun _ => updateSeq s.heap.objs.size (·.pop)) _ _ _
  refine wpAny_bind (wpAny_updateSeq hS2 rfl ?_)
  have hS3 := Heap.get?_update_self (Obj.mapSeq (·.push Value.none)) hS2 rfl
  refine wpAny_updateSeq (hz := by seq_fits) hS3 rfl ?_
  have hS4 := Heap.get?_update_self (Obj.mapSeq (·.pop)) hS3 rfl
  have k3 := up _ (Obj.mapSeq (·.push Value.none)) k2
  have k4 := up _ (Obj.mapSeq (·.pop)) k3
  have uu : ∀ (H : Hp) (p : Addr) (o o' : HO), upd (upd H p o) p o' = upd H p o' := fun H p o o' => by
    funext c
    by_cases e : c = p
    · rw [e, upd_same, upd_same]
    · rw [upd_ne e, upd_ne e, upd_ne e]
  rw [uu] at I2
  have I3 := I2.lset (t' := s.toks) (f := (·.push Value.none)) (its := []) (its' := [.none]) (ys := [.non]) e1 hS2 rfl (.cons (show RelV .non .none from rfl) .nil) (by show 1 ≤ sizeLine; decide)
  rw [uu] at I3
  have I4 := I3.lset (t' := s.toks) (f := (·.pop)) (its := [.none]) (its' := []) (ys := []) upd_same hS3 rfl .nil (Nat.zero_le _)
  rw [uu] at I4
  refine wpAny_pure ⟨plainId_quiet F.plain_extend_loop _, lz_loop (X := X) (A := X.A.in1) (Q := Q) hc (I.ok.hd hc) D nS j1 j2 j3 (fun H' s' I' q' => ⟨rfl, .ref s.heap.objs.size, H', I', rfl, q'⟩) xs.length 0 [] _ _ rfl I4 j0 (st.keep (S := s.heap.objs.size) k4 nS ⟨_, hS4⟩) fun c hc' => ?_⟩
  obtain ⟨f0, f1⟩ := hf c hc'
  have hcS : c ≠ s.heap.objs.size := by
    simp only [List.mem_cons, List.not_mem_nil, or_false] at hc'
    rcases hc' with rfl | rfl | rfl | rfl
    · exact Ne.symm nS.1
    · exact Ne.symm nS.2.2.1
    · exact Ne.symm nS.2.2.2.1
    · exact Ne.symm nS.2.2.2.2
  refine ⟨?_, f1⟩
  rw [upd_ne hcS]; exact f0
theorem pe_listZip {ea eb : Expr} {ta : TA} {p p2 pos pos2 : Pos} (hc : X.calm = true) (hg : Gl X "list") (hm : X.mg "list" = none) (hg2 : Gl X "zip") (hm2 : X.mg "zip" = none) (ha : PA X [ea, eb] ta)
    (hs : starEach [ea, eb] X.env = (false, eval ea X.env) :: starEach [eb] X.env := by rfl) (hpl : (backTo pos2 (starEach [eb] X.env)).any (·.1) = false := by rfl)
    (hs2 : starEach [.Call (.Name "zip" p2) [ea, eb] [] pos2] X.env = (false, eval (.Call (.Name "zip" p2) [ea, eb] [] pos2) X.env) :: starEach [] X.env := by rfl) :
    PE X (.Call (.Name "list" p) [.Call (.Name "zip" p2) [ea, eb] [] pos2] [] pos) (fun σ H Q => ta σ H fun vs H1 => rLz X.K vs H1 Q) := by
  refine ⟨fun pins s σ H Q I h => ?_⟩
  refine Call_ (ld_blt I hg hm boot_list (PyProof.Rows.callWith_type1 (args_cons (Call_ (ld_blt I hg2 hm2 PyProof.Rows.boot_zip (PyProof.Rows.callWith_type1 (thn (ha.run pos2 pins s σ H _ I h) fun us s1 ⟨vs, H1, I1, r1, q1⟩ => ?_) hs hpl))) hs2) hs2 rfl))
  obtain ⟨a, b, xs, ys, ex, hqx, hqy, q⟩ := q1
  subst ex
  cases r1 with
  | cons r rr =>
    cases rr with
    | cons r' rr =>
      cases rr
      cases r
      cases r'
      obtain ⟨its, rv, p1, _⟩ := I1.list hqx
      obtain ⟨its2, rv2, p2, _⟩ := I1.list hqy
      refine call_zip_2 p1.isList p2.isList fun h' hz hTI hTO h1 h2 hsz hk => args_nil ?_
      have I2 : Inv X pins σ H1 { s1 with heap := h' } := I1.kept (t' := s1.toks) hk
      refine listZip_call hc I2 (PySem.W.ktu_apart s1.heap.objs.size a b p1.lt p2.lt) hz ⟨⟨_, hTO⟩, hTI, h1, h2, .inl ⟨_, _, hz, hTO⟩⟩ (fun c hcm => ?_) ?_ q
      · have e' : c = s1.heap.objs.size + 4 ∨ c = s1.heap.objs.size + 3 ∨ c = s1.heap.objs.size ∨ c = s1.heap.objs.size + 1 := by simpa using hcm
        have hle : s1.heap.objs.size ≤ c := by
          rcases e' with z | z | z | z
          · rw [z]; exact Nat.le_add_right _ _
          · rw [z]; exact Nat.le_add_right _ _
          · rw [z]; exact Nat.le_refl _
          · rw [z]; exact Nat.le_add_right _ _
        exact I1.fpOk hle (I1.hok.fresh hle)
      · show _ < h'.objs.size ∧ _ < h'.objs.size ∧ _ < h'.objs.size ∧ _ < h'.objs.size ∧ _ < h'.objs.size
        rw [hsz]
        refine ⟨?_, ?_, ?_, ?_, ?_⟩ <;> first | exact Nat.lt_succ_self _ | exact Nat.lt_add_of_pos_right (by decide) | exact Nat.add_lt_add_left (by decide) _
end
section
variable {X : Cx} {W : WX} {a b : Expr} {es : List Expr} {fs : Env → M (List D)} {f g : Env → M D} {pos p p2 pos2 : Pos}
/-- a list that was laid beside the world is shared -/
theorem side_end {K : PySem.W.Frag} {w1 w' : Wd} {S : Addr} {acc : List V} {ys : List D} (hS : w1.H S = none) (gr : Grow w1 w') (F : Fits K w') (at_ : w'.H S = some (.lst acc)) (nS : ¬ w'.S S) (nm : S ∉ w'.μ) (r : w'.reps K acc ys) (hz : acc.length ≤ sizeLine) :
    ∃ wf : Wd, wf.H = w'.H ∧ wf.ω = w'.ω ∧ Grow w1 wf ∧ Fits K wf ∧ wf.rep K (.ref S) (.lst ys) := by
  let wf : Wd := { w' with S := fun a => w'.S a ∨ a = S }
  have gf : Grow w1 wf := ⟨fun a h => .inl (gr.S a h), fun a h => h.elim (fun z => gr.S' a z) fun z => .inr (.inl (by rw [z]; exact hS)), gr.μ, gr.μ', gr.fr, gr.fz, gr.tb⟩
  have rf : ∀ vs ds, w'.reps K vs ds → wf.reps K vs ds := fun vs ds r => Reps.mono (fun _ h => .inl h) (fun _ _ h => h) (fun _ _ _ h => h) r
  have ff : Fits K wf := ⟨F.len, F.nd, fun a h => h.elim (F.dom a) (fun z => by show w'.H a ≠ none; rw [z, at_]; exact fun z => nomatch z), F.domμ, fun n a c h1 h2 => by
    rcases F.live n a c h1 h2 with h | ⟨h, h'⟩
    · exact .inl h
    · exact .inr ⟨fun z => z.elim h fun e => nm (e ▸ List.mem_of_getElem? h1), h'.mono rfl rf⟩, F.tabs, fun a ps h => h.elim (F.nt a ps) fun z => by rw [z]; show w'.H S ≠ _; rw [at_]; exact fun z => nomatch z⟩
  exact ⟨wf, rfl, rfl, gf, ff, .lst (.inr rfl) at_ hz (rf _ _ r)⟩
theorem zipD_take (xs ys : List D) (i : Nat) {x y : D} (hx : xs[i]? = some x) (hy : ys[i]? = some y) : (zipD xs ys).take (i + 1) = (zipD xs ys).take i ++ [.tup [x, y]] := by
  rw [List.take_add_one]
  congr 1
  have hl : i < (zipD xs ys).length := by
    rw [zipD_len]
    have h1 := (List.getElem?_eq_some_iff.mp hx).1
    have h2 := (List.getElem?_eq_some_iff.mp hy).1
    omega
  rw [List.getElem?_eq_getElem hl]
  obtain ⟨x', y', e1, e2, e3⟩ := zipD_get xs ys i _ (List.getElem?_eq_getElem hl)
  rw [hx] at e1; cases e1
  rw [hy] at e2; cases e2
  rw [e3]; rfl
@[simp] def oLZ : D → D → M D
  | .lst xs, .lst ys => M.ret (.lst (zipD xs ys))
  | _, _ => M.stuck
theorem me_listZip (hc : X.calm = true) (hg : Gl X "list") (hm : X.mg "list" = none) (hg2 : Gl X "zip") (hm2 : X.mg "zip" = none) (ha : MA X W [a, b] fs)
    (hs : starEach [a, b] X.env = (false, eval a X.env) :: starEach [b] X.env := by rfl) (hpl : (backTo pos2 (starEach [b] X.env)).any (·.1) = false := by rfl)
    (hs2 : starEach [.Call (.Name "zip" p2) [a, b] [] pos2] X.env = (false, eval (.Call (.Name "zip" p2) [a, b] [] pos2) X.env) :: starEach [] X.env := by rfl) :
    ME X W (.Call (.Name "list" p) [.Call (.Name "zip" p2) [a, b] [] pos2] [] pos) (eN (two oLZ) fs) := by
  refine PE.sub (pe_listZip hc hg hm hg2 hm2 ha hs hpl hs2) ?_
  rintro σ H Q ⟨w, ρ, rfl, F, E, h⟩
  refine ⟨w, ρ, rfl, F, E, Holds.thn h fun ds w1 g1 F1 h1 vs rs => two_thn h1 rs fun v v' d d' ev r r' q2 => ?_⟩
  subst ev
  cases r with
  | @lst ad us ds h1 h2 h3 h4 => cases r' with
    | @lst bd us' es k1 k2 k3 k4 =>
      refine ⟨ad, bd, us, us', rfl, .of h2, .of k2, fun S hS => ⟨fun i acc H' => ∃ w', w'.H = H' ∧ Grow w1 w' ∧ Fits X.K w' ∧ w'.ω = w1.ω ∧ w'.H S = some (.lst acc) ∧ ¬ w'.S S ∧ S ∉ w'.μ ∧ w'.reps X.K acc ((zipD ds es).take i) ∧ acc.length = i ∧ i ≤ us.length, ?_, ?_, ?_, ?_⟩⟩
      · have nS : ¬ w1.S S := fun h => F1.dom S h hS
        have nm : S ∉ w1.μ := fun h => F1.domμ S h hS
        exact ⟨{ w1 with H := upd w1.H S (.lst []) }, rfl, side_grow (K := X.K) (Grow.refl w1) hS, side_fits F1 nS nm (by rw [hS]; exact noTab_none), rfl, upd_same, nS, nm, by simp; exact .nil, rfl, Nat.zero_le _⟩
      · rintro i acc H' ⟨w', rfl, g', F', eω, at_, nS, nm, rr, hl, hi⟩
        exact ⟨at_, by omega, .of (g'.fr ad _ h2 (.inl h1)), .of (g'.fr bd _ k2 (.inl k1))⟩
      · rintro i acc H' x y T ⟨w', rfl, g', F', eω, at_, nS, nm, rr, hl, hi⟩ hx hy hT
        obtain ⟨dx, ex, rx⟩ := (g'.reps h4).get' hx
        obtain ⟨dy, ey, ry⟩ := (g'.reps k4).get' hy
        have hne : S ≠ T := ne_of_none at_ hT
        have gl := lay_grow (w := w') (o := .tup [x, y]) hT
        have nS2 : ¬ (w'.lay T (.tup [x, y])).S S := fun z => z.elim nS hne
        have fl := lay_fits (K := X.K) (o := .tup [x, y]) F' hT (fun _ z => nomatch z)
        refine ⟨{ w'.lay T (.tup [x, y]) with H := upd (upd w'.H T (.tup [x, y])) S (.lst (acc ++ [.ref T])) }, rfl, side_grow (K := X.K) (g'.trans gl) hS, side_fits fl nS2 nm (by show NoTab (upd w'.H T (.tup [x, y]) S); rw [upd_ne hne, at_]; exact noTab_lst), eω, upd_same, nS2, nm, ?_, by simp [hl], ?_⟩
        · rw [zipD_take ds es i ex ey]
          refine side_reps nS2 ((gl.reps rr).append (.cons ?_ .nil))
          exact .tup (.inr rfl) upd_same (by show 2 ≤ sizeLine; decide) (.cons (gl.rep rx) (.cons (gl.rep ry) .nil))
        · exact (List.getElem?_eq_some_iff.mp hx).1
      · rintro i acc H' ⟨w', rfl, g', F', eω, at_, nS, nm, rr, hl, hi⟩ hend
        have hall : (zipD ds es).take i = zipD ds es := by
          refine List.take_of_length_le ?_
          rw [zipD_len, ← h4.length, ← k4.length]
          rcases hend with e | e
          · have := List.getElem?_eq_none_iff.mp e; omega
          · have := List.getElem?_eq_none_iff.mp e; omega
        rw [hall] at rr
        obtain ⟨wf, e1, e2, gf, ff, rf⟩ := side_end hS g' F' at_ nS nm rr (by omega)
        rw [← e1]
        exact q2 wf gf ff (e2.trans eω) _ rf
    | _ => exact q2.no
  | _ => exact q2.no
end
end Mi
namespace Mi
open PySem PySem.Spec PyProof.Rows L2
open Da (toD)
variable [Tb]
/-- a def that calls itself: no turn is left -/
theorem fn_stuck {P : Program} {w : World} {K : PySem.W.Frag} {mg : Str → Option Value} {base : Heap} {k n : Nat} {f : Addr} {fd : FuncData} {ps : List Str} : FnOk P w K mg base (L2.CX P w) k f fd ps (spF K mg n fun _ => .stuck) :=
  ⟨fun vs H Q E h => by obtain ⟨_, _, _, _, _, z⟩ := h; exact z.elim, fun A outer s H args us vs Q E _ _ _ _ h => by obtain ⟨_, _, _, _, _, z⟩ := h; exact z.elim⟩
end Mi
namespace Mi
open PySem PySem.Spec PyProof.Rows L2
variable [Tb]

/-! ### sorted(set(..)) of a list or a tuple of ints -/
section
variable {P : Program} {w : World} {A : Around} {E : Value → Shared → Prop} {s : Shared}
abbrev bareSet (w : World) : Obj := { cls := .type "set", dict := none, data := .set #[] 0 (.fresh 0 0 (!w.params.followText "set-order")) }
/-- what a set made of ns looks like: at the old heap's end -/
abbrev SetMade (w : World) (s : Shared) (ns : List Int) (E1 : Value → Shared → Prop) : Prop :=
  ∀ (h' : Heap) (tk c : Nat), SetR w h' s.heap.objs.size (fun j => decide (j ∈ ns)) c → c ≤ ns.length → (∀ b o, s.heap.get? b = some o → h'.get? b = some o) → E1 (.ref s.heap.objs.size) { s with heap := h', toks := tk }
theorem set_of_list {l : Addr} {xs : Array Value} (ns : List Int) {Q : Value → Shared → Prop} (calm : A.handled = none) (hl : s.heap.IsList l xs) (hx : IntsAre xs.toList ns) (room : ns.length + 1 < scanBound)
    (fin : SetMade w s ns Q) : wpAny (model P w) A (call (.type "set") [.ref l]) Q E s := by
  have hlen : xs.size = ns.length := by have q := hx.length; rwa [Array.length_toList] at q
  obtain ⟨c, tl, q1⟩ := F.called_set.mro
  have q2 := F.called_set.made
  have q3 := F.called_set.sub
  refine wpAny_call (codeAny_of_tree ?_)
  show wpAny _ _ (callAny (.type "set") _) _ _ _
  refine wpAny_pure ⟨Code.quiet_builtin _ (by decide +kernel), codeAny_builtin F.entry_type_call ?_⟩
  rw [Around.under_plain (weight_type_call_type "set" [.ref l] []) rfl]
  have q4 := F.called_set.notType
  have q5 := F.called_set.canCreate
  have q6 := F.typeCall_set_1 (.ref l)
  repeat (any_goals (first | assumption | wp_step))
  have new1 := code_set_led1 (P := P) (w := w) (A := A.in1) (s := s) (.ref l) (E := E) (Q₁ := fun v t => v = .ref s.heap.objs.size ∧ t = { s with heap := s.heap.push (bareSet w) }) ⟨rfl, rfl⟩
  refine codeAny_mono new1 fun r t hr => ?_
  cases r with
  | error e => exact hr
  | ok fl =>
    cases fl with
    | ret v =>
      obtain ⟨rfl, rfl⟩ := hr
      have at0 : (s.heap.push (bareSet w)).get? s.heap.objs.size = some (bareSet w) := Heap.get?_push_size _ rfl
      have ty0 : Shared.TypeIs { s with heap := s.heap.push (bareSet w) } (.ref s.heap.objs.size) "set" := ⟨_, at0, rfl⟩
      have q7 := F.called_set.init.lookup
      have q8 := F.called_set.init.bind (.ref s.heap.objs.size)
      repeat (any_goals (first | assumption | wp_step))
      refine codeAny_mono (codeAny_call_builtin (R := wants (fun v t => v = .none ∧ ∃ h' tk c, t = { s with heap := h', toks := tk } ∧ SetR w h' s.heap.objs.size (fun j => decide (j ∈ ns)) c ∧ c ≤ ns.length ∧
        (∀ b o, s.heap.get? b = some o → h'.get? b = some o)) E) F.called_set.init.plain F.entry_set_init (check_set_init_1 ty0 ?_)) fun r2 t2 hr2 => ?_
      · obtain ⟨ol, e1, e2, nl, e3⟩ := hl
        obtain ⟨oc, od, oda, osl⟩ := ol
        dsimp only at e2 e3
        subst e2; subst e3
        have e1' : (s.heap.push (bareSet w)).get? l = some { cls := .type "list", dict := od, data := .seq xs nl, slots := osl } := Heap.get?_push_of_some _ e1
        have q9 := F.sub_list_set
        have q10 := F.sub_list_frozenset
        have q11 : (Value.type "list" == Value.type "dict") = false := by decide
        have hl1 : (s.heap.push (bareSet w)).IsList l xs := ⟨_, e1', rfl, nl, rfl⟩
        unfold Builtin.«set.__init__» noKeywords Builtin.Frozenset.updateFrom
        generalize hPI : pyIter = PI
        wp_walk
        subst hPI
        refine wpAny_pyIter_list hl1 ?_
        refine wpAny_bind (wpAny_runValue ?_)
        have lt0 : l < s.heap.objs.size := Heap.lt_size e1
        have calm3 : A.in1.in1.in1.handled = none := by simp [calm]
        have ne1 : l ≠ (s.heap.push (bareSet w)).objs.size := by rw [Heap.size_push]; exact Nat.ne_of_lt (Nat.lt_succ_of_lt lt0)
        have ne2 : s.heap.objs.size ∉ [(s.heap.push (bareSet w)).objs.size, l] := by
          rw [Heap.size_push]
          intro z
          rcases List.mem_cons.mp z with z | z
          · exact Nat.ne_of_lt (Nat.lt_succ_self _) z
          · exact Nat.ne_of_gt lt0 (List.mem_singleton.mp z)
        have vals : ∀ (i : Nat) (v : Value), xs[i]? = some v → ∃ k t, ns[i]? = some k ∧ v = .int k t := fun i v hv => by
          have hi : i < ns.length := by rw [← hlen]; exact (Array.getElem?_eq_some_iff.mp hv).1
          obtain ⟨t, e⟩ := PyProof.Rows.IntsAre.int_at hx i v (by rw [Array.getElem?_toList]; exact hv)
          exact ⟨ns[i], t, List.getElem?_eq_getElem hi, by rw [e]; simp [List.getD_eq_getElem?_getD, List.getElem?_eq_getElem hi]⟩
        have start : ((s.heap.push (bareSet w)).push { cls := .type "list_iterator", data := .fields #[.ref l, .int 0 0] }).get? s.heap.objs.size = some (bareSet w) := Heap.get?_push_of_some _ at0
        refine set_update_ints ((Walks.list calm3 _ l ne1 xs).toS) s.heap.objs.size ne2 ns hlen room vals (xs.size - 0) 0 _ (by omega) (Nat.zero_le _)
          ⟨⟨_, Heap.get?_push_size _ rfl, rfl, rfl⟩, hl1.push _⟩ ⟨0, Nat.le_refl 0, setR_new_at start⟩ ?_
        intro t' c' mv hc' R'
        obtain ⟨h', g2, d', tk', os'⟩ := t'
        have eg : g2 = s.gens := mv.gens
        have ed : d' = s.drawn := mv.drawn
        have eo : os' = s.os := mv.os
        subst eg; subst ed; subst eo
        show wpAny _ _ _ _ _ _
        refine wpAny_pure ?_
        show wpAny _ _ (ret Value.none) _ _ _
        rw [hlen] at hc'
        refine wpAny_pure ⟨rfl, h', tk', c', rfl, R', hc', fun b o e => mv.heap b o (fun z => ?_) (Heap.get?_push_of_some _ (Heap.get?_push_of_some _ e))⟩
        have lb : b < s.heap.objs.size := Heap.lt_size e
        rcases List.mem_cons.mp z with z | z
        · exact Nat.ne_of_lt lb z
        · have z' := List.mem_singleton.mp z
          rw [Heap.size_push] at z'
          exact Nat.ne_of_lt (Nat.lt_succ_of_lt lb) z'
      · cases r2 with
        | error e => exact hr2
        | ok fl2 =>
          cases fl2 with
          | ret v =>
            obtain ⟨rfl, h', tk, c', rfl, R', hc', old⟩ := hr2
            repeat (any_goals (first | assumption | wp_step))
            exact fin _ _ _ R' hc' old
          | _ => exact hr2.elim
    | _ => exact hr.elim
theorem set_of_sq {l : Addr} {xs : Array Value} (ns : List Int) {Q : Value → Shared → Prop} (calm : A.handled = none) (hl : Sq s.heap l xs) (hx : IntsAre xs.toList ns) (room : ns.length + 1 < scanBound)
    (fin : SetMade w s ns Q) : wpAny (model P w) A (call (.type "set") [.ref l]) Q E s := by
  rcases hl with hl | hl
  · exact set_of_list ns calm hl hx room fin
  · exact call_set_tupI ns calm (show s.heap.IsTuple l xs from hl) hx room fin
end
end Mi
namespace Mi
open PySem PySem.Spec PyProof.Rows L2
variable [Tb]
section
variable {X : Cx} {e : Expr} {ta : TA} {p p2 pos pos2 : Pos}
/-- the members of ns, rising, none twice -/
def Rises (ns out : List Int) : Prop := out.Pairwise (· < ·) ∧ ∀ k, k ∈ out ↔ k ∈ ns
def rSSet (K : PySem.W.Frag) (vs : List V) (H : Hp) (Q : VK) : Prop := ∃ (a : Addr) (ns : List Int), vs = [.ref a] ∧ SqA K H a (ns.map V.int) ∧ ns.length < 64 ∧
  ∀ (out : List Int) (l : Addr), Rises ns out → out.length ≤ ns.length → H l = none → Q (.ref l) (upd H l (.lst (out.map V.int)))
theorem pe_sortedSet (hc : X.calm = true) (hg : Gl X "sorted") (hm : X.mg "sorted" = none) (hg2 : Gl X "set") (hm2 : X.mg "set" = none) (ha : PA X [e] ta)
    (hs : starEach [e] X.env = (false, eval e X.env) :: starEach [] X.env := by rfl)
    (hs2 : starEach [.Call (.Name "set" p2) [e] [] pos2] X.env = (false, eval (.Call (.Name "set" p2) [e] [] pos2) X.env) :: starEach [] X.env := by rfl) :
    PE X (.Call (.Name "sorted" p) [.Call (.Name "set" p2) [e] [] pos2] [] pos) (fun σ H Q => ta σ H fun vs H1 => rSSet X.K vs H1 Q) := by
  refine ⟨fun pins s σ H Q I h => ?_⟩
  refine Call_ (ld_blt I hg hm boot_sorted (PyProof.Rows.callWith_builtin1 (args_cons (Call_ (ld_blt I hg2 hm2 PyProof.Rows.boot_set (PyProof.Rows.callWith_type1 (thn (ha.run pos2 pins s σ H _ I h) fun us s1 ⟨vs, H1, I1, r1, q1⟩ => ?_) hs rfl))) hs2) hs2 rfl))
  obtain ⟨a, ns, e1, hq, hl, q⟩ := q1
  subst e1
  rw [ref_one r1]
  obtain ⟨its, rv, sq, _⟩ := Mi.Inv.sq I1 hq
  have hi : IntsAre its.toArray.toList ns := ints_of_vals rv
  have hd := I1.ok.hd hc
  refine set_of_sq ns hd sq hi (by unfold scanBound; omega) fun h' tk c R hcn k => args_nil ?_
  refine sorted_set (s := { s1 with heap := h', toks := tk }) R hd (by omega) fun t p out c2 ns' k1 g1 o1 hp at_ hI hpw hmem hlen => ?_
  have kall : ∀ b u, s1.heap.get? b = some u → t.heap.get? b = some u := fun b u z => k1 b u (k b u z)
  have hp' : s1.heap.objs.size ≤ p := Nat.le_trans (Nat.le_of_lt R.lt) (show h'.objs.size ≤ p from hp)
  have hp'' : s1.heap.objs.size ≤ p := hp'
  have hL : (ns'.map V.int).length ≤ sizeLine := by
    rw [List.length_map, hlen]
    exact Nat.le_trans (show c ≤ 1000 by omega) (by decide)
  have new : ObjOk X.prog X.w (upd H1 p (.lst (ns'.map V.int))) t.heap p (.lst (ns'.map V.int)) := ⟨hL, out.toList, c2, vals_of_ints hI, by rw [Array.toArray_toList]; exact at_⟩
  have nfs : H1 p = none := I1.hok.fresh hp''
  refine ⟨.ref p, upd H1 p (.lst (ns'.map V.int)), I1.call' (ch := []) o1 (Un.laid kall hp'' nfs) (I1.hok.laid kall hp'' new) (by rw [g1]; exact I1.bare) (fun _ z => nomatch z), rfl, ?_⟩
  exact q ns' p ⟨hpw, fun j => by rw [hmem j, decide_eq_true_eq]⟩ (by omega) nfs
end
section
variable {X : Cx} {W : WX} {a : Expr} {fs : Env → M (List D)} {pos p p2 pos2 : Pos}
/-- rising, none twice -/
def insR (x : Int) : List Int → List Int
  | [] => [x]
  | y :: ys => if x < y then x :: y :: ys else if x = y then y :: ys else y :: insR x ys
def setS (ns : List Int) : List Int := ns.foldr insR []
theorem insR_mem (x k : Int) : ∀ ys : List Int, k ∈ insR x ys ↔ k = x ∨ k ∈ ys
  | [] => by simp [insR]
  | y :: ys => by
    unfold insR
    split
    · simp
    · split
      · rename_i h; subst h; simp
      · rw [List.mem_cons, insR_mem x k ys, List.mem_cons]
        constructor
        · rintro (h | h | h)
          · exact .inr (.inl h)
          · exact .inl h
          · exact .inr (.inr h)
        · rintro (h | h | h)
          · exact .inr (.inl h)
          · exact .inl h
          · exact .inr (.inr h)
theorem insR_rises (x : Int) : ∀ ys : List Int, ys.Pairwise (· < ·) → (insR x ys).Pairwise (· < ·)
  | [], _ => List.pairwise_singleton _ _
  | y :: ys, h => by
    obtain ⟨h1, h2⟩ := List.pairwise_cons.mp h
    unfold insR
    split
    · rename_i hxy
      refine List.pairwise_cons.mpr ⟨fun z hz => ?_, h⟩
      rcases List.mem_cons.mp hz with rfl | hz
      · exact hxy
      · have := h1 z hz; omega
    · split
      · exact h
      · refine List.pairwise_cons.mpr ⟨fun z hz => ?_, insR_rises x ys h2⟩
        rcases (insR_mem x z ys).mp hz with rfl | hz
        · omega
        · exact h1 z hz
theorem setS_mem (ns : List Int) (k : Int) : k ∈ setS ns ↔ k ∈ ns := by
  induction ns with
  | nil => simp [setS]
  | cons n ns ih =>
    show k ∈ insR n (setS ns) ↔ _
    rw [insR_mem, ih, List.mem_cons]
theorem setS_rises (ns : List Int) : (setS ns).Pairwise (· < ·) := by
  induction ns with
  | nil => exact List.Pairwise.nil
  | cons n ns ih => exact insR_rises n _ ih
theorem rises_unique : ∀ {xs ys : List Int}, xs.Pairwise (· < ·) → ys.Pairwise (· < ·) → (∀ k, k ∈ xs ↔ k ∈ ys) → xs = ys
  | [], [], _, _, _ => rfl
  | [], y :: ys, _, _, h => by have := (h y).mpr List.mem_cons_self; cases this
  | x :: xs, [], _, _, h => by have := (h x).mp List.mem_cons_self; cases this
  | x :: xs, y :: ys, hx, hy, h => by
    obtain ⟨x1, x2⟩ := List.pairwise_cons.mp hx
    obtain ⟨y1, y2⟩ := List.pairwise_cons.mp hy
    have e : x = y := by
      have a := (h x).mp List.mem_cons_self
      have b := (h y).mpr List.mem_cons_self
      rcases List.mem_cons.mp a with a | a
      · exact a
      · rcases List.mem_cons.mp b with b | b
        · exact b.symm
        · have := x1 y b; have := y1 x a; omega
    subst e
    have : xs = ys := rises_unique x2 y2 fun k => by
      constructor
      · intro hk
        rcases List.mem_cons.mp ((h k).mp (List.mem_cons_of_mem _ hk)) with z | z
        · have := x1 k hk; omega
        · exact z
      · intro hk
        rcases List.mem_cons.mp ((h k).mpr (List.mem_cons_of_mem _ hk)) with z | z
        · have := y1 k hk; omega
        · exact z
    rw [this]
theorem insR_len (x : Int) : ∀ ys : List Int, (insR x ys).length ≤ ys.length + 1
  | [] => by simp [insR]
  | y :: ys => by
    unfold insR
    split
    · simp
    · split
      · simp
      · have := insR_len x ys; simp; omega
theorem setS_len (ns : List Int) : (setS ns).length ≤ ns.length := by
  induction ns with
  | nil => exact Nat.le_refl _
  | cons n ns ih => have := insR_len n (setS ns); show (insR n (setS ns)).length ≤ _; simp; omega
def sortSetL (xs : List D) : M (List D) := match ints? xs with
  | some ns => if ns.length < 64 then M.ret ((setS ns).map D.int) else M.stuck
  | none => M.stuck
end
section
variable {X : Cx} {W : WX} {a : Expr} {fs : Env → M (List D)} {pos p p2 pos2 : Pos}
theorem opNF_sortSet : OpNF X (rSSet X.K) (one (oi sortSetL)) := by
  intro W σ w xs ds Q F rs q
  refine one_thn q rs fun v d e r' q' => ?_
  subst e
  refine items_thn F q' r' fun a vs ds e hs hl hr h => ?_
  subst e
  unfold sortSetL at h
  cases z : ints? ds with
  | none => rw [z] at h; exact h.no
  | some ns =>
    rw [z] at h
    obtain ⟨c, h⟩ := Holds.ite h
    have ev := ints_reps hr z
    subst ev
    refine ⟨a, ns, rfl, hs, c, fun out l R hle hl0 => ?_⟩
    have eo : out = setS ns := rises_unique R.1 (setS_rises ns) fun k => by rw [R.2, setS_mem]
    rw [eo]
    exact AnsF.new F h (reps_ints _) (by rw [List.length_map]; exact Nat.le_trans (setS_len ns) (Nat.le_trans (show ns.length ≤ 1000 by omega) (by decide))) l hl0
theorem mf_sortedSet (hc : X.calm = true) (hg : Gl X "sorted") (hm : X.mg "sorted" = none) (hg2 : Gl X "set") (hm2 : X.mg "set" = none) (ha : MA X W [a] fs)
    (hs : starEach [a] X.env = (false, eval a X.env) :: starEach [] X.env := by rfl)
    (hs2 : starEach [.Call (.Name "set" p2) [a] [] pos2] X.env = (false, eval (.Call (.Name "set" p2) [a] [] pos2) X.env) :: starEach [] X.env := by rfl) :
    MF X W (.Call (.Name "sorted" p) [.Call (.Name "set" p2) [a] [] pos2] [] pos) (eNF (one (oi sortSetL)) fs) := by
  refine PE.sub (pe_sortedSet hc hg hm hg2 hm2 ha hs hs2) ?_
  rintro σ H Q ⟨w, ρ, rfl, F, E, h⟩
  exact ⟨w, ρ, rfl, F, E, Holds.thn h fun ds w1 g1 F1 h1 xs rs => opNF_sortSet W σ w1 xs ds Q F1 rs h1⟩
theorem sortSetL_ints (ns : List Int) (h : ns.length < 64) : sortSetL (ns.map D.int) = M.ret ((setS ns).map D.int) := by
  unfold sortSetL
  rw [show ints? (ns.map D.int) = some ns from ints_map ns]
  dsimp only
  rw [if_pos h]
end
end Mi
namespace Mi
open PySem PySem.Spec PyProof.Rows L2
variable [Tb]
/-! ### a call that only reads lists which are changed later: its answer is no thing on the heap -/
def flatD : D → Bool
  | .non => true
  | .bl _ => true
  | .int _ => true
  | .str _ => true
  | _ => false
def lendD (ω : List Cell) : D → Option D
  | .cell n => match ω[n]? with
    | some (.lst xs) => some (.lst xs)
    | _ => none
  | d => some d
def lendDs (ω : List Cell) : List D → Option (List D)
  | [] => some []
  | d :: ds => match lendD ω d, lendDs ω ds with
    | some e, some es => some (e :: es)
    | _, _ => none
def callB (n : Nat) (F : List D → PR) (ds : List D) : M D := fun ω => match lendDs ω ds with
  | some es => if es.length = n ∧ cleanL es = true then (match F es with
      | .ok d => if flatD d = true then .ok d ω else .stuck
      | .raise c => .raise c ω
      | .stuck => .stuck) else .stuck
  | none => .stuck
/-- all live cells are shared for a while -/
def Wd.lent (w : Wd) : Addr → Prop := fun a => w.S a ∨ ∃ (n : Nat) (c : Cell), w.μ[n]? = some a ∧ w.ω[n]? = some c ∧ c ≠ .dead
section
variable {K : PySem.W.Frag} {w : Wd}
theorem lend_rep (F : Fits K w) {v : V} {d e : D} (r : w.rep K v d) (h : lendD w.ω d = some e) (c : clean e = true) : Rep K w.lent [] w.H v e := by
  have up : ∀ {v : V} {d : D}, w.rep K v d → clean d = true → Rep K w.lent [] w.H v d := fun r c => Rep.uncell (Rep.mono (S' := w.lent) (μ' := w.μ) (fun _ h => Or.inl h) (fun _ _ h => h) (fun _ _ _ h => h) r) c
  have ups : ∀ {v : List V} {d : List D}, w.reps K v d → cleanL d = true → Reps K w.lent [] w.H v d := fun r c => Reps.uncell (Reps.mono (S' := w.lent) (μ' := w.μ) (fun _ h => Or.inl h) (fun _ _ h => h) (fun _ _ _ h => h) r) c
  cases r with
  | cell hn =>
    rename_i n a
    unfold lendD at h
    dsimp only at h
    cases q : w.ω[n]? with
    | none => rw [q] at h; cases h
    | some cc =>
      rw [q] at h
      rcases F.live n a cc hn q with z | ⟨_, ok⟩
      · subst z; cases h
      · cases cc with
        | dead => cases h
        | lst xs =>
          cases h
          obtain ⟨vs, h1, h2, h3⟩ := ok
          exact .lst (Or.inr ⟨n, _, hn, q, fun z => nomatch z⟩) h1 h2 (ups h3 (by unfold clean at c; exact c))
        | dic ks xs => cases h
        | ins C fs => cases h
        | llst xs => cases h
        | ldic ks xs => cases h
  | non => cases h; exact .non
  | bl b => cases h; exact .bl b
  | int b => cases h; exact .int b
  | str b x y => cases h; exact .str b x y
  | lst h1 h2 h3 h4 => cases h; exact up (.lst h1 h2 h3 h4) c
  | tup h1 h2 h3 h4 => cases h; exact up (.tup h1 h2 h3 h4) c
  | dic h1 h2 h3 h4 => cases h; exact up (.dic h1 h2 h3 h4) c
  | ref a => cases h; exact .ref a
  | ty n => cases h; exact .ty n
  | scr h1 h2 => cases h; exact up (.scr h1 h2) c
theorem lend_reps (F : Fits K w) : ∀ {vs : List V} {ds es : List D}, w.reps K vs ds → lendDs w.ω ds = some es → cleanL es = true → Reps K w.lent [] w.H vs es
  | _, _, _, .nil, h, _ => by cases h; exact .nil
  | _, _, _, .cons (d := d) (ds := ds) r t, h, c => by
    unfold lendDs at h
    cases q : lendD w.ω d with
    | none => rw [q] at h; cases h
    | some e => cases q' : lendDs w.ω ds with
      | none => rw [q, q'] at h; cases h
      | some es =>
        rw [q, q'] at h; cases h
        unfold cleanL at c
        rw [Bool.and_eq_true] at c
        exact .cons (lend_rep F r q c.1) (lend_reps F t q' c.2)
theorem lent_good (F : Fits K w) : Good w.lent w.H := by
  refine ⟨fun a h => ?_, F.tabs, fun a ps h => ?_⟩
  · rcases h with h | ⟨n, c, h1, _, _⟩
    · exact F.dom a h
    · exact F.domμ a (List.mem_of_getElem? h1)
  · rcases h with h | ⟨n, c, h1, h2, h3⟩
    · exact F.nt a ps h
    · rcases F.live n a c h1 h2 with z | ⟨_, ok⟩
      · exact absurd z h3
      · obtain ⟨o, ho, hn⟩ := ok.at h3
        rw [ho]; exact fun z => hn ps (Option.some.inj z)
/-- behind the call the cells are cells again -/
theorem lent_world {S' : Addr → Prop} {H' : Hp} (F : Fits K w) (g : Grow (W0 w.lent w.H) (W0 S' H')) (hd : Good S' H') :
    ∃ S'', (∀ a, S'' a → S' a) ∧ Grow w ⟨S'', w.μ, w.ω, H'⟩ ∧ Fits K ⟨S'', w.μ, w.ω, H'⟩ := by
  let S'' : Addr → Prop := fun a => S' a ∧ (a ∈ w.μ → w.S a)
  have keep : ∀ a o, w.H a = some o → (∀ ps, o ≠ .tbl ps) → H' a = some o := fun a o h n => g.fr a o h (.inr ⟨(fun z => nomatch z), n⟩)
  have gw : Grow w ⟨S'', w.μ, w.ω, H'⟩ := by
    refine ⟨fun a h => ⟨g.S a (Or.inl h), fun _ => h⟩, fun a h => ?_, List.prefix_refl _, fun _ h => .inl h, fun a o h k => k.elim (fun z => g.fr a o h (.inl (Or.inl z))) fun z => keep a o h z.2, g.fz, g.tb⟩
    rcases g.S' a h.1 with z | z | z
    · rcases z with z | ⟨n, c, z, _, _⟩
      · exact .inl z
      · exact .inr (.inr (List.mem_of_getElem? z))
    · exact .inr (.inl z)
    · exact nomatch z
  refine ⟨S'', fun a h => h.1, gw, F.len, F.nd, fun a h => hd.dom a h.1, fun a h => ?_, fun n a c h1 h2 => ?_, hd.tabs, fun a ps h => hd.nt a ps h.1⟩
  · cases q : w.H a with
    | none => exact absurd q (F.domμ a h)
    | some o => exact g.some (a := a) q (fun z => nomatch z)
  · have hm := List.mem_of_getElem? h1
    rcases F.live n a c h1 h2 with h | ⟨h, h'⟩
    · exact .inl h
    · by_cases hc : c = .dead
      · exact .inl hc
      · obtain ⟨o, ho, hn⟩ := h'.at hc
        exact .inr ⟨fun z => h (z.2 hm), h'.mono ((keep a o ho hn).trans ho.symm) fun vs ds r => gw.reps r⟩
theorem flat_rep {S S' : Addr → Prop} {μ μ' : List Addr} {H H' : Hp} {v : V} {d : D} (r : Rep K S μ H v d) (h : flatD d = true) : Rep K S' μ' H' v d := by
  cases r with
  | non => exact .non
  | bl b => exact .bl b
  | int b => exact .int b
  | str b x y => exact .str b x y
  | _ => cases h
end
section
variable {X : Cx} {W : WX} {a b : Expr} {es : List Expr} {fs : Env → M (List D)} {f g : Env → M D} {pos p : Pos}
theorem me_callB' {k : Nat} {fa : Addr} {fd : FuncData} {ps : List Str} {Fn : List D → PR} {x : Str} (G : FnOk X.prog X.w X.K X.mg X.base (L2.CX X.prog X.w) k fa fd ps (spF X.K X.mg ps.length Fn)) (hr : Room k X.A) (hg : Gl X x) (hm : X.mg x = some (.ref fa)) (hk : PySem.W.keepIn X.K (.ref fa) = true)
    (hb : Binds X.K fd ps []) (tk : Takes X W) (ha : MA X W (a :: es) fs) (hdb : (x == ("__debug__" : Str)) = false := by decide) (he : starEach (a :: es) X.env = (false, eval a X.env) :: starEach es X.env := by rfl) (hpl : (backTo pos (starEach es X.env)).any (·.1) = false := by rfl) :
    ME X W (.Call (.Name x p) (a :: es) [] pos) (eN (callB ps.length Fn) fs) := by
  refine PE.sub (pe_callS G hr hg hm hk hb (fun σ => passAt tk σ) ha hdb he hpl) ?_
  rintro σ H Q ⟨w, ρ, rfl, F, E, h⟩
  refine ⟨w, ρ, rfl, F, E, Holds.thn h fun ds w1 g1 F1 h1 xs rs => ?_⟩
  unfold callB at h1
  cases ql : lendDs w1.ω ds with
  | none => rw [ql] at h1; exact h1.elim
  | some es =>
    rw [ql] at h1
    dsimp only at h1
    by_cases c : es.length = ps.length ∧ cleanL es = true
    · rw [if_pos c] at h1
      have rl := lend_reps F1 rs ql c.2
      refine ⟨w1.lent, es, rl.length.trans c.1, lent_good F1, rl, ?_⟩
      cases z : Fn es with
      | ok d =>
        rw [z] at h1
        dsimp only at h1
        intro v S' H' gg hd rv
        by_cases fl : flatD d = true
        · rw [if_pos fl] at h1
          obtain ⟨S'', _, g2, F2⟩ := lent_world F1 gg hd
          exact h1 _ g2 F2 rfl v (flat_rep rv fl)
        · rw [if_neg fl] at h1; exact h1.elim
      | raise c =>
        rw [z] at h1
        intro u S' H' gg hd m
        obtain ⟨S'', _, g2, F2⟩ := lent_world F1 gg hd
        exact h1 _ u g2 F2 rfl m
      | stuck => rw [z] at h1; exact h1.elim
    · rw [if_neg c] at h1; exact h1.elim
end
/-! evaluation -/
def lendK (o : Option (List D)) (k : List D → Out) : Out := match o with
  | some es => k es
  | none => .stuck
@[simp] theorem lendK_some (es : List D) (k : List D → Out) : lendK (some es) k = k es := rfl
@[simp] theorem lendDs_nil (ω : List Cell) : lendDs ω [] = some [] := rfl
@[simp] theorem lendDs_int (ω : List Cell) (i : Int) (ds : List D) : lendDs ω (.int i :: ds) = (lendDs ω ds).map (D.int i :: ·) := by
  rw [lendDs]; cases lendDs ω ds <;> rfl
@[simp] theorem lendDs_lst (ω : List Cell) (i : List D) (ds : List D) : lendDs ω (.lst i :: ds) = (lendDs ω ds).map (D.lst i :: ·) := by
  rw [lendDs]; cases lendDs ω ds <;> rfl
def lendC (o : Option Cell) (k : D → Option (List D)) : Option (List D) := match o with
  | some (.lst xs) => k (.lst xs)
  | _ => none
@[simp] theorem lendC_lst (xs : List D) (k : D → Option (List D)) : lendC (some (.lst xs)) k = k (.lst xs) := rfl
@[simp] theorem lendDs_cell (ω : List Cell) (n : Nat) (ds : List D) : lendDs ω (.cell n :: ds) = lendC ω[n]? fun d => (lendDs ω ds).map (d :: ·) := by
  rw [lendDs]
  unfold lendD
  dsimp only
  cases q : ω[n]? with
  | none => rfl
  | some c => cases c <;> cases lendDs ω ds <;> rfl
def flatPR (r : PR) : M D := match r with
  | .ok d => if flatD d = true then M.ret d else M.stuck
  | .raise c => M.raise c
  | .stuck => M.stuck
@[simp] theorem flatPR_int (i : Int) : flatPR (.ok (.int i)) = M.ret (.int i) := rfl
@[simp] theorem flatPR_bl (i : Bool) : flatPR (.ok (.bl i)) = M.ret (.bl i) := rfl
@[simp] theorem flatPR_raise (c : Str) : flatPR (.raise c) = M.raise c := rfl
@[simp] theorem runS_callB (n : Nat) (F : List D → PR) (ds : List D) (k : D → List Cell → Out) (ρ : Env) (ω : List Cell) : runS (callB n F ds) k ρ ω = lendK (lendDs ω ds) fun es => if es.length = n ∧ cleanL es = true then runS (flatPR (F es)) k ρ ω else .stuck := by
  unfold runS callB lendK
  cases lendDs ω ds with
  | none => rfl
  | some es =>
    dsimp only
    by_cases c : es.length = n ∧ cleanL es = true
    · rw [if_pos c, if_pos c]
      cases F es with
      | ok d =>
        unfold flatPR
        dsimp only
        by_cases fl : flatD d = true
        · rw [if_pos fl, if_pos fl]; rfl
        · rw [if_neg fl, if_neg fl]; rfl
      | raise c => rfl
      | stuck => rfl
    · rw [if_neg c, if_neg c]
end Mi
/-! dicts: keys ints and texts -/
namespace Mi
open PySem PySem.Spec PyProof.Rows L2
variable [Tb]
@[simp] def keyD : D → Option Key
  | .int i => some (.inl i)
  | .str x => some (.inr x)
  | _ => none
@[simp] def dKey : Key → D
  | .inl i => .int i
  | .inr x => .str x
def keyOk : Key → Bool
  | .inl _ => true
  | .inr x => decide (x.length ≤ sizeLine) && PyData.strOk x
def keysOk (ks : List Key) : Bool := ks.all keyOk
def valD : List Key → List D → Key → Option D
  | k :: ks, v :: vs, j => if k = j then some v else valD ks vs j
  | _, _, _ => none
def hasK (ks : List Key) (k : Key) : Bool := ks.any fun x => decide (x = k)
def replD : List Key → List D → Key → D → List D
  | k :: ks, v :: vs, j, d => (if k = j then d else v) :: replD ks vs j d
  | _, _, _, _ => []
def putKs (ks : List Key) (k : Key) : List Key := if hasK ks k = true then ks else ks ++ [k]
def putVs (ks : List Key) (vs : List D) (k : Key) (d : D) : List D := if hasK ks k = true then replD ks vs k d else vs ++ [d]
section
variable {K : PySem.W.Frag} {S : Addr → Prop} {μ : List Addr} {H : Hp}
theorem Rep.key {y : V} {d : D} {k : Key} (r : Rep K S μ H y d) (h : keyD d = some k) : y = kV k := by
  cases r <;> first | (cases h; rfl) | cases h
theorem Rep.ofKey {k : Key} (h : keyOk k = true) : Rep K S μ H (kV k) (dKey k) := by
  cases k with
  | inl i => exact .int i
  | inr x =>
    simp only [keyOk, Bool.and_eq_true, decide_eq_true_eq] at h
    exact .str x h.1 h.2
theorem valD_some {k : Key} : ∀ {kvs : List (Key × V)} {ds : List D} {d : D}, Reps K S μ H (kvs.map (·.2)) ds → valD (kvs.map (·.1)) ds k = some d → ∃ v, valV kvs k = some v ∧ Rep K S μ H v d
  | [], _, _, _, e => by cases e
  | p :: kvs, _, d, .cons h t, e => by
    unfold valD at e
    simp only [List.map_cons] at e
    by_cases q : p.1 = k
    · rw [if_pos q] at e; cases e
      exact ⟨_, valV_pos q, h⟩
    · rw [if_neg q] at e
      rw [valV_neg q]
      exact valD_some t e
theorem valD_none {k : Key} : ∀ {kvs : List (Key × V)} {ds : List D}, Reps K S μ H (kvs.map (·.2)) ds → valD (kvs.map (·.1)) ds k = none → valV kvs k = none
  | [], _, _, _ => rfl
  | p :: kvs, _, .cons h t, e => by
    unfold valD at e
    simp only [List.map_cons] at e
    by_cases q : p.1 = k
    · rw [if_pos q] at e; cases e
    · rw [if_neg q] at e
      rw [valV_neg q]
      exact valD_none t e
theorem hasK_map {k : Key} {kvs : List (Key × V)} : hasK (kvs.map (·.1)) k = (kvs.any fun kv => decide (kv.1 = k)) := by
  unfold hasK; rw [List.any_map]; rfl
theorem hasK_val {k : Key} {kvs : List (Key × V)} : (valV kvs k).isSome = hasK (kvs.map (·.1)) k := by rw [hasK_map, valV_any]
theorem putK_keys {kvs : List (Key × V)} {k : Key} {v : V} : (putK kvs k v).map (·.1) = putKs (kvs.map (·.1)) k := by
  unfold putK putKs
  rw [hasK_map]
  by_cases q : (kvs.any fun kv => decide (kv.1 = k)) = true
  · rw [if_pos q, if_pos q, List.map_map]
    apply List.map_congr_left
    intro kv _
    show (if kv.1 = k then (kv.1, v) else kv).1 = kv.1
    split <;> rfl
  · rw [if_neg q, if_neg q, List.map_append]; rfl
theorem repl_reps {k : Key} {v : V} {d : D} (r : Rep K S μ H v d) : ∀ {kvs : List (Key × V)} {ds : List D}, Reps K S μ H (kvs.map (·.2)) ds → Reps K S μ H ((kvs.map fun kv => if kv.1 = k then (kv.1, v) else kv).map (·.2)) (replD (kvs.map (·.1)) ds k d)
  | [], _, .nil => .nil
  | p :: kvs, _, .cons h t => by
    show Reps K S μ H ((if p.1 = k then (p.1, v) else p).2 :: _) ((if p.1 = k then d else _) :: _)
    by_cases q : p.1 = k
    · rw [if_pos q, if_pos q]; exact .cons r (repl_reps r t)
    · rw [if_neg q, if_neg q]; exact .cons h (repl_reps r t)
theorem putK_reps {kvs : List (Key × V)} {k : Key} {v : V} {ds : List D} {d : D} (r : Rep K S μ H v d) (rs : Reps K S μ H (kvs.map (·.2)) ds) : Reps K S μ H ((putK kvs k v).map (·.2)) (putVs (kvs.map (·.1)) ds k d) := by
  unfold putK putVs
  rw [hasK_map]
  by_cases q : (kvs.any fun kv => decide (kv.1 = k)) = true
  · rw [if_pos q, if_pos q]; exact repl_reps r rs
  · rw [if_neg q, if_neg q, List.map_append]; exact rs.append (.cons r .nil)
end
section
variable {X : Cx} {W : WX} {a b c tg : Expr} {es : List Expr} {fs : Env → M (List D)} {f g h : Env → M D} {pos p : Pos}
/-! d[k] -/
def rIxK : R2 := fun x y H Q => ∃ a v, x = .ref a ∧ DGet H a y (some v) ∧ Q v H
theorem ix_dK (hu : X.A.units + 1 < cLine) : IxR X rIxK := by
  intro value slice pins s σ H x y v u Q I rx ry h hs
  obtain ⟨a, z, rfl, g, q⟩ := h
  obtain rfl : v = Value.ref a := rx
  exact tail_any (dict_typeIs I g) PySem.F.slot_dict_getitem.lookup (d_getItem hu I g ry fun w' s' I' rw' => ⟨z, H, I', rw', q⟩) hs
@[simp] def oIxD (d e : D) : M D := match d, keyD e with
  | .dic ks vs, some k => match valD ks vs k with
    | some z => M.ret z
    | none => M.stuck
  | _, _ => M.stuck
theorem Shal.key {K : PySem.W.Frag} {w : Wd} {y : V} {d : D} {k : Key} (s : Shal K w y d) (h : keyD d = some k) : y = kV k := by
  cases s with
  | of r => exact r.key h
  | _ => cases h
theorem Shal.dicAt {K : PySem.W.Frag} {w : Wd} {y : V} {ks : List Key} {vs : List D} (s : Shal K w y (.dic ks vs)) : ∃ a kvs, y = .ref a ∧ Rd w.H a (.dK kvs) ∧ kvs.length ≤ sizeLine ∧ ks = kvs.map (·.1) ∧ w.reps K (kvs.map (·.2)) vs := by
  cases s with
  | of r => cases r with | dic h1 h2 h3 h4 => exact ⟨_, _, rfl, .inr ⟨_, h2⟩, h3, rfl, h4⟩
  | dic h1 h2 h3 => exact ⟨_, _, rfl, h1, h2, rfl, h3⟩
theorem op2_ixD : Op2 X rIxK (d2 oIxD) := op2_drf fun W σ w x y d e Q F sx sy h => by
  unfold oIxD at h
  cases d with
  | dic ks vs =>
    cases q : keyD e with
    | none => rw [q] at h; exact h.no
    | some k =>
      rw [q] at h
      dsimp only at h
      obtain ⟨a, kvs, rfl, h1, h2, rfl, h3⟩ := sx.dicAt
      cases q2 : valD (kvs.map (·.1)) vs k with
      | none => rw [q2] at h; exact h.no
      | some z =>
        rw [q2] at h
        obtain ⟨v, e1, r⟩ := valD_some h3 q2
        exact ⟨a, v, rfl, .inl ⟨kvs, k, h1, sy.key q, e1.symm⟩, Ans.val F h r⟩
  | _ => exact h.no
theorem room1 {k : Nat} {A : Around} (r : Room k A) : A.units + 1 < cLine := by have := r.un; omega
theorem me_ixD {k : Nat} (hr : Room k X.A) (ha : ME X W a f) (hb : ME X W b g) (hs : PlainIx b := by intro _ _; rfl) : ME X W (.Subscript a b pos) (e2 (d2 oIxD) f g) := PE.sub (pe_ix (ix_dK (room1 hr)) ha hb hs) (sub2 op2_ixD)
/-! k in d -/
def rInK (neg : Bool) : R2 := fun x y H Q => ∃ a o, y = .ref a ∧ DGet H a x o ∧ Q (.bl (neg ^^ o.isSome)) H
theorem op_inK (hu : X.A.units + 1 < cLine) : OpR X (compareOp .In) (rInK false) := by
  intro pins s σ H x y v u Q I rx ry h
  obtain ⟨a, o, rfl, g, q⟩ := h
  obtain rfl : u = Value.ref a := ry
  rw [Bool.false_xor] at q
  exact d_in hu I g rx fun s' I' => ⟨.bl o.isSome, H, I', rfl, q⟩
theorem op_notInK (hu : X.A.units + 1 < cLine) : OpR X (compareOp .NotIn) (rInK true) := by
  intro pins s σ H x y v u Q I rx ry h
  obtain ⟨a, o, rfl, g, q⟩ := h
  obtain rfl : u = Value.ref a := ry
  rw [Bool.true_xor] at q
  exact d_notIn hu I g rx fun s' I' => ⟨.bl (!o.isSome), H, I', rfl, q⟩
@[simp] def oInK (neg : Bool) (d e : D) : M D := match e, keyD d with
  | .dic ks _, some k => M.ret (.bl (neg ^^ hasK ks k))
  | _, _ => M.stuck
theorem op2_inK {neg : Bool} : Op2 X (rInK neg) (d2 (oInK neg)) := op2_drf fun W σ w x y d e Q F sx sy h => by
  unfold oInK at h
  cases e with
  | dic ks vs =>
    cases q : keyD d with
    | none => rw [q] at h; exact h.no
    | some k =>
      rw [q] at h
      dsimp only at h
      obtain ⟨a, kvs, rfl, h1, h2, rfl, h3⟩ := sy.dicAt
      refine ⟨a, valV kvs k, rfl, .inl ⟨kvs, k, h1, sx.key q, rfl⟩, ?_⟩
      rw [hasK_val]
      exact Ans.val F h (.bl _)
  | _ => exact h.no
theorem me_inK {k : Nat} (hr : Room k X.A) (ha : ME X W a f) (hb : ME X W b g) (hm : behindInMarks .In b = false := by rfl) : ME X W (.Compare a [.In] [b] pos) (e2 (d2 (oInK false)) f g) := me_cmp (op_inK (room1 hr)) op2_inK ha hb hm
theorem me_notInK {k : Nat} (hr : Room k X.A) (ha : ME X W a f) (hb : ME X W b g) (hm : behindInMarks .NotIn b = false := by rfl) : ME X W (.Compare a [.NotIn] [b] pos) (e2 (d2 (oInK true)) f g) := me_cmp (op_notInK (room1 hr)) op2_inK ha hb hm
theorem mt_inK {k : Nat} (hr : Room k X.A) (ha : ME X W a f) (hb : ME X W b g) (hm : behindInMarks .In b = false := by rfl) : MT X W (.Compare a [.In] [b] pos) (tst (e2 (d2 (oInK false)) f g)) := mt_cmp (op_inK (room1 hr)) op2_inK ha hb hm
theorem mt_notInK {k : Nat} (hr : Room k X.A) (ha : ME X W a f) (hb : ME X W b g) (hm : behindInMarks .NotIn b = false := by rfl) : MT X W (.Compare a [.NotIn] [b] pos) (tst (e2 (d2 (oInK true)) f g)) := mt_cmp (op_notInK (room1 hr)) op2_inK ha hb hm
/-! new dicts -/
def eDicC : Env → M D := fun _ => newCell (.dic [] [])
theorem me_dicC : ME X W (.Dict [] [] pos) eDicC := by
  refine PE.sub pe_dnewK ?_
  rintro σ H Q ⟨w, ρ, rfl, F, E, q⟩ p hp
  refine q (w.alloc p (.dK []) (.dic [] [])) (alloc_grow hp) (alloc_fits F hp ⟨[], upd_same, Nat.zero_le _, rfl, .nil⟩) rfl (.ref p) (.cell ?_)
  show (w.μ ++ [p])[w.ω.length]? = some p
  rw [← F.len, List.getElem?_append_right (Nat.le_refl _), Nat.sub_self]; rfl
/-- what was laid beside the world comes into it -/
theorem side_lay {K : PySem.W.Frag} {w w' : Wd} {p : Addr} {o : HO} (g : Grow w w') (hp : w.H p = none) (F : Fits K w') (nS : ¬ w'.S p) (nm : p ∉ w'.μ) (hn : NoTab (w'.H p)) (ho : ∀ ps, o ≠ .tbl ps) :
    Grow w ⟨fun a => w'.S a ∨ a = p, w'.μ, w'.ω, upd w'.H p o⟩ ∧ Fits K ⟨fun a => w'.S a ∨ a = p, w'.μ, w'.ω, upd w'.H p o⟩ ∧ ∀ vs ds, w'.reps K vs ds → Reps K (fun a => w'.S a ∨ a = p) w'.μ (upd w'.H p o) vs ds := by
  have g1 := side_grow (K := K) (o := o) g hp
  have F1 := side_fits (o := o) F nS nm hn
  have rf : ∀ vs ds, Reps K w'.S w'.μ (upd w'.H p o) vs ds → Reps K (fun a => w'.S a ∨ a = p) w'.μ (upd w'.H p o) vs ds := fun vs ds r => Reps.mono (fun _ h => .inl h) (fun _ _ h => h) (fun _ _ _ h => h) r
  refine ⟨⟨fun a h => .inl (g1.S a h), fun a h => h.elim (fun z => g1.S' a z) fun z => .inr (.inl (by rw [z]; exact hp)), g1.μ, g1.μ', g1.fr, g1.fz, g1.tb⟩, ⟨F1.len, F1.nd, fun a h => h.elim (F1.dom a) fun z => ?_, F1.domμ, fun n a c h1 h2 => ?_, F1.tabs, fun a ps h => h.elim (F1.nt a ps) fun z => ?_⟩, fun vs ds r => rf vs ds (side_reps nS r)⟩
  · subst z; show upd w'.H a o a ≠ none; rw [upd_same]; exact fun z => nomatch z
  · rcases F1.live n a c h1 h2 with h | ⟨h, h'⟩
    · exact .inl h
    · exact .inr ⟨fun z => z.elim h fun e => nm (e ▸ List.mem_of_getElem? h1), h'.mono rfl rf⟩
  · subst z; show upd w'.H a o a ≠ _; rw [upd_same]; exact fun z => ho ps (Option.some.inj z)
/-- {k: v}, changed no more -/
def eDic1 (f g : Env → M D) : Env → M D := fun ρ => (f ρ).bind fun k => (g ρ).bind fun v => match keyD k with
  | some x => M.ret (.dic [x] [v])
  | none => M.stuck
theorem me_dic1 (ha : ME X W a f) (hb : ME X W b g) : ME X W (.Dict [some a] [b] pos) (eDic1 f g) := by
  refine PE.sub (pe_lockAfter (pe_disp (pps_cons ha hb pps_nil) rfl rfl (fun z => nomatch z) (show 1 ≤ 15 by decide))) ?_
  rintro σ H Q ⟨w, ρ, rfl, F, E, q⟩ p hp
  have nS0 : ¬ w.S p := fun h => F.dom p h hp
  have nm0 : p ∉ w.μ := fun h => F.domμ p h hp
  have g0 : Grow w { w with H := upd w.H p (.dK []) } := side_grow (K := X.K) (Grow.refl w) hp
  have F0 : Fits X.K { w with H := upd w.H p (.dK []) } := side_fits F nS0 nm0 (by rw [hp]; exact noTab_none)
  unfold eDic1 M.bind at q
  refine ⟨{ w with H := upd w.H p (.dK []) }, ρ, rfl, F0, E.grow g0, ?_⟩
  show Holds X.K X.mg W σ _ (f ρ w.ω) _
  cases zf : f ρ w.ω with
  | stuck => rw [zf] at q; exact q
  | raise c ω1 => rw [zf] at q; exact fun w' u gg ff e m => q w' u (g0.trans gg) ff e m
  | ok k ω1 =>
    rw [zf] at q
    dsimp only at q
    intro w1 g1 F1 e1 x rx
    subst e1
    refine ⟨w1, ρ, rfl, F1, (E.grow g0).grow g1, ?_⟩
    cases zg : g ρ w1.ω with
    | stuck => rw [zg] at q; exact q
    | raise c ω1 => rw [zg] at q; exact fun w' u gg ff e m => q w' u ((g0.trans g1).trans gg) ff e m
    | ok v ω2 =>
      rw [zg] at q
      dsimp only at q
      intro w2 g2 F2 e2 y ry
      subst e2
      have G2 := g1.trans g2
      have at2 : w2.H p = some (.dK []) := G2.fr p _ upd_same (.inr ⟨nm0, fun _ z => nomatch z⟩)
      have nS : ¬ w2.S p := fun h => by
        rcases G2.S' p h with h | h | h
        · exact nS0 h
        · have h' : upd w.H p (.dK []) p = none := h
          rw [upd_same] at h'; cases h'
        · exact nm0 h
      have nm : p ∉ w2.μ := fun h => by
        rcases G2.μ' p h with h | h
        · exact nm0 h
        · have h' : upd w.H p (.dK []) p = none := h
          rw [upd_same] at h'; cases h'
      cases z : keyD k with
      | none => rw [z] at q; exact q.elim
      | some kk =>
        rw [z] at q
        refine ⟨at2, [(kk, y)], ?_, (show 1 ≤ 15 by decide), .inr ⟨p, _, upd_same, trivial, fun od => ?_⟩⟩
        · rw [rx.key z]; rfl
        · have e : upd (upd w2.H p (.dK (mergeK [] [(kk, y)]))) p (.frz od (.dK (mergeK [] [(kk, y)]))) = upd w2.H p (.frz od (.dK [(kk, y)])) := by
            funext b
            by_cases hb : b = p
            · subst hb; rw [upd_same, upd_same]; rfl
            · rw [upd_ne hb, upd_ne hb, upd_ne hb]
          rw [e]
          obtain ⟨g3, F3, r3⟩ := side_lay (o := .frz od (.dK [(kk, y)])) (g0.trans G2) hp F2 nS nm (by rw [at2]; exact noTab_dK) (fun _ z => nomatch z)
          exact q _ g3 F3 rfl (.ref p) (Rep.dic (kvs := [(kk, y)]) (.inr rfl) upd_same (show 1 ≤ sizeLine by decide) (r3 [y] [v] (.cons ry .nil)))
/-! d[k] = v -/
def putD (d c j : D) : M Unit := fun ω => match c, keyD j with
  | .cell n, some k => match ω[n]? with
    | some (.dic ks vs) => if ks.length ≤ 1000 then .ok () (ω.set n (.dic (putKs ks k) (putVs ks vs k d))) else .stuck
    | _ => .stuck
  | _, _ => .stuck
def sPutD (f o i : Env → M D) : SM := thenS f fun d => thenS o fun c => thenS i fun j => thenS (fun _ => putD d c j) fun _ => sNext
theorem putKs_len (ks : List Key) (k : Key) : (putKs ks k).length ≤ ks.length + 1 := by
  unfold putKs; split <;> simp
theorem ms_putD {k : Nat} (hr : Room k X.A) {pos' : Pos} (hv : ME X W a f) (ho : ME X W b g) (hi : ME X W c h) (hs : swapsWith a (some (.Subscript b c pos')) pos.line X.env = pure false := by rfl) : MS X W (.Assign [.Subscript b c pos'] a pos) (sPutD f g h) := by
  refine PS.sub (ps_dput (room1 hr) ho hi hv hs) ?_
  rintro D σ H ⟨w, ρ, rfl, F, E, q⟩
  refine ⟨w, ρ, rfl, F, E, HoldsS.thn E q fun d w1 g1 F1 E1 q1 v rv => ?_⟩
  refine ⟨w1, ρ, rfl, F1, E1, HoldsS.thn E1 q1 fun c w2 g2 F2 E2 q2 x rx => ?_⟩
  refine ⟨w2, ρ, rfl, F2, E2, HoldsS.thn E2 q2 fun j w3 g3 F3 E3 q3 y ry => ?_⟩
  have rx' := g3.rep rx
  have rv' := (g2.trans g3).rep rv
  unfold thenS putD at q3
  cases rx' with
  | @cell n al hn =>
    cases zk : keyD j with
    | none => rw [zk] at q3; exact q3.no
    | some kk =>
      rw [zk] at q3
      dsimp only at q3
      cases z : w3.ω[n]? with
      | none => rw [z] at q3; exact q3.no
      | some cc =>
        rw [z] at q3
        cases cc with
        | dic ks xs =>
          dsimp only at q3
          rcases F3.live n al _ hn z with e | ⟨nS, kvs, k1, k2, rfl, k3⟩
          · cases e
          · by_cases hl : (kvs.map (·.1)).length ≤ 1000
            · rw [if_pos hl] at q3
              dsimp only at q3
              rw [List.length_map] at hl
              have hlt : kvs.length < sizeLine := Nat.lt_of_le_of_lt hl (by decide)
              have wr : Wr (w3.H al) := by rw [k1]; exact wr_dK
              have gr0 : Grow w3 (w3.put n al (.dK (putK kvs kk v)) (.dic (putKs (kvs.map (·.1)) kk) (putVs (kvs.map (·.1)) xs kk d))) := put_grow hn nS wr
              have hl2 : (putK kvs kk v).length ≤ sizeLine := by
                have := length_putK kvs kk v
                omega
              obtain ⟨g4, F4⟩ := put_all F3 hn nS wr (o := .dK (putK kvs kk v)) (c := .dic (putKs (kvs.map (·.1)) kk) (putVs (kvs.map (·.1)) xs kk d)) ⟨putK kvs kk v, upd_same, hl2, putK_keys, gr0.reps (putK_reps rv' k3)⟩
              exact ⟨al, _, rfl, .inl ⟨kvs, kk, k1, ry.key zk, hlt, rfl⟩, q3 _ σ g4 F4 rfl (E3.grow g4)⟩
            · rw [if_neg hl] at q3; exact q3.no
        | _ => exact q3.no
  | _ => cases hj : keyD j <;> rw [hj] at q3 <;> exact q3.no
/-! for k in d, d.values() -/
def iKeysD (f : Env → M D) : Env → M (List D) := fun ρ => (f ρ).bind fun d => match d with
  | .dic ks _ => if keysOk ks = true then M.ret (ks.map dKey) else M.stuck
  | _ => M.stuck
def iValsD (f : Env → M D) : Env → M (List D) := fun ρ => (f ρ).bind fun d => match d with
  | .dic _ vs => M.ret vs
  | _ => M.stuck
theorem cov_keys {K : PySem.W.Frag} {w : Wd} {a : Addr} {o : Obj} {kvs : List (Key × V)} (e : w.H a = some (.frz o (.dK kvs))) (hk : keysOk (kvs.map (·.1)) = true) : Covers K w (Itk a o kvs) ((kvs.map (·.1)).map dKey) := by
  have at' : ∀ w', Grow w w' → w'.H a = some (.frz o (.dK kvs)) := fun w' g => g.fz a _ _ e
  refine ⟨fun w' g F i hi => ⟨at' w' g, by simpa using hi⟩, fun w' g F i d x H' hd y => ?_, fun w' g F i hi => ⟨at' w' g, by simpa using hi⟩⟩
  obtain ⟨rfl, k, v, h1, rfl⟩ := y
  rw [List.getElem?_map, List.getElem?_map, h1] at hd
  cases hd
  refine ⟨w', Grow.refl _, F, rfl, rfl, Rep.ofKey ?_⟩
  unfold keysOk at hk
  rw [List.all_eq_true] at hk
  exact hk k (List.mem_map.mpr ⟨(k, v), List.mem_of_getElem? h1, rfl⟩)
theorem cov_vals {K : PySem.W.Frag} {w : Wd} {a : Addr} {o : Obj} {kvs : List (Key × V)} {ds : List D} (e : w.H a = some (.frz o (.dK kvs))) (r : w.reps K (kvs.map (·.2)) ds) : Covers K w (Itd a o kvs) ds := by
  have at' : ∀ w', Grow w w' → w'.H a = some (.frz o (.dK kvs)) := fun w' g => g.fz a _ _ e
  have hl : kvs.length = ds.length := by rw [← r.length, List.length_map]
  refine ⟨fun w' g F i hi => ⟨at' w' g, by omega⟩, fun w' g F i d x H' hd y => ?_, fun w' g F i hi => ⟨at' w' g, by omega⟩⟩
  obtain ⟨rfl, k, h1⟩ := y
  obtain ⟨v, h3, h2⟩ := (g.reps r).get hd
  rw [List.getElem?_map, h1] at h3
  cases h3
  exact ⟨w', Grow.refl _, F, rfl, rfl, h2⟩
theorem mi_keys (ha : ME X W a f) : MI X W tg a (iKeysD f) := by
  refine PI.sub (pi_keys ha) ?_
  rintro σ H R ⟨w, ρ, rfl, F, E, q⟩
  refine ⟨w, ρ, rfl, F, E, Holds.thn q fun d w1 g1 F1 q1 x rx => ?_⟩
  cases rx with
  | dic h1 h2 h3 h4 =>
    obtain ⟨hk, q1⟩ := Holds.ite q1
    exact ⟨_, _, rfl, .inl ⟨_, h2, Holds.here F1 q1 _ (cov_keys h2 hk)⟩⟩
  | _ => exact Holds.no (α := List D) q1
theorem mi_vals {apos : Pos} (ha : ME X W a f) (hbase : attributeBase a "values" X.env (eval a X.env) = eval a X.env := by rfl) (hline : (apos.endLine == pos.line) = true := by rfl) : MI X W tg (.Call (.Attribute a "values" apos) [] [] pos) (iValsD f) := by
  refine PI.sub (pi_values ha hbase hline) ?_
  rintro σ H R ⟨w, ρ, rfl, F, E, q⟩
  refine ⟨w, ρ, rfl, F, E, Holds.thn q fun d w1 g1 F1 q1 x rx => ?_⟩
  cases rx with
  | dic h1 h2 h3 h4 => exact ⟨_, _, _, rfl, h2, Holds.here F1 q1 _ (cov_vals h2 h4)⟩
  | _ => exact Holds.no (α := List D) q1
end
end Mi
/-! running dict texts -/
namespace Mi
open PySem PySem.Spec PyProof.Rows L2
open Da (toD)
@[simp] theorem rdC_dic (ks : List Key) (xs : List D) (k : D → Out) : rdC (some (.dic ks xs)) k = k (.dic ks xs) := rfl
@[simp] theorem frzD_dic (ks : List Key) (xs : List D) : frzD (.dic ks xs) = M.ret (.dic ks xs) := rfl
def upK (o : Option Cell) (k : List Key → List D → Out) : Out := match o with
  | some (.dic ks xs) => k ks xs
  | _ => .stuck
@[simp] theorem upK_dic (ks : List Key) (xs : List D) (k : List Key → List D → Out) : upK (some (.dic ks xs)) k = k ks xs := rfl
theorem runS_putK (d : D) (n : Nat) (j : D) (kk : Key) (hj : keyD j = some kk) (k : Unit → List Cell → Out) (ρ : Env) (ω : List Cell) : runS (putD d (.cell n) j) k ρ ω = upK ω[n]? fun ks xs => if ks.length ≤ 1000 then k () (ω.set n (.dic (putKs ks kk) (putVs ks xs kk d))) else .stuck := by
  unfold runS putD upK
  rw [hj]
  dsimp only
  cases ω[n]? with
  | none => rfl
  | some c => cases c with
    | dic ks xs => dsimp only; by_cases h : ks.length ≤ 1000 <;> simp [h]
    | _ => rfl
@[simp] theorem runS_putD_int (d : D) (n : Nat) (i : Int) (k : Unit → List Cell → Out) (ρ : Env) (ω : List Cell) : runS (putD d (.cell n) (.int i)) k ρ ω = upK ω[n]? fun ks xs => if ks.length ≤ 1000 then k () (ω.set n (.dic (putKs ks (.inl i)) (putVs ks xs (.inl i) d))) else .stuck := runS_putK d n (.int i) _ rfl k ρ ω
@[simp] theorem runS_putD_str (d : D) (n : Nat) (i : Str) (k : Unit → List Cell → Out) (ρ : Env) (ω : List Cell) : runS (putD d (.cell n) (.str i)) k ρ ω = upK ω[n]? fun ks xs => if ks.length ≤ 1000 then k () (ω.set n (.dic (putKs ks (.inr i)) (putVs ks xs (.inr i) d))) else .stuck := runS_putK d n (.str i) _ rfl k ρ ω
@[simp] theorem sPutD_run (f o i : Env → M D) (ρ : Env) (ω : List Cell) : sPutD f o i ρ ω = runS (f ρ) (fun d => runS (o ρ) (fun c => runS (i ρ) (fun j => runS (putD d c j) (fun _ ω => .next ρ ω) ρ) ρ) ρ) ρ ω := rfl
end Mi
/-! zip of a list and a tuple: zip of any two sources whose next is known -/
namespace Mi
open PySem PySem.Spec PyProof.Rows L2
/-- an iterator over what lies at l -/
structure Src where
  It : Heap → Addr → Addr → Nat → Prop
  Is : Heap → Addr → Array Value → Prop
  itAt : ∀ {h h' : Heap} {it l : Addr} {i : Nat}, It h it l i → (∀ o, h.get? it = some o → h'.get? it = some o) → It h' it l i
  isAt : ∀ {h h' : Heap} {l : Addr} {xs : Array Value}, Is h l xs → (∀ o, h.get? l = some o → h'.get? l = some o) → Is h' l xs
  obj : ∀ {h : Heap} {it l : Addr} {i : Nat}, It h it l i → ∃ o, h.get? it = some o ∧ ∀ v, o.data ≠ .cell v
  item : ∀ {prog : Program} {w : World} {A : Around} {E : Value → Shared → Prop} {s : Shared} {it l : Addr} {i : Nat} {xs : Array Value} {x : Value} {Q : Value → Shared → Prop}, It s.heap it l i → Is s.heap l xs → xs[i]? = some x →
    (∀ h', It h' it l (i + 1) → Heap.SameBut it s.heap h' → Q x { s with heap := h' }) → wpAny (model prog w) A (Builtin.SmallTypes.nextOf (.ref it)) Q E s
  fin : ∀ {prog : Program} {w : World} {A : Around} {E : Value → Shared → Prop} {s : Shared} {it l : Addr} {i : Nat} {xs : Array Value} {Q : Value → Shared → Prop}, A.handled = none → It s.heap it l i → Is s.heap l xs → xs[i]? = none →
    (∀ h' e, Heap.ExtBut it s.heap h' → (∃ o, h'.get? e = some o ∧ o.cls = .type "StopIteration") → E (.ref e) { s with heap := h' }) → wpAny (model prog w) A (Builtin.SmallTypes.nextOf (.ref it)) Q E s
def srcL : Src := ⟨fun h => h.IsListIter, fun h => h.IsList, fun x e => x.at e, fun x e => let ⟨o, ho, r⟩ := x; ⟨o, e _ ho, r⟩, fun x => let ⟨o, e, _, d⟩ := x; ⟨o, e, fun v q => by rw [d] at q; cases q⟩, fun a b c d => wpAny_nextOf_list_item a b c d, fun a b c d e => wpAny_nextOf_list_end a b c d e⟩
def srcT : Src := ⟨fun h => h.IsTupleIter, fun h => h.IsTuple, fun x e => x.at e, fun x e => let ⟨o, ho, r⟩ := x; ⟨o, e _ ho, r⟩, fun x => let ⟨o, e, _, d⟩ := x; ⟨o, e, fun v q => by rw [d] at q; cases q⟩, fun a b c d => RZ.nextOf_tuple_item a b c d, fun a b c d e => RZ.nextOf_tuple_end a b c d e⟩
section
variable {prog : Program} {w : World} {A : Around} {E : Value → Shared → Prop} {s : Shared} (S1 S2 : Src)
theorem zs_item {z TI TO i1 i2 l1 l2 : Addr} {k : Nat} {xs ys : Array Value} {x y a b : Value} {Q : Value → Shared → Prop} (D : ZipApart z TI TO i1 i2 l1 l2)
    (hz : IsZip s.heap z TI TO .none) (hTI : IsPair s.heap TI (.ref i1) (.ref i2)) (hTO : IsPair s.heap TO a b)
    (h1 : S1.It s.heap i1 l1 k) (h2 : S2.It s.heap i2 l2 k) (hl1 : S1.Is s.heap l1 xs) (hl2 : S2.Is s.heap l2 ys) (hx : xs[k]? = some x) (hy : ys[k]? = some y)
    (hQ : ∀ h', IsZip h' z TI TO (rawInt s.heap.objs.size) → IsPair h' TO x y → S1.It h' i1 l1 (k + 1) → S2.It h' i2 l2 (k + 1) → IsPair h' s.heap.objs.size x y → h'.objs.size = s.heap.objs.size + 1 →
      (∀ c o, c ≠ z → c ≠ TO → c ≠ i1 → c ≠ i2 → s.heap.get? c = some o → h'.get? c = some o) → Q (.ref s.heap.objs.size) { s with heap := h' }) :
    wpAny (model prog w) A (Builtin.«zip.__next__» ⟨[.ref z], []⟩) (fun fin s' => ∃ v, fin = .done (.ret v) ∧ Q v s') E s := by
  show wpAny _ _ (field (.ref z) 2 >>= _) _ _ _
  refine wpAny_bind (wpAny_field hz rfl (x := .bool false) rfl ?_)
  show wpAny _ _ (field (.ref z) 3 >>= _) _ _ _
  refine wpAny_bind (wpAny_field hz rfl (x := .ref TI) rfl ?_)
  refine wpAny_bind (wpAny_seqItems hTI rfl ?_)
  show wpAny _ _ (Builtin.SmallTypes.ownedTupleIsFree (.ref z) >>= _) _ _ _
  refine wpAny_bind ?_
  unfold Builtin.SmallTypes.ownedTupleIsFree
  refine wpAny_bind (wpAny_field hz rfl (x := .none) rfl (wpAny_pure ?_))
  simp only [if_true]
  refine wpAny_bind (wpAny_rule ?_)
  refine wpAny_bind (wpAny_field hz rfl (x := .ref TO) rfl ?_)
  refine wpAny_bind (wpAny_setField_rec hz (by simp) fun ha hza hsa => ?_)
  replace hza : IsZip ha z TI TO .ellipsis := hza
  have ka : ∀ c o, c ≠ z → s.heap.get? c = some o → ha.get? c = some o := fun c o c1 e => hsa.extBut _ _ c1 e
  refine wpAny_bind ?_
  simp only [List.zipIdx_cons, List.zipIdx_nil, List.forIn_cons, List.forIn_nil]
  refine wpAny_bind (wpAny_bind (wpAny_onRaise ?_))
  show wpAny _ _ (Builtin.SmallTypes.nextOf (.ref i1) >>= _) _ _ _
  refine wpAny_bind (S1.item (S1.itAt h1 fun o e => ka _ o D.i1z e) (S1.isAt hl1 fun o e => ka _ o D.l1z e) hx fun hb h1b hsb => wpAny_pure ?_)
  have kb : ∀ c o, c ≠ z → c ≠ i1 → s.heap.get? c = some o → hb.get? c = some o := fun c o c1 c2 e => hsb.extBut _ _ c2 (ka c o c1 e)
  have hTOb : IsPair hb TO a b := kb _ _ D.TOz D.TOi1 hTO
  refine wpAny_bind (wpAny_seqItems hTOb rfl ?_)
  refine wpAny_bind (wpAny_updateSeq_pair hTOb fun hc hTOc hsc => ?_)
  replace hTOc : IsPair hc TO x b := hTOc
  have kc : ∀ c o, c ≠ z → c ≠ i1 → c ≠ TO → s.heap.get? c = some o → hc.get? c = some o := fun c o c1 c2 c3 e => hsc.extBut _ _ c3 (kb c o c1 c2 e)
  refine wpAny_bind (wpAny_letGo (wpAny_pure ?_))
  refine wpAny_bind (wpAny_bind (wpAny_onRaise ?_))
  show wpAny _ _ (Builtin.SmallTypes.nextOf (.ref i2) >>= _) _ _ _
  refine wpAny_bind (S2.item (S2.itAt h2 fun o e => kc _ o D.i2z D.i12.symm D.TOi2.symm e) (S2.isAt hl2 fun o e => kc _ o D.l2z D.l2i1 D.l2TO e) hy fun hd h2d hsd => wpAny_pure ?_)
  have hTOd : IsPair hd TO x b := hsd.extBut _ _ D.TOi2 hTOc
  refine wpAny_bind (wpAny_seqItems hTOd rfl ?_)
  refine wpAny_bind (wpAny_updateSeq_pair hTOd fun he hTOe hse => ?_)
  replace hTOe : IsPair he TO x y := hTOe
  refine wpAny_bind (wpAny_letGo (wpAny_pure (wpAny_pure ?_)))
  refine wpAny_bind (wpAny_seqItems hTOe rfl ?_)
  refine wpAny_bind (wpAny_newTuple ?_)
  have hsz : he.objs.size = s.heap.objs.size := by rw [hse.1, hsd.1, hsc.1, hsb.1, hsa.1]
  have ke : ∀ c o, c ≠ z → c ≠ TO → c ≠ i1 → c ≠ i2 → s.heap.get? c = some o → he.get? c = some o := fun c o c1 c2 c3 c4 e => hse.extBut _ _ c2 (hsd.extBut _ _ c4 (kc c o c1 c3 c2 e))
  have hze : IsZip he z TI TO .ellipsis := hse.extBut _ _ D.TOz.symm (hsd.extBut _ _ D.i2z.symm (hsc.extBut _ _ D.TOz.symm (hsb.extBut _ _ D.i1z.symm hza)))
  have h1e : S1.It he i1 l1 (k + 1) := S1.itAt h1b fun o e => hse.extBut _ _ D.TOi1.symm (hsd.extBut _ _ D.i12 (hsc.extBut _ _ D.TOi1.symm e))
  have h2e : S2.It he i2 l2 (k + 1) := S2.itAt h2d fun o e => hse.extBut _ _ D.TOi2.symm e
  have hzlt : z < he.objs.size := Heap.lt_size hze
  show wpAny _ _ (Builtin.SmallTypes.ownedTupleHandOut (.ref z) (.ref he.objs.size) >>= _) _ _ _
  refine wpAny_bind ?_
  unfold Builtin.SmallTypes.ownedTupleHandOut
  have hzf : IsZip (he.push { cls := .type "tuple", data := .seq #[x, y] }) z TI TO .ellipsis := Heap.get?_push_of_some _ hze
  refine wpAny_bind (wpAny_setField_rec hzf (by simp) fun hg hzg hsg => ?_)
  replace hzg : IsZip hg z TI TO (rawInt he.objs.size) := hzg
  refine wpAny_setField_rec hzg (by simp) fun hi hzi hsi => ?_
  replace hzi : IsZip hi z TI TO (rawInt he.objs.size) := hzi
  have up : ∀ c o, c ≠ z → he.get? c = some o → hi.get? c = some o := fun c o c1 e => hsi.extBut _ _ c1 (hsg.extBut _ _ c1 (Heap.get?_push_of_some _ e))
  have hTi : IsPair hi he.objs.size x y := hsi.extBut _ _ (Nat.ne_of_gt hzlt) (hsg.extBut _ _ (Nat.ne_of_gt hzlt) (Heap.get?_push_size _ rfl))
  have hzs : hi.objs.size = he.objs.size + 1 := by rw [hsi.1, hsg.1, Heap.size_push]
  rw [hsz] at hzi hTi hzs
  refine wpAny_pure ⟨_, rfl, ?_⟩
  show Q (.ref he.objs.size) _
  rw [hsz]
  exact hQ hi hzi (up _ _ D.TOz hTOe) (S1.itAt h1e fun o e => up _ o D.i1z e) (S2.itAt h2e fun o e => up _ o D.i2z e) hTi hzs fun c o c1 c2 c3 c4 e => up c o c1 (ke c o c1 c2 c3 c4 e)
theorem zs_end {z TI TO i1 i2 l1 l2 : Addr} {k : Nat} {xs ys : Array Value} {a b : Value} {Q : Fin → Shared → Prop} (hh : A.handled = none) (D : ZipApart z TI TO i1 i2 l1 l2)
    (hz : IsZip s.heap z TI TO .none) (hTI : IsPair s.heap TI (.ref i1) (.ref i2)) (hTO : IsPair s.heap TO a b)
    (h1 : S1.It s.heap i1 l1 k) (h2 : S2.It s.heap i2 l2 k) (hl1 : S1.Is s.heap l1 xs) (hl2 : S2.Is s.heap l2 ys) (hend : xs[k]? = none ∨ ys[k]? = none)
    (hE : ∀ h' e, (∀ c o, c ≠ z → c ≠ TO → c ≠ i1 → c ≠ i2 → s.heap.get? c = some o → h'.get? c = some o) → (∃ o, h'.get? e = some o ∧ o.cls = .type "StopIteration") → E (.ref e) { s with heap := h' }) :
    wpAny (model prog w) A (Builtin.«zip.__next__» ⟨[.ref z], []⟩) Q E s := by
  show wpAny _ _ (field (.ref z) 2 >>= _) _ _ _
  refine wpAny_bind (wpAny_field hz rfl (x := .bool false) rfl ?_)
  show wpAny _ _ (field (.ref z) 3 >>= _) _ _ _
  refine wpAny_bind (wpAny_field hz rfl (x := .ref TI) rfl ?_)
  refine wpAny_bind (wpAny_seqItems hTI rfl ?_)
  show wpAny _ _ (Builtin.SmallTypes.ownedTupleIsFree (.ref z) >>= _) _ _ _
  refine wpAny_bind ?_
  unfold Builtin.SmallTypes.ownedTupleIsFree
  refine wpAny_bind (wpAny_field hz rfl (x := .none) rfl (wpAny_pure ?_))
  simp only [if_true]
  refine wpAny_bind (wpAny_rule ?_)
  refine wpAny_bind (wpAny_field hz rfl (x := .ref TO) rfl ?_)
  refine wpAny_bind (wpAny_setField_rec hz (by simp) fun ha hza hsa => ?_)
  replace hza : IsZip ha z TI TO .ellipsis := hza
  have ka : ∀ c o, c ≠ z → s.heap.get? c = some o → ha.get? c = some o := fun c o c1 e => hsa.extBut _ _ c1 e
  refine wpAny_bind ?_
  simp only [List.zipIdx_cons, List.zipIdx_nil, List.forIn_cons, List.forIn_nil]
  refine wpAny_bind (wpAny_bind (wpAny_onRaise ?_))
  show wpAny _ _ (Builtin.SmallTypes.nextOf (.ref i1) >>= _) _ _ _
  cases hx : xs[k]? with
  | none =>
    refine wpAny_bind (S1.fin hh (S1.itAt h1 fun o e => ka _ o D.i1z e) (S1.isAt hl1 fun o e => ka _ o D.l1z e) hx fun hb e hsb he => ?_)
    obtain ⟨oe, hoe, hce⟩ := he
    have hzb : IsZip hb z TI TO .ellipsis := hsb _ _ D.i1z.symm hza
    have hez : e ≠ z := fun q => by subst q; rw [hzb] at hoe; cases hoe; simp at hce
    refine wpAny_setField_rec hzb (by simp) fun hc _ hsc => hE hc e (fun c o c1 _ c3 _ q => hsc.extBut _ _ c1 (hsb _ _ c3 (ka c o c1 q))) ⟨oe, hsc.extBut _ _ hez hoe, hce⟩
  | some x =>
    have hy : ys[k]? = none := by rcases hend with h | h; rw [hx] at h; cases h; exact h
    refine wpAny_bind (S1.item (S1.itAt h1 fun o e => ka _ o D.i1z e) (S1.isAt hl1 fun o e => ka _ o D.l1z e) hx fun hb h1b hsb => wpAny_pure ?_)
    have kb : ∀ c o, c ≠ z → c ≠ i1 → s.heap.get? c = some o → hb.get? c = some o := fun c o c1 c2 e => hsb.extBut _ _ c2 (ka c o c1 e)
    have hTOb : IsPair hb TO a b := kb _ _ D.TOz D.TOi1 hTO
    refine wpAny_bind (wpAny_seqItems hTOb rfl ?_)
    refine wpAny_bind (wpAny_updateSeq_pair hTOb fun hc hTOc hsc => ?_)
    have kc : ∀ c o, c ≠ z → c ≠ i1 → c ≠ TO → s.heap.get? c = some o → hc.get? c = some o := fun c o c1 c2 c3 e => hsc.extBut _ _ c3 (kb c o c1 c2 e)
    refine wpAny_bind (wpAny_letGo (wpAny_pure ?_))
    refine wpAny_bind (wpAny_bind (wpAny_onRaise ?_))
    show wpAny _ _ (Builtin.SmallTypes.nextOf (.ref i2) >>= _) _ _ _
    refine wpAny_bind (S2.fin hh (S2.itAt h2 fun o e => kc _ o D.i2z D.i12.symm D.TOi2.symm e) (S2.isAt hl2 fun o e => kc _ o D.l2z D.l2i1 D.l2TO e) hy fun hd e hsd he => ?_)
    obtain ⟨oe, hoe, hce⟩ := he
    have hzd : IsZip hd z TI TO .ellipsis := hsd _ _ D.i2z.symm (hsc.extBut _ _ D.TOz.symm (hsb.extBut _ _ D.i1z.symm hza))
    have hez : e ≠ z := fun q => by subst q; rw [hzd] at hoe; cases hoe; simp at hce
    refine wpAny_setField_rec hzd (by simp) fun hf _ hsf => hE hf e (fun c o c1 c2 c3 c4 q => hsf.extBut _ _ c1 (hsd _ _ c4 (kc c o c1 c3 c2 q))) ⟨oe, hsf.extBut _ _ hez hoe, hce⟩
theorem zsN_item {z TI TO i1 i2 l1 l2 : Addr} {k : Nat} {xs ys : Array Value} {x y a b : Value} {Q : Option Value → Shared → Prop} (D : ZipApart z TI TO i1 i2 l1 l2)
    (hz : IsZip s.heap z TI TO .none) (hTI : IsPair s.heap TI (.ref i1) (.ref i2)) (hTO : IsPair s.heap TO a b)
    (h1 : S1.It s.heap i1 l1 k) (h2 : S2.It s.heap i2 l2 k) (hl1 : S1.Is s.heap l1 xs) (hl2 : S2.Is s.heap l2 ys) (hx : xs[k]? = some x) (hy : ys[k]? = some y)
    (hQ : ∀ h', IsZip h' z TI TO (rawInt s.heap.objs.size) → IsPair h' TO x y → S1.It h' i1 l1 (k + 1) → S2.It h' i2 l2 (k + 1) → IsPair h' s.heap.objs.size x y → h'.objs.size = s.heap.objs.size + 1 →
      (∀ c o, c ≠ z → c ≠ TO → c ≠ i1 → c ≠ i2 → s.heap.get? c = some o → h'.get? c = some o) → Q (some (.ref s.heap.objs.size)) { s with heap := h' }) :
    wpAny (model prog w) A (pyNext (.ref z)) Q E s := by
  have hT : s.TypeIs (.ref z) "zip" := ⟨_, hz, rfl⟩
  unfold pyNext
  exact wpAny_bind (wpAny_attempt (wpAny_callSpecial?_slot (name := Str.ofString "__next__") hT F.slot_zip_next (wpAny_call_entry F.slot_zip_next hT F.entry_zip_next
    (zs_item S1 S2 D hz hTI hTO h1 h2 hl1 hl2 hx hy fun h' a1 a2 a3 a4 a5 a6 a7 => wpAny_pure (hQ h' a1 a2 a3 a4 a5 a6 a7)) (F.args_zip_next_1 _))))
theorem zsN_end {z TI TO i1 i2 l1 l2 : Addr} {k : Nat} {xs ys : Array Value} {a b : Value} {Q : Option Value → Shared → Prop} (hh : A.handled = none) (D : ZipApart z TI TO i1 i2 l1 l2)
    (hz : IsZip s.heap z TI TO .none) (hTI : IsPair s.heap TI (.ref i1) (.ref i2)) (hTO : IsPair s.heap TO a b)
    (h1 : S1.It s.heap i1 l1 k) (h2 : S2.It s.heap i2 l2 k) (hl1 : S1.Is s.heap l1 xs) (hl2 : S2.Is s.heap l2 ys) (hend : xs[k]? = none ∨ ys[k]? = none)
    (hQ : ∀ h', (∀ c o, c ≠ z → c ≠ TO → c ≠ i1 → c ≠ i2 → s.heap.get? c = some o → h'.get? c = some o) → Q none { s with heap := h' }) : wpAny (model prog w) A (pyNext (.ref z)) Q E s := by
  have hT : s.TypeIs (.ref z) "zip" := ⟨_, hz, rfl⟩
  unfold pyNext
  refine wpAny_bind (wpAny_attempt (wpAny_callSpecial?_slot (name := Str.ofString "__next__") hT F.slot_zip_next (wpAny_call_entry F.slot_zip_next hT F.entry_zip_next (zs_end S1 S2 hh D hz hTI hTO h1 h2 hl1 hl2 hend fun h' e hk he => ?_) (F.args_zip_next_1 _))))
  obtain ⟨o, ho, hc⟩ := he
  exact wpAny_bind (wpAny_isInstance (T := "StopIteration") (b := true) ⟨o, ho, hc⟩ isSubtype_stop (wpAny_pure (hQ _ hk)))
end
end Mi
namespace Mi
open PySem PySem.Spec PyProof.Rows L2
/-- a list at a, a tuple at b -/
def ItzM (K : PySem.W.Frag) (a b : Addr) : It :=
  ⟨fun i H => ∃ (xs ys : List V) (x y : V), SqL K H a xs ∧ SqT K H b ys ∧ xs[i]? = some x ∧ ys[i]? = some y,
    fun i H v H' => ∃ T x y, v = .ref T ∧ H T = none ∧ H' = upd H T (.tup [x, y]) ∧ (∀ xs, SqL K H a xs → xs[i]? = some x) ∧ ∀ ys, SqT K H b ys → ys[i]? = some y,
    fun i H => ∃ xs ys : List V, SqL K H a xs ∧ SqT K H b ys ∧ (xs.length ≤ i ∨ ys.length ≤ i)⟩
theorem turn_zipM {P : Program} {w : World} {K : PySem.W.Frag} {elts : List Expr} {kk : Nat} {tpos : Pos} {a b z TI TO i1 i2 : Addr} (D : ZipApart z TI TO i1 i2 a b) :
    Turn P w K (.Tuple elts kk tpos) (ItzM K a b) [z, TI, TO, i1, i2] z (fun i h => IsZip h z TI TO .none ∧ IsPair h TI (.ref i1) (.ref i2) ∧ (∃ x y, IsPair h TO x y) ∧ srcL.It h i1 a i ∧ srcT.It h i2 b i) where
  mem := by simp
  obj := fun i h st c hc => by
    obtain ⟨hz, hTI, ⟨x, y, hTO⟩, h1, h2⟩ := st
    simp only [List.mem_cons, List.not_mem_nil, or_false] at hc
    rcases hc with q | q | q | q | q <;> rw [q]
    · exact ⟨_, hz, fun v q => nomatch q⟩
    · exact ⟨_, hTI, fun v q => nomatch q⟩
    · exact ⟨_, hTO, fun v q => nomatch q⟩
    · exact srcL.obj h1
    · exact srcT.obj h2
  keep := fun i h h' st k => by
    obtain ⟨hz, hTI, ⟨x, y, hTO⟩, h1, h2⟩ := st
    exact ⟨k z (by simp) _ hz, k TI (by simp) _ hTI, ⟨x, y, k TO (by simp) _ hTO⟩, srcL.itAt h1 fun o q => k i1 (by simp) o q, srcT.itAt h2 fun o q => k i2 (by simp) o q⟩
  item := by
    intro X hP hw hK hc i pins s σ H E I hf st hg
    subst hP hw hK
    obtain ⟨hz, hTI, ⟨x0, y0, hTO⟩, h1, h2⟩ := st
    obtain ⟨xs, ys, x, y, hqx, hqy, hx, hy⟩ := hg
    obtain ⟨its, rv, p, _⟩ := I.list hqx
    obtain ⟨its2, rv2, p2, _⟩ := I.tuple hqy
    obtain ⟨u, hu, ru⟩ := rv.get hx
    obtain ⟨u2, hu2, ru2⟩ := rv2.get hy
    have hzl : z < s.heap.objs.size := Heap.lt_size hz
    refine zsN_item srcL srcT D hz hTI hTO h1 h2 p.isList p2 (x := u) (y := u2) (by simpa using hu) (by simpa using hu2) fun h' z' TO' h1' h2' hT hsz hk => ?_
    refine ⟨_, rfl, wpAny_letOwnedTupleGo_zip (s := { s with heap := h' }) z' fun h'' z'' sb => ?_⟩
    have hT2 : h''.get? s.heap.objs.size = some { cls := .type "tuple", data := .seq #[u, u2] } := (sb.2 _ (Nat.ne_of_gt hzl)).trans hT
    have new : ObjOk X.prog X.w (upd H s.heap.objs.size (.tup [x, y])) h'' s.heap.objs.size (.tup [x, y]) :=
      ⟨by show 2 ≤ sizeLine; decide, [u, u2], .cons ru (.cons ru2 .nil), ⟨_, hT2, rfl, _, rfl⟩⟩
    have I1 : Inv X pins σ (upd H s.heap.objs.size (.tup [x, y])) { s with heap := h'' } :=
      I.turnedNew (t' := s.toks) (ch := [z, TI, TO, i1, i2]) (fun c o hb q => (sb.2 c (fun q' => hb (by simp [q']))).trans (hk c o (fun q' => hb (by simp [q'])) (fun q' => hb (by simp [q'])) (fun q' => hb (by simp [q'])) (fun q' => hb (by simp [q'])) q)) hf (Nat.le_refl _) new
    refine ⟨.ref s.heap.objs.size, _, I1, rfl, ⟨_, x, y, rfl, I.hok.fresh (Nat.le_refl _), rfl, fun l hl => by rw [I.list_inj hl hqx]; exact hx, fun l hl => by rw [I.tuple_inj hl hqy]; exact hy⟩, ⟨z'', ?_, ⟨u, u2, ?_⟩, ?_, ?_⟩, fun c hcm => ?_⟩
    · exact (sb.2 _ D.TIz).trans (hk _ _ D.TIz D.TITO D.TIi1 D.TIi2 hTI)
    · exact (sb.2 _ D.TOz).trans TO'
    · exact srcL.itAt h1' fun o q => (sb.2 _ D.i1z).trans q
    · exact srcT.itAt h2' fun o q => (sb.2 _ D.i2z).trans q
    · have hlt : c < s.heap.objs.size := by
        simp only [List.mem_cons, List.not_mem_nil, or_false] at hcm
        rcases hcm with q | q | q | q | q <;> rw [q]
        · exact hzl
        · exact Heap.lt_size hTI
        · exact Heap.lt_size hTO
        · obtain ⟨_, e1, _⟩ := srcL.obj h1; exact Heap.lt_size e1
        · obtain ⟨_, e2, _⟩ := srcT.obj h2; exact Heap.lt_size e2
      rw [upd_ne (Nat.ne_of_lt hlt)]
      exact (hf c hcm).1
  done := by
    intro X hP hw hK hc i pins s σ H E I hf st hg
    subst hP hw hK
    obtain ⟨hz, hTI, ⟨x0, y0, hTO⟩, h1, h2⟩ := st
    obtain ⟨xs, ys, hqx, hqy, hend⟩ := hg
    obtain ⟨its, rv, p, _⟩ := I.list hqx
    obtain ⟨its2, rv2, p2, _⟩ := I.tuple hqy
    have l1 := rv.length
    have l2 := rv2.length
    have he : its.toArray[i]? = none ∨ its2.toArray[i]? = none := by
      rcases hend with q | q
      · exact .inl (by simp; omega)
      · exact .inr (by simp; omega)
    exact zsN_end srcL srcT (I.ok.hd hc) D hz hTI hTO h1 h2 p.isList p2 he fun h' hk => ⟨rfl, I.turnedL (t' := s.toks) (ch := [z, TI, TO, i1, i2]) (fun c o hb q =>
      hk c o (fun q' => hb (by simp [q'])) (fun q' => hb (by simp [q'])) (fun q' => hb (by simp [q'])) (fun q' => hb (by simp [q'])) q) hf⟩
  self := fun A i s Q E st h => wpAny_pyIter_zip st.1 h
/-! the call -/
abbrev zmH1 (h : Heap) (l1 : Addr) : Heap := h.push { cls := .type "list_iterator", data := .fields #[.ref l1, .int 0 0] }
abbrev zmH2 (h : Heap) (l1 l2 : Addr) : Heap := (zmH1 h l1).push { cls := .type "tuple_iterator", data := .fields #[.ref l2, .int 0 0] }
abbrev zmH3 (h : Heap) (l1 l2 : Addr) : Heap := (zmH2 h l1 l2).push { cls := .type "tuple", data := .seq #[.ref h.objs.size, .ref (zmH1 h l1).objs.size] }
abbrev zmH4 (h : Heap) (l1 l2 : Addr) : Heap := (zmH3 h l1 l2).push { cls := .type "tuple", data := .seq #[.none, .none] }
abbrev zmH5 (h : Heap) (l1 l2 : Addr) : Heap := (zmH4 h l1 l2).push { cls := .type "zip", data := .fields #[.none, .bool false, .bool false, .ref (zmH2 h l1 l2).objs.size, .ref (zmH3 h l1 l2).objs.size] }
theorem meets_zm (l1 l2 : Addr) (xs ys : Array Value) :
    Meets (Builtin.«zip.__new__» ⟨[.type "zip", .ref l1, .ref l2], []⟩) (fun _ R s => s.heap.IsList l1 xs ∧ s.heap.IsTuple l2 ys ∧
      R (.ok (.ret (.ref (zmH4 s.heap l1 l2).objs.size))) { s with heap := zmH5 s.heap l1 l2 }) :=
  .of_wp fun prog w A R s h => by
    obtain ⟨hp, g, d, tk, os⟩ := s; obtain ⟨hl1, hl2, h⟩ := h
    have hsub := sub_zip
    have hL1 : Heap.IsList (Shared.heap ⟨hp, g, d, tk, os⟩) l1 xs := hl1
    have hL2 : Heap.IsTuple (Shared.heap ⟨hp.push { cls := .type "list_iterator", data := .fields #[.ref l1, .int 0 0] }, g, d, tk, os⟩) l2 ys := Heap.IsTuple.push hl2 _
    wp_walk using wpAny_pyIter_list hL1, wpAny_pyIter_tuple hL2
    exact ⟨_, rfl, h⟩
theorem call_zm {prog : Program} {w : World} {A : Around} {E : Value → Shared → Prop} {s : Shared} {l1 l2 : Addr} {xs ys : Array Value} {Q : Value → Shared → Prop} (hl1 : s.heap.IsList l1 xs) (hl2 : s.heap.IsTuple l2 ys)
    (h : ∀ h', IsZip h' (s.heap.objs.size + 4) (s.heap.objs.size + 2) (s.heap.objs.size + 3) .none → IsPair h' (s.heap.objs.size + 2) (.ref s.heap.objs.size) (.ref (s.heap.objs.size + 1)) →
      IsPair h' (s.heap.objs.size + 3) .none .none → h'.IsListIter s.heap.objs.size l1 0 → h'.IsTupleIter (s.heap.objs.size + 1) l2 0 → (∀ c o, s.heap.get? c = some o → h'.get? c = some o) → Q (.ref (s.heap.objs.size + 4)) { s with heap := h' }) :
    wpAny (model prog w) A (call (.type "zip") [.ref l1, .ref l2]) Q E s := by
  refine callType_new F.called_zip (by decide) (F.typeCall_zip_2 _ _) (F.newCall_zip_2 _ _) (fun obj => F.args_object_init_3 obj _ _) F.entry_zip_new (meets_zm l1 l2 xs ys) ⟨hl1, hl2, ?_⟩
  have z1 : (zmH1 s.heap l1).objs.size = s.heap.objs.size + 1 := Heap.size_push ..
  have z2 : (zmH2 s.heap l1 l2).objs.size = s.heap.objs.size + 2 := by rw [Heap.size_push, z1]
  have z3 : (zmH3 s.heap l1 l2).objs.size = s.heap.objs.size + 3 := by rw [Heap.size_push, z2]
  have z4 : (zmH4 s.heap l1 l2).objs.size = s.heap.objs.size + 4 := by rw [Heap.size_push, z3]
  have new : ∀ (h : Heap) (o : Obj), o.isFreed = false → (h.push o).get? h.objs.size = some o := fun h o e => Heap.get?_push_size _ e
  have up : ∀ {h : Heap} {c : Addr} {o : Obj} (o' : Obj), h.get? c = some o → (h.push o').get? c = some o := fun o' e => Heap.get?_push_of_some _ e
  have g5 : (zmH5 s.heap l1 l2).get? (zmH4 s.heap l1 l2).objs.size = some _ := new _ _ rfl
  have g4 : (zmH5 s.heap l1 l2).get? (zmH3 s.heap l1 l2).objs.size = some _ := up _ (new _ _ rfl)
  have g3 : (zmH5 s.heap l1 l2).get? (zmH2 s.heap l1 l2).objs.size = some _ := up _ (up _ (new _ _ rfl))
  have g2 : (zmH5 s.heap l1 l2).get? (zmH1 s.heap l1).objs.size = some _ := up _ (up _ (up _ (new _ _ rfl)))
  have g1 : (zmH5 s.heap l1 l2).get? s.heap.objs.size = some _ := up _ (up _ (up _ (up _ (new _ _ rfl))))
  show _ ∧ _
  rw [z2, z3, z4] at g5
  rw [z1, z2] at g3
  rw [z3] at g4
  rw [z1] at g2
  rw [z4]
  exact ⟨⟨_, g5, rfl⟩, h _ g5 g3 g4 ⟨_, g1, rfl, rfl⟩ ⟨_, g2, rfl, rfl⟩ fun c o x => up _ (up _ (up _ (up _ (up _ x))))⟩
def iZipM (K : PySem.W.Frag) (ta : TA) : TI := fun σ H R => ta σ H fun vs H1 => ∃ a b xs ys, vs = [.ref a, .ref b] ∧ SqL K H1 a xs ∧ SqT K H1 b ys ∧ R (ItzM K a b) H1
theorem pi_zipM {X : Cx} {e e2 : Expr} {ta : TA} {p pos tpos : Pos} {elts : List Expr} {kk : Nat} (hg : Gl X "zip") (hm : X.mg "zip" = none) (ha : PA X [e, e2] ta)
    (hs : starEach [e, e2] X.env = (false, eval e X.env) :: starEach [e2] X.env := by rfl) (hpl : (backTo pos (starEach [e2] X.env)).any (·.1) = false := by rfl) :
    PI X (.Tuple elts kk tpos) (.Call (.Name "zip" p) [e, e2] [] pos) (iZipM X.K ta) := by
  refine ⟨fun pins s σ H R I h => ?_⟩
  refine Call_ (ld_blt I hg hm PyProof.Rows.boot_zip (PyProof.Rows.callWith_type1 (thn (ha.run pos pins s σ H _ I h) fun us s1 ⟨vs, H1, I1, r1, q1⟩ => ?_) hs hpl))
  obtain ⟨a, b, xs, ys, ex, hqx, hqy, q⟩ := q1
  subst ex
  cases r1 with
  | cons r rr => cases rr with
    | cons r' rr =>
      cases rr
      cases r
      cases r'
      obtain ⟨its, rv, p1, _⟩ := I1.list hqx
      obtain ⟨its2, rv2, p2, _⟩ := I1.tuple hqy
      obtain ⟨o2, ho2, _⟩ := id p2
      have hb5 : ∀ c, c ∈ [s1.heap.objs.size + 4, s1.heap.objs.size + 2, s1.heap.objs.size + 3, s1.heap.objs.size, s1.heap.objs.size + 1] → FpOk X pins H1 c := fun c hcm => by
        have hle : s1.heap.objs.size ≤ c := by
          simp only [List.mem_cons, List.not_mem_nil, or_false] at hcm
          rcases hcm with z | z | z | z | z
          · rw [z]; exact Nat.le_add_right _ _
          · rw [z]; exact Nat.le_add_right _ _
          · rw [z]; exact Nat.le_add_right _ _
          · rw [z]; exact Nat.le_refl _
          · rw [z]; exact Nat.le_add_right _ _
        exact I1.fpOk hle (I1.hok.fresh hle)
      refine call_zm p1.isList (show s1.heap.IsTuple b its2.toArray from p2) fun h' hz hTI hTO h1 h2 hk => wpAny_pyIter_zip hz ?_
      have I2 : Inv X pins σ H1 { s1 with heap := h' } := I1.kept (t' := s1.toks) hk
      exact ⟨s1.heap.objs.size + 4, [s1.heap.objs.size + 4, s1.heap.objs.size + 2, s1.heap.objs.size + 3, s1.heap.objs.size, s1.heap.objs.size + 1], _, _, H1, rfl, I2, turn_zipM (PySem.W.ktu_apart s1.heap.objs.size a b p1.lt (Heap.lt_size ho2)), ⟨hz, hTI, ⟨_, _, hTO⟩, h1, h2⟩, hb5, q⟩
variable [Tb]
theorem cov_zipM {K : PySem.W.Frag} {w : Wd} {a b : Addr} {vs us : List V} {ds es : List D} (hS : w.S a) (e : w.H a = some (.lst vs)) (r : w.reps K vs ds) (hS' : w.S b) (e' : w.H b = some (.tup us)) (r' : w.reps K us es) : Covers K w (ItzM K a b) (zipD ds es) := by
  have at' : ∀ w', Grow w w' → w'.H a = some (.lst vs) := fun w' g => g.fr a _ e (.inl hS)
  have at2 : ∀ w', Grow w w' → w'.H b = some (.tup us) := fun w' g => g.fr b _ e' (.inl hS')
  have l1 := r.length
  have l2 := r'.length
  refine ⟨fun w' g F i hi => ?_, fun w' g F i d x H' hd y => ?_, fun w' g F i hi => ⟨vs, us, .of (at' w' g), .of (at2 w' g), ?_⟩⟩
  · rw [zipD_len] at hi
    have k1 : i < vs.length := by omega
    have k2 : i < us.length := by omega
    exact ⟨vs, us, vs[i], us[i], .of (at' w' g), .of (at2 w' g), List.getElem?_eq_getElem k1, List.getElem?_eq_getElem k2⟩
  · obtain ⟨T, x, y, rfl, hT, rfl, h1, h2⟩ := y
    obtain ⟨d1, d2, z1, z2, rfl⟩ := zipD_get _ _ _ _ hd
    obtain ⟨v, u1, u2⟩ := (g.reps r).get z1
    obtain ⟨v', u3, u4⟩ := (g.reps r').get z2
    have e1 := h1 vs (.of (at' w' g))
    have e2 := h2 us (.of (at2 w' g))
    rw [u1] at e1; cases e1
    rw [u3] at e2; cases e2
    exact pair_new F hT u2 u4
  · rw [zipD_len] at hi; omega
@[simp] def asZipM : D → D → M (List D)
  | .lst xs, .tup ys => M.ret (zipD xs ys)
  | _, _ => M.stuck
@[simp] def iZipMD (fs : Env → M (List D)) : Env → M (List D) := fun ρ => (fs ρ).bind (two asZipM)
section
variable {X : Cx} {W : WX} {a b : Expr} {fs : Env → M (List D)} {pos p : Pos}
theorem mi_zipM {elts : List Expr} {kk : Nat} {tpos : Pos} (hg : Gl X "zip") (hm : X.mg "zip" = none) (ha : MA X W [a, b] fs)
    (hs : starEach [a, b] X.env = (false, eval a X.env) :: starEach [b] X.env := by rfl) (hpl : (backTo pos (starEach [b] X.env)).any (·.1) = false := by rfl) :
    MI X W (.Tuple elts kk tpos) (.Call (.Name "zip" p) [a, b] [] pos) (iZipMD fs) := by
  refine PI.sub (pi_zipM hg hm ha hs hpl) ?_
  rintro σ H R ⟨w, ρ, rfl, F, E, q⟩
  refine ⟨w, ρ, rfl, F, E, Holds.thn q fun ds w1 g1 F1 q1 vs rs => two_thn q1 rs fun v v' d d' ev r r' q2 => ?_⟩
  subst ev
  cases r with
  | lst h1 h2 h3 h4 => cases r' with
    | tup k1 k2 k3 k4 => exact ⟨_, _, _, _, rfl, .of h2, .of k2, Holds.here F1 q2 _ (cov_zipM h1 h2 h4 k1 k2 k4)⟩
    | _ => exact q2.no
  | _ => exact q2.no
end
end Mi
/-! objects: defs that use the store, attributes, methods, making -/
namespace Mi
open PySem PySem.Spec PyProof.Rows L2
variable [Tb]
def fnM (p n : Nat) (s : SM) (ds : List D) : M D := fun ω => match s (ds.map some ++ List.replicate (n - p) none) ω with
  | .ret d ω' => .ok d ω'
  | .next _ ω' => .ok .non ω'
  | .exc c _ ω' => .raise c ω'
  | _ => .stuck
def spM (K : PySem.W.Frag) (mg : Str → Option Value) (n : Nat) (G : List D → M D) : Sp := fun vs H Q E => ∃ w ds, w.H = H ∧ vs.length = n ∧ Fits K w ∧ w.reps K vs ds ∧ match G ds w.ω with
  | .ok d ω' => ∀ w' v, Grow w w' → Fits K w' → w'.ω = ω' → w'.rep K v d → Q v w'.H
  | .raise c ω' => ∀ w' u, Grow w w' → Fits K w' → w'.ω = ω' → mg c = some u → E u none w'.H
  | .stuck => False
section
variable {P : Program} {w : World} {K : PySem.W.Frag} {mg : Str → Option Value} {base : Heap}
theorem fnM_ok {x qual : Str} {st : Stmt} {f : Addr} {fd : FuncData} {N ps : List Str} {k : Nat} {body : SM} (F : Fun K x qual st f fd) (S : FnScope N ps (defScope st))
    (hb : ∀ (cdv : Value) (A : Around) (outer : List PySem.Env) (s : Shared) (H : Hp) (E : XK), Room k (A.deeper (envOfC qual (defScope st) s.heap.objs.size f cdv)) →
      Takes (cxOf (L2.CX P w) P w K mg base N qual (defScope st) f cdv A outer s H E) (fun cls d _ H => E cls d H) →
      PassesOwn (model P w) (A.deeper (envOfC qual (defScope st) s.heap.objs.size f cdv)) (envOfC qual (defScope st) s.heap.objs.size f cdv) (cxOf (L2.CX P w) P w K mg base N qual (defScope st) f cdv A outer s H E).xe →
      MSs (cxOf (L2.CX P w) P w K mg base N qual (defScope st) f cdv A outer s H E) (fun cls d _ H => E cls d H) (defBody st) body) :
    FnOk P w K mg base (L2.CX P w) (k + 1) f fd ps (spM K mg ps.length (fnM ps.length N.length body)) := by
  refine Fun.okX F S (fun vs H Q E h => ?_) (fun cdv A outer s H vs Q E hr h => ⟨_, hb cdv A outer s H E hr (takes_of rfl rfl rfl rfl) (passes_of (X := cxOf (L2.CX P w) P w K mg base N qual (defScope st) f cdv A outer s H E) rfl), ?_⟩)
  · obtain ⟨_, _, _, h, _⟩ := h; exact h
  · obtain ⟨wd, ds, rfl, hl, F', r, q⟩ := h
    refine ⟨wd, ds.map some ++ List.replicate (N.length - ps.length) none, rfl, F', hl ▸ start_rep r, ?_⟩
    unfold fnM at q
    cases z : body (ds.map some ++ List.replicate (N.length - ps.length) none) wd.ω with
    | ret d ω => rw [z] at q; exact fun w' v g F' e rv => q w' v g F' e rv
    | next ρ ω => rw [z] at q; exact fun w' σ' g F' e rv => q w' .non g F' e .non
    | exc c ρ ω => rw [z] at q; exact fun w' σ' u g F' e rv m => q w' u g F' e m
    | brk ρ ω => rw [z] at q; exact q.elim
    | cont ρ ω => rw [z] at q; exact q.elim
    | stuck => rw [z] at q; exact q.elim
/-- what is asked of the caller -/
theorem spM_of {W : WX} {σ : L2.St} {wd : Wd} {vs : List V} {ds : List D} {n : Nat} {G : List D → M D} {Q : VK} (F : Fits K wd) (r : wd.reps K vs ds) (hl : ds.length = n) (h : Ans K mg W σ wd (G ds) Q) : spM K mg n G vs wd.H Q (WE W σ) := by
  refine ⟨wd, ds, rfl, r.length.trans hl, F, r, ?_⟩
  have h' : Holds K mg W σ wd (G ds wd.ω) _ := h
  cases z : G ds wd.ω with
  | ok d ω => rw [z] at h'; exact fun w' v g F' e rv => h' w' g F' e v rv
  | raise c ω => rw [z] at h'; exact fun w' u g F' e m => h' w' u g F' e m
  | stuck => rw [z] at h'; exact h'.elim
end
@[simp] def callM (n : Nat) (G : List D → M D) (ds : List D) : M D := if ds.length = n then G ds else M.stuck
section
variable {X : Cx} {W : WX} {a b o : Expr} {es : List Expr} {fs : Env → M (List D)} {f g : Env → M D} {pos p apos pos' : Pos}
theorem me_callM {k : Nat} {fa : Addr} {fd : FuncData} {ps : List Str} {G : List D → M D} {x : Str} (Gk : FnOk X.prog X.w X.K X.mg X.base (L2.CX X.prog X.w) k fa fd ps (spM X.K X.mg ps.length G)) (hr : Room k X.A) (hg : Gl X x) (hm : X.mg x = some (.ref fa)) (hk : PySem.W.keepIn X.K (.ref fa) = true)
    (hb : Binds X.K fd ps []) (tk : Takes X W) (ha : MA X W (a :: es) fs) (hdb : (x == ("__debug__" : Str)) = false := by decide) (he : starEach (a :: es) X.env = (false, eval a X.env) :: starEach es X.env := by rfl) (hpl : (backTo pos (starEach es X.env)).any (·.1) = false := by rfl) :
    ME X W (.Call (.Name x p) (a :: es) [] pos) (eN (callM ps.length G) fs) := by
  refine PE.sub (pe_callS Gk hr hg hm hk hb (fun σ => passAt tk σ) ha hdb he hpl) ?_
  rintro σ H Q ⟨w, ρ, rfl, F, E, h⟩
  refine ⟨w, ρ, rfl, F, E, Holds.thn h fun ds w1 g1 F1 h1 xs rs => ?_⟩
  obtain ⟨c, h1⟩ := Holds.ite h1
  exact spM_of F1 rs c h1
/-! attributes -/
/-- what a class's text must say -/
structure ClsOk (K : PySem.W.Frag) (C : Str) (Ca : Addr) : Prop where
  ns : PySem.W.nsIn K mainGlobals C = some (some (.ref Ca))
  cls : Cls K Ca
theorem ins_at {K : PySem.W.Frag} {C : Str} {Ca : Addr} (c : ClsOk K C Ca) {w : Wd} {al : Addr} {fl : List (Str × D)} (h : CellOk K w al (.ins C fl)) : ∃ dx vs, w.H al = some (.ins Ca dx ((fl.map (·.1)).zip vs)) ∧ w.reps K vs (fl.map (·.2)) := by
  obtain ⟨Ca', dx, vs, h1, h2, h3⟩ := h
  rw [c.ns] at h1
  cases h1
  exact ⟨dx, vs, h2, h3⟩
theorem lookup_zip {K : PySem.W.Frag} {S : Addr → Prop} {μ : List Addr} {H : Hp} {x : Str} {d : D} : ∀ {fl : List (Str × D)} {vs : List V}, Reps K S μ H vs (fl.map (·.2)) → fl.lookup x = some d → ∃ v, ((fl.map (·.1)).zip vs).lookup x = some v ∧ Rep K S μ H v d
  | [], _, _, e => by cases e
  | (y, d') :: fl, _, .cons (v := v) (vs := vs) h t, e => by
    show ∃ v', (((y, v) :: (fl.map (·.1)).zip vs).lookup x = some v') ∧ _
    rw [List.lookup_cons] at e ⊢
    by_cases q : (x == y) = true
    · rw [q] at e ⊢; cases e; exact ⟨v, rfl, h⟩
    · have q' : (x == y) = false := by simpa using q
      rw [q'] at e ⊢; exact lookup_zip t e
theorem lookup_zip_none {K : PySem.W.Frag} {S : Addr → Prop} {μ : List Addr} {H : Hp} {x : Str} : ∀ {fl : List (Str × D)} {vs : List V}, Reps K S μ H vs (fl.map (·.2)) → fl.lookup x = none → ((fl.map (·.1)).zip vs).lookup x = none
  | [], _, _, _ => rfl
  | (y, d') :: fl, _, .cons (v := v) (vs := vs) h t, e => by
    show (((y, v) :: (fl.map (·.1)).zip vs).lookup x = none)
    rw [List.lookup_cons] at e ⊢
    by_cases q : (x == y) = true
    · rw [q] at e; cases e
    · have q' : (x == y) = false := by simpa using q
      rw [q'] at e ⊢; exact lookup_zip_none t e
def getF (C f : Str) (d : D) : M D := fun ω => match d with
  | .cell n => match ω[n]? with
    | some (.ins C' fl) => if C' = C then (match fl.lookup f with
      | some v => .ok v ω
      | none => .stuck) else .stuck
    | _ => .stuck
  | _ => .stuck
@[simp] def eFld (C f : Str) (e : Env → M D) : Env → M D := fun ρ => (e ρ).bind (getF C f)
theorem me_fld {C x : Str} {Ca : Addr} (c : ClsOk X.K C Ca) (n : NoAttr X.K Ca x) (ha : ME X W a f) (hb : attributeBase a x X.env (eval a X.env) = eval a X.env := by rfl) : ME X W (.Attribute a x pos) (eFld C x f) := by
  refine PE.sub (pe_fld ha hb) ?_
  rintro σ H Q ⟨w, ρ, rfl, F, E, h⟩
  refine ⟨w, ρ, rfl, F, E, Holds.thn h fun d w1 g1 F1 h1 v rv => ?_⟩
  unfold getF at h1
  cases rv with
  | @cell m al hm =>
    dsimp only at h1
    cases z : w1.ω[m]? with
    | none => rw [z] at h1; exact h1.elim
    | some cc =>
      rw [z] at h1
      cases cc with
      | ins C' fl =>
        dsimp only at h1
        by_cases q : C' = C
        · subst q
          rw [if_pos rfl] at h1
          rcases F1.live m al _ hm z with e | ⟨nS, k⟩
          · cases e
          · obtain ⟨dx, vs, k1, k2⟩ := ins_at c k
            cases q2 : fl.lookup x with
            | none => rw [q2] at h1; exact h1.elim
            | some d2 =>
              rw [q2] at h1
              obtain ⟨v2, e1, r2⟩ := lookup_zip k2 q2
              exact ⟨al, Ca, dx, _, v2, rfl, k1, c.cls, n, e1, h1 w1 (Grow.refl _) F1 rfl v2 r2⟩
        · rw [if_neg q] at h1; exact h1.elim
      | _ => exact h1.elim
  | _ => exact h1.elim
/-- a field set -/
def putFd (x : Str) (d : D) : List (Str × D) → List (Str × D)
  | [] => [(x, d)]
  | (y, e) :: r => if y = x then (y, d) :: r else (y, e) :: putFd x d r
theorem putF_zip {K : PySem.W.Frag} {S : Addr → Prop} {μ : List Addr} {H : Hp} {x : Str} {v : V} {d : D} (r : Rep K S μ H v d) : ∀ {fl : List (Str × D)} {vs : List V}, Reps K S μ H vs (fl.map (·.2)) →
    ∃ vs', putF x v ((fl.map (·.1)).zip vs) = ((putFd x d fl).map (·.1)).zip vs' ∧ Reps K S μ H vs' ((putFd x d fl).map (·.2))
  | [], _, .nil => ⟨[v], rfl, .cons r .nil⟩
  | (y, d') :: fl, _, .cons (v := v') (vs := vs) h t => by
    show ∃ vs', (if y = x then (y, v) :: (fl.map (·.1)).zip vs else (y, v') :: putF x v ((fl.map (·.1)).zip vs)) = _ ∧ _
    unfold putFd
    by_cases q : y = x
    · rw [if_pos q, if_pos q]
      exact ⟨v :: vs, rfl, .cons r t⟩
    · rw [if_neg q, if_neg q]
      obtain ⟨vs', e1, e2⟩ := putF_zip r t
      exact ⟨v' :: vs', by rw [e1]; rfl, .cons h e2⟩
def setF (C x : Str) (d c : D) : M Unit := fun ω => match c with
  | .cell n => match ω[n]? with
    | some (.ins C' fl) => if C' = C ∧ fl.length < 1000 then .ok () (ω.set n (.ins C' (putFd x d fl))) else .stuck
    | _ => .stuck
  | _ => .stuck
def sFldS (C x : Str) (f o : Env → M D) : SM := thenS f fun d => thenS o fun c => thenS (fun _ => setF C x d c) fun _ => sNext
theorem ms_fld {C x : Str} {Ca : Addr} (c : ClsOk X.K C Ca) (n : NoAttr X.K Ca x) (hv : ME X W a f) (ho : ME X W b g) (hs : swapsWith a (some (.Attribute b x pos')) pos.line X.env = pure false := by rfl) : MS X W (.Assign [.Attribute b x pos'] a pos) (sFldS C x f g) := by
  refine PS.sub (ps_fld ho hv hs) ?_
  rintro D σ H ⟨w, ρ, rfl, F, E, q⟩
  refine ⟨w, ρ, rfl, F, E, HoldsS.thn E q fun d w1 g1 F1 E1 q1 v rv => ?_⟩
  refine ⟨w1, ρ, rfl, F1, E1, HoldsS.thn E1 q1 fun cc w2 g2 F2 E2 q2 y ry => ?_⟩
  have rv' := g2.rep rv
  unfold thenS setF at q2
  cases ry with
  | @cell m al hm =>
    dsimp only at q2
    cases z : w2.ω[m]? with
    | none => rw [z] at q2; exact q2.no
    | some cx =>
      rw [z] at q2
      cases cx with
      | ins C' fl =>
        dsimp only at q2
        by_cases hq : C' = C ∧ fl.length < 1000
        · rw [if_pos hq] at q2
          obtain ⟨rfl, hl⟩ := hq
          dsimp only at q2
          rcases F2.live m al _ hm z with e | ⟨nS, k⟩
          · cases e
          · obtain ⟨dx, vs, k1, k2⟩ := ins_at c k
            obtain ⟨vs', e1, e2⟩ := putF_zip (x := x) rv' k2
            have hl2 : ((fl.map (·.1)).zip vs).length < 1000 := by rw [List.length_zip, List.length_map]; omega
            have wr : Wr (w2.H al) := by rw [k1]; exact wr_ins
            have gr0 : Grow w2 (w2.put m al (HO.ins Ca dx (((putFd x d fl).map fun (q : Str × Mi.D) => q.1).zip vs')) (.ins C' (putFd x d fl))) := put_grow hm nS wr
            obtain ⟨g4, F4⟩ := put_all F2 hm nS wr (o := HO.ins Ca dx (((putFd x d fl).map fun (q : Str × Mi.D) => q.1).zip vs')) (c := .ins C' (putFd x d fl)) ⟨Ca, dx, vs', c.ns, upd_same, gr0.reps e2⟩
            refine ⟨al, Ca, dx, _, rfl, k1, c.cls, n, hl2, ?_⟩
            rw [e1]
            exact q2 _ σ g4 F4 rfl (E2.grow g4)
        · rw [if_neg hq] at q2; exact q2.no
      | _ => exact q2.no
  | _ => exact q2.no
end
/-! methods -/
section
variable {X : Cx} {CX : CXT} {k : Nat} {f C : Addr} {fd : FuncData} {ps : List Str} {sp : Sp} {E : L2.St → XK} {x m : Str} {p pos apos : Pos} {e o : Expr} {es : List Expr} {ta : TE} {t : TA}
def tMethS (C : Addr) (m : Str) (sp : Sp) (E : L2.St → XK) (ta : TE) (t : TA) : TE := fun σ H Q => ta σ H fun x H1 => ∃ a dx fs, x = .ref a ∧ H1 a = some (.ins C dx fs) ∧ fs.lookup m = none ∧ t σ H1 fun vs H2 => sp (x :: vs) H2 Q (E σ)
theorem pe_methS {pl : Sem Bool} (he : PE X o ta) (c : Cls X.K C) (hm : Meth X.K C m f) (F : FnOk X.prog X.w X.K X.mg X.base CX k f fd ps sp) (hr : Room k X.A) (hb : Binds X.K fd ps []) (hx : ∀ σ, PassesAt CX X σ (E σ)) (ha : PA X (e :: es) t)
    (hst : starEach (e :: es) X.env = (false, eval e X.env) :: starEach es X.env := by rfl) (hpl : (backTo pos (starEach es X.env)).any (·.1) = false := by rfl)
    (ht : eval (.Call (.Attribute o m apos) (e :: es) [] pos) X.env = (do
      let ov ← eval o X.env
      standAt apos.atName
      let (f, first) ← holding [ov] (getMethod ov m pl)
      callWith pos f first (backTo pos (starEach (e :: es) X.env)) (backToKw pos (keywordEach [] X.env))) := by rfl) :
    PE X (.Call (.Attribute o m apos) (e :: es) [] pos) (tMethS C m sp E ta t) := by
  refine ⟨fun pins s σ H Q I h => ?_⟩
  refine PySem.W.methodCall_KW (pl := pl) (thn (he.run pins s σ H _ I h) fun u s1 ⟨x, H1, I1, rx, a, dx, fs, ex, ea, l, q⟩ => ?_) ht
  subst ex
  obtain rfl : u = Value.ref a := rx
  refine getmeth_ok I1 ea c hm l ?_
  refine PySem.W.callWith_K (first := [.ref a]) (h₀ := X.base) I.ok.mod.kin hm.kp (thn (ha.run pos pins s1 σ H1 _ I1 q) fun us s2 ⟨vs, H2, I2, r, q2⟩ => ⟨I2.kIn, ?_⟩) hst hpl
  exact run_fnS (us := .ref a :: us) (vs := .ref a :: vs) F hr hb (hx σ) I2 (.cons rfl r) q2
theorem pe_methS0 {pl : Sem Bool} (he : PE X o ta) (c : Cls X.K C) (hm : Meth X.K C m f) (F : FnOk X.prog X.w X.K X.mg X.base CX k f fd ps sp) (hr : Room k X.A) (hb : Binds X.K fd ps []) (hx : ∀ σ, PassesAt CX X σ (E σ))
    (ht : eval (.Call (.Attribute o m apos) [] [] pos) X.env = (do
      let ov ← eval o X.env
      standAt apos.atName
      let (f, first) ← holding [ov] (getMethod ov m pl)
      callWith pos f first (backTo pos (starEach [] X.env)) (backToKw pos (keywordEach [] X.env))) := by rfl) :
    PE X (.Call (.Attribute o m apos) [] [] pos) (tMethS C m sp E ta tNil) := by
  refine ⟨fun pins s σ H Q I h => ?_⟩
  refine PySem.W.methodCall_KW (pl := pl) (thn (he.run pins s σ H _ I h) fun u s1 ⟨x, H1, I1, rx, a, dx, fs, ex, ea, l, q⟩ => ?_) ht
  subst ex
  obtain rfl : u = Value.ref a := rx
  refine getmeth_ok I1 ea c hm l ?_
  exact PySem.W.callWith_K0 (first := [.ref a]) I1.kIn hm.kp (run_fnS (us := [.ref a]) (vs := [.ref a]) F hr hb (hx σ) I1 (.cons rfl .nil) q)
theorem run_makeS {pins : List (Addr × Obj)} {σ : L2.St} {H : Hp} {s : Shared} {Q : VK} {us : List Value} {vs : List V} (M : Mk X.K C f) (F : FnOk X.prog X.w X.K X.mg X.base CX k f fd ps sp) (hr : Room (k + 1) X.A) (hb : Binds X.K fd ps [])
    (hx : PassesAt CX X σ (E σ)) (I : Inv X pins σ H s) (r : Vals vs us)
    (h : ∀ x dx, H x = none → H dx = none → dx ≠ x → sp (.ref x :: vs) (upd (upd H dx (.own x)) x (.ins C dx [])) (fun v H2 => v = .non ∧ Q (.ref x) H2) (E σ)) :
    wpAny (model X.prog X.w) X.A (call (.ref C) us) (EP X pins σ Q) X.xe s := by
  have hq := h (s.heap.objs.size + 1) s.heap.objs.size (I.hok.fresh (Nat.le_succ _)) (I.hok.fresh (Nat.le_refl _)) (Nat.ne_of_lt (Nat.lt_succ_self _))
  have I2 := Inv.made (C := C) I
  have r2 : Vals (V.ref (s.heap.objs.size + 1) :: vs) (Value.ref (s.heap.objs.size + 1) :: us) := .cons rfl r
  have hl : ((Value.ref (s.heap.objs.size + 1) :: us) ++ []).length = ps.length := by
    have e := r2.length
    rw [F.len _ _ _ _ hq] at e
    rw [List.append_nil]; exact e.symm
  have hb2 := hb _ (Value.ref (s.heap.objs.size + 1) :: us) I2.kIn hl
  rw [List.append_nil] at hb2
  refine wpAny_call (make_map (f := f) I.kIn M.makes M.init (beq_iff_eq.mp M.fn) (codeAny_mono (F.run _ X.stack _ _ ⟨Value.ref (s.heap.objs.size + 1) :: us, []⟩ (Value.ref (s.heap.objs.size + 1) :: us) _ _ (E σ) (hr.make C us [])
    (I2.env0.make C us []) hb2 r2 hq) fun r s' hq' => ?_))
  cases r with
  | error e => exact hx pins _ _ e s' I2 hq'
  | ok fl =>
    cases fl with
    | ret u =>
      obtain ⟨v, H', I3, rv, ev, q3⟩ := I2.after hq'
      subst ev
      exact ⟨rv, ⟨V.ref (s.heap.objs.size + 1), H', I3, rfl, q3⟩⟩
    | next => exact False.elim hq'
    | brk => exact False.elim hq'
    | cont => exact False.elim hq'
def tMakeS (C : Addr) (sp : Sp) (E : L2.St → XK) (t : TA) : TE := fun σ H Q => t σ H fun vs H1 => ∀ x dx, H1 x = none → H1 dx = none → dx ≠ x → sp (.ref x :: vs) (upd (upd H1 dx (.own x)) x (.ins C dx [])) (fun v H2 => v = .non ∧ Q (.ref x) H2) (E σ)
theorem pe_makeS (M : Mk X.K C f) (F : FnOk X.prog X.w X.K X.mg X.base CX k f fd ps sp) (hr : Room (k + 1) X.A) (hg : Gl X x) (hm : X.mg x = some (.ref C)) (hb : Binds X.K fd ps []) (hx : ∀ σ, PassesAt CX X σ (E σ))
    (ha : PA X (e :: es) t) (hdb : (x == ("__debug__" : Str)) = false := by decide) (he : starEach (e :: es) X.env = (false, eval e X.env) :: starEach es X.env := by rfl) (hpl : (backTo pos (starEach es X.env)).any (·.1) = false := by rfl) :
    PE X (.Call (.Name x p) (e :: es) [] pos) (tMakeS C sp E t) := by
  refine ⟨fun pins s σ H Q I h => ?_⟩
  refine wpAny_Call_Name_kw (ld_glob I hg hm ?_ hdb)
  refine PySem.W.callWith_K (h₀ := X.base) I.ok.mod.kin M.kp (thn (ha.run pos pins s σ H _ I h) fun us s1 ⟨vs, H1, I1, r, q⟩ => ⟨I1.kIn, ?_⟩) he hpl
  exact run_makeS M F hr hb (hx σ) I1 r q
end
end Mi
/-! methods and makings as store functions -/
namespace Mi
open PySem PySem.Spec PyProof.Rows L2
variable [Tb]
def chkI (C m : Str) (d : D) (ω : List Cell) : Bool := match d with
  | .cell n => match ω[n]? with
    | some (.ins C' fl) => decide (C' = C) && (fl.lookup m).isNone
    | _ => false
  | _ => false
def eMeth (C m : Str) (n : Nat) (G : List D → M D) (f : Env → M D) (fs : Env → M (List D)) : Env → M D := fun ρ => (f ρ).bind fun d ω => if chkI C m d ω = true then ((fs ρ).bind fun ds => callM n G (d :: ds)) ω else .stuck
def makeM (C : Str) (n : Nat) (G : List D → M D) (ds : List D) : M D := fun ω => match callM n G (.cell ω.length :: ds) (ω ++ [.ins C []]) with
  | .ok .non ω' => .ok (.cell ω.length) ω'
  | .raise c ω' => .raise c ω'
  | _ => .stuck
section
variable {X : Cx} {W : WX} {a b o : Expr} {es : List Expr} {fs : Env → M (List D)} {f g : Env → M D} {pos p apos pos' : Pos}
theorem chkI_at {K : PySem.W.Frag} {C m : Str} {Ca : Addr} (c : ClsOk K C Ca) {w : Wd} {v : V} {d : D} (F : Fits K w) (r : w.rep K v d) (h : chkI C m d w.ω = true) : ∃ a dx fs, v = .ref a ∧ w.H a = some (.ins Ca dx fs) ∧ fs.lookup m = none := by
  unfold chkI at h
  cases r with
  | @cell n al hn =>
    dsimp only at h
    cases z : w.ω[n]? with
    | none => rw [z] at h; cases h
    | some cc =>
      rw [z] at h
      cases cc with
      | ins C' fl =>
        dsimp only at h
        rw [Bool.and_eq_true, decide_eq_true_eq, Option.isNone_iff_eq_none] at h
        obtain ⟨rfl, h2⟩ := h
        rcases F.live n al _ hn z with e | ⟨nS, k⟩
        · cases e
        · obtain ⟨dx, vs, k1, k2⟩ := ins_at c k
          exact ⟨al, dx, _, rfl, k1, lookup_zip_none k2 h2⟩
      | _ => cases h
  | _ => cases h
theorem sub_meth {C m : Str} {Ca : Addr} {n : Nat} {G : List D → M D} (c : ClsOk X.K C Ca) : ∀ σ H Q, tM X.K X.mg W (eMeth C m n G f fs) σ H Q → tMethS Ca m (spM X.K X.mg n G) (WE W) (tM X.K X.mg W f) (tMA X.K X.mg W fs) σ H Q := by
  rintro σ H Q ⟨w, ρ, rfl, F, E, h⟩
  refine ⟨w, ρ, rfl, F, E, Holds.thn h fun d w1 g1 F1 h1 v rv => ?_⟩
  by_cases hc : chkI C m d w1.ω = true
  · rw [if_pos hc] at h1
    obtain ⟨al, dx, fl, rfl, k1, k2⟩ := chkI_at c F1 rv hc
    refine ⟨al, dx, fl, rfl, k1, k2, w1, ρ, rfl, F1, E.grow g1, Holds.thn h1 fun ds w2 g2 F2 h2 xs rs => ?_⟩
    obtain ⟨hl, h2⟩ := Holds.ite h2
    exact spM_of F2 (.cons (g2.rep rv) rs) hl h2
  · rw [if_neg hc] at h1; exact h1.elim
theorem me_meth {pl : Sem Bool} {k : Nat} {fa Ca : Addr} {fd : FuncData} {ps : List Str} {C m : Str} {G : List D → M D} (c : ClsOk X.K C Ca) (hm : Meth X.K Ca m fa) (Gk : FnOk X.prog X.w X.K X.mg X.base (L2.CX X.prog X.w) k fa fd ps (spM X.K X.mg ps.length G)) (hr : Room k X.A)
    (hb : Binds X.K fd ps []) (tk : Takes X W) (ho : ME X W o f) (ha : MA X W (a :: es) fs)
    (hst : starEach (a :: es) X.env = (false, eval a X.env) :: starEach es X.env := by rfl) (hpl : (backTo pos (starEach es X.env)).any (·.1) = false := by rfl)
    (ht : eval (.Call (.Attribute o m apos) (a :: es) [] pos) X.env = (do
      let ov ← eval o X.env
      standAt apos.atName
      let (f, first) ← holding [ov] (getMethod ov m pl)
      callWith pos f first (backTo pos (starEach (a :: es) X.env)) (backToKw pos (keywordEach [] X.env))) := by rfl) :
    ME X W (.Call (.Attribute o m apos) (a :: es) [] pos) (eMeth C m ps.length G f fs) := PE.sub (pe_methS (pl := pl) ho c.cls hm Gk hr hb (fun σ => passAt tk σ) ha hst hpl ht) (sub_meth c)
theorem me_meth0 {pl : Sem Bool} {k : Nat} {fa Ca : Addr} {fd : FuncData} {ps : List Str} {C m : Str} {G : List D → M D} (c : ClsOk X.K C Ca) (hm : Meth X.K Ca m fa) (Gk : FnOk X.prog X.w X.K X.mg X.base (L2.CX X.prog X.w) k fa fd ps (spM X.K X.mg ps.length G)) (hr : Room k X.A)
    (hb : Binds X.K fd ps []) (tk : Takes X W) (ho : ME X W o f)
    (ht : eval (.Call (.Attribute o m apos) [] [] pos) X.env = (do
      let ov ← eval o X.env
      standAt apos.atName
      let (f, first) ← holding [ov] (getMethod ov m pl)
      callWith pos f first (backTo pos (starEach [] X.env)) (backToKw pos (keywordEach [] X.env))) := by rfl) :
    ME X W (.Call (.Attribute o m apos) [] [] pos) (eMeth C m ps.length G f aNil) := by
  refine PE.sub (pe_methS0 (pl := pl) ho c.cls hm Gk hr hb (fun σ => passAt tk σ) ht) ?_
  intro σ H Q h
  obtain ⟨w, ρ, rfl, F, E, h⟩ := sub_meth c σ H Q h
  refine ⟨w, ρ, rfl, F, E, ?_⟩
  cases z : f ρ w.ω with
  | stuck => rw [z] at h; exact h
  | raise c ω => rw [z] at h; exact h
  | ok d ω =>
    rw [z] at h
    intro w1 g1 F1 e1 v rv
    obtain ⟨al, dx, fl, rfl, k1, k2, w2, ρ2, e2, F2, E2, h2⟩ := h w1 g1 F1 e1 v rv
    refine ⟨al, dx, fl, rfl, k1, k2, ?_⟩
    show spM X.K X.mg ps.length G [.ref al] w1.H Q (WE W σ)
    rw [← e2]
    exact Holds.here F2 h2 [] .nil
theorem make_world {K : PySem.W.Frag} {C : Str} {Ca x dx : Addr} (c : ClsOk K C Ca) {w : Wd} (F : Fits K w) (hx : w.H x = none) (hdx : w.H dx = none) (ne : dx ≠ x) :
    Grow w ⟨w.S, w.μ ++ [x], w.ω ++ [.ins C []], upd (upd w.H dx (.own x)) x (.ins Ca dx [])⟩ ∧ Fits K ⟨w.S, w.μ ++ [x], w.ω ++ [.ins C []], upd (upd w.H dx (.own x)) x (.ins Ca dx [])⟩ := by
  have g1 : Grow w { w with H := upd w.H dx (.own x) } := side_grow (K := K) (Grow.refl w) hdx
  have F1 : Fits K { w with H := upd w.H dx (.own x) } := side_fits F (fun h => F.dom dx h hdx) (fun h => F.domμ dx h hdx) (by rw [hdx]; exact noTab_none)
  have hx1 : ({ w with H := upd w.H dx (.own x) } : Wd).H x = none := by
    show upd w.H dx (.own x) x = none
    rw [upd_ne (Ne.symm ne)]; exact hx
  exact ⟨g1.trans (alloc_grow (o := .ins Ca dx []) (c := .ins C []) hx1), alloc_fits F1 hx1 ⟨Ca, dx, [], c.ns, upd_same, .nil⟩⟩
theorem me_make {k : Nat} {fa Ca : Addr} {fd : FuncData} {ps : List Str} {C : Str} {G : List D → M D} (c : ClsOk X.K C Ca) (Mk : L2.Mk X.K Ca fa) (Gk : FnOk X.prog X.w X.K X.mg X.base (L2.CX X.prog X.w) k fa fd ps (spM X.K X.mg ps.length G)) (hr : Room (k + 1) X.A) (hg : Gl X C) (hm : X.mg C = some (.ref Ca))
    (hb : Binds X.K fd ps []) (tk : Takes X W) (ha : MA X W (a :: es) fs) (hdb : (C == ("__debug__" : Str)) = false := by decide) (he : starEach (a :: es) X.env = (false, eval a X.env) :: starEach es X.env := by rfl) (hpl : (backTo pos (starEach es X.env)).any (·.1) = false := by rfl) :
    ME X W (.Call (.Name C p) (a :: es) [] pos) (eN (makeM C ps.length G) fs) := by
  refine PE.sub (pe_makeS Mk Gk hr hg hm hb (fun σ => passAt tk σ) ha hdb he hpl) ?_
  rintro σ H Q ⟨w, ρ, rfl, F, E, h⟩
  refine ⟨w, ρ, rfl, F, E, Holds.thn h fun ds w1 g1 F1 h1 xs rs x dx hx hdx ne => ?_⟩
  obtain ⟨g2, F2⟩ := make_world c F1 hx hdx ne
  unfold makeM at h1
  have hat : (w1.μ ++ [x])[w1.ω.length]? = some x := by rw [← F1.len, List.getElem?_append_right (Nat.le_refl _), Nat.sub_self]; rfl
  by_cases hl : (D.cell w1.ω.length :: ds).length = ps.length
  · have e0 : callM ps.length G (.cell w1.ω.length :: ds) = G (.cell w1.ω.length :: ds) := if_pos hl
    rw [e0] at h1
    refine spM_of (W := W) (σ := σ) F2 (.cons (.cell hat) (g2.reps rs)) hl ?_
    show Holds X.K X.mg W σ _ (G (.cell w1.ω.length :: ds) (w1.ω ++ [.ins C []])) _
    cases z : G (.cell w1.ω.length :: ds) (w1.ω ++ [.ins C []]) with
    | stuck => rw [z] at h1; exact h1
    | raise c' ω' => rw [z] at h1; exact fun w' u g' f e m => h1 w' u (g2.trans g') f e m
    | ok d ω' =>
      rw [z] at h1
      cases d with
      | non =>
        intro w' g' F' e' v rv
        cases rv
        exact ⟨rfl, h1 w' (g2.trans g') F' e' (.ref x) (.cell (pre_get g'.μ _ _ hat))⟩
      | _ => exact h1.elim
  · have e0 : callM ps.length G (.cell w1.ω.length :: ds) = M.stuck := if_neg hl
    rw [e0] at h1
    exact h1.elim
end
end Mi
/-! a live cell is locked while an expression runs -/
namespace Mi
open PySem PySem.Spec PyProof.Rows L2
variable [Tb]
theorem unlock_world {K : PySem.W.Frag} {w w2 : Wd} {n : Nat} {a : Addr} {od : Obj} {u : HO} {cl c' : Cell} (hn : w.μ[n]? = some a) (nS : ¬ w.S a) (hu : w.H a = some u) (wr : Wr (some u)) (g : Grow (w.put n a (.frz od u) cl) w2) (F2 : Fits K w2) (nS2 : ¬ w2.S a)
    (ok : CellOk K (w2.put n a u c') a c') : Grow w (w2.put n a u c') ∧ Fits K (w2.put n a u c') := by
  have hm : a ∈ w.μ := List.mem_of_getElem? hn
  have hn2 : w2.μ[n]? = some a := pre_get g.μ n a hn
  have fa : w2.H a = some (.frz od u) := g.fz a od u (show upd w.H a (.frz od u) a = _ from upd_same)
  have up : ∀ b o, b ≠ a → w2.H b = some o → (w2.put n a u c').H b = some o := fun b o hb h => by show upd w2.H a u b = _; rw [upd_ne hb]; exact h
  have dn : ∀ b, b ≠ a → (w.put n a (.frz od u) cl).H b = w.H b := fun b hb => upd_ne hb
  have rf : ∀ vs ds, w2.reps K vs ds → (w2.put n a u c').reps K vs ds := fun vs ds r => Reps.mono (fun _ h => h) (fun _ _ h => h) (fun b o hs h => up b o (ne_side nS2 hs) h) r
  refine ⟨⟨fun b h => g.S b h, fun b h => ?_, g.μ, fun b h => ?_, fun b o h k => ?_, fun b o x h => ?_, fun b ps h => ?_⟩, ⟨?_, F2.nd, fun b h => ?_, fun b h => ?_, fun m b c h1 h2 => ?_, tabs_upd (by rw [fa]; exact noTab_frz) F2.tabs, fun b ps h z => ?_⟩⟩
  · rcases g.S' b h with h | h | h
    · exact .inl h
    · by_cases e : b = a
      · subst e; exact absurd h (by show upd w.H b (.frz od u) b ≠ none; rw [upd_same]; exact fun z => nomatch z)
      · rw [dn b e] at h; exact .inr (.inl h)
    · exact .inr (.inr h)
  · rcases g.μ' b h with h | h
    · exact .inl h
    · by_cases e : b = a
      · subst e; exact .inl hm
      · rw [dn b e] at h; exact .inr h
  · have hb : b ≠ a := fun e => by
      subst e
      rcases k with k | k
      · exact nS k
      · exact k.1 hm
    exact up b o hb (g.fr b o ((dn b hb).trans h) k)
  · have hb : b ≠ a := fun e => by subst e; rw [hu] at h; exact wr.2 o x h
    exact up b _ hb (g.fz b o x ((dn b hb).trans h))
  · have hb : b ≠ a := fun e => by subst e; rw [hu] at h; exact wr.1.1 ps h
    obtain ⟨ps', e⟩ := g.tb b ps ((dn b hb).trans h)
    exact ⟨ps', up b _ hb e⟩
  · show w2.μ.length = (w2.ω.set n c').length
    rw [List.length_set]; exact F2.len
  · show upd w2.H a u b ≠ none
    rw [upd_ne (ne_side nS2 h)]; exact F2.dom b h
  · show upd w2.H a u b ≠ none
    by_cases e : b = a
    · rw [e, upd_same]; exact fun z => nomatch z
    · rw [upd_ne e]; exact F2.domμ b h
  · have h1' : w2.μ[m]? = some b := h1
    have h2' : (w2.ω.set n c')[m]? = some c := h2
    by_cases e : n = m
    · subst e
      rw [hn2] at h1'; cases h1'
      have hl : n < w2.ω.length := F2.len ▸ (List.getElem?_eq_some_iff.mp hn2).1
      rw [List.getElem?_set_self hl] at h2'; cases h2'
      exact .inr ⟨nS2, ok⟩
    · rw [List.getElem?_set_ne e] at h2'
      have hb : b ≠ a := fun z => by
        subst z
        exact e ((List.getElem?_inj (List.getElem?_eq_some_iff.mp hn2).1 F2.nd).mp (hn2.trans h1'.symm))
      rcases F2.live m b c h1' h2' with h | ⟨h, h'⟩
      · exact .inl h
      · exact .inr ⟨h, h'.mono (upd_ne hb) rf⟩
  · have z' : upd w2.H a u b = some (.tbl ps) := z
    rw [upd_ne (ne_side nS2 h)] at z'
    exact F2.nt b ps h z'
def unlk (n : Nat) : Res D → Res D
  | .ok d ω => match ω[n]? with
    | some (.llst xs) => .ok d (ω.set n (.lst xs))
    | some (.ldic ks xs) => .ok d (ω.set n (.dic ks xs))
    | _ => .stuck
  | _ => .stuck
/-- the cell that gh tells of is locked meanwhile -/
def eLk (gh : Env → List Cell → Option Nat) (g : Env → M D) : Env → M D := fun ρ ω => match gh ρ ω with
  | some n => match ω[n]? with
    | some (.lst xs) => unlk n (g ρ (ω.set n (.llst xs)))
    | some (.dic ks xs) => unlk n (g ρ (ω.set n (.ldic ks xs)))
    | _ => .stuck
  | none => .stuck
section
variable {X : Cx} {W : WX} {e tg : Expr} {f g : Env → M D} {pos apos : Pos}
theorem lk_post {K : PySem.W.Frag} {mg : Str → Option Value} {σ : L2.St} {w : Wd} {n : Nat} {a : Addr} {od : Obj} {u : HO} {cl : Cell} {r : Res D} {Q : VK} (hn : w.μ[n]? = some a) (nS : ¬ w.S a) (hu : w.H a = some u) (wr : Wr (some u))
    (h : Holds K mg W σ w (unlk n r) fun d w' => ∀ v, w'.rep K v d → Q v w'.H) : Holds K mg W σ (w.put n a (.frz od u) cl) r fun d w' => ∀ v, w'.rep K v d → w'.H a = some (.frz od u) ∧ Q v (upd w'.H a u) := by
  cases r with
  | stuck => exact h
  | raise c ω => exact h.elim
  | ok d ω =>
    intro w2 g2 F2 e2 v rv
    subst e2
    have fa : w2.H a = some (.frz od u) := g2.fz a od u (show upd w.H a (.frz od u) a = _ from upd_same)
    refine ⟨fa, ?_⟩
    have hn2 : w2.μ[n]? = some a := pre_get g2.μ n a hn
    unfold unlk at h
    dsimp only at h
    cases z : w2.ω[n]? with
    | none => rw [z] at h; exact h.elim
    | some cc =>
      rw [z] at h
      rcases F2.live n a cc hn2 z with q | ⟨nS2, k⟩
      · subst q; exact h.elim
      · have rf : ∀ {o : HO} {c' : Cell} {vs ds}, w2.reps K vs ds → (w2.put n a o c').reps K vs ds := fun {o c' vs ds} r => Reps.mono (fun _ h => h) (fun _ _ h => h) (fun b o hs h => by show upd w2.H a _ b = _; rw [upd_ne (ne_side nS2 hs)]; exact h) r
        have rf1 : ∀ {o : HO} {c' : Cell} {v d}, w2.rep K v d → (w2.put n a o c').rep K v d := fun {o c' v d} r => Rep.mono (fun _ h => h) (fun _ _ h => h) (fun b o hs h => by show upd w2.H a _ b = _; rw [upd_ne (ne_side nS2 hs)]; exact h) r
        cases cc with
        | llst xs =>
          obtain ⟨o, vs, k1, k2, k3⟩ := k
          rw [fa] at k1; cases k1
          obtain ⟨g3, F3⟩ := unlock_world (c' := .lst xs) hn nS hu wr g2 F2 nS2 ⟨vs, upd_same, k2, rf k3⟩
          exact h _ g3 F3 rfl v (rf1 rv)
        | ldic ks xs =>
          obtain ⟨o, kvs, k1, k2, k3, k4⟩ := k
          rw [fa] at k1; cases k1
          obtain ⟨g3, F3⟩ := unlock_world (c' := .dic ks xs) hn nS hu wr g2 F2 nS2 ⟨kvs, upd_same, k2, k3, rf k4⟩
          exact h _ g3 F3 rfl v (rf1 rv)
        | dead => exact h.elim
        | lst xs => exact h.elim
        | dic ks xs => exact h.elim
        | ins C fs => exact h.elim
theorem me_lk (gh : Env → List Cell → Option Nat) (h : ME X W e g) : ME X W e (eLk gh g) := by
  refine PE.sub (pe_lock h) ?_
  rintro σ H Q ⟨w, ρ, rfl, F, E, q⟩
  unfold eLk at q
  cases zg : gh ρ w.ω with
  | none => rw [zg] at q; exact q.elim
  | some n =>
    rw [zg] at q
    dsimp only at q
    cases z : w.ω[n]? with
    | none => rw [z] at q; exact q.elim
    | some cc =>
      rw [z] at q
      have hl : n < w.μ.length := F.len ▸ (List.getElem?_eq_some_iff.mp z).1
      have hn : w.μ[n]? = some w.μ[n] := List.getElem?_eq_getElem hl
      generalize w.μ[n] = a at hn
      rcases F.live n a cc hn z with e' | ⟨nS, k⟩
      · subst e'; exact q.elim
      · cases cc with
        | lst xs =>
          obtain ⟨vs, k1, k2, k3⟩ := k
          refine ⟨a, _, k1, trivial, fun od => ?_⟩
          have wr : Wr (w.H a) := by rw [k1]; exact wr_lst
          have gr0 : Grow w (w.put n a (.frz od (.lst vs)) (.llst xs)) := put_grow hn nS wr
          obtain ⟨g1, F1⟩ := put_all F hn nS wr (o := .frz od (.lst vs)) (c := .llst xs) ⟨od, vs, upd_same, k2, gr0.reps k3⟩
          exact ⟨_, ρ, rfl, F1, E.grow g1, lk_post hn nS k1 wr_lst q⟩
        | dic ks xs =>
          obtain ⟨kvs, k1, k2, k3, k4⟩ := k
          refine ⟨a, _, k1, trivial, fun od => ?_⟩
          have wr : Wr (w.H a) := by rw [k1]; exact wr_dK
          have gr0 : Grow w (w.put n a (.frz od (.dK kvs)) (.ldic ks xs)) := put_grow hn nS wr
          obtain ⟨g1, F1⟩ := put_all F hn nS wr (o := .frz od (.dK kvs)) (c := .ldic ks xs) ⟨od, kvs, upd_same, k2, k3, gr0.reps k4⟩
          exact ⟨_, ρ, rfl, F1, E.grow g1, lk_post hn nS k1 wr_dK q⟩
        | dead => exact q.elim
        | ins C fs => exact q.elim
        | llst xs => exact q.elim
        | ldic ks xs => exact q.elim
/-! iterations over a locked cell -/
def iSeqC (f : Env → M D) : Env → M (List D) := fun ρ => (f ρ).bind fun d ω => match d with
  | .cell n => match ω[n]? with
    | some (.llst xs) => .ok xs ω
    | _ => .stuck
  | _ => .stuck
def iKeysC (f : Env → M D) : Env → M (List D) := fun ρ => (f ρ).bind fun d ω => match d with
  | .cell n => match ω[n]? with
    | some (.ldic ks _) => if keysOk ks = true then .ok (ks.map dKey) ω else .stuck
    | _ => .stuck
  | _ => .stuck
theorem cov_llst {K : PySem.W.Frag} {w : Wd} {a : Addr} {o : Obj} {vs : List V} {ds : List D} (e : w.H a = some (.frz o (.lst vs))) (r : w.reps K vs ds) : Covers K w (Itl K a) ds := by
  have at' : ∀ w', Grow w w' → SqL K w'.H a vs := fun w' g => .inl (.inr ⟨o, g.fz a _ _ e⟩)
  refine ⟨fun w' g F i hi => ?_, fun w' g F i d x H' hd y => ?_, fun w' g F i hi => ⟨vs, at' w' g, by rw [r.length]; exact hi⟩⟩
  · have : i < vs.length := by rw [r.length]; exact hi
    exact ⟨vs, vs[i], at' w' g, List.getElem?_eq_getElem this⟩
  · obtain ⟨rfl, h⟩ := y
    obtain ⟨v, h1, h2⟩ := (g.reps r).get hd
    have e2 := h vs (at' w' g)
    rw [h1] at e2; cases e2
    exact ⟨w', Grow.refl _, F, rfl, rfl, h2⟩
theorem mi_seqC (ha : ME X W e f) : MI X W tg e (iSeqC f) := by
  refine PI.sub (pi_list ha) ?_
  rintro σ H R ⟨w, ρ, rfl, F, E, q⟩
  refine ⟨w, ρ, rfl, F, E, Holds.thn q fun d w1 g1 F1 q1 x rx => ?_⟩
  cases rx with
  | @cell n a hn =>
    dsimp only at q1
    cases z : w1.ω[n]? with
    | none => rw [z] at q1; exact q1.elim
    | some cc =>
      rw [z] at q1
      cases cc with
      | llst xs =>
        rcases F1.live n a _ hn z with e' | ⟨nS, o, vs, k1, k2, k3⟩
        · cases e'
        · exact ⟨a, rfl, ⟨vs, .inl (.inr ⟨o, k1⟩)⟩, q1 w1 (Grow.refl _) F1 rfl _ (cov_llst k1 k3)⟩
      | _ => exact q1.elim
  | _ => exact q1.elim
theorem mi_keysC (ha : ME X W e f) : MI X W tg e (iKeysC f) := by
  refine PI.sub (pi_keys ha) ?_
  rintro σ H R ⟨w, ρ, rfl, F, E, q⟩
  refine ⟨w, ρ, rfl, F, E, Holds.thn q fun d w1 g1 F1 q1 x rx => ?_⟩
  cases rx with
  | @cell n a hn =>
    dsimp only at q1
    cases z : w1.ω[n]? with
    | none => rw [z] at q1; exact q1.elim
    | some cc =>
      rw [z] at q1
      cases cc with
      | ldic ks xs =>
        dsimp only at q1
        rcases F1.live n a _ hn z with e' | ⟨nS, o, kvs, k1, k2, rfl, k4⟩
        · cases e'
        · by_cases hk : keysOk (kvs.map (·.1)) = true
          · rw [if_pos hk] at q1
            exact ⟨a, o, rfl, .inl ⟨kvs, k1, q1 w1 (Grow.refl _) F1 rfl _ (cov_keys k1 hk)⟩⟩
          · rw [if_neg hk] at q1; exact q1.elim
      | _ => exact q1.elim
  | _ => exact q1.elim
end
end Mi
/-! more of dicts; texts in texts -/
namespace Mi
open PySem PySem.Spec PyProof.Rows L2
variable [Tb]
section
variable {X : Cx} {W : WX} {a b o : Expr} {es : List Expr} {fs : Env → M (List D)} {f g : Env → M D} {pos p apos : Pos}
/-! {} as a value -/
theorem me_dic0 : ME X W (.Dict [] [] pos) (eC (.dic [] [])) := by
  refine PE.sub (pe_lockAfter pe_dnewK) ?_
  rintro σ H Q ⟨w, ρ, rfl, F, E, q⟩ p hp
  refine .inr ⟨p, _, upd_same, trivial, fun od => ?_⟩
  have e : upd (upd w.H p (.dK [])) p (.frz od (.dK [])) = upd w.H p (.frz od (.dK [])) := by
    funext b
    by_cases hb : b = p
    · subst hb; rw [upd_same, upd_same]
    · rw [upd_ne hb, upd_ne hb, upd_ne hb]
  rw [e]
  exact q (w.lay p (.frz od (.dK []))) (lay_grow hp) (lay_fits F hp (fun _ z => nomatch z)) rfl (.ref p) (Rep.dic (kvs := []) (.inr rfl) upd_same (Nat.zero_le _) .nil)
/-! dict(d) as a cell -/
@[simp] def oDictC (d : D) : M D := match d with
  | .dic ks vs => newCell (.dic ks vs)
  | _ => M.stuck
theorem op1_dictC : Op1 X (fun x H Q => ∃ (a : Addr) (kvs : List (Key × V)), [x] = [.ref a] ∧ Rd H a (.dK kvs) ∧ ∀ p, H p = none → Q (.ref p) (upd H p (.dK kvs))) (d1 oDictC) := op1_drf fun W σ w x d Q F sx h => by
  cases d with
  | dic ks vs =>
    obtain ⟨a, kvs, rfl, h1, h2, rfl, h3⟩ := sx.dicAt
    refine ⟨a, kvs, rfl, h1, fun p hp => ?_⟩
    refine h (w.alloc p (.dK kvs) (.dic (kvs.map (·.1)) vs)) (alloc_grow hp) (alloc_fits F hp ⟨kvs, upd_same, h2, rfl, (alloc_grow hp).reps h3⟩) rfl (.ref p) (.cell ?_)
    show (w.μ ++ [p])[w.ω.length]? = some p
    rw [← F.len, List.getElem?_append_right (Nat.le_refl _), Nat.sub_self]; rfl
  | _ => exact h.no
theorem boot_dict' : bootBuiltins "dict" = some (.type "dict") := by kernel_rfl
theorem me_dictC (hg : Gl X "dict") (hm : X.mg "dict" = none) (ha : MA X W [a] fs) (he : starEach [a] X.env = (false, eval a X.env) :: starEach [] X.env := by rfl) (hpl : (backTo pos (starEach [] X.env)).any (·.1) = false := by rfl) : ME X W (.Call (.Name "dict" p) [a] [] pos) (eN (one (d1 oDictC)) fs) := me_callTy call_dictD (opN_one op1_dictC) hg hm boot_dict' ha (by decide) (by decide) he hpl
/-! len(d) -/
@[simp] def oLenD (d : D) : M D := match d with
  | .dic ks _ => M.ret (.int (ks.length : Nat))
  | _ => M.stuck
theorem call_lenD : CallR X (.builtin "len") (fun xs H Q => ∃ (a : Addr) (kvs : List (Key × V)), xs = [.ref a] ∧ Rd H a (.dK kvs) ∧ Q (.int kvs.length) H) := by
  intro pins s σ H xs us Q I r q
  obtain ⟨a, kvs, rfl, h1, q⟩ := q
  cases r with
  | cons r rr =>
    cases rr
    cases r
    exact d_len I h1 fun t s' I' => ⟨.int kvs.length, H, I', ⟨t, rfl⟩, q⟩
theorem op1_lenD : Op1 X (fun x H Q => ∃ (a : Addr) (kvs : List (Key × V)), [x] = [.ref a] ∧ Rd H a (.dK kvs) ∧ Q (.int kvs.length) H) (d1 oLenD) := op1_drf fun W σ w x d Q F sx h => by
  cases d with
  | dic ks vs =>
    obtain ⟨a, kvs, rfl, h1, h2, rfl, h3⟩ := sx.dicAt
    have h' : Ans X.K X.mg W σ w (M.ret (.int ((kvs.map (·.1)).length : Nat))) Q := h
    rw [List.length_map] at h'
    exact ⟨a, kvs, rfl, h1, Ans.val F h' (.int _)⟩
  | _ => exact h.no
theorem me_lenD (hg : Gl X "len") (hm : X.mg "len" = none) (ha : MA X W [a] fs) (he : starEach [a] X.env = (false, eval a X.env) :: starEach [] X.env := by rfl) (hpl : (backTo pos (starEach [] X.env)).any (·.1) = false := by rfl) : ME X W (.Call (.Name "len" p) [a] [] pos) (eN (one (d1 oLenD)) fs) := me_callB call_lenD (opN_one op1_lenD) hg hm PySem.boot_len ha (by decide) (by decide) he hpl
/-! x in a text -/
@[simp] def oInS (neg : Bool) (d e : D) : M D := match d, e with
  | .str i, .str j => M.ret (.bl (neg ^^ !(Builtin.Str.occurrences j i 0 j.length 1).isEmpty))
  | _, _ => M.stuck
theorem op2_inS : Op2 X (fun x y H Q => ∃ i j, x = .str i ∧ y = .str j ∧ Q (.bl (!(Builtin.Str.occurrences j i 0 j.length 1).isEmpty)) H) (oInS false) := by
  intro W σ w x y d e Q F rx ry h
  cases rx with
  | str i hi hi' => cases ry with
    | str j hj hj' =>
      have h' : Ans X.K X.mg W σ w (M.ret (.bl (false ^^ !(Builtin.Str.occurrences j i 0 j.length 1).isEmpty))) Q := h
      rw [Bool.false_xor] at h'
      exact ⟨i, j, rfl, rfl, Ans.val F h' (.bl _)⟩
    | _ => exact h.no
  | _ => exact h.no
theorem me_inS (ha : ME X W a f) (hb : ME X W b g) (hm : behindInMarks .In b = false := by rfl) : ME X W (.Compare a [.In] [b] pos) (e2 (oInS false) f g) := me_cmp op_in_str op2_inS ha hb hm
theorem mt_inS (ha : ME X W a f) (hb : ME X W b g) (hm : behindInMarks .In b = false := by rfl) : MT X W (.Compare a [.In] [b] pos) (tst (e2 (oInS false) f g)) := mt_cmp op_in_str op2_inS ha hb hm
/-! d.get(k) -/
def isDic (d : D) (ω : List Cell) : Bool := match d with
  | .dic _ _ => true
  | .cell n => match ω[n]? with
    | some (.dic _ _) => true
    | some (.ldic _ _) => true
    | _ => false
  | _ => false
@[simp] def oGetD (d e : D) : M D := match d, keyD e with
  | .dic ks vs, some k => match valD ks vs k with
    | some z => M.ret z
    | none => M.ret .non
  | _, _ => M.stuck
def eGetD (f g : Env → M D) : Env → M D := fun ρ => (f ρ).bind fun d ω => if isDic d ω = true then ((g ρ).bind fun e => d2 oGetD d e) ω else .stuck
theorem isDic_at {K : PySem.W.Frag} {w : Wd} {v : V} {d : D} (F : Fits K w) (r : w.rep K v d) (h : isDic d w.ω = true) : ∃ a, v = .ref a ∧ IsD w.H a := by
  unfold isDic at h
  cases r with
  | dic h1 h2 h3 h4 => exact ⟨_, rfl, .inl ⟨_, .inr ⟨_, h2⟩⟩⟩
  | @cell n al hn =>
    dsimp only at h
    cases z : w.ω[n]? with
    | none => rw [z] at h; cases h
    | some cc =>
      rw [z] at h
      rcases F.live n al cc hn z with e | ⟨nS, k⟩
      · subst e; cases h
      · cases cc with
        | dic ks xs => obtain ⟨kvs, k1, _⟩ := k; exact ⟨_, rfl, .inl ⟨kvs, .inl k1⟩⟩
        | ldic ks xs => obtain ⟨o, kvs, k1, _⟩ := k; exact ⟨_, rfl, .inl ⟨kvs, .inr ⟨o, k1⟩⟩⟩
        | dead => cases h
        | lst xs => cases h
        | llst xs => cases h
        | ins C fs => cases h
  | _ => cases h
theorem me_getD {k : Nat} (hr : Room k X.A) (ho : ME X W o f) (ha : ME X W a g) (m : M1 X o "get" apos a pos := by exact ⟨rfl, rfl, rfl, rfl⟩) : ME X W (.Call (.Attribute o "get" apos) [a] [] pos) (eGetD f g) := by
  refine PE.sub (pe_dget1 (room1 hr) ho ha m) ?_
  rintro σ H Q ⟨w, ρ, rfl, F, E, h⟩
  refine ⟨w, ρ, rfl, F, E, Holds.thn h fun d w1 g1 F1 h1 v rv => ?_⟩
  by_cases hc : isDic d w1.ω = true
  · rw [if_pos hc] at h1
    obtain ⟨al, rfl, hd⟩ := isDic_at F1 rv hc
    refine ⟨al, rfl, hd, w1, ρ, rfl, F1, E.grow g1, Holds.thn h1 fun e w2 g2 F2 h2 y ry => ?_⟩
    refine drf_thn F2 h2 (g2.rep rv) fun d' sx h3 => drf_thn F2 h3 ry fun e' sy h4 => ?_
    unfold oGetD at h4
    cases d' with
    | dic ks vs =>
      cases q : keyD e' with
      | none => rw [q] at h4; exact h4.no
      | some kk =>
        rw [q] at h4
        dsimp only at h4
        obtain ⟨a', kvs, ea, k1, k2, rfl, k3⟩ := sx.dicAt
        cases ea
        cases q2 : valD (kvs.map (·.1)) vs kk with
        | none =>
          rw [q2] at h4
          refine ⟨none, .inl ⟨kvs, kk, k1, sy.key q, (valD_none k3 q2).symm⟩, Ans.val F2 h4 .non⟩
        | some z =>
          rw [q2] at h4
          obtain ⟨v', e1, r⟩ := valD_some k3 q2
          exact ⟨some v', .inl ⟨kvs, kk, k1, sy.key q, e1.symm⟩, Ans.val F2 h4 r⟩
    | _ => exact h4.no
  · rw [if_neg hc] at h1; exact h1.elim
end
end Mi
/-! sorted(d.items()) -/
namespace Mi
open PySem PySem.Spec PyProof.Rows L2
section
variable {prog : Program} {w : World} {A : Around} {E : Value → Shared → Prop} {s : Shared} {β : Type}
theorem sorted_items {r d : Addr} {kvs : List (Key × Value)} {ep : Nat} {pd : List PyData} {enc : β → PyData} {Q : Value → Shared → Prop} (hh : A.handled = none) (hv : s.heap.IsItemsView r d) (hm : s.heap.DictAt (mixKind prog w) d kvs ep) (hn : kvs.length ≤ sizeLine)
    (hal : PySem.W.AllAlike pd) (hk : PySem.W.Sortable pd) (hu : ∀ b, b ∈ pd → A.units + 2 + b.depth < cLine)
    (h : ∀ (h1 : Heap) (tk : Nat) (as : List Addr), Stays s.heap h1 → as.length = kvs.length → PySem.W.KdxG (mixKind prog w) kvs s.heap.objs.size h1 as → ∃ (bs : List β) (R : Value → β → Prop), bs.map enc = pd ∧ PySem.W.EachIs R (as.map Value.ref) bs ∧ PySem.W.EachIs (fun v b => ∃ bb, Reads h1 v (enc b) bb) (as.map Value.ref) bs ∧
      ∀ p out c h', h1.objs.size ≤ p → Stays h1 h' → h'.get? p = some (seqObj "list" (List.toArray out) c) → PySem.W.EachIs R out (bs.mergeSort (PySem.W.dataLe false enc)) → Q (.ref p) { s with heap := h', toks := tk }) :
    wpAny (model prog w) A (call (.builtin "sorted") [.ref r]) Q E s := by
  refine Calls.call_function_entry kind_sorted plain_sorted entry_sorted (args_sorted1 _) ?_
  unfold Builtin.«sorted»
  refine wpAny_bind (m := checkCount "sorted" 1 1 _) (wpAny_pure ?_)
  refine wpAny_bind (PySem.W.kdx_collect (A := A.in1) (knd := mixKind prog w) hh hv hm hn fun h1 tk as st hl G => ?_)
  obtain ⟨bs, R, epd, e, er, h⟩ := h h1 tk as st hl G
  rw [← epd] at hal hk
  have hu : ∀ b, b ∈ bs → A.units + 2 + (enc b).depth < cLine := fun b hb => hu _ (by rw [← epd]; exact List.mem_map_of_mem hb)
  have hvl : (as.map Value.ref).length ≤ sizeLine := by rw [List.length_map, hl]; exact hn
  generalize as.map Value.ref = vs at e er hvl
  refine wpAny_bind (wpAny_newList ?_ hvl)
  have hoL : (h1.push (seqObj "list" vs.toArray 0)).get? h1.objs.size = some (seqObj "list" vs.toArray 0) := Heap.get?_push_size _ rfl
  have old : Stays h1 (PySem.W.sortingHeap (h1.push (seqObj "list" vs.toArray 0)) h1.objs.size vs) := fun b o q =>
    PySem.W.sortingHeap_old (Nat.ne_of_lt (Heap.lt_size q)) (Heap.get?_push_of_some _ q)
  have er' : PySem.W.EachIs (fun v b => ∃ as, Reads (PySem.W.sortingHeap (h1.push (seqObj "list" vs.toArray 0)) h1.objs.size vs) v (enc b) as) vs bs := er.mono fun _ _ ⟨as, r⟩ => ⟨as, PyProof.Rows.Reads.keeps old r⟩
  refine wpAny_bind (wpAny_holding (wpAny_call_entry slot_list_sort ⟨_, hoL, rfl⟩ entry_list_sort (PySem.W.list_sort_vals (s := { s with heap := h1.push (seqObj "list" vs.toArray 0), toks := tk }) hoL
    (PySem.W.SortsAt.data (s := { s with heap := PySem.W.sortingHeap (h1.push (seqObj "list" vs.toArray 0)) h1.objs.size vs, toks := tk }) (PySem.W.each_map (R := fun v d => ∃ as, Reads (PySem.W.sortingHeap (h1.push (seqObj "list" vs.toArray 0)) h1.objs.size vs) v d as) enc er') hal hk (PySem.W.bound_map (A := A.in1.in1) hu)) hvl ⟨_, rfl, ?_⟩) (args_list_sort _)))
  have ev := PySem.W.sortVals_data (R := R) false e er' hal
  generalize hout : PySem.W.sortVals (PySem.W.dataKind (PySem.W.sortingHeap (h1.push (seqObj "list" vs.toArray 0)) h1.objs.size vs) (bs.map enc)) false vs vs = out at ev
  obtain ⟨c, hc⟩ := sortedHeap_at (vs := vs) (out := out.toArray) hoL
  refine wpAny_pure ⟨_, rfl, h h1.objs.size out c _ (Nat.le_refl _) (fun b u q => ?_) hc ev⟩
  have hlt := Heap.lt_size q
  show (sortedHeap (h1.push (seqObj "list" vs.toArray 0)) h1.objs.size vs out.toArray).get? b = some u
  rw [sortedHeap_old (Nat.ne_of_lt hlt) (by rw [size_push']; exact Nat.lt_succ_of_lt hlt)]
  exact Heap.get?_push_of_some _ q
end
/-! several objects tracked at once -/
def updT (H : Hp) (ts : List (Addr × List V)) : Hp := ts.foldl (fun H t => upd H t.1 (.tup t.2)) H
theorem updT_not {b : Addr} : ∀ {ts : List (Addr × List V)} {H : Hp}, b ∉ ts.map (·.1) → updT H ts b = H b
  | [], _, _ => rfl
  | t :: ts, H, h => by
    rw [List.map_cons, List.mem_cons, not_or] at h
    show updT (upd H t.1 (.tup t.2)) ts b = H b
    rw [updT_not h.2, upd_ne h.1]
theorem updT_in : ∀ {ts : List (Addr × List V)} {H : Hp} {t : Addr × List V}, (ts.map (·.1)).Nodup → t ∈ ts → updT H ts t.1 = some (.tup t.2)
  | u :: ts, H, t, hn, h => by
    rw [List.map_cons, List.nodup_cons] at hn
    show updT (upd H u.1 (.tup u.2)) ts t.1 = _
    rcases List.mem_cons.mp h with e | h
    · subst e; rw [updT_not hn.1, upd_same]
    · exact updT_in hn.2 h
theorem inv_laids {X : Cx} {pins : List (Addr × Obj)} {σ : L2.St} {H : Hp} {s : Shared} {h' : Heap} {tk : Nat} (I : Inv X pins σ H s) (k : ∀ b u, s.heap.get? b = some u → h'.get? b = some u) {ts : List (Addr × List V)} (hnd : (ts.map (·.1)).Nodup) (hp : ∀ t ∈ ts, s.heap.objs.size ≤ t.1)
    (new : ∀ t ∈ ts, t.2.length ≤ sizeLine ∧ ∃ its : List Value, Vals t.2 its ∧ IsTup h' t.1 its.toArray) : Inv X pins σ (updT H ts) { s with heap := h', toks := tk } := by
  have ne1 : ∀ b u, s.heap.get? b = some u → b ∉ ts.map (·.1) := fun b u q hb => by
    obtain ⟨t, ht, rfl⟩ := List.mem_map.mp hb
    exact absurd (Heap.lt_size q) (Nat.not_lt.mpr (hp t ht))
  have ne2 : ∀ b u, H b = some u → b ∉ ts.map (·.1) := fun b u q hb => by
    obtain ⟨t, ht, rfl⟩ := List.mem_map.mp hb
    rw [I.hok.fresh (hp t ht)] at q; cases q
  refine I.un ⟨fun b u q _ _ _ => k b u q, fun b u q _ _ _ => ⟨u.slots, k b u q⟩, fun b u q n _ => by rw [updT_not (ne1 b u q)]; exact n, fun b u q _ => ⟨u, k b u q⟩, fun b xs q => by rw [updT_not (ne2 b _ q)]; exact q, fun b u xs q => by rw [updT_not (ne2 b _ q)]; exact q, fun b ps q => ⟨#[], by rw [updT_not (ne2 b _ q), q]; simp⟩⟩ fun b o e => ?_
  by_cases hb : b ∈ ts.map (·.1)
  · obtain ⟨t, ht, rfl⟩ := List.mem_map.mp hb
    rw [updT_in hnd ht] at e
    cases e
    exact new t ht
  · rw [updT_not hb] at e
    exact (I.hok b o e).stay (fun c v _ q => k c v q) (fun c q => by rw [updT_not (ne2 c _ q)]; exact q) fun c xs q => by rw [updT_not (ne2 c _ q)]; exact q
end Mi
namespace Mi
open PySem PySem.Spec PyProof.Rows L2
/-- the items of the dict at d -/
def ItV (r d : Addr) : HO := .ext fun h => h.IsItemsView r d
theorem itv_ok {P : Program} {w : World} {H : Hp} {h : Heap} {r d : Addr} (v : h.IsItemsView r d) : ObjOk P w H h r (ItV r d) :=
  ⟨v, let ⟨o, e, _⟩ := v; ⟨o, e⟩, fun _ _ ⟨o, e, q⟩ k => ⟨o, k o e, q⟩⟩
section
variable {X : Cx} {e : Expr} {td : TE} {apos cpos : Pos}
def tItems (td : TE) : TE := fun σ H Q => td σ H fun x H1 => ∃ d kvs, x = .ref d ∧ Rd H1 d (.dK kvs) ∧ ∀ r, H1 r = none → Q (.ref r) (upd H1 r (ItV r d))
theorem pe_itemsV (he : PE X e td) (hbase : attributeBase e "items" X.env (eval e X.env) = eval e X.env := by rfl) (hline : (apos.endLine == cpos.line) = true := by rfl) : PE X (.Call (.Attribute e "items" apos) [] [] cpos) (tItems td) := by
  refine ⟨fun pins s σ H Q I h => ?_⟩
  refine wpAny_Call_method (T := "dict") (id := "dict.items") hbase rfl hline F.plainAttrs_dict F.slot_dict_items F.type_dict_items (thn (he.run pins s σ H _ I h) fun u s1 ⟨x, H1, I1, rx, d, kvs, ex, hd, q⟩ => ?_)
  subst ex
  obtain rfl : u = Value.ref d := rx
  obtain ⟨z, lo, vs, rel, dd⟩ := dk_rd I1.hok hd
  refine ⟨dd.typeIs, dd.mapOf.noDict, ?_⟩
  have vw : (s1.heap.push { cls := .type "dict_items", data := .fields #[.ref d] }).IsItemsView s1.heap.objs.size d := ⟨_, Heap.get?_push_size _ rfl, rfl, rfl⟩
  have fin : EP X pins σ Q (.ref s1.heap.objs.size) { s1 with heap := s1.heap.push { cls := .type "dict_items", data := .fields #[.ref d] } } :=
    ⟨.ref s1.heap.objs.size, _, I1.laid (t' := s1.toks) (fun b u q => Heap.get?_push_of_some _ q) (Nat.le_refl _) (itv_ok vw), rfl, q _ (I1.hok.fresh (Nat.le_refl _))⟩
  show wpAny _ _ (callWith cpos (.builtin "dict.items") [.ref d] [] []) _ X.xe s1
  exact method_meetsIn F.slot_dict_items F.entry_dict_items rfl (PySem.evalArgs_none ⟨rfl, dd.typeIs, F.args_dict_items_1 _, _, meets_dict_items (mixKind X.prog X.w) d lo, ⟨vs, dd⟩, fin⟩)
end
@[simp] def kData : Key → PyData
  | .inl i => .int i
  | .inr x => .str x
def pairP (ks : List Key) (ps : List PyData) : List PyData := List.zipWith (fun k p => .tuple [kData k, p]) ks ps
theorem pairP_len {ks : List Key} {ps : List PyData} (h : ks.length = ps.length) : (pairP ks ps).length = ks.length := by unfold pairP; rw [List.length_zipWith]; omega
theorem pairP_get {ks : List Key} {ps : List PyData} {i : Nat} {p : PyData} (h : (pairP ks ps)[i]? = some p) : ∃ k q, ks[i]? = some k ∧ ps[i]? = some q ∧ p = .tuple [kData k, q] := by
  unfold pairP at h
  rw [List.getElem?_zipWith] at h
  cases e1 : ks[i]? with
  | none => rw [e1] at h; cases h
  | some k => cases e2 : ps[i]? with
    | none => rw [e1, e2] at h; cases h
    | some q => rw [e1, e2] at h; cases h; exact ⟨k, q, rfl, rfl, rfl⟩
theorem kv_get : ∀ {kvs : List (Key × V)} {vs : List (Key × Value)} {i : Nat} {k : Key} {x : Value}, KV kvs vs → vs[i]? = some (k, x) → ∃ v, kvs[i]? = some (k, v) ∧ RelV v x := by
  intro kvs vs i k x r
  unfold KV at r
  induction r generalizing i with
  | nil => intro e; simp at e
  | @cons p q ps qs h t ih =>
    intro e
    cases i with
    | zero =>
      simp only [List.getElem?_cons_zero, Option.some.injEq] at e
      subst e
      exact ⟨p.2, by rw [List.getElem?_cons_zero]; rw [← show p.1 = k from h.1], h.2⟩
    | succ i =>
      rw [List.getElem?_cons_succ] at e ⊢
      exact ih e
theorem key_rel {k : Key} {v : Value} (h : keyIs k v = true) : RelV (kV k) v := by
  rcases keyIs_shape h with ⟨i, t, rfl, rfl⟩ | ⟨x, t, rfl, rfl⟩
  · exact ⟨t, rfl⟩
  · exact ⟨t, rfl⟩
theorem key_reads {k : Key} {v : Value} {h' : Heap} (h : keyIs k v = true) : Reads h' v (kData k) [] := by
  rcases keyIs_shape h with ⟨i, t, rfl, rfl⟩ | ⟨x, t, rfl, rfl⟩
  · exact .int i t
  · exact .str x t
section
variable {X : Cx}
def rSortV (K : PySem.W.Frag) : List V → Hp → VK → Prop := fun xs H Q => ∃ (r d : Addr) (kvs : List (Key × V)) (ps : List PyData), xs = [.ref r] ∧ H r = some (ItV r d) ∧ Rd H d (.dK kvs) ∧ DpAll K H (kvs.map (·.2)) ps ∧ sortOk (pairP (kvs.map (·.1)) ps) = true ∧
  ∀ (as : List Addr) (p : Addr), as.length = kvs.length → as.Nodup → (∀ a ∈ as, H a = none) → p ∉ as → H p = none → Q (.ref p) (upd (updT H (as.zip (kvs.map fun kv => [kV kv.1, kv.2]))) p (.lst (sortBy (as.map V.ref) (pairP (kvs.map (·.1)) ps))))
theorem cr_sortV {k : Nat} (hcalm : X.calm = true) (hr : Room k X.A) : CallR X (.builtin "sorted") (rSortV X.K) := by
  intro pins s σ H xs us Q I rl h
  obtain ⟨r, d, kvs, ps, rfl, hv, hd, hp, ok, q⟩ := h
  rw [ref_one rl]
  obtain ⟨vw, _, _⟩ := I.hok r _ hv
  obtain ⟨z, lo, vs, rel, dd⟩ := dk_rd I.hok hd
  obtain ⟨ep, hat⟩ := dd.dictAt
  have l1 : kvs.length = vs.length := rel.length
  have l2 : kvs.length = ps.length := by have := dpAll_len hp; rw [List.length_map] at this; exact this
  have lpd : (pairP (kvs.map (·.1)) ps).length = kvs.length := by rw [pairP_len (by rw [List.length_map]; exact l2), List.length_map]
  unfold sortOk at ok
  rw [Bool.and_eq_true, Bool.and_eq_true] at ok
  obtain ⟨⟨hal, hso⟩, hdep⟩ := ok
  refine sorted_items (pd := pairP (kvs.map (·.1)) ps) (β := V × PyData) (enc := Prod.snd) (I.ok.hd hcalm) vw hat (by rw [← l1]; exact z) ?_ (sortable_of hso) (fun b hb => ?_) fun h1 tk as st hl G => ?_
  · unfold AlikeL at hal
    simp only [List.all_eq_true] at hal
    exact fun d hd d' hd' => hal d hd d' hd'
  · have h1 := hr.un
    have h2 : b.depth ≤ 60 := by
      rw [List.all_eq_true] at hdep
      simpa using hdep b hb
    omega
  · have lal : (as.map V.ref).length = (pairP (kvs.map (·.1)) ps).length := by rw [List.length_map, lpd, hl, l1]
    refine ⟨(as.map V.ref).zip (pairP (kvs.map (·.1)) ps), fun v b => RelV b.1 v, List.map_snd_zip (by omega), each_zip (by simp) lal fun i v x p e1 e2 e3 => ?_, each_zip (by simp) lal fun i v x p e1 e2 e3 => ?_, fun p out c h' hp' st' hat' ev => ?_⟩
    · rw [List.getElem?_map] at e1 e2
      cases ea : as[i]? with
      | none => rw [ea] at e1; cases e1
      | some a => rw [ea] at e1 e2; cases e1; cases e2; rfl
    · obtain ⟨kk, pq, f1, f2, rfl⟩ := pairP_get e3
      rw [List.getElem?_map] at e1
      cases ea : as[i]? with
      | none => rw [ea] at e1; cases e1
      | some a =>
        rw [ea] at e1; cases e1
        obtain ⟨key, k', x', g1, g2, g3⟩ := G.pairs i a ea
        obtain ⟨v', c1, c2⟩ := kv_get rel g1
        rw [List.getElem?_map, c1] at f1
        cases f1
        obtain ⟨p', d1, d2⟩ := dpAll_get hp (i := i) (x := v') (by rw [List.getElem?_map, c1]; rfl)
        rw [f2] at d1; cases d1
        obtain ⟨bb, rd⟩ := Dp.reads I pq v' x' d2 c2
        exact ⟨_, .tuple g3 rfl rfl (.cons (key_reads g2) (.cons (PyProof.Rows.Reads.keeps st rd) .nil))⟩
    · have nd : as.Nodup := G.rise.imp fun h => Nat.ne_of_lt h
      have abv : ∀ a ∈ as, s.heap.objs.size ≤ a := fun a ha => Nat.le_of_lt (G.above a ha)
      have lz : as.length = (kvs.map fun kv => [kV kv.1, kv.2]).length := by rw [List.length_map, hl, l1]
      have keysE : (as.zip (kvs.map fun kv => [kV kv.1, kv.2])).map (·.1) = as := List.map_fst_zip (by omega)
      have I1 : Inv X pins σ (updT H (as.zip (kvs.map fun kv => [kV kv.1, kv.2]))) { s with heap := h1, toks := tk } := by
        refine inv_laids I st (by rw [keysE]; exact nd) (fun t ht => abv _ (List.of_mem_zip (show (t.1, t.2) ∈ _ from ht)).1) fun t ht => ?_
        obtain ⟨i, hi⟩ := List.mem_iff_getElem?.mp ht
        have hi' : (as.zip (kvs.map fun kv => [kV kv.1, kv.2]))[i]? = some (t.1, t.2) := hi
        rw [List.getElem?_zip_eq_some] at hi'
        obtain ⟨j1, j2⟩ := hi'
        obtain ⟨key, k', x', g1, g2, g3⟩ := G.pairs i t.1 j1
        obtain ⟨v', c1, c2⟩ := kv_get rel g1
        rw [List.getElem?_map, c1] at j2
        have j3 : t.2 = [kV k', v'] := (Option.some.inj j2).symm
        rw [j3]
        exact ⟨show 2 ≤ sizeLine by decide, [key, x'], .cons (key_rel g2) (.cons c2 .nil), ⟨_, g3, rfl, _, rfl⟩⟩
      have I0 : Inv X pins σ H { s with heap := h1, toks := tk } := I.kept st
      refine ⟨.ref p, _, I1.laid (t' := tk) (o := .lst (sortBy (as.map V.ref) (pairP (kvs.map (·.1)) ps))) st' hp' ?_, rfl, q as p (hl.trans l1.symm) nd (fun a ha => I.hok.fresh (abv a ha)) (fun ha => absurd (G.there ha) (Nat.not_lt.mpr hp')) (I0.hok.fresh hp')⟩
      have hlen : (sortBy (as.map V.ref) (pairP (kvs.map (·.1)) ps)).length = kvs.length := by
        unfold sortBy
        rw [List.length_map, List.length_mergeSort, List.length_zip, List.length_map]; omega
      exact ⟨by rw [hlen]; exact z, out, c, vals_of_each ev, hat'⟩
end
end Mi
namespace Mi
open PySem PySem.Spec PyProof.Rows L2
variable [Tb]
def Wd.layT (w : Wd) (ts : List (Addr × List V)) : Wd := ts.foldl (fun w t => w.lay t.1 (.tup t.2)) w
theorem layT_H : ∀ (ts : List (Addr × List V)) (w : Wd), (w.layT ts).H = updT w.H ts
  | [], _ => rfl
  | t :: ts, w => layT_H ts (w.lay t.1 (.tup t.2))
theorem layT_ω : ∀ (ts : List (Addr × List V)) (w : Wd), (w.layT ts).ω = w.ω
  | [], _ => rfl
  | t :: ts, w => layT_ω ts (w.lay t.1 (.tup t.2))
theorem layT_all {K : PySem.W.Frag} : ∀ (ts : List (Addr × List V)) (w : Wd), Fits K w → (ts.map (·.1)).Nodup → (∀ t ∈ ts, w.H t.1 = none) → Grow w (w.layT ts) ∧ Fits K (w.layT ts) ∧ ∀ t ∈ ts, (w.layT ts).S t.1
  | [], w, F, _, _ => ⟨Grow.refl _, F, fun _ h => by cases h⟩
  | t :: ts, w, F, hn, hf => by
    rw [List.map_cons, List.nodup_cons] at hn
    have h0 := hf t List.mem_cons_self
    have g0 := lay_grow (o := .tup t.2) h0
    obtain ⟨g1, F1, m1⟩ := layT_all ts (w.lay t.1 (.tup t.2)) (lay_fits F h0 fun _ z => nomatch z) hn.2 fun u hu => by
      show upd w.H t.1 (.tup t.2) u.1 = none
      rw [upd_ne (fun e => hn.1 (List.mem_map.mpr ⟨u, hu, e⟩))]
      exact hf u (List.mem_cons_of_mem _ hu)
    refine ⟨g0.trans g1, F1, fun u hu => ?_⟩
    rcases List.mem_cons.mp hu with rfl | hu
    · exact g1.S _ (.inr rfl)
    · exact m1 u hu
def pairsD (ks : List Key) (vs : List D) : List D := List.zipWith (fun k v => .tup [dKey k, v]) ks vs
theorem toP_key (k : Key) : toP (dKey k) = some (kData k) := by cases k <;> rfl
theorem toPs_pairs : ∀ {ks : List Key} {vs : List D} {pp : List PyData}, ks.length = vs.length → toPs (pairsD ks vs) = some pp → ∃ ps, toPs vs = some ps ∧ pp = pairP ks ps
  | [], [], _, _, h => by
    have h' : some ([] : List PyData) = some _ := h
    cases h'
    exact ⟨[], rfl, rfl⟩
  | k :: ks, v :: vs, pp, hl, h => by
    have h' : toPs (.tup [dKey k, v] :: pairsD ks vs) = some pp := h
    unfold toPs at h'
    cases q1 : toP v with
    | none =>
      have z : toP (.tup [dKey k, v]) = none := by
        unfold toP toPs
        rw [toP_key]
        unfold toPs
        rw [q1]
      rw [z] at h'; cases h'
    | some p =>
      have z : toP (.tup [dKey k, v]) = some (.tuple [kData k, p]) := by
        unfold toP toPs
        rw [toP_key]
        unfold toPs
        rw [q1]
        rfl
      cases q2 : toPs (pairsD ks vs) with
      | none => rw [z, q2] at h'; cases h'
      | some pp' =>
        rw [z, q2] at h'
        cases h'
        obtain ⟨ps, e1, e2⟩ := toPs_pairs (by simpa using hl) q2
        refine ⟨p :: ps, ?_, ?_⟩
        · unfold toPs; rw [q1, e1]
        · rw [e2]; rfl
  | [], _ :: _, _, hl, _ => by simp at hl
  | _ :: _, [], _, hl, _ => by simp at hl
theorem pairs_reps {K : PySem.W.Frag} {S : Addr → Prop} {μ : List Addr} {H : Hp} : ∀ {as : List Addr} {kvs : List (Key × V)} {ds : List D}, as.length = kvs.length → (∀ k ∈ kvs.map (·.1), keyOk k = true) → Reps K S μ H (kvs.map (·.2)) ds → (∀ t ∈ as.zip (kvs.map fun kv => [kV kv.1, kv.2]), S t.1 ∧ H t.1 = some (.tup t.2)) →
    Reps K S μ H (as.map V.ref) (pairsD (kvs.map (·.1)) ds)
  | [], [], _, _, _, .nil, _ => .nil
  | a :: as, kv :: kvs, _, hl, hk, .cons (d := d) h t, hs => by
    obtain ⟨s1, s2⟩ := hs (a, [kV kv.1, kv.2]) List.mem_cons_self
    exact .cons (.tup s1 s2 (show 2 ≤ sizeLine by decide) (.cons (Rep.ofKey (hk kv.1 List.mem_cons_self)) (.cons h .nil))) (pairs_reps (by simpa using hl) (fun k hk' => hk k (List.mem_cons_of_mem _ hk')) t fun u hu => hs u (List.mem_cons_of_mem _ hu))
  | [], _ :: _, _, hl, _, _, _ => by simp at hl
  | _ :: _, [], _, hl, _, _, _ => by simp at hl
def sortI (d : D) : M (List D) := match d with
  | .dic ks vs => if ks.length = vs.length ∧ keysOk ks = true then sortL (pairsD ks vs) else M.stuck
  | _ => M.stuck
def eSortI (f : Env → M D) : Env → M (List D) := fun ρ => (f ρ).bind fun d => (drf d).bind sortI
section
variable {X : Cx} {W : WX} {a o : Expr} {f : Env → M D} {pos p apos cpos : Pos}
theorem mf_sortedItems {k : Nat} (hc : X.calm = true) (hr : Room k X.A) (hg : Gl X "sorted") (hm : X.mg "sorted" = none) (ho : ME X W o f) (hbase : attributeBase o "items" X.env (eval o X.env) = eval o X.env := by rfl) (hline : (apos.endLine == cpos.line) = true := by rfl)
    (he : starEach [.Call (.Attribute o "items" apos) [] [] cpos] X.env = (false, eval (.Call (.Attribute o "items" apos) [] [] cpos) X.env) :: starEach [] X.env := by rfl) (hpl : (backTo pos (starEach [] X.env)).any (·.1) = false := by rfl) :
    MF X W (.Call (.Name "sorted" p) [.Call (.Attribute o "items" apos) [] [] cpos] [] pos) (eSortI f) := by
  refine PE.sub (pe_callB (cr_sortV hc hr) hg hm boot_sorted' (pa_cons (pe_itemsV ho hbase hline) pa_nil he) (by decide) (by decide) he hpl) ?_
  rintro σ H Q ⟨w, ρ, rfl, F, E, h⟩
  refine ⟨w, ρ, rfl, F, E, Holds.thn h fun d w1 g1 F1 h1 x rx => ?_⟩
  refine drf_thn F1 h1 rx fun d' sx h2 => ?_
  unfold sortI at h2
  cases d' with
  | dic ks vs =>
    obtain ⟨⟨hlk, hok⟩, h2⟩ := Holds.ite h2
    obtain ⟨ad, kvs, rfl, k1, k2, rfl, k3⟩ := sx.dicAt
    refine ⟨ad, kvs, rfl, k1, fun r hr0 => ?_⟩
    show rSortV X.K [.ref r] (upd w1.H r (ItV r ad)) Q
    have hne : ad ≠ r := fun z => by
      subst z
      rcases k1 with k1 | ⟨_, k1⟩ <;> rw [hr0] at k1 <;> cases k1
    have gr : Grow w1 { w1 with H := upd w1.H r (ItV r ad) } := side_grow (K := X.K) (Grow.refl w1) hr0
    have Fr : Fits X.K { w1 with H := upd w1.H r (ItV r ad) } := side_fits F1 (fun h => F1.dom r h hr0) (fun h => F1.domμ r h hr0) (by rw [hr0]; exact noTab_none)
    unfold sortL at h2
    cases zp : toPs (pairsD (kvs.map (·.1)) vs) with
    | none => rw [zp] at h2; exact Holds.no (α := List D) h2
    | some pp =>
      rw [zp] at h2
      dsimp only at h2
      obtain ⟨sok, h2⟩ := Holds.ite h2
      obtain ⟨ps, e1, rfl⟩ := toPs_pairs hlk zp
      have rr := gr.reps k3
      refine ⟨r, ad, kvs, ps, rfl, upd_same, ?_, rr.dp e1, sok, fun as p hl nd hf hpn hp => ?_⟩
      · rcases k1 with k1 | ⟨ob, k1⟩
        · exact .inl (by rw [upd_ne hne]; exact k1)
        · exact .inr ⟨ob, by rw [upd_ne hne]; exact k1⟩
      · have lz : as.length = (kvs.map fun kv => [kV kv.1, kv.2]).length := by rw [List.length_map]; exact hl
        have keysE : (as.zip (kvs.map fun kv => [kV kv.1, kv.2])).map (·.1) = as := List.map_fst_zip (by omega)
        obtain ⟨g3, F3, m3⟩ := layT_all (as.zip (kvs.map fun kv => [kV kv.1, kv.2])) { w1 with H := upd w1.H r (ItV r ad) } Fr (by rw [keysE]; exact nd) fun t ht => hf _ (List.of_mem_zip (show (t.1, t.2) ∈ _ from ht)).1
        have eH := layT_H (as.zip (kvs.map fun kv => [kV kv.1, kv.2])) { w1 with H := upd w1.H r (ItV r ad) }
        have eω := layT_ω (as.zip (kvs.map fun kv => [kV kv.1, kv.2])) { w1 with H := upd w1.H r (ItV r ad) }
        have rp := pairs_reps (ds := vs) hl (fun k hk => by unfold keysOk at hok; rw [List.all_eq_true] at hok; exact hok k hk) (g3.reps rr) fun t ht => ⟨m3 t ht, by rw [eH]; exact updT_in (by rw [keysE]; exact nd) ht⟩
        have hpl : (pairsD (kvs.map (·.1)) vs).length = (pairP (kvs.map (·.1)) ps).length := toPs_len zp
        have rs := reps_sort rp hpl
        have fin := h2 _ (gr.trans g3) F3 eω p _ (by rw [eH, updT_not (by rw [keysE]; exact hpn)]; exact hp) rs ?_
        · rw [eH] at fin
          exact fin
        · unfold sortBy
          rw [List.length_map, List.length_mergeSort, List.length_zip, List.length_map]
          omega
  | _ => exact Holds.no (α := List D) h2
end
end Mi
/-! sorted(d): the keys -/
namespace Mi
open PySem PySem.Spec PyProof.Rows L2
section
variable {prog : Program} {w : World} {A : Around} {E : Value → Shared → Prop} {s : Shared}
theorem sorted_keys {d : Addr} {kvs : List (Key × Value)} {ep : Nat} {Q : Value → Shared → Prop} (hh : A.handled = none) (lo : (d == sysModules) = false) (hm : s.heap.DictAt (mixKind prog w) d kvs ep) (hn : kvs.length ≤ sizeLine)
    (hal : PySem.W.AllAlike (kvs.map fun kv => kData kv.1)) (hk : PySem.W.Sortable (kvs.map fun kv => kData kv.1)) (hu : A.units + 70 < cLine)
    (h : ∀ (h1 : Heap) (tk : Nat) p out c h', Stays s.heap h1 → h1.objs.size ≤ p → Stays h1 h' → h'.get? p = some (seqObj "list" (List.toArray out) c) → PySem.W.EachIs (fun v b => RelV b.1 v) out (((kvs.map fun kv => kV kv.1).zip (kvs.map fun kv => kData kv.1)).mergeSort (PySem.W.dataLe false Prod.snd)) → Q (.ref p) { s with heap := h', toks := tk }) :
    wpAny (model prog w) A (call (.builtin "sorted") [.ref d]) Q E s := by
  refine Calls.call_function_entry kind_sorted plain_sorted entry_sorted (args_sorted1 _) ?_
  unfold Builtin.«sorted»
  refine wpAny_bind (m := checkCount "sorted" 1 1 _) (wpAny_pure ?_)
  refine wpAny_bind (PySem.W.kdu_collect (A := A.in1) (PySem.W.kdl_dict (knd := mixKind prog w) (kvs := kvs) (ep := ep) lo) hh hm hn fun h1 tk acc st hacc => ?_)
  have hvl : acc.toList.length = kvs.length := by rw [Array.length_toList, hacc.1]
  have at' : ∀ (i : Nat) (v : Value), acc.toList[i]? = some v → ∃ k x, kvs[i]? = some (k, x) ∧ keyIs k v = true := fun i v e => hacc.2 i v (by rw [← Array.getElem?_toList]; exact e)
  generalize acc.toList = vs at hvl at'
  have hvz : vs.length ≤ sizeLine := by rw [hvl]; exact hn
  let bs : List (V × PyData) := (kvs.map fun kv => kV kv.1).zip (kvs.map fun kv => kData kv.1)
  have hbs : bs.map Prod.snd = kvs.map fun kv => kData kv.1 := List.map_snd_zip (by simp)
  have e : PySem.W.EachIs (fun v (b : V × PyData) => RelV b.1 v) vs bs := each_zip (by simpa using hvl) (by simp) fun i v x p e1 e2 e3 => by
    obtain ⟨k, y, g1, g2⟩ := at' i v e1
    rw [List.getElem?_map, g1] at e2
    cases e2
    exact key_rel g2
  have er : PySem.W.EachIs (fun v (b : V × PyData) => ∃ bb, Reads h1 v b.2 bb) vs bs := each_zip (by simpa using hvl) (by simp) fun i v x p e1 e2 e3 => by
    obtain ⟨k, y, g1, g2⟩ := at' i v e1
    rw [List.getElem?_map, g1] at e3
    cases e3
    exact ⟨_, key_reads g2⟩
  have hal' : PySem.W.AllAlike (bs.map Prod.snd) := by rw [hbs]; exact hal
  have hk' : PySem.W.Sortable (bs.map Prod.snd) := by rw [hbs]; exact hk
  have hu' : ∀ b, b ∈ bs → A.units + 2 + b.2.depth < cLine := fun b hb => by
    have : b.2 ∈ kvs.map fun kv => kData kv.1 := by rw [← hbs]; exact List.mem_map_of_mem hb
    obtain ⟨kv, _, e⟩ := List.mem_map.mp this
    have hd : b.2.depth ≤ 60 := by
      rw [← e]
      cases kv.1 with
      | inl i => show (PyData.int i).depth ≤ 60; unfold PyData.depth; omega
      | inr x => show (PyData.str x).depth ≤ 60; unfold PyData.depth; omega
    omega
  refine wpAny_bind (wpAny_newList ?_ hvz)
  have hoL : (h1.push (seqObj "list" vs.toArray 0)).get? h1.objs.size = some (seqObj "list" vs.toArray 0) := Heap.get?_push_size _ rfl
  have old : Stays h1 (PySem.W.sortingHeap (h1.push (seqObj "list" vs.toArray 0)) h1.objs.size vs) := fun b o q =>
    PySem.W.sortingHeap_old (Nat.ne_of_lt (Heap.lt_size q)) (Heap.get?_push_of_some _ q)
  have er' : PySem.W.EachIs (fun v (b : V × PyData) => ∃ as, Reads (PySem.W.sortingHeap (h1.push (seqObj "list" vs.toArray 0)) h1.objs.size vs) v b.2 as) vs bs := er.mono fun _ _ ⟨as, r⟩ => ⟨as, PyProof.Rows.Reads.keeps old r⟩
  refine wpAny_bind (wpAny_holding (wpAny_call_entry slot_list_sort ⟨_, hoL, rfl⟩ entry_list_sort (PySem.W.list_sort_vals (s := { s with heap := h1.push (seqObj "list" vs.toArray 0), toks := tk }) hoL
    (PySem.W.SortsAt.data (s := { s with heap := PySem.W.sortingHeap (h1.push (seqObj "list" vs.toArray 0)) h1.objs.size vs, toks := tk }) (PySem.W.each_map (R := fun v d => ∃ as, Reads (PySem.W.sortingHeap (h1.push (seqObj "list" vs.toArray 0)) h1.objs.size vs) v d as) Prod.snd er') hal' hk' (PySem.W.bound_map (A := A.in1.in1) hu')) hvz ⟨_, rfl, ?_⟩) (args_list_sort _)))
  have ev := PySem.W.sortVals_data (R := fun v (b : V × PyData) => RelV b.1 v) false e er' hal'
  generalize hout : PySem.W.sortVals (PySem.W.dataKind (PySem.W.sortingHeap (h1.push (seqObj "list" vs.toArray 0)) h1.objs.size vs) (bs.map Prod.snd)) false vs vs = out at ev
  obtain ⟨c, hc⟩ := sortedHeap_at (vs := vs) (out := out.toArray) hoL
  refine wpAny_pure ⟨_, rfl, h h1 tk h1.objs.size out c _ st (Nat.le_refl _) (fun b u q => ?_) hc ev⟩
  have hlt := Heap.lt_size q
  show (sortedHeap (h1.push (seqObj "list" vs.toArray 0)) h1.objs.size vs out.toArray).get? b = some u
  rw [sortedHeap_old (Nat.ne_of_lt hlt) (by rw [size_push']; exact Nat.lt_succ_of_lt hlt)]
  exact Heap.get?_push_of_some _ q
end
section
variable {X : Cx}
def rSortK : List V → Hp → VK → Prop := fun xs H Q => ∃ (d : Addr) (kvs : List (Key × V)), xs = [.ref d] ∧ Rd H d (.dK kvs) ∧ sortOk (kvs.map fun kv => kData kv.1) = true ∧ ∀ p, H p = none → Q (.ref p) (upd H p (.lst (sortBy (kvs.map fun kv => kV kv.1) (kvs.map fun kv => kData kv.1))))
theorem cr_sortK {k : Nat} (hcalm : X.calm = true) (hr : Room k X.A) : CallR X (.builtin "sorted") rSortK := by
  intro pins s σ H xs us Q I rl h
  obtain ⟨d, kvs, rfl, hd, ok, q⟩ := h
  rw [ref_one rl]
  obtain ⟨z, lo, vs, rel, dd⟩ := dk_rd I.hok hd
  obtain ⟨ep, hat⟩ := dd.dictAt
  have ek : vs.map (·.1) = kvs.map (·.1) := rel.keys.symm
  have e1 : (vs.map fun kv => kData kv.1) = kvs.map fun kv => kData kv.1 := by
    have := congrArg (List.map kData) ek
    rwa [List.map_map, List.map_map] at this
  have e2 : (vs.map fun kv => kV kv.1) = kvs.map fun kv => kV kv.1 := by
    have := congrArg (List.map kV) ek
    rwa [List.map_map, List.map_map] at this
  unfold sortOk at ok
  rw [Bool.and_eq_true, Bool.and_eq_true] at ok
  obtain ⟨⟨hal, hso⟩, hdep⟩ := ok
  have l1 : kvs.length = vs.length := rel.length
  refine sorted_keys (I.ok.hd hcalm) lo hat (by rw [← l1]; exact z) (by
    rw [e1]
    unfold AlikeL at hal
    simp only [List.all_eq_true] at hal
    exact fun d hd d' hd' => hal d hd d' hd') (by rw [e1]; exact sortable_of hso) (by have := hr.un; omega) fun h1 tk p out c h' st hp st' hat' ev => ?_
  rw [e1, e2] at ev
  have I1 : Inv X pins σ H { s with heap := h1, toks := tk } := I.kept st
  refine ⟨.ref p, _, I1.laid (t' := tk) (o := .lst (sortBy (kvs.map fun kv => kV kv.1) (kvs.map fun kv => kData kv.1))) st' hp ?_, rfl, q p (I1.hok.fresh hp)⟩
  have hlen : (sortBy (kvs.map fun kv => kV kv.1) (kvs.map fun kv => kData kv.1)).length = kvs.length := by
    unfold sortBy
    rw [List.length_map, List.length_mergeSort, List.length_zip, List.length_map, List.length_map]; omega
  exact ⟨by rw [hlen]; exact z, out, c, vals_of_each ev, hat'⟩
end
variable [Tb]
def sortKd (d : D) : M (List D) := match d with
  | .dic ks _ => if keysOk ks = true then sortL (ks.map dKey) else M.stuck
  | _ => M.stuck
theorem toPs_keys : ∀ (ks : List Key), toPs (ks.map dKey) = some (ks.map kData)
  | [] => rfl
  | k :: ks => by
    show toPs (dKey k :: ks.map dKey) = _
    unfold toPs
    rw [toP_key, toPs_keys ks]
    rfl
theorem keys_reps {K : PySem.W.Frag} {S : Addr → Prop} {μ : List Addr} {H : Hp} : ∀ {ks : List Key}, (∀ k ∈ ks, keyOk k = true) → Reps K S μ H (ks.map kV) (ks.map dKey)
  | [], _ => .nil
  | k :: ks, h => .cons (Rep.ofKey (h k List.mem_cons_self)) (keys_reps fun k' hk => h k' (List.mem_cons_of_mem _ hk))
section
variable {X : Cx} {W : WX} {a : Expr} {fs : Env → M (List D)} {pos p : Pos}
theorem opNF_sortK : OpNF X rSortK (one fun d => (drf d).bind sortKd) := by
  intro W σ w xs ds Q F rs q
  exact one_thn q rs fun v d e r' q' => by
    subst e
    refine drf_thn F q' r' fun d' sx h => ?_
    unfold sortKd at h
    cases d' with
    | dic ks vs =>
      obtain ⟨hok, h⟩ := Holds.ite h
      obtain ⟨ad, kvs, rfl, k1, k2, rfl, k3⟩ := sx.dicAt
      unfold sortL at h
      rw [toPs_keys] at h
      dsimp only at h
      obtain ⟨sok, h⟩ := Holds.ite h
      simp only [List.map_map] at sok h
      have rk : w.reps X.K ((kvs.map (·.1)).map kV) ((kvs.map (·.1)).map dKey) := keys_reps fun k hk => by unfold keysOk at hok; rw [List.all_eq_true] at hok; exact hok k hk
      have rs := reps_sort rk (ps := kvs.map (kData ∘ fun x => x.1)) (by simp)
      simp only [List.map_map] at rs
      refine ⟨ad, kvs, rfl, k1, sok, AnsF.new F h rs ?_⟩
      unfold sortBy
      rw [List.length_map, List.length_mergeSort, List.length_zip, List.length_map, List.length_map]
      omega
    | _ => exact Holds.no (α := List D) h
theorem mf_sortedK {k : Nat} (hc : X.calm = true) (hr : Room k X.A) (hg : Gl X "sorted") (hm : X.mg "sorted" = none) (ha : MA X W [a] fs) (he : starEach [a] X.env = (false, eval a X.env) :: starEach [] X.env := by rfl) (hpl : (backTo pos (starEach [] X.env)).any (·.1) = false := by rfl) : MF X W (.Call (.Name "sorted" p) [a] [] pos) (eNF (one fun d => (drf d).bind sortKd) fs) := mf_callB (cr_sortK hc hr) opNF_sortK hg hm boot_sorted' ha (by decide) (by decide) he hpl
end
end Mi
/-! more rules: dict.pop, dict of pairs, list.count, list.index, list.remove; texts and numbers -/
namespace Mi
open PySem PySem.Spec PyProof.Rows L2
variable [Tb]
/-- the cell that an expression tells -/
def ghF (f : Env → M D) : Env → List Cell → Option Nat := fun ρ ω => match f ρ ω with
  | .ok (.cell n) _ => some n
  | _ => none
/-! d.pop(k) of a cell -/
def dropVs : List Key → List D → Key → List D
  | k :: ks, v :: vs, j => if k = j then dropVs ks vs j else v :: dropVs ks vs j
  | _, _, _ => []
def dropKs (ks : List Key) (k : Key) : List Key := ks.filter fun x => decide (x ≠ k)
theorem drop_keys {kvs : List (Key × V)} {k : Key} : (dropK kvs k).map (·.1) = dropKs (kvs.map (·.1)) k := by
  unfold dropK dropKs
  rw [List.filter_map]; rfl
theorem drop_reps {K : PySem.W.Frag} {S : Addr → Prop} {μ : List Addr} {H : Hp} {k : Key} : ∀ {kvs : List (Key × V)} {ds : List D}, Reps K S μ H (kvs.map (·.2)) ds → Reps K S μ H ((dropK kvs k).map (·.2)) (dropVs (kvs.map (·.1)) ds k)
  | [], _, .nil => .nil
  | p :: kvs, _, .cons (d := d) (ds := ds) h t => by
    show Reps K S μ H ((dropK (p :: kvs) k).map (·.2)) (if p.1 = k then dropVs (kvs.map (·.1)) ds k else d :: dropVs (kvs.map (·.1)) ds k)
    have ih := drop_reps (k := k) t
    unfold dropK at ih ⊢
    by_cases q : p.1 = k
    · rw [if_pos q, List.filter_cons_of_neg (by simp [q])]; exact ih
    · rw [if_neg q, List.filter_cons_of_pos (by simp [q])]; exact .cons h ih
theorem dropK_le (kvs : List (Key × V)) (k : Key) : (dropK kvs k).length ≤ kvs.length := List.length_filter_le _ _
def popD (d e : D) : M D := fun ω => match d, keyD e with
  | .cell n, some k => match ω[n]? with
    | some (.dic ks vs) => match valD ks vs k with
      | some z => .ok z (ω.set n (.dic (dropKs ks k) (dropVs ks vs k)))
      | none => .stuck
    | _ => .stuck
  | _, _ => .stuck
def ePopD (f g : Env → M D) : Env → M D := fun ρ => (f ρ).bind fun d ω => if isDic d ω = true then ((g ρ).bind fun e => popD d e) ω else .stuck
section
variable {X : Cx} {W : WX} {a b o : Expr} {es : List Expr} {fs : Env → M (List D)} {f g : Env → M D} {pos p apos : Pos}
theorem me_popD (ho : ME X W o f) (ha : ME X W a g) (m : M1 X o "pop" apos a pos := by exact ⟨rfl, rfl, rfl, rfl⟩) : ME X W (.Call (.Attribute o "pop" apos) [a] [] pos) (ePopD f g) := by
  refine PE.sub (pe_dpop1 ho ha m) ?_
  rintro σ H Q ⟨w, ρ, rfl, F, E, h⟩
  refine ⟨w, ρ, rfl, F, E, Holds.thn h fun d w1 g1 F1 h1 v rv => ?_⟩
  by_cases hc : isDic d w1.ω = true
  · rw [if_pos hc] at h1
    obtain ⟨al, rfl, hd⟩ := isDic_at F1 rv hc
    refine ⟨al, rfl, hd, w1, ρ, rfl, F1, E.grow g1, Holds.thn h1 fun e w2 g2 F2 h2 y ry => ?_⟩
    have rv2 := g2.rep rv
    unfold popD at h2
    cases rv2 with
    | @cell n a' hn =>
      cases q : keyD e with
      | none => rw [q] at h2; exact h2.elim
      | some kk =>
        rw [q] at h2
        dsimp only at h2
        cases z : w2.ω[n]? with
        | none => rw [z] at h2; exact h2.elim
        | some cc =>
          rw [z] at h2
          cases cc with
          | dic ks vs =>
            dsimp only at h2
            rcases F2.live n al _ hn z with e' | ⟨nS, kvs, k1, k2, rfl, k4⟩
            · cases e'
            · cases q2 : valD (kvs.map (·.1)) vs kk with
              | none => rw [q2] at h2; exact h2.elim
              | some zz =>
                rw [q2] at h2
                obtain ⟨v', e1, r⟩ := valD_some k4 q2
                refine ⟨kvs, kk, v', k1, ry.key q, e1, ?_⟩
                have wr : Wr (w2.H al) := by rw [k1]; exact wr_dK
                have gr0 : Grow w2 (w2.put n al (.dK (dropK kvs kk)) (.dic (dropKs (kvs.map (·.1)) kk) (dropVs (kvs.map (·.1)) vs kk))) := put_grow hn nS wr
                obtain ⟨g3, F3⟩ := put_all F2 hn nS wr (o := .dK (dropK kvs kk)) (c := .dic (dropKs (kvs.map (·.1)) kk) (dropVs (kvs.map (·.1)) vs kk)) ⟨dropK kvs kk, upd_same, Nat.le_trans (dropK_le _ _) k2, drop_keys, gr0.reps (drop_reps k4)⟩
                exact h2 _ g3 F3 rfl v' (g3.rep r)
          | _ => exact h2.elim
    | _ => exact h2.elim
  · rw [if_neg hc] at h1; exact h1.elim
/-! dict(pairs) -/
def pairs? : List D → Option (List (Key × D))
  | [] => some []
  | .tup [k, v] :: ds => match keyD k, pairs? ds with
    | some kk, some r => some ((kk, v) :: r)
    | _, _ => none
  | _ :: _ => none
def mergeD (ks : List Key) (vs : List D) : List (Key × D) → List Key × List D
  | [] => (ks, vs)
  | (k, d) :: r => mergeD (putKs ks k) (putVs ks vs k d) r
theorem merge_reps {K : PySem.W.Frag} {S : Addr → Prop} {μ : List Addr} {H : Hp} : ∀ {more : List (Key × V)} {prs : List (Key × D)} {kvs : List (Key × V)} {ds : List D}, more.map (·.1) = prs.map (·.1) → Reps K S μ H (more.map (·.2)) (prs.map (·.2)) → Reps K S μ H (kvs.map (·.2)) ds →
    (mergeK kvs more).map (·.1) = (mergeD (kvs.map (·.1)) ds prs).1 ∧ Reps K S μ H ((mergeK kvs more).map (·.2)) (mergeD (kvs.map (·.1)) ds prs).2
  | [], [], kvs, ds, _, _, h => ⟨rfl, h⟩
  | kv :: more, (k, d) :: prs, kvs, ds, e, .cons h t, hk => by
    have e1 : kv.1 = k := by injection e
    have e2 : more.map (·.1) = prs.map (·.1) := by injection e
    obtain ⟨k', v'⟩ := kv
    dsimp only at e1
    subst e1
    have := merge_reps (kvs := putK kvs k' v') (ds := putVs (kvs.map (·.1)) ds k' d) e2 t (putK_reps h hk)
    rw [putK_keys] at this
    exact this
  | [], _ :: _, _, _, e, _, _ => by cases e
  | _ :: _, [], _, _, e, _, _ => by cases e
theorem pairs_at {K : PySem.W.Frag} {S : Addr → Prop} {μ : List Addr} {H : Hp} : ∀ {vs : List V} {ds : List D} {prs : List (Key × D)}, Reps K S μ H vs ds → pairs? ds = some prs → ∃ (as : List Addr) (kvs : List (Key × V)), vs = as.map V.ref ∧ Paired (fun p kv => SqT K H p [kV kv.1, kv.2]) as kvs ∧ kvs.map (·.1) = prs.map (·.1) ∧ Reps K S μ H (kvs.map (·.2)) (prs.map (·.2))
  | _, [], prs, .nil, e => by cases e; exact ⟨[], [], rfl, .nil, rfl, .nil⟩
  | _, d :: ds, prs, .cons h t, e => by
    unfold pairs? at e
    split at e
    · rename_i heq; cases heq
    · rename_i k v ds' heq
      cases heq
      cases q : keyD k with
      | none => rw [q] at e; cases e
      | some kk =>
        cases q2 : pairs? ds with
        | none => rw [q, q2] at e; cases e
        | some r =>
          rw [q, q2] at e
          cases e
          obtain ⟨as, kvs, e1, e2, e3, e4⟩ := pairs_at t q2
          cases h with
          | @tup a _ _ hS hH hl hr =>
            cases hr with
            | cons h1 hr => cases hr with
              | @cons v2 _ _ _ h2 hr =>
                cases hr
                have ek := h1.key q
                refine ⟨a :: as, (kk, v2) :: kvs, by rw [e1]; rfl, .cons ?_ e2, by rw [List.map_cons, List.map_cons, e3], .cons h2 e4⟩
                rw [ek] at hH
                exact .inl (.inl hH)
    · cases e
@[simp] def oDictP (d : D) : M D := match d with
  | .lst ds => match pairs? ds with
    | some prs => if prs.length ≤ 1000 then M.ret (.dic (mergeD [] [] prs).1 (mergeD [] [] prs).2) else M.stuck
    | none => M.stuck
  | _ => M.stuck
theorem putK_le (kvs : List (Key × V)) (k : Key) (v : V) : (putK kvs k v).length ≤ kvs.length + 1 := by
  unfold putK
  split <;> simp
theorem mergeK_le : ∀ (more kvs : List (Key × V)), (mergeK kvs more).length ≤ kvs.length + more.length
  | [], kvs => by simp [mergeK]
  | kv :: more, kvs => by
    have := mergeK_le more (putK kvs kv.1 kv.2)
    have h2 := putK_le kvs kv.1 kv.2
    show (mergeK (putK kvs kv.1 kv.2) more).length ≤ _
    rw [List.length_cons]; omega
theorem paired_len {α β : Type} {R : α → β → Prop} : ∀ {as : List α} {bs : List β}, Paired R as bs → as.length = bs.length
  | _, _, .nil => rfl
  | _, _, .cons _ t => by simp [paired_len t]
theorem me_dictP (hc : X.calm = true) (hg : Gl X "dict") (hm : X.mg "dict" = none) (ha : MA X W [a] fs) (he : starEach [a] X.env = (false, eval a X.env) :: starEach [] X.env := by rfl) (hpl : (backTo pos (starEach [] X.env)).any (·.1) = false := by rfl) : ME X W (.Call (.Name "dict" p) [a] [] pos) (eN (one (d1 oDictP)) fs) := by
  refine PE.sub (pe_lockAfter (pe_callTy (call_dictP hc) hg hm boot_dict' ha (by decide) (by decide) he hpl)) ?_
  rintro σ H Q ⟨w, ρ, rfl, F, E, h⟩
  refine ⟨w, ρ, rfl, F, E, Holds.thn h fun ds w1 g1 F1 h1 xs rs => ?_⟩
  refine one_thn h1 rs fun v d e r' q' => ?_
  subst e
  refine drf_thn F1 q' r' fun d' sx q2 => ?_
  unfold oDictP at q2
  cases d' with
  | lst es =>
    dsimp only at q2
    cases z : pairs? es with
    | none => rw [z] at q2; exact q2.no
    | some prs =>
      rw [z] at q2
      dsimp only at q2
      obtain ⟨hl, q2⟩ := Holds.ite q2
      have : ∃ al vs, v = .ref al ∧ SqL X.K w1.H al vs ∧ w1.reps X.K vs es := by
        cases sx with
        | of r => cases r with | lst h1 h2 h3 h4 => exact ⟨_, _, rfl, .inl (.inl h2), h4⟩
        | lst h1 h2 h3 => exact ⟨_, _, rfl, .inl (.inl h1), h3⟩
      obtain ⟨al, vs, rfl, hs, hr⟩ := this
      obtain ⟨as, kvs, e1, e2, e3, e4⟩ := pairs_at hr z
      subst e1
      have hkl : kvs.length = prs.length := by have := congrArg List.length e3; simpa using this
      obtain ⟨m1, m2⟩ := merge_reps (kvs := []) (ds := []) e3 e4 .nil
      refine ⟨al, as, kvs, rfl, hs, e2, fun p hp => ?_⟩
      refine .inr ⟨p, _, upd_same, trivial, fun od => ?_⟩
      have e : upd (upd w1.H p (.dK (mergeK [] kvs))) p (.frz od (.dK (mergeK [] kvs))) = upd w1.H p (.frz od (.dK (mergeK [] kvs))) := by
        funext b
        by_cases hb : b = p
        · subst hb; rw [upd_same, upd_same]
        · rw [upd_ne hb, upd_ne hb, upd_ne hb]
      rw [e]
      have hsz : (mergeK [] kvs).length ≤ sizeLine := by
        have h1 := mergeK_le kvs []
        have h2 : (1000 : Nat) ≤ sizeLine := by decide
        simp at h1; omega
      have m1' : (mergeD [] [] prs).1 = (mergeK [] kvs).map (·.1) := m1.symm
      rw [m1'] at q2
      exact q2 (w1.lay p (.frz od (.dK (mergeK [] kvs)))) (lay_grow hp) (lay_fits F1 hp (fun _ z => nomatch z)) rfl (.ref p) (Rep.dic (.inr rfl) upd_same hsz ((lay_grow hp).reps m2))
  | _ => exact q2.no
end
end Mi
/-! list.count, list.index, list.remove of data; texts and numbers -/
namespace Mi
open PySem PySem.Spec PyProof.Rows L2
variable [Tb]
section
variable {X : Cx} {W : WX} {a b o : Expr} {es : List Expr} {fs : Env → M (List D)} {f g : Env → M D} {pos p apos : Pos}
/-! l.count(x) -/
def rCountD (K : PySem.W.Frag) : V → List V → Hp → VK → Prop := fun x xs H Q => ∃ (a : Addr) (y : V) (d : PyData) (ds : List PyData), x = V.ref a ∧ xs = [y] ∧ Dp K H (V.ref a) (.list ds) ∧ Dp K H y d ∧ SeqAt.shaped (.list ds) = true ∧ SeqAt.shaped d = true ∧ Q (.int ((ds.countP fun z => PyData.eqv z d : Nat) : Int)) H
theorem mt_countD (hu : X.A.units + 65 < cLine) : MtR X "list.count" (rCountD X.K) := by
  intro pins s σ H x xs v us Q I rx rxs h
  obtain ⟨a, y, d, ds, rfl, rfl, hl, hy, sl, sd, q⟩ := h
  cases rx
  cases rxs with
  | cons ry rt =>
    rename_i uy ut
    cases rt
    obtain ⟨bs, r1⟩ := Dp.reads I d y uy hy ry
    have hxs : PyData.canLayAll0 ds = true := SeqAt.canLay_of_shaped sl
    have hroom : X.A.units + 1 + min (PyData.depthAll ds) d.depth < cLine := room_in_shaped sd hu
    cases hl with
    | lst hs ha =>
      obtain ⟨its, rv, ⟨⟨cls, dd, data, sls⟩, n, ho, hc, hdn, hdt⟩, hlen⟩ := I.list hs
      simp only at hc hdt
      subst hc hdt
      obtain ⟨as, h4⟩ := Dp.readsAll I ds _ its ha rv
      have hmap : its.map (SeqAt.readOf s.heap) = ds := SeqAt.readsAll_map ds its as hxs h4
      refine call_meets PySem.F.slot_list_count ⟨_, ho, rfl⟩ PySem.F.entry_list_count (PySem.F.args_list_count_2 _ _)
        (SeqAt.list_countAt a its.toArray n dd sls uy (fun u => PyData.eqv (SeqAt.readOf s.heap u) d)) ⟨ho, SeqAt.items_eqAt (vs := its.toArray) (show ReadsAll s.heap its.toArray.toList ds as from h4) r1 hxs (SeqAt.canLay_of_shaped sd) hroom, ?_⟩
      have ec : its.toArray.toList.countP (fun u => PyData.eqv (SeqAt.readOf s.heap u) d) = ds.countP fun z => PyData.eqv z d := by
        rw [← hmap, List.countP_map]; rfl
      refine ⟨.int ((ds.countP fun z => PyData.eqv z d : Nat) : Int), H, I.tok _, ⟨s.toks, ?_⟩, q⟩
      show Value.int ((its.toArray.toList.countP _ : Nat) : Int) s.toks = Value.int _ s.toks
      rw [ec]
def cntD (d : D) (ds : List D) : M D := match d, ds with
  | .lst xs, [y] => match toPs xs, toP y with
    | some ps, some p => if SeqAt.shaped (.list ps) = true ∧ SeqAt.shaped p = true then M.ret (.int ((ps.countP fun z => PyData.eqv z p : Nat) : Int)) else M.stuck
    | _, _ => M.stuck
  | _, _ => M.stuck
def oCountD (d : D) (ds : List D) : M D := (drf d).bind fun d' => cntD d' ds
theorem opM_count : OpM X (rCountD X.K) oCountD := fun W σ w x d xs ds Q F rx rs h => by
  unfold oCountD at h
  refine drf_thn F h rx fun d' sx h2 => ?_
  unfold cntD at h2
  cases d' with
  | lst ys =>
    cases rs with
    | nil => exact h2.no
    | cons r rs => cases rs with
      | cons _ _ => exact h2.no
      | nil =>
        rename_i v2 d2
        dsimp only at h2
        cases q1 : toPs ys with
        | none => rw [q1] at h2; exact h2.no
        | some ps =>
          cases q2 : toP d2 with
          | none => rw [q1, q2] at h2; exact h2.no
          | some pp =>
            rw [q1, q2] at h2
            dsimp only at h2
            obtain ⟨⟨c1, c2⟩, h2⟩ := Holds.ite h2
            have hd := sx.dpL q1
            have : ∃ al, x = .ref al := by
              cases sx with
              | of r => cases r with | lst h1 h2 h3 h4 => exact ⟨_, rfl⟩
              | lst h1 h2 h3 => exact ⟨_, rfl⟩
            obtain ⟨al, rfl⟩ := this
            exact ⟨al, v2, pp, ps, rfl, rfl, hd, r.dp q2, c1, c2, Ans.val F h2 (.int _)⟩
  | _ => exact h2.no
theorem me_count {k : Nat} (hr : Room k X.A) (ha : ME X W a f) (hb : MA X W [b] fs) (hbase : attributeBase a "count" X.env (eval a X.env) = eval a X.env := by rfl)
    (hfew : ((backTo pos (starEach [b] X.env)).all (fun x => !x.1) && (backToKw pos (keywordEach [] X.env)).all (fun x => x.1.isSome)
      && decide ([b].length + ([] : List Keyword).length + (if ([] : List Keyword).isEmpty then 0 else 1) < 30)) = true := by rfl)
    (hline : (apos.endLine == pos.line) = true := by rfl) (hs : starEach [b] X.env = (false, eval b X.env) :: starEach [] X.env := by rfl) (hplain : (backTo pos (starEach [] X.env)).any (·.1) = false := by rfl) :
    ME X W (.Call (.Attribute a "count" apos) [b] [] pos) (eBM chkL oCountD f fs) := me_bm PySem.F.plainAttrs_list PySem.F.slot_list_count PySem.F.type_list_count (mt_countD (room65 hr)) opM_count chkL_ok ha hb hbase hfew hline hs hplain
/-! l.index(x) -/
def idxD (d : D) (ds : List D) : M D := match d, ds with
  | .lst xs, [y] => match toPs xs, toP y with
    | some ps, some p => if SeqAt.shaped (.list ps) = true ∧ SeqAt.shaped p = true then (match ps.findIdx? fun z => PyData.eqv z p with
      | some j => M.ret (.int ((j : Nat) : Int))
      | none => M.stuck) else M.stuck
    | _, _ => M.stuck
  | _, _ => M.stuck
def oIndexD (d : D) (ds : List D) : M D := (drf d).bind fun d' => idxD d' ds
theorem opM_index : OpM X (rIndexD X.K) oIndexD := fun W σ w x d xs ds Q F rx rs h => by
  unfold oIndexD at h
  refine drf_thn F h rx fun d' sx h2 => ?_
  unfold idxD at h2
  cases d' with
  | lst ys =>
    cases rs with
    | nil => exact h2.no
    | cons r rs => cases rs with
      | cons _ _ => exact h2.no
      | nil =>
        rename_i v2 d2
        dsimp only at h2
        cases q1 : toPs ys with
        | none => rw [q1] at h2; exact h2.no
        | some ps =>
          cases q2 : toP d2 with
          | none => rw [q1, q2] at h2; exact h2.no
          | some pp =>
            rw [q1, q2] at h2
            dsimp only at h2
            obtain ⟨⟨c1, c2⟩, h2⟩ := Holds.ite h2
            cases q3 : ps.findIdx? fun z => PyData.eqv z pp with
            | none => rw [q3] at h2; exact h2.no
            | some j =>
              rw [q3] at h2
              have hd := sx.dpL q1
              have : ∃ al, x = .ref al := by
                cases sx with
                | of r => cases r with | lst h1 h2 h3 h4 => exact ⟨_, rfl⟩
                | lst h1 h2 h3 => exact ⟨_, rfl⟩
              obtain ⟨al, rfl⟩ := this
              obtain ⟨z1, z2, z3⟩ := List.findIdx?_eq_some_iff_getElem.mp q3
              refine ⟨al, v2, pp, ps, j, ps[j], rfl, rfl, hd, r.dp q2, c1, c2, List.getElem?_eq_getElem z1, z2, fun m z' hm hz => ?_, Ans.val F h2 (.int _)⟩
              have hml : m < ps.length := by omega
              rw [List.getElem?_eq_getElem hml] at hz
              cases hz
              have := z3 m hm
              simpa using this
  | _ => exact h2.no
theorem me_index {k : Nat} (hr : Room k X.A) (ha : ME X W a f) (hb : MA X W [b] fs) (hbase : attributeBase a "index" X.env (eval a X.env) = eval a X.env := by rfl)
    (hfew : ((backTo pos (starEach [b] X.env)).all (fun x => !x.1) && (backToKw pos (keywordEach [] X.env)).all (fun x => x.1.isSome)
      && decide ([b].length + ([] : List Keyword).length + (if ([] : List Keyword).isEmpty then 0 else 1) < 30)) = true := by rfl)
    (hline : (apos.endLine == pos.line) = true := by rfl) (hs : starEach [b] X.env = (false, eval b X.env) :: starEach [] X.env := by rfl) (hplain : (backTo pos (starEach [] X.env)).any (·.1) = false := by rfl) :
    ME X W (.Call (.Attribute a "index" apos) [b] [] pos) (eBM chkL oIndexD f fs) := me_bm PySem.F.plainAttrs_list PySem.F.slot_list_index PySem.F.type_list_index (mt_indexD (room65 hr)) opM_index chkL_ok ha hb hbase hfew hline hs hplain
/-! l.remove(x) of data -/
def rRemD (K : PySem.W.Frag) : V → List V → Hp → VK → Prop := fun x xs H Q => ∃ (a : Addr) (y : V) (d : PyData) (ds : List PyData) (vs : List V) (j : Nat), x = V.ref a ∧ xs = [y] ∧ H a = some (.lst vs) ∧ DpAll K H vs ds ∧ Dp K H y d ∧ SeqAt.shaped (.list ds) = true ∧ SeqAt.shaped d = true ∧
  (ds.findIdx? fun z => PyData.eqv z d) = some j ∧ Q .non (upd H a (.lst (vs.eraseIdx j)))
theorem vals_erase : ∀ {xs : List V} {us : List Value} (j : Nat), Vals xs us → Vals (xs.eraseIdx j) (us.eraseIdx j)
  | _, _, _, .nil => .nil
  | _, _, 0, .cons _ t => t
  | _, _, j + 1, .cons h t => .cons h (vals_erase j t)
theorem mt_removeD (hu : X.A.units + 65 < cLine) : MtM X "list.remove" (rRemD X.K) := by
  intro pins s σ H x xs v us Q I rx rxs h
  obtain ⟨a, y, d, ds, vs, j, rfl, rfl, hH, ha, hy, sl, sd, hj0, q⟩ := h
  cases rx
  cases rxs with
  | cons ry rt =>
    rename_i uy ut
    cases rt
    obtain ⟨bs, r1⟩ := Dp.reads I d y uy hy ry
    have hxs : PyData.canLayAll0 ds = true := SeqAt.canLay_of_shaped sl
    have hroom : X.A.units + 1 + min (PyData.depthAll ds) d.depth < cLine := room_in_shaped sd hu
    obtain ⟨z, its, n, r, hl, e⟩ := I.lstM hH
    obtain ⟨as, h4⟩ := Dp.readsAll I ds _ its ha r
    have hn : its.length = ds.length := SeqAt.ReadsAll.length ds its as h4
    have hmap : its.map (SeqAt.readOf s.heap) = ds := SeqAt.readsAll_map ds its as hxs h4
    obtain ⟨z1, z2, z3⟩ := List.findIdx?_eq_some_iff_getElem.mp hj0
    have hj : j < its.toArray.size := by rw [List.size_toArray]; omega
    have hvl := r.length
    have at_ : ∀ (m : Nat) (hm : m < its.toArray.size) (hd : m < ds.length), SeqAt.readOf s.heap its.toArray[m] = ds[m] := by
      intro m hm hd
      have hml : m < its.length := by simpa using hm
      have hz : ds[m]? = some ds[m] := List.getElem?_eq_getElem hd
      have hz' : (its.map (SeqAt.readOf s.heap))[m]? = some ds[m] := by rw [hmap]; exact hz
      rw [List.getElem?_map, List.getElem?_eq_getElem hml] at hz'
      have e1 : SeqAt.readOf s.heap its[m] = ds[m] := Option.some.inj hz'
      simpa using e1
    refine call_meets PySem.F.slot_list_remove ⟨_, e, rfl⟩ PySem.F.entry_list_remove (PySem.F.args_list_remove_2 _ _)
      (SeqAt.list_removeAt a its.toArray n _ _ uy (fun u => PyData.eqv (SeqAt.readOf s.heap u) d) j hj ?_ ?_ (by rw [List.size_toArray]; omega)) ⟨e, SeqAt.items_eqAt (vs := its.toArray) (show ReadsAll s.heap its.toArray.toList ds as from h4) r1 hxs (SeqAt.canLay_of_shaped sd) hroom, ?_⟩
    · show PyData.eqv (SeqAt.readOf s.heap its.toArray[j]) d = true
      rw [at_ j hj z1]; exact z2
    · intro m hm hmj
      show PyData.eqv (SeqAt.readOf s.heap its.toArray[m]) d = false
      rw [at_ m hm (by omega)]
      have := z3 m hmj
      simpa using this
    · refine ⟨.non, _, I.lset (its' := its.eraseIdx j) (t' := s.toks) hH e ?_ (vals_erase j r) ?_, rfl, q⟩
      · show its.toArray.eraseIdxIfInBounds j = (its.eraseIdx j).toArray
        rw [List.eraseIdxIfInBounds_toArray]
      · exact Nat.le_trans (len_eraseIdx_le _ _) z
def kRemD (xs ds : List D) : Option (List D × D) := match ds with
  | [y] => match toPs xs, toP y with
    | some ps, some p => if SeqAt.shaped (.list ps) = true ∧ SeqAt.shaped p = true then (match ps.findIdx? fun z => PyData.eqv z p with
      | some j => some (xs.eraseIdx j, .non)
      | none => none) else none
    | _, _ => none
  | _ => none
theorem opM_removeD : OpM X (rRemD X.K) (upL kRemD) := fun W σ w x d xs ds Q F rx rs h => upL_thn F rx h fun a vs ys zs z e h1 h2 h3 hk hw => by
  subst e
  cases rs with
  | nil => cases hk
  | cons r rs => cases rs with
    | cons _ _ => cases hk
    | nil =>
      rename_i v2 d2
      dsimp only [kRemD] at hk
      cases q1 : toPs ys with
      | none => rw [q1] at hk; cases hk
      | some ps => cases q2 : toP d2 with
        | none => rw [q1, q2] at hk; cases hk
        | some pp =>
          rw [q1, q2] at hk
          dsimp only at hk
          by_cases c : SeqAt.shaped (.list ps) = true ∧ SeqAt.shaped pp = true
          · rw [if_pos c] at hk
            cases q3 : ps.findIdx? fun z => PyData.eqv z pp with
            | none => rw [q3] at hk; cases hk
            | some j =>
              rw [q3] at hk
              cases hk
              obtain ⟨w', g', e', q⟩ := hw (vs.eraseIdx j) (Nat.le_trans (len_eraseIdx_le _ _) h2) (h3.eraseIdx j)
              refine ⟨a, v2, pp, ps, vs, j, rfl, rfl, h1, h3.dp q1, r.dp q2, c.1, c.2, q3, ?_⟩
              rw [← e']
              exact q .non .non
          · rw [if_neg c] at hk; cases hk
theorem me_removeD {k : Nat} (hr : Room k X.A) (ha : ME X W a f) (hb : MA X W [b] fs) (hbase : attributeBase a "remove" X.env (eval a X.env) = eval a X.env := by rfl)
    (hfew : ((backTo pos (starEach [b] X.env)).all (fun x => !x.1) && (backToKw pos (keywordEach [] X.env)).all (fun x => x.1.isSome)
      && decide ([b].length + ([] : List Keyword).length + (if ([] : List Keyword).isEmpty then 0 else 1) < 30)) = true := by rfl)
    (hline : (apos.endLine == pos.line) = true := by rfl) (hs : starEach [b] X.env = (false, eval b X.env) :: starEach [] X.env := by rfl) (hplain : (backTo pos (starEach [] X.env)).any (·.1) = false := by rfl) :
    ME X W (.Call (.Attribute a "remove" apos) [b] [] pos) (eBM chkL (upL kRemD) f fs) := me_bm PySem.F.plainAttrs_list PySem.F.slot_list_remove PySem.F.type_list_remove (mt_removeD (room65 hr)) opM_removeD chkL_ok ha hb hbase hfew hline hs hplain
/-! str(i), int(x), texts -/
@[simp] def oStrI (d : D) : M D := match d with
  | .int i => if lt30 i = true then M.ret (.str (toString i)) else M.stuck
  | _ => M.stuck
theorem strOk_of (s : String) : PyData.strOk (Str.ofString s) = true := by
  rw [Str.ofString_eq_toList]
  unfold PyData.strOk
  rw [← Array.all_toList, List.all_eq_true]
  intro c hc
  obtain ⟨ch, _, rfl⟩ := List.mem_map.mp hc
  have hv : ch.toNat.isValidChar := ch.valid
  rw [decide_eq_true_eq]
  rcases hv with h | h
  · exact Nat.lt_trans h (by decide)
  · exact h.2
theorem log_lt {i : Int} (h : lt30 i = true) : i.natAbs.log2 < 1920 := by
  have h2 := lt30_iff.mp h
  by_cases z : i.natAbs = 0
  · rw [z]; decide
  · refine Nat.lt_of_lt_of_le ((Nat.log2_lt z).mpr (show i.natAbs < 2 ^ 30 by omega)) (by decide)
theorem op1_strI : Op1 X (fun x H Q => ∃ i, [x] = [.int i] ∧ i.natAbs.log2 < 1920 ∧ Q (.str (toString i)) H) oStrI := by
  intro W σ w x d Q F rx h
  cases rx with
  | int i =>
    obtain ⟨c, h⟩ := Holds.ite h
    refine ⟨i, rfl, log_lt c, Ans.val F h (.str _ (Nat.le_trans (PyProof.Rows.int_text_len_1921 (log_lt c)) (by decide)) (strOk_of _))⟩
  | _ => exact h.no
theorem boot_str' : bootBuiltins "str" = some (.type "str") := by kernel_rfl
theorem boot_int' : bootBuiltins "int" = some (.type "int") := by kernel_rfl
theorem me_strI (hg : Gl X "str") (hm : X.mg "str" = none) (ha : MA X W [a] fs) (he : starEach [a] X.env = (false, eval a X.env) :: starEach [] X.env := by rfl) (hpl : (backTo pos (starEach [] X.env)).any (·.1) = false := by rfl) : ME X W (.Call (.Name "str" p) [a] [] pos) (eN (one oStrI) fs) := me_callTy call_str_int (opN_one op1_strI) hg hm boot_str' ha (by decide) (by decide) he hpl
@[simp] def oIntT (d : D) : M D := match d with
  | .bl k => M.ret (.int (if k then 1 else 0))
  | .int i => M.ret (.int i)
  | .str x => match PySem.intText? x with
    | some n => if x.length ≤ 640 then M.ret (.int n) else M.stuck
    | none => M.stuck
  | _ => M.stuck
def rIntT : V → Hp → VK → Prop := fun x H Q => (∃ i, x = .int i ∧ Q (.int i) H) ∨ (∃ k, x = .bl k ∧ Q (.int (if k then 1 else 0)) H) ∨ ∃ a n, x = .str a ∧ PySem.intText? a = some n ∧ a.length ≤ 640 ∧ Q (.int n) H
theorem call_intA : CallR X (.type "int") (fun xs H Q => ∃ x, xs = [x] ∧ rIntT x H Q) := by
  intro pins s σ H xs us Q I r q
  obtain ⟨x, rfl, q⟩ := q
  rcases q with ⟨i, rfl, q⟩ | ⟨k, rfl, q⟩ | ⟨a, n, rfl, h1, h2, q⟩
  · exact call_int1 pins s σ H _ us Q I r (.inl ⟨i, rfl, q⟩)
  · exact call_int1 pins s σ H _ us Q I r (.inr ⟨k, rfl, q⟩)
  · exact call_int_str pins s σ H _ us Q I r ⟨a, n, rfl, h1, h2, q⟩
theorem op1_intT : Op1 X (fun x H Q => ∃ y, [x] = [y] ∧ rIntT y H Q) oIntT := by
  intro W σ w x d Q F rx h
  refine ⟨x, rfl, ?_⟩
  cases rx with
  | int i => exact .inl ⟨i, rfl, Ans.val F h (.int _)⟩
  | bl k => exact .inr (.inl ⟨k, rfl, Ans.val F h (.int _)⟩)
  | str y h1 h2 =>
    unfold oIntT at h
    dsimp only at h
    cases q : PySem.intText? y with
    | none => rw [q] at h; exact h.no
    | some n =>
      rw [q] at h
      obtain ⟨c, h⟩ := Holds.ite h
      exact .inr (.inr ⟨y, n, rfl, q, c, Ans.val F h (.int _)⟩)
  | _ => exact h.no
theorem me_intT (hg : Gl X "int") (hm : X.mg "int" = none) (ha : MA X W [a] fs) (he : starEach [a] X.env = (false, eval a X.env) :: starEach [] X.env := by rfl) (hpl : (backTo pos (starEach [] X.env)).any (·.1) = false := by rfl) : ME X W (.Call (.Name "int" p) [a] [] pos) (eN (one oIntT) fs) := me_callTy call_intA (opN_one op1_intT) hg hm boot_int' ha (by decide) (by decide) he hpl
end
end Mi
/-! a lambda made: only its maker's table grows -/
namespace Mi
open PySem PySem.Spec PyProof.Rows L2
section
variable {X : Cx} {pins : List (Addr × Obj)} {σ : L2.St} {H : Hp} {s : Shared}
/-- all stays but the table at tb, which is a table again -/
def Only (tb : Addr) (H H' : Hp) : Prop := (∀ a o, a ≠ tb → H a = some o → H' a = some o) ∧ ∃ ps, H' tb = some (.tbl ps)
theorem frs_new {f : Addr} (I : Inv X pins σ H s) (hf : s.heap.objs.size ≤ f) : f ∉ frs X.stack := fun z => by
  rcases List.mem_cons.mp (I.stkSub _ z) with e | e
  · have := I.lt
    rw [← e] at this
    exact absurd (Nat.lt_of_lt_of_le this hf) (Nat.lt_irrefl _)
  · exact I.nofs hf e
theorem lam_new {T : List (Addr × Str)} {cc tb : Addr} {ar : Arguments} {bd : Expr} {sc : Scope} {pos : Pos} {E : Value → Shared → Prop} {Q : Value → Shared → Prop} (I : Inv X pins σ H s) (TB : LamX.TabB X.base X.mg cc tb) (ec : X.env.code = .ref cc)
    (mT : (tb, X.env.qual ++ "<lambda>") ∈ T) (uT : ∀ p ∈ T, p.1 = tb → p.2 = X.env.qual ++ "<lambda>") (hT : LamX.Tabs T H) (hdf : defaultsOf ar X.env = ([], [])) (hfr : ∀ y ∈ sc.names, y.2 = .free → ∃ c, X.env.cells.lookup y.1 = some c)
    (k : ∀ (f c : Addr) (pm ct : Value) (H1 : Hp) (s1 : Shared), Inv X pins σ H1 s1 → Only tb H H1 → LamX.Tabs T H1 →
      s1.heap.get? f = some (PySem.W.kla_obj "<lambda>" (X.env.qual ++ "<lambda>") ar bd sc (cloFrom X.env.cells sc.names []) pm c ct) → H1 f = none → f ∉ frs X.stack → H1 c = some (LamX.CodeO c (X.env.qual ++ "<lambda>")) → Q (.ref f) s1) :
    wpAny (model X.prog X.w) X.A (eval (.Lambda ar bd sc pos) X.env) Q E s := by
  obtain ⟨ps, hP, tri, am⟩ := hT _ mT
  refine PySem.W.kla_eval hdf ?_
  have bm := TB.bm.keeps I.bk
  have atP : s.heap.get? tb = some { cls := .none, data := .fields ps } := I.hok tb _ hP
  cases q : codeAmong pos ps.toList with
  | some cv =>
    obtain ⟨c, rfl, hc⟩ := am pos cv q
    refine PySem.W.kla_makeFunctionHit (mg := X.mg) (c := cc) (P := tb) (ps := ps) (closure_ok hfr) I.ok.glob (I.mod.glob.keeps I.bk) ec (TB.code.keeps I.bk) atP tri q bm fun ct h1 tk kp sz => ?_
    refine k h1.objs.size c ((X.mg "__name__").getD .none) ct H _ (I.kept fun b o e => Heap.get?_push_of_some _ (kp b o e)) ⟨fun _ _ _ e => e, ps, hP⟩ hT (Heap.get?_push_size _ rfl) (I.hok.fresh sz) (frs_new I sz) hc
  | none =>
    refine PySem.W.kla_makeFunction (mg := X.mg) (c := cc) (P := tb) (ps := ps) (closure_ok hfr) I.ok.glob (I.mod.glob.keeps I.bk) ec (TB.code.keeps I.bk) atP tri q TB.gP bm fun c ct h1 tk kp ge lt rc tbl => ?_
    obtain ⟨c1, oc, vs, t, ev, g1, g2, g3⟩ := rc
    cases ev
    have sz : s.heap.objs.size ≤ h1.objs.size := Nat.le_trans ge (Nat.le_of_lt lt)
    have nC : H c = none := I.hok.fresh ge
    have ntc : tb ≠ c := ne_of_none hP nC
    have J := LamX.inv_table (t' := tk) (more := #[rawInt pos.line, rawInt pos.col, .ref c]) (h' := h1.push (PySem.W.kla_obj "<lambda>" (X.env.qual ++ "<lambda>") ar bd sc (cloFrom X.env.cells sc.names []) ((X.mg "__name__").getD .none) c ct)) I hP
      (fun b o ne e => Heap.get?_push_of_some _ (kp b o ne e)) (Heap.get?_push_of_some _ tbl) ge ⟨oc, vs, t, Heap.get?_push_of_some _ g1, g2, g3⟩
    have old : ∀ a o, a ≠ tb → H a = some o → upd (upd H tb (.tbl (ps ++ #[rawInt pos.line, rawInt pos.col, .ref c]))) c (LamX.CodeO c (X.env.qual ++ "<lambda>")) a = some o := fun a o ne e => by
      rw [upd_ne (ne_of_none e nC), upd_ne ne]; exact e
    have new : upd (upd H tb (.tbl (ps ++ #[rawInt pos.line, rawInt pos.col, .ref c]))) c (LamX.CodeO c (X.env.qual ++ "<lambda>")) tb = some (.tbl (ps ++ #[rawInt pos.line, rawInt pos.col, .ref c])) := by rw [upd_ne ntc, upd_same]
    have el : (ps ++ #[rawInt pos.line, rawInt pos.col, .ref c]).toList = ps.toList ++ [rawInt pos.line, rawInt pos.col, .ref c] := by simp
    refine k h1.objs.size c ((X.mg "__name__").getD .none) ct _ _ J ⟨old, _, new⟩ (fun p hp => ?_) (Heap.get?_push_size _ rfl) ?_ (frs_new I sz) upd_same
    · have cod : ∀ d, H d = some (LamX.CodeO d p.2) → upd (upd H tb (.tbl (ps ++ #[rawInt pos.line, rawInt pos.col, .ref c]))) c (LamX.CodeO c (X.env.qual ++ "<lambda>")) d = some (LamX.CodeO d p.2) := fun d e => old d _ (fun z => by rw [z, hP] at e; exact LamX.codeO_ne ps (Option.some.inj e).symm) e
      by_cases e : p.1 = tb
      · rw [e]
        have e2 := uT p hp e
        refine ⟨_, new, by rw [el]; exact PySem.TriplesOk_snoc _ _ _ _ tri, fun p' cv z => ?_⟩
        rw [el] at z
        rcases LamX.among_app _ tri z with y | y
        · obtain ⟨d, e3, e4⟩ := am p' cv y
          exact ⟨d, e3, cod d (by rw [e2]; exact e4)⟩
        · exact ⟨c, y, by rw [e2]; exact upd_same⟩
      · obtain ⟨ps', a1, a2, a3⟩ := hT p hp
        refine ⟨ps', old _ _ e a1, a2, fun p' cv z => ?_⟩
        obtain ⟨d, e3, e4⟩ := a3 p' cv z
        exact ⟨d, e3, cod d e4⟩
    · rw [upd_ne (Nat.ne_of_gt lt), upd_ne (Nat.ne_of_gt (Nat.lt_of_lt_of_le (Heap.lt_size atP) sz))]
      exact I.hok.fresh sz
end
end Mi
/-! the exception that a suite holds: asked for its class, handed to a def -/
namespace Mi
open PySem PySem.Spec PyProof.Rows L2
section
variable {X : Cx}
theorem call_isP {a D : Addr} {oe : Obj} (C : ExcC X.K D) (hp : (a, oe) ∈ X.pn) (hz : Zc (.ref D) none oe) (hf : ∃ vs, oe.data = .fields vs) : CallR X (.builtin "isinstance") (rIsE X.K D a) := by
  rintro pins s σ H xs us Q I r ⟨c, cv, b, rfl, one, kit, q⟩
  cases r with
  | cons r1 r2 => cases r2 with
    | cons r3 r4 =>
      cases r4
      cases r1
      have e := one _ r3
      subst e
      have there := (I.pin (a, oe) (List.mem_append_left _ hp)).1
      obtain ⟨vs, hv⟩ := hf
      have at_ : PySem.W.InstAt s.heap a oe D none := by
        cases oe
        obtain ⟨z1, z2⟩ := hz
        dsimp only at z1 z2 hv
        subst z1 z2 hv
        exact ⟨there, rfl, rfl, trivial⟩
      refine PySem.W.kia_one (PySem.W.handS_kitx_exc C.hg C.hk C.hs C.hd C.ha C.hn C.ht C.hm) I.kIn at_ kit (fun z => nomatch z) fun tk => ?_
      exact ⟨.bl b, H, I.kept (t' := tk) fun _ _ z => z, rfl, q⟩
end
/-- a def called while p is held -/
theorem run_pin {CX : CXT} {P : Program} {w : World} {K : PySem.W.Frag} {mg : Str → Option Value} {base : Heap} {x qual : Str} {st : Stmt} {f : Addr} {fd : FuncData} {N ps : List Str} {k : Nat} (F : Fun K x qual st f fd) (S : FnScope N ps (defScope st))
    {A : Around} {outer : List PySem.Env} {s : Shared} {H : Hp} {args : Args} {us : List Value} {vs : List V} {Q : VK} {E : XK} {p : Addr × Obj} (hr : L2H.RoomH (k + 1) A) (hp : L2H.PinOk outer H s p) (e0 : Env0 P w K mg base A outer s H) (hb : BindsTo s fd args (ps.zip us)) (r : Vals vs us) (hl : vs.length = ps.length)
    (body : ∀ cdv, L2H.RoomH k (A.deeper (envOfC qual (defScope st) s.heap.objs.size f cdv)) → ∃ t, PSs (L2H.cxH CX P w K mg base N qual (defScope st) f cdv A outer s H E p) (defBody st) t ∧ t { nx := fun _ H' => Q .non H', rt := Q } (L2.start N vs) H) :
    codeAny (model P w) A (.call (.ref f) args) (CR CX outer P w H s Q E) s := by
  obtain ⟨oc, od, kV, doc, pm, an, cdv, ct, osl, rfl, lk, cd⟩ := F.ex
  have kin : K.In s.heap := e0.mod.kin.keeps fun b o z => (e0.bs b o z).1
  have nol : s.heap.NoLimit := e0.mod.nolimit.keeps fun b o z => (e0.bs b o z).1
  have kinds : ∀ y ∈ ps.zip us, (defScope st).names.lookup y.1 = some .local ∨ ((defScope st).names.lookup y.1 = some .cell ∧ ((cellsFrom (s.heap.objs.size + 1) (defScope st).names []).lookup y.1).isSome = true) := by
    rintro ⟨n, v⟩ hy
    exact (S.par n (List.of_mem_zip hy).1).imp id fun z => ⟨z, PySem.W.cellsFrom_some _ _ _ (.inl z)⟩
  refine codeAny_call_function hr.depth (kin _ _ lk) rfl S.co S.gen rfl (PySem.W.codeRec_of kin cd) (hb _ _ _ _ (wpAny_newFunctionEnv_cells S.kind kinds fun env he s1 inc => ?_))
  subst he
  refine ⟨nol.keeps inc.toInCall.keep, codeAny_func ?_⟩
  obtain ⟨t, ht, q⟩ := body cdv (hr.deeper _)
  have J : Inv (L2H.cxH CX P w K mg base N qual (defScope st) f cdv A outer s H E p) [] (L2.start N vs) H s1 := L2H.inv_startH S hp e0 hl r inc
  refine wpAny_mono (ht.run [] s1 (L2.start N vs) H _ J q) (fun fl s2 z => ?_) fun _ _ z => z
  cases fl with
  | ret u => obtain ⟨v, σ2, H2, J2, rv, q2⟩ := z; exact ⟨v, H2, J2.os, J2.bare, J2.base, J2.hok, rv, q2⟩
  | next => obtain ⟨σ2, H2, J2, q2⟩ := z; exact ⟨V.non, H2, J2.os, J2.bare, J2.base, J2.hok, rfl, q2⟩
  | brk => obtain ⟨_, _, _, z⟩ := z; exact z.elim
  | cont => obtain ⟨_, _, _, z⟩ := z; exact z.elim
variable [Tb]
section
variable {X : Cx} {W : WX} {a b c : Expr} {es : List Expr} {fs : Env → M (List D)} {f g : Env → M D} {pos p apos : Pos}
theorem boot_isi : bootBuiltins "isinstance" = some (.builtin "isinstance") := by kernel_rfl
/-- isinstance(e, C) of the exception at ad: its answer is known -/
def eIsE (ad : Addr) (k : Bool) (f : Env → M D) : Env → M D := fun ρ => (f ρ).bind fun d => match d with
  | .ref x => if x = ad then M.ret (.bl k) else M.stuck
  | _ => M.stuck
theorem me_isE {ad D : Addr} {oe : Obj} {v : V} {cv : Value} {k : Bool} (C : ExcC X.K D) (hp : (ad, oe) ∈ X.pn) (hz : Zc (.ref D) none oe) (hf : ∃ vs, oe.data = .fields vs) (kit : PySem.W.kitOne X.K (.ref D) cv = some k) (one : ∀ u, RelV v u → u = cv) (hg : Gl X "isinstance") (hm : X.mg "isinstance" = none)
    (ha : ME X W a f) (hc : PE X c (tC v)) (he : starEach [a, c] X.env = (false, eval a X.env) :: starEach [c] X.env := by rfl) (he2 : starEach [c] X.env = (false, eval c X.env) :: starEach [] X.env := by rfl) (hpl : (backTo pos (starEach [c] X.env)).any (·.1) = false := by rfl) :
    ME X W (.Call (.Name "isinstance" p) [a, c] [] pos) (eIsE ad k f) := by
  refine PE.sub (pe_callB (call_isP C hp hz hf) hg hm boot_isi (pa_cons ha (pa_cons hc pa_nil he2) he) (by decide) (by decide) he hpl) ?_
  rintro σ H Q ⟨w, ρ, rfl, F, E, h⟩
  refine ⟨w, ρ, rfl, F, E, Holds.thn h fun d w1 g1 F1 h1 x rx => ?_⟩
  cases rx with
  | ref z =>
    dsimp only at h1
    obtain ⟨e, h2⟩ := Holds.ite h1
    subst e
    exact ⟨v, cv, k, rfl, one, kit, Ans.val F1 h2 (.bl k)⟩
  | _ => exact h1.no
theorem rel_ref {C : Addr} : ∀ u, RelV (.ref C) u → u = .ref C := fun u h => h
theorem rel_ty {T : String} : ∀ u, RelV (.ty T) u → u = .type T := fun u h => h
end
end Mi
/-! told(lambda: ..): what a deed tells, or the word of its refusal -/
namespace Mi
open PySem PySem.Spec PyProof.Rows L2
variable [Tb]
section
variable {P : Program} {w : World} {K : PySem.W.Frag} {mg : Str → Option Value} {base : Heap}
/-! defs whose code object is known -/
theorem okXC {x qual : Str} {st : Stmt} {f : Addr} {fd : FuncData} {N ps : List Str} {k : Nat} {sp : Sp} {cc : Value} (F : Fun K x qual st f fd) (S : FnScope N ps (defScope st)) (hcc : fd.code = cc) (len : ∀ vs H Q E, sp vs H Q E → vs.length = ps.length)
    (body : ∀ (A : Around) (outer : List PySem.Env) (s : Shared) (H : Hp) (vs : List V) (Q : VK) (E : XK), Room k (A.deeper (envOfC qual (defScope st) s.heap.objs.size f cc)) → sp vs H Q E → ∃ t, PSs (cxOf (L2.CX P w) P w K mg base N qual (defScope st) f cc A outer s H E) (defBody st) t ∧ t { nx := fun _ H' => Q .non H', rt := Q } (start N vs) H) :
    FnOk P w K mg base (L2.CX P w) (k + 1) f fd ps sp := by
  obtain ⟨oc, od, kV, doc, pm, an, cdv, ct, osl, e, lk, hcd⟩ := F.ex
  have ec : cdv = cc := by rw [← hcc, e]
  subst e
  subst ec
  exact fn_of lk hcd S len body
theorem fn_okC {x qual : Str} {st : Stmt} {f : Addr} {fd : FuncData} {N ps : List Str} {k : Nat} {body : SM} {cc : Value} (F : Fun K x qual st f fd) (S : FnScope N ps (defScope st)) (hcc : fd.code = cc)
    (hb : ∀ (A : Around) (outer : List PySem.Env) (s : Shared) (H : Hp) (E : XK), Room k (A.deeper (envOfC qual (defScope st) s.heap.objs.size f cc)) →
      Takes (cxOf (L2.CX P w) P w K mg base N qual (defScope st) f cc A outer s H E) (fun cls d _ H => E cls d H) →
      PassesOwn (model P w) (A.deeper (envOfC qual (defScope st) s.heap.objs.size f cc)) (envOfC qual (defScope st) s.heap.objs.size f cc) (cxOf (L2.CX P w) P w K mg base N qual (defScope st) f cc A outer s H E).xe →
      MSs (cxOf (L2.CX P w) P w K mg base N qual (defScope st) f cc A outer s H E) (fun cls d _ H => E cls d H) (defBody st) body) :
    FnOk P w K mg base (L2.CX P w) (k + 1) f fd ps (spF K mg ps.length (fnOf ps.length N.length body)) := by
  refine okXC F S hcc (fun vs H Q E ⟨_, _, h, _⟩ => h) (fun A outer s H vs Q E hr h => ⟨_, hb A outer s H E hr (takes_of rfl rfl rfl rfl) (passes_of (X := cxOf (L2.CX P w) P w K mg base N qual (defScope st) f cc A outer s H E) rfl), ?_⟩)
  obtain ⟨S, ds, hl, hd, r, q⟩ := h
  refine ⟨W0 S H, ds.map some ++ List.replicate (N.length - ps.length) none, rfl, w0_fits hd, hl ▸ start_rep r, ?_⟩
  unfold fnOf at q
  show HoldsS K mg _ (W0 S H) (body _ []) _
  cases z : body (ds.map some ++ List.replicate (N.length - ps.length) none) [] with
  | ret d ω =>
    rw [z] at q
    dsimp only at q
    by_cases c : clean d = true
    · rw [if_pos c] at q
      exact fun w' v g F' e rv => q v w'.S w'.H (w0_grow g) F'.good (Rep.uncell rv c)
    · rw [if_neg c] at q; exact q.elim
  | next ρ ω => rw [z] at q; exact fun w' σ' g F' e rv => q .non w'.S w'.H (w0_grow g) F'.good .non
  | exc c ρ ω => rw [z] at q; exact fun w' σ' u g F' e rv m => q u w'.S w'.H (w0_grow g) F'.good m
  | brk ρ ω => rw [z] at q; exact q.elim
  | cont ρ ω => rw [z] at q; exact q.elim
  | stuck => rw [z] at q; exact q.elim
theorem fnM_okC {x qual : Str} {st : Stmt} {f : Addr} {fd : FuncData} {N ps : List Str} {k : Nat} {body : SM} {cc : Value} (F : Fun K x qual st f fd) (S : FnScope N ps (defScope st)) (hcc : fd.code = cc)
    (hb : ∀ (A : Around) (outer : List PySem.Env) (s : Shared) (H : Hp) (E : XK), Room k (A.deeper (envOfC qual (defScope st) s.heap.objs.size f cc)) →
      Takes (cxOf (L2.CX P w) P w K mg base N qual (defScope st) f cc A outer s H E) (fun cls d _ H => E cls d H) →
      PassesOwn (model P w) (A.deeper (envOfC qual (defScope st) s.heap.objs.size f cc)) (envOfC qual (defScope st) s.heap.objs.size f cc) (cxOf (L2.CX P w) P w K mg base N qual (defScope st) f cc A outer s H E).xe →
      MSs (cxOf (L2.CX P w) P w K mg base N qual (defScope st) f cc A outer s H E) (fun cls d _ H => E cls d H) (defBody st) body) :
    FnOk P w K mg base (L2.CX P w) (k + 1) f fd ps (spM K mg ps.length (fnM ps.length N.length body)) := by
  refine okXC F S hcc (fun vs H Q E ⟨_, _, _, h, _⟩ => h) (fun A outer s H vs Q E hr h => ⟨_, hb A outer s H E hr (takes_of rfl rfl rfl rfl) (passes_of (X := cxOf (L2.CX P w) P w K mg base N qual (defScope st) f cc A outer s H E) rfl), ?_⟩)
  obtain ⟨wd, ds, rfl, hl, F', r, q⟩ := h
  refine ⟨wd, ds.map some ++ List.replicate (N.length - ps.length) none, rfl, F', hl ▸ start_rep r, ?_⟩
  unfold fnM at q
  cases z : body (ds.map some ++ List.replicate (N.length - ps.length) none) wd.ω with
  | ret d ω => rw [z] at q; exact fun w' v g F' e rv => q w' v g F' e rv
  | next ρ ω => rw [z] at q; exact fun w' σ' g F' e rv => q w' .non g F' e .non
  | exc c ρ ω => rw [z] at q; exact fun w' σ' u g F' e rv m => q w' u g F' e m
  | brk ρ ω => rw [z] at q; exact q.elim
  | cont ρ ω => rw [z] at q; exact q.elim
  | stuck => rw [z] at q; exact q.elim
/-- what the def that names a refusal promises of an exception of the class u -/
def NameOk (P : Program) (w : World) (K : PySem.W.Frag) (mg : Str → Option Value) (base : Heap) (k : Nat) (f : Addr) (fd : FuncData) (ps : List Str) (u : Value) (word : Str) : Prop :=
  ∀ (a : Addr) (oe : Obj), Zc u none oe → (∃ vs, oe.data = .fields vs) → ∀ (A : Around) (outer : List PySem.Env) (s : Shared) (args : Args) (us : List Value) (Q : VK) (wd : Wd),
    L2H.RoomH k A → L2H.PinOk outer wd.H s (a, oe) → Env0 P w K mg base A outer s wd.H → BindsTo s fd args (ps.zip us) → Vals [.ref a] us → Fits K wd → (∀ w', Grow wd w' → Fits K w' → w'.ω = wd.ω → Q (.str word) w'.H) →
    codeAny (model P w) A (.call (.ref f) args) (CR C8.CX0 outer P w wd.H s Q C8.E0) s
theorem name_ok {x qual p : Str} {st : Stmt} {f : Addr} {fd : FuncData} {N : List Str} {k : Nat} {u : Value} {word : Str} {body : Addr → SM} (F : Fun K x qual st f fd) (S : FnScope N [p] (defScope st))
    (hb : ∀ (a : Addr) (oe : Obj), Zc u none oe → (∃ vs, oe.data = .fields vs) → ∀ (cdv : Value) (A : Around) (outer : List PySem.Env) (s : Shared) (H : Hp), L2H.RoomH k (A.deeper (envOfC qual (defScope st) s.heap.objs.size f cdv)) →
      MSs (L2H.cxH C8.CX0 P w K mg base N qual (defScope st) f cdv A outer s H C8.E0 (a, oe)) WF (defBody st) (body a))
    (ev : ∀ (a : Addr) (ω : List Cell), body a ([some (.ref a)] ++ List.replicate (N.length - 1) none) ω = .ret (.str word) ω) (h1 : word.length ≤ sizeLine) (h2 : PyData.strOk word = true) : NameOk P w K mg base (k + 1) f fd [p] u word := by
  intro a oe hz hf A outer s args us Q wd hr hp e0 hbd r Fw hq
  refine run_pin F S hr hp e0 hbd r rfl fun cdv hr2 => ⟨_, hb a oe hz hf cdv A outer s wd.H hr2, ?_⟩
  refine ⟨wd, [some (.ref a)] ++ List.replicate (N.length - 1) none, rfl, Fw, start_rep (vs := [.ref a]) (ds := [.ref a]) (.cons (.ref a) .nil), ?_⟩
  rw [ev a wd.ω]
  intro w' v g F' e rv
  cases rv
  exact hq w' g F' e
end
def eTold (word : Str → Option Str) (f : Env → M D) : Env → M D := fun ρ ω => match f ρ ω with
  | .ok d ω' => .ok d ω'
  | .raise c ω' => match word c with
    | some x => .ok (.str x) ω'
    | none => .stuck
  | .stuck => .stuck
theorem only_world {K : PySem.W.Frag} {w : Wd} {tb : Addr} {q : Str} {H1 : Hp} (F : Fits K w) (mT : (tb, q) ∈ Tb.T) (on : Only tb w.H H1) (T1 : LamX.Tabs Tb.T H1) : Grow w { w with H := H1 } ∧ Fits K { w with H := H1 } := by
  obtain ⟨ps, hP, _, _⟩ := F.tabs _ mT
  obtain ⟨on1, ps1, on2⟩ := on
  have nS : ∀ a, w.S a → a ≠ tb := fun a h z => F.nt a ps h (by rw [z]; exact hP)
  have nO : ∀ a o, w.H a = some o → (∀ ps, o ≠ .tbl ps) → a ≠ tb := fun a o h n z => by
    rw [z] at h
    exact n ps (Option.some.inj (h.symm.trans hP))
  have gw : Grow w { w with H := H1 } := by
    refine ⟨fun _ h => h, fun _ h => .inl h, List.prefix_refl _, fun _ h => .inl h, fun a o h k => on1 a o ?_ h, fun a o u h => on1 a _ (nO a _ h fun _ z => nomatch z) h, fun a ps h => ?_⟩
    · rcases k with k | k
      · exact nS a k
      · exact nO a o h k.2
    · by_cases e : a = tb
      · exact ⟨ps1, by rw [e]; exact on2⟩
      · exact ⟨ps, on1 a _ e h⟩
  have dm : ∀ a, w.H a ≠ none → H1 a ≠ none := fun a h => by
    by_cases e : a = tb
    · rw [e, on2]; exact fun z => nomatch z
    · cases z : w.H a with
      | none => exact absurd z h
      | some o => rw [on1 a o e z]; exact fun z => nomatch z
  refine ⟨gw, F.len, F.nd, fun a h => dm a (F.dom a h), fun a h => dm a (F.domμ a h), fun n a c h1 h2 => ?_, T1, fun a ps' h z => ?_⟩
  · rcases F.live n a c h1 h2 with h | ⟨h, h'⟩
    · exact .inl h
    · by_cases hc : c = .dead
      · exact .inl hc
      · obtain ⟨o, ho, hn⟩ := h'.at hc
        exact .inr ⟨h, h'.mono ((on1 a o (nO a o ho hn) ho).trans ho.symm) fun vs ds r => gw.reps r⟩
  · cases z2 : w.H a with
    | none => exact F.dom a h z2
    | some o =>
      have z3 : H1 a = some (.tbl ps') := z
      rw [on1 a o (nS a h) z2] at z3
      cases z3
      exact F.nt a ps' h z2
section
variable {X : Cx} {W : WX} {f : Env → M D} {p pos lpos p1 p2 p3 p4 p5 p6 p7 p8 p9 p10 : Pos} {ar : Arguments} {bd : Expr} {sc : Scope} {x a n e nm pn : Str} {g fN CS cc tb : Addr} {fd fdN : FuncData} {st : Stmt} {k kn : Nat} {word : Str → Option Str}
/-- the suite: the refusal is named -/
theorem pe_named {Z : Cx} {ad : Addr} {oe : Obj} {cls : Value} {i : Nat} (hp : (ad, oe) ∈ Z.pn) (hz : Zc cls none oe) (hf : ∃ vs, oe.data = .fields vs) (hr : L2H.RoomH kn Z.A) (gn : Gl Z nm) (hN : Z.mg nm = some (.ref fN)) (hk : PySem.W.keepIn Z.K (.ref fN) = true) (bN : Binds Z.K fdN [pn] [])
    (hi : Z.N[i]? = some n) (vn : Vis Z.env.scope n) (hd1 : (nm == ("__debug__" : Str)) = false) (hd2 : (n == ("__debug__" : Str)) = false) (hd3 : (n == ("__classdict__" : Str)) = false) (he : starEach [.Name n p6] Z.env = (false, eval (.Name n p6) Z.env) :: starEach [] Z.env := by rfl) (hpl : (backTo p7 (starEach [] Z.env)).any (·.1) = false := by rfl) :
    PE Z (.Call (.Name nm p5) [.Name n p6] [] p7) (fun σ H Q => (σ.length = Z.N.length → σ[i]? = some (some (.ref ad))) ∧ ∃ wd word, wd.H = H ∧ Fits Z.K wd ∧ NameOk Z.prog Z.w Z.K Z.mg Z.base kn fN fdN [pn] cls word ∧ ∀ w', Grow wd w' → Fits Z.K w' → w'.ω = wd.ω → Q (.str word) w'.H) := by
  refine ⟨fun pins s σ H Q I h => ?_⟩
  obtain ⟨hσ, wd, wo, rfl, F, NO, hq⟩ := h
  have h0 := hσ I.len
  refine wpAny_Call_Name_kw (ld_glob I gn hN ?_ hd1)
  refine PySem.W.callWith_K (h₀ := Z.base) I.ok.mod.kin hk (thn ((pa_cons (pe_var (pos := p6) (i := i) hi vn hd2 hd3) pa_nil he).run p7 pins s σ wd.H (fun vs H1 => vs = [.ref ad] ∧ H1 = wd.H) I ⟨.ref ad, h0, rfl, rfl⟩) fun us s1 ⟨vs, H1, I1, r, ev, eH⟩ => ⟨I1.kIn, ?_⟩) he hpl
  subst ev
  rw [eH] at I1
  have b := bN s1 us I1.kIn (by rw [List.append_nil, ← r.length]; rfl)
  rw [List.append_nil] at b
  have P1 := I1.pin (ad, oe) (List.mem_append_left _ hp)
  have hpin : L2H.PinOk Z.stack wd.H s1 (ad, oe) := ⟨P1.1, P1.2.1, fun hm => (List.mem_cons.mp (I1.stkSub ad hm)).elim P1.2.2.1 P1.2.2.2.1, P1.2.2.2.2⟩
  refine wpAny_call (codeAny_mono (NO ad oe hz hf Z.A Z.stack s1 ⟨us, []⟩ us Q wd hr hpin I1.env0 b r F hq) fun fl s2 z => ?_)
  cases fl with
  | error v => exact (show False from z).elim
  | ok fl =>
    cases fl with
    | ret u => exact I1.after z
    | next => exact False.elim z
    | brk => exact False.elim z
    | cont => exact False.elim z
end
end Mi
namespace Mi
open PySem PySem.Spec PyProof.Rows L2
variable [Tb]
section
variable {X : Cx} {W : WX} {f : Env → M D} {p pos lpos p1 p2 p3 p4 p5 p6 p7 p8 p9 p10 : Pos} {ar : Arguments} {bd : Expr} {sc : Scope} {x a n e nm pn : Str} {g fN CS cc tb : Addr} {fd fdN : FuncData} {st : Stmt} {k kn : Nat} {word : Str → Option Str}
/-- told(lambda: bd) -/
theorem me_told (hg : Gl X x) (hm : X.mg x = some (.ref g)) (Ft : Fun X.K x x st g fd) (St : FnScope [a, n] [a] (defScope st)) (hb : Binds X.K fd [a] [])
    (hbody : defBody st = [.Try [.Return (some (.Call (.Name a p1) [] [] p2)) p3] [.ExceptHandler (some (.Name e p4)) (some n) [.Return (some (.Call (.Name nm p5) [.Name n p6] [] p7)) p8] p9] [] [] p10])
    (va : Vis (defScope st) a) (vn : (defScope st).names.lookup n = some .local) (ge : (defScope st).names.lookup e = some .globalImplicit) (gn : (defScope st).names.lookup nm = some .globalImplicit)
    (nd : [a, n].Nodup) (da : (a == ("__debug__" : Str)) = false) (da2 : (a == ("__classdict__" : Str)) = false) (dn : (n == ("__debug__" : Str)) = false) (dn2 : (n == ("__classdict__" : Str)) = false) (de : (e == ("__debug__" : Str)) = false) (dm : (nm == ("__debug__" : Str)) = false) (dx : (x == ("__debug__" : Str)) = false)
    (he : X.mg e = some (.ref CS)) (hN : X.mg nm = some (.ref fN)) (hk : PySem.W.keepIn X.K (.ref fN) = true) (bN : Binds X.K fdN [pn] [])
    (NO : ∀ c wd, word c = some wd → (wd.length ≤ sizeLine ∧ PyData.strOk wd = true) ∧ ∀ u, X.mg c = some u → PySem.W.exmOne X.K u (.ref CS) = some true ∧ NameOk X.prog X.w X.K X.mg X.base kn fN fdN [pn] u wd)
    (TB : LamX.TabB X.base X.mg cc tb) (hcode : X.env.code = .ref cc) (mT : (tb, X.env.qual ++ "<lambda>") ∈ Tb.T) (uT : ∀ q ∈ Tb.T, q.1 = tb → q.2 = X.env.qual ++ "<lambda>")
    (hr : Room (k + 2) X.A) (hkn : kn ≤ k + 1) (L : LamX.LamS X.env.scope sc) (hdef : defaultsOf ar X.env = ([], []))
    (hbind : ∀ (q : Str) (cl : List (Str × Addr)) (pm cv ctv : Value), bindArgs (PySem.W.kla_fn "<lambda>" q ar bd sc cl pm cv ctv) ⟨[], []⟩ = pure [])
    (hbd : ∀ (A : Around) (outer : List PySem.Env) (s : Shared) (H : Hp) (E : XK) (f' c' : Addr), Room k (A.deeper (LamX.lamEnv X sc s.heap.objs.size f' c')) → Takes (LamX.lamCx X A outer s H E sc f' c') (fun cls d _ H => E cls d H) → ME (LamX.lamCx X A outer s H E sc f' c') (fun cls d _ H => E cls d H) bd f) :
    ME X W (.Call (.Name x p) [.Lambda ar bd sc lpos] [] pos) (eTold word f) := by
  refine ⟨fun pins s σ H Q I h => ?_⟩
  obtain ⟨w, ρ, rfl, F, E, h⟩ := h
  refine wpAny_Call_Name_kw (ld_glob I hg hm ?_ dx)
  refine PySem.W.callWith_K (h₀ := X.base) I.ok.mod.kin Ft.kp ?_ (by rfl) (by rfl)
  show wpAny _ _ (spliced ((false, eval (.Lambda ar bd sc lpos) X.env) :: backTo pos (starEach [] X.env))) _ _ s
  refine Calls.spliced_cons (lam_new I TB hcode mT uT F.tabs hdef (L.has I.ok) fun f' c' pm ct H1 s1 I1 on T1 hf hfn hfr hco => ?_)
  refine Calls.spliced_nil ⟨I1.kIn, ?_⟩
  obtain ⟨gw, F1⟩ := only_world F mT on T1
  have rc : codeAny (model X.prog X.w) X.A (.call (.ref g) ⟨[.ref f'], []⟩) (CR C8.CX0 X.stack X.prog X.w H1 s1 Q C8.E0) s1 := by
    obtain ⟨oc, od, kV, doc, pm', an, cdv, ct', osl, rfl, lk, hcd⟩ := Ft.ex
    refine LamX.run_ofS (N := [a, n]) (ps := [a]) (us := [.ref f']) (vs := [.ref f']) lk hcd St hr I1.env0 (hb s1 [.ref f'] I1.kIn rfl) (.cons rfl .nil) rfl fun hr' => ?_
    rw [hbody]
    refine ⟨_, (pss_one (ps_try_as (X := (cxOf C8.CX0 X.prog X.w X.K X.mg X.base [a, n] x (defScope st) g cdv X.A X.stack s1 H1 C8.E0).nox) (c := .ref CS) (i := 1) (Wout := fun _ _ _ _ => False)
      (tb := fun W' D σZ HZ => ∃ Ech : XK, (∀ cls d σ' H', Ech cls d H' → W' cls d σ' H') ∧ σZ[0]? = some (some (.ref f')) ∧ HZ c' = some (LamX.CodeO c' (X.env.qual ++ "<lambda>")) ∧ tM X.K X.mg (fun cls d _ H => Ech cls d H) f σ HZ D.rt)
      (ts := fun ad cls d D σZ HZ => d = none ∧ (σZ.length = 2 → σZ[1]? = some (some (.ref ad))) ∧ ∃ wd wo, wd.H = HZ ∧ Fits X.K wd ∧ NameOk X.prog X.w X.K X.mg X.base kn fN fdN [pn] cls wo ∧ ∀ w', Grow wd w' → Fits X.K w' → w'.ω = wd.ω → D.rt (.str wo) w'.H)
      rfl rfl nd rfl vn ⟨ge, de, .inl he⟩ LamX.takes0 (fun W' pn' xe tk _ => ?_) (fun ad oe cls d pn' hz hfl => ?_))).nox, ?_⟩
    · refine ⟨fun pinsZ sZ σZ HZ D IZ hZ => ?_⟩
      obtain ⟨Ech, hW, z1, z2, z3⟩ := hZ
      have act := LamX.pe_act (CXg := C8.CX0) (Eg := C8.E0) (i := 0) (a := a) (E := Ech) (tb := tM X.K X.mg (fun cls d _ H => Ech cls d H) f) (p1 := p1) (p2 := p2) (Ng := [a, n]) I1 L hf hfn hfr (hbind _ _ _ _ _) tk hW hr' (fun A outer s H hr2 => hbd A outer s H Ech f' c' hr2 (takes_of rfl rfl rfl rfl)) rfl va da da2
      exact (pss_one (ps_ret (pos := p3) act)).run pinsZ sZ σZ HZ D IZ ⟨z1, z2, z3⟩
    · refine ⟨fun pinsZ sZ σZ HZ D IZ hZ => ?_⟩
      obtain ⟨rfl, z1, wd, wo, z2, z3, z4, z5⟩ := hZ
      have hrH : L2H.RoomH kn ((cxOf C8.CX0 X.prog X.w X.K X.mg X.base [a, n] x (defScope st) g cdv X.A X.stack s1 H1 C8.E0).nox.suite ad ((ad, oe) :: pn')).A := ⟨((L2H.roomH_of hr').mono hkn).dp, ((L2H.roomH_of hr').mono hkn).un⟩
      have nmd := pe_named (Z := (cxOf C8.CX0 X.prog X.w X.K X.mg X.base [a, n] x (defScope st) g cdv X.A X.stack s1 H1 C8.E0).nox.suite ad ((ad, oe) :: pn')) (ad := ad) (oe := oe) (cls := cls) (i := 1) (n := n) (nm := nm) (pn := pn) (fN := fN) (fdN := fdN) (kn := kn) (p5 := p5) (p6 := p6) (p7 := p7) List.mem_cons_self hz hfl hrH gn hN hk bN rfl (.inl vn) dm dn dn2
      exact (pss_one (ps_ret (pos := p8) nmd)).run pinsZ sZ σZ HZ D IZ ⟨z1, wd, wo, z2, z3, z4, z5⟩
    · refine ⟨fun cls d H' => PySem.W.exmOne X.K cls (.ref CS) = some true ∧ d = none ∧ ∃ wd wo, wd.H = H' ∧ Fits X.K wd ∧ NameOk X.prog X.w X.K X.mg X.base kn fN fdN [pn] cls wo ∧ ∀ w', Grow wd w' → Fits X.K w' → w'.ω = wd.ω → Q (.str wo) w'.H, fun cls d σ' H' ⟨y1, y2, wd, wo, y3, y4, y5, y6⟩ => ⟨true, y1, fun _ ad _ => ⟨y2, fun hl => ?_, wd, wo, y3, y4, y5, y6⟩, fun z => nomatch z⟩, rfl, hco, ?_⟩
      · rw [List.length_set] at hl
        exact List.getElem?_set_self (by omega)
      · refine ⟨{ w with H := H1 }, ρ, rfl, F1, E.grow gw, ?_⟩
        show Holds X.K X.mg _ σ _ (f ρ w.ω) _
        have h2 := Holds.grow gw h
        unfold eTold at h2
        cases z : f ρ w.ω with
        | stuck => rw [z] at h2; exact h2
        | ok d ω' => rw [z] at h2; exact h2
        | raise c ω' =>
          rw [z] at h2
          dsimp only at h2
          intro w' u g' F' e' hu
          cases zw : word c with
          | none => rw [zw] at h2; exact h2.elim
          | some wo =>
            rw [zw] at h2
            obtain ⟨⟨l1, l2⟩, hu2⟩ := NO c wo zw
            obtain ⟨k1, k2⟩ := hu2 u hu
            exact ⟨k1, rfl, w', wo, rfl, F', k2, fun w'' g'' F'' e'' => h2 w'' (g'.trans g'') F'' (e''.trans e') (.str wo) (.str wo l1 l2)⟩
  refine wpAny_call (codeAny_mono rc fun r s2 hq => ?_)
  cases r with
  | error v => exact (show False from hq).elim
  | ok fl =>
    cases fl with
    | ret u => exact I1.after hq
    | next => exact False.elim hq
    | brk => exact False.elim hq
    | cont => exact False.elim hq
end
end Mi
/-! rules within a def that is called in a suite -/
namespace Mi
open PySem PySem.Spec PyProof.Rows L2
variable [Tb]
section
variable {X : Cx} {W : WX} {a b : Expr} {fs : Env → M (List D)} {f g : Env → M D} {pos p apos : Pos}
theorem roomU {k : Nat} {A : Around} (r : L2H.RoomH k A) : A.units + 65 < cLine := by have := r.un; omega
theorem mt_neU {k : Nat} (hr : L2H.RoomH k X.A) (ha : ME X W a f) (hb : ME X W b g) : MT X W (.Compare a [.NotEq] [b] pos) (tst (e2 (d2 oNe) f g)) := mt_cmp (op_neD (by have := hr.un; omega)) op2_neC ha hb (nomark _)
theorem me_countU {k : Nat} (hr : L2H.RoomH k X.A) (ha : ME X W a f) (hb : MA X W [b] fs) (hbase : attributeBase a "count" X.env (eval a X.env) = eval a X.env := by rfl)
    (hfew : ((backTo pos (starEach [b] X.env)).all (fun x => !x.1) && (backToKw pos (keywordEach [] X.env)).all (fun x => x.1.isSome)
      && decide ([b].length + ([] : List Keyword).length + (if ([] : List Keyword).isEmpty then 0 else 1) < 30)) = true := by rfl)
    (hline : (apos.endLine == pos.line) = true := by rfl) (hs : starEach [b] X.env = (false, eval b X.env) :: starEach [] X.env := by rfl) (hplain : (backTo pos (starEach [] X.env)).any (·.1) = false := by rfl) :
    ME X W (.Call (.Attribute a "count" apos) [b] [] pos) (eBM chkL oCountD f fs) := me_bm PySem.F.plainAttrs_list PySem.F.slot_list_count PySem.F.type_list_count (mt_countD (roomU hr)) opM_count chkL_ok ha hb hbase hfew hline hs hplain
theorem me_indexU {k : Nat} (hr : L2H.RoomH k X.A) (ha : ME X W a f) (hb : MA X W [b] fs) (hbase : attributeBase a "index" X.env (eval a X.env) = eval a X.env := by rfl)
    (hfew : ((backTo pos (starEach [b] X.env)).all (fun x => !x.1) && (backToKw pos (keywordEach [] X.env)).all (fun x => x.1.isSome)
      && decide ([b].length + ([] : List Keyword).length + (if ([] : List Keyword).isEmpty then 0 else 1) < 30)) = true := by rfl)
    (hline : (apos.endLine == pos.line) = true := by rfl) (hs : starEach [b] X.env = (false, eval b X.env) :: starEach [] X.env := by rfl) (hplain : (backTo pos (starEach [] X.env)).any (·.1) = false := by rfl) :
    ME X W (.Call (.Attribute a "index" apos) [b] [] pos) (eBM chkL oIndexD f fs) := me_bm PySem.F.plainAttrs_list PySem.F.slot_list_index PySem.F.type_list_index (mt_indexD (roomU hr)) opM_index chkL_ok ha hb hbase hfew hline hs hplain
theorem boot_VE : bootBuiltins "ValueError" = some (.type "ValueError") := by kernel_rfl
@[simp] theorem eIsE_at (ad : Addr) (k : Bool) (ρ : Env) : eIsE ad k (eV 0) (some (.ref ad) :: ρ) = M.ret (.bl k) := by
  unfold eIsE
  show M.bind (M.ret (D.ref ad)) _ = _
  rw [bind_ret]
  exact if_pos rfl
/-- which of the kinds it is -/
theorem toPs_bools : ∀ bs : List Bool, toPs (bs.map D.bl) = some (bs.map PyData.bool)
  | [] => rfl
  | b :: bs => by
    show toPs (D.bl b :: bs.map D.bl) = _
    unfold toPs
    rw [toPs_bools bs]
    rfl
end
end Mi
/-! a list == [], whatever it holds; dict(pairs) as a cell -/
namespace Mi
open PySem PySem.Spec PyProof.Rows L2
variable [Tb]
section
variable {X : Cx} {W : WX} {a b : Expr} {fs : Env → M (List D)} {f g : Env → M D} {pos p apos : Pos}
def rEqNil (K : PySem.W.Frag) : R2 := fun x y H Q => ∃ (l r : Addr) (vs : List V), x = .ref l ∧ y = .ref r ∧ SqL K H l vs ∧ SqL K H r [] ∧ Q (.bl vs.isEmpty) H
theorem op_eqNil (hu : X.A.units < cLine) : OpR X (compareOp .Eq) (rEqNil X.K) := by
  intro pins s σ H x y v u Q I rx ry h
  obtain ⟨l, r, vs, rfl, rfl, h1, h2, q⟩ := h
  obtain rfl : v = Value.ref l := rx
  obtain rfl : u = Value.ref r := ry
  obtain ⟨is1, rv1, l1, _⟩ := I.list h1
  obtain ⟨is2, rv2, l2, _⟩ := I.list h2
  have e2 : is2 = [] := by cases rv2; rfl
  subst e2
  have n1 := rv1.length
  cases vs with
  | nil =>
    have e1 : is1 = [] := by cases rv1; rfl
    subst e1
    exact SeqAt.eq_listAt (e := fun _ => true) l1.isList l2.isList rfl hu (fun j z _ => absurd z (by simp)) ⟨.bl true, H, I, rfl, q⟩
  | cons z zs =>
    refine SeqAt.eq_list_lengthsAt l1.isList l2.isList ?_ hu ⟨.bl false, H, I, rfl, q⟩
    rw [List.length_cons] at n1
    have : is1.toArray.size ≠ ([] : List Value).toArray.size := by simp; intro z; rw [z] at n1; simp at n1
    simpa using this
@[simp] def oEqNil (d e : D) : M D := match d, e with
  | .lst xs, .lst [] => M.ret (.bl xs.isEmpty)
  | _, _ => M.stuck
theorem Shal.lstAt {K : PySem.W.Frag} {w : Wd} {v : V} {xs : List D} (s : Shal K w v (.lst xs)) : ∃ al vs, v = .ref al ∧ SqL K w.H al vs ∧ w.reps K vs xs := by
  cases s with
  | of r => cases r with | lst h1 h2 h3 h4 => exact ⟨_, _, rfl, .inl (.inl h2), h4⟩
  | lst h1 h2 h3 => exact ⟨_, _, rfl, .inl (.inl h1), h3⟩
theorem op2_eqNil : Op2 X (rEqNil X.K) (d2 oEqNil) := op2_drf fun W σ w x y d e Q F sx sy h => by
  unfold oEqNil at h
  cases d with
  | lst xs => cases e with
    | lst ys => cases ys with
      | nil =>
        dsimp only at h
        obtain ⟨al, vs, rfl, h1, h2⟩ := sx.lstAt
        obtain ⟨bl, us, rfl, h3, h4⟩ := sy.lstAt
        cases h4
        have e : vs.isEmpty = xs.isEmpty := by cases h2 <;> rfl
        refine ⟨al, bl, vs, rfl, rfl, h1, h3, ?_⟩
        rw [e]
        exact Ans.val F h (.bl _)
      | cons _ _ => exact h.no
    | _ => exact h.no
  | _ => exact h.no
theorem mt_eqNil {k : Nat} (hr : Room k X.A) (ha : ME X W a f) (hb : ME X W b g) : MT X W (.Compare a [.Eq] [b] pos) (tst (e2 (d2 oEqNil) f g)) := mt_cmp (op_eqNil hr.units0) op2_eqNil ha hb (nomark _)
/-! dict(pairs) as a cell -/
@[simp] def oDictPC (d : D) : M D := match d with
  | .lst ds => match pairs? ds with
    | some prs => if prs.length ≤ 1000 then newCell (.dic (mergeD [] [] prs).1 (mergeD [] [] prs).2) else M.stuck
    | none => M.stuck
  | _ => M.stuck
theorem me_dictPC (hc : X.calm = true) (hg : Gl X "dict") (hm : X.mg "dict" = none) (ha : MA X W [a] fs) (he : starEach [a] X.env = (false, eval a X.env) :: starEach [] X.env := by rfl) (hpl : (backTo pos (starEach [] X.env)).any (·.1) = false := by rfl) : ME X W (.Call (.Name "dict" p) [a] [] pos) (eN (one (d1 oDictPC)) fs) := by
  refine PE.sub (pe_callTy (call_dictP hc) hg hm boot_dict' ha (by decide) (by decide) he hpl) ?_
  rintro σ H Q ⟨w, ρ, rfl, F, E, h⟩
  refine ⟨w, ρ, rfl, F, E, Holds.thn h fun ds w1 g1 F1 h1 xs rs => ?_⟩
  refine one_thn h1 rs fun v d e r' q' => ?_
  subst e
  refine drf_thn F1 q' r' fun d' sx q2 => ?_
  unfold oDictPC at q2
  cases d' with
  | lst es =>
    dsimp only at q2
    cases z : pairs? es with
    | none => rw [z] at q2; exact q2.no
    | some prs =>
      rw [z] at q2
      dsimp only at q2
      obtain ⟨hl, q2⟩ := Holds.ite q2
      obtain ⟨al, vs, rfl, hs, hr⟩ := sx.lstAt
      obtain ⟨as, kvs, e1, e2, e3, e4⟩ := pairs_at hr z
      subst e1
      have hkl : kvs.length = prs.length := by have := congrArg List.length e3; simpa using this
      obtain ⟨m1, m2⟩ := merge_reps (kvs := []) (ds := []) e3 e4 .nil
      refine ⟨al, as, kvs, rfl, hs, e2, fun p hp => ?_⟩
      have hsz : (mergeK [] kvs).length ≤ sizeLine := by
        have h1 := mergeK_le kvs []
        have h2 : (1000 : Nat) ≤ sizeLine := by decide
        simp at h1; omega
      have m1' : (mergeK [] kvs).map (·.1) = (mergeD [] [] prs).1 := m1
      refine q2 (w1.alloc p (.dK (mergeK [] kvs)) (.dic (mergeD [] [] prs).1 (mergeD [] [] prs).2)) (alloc_grow hp) (alloc_fits F1 hp ⟨mergeK [] kvs, upd_same, hsz, m1', (alloc_grow hp).reps m2⟩) rfl (.ref p) (.cell ?_)
      show (w1.μ ++ [p])[w1.ω.length]? = some p
      rw [← F1.len, List.getElem?_append_right (Nat.le_refl _), Nat.sub_self]; rfl
  | _ => exact q2.no
end
end Mi
/-! texts: split, join -/
namespace Mi
open PySem PySem.Spec PyProof.Rows L2
variable [Tb]
section
variable {X : Cx} {W : WX} {a b : Expr} {f : Env → M D} {fs : Env → M (List D)} {pos apos : Pos}
def txtOk (x : Str) : Bool := Nat.ble x.length sizeLine && PyData.strOk x
theorem txtOk_iff {x : Str} : txtOk x = true ↔ x.length ≤ sizeLine ∧ PyData.strOk x = true := by
  unfold txtOk
  rw [Bool.and_eq_true, Nat.ble_eq]
theorem reps_strs {K : PySem.W.Frag} {w : Wd} : ∀ {ys : List Str}, ys.all txtOk = true → w.reps K (ys.map V.str) (ys.map D.str)
  | [], _ => .nil
  | y :: ys, h => by
    rw [List.all_cons, Bool.and_eq_true] at h
    obtain ⟨h1, h2⟩ := txtOk_iff.mp h.1
    exact .cons (.str y h1 h2) (reps_strs h.2)
def strs? : List D → Option (List Str)
  | [] => some []
  | .str x :: ds => (strs? ds).map (x :: ·)
  | _ :: _ => none
theorem strs_map : ∀ ys : List Str, strs? (ys.map D.str) = some ys
  | [] => rfl
  | y :: ys => by
    show (strs? (ys.map D.str)).map (y :: ·) = _
    rw [strs_map ys]; rfl
theorem strs_reps {K : PySem.W.Frag} {w : Wd} : ∀ {vs : List V} {ds : List D} {ys : List Str}, w.reps K vs ds → strs? ds = some ys → vs = ys.map V.str
  | _, _, ys, .nil, h => by cases h; rfl
  | _, _, ys, .cons (d := d) (ds := ds) r rs, h => by
    cases r with
    | str x h1 h2 =>
      have h' : (strs? ds).map (x :: ·) = some ys := h
      cases q : strs? ds with
      | none => rw [q] at h'; cases h'
      | some zs =>
        rw [q] at h'
        cases h'
        rw [strs_reps rs q]; rfl
    | _ => cases h
def splD (d : D) (ds : List D) : M D := match d, ds with
  | .str a, [.str b] => if (b.length == 0) = false ∧ Nat.ble (a.length + 2) sizeLine = true ∧ (Txt.split a b).all txtOk = true then M.ret (.lst ((Txt.split a b).map D.str)) else M.stuck
  | _, _ => M.stuck
theorem opM_split : OpM X (fun x xs H Q => ∃ a b, x = .str a ∧ xs = [.str b] ∧ (b.length == 0) = false ∧ a.length + 2 ≤ sizeLine ∧ rNewStrs (Txt.split a b) H Q) splD := fun W σ w x d xs ds Q F rx rs h => by
  cases rx with
  | str y h1 h2 =>
    cases rs with
    | nil => exact h.no
    | cons r rs => cases rs with
      | cons _ _ => cases r <;> exact h.no
      | nil => cases r with
        | str z h3 h4 =>
          have h' : Ans X.K X.mg W σ w (if (z.length == 0) = false ∧ Nat.ble (y.length + 2) sizeLine = true ∧ (Txt.split y z).all txtOk = true then M.ret (.lst ((Txt.split y z).map D.str)) else M.stuck) Q := h
          obtain ⟨⟨c1, c2, c3⟩, h'⟩ := Holds.ite h'
          have c2' : y.length + 2 ≤ sizeLine := Nat.le_of_ble_eq_true c2
          refine ⟨y, z, rfl, rfl, c1, c2', ?_⟩
          exact Ans.lst F h' (reps_strs c3) (by rw [List.length_map]; exact Nat.le_trans (PyProof.Rows.split_le y z) c2')
        | _ => exact h.no
  | _ => cases rs <;> exact h.no
def jsz (a : Str) (ys : List Str) : Bool := Nat.ble ((ys.map (·.length)).sum + ys.length * a.length) 16777216 && txtOk (Txt.join a ys)
def jnD (a : Str) (ds : List D) : M D := match strs? ds with
  | some ys => if jsz a ys = true then M.ret (.str (Txt.join a ys)) else M.stuck
  | none => M.stuck
def joinD (d : D) (ds : List D) : M D := match d, ds with
  | .str a, [e] => oi (jnD a) e
  | _, _ => M.stuck
theorem opM_join : OpM X (fun x xs H Q => ∃ a p, ∃ ys : List Str, x = .str a ∧ xs = [.ref p] ∧ (SqL X.K H p (ys.map V.str) ∨ SqT X.K H p (ys.map V.str)) ∧
    (ys.map (·.length)).sum + ys.length * a.length ≤ 16777216 ∧ Q (.str (Txt.join a ys)) H) joinD := fun W σ w x d xs ds Q F rx rs h => by
  cases rx with
  | str y h1 h2 =>
    cases rs with
    | nil => exact h.no
    | cons r rs => cases rs with
      | cons _ _ => exact h.no
      | nil =>
        have h' : Ans X.K X.mg W σ w (oi (jnD y) _) Q := h
        refine items_thn F h' r fun p vs ds e hs hl hr h => ?_
        unfold jnD at h
        cases q : strs? ds with
        | none => rw [q] at h; exact h.no
        | some ys =>
          rw [q] at h
          obtain ⟨c, h⟩ := Holds.ite h
          unfold jsz at c
          rw [Bool.and_eq_true, Nat.ble_eq] at c
          obtain ⟨c3, c4⟩ := txtOk_iff.mp c.2
          have ev := strs_reps hr q
          subst ev
          subst e
          exact ⟨y, p, ys, rfl, rfl, hs, c.1, Ans.val F h (.str _ c3 c4)⟩
  | _ => cases rs <;> exact h.no
theorem me_txSplit (ha : ME X W a f) (hb : MA X W [b] fs) (hbase : attributeBase a "split" X.env (eval a X.env) = eval a X.env := by rfl)
    (hfew : ((backTo pos (starEach [b] X.env)).all (fun x => !x.1) && (backToKw pos (keywordEach [] X.env)).all (fun x => x.1.isSome)
      && decide ([b].length + ([] : List Keyword).length + (if ([] : List Keyword).isEmpty then 0 else 1) < 30)) = true := by rfl)
    (hline : (apos.endLine == pos.line) = true := by rfl) (hs : starEach [b] X.env = (false, eval b X.env) :: starEach [] X.env := by rfl) (hplain : (backTo pos (starEach [] X.env)).any (·.1) = false := by rfl) :
    ME X W (.Call (.Attribute a "split" apos) [b] [] pos) (eBM chkS splD f fs) := me_bm PySem.F.plainAttrs_str PySem.F.slot_str_split PySem.F.type_str_split mt_split opM_split chkS_ok ha hb hbase hfew hline hs hplain
theorem me_txJoin (ha : ME X W a f) (hb : MA X W [b] fs) (hbase : attributeBase a "join" X.env (eval a X.env) = eval a X.env := by rfl)
    (hfew : ((backTo pos (starEach [b] X.env)).all (fun x => !x.1) && (backToKw pos (keywordEach [] X.env)).all (fun x => x.1.isSome)
      && decide ([b].length + ([] : List Keyword).length + (if ([] : List Keyword).isEmpty then 0 else 1) < 30)) = true := by rfl)
    (hline : (apos.endLine == pos.line) = true := by rfl) (hs : starEach [b] X.env = (false, eval b X.env) :: starEach [] X.env := by rfl) (hplain : (backTo pos (starEach [] X.env)).any (·.1) = false := by rfl) :
    ME X W (.Call (.Attribute a "join" apos) [b] [] pos) (eBM chkS joinD f fs) := me_bm PySem.F.plainAttrs_str PySem.F.slot_str_join PySem.F.type_str_join mt_join opM_join chkS_ok ha hb hbase hfew hline hs hplain
end
end Mi
/-! try: .. except x as n: kept = n, and behind it: if kept is None: return answer; return word(kept) -/
namespace Mi
open PySem PySem.Spec PyProof.Rows L2
variable [Tb]
def sStuck : SM := fun _ _ => .stuck
theorem ms_stuck {X : Cx} {W : WX} {st : Stmt} : MS X W st sStuck := ⟨fun pins s σ H D I h => by
  obtain ⟨w, ρ, rfl, F, E, h⟩ := h
  exact h.elim⟩
theorem mss_stuck {X : Cx} {W : WX} {st : List Stmt} : MSs X W st sStuck := ⟨fun pins s σ H D I h => by
  obtain ⟨w, ρ, rfl, F, E, h⟩ := h
  exact h.elim⟩
def sTryK (word : Str → Option Str) (tb tr : SM) : SM := fun ρ ω => match tb ρ ω with
  | .next ρ' ω' => tr ρ' ω'
  | .exc c _ ω' => match word c with
    | some x => .ret (.str x) ω'
    | none => .stuck
  | .ret d ω' => .ret d ω'
  | _ => .stuck
/-- what comes behind, when slot k holds the refusal at a -/
def restK (k : Nat) (a : Addr) (wo : Str) : SM := fun ρ ω => match ρ[k]? with
  | some (some (.ref x)) => if x = a then .ret (.str wo) ω else .stuck
  | _ => .stuck
section
variable {X : Cx} {W : WX} {i k kn : Nat} {x n kt nm pn : Str} {CS fN : Addr} {fdN : FuncData} {body rest : List Stmt} {np pos pos' p1 p2 p3 p4 p5 p6 p7 p8 : Pos} {tb tr : SM} {word : Str → Option Str} {bd : List Stmt}
theorem mss_restK {Z : Cx} {ad : Addr} {oe : Obj} {cls : Value} {wo : Str} {o2 : Nat} (hp : (ad, oe) ∈ Z.pn) (hz : Zc cls none oe) (hf : ∃ vs, oe.data = .fields vs) (hr : L2H.RoomH kn Z.A) (gn : Gl Z nm) (hN : Z.mg nm = some (.ref fN)) (hk : PySem.W.keepIn Z.K (.ref fN) = true) (bN : Binds Z.K fdN [pn] [])
    (NO : NameOk Z.prog Z.w Z.K Z.mg Z.base kn fN fdN [pn] cls wo) (ow : wo.length ≤ sizeLine ∧ PyData.strOk wo = true)
    (hi : Z.N[k]? = some kt) (vn : Z.env.scope.names.lookup kt = some .local) (hd1 : (nm == ("__debug__" : Str)) = false) (hd2 : (kt == ("__debug__" : Str)) = false) (hd3 : (kt == ("__classdict__" : Str)) = false) (he : starEach [.Name kt p6] Z.env = (false, eval (.Name kt p6) Z.env) :: starEach [] Z.env := by rfl) (hpl : (backTo p7 (starEach [] Z.env)).any (·.1) = false := by rfl) :
    MSs Z W [.If (.Compare (.Name kt p1) [.Is] [.Constant .none o2 p2] p3) bd [] p4, .Return (some (.Call (.Name nm p5) [.Name kt p6] [] p7)) p8] (restK k ad wo) := by
  have nmd := pe_named (Z := Z) (ad := ad) (oe := oe) (cls := cls) (i := k) (n := kt) (nm := nm) (pn := pn) (fN := fN) (fdN := fdN) (kn := kn) (p5 := p5) (p6 := p6) (p7 := p7) hp hz hf hr gn hN hk bN hi (.inl vn) hd1 hd2 hd3
  have tst1 : MT Z W (.Compare (.Name kt p1) [.Is] [.Constant .none o2 p2] p3) (tst (e2 oIsN (eV k) (eC .non))) := mt_isN (me_v k hi (.inl vn) hd2 hd3) me_non
  refine PSs.sub (pss_cons (ms_if (s := sStuck) tst1 mss_stuck mss_nil) (pss_one (ps_ret (pos := p8) nmd))) ?_
  rintro D σ H ⟨w, ρ, rfl, F, E, q⟩
  unfold restK at q
  split at q
  · rename_i y hy
    by_cases e : y = ad
    · subst e
      rw [if_pos rfl] at q
      refine ⟨w, ρ, rfl, F, E, ?_⟩
      have ev : eV k ρ = M.ret (.ref y) := by unfold eV; rw [hy]
      have e2 : sIf (tst (e2 oIsN (eV k) (eC .non))) sStuck sNext ρ w.ω = .next ρ w.ω := by
        simp [ev, sIf, tst, e2, eC, isNon]
      rw [e2]
      intro w' σ' g F' eω E'
      obtain ⟨v, h1, h2⟩ := E'.get k (.ref y) hy
      cases h2
      refine ⟨fun _ => h1, w', wo, rfl, F', NO, fun w2 g2 F2 e2 => ?_⟩
      exact q w2 (.str wo) (g.trans g2) F2 (e2.trans eω) (.str wo ow.1 ow.2)
    · rw [if_neg e] at q; exact q.elim
  · exact q.elim
theorem toPinned {pins : List (Addr × Obj)} {σ : L2.St} {H : Hp} {s : Shared} {a : Addr} {q : Addr × Obj} (ok : X.Ok) (I : Inv (X.suite a (q :: (X.pn ++ pins))) [] σ H s) : Inv (X.tr (q :: (X.pn ++ pins)) X.xe) [] σ H s :=
  ⟨ok.toTry _ _, I.os, I.bare, I.base, I.loc, I.cell, I.free, I.freeC, I.pin, I.hok, I.len⟩
theorem fromPinned {pins p' : List (Addr × Obj)} {σ : L2.St} {H : Hp} {s : Shared} {q : Addr × Obj} (ok : X.Ok) (I : Inv (X.tr (q :: (X.pn ++ pins)) X.xe) p' σ H s) : Inv X pins σ H s :=
  ⟨ok, I.os, I.bare, I.base, I.loc, I.cell, I.free, I.freeC, fun z hz => I.pin z (List.mem_append_left _ (List.mem_cons_of_mem _ hz)), I.hok, I.len⟩
theorem sp_from {pins p' : List (Addr × Obj)} {D : Ends} {f : Flow} {s : Shared} {q : Addr × Obj} (ok : X.Ok) (h : SP (X.tr (q :: (X.pn ++ pins)) X.xe) p' D f s) : SP X pins D f s := by
  cases f with
  | next => exact h.elim fun σ h => h.elim fun H h => ⟨σ, H, fromPinned ok h.1, h.2⟩
  | brk => exact h.elim fun σ h => h.elim fun H h => ⟨σ, H, fromPinned ok h.1, h.2⟩
  | cont => exact h.elim fun σ h => h.elim fun H h => ⟨σ, H, fromPinned ok h.1, h.2⟩
  | ret u => exact h.elim fun v h => h.elim fun σ h => h.elim fun H h => ⟨v, σ, H, fromPinned ok h.1, h.2.1, h.2.2⟩
end
end Mi
namespace Mi
open PySem PySem.Spec PyProof.Rows L2
variable [Tb]
section
variable {X : Cx} {W : WX} {i k kn : Nat} {x n kt nm pn : Str} {CS fN : Addr} {fdN : FuncData} {body rest : List Stmt} {b0 : Stmt} {np pos pos' : Pos} {tb tr : SM} {word : Str → Option Str}
/-- the refusal that the body lets out -/
def wK (X : Cx) (CS : Addr) (kn : Nat) (fN : Addr) (fdN : FuncData) (pn : Str) (D : Ends) : WX := fun cls d σ H => d = none ∧ PySem.W.exmOne X.K cls (.ref CS) = some true ∧
  ∃ wd ρ wo, wd.H = H ∧ Fits X.K wd ∧ EnvRep X.K wd ρ σ ∧ (wo.length ≤ sizeLine ∧ PyData.strOk wo = true) ∧ NameOk X.prog X.w X.K X.mg X.base kn fN fdN [pn] cls wo ∧ ∀ w', Grow wd w' → Fits X.K w' → w'.ω = wd.ω → D.rt (.str wo) w'.H
theorem mss_tryK (hs : X.stack = X.env :: X.outer) (hf : X.env.frame = some X.env.locals) (hN : X.N.Nodup) (hi : X.N[i]? = some n) (hln : X.env.kindOf n = some .local) (hk : X.N[k]? = some kt) (hik : i ≠ k) (hc : Names X x (.ref CS))
    (NO : ∀ c wd, word c = some wd → (wd.length ≤ sizeLine ∧ PyData.strOk wd = true) ∧ ∀ u, X.mg c = some u → PySem.W.exmOne X.K u (.ref CS) = some true ∧ NameOk X.prog X.w X.K X.mg X.base kn fN fdN [pn] u wd)
    (hb : ∀ (W' : WX) (pl : List (Addr × Obj)) (xe : Value → Shared → Prop), Takes (X.tr pl xe) W' → PassesOwn (model X.prog X.w) X.A X.env xe → MSs (X.tr pl xe) W' body tb)
    (hsu : ∀ (a : Addr) (oe : Obj) (pl : List (Addr × Obj)), MSs (X.suite a ((a, oe) :: pl)) W [b0] (sSet k (eV i)))
    (hre : MSs X W rest tr)
    (hrk : ∀ (a : Addr) (oe : Obj) (cls : Value) (wo : Str) (pl : List (Addr × Obj)), Zc cls none oe → (∃ vs, oe.data = .fields vs) → (wo.length ≤ sizeLine ∧ PyData.strOk wo = true) → NameOk X.prog X.w X.K X.mg X.base kn fN fdN [pn] cls wo → MSs (X.tr ((a, oe) :: pl) X.xe) W rest (restK k a wo)) :
    MSs X W (.Try body [.ExceptHandler (some (.Name x np)) (some n) [b0] pos'] [] [] pos :: rest) (sTryK word tb tr) := by
  refine ⟨fun pins s σ H D I hh => ?_⟩
  obtain ⟨w, ρ, rfl, F, E, hh⟩ := hh
  have okX := I.ok
  have frX : X.A.frames = some (X.env :: X.outer) := okX.frames.trans (congrArg _ hs)
  have locN : Loc X.env.scope n := Or.inl hln
  have bodyRun : tMS X.K X.mg (wK X CS kn fN fdN pn D) tb { D with nx := fun σ' H' => tMS X.K X.mg W tr D σ' H' } σ w.H := by
    refine ⟨w, ρ, rfl, F, E, ?_⟩
    unfold sTryK at hh
    cases z : tb ρ w.ω with
    | stuck => rw [z] at hh; exact hh.elim
    | brk _ _ => rw [z] at hh; exact hh.elim
    | cont _ _ => rw [z] at hh; exact hh.elim
    | ret d ω' => rw [z] at hh; exact hh
    | next ρ' ω' =>
      rw [z] at hh
      intro w' σ' g F' e E'
      subst e
      exact ⟨w', ρ', rfl, F', E', HoldsS.grow g hh⟩
    | exc c ρ' ω' =>
      rw [z] at hh
      dsimp only at hh
      intro w' σ' u g F' e E' hu
      cases zw : word c with
      | none => rw [zw] at hh; exact hh.elim
      | some wo =>
        rw [zw] at hh
        obtain ⟨ow, h2⟩ := NO c wo zw
        obtain ⟨h3, h4⟩ := h2 u hu
        exact ⟨rfl, h3, w', ρ', wo, rfl, F', E', ow, h4, fun w2 g2 F2 e2 => hh w2 (.str wo) (g.trans g2) F2 (e2.trans e) (.str wo ow.1 ow.2)⟩
  refine wpAny_execs_cons (wpAny_Try_except (wpAny_mono ((hb (wK X CS kn fN fdN pn D) (X.pn ++ pins) _ (fun u s1 xx => ?_) PassesOwn.looking).run [] s σ w.H _ (I.toTry _) bodyRun) (fun fl s1 sp => ?_) (fun _ _ z => z)))
  · obtain ⟨a, B, sI, pins1, σ1, H1, cls, d, rfl, J1, nb, up, sky, na, os, ag, hd0, hex, wd, ρ1, wo, hwd, Fd, Ed, ow, nok, hq⟩ := xx
    subst hd0
    subst hwd
    have JX : Inv X pins σ1 wd.H sI := J1.ofTry okX
    have skyX : Sky B (X.env :: X.outer) a (Zc cls none) X.env.locals s1.heap := hs ▸ sky
    refine Sky.land (M := model X.prog X.w) (A := X.A) Zc.steady frX hf skyX fun h3 fl3 up3 => ?_
    obtain ⟨o3, f3, g3, z3, d3⟩ := fl3.there
    have off : a ∉ frs (X.env :: X.outer) := fun hm => by
      obtain ⟨_, o', e', hno⟩ := fl3.2.2.1.mem hm
      have e2 := g3.symm.trans e'
      cases e2
      exact hno _ d3
    have nL : a ≠ X.env.locals := fun z => off (List.mem_filterMap.mpr ⟨_, List.mem_cons_self, hf.trans (congrArg some z.symm)⟩)
    have nF : a ∉ X.fs := fun hm => (List.mem_filterMap.mp hm).elim fun e he => off (List.mem_filterMap.mpr ⟨e, List.mem_cons_of_mem _ he.1, he.2⟩)
    have J3 : Inv X pins σ1 wd.H { s1 with heap := h3 } := JX.landed nb fl3.1 (up.trans up3) os ag
    have S3 := J3.suite g3 d3 na nL nF
    refine wpAny_handleBy_cons (codeAny_handlers_test ?_) (fun q => nomatch q)
    have look : PySem.W.Looks (model X.prog X.w) h3 (typeOf (.ref a)) cls := fun _ _ _ _ kp q => wpAny_typeOf_ref (kp _ _ g3) (by rw [z3.1]; exact q)
    have meet := PySem.W.exm_one (M := model X.prog X.w) J3.kIn look hex
    have named : ∀ {Q E : Value → Shared → Prop}, Q (.ref CS) { s1 with heap := h3 } → wpAny (model X.prog X.w) (X.A.mark (some (.ref a))) (eval (.Name x np) X.env) Q E { s1 with heap := h3 } := fun {Q E} q => by
      obtain ⟨hg, hdb, hm | ⟨hm, hv, hnn⟩⟩ := hc
      · exact ld_glob S3 hg hm q hdb
      · exact ld_blt S3 hg hm hv q hnn hdb
    refine named (meet.here (codeAny_handlers_suite_as (HandSPX.lands_againZ fl3 fun h4 fl4 up4 => ?_)))
    obtain ⟨o4, f4, g4, z4, d4⟩ := fl4.there
    have J4 : Inv X pins σ1 wd.H { s1 with heap := h4 } := JX.landed nb fl4.1 ((up.trans up3).trans up4) os ag
    have li : i < ρ1.length := by rw [Ed.len, J4.len]; exact (List.getElem?_eq_some_iff.mp hi).1
    have lk : k < ρ1.length := by rw [Ed.len, J4.len]; exact (List.getElem?_eq_some_iff.mp hk).1
    refine store_ok (X := X.suite a ((a, o4) :: (X.pn ++ pins))) (v := .ref a) (J4.suite g4 d4 na nL nF) hN hi locN rfl (fun s5 S5 => ?_) (.inr hln)
    have ev : sSet k (eV i) (ρ1.set i (some (.ref a))) wd.ω = .next ((ρ1.set i (some (.ref a))).set k (some (.ref a))) wd.ω := by
      have e1 : eV i (ρ1.set i (some (.ref a))) = M.ret (.ref a) := by unfold eV; rw [List.getElem?_set_self li]
      simp [sSet, e1]
    refine wpAny_mono ((hsu a o4 (X.pn ++ pins)).run [] s5 _ wd.H { nx := fun σ6 H6 => tMS X.K X.mg W (restK k a wo) D (σ6.set i none) H6, rt := fun _ _ => False, bk := fun _ _ => False, ct := fun _ _ => False } S5 ⟨wd, ρ1.set i (some (.ref a)), rfl, Fd, Ed.set (.ref a), ?_⟩) (fun fl s6 sp => ?_) (fun _ _ z => z.elim)
    · rw [ev]
      intro w' σ' g F' e E'
      refine ⟨w', _, rfl, F', E'.setNone i, ?_⟩
      unfold restK
      rw [List.getElem?_set_ne hik, List.getElem?_set_self (by simpa using lk)]
      dsimp only
      rw [if_pos rfl]
      intro w2 v2 g2 F2 e2 r2
      cases r2
      exact hq w2 (g.trans g2) F2 (e2.trans e)
    · cases fl with
      | next =>
        obtain ⟨σ6, H6, S6, q6⟩ := sp
        refine gone_ok (X := X.tr ((a, o4) :: (X.pn ++ pins)) X.xe) (toPinned okX S6) hN hi hln fun s7 J7 => ?_
        exact wpAny_mono ((hrk a o4 cls wo (X.pn ++ pins) z4 ⟨_, d4⟩ ow nok).run [] s7 _ H6 D J7 q6) (fun fl s8 z => sp_from okX z) (fun _ _ z => z)
      | brk => obtain ⟨_, _, _, z⟩ := sp; exact z.elim
      | cont => obtain ⟨_, _, _, z⟩ := sp; exact z.elim
      | ret u => obtain ⟨_, _, _, _, _, z⟩ := sp; exact z.elim
  · cases fl with
    | next =>
      obtain ⟨σ', H', J', q⟩ := sp
      exact wpAny_execs_nil (hre.run pins s1 σ' H' D (J'.ofTry okX) q)
    | brk => exact sp.elim fun σ' h => h.elim fun H' h => ⟨σ', H', h.1.ofTry okX, h.2⟩
    | cont => exact sp.elim fun σ' h => h.elim fun H' h => ⟨σ', H', h.1.ofTry okX, h.2⟩
    | ret u => exact sp.elim fun v h => h.elim fun σ' h => h.elim fun H' h => ⟨v, σ', H', h.1.ofTry okX, h.2.1, h.2.2⟩
end
end Mi
/-! the def that names a refusal, with lists of its own -/
namespace Mi
open PySem PySem.Spec PyProof.Rows L2
variable [Tb]
section
variable {P : Program} {w : World} {K : PySem.W.Frag} {mg : Str → Option Value} {base : Heap}
theorem name_okE {x qual p : Str} {st : Stmt} {f : Addr} {fd : FuncData} {N : List Str} {k : Nat} {u : Value} {word : Str} {body : Addr → SM} (F : Fun K x qual st f fd) (S : FnScope N [p] (defScope st))
    (hb : ∀ (a : Addr) (oe : Obj), Zc u none oe → (∃ vs, oe.data = .fields vs) → ∀ (cdv : Value) (A : Around) (outer : List PySem.Env) (s : Shared) (H : Hp), L2H.RoomH k (A.deeper (envOfC qual (defScope st) s.heap.objs.size f cdv)) →
      MSs (L2H.cxH C8.CX0 P w K mg base N qual (defScope st) f cdv A outer s H C8.E0 (a, oe)) WF (defBody st) (body a))
    (ev : ∀ (a : Addr), ∃ ω', body a ([some (.ref a)] ++ List.replicate (N.length - 1) none) [] = .ret (.str word) ω') (h1 : word.length ≤ sizeLine) (h2 : PyData.strOk word = true) : NameOk P w K mg base (k + 1) f fd [p] u word := by
  intro a oe hz hf A outer s args us Q wd hr hp e0 hbd r Fw hq
  refine run_pin F S hr hp e0 hbd r rfl fun cdv hr2 => ⟨_, hb a oe hz hf cdv A outer s wd.H hr2, ?_⟩
  refine ⟨W0 wd.S wd.H, [some (.ref a)] ++ List.replicate (N.length - 1) none, rfl, w0_fits Fw.good, start_rep (vs := [.ref a]) (ds := [.ref a]) (.cons (.ref a) .nil), ?_⟩
  obtain ⟨ω', e⟩ := ev a
  show HoldsS K mg _ (W0 wd.S wd.H) (body a _ []) _
  rw [e]
  intro w' v g F' e rv
  cases rv
  obtain ⟨g2, F2⟩ := call_world Fw (w0_grow g) F'.good
  exact hq ⟨w'.S, wd.μ, wd.ω, w'.H⟩ g2 F2 rfl
end
end Mi
/-! tuple(range(n)), list(range(n)) -/
namespace Mi
open PySem PySem.Spec PyProof.Rows L2
variable [Tb]
section
variable {X : Cx} {W : WX} {a : Expr} {f : Env → M D} {p p2 pos pos2 : Pos}
def rgOk (n : Int) : Bool := Nat.ble n.natAbs 1000 && decide (0 ≤ n)
def oTupRg (d : D) : M D := match d with
  | .int n => if rgOk n = true then M.ret (.tup (rangeD 0 n.toNat)) else M.stuck
  | _ => M.stuck
def oLstRg (d : D) : M D := match d with
  | .int n => if rgOk n = true then M.ret (.lst (rangeD 0 n.toNat)) else M.stuck
  | _ => M.stuck
theorem reps_rg {K : PySem.W.Frag} {S : Addr → Prop} {μ : List Addr} {H : Hp} (n : Nat) : Reps K S μ H (rgV 0 (n : Int)) (rangeD 0 n) := by
  unfold rgV rangeD
  have e : ((n : Int) - 0).toNat = n := by omega
  rw [e]
  have : ∀ l : List Nat, Reps K S μ H (l.map fun i => V.int (0 + ((i : Nat) : Int))) (l.map fun i => D.int (0 + ((i : Nat) : Int))) := by
    intro l
    induction l with
    | nil => exact .nil
    | cons i l ih => exact .cons (.int _) ih
  exact this _
theorem rgOk_iff {n : Int} (h : rgOk n = true) : 0 ≤ n ∧ n ≤ 1000 := by
  unfold rgOk at h
  rw [Bool.and_eq_true, Nat.ble_eq, decide_eq_true_eq] at h
  omega
theorem me_tupRg (hc : X.calm = true) (hg : Gl X "tuple") (hm : X.mg "tuple" = none) (hg2 : Gl X "range") (hm2 : X.mg "range" = none) (ha : ME X W a f) (na : starEach [a] X.env = (false, eval a X.env) :: starEach [] X.env := by rfl)
    (nb : starEach [.Call (.Name "range" p2) [a] [] pos2] X.env = (false, eval (.Call (.Name "range" p2) [a] [] pos2) X.env) :: starEach [] X.env := by rfl) : ME X W (.Call (.Name "tuple" p) [.Call (.Name "range" p2) [a] [] pos2] [] pos) (e1 oTupRg f) := by
  refine PE.sub (pe_tupRg hc hg hm (prg_1 hg2 hm2 ha na) nb) ?_
  rintro σ H Q ⟨w, ρ, rfl, F, E, h⟩
  refine ⟨w, ρ, rfl, F, E, Holds.thn h fun d w1 g1 F1 h1 v rv => ?_⟩
  unfold oTupRg at h1
  cases rv with
  | int n =>
    dsimp only at h1
    obtain ⟨hb, h2⟩ := Holds.ite h1
    obtain ⟨h0, h3⟩ := rgOk_iff hb
    obtain ⟨k, rfl⟩ : ∃ k : Nat, n = (k : Int) := ⟨n.toNat, by omega⟩
    refine ⟨_, rfl, RgOk.of_le (by omega) (by omega) (by omega) (by omega), ?_⟩
    rw [Int.toNat_natCast] at h2
    exact Ans.tup F1 h2 (reps_rg k) (by rw [rgV_length]; exact Nat.le_trans (by omega : _ ≤ 1000) (by decide))
  | _ => exact h1.no
theorem me_lstRg (hc : X.calm = true) (hg : Gl X "list") (hm : X.mg "list" = none) (hg2 : Gl X "range") (hm2 : X.mg "range" = none) (ha : ME X W a f) (na : starEach [a] X.env = (false, eval a X.env) :: starEach [] X.env := by rfl)
    (nb : starEach [.Call (.Name "range" p2) [a] [] pos2] X.env = (false, eval (.Call (.Name "range" p2) [a] [] pos2) X.env) :: starEach [] X.env := by rfl) : ME X W (.Call (.Name "list" p) [.Call (.Name "range" p2) [a] [] pos2] [] pos) (e1 oLstRg f) := by
  refine PE.sub (pe_listRg hc hg hm (prg_1 hg2 hm2 ha na) nb) ?_
  rintro σ H Q ⟨w, ρ, rfl, F, E, h⟩
  refine ⟨w, ρ, rfl, F, E, Holds.thn h fun d w1 g1 F1 h1 v rv => ?_⟩
  unfold oLstRg at h1
  cases rv with
  | int n =>
    dsimp only at h1
    obtain ⟨hb, h2⟩ := Holds.ite h1
    obtain ⟨h0, h3⟩ := rgOk_iff hb
    obtain ⟨k, rfl⟩ : ∃ k : Nat, n = (k : Int) := ⟨n.toNat, by omega⟩
    refine ⟨_, rfl, RgOk.of_le (by omega) (by omega) (by omega) (by omega), ?_⟩
    rw [Int.toNat_natCast] at h2
    exact Ans.lst F1 h2 (reps_rg k) (by rw [rgV_length]; exact Nat.le_trans (by omega : _ ≤ 1000) (by decide))
  | _ => exact h1.no
end
end Mi
namespace Mi
open PySem PySem.Spec PyProof.Rows L2
open Da (toD)
/-! plain things: steps, far, draws -/
def stepsTo (m a b : Int) : Int := if 2 * ((b - a) % m) ≤ m then (b - a) % m else (b - a) % m - m
def far (m a b : Int) : Int := if stepsTo m a b < 0 then - stepsTo m a b else stepsTo m a b
def reach (m : Int) : Int → List Int → List Int
  | _, [] => []
  | a, x :: xs => ((a + x) % m) :: reach m ((a + x) % m) xs
theorem clean_ints (xs : List Int) : cleanL (xs.map D.int) = true := cleanL_map (α := Int) xs
@[simp] theorem small2 : small 2 = true := by decide
@[simp] theorem small31 : small 31 = true := by decide
@[simp] theorem small40692 : small 40692 = true := by decide
@[simp] theorem small6151 : small 6151 = true := by decide
/-- the cells of the script, the draws -/
def cellN (ns : List Int) (k : Int) : Int := if k < ns.length then ns.getD k.toNat 0 else if ns = [] then 0 else ns.getD (k % ns.length).toNat 0 * 31 + k
def pick (ns : List Int) (k m : Int) : Int := let d := (cellN ns k + 6151 * (k + 1)) * 40692 % 2147483399; (d * d + d / 31) % 2147483629 % m
theorem pick_lo (ns : List Int) (k : Int) {m : Int} (h : 0 < m) : 0 ≤ pick ns k m := Int.emod_nonneg _ (by omega)
theorem pick_hi (ns : List Int) (k : Int) {m : Int} (h : 0 < m) : pick ns k m < m := Int.emod_lt_of_pos _ h
theorem atI_getD (ns : List Int) (k : Int) (h0 : 0 ≤ k) (h1 : k < ns.length) : atI ns k = some (ns.getD k.toNat 0) := by
  unfold atI ixN
  rw [if_pos h0, if_pos h1]
  show ns[k.toNat]? = _
  have : k.toNat < ns.length := by omega
  rw [List.getElem?_eq_getElem this, List.getD_eq_getElem?_getD, List.getElem?_eq_getElem this]; rfl
theorem pyEq_scr (ns : List Int) : pyEq (.scr ns) (.lst []) = some (decide (ns = [])) := by
  have h : pyEq (.scr ns) (.lst []) = pyEq (toD ns) (toD ([] : List Int)) := by
    unfold pyEq
    rw [Da.ok, Da.ok]
    rfl
  rw [h, pyEq_da (by decide)]
theorem emod_of {x m b : Int} (k : Int) (h : x = b + m * k) (h0 : 0 ≤ b) (h1 : b < m) : x % m = b := by
  rw [h, Int.add_mul_emod_self_left, Int.emod_eq_of_lt h0 h1]
theorem sub_emod {m a b : Int} (ha : 0 ≤ a ∧ a < m) (hb : 0 ≤ b ∧ b < m) : (b - a) % m = if a ≤ b then b - a else b - a + m := by
  by_cases h : a ≤ b
  · rw [if_pos h]; exact Int.emod_eq_of_lt (by omega) (by omega)
  · rw [if_neg h]; exact emod_of (-1) (by omega) (by omega) (by omega)
theorem neg_emod {m a : Int} (ha : 0 ≤ a ∧ a < m) : (-a) % m = if a = 0 then 0 else m - a := by
  by_cases h : a = 0
  · rw [if_pos h, h]; simp
  · rw [if_neg h]; exact emod_of (-1) (by omega) (by omega) (by omega)
theorem stepsTo_lin {m a b : Int} (ha : 0 ≤ a ∧ a < m) (hb : 0 ≤ b ∧ b < m) : stepsTo m a b = if a ≤ b then (if 2 * (b - a) ≤ m then b - a else b - a - m) else (if 2 * (b - a + m) ≤ m then b - a + m else b - a) := by
  unfold stepsTo
  rw [sub_emod ha hb]
  split
  · rfl
  · split <;> omega
section
variable {m a b c : Int}
theorem step_to (h : 3 ≤ m ∧ m ≤ 16) (ha : 0 ≤ a ∧ a < m) (hb : 0 ≤ b ∧ b < m) : (a + stepsTo m a b) % m = b := by
  rw [stepsTo_lin ha hb]
  split
  · split
    · exact emod_of 0 (by omega) hb.1 hb.2
    · exact emod_of (-1) (by omega) hb.1 hb.2
  · split
    · exact emod_of 1 (by omega) hb.1 hb.2
    · exact emod_of 0 (by omega) hb.1 hb.2
theorem step_back (h : 3 ≤ m ∧ m ≤ 16) (ha : 0 ≤ a ∧ a < m) (hb : 0 ≤ b ∧ b < m) : (b + - stepsTo m a b) % m = a := by
  rw [stepsTo_lin ha hb]
  split
  · split
    · exact emod_of 0 (by omega) ha.1 ha.2
    · exact emod_of 1 (by omega) ha.1 ha.2
  · split
    · exact emod_of (-1) (by omega) ha.1 ha.2
    · exact emod_of 0 (by omega) ha.1 ha.2
theorem far_sym (ha : 0 ≤ a ∧ a < m) (hb : 0 ≤ b ∧ b < m) : far m b a = far m a b := by
  unfold far
  rw [stepsTo_lin ha hb, stepsTo_lin hb ha]
  repeat' split
  all_goals omega
theorem far_half (ha : 0 ≤ a ∧ a < m) (hb : 0 ≤ b ∧ b < m) : 2 * far m a b ≤ m := by
  unfold far
  rw [stepsTo_lin ha hb]
  repeat' split
  all_goals omega
theorem far_min (ha : 0 ≤ a ∧ a < m) (hb : 0 ≤ b ∧ b < m) : far m a b = min (if a ≤ b then b - a else a - b) (m - (if a ≤ b then b - a else a - b)) := by
  unfold far
  rw [stepsTo_lin ha hb]
  repeat' split
  all_goals omega
theorem far_tri (ha : 0 ≤ a ∧ a < m) (hb : 0 ≤ b ∧ b < m) (hc : 0 ≤ c ∧ c < m) : far m a b ≤ far m a c + far m c b := by
  rw [far_min ha hb, far_min ha hc, far_min hc hb]
  repeat' split
  all_goals omega
theorem far_zero (ha : 0 ≤ a ∧ a < m) (hb : 0 ≤ b ∧ b < m) : far m a b = 0 ↔ a = b := by
  rw [far_min ha hb]
  split <;> omega
theorem far_neg (hm : 0 < m) (ha : 0 ≤ a ∧ a < m) (hb : 0 ≤ b ∧ b < m) : far m ((-a) % m) ((-b) % m) = far m a b := by
  have e1 := neg_emod ha
  have e2 := neg_emod hb
  rw [far_min ⟨Int.emod_nonneg _ (by omega), Int.emod_lt_of_pos _ hm⟩ ⟨Int.emod_nonneg _ (by omega), Int.emod_lt_of_pos _ hm⟩, far_min ha hb, e1, e2]
  repeat' split
  all_goals omega
theorem step_sym (ha : 0 ≤ a ∧ a < m) (hb : 0 ≤ b ∧ b < m) : stepsTo m b a = stepsTo m a b ∨ stepsTo m b a = - stepsTo m a b := by
  rw [stepsTo_lin ha hb, stepsTo_lin hb ha]
  repeat' split
  all_goals omega
theorem step_on (ha : 0 ≤ a ∧ a < m) (hb : 0 ≤ b ∧ b < m) (h : 2 * far m a b = m) : ¬ stepsTo m a b < 0 := by
  unfold far at h
  rw [stepsTo_lin ha hb] at *
  repeat' split at h
  all_goals (try split)
  all_goals (try split)
  all_goals omega
end
theorem pyEq_bl (a b : Bool) : pyEq (.bl a) (.bl b) = some (a == b) := by
  cases a <;> cases b <;> rfl
theorem pyEq_ints (xs ys : List Int) : pyEq (.lst (xs.map D.int)) (.lst (ys.map D.int)) = some (decide (xs = ys)) := pyEq_da (α := List Int) (by decide) xs ys
theorem pyEq_i0 : pyEq (.lst []) (.lst []) = some true := by decide +kernel
theorem pyEq_i1 (a b : Int) : pyEq (.lst [.int a]) (.lst [.int b]) = some (decide (a = b)) := by
  rw [show ([.int a] : List D) = [a].map D.int from rfl, show ([.int b] : List D) = [b].map D.int from rfl, pyEq_ints]; simp
theorem pyEq_i4 (a b c d a' b' c' d' : Int) : pyEq (.lst [.int a, .int b, .int c, .int d]) (.lst [.int a', .int b', .int c', .int d']) = some (decide (a = a' ∧ b = b' ∧ c = c' ∧ d = d')) := by
  rw [show ([.int a, .int b, .int c, .int d] : List D) = [a, b, c, d].map D.int from rfl, show ([.int a', .int b', .int c', .int d'] : List D) = [a', b', c', d'].map D.int from rfl, pyEq_ints]; simp
theorem anyEq_i2 (x a b : Int) : anyEq (.int x) [.int a, .int b] = some (decide (x = a ∨ x = b)) := by
  rw [show ([.int a, .int b] : List D) = [a, b].map toD from rfl, show (D.int x) = toD x from rfl, anyEq_da (by decide)]; simp

theorem small_of {i : Int} (h0 : 0 ≤ i) (h1 : i ≤ 1000000000000) : small i = true := by rw [small_iff]; omega
theorem big62_of {n : Int} (h0 : 0 ≤ n) (h1 : n ≤ 1000000000000) : big62 n = true := big62_mk (by omega)
theorem lt30_of {n : Int} (h0 : 0 ≤ n) (h1 : n ≤ 1000000000) : lt30 n = true := by rw [lt30_iff]; omega
theorem tiny_of {n : Int} (h0 : 0 ≤ n) (h1 : n ≤ 1000000) : tiny n = true := by rw [tiny_iff]; omega
@[simp] theorem lt30_31 : lt30 31 = true := by decide
@[simp] theorem lt30_2 : lt30 2 = true := by decide
theorem big62_nat (n : Nat) (h : n ≤ 1000000) : big62 (n : Int) = true := big62_of (by omega) (by omega)
/-- the number at a place -/
def nth (xs : List Int) (i : Nat) : Int := xs.getD i 0
theorem nth_get (xs : List Int) (i : Nat) : nth xs i = (xs[i]?).getD 0 := List.getD_eq_getElem?_getD ..
/-! evaluation, typed -/
@[simp] theorem sumL_ints (xs : List Int) : sumL (xs.map D.int) = M.ret (.int xs.sum) := by
  unfold sumL
  rw [show xs.map D.int = xs.map toD from rfl, ints_map]
theorem ints_map' (xs : List Int) : ints? (xs.map D.int) = some xs := ints_map xs
@[simp] theorem ints_map'' (xs : List Int) : ints? (xs.map D.int) = some xs := ints_map xs
@[simp] theorem ints_comp {α : Type} (f : α → Int) (xs : List α) : ints? (xs.map (D.int ∘ f)) = some (xs.map f) := by rw [← List.map_map]; exact ints_map _
@[simp] theorem ints_fun {α : Type} (f : α → Int) (xs : List α) : ints? (xs.map fun x => D.int (f x)) = some (xs.map f) := ints_comp f xs
theorem bools_map (xs : List Bool) : bools? (xs.map D.bl) = some xs := by
  induction xs with
  | nil => rfl
  | cons x xs ih => rw [List.map_cons]; unfold bools?; rw [ih]
theorem compM_on {α : Type} {g : D → Env → Option Env} {e : Env → M D} {ρ : Env} (t h : α → D) (xs : List α) (hs : ∀ x ∈ xs, ∃ ρ1, g (t x) ρ = some ρ1 ∧ e ρ1 = M.ret (h x)) : compM g bYes e ρ (xs.map t) = M.ret (xs.map h) := by
  induction xs with
  | nil => rfl
  | cons x xs ih =>
    obtain ⟨ρ1, e1, e2⟩ := hs x List.mem_cons_self
    have ih := ih fun y hy => hs y (List.mem_cons_of_mem _ hy)
    rw [List.map_cons, List.map_cons]
    funext ω
    rw [compM_cons, e1]
    dsimp only [bYes, M.ret]
    rw [e2]
    dsimp only [M.ret]
    rw [ih]
    rfl
theorem compM_onIf {α : Type} {g : D → Env → Option Env} {u : Env → M Bool} {e : Env → M D} {ρ : Env} (t h : α → D) (p : α → Bool) (xs : List α) (hs : ∀ x ∈ xs, ∃ ρ1, g (t x) ρ = some ρ1 ∧ u ρ1 = M.ret (p x) ∧ (p x = true → e ρ1 = M.ret (h x))) : compM g u e ρ (xs.map t) = M.ret ((xs.filter p).map h) := by
  induction xs with
  | nil => rfl
  | cons x xs ih =>
    obtain ⟨ρ1, e1, e2, e3⟩ := hs x List.mem_cons_self
    have ih := ih fun y hy => hs y (List.mem_cons_of_mem _ hy)
    rw [List.map_cons]
    funext ω
    rw [compM_cons, e1]
    dsimp only
    rw [e2]
    dsimp only [M.ret]
    cases hp : p x with
    | false =>
      rw [List.filter_cons_of_neg (by rw [hp]; exact Bool.false_ne_true)]
      dsimp only
      rw [ih]
      rfl
    | true =>
      rw [List.filter_cons_of_pos hp]
      dsimp only
      rw [e3 hp]
      dsimp only [M.ret]
      rw [ih]
      rfl
theorem rangeD_map (n : Nat) : rangeD 0 n = (List.range n).map fun (i : Nat) => D.int (i : Int) := by
  unfold rangeD
  refine List.map_congr_left fun i _ => ?_
  rw [Int.zero_add]
theorem enumD_map {α : Type} (t : α → D) : ∀ (xs : List α) (n : Nat), enumD n (xs.map t) = (xs.zipIdx n).map fun p => D.tup [.int (p.2 : Int), t p.1]
  | [], _ => rfl
  | x :: xs, n => by rw [List.map_cons, List.zipIdx_cons, List.map_cons, enumD, enumD_map t xs (n + 1)]
theorem zipD_map {α β : Type} (t : α → D) (u : β → D) : ∀ (xs : List α) (ys : List β), zipD (xs.map t) (ys.map u) = (xs.zip ys).map fun p => D.tup [t p.1, u p.2]
  | [], _ => rfl
  | _ :: _, [] => rfl
  | x :: xs, y :: ys => by rw [List.map_cons, List.map_cons, zipD, zipD_map t u xs ys]; rfl
theorem oAt_map {α : Type} (t : α → D) (xs : List α) (i : Int) (k : D → D) (h0 : 0 ≤ i) (h1 : i < xs.length) (d : α) : oAt (xs.map t) i k = M.ret (k (t (xs.getD i.toNat d))) := by
  unfold oAt
  rw [atI_map]
  unfold atI ixN
  rw [if_pos h0, if_pos h1]
  have : i.toNat < xs.length := by omega
  rw [Option.bind_some]
  rw [List.getElem?_eq_getElem this, List.getD_eq_getElem?_getD, List.getElem?_eq_getElem this]
  rfl
theorem oAt_ints (xs : List Int) (i : Int) (h0 : 0 ≤ i) (h1 : i < xs.length) : oAt (xs.map D.int) i id = M.ret (.int (nth xs i.toNat)) := oAt_map D.int xs i id h0 h1 0
theorem oAt_nat (xs : List Int) (i : Nat) (h1 : i < xs.length) : oAt (xs.map D.int) (i : Int) id = M.ret (.int (nth xs i)) := oAt_ints xs i (by omega) (by omega)
/-- a loop over typed things that carries a state -/
theorem loop_on {α τ : Type} {g : D → Env → Option Env} {s : SM} (t : α → D) (At : τ → Env → List Cell → Prop) (st : τ → α → τ) : ∀ (xs : List α) (v : τ) (ρ : Env) (ω : List Cell), (∀ x ∈ xs, ∀ v ρ ω, At v ρ ω → ∃ ρ1 ρ2 ω2, g (t x) ρ = some ρ1 ∧ s ρ1 ω = .next ρ2 ω2 ∧ At (st v x) ρ2 ω2) → At v ρ ω → ∃ ρ' ω', loopS g s (xs.map t) ρ ω = .next ρ' ω' ∧ At (xs.foldl st v) ρ' ω'
  | [], v, ρ, ω, _, h => ⟨ρ, ω, rfl, h⟩
  | x :: xs, v, ρ, ω, hs, h => by
    obtain ⟨ρ1, ρ2, ω2, e1, e2, h2⟩ := hs x List.mem_cons_self v ρ ω h
    obtain ⟨ρ', ω', e3, h3⟩ := loop_on t At st xs (st v x) ρ2 ω2 (fun y hy => hs y (List.mem_cons_of_mem _ hy)) h2
    refine ⟨ρ', ω', ?_, h3⟩
    rw [List.map_cons]
    unfold loopS
    rw [e1]
    dsimp only
    rw [e2]
    exact e3
/-! sums over places -/
def sumN (m : Nat) (f : Nat → Int) : Int := ((List.range m).map f).sum
theorem sumN_congr {m : Nat} {f g : Nat → Int} (h : ∀ i, i < m → f i = g i) : sumN m f = sumN m g := by
  unfold sumN
  congr 1
  exact List.map_congr_left fun i hi => h i (List.mem_range.mp hi)
theorem sum_perm : ∀ {xs ys : List Int}, xs.Perm ys → xs.sum = ys.sum := by
  intro xs ys h
  induction h with
  | nil => rfl
  | cons x _ ih => simp [ih]
  | swap x y l => simp; omega
  | trans _ _ h1 h2 => exact h1.trans h2
theorem perm_of_sub {α : Type} {xs ys : List α} (h1 : xs.Nodup) (h2 : ys.Nodup) (hl : ys.length ≤ xs.length) (hs : xs ⊆ ys) : xs.Perm ys := by
  refine (List.perm_ext_iff_of_nodup h1 h2).mpr fun a => ⟨fun h => hs h, fun h => ?_⟩
  exact Classical.byContradiction fun hn => by
    have nd : (a :: xs).Nodup := List.nodup_cons.mpr ⟨hn, h1⟩
    have := nd.length_le_of_subset (l₂ := ys) fun x hx => by
      rcases List.mem_cons.mp hx with rfl | hx
      · exact h
      · exact hs hx
    rw [List.length_cons] at this
    omega
theorem range_perm {m : Nat} {σ : Nat → Nat} (h1 : ∀ i, i < m → σ i < m) (h2 : ∀ i j, i < m → j < m → σ i = σ j → i = j) : ((List.range m).map σ).Perm (List.range m) := by
  have nd : ((List.range m).map σ).Nodup := by
    rw [List.nodup_iff_pairwise_ne, List.pairwise_map]
    exact (List.nodup_range (n := m)).imp_of_mem fun ha hb hne e => hne (h2 _ _ (List.mem_range.mp ha) (List.mem_range.mp hb) e)
  exact perm_of_sub nd List.nodup_range (by simp) fun x hx => by
    obtain ⟨i, hi, rfl⟩ := List.mem_map.mp hx
    exact List.mem_range.mpr (h1 i (List.mem_range.mp hi))
theorem sumN_re {m : Nat} {σ : Nat → Nat} (h1 : ∀ i, i < m → σ i < m) (h2 : ∀ i j, i < m → j < m → σ i = σ j → i = j) (f : Nat → Int) : sumN m (fun i => f (σ i)) = sumN m f := by
  unfold sumN
  rw [show (fun i => f (σ i)) = f ∘ σ from rfl, ← List.map_map]
  exact sum_perm ((range_perm h1 h2).map f)
theorem sumN_mul (m : Nat) (c : Int) (f : Nat → Int) : sumN m (fun i => c * f i) = c * sumN m f := by
  unfold sumN
  induction List.range m with
  | nil => simp
  | cons x xs ih => simp only [List.map_cons, List.sum_cons]; rw [ih, Int.mul_add]
theorem sum_getD (xs : List Int) : sumN xs.length (fun i => nth xs i) = xs.sum := by
  unfold sumN nth
  congr 1
  apply List.ext_getElem?
  intro i
  rw [List.getElem?_map]
  by_cases h : i < xs.length
  · rw [List.getElem?_eq_getElem (by simpa using h), List.getElem_range, List.getElem?_eq_getElem h]
    simp [List.getD_eq_getElem?_getD, List.getElem?_eq_getElem h]
  · rw [List.getElem?_eq_none (by simpa using h), List.getElem?_eq_none (by simpa using h)]; rfl
theorem sumN_nonneg {m : Nat} {f : Nat → Int} (h : ∀ i, i < m → 0 ≤ f i) : 0 ≤ sumN m f := by
  unfold sumN
  have : ∀ l : List Nat, (∀ i ∈ l, 0 ≤ f i) → 0 ≤ (l.map f).sum := by
    intro l
    induction l with
    | nil => intro _; simp
    | cons x xs ih => intro hl; simp only [List.map_cons, List.sum_cons]; have := hl x List.mem_cons_self; have := ih fun i hi => hl i (List.mem_cons_of_mem _ hi); omega
  exact this _ fun i hi => h i (List.mem_range.mp hi)
theorem sumN_le {m : Nat} {f g : Nat → Int} (h : ∀ i, i < m → f i ≤ g i) : sumN m f ≤ sumN m g := by
  unfold sumN
  have : ∀ l : List Nat, (∀ i ∈ l, f i ≤ g i) → (l.map f).sum ≤ (l.map g).sum := by
    intro l
    induction l with
    | nil => intro _; simp
    | cons x xs ih => intro hl; simp only [List.map_cons, List.sum_cons]; have := hl x List.mem_cons_self; have := ih fun i hi => hl i (List.mem_cons_of_mem _ hi); omega
  exact this _ fun i hi => h i (List.mem_range.mp hi)
theorem sumN_const (m : Nat) (c : Int) : sumN m (fun _ => c) = m * c := by
  unfold sumN
  rw [List.map_const', List.sum_replicate_int, List.length_range]
end Mi
namespace Mi
open PySem PySem.Spec PyProof.Rows L2
open Da (toD)
theorem emod_neg' (x m : Int) (hm : 0 < m) : (-x) % m = if x % m = 0 then 0 else m - x % m := by
  have h1 := Int.emod_nonneg x (show m ≠ 0 by omega)
  have h2 := Int.emod_lt_of_pos x hm
  have h3 := Int.emod_add_mul_ediv x m
  by_cases h : x % m = 0
  · rw [if_pos h]
    refine emod_of (-(x / m)) ?_ (Int.le_refl _) hm
    rw [h] at h3
    rw [Int.mul_neg]
    omega
  · rw [if_neg h]
    refine emod_of (-(x / m) - 1) ?_ (by omega) (by omega)
    rw [Int.mul_sub, Int.mul_neg]
    omega
theorem far_mod (m a b : Int) (hm : 0 < m) : far m a b = if (a - b) % m < (b - a) % m then (a - b) % m else (b - a) % m := by
  have e : (a - b) % m = if (b - a) % m = 0 then 0 else m - (b - a) % m := by
    rw [show a - b = -(b - a) by omega]; exact emod_neg' _ m hm
  have h1 := Int.emod_nonneg (b - a) (show m ≠ 0 by omega)
  have h2 := Int.emod_lt_of_pos (b - a) hm
  unfold far stepsTo
  rw [e]
  repeat' split
  all_goals omega
theorem far_nonneg (m a b : Int) : 0 ≤ far m a b := by unfold far; split <;> omega
theorem far_le (m a b : Int) (hm : 0 < m) : 2 * far m a b ≤ m := by
  have h1 := Int.emod_nonneg (b - a) (show m ≠ 0 by omega)
  have h2 := Int.emod_lt_of_pos (b - a) hm
  unfold far stepsTo
  repeat' split
  all_goals omega
theorem far_shift (m a b c : Int) (hm : 0 < m) : far m ((a + c) % m) ((b + c) % m) = far m a b := by
  have e : ((b + c) % m - (a + c) % m) % m = (b - a) % m := by
    rw [← Int.sub_emod, show b + c - (a + c) = b - a by omega]
  unfold far stepsTo
  rw [e]
theorem far_flip (m a b c : Int) (hm : 0 < m) : far m ((c - a) % m) ((c - b) % m) = far m a b := by
  rw [far_mod _ _ _ hm, far_mod _ _ _ hm]
  have e1 : ((c - a) % m - (c - b) % m) % m = (b - a) % m := by rw [← Int.sub_emod, show c - a - (c - b) = b - a by omega]
  have e2 : ((c - b) % m - (c - a) % m) % m = (a - b) % m := by rw [← Int.sub_emod, show c - b - (c - a) = a - b by omega]
  rw [e1, e2]
  split <;> split <;> omega
theorem far_self (m a : Int) (hm : 0 < m) : far m a a = 0 := by
  rw [far_mod _ _ _ hm]; simp
/-! the loop of the common measure -/
theorem gcd_loop {wt : Env → M Bool} {wb : SM} {a b : Option D} (hT : ∀ (x y : Nat) (ω : List Cell), wt [a, b, some (.int x), some (.int y)] ω = .ok (decide (y ≠ 0)) ω)
    (hB : ∀ (x y : Nat) (ω : List Cell), 0 < y → wb [a, b, some (.int x), some (.int y)] ω = .next [a, b, some (.int y), some (.int ((x % y : Nat) : Int))] ω) :
    ∀ (n x y : Nat) (ω : List Cell), y < 2 ^ n → ∀ k, 2 * n + 1 ≤ k → whileS wt wb k [a, b, some (.int x), some (.int y)] ω = .next [a, b, some (.int (Nat.gcd x y : Nat)), some (.int 0)] ω := by
  have done : ∀ (x : Nat) (ω : List Cell) (k : Nat), 1 ≤ k → whileS wt wb k [a, b, some (.int x), some (.int ((0 : Nat) : Int))] ω = .next [a, b, some (.int x), some (.int 0)] ω := by
    intro x ω k hk
    obtain ⟨k, rfl⟩ : ∃ j, k = j + 1 := ⟨k - 1, by omega⟩
    unfold whileS thenS
    rw [hT]
    rfl
  have step : ∀ (x y : Nat) (ω : List Cell) (k : Nat), 0 < y → whileS wt wb (k + 1) [a, b, some (.int x), some (.int y)] ω = whileS wt wb k [a, b, some (.int y), some (.int ((x % y : Nat) : Int))] ω := by
    intro x y ω k hy
    conv => lhs; unfold whileS thenS
    rw [hT, decide_eq_true (by omega)]
    show (match wb [a, b, some (.int x), some (.int y)] ω with
      | .next ρ2 ω2 => whileS wt wb k ρ2 ω2
      | .cont ρ2 ω2 => whileS wt wb k ρ2 ω2
      | .brk ρ2 ω2 => .next ρ2 ω2
      | o => o) = _
    rw [hB x y ω hy]
  intro n
  induction n with
  | zero =>
    intro x y ω hy k hk
    have : y = 0 := by omega
    subst this
    rw [done x ω k (by omega), Nat.gcd_zero_right]
  | succ n ih =>
    intro x y ω hy k hk
    by_cases h0 : y = 0
    · subst h0
      rw [done x ω k (by omega), Nat.gcd_zero_right]
    · obtain ⟨k, rfl⟩ : ∃ j, k = j + 2 := ⟨k - 2, by omega⟩
      rw [step x y ω (k + 1) (by omega)]
      have e1 : Nat.gcd x y = Nat.gcd y (x % y) := by rw [Nat.gcd_comm, Nat.gcd_rec, Nat.gcd_comm]
      by_cases h1 : x % y = 0
      · rw [h1, done y ω (k + 1) (by omega), e1, h1, Nat.gcd_zero_right]
      · rw [step y (x % y) ω k (by omega)]
        have hlt : x % y < y := Nat.mod_lt _ (by omega)
        have e2 : Nat.gcd y (x % y) = Nat.gcd (x % y) (y % (x % y)) := by rw [Nat.gcd_comm, Nat.gcd_rec, Nat.gcd_comm]
        have h2 : 2 * (y % (x % y)) < y := by
          have a1 : y % (x % y) < x % y := Nat.mod_lt _ (by omega)
          have a2 := Nat.div_add_mod y (x % y)
          have a3 : 1 ≤ y / (x % y) := Nat.div_pos (Nat.le_of_lt hlt) (by omega)
          have a4 : x % y * 1 ≤ x % y * (y / (x % y)) := Nat.mul_le_mul_left _ a3
          omega
        rw [ih (x % y) (y % (x % y)) ω (by rw [Nat.pow_succ] at hy; omega) k (by omega), e1, e2]
theorem foldl_sum {α : Type} (f : α → Int) : ∀ (xs : List α) (v : Int), xs.foldl (fun v x => v + f x) v = v + (xs.map f).sum
  | [], v => by simp
  | x :: xs, v => by rw [List.foldl_cons, foldl_sum f xs]; simp; omega
/-- (u, d) in lowest terms -/
def lowT (u d : Int) : Int × Int := (u / (Int.gcd u d : Nat), d / (Int.gcd u d : Nat))
theorem lowT_mul (c u d : Int) (hc : 0 < c) : lowT (c * u) (c * d) = lowT u d := by
  unfold lowT
  rw [Int.gcd_mul_left]
  have e : ((c.natAbs * Int.gcd u d : Nat) : Int) = c * (Int.gcd u d : Nat) := by
    rw [Int.natCast_mul]
    congr 1
    omega
  rw [e, Int.mul_ediv_mul_of_pos _ _ hc, Int.mul_ediv_mul_of_pos _ _ hc]
theorem lowT_zero (d : Int) (hd : 0 < d) : lowT 0 d = (0, 1) := by
  unfold lowT
  have e : ((Int.gcd 0 d : Nat) : Int) = d := by rw [Int.gcd_zero_left]; omega
  rw [e, Int.zero_ediv, Int.ediv_self (by omega)]
/-- the weights of all couples -/
def upS (xs : List Int) : Int := sumN xs.length fun i => sumN xs.length fun j => nth xs i * nth xs j * far xs.length i j
def meanT (xs : List Int) : Int × Int := if xs.sum = 0 then (0, 1) else lowT (upS xs) (xs.sum * xs.sum)
def costT (xs : List Int) : Int := sumN xs.length fun i => 2 * far xs.length 0 i * nth xs i
theorem upS_re {xs ys : List Int} {σ : Nat → Nat} (hl : ys.length = xs.length) (h1 : ∀ i, i < xs.length → σ i < xs.length) (h2 : ∀ i j, i < xs.length → j < xs.length → σ i = σ j → i = j)
    (h3 : ∀ i, i < xs.length → nth ys i = nth xs (σ i)) (h4 : ∀ i j : Nat, i < xs.length → j < xs.length → far xs.length (σ i : Nat) (σ j : Nat) = far xs.length i j) : upS ys = upS xs := by
  unfold upS
  rw [hl]
  rw [← sumN_re h1 h2 (fun i => sumN xs.length fun j => nth xs i * nth xs j * far xs.length i j)]
  refine sumN_congr fun i hi => ?_
  rw [← sumN_re h1 h2 (fun j => nth xs (σ i) * nth xs j * far xs.length (σ i : Nat) j)]
  refine sumN_congr fun j hj => ?_
  rw [h3 i hi, h3 j hj, h4 i j hi hj]
theorem cast_mod (a m : Nat) : ((a % m : Nat) : Int) = (a : Int) % (m : Int) := by omega
theorem upS_rot (xs : List Int) (at' : Nat) (h : at' < xs.length) : upS (xs.drop at' ++ xs.take at') = upS xs := by
  have hm : 0 < xs.length := by omega
  refine upS_re (σ := fun i => (i + at') % xs.length) (by simp; omega) (fun i _ => Nat.mod_lt _ hm) (fun i j hi hj e => ?_) (fun i hi => ?_) (fun i j hi hj => ?_)
  · have e' : (i + at') % xs.length = (j + at') % xs.length := e
    rcases Nat.lt_or_ge (i + at') xs.length with a | a <;> rcases Nat.lt_or_ge (j + at') xs.length with b | b
    · rw [Nat.mod_eq_of_lt a, Nat.mod_eq_of_lt b] at e'; omega
    · rw [Nat.mod_eq_of_lt a, Nat.mod_eq_sub_mod b, Nat.mod_eq_of_lt (by omega)] at e'; omega
    · rw [Nat.mod_eq_of_lt b, Nat.mod_eq_sub_mod a, Nat.mod_eq_of_lt (by omega)] at e'; omega
    · rw [Nat.mod_eq_sub_mod a, Nat.mod_eq_of_lt (by omega), Nat.mod_eq_sub_mod b, Nat.mod_eq_of_lt (by omega)] at e'; omega
  · rw [nth_get, nth_get]
    congr 1
    rcases Nat.lt_or_ge (i + at') xs.length with a | a
    · rw [Nat.mod_eq_of_lt a, List.getElem?_append_left (by simp; omega), List.getElem?_drop, Nat.add_comm]
    · rw [Nat.mod_eq_sub_mod a, Nat.mod_eq_of_lt (by omega), List.getElem?_append_right (by simp; omega), List.getElem?_take_of_lt (by simp; omega)]
      congr 1
      simp; omega
  · show far xs.length (((i + at') % xs.length : Nat) : Int) (((j + at') % xs.length : Nat) : Int) = _
    rw [cast_mod, cast_mod, Int.natCast_add, Int.natCast_add]
    exact far_shift _ _ _ _ (by omega)
theorem upS_rev (xs : List Int) : upS xs.reverse = upS xs := by
  refine upS_re (σ := fun i => xs.length - 1 - i) (by simp) (fun i hi => by omega) (fun i j hi hj e => by omega) (fun i hi => ?_) (fun i j hi hj => ?_)
  · rw [nth_get, nth_get, List.getElem?_reverse hi]
  · have e : ∀ k : Nat, k < xs.length → (((xs.length - 1 - k : Nat)) : Int) = ((xs.length : Int) - 1 - k) % xs.length := fun k hk => by
      rw [Int.emod_eq_of_lt (by omega) (by omega)]; omega
    rw [e i hi, e j hj]
    exact far_flip _ _ _ _ (by omega)
theorem upS_mul (c : Int) (xs : List Int) : upS (xs.map fun x => c * x) = c * (c * upS xs) := by
  unfold upS
  rw [List.length_map, ← sumN_mul, ← sumN_mul]
  refine sumN_congr fun i hi => ?_
  rw [← sumN_mul, ← sumN_mul]
  refine sumN_congr fun j hj => ?_
  have g : ∀ k, k < xs.length → nth (xs.map fun x => c * x) k = c * nth xs k := fun k hk => by
    rw [nth_get, nth_get, List.getElem?_map, List.getElem?_eq_getElem hk]; rfl
  rw [g i hi, g j hj, Int.mul_assoc, Int.mul_assoc, Int.mul_assoc, Int.mul_left_comm (nth xs i) c, ← Int.mul_assoc (nth xs i)]
theorem sum_mul (c : Int) (xs : List Int) : (xs.map fun x => c * x).sum = c * xs.sum := by
  induction xs with
  | nil => simp
  | cons x xs ih => simp only [List.map_cons, List.sum_cons]; rw [ih, Int.mul_add]
theorem meanT_rot (xs : List Int) (at' : Nat) (h : at' < xs.length) : meanT (xs.drop at' ++ xs.take at') = meanT xs := by
  unfold meanT
  have e : (xs.drop at' ++ xs.take at').sum = xs.sum := by
    conv => rhs; rw [← List.take_append_drop at' xs]
    rw [List.sum_append, List.sum_append]; omega
  rw [e, upS_rot xs at' h]
theorem meanT_rev (xs : List Int) : meanT xs.reverse = meanT xs := by
  unfold meanT
  rw [upS_rev, sum_perm (List.reverse_perm xs)]
theorem meanT_mul (c : Int) (hc : 0 < c) (xs : List Int) : meanT (xs.map fun x => c * x) = meanT xs := by
  unfold meanT
  rw [upS_mul, sum_mul]
  by_cases h : xs.sum = 0
  · rw [if_pos h, if_pos (by rw [h]; simp)]
  · rw [if_neg h, if_neg (by intro z; rcases Int.mul_eq_zero.mp z with z | z <;> omega)]
    rw [show c * xs.sum * (c * xs.sum) = c * (c * (xs.sum * xs.sum)) by rw [Int.mul_assoc, Int.mul_left_comm xs.sum]]
    rw [lowT_mul _ _ _ hc, lowT_mul _ _ _ hc]
theorem getD_in (xs : List Int) {lo hi : Int} (h : ∀ x ∈ xs, lo ≤ x ∧ x ≤ hi) (h0 : lo ≤ 0 ∧ 0 ≤ hi) (i : Nat) : lo ≤ nth xs i ∧ nth xs i ≤ hi := by
  rw [nth_get]
  cases q : xs[i]? with
  | none => exact h0
  | some x => exact h x (List.mem_of_getElem? q)
theorem sum_bound (xs : List Int) {hi : Int} (h : ∀ x ∈ xs, 0 ≤ x ∧ x ≤ hi) : 0 ≤ xs.sum ∧ xs.sum ≤ xs.length * hi := by
  induction xs with
  | nil => simp
  | cons x xs ih =>
    have a := h x List.mem_cons_self
    have b := ih fun y hy => h y (List.mem_cons_of_mem _ hy)
    simp only [List.sum_cons, List.length_cons]
    rw [Int.natCast_add, Int.add_mul]
    omega
theorem sum_zero {xs : List Int} (h : ∀ x ∈ xs, 0 ≤ x) (hs : xs.sum = 0) : ∀ x ∈ xs, x = 0 := by
  induction xs with
  | nil => simp
  | cons x xs ih =>
    have a := h x List.mem_cons_self
    have hb := fun y hy => h y (List.mem_cons_of_mem x hy)
    have b : 0 ≤ xs.sum := by
      clear ih hs h
      induction xs with
      | nil => simp
      | cons y ys ih => have := hb y List.mem_cons_self; have := ih fun z hz => hb z (List.mem_cons_of_mem _ hz); simp; omega
    simp only [List.sum_cons] at hs
    intro y hy
    rcases List.mem_cons.mp hy with rfl | hy
    · omega
    · exact ih hb (by omega) y hy
/-- the row but the first from the end -/
theorem costT_rev (xs : List Int) (h : 0 < xs.length) : costT (xs.take 1 ++ (xs.drop 1).reverse) = costT xs := by
  unfold costT
  have hl : (xs.take 1 ++ (xs.drop 1).reverse).length = xs.length := by simp; omega
  rw [hl]
  have h1 : ∀ i, i < xs.length → (xs.length - i) % xs.length < xs.length := fun i hi => Nat.mod_lt _ h
  have val : ∀ i, i < xs.length → (xs.length - i) % xs.length = if i = 0 then 0 else xs.length - i := fun i hi => by
    by_cases z : i = 0
    · subst z; simp
    · rw [if_neg z, Nat.mod_eq_of_lt (by omega)]
  have h2 : ∀ i j, i < xs.length → j < xs.length → (xs.length - i) % xs.length = (xs.length - j) % xs.length → i = j := fun i j hi hj e => by
    rw [val i hi, val j hj] at e
    by_cases a : i = 0 <;> by_cases b : j = 0 <;> simp [a, b] at e <;> omega
  rw [← sumN_re h1 h2 (fun i => 2 * far xs.length 0 i * nth xs i)]
  refine sumN_congr fun i hi => ?_
  have e1 : nth (xs.take 1 ++ (xs.drop 1).reverse) i = nth xs ((xs.length - i) % xs.length) := by
    rw [val i hi, nth_get, nth_get]
    congr 1
    by_cases z : i = 0
    · subst z
      rw [List.getElem?_append_left (by simp; omega), List.getElem?_take_of_lt (by omega)]; rfl
    · rw [if_neg z, List.getElem?_append_right (by simp; omega), List.getElem?_reverse (by simp; omega), List.getElem?_drop]
      congr 1
      simp; omega
  have e2 : far xs.length 0 (((xs.length - i) % xs.length : Nat) : Int) = far xs.length 0 i := by
    have := far_flip (xs.length : Int) 0 i 0 (by omega)
    rw [← this]
    congr 1
    rw [cast_mod]
    have : ((xs.length - i : Nat) : Int) = (0 - i) + (xs.length : Int) := by omega
    rw [this, Int.add_emod_right]
  rw [e1, e2]
end Mi
namespace Mi
open PySem PySem.Spec PyProof.Rows L2
open Da (toD)
/-- a loop over typed things, its turns told -/
theorem loop_ix {α τ : Type} {g : D → Env → Option Env} {s : SM} (t : α → D) (At : Nat → τ → Env → List Cell → Prop) (st : τ → α → τ) : ∀ (xs : List α) (i : Nat) (v : τ) (ρ : Env) (ω : List Cell),
    (∀ j x v ρ ω, xs[j]? = some x → At (i + j) v ρ ω → ∃ ρ1 ρ2 ω2, g (t x) ρ = some ρ1 ∧ s ρ1 ω = .next ρ2 ω2 ∧ At (i + j + 1) (st v x) ρ2 ω2) → At i v ρ ω → ∃ ρ' ω', loopS g s (xs.map t) ρ ω = .next ρ' ω' ∧ At (i + xs.length) (xs.foldl st v) ρ' ω'
  | [], i, v, ρ, ω, _, h => ⟨ρ, ω, rfl, h⟩
  | x :: xs, i, v, ρ, ω, hs, h => by
    obtain ⟨ρ1, ρ2, ω2, e1, e2, h2⟩ := hs 0 x v ρ ω rfl h
    obtain ⟨ρ', ω', e3, h3⟩ := loop_ix t At st xs (i + 1) (st v x) ρ2 ω2 (fun j y v ρ ω hy ha => by
      have := hs (j + 1) y v ρ ω (by simpa using hy) (by rw [show i + (j + 1) = i + 1 + j by omega]; exact ha)
      rw [show i + (j + 1) + 1 = i + 1 + j + 1 by omega] at this
      exact this) h2
    refine ⟨ρ', ω', ?_, ?_⟩
    · rw [List.map_cons]
      unfold loopS
      rw [e1]
      dsimp only
      rw [e2]
      exact e3
    · rw [List.length_cons, show i + (xs.length + 1) = i + 1 + xs.length by omega]
      exact h3
@[simp] theorem set_last {α : Type} (xs : List α) (a b : α) : (xs ++ [a]).set xs.length b = xs ++ [b] := by
  rw [List.set_append_right _ _ (Nat.le_refl _), Nat.sub_self]; rfl
@[simp] theorem get_last {α : Type} (xs : List α) (a : α) : (xs ++ [a])[xs.length]? = some a := by
  rw [List.getElem?_append_right (Nat.le_refl _), Nat.sub_self]; rfl
@[simp] theorem oAt2_0 (a b : D) : oAt [a, b] 0 id = M.ret a := rfl
@[simp] theorem oAt2_1 (a b : D) : oAt [a, b] 1 id = M.ret b := rfl
@[simp] theorem oAt1_0 (a : D) : oAt [a] 0 id = M.ret a := rfl
theorem max2_ (i j : Int) : (if j > i then j else i) = max i j := by split <;> omega
instance {α : Type} : Inhabited (Tu α) := ⟨⟨[]⟩⟩
section
variable {α : Type} [Dl α] [Inhabited α]
def minOf : List α → α
  | [] => default
  | x :: r => minBy x r
theorem minL_of (l : List α) (h : l ≠ []) (hd : Da.dep α ≤ 60) : minL (l.map toD) = M.ret (toD (minOf l)) := by
  cases l with
  | nil => exact absurd rfl h
  | cons x r => exact minL_map x r hd
theorem minOf_mem {l : List α} (h : l ≠ []) : minOf l ∈ l := by
  cases l with
  | nil => exact absurd rfl h
  | cons x r => exact (minBy_spec r x).1
theorem minOf_le {l : List α} {y : α} (h : y ∈ l) : Dl.lt y (minOf l) = false := by
  cases l with
  | nil => cases h
  | cons x r => exact (minBy_spec r x).2 y h
theorem minOf_eq {l : List α} {m : α} (h1 : m ∈ l) (h2 : ∀ y ∈ l, Dl.lt y m = false) : minOf l = m := by
  cases l with
  | nil => cases h1
  | cons x r => exact minBy_unique h1 h2
end
theorem fst_le {α β : Type} [Dl α] [Dl β] [DecidableEq α] [DecidableEq β] {p q : α × β} (h : Dl.lt p q = false) : Dl.lt p.1 q.1 = false := by
  have h' : (if p.1 = q.1 then Dl.lt p.2 q.2 else Dl.lt p.1 q.1) = false := h
  by_cases e : p.1 = q.1
  · rw [e]; exact Dl.irr _
  · rw [if_neg e] at h'; exact h'
theorem min_fst {β : Type} [Dl β] [DecidableEq β] [Inhabited β] {l : List (Int × β)} {y : Int × β} (h : y ∈ l) : (minOf l).1 ≤ y.1 := by
  have := fst_le (minOf_le h)
  have h' : decide (y.1 < (minOf l).1) = false := this
  simpa using h'
/-! loads -/
theorem list_ext_nth {xs ys : List Int} (hl : xs.length = ys.length) (h : ∀ i, i < xs.length → nth xs i = nth ys i) : xs = ys := by
  apply List.ext_getElem?
  intro i
  by_cases hi : i < xs.length
  · have := h i hi
    rw [nth_get, nth_get, List.getElem?_eq_getElem hi, List.getElem?_eq_getElem (hl ▸ hi)] at this
    rw [List.getElem?_eq_getElem hi, List.getElem?_eq_getElem (hl ▸ hi)]
    exact congrArg some this
  · rw [List.getElem?_eq_none (by omega), List.getElem?_eq_none (by omega)]
def addAt (xs : List Int) (s : Nat) (v : Int) : List Int := xs.set s (nth xs s + v)
@[simp] theorem addAt_len (xs : List Int) (s : Nat) (v : Int) : (addAt xs s v).length = xs.length := by unfold addAt; simp
theorem nth_set (xs : List Int) (s i : Nat) (v : Int) : nth (xs.set s v) i = if i = s ∧ s < xs.length then v else nth xs i := by
  rw [nth_get, nth_get]
  by_cases h : i = s
  · subst h
    by_cases h2 : i < xs.length
    · rw [if_pos ⟨rfl, h2⟩, List.getElem?_set_self h2]; rfl
    · rw [if_neg (by omega), List.getElem?_eq_none (by simpa using h2), List.getElem?_eq_none (by simpa using h2)]
  · rw [if_neg (by omega), List.getElem?_set_ne (fun e => h e.symm)]
theorem nth_add (xs : List Int) (s i : Nat) (v : Int) (h : i < xs.length) : nth (addAt xs s v) i = nth xs i + if i = s then v else 0 := by
  unfold addAt
  rw [nth_set]
  by_cases e : i = s
  · subst e; rw [if_pos ⟨rfl, h⟩, if_pos rfl]
  · rw [if_neg (by omega), if_neg e, Int.add_zero]
theorem addAt_comm (xs : List Int) (a b : Nat) (u v : Int) : addAt (addAt xs a u) b v = addAt (addAt xs b v) a u := by
  refine list_ext_nth (by simp) fun i hi => ?_
  have hi' : i < xs.length := by simpa using hi
  rw [nth_add _ _ _ _ (by simpa using hi'), nth_add _ _ _ _ hi', nth_add _ _ _ _ (by simpa using hi'), nth_add _ _ _ _ hi']
  omega
theorem addAt_zero (xs : List Int) (a : Nat) : addAt xs a 0 = xs := by
  refine list_ext_nth (by simp) fun i hi => ?_
  rw [nth_add _ _ _ _ (by simpa using hi)]
  split <;> omega
theorem addAt_cut (xs : List Int) (s : Nat) (v : Int) (h : s < xs.length) : xs.take s ++ [nth xs s + v] ++ xs.drop (s + 1) = addAt xs s v := by
  unfold addAt
  rw [List.set_eq_take_append_cons_drop, if_pos h, List.append_assoc]
  rfl
def absI (i : Int) : Int := if i < 0 then -i else i
theorem absI_nonneg (i : Int) : 0 ≤ absI i := by unfold absI; split <;> omega
def win (xs : List Int) (a h : Nat) : Int := sumN h fun k => nth xs ((a + k) % xs.length)
def dif (xs : List Int) (a : Nat) : Int := absI (win xs a (xs.length / 2) - win xs (a + xs.length / 2) (xs.length / 2))
def tiltT (xs : List Int) : Int := (List.range xs.length).foldl (fun v a => max v (dif xs a)) 0
theorem fold_max {f : Nat → Int} (hf : ∀ a, 0 ≤ f a) (n : Nat) (hn : 0 < n) : ∃ x r, (List.range n).map f = x :: r ∧ r.foldl max x = (List.range n).foldl (fun v a => max v (f a)) 0 := by
  obtain ⟨k, rfl⟩ : ∃ k, n = k + 1 := ⟨n - 1, by omega⟩
  rw [List.range_succ_eq_map, List.map_cons]
  refine ⟨_, _, rfl, ?_⟩
  rw [List.foldl_cons, show max 0 (f 0) = f 0 by have := hf 0; omega, List.foldl_map]
theorem fold_ge {f : Nat → Int} : ∀ (l : List Nat) (v : Int), v ≤ l.foldl (fun v a => max v (f a)) v ∧ ∀ a ∈ l, f a ≤ l.foldl (fun v a => max v (f a)) v
  | [], v => ⟨Int.le_refl _, fun _ h => by cases h⟩
  | x :: l, v => by
    obtain ⟨h1, h2⟩ := fold_ge (f := f) l (max v (f x))
    rw [List.foldl_cons]
    refine ⟨by omega, fun a ha => ?_⟩
    rcases List.mem_cons.mp ha with rfl | ha
    · omega
    · exact h2 a ha
theorem fold_le {f : Nat → Int} {c : Int} : ∀ (l : List Nat) (v : Int), v ≤ c → (∀ a ∈ l, f a ≤ c) → l.foldl (fun v a => max v (f a)) v ≤ c
  | [], v, h, _ => h
  | x :: l, v, h, hl => by
    rw [List.foldl_cons]
    exact fold_le l _ (by have := hl x List.mem_cons_self; omega) fun a ha => hl a (List.mem_cons_of_mem _ ha)
theorem tilt_nonneg (xs : List Int) : 0 ≤ tiltT xs := (fold_ge (List.range xs.length) 0).1
theorem sumN_mono {m n : Nat} {f : Nat → Int} (h : m ≤ n) (hf : ∀ i, 0 ≤ f i) : sumN m f ≤ sumN n f := by
  induction n with
  | zero => have : m = 0 := by omega
            subst this; exact Int.le_refl _
  | succ n ih =>
    by_cases e : m = n + 1
    · subst e; exact Int.le_refl _
    · have := ih (by omega)
      have e2 : sumN (n + 1) f = sumN n f + f n := by
        unfold sumN
        rw [List.range_succ, List.map_append, List.sum_append]; simp
      have := hf n
      omega
theorem mod_inj {m a : Nat} (h : 0 < m) : ∀ i j, i < m → j < m → (a + i) % m = (a + j) % m → i = j := by
  intro i j hi hj e
  have h1 := Nat.mod_lt a h
  have e1 : ∀ k, k < m → (a + k) % m = if a % m + k < m then a % m + k else a % m + k - m := by
    intro k hk
    rw [Nat.add_mod, Nat.mod_eq_of_lt hk]
    split
    · rw [Nat.mod_eq_of_lt (by assumption)]
    · rw [Nat.mod_eq_sub_mod (by omega), Nat.mod_eq_of_lt (by omega)]
  rw [e1 i hi, e1 j hj] at e
  split at e <;> split at e <;> omega
theorem nth_nonneg {xs : List Int} (h : ∀ x ∈ xs, 0 ≤ x) (i : Nat) : 0 ≤ nth xs i := by
  rw [nth_get]
  cases q : xs[i]? with
  | none => exact Int.le_refl _
  | some x => exact h x (List.mem_of_getElem? q)
theorem win_le {xs : List Int} (h : ∀ x ∈ xs, 0 ≤ x) (a k : Nat) (hk : k ≤ xs.length) (hp : 0 < xs.length) : 0 ≤ win xs a k ∧ win xs a k ≤ xs.sum := by
  refine ⟨sumN_nonneg fun i _ => nth_nonneg h _, ?_⟩
  have e := sumN_re (m := xs.length) (σ := fun i => (a + i) % xs.length) (fun i _ => Nat.mod_lt _ hp) (fun i j hi hj e => mod_inj hp i j hi hj e) (fun i => nth xs i)
  rw [sum_getD] at e
  rw [← e]
  exact sumN_mono hk fun i => nth_nonneg h _
theorem tilt_le {xs : List Int} (h : ∀ x ∈ xs, 0 ≤ x) (hp : 0 < xs.length) : tiltT xs ≤ xs.sum := by
  have hs : 0 ≤ xs.sum := by
    have := win_le h 0 0 (Nat.zero_le _) hp
    omega
  refine fold_le _ _ hs fun a _ => ?_
  have h1 := win_le h a (xs.length / 2) (by omega) hp
  have h2 := win_le h (a + xs.length / 2) (xs.length / 2) (by omega) hp
  unfold dif absI
  split <;> omega
theorem nth_append (xs ys : List Int) (i : Nat) : nth (xs ++ ys) i = if i < xs.length then nth xs i else nth ys (i - xs.length) := by
  rw [nth_get, nth_get, nth_get]
  split
  · rw [List.getElem?_append_left (by assumption)]
  · rw [List.getElem?_append_right (by omega)]
theorem sum_window : ∀ (h : Nat) (xs : List Int) (a : Nat), a + h ≤ xs.length → ((xs.drop a).take h).sum = sumN h fun k => nth xs (a + k)
  | 0, xs, a, _ => by simp [sumN]
  | h + 1, xs, a, hl => by
    have ih := sum_window h xs a (by omega)
    have e2 : sumN (h + 1) (fun k => nth xs (a + k)) = sumN h (fun k => nth xs (a + k)) + nth xs (a + h) := by
      unfold sumN
      rw [List.range_succ, List.map_append, List.sum_append]; simp
    rw [e2, ← ih, List.take_add_one, List.sum_append, List.getElem?_drop, List.getElem?_eq_getElem (by omega), nth_get, List.getElem?_eq_getElem (by omega)]
    simp
theorem sum_win3 (xs : List Int) (a h : Nat) (hl : a + h ≤ 3 * xs.length) : (((xs ++ xs ++ xs).drop a).take h).sum = win xs a h := by
  rw [sum_window _ _ _ (by simp; omega)]
  unfold win
  refine sumN_congr fun k hk => ?_
  rw [nth_append, nth_append, List.length_append]
  have hp : 0 < xs.length := by omega
  by_cases h1 : a + k < xs.length
  · rw [if_pos (by omega), if_pos h1, Nat.mod_eq_of_lt h1]
  · by_cases h2 : a + k < xs.length + xs.length
    · rw [if_pos h2, if_neg h1, Nat.mod_eq_sub_mod (by omega), Nat.mod_eq_of_lt (by omega)]
    · rw [if_neg h2, Nat.mod_eq_sub_mod (by omega), Nat.mod_eq_sub_mod (by omega), Nat.mod_eq_of_lt (by omega)]
      congr 1
      omega
/-- the ways to put loads -/
def stepP (n : Nat) (made : List (Tu Int × Tu Int)) (load : Int) : List (Tu Int × Tu Int) := made.flatMap fun p => (List.range n).map fun (s : Nat) => ((⟨p.1.l ++ [(s : Int)]⟩ : Tu Int), (⟨addAt p.2.l s load⟩ : Tu Int))
def putsT (xs some : List Int) : List (Tu Int × Tu Int) := some.foldl (stepP xs.length) [(⟨[]⟩, ⟨xs⟩)]
def listB (xs some : List Int) : List (Int × Tu Int) := (putsT xs some).map fun p => (tiltT p.2.l, p.1)
def bestT (xs some : List Int) : Int × Tu Int := minOf (listB xs some)
def putAll : List Int → List Nat → List Int → List Int
  | xs, s :: ss, v :: vs => putAll (addAt xs s v) ss vs
  | xs, _, _ => xs
theorem mem_step {n : Nat} {made : List (Tu Int × Tu Int)} {load : Int} {q : Tu Int × Tu Int} : q ∈ stepP n made load ↔ ∃ p ∈ made, ∃ s, s < n ∧ q = (⟨p.1.l ++ [(s : Int)]⟩, ⟨addAt p.2.l s load⟩) := by
  unfold stepP
  rw [List.mem_flatMap]
  constructor
  · rintro ⟨p, hp, h⟩
    obtain ⟨s, hs, rfl⟩ := List.mem_map.mp h
    exact ⟨p, hp, s, List.mem_range.mp hs, rfl⟩
  · rintro ⟨p, hp, s, hs, rfl⟩
    exact ⟨p, hp, List.mem_map.mpr ⟨s, List.mem_range.mpr hs, rfl⟩⟩
theorem mem_puts0 {xs : List Int} {q : Tu Int × Tu Int} : q ∈ putsT xs [] ↔ q = (⟨[]⟩, ⟨xs⟩) := by
  unfold putsT; simp
theorem mem_puts1 {xs : List Int} {v : Int} {q : Tu Int × Tu Int} : q ∈ putsT xs [v] ↔ ∃ s, s < xs.length ∧ q = (⟨[(s : Int)]⟩, ⟨addAt xs s v⟩) := by
  unfold putsT
  rw [List.foldl_cons, List.foldl_nil, mem_step]
  constructor
  · rintro ⟨p, hp, s, hs, rfl⟩
    have : p = (⟨[]⟩, ⟨xs⟩) := by simpa using hp
    subst this
    exact ⟨s, hs, rfl⟩
  · rintro ⟨s, hs, rfl⟩
    exact ⟨_, List.mem_singleton.mpr rfl, s, hs, rfl⟩
theorem mem_puts2 {xs : List Int} {u v : Int} {q : Tu Int × Tu Int} : q ∈ putsT xs [u, v] ↔ ∃ s s', s < xs.length ∧ s' < xs.length ∧ q = (⟨[(s : Int), (s' : Int)]⟩, ⟨addAt (addAt xs s u) s' v⟩) := by
  have e : putsT xs [u, v] = stepP xs.length (putsT xs [u]) v := rfl
  rw [e, mem_step]
  constructor
  · rintro ⟨p, hp, s', hs', rfl⟩
    obtain ⟨s, hs, rfl⟩ := mem_puts1.mp hp
    exact ⟨s, s', hs, hs', rfl⟩
  · rintro ⟨s, s', hs, hs', rfl⟩
    exact ⟨_, mem_puts1.mpr ⟨s, hs, rfl⟩, s', hs', rfl⟩
theorem step_len (n : Nat) (made : List (Tu Int × Tu Int)) (load : Int) : (stepP n made load).length = made.length * n := by
  unfold stepP
  induction made with
  | nil => simp
  | cons p made ih => rw [List.flatMap_cons, List.length_append, ih]; simp [Nat.succ_mul]; omega
end Mi
namespace Mi
open PySem PySem.Spec PyProof.Rows L2
open Da (toD)
/-! serving -/
def timesT (m : Int) : Int → Int → List (Int × Int) → List Int
  | _, _, [] => []
  | h, n, a :: as => (max n a.1 + far m h a.2) :: timesT m a.2 (max n a.1 + far m h a.2) as
theorem times_len (m : Int) : ∀ (as : List (Int × Int)) (h n : Int), (timesT m h n as).length = as.length
  | [], _, _ => rfl
  | a :: as, h, n => by simp [timesT, times_len m as]
def servedT (m st : Int) (asks : List (Int × Int)) : List ((Int × Int) × Int) := (sortT asks).zip (timesT m st 0 (sortT asks))
theorem toD_ask (p : Int × Int) : (toD p : D) = .tup [.int p.1, .int p.2] := rfl
theorem toD_sv (p : (Int × Int) × Int) : (toD p : D) = .tup [.tup [.int p.1.1, .int p.1.2], .int p.2] := rfl
theorem sortL_asks (xs : List (Int × Int)) : sortL (xs.map toD) = M.ret ((sortT xs).map toD) := sortL_map xs (by decide) (.inl fun _ => rfl)
def okAsk (m : Int) (p : Int × Int) : Prop := 0 ≤ p.1 ∧ p.1 ≤ 9999 ∧ 0 ≤ p.2 ∧ p.2 < m
theorem sortT_mem {α : Type} [Dl α] {xs : List α} {x : α} : x ∈ sortT xs ↔ x ∈ xs := (sortT_perm xs).mem_iff
theorem sortT_len {α : Type} [Dl α] (xs : List α) : (sortT xs).length = xs.length := (sortT_perm xs).length_eq
end Mi
namespace Mi
open PySem PySem.Spec PyProof.Rows L2
open Da (toD)
/-! all orders -/
section
variable {α : Type} [DecidableEq α]
def ordN (d : α) : Nat → List α → List (List α)
  | 0, _ => []
  | n + 1, xs => if xs = [] then [[]] else (List.range xs.length).flatMap fun i => (ordN d n (xs.take i ++ xs.drop (i + 1))).map fun r => xs.getD i d :: r
theorem perm_pick (d : α) (xs : List α) (i : Nat) (h : i < xs.length) : (xs.getD i d :: (xs.take i ++ xs.drop (i + 1))).Perm xs := by
  have e : xs.take i ++ (xs.getD i d :: xs.drop (i + 1)) = xs := by
    rw [List.getD_eq_getElem?_getD, List.getElem?_eq_getElem h, Option.getD_some, ← List.drop_eq_getElem_cons h, List.take_append_drop]
  refine (List.perm_middle.symm).trans ?_
  rw [e]
theorem mem_ordN (d : α) : ∀ (n : Nat) (xs ys : List α), xs.length < n → (ys ∈ ordN d n xs ↔ ys.Perm xs)
  | 0, xs, ys, h => absurd h (Nat.not_lt_zero _)
  | n + 1, xs, ys, h => by
    unfold ordN
    by_cases e : xs = []
    · subst e
      rw [if_pos rfl, List.mem_singleton]
      exact ⟨fun z => z ▸ List.Perm.refl _, fun z => z.eq_nil⟩
    · rw [if_neg e, List.mem_flatMap]
      constructor
      · rintro ⟨i, hi, hy⟩
        have hi' := List.mem_range.mp hi
        obtain ⟨r, hr, rfl⟩ := List.mem_map.mp hy
        have := (mem_ordN d n _ r (by simp; omega)).mp hr
        exact (this.cons _).trans (perm_pick d xs i hi')
      · intro hp
        cases ys with
        | nil => exact absurd hp.symm.eq_nil e
        | cons y r =>
          have hy : y ∈ xs := hp.mem_iff.mp List.mem_cons_self
          obtain ⟨i, hi, rfl⟩ := List.getElem_of_mem hy
          have eg : xs.getD i d = xs[i] := by rw [List.getD_eq_getElem?_getD, List.getElem?_eq_getElem hi]; rfl
          refine ⟨i, List.mem_range.mpr hi, List.mem_map.mpr ⟨r, (mem_ordN d n _ r (by simp; omega)).mpr ?_, by rw [eg]⟩⟩
          have h2 := perm_pick d xs i hi
          rw [eg] at h2
          exact (hp.trans h2.symm).cons_inv
def fb : Nat → Nat
  | 0 => 1
  | k + 1 => (k + 1) * fb k
theorem len_flat {β γ : Type} (f : β → List γ) (c : Nat) : ∀ l : List β, (∀ x ∈ l, (f x).length ≤ c) → (l.flatMap f).length ≤ l.length * c
  | [], _ => by simp
  | x :: l, h => by
    rw [List.flatMap_cons, List.length_append, List.length_cons, Nat.succ_mul]
    have h1 := h x List.mem_cons_self
    have h2 := len_flat f c l fun y hy => h y (List.mem_cons_of_mem _ hy)
    omega
theorem len_ordN (d : α) : ∀ (n : Nat) (xs : List α) (k : Nat), xs.length = k → (ordN d n xs).length ≤ fb k
  | 0, xs, k, h => by simp [ordN]
  | n + 1, xs, k, h => by
    unfold ordN
    by_cases e : xs = []
    · subst e
      have : k = 0 := by simpa using h.symm
      subst this
      rw [if_pos rfl]; exact Nat.le_refl _
    · rw [if_neg e]
      obtain ⟨j, rfl⟩ : ∃ j, k = j + 1 := ⟨k - 1, by have : xs.length ≠ 0 := fun z => e (List.length_eq_zero_iff.mp z); omega⟩
      have := len_flat (fun i => (ordN d n (xs.take i ++ xs.drop (i + 1))).map fun r => xs.getD i d :: r) (fb j) (List.range xs.length) fun i hi => by
        have hi' := List.mem_range.mp hi
        rw [List.length_map]
        exact len_ordN d n _ j (by simp; omega)
      rw [List.length_range] at this
      refine Nat.le_trans this ?_
      rw [h]
      exact Nat.le_refl _
theorem ordN_ne (d : α) (n : Nat) (xs : List α) (h : xs.length < n) : ordN d n xs ≠ [] := fun e => by
  have := (mem_ordN d n xs xs h).mpr (List.Perm.refl _)
  rw [e] at this; cases this
/-- by laying each in at all places -/
def stepO (rows : List (List α)) (one : α) : List (List α) := rows.flatMap fun row => (List.range (row.length + 1)).map fun i => row.take i ++ [one] ++ row.drop i
def insO (xs : List α) : List (List α) := xs.foldl stepO [[]]
theorem mem_stepO {rows : List (List α)} {one : α} {ys : List α} : ys ∈ stepO rows one ↔ ∃ row ∈ rows, ∃ i, i ≤ row.length ∧ ys = row.take i ++ [one] ++ row.drop i := by
  unfold stepO
  rw [List.mem_flatMap]
  constructor
  · rintro ⟨row, hr, h⟩
    obtain ⟨i, hi, rfl⟩ := List.mem_map.mp h
    exact ⟨row, hr, i, by have := List.mem_range.mp hi; omega, rfl⟩
  · rintro ⟨row, hr, i, hi, rfl⟩
    exact ⟨row, hr, List.mem_map.mpr ⟨i, List.mem_range.mpr (by omega), rfl⟩⟩
theorem mem_insO_fold : ∀ (xs : List α) (pre : List α) (rows : List (List α)), (∀ ys, ys ∈ rows ↔ ys.Perm pre) → ∀ ys, ys ∈ xs.foldl stepO rows ↔ ys.Perm (pre ++ xs)
  | [], pre, rows, h, ys => by simpa using h ys
  | x :: xs, pre, rows, h, ys => by
    rw [List.foldl_cons]
    have := mem_insO_fold xs (pre ++ [x]) (stepO rows x) (fun zs => by
      rw [mem_stepO]
      constructor
      · rintro ⟨row, hr, i, hi, rfl⟩
        have h1 := (h row).mp hr
        have h2 : (row.take i ++ [x] ++ row.drop i).Perm (x :: row) := by
          rw [List.append_assoc, List.singleton_append]
          refine List.perm_middle.trans ?_
          rw [List.take_append_drop]
        exact (h2.trans (h1.cons x)).trans (List.perm_append_singleton x pre).symm
      · intro hp
        have hx : x ∈ zs := hp.mem_iff.mpr (List.mem_append_right _ List.mem_cons_self)
        obtain ⟨i, hi, e⟩ := List.getElem_of_mem hx
        have e2 : zs = zs.take i ++ (x :: zs.drop (i + 1)) := by
          rw [← e, ← List.drop_eq_getElem_cons hi, List.take_append_drop]
        refine ⟨zs.take i ++ zs.drop (i + 1), (h _).mpr ?_, i, by simp; omega, ?_⟩
        · have h3 : (x :: (zs.take i ++ zs.drop (i + 1))).Perm zs := by
            refine (List.perm_middle.symm).trans ?_
            rw [← e2]
          exact ((h3.trans hp).trans (List.perm_append_singleton x pre)).cons_inv
        · have l1 : (zs.take i).length = i := by rw [List.length_take]; omega
          rw [List.take_append_of_le_length (by omega), List.take_of_length_le (by omega), List.drop_append_of_le_length (by omega), List.drop_eq_nil_of_le (by omega), List.nil_append, List.append_assoc]
          exact e2)
    rw [this ys, List.append_assoc]; rfl
theorem mem_insO (xs ys : List α) : ys ∈ insO xs ↔ ys.Perm xs := by
  have := mem_insO_fold xs [] [[]] (fun zs => by
    rw [List.mem_singleton]
    exact ⟨fun z => z ▸ List.Perm.refl _, fun z => z.eq_nil⟩) ys
  rw [List.nil_append] at this
  exact this
theorem len_stepO (rows : List (List α)) (one : α) (k : Nat) (h : ∀ r ∈ rows, r.length = k) : (stepO rows one).length = rows.length * (k + 1) ∧ ∀ r ∈ stepO rows one, r.length = k + 1 := by
  constructor
  · unfold stepO
    induction rows with
    | nil => simp
    | cons r rows ih =>
      rw [List.flatMap_cons, List.length_append, ih fun z hz => h z (List.mem_cons_of_mem _ hz), List.length_map, List.length_range, List.length_cons, h r List.mem_cons_self, Nat.succ_mul]
      omega
  · intro r hr
    obtain ⟨row, h1, i, hi, rfl⟩ := mem_stepO.mp hr
    have := h row h1
    simp; omega
end
/-! waits -/
def waitS (m st : Int) (xs : List (Int × Int)) : Int := ((xs.zip (timesT m st 0 xs)).map fun p => p.2 - p.1.1).sum
abbrev Ask := Int × Int
def listS (m st : Int) (xs : List Ask) : List (Int × List Ask) := (ordN (0, 0) 8 (sortT xs)).map fun r => (waitS m st r, r)
def bestS (m st : Int) (xs : List Ask) : Int × List Ask := minOf (listS m st xs)
theorem bestS_spec (m st : Int) (xs : List Ask) (h : xs.length ≤ 7) : (bestS m st xs).1 = waitS m st (bestS m st xs).2 ∧ (bestS m st xs).2.Perm xs ∧ ∀ r, r.Perm xs → (bestS m st xs).1 ≤ waitS m st r := by
  have hl : (sortT xs).length < 8 := by rw [sortT_len]; omega
  have hne : listS m st xs ≠ [] := by
    unfold listS
    simpa using ordN_ne (0, 0) 8 (sortT xs) hl
  have h1 := minOf_mem hne
  obtain ⟨r, hr, e⟩ := List.mem_map.mp h1
  have hr' := (mem_ordN (0, 0) 8 (sortT xs) r hl).mp hr
  have e' : bestS m st xs = (waitS m st r, r) := e.symm
  refine ⟨by rw [e'], by rw [e']; exact hr'.trans (sortT_perm xs), fun q hq => ?_⟩
  exact min_fst (y := (waitS m st q, q)) (List.mem_map.mpr ⟨q, (mem_ordN (0, 0) 8 (sortT xs) q hl).mpr (hq.trans (sortT_perm xs).symm), rfl⟩)
end Mi
namespace Mi
open PySem PySem.Spec PyProof.Rows L2
open Da (toD)
/-- the waits from shelf h, moment n on -/
def waitG (m h n : Int) (xs : List Ask) : Int := ((xs.zip (timesT m h n xs)).map fun p => p.2 - p.1.1).sum
theorem waitG_nil (m h n : Int) : waitG m h n [] = 0 := rfl
theorem waitG_cons (m h n : Int) (a : Ask) (xs : List Ask) : waitG m h n (a :: xs) = (max n a.1 + far m h a.2 - a.1) + waitG m a.2 (max n a.1 + far m h a.2) xs := by
  unfold waitG
  simp [timesT]
theorem waitS_G (m st : Int) (xs : List Ask) : waitS m st xs = waitG m st 0 xs := rfl
theorem waitS_one (m st : Int) (a : Ask) (h : 0 ≤ a.1) : waitS m st [a] = far m st a.2 := by
  rw [waitS_G, waitG_cons, waitG_nil]
  have : max 0 a.1 = a.1 := by omega
  omega
theorem bestS_one (m st : Int) (a : Ask) (h : 0 ≤ a.1) : (bestS m st [a]).1 = far m st a.2 := by
  obtain ⟨h1, h2, h3⟩ := bestS_spec m st [a] (by simp)
  rw [h1, List.perm_singleton.mp h2, waitS_one m st a h]
/-- all ask at once -/
theorem waitG_mono (m : Int) : ∀ (xs : List Ask) (h h' n n' : Int), (∀ a ∈ xs, a.1 = 0) → 0 ≤ n → 0 ≤ n' → (∀ a ∈ xs, n + far m h a.2 ≤ n' + far m h' a.2) → waitG m h n xs ≤ waitG m h' n' xs
  | [], _, _, _, _, _, _, _, _ => by simp [waitG_nil]
  | a :: xs, h, h', n, n', h0, hn, hn', hd => by
    have e := h0 a List.mem_cons_self
    have d := hd a List.mem_cons_self
    have f1 := far_nonneg m h a.2
    have f2 := far_nonneg m h' a.2
    rw [waitG_cons, waitG_cons, e]
    have ih := waitG_mono m xs a.2 a.2 (max n 0 + far m h a.2) (max n' 0 + far m h' a.2) (fun b hb => h0 b (List.mem_cons_of_mem _ hb)) (by omega) (by omega) (fun b hb => by omega)
    omega
theorem waitG_drop (m : Int) (hm : 0 < m) (ok : ∀ x y z : Int, far m x z ≤ far m x y + far m y z) (x : Ask) : ∀ (r1 r2 : List Ask) (h n : Int), (∀ a ∈ r1 ++ x :: r2, a.1 = 0) → 0 ≤ n → waitG m h n (r1 ++ r2) ≤ waitG m h n (r1 ++ x :: r2)
  | [], r2, h, n, h0, hn => by
    have e := h0 x List.mem_cons_self
    have f1 := far_nonneg m h x.2
    rw [List.nil_append, List.nil_append, waitG_cons, e]
    have := waitG_mono m r2 h x.2 n (max n 0 + far m h x.2) (fun a ha => h0 a (List.mem_cons_of_mem _ ha)) hn (by omega) (fun a ha => by have := ok h x.2 a.2; omega)
    omega
  | a :: r1, r2, h, n, h0, hn => by
    have e := h0 a List.mem_cons_self
    have f1 := far_nonneg m h a.2
    rw [List.cons_append, List.cons_append, waitG_cons, waitG_cons]
    have := waitG_drop m hm ok x r1 r2 a.2 (max n a.1 + far m h a.2) (fun b hb => h0 b (List.mem_cons_of_mem _ hb)) (by omega)
    omega
theorem far_tri' (m : Int) (hm : 0 < m) (x y z : Int) : far m x z ≤ far m x y + far m y z := by
  have b : ∀ k : Int, 0 ≤ k % m ∧ k % m < m := fun k => ⟨Int.emod_nonneg _ (by omega), Int.emod_lt_of_pos _ hm⟩
  have e : ∀ p q : Int, far m p q = far m (p % m) (q % m) := fun p q => by
    have := far_shift m p q 0 hm
    simp at this
    exact this.symm
  rw [e x z, e x y, e y z]
  exact far_tri (b x) (b z) (b y)
theorem bestS_more (m st : Int) (hm : 0 < m) (xs : List Ask) (x : Ask) (h0 : ∀ a ∈ xs ++ [x], a.1 = 0) (hl : xs.length ≤ 6) : (bestS m st xs).1 ≤ (bestS m st (xs ++ [x])).1 := by
  obtain ⟨a1, a2, a3⟩ := bestS_spec m st (xs ++ [x]) (by simp; omega)
  obtain ⟨b1, b2, b3⟩ := bestS_spec m st xs (by omega)
  rw [a1]
  generalize (bestS m st (xs ++ [x])).2 = r at a2
  have hx : x ∈ r := a2.mem_iff.mpr (List.mem_append_right _ List.mem_cons_self)
  obtain ⟨r1, r2, rfl⟩ := List.append_of_mem hx
  have hp : (r1 ++ r2).Perm xs := by
    have h1 : (x :: (r1 ++ r2)).Perm (x :: xs) := (List.perm_middle.symm.trans a2).trans (List.perm_append_singleton x xs)
    exact h1.cons_inv
  refine Int.le_trans (b3 _ hp) ?_
  exact waitG_drop m hm (far_tri' m hm) x r1 r2 st 0 (fun a ha => h0 a (a2.mem_iff.mp ha)) (Int.le_refl _)
theorem bestS_start (m st : Int) (hm : 0 < m) (xs : List Ask) (h0 : ∀ a ∈ xs, a.1 = 0) (hl : xs.length ≤ 6) : (bestS m st (xs ++ [(0, st)])).1 = (bestS m st xs).1 := by
  have h1 := bestS_more m st hm xs (0, st) (fun a ha => by
    rcases List.mem_append.mp ha with h | h
    · exact h0 a h
    · rw [List.mem_singleton.mp h]) hl
  obtain ⟨b1, b2, b3⟩ := bestS_spec m st xs (by omega)
  obtain ⟨a1, a2, a3⟩ := bestS_spec m st (xs ++ [(0, st)]) (by simp; omega)
  have h2 := a3 ((0, st) :: (bestS m st xs).2) ((b2.cons _).trans (List.perm_append_singleton _ _).symm)
  rw [waitS_G, waitG_cons] at h2
  have e : max (0 : Int) 0 + far m st st = 0 := by rw [far_self m st hm]; rfl
  dsimp only at h2
  rw [e] at h2
  have e2 : waitG m st 0 (bestS m st xs).2 = (bestS m st xs).1 := b1.symm
  omega
theorem waits_nonneg (m : Int) : ∀ (xs : List Ask) (h n : Int), ∀ w ∈ (xs.zip (timesT m h n xs)).map (fun p => p.2 - p.1.1), 0 ≤ w
  | [], h, n, w, hw => by simp at hw
  | a :: xs, h, n, w, hw => by
    simp only [timesT, List.zip_cons_cons, List.map_cons, List.mem_cons] at hw
    rcases hw with rfl | hw
    · have := far_nonneg m h a.2; omega
    · exact waits_nonneg m xs _ _ w hw
theorem served_asks (m st : Int) (xs : List Ask) : (servedT m st xs).map Prod.fst = sortT xs := by
  unfold servedT
  exact List.map_fst_zip (by rw [times_len]; omega)
theorem served_len (m st : Int) (xs : List Ask) : (servedT m st xs).length = xs.length := by
  unfold servedT
  rw [List.length_zip, times_len, sortT_len]; omega
theorem served_sum (m st : Int) (xs : List Ask) : ((servedT m st xs).map fun p => p.2 - p.1.1).sum = waitS m st (sortT xs) := rfl
theorem minOf_ints {l : List Int} (h : l ≠ []) (hp : ∀ w ∈ l, 0 ≤ w) : 0 ≤ minOf l := hp _ (minOf_mem h)
end Mi
namespace Mi
open PySem PySem.Spec PyProof.Rows L2
open Da (toD)
/-! the round from the other side; all put off; one that comes late -/
def flipA (m : Int) (p : Ask) : Ask := (p.1, -p.2 % m)
theorem far_flip0 (m a b : Int) (hm : 0 < m) : far m (-a % m) (-b % m) = far m a b := by
  have := far_flip m a b 0 hm
  simpa using this
theorem times_flip (m : Int) (hm : 0 < m) : ∀ (xs : List Ask) (h n : Int), timesT m (-h % m) n (xs.map (flipA m)) = timesT m h n xs
  | [], h, n => rfl
  | a :: xs, h, n => by
    have e : far m (-h % m) (flipA m a).2 = far m h a.2 := far_flip0 m h a.2 hm
    have e1 : (flipA m a).1 = a.1 := rfl
    have e2 : (flipA m a).2 = -a.2 % m := rfl
    rw [List.map_cons, timesT, timesT, e, e1, e2, times_flip m hm xs]
theorem wait_flip (m st : Int) (hm : 0 < m) (xs : List Ask) : waitS m (-st % m) (xs.map (flipA m)) = waitS m st xs := by
  unfold waitS
  rw [times_flip m hm, List.zip_map_left, List.map_map]
  rfl
theorem flip_flip (m : Int) (p : Ask) (h : 0 ≤ p.2 ∧ p.2 < m) : flipA m (flipA m p) = p := by
  unfold flipA
  refine Prod.ext rfl ?_
  show -(-p.2 % m) % m = p.2
  rw [neg_emod h]
  by_cases e : p.2 = 0
  · rw [if_pos e, e]; simp
  · rw [if_neg e]
    exact emod_of (-1) (by omega) h.1 h.2
theorem neg_neg_mod {m a : Int} (h : 0 ≤ a ∧ a < m) : -(-a % m) % m = a := by
  rw [neg_emod h]
  by_cases e : a = 0
  · rw [if_pos e, e]; simp
  · rw [if_neg e]
    exact emod_of (-1) (by omega) h.1 h.2
theorem best_flip (m st : Int) (hm : 0 < m) (hs : 0 ≤ st ∧ st < m) (xs : List Ask) (hl : xs.length ≤ 7) (hx : ∀ p ∈ xs, 0 ≤ p.2 ∧ p.2 < m) : (bestS m (-st % m) (xs.map (flipA m))).1 = (bestS m st xs).1 := by
  have half : ∀ (st : Int) (ys : List Ask), ys.length ≤ 7 → (bestS m (-st % m) (ys.map (flipA m))).1 ≤ (bestS m st ys).1 := by
    intro st ys hy
    obtain ⟨a1, a2, a3⟩ := bestS_spec m st ys hy
    obtain ⟨b1, b2, b3⟩ := bestS_spec m (-st % m) (ys.map (flipA m)) (by simpa using hy)
    have := b3 ((bestS m st ys).2.map (flipA m)) (a2.map _)
    rw [wait_flip m st hm, ← a1] at this
    exact this
  have h1 := half st xs hl
  have h2 := half (-st % m) (xs.map (flipA m)) (by simpa using hl)
  have e : (xs.map (flipA m)).map (flipA m) = xs := by
    rw [List.map_map]
    conv => rhs; rw [← List.map_id xs]
    exact List.map_congr_left fun p hp => flip_flip m p (hx p hp)
  rw [e, neg_neg_mod hs] at h2
  omega
def lateA (b : Int) (p : Ask) : Ask := (p.1 + b, p.2)
theorem times_late (m b : Int) : ∀ (xs : List Ask) (h n : Int), timesT m h (n + b) (xs.map (lateA b)) = (timesT m h n xs).map (· + b)
  | [], h, n => rfl
  | a :: xs, h, n => by
    have e1 : (lateA b a).1 = a.1 + b := rfl
    have e2 : (lateA b a).2 = a.2 := rfl
    have e3 : max (n + b) (a.1 + b) + far m h a.2 = max n a.1 + far m h a.2 + b := by omega
    rw [List.map_cons, timesT, timesT, e1, e2, e3, times_late m b xs, List.map_cons]
theorem waitG_late (m b : Int) : ∀ (xs : List Ask) (h n : Int), waitG m h (n + b) (xs.map (lateA b)) = waitG m h n xs
  | [], h, n => rfl
  | a :: xs, h, n => by
    have e1 : (lateA b a).1 = a.1 + b := rfl
    have e2 : (lateA b a).2 = a.2 := rfl
    have e3 : max (n + b) (a.1 + b) + far m h a.2 = max n a.1 + far m h a.2 + b := by omega
    rw [List.map_cons, waitG_cons, waitG_cons, e1, e2, e3, waitG_late m b xs]
    omega
theorem wait_late (m st b : Int) (hb : 0 ≤ b) (xs : List Ask) (h0 : ∀ p ∈ xs, 0 ≤ p.1) : waitS m st (xs.map (lateA b)) = waitS m st xs := by
  cases xs with
  | nil => rfl
  | cons a xs =>
    have ha := h0 a List.mem_cons_self
    have e1 : (lateA b a).1 = a.1 + b := rfl
    have e2 : (lateA b a).2 = a.2 := rfl
    rw [waitS_G, waitS_G, List.map_cons, waitG_cons, waitG_cons, e1, e2]
    have e3 : max 0 (a.1 + b) + far m st a.2 = max 0 a.1 + far m st a.2 + b := by omega
    rw [e3, waitG_late]
    omega
theorem best_late (m st b : Int) (hb : 0 ≤ b) (xs : List Ask) (hl : xs.length ≤ 7) (h0 : ∀ p ∈ xs, 0 ≤ p.1) : (bestS m st (xs.map (lateA b))).1 = (bestS m st xs).1 := by
  obtain ⟨a1, a2, a3⟩ := bestS_spec m st xs hl
  obtain ⟨b1, b2, b3⟩ := bestS_spec m st (xs.map (lateA b)) (by simpa using hl)
  have h1 := b3 ((bestS m st xs).2.map (lateA b)) (a2.map _)
  rw [wait_late m st b hb _ (fun p hp => h0 p (a2.mem_iff.mp hp)), ← a1] at h1
  have e : ∀ ys : List Ask, (ys.map (lateA (-b))).map (lateA b) = ys := fun ys => by
    rw [List.map_map]
    conv => rhs; rw [← List.map_id ys]
    refine List.map_congr_left fun p _ => ?_
    refine Prod.ext ?_ rfl
    show p.1 + -b + b = p.1
    omega
  have e' : ∀ ys : List Ask, (ys.map (lateA b)).map (lateA (-b)) = ys := fun ys => by
    rw [List.map_map]
    conv => rhs; rw [← List.map_id ys]
    refine List.map_congr_left fun p _ => ?_
    refine Prod.ext ?_ rfl
    show p.1 + b + -b = p.1
    omega
  have hp : ((bestS m st (xs.map (lateA b))).2.map (lateA (-b))).Perm xs := by
    have := b2.map (lateA (-b))
    rw [e'] at this
    exact this
  have h2 := a3 _ hp
  have h3 := wait_late m st b hb ((bestS m st (xs.map (lateA b))).2.map (lateA (-b))) (fun p hp' => h0 p (hp.mem_iff.mp hp'))
  rw [e] at h3
  omega
/-- where the round is behind all -/
def endT (m : Int) : Int → Int → List Ask → Int × Int
  | h, n, [] => (h, n)
  | h, n, a :: xs => endT m a.2 (max n a.1 + far m h a.2) xs
theorem times_app (m : Int) : ∀ (xs ys : List Ask) (h n : Int), timesT m h n (xs ++ ys) = timesT m h n xs ++ timesT m (endT m h n xs).1 (endT m h n xs).2 ys
  | [], ys, h, n => rfl
  | a :: xs, ys, h, n => by rw [List.cons_append, timesT, timesT, times_app m xs ys]; rfl
theorem end_now (m : Int) (hm : 0 < m ∧ m ≤ 16) : ∀ (xs : List Ask) (h n k : Int), 0 ≤ k → (∀ p ∈ xs, p.1 ≤ 100) → n ≤ 100 + 8 * k → (endT m h n xs).2 ≤ 100 + 8 * (k + xs.length)
  | [], h, n, k, _, _, hn => by simpa [endT] using hn
  | a :: xs, h, n, k, hk, hx, hn => by
    have h1 := hx a List.mem_cons_self
    have h2 := far_le m h a.2 hm.1
    have := end_now m hm xs a.2 (max n a.1 + far m h a.2) (k + 1) (by omega) (fun p hp => hx p (List.mem_cons_of_mem _ hp)) (by omega)
    show (endT m a.2 (max n a.1 + far m h a.2) xs).2 ≤ _
    rw [List.length_cons]
    omega
theorem end_shelf (m : Int) : ∀ (xs : List Ask) (h n : Int), (endT m h n xs).1 = match xs.getLast? with | none => h | some p => p.2
  | [], h, n => rfl
  | [a], h, n => rfl
  | a :: b :: xs, h, n => by
    have := end_shelf m (b :: xs) a.2 (max n a.1 + far m h a.2)
    rw [List.getLast?_cons_cons]
    show (endT m a.2 (max n a.1 + far m h a.2) (b :: xs)).1 = _
    rw [this]
    cases q : (b :: xs).getLast? with
    | none => simp at q
    | some p => rfl
theorem sort_late (xs : List Ask) (x : Ask) (h : ∀ p ∈ xs, p.1 < x.1) : sortT (xs ++ [x]) = sortT xs ++ [x] := by
  refine sorted_unique ((sortT_perm _).trans ((sortT_perm xs).symm.append_right [x])) (sortT_sorted _) ?_
  rw [List.pairwise_append]
  refine ⟨sortT_sorted xs, List.pairwise_singleton _ _, fun a ha b hb => ?_⟩
  rw [List.mem_singleton.mp hb]
  have h1 := h a (sortT_mem.mp ha)
  show (if x.1 = a.1 then Dl.lt x.2 a.2 else Dl.lt x.1 a.1) = false
  rw [if_neg (by omega)]
  show decide (x.1 < a.1) = false
  simp; omega
theorem served_late (m st : Int) (hm : 0 < m ∧ m ≤ 16) (xs : List Ask) (x : Ask) (hl : xs.length ≤ 6) (h : ∀ p ∈ xs, p.1 ≤ 100) (hx : 500 ≤ x.1) : servedT m st (xs ++ [x]) = servedT m st xs ++ [(x, x.1 + far m (endT m st 0 (sortT xs)).1 x.2)] := by
  have hn := end_now m hm (sortT xs) st 0 0 (by omega) (fun p hp => h p (sortT_mem.mp hp)) (by omega)
  have hsl := sortT_len xs
  unfold servedT
  rw [sort_late xs x (fun p hp => by have := h p hp; omega), times_app, List.zip_append (by rw [times_len])]
  congr 1
  have e : max (endT m st 0 (sortT xs)).2 x.1 = x.1 := by omega
  simp [timesT, e]
theorem atI_last {α : Type} (xs : List α) (x : α) : atI (xs ++ [x]) (-1) = some x := by
  unfold atI ixN
  rw [if_neg (by omega), if_pos (by simp; omega)]
  have e : ((-1 : Int) + ((xs ++ [x]).length : Int)).toNat = xs.length := by simp; omega
  show (xs ++ [x])[((-1 : Int) + ((xs ++ [x]).length : Int)).toNat]? = some x
  rw [e, get_last]
theorem cut_last {α : Type} (xs : List α) (x : α) : cutD (xs ++ [x]) none (some (-1)) = xs := by
  unfold cutD
  have e : HT.sIx (xs ++ [x]).length (xs ++ [x]).length (some (-1)) = xs.length := by
    unfold HT.sIx
    dsimp only
    rw [if_pos (by omega)]
    simp; omega
  rw [HT.sIx_none, e, List.drop_zero, Nat.sub_zero, List.take_left']
  rfl
end Mi
namespace Mi
open PySem PySem.Spec PyProof.Rows L2
open Da (toD)
/-! the rearrangement inequality -/
def dot : List Int → List Int → Int
  | w :: ws, x :: xs => w * x + dot ws xs
  | _, _ => 0
theorem dot_ex (w a b : Int) (hab : b ≤ a) (v2 : List Int) : ∀ (W v1 : List Int), (∀ z ∈ W, w ≤ z) → v1.length < W.length → w * (a - b) ≤ dot W (v1 ++ a :: v2) - dot W (v1 ++ b :: v2)
  | [], v1, _, h => by simp at h
  | z :: W, [], hw, _ => by
    have h1 := hw z List.mem_cons_self
    have h2 : w * (a - b) ≤ z * (a - b) := Int.mul_le_mul_of_nonneg_right h1 (by omega)
    have e : z * (a - b) = z * a - z * b := Int.mul_sub z a b
    simp only [List.nil_append, dot]
    omega
  | z :: W, c :: v1, hw, hl => by
    have := dot_ex w a b hab v2 W v1 (fun y hy => hw y (List.mem_cons_of_mem _ hy)) (by simpa using hl)
    simp only [List.cons_append, dot]
    omega
theorem rearr : ∀ (s W u : List Int), W.Pairwise (· ≤ ·) → s.Pairwise (· ≥ ·) → u.Perm s → W.length = s.length → dot W s ≤ dot W u
  | [], W, u, _, _, hp, hl => by
    have : W = [] := List.length_eq_zero_iff.mp hl
    subst this
    simp [dot]
  | a :: s, [], u, _, _, _, hl => by simp at hl
  | a :: s, w :: W, u, hW, hs, hp, hl => by
    obtain ⟨w1, w2⟩ := List.pairwise_cons.mp hW
    obtain ⟨s1, s2⟩ := List.pairwise_cons.mp hs
    have hl' : W.length = s.length := by simpa using hl
    cases u with
    | nil => have := hp.length_eq; simp at this
    | cons b v =>
      by_cases hab : b = a
      · subst hab
        have ih := rearr s W v w2 s2 hp.cons_inv hl'
        simp only [dot]; omega
      · have ha : a ∈ v := by
          have : a ∈ b :: v := hp.mem_iff.mpr List.mem_cons_self
          rcases List.mem_cons.mp this with z | z
          · exact absurd z.symm hab
          · exact z
        obtain ⟨v1, v2, rfl⟩ := List.append_of_mem ha
        have hb : b ∈ s := by
          have : b ∈ a :: s := hp.mem_iff.mp List.mem_cons_self
          rcases List.mem_cons.mp this with z | z
          · exact absurd z hab
          · exact z
        have hp2 : (v1 ++ b :: v2).Perm s := by
          have h1 : (b :: (v1 ++ a :: v2)).Perm (a :: (v1 ++ b :: v2)) := by
            have x1 : (b :: (v1 ++ a :: v2)).Perm (b :: a :: (v1 ++ v2)) := List.Perm.cons b List.perm_middle
            have x2 : (a :: (v1 ++ b :: v2)).Perm (a :: b :: (v1 ++ v2)) := List.Perm.cons a List.perm_middle
            exact x1.trans ((List.Perm.swap a b _).trans x2.symm)
          exact (h1.symm.trans hp).cons_inv
        have ih := rearr s W (v1 ++ b :: v2) w2 s2 hp2 hl'
        have hle : b ≤ a := s1 b hb
        have hlen : v1.length < W.length := by
          have := hp2.length_eq
          rw [List.length_append, List.length_cons] at this
          omega
        have ex := dot_ex w a b hle v2 W v1 w1 hlen
        have e : w * (a - b) = w * a - w * b := Int.mul_sub w a b
        simp only [dot]
        omega
/-! the places in the order of their distance -/
def blk (m r : Nat) : List Nat := if r + 1 = m - (r + 1) then [r + 1] else [m - (r + 1), r + 1]
def piL (m : Nat) : List Nat := 0 :: (List.range (m / 2)).flatMap (blk m)
theorem piL_perm : ∀ m, m < 17 → 1 ≤ m → (piL m).Perm (List.range m) := by decide +kernel
def bw : Int := 1000
/-- the weight of a place: the cost above all, then the tuple itself -/
def Wt (m i : Nat) : Int := 2 * far m 0 i * bw ^ m + bw ^ (m - 1 - i)
theorem Wt_rises : ∀ m, m < 17 → 3 ≤ m → ((piL m).map (Wt m)).Pairwise (· ≤ ·) := by decide +kernel
theorem dot_map (f g : Nat → Int) : ∀ is : List Nat, dot (is.map f) (is.map g) = (is.map fun i => f i * g i).sum
  | [] => rfl
  | i :: is => by rw [List.map_cons, List.map_cons, dot, dot_map f g is, List.map_cons, List.sum_cons]
def keyT (t : List Int) : Int := sumN t.length fun i => Wt t.length i * nth t i
theorem map_nth (t : List Int) : (List.range t.length).map (nth t) = t := by
  refine List.ext_getElem (by simp) fun i h1 h2 => ?_
  simp [nth, List.getD_eq_getElem?_getD, List.getElem?_eq_getElem h2]
theorem keyT_dot (t : List Int) (h : 3 ≤ t.length ∧ t.length ≤ 16) : keyT t = dot ((piL t.length).map (Wt t.length)) ((piL t.length).map (nth t)) := by
  rw [dot_map]
  unfold keyT sumN
  exact (sum_perm ((piL_perm t.length (by omega) (by omega)).map _)).symm
theorem pi_nth_perm (t : List Int) (h : 3 ≤ t.length ∧ t.length ≤ 16) : ((piL t.length).map (nth t)).Perm t := by
  have := (piL_perm t.length (by omega) (by omega)).map (nth t)
  rw [map_nth] at this
  exact this
theorem key_least {t b : List Int} (h : 3 ≤ t.length ∧ t.length ≤ 16) (hl : b.length = t.length) (hs : ((piL b.length).map (nth b)).Pairwise (· ≥ ·)) (hp : t.Perm b) : keyT b ≤ keyT t := by
  rw [keyT_dot t h, keyT_dot b (by omega)]
  rw [hl] at hs ⊢
  refine rearr _ _ _ (Wt_rises t.length (by omega) (by omega)) hs ?_ (by simp)
  have h1 := pi_nth_perm t h
  have h2 := pi_nth_perm b (by omega)
  rw [hl] at h2
  exact h1.trans (hp.trans h2.symm)
/-! the key tells cost and tuple -/
theorem sumN_succ (n : Nat) (f : Nat → Int) : sumN (n + 1) f = f 0 + sumN n fun i => f (i + 1) := by
  unfold sumN
  rw [List.range_succ_eq_map, List.map_cons, List.sum_cons, List.map_map]
  rfl
theorem sumN_add (n : Nat) (f g : Nat → Int) : sumN n (fun i => f i + g i) = sumN n f + sumN n g := by
  unfold sumN
  induction List.range n with
  | nil => rfl
  | cons i is ih => simp only [List.map_cons, List.sum_cons, ih]; omega
def encT (t : List Int) : Int := sumN t.length fun i => bw ^ (t.length - 1 - i) * nth t i
theorem encT_cons (x : Int) (t : List Int) : encT (x :: t) = bw ^ t.length * x + encT t := by
  unfold encT
  rw [List.length_cons, sumN_succ]
  congr 1
  refine sumN_congr fun i hi => ?_
  have e : t.length + 1 - 1 - (i + 1) = t.length - 1 - i := by omega
  rw [e]
  rfl
theorem encT_range : ∀ t : List Int, (∀ x ∈ t, 0 ≤ x ∧ x ≤ 999) → 0 ≤ encT t ∧ encT t < bw ^ t.length
  | [], _ => ⟨Int.le_refl _, by decide⟩
  | x :: t, h => by
    obtain ⟨h1, h2⟩ := encT_range t fun y hy => h y (List.mem_cons_of_mem _ hy)
    obtain ⟨x1, x2⟩ := h x List.mem_cons_self
    rw [encT_cons, List.length_cons, Int.pow_succ]
    have p : 0 < bw ^ t.length := by omega
    have q1 : 0 ≤ bw ^ t.length * x := Int.mul_nonneg (by omega) x1
    have q2 : bw ^ t.length * x ≤ bw ^ t.length * 999 := Int.mul_le_mul_of_nonneg_left x2 (by omega)
    have e : bw ^ t.length * bw = bw ^ t.length * 999 + bw ^ t.length := by unfold bw; omega
    omega
theorem encT_lex : ∀ (s t : List Int), s.length = t.length → (∀ x ∈ s, 0 ≤ x ∧ x ≤ 999) → (∀ x ∈ t, 0 ≤ x ∧ x ≤ 999) → lexL s t = true → encT s < encT t
  | [], [], _, _, _, h => by cases h
  | [], _ :: _, hl, _, _, _ => by simp at hl
  | _ :: _, [], hl, _, _, _ => by simp at hl
  | x :: s, y :: t, hl, hs, ht, h => by
    have hl' : s.length = t.length := by simpa using hl
    have s' : ∀ z ∈ s, 0 ≤ z ∧ z ≤ 999 := fun z hz => hs z (List.mem_cons_of_mem _ hz)
    have t' : ∀ z ∈ t, 0 ≤ z ∧ z ≤ 999 := fun z hz => ht z (List.mem_cons_of_mem _ hz)
    rw [encT_cons, encT_cons, hl']
    unfold lexL at h
    by_cases e : x = y
    · rw [if_pos e] at h
      have := encT_lex s t hl' s' t' h
      rw [e]; omega
    · rw [if_neg e] at h
      have hxy : x < y := of_decide_eq_true h
      have r1 := encT_range s s'
      have r2 := encT_range t t'
      rw [hl'] at r1
      have p : 0 < bw ^ t.length := by omega
      have q : bw ^ t.length * (x + 1) ≤ bw ^ t.length * y := Int.mul_le_mul_of_nonneg_left (by omega) (by omega)
      have e2 : bw ^ t.length * (x + 1) = bw ^ t.length * x + bw ^ t.length := by rw [Int.mul_add, Int.mul_one]
      omega
theorem keyT_eq (t : List Int) : keyT t = bw ^ t.length * costT t + encT t := by
  unfold keyT costT encT
  rw [← sumN_mul, ← sumN_add]
  refine sumN_congr fun i _ => ?_
  unfold Wt
  rw [Int.add_mul]
  congr 1
  rw [Int.mul_comm (2 * far _ 0 _) (bw ^ _), Int.mul_assoc]
/-- what has the least key has the least (cost, tuple) -/
theorem key_lex {s t : List Int} (hl : s.length = t.length) (hs : ∀ x ∈ s, 0 ≤ x ∧ x ≤ 999) (ht : ∀ x ∈ t, 0 ≤ x ∧ x ≤ 999) (h : Dl.lt ((costT s, (⟨s⟩ : Tu Int)) : Int × Tu Int) (costT t, ⟨t⟩) = true) : keyT s < keyT t := by
  rw [keyT_eq, keyT_eq, hl]
  have r1 := encT_range s hs
  have r2 := encT_range t ht
  rw [hl] at r1
  have h' : (if costT s = costT t then lexL s t else decide (costT s < costT t)) = true := h
  by_cases e : costT s = costT t
  · rw [if_pos e] at h'
    have := encT_lex s t hl hs ht h'
    rw [e]; omega
  · rw [if_neg e] at h'
    have hc : costT s < costT t := of_decide_eq_true h'
    have p : 0 < bw ^ t.length := by omega
    have q : bw ^ t.length * (costT s + 1) ≤ bw ^ t.length * costT t := Int.mul_le_mul_of_nonneg_left (by omega) (by omega)
    have e2 : bw ^ t.length * (costT s + 1) = bw ^ t.length * costT s + bw ^ t.length := by rw [Int.mul_add, Int.mul_one]
    omega
/-! laying -/
def setAll : List Nat → List Int → List Int → List Int
  | i :: is, v :: vs, acc => setAll is vs (acc.set i v)
  | _, _, acc => acc
theorem setAll_len : ∀ (is : List Nat) (vs acc : List Int), (setAll is vs acc).length = acc.length
  | [], _, _ => by unfold setAll; rfl
  | _ :: _, [], _ => by unfold setAll; rfl
  | i :: is, v :: vs, acc => by unfold setAll; rw [setAll_len is vs, List.length_set]
theorem setAll_not : ∀ (is : List Nat) (vs acc : List Int) (j : Nat), j ∉ is → nth (setAll is vs acc) j = nth acc j
  | [], _, _, _, _ => by unfold setAll; rfl
  | _ :: _, [], _, _, _ => by unfold setAll; rfl
  | i :: is, v :: vs, acc, j, h => by
    unfold setAll
    rw [setAll_not is vs _ j fun z => h (List.mem_cons_of_mem _ z)]
    unfold nth
    rw [List.getD_eq_getElem?_getD, List.getD_eq_getElem?_getD, List.getElem?_set_ne fun e => h (by simp [e])]
theorem setAll_map : ∀ (is : List Nat) (vs acc : List Int), is.Nodup → is.length = vs.length → (∀ i ∈ is, i < acc.length) → is.map (nth (setAll is vs acc)) = vs
  | [], [], _, _, _, _ => rfl
  | [], _ :: _, _, _, h, _ => by simp at h
  | _ :: _, [], _, _, h, _ => by simp at h
  | i :: is, v :: vs, acc, nd, hl, hi => by
    obtain ⟨n1, n2⟩ := List.nodup_cons.mp nd
    have ih := setAll_map is vs (acc.set i v) n2 (by simpa using hl) fun j hj => by rw [List.length_set]; exact hi j (List.mem_cons_of_mem _ hj)
    rw [List.map_cons]
    unfold setAll
    rw [ih, setAll_not is vs _ i n1]
    congr 1
    unfold nth
    rw [List.getD_eq_getElem?_getD, List.getElem?_set_self (hi i List.mem_cons_self)]
    rfl
theorem setAll_app : ∀ (is js : List Nat) (vs acc : List Int), is.length ≤ vs.length → setAll (is ++ js) vs acc = setAll js (vs.drop is.length) (setAll is vs acc)
  | [], js, vs, acc, _ => by simp [setAll]
  | i :: is, js, [], acc, h => by simp at h
  | i :: is, js, v :: vs, acc, h => by
    rw [List.cons_append, setAll, setAll_app is js vs _ (by simpa using h), List.length_cons, List.drop_succ_cons, setAll]
def downT (xs : List Int) : List Int := (sortT xs).reverse
def laidT (xs : List Int) : List Int := setAll (piL xs.length) (downT xs) (List.replicate xs.length 0)
theorem downT_len (xs : List Int) : (downT xs).length = xs.length := by unfold downT; rw [List.length_reverse, sortT_len]
theorem laidT_len (xs : List Int) : (laidT xs).length = xs.length := by unfold laidT; rw [setAll_len, List.length_replicate]
theorem downT_sorted (xs : List Int) : (downT xs).Pairwise (· ≥ ·) := by
  unfold downT
  rw [List.pairwise_reverse]
  refine (sortT_sorted xs).imp fun {a b} h => ?_
  have : decide (b < a) = false := h
  simp at this
  exact this
theorem laidT_pi (xs : List Int) (h : 3 ≤ xs.length ∧ xs.length ≤ 16) : (piL (laidT xs).length).map (nth (laidT xs)) = downT xs := by
  rw [laidT_len]
  have hp := piL_perm xs.length (by omega) (by omega)
  refine setAll_map _ _ _ (hp.nodup_iff.mpr List.nodup_range) (by rw [hp.length_eq, List.length_range, downT_len]) fun i hi => ?_
  rw [List.length_replicate]
  exact List.mem_range.mp (hp.mem_iff.mp hi)
theorem laidT_perm (xs : List Int) (h : 3 ≤ xs.length ∧ xs.length ≤ 16) : (laidT xs).Perm xs := by
  have h1 := pi_nth_perm (laidT xs) (by rw [laidT_len]; exact h)
  rw [laidT_pi xs h] at h1
  exact h1.symm.trans ((List.reverse_perm _).trans (sortT_perm xs))
theorem laidT_eq {xs ys : List Int} (h : xs.Perm ys) : laidT xs = laidT ys := by
  unfold laidT downT
  rw [sortT_eq h, h.length_eq]
theorem laidT_best (xs t : List Int) (h : 3 ≤ xs.length ∧ xs.length ≤ 16) (hx : ∀ x ∈ xs, 0 ≤ x ∧ x ≤ 999) (hp : t.Perm xs) : Dl.lt ((costT t, (⟨t⟩ : Tu Int)) : Int × Tu Int) (costT (laidT xs), ⟨laidT xs⟩) = false := by
  have hb := laidT_perm xs h
  have hl : (laidT xs).length = t.length := by rw [laidT_len, hp.length_eq]
  have k := key_least (t := t) (b := laidT xs) (by rw [hp.length_eq]; exact h) hl (by rw [laidT_pi xs h]; exact downT_sorted xs) (hp.trans hb.symm)
  cases q : Dl.lt ((costT t, (⟨t⟩ : Tu Int)) : Int × Tu Int) (costT (laidT xs), ⟨laidT xs⟩) with
  | false => rfl
  | true =>
    have := key_lex hl.symm (fun x m => hx x (hp.mem_iff.mp m)) (fun x m => hx x (hb.mem_iff.mp m)) q
    omega
theorem laidT_cost (xs t : List Int) (h : 3 ≤ xs.length ∧ xs.length ≤ 16) (hx : ∀ x ∈ xs, 0 ≤ x ∧ x ≤ 999) (hp : t.Perm xs) : costT (laidT xs) ≤ costT t := by
  have k := laidT_best xs t h hx hp
  have k' : (if costT t = costT (laidT xs) then lexL t (laidT xs) else decide (costT t < costT (laidT xs))) = false := k
  by_cases e : costT t = costT (laidT xs)
  · omega
  · rw [if_neg e] at k'
    simp at k'
    omega
theorem set_map_int (xs : List Int) (i : Nat) (v : Int) : (xs.map D.int).set i (.int v) = (xs.set i v).map D.int := by rw [List.map_set]
theorem kPop0_int (v : Int) (vs : List Int) : kPop0 ((v :: vs).map D.int) [.int 0] = some (vs.map D.int, .int v) := by rw [List.map_cons, kPop_cons]
theorem kPop0_drop (s : List Int) (i : Nat) (h : i < s.length) : kPop0 ((s.drop i).map D.int) [.int 0] = some ((s.drop (i + 1)).map D.int, .int (nth s i)) := by
  have e : s.drop i = nth s i :: s.drop (i + 1) := by
    rw [List.drop_eq_getElem_cons h]
    congr 1
    simp [nth, List.getD_eq_getElem?_getD, List.getElem?_eq_getElem h]
  rw [e, kPop0_int]
theorem setAll_snoc (is : List Nat) (j : Nat) (vs acc : List Int) (h : is.length < vs.length) : setAll (is ++ [j]) vs acc = (setAll is vs acc).set j (nth vs is.length) := by
  rw [setAll_app is [j] vs acc (by omega), List.drop_eq_getElem_cons h]
  have e : nth vs is.length = vs[is.length] := by simp [nth, List.getD_eq_getElem?_getD, List.getElem?_eq_getElem h]
  rw [e]
  simp [setAll]
theorem ltD_da {α : Type} [Dl α] (hd : Da.dep α ≤ 60) (a b : α) : oLtD (toD a) (toD b) = M.ret (.bl (Dl.lt a b)) := by
  unfold oLtD
  rw [Da.ok, Da.ok]
  dsimp only
  have hn : oLtD.isNonP (Da.py a) = false := by
    have := Dl.nn a
    cases q : Da.py a with
    | none => exact absurd q this
    | _ => rfl
  rw [if_pos ⟨Dl.alk a b, hn, Nat.le_trans (Da.le a) hd⟩, Dl.ltok]
/-- so many draws -/
def drawN (ns : List Int) (off : Nat) (top : Int) (n : Nat) : List Int := (List.range n).map fun (k : Nat) => pick ns ((off : Int) + (k : Int)) top
theorem drawN_len (ns : List Int) (off : Nat) (top : Int) (n : Nat) : (drawN ns off top n).length = n := by unfold drawN; simp
theorem drawN_in (ns : List Int) (off : Nat) {top : Int} (h : 0 < top) (n : Nat) : ∀ x ∈ drawN ns off top n, 0 ≤ x ∧ x < top := fun x hx => by
  unfold drawN at hx
  obtain ⟨k, _, rfl⟩ := List.mem_map.mp hx
  exact ⟨pick_lo _ _ h, pick_hi _ _ h⟩
theorem insO_fold_le {α : Type} [DecidableEq α] (N : Nat) : ∀ (xs : List α) (rows : List (List α)) (k : Nat), (∀ r ∈ rows, r.length = k) → k + xs.length ≤ N → (xs.foldl stepO rows).length ≤ rows.length * N ^ xs.length
  | [], rows, k, _, _ => by simp
  | x :: xs, rows, k, hr, hk => by
    obtain ⟨h1, h2⟩ := len_stepO rows x k hr
    have ih := insO_fold_le N xs (stepO rows x) (k + 1) h2 (by simp at hk; omega)
    rw [List.foldl_cons, List.length_cons, Nat.pow_succ]
    refine Nat.le_trans ih ?_
    rw [h1, Nat.mul_assoc, Nat.mul_comm (N ^ xs.length) N]
    exact Nat.mul_le_mul_left _ (Nat.mul_le_mul_right _ (by simp at hk; omega))
theorem insO_le {α : Type} [DecidableEq α] (xs : List α) (h : xs.length ≤ 7) : (insO xs).length ≤ 1000000 := by
  have := insO_fold_le 7 xs [[]] 0 (by simp) (by omega)
  refine Nat.le_trans this ?_
  rw [List.length_singleton, Nat.one_mul]
  exact Nat.le_trans (Nat.pow_le_pow_right (by decide) h) (by decide)
end Mi
namespace Mi
open PySem PySem.Spec PyProof.Rows L2
open Da (toD)
/-! going from shelf to shelf -/
def alongT (m : Int) : Int → List Int → Int
  | _, [] => 0
  | h, x :: xs => far m h x + alongT m x xs
def lastO (h : Int) : List Int → Int
  | [] => h
  | x :: xs => lastO x xs
theorem lastO_app (h : Int) : ∀ (xs ys : List Int), lastO h (xs ++ ys) = lastO (lastO h xs) ys := by
  intro xs
  induction xs generalizing h with
  | nil => intro ys; rfl
  | cons x xs ih => intro ys; exact ih x ys
theorem along_app (m : Int) : ∀ (xs ys : List Int) (h : Int), alongT m h (xs ++ ys) = alongT m h xs + alongT m (lastO h xs) ys
  | [], ys, h => by simp [alongT, lastO]
  | x :: xs, ys, h => by rw [List.cons_append, alongT, alongT, along_app m xs ys x, lastO]; omega
theorem along_nonneg (m : Int) : ∀ (xs : List Int) (h : Int), 0 ≤ alongT m h xs
  | [], _ => Int.le_refl _
  | x :: xs, h => by have := along_nonneg m xs x; have := far_nonneg m h x; rw [alongT]; omega
/-- a way of d steps is no shorter -/
theorem far_le_abs {m a b d : Int} (hm : 0 < m) (h : (b - a) % m = d % m) : far m a b ≤ d ∨ far m a b ≤ -d := by
  unfold far stepsTo
  rw [h]
  have h1 := Int.emod_nonneg d (show m ≠ 0 by omega)
  have h2 := Int.emod_lt_of_pos d hm
  have h3 : d = m * (d / m) + d % m := (Int.mul_ediv_add_emod d m).symm
  generalize hr : d % m = r at *
  generalize hq : d / m = q at *
  rcases Int.lt_or_le q 0 with hq0 | hq0
  · right
    have h4 : m * q ≤ m * (-1) := Int.mul_le_mul_of_nonneg_left (by omega) (by omega)
    have h5 : -d ≥ m - r := by omega
    split <;> split <;> omega
  · left
    have h4 : 0 ≤ m * q := Int.mul_nonneg (by omega) hq0
    split <;> split <;> omega
theorem far_le_pos {m a b d : Int} (hm : 0 < m) (hd : 0 ≤ d) (h : (b - a) % m = d % m) : far m a b ≤ d := by
  have h0 := far_nonneg m a b
  rcases far_le_abs hm h with z | z <;> omega
theorem far_sym' (m a b : Int) (hm : 0 < m) : far m a b = far m b a := by
  rw [far_mod m a b hm, far_mod m b a hm]
  split <;> split <;> omega
theorem far_step (m a b : Int) : far m a b = stepsTo m a b ∨ far m a b = -stepsTo m a b := by
  unfold far
  split
  · exact .inr rfl
  · exact .inl rfl
theorem add_mod_mod (m a b : Int) : (a % m + b) % m = (a + b) % m := by rw [Int.emod_add_emod]
theorem sub_mod_mod (m a b c : Int) : ((c + b) % m - (c + a) % m) % m = (b - a) % m := by
  rw [← Int.sub_emod]
  congr 1
  omega
/-- the place of a shelf from the start, and the shelf at a place -/
def plc (m st x : Int) : Int := (x - st) % m
def shf (m st p : Int) : Int := (st + p) % m
theorem plc_in {m : Int} (hm : 0 < m) (st x : Int) : 0 ≤ plc m st x ∧ plc m st x < m := ⟨Int.emod_nonneg _ (by omega), Int.emod_lt_of_pos _ hm⟩
theorem shf_in {m : Int} (hm : 0 < m) (st x : Int) : 0 ≤ shf m st x ∧ shf m st x < m := ⟨Int.emod_nonneg _ (by omega), Int.emod_lt_of_pos _ hm⟩
theorem shf_plc {m st x : Int} (hx : 0 ≤ x ∧ x < m) : shf m st (plc m st x) = x := by
  unfold shf plc
  rw [Int.add_emod_emod, show st + (x - st) = x by omega]
  exact Int.emod_eq_of_lt hx.1 hx.2
theorem plc_shf {m st p : Int} (hp : 0 ≤ p ∧ p < m) : plc m st (shf m st p) = p := by
  unfold shf plc
  rw [Int.emod_sub_emod, show st + p - st = p by omega]
  exact Int.emod_eq_of_lt hp.1 hp.2
theorem shf_zero {m st : Int} (hs : 0 ≤ st ∧ st < m) : shf m st 0 = st := by unfold shf; rw [Int.add_zero]; exact Int.emod_eq_of_lt hs.1 hs.2
theorem far_shf {m : Int} (hm : 0 < m) (st p q : Int) : far m (shf m st p) (shf m st q) ≤ q - p ∨ far m (shf m st p) (shf m st q) ≤ p - q := by
  have := far_le_abs (m := m) (a := shf m st p) (b := shf m st q) (d := q - p) hm (sub_mod_mod m p q st)
  rcases this with h | h
  · exact .inl h
  · exact .inr (by omega)
theorem far_shf_up {m : Int} (hm : 0 < m) (st : Int) {p q : Int} (h : p ≤ q) : far m (shf m st p) (shf m st q) ≤ q - p := by
  have h0 := far_nonneg m (shf m st p) (shf m st q)
  rcases far_shf hm st p q with z | z <;> omega
theorem far_shf_down {m : Int} (hm : 0 < m) (st : Int) {p q : Int} (h : q ≤ p) : far m (shf m st p) (shf m st q) ≤ p - q := by
  have h0 := far_nonneg m (shf m st p) (shf m st q)
  rcases far_shf hm st p q with z | z <;> omega
/-- any way: what it covers, and how long it is at least -/
theorem along_cover {m : Int} (hm : 0 < m) (st : Int) : ∀ (ys : List Int) (p A B c : Int), (∀ y ∈ ys, 0 ≤ y ∧ y < m) → 0 ≤ A → 0 ≤ B → -B ≤ p → p ≤ A → 2 * A + 2 * B - p ≤ c ∨ 2 * A + 2 * B + p ≤ c →
    ∃ A' B', A ≤ A' ∧ B ≤ B' ∧ (2 * A' + B' ≤ c + alongT m (shf m st p) ys ∨ A' + 2 * B' ≤ c + alongT m (shf m st p) ys) ∧ ∀ y ∈ ys, ∃ q, -B' ≤ q ∧ q ≤ A' ∧ shf m st q = y
  | [], p, A, B, c, _, hA, hB, h1, h2, hc => ⟨A, B, Int.le_refl _, Int.le_refl _, by rw [alongT]; omega, fun y hy => nomatch hy⟩
  | y :: ys, p, A, B, c, hy, hA, hB, h1, h2, hc => by
    have hy0 := hy y List.mem_cons_self
    -- the steps to y
    obtain ⟨s, hs1, hs2⟩ : ∃ s, shf m st (p + s) = y ∧ (far m (shf m st p) y = s ∨ far m (shf m st p) y = -s) := by
      refine ⟨stepsTo m (shf m st p) y, ?_, far_step m _ y⟩
      have e : (stepsTo m (shf m st p) y) % m = (y - shf m st p) % m := by
        unfold stepsTo
        split
        · rw [Int.emod_emod]
        · rw [Int.sub_emod_right, Int.emod_emod]
      unfold shf at e ⊢
      rw [show st + (p + stepsTo m ((st + p) % m) y) = st + p + stepsTo m ((st + p) % m) y by omega, ← Int.add_emod_emod, e, Int.add_emod_emod, ← Int.emod_add_emod]
      rw [show (st + p) % m + (y - (st + p) % m) = y by omega]
      exact Int.emod_eq_of_lt hy0.1 hy0.2
    have hf := far_nonneg m (shf m st p) y
    have hy' : ∀ z ∈ ys, 0 ≤ z ∧ z < m := fun z hz => hy z (List.mem_cons_of_mem _ hz)
    obtain ⟨A', B', a1, a2, a3, a4⟩ := along_cover hm st ys (p + s) (max A (p + s)) (max B (-(p + s))) (c + far m (shf m st p) y) hy' (by omega) (by omega) (by omega) (by omega) (by omega)
    refine ⟨A', B', by omega, by omega, ?_, fun z hz => ?_⟩
    · rw [hs1] at a3
      rw [alongT]
      omega
    · rcases List.mem_cons.mp hz with rfl | hz
      · exact ⟨p + s, by omega, by omega, hs1⟩
      · exact a4 z hz
/-! the orders that go one way, and then the other -/
/-- up from p over rising places -/
theorem along_up {m : Int} (hm : 0 < m) (st : Int) : ∀ (ps : List Int) (p t : Int), p ≤ t → (∀ q ∈ ps, q ≤ t) → (p :: ps).Pairwise (· < ·) → alongT m (shf m st p) (ps.map (shf m st)) + (t - lastO p ps) ≤ t - p
  | [], p, t, _, _, _ => by simp [alongT, lastO]
  | q :: ps, p, t, h1, h2, h3 => by
    obtain ⟨h4, h5⟩ := List.pairwise_cons.mp h3
    have hq := h4 q List.mem_cons_self
    have := along_up hm st ps q t (h2 q List.mem_cons_self) (fun z hz => h2 z (List.mem_cons_of_mem _ hz)) h5
    have hf := far_shf_up hm st (show p ≤ q by omega)
    rw [List.map_cons, alongT, lastO]
    omega
/-- down from p over falling places -/
theorem along_down {m : Int} (hm : 0 < m) (st : Int) : ∀ (ps : List Int) (p t : Int), t ≤ p → (∀ q ∈ ps, t ≤ q) → (p :: ps).Pairwise (· > ·) → alongT m (shf m st p) (ps.map (shf m st)) + (lastO p ps - t) ≤ p - t
  | [], p, t, _, _, _ => by simp [alongT, lastO]
  | q :: ps, p, t, h1, h2, h3 => by
    obtain ⟨h4, h5⟩ := List.pairwise_cons.mp h3
    have hq := h4 q List.mem_cons_self
    have := along_down hm st ps q t (h2 q List.mem_cons_self) (fun z hz => h2 z (List.mem_cons_of_mem _ hz)) h5
    have hf := far_shf_down hm st (show q ≤ p by omega)
    rw [List.map_cons, alongT, lastO]
    omega
theorem lastO_map (m st : Int) : ∀ (ps : List Int) (p : Int), lastO (shf m st p) (ps.map (shf m st)) = shf m st (lastO p ps)
  | [], p => rfl
  | q :: ps, p => lastO_map m st ps q
theorem lastO_mem (h : Int) : ∀ xs : List Int, lastO h xs = h ∨ lastO h xs ∈ xs := by
  intro xs
  induction xs generalizing h with
  | nil => exact .inl rfl
  | cons x xs ih =>
    rcases ih x with z | z
    · exact .inr (by show lastO x xs ∈ _; rw [z]; exact List.mem_cons_self)
    · exact .inr (List.mem_cons_of_mem _ z)
/-- the first shelf of a way may be left out -/
theorem along_skip {m : Int} (hm : 0 < m) (a b : Int) : ∀ xs : List Int, alongT m a xs ≤ far m a b + alongT m b xs
  | [] => by have := far_nonneg m a b; simp [alongT]; omega
  | x :: xs => by have := far_tri' m hm a b x; rw [alongT, alongT]; omega
end Mi
namespace Mi
open PySem PySem.Spec PyProof.Rows L2
open Da (toD)
/-! the best order of shelves -/
def placesT (m st : Int) (xs : List Int) : List Int := setS (xs.map (plc m st))
def aheadT (m st : Int) (ps : List Int) (c : Nat) : List Int := (ps.take c).map (shf m st)
def behindT (m st : Int) (ps : List Int) (c : Nat) : List Int := ((ps.drop c).map (shf m st)).reverse
def ordersT (m st : Int) (xs : List Int) : List (List Int) := (List.range ((placesT m st xs).length + 1)).flatMap fun c =>
  [aheadT m st (placesT m st xs) c ++ behindT m st (placesT m st xs) c, behindT m st (placesT m st xs) c ++ aheadT m st (placesT m st xs) c]
abbrev IO := Int × List Int
def bestO (m st : Int) (xs : List Int) : IO := minOf ((ordersT m st xs).map fun o => ((alongT m st o, o) : IO))
theorem places_in {m : Int} (hm : 0 < m) (st : Int) (xs : List Int) : ∀ p ∈ placesT m st xs, 0 ≤ p ∧ p < m := fun p hp => by
  obtain ⟨x, _, rfl⟩ := List.mem_map.mp ((setS_mem _ _).mp hp)
  exact plc_in hm st x
theorem orders_mem (m st : Int) (xs o : List Int) : o ∈ ordersT m st xs ↔ ∃ c, c ≤ (placesT m st xs).length ∧ (o = aheadT m st (placesT m st xs) c ++ behindT m st (placesT m st xs) c ∨ o = behindT m st (placesT m st xs) c ++ aheadT m st (placesT m st xs) c) := by
  unfold ordersT
  rw [List.mem_flatMap]
  constructor
  · rintro ⟨c, hc, ho⟩
    have := List.mem_range.mp hc
    refine ⟨c, by omega, ?_⟩
    rcases List.mem_cons.mp ho with h | h
    · exact .inl h
    · exact .inr (List.mem_singleton.mp h)
  · rintro ⟨c, hc, ho⟩
    refine ⟨c, List.mem_range.mpr (by omega), ?_⟩
    rcases ho with h | h
    · rw [h]; exact List.mem_cons_self
    · rw [h]; exact List.mem_cons_of_mem _ List.mem_cons_self
theorem cut_perm (m st : Int) (ps : List Int) (c : Nat) : (aheadT m st ps c ++ behindT m st ps c).Perm (ps.map (shf m st)) := by
  unfold aheadT behindT
  have h : (ps.map (shf m st)) = (ps.take c).map (shf m st) ++ (ps.drop c).map (shf m st) := by rw [← List.map_append, List.take_append_drop]
  rw [h]
  exact List.Perm.append_left _ (List.reverse_perm _)
theorem order_perm {m st : Int} {xs o : List Int} (h : o ∈ ordersT m st xs) : o.Perm ((placesT m st xs).map (shf m st)) := by
  obtain ⟨c, _, h | h⟩ := (orders_mem m st xs o).mp h
  · rw [h]; exact cut_perm m st _ c
  · rw [h]; exact List.perm_append_comm.trans (cut_perm m st _ c)
theorem setS_nodup (ns : List Int) : (setS ns).Nodup := (setS_rises ns).imp fun {a b} h => by show a ≠ b; omega
theorem places_shelves {m st : Int} (hm : 0 < m) {xs : List Int} (hx : ∀ x ∈ xs, 0 ≤ x ∧ x < m) : ((placesT m st xs).map (shf m st)).Perm (setS xs) := by
  have nd1 : ((placesT m st xs).map (shf m st)).Nodup := by
    have inj : ∀ a ∈ placesT m st xs, ∀ b ∈ placesT m st xs, shf m st a = shf m st b → a = b := fun a ha b hb e => by
      rw [← plc_shf (m := m) (st := st) (places_in hm st xs a ha), e, plc_shf (places_in hm st xs b hb)]
    have nd := setS_nodup (xs.map (plc m st))
    unfold placesT at *
    generalize setS (xs.map (plc m st)) = l at *
    induction l with
    | nil => exact List.nodup_nil
    | cons a l ih =>
      obtain ⟨n1, n2⟩ := List.nodup_cons.mp nd
      rw [List.map_cons]
      refine List.nodup_cons.mpr ⟨fun z => ?_, ih (fun a ha b hb => inj a (List.mem_cons_of_mem _ ha) b (List.mem_cons_of_mem _ hb)) n2⟩
      obtain ⟨b, hb, e⟩ := List.mem_map.mp z
      have := inj b (List.mem_cons_of_mem _ hb) a List.mem_cons_self e
      exact n1 (this ▸ hb)
  have nd2 := setS_nodup xs
  have mem : ∀ k, k ∈ (placesT m st xs).map (shf m st) ↔ k ∈ setS xs := fun k => by
    rw [List.mem_map, setS_mem]
    constructor
    · rintro ⟨p, hp, rfl⟩
      unfold placesT at hp
      obtain ⟨x, hx1, rfl⟩ := List.mem_map.mp ((setS_mem _ _).mp hp)
      rw [shf_plc (hx x hx1)]; exact hx1
    · intro hk
      exact ⟨plc m st k, (setS_mem _ _).mpr (List.mem_map.mpr ⟨k, hk, rfl⟩), shf_plc (hx k hk)⟩
  exact (List.perm_ext_iff_of_nodup nd1 nd2).mpr mem
theorem orders_ne (m st : Int) (xs : List Int) : ordersT m st xs ≠ [] := fun z => by
  have := (orders_mem m st xs _).mpr ⟨0, Nat.zero_le _, .inl rfl⟩
  rw [z] at this; cases this
theorem bestO_spec (m st : Int) (xs : List Int) : (bestO m st xs).2 ∈ ordersT m st xs ∧ (bestO m st xs).1 = alongT m st (bestO m st xs).2 ∧ ∀ o ∈ ordersT m st xs, (bestO m st xs).1 ≤ alongT m st o := by
  have hne : (ordersT m st xs).map (fun o => ((alongT m st o, o) : IO)) ≠ [] := fun z => orders_ne m st xs (List.map_eq_nil_iff.mp z)
  obtain ⟨o, ho, e⟩ := List.mem_map.mp (minOf_mem hne)
  have e' : bestO m st xs = (alongT m st o, o) := e.symm
  refine ⟨by rw [e']; exact ho, by rw [e'], fun q hq => ?_⟩
  exact min_fst (y := ((alongT m st q, q) : IO)) (List.mem_map.mpr ⟨q, hq, rfl⟩)
theorem take_drop_cut (ps : List Int) (A : Int) : ps.Pairwise (· < ·) → ∃ c, c ≤ ps.length ∧ (∀ p ∈ ps.take c, p ≤ A) ∧ ∀ p ∈ ps.drop c, A < p := by
  induction ps with
  | nil => intro _; exact ⟨0, Nat.le_refl _, (fun p h => by simp at h), fun p h => by simp at h⟩
  | cons x ps ih =>
    intro h
    obtain ⟨h1, h2⟩ := List.pairwise_cons.mp h
    by_cases hx : x ≤ A
    · obtain ⟨c, a, b, d⟩ := ih h2
      refine ⟨c + 1, by simp; omega, fun p hp => ?_, fun p hp => d p (by simpa using hp)⟩
      rw [List.take_succ_cons] at hp
      rcases List.mem_cons.mp hp with rfl | hp
      · exact hx
      · exact b p hp
    · refine ⟨0, Nat.zero_le _, (fun p h => by simp at h), fun p hp => ?_⟩
      rw [List.drop_zero] at hp
      rcases List.mem_cons.mp hp with rfl | hp
      · omega
      · have := h1 p hp; omega
theorem shf_wrap (m st p : Int) : shf m st (p - m) = shf m st p := by
  unfold shf
  rw [show st + (p - m) = st + p - m by omega, Int.sub_emod_right]
/-- going ahead and then behind is no longer than so far on and so far back -/
theorem ahead_behind {m st : Int} (hm : 0 < m) (hs : 0 ≤ st ∧ st < m) (ps : List Int) (hp : ∀ p ∈ ps, 0 ≤ p ∧ p < m) (hr : ps.Pairwise (· < ·)) (c : Nat) (A B : Int) (hA : 0 ≤ A) (hB : 0 ≤ B) (h1 : ∀ p ∈ ps.take c, p ≤ A) (h2 : ∀ p ∈ ps.drop c, m - p ≤ B) :
    alongT m st (aheadT m st ps c ++ behindT m st ps c) ≤ 2 * A + B ∧ alongT m st (behindT m st ps c ++ aheadT m st ps c) ≤ A + 2 * B := by
  have e0 := shf_zero hs
  -- up over ahead from any place at or below 0
  have up : ∀ q : Int, q ≤ 0 → (∃ t, t ≤ A ∧ 0 ≤ t - q ∧ alongT m (shf m st q) (aheadT m st ps c) ≤ A - q ∧ lastO (shf m st q) (aheadT m st ps c) = shf m st t ∧ alongT m (shf m st q) (aheadT m st ps c) ≤ t - q ∧ (q = 0 → 0 ≤ t)) := by
    intro q hq
    unfold aheadT
    have hpw : (ps.take c).Pairwise (· < ·) := hr.sublist (List.take_sublist _ _)
    have hin : ∀ p ∈ ps.take c, 0 ≤ p := fun p h => (hp p (List.mem_of_mem_take h)).1
    cases q0 : ps.take c with
    | nil => exact ⟨q, by omega, by omega, by simp [alongT]; omega, rfl, by simp [alongT], by omega⟩
    | cons x l =>
      rw [q0] at hpw hin h1
      have hx := hin x List.mem_cons_self
      have u := along_up hm st l x A (h1 x List.mem_cons_self) (fun z hz => h1 z (List.mem_cons_of_mem _ hz)) hpw
      have f := far_shf_up hm st (show q ≤ x by omega)
      have hl : lastO x l ≤ A := by
        rcases lastO_mem x l with z | z
        · rw [z]; exact h1 x List.mem_cons_self
        · exact h1 _ (List.mem_cons_of_mem _ z)
      have hl0 : 0 ≤ lastO x l := by
        rcases lastO_mem x l with z | z
        · rw [z]; exact hx
        · exact hin _ (List.mem_cons_of_mem _ z)
      refine ⟨lastO x l, hl, by omega, ?_, ?_, ?_, fun _ => hl0⟩
      · rw [List.map_cons, alongT]; omega
      · rw [List.map_cons, lastO, lastO_map]
      · rw [List.map_cons, alongT]; omega
  -- down over behind from any place at or above 0, as places below 0
  have down : ∀ q : Int, 0 ≤ q → (∃ t, -B ≤ t ∧ t ≤ q ∧ lastO (shf m st q) (behindT m st ps c) = shf m st t ∧ alongT m (shf m st q) (behindT m st ps c) ≤ q - t ∧ (q = 0 → t ≤ 0)) := by
    intro q hq
    unfold behindT
    have hpw : (ps.drop c).Pairwise (· < ·) := hr.sublist (List.drop_sublist _ _)
    have hpr : ((ps.drop c).reverse.map fun p => p - m).Pairwise (· > ·) := by
      rw [List.pairwise_map, List.pairwise_reverse]
      exact hpw.imp fun {a b} h => by show b - m > a - m; omega
    have hmem : ∀ z ∈ (ps.drop c).reverse.map (fun p => p - m), -B ≤ z ∧ z < 0 := fun z hz => by
      obtain ⟨p, hp1, rfl⟩ := List.mem_map.mp hz
      have hp2 := List.mem_reverse.mp hp1
      have a := h2 p hp2
      have b := hp p (List.mem_of_mem_drop hp2)
      omega
    have em : ((ps.drop c).map (shf m st)).reverse = ((ps.drop c).reverse.map fun p => p - m).map (shf m st) := by
      rw [← List.map_reverse, List.map_map]
      exact List.map_congr_left fun p _ => (shf_wrap m st p).symm
    rw [em]
    generalize (ps.drop c).reverse.map (fun p => p - m) = l at hpr hmem
    cases l with
    | nil => exact ⟨q, by omega, by omega, rfl, by simp [alongT], by omega⟩
    | cons x l =>
      have hx := hmem x List.mem_cons_self
      have d := along_down hm st l x (-B) hx.1 (fun z hz => (hmem z (List.mem_cons_of_mem _ hz)).1) hpr
      have f := far_shf_down hm st (show x ≤ q by omega)
      have hl : -B ≤ lastO x l ∧ lastO x l < 0 := by
        rcases lastO_mem x l with z | z
        · rw [z]; exact hx
        · exact hmem _ (List.mem_cons_of_mem _ z)
      refine ⟨lastO x l, hl.1, by omega, ?_, ?_, fun _ => by omega⟩
      · rw [List.map_cons, lastO, lastO_map]
      · rw [List.map_cons, alongT]; omega
  constructor
  · obtain ⟨t, t1, t2, -, t4, t5, t6⟩ := up 0 (Int.le_refl _)
    obtain ⟨u, u1, u2, -, u4, -⟩ := down t (t6 rfl)
    rw [e0] at t4 t5
    rw [along_app, t4]
    have := t6 rfl
    omega
  · obtain ⟨t, t1, t2, t3, t4, t5⟩ := down 0 (Int.le_refl _)
    obtain ⟨u, u1, u2, u3, -, -, -⟩ := up t (t5 rfl)
    rw [e0] at t3 t4
    rw [along_app, t3]
    omega
/-- no way over all of them is shorter than the best order -/
theorem best_least {m st : Int} (hm : 0 < m) (hs : 0 ≤ st ∧ st < m) (xs ys : List Int) (hy : ∀ y ∈ ys, 0 ≤ y ∧ y < m) (hxy : ∀ x ∈ xs, x ∈ ys) : (bestO m st xs).1 ≤ alongT m st ys := by
  obtain ⟨b1, b2, b3⟩ := bestO_spec m st xs
  obtain ⟨A, B, a1, a2, a3, a4⟩ := along_cover hm st ys 0 0 0 0 hy (by omega) (by omega) (by omega) (by omega) (by omega)
  rw [shf_zero hs] at a3
  obtain ⟨c, c1, c2, c3⟩ := take_drop_cut (placesT m st xs) A (setS_rises _)
  have hb : ∀ p ∈ (placesT m st xs).drop c, m - p ≤ B := fun p hp => by
    have hpA := c3 p hp
    have hp0 := List.mem_of_mem_drop hp
    have hin := places_in hm st xs p hp0
    unfold placesT at hp0
    obtain ⟨x, hx, rfl⟩ := List.mem_map.mp ((setS_mem _ _).mp hp0)
    obtain ⟨q, q1, q2, q3⟩ := a4 x (hxy x hx)
    have e : plc m st x = q % m := by
      rw [← q3]
      unfold plc shf
      rw [Int.emod_sub_emod, show st + q - st = q by omega]
    rw [e] at hpA hin ⊢
    have h3 : q = m * (q / m) + q % m := (Int.mul_ediv_add_emod q m).symm
    generalize q % m = r at *
    generalize q / m = k at *
    rcases Int.lt_or_le k 0 with hk | hk
    · have : m * k ≤ m * (-1) := Int.mul_le_mul_of_nonneg_left (by omega) (by omega)
      omega
    · have : 0 ≤ m * k := Int.mul_nonneg (by omega) hk
      omega
  obtain ⟨d1, d2⟩ := ahead_behind hm hs (placesT m st xs) (places_in hm st xs) (setS_rises _) c A B (by omega) (by omega) c2 hb
  have o1 := b3 _ ((orders_mem m st xs _).mpr ⟨c, c1, .inl rfl⟩)
  have o2 := b3 _ ((orders_mem m st xs _).mpr ⟨c, c1, .inr rfl⟩)
  omega
theorem best_perm {m st : Int} (hm : 0 < m) {xs : List Int} (hx : ∀ x ∈ xs, 0 ≤ x ∧ x < m) : (bestO m st xs).2.Perm (setS xs) := (order_perm (bestO_spec m st xs).1).trans (places_shelves hm hx)
theorem best_mono {m st : Int} (hm : 0 < m) (hs : 0 ≤ st ∧ st < m) {xs ys : List Int} (hx : ∀ x ∈ xs, 0 ≤ x ∧ x < m) (hy : ∀ y ∈ ys, y ∈ xs) : (bestO m st ys).1 ≤ (bestO m st xs).1 := by
  have hp := best_perm (st := st) hm hx
  rw [(bestO_spec m st xs).2.1]
  exact best_least hm hs ys _ (fun y h => hx y ((setS_mem _ _).mp (hp.mem_iff.mp h))) fun y h => hp.mem_iff.mpr ((setS_mem _ _).mpr (hy y h))
end Mi
namespace Mi
open PySem PySem.Spec PyProof.Rows L2
open Da (toD)
/-! the nearest shelf -/
def rankT (m st x : Int) : Tu Int := ⟨[far m st x, 0 - stepsTo m st x, x]⟩
def nearT (m st : Int) (xs : List Int) : Int := nth (minOf (xs.map (rankT m st))).l 2
theorem near_spec (m st : Int) {xs : List Int} (h : xs ≠ []) : nearT m st xs ∈ xs ∧ minOf (xs.map (rankT m st)) = rankT m st (nearT m st xs) ∧ ∀ x ∈ xs, Dl.lt (rankT m st x) (rankT m st (nearT m st xs)) = false := by
  have hne : xs.map (rankT m st) ≠ [] := fun z => h (List.map_eq_nil_iff.mp z)
  obtain ⟨y, hy, e⟩ := List.mem_map.mp (minOf_mem hne)
  have en : nearT m st xs = y := by unfold nearT; rw [← e]; rfl
  rw [en]
  refine ⟨hy, e.symm, fun x hx => ?_⟩
  rw [e]
  exact minOf_le (List.mem_map.mpr ⟨x, hx, rfl⟩)
theorem near_far (m st : Int) {xs : List Int} (h : xs ≠ []) : ∀ x ∈ xs, far m st (nearT m st xs) ≤ far m st x := fun x hx => by
  have k := (near_spec m st h).2.2 x hx
  have k' : lexL [far m st x, 0 - stepsTo m st x, x] [far m st (nearT m st xs), 0 - stepsTo m st (nearT m st xs), nearT m st xs] = false := k
  unfold lexL at k'
  by_cases e : far m st x = far m st (nearT m st xs)
  · omega
  · rw [if_neg e] at k'
    have : decide (far m st x < far m st (nearT m st xs)) = false := k'
    simp at this
    omega
/-- the nearest one next -/
def nearO (m : Int) : Nat → Int → List Int → List Int
  | 0, _, _ => []
  | n + 1, h, left => if left = [] then [] else nearT m h left :: nearO m n (nearT m h left) (left.erase (nearT m h left))
theorem nearO_perm (m : Int) : ∀ (n : Nat) (h : Int) (left : List Int), left.length ≤ n → (nearO m n h left).Perm left
  | 0, h, left, hl => by have : left = [] := List.length_eq_zero_iff.mp (by omega); subst this; exact List.Perm.refl _
  | n + 1, h, left, hl => by
    unfold nearO
    by_cases e : left = []
    · rw [if_pos e, e]
    · rw [if_neg e]
      have hm := (near_spec m h e).1
      have hlen := List.length_erase_of_mem hm
      have ih := nearO_perm m n (nearT m h left) (left.erase (nearT m h left)) (by omega)
      exact (List.Perm.cons _ ih).trans (List.perm_cons_erase hm).symm
def nearT_order (m st : Int) (xs : List Int) : List Int := nearO m (setS xs).length st (setS xs)
theorem nearT_order_perm (m st : Int) (xs : List Int) : (nearT_order m st xs).Perm (setS xs) := nearO_perm m _ st _ (Nat.le_refl _)
theorem erase_idx (k : Int) : ∀ xs : List Int, k ∈ xs → ∃ j, xs.idxOf? k = some j ∧ xs.eraseIdx j = xs.erase k
  | [], h => by cases h
  | x :: xs, h => by
    by_cases e : x = k
    · exact ⟨0, by simp [List.idxOf?_cons, e], by simp [e]⟩
    · have hk : k ∈ xs := by
        rcases List.mem_cons.mp h with z | z
        · exact absurd z.symm e
        · exact z
      obtain ⟨j, h1, h2⟩ := erase_idx k xs hk
      refine ⟨j + 1, ?_, ?_⟩
      · rw [List.idxOf?_cons, h1]; simp [e]
      · rw [List.eraseIdx_cons_succ, h2, List.erase_cons_tail (by simpa using e)]
theorem kRemove_ (xs : List Int) (k : Int) (h : k ∈ xs) : kRemove (xs.map D.int) [.int k] = some ((xs.erase k).map D.int, .non) := by
  obtain ⟨j, h1, h2⟩ := erase_idx k xs h
  unfold kRemove
  dsimp only
  rw [ints_map']
  dsimp only
  rw [h1]
  dsimp only
  rw [h2]
/-! trips -/
def nzT (xs : List Int) : List Int := xs.filter fun x => decide (x ≠ 0)
def endsT (m : Int) (xs : List Int) : List Int := [0] ++ nzT xs ++ [m]
def gapsT (m : Int) (es : List Int) : List Int := (es.zip es.tail).map fun p => 2 * p.1 + 2 * (m - p.2)
def tripOf (m : Int) (xs : List Int) : Int := minOf ([m] ++ gapsT m (endsT m xs))
def tripT (m : Int) (xs : List Int) : Int := if nzT xs = [] then 0 else tripOf m (setS xs)
/-- so far on and so far back all of them are met -/
def Meets (m : Int) (xs : List Int) (on back : Int) : Prop := ∀ x ∈ xs, x = 0 ∨ x ≤ on ∨ m - x ≤ back
structure IsTrip (m : Int) (xs : List Int) (T : Int) : Prop where
  le : T ≤ m
  at_ : T = m ∨ ∃ on back, 0 ≤ on ∧ 0 ≤ back ∧ on + back < m ∧ Meets m xs on back ∧ T = 2 * on + 2 * back
  least : ∀ on back, 0 ≤ on → 0 ≤ back → Meets m xs on back → T ≤ 2 * on + 2 * back
theorem IsTrip.unique {m : Int} {xs : List Int} {T T' : Int} (a : IsTrip m xs T) (b : IsTrip m xs T') : T = T' := by
  have h1 : T ≤ T' := by
    rcases b.at_ with z | ⟨on, back, x1, x2, -, x4, x5⟩
    · rw [z]; exact a.le
    · rw [x5]; exact a.least on back x1 x2 x4
  have h2 : T' ≤ T := by
    rcases a.at_ with z | ⟨on, back, x1, x2, -, x4, x5⟩
    · rw [z]; exact b.le
    · rw [x5]; exact b.least on back x1 x2 x4
  omega
theorem IsTrip.congr {m : Int} {xs ys : List Int} {T : Int} (a : IsTrip m xs T) (h : ∀ on back, Meets m xs on back ↔ Meets m ys on back) : IsTrip m ys T :=
  ⟨a.le, a.at_.imp id fun ⟨on, back, x1, x2, x3, x4, x5⟩ => ⟨on, back, x1, x2, x3, (h on back).mp x4, x5⟩, fun on back x1 x2 x3 => a.least on back x1 x2 ((h on back).mpr x3)⟩
theorem IsTrip.mono {m : Int} {xs ys : List Int} {T T' : Int} (a : IsTrip m xs T) (b : IsTrip m ys T') (h : ∀ y ∈ ys, y = 0 ∨ y ∈ xs) : T' ≤ T := by
  rcases a.at_ with z | ⟨on, back, x1, x2, -, x4, x5⟩
  · rw [z]; exact b.le
  · rw [x5]
    exact b.least on back x1 x2 fun y hy => (h y hy).elim .inl (x4 y)
theorem mem_gaps (m : Int) : ∀ (es : List Int) (g : Int), g ∈ gapsT m es ↔ ∃ i a b, es[i]? = some a ∧ es[i + 1]? = some b ∧ g = 2 * a + 2 * (m - b) := by
  intro es g
  unfold gapsT
  rw [List.mem_map]
  constructor
  · rintro ⟨p, hp, rfl⟩
    obtain ⟨i, hi⟩ := List.getElem?_of_mem hp
    rw [List.getElem?_zip_eq_some] at hi
    refine ⟨i, p.1, p.2, hi.1, ?_, rfl⟩
    have := hi.2
    rwa [List.getElem?_tail] at this
  · rintro ⟨i, a, b, ha, hb, rfl⟩
    refine ⟨(a, b), ?_, rfl⟩
    refine List.mem_of_getElem? (i := i) ?_
    rw [List.getElem?_zip_eq_some]
    exact ⟨ha, by rw [List.getElem?_tail]; exact hb⟩
theorem ends_rise {m : Int} (hm : 0 < m) {xs : List Int} (hr : xs.Pairwise (· < ·)) (hx : ∀ x ∈ xs, 0 ≤ x ∧ x < m) : (endsT m xs).Pairwise (· < ·) := by
  unfold endsT
  have hz : ∀ z ∈ nzT xs, 0 < z ∧ z < m := fun z hz => by
    obtain ⟨h1, h2⟩ := List.mem_filter.mp hz
    have := hx z h1
    simp at h2
    omega
  rw [List.pairwise_append]
  refine ⟨?_, List.pairwise_singleton _ _, fun a ha b hb => ?_⟩
  · rw [List.singleton_append]
    exact List.pairwise_cons.mpr ⟨fun z h => (hz z h).1, hr.sublist List.filter_sublist⟩
  · rw [List.mem_singleton.mp hb]
    rw [List.singleton_append] at ha
    rcases List.mem_cons.mp ha with rfl | ha
    · exact hm
    · exact (hz a ha).2
theorem rise_get {es : List Int} (h : es.Pairwise (· < ·)) {i j : Nat} {a b : Int} (ha : es[i]? = some a) (hb : es[j]? = some b) (hij : i < j) : a < b := by
  obtain ⟨h1, rfl⟩ := List.getElem?_eq_some_iff.mp ha
  obtain ⟨h2, rfl⟩ := List.getElem?_eq_some_iff.mp hb
  exact List.pairwise_iff_getElem.mp h i j h1 h2 hij
theorem min_int {l : List Int} (h : l ≠ []) : minOf l ∈ l ∧ ∀ y ∈ l, minOf l ≤ y := ⟨minOf_mem h, fun y hy => by
  have : decide (y < minOf l) = false := minOf_le hy
  simp at this; exact this⟩
theorem tripOf_is {m : Int} (hm : 0 < m) {xs : List Int} (hr : xs.Pairwise (· < ·)) (hx : ∀ x ∈ xs, 0 ≤ x ∧ x < m) : IsTrip m xs (tripOf m xs) := by
  have hE := ends_rise hm hr hx
  obtain ⟨h1, h2⟩ := min_int (l := [m] ++ gapsT m (endsT m xs)) (by simp)
  have memE : ∀ z, z ∈ endsT m xs ↔ z = 0 ∨ z ∈ nzT xs ∨ z = m := fun z => by unfold endsT; simp
  refine ⟨h2 m (by simp), ?_, fun on back n1 n2 mt => ?_⟩
  · rw [List.singleton_append] at h1
    rcases List.mem_cons.mp h1 with z | z
    · exact .inl z
    · right
      obtain ⟨i, a, b, ha, hb, e⟩ := (mem_gaps m _ _).mp z
      have hab := rise_get hE ha hb (Nat.lt_succ_self i)
      have a0 : 0 ≤ a := by
        rcases (memE a).mp (List.mem_of_getElem? ha) with q | q | q
        · omega
        · exact (hx a (List.mem_filter.mp q).1).1
        · omega
      have bm : b ≤ m := by
        rcases (memE b).mp (List.mem_of_getElem? hb) with q | q | q
        · omega
        · have := (hx b (List.mem_filter.mp q).1).2; omega
        · omega
      refine ⟨a, m - b, a0, by omega, by omega, fun x hxm => ?_, e⟩
      by_cases x0 : x = 0
      · exact .inl x0
      · right
        have hxE : x ∈ endsT m xs := (memE x).mpr (.inr (.inl (List.mem_filter.mpr ⟨hxm, by simpa using x0⟩)))
        obtain ⟨j, hj⟩ := List.getElem?_of_mem hxE
        rcases Nat.lt_trichotomy j i with q | q | q
        · have := rise_get hE hj ha q; left; omega
        · rw [q, ha] at hj; cases hj; left; omega
        · rcases Nat.lt_or_eq_of_le (show i + 1 ≤ j from q) with q | q
          · have := rise_get hE hb hj q; right; omega
          · rw [← q, hb] at hj; cases hj; right; omega
  · -- the last end at or below on
    by_cases big : m ≤ on
    · have := h2 m (by simp)
      unfold tripOf
      omega
    · obtain ⟨c, c1, c2, c3⟩ := take_drop_cut (endsT m xs) on hE
      have hE0 : (endsT m xs)[0]? = some 0 := by unfold endsT; rfl
      have hc0 : 0 < c := by
        rcases Nat.eq_zero_or_pos c with z | z
        · subst z
          have := c3 0 (by rw [List.drop_zero]; exact (memE 0).mpr (.inl rfl))
          omega
        · exact z
      have hcl : c < (endsT m xs).length := by
        rcases Nat.lt_or_ge c (endsT m xs).length with z | z
        · exact z
        · have := c2 m (by rw [List.take_of_length_le z]; exact (memE m).mpr (.inr (.inr rfl)))
          omega
      obtain ⟨a, ha⟩ : ∃ a, (endsT m xs)[c - 1]? = some a := ⟨_, List.getElem?_eq_getElem (by omega)⟩
      obtain ⟨b, hb⟩ : ∃ b, (endsT m xs)[c - 1 + 1]? = some b := ⟨_, List.getElem?_eq_getElem (by omega)⟩
      have hao : a ≤ on := c2 a (List.mem_of_getElem? (i := c - 1) (by rw [List.getElem?_take, if_pos (by omega)]; exact ha))
      have hbo : on < b := c3 b (List.mem_of_getElem? (i := 0) (by rw [List.getElem?_drop, show c + 0 = c - 1 + 1 by omega]; exact hb))
      have hg := h2 (2 * a + 2 * (m - b)) (List.mem_append_right _ ((mem_gaps m _ _).mpr ⟨c - 1, a, b, ha, hb, rfl⟩))
      have hbb : m - b ≤ back := by
        rcases (memE b).mp (List.mem_of_getElem? hb) with q | q | q
        · omega
        · have hb0 : b ≠ 0 := by have := (List.mem_filter.mp q).2; simpa using this
          rcases mt b (List.mem_filter.mp q).1 with r | r | r
          · exact absurd r hb0
          · omega
          · exact r
        · omega
      unfold tripOf
      omega
theorem nz_nil {xs : List Int} (h : nzT xs = []) : ∀ x ∈ xs, x = 0 := fun x hx => by
  have := List.filter_eq_nil_iff.mp h x hx
  simpa using this
theorem tripT_is {m : Int} (hm : 0 < m) {xs : List Int} (hx : ∀ x ∈ xs, 0 ≤ x ∧ x < m) : IsTrip m xs (tripT m xs) := by
  unfold tripT
  by_cases h : nzT xs = []
  · rw [if_pos h]
    have z := nz_nil h
    exact ⟨by omega, .inr ⟨0, 0, by omega, by omega, by omega, fun x hxm => .inl (z x hxm), rfl⟩, fun on back a b _ => by omega⟩
  · rw [if_neg h]
    refine (tripOf_is hm (setS_rises xs) (fun x hxm => hx x ((setS_mem _ _).mp hxm))).congr fun on back => ?_
    unfold Meets
    constructor <;> intro k x hxm
    · exact k x ((setS_mem _ _).mpr hxm)
    · exact k x ((setS_mem _ _).mp hxm)
end Mi
namespace Mi
open PySem PySem.Spec PyProof.Rows L2
open Da (toD)
/-! trips and orders -/
theorem cover_meets {m : Int} (hm : 0 < m) {xs : List Int} {A B : Int} (h : ∀ x ∈ xs, ∃ q, -B ≤ q ∧ q ≤ A ∧ shf m 0 q = x) : Meets m xs A B := fun x hx => by
  obtain ⟨q, q1, q2, q3⟩ := h x hx
  unfold shf at q3
  rw [Int.zero_add] at q3
  have h3 : q = m * (q / m) + q % m := (Int.mul_ediv_add_emod q m).symm
  have h4 := Int.emod_nonneg q (show m ≠ 0 by omega)
  rw [q3] at h3 h4
  generalize q / m = k at *
  right
  rcases Int.lt_or_le k 0 with hk | hk
  · have : m * k ≤ m * (-1) := Int.mul_le_mul_of_nonneg_left (by omega) (by omega)
    right; omega
  · have : 0 ≤ m * k := Int.mul_nonneg (by omega) hk
    left; omega
theorem plc_zero {m x : Int} (hx : 0 ≤ x ∧ x < m) : plc m 0 x = x := by unfold plc; rw [Int.sub_zero]; exact Int.emod_eq_of_lt hx.1 hx.2
theorem along_ge {m : Int} (hm : 0 < m) : ∀ (o : List Int) (h x : Int), x ∈ o → far m h x ≤ alongT m h o
  | [], h, x, hx => by cases hx
  | y :: o, h, x, hx => by
    rw [alongT]
    rcases List.mem_cons.mp hx with rfl | hx
    · have := along_nonneg m o x; omega
    · have := along_ge hm o y x hx
      have := far_tri' m hm h y x
      omega
theorem trip_bounds {m : Int} (hm : 0 < m) {xs : List Int} (hx : ∀ x ∈ xs, 0 ≤ x ∧ x < m) : (bestO m 0 xs).1 ≤ tripT m xs ∧ tripT m xs ≤ 2 * (bestO m 0 xs).1 ∧ tripT m xs ≤ (bestO m 0 xs).1 + m / 2 := by
  have hT := tripT_is hm hx
  obtain ⟨b1, b2, b3⟩ := bestO_spec m 0 xs
  have bp := best_perm (st := 0) hm hx
  have z : (0 : Int) ≤ 0 ∧ (0 : Int) < m := ⟨by omega, hm⟩
  have pm : ∀ p ∈ placesT m 0 xs, p ∈ xs := fun p hp => by
    unfold placesT at hp
    obtain ⟨x, hx1, rfl⟩ := List.mem_map.mp ((setS_mem _ _).mp hp)
    rw [plc_zero (hx x hx1)]; exact hx1
  refine ⟨?_, ?_⟩
  · rcases hT.at_ with e | ⟨on, back, n1, n2, n3, mt, e⟩
    · have d := (ahead_behind hm z (placesT m 0 xs) (places_in hm 0 xs) (setS_rises _) (placesT m 0 xs).length (m - 1) 0 (by omega) (by omega) (fun p hp => by have := places_in hm 0 xs p (List.mem_of_mem_take hp); omega) (fun p hp => by simp at hp)).2
      have o2 := b3 _ ((orders_mem m 0 xs _).mpr ⟨_, Nat.le_refl _, .inr rfl⟩)
      omega
    · obtain ⟨c, c1, c2, c3⟩ := take_drop_cut (placesT m 0 xs) on (setS_rises _)
      have hb : ∀ p ∈ (placesT m 0 xs).drop c, m - p ≤ back := fun p hp => by
        have h1 := c3 p hp
        rcases mt p (pm p (List.mem_of_mem_drop hp)) with q | q | q <;> omega
      have d := (ahead_behind hm z (placesT m 0 xs) (places_in hm 0 xs) (setS_rises _) c on back n1 n2 c2 hb).1
      have o1 := b3 _ ((orders_mem m 0 xs _).mpr ⟨c, c1, .inl rfl⟩)
      omega
  · have ho : ∀ y ∈ (bestO m 0 xs).2, 0 ≤ y ∧ y < m := fun y hy => hx y ((setS_mem _ _).mp (bp.mem_iff.mp hy))
    obtain ⟨A, B, a1, a2, a3, a4⟩ := along_cover hm 0 (bestO m 0 xs).2 0 0 0 0 ho (by omega) (by omega) (by omega) (by omega) (by omega)
    rw [shf_zero z, ← b2] at a3
    have mt : Meets m xs A B := cover_meets hm fun x hx1 => a4 x (bp.mem_iff.mpr ((setS_mem _ _).mpr hx1))
    have l1 := hT.least A B a1 a2 mt
    have l2 := hT.le
    omega
/-- the least of all orders of the shelves is the best one's -/
theorem min_orders {m st : Int} (hm : 0 < m) (hs : 0 ≤ st ∧ st < m) {xs : List Int} (hx : ∀ x ∈ xs, 0 ≤ x ∧ x < m) : minOf ((insO (setS xs)).map (alongT m st)) = (bestO m st xs).1 := by
  obtain ⟨b1, b2, b3⟩ := bestO_spec m st xs
  refine minOf_eq (List.mem_map.mpr ⟨_, (mem_insO _ _).mpr (best_perm hm hx), b2.symm⟩) fun y hy => ?_
  obtain ⟨r, hr, rfl⟩ := List.mem_map.mp hy
  have hp := (mem_insO _ _).mp hr
  have := best_least hm hs xs r (fun y h => hx y ((setS_mem _ _).mp (hp.mem_iff.mp h))) (fun x h => hp.mem_iff.mpr ((setS_mem _ _).mpr h))
  show decide (_ < _) = false
  simp; omega
theorem foldl_max_le : ∀ (l : List Int) (a b : Int), a ≤ b → (∀ x ∈ l, x ≤ b) → l.foldl max a ≤ b
  | [], a, b, h, _ => h
  | x :: l, a, b, h, hx => by
    rw [List.foldl_cons]
    exact foldl_max_le l _ b (by have := hx x List.mem_cons_self; omega) fun y hy => hx y (List.mem_cons_of_mem _ hy)
end Mi
namespace Mi
open PySem PySem.Spec PyProof.Rows L2
open Da (toD)
theorem meets_mirror {m : Int} (hm : 0 < m) {xs : List Int} (hx : ∀ x ∈ xs, 0 ≤ x ∧ x < m) (on back : Int) : Meets m (xs.map fun x => -x % m) on back ↔ Meets m xs back on := by
  unfold Meets
  constructor
  · intro h x hxm
    have hx0 := hx x hxm
    have := h (-x % m) (List.mem_map.mpr ⟨x, hxm, rfl⟩)
    rw [neg_emod hx0] at this
    by_cases e : x = 0
    · exact .inl e
    · rw [if_neg e] at this; omega
  · intro h y hy
    obtain ⟨x, hxm, rfl⟩ := List.mem_map.mp hy
    have hx0 := hx x hxm
    have := h x hxm
    rw [neg_emod hx0]
    by_cases e : x = 0
    · rw [if_pos e]; exact .inl rfl
    · rw [if_neg e]; omega
theorem IsTrip.mirror {m : Int} (hm : 0 < m) {xs : List Int} {T : Int} (hx : ∀ x ∈ xs, 0 ≤ x ∧ x < m) (h : IsTrip m xs T) : IsTrip m (xs.map fun x => -x % m) T := by
  refine ⟨h.le, h.at_.imp id fun ⟨on, back, x1, x2, x3, x4, x5⟩ => ⟨back, on, x2, x1, by omega, (meets_mirror hm hx back on).mpr x4, by omega⟩, fun on back x1 x2 x3 => ?_⟩
  have := h.least back on x2 x1 ((meets_mirror hm hx on back).mp x3)
  omega
theorem mirror_in {m : Int} (hm : 0 < m) (xs : List Int) : ∀ y ∈ xs.map (fun x => -x % m), 0 ≤ y ∧ y < m := fun y hy => by
  obtain ⟨x, _, rfl⟩ := List.mem_map.mp hy
  exact ⟨Int.emod_nonneg _ (by omega), Int.emod_lt_of_pos _ hm⟩
theorem meets_sum {m : Int} (hm : 0 < m) : ∀ xs : List Int, (∀ x ∈ xs, 0 ≤ x ∧ x < m) → ∃ on back, 0 ≤ on ∧ 0 ≤ back ∧ Meets m xs on back ∧ 2 * on + 2 * back ≤ (xs.map fun x => 2 * far m 0 x).sum
  | [], _ => ⟨0, 0, by omega, by omega, (fun x h => nomatch h), by simp⟩
  | x :: xs, hx => by
    have hx0 := hx x List.mem_cons_self
    obtain ⟨on, back, h1, h2, h3, h4⟩ := meets_sum hm xs fun y hy => hx y (List.mem_cons_of_mem _ hy)
    have hf := far_min (m := m) (a := 0) (b := x) ⟨by omega, hm⟩ hx0
    rw [if_pos hx0.1, Int.sub_zero] at hf
    rw [List.map_cons, List.sum_cons]
    by_cases hh : x ≤ m - x
    · refine ⟨max on x, back, by omega, h2, fun y hy => ?_, by omega⟩
      rcases List.mem_cons.mp hy with rfl | hy
      · right; left; omega
      · have := h3 y hy; omega
    · refine ⟨on, max back (m - x), h1, by omega, fun y hy => ?_, by omega⟩
      rcases List.mem_cons.mp hy with rfl | hy
      · right; right; omega
      · have := h3 y hy; omega
theorem trip_sum {m : Int} (hm : 0 < m) {xs : List Int} (hx : ∀ x ∈ xs, 0 ≤ x ∧ x < m) : tripT m xs ≤ (xs.map fun x => 2 * far m 0 x).sum := by
  obtain ⟨on, back, h1, h2, h3, h4⟩ := meets_sum hm xs hx
  have := (tripT_is hm hx).least on back h1 h2 h3
  omega
/-! the least of some of a row -/
def minF {α : Type} (p : α → Bool) (f : α → Int) (l : List α) (v : Int) : Int := l.foldl (fun v x => if p x = true then min v (f x) else v) v
theorem minF_spec {α : Type} (p : α → Bool) (f : α → Int) : ∀ (l : List α) (v : Int), minF p f l v ≤ v ∧ (∀ x ∈ l, p x = true → minF p f l v ≤ f x) ∧ (minF p f l v = v ∨ ∃ x ∈ l, p x = true ∧ minF p f l v = f x)
  | [], v => ⟨Int.le_refl _, (fun x h => by cases h), .inl rfl⟩
  | x :: l, v => by
    have e : minF p f (x :: l) v = minF p f l (if p x = true then min v (f x) else v) := rfl
    obtain ⟨h1, h2, h3⟩ := minF_spec p f l (if p x = true then min v (f x) else v)
    rw [e]
    by_cases hp : p x = true
    · rw [if_pos hp] at h1 h2 h3 ⊢
      refine ⟨by omega, fun y hy py => ?_, ?_⟩
      · rcases List.mem_cons.mp hy with rfl | hy
        · omega
        · exact h2 y hy py
      · rcases h3 with z | ⟨y, hy, py, z⟩
        · by_cases hv : v ≤ f x
          · left; omega
          · right; exact ⟨x, List.mem_cons_self, hp, by omega⟩
        · right; exact ⟨y, List.mem_cons_of_mem _ hy, py, z⟩
    · rw [if_neg hp] at h1 h2 h3 ⊢
      refine ⟨h1, fun y hy py => ?_, ?_⟩
      · rcases List.mem_cons.mp hy with rfl | hy
        · exact absurd py hp
        · exact h2 y hy py
      · rcases h3 with z | ⟨y, hy, py, z⟩
        · left; exact z
        · right; exact ⟨y, List.mem_cons_of_mem _ hy, py, z⟩
theorem foldl_flatMap' {α β γ : Type} (f : γ → β → γ) (g : α → List β) : ∀ (l : List α) (v : γ), (l.flatMap g).foldl f v = l.foldl (fun v x => (g x).foldl f v) v
  | [], v => rfl
  | x :: l, v => by rw [List.flatMap_cons, List.foldl_append, foldl_flatMap' f g l]; rfl
end Mi
namespace Mi
open PySem PySem.Spec PyProof.Rows L2
open Da (toD)
/-! ways to part shelves in trips -/
abbrev Row := List (List Int)
/-- block by block the same members -/
inductive PW : Row → Row → Prop
  | nil : PW [] []
  | cons {b c : List Int} {r s : Row} : b.Perm c → PW r s → PW (b :: r) (c :: s)
theorem PW.refl : ∀ r : Row, PW r r
  | [] => .nil
  | b :: r => .cons (List.Perm.refl _) (PW.refl r)
theorem PW.app : ∀ {a b c d : Row}, PW a b → PW c d → PW (a ++ c) (b ++ d)
  | _, _, _, _, .nil, h => h
  | _, _, _, _, .cons p t, h => .cons p (PW.app t h)
theorem PW.split : ∀ {k1 k2 r : Row} {b : List Int}, PW (k1 ++ b :: k2) r → ∃ r1 c r2, r = r1 ++ c :: r2 ∧ PW k1 r1 ∧ b.Perm c ∧ PW k2 r2
  | [], k2, _, b, .cons p t => ⟨[], _, _, rfl, .nil, p, t⟩
  | a :: k1, k2, _, b, .cons p t => by
    obtain ⟨r1, c, r2, e, h1, h2, h3⟩ := PW.split (k1 := k1) t
    exact ⟨_ :: r1, c, r2, by rw [e]; rfl, .cons p h1, h2, h3⟩
theorem PW.trans : ∀ {a b c : Row}, PW a b → PW b c → PW a c
  | _, _, _, .nil, .nil => .nil
  | _, _, _, .cons p t, .cons q u => .cons (p.trans q) (PW.trans t u)
/-- the same trips, in whatever order -/
def Like (a b : Row) : Prop := ∃ a', a.Perm a' ∧ PW a' b
theorem Like.sum {f : List Int → Int} (hf : ∀ b c : List Int, b.Perm c → f b = f c) {a b : Row} (h : Like a b) : (a.map f).sum = (b.map f).sum := by
  obtain ⟨a', hp, pw⟩ := h
  rw [sum_perm (hp.map f)]
  clear hp
  induction pw with
  | nil => rfl
  | cons p t ih => rw [List.map_cons, List.map_cons, List.sum_cons, List.sum_cons, ih, hf _ _ p]
/-- a way to part some: no trip empty, none too long -/
structure Parts (some : List Int) (most : Nat) (r : Row) : Prop where
  all : r.flatten.Perm some
  ne : ∀ b ∈ r, b ≠ []
  le : ∀ b ∈ r, b.length ≤ most
/-- one more, x: alone, or to a trip that has room -/
inductive More (most : Nat) (x : Int) (row : Row) : Row → Prop
  | alone : More most x row ([x] :: row)
  | to (r1 : Row) (c : List Int) (r2 : Row) : row = r1 ++ c :: r2 → c.length < most → More most x row (r1 ++ (x :: c) :: r2)
theorem Like.of_perm {a b : Row} (h : a.Perm b) : Like a b := ⟨b, h, PW.refl b⟩
theorem parts_more {some : List Int} {most : Nat} (hm : 1 ≤ most) {x : Int} {row r : Row} (h : Parts some most row) (m : More most x row r) : Parts (x :: some) most r := by
  cases m with
  | alone =>
    refine ⟨?_, fun b hb => ?_, fun b hb => ?_⟩
    · show ([x] ++ row.flatten).Perm (x :: some)
      exact List.Perm.cons x h.all
    · rcases List.mem_cons.mp hb with rfl | hb
      · simp
      · exact h.ne b hb
    · rcases List.mem_cons.mp hb with rfl | hb
      · exact hm
      · exact h.le b hb
  | to r1 c r2 e hc =>
    subst e
    refine ⟨?_, fun b hb => ?_, fun b hb => ?_⟩
    · have h1 : (r1 ++ (x :: c) :: r2).flatten = r1.flatten ++ (x :: (c ++ r2.flatten)) := by simp
      have h2 : (r1 ++ c :: r2).flatten = r1.flatten ++ (c ++ r2.flatten) := by simp
      rw [h1]
      refine List.perm_middle.trans (List.Perm.cons x ?_)
      rw [← h2]; exact h.all
    · rcases List.mem_append.mp hb with z | z
      · exact h.ne b (List.mem_append_left _ z)
      · rcases List.mem_cons.mp z with rfl | z
        · simp
        · exact h.ne b (List.mem_append_right _ (List.mem_cons_of_mem _ z))
    · rcases List.mem_append.mp hb with z | z
      · exact h.le b (List.mem_append_left _ z)
      · rcases List.mem_cons.mp z with rfl | z
        · simp; omega
        · exact h.le b (List.mem_append_right _ (List.mem_cons_of_mem _ z))
/-- each way to part x and some comes of a way to part some -/
theorem parts_less {some : List Int} {most : Nat} {x : Int} {r : Row} (h : Parts (x :: some) most r) : ∃ row, Parts some most row ∧ ∀ row' : Row, Like row row' → ∃ r', More most x row' r' ∧ Like r r' := by
  have hx : x ∈ r.flatten := h.all.mem_iff.mpr List.mem_cons_self
  obtain ⟨b, hb, hxb⟩ := List.mem_flatten.mp hx
  obtain ⟨l1, l2, rfl⟩ := List.append_of_mem hb
  have pb : b.Perm (x :: b.erase x) := List.perm_cons_erase hxb
  have hfl : (l1 ++ b :: l2).flatten.Perm (x :: (b.erase x ++ (l1 ++ l2).flatten)) := by
    have e : (l1 ++ b :: l2).flatten = l1.flatten ++ (b ++ l2.flatten) := by simp
    rw [e]
    refine (List.perm_append_comm_assoc _ _ _).trans ?_
    have e2 : l1.flatten ++ l2.flatten = (l1 ++ l2).flatten := by simp
    rw [e2]
    exact List.Perm.append_right _ pb
  have hsome : (b.erase x ++ (l1 ++ l2).flatten).Perm some := (hfl.symm.trans h.all).cons_inv
  have hlen : b.length = (b.erase x).length + 1 := by rw [pb.length_eq]; rfl
  have pr : (l1 ++ b :: l2).Perm (b :: (l1 ++ l2)) := List.perm_middle
  have inl : ∀ z, z ∈ l1 ++ l2 → z ∈ l1 ++ b :: l2 := fun z hz => pr.mem_iff.mpr (List.mem_cons_of_mem _ hz)
  by_cases he : b.erase x = []
  · refine ⟨l1 ++ l2, ⟨by rw [he] at hsome; exact hsome, fun z hz => h.ne z (inl z hz), fun z hz => h.le z (inl z hz)⟩, fun row' hl => ⟨[x] :: row', .alone, ?_⟩⟩
    obtain ⟨a', hp, pw⟩ := hl
    refine ⟨b :: a', pr.trans (List.Perm.cons b hp), .cons ?_ pw⟩
    rw [he] at pb; exact pb
  · refine ⟨b.erase x :: (l1 ++ l2), ⟨hsome, fun z hz => ?_, fun z hz => ?_⟩, fun row' hl => ?_⟩
    · rcases List.mem_cons.mp hz with rfl | hz
      · exact he
      · exact h.ne z (inl z hz)
    · rcases List.mem_cons.mp hz with rfl | hz
      · have := h.le b hb; omega
      · exact h.le z (inl z hz)
    · obtain ⟨a', hp, pw⟩ := hl
      have hm : b.erase x ∈ a' := hp.mem_iff.mp List.mem_cons_self
      obtain ⟨k1, k2, rfl⟩ := List.append_of_mem hm
      obtain ⟨r1, c, r2, rfl, p1, p2, p3⟩ := pw.split
      have hcl : c.length < most := by rw [← p2.length_eq]; have := h.le b hb; omega
      refine ⟨r1 ++ (x :: c) :: r2, .to r1 c r2 rfl hcl, k1 ++ b :: k2, ?_, p1.app (.cons (pb.trans (List.Perm.cons x p2)) p3)⟩
      have h1 : (l1 ++ l2).Perm (k1 ++ k2) := (hp.trans List.perm_middle).cons_inv
      exact pr.trans ((List.Perm.cons b h1).trans List.perm_middle.symm)
theorem PW.perm {b b' : Row} (h : b.Perm b') : ∀ {a : Row}, PW a b → ∃ a', a.Perm a' ∧ PW a' b' := by
  induction h with
  | nil => intro a p; cases p; exact ⟨[], List.Perm.refl _, .nil⟩
  | cons x h ih =>
    intro a p
    cases p with
    | cons p t =>
      obtain ⟨a', h1, h2⟩ := ih t
      exact ⟨_ :: a', List.Perm.cons _ h1, .cons p h2⟩
  | swap x y l =>
    intro a p
    cases p with
    | cons p t => cases t with
      | cons q u => exact ⟨_, List.Perm.swap _ _ _, .cons q (.cons p u)⟩
  | trans h1 h2 ih1 ih2 =>
    intro a p
    obtain ⟨a1, e1, p1⟩ := ih1 p
    obtain ⟨a2, e2, p2⟩ := ih2 p1
    exact ⟨a2, e1.trans e2, p2⟩
theorem Like.trans {a b c : Row} (h : Like a b) (k : Like b c) : Like a c := by
  obtain ⟨a1, h1, h2⟩ := h
  obtain ⟨b1, k1, k2⟩ := k
  obtain ⟨a2, h3, h4⟩ := PW.perm k1 h2
  exact ⟨a2, h1.trans h3, h4.trans k2⟩
theorem PW.flat : ∀ {a b : Row}, PW a b → a.flatten.Perm b.flatten
  | _, _, .nil => List.Perm.refl _
  | _, _, .cons p t => by
    rw [List.flatten_cons, List.flatten_cons]
    exact List.Perm.append p (PW.flat t)
theorem PW.mem : ∀ {a b : Row} {c : List Int}, PW a b → c ∈ b → ∃ d ∈ a, d.Perm c
  | _, _, _, .cons p t, h => by
    rcases List.mem_cons.mp h with rfl | h
    · exact ⟨_, List.mem_cons_self, p⟩
    · obtain ⟨d, h1, h2⟩ := PW.mem t h
      exact ⟨d, List.mem_cons_of_mem _ h1, h2⟩
theorem flatten_perm {a b : Row} (h : a.Perm b) : a.flatten.Perm b.flatten := by
  induction h with
  | nil => exact List.Perm.refl _
  | cons x _ ih => rw [List.flatten_cons, List.flatten_cons]; exact List.Perm.append_left _ ih
  | swap x y l =>
    rw [List.flatten_cons, List.flatten_cons, List.flatten_cons, List.flatten_cons]
    exact List.perm_append_comm_assoc _ _ _
  | trans _ _ i1 i2 => exact i1.trans i2
theorem Parts.like {some : List Int} {most : Nat} {r r' : Row} (h : Parts some most r) (l : Like r r') : Parts some most r' := by
  obtain ⟨a, hp, pw⟩ := l
  refine ⟨(pw.flat.symm.trans (flatten_perm hp.symm)).trans h.all, fun b hb z => ?_, fun b hb => ?_⟩
  · obtain ⟨d, h1, h2⟩ := pw.mem hb
    subst z
    exact h.ne d (hp.mem_iff.mpr h1) (List.length_eq_zero_iff.mp h2.length_eq)
  · obtain ⟨d, h1, h2⟩ := pw.mem hb
    rw [← h2.length_eq]
    exact h.le d (hp.mem_iff.mpr h1)
/-- what goes over all ways -/
structure GoesOver (some : List Int) (most : Nat) (rows : List Row) : Prop where
  in_ : ∀ r ∈ rows, Parts some most r
  all : ∀ r, Parts some most r → ∃ r' ∈ rows, Like r r'
theorem goes_nil (most : Nat) : GoesOver [] most [[]] := by
  refine ⟨fun r hr => ?_, fun r h => ⟨[], by simp, ?_⟩⟩
  · rw [List.mem_singleton.mp hr]
    exact ⟨List.Perm.refl _, (fun b hb => by cases hb), fun b hb => by cases hb⟩
  · cases r with
    | nil => exact Like.of_perm (List.Perm.refl _)
    | cons b r =>
      have h1 := h.all.length_eq
      have h2 := h.ne b List.mem_cons_self
      simp at h1
      exact absurd h1.1 h2
theorem goes_perm {some some' : List Int} {most : Nat} {rows : List Row} (h : some.Perm some') (g : GoesOver some most rows) : GoesOver some' most rows :=
  ⟨fun r hr => let p := g.in_ r hr; ⟨p.all.trans h, p.ne, p.le⟩, fun r p => g.all r ⟨p.all.trans h.symm, p.ne, p.le⟩⟩
theorem goes_step {some : List Int} {most : Nat} (hm : 1 ≤ most) {x : Int} {rows rows' : List Row} (g : GoesOver some most rows)
    (h1 : ∀ r ∈ rows', ∃ row ∈ rows, ∃ r0, More most x row r0 ∧ Like r0 r) (h2 : ∀ row ∈ rows, ∀ r0, More most x row r0 → ∃ r ∈ rows', Like r0 r) : GoesOver (x :: some) most rows' := by
  refine ⟨fun r hr => ?_, fun r hp => ?_⟩
  · obtain ⟨row, hrow, r0, m, l⟩ := h1 r hr
    exact (parts_more hm (g.in_ row hrow) m).like l
  · obtain ⟨row, p, k⟩ := parts_less hp
    obtain ⟨row', hrow', l⟩ := g.all row p
    obtain ⟨r', m, l'⟩ := k row' l
    obtain ⟨r2, hr2, l2⟩ := h2 row' hrow' r' m
    exact ⟨r2, hr2, l'.trans l2⟩
/-! the two goings over -/
def extG (add : List Int → List Int) (most : Nat) : Row → Row → List Row
  | _, [] => []
  | pre, c :: rest => (if c.length < most then [pre ++ [add c] ++ rest] else []) ++ extG add most (pre ++ [c]) rest
theorem ext_mem (add : List Int → List Int) (most : Nat) : ∀ (suf pre r : Row), r ∈ extG add most pre suf ↔ ∃ s1 c s2, suf = s1 ++ c :: s2 ∧ c.length < most ∧ r = pre ++ s1 ++ add c :: s2
  | [], pre, r => by
    unfold extG
    constructor
    · intro h; cases h
    · rintro ⟨s1, c, s2, e, _⟩; cases s1 <;> cases e
  | c :: rest, pre, r => by
    unfold extG
    rw [List.mem_append, ext_mem add most rest (pre ++ [c]) r]
    constructor
    · rintro (h | ⟨s1, d, s2, e, hd, er⟩)
      · by_cases hc : c.length < most
        · rw [if_pos hc] at h
          exact ⟨[], c, rest, rfl, hc, by rw [List.mem_singleton.mp h]; simp⟩
        · rw [if_neg hc] at h; cases h
      · exact ⟨c :: s1, d, s2, by rw [e]; rfl, hd, by rw [er]; simp⟩
    · rintro ⟨s1, d, s2, e, hd, er⟩
      cases s1 with
      | nil =>
        cases e
        left
        rw [if_pos hd, er]; simp
      | cons a s1 =>
        cases e
        right
        exact ⟨s1, d, s2, rfl, hd, by rw [er]; simp⟩
def partF (most : Nat) : List Int → List Row
  | [] => [[]]
  | x :: xs => (partF most xs).flatMap fun row => ([[x]] ++ row) :: extG (fun c => [x] ++ c) most [] row
theorem partF_goes (most : Nat) (hm : 1 ≤ most) : ∀ xs : List Int, GoesOver xs most (partF most xs)
  | [] => goes_nil most
  | x :: xs => by
    refine goes_step hm (partF_goes most hm xs) (fun r hr => ?_) fun row hrow r0 m => ?_
    · unfold partF at hr
      obtain ⟨row, hrow, h⟩ := List.mem_flatMap.mp hr
      refine ⟨row, hrow, r, ?_, Like.of_perm (List.Perm.refl _)⟩
      rcases List.mem_cons.mp h with rfl | h
      · exact .alone
      · obtain ⟨s1, c, s2, e, hc, er⟩ := (ext_mem _ most row [] r).mp h
        rw [er]
        exact .to s1 c s2 e hc
    · refine ⟨r0, ?_, Like.of_perm (List.Perm.refl _)⟩
      unfold partF
      refine List.mem_flatMap.mpr ⟨row, hrow, ?_⟩
      cases m with
      | alone => exact List.mem_cons_self
      | to r1 c r2 e hc => exact List.mem_cons_of_mem _ ((ext_mem _ most row [] _).mpr ⟨r1, c, r2, e, hc, rfl⟩)
def stepB (most : Nat) (rows : List Row) (x : Int) : List Row := rows.flatMap fun row => (row ++ [[x]]) :: extG (fun c => c ++ [x]) most [] row
def partB (most : Nat) (xs : List Int) : List Row := xs.foldl (stepB most) [[]]
theorem stepB_goes (most : Nat) (hm : 1 ≤ most) {some : List Int} {rows : List Row} (x : Int) (g : GoesOver some most rows) : GoesOver (x :: some) most (stepB most rows x) := by
  have sw : ∀ (s1 s2 : Row) (c : List Int), Like (s1 ++ (x :: c) :: s2) (s1 ++ (c ++ [x]) :: s2) := fun s1 s2 c =>
    ⟨_, List.Perm.refl _, (PW.refl s1).app (.cons (List.perm_append_comm (l₁ := [x]) (l₂ := c)) (PW.refl s2))⟩
  have al : ∀ row : Row, Like ([x] :: row) (row ++ [[x]]) := fun row => Like.of_perm (List.perm_append_comm (l₁ := [[x]]) (l₂ := row))
  refine goes_step hm g (fun r hr => ?_) fun row hrow r0 m => ?_
  · unfold stepB at hr
    obtain ⟨row, hrow, h⟩ := List.mem_flatMap.mp hr
    rcases List.mem_cons.mp h with rfl | h
    · exact ⟨row, hrow, _, .alone, al row⟩
    · obtain ⟨s1, c, s2, e, hc, er⟩ := (ext_mem _ most row [] r).mp h
      rw [er]
      exact ⟨row, hrow, _, .to s1 c s2 e hc, sw s1 s2 c⟩
  · unfold stepB
    cases m with
    | alone => exact ⟨_, List.mem_flatMap.mpr ⟨row, hrow, List.mem_cons_self⟩, al row⟩
    | to r1 c r2 e hc => exact ⟨r1 ++ (c ++ [x]) :: r2, List.mem_flatMap.mpr ⟨row, hrow, List.mem_cons_of_mem _ ((ext_mem _ most row [] _).mpr ⟨r1, c, r2, e, hc, rfl⟩)⟩, sw r1 r2 c⟩
theorem partB_goes (most : Nat) (hm : 1 ≤ most) (xs : List Int) : GoesOver xs most (partB most xs) := by
  have key : ∀ (xs done : List Int) (rows : List Row), GoesOver done most rows → GoesOver (xs ++ done) most (xs.foldl (stepB most) rows) := by
    intro xs
    induction xs with
    | nil => intro done rows g; exact g
    | cons x xs ih =>
      intro done rows g
      refine goes_perm ?_ (ih (x :: done) _ (stepB_goes most hm x g))
      exact List.perm_middle
  have := key xs [] [[]] (goes_nil most)
  rwa [List.append_nil] at this
/-- the trips rise -/
theorem partF_rises (most : Nat) (hm : 1 ≤ most) : ∀ xs : List Int, xs.Pairwise (· < ·) → ∀ r ∈ partF most xs, ∀ b ∈ r, b.Pairwise (· < ·)
  | [], _, r, hr, b, hb => by
    unfold partF at hr
    rw [List.mem_singleton.mp hr] at hb; cases hb
  | x :: xs, h, r, hr, b, hb => by
    obtain ⟨h1, h2⟩ := List.pairwise_cons.mp h
    unfold partF at hr
    obtain ⟨row, hrow, hr⟩ := List.mem_flatMap.mp hr
    have ih := partF_rises most hm xs h2 row hrow
    have hin := (partF_goes most hm xs).in_ row hrow
    have hx : ∀ c ∈ row, ∀ y ∈ c, x < y := fun c hc y hy => h1 y (hin.all.mem_iff.mp (List.mem_flatten.mpr ⟨c, hc, hy⟩))
    rcases List.mem_cons.mp hr with rfl | hr
    · rcases List.mem_cons.mp hb with rfl | hb
      · exact List.pairwise_singleton _ _
      · exact ih b hb
    · obtain ⟨s1, c, s2, e, hc, er⟩ := (ext_mem _ most row [] r).mp hr
      rw [er, List.nil_append] at hb
      subst e
      rcases List.mem_append.mp hb with z | z
      · exact ih b (List.mem_append_left _ z)
      · rcases List.mem_cons.mp z with rfl | z
        · have hcm : c ∈ s1 ++ c :: s2 := List.mem_append_right _ List.mem_cons_self
          exact List.pairwise_cons.mpr ⟨hx c hcm, ih c hcm⟩
        · exact ih b (List.mem_append_right _ (List.mem_cons_of_mem _ z))
end Mi
namespace Mi
open PySem PySem.Spec PyProof.Rows L2
open Da (toD)
/-! the best trips -/
theorem setS_congr {xs ys : List Int} (h : ∀ k, k ∈ xs ↔ k ∈ ys) : setS xs = setS ys := rises_unique (setS_rises xs) (setS_rises ys) fun k => by rw [setS_mem, setS_mem, h]
theorem nz_mem (xs : List Int) (x : Int) : x ∈ nzT xs ↔ x ∈ xs ∧ x ≠ 0 := by unfold nzT; rw [List.mem_filter]; simp
theorem tripT_congr (m : Int) {xs ys : List Int} (h : ∀ k, k ∈ xs ↔ k ∈ ys) : tripT m xs = tripT m ys := by
  have e : nzT xs = [] ↔ nzT ys = [] := by
    unfold nzT
    rw [List.filter_eq_nil_iff, List.filter_eq_nil_iff]
    constructor <;> intro k x hx
    · exact k x ((h x).mpr hx)
    · exact k x ((h x).mp hx)
  unfold tripT
  by_cases c : nzT xs = []
  · rw [if_pos c, if_pos (e.mp c)]
  · rw [if_neg c, if_neg (fun z => c (e.mpr z)), setS_congr h]
theorem tripT_perm (m : Int) {xs ys : List Int} (h : xs.Perm ys) : tripT m xs = tripT m ys := tripT_congr m fun k => h.mem_iff
/-- the shelves of the trips -/
def someT (xs : List Int) : List Int := setS (nzT xs)
theorem some_mem (xs : List Int) (x : Int) : x ∈ someT xs ↔ x ∈ xs ∧ x ≠ 0 := by unfold someT; rw [setS_mem, nz_mem]
theorem some_congr {xs ys : List Int} (h : ∀ k, k ≠ 0 → (k ∈ xs ↔ k ∈ ys)) : someT xs = someT ys := setS_congr fun k => by
  rw [nz_mem, nz_mem]
  constructor
  · rintro ⟨a, b⟩; exact ⟨(h k b).mp a, b⟩
  · rintro ⟨a, b⟩; exact ⟨(h k b).mpr a, b⟩
abbrev IR := Int × Row
def sumT (m : Int) (r : Row) : Int := (r.map (tripT m)).sum
def bestP (m : Int) (xs : List Int) (most : Nat) : IR := minOf ((partF most (someT xs)).map fun r => (((r.map (tripOf m)).sum, r) : IR))
theorem part_ne (most : Nat) (hm : 1 ≤ most) (xs : List Int) : partF most xs ≠ [] := by
  induction xs with
  | nil => unfold partF; simp
  | cons x xs ih =>
    unfold partF
    obtain ⟨row, l, e⟩ := List.exists_cons_of_ne_nil ih
    rw [e, List.flatMap_cons]; simp
theorem trip_block {m : Int} (hm : 0 < m) {b : List Int} (hb : b ≠ []) (hr : b.Pairwise (· < ·)) (hi : ∀ x ∈ b, 0 < x ∧ x < m) : tripOf m b = tripT m b :=
  (tripOf_is hm hr fun x hx => by have := hi x hx; omega).unique (tripT_is hm fun x hx => by have := hi x hx; omega)
theorem block_in {xs : List Int} {most : Nat} {r : Row} (p : Parts (someT xs) most r) {m : Int} (hx : ∀ x ∈ xs, 0 ≤ x ∧ x < m) : ∀ b ∈ r, ∀ x ∈ b, 0 < x ∧ x < m := fun b hb x hxb => by
  have := (some_mem xs x).mp (p.all.mem_iff.mp (List.mem_flatten.mpr ⟨b, hb, hxb⟩))
  have := hx x this.1
  omega
theorem sum_blocks {m : Int} (hm : 0 < m) {xs : List Int} {most : Nat} (h1 : 1 ≤ most) (hx : ∀ x ∈ xs, 0 ≤ x ∧ x < m) {r : Row} (hr : r ∈ partF most (someT xs)) : (r.map (tripOf m)).sum = sumT m r := by
  unfold sumT
  congr 1
  refine List.map_congr_left fun b hb => ?_
  have p := (partF_goes most h1 (someT xs)).in_ r hr
  exact trip_block hm (p.ne b hb) (partF_rises most h1 (someT xs) (setS_rises _) r hr b hb) (block_in p hx b hb)
theorem bestP_spec {m : Int} (hm : 0 < m) {xs : List Int} {most : Nat} (h1 : 1 ≤ most) (hx : ∀ x ∈ xs, 0 ≤ x ∧ x < m) : (bestP m xs most).2 ∈ partF most (someT xs) ∧ Parts (someT xs) most (bestP m xs most).2 ∧ (bestP m xs most).1 = sumT m (bestP m xs most).2 ∧ ∀ r, Parts (someT xs) most r → (bestP m xs most).1 ≤ sumT m r := by
  have hne : (partF most (someT xs)).map (fun r => (((r.map (tripOf m)).sum, r) : IR)) ≠ [] := fun z => part_ne most h1 (someT xs) (List.map_eq_nil_iff.mp z)
  obtain ⟨o, ho, e⟩ := List.mem_map.mp (minOf_mem hne)
  have e' : bestP m xs most = (sumT m o, o) := by rw [← sum_blocks hm h1 hx ho]; exact e.symm
  refine ⟨by rw [e']; exact ho, by rw [e']; exact (partF_goes most h1 _).in_ o ho, by rw [e'], fun r hp => ?_⟩
  obtain ⟨r', hr', l⟩ := (partF_goes most h1 (someT xs)).all r hp
  have k : (bestP m xs most).1 ≤ (r'.map (tripOf m)).sum := min_fst (y := (((r'.map (tripOf m)).sum, r') : IR)) (List.mem_map.mpr ⟨r', hr', rfl⟩)
  rw [sum_blocks hm h1 hx hr'] at k
  have := Like.sum (f := tripT m) (fun b c h => tripT_perm m h) l
  unfold sumT at *
  omega
theorem Parts.mono {some : List Int} {a b : Nat} (h : a ≤ b) {r : Row} (p : Parts some a r) : Parts some b r := ⟨p.all, p.ne, fun c hc => Nat.le_trans (p.le c hc) h⟩
theorem sumT_nonneg {m : Int} (hm : 0 < m) : ∀ r : Row, (∀ b ∈ r, ∀ x ∈ b, 0 ≤ x ∧ x < m) → 0 ≤ sumT m r
  | [], _ => Int.le_refl _
  | b :: r, h => by
    have ih := sumT_nonneg hm r fun c hc => h c (List.mem_cons_of_mem _ hc)
    have := (tripT_is hm (h b List.mem_cons_self))
    have h0 : 0 ≤ tripT m b := by
      rcases this.at_ with z | ⟨on, back, a1, a2, _, _, z⟩ <;> omega
    unfold sumT at *
    rw [List.map_cons, List.sum_cons]
    omega
theorem tripT_nonneg {m : Int} (hm : 0 < m) {xs : List Int} (h : ∀ x ∈ xs, 0 ≤ x ∧ x < m) : 0 ≤ tripT m xs := by
  rcases (tripT_is hm h).at_ with z | ⟨on, back, a1, a2, _, _, z⟩ <;> omega
/-- one trip to all is no longer than trips to some each -/
theorem trip_join {m : Int} (hm : 0 < m) : ∀ r : Row, (∀ b ∈ r, ∀ x ∈ b, 0 ≤ x ∧ x < m) → tripT m r.flatten ≤ sumT m r
  | [], _ => by unfold sumT tripT nzT; simp
  | b :: r, h => by
    have hb := h b List.mem_cons_self
    have hr : ∀ c ∈ r, ∀ x ∈ c, 0 ≤ x ∧ x < m := fun c hc => h c (List.mem_cons_of_mem _ hc)
    have ih := trip_join hm r hr
    have hf : ∀ x ∈ r.flatten, 0 ≤ x ∧ x < m := fun x hx => by
      obtain ⟨c, hc, hxc⟩ := List.mem_flatten.mp hx
      exact hr c hc x hxc
    have ha : ∀ x ∈ b ++ r.flatten, 0 ≤ x ∧ x < m := fun x hx => (List.mem_append.mp hx).elim (hb x) (hf x)
    have T := tripT_is hm ha
    have n1 := tripT_nonneg hm hb
    have n2 := tripT_nonneg hm hf
    have e : sumT m (b :: r) = tripT m b + sumT m r := by unfold sumT; rw [List.map_cons, List.sum_cons]
    rw [List.flatten_cons, e]
    rcases (tripT_is hm hb).at_ with z | ⟨on, back, a1, a2, a3, a4, z⟩
    · have := T.le; omega
    · rcases (tripT_is hm hf).at_ with z' | ⟨on', back', b1, b2, b3, b4, z'⟩
      · have := T.le; omega
      · have := T.least (max on on') (max back back') (by omega) (by omega) fun x hx => by
          rcases List.mem_append.mp hx with q | q
          · have := a4 x q; omega
          · have := b4 x q; omega
        omega
theorem some_trip {m : Int} (hm : 0 < m) {xs : List Int} (hx : ∀ x ∈ xs, 0 ≤ x ∧ x < m) : tripT m (someT xs) = tripT m xs := by
  refine (tripT_is hm fun x h => hx x ((some_mem xs x).mp h).1).unique ((tripT_is hm hx).congr fun on back => ?_)
  unfold Meets
  constructor
  · intro k x h; exact k x ((some_mem xs x).mp h).1
  · intro k x h
    by_cases e : x = 0
    · exact .inl e
    · exact k x ((some_mem xs x).mpr ⟨h, e⟩)
theorem parts_nonneg {m : Int} {xs : List Int} {most : Nat} {r : Row} (p : Parts (someT xs) most r) (hx : ∀ x ∈ xs, 0 ≤ x ∧ x < m) : ∀ b ∈ r, ∀ x ∈ b, 0 ≤ x ∧ x < m := fun b hb x h => by have := block_in p hx b hb x h; omega
/-- room for all: one trip -/
theorem best_all {m : Int} (hm : 0 < m) {xs : List Int} {most : Nat} (h1 : 1 ≤ most) (hx : ∀ x ∈ xs, 0 ≤ x ∧ x < m) (hl : (someT xs).length ≤ most) : (bestP m xs most).1 = tripT m xs := by
  obtain ⟨-, b2, b3, b4⟩ := bestP_spec hm h1 hx
  have lo := trip_join hm _ (parts_nonneg b2 hx)
  rw [tripT_perm m b2.all, some_trip hm hx, ← b3] at lo
  have hi : (bestP m xs most).1 ≤ tripT m xs := by
    by_cases e : someT xs = []
    · have := b4 [] ⟨by rw [e]; exact List.Perm.refl _, (fun b hb => by cases hb), fun b hb => by cases hb⟩
      have z := tripT_nonneg hm hx
      have z2 : sumT m [] = 0 := rfl
      omega
    · have := b4 [someT xs] ⟨by simp, fun b hb => by rw [List.mem_singleton.mp hb]; exact e, fun b hb => by rw [List.mem_singleton.mp hb]; exact hl⟩
      have z2 : sumT m [someT xs] = tripT m (someT xs) := by unfold sumT; simp
      rw [z2, some_trip hm hx] at this
      exact this
  omega
theorem trip_one {m x : Int} (hx : 0 < x ∧ x < m) : tripT m [x] = 2 * far m 0 x := by
  have hm : 0 < m := by omega
  have hf := far_min (m := m) (a := 0) (b := x) ⟨by omega, hm⟩ ⟨by omega, hx.2⟩
  rw [if_pos (by omega), Int.sub_zero] at hf
  refine (tripT_is hm (fun y hy => by rw [List.mem_singleton.mp hy]; omega)).unique ⟨by omega, .inr ?_, fun on back n1 n2 mt => ?_⟩
  · by_cases h : x ≤ m - x
    · exact ⟨x, 0, by omega, by omega, by omega, fun y hy => by rw [List.mem_singleton.mp hy]; omega, by omega⟩
    · exact ⟨0, m - x, by omega, by omega, by omega, fun y hy => by rw [List.mem_singleton.mp hy]; omega, by omega⟩
  · have := mt x List.mem_cons_self
    omega
theorem best_one {m : Int} (hm : 0 < m) {xs : List Int} (hx : ∀ x ∈ xs, 0 ≤ x ∧ x < m) : (bestP m xs 1).1 = ((someT xs).map fun x => 2 * far m 0 x).sum := by
  obtain ⟨-, b2, b3, -⟩ := bestP_spec hm (Nat.le_refl 1) hx
  have key : ∀ r : Row, (∀ b ∈ r, b ≠ [] ∧ b.length ≤ 1 ∧ ∀ x ∈ b, 0 < x ∧ x < m) → sumT m r = (r.flatten.map fun x => 2 * far m 0 x).sum := by
    intro r
    induction r with
    | nil => intro _; rfl
    | cons b r ih =>
      intro h
      have ih := ih fun c hc => h c (List.mem_cons_of_mem _ hc)
      obtain ⟨h1, h2, h3⟩ := h b List.mem_cons_self
      obtain ⟨x, t, rfl⟩ := List.exists_cons_of_ne_nil h1
      have ht : t = [] := List.length_eq_zero_iff.mp (by simp at h2; simpa using h2)
      subst ht
      unfold sumT at *
      rw [List.map_cons, List.sum_cons, ih, List.flatten_cons, List.map_append, List.sum_append, trip_one (h3 x List.mem_cons_self)]
      simp
  rw [b3, key _ fun b hb => ⟨b2.ne b hb, b2.le b hb, block_in b2 hx b hb⟩]
  exact sum_perm (b2.all.map _)
theorem sum_filter (f : Int → Int) (p : Int → Bool) : ∀ l : List Int, (∀ x ∈ l, p x = false → f x = 0) → (l.map f).sum = ((l.filter p).map f).sum
  | [], _ => rfl
  | x :: l, h => by
    have ih := sum_filter f p l fun y hy => h y (List.mem_cons_of_mem _ hy)
    rw [List.map_cons, List.sum_cons, ih]
    cases q : p x with
    | true => rw [List.filter_cons_of_pos q, List.map_cons, List.sum_cons]
    | false => rw [List.filter_cons_of_neg (by simp [q]), h x List.mem_cons_self q, Int.zero_add]
theorem some_set {m : Int} (hm : 0 < m) (xs : List Int) : ((setS xs).map fun x => 2 * far m 0 x).sum = ((someT xs).map fun x => 2 * far m 0 x).sum := by
  have e : someT xs = (setS xs).filter fun x => decide (x ≠ 0) := rises_unique (setS_rises _) ((setS_rises xs).sublist List.filter_sublist) fun k => by
    rw [some_mem, List.mem_filter, setS_mem]; simp
  rw [e]
  refine sum_filter _ _ _ fun x _ h => ?_
  have : x = 0 := by simpa using h
  rw [this, far_self m 0 hm]; rfl
theorem sumT_ge {m : Int} (hm : 0 < m) : ∀ (r : Row) (b : List Int), (∀ c ∈ r, ∀ x ∈ c, 0 ≤ x ∧ x < m) → b ∈ r → tripT m b ≤ sumT m r
  | [], b, _, hb => by cases hb
  | c :: r, b, h, hb => by
    have e : sumT m (c :: r) = tripT m c + sumT m r := by unfold sumT; rw [List.map_cons, List.sum_cons]
    have hr : ∀ c ∈ r, ∀ x ∈ c, 0 ≤ x ∧ x < m := fun d hd => h d (List.mem_cons_of_mem _ hd)
    have n1 := sumT_nonneg hm r hr
    have n2 := tripT_nonneg hm (h c List.mem_cons_self)
    rw [e]
    rcases List.mem_cons.mp hb with rfl | hb
    · omega
    · have := sumT_ge hm r b hr hb; omega
theorem best_wide {m : Int} (hm : 0 < m) {xs : List Int} {most : Nat} (h1 : 1 ≤ most) (hx : ∀ x ∈ xs, 0 ≤ x ∧ x < m) {x : Int} (h : x ∈ xs) : 2 * far m 0 x ≤ (bestP m xs most).1 ∨ m ≤ (bestP m xs most).1 := by
  obtain ⟨-, b2, b3, -⟩ := bestP_spec hm h1 hx
  have nn := parts_nonneg b2 hx
  have hx0 := hx x h
  have hf := far_min (m := m) (a := 0) (b := x) ⟨by omega, hm⟩ hx0
  rw [if_pos hx0.1, Int.sub_zero] at hf
  by_cases e : x = 0
  · have := sumT_nonneg hm _ nn
    left; omega
  · obtain ⟨b, hb, hxb⟩ := List.mem_flatten.mp (b2.all.mem_iff.mpr ((some_mem xs x).mpr ⟨h, e⟩))
    have g := sumT_ge hm _ b nn hb
    rcases (tripT_is hm (nn b hb)).at_ with z | ⟨on, back, a1, a2, _, mt, z⟩
    · right; omega
    · have := mt x hxb
      left; omega
/-- fewer shelves never take more -/
theorem best_sub {m : Int} (hm : 0 < m) {xs ys : List Int} {most : Nat} (h1 : 1 ≤ most) (hx : ∀ x ∈ xs, 0 ≤ x ∧ x < m) (hy : ∀ y ∈ ys, y ∈ xs) : (bestP m ys most).1 ≤ (bestP m xs most).1 := by
  obtain ⟨-, b2, b3, -⟩ := bestP_spec hm h1 hx
  obtain ⟨-, -, -, c4⟩ := bestP_spec hm h1 (fun y h => hx y (hy y h))
  have nn := parts_nonneg b2 hx
  have fl : ∀ r : Row, (((r.map fun b => b.filter fun x => decide (x ∈ someT ys)).filter fun b => decide (b ≠ [])).flatten) = r.flatten.filter fun x => decide (x ∈ someT ys) := by
    intro r
    induction r with
    | nil => rfl
    | cons b r ih =>
      rw [List.map_cons, List.flatten_cons, List.filter_append]
      by_cases e : (b.filter fun x => decide (x ∈ someT ys)) = []
      · rw [List.filter_cons_of_neg (by simp only [e]; simp), ih, e, List.nil_append]
      · rw [List.filter_cons_of_pos (by simpa using e), List.flatten_cons, ih]
  have le : ∀ r : Row, (∀ b ∈ r, ∀ x ∈ b, 0 ≤ x ∧ x < m) → sumT m ((r.map fun b => b.filter fun x => decide (x ∈ someT ys)).filter fun b => decide (b ≠ [])) ≤ sumT m r := by
    intro r
    induction r with
    | nil => intro _; exact Int.le_refl _
    | cons b r ih =>
      intro h
      have ih := ih fun c hc => h c (List.mem_cons_of_mem _ hc)
      have hb := h b List.mem_cons_self
      have e0 : sumT m (b :: r) = tripT m b + sumT m r := by unfold sumT; rw [List.map_cons, List.sum_cons]
      have n2 := tripT_nonneg hm hb
      rw [List.map_cons, e0]
      by_cases e : (b.filter fun x => decide (x ∈ someT ys)) = []
      · rw [List.filter_cons_of_neg (by simp only [e]; simp)]; omega
      · rw [List.filter_cons_of_pos (by simpa using e)]
        have mono := (tripT_is hm hb).mono (tripT_is (xs := b.filter fun x => decide (x ∈ someT ys)) hm fun x hx => hb x (List.mem_filter.mp hx).1) fun y hy => .inr (List.mem_filter.mp hy).1
        have e1 : ∀ (c : List Int) (q : Row), sumT m (c :: q) = tripT m c + sumT m q := fun c q => by unfold sumT; rw [List.map_cons, List.sum_cons]
        rw [e1]; omega
  have p : Parts (someT ys) most (((bestP m xs most).2.map fun b => b.filter fun x => decide (x ∈ someT ys)).filter fun b => decide (b ≠ [])) := by
    refine ⟨?_, fun b hb => ?_, fun b hb => ?_⟩
    · rw [fl]
      refine (b2.all.filter _).trans ?_
      refine (List.perm_ext_iff_of_nodup ((setS_nodup _).sublist List.filter_sublist) (setS_nodup _)).mpr fun k => ?_
      rw [List.mem_filter, decide_eq_true_eq]
      constructor
      · exact fun z => z.2
      · intro z
        have z' := (some_mem ys k).mp z
        exact ⟨(some_mem xs k).mpr ⟨hy k z'.1, z'.2⟩, z⟩
    · have := (List.mem_filter.mp hb).2; simpa using this
    · obtain ⟨c, hc, rfl⟩ := List.mem_map.mp (List.mem_filter.mp hb).1
      exact Nat.le_trans (List.length_filter_le _ _) (b2.le c hc)
  have := c4 _ p
  have := le _ nn
  omega
/-- from the other side -/
def mir (m x : Int) : Int := -x % m
theorem mir_mir {m x : Int} (h : 0 ≤ x ∧ x < m) : mir m (mir m x) = x := neg_neg_mod h
theorem best_mir_le {m : Int} (hm : 0 < m) {xs : List Int} {most : Nat} (h1 : 1 ≤ most) (hx : ∀ x ∈ xs, 0 ≤ x ∧ x < m) : (bestP m (xs.map (mir m)) most).1 ≤ (bestP m xs most).1 := by
  obtain ⟨-, b2, b3, -⟩ := bestP_spec hm h1 hx
  have hy : ∀ y ∈ xs.map (mir m), 0 ≤ y ∧ y < m := mirror_in hm xs
  obtain ⟨-, -, -, c4⟩ := bestP_spec hm h1 hy
  have nn := parts_nonneg b2 hx
  have sm : ∀ r : Row, (∀ b ∈ r, ∀ x ∈ b, 0 ≤ x ∧ x < m) → sumT m (r.map fun b => b.map (mir m)) = sumT m r := by
    intro r
    induction r with
    | nil => intro _; rfl
    | cons b r ih =>
      intro h
      have ih := ih fun c hc => h c (List.mem_cons_of_mem _ hc)
      have hb := h b List.mem_cons_self
      have e : tripT m (b.map (mir m)) = tripT m b := (tripT_is hm (mirror_in hm b)).unique ((tripT_is hm hb).mirror hm hb)
      have e1 : ∀ (c : List Int) (q : Row), sumT m (c :: q) = tripT m c + sumT m q := fun c q => by unfold sumT; rw [List.map_cons, List.sum_cons]
      rw [List.map_cons, e1, e1, ih, e]
  have inj : ∀ a ∈ someT xs, ∀ b ∈ someT xs, mir m a = mir m b → a = b := fun a ha b hb e => by
    rw [← mir_mir (hx a ((some_mem xs a).mp ha).1), e, mir_mir (hx b ((some_mem xs b).mp hb).1)]
  have ndm : ((someT xs).map (mir m)).Nodup := by
    have nd := setS_nodup (nzT xs)
    unfold someT at *
    generalize setS (nzT xs) = l at *
    clear b2 b3 nn sm
    induction l with
    | nil => exact List.nodup_nil
    | cons a l ih =>
      obtain ⟨n1, n2⟩ := List.nodup_cons.mp nd
      rw [List.map_cons]
      refine List.nodup_cons.mpr ⟨fun z => ?_, ih (fun a ha b hb => inj a (List.mem_cons_of_mem _ ha) b (List.mem_cons_of_mem _ hb)) n2⟩
      obtain ⟨b, hb, e⟩ := List.mem_map.mp z
      have := inj b (List.mem_cons_of_mem _ hb) a List.mem_cons_self e
      exact n1 (this ▸ hb)
  have pm : ((someT xs).map (mir m)).Perm (someT (xs.map (mir m))) := by
    refine (List.perm_ext_iff_of_nodup ndm (setS_nodup _)).mpr fun k => ?_
    rw [List.mem_map]
    show _ ↔ k ∈ someT (xs.map (mir m))
    rw [some_mem, List.mem_map]
    constructor
    · rintro ⟨x, h, rfl⟩
      have hs := (some_mem xs x).mp h
      have hx0 := hx x hs.1
      refine ⟨⟨x, hs.1, rfl⟩, ?_⟩
      unfold mir
      rw [neg_emod hx0, if_neg hs.2]; omega
    · rintro ⟨⟨x, h, rfl⟩, k0⟩
      refine ⟨x, (some_mem xs x).mpr ⟨h, fun z => k0 ?_⟩, rfl⟩
      rw [z]; unfold mir; simp
  have p : Parts (someT (xs.map (mir m))) most ((bestP m xs most).2.map fun b => b.map (mir m)) := by
    refine ⟨?_, fun b hb => ?_, fun b hb => ?_⟩
    · rw [← List.map_flatten]
      exact (b2.all.map _).trans pm
    · obtain ⟨c, hc, rfl⟩ := List.mem_map.mp hb
      exact fun z => b2.ne c hc (List.map_eq_nil_iff.mp z)
    · obtain ⟨c, hc, rfl⟩ := List.mem_map.mp hb
      rw [List.length_map]; exact b2.le c hc
  have := c4 _ p
  rw [sm _ nn] at this
  omega
theorem best_mir {m : Int} (hm : 0 < m) {xs : List Int} {most : Nat} (h1 : 1 ≤ most) (hx : ∀ x ∈ xs, 0 ≤ x ∧ x < m) : (bestP m (xs.map (mir m)) most).1 = (bestP m xs most).1 := by
  have a := best_mir_le hm h1 hx
  have b := best_mir_le hm h1 (mirror_in hm xs)
  have e : (xs.map (mir m)).map (mir m) = xs := by
    rw [List.map_map]
    conv => rhs; rw [← List.map_id xs]
    exact List.map_congr_left fun x h => mir_mir (hx x h)
  have b' : (bestP m ((xs.map (mir m)).map (mir m)) most).1 ≤ (bestP m (xs.map (mir m)) most).1 := b
  rw [e] at b'
  omega
end Mi
namespace Mi
open PySem PySem.Spec PyProof.Rows L2
open Da (toD)
/-! the best way by choices -/
abbrev IT := Int × Tu Int
abbrev MadeT := List (Int × IT)
def Sel : List Int → List (List Int) → Prop
  | [], [] => True
  | r :: rs, c :: cs => r ∈ c ∧ Sel rs cs
  | _, _ => False
theorem Sel.length : ∀ {r : List Int} {cs : List (List Int)}, Sel r cs → r.length = cs.length
  | [], [], _ => rfl
  | _ :: _, _ :: _, h => by simp [Sel.length h.2]
  | [], _ :: _, h => h.elim
  | _ :: _, [], h => h.elim
theorem sel_snoc {x : Int} {c : List Int} : ∀ {r : List Int} {cs : List (List Int)}, Sel r cs → x ∈ c → Sel (r ++ [x]) (cs ++ [c])
  | [], [], _, h => ⟨h, trivial⟩
  | _ :: _, _ :: _, h, hx => ⟨h.1, sel_snoc h.2 hx⟩
  | [], _ :: _, h, _ => h.elim
  | _ :: _, [], h, _ => h.elim
theorem sel_last {c : List Int} : ∀ {cs : List (List Int)} {r : List Int}, Sel r (cs ++ [c]) → ∃ r' x, r = r' ++ [x] ∧ Sel r' cs ∧ x ∈ c
  | [], [], h => h.elim
  | [], [x], h => ⟨[], x, rfl, trivial, h.1⟩
  | [], _ :: _ :: _, h => h.2.elim
  | _ :: _, [], h => h.elim
  | _ :: cs, y :: r, h => by
    obtain ⟨r', x, rfl, h1, h2⟩ := sel_last h.2
    exact ⟨y :: r', x, rfl, ⟨h.1, h1⟩, h2⟩
theorem sel_get : ∀ {r : List Int} {cs : List (List Int)} {i : Nat}, Sel r cs → i < r.length → nth r i ∈ cs.getD i []
  | _ :: _, _ :: _, 0, h, _ => h.1
  | _ :: r, _ :: cs, i + 1, h, hi => sel_get (i := i) h.2 (by simpa using hi)
  | [], _, _, _, hi => by simp at hi
  | _ :: _, [], _, h, _ => h.elim
theorem sel_in {P : Int → Prop} : ∀ {r : List Int} {cs : List (List Int)}, Sel r cs → (∀ c ∈ cs, ∀ x ∈ c, P x) → ∀ x ∈ r, P x
  | [], [], _, _, x, h => by cases h
  | y :: r, c :: cs, h, hc, x, hx => by
    rcases List.mem_cons.mp hx with rfl | hx
    · exact hc c List.mem_cons_self _ h.1
    · exact sel_in h.2 (fun c' h' => hc c' (List.mem_cons_of_mem _ h')) x hx
  | [], _ :: _, h, _, _, _ => h.elim
  | _ :: _, [], h, _, _, _ => h.elim
theorem sel_mono : ∀ {r : List Int} {cs ds : List (List Int)}, Sel r cs → cs.length = ds.length → (∀ i, ∀ x ∈ cs.getD i [], x ∈ ds.getD i []) → Sel r ds
  | [], [], [], _, _, _ => trivial
  | y :: r, c :: cs, d :: ds, h, hl, hi => ⟨hi 0 _ h.1, sel_mono h.2 (by simpa using hl) fun i => hi (i + 1)⟩
  | [], [], _ :: _, _, hl, _ => by simp at hl
  | _ :: _, _ :: _, [], _, hl, _ => by simp at hl
  | [], _ :: _, _, h, _, _ => h.elim
  | _ :: _, [], _, h, _, _ => h.elim
theorem sel_ones : ∀ (xs r : List Int), Sel r (xs.map fun x => [x]) ↔ r = xs
  | [], [] => by simp [Sel]
  | [], _ :: _ => by simp [Sel]
  | _ :: _, [] => by simp [Sel]
  | x :: xs, y :: r => by
    show (y ∈ [x] ∧ Sel r (xs.map fun x => [x])) ↔ _
    rw [sel_ones xs r]; simp
theorem sel_ex : ∀ {cs : List (List Int)}, (∀ c ∈ cs, c ≠ []) → ∃ r, Sel r cs
  | [], _ => ⟨[], trivial⟩
  | c :: cs, h => by
    obtain ⟨r, hr⟩ := sel_ex (cs := cs) fun c' h' => h c' (List.mem_cons_of_mem _ h')
    obtain ⟨x, hx⟩ := List.exists_mem_of_ne_nil c (h c List.mem_cons_self)
    exact ⟨x :: r, hx, hr⟩
/-- in its place, or at the end -/
def putA (made : MadeT) (k : Int) (v : IT) : MadeT := if (made.any fun p => decide (p.1 = k)) = true then made.map (fun p => if p.1 = k then (p.1, v) else p) else made ++ [(k, v)]
def valW (m : Int) (made : MadeT) (one : Int) : IT := minOf (made.map fun p => ((p.2.1 + far m p.1 one, ⟨p.2.2.l ++ [one]⟩) : IT))
def stepW (m : Int) (made : MadeT) (some : List Int) : MadeT := some.foldl (fun later one => putA later one (valW m made one)) []
def waysW (m st : Int) (cs : List (List Int)) : MadeT := cs.foldl (stepW m) [(st, (0, ⟨[]⟩))]
def bestW (m st : Int) (cs : List (List Int)) : IT := minOf ((waysW m st cs).map (·.2))
theorem putA_same {v : Int → IT} {acc : MadeT} (h : ∀ p ∈ acc, p.2 = v p.1) (k : Int) : putA acc k (v k) = if k ∈ acc.map (·.1) then acc else acc ++ [(k, v k)] := by
  unfold putA
  have e : (acc.any fun p => decide (p.1 = k)) = true ↔ k ∈ acc.map (·.1) := by
    rw [List.any_eq_true, List.mem_map]
    simp
  by_cases q : k ∈ acc.map (·.1)
  · rw [if_pos (e.mpr q), if_pos q]
    conv => rhs; rw [← List.map_id acc]
    apply List.map_congr_left
    intro p hp
    by_cases z : p.1 = k
    · rw [if_pos z, ← z, ← h p hp]; rfl
    · rw [if_neg z]; rfl
  · rw [if_neg (fun z => q (e.mp z)), if_neg q]
theorem put_fold {v : Int → IT} : ∀ (some : List Int) (acc : MadeT), (∀ p ∈ acc, p.2 = v p.1) → (acc.map (·.1)).Nodup →
    let r := some.foldl (fun later one => putA later one (v one)) acc
    (∀ p ∈ r, p.2 = v p.1) ∧ (r.map (·.1)).Nodup ∧ (∀ k, k ∈ r.map (·.1) ↔ k ∈ acc.map (·.1) ∨ k ∈ some) ∧ r.length ≤ acc.length + some.length
  | [], acc, h1, h2 => ⟨h1, h2, fun k => by simp, by simp⟩
  | x :: xs, acc, h1, h2 => by
    have e := putA_same h1 x
    have step : (∀ p ∈ putA acc x (v x), p.2 = v p.1) ∧ ((putA acc x (v x)).map (·.1)).Nodup ∧ (∀ k, k ∈ (putA acc x (v x)).map (·.1) ↔ k ∈ acc.map (·.1) ∨ k = x) ∧ (putA acc x (v x)).length ≤ acc.length + 1 := by
      rw [e]
      by_cases q : x ∈ acc.map (·.1)
      · rw [if_pos q]
        refine ⟨h1, h2, fun k => ⟨.inl, fun z => z.elim id fun z => z ▸ q⟩, by omega⟩
      · rw [if_neg q]
        refine ⟨fun p hp => ?_, ?_, fun k => by simp, by simp⟩
        · rcases List.mem_append.mp hp with hp | hp
          · exact h1 p hp
          · rw [List.mem_singleton.mp hp]
        · rw [List.map_append, List.nodup_append]
          refine ⟨h2, by simp, fun a ha b hb z => q ?_⟩
          have hb' : b = x := by simpa using hb
          rw [← hb', ← z]; exact ha
    obtain ⟨r1, r2, r3, r4⟩ := put_fold xs (putA acc x (v x)) step.1 step.2.1
    refine ⟨r1, r2, fun k => ?_, ?_⟩
    · rw [List.foldl_cons, r3, step.2.2.1, List.mem_cons]
      constructor
      · rintro ((h | h) | h)
        · exact .inl h
        · exact .inr (.inl h)
        · exact .inr (.inr h)
      · rintro (h | h | h)
        · exact .inl (.inl h)
        · exact .inl (.inr h)
        · exact .inr h
    · rw [List.foldl_cons, List.length_cons]; have := step.2.2.2; omega
structure WInv (m st : Int) (cs : List (List Int)) (made : MadeT) : Prop where
  nd : (made.map (·.1)).Nodup
  ne : made ≠ []
  ok : ∀ p ∈ made, p.2.1 = alongT m st p.2.2.l ∧ Sel p.2.2.l cs ∧ lastO st p.2.2.l = p.1
  all : ∀ row, Sel row cs → ∃ p ∈ made, p.1 = lastO st row ∧ p.2.1 ≤ alongT m st row
theorem lastO_snoc (st x : Int) (l : List Int) : lastO st (l ++ [x]) = x := by rw [lastO_app]; rfl
theorem along_snoc (m st x : Int) (l : List Int) : alongT m st (l ++ [x]) = alongT m st l + far m (lastO st l) x := by
  rw [along_app]
  have : alongT m (lastO st l) [x] = far m (lastO st l) x := by simp [alongT]
  rw [this]
theorem WInv.step {m st : Int} {cs : List (List Int)} {made : MadeT} (W : WInv m st cs made) {c : List Int} (hc : c ≠ []) : WInv m st (cs ++ [c]) (stepW m made c) := by
  obtain ⟨r1, r2, r3, r4⟩ := put_fold (v := valW m made) c [] (fun _ h => by cases h) (by simp)
  have r3' : ∀ k, k ∈ (stepW m made c).map (·.1) ↔ k ∈ c := fun k => by
    have := r3 k
    simpa [stepW] using this
  have in_ : ∀ p ∈ stepW m made c, p.1 ∈ c ∧ p.2 = valW m made p.1 := fun p hp => ⟨(r3' _).mp (List.mem_map.mpr ⟨p, hp, rfl⟩), r1 p hp⟩
  have has : ∀ x ∈ c, ((x, valW m made x) : Int × IT) ∈ stepW m made c := fun x hx => by
    obtain ⟨p, hp, e⟩ := List.mem_map.mp ((r3' x).mpr hx)
    have e2 := (in_ p hp).2
    have : p = (x, valW m made x) := by rw [← e, ← e2]
    rw [← this]; exact hp
  have mne : ∀ x : Int, made.map (fun p => ((p.2.1 + far m p.1 x, ⟨p.2.2.l ++ [x]⟩) : IT)) ≠ [] := fun x z => W.ne (List.map_eq_nil_iff.mp z)
  refine ⟨r2, ?_, fun p hp => ?_, fun row hr => ?_⟩
  · obtain ⟨x, hx⟩ := List.exists_mem_of_ne_nil c hc
    exact List.ne_nil_of_mem (has x hx)
  · obtain ⟨h1, h2⟩ := in_ p hp
    obtain ⟨q, hq, e⟩ := List.mem_map.mp (minOf_mem (mne p.1))
    have e' : p.2 = (q.2.1 + far m q.1 p.1, ⟨q.2.2.l ++ [p.1]⟩) := by rw [h2]; exact e.symm
    obtain ⟨k1, k2, k3⟩ := W.ok q hq
    rw [e']
    refine ⟨?_, sel_snoc k2 h1, lastO_snoc _ _ _⟩
    show q.2.1 + far m q.1 p.1 = alongT m st (q.2.2.l ++ [p.1])
    rw [along_snoc, k3, k1]
  · obtain ⟨r', x, rfl, h1, h2⟩ := sel_last hr
    obtain ⟨p, hp, e1, e2⟩ := W.all r' h1
    refine ⟨_, has x h2, (lastO_snoc _ _ _).symm, ?_⟩
    have := min_fst (List.mem_map.mpr ⟨p, hp, rfl⟩ : ((p.2.1 + far m p.1 x, ⟨p.2.2.l ++ [x]⟩) : IT) ∈ made.map (fun p => ((p.2.1 + far m p.1 x, ⟨p.2.2.l ++ [x]⟩) : IT)))
    have this' : (valW m made x).1 ≤ p.2.1 + far m p.1 x := this
    rw [along_snoc, ← e1]
    show (valW m made x).1 ≤ _
    omega
theorem ways_inv (m st : Int) : ∀ (cs done : List (List Int)) (made : MadeT), (∀ c ∈ cs, c ≠ []) → WInv m st done made → WInv m st (done ++ cs) (cs.foldl (stepW m) made)
  | [], done, made, _, h => by simpa using h
  | c :: cs, done, made, hc, h => by
    have := ways_inv m st cs (done ++ [c]) _ (fun c' h' => hc c' (List.mem_cons_of_mem _ h')) (h.step (hc c List.mem_cons_self))
    rw [List.foldl_cons]
    simpa using this
theorem waysW_inv (m st : Int) {cs : List (List Int)} (h : ∀ c ∈ cs, c ≠ []) : WInv m st cs (waysW m st cs) := by
  refine ways_inv m st cs [] _ h ⟨by simp, by simp, fun p hp => ?_, fun row hr => ?_⟩
  · rw [List.mem_singleton.mp hp]; exact ⟨rfl, trivial, rfl⟩
  · cases row with
    | nil => exact ⟨_, List.mem_singleton.mpr rfl, rfl, Int.le_refl _⟩
    | cons x r => exact hr.elim
theorem bestW_spec (m st : Int) {cs : List (List Int)} (h : ∀ c ∈ cs, c ≠ []) : (bestW m st cs).1 = alongT m st (bestW m st cs).2.l ∧ Sel (bestW m st cs).2.l cs ∧ ∀ row, Sel row cs → (bestW m st cs).1 ≤ alongT m st row := by
  have W := waysW_inv m st h
  have hne : (waysW m st cs).map (·.2) ≠ [] := fun z => W.ne (List.map_eq_nil_iff.mp z)
  obtain ⟨p, hp, e⟩ := List.mem_map.mp (minOf_mem hne)
  have e' : bestW m st cs = p.2 := e.symm
  obtain ⟨k1, k2, k3⟩ := W.ok p hp
  refine ⟨by rw [e']; exact k1, by rw [e']; exact k2, fun row hr => ?_⟩
  obtain ⟨q, hq, e1, e2⟩ := W.all row hr
  have := min_fst (List.mem_map.mpr ⟨q, hq, rfl⟩ : q.2 ∈ (waysW m st cs).map (·.2))
  have this' : (bestW m st cs).1 ≤ q.2.1 := this
  omega
theorem best_sub_ch (m st : Int) {cs ds : List (List Int)} (hc : ∀ c ∈ cs, c ≠ []) (hd : ∀ c ∈ ds, c ≠ []) (hl : cs.length = ds.length) (hi : ∀ i, ∀ x ∈ cs.getD i [], x ∈ ds.getD i []) : (bestW m st ds).1 ≤ (bestW m st cs).1 := by
  obtain ⟨a1, a2, -⟩ := bestW_spec m st hc
  obtain ⟨-, -, b3⟩ := bestW_spec m st hd
  rw [a1]
  exact b3 _ (sel_mono a2 hl hi)
theorem best_ones (m st : Int) (xs : List Int) : (bestW m st (xs.map fun x => [x])).1 = alongT m st xs := by
  obtain ⟨a1, a2, -⟩ := bestW_spec m st (cs := xs.map fun x => [x]) (fun c hc => by obtain ⟨x, _, rfl⟩ := List.mem_map.mp hc; simp)
  rw [a1, (sel_ones xs _).mp a2]
theorem stepW_len (m : Int) (made : MadeT) (c : List Int) : (stepW m made c).length ≤ c.length := by
  obtain ⟨r1, r2, r3, r4⟩ := put_fold (v := valW m made) c [] (fun _ h => by cases h) (by simp)
  simpa [stepW] using r4
theorem stepW_nd (m : Int) (made : MadeT) (c : List Int) : ((stepW m made c).map (·.1)).Nodup := (put_fold (v := valW m made) c [] (fun _ h => by cases h) (by simp)).2.1
theorem stepW_ne (m : Int) (made : MadeT) {c : List Int} (hc : c ≠ []) : stepW m made c ≠ [] := fun z => by
  obtain ⟨x, hx⟩ := List.exists_mem_of_ne_nil c hc
  have := ((put_fold (v := valW m made) c [] (fun _ h => by cases h) (by simp)).2.2.1 x).mpr (.inr hx)
  have e : c.foldl (fun later one => putA later one (valW m made one)) [] = [] := z
  rw [e] at this; cases this
/-! as a dict -/
def keysA (made : MadeT) : List Key := made.map fun p => .inl p.1
def valsA (made : MadeT) : List D := made.map fun p => toD p.2
def dicA (made : MadeT) : D := .dic (keysA made) (valsA made)
theorem hasK_A (made : MadeT) (k : Int) : hasK (keysA made) (.inl k) = made.any fun p => decide (p.1 = k) := by
  unfold hasK keysA
  rw [List.any_map]
  congr 1
  funext p
  simp
theorem putKs_A (made : MadeT) (k : Int) (v : IT) : putKs (keysA made) (.inl k) = keysA (putA made k v) := by
  unfold putKs putA
  rw [hasK_A]
  split
  · unfold keysA
    rw [List.map_map]
    apply List.map_congr_left
    intro p _
    show _ = Sum.inl (if p.1 = k then (p.1, v) else p).1
    split <;> rfl
  · simp [keysA]
theorem replD_A (k : Int) (v : IT) : ∀ made : MadeT, replD (keysA made) (valsA made) (.inl k) (toD v) = valsA (made.map fun p => if p.1 = k then (p.1, v) else p)
  | [] => rfl
  | p :: made => by
    have ih := replD_A k v made
    show (if (Sum.inl p.1 : Key) = .inl k then toD v else toD p.2) :: replD (keysA made) (valsA made) (.inl k) (toD v) = toD (if p.1 = k then (p.1, v) else p).2 :: valsA (made.map _)
    rw [ih]
    by_cases q : p.1 = k
    · rw [if_pos q, if_pos (by rw [q])]
    · rw [if_neg q, if_neg (fun z => q (by simpa using z))]
theorem putVs_A (made : MadeT) (k : Int) (v : IT) : putVs (keysA made) (valsA made) (.inl k) (toD v) = valsA (putA made k v) := by
  unfold putVs putA
  rw [hasK_A]
  split
  · exact replD_A k v made
  · simp [valsA]
theorem valD_A : ∀ {made : MadeT} {p : Int × IT}, (made.map (·.1)).Nodup → p ∈ made → valD (keysA made) (valsA made) (.inl p.1) = some (toD p.2)
  | q :: made, p, hn, hp => by
    show (if (Sum.inl q.1 : Key) = .inl p.1 then some (toD q.2) else valD (keysA made) (valsA made) (.inl p.1)) = _
    rw [List.map_cons, List.nodup_cons] at hn
    rcases List.mem_cons.mp hp with rfl | hp
    · rw [if_pos rfl]
    · rw [if_neg (fun z => hn.1 (List.mem_map.mpr ⟨p, hp, by simpa using z.symm⟩))]
      exact valD_A hn.2 hp
theorem keys_dKey (made : MadeT) : (keysA made).map dKey = made.map fun p => D.int p.1 := by unfold keysA; rw [List.map_map]; rfl
theorem keys_ok (made : MadeT) : keysOk (keysA made) = true := by unfold keysOk keysA; rw [List.all_map, List.all_eq_true]; intro p _; rfl
end Mi
namespace Mi
open PySem PySem.Spec PyProof.Rows L2
open Da (toD)
theorem toD_it (p : IT) : (toD p : D) = .tup [.int p.1, .tup (p.2.l.map D.int)] := rfl
theorem stepW_way (m : Int) {made : MadeT} (hne : made ≠ []) {i : Nat} (h : ∀ p ∈ made, p.2.2.l.length ≤ i) (c : List Int) : ∀ p ∈ stepW m made c, p.2.2.l.length ≤ i + 1 := fun p hp => by
  have r1 := (put_fold (v := valW m made) c [] (fun _ h => by cases h) (by simp)).1 p hp
  have mne : made.map (fun q => ((q.2.1 + far m q.1 p.1, ⟨q.2.2.l ++ [p.1]⟩) : IT)) ≠ [] := fun z => hne (List.map_eq_nil_iff.mp z)
  obtain ⟨q, hq, e⟩ := List.mem_map.mp (minOf_mem mne)
  have e' : p.2 = (q.2.1 + far m q.1 p.1, ⟨q.2.2.l ++ [p.1]⟩) := by rw [r1]; exact e.symm
  rw [e']
  have := h q hq
  show (q.2.2.l ++ [p.1]).length ≤ i + 1
  simp; omega
theorem putA_len (v : MadeT) (k : Int) (x : IT) : (putA v k x).length ≤ v.length + 1 := by
  unfold putA; split <;> simp
theorem clean_vals (made : MadeT) : cleanL (valsA made) = true := by
  unfold valsA
  have : made.map (fun p => toD p.2) = (made.map (·.2)).map toD := by rw [List.map_map]; rfl
  rw [this]; exact cleanL_map _
def frontsT (m : Int) (ds xs : List Int) : List (List Int) := xs.map fun x => ds.map fun d => (x - d) % m
theorem unmod {m x d : Int} (hm : 0 < m) (hd : 0 ≤ d ∧ d < m) : (x - (x - d) % m) % m = d := by
  have h1 : (x - (x - d) % m) % m = (x - (x - d)) % m := by rw [Int.sub_emod, Int.emod_emod, ← Int.sub_emod]
  rw [h1, show x - (x - d) = d by omega]
  exact Int.emod_eq_of_lt hd.1 hd.2
theorem sel_fronts {m : Int} (hm : 0 < m) {ds : List Int} (hd : ∀ d ∈ ds, 0 ≤ d ∧ d < m) : ∀ {xs way : List Int}, Sel way (frontsT m ds xs) →
    (∀ d ∈ (xs.zip way).map (fun p => (p.1 - p.2) % m), d ∈ ds) ∧ (xs.zip ((xs.zip way).map fun p => (p.1 - p.2) % m)).map (fun p => (p.1 - p.2) % m) = way ∧ way.length = xs.length
  | [], [], _ => ⟨fun d h => by simp at h, rfl, rfl⟩
  | [], _ :: _, h => h.elim
  | _ :: _, [], h => h.elim
  | x :: xs, y :: way, h => by
    obtain ⟨h1, h2⟩ := h
    obtain ⟨a1, a2, a3⟩ := sel_fronts hm hd (xs := xs) (way := way) h2
    obtain ⟨d, k1, rfl⟩ := List.mem_map.mp h1
    refine ⟨fun z hz => ?_, ?_, by simp [a3]⟩
    · rw [List.zip_cons_cons, List.map_cons] at hz
      rcases List.mem_cons.mp hz with e | hz
      · have e' : z = (x - (x - d) % m) % m := e
        rw [e', unmod hm (hd d k1)]; exact k1
      · exact a1 z hz
    · rw [List.zip_cons_cons, List.map_cons, List.zip_cons_cons, List.map_cons, a2]
      congr 1
      show (x - (x - (x - d) % m) % m) % m = (x - d) % m
      rw [unmod hm (hd d k1)]
theorem doors_one {m st : Int} {ds : List Int} (hne : ds ≠ []) (x : Int) : minOf (ds.map fun d => alongT m st [(x - d) % m]) = (bestW m st (frontsT m ds [x])).1 := by
  have hc : ∀ c ∈ frontsT m ds [x], c ≠ [] := fun c h => by
    have : c = ds.map fun d => (x - d) % m := by simpa [frontsT] using h
    rw [this]; simpa using hne
  obtain ⟨b1, b2, b3⟩ := bestW_spec m st hc
  obtain ⟨c1, c2⟩ := min_int (l := ds.map fun d => alongT m st [(x - d) % m]) (by simpa using hne)
  apply Int.le_antisymm
  · generalize (bestW m st (frontsT m ds [x])).2.l = l at b1 b2
    match l, b2 with
    | [y], h =>
      obtain ⟨d, k1, rfl⟩ := List.mem_map.mp h.1
      rw [b1]
      exact c2 _ (List.mem_map.mpr ⟨d, k1, rfl⟩)
    | [], h => exact h.elim
    | _ :: _ :: _, h => exact h.2.elim
  · obtain ⟨d, k1, e⟩ := List.mem_map.mp c1
    rw [← e]
    exact b3 _ ⟨List.mem_map.mpr ⟨d, k1, rfl⟩, trivial⟩
theorem fronts_zero {m : Int} {xs : List Int} (h : ∀ x ∈ xs, 0 ≤ x ∧ x < m) : frontsT m [0] xs = xs.map fun x => [x] := by
  unfold frontsT
  apply List.map_congr_left
  intro x hx
  show [(x - 0) % m] = [x]
  rw [Int.sub_zero, Int.emod_eq_of_lt (h x hx).1 (h x hx).2]
theorem foldl_snoc {α β : Type} (f : α → β) : ∀ (l : List α) (v : List β), l.foldl (fun v k => v ++ [f k]) v = v ++ l.map f
  | [], v => by simp
  | x :: l, v => by rw [List.foldl_cons, foldl_snoc f l]; simp
end Mi
/-! running objects -/
namespace Mi
open PySem PySem.Spec PyProof.Rows L2
open Da (toD)
theorem toNat_inj : ∀ {a b : List Char}, a.map Char.toNat = b.map Char.toNat → a = b
  | [], [], _ => rfl
  | [], _ :: _, h => by cases h
  | _ :: _, [], h => by cases h
  | x :: a, y :: b, h => by
    rw [List.map_cons, List.map_cons] at h
    injection h with h1 h2
    have e : x = y := Char.toNat_inj.mp h1
    rw [e, toNat_inj h2]
@[simp] theorem ofString_inj (a b : String) : (Str.ofString a = Str.ofString b) ↔ a = b := by
  refine ⟨fun h => ?_, fun h => by rw [h]⟩
  rw [Str.ofString_eq_toList, Str.ofString_eq_toList] at h
  injection h with h
  have h2 : (a.toList.map Char.toNat) = (b.toList.map Char.toNat) := by
    have := congrArg Array.toList h
    simpa using this
  exact String.toList_inj.mp (toNat_inj h2)
@[simp] theorem ofString_beq (a b : String) : (Str.ofString a == Str.ofString b) = decide (a = b) := by
  by_cases h : a = b
  · subst h; simp
  · simp [h]
theorem runS_of {α : Type} {m : M α} {a : α} {ω ω' : List Cell} (h : m ω = .ok a ω') (k : α → List Cell → Out) (ρ : Env) : runS m k ρ ω = k a ω' := by unfold runS; rw [h]
theorem runS_exc {α : Type} {m : M α} {c : Str} {ω ω' : List Cell} (h : m ω = .raise c ω') (k : α → List Cell → Out) (ρ : Env) : runS m k ρ ω = .exc c ρ ω' := by unfold runS; rw [h]
def outM (o : Out) : Res D := match o with
  | .ret d ω' => .ok d ω'
  | .next _ ω' => .ok .non ω'
  | .exc c _ ω' => .raise c ω'
  | _ => .stuck
theorem fnM_out (p n : Nat) (s : SM) (ds : List D) (ω : List Cell) : fnM p n s ds ω = outM (s (ds.map some ++ List.replicate (n - p) none) ω) := by
  unfold fnM outM
  cases s (ds.map some ++ List.replicate (n - p) none) ω <;> rfl
@[simp] theorem outM_ret (d : D) (ω : List Cell) : outM (.ret d ω) = .ok d ω := rfl
@[simp] theorem outM_next (ρ : Env) (ω : List Cell) : outM (.next ρ ω) = .ok .non ω := rfl
@[simp] theorem outM_exc (c : Str) (ρ : Env) (ω : List Cell) : outM (.exc c ρ ω) = .raise c ω := rfl
@[simp] theorem outM_ite (c : Prop) [Decidable c] (x y : Out) : outM (if c then x else y) = if c then outM x else outM y := by split <;> rfl
/-! fields -/
def insC (C : Str) (o : Option Cell) (k : List (Str × D) → Out) : Out := match o with
  | some (.ins C' fl) => if C' = C then k fl else .stuck
  | _ => .stuck
@[simp] theorem insC_ins (C : Str) (fl : List (Str × D)) (k : List (Str × D) → Out) : insC C (some (.ins C fl)) k = k fl := if_pos rfl
def fldC (o : Option D) (k : D → Out) : Out := match o with
  | some d => k d
  | none => .stuck
@[simp] theorem fldC_some (d : D) (k : D → Out) : fldC (some d) k = k d := rfl
@[simp] theorem runS_getF (C f : Str) (n : Nat) (k : D → List Cell → Out) (ρ : Env) (ω : List Cell) : runS (getF C f (.cell n)) k ρ ω = insC C ω[n]? fun fl => fldC (fl.lookup f) fun d => k d ω := by
  unfold runS getF insC fldC
  dsimp only
  cases ω[n]? with
  | none => rfl
  | some c => cases c with
    | ins C' fl =>
      dsimp only
      by_cases h : C' = C
      · rw [if_pos h, if_pos h]
        cases fl.lookup f <;> rfl
      · rw [if_neg h, if_neg h]
    | _ => rfl
@[simp] theorem runS_setF (C f : Str) (d : D) (n : Nat) (k : Unit → List Cell → Out) (ρ : Env) (ω : List Cell) : runS (setF C f d (.cell n)) k ρ ω = insC C ω[n]? fun fl => if fl.length < 1000 then k () (ω.set n (.ins C (putFd f d fl))) else .stuck := by
  unfold runS setF insC
  dsimp only
  cases ω[n]? with
  | none => rfl
  | some c => cases c with
    | ins C' fl =>
      dsimp only
      by_cases h : C' = C
      · by_cases h2 : fl.length < 1000
        · rw [if_pos ⟨h, h2⟩, if_pos h, if_pos h2, h]
        · rw [if_neg (fun z => h2 z.2), if_pos h, if_neg h2]
      · rw [if_neg (fun z => h z.1), if_neg h]
    | _ => rfl
@[simp] theorem sFldS_run (C x : Str) (f o : Env → M D) (ρ : Env) (ω : List Cell) : sFldS C x f o ρ ω = runS (f ρ) (fun d => runS (o ρ) (fun c => runS (setF C x d c) (fun _ ω => .next ρ ω) ρ) ρ) ρ ω := rfl
@[simp] theorem eMeth_run (C m : Str) (n : Nat) (G : List D → M D) (f : Env → M D) (fs : Env → M (List D)) (ρ : Env) (k : D → List Cell → Out) (ρ' : Env) (ω : List Cell) : runS (eMeth C m n G f fs ρ) k ρ' ω = runS (f ρ) (fun d ω1 => if chkI C m d ω1 = true then runS (fs ρ) (fun ds => runS (callM n G (d :: ds)) k ρ') ρ' ω1 else .stuck) ρ' ω := by
  unfold eMeth
  rw [runS_bind]
  congr 1
  funext d ω1
  by_cases c : chkI C m d ω1 = true
  · rw [if_pos c, ← runS_bind]
    unfold runS
    dsimp only
    rw [if_pos c]
  · rw [if_neg c]
    unfold runS
    dsimp only
    rw [if_neg c]
theorem chkI_cell (C m : Str) (n : Nat) (ω : List Cell) : chkI C m (.cell n) ω = (match ω[n]? with
    | some (.ins C' fl) => decide (C' = C) && (fl.lookup m).isNone
    | _ => false) := rfl
@[simp] theorem eGetD_run (f g : Env → M D) (ρ : Env) (k : D → List Cell → Out) (ρ' : Env) (ω : List Cell) : runS (eGetD f g ρ) k ρ' ω = runS (f ρ) (fun d ω1 => if isDic d ω1 = true then runS (g ρ) (fun e => runS (d2 oGetD d e) k ρ') ρ' ω1 else .stuck) ρ' ω := by
  unfold eGetD
  rw [runS_bind]
  congr 1
  funext d ω1
  by_cases c : isDic d ω1 = true
  · rw [if_pos c, ← runS_bind]
    unfold runS
    dsimp only
    rw [if_pos c]
  · rw [if_neg c]
    unfold runS
    dsimp only
    rw [if_neg c]
@[simp] theorem isDic_dic (ks : List Key) (vs : List D) (ω : List Cell) : isDic (.dic ks vs) ω = true := rfl
theorem isDic_cell (n : Nat) (ω : List Cell) : isDic (.cell n) ω = (match ω[n]? with
    | some (.dic _ _) => true
    | some (.ldic _ _) => true
    | _ => false) := rfl
def mkC (C : Str) (n : Nat) (G : List D → M D) (ds : List D) (ω : List Cell) (k : D → List Cell → Out) (ρ : Env) : Out := match callM n G (.cell ω.length :: ds) (ω ++ [.ins C []]) with
  | .ok .non ω' => k (.cell ω.length) ω'
  | .raise c ω' => .exc c ρ ω'
  | _ => .stuck
theorem makeM_of {C : Str} {n : Nat} {G : List D → M D} {ds : List D} {ω ω' : List Cell} (hl : ds.length + 1 = n) (h : G (.cell ω.length :: ds) (ω ++ [.ins C []]) = .ok .non ω') : makeM C n G ds ω = .ok (.cell ω.length) ω' := by
  unfold makeM
  rw [show callM n G (.cell ω.length :: ds) = G (.cell ω.length :: ds) from if_pos hl, h]
theorem makeM_exc {C : Str} {n : Nat} {G : List D → M D} {ds : List D} {ω ω' : List Cell} {c : Str} (hl : ds.length + 1 = n) (h : G (.cell ω.length :: ds) (ω ++ [.ins C []]) = .raise c ω') : makeM C n G ds ω = .raise c ω' := by
  unfold makeM
  rw [show callM n G (.cell ω.length :: ds) = G (.cell ω.length :: ds) from if_pos hl, h]
/-! a comprehension that reads the store -/
theorem compM_at {α : Type} {g : D → Env → Option Env} {e : Env → M D} {ρ : Env} {ω : List Cell} (t h : α → D) : ∀ (xs : List α), (∀ x ∈ xs, ∃ ρ1, g (t x) ρ = some ρ1 ∧ e ρ1 ω = .ok (h x) ω) → compM g bYes e ρ (xs.map t) ω = .ok (xs.map h) ω
  | [], _ => rfl
  | x :: xs, hs => by
    obtain ⟨ρ1, h1, h2⟩ := hs x (List.mem_cons_self ..)
    rw [List.map_cons, compM_cons, h1]
    dsimp only [bYes, M.ret]
    rw [h2]
    dsimp only
    rw [compM_at t h xs fun y hy => hs y (List.mem_cons_of_mem _ hy)]
    rfl
theorem compM_atIf {α : Type} {g : D → Env → Option Env} {u : Env → M Bool} {e : Env → M D} {ρ : Env} {ω : List Cell} (t h : α → D) (p : α → Bool) : ∀ (xs : List α), (∀ x ∈ xs, ∃ ρ1, g (t x) ρ = some ρ1 ∧ u ρ1 ω = .ok (p x) ω ∧ (p x = true → e ρ1 ω = .ok (h x) ω)) → compM g u e ρ (xs.map t) ω = .ok ((xs.filter p).map h) ω
  | [], _ => rfl
  | x :: xs, hs => by
    obtain ⟨ρ1, h1, h2, h3⟩ := hs x (List.mem_cons_self ..)
    have ih := compM_atIf t h p xs fun y hy => hs y (List.mem_cons_of_mem _ hy)
    rw [List.map_cons, compM_cons, h1]
    simp only [h2]
    by_cases q : p x = true
    · simp only [q]
      simp only [h3 q, ih, List.filter_cons_of_pos q, List.map_cons]
    · have q' : p x = false := by simpa using q
      simp only [q', ih]
      rw [List.filter_cons_of_neg q]
theorem eLk_lst {gh : Env → List Cell → Option Nat} {g : Env → M D} {ρ : Env} {ω : List Cell} {n : Nat} {xs : List D} {d : D} (h1 : gh ρ ω = some n) (h2 : ω[n]? = some (.lst xs)) (h3 : g ρ (ω.set n (.llst xs)) = .ok d (ω.set n (.llst xs))) : eLk gh g ρ ω = .ok d ω := by
  have hl : n < ω.length := (List.getElem?_eq_some_iff.mp h2).1
  unfold eLk
  rw [h1]
  dsimp only
  rw [h2]
  dsimp only
  rw [h3]
  unfold unlk
  dsimp only
  rw [List.getElem?_set_self hl]
  dsimp only
  rw [List.set_set]
  congr 1
  obtain ⟨h, e⟩ := List.getElem?_eq_some_iff.mp h2
  rw [← e, List.set_getElem_self]
theorem eLk_dic {gh : Env → List Cell → Option Nat} {g : Env → M D} {ρ : Env} {ω : List Cell} {n : Nat} {ks : List Key} {xs : List D} {d : D} (h1 : gh ρ ω = some n) (h2 : ω[n]? = some (.dic ks xs)) (h3 : g ρ (ω.set n (.ldic ks xs)) = .ok d (ω.set n (.ldic ks xs))) : eLk gh g ρ ω = .ok d ω := by
  have hl : n < ω.length := (List.getElem?_eq_some_iff.mp h2).1
  unfold eLk
  rw [h1]
  dsimp only
  rw [h2]
  dsimp only
  rw [h3]
  unfold unlk
  dsimp only
  rw [List.getElem?_set_self hl]
  dsimp only
  rw [List.set_set]
  congr 1
  obtain ⟨h, e⟩ := List.getElem?_eq_some_iff.mp h2
  rw [← e, List.set_getElem_self]
end Mi
/-! names, marks, footprints, turners -/
namespace Mi
open PySem PySem.Spec PyProof.Rows L2
open Da (toD)
/-! names -/
def isNm (x : Str) : Bool := decide (1 ≤ x.length) && (decide (x.length ≤ 6) && x.cps.toList.all fun c => decide (c ∈ ("abcdefghijklmnopqrstuvwxyz" : Str).cps.toList))
theorem oInS_one (s : Str) (c : Nat) : oInS false (.str ⟨#[c]⟩) (.str s) = M.ret (.bl (decide (c ∈ s.cps.toList))) := by
  unfold oInS
  dsimp only
  rw [Bool.false_xor, PySem.StrLaws.found_one]
abbrev Nm := {x : Str // isNm x = true}
instance : DecidableEq Nm := fun a b => if h : a.1 = b.1 then .isTrue (Subtype.ext h) else .isFalse fun z => h (congrArg Subtype.val z)
theorem nm_small {x : Str} (h : isNm x = true) : ∀ c ∈ x.cps.toList, c < 128 := by
  intro c hc
  unfold isNm at h
  rw [Bool.and_eq_true, Bool.and_eq_true, List.all_eq_true] at h
  have h2 := h.2.2 c hc
  rw [decide_eq_true_eq] at h2
  have h3 : ∀ c ∈ ("abcdefghijklmnopqrstuvwxyz" : Str).cps.toList, c < 128 := by decide +kernel
  exact h3 c h2
theorem nm_ok (x : Nm) : PyData.strOk x.1 = true := by
  unfold PyData.strOk
  rw [← Array.all_toList, List.all_eq_true]
  intro c hc
  have := nm_small x.2 c hc
  simp; omega
theorem nm_len (x : Nm) : 1 ≤ x.1.length ∧ x.1.length ≤ 6 := by
  have h := x.2
  unfold isNm at h
  rw [Bool.and_eq_true, Bool.and_eq_true, decide_eq_true_eq, decide_eq_true_eq] at h
  exact ⟨h.1, h.2.1⟩
theorem nm_key (x : Nm) : keyOk (.inr x.1) = true := by
  have h := nm_len x
  have h2 : (6 : Nat) ≤ sizeLine := by decide
  simp [keyOk, nm_ok x]; omega
theorem lexN_tot (a b : List Nat) (h1 : ¬ a < b) (h2 : ¬ b < a) : a = b := List.le_antisymm (List.not_lt.mp h2) (List.not_lt.mp h1)
instance : Da Nm where
  toD x := .str x.1
  py x := .str x.1
  dep := 0
  ok x := rfl
  lay x := nm_ok x
  le x := Nat.le_refl _
  inj a b := by
    have e : PyData.eqv (.str a.1) (.str b.1) = true ↔ a.1 = b.1 := by simp [PyData.eqv]
    rw [e]
    exact ⟨fun h => Subtype.ext h, fun h => congrArg Subtype.val h⟩
  cl x := rfl
instance : Dl Nm where
  lt a b := decide (a.1.cps.toList < b.1.cps.toList)
  alk a b := by show PySem.W.alike (.str a.1) (.str b.1) = true; simp [PySem.W.alike]
  nn a := fun z => nomatch z
  ltok a b := PySem.W.dataLt_str a.1 b.1
  irr a := by simp [List.lt_irrefl]
  tr a b c h1 h2 := by
    rw [decide_eq_true_eq] at *
    exact List.lt_trans h1 h2
  tot a b h1 h2 := by
    rw [decide_eq_false_iff_not] at h1 h2
    have := lexN_tot _ _ h1 h2
    apply Subtype.ext
    cases ha : a.1; cases hb : b.1
    rw [ha, hb] at this
    congr 1
    exact Array.toList_inj.mp this
theorem toD_nm (x : Nm) : (toD x : D) = .str x.1 := rfl
/-! dicts by names -/
section
variable {β : Type} [Da β]
def mkKs (mp : List (Nm × β)) : List Key := mp.map fun p => .inr p.1.1
def mkVs (mp : List (Nm × β)) : List D := mp.map fun p => toD p.2
def mpD (mp : List (Nm × β)) : D := .dic (mkKs mp) (mkVs mp)
def putM (mp : List (Nm × β)) (x : Nm) (i : β) : List (Nm × β) := if (mp.lookup x).isSome then mp.map (fun p => if p.1 = x then (p.1, i) else p) else mp ++ [(x, i)]
def delM (mp : List (Nm × β)) (x : Nm) : List (Nm × β) := mp.filter fun p => decide (p.1 ≠ x)
theorem inr_nm (x y : Nm) : ((Sum.inr y.1 : Key) = .inr x.1) ↔ y = x := ⟨fun z => Subtype.ext (by injection z), fun z => by rw [z]⟩
theorem valD_mp (x : Nm) : ∀ mp : List (Nm × β), valD (mkKs mp) (mkVs mp) (.inr x.1) = (mp.lookup x).map toD
  | [] => rfl
  | (y, i) :: mp => by
    show (if (Sum.inr y.1 : Key) = .inr x.1 then some (toD i) else valD (mkKs mp) (mkVs mp) (.inr x.1)) = _
    rw [List.lookup_cons]
    by_cases h : y = x
    · subst h; simp
    · have h2 : (x == y) = false := beq_eq_false_iff_ne.mpr fun z => h z.symm
      rw [if_neg (fun z => h ((inr_nm x y).mp z)), h2, valD_mp x mp]
theorem hasK_mp (x : Nm) : ∀ mp : List (Nm × β), hasK (mkKs mp) (.inr x.1) = (mp.lookup x).isSome
  | [] => rfl
  | (y, i) :: mp => by
    show (decide ((Sum.inr y.1 : Key) = .inr x.1) || hasK (mkKs mp) (.inr x.1)) = _
    rw [List.lookup_cons]
    by_cases h : y = x
    · subst h; simp
    · have h2 : (x == y) = false := beq_eq_false_iff_ne.mpr fun z => h z.symm
      rw [h2, hasK_mp x mp, decide_eq_false (fun z => h ((inr_nm x y).mp z))]; rfl
theorem replD_mp (x : Nm) (i : β) : ∀ mp : List (Nm × β), replD (mkKs mp) (mkVs mp) (.inr x.1) (toD i) = mkVs (mp.map fun p => if p.1 = x then (p.1, i) else p)
  | [] => rfl
  | (y, j) :: mp => by
    show (if (Sum.inr y.1 : Key) = .inr x.1 then toD i else toD j) :: replD (mkKs mp) (mkVs mp) (.inr x.1) (toD i) = _
    rw [replD_mp x i mp]
    by_cases h : y = x
    · subst h; simp [mkVs]
    · rw [if_neg (fun z => h ((inr_nm x y).mp z))]
      show _ = toD (if y = x then (y, i) else (y, j)).2 :: mkVs _
      rw [if_neg h]
theorem mapKs (x : Nm) (i : β) (mp : List (Nm × β)) : mkKs (mp.map fun p => if p.1 = x then (p.1, i) else p) = mkKs mp := by
  unfold mkKs
  rw [List.map_map]
  apply List.map_congr_left
  intro p _
  show (Sum.inr (if p.1 = x then (p.1, i) else p).1.1 : Key) = .inr p.1.1
  split <;> rfl
theorem putKs_mp (x : Nm) (i : β) (mp : List (Nm × β)) : putKs (mkKs mp) (.inr x.1) = mkKs (putM mp x i) := by
  unfold putKs putM
  rw [hasK_mp]
  by_cases h : (mp.lookup x).isSome = true
  · rw [if_pos h, if_pos h, mapKs]
  · rw [if_neg h, if_neg h]; simp [mkKs]
theorem putVs_mp (x : Nm) (i : β) (mp : List (Nm × β)) : putVs (mkKs mp) (mkVs mp) (.inr x.1) (toD i) = mkVs (putM mp x i) := by
  unfold putVs putM
  rw [hasK_mp]
  by_cases h : (mp.lookup x).isSome = true
  · rw [if_pos h, if_pos h, replD_mp]
  · rw [if_neg h, if_neg h]; simp [mkVs]
theorem cleanVs (mp : List (Nm × β)) : cleanL (mkVs mp) = true := by
  unfold mkVs
  rw [show (mp.map fun p => toD p.2) = (mp.map (·.2)).map toD by rw [List.map_map]; rfl]
  exact cleanL_map _
theorem clean_mp (mp : List (Nm × β)) : clean (mpD mp) = true := by
  unfold mpD clean
  exact cleanVs mp
@[simp] theorem mkKs_len (mp : List (Nm × β)) : (mkKs mp).length = mp.length := by simp [mkKs]
@[simp] theorem mkVs_len (mp : List (Nm × β)) : (mkVs mp).length = mp.length := by simp [mkVs]
theorem keysOk_mp (mp : List (Nm × β)) : keysOk (mkKs mp) = true := by
  unfold keysOk mkKs
  rw [List.all_map, List.all_eq_true]
  intro p _
  exact nm_key p.1
theorem dKeys_mp (mp : List (Nm × β)) : (mkKs mp).map dKey = (mp.map (·.1)).map toD := by
  unfold mkKs
  rw [List.map_map, List.map_map]; rfl
theorem pairs_mp : ∀ mp : List (Nm × β), pairsD (mkKs mp) (mkVs mp) = mp.map toD
  | [] => rfl
  | (y, i) :: mp => by
    show (.tup [.str y.1, toD i]) :: pairsD (mkKs mp) (mkVs mp) = _
    rw [pairs_mp mp]; rfl
theorem lookup_put (x : Nm) (i : β) (y : Nm) : ∀ mp : List (Nm × β), (putM mp x i).lookup y = if y = x then some i else mp.lookup y := by
  have h1 : ∀ mp : List (Nm × β), (mp.map fun p => if p.1 = x then (p.1, i) else p).lookup y = if y = x ∧ (mp.lookup x).isSome then some i else mp.lookup y := by
    intro mp
    induction mp with
    | nil => simp
    | cons p mp ih =>
      obtain ⟨z, j⟩ := p
      rw [List.map_cons]
      by_cases hz : z = x
      · subst hz
        simp only [if_pos, List.lookup_cons]
        by_cases hy : y = z
        · subst hy; simp
        · have : (y == z) = false := beq_eq_false_iff_ne.mpr hy
          simp [this, ih, hy]
      · simp only [if_neg hz, List.lookup_cons]
        by_cases hy : y = z
        · subst hy; simp [hz]
        · have h2 : (y == z) = false := beq_eq_false_iff_ne.mpr hy
          have h3 : (x == z) = false := beq_eq_false_iff_ne.mpr fun e => hz e.symm
          simp only [h2, h3, ih]
  intro mp
  unfold putM
  by_cases h : (mp.lookup x).isSome = true
  · rw [if_pos h, h1]
    by_cases hy : y = x
    · rw [if_pos ⟨hy, h⟩, if_pos hy]
    · rw [if_neg (fun z => hy z.1), if_neg hy]
  · rw [if_neg h]
    have hn : mp.lookup x = none := by
      cases z : mp.lookup x with
      | none => rfl
      | some v => rw [z] at h; simp at h
    by_cases hy : y = x
    · subst hy
      rw [if_pos rfl, List.lookup_append, hn]; simp
    · rw [if_neg hy, List.lookup_append]
      have h2 : (y == x) = false := beq_eq_false_iff_ne.mpr hy
      cases mp.lookup y <;> simp [List.lookup_cons, h2]
theorem lookup_mem' {mp : List (Nm × β)} {x : Nm} {i : β} (h : mp.lookup x = some i) : (x, i) ∈ mp := by
  induction mp with
  | nil => cases h
  | cons p mp ih =>
    obtain ⟨z, j⟩ := p
    rw [List.lookup_cons] at h
    by_cases hz : x = z
    · subst hz; simp at h; subst h; exact List.mem_cons_self
    · have : (x == z) = false := beq_eq_false_iff_ne.mpr hz
      rw [this] at h
      exact List.mem_cons_of_mem _ (ih h)
theorem mem_lookup' {mp : List (Nm × β)} {x : Nm} (h : x ∈ mp.map (·.1)) : (mp.lookup x).isSome = true := by
  induction mp with
  | nil => cases h
  | cons p mp ih =>
    obtain ⟨z, j⟩ := p
    rw [List.lookup_cons]
    by_cases hz : x = z
    · subst hz; simp
    · have h2 : (x == z) = false := beq_eq_false_iff_ne.mpr hz
      rw [h2]
      rcases List.mem_cons.mp h with h | h
      · exact absurd h hz
      · exact ih h
theorem putM_len (mp : List (Nm × β)) (x : Nm) (i : β) : (putM mp x i).length ≤ mp.length + 1 := by
  unfold putM
  split <;> simp
end
theorem sortI_mp {β : Type} [Dl β] [DecidableEq β] (mp : List (Nm × β)) (hd : Da.dep (Nm × β) ≤ 60) : sortI (mpD mp) = M.ret ((sortT mp).map toD) := by
  unfold sortI mpD
  dsimp only
  rw [if_pos ⟨by simp, keysOk_mp mp⟩, pairs_mp]
  exact sortL_map mp hd (.inl fun _ => rfl)
theorem sortKd_mp {β : Type} [Da β] (mp : List (Nm × β)) : sortKd (mpD mp) = M.ret ((sortT (mp.map (·.1))).map toD) := by
  unfold sortKd mpD
  dsimp only
  rw [if_pos (keysOk_mp mp), dKeys_mp]
  exact sortL_map _ (by decide) (.inr fun _ => rfl)
def optD {β : Type} [Da β] : Option β → D
  | some i => toD i
  | none => .non
theorem oGetD_mp {β : Type} [Da β] (mp : List (Nm × β)) (x : Nm) : oGetD (.dic (mkKs mp) (mkVs mp)) (.str x.1) = M.ret (optD (mp.lookup x)) := by
  show (match valD (mkKs mp) (mkVs mp) (.inr x.1) with | some z => M.ret z | none => M.ret D.non) = _
  rw [valD_mp]
  cases mp.lookup x <;> rfl
@[simp] theorem drf_toD {β : Type} [Da β] (a : β) : drf (toD a) = M.ret (toD a) := by
  have h := Da.cl a
  cases q : toD a with
  | cell n => rw [q] at h; simp at h
  | _ => rfl
@[simp] theorem drf_opt {β : Type} [Da β] (a : Option β) : drf (optD a) = M.ret (optD a) := by
  cases a with
  | none => rfl
  | some a => exact drf_toD a
abbrev Mks := List (Nm × Int)
/-! footprints -/
structure Fr (ω ω' : List Cell) (fp fp' : List Nat) : Prop where
  len : ω.length ≤ ω'.length
  keep : ∀ i, i < ω.length → i ∉ fp → ω'[i]? = ω[i]?
  new : ∀ i ∈ fp', i ∈ fp ∨ ω.length ≤ i
theorem Fr.refl (ω : List Cell) (fp : List Nat) : Fr ω ω fp fp := ⟨Nat.le_refl _, fun _ _ _ => rfl, fun _ h => .inl h⟩
theorem Fr.trans {ω ω1 ω2 : List Cell} {fp fp1 fp2 : List Nat} (a : Fr ω ω1 fp fp1) (b : Fr ω1 ω2 fp1 fp2) : Fr ω ω2 fp fp2 := by
  refine ⟨Nat.le_trans a.len b.len, fun i hi hn => ?_, fun i hi => ?_⟩
  · have h1 : i ∉ fp1 := fun z => by
      rcases a.new i z with z | z
      · exact hn z
      · omega
    rw [b.keep i (Nat.lt_of_lt_of_le hi a.len) h1, a.keep i hi hn]
  · rcases b.new i hi with z | z
    · exact a.new i z
    · exact .inr (Nat.le_trans a.len z)
/-- another cell stays, outside -/
theorem Fr.out {ω ω' : List Cell} {fp fp' : List Nat} (a : Fr ω ω' fp fp') {c : Nat} {x : Cell} (hc : c ∉ fp) (h : ω[c]? = some x) : c ∉ fp' ∧ ω'[c]? = some x := by
  have hl : c < ω.length := (List.getElem?_eq_some_iff.mp h).1
  refine ⟨fun z => ?_, by rw [a.keep c hl hc, h]⟩
  rcases a.new c z with z | z
  · exact hc z
  · omega
/-! turners -/
def nowD (sh : Int) (mp : Mks) : D := .tup [.int sh, mpD mp]
abbrev Step := Int × Int × Mks
def stD (p : Step) : D := .tup [.int p.1, nowD p.2.1 p.2.2]
def turF (m : Int) (nw : D) (p q : Nat) : List (Str × D) := [("size", .int m), ("now", nw), ("past", .cell p), ("later", .cell q)]
structure Tur where
  m : Int
  sh : Int
  mp : Mks
  past : List Step
  later : List Step
structure TurAt (ω : List Cell) (n p q : Nat) (t : Tur) : Prop where
  ob : ω[n]? = some (.ins "Turner" (turF t.m (nowD t.sh t.mp) p q))
  pa : ω[p]? = some (.lst (t.past.map stD))
  la : ω[q]? = some (.lst (t.later.map stD))
  np : n ≠ p
  nq : n ≠ q
  pq : p ≠ q
theorem TurAt.ln {ω : List Cell} {n p q : Nat} {t : Tur} (A : TurAt ω n p q t) : n < ω.length ∧ p < ω.length ∧ q < ω.length := ⟨(List.getElem?_eq_some_iff.mp A.ob).1, (List.getElem?_eq_some_iff.mp A.pa).1, (List.getElem?_eq_some_iff.mp A.la).1⟩
section
variable (m : Int) (nw : D) (p q : Nat)
@[simp] theorem turF_size : (turF m nw p q).lookup ("size" : Str) = some (.int m) := by simp [turF, List.lookup]
@[simp] theorem turF_now : (turF m nw p q).lookup ("now" : Str) = some nw := by simp [turF, List.lookup]
@[simp] theorem turF_past : (turF m nw p q).lookup ("past" : Str) = some (.cell p) := by simp [turF, List.lookup]
@[simp] theorem turF_later : (turF m nw p q).lookup ("later" : Str) = some (.cell q) := by simp [turF, List.lookup]
@[simp] theorem turF_len : (turF m nw p q).length = 4 := rfl
@[simp] theorem turF_setNow (x : D) : putFd "now" x (turF m nw p q) = turF m x p q := by simp [turF, putFd]
@[simp] theorem turF_setLater (r : Nat) : putFd "later" (.cell r) (turF m nw p q) = turF m nw p r := by simp [turF, putFd]
@[simp] theorem turF_setPast (r : Nat) : putFd "past" (.cell r) (turF m nw p q) = turF m nw r q := by simp [turF, putFd]
theorem turF_no {x : String} (h1 : x ≠ "size") (h2 : x ≠ "now") (h3 : x ≠ "past") (h4 : x ≠ "later") : (turF m nw p q).lookup (Str.ofString x) = none := by simp [turF, List.lookup, h1, h2, h3, h4]
end
/-- a store that is longer -/
theorem get_app {ω : List Cell} {n : Nat} {c : Cell} (h : ω[n]? = some c) (l : List Cell) : (ω ++ l)[n]? = some c := by
  rw [List.getElem?_append_left (List.getElem?_eq_some_iff.mp h).1]; exact h
theorem TurAt.app {ω : List Cell} {n p q : Nat} {t : Tur} (A : TurAt ω n p q t) (l : List Cell) : TurAt (ω ++ l) n p q t := ⟨get_app A.ob l, get_app A.pa l, get_app A.la l, A.np, A.nq, A.pq⟩
theorem Fr.app (ω : List Cell) (l : List Cell) (fp : List Nat) : Fr ω (ω ++ l) fp fp := ⟨by simp, fun i hi _ => List.getElem?_append_left hi, fun _ h => .inl h⟩
theorem TurAt.keep {ω ω' : List Cell} {n p q : Nat} {t : Tur} {fp fp' : List Nat} (A : TurAt ω n p q t) (F : Fr ω ω' fp fp') (h1 : n ∉ fp) (h2 : p ∉ fp) (h3 : q ∉ fp) : TurAt ω' n p q t := ⟨(F.out h1 A.ob).2, (F.out h2 A.pa).2, (F.out h3 A.la).2, A.np, A.nq, A.pq⟩
theorem TurAt.chk {ω : List Cell} {n p q : Nat} {t : Tur} (A : TurAt ω n p q t) {x : String} (h1 : x ≠ "size" := by decide) (h2 : x ≠ "now" := by decide) (h3 : x ≠ "past" := by decide) (h4 : x ≠ "later" := by decide) : chkI "Turner" (Str.ofString x) (.cell n) ω = true := by
  rw [chkI_cell, A.ob]
  simp [turF_no, h1, h2, h3, h4]
end Mi
/-! turns: the plain laws -/
namespace Mi
open PySem PySem.Spec PyProof.Rows L2
open Da (toD)
theorem steps_cong (m a b : Int) (hm : 0 < m) : ∃ k, stepsTo m a b = b - a + m * k := by
  have h := Int.emod_add_mul_ediv (b - a) m
  unfold stepsTo
  split
  · exact ⟨-((b - a) / m), by rw [Int.mul_neg]; omega⟩
  · exact ⟨-((b - a) / m) - 1, by rw [Int.mul_sub, Int.mul_neg]; omega⟩
theorem far_le_absI (m a b d k : Int) (hm : 0 < m) (h : d = b - a + m * k) : far m a b ≤ absI d := by
  have h0 := Int.emod_nonneg (b - a) (show m ≠ 0 by omega)
  have h1 := Int.emod_lt_of_pos (b - a) hm
  have h2 := Int.emod_add_mul_ediv (b - a) m
  obtain ⟨j, hj⟩ : ∃ j, d = (b - a) % m + m * j := ⟨(b - a) / m + k, by rw [Int.mul_add]; omega⟩
  have hj2 : 0 ≤ m * j ∨ m * j ≤ -m := by
    by_cases z : 0 ≤ j
    · exact .inl (Int.mul_nonneg (by omega) z)
    · refine .inr ?_
      have : m * j ≤ m * (-1) := Int.mul_le_mul_of_nonneg_left (by omega) (by omega)
      omega
  generalize m * j = mj at *
  unfold far stepsTo absI
  repeat' split
  all_goals omega
theorem far_abs (m a b : Int) : far m a b = absI (stepsTo m a b) := rfl
theorem absI_add (a b : Int) : absI (a + b) ≤ absI a + absI b := by unfold absI; repeat' split <;> omega
theorem far_turn (m s b : Int) (hm : 0 < m) : far m 0 ((s + b) % m) ≤ far m 0 s + absI b := by
  obtain ⟨k, hk⟩ := steps_cong m 0 s hm
  have h2 := Int.emod_add_mul_ediv (s + b) m
  have h := far_le_absI m 0 ((s + b) % m) (stepsTo m 0 s + b) ((s + b) / m + k) hm (by rw [hk, Int.mul_add]; omega)
  have h3 := absI_add (stepsTo m 0 s) b
  rw [far_abs m 0 s]; omega
theorem steps_self (m a : Int) (hm : 0 < m) : stepsTo m a a = 0 := by
  unfold stepsTo; simp; omega
theorem turn_whole (m s c : Int) (h : 0 ≤ s ∧ s < m) : (s + m * c) % m = s := by
  rw [Int.add_mul_emod_self_left]; exact Int.emod_eq_of_lt h.1 h.2
theorem atI_some {α : Type} {xs : List α} {i : Int} (h0 : 0 ≤ i) (h1 : i < xs.length) : ∃ (x : α), x ∈ xs ∧ atI xs i = some x := by
  have hl : i.toNat < xs.length := by omega
  refine ⟨xs[i.toNat], List.getElem_mem hl, ?_⟩
  unfold atI ixN
  rw [if_pos h0, if_pos h1]
  show xs[i.toNat]? = _
  exact List.getElem?_eq_getElem hl
theorem oAt_mapG {α β : Type} (g : α → β) (k : β → D) (xs : List α) (i : Int) : oAt (xs.map g) i k = oAt xs i (fun a => k (g a)) := by
  unfold oAt
  rw [atI_map]
  cases atI xs i <;> rfl
/-- a sign of a text of small letters -/
def lettersOk (x : Str) : Bool := x.cps.toList.all fun c => isNm ⟨#[c]⟩
theorem oAt_str {x : Str} (h : lettersOk x = true) {i : Int} (h0 : 0 ≤ i) (h1 : i < x.cps.toList.length) : ∃ y : Nm, oAt x.cps.toList i (fun c => D.str ⟨#[c]⟩) = M.ret (.str y.1) := by
  obtain ⟨c, hc, e⟩ := atI_some h0 h1
  refine ⟨⟨⟨#[c]⟩, List.all_eq_true.mp h c hc⟩, ?_⟩
  unfold oAt
  rw [e]
@[simp] theorem pyEq_non : pyEq .non .non = some true := by
  unfold pyEq toP
  dsimp only
  rw [if_pos ⟨rfl, rfl⟩]
  rfl
theorem pyEq_opt (a b : Option Int) : pyEq (optD a) (optD b) = some (decide (a = b)) := by
  cases a with
  | none => cases b with
    | none => exact pyEq_non
    | some j =>
      show pyEq .non (.int j) = _
      unfold pyEq toP; dsimp only; rw [if_pos ⟨rfl, rfl⟩]; rfl
  | some i => cases b with
    | none =>
      show pyEq (.int i) .non = _
      unfold pyEq toP; dsimp only; rw [if_pos ⟨rfl, rfl⟩]; rfl
    | some j =>
      show pyEq (.int i) (.int j) = _
      rw [pyEq_int]; simp
theorem loop_rng {g : D → Env → Option Env} {s : SM} (At : Nat → Env → List Cell → Prop) (n : Nat) {ρ : Env} {ω : List Cell} (hs : ∀ i, i < n → ∀ ρ ω, At i ρ ω → ∃ ρ1 ρ2 ω2, g (.int (i : Int)) ρ = some ρ1 ∧ s ρ1 ω = .next ρ2 ω2 ∧ At (i + 1) ρ2 ω2) (h : At 0 ρ ω) :
    ∃ ρ' ω', loopS g s (rangeD 0 n) ρ ω = .next ρ' ω' ∧ At n ρ' ω' := by
  have := loop_ix (g := g) (s := s) (fun (i : Nat) => D.int (i : Int)) (fun i (_ : Unit) ρ ω => At i ρ ω) (fun v _ => v) (List.range n) 0 () ρ ω (fun j x v ρ ω hx hA => by
    obtain ⟨hj, e⟩ := List.getElem?_eq_some_iff.mp hx
    rw [List.getElem_range] at e
    subst e
    rw [List.length_range] at hj
    rw [Nat.zero_add] at hA ⊢
    exact hs _ hj ρ ω hA) h
  rw [List.length_range, Nat.zero_add] at this
  rw [rangeD_map]
  exact this
end Mi
/-! dicts by names: keys, taken away, made of pairs; keepers -/
namespace Mi
open PySem PySem.Spec PyProof.Rows L2
open Da (toD)
theorem nodup_len {α : Type} [DecidableEq α] : ∀ {xs ys : List α}, xs.Nodup → xs ⊆ ys → xs.length ≤ ys.length
  | [], _, _, _ => Nat.zero_le _
  | x :: xs, ys, h, hs => by
    rw [List.nodup_cons] at h
    have hx : x ∈ ys := hs List.mem_cons_self
    have := nodup_len (ys := ys.erase x) h.2 fun z hz => by
      have hne : z ≠ x := fun e => h.1 (e ▸ hz)
      exact (List.mem_erase_of_ne hne).mpr (hs (List.mem_cons_of_mem _ hz))
    rw [List.length_erase_of_mem hx] at this
    have hp : 0 < ys.length := List.length_pos_of_mem hx
    rw [List.length_cons]; omega
theorem oAt_nm {x : Str} {L : List Nm} (h : x.cps.toList.map (fun c => (⟨#[c]⟩ : Str)) = L.map (·.1)) {i : Int} (h0 : 0 ≤ i) (h1 : i < L.length) : ∃ y ∈ L, oAt x.cps.toList i (fun c => D.str ⟨#[c]⟩) = M.ret (.str y.1) := by
  obtain ⟨y, hy, e⟩ := atI_some h0 h1
  refine ⟨y, hy, ?_⟩
  have h2 : oAt (x.cps.toList.map fun c => (⟨#[c]⟩ : Str)) i D.str = M.ret (.str y.1) := by
    rw [h, oAt_mapG]
    unfold oAt
    rw [e]
  rw [oAt_mapG] at h2
  exact h2
section
variable {β : Type} [Da β]
theorem look_none {mp : List (Nm × β)} {x : Nm} : mp.lookup x = none ↔ x ∉ mp.map (·.1) := by
  constructor
  · intro h z
    have := mem_lookup' z
    rw [h] at this; cases this
  · intro h
    cases z : mp.lookup x with
    | none => rfl
    | some i => exact absurd (List.mem_map.mpr ⟨_, lookup_mem' z, rfl⟩) h
theorem putM_new {mp : List (Nm × β)} {x : Nm} {i : β} (h : mp.lookup x = none) : putM mp x i = mp ++ [(x, i)] := by
  unfold putM; rw [h]; rfl
theorem putM_keys (mp : List (Nm × β)) (x : Nm) (i : β) : (putM mp x i).map (·.1) = if x ∈ mp.map (·.1) then mp.map (·.1) else mp.map (·.1) ++ [x] := by
  by_cases h : x ∈ mp.map (·.1)
  · rw [if_pos h]
    unfold putM
    rw [if_pos (mem_lookup' h), List.map_map]
    apply List.map_congr_left
    intro p _
    show (if p.1 = x then (p.1, i) else p).1 = p.1
    split <;> rfl
  · rw [if_neg h, putM_new (look_none.mpr h)]; simp
theorem putM_nd {mp : List (Nm × β)} {x : Nm} {i : β} (h : (mp.map (·.1)).Nodup) : ((putM mp x i).map (·.1)).Nodup := by
  rw [putM_keys]
  split
  · exact h
  · rename_i hn
    rw [List.nodup_append]
    exact ⟨h, by simp, fun a ha b hb e => hn (by rw [List.mem_singleton] at hb; rw [← hb, ← e]; exact ha)⟩
theorem mem_look {mp : List (Nm × β)} {x : Nm} {i : β} (h : (mp.map (·.1)).Nodup) (hm : (x, i) ∈ mp) : mp.lookup x = some i := by
  induction mp with
  | nil => cases hm
  | cons p mp ih =>
    obtain ⟨y, j⟩ := p
    rw [List.map_cons, List.nodup_cons] at h
    rw [List.lookup_cons]
    rcases List.mem_cons.mp hm with z | z
    · cases z; simp
    · have hne : x ≠ y := fun e => h.1 (e ▸ List.mem_map.mpr ⟨_, z, rfl⟩)
      rw [beq_eq_false_iff_ne.mpr hne]
      exact ih h.2 z
theorem look_perm {mp mp' : List (Nm × β)} (h : (mp.map (·.1)).Nodup) (hp : mp.Perm mp') (x : Nm) : mp'.lookup x = mp.lookup x := by
  have h' : (mp'.map (·.1)).Nodup := (hp.map _).nodup_iff.mp h
  cases z : mp.lookup x with
  | some i => exact mem_look h' (hp.mem_iff.mp (lookup_mem' z))
  | none =>
    rw [look_none] at z ⊢
    exact fun q => z ((hp.map _).mem_iff.mpr q)
/-! made of pairs -/
def mergeM (acc l : List (Nm × β)) : List (Nm × β) := l.foldl (fun a p => putM a p.1 p.2) acc
theorem pairs_mp? : ∀ l : List (Nm × β), pairs? (l.map toD) = some (l.map fun p => ((.inr p.1.1 : Key), (toD p.2 : D)))
  | [] => rfl
  | (y, i) :: l => by
    show pairs? (.tup [.str y.1, toD i] :: l.map toD) = _
    unfold pairs?
    rw [pairs_mp? l]
    rfl
theorem mergeD_mp : ∀ (l acc : List (Nm × β)), mergeD (mkKs acc) (mkVs acc) (l.map fun p => ((.inr p.1.1 : Key), (toD p.2 : D))) = (mkKs (mergeM acc l), mkVs (mergeM acc l))
  | [], acc => rfl
  | (y, i) :: l, acc => by
    show mergeD (putKs (mkKs acc) (.inr y.1)) (putVs (mkKs acc) (mkVs acc) (.inr y.1) (toD i)) _ = _
    rw [putKs_mp y i acc, putVs_mp y i acc, mergeD_mp l (putM acc y i)]
    rfl
theorem mergeM_nd : ∀ (l acc : List (Nm × β)), ((acc ++ l).map (·.1)).Nodup → mergeM acc l = acc ++ l
  | [], acc, _ => by simp [mergeM]
  | (y, i) :: l, acc, h => by
    have h2 : y ∉ acc.map (·.1) := by
      rw [List.map_append, List.nodup_append] at h
      exact fun z => h.2.2 y z y (by simp) rfl
    show mergeM (putM acc y i) l = _
    rw [putM_new (look_none.mpr h2), mergeM_nd l (acc ++ [(y, i)]) (by simpa using h)]
    simp
theorem oDictP_mp (l : List (Nm × β)) (h : (l.map (·.1)).Nodup) (hl : l.length ≤ 1000) : oDictP (.lst (l.map toD)) = M.ret (mpD l) := by
  unfold oDictP
  dsimp only
  rw [pairs_mp? l]
  dsimp only
  rw [if_pos (by simpa using hl)]
  have e : mergeD [] [] (l.map fun p => ((.inr p.1.1 : Key), (toD p.2 : D))) = (mkKs l, mkVs l) := by
    have := mergeD_mp l []
    rw [mergeM_nd l [] (by simpa using h)] at this
    simpa [mkKs, mkVs] using this
  rw [e]
  rfl
/-! taken away -/
theorem dropKs_mp (x : Nm) (mp : List (Nm × β)) : dropKs (mkKs mp) (.inr x.1) = mkKs (delM mp x) := by
  unfold dropKs mkKs delM
  rw [List.filter_map]
  congr 1
  apply List.filter_congr
  intro p _
  simp only [Function.comp, ne_eq, inr_nm]
theorem dropVs_mp (x : Nm) : ∀ mp : List (Nm × β), dropVs (mkKs mp) (mkVs mp) (.inr x.1) = mkVs (delM mp x)
  | [] => rfl
  | (y, i) :: mp => by
    show (if (Sum.inr y.1 : Key) = .inr x.1 then dropVs (mkKs mp) (mkVs mp) (.inr x.1) else toD i :: dropVs (mkKs mp) (mkVs mp) (.inr x.1)) = _
    rw [dropVs_mp x mp]
    unfold delM
    by_cases h : y = x
    · subst h; rw [if_pos rfl, List.filter_cons_of_neg (by simp)]
    · rw [if_neg (fun z => h ((inr_nm x y).mp z)), List.filter_cons_of_pos (by simpa using h)]; rfl
theorem delM_keys (mp : List (Nm × β)) (x : Nm) : (delM mp x).map (·.1) = (mp.map (·.1)).filter fun y => decide (y ≠ x) := by
  unfold delM
  rw [List.filter_map]; rfl
theorem delM_nd {mp : List (Nm × β)} {x : Nm} (h : (mp.map (·.1)).Nodup) : ((delM mp x).map (·.1)).Nodup := by
  rw [delM_keys]; exact h.filter _
theorem lookup_del (mp : List (Nm × β)) (x y : Nm) : (delM mp x).lookup y = if y = x then none else mp.lookup y := by
  induction mp with
  | nil => simp [delM]
  | cons p mp ih =>
    obtain ⟨z, j⟩ := p
    unfold delM at ih ⊢
    by_cases h : z = x
    · subst h
      rw [List.filter_cons_of_neg (by simp), ih, List.lookup_cons]
      by_cases hy : y = z
      · subst hy; simp
      · rw [beq_eq_false_iff_ne.mpr hy]
    · rw [List.filter_cons_of_pos (by simpa using h), List.lookup_cons, List.lookup_cons, ih]
      by_cases hy : y = z
      · subst hy; simp [h]
      · rw [beq_eq_false_iff_ne.mpr hy]
end
/-! keepers -/
def keeF (m r : Int) (b : Nat) (h g : Int) : List (Str × D) := [("size", .int m), ("room", .int r), ("book", .cell b), ("here", .int h), ("gone", .int g)]
structure Kee where
  m : Int
  r : Int
  bk : Mks
  h : Int
  g : Int
structure KeeAt (ω : List Cell) (n b : Nat) (k : Kee) : Prop where
  ob : ω[n]? = some (.ins "Keeper" (keeF k.m k.r b k.h k.g))
  bo : ω[b]? = some (.dic (mkKs k.bk) (mkVs k.bk))
  nb : n ≠ b
section
variable (m r : Int) (b : Nat) (h g : Int)
@[simp] theorem keeF_size : (keeF m r b h g).lookup ("size" : Str) = some (.int m) := by simp [keeF, List.lookup]
@[simp] theorem keeF_room : (keeF m r b h g).lookup ("room" : Str) = some (.int r) := by simp [keeF, List.lookup]
@[simp] theorem keeF_book : (keeF m r b h g).lookup ("book" : Str) = some (.cell b) := by simp [keeF, List.lookup]
@[simp] theorem keeF_here : (keeF m r b h g).lookup ("here" : Str) = some (.int h) := by simp [keeF, List.lookup]
@[simp] theorem keeF_gone : (keeF m r b h g).lookup ("gone" : Str) = some (.int g) := by simp [keeF, List.lookup]
@[simp] theorem keeF_len : (keeF m r b h g).length = 5 := rfl
@[simp] theorem keeF_setGone (x : Int) : putFd "gone" (.int x) (keeF m r b h g) = keeF m r b h x := by simp [keeF, putFd]
@[simp] theorem keeF_setHere (x : Int) : putFd "here" (.int x) (keeF m r b h g) = keeF m r b x g := by simp [keeF, putFd]
theorem keeF_no {x : String} (h1 : x ≠ "size") (h2 : x ≠ "room") (h3 : x ≠ "book") (h4 : x ≠ "here") (h5 : x ≠ "gone") : (keeF m r b h g).lookup (Str.ofString x) = none := by simp [keeF, List.lookup, h1, h2, h3, h4, h5]
end
theorem KeeAt.ln {ω : List Cell} {n b : Nat} {k : Kee} (A : KeeAt ω n b k) : n < ω.length ∧ b < ω.length := ⟨(List.getElem?_eq_some_iff.mp A.ob).1, (List.getElem?_eq_some_iff.mp A.bo).1⟩
theorem KeeAt.app {ω : List Cell} {n b : Nat} {k : Kee} (A : KeeAt ω n b k) (l : List Cell) : KeeAt (ω ++ l) n b k := ⟨get_app A.ob l, get_app A.bo l, A.nb⟩
theorem KeeAt.keep {ω ω' : List Cell} {n b : Nat} {k : Kee} {fp fp' : List Nat} (A : KeeAt ω n b k) (F : Fr ω ω' fp fp') (h1 : n ∉ fp) (h2 : b ∉ fp) : KeeAt ω' n b k := ⟨(F.out h1 A.ob).2, (F.out h2 A.bo).2, A.nb⟩
theorem KeeAt.chk {ω : List Cell} {n b : Nat} {k : Kee} (A : KeeAt ω n b k) {x : String} (h1 : x ≠ "size" := by decide) (h2 : x ≠ "room" := by decide) (h3 : x ≠ "book" := by decide) (h4 : x ≠ "here" := by decide) (h5 : x ≠ "gone" := by decide) : chkI "Keeper" (Str.ofString x) (.cell n) ω = true := by
  rw [chkI_cell, A.ob]
  simp [keeF_no, h1, h2, h3, h4, h5]
/-- the shelves with room -/
def freeT (m r : Int) (bk : Mks) : List Int := ((List.range m.toNat).map fun (i : Nat) => (i : Int)).filter fun s => decide (((bk.map (·.2)).count s : Int) < r)
theorem mem_free {m r : Int} {bk : Mks} {s : Int} : s ∈ freeT m r bk ↔ (0 ≤ s ∧ s < m) ∧ ((bk.map (·.2)).count s : Int) < r := by
  unfold freeT
  rw [List.mem_filter, List.mem_map, decide_eq_true_eq]
  constructor
  · rintro ⟨⟨i, hi, rfl⟩, h⟩
    rw [List.mem_range] at hi
    exact ⟨by omega, h⟩
  · rintro ⟨h, h2⟩
    exact ⟨⟨s.toNat, List.mem_range.mpr (by omega), by omega⟩, h2⟩
theorem free_ne {m : Int} {bk : Mks} (hl : (bk.length : Int) < m) : freeT m 1 bk ≠ [] := by
  intro h
  have : ∀ s : Int, 0 ≤ s ∧ s < m → s ∈ bk.map (·.2) := fun s hs => by
    by_cases z : s ∈ bk.map (·.2)
    · exact z
    · have : s ∈ freeT m 1 bk := mem_free.mpr ⟨hs, by rw [List.count_eq_zero.mpr z]; decide⟩
      rw [h] at this; cases this
  have h2 := nodup_len (xs := (List.range m.toNat).map fun (i : Nat) => (i : Int)) (ys := bk.map (·.2)) (by
    rw [List.nodup_iff_pairwise_ne, List.pairwise_map]
    exact List.nodup_range.imp fun {a b} h e => h (by omega)) fun s hs => by
      obtain ⟨i, hi, rfl⟩ := List.mem_map.mp hs
      rw [List.mem_range] at hi
      exact this _ (by omega)
  simp at h2
  omega
theorem cnt_ints (xs : List Int) (k : Int) : cntD (.lst (xs.map D.int)) [.int k] = M.ret (.int (xs.count k : Nat)) := by
  unfold cntD
  have e : toPs (xs.map D.int) = some (xs.map PyData.int) := toPs_map (α := Int) xs
  dsimp only
  rw [e]
  show (if SeqAt.shaped (.list (xs.map PyData.int)) = true ∧ SeqAt.shaped (.int k) = true then _ else _) = _
  rw [if_pos ⟨shaped_da (α := List Int) (by decide) xs, shaped_da (α := Int) (by decide) k⟩]
  congr 3
  rw [List.countP_map, List.count]
  apply List.countP_congr
  intro x _
  simp [PyData.eqv]
theorem kRemD_map {α : Type} [Da α] [DecidableEq α] (hd : Da.dep α + 1 ≤ 64) (xs : List α) (x : α) (h : x ∈ xs) (hn : xs.Nodup) : kRemD (xs.map toD) [toD x] = some ((xs.filter fun y => decide (y ≠ x)).map toD, .non) := by
  unfold kRemD
  dsimp only
  rw [toPs_map, Da.ok]
  dsimp only
  rw [if_pos ⟨shaped_da (α := List α) hd xs, shaped_da (by omega) x⟩]
  have e : ∀ xs : List α, x ∈ xs → xs.Nodup → ∃ j, (xs.map Da.py).findIdx? (fun z => PyData.eqv z (Da.py x)) = some j ∧ xs.eraseIdx j = xs.filter fun y => decide (y ≠ x) := by
    intro xs
    induction xs with
    | nil => intro h; cases h
    | cons y ys ih =>
      intro h hn
      rw [List.nodup_cons] at hn
      by_cases q : y = x
      · subst q
        refine ⟨0, by simp [List.findIdx?_cons, (Da.inj y y).mpr rfl], ?_⟩
        rw [List.filter_cons_of_neg (by simp)]
        show ys = _
        rw [List.filter_eq_self.mpr]
        intro z hz
        simp only [ne_eq, decide_not, Bool.not_eq_eq_eq_not, Bool.not_true, decide_eq_false_iff_not]
        exact fun e => hn.1 (e ▸ hz)
      · rcases List.mem_cons.mp h with z | z
        · exact absurd z.symm q
        · obtain ⟨j, e1, e2⟩ := ih z hn.2
          have q' : PyData.eqv (Da.py y) (Da.py x) = false := by
            cases c : PyData.eqv (Da.py y) (Da.py x) with
            | false => rfl
            | true => exact absurd ((Da.inj y x).mp c) q
          refine ⟨j + 1, by rw [List.map_cons, List.findIdx?_cons, q', e1]; rfl, ?_⟩
          rw [List.filter_cons_of_pos (by simpa using q), List.eraseIdx_cons_succ, e2]
  obtain ⟨j, e1, e2⟩ := e xs h hn
  rw [e1]
  dsimp only
  have em : ∀ (l : List α) (j : Nat), (l.map toD).eraseIdx j = (l.eraseIdx j).map (toD (α := α)) := by
    intro l
    induction l with
    | nil => intro j; rfl
    | cons a l ih => intro j; cases j with
      | zero => rfl
      | succ j => simp [ih]
  rw [em, e2]
end Mi
/-! loaders -/
namespace Mi
open PySem PySem.Spec PyProof.Rows L2
open Da (toD)
/-- three things in a tuple -/
structure T3 (α β γ : Type) where
  a : α
  b : β
  c : γ
  deriving DecidableEq
def T3.p {α β γ : Type} (x : T3 α β γ) : α × (β × γ) := (x.a, (x.b, x.c))
theorem T3.p_inj {α β γ : Type} {x y : T3 α β γ} (h : x.p = y.p) : x = y := by
  cases x; cases y
  unfold T3.p at h
  simp at h
  obtain ⟨rfl, rfl, rfl⟩ := h
  rfl
section
variable {α β γ : Type}
instance [Da α] [Da β] [Da γ] : Da (T3 α β γ) where
  toD x := .tup [toD x.a, toD x.b, toD x.c]
  py x := .tuple [Da.py x.a, Da.py x.b, Da.py x.c]
  dep := max (Da.dep α) (max (Da.dep β) (Da.dep γ)) + 1
  ok x := by simp [toP, toPs, Da.ok]
  lay x := by simp [PyData.canLay0, PyData.canLayAll0, Da.lay]
  le x := by
    have h1 := Da.le x.a
    have h2 := Da.le x.b
    have h3 := Da.le x.c
    simp only [PyData.depth, PyData.depthAll]
    omega
  inj x y := by
    cases x; cases y
    simp [PyData.eqv, PyData.eqvAll, Da.inj]
  cl x := by simp [clean, cleanL, Da.cl]
instance [Dl α] [Dl β] [Dl γ] [DecidableEq α] [DecidableEq β] [DecidableEq γ] : Dl (T3 α β γ) where
  lt x y := Dl.lt x.p y.p
  alk x y := by show PySem.W.alike (.tuple [_, _, _]) (.tuple [_, _, _]) = true; simp [PySem.W.alike, PySem.W.alikeAll, Dl.alk]
  nn x := fun z => nomatch z
  ltok x y := by
    show PySem.W.dataLt (.tuple [_, _, _]) (.tuple [_, _, _]) = _
    rw [PySem.W.dataLt_tuple, PySem.W.dataLt_cons (Dl.alk _ _), PySem.W.dataLt_cons (Dl.alk _ _), PySem.W.dataLt_cons (Dl.alk _ _), Dl.ltok, Dl.ltok, Dl.ltok]
    show _ = if x.a = y.a then (if x.b = y.b then Dl.lt x.c y.c else Dl.lt x.b y.b) else Dl.lt x.a y.a
    by_cases h : x.a = y.a
    · rw [if_pos h, if_pos ((eqv_iff _ _).mpr h)]
      by_cases h2 : x.b = y.b
      · rw [if_pos h2, if_pos ((eqv_iff _ _).mpr h2)]
        by_cases h3 : x.c = y.c
        · rw [if_pos ((eqv_iff _ _).mpr h3), h3, Dl.irr]
          exact lex_irrefl _
        · rw [if_neg (fun z => h3 ((eqv_iff _ _).mp z))]
      · rw [if_neg h2, if_neg (fun z => h2 ((eqv_iff _ _).mp z))]
    · rw [if_neg h, if_neg (fun z => h ((eqv_iff _ _).mp z))]
  irr x := Dl.irr _
  tr x y z := Dl.tr _ _ _
  tot x y h1 h2 := T3.p_inj (Dl.tot _ _ h1 h2)
end
abbrev Thg := T3 Nm Int Int
abbrev Lds := List (Nm × (Int × Int))
abbrev LSt := Str × Lds
def stL (p : LSt) : D := .tup [.str p.1, mpD p.2]
def loaF (m : Int) (nw : D) (p q : Nat) : List (Str × D) := [("size", .int m), ("now", nw), ("past", .cell p), ("later", .cell q)]
structure Loa where
  m : Int
  now : Lds
  past : List LSt
  later : List LSt
structure LoaAt (ω : List Cell) (n p q : Nat) (t : Loa) : Prop where
  ob : ω[n]? = some (.ins "Loader" (loaF t.m (mpD t.now) p q))
  pa : ω[p]? = some (.lst (t.past.map stL))
  la : ω[q]? = some (.lst (t.later.map stL))
  np : n ≠ p
  nq : n ≠ q
  pq : p ≠ q
theorem LoaAt.ln {ω : List Cell} {n p q : Nat} {t : Loa} (A : LoaAt ω n p q t) : n < ω.length ∧ p < ω.length ∧ q < ω.length := ⟨(List.getElem?_eq_some_iff.mp A.ob).1, (List.getElem?_eq_some_iff.mp A.pa).1, (List.getElem?_eq_some_iff.mp A.la).1⟩
section
variable (m : Int) (nw : D) (p q : Nat)
@[simp] theorem loaF_size : (loaF m nw p q).lookup ("size" : Str) = some (.int m) := by simp [loaF, List.lookup]
@[simp] theorem loaF_now : (loaF m nw p q).lookup ("now" : Str) = some nw := by simp [loaF, List.lookup]
@[simp] theorem loaF_past : (loaF m nw p q).lookup ("past" : Str) = some (.cell p) := by simp [loaF, List.lookup]
@[simp] theorem loaF_later : (loaF m nw p q).lookup ("later" : Str) = some (.cell q) := by simp [loaF, List.lookup]
@[simp] theorem loaF_len : (loaF m nw p q).length = 4 := rfl
@[simp] theorem loaF_setNow (x : D) : putFd "now" x (loaF m nw p q) = loaF m x p q := by simp [loaF, putFd]
@[simp] theorem loaF_setLater (r : Nat) : putFd "later" (.cell r) (loaF m nw p q) = loaF m nw p r := by simp [loaF, putFd]
@[simp] theorem loaF_setPast (r : Nat) : putFd "past" (.cell r) (loaF m nw p q) = loaF m nw r q := by simp [loaF, putFd]
theorem loaF_no {x : String} (h1 : x ≠ "size") (h2 : x ≠ "now") (h3 : x ≠ "past") (h4 : x ≠ "later") : (loaF m nw p q).lookup (Str.ofString x) = none := by simp [loaF, List.lookup, h1, h2, h3, h4]
end
theorem LoaAt.app {ω : List Cell} {n p q : Nat} {t : Loa} (A : LoaAt ω n p q t) (l : List Cell) : LoaAt (ω ++ l) n p q t := ⟨get_app A.ob l, get_app A.pa l, get_app A.la l, A.np, A.nq, A.pq⟩
theorem LoaAt.keep {ω ω' : List Cell} {n p q : Nat} {t : Loa} {fp fp' : List Nat} (A : LoaAt ω n p q t) (F : Fr ω ω' fp fp') (h1 : n ∉ fp) (h2 : p ∉ fp) (h3 : q ∉ fp) : LoaAt ω' n p q t := ⟨(F.out h1 A.ob).2, (F.out h2 A.pa).2, (F.out h3 A.la).2, A.np, A.nq, A.pq⟩
theorem LoaAt.chk {ω : List Cell} {n p q : Nat} {t : Loa} (A : LoaAt ω n p q t) {x : String} (h1 : x ≠ "size" := by decide) (h2 : x ≠ "now" := by decide) (h3 : x ≠ "past" := by decide) (h4 : x ≠ "later" := by decide) : chkI "Loader" (Str.ofString x) (.cell n) ω = true := by
  rw [chkI_cell, A.ob]
  simp [loaF_no, h1, h2, h3, h4]
/-! loads of all shelves -/
def ldStep (acc : List Int) (p : Nm × (Int × Int)) : List Int := addAt acc p.2.1.toNat p.2.2
def loadsT (m : Int) (now : Lds) : List Int := now.foldl ldStep (List.replicate m.toNat 0)
theorem ld_len : ∀ (now : Lds) (acc : List Int), (now.foldl ldStep acc).length = acc.length
  | [], _ => rfl
  | p :: now, acc => by rw [List.foldl_cons, ld_len now]; unfold ldStep; rw [addAt_len]
theorem loads_len (m : Int) (now : Lds) : (loadsT m now).length = m.toNat := by unfold loadsT; rw [ld_len]; simp
theorem loads_snoc (m : Int) (now : Lds) (p : Nm × (Int × Int)) : loadsT m (now ++ [p]) = addAt (loadsT m now) p.2.1.toNat p.2.2 := by
  unfold loadsT; rw [List.foldl_append]; rfl
theorem sum_set : ∀ (xs : List Int) (s : Nat) (v : Int), s < xs.length → (xs.set s v).sum = xs.sum - nth xs s + v
  | [], _, _, h => by simp at h
  | x :: xs, 0, v, _ => by simp [nth]; omega
  | x :: xs, s + 1, v, h => by
    have := sum_set xs s v (by simpa using h)
    have e : nth (x :: xs) (s + 1) = nth xs s := rfl
    rw [List.set_cons_succ, List.sum_cons, List.sum_cons, this, e]; omega
theorem sum_addAt (xs : List Int) (s : Nat) (v : Int) (h : s < xs.length) : (addAt xs s v).sum = xs.sum + v := by
  unfold addAt; rw [sum_set xs s _ h]; omega
theorem nth_le_sum : ∀ {xs : List Int}, (∀ x ∈ xs, 0 ≤ x) → ∀ i, nth xs i ≤ xs.sum ∧ 0 ≤ xs.sum
  | [], _, i => by simp [nth]
  | x :: xs, h, i => by
    have h0 := h x List.mem_cons_self
    have hr := fun j => nth_le_sum (fun y hy => h y (List.mem_cons_of_mem _ hy)) j
    rw [List.sum_cons]
    cases i with
    | zero => have := hr 0; simp [nth]; omega
    | succ i => have := hr i; have e : nth (x :: xs) (i + 1) = nth xs i := rfl; rw [e]; omega
theorem mem_le_sum {xs : List Int} (h : ∀ x ∈ xs, 0 ≤ x) {x : Int} (hx : x ∈ xs) : x ≤ xs.sum := by
  obtain ⟨i, hi, e⟩ := List.mem_iff_getElem.mp hx
  have := (nth_le_sum h i).1
  have e2 : nth xs i = x := by rw [nth_get, List.getElem?_eq_getElem hi, e]; rfl
  omega
theorem addAt_nonneg {xs : List Int} (h : ∀ x ∈ xs, 0 ≤ x) (s : Nat) {v : Int} (hv : 0 ≤ v) : ∀ x ∈ addAt xs s v, 0 ≤ x := by
  intro x hx
  unfold addAt at hx
  rcases List.mem_or_eq_of_mem_set hx with z | z
  · exact h x z
  · rw [z]; have := nth_nonneg h s; omega
theorem best1L (xs : List Int) (u : Int) (hp : 0 < xs.length ∧ xs.length ≤ 16) : ∃ s : Nat, s < xs.length ∧ bestT xs [u] = (tiltT (addAt xs s u), ⟨[(s : Int)]⟩) := by
  have hne : listB xs [u] ≠ [] := fun z => by
    have : ((tiltT (addAt xs 0 u), (⟨[((0 : Nat) : Int)]⟩ : Tu Int)) : Int × Tu Int) ∈ listB xs [u] := List.mem_map.mpr ⟨_, mem_puts1.mpr ⟨0, hp.1, rfl⟩, rfl⟩
    rw [z] at this; cases this
  have h0 := minOf_mem hne
  unfold listB at h0
  obtain ⟨p, h1, h2⟩ := List.mem_map.mp h0
  obtain ⟨s, hs, rfl⟩ := mem_puts1.mp h1
  exact ⟨s, hs, h2.symm⟩
theorem best1_leL (xs : List Int) (u : Int) {a : Nat} (ha : a < xs.length) : (bestT xs [u]).1 ≤ tiltT (addAt xs a u) :=
  min_fst (List.mem_map.mpr ⟨_, mem_puts1.mpr ⟨a, ha, rfl⟩, rfl⟩)
def maxN : List Int → Int
  | [] => 0
  | x :: r => r.foldl max x
theorem foldmax : ∀ (r : List Int) (x : Int), (r.foldl max x = x ∨ r.foldl max x ∈ r) ∧ x ≤ r.foldl max x ∧ ∀ y ∈ r, y ≤ r.foldl max x
  | [], x => ⟨.inl rfl, Int.le_refl _, by simp⟩
  | z :: r, x => by
    obtain ⟨h1, h2, h3⟩ := foldmax r (max x z)
    rw [List.foldl_cons]
    refine ⟨?_, by omega, fun y hy => ?_⟩
    · rcases h1 with h | h
      · rw [h]
        by_cases c : x ≤ z
        · right; rw [Int.max_eq_right c]; exact List.mem_cons_self
        · left; exact Int.max_eq_left (by omega)
      · exact .inr (List.mem_cons_of_mem _ h)
    · rcases List.mem_cons.mp hy with h | h
      · omega
      · exact h3 y h
theorem maxN_spec {xs : List Int} (h : xs ≠ []) : maxN xs ∈ xs ∧ ∀ y ∈ xs, y ≤ maxN xs := by
  cases xs with
  | nil => exact absurd rfl h
  | cons x r =>
    obtain ⟨h1, h2, h3⟩ := foldmax r x
    refine ⟨?_, fun y hy => ?_⟩
    · rcases h1 with h | h
      · show r.foldl max x ∈ _; rw [h]; exact List.mem_cons_self
      · exact List.mem_cons_of_mem _ h
    · rcases List.mem_cons.mp hy with h | h
      · rw [h]; exact h2
      · exact h3 y h
theorem maxL_ints (xs : List Int) (h : xs ≠ []) : maxL (xs.map D.int) = M.ret (.int (maxN xs)) := by
  cases xs with
  | nil => exact absurd rfl h
  | cons x r =>
    unfold maxL
    rw [show ints? ((x :: r).map D.int) = some (x :: r) from ints_map (x :: r)]
    rfl
def bestS1 (xs : List Int) (u : Int) : Int := nth (bestT xs [u]).2.l 0
theorem bestS1_spec (xs : List Int) (u : Int) (hp : 0 < xs.length ∧ xs.length ≤ 16) : ∃ s : Nat, s < xs.length ∧ bestS1 xs u = s ∧ bestT xs [u] = (tiltT (addAt xs s u), ⟨[(s : Int)]⟩) := by
  obtain ⟨s, h1, h2⟩ := best1L xs u hp
  exact ⟨s, h1, by unfold bestS1; rw [h2]; rfl, h2⟩
theorem tilt_zero (n : Nat) : tiltT (List.replicate n 0) = 0 := by
  have h0 : ∀ i, nth (List.replicate n 0) i = 0 := fun i => by
    rw [nth_get]
    by_cases h : i < n
    · rw [List.getElem?_replicate, if_pos h]; rfl
    · rw [List.getElem?_eq_none (by simp; omega)]; rfl
  have hw : ∀ a h, win (List.replicate n 0) a h = 0 := fun a h => by
    unfold win
    have : (fun k => nth (List.replicate n 0) ((a + k) % (List.replicate n (0 : Int)).length)) = fun _ => 0 := by funext k; exact h0 _
    rw [this]
    unfold sumN
    generalize List.range h = l
    induction l with
    | nil => rfl
    | cons a l ih => simpa using ih
  unfold tiltT
  have hd : ∀ a, dif (List.replicate n 0) a = 0 := fun a => by unfold dif; rw [hw, hw]; rfl
  have : (fun (v : Int) a => max v (dif (List.replicate n 0) a)) = fun v _ => max v 0 := by funext v a; rw [hd]
  rw [this]
  generalize List.range (List.replicate n (0 : Int)).length = l
  induction l with
  | nil => rfl
  | cons a l ih => exact ih
/-- put anew: the last one -/
theorem putM_last {β : Type} [Da β] {mp : List (Nm × β)} {x : Nm} {i j : β} (h : mp.lookup x = none) : putM (mp ++ [(x, i)]) x j = mp ++ [(x, j)] := by
  unfold putM
  have hl : (List.lookup x (mp ++ [(x, i)])).isSome = true := mem_lookup' (by simp)
  rw [if_pos hl, List.map_append]
  congr 1
  · rw [List.map_congr_left (g := id) (fun p hp => ?_)]
    · simp
    · show (if p.1 = x then (p.1, j) else p) = p
      rw [if_neg (fun e => look_none.mp h (by rw [← e]; exact List.mem_map.mpr ⟨p, hp, rfl⟩))]
  · simp
theorem delM_last {β : Type} [Da β] {mp : List (Nm × β)} {x : Nm} {i : β} (h : mp.lookup x = none) : delM (mp ++ [(x, i)]) x = mp := by
  unfold delM
  rw [List.filter_append, List.filter_cons_of_neg (by simp), List.filter_nil, List.append_nil, List.filter_eq_self.mpr]
  intro p hp
  simp only [ne_eq, decide_not, Bool.not_eq_eq_eq_not, Bool.not_true, decide_eq_false_iff_not]
  exact fun e => look_none.mp h (by rw [← e]; exact List.mem_map.mpr ⟨p, hp, rfl⟩)
theorem look_last {β : Type} [Da β] {mp : List (Nm × β)} {x : Nm} {i : β} (h : mp.lookup x = none) : (mp ++ [(x, i)]).lookup x = some i := by
  rw [List.lookup_append, h]; simp
def thT (y : Nm × (Int × Int)) : Thg := ⟨y.1, y.2.1, y.2.2⟩
end Mi
/-! running what is told -/
namespace Mi
open PySem PySem.Spec PyProof.Rows L2
open Da (toD)
section
variable {word : Str → Option Str} {f : Env → M D} {ρ : Env} {ω ω' : List Cell} {c x : Str} {d : D}
theorem told_raise (h : f ρ = M.raise c) (hw : word c = some x) : eTold word f ρ = M.ret (.str x) := by
  funext ω
  unfold eTold
  rw [h]
  show (match word c with | some x => Res.ok (D.str x) ω | none => Res.stuck) = _
  rw [hw]; rfl
theorem told_ret (h : f ρ = M.ret d) : eTold word f ρ = M.ret d := by
  funext ω
  unfold eTold
  rw [h]
  rfl
theorem told_ok (h : f ρ ω = .ok d ω') : eTold word f ρ ω = .ok d ω' := by
  unfold eTold
  rw [h]
theorem told_exc (h : f ρ ω = .raise c ω') (hw : word c = some x) : eTold word f ρ ω = .ok (.str x) ω' := by
  unfold eTold
  rw [h]
  dsimp only
  rw [hw]
end
theorem loop_cons {g : D → Env → Option Env} {s : SM} {d : D} {ds : List D} {ρ ρ1 ρ2 : Env} {ω ω2 : List Cell} (h1 : g d ρ = some ρ1) (h2 : s ρ1 ω = .next ρ2 ω2) : loopS g s (d :: ds) ρ ω = loopS g s ds ρ2 ω2 := by
  conv => lhs; unfold loopS
  rw [h1]
  dsimp only
  rw [h2]
/-- data that are laid out flat enough to be compared -/
def PyOk (n : Nat) (d : D) : Prop := ∃ p, toP d = some p ∧ p.canLay0 = true ∧ p.depth ≤ n
theorem PyOk.da {α : Type} [Da α] {n : Nat} (h : Da.dep α ≤ n) (a : α) : PyOk n (toD a) := ⟨Da.py a, Da.ok a, Da.lay a, Nat.le_trans (Da.le a) h⟩
theorem PyOk.int (n : Nat) (i : Int) : PyOk n (.int i) := ⟨.int i, rfl, rfl, Nat.zero_le _⟩
theorem PyOk.non (n : Nat) : PyOk n .non := ⟨.none, rfl, rfl, Nat.zero_le _⟩
theorem PyOk.alls {n : Nat} : ∀ {ds : List D}, (∀ d ∈ ds, PyOk n d) → ∃ ps, toPs ds = some ps ∧ PyData.canLayAll0 ps = true ∧ PyData.depthAll ps ≤ n
  | [], _ => ⟨[], rfl, rfl, Nat.zero_le _⟩
  | d :: ds, h => by
    obtain ⟨p, h1, h2, h3⟩ := h d List.mem_cons_self
    obtain ⟨ps, h4, h5, h6⟩ := PyOk.alls fun z hz => h z (List.mem_cons_of_mem _ hz)
    refine ⟨p :: ps, by unfold toPs; rw [h1, h4], by unfold PyData.canLayAll0; rw [h2, h5]; rfl, by unfold PyData.depthAll; exact Nat.max_le.mpr ⟨h3, h6⟩⟩
theorem PyOk.lst {n : Nat} {ds : List D} (h : ∀ d ∈ ds, PyOk n d) : PyOk (n + 1) (.lst ds) := by
  obtain ⟨ps, h4, h5, h6⟩ := PyOk.alls h
  exact ⟨.list ps, by unfold toP; rw [h4], by unfold PyData.canLay0; exact h5, by unfold PyData.depth; omega⟩
theorem PyOk.tup {n : Nat} {ds : List D} (h : ∀ d ∈ ds, PyOk n d) : PyOk (n + 1) (.tup ds) := by
  obtain ⟨ps, h4, h5, h6⟩ := PyOk.alls h
  exact ⟨.tuple ps, by unfold toP; rw [h4], by unfold PyData.canLay0; exact h5, by unfold PyData.depth; omega⟩
theorem PyOk.mono {n m : Nat} {d : D} (h : PyOk n d) (hn : n ≤ m) : PyOk m d := let ⟨p, h1, h2, h3⟩ := h; ⟨p, h1, h2, Nat.le_trans h3 hn⟩
theorem pyEq_self {d : D} (h : PyOk 64 d) : pyEq d d = some true := by
  obtain ⟨p, h1, h2, h3⟩ := h
  unfold pyEq
  rw [h1]
  dsimp only
  have hs : SeqAt.shaped p = true := by unfold SeqAt.shaped; rw [h2, Bool.true_and, decide_eq_true_eq]; exact h3
  rw [if_pos ⟨hs, hs⟩, SeqAt.eqv_refl p h2]
end Mi
/-! deeds of turners, as the laws reckon -/
namespace Mi
open PySem PySem.Spec PyProof.Rows L2
open Da (toD)
inductive TDeed where
  | turn (b : Int) | mark (x : Nm) | go (x : Nm)
def TDeed.d : TDeed → D
  | .turn b => .tup [.str "turn", .int b]
  | .mark x => .tup [.str "mark", .str x.1]
  | .go x => .tup [.str "go", .str x.1]
abbrev TSt := Int × Mks
def nowT (m : Int) (s : TSt) : D := .tup [.int m, .int s.1, mpD s.2]
def behS (m : Int) (s : TSt) : TDeed → TSt
  | .turn b => ((s.1 + b) % m, s.2)
  | .mark x => (s.1, putM s.2 x s.1)
  | .go x => match s.2.lookup x with
    | some g => (g, s.2)
    | none => s
def behD (m : Int) (s : TSt) : TDeed → D
  | .turn b => .int ((s.1 + b) % m)
  | .mark x => optD (s.2.lookup x)
  | .go x => match s.2.lookup x with
    | some g => .int (stepsTo m s.1 g)
    | none => .str "no thing"
def behB (m : Int) (s : TSt) : TDeed → Option Int
  | .turn b => some b
  | .mark x => some 0
  | .go x => match s.2.lookup x with
    | some g => some (stepsTo m s.1 g)
    | none => none
theorem steps_le (m on : Int) : (on ≤ m - on) ↔ 2 * on ≤ m := by omega
/-- what is kept of a state -/
structure Gd (m : Int) (k : Nat) (s : TSt) : Prop where
  sh : 0 ≤ s.1 ∧ s.1 < m
  nd : (s.2.map (·.1)).Nodup
  ln : s.2.length ≤ k
  mv : ∀ p ∈ s.2, 0 ≤ p.2 ∧ p.2 < m
theorem Gd.mono {m : Int} {k k' : Nat} {s : TSt} (h : Gd m k s) (hk : k ≤ k') : Gd m k' s := ⟨h.sh, h.nd, Nat.le_trans h.ln hk, h.mv⟩
theorem put_mvs {mp : Mks} {x : Nm} {i m : Int} (h : ∀ p ∈ mp, 0 ≤ p.2 ∧ p.2 < m) (hi : 0 ≤ i ∧ i < m) : ∀ p ∈ putM mp x i, 0 ≤ p.2 ∧ p.2 < m := by
  intro p hp
  unfold putM at hp
  split at hp
  · obtain ⟨r, hr, rfl⟩ := List.mem_map.mp hp
    split
    · exact hi
    · exact h r hr
  · rcases List.mem_append.mp hp with z | z
    · exact h p z
    · rw [List.mem_singleton.mp z]; exact hi
theorem Gd.beh {m : Int} {k : Nat} {s : TSt} (h : Gd m k s) (hm : 0 < m) (d : TDeed) : Gd m (k + 1) (behS m s d) := by
  cases d with
  | turn b => exact ⟨⟨Int.emod_nonneg _ (by omega), Int.emod_lt_of_pos _ hm⟩, h.nd, Nat.le_succ_of_le h.ln, h.mv⟩
  | mark x => exact ⟨h.sh, putM_nd h.nd, Nat.le_trans (putM_len _ _ _) (Nat.succ_le_succ h.ln), put_mvs h.mv h.sh⟩
  | go x =>
    unfold behS
    dsimp only
    cases z : s.2.lookup x with
    | none => exact h.mono (Nat.le_succ k)
    | some g => exact ⟨h.mv _ (lookup_mem' z), h.nd, Nat.le_succ_of_le h.ln, h.mv⟩
def Tur.cur (t : Tur) : TSt := (t.sh, t.mp)
/-- rows and row of a turner: all that was and will be -/
def rowsT (t : Tur) : List TSt := t.past.map (·.2) ++ [t.cur] ++ t.later.reverse.map (·.2)
def rowT (t : Tur) : List Int := t.past.map (·.1) ++ t.later.reverse.map (·.1)
theorem rowsT_len (t : Tur) : (rowsT t).length = t.past.length + 1 + t.later.length := by simp [rowsT]; omega
theorem rowT_len (t : Tur) : (rowT t).length = t.past.length + t.later.length := by simp [rowT]
theorem rowsT_at (t : Tur) : (rowsT t)[t.past.length]? = some t.cur := by
  unfold rowsT
  rw [List.append_assoc, List.getElem?_append_right (by simp)]
  simp
theorem oAt_get {α : Type} {xs : List α} {i : Nat} {x : α} (h : xs[i]? = some x) (k : α → D) : oAt xs (i : Int) k = M.ret (k x) := by
  have hl := (List.getElem?_eq_some_iff.mp h).1
  have e : atI xs (i : Int) = some x := by
    unfold atI ixN
    rw [if_pos (by omega), if_pos (by omega)]
    show xs[((i : Int)).toNat]? = some x
    rw [show ((i : Int)).toNat = i by omega]; exact h
  unfold oAt
  rw [e]
theorem optD_ok (o : Option Int) : PyOk 5 (optD o) := by
  cases o with
  | none => exact PyOk.non _
  | some i => exact PyOk.int _ i
theorem behD_ok (m : Int) (s : TSt) (d : TDeed) : PyOk 5 (behD m s d) ∧ clean (behD m s d) = true := by
  cases d with
  | turn b => exact ⟨PyOk.int _ _, rfl⟩
  | mark x =>
    refine ⟨optD_ok _, ?_⟩
    show clean (optD (s.2.lookup x)) = true
    cases s.2.lookup x <;> rfl
  | go x =>
    unfold behD
    dsimp only
    cases s.2.lookup x with
    | none => exact ⟨⟨.str "no thing", rfl, by decide +kernel, Nat.zero_le _⟩, rfl⟩
    | some g => exact ⟨PyOk.int _ _, rfl⟩
end Mi
/-! deeds of loaders, as the laws reckon -/
namespace Mi
open PySem PySem.Spec PyProof.Rows L2
open Da (toD)
def ldTh (acc : List Int) (x : Thg) : List Int := addAt acc x.b.toNat x.c
def thLoads (m : Int) (th : List Thg) : List Int := th.foldl ldTh (List.replicate m.toNat 0)
theorem ldTh_perm {th th' : List Thg} (h : th.Perm th') : ∀ acc : List Int, th.foldl ldTh acc = th'.foldl ldTh acc := by
  induction h with
  | nil => exact fun _ => rfl
  | cons x _ ih => intro acc; rw [List.foldl_cons, List.foldl_cons, ih]
  | swap x y l => intro acc; rw [List.foldl_cons, List.foldl_cons, List.foldl_cons, List.foldl_cons]; unfold ldTh; rw [addAt_comm]
  | trans _ _ h1 h2 => intro acc; rw [h1, h2]
/-- all things, rising -/
def thS (now : Lds) : List Thg := sortT (now.map thT)
theorem thS_perm (now : Lds) : (thS now).Perm (now.map thT) := sortT_perm _
theorem thS_loads (m : Int) (now : Lds) : thLoads m (thS now) = loadsT m now := by
  unfold thLoads
  rw [ldTh_perm (thS_perm now)]
  unfold loadsT
  rw [List.foldl_map]
  rfl
theorem filter_own (x : Nm) : ∀ (now : Lds), (now.map (·.1)).Nodup → (now.map thT).filter (fun y => decide (y.a = x)) = match now.lookup x with | some e => [(⟨x, e.1, e.2⟩ : Thg)] | none => []
  | [], _ => rfl
  | (y, e) :: now, h => by
    rw [List.map_cons, List.nodup_cons] at h
    rw [List.map_cons, List.lookup_cons]
    by_cases c : y = x
    · subst c
      rw [List.filter_cons_of_pos (by simp [thT])]
      have : (now.map thT).filter (fun z => decide (z.a = y)) = [] := by
        rw [List.filter_eq_nil_iff]
        intro z hz
        obtain ⟨p, hp, rfl⟩ := List.mem_map.mp hz
        simp only [decide_eq_true_eq]
        exact fun e => h.1 (List.mem_map.mpr ⟨p, hp, e⟩)
      rw [this]
      simp [thT]
    · rw [List.filter_cons_of_neg (by simp [thT, c]), filter_own x now h.2, beq_eq_false_iff_ne.mpr (Ne.symm c)]
theorem thS_own (x : Nm) (now : Lds) (h : (now.map (·.1)).Nodup) : (thS now).filter (fun y => decide (y.a = x)) = match now.lookup x with | some e => [(⟨x, e.1, e.2⟩ : Thg)] | none => [] := by
  have p := (thS_perm now).filter (fun y => decide (y.a = x))
  rw [filter_own x now h] at p
  cases z : now.lookup x with
  | none => rw [z] at p; exact p.eq_nil
  | some e => rw [z] at p; exact List.perm_singleton.mp p
theorem thS_add (now : Lds) (x : Nm) (e : Int × Int) : sortT (thS now ++ [(⟨x, e.1, e.2⟩ : Thg)]) = thS (now ++ [(x, e)]) := by
  unfold thS
  apply sortT_eq
  rw [List.map_append]
  exact (sortT_perm _).append_right _
theorem thS_rest (now : Lds) (x : Nm) : (thS now).filter (fun y => decide (y.a ≠ x)) = thS (delM now x) := by
  refine sorted_unique ?_ ((sortT_sorted _).filter _) (sortT_sorted _)
  refine ((sortT_perm _).filter _).trans (.trans ?_ (sortT_perm _).symm)
  unfold delM
  rw [List.filter_map]
  exact .refl _
theorem put_perm' {x : Nm} (e' : Int × Int) : ∀ now : Lds, (now.map (·.1)).Nodup → x ∈ now.map (·.1) → (now.map fun p => if p.1 = x then (p.1, e') else p).Perm (delM now x ++ [(x, e')])
  | [], _, hx => nomatch hx
  | (y, e) :: now, h, hx => by
    rw [List.map_cons, List.nodup_cons] at h
    unfold delM
    rw [List.map_cons]
    by_cases c : y = x
    · subst c
      have h1 : (now.map fun p => if p.1 = y then (p.1, e') else p) = now := by
        conv => rhs; rw [← List.map_id now]
        exact List.map_congr_left fun p hp => if_neg fun e => h.1 (List.mem_map.mpr ⟨p, hp, e⟩)
      have h2 : now.filter (fun p => decide (p.1 ≠ y)) = now := List.filter_eq_self.mpr fun p hp => by
        simp only [decide_eq_true_eq]
        exact fun e => h.1 (List.mem_map.mpr ⟨p, hp, e⟩)
      rw [List.filter_cons_of_neg (by simp), h1, h2]
      simp only [if_true]
      exact (List.perm_append_singleton _ _).symm
    · rw [List.filter_cons_of_pos (by simp [c])]
      simp only [if_neg c]
      refine List.Perm.cons _ (put_perm' e' now h.2 ?_)
      rcases List.mem_cons.mp hx with z | z
      · exact absurd z.symm c
      · exact z
theorem put_perm {now : Lds} {x : Nm} {e : Int × Int} (e' : Int × Int) (h : (now.map (·.1)).Nodup) (hx : now.lookup x = some e) : (putM now x e').Perm (delM now x ++ [(x, e')]) := by
  unfold putM
  rw [hx]
  dsimp only [Option.isSome_some, if_true]
  exact put_perm' e' now h (List.mem_map.mpr ⟨_, lookup_mem' hx, rfl⟩)
theorem thS_put {now : Lds} {x : Nm} {e : Int × Int} (e' : Int × Int) (h : (now.map (·.1)).Nodup) (hx : now.lookup x = some e) : sortT (thS (delM now x) ++ [(⟨x, e'.1, e'.2⟩ : Thg)]) = thS (putM now x e') := by
  rw [thS_add]
  unfold thS
  exact sortT_eq ((put_perm e' h hx).symm.map _)
/-- the first of the least -/
theorem idx_ints (xs : List Int) (k : Int) (j : Nat) (hj : xs[j]? = some k) (hb : ∀ i, i < j → xs[i]? ≠ some k) : idxD (.lst (xs.map D.int)) [.int k] = M.ret (.int (j : Int)) := by
  unfold idxD
  have e : toPs (xs.map D.int) = some (xs.map PyData.int) := toPs_map (α := Int) xs
  dsimp only
  rw [e]
  show (if SeqAt.shaped (.list (xs.map PyData.int)) = true ∧ SeqAt.shaped (.int k) = true then _ else _) = _
  rw [if_pos ⟨shaped_da (α := List Int) (by decide) xs, shaped_da (α := Int) (by decide) k⟩]
  have : (xs.map PyData.int).findIdx? (fun z => PyData.eqv z (.int k)) = some j := by
    rw [List.findIdx?_eq_some_iff_getElem]
    obtain ⟨hl, he⟩ := List.getElem?_eq_some_iff.mp hj
    refine ⟨by simpa using hl, by simp [PyData.eqv, he], fun i hi => ?_⟩
    have := hb i hi
    rw [List.getElem?_eq_getElem (by omega)] at this
    simpa [PyData.eqv] using fun e => this (by rw [e])
  rw [this]
theorem oAt0 (x : D) (xs : List D) : oAt (x :: xs) 0 id = M.ret x := oAt_get (i := 0) (xs := x :: xs) rfl id
theorem oAt1 (x y : D) (xs : List D) : oAt (x :: y :: xs) 1 id = M.ret y := oAt_get (i := 1) (xs := x :: y :: xs) rfl id
theorem oAt2 (x y z : D) (xs : List D) : oAt (x :: y :: z :: xs) 2 id = M.ret z := oAt_get (i := 2) (xs := x :: y :: z :: xs) rfl id
def tiltsT (xs : List Int) (v : Int) : List Int := (List.range xs.length).map fun s => tiltT (addAt xs s v)
theorem tilts_at (xs : List Int) (v : Int) {s : Nat} (h : s < xs.length) : (tiltsT xs v)[s]? = some (tiltT (addAt xs s v)) := by
  unfold tiltsT
  rw [List.getElem?_map, List.getElem?_range h]; rfl
theorem best_first (xs : List Int) (v : Int) (hp : 0 < xs.length ∧ xs.length ≤ 16) : ∃ s : Nat, s < xs.length ∧ bestS1 xs v = s ∧ minOf (tiltsT xs v) = tiltT (addAt xs s v) ∧ ∀ i, i < s → (tiltsT xs v)[i]? ≠ some (tiltT (addAt xs s v)) := by
  obtain ⟨s, h1, h2, h3⟩ := bestS1_spec xs v hp
  refine ⟨s, h1, h2, ?_, fun i hi z => ?_⟩
  · refine minOf_eq (List.mem_iff_getElem?.mpr ⟨s, tilts_at xs v h1⟩) fun y hy => ?_
    unfold tiltsT at hy
    obtain ⟨a, ha, rfl⟩ := List.mem_map.mp hy
    have := best1_leL xs v (List.mem_range.mp ha)
    rw [h3] at this
    show decide (_ < _) = false
    simpa using this
  · rw [tilts_at xs v (by omega)] at z
    have hm : ((tiltT (addAt xs i v), (⟨[(i : Int)]⟩ : Tu Int)) : Int × Tu Int) ∈ listB xs [v] := List.mem_map.mpr ⟨_, mem_puts1.mpr ⟨i, by omega, rfl⟩, rfl⟩
    have := minOf_le hm
    have e : minOf (listB xs [v]) = (tiltT (addAt xs s v), ⟨[(s : Int)]⟩) := h3
    rw [e, Option.some.inj z] at this
    have h' : (if tiltT (addAt xs s v) = tiltT (addAt xs s v) then Dl.lt (⟨[(i : Int)]⟩ : Tu Int) ⟨[(s : Int)]⟩ else Dl.lt (tiltT (addAt xs s v)) (tiltT (addAt xs s v))) = false := this
    rw [if_pos rfl] at h'
    have h2 : decide ((i : Int) < (s : Int)) = false := by
      have : (if (i : Int) = (s : Int) then Dl.lt ([] : List Int) [] else Dl.lt (i : Int) (s : Int)) = false := h'
      rw [if_neg (by omega)] at this
      exact this
    simp at h2
    omega
inductive LDeed where
  | add (x : Nm) (v : Int) | drop (x : Nm) (k : Int) | shift (x : Nm) (s : Int)
def LDeed.d : LDeed → D
  | .add x v => .tup [.str "add", .str x.1, .int v]
  | .drop x k => .tup [.str "drop", .str x.1, .int k]
  | .shift x s => .tup [.str "shift", .str x.1, .int s]
def LDeed.w : LDeed → Str
  | .add _ _ => "add"
  | .drop _ _ => "drop"
  | .shift _ _ => "shift"
def LDeed.ok (m : Int) : LDeed → Prop
  | .add _ v => 0 ≤ v ∧ v ≤ 999
  | .drop _ _ => True
  | .shift _ s => 0 ≤ s ∧ s < m
def nowL (m : Int) (now : Lds) : D := .tup [.int m, .lst ((thS now).map toD)]
def lbR (m : Int) (now : Lds) : LDeed → Option Lds × D
  | .add x v => match now.lookup x with
    | some _ => (none, .str "taken")
    | none => if 999 < maxN (loadsT m now) + v then (none, .str "full") else (some (now ++ [(x, (bestS1 (loadsT m now) v, v))]), .int (bestS1 (loadsT m now) v))
  | .drop x _ => match now.lookup x with
    | none => (none, .str "no thing")
    | some e => (some (delM now x), .tup [.int e.1, .int e.2])
  | .shift x s => match now.lookup x with
    | none => (none, .str "no thing")
    | some e => if s ≠ e.1 ∧ 999 < nth (loadsT m now) s.toNat + e.2 then (none, .str "full") else (some (putM now x (s, e.2)), .int e.1)
section
variable {m : Int} {now : Lds} {x : Nm} {v : Int} {e : Int × Int}
theorem lbR_taken (z : now.lookup x = some e) : lbR m now (.add x v) = (none, .str "taken") := by unfold lbR; dsimp only; rw [z]
theorem lbR_full (z : now.lookup x = none) (h : 999 < maxN (loadsT m now) + v) : lbR m now (.add x v) = (none, .str "full") := by unfold lbR; dsimp only; rw [z]; dsimp only; rw [if_pos h]
theorem lbR_add (z : now.lookup x = none) (h : ¬ 999 < maxN (loadsT m now) + v) : lbR m now (.add x v) = (some (now ++ [(x, (bestS1 (loadsT m now) v, v))]), .int (bestS1 (loadsT m now) v)) := by unfold lbR; dsimp only; rw [z]; dsimp only; rw [if_neg h]
theorem lbR_dropno (z : now.lookup x = none) : lbR m now (.drop x v) = (none, .str "no thing") := by unfold lbR; dsimp only; rw [z]
theorem lbR_drop (z : now.lookup x = some e) : lbR m now (.drop x v) = (some (delM now x), .tup [.int e.1, .int e.2]) := by unfold lbR; dsimp only; rw [z]
theorem lbR_shiftno (z : now.lookup x = none) : lbR m now (.shift x v) = (none, .str "no thing") := by unfold lbR; dsimp only; rw [z]
theorem lbR_shiftfull (z : now.lookup x = some e) (h : v ≠ e.1 ∧ 999 < nth (loadsT m now) v.toNat + e.2) : lbR m now (.shift x v) = (none, .str "full") := by unfold lbR; dsimp only; rw [z]; dsimp only; rw [if_pos h]
theorem lbR_shift (z : now.lookup x = some e) (h : ¬ (v ≠ e.1 ∧ 999 < nth (loadsT m now) v.toNat + e.2)) : lbR m now (.shift x v) = (some (putM now x (v, e.2)), .int e.1) := by unfold lbR; dsimp only; rw [z]; dsimp only; rw [if_neg h]
end
structure Gl (m : Int) (k : Nat) (now : Lds) : Prop where
  nd : (now.map (·.1)).Nodup
  sh : ∀ x ∈ now, 0 ≤ x.2.1 ∧ x.2.1 < m
  ln : now.length ≤ k
theorem Gl.mono {m : Int} {k k' : Nat} {s : Lds} (h : Gl m k s) (hk : k ≤ k') : Gl m k' s := ⟨h.nd, h.sh, Nat.le_trans h.ln hk⟩
theorem Gl.nil (m : Int) : Gl m 0 [] := ⟨by simp, by simp, Nat.le_refl _⟩
theorem Gl.beh {m : Int} {k : Nat} {now : Lds} (h : Gl m k now) (hm : 3 ≤ m ∧ m ≤ 16) (d : LDeed) (hd : d.ok m) : Gl m (k + 1) ((lbR m now d).1.getD now) := by
  have h0 : Gl m (k + 1) now := h.mono (Nat.le_succ _)
  have ll := loads_len m now
  cases d with
  | add x v =>
    cases z : now.lookup x with
    | some e => rw [lbR_taken z]; exact h0
    | none =>
      by_cases c : 999 < maxN (loadsT m now) + v
      · rw [lbR_full z c]; exact h0
      · rw [lbR_add z c]
        obtain ⟨s, h1, h2, h3⟩ := bestS1_spec (loadsT m now) v (by omega)
        show Gl m (k + 1) (now ++ [(x, (bestS1 (loadsT m now) v, v))])
        rw [h2]
        refine ⟨?_, fun y hy => ?_, by simp; exact h.ln⟩
        · have := putM_nd (x := x) (i := ((s : Int), v)) h.nd
          rw [putM_new z] at this
          exact this
        · rcases List.mem_append.mp hy with q | q
          · exact h.sh y q
          · rw [List.mem_singleton.mp q]; dsimp only; omega
  | drop x j =>
    cases z : now.lookup x with
    | none => rw [lbR_dropno z]; exact h0
    | some e => rw [lbR_drop z]; exact ⟨delM_nd h.nd, fun y hy => h.sh y (List.mem_filter.mp hy).1, Nat.le_trans (List.length_filter_le _ _) h0.ln⟩
  | shift x s =>
    cases z : now.lookup x with
    | none => rw [lbR_shiftno z]; exact h0
    | some e =>
      by_cases c : s ≠ e.1 ∧ 999 < nth (loadsT m now) s.toNat + e.2
      · rw [lbR_shiftfull z c]; exact h0
      · rw [lbR_shift z c]
        refine ⟨putM_nd h.nd, fun y hy => ?_, ?_⟩
        · have hy' : y ∈ putM now x (s, e.2) := hy
          unfold putM at hy'
          rw [z] at hy'
          dsimp only [Option.isSome_some, if_true] at hy'
          obtain ⟨p, hp, rfl⟩ := List.mem_map.mp hy'
          split
          · exact hd
          · exact h.sh p hp
        · exact Nat.le_trans (putM_len _ _ _) (Nat.succ_le_succ h.ln)
theorem lbR_ok (m : Int) (now : Lds) (d : LDeed) : PyOk 5 (lbR m now d).2 ∧ clean (lbR m now d).2 = true := by
  have s1 : PyOk 5 (.str "taken") := ⟨.str "taken", rfl, by decide +kernel, Nat.zero_le _⟩
  have s2 : PyOk 5 (.str "full") := ⟨.str "full", rfl, by decide +kernel, Nat.zero_le _⟩
  have s3 : PyOk 5 (.str "no thing") := ⟨.str "no thing", rfl, by decide +kernel, Nat.zero_le _⟩
  cases d with
  | add x v =>
    cases z : now.lookup x with
    | some e => rw [lbR_taken z]; exact ⟨s1, rfl⟩
    | none =>
      by_cases c : 999 < maxN (loadsT m now) + v
      · rw [lbR_full z c]; exact ⟨s2, rfl⟩
      · rw [lbR_add z c]; exact ⟨PyOk.int _ _, rfl⟩
  | drop x j =>
    cases z : now.lookup x with
    | none => rw [lbR_dropno z]; exact ⟨s3, rfl⟩
    | some e => rw [lbR_drop z]; exact ⟨PyOk.da (α := Int × Int) (by decide) e, rfl⟩
  | shift x s =>
    cases z : now.lookup x with
    | none => rw [lbR_shiftno z]; exact ⟨s3, rfl⟩
    | some e =>
      by_cases c : s ≠ e.1 ∧ 999 < nth (loadsT m now) s.toNat + e.2
      · rw [lbR_shiftfull z c]; exact ⟨s2, rfl⟩
      · rw [lbR_shift z c]; exact ⟨PyOk.int _ _, rfl⟩
def ldT (t : Loa) (d : LDeed) : Loa := match (lbR t.m t.now d).1 with
  | some nw => ⟨t.m, nw, t.past ++ [(d.w, t.now)], []⟩
  | none => t
theorem ldT_some {t : Loa} {d : LDeed} {nw : Lds} {o : D} (h : lbR t.m t.now d = (some nw, o)) : ldT t d = ⟨t.m, nw, t.past ++ [(d.w, t.now)], []⟩ := by unfold ldT; rw [h]
theorem ldT_none {t : Loa} {d : LDeed} {o : D} (h : lbR t.m t.now d = (none, o)) : ldT t d = t := by unfold ldT; rw [h]
def seenL (m : Int) (now : Lds) : D := .lst [.int m, .lst ((thS now).map toD), .tup ((loadsT m now).map D.int), .int (tiltT (loadsT m now))]
theorem seenL_ok (m : Int) (now : Lds) : PyOk 64 (seenL m now) := by
  unfold seenL
  refine PyOk.mono (n := 8) (PyOk.lst (n := 7) ?_) (by decide)
  simp only [List.forall_mem_cons]
  exact ⟨PyOk.int _ _, PyOk.da (α := List Thg) (by decide) (thS now), PyOk.da (α := Tu Int) (by decide) ⟨loadsT m now⟩, PyOk.int _ _, fun _ h => nomatch h⟩
theorem nowL_nil (m : Int) : nowL m [] = .tup [.int m, .lst []] := by
  unfold nowL
  have : thS [] = [] := List.length_eq_zero_iff.mp (by rw [(thS_perm []).length_eq]; rfl)
  rw [this]; rfl
end Mi
/-! rows of loaders -/
namespace Mi
open PySem PySem.Spec PyProof.Rows L2
open Da (toD)
def rowsL (t : Loa) : List Lds := t.past.map (·.2) ++ [t.now] ++ t.later.reverse.map (·.2)
def rowL (t : Loa) : List Str := t.past.map (·.1) ++ t.later.reverse.map (·.1)
theorem rowL_len (t : Loa) : (rowL t).length = t.past.length + t.later.length := by simp [rowL]
theorem rowsL_at (t : Loa) : (rowsL t)[t.past.length]? = some t.now := by
  unfold rowsL
  rw [List.append_assoc, List.getElem?_append_right (by simp)]
  simp
theorem now_mem (t : Loa) : t.now ∈ rowsL t := by unfold rowsL; simp
def badW : List D := [.str "full", .str "no thing", .str "taken"]
theorem lbR_in (m : Int) (now : Lds) (d : LDeed) : anyEq (lbR m now d).2 badW = some (lbR m now d).1.isNone := by
  have s1 : anyEq (.str "taken") badW = some true := by decide +kernel
  have s2 : anyEq (.str "full") badW = some true := by decide +kernel
  have s3 : anyEq (.str "no thing") badW = some true := by decide +kernel
  have s4 : ∀ i : Int, anyEq (.int i) badW = some false := fun i => by
    have h1 : SeqAt.shaped (.int i) = true := shaped_da (α := Int) (by decide) i
    have h2 : SeqAt.shaped (.list [.str "full", .str "no thing", .str "taken"]) = true := by decide +kernel
    show (if SeqAt.shaped (.int i) = true ∧ SeqAt.shaped (.list [.str "full", .str "no thing", .str "taken"]) = true then some ([PyData.str "full", .str "no thing", .str "taken"].any fun z => PyData.eqv z (.int i)) else none) = _
    rw [if_pos ⟨h1, h2⟩]
    simp [PyData.eqv]
  have s5 : ∀ i j : Int, anyEq (.tup [.int i, .int j]) badW = some false := fun i j => by
    have h1 : SeqAt.shaped (.tuple [.int i, .int j]) = true := shaped_da (α := Int × Int) (by decide) (i, j)
    have h2 : SeqAt.shaped (.list [.str "full", .str "no thing", .str "taken"]) = true := by decide +kernel
    show (if SeqAt.shaped (.tuple [.int i, .int j]) = true ∧ SeqAt.shaped (.list [.str "full", .str "no thing", .str "taken"]) = true then some ([PyData.str "full", .str "no thing", .str "taken"].any fun z => PyData.eqv z (.tuple [.int i, .int j])) else none) = _
    rw [if_pos ⟨h1, h2⟩]
    simp [PyData.eqv]
  cases d with
  | add x v =>
    cases z : now.lookup x with
    | some e => rw [lbR_taken z]; exact s1
    | none =>
      by_cases c : 999 < maxN (loadsT m now) + v
      · rw [lbR_full z c]; exact s2
      · rw [lbR_add z c]; exact s4 _
  | drop x j =>
    cases z : now.lookup x with
    | none => rw [lbR_dropno z]; exact s3
    | some e => rw [lbR_drop z]; exact s5 _ _
  | shift x s =>
    cases z : now.lookup x with
    | none => rw [lbR_shiftno z]; exact s3
    | some e =>
      by_cases c : s ≠ e.1 ∧ 999 < nth (loadsT m now) s.toNat + e.2
      · rw [lbR_shiftfull z c]; exact s2
      · rw [lbR_shift z c]; exact s4 _
theorem d_word (d : LDeed) : ∃ a b, d.d = .tup [.str d.w, a, b] := by cases d <;> exact ⟨_, _, rfl⟩
end Mi
/-! steps as texts -/
namespace Mi
open PySem PySem.Spec PyProof.Rows L2 TL
def numS (n : Nat) : Str := Str.ofString (toString ((n : Nat) : Int))
/-- the word of a step -/
def wI (i : Int) : Str := if 0 < i then ("+" : Str) ++ Str.ofString (toString i) else Str.ofString (toString i)
theorem tl_numS (n : Nat) : tl (numS n) = numL n := tl_num n
theorem tl_plus : tl ("+" : Str) = [43] := by decide +kernel
theorem tl_minus : tl ("-" : Str) = [45] := by decide +kernel
theorem neg_text (n : Nat) : Str.ofString (toString (-((n + 1 : Nat) : Int))) = ("-" : Str) ++ numS (n + 1) := by
  refine ext_tl ?_
  rw [tl_append, toString_neg (show -((n + 1 : Nat) : Int) < 0 by omega)]
  show (Str.ofString ("-" ++ toString (0 - -((n + 1 : Nat) : Int)))).cps.toList = (Str.ofString "-").cps.toList ++ (Str.ofString (toString ((n + 1 : Nat) : Int))).cps.toList
  rw [show 0 - -((n + 1 : Nat) : Int) = ((n + 1 : Nat) : Int) by omega]
  rw [Str.ofString_eq_toList, Str.ofString_eq_toList, Str.ofString_eq_toList]
  simp [String.toList_append]
theorem wI_pos (n : Nat) (h : 0 < n) : wI (n : Int) = ("+" : Str) ++ numS n := by unfold wI; rw [if_pos (by omega)]; rfl
theorem wI_zero : wI 0 = numS 0 := rfl
theorem wI_neg (n : Nat) : wI (-((n + 1 : Nat) : Int)) = ("-" : Str) ++ numS (n + 1) := by unfold wI; rw [if_neg (by omega), neg_text]
theorem numS_len {n : Nat} (h : n ≤ 999) : 1 ≤ (numS n).length ∧ (numS n).length ≤ 3 := by
  rw [len_tl, tl_numS]
  refine ⟨List.length_pos_iff.mpr (numL_ne n), numL_len (k := 3) (by decide) (by omega)⟩
theorem numS_int {n : Nat} (h : n ≤ 999) : PySem.intText? (numS n) = some (n : Int) := PySem.W.KIN.num_reads (by omega) (by omega)
theorem numS_fig (n : Nat) : ∀ c ∈ (numS n).cps.toList, c ∈ ("0123456789" : Str).cps.toList := fun c hc => by
  have h := numL_digits n c (by rw [← tl_numS]; exact hc)
  have e : ("0123456789" : Str).cps.toList = [48, 49, 50, 51, 52, 53, 54, 55, 56, 57] := by decide +kernel
  rw [e]
  simp only [List.mem_cons, List.not_mem_nil, or_false]
  omega
theorem cut_head (c : Nat) (x t : Str) (hx : tl x = [c]) : cutS (x ++ t) none (some 1) = x := by
  refine ext_tl ?_
  have e : tl (x ++ t) = c :: tl t := by rw [tl_append, hx]; rfl
  unfold cutS
  have hl : (x ++ t).length = (tl t).length + 1 := by rw [len_tl, e]; rfl
  show (((tl (x ++ t)).drop (HT.sIx (x ++ t).length 0 none)).take (HT.sIx (x ++ t).length (x ++ t).length (some 1) - HT.sIx (x ++ t).length 0 none)) = tl x
  rw [e, hl, hx]
  have h1 : HT.sIx ((tl t).length + 1) 0 none = 0 := rfl
  have h2 : HT.sIx ((tl t).length + 1) ((tl t).length + 1) (some 1) = 1 := by
    simp [HT.sIx]
  rw [h1, h2]
  rfl
theorem cut_tail (c : Nat) (x t : Str) (hx : tl x = [c]) : cutS (x ++ t) (some 1) none = t := by
  refine ext_tl ?_
  have e : tl (x ++ t) = c :: tl t := by rw [tl_append, hx]; rfl
  unfold cutS
  have hl : (x ++ t).length = (tl t).length + 1 := by rw [len_tl, e]; rfl
  show (((tl (x ++ t)).drop (HT.sIx (x ++ t).length 0 (some 1))).take (HT.sIx (x ++ t).length (x ++ t).length none - HT.sIx (x ++ t).length 0 (some 1))) = tl t
  rw [e, hl]
  have h1 : HT.sIx ((tl t).length + 1) ((tl t).length + 1) none = (tl t).length + 1 := rfl
  have h2 : HT.sIx ((tl t).length + 1) 0 (some 1) = 1 := by
    simp [HT.sIx]
  rw [h1, h2]
  show (tl t).take ((tl t).length + 1 - 1) = tl t
  rw [Nat.add_sub_cancel, List.take_length]
theorem joinL_len (y : List Nat) : ∀ ps : List (List Nat), (joinL y ps).length ≤ (ps.map List.length).sum + ps.length * y.length
  | [] => Nat.zero_le _
  | [p] => by show p.length ≤ _; simp
  | p :: q :: r => by
    have ih := joinL_len y (q :: r)
    show (p ++ (y ++ joinL y (q :: r))).length ≤ _
    rw [List.length_append, List.length_append, List.map_cons, List.sum_cons, List.length_cons, Nat.succ_mul]
    omega
theorem joinL_mem (y : List Nat) : ∀ (ps : List (List Nat)) (c : Nat), c ∈ joinL y ps → c ∈ y ∨ ∃ p ∈ ps, c ∈ p
  | [], _, h => nomatch h
  | [p], c, h => .inr ⟨p, List.mem_singleton_self _, h⟩
  | p :: q :: r, c, h => by
    have h' : c ∈ p ++ (y ++ joinL y (q :: r)) := h
    rcases List.mem_append.mp h' with h | h
    · exact .inr ⟨p, List.mem_cons_self, h⟩
    · rcases List.mem_append.mp h with h | h
      · exact .inl h
      · rcases joinL_mem y (q :: r) c h with h | ⟨z, hz, hc⟩
        · exact .inl h
        · exact .inr ⟨z, List.mem_cons_of_mem _ hz, hc⟩
theorem tl_wI {i : Int} (h : -999 ≤ i ∧ i ≤ 999) : (tl (wI i)).length ≤ 4 ∧ (tl (wI i)) ≠ [] ∧ ∀ c ∈ tl (wI i), c ≠ 32 ∧ c < 128 := by
  have dg : ∀ n c, c ∈ numL n → c ≠ 32 ∧ c < 128 := fun n c hc => by have := numL_digits n c hc; omega
  rcases Int.lt_trichotomy i 0 with h1 | h1 | h1
  · obtain ⟨n, rfl⟩ : ∃ n : Nat, i = -((n + 1 : Nat) : Int) := ⟨(-i - 1).toNat, by omega⟩
    rw [wI_neg, tl_append, tl_minus, tl_numS]
    have := numL_len (n := n + 1) (k := 3) (by decide) (by omega)
    refine ⟨by simp; omega, by simp, fun c hc => ?_⟩
    rcases List.mem_cons.mp hc with z | z
    · omega
    · exact dg _ c z
  · subst h1
    rw [wI_zero, tl_numS, numL_lt (by decide)]
    exact ⟨by simp, by simp, fun c hc => by rw [List.mem_singleton.mp hc]; omega⟩
  · obtain ⟨n, rfl⟩ : ∃ n : Nat, i = (n : Int) := ⟨i.toNat, by omega⟩
    rw [wI_pos n (by omega), tl_append, tl_plus, tl_numS]
    have := numL_len (n := n) (k := 3) (by decide) (by omega)
    refine ⟨by simp; omega, by simp, fun c hc => ?_⟩
    rcases List.mem_cons.mp hc with z | z
    · omega
    · exact dg _ c z
theorem tl_sp : tl (" " : Str) = [32] := by decide +kernel
theorem strOk_lt {x : Str} (h : ∀ c ∈ tl x, c < 128) : PyData.strOk x = true := by
  unfold PyData.strOk
  rw [← Array.all_toList, List.all_eq_true]
  intro c hc
  have := h c hc
  rw [decide_eq_true_eq]
  omega
def rowS (row : List Int) : Str := Txt.join " " (row.map wI)
theorem sum_wI : ∀ {row : List Int}, (∀ i ∈ row, -999 ≤ i ∧ i ≤ 999) → ((row.map wI).map (·.length)).sum ≤ 4 * row.length
  | [], _ => Nat.le_refl _
  | i :: row, h => by
    have h1 := (tl_wI (h i List.mem_cons_self)).1
    have h2 := sum_wI (row := row) fun j hj => h j (List.mem_cons_of_mem _ hj)
    rw [List.map_cons, List.map_cons, List.sum_cons, List.length_cons, len_tl]
    omega
section
variable {row : List Int} (h : ∀ i ∈ row, -999 ≤ i ∧ i ≤ 999) (hl : row.length ≤ 20)
include h
theorem tl_rowS : tl (rowS row) = joinL [32] ((row.map wI).map tl) := by unfold rowS; rw [join_eq, tl_join, tl_sp]
theorem rowS_lt : ∀ c ∈ tl (rowS row), c < 128 := fun c hc => by
  rw [tl_rowS h] at hc
  rcases joinL_mem _ _ c hc with z | ⟨p, hp, z⟩
  · rw [List.mem_singleton.mp z]; omega
  · rw [List.map_map] at hp
    obtain ⟨i, hi, rfl⟩ := List.mem_map.mp hp
    exact ((tl_wI (h i hi)).2.2 c z).2
include hl
theorem rowS_len : (rowS row).length ≤ 100 := by
  rw [len_tl, tl_rowS h]
  have := joinL_len [32] ((row.map wI).map tl)
  have h2 := sum_wI h
  have e : ((row.map wI).map tl).map List.length = (row.map wI).map (·.length) := by rw [List.map_map]; exact List.map_congr_left fun x _ => (len_tl x).symm
  rw [e, List.length_map, List.length_map, List.length_singleton, Nat.mul_one] at this
  omega
theorem rowS_ok : txtOk (rowS row) = true := txtOk_iff.mpr ⟨Nat.le_trans (rowS_len h hl) (by decide), strOk_lt (rowS_lt h)⟩
theorem row_jsz : jsz " " (row.map wI) = true := by
  unfold jsz
  rw [Bool.and_eq_true, Nat.ble_eq]
  refine ⟨?_, rowS_ok h hl⟩
  have h2 := sum_wI h
  have e : (" " : Str).length = 1 := by decide +kernel
  rw [e, List.length_map]
  omega
omit hl
theorem words_ok : (row.map wI).all txtOk = true := by
  rw [List.all_eq_true]
  intro x hx
  obtain ⟨i, hi, rfl⟩ := List.mem_map.mp hx
  have := tl_wI (h i hi)
  exact txtOk_iff.mpr ⟨by rw [len_tl]; exact Nat.le_trans this.1 (by decide), strOk_lt fun c hc => (this.2.2 c hc).2⟩
theorem row_split (hne : row ≠ []) : Txt.split (rowS row) " " = row.map wI :=
  split_join (s := 32) (S := []) tl_sp (by decide +kernel) (by simpa using hne) fun p hp hc => by
    obtain ⟨i, hi, rfl⟩ := List.mem_map.mp hp
    exact ((tl_wI (h i hi)).2.2 32 hc).1 rfl
theorem rowS_ne (hne : row ≠ []) : rowS row ≠ "" := fun e => by
  have := congrArg tl e
  rw [tl_rowS h] at this
  have e0 : tl ("" : Str) = [] := by decide +kernel
  rw [e0] at this
  cases row with
  | nil => exact hne rfl
  | cons i r =>
    have hi := (tl_wI (h i List.mem_cons_self)).2.1
    cases r with
    | nil => exact hi this
    | cons j r => exact hi (List.append_eq_nil_iff.mp this).1
end
theorem pyEq_strs {x y : Str} (hx : PyData.strOk x = true) (hy : PyData.strOk y = true) : pyEq (.str x) (.str y) = some (decide (x = y)) := by
  have sh : ∀ {z : Str}, PyData.strOk z = true → SeqAt.shaped (.str z) = true := fun {z} hz => by
    unfold SeqAt.shaped
    rw [Bool.and_eq_true, decide_eq_true_eq]
    exact ⟨hz, Nat.zero_le _⟩
  unfold pyEq
  show (if SeqAt.shaped (.str x) = true ∧ SeqAt.shaped (.str y) = true then some (PyData.eqv (.str x) (.str y)) else none) = _
  rw [if_pos ⟨sh hx, sh hy⟩]
  congr 1
/-! shelves reached -/
def reachL (m : Int) : Int → List Int → List Int
  | _, [] => []
  | h, b :: r => (h + b) % m :: reachL m ((h + b) % m) r
def endL (m : Int) (h : Int) (r : List Int) : Int := r.foldl (fun h b => (h + b) % m) h
theorem reachL_len (m : Int) : ∀ (r : List Int) (h : Int), (reachL m h r).length = r.length
  | [], _ => rfl
  | b :: r, h => by show (reachL m _ r).length + 1 = _; rw [reachL_len m r]; rfl
theorem reach_last (m : Int) : ∀ (r : List Int) (h : Int), (h :: reachL m h r)[r.length]? = some (endL m h r)
  | [], h => rfl
  | b :: r, h => by
    show (((h + b) % m) :: reachL m ((h + b) % m) r)[r.length]? = _
    rw [reach_last m r]; rfl
theorem endL_sum (m : Int) : ∀ (r : List Int) (h : Int), endL m h r % m = (h + r.sum) % m
  | [], h => by show h % m = (h + 0) % m; rw [Int.add_zero]
  | b :: r, h => by
    show endL m ((h + b) % m) r % m = _
    rw [endL_sum m r, List.sum_cons, ← Int.add_assoc, Int.emod_add_emod]
theorem endL_rng {m : Int} (hm : 0 < m) : ∀ (r : List Int) (h : Int), 0 ≤ h ∧ h < m → 0 ≤ endL m h r ∧ endL m h r < m
  | [], _, h => h
  | b :: r, h, _ => endL_rng hm r _ ⟨Int.emod_nonneg _ (by omega), Int.emod_lt_of_pos _ hm⟩
theorem endL_eq {m : Int} (hm : 0 < m) (r : List Int) {h : Int} (hh : 0 ≤ h ∧ h < m) : endL m h r = (h + r.sum) % m := by
  have e := endL_sum m r h
  have := endL_rng hm r h hh
  rwa [Int.emod_eq_of_lt this.1 this.2] at e
theorem endL_snoc (m h : Int) (r : List Int) (b : Int) : endL m h (r ++ [b]) = (endL m h r + b) % m := by unfold endL; rw [List.foldl_append]; rfl
end Mi
/-! the tilt of a round begun elsewhere, or seen from the other side; the first least -/
namespace Mi
open PySem PySem.Spec PyProof.Rows L2
theorem tilt_ge {xs : List Int} (a : Nat) (h : 0 < xs.length) : dif xs a ≤ tiltT xs := by
  have e : dif xs (a % xs.length) = dif xs a := by
    have w : ∀ b c : Nat, b % xs.length = c % xs.length → win xs b (xs.length / 2) = win xs c (xs.length / 2) := fun b c hb => by
      unfold win
      exact sumN_congr fun i _ => by rw [Nat.add_mod, hb, ← Nat.add_mod]
    unfold dif
    rw [w (a % xs.length) a (Nat.mod_mod _ _), w (a % xs.length + xs.length / 2) (a + xs.length / 2) (by rw [Nat.mod_add_mod])]
  rw [← e]
  exact (fold_ge (List.range xs.length) 0).2 _ (List.mem_range.mpr (Nat.mod_lt _ h))
theorem tilt_up {xs ys : List Int} (h : 0 < xs.length) (hd : ∀ a, a < ys.length → ∃ b, dif ys a = dif xs b) : tiltT ys ≤ tiltT xs :=
  fold_le _ _ (tilt_nonneg xs) fun a ha => by
    obtain ⟨b, e⟩ := hd a (List.mem_range.mp ha)
    rw [e]; exact tilt_ge b h
theorem nth_turn (xs : List Int) (a i : Nat) (ha : a ≤ xs.length) (hi : i < xs.length) : nth (xs.drop a ++ xs.take a) i = nth xs ((i + a) % xs.length) := by
  rw [nth_append]
  by_cases c : i < (xs.drop a).length
  · rw [if_pos c]
    rw [List.length_drop] at c
    rw [Nat.mod_eq_of_lt (by omega), nth_get, nth_get, List.getElem?_drop, Nat.add_comm]
  · rw [if_neg c]
    rw [List.length_drop] at c ⊢
    rw [Nat.mod_eq_sub_mod (by omega), Nat.mod_eq_of_lt (by omega), nth_get, nth_get, List.getElem?_take, if_pos (by omega)]
    congr 2
    omega
theorem dif_turn (xs : List Int) (a j : Nat) (ha : a ≤ xs.length) (hp : 0 < xs.length) : dif (xs.drop a ++ xs.take a) j = dif xs (j + a) := by
  have hl : (xs.drop a ++ xs.take a).length = xs.length := by simp; omega
  have w : ∀ b h, win (xs.drop a ++ xs.take a) b h = win xs (b + a) h := fun b h => by
    unfold win
    refine sumN_congr fun k _ => ?_
    rw [hl, nth_turn xs a _ ha (Nat.mod_lt _ hp), Nat.mod_add_mod]
    congr 2
    omega
  unfold dif
  rw [hl, w, w]
  congr 3
  omega
theorem tilt_turn (xs : List Int) (a : Nat) (ha : a ≤ xs.length) (hp : 0 < xs.length) : tiltT (xs.drop a ++ xs.take a) = tiltT xs := by
  have hl : (xs.drop a ++ xs.take a).length = xs.length := by simp; omega
  refine Int.le_antisymm (tilt_up hp fun j _ => ⟨j + a, dif_turn xs a j ha hp⟩) ?_
  refine tilt_up (by omega) fun j hj => ⟨j + (xs.length - a), ?_⟩
  rw [dif_turn xs a _ ha hp]
  have w : ∀ b h, win xs (b + (xs.length - a) + a) h = win xs b h := fun b h => by
    unfold win
    refine sumN_congr fun k _ => ?_
    rw [show b + (xs.length - a) + a + k = b + k + xs.length by omega, Nat.add_mod_right]
  have w2 : ∀ b c h, win xs (b + (xs.length - a) + a + c) h = win xs (b + c) h := fun b c h => by
    rw [show b + (xs.length - a) + a + c = (b + c) + (xs.length - a) + a by omega, w]
  unfold dif
  rw [w, w2]
theorem nth_back (xs : List Int) (i : Nat) (hi : i < xs.length) : nth xs.reverse i = nth xs (xs.length - 1 - i) := by
  rw [nth_get, nth_get, List.getElem?_reverse hi]
theorem sumN_back (h : Nat) (f : Nat → Int) : sumN h (fun k => f (h - 1 - k)) = sumN h f := sumN_re (m := h) (σ := fun k => h - 1 - k) (fun i hi => by omega) (fun i j hi hj e => by omega) f
theorem win_back (xs : List Int) (j h : Nat) (hh : j + h ≤ 2 * xs.length) (hp : 0 < xs.length) : win xs.reverse j h = win xs (2 * xs.length - j - h) h := by
  unfold win
  rw [← sumN_back h (fun k => nth xs ((2 * xs.length - j - h + k) % xs.length)), List.length_reverse]
  refine sumN_congr fun k hk => ?_
  rw [nth_back xs _ (Nat.mod_lt _ hp)]
  congr 1
  have h1 : 2 * xs.length - j - h + (h - 1 - k) = 2 * xs.length - 1 - (j + k) := by omega
  rw [h1]
  generalize xs.length = n at *
  have hjk : j + k < 2 * n := by omega
  by_cases c : j + k < n
  · rw [Nat.mod_eq_of_lt c, show 2 * n - 1 - (j + k) = (n - 1 - (j + k)) + n by omega, Nat.add_mod_right, Nat.mod_eq_of_lt (by omega)]
  · rw [Nat.mod_eq_sub_mod (by omega : j + k ≥ n), Nat.mod_eq_of_lt (by omega), Nat.mod_eq_of_lt (by omega)]
    omega
theorem tilt_back_le (xs : List Int) (hp : 0 < xs.length) : tiltT xs.reverse ≤ tiltT xs := by
  refine tilt_up hp fun j hj => ⟨2 * xs.length - j - 2 * (xs.length / 2), ?_⟩
  rw [List.length_reverse] at hj
  unfold dif
  rw [List.length_reverse, win_back xs j _ (by omega) hp, win_back xs (j + xs.length / 2) _ (by omega) hp]
  rw [show 2 * xs.length - j - 2 * (xs.length / 2) + xs.length / 2 = 2 * xs.length - j - xs.length / 2 by omega, show 2 * xs.length - (j + xs.length / 2) - xs.length / 2 = 2 * xs.length - j - 2 * (xs.length / 2) by omega]
  unfold absI
  split <;> split <;> omega
theorem tilt_back (xs : List Int) (hp : 0 < xs.length) : tiltT xs.reverse = tiltT xs := by
  refine Int.le_antisymm (tilt_back_le xs hp) ?_
  have := tilt_back_le xs.reverse (by rw [List.length_reverse]; exact hp)
  rwa [List.reverse_reverse] at this
/-! the first least of a list whose second parts rise -/
theorem first_min {β : Type} [Dl β] [DecidableEq β] [Inhabited β] (l : List (Int × β)) (hn : l ≠ []) (inc : l.Pairwise fun a b => Dl.lt a.2 b.2 = true) :
    ∃ j : Nat, l[j]? = some (minOf l) ∧ minOf (l.map (·.1)) = (minOf l).1 ∧ ∀ i, i < j → (l.map (·.1))[i]? ≠ some (minOf l).1 := by
  obtain ⟨j, hj⟩ := List.mem_iff_getElem?.mp (minOf_mem hn)
  refine ⟨j, hj, ?_, fun i hi z => ?_⟩
  · refine minOf_eq (List.mem_map.mpr ⟨_, minOf_mem hn, rfl⟩) fun y hy => ?_
    obtain ⟨p, hp, rfl⟩ := List.mem_map.mp hy
    have := minOf_le hp
    have h' : (if p.1 = (minOf l).1 then Dl.lt p.2 (minOf l).2 else decide (p.1 < (minOf l).1)) = false := this
    show decide (p.1 < (minOf l).1) = false
    by_cases c : p.1 = (minOf l).1
    · rw [c]; simp
    · rw [if_neg c] at h'; exact h'
  · rw [List.getElem?_map] at z
    obtain ⟨p, hp, e⟩ := Option.map_eq_some_iff.mp z
    have h1 := minOf_le (List.mem_of_getElem? hp)
    have h' : (if p.1 = (minOf l).1 then Dl.lt p.2 (minOf l).2 else decide (p.1 < (minOf l).1)) = false := h1
    rw [if_pos e] at h'
    obtain ⟨hi1, hi2⟩ := List.getElem?_eq_some_iff.mp hp
    obtain ⟨hj1, hj2⟩ := List.getElem?_eq_some_iff.mp hj
    have h2 := List.pairwise_iff_getElem.mp inc i j hi1 hj1 hi
    rw [hi2, hj2, h'] at h2
    cases h2
theorem lex_app : ∀ (p q : List Int) (s t : Int), p.length = q.length → lexL p q = true → lexL (p ++ [s]) (q ++ [t]) = true
  | [], [], _, _, _, h => by cases h
  | [], _ :: _, _, _, hl, _ => by cases hl
  | _ :: _, [], _, _, hl, _ => by cases hl
  | a :: p, b :: q, s, t, hl, h => by
    have h' : (if a = b then lexL p q else Dl.lt a b) = true := h
    show (if a = b then lexL (p ++ [s]) (q ++ [t]) else Dl.lt a b) = true
    by_cases c : a = b
    · rw [if_pos c] at h' ⊢
      exact lex_app p q s t (by simpa using hl) h'
    · rw [if_neg c] at h' ⊢; exact h'
theorem lex_same : ∀ (p : List Int) (s t : Int), s < t → lexL (p ++ [s]) (p ++ [t]) = true
  | [], s, t, h => by
    show (if s = t then lexL ([] : List Int) [] else decide (s < t)) = true
    rw [if_neg (by omega)]; simpa using h
  | a :: p, s, t, h => by
    show (if a = a then lexL (p ++ [s]) (p ++ [t]) else Dl.lt a a) = true
    rw [if_pos rfl]; exact lex_same p s t h
theorem step_rise (n k : Nat) (load : Int) (made : List (Tu Int × Tu Int)) (hk : ∀ p ∈ made, p.1.l.length = k) (h : made.Pairwise fun a b => lexL a.1.l b.1.l = true) :
    (stepP n made load).Pairwise (fun a b => lexL a.1.l b.1.l = true) ∧ ∀ p ∈ stepP n made load, p.1.l.length = k + 1 := by
  constructor
  · unfold stepP
    induction made with
    | nil => exact List.Pairwise.nil
    | cons p made ih =>
      rw [List.pairwise_cons] at h
      rw [List.flatMap_cons, List.pairwise_append]
      refine ⟨?_, ih (fun q hq => hk q (List.mem_cons_of_mem _ hq)) h.2, ?_⟩
      · refine List.Pairwise.map _ (fun a b hab => ?_) (List.pairwise_lt_range (n := n))
        exact lex_same p.1.l a b (by omega)
      · intro a ha b hb
        obtain ⟨s, _, rfl⟩ := List.mem_map.mp ha
        obtain ⟨q, hq, hb⟩ := List.mem_flatMap.mp hb
        obtain ⟨t, _, rfl⟩ := List.mem_map.mp hb
        exact lex_app _ _ _ _ ((hk p List.mem_cons_self).trans (hk q (List.mem_cons_of_mem _ hq)).symm) (h.1 q hq)
  · intro p hp
    obtain ⟨q, hq, s, _, rfl⟩ := mem_step.mp hp
    simp [hk q hq]
theorem puts_rise (n : Nat) : ∀ (sm : List Int) (k : Nat) (made : List (Tu Int × Tu Int)), (∀ p ∈ made, p.1.l.length = k) → made.Pairwise (fun a b => lexL a.1.l b.1.l = true) → (sm.foldl (stepP n) made).Pairwise fun a b => lexL a.1.l b.1.l = true
  | [], _, _, _, h => h
  | v :: sm, k, made, hk, h => by
    obtain ⟨h1, h2⟩ := step_rise n k v made hk h
    exact puts_rise n sm (k + 1) _ h2 h1
theorem listB_rise (xs some : List Int) : (listB xs some).Pairwise fun a b => Dl.lt a.2 b.2 = true := by
  unfold listB
  refine List.Pairwise.map _ (fun a b h => h) (puts_rise xs.length some 0 [(⟨[]⟩, ⟨xs⟩)] (fun p hp => ?_) (List.pairwise_singleton _ _))
  rw [List.mem_singleton.mp hp]; rfl
end Mi
namespace Lw
open PySem PySem.Spec PyProof.Rows L2 Mi
def topS (i : Nat) : Stmt := PySem.Challenge.pw_shelfround_k30_whole_loads.main.body.getD i (.Pass ⟨0, 0, 0, 0⟩)
abbrev s_with_load : Stmt := topS 19
abbrev N_with_load : List Str := ["loads", "shelf", "load"]
theorem sc_with_load : FnScope N_with_load ["loads", "shelf", "load"] (defScope s_with_load) := ⟨rfl, rfl, rfl, by decide +kernel, rfl, by decide +kernel, by decide +kernel⟩
abbrev s_puts : Stmt := topS 20
abbrev N_puts : List Str := ["loads", "some", "made", "load", "longer", "shelves", "here", "shelf"]
theorem sc_puts : FnScope N_puts ["loads", "some"] (defScope s_puts) := ⟨rfl, rfl, rfl, by decide +kernel, rfl, by decide +kernel, by decide +kernel⟩
abbrev s_tilt_of : Stmt := topS 17
abbrev N_tilt_of : List Str := ["loads", "half", "twice", "at"]
theorem sc_tilt_of : FnScope N_tilt_of ["loads"] (defScope s_tilt_of) := ⟨rfl, rfl, rfl, by decide +kernel, rfl, by decide +kernel, by decide +kernel⟩
abbrev s_best_of : Stmt := topS 22
abbrev N_best_of : List Str := ["loads", "some", "shelves", "here"]
theorem sc_best_of : FnScope N_best_of ["loads", "some"] (defScope s_best_of) := ⟨rfl, rfl, rfl, by decide +kernel, rfl, by decide +kernel, by decide +kernel⟩
abbrev s_is_whole : Stmt := topS 13
abbrev N_is_whole : List Str := ["thing", "low", "high"]
theorem sc_is_whole : FnScope N_is_whole ["thing", "low", "high"] (defScope s_is_whole) := ⟨rfl, rfl, rfl, by decide +kernel, rfl, by decide +kernel, by decide +kernel⟩
abbrev s_look_loads : Stmt := topS 16
abbrev N_look_loads : List Str := ["loads", "one"]
theorem sc_look_loads : FnScope N_look_loads ["loads"] (defScope s_look_loads) := ⟨rfl, rfl, rfl, by decide +kernel, rfl, by decide +kernel, by decide +kernel⟩
abbrev s_look_some : Stmt := topS 21
abbrev N_look_some : List Str := ["some", "one"]
theorem sc_look_some : FnScope N_look_some ["some"] (defScope s_look_some) := ⟨rfl, rfl, rfl, by decide +kernel, rfl, by decide +kernel, by decide +kernel⟩
abbrev s_best_put : Stmt := topS 24
abbrev N_best_put : List Str := ["loads", "some"]
theorem sc_best_put : FnScope N_best_put ["loads", "some"] (defScope s_best_put) := ⟨rfl, rfl, rfl, by decide +kernel, rfl, by decide +kernel, by decide +kernel⟩
abbrev s_best_shelf : Stmt := topS 23
abbrev N_best_shelf : List Str := ["loads", "load"]
theorem sc_best_shelf : FnScope N_best_shelf ["loads", "load"] (defScope s_best_shelf) := ⟨rfl, rfl, rfl, by decide +kernel, rfl, by decide +kernel, by decide +kernel⟩
abbrev s_least_tilt : Stmt := topS 25
abbrev N_least_tilt : List Str := ["loads", "some"]
theorem sc_least_tilt : FnScope N_least_tilt ["loads", "some"] (defScope s_least_tilt) := ⟨rfl, rfl, rfl, by decide +kernel, rfl, by decide +kernel, by decide +kernel⟩
abbrev s_tilt : Stmt := topS 18
abbrev N_tilt : List Str := ["loads"]
theorem sc_tilt : FnScope N_tilt ["loads"] (defScope s_tilt) := ⟨rfl, rfl, rfl, by decide +kernel, rfl, by decide +kernel, by decide +kernel⟩
abbrev s__law_do : Stmt := topS 30
abbrev N__law_do : List Str := ["what", "loads", "some", "kept", "answer", "e"]
theorem sc__law_do : FnScope N__law_do ["what", "loads", "some"] (defScope s__law_do) := ⟨rfl, rfl, rfl, by decide +kernel, rfl, by decide +kernel, by decide +kernel⟩
abbrev s__law_cell : Stmt := topS 27
abbrev N__law_cell : List Str := ["script", "k"]
theorem sc__law_cell : FnScope N__law_cell ["script", "k"] (defScope s__law_cell) := ⟨rfl, rfl, rfl, by decide +kernel, rfl, by decide +kernel, by decide +kernel⟩
abbrev s__law_pick : Stmt := topS 28
abbrev N__law_pick : List Str := ["script", "k", "many", "drawn"]
theorem sc__law_pick : FnScope N__law_pick ["script", "k", "many"] (defScope s__law_pick) := ⟨rfl, rfl, rfl, by decide +kernel, rfl, by decide +kernel, by decide +kernel⟩
abbrev s__law_tilt : Stmt := topS 31
abbrev N__law_tilt : List Str := ["loads", "size", "best", "at", "one", "other", "k"]
theorem sc__law_tilt : FnScope N__law_tilt ["loads"] (defScope s__law_tilt) := ⟨rfl, rfl, rfl, by decide +kernel, rfl, by decide +kernel, by decide +kernel⟩
abbrev s_law : Stmt := topS 32
abbrev N_law : List Str := ["script", "size", "top", "loads", "some", "at", "due", "rows", "load", "longer", "shelves", "here", "shelf", "tilts", "best", "bad", "k", "what"]
theorem sc_law : FnScope N_law ["script"] (defScope s_law) := ⟨rfl, rfl, rfl, by decide +kernel, rfl, by decide +kernel, by decide +kernel⟩
abbrev s__law_word : Stmt := topS 29
abbrev N__law_word : List Str := ["kept", "kinds", "words"]
theorem sc__law_word : FnScope N__law_word ["kept"] (defScope s__law_word) := ⟨rfl, rfl, rfl, by decide +kernel, rfl, by decide +kernel, by decide +kernel⟩
def wordOf : Str → Option Str := fun c => if c = "NoLoad" then some "no load" else none
def b__law_word (ad : Addr) (b_Full b_NoDoors b_NoLoad b_NoName b_NoRound b_NoShelf b_NoText b_NoThing b_Taken b_ShelfError b_ValueError : Bool) : SM := (sSeq (sSet 1 (eLstC (aCons (eIsE ad b_Full (eV 0)) (aCons (eIsE ad b_NoDoors (eV 0)) (aCons (eIsE ad b_NoLoad (eV 0)) (aCons (eIsE ad b_NoName (eV 0)) aNil)))))) (sSeq (sExpr (eBM chkL (upL kExtend) (eV 1) (aCons (eLst (aCons (eIsE ad b_NoRound (eV 0)) (aCons (eIsE ad b_NoShelf (eV 0)) (aCons (eIsE ad b_NoText (eV 0)) aNil)))) aNil))) (sSeq (sExpr (eBM chkL (upL kExtend) (eV 1) (aCons (eLst (aCons (eIsE ad b_NoThing (eV 0)) (aCons (eIsE ad b_Taken (eV 0)) aNil))) aNil))) (sSeq (frzVar 1) (sSeq (sIf (bOr (tst (e2 (d2 oNe) (eBM chkL oCountD (eV 1) (aCons (eC (.bl true)) aNil)) (eC (.int 1)))) (bOr (bNot (tst (eIsE ad b_ValueError (eV 0)))) (bNot (tst (eIsE ad b_ShelfError (eV 0)))))) (sRet (eC (.str "wrong"))) sNext) (sSeq (sSet 2 (eLst (aCons (eC (.str "full")) (aCons (eC (.str "no doors")) (aCons (eC (.str "no load")) (aCons (eC (.str "no name")) (aCons (eC (.str "no round")) (aCons (eC (.str "no shelf")) (aCons (eC (.str "no text")) (aCons (eC (.str "no thing")) (aCons (eC (.str "taken")) aNil))))))))))) (sRet (e2 (d2 oIx) (eV 2) (eBM chkL oIndexD (eV 1) (aCons (eC (.bl true)) aNil))))))))))
def b_with_load : SM := (sRet (e2 oAdd (e2 oAdd (eSl (eV 0) oNo (oSome (eV 1))) (eTup (aCons (e2 oAdd (e2 (d2 oIx) (eV 0) (eV 1)) (eV 2)) aNil))) (eSl (eV 0) (oSome (e2 oAdd (eV 1) (eC (.int 1)))) oNo)))
def F_with_load : List D → PR := fnOf 3 3 b_with_load
def ce1_puts : Mi.Env → M D := (eTup (aCons (e2 oAdd (eV 5) (eTup (aCons (eV 7) aNil))) (aCons (eN (callP 3 F_with_load) (aCons (eV 6) (aCons (eV 7) (aCons (eV 3) aNil)))) aNil)))
def lb1_puts : SM := (sExpr (eBM chkL (upL kExtend) (eV 4) (aCons (eLc (iRange1 (aCons (eN (one (d1 oLen)) (aCons (eV 0) aNil)) aNil)) [7] (gN 7) bYes ce1_puts) aNil)))
def lb2_puts : SM := (sSeq (sSet 4 (eLstC aNil)) (sSeq (sFor (iSeq (eV 2)) (gTp 2 (gsCons (gN 5) (gsCons (gN 6) gsNil))) lb1_puts) (sSet 2 (frz (eV 4)))))
def b_puts : SM := (sSeq (sSet 2 (eLst (aCons (eTup (aCons (eTup aNil) (aCons (eV 0) aNil))) aNil))) (sSeq (sFor (iSeq (eV 1)) (gN 3) lb2_puts) (sRet (eV 2))))
def F_puts : List D → PR := fnOf 2 8 b_puts
def ce1_tilt_of : Mi.Env → M D := (eN (one oAbs) (aCons (e2 oSub (eN (one (oi sumL)) (aCons (eSl (eV 2) (oSome (eV 3)) (oSome (e2 oAdd (eV 3) (eV 1)))) aNil)) (eN (one (oi sumL)) (aCons (eSl (eV 2) (oSome (e2 oAdd (eV 3) (eV 1))) (oSome (e2 oAdd (eV 3) (e2 oMulA (eC (.int 2)) (eV 1))))) aNil))) aNil))
def b_tilt_of : SM := (sSeq (sSet 1 (e2 oDiv (eN (one (d1 oLen)) (aCons (eV 0) aNil)) (eC (.int 2)))) (sSeq (sSet 2 (e2 oAdd (e2 oAdd (eV 0) (eV 0)) (eV 0))) (sRet (eN (one (oi maxL)) (aCons (eLc (iRange1 (aCons (eN (one (d1 oLen)) (aCons (eV 0) aNil)) aNil)) [3] (gN 3) bYes ce1_tilt_of) aNil)))))
def F_tilt_of : List D → PR := fnOf 1 4 b_tilt_of
def ce1_best_of : Mi.Env → M D := (eTup (aCons (eN (callP 1 F_tilt_of) (aCons (eV 3) aNil)) (aCons (eV 2) aNil)))
def b_best_of : SM := (sRet (eN (one (oi minL)) (aCons (eLc (iSeq (eN (callP 2 F_puts) (aCons (eV 0) (aCons (eV 1) aNil)))) [2, 3] (gTp 2 (gsCons (gN 2) (gsCons (gN 3) gsNil))) bYes ce1_best_of) aNil)))
def F_best_of : List D → PR := fnOf 2 4 b_best_of
def b_is_whole : SM := (sRet (vAnd (eN (two fun d e => (drf d).bind fun d' => oIsi d' e) (aCons (eV 0) (aCons (eC (.ty .int)) aNil))) (vAnd (vNot (eN (two fun d e => (drf d).bind fun d' => oIsi d' e) (aCons (eV 0) (aCons (eC (.ty .bool)) aNil)))) (eChain oLe oLe (eV 1) (eV 0) (eV 2)))))
def F_is_whole : List D → PR := fnOf 3 3 b_is_whole
def ce1_look_loads : Mi.Env → M D := (eN (callP 3 F_is_whole) (aCons (eV 1) (aCons (eC (.int 0)) (aCons (eC (.int 999)) aNil))))
def b_look_loads : SM := (sSeq (sIf (bOr (bNot (tst (eN (two fun d e => (drf d).bind fun d' => oIsi d' e) (aCons (eV 0) (aCons (eC (.ty .tuple)) aNil))))) (bNot (tst (eChain oLe oLe (eC (.int 3)) (eN (one (d1 oLen)) (aCons (eV 0) aNil)) (eC (.int 16)))))) (sRaise "NoLoad") sNext) (sIf (bNot (tst (eN (one (d1 oAll)) (aCons (eLc (iSeq (eV 0)) [1] (gN 1) bYes ce1_look_loads) aNil)))) (sRaise "NoLoad") sNext))
def F_look_loads : List D → PR := fnOf 1 2 b_look_loads
def ce1_look_some : Mi.Env → M D := (eN (callP 3 F_is_whole) (aCons (eV 1) (aCons (eC (.int 0)) (aCons (eC (.int 999)) aNil))))
def b_look_some : SM := (sIf (bOr (bNot (tst (eN (two fun d e => (drf d).bind fun d' => oIsi d' e) (aCons (eV 0) (aCons (eC (.ty .tuple)) aNil))))) (bOr (tst (e2 oGt (eN (one (d1 oLen)) (aCons (eV 0) aNil)) (eC (.int 2)))) (bNot (tst (eN (one (d1 oAll)) (aCons (eLc (iSeq (eV 0)) [1] (gN 1) bYes ce1_look_some) aNil)))))) (sRaise "NoLoad") sNext)
def F_look_some : List D → PR := fnOf 1 2 b_look_some
def b_best_put : SM := (sSeq (sExpr (eN (callP 1 F_look_loads) (aCons (eV 0) aNil))) (sSeq (sExpr (eN (callP 1 F_look_some) (aCons (eV 1) aNil))) (sRet (e2 (d2 oIx) (eN (callP 2 F_best_of) (aCons (eV 0) (aCons (eV 1) aNil))) (eC (.int 1))))))
def F_best_put : List D → PR := fnOf 2 2 b_best_put
def b_best_shelf : SM := (sSeq (sExpr (eN (callP 1 F_look_loads) (aCons (eV 0) aNil))) (sSeq (sExpr (eN (callP 1 F_look_some) (aCons (eTup (aCons (eV 1) aNil)) aNil))) (sRet (e2 (d2 oIx) (e2 (d2 oIx) (eN (callP 2 F_best_of) (aCons (eV 0) (aCons (eTup (aCons (eV 1) aNil)) aNil))) (eC (.int 1))) (eC (.int 0))))))
def F_best_shelf : List D → PR := fnOf 2 2 b_best_shelf
def b_least_tilt : SM := (sSeq (sExpr (eN (callP 1 F_look_loads) (aCons (eV 0) aNil))) (sSeq (sExpr (eN (callP 1 F_look_some) (aCons (eV 1) aNil))) (sRet (e2 (d2 oIx) (eN (callP 2 F_best_of) (aCons (eV 0) (aCons (eV 1) aNil))) (eC (.int 0))))))
def F_least_tilt : List D → PR := fnOf 2 2 b_least_tilt
def b_tilt : SM := (sSeq (sExpr (eN (callP 1 F_look_loads) (aCons (eV 0) aNil))) (sRet (eN (callP 1 F_tilt_of) (aCons (eV 0) aNil))))
def F_tilt : List D → PR := fnOf 1 1 b_tilt
def tb1__law_do : SM := (sIf (tst (e2 oLt (eV 0) (eC (.int 2)))) (sSet 4 (eIf (tst (e2 (d2 oEq) (eV 0) (eC (.int 0)))) (eN (callP 1 F_tilt) (aCons (eV 1) aNil)) (eN (callP 2 F_best_shelf) (aCons (eV 1) (aCons (eV 2) aNil))))) (sSet 4 (eIf (tst (e2 (d2 oEq) (eV 0) (eC (.int 2)))) (eN (callP 2 F_best_put) (aCons (eV 1) (aCons (eV 2) aNil))) (eN (callP 2 F_least_tilt) (aCons (eV 1) (aCons (eV 2) aNil))))))
def b__law_do : SM := (sSeq (sSet 3 (eC .non)) (sSeq (sSet 4 (eC .non)) (sTryK wordOf tb1__law_do (sSeq (sIf (tst (e2 oIsN (eV 3) (eC .non))) (sRet (eV 4)) sNext) sStuck))))
def F__law_do : List D → PR := fnOf 3 6 b__law_do
def b__law_cell : SM := (sSeq (sIf (tst (e2 oLt (eV 1) (eN (one (d1 oLen)) (aCons (eV 0) aNil)))) (sRet (e2 (d2 oIx) (eV 0) (eV 1))) sNext) (sSeq (sIf (tst (e2 (d2 oEq) (eV 0) (eLst aNil))) (sRet (eC (.int 0))) sNext) (sRet (e2 oAdd (e2 oMulA (e2 (d2 oIx) (eV 0) (e2 oMod (eV 1) (eN (one (d1 oLen)) (aCons (eV 0) aNil)))) (eC (.int 31))) (eV 1)))))
def F__law_cell : List D → PR := fnOf 2 2 b__law_cell
def b__law_pick : SM := (sSeq (sSet 3 (e2 oMod (e2 oMulA (e2 oAdd (eN (callP 2 F__law_cell) (aCons (eV 0) (aCons (eV 1) aNil))) (e2 oMulA (eC (.int 6151)) (e2 oAdd (eV 1) (eC (.int 1))))) (eC (.int 40692))) (eC (.int 2147483399)))) (sRet (e2 oMod (e2 oMod (e2 oAdd (e2 oMulA (eV 3) (eV 3)) (e2 oDiv (eV 3) (eC (.int 31)))) (eC (.int 2147483629))) (eV 2))))
def F__law_pick : List D → PR := fnOf 3 4 b__law_pick
def ce1__law_tilt : Mi.Env → M D := (e2 (d2 oIx) (eV 0) (e2 oMod (e2 oAdd (eV 3) (eV 6)) (eV 1)))
def ce2__law_tilt : Mi.Env → M D := (e2 (d2 oIx) (eV 0) (e2 oMod (e2 oAdd (e2 oAdd (eV 3) (e2 oDiv (eV 1) (eC (.int 2)))) (eV 6)) (eV 1)))
def lb1__law_tilt : SM := (sSeq (sSet 4 (eN (one (oi sumL)) (aCons (eLc (iRange1 (aCons (e2 oDiv (eV 1) (eC (.int 2))) aNil)) [6] (gN 6) bYes ce1__law_tilt) aNil))) (sSeq (sSet 5 (eN (one (oi sumL)) (aCons (eLc (iRange1 (aCons (e2 oDiv (eV 1) (eC (.int 2))) aNil)) [6] (gN 6) bYes ce2__law_tilt) aNil))) (sSet 2 (eN (two oMax2) (aCons (eV 2) (aCons (eN (one oAbs) (aCons (e2 oSub (eV 4) (eV 5)) aNil)) aNil))))))
def b__law_tilt : SM := (sSeq (sAsg (gTp 2 (gsCons (gN 1) (gsCons (gN 2) gsNil))) (eTup (aCons (eN (one (d1 oLen)) (aCons (eV 0) aNil)) (aCons (eC (.int 0)) aNil)))) (sSeq (sFor (iRange1 (aCons (eV 1) aNil)) (gN 3) lb1__law_tilt) (sRet (eV 2))))
def F__law_tilt : List D → PR := fnOf 1 7 b__law_tilt
def ce1_law : Mi.Env → M D := (eN (callP 3 F__law_pick) (aCons (eV 0) (aCons (e2 oAdd (eC (.int 10)) (eV 16)) (aCons (eV 2) aNil))))
def ce2_law : Mi.Env → M D := (eN (callP 3 F__law_pick) (aCons (eV 0) (aCons (e2 oAdd (eC (.int 30)) (eV 16)) (aCons (e2 (d2 oIx) (eLst (aCons (eV 2) (aCons (eC (.int 1000)) aNil))) (eN (callP 3 F__law_pick) (aCons (eV 0) (aCons (e2 oAdd (eC (.int 40)) (eV 16)) (aCons (eC (.int 2)) aNil))))) aNil))))
def lb1_law : SM := (sExpr (eBM chkL (upL kAppend) (eV 9) (aCons (eTup (aCons (e2 oAdd (eV 10) (eTup (aCons (eV 12) aNil))) (aCons (e2 oAdd (e2 oAdd (eSl (eV 11) oNo (oSome (eV 12))) (eTup (aCons (e2 oAdd (e2 (d2 oIx) (eV 11) (eV 12)) (eV 8)) aNil))) (eSl (eV 11) (oSome (e2 oAdd (eV 12) (eC (.int 1)))) oNo)) aNil))) aNil)))
def lb2_law : SM := (sFor (iRange1 (aCons (eV 1) aNil)) (gN 12) lb1_law)
def u1_law : SM := (sSet 7 (frz (eV 9)))
def u2_law : SM := (sSeq (sFor (iSeq (eV 7)) (gTp 2 (gsCons (gN 10) (gsCons (gN 11) gsNil))) lb2_law) u1_law)
def lb3_law : SM := (sSeq (sSet 9 (eLstC aNil)) u2_law)
def ce3_law : Mi.Env → M D := (eN (callP 1 F__law_tilt) (aCons (eV 11) aNil))
def ce4_law : Mi.Env → M D := (eN (callP 1 F__law_tilt) (aCons (e2 oAdd (e2 oAdd (eSl (eV 3) oNo (oSome (eV 16))) (eTup (aCons (e2 oAdd (e2 (d2 oIx) (eV 3) (eV 16)) (eV 8)) aNil))) (eSl (eV 3) (oSome (e2 oAdd (eV 16) (eC (.int 1)))) oNo)) aNil))
def ce5_law : Mi.Env → M D := (eN (callP 3 F__law_do) (aCons (eV 17) (aCons (eV 15) (aCons (eC .non) aNil))))
def lb4_law : SM := (sSeq (sIf (tst (e2 (d2 oNe) (eLc (iRange1 (aCons (eC (.int 4)) aNil)) [17] (gN 17) bYes ce5_law) (e2 oMulA (eLst (aCons (eC (.str "no load")) aNil)) (eC (.int 4))))) (sRet (eC (.bl false))) sNext) (sIf (tst (e2 (d2 oNe) (eLst (aCons (eN (callP 3 F__law_do) (aCons (eC (.int 1)) (aCons (eV 15) (aCons (eC (.int 5)) aNil)))) (aCons (eN (callP 3 F__law_do) (aCons (eC (.int 2)) (aCons (eV 15) (aCons (eTup aNil) aNil)))) (aCons (eN (callP 3 F__law_do) (aCons (eC (.int 3)) (aCons (eV 15) (aCons (eTup (aCons (eC (.int 5)) aNil)) aNil)))) aNil)))) (e2 oMulA (eLst (aCons (eC (.str "no load")) aNil)) (eC (.int 3))))) (sRet (eC (.bl false))) sNext))
def ce6_law : Mi.Env → M D := (eN (callP 3 F__law_do) (aCons (eV 17) (aCons (eV 3) (aCons (eV 15) aNil))))
def lb5_law : SM := (sIf (tst (e2 (d2 oNe) (eLc (iSeq (eTup (aCons (eC (.int 2)) (aCons (eC (.int 3)) aNil)))) [17] (gN 17) bYes ce6_law) (e2 oMulA (eLst (aCons (eC (.str "no load")) aNil)) (eC (.int 2))))) (sRet (eC (.bl false))) sNext)
def ce7_law : Mi.Env → M D := (eN (callP 3 F__law_do) (aCons (eC (.int 1)) (aCons (eV 3) (aCons (eV 15) aNil))))
def t18_law : SM := (sRet (vAnd (e2 (d2 oEq) (eN (callP 3 F__law_do) (aCons (eC (.int 0)) (aCons (e2 oMulA (eTup (aCons (eC (.int 999)) aNil)) (eC (.int 16))) (aCons (eC .non) aNil)))) (eC (.int 0))) (e2 (d2 oEq) (eN (callP 3 F__law_do) (aCons (eC (.int 0)) (aCons (e2 oAdd (e2 oMulA (eTup (aCons (eC (.int 999)) aNil)) (eC (.int 8))) (e2 oMulA (eTup (aCons (eC (.int 0)) aNil)) (eC (.int 8)))) (aCons (eC .non) aNil)))) (eC (.int 7992)))))
def t17_law : SM := (sSeq (sIf (tst (e2 (d2 oNe) (eLc (iSeq (eTup (aCons (e1 oNeg (eC (.int 1))) (aCons (eC (.int 1000)) (aCons (eC .non) (aCons (eC (.bl true)) (aCons (eTup (aCons (eC (.int 1)) aNil)) (aCons (eC (.str "1")) aNil)))))))) [15] (gN 15) bYes ce7_law) (e2 oMulA (eLst (aCons (eC (.str "no load")) aNil)) (eC (.int 6))))) (sRet (eC (.bl false))) sNext) t18_law)
def t16_law : SM := (sSeq (sFor (iSeq (eTup (aCons (eC .non) (aCons (eLst (aCons (eC (.int 1)) aNil)) (aCons (eTup (aCons (eC (.int 1)) (aCons (eC (.int 2)) (aCons (eC (.int 3)) aNil)))) (aCons (eTup (aCons (e1 oNeg (eC (.int 1))) aNil)) (aCons (eTup (aCons (eC (.int 1000)) aNil)) (aCons (eTup (aCons (eC (.bl true)) aNil)) (aCons (eTup (aCons (eC .non) aNil)) (aCons (eC (.int 5)) aNil)))))))))) (gN 15) lb5_law) t17_law)
def t15_law : SM := (sSeq (sFor (iSeq (eTup (aCons (eC .non) (aCons (eTup aNil) (aCons (eTup (aCons (eC (.int 1)) (aCons (eC (.int 2)) aNil))) (aCons (e2 oMulA (eTup (aCons (eC (.int 0)) aNil)) (eC (.int 17))) (aCons (eLst (aCons (eC (.int 1)) (aCons (eC (.int 2)) (aCons (eC (.int 3)) aNil)))) (aCons (eTup (aCons (eC (.int 1)) (aCons (eC (.int 2)) (aCons (e1 oNeg (eC (.int 1))) aNil)))) (aCons (eTup (aCons (eC (.int 1)) (aCons (eC (.int 2)) (aCons (eC (.int 1000)) aNil)))) (aCons (eTup (aCons (eC (.int 1)) (aCons (eC (.int 2)) (aCons (eC (.bl true)) aNil)))) (aCons (eTup (aCons (eC (.int 1)) (aCons (eC (.int 2)) (aCons (eC .non) aNil)))) (aCons (eC (.str "123")) (aCons (eC (.int 5)) aNil))))))))))))) (gN 15) lb4_law) t16_law)
def t14_law : SM := (sSeq (sIf (tst (e2 (d2 oNe) (eN (callP 3 F__law_do) (aCons (eC (.int 1)) (aCons (eV 3) (aCons (eV 8) aNil)))) (eBM chkL oIndexD (eV 13) (aCons (eN (one (oi minL)) (aCons (eV 13) aNil)) aNil)))) (sRet (eC (.bl false))) sNext) t15_law)
def t13_law : SM := (sSeq (sSet 13 (eLc (iRange1 (aCons (eV 1) aNil)) [16] (gN 16) bYes ce4_law)) t14_law)
def t12_law : SM := (sSeq (sSet 8 (eN (callP 3 F__law_pick) (aCons (eV 0) (aCons (eC (.int 50)) (aCons (eC (.int 1000)) aNil))))) t13_law)
def t11_law : SM := (sSeq (sIf (bOr (tst (e2 (d2 oNe) (eN (callP 3 F__law_do) (aCons (eC (.int 2)) (aCons (eV 3) (aCons (eV 4) aNil)))) (eV 14))) (tst (e2 (d2 oNe) (eN (callP 3 F__law_do) (aCons (eC (.int 3)) (aCons (eV 3) (aCons (eV 4) aNil)))) (eN (one (oi minL)) (aCons (eV 13) aNil))))) (sRet (eC (.bl false))) sNext) t12_law)
def t10_law : SM := (sSeq (sSet 14 (e2 (d2 oIx) (e2 (d2 oIx) (eV 7) (eBM chkL oIndexD (eV 13) (aCons (eN (one (oi minL)) (aCons (eV 13) aNil)) aNil))) (eC (.int 0)))) t11_law)
def t9_law : SM := (sSeq (sSet 13 (eLc (iSeq (eV 7)) [10, 11] (gTp 2 (gsCons (gN 10) (gsCons (gN 11) gsNil))) bYes ce3_law)) t10_law)
def t8_law : SM := (sSeq (sFor (iSeq (eV 4)) (gN 8) lb3_law) t9_law)
def t7_law : SM := (sSeq (sSet 7 (eLst (aCons (eTup (aCons (eTup aNil) (aCons (eV 3) aNil))) aNil))) t8_law)
def t6_law : SM := (sSeq (sIf (bOr (tst (e2 (d2 oNe) (eN (callP 3 F__law_do) (aCons (eC (.int 0)) (aCons (eV 3) (aCons (eC .non) aNil)))) (eV 6))) (bOr (tst (e2 (d2 oNe) (eN (callP 1 F_tilt) (aCons (e2 oAdd (eSl (eV 3) (oSome (eV 5)) oNo) (eSl (eV 3) oNo (oSome (eV 5)))) aNil)) (eV 6))) (tst (e2 (d2 oNe) (eN (callP 1 F_tilt) (aCons (e1 (d1 oRev) (eV 3)) aNil)) (eV 6))))) (sRet (eC (.bl false))) sNext) t7_law)
def t5_law : SM := (sSeq (sSet 6 (eN (callP 1 F__law_tilt) (aCons (eV 3) aNil))) t6_law)
def t4_law : SM := (sSeq (sSet 5 (eN (callP 3 F__law_pick) (aCons (eV 0) (aCons (eC (.int 4)) (aCons (eV 1) aNil))))) t5_law)
def t3_law : SM := (sSeq (sSet 4 (eN (one (d1 oTuple)) (aCons (eSl (eV 4) oNo (oSome (eN (callP 3 F__law_pick) (aCons (eV 0) (aCons (eC (.int 3)) (aCons (eC (.int 3)) aNil)))))) aNil))) t4_law)
def t2_law : SM := (sSeq (sSet 4 (eLc (iRange1 (aCons (eC (.int 2)) aNil)) [16] (gN 16) bYes ce2_law)) t3_law)
def t1_law : SM := (sSeq (sSet 3 (eN (one (d1 oTuple)) (aCons (eLc (iRange1 (aCons (eV 1) aNil)) [16] (gN 16) bYes ce1_law) aNil))) t2_law)
def b_law : SM := (sSeq (sAsg (gTp 2 (gsCons (gN 1) (gsCons (gN 2) gsNil))) (eTup (aCons (e2 oAdd (eC (.int 3)) (eN (callP 3 F__law_pick) (aCons (eV 0) (aCons (eC (.int 1)) (aCons (eC (.int 7)) aNil))))) (aCons (e2 (d2 oIx) (eLst (aCons (eC (.int 3)) (aCons (eC (.int 20)) (aCons (eC (.int 1000)) aNil)))) (eN (callP 3 F__law_pick) (aCons (eV 0) (aCons (eC (.int 2)) (aCons (eC (.int 3)) aNil))))) aNil)))) t1_law)
def F_law : List D → PR := fnOf 1 18 b_law
structure Tx (K : PySem.W.Frag) (mg : Str → Option Value) where
  f_with_load : Addr
  fd_with_load : FuncData
  F_with_load : Fun K "with_load" "with_load" s_with_load f_with_load fd_with_load
  m_with_load : mg "with_load" = some (.ref f_with_load)
  f_puts : Addr
  fd_puts : FuncData
  F_puts : Fun K "puts" "puts" s_puts f_puts fd_puts
  m_puts : mg "puts" = some (.ref f_puts)
  f_tilt_of : Addr
  fd_tilt_of : FuncData
  F_tilt_of : Fun K "tilt_of" "tilt_of" s_tilt_of f_tilt_of fd_tilt_of
  m_tilt_of : mg "tilt_of" = some (.ref f_tilt_of)
  f_best_of : Addr
  fd_best_of : FuncData
  F_best_of : Fun K "best_of" "best_of" s_best_of f_best_of fd_best_of
  m_best_of : mg "best_of" = some (.ref f_best_of)
  f_is_whole : Addr
  fd_is_whole : FuncData
  F_is_whole : Fun K "is_whole" "is_whole" s_is_whole f_is_whole fd_is_whole
  m_is_whole : mg "is_whole" = some (.ref f_is_whole)
  f_look_loads : Addr
  fd_look_loads : FuncData
  F_look_loads : Fun K "look_loads" "look_loads" s_look_loads f_look_loads fd_look_loads
  m_look_loads : mg "look_loads" = some (.ref f_look_loads)
  f_look_some : Addr
  fd_look_some : FuncData
  F_look_some : Fun K "look_some" "look_some" s_look_some f_look_some fd_look_some
  m_look_some : mg "look_some" = some (.ref f_look_some)
  f_best_put : Addr
  fd_best_put : FuncData
  F_best_put : Fun K "best_put" "best_put" s_best_put f_best_put fd_best_put
  m_best_put : mg "best_put" = some (.ref f_best_put)
  f_best_shelf : Addr
  fd_best_shelf : FuncData
  F_best_shelf : Fun K "best_shelf" "best_shelf" s_best_shelf f_best_shelf fd_best_shelf
  m_best_shelf : mg "best_shelf" = some (.ref f_best_shelf)
  f_least_tilt : Addr
  fd_least_tilt : FuncData
  F_least_tilt : Fun K "least_tilt" "least_tilt" s_least_tilt f_least_tilt fd_least_tilt
  m_least_tilt : mg "least_tilt" = some (.ref f_least_tilt)
  f_tilt : Addr
  fd_tilt : FuncData
  F_tilt : Fun K "tilt" "tilt" s_tilt f_tilt fd_tilt
  m_tilt : mg "tilt" = some (.ref f_tilt)
  f__law_do : Addr
  fd__law_do : FuncData
  F__law_do : Fun K "_law_do" "_law_do" s__law_do f__law_do fd__law_do
  m__law_do : mg "_law_do" = some (.ref f__law_do)
  f__law_cell : Addr
  fd__law_cell : FuncData
  F__law_cell : Fun K "_law_cell" "_law_cell" s__law_cell f__law_cell fd__law_cell
  m__law_cell : mg "_law_cell" = some (.ref f__law_cell)
  f__law_pick : Addr
  fd__law_pick : FuncData
  F__law_pick : Fun K "_law_pick" "_law_pick" s__law_pick f__law_pick fd__law_pick
  m__law_pick : mg "_law_pick" = some (.ref f__law_pick)
  f__law_tilt : Addr
  fd__law_tilt : FuncData
  F__law_tilt : Fun K "_law_tilt" "_law_tilt" s__law_tilt f__law_tilt fd__law_tilt
  m__law_tilt : mg "_law_tilt" = some (.ref f__law_tilt)
  f_law : Addr
  fd_law : FuncData
  F_law : Fun K "law" "law" s_law f_law fd_law
  m_law : mg "law" = some (.ref f_law)
  f__law_word : Addr
  fd__law_word : FuncData
  F__law_word : Fun K "_law_word" "_law_word" s__law_word f__law_word fd__law_word
  m__law_word : mg "_law_word" = some (.ref f__law_word)
  z_ValueError : mg "ValueError" = none
  z_abs : mg "abs" = none
  z_all : mg "all" = none
  z_bool : mg "bool" = none
  z_int : mg "int" = none
  z_isinstance : mg "isinstance" = none
  z_len : mg "len" = none
  z_max : mg "max" = none
  z_min : mg "min" = none
  z_range : mg "range" = none
  z_sum : mg "sum" = none
  z_tuple : mg "tuple" = none
  tk_HEAVIEST : Tok
  c_HEAVIEST : mg "HEAVIEST" = some (.int 999 tk_HEAVIEST)
  tk_MOST : Tok
  c_MOST : mg "MOST" = some (.int 16 tk_MOST)
  C_Full : Addr
  g_Full : mg "Full" = some (.ref C_Full)
  C_NoDoors : Addr
  g_NoDoors : mg "NoDoors" = some (.ref C_NoDoors)
  C_NoLoad : Addr
  g_NoLoad : mg "NoLoad" = some (.ref C_NoLoad)
  x_NoLoad : PySem.W.excIn K C_NoLoad [.type "ValueError", .type "Exception", .type "BaseException", .type "object"] "ValueError.__new__" = true
  k_NoLoad : PySem.W.keepIn K (.ref C_NoLoad) = true
  b_NoLoad : PySem.W.subIn K (.ref C_NoLoad) (.type "BaseException") = some true
  t_NoLoad : PySem.W.typeIn K (.ref C_NoLoad) = some (.type "type")
  C_NoName : Addr
  g_NoName : mg "NoName" = some (.ref C_NoName)
  C_NoRound : Addr
  g_NoRound : mg "NoRound" = some (.ref C_NoRound)
  C_NoShelf : Addr
  g_NoShelf : mg "NoShelf" = some (.ref C_NoShelf)
  C_NoText : Addr
  g_NoText : mg "NoText" = some (.ref C_NoText)
  C_NoThing : Addr
  g_NoThing : mg "NoThing" = some (.ref C_NoThing)
  C_ShelfError : Addr
  g_ShelfError : mg "ShelfError" = some (.ref C_ShelfError)
  C_Taken : Addr
  g_Taken : mg "Taken" = some (.ref C_Taken)
  e_NoLoad : PySem.W.exmOne K (.ref C_NoLoad) (.ref C_ShelfError) = some true
  X_NoLoad : ExcC K C_NoLoad
  i_NoLoad_Full : PySem.W.kitOne K (.ref C_NoLoad) (.ref C_Full) = some false
  i_NoLoad_NoDoors : PySem.W.kitOne K (.ref C_NoLoad) (.ref C_NoDoors) = some false
  i_NoLoad_NoLoad : PySem.W.kitOne K (.ref C_NoLoad) (.ref C_NoLoad) = some true
  i_NoLoad_NoName : PySem.W.kitOne K (.ref C_NoLoad) (.ref C_NoName) = some false
  i_NoLoad_NoRound : PySem.W.kitOne K (.ref C_NoLoad) (.ref C_NoRound) = some false
  i_NoLoad_NoShelf : PySem.W.kitOne K (.ref C_NoLoad) (.ref C_NoShelf) = some false
  i_NoLoad_NoText : PySem.W.kitOne K (.ref C_NoLoad) (.ref C_NoText) = some false
  i_NoLoad_NoThing : PySem.W.kitOne K (.ref C_NoLoad) (.ref C_NoThing) = some false
  i_NoLoad_Taken : PySem.W.kitOne K (.ref C_NoLoad) (.ref C_Taken) = some false
  i_NoLoad_ShelfError : PySem.W.kitOne K (.ref C_NoLoad) (.ref C_ShelfError) = some true
  i_NoLoad_ValueError : PySem.W.kitOne K (.ref C_NoLoad) (.type "ValueError") = some true
section
variable [Tb] {P : Program} {w : World} {K : PySem.W.Frag} {mg : Str → Option Value} {base : Heap}
theorem bi__law_word (T : Tx K mg) : Binds K T.fd__law_word ["kept"] [] := T.F__law_word.binds (ps := ["kept"]) fun _ _ _ _ _ _ us hl => match us, hl with | [_], _ => rfl
theorem nm__law_word (T : Tx K mg) {Dc : Addr} (hX : ExcC K Dc) {b_Full b_NoDoors b_NoLoad b_NoName b_NoRound b_NoShelf b_NoText b_NoThing b_Taken b_ShelfError b_ValueError : Bool} (i_Full : PySem.W.kitOne K (.ref Dc) (.ref T.C_Full) = some b_Full) (i_NoDoors : PySem.W.kitOne K (.ref Dc) (.ref T.C_NoDoors) = some b_NoDoors) (i_NoLoad : PySem.W.kitOne K (.ref Dc) (.ref T.C_NoLoad) = some b_NoLoad) (i_NoName : PySem.W.kitOne K (.ref Dc) (.ref T.C_NoName) = some b_NoName) (i_NoRound : PySem.W.kitOne K (.ref Dc) (.ref T.C_NoRound) = some b_NoRound) (i_NoShelf : PySem.W.kitOne K (.ref Dc) (.ref T.C_NoShelf) = some b_NoShelf) (i_NoText : PySem.W.kitOne K (.ref Dc) (.ref T.C_NoText) = some b_NoText) (i_NoThing : PySem.W.kitOne K (.ref Dc) (.ref T.C_NoThing) = some b_NoThing) (i_Taken : PySem.W.kitOne K (.ref Dc) (.ref T.C_Taken) = some b_Taken) (i_ShelfError : PySem.W.kitOne K (.ref Dc) (.ref T.C_ShelfError) = some b_ShelfError) (i_ValueError : PySem.W.kitOne K (.ref Dc) (.type "ValueError") = some b_ValueError) {word : Str} (ev : ∀ (ad : Addr), ∃ ω, b__law_word ad b_Full b_NoDoors b_NoLoad b_NoName b_NoRound b_NoShelf b_NoText b_NoThing b_Taken b_ShelfError b_ValueError ([some (.ref ad)] ++ List.replicate (3 - 1) none) [] = .ret (.str word) ω) (h1 : word.length ≤ sizeLine) (h2 : PyData.strOk word = true) : NameOk P w K mg base 1 T.f__law_word T.fd__law_word ["kept"] (.ref Dc) word :=
  name_okE (k := 0) (body := fun ad => b__law_word ad b_Full b_NoDoors b_NoLoad b_NoName b_NoRound b_NoShelf b_NoText b_NoThing b_Taken b_ShelfError b_ValueError) T.F__law_word sc__law_word (fun ad oe hz hf cdv A outer s H hr => (mss_cons (ms_set (i := 1) sc__law_word.nd rfl (Or.inl rfl) (me_lstC (ma_cons (me_isE hX (List.mem_singleton_self _) hz hf i_Full rel_ref (by rfl) T.z_isinstance (me_v 0) (pe_glob (v := .ref T.C_Full) (by rfl) T.g_Full rfl)) (ma_cons (me_isE hX (List.mem_singleton_self _) hz hf i_NoDoors rel_ref (by rfl) T.z_isinstance (me_v 0) (pe_glob (v := .ref T.C_NoDoors) (by rfl) T.g_NoDoors rfl)) (ma_cons (me_isE hX (List.mem_singleton_self _) hz hf i_NoLoad rel_ref (by rfl) T.z_isinstance (me_v 0) (pe_glob (v := .ref T.C_NoLoad) (by rfl) T.g_NoLoad rfl)) (ma_cons (me_isE hX (List.mem_singleton_self _) hz hf i_NoName rel_ref (by rfl) T.z_isinstance (me_v 0) (pe_glob (v := .ref T.C_NoName) (by rfl) T.g_NoName rfl)) ma_nil)))))) (mss_cons (ms_expr (me_extend (me_v 1) (ma_cons (me_lst (ma_cons (me_isE hX (List.mem_singleton_self _) hz hf i_NoRound rel_ref (by rfl) T.z_isinstance (me_v 0) (pe_glob (v := .ref T.C_NoRound) (by rfl) T.g_NoRound rfl)) (ma_cons (me_isE hX (List.mem_singleton_self _) hz hf i_NoShelf rel_ref (by rfl) T.z_isinstance (me_v 0) (pe_glob (v := .ref T.C_NoShelf) (by rfl) T.g_NoShelf rfl)) (ma_cons (me_isE hX (List.mem_singleton_self _) hz hf i_NoText rel_ref (by rfl) T.z_isinstance (me_v 0) (pe_glob (v := .ref T.C_NoText) (by rfl) T.g_NoText rfl)) ma_nil)))) ma_nil))) (mss_cons (ms_expr (me_extend (me_v 1) (ma_cons (me_lst (ma_cons (me_isE hX (List.mem_singleton_self _) hz hf i_NoThing rel_ref (by rfl) T.z_isinstance (me_v 0) (pe_glob (v := .ref T.C_NoThing) (by rfl) T.g_NoThing rfl)) (ma_cons (me_isE hX (List.mem_singleton_self _) hz hf i_Taken rel_ref (by rfl) T.z_isinstance (me_v 0) (pe_glob (v := .ref T.C_Taken) (by rfl) T.g_Taken rfl)) ma_nil))) ma_nil))) (mss_frz 1 (mss_cons (ms_if (MW.mt (mw_or (mt_neU hr (me_countU hr (me_v 1) (ma_cons me_bl ma_nil)) me_int) (mw_or (mt_not (mt_val (me_isE hX (List.mem_singleton_self _) hz hf i_ValueError rel_ty (by rfl) T.z_isinstance (me_v 0) (pe_bltn (v := .ty "ValueError") (by rfl) T.z_ValueError boot_VE rfl)))) (mw_or1 (mt_not (mt_val (me_isE hX (List.mem_singleton_self _) hz hf i_ShelfError rel_ref (by rfl) T.z_isinstance (me_v 0) (pe_glob (v := .ref T.C_ShelfError) (by rfl) T.g_ShelfError rfl)))))))) (mss_one (ms_ret me_str)) mss_nil) (mss_cons (ms_set (i := 2) sc__law_word.nd rfl (Or.inl rfl) (me_lst (ma_cons me_str (ma_cons me_str (ma_cons me_str (ma_cons me_str (ma_cons me_str (ma_cons me_str (ma_cons me_str (ma_cons me_str (ma_cons me_str ma_nil))))))))))) (mss_one (ms_ret (me_ix (me_v 2) (me_indexU hr (me_v 1) (ma_cons me_bl ma_nil)))))))))))) ev h1 h2
theorem NO_ (T : Tx K mg) : ∀ c wd, wordOf c = some wd → (wd.length ≤ sizeLine ∧ PyData.strOk wd = true) ∧ ∀ u, mg c = some u → PySem.W.exmOne K u (.ref T.C_ShelfError) = some true ∧ NameOk P w K mg base 1 T.f__law_word T.fd__law_word ["kept"] u wd := by
  intro c wd h
  unfold wordOf at h
  by_cases h_NoLoad : c = "NoLoad"
  · rw [if_pos h_NoLoad] at h; cases h; subst h_NoLoad; refine ⟨⟨by decide +kernel, by decide +kernel⟩, fun u hu => ?_⟩; rw [T.g_NoLoad] at hu; cases hu; exact ⟨T.e_NoLoad, nm__law_word T T.X_NoLoad T.i_NoLoad_Full T.i_NoLoad_NoDoors T.i_NoLoad_NoLoad T.i_NoLoad_NoName T.i_NoLoad_NoRound T.i_NoLoad_NoShelf T.i_NoLoad_NoText T.i_NoLoad_NoThing T.i_NoLoad_Taken T.i_NoLoad_ShelfError T.i_NoLoad_ValueError (fun ad => by unfold b__law_word; exact ⟨_, by simp [kExtend, frzVar]; rfl⟩) (by decide +kernel) (by decide +kernel)⟩
  rw [if_neg h_NoLoad] at h
  cases h
theorem bi_with_load (T : Tx K mg) : Binds K T.fd_with_load ["loads", "shelf", "load"] [] := T.F_with_load.binds (ps := ["loads", "shelf", "load"]) fun _ _ _ _ _ _ us hl => match us, hl with | [_, _, _], _ => rfl
theorem ok_with_load (T : Tx K mg) : FnOk P w K mg base (L2.CX P w) (0 + 1) T.f_with_load T.fd_with_load ["loads", "shelf", "load"] (spF K mg 3 F_with_load) :=
  fn_ok' (k := 0) T.F_with_load sc_with_load fun cdv A outer s H E hr tk po => (mss_one (ms_ret (me_add (me_add (me_slice (me_v 0) mo_none (mo_some (me_v 1))) (me_tup (ma_cons (me_add (me_ix (me_v 0) (me_v 1)) (me_v 2)) ma_nil))) (me_slice (me_v 0) (mo_some (me_add (me_v 1) me_int)) mo_none))))
theorem bi_puts (T : Tx K mg) : Binds K T.fd_puts ["loads", "some"] [] := T.F_puts.binds (ps := ["loads", "some"]) fun _ _ _ _ _ _ us hl => match us, hl with | [_, _], _ => rfl
theorem ok_puts (T : Tx K mg) : FnOk P w K mg base (L2.CX P w) (1 + 1) T.f_puts T.fd_puts ["loads", "some"] (spF K mg 2 F_puts) :=
  fn_ok' (k := 1) T.F_puts sc_puts fun cdv A outer s H E hr tk po => (mss_cons (ms_set (i := 2) sc_puts.nd rfl (Or.inl rfl) (me_lst (ma_cons (me_tup (ma_cons (me_tup ma_nil) (ma_cons (me_v 0) ma_nil))) ma_nil))) (mss_cons (ms_for (vs := [3]) po (by rfl) (mi_seq (me_v 1)) (mg_name (i := 3) sc_puts.nd rfl (Or.inr rfl)) (mss_cons (ms_set (i := 4) sc_puts.nd rfl (Or.inl rfl) (me_lstC ma_nil)) (mss_cons (ms_for (vs := [5, 6]) po (by rfl) (mi_seq (me_v 2)) (mg_tup (by rfl) (mgs_cons (mg_name (i := 5) sc_puts.nd rfl (Or.inr rfl)) (mgs_cons (mg_name (i := 6) sc_puts.nd rfl (Or.inr rfl)) mgs_nil))) (mss_one (ms_expr (me_extend (me_v 4) (ma_cons (me_lc (own := [("shelf", 7)]) (by rfl) sc_puts.nd (mi_range1 (by rfl) T.z_range (ma_cons (me_len (by rfl) T.z_len (ma_cons (me_v 0) ma_nil)) ma_nil)) (blkOk_by (N := N_puts) (sc := (defScope s_puts)) (own := [("shelf", 7)]) (by decide +kernel)) (fun _ _ _ _ _ => (mg_name (i := 7) sc_puts.nd rfl (Or.inl rfl))) (fun _ _ _ _ _ => mts_nil) (fun _ _ _ _ _ => (me_tup (ma_cons (me_add (me_v 5) (me_tup (ma_cons (me_v 7) ma_nil))) (ma_cons (me_call (ps := ["loads", "shelf", "load"]) (ok_with_load T) (hr.mono (by decide)) (by rfl) T.m_with_load T.F_with_load.kp (bi_with_load T) takesWF (ma_cons (me_v 6) (ma_cons (me_v 7) (ma_cons (me_v 3) ma_nil)))) ma_nil))))) ma_nil))))) (mss_one (ms_set (i := 2) sc_puts.nd rfl (Or.inl rfl) (me_frz (me_v 4))))))) (mss_one (ms_ret (me_v 2)))))
theorem bi_tilt_of (T : Tx K mg) : Binds K T.fd_tilt_of ["loads"] [] := T.F_tilt_of.binds (ps := ["loads"]) fun _ _ _ _ _ _ us hl => match us, hl with | [_], _ => rfl
theorem ok_tilt_of (T : Tx K mg) : FnOk P w K mg base (L2.CX P w) (0 + 1) T.f_tilt_of T.fd_tilt_of ["loads"] (spF K mg 1 F_tilt_of) :=
  fn_ok' (k := 0) T.F_tilt_of sc_tilt_of fun cdv A outer s H E hr tk po => (mss_cons (ms_set (i := 1) sc_tilt_of.nd rfl (Or.inr rfl) (me_div (me_len (by rfl) T.z_len (ma_cons (me_v 0) ma_nil)) me_int)) (mss_cons (ms_set (i := 2) sc_tilt_of.nd rfl (Or.inr rfl) (me_add (me_add (me_v 0) (me_v 0)) (me_v 0))) (mss_one (ms_ret (me_maxA hr (by rfl) (by rfl) T.z_max (ma_cons (me_lc (own := [("at", 3)]) (by rfl) sc_tilt_of.nd (mi_range1 (by rfl) T.z_range (ma_cons (me_len (by rfl) T.z_len (ma_cons (me_v 0) ma_nil)) ma_nil)) (blkOk_by (N := N_tilt_of) (sc := (defScope s_tilt_of)) (own := [("at", 3)]) (by decide +kernel)) (fun _ _ _ _ _ => (mg_name (i := 3) sc_tilt_of.nd rfl (Or.inl rfl))) (fun _ _ _ _ _ => mts_nil) (fun _ _ _ _ _ => (me_abs (by rfl) T.z_abs (ma_cons (me_sub (me_sumA (by rfl) (by rfl) T.z_sum (ma_cons (me_slice (me_v 2) (mo_some (me_v 3)) (mo_some (me_add (me_v 3) (me_v 1)))) ma_nil)) (me_sumA (by rfl) (by rfl) T.z_sum (ma_cons (me_slice (me_v 2) (mo_some (me_add (me_v 3) (me_v 1))) (mo_some (me_add (me_v 3) (me_mulA me_int (me_v 1))))) ma_nil))) ma_nil)))) ma_nil))))))
theorem bi_best_of (T : Tx K mg) : Binds K T.fd_best_of ["loads", "some"] [] := T.F_best_of.binds (ps := ["loads", "some"]) fun _ _ _ _ _ _ us hl => match us, hl with | [_, _], _ => rfl
theorem ok_best_of (T : Tx K mg) : FnOk P w K mg base (L2.CX P w) (2 + 1) T.f_best_of T.fd_best_of ["loads", "some"] (spF K mg 2 F_best_of) :=
  fn_ok' (k := 2) T.F_best_of sc_best_of fun cdv A outer s H E hr tk po => (mss_one (ms_ret (me_minD hr (by rfl) (by rfl) T.z_min (ma_cons (me_lc (own := [("shelves", 2), ("here", 3)]) (by rfl) sc_best_of.nd (mi_seq (me_call (ps := ["loads", "some"]) (ok_puts T) (hr.mono (by decide)) (by rfl) T.m_puts T.F_puts.kp (bi_puts T) tk (ma_cons (me_v 0) (ma_cons (me_v 1) ma_nil)))) (blkOk_by (N := N_best_of) (sc := (defScope s_best_of)) (own := [("shelves", 2), ("here", 3)]) (by decide +kernel)) (fun _ _ _ _ _ => (mg_tup (by rfl) (mgs_cons (mg_name (i := 2) sc_best_of.nd rfl (Or.inl rfl)) (mgs_cons (mg_name (i := 3) sc_best_of.nd rfl (Or.inl rfl)) mgs_nil)))) (fun _ _ _ _ _ => mts_nil) (fun _ _ _ _ _ => (me_tup (ma_cons (me_call (ps := ["loads"]) (ok_tilt_of T) (hr.mono (by decide)) (by rfl) T.m_tilt_of T.F_tilt_of.kp (bi_tilt_of T) takesWF (ma_cons (me_v 3) ma_nil)) (ma_cons (me_v 2) ma_nil))))) ma_nil))))
theorem bi_is_whole (T : Tx K mg) : Binds K T.fd_is_whole ["thing", "low", "high"] [] := T.F_is_whole.binds (ps := ["thing", "low", "high"]) fun _ _ _ _ _ _ us hl => match us, hl with | [_, _, _], _ => rfl
theorem ok_is_whole (T : Tx K mg) : FnOk P w K mg base (L2.CX P w) (0 + 1) T.f_is_whole T.fd_is_whole ["thing", "low", "high"] (spF K mg 3 F_is_whole) :=
  fn_ok' (k := 0) T.F_is_whole sc_is_whole fun cdv A outer s H E hr tk po => (mss_one (ms_ret (me_and (me_isi (by rfl) T.z_isinstance (ma_cons (me_v 0) (ma_cons (me_ty .int rfl (by rfl) T.z_int) ma_nil))) (me_and (me_not (me_isi (by rfl) T.z_isinstance (ma_cons (me_v 0) (ma_cons (me_ty .bool rfl (by rfl) T.z_bool) ma_nil)))) (me_one (me_lele (me_v 1) (me_v 0) (me_v 2)))))))
theorem bi_look_loads (T : Tx K mg) : Binds K T.fd_look_loads ["loads"] [] := T.F_look_loads.binds (ps := ["loads"]) fun _ _ _ _ _ _ us hl => match us, hl with | [_], _ => rfl
theorem ok_look_loads (T : Tx K mg) : FnOk P w K mg base (L2.CX P w) (1 + 1) T.f_look_loads T.fd_look_loads ["loads"] (spF K mg 1 F_look_loads) :=
  fn_ok' (k := 1) T.F_look_loads sc_look_loads fun cdv A outer s H E hr tk po => (mss_cons (ms_if (MW.mt (mw_or (mt_not (mt_val (me_isi (by rfl) T.z_isinstance (ma_cons (me_v 0) (ma_cons (me_ty .tuple rfl (by rfl) T.z_tuple) ma_nil))))) (mw_or1 (mt_not (mt_lele me_int (me_len (by rfl) T.z_len (ma_cons (me_v 0) ma_nil)) (me_gint (by rfl) T.c_MOST)))))) (mss_one (ms_raise (by rfl) tk PySem.F.excBase_ValueError T.x_NoLoad T.g_NoLoad T.k_NoLoad (raises_own T.b_NoLoad T.t_NoLoad) (by rfl))) mss_nil) (mss_one (ms_if (mt_not (mt_val (me_all (by rfl) (by rfl) T.z_all (ma_cons (me_lc (own := [("one", 1)]) (by rfl) sc_look_loads.nd (mi_seq (me_v 0)) (blkOk_by (N := N_look_loads) (sc := (defScope s_look_loads)) (own := [("one", 1)]) (by decide +kernel)) (fun _ _ _ _ _ => (mg_name (i := 1) sc_look_loads.nd rfl (Or.inl rfl))) (fun _ _ _ _ _ => mts_nil) (fun _ _ _ _ _ => (me_call (ps := ["thing", "low", "high"]) (ok_is_whole T) (hr.mono (by decide)) (by rfl) T.m_is_whole T.F_is_whole.kp (bi_is_whole T) takesWF (ma_cons (me_v 1) (ma_cons me_int (ma_cons (me_gint (by rfl) T.c_HEAVIEST) ma_nil)))))) ma_nil)))) (mss_one (ms_raise (by rfl) tk PySem.F.excBase_ValueError T.x_NoLoad T.g_NoLoad T.k_NoLoad (raises_own T.b_NoLoad T.t_NoLoad) (by rfl))) mss_nil)))
theorem bi_look_some (T : Tx K mg) : Binds K T.fd_look_some ["some"] [] := T.F_look_some.binds (ps := ["some"]) fun _ _ _ _ _ _ us hl => match us, hl with | [_], _ => rfl
theorem ok_look_some (T : Tx K mg) : FnOk P w K mg base (L2.CX P w) (1 + 1) T.f_look_some T.fd_look_some ["some"] (spF K mg 1 F_look_some) :=
  fn_ok' (k := 1) T.F_look_some sc_look_some fun cdv A outer s H E hr tk po => (mss_one (ms_if (MW.mt (mw_or (mt_not (mt_val (me_isi (by rfl) T.z_isinstance (ma_cons (me_v 0) (ma_cons (me_ty .tuple rfl (by rfl) T.z_tuple) ma_nil))))) (mw_or (mt_gt (me_len (by rfl) T.z_len (ma_cons (me_v 0) ma_nil)) me_int) (mw_or1 (mt_not (mt_val (me_all (by rfl) (by rfl) T.z_all (ma_cons (me_lc (own := [("one", 1)]) (by rfl) sc_look_some.nd (mi_seq (me_v 0)) (blkOk_by (N := N_look_some) (sc := (defScope s_look_some)) (own := [("one", 1)]) (by decide +kernel)) (fun _ _ _ _ _ => (mg_name (i := 1) sc_look_some.nd rfl (Or.inl rfl))) (fun _ _ _ _ _ => mts_nil) (fun _ _ _ _ _ => (me_call (ps := ["thing", "low", "high"]) (ok_is_whole T) (hr.mono (by decide)) (by rfl) T.m_is_whole T.F_is_whole.kp (bi_is_whole T) takesWF (ma_cons (me_v 1) (ma_cons me_int (ma_cons (me_gint (by rfl) T.c_HEAVIEST) ma_nil)))))) ma_nil)))))))) (mss_one (ms_raise (by rfl) tk PySem.F.excBase_ValueError T.x_NoLoad T.g_NoLoad T.k_NoLoad (raises_own T.b_NoLoad T.t_NoLoad) (by rfl))) mss_nil))
theorem bi_best_put (T : Tx K mg) : Binds K T.fd_best_put ["loads", "some"] [] := T.F_best_put.binds (ps := ["loads", "some"]) fun _ _ _ _ _ _ us hl => match us, hl with | [_, _], _ => rfl
theorem ok_best_put (T : Tx K mg) : FnOk P w K mg base (L2.CX P w) (3 + 1) T.f_best_put T.fd_best_put ["loads", "some"] (spF K mg 2 F_best_put) :=
  fn_ok' (k := 3) T.F_best_put sc_best_put fun cdv A outer s H E hr tk po => (mss_cons (ms_expr (me_call (ps := ["loads"]) (ok_look_loads T) (hr.mono (by decide)) (by rfl) T.m_look_loads T.F_look_loads.kp (bi_look_loads T) tk (ma_cons (me_v 0) ma_nil))) (mss_cons (ms_expr (me_call (ps := ["some"]) (ok_look_some T) (hr.mono (by decide)) (by rfl) T.m_look_some T.F_look_some.kp (bi_look_some T) tk (ma_cons (me_v 1) ma_nil))) (mss_one (ms_ret (me_ix (me_call (ps := ["loads", "some"]) (ok_best_of T) (hr.mono (by decide)) (by rfl) T.m_best_of T.F_best_of.kp (bi_best_of T) tk (ma_cons (me_v 0) (ma_cons (me_v 1) ma_nil))) me_int)))))
theorem bi_best_shelf (T : Tx K mg) : Binds K T.fd_best_shelf ["loads", "load"] [] := T.F_best_shelf.binds (ps := ["loads", "load"]) fun _ _ _ _ _ _ us hl => match us, hl with | [_, _], _ => rfl
theorem ok_best_shelf (T : Tx K mg) : FnOk P w K mg base (L2.CX P w) (3 + 1) T.f_best_shelf T.fd_best_shelf ["loads", "load"] (spF K mg 2 F_best_shelf) :=
  fn_ok' (k := 3) T.F_best_shelf sc_best_shelf fun cdv A outer s H E hr tk po => (mss_cons (ms_expr (me_call (ps := ["loads"]) (ok_look_loads T) (hr.mono (by decide)) (by rfl) T.m_look_loads T.F_look_loads.kp (bi_look_loads T) tk (ma_cons (me_v 0) ma_nil))) (mss_cons (ms_expr (me_call (ps := ["some"]) (ok_look_some T) (hr.mono (by decide)) (by rfl) T.m_look_some T.F_look_some.kp (bi_look_some T) tk (ma_cons (me_tup (ma_cons (me_v 1) ma_nil)) ma_nil))) (mss_one (ms_ret (me_ix (me_ix (me_call (ps := ["loads", "some"]) (ok_best_of T) (hr.mono (by decide)) (by rfl) T.m_best_of T.F_best_of.kp (bi_best_of T) tk (ma_cons (me_v 0) (ma_cons (me_tup (ma_cons (me_v 1) ma_nil)) ma_nil))) me_int) me_int)))))
theorem bi_least_tilt (T : Tx K mg) : Binds K T.fd_least_tilt ["loads", "some"] [] := T.F_least_tilt.binds (ps := ["loads", "some"]) fun _ _ _ _ _ _ us hl => match us, hl with | [_, _], _ => rfl
theorem ok_least_tilt (T : Tx K mg) : FnOk P w K mg base (L2.CX P w) (3 + 1) T.f_least_tilt T.fd_least_tilt ["loads", "some"] (spF K mg 2 F_least_tilt) :=
  fn_ok' (k := 3) T.F_least_tilt sc_least_tilt fun cdv A outer s H E hr tk po => (mss_cons (ms_expr (me_call (ps := ["loads"]) (ok_look_loads T) (hr.mono (by decide)) (by rfl) T.m_look_loads T.F_look_loads.kp (bi_look_loads T) tk (ma_cons (me_v 0) ma_nil))) (mss_cons (ms_expr (me_call (ps := ["some"]) (ok_look_some T) (hr.mono (by decide)) (by rfl) T.m_look_some T.F_look_some.kp (bi_look_some T) tk (ma_cons (me_v 1) ma_nil))) (mss_one (ms_ret (me_ix (me_call (ps := ["loads", "some"]) (ok_best_of T) (hr.mono (by decide)) (by rfl) T.m_best_of T.F_best_of.kp (bi_best_of T) tk (ma_cons (me_v 0) (ma_cons (me_v 1) ma_nil))) me_int)))))
theorem bi_tilt (T : Tx K mg) : Binds K T.fd_tilt ["loads"] [] := T.F_tilt.binds (ps := ["loads"]) fun _ _ _ _ _ _ us hl => match us, hl with | [_], _ => rfl
theorem ok_tilt (T : Tx K mg) : FnOk P w K mg base (L2.CX P w) (2 + 1) T.f_tilt T.fd_tilt ["loads"] (spF K mg 1 F_tilt) :=
  fn_ok' (k := 2) T.F_tilt sc_tilt fun cdv A outer s H E hr tk po => (mss_cons (ms_expr (me_call (ps := ["loads"]) (ok_look_loads T) (hr.mono (by decide)) (by rfl) T.m_look_loads T.F_look_loads.kp (bi_look_loads T) tk (ma_cons (me_v 0) ma_nil))) (mss_one (ms_ret (me_call (ps := ["loads"]) (ok_tilt_of T) (hr.mono (by decide)) (by rfl) T.m_tilt_of T.F_tilt_of.kp (bi_tilt_of T) tk (ma_cons (me_v 0) ma_nil)))))
theorem bi__law_do (T : Tx K mg) : Binds K T.fd__law_do ["what", "loads", "some"] [] := T.F__law_do.binds (ps := ["what", "loads", "some"]) fun _ _ _ _ _ _ us hl => match us, hl with | [_, _, _], _ => rfl
theorem ok__law_do (T : Tx K mg) : FnOk P w K mg base (L2.CX P w) (4 + 1) T.f__law_do T.fd__law_do ["what", "loads", "some"] (spF K mg 3 F__law_do) :=
  fn_ok' (k := 4) T.F__law_do sc__law_do fun cdv A outer s H E hr tk po => (mss_cons (ms_set (i := 3) sc__law_do.nd rfl (Or.inl rfl) me_non) (mss_cons (ms_set (i := 4) sc__law_do.nd rfl (Or.inl rfl) me_non) (mss_tryK (i := 5) (k := 3) (kn := 1) (word := wordOf) rfl rfl sc__law_do.nd rfl rfl rfl (by decide) ⟨by rfl, by decide, .inl T.g_ShelfError⟩ (NO_ T) (fun W1 pl xe tk po => (mss_one (ms_if (mt_lt (me_v 0) me_int) (mss_one (ms_set (i := 4) sc__law_do.nd rfl (Or.inl rfl) (me_if (mt_eq hr (me_v 0) me_int) (me_call (ps := ["loads"]) (ok_tilt T) (hr.mono (by decide)) (by rfl) T.m_tilt T.F_tilt.kp (bi_tilt T) tk (ma_cons (me_v 1) ma_nil)) (me_call (ps := ["loads", "load"]) (ok_best_shelf T) (hr.mono (by decide)) (by rfl) T.m_best_shelf T.F_best_shelf.kp (bi_best_shelf T) tk (ma_cons (me_v 1) (ma_cons (me_v 2) ma_nil)))))) (mss_one (ms_set (i := 4) sc__law_do.nd rfl (Or.inl rfl) (me_if (mt_eq hr (me_v 0) me_int) (me_call (ps := ["loads", "some"]) (ok_best_put T) (hr.mono (by decide)) (by rfl) T.m_best_put T.F_best_put.kp (bi_best_put T) tk (ma_cons (me_v 1) (ma_cons (me_v 2) ma_nil))) (me_call (ps := ["loads", "some"]) (ok_least_tilt T) (hr.mono (by decide)) (by rfl) T.m_least_tilt T.F_least_tilt.kp (bi_least_tilt T) tk (ma_cons (me_v 1) (ma_cons (me_v 2) ma_nil))))))))) (fun a oe pl => mss_one (ms_set (i := 3) sc__law_do.nd rfl (Or.inl rfl) (me_v 5))) (mss_cons (ms_if (mt_isN (me_v 3) me_non) (mss_one (ms_ret (me_v 4))) mss_nil) (mss_one ms_stuck)) (fun a oe cls wo pl hz hf ow nok => mss_restK (kn := 1) List.mem_cons_self hz hf ((L2H.roomH_of hr).mono (by decide)) (by rfl) T.m__law_word T.F__law_word.kp (bi__law_word T) nok ow rfl rfl (by decide) (by decide) (by decide)))))
theorem bi__law_cell (T : Tx K mg) : Binds K T.fd__law_cell ["script", "k"] [] := T.F__law_cell.binds (ps := ["script", "k"]) fun _ _ _ _ _ _ us hl => match us, hl with | [_, _], _ => rfl
theorem ok__law_cell (T : Tx K mg) : FnOk P w K mg base (L2.CX P w) (0 + 1) T.f__law_cell T.fd__law_cell ["script", "k"] (spF K mg 2 F__law_cell) :=
  fn_ok' (k := 0) T.F__law_cell sc__law_cell fun cdv A outer s H E hr tk po => (mss_cons (ms_if (mt_lt (me_v 1) (me_len (by rfl) T.z_len (ma_cons (me_v 0) ma_nil))) (mss_one (ms_ret (me_ix (me_v 0) (me_v 1)))) mss_nil) (mss_cons (ms_if (mt_eq hr (me_v 0) (me_lst ma_nil)) (mss_one (ms_ret me_int)) mss_nil) (mss_one (ms_ret (me_add (me_mulA (me_ix (me_v 0) (me_mod (me_v 1) (me_len (by rfl) T.z_len (ma_cons (me_v 0) ma_nil)))) me_int) (me_v 1))))))
theorem bi__law_pick (T : Tx K mg) : Binds K T.fd__law_pick ["script", "k", "many"] [] := T.F__law_pick.binds (ps := ["script", "k", "many"]) fun _ _ _ _ _ _ us hl => match us, hl with | [_, _, _], _ => rfl
theorem ok__law_pick (T : Tx K mg) : FnOk P w K mg base (L2.CX P w) (1 + 1) T.f__law_pick T.fd__law_pick ["script", "k", "many"] (spF K mg 3 F__law_pick) :=
  fn_ok' (k := 1) T.F__law_pick sc__law_pick fun cdv A outer s H E hr tk po => (mss_cons (ms_set (i := 3) sc__law_pick.nd rfl (Or.inl rfl) (me_mod (me_mulA (me_add (me_call (ps := ["script", "k"]) (ok__law_cell T) (hr.mono (by decide)) (by rfl) T.m__law_cell T.F__law_cell.kp (bi__law_cell T) tk (ma_cons (me_v 0) (ma_cons (me_v 1) ma_nil))) (me_mulA me_int (me_add (me_v 1) me_int))) me_int) me_int)) (mss_one (ms_ret (me_mod (me_mod (me_add (me_mulA (me_v 3) (me_v 3)) (me_div (me_v 3) me_int)) me_int) (me_v 2)))))
theorem bi__law_tilt (T : Tx K mg) : Binds K T.fd__law_tilt ["loads"] [] := T.F__law_tilt.binds (ps := ["loads"]) fun _ _ _ _ _ _ us hl => match us, hl with | [_], _ => rfl
theorem ok__law_tilt (T : Tx K mg) : FnOk P w K mg base (L2.CX P w) (0 + 1) T.f__law_tilt T.fd__law_tilt ["loads"] (spF K mg 1 F__law_tilt) :=
  fn_ok' (k := 0) T.F__law_tilt sc__law_tilt fun cdv A outer s H E hr tk po => (mss_cons (ms_asg (vs := [1, 2]) (me_tup (ma_cons (me_len (by rfl) T.z_len (ma_cons (me_v 0) ma_nil)) (ma_cons me_int ma_nil))) (mg_tup (by rfl) (mgs_cons (mg_name (i := 1) sc__law_tilt.nd rfl (Or.inr rfl)) (mgs_cons (mg_name (i := 2) sc__law_tilt.nd rfl (Or.inl rfl)) mgs_nil)))) (mss_cons (ms_for (vs := [3]) po (by rfl) (mi_range1 (by rfl) T.z_range (ma_cons (me_v 1) ma_nil)) (mg_name (i := 3) sc__law_tilt.nd rfl (Or.inr rfl)) (mss_cons (ms_set (i := 4) sc__law_tilt.nd rfl (Or.inl rfl) (me_sumA (by rfl) (by rfl) T.z_sum (ma_cons (me_lc (own := [("k", 6)]) (by rfl) sc__law_tilt.nd (mi_range1 (by rfl) T.z_range (ma_cons (me_div (me_v 1) me_int) ma_nil)) (blkOk_by (N := N__law_tilt) (sc := (defScope s__law_tilt)) (own := [("k", 6)]) (by decide +kernel)) (fun _ _ _ _ _ => (mg_name (i := 6) sc__law_tilt.nd rfl (Or.inl rfl))) (fun _ _ _ _ _ => mts_nil) (fun _ _ _ _ _ => (me_ix (me_v 0) (me_mod (me_add (me_v 3) (me_v 6)) (me_v 1))))) ma_nil))) (mss_cons (ms_set (i := 5) sc__law_tilt.nd rfl (Or.inl rfl) (me_sumA (by rfl) (by rfl) T.z_sum (ma_cons (me_lc (own := [("k", 6)]) (by rfl) sc__law_tilt.nd (mi_range1 (by rfl) T.z_range (ma_cons (me_div (me_v 1) me_int) ma_nil)) (blkOk_by (N := N__law_tilt) (sc := (defScope s__law_tilt)) (own := [("k", 6)]) (by decide +kernel)) (fun _ _ _ _ _ => (mg_name (i := 6) sc__law_tilt.nd rfl (Or.inl rfl))) (fun _ _ _ _ _ => mts_nil) (fun _ _ _ _ _ => (me_ix (me_v 0) (me_mod (me_add (me_add (me_v 3) (me_div (me_v 1) me_int)) (me_v 6)) (me_v 1))))) ma_nil))) (mss_one (ms_set (i := 2) sc__law_tilt.nd rfl (Or.inl rfl) (me_max2 (by rfl) (by rfl) T.z_max (ma_cons (me_v 2) (ma_cons (me_abs (by rfl) T.z_abs (ma_cons (me_sub (me_v 4) (me_v 5)) ma_nil)) ma_nil)))))))) (mss_one (ms_ret (me_v 2)))))
theorem bi_law (T : Tx K mg) : Binds K T.fd_law ["script"] [] := T.F_law.binds (ps := ["script"]) fun _ _ _ _ _ _ us hl => match us, hl with | [_], _ => rfl
theorem ok_law (T : Tx K mg) : FnOk P w K mg base (L2.CX P w) (5 + 1) T.f_law T.fd_law ["script"] (spF K mg 1 F_law) :=
  fn_ok' (k := 5) T.F_law sc_law fun cdv A outer s H E hr tk po => (mss_cons (ms_asg (vs := [1, 2]) (me_tup (ma_cons (me_add me_int (me_call (ps := ["script", "k", "many"]) (ok__law_pick T) (hr.mono (by decide)) (by rfl) T.m__law_pick T.F__law_pick.kp (bi__law_pick T) tk (ma_cons (me_v 0) (ma_cons me_int (ma_cons me_int ma_nil))))) (ma_cons (me_ix (me_lst (ma_cons me_int (ma_cons me_int (ma_cons me_int ma_nil)))) (me_call (ps := ["script", "k", "many"]) (ok__law_pick T) (hr.mono (by decide)) (by rfl) T.m__law_pick T.F__law_pick.kp (bi__law_pick T) tk (ma_cons (me_v 0) (ma_cons me_int (ma_cons me_int ma_nil))))) ma_nil))) (mg_tup (by rfl) (mgs_cons (mg_name (i := 1) sc_law.nd rfl (Or.inl rfl)) (mgs_cons (mg_name (i := 2) sc_law.nd rfl (Or.inr rfl)) mgs_nil)))) (mss_cons (ms_set (i := 3) sc_law.nd rfl (Or.inr rfl) (me_tuple (by rfl) T.z_tuple (ma_cons (me_lc (own := [("k", 16)]) (by rfl) sc_law.nd (mi_range1 (by rfl) T.z_range (ma_cons (me_v 1) ma_nil)) (blkOk_by (N := N_law) (sc := (defScope s_law)) (own := [("k", 16)]) (by decide +kernel)) (fun _ _ _ _ _ => (mg_name (i := 16) sc_law.nd rfl (Or.inl rfl))) (fun _ _ _ _ _ => mts_nil) (fun _ _ _ _ _ => (me_call (ps := ["script", "k", "many"]) (ok__law_pick T) (hr.mono (by decide)) (by rfl) T.m__law_pick T.F__law_pick.kp (bi__law_pick T) takesWF (ma_cons (me_v 0) (ma_cons (me_add me_int (me_v 16)) (ma_cons (me_v 2) ma_nil)))))) ma_nil))) (mss_cons (ms_setLc (i := 4) (own := [("k", 16)]) (by rfl) sc_law.nd rfl rfl (sw_true rfl rfl rfl (by decide +kernel)) (mi_range1 (by rfl) T.z_range (ma_cons me_int ma_nil)) (blkOk_by (N := N_law) (sc := (defScope s_law)) (own := [("k", 16)]) (by decide +kernel)) (fun _ _ _ _ _ => (mg_name (i := 16) sc_law.nd rfl (Or.inl rfl))) (fun _ _ _ _ _ => mts_nil) (fun _ _ _ _ _ => (me_call (ps := ["script", "k", "many"]) (ok__law_pick T) (hr.mono (by decide)) (by rfl) T.m__law_pick T.F__law_pick.kp (bi__law_pick T) takesWF (ma_cons (me_v 0) (ma_cons (me_add me_int (me_v 16)) (ma_cons (me_ix (me_lst (ma_cons (me_v 2) (ma_cons me_int ma_nil))) (me_call (ps := ["script", "k", "many"]) (ok__law_pick T) (hr.mono (by decide)) (by rfl) T.m__law_pick T.F__law_pick.kp (bi__law_pick T) takesWF (ma_cons (me_v 0) (ma_cons (me_add me_int (me_v 16)) (ma_cons me_int ma_nil))))) ma_nil)))))) (mss_cons (ms_set (i := 4) sc_law.nd rfl (Or.inl rfl) (me_tuple (by rfl) T.z_tuple (ma_cons (me_slice (me_v 4) mo_none (mo_some (me_call (ps := ["script", "k", "many"]) (ok__law_pick T) (hr.mono (by decide)) (by rfl) T.m__law_pick T.F__law_pick.kp (bi__law_pick T) tk (ma_cons (me_v 0) (ma_cons me_int (ma_cons me_int ma_nil)))))) ma_nil))) (mss_cons (ms_set (i := 5) sc_law.nd rfl (Or.inl rfl) (me_call (ps := ["script", "k", "many"]) (ok__law_pick T) (hr.mono (by decide)) (by rfl) T.m__law_pick T.F__law_pick.kp (bi__law_pick T) tk (ma_cons (me_v 0) (ma_cons me_int (ma_cons (me_v 1) ma_nil))))) (mss_cons (ms_set (i := 6) sc_law.nd rfl (Or.inl rfl) (me_call (ps := ["loads"]) (ok__law_tilt T) (hr.mono (by decide)) (by rfl) T.m__law_tilt T.F__law_tilt.kp (bi__law_tilt T) tk (ma_cons (me_v 3) ma_nil))) (mss_cons (ms_if (MW.mt (mw_or (mt_ne hr (me_call (ps := ["what", "loads", "some"]) (ok__law_do T) (hr.mono (by decide)) (by rfl) T.m__law_do T.F__law_do.kp (bi__law_do T) tk (ma_cons me_int (ma_cons (me_v 3) (ma_cons me_non ma_nil)))) (me_v 6)) (mw_or (mt_ne hr (me_call (ps := ["loads"]) (ok_tilt T) (hr.mono (by decide)) (by rfl) T.m_tilt T.F_tilt.kp (bi_tilt T) tk (ma_cons (me_add (me_slice (me_v 3) (mo_some (me_v 5)) mo_none) (me_slice (me_v 3) mo_none (mo_some (me_v 5)))) ma_nil)) (me_v 6)) (mw_or1 (mt_ne hr (me_call (ps := ["loads"]) (ok_tilt T) (hr.mono (by decide)) (by rfl) T.m_tilt T.F_tilt.kp (bi_tilt T) tk (ma_cons (me_rev (me_v 3)) ma_nil)) (me_v 6)))))) (mss_one (ms_ret me_bl)) mss_nil) (mss_cons (ms_set (i := 7) sc_law.nd rfl (Or.inl rfl) (me_lst (ma_cons (me_tup (ma_cons (me_tup ma_nil) (ma_cons (me_v 3) ma_nil))) ma_nil))) (mss_cons (ms_for (vs := [8]) po (by rfl) (mi_seq (me_v 4)) (mg_name (i := 8) sc_law.nd rfl (Or.inr rfl)) (mss_cons (ms_set (i := 9) sc_law.nd rfl (Or.inl rfl) (me_lstC ma_nil)) (mss_cons (ms_for (vs := [10, 11]) po (by rfl) (mi_seq (me_v 7)) (mg_tup (by rfl) (mgs_cons (mg_name (i := 10) sc_law.nd rfl (Or.inl rfl)) (mgs_cons (mg_name (i := 11) sc_law.nd rfl (Or.inl rfl)) mgs_nil))) (mss_one (ms_for (vs := [12]) po (by rfl) (mi_range1 (by rfl) T.z_range (ma_cons (me_v 1) ma_nil)) (mg_name (i := 12) sc_law.nd rfl (Or.inl rfl)) (mss_one (ms_expr (me_append (me_v 9) (ma_cons (me_tup (ma_cons (me_add (me_v 10) (me_tup (ma_cons (me_v 12) ma_nil))) (ma_cons (me_add (me_add (me_slice (me_v 11) mo_none (mo_some (me_v 12))) (me_tup (ma_cons (me_add (me_ix (me_v 11) (me_v 12)) (me_v 8)) ma_nil))) (me_slice (me_v 11) (mo_some (me_add (me_v 12) me_int)) mo_none)) ma_nil))) ma_nil))))))) (mss_one (ms_set (i := 7) sc_law.nd rfl (Or.inl rfl) (me_frz (me_v 9))))))) (mss_cons (ms_setLc (i := 13) (own := [("shelves", 10), ("here", 11)]) (by rfl) sc_law.nd rfl rfl (sw_true rfl rfl rfl (by decide +kernel)) (mi_seq (me_v 7)) (blkOk_by (N := N_law) (sc := (defScope s_law)) (own := [("shelves", 10), ("here", 11)]) (by decide +kernel)) (fun _ _ _ _ _ => (mg_tup (by rfl) (mgs_cons (mg_name (i := 10) sc_law.nd rfl (Or.inl rfl)) (mgs_cons (mg_name (i := 11) sc_law.nd rfl (Or.inl rfl)) mgs_nil)))) (fun _ _ _ _ _ => mts_nil) (fun _ _ _ _ _ => (me_call (ps := ["loads"]) (ok__law_tilt T) (hr.mono (by decide)) (by rfl) T.m__law_tilt T.F__law_tilt.kp (bi__law_tilt T) takesWF (ma_cons (me_v 11) ma_nil)))) (mss_cons (ms_set (i := 14) sc_law.nd rfl (Or.inl rfl) (me_ix (me_ix (me_v 7) (me_index hr (me_v 13) (ma_cons (me_minD hr (by rfl) (by rfl) T.z_min (ma_cons (me_v 13) ma_nil)) ma_nil))) me_int)) (mss_cons (ms_if (MW.mt (mw_or (mt_ne hr (me_call (ps := ["what", "loads", "some"]) (ok__law_do T) (hr.mono (by decide)) (by rfl) T.m__law_do T.F__law_do.kp (bi__law_do T) tk (ma_cons me_int (ma_cons (me_v 3) (ma_cons (me_v 4) ma_nil)))) (me_v 14)) (mw_or1 (mt_ne hr (me_call (ps := ["what", "loads", "some"]) (ok__law_do T) (hr.mono (by decide)) (by rfl) T.m__law_do T.F__law_do.kp (bi__law_do T) tk (ma_cons me_int (ma_cons (me_v 3) (ma_cons (me_v 4) ma_nil)))) (me_minD hr (by rfl) (by rfl) T.z_min (ma_cons (me_v 13) ma_nil)))))) (mss_one (ms_ret me_bl)) mss_nil) (mss_cons (ms_set (i := 8) sc_law.nd rfl (Or.inr rfl) (me_call (ps := ["script", "k", "many"]) (ok__law_pick T) (hr.mono (by decide)) (by rfl) T.m__law_pick T.F__law_pick.kp (bi__law_pick T) tk (ma_cons (me_v 0) (ma_cons me_int (ma_cons me_int ma_nil))))) (mss_cons (ms_setLc (i := 13) (own := [("k", 16)]) (by rfl) sc_law.nd rfl rfl (sw_true rfl rfl rfl (by decide +kernel)) (mi_range1 (by rfl) T.z_range (ma_cons (me_v 1) ma_nil)) (blkOk_by (N := N_law) (sc := (defScope s_law)) (own := [("k", 16)]) (by decide +kernel)) (fun _ _ _ _ _ => (mg_name (i := 16) sc_law.nd rfl (Or.inl rfl))) (fun _ _ _ _ _ => mts_nil) (fun _ _ _ _ _ => (me_call (ps := ["loads"]) (ok__law_tilt T) (hr.mono (by decide)) (by rfl) T.m__law_tilt T.F__law_tilt.kp (bi__law_tilt T) takesWF (ma_cons (me_add (me_add (me_slice (me_v 3) mo_none (mo_some (me_v 16))) (me_tup (ma_cons (me_add (me_ix (me_v 3) (me_v 16)) (me_v 8)) ma_nil))) (me_slice (me_v 3) (mo_some (me_add (me_v 16) me_int)) mo_none)) ma_nil)))) (mss_cons (ms_if (mt_ne hr (me_call (ps := ["what", "loads", "some"]) (ok__law_do T) (hr.mono (by decide)) (by rfl) T.m__law_do T.F__law_do.kp (bi__law_do T) tk (ma_cons me_int (ma_cons (me_v 3) (ma_cons (me_v 8) ma_nil)))) (me_index hr (me_v 13) (ma_cons (me_minD hr (by rfl) (by rfl) T.z_min (ma_cons (me_v 13) ma_nil)) ma_nil))) (mss_one (ms_ret me_bl)) mss_nil) (mss_cons (ms_for (vs := [15]) po (by rfl) (mi_seq (me_tup (ma_cons me_non (ma_cons (me_tup ma_nil) (ma_cons (me_tup (ma_cons me_int (ma_cons me_int ma_nil))) (ma_cons (me_mulA (me_tup (ma_cons me_int ma_nil)) me_int) (ma_cons (me_lst (ma_cons me_int (ma_cons me_int (ma_cons me_int ma_nil)))) (ma_cons (me_tup (ma_cons me_int (ma_cons me_int (ma_cons (me_neg me_int) ma_nil)))) (ma_cons (me_tup (ma_cons me_int (ma_cons me_int (ma_cons me_int ma_nil)))) (ma_cons (me_tup (ma_cons me_int (ma_cons me_int (ma_cons me_bl ma_nil)))) (ma_cons (me_tup (ma_cons me_int (ma_cons me_int (ma_cons me_non ma_nil)))) (ma_cons me_str (ma_cons me_int ma_nil))))))))))))) (mg_name (i := 15) sc_law.nd rfl (Or.inr rfl)) (mss_cons (ms_if (mt_ne hr (me_lc (own := [("what", 17)]) (by rfl) sc_law.nd (mi_range1 (by rfl) T.z_range (ma_cons me_int ma_nil)) (blkOk_by (N := N_law) (sc := (defScope s_law)) (own := [("what", 17)]) (by decide +kernel)) (fun _ _ _ _ _ => (mg_name (i := 17) sc_law.nd rfl (Or.inl rfl))) (fun _ _ _ _ _ => mts_nil) (fun _ _ _ _ _ => (me_call (ps := ["what", "loads", "some"]) (ok__law_do T) (hr.mono (by decide)) (by rfl) T.m__law_do T.F__law_do.kp (bi__law_do T) takesWF (ma_cons (me_v 17) (ma_cons (me_v 15) (ma_cons me_non ma_nil)))))) (me_mulA (me_lst (ma_cons me_str ma_nil)) me_int)) (mss_one (ms_ret me_bl)) mss_nil) (mss_one (ms_if (mt_ne hr (me_lst (ma_cons (me_call (ps := ["what", "loads", "some"]) (ok__law_do T) (hr.mono (by decide)) (by rfl) T.m__law_do T.F__law_do.kp (bi__law_do T) tk (ma_cons me_int (ma_cons (me_v 15) (ma_cons me_int ma_nil)))) (ma_cons (me_call (ps := ["what", "loads", "some"]) (ok__law_do T) (hr.mono (by decide)) (by rfl) T.m__law_do T.F__law_do.kp (bi__law_do T) tk (ma_cons me_int (ma_cons (me_v 15) (ma_cons (me_tup ma_nil) ma_nil)))) (ma_cons (me_call (ps := ["what", "loads", "some"]) (ok__law_do T) (hr.mono (by decide)) (by rfl) T.m__law_do T.F__law_do.kp (bi__law_do T) tk (ma_cons me_int (ma_cons (me_v 15) (ma_cons (me_tup (ma_cons me_int ma_nil)) ma_nil)))) ma_nil)))) (me_mulA (me_lst (ma_cons me_str ma_nil)) me_int)) (mss_one (ms_ret me_bl)) mss_nil)))) (mss_cons (ms_for (vs := [15]) po (by rfl) (mi_seq (me_tup (ma_cons me_non (ma_cons (me_lst (ma_cons me_int ma_nil)) (ma_cons (me_tup (ma_cons me_int (ma_cons me_int (ma_cons me_int ma_nil)))) (ma_cons (me_tup (ma_cons (me_neg me_int) ma_nil)) (ma_cons (me_tup (ma_cons me_int ma_nil)) (ma_cons (me_tup (ma_cons me_bl ma_nil)) (ma_cons (me_tup (ma_cons me_non ma_nil)) (ma_cons me_int ma_nil)))))))))) (mg_name (i := 15) sc_law.nd rfl (Or.inr rfl)) (mss_one (ms_if (mt_ne hr (me_lc (own := [("what", 17)]) (by rfl) sc_law.nd (mi_seq (me_tup (ma_cons me_int (ma_cons me_int ma_nil)))) (blkOk_by (N := N_law) (sc := (defScope s_law)) (own := [("what", 17)]) (by decide +kernel)) (fun _ _ _ _ _ => (mg_name (i := 17) sc_law.nd rfl (Or.inl rfl))) (fun _ _ _ _ _ => mts_nil) (fun _ _ _ _ _ => (me_call (ps := ["what", "loads", "some"]) (ok__law_do T) (hr.mono (by decide)) (by rfl) T.m__law_do T.F__law_do.kp (bi__law_do T) takesWF (ma_cons (me_v 17) (ma_cons (me_v 3) (ma_cons (me_v 15) ma_nil)))))) (me_mulA (me_lst (ma_cons me_str ma_nil)) me_int)) (mss_one (ms_ret me_bl)) mss_nil))) (mss_cons (ms_if (mt_ne hr (me_lc (own := [("bad", 15)]) (by rfl) sc_law.nd (mi_seq (me_tup (ma_cons (me_neg me_int) (ma_cons me_int (ma_cons me_non (ma_cons me_bl (ma_cons (me_tup (ma_cons me_int ma_nil)) (ma_cons me_str ma_nil)))))))) (blkOk_by (N := N_law) (sc := (defScope s_law)) (own := [("bad", 15)]) (by decide +kernel)) (fun _ _ _ _ _ => (mg_name (i := 15) sc_law.nd rfl (Or.inl rfl))) (fun _ _ _ _ _ => mts_nil) (fun _ _ _ _ _ => (me_call (ps := ["what", "loads", "some"]) (ok__law_do T) (hr.mono (by decide)) (by rfl) T.m__law_do T.F__law_do.kp (bi__law_do T) takesWF (ma_cons me_int (ma_cons (me_v 3) (ma_cons (me_v 15) ma_nil)))))) (me_mulA (me_lst (ma_cons me_str ma_nil)) me_int)) (mss_one (ms_ret me_bl)) mss_nil) (mss_one (ms_ret (me_and (me_eq hr (me_call (ps := ["what", "loads", "some"]) (ok__law_do T) (hr.mono (by decide)) (by rfl) T.m__law_do T.F__law_do.kp (bi__law_do T) tk (ma_cons me_int (ma_cons (me_mulA (me_tup (ma_cons me_int ma_nil)) me_int) (ma_cons me_non ma_nil)))) me_int) (me_one (me_eq hr (me_call (ps := ["what", "loads", "some"]) (ok__law_do T) (hr.mono (by decide)) (by rfl) T.m__law_do T.F__law_do.kp (bi__law_do T) tk (ma_cons me_int (ma_cons (me_add (me_mulA (me_tup (ma_cons me_int ma_nil)) me_int) (me_mulA (me_tup (ma_cons me_int ma_nil)) me_int)) (ma_cons me_non ma_nil)))) me_int)))))))))))))))))))))))
end
end Lw
namespace Lw
open PySem PySem.Spec PyProof.Rows L2 Mi
open Mi.Da (toD)
theorem F_is_whole_int (x lo hi : Int) : F_is_whole [.int x, .int lo, .int hi] = .ok (.bl (decide (lo ≤ x) && decide (x ≤ hi))) := by
  unfold F_is_whole b_is_whole
  simp
  by_cases h : lo ≤ x <;> simp [h]
theorem F_cell_ok (ns : List Int) (k : Int) (hk : 0 ≤ k) : F__law_cell [.scr ns, .int k] = .ok (.int (cellN ns k)) := by
  unfold F__law_cell b__law_cell cellN
  simp
  by_cases h : k < ns.length
  · simp [h, oAt, atI_getD ns k hk h]
  · by_cases h2 : ns = []
    · subst h2
      have h' : ¬ k < 0 := by omega
      simp [h', pyEq_scr]
    · have hp : 0 < ns.length := List.length_pos_iff.mpr h2
      have h3 := atI_getD ns (k % ns.length) (Int.emod_nonneg _ (by omega)) (Int.emod_lt_of_pos _ (by omega))
      have hp' : (0 : Int) < ns.length := by omega
      simp [h, pyEq_scr, h2, oAt, hp, h3]
theorem F_pick_ok (ns : List Int) (k m : Int) (hk : 0 ≤ k) (hm : 0 < m) : F__law_pick [.scr ns, .int k, .int m] = .ok (.int (pick ns k m)) := by
  unfold F__law_pick b__law_pick pick
  have hd : small ((cellN ns k + 6151 * (k + 1)) * 40692 % 2147483399) = true := by
    rw [small_iff]
    have h1 := Int.emod_nonneg ((cellN ns k + 6151 * (k + 1)) * 40692) (show (2147483399 : Int) ≠ 0 by decide)
    have h2 := Int.emod_lt_of_pos ((cellN ns k + 6151 * (k + 1)) * 40692) (show (0 : Int) < 2147483399 by decide)
    omega
  simp [F_cell_ok ns k hk, hd, hm]
theorem F_look_loads_ok (xs : List Int) (hl : 3 ≤ xs.length ∧ xs.length ≤ 16) (h : ∀ x ∈ xs, 0 ≤ x ∧ x ≤ 999) : F_look_loads [.tup (xs.map D.int)] = .ok .non := by
  have hc : compM (gN 1) bYes ce1_look_loads [some (.tup (xs.map D.int)), none] (xs.map D.int) = M.ret (xs.map fun _ => D.bl true) :=
    compM_on D.int (fun _ => D.bl true) xs fun x hx => ⟨_, rfl, by unfold ce1_look_loads; simp [F_is_whole_int, h x hx]⟩
  have hb : bools? (xs.map fun _ => D.bl true) = some (xs.map fun _ => true) := by rw [← bools_map, List.map_map]; rfl
  have h1 : (3 : Int) ≤ xs.length := by omega
  have h2 : (xs.length : Int) ≤ 16 := by omega
  unfold F_look_loads b_look_loads
  simp [eLc, wipeE, hc, hb, h1, h2, show xs.length ≤ 1000000 by omega]
theorem F_look_some_ok (xs : List Int) (hl : xs.length ≤ 2) (h : ∀ x ∈ xs, 0 ≤ x ∧ x ≤ 999) : F_look_some [.tup (xs.map D.int)] = .ok .non := by
  have hc : compM (gN 1) bYes ce1_look_some [some (.tup (xs.map D.int)), none] (xs.map D.int) = M.ret (xs.map fun _ => D.bl true) :=
    compM_on D.int (fun _ => D.bl true) xs fun x hx => ⟨_, rfl, by unfold ce1_look_some; simp [F_is_whole_int, h x hx]⟩
  have hb : bools? (xs.map fun _ => D.bl true) = some (xs.map fun _ => true) := by rw [← bools_map, List.map_map]; rfl
  have h1 : ¬ (2 : Int) < xs.length := by omega
  unfold F_look_some b_look_some
  simp [eLc, wipeE, hc, hb, h1, show xs.length ≤ 1000000 by omega]
theorem F_tilt_of_ok (xs : List Int) (hl : 3 ≤ xs.length ∧ xs.length ≤ 16) : F_tilt_of [.tup (xs.map D.int)] = .ok (.int (tiltT xs)) := by
  have hh : (xs.length : Int) / 2 = ((xs.length / 2 : Nat) : Int) := by omega
  have l3 : xs.length + xs.length + xs.length ≤ sizeLine := sz1000 (by omega)
  have l2 : xs.length + xs.length ≤ sizeLine := sz1000 (by omega)
  have hc : compM (gN 3) bYes ce1_tilt_of [some (.tup (xs.map D.int)), some (.int (xs.length / 2)), some (.tup (xs.map D.int ++ (xs.map D.int ++ xs.map D.int))), none] (rangeD 0 xs.length) = M.ret (((List.range xs.length).map (dif xs)).map D.int) := by
    rw [rangeD_map, List.map_map, hh]
    refine compM_on _ _ _ fun a ha => ⟨_, rfl, ?_⟩
    have ha' : a < xs.length := List.mem_range.mp ha
    have w1 := sum_win3 xs a (xs.length / 2) (by omega)
    have w2 := sum_win3 xs (a + xs.length / 2) (xs.length / 2) (by omega)
    have hT : xs.map D.int ++ (xs.map D.int ++ xs.map D.int) = (xs ++ xs ++ xs).map D.int := by simp
    have c1 : cutD (xs.map D.int ++ (xs.map D.int ++ xs.map D.int)) (some (a : Int)) (some ((a : Int) + ((xs.length / 2 : Nat) : Int))) = (((xs ++ xs ++ xs).drop a).take (xs.length / 2)).map D.int := by
      rw [hT, cut_mid _ _ _ (by omega) (by omega), List.map_take, List.map_drop]
      congr 1; omega
    have c2 : cutD (xs.map D.int ++ (xs.map D.int ++ xs.map D.int)) (some ((a : Int) + ((xs.length / 2 : Nat) : Int))) (some ((a : Int) + 2 * ((xs.length / 2 : Nat) : Int))) = (((xs ++ xs ++ xs).drop (a + xs.length / 2)).take (xs.length / 2)).map D.int := by
      rw [hT, cut_mid _ _ _ (by omega) (by omega), List.map_take, List.map_drop]
      have : ((a : Int) + ((xs.length / 2 : Nat) : Int)).toNat = a + xs.length / 2 := by omega
      rw [this]
      congr 1; omega
    generalize xs.map D.int ++ (xs.map D.int ++ xs.map D.int) = T at c1 c2 ⊢
    generalize ((xs ++ xs ++ xs).drop a).take (xs.length / 2) = A1 at c1 w1
    generalize ((xs ++ xs ++ xs).drop (a + xs.length / 2)).take (xs.length / 2) = A2 at c2 w2
    generalize ((xs.length / 2 : Nat) : Int) = hf at c1 c2 ⊢
    unfold ce1_tilt_of
    simp [c1, c2, w1, w2, dif, absI]
  obtain ⟨x, r, e1, e2⟩ := fold_max (f := dif xs) (fun a => absI_nonneg _) xs.length (by omega)
  rw [e1] at hc
  have hm : maxL ((x :: r).map D.int) = M.ret (.int (tiltT xs)) := by
    unfold maxL
    rw [ints_map']
    dsimp only
    rw [e2]
    rfl
  unfold F_tilt_of b_tilt_of
  rw [List.map_cons] at hm hc
  simp [-maxL, eLc, wipeE, hc, l2, hm, big62_nat xs.length (by omega), show xs.length ≤ 1000000 by omega, show xs.length + (xs.length + xs.length) ≤ sizeLine by omega]
  intro h
  omega
theorem F_tilt_ok (xs : List Int) (hl : 3 ≤ xs.length ∧ xs.length ≤ 16) (h : ∀ x ∈ xs, 0 ≤ x ∧ x ≤ 999) : F_tilt [.tup (xs.map D.int)] = .ok (.int (tiltT xs)) := by
  unfold F_tilt b_tilt
  simp [F_look_loads_ok xs hl h, F_tilt_of_ok xs hl, clean, clean_ints]
theorem F_ltilt_ok (xs : List Int) (hl : 3 ≤ xs.length ∧ xs.length ≤ 16) : F__law_tilt [.tup (xs.map D.int)] = .ok (.int (tiltT xs)) := by
  have hh : (xs.length : Int) / 2 = ((xs.length / 2 : Nat) : Int) := by omega
  have L := loop_on (g := gN 3) (s := lb1__law_tilt) (fun (i : Nat) => D.int (i : Int)) (fun (v : Int) ρ ω => ∃ o3 o4 o5, ρ = [some (.tup (xs.map D.int)), some (.int xs.length), some (.int v), o3, o4, o5, none] ∧ ω = [])
    (fun v a => max v (dif xs a)) (List.range xs.length) 0 [some (.tup (xs.map D.int)), some (.int xs.length), some (.int 0), none, none, none, none] [] ?_ ⟨_, _, _, rfl, rfl⟩
  · obtain ⟨ρ', ω', e, o3, o4, o5, rfl, rfl⟩ := L
    unfold F__law_tilt b__law_tilt
    simp [sFor, big62_nat xs.length (by omega), rangeD_map, e]
    rfl
  · rintro a ha v ρ ω ⟨o3, o4, o5, rfl, rfl⟩
    have ha' : a < xs.length := List.mem_range.mp ha
    have c1 : ∀ o4 o5, compM (gN 6) bYes ce1__law_tilt [some (.tup (xs.map D.int)), some (.int xs.length), some (.int v), some (.int a), o4, o5, none] (rangeD 0 (xs.length / 2)) = M.ret (((List.range (xs.length / 2)).map fun k => nth xs ((a + k) % xs.length)).map D.int) := by
      intro o4 o5
      rw [rangeD_map, List.map_map]
      refine compM_on _ _ _ fun k hk => ⟨_, rfl, ?_⟩
      have hm : (a + k) % xs.length < xs.length := Nat.mod_lt _ (by omega)
      have e := oAt_nat xs ((a + k) % xs.length) hm
      rw [cast_mod, Int.natCast_add] at e
      unfold ce1__law_tilt
      simp [e, show 0 < xs.length by omega]
    have c2 : ∀ o4 o5, compM (gN 6) bYes ce2__law_tilt [some (.tup (xs.map D.int)), some (.int xs.length), some (.int v), some (.int a), o4, o5, none] (rangeD 0 (xs.length / 2)) = M.ret (((List.range (xs.length / 2)).map fun k => nth xs ((a + xs.length / 2 + k) % xs.length)).map D.int) := by
      intro o4 o5
      rw [rangeD_map, List.map_map]
      refine compM_on _ _ _ fun k hk => ⟨_, rfl, ?_⟩
      have hm : (a + xs.length / 2 + k) % xs.length < xs.length := Nat.mod_lt _ (by omega)
      have e := oAt_nat xs ((a + xs.length / 2 + k) % xs.length) hm
      rw [cast_mod, Int.natCast_add, Int.natCast_add, ← hh] at e
      unfold ce2__law_tilt
      simp [e, show 0 < xs.length by omega]
    have w1 : ((List.range (xs.length / 2)).map fun k => nth xs ((a + k) % xs.length)).sum = win xs a (xs.length / 2) := rfl
    have w2 : ((List.range (xs.length / 2)).map fun k => nth xs ((a + xs.length / 2 + k) % xs.length)).sum = win xs (a + xs.length / 2) (xs.length / 2) := rfl
    refine ⟨_, _, _, rfl, ?_, some (.int a), some (.int (win xs a (xs.length / 2))), some (.int (win xs (a + xs.length / 2) (xs.length / 2))), rfl, rfl⟩
    have hb := big62_nat (xs.length / 2) (by omega)
    rw [← hh] at hb
    have e2 : ((xs.length : Int) / 2).toNat = xs.length / 2 := by omega
    generalize hA : (List.range (xs.length / 2)).map (fun k => nth xs ((a + k) % xs.length)) = A1 at c1 w1
    generalize hB : (List.range (xs.length / 2)).map (fun k => nth xs ((a + xs.length / 2 + k) % xs.length)) = A2 at c2 w2
    unfold lb1__law_tilt
    simp [eLc, wipeE, hb, e2, c1, c2, w1, w2, show xs.length / 2 ≤ 1000000 by omega]
    unfold dif absI
    split <;> omega
theorem F_with_load_ok (xs : List Int) (s : Nat) (v : Int) (hs : s < xs.length) (hl : xs.length ≤ 100) : F_with_load [.tup (xs.map D.int), .int s, .int v] = .ok (.tup ((addAt xs s v).map D.int)) := by
  have e1 : cutD (xs.map D.int) none (some (s : Int)) = (xs.take s).map D.int := by rw [cut_to _ _ (by omega), List.map_take]; rfl
  have e2 : cutD (xs.map D.int) (some ((s : Int) + 1)) none = (xs.drop (s + 1)).map D.int := by rw [cut_from _ _ (by omega), List.map_drop]; rfl
  have e3 := oAt_nat xs s hs
  have l1 : min s xs.length + 1 ≤ sizeLine := sz1000 (by omega)
  have l2 : min s xs.length + 1 + (xs.length - (s + 1)) ≤ sizeLine := sz1000 (by omega)
  have cl := clean_ints (addAt xs s v)
  rw [← addAt_cut xs s v hs, List.map_append, List.map_append] at cl
  rw [← addAt_cut xs s v hs, List.map_append, List.map_append]
  generalize hA : (xs.take s).map D.int = A1 at *
  generalize hB : (xs.drop (s + 1)).map D.int = A2 at *
  have lA : A1.length = min s xs.length := by rw [← hA]; simp
  have lB : A2.length = xs.length - (s + 1) := by rw [← hB]; simp
  have m1 : A1.length + 1 ≤ sizeLine := by rw [lA]; exact l1
  have m2 : A1.length + (A2.length + 1) ≤ sizeLine := by rw [lA, lB]; omega
  have m3 : A1.length + 1 + A2.length ≤ sizeLine := by rw [lA, lB]; omega
  unfold F_with_load b_with_load
  simp at cl
  simp [e1, e2, e3, m1, m2, m3, clean, cl]
theorem toD_pl (p : Tu Int × Tu Int) : (toD p : D) = .tup [.tup (p.1.l.map D.int), .tup (p.2.l.map D.int)] := rfl
theorem puts_turn (n : Nat) (load : Int) (made : List (Tu Int × Tu Int)) (a0 a1 : Option D) (xs : List D) (hx : a0 = some (.tup xs)) (hn : xs.length = n) (hn2 : n ≤ 16) (hm : ∀ p ∈ made, p.2.l.length = n ∧ p.1.l.length ≤ 2) (hl : made.length ≤ 1000) (md : Option D) (o5 o6 : Option D) (ω0 : List Cell) :
    ∃ p5 p6, loopS (gTp 2 (gsCons (gN 5) (gsCons (gN 6) gsNil))) lb1_puts (made.map toD) [a0, a1, md, some (.int load), some (.cell ω0.length), o5, o6, none] (ω0 ++ [.lst []]) = .next [a0, a1, md, some (.int load), some (.cell ω0.length), p5, p6, none] (ω0 ++ [.lst ((stepP n made load).map toD)]) := by
  have := loop_ix (g := gTp 2 (gsCons (gN 5) (gsCons (gN 6) gsNil))) (s := lb1_puts) toD (fun i (v : List (Tu Int × Tu Int)) ρ ω => v.length ≤ i * 16 ∧ ω = ω0 ++ [.lst (v.map toD)] ∧ ∃ p5 p6, ρ = [a0, a1, md, some (.int load), some (.cell ω0.length), p5, p6, none])
    (fun v p => v ++ (List.range n).map fun (s : Nat) => ((⟨p.1.l ++ [(s : Int)]⟩ : Tu Int), (⟨addAt p.2.l s load⟩ : Tu Int))) made 0 [] [a0, a1, md, some (.int load), some (.cell ω0.length), o5, o6, none] (ω0 ++ [.lst []]) ?_ ⟨by simp, rfl, _, _, rfl⟩
  · obtain ⟨ρ', ω', e, -, rfl, p5, p6, rfl⟩ := this
    refine ⟨p5, p6, ?_⟩
    rw [e]
    have key : ∀ (m v : List (Tu Int × Tu Int)), m.foldl (fun v p => v ++ (List.range n).map fun (s : Nat) => ((⟨p.1.l ++ [(s : Int)]⟩ : Tu Int), (⟨addAt p.2.l s load⟩ : Tu Int))) v = v ++ stepP n m load := by
      intro m
      induction m with
      | nil => intro v; simp [stepP]
      | cons p m ih => intro v; rw [List.foldl_cons, ih]; simp [stepP]
    rw [key, List.nil_append]
  · rintro j p v ρ ω hp ⟨hv, rfl, p5, p6, rfl⟩
    have hj : j < made.length := (List.getElem?_eq_some_iff.mp hp).1
    obtain ⟨h1, h2⟩ := hm p (List.mem_of_getElem? hp)
    subst hx
    have hc : compM (gN 7) bYes ce1_puts [some (.tup xs), a1, md, some (.int load), some (.cell ω0.length), some (.tup (p.1.l.map D.int)), some (.tup (p.2.l.map D.int)), none] (rangeD 0 n) = M.ret ((List.range n).map fun (s : Nat) => (toD ((⟨p.1.l ++ [(s : Int)]⟩ : Tu Int), (⟨addAt p.2.l s load⟩ : Tu Int)) : D)) := by
      rw [rangeD_map]
      refine compM_on _ _ _ fun s hs => ⟨_, rfl, ?_⟩
      have hs' : s < n := List.mem_range.mp hs
      unfold ce1_puts
      have l1 : p.1.l.length + 1 ≤ sizeLine := sz1000 (by omega)
      simp [F_with_load_ok p.2.l s load (by omega) (by omega), clean, clean_ints, toD_pl, l1]
    have he : (v.map toD : List D).length + ((List.range n).map fun (s : Nat) => (toD ((⟨p.1.l ++ [(s : Int)]⟩ : Tu Int), (⟨addAt p.2.l s load⟩ : Tu Int)) : D)).length ≤ 1000000 := by
      simp; omega
    refine ⟨_, _, _, rfl, ?_, ?_, rfl, some (.tup (p.1.l.map D.int)), some (.tup (p.2.l.map D.int)), rfl⟩
    · have e1 : (([some (.tup xs), a1, md, some (.int load), some (.cell ω0.length), p5, p6, none] : Mi.Env).set 5 (some (toD p.1))).set 6 (some (toD p.2)) = [some (.tup xs), a1, md, some (.int load), some (.cell ω0.length), some (.tup (p.1.l.map D.int)), some (.tup (p.2.l.map D.int)), none] := rfl
      have e2 : (v ++ (List.range n).map fun (s : Nat) => ((⟨p.1.l ++ [(s : Int)]⟩ : Tu Int), (⟨addAt p.2.l s load⟩ : Tu Int))).map (toD : Tu Int × Tu Int → D) = v.map toD ++ (List.range n).map fun (s : Nat) => (toD ((⟨p.1.l ++ [(s : Int)]⟩ : Tu Int), (⟨addAt p.2.l s load⟩ : Tu Int)) : D) := by
        rw [List.map_append, List.map_map]; rfl
      have e3 := kExtend_ _ _ he
      rw [e1, e2]
      generalize (List.range n).map (fun (s : Nat) => (toD ((⟨p.1.l ++ [(s : Int)]⟩ : Tu Int), (⟨addAt p.2.l s load⟩ : Tu Int)) : D)) = A1 at hc e3 ⊢
      unfold lb1_puts
      simp [eLc, wipeE, hn, big62_nat n (by omega), hc, show n ≤ 1000000 by omega, e3]
    · simp; omega
theorem F_puts_ok (xs ls : List Int) (hx : xs.length ≤ 16) (hl : ls.length ≤ 2) : F_puts [.tup (xs.map D.int), .tup (ls.map D.int)] = .ok (.lst ((putsT xs ls).map toD)) := by
  have L := loop_ix (g := gN 3) (s := lb2_puts) D.int (fun i (v : List (Tu Int × Tu Int)) ρ ω => i ≤ 2 ∧ v.length ≤ 16 ^ i ∧ (∀ p ∈ v, p.2.l.length = xs.length ∧ p.1.l.length ≤ i) ∧ ∃ o3 o4 o5 o6, ρ = [some (.tup (xs.map D.int)), some (.tup (ls.map D.int)), some (.lst (v.map toD)), o3, o4, o5, o6, none])
    (stepP xs.length) ls 0 [(⟨[]⟩, ⟨xs⟩)] [some (.tup (xs.map D.int)), some (.tup (ls.map D.int)), some (.lst ([((⟨[]⟩ : Tu Int), (⟨xs⟩ : Tu Int))].map toD)), none, none, none, none, none] [] ?_ ⟨by omega, by simp, by simp, _, _, _, _, rfl⟩
  · obtain ⟨ρ', ω', e, -, -, -, o3, o4, o5, o6, rfl⟩ := L
    unfold F_puts b_puts putsT
    simp [toD_pl] at e
    simp [sFor, e, clean, cleanL_map]
  · rintro j load v ρ ω hj ⟨hi, hv, hp, o3, o4, o5, o6, rfl⟩
    have hj' : j < ls.length := (List.getElem?_eq_some_iff.mp hj).1
    have hv2 : v.length ≤ 256 := by
      have : 0 + j = 0 ∨ 0 + j = 1 := by omega
      rcases this with e | e <;> rw [e] at hv <;> omega
    obtain ⟨p5, p6, e⟩ := puts_turn xs.length load v (some (.tup (xs.map D.int))) (some (.tup (ls.map D.int))) (xs.map D.int) rfl (by simp) hx (fun p hp' => ⟨(hp p hp').1, by have := (hp p hp').2; omega⟩) (by omega) (some (.lst (v.map toD))) o5 o6 ω
    refine ⟨_, _, ω ++ [.dead], rfl, ?_, by omega, ?_, ?_, some (.int load), some (.cell ω.length), p5, p6, rfl⟩
    · unfold lb2_puts
      simp [sFor, e]
    · rw [step_len, Nat.pow_succ]
      exact Nat.mul_le_mul hv hx
    · intro q hq
      obtain ⟨p, hp', s, hs, rfl⟩ := mem_step.mp hq
      have := hp p hp'
      simp
      omega
theorem toD_bt (p : Int × Tu Int) : (toD p : D) = .tup [.int p.1, .tup (p.2.l.map D.int)] := rfl
theorem puts_facts (xs ls : List Int) (hl : ls.length ≤ 2) (hx : xs.length ≤ 16) (hp : 0 < xs.length) : putsT xs ls ≠ [] ∧ (putsT xs ls).length ≤ 1000 ∧ ∀ p ∈ putsT xs ls, p.2.l.length = xs.length := by
  match ls, hl with
  | [], _ => exact ⟨by simp [putsT], by simp [putsT], fun p h => by rw [mem_puts0.mp h]⟩
  | [u], _ =>
    have e : (putsT xs [u]).length = 1 * xs.length := step_len _ _ _
    refine ⟨fun z => by rw [z] at e; simp at e; omega, by omega, fun p h => ?_⟩
    obtain ⟨s, _, rfl⟩ := mem_puts1.mp h
    simp
  | [u, v], _ =>
    have e1 : (putsT xs [u]).length = 1 * xs.length := step_len _ _ _
    have e : (putsT xs [u, v]).length = (putsT xs [u]).length * xs.length := step_len _ _ _
    rw [e1, Nat.one_mul] at e
    have h1 : xs.length * xs.length ≤ 16 * 16 := Nat.mul_le_mul hx hx
    have h2 : 0 < xs.length * xs.length := Nat.mul_pos hp hp
    refine ⟨fun z => by rw [z] at e; simp at e; omega, by omega, fun p h => ?_⟩
    obtain ⟨s, s', _, _, rfl⟩ := mem_puts2.mp h
    simp
  | _ :: _ :: _ :: _, h => exact absurd h (by simp)
theorem F_best_of_ok (xs ls : List Int) (hx : 3 ≤ xs.length ∧ xs.length ≤ 16) (hl : ls.length ≤ 2) : F_best_of [.tup (xs.map D.int), .tup (ls.map D.int)] = .ok (toD (bestT xs ls)) := by
  obtain ⟨h1, h2, h3⟩ := puts_facts xs ls hl hx.2 (by omega)
  have hc : compM (gTp 2 (gsCons (gN 2) (gsCons (gN 3) gsNil))) bYes ce1_best_of [some (.tup (xs.map D.int)), some (.tup (ls.map D.int)), none, none] ((putsT xs ls).map toD) = M.ret ((listB xs ls).map toD) := by
    unfold listB
    rw [List.map_map]
    refine compM_on _ _ _ fun p hp => ⟨_, rfl, ?_⟩
    have e1 : (([some (.tup (xs.map D.int)), some (.tup (ls.map D.int)), none, none] : Mi.Env).set 2 (some (toD p.1))).set 3 (some (toD p.2)) = [some (.tup (xs.map D.int)), some (.tup (ls.map D.int)), some (.tup (p.1.l.map D.int)), some (.tup (p.2.l.map D.int))] := rfl
    have e2 : ((toD ∘ fun (p : Tu Int × Tu Int) => ((tiltT p.2.l, p.1) : Int × Tu Int)) p : D) = .tup [.int (tiltT p.2.l), .tup (p.1.l.map D.int)] := rfl
    rw [e1, e2]
    unfold ce1_best_of
    simp [F_tilt_of_ok p.2.l (by rw [h3 p hp]; exact hx), clean, clean_ints]
  have hm := minL_of (listB xs ls) (by unfold listB; simpa using h1) (by decide)
  have hlen : (listB xs ls).length = (putsT xs ls).length := by unfold listB; simp
  unfold F_best_of b_best_of
  have cl : clean (toD (bestT xs ls)) = true := Da.cl _
  unfold bestT at *
  simp [clean, clean_ints, F_puts_ok xs ls hx.2 hl, eLc, wipeE, hc, hm, cl, show (putsT xs ls).length ≤ 1000000 by omega]
theorem F_best_put_ok (xs ls : List Int) (hx : 3 ≤ xs.length ∧ xs.length ≤ 16) (h : ∀ x ∈ xs, 0 ≤ x ∧ x ≤ 999) (hl : ls.length ≤ 2) (h' : ∀ x ∈ ls, 0 ≤ x ∧ x ≤ 999) : F_best_put [.tup (xs.map D.int), .tup (ls.map D.int)] = .ok (.tup ((bestT xs ls).2.l.map D.int)) := by
  unfold F_best_put b_best_put
  simp [F_look_loads_ok xs hx h, F_look_some_ok ls hl h', F_best_of_ok xs ls hx hl, clean, clean_ints, toD_bt]
theorem F_least_tilt_ok (xs ls : List Int) (hx : 3 ≤ xs.length ∧ xs.length ≤ 16) (h : ∀ x ∈ xs, 0 ≤ x ∧ x ≤ 999) (hl : ls.length ≤ 2) (h' : ∀ x ∈ ls, 0 ≤ x ∧ x ≤ 999) : F_least_tilt [.tup (xs.map D.int), .tup (ls.map D.int)] = .ok (.int (bestT xs ls).1) := by
  unfold F_least_tilt b_least_tilt
  simp [F_look_loads_ok xs hx h, F_look_some_ok ls hl h', F_best_of_ok xs ls hx hl, clean, clean_ints, toD_bt]
theorem F_best_shelf_ok (xs : List Int) (v : Int) (s : Int) (hx : 3 ≤ xs.length ∧ xs.length ≤ 16) (h : ∀ x ∈ xs, 0 ≤ x ∧ x ≤ 999) (h' : 0 ≤ v ∧ v ≤ 999) (hs : (bestT xs [v]).2.l = [s]) : F_best_shelf [.tup (xs.map D.int), .int v] = .ok (.int s) := by
  have e1 := F_look_some_ok [v] (by simp) (by simpa using h')
  have e2 := F_best_of_ok xs [v] hx (by simp)
  simp at e1 e2
  unfold F_best_shelf b_best_shelf
  simp [F_look_loads_ok xs hx h, e1, e2, clean, cleanL, clean_ints, toD_bt, hs]
end Lw
namespace Lw
open PySem PySem.Spec PyProof.Rows L2 Mi
open Mi.Da (toD)
theorem do0 {a b d : D} (h : F_tilt [a] = .ok d) (hc : cleanL [a, b] = true) (hd : clean d = true) : F__law_do [.int 0, a, b] = .ok d := by
  simp at hc
  unfold F__law_do b__law_do
  simp [sTryK, tb1__law_do, h, hc, hd]
theorem do0x {a b : D} {x w : Str} (h : F_tilt [a] = .raise x) (hc : cleanL [a, b] = true) (hw : wordOf x = some w) : F__law_do [.int 0, a, b] = .ok (.str w) := by
  simp at hc
  unfold F__law_do b__law_do
  simp [sTryK, tb1__law_do, h, hc, hw]
theorem do1 {a b d : D} (h : F_best_shelf [a, b] = .ok d) (hc : cleanL [a, b] = true) (hd : clean d = true) : F__law_do [.int 1, a, b] = .ok d := by
  simp at hc
  unfold F__law_do b__law_do
  simp [sTryK, tb1__law_do, h, hc, hd]
theorem do1x {a b : D} {x w : Str} (h : F_best_shelf [a, b] = .raise x) (hc : cleanL [a, b] = true) (hw : wordOf x = some w) : F__law_do [.int 1, a, b] = .ok (.str w) := by
  simp at hc
  unfold F__law_do b__law_do
  simp [sTryK, tb1__law_do, h, hc, hw]
theorem do2 {a b d : D} (h : F_best_put [a, b] = .ok d) (hc : cleanL [a, b] = true) (hd : clean d = true) : F__law_do [.int 2, a, b] = .ok d := by
  simp at hc
  unfold F__law_do b__law_do
  simp [sTryK, tb1__law_do, h, hc, hd]
theorem do2x {a b : D} {x w : Str} (h : F_best_put [a, b] = .raise x) (hc : cleanL [a, b] = true) (hw : wordOf x = some w) : F__law_do [.int 2, a, b] = .ok (.str w) := by
  simp at hc
  unfold F__law_do b__law_do
  simp [sTryK, tb1__law_do, h, hc, hw]
theorem do3 {a b d : D} (h : F_least_tilt [a, b] = .ok d) (hc : cleanL [a, b] = true) (hd : clean d = true) : F__law_do [.int 3, a, b] = .ok d := by
  simp at hc
  unfold F__law_do b__law_do
  simp [sTryK, tb1__law_do, h, hc, hd]
theorem do3x {a b : D} {x w : Str} (h : F_least_tilt [a, b] = .raise x) (hc : cleanL [a, b] = true) (hw : wordOf x = some w) : F__law_do [.int 3, a, b] = .ok (.str w) := by
  simp at hc
  unfold F__law_do b__law_do
  simp [sTryK, tb1__law_do, h, hc, hw]
theorem w_l : wordOf "NoLoad" = some "no load" := by decide +kernel
/-! what is refused -/
theorem tilt_x {a : D} (h : F_look_loads [a] = .raise "NoLoad") (c : clean a = true) : F_tilt [a] = .raise "NoLoad" := by unfold F_tilt b_tilt; simp [h, c]
theorem shelf_x {a b : D} (h : F_look_loads [a] = .raise "NoLoad") (c : clean a = true) : F_best_shelf [a, b] = .raise "NoLoad" := by unfold F_best_shelf b_best_shelf; simp [h, c]
theorem put_x {a b : D} (h : F_look_loads [a] = .raise "NoLoad") (c : clean a = true) : F_best_put [a, b] = .raise "NoLoad" := by unfold F_best_put b_best_put; simp [h, c]
theorem least_x {a b : D} (h : F_look_loads [a] = .raise "NoLoad") (c : clean a = true) : F_least_tilt [a, b] = .raise "NoLoad" := by unfold F_least_tilt b_least_tilt; simp [h, c]
theorem shelf_y {a b : D} (h0 : F_look_loads [a] = .ok .non) (ca : clean a = true) (h : F_look_some [.tup [b]] = .raise "NoLoad") (c : clean b = true) : F_best_shelf [a, b] = .raise "NoLoad" := by unfold F_best_shelf b_best_shelf; simp [h0, ca, h, c]
theorem put_y {a b : D} (h0 : F_look_loads [a] = .ok .non) (ca : clean a = true) (h : F_look_some [b] = .raise "NoLoad") (c : clean b = true) : F_best_put [a, b] = .raise "NoLoad" := by unfold F_best_put b_best_put; simp [h0, ca, h, c]
theorem least_y {a b : D} (h0 : F_look_loads [a] = .ok .non) (ca : clean a = true) (h : F_look_some [b] = .raise "NoLoad") (c : clean b = true) : F_least_tilt [a, b] = .raise "NoLoad" := by unfold F_least_tilt b_least_tilt; simp [h0, ca, h, c]
def badL : List D := [.non, .tup [], .tup [.int 1, .int 2], .tup [.int 0, .int 0, .int 0, .int 0, .int 0, .int 0, .int 0, .int 0, .int 0, .int 0, .int 0, .int 0, .int 0, .int 0, .int 0, .int 0, .int 0], .lst [.int 1, .int 2, .int 3], .tup [.int 1, .int 2, .int (-1)], .tup [.int 1, .int 2, .int 1000], .tup [.int 1, .int 2, .bl true], .tup [.int 1, .int 2, .non], .str "123", .int 5]
theorem badL_ok : ∀ d ∈ badL, F_look_loads [d] = .raise "NoLoad" ∧ clean d = true := by
  intro d hd
  simp only [badL, List.mem_cons, List.not_mem_nil, or_false] at hd
  rcases hd with z | z | z | z | z | z | z | z | z | z | z <;> subst z <;> exact ⟨by kernel_rfl, rfl⟩
def badP : List D := [.non, .lst [.int 1], .tup [.int 1, .int 2, .int 3], .tup [.int (-1)], .tup [.int 1000], .tup [.bl true], .tup [.non], .int 5]
theorem badP_ok : ∀ d ∈ badP, F_look_some [d] = .raise "NoLoad" ∧ clean d = true := by
  intro d hd
  simp only [badP, List.mem_cons, List.not_mem_nil, or_false] at hd
  rcases hd with z | z | z | z | z | z | z | z <;> subst z <;> exact ⟨by kernel_rfl, rfl⟩
def badV : List D := [.int (-1), .int 1000, .non, .bl true, .tup [.int 1], .str "1"]
theorem badV_ok : ∀ d ∈ badV, F_look_some [.tup [d]] = .raise "NoLoad" ∧ clean d = true := by
  intro d hd
  simp only [badV, List.mem_cons, List.not_mem_nil, or_false] at hd
  rcases hd with z | z | z | z | z | z <;> subst z <;> exact ⟨by kernel_rfl, rfl⟩
def ev (ns : List Int) (size : Int) (o2 o3 o4 o5 o6 o7 o8 o9 o10 o11 o12 o13 o14 o15 : Option D) : Mi.Env := [some (.scr ns), some (.int size), o2, o3, o4, o5, o6, o7, o8, o9, o10, o11, o12, o13, o14, o15, none, none]
theorem lb4_ok (ns : List Int) (size : Int) (o2 o3 o4 o5 o6 o7 o8 o9 o10 o11 o12 o13 o14 : Option D) (ω : List Cell) (d : D) (hd : d ∈ badL) :
    lb4_law (ev ns size o2 o3 o4 o5 o6 o7 o8 o9 o10 o11 o12 o13 o14 (some d)) ω = .next (ev ns size o2 o3 o4 o5 o6 o7 o8 o9 o10 o11 o12 o13 o14 (some d)) ω := by
  obtain ⟨h1, h2⟩ := badL_ok d hd
  have c2 : cleanL [d, .non] = true := by simp [h2]
  have e0 := do0x (b := .non) (tilt_x h1 h2) c2 w_l
  have e1 := do1x (b := .non) (shelf_x h1 h2) c2 w_l
  have e2 := do2x (b := .non) (put_x h1 h2) c2 w_l
  have e3 := do3x (b := .non) (least_x h1 h2) c2 w_l
  have e4 := do1x (b := .int 5) (shelf_x h1 h2) (by simp [h2]) w_l
  have e5 := do2x (b := .tup []) (put_x h1 h2) (by simp [h2]) w_l
  have e6 := do3x (b := .tup [.int 5]) (least_x h1 h2) (by simp [h2]) w_l
  have hc : compM (gN 17) bYes ce5_law [some (.scr ns), some (.int size), o2, o3, o4, o5, o6, o7, o8, o9, o10, o11, o12, o13, o14, some d, none, none] (rangeD 0 4) = M.ret [.str "no load", .str "no load", .str "no load", .str "no load"] := by
    have : rangeD 0 4 = [0, 1, 2, 3].map D.int := rfl
    rw [this]
    refine (compM_on D.int (fun _ => .str "no load") [0, 1, 2, 3] fun t ht => ⟨_, rfl, ?_⟩).trans rfl
    simp at ht
    unfold ce5_law
    rcases ht with z | z | z | z <;> subst z
    · simp [e0, h2]
    · simp [e1, h2]
    · simp [e2, h2]
    · simp [e3, h2]
  have pe : pyEq (.lst [.str "no load", .str "no load", .str "no load", .str "no load"]) (.lst [.str "no load", .str "no load", .str "no load", .str "no load"]) = some true := by kernel_rfl
  have pe3 : pyEq (.lst [.str "no load", .str "no load", .str "no load"]) (.lst [.str "no load", .str "no load", .str "no load"]) = some true := by kernel_rfl
  have b3 : big62 4 = true := by decide
  have t4 : tiny 4 = true ∧ 4 ≤ sizeLine := by decide
  have t3 : tiny 3 = true ∧ 3 ≤ sizeLine := by decide
  unfold lb4_law ev
  simp [eLc, wipeE, hc, b3, pe, t4, t3, e4, e5, e6, h2, pe3]
theorem lb5_ok (ns : List Int) (size : Int) (ls : D) (hl : F_look_loads [ls] = .ok .non) (cl : clean ls = true) (o2 o4 o5 o6 o7 o8 o9 o10 o11 o12 o13 o14 : Option D) (ω : List Cell) (d : D) (hd : d ∈ badP) :
    lb5_law (ev ns size o2 (some ls) o4 o5 o6 o7 o8 o9 o10 o11 o12 o13 o14 (some d)) ω = .next (ev ns size o2 (some ls) o4 o5 o6 o7 o8 o9 o10 o11 o12 o13 o14 (some d)) ω := by
  obtain ⟨h1, h2⟩ := badP_ok d hd
  have c2 : cleanL [ls, d] = true := by simp [h2, cl]
  have e2 := do2x (put_y hl cl h1 h2) c2 w_l
  have e3 := do3x (least_y hl cl h1 h2) c2 w_l
  have hc : compM (gN 17) bYes ce6_law [some (.scr ns), some (.int size), o2, some ls, o4, o5, o6, o7, o8, o9, o10, o11, o12, o13, o14, some d, none, none] [.int 2, .int 3] = M.ret [.str "no load", .str "no load"] := by
    refine (compM_on D.int (fun _ => .str "no load") [2, 3] fun t ht => ⟨_, rfl, ?_⟩).trans rfl
    simp at ht
    unfold ce6_law
    rcases ht with z | z <;> subst z
    · simp [e2, h2, cl]
    · simp [e3, h2, cl]
  have pe : pyEq (.lst [.str "no load", .str "no load"]) (.lst [.str "no load", .str "no load"]) = some true := by kernel_rfl
  have t2 : tiny 2 = true ∧ 2 ≤ sizeLine := by decide
  unfold lb5_law ev
  simp [eLc, wipeE, hc, pe, t2]
theorem tail_ok (ns : List Int) (size : Int) (ls : D) (hl : F_look_loads [ls] = .ok .non) (cl : clean ls = true) (o2 o4 o5 o6 o7 o8 o9 o10 o11 o12 o13 o14 : Option D) (ω : List Cell) :
    t15_law (ev ns size o2 (some ls) o4 o5 o6 o7 o8 o9 o10 o11 o12 o13 o14 none) ω = .ret (.bl true) ω := by
  have L1 := loop_inv (g := gN 15) (s := lb4_law) (fun ρ ω' => ω' = ω ∧ ∃ o15, ρ = ev ns size o2 (some ls) o4 o5 o6 o7 o8 o9 o10 o11 o12 o13 o14 o15) badL (ev ns size o2 (some ls) o4 o5 o6 o7 o8 o9 o10 o11 o12 o13 o14 none) ω (by
    rintro d hd ρ ω ⟨rfl, o15, rfl⟩
    exact ⟨_, _, _, rfl, lb4_ok ns size o2 (some ls) o4 o5 o6 o7 o8 o9 o10 o11 o12 o13 o14 _ d hd, rfl, _, rfl⟩) ⟨rfl, _, rfl⟩
  obtain ⟨ρ1, ω1, l1, rfl, o15, rfl⟩ := L1
  have L2 := loop_inv (g := gN 15) (s := lb5_law) (fun ρ ω' => ω' = ω1 ∧ ∃ o15, ρ = ev ns size o2 (some ls) o4 o5 o6 o7 o8 o9 o10 o11 o12 o13 o14 o15) badP (ev ns size o2 (some ls) o4 o5 o6 o7 o8 o9 o10 o11 o12 o13 o14 o15) ω1 (by
    rintro d hd ρ ω ⟨rfl, o15, rfl⟩
    exact ⟨_, _, _, rfl, lb5_ok ns size ls hl cl o2 o4 o5 o6 o7 o8 o9 o10 o11 o12 o13 o14 _ d hd, rfl, _, rfl⟩) ⟨rfl, _, rfl⟩
  obtain ⟨ρ2, ω2, l2, rfl, o15', rfl⟩ := L2
  have hc : compM (gN 15) bYes ce7_law [some (.scr ns), some (.int size), o2, some ls, o4, o5, o6, o7, o8, o9, o10, o11, o12, o13, o14, none, none, none] badV = M.ret (badV.map fun _ => .str "no load") := by
    have := compM_on (g := gN 15) (e := ce7_law) (ρ := [some (.scr ns), some (.int size), o2, some ls, o4, o5, o6, o7, o8, o9, o10, o11, o12, o13, o14, none, none, none]) id (fun _ => .str "no load") badV fun t ht => ⟨_, rfl, by
      obtain ⟨h1, h2⟩ := badV_ok t ht
      have e := do1x (shelf_y hl cl h1 h2) (by simp [h2, cl]) w_l
      unfold ce7_law
      simp [e, h2, cl]⟩
    rw [List.map_id] at this
    exact this
  have hc' : compM (gN 15) bYes ce7_law [some (.scr ns), some (.int size), o2, some ls, o4, o5, o6, o7, o8, o9, o10, o11, o12, o13, o14, none, none, none] [.int (-1), .int 1000, .non, .bl true, .tup [.int 1], .str "1"] = M.ret [.str "no load", .str "no load", .str "no load", .str "no load", .str "no load", .str "no load"] := hc
  have pe : pyEq (.lst [.str "no load", .str "no load", .str "no load", .str "no load", .str "no load", .str "no load"]) (.lst [.str "no load", .str "no load", .str "no load", .str "no load", .str "no load", .str "no load"]) = some true := by kernel_rfl
  have t6 : tiny 6 = true ∧ 6 ≤ sizeLine := by decide
  have z1 := F_tilt_ok (List.replicate 16 999) (by decide) (by intro x hx; rw [(List.mem_replicate.mp hx).2]; omega)
  rw [show tiltT (List.replicate 16 999) = 0 by decide +kernel] at z1
  have z2 := F_tilt_ok (List.replicate 8 999 ++ List.replicate 8 0) (by decide) (by intro x hx; rcases List.mem_append.mp hx with z | z <;> rw [(List.mem_replicate.mp z).2] <;> omega)
  rw [show tiltT (List.replicate 8 999 ++ List.replicate 8 0) = 7992 by decide +kernel] at z2
  have d1 : F__law_do [.int 0, .tup [.int 999, .int 999, .int 999, .int 999, .int 999, .int 999, .int 999, .int 999, .int 999, .int 999, .int 999, .int 999, .int 999, .int 999, .int 999, .int 999], .non] = .ok (.int 0) := do0 (b := .non) z1 (by decide +kernel) rfl
  have d2 : F__law_do [.int 0, .tup [.int 999, .int 999, .int 999, .int 999, .int 999, .int 999, .int 999, .int 999, .int 0, .int 0, .int 0, .int 0, .int 0, .int 0, .int 0, .int 0], .non] = .ok (.int 7992) := do0 (b := .non) z2 (by decide +kernel) rfl
  have p1 : pyEq (.int 0) (.int 0) = some true := by kernel_rfl
  have p2 : pyEq (.int 7992) (.int 7992) = some true := by kernel_rfl
  unfold badL at l1
  unfold badP at l2
  unfold ev at *
  unfold t15_law t16_law t17_law t18_law
  have t17 : tiny 17 = true ∧ 17 ≤ sizeLine := by decide
  have t16 : tiny 16 = true ∧ 16 ≤ sizeLine := by decide
  have t8 : tiny 8 = true ∧ 8 ≤ sizeLine := by decide
  simp [sFor, l1, l2, eLc, wipeE, hc', pe, t6, d1, d2, p1, p2, t17, t16, t8]

/-! this law's own ways to put -/
theorem with_ev (xs : List Int) (s : Nat) (v : Int) (hs : s < xs.length) (hl : xs.length ≤ 100) :
    cutD (xs.map D.int) none (some (s : Int)) = (xs.take s).map D.int ∧ cutD (xs.map D.int) (some ((s : Int) + 1)) none = (xs.drop (s + 1)).map D.int ∧ oAt (xs.map D.int) (s : Int) id = M.ret (.int (nth xs s)) ∧ ((xs.take s).map D.int).length + 1 ≤ sizeLine ∧ ((xs.take s).map D.int).length + (((xs.drop (s + 1)).map D.int).length + 1) ≤ sizeLine ∧ ((xs.take s).map D.int).length + 1 + ((xs.drop (s + 1)).map D.int).length ≤ sizeLine ∧
    (addAt xs s v).map D.int = (xs.take s).map D.int ++ (D.int (nth xs s + v) :: (xs.drop (s + 1)).map D.int) := by
  refine ⟨by rw [cut_to _ _ (by omega), List.map_take]; rfl, by rw [cut_from _ _ (by omega), List.map_drop]; rfl, ?_, sz1000 (by simp; omega), sz1000 (by simp; omega), sz1000 (by simp; omega), ?_⟩
  · have := oAt_nat xs s hs
    simpa using this
  · rw [← addAt_cut xs s v hs]; simp
def pt (p : Tu Int × Tu Int) (s : Nat) (load : Int) : Tu Int × Tu Int := (⟨p.1.l ++ [(s : Int)]⟩, ⟨addAt p.2.l s load⟩)
theorem lb1_ok (ns : List Int) (n : Nat) (hn : n ≤ 16) (load : Int) (p : Tu Int × Tu Int) (hp : p.2.l.length = n ∧ p.1.l.length ≤ 2) (o2 o3 o4 o5 o6 o7 o13 o14 : Option D) (ω0 : List Cell) (v : List (Tu Int × Tu Int)) (hv : v.length ≤ 10000) (s : Nat) (hs : s < n) :
    lb1_law (ev ns n o2 o3 o4 o5 o6 o7 (some (.int load)) (some (.cell ω0.length)) (some (.tup (p.1.l.map D.int))) (some (.tup (p.2.l.map D.int))) (some (.int s)) o13 o14 none) (ω0 ++ [.lst (v.map toD)]) = .next (ev ns n o2 o3 o4 o5 o6 o7 (some (.int load)) (some (.cell ω0.length)) (some (.tup (p.1.l.map D.int))) (some (.tup (p.2.l.map D.int))) (some (.int s)) o13 o14 none) (ω0 ++ [.lst ((v ++ [pt p s load]).map toD)]) := by
  obtain ⟨e1, e2, e3, m1, m2, m3, e4⟩ := with_ev p.2.l s load (by omega) (by omega)
  have l1 : (p.1.l.map D.int).length + 1 ≤ sizeLine := sz1000 (by simp; omega)
  have ka := kAppend_ (v.map (toD : Tu Int × Tu Int → D)) (toD (pt p s load)) (by simp; omega)
  have e5 : (toD (pt p s load) : D) = .tup [.tup (p.1.l.map D.int ++ [.int s]), .tup ((p.2.l.take s).map D.int ++ (D.int (nth p.2.l s + load) :: (p.2.l.drop (s + 1)).map D.int))] := by
    rw [toD_pl]; unfold pt; dsimp only; rw [e4, List.map_append]; rfl
  rw [List.map_append, List.map_cons, List.map_nil]
  rw [e5] at ka ⊢
  unfold lb1_law ev
  generalize (p.2.l.take s).map D.int = A1 at *
  generalize (p.2.l.drop (s + 1)).map D.int = A2 at *
  generalize p.2.l.map D.int = A3 at *
  generalize p.1.l.map D.int = A4 at *
  generalize v.map (toD : Tu Int × Tu Int → D) = A5 at *
  simp [e1, e2, e3, m1, m2, m3, l1, ka]
theorem lb2_ok (ns : List Int) (n : Nat) (hn : n ≤ 16) (load : Int) (p : Tu Int × Tu Int) (hp : p.2.l.length = n ∧ p.1.l.length ≤ 2) (o2 o3 o4 o5 o6 o7 o12 o13 o14 : Option D) (ω0 : List Cell) (v : List (Tu Int × Tu Int)) (hv : v.length ≤ 9000) :
    ∃ o12', lb2_law (ev ns n o2 o3 o4 o5 o6 o7 (some (.int load)) (some (.cell ω0.length)) (some (.tup (p.1.l.map D.int))) (some (.tup (p.2.l.map D.int))) o12 o13 o14 none) (ω0 ++ [.lst (v.map toD)]) = .next (ev ns n o2 o3 o4 o5 o6 o7 (some (.int load)) (some (.cell ω0.length)) (some (.tup (p.1.l.map D.int))) (some (.tup (p.2.l.map D.int))) o12' o13 o14 none) (ω0 ++ [.lst ((v ++ (List.range n).map fun s => pt p s load).map toD)]) := by
  have L := loop_ix (g := gN 12) (s := lb1_law) (fun (s : Nat) => D.int (s : Int)) (fun i (w : List (Tu Int × Tu Int)) ρ ω => w.length ≤ 9000 + i ∧ ω = ω0 ++ [.lst (w.map toD)] ∧ ∃ o12, ρ = ev ns n o2 o3 o4 o5 o6 o7 (some (.int load)) (some (.cell ω0.length)) (some (.tup (p.1.l.map D.int))) (some (.tup (p.2.l.map D.int))) o12 o13 o14 none) (fun w s => w ++ [pt p s load]) (List.range n) 0 v (ev ns n o2 o3 o4 o5 o6 o7 (some (.int load)) (some (.cell ω0.length)) (some (.tup (p.1.l.map D.int))) (some (.tup (p.2.l.map D.int))) o12 o13 o14 none) (ω0 ++ [.lst (v.map toD)]) (by
    rintro j s w ρ ω hs ⟨h1, rfl, o12, rfl⟩
    obtain ⟨hj, e⟩ := List.getElem?_eq_some_iff.mp hs
    rw [List.getElem_range] at e
    subst e
    rw [List.length_range] at hj
    exact ⟨_, _, _, rfl, lb1_ok ns n hn load p hp o2 o3 o4 o5 o6 o7 o13 o14 ω0 w (by omega) j hj, by simp; omega, rfl, _, rfl⟩) ⟨by omega, rfl, _, rfl⟩
  obtain ⟨ρ', ω', e, -, rfl, o12', rfl⟩ := L
  refine ⟨o12', ?_⟩
  have key : ∀ (m : List Nat) (w : List (Tu Int × Tu Int)), m.foldl (fun w s => w ++ [pt p s load]) w = w ++ m.map fun s => pt p s load := by
    intro m
    induction m with
    | nil => intro w; simp
    | cons s m ih => intro w; rw [List.foldl_cons, ih]; simp
  rw [key] at e
  rw [← rangeD_map] at e
  have bn : big62 (n : Int) = true := big62_of (by omega) (by omega)
  have hn2 : n ≤ 1000000 := by omega
  unfold ev at *
  unfold lb2_law
  generalize (v ++ (List.range n).map fun s => pt p s load).map (toD : Tu Int × Tu Int → D) = A5 at *
  generalize v.map (toD : Tu Int × Tu Int → D) = A4 at *
  simp [sFor, bn, hn2, e]
theorem lb3_ok (ns : List Int) (n : Nat) (hn : n ≤ 16) (load : Int) (made : List (Tu Int × Tu Int)) (hm : ∀ p ∈ made, p.2.l.length = n ∧ p.1.l.length ≤ 2) (hl : made.length ≤ 256) (o2 o3 o4 o5 o6 o9 o10 o11 o12 o13 o14 : Option D) (ω : List Cell) :
    ∃ p9 p10 p11 p12, lb3_law (ev ns n o2 o3 o4 o5 o6 (some (.lst (made.map toD))) (some (.int load)) o9 o10 o11 o12 o13 o14 none) ω = .next (ev ns n o2 o3 o4 o5 o6 (some (.lst ((stepP n made load).map toD))) (some (.int load)) p9 p10 p11 p12 o13 o14 none) (ω ++ [.dead]) := by
  have L := loop_ix (g := gTp 2 (gsCons (gN 10) (gsCons (gN 11) gsNil))) (s := lb2_law) toD (fun i (w : List (Tu Int × Tu Int)) ρ ω' => w.length ≤ i * 16 ∧ ω' = ω ++ [.lst (w.map toD)] ∧ ∃ p10 p11 p12, ρ = ev ns n o2 o3 o4 o5 o6 (some (.lst (made.map toD))) (some (.int load)) (some (.cell ω.length)) p10 p11 p12 o13 o14 none)
    (fun w p => w ++ (List.range n).map fun s => pt p s load) made 0 [] (ev ns n o2 o3 o4 o5 o6 (some (.lst (made.map toD))) (some (.int load)) (some (.cell ω.length)) o10 o11 o12 o13 o14 none) (ω ++ [.lst []]) (by
    rintro j p w ρ ω' hp ⟨h1, rfl, p10, p11, p12, rfl⟩
    have hj : j < made.length := (List.getElem?_eq_some_iff.mp hp).1
    obtain ⟨o12', e⟩ := lb2_ok ns n hn load p (hm p (List.mem_of_getElem? hp)) o2 o3 o4 o5 o6 (some (.lst (made.map toD))) p12 o13 o14 ω w (by omega)
    exact ⟨_, _, _, rfl, e, by simp; omega, rfl, _, _, _, rfl⟩) ⟨by simp, rfl, _, _, _, rfl⟩
  obtain ⟨ρ', ω', e, -, rfl, p10, p11, p12, rfl⟩ := L
  have key : ∀ (m w : List (Tu Int × Tu Int)), m.foldl (fun w p => w ++ (List.range n).map fun s => pt p s load) w = w ++ stepP n m load := by
    intro m
    induction m with
    | nil => intro w; simp [stepP]
    | cons p m ih => intro w; rw [List.foldl_cons, ih]; simp [stepP, pt]
  rw [key, List.nil_append] at e
  refine ⟨some (.cell ω.length), p10, p11, p12, ?_⟩
  have h4 : (made.map (toD : Tu Int × Tu Int → D)).length ≤ 1000000 := by simp; omega
  unfold ev at *
  unfold lb3_law u2_law u1_law
  generalize (stepP n made load).map (toD : Tu Int × Tu Int → D) = A1 at *
  generalize made.map (toD : Tu Int × Tu Int → D) = A2 at *
  simp [sFor, h4, e]
theorem rows_ok (ns : List Int) (xs ls : List Int) (hx : xs.length ≤ 16) (hl : ls.length ≤ 2) (o2 o3 o4 o5 o6 o13 o14 : Option D) (ω : List Cell) :
    ∃ p8 p9 p10 p11 p12 ω', loopS (gN 8) lb3_law (ls.map D.int) (ev ns xs.length o2 o3 o4 o5 o6 (some (.lst ([((⟨[]⟩ : Tu Int), (⟨xs⟩ : Tu Int))].map toD))) none none none none none o13 o14 none) ω = .next (ev ns xs.length o2 o3 o4 o5 o6 (some (.lst ((putsT xs ls).map toD))) p8 p9 p10 p11 p12 o13 o14 none) ω' := by
  have L := loop_ix (g := gN 8) (s := lb3_law) D.int (fun i (v : List (Tu Int × Tu Int)) ρ ω => i ≤ 2 ∧ v.length ≤ 16 ^ i ∧ (∀ p ∈ v, p.2.l.length = xs.length ∧ p.1.l.length ≤ i) ∧ ∃ p8 p9 p10 p11 p12, ρ = ev ns xs.length o2 o3 o4 o5 o6 (some (.lst (v.map toD))) p8 p9 p10 p11 p12 o13 o14 none)
    (stepP xs.length) ls 0 [(⟨[]⟩, ⟨xs⟩)] (ev ns xs.length o2 o3 o4 o5 o6 (some (.lst ([((⟨[]⟩ : Tu Int), (⟨xs⟩ : Tu Int))].map toD))) none none none none none o13 o14 none) ω ?_ ⟨by omega, by simp, by simp, _, _, _, _, _, rfl⟩
  · obtain ⟨ρ', ω', e, -, -, -, p8, p9, p10, p11, p12, rfl⟩ := L
    exact ⟨_, _, _, _, _, _, e⟩
  · rintro j load v ρ ω hj ⟨hi, hv, hp, p8, p9, p10, p11, p12, rfl⟩
    have hj' : j < ls.length := (List.getElem?_eq_some_iff.mp hj).1
    have hv2 : v.length ≤ 256 := by
      have : 0 + j = 0 ∨ 0 + j = 1 := by omega
      rcases this with e | e <;> rw [e] at hv <;> omega
    obtain ⟨q9, q10, q11, q12, e⟩ := lb3_ok ns xs.length hx load v (fun p hp' => ⟨(hp p hp').1, by have := (hp p hp').2; omega⟩) hv2 o2 o3 o4 o5 o6 p9 p10 p11 p12 o13 o14 ω
    refine ⟨_, _, _, rfl, e, by omega, ?_, ?_, _, _, _, _, _, rfl⟩
    · rw [step_len, Nat.pow_succ]
      exact Nat.mul_le_mul hv hx
    · intro q hq
      obtain ⟨p, hp', s, hs, rfl⟩ := mem_step.mp hq
      have := hp p hp'
      simp
      omega

theorem law_true : ∀ ns : List Int, ns.length ≤ 63 → F_law [.scr ns] = .ok (.bl true) := by
  intro ns _
  have P1 := F_pick_ok ns 1 7 (by decide) (by decide)
  have p1 := pick_lo ns 1 (m := 7) (by decide)
  have p1' := pick_hi ns 1 (m := 7) (by decide)
  generalize pick ns 1 7 = d1 at *
  obtain ⟨n, hn⟩ : ∃ n : Nat, 3 + d1 = (n : Int) := ⟨(3 + d1).toNat, by omega⟩
  have hn2 : 3 ≤ n ∧ n ≤ 9 := by omega
  have P2 := F_pick_ok ns 2 3 (by decide) (by decide)
  have p2 := pick_lo ns 2 (m := 3) (by decide)
  have p2' := pick_hi ns 2 (m := 3) (by decide)
  generalize pick ns 2 3 = d2 at *
  obtain ⟨top, ht, htp⟩ : ∃ top : Int, oAt [.int 3, .int 20, .int 1000] d2 id = M.ret (.int top) ∧ 0 < top ∧ top ≤ 1000 := by
    have : d2 = 0 ∨ d2 = 1 ∨ d2 = 2 := by omega
    rcases this with z | z | z <;> subst z
    · exact ⟨3, oAt0 _ _, by omega⟩
    · exact ⟨20, oAt1 _ _ _, by omega⟩
    · exact ⟨1000, oAt2 _ _ _ _, by omega⟩
  have P3 := F_pick_ok ns 3 3 (by decide) (by decide)
  have p3 := pick_lo ns 3 (m := 3) (by decide)
  have p3' := pick_hi ns 3 (m := 3) (by decide)
  generalize pick ns 3 3 = d3 at *
  obtain ⟨k3, rfl⟩ : ∃ k : Nat, d3 = (k : Int) := ⟨d3.toNat, by omega⟩
  have P4 := F_pick_ok ns 4 n (by decide) (by omega)
  have p4 := pick_lo ns 4 (m := n) (by omega)
  have p4' := pick_hi ns 4 (m := n) (by omega)
  generalize pick ns 4 n = d4 at *
  obtain ⟨at', rfl⟩ : ∃ k : Nat, d4 = (k : Int) := ⟨d4.toNat, by omega⟩
  have P5 := F_pick_ok ns 50 1000 (by decide) (by decide)
  have p5 := pick_lo ns 50 (m := 1000) (by decide)
  have p5' := pick_hi ns 50 (m := 1000) (by decide)
  generalize pick ns 50 1000 = load at *
  obtain ⟨xs, hxs⟩ : ∃ xs, drawN ns 10 top n = xs := ⟨_, rfl⟩
  have xl : xs.length = n := by rw [← hxs, drawN_len]
  have xb : ∀ x ∈ xs, 0 ≤ x ∧ x ≤ 999 := fun x hx => by
    rw [← hxs] at hx
    have := drawN_in ns 10 htp.1 n x hx
    omega
  have hc1 : compM (gN 16) bYes ce1_law [some (.scr ns), some (.int n), some (.int top), none, none, none, none, none, none, none, none, none, none, none, none, none, none, none] (rangeD 0 n) = M.ret (xs.map D.int) := by
    rw [rangeD_map, ← hxs]; unfold drawN; rw [List.map_map]
    exact compM_on (fun (i : Nat) => D.int (i : Int)) _ (List.range n) fun i hi => ⟨_, rfl, by
      have := F_pick_ok ns (10 + i) top (by omega) htp.1
      unfold ce1_law
      simp [this]⟩
  obtain ⟨s2, hs2, sb2⟩ : ∃ s2 : List Int, (∀ o3, compM (gN 16) bYes ce2_law [some (.scr ns), some (.int n), some (.int top), o3, none, none, none, none, none, none, none, none, none, none, none, none, none, none] (rangeD 0 2) = M.ret (s2.map D.int)) ∧ s2.length = 2 ∧ ∀ x ∈ s2, 0 ≤ x ∧ x ≤ 999 := by
    have one : ∀ i : Nat, i < 2 → ∃ x : Int, (0 ≤ x ∧ x ≤ 999) ∧ ∀ o3, ce2_law [some (.scr ns), some (.int n), some (.int top), o3, none, none, none, none, none, none, none, none, none, none, none, none, some (.int i), none] = M.ret (.int x) := fun i hi => by
      have Q1 := F_pick_ok ns (40 + i) 2 (by omega) (by decide)
      have q1 := pick_lo ns (40 + i) (m := 2) (by decide)
      have q1' := pick_hi ns (40 + i) (m := 2) (by decide)
      generalize pick ns (40 + i) 2 = c at *
      have hcc : c = 0 ∨ c = 1 := by omega
      rcases hcc with z | z
      · refine ⟨pick ns (30 + i) top, ⟨pick_lo _ _ htp.1, by have := pick_hi ns (30 + i) htp.1; omega⟩, fun o3 => ?_⟩
        have Q2 := F_pick_ok ns (30 + i) top (by omega) htp.1
        unfold ce2_law
        simp [Q1, z, oAt0, Q2]
      · refine ⟨pick ns (30 + i) 1000, ⟨pick_lo _ _ (by decide), by have := pick_hi ns (30 + i) (m := 1000) (by decide); omega⟩, fun o3 => ?_⟩
        have Q2 := F_pick_ok ns (30 + i) 1000 (by omega) (by decide)
        unfold ce2_law
        simp [Q1, z, oAt1, Q2]
    obtain ⟨x0, b0, e0⟩ := one 0 (by decide)
    obtain ⟨x1, b1, e1⟩ := one 1 (by decide)
    refine ⟨[x0, x1], fun o3 => ?_, rfl, by simp; exact ⟨b0, b1⟩⟩
    have : rangeD 0 2 = [0, 1].map fun (i : Nat) => D.int (i : Int) := rfl
    rw [this]
    refine (compM_on (fun (i : Nat) => D.int (i : Int)) (fun i => .int (if i = 0 then x0 else x1)) [0, 1] fun i hi => ⟨_, rfl, ?_⟩).trans rfl
    simp at hi
    rcases hi with z | z <;> subst z
    · exact e0 o3
    · exact e1 o3
  obtain ⟨sl2, sb2⟩ := sb2
  obtain ⟨ls, hls⟩ : ∃ ls, s2.take k3 = ls := ⟨_, rfl⟩
  have ll : ls.length ≤ 2 := by rw [← hls]; simp; omega
  have lb : ∀ x ∈ ls, 0 ≤ x ∧ x ≤ 999 := fun x hx => sb2 x (by rw [← hls] at hx; exact List.mem_of_mem_take hx)
  have ec : cutD (s2.map D.int) none (some (k3 : Int)) = ls.map D.int := by rw [cut_to _ _ (by omega), ← List.map_take, Int.toNat_natCast, hls]
  have hx16 : 3 ≤ xs.length ∧ xs.length ≤ 16 := by omega
  have hp : 0 < xs.length := by omega
  have T1 := F_ltilt_ok xs hx16
  have T2 := do0 (b := .non) (F_tilt_ok xs hx16 xb) (by simp [clean_ints]) rfl
  have e3 : cutD (xs.map D.int) (some (at' : Int)) none = (xs.drop at').map D.int := by rw [cut_from _ _ (by omega), List.map_drop]; rfl
  have e4 : cutD (xs.map D.int) none (some (at' : Int)) = (xs.take at').map D.int := by rw [cut_to _ _ (by omega), List.map_take]; rfl
  have T3 := F_tilt_ok (xs.drop at' ++ xs.take at') (by simp; omega) (fun x hx => by
    rcases List.mem_append.mp hx with z | z
    · exact xb x (List.mem_of_mem_drop z)
    · exact xb x (List.mem_of_mem_take z))
  rw [tilt_turn xs at' (by omega) hp, List.map_append] at T3
  have T4 := F_tilt_ok xs.reverse (by simpa using hx16) (fun x hx => xb x (List.mem_reverse.mp hx))
  rw [tilt_back xs hp, List.map_reverse] at T4
  have cT := clean_ints (xs.drop at' ++ xs.take at')
  rw [List.map_append] at cT
  have cR := clean_ints xs.reverse
  rw [List.map_reverse] at cR
  obtain ⟨q8, q9, q10, q11, q12, ω1, L1⟩ := rows_ok ns xs ls (by omega) ll (some (.int top)) (some (.tup (xs.map D.int))) (some (.tup (ls.map D.int))) (some (.int at')) (some (.int (tiltT xs))) none none []
  rw [xl] at L1
  obtain ⟨pn, pl, pf⟩ := puts_facts xs ls ll (by omega) hp
  have lbn : listB xs ls ≠ [] := fun z => pn (List.map_eq_nil_iff.mp z)
  obtain ⟨j, j1, j2, j3⟩ := first_min (listB xs ls) lbn (listB_rise xs ls)
  have et : (listB xs ls).map (·.1) = (putsT xs ls).map fun p => tiltT p.2.l := by unfold listB; rw [List.map_map]; rfl
  rw [et] at j2 j3
  have hc3 : ∀ o9 o12 o13 o14, compM (gTp 2 (gsCons (gN 10) (gsCons (gN 11) gsNil))) bYes ce3_law [some (.scr ns), some (.int n), some (.int top), some (.tup (xs.map D.int)), some (.tup (ls.map D.int)), some (.int at'), some (.int (tiltT xs)), some (.lst ((putsT xs ls).map toD)), q8, o9, none, none, o12, o13, o14, none, none, none] ((putsT xs ls).map toD) = M.ret (((putsT xs ls).map fun p => tiltT p.2.l).map D.int) := fun o9 o12 o13 o14 => by
    rw [List.map_map]
    exact compM_on toD _ (putsT xs ls) fun p hp' => ⟨_, rfl, by
      have := F_ltilt_ok p.2.l (by have := pf p hp'; omega)
      have hD : (toD p.2 : D) = .tup (p.2.l.map D.int) := rfl
      unfold ce3_law
      simp [hD, this, clean_ints]⟩
  have jb : j < (putsT xs ls).length := by
    have := (List.getElem?_eq_some_iff.mp j1).1
    unfold listB at this; simpa using this
  have j4 : ((putsT xs ls).map fun p => tiltT p.2.l)[j]? = some (bestT xs ls).1 := by
    rw [← et, List.getElem?_map, j1]; rfl
  have I1 := idx_ints _ _ j j4 j3
  have M1 : minL (((putsT xs ls).map fun p => tiltT p.2.l).map D.int) = M.ret (.int (bestT xs ls).1) := by
    have := minL_of (α := Int) ((putsT xs ls).map fun p => tiltT p.2.l) (by simpa using pn) (by decide)
    rw [j2] at this; exact this
  have R1 : oAt ((putsT xs ls).map (toD : Tu Int × Tu Int → D)) (j : Int) id = M.ret (toD (putsT xs ls)[j]) := oAt_get (i := j) (by rw [List.getElem?_map, List.getElem?_eq_getElem jb]; rfl) id
  have R2 : (toD (putsT xs ls)[j] : D) = .tup [.tup ((bestT xs ls).2.l.map D.int), .tup ((putsT xs ls)[j].2.l.map D.int)] := by
    rw [toD_pl]
    have : (listB xs ls)[j]? = some (tiltT (putsT xs ls)[j].2.l, (putsT xs ls)[j].1) := by unfold listB; rw [List.getElem?_map, List.getElem?_eq_getElem jb]; rfl
    have e := Option.some.inj (this.symm.trans j1)
    have e2 : (putsT xs ls)[j].1 = (bestT xs ls).2 := congrArg Prod.snd e
    rw [e2]
  rw [R2] at R1
  have D2 := do2 (F_best_put_ok xs ls hx16 xb ll lb) (by simp [clean_ints]) (by simp [clean_ints])
  have D3 := do3 (F_least_tilt_ok xs ls hx16 xb ll lb) (by simp [clean_ints]) rfl
  obtain ⟨s1, g1, g2, g3, g4⟩ := best_first xs load ⟨hp, by omega⟩
  obtain ⟨s1', g5, g6, g7⟩ := bestS1_spec xs load ⟨hp, by omega⟩
  have gss : s1' = s1 := by omega
  subst gss
  have D1 := do1 (F_best_shelf_ok xs load s1' hx16 xb (by omega) (by rw [g7])) (by simp [clean_ints]) rfl
  have hc4 : ∀ o7 o9 o10 o11 o12 o13 o14, compM (gN 16) bYes ce4_law [some (.scr ns), some (.int n), some (.int top), some (.tup (xs.map D.int)), some (.tup (ls.map D.int)), some (.int at'), some (.int (tiltT xs)), o7, some (.int load), o9, o10, o11, o12, o13, o14, none, none, none] (rangeD 0 n) = M.ret ((tiltsT xs load).map D.int) := fun o7 o9 o10 o11 o12 o13 o14 => by
    rw [rangeD_map]
    unfold tiltsT
    rw [xl, List.map_map]
    refine compM_on (fun (i : Nat) => D.int (i : Int)) _ (List.range n) fun i hi => ⟨_, rfl, ?_⟩
    have hi' := List.mem_range.mp hi
    obtain ⟨e1, e2, e3, m1, m2, m3, e4⟩ := with_ev xs i load (by omega) (by omega)
    have tt := F_ltilt_ok (addAt xs i load) (by simpa using hx16)
    have cl := clean_ints (addAt xs i load)
    rw [e4] at tt cl
    unfold ce4_law
    generalize (xs.take i).map D.int = A1 at *
    generalize (xs.drop (i + 1)).map D.int = A2 at *
    generalize xs.map D.int = A3 at *
    simp [e1, e2, e3, m1, m2, m3, tt, cl]
  have I2 := idx_ints _ _ s1' (tilts_at xs load g1) g4
  have tn : tiltsT xs load ≠ [] := fun z => by
    have : (tiltsT xs load).length = 0 := by rw [z]; rfl
    unfold tiltsT at this
    rw [List.length_map, List.length_range] at this
    omega
  have M2 : minL ((tiltsT xs load).map D.int) = M.ret (.int (tiltT (addAt xs s1' load))) := by
    have := minL_of (α := Int) (tiltsT xs load) tn (by decide)
    rw [g3] at this; exact this
  have LL := F_look_loads_ok xs hx16 xb
  have TL := fun o7 o8 o9 o10 o11 o12 o13 o14 => tail_ok ns n (.tup (xs.map D.int)) LL (by simp [clean_ints]) (some (.int top)) (some (.tup (ls.map D.int))) (some (.int at')) (some (.int (tiltT xs))) o7 o8 o9 o10 o11 o12 o13 o14 ω1
  have pI : ∀ a : Int, pyEq (.int a) (.int a) = some true := fun a => (pyEq_da (α := Int) (by decide) a a).trans (by simp)
  have pT : ∀ l : List Int, pyEq (.tup (l.map D.int)) (.tup (l.map D.int)) = some true := fun l => (pyEq_da (α := Tu Int) (by decide) ⟨l⟩ ⟨l⟩).trans (by simp)
  have pp1 := pI (tiltT xs)
  have pp2 := pT (bestT xs ls).2.l
  have pp3 := pI (bestT xs ls).1
  have pp4 := pI s1'
  have cx := clean_ints xs
  have cls' := clean_ints ls
  have b1 : big62 (n : Int) = true := big62_of (by omega) (by omega)
  have h6 : n ≤ 1000000 := by omega
  have b2 : big62 2 = true := by decide
  have h7 : ((putsT xs ls).map (toD : Tu Int × Tu Int → D)).length ≤ 1000000 := by simp; omega
  have h8 : (ls.map D.int).length ≤ 1000000 := by simp; omega
  have z1 : ((xs.drop at').map D.int).length + ((xs.take at').map D.int).length ≤ sizeLine := sz1000 (by simp; omega)
  have r0 : ([((⟨[]⟩ : Tu Int), (⟨xs⟩ : Tu Int))].map toD : List D) = [.tup [.tup [], .tup (xs.map D.int)]] := rfl
  rw [r0] at L1
  unfold ev at *
  generalize ((putsT xs ls).map fun p => tiltT p.2.l).map D.int = A1 at *
  generalize (putsT xs ls).map (toD : Tu Int × Tu Int → D) = A2 at *
  generalize (tiltsT xs load).map D.int = A3 at *
  generalize (bestT xs ls).2.l.map D.int = A4 at *
  generalize (xs.drop at').map D.int = A5 at *
  generalize (xs.take at').map D.int = A6 at *
  generalize xs.map D.int = A7 at *
  generalize ls.map D.int = A8 at *
  generalize s2.map D.int = A9 at *
  have S1a : b_law [some (.scr ns), none, none, none, none, none, none, none, none, none, none, none, none, none, none, none, none, none] [] = t1_law [some (.scr ns), some (.int n), some (.int top), none, none, none, none, none, none, none, none, none, none, none, none, none, none, none] [] := by
    unfold b_law
    generalize t1_law = T at *
    generalize F__law_pick = G at *
    simp [P1, hn, P2, ht]
  have S1b : t1_law [some (.scr ns), some (.int n), some (.int top), none, none, none, none, none, none, none, none, none, none, none, none, none, none, none] [] = t2_law [some (.scr ns), some (.int n), some (.int top), some (.tup A7), none, none, none, none, none, none, none, none, none, none, none, none, none, none] [] := by
    unfold t1_law
    generalize t2_law = T at *
    simp [eLc, wipeE, b1, h6, hc1]
  have S1c : t2_law [some (.scr ns), some (.int n), some (.int top), some (.tup A7), none, none, none, none, none, none, none, none, none, none, none, none, none, none] [] = t3_law [some (.scr ns), some (.int n), some (.int top), some (.tup A7), some (.lst A9), none, none, none, none, none, none, none, none, none, none, none, none, none] [] := by
    unfold t2_law
    generalize t3_law = T at *
    simp [eLc, wipeE, b2, hs2]
  have S1 : b_law [some (.scr ns), none, none, none, none, none, none, none, none, none, none, none, none, none, none, none, none, none] [] = t3_law [some (.scr ns), some (.int n), some (.int top), some (.tup A7), some (.lst A9), none, none, none, none, none, none, none, none, none, none, none, none, none] [] := by rw [S1a, S1b, S1c]
  have S2 : t3_law [some (.scr ns), some (.int n), some (.int top), some (.tup A7), some (.lst A9), none, none, none, none, none, none, none, none, none, none, none, none, none] [] = t6_law [some (.scr ns), some (.int n), some (.int top), some (.tup A7), some (.tup A8), some (.int at'), some (.int (tiltT xs)), none, none, none, none, none, none, none, none, none, none, none] [] := by
    unfold t3_law t4_law t5_law
    generalize t6_law = T at *
    generalize F__law_pick = G at *
    generalize F__law_tilt = G2 at *
    simp [P3, ec, P4, T1, cx]
  have S3 : t6_law [some (.scr ns), some (.int n), some (.int top), some (.tup A7), some (.tup A8), some (.int at'), some (.int (tiltT xs)), none, none, none, none, none, none, none, none, none, none, none] [] = t7_law [some (.scr ns), some (.int n), some (.int top), some (.tup A7), some (.tup A8), some (.int at'), some (.int (tiltT xs)), none, none, none, none, none, none, none, none, none, none, none] [] := by
    unfold t6_law
    generalize t7_law = T at *
    simp [T2, cx, pp1, e3, e4, z1, T3, cT, T4, cR]
  have S4 : t7_law [some (.scr ns), some (.int n), some (.int top), some (.tup A7), some (.tup A8), some (.int at'), some (.int (tiltT xs)), none, none, none, none, none, none, none, none, none, none, none] [] = t9_law [some (.scr ns), some (.int n), some (.int top), some (.tup A7), some (.tup A8), some (.int at'), some (.int (tiltT xs)), some (.lst A2), q8, q9, q10, q11, q12, none, none, none, none, none] ω1 := by
    unfold t7_law t8_law
    generalize t9_law = T at *
    simp [sFor, h8, L1]
  have S5 : t9_law [some (.scr ns), some (.int n), some (.int top), some (.tup A7), some (.tup A8), some (.int at'), some (.int (tiltT xs)), some (.lst A2), q8, q9, q10, q11, q12, none, none, none, none, none] ω1 = t11_law [some (.scr ns), some (.int n), some (.int top), some (.tup A7), some (.tup A8), some (.int at'), some (.int (tiltT xs)), some (.lst A2), q8, q9, q10, q11, q12, some (.lst A1), some (.tup A4), none, none, none] ω1 := by
    unfold t9_law t10_law
    generalize t11_law = T at *
    simp [eLc, wipeE, h7, hc3, oIndexD, M1, I1, R1, oAt0]
  have S6 : t11_law [some (.scr ns), some (.int n), some (.int top), some (.tup A7), some (.tup A8), some (.int at'), some (.int (tiltT xs)), some (.lst A2), q8, q9, q10, q11, q12, some (.lst A1), some (.tup A4), none, none, none] ω1 = t12_law [some (.scr ns), some (.int n), some (.int top), some (.tup A7), some (.tup A8), some (.int at'), some (.int (tiltT xs)), some (.lst A2), q8, q9, q10, q11, q12, some (.lst A1), some (.tup A4), none, none, none] ω1 := by
    unfold t11_law
    generalize t12_law = T at *
    simp [D2, cx, cls', pp2, D3, pp3, M1]
  have S7 : t12_law [some (.scr ns), some (.int n), some (.int top), some (.tup A7), some (.tup A8), some (.int at'), some (.int (tiltT xs)), some (.lst A2), q8, q9, q10, q11, q12, some (.lst A1), some (.tup A4), none, none, none] ω1 = .ret (.bl true) ω1 := by
    unfold t12_law t13_law t14_law
    generalize t15_law = T at *
    simp [P5, eLc, wipeE, b1, h6, hc4, D1, cx, oIndexD, I2, M2, pp4, TL]
  have S : b_law [some (.scr ns), none, none, none, none, none, none, none, none, none, none, none, none, none, none, none, none, none] [] = .ret (.bl true) ω1 := by rw [S1, S2, S3, S4, S5, S6, S7]
  unfold F_law
  generalize b_law = B at *
  simp [S]
end Lw
namespace Lw
open PySem PySem.Spec PyProof.Rows L2 Mi
theorem all_mk {l : PySem.W.OpenLaw} {w : World} {K : PySem.W.Frag} {h : Heap} {mg : Str → Option Value} {fa : Addr} (X : K.In h) (G : h.Ns mainGlobals mg) (hfa : mg "law" = some (.ref fa))
    {f_with_load : Addr} {oc_with_load kV_with_load dc_with_load pm_with_load cd_with_load ct_with_load : Value} {od_with_load an_with_load : Option Addr} {sl_with_load : Array (Option Value)}
    {f_puts : Addr} {oc_puts kV_puts dc_puts pm_puts cd_puts ct_puts : Value} {od_puts an_puts : Option Addr} {sl_puts : Array (Option Value)}
    {f_tilt_of : Addr} {oc_tilt_of kV_tilt_of dc_tilt_of pm_tilt_of cd_tilt_of ct_tilt_of : Value} {od_tilt_of an_tilt_of : Option Addr} {sl_tilt_of : Array (Option Value)}
    {f_best_of : Addr} {oc_best_of kV_best_of dc_best_of pm_best_of cd_best_of ct_best_of : Value} {od_best_of an_best_of : Option Addr} {sl_best_of : Array (Option Value)}
    {f_is_whole : Addr} {oc_is_whole kV_is_whole dc_is_whole pm_is_whole cd_is_whole ct_is_whole : Value} {od_is_whole an_is_whole : Option Addr} {sl_is_whole : Array (Option Value)}
    {f_look_loads : Addr} {oc_look_loads kV_look_loads dc_look_loads pm_look_loads cd_look_loads ct_look_loads : Value} {od_look_loads an_look_loads : Option Addr} {sl_look_loads : Array (Option Value)}
    {f_look_some : Addr} {oc_look_some kV_look_some dc_look_some pm_look_some cd_look_some ct_look_some : Value} {od_look_some an_look_some : Option Addr} {sl_look_some : Array (Option Value)}
    {f_best_put : Addr} {oc_best_put kV_best_put dc_best_put pm_best_put cd_best_put ct_best_put : Value} {od_best_put an_best_put : Option Addr} {sl_best_put : Array (Option Value)}
    {f_best_shelf : Addr} {oc_best_shelf kV_best_shelf dc_best_shelf pm_best_shelf cd_best_shelf ct_best_shelf : Value} {od_best_shelf an_best_shelf : Option Addr} {sl_best_shelf : Array (Option Value)}
    {f_least_tilt : Addr} {oc_least_tilt kV_least_tilt dc_least_tilt pm_least_tilt cd_least_tilt ct_least_tilt : Value} {od_least_tilt an_least_tilt : Option Addr} {sl_least_tilt : Array (Option Value)}
    {f_tilt : Addr} {oc_tilt kV_tilt dc_tilt pm_tilt cd_tilt ct_tilt : Value} {od_tilt an_tilt : Option Addr} {sl_tilt : Array (Option Value)}
    {f__law_do : Addr} {oc__law_do kV__law_do dc__law_do pm__law_do cd__law_do ct__law_do : Value} {od__law_do an__law_do : Option Addr} {sl__law_do : Array (Option Value)}
    {f__law_cell : Addr} {oc__law_cell kV__law_cell dc__law_cell pm__law_cell cd__law_cell ct__law_cell : Value} {od__law_cell an__law_cell : Option Addr} {sl__law_cell : Array (Option Value)}
    {f__law_pick : Addr} {oc__law_pick kV__law_pick dc__law_pick pm__law_pick cd__law_pick ct__law_pick : Value} {od__law_pick an__law_pick : Option Addr} {sl__law_pick : Array (Option Value)}
    {f__law_tilt : Addr} {oc__law_tilt kV__law_tilt dc__law_tilt pm__law_tilt cd__law_tilt ct__law_tilt : Value} {od__law_tilt an__law_tilt : Option Addr} {sl__law_tilt : Array (Option Value)}
    {f_law : Addr} {oc_law kV_law dc_law pm_law cd_law ct_law : Value} {od_law an_law : Option Addr} {sl_law : Array (Option Value)}
    {f__law_word : Addr} {oc__law_word kV__law_word dc__law_word pm__law_word cd__law_word ct__law_word : Value} {od__law_word an__law_word : Option Addr} {sl__law_word : Array (Option Value)}
    {tk_HEAVIEST : Tok}
    {tk_MOST : Tok}
    {C_Full : Addr}
    {C_NoDoors : Addr}
    {C_NoLoad : Addr}
    {C_NoName : Addr}
    {C_NoRound : Addr}
    {C_NoShelf : Addr}
    {C_NoText : Addr}
    {C_NoThing : Addr}
    {C_ShelfError : Addr}
    {C_Taken : Addr}
    (a_with_load : PySem.W.nsIn K mainGlobals "with_load" = some (some (.ref f_with_load)))
    (l_with_load : K.lookup f_with_load = some ⟨oc_with_load, od_with_load, .func (PySem.W.fnOf "with_load" "with_load" (defArgs s_with_load) (defBody s_with_load) (defScope s_with_load) .none kV_with_load dc_with_load pm_with_load an_with_load cd_with_load ct_with_load), sl_with_load⟩)
    (cc_with_load : PySem.W.codeIn K cd_with_load "with_load" = true)
    (kk_with_load : PySem.W.keepIn K (.ref f_with_load) = true)
    (a_puts : PySem.W.nsIn K mainGlobals "puts" = some (some (.ref f_puts)))
    (l_puts : K.lookup f_puts = some ⟨oc_puts, od_puts, .func (PySem.W.fnOf "puts" "puts" (defArgs s_puts) (defBody s_puts) (defScope s_puts) .none kV_puts dc_puts pm_puts an_puts cd_puts ct_puts), sl_puts⟩)
    (cc_puts : PySem.W.codeIn K cd_puts "puts" = true)
    (kk_puts : PySem.W.keepIn K (.ref f_puts) = true)
    (a_tilt_of : PySem.W.nsIn K mainGlobals "tilt_of" = some (some (.ref f_tilt_of)))
    (l_tilt_of : K.lookup f_tilt_of = some ⟨oc_tilt_of, od_tilt_of, .func (PySem.W.fnOf "tilt_of" "tilt_of" (defArgs s_tilt_of) (defBody s_tilt_of) (defScope s_tilt_of) .none kV_tilt_of dc_tilt_of pm_tilt_of an_tilt_of cd_tilt_of ct_tilt_of), sl_tilt_of⟩)
    (cc_tilt_of : PySem.W.codeIn K cd_tilt_of "tilt_of" = true)
    (kk_tilt_of : PySem.W.keepIn K (.ref f_tilt_of) = true)
    (a_best_of : PySem.W.nsIn K mainGlobals "best_of" = some (some (.ref f_best_of)))
    (l_best_of : K.lookup f_best_of = some ⟨oc_best_of, od_best_of, .func (PySem.W.fnOf "best_of" "best_of" (defArgs s_best_of) (defBody s_best_of) (defScope s_best_of) .none kV_best_of dc_best_of pm_best_of an_best_of cd_best_of ct_best_of), sl_best_of⟩)
    (cc_best_of : PySem.W.codeIn K cd_best_of "best_of" = true)
    (kk_best_of : PySem.W.keepIn K (.ref f_best_of) = true)
    (a_is_whole : PySem.W.nsIn K mainGlobals "is_whole" = some (some (.ref f_is_whole)))
    (l_is_whole : K.lookup f_is_whole = some ⟨oc_is_whole, od_is_whole, .func (PySem.W.fnOf "is_whole" "is_whole" (defArgs s_is_whole) (defBody s_is_whole) (defScope s_is_whole) .none kV_is_whole dc_is_whole pm_is_whole an_is_whole cd_is_whole ct_is_whole), sl_is_whole⟩)
    (cc_is_whole : PySem.W.codeIn K cd_is_whole "is_whole" = true)
    (kk_is_whole : PySem.W.keepIn K (.ref f_is_whole) = true)
    (a_look_loads : PySem.W.nsIn K mainGlobals "look_loads" = some (some (.ref f_look_loads)))
    (l_look_loads : K.lookup f_look_loads = some ⟨oc_look_loads, od_look_loads, .func (PySem.W.fnOf "look_loads" "look_loads" (defArgs s_look_loads) (defBody s_look_loads) (defScope s_look_loads) .none kV_look_loads dc_look_loads pm_look_loads an_look_loads cd_look_loads ct_look_loads), sl_look_loads⟩)
    (cc_look_loads : PySem.W.codeIn K cd_look_loads "look_loads" = true)
    (kk_look_loads : PySem.W.keepIn K (.ref f_look_loads) = true)
    (a_look_some : PySem.W.nsIn K mainGlobals "look_some" = some (some (.ref f_look_some)))
    (l_look_some : K.lookup f_look_some = some ⟨oc_look_some, od_look_some, .func (PySem.W.fnOf "look_some" "look_some" (defArgs s_look_some) (defBody s_look_some) (defScope s_look_some) .none kV_look_some dc_look_some pm_look_some an_look_some cd_look_some ct_look_some), sl_look_some⟩)
    (cc_look_some : PySem.W.codeIn K cd_look_some "look_some" = true)
    (kk_look_some : PySem.W.keepIn K (.ref f_look_some) = true)
    (a_best_put : PySem.W.nsIn K mainGlobals "best_put" = some (some (.ref f_best_put)))
    (l_best_put : K.lookup f_best_put = some ⟨oc_best_put, od_best_put, .func (PySem.W.fnOf "best_put" "best_put" (defArgs s_best_put) (defBody s_best_put) (defScope s_best_put) .none kV_best_put dc_best_put pm_best_put an_best_put cd_best_put ct_best_put), sl_best_put⟩)
    (cc_best_put : PySem.W.codeIn K cd_best_put "best_put" = true)
    (kk_best_put : PySem.W.keepIn K (.ref f_best_put) = true)
    (a_best_shelf : PySem.W.nsIn K mainGlobals "best_shelf" = some (some (.ref f_best_shelf)))
    (l_best_shelf : K.lookup f_best_shelf = some ⟨oc_best_shelf, od_best_shelf, .func (PySem.W.fnOf "best_shelf" "best_shelf" (defArgs s_best_shelf) (defBody s_best_shelf) (defScope s_best_shelf) .none kV_best_shelf dc_best_shelf pm_best_shelf an_best_shelf cd_best_shelf ct_best_shelf), sl_best_shelf⟩)
    (cc_best_shelf : PySem.W.codeIn K cd_best_shelf "best_shelf" = true)
    (kk_best_shelf : PySem.W.keepIn K (.ref f_best_shelf) = true)
    (a_least_tilt : PySem.W.nsIn K mainGlobals "least_tilt" = some (some (.ref f_least_tilt)))
    (l_least_tilt : K.lookup f_least_tilt = some ⟨oc_least_tilt, od_least_tilt, .func (PySem.W.fnOf "least_tilt" "least_tilt" (defArgs s_least_tilt) (defBody s_least_tilt) (defScope s_least_tilt) .none kV_least_tilt dc_least_tilt pm_least_tilt an_least_tilt cd_least_tilt ct_least_tilt), sl_least_tilt⟩)
    (cc_least_tilt : PySem.W.codeIn K cd_least_tilt "least_tilt" = true)
    (kk_least_tilt : PySem.W.keepIn K (.ref f_least_tilt) = true)
    (a_tilt : PySem.W.nsIn K mainGlobals "tilt" = some (some (.ref f_tilt)))
    (l_tilt : K.lookup f_tilt = some ⟨oc_tilt, od_tilt, .func (PySem.W.fnOf "tilt" "tilt" (defArgs s_tilt) (defBody s_tilt) (defScope s_tilt) .none kV_tilt dc_tilt pm_tilt an_tilt cd_tilt ct_tilt), sl_tilt⟩)
    (cc_tilt : PySem.W.codeIn K cd_tilt "tilt" = true)
    (kk_tilt : PySem.W.keepIn K (.ref f_tilt) = true)
    (a__law_do : PySem.W.nsIn K mainGlobals "_law_do" = some (some (.ref f__law_do)))
    (l__law_do : K.lookup f__law_do = some ⟨oc__law_do, od__law_do, .func (PySem.W.fnOf "_law_do" "_law_do" (defArgs s__law_do) (defBody s__law_do) (defScope s__law_do) .none kV__law_do dc__law_do pm__law_do an__law_do cd__law_do ct__law_do), sl__law_do⟩)
    (cc__law_do : PySem.W.codeIn K cd__law_do "_law_do" = true)
    (kk__law_do : PySem.W.keepIn K (.ref f__law_do) = true)
    (a__law_cell : PySem.W.nsIn K mainGlobals "_law_cell" = some (some (.ref f__law_cell)))
    (l__law_cell : K.lookup f__law_cell = some ⟨oc__law_cell, od__law_cell, .func (PySem.W.fnOf "_law_cell" "_law_cell" (defArgs s__law_cell) (defBody s__law_cell) (defScope s__law_cell) .none kV__law_cell dc__law_cell pm__law_cell an__law_cell cd__law_cell ct__law_cell), sl__law_cell⟩)
    (cc__law_cell : PySem.W.codeIn K cd__law_cell "_law_cell" = true)
    (kk__law_cell : PySem.W.keepIn K (.ref f__law_cell) = true)
    (a__law_pick : PySem.W.nsIn K mainGlobals "_law_pick" = some (some (.ref f__law_pick)))
    (l__law_pick : K.lookup f__law_pick = some ⟨oc__law_pick, od__law_pick, .func (PySem.W.fnOf "_law_pick" "_law_pick" (defArgs s__law_pick) (defBody s__law_pick) (defScope s__law_pick) .none kV__law_pick dc__law_pick pm__law_pick an__law_pick cd__law_pick ct__law_pick), sl__law_pick⟩)
    (cc__law_pick : PySem.W.codeIn K cd__law_pick "_law_pick" = true)
    (kk__law_pick : PySem.W.keepIn K (.ref f__law_pick) = true)
    (a__law_tilt : PySem.W.nsIn K mainGlobals "_law_tilt" = some (some (.ref f__law_tilt)))
    (l__law_tilt : K.lookup f__law_tilt = some ⟨oc__law_tilt, od__law_tilt, .func (PySem.W.fnOf "_law_tilt" "_law_tilt" (defArgs s__law_tilt) (defBody s__law_tilt) (defScope s__law_tilt) .none kV__law_tilt dc__law_tilt pm__law_tilt an__law_tilt cd__law_tilt ct__law_tilt), sl__law_tilt⟩)
    (cc__law_tilt : PySem.W.codeIn K cd__law_tilt "_law_tilt" = true)
    (kk__law_tilt : PySem.W.keepIn K (.ref f__law_tilt) = true)
    (a_law : PySem.W.nsIn K mainGlobals "law" = some (some (.ref f_law)))
    (l_law : K.lookup f_law = some ⟨oc_law, od_law, .func (PySem.W.fnOf "law" "law" (defArgs s_law) (defBody s_law) (defScope s_law) .none kV_law dc_law pm_law an_law cd_law ct_law), sl_law⟩)
    (cc_law : PySem.W.codeIn K cd_law "law" = true)
    (kk_law : PySem.W.keepIn K (.ref f_law) = true)
    (a__law_word : PySem.W.nsIn K mainGlobals "_law_word" = some (some (.ref f__law_word)))
    (l__law_word : K.lookup f__law_word = some ⟨oc__law_word, od__law_word, .func (PySem.W.fnOf "_law_word" "_law_word" (defArgs s__law_word) (defBody s__law_word) (defScope s__law_word) .none kV__law_word dc__law_word pm__law_word an__law_word cd__law_word ct__law_word), sl__law_word⟩)
    (cc__law_word : PySem.W.codeIn K cd__law_word "_law_word" = true)
    (kk__law_word : PySem.W.keepIn K (.ref f__law_word) = true)
    (z_ValueError : PySem.W.nsIn K mainGlobals "ValueError" = some none)
    (z_abs : PySem.W.nsIn K mainGlobals "abs" = some none)
    (z_all : PySem.W.nsIn K mainGlobals "all" = some none)
    (z_bool : PySem.W.nsIn K mainGlobals "bool" = some none)
    (z_int : PySem.W.nsIn K mainGlobals "int" = some none)
    (z_isinstance : PySem.W.nsIn K mainGlobals "isinstance" = some none)
    (z_len : PySem.W.nsIn K mainGlobals "len" = some none)
    (z_max : PySem.W.nsIn K mainGlobals "max" = some none)
    (z_min : PySem.W.nsIn K mainGlobals "min" = some none)
    (z_range : PySem.W.nsIn K mainGlobals "range" = some none)
    (z_sum : PySem.W.nsIn K mainGlobals "sum" = some none)
    (z_tuple : PySem.W.nsIn K mainGlobals "tuple" = some none)
    (c_HEAVIEST : PySem.W.nsIn K mainGlobals "HEAVIEST" = some (some (.int 999 tk_HEAVIEST)))
    (c_MOST : PySem.W.nsIn K mainGlobals "MOST" = some (some (.int 16 tk_MOST)))
    (g_Full : PySem.W.nsIn K mainGlobals "Full" = some (some (.ref C_Full)))
    (g_NoDoors : PySem.W.nsIn K mainGlobals "NoDoors" = some (some (.ref C_NoDoors)))
    (g_NoLoad : PySem.W.nsIn K mainGlobals "NoLoad" = some (some (.ref C_NoLoad)))
    (x_NoLoad : PySem.W.excIn K C_NoLoad [.type "ValueError", .type "Exception", .type "BaseException", .type "object"] "ValueError.__new__" = true)
    (k_NoLoad : PySem.W.keepIn K (.ref C_NoLoad) = true)
    (b_NoLoad : PySem.W.subIn K (.ref C_NoLoad) (.type "BaseException") = some true)
    (t_NoLoad : PySem.W.typeIn K (.ref C_NoLoad) = some (.type "type"))
    (g_NoName : PySem.W.nsIn K mainGlobals "NoName" = some (some (.ref C_NoName)))
    (g_NoRound : PySem.W.nsIn K mainGlobals "NoRound" = some (some (.ref C_NoRound)))
    (g_NoShelf : PySem.W.nsIn K mainGlobals "NoShelf" = some (some (.ref C_NoShelf)))
    (g_NoText : PySem.W.nsIn K mainGlobals "NoText" = some (some (.ref C_NoText)))
    (g_NoThing : PySem.W.nsIn K mainGlobals "NoThing" = some (some (.ref C_NoThing)))
    (g_ShelfError : PySem.W.nsIn K mainGlobals "ShelfError" = some (some (.ref C_ShelfError)))
    (g_Taken : PySem.W.nsIn K mainGlobals "Taken" = some (some (.ref C_Taken)))
    (e_NoLoad : PySem.W.exmOne K (.ref C_NoLoad) (.ref C_ShelfError) = some true)
    (X1_NoLoad : PySem.W.findIn K (.ref C_NoLoad) "__getattribute__" = some (some (.builtin "BaseException.__getattribute__")))
    (X2_NoLoad : PySem.W.findIn K (.ref C_NoLoad) "__getattr__" = some none)
    (X4_NoLoad : PySem.W.hasDictIn K C_NoLoad = true)
    (X5_NoLoad : PySem.W.findIn K (.ref C_NoLoad) "__class__" = some (some (.builtin "object.__class__")))
    (X8_NoLoad : PySem.W.mroIn K C_NoLoad (.type "object") = some true)
    (i_NoLoad_Full : PySem.W.kitOne K (.ref C_NoLoad) (.ref C_Full) = some false)
    (i_NoLoad_NoDoors : PySem.W.kitOne K (.ref C_NoLoad) (.ref C_NoDoors) = some false)
    (i_NoLoad_NoLoad : PySem.W.kitOne K (.ref C_NoLoad) (.ref C_NoLoad) = some true)
    (i_NoLoad_NoName : PySem.W.kitOne K (.ref C_NoLoad) (.ref C_NoName) = some false)
    (i_NoLoad_NoRound : PySem.W.kitOne K (.ref C_NoLoad) (.ref C_NoRound) = some false)
    (i_NoLoad_NoShelf : PySem.W.kitOne K (.ref C_NoLoad) (.ref C_NoShelf) = some false)
    (i_NoLoad_NoText : PySem.W.kitOne K (.ref C_NoLoad) (.ref C_NoText) = some false)
    (i_NoLoad_NoThing : PySem.W.kitOne K (.ref C_NoLoad) (.ref C_NoThing) = some false)
    (i_NoLoad_Taken : PySem.W.kitOne K (.ref C_NoLoad) (.ref C_Taken) = some false)
    (i_NoLoad_ShelfError : PySem.W.kitOne K (.ref C_NoLoad) (.ref C_ShelfError) = some true)
    (i_NoLoad_ValueError : PySem.W.kitOne K (.ref C_NoLoad) (.type "ValueError") = some true)
    (X6 : PySem.W.specialIn K (.builtin "object.__class__") "__get__" = some (some (.builtin "getset_descriptor.__get__")))
    (X7 : PySem.W.takesIn K (.builtin "object.__class__") = some true)
    : ∃ fd : FuncData, (∀ (s : Shared) (v : Value), BindsTo s fd ⟨[v], []⟩ [("script", v)]) ∧ ∀ base : Heap, K.In base → base.Ns mainGlobals mg → FnOk l.prog w K mg base (L2.CX l.prog w) 6 fa fd ["script"] (spLaw K) := by
  have e := hfa.symm.trans (PySem.W.mg_of X G a_law)
  cases e
  let T : Tx K mg := { f_with_load := f_with_load, fd_with_load := _, F_with_load := fun_mk (st := s_with_load) l_with_load cc_with_load kk_with_load, m_with_load := PySem.W.mg_of X G a_with_load, f_puts := f_puts, fd_puts := _, F_puts := fun_mk (st := s_puts) l_puts cc_puts kk_puts, m_puts := PySem.W.mg_of X G a_puts, f_tilt_of := f_tilt_of, fd_tilt_of := _, F_tilt_of := fun_mk (st := s_tilt_of) l_tilt_of cc_tilt_of kk_tilt_of, m_tilt_of := PySem.W.mg_of X G a_tilt_of, f_best_of := f_best_of, fd_best_of := _, F_best_of := fun_mk (st := s_best_of) l_best_of cc_best_of kk_best_of, m_best_of := PySem.W.mg_of X G a_best_of, f_is_whole := f_is_whole, fd_is_whole := _, F_is_whole := fun_mk (st := s_is_whole) l_is_whole cc_is_whole kk_is_whole, m_is_whole := PySem.W.mg_of X G a_is_whole, f_look_loads := f_look_loads, fd_look_loads := _, F_look_loads := fun_mk (st := s_look_loads) l_look_loads cc_look_loads kk_look_loads, m_look_loads := PySem.W.mg_of X G a_look_loads, f_look_some := f_look_some, fd_look_some := _, F_look_some := fun_mk (st := s_look_some) l_look_some cc_look_some kk_look_some, m_look_some := PySem.W.mg_of X G a_look_some, f_best_put := f_best_put, fd_best_put := _, F_best_put := fun_mk (st := s_best_put) l_best_put cc_best_put kk_best_put, m_best_put := PySem.W.mg_of X G a_best_put, f_best_shelf := f_best_shelf, fd_best_shelf := _, F_best_shelf := fun_mk (st := s_best_shelf) l_best_shelf cc_best_shelf kk_best_shelf, m_best_shelf := PySem.W.mg_of X G a_best_shelf, f_least_tilt := f_least_tilt, fd_least_tilt := _, F_least_tilt := fun_mk (st := s_least_tilt) l_least_tilt cc_least_tilt kk_least_tilt, m_least_tilt := PySem.W.mg_of X G a_least_tilt, f_tilt := f_tilt, fd_tilt := _, F_tilt := fun_mk (st := s_tilt) l_tilt cc_tilt kk_tilt, m_tilt := PySem.W.mg_of X G a_tilt, f__law_do := f__law_do, fd__law_do := _, F__law_do := fun_mk (st := s__law_do) l__law_do cc__law_do kk__law_do, m__law_do := PySem.W.mg_of X G a__law_do, f__law_cell := f__law_cell, fd__law_cell := _, F__law_cell := fun_mk (st := s__law_cell) l__law_cell cc__law_cell kk__law_cell, m__law_cell := PySem.W.mg_of X G a__law_cell, f__law_pick := f__law_pick, fd__law_pick := _, F__law_pick := fun_mk (st := s__law_pick) l__law_pick cc__law_pick kk__law_pick, m__law_pick := PySem.W.mg_of X G a__law_pick, f__law_tilt := f__law_tilt, fd__law_tilt := _, F__law_tilt := fun_mk (st := s__law_tilt) l__law_tilt cc__law_tilt kk__law_tilt, m__law_tilt := PySem.W.mg_of X G a__law_tilt, f_law := fa, fd_law := _, F_law := fun_mk (st := s_law) l_law cc_law kk_law, m_law := PySem.W.mg_of X G a_law, f__law_word := f__law_word, fd__law_word := _, F__law_word := fun_mk (st := s__law_word) l__law_word cc__law_word kk__law_word, m__law_word := PySem.W.mg_of X G a__law_word, z_ValueError := PySem.W.mg_none_of X G z_ValueError, z_abs := PySem.W.mg_none_of X G z_abs, z_all := PySem.W.mg_none_of X G z_all, z_bool := PySem.W.mg_none_of X G z_bool, z_int := PySem.W.mg_none_of X G z_int, z_isinstance := PySem.W.mg_none_of X G z_isinstance, z_len := PySem.W.mg_none_of X G z_len, z_max := PySem.W.mg_none_of X G z_max, z_min := PySem.W.mg_none_of X G z_min, z_range := PySem.W.mg_none_of X G z_range, z_sum := PySem.W.mg_none_of X G z_sum, z_tuple := PySem.W.mg_none_of X G z_tuple, tk_HEAVIEST := tk_HEAVIEST, c_HEAVIEST := PySem.W.mg_of X G c_HEAVIEST, tk_MOST := tk_MOST, c_MOST := PySem.W.mg_of X G c_MOST, C_Full := C_Full, g_Full := PySem.W.mg_of X G g_Full, C_NoDoors := C_NoDoors, g_NoDoors := PySem.W.mg_of X G g_NoDoors, C_NoLoad := C_NoLoad, g_NoLoad := PySem.W.mg_of X G g_NoLoad, x_NoLoad := x_NoLoad, k_NoLoad := k_NoLoad, b_NoLoad := b_NoLoad, t_NoLoad := t_NoLoad, C_NoName := C_NoName, g_NoName := PySem.W.mg_of X G g_NoName, C_NoRound := C_NoRound, g_NoRound := PySem.W.mg_of X G g_NoRound, C_NoShelf := C_NoShelf, g_NoShelf := PySem.W.mg_of X G g_NoShelf, C_NoText := C_NoText, g_NoText := PySem.W.mg_of X G g_NoText, C_NoThing := C_NoThing, g_NoThing := PySem.W.mg_of X G g_NoThing, C_ShelfError := C_ShelfError, g_ShelfError := PySem.W.mg_of X G g_ShelfError, C_Taken := C_Taken, g_Taken := PySem.W.mg_of X G g_Taken, e_NoLoad := e_NoLoad, X_NoLoad := ⟨X1_NoLoad, X2_NoLoad, b_NoLoad, X4_NoLoad, X5_NoLoad, X6, X7, X8_NoLoad⟩, i_NoLoad_Full := i_NoLoad_Full, i_NoLoad_NoDoors := i_NoLoad_NoDoors, i_NoLoad_NoLoad := i_NoLoad_NoLoad, i_NoLoad_NoName := i_NoLoad_NoName, i_NoLoad_NoRound := i_NoLoad_NoRound, i_NoLoad_NoShelf := i_NoLoad_NoShelf, i_NoLoad_NoText := i_NoLoad_NoText, i_NoLoad_NoThing := i_NoLoad_NoThing, i_NoLoad_Taken := i_NoLoad_Taken, i_NoLoad_ShelfError := i_NoLoad_ShelfError, i_NoLoad_ValueError := i_NoLoad_ValueError }
  exact ⟨_, fun s v => .of_eq rfl, fun base _ _ => law_ok (ok_law T) law_true⟩
end Lw
open PySem PySem.W PyProof.Rows
set_option maxHeartbeats 0 in
theorem PySem.Challenge.cw_shelfround_k30_whole_loads_holds : PySem.Challenge.rw_shelfround_k30_whole_loads.Holds := by
  w_on; o_law; k_head; (case hw => w_witness2)
  k_fill
  refine L2.walk_of (l := PySem.Challenge.rw_shelfround_k30_whole_loads) (n := 63) (k := 6) (x := "script") (CX := fun w => L2.CX (PySem.Challenge.rw_shelfround_k30_whole_loads).prog w) (sp := fun w => Mi.spLaw _) rfl (by decide) rfl ⟨rfl, by decide, by decide⟩ (fun w h Y => PySem.W.kIn_of Y) ?F (fun _ _ a ns hl _ hS => ⟨a, ns, rfl, hS, hl, (fun _ z => nomatch z), fun _ => rfl⟩) (fun _ _ _ _ _ h => Mi.cx_false h)
  case F =>
    intro w mg fa h KX G hmg
    refine' Lw.all_mk KX G hmg ?a_with_load ?l_with_load ?cc_with_load ?kk_with_load ?a_puts ?l_puts ?cc_puts ?kk_puts ?a_tilt_of ?l_tilt_of ?cc_tilt_of ?kk_tilt_of ?a_best_of ?l_best_of ?cc_best_of ?kk_best_of ?a_is_whole ?l_is_whole ?cc_is_whole ?kk_is_whole ?a_look_loads ?l_look_loads ?cc_look_loads ?kk_look_loads ?a_look_some ?l_look_some ?cc_look_some ?kk_look_some ?a_best_put ?l_best_put ?cc_best_put ?kk_best_put ?a_best_shelf ?l_best_shelf ?cc_best_shelf ?kk_best_shelf ?a_least_tilt ?l_least_tilt ?cc_least_tilt ?kk_least_tilt ?a_tilt ?l_tilt ?cc_tilt ?kk_tilt ?a__law_do ?l__law_do ?cc__law_do ?kk__law_do ?a__law_cell ?l__law_cell ?cc__law_cell ?kk__law_cell ?a__law_pick ?l__law_pick ?cc__law_pick ?kk__law_pick ?a__law_tilt ?l__law_tilt ?cc__law_tilt ?kk__law_tilt ?a_law ?l_law ?cc_law ?kk_law ?a__law_word ?l__law_word ?cc__law_word ?kk__law_word ?z_ValueError ?z_abs ?z_all ?z_bool ?z_int ?z_isinstance ?z_len ?z_max ?z_min ?z_range ?z_sum ?z_tuple ?c_HEAVIEST ?c_MOST ?g_Full ?g_NoDoors ?g_NoLoad ?x_NoLoad ?k_NoLoad ?b_NoLoad ?t_NoLoad ?g_NoName ?g_NoRound ?g_NoShelf ?g_NoText ?g_NoThing ?g_ShelfError ?g_Taken ?e_NoLoad ?X1_NoLoad ?X2_NoLoad ?X4_NoLoad ?X5_NoLoad ?X8_NoLoad ?i_NoLoad_Full ?i_NoLoad_NoDoors ?i_NoLoad_NoLoad ?i_NoLoad_NoName ?i_NoLoad_NoRound ?i_NoLoad_NoShelf ?i_NoLoad_NoText ?i_NoLoad_NoThing ?i_NoLoad_Taken ?i_NoLoad_ShelfError ?i_NoLoad_ValueError ?X6 ?X7
    (case a_with_load => k_is)
    (case l_with_load => k_is)
    (case cc_with_load => k_is)
    (case kk_with_load => k_is)
    (case a_puts => k_is)
    (case l_puts => k_is)
    (case cc_puts => k_is)
    (case kk_puts => k_is)
    (case a_tilt_of => k_is)
    (case l_tilt_of => k_is)
    (case cc_tilt_of => k_is)
    (case kk_tilt_of => k_is)
    (case a_best_of => k_is)
    (case l_best_of => k_is)
    (case cc_best_of => k_is)
    (case kk_best_of => k_is)
    (case a_is_whole => k_is)
    (case l_is_whole => k_is)
    (case cc_is_whole => k_is)
    (case kk_is_whole => k_is)
    (case a_look_loads => k_is)
    (case l_look_loads => k_is)
    (case cc_look_loads => k_is)
    (case kk_look_loads => k_is)
    (case a_look_some => k_is)
    (case l_look_some => k_is)
    (case cc_look_some => k_is)
    (case kk_look_some => k_is)
    (case a_best_put => k_is)
    (case l_best_put => k_is)
    (case cc_best_put => k_is)
    (case kk_best_put => k_is)
    (case a_best_shelf => k_is)
    (case l_best_shelf => k_is)
    (case cc_best_shelf => k_is)
    (case kk_best_shelf => k_is)
    (case a_least_tilt => k_is)
    (case l_least_tilt => k_is)
    (case cc_least_tilt => k_is)
    (case kk_least_tilt => k_is)
    (case a_tilt => k_is)
    (case l_tilt => k_is)
    (case cc_tilt => k_is)
    (case kk_tilt => k_is)
    (case a__law_do => k_is)
    (case l__law_do => k_is)
    (case cc__law_do => k_is)
    (case kk__law_do => k_is)
    (case a__law_cell => k_is)
    (case l__law_cell => k_is)
    (case cc__law_cell => k_is)
    (case kk__law_cell => k_is)
    (case a__law_pick => k_is)
    (case l__law_pick => k_is)
    (case cc__law_pick => k_is)
    (case kk__law_pick => k_is)
    (case a__law_tilt => k_is)
    (case l__law_tilt => k_is)
    (case cc__law_tilt => k_is)
    (case kk__law_tilt => k_is)
    (case a_law => k_is)
    (case l_law => k_is)
    (case cc_law => k_is)
    (case kk_law => k_is)
    (case a__law_word => k_is)
    (case l__law_word => k_is)
    (case cc__law_word => k_is)
    (case kk__law_word => k_is)
    (case z_ValueError => k_is)
    (case z_abs => k_is)
    (case z_all => k_is)
    (case z_bool => k_is)
    (case z_int => k_is)
    (case z_isinstance => k_is)
    (case z_len => k_is)
    (case z_max => k_is)
    (case z_min => k_is)
    (case z_range => k_is)
    (case z_sum => k_is)
    (case z_tuple => k_is)
    (case c_HEAVIEST => k_is)
    (case c_MOST => k_is)
    (case g_Full => k_is)
    (case g_NoDoors => k_is)
    (case g_NoLoad => k_is)
    (case x_NoLoad => k_exc)
    (case k_NoLoad => k_is)
    (case b_NoLoad => k_is)
    (case t_NoLoad => k_is)
    (case g_NoName => k_is)
    (case g_NoRound => k_is)
    (case g_NoShelf => k_is)
    (case g_NoText => k_is)
    (case g_NoThing => k_is)
    (case g_ShelfError => k_is)
    (case g_Taken => k_is)
    (case e_NoLoad => kernel_rfl)
    (case X1_NoLoad => k_is)
    (case X2_NoLoad => k_is)
    (case X4_NoLoad => k_is)
    (case X5_NoLoad => k_is)
    (case X8_NoLoad => k_is)
    (case i_NoLoad_Full => kernel_rfl)
    (case i_NoLoad_NoDoors => kernel_rfl)
    (case i_NoLoad_NoLoad => kernel_rfl)
    (case i_NoLoad_NoName => kernel_rfl)
    (case i_NoLoad_NoRound => kernel_rfl)
    (case i_NoLoad_NoShelf => kernel_rfl)
    (case i_NoLoad_NoText => kernel_rfl)
    (case i_NoLoad_NoThing => kernel_rfl)
    (case i_NoLoad_Taken => kernel_rfl)
    (case i_NoLoad_ShelfError => kernel_rfl)
    (case i_NoLoad_ValueError => kernel_rfl)
    (case X6 => k_is)
    (case X7 => k_is)
