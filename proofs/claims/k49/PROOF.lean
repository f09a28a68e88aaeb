import PyProof.Rows.All
import HandS.Lambda
import HandS.HeadHook4
import HandS.ForMost
import HandS.ForExc
import HandS.Defaults
import HandS.IsInst
import HandS.TupAny
import HandS.TupMul
import HandS.Wide
import HandS.WideBits
import HandS.Style
import HandS.Zip
import HandS.Strs
import HandS.SortInts
import HandS.SetFor
import HandS.HeadHook1
import HandS.HeadHook2
import HandS.RaiseMore
import KE.DataMinMax
import HandS.SortKw
import HandS.Conv
import HandS.EndBits
import HandS.HeadEnd
import HandS.EndTab
import KE.KDictZip
import KE.KExcSuper
import HandS.ExcInit
import HandS.ExcField
import HandS.ExcIs
import KE.KExcIs
import KE.SortKeyHeap
import HandS.Sort
import HandS.Iter
import HandS.Keys
import PyProof.SumWalkG
import HandS.Head2
import PySem.Challenge.RW_tracksenough_k49_whole_passes_and_codes
set_option Elab.async false
set_option linter.all false
set_option maxRecDepth 100000
set_option maxHeartbeats 4000000
/-! the defs that make lambdas: per law -/
namespace Ev
def lamDefs : List PySem.Str := ["ordered", "_law_is_right"]
end Ev
namespace Ev
open PySem PySem.Spec PyProof.Rows L2

/-! ### values, heap, results of the evaluator -/
inductive PV where
  | non | bl (b : Bool) | int (i : Int) | str (s : Str) | tup (vs : List PV) | ref (n : Nat)
  deriving Inhabited
inductive MO where
  | lst (vs : List PV)
  | scr (vs : List PV)
  | dict (kvs : List (Key × PV))
  | ins (c : Str) (fs : List (Str × PV))
  | exo (c : Str) (v : PV)
  | iset (l : List Int)
  deriving Inhabited
abbrev MH := List MO
abbrev PEnv := List (Option PV)
inductive R (α : Type) where
  | ok (a : α) (h : MH)
  | exc (c : Str) (v : PV) (h : MH)
  | bad
inductive RS where
  | nx (e : PEnv) (h : MH) | rt (v : PV) (h : MH) | bk (e : PEnv) (h : MH) | ct (e : PEnv) (h : MH)
  | exc (c : Str) (v : PV) (e : PEnv) (h : MH) | bad
def R.bind {α β : Type} (r : R α) (f : α → MH → R β) : R β := match r with
  | .ok a h => f a h
  | .exc c v h => .exc c v h
  | .bad => .bad
def R.bindS {α : Type} (r : R α) (e : PEnv) (f : α → MH → RS) : RS := match r with
  | .ok a h => f a h
  | .exc c v h => .exc c v e h
  | .bad => .bad
@[simp] theorem R.bind_ok {α β : Type} (a : α) (h : MH) (f : α → MH → R β) : (R.ok a h).bind f = f a h := rfl
@[simp] theorem R.bind_exc {α β : Type} (c : Str) (v : PV) (h : MH) (f : α → MH → R β) : (R.exc c v h : R α).bind f = .exc c v h := rfl
@[simp] theorem R.bind_bad {α β : Type} (f : α → MH → R β) : (R.bad : R α).bind f = .bad := rfl
@[simp] theorem R.bindS_ok {α : Type} (a : α) (h : MH) (e : PEnv) (f : α → MH → RS) : (R.ok a h).bindS e f = f a h := rfl
@[simp] theorem R.bindS_exc {α : Type} (c : Str) (v : PV) (h : MH) (e : PEnv) (f : α → MH → RS) : (R.exc c v h : R α).bindS e f = .exc c v e h := rfl
@[simp] theorem R.bindS_bad {α : Type} (e : PEnv) (f : α → MH → RS) : (R.bad : R α).bindS e f = .bad := rfl

/-- the written part, the world, the program -/
structure KW where
  k : PySem.W.Frag
  w : World
  p : Program
end Ev
abbrev L2.Cx.kw (X : L2.Cx) : Ev.KW := ⟨X.K, X.w, X.prog⟩
namespace Ev
open PySem PySem.Spec PyProof.Rows L2
/-! ### how they lie in the abstract heap -/
section
variable (K : KW)
mutual
inductive RV (ρ : List Addr) (H : Hp) : PV → V → Prop
  | non : RV ρ H .non .non
  | bl (b : Bool) : RV ρ H (.bl b) (.bl b)
  | int (i : Int) : RV ρ H (.int i) (.int i)
  | str (s : Str) : RV ρ H (.str s) (.str s)
  | tup {vs : List PV} {ws : List V} {a : Addr} : SqT K.k H a ws → RVs ρ H vs ws → RV ρ H (.tup vs) (.ref a)
  | ref {n : Nat} {a : Addr} : ρ[n]? = some a → RV ρ H (.ref n) (.ref a)
inductive RVs (ρ : List Addr) (H : Hp) : List PV → List V → Prop
  | nil : RVs ρ H [] []
  | cons {v : PV} {vs : List PV} {w : V} {ws : List V} : RV ρ H v w → RVs ρ H vs ws → RVs ρ H (v :: vs) (w :: ws)
end
/-- the tuples stay -/
def Grow (H H' : Hp) : Prop := ∀ a ws, SqT K.k H a ws → SqT K.k H' a ws
structure Le (ρ : List Addr) (H : Hp) (ρ' : List Addr) (H' : Hp) : Prop where
  pre : ∀ (n : Nat) a, ρ[n]? = some a → ρ'[n]? = some a
  grow : Grow K H H'
  kept : ∀ a x, H a = some x → a ∉ ρ → (∀ ps, x ≠ .tbl ps) → H' a = some x
  fresh : ∀ a, a ∈ ρ' → a ∉ ρ → ∀ x, (∀ ps, x ≠ .tbl ps) → H a ≠ some x
end
section
variable {K : KW} {ρ ρ' ρ1 ρ2 : List Addr} {H H' H1 H2 : Hp}
theorem Grow.refl : Grow K H H := fun _ _ h => h
theorem Grow.trans (a : Grow K H H1) (b : Grow K H1 H2) : Grow K H H2 := fun c o h => b c o (a c o h)
theorem Le.refl : Le K ρ H ρ H := ⟨fun _ _ h => h, .refl, fun _ _ h _ _ => h, fun _ h n => absurd h n⟩
theorem Le.trans (a : Le K ρ H ρ1 H1) (b : Le K ρ1 H1 ρ2 H2) : Le K ρ H ρ2 H2 := by
  refine ⟨fun n c h => b.pre n c (a.pre n c h), a.grow.trans b.grow, fun c x h n t => ?_, fun c h n x t e => ?_⟩
  · exact b.kept c x (a.kept c x h n t) (fun z => a.fresh c z n x t h) t
  · by_cases h1 : c ∈ ρ1
    · exact a.fresh c h1 n x t e
    · exact b.fresh c h h1 x t (a.kept c x e n t)
mutual
theorem RV.mono (l : Le K ρ H ρ' H') : ∀ {v : PV} {w : V}, RV K ρ H v w → RV K ρ' H' v w
  | _, _, .non => .non
  | _, _, .bl b => .bl b
  | _, _, .int i => .int i
  | _, _, .str s => .str s
  | _, _, .tup h t => .tup (l.grow _ _ h) (RVs.mono l t)
  | _, _, .ref h => .ref (l.pre _ _ h)
theorem RVs.mono (l : Le K ρ H ρ' H') : ∀ {vs : List PV} {ws : List V}, RVs K ρ H vs ws → RVs K ρ' H' vs ws
  | _, _, .nil => .nil
  | _, _, .cons a b => .cons (RV.mono l a) (RVs.mono l b)
end
theorem RVs.length : ∀ {vs : List PV} {ws : List V}, RVs K ρ H vs ws → vs.length = ws.length
  | _, _, .nil => rfl
  | _, _, .cons _ t => congrArg (· + 1) (RVs.length t)
theorem RVs.append : ∀ {vs vs' : List PV} {ws ws' : List V}, RVs K ρ H vs ws → RVs K ρ H vs' ws' → RVs K ρ H (vs ++ vs') (ws ++ ws')
  | _, _, _, _, .nil, s => s
  | _, _, _, _, .cons r t, s => .cons r (RVs.append t s)
theorem RVs.get : ∀ {vs : List PV} {ws : List V} {i : Nat} {v : PV}, RVs K ρ H vs ws → vs[i]? = some v → ∃ w, ws[i]? = some w ∧ RV K ρ H v w
  | _, _, _, _, .nil, e => by simp at e
  | _, _, 0, _, .cons r _, e => by
    simp at e
    subst e
    exact ⟨_, rfl, r⟩
  | _, _, i + 1, v, .cons _ t, e => by
    obtain ⟨w, h1, h2⟩ := RVs.get (i := i) (v := v) t (by simpa using e)
    exact ⟨w, by simpa using h1, h2⟩
theorem RVs.getW : ∀ {vs : List PV} {ws : List V} {i : Nat} {w : V}, RVs K ρ H vs ws → ws[i]? = some w → ∃ v, vs[i]? = some v ∧ RV K ρ H v w
  | _, _, _, _, .nil, e => by simp at e
  | _, _, 0, _, .cons r _, e => by
    simp at e
    subst e
    exact ⟨_, rfl, r⟩
  | _, _, i + 1, w, .cons _ t, e => by
    obtain ⟨v, h1, h2⟩ := RVs.getW (i := i) (w := w) t (by simpa using e)
    exact ⟨v, by simpa using h1, h2⟩
theorem RVs.set : ∀ {vs : List PV} {ws : List V} {v : PV} {w : V} (i : Nat), RVs K ρ H vs ws → RV K ρ H v w → RVs K ρ H (vs.set i v) (ws.set i w)
  | _, _, _, _, _, .nil, _ => .nil
  | _, _, _, _, 0, .cons _ t, q => .cons q t
  | _, _, _, _, i + 1, .cons r t, q => .cons r (RVs.set i t q)
theorem RVs.take : ∀ {vs : List PV} {ws : List V} (n : Nat), RVs K ρ H vs ws → RVs K ρ H (vs.take n) (ws.take n)
  | _, _, 0, _ => .nil
  | _, _, _ + 1, .nil => .nil
  | _, _, n + 1, .cons r t => .cons r (RVs.take n t)
theorem RVs.drop : ∀ {vs : List PV} {ws : List V} (n : Nat), RVs K ρ H vs ws → RVs K ρ H (vs.drop n) (ws.drop n)
  | _, _, 0, r => r
  | _, _, _ + 1, .nil => .nil
  | _, _, n + 1, .cons _ t => RVs.drop n t
theorem RVs.reverse {vs : List PV} {ws : List V} (h : RVs K ρ H vs ws) : RVs K ρ H vs.reverse ws.reverse := by
  have : ∀ {vs : List PV} {ws : List V}, RVs K ρ H vs ws → RVs K ρ H vs.reverse ws.reverse := by
    intro vs
    induction vs with
    | nil => intro ws h; cases h; exact .nil
    | cons v vs ih =>
      intro ws h
      cases h with
      | cons r t =>
        rw [List.reverse_cons, List.reverse_cons]
        exact (ih t).append (.cons r .nil)
  exact this h
theorem RVs.eraseIdx : ∀ {vs : List PV} {ws : List V} (n : Nat), RVs K ρ H vs ws → RVs K ρ H (vs.eraseIdx n) (ws.eraseIdx n)
  | _, _, _, .nil => .nil
  | _, _, 0, .cons _ t => t
  | _, _, n + 1, .cons r t => .cons r (RVs.eraseIdx n t)
theorem RVs.ints : ∀ {ns : List Int} {ws : List V}, RVs K ρ H (ns.map PV.int) ws → ws = ns.map V.int
  | [], _, h => by cases h; rfl
  | n :: ns, _, h => by
    rw [List.map_cons] at h
    cases h with
    | cons r t =>
      cases r
      rw [RVs.ints t]
      rfl
theorem RVs.ofInts (ρ : List Addr) (H : Hp) : ∀ (ns : List Int), RVs K ρ H (ns.map PV.int) (ns.map V.int)
  | [] => .nil
  | n :: ns => .cons (.int n) (RVs.ofInts ρ H ns)
theorem RVs.bools : ∀ {ns : List Bool} {ws : List V}, RVs K ρ H (ns.map PV.bl) ws → ws = ns.map V.bl
  | [], _, h => by cases h; rfl
  | n :: ns, _, h => by
    rw [List.map_cons] at h
    cases h with
    | cons r t =>
      cases r
      rw [RVs.bools t]
      rfl
theorem RVs.strs : ∀ {ns : List Str} {ws : List V}, RVs K ρ H (ns.map PV.str) ws → ws = ns.map V.str
  | [], _, h => by cases h; rfl
  | n :: ns, _, h => by
    rw [List.map_cons] at h
    cases h with
    | cons r t =>
      cases r
      rw [RVs.strs t]
      rfl
theorem RVs.ofStrs (ρ : List Addr) (H : Hp) : ∀ (ns : List Str), RVs K ρ H (ns.map PV.str) (ns.map V.str)
  | [] => .nil
  | n :: ns => .cons (.str n) (RVs.ofStrs ρ H ns)
end

section
variable (K : KW)
/-- a dict's pairs: the keys are plain -/
inductive RKV (ρ : List Addr) (H : Hp) : List (Key × PV) → List (Key × V) → Prop
  | nil : RKV ρ H [] []
  | cons {k : Key} {v : PV} {w : V} {kvs : List (Key × PV)} {kws : List (Key × V)} : RV K ρ H v w → RKV ρ H kvs kws → RKV ρ H ((k, v) :: kvs) ((k, w) :: kws)
inductive RFs (ρ : List Addr) (H : Hp) : List (Str × PV) → List (Str × V) → Prop
  | nil : RFs ρ H [] []
  | cons {k : Str} {v : PV} {w : V} {kvs : List (Str × PV)} {kws : List (Str × V)} : RV K ρ H v w → RFs ρ H kvs kws → RFs ρ H ((k, v) :: kvs) ((k, w) :: kws)
/-- a list of the written part; the script: frozen, or such a list -/
def KSq (k : PySem.W.Frag) (a : Addr) (ws : List V) : Prop := ∃ (o : Obj) (its : Array Value) (n : Nat), k.lookup a = some o ∧ o.cls = .type "list" ∧ o.dict = none ∧ o.data = .seq its n ∧ its.size ≤ sizeLine ∧ Vals ws its.toList
def SqR (k : PySem.W.Frag) (H : Hp) (a : Addr) (ws : List V) : Prop := (∃ o, H a = some (.frz o (.lst ws))) ∨ KSq k a ws
/-- the defs' tables of code objects -/
def lamT (k : PySem.W.Frag) : List (Addr × Str) := lamDefs.map fun x => ((He.cT k (x, none)).2, x ++ ".<locals>.<lambda>")
/-- a caught exception -/
def ExV (cls : Value) (d a : Addr) : HO := .ext fun h => ∃ (oe : Obj) (vs : Array Value), h.get? a = some oe ∧ Zc cls (some d) oe ∧ oe.data = .fields vs
/-- an object -/
def RO (ρ : List Addr) (H : Hp) (a : Addr) : MO → Prop
  | .lst vs => ∃ ws, H a = some (.lst ws) ∧ RVs K ρ H vs ws
  | .scr vs => ∃ ws, SqR K.k H a ws ∧ RVs K ρ H vs ws
  | .dict kvs => ∃ kws, H a = some (.dK kws) ∧ RKV K ρ H kvs kws
  | .ins c fs => ∃ dx ws, H a = some (.ins (He.ga K.k c) dx ws) ∧ H dx = some (.own a) ∧ RFs K ρ H fs ws
  | .exo c v => ∃ d w, H a = some (ExV (.ref (He.ga K.k c)) d a) ∧ H d = some (.xd [("value", w)]) ∧ RV K ρ H v w
  | .iset l => ∃ c, H a = some (SetO K.w a (fun k => decide (k ∈ l)) c) ∧ c ≤ l.length
structure SimH (ρ : List Addr) (mh : MH) (H : Hp) : Prop where
  len : ρ.length = mh.length
  nd : ∀ (n m : Nat) a, n ≠ m → ρ[n]? = some a → ρ[m]? = some a → (∃ vs ws, mh[n]? = some (.scr vs) ∧ KSq K.k a ws ∧ RVs K ρ H vs ws) ∨ ∃ vs ws, mh[m]? = some (.scr vs) ∧ KSq K.k a ws ∧ RVs K ρ H vs ws
  ob : ∀ (n : Nat) o a, mh[n]? = some o → ρ[n]? = some a → RO K ρ H a o
  tabs : LamX.Tabs (lamT K.k) H
structure SimE (ρ : List Addr) (H : Hp) (env : PEnv) (σ : L2.St) : Prop where
  len : env.length = σ.length
  at_ : ∀ (i : Nat) v, env[i]? = some (some v) → ∃ w, σ[i]? = some (some w) ∧ RV K ρ H v w
end
section
variable {K : KW} {ρ ρ' ρ1 ρ2 : List Addr} {H H' H1 H2 : Hp} {mh mh' : MH} {env : PEnv} {σ : L2.St}
theorem RKV.mono (l : Le K ρ H ρ' H') : ∀ {kvs : List (Key × PV)} {kws : List (Key × V)}, RKV K ρ H kvs kws → RKV K ρ' H' kvs kws
  | _, _, .nil => .nil
  | _, _, .cons a b => .cons (a.mono l) (RKV.mono l b)
theorem RFs.mono (l : Le K ρ H ρ' H') : ∀ {kvs : List (Str × PV)} {kws : List (Str × V)}, RFs K ρ H kvs kws → RFs K ρ' H' kvs kws
  | _, _, .nil => .nil
  | _, _, .cons a b => .cons (a.mono l) (RFs.mono l b)
theorem SimE.mono (s : SimE K ρ H env σ) (l : Le K ρ H ρ' H') : SimE K ρ' H' env σ := ⟨s.len, fun i v e => let ⟨w, h1, h2⟩ := s.at_ i v e; ⟨w, h1, h2.mono l⟩⟩
theorem SimE.set (s : SimE K ρ H env σ) {v : PV} {w : V} (r : RV K ρ H v w) (i : Nat) : SimE K ρ H (env.set i (some v)) (σ.set i (some w)) := by
  refine ⟨by rw [List.length_set, List.length_set]; exact s.len, fun j u e => ?_⟩
  by_cases hj : i = j
  · subst hj
    have hi : i < env.length := by
      have h1 := (List.getElem?_eq_some_iff.mp e).1
      rwa [List.length_set] at h1
    rw [List.getElem?_set_self hi] at e
    cases e
    exact ⟨w, List.getElem?_set_self (by rw [← s.len]; exact hi), r⟩
  · rw [List.getElem?_set_ne hj] at e
    obtain ⟨x, h1, h2⟩ := s.at_ j u e
    exact ⟨x, by rw [List.getElem?_set_ne hj]; exact h1, h2⟩
theorem SimH.addr (s : SimH K ρ mh H) {n : Nat} {o : MO} (e : mh[n]? = some o) : ∃ a, ρ[n]? = some a ∧ RO K ρ H a o := by
  have h1 := (List.getElem?_eq_some_iff.mp e).1
  have h2 : n < ρ.length := by rw [s.len]; exact h1
  exact ⟨ρ[n], List.getElem?_eq_getElem h2, s.ob n o _ e (List.getElem?_eq_getElem h2)⟩
theorem SimH.at (s : SimH K ρ mh H) {n : Nat} {a : Addr} {o : MO} (e : mh[n]? = some o) (r : RV K ρ H (.ref n) (.ref a)) : RO K ρ H a o := by
  cases r with
  | ref h => exact s.ob n o a e h
theorem SqR.sq {k : PySem.W.Frag} {a : Addr} {ws : List V} (h : SqR k H a ws) : SqL k H a ws := by
  rcases h with ⟨o, h⟩ | h
  · exact .inl (.inr ⟨o, h⟩)
  · exact .inr h
theorem RO.ex_ {a : Addr} {o : MO} (r : RO K ρ H a o) : (∃ x, H a = Option.some x) ∨ ∃ vs ws, o = .scr vs ∧ KSq K.k a ws ∧ RVs K ρ H vs ws := by
  cases o with
  | lst vs => obtain ⟨_, h, _⟩ := r; exact .inl ⟨_, h⟩
  | scr vs =>
    obtain ⟨ws, ⟨_, h⟩ | h, t⟩ := r
    · exact .inl ⟨_, h⟩
    · exact .inr ⟨vs, ws, rfl, h, t⟩
  | dict vs => obtain ⟨_, h, _⟩ := r; exact .inl ⟨_, h⟩
  | ins c fs => obtain ⟨_, _, h, _⟩ := r; exact .inl ⟨_, h⟩
  | exo c v => obtain ⟨_, _, h, _⟩ := r; exact .inl ⟨_, h⟩
  | iset l => obtain ⟨_, h, _⟩ := r; exact .inl ⟨_, h⟩
/-- a new address, all else stays -/
theorem Grow.of_new {p : Addr} {o : HO} (hp : H p = none) : Grow K H (upd H p o) := fun a ws h => by
  rcases h with (h | ⟨ob, h⟩) | h
  · exact .inl (.inl (by rw [upd_ne (ne_of_none h hp)]; exact h))
  · exact .inl (.inr ⟨ob, by rw [upd_ne (ne_of_none h hp)]; exact h⟩)
  · exact .inr h
theorem Grow.of_mut {x : Addr} {u o : HO} (hx : H x = some u) (h1 : ∀ ws, u ≠ .tup ws) (h2 : ∀ ob ws, u ≠ .frz ob (.tup ws)) : Grow K H (upd H x o) := fun a ws h => by
  rcases h with (h | ⟨ob, h⟩) | h
  · exact .inl (.inl (by rw [upd_ne (ne_of h hx (fun z => h1 ws z.symm))]; exact h))
  · exact .inl (.inr ⟨ob, by rw [upd_ne (ne_of h hx (fun z => h2 ob ws z.symm))]; exact h⟩)
  · exact .inr h
theorem RO.mono {a : Addr} {o : MO} (l : Le K ρ H ρ' H') (k : ∀ x, H a = some x → H' a = some x) (k2 : ∀ dx, H dx = some (.own a) → H' dx = some (.own a)) (k3 : ∀ dx fs, H dx = some (.xd fs) → H' dx = some (.xd fs)) (r : RO K ρ H a o) : RO K ρ' H' a o := by
  cases o with
  | lst vs => obtain ⟨ws, h, q⟩ := r; exact ⟨ws, k _ h, q.mono l⟩
  | scr vs =>
    obtain ⟨ws, ⟨ob, h⟩ | h, q⟩ := r
    · exact ⟨ws, .inl ⟨ob, k _ h⟩, q.mono l⟩
    · exact ⟨ws, .inr h, q.mono l⟩
  | dict vs => obtain ⟨ws, h, q⟩ := r; exact ⟨ws, k _ h, q.mono l⟩
  | ins c fs => obtain ⟨dx, ws, h, h2, q⟩ := r; exact ⟨dx, ws, k _ h, k2 _ h2, q.mono l⟩
  | exo c v => obtain ⟨d, w, h, h2, q⟩ := r; exact ⟨d, w, k _ h, k3 _ _ h2, q.mono l⟩
  | iset l => obtain ⟨n, h, hc⟩ := r; exact ⟨n, k _ h, hc⟩
theorem Le.of_new {p : Addr} {o : HO} (hp : H p = none) : Le K ρ H ρ (upd H p o) :=
  ⟨fun _ _ h => h, .of_new hp, fun a x h _ _ => by rw [upd_ne (ne_of_none h hp)]; exact h, fun _ h n => absurd h n⟩
theorem Le.of_alloc {p : Addr} {o : HO} (hp : H p = none) : Le K ρ H (ρ ++ [p]) (upd H p o) :=
  ⟨fun n a h => by
    have h1 := (List.getElem?_eq_some_iff.mp h).1
    rw [List.getElem?_append_left h1]; exact h, .of_new hp, fun a x h _ _ => by rw [upd_ne (ne_of_none h hp)]; exact h, fun a h n x _ e => by
    rcases List.mem_append.mp h with h | h
    · exact n h
    · rw [List.mem_singleton] at h
      rw [h, hp] at e
      cases e⟩
/-- what may be written anew -/
structure Mut (u : HO) : Prop where
  tup : ∀ ws, u ≠ .tup ws
  frz : ∀ ob ws, u ≠ .frz ob (.tup ws)
  own : ∀ y, u ≠ .own y
  tbl : ∀ ps, u ≠ .tbl ps
  code : ∀ c q, u ≠ LamX.CodeO c q
  xd : ∀ fs, u ≠ .xd fs
theorem mut_lst (ws : List V) : Mut (.lst ws) := by
  refine ⟨?_, ?_, ?_, ?_, ?_, ?_⟩
  · intro ws z
    cases z
  · intro a ws z
    cases z
  · intro y z
    cases z
  · intro y z
    cases z
  · intro c q z
    unfold LamX.CodeO at z
    cases z
  · intro y z
    cases z
theorem mut_dK (ws : List (Key × V)) : Mut (.dK ws) := by
  refine ⟨?_, ?_, ?_, ?_, ?_, ?_⟩
  · intro ws z
    cases z
  · intro a ws z
    cases z
  · intro y z
    cases z
  · intro y z
    cases z
  · intro c q z
    unfold LamX.CodeO at z
    cases z
  · intro y z
    cases z
theorem Le.of_mut {n : Nat} {x : Addr} {u o : HO} (hn : ρ[n]? = some x) (hx : H x = some u) (m : Mut u) : Le K ρ H ρ (upd H x o) := by
  have hm : x ∈ ρ := List.mem_of_getElem? hn
  exact ⟨fun _ _ h => h, .of_mut hx m.tup m.frz, fun a y h na _ => by rw [upd_ne (show a ≠ x from fun z => na (by rw [z]; exact hm))]; exact h, fun _ h n => absurd h n⟩
/-- all but tables stay: so do our objects -/
theorem RO.ext_ {a : Addr} {o : MO} (l : Le K ρ H ρ' H') (k : ∀ b x, (b = a ∨ b ≠ a) → H b = some x → (∀ ps, x ≠ .tbl ps) → H' b = some x) (r : RO K ρ H a o) : RO K ρ' H' a o := by
  cases o with
  | lst vs => obtain ⟨ws, h, q⟩ := r; exact ⟨ws, k _ _ (.inl rfl) h (fun _ z => by cases z), q.mono l⟩
  | scr vs =>
    obtain ⟨ws, ⟨ob, h⟩ | h, q⟩ := r
    · exact ⟨ws, .inl ⟨ob, k _ _ (.inl rfl) h (fun _ z => by cases z)⟩, q.mono l⟩
    · exact ⟨ws, .inr h, q.mono l⟩
  | dict vs => obtain ⟨ws, h, q⟩ := r; exact ⟨ws, k _ _ (.inl rfl) h (fun _ z => by cases z), q.mono l⟩
  | ins c fs => obtain ⟨dx, ws, h, h2, q⟩ := r; exact ⟨dx, ws, k _ _ (.inl rfl) h (fun _ z => by cases z), k _ _ (Classical.em _) h2 (fun _ z => by cases z), q.mono l⟩
  | exo c v => obtain ⟨d, w, h, h2, q⟩ := r; exact ⟨d, w, k _ _ (.inl rfl) h (fun _ z => by unfold ExV at z; cases z), k _ _ (Classical.em _) h2 (fun _ z => by cases z), q.mono l⟩
  | iset l' => obtain ⟨n, h, hc⟩ := r; exact ⟨n, k _ _ (.inl rfl) h (fun _ z => by unfold SetO at z; cases z), hc⟩
/-- the frame: what stands beside the objects of ρ1 -/
theorem SimH.beside (s : SimH K ρ mh H) {ρ1 ρ2 : List Addr} (l : Le K ρ1 H ρ2 H') (off : ∀ a, a ∈ ρ1 → ∀ x, (∀ ps, x ≠ .tbl ps) → H a ≠ some x) (t : LamX.Tabs (lamT K.k) H') : SimH K ρ mh H' ∧ Le K ρ H ρ H' := by
  have kp : ∀ b x, H b = some x → (∀ ps, x ≠ .tbl ps) → H' b = some x := fun b x h n => l.kept b x h (fun z => off b z x n h) n
  have l2 : Le K ρ H ρ H' := ⟨fun _ _ h => h, l.grow, fun a x h _ n => kp a x h n, fun _ h n => absurd h n⟩
  exact ⟨⟨s.len, fun n m a h e1 e2 => (s.nd n m a h e1 e2).imp (fun ⟨vs, ws, q1, q2, q3⟩ => ⟨vs, ws, q1, q2, q3.mono l2⟩) (fun ⟨vs, ws, q1, q2, q3⟩ => ⟨vs, ws, q1, q2, q3.mono l2⟩), fun n ob a e1 e2 => (s.ob n ob a e1 e2).ext_ l2 fun b x _ h n => kp b x h n, t⟩, l2⟩
theorem tabs_mut {T : List (Addr × Str)} {x : Addr} {u o : HO} (t : LamX.Tabs T H) (hx : H x = some u) (m : Mut u) : LamX.Tabs T (upd H x o) := fun p hp => by
  obtain ⟨ps, h1, h2, h3⟩ := t p hp
  refine ⟨ps, by rw [upd_ne (ne_of h1 hx fun z => m.tbl ps z.symm)]; exact h1, h2, fun pos cv hc => ?_⟩
  obtain ⟨c, e1, e2⟩ := h3 pos cv hc
  exact ⟨c, e1, by rw [upd_ne (ne_of e2 hx fun z => m.code c _ z.symm)]; exact e2⟩
theorem tabs_new {T : List (Addr × Str)} {x : Addr} {o : HO} (t : LamX.Tabs T H) (hx : H x = none) : LamX.Tabs T (upd H x o) := t.ext fun b y h => by rw [upd_ne (ne_of_none h hx)]; exact h
/-- a tuple was laid -/
theorem SimH.tuple (s : SimH K ρ mh H) {p : Addr} {o : HO} (hp : H p = none) : SimH K ρ mh (upd H p o) ∧ Le K ρ H ρ (upd H p o) := by
  have l : Le K ρ H ρ (upd H p o) := .of_new hp
  exact ⟨⟨s.len, fun n m a h e1 e2 => (s.nd n m a h e1 e2).imp (fun ⟨vs, ws, q1, q2, q3⟩ => ⟨vs, ws, q1, q2, q3.mono l⟩) (fun ⟨vs, ws, q1, q2, q3⟩ => ⟨vs, ws, q1, q2, q3.mono l⟩), fun n ob a e1 e2 => RO.mono (r := s.ob n ob a e1 e2) l (fun x hx => by rw [upd_ne (ne_of_none hx hp)]; exact hx) (fun x hx => by rw [upd_ne (ne_of_none hx hp)]; exact hx) (fun x fs hx => by rw [upd_ne (ne_of_none hx hp)]; exact hx), tabs_new s.tabs hp⟩, l⟩
/-- an object was laid at p -/
theorem SimH.alloc (s : SimH K ρ mh H) {p : Addr} {o : HO} {mo : MO} (hp : H p = none) (new : RO K (ρ ++ [p]) (upd H p o) p mo) :
    SimH K (ρ ++ [p]) (mh ++ [mo]) (upd H p o) ∧ Le K ρ H (ρ ++ [p]) (upd H p o) ∧ RV K (ρ ++ [p]) (upd H p o) (.ref mh.length) (.ref p) := by
  have l : Le K ρ H (ρ ++ [p]) (upd H p o) := .of_alloc hp
  refine ⟨⟨by rw [List.length_append, List.length_append, s.len]; rfl, ?_, fun n ob a e1 e2 => ?_, tabs_new s.tabs hp⟩, l, .ref ?_⟩
  · have old : ∀ (n : Nat), n < mh.length → (ρ ++ [p])[n]? = some p → ∃ vs ws, (mh ++ [mo])[n]? = some (.scr vs) ∧ KSq K.k p ws ∧ RVs K (ρ ++ [p]) (upd H p o) vs ws := fun n hn e => by
      rw [List.getElem?_append_left (by rw [s.len]; exact hn)] at e
      rcases RO.ex_ (s.ob n _ p (List.getElem?_eq_getElem hn) e) with ⟨x, hx⟩ | ⟨vs, ws, e3, e4, e5⟩
      · rw [hp] at hx
        cases hx
      · exact ⟨vs, ws, by rw [List.getElem?_append_left hn, List.getElem?_eq_getElem hn, e3], e4, e5.mono l⟩
    intro n m a h e1 e2
    have hn : n < mh.length + 1 := by
      have := (List.getElem?_eq_some_iff.mp e1).1
      rw [List.length_append, s.len] at this
      exact this
    have hm : m < mh.length + 1 := by
      have := (List.getElem?_eq_some_iff.mp e2).1
      rw [List.length_append, s.len] at this
      exact this
    have last : ∀ (k : Nat), k = mh.length → (ρ ++ [p])[k]? = some p := fun k hk => by
      rw [List.getElem?_append_right (by rw [s.len, hk]; exact Nat.le_refl _), s.len, hk, Nat.sub_self]
      rfl
    by_cases h1 : n = mh.length
    · have : a = p := by
        rw [last n h1] at e1
        exact (Option.some.inj e1).symm
      subst this
      exact .inr (old m (by omega) e2)
    · by_cases h2 : m = mh.length
      · have : a = p := by
          rw [last m h2] at e2
          exact (Option.some.inj e2).symm
        subst this
        exact .inl (old n (by omega) e1)
      · rw [List.getElem?_append_left (by rw [s.len]; omega)] at e1 e2
        rcases s.nd n m a h e1 e2 with ⟨vs, ws, q1, q2, q3⟩ | ⟨vs, ws, q1, q2, q3⟩
        · exact .inl ⟨vs, ws, by rw [List.getElem?_append_left (by omega)]; exact q1, q2, q3.mono l⟩
        · exact .inr ⟨vs, ws, by rw [List.getElem?_append_left (by omega)]; exact q1, q2, q3.mono l⟩
  · by_cases hn : n < mh.length
    · rw [List.getElem?_append_left hn] at e1
      rw [List.getElem?_append_left (by rw [s.len]; exact hn)] at e2
      exact RO.mono (r := s.ob n ob a e1 e2) l (fun x hx => by rw [upd_ne (ne_of_none hx hp)]; exact hx) (fun x hx => by rw [upd_ne (ne_of_none hx hp)]; exact hx) fun x fs hx => by rw [upd_ne (ne_of_none hx hp)]; exact hx
    · rw [List.getElem?_append_right (by omega)] at e1
      rw [List.getElem?_append_right (by rw [s.len]; omega), s.len] at e2
      cases hk : n - mh.length with
      | zero =>
        rw [hk] at e1 e2
        simp at e1 e2
        subst e1 e2
        exact new
      | succ k =>
        rw [hk] at e1
        simp at e1
  · rw [List.getElem?_append_right (by rw [s.len]; exact Nat.le_refl _), s.len, Nat.sub_self]
    rfl
/-- the object at x is changed -/
theorem SimH.write (s : SimH K ρ mh H) {x : Addr} {n : Nat} {o u : HO} {mo : MO} (hn : ρ[n]? = some x) (hx : H x = some u) (mu : Mut u)
    (new : RO K ρ (upd H x o) x mo) (hs : ∀ vs, mh[n]? ≠ some (.scr vs)) : SimH K ρ (mh.set n mo) (upd H x o) ∧ Le K ρ H ρ (upd H x o) := by
  have l : Le K ρ H ρ (upd H x o) := .of_mut hn hx mu
  refine ⟨⟨by rw [List.length_set]; exact s.len, fun i j a hij e1 e2 => ?_, fun m ob a e1 e2 => ?_, tabs_mut s.tabs hx mu⟩, l⟩
  · have keep : ∀ (i : Nat), (∃ vs ws, mh[i]? = some (.scr vs) ∧ KSq K.k a ws ∧ RVs K ρ H vs ws) → ∃ vs ws, (mh.set n mo)[i]? = some (.scr vs) ∧ KSq K.k a ws ∧ RVs K ρ (upd H x o) vs ws := fun i ⟨vs, ws, q1, q2, q3⟩ => by
      have hne : n ≠ i := fun z => by
        subst z
        exact hs vs q1
      exact ⟨vs, ws, by rw [List.getElem?_set_ne hne]; exact q1, q2, q3.mono l⟩
    exact (s.nd i j a hij e1 e2).imp (keep i) (keep j)
  · by_cases hm : n = m
    · subst hm
      have hl := (List.getElem?_eq_some_iff.mp e1).1
      rw [List.length_set] at hl
      rw [List.getElem?_set_self hl] at e1
      rw [hn] at e2
      cases e1
      cases e2
      exact new
    · rw [List.getElem?_set_ne hm] at e1
      by_cases hax : a = x
      · subst hax
        rcases s.nd n m a hm hn e2 with ⟨vs, ws, q1, q2, q3⟩ | ⟨vs, ws, q1, q2, q3⟩
        · exact absurd q1 (hs vs)
        · rw [e1] at q1
          cases q1
          exact ⟨ws, .inr q2, q3.mono l⟩
      · exact RO.mono (r := s.ob m ob a e1 e2) l (fun y hy => by rw [upd_ne hax]; exact hy) (fun dx hd => by
          rw [upd_ne (ne_of hd hx (fun z => mu.own _ z.symm))]; exact hd) fun dx fs hd => by
          rw [upd_ne (ne_of hd hx (fun z => mu.xd _ z.symm))]; exact hd
end
end Ev
namespace Ev
open PySem PySem.Spec PyProof.Rows L2

/-! ### what is wanted behind a result -/
section
variable (K : KW) (ρ : List Addr) (H : Hp)
def Post (r : R PV) (Q : VK) (E : Value → Option Addr → Hp → Prop) : Prop := match r with
  | .ok v mh' => ∀ ρ' w H', Le K ρ H ρ' H' → SimH K ρ' mh' H' → RV K ρ' H' v w → Q w H'
  | .exc c v mh' => ∀ ρ' w d H', Le K ρ H ρ' H' → SimH K ρ' mh' H' → RV K ρ' H' v w → H' d = some (.xd [("value", w)]) → E (.ref (He.ga K.k c)) (some d) H'
  | .bad => False
def PostA (r : R (List PV)) (Q : List V → Hp → Prop) (E : Value → Option Addr → Hp → Prop) : Prop := match r with
  | .ok v mh' => ∀ ρ' w H', Le K ρ H ρ' H' → SimH K ρ' mh' H' → RVs K ρ' H' v w → Q w H'
  | .exc c v mh' => ∀ ρ' w d H', Le K ρ H ρ' H' → SimH K ρ' mh' H' → RV K ρ' H' v w → H' d = some (.xd [("value", w)]) → E (.ref (He.ga K.k c)) (some d) H'
  | .bad => False
def PostT (r : R Bool) (Q : Bool → Hp → Prop) (E : Value → Option Addr → Hp → Prop) : Prop := match r with
  | .ok v mh' => ∀ ρ' H', Le K ρ H ρ' H' → SimH K ρ' mh' H' → Q v H'
  | .exc c v mh' => ∀ ρ' w d H', Le K ρ H ρ' H' → SimH K ρ' mh' H' → RV K ρ' H' v w → H' d = some (.xd [("value", w)]) → E (.ref (He.ga K.k c)) (some d) H'
  | .bad => False
def PostS (r : RS) (D : Ends) (W : WX) : Prop := match r with
  | .nx env' mh' => ∀ ρ' σ' H', Le K ρ H ρ' H' → SimH K ρ' mh' H' → SimE K ρ' H' env' σ' → D.nx σ' H'
  | .rt v mh' => ∀ ρ' w H', Le K ρ H ρ' H' → SimH K ρ' mh' H' → RV K ρ' H' v w → D.rt w H'
  | .bk env' mh' => ∀ ρ' σ' H', Le K ρ H ρ' H' → SimH K ρ' mh' H' → SimE K ρ' H' env' σ' → D.bk σ' H'
  | .ct env' mh' => ∀ ρ' σ' H', Le K ρ H ρ' H' → SimH K ρ' mh' H' → SimE K ρ' H' env' σ' → D.ct σ' H'
  | .exc c v env' mh' => ∀ ρ' w d σ' H', Le K ρ H ρ' H' → SimH K ρ' mh' H' → SimE K ρ' H' env' σ' → RV K ρ' H' v w → H' d = some (.xd [("value", w)]) → W (.ref (He.ga K.k c)) (some d) σ' H'
  | .bad => False
end
section
variable {K : KW} {ρ ρ1 : List Addr} {H H1 : Hp}
theorem Post.le {r : R PV} {Q : VK} {E} (l : Le K ρ H ρ1 H1) (p : Post K ρ H r Q E) : Post K ρ1 H1 r Q E := by
  cases r with
  | ok v mh => exact fun ρ' w H' a b c => p ρ' w H' (l.trans a) b c
  | exc c v mh => exact fun ρ' w d H' a b c e => p ρ' w d H' (l.trans a) b c e
  | bad => exact p
theorem PostA.le {r : R (List PV)} {Q E} (l : Le K ρ H ρ1 H1) (p : PostA K ρ H r Q E) : PostA K ρ1 H1 r Q E := by
  cases r with
  | ok v mh => exact fun ρ' w H' a b c => p ρ' w H' (l.trans a) b c
  | exc c v mh => exact fun ρ' w d H' a b c e => p ρ' w d H' (l.trans a) b c e
  | bad => exact p
theorem PostT.le {r : R Bool} {Q E} (l : Le K ρ H ρ1 H1) (p : PostT K ρ H r Q E) : PostT K ρ1 H1 r Q E := by
  cases r with
  | ok v mh => exact fun ρ' H' a b => p ρ' H' (l.trans a) b
  | exc c v mh => exact fun ρ' w d H' a b c e => p ρ' w d H' (l.trans a) b c e
  | bad => exact p
theorem PostS.le {r : RS} {D W} (l : Le K ρ H ρ1 H1) (p : PostS K ρ H r D W) : PostS K ρ1 H1 r D W := by
  cases r with
  | nx v mh => exact fun ρ' w H' a b c => p ρ' w H' (l.trans a) b c
  | rt v mh => exact fun ρ' w H' a b c => p ρ' w H' (l.trans a) b c
  | bk v mh => exact fun ρ' w H' a b c => p ρ' w H' (l.trans a) b c
  | ct v mh => exact fun ρ' w H' a b c => p ρ' w H' (l.trans a) b c
  | exc c v e mh => exact fun ρ' w d σ' H' a b c e f => p ρ' w d σ' H' (l.trans a) b c e f
  | bad => exact p
theorem Post.mk {v : PV} {w : V} {mh : MH} {Q : VK} {E} (p : Post K ρ H (.ok v mh) Q E) (s : SimH K ρ mh H) (r : RV K ρ H v w) : Q w H := p ρ w H .refl s r
theorem Post.mk' {v : PV} {w : V} {mh : MH} {Q : VK} {E} (p : Post K ρ H (.ok v mh) Q E) (l : Le K ρ H ρ1 H1) (s : SimH K ρ1 mh H1) (r : RV K ρ1 H1 v w) : Q w H1 := p ρ1 w H1 l s r
end

/-! ### the readings -/
section
variable (K : KW) (W : WX)
def tE (m : PEnv → MH → R PV) : TE := fun σ H Q => ∃ ρ env mh, SimH K ρ mh H ∧ SimE K ρ H env σ ∧ Post K ρ H (m env mh) Q (fun c d H' => W c d σ H')
def tAr (m : PEnv → MH → R (List PV)) : TA := fun σ H Q => ∃ ρ env mh, SimH K ρ mh H ∧ SimE K ρ H env σ ∧ PostA K ρ H (m env mh) Q (fun c d H' => W c d σ H')
def tTe (m : PEnv → MH → R Bool) : TT := fun σ H Q => ∃ ρ env mh, SimH K ρ mh H ∧ SimE K ρ H env σ ∧ PostT K ρ H (m env mh) Q (fun c d H' => W c d σ H')
def tSt (m : PEnv → MH → RS) : TS := fun D σ H => ∃ ρ env mh, SimH K ρ mh H ∧ SimE K ρ H env σ ∧ PostS K ρ H (m env mh) D W
end
abbrev RE (X : Cx) (W : WX) (e : Expr) (m : PEnv → MH → R PV) : Prop := PE X e (tE X.kw W m)
abbrev RA (X : Cx) (W : WX) (es : List Expr) (m : PEnv → MH → R (List PV)) : Prop := PA X es (tAr X.kw W m)
abbrev RT (X : Cx) (W : WX) (e : Expr) (m : PEnv → MH → R Bool) : Prop := PT X e (tTe X.kw W m)
abbrev RW (X : Cx) (W : WX) (e : Expr) (m : PEnv → MH → R Bool) : Prop := PW X e (tTe X.kw W m)
abbrev RSt (X : Cx) (W : WX) (st : Stmt) (m : PEnv → MH → RS) : Prop := PS X st (tSt X.kw W m)
abbrev RSs (X : Cx) (W : WX) (st : List Stmt) (m : PEnv → MH → RS) : Prop := PSs X st (tSt X.kw W m)

end Ev
namespace L2
open PySem PySem.Spec PyProof.Rows
section
variable {X : Cx}
theorem PE.imp {e : Expr} {t t' : TE} (h : PE X e t) (k : ∀ σ H Q, t' σ H Q → t σ H Q) : PE X e t' := ⟨fun pins s σ H Q I q => h.run pins s σ H Q I (k σ H Q q)⟩
theorem PA.imp {e : List Expr} {t t' : TA} (h : PA X e t) (k : ∀ σ H Q, t' σ H Q → t σ H Q) : PA X e t' := ⟨fun pos pins s σ H Q I q => h.run pos pins s σ H Q I (k σ H Q q)⟩
theorem PT.imp {e : Expr} {t t' : TT} (h : PT X e t) (k : ∀ σ H Q, t' σ H Q → t σ H Q) : PT X e t' := ⟨fun pins s σ H Q I q => h.run pins s σ H Q I (k σ H Q q)⟩
theorem PW.imp {e : Expr} {t t' : TT} (h : PW X e t) (k : ∀ σ H Q, t' σ H Q → t σ H Q) : PW X e t' := ⟨fun wh pins s σ H Q I q => h.run wh pins s σ H Q I (k σ H Q q)⟩
theorem PS.imp {e : Stmt} {t t' : TS} (h : PS X e t) (k : ∀ D σ H, t' D σ H → t D σ H) : PS X e t' := ⟨fun pins s σ H D I q => h.run pins s σ H D I (k D σ H q)⟩
theorem PSs.imp {e : List Stmt} {t t' : TS} (h : PSs X e t) (k : ∀ D σ H, t' D σ H → t D σ H) : PSs X e t' := ⟨fun pins s σ H D I q => h.run pins s σ H D I (k D σ H q)⟩
end

end L2
namespace Ev
open PySem PySem.Spec PyProof.Rows L2

/-! ### chaining -/
section
variable {K : KW} {ρ : List Addr} {H : Hp} {W : WX} {σ : L2.St}
theorem Post.bind {r : R PV} {f : PV → MH → R PV} {Q Q1 : VK} {E} (h : Post K ρ H (r.bind f) Q E)
    (k : ∀ v mh1 ρ1 x H1, r = .ok v mh1 → Le K ρ H ρ1 H1 → SimH K ρ1 mh1 H1 → RV K ρ1 H1 v x → Post K ρ1 H1 (f v mh1) Q E → Q1 x H1) : Post K ρ H r Q1 E := by
  cases r with
  | ok v mh => exact fun ρ' w H' a b c => k v mh ρ' w H' rfl a b c (Post.le a h)
  | exc c v mh => exact h
  | bad => exact h
theorem Post.bindT {r : R PV} {f : PV → MH → R Bool} {Q : Bool → Hp → Prop} {Q1 : VK} {E} (h : PostT K ρ H (r.bind f) Q E)
    (k : ∀ v mh1 ρ1 x H1, r = .ok v mh1 → Le K ρ H ρ1 H1 → SimH K ρ1 mh1 H1 → RV K ρ1 H1 v x → PostT K ρ1 H1 (f v mh1) Q E → Q1 x H1) : Post K ρ H r Q1 E := by
  cases r with
  | ok v mh => exact fun ρ' w H' a b c => k v mh ρ' w H' rfl a b c (PostT.le a h)
  | exc c v mh => exact h
  | bad => exact h
theorem PostT.bind {r : R Bool} {f : Bool → MH → R PV} {Q : VK} {Q1 : Bool → Hp → Prop} {E} (h : Post K ρ H (r.bind f) Q E)
    (k : ∀ v mh1 ρ1 H1, r = .ok v mh1 → Le K ρ H ρ1 H1 → SimH K ρ1 mh1 H1 → Post K ρ1 H1 (f v mh1) Q E → Q1 v H1) : PostT K ρ H r Q1 E := by
  cases r with
  | ok v mh => exact fun ρ' H' a b => k v mh ρ' H' rfl a b (Post.le a h)
  | exc c v mh => exact h
  | bad => exact h
theorem PostT.bindT {r : R Bool} {f : Bool → MH → R Bool} {Q : Bool → Hp → Prop} {Q1 : Bool → Hp → Prop} {E} (h : PostT K ρ H (r.bind f) Q E)
    (k : ∀ v mh1 ρ1 H1, r = .ok v mh1 → Le K ρ H ρ1 H1 → SimH K ρ1 mh1 H1 → PostT K ρ1 H1 (f v mh1) Q E → Q1 v H1) : PostT K ρ H r Q1 E := by
  cases r with
  | ok v mh => exact fun ρ' H' a b => k v mh ρ' H' rfl a b (PostT.le a h)
  | exc c v mh => exact h
  | bad => exact h
theorem Post.bindA {r : R PV} {f : PV → MH → R (List PV)} {Q : List V → Hp → Prop} {Q1 : VK} {E} (h : PostA K ρ H (r.bind f) Q E)
    (k : ∀ v mh1 ρ1 x H1, r = .ok v mh1 → Le K ρ H ρ1 H1 → SimH K ρ1 mh1 H1 → RV K ρ1 H1 v x → PostA K ρ1 H1 (f v mh1) Q E → Q1 x H1) : Post K ρ H r Q1 E := by
  cases r with
  | ok v mh => exact fun ρ' w H' a b c => k v mh ρ' w H' rfl a b c (PostA.le a h)
  | exc c v mh => exact h
  | bad => exact h
theorem PostA.bindA {r : R (List PV)} {f : List PV → MH → R (List PV)} {Q : List V → Hp → Prop} {Q1 : List V → Hp → Prop} {E} (h : PostA K ρ H (r.bind f) Q E)
    (k : ∀ v mh1 ρ1 x H1, r = .ok v mh1 → Le K ρ H ρ1 H1 → SimH K ρ1 mh1 H1 → RVs K ρ1 H1 v x → PostA K ρ1 H1 (f v mh1) Q E → Q1 x H1) : PostA K ρ H r Q1 E := by
  cases r with
  | ok v mh => exact fun ρ' w H' a b c => k v mh ρ' w H' rfl a b c (PostA.le a h)
  | exc c v mh => exact h
  | bad => exact h
theorem PostA.bind {r : R (List PV)} {f : List PV → MH → R PV} {Q : VK} {Q1 : List V → Hp → Prop} {E} (h : Post K ρ H (r.bind f) Q E)
    (k : ∀ v mh1 ρ1 x H1, r = .ok v mh1 → Le K ρ H ρ1 H1 → SimH K ρ1 mh1 H1 → RVs K ρ1 H1 v x → Post K ρ1 H1 (f v mh1) Q E → Q1 x H1) : PostA K ρ H r Q1 E := by
  cases r with
  | ok v mh => exact fun ρ' w H' a b c => k v mh ρ' w H' rfl a b c (Post.le a h)
  | exc c v mh => exact h
  | bad => exact h
theorem Post.bindS {r : R PV} {env : PEnv} {f : PV → MH → RS} {D : Ends} {Q1 : VK} (se : SimE K ρ H env σ) (h : PostS K ρ H (r.bindS env f) D W)
    (k : ∀ v mh1 ρ1 x H1, r = .ok v mh1 → Le K ρ H ρ1 H1 → SimH K ρ1 mh1 H1 → RV K ρ1 H1 v x → PostS K ρ1 H1 (f v mh1) D W → Q1 x H1) : Post K ρ H r Q1 (fun c d H' => W c d σ H') := by
  cases r with
  | ok v mh => exact fun ρ' w H' a b c => k v mh ρ' w H' rfl a b c (PostS.le a h)
  | exc c v mh => exact fun ρ' w d H' a b c e => h ρ' w d σ H' a b (se.mono a) c e
  | bad => exact h
theorem PostA.bindS {r : R (List PV)} {env : PEnv} {f : List PV → MH → RS} {D : Ends} {Q1 : List V → Hp → Prop} (se : SimE K ρ H env σ) (h : PostS K ρ H (r.bindS env f) D W)
    (k : ∀ v mh1 ρ1 x H1, r = .ok v mh1 → Le K ρ H ρ1 H1 → SimH K ρ1 mh1 H1 → RVs K ρ1 H1 v x → PostS K ρ1 H1 (f v mh1) D W → Q1 x H1) : PostA K ρ H r Q1 (fun c d H' => W c d σ H') := by
  cases r with
  | ok v mh => exact fun ρ' w H' a b c => k v mh ρ' w H' rfl a b c (PostS.le a h)
  | exc c v mh => exact fun ρ' w d H' a b c e => h ρ' w d σ H' a b (se.mono a) c e
  | bad => exact h
theorem PostT.bindS {r : R Bool} {env : PEnv} {f : Bool → MH → RS} {D : Ends} {Q1 : Bool → Hp → Prop} (se : SimE K ρ H env σ) (h : PostS K ρ H (r.bindS env f) D W)
    (k : ∀ v mh1 ρ1 H1, r = .ok v mh1 → Le K ρ H ρ1 H1 → SimH K ρ1 mh1 H1 → PostS K ρ1 H1 (f v mh1) D W → Q1 v H1) : PostT K ρ H r Q1 (fun c d H' => W c d σ H') := by
  cases r with
  | ok v mh => exact fun ρ' H' a b => k v mh ρ' H' rfl a b (PostS.le a h)
  | exc c v mh => exact fun ρ' w d H' a b c e => h ρ' w d σ H' a b (se.mono a) c e
  | bad => exact h
end

/-! ### operators by values -/
abbrev Op1 := PV → MH → R PV
abbrev Op2 := PV → PV → MH → R PV
abbrev OpN := List PV → MH → R PV
/-- nothing is raised -/
abbrev NoE : Value → Option Addr → Hp → Prop := fun _ _ _ => False
def r2P (K : KW) (op : Op2) : R2 := fun x y H Q => ∃ ρ mh v w, SimH K ρ mh H ∧ RV K ρ H v x ∧ RV K ρ H w y ∧ Post K ρ H (op v w mh) Q NoE
def r1P (K : KW) (op : Op1) : V → Hp → VK → Prop := fun x H Q => ∃ ρ mh v, SimH K ρ mh H ∧ RV K ρ H v x ∧ Post K ρ H (op v mh) Q NoE
def rNP (K : KW) (op : OpN) : List V → Hp → VK → Prop := fun xs H Q => ∃ ρ mh vs, SimH K ρ mh H ∧ RVs K ρ H vs xs ∧ Post K ρ H (op vs mh) Q NoE
/-- an operator that never raises (in the evaluator) -/
def Quiet2 (op : Op2) : Prop := ∀ v w mh c u h, op v w mh ≠ .exc c u h
def Quiet1 (op : Op1) : Prop := ∀ v mh c u h, op v mh ≠ .exc c u h
def QuietN (op : OpN) : Prop := ∀ v mh c u h, op v mh ≠ .exc c u h
abbrev OpV (X : Cx) (f : Value → Value → Sem Value) (op : Op2) : Prop := OpR X f (r2P X.kw op)
abbrev UnV (X : Cx) (f : Value → Sem Value) (op : Op1) : Prop := UnR X f (r1P X.kw op)
abbrev CallV (X : Cx) (f : Value) (op : OpN) : Prop := CallR X f (rNP X.kw op)
theorem Post.noE {K : KW} {ρ : List Addr} {H : Hp} {r : R PV} {Q : VK} {E} (n : ∀ c u h, r ≠ .exc c u h) (p : Post K ρ H r Q E) : Post K ρ H r Q NoE := by
  cases r with
  | ok v mh => exact p
  | exc c v mh => exact absurd rfl (n c v mh)
  | bad => exact p

def mBin (op : Op2) (ma mb : PEnv → MH → R PV) : PEnv → MH → R PV := fun env mh => (ma env mh).bind fun v mh1 => (mb env mh1).bind fun w mh2 => op v w mh2
def mUn (op : Op1) (ma : PEnv → MH → R PV) : PEnv → MH → R PV := fun env mh => (ma env mh).bind fun v mh1 => op v mh1
section
variable {X : Cx} {W : WX} {a b c e : Expr} {pos : Pos} {ma mb mc : PEnv → MH → R PV}
theorem bin_imp {op : Op2} (n : Quiet2 op) {K : KW} {r : R2} (hr : ∀ x y H Q, r2P K op x y H Q → r x y H Q) (σ : L2.St) (H : Hp) (Q : VK) (h : tE K W (mBin op ma mb) σ H Q) : tOp r (tE K W ma) (tE K W mb) σ H Q := by
  obtain ⟨ρ, env, mh, sh, se, p⟩ := h
  refine ⟨ρ, env, mh, sh, se, p.bind fun v mh1 ρ1 x H1 _ l1 sh1 rv p1 => ?_⟩
  refine ⟨ρ1, env, mh1, sh1, se.mono l1, p1.bind fun w mh2 ρ2 y H2 _ l2 sh2 rw p2 => ?_⟩
  exact hr _ _ _ _ ⟨ρ2, mh2, v, w, sh2, rv.mono l2, rw, p2.noE (n v w mh2)⟩
theorem re_bin {op : Operator} {o : Op2} (ho : OpV X (binaryOp op) o) (n : Quiet2 o) (ha : RE X W a ma) (hb : RE X W b mb) : RE X W (.BinOp a op b pos) (mBin o ma mb) :=
  (pe_op ho ha hb).imp fun σ H Q h => bin_imp n (fun _ _ _ _ q => q) σ H Q h
theorem re_un {op : UnaryOp} {o : Op1} (ho : UnV X (unaryOp op) o) (n : Quiet1 o) (ha : RE X W a ma) : RE X W (.UnaryOp op a pos) (mUn o ma) :=
  (pe_un ho ha).imp fun σ H Q h => by
    obtain ⟨ρ, env, mh, sh, se, p⟩ := h
    refine ⟨ρ, env, mh, sh, se, p.bind fun v mh1 ρ1 x H1 _ l1 sh1 rv p1 => ?_⟩
    exact ⟨ρ1, mh1, v, sh1, rv, p1.noE (n v mh1)⟩
/-- a comparison: pure -/
abbrev Cmp2 := PV → PV → MH → Option Bool
def rCP (K : KW) (oc : Cmp2) : R2 := fun x y H Q => ∃ ρ mh v w b, SimH K ρ mh H ∧ RV K ρ H v x ∧ RV K ρ H w y ∧ oc v w mh = some b ∧ Q (.bl b) H
abbrev CmpV (X : Cx) (op : CmpOp) (oc : Cmp2) : Prop := OpR X (compareOp op) (rCP X.kw oc)
def ob (o : Option Bool) (mh : MH) : R Bool := match o with
  | some b => .ok b mh
  | none => .bad
def obv (o : Option Bool) (mh : MH) : R PV := match o with
  | some b => .ok (.bl b) mh
  | none => .bad
def mCmp (oc : Cmp2) (ma mb : PEnv → MH → R PV) : PEnv → MH → R PV := fun env mh => (ma env mh).bind fun v mh1 => (mb env mh1).bind fun w mh2 => obv (oc v w mh2) mh2
def mCmpT (oc : Cmp2) (ma mb : PEnv → MH → R PV) : PEnv → MH → R Bool := fun env mh => (ma env mh).bind fun v mh1 => (mb env mh1).bind fun w mh2 => ob (oc v w mh2) mh2
theorem re_cmp {op : CmpOp} {o : Cmp2} (ho : CmpV X op o) (ha : RE X W a ma) (hb : RE X W b mb) (h1 : behindInMarks op b = false) : RE X W (.Compare a [op] [b] pos) (mCmp o ma mb) :=
  (pe_cmpR ho ha hb h1).imp fun σ H Q h => by
    obtain ⟨ρ, env, mh, sh, se, p⟩ := h
    refine ⟨ρ, env, mh, sh, se, p.bind fun v mh1 ρ1 x H1 _ l1 sh1 rv p1 => ?_⟩
    refine ⟨ρ1, env, mh1, sh1, se.mono l1, p1.bind fun w mh2 ρ2 y H2 _ l2 sh2 rw p2 => ?_⟩
    cases e : o v w mh2 with
    | none => rw [e] at p2; exact p2.elim
    | some b => rw [e] at p2; exact ⟨ρ2, mh2, v, w, b, sh2, rv.mono l2, rw, e, p2.mk sh2 (.bl b)⟩
theorem rt_cmp {op : CmpOp} {o : Cmp2} (ho : CmpV X op o) (ha : RE X W a ma) (hb : RE X W b mb) (h1 : behindInMarks op b = false) : RT X W (.Compare a [op] [b] pos) (mCmpT o ma mb) :=
  (pt_cmpR ho ha hb h1).imp fun σ H Q h => by
    obtain ⟨ρ, env, mh, sh, se, p⟩ := h
    refine ⟨ρ, env, mh, sh, se, Post.bindT p fun v mh1 ρ1 x H1 _ l1 sh1 rv p1 => ?_⟩
    refine ⟨ρ1, env, mh1, sh1, se.mono l1, Post.bindT p1 fun w mh2 ρ2 y H2 _ l2 sh2 rw p2 => ?_⟩
    cases e : o v w mh2 with
    | none => rw [e] at p2; exact p2.elim
    | some b => rw [e] at p2; exact ⟨ρ2, mh2, v, w, b, sh2, rv.mono l2, rw, e, b, rfl, p2 ρ2 H2 .refl sh2⟩
/-- a op b op' c -/
def mChain (o o' : Cmp2) (ma mb mc : PEnv → MH → R PV) : PEnv → MH → R Bool := fun env mh => (ma env mh).bind fun v mh1 => (mb env mh1).bind fun w mh2 => (ob (o v w mh2) mh2).bind fun k mh3 =>
  if k = true then (mc env mh3).bind fun u mh4 => ob (o' w u mh4) mh4 else .ok false mh3
def mBl (m : PEnv → MH → R Bool) : PEnv → MH → R PV := fun env mh => (m env mh).bind fun b mh1 => .ok (.bl b) mh1
theorem chain_imp {K : KW} {o o' : Cmp2} (σ : L2.St) (H : Hp) (Q : Bool → Hp → Prop) {Qv : VK} (kq : ∀ k H', Q k H' → Qv (.bl k) H') (h : tTe K W (mChain o o' ma mb mc) σ H Q) : tChain (rCP K o) (rCP K o') (tE K W ma) (tE K W mb) (tE K W mc) σ H Qv := by
  obtain ⟨ρ, env, mh, sh, se, p⟩ := h
  refine ⟨ρ, env, mh, sh, se, Post.bindT p fun v mh1 ρ1 x H1 _ l1 sh1 rv p1 => ?_⟩
  refine ⟨ρ1, env, mh1, sh1, se.mono l1, Post.bindT p1 fun w mh2 ρ2 y H2 _ l2 sh2 rw p2 => ?_⟩
  cases e : o v w mh2 with
  | none => rw [e] at p2; exact p2.elim
  | some b =>
    rw [e] at p2
    refine ⟨ρ2, mh2, v, w, b, sh2, rv.mono l2, rw, e, b, rfl, ?_⟩
    cases b with
    | false =>
      rw [if_neg Bool.false_ne_true]
      exact kq false _ ((show PostT K ρ2 H2 (.ok false mh2) Q _ from p2) ρ2 H2 .refl sh2)
    | true =>
      rw [if_pos rfl]
      have p3 : PostT K ρ2 H2 ((mc env mh2).bind fun u mh4 => ob (o' w u mh4) mh4) Q _ := p2
      refine ⟨ρ2, env, mh2, sh2, (se.mono l1).mono l2, Post.bindT p3 fun u mh4 ρ4 z H4 _ l4 sh4 ru p4 => ?_⟩
      cases e2 : o' w u mh4 with
      | none => rw [e2] at p4; exact p4.elim
      | some d => rw [e2] at p4; exact ⟨ρ4, mh4, w, u, d, sh4, rw.mono l4, ru, e2, kq d _ (p4 ρ4 H4 .refl sh4)⟩
theorem rt_chain {op op' : CmpOp} {o o' : Cmp2} (ho : CmpV X op o) (ho' : CmpV X op' o') (ha : RE X W a ma) (hb : RE X W b mb) (hc : RE X W c mc) (hm : lastMarks [op, op'] [b, c] = false) : RT X W (.Compare a [op, op'] [b, c] pos) (mChain o o' ma mb mc) :=
  (pt_chain ho ho' ha hb hc hm).imp fun σ H Q h => chain_imp σ H Q (fun k H' q => ⟨k, rfl, q⟩) h
theorem mBl_imp {K : KW} {m : PEnv → MH → R Bool} {σ : L2.St} {H : Hp} {Q : VK} (h : tE K W (mBl m) σ H Q) : tTe K W m σ H (fun k H' => Q (.bl k) H') := by
  obtain ⟨ρ, env, mh, sh, se, p⟩ := h
  exact ⟨ρ, env, mh, sh, se, PostT.bind p fun v mh1 ρ1 H1 _ l1 sh1 p1 => p1.mk sh1 (.bl v)⟩
theorem re_chain {op op' : CmpOp} {o o' : Cmp2} (ho : CmpV X op o) (ho' : CmpV X op' o') (ha : RE X W a ma) (hb : RE X W b mb) (hc : RE X W c mc) (hm : lastMarks [op, op'] [b, c] = false) : RE X W (.Compare a [op, op'] [b, c] pos) (mBl (mChain o o' ma mb mc)) :=
  (pe_chain ho ho' ha hb hc hm).imp fun σ H Q h => by
    exact chain_imp σ H _ (fun k H' q => q) (mBl_imp h)

/-! ### names, constants -/
def mVar (i : Nat) : PEnv → MH → R PV := fun env mh => match env[i]? with
  | some (some v) => .ok v mh
  | _ => .bad
def mK (v : PV) : PEnv → MH → R PV := fun _ mh => .ok v mh
theorem re_var {i : Nat} {x : Str} (hN : X.N[i]? = some x) (hv : Vis X.env.scope x) (hd : (x == ("__debug__" : Str)) = false) (hcd : (x == ("__classdict__" : Str)) = false) : RE X W (.Name x pos) (mVar i) :=
  (pe_var hN hv hd hcd).imp fun σ H Q h => by
    obtain ⟨ρ, env, mh, sh, se, p⟩ := h
    unfold mVar at p
    cases e : env[i]? with
    | none => rw [e] at p; exact p.elim
    | some o =>
      cases o with
      | none => rw [e] at p; exact p.elim
      | some v =>
        rw [e] at p
        obtain ⟨w, h1, h2⟩ := se.at_ i v e
        exact ⟨w, h1, p.mk sh h2⟩
theorem k_imp {K : KW} {v : PV} {w : V} (hr : ∀ ρ H, RV K ρ H v w) (σ : L2.St) (H : Hp) (Q : VK) (h : tE K W (mK v) σ H Q) : tC w σ H Q := by
  obtain ⟨ρ, env, mh, sh, se, p⟩ := h
  exact p.mk sh (hr ρ H)
theorem re_int {i : Int} {j} : RE X W (.Constant (.int i) j pos) (mK (.int i)) := pe_int.imp (k_imp fun _ _ => .int i)
theorem re_bl {i : Bool} {j} : RE X W (.Constant (.bool i) j pos) (mK (.bl i)) := pe_bl.imp (k_imp fun _ _ => .bl i)
theorem re_non {j} : RE X W (.Constant .none j pos) (mK .non) := pe_non.imp (k_imp fun _ _ => .non)
theorem re_str {i : Str} {j} : RE X W (.Constant (.str i) j pos) (mK (.str i)) := pe_str.imp (k_imp fun _ _ => .str i)
theorem re_glob {x : Str} {v : PV} {w : V} {u : Value} (hg : Gl X x) (hm : X.mg x = some u) (r : RelV w u) (hr : ∀ ρ H, RV X.kw ρ H v w) (hd : (x == ("__debug__" : Str)) = false) : RE X W (.Name x pos) (mK v) :=
  (pe_glob hg hm r hd).imp (k_imp hr)

/-! ### argument lists -/
def mNil : PEnv → MH → R (List PV) := fun _ mh => .ok [] mh
def mCons (ma : PEnv → MH → R PV) (mr : PEnv → MH → R (List PV)) : PEnv → MH → R (List PV) := fun env mh => (ma env mh).bind fun v mh1 => (mr env mh1).bind fun vs mh2 => .ok (v :: vs) mh2
theorem ra_nil : RA X W [] mNil := pa_nil.imp fun σ H Q h => by
  obtain ⟨ρ, env, mh, sh, se, p⟩ := h
  exact p ρ [] H .refl sh .nil
theorem ra_cons {es : List Expr} {mr : PEnv → MH → R (List PV)} (ha : RE X W e ma) (hr : RA X W es mr) (hs : starEach (e :: es) X.env = (false, eval e X.env) :: starEach es X.env) : RA X W (e :: es) (mCons ma mr) :=
  (pa_cons ha hr hs).imp fun σ H Q h => by
    obtain ⟨ρ, env, mh, sh, se, p⟩ := h
    refine ⟨ρ, env, mh, sh, se, Post.bindA p fun v mh1 ρ1 x H1 _ l1 sh1 rv p1 => ?_⟩
    refine ⟨ρ1, env, mh1, sh1, se.mono l1, p1.bindA fun vs mh2 ρ2 xs H2 _ l2 sh2 rvs p2 => ?_⟩
    exact p2 ρ2 (x :: xs) H2 .refl sh2 (.cons (rv.mono l2) rvs)
def mTup (m : PEnv → MH → R (List PV)) : PEnv → MH → R PV := fun env mh => (m env mh).bind fun vs mh1 => if vs.length ≤ sizeLine then .ok (.tup vs) mh1 else .bad
def mLst (m : PEnv → MH → R (List PV)) : PEnv → MH → R PV := fun env mh => (m env mh).bind fun vs mh1 => if vs.length ≤ sizeLine then .ok (.ref mh1.length) (mh1 ++ [.lst vs]) else .bad
/-- a new tuple -/
theorem Post.newTup {K : KW} {ρ : List Addr} {H : Hp} {mh : MH} {vs : List PV} {ws : List V} {Q : VK} {E} (p : Post K ρ H (.ok (.tup vs) mh) Q E) (sh : SimH K ρ mh H) (r : RVs K ρ H vs ws) {q : Addr} (hq : H q = none) : Q (.ref q) (upd H q (.tup ws)) := by
  obtain ⟨s1, l1⟩ := sh.tuple (o := .tup ws) hq
  exact p ρ _ _ l1 s1 (.tup (.inl (.inl upd_same)) (r.mono l1))
/-- a new list -/
theorem Post.newLst {K : KW} {ρ : List Addr} {H : Hp} {mh : MH} {vs : List PV} {ws : List V} {Q : VK} {E} (p : Post K ρ H (.ok (.ref mh.length) (mh ++ [.lst vs])) Q E) (sh : SimH K ρ mh H) (r : RVs K ρ H vs ws) {q : Addr} (hq : H q = none) : Q (.ref q) (upd H q (.lst ws)) := by
  have l0 : Le K ρ H (ρ ++ [q]) (upd H q (.lst ws)) := .of_alloc hq
  obtain ⟨s1, l1, r1⟩ := sh.alloc (o := .lst ws) (mo := .lst vs) hq ⟨ws, upd_same, r.mono l0⟩
  exact p _ _ _ l1 s1 r1
theorem re_tup {es : List Expr} {x1} {m : PEnv → MH → R (List PV)} (h : RA X W es m) : RE X W (.Tuple es x1 pos) (mTup m) :=
  (pe_tup h).imp fun σ H Q h => by
    obtain ⟨ρ, env, mh, sh, se, p⟩ := h
    refine ⟨ρ, env, mh, sh, se, PostA.bind p fun vs mh1 ρ1 xs H1 _ l1 sh1 rvs p1 => ?_⟩
    by_cases hz : vs.length ≤ sizeLine
    · rw [if_pos hz] at p1
      exact ⟨by rw [← rvs.length]; exact hz, fun q hq => p1.newTup sh1 rvs hq⟩
    · rw [if_neg hz] at p1
      exact p1.elim
theorem re_lst {es : List Expr} {m : PEnv → MH → R (List PV)} (h : RA X W es m) : RE X W (.List es pos) (mLst m) :=
  (pe_lst h).imp fun σ H Q h => by
    obtain ⟨ρ, env, mh, sh, se, p⟩ := h
    refine ⟨ρ, env, mh, sh, se, PostA.bind p fun vs mh1 ρ1 xs H1 _ l1 sh1 rvs p1 => ?_⟩
    by_cases hz : vs.length ≤ sizeLine
    · rw [if_pos hz] at p1
      exact ⟨by rw [← rvs.length]; exact hz, fun q hq => p1.newLst sh1 rvs hq⟩
    · rw [if_neg hz] at p1
      exact p1.elim

/-! ### tests -/
/-- a value's truth; bools, ints, None, texts, tuples, lists -/
def truthy (v : PV) (mh : MH) : R Bool := match v with
  | .bl b => .ok b mh
  | .non => .ok false mh
  | .int i => .ok (i != 0) mh
  | _ => .bad
def mTest (m : PEnv → MH → R PV) : PEnv → MH → R Bool := fun env mh => (m env mh).bind truthy
theorem rt_val (ha : RE X W a ma) (he : ∀ whole, isTrue a X.env whole = (do let v ← whole; standAt a.pos; holding [v] (PySem.truthy v))) : RT X W a (mTest ma) :=
  (pt_truth ha he).imp fun σ H Q h => by
    obtain ⟨ρ, env, mh, sh, se, p⟩ := h
    refine ⟨ρ, env, mh, sh, se, Post.bindT p fun v mh1 ρ1 x H1 _ l1 sh1 rv p1 => ?_⟩
    cases rv with
    | bl b => exact ⟨b, rfl, p1 ρ1 H1 .refl sh1⟩
    | non => exact ⟨false, rfl, p1 ρ1 H1 .refl sh1⟩
    | int i => exact ⟨_, rfl, p1 ρ1 H1 .refl sh1⟩
    | str s => exact p1.elim
    | tup _ _ => exact p1.elim
    | ref _ => exact p1.elim
end
end Ev
namespace Ev
open PySem PySem.Spec PyProof.Rows L2
section
variable {X : Cx} {W : WX} {a b c e : Expr} {pos : Pos} {ma mb mc : PEnv → MH → R PV} {ta tb tc : PEnv → MH → R Bool} {rest : List Expr}
/-! ### and, or, not, if-else -/
def mAndT (ta tb : PEnv → MH → R Bool) : PEnv → MH → R Bool := fun env mh => (ta env mh).bind fun k mh1 => if k = true then tb env mh1 else .ok false mh1
def mOrT (ta tb : PEnv → MH → R Bool) : PEnv → MH → R Bool := fun env mh => (ta env mh).bind fun k mh1 => if k = true then .ok true mh1 else tb env mh1
def mNotT (ta : PEnv → MH → R Bool) : PEnv → MH → R Bool := fun env mh => (ta env mh).bind fun k mh1 => .ok (!k) mh1
def isBl (v : PV) (mh : MH) : R Bool := match v with
  | .bl b => .ok b mh
  | _ => .bad
def mAndV (ma mb : PEnv → MH → R PV) : PEnv → MH → R PV := fun env mh => (ma env mh).bind fun v mh1 => (isBl v mh1).bind fun k mh2 => if k = true then mb env mh2 else .ok (.bl false) mh2
def mOrV (ma mb : PEnv → MH → R PV) : PEnv → MH → R PV := fun env mh => (ma env mh).bind fun v mh1 => (isBl v mh1).bind fun k mh2 => if k = true then .ok (.bl true) mh2 else mb env mh2
def mNotV (ma : PEnv → MH → R PV) : PEnv → MH → R PV := fun env mh => (ma env mh).bind fun v mh1 => (isBl v mh1).bind fun k mh2 => .ok (.bl (!k)) mh2
def mIf (tc : PEnv → MH → R Bool) (ma mb : PEnv → MH → R PV) : PEnv → MH → R PV := fun env mh => (tc env mh).bind fun k mh1 => if k = true then ma env mh1 else mb env mh1
theorem rw_and1 (h : RT X W a ta) : RW X W (.BoolOp .And [a] pos) ta := pw_and1 h
theorem rw_or1 (h : RT X W a ta) : RW X W (.BoolOp .Or [a] pos) ta := pw_or1 h
theorem rw_and (ha : RT X W a ta) (hb : RW X W (.BoolOp .And (b :: rest) pos) tb) : RW X W (.BoolOp .And (a :: b :: rest) pos) (mAndT ta tb) :=
  (pw_and ha hb).imp fun σ H Q h => by
    obtain ⟨ρ, env, mh, sh, se, p⟩ := h
    refine ⟨ρ, env, mh, sh, se, PostT.bindT p fun k mh1 ρ1 H1 _ l1 sh1 p1 => ?_⟩
    cases k with
    | true => exact ⟨ρ1, env, mh1, sh1, se.mono l1, p1⟩
    | false => exact (show PostT X.kw ρ1 H1 (.ok false mh1) Q _ from p1) ρ1 H1 .refl sh1
theorem rw_or (ha : RT X W a ta) (hb : RW X W (.BoolOp .Or (b :: rest) pos) tb) : RW X W (.BoolOp .Or (a :: b :: rest) pos) (mOrT ta tb) :=
  (pw_or ha hb).imp fun σ H Q h => by
    obtain ⟨ρ, env, mh, sh, se, p⟩ := h
    refine ⟨ρ, env, mh, sh, se, PostT.bindT p fun k mh1 ρ1 H1 _ l1 sh1 p1 => ?_⟩
    cases k with
    | false => exact ⟨ρ1, env, mh1, sh1, se.mono l1, p1⟩
    | true => exact (show PostT X.kw ρ1 H1 (.ok true mh1) Q _ from p1) ρ1 H1 .refl sh1
theorem rt_not (ha : RT X W a ta) : RT X W (.UnaryOp .Not a pos) (mNotT ta) :=
  (pt_not ha).imp fun σ H Q h => by
    obtain ⟨ρ, env, mh, sh, se, p⟩ := h
    exact ⟨ρ, env, mh, sh, se, PostT.bindT p fun k mh1 ρ1 H1 _ l1 sh1 p1 => p1 ρ1 H1 .refl sh1⟩
theorem bl_bind {K : KW} {ρ : List Addr} {H : Hp} {v : PV} {x : V} {mh : MH} {f : Bool → MH → R PV} {Q : VK} {E} (rv : RV K ρ H v x) (p : Post K ρ H ((isBl v mh).bind f) Q E) : ∃ k, v = .bl k ∧ x = .bl k ∧ Post K ρ H (f k mh) Q E := by
  cases rv with
  | bl k => exact ⟨k, rfl, rfl, p⟩
  | non => exact p.elim
  | int _ => exact p.elim
  | str _ => exact p.elim
  | tup _ _ => exact p.elim
  | ref _ => exact p.elim
theorem re_one {op} (h : RE X W a ma) : RE X W (.BoolOp op [a] pos) ma := pe_one h
theorem re_and (ha : RE X W a ma) (hb : RE X W (.BoolOp .And (b :: rest) pos) mb) : RE X W (.BoolOp .And (a :: b :: rest) pos) (mAndV ma mb) :=
  (pe_and ha hb).imp fun σ H Q h => by
    obtain ⟨ρ, env, mh, sh, se, p⟩ := h
    refine ⟨ρ, env, mh, sh, se, Post.bind p fun v mh1 ρ1 x H1 _ l1 sh1 rv p1 => ?_⟩
    obtain ⟨k, rfl, rfl, p2⟩ := bl_bind rv p1
    refine ⟨k, rfl, ?_⟩
    cases k with
    | true => exact ⟨ρ1, env, mh1, sh1, se.mono l1, p2⟩
    | false => exact (show Post X.kw ρ1 H1 (.ok (.bl false) mh1) Q _ from p2).mk sh1 (.bl false)
theorem re_or (ha : RE X W a ma) (hb : RE X W (.BoolOp .Or (b :: rest) pos) mb) : RE X W (.BoolOp .Or (a :: b :: rest) pos) (mOrV ma mb) :=
  (pe_or ha hb).imp fun σ H Q h => by
    obtain ⟨ρ, env, mh, sh, se, p⟩ := h
    refine ⟨ρ, env, mh, sh, se, Post.bind p fun v mh1 ρ1 x H1 _ l1 sh1 rv p1 => ?_⟩
    obtain ⟨k, rfl, rfl, p2⟩ := bl_bind rv p1
    refine ⟨k, rfl, ?_⟩
    cases k with
    | false => exact ⟨ρ1, env, mh1, sh1, se.mono l1, p2⟩
    | true => exact (show Post X.kw ρ1 H1 (.ok (.bl true) mh1) Q _ from p2).mk sh1 (.bl true)
theorem re_not (ha : RE X W a ma) : RE X W (.UnaryOp .Not a pos) (mNotV ma) :=
  (pe_not ha).imp fun σ H Q h => by
    obtain ⟨ρ, env, mh, sh, se, p⟩ := h
    refine ⟨ρ, env, mh, sh, se, Post.bind p fun v mh1 ρ1 x H1 _ l1 sh1 rv p1 => ?_⟩
    obtain ⟨k, rfl, rfl, p2⟩ := bl_bind rv p1
    exact ⟨k, rfl, p2.mk sh1 (.bl _)⟩
theorem re_if (hc : RT X W c tc) (ha : RE X W a ma) (hb : RE X W b mb) : RE X W (.IfExp c a b pos) (mIf tc ma mb) :=
  (pe_ifExp hc ha hb).imp fun σ H Q h => by
    obtain ⟨ρ, env, mh, sh, se, p⟩ := h
    refine ⟨ρ, env, mh, sh, se, PostT.bind p fun k mh1 ρ1 H1 _ l1 sh1 p1 => ?_⟩
    cases k with
    | true => exact ⟨ρ1, env, mh1, sh1, se.mono l1, p1⟩
    | false => exact ⟨ρ1, env, mh1, sh1, se.mono l1, p1⟩
end

/-! ### statements -/
section
variable {X : Cx} {W : WX} {e : Expr} {pos : Pos} {ma : PEnv → MH → R PV} {tc : PEnv → MH → R Bool} {st : Stmt} {rest : List Stmt} {s1 s2 : PEnv → MH → RS}
def sNext : PEnv → MH → RS := fun env mh => .nx env mh
def RS.andThen (r : RS) (f : PEnv → MH → RS) : RS := match r with
  | .nx e h => f e h
  | r => r
def sSeq (s1 s2 : PEnv → MH → RS) : PEnv → MH → RS := fun env mh => (s1 env mh).andThen s2
def sBreak : PEnv → MH → RS := fun env mh => .bk env mh
def sCont : PEnv → MH → RS := fun env mh => .ct env mh
def sExpr (m : PEnv → MH → R PV) : PEnv → MH → RS := fun env mh => (m env mh).bindS env fun _ mh1 => .nx env mh1
def sRet (m : PEnv → MH → R PV) : PEnv → MH → RS := fun env mh => (m env mh).bindS env fun v mh1 => .rt v mh1
def sRetN : PEnv → MH → RS := fun _ mh => .rt .non mh
def sIf (tc : PEnv → MH → R Bool) (s1 s2 : PEnv → MH → RS) : PEnv → MH → RS := fun env mh => (tc env mh).bindS env fun k mh1 => if k = true then s1 env mh1 else s2 env mh1
def sNever : PEnv → MH → RS := fun _ _ => .bad
theorem rss_nil : RSs X W [] sNext := pss_nil.imp fun D σ H h => by
  obtain ⟨ρ, env, mh, sh, se, p⟩ := h
  exact p ρ σ H .refl sh se
theorem rss_cons (h1 : RSt X W st s1) (h2 : RSs X W rest s2) : RSs X W (st :: rest) (sSeq s1 s2) :=
  (pss_cons h1 h2).imp fun D σ H h => by
    obtain ⟨ρ, env, mh, sh, se, p⟩ := h
    refine ⟨ρ, env, mh, sh, se, ?_⟩
    unfold sSeq at p
    cases e : s1 env mh with
    | nx e2 h2 =>
      rw [e] at p
      exact fun ρ' σ' H' l sh' se' => ⟨ρ', e2, h2, sh', se', PostS.le l p⟩
    | rt v h => rw [e] at p; exact p
    | bk v h => rw [e] at p; exact p
    | ct v h => rw [e] at p; exact p
    | exc c v e h => rw [e] at p; exact p
    | bad => rw [e] at p; exact p
theorem rs_pass : RSt X W (.Pass pos) sNext := ps_pass.imp fun D σ H h => by
  obtain ⟨ρ, env, mh, sh, se, p⟩ := h
  exact p ρ σ H .refl sh se
theorem rs_break : RSt X W (.Break pos) sBreak := ps_break.imp fun D σ H h => by
  obtain ⟨ρ, env, mh, sh, se, p⟩ := h
  exact p ρ σ H .refl sh se
theorem rs_continue : RSt X W (.Continue pos) sCont := ps_continue.imp fun D σ H h => by
  obtain ⟨ρ, env, mh, sh, se, p⟩ := h
  exact p ρ σ H .refl sh se
theorem rs_never : RSt X W st sNever := ps_never.imp fun D σ H h => by
  obtain ⟨ρ, env, mh, sh, se, p⟩ := h
  exact p.elim
theorem rs_expr (h : RE X W e ma) (hs : swapsWith e none pos.line X.env = pure false) : RSt X W (.Expr e pos) (sExpr ma) :=
  (ps_expr h hs).imp fun D σ H h => by
    obtain ⟨ρ, env, mh, sh, se, p⟩ := h
    exact ⟨ρ, env, mh, sh, se, Post.bindS se p fun v mh1 ρ1 x H1 _ l1 sh1 rv p1 => p1 ρ1 σ H1 .refl sh1 (se.mono l1)⟩
theorem rs_ret (h : RE X W e ma) : RSt X W (.Return (some e) pos) (sRet ma) :=
  (ps_ret h).imp fun D σ H h => by
    obtain ⟨ρ, env, mh, sh, se, p⟩ := h
    exact ⟨ρ, env, mh, sh, se, Post.bindS se p fun v mh1 ρ1 x H1 _ l1 sh1 rv p1 => p1 ρ1 x H1 .refl sh1 rv⟩
theorem rs_retN : RSt X W (.Return none pos) sRetN := ps_retN.imp fun D σ H h => by
  obtain ⟨ρ, env, mh, sh, se, p⟩ := h
  exact p ρ .non H .refl sh .non
theorem rs_if {c : Expr} {sa sb : List Stmt} (hc : RT X W c tc) (ha : RSs X W sa s1) (hb : RSs X W sb s2) : RSt X W (.If c sa sb pos) (sIf tc s1 s2) :=
  (ps_if hc ha hb).imp fun D σ H h => by
    obtain ⟨ρ, env, mh, sh, se, p⟩ := h
    refine ⟨ρ, env, mh, sh, se, PostT.bindS se p fun k mh1 ρ1 H1 _ l1 sh1 p1 => ?_⟩
    cases k with
    | true => exact ⟨ρ1, env, mh1, sh1, se.mono l1, p1⟩
    | false => exact ⟨ρ1, env, mh1, sh1, se.mono l1, p1⟩

end
end Ev
namespace L2
open PySem PySem.Spec PyProof.Rows
section
variable {X : Cx} {e : Expr}
theorem PG.imp {t t' : TG} (h : PG X e t) (k : ∀ v σ H Q, t' v σ H Q → t v σ H Q) : PG X e t' := ⟨fun pins s σ H v u Q I r q => h.run pins s σ H v u Q I r (k v σ H Q q)⟩
theorem PGs.imp {es : List Expr} {t t' : TGs} (h : PGs X es t) (k : ∀ v σ H Q, t' v σ H Q → t v σ H Q) : PGs X es t' := ⟨fun pins s σ H v u Q I r q => h.run pins s σ H v u Q I r (k v σ H Q q)⟩
theorem PG.or {t t' : TG} (h : PG X e t) (h' : PG X e t') : PG X e (fun v σ H Q => t v σ H Q ∨ t' v σ H Q) := ⟨fun pins s σ H v u Q I r q => q.elim (h.run pins s σ H v u Q I r) (h'.run pins s σ H v u Q I r)⟩
theorem PI.imp {tg : Expr} {t t' : TI} (h : PI X tg e t) (k : ∀ σ H Q, t' σ H Q → t σ H Q) : PI X tg e t' := ⟨fun pins s σ H R I q => h.run pins s σ H R I (k σ H R q)⟩
theorem PI.or {tg : Expr} {t t' : TI} (h : PI X tg e t) (h' : PI X tg e t') : PI X tg e (fun σ H Q => t σ H Q ∨ t' σ H Q) := ⟨fun pins s σ H R I q => q.elim (h.run pins s σ H R I) (h'.run pins s σ H R I)⟩
theorem PE.or {t t' : TE} (h : PE X e t) (h' : PE X e t') : PE X e (fun σ H Q => t σ H Q ∨ t' σ H Q) := ⟨fun pins s σ H R I q => q.elim (h.run pins s σ H R I) (h'.run pins s σ H R I)⟩
end
end L2
namespace Ev
open PySem PySem.Spec PyProof.Rows L2
/-! ### targets -/
/-- a name, or a tuple of targets (tp of a chain of cons) -/
inductive Tg where
  | nm (i : Nat)
  | tp (r : Tg)
  | nil
  | cons (t : Tg) (r : Tg)
def seqOf (v : PV) (mh : MH) : Option (List PV) := match v with
  | .tup vs => some vs
  | .ref n => match mh[n]? with
    | some (.lst vs) => some vs
    | some (.scr vs) => some vs
    | _ => none
  | _ => none
def Tg.len : Tg → Nat
  | .cons _ r => r.len + 1
  | _ => 0
mutual
/-- v is stored at the target -/
def asg : Tg → PV → PEnv → MH → Option PEnv
  | .nm i, v, env, _ => some (env.set i (some v))
  | .tp r, v, env, mh => match seqOf v mh with
    | some vs => asgs r vs env mh
    | none => none
  | .nil, _, _, _ => none
  | .cons _ _, _, _, _ => none
def asgs : Tg → List PV → PEnv → MH → Option PEnv
  | .nm _, _, _, _ => none
  | .tp _, _, _, _ => none
  | .nil, vs, env, _ => match vs with
    | [] => some env
    | _ => none
  | .cons t r, vs, env, mh => match vs with
    | v :: vs => match asg t v env mh with
      | some env2 => asgs r vs env2 mh
      | none => none
    | [] => none
end
section
variable {K : KW} {ρ : List Addr} {H : Hp} {mh : MH} {v : PV} {x : V} {vs : List PV}
/-- what a sequence is, below -/
theorem seq_below (sh : SimH K ρ mh H) (rv : RV K ρ H v x) (e : seqOf v mh = some vs) : ∃ a ws, x = .ref a ∧ RVs K ρ H vs ws ∧ ((SqT K.k H a ws ∧ ∃ us, v = .tup us) ∨ (SqL K.k H a ws ∧ ∃ n, v = .ref n)) := by
  cases rv with
  | tup h r =>
    simp only [seqOf, Option.some.injEq] at e
    subst e
    exact ⟨_, _, rfl, r, .inl ⟨h, _, rfl⟩⟩
  | @ref n a h =>
    simp only [seqOf] at e
    cases q : mh[n]? with
    | none => rw [q] at e; cases e
    | some o =>
      have ro := sh.ob n o a q h
      cases o with
      | lst us =>
        rw [q] at e
        cases e
        obtain ⟨ws, h1, h2⟩ := ro
        exact ⟨a, ws, rfl, h2, .inr ⟨.inl (.inl h1), _, rfl⟩⟩
      | scr us =>
        rw [q] at e
        cases e
        obtain ⟨ws, h1, h2⟩ := ro
        exact ⟨a, ws, rfl, h2, .inr ⟨h1.sq, _, rfl⟩⟩
      | dict _ => rw [q] at e; cases e
      | ins _ _ => rw [q] at e; cases e
      | exo _ _ => rw [q] at e; cases e
      | iset _ => rw [q] at e; cases e
  | non => cases e
  | bl _ => cases e
  | int _ => cases e
  | str _ => cases e
end
def Tg.slots : Tg → List Nat
  | .nm i => [i]
  | .tp r => r.slots
  | .nil => []
  | .cons t r => t.slots ++ r.slots
/-- the other slots are as they were -/
structure Only (sl : List Nat) (σ σ' : L2.St) : Prop where
  len : σ'.length = σ.length
  at_ : ∀ i, i ∉ sl → σ'[i]? = σ[i]?
theorem Only.trans {s1 s2 : List Nat} {σ σ1 σ2 : L2.St} (a : Only s1 σ σ1) (b : Only s2 σ1 σ2) : Only (s1 ++ s2) σ σ2 := ⟨b.len.trans a.len, fun i hi => by
  rw [List.mem_append, not_or] at hi
  exact (b.at_ i hi.2).trans (a.at_ i hi.1)⟩
theorem Only.wipe {sl : List Nat} {σ σ' : L2.St} (h : Only sl σ σ') : ∀ (own : List Nat), (∀ i ∈ sl, i ∈ own) → L2.wipe σ' own = L2.wipe σ own := by
  have key : ∀ (own : List Nat) (i : Nat), (L2.wipe σ' own)[i]? = if i ∈ own then (if i < σ.length then some none else none) else σ'[i]? := by
    intro own
    induction own with
    | nil => intro i; simp [L2.wipe]
    | cons v own ih =>
      intro i
      simp only [L2.wipe]
      by_cases hv : v = i
      · subst hv
        rw [List.getElem?_set]
        simp [L2.wipe_length, h.len]
      · rw [List.getElem?_set_ne hv, ih i]
        have : (i ∈ v :: own) ↔ i ∈ own := by simp [Ne.symm hv]
        simp only [this]
  have key2 : ∀ (own : List Nat) (i : Nat), (L2.wipe σ own)[i]? = if i ∈ own then (if i < σ.length then some none else none) else σ[i]? := by
    intro own
    induction own with
    | nil => intro i; simp [L2.wipe]
    | cons v own ih =>
      intro i
      simp only [L2.wipe]
      by_cases hv : v = i
      · subst hv
        rw [List.getElem?_set]
        simp [L2.wipe_length]
      · rw [List.getElem?_set_ne hv, ih i]
        have : (i ∈ v :: own) ↔ i ∈ own := by simp [Ne.symm hv]
        simp only [this]
  intro own hs
  apply List.ext_getElem?
  intro i
  rw [key, key2]
  by_cases hi : i ∈ own
  · rw [if_pos hi, if_pos hi]
  · rw [if_neg hi, if_neg hi]
    exact h.at_ i fun z => hi (hs i z)
def tG (K : KW) (t : Tg) : TG := fun x σ H Q => ∃ ρ env mh v env', SimH K ρ mh H ∧ SimE K ρ H env σ ∧ RV K ρ H v x ∧ asg t v env mh = some env' ∧ ∀ σ', SimE K ρ H env' σ' → Only t.slots σ σ' → Q σ' H
def tGs (K : KW) (t : Tg) : TGs := fun xs σ H Q => ∃ ρ env mh vs env', SimH K ρ mh H ∧ SimE K ρ H env σ ∧ RVs K ρ H vs xs ∧ asgs t vs env mh = some env' ∧ ∀ σ', SimE K ρ H env' σ' → Only t.slots σ σ' → Q σ' H
section
variable {X : Cx} {W : WX} {pos : Pos} {e : Expr} {es : List Expr}
theorem rg_name {i : Nat} {x : Str} (hN : X.N.Nodup) (hi : X.N[i]? = some x) (hx : Loc X.env.scope x) (hf : X.fn x = true ∨ X.env.scope.names.lookup x = some .local) : PG X (.Name x pos) (tG X.kw (.nm i)) :=
  (pg_name hN hi hx hf).imp fun x σ H Q h => by
    obtain ⟨ρ, env, mh, v, env', sh, se, rv, e, k⟩ := h
    simp only [asg, Option.some.injEq] at e
    subst e
    exact k _ (se.set rv i) ⟨List.length_set, fun j hj => List.getElem?_set_ne (fun z => hj (by simp [Tg.slots, z]))⟩
theorem rgs_nil : PGs X [] (tGs X.kw .nil) := pgs_nil.imp fun xs σ H Q h => by
  obtain ⟨ρ, env, mh, vs, env', sh, se, rv, e, k⟩ := h
  cases vs with
  | nil =>
    simp only [asgs, Option.some.injEq] at e
    subst e
    cases rv
    exact ⟨rfl, k _ se ⟨rfl, fun _ _ => rfl⟩⟩
  | cons v vs => simp [asgs] at e
theorem rgs_cons {t r : Tg} (h1 : PG X e (tG X.kw t)) (h2 : PGs X es (tGs X.kw r)) (hs : (assignEach (e :: es) X.env).map (·.2) = assign e X.env :: (assignEach es X.env).map (·.2)) : PGs X (e :: es) (tGs X.kw (.cons t r)) :=
  (pgs_cons h1 h2 hs).imp fun xs σ H Q h => by
    obtain ⟨ρ, env, mh, vs, env', sh, se, rv, q, k⟩ := h
    cases rv with
    | nil => simp [asgs] at q
    | cons r1 r2 =>
      simp only [asgs] at q
      split at q
      · rename_i env2 e2
        exact ⟨_, _, rfl, ρ, env, mh, _, _, sh, se, r1, e2, fun σ' se' on1 => ⟨ρ, env2, mh, _, env', sh, se', r2, q, fun σ2 se2 on2 => k σ2 se2 (on1.trans on2)⟩⟩
      · cases q
theorem rg_tup {k : Nat} {r : Tg} {n : Nat} (hc : X.calm = true) (h : PGs X es (tGs X.kw r)) (hn : (assignEach es X.env).length = n) (hst : (assignEach es X.env).findIdx? (·.1) = none) (hl : ∀ vs env mh env', asgs r vs env mh = some env' → vs.length = n) :
    PG X (.Tuple es k pos) (tG X.kw (.tp r)) :=
  ((pg_tup hc h hn hst).or (pg_lst hc h hn hst)).imp fun x σ H Q h => by
    obtain ⟨ρ, env, mh, v, env', sh, se, rv, e, kk⟩ := h
    simp only [asg] at e
    split at e
    · rename_i vs e2
      obtain ⟨a, ws, rfl, rvs, q⟩ := seq_below sh rv e2
      have hlen : ws.length = n := by rw [← rvs.length]; exact hl _ _ _ _ e
      rcases q with ⟨q, _⟩ | ⟨q, _⟩
      · exact .inl ⟨a, ws, rfl, q, hlen, ρ, env, mh, vs, env', sh, se, rvs, e, kk⟩
      · exact .inr ⟨a, ws, rfl, q, hlen, ρ, env, mh, vs, env', sh, se, rvs, e, kk⟩
    · cases e
theorem asgs_len : ∀ (r : Tg) (vs : List PV) (env : PEnv) (mh : MH) (env' : PEnv), asgs r vs env mh = some env' → vs.length = r.len
  | .nm _, _, _, _, _, h => by simp [asgs] at h
  | .tp _, _, _, _, _, h => by simp [asgs] at h
  | .nil, vs, _, _, _, h => by
    cases vs with
    | nil => rfl
    | cons _ _ => simp [asgs] at h
  | .cons t r, vs, env, mh, env', h => by
    cases vs with
    | nil => simp [asgs] at h
    | cons v vs =>
      simp only [asgs] at h
      split at h
      · simp only [List.length_cons, Tg.len]
        rw [asgs_len r vs _ mh env' h]
      · cases h
/-! ### assignments -/
def sAsg (m : PEnv → MH → R PV) (t : Tg) : PEnv → MH → RS := fun env mh => (m env mh).bindS env fun v mh1 => match asg t v env mh1 with
  | some env' => .nx env' mh1
  | none => .bad
theorem asg_imp {K : KW} {ma : PEnv → MH → R PV} {t : Tg} {D : Ends} {σ : L2.St} {H : Hp} (h : tSt K W (sAsg ma t) D σ H) : tAsg (tE K W ma) (tG K t) D σ H := by
  obtain ⟨ρ, env, mh, sh, se, p⟩ := h
  refine ⟨ρ, env, mh, sh, se, Post.bindS se p fun v mh1 ρ1 x H1 _ l1 sh1 rv p1 => ?_⟩
  split at p1
  · rename_i env' e
    exact ⟨ρ1, env, mh1, v, env', sh1, se.mono l1, rv, e, fun σ' se' _ => p1 ρ1 σ' H1 .refl sh1 se'⟩
  · exact p1.elim
theorem rs_asg {tg : Expr} {ma : PEnv → MH → R PV} {t : Tg} (he : RE X W e ma) (hg : PG X tg (tG X.kw t)) (hs : swapsWithSole [tg] e pos.line X.env = pure false) (hw : swappedStores [tg] e X.env = pure none)
    (h1 : (assignEach [tg] X.env).map (·.2) = [assign tg X.env]) : RSt X W (.Assign [tg] e pos) (sAsg ma t) :=
  (ps_asg he hg hs hw h1).imp fun D σ H h => asg_imp h
theorem rs_set {i : Nat} {x : Str} {ma : PEnv → MH → R PV} {p : Pos} (hN : X.N.Nodup) (hi : X.N[i]? = some x) (hx : Loc X.env.scope x) (he : RE X W e ma) (hs : swapsWith e (some (.Name x p)) pos.line X.env = pure false) (hf : X.fn x = true ∨ X.env.scope.names.lookup x = some .local) :
    RSt X W (.Assign [.Name x p] e pos) (sAsg ma (.nm i)) :=
  (ps_set hN hi hx he hs hf).imp fun D σ H h => by
    obtain ⟨ρ, env, mh, sh, se, p⟩ := h
    refine ⟨ρ, env, mh, sh, se, Post.bindS se p fun v mh1 ρ1 x H1 _ l1 sh1 rv p1 => ?_⟩
    exact p1 ρ1 _ H1 .refl sh1 ((se.mono l1).set rv i)
/-- a, b = x, y (names): the pair is not made -/
def sPar (i j : Nat) (m : PEnv → MH → R (List PV)) : PEnv → MH → RS := fun env mh => (m env mh).bindS env fun vs mh1 => match vs with
  | [v, w] => .nx ((env.set i (some v)).set j (some w)) mh1
  | _ => .bad
def sPar3 (i j l : Nat) (m : PEnv → MH → R (List PV)) : PEnv → MH → RS := fun env mh => (m env mh).bindS env fun vs mh1 => match vs with
  | [v, w, u] => .nx (((env.set i (some v)).set j (some w)).set l (some u)) mh1
  | _ => .bad
theorem rs_par {i j : Nat} {x y : Str} {a b : Expr} {m : PEnv → MH → R (List PV)} {px py pt : Pos} {kt k2 pt2} (hc : X.calm = true) (hN : X.N.Nodup) (hi : X.N[i]? = some x) (hj : X.N[j]? = some y) (hij : i ≠ j)
    (hx : X.env.scope.names.lookup x = some .local) (hy : X.env.scope.names.lookup y = some .local) (ha : RA X W [a, b] m)
    (hw : swappedStores [.Tuple [.Name x px, .Name y py] kt pt] (.Tuple [a, b] k2 pt2) X.env = pure (some [x, y]))
    (hs : swapsWithSole [.Tuple [.Name x px, .Name y py] kt pt] (.Tuple [a, b] k2 pt2) pos.line X.env = pure false) :
    RSt X W (.Assign [.Tuple [.Name x px, .Name y py] kt pt] (.Tuple [a, b] k2 pt2) pos) (sPar i j m) :=
  (ps_par hc hN hi hj hij hx hy ha hw hs).imp fun D σ H h => by
    obtain ⟨ρ, env, mh, sh, se, p⟩ := h
    refine ⟨ρ, env, mh, sh, se, PostA.bindS se p fun vs mh1 ρ1 xs H1 _ l1 sh1 rv p1 => ?_⟩
    split at p1
    · cases rv with
      | cons r1 r2 =>
        cases r2 with
        | cons r2 r3 =>
          cases r3
          exact ⟨_, _, rfl, p1 ρ1 _ H1 .refl sh1 (((se.mono l1).set r1 i).set r2 j)⟩
    · exact p1.elim
theorem rs_par3 {i j l : Nat} {x y z : Str} {a b c : Expr} {m : PEnv → MH → R (List PV)} {px py pz pt : Pos} {kt k2 pt2} (hc : X.calm = true) (hN : X.N.Nodup) (hi : X.N[i]? = some x) (hj : X.N[j]? = some y) (hl : X.N[l]? = some z) (hij : i ≠ j) (hil : i ≠ l) (hjl : j ≠ l)
    (hx : X.env.scope.names.lookup x = some .local) (hy : X.env.scope.names.lookup y = some .local) (hz : X.env.scope.names.lookup z = some .local) (ha : RA X W [a, b, c] m)
    (hw : swappedStores [.Tuple [.Name x px, .Name y py, .Name z pz] kt pt] (.Tuple [a, b, c] k2 pt2) X.env = pure (some [x, y, z]))
    (hs : swapsWithSole [.Tuple [.Name x px, .Name y py, .Name z pz] kt pt] (.Tuple [a, b, c] k2 pt2) pos.line X.env = pure false) :
    RSt X W (.Assign [.Tuple [.Name x px, .Name y py, .Name z pz] kt pt] (.Tuple [a, b, c] k2 pt2) pos) (sPar3 i j l m) :=
  (ps_par3 hc hN hi hj hl hij hil hjl hx hy hz ha hw hs).imp fun D σ H h => by
    obtain ⟨ρ, env, mh, sh, se, p⟩ := h
    refine ⟨ρ, env, mh, sh, se, PostA.bindS se p fun vs mh1 ρ1 xs H1 _ l1 sh1 rv p1 => ?_⟩
    split at p1
    · cases rv with
      | cons r1 r2 =>
        cases r2 with
        | cons r2 r3 =>
          cases r3 with
          | cons r3 r4 =>
            cases r4
            exact ⟨_, _, _, rfl, p1 ρ1 _ H1 .refl sh1 ((((se.mono l1).set r1 i).set r2 j).set r3 l)⟩
    · exact p1.elim

/-! ### what is walked -/
/-- the items, one by one, as they stand -/
inductive Src where
  | vals (vs : List PV)
  | lst (n : Nat)
  | enum (s : Src)
  | zip (s t : Src)
def zipI (x y : Option (Option PV)) : Option (Option PV) := match x, y with
  | some (some v), some (some w) => some (some (.tup [v, w]))
  | some none, some _ => some none
  | some _, some none => some none
  | _, _ => none
/-- none: bad; some none: at the end -/
def Src.item : Src → MH → Nat → Option (Option PV)
  | .vals vs, _, i => some vs[i]?
  | .lst n, mh, i => match mh[n]? with
    | some (.lst vs) => some vs[i]?
    | some (.scr vs) => some vs[i]?
    | _ => none
  | .enum s, mh, i => match s.item mh i with
    | some (some v) => some (some (.tup [.int (i : Nat), v]))
    | some none => some none
    | none => none
  | .zip s t, mh, i => zipI (s.item mh i) (t.item mh i)
def JOk (K : KW) (ρ₀ : List Addr) (H₀ : Hp) (src : Src) (J : It) : Prop := ∀ ρ mh H (i : Nat), Le K ρ₀ H₀ ρ H → SimH K ρ mh H → match src.item mh i with
  | none => True
  | some none => J.stop i H
  | some (some v) => J.go i H ∧ ∀ x H', J.yld i H x H' → Le K ρ H ρ H' ∧ SimH K ρ mh H' ∧ RV K ρ H' v x
def PostI (K : KW) (ρ : List Addr) (H : Hp) (r : R Src) (Q : It → Hp → Prop) (E : Value → Option Addr → Hp → Prop) : Prop := match r with
  | .ok src mh' => ∀ ρ' H' J, Le K ρ H ρ' H' → SimH K ρ' mh' H' → JOk K ρ' H' src J → Q J H'
  | .exc c v mh' => ∀ ρ' w d H', Le K ρ H ρ' H' → SimH K ρ' mh' H' → RV K ρ' H' v w → H' d = some (.xd [("value", w)]) → E (.ref (He.ga K.k c)) (some d) H'
  | .bad => False
theorem PostI.le {K : KW} {ρ ρ1 : List Addr} {H H1 : Hp} {r : R Src} {Q E} (l : Le K ρ H ρ1 H1) (p : PostI K ρ H r Q E) : PostI K ρ1 H1 r Q E := by
  cases r with
  | ok v mh => exact fun ρ' H' J a b c => p ρ' H' J (l.trans a) b c
  | exc c v mh => exact fun ρ' w d H' a b c e => p ρ' w d H' (l.trans a) b c e
  | bad => exact p
def tI (K : KW) (W : WX) (m : PEnv → MH → R Src) : TI := fun σ H Q => ∃ ρ env mh, SimH K ρ mh H ∧ SimE K ρ H env σ ∧ PostI K ρ H (m env mh) Q (fun c d H' => W c d σ H')
abbrev RI (X : Cx) (W : WX) (tg iter : Expr) (m : PEnv → MH → R Src) : Prop := PI X tg iter (tI X.kw W m)
/-- fuel for loops -/
def loopFuel : Nat := 16777216
/-- for t in src: body; i the turn -/
def forL (src : Src) (t : Tg) (body : PEnv → MH → RS) : Nat → Nat → PEnv → MH → RS
  | 0, _, _, _ => .bad
  | fuel + 1, i, env, mh => match src.item mh i with
    | none => .bad
    | some none => .nx env mh
    | some (some v) => match asg t v env mh with
      | none => .bad
      | some env2 => match body env2 mh with
        | .nx env3 mh3 => forL src t body fuel (i + 1) env3 mh3
        | .ct env3 mh3 => forL src t body fuel (i + 1) env3 mh3
        | .bk env3 mh3 => .nx env3 mh3
        | r => r
def sFor (ms : PEnv → MH → R Src) (t : Tg) (body : PEnv → MH → RS) : PEnv → MH → RS := fun env mh => (ms env mh).bindS env fun src mh1 => forL src t body loopFuel 0 env mh1
theorem PostI.bindS {K : KW} {ρ : List Addr} {H : Hp} {σ : L2.St} {r : R Src} {env : PEnv} {f : Src → MH → RS} {D : Ends} {Q1 : It → Hp → Prop} (se : SimE K ρ H env σ) (h : PostS K ρ H (r.bindS env f) D W)
    (k : ∀ src mh1 ρ1 H1 J, r = .ok src mh1 → Le K ρ H ρ1 H1 → SimH K ρ1 mh1 H1 → JOk K ρ1 H1 src J → PostS K ρ1 H1 (f src mh1) D W → Q1 J H1) : PostI K ρ H r Q1 (fun c d H' => W c d σ H') := by
  cases r with
  | ok v mh => exact fun ρ' H' J a b c => k v mh ρ' H' J rfl a b c (PostS.le a h)
  | exc c v mh => exact fun ρ' w d H' a b c e => h ρ' w d σ H' a b (se.mono a) c e
  | bad => exact h
theorem rs_for {tg iter : Expr} {body : List Stmt} {ms : PEnv → MH → R Src} {t : Tg} {mb : PEnv → MH → RS} (hp : PassesOwn (model X.prog X.w) X.A X.env X.xe) (hc : X.calm = true) (hi : RI X W tg iter ms) (hg : PG X tg (tG X.kw t)) (hb : RSs X W body mb)
    (hs : ∀ x, foldedSetIterable iter X.env x = pure x) : RSt X W (.For tg iter body [] pos) (sFor ms t mb) :=
  (ps_for hp hc hi hg hb hs).imp fun D σ H h => by
    obtain ⟨ρ, env, mh, sh, se, p⟩ := h
    refine ⟨ρ, env, mh, sh, se, PostI.bindS se p fun src mh1 ρ1 H1 J _ l1 sh1 jo p1 => ?_⟩
    refine ⟨fun i m σ H => ∃ ρ env mh, Le X.kw ρ1 H1 ρ H ∧ SimH X.kw ρ mh H ∧ SimE X.kw ρ H env σ ∧ PostS X.kw ρ H (forL src t mb m i env mh) D W, ⟨loopFuel, ρ1, env, mh1, .refl, sh1, se.mono l1, p1⟩, ?_⟩
    rintro i m σ2 H2 ⟨ρ2, env2, mh2, l2, sh2, se2, p2⟩
    cases m with
    | zero => exact p2.elim
    | succ m =>
      have j := jo ρ2 mh2 H2 i l2 sh2
      simp only [forL] at p2
      cases q : src.item mh2 i with
      | none => rw [q] at p2; exact p2.elim
      | some o =>
        rw [q] at j p2
        cases o with
        | none => exact .inl ⟨j, p2 ρ2 σ2 H2 .refl sh2 se2⟩
        | some v =>
          obtain ⟨jg, jy⟩ := j
          refine .inr ⟨jg, ?_⟩
          simp only at p2
          cases q2 : asg t v env2 mh2 with
          | none => rw [q2] at p2; exact p2.elim
          | some env3 =>
            rw [q2] at p2
            simp only at p2
            refine ⟨fun σ4 H4 => ∃ ρ4 env4 mh4, Le X.kw ρ1 H1 ρ4 H4 ∧ SimH X.kw ρ4 mh4 H4 ∧ SimE X.kw ρ4 H4 env4 σ4 ∧ PostS X.kw ρ4 H4 (forL src t mb m (i + 1) env4 mh4) D W, fun σ4 H4 w4 => ⟨m, Nat.lt_succ_self m, w4⟩, fun x H3 y => ?_⟩
            obtain ⟨l3, sh3, rv3⟩ := jy x H3 y
            refine ⟨ρ2, env2, mh2, v, env3, sh3, se2.mono l3, rv3, q2, fun σ3 se3 _ => ?_⟩
            refine ⟨ρ2, env3, mh2, sh3, se3, ?_⟩
            have l23 : Le X.kw ρ1 H1 ρ2 H3 := l2.trans l3
            cases q3 : mb env3 mh2 with
            | nx env4 mh4 =>
              rw [q3] at p2
              exact fun ρ4 σ4 H4 l4 sh4 se4 => ⟨ρ4, env4, mh4, l23.trans l4, sh4, se4, PostS.le (l3.trans l4) p2⟩
            | ct env4 mh4 =>
              rw [q3] at p2
              exact fun ρ4 σ4 H4 l4 sh4 se4 => ⟨ρ4, env4, mh4, l23.trans l4, sh4, se4, PostS.le (l3.trans l4) p2⟩
            | bk env4 mh4 =>
              rw [q3] at p2
              exact fun ρ4 σ4 H4 l4 sh4 se4 => p2 ρ4 σ4 H4 (l3.trans l4) sh4 se4
            | rt v mh4 =>
              rw [q3] at p2
              exact fun ρ4 w H4 l4 sh4 rv4 => p2 ρ4 w H4 (l3.trans l4) sh4 rv4
            | exc c v env4 mh4 =>
              rw [q3] at p2
              exact fun ρ4 w d σ4 H4 l4 sh4 se4 rv4 hd => p2 ρ4 w d σ4 H4 (l3.trans l4) sh4 se4 rv4 hd
            | bad => rw [q3] at p2; exact p2
/-- while -/
def whileL (tc : PEnv → MH → R Bool) (body : PEnv → MH → RS) : Nat → PEnv → MH → RS
  | 0, _, _ => .bad
  | fuel + 1, env, mh => (tc env mh).bindS env fun k mh1 => if k = true then (match body env mh1 with
      | .nx env3 mh3 => whileL tc body fuel env3 mh3
      | .ct env3 mh3 => whileL tc body fuel env3 mh3
      | .bk env3 mh3 => .nx env3 mh3
      | r => r) else .nx env mh1
def sWhile (tc : PEnv → MH → R Bool) (body : PEnv → MH → RS) : PEnv → MH → RS := fun env mh => whileL tc body loopFuel env mh
theorem rs_while {c : Expr} {body : List Stmt} {tc : PEnv → MH → R Bool} {mb : PEnv → MH → RS} (hp : PassesOwn (model X.prog X.w) X.A X.env X.xe) (hc : RT X W c tc) (hb : RSs X W body mb) : RSt X W (.While c body [] pos) (sWhile tc mb) :=
  (ps_while hp hc hb).imp fun D σ H h => by
    obtain ⟨ρ, env, mh, sh, se, p⟩ := h
    refine ⟨fun m σ H => ∃ ρ env mh, SimH X.kw ρ mh H ∧ SimE X.kw ρ H env σ ∧ PostS X.kw ρ H (whileL tc mb m env mh) D W, ⟨loopFuel, ρ, env, mh, sh, se, p⟩, ?_⟩
    rintro m σ2 H2 ⟨ρ2, env2, mh2, sh2, se2, p2⟩
    cases m with
    | zero => exact p2.elim
    | succ m =>
      simp only [whileL] at p2
      refine ⟨ρ2, env2, mh2, sh2, se2, PostT.bindS se2 p2 fun k mh3 ρ3 H3 _ l3 sh3 p3 => ?_⟩
      cases k with
      | false => exact (show PostS X.kw ρ3 H3 (.nx env2 mh3) D W from p3) ρ3 σ2 H3 .refl sh3 (se2.mono l3)
      | true =>
        simp only [if_true] at p3
        refine ⟨fun σ4 H4 => ∃ ρ4 env4 mh4, SimH X.kw ρ4 mh4 H4 ∧ SimE X.kw ρ4 H4 env4 σ4 ∧ PostS X.kw ρ4 H4 (whileL tc mb m env4 mh4) D W, fun σ4 H4 w4 => ⟨m, Nat.lt_succ_self m, w4⟩, ρ3, env2, mh3, sh3, se2.mono l3, ?_⟩
        cases q3 : mb env2 mh3 with
        | nx env4 mh4 =>
          rw [q3] at p3
          exact fun ρ4 σ4 H4 l4 sh4 se4 => ⟨ρ4, env4, mh4, sh4, se4, PostS.le l4 p3⟩
        | ct env4 mh4 =>
          rw [q3] at p3
          exact fun ρ4 σ4 H4 l4 sh4 se4 => ⟨ρ4, env4, mh4, sh4, se4, PostS.le l4 p3⟩
        | bk env4 mh4 =>
          rw [q3] at p3
          exact fun ρ4 σ4 H4 l4 sh4 se4 => p3 ρ4 σ4 H4 l4 sh4 se4
        | rt v mh4 =>
          rw [q3] at p3
          exact p3
        | exc c v env4 mh4 =>
          rw [q3] at p3
          exact p3
        | bad => rw [q3] at p3; exact p3
end
end Ev
namespace Ev
open PySem PySem.Spec PyProof.Rows L2 RZ
section
variable {K : KW} {ρ : List Addr} {H : Hp} {W : WX} {σ : L2.St}
theorem Post.bindI {r : R PV} {f : PV → MH → R Src} {Q : It → Hp → Prop} {Q1 : VK} {E} (h : PostI K ρ H (r.bind f) Q E)
    (k : ∀ v mh1 ρ1 x H1, r = .ok v mh1 → Le K ρ H ρ1 H1 → SimH K ρ1 mh1 H1 → RV K ρ1 H1 v x → PostI K ρ1 H1 (f v mh1) Q E → Q1 x H1) : Post K ρ H r Q1 E := by
  cases r with
  | ok v mh => exact fun ρ' w H' a b c => k v mh ρ' w H' rfl a b c (PostI.le a h)
  | exc c v mh => exact h
  | bad => exact h
theorem PostA.bindI {r : R (List PV)} {f : List PV → MH → R Src} {Q : It → Hp → Prop} {Q1 : List V → Hp → Prop} {E} (h : PostI K ρ H (r.bind f) Q E)
    (k : ∀ v mh1 ρ1 x H1, r = .ok v mh1 → Le K ρ H ρ1 H1 → SimH K ρ1 mh1 H1 → RVs K ρ1 H1 v x → PostI K ρ1 H1 (f v mh1) Q E → Q1 x H1) : PostA K ρ H r Q1 E := by
  cases r with
  | ok v mh => exact fun ρ' w H' a b c => k v mh ρ' w H' rfl a b c (PostI.le a h)
  | exc c v mh => exact h
  | bad => exact h
theorem PostI.bind {r : R Src} {f : Src → MH → R PV} {Q : VK} {Q1 : It → Hp → Prop} {E} (h : Post K ρ H (r.bind f) Q E)
    (k : ∀ v mh1 ρ1 J H1, r = .ok v mh1 → Le K ρ H ρ1 H1 → SimH K ρ1 mh1 H1 → JOk K ρ1 H1 v J → Post K ρ1 H1 (f v mh1) Q E → Q1 J H1) : PostI K ρ H r Q1 E := by
  cases r with
  | ok v mh => exact fun ρ' H' J a b c => k v mh ρ' J H' rfl a b c (Post.le a h)
  | exc c v mh => exact h
  | bad => exact h
theorem jok_vals {vs : List PV} {J : It} (h : ∀ ρ' (mh : MH) H' (i : Nat), Le K ρ H ρ' H' → SimH K ρ' mh H' → match vs[i]? with
    | none => J.stop i H'
    | some v => J.go i H' ∧ ∀ x H2, J.yld i H' x H2 → Le K ρ' H' ρ' H2 ∧ SimH K ρ' mh H2 ∧ RV K ρ' H2 v x) : JOk K ρ H (.vals vs) J := fun ρ' mh H' i l sh => by
  have q := h ρ' mh H' i l sh
  simp only [Src.item]
  cases e : vs[i]? with
  | none => rw [e] at q; exact q
  | some v => rw [e] at q; exact q
theorem jok_tup {vs : List PV} {ws : List V} {a : Addr} (h : SqT K.k H a ws) (r : RVs K ρ H vs ws) : JOk K ρ H (.vals vs) (Itt K.k a) := jok_vals fun ρ' mh H' i l sh => by
  have h' := l.grow _ _ h
  cases e : vs[i]? with
  | none =>
    refine ⟨ws, h', ?_⟩
    rw [← r.length]
    exact List.getElem?_eq_none_iff.mp e
  | some v =>
    obtain ⟨w, e2, rw⟩ := r.get e
    refine ⟨⟨ws, w, h', e2⟩, fun x H2 ⟨eH, y⟩ => ?_⟩
    subst eH
    have := y ws h'
    rw [e2] at this
    cases this
    exact ⟨.refl, sh, rw.mono l⟩
theorem jok_lst {n : Nat} {a : Addr} (h : ρ[n]? = some a) : JOk K ρ H (.lst n) (Itl K.k a) := fun ρ' mh H' i l sh => by
  have h' := l.pre _ _ h
  simp only [Src.item]
  cases e : mh[n]? with
  | none => simp
  | some o =>
    have ro := sh.ob n o a e h'
    cases o with
    | lst vs =>
      obtain ⟨ws, h1, r⟩ := ro
      have hq : SqL K.k H' a ws := .inl (.inl h1)
      simp only
      cases e2 : vs[i]? with
      | none => exact ⟨ws, hq, by rw [← r.length]; exact List.getElem?_eq_none_iff.mp e2⟩
      | some v =>
        obtain ⟨w, e3, rw⟩ := r.get e2
        refine ⟨⟨ws, w, hq, e3⟩, fun x H2 ⟨eH, y⟩ => ?_⟩
        subst eH
        have := y ws hq
        rw [e3] at this
        cases this
        exact ⟨.refl, sh, rw⟩
    | scr vs =>
      obtain ⟨ws, h1, r⟩ := ro
      have hq : SqL K.k H' a ws := h1.sq
      simp only
      cases e2 : vs[i]? with
      | none => exact ⟨ws, hq, by rw [← r.length]; exact List.getElem?_eq_none_iff.mp e2⟩
      | some v =>
        obtain ⟨w, e3, rw⟩ := r.get e2
        refine ⟨⟨ws, w, hq, e3⟩, fun x H2 ⟨eH, y⟩ => ?_⟩
        subst eH
        have := y ws hq
        rw [e3] at this
        cases this
        exact ⟨.refl, sh, rw⟩
    | dict _ => trivial
    | ins _ _ => trivial
    | exo _ _ => trivial
    | iset _ => trivial
end
def signsOf (s : Str) : List PV := s.cps.toList.map fun c => .str ⟨#[c]⟩
def srcOf (v : PV) (mh : MH) : R Src := match v with
  | .tup vs => .ok (.vals vs) mh
  | .ref n => match mh[n]? with
    | some (.lst _) => .ok (.lst n) mh
    | some (.scr _) => .ok (.lst n) mh
    | _ => .bad
  | .str s => .ok (.vals (signsOf s)) mh
  | _ => .bad
def mSrc (ma : PEnv → MH → R PV) : PEnv → MH → R Src := fun env mh => (ma env mh).bind srcOf
section
variable {X : Cx} {W : WX} {tg e a b c : Expr} {pos p : Pos} {ma : PEnv → MH → R PV} {m : PEnv → MH → R (List PV)}
theorem ri_val (ha : RE X W e ma) : RI X W tg e (mSrc ma) :=
  (((pi_list ha).or (pi_tup ha)).or (pi_str ha)).imp fun σ H R h => by
    obtain ⟨ρ, env, mh, sh, se, p⟩ := h
    have hm : (∃ n mh1, ma env mh = .ok (.ref n) mh1) ∨ (∃ vs mh1, ma env mh = .ok (.tup vs) mh1) ∨ (∃ s mh1, ma env mh = .ok (.str s) mh1) ∨ (∃ c v mh1, ma env mh = .exc c v mh1) := by
      unfold mSrc at p
      cases q : ma env mh with
      | bad => rw [q] at p; exact p.elim
      | exc c v mh1 => exact .inr (.inr (.inr ⟨c, v, mh1, rfl⟩))
      | ok v mh1 =>
        rw [q] at p
        cases v with
        | ref n => exact .inl ⟨n, mh1, rfl⟩
        | tup vs => exact .inr (.inl ⟨vs, mh1, rfl⟩)
        | str s => exact .inr (.inr (.inl ⟨s, mh1, rfl⟩))
        | non => exact p.elim
        | bl _ => exact p.elim
        | int _ => exact p.elim
    have pre := Post.bindI (Q1 := fun x H1 => ∃ v mh1 ρ1, ma env mh = .ok v mh1 ∧ Le X.kw ρ H ρ1 H1 ∧ SimH X.kw ρ1 mh1 H1 ∧ RV X.kw ρ1 H1 v x ∧ PostI X.kw ρ1 H1 (srcOf v mh1) R (fun c d H' => W c d σ H')) p fun v mh1 ρ1 x H1 e l1 sh1 rv p1 => ⟨v, mh1, ρ1, e, l1, sh1, rv, p1⟩
    have fin : ∀ Q2 : VK, (∀ x H1, (∃ v mh1 ρ1, ma env mh = .ok v mh1 ∧ Le X.kw ρ H ρ1 H1 ∧ SimH X.kw ρ1 mh1 H1 ∧ RV X.kw ρ1 H1 v x ∧ PostI X.kw ρ1 H1 (srcOf v mh1) R (fun c d H' => W c d σ H')) → Q2 x H1) → Post X.kw ρ H (ma env mh) Q2 (fun c d H' => W c d σ H') := fun Q2 k => by
      cases q : ma env mh with
      | ok v mh1 =>
        have pre := pre
        rw [q] at pre
        intro ρ' w H' x1 x2 x3
        obtain ⟨v', mh', ρ1, e, a1, a2, a3, a4⟩ := pre ρ' w H' x1 x2 x3
        exact k w H' ⟨v', mh', ρ1, by rw [q]; exact e, a1, a2, a3, a4⟩
      | exc c v mh1 => rw [q] at pre; exact pre
      | bad => rw [q] at pre; exact pre
    rcases hm with ⟨n, mh1, e⟩ | ⟨vs, mh1, e⟩ | ⟨s, mh1, e⟩ | ⟨c, v, mh1, e⟩
    · refine .inl (.inl ⟨ρ, env, mh, sh, se, fin _ fun x H1 ⟨v', mh', ρ1, e', l1, sh1, rv, p1⟩ => ?_⟩)
      rw [e] at e'
      cases e'
      cases rv with
      | @ref n a h =>
        simp only [srcOf] at p1
        cases q : mh1[n]? with
        | none => rw [q] at p1; exact p1.elim
        | some o =>
          have ro := sh1.ob n o a q h
          rw [q] at p1
          cases o with
          | lst vs =>
            obtain ⟨ws, h1, r⟩ := ro
            exact ⟨a, rfl, ⟨ws, .inl (.inl h1)⟩, p1 ρ1 H1 _ .refl sh1 (jok_lst h)⟩
          | scr vs =>
            obtain ⟨ws, h1, r⟩ := ro
            exact ⟨a, rfl, ⟨ws, h1.sq⟩, p1 ρ1 H1 _ .refl sh1 (jok_lst h)⟩
          | dict _ => exact p1.elim
          | ins _ _ => exact p1.elim
          | exo _ _ => exact p1.elim
          | iset _ => exact p1.elim
    · refine .inl (.inr ⟨ρ, env, mh, sh, se, fin _ fun x H1 ⟨v', mh', ρ1, e', l1, sh1, rv, p1⟩ => ?_⟩)
      rw [e] at e'
      cases e'
      cases rv with
      | tup h r =>
        exact ⟨_, rfl, ⟨_, h⟩, p1 ρ1 H1 _ .refl sh1 (jok_tup h r)⟩
    · refine .inr ⟨ρ, env, mh, sh, se, fin _ fun x H1 ⟨v', mh', ρ1, e', l1, sh1, rv, p1⟩ => ?_⟩
      rw [e] at e'
      cases e'
      cases rv with
      | str s =>
        refine ⟨s, rfl, p1 ρ1 H1 _ .refl sh1 (jok_vals fun ρ' mh2 H' i l2 sh2 => ?_)⟩
        unfold signsOf
        rw [List.getElem?_map]
        cases e : s.cps.toList[i]? with
        | none =>
          have := List.getElem?_eq_none_iff.mp e
          show s.cps.size ≤ i
          simpa using this
        | some c =>
          have hi := (List.getElem?_eq_some_iff.mp e).1
          refine ⟨(by show i < s.cps.size; simpa using hi), fun x H2 ⟨eH, d, ed, ex⟩ => ?_⟩
          subst eH ex
          have : s.cps.toList[i]? = some d := by simpa using ed
          rw [e] at this
          cases this
          exact ⟨.refl, sh2, .str _⟩
    · refine .inl (.inl ⟨ρ, env, mh, sh, se, ?_⟩)
      rw [e] at pre ⊢
      exact pre

/-! ### range -/
def rangeL (lo c : Int) (n : Nat) : List PV := (List.range n).map fun k => .int (lo + (k : Nat) * c)
theorem rangeL_get (lo c : Int) (n i : Nat) : (rangeL lo c n)[i]? = if i < n then some (.int (lo + (i : Nat) * c)) else none := by
  unfold rangeL
  rw [List.getElem?_map]
  by_cases h : i < n
  · rw [if_pos h, List.getElem?_range h]
    rfl
  · rw [if_neg h, List.getElem?_eq_none (by simpa using h)]
    rfl
theorem jok_itr {K : KW} {ρ : List Addr} {H : Hp} (lo : Int) (n : Nat) : JOk K ρ H (.vals (rangeL lo 1 n)) (Itr lo n) := jok_vals fun ρ' mh H' i l sh => by
  rw [rangeL_get]
  by_cases h : i < n
  · rw [if_pos h]
    refine ⟨h, fun x H2 ⟨eH, ex⟩ => ?_⟩
    subst eH ex
    rw [Int.mul_one]
    exact ⟨.refl, sh, .int _⟩
  · rw [if_neg h]
    exact Nat.le_of_not_lt h
theorem jok_itc {K : KW} {ρ : List Addr} {H : Hp} (lo c : Int) (n : Nat) : JOk K ρ H (.vals (rangeL lo c n)) (Itc lo c n) := jok_vals fun ρ' mh H' i l sh => by
  rw [rangeL_get]
  by_cases h : i < n
  · rw [if_pos h]
    refine ⟨h, fun x H2 ⟨eH, ex⟩ => ?_⟩
    subst eH ex
    exact ⟨.refl, sh, .int _⟩
  · rw [if_neg h]
    exact Nat.le_of_not_lt h
@[irreducible] def inB (i : Int) : Bool := decide (-(2 ^ 62) ≤ i) && decide (i < 2 ^ 62)
theorem inB_iff {i : Int} : inB i = true ↔ -(2 ^ 62) ≤ i ∧ i < 2 ^ 62 := by
  unfold inB
  rw [Bool.and_eq_true, decide_eq_true_eq, decide_eq_true_eq]
@[irreducible] def smallB (i j c : Int) : Bool := Builtin.Range.small i j c
theorem smallB_iff {i j c : Int} : smallB i j c = true ↔ Builtin.Range.small i j c = true := by
  unfold smallB
  exact Iff.rfl
/-- the ints of a range -/
def rangeOf (vs : List PV) : Option (List PV) := match vs with
  | [.int j] => if inB j = true then some (rangeL 0 1 j.toNat) else none
  | [.int i, .int j] => if inB i = true ∧ inB j = true then some (rangeL i 1 (j - i).toNat) else none
  | [.int i, .int j, .int c] => if c ≠ 0 ∧ c.natAbs < 1073741824 ∧ smallB i j c = true then some (rangeL i c (Builtin.Range.rangeSize i j c).toNat) else none
  | _ => none
def mRange (m : PEnv → MH → R (List PV)) : PEnv → MH → R Src := fun env mh => (m env mh).bind fun vs mh1 => match rangeOf vs with
  | some l => .ok (.vals l) mh1
  | none => .bad
theorem ri_range1 (hg : Gl X "range") (hm : X.mg "range" = none) (ha : RA X W [a] m) (hs : starEach [a] X.env = [(false, eval a X.env)]) (one : ∀ env mh vs mh1, m env mh = .ok vs mh1 → vs.length = 1) : RI X W tg (.Call (.Name "range" p) [a] [] pos) (mRange m) :=
  (pi_range1 hg hm ha hs).imp fun σ H R h => by
    obtain ⟨ρ, env, mh, sh, se, p⟩ := h
    refine ⟨ρ, env, mh, sh, se, PostA.bindI p fun vs mh1 ρ1 xs H1 e l1 sh1 rv p1 => ?_⟩
    have hl := one _ _ _ _ e
    cases rv with
    | nil => cases hl
    | cons r1 r2 =>
      cases r2 with
      | cons _ _ => simp at hl
      | nil =>
        cases r1 with
        | int j =>
          simp only [rangeOf] at p1
          by_cases hj : inB j = true
          · rw [if_pos hj] at p1
            exact ⟨j, rfl, (inB_iff.mp hj).1, (inB_iff.mp hj).2, p1 ρ1 H1 _ .refl sh1 (jok_itr 0 _)⟩
          · rw [if_neg hj] at p1
            exact p1.elim
        | non => exact p1.elim
        | bl _ => exact p1.elim
        | str _ => exact p1.elim
        | tup _ _ => exact p1.elim
        | ref _ => exact p1.elim
theorem two_ints {K : KW} {ρ : List Addr} {H : Hp} {mh : MH} {vs : List PV} {xs : List V} {Q E} (rv : RVs K ρ H vs xs) (hl : vs.length = 2) (p : PostI K ρ H (match rangeOf vs with
  | some l => .ok (.vals l) mh
  | none => .bad) Q E) : ∃ i j, vs = [.int i, .int j] ∧ xs = [.int i, .int j] := by
  cases rv with
  | nil => cases hl
  | cons r1 r2 =>
    cases r2 with
    | nil => cases hl
    | cons r2 r3 =>
      cases r3 with
      | cons _ _ => simp at hl
      | nil => cases r1 <;> cases r2 <;> first | exact ⟨_, _, rfl, rfl⟩ | exact p.elim
theorem ri_range2 (hg : Gl X "range") (hm : X.mg "range" = none) (ha : RA X W [a, b] m) (hs : starEach [a, b] X.env = [(false, eval a X.env), (false, eval b X.env)]) (hs2 : starEach [b] X.env = [(false, eval b X.env)]) (two : ∀ env mh vs mh1, m env mh = .ok vs mh1 → vs.length = 2) :
    RI X W tg (.Call (.Name "range" p) [a, b] [] pos) (mRange m) :=
  (pi_range2 hg hm ha hs hs2).imp fun σ H R h => by
    obtain ⟨ρ, env, mh, sh, se, p⟩ := h
    refine ⟨ρ, env, mh, sh, se, PostA.bindI p fun vs mh1 ρ1 xs H1 e l1 sh1 rv p1 => ?_⟩
    obtain ⟨i, j, rfl, rfl⟩ := two_ints rv (two _ _ _ _ e) p1
    simp only [rangeOf] at p1
    by_cases hj : inB i = true ∧ inB j = true
    · rw [if_pos hj] at p1
      exact ⟨i, j, rfl, ⟨(inB_iff.mp hj.1).1, (inB_iff.mp hj.1).2, (inB_iff.mp hj.2).1, (inB_iff.mp hj.2).2⟩, p1 ρ1 H1 _ .refl sh1 (jok_itr i _)⟩
    · rw [if_neg hj] at p1
      exact p1.elim
theorem three_ints {K : KW} {ρ : List Addr} {H : Hp} {mh : MH} {vs : List PV} {xs : List V} {Q E} (rv : RVs K ρ H vs xs) (hl : vs.length = 3) (p : PostI K ρ H (match rangeOf vs with
  | some l => .ok (.vals l) mh
  | none => .bad) Q E) : ∃ i j c, vs = [.int i, .int j, .int c] ∧ xs = [.int i, .int j, .int c] := by
  cases rv with
  | nil => cases hl
  | cons r1 r2 =>
    cases r2 with
    | nil => cases hl
    | cons r2 r3 =>
      cases r3 with
      | nil => cases hl
      | cons r3 r4 =>
        cases r4 with
        | cons _ _ => simp at hl
        | nil => cases r1 <;> cases r2 <;> cases r3 <;> first | exact ⟨_, _, _, rfl, rfl⟩ | exact p.elim
theorem rangeSize_nn (i j c : Int) (hc : c ≠ 0) : 0 ≤ Builtin.Range.rangeSize i j c := by
  unfold Builtin.Range.rangeSize
  split
  · split
    · have : 0 ≤ (j - i - 1) / c := Int.ediv_nonneg (by omega) (by omega)
      omega
    · omega
  · split
    · have : 0 ≤ (i - j - 1) / (-c) := Int.ediv_nonneg (by omega) (by omega)
      omega
    · omega
theorem ri_range3 (hg : Gl X "range") (hm : X.mg "range" = none) (ha : RA X W [a, b, c] m) (hs : starEach [a, b, c] X.env = (false, eval a X.env) :: starEach [b, c] X.env) (hs2 : (backTo pos (starEach [b, c] X.env)).any (·.1) = false)
    (three : ∀ env mh vs mh1, m env mh = .ok vs mh1 → vs.length = 3) : RI X W tg (.Call (.Name "range" p) [a, b, c] [] pos) (mRange m) :=
  (pi_range3 hg hm ha hs hs2).imp fun σ H R h => by
    obtain ⟨ρ, env, mh, sh, se, p⟩ := h
    refine ⟨ρ, env, mh, sh, se, PostA.bindI p fun vs mh1 ρ1 xs H1 e l1 sh1 rv p1 => ?_⟩
    obtain ⟨i, j, c, rfl, rfl⟩ := three_ints rv (three _ _ _ _ e) p1
    simp only [rangeOf] at p1
    by_cases hj : c ≠ 0 ∧ c.natAbs < 1073741824 ∧ smallB i j c = true
    · rw [if_pos hj] at p1
      refine ⟨i, j, c, _, rfl, ⟨hj.1, hj.2.1, smallB_iff.mp hj.2.2, ?_⟩, p1 ρ1 H1 _ .refl sh1 (jok_itc i c _)⟩
      exact (Int.toNat_of_nonneg (rangeSize_nn i j c hj.1)).symm
    · rw [if_neg hj] at p1
      exact p1.elim

/-! ### enumerate, zip -/
def mEnum (m : PEnv → MH → R (List PV)) : PEnv → MH → R Src := fun env mh => (m env mh).bind fun vs mh1 => match vs with
  | [.ref n] => match mh1[n]? with
    | some (.lst _) => .ok (.enum (.lst n)) mh1
    | some (.scr _) => .ok (.enum (.lst n)) mh1
    | _ => .bad
  | _ => .bad
theorem jok_enum {K : KW} {ρ : List Addr} {H : Hp} {n : Nat} {a : Addr} (h : ρ[n]? = some a) : JOk K ρ H (.enum (.lst n)) (Ite K.k a) := fun ρ' mh H' i l sh => by
  have h' := l.pre _ _ h
  simp only [Src.item]
  have main : ∀ (vs : List PV) (ws : List V), SqL K.k H' a ws → RVs K ρ' H' vs ws → match (match (some vs[i]? : Option (Option PV)) with
      | some (some v) => some (some (PV.tup [.int (i : Nat), v]))
      | some none => some none
      | none => none) with
    | none => True
    | some none => (Ite K.k a).stop i H'
    | some (some v) => (Ite K.k a).go i H' ∧ ∀ x H2, (Ite K.k a).yld i H' x H2 → Le K ρ' H' ρ' H2 ∧ SimH K ρ' mh H2 ∧ RV K ρ' H2 v x := by
    intro vs ws hq r
    cases e2 : vs[i]? with
    | none => exact ⟨ws, hq, by rw [← r.length]; exact List.getElem?_eq_none_iff.mp e2⟩
    | some v =>
      obtain ⟨w, e3, rw⟩ := r.get e2
      refine ⟨⟨ws, w, hq, e3⟩, fun x H2 ⟨T, y, ex, hT, eH, hy⟩ => ?_⟩
      have := hy ws hq
      rw [e3] at this
      cases this
      subst ex eH
      obtain ⟨s1, l1⟩ := sh.tuple (o := .tup [.int (i : Nat), w]) hT
      exact ⟨l1, s1, .tup (.inl (.inl upd_same)) (.cons (.int _) (.cons (rw.mono l1) .nil))⟩
  cases e : mh[n]? with
  | none => simp
  | some o =>
    have ro := sh.ob n o a e h'
    cases o with
    | lst vs =>
      obtain ⟨ws, h1, r⟩ := ro
      exact main vs ws (.inl (.inl h1)) r
    | scr vs =>
      obtain ⟨ws, h1, r⟩ := ro
      exact main vs ws (h1.sq) r
    | dict _ => trivial
    | ins _ _ => trivial
    | exo _ _ => trivial
    | iset _ => trivial
theorem ri_enum {elts : List Expr} {kk : Nat} {tpos : Pos} (hg : Gl X "enumerate") (hm : X.mg "enumerate" = none) (ha : RA X W [e] m) (hs : starEach [e] X.env = [(false, eval e X.env)]) : RI X W (.Tuple elts kk tpos) (.Call (.Name "enumerate" p) [e] [] pos) (mEnum m) :=
  (pi_enum hg hm ha hs).imp fun σ H R h => by
    obtain ⟨ρ, env, mh, sh, se, p⟩ := h
    refine ⟨ρ, env, mh, sh, se, PostA.bindI p fun vs mh1 ρ1 xs H1 e l1 sh1 rv p1 => ?_⟩
    split at p1
    · rename_i n
      cases rv with
      | cons r1 r2 =>
        cases r2
        cases r1 with
        | @ref n a h =>
          split at p1
          · rename_i us q
            obtain ⟨ws, h1, r⟩ := sh1.ob n _ a q h
            exact ⟨a, ws, rfl, .inl (.inl h1), p1 ρ1 H1 _ .refl sh1 (jok_enum h)⟩
          · rename_i us q
            obtain ⟨ws, h1, r⟩ := sh1.ob n _ a q h
            exact ⟨a, ws, rfl, h1.sq, p1 ρ1 H1 _ .refl sh1 (jok_enum h)⟩
          · exact p1.elim
    · exact p1.elim
def isLst (mh : MH) (n : Nat) : Bool := match mh[n]? with
  | some (.lst _) => true
  | some (.scr _) => true
  | _ => false
def mZip (m : PEnv → MH → R (List PV)) : PEnv → MH → R Src := fun env mh => (m env mh).bind fun vs mh1 => match vs with
  | [.ref n, .ref k] => if isLst mh1 n && isLst mh1 k then .ok (.zip (.lst n) (.lst k)) mh1 else .bad
  | [.tup xs, .tup ys] => .ok (.zip (.vals xs) (.vals ys)) mh1
  | _ => .bad
theorem isLst_below {K : KW} {ρ : List Addr} {H : Hp} {mh : MH} {n : Nat} {a : Addr} (sh : SimH K ρ mh H) (h : ρ[n]? = some a) (q : isLst mh n = true) : ∃ vs ws, (Src.lst n).item mh = (fun i => some vs[i]?) ∧ SqL K.k H a ws ∧ RVs K ρ H vs ws := by
  unfold isLst at q
  cases e : mh[n]? with
  | none => rw [e] at q; cases q
  | some o =>
    have ro := sh.ob n o a e h
    rw [e] at q
    cases o with
    | lst vs =>
      obtain ⟨ws, h1, r⟩ := ro
      exact ⟨vs, ws, by funext i; simp [Src.item, e], .inl (.inl h1), r⟩
    | scr vs =>
      obtain ⟨ws, h1, r⟩ := ro
      exact ⟨vs, ws, by funext i; simp [Src.item, e], h1.sq, r⟩
    | dict _ => cases q
    | ins _ _ => cases q
    | exo _ _ => cases q
    | iset _ => cases q
theorem item_lst_ok {mh : MH} {n i : Nat} {o : Option PV} (h : (Src.lst n).item mh i = some o) : isLst mh n = true := by
  unfold isLst
  simp only [Src.item] at h
  cases e : mh[n]? with
  | none => rw [e] at h; cases h
  | some x =>
    rw [e] at h
    cases x <;> first | rfl | cases h
theorem zipI_none (x : Option (Option PV)) : zipI x none = none := by
  cases x with
  | none => rfl
  | some o => cases o <;> rfl
theorem zip_at {K : KW} {ρ : List Addr} {H : Hp} {mh : MH} {vs us : List PV} {ws zs : List V} {i : Nat} {stop go : Prop} {yld : V → Hp → Prop} (sh : SimH K ρ mh H) (r1 : RVs K ρ H vs ws) (r2 : RVs K ρ H us zs)
    (hstop : (ws.length ≤ i ∨ zs.length ≤ i) → stop) (hgo : ∀ x y, ws[i]? = some x → zs[i]? = some y → go ∧ ∀ v H', yld v H' → ∃ T, v = .ref T ∧ H T = none ∧ H' = upd H T (.tup [x, y])) :
    match zipI (some vs[i]?) (some us[i]?) with
    | none => True
    | some none => stop
    | some (some v) => go ∧ ∀ x H', yld x H' → Le K ρ H ρ H' ∧ SimH K ρ mh H' ∧ RV K ρ H' v x := by
  cases e1 : vs[i]? with
  | none => 
    have : ws.length ≤ i := by rw [← r1.length]; exact List.getElem?_eq_none_iff.mp e1
    exact hstop (.inl this)
  | some v =>
    cases e2 : us[i]? with
    | none =>
      have : zs.length ≤ i := by rw [← r2.length]; exact List.getElem?_eq_none_iff.mp e2
      exact hstop (.inr this)
    | some u =>
      obtain ⟨x, e3, rx⟩ := r1.get e1
      obtain ⟨y, e4, ry⟩ := r2.get e2
      obtain ⟨g, hy⟩ := hgo x y e3 e4
      refine ⟨g, fun z H' q => ?_⟩
      obtain ⟨T, ez, hT, eH⟩ := hy z H' q
      subst ez eH
      obtain ⟨s1, l1⟩ := sh.tuple (o := .tup [x, y]) hT
      exact ⟨l1, s1, .tup (.inl (.inl upd_same)) (.cons (rx.mono l1) (.cons (ry.mono l1) .nil))⟩
theorem jok_zipL {K : KW} {ρ : List Addr} {H : Hp} {n k : Nat} {a b : Addr} (h : ρ[n]? = some a) (h2 : ρ[k]? = some b) : JOk K ρ H (.zip (.lst n) (.lst k)) (Itz K.k a b) := fun ρ' mh H' i l sh => by
  have h' := l.pre _ _ h
  have h2' := l.pre _ _ h2
  simp only [Src.item]
  by_cases q1 : isLst mh n = true
  · by_cases q2 : isLst mh k = true
    · obtain ⟨vs, ws, e1, s1, r1⟩ := isLst_below sh h' q1
      obtain ⟨us, zs, e2, s2, r2⟩ := isLst_below sh h2' q2
      have e1' := congrFun e1 i
      have e2' := congrFun e2 i
      simp only [Src.item] at e1' e2'
      rw [e1', e2']
      exact zip_at (stop := (Itz K.k a b).stop i H') (go := (Itz K.k a b).go i H') (yld := (Itz K.k a b).yld i H') sh r1 r2 (fun q => ⟨ws, zs, s1, s2, q⟩) fun x y hx hy => ⟨⟨ws, zs, x, y, s1, s2, hx, hy⟩, fun v H2 ⟨T, x', y', ev, hT, eH, k1, k2⟩ => by
        have := k1 ws s1
        rw [hx] at this
        cases this
        have := k2 zs s2
        rw [hy] at this
        cases this
        exact ⟨T, ev, hT, eH⟩⟩
    · cases e : (Src.lst k).item mh i with
      | some o => exact absurd (item_lst_ok e) q2
      | none =>
        simp only [Src.item] at e
        rw [e, zipI_none]
        trivial
  · cases e : (Src.lst n).item mh i with
    | some o => exact absurd (item_lst_ok e) q1
    | none =>
      simp only [Src.item] at e
      rw [e]
      trivial
theorem jok_zipT {K : KW} {ρ : List Addr} {H : Hp} {vs us : List PV} {ws zs : List V} {a b : Addr} (h : SqT K.k H a ws) (h2 : SqT K.k H b zs) (r : RVs K ρ H vs ws) (r2 : RVs K ρ H us zs) : JOk K ρ H (.zip (.vals vs) (.vals us)) (ItzT K.k a b) := fun ρ' mh H' i l sh => by
  have s1 := l.grow _ _ h
  have s2 := l.grow _ _ h2
  simp only [Src.item]
  exact zip_at (stop := (ItzT K.k a b).stop i H') (go := (ItzT K.k a b).go i H') (yld := (ItzT K.k a b).yld i H') sh (r.mono l) (r2.mono l) (fun q => ⟨ws, zs, s1, s2, q⟩) fun x y hx hy => ⟨⟨ws, zs, x, y, s1, s2, hx, hy⟩, fun v H2 ⟨T, x', y', ev, hT, eH, k1, k2⟩ => by
    have := k1 ws s1
    rw [hx] at this
    cases this
    have := k2 zs s2
    rw [hy] at this
    cases this
    exact ⟨T, ev, hT, eH⟩⟩
theorem ri_zip {elts : List Expr} {kk : Nat} {tpos : Pos} {e2 : Expr} (hg : Gl X "zip") (hm : X.mg "zip" = none) (ha : RA X W [e, e2] m) (hs : starEach [e, e2] X.env = (false, eval e X.env) :: starEach [e2] X.env) (hpl : (backTo pos (starEach [e2] X.env)).any (·.1) = false) :
    RI X W (.Tuple elts kk tpos) (.Call (.Name "zip" p) [e, e2] [] pos) (mZip m) :=
  (pi_zipA hg hm ha hs hpl).imp fun σ H R h => by
    obtain ⟨ρ, env, mh, sh, se, p⟩ := h
    refine ⟨ρ, env, mh, sh, se, PostA.bindI p fun vs mh1 ρ1 xs H1 e l1 sh1 rv p1 => ?_⟩
    split at p1
    · rename_i n k
      cases rv with
      | cons r1 r2 =>
        cases r2 with
        | cons r2 r3 =>
          cases r3
          cases r1 with
          | @ref n a h =>
            cases r2 with
            | @ref k b h2 =>
              split at p1
              · rename_i q
                obtain ⟨q1, q2⟩ := Bool.and_eq_true_iff.mp q
                obtain ⟨vs, ws, _, s1, r1⟩ := isLst_below sh1 h q1
                obtain ⟨us, zs, _, s2, r2⟩ := isLst_below sh1 h2 q2
                exact ⟨a, b, ws, zs, rfl, .inl ⟨s1, s2, p1 ρ1 H1 _ .refl sh1 (jok_zipL h h2)⟩⟩
              · exact p1.elim
    · rename_i us zs
      cases rv with
      | cons r1 r2 =>
        cases r2 with
        | cons r2 r3 =>
          cases r3
          cases r1 with
          | tup h r1 =>
            cases r2 with
            | tup h2 r2 => exact ⟨_, _, _, _, rfl, .inr ⟨h, h2, p1 ρ1 H1 _ .refl sh1 (jok_zipT h h2 r1 r2)⟩⟩
    · exact p1.elim
end
end Ev
namespace L2
open PySem PySem.Spec PyProof.Rows
theorem PTs.imp {X : Cx} {es : List Expr} {t t' : TT} (h : PTs X es t) (k : ∀ σ H Q, t' σ H Q → t σ H Q) : PTs X es t' := ⟨fun pins s σ H Q I q => h.run pins s σ H Q I (k σ H Q q)⟩
end L2
namespace Ev
open PySem PySem.Spec PyProof.Rows L2 RZ
/-! ### list comprehensions -/
def wipeE (env : PEnv) : List Nat → PEnv
  | [] => env
  | v :: vs => (wipeE env vs).set v none
theorem wipeE_length (env : PEnv) : ∀ vs : List Nat, (wipeE env vs).length = env.length
  | [] => rfl
  | v :: vs => by unfold wipeE; rw [List.length_set, wipeE_length env vs]
theorem SimE.wipe {K : KW} {ρ : List Addr} {H : Hp} {env : PEnv} {σ : L2.St} (s : SimE K ρ H env σ) : ∀ vs : List Nat, SimE K ρ H (wipeE env vs) (L2.wipe σ vs)
  | [] => s
  | v :: vs => by
    have ih := SimE.wipe s vs
    refine ⟨by unfold wipeE L2.wipe; rw [List.length_set, List.length_set]; exact ih.len, fun i x e => ?_⟩
    unfold wipeE at e
    by_cases hv : v = i
    · subst hv
      rw [List.getElem?_set] at e
      simp at e
    · rw [List.getElem?_set_ne hv] at e
      obtain ⟨w, h1, h2⟩ := ih.at_ i x e
      unfold L2.wipe
      exact ⟨w, by rw [List.getElem?_set_ne hv]; exact h1, h2⟩
/-- y is put behind the list at d -/
def putL (d : Nat) (y : PV) (mh : MH) : Option MH := match mh[d]? with
  | some (.lst acc) => if acc.length < sizeLine then some (mh.set d (.lst (acc ++ [y]))) else none
  | _ => none
def compL (src : Src) (t : Tg) (mt : PEnv → MH → R Bool) (me : PEnv → MH → R PV) (d : Nat) : Nat → Nat → PEnv → MH → Option MH
  | 0, _, _, _ => none
  | fuel + 1, i, env, mh => match src.item mh i with
    | none => none
    | some none => some mh
    | some (some v) => match asg t v env mh with
      | none => none
      | some env2 => match mt env2 mh with
        | .ok true mh2 => match me env2 mh2 with
          | .ok y mh3 => match putL d y mh3 with
            | some mh4 => compL src t mt me d fuel (i + 1) env mh4
            | none => none
          | _ => none
        | .ok false mh2 => compL src t mt me d fuel (i + 1) env mh2
        | _ => none
def mComp (ms : PEnv → MH → R Src) (t : Tg) (mt : PEnv → MH → R Bool) (me : PEnv → MH → R PV) (own : List Nat) : PEnv → MH → R PV := fun env mh => (ms env mh).bind fun src mh1 =>
  match compL src t mt me mh1.length loopFuel 0 (wipeE env own) (mh1 ++ [.lst []]) with
  | some mh2 => .ok (.ref mh1.length) mh2
  | none => .bad
def mYes : PEnv → MH → R Bool := fun _ mh => .ok true mh
abbrev W0 : WX := fun _ _ _ _ => False
/-- y is appended below -/
theorem putL_below {K : KW} {ρ : List Addr} {H : Hp} {mh mh' : MH} {d : Nat} {D : Addr} {y : PV} {w : V} (sh : SimH K ρ mh H) (hd : ρ[d]? = some D) (r : RV K ρ H y w) (e : putL d y mh = some mh') :
    ∃ acc, H D = some (.lst acc) ∧ acc.length < sizeLine ∧ SimH K ρ mh' (upd H D (.lst (acc ++ [w]))) ∧ Le K ρ H ρ (upd H D (.lst (acc ++ [w]))) := by
  unfold putL at e
  split at e
  · rename_i acc q
    split at e
    · rename_i hz
      cases e
      obtain ⟨ws, h1, rs⟩ := sh.ob d _ D q hd
      have gr : Le K ρ H ρ (upd H D (.lst (ws ++ [w]))) := .of_mut hd h1 (mut_lst _)
      obtain ⟨s1, l1⟩ := sh.write (o := .lst (ws ++ [w])) (mo := .lst (acc ++ [y])) hd h1 (mut_lst _) ⟨_, upd_same, (rs.append (.cons r .nil)).mono gr⟩ (fun vs z => by rw [q] at z; cases z)
      exact ⟨ws, h1, by rw [← rs.length]; exact hz, s1, l1⟩
    · cases e
  · cases e
section
variable {X : Cx} {W : WX} {tg e a b c elt iter : Expr} {pos p : Pos} {ifs : List Expr} {scope : Scope} {own : List (Str × Nat)} {ms : PEnv → MH → R Src} {t : Tg} {mt : PEnv → MH → R Bool} {me : PEnv → MH → R PV}
theorem lc_imp {K : KW} {vs : List Nat} (sub : ∀ i ∈ t.slots, i ∈ vs) (σ : L2.St) (H : Hp) (Q : VK) (h : tE K W (mComp ms t mt me vs) σ H Q) : tLc (tI K W ms) (tG K t) (tTe K W0 mt) (tE K W0 me) vs σ H Q := by
  obtain ⟨ρ, env, mh, sh, se, p⟩ := h
  refine ⟨ρ, env, mh, sh, se, PostI.bind p fun src mh1 ρ1 J H1 _ l1 sh1 jo p1 => fun D hD => ?_⟩
  split at p1
  · rename_i mhF q
    have l0 : Le K ρ1 H1 (ρ1 ++ [D]) (upd H1 D (.lst [])) := .of_alloc hD
    obtain ⟨shD, lD, rD⟩ := sh1.alloc (o := .lst []) (mo := .lst []) hD ⟨[], upd_same, .nil⟩
    have hd0 : (ρ1 ++ [D])[mh1.length]? = some D := by
      cases rD with
      | ref h => exact h
    refine ⟨fun i m H => ∃ ρ2 mh2, Le K (ρ1 ++ [D]) (upd H1 D (.lst [])) ρ2 H ∧ SimH K ρ2 mh2 H ∧ compL src t mt me mh1.length m i (wipeE env vs) mh2 = some mhF, ⟨loopFuel, _, _, .refl, shD, q⟩, ?_⟩
    rintro i m H2 ⟨ρ2, mh2, l2, sh2, e2⟩
    cases m with
    | zero => simp [compL] at e2
    | succ m =>
      have j := jo ρ2 mh2 H2 i (lD.trans l2) sh2
      simp only [compL] at e2
      cases q1 : src.item mh2 i with
      | none => rw [q1] at e2; cases e2
      | some o =>
        rw [q1] at j e2
        cases o with
        | none =>
          cases e2
          exact .inl ⟨j, p1 ρ2 _ H2 (lD.trans l2) sh2 (.ref (l2.pre _ _ hd0))⟩
        | some v =>
          obtain ⟨jg, jy⟩ := j
          simp only at e2
          cases q2 : asg t v (wipeE env vs) mh2 with
          | none => rw [q2] at e2; cases e2
          | some env3 =>
            rw [q2] at e2
            simp only at e2
            refine .inr ⟨jg, fun H4 => ∃ ρ4 mh4, Le K (ρ1 ++ [D]) (upd H1 D (.lst [])) ρ4 H4 ∧ SimH K ρ4 mh4 H4 ∧ compL src t mt me mh1.length m (i + 1) (wipeE env vs) mh4 = some mhF, fun H4 w4 => ⟨m, Nat.lt_succ_self m, w4⟩, fun x H3 y => ?_⟩
            obtain ⟨l3, sh3, rv3⟩ := jy x H3 y
            have lx : Le K ρ H ρ2 H3 := ((l1.trans lD).trans l2).trans l3
            refine ⟨ρ2, wipeE env vs, mh2, v, env3, sh3, (se.mono lx).wipe vs, rv3, q2, fun σ3 se3 on3 => ⟨?_, ρ2, env3, mh2, sh3, se3, ?_⟩⟩
            · rw [on3.wipe vs sub]
              apply List.ext_getElem?
              intro i
              have key : ∀ (own : List Nat) (τ : L2.St) (i : Nat), (L2.wipe τ own)[i]? = if i ∈ own then (if i < τ.length then some none else none) else τ[i]? := by
                intro own τ
                induction own with
                | nil => intro i; simp [L2.wipe]
                | cons v own ih =>
                  intro i
                  simp only [L2.wipe]
                  by_cases hv : v = i
                  · subst hv
                    rw [List.getElem?_set]
                    simp [L2.wipe_length]
                  · rw [List.getElem?_set_ne hv, ih i]
                    have : (i ∈ v :: own) ↔ i ∈ own := by simp [Ne.symm hv]
                    simp only [this]
              rw [key vs (L2.wipe σ vs) i, key vs σ i, L2.wipe_length]
              by_cases hi : i ∈ vs
              · rw [if_pos hi, if_pos hi]
              · rw [if_neg hi, if_neg hi]
            · have l23 := l2.trans l3
              cases q3 : mt env3 mh2 with
              | bad => rw [q3] at e2; cases e2
              | exc _ _ _ => rw [q3] at e2; cases e2
              | ok k mh5 =>
                rw [q3] at e2
                intro ρ5 H5 l5 sh5
                cases k with
                | false => exact ⟨ρ5, mh5, l23.trans l5, sh5, e2⟩
                | true =>
                  refine ⟨ρ5, env3, mh5, sh5, se3.mono l5, ?_⟩
                  simp only at e2
                  cases q4 : me env3 mh5 with
                  | bad => rw [q4] at e2; cases e2
                  | exc _ _ _ => rw [q4] at e2; cases e2
                  | ok y mh6 =>
                    rw [q4] at e2
                    intro ρ6 w H6 l6 sh6 rv6
                    simp only at e2
                    cases q5 : putL mh1.length y mh6 with
                    | none => rw [q5] at e2; cases e2
                    | some mh7 =>
                      rw [q5] at e2
                      have l26 := (l23.trans l5).trans l6
                      obtain ⟨acc, a1, a2, a3, a4⟩ := putL_below sh6 (l26.pre _ _ hd0) rv6 q5
                      exact ⟨acc, a1, a2, ρ6, mh7, l26.trans a4, a3, e2⟩
  · exact p1.elim
theorem re_comp (hc : X.calm = true) (hN : X.N.Nodup) (hi : RI X W tg iter ms) (ok : BlkOk X.N X.env.scope scope own)
    (hg : ∀ (s : Shared) (H : Hp) (C : Addr) (cl : List (Str × Addr)) (fp : List Addr), PG (X.blk s H scope (compEnvC scope cl C X.env) fp) tg (tG X.kw t)) (ht : ∀ (s : Shared) (H : Hp) (C : Addr) (cl : List (Str × Addr)) (fp : List Addr), PTs (X.blk s H scope (compEnvC scope cl C X.env) fp) ifs (tTe X.kw W0 mt))
    (he : ∀ (s : Shared) (H : Hp) (C : Addr) (cl : List (Str × Addr)) (fp : List Addr), RE (X.blk s H scope (compEnvC scope cl C X.env) fp) W0 elt me) (hs : ∀ x, foldedSetIterable iter X.env x = pure x) (sub : ∀ i ∈ t.slots, i ∈ own.map (·.2)) :
    RE X W (.ListComp elt [⟨tg, iter, ifs, 0⟩] scope pos) (mComp ms t mt me (own.map (·.2))) :=
  (pe_lc hc hN hi ok hg ht he hs).imp fun σ H Q h => lc_imp sub σ H Q h
theorem rs_setLc {i : Nat} {y : Str} {py spos : Pos} (hc : X.calm = true) (hN : X.N.Nodup) (hy : X.N[i]? = some y) (hyl : X.env.scope.names.lookup y = some .local)
    (hsw : swapsWith (.ListComp elt [⟨tg, iter, ifs, 0⟩] scope pos) (some (.Name y py)) spos.line X.env = pure true) (hi : RI X W tg iter ms) (ok : BlkOk X.N X.env.scope scope own)
    (hg : ∀ (s : Shared) (H : Hp) (C : Addr) (cl : List (Str × Addr)) (fp : List Addr), PG (X.blk s H scope (compEnvC scope cl C X.env) fp) tg (tG X.kw t)) (ht : ∀ (s : Shared) (H : Hp) (C : Addr) (cl : List (Str × Addr)) (fp : List Addr), PTs (X.blk s H scope (compEnvC scope cl C X.env) fp) ifs (tTe X.kw W0 mt))
    (he : ∀ (s : Shared) (H : Hp) (C : Addr) (cl : List (Str × Addr)) (fp : List Addr), RE (X.blk s H scope (compEnvC scope cl C X.env) fp) W0 elt me) (hs : ∀ x, foldedSetIterable iter X.env x = pure x) (sub : ∀ i ∈ t.slots, i ∈ own.map (·.2)) :
    RSt X W (.Assign [.Name y py] (.ListComp elt [⟨tg, iter, ifs, 0⟩] scope pos) spos) (sAsg (mComp ms t mt me (own.map (·.2))) (.nm i)) :=
  (ps_setLc hc hN hy hyl hsw hi ok hg ht he hs).imp fun D σ H h => by
    have q : tAsg (tE X.kw W (mComp ms t mt me (own.map (·.2)))) (gName i) D σ H := by
      obtain ⟨ρ, env, mh, sh, se, p⟩ := h
      refine ⟨ρ, env, mh, sh, se, Post.bindS se p fun v mh1 ρ1 x H1 _ l1 sh1 rv p1 => ?_⟩
      exact p1 ρ1 _ H1 .refl sh1 ((se.mono l1).set rv i)
    exact lc_imp sub σ H _ q
theorem rts_nil : PTs X [] (tTe X.kw W mYes) := pts_nil.imp fun σ H Q h => by
  obtain ⟨ρ, env, mh, sh, se, p⟩ := h
  exact p ρ H .refl sh
theorem rts_one {c : Expr} (h : RT X W c mt) : PTs X [c] (tTe X.kw W mt) := pts_one h
end
end Ev
namespace Ev
open PySem PySem.Spec PyProof.Rows L2 RZ

/-! ### data -/
def allD (f : PV → Option PyData) : List PV → Option (List PyData)
  | [] => some []
  | v :: vs => match f v with
    | some d => match allD f vs with
      | some ds => some (d :: ds)
      | none => none
    | none => none
def keyD : Key → PyData
  | .inl i => .int i
  | .inr s => .str s
def keyPV : Key → PV
  | .inl i => .int i
  | .inr s => .str s
def kvD (f : PV → Option PyData) : List (Key × PV) → Option (List (PyData × PyData))
  | [] => some []
  | (k, v) :: vs => match f v with
    | some d => match kvD f vs with
      | some ds => some ((keyD k, d) :: ds)
      | none => none
    | none => none
/-- what a value is, to a depth -/
def toD : Nat → MH → PV → Option PyData
  | 0, _, _ => none
  | n + 1, mh, v => match v with
    | .non => some .none
    | .bl b => some (.bool b)
    | .int i => some (.int i)
    | .str s => some (.str s)
    | .tup vs => match allD (toD n mh) vs with
      | some ds => some (.tuple ds)
      | none => none
    | .ref k => match mh[k]? with
      | some (.lst vs) => match allD (toD n mh) vs with
        | some ds => some (.list ds)
        | none => none
      | some (.scr vs) => match allD (toD n mh) vs with
        | some ds => some (.list ds)
        | none => none
      | some (.dict kvs) => match kvD (toD n mh) kvs with
        | some ds => some (.dict ds)
        | none => none
      | _ => none
/-- without dicts -/
def hasD : PyData → Bool := PyData.hasDict
section
variable {K : KW} {ρ : List Addr} {H : Hp} {mh : MH}
theorem allD_dp {f : PV → Option PyData} (hf : ∀ v x d, RV K ρ H v x → f v = some d → d.hasDict = false → Dp K.k H x d) : ∀ {vs : List PV} {ws : List V} {ds : List PyData}, RVs K ρ H vs ws → allD f vs = some ds → PyData.hasDictAll ds = false → DpAll K.k H ws ds
  | _, _, _, .nil, e, _ => by
    simp only [allD, Option.some.injEq] at e
    subst e
    exact .nil
  | _, _, _, .cons r t, e, h => by
    simp only [allD] at e
    split at e
    · rename_i d e1
      split at e
      · rename_i ds e2
        cases e
        simp only [PyData.hasDictAll, Bool.or_eq_false_iff] at h
        exact .cons (hf _ _ _ r e1 h.1) (allD_dp hf t e2 h.2)
      · cases e
    · cases e
theorem toD_dp (sh : SimH K ρ mh H) : ∀ (n : Nat) (v : PV) (x : V) (d : PyData), RV K ρ H v x → toD n mh v = some d → d.hasDict = false → Dp K.k H x d
  | 0, _, _, _, _, e, _ => by simp [toD] at e
  | n + 1, v, x, d, r, e, h => by
    have ih := toD_dp sh n
    cases r with
    | non => simp only [toD, Option.some.injEq] at e; subst e; exact .non
    | bl b => simp only [toD, Option.some.injEq] at e; subst e; exact .bl b
    | int i => simp only [toD, Option.some.injEq] at e; subst e; exact .int i
    | str s => simp only [toD, Option.some.injEq] at e; subst e; exact .str s
    | tup hq rs =>
      simp only [toD] at e
      split at e
      · rename_i ds e1
        cases e
        exact .tup hq (allD_dp (fun v x d => ih v x d) rs e1 (by simpa [PyData.hasDict] using h))
      · cases e
    | @ref k a hk =>
      simp only [toD] at e
      split at e
      · rename_i vs q
        split at e
        · rename_i ds e1
          cases e
          obtain ⟨ws, h1, rs⟩ := sh.ob k _ a q hk
          exact .lst (.inl (.inl h1)) (allD_dp (fun v x d => ih v x d) rs e1 (by simpa [PyData.hasDict] using h))
        · cases e
      · rename_i vs q
        split at e
        · rename_i ds e1
          cases e
          obtain ⟨ws, h1, rs⟩ := sh.ob k _ a q hk
          exact .lst (h1.sq) (allD_dp (fun v x d => ih v x d) rs e1 (by simpa [PyData.hasDict] using h))
        · cases e
      · split at e
        · cases e
          simp [PyData.hasDict] at h
        · cases e
      · cases e
end
/-- the depth to which values are read -/
def dataFuel : Nat := 66
def eqD (v w : PV) (mh : MH) : Option Bool := match toD dataFuel mh v, toD dataFuel mh w with
  | some d, some e => if SeqAt.shaped d && SeqAt.shaped e then some (PyData.eqv d e) else none
  | _, _ => none
theorem shaped_nd {d : PyData} (h : SeqAt.shaped d = true) : d.hasDict = false := PyData.hasDict_of_canLay d (SeqAt.canLay_of_shaped h)
def neD (v w : PV) (mh : MH) : Option Bool := (eqD v w mh).map (!·)
section
variable {X : Cx}
theorem cv_eq (hu : X.A.units + 64 < cLine) : CmpV X .Eq eqD := by
  intro pins s σ H x y v u Q I rx ry h
  obtain ⟨ρ, mh, p, q, b, sh, r1, r2, e, k⟩ := h
  refine op_eqD hu pins s σ H x y v u Q I rx ry ?_
  unfold eqD at e
  split at e
  · rename_i d e' h1 h2
    split at e
    · rename_i hs
      obtain ⟨s1, s2⟩ := Bool.and_eq_true_iff.mp hs
      cases e
      exact ⟨d, e', toD_dp sh _ _ _ _ r1 h1 (shaped_nd s1), toD_dp sh _ _ _ _ r2 h2 (shaped_nd s2), s1, s2, k⟩
    · cases e
  · cases e
theorem cv_ne (hu : X.A.units + 64 < cLine) : CmpV X .NotEq neD := by
  intro pins s σ H x y v u Q I rx ry h
  obtain ⟨ρ, mh, p, q, b, sh, r1, r2, e, k⟩ := h
  refine op_neD hu pins s σ H x y v u Q I rx ry ?_
  unfold neD eqD at e
  split at e
  · rename_i d e' h1 h2
    split at e
    · rename_i hs
      obtain ⟨s1, s2⟩ := Bool.and_eq_true_iff.mp hs
      cases e
      exact ⟨d, e', toD_dp sh _ _ _ _ r1 h1 (shaped_nd s1), toD_dp sh _ _ _ _ r2 h2 (shaped_nd s2), s1, s2, k⟩
    · cases e
  · cases e
/-- order of ints, of texts -/
def cmpI (f : Int → Int → Bool) (g : List Nat → List Nat → Bool) (v w : PV) (_ : MH) : Option Bool := match v, w with
  | .int i, .int j => some (f i j)
  | .str i, .str j => some (g i.cps.toList j.cps.toList)
  | _, _ => none
def ltD := cmpI (fun i j => decide (i < j)) fun i j => decide (i < j)
def leD := cmpI (fun i j => decide (i ≤ j)) fun i j => !decide (j < i)
def gtD := cmpI (fun i j => decide (j < i)) fun i j => decide (j < i)
def geD := cmpI (fun i j => decide (j ≤ i)) fun i j => !decide (i < j)
theorem cv_cmpI {op : CmpOp} {f : Int → Int → Bool} {g : List Nat → List Nat → Bool} (h1 : OpR X (compareOp op) (rI0 fun i j => .bl (f i j))) (h2 : OpR X (compareOp op) (fun x y H Q => ∃ i j, x = .str i ∧ y = .str j ∧ Q (.bl (g i.cps.toList j.cps.toList)) H)) : CmpV X op (cmpI f g) := by
  intro pins s σ H x y v u Q I rx ry h
  obtain ⟨ρ, mh, p, q, b, sh, r1, r2, e, k⟩ := h
  cases r1 <;> cases r2 <;> first
    | (cases e; exact h1 pins s σ H _ _ v u Q I rx ry ⟨_, _, rfl, rfl, k⟩)
    | (cases e; exact h2 pins s σ H _ _ v u Q I rx ry ⟨_, _, rfl, rfl, k⟩)
    | cases e
theorem cv_lt : CmpV X .Lt ltD := cv_cmpI op_lt op_lt_str
theorem cv_le : CmpV X .LtE leD := cv_cmpI op_le op_le_str
theorem cv_gt : CmpV X .Gt gtD := cv_cmpI op_gt op_gt_str
theorem cv_ge : CmpV X .GtE geD := cv_cmpI op_ge op_ge_str
/-- is None, is a bool -/
def isD (v w : PV) (_ : MH) : Option Bool := match w with
  | .non => match v with
    | .non => some true
    | _ => some false
  | .bl b => match v with
    | .bl a => some (decide (a = b))
    | _ => none
  | _ => none
def isNotD (v w : PV) (mh : MH) : Option Bool := (isD v w mh).map (!·)
theorem cv_is : CmpV X .Is isD := by
  intro pins s σ H x y v u Q I rx ry h
  obtain ⟨ρ, mh, p, q, b, sh, r1, r2, e, k⟩ := h
  cases r2 with
  | non =>
    refine op_isN pins s σ H _ _ v u Q I rx ry ⟨rfl, ?_⟩
    cases r1 <;> (cases e; simpa using k)
  | bl c =>
    cases r1 <;> first
      | (cases e; exact op_isBl pins s σ H _ _ v u Q I rx ry ⟨_, _, rfl, rfl, k⟩)
      | cases e
  | _ => cases e
theorem cv_isNot : CmpV X .IsNot isNotD := by
  intro pins s σ H x y v u Q I rx ry h
  obtain ⟨ρ, mh, p, q, b, sh, r1, r2, e, k⟩ := h
  cases r2 with
  | non =>
    refine op_notN pins s σ H _ _ v u Q I rx ry ⟨rfl, ?_⟩
    cases r1 <;> (cases e; simpa using k)
  | bl c =>
    cases r1 <;> first
      | (cases e; exact op_notBl pins s σ H _ _ v u Q I rx ry ⟨_, _, rfl, rfl, k⟩)
      | cases e
  | _ => cases e
/-- flat values -/
def eqF : PV → PV → Option Bool
  | .non, .non => some true
  | .bl a, .bl b => some (a == b)
  | .bl a, .int b => some ((if a then 1 else 0) == b)
  | .int a, .bl b => some (a == (if b then 1 else 0))
  | .int a, .int b => some (a == b)
  | .str a, .str b => some (a == b)
  | .tup _, _ => none
  | _, .tup _ => none
  | .ref _, _ => none
  | _, .ref _ => none
  | _, _ => some false
/-- x in items, all flat -/
def inF (x : PV) : List PV → Option Bool
  | [] => match x with
    | .tup _ => none
    | .ref _ => none
    | _ => some false
  | y :: ys => match eqF y x, inF x ys with
    | some a, some b => some (a || b)
    | _, _ => none
def txtIn (x y : Str) : Bool := !(Builtin.Str.occurrences y x 0 y.length 1).isEmpty
def inD (v w : PV) (mh : MH) : Option Bool := match w with
  | .str y => match v with
    | .str x => some (txtIn x y)
    | _ => none
  | _ => match seqOf w mh with
    | some vs => inF v vs
    | none => none
def notInD (v w : PV) (mh : MH) : Option Bool := (inD v w mh).map (!·)
end
theorem eqF_below {K : KW} {ρ : List Addr} {H : Hp} {v w : PV} {x y : V} {b : Bool} (r1 : RV K ρ H v x) (r2 : RV K ρ H w y) (e : eqF v w = some b) : flatV x = true ∧ flatV y = true ∧ eqV x y = b := by
  cases r1 <;> cases r2 <;> first
    | (cases e; exact ⟨rfl, rfl, rfl⟩)
    | cases e
theorem inF_below {K : KW} {ρ : List Addr} {H : Hp} {v : PV} {x : V} (r1 : RV K ρ H v x) : ∀ {vs : List PV} {ws : List V} {b : Bool}, RVs K ρ H vs ws → inF v vs = some b → flatV x = true ∧ ws.all flatV = true ∧ inV x ws = b
  | _, _, _, .nil, e => by
    cases r1 <;> first
      | (cases e; exact ⟨rfl, rfl, rfl⟩)
      | cases e
  | _, _, _, .cons r t, e => by
    simp only [inF] at e
    split at e
    · rename_i a c h1 h2
      cases e
      obtain ⟨f1, f2, e1⟩ := eqF_below r r1 h1
      obtain ⟨g1, g2, e2⟩ := inF_below r1 t h2
      refine ⟨g1, by rw [List.all_cons, f1, g2]; rfl, ?_⟩
      unfold inV at e2 ⊢
      rw [List.any_cons, e1, e2]
    · cases e
section
variable {X : Cx}
theorem cv_in : CmpV X .In inD := by
  intro pins s σ H x y v u Q I rx ry h
  obtain ⟨ρ, mh, p, q, b, sh, r1, r2, e, k⟩ := h
  have main : (∃ vs, seqOf q mh = some vs ∧ inF p vs = some b) → wpAny (model X.prog X.w) X.A (compareOp .In v u) (EP X pins σ Q) X.xe s := fun ⟨vs, e1, e2⟩ => by
    obtain ⟨a, ws, rfl, rs, z⟩ := seq_below sh r2 e1
    obtain ⟨f1, f2, e3⟩ := inF_below r1 rs e2
    refine op_in_seq pins s σ H x _ v u Q I rx ry ⟨a, ws, rfl, ?_, f1, f2, ?_⟩
    · rcases z with ⟨z, _⟩ | ⟨z, _⟩
      · exact .inr z
      · exact .inl z
    · simp only [Bool.false_eq_true, if_false]
      rw [e3]
      exact k
  cases r2 with
  | str s2 =>
    cases r1 <;> first
      | (cases e; exact op_in_str pins s σ H _ _ v u Q I rx ry ⟨_, _, rfl, rfl, k⟩)
      | cases e
  | tup hq rs =>
    refine main ⟨_, rfl, ?_⟩
    exact e
  | @ref n a hq =>
    simp only [inD] at e
    split at e
    · rename_i vs e1
      exact main ⟨vs, e1, e⟩
    · cases e
  | _ => cases e
theorem cv_notIn : CmpV X .NotIn notInD := by
  intro pins s σ H x y v u Q I rx ry h
  obtain ⟨ρ, mh, p, q, b, sh, r1, r2, e, k⟩ := h
  unfold notInD at e
  obtain ⟨b', e', eb⟩ := Option.map_eq_some_iff.mp e
  subst eb
  clear e
  have e := e'
  clear e'
  have main : (∃ vs, seqOf q mh = some vs ∧ inF p vs = some b') → wpAny (model X.prog X.w) X.A (compareOp .NotIn v u) (EP X pins σ Q) X.xe s := fun ⟨vs, e1, e2⟩ => by
    obtain ⟨a, ws, rfl, rs, z⟩ := seq_below sh r2 e1
    obtain ⟨f1, f2, e3⟩ := inF_below r1 rs e2
    refine op_notIn_seq pins s σ H x _ v u Q I rx ry ⟨a, ws, rfl, ?_, f1, f2, ?_⟩
    · rcases z with ⟨z, _⟩ | ⟨z, _⟩
      · exact .inr z
      · exact .inl z
    · simp only [if_true]
      rw [e3]
      exact k
  cases r2 with
  | str s2 =>
    cases r1 <;> first
      | (cases e; exact op_notIn_str pins s σ H _ _ v u Q I rx ry ⟨_, _, rfl, rfl, k⟩)
      | cases e
  | tup hq rs =>
    refine main ⟨_, rfl, ?_⟩
    exact e
  | @ref n a hq =>
    simp only [inD] at e
    split at e
    · rename_i vs e1
      exact main ⟨vs, e1, e⟩
    · cases e
  | _ => cases e
end
end Ev
namespace Ev
open PySem PySem.Spec PyProof.Rows L2 RZ HT
/-- t * 1, () * k: the tuple itself -/
theorem tmul_self (l : Addr) (items : Array Value) (n : Nat) (dd : Option Addr) (sl : Array (Option Value)) (x : Int) (u : Tok) (c0 : (decide (x < -(2 ^ 63)) || decide (x ≥ 2 ^ 63)) = false) (c1 : (items.isEmpty || x == 1) = true) :
    Meets (Builtin.«tuple.__mul__» ⟨[.ref l, .int x u], []⟩) (fun _ R s => s.heap.get? l = some { cls := .type "tuple", dict := dd, data := .seq items n, slots := sl } ∧ R (.ok (.ret (.ref l))) s) :=
  .of_wp fun prog w A R s h => by
    obtain ⟨hp, g, d, tk, os⟩ := s
    obtain ⟨hl, h⟩ := h
    have f1 := AutoSeq1.idx_int
    wp_walk using wpAny_loadPart' hl
    repeat (first
      | (refine wpAny_ite_false (decide_eq_false (by rw [c0]; exact Bool.false_ne_true)) ?_; wp_walk using wpAny_loadPart' hl)
      | (refine wpAny_ite_true (decide_eq_true (by rw [c1])) ?_; wp_walk using wpAny_loadPart' hl))
    exact ⟨_, rfl, h⟩
/-- t * k, k below one: a new empty tuple -/
theorem tmul_none (l : Addr) (items : Array Value) (n : Nat) (dd : Option Addr) (sl : Array (Option Value)) (x : Int) (u : Tok) (c0 : (decide (x < -(2 ^ 63)) || decide (x ≥ 2 ^ 63)) = false) (c1 : (items.isEmpty || x == 1) = false) (c2 : (decide (x ≤ 0) || items.isEmpty) = true) :
    Meets (Builtin.«tuple.__mul__» ⟨[.ref l, .int x u], []⟩) (fun _ R s => s.heap.get? l = some { cls := .type "tuple", dict := dd, data := .seq items n, slots := sl } ∧
      R (.ok (.ret (.ref s.heap.objs.size))) { s with heap := s.heap.push { cls := .type "tuple", data := .seq #[] } }) :=
  .of_wp fun prog w A R s h => by
    obtain ⟨hp, g, d, tk, os⟩ := s
    obtain ⟨hl, h⟩ := h
    have f1 := AutoSeq1.idx_int
    wp_walk using wpAny_loadPart' hl
    repeat (first
      | (refine wpAny_ite_false (decide_eq_false (by rw [c0]; exact Bool.false_ne_true)) ?_; wp_walk using wpAny_loadPart' hl)
      | (refine wpAny_ite_false (decide_eq_false (by rw [c1]; exact Bool.false_ne_true)) ?_; wp_walk using wpAny_loadPart' hl)
      | (refine wpAny_ite_true (decide_eq_true (by rw [c2])) ?_; wp_walk using wpAny_loadPart' hl))
    exact ⟨_, rfl, h⟩
/-- tuple * int -/
def rRepTA (K : PySem.W.Frag) : R2 := fun x y H Q => ∃ l k xs, x = .ref l ∧ y = .int k ∧ SqT K H l xs ∧ -1000 ≤ k ∧ k ≤ 1000 ∧ xs.length ≤ 1000 ∧ (xs = [] ∨ k = 1 → Q (.ref l) H) ∧ (xs ≠ [] → k ≠ 1 → ∀ p, H p = none → Q (.ref p) (upd H p (.tup (List.replicate k.toNat xs).flatten)))
section
variable {X : Cx}
theorem op_repTA : OpR X (binaryOp .Mult) (rRepTA X.K) := by
  intro pins s σ H x y v u Q I rx ry h
  obtain ⟨l, k, xs, rfl, rfl, hT, h1, h2, hz, q1, q2⟩ := h
  have rx0 := rx
  have ry0 := ry
  cases rx
  obtain ⟨t, rfl⟩ := ry
  obtain ⟨its, r, ⟨⟨cls, dd, data, sl⟩, ho, hc, n, hd⟩, hs⟩ := I.tuple hT
  simp only at hc hd
  subst hc hd
  have hle : its.length = xs.length := r.length.symm
  have c0 : (decide (k < -(2 ^ 63)) || decide (k ≥ 2 ^ 63)) = false := by
    rw [decide_eq_false (by omega), decide_eq_false (by omega)]
    rfl
  have road : ∀ {Q' : Value → Shared → Prop} {Pm : Result → Shared → Prop}, True := fun {_ _} => trivial
  by_cases hself : xs = [] ∨ k = 1
  · have c1 : (its.toArray.isEmpty || k == 1) = true := by
      rcases hself with e | e
      · subst e
        have : its = [] := List.eq_nil_of_length_eq_zero hle
        subst this
        rfl
      · subst e
        simp
    refine wpAny_binaryOp_repeat_ref (T := "tuple") (U := "int") (by decide) ⟨_, ho, rfl⟩ (fun s' => typeIs_int s' k t) noFill_tuple_mul F.fills_int_mul F.slot_int_rmul repeat_tuple F.slot_int_index.lookup
      (call_meets F.slot_int_rmul (typeIs_int s k t) F.entry_int_rmul (F.args_int_rmul_2 _ _) (int_rmul_tuple k t l its.toArray n dd sl)
        ⟨ho, rfl, ⟨_, ho, rfl⟩, call_meets F.slot_tuple_mul ⟨_, ho, rfl⟩ F.entry_tuple_mul (F.args_tuple_mul_2 _ _) (tmul_self l its.toArray n dd sl k t c0 c1) ⟨ho, ?_⟩⟩)
    exact ⟨.ref l, H, I, rfl, q1 hself⟩
  · have hne : xs ≠ [] := fun e => hself (.inl e)
    have hk1 : k ≠ 1 := fun e => hself (.inr e)
    by_cases hk : 2 ≤ k
    · exact op_repT pins s σ H _ _ _ _ Q I rx0 ry0 ⟨l, k, xs, rfl, rfl, hT, hne, hk, h2, hz, q2 hne hk1⟩
    · have hn : its ≠ [] := fun e => hne (by
        rw [e] at hle
        exact List.eq_nil_of_length_eq_zero hle.symm)
      have hi : its.toArray.isEmpty = false := by
        cases its with
        | nil => exact absurd rfl hn
        | cons a b => rfl
      have c1 : (its.toArray.isEmpty || k == 1) = false := by
        rw [hi, Bool.false_or]
        exact beq_eq_false_iff_ne.mpr hk1
      have c2 : (decide (k ≤ 0) || its.toArray.isEmpty) = true := by
        rw [decide_eq_true (by omega)]
        rfl
      refine wpAny_binaryOp_repeat_ref (T := "tuple") (U := "int") (by decide) ⟨_, ho, rfl⟩ (fun s' => typeIs_int s' k t) noFill_tuple_mul F.fills_int_mul F.slot_int_rmul repeat_tuple F.slot_int_index.lookup
        (call_meets F.slot_int_rmul (typeIs_int s k t) F.entry_int_rmul (F.args_int_rmul_2 _ _) (int_rmul_tuple k t l its.toArray n dd sl)
          ⟨ho, rfl, ⟨_, ho, rfl⟩, call_meets F.slot_tuple_mul ⟨_, ho, rfl⟩ F.entry_tuple_mul (F.args_tuple_mul_2 _ _) (tmul_none l its.toArray n dd sl k t c0 c1 c2) ⟨ho, ?_⟩⟩)
      have hf := q2 hne hk1 _ (I.hok.fresh (Nat.le_refl _))
      have e0 : k.toNat = 0 := by omega
      rw [e0] at hf
      refine ⟨.ref s.heap.objs.size, _, I.laid (t' := s.toks) (o := .tup []) (fun b ob q => Heap.get?_push_of_some _ q) (Nat.le_refl _) ?_, rfl, hf⟩
      exact ⟨Nat.zero_le _, [], .nil, IsTup.new _ _⟩
end

/-! ### t[::-1] of a tuple -/
theorem rev_pick (xs : Array Value) : ((List.range xs.size).filterMap fun (m : Nat) => xs[(((xs.size : Int) - 1) + (m : Int) * (-1)).toNat]?).toArray = xs.toList.reverse.toArray := by
  congr 1
  apply List.ext_getElem?
  intro i
  have e : ∀ (l : List Nat), (∀ m ∈ l, m < xs.size) → (l.filterMap fun (m : Nat) => xs[(((xs.size : Int) - 1) + (m : Int) * (-1)).toNat]?) = l.map fun m => xs.toList.getD (xs.size - 1 - m) .none := by
    intro l
    induction l with
    | nil => intro _; rfl
    | cons m l ih =>
      intro hl
      have hm := hl m (by simp)
      have e1 : (((xs.size : Int) - 1) + (m : Int) * (-1)).toNat = xs.size - 1 - m := by omega
      have hlt : xs.size - 1 - m < xs.size := by omega
      rw [List.filterMap_cons, List.map_cons, e1, Array.getElem?_eq_getElem hlt, ih fun k hk => hl k (List.mem_cons_of_mem _ hk)]
      simp [List.getD, hlt]
  rw [e _ (fun m hm => List.mem_range.mp hm), List.getElem?_map]
  by_cases hi : i < xs.size
  · rw [List.getElem?_range hi, List.getElem?_reverse (by simpa using hi)]
    have : xs.toList.length - 1 - i < xs.toList.length := by rw [Array.length_toList]; omega
    have hz : xs.toList.length = xs.size := Array.length_toList
    simp only [List.getD, Option.map_some]
    rw [List.getElem?_eq_getElem (by omega), List.getElem?_eq_getElem (by omega)]
    simp only [Option.getD_some, hz]
  · rw [List.getElem?_eq_none (by simpa using hi), List.getElem?_eq_none (by simpa using hi)]
    rfl
theorem getItem_tuple_rev {prog : Program} {w : World} {A : Around} {E : Value → Shared → Prop} {s : Shared} {t sl : Addr} {items : Array Value} {vs : Value} {Q : Value → Shared → Prop} (ht : IsTup s.heap t items) (hs : s.heap.IsSliceOf sl .none .none vs) (ps : IsPart vs (some (-1)))
    (h : Q (.ref s.heap.objs.size) { s with heap := s.heap.push { cls := .type "tuple", data := .seq items.toList.reverse.toArray } }) (hsz : items.size ≤ sizeLine) : wpAny (model prog w) A (getItem (.ref t) (.ref sl)) Q E s := by
  obtain ⟨os, hos, hcs, hds⟩ := id hs
  have hTs : s.TypeIs (.ref sl) "slice" := ⟨os, hos, hcs⟩
  have hn : 0 ≤ (items.size : Int) := Int.natCast_nonneg _
  unfold getItem
  try with_reducible refine wpAny_holding ?_
  first | refine wpAny_bind (wpAny_pure ?_) | skip
  refine wpAny_bind (wpAny_sequenceKey ht.typeIs (by decide) ?_)
  refine wpAny_bind (wpAny_callSpecial?_slot (name := Str.ofString "__getitem__") ht.typeIs PyProof.Rows.slot_tuple_getitem
    (wpAny_call_entry PyProof.Rows.slot_tuple_getitem ht.typeIs entry_tuple_getitem ?_ (args_tuple_getitem _ _)))
  show wpAny _ _ (Builtin.Tuple.tupleItemsOf (.ref t) >>= _) _ _ s
  refine wpAny_bind (tupleItemsOf_ ht ?_)
  refine wpAny_bind (wpAny_typeOf hTs ?_)
  rw [if_pos (by decide)]
  have ap : ∀ {Q' : Int × Int × Nat → Shared → Prop}, Q' ((items.size : Int) - 1, -1, items.size) s → wpAny (model prog w) (A.in1) (Builtin.Slice.sliceApplied (.ref sl) (pure (items.size : Int))) Q' E s := by
    intro Q' hq
    unfold Builtin.Slice.sliceApplied Builtin.Slice.sliceFields
    refine wpAny_bind (wpAny_bind (wpAny_field hos hds (x := .none) rfl (wpAny_bind (wpAny_field hos hds (x := .none) rfl (wpAny_bind (wpAny_field hos hds (x := vs) rfl (wpAny_pure ?_)))))))
    refine wpAny_bind (slicePart_ ps ?_)
    show wpAny _ _ (if ((-1 : Int) == 0) = true then _ else _) _ _ s
    rw [if_neg (by decide)]
    refine wpAny_bind (slicePart_ .none (wpAny_bind (slicePart_ .none (wpAny_bind (wpAny_pure ?_)))))
    show wpAny _ _ (match Builtin.Slice.sliceAdjust none none (-1) (items.size : Int) with | (lo, hi) => pure (lo, (-1 : Int), Builtin.Slice.slicePlaces lo hi (-1))) _ _ s
    have e1 : Builtin.Slice.sliceAdjust none none (-1) (items.size : Int) = ((items.size : Int) - 1, -1) := by
      unfold Builtin.Slice.sliceAdjust
      simp
    rw [e1]
    show wpAny _ _ (pure ((items.size : Int) - 1, (-1 : Int), Builtin.Slice.slicePlaces ((items.size : Int) - 1) (-1) (-1))) _ _ s
    have e2 : Builtin.Slice.slicePlaces ((items.size : Int) - 1) (-1) (-1) = items.size := by
      unfold Builtin.Slice.slicePlaces
      simp
      split <;> omega
    rw [e2]
    exact wpAny_pure hq
  refine wpAny_bind (ap ?_)
  show wpAny _ _ (if (((items.size : Int) - 1) == 0 && (-1 : Int) == 1 && items.size == items.size) = true then _ else _) _ _ s
  have hno : ¬ ((((items.size : Int) - 1) == 0 && (-1 : Int) == 1 && items.size == items.size) = true) := by
    simp
  rw [if_neg hno, rev_pick]
  have htake : sizeOk (.seq items.toList.reverse.toArray) := by
    show items.toList.reverse.toArray.size ≤ sizeLine
    simpa using hsz
  first
    | exact wpAny_bind (m := Builtin.Tuple.tupleExact _) (wpAny_newObj_type (wpAny_pure ⟨_, rfl, wpAny_pure h⟩) htake)
    | exact wpAny_bind (m := Builtin.Tuple.tupleExact _) (wpAny_newObj_type (wpAny_bind (wpAny_pure (wpAny_pure ⟨_, rfl, wpAny_pure h⟩))) htake)
end Ev
namespace Ev
open PySem PySem.Spec PyProof.Rows L2 RZ
/-! ### arithmetic -/
def lstOf (mh : MH) (n : Nat) : Option (List PV) := match mh[n]? with
  | some (.lst vs) => some vs
  | _ => none
def opAdd : Op2 := fun v w mh => match v, w with
  | .int i, .int j => .ok (.int (i + j)) mh
  | .str x, .str y => if x.length + y.length ≤ sizeLine then .ok (.str (x ++ y)) mh else .bad
  | .tup xs, .tup ys => if xs.length + ys.length ≤ sizeLine then .ok (.tup (xs ++ ys)) mh else .bad
  | .ref n, .ref k => match lstOf mh n, lstOf mh k with
    | some xs, some ys => if xs.length + ys.length ≤ sizeLine then .ok (.ref mh.length) (mh ++ [.lst (xs ++ ys)]) else .bad
    | _, _ => .bad
  | _, _ => .bad
def opSub : Op2 := fun v w mh => match v, w with
  | .int i, .int j => .ok (.int (i - j)) mh
  | _, _ => .bad
def rep {α : Type} (xs : List α) (k : Int) : List α := (List.replicate k.toNat xs).flatten
def opMul : Op2 := fun v w mh => match v, w with
  | .int i, .int j => if i.natAbs.log2 + j.natAbs.log2 < 1000000 then .ok (.int (i * j)) mh else .bad
  | .tup xs, .int k => if -1000 ≤ k ∧ k ≤ 1000 ∧ xs.length ≤ 1000 then .ok (.tup (rep xs k)) mh else .bad
  | .ref n, .int k => match lstOf mh n with
    | some xs => if -1000 ≤ k ∧ k ≤ 1000 ∧ xs.length ≤ 1000 then .ok (.ref mh.length) (mh ++ [.lst (rep xs k)]) else .bad
    | none => .bad
  | _, _ => .bad
def opDiv : Op2 := fun v w mh => match v, w with
  | .int i, .int j => if 0 < j ∧ j.natAbs.log2 < 9000 then .ok (.int (i / j)) mh else .bad
  | _, _ => .bad
def opMod : Op2 := fun v w mh => match v, w with
  | .int i, .int j => if 0 < j then .ok (.int (i % j)) mh else .bad
  | _, _ => .bad
def opPow : Op2 := fun v w mh => match v, w with
  | .int i, .int j => if 0 ≤ j ∧ j ≤ 1000 ∧ i.natAbs.log2 < 10000 then .ok (.int (i ^ j.toNat)) mh else .bad
  | _, _ => .bad
def opNeg : Op1 := fun v mh => match v with
  | .int i => .ok (.int (-i)) mh
  | _ => .bad
theorem q_add : Quiet2 opAdd := fun v w mh c u h e => by
  unfold opAdd at e
  repeat' split at e
  all_goals cases e
theorem q_sub : Quiet2 opSub := fun v w mh c u h e => by
  unfold opSub at e
  repeat' split at e
  all_goals cases e
theorem q_mul : Quiet2 opMul := fun v w mh c u h e => by
  unfold opMul at e
  repeat' split at e
  all_goals cases e
theorem q_div : Quiet2 opDiv := fun v w mh c u h e => by
  unfold opDiv at e
  repeat' split at e
  all_goals cases e
theorem q_mod : Quiet2 opMod := fun v w mh c u h e => by
  unfold opMod at e
  repeat' split at e
  all_goals cases e
theorem q_pow : Quiet2 opPow := fun v w mh c u h e => by
  unfold opPow at e
  repeat' split at e
  all_goals cases e
theorem q_neg : Quiet1 opNeg := fun v mh c u h e => by
  unfold opNeg at e
  repeat' split at e
  all_goals cases e
section
variable {K : KW} {ρ : List Addr} {H : Hp} {mh : MH}
theorem lstOf_below {n : Nat} {a : Addr} {vs : List PV} (sh : SimH K ρ mh H) (h : ρ[n]? = some a) (e : lstOf mh n = some vs) : ∃ ws, H a = some (.lst ws) ∧ RVs K ρ H vs ws := by
  unfold lstOf at e
  split at e
  · rename_i us q
    cases e
    exact sh.ob n _ a q h
  · cases e
theorem RVs.rep {vs : List PV} {ws : List V} (r : RVs K ρ H vs ws) : ∀ k : Nat, RVs K ρ H (List.replicate k vs).flatten (List.replicate k ws).flatten
  | 0 => .nil
  | k + 1 => by
    rw [List.replicate_succ, List.replicate_succ, List.flatten_cons, List.flatten_cons]
    exact r.append (RVs.rep r k)
theorem RVs.nil_iff {vs : List PV} {ws : List V} (r : RVs K ρ H vs ws) : vs = [] ↔ ws = [] := by
  cases r with
  | nil => exact ⟨fun _ => rfl, fun _ => rfl⟩
  | cons _ _ => exact ⟨fun h => (nomatch h), fun h => (nomatch h)⟩
end
section
variable {X : Cx}
theorem ov_add : OpV X (binaryOp .Add) opAdd := by
  intro pins s σ H x y v u Q I rx ry h
  obtain ⟨ρ, mh, p, q, sh, r1, r2, k⟩ := h
  unfold opAdd at k
  split at k
  · cases r1; cases r2
    exact op_add pins s σ H _ _ v u Q I rx ry ⟨_, _, rfl, rfl, k.mk sh (.int _)⟩
  · cases r1; cases r2
    split at k
    · rename_i hz
      exact op_add_str pins s σ H _ _ v u Q I rx ry ⟨_, _, rfl, rfl, hz, k.mk sh (.str _)⟩
    · exact k.elim
  · rename_i xs ys
    cases r1 with
    | @tup _ ws a h1 t1 =>
      cases r2 with
      | @tup _ zs b h2 t2 =>
        split at k
        · rename_i hz
          refine op_catA pins s σ H _ _ v u Q I rx ry ⟨a, b, ws, zs, rfl, rfl, h1, h2, by rw [← t1.length, ← t2.length]; exact hz, fun e => ?_, fun e1 e2 => ?_, fun e1 e2 p hp => k.newTup sh (t1.append t2) hp⟩
          · have : xs = [] := (t1.nil_iff).mpr e
            subst this
            exact k.mk sh (.tup h2 t2)
          · have : ys = [] := (t2.nil_iff).mpr e2
            subst this
            rw [List.append_nil] at k
            exact k.mk sh (.tup h1 t1)
        · exact k.elim
  · rename_i n m
    split at k
    · rename_i xs ys e1 e2
      cases r1 with
      | @ref _ a h1 =>
        cases r2 with
        | @ref _ b h2 =>
          obtain ⟨ws, p1, t1⟩ := lstOf_below sh h1 e1
          obtain ⟨zs, p2, t2⟩ := lstOf_below sh h2 e2
          split at k
          · rename_i hz
            exact op_cat pins s σ H _ _ v u Q I rx ry ⟨a, b, ws, zs, rfl, rfl, p1, p2, by rw [← t1.length, ← t2.length]; exact hz, fun p hp => k.newLst sh (t1.append t2) hp⟩
          · exact k.elim
    · exact k.elim
  · exact k.elim
theorem ov_sub : OpV X (binaryOp .Sub) opSub := by
  intro pins s σ H x y v u Q I rx ry h
  obtain ⟨ρ, mh, p, q, sh, r1, r2, k⟩ := h
  unfold opSub at k
  split at k
  · cases r1; cases r2
    exact op_sub pins s σ H _ _ v u Q I rx ry ⟨_, _, rfl, rfl, k.mk sh (.int _)⟩
  · exact k.elim
theorem ov_mul : OpV X (binaryOp .Mult) opMul := by
  intro pins s σ H x y v u Q I rx ry h
  obtain ⟨ρ, mh, p, q, sh, r1, r2, k⟩ := h
  unfold opMul at k
  split at k
  · cases r1; cases r2
    split at k
    · rename_i hz
      exact op_mulW pins s σ H _ _ v u Q I rx ry ⟨_, _, rfl, rfl, hz, k.mk sh (.int _)⟩
    · exact k.elim
  · rename_i xs j
    cases r1 with
    | @tup _ ws a h1 t1 =>
      cases r2
      split at k
      · rename_i hz
        obtain ⟨z1, z2, z3⟩ := hz
        refine op_repTA pins s σ H _ _ v u Q I rx ry ⟨a, j, ws, rfl, rfl, h1, z1, z2, by rw [← t1.length]; exact z3, fun e => ?_, fun e1 e2 p hp => k.newTup sh (t1.rep j.toNat) hp⟩
        have er : rep xs j = xs := by
          rcases e with e | e
          · have : xs = [] := (t1.nil_iff).mpr e
            subst this
            unfold rep
            rw [List.flatten_eq_nil_iff]
            intro l hl
            exact (List.eq_of_mem_replicate hl)
          · subst e
            unfold rep
            simp
        rw [er] at k
        exact k.mk sh (.tup h1 t1)
      · exact k.elim
  · rename_i n j
    split at k
    · rename_i xs e1
      cases r1 with
      | @ref _ a h1 =>
        cases r2
        obtain ⟨ws, p1, t1⟩ := lstOf_below sh h1 e1
        split at k
        · rename_i hz
          obtain ⟨z1, z2, z3⟩ := hz
          refine op_rep pins s σ H _ _ v u Q I rx ry ⟨a, j, ws, rfl, rfl, p1, by omega, by omega, ?_, fun p hp => k.newLst sh (t1.rep j.toNat) hp⟩
          rw [← t1.length, sizeLine_eq]
          have : xs.length * j.toNat ≤ 1000 * 1000 := Nat.mul_le_mul z3 (by omega)
          omega
        · exact k.elim
    · exact k.elim
  · exact k.elim
theorem ov_div : OpV X (binaryOp .FloorDiv) opDiv := by
  intro pins s σ H x y v u Q I rx ry h
  obtain ⟨ρ, mh, p, q, sh, r1, r2, k⟩ := h
  unfold opDiv at k
  split at k
  · cases r1; cases r2
    split at k
    · rename_i hz
      exact op_fdivW pins s σ H _ _ v u Q I rx ry ⟨_, _, rfl, rfl, hz, k.mk sh (.int _)⟩
    · exact k.elim
  · exact k.elim
theorem ov_mod : OpV X (binaryOp .Mod) opMod := by
  intro pins s σ H x y v u Q I rx ry h
  obtain ⟨ρ, mh, p, q, sh, r1, r2, k⟩ := h
  unfold opMod at k
  split at k
  · cases r1; cases r2
    split at k
    · rename_i hz
      exact op_mod pins s σ H _ _ v u Q I rx ry ⟨_, _, rfl, rfl, hz, k.mk sh (.int _)⟩
    · exact k.elim
  · exact k.elim
theorem op_powW : OpR X (binaryOp .Pow) (rI (fun i j => 0 ≤ j ∧ j ≤ 1000 ∧ i.natAbs.log2 < 10000) fun i j => .int (i ^ j.toNat)) := opI fun i j _ _ _ _ _ hc q => by
  obtain ⟨h1, h2, h3⟩ := hc
  refine pow_int h1 ?_ q
  have hb : Builtin.Int.intBits i ≤ i.natAbs.log2 + 1 := by
    unfold Builtin.Int.intBits
    split <;> omega
  have hb2 : (Builtin.Int.intBits i : Int) ≤ 10001 := by omega
  have hb0 : (0 : Int) ≤ (Builtin.Int.intBits i : Int) := Int.natCast_nonneg _
  have : (Builtin.Int.intBits i : Int) * j ≤ 10001 * 1000 := Int.mul_le_mul hb2 h2 h1 (by omega)
  omega
theorem ov_pow : OpV X (binaryOp .Pow) opPow := by
  intro pins s σ H x y v u Q I rx ry h
  obtain ⟨ρ, mh, p, q, sh, r1, r2, k⟩ := h
  unfold opPow at k
  split at k
  · cases r1; cases r2
    split at k
    · rename_i hz
      exact op_powW pins s σ H _ _ v u Q I rx ry ⟨_, _, rfl, rfl, hz, k.mk sh (.int _)⟩
    · exact k.elim
  · exact k.elim
theorem uv_neg : UnV X (unaryOp .USub) opNeg := by
  intro pins s σ H x v Q I rx h
  obtain ⟨ρ, mh, p, sh, r1, k⟩ := h
  unfold opNeg at k
  split at k
  · cases r1
    exact un_neg pins s σ H _ v Q I rx ⟨_, rfl, k.mk sh (.int _)⟩
  · exact k.elim
end

/-! ### places, slices -/
def ixPV (v w : PV) (mh : MH) : Option PV := match w with
  | .int i => match v with
    | .str z => if z.length ≤ sizeLine then (atI z.cps.toList i).map fun c => .str ⟨#[c]⟩ else none
    | _ => match seqOf v mh with
      | some vs => atI vs i
      | none => none
  | _ => none
def opIx : Op2 := fun v w mh => match ixPV v w mh with
  | some r => .ok r mh
  | none => .bad
theorem q_ix : Quiet2 opIx := fun v w mh c u h e => by
  unfold opIx at e
  split at e <;> cases e
theorem atI_below {K : KW} {ρ : List Addr} {H : Hp} {vs : List PV} {ws : List V} {i : Int} {v : PV} (r : RVs K ρ H vs ws) (e : atI vs i = some v) : ∃ w, atI ws i = some w ∧ RV K ρ H v w := by
  unfold atI at e ⊢
  rw [← r.length]
  cases q : ixN vs.length i with
  | none => rw [q] at e; cases e
  | some j =>
    rw [q] at e
    exact r.get e
section
variable {X : Cx} {W : WX} {a b e : Expr} {pos p2 : Pos} {ma mb : PEnv → MH → R PV}
theorem re_ix (ha : RE X W a ma) (hb : RE X W b mb) (hs : PlainIx b) : RE X W (.Subscript a b pos) (mBin opIx ma mb) :=
  (pe_ix ix_seq ha hb hs).imp fun σ H Q h => bin_imp q_ix (fun x y H Q q => by
    obtain ⟨ρ, mh, v, w, sh, r1, r2, k⟩ := q
    unfold opIx at k
    split at k
    · rename_i r e
      unfold ixPV at e
      cases r2 with
      | int i =>
        cases r1 with
        | str z =>
          simp only at e
          split at e
          · rename_i hz
            obtain ⟨c, e1, e2⟩ := Option.map_eq_some_iff.mp e
            subst e2
            exact .inr (.inr ⟨z, i, c, rfl, rfl, hz, e1, k.mk sh (.str _)⟩)
          · cases e
        | @tup vs ws a h1 t1 =>
          have e' : atI vs i = some r := e
          obtain ⟨y, e1, ry⟩ := atI_below t1 e'
          exact .inr (.inl ⟨a, ws, i, y, rfl, rfl, h1, e1, k.mk sh ry⟩)
        | @ref n a h1 =>
          simp only at e
          split at e
          · rename_i vs e2
            obtain ⟨a', ws, e3, rs, z⟩ := seq_below sh (.ref h1) e2
            cases e3
            obtain ⟨y, e1, ry⟩ := atI_below rs e
            rcases z with ⟨z, _, z2⟩ | ⟨z, _⟩
            · cases z2
            · exact .inl ⟨a, ws, i, y, rfl, rfl, z, e1, k.mk sh ry⟩
          · cases e
        | non => cases e
        | bl _ => cases e
        | int _ => cases e
      | _ => cases e
    · exact k.elim) σ H Q h
/-- a part of a slice -/
def mNoPart : PEnv → MH → R (Option Int) := fun _ mh => .ok none mh
def mPart (m : PEnv → MH → R PV) : PEnv → MH → R (Option Int) := fun env mh => (m env mh).bind fun v mh1 => match v with
  | .int i => .ok (some i) mh1
  | _ => .bad
def cutL {α : Type} (xs : List α) (lo hi : Option Int) : List α := (xs.drop (HT.sIx xs.length 0 lo)).take (HT.sIx xs.length xs.length hi - HT.sIx xs.length 0 lo)
def opSl (v : PV) (lo hi : Option Int) (mh : MH) : R PV := match v with
  | .str z => if z.length ≤ sizeLine then .ok (.str (cutS z lo hi)) mh else .bad
  | .tup vs => .ok (.tup (cutL vs lo hi)) mh
  | .ref n => match seqOf (.ref n) mh with
    | some vs => .ok (.ref mh.length) (mh ++ [.lst (cutL vs lo hi)])
    | none => .bad
  | _ => .bad
def mSl (ma : PEnv → MH → R PV) (ml mu : PEnv → MH → R (Option Int)) : PEnv → MH → R PV := fun env mh => (ma env mh).bind fun v mh1 => (ml env mh1).bind fun lo mh2 => (mu env mh2).bind fun hi mh3 => opSl v lo hi mh3
def tOr (K : KW) (W : WX) (m : PEnv → MH → R (Option Int)) : TO := fun σ H Q => ∃ ρ env mh, SimH K ρ mh H ∧ SimE K ρ H env σ ∧ (match m env mh with
  | .ok v mh' => ∀ ρ' H', Le K ρ H ρ' H' → SimH K ρ' mh' H' → Q v H'
  | .exc c v mh' => ∀ ρ' w d H', Le K ρ H ρ' H' → SimH K ρ' mh' H' → RV K ρ' H' v w → H' d = some (.xd [("value", w)]) → W (.ref (He.ga K.k c)) (some d) σ H'
  | .bad => False)
theorem _root_.L2.PO.imp {X : Cx} {e : Option Expr} {t t' : TO} (h : PO X e t) (k : ∀ σ H Q, t' σ H Q → t σ H Q) : PO X e t' := ⟨fun pins s σ H Q I q => h.run pins s σ H Q I (k σ H Q q)⟩
abbrev RO' (X : Cx) (W : WX) (e : Option Expr) (m : PEnv → MH → R (Option Int)) : Prop := PO X e (tOr X.kw W m)
theorem ro_none : RO' X W none mNoPart := po_none.imp fun σ H Q h => by
  obtain ⟨ρ, env, mh, sh, se, p⟩ := h
  exact p ρ H .refl sh
theorem ro_some (h : RE X W e ma) : RO' X W (some e) (mPart ma) := (po_some h).imp fun σ H Q h => by
  obtain ⟨ρ, env, mh, sh, se, p⟩ := h
  refine ⟨ρ, env, mh, sh, se, ?_⟩
  unfold mPart at p
  cases q : ma env mh with
  | bad => rw [q] at p; exact p.elim
  | exc c v mh1 => rw [q] at p; exact p
  | ok v mh1 =>
    rw [q] at p
    intro ρ1 x H1 l1 sh1 rv
    cases rv with
    | int i => exact ⟨i, rfl, p ρ1 H1 l1 sh1⟩
    | _ => exact p.elim
theorem slA : SlR X (fun x lo hi H Q => (rSlL X.K x lo hi H Q ∨ rSlA X.K x lo hi H Q) ∨ rSlS x lo hi H Q) := (sl_list.or sl_tupA).or sl_str
theorem re_sl {lo hi : Option Expr} {ml mu : PEnv → MH → R (Option Int)} (ha : RE X W a ma) (hl : RO' X W lo ml) (hu : RO' X W hi mu) : RE X W (.Subscript a (.Slice lo hi none p2) pos) (mSl ma ml mu) :=
  (pe_slice slA ha hl hu).imp fun σ H Q h => by
    obtain ⟨ρ, env, mh, sh, se, p⟩ := h
    refine ⟨ρ, env, mh, sh, se, Post.bind p fun v mh1 ρ1 x H1 _ l1 sh1 rv p1 => ?_⟩
    refine ⟨ρ1, env, mh1, sh1, se.mono l1, ?_⟩
    cases q1 : ml env mh1 with
    | bad => rw [q1] at p1; exact p1.elim
    | exc c v mh2 => rw [q1] at p1; exact p1
    | ok lo mh2 =>
      rw [q1] at p1
      intro ρ2 H2 l2 sh2
      refine ⟨ρ2, env, mh2, sh2, (se.mono l1).mono l2, ?_⟩
      have p2 : Post X.kw ρ1 H1 ((mu env mh2).bind fun hi mh3 => opSl v lo hi mh3) Q _ := p1
      cases q2 : mu env mh2 with
      | bad => rw [q2] at p2; exact p2.elim
      | exc c v mh3 => rw [q2] at p2; exact fun ρ' w d H' a b c e => p2 ρ' w d H' (l2.trans a) b c e
      | ok hi mh3 =>
        rw [q2] at p2
        intro ρ3 H3 l3 sh3
        have p3 : Post X.kw ρ3 H3 (opSl v lo hi mh3) Q _ := Post.le (l2.trans l3) p2
        have rv3 := rv.mono (l2.trans l3)
        unfold opSl at p3
        cases rv3 with
        | str z =>
          simp only at p3
          split at p3
          · rename_i hz
            exact .inr ⟨z, rfl, hz, p3.mk sh3 (.str _)⟩
          · exact p3.elim
        | @tup vs ws a h1 t1 =>
          simp only at p3
          refine .inl (.inr ⟨a, ws, rfl, h1, fun e => ?_, fun e q hq => ?_⟩)
          · have ec : cutL vs lo hi = vs := by
              unfold cutL
              rw [t1.length, e.1, e.2, List.drop_zero, Nat.sub_zero, ← t1.length]
              exact List.take_length
            rw [ec] at p3
            exact p3.mk sh3 (.tup h1 t1)
          · have rc : RVs X.kw ρ3 H3 (cutL vs lo hi) (cutV ws lo hi) := by
              unfold cutL cutV
              rw [t1.length]
              exact (t1.drop _).take _
            exact p3.newTup sh3 rc hq
        | @ref n a h1 =>
          simp only at p3
          split at p3
          · rename_i vs e2
            obtain ⟨a', ws, e3, rs, z⟩ := seq_below sh3 (.ref h1) e2
            cases e3
            rcases z with ⟨_, _, z2⟩ | ⟨z, _⟩
            · cases z2
            · refine .inl (.inl ⟨a, ws, rfl, z, fun q hq => ?_⟩)
              have rc : RVs X.kw ρ3 H3 (cutL vs lo hi) (cutV ws lo hi) := by
                unfold cutL cutV
                rw [rs.length]
                exact (rs.drop _).take _
              exact p3.newLst sh3 rc hq
          · exact p3.elim
        | non => exact p3.elim
        | bl _ => exact p3.elim
        | int _ => exact p3.elim
end
end Ev
namespace Ev
open PySem PySem.Spec PyProof.Rows L2 RZ
/-! ### how plain parameters are bound -/
theorem lookup_zip {α : Type} : ∀ {ns : List Str} {us : List α}, us.length = ns.length → ∀ n ∈ ns, ((ns.zip us).lookup n).isSome = true
  | [], _, _, n, h => by cases h
  | m :: ns, [], hl, n, h => by cases hl
  | m :: ns, u :: us, hl, n, h => by
    rw [List.zip_cons_cons, List.lookup_cons]
    cases e : (n == m) with
    | true => rfl
    | false =>
      rcases List.mem_cons.mp h with rfl | h
      · simp at e
      · exact lookup_zip (by simpa using hl) n h
theorem filterMap_zip {α : Type} : ∀ {ns : List Str} {us : List α}, ns.Nodup → us.length = ns.length → ns.filterMap (fun n => ((ns.zip us).lookup n).map (n, ·)) = ns.zip us := by
  have key : ∀ (ns : List Str) (us : List α) (pre : List (Str × α)), ns.Nodup → us.length = ns.length → (∀ n ∈ ns, ∀ p ∈ pre, p.1 ≠ n) → ns.filterMap (fun n => ((pre ++ ns.zip us).lookup n).map (n, ·)) = ns.zip us := by
    intro ns
    induction ns with
    | nil => intro us pre _ _ _; rfl
    | cons m ns ih =>
      intro us pre nd hl hp
      cases us with
      | nil => cases hl
      | cons u us =>
        have hm : (pre ++ (m :: ns).zip (u :: us)).lookup m = some u := by
          rw [List.zip_cons_cons]
          have : ∀ (pre : List (Str × α)), (∀ p ∈ pre, p.1 ≠ m) → (pre ++ (m, u) :: ns.zip us).lookup m = some u := by
            intro pre
            induction pre with
            | nil => intro _; simp [List.lookup_cons]
            | cons p pre ih2 =>
              intro h
              rw [List.cons_append, List.lookup_cons]
              have : (m == p.1) = false := beq_eq_false_iff_ne.mpr (fun z => h p (by simp) z.symm)
              rw [this]
              exact ih2 fun q hq => h q (List.mem_cons_of_mem _ hq)
          exact this pre (hp m (by simp))
        rw [List.filterMap_cons, hm, List.zip_cons_cons]
        simp only [Option.map_some]
        congr 1
        have e : pre ++ (m, u) :: ns.zip us = (pre ++ [(m, u)]) ++ ns.zip us := by simp
        rw [e]
        refine ih us (pre ++ [(m, u)]) (List.nodup_cons.mp nd).2 (by simpa using hl) fun n hn p hpm => ?_
        rcases List.mem_append.mp hpm with h | h
        · exact hp n (List.mem_cons_of_mem _ hn) p h
        · rw [List.mem_singleton] at h
          subst h
          exact fun z => (List.nodup_cons.mp nd).1 (by rw [show m = n from z]; exact hn)
  intro ns us nd hl
  exact key ns us [] nd hl fun _ _ p h => by cases h
/-- parameters without defaults, stars, keywords -/
structure Plain (p : Arguments) (ps : List Str) : Prop where
  po : p.posonlyargs = []
  na : p.args.map (·.arg) = ps
  va : p.vararg = none
  ko : p.kwonlyargs = []
  ka : p.kwarg = none
  nd : ps.Nodup
theorem bind_plain {fd : FuncData} {ps : List Str} (h : Plain fd.params ps) (hd : fd.defaults = .none) (us : List Value) (hl : us.length = ps.length) : bindArgs fd ⟨us, []⟩ = pure (ps.zip us) := by
  have hsq : seqItems? Value.none = pure none := rfl
  have hm : ((ps.take (ps.length - 0)).filter fun n => ((ps.zip us).lookup n).isNone) = [] := by
    rw [List.filter_eq_nil_iff]
    intro n hn
    have := lookup_zip hl n (List.mem_of_mem_take hn)
    simp only [Option.isNone_iff_eq_none, bne_iff_ne]
    intro z
    rw [z] at this
    cases this
  unfold bindArgs
  simp only [h.po, h.na, h.va, h.ko, h.ka, hd, hsq, List.map_nil, List.nil_append, List.append_nil, List.forIn_nil, pure_bind, Option.getD_none, List.drop_nil, List.length_nil, hm]
  have hgt : ¬ us.length > ps.length := by omega
  simp [hgt, filterMap_zip h.nd hl]

/-! ### defs -/
/-- a def's promise, told in a context without guards around -/
structure FnG (P : Program) (w : World) (K : PySem.W.Frag) (mg : Str → Option Value) (base : Heap) (k : Nat) (f : Addr) (fd : FuncData) (ps : List Str) (sp : Sp) : Prop where
  len : ∀ vs H Q E, sp vs H Q E → vs.length = ps.length
  run : ∀ (A : Around) (outer : List PySem.Env) (s : Shared) (H : Hp) (args : Args) (us : List Value) (vs : List V) (Q : VK) (E : XK), Room k A → A.guards = some [] → Env0 P w K mg base A outer s H → BindsTo s fd args (ps.zip us) → Vals vs us → sp vs H Q E →
    codeAny (model P w) A (.call (.ref f) args) (CR (L2.CX P w) outer P w H s Q E) s
theorem FnG.mono {P : Program} {w : World} {K : PySem.W.Frag} {mg : Str → Option Value} {base : Heap} {j k : Nat} {f : Addr} {fd : FuncData} {ps : List Str} {sp : Sp} (F : FnG P w K mg base j f fd ps sp) (h : j ≤ k) : FnG P w K mg base k f fd ps sp :=
  ⟨F.len, fun A outer s H args us vs Q E hr hg => F.run A outer s H args us vs Q E (hr.mono h) hg⟩
/-- by its body -/
theorem fng_of {P : Program} {w : World} {K : PySem.W.Frag} {mg : Str → Option Value} {base : Heap} {k : Nat} {f : Addr} {name qual : Str} {params : Arguments} {body : List Stmt} {scope : Scope} {dV kV doc pm cdv ct oc : Value} {an od : Option Addr}
    {osl : Array (Option Value)} {N ps : List Str} {sp : Sp} (lk : K.lookup f = some ⟨oc, od, .func (PySem.W.fnOf name qual params body scope dV kV doc pm an cdv ct), osl⟩) (hcd : PySem.W.codeIn K cdv qual = true) (S : FnScope N ps scope)
    (len : ∀ vs H Q E, sp vs H Q E → vs.length = ps.length)
    (hbody : ∀ (A : Around) (outer : List PySem.Env) (s : Shared) (H : Hp) (vs : List V) (Q : VK) (E : XK), Room k (A.deeper (envOfC qual scope s.heap.objs.size f cdv)) → A.guards = some [] → sp vs H Q E →
      ∃ t, PSs (cxOf (L2.CX P w) P w K mg base N qual scope f cdv A outer s H E) body t ∧ t { nx := fun _ H' => Q .non H', rt := Q } (L2.start N vs) H) :
    FnG P w K mg base (k + 1) f (PySem.W.fnOf name qual params body scope dV kV doc pm an cdv ct) ps sp := by
  refine ⟨len, fun A outer s H args us vs Q E hr hg e0 hb r hsp => ?_⟩
  have hl := len _ _ _ _ hsp
  have kin : K.In s.heap := e0.mod.kin.keeps (fun b o e => (e0.bs b o e).1)
  have nolim : s.heap.NoLimit := e0.mod.nolimit.keeps (fun b o e => (e0.bs b o e).1)
  have kinds : ∀ y ∈ ps.zip us, scope.names.lookup y.1 = some .local ∨
      (scope.names.lookup y.1 = some .cell ∧ ((cellsFrom (s.heap.objs.size + 1) scope.names []).lookup y.1).isSome = true) := by
    rintro ⟨n, v⟩ hy
    have hn := (List.of_mem_zip hy).1
    rcases S.par n hn with q | q
    · exact .inl q
    · exact .inr ⟨q, PySem.W.cellsFrom_some _ _ _ (.inl q)⟩
  apply codeAny_call_function hr.depth (kin _ _ lk) rfl S.co S.gen rfl (PySem.W.codeRec_of kin hcd)
  apply hb
  refine wpAny_newFunctionEnv_cells S.kind kinds (fun env he s1 x => ?_)
  subst he
  refine ⟨nolim.keeps x.toInCall.keep, codeAny_func ?_⟩
  obtain ⟨t, ht, hq⟩ := hbody A outer s H vs Q E (hr.deeper _) hg hsp
  have I0 := inv_start (CX := L2.CX P w) (E := E) (cd := cdv) (f := f) (qual := qual) S hr.hd e0 hl r x
  have fin : ∀ {σ' : L2.St} {H' : Hp} {v : V} {u : Value} {s' : Shared}, Inv (cxOf (L2.CX P w) P w K mg base N qual scope f cdv A outer s H E) [] σ' H' s' →
      RelV v u → Q v H' → CE outer P w H s Q u s' := by
    intro σ' H' v u s' J rv q
    exact ⟨v, H', J.os, J.bare, J.base, J.hok, rv, q⟩
  refine wpAny_mono (ht.run [] s1 (L2.start N vs) H _ I0 hq) (fun fl s' hs => ?_) (fun e s' hs => hs)
  cases fl with
  | ret u => exact let ⟨_, _, _, J, rv, q⟩ := hs; fin J rv q
  | next => exact let ⟨_, _, J, q⟩ := hs; fin (v := V.non) (u := Value.none) J rfl q
  | brk => exact let ⟨_, _, _, q⟩ := hs; False.elim q
  | cont => exact let ⟨_, _, _, q⟩ := hs; False.elim q
/-- the callee runs -/
theorem run_g {X : Cx} {k : Nat} {f : Addr} {fd : FuncData} {ps : List Str} {sp : Sp} {dvs : List V} {ds : List Value} {E : XK} {pins : List (Addr × Obj)} {σ : L2.St} {H : Hp} {s : Shared} {Q : VK} {us : List Value} {vs : List V}
    (F : FnG X.prog X.w X.K X.mg X.base k f fd ps sp) (hr : Room k X.A) (hg : X.A.guards = some []) (hb : Binds X.K fd ps ds) (hd : Vals dvs ds) (hx : ∀ e s', L2.CX X.prog X.w X.stack H s E e s' → X.xe e s')
    (I : Inv X pins σ H s) (r : Vals vs us) (h : sp (vs ++ dvs) H Q E) : wpAny (model X.prog X.w) X.A (call (.ref f) us) (EP X pins σ Q) X.xe s := by
  have r2 : Vals (vs ++ dvs) (us ++ ds) := r.append hd
  have hl : (us ++ ds).length = ps.length := by
    rw [← r2.length]
    exact F.len _ _ _ _ h
  have run := F.run X.A X.stack s H ⟨us, []⟩ (us ++ ds) (vs ++ dvs) Q E hr hg I.env0 (hb s us I.kIn hl) r2 h
  refine wpAny_call (codeAny_mono run fun res s' hq => ?_)
  match res, hq with
  | .error e, hq => exact hx e s' hq
  | .ok (.ret u), hq => exact I.after hq
/-- a call, what is raised wished for at the caller's slots -/
def tCallW (sp : Sp) (W : WX) (t : TA) : TE := fun σ H Q => t σ H fun vs H1 => sp vs H1 Q (fun c d H' => W c d σ H')
/-- f(..), f a def of the top -/
theorem pe_g {X : Cx} {k : Nat} {f : Addr} {fd : FuncData} {ps : List Str} {sp : Sp} {W : WX} {x : Str} {p pos : Pos} {e : Expr} {es : List Expr} {t : TA}
    (F : FnG X.prog X.w X.K X.mg X.base k f fd ps sp) (hr : Room k X.A) (hgu : X.A.guards = some []) (hg : Gl X x) (hm : X.mg x = some (.ref f)) (hk : PySem.W.keepIn X.K (.ref f) = true) (hb : Binds X.K fd ps []) (tk : Takes X W)
    (ha : PA X (e :: es) t) (hdb : (x == ("__debug__" : Str)) = false) (he : starEach (e :: es) X.env = (false, eval e X.env) :: starEach es X.env) (hpl : (backTo pos (starEach es X.env)).any (·.1) = false) :
    PE X (.Call (.Name x p) (e :: es) [] pos) (tCallW sp W t) := by
  constructor
  intro pins s σ H Q I h
  apply wpAny_Call_Name_kw
  refine ld_glob I hg hm ?_ hdb
  apply PySem.W.callWith_K (h₀ := X.base) I.ok.mod.kin hk ?_ he hpl
  exact thn (ha.run pos pins s σ H _ I h) fun us s1 ⟨vs, H1, I1, r, q⟩ => ⟨I1.kIn, run_g F hr hgu hb .nil (fun e s' c => tk e s' (XE.of_call I1 (fun _ _ _ z => z) c)) I1 r (by rw [List.append_nil]; exact q)⟩
theorem pe_g0 {X : Cx} {k : Nat} {f : Addr} {fd : FuncData} {ps : List Str} {sp : Sp} {W : WX} {x : Str} {p pos : Pos}
    (F : FnG X.prog X.w X.K X.mg X.base k f fd ps sp) (hr : Room k X.A) (hgu : X.A.guards = some []) (hg : Gl X x) (hm : X.mg x = some (.ref f)) (hk : PySem.W.keepIn X.K (.ref f) = true) (hb : Binds X.K fd ps []) (tk : Takes X W)
    (hdb : (x == ("__debug__" : Str)) = false) : PE X (.Call (.Name x p) [] [] pos) (tCallW sp W tNil) := by
  constructor
  intro pins s σ H Q I h
  apply wpAny_Call_Name_kw
  refine ld_glob I hg hm ?_ hdb
  exact PySem.W.callWith_K0 I.kIn hk (run_g (us := []) F hr hgu hb .nil (fun e s' c => tk e s' (XE.of_call I (fun _ _ _ z => z) c)) I .nil h)

/-! ### defs of the evaluator -/
/-- the promise that the evaluator's answer makes -/
def spE (K : KW) (n : Nat) (cf : List PV → MH → R PV) : Sp := fun vs H Q E => ∃ ρ mh args, SimH K ρ mh H ∧ RVs K ρ H args vs ∧ args.length = n ∧ Post K ρ H (cf args mh) Q E
/-- a body run -/
def runB (body : PEnv → MH → RS) (n : Nat) (args : List PV) (mh : MH) : R PV := match body (args.map some ++ List.replicate (n - args.length) none) mh with
  | .nx _ h => .ok .non h
  | .rt v h => .ok v h
  | .exc c v _ h => .exc c v h
  | _ => .bad
theorem simE_start {K : KW} {ρ : List Addr} {H : Hp} {args : List PV} {vs : List V} (r : RVs K ρ H args vs) (N : List Str) : SimE K ρ H (args.map some ++ List.replicate (N.length - args.length) none) (L2.start N vs) := by
  unfold L2.start
  refine ⟨by simp [r.length], fun i v e => ?_⟩
  by_cases hi : i < args.length
  · rw [List.getElem?_append_left (by simpa using hi), List.getElem?_map] at e
    cases q : args[i]? with
    | none => rw [q] at e; cases e
    | some a =>
      rw [q] at e
      cases e
      obtain ⟨w, h1, h2⟩ := r.get q
      refine ⟨w, ?_, h2⟩
      rw [List.getElem?_append_left (by rw [List.length_map, ← r.length]; exact hi), List.getElem?_map, h1]
      rfl
  · rw [List.getElem?_append_right (by simpa using hi), List.getElem?_replicate] at e
    split at e <;> cases e
theorem body_post {K : KW} {ρ : List Addr} {H : Hp} {r : RS} {Q : VK} {E : XK} (p : Post K ρ H (match r with
  | .nx _ h => .ok .non h
  | .rt v h => .ok v h
  | .exc c v _ h => .exc c v h
  | _ => .bad) Q E) : PostS K ρ H r { nx := fun _ H' => Q .non H', rt := Q } (fun c d _ H' => E c d H') := by
  cases r with
  | nx e h => exact fun ρ' σ' H' a b c => p ρ' .non H' a b .non
  | rt v h => exact p
  | exc c v e h => exact fun ρ' w d σ' H' a b c r e => p ρ' w d H' a b r e
  | bk _ _ => exact p.elim
  | ct _ _ => exact p.elim
  | bad => exact p.elim
/-- a def keeps the evaluator's promise -/
theorem fng_body {P : Program} {w : World} {K : PySem.W.Frag} {mg : Str → Option Value} {base : Heap} {k : Nat} {f : Addr} {name qual : Str} {params : Arguments} {body : List Stmt} {scope : Scope} {dV kV doc pm cdv ct oc : Value} {an od : Option Addr}
    {osl : Array (Option Value)} {N ps : List Str} {mb : PEnv → MH → RS} (lk : K.lookup f = some ⟨oc, od, .func (PySem.W.fnOf name qual params body scope dV kV doc pm an cdv ct), osl⟩) (hcd : PySem.W.codeIn K cdv qual = true) (S : FnScope N ps scope)
    (hbody : ∀ (A : Around) (outer : List PySem.Env) (s : Shared) (H : Hp) (E : XK), Room k (A.deeper (envOfC qual scope s.heap.objs.size f cdv)) → A.guards = some [] →
      RSs (cxOf (L2.CX P w) P w K mg base N qual scope f cdv A outer s H E) (fun c d _ H' => E c d H') body mb) :
    FnG P w K mg base (k + 1) f (PySem.W.fnOf name qual params body scope dV kV doc pm an cdv ct) ps (spE ⟨K, w, P⟩ ps.length (runB mb N.length)) := by
  refine fng_of lk hcd S (fun vs H Q E h => ?_) (fun A outer s H vs Q E hr hg h => ⟨_, hbody A outer s H E hr hg, ?_⟩)
  · obtain ⟨ρ, mh, args, sh, r, hl, p⟩ := h
    rw [← r.length, hl]
  · obtain ⟨ρ, mh, args, sh, r, hl, p⟩ := h
    exact ⟨ρ, _, mh, sh, simE_start r N, body_post p⟩
def mCall (cf : List PV → MH → R PV) (m : PEnv → MH → R (List PV)) : PEnv → MH → R PV := fun env mh => (m env mh).bind fun vs mh1 => cf vs mh1
theorem call_imp {K : KW} {W : WX} {n : Nat} {cf : List PV → MH → R PV} {m : PEnv → MH → R (List PV)} (hn : ∀ env mh vs mh1, m env mh = .ok vs mh1 → vs.length = n) (σ : L2.St) (H : Hp) (Q : VK) (h : tE K W (mCall cf m) σ H Q) :
    tCallW (spE K n cf) W (tAr K W m) σ H Q := by
  obtain ⟨ρ, env, mh, sh, se, p⟩ := h
  refine ⟨ρ, env, mh, sh, se, PostA.bind p fun vs mh1 ρ1 xs H1 e l1 sh1 rv p1 => ?_⟩
  exact ⟨ρ1, mh1, vs, sh1, rv, hn _ _ _ _ e, p1⟩
end Ev
namespace Ev
open PySem PySem.Spec PyProof.Rows L2 RZ
section
variable {K : KW} {ρ : List Addr} {H : Hp} {mh : MH}
theorem RVs.one {v : PV} {xs : List V} (r : RVs K ρ H [v] xs) : ∃ x, xs = [x] ∧ RV K ρ H v x := by
  cases r with
  | cons a b => cases b; exact ⟨_, rfl, a⟩
theorem RVs.two {v w : PV} {xs : List V} (r : RVs K ρ H [v, w] xs) : ∃ x y, xs = [x, y] ∧ RV K ρ H v x ∧ RV K ρ H w y := by
  cases r with
  | cons a b =>
    obtain ⟨y, e, h⟩ := RVs.one b
    subst e
    exact ⟨_, _, rfl, a, h⟩
/-- the ints of values -/
def intsOf : List PV → Option (List Int)
  | [] => some []
  | .int i :: vs => match intsOf vs with
    | some is => some (i :: is)
    | none => none
  | _ :: _ => none
theorem intsOf_eq : ∀ {vs : List PV} {is : List Int}, intsOf vs = some is → vs = is.map .int
  | [], _, e => by cases e; rfl
  | v :: vs, is, e => by
    cases v with
    | int i =>
      simp only [intsOf] at e
      split at e
      · rename_i js q
        cases e
        rw [intsOf_eq q]
        rfl
      · cases e
    | _ => simp [intsOf] at e
theorem intsOf_map : ∀ (is : List Int), intsOf (is.map PV.int) = some is
  | [] => rfl
  | i :: is => by simp only [List.map_cons, intsOf, intsOf_map is]
def boolsOf : List PV → Option (List Bool)
  | [] => some []
  | .bl i :: vs => match boolsOf vs with
    | some is => some (i :: is)
    | none => none
  | _ :: _ => none
theorem boolsOf_eq : ∀ {vs : List PV} {is : List Bool}, boolsOf vs = some is → vs = is.map .bl
  | [], _, e => by cases e; rfl
  | v :: vs, is, e => by
    cases v with
    | bl i =>
      simp only [boolsOf] at e
      split at e
      · rename_i js q
        cases e
        rw [boolsOf_eq q]
        rfl
      · cases e
    | _ => simp [boolsOf] at e
theorem boolsOf_map : ∀ (is : List Bool), boolsOf (is.map PV.bl) = some is
  | [] => rfl
  | i :: is => by simp only [List.map_cons, boolsOf, boolsOf_map is]
end
def opLen : OpN := fun vs mh => match vs with
  | [.str s] => if s.length ≤ sizeLine then .ok (.int s.length) mh else .bad
  | [v] => match seqOf v mh with
    | some xs => .ok (.int xs.length) mh
    | none => .bad
  | _ => .bad
def opAbs : OpN := fun vs mh => match vs with
  | [.int i] => .ok (.int (if i < 0 then -i else i)) mh
  | _ => .bad
def opInt : OpN := fun vs mh => match vs with
  | [.int i] => .ok (.int i) mh
  | [.bl b] => .ok (.int (if b then 1 else 0)) mh
  | [.str s] => if s.length ≤ 640 then match PySem.intText? s with
    | some n => .ok (.int n) mh
    | none => .bad else .bad
  | _ => .bad
def opStr : OpN := fun vs mh => match vs with
  | [.int i] => if i.natAbs.log2 < 1920 then .ok (.str (toString i)) mh else .bad
  | [.str s] => .ok (.str s) mh
  | _ => .bad
def opList : OpN := fun vs mh => match vs with
  | [v] => match seqOf v mh with
    | some xs => .ok (.ref mh.length) (mh ++ [.lst xs])
    | none => .bad
  | _ => .bad
def opTuple : OpN := fun vs mh => match vs with
  | [v] => match seqOf v mh with
    | some xs => .ok (.tup xs) mh
    | none => .bad
  | _ => .bad
def seqBools (v : PV) (mh : MH) : Option (List Bool) := match v with
  | .ref n => match lstOf mh n with
    | some xs => boolsOf xs
    | none => none
  | _ => none
def opAll : OpN := fun vs mh => match vs with
  | [v] => match seqBools v mh with
    | some bs => .ok (.bl (bs.all id)) mh
    | none => .bad
  | _ => .bad
def opAny : OpN := fun vs mh => match vs with
  | [v] => match seqBools v mh with
    | some bs => .ok (.bl (bs.any id)) mh
    | none => .bad
  | _ => .bad
def seqInts (v : PV) (mh : MH) : Option (List Int) := match v with
  | .ref n => match mh[n]? with
    | some (.lst xs) => intsOf xs
    | some (.scr xs) => intsOf xs
    | _ => none
  | _ => none
def opSum : OpN := fun vs mh => match vs with
  | [v] => match seqInts v mh with
    | some is => .ok (.int is.sum) mh
    | none => .bad
  | _ => .bad
def maxI : List Int → Option Int
  | [] => none
  | i :: is => some (is.foldl (fun m x => if m < x then x else m) i)
def minI : List Int → Option Int
  | [] => none
  | i :: is => some (is.foldl (fun m x => if x < m then x else m) i)
def opMax : OpN := fun vs mh => match vs with
  | [.int i, .int j] => .ok (.int (if j > i then j else i)) mh
  | [v] => match seqInts v mh with
    | some is => match maxI is with
      | some m => .ok (.int m) mh
      | none => .bad
    | none => .bad
  | _ => .bad
def opMin : OpN := fun vs mh => match vs with
  | [.int i, .int j] => .ok (.int (if j < i then j else i)) mh
  | [v] => match seqInts v mh with
    | some is => match minI is with
      | some m => .ok (.int m) mh
      | none => .bad
    | none => .bad
  | _ => .bad
def insI (x : Int) : List Int → List Int
  | [] => [x]
  | y :: ys => if x ≤ y then x :: y :: ys else y :: insI x ys
def sortI : List Int → List Int
  | [] => []
  | x :: xs => insI x (sortI xs)
/-- each once -/
def insU (x : Int) : List Int → List Int
  | [] => [x]
  | y :: ys => if x < y then x :: y :: ys else if x = y then y :: ys else y :: insU x ys
def sortU : List Int → List Int
  | [] => []
  | x :: xs => insU x (sortU xs)
def opSorted : OpN := fun vs mh => match vs with
  | [.ref n] => match mh[n]? with
    | some (.lst xs) => match intsOf xs with
      | some is => .ok (.ref mh.length) (mh ++ [.lst ((sortI is).map .int)])
      | none => .bad
    | some (.iset l) => if l.length < 64 then .ok (.ref mh.length) (mh ++ [.lst ((sortU l).map .int)]) else .bad
    | _ => .bad
  | _ => .bad
def opSet : OpN := fun vs mh => match vs with
  | [.tup xs] => match intsOf xs with
    | some is => if is.length + 1 < scanBound then .ok (.ref mh.length) (mh ++ [.iset is]) else .bad
    | none => .bad
  | _ => .bad
def opRepr : OpN := fun vs mh => match vs with
  | [v] => match toD dataFuel mh v with
    | some d => if d.showable && !d.hasDict && decide (d.depth ≤ 66) && decide (d.shown.length ≤ sizeLine) then .ok (.str d.shown) mh else .bad
    | none => .bad
  | _ => .bad

section
variable {X : Cx}
theorem cvn_abs : CallV X (.builtin "abs") opAbs := by
  intro pins s σ H xs us Q I r h
  obtain ⟨ρ, mh, vs, sh, rv, k⟩ := h
  unfold opAbs at k
  split at k
  · obtain ⟨x, rfl, r1⟩ := rv.one
    cases r1
    exact call_abs pins s σ H _ us Q I r ⟨_, rfl, k.mk sh (.int _)⟩
  · exact k.elim
theorem cvn_len : CallV X (.builtin "len") opLen := by
  intro pins s σ H xs us Q I r h
  obtain ⟨ρ, mh, vs, sh, rv, k⟩ := h
  unfold opLen at k
  split at k
  · obtain ⟨x, rfl, r1⟩ := rv.one
    cases r1
    split at k
    · rename_i hz
      exact call_len pins s σ H _ us Q I r ⟨_, _, rfl, ⟨hz, rfl⟩, k.mk sh (.int _)⟩
    · exact k.elim
  · obtain ⟨x, rfl, r1⟩ := rv.one
    split at k
    · rename_i xs e
      obtain ⟨a, ws, rfl, rs, z⟩ := seq_below sh r1 e
      refine call_len pins s σ H _ us Q I r ⟨_, xs.length, rfl, ?_, k.mk sh (.int _)⟩
      rcases z with ⟨z, _⟩ | ⟨z, _⟩
      · exact .inr ⟨ws, z, rs.length⟩
      · exact .inl ⟨ws, z, rs.length⟩
    · exact k.elim
  · exact k.elim
theorem cvn_int : CallV X (.type "int") opInt := by
  intro pins s σ H xs us Q I r h
  obtain ⟨ρ, mh, vs, sh, rv, k⟩ := h
  unfold opInt at k
  split at k
  · obtain ⟨x, rfl, r1⟩ := rv.one
    cases r1
    exact call_int1 pins s σ H _ us Q I r (.inl ⟨_, rfl, k.mk sh (.int _)⟩)
  · obtain ⟨x, rfl, r1⟩ := rv.one
    cases r1
    exact call_int1 pins s σ H _ us Q I r (.inr ⟨_, rfl, k.mk sh (.int _)⟩)
  · obtain ⟨x, rfl, r1⟩ := rv.one
    cases r1
    split at k
    · rename_i hz
      split at k
      · rename_i n e
        exact call_int_str pins s σ H _ us Q I r ⟨_, n, rfl, e, hz, k.mk sh (.int _)⟩
      · exact k.elim
    · exact k.elim
  · exact k.elim
theorem cvn_list : CallV X (.type "list") opList := by
  intro pins s σ H xs us Q I r h
  obtain ⟨ρ, mh, vs, sh, rv, k⟩ := h
  unfold opList at k
  split at k
  · obtain ⟨x, rfl, r1⟩ := rv.one
    split at k
    · rename_i xs e
      obtain ⟨a, ws, rfl, rs, z⟩ := seq_below sh r1 e
      refine call_list_of pins s σ H _ us Q I r ⟨a, ws, rfl, ?_, fun q hq => k.newLst sh rs hq⟩
      rcases z with ⟨z, _⟩ | ⟨z, _⟩
      · exact .inr z
      · exact .inl z
    · exact k.elim
  · exact k.elim
theorem cvn_tuple : CallV X (.type "tuple") opTuple := by
  intro pins s σ H xs us Q I r h
  obtain ⟨ρ, mh, vs, sh, rv, k⟩ := h
  unfold opTuple at k
  split at k
  · obtain ⟨x, rfl, r1⟩ := rv.one
    split at k
    · rename_i xs e
      obtain ⟨a, ws, rfl, rs, z⟩ := seq_below sh r1 e
      refine call_tuple_of pins s σ H _ us Q I r ⟨a, ws, rfl, ?_⟩
      rcases z with ⟨z, us, rfl⟩ | ⟨z, _⟩
      · cases e
        exact .inr ⟨z, k.mk sh r1⟩
      · exact .inl ⟨z, fun q hq => k.newTup sh rs hq⟩
    · exact k.elim
  · exact k.elim
theorem seqBools_below {K : KW} {ρ : List Addr} {H : Hp} {mh : MH} {v : PV} {x : V} {bs : List Bool} (sh : SimH K ρ mh H) (r : RV K ρ H v x) (e : seqBools v mh = some bs) : ∃ a, x = .ref a ∧ SqL K.k H a (bs.map V.bl) := by
  unfold seqBools at e
  split at e
  · rename_i n
    cases r with
    | @ref _ a h1 =>
      split at e
      · rename_i xs q
        obtain ⟨ws, p1, t1⟩ := lstOf_below sh h1 q
        have := boolsOf_eq e
        subst this
        rw [t1.bools] at p1
        exact ⟨a, rfl, .inl (.inl p1)⟩
      · cases e
  · cases e
theorem seqInts_below {K : KW} {ρ : List Addr} {H : Hp} {mh : MH} {v : PV} {x : V} {is : List Int} (sh : SimH K ρ mh H) (r : RV K ρ H v x) (e : seqInts v mh = some is) : ∃ a, x = .ref a ∧ SqL K.k H a (is.map V.int) := by
  unfold seqInts at e
  split at e
  · rename_i n
    cases r with
    | @ref _ a h1 =>
      split at e
      · rename_i xs q
        obtain ⟨ws, p1, t1⟩ := sh.ob _ _ a q h1
        have := intsOf_eq e
        subst this
        rw [t1.ints] at p1
        exact ⟨a, rfl, .inl (.inl p1)⟩
      · rename_i xs q
        obtain ⟨ws, p1, t1⟩ := sh.ob _ _ a q h1
        have := intsOf_eq e
        subst this
        rw [t1.ints] at p1
        exact ⟨a, rfl, p1.sq⟩
      · cases e
  · cases e
theorem cvn_all (hc : X.calm = true) : CallV X (.builtin "all") opAll := by
  intro pins s σ H xs us Q I r h
  obtain ⟨ρ, mh, vs, sh, rv, k⟩ := h
  unfold opAll at k
  split at k
  · obtain ⟨x, rfl, r1⟩ := rv.one
    split at k
    · rename_i bs e
      obtain ⟨a, rfl, z⟩ := seqBools_below sh r1 e
      exact cr_all hc pins s σ H _ us Q I r ⟨a, bs, rfl, z, k.mk sh (.bl _)⟩
    · exact k.elim
  · exact k.elim
theorem cvn_any (hc : X.calm = true) : CallV X (.builtin "any") opAny := by
  intro pins s σ H xs us Q I r h
  obtain ⟨ρ, mh, vs, sh, rv, k⟩ := h
  unfold opAny at k
  split at k
  · obtain ⟨x, rfl, r1⟩ := rv.one
    split at k
    · rename_i bs e
      obtain ⟨a, rfl, z⟩ := seqBools_below sh r1 e
      exact cr_any hc pins s σ H _ us Q I r ⟨a, bs, rfl, z, k.mk sh (.bl _)⟩
    · exact k.elim
  · exact k.elim
theorem cvn_sum (hc : X.calm = true) : CallV X (.builtin "sum") opSum := by
  intro pins s σ H xs us Q I r h
  obtain ⟨ρ, mh, vs, sh, rv, k⟩ := h
  unfold opSum at k
  split at k
  · obtain ⟨x, rfl, r1⟩ := rv.one
    split at k
    · rename_i bs e
      obtain ⟨a, rfl, z⟩ := seqInts_below sh r1 e
      exact cr_sum hc pins s σ H _ us Q I r ⟨a, bs, rfl, z, k.mk sh (.int _)⟩
    · exact k.elim
  · exact k.elim
theorem foldMax : ∀ (is : List Int) (m : Int), let r := is.foldl (fun m x => if m < x then x else m) m; (r = m ∨ r ∈ is) ∧ m ≤ r ∧ ∀ y ∈ is, y ≤ r
  | [], m => ⟨.inl rfl, Int.le_refl _, fun _ h => nomatch h⟩
  | x :: is, m => by
    obtain ⟨h1, h2, h3⟩ := foldMax is (if m < x then x else m)
    simp only [List.foldl_cons]
    refine ⟨?_, ?_, fun y hy => ?_⟩
    · rcases h1 with h1 | h1
      · rw [h1]
        split
        · exact .inr (by simp)
        · exact .inl rfl
      · exact .inr (List.mem_cons_of_mem _ h1)
    · refine Int.le_trans ?_ h2
      split <;> omega
    · rcases List.mem_cons.mp hy with rfl | hy
      · refine Int.le_trans ?_ h2
        split <;> omega
      · exact h3 y hy
theorem foldMin : ∀ (is : List Int) (m : Int), let r := is.foldl (fun m x => if x < m then x else m) m; (r = m ∨ r ∈ is) ∧ r ≤ m ∧ ∀ y ∈ is, r ≤ y
  | [], m => ⟨.inl rfl, Int.le_refl _, fun _ h => nomatch h⟩
  | x :: is, m => by
    obtain ⟨h1, h2, h3⟩ := foldMin is (if x < m then x else m)
    simp only [List.foldl_cons]
    refine ⟨?_, ?_, fun y hy => ?_⟩
    · rcases h1 with h1 | h1
      · rw [h1]
        split
        · exact .inr (by simp)
        · exact .inl rfl
      · exact .inr (List.mem_cons_of_mem _ h1)
    · refine Int.le_trans h2 ?_
      split <;> omega
    · rcases List.mem_cons.mp hy with rfl | hy
      · refine Int.le_trans h2 ?_
        split <;> omega
      · exact h3 y hy
theorem maxI_spec {is : List Int} {m : Int} (e : maxI is = some m) : m ∈ is ∧ ∀ y ∈ is, y ≤ m := by
  cases is with
  | nil => cases e
  | cons i is =>
    simp only [maxI, Option.some.injEq] at e
    obtain ⟨h1, h2, h3⟩ := foldMax is i
    rw [e] at h1 h2 h3
    refine ⟨?_, fun y hy => ?_⟩
    · rcases h1 with h1 | h1
      · rw [h1]; simp
      · exact List.mem_cons_of_mem _ h1
    · rcases List.mem_cons.mp hy with rfl | hy
      · exact h2
      · exact h3 y hy
theorem minI_spec {is : List Int} {m : Int} (e : minI is = some m) : m ∈ is ∧ ∀ y ∈ is, m ≤ y := by
  cases is with
  | nil => cases e
  | cons i is =>
    simp only [minI, Option.some.injEq] at e
    obtain ⟨h1, h2, h3⟩ := foldMin is i
    rw [e] at h1 h2 h3
    refine ⟨?_, fun y hy => ?_⟩
    · rcases h1 with h1 | h1
      · rw [h1]; simp
      · exact List.mem_cons_of_mem _ h1
    · rcases List.mem_cons.mp hy with rfl | hy
      · exact h2
      · exact h3 y hy
theorem cvn_max (hc : X.calm = true) : CallV X (.builtin "max") opMax := by
  intro pins s σ H xs us Q I r h
  obtain ⟨ρ, mh, vs, sh, rv, k⟩ := h
  unfold opMax at k
  split at k
  · obtain ⟨x, y, rfl, r1, r2⟩ := rv.two
    cases r1; cases r2
    exact call_max2 hc pins s σ H _ us Q I r ⟨_, _, rfl, k.mk sh (.int _)⟩
  · obtain ⟨x, rfl, r1⟩ := rv.one
    split at k
    · rename_i bs e
      obtain ⟨a, rfl, z⟩ := seqInts_below sh r1 e
      split at k
      · rename_i m q
        obtain ⟨h1, h2⟩ := maxI_spec q
        refine cr_max hc pins s σ H _ us Q I r ⟨a, bs, rfl, z, ?_, fun m' h3 h4 => ?_⟩
        · cases bs with
          | nil => cases h1
          | cons _ _ => exact Nat.succ_pos _
        · have : m' = m := Int.le_antisymm (h2 m' h3) (h4 m h1)
          rw [this]
          exact k.mk sh (.int _)
      · exact k.elim
    · exact k.elim
  · exact k.elim
theorem cvn_min (hc : X.calm = true) : CallV X (.builtin "min") opMin := by
  intro pins s σ H xs us Q I r h
  obtain ⟨ρ, mh, vs, sh, rv, k⟩ := h
  unfold opMin at k
  split at k
  · obtain ⟨x, y, rfl, r1, r2⟩ := rv.two
    cases r1; cases r2
    exact call_min2 hc pins s σ H _ us Q I r ⟨_, _, rfl, k.mk sh (.int _)⟩
  · obtain ⟨x, rfl, r1⟩ := rv.one
    split at k
    · rename_i bs e
      obtain ⟨a, rfl, z⟩ := seqInts_below sh r1 e
      split at k
      · rename_i m q
        obtain ⟨h1, h2⟩ := minI_spec q
        refine cr_min hc pins s σ H _ us Q I r ⟨a, bs, rfl, z, ?_, fun m' h3 h4 => ?_⟩
        · cases bs with
          | nil => cases h1
          | cons _ _ => exact Nat.succ_pos _
        · have : m' = m := Int.le_antisymm (h4 m h1) (h2 m' h3)
          rw [this]
          exact k.mk sh (.int _)
      · exact k.elim
    · exact k.elim
  · exact k.elim
/-! ### sorting -/
theorem insI_perm (x : Int) : ∀ l, (insI x l).Perm (x :: l)
  | [] => .refl _
  | y :: ys => by
    unfold insI
    split
    · exact .refl _
    · exact ((insI_perm x ys).cons y).trans (.swap _ _ _)
theorem sortI_perm : ∀ l, (sortI l).Perm l
  | [] => .refl _
  | x :: xs => (insI_perm x _).trans ((sortI_perm xs).cons x)
theorem insI_sorted (x : Int) : ∀ l : List Int, l.Pairwise (· ≤ ·) → (insI x l).Pairwise (· ≤ ·)
  | [], _ => by simp [insI]
  | y :: ys, h => by
    unfold insI
    obtain ⟨h1, h2⟩ := List.pairwise_cons.mp h
    split
    · rename_i hxy
      refine List.pairwise_cons.mpr ⟨fun z hz => ?_, h⟩
      rcases List.mem_cons.mp hz with rfl | hz
      · exact hxy
      · exact Int.le_trans hxy (h1 z hz)
    · rename_i hxy
      refine List.pairwise_cons.mpr ⟨fun z hz => ?_, insI_sorted x ys h2⟩
      rcases List.mem_cons.mp ((insI_perm x ys).mem_iff.mp hz) with rfl | hz
      · omega
      · exact h1 z hz
theorem sortI_sorted : ∀ l : List Int, (sortI l).Pairwise (· ≤ ·)
  | [] => .nil
  | x :: xs => insI_sorted x _ (sortI_sorted xs)
theorem sorted_one : ∀ {a b : List Int}, a.Perm b → a.Pairwise (· ≤ ·) → b.Pairwise (· ≤ ·) → a = b := fun p h1 h2 =>
  List.Perm.eq_of_pairwise (le := (· ≤ ·)) (fun _ _ _ _ x y => Int.le_antisymm x y) h1 h2 p
theorem mem_insU (x k : Int) : ∀ l, k ∈ insU x l ↔ k = x ∨ k ∈ l
  | [] => by simp [insU]
  | y :: ys => by
    unfold insU
    split
    · simp
    · split
      · rename_i h
        subst h
        simp
      · rw [List.mem_cons, mem_insU x k ys, List.mem_cons]
        constructor
        · rintro (h | h | h) <;> simp [h]
        · rintro (h | h | h) <;> simp [h]
theorem mem_sortU (k : Int) : ∀ l, k ∈ sortU l ↔ k ∈ l
  | [] => by simp [sortU]
  | x :: xs => by rw [sortU, mem_insU, mem_sortU k xs, List.mem_cons]
theorem insU_sorted (x : Int) : ∀ l : List Int, l.Pairwise (· < ·) → (insU x l).Pairwise (· < ·)
  | [], _ => by simp [insU]
  | y :: ys, h => by
    unfold insU
    obtain ⟨h1, h2⟩ := List.pairwise_cons.mp h
    split
    · rename_i hxy
      refine List.pairwise_cons.mpr ⟨fun z hz => ?_, h⟩
      rcases List.mem_cons.mp hz with rfl | hz
      · exact hxy
      · exact Int.lt_trans hxy (h1 z hz)
    · split
      · exact h
      · rename_i hxy hne
        refine List.pairwise_cons.mpr ⟨fun z hz => ?_, insU_sorted x ys h2⟩
        rcases (mem_insU x z ys).mp hz with rfl | hz
        · omega
        · exact h1 z hz
theorem sortU_sorted : ∀ l : List Int, (sortU l).Pairwise (· < ·)
  | [] => .nil
  | x :: xs => insU_sorted x _ (sortU_sorted xs)
theorem sortedU_one : ∀ {a b : List Int}, a.Pairwise (· < ·) → b.Pairwise (· < ·) → (∀ k, k ∈ a ↔ k ∈ b) → a = b
  | [], [], _, _, _ => rfl
  | [], y :: ys, _, _, h => by have := (h y).mpr (by simp); simp at this
  | x :: xs, [], _, _, h => by have := (h x).mp (by simp); simp at this
  | x :: xs, y :: ys, h1, h2, h => by
    obtain ⟨a1, a2⟩ := List.pairwise_cons.mp h1
    obtain ⟨b1, b2⟩ := List.pairwise_cons.mp h2
    have e : x = y := by
      rcases List.mem_cons.mp ((h x).mp (by simp)) with q | q
      · exact q
      · rcases List.mem_cons.mp ((h y).mpr (by simp)) with q2 | q2
        · exact q2.symm
        · have := b1 x q
          have := a1 y q2
          omega
    subst e
    congr 1
    refine sortedU_one a2 b2 fun k => ⟨fun hk => ?_, fun hk => ?_⟩
    · rcases List.mem_cons.mp ((h k).mp (List.mem_cons_of_mem _ hk)) with q | q
      · subst q
        exact absurd (a1 k hk) (Int.lt_irrefl _)
      · exact q
    · rcases List.mem_cons.mp ((h k).mpr (List.mem_cons_of_mem _ hk)) with q | q
      · subst q
        exact absurd (b1 k hk) (Int.lt_irrefl _)
      · exact q
theorem cvn_sorted (hc : X.calm = true) : CallV X (.builtin "sorted") opSorted := by
  intro pins s σ H xs us Q I r h
  obtain ⟨ρ, mh, vs, sh, rv, k⟩ := h
  unfold opSorted at k
  split at k
  · rename_i n
    obtain ⟨x, rfl, r1⟩ := rv.one
    cases r1 with
    | @ref _ a h1 =>
      split at k
      · rename_i xs e
        split at k
        · rename_i is e2
          obtain ⟨ws, p1, t1⟩ := sh.ob _ _ a e h1
          have := intsOf_eq e2
          subst this
          rw [t1.ints] at p1
          refine cr_sortedI pins s σ H _ us Q I r ⟨a, is, rfl, .inl (.inl p1), fun ns' p hp1 hp2 hq => ?_⟩
          have : ns' = sortI is := sorted_one (hp1.trans (sortI_perm is).symm) hp2 (sortI_sorted is)
          subst this
          exact k.newLst sh (RVs.ofInts _ _ _) hq
        · exact k.elim
      · rename_i l e
        split at k
        · rename_i hl
          obtain ⟨c, p1, hcl⟩ := sh.ob _ _ a e h1
          refine cr_sortedSet hc pins s σ H _ us Q I r ⟨a, _, c, rfl, p1, by omega, fun ns p h2 h3 h4 hq => ?_⟩
          have : ns = sortU l := sortedU_one h2 (sortU_sorted l) fun k => by
            rw [h3 k, mem_sortU]
            simp
          subst this
          exact k.newLst sh (RVs.ofInts _ _ _) hq
        · exact k.elim
      · exact k.elim
  · exact k.elim
theorem cvn_set (hc : X.calm = true) : CallV X (.type "set") opSet := by
  intro pins s σ H xs us Q I r h
  obtain ⟨ρ, mh, vs, sh, rv, k⟩ := h
  unfold opSet at k
  split at k
  · rename_i ys
    obtain ⟨x, rfl, r1⟩ := rv.one
    cases r1 with
    | @tup _ ws a h1 t1 =>
      split at k
      · rename_i is e2
        split at k
        · rename_i hb
          have := intsOf_eq e2
          subst this
          have hws := t1.ints
          subst hws
          obtain ⟨u, rfl, ru⟩ := vals1 r
          cases ru
          obtain ⟨its, r2, p2, _⟩ := I.tuple h1
          refine call_set_tupI is (I.ok.hd hc) p2 (by simpa using ints_of_vals r2) hb fun h' tk c hS hcl hk => ?_
          have hf : H s.heap.objs.size = none := I.hok.fresh (Nat.le_refl _)
          have I2 : Inv X pins σ (upd H s.heap.objs.size (SetO X.w s.heap.objs.size (fun j => decide (j ∈ is)) c)) { s with heap := h', toks := tk } :=
            I.laid (t' := tk) hk (Nat.le_refl _) (setO_new hS)
          have l0 : Le X.kw ρ H (ρ ++ [s.heap.objs.size]) (upd H s.heap.objs.size (SetO X.w s.heap.objs.size (fun j => decide (j ∈ is)) c)) := .of_alloc hf
          obtain ⟨s1, l1, rr⟩ := sh.alloc (mo := .iset is) hf ⟨c, upd_same, hcl⟩
          exact ⟨.ref s.heap.objs.size, _, I2, rfl, k _ _ _ l1 s1 rr⟩
        · exact k.elim
      · exact k.elim
  · exact k.elim
theorem cvn_repr (hg : X.A.guards = some []) (hu : X.A.units + 128 < cLine) : CallV X (.builtin "repr") opRepr := by
  intro pins s σ H xs us Q I r h
  obtain ⟨ρ, mh, vs, sh, rv, k⟩ := h
  unfold opRepr at k
  split at k
  · obtain ⟨x, rfl, r1⟩ := rv.one
    split at k
    · rename_i d e
      split at k
      · rename_i hz
        simp only [Bool.and_eq_true, Bool.not_eq_true', decide_eq_true_eq] at hz
        obtain ⟨⟨⟨z1, z2⟩, z3⟩, z4⟩ := hz
        have dp := toD_dp sh _ _ _ _ r1 e z2
        obtain ⟨u, rfl, ru⟩ := vals1 r
        obtain ⟨as, rd⟩ := Dp.reads I d _ u dp ru
        have fin : ∀ h' u tk, (∀ b o, s.heap.get? b = some o → h'.get? b = some o) → EP X pins σ Q (.str d.shown u) { s with heap := h', toks := tk } := fun h' u tk hk =>
          ⟨.str d.shown, H, I.kept hk, ⟨_, rfl⟩, k.mk sh (.str _)⟩
        cases r1 with
        | non =>
          cases ru
          cases dp
          refine PySem.P.repr_of_none ?_
          have := fin s.heap s.toks (s.toks + 1) (fun _ _ z => z)
          rwa [PyData.shown_none] at this
        | bl b =>
          cases ru
          cases dp
          refine PySem.P.repr_of_bool ?_
          have := fin s.heap s.toks (s.toks + 1) (fun _ _ z => z)
          rw [PyData.shown_bool] at this
          cases b <;> exact this
        | int i =>
          obtain ⟨t, rfl⟩ := ru
          cases dp
          refine PySem.P.repr_of_int ?_ ?_
          · simpa [PyData.showable] using z1
          · have := fin s.heap s.toks (s.toks + 1) (fun _ _ z => z)
            rwa [PyData.shown_int] at this
        | str z =>
          obtain ⟨t, rfl⟩ := ru
          cases dp
          rw [PyData.shown_str] at z4
          refine PySem.P.repr_of_str ?_ z4
          have := fin s.heap s.toks (s.toks + 1) (fun _ _ z => z)
          rwa [PyData.shown_str] at this
        | tup _ _ =>
          cases ru
          exact repr_of_reads' rd z1 (PyData.noDict_hsm z2) hg (by omega) (fun _ _ z => z) fin z4
        | ref _ =>
          cases ru
          exact repr_of_reads' rd z1 (PyData.noDict_hsm z2) hg (by omega) (fun _ _ z => z) fin z4
      · exact k.elim
    · exact k.elim
  · exact k.elim
end
end Ev
namespace Ev
open PySem PySem.Spec PyProof.Rows L2 RZ
/-! ### calls of built-ins -/
def mCallOp (op : OpN) (m : PEnv → MH → R (List PV)) : PEnv → MH → R PV := fun env mh => (m env mh).bind fun vs mh1 => op vs mh1
section
variable {X : Cx} {W : WX} {e : Expr} {es : List Expr} {x : Str} {p pos : Pos} {op : OpN} {m : PEnv → MH → R (List PV)}
theorem callOp_imp {K : KW} (n : QuietN op) (σ : L2.St) (H : Hp) (Q : VK) (h : tE K W (mCallOp op m) σ H Q) : tCB (rNP K op) (tAr K W m) σ H Q := by
  obtain ⟨ρ, env, mh, sh, se, q⟩ := h
  refine ⟨ρ, env, mh, sh, se, PostA.bind q fun vs mh1 ρ1 xs H1 _ l1 sh1 rv q1 => ?_⟩
  exact ⟨ρ1, mh1, vs, sh1, rv, q1.noE (n vs mh1)⟩
theorem re_callB {id : String} (hc : CallV X (.builtin id) op) (n : QuietN op) (hg : Gl X x) (hm : X.mg x = none) (hv : bootBuiltins x = some (.builtin id)) (ha : RA X W (e :: es) m) (hn : x ≠ "__name__" := by decide) (hdb : (x == ("__debug__" : Str)) = false := by decide)
    (he : starEach (e :: es) X.env = (false, eval e X.env) :: starEach es X.env := by rfl) (hpl : (backTo pos (starEach es X.env)).any (·.1) = false := by rfl) : RE X W (.Call (.Name x p) (e :: es) [] pos) (mCallOp op m) :=
  (pe_callB hc hg hm hv ha hn hdb he hpl).imp fun σ H Q h => callOp_imp n σ H Q h
theorem re_callTy {T : String} (hc : CallV X (.type T) op) (n : QuietN op) (hg : Gl X x) (hm : X.mg x = none) (hv : bootBuiltins x = some (.type T)) (ha : RA X W (e :: es) m) (hn : x ≠ "__name__" := by decide) (hdb : (x == ("__debug__" : Str)) = false := by decide)
    (he : starEach (e :: es) X.env = (false, eval e X.env) :: starEach es X.env := by rfl) (hpl : (backTo pos (starEach es X.env)).any (·.1) = false := by rfl) : RE X W (.Call (.Name x p) (e :: es) [] pos) (mCallOp op m) :=
  (pe_callTy hc hg hm hv ha hn hdb he hpl).imp fun σ H Q h => callOp_imp n σ H Q h
end
theorem q_len : QuietN opLen := fun v mh c u h e => by
  unfold opLen at e
  repeat' split at e
  all_goals cases e
theorem q_abs : QuietN opAbs := fun v mh c u h e => by
  unfold opAbs at e
  repeat' split at e
  all_goals cases e
theorem q_int : QuietN opInt := fun v mh c u h e => by
  unfold opInt at e
  repeat' split at e
  all_goals cases e
theorem q_str : QuietN opStr := fun v mh c u h e => by
  unfold opStr at e
  repeat' split at e
  all_goals cases e
theorem q_list : QuietN opList := fun v mh c u h e => by
  unfold opList at e
  repeat' split at e
  all_goals cases e
theorem q_tuple : QuietN opTuple := fun v mh c u h e => by
  unfold opTuple at e
  repeat' split at e
  all_goals cases e
theorem q_all : QuietN opAll := fun v mh c u h e => by
  unfold opAll at e
  repeat' split at e
  all_goals cases e
theorem q_any : QuietN opAny := fun v mh c u h e => by
  unfold opAny at e
  repeat' split at e
  all_goals cases e
theorem q_sum : QuietN opSum := fun v mh c u h e => by
  unfold opSum at e
  repeat' split at e
  all_goals cases e
theorem q_max : QuietN opMax := fun v mh c u h e => by
  unfold opMax at e
  repeat' split at e
  all_goals cases e
theorem q_min : QuietN opMin := fun v mh c u h e => by
  unfold opMin at e
  repeat' split at e
  all_goals cases e
theorem q_sorted : QuietN opSorted := fun v mh c u h e => by
  unfold opSorted at e
  repeat' split at e
  all_goals cases e
theorem q_set : QuietN opSet := fun v mh c u h e => by
  unfold opSet at e
  repeat' split at e
  all_goals cases e
theorem q_repr : QuietN opRepr := fun v mh c u h e => by
  unfold opRepr at e
  repeat' split at e
  all_goals cases e
section
variable {X : Cx} {W : WX} {a b c e : Expr} {es : List Expr} {x : Str} {p pos : Pos} {ma mb : PEnv → MH → R PV} {m : PEnv → MH → R (List PV)}
theorem cvn_str : CallV X (.type "str") opStr := by
  intro pins s σ H xs us Q I r h
  obtain ⟨ρ, mh, vs, sh, rv, k⟩ := h
  unfold opStr at k
  split at k
  · obtain ⟨x, rfl, r1⟩ := rv.one
    cases r1
    split at k
    · rename_i hz
      exact call_str_int pins s σ H _ us Q I r ⟨_, rfl, hz, k.mk sh (.str _)⟩
    · exact k.elim
  · obtain ⟨x, rfl, r1⟩ := rv.one
    cases r1
    exact SkE.call_str_str pins s σ H _ us Q I r ⟨_, rfl, k.mk sh (.str _)⟩
  · exact k.elim
/-! ### isinstance -/
def tyOf (v : PV) (mh : MH) : Option String := match v with
  | .non => some "NoneType"
  | .bl _ => some "bool"
  | .int _ => some "int"
  | .str _ => some "str"
  | .tup _ => some "tuple"
  | .ref n => match mh[n]? with
    | some (.lst _) => some "list"
    | some (.scr _) => some "list"
    | some (.dict _) => some "dict"
    | _ => none
theorem tyOf_x {K : KW} {ρ : List Addr} {H : Hp} {mh : MH} {v : PV} {x : V} {t : String} (sh : SimH K ρ mh H) (r : RV K ρ H v x) (e : tyOf v mh = some t) : TyX K.k H x (.type t) := by
  cases r with
  | non => cases e; exact .base .non
  | bl b => cases e; exact .base (.bl b)
  | int b => cases e; exact .base (.int b)
  | str b => cases e; exact .base (.str b)
  | tup h _ =>
    cases e
    rcases h with (h | ⟨o, h⟩) | ⟨o, its, n, h, hc, _⟩
    · exact .base (.tup h)
    · exact .fTuple h
    · exact .kTuple h hc
  | @ref n a h =>
    simp only [tyOf] at e
    split at e
    · rename_i vs q
      cases e
      obtain ⟨ws, h1, _⟩ := sh.ob n _ a q h
      exact .base (.lst h1)
    · rename_i vs q
      cases e
      obtain ⟨ws, ⟨o, h1⟩ | ⟨o, its, k, h1, hc, _⟩, _⟩ := sh.ob n _ a q h
      · exact .base (.frz h1)
      · exact .kList h1 hc
    · rename_i vs q
      cases e
      obtain ⟨ws, h1, _⟩ := sh.ob n _ a q h
      exact .base (.dK h1)
    · cases e
def isTy (T : String) (v : PV) (mh : MH) : R PV := match tyOf v mh with
  | some t => match kitB t T with
    | some b => .ok (.bl b) mh
    | none => .bad
  | none => .bad
def mIsi (T : String) (ma : PEnv → MH → R PV) : PEnv → MH → R PV := fun env mh => (ma env mh).bind fun v mh1 => isTy T v mh1
theorem re_isi {T : String} {y : Str} {py : Pos} (hg : Gl X x) (hm : X.mg x = none) (hv : bootBuiltins x = some (.builtin "isinstance")) (hgy : Gl X y) (hmy : X.mg y = none) (hvy : bootBuiltins y = some (.type T)) (ha : RE X W e ma)
    (hn : x ≠ "__name__" := by decide) (hdb : (x == ("__debug__" : Str)) = false := by decide) (hny : y ≠ "__name__" := by decide) (hdy : (y == ("__debug__" : Str)) = false := by decide)
    (he : starEach [e, .Name y py] X.env = (false, eval e X.env) :: starEach [.Name y py] X.env := by rfl) (he2 : starEach [.Name y py] X.env = (false, eval (.Name y py) X.env) :: starEach [] X.env := by rfl) (hpl : (backTo pos (starEach [.Name y py] X.env)).any (·.1) = false := by rfl) :
    RE X W (.Call (.Name x p) [e, .Name y py] [] pos) (mIsi T ma) :=
  (pe_callB call_isi hg hm hv (pa_cons ha (pa_cons (pe_bltn hgy hmy hvy (v := .ty T) rfl hny hdy) pa_nil he2) he) hn hdb he hpl).imp fun σ H Q h => by
    obtain ⟨ρ, env, mh, sh, se, q⟩ := h
    refine ⟨ρ, env, mh, sh, se, Post.bind q fun v mh1 ρ1 x H1 _ l1 sh1 rv q1 => ?_⟩
    unfold isTy at q1
    split at q1
    · rename_i t et
      split at q1
      · rename_i b eb
        exact ⟨x, .ty T, .type t, .type T, b, rfl, .ty T, tyOf_x sh1 rv et, kit_ty eb, q1.mk sh1 (.bl b)⟩
      · exact q1.elim
    · exact q1.elim
/-! ### methods of lists -/
/-- xs.append(v) -/
def meAppend (v w : PV) (mh : MH) : R PV := match v with
  | .ref n => match lstOf mh n with
    | some vs => if vs.length < sizeLine then .ok .non (mh.set n (.lst (vs ++ [w]))) else .bad
    | none => .bad
  | _ => .bad
def meExtend (v w : PV) (mh : MH) : R PV := match v, w with
  | .ref n, .ref k => match lstOf mh n, lstOf mh k with
    | some vs, some ws => if vs.length + ws.length ≤ sizeLine then .ok .non (mh.set n (.lst (vs ++ ws))) else .bad
    | _, _ => .bad
  | _, _ => .bad
def mePop (v : PV) (mh : MH) : R PV := match v with
  | .ref n => match lstOf mh n with
    | some vs => match vs[vs.length - 1]? with
      | some w => .ok w (mh.set n (.lst vs.dropLast))
      | none => .bad
    | none => .bad
  | _ => .bad
def mePopAt (v w : PV) (mh : MH) : R PV := match v, w with
  | .ref n, .int i => match lstOf mh n with
    | some vs => if -(2 ^ 63) ≤ i ∧ i < 2 ^ 63 then match seqIndex? i vs.length with
        | some k => match vs[k]? with
          | some w => .ok w (mh.set n (.lst (vs.eraseIdx k)))
          | none => .bad
        | none => .bad else .bad
    | none => .bad
  | _, _ => .bad
theorem RVs.dropLast {K : KW} {ρ : List Addr} {H : Hp} {vs : List PV} {ws : List V} (h : RVs K ρ H vs ws) : RVs K ρ H vs.dropLast ws.dropLast := by
  rw [List.dropLast_eq_take, List.dropLast_eq_take, ← h.length]
  exact h.take _
theorem noScr {mh : MH} {n : Nat} {vs : List PV} (e : lstOf mh n = some vs) : ∀ us, mh[n]? ≠ some (.scr us) := fun us z => by
  unfold lstOf at e
  rw [z] at e
  cases e
/-- a list at n is changed -/
theorem Post.setLst {K : KW} {ρ : List Addr} {H : Hp} {mh : MH} {n : Nat} {a : Addr} {us : List PV} {ws zs : List V} {r : PV} {z : V} {Q : VK} {E} (p : Post K ρ H (.ok r (mh.set n (.lst us))) Q E) (sh : SimH K ρ mh H) (hn : ρ[n]? = some a) (ha : H a = some (.lst ws)) (r1 : RVs K ρ H us zs) (rz : RV K ρ H r z) (hs : ∀ vs, mh[n]? ≠ some (.scr vs)) :
    Q z (upd H a (.lst zs)) := by
  have l0 : Le K ρ H ρ (upd H a (.lst zs)) := .of_mut hn ha (mut_lst _)
  obtain ⟨s1, l1⟩ := sh.write (o := .lst zs) (mo := .lst us) hn ha (mut_lst _) ⟨zs, upd_same, r1.mono l0⟩ hs
  exact p ρ z _ l1 s1 (rz.mono l1)
theorem lstOf_at {K : KW} {ρ : List Addr} {H : Hp} {mh : MH} {n : Nat} {a : Addr} {vs : List PV} (sh : SimH K ρ mh H) (hn : ρ[n]? = some a) (e : lstOf mh n = some vs) : ∃ ws, H a = some (.lst ws) ∧ RVs K ρ H vs ws := lstOf_below sh hn e
def mMeth1 (f : PV → PV → MH → R PV) (ma mb : PEnv → MH → R PV) : PEnv → MH → R PV := fun env mh => (ma env mh).bind fun v mh1 => (mb env mh1).bind fun w mh2 => f v w mh2
def mMeth0 (f : PV → MH → R PV) (ma : PEnv → MH → R PV) : PEnv → MH → R PV := fun env mh => (ma env mh).bind fun v mh1 => f v mh1
/-- is it a list (for the method's lookup) -/
def isL (v : PV) (mh : MH) : Bool := match v with
  | .ref n => (lstOf mh n).isSome
  | _ => false
theorem isL_ty {K : KW} {ρ : List Addr} {H : Hp} {mh : MH} {v : PV} {x : V} (sh : SimH K ρ mh H) (r : RV K ρ H v x) (e : isL v mh = true) : tyV K.k "list" x H := by
  cases r with
  | @ref n a h =>
    simp only [isL] at e
    cases q : lstOf mh n with
    | none => rw [q] at e; cases e
    | some vs =>
      obtain ⟨ws, h1, _⟩ := lstOf_at sh h q
      exact .inl ⟨rfl, _, .inl (.inl h1)⟩
  | _ => cases e
/-- the receiver must be a list -/
def mRecv (ma : PEnv → MH → R PV) : PEnv → MH → R PV := fun env mh => (ma env mh).bind fun v mh1 => if isL v mh1 = true then .ok v mh1 else .bad
theorem recv_imp {K : KW} {E} {ρ : List Addr} {H : Hp} {mh mh1 : MH} {v : PV} {x : V} {f : PV → MH → R PV} {Q : VK} (sh : SimH K ρ mh H) (r : RV K ρ H v x) (p : Post K ρ H (((if isL v mh = true then .ok v mh else .bad : R PV)).bind f) Q E) : tyV K.k "list" x H ∧ Post K ρ H (f v mh) Q E := by
  by_cases h : isL v mh = true
  · rw [if_pos h] at p
    exact ⟨isL_ty sh r h, p⟩
  · rw [if_neg h] at p
    exact p.elim
section
variable {apos cpos : Pos} {o : Expr}
abbrev Hfew (X : Cx) (cpos : Pos) (es : List Expr) : Prop := ((backTo cpos (starEach es X.env)).all (fun x => !x.1) && (backToKw cpos (keywordEach [] X.env)).all (fun x => x.1.isSome)
      && decide (es.length + ([] : List Keyword).length + (if ([] : List Keyword).isEmpty then 0 else 1) < 30)) = true
theorem re_append (ho : RE X W o ma) (ha : RE X W e mb) (hbase : attributeBase o "append" X.env (eval o X.env) = eval o X.env := by rfl) (hfew : Hfew X cpos [e] := by rfl) (hline : (apos.endLine == cpos.line) = true := by rfl)
    (hs : starEach [e] X.env = (false, eval e X.env) :: starEach [] X.env := by rfl) (hplain : (backTo cpos (starEach [] X.env)).any (·.1) = false := by rfl) :
    RE X W (.Call (.Attribute o "append" apos) [e] [] cpos) (mMeth1 meAppend (mRecv ma) mb) :=
  (pe_bm PySem.F.plainAttrs_list PySem.F.slot_list_append PySem.F.type_list_append mt_append ho (pa_cons ha pa_nil hs) hbase hfew hline hs hplain).imp fun σ H Q h => by
    obtain ⟨ρ, env, mh, sh, se, p⟩ := h
    unfold mMeth1 mRecv at p
    rw [show ∀ (r : R PV) (f g : PV → MH → R PV), (r.bind f).bind g = r.bind fun v h => (f v h).bind g from fun r f g => by cases r <;> rfl] at p
    refine ⟨ρ, env, mh, sh, se, p.bind fun v mh1 ρ1 x H1 _ l1 sh1 rv p1 => ?_⟩
    obtain ⟨ty, p1⟩ := recv_imp (mh1 := mh1) sh1 rv p1
    refine ⟨ty, ρ1, env, mh1, sh1, se.mono l1, p1.bind fun w mh2 ρ2 y H2 _ l2 sh2 rw p2 => ?_⟩
    unfold meAppend at p2
    split at p2
    · rename_i n
      split at p2
      · rename_i vs e
        split at p2
        · rename_i hz
          have rv2 := rv.mono l2
          cases rv2 with
          | @ref _ a hn =>
            obtain ⟨ws, h1, t1⟩ := lstOf_at sh2 hn e
            exact ⟨a, ws, y, rfl, rfl, h1, by rw [← t1.length]; exact hz, p2.setLst sh2 hn h1 (t1.append (.cons rw .nil)) .non (noScr e)⟩
        · exact p2.elim
      · exact p2.elim
    · exact p2.elim
theorem re_extend (ho : RE X W o ma) (ha : RE X W e mb) (hbase : attributeBase o "extend" X.env (eval o X.env) = eval o X.env := by rfl) (hfew : Hfew X cpos [e] := by rfl) (hline : (apos.endLine == cpos.line) = true := by rfl)
    (hs : starEach [e] X.env = (false, eval e X.env) :: starEach [] X.env := by rfl) (hplain : (backTo cpos (starEach [] X.env)).any (·.1) = false := by rfl) :
    RE X W (.Call (.Attribute o "extend" apos) [e] [] cpos) (mMeth1 meExtend (mRecv ma) mb) :=
  (pe_bm PySem.F.plainAttrs_list PySem.F.slot_list_extend PySem.F.type_list_extend mt_extend ho (pa_cons ha pa_nil hs) hbase hfew hline hs hplain).imp fun σ H Q h => by
    obtain ⟨ρ, env, mh, sh, se, p⟩ := h
    unfold mMeth1 mRecv at p
    rw [show ∀ (r : R PV) (f g : PV → MH → R PV), (r.bind f).bind g = r.bind fun v h => (f v h).bind g from fun r f g => by cases r <;> rfl] at p
    refine ⟨ρ, env, mh, sh, se, p.bind fun v mh1 ρ1 x H1 _ l1 sh1 rv p1 => ?_⟩
    obtain ⟨ty, p1⟩ := recv_imp (mh1 := mh1) sh1 rv p1
    refine ⟨ty, ρ1, env, mh1, sh1, se.mono l1, p1.bind fun w mh2 ρ2 y H2 _ l2 sh2 rw p2 => ?_⟩
    unfold meExtend at p2
    split at p2
    · rename_i n k
      split at p2
      · rename_i vs us e e2
        split at p2
        · rename_i hz
          have rv2 := rv.mono l2
          cases rv2 with
          | @ref _ a hn =>
            cases rw with
            | @ref _ b hk =>
              obtain ⟨ws, h1, t1⟩ := lstOf_at sh2 hn e
              obtain ⟨zs, h2, t2⟩ := lstOf_at sh2 hk e2
              exact ⟨a, b, ws, zs, rfl, rfl, h1, h2, by rw [← t1.length, ← t2.length]; exact hz, p2.setLst sh2 hn h1 (t1.append t2) .non (noScr e)⟩
        · exact p2.elim
      · exact p2.elim
    · exact p2.elim
theorem re_pop (ho : RE X W o ma) (hbase : attributeBase o "pop" X.env (eval o X.env) = eval o X.env := by rfl) (hline : (apos.endLine == cpos.line) = true := by rfl) :
    RE X W (.Call (.Attribute o "pop" apos) [] [] cpos) (mMeth0 mePop (mRecv ma)) :=
  (pe_bm0 PySem.F.plainAttrs_list PySem.F.slot_list_pop PySem.F.type_list_pop mt_pop ho hbase hline).imp fun σ H Q h => by
    obtain ⟨ρ, env, mh, sh, se, p⟩ := h
    unfold mMeth0 mRecv at p
    rw [show ∀ (r : R PV) (f g : PV → MH → R PV), (r.bind f).bind g = r.bind fun v h => (f v h).bind g from fun r f g => by cases r <;> rfl] at p
    refine ⟨ρ, env, mh, sh, se, p.bind fun v mh1 ρ1 x H1 _ l1 sh1 rv p1 => ?_⟩
    obtain ⟨ty, p1⟩ := recv_imp (mh1 := mh1) sh1 rv p1
    refine ⟨ty, ?_⟩
    unfold mePop at p1
    split at p1
    · rename_i n
      split at p1
      · rename_i vs e
        split at p1
        · rename_i w q
          cases rv with
          | @ref _ a hn =>
            obtain ⟨ws, h1, t1⟩ := lstOf_at sh1 hn e
            obtain ⟨y, hy, ry⟩ := t1.get q
            rw [t1.length] at hy
            exact ⟨a, ws, y, rfl, rfl, h1, hy, p1.setLst sh1 hn h1 t1.dropLast ry (noScr e)⟩
        · exact p1.elim
      · exact p1.elim
    · exact p1.elim
theorem re_popAt (ho : RE X W o ma) (ha : RE X W e mb) (hbase : attributeBase o "pop" X.env (eval o X.env) = eval o X.env := by rfl) (hfew : Hfew X cpos [e] := by rfl) (hline : (apos.endLine == cpos.line) = true := by rfl)
    (hs : starEach [e] X.env = (false, eval e X.env) :: starEach [] X.env := by rfl) (hplain : (backTo cpos (starEach [] X.env)).any (·.1) = false := by rfl) :
    RE X W (.Call (.Attribute o "pop" apos) [e] [] cpos) (mMeth1 mePopAt (mRecv ma) mb) :=
  (pe_bm PySem.F.plainAttrs_list PySem.F.slot_list_pop PySem.F.type_list_pop mt_popAt ho (pa_cons ha pa_nil hs) hbase hfew hline hs hplain).imp fun σ H Q h => by
    obtain ⟨ρ, env, mh, sh, se, p⟩ := h
    unfold mMeth1 mRecv at p
    rw [show ∀ (r : R PV) (f g : PV → MH → R PV), (r.bind f).bind g = r.bind fun v h => (f v h).bind g from fun r f g => by cases r <;> rfl] at p
    refine ⟨ρ, env, mh, sh, se, p.bind fun v mh1 ρ1 x H1 _ l1 sh1 rv p1 => ?_⟩
    obtain ⟨ty, p1⟩ := recv_imp (mh1 := mh1) sh1 rv p1
    refine ⟨ty, ρ1, env, mh1, sh1, se.mono l1, p1.bind fun w mh2 ρ2 y H2 _ l2 sh2 rw p2 => ?_⟩
    unfold mePopAt at p2
    split at p2
    · rename_i n i
      split at p2
      · rename_i vs e
        split at p2
        · rename_i hz
          split at p2
          · rename_i k ek
            split at p2
            · rename_i z q
              have rv2 := rv.mono l2
              cases rv2 with
              | @ref _ a hn =>
                cases rw
                obtain ⟨ws, h1, t1⟩ := lstOf_at sh2 hn e
                obtain ⟨yy, hy, ry⟩ := t1.get q
                refine ⟨a, ws, _, k, yy, rfl, rfl, h1, hz.1, hz.2, ?_, hy, p2.setLst sh2 hn h1 (t1.eraseIdx k) ry (noScr e)⟩
                rw [← t1.length]; exact ek
            · exact p2.elim
          · exact p2.elim
        · exact p2.elim
      · exact p2.elim
    · exact p2.elim
end
/-! ### xs[i] = v -/
def stIx (o i v : PV) (mh : MH) : Option MH := match o, i with
  | .ref n, .int k => match lstOf mh n with
    | some vs => match ixN vs.length k with
      | some j => some (mh.set n (.lst (vs.set j v)))
      | none => none
    | none => none
  | _, _ => none
/-- o[i] = e -/
def sStore (me mo mi : PEnv → MH → R PV) : PEnv → MH → RS := fun env mh => (me env mh).bindS env fun v mh1 => (mo env mh1).bindS env fun o mh2 => (mi env mh2).bindS env fun i mh3 => match stIx o i v mh3 with
  | some mh4 => .nx env mh4
  | none => .bad
/-- the target's parts raise nothing -/
def Still (m : PEnv → MH → R PV) : Prop := ∀ env mh c v h, m env mh ≠ .exc c v h
theorem still_var (i : Nat) : Still (mVar i) := by
  intro env mh c v h
  unfold mVar
  split <;> (intro z; cases z)
theorem still_k (v : PV) : Still (mK v) := fun _ _ _ _ _ z => by cases z
def W0' : WX := fun _ _ _ _ => False
theorem bindS_calm {r : R PV} {env : PEnv} {f : PV → MH → RS} (n : ∀ c v h, r ≠ .exc c v h) {K : KW} {ρ : List Addr} {H : Hp} {D : Ends} {Q1 : VK} {E} (h : PostS K ρ H (r.bindS env f) D W)
    (k : ∀ v mh1 ρ1 x H1, r = .ok v mh1 → Le K ρ H ρ1 H1 → SimH K ρ1 mh1 H1 → RV K ρ1 H1 v x → PostS K ρ1 H1 (f v mh1) D W → Q1 x H1) : Post K ρ H r Q1 E := by
  cases r with
  | ok v mh => exact fun ρ' w H' a b c => k v mh ρ' w H' rfl a b c (PostS.le a h)
  | exc c v mh => exact absurd rfl (n c v mh)
  | bad => exact h
theorem rs_store {oo ii : Expr} {me mo mi : PEnv → MH → R PV} {pp : Pos} (he : RE X W e me) (ho : RE X W oo mo) (hi : RE X W ii mi) (so : Still mo) (si : Still mi)
    (hs : swapsWithSole [.Subscript oo ii pp] e pos.line X.env = pure false := by rfl) (hw : swappedStores [.Subscript oo ii pp] e X.env = pure none := by rfl)
    (h1 : (assignEach [.Subscript oo ii pp] X.env).map (·.2) = [assign (.Subscript oo ii pp) X.env] := by rfl)
    (hz : ∀ v, assign (.Subscript oo ii pp) X.env v = (do
      let ov ← holding [v] (eval oo X.env)
      let iv ← holding [v, ov] (eval ii X.env)
      standAt pp
      holding [v, ov, iv] (setItem ov iv v)
      release [v, ov, iv] []) := by intro _; rfl) :
    RSt X W (.Assign [.Subscript oo ii pp] e pos) (sStore me mo mi) :=
  (ps_asg he (pg_sub ho hi set_list hz) hs hw h1).imp fun D σ H h => by
    obtain ⟨ρ, env, mh, sh, se, p⟩ := h
    refine ⟨ρ, env, mh, sh, se, Post.bindS se p fun v mh1 ρ1 x H1 _ l1 sh1 rv p1 => ?_⟩
    refine ⟨ρ1, env, mh1, sh1, se.mono l1, bindS_calm (so env mh1) p1 fun o mh2 ρ2 y H2 _ l2 sh2 ro p2 => ?_⟩
    refine ⟨ρ2, env, mh2, sh2, (se.mono l1).mono l2, bindS_calm (si env mh2) p2 fun i mh3 ρ3 z H3 _ l3 sh3 ri p3 => ?_⟩
    split at p3
    · rename_i mh4 e4
      unfold stIx at e4
      split at e4
      · rename_i n k
        split at e4
        · rename_i vs e5
          split at e4
          · rename_i j e6
            cases e4
            have ro3 := ro.mono l3
            cases ro3 with
            | @ref _ a hn =>
              cases ri
              obtain ⟨ws, h1, t1⟩ := lstOf_at sh3 hn e5
              have rv3 := (rv.mono l2).mono l3
              have t2 := t1.set j rv3
              have l0 : Le X.kw ρ3 H3 ρ3 (upd H3 a (.lst (ws.set j x))) := .of_mut hn h1 (mut_lst _)
              obtain ⟨s1, l4⟩ := sh3.write (o := .lst (ws.set j x)) (mo := .lst (vs.set j v)) hn h1 (mut_lst _) ⟨_, upd_same, t2.mono l0⟩ (noScr e5)
              refine ⟨a, ws, _, j, rfl, rfl, h1, by rw [← t1.length]; exact e6, ?_⟩
              exact p3 ρ3 σ _ l4 s1 ((((se.mono l1).mono l2).mono l3).mono l4)
          · cases e4
        · cases e4
      · cases e4
    · exact p3.elim
end
end Ev
namespace Ev
open PySem PySem.Spec PyProof.Rows L2 RZ
/-! ### max, min of a list or tuple of ints, with default= -/
def intSeq (v : PV) (mh : MH) : Option (List Int) := match seqOf v mh with
  | some xs => intsOf xs
  | none => none
theorem dpAll_ints (K : PySem.W.Frag) (H : Hp) : ∀ ns : List Int, DpAll K H (ns.map V.int) (ns.map PyData.int)
  | [] => .nil
  | n :: ns => .cons (.int n) (dpAll_ints K H ns)
theorem alike_ints (ns : List Int) : PySem.W.AlikeAll (ns.map PyData.int) := by
  refine ⟨fun x hx y hy => ?_, fun x hx => ?_⟩
  · obtain ⟨a, _, rfl⟩ := List.mem_map.mp hx
    obtain ⟨b, _, rfl⟩ := List.mem_map.mp hy
    rfl
  · obtain ⟨a, _, rfl⟩ := List.mem_map.mp hx
    intro z
    cases z
theorem depth_ints : ∀ ns : List Int, PyData.depthAll (ns.map PyData.int) ≤ 1
  | [] => by simp [PyData.depthAll]
  | n :: ns => by
    have := depth_ints ns
    simp only [List.map_cons, PyData.depthAll, PyData.depth]
    omega
theorem foldl_max_is (n : Int) : ∀ ns : List Int, ns.foldl max n = ns.foldl (fun m x => if m < x then x else m) n := by
  intro ns
  congr 1
  funext a b
  show max a b = _
  split <;> omega
theorem foldl_min_is (n : Int) : ∀ ns : List Int, ns.foldl min n = ns.foldl (fun m x => if x < m then x else m) n := by
  intro ns
  congr 1
  funext a b
  show min a b = _
  split <;> omega
def opMaxA : OpN := fun vs mh => match vs with
  | [v] => match intSeq v mh with
    | some is => match maxI is with
      | some m => .ok (.int m) mh
      | none => .bad
    | none => .bad
  | _ => opMax vs mh
def opMinA : OpN := fun vs mh => match vs with
  | [v] => match intSeq v mh with
    | some is => match minI is with
      | some m => .ok (.int m) mh
      | none => .bad
    | none => .bad
  | _ => opMin vs mh
/-- max(v, default=d) -/
def opMaxD : Op2 := fun v d mh => match intSeq v mh with
  | some is => match maxI is with
    | some m => .ok (.int m) mh
    | none => .ok d mh
  | none => .bad
def opMinD : Op2 := fun v d mh => match intSeq v mh with
  | some is => match minI is with
    | some m => .ok (.int m) mh
    | none => .ok d mh
  | none => .bad
theorem q_maxA : QuietN opMaxA := fun v mh c u h e => by
  unfold opMaxA opMax at e
  repeat' split at e
  all_goals cases e
theorem q_minA : QuietN opMinA := fun v mh c u h e => by
  unfold opMinA opMin at e
  repeat' split at e
  all_goals cases e
theorem q_maxD : Quiet2 opMaxD := fun v w mh c u h e => by
  unfold opMaxD at e
  repeat' split at e
  all_goals cases e
theorem q_minD : Quiet2 opMinD := fun v w mh c u h e => by
  unfold opMinD at e
  repeat' split at e
  all_goals cases e
section
variable {X : Cx} {W : WX} {pins : List (Addr × Obj)} {σ : L2.St} {H : Hp} {s : Shared} {ρ : List Addr} {mh : MH} {v : PV} {x : V}
/-- such a sequence, as the walk's laws want it -/
theorem intSeq_below (I : Inv X pins σ H s) (sh : SimH X.kw ρ mh H) (r : RV X.kw ρ H v x) {is : List Int} (e : intSeq v mh = some is) :
    ∃ a its as, x = .ref a ∧ (s.heap.IsList a its ∨ s.heap.IsTuple a its) ∧ ReadsAll s.heap its.toList (is.map PyData.int) as := by
  unfold intSeq at e
  split at e
  · rename_i xs e1
    obtain ⟨a, ws, rfl, rs, z⟩ := seq_below sh r e1
    have := intsOf_eq e
    subst this
    have hw := rs.ints
    subst hw
    rcases z with ⟨z, _⟩ | ⟨z, _⟩
    · obtain ⟨its, rv, ht, _⟩ := I.tuple z
      obtain ⟨as, hr⟩ := Dp.readsAll I _ _ _ (dpAll_ints X.K H is) rv
      exact ⟨a, its.toArray, as, rfl, .inr ht, by simpa using hr⟩
    · obtain ⟨its, rv, ht, _⟩ := I.list z
      obtain ⟨as, hr⟩ := Dp.readsAll I _ _ _ (dpAll_ints X.K H is) rv
      exact ⟨a, its.toArray, as, rfl, .inl ht.isList, by simpa using hr⟩
  · cases e
theorem int_of_reads {h : Heap} {v : Value} {i : Int} {as : List Addr} (r : Reads h v (.int i) as) : ∃ t, v = .int i t := by
  cases r with
  | int _ t => exact ⟨t, rfl⟩
theorem cvn_maxA (hc : X.calm = true) (hu : X.A.units + 64 < cLine) : CallV X (.builtin "max") opMaxA := by
  intro pins s σ H xs us Q I r h
  obtain ⟨ρ, mh, vs, sh, rv, k⟩ := h
  unfold opMaxA at k
  split at k
  · obtain ⟨x, rfl, r1⟩ := rv.one
    split at k
    · rename_i is e
      obtain ⟨a, its, as, rfl, ht, hr⟩ := intSeq_below I sh r1 e
      obtain ⟨u, rfl, ru⟩ := vals1 r
      cases (show u = Value.ref a from ru)
      cases is with
      | nil => exact k.elim
      | cons n ns =>
        simp only [maxI] at k
        have hd := depth_ints (n :: ns)
        have fin : ∀ (i : Nat) (v : Value) (h' : Heap) (tk : Nat) (bs : List Addr), its[i]? = some v → Reads h' v (PySem.W.maxD (.int n) (ns.map PyData.int)) bs → (∀ b o, s.heap.get? b = some o → h'.get? b = some o) → EP X pins σ Q v { s with heap := h', toks := tk } := fun i v h' tk bs _ hv hk => by
          rw [PySem.W.maxD_ints, foldl_max_is] at hv
          obtain ⟨t, rfl⟩ := int_of_reads hv
          exact ⟨.int _, H, I.kept hk, ⟨_, rfl⟩, k.mk sh (.int _)⟩
        rcases ht with ht | ht
        · exact PySem.W.max_list_data (I.ok.hd hc) ht hr (alike_ints (n :: ns)) (by rw [List.map_cons] at hd; omega) fin
        · exact PySem.W.max_tuple_data (I.ok.hd hc) ht hr (alike_ints (n :: ns)) (by rw [List.map_cons] at hd; omega) fin
    · exact k.elim
  · exact cvn_max hc pins s σ H xs us Q I r ⟨ρ, mh, _, sh, rv, k⟩
theorem cvn_minA (hc : X.calm = true) (hu : X.A.units + 64 < cLine) : CallV X (.builtin "min") opMinA := by
  intro pins s σ H xs us Q I r h
  obtain ⟨ρ, mh, vs, sh, rv, k⟩ := h
  unfold opMinA at k
  split at k
  · obtain ⟨x, rfl, r1⟩ := rv.one
    split at k
    · rename_i is e
      obtain ⟨a, its, as, rfl, ht, hr⟩ := intSeq_below I sh r1 e
      obtain ⟨u, rfl, ru⟩ := vals1 r
      cases (show u = Value.ref a from ru)
      cases is with
      | nil => exact k.elim
      | cons n ns =>
        simp only [minI] at k
        have hd := depth_ints (n :: ns)
        have fin : ∀ (i : Nat) (v : Value) (h' : Heap) (tk : Nat) (bs : List Addr), its[i]? = some v → Reads h' v (PySem.W.minD (.int n) (ns.map PyData.int)) bs → (∀ b o, s.heap.get? b = some o → h'.get? b = some o) → EP X pins σ Q v { s with heap := h', toks := tk } := fun i v h' tk bs _ hv hk => by
          rw [PySem.W.minD_ints, foldl_min_is] at hv
          obtain ⟨t, rfl⟩ := int_of_reads hv
          exact ⟨.int _, H, I.kept hk, ⟨_, rfl⟩, k.mk sh (.int _)⟩
        rcases ht with ht | ht
        · exact PySem.W.min_list_data (I.ok.hd hc) ht hr (alike_ints (n :: ns)) (by rw [List.map_cons] at hd; omega) fin
        · exact PySem.W.min_tuple_data (I.ok.hd hc) ht hr (alike_ints (n :: ns)) (by rw [List.map_cons] at hd; omega) fin
    · exact k.elim
  · exact cvn_min hc pins s σ H xs us Q I r ⟨ρ, mh, _, sh, rv, k⟩
/-- f(v, k=d), by values -/
def rKP (K : KW) (op : Op2) : List V → List V → Hp → VK → Prop := fun xs zs H Q => ∃ x z, xs = [x] ∧ zs = [z] ∧ r2P K op x z H Q
theorem cvk_maxD (hc : X.calm = true) (hu : X.A.units + 64 < cLine) : CallRK X (.builtin "max") [Str.ofString "default"] (rKP X.kw opMaxD) := by
  intro pins s σ H xs zs us ws Q I r rz h
  obtain ⟨x, z, rfl, rfl, ρ, mh, v, w, sh, r1, r2, k⟩ := h
  obtain ⟨u, rfl, ru⟩ := vals1 r
  obtain ⟨u2, rfl, ru2⟩ := vals1 rz
  unfold opMaxD at k
  split at k
  · rename_i is e
    obtain ⟨a, its, as, rfl, ht, hr⟩ := intSeq_below I sh r1 e
    cases (show u = Value.ref a from ru)
    have hd := depth_ints is
    have h0 : is.map PyData.int = [] → ∀ (h' : Heap) (tk : Nat), (∀ b o, s.heap.get? b = some o → h'.get? b = some o) → EP X pins σ Q u2 { s with heap := h', toks := tk } := fun e0 h' tk hk => by
      cases is with
      | cons _ _ => cases e0
      | nil => exact ⟨z, H, I.kept hk, ru2, k.mk sh r2⟩
    have h1 : ∀ (y : PyData) (ys : List PyData) (i : Nat) (v : Value) (h' : Heap) (tk : Nat) (bs : List Addr), is.map PyData.int = y :: ys → its[i]? = some v → Reads h' v (PySem.W.maxD y ys) bs → (∀ b o, s.heap.get? b = some o → h'.get? b = some o) → EP X pins σ Q v { s with heap := h', toks := tk } := fun y ys i v h' tk bs ey _ hv hk => by
      cases is with
      | nil => cases ey
      | cons n ns =>
        cases ey
        rw [PySem.W.maxD_ints, foldl_max_is] at hv
        obtain ⟨t, rfl⟩ := int_of_reads hv
        exact ⟨.int _, H, I.kept hk, ⟨_, rfl⟩, k.mk sh (.int _)⟩
    rcases ht with ht | ht
    · exact PySem.W.max_list_default (I.ok.hd hc) ht hr (alike_ints is) (by omega) h0 h1
    · exact PySem.W.max_tuple_default (I.ok.hd hc) ht hr (alike_ints is) (by omega) h0 h1
  · exact k.elim
theorem cvk_minD (hc : X.calm = true) (hu : X.A.units + 64 < cLine) : CallRK X (.builtin "min") [Str.ofString "default"] (rKP X.kw opMinD) := by
  intro pins s σ H xs zs us ws Q I r rz h
  obtain ⟨x, z, rfl, rfl, ρ, mh, v, w, sh, r1, r2, k⟩ := h
  obtain ⟨u, rfl, ru⟩ := vals1 r
  obtain ⟨u2, rfl, ru2⟩ := vals1 rz
  unfold opMinD at k
  split at k
  · rename_i is e
    obtain ⟨a, its, as, rfl, ht, hr⟩ := intSeq_below I sh r1 e
    cases (show u = Value.ref a from ru)
    have hd := depth_ints is
    have h0 : is.map PyData.int = [] → ∀ (h' : Heap) (tk : Nat), (∀ b o, s.heap.get? b = some o → h'.get? b = some o) → EP X pins σ Q u2 { s with heap := h', toks := tk } := fun e0 h' tk hk => by
      cases is with
      | cons _ _ => cases e0
      | nil => exact ⟨z, H, I.kept hk, ru2, k.mk sh r2⟩
    have h1 : ∀ (y : PyData) (ys : List PyData) (i : Nat) (v : Value) (h' : Heap) (tk : Nat) (bs : List Addr), is.map PyData.int = y :: ys → its[i]? = some v → Reads h' v (PySem.W.minD y ys) bs → (∀ b o, s.heap.get? b = some o → h'.get? b = some o) → EP X pins σ Q v { s with heap := h', toks := tk } := fun y ys i v h' tk bs ey _ hv hk => by
      cases is with
      | nil => cases ey
      | cons n ns =>
        cases ey
        rw [PySem.W.minD_ints, foldl_min_is] at hv
        obtain ⟨t, rfl⟩ := int_of_reads hv
        exact ⟨.int _, H, I.kept hk, ⟨_, rfl⟩, k.mk sh (.int _)⟩
    rcases ht with ht | ht
    · exact PySem.W.min_list_default (I.ok.hd hc) ht hr (alike_ints is) (by omega) h0 h1
    · exact PySem.W.min_tuple_default (I.ok.hd hc) ht hr (alike_ints is) (by omega) h0 h1
  · exact k.elim
end
section
variable {X : Cx} {W : WX} {a b c e : Expr} {es : List Expr} {x : Str} {p pos p1 p2 p3 : Pos} {ma mb : PEnv → MH → R PV} {m : PEnv → MH → R (List PV)}
theorem re_callK1 {id : String} {kn : Str} {op : Op2} {kp : Pos} (hc : CallRK X (.builtin id) [kn] (rKP X.kw op)) (n : Quiet2 op) (hg : Gl X x) (hm : X.mg x = none) (hv : bootBuiltins x = some (.builtin id)) (ha : RE X W a ma) (hb : RE X W b mb)
    (hn : x ≠ "__name__" := by decide) (hdb : (x == ("__debug__" : Str)) = false := by decide) (hs : starEach [a] X.env = (false, eval a X.env) :: starEach [] X.env := by rfl)
    (he : backTo pos (starEach [a] X.env) = (false, eval a X.env) :: backTo pos (starEach [] X.env) := by rfl) (hpl : (backTo pos (starEach [a] X.env)).any (·.1) = false := by rfl)
    (hall : (backToKw pos (keywordEach [⟨some kn, b, kp⟩] X.env)).all (·.1.isSome) = true := by rfl) (hnone : (backToKw pos (keywordEach [⟨some kn, b, kp⟩] X.env)).any (·.1.isNone) = false := by rfl) (hks : (backToKw pos (keywordEach [⟨some kn, b, kp⟩] X.env)).filterMap (·.1) = [kn] := by rfl) :
    RE X W (.Call (.Name x p) [a] [⟨some kn, b, kp⟩] pos) (mBin op ma mb) :=
  (pe_callBK hc hg hm hv (pa_cons ha pa_nil hs) (pk_cons hb pk_nil) hn hdb he hpl hall hnone hks).imp fun σ H Q h => by
    obtain ⟨ρ, env, mh, sh, se, p⟩ := h
    refine ⟨ρ, env, mh, sh, se, p.bind fun v mh1 ρ1 x H1 _ l1 sh1 rv p1 => ?_⟩
    refine ⟨ρ1, env, mh1, sh1, se.mono l1, p1.bind fun w mh2 ρ2 y H2 _ l2 sh2 rw p2 => ?_⟩
    exact ⟨x, y, rfl, rfl, ρ2, mh2, v, w, sh2, rv.mono l2, rw, p2.noE (n v w mh2)⟩
/-! ### list(range(..)), tuple(range(..)) -/
def rgPV (a b : Int) : List PV := (List.range (b - a).toNat).map fun i => PV.int (a + (i : Nat))
@[irreducible] def rgB (a b : Int) : Bool := decide (-(2 ^ 62) ≤ a) && decide (a < 2 ^ 62) && decide (-(2 ^ 62) ≤ b) && decide (b < 2 ^ 62) && decide ((b - a).toNat ≤ 2 ^ 24)
theorem rgB_ok {a b : Int} (h : rgB a b = true) : RgOk a b := by
  unfold rgB at h
  simp only [Bool.and_eq_true, decide_eq_true_eq] at h
  unfold RgOk
  omega
theorem rg_rel {K : KW} (ρ : List Addr) (H : Hp) (a b : Int) : RVs K ρ H (rgPV a b) (rgV a b) := by
  have := RVs.ofInts (K := K) ρ H ((List.range (b - a).toNat).map fun i => a + (i : Nat))
  rw [List.map_map, List.map_map] at this
  exact this
def rgList (a b : Int) (mh : MH) : R PV := if rgB a b = true then .ok (.ref mh.length) (mh ++ [.lst (rgPV a b)]) else .bad
def rgTup (a b : Int) (mh : MH) : R PV := if rgB a b = true then .ok (.tup (rgPV a b)) mh else .bad
/-- range(e); range(e, f) -/
def mRg1 (f : Int → Int → MH → R PV) (ma : PEnv → MH → R PV) : PEnv → MH → R PV := fun env mh => (ma env mh).bind fun v mh1 => match v with
  | .int i => f 0 i mh1
  | _ => .bad
def mRg2 (f : Int → Int → MH → R PV) (ma mb : PEnv → MH → R PV) : PEnv → MH → R PV := fun env mh => (ma env mh).bind fun v mh1 => (mb env mh1).bind fun w mh2 => match v, w with
  | .int i, .int j => f i j mh2
  | _, _ => .bad
theorem rgList_fin {K : KW} {ρ : List Addr} {H : Hp} {mh : MH} {i j : Int} {Q : VK} {E} (sh : SimH K ρ mh H) (p : Post K ρ H (rgList i j mh) Q E) : RgOk i j ∧ ∀ q, H q = none → Q (.ref q) (upd H q (.lst (rgV i j))) := by
  unfold rgList at p
  split at p
  · rename_i h
    exact ⟨rgB_ok h, fun q hq => p.newLst sh (rg_rel _ _ _ _) hq⟩
  · exact p.elim
theorem rgTup_fin {K : KW} {ρ : List Addr} {H : Hp} {mh : MH} {i j : Int} {Q : VK} {E} (sh : SimH K ρ mh H) (p : Post K ρ H (rgTup i j mh) Q E) : RgOk i j ∧ ∀ q, H q = none → Q (.ref q) (upd H q (.tup (rgV i j))) := by
  unfold rgTup at p
  split at p
  · rename_i h
    exact ⟨rgB_ok h, fun q hq => p.newTup sh (rg_rel _ _ _ _) hq⟩
  · exact p.elim
theorem rg1_imp {f : Int → Int → MH → R PV} {K : KW} {G : Int → Int → Hp → VK → Prop} (hf : ∀ ρ H mh i j Q (E : Value → Option Addr → Hp → Prop), SimH K ρ mh H → Post K ρ H (f i j mh) Q E → G i j H Q) (σ : L2.St) (H : Hp) (Q : VK) (h : tE K W (mRg1 f ma) σ H Q) :
    tRg1 (tE K W ma) σ H fun i j H1 => G i j H1 Q := by
  obtain ⟨ρ, env, mh, sh, se, p⟩ := h
  refine ⟨ρ, env, mh, sh, se, p.bind fun v mh1 ρ1 x H1 _ l1 sh1 rv p1 => ?_⟩
  cases rv with
  | int i => exact ⟨i, rfl, hf _ _ _ _ _ _ _ sh1 p1⟩
  | _ => exact p1.elim
theorem rg2_imp {f : Int → Int → MH → R PV} {K : KW} {G : Int → Int → Hp → VK → Prop} (hf : ∀ ρ H mh i j Q (E : Value → Option Addr → Hp → Prop), SimH K ρ mh H → Post K ρ H (f i j mh) Q E → G i j H Q) (σ : L2.St) (H : Hp) (Q : VK) (h : tE K W (mRg2 f ma mb) σ H Q) :
    tRg2 (tE K W ma) (tE K W mb) σ H fun i j H1 => G i j H1 Q := by
  obtain ⟨ρ, env, mh, sh, se, p⟩ := h
  refine ⟨ρ, env, mh, sh, se, p.bind fun v mh1 ρ1 x H1 _ l1 sh1 rv p1 => ?_⟩
  refine ⟨ρ1, env, mh1, sh1, se.mono l1, p1.bind fun w mh2 ρ2 y H2 _ l2 sh2 rw p2 => ?_⟩
  cases rv with
  | int i =>
    cases rw with
    | int j => exact ⟨i, j, rfl, rfl, hf _ _ _ _ _ _ _ sh2 p2⟩
    | _ => exact p2.elim
  | _ => exact p2.elim
def gLst : Int → Int → Hp → VK → Prop := fun i j H Q => RgOk i j ∧ ∀ q, H q = none → Q (.ref q) (upd H q (.lst (rgV i j)))
def gTupR : Int → Int → Hp → VK → Prop := fun i j H Q => RgOk i j ∧ ∀ q, H q = none → Q (.ref q) (upd H q (.tup (rgV i j)))
section
variable {q1 q2 : Pos}
theorem re_lstRg1 (hc : X.calm = true) (hg : Gl X "list") (hm : X.mg "list" = none) (hg2 : Gl X "range") (hm2 : X.mg "range" = none) (ha : RE X W a ma) (na : starEach [a] X.env = (false, eval a X.env) :: starEach [] X.env := by rfl) :
    RE X W (.Call (.Name "list" p) [.Call (.Name "range" q1) [a] [] q2] [] pos) (mRg1 rgList ma) :=
  (pe_listRg hc hg hm (prg_1 hg2 hm2 ha na) rfl).imp fun σ H Q h => rg1_imp (G := gLst) (fun _ _ _ _ _ _ _ sh p => rgList_fin sh p) σ H Q h
theorem re_tupRg1 (hc : X.calm = true) (hg : Gl X "tuple") (hm : X.mg "tuple" = none) (hg2 : Gl X "range") (hm2 : X.mg "range" = none) (ha : RE X W a ma) (na : starEach [a] X.env = (false, eval a X.env) :: starEach [] X.env := by rfl) :
    RE X W (.Call (.Name "tuple" p) [.Call (.Name "range" q1) [a] [] q2] [] pos) (mRg1 rgTup ma) :=
  (pe_tupRg hc hg hm (prg_1 hg2 hm2 ha na) rfl).imp fun σ H Q h => rg1_imp (G := gTupR) (fun _ _ _ _ _ _ _ sh p => rgTup_fin sh p) σ H Q h
theorem re_lstRg2 (hc : X.calm = true) (hg : Gl X "list") (hm : X.mg "list" = none) (hg2 : Gl X "range") (hm2 : X.mg "range" = none) (ha : RE X W a ma) (hb : RE X W b mb) (na : starEach [a, b] X.env = (false, eval a X.env) :: starEach [b] X.env := by rfl)
    (nb : starEach [b] X.env = (false, eval b X.env) :: starEach [] X.env := by rfl) (hp : (backTo q2 (starEach [b] X.env)).any (·.1) = false := by rfl) :
    RE X W (.Call (.Name "list" p) [.Call (.Name "range" q1) [a, b] [] q2] [] pos) (mRg2 rgList ma mb) :=
  (pe_listRg hc hg hm (prg_2 hg2 hm2 ha hb na nb hp) rfl).imp fun σ H Q h => rg2_imp (G := gLst) (fun _ _ _ _ _ _ _ sh p => rgList_fin sh p) σ H Q h
theorem re_tupRg2 (hc : X.calm = true) (hg : Gl X "tuple") (hm : X.mg "tuple" = none) (hg2 : Gl X "range") (hm2 : X.mg "range" = none) (ha : RE X W a ma) (hb : RE X W b mb) (na : starEach [a, b] X.env = (false, eval a X.env) :: starEach [b] X.env := by rfl)
    (nb : starEach [b] X.env = (false, eval b X.env) :: starEach [] X.env := by rfl) (hp : (backTo q2 (starEach [b] X.env)).any (·.1) = false := by rfl) :
    RE X W (.Call (.Name "tuple" p) [.Call (.Name "range" q1) [a, b] [] q2] [] pos) (mRg2 rgTup ma mb) :=
  (pe_tupRg hc hg hm (prg_2 hg2 hm2 ha hb na nb hp) rfl).imp fun σ H Q h => rg2_imp (G := gTupR) (fun _ _ _ _ _ _ _ sh p => rgTup_fin sh p) σ H Q h
end
end
end Ev
namespace Ev
open PySem PySem.Spec PyProof.Rows L2 RZ
/-! ### what the printed proofs use -/
abbrev LenIs (m : PEnv → MH → R (List PV)) (n : Nat) : Prop := ∀ env mh vs mh1, m env mh = .ok vs mh1 → vs.length = n
theorem len_nil : LenIs mNil 0 := fun env mh vs mh1 e => by
  cases e
  rfl
theorem len_cons {ma : PEnv → MH → R PV} {mr : PEnv → MH → R (List PV)} {n : Nat} (h : LenIs mr n) : LenIs (mCons ma mr) (n + 1) := fun env mh vs mh1 e => by
  unfold mCons at e
  cases q : ma env mh with
  | ok v h1 =>
    rw [q] at e
    simp only [R.bind_ok] at e
    cases q2 : mr env h1 with
    | ok us h2 =>
      rw [q2] at e
      cases e
      rw [List.length_cons, h _ _ _ _ q2]
    | exc c v h => rw [q2] at e; cases e
    | bad => rw [q2] at e; cases e
  | exc c v h => rw [q] at e; cases e
  | bad => rw [q] at e; cases e
structure Cal (P : Program) (w : World) (K : PySem.W.Frag) (mg : Str → Option Value) (base : Heap) (k : Nat) (x : Str) (ps : List Str) (cf : List PV → MH → R PV) : Prop where
  ex : ∃ f fd, mg x = some (.ref f) ∧ PySem.W.keepIn K (.ref f) = true ∧ Binds K fd ps [] ∧ FnG P w K mg base k f fd ps (spE ⟨K, w, P⟩ ps.length cf)
theorem Cal.mono {P : Program} {w : World} {K : PySem.W.Frag} {mg : Str → Option Value} {base : Heap} {j k : Nat} {x : Str} {ps : List Str} {cf : List PV → MH → R PV} (c : Cal P w K mg base j x ps cf) (h : j ≤ k) : Cal P w K mg base k x ps cf := by
  obtain ⟨f, fd, h1, h2, h3, h4⟩ := c.ex
  exact ⟨f, fd, h1, h2, h3, h4.mono h⟩
theorem cal_of {P : Program} {w : World} {K : PySem.W.Frag} {mg : Str → Option Value} {base : Heap} {k : Nat} {x : Str} {params : Arguments} {body : List Stmt} {scope : Scope} {N ps : List Str} {f : Addr} {fd : FuncData} {mb : PEnv → MH → RS} (F : FunD K x x params body scope [] [] f fd) (hm : mg x = some (.ref f)) (S : FnScope N ps scope) (hp : Plain params ps)
    (hbody : ∀ (cdv : Value) (A : Around) (outer : List PySem.Env) (s : Shared) (H : Hp) (E : XK), Room k (A.deeper (envOfC x scope s.heap.objs.size f cdv)) → A.guards = some [] →
      RSs (cxOf (L2.CX P w) P w K mg base N x scope f cdv A outer s H E) (fun c d _ H' => E c d H') body mb) : Cal P w K mg base (k + 1) x ps (runB mb N.length) := by
  have b : Binds K fd ps [] := F.bindsN fun kV doc pm an cdv ct us hl => bind_plain hp rfl us hl
  have kp := F.kp
  obtain ⟨oc, od, dV, kV, doc, pm, an, cdv, ct, osl, rfl, lk, hcd, _, _⟩ := F.ex
  exact ⟨f, _, hm, kp, b, fng_body lk hcd S fun A outer s H E hr hg => hbody cdv A outer s H E hr hg⟩
theorem room_128 {k : Nat} {A : Around} (r : Room k A) : A.units + 128 < cLine := by
  have := r.un
  omega
/-- a def of which nothing is wanted -/
theorem cal_bad {P : Program} {w : World} {K : PySem.W.Frag} {mg : Str → Option Value} {base : Heap} {k : Nat} {x : Str} {params : Arguments} {body : List Stmt} {scope : Scope} {ps : List Str} {f : Addr} {fd : FuncData} (F : FunD K x x params body scope [] [] f fd) (hm : mg x = some (.ref f)) (hp : Plain params ps) : Cal P w K mg base k x ps (fun _ _ => .bad) := by
  have b : Binds K fd ps [] := F.bindsN fun kV doc pm an cdv ct us hl => bind_plain hp rfl us hl
  refine ⟨f, fd, hm, F.kp, b, ⟨fun vs H Q E h => ?_, fun A outer s H args us vs Q E hr hg e0 hb r h => ?_⟩⟩
  · obtain ⟨ρ, mh, args, sh, r, hl, p⟩ := h
    exact p.elim
  · obtain ⟨ρ, mh, args, sh, r, hl, p⟩ := h
    exact p.elim
section
variable {X : Cx} {W : WX} {a b c e : Expr} {es : List Expr} {x : Str} {p pos p1 p2 p3 : Pos} {ma mb : PEnv → MH → R PV} {m : PEnv → MH → R (List PV)}
theorem re_fn {k : Nat} {ps : List Str} {cf : List PV → MH → R PV} (C : Cal X.prog X.w X.K X.mg X.base k x ps cf) (hr : Room k X.A) (hgu : X.A.guards = some []) (tk : Takes X W) (ha : RA X W (e :: es) m) (hl : LenIs m ps.length) (hg : Gl X x := by rfl)
    (hdb : (x == ("__debug__" : Str)) = false := by decide) (he : starEach (e :: es) X.env = (false, eval e X.env) :: starEach es X.env := by rfl) (hpl : (backTo pos (starEach es X.env)).any (·.1) = false := by rfl) : RE X W (.Call (.Name x p) (e :: es) [] pos) (mCall cf m) := by
  obtain ⟨f, fd, h1, h2, h3, h4⟩ := C.ex
  exact (pe_g h4 hr hgu hg h1 h2 h3 tk ha hdb he hpl).imp fun σ H Q h => call_imp hl σ H Q h
theorem re_fn0 {k : Nat} {cf : List PV → MH → R PV} (C : Cal X.prog X.w X.K X.mg X.base k x [] cf) (hr : Room k X.A) (hgu : X.A.guards = some []) (tk : Takes X W) (hg : Gl X x := by rfl) (hdb : (x == ("__debug__" : Str)) = false := by decide) : RE X W (.Call (.Name x p) [] [] pos) (mCall cf mNil) := by
  obtain ⟨f, fd, h1, h2, h3, h4⟩ := C.ex
  exact (pe_g0 h4 hr hgu hg h1 h2 h3 tk hdb).imp fun σ H Q h => by
    have := call_imp len_nil σ H Q h
    obtain ⟨ρ, env, mh, sh, se, q⟩ := this
    exact q ρ [] H .refl sh .nil
/-- a name in slot i -/
theorem xv (i : Nat) (hN : X.N[i]? = some x := by rfl) (hv : Vis X.env.scope x := by first | exact .inl rfl | exact .inr (.inl rfl) | exact .inr (.inr rfl)) (hd : (x == ("__debug__" : Str)) = false := by decide) (hcd : (x == ("__classdict__" : Str)) = false := by decide) : RE X W (.Name x pos) (mVar i) := re_var hN hv hd hcd
theorem xg {v : PV} {w : V} {u : Value} (hm : X.mg x = some u) (r : RelV w u) (hr : ∀ ρ H, RV X.kw ρ H v w) (hg : Gl X x := by rfl) (hd : (x == ("__debug__" : Str)) = false := by decide) : RE X W (.Name x pos) (mK v) := re_glob hg hm r hr hd
/-- an int of the top -/
theorem xgi {i : Int} (hm : ∃ t, X.mg x = some (.int i t)) (hg : Gl X x := by rfl) (hd : (x == ("__debug__" : Str)) = false := by decide) : RE X W (.Name x pos) (mK (.int i)) := by
  obtain ⟨t, hm⟩ := hm
  exact re_glob hg hm (w := .int i) ⟨t, rfl⟩ (fun _ _ => .int i) hd
theorem xa {mr : PEnv → MH → R (List PV)} (ha : RE X W e ma) (hr : RA X W es mr) (hs : starEach (e :: es) X.env = (false, eval e X.env) :: starEach es X.env := by rfl) : RA X W (e :: es) (mCons ma mr) := ra_cons ha hr hs
theorem xtv (ha : RE X W a ma) (he : ∀ whole, isTrue a X.env whole = (do let v ← whole; standAt a.pos; holding [v] (PySem.truthy v)) := by intro _; rfl) : RT X W a (mTest ma) := rt_val ha he
theorem xix (ha : RE X W a ma) (hb : RE X W b mb) (hs : PlainIx b := by intro _ _; rfl) : RE X W (.Subscript a b pos) (mBin opIx ma mb) := re_ix ha hb hs
theorem xexpr (h : RE X W e ma) (hs : swapsWith e none pos.line X.env = pure false := by rfl) : RSt X W (.Expr e pos) (sExpr ma) := rs_expr h hs
theorem xset {i : Nat} {q : Pos} (hN : X.N.Nodup) (he : RE X W e ma) (hi : X.N[i]? = some x := by rfl) (hx : Loc X.env.scope x := by first | exact .inl rfl | exact .inr rfl) (hs : swapsWith e (some (.Name x q)) pos.line X.env = pure false := by rfl) (hf : X.fn x = true ∨ X.env.scope.names.lookup x = some .local := by first | exact .inr rfl | exact .inl rfl) :
    RSt X W (.Assign [.Name x q] e pos) (sAsg ma (.nm i)) := rs_set hN hi hx he hs hf
theorem xgn {i : Nat} (hN : X.N.Nodup) (hi : X.N[i]? = some x := by rfl) (hx : Loc X.env.scope x := by first | exact .inl rfl | exact .inr rfl) (hf : X.fn x = true ∨ X.env.scope.names.lookup x = some .local := by first | exact .inr rfl | exact .inl rfl) : PG X (.Name x pos) (tG X.kw (.nm i)) := rg_name hN hi hx hf
theorem xgc {t r : Tg} (h1 : PG X e (tG X.kw t)) (h2 : PGs X es (tGs X.kw r)) (hs : (assignEach (e :: es) X.env).map (·.2) = assign e X.env :: (assignEach es X.env).map (·.2) := by rfl) : PGs X (e :: es) (tGs X.kw (.cons t r)) := rgs_cons h1 h2 hs
theorem xgt {k : Nat} {r : Tg} (hc : X.calm = true) (h : PGs X es (tGs X.kw r)) (hn : (assignEach es X.env).length = r.len := by rfl) (hst : (assignEach es X.env).findIdx? (·.1) = none := by rfl) : PG X (.Tuple es k pos) (tG X.kw (.tp r)) := rg_tup hc h hn hst (asgs_len r)
theorem xasg {tg : Expr} {t : Tg} (he : RE X W e ma) (hg : PG X tg (tG X.kw t)) (hs : swapsWithSole [tg] e pos.line X.env = pure false := by rfl) (hw : swappedStores [tg] e X.env = pure none := by rfl)
    (h1 : (assignEach [tg] X.env).map (·.2) = [assign tg X.env] := by rfl) : RSt X W (.Assign [tg] e pos) (sAsg ma t) := rs_asg he hg hs hw h1
theorem xfor {tg iter : Expr} {body : List Stmt} {ms : PEnv → MH → R Src} {t : Tg} {sb : PEnv → MH → RS} (hp : PassesOwn (model X.prog X.w) X.A X.env X.xe) (hc : X.calm = true) (hi : RI X W tg iter ms) (hg : PG X tg (tG X.kw t)) (hb : RSs X W body sb)
    (hs : ∀ x, foldedSetIterable iter X.env x = pure x := by intro _; rfl) : RSt X W (.For tg iter body [] pos) (sFor ms t sb) := rs_for hp hc hi hg hb hs
theorem xpar {i j : Nat} {x y : Str} {m : PEnv → MH → R (List PV)} {px py pt : Pos} {kt k2 pt2} (hc : X.calm = true) (hN : X.N.Nodup) (ha : RA X W [a, b] m) (hi : X.N[i]? = some x := by rfl) (hj : X.N[j]? = some y := by rfl) (hij : i ≠ j := by decide)
    (hx : X.env.scope.names.lookup x = some .local := by rfl) (hy : X.env.scope.names.lookup y = some .local := by rfl)
    (hw : swappedStores [.Tuple [.Name x px, .Name y py] kt pt] (.Tuple [a, b] k2 pt2) X.env = pure (some [x, y]) := by rfl)
    (hs : swapsWithSole [.Tuple [.Name x px, .Name y py] kt pt] (.Tuple [a, b] k2 pt2) pos.line X.env = pure false := by rfl) :
    RSt X W (.Assign [.Tuple [.Name x px, .Name y py] kt pt] (.Tuple [a, b] k2 pt2) pos) (sPar i j m) := rs_par hc hN hi hj hij hx hy ha hw hs
theorem xpar3 {i j l : Nat} {x y z : Str} {m : PEnv → MH → R (List PV)} {px py pz pt : Pos} {kt k2 pt2} (hc : X.calm = true) (hN : X.N.Nodup) (ha : RA X W [a, b, c] m) (hi : X.N[i]? = some x := by rfl) (hj : X.N[j]? = some y := by rfl) (hl : X.N[l]? = some z := by rfl) (hij : i ≠ j := by decide) (hil : i ≠ l := by decide) (hjl : j ≠ l := by decide)
    (hx : X.env.scope.names.lookup x = some .local := by rfl) (hy : X.env.scope.names.lookup y = some .local := by rfl) (hz : X.env.scope.names.lookup z = some .local := by rfl)
    (hw : swappedStores [.Tuple [.Name x px, .Name y py, .Name z pz] kt pt] (.Tuple [a, b, c] k2 pt2) X.env = pure (some [x, y, z]) := by rfl)
    (hs : swapsWithSole [.Tuple [.Name x px, .Name y py, .Name z pz] kt pt] (.Tuple [a, b, c] k2 pt2) pos.line X.env = pure false := by rfl) :
    RSt X W (.Assign [.Tuple [.Name x px, .Name y py, .Name z pz] kt pt] (.Tuple [a, b, c] k2 pt2) pos) (sPar3 i j l m) := rs_par3 hc hN hi hj hl hij hil hjl hx hy hz ha hw hs
section
variable {tg iter elt : Expr} {ifs : List Expr} {scope : Scope} {own : List (Str × Nat)} {ms : PEnv → MH → R Src} {t : Tg} {mt : PEnv → MH → R Bool} {me : PEnv → MH → R PV}
/-- a comprehension: the block's context is Y -/
theorem xlc (own : List (Str × Nat)) (hc : X.calm = true) (hN : X.N.Nodup) (hi : RI X W tg iter ms) (ok : BlkOk X.N X.env.scope scope own) (sub : ∀ i ∈ t.slots, i ∈ own.map (·.2))
    (h : ∀ (s : Shared) (H : Hp) (C : Addr) (cl : List (Str × Addr)) (fp : List Addr), PG (X.blk s H scope (compEnvC scope cl C X.env) fp) tg (tG X.kw t) ∧ PTs (X.blk s H scope (compEnvC scope cl C X.env) fp) ifs (tTe X.kw W0 mt) ∧ RE (X.blk s H scope (compEnvC scope cl C X.env) fp) W0 elt me)
    (hs : ∀ x, foldedSetIterable iter X.env x = pure x := by intro _; rfl) : RE X W (.ListComp elt [⟨tg, iter, ifs, 0⟩] scope pos) (mComp ms t mt me (own.map (·.2))) :=
  re_comp hc hN hi ok (fun s H C cl fp => (h s H C cl fp).1) (fun s H C cl fp => (h s H C cl fp).2.1) (fun s H C cl fp => (h s H C cl fp).2.2) hs sub
theorem xsetLc {i : Nat} {y : Str} {py spos : Pos} (own : List (Str × Nat)) (hc : X.calm = true) (hN : X.N.Nodup) (hi : RI X W tg iter ms) (ok : BlkOk X.N X.env.scope scope own) (sub : ∀ i ∈ t.slots, i ∈ own.map (·.2))
    (h : ∀ (s : Shared) (H : Hp) (C : Addr) (cl : List (Str × Addr)) (fp : List Addr), PG (X.blk s H scope (compEnvC scope cl C X.env) fp) tg (tG X.kw t) ∧ PTs (X.blk s H scope (compEnvC scope cl C X.env) fp) ifs (tTe X.kw W0 mt) ∧ RE (X.blk s H scope (compEnvC scope cl C X.env) fp) W0 elt me)
    (hsw : swapsWith (.ListComp elt [⟨tg, iter, ifs, 0⟩] scope pos) (some (.Name y py)) spos.line X.env = pure true) (hy : X.N[i]? = some y := by rfl) (hyl : X.env.scope.names.lookup y = some .local := by rfl)
    (hs : ∀ x, foldedSetIterable iter X.env x = pure x := by intro _; rfl) : RSt X W (.Assign [.Name y py] (.ListComp elt [⟨tg, iter, ifs, 0⟩] scope pos) spos) (sAsg (mComp ms t mt me (own.map (·.2))) (.nm i)) :=
  rs_setLc hc hN hy hyl hsw hi ok (fun s H C cl fp => (h s H C cl fp).1) (fun s H C cl fp => (h s H C cl fp).2.1) (fun s H C cl fp => (h s H C cl fp).2.2) hs sub
end
/-- not carried: never reached in the evaluator -/
def mBad : PEnv → MH → R PV := fun _ _ => .bad
theorem re_bad : RE X W e mBad := ⟨fun pins s σ H Q I h => by
  obtain ⟨ρ, env, mh, sh, se, p⟩ := h
  exact p.elim⟩
def tBad : PEnv → MH → R Bool := fun _ _ => .bad
theorem rt_bad : RT X W e tBad := ⟨fun pins s σ H Q I h => by
  obtain ⟨ρ, env, mh, sh, se, p⟩ := h
  exact p.elim⟩
def iBad : PEnv → MH → R Src := fun _ _ => .bad
theorem ri_bad {tg : Expr} : RI X W tg e iBad := ⟨fun pins s σ H Q I h => by
  obtain ⟨ρ, env, mh, sh, se, p⟩ := h
  exact p.elim⟩
end
end Ev
namespace Ev
open PySem PySem.Spec PyProof.Rows L2 RZ
/-! ### x[::-1] of a tuple -/
def tRevT (K : PySem.W.Frag) (te : TE) : TE := fun σ H Q => te σ H fun x H1 => ∃ a xs, x = .ref a ∧ SqT K H1 a xs ∧ ∀ p, H1 p = none → Q (.ref p) (upd H1 p (.tup xs.reverse))
abbrev minus1 (k : Nat) (p1 p2 : Pos) : Expr := .UnaryOp .USub (.Constant (.int 1) k p1) p2
theorem slot_tget : typeLookup (.type "tuple") "__getitem__" = pure (some (.builtin "tuple.__getitem__")) := PyProof.Rows.slot_tuple_getitem.lookup
theorem pe_revT {X : Cx} {e : Expr} {te : TE} {k : Nat} {p1 p2 p3 pos : Pos} (he : PE X e te) : PE X (.Subscript e (.Slice none none (some (minus1 k p1 p2)) p3) pos) (tRevT X.K te) := by
  constructor
  intro pins s σ H Q I h
  refine Subscript_ (thn (he.run pins s σ H _ I h) ?_)
  rintro v s1 ⟨x, H1, I1, r1, a, xs, rfl, hx, q⟩
  cases r1
  have hst : PO X (some (minus1 k p1 p2)) (tPart (tUn (rU fun i => .int (-i)) (tC (.int 1)))) := po_some (pe_un un_neg pe_int)
  refine wpAny_Slice (thn (po_none.run pins s1 σ H1 (fun o H2 => o = none ∧ H2 = H1) I1 ⟨rfl, rfl⟩) ?_)
  rintro vl s2 ⟨l, H2, I2, pl, rfl, rfl⟩
  refine thn (po_none.run pins s2 σ H2 (fun o H3 => o = none ∧ H3 = H2) I2 ⟨rfl, rfl⟩) ?_
  rintro vu s3 ⟨u, H3, I3, pu, rfl, rfl⟩
  refine thn (hst.run pins s3 σ H3 (fun o H4 => o = some (-1) ∧ H4 = H3) I3 ⟨1, rfl, -1, rfl, rfl, rfl⟩) ?_
  rintro vs s4 ⟨o, H4, I4, ps, rfl, rfl⟩
  have I5 : Inv X pins σ H4 { s4 with heap := s4.heap.push { cls := .type "slice", data := .fields #[vl, vu, vs] } } := I4.kept (t' := s4.toks) fun b ob z => Heap.get?_push_of_some _ z
  obtain ⟨its, r, ht, hz⟩ := I5.tuple hx
  have hlen := r.length
  show wpAny (model X.prog X.w) X.A (subscriptTail e (.Slice none none (some (minus1 k p1 p2)) p3) (.ref a) (.ref s4.heap.objs.size)) (EP X pins σ Q) X.xe { s4 with heap := s4.heap.push { cls := .type "slice", data := .fields #[vl, vu, vs] } }
  refine tail_any (ops := [.ref a, .ref s4.heap.objs.size]) ht.typeIs slot_tget ?_ (by with_unfolding_all rfl)
  cases pl
  cases pu
  refine getItem_tuple_rev ht (Heap.IsSliceOf.new _ _ _ vs) ps ?_ (by rw [List.size_toArray]; omega)
  refine ⟨.ref _, _, I5.laid (t' := s4.toks) (o := .tup xs.reverse) (fun b ob z => Heap.get?_push_of_some _ z) (Nat.le_refl _) ?_, rfl, q _ (I5.hok.fresh (Nat.le_refl _))⟩
  refine ⟨by rw [List.length_reverse]; exact hz, its.reverse, r.reverse, ?_⟩
  have : its.toArray.toList.reverse = its.reverse := by simp
  rw [this]
  exact IsTup.new _ _
def opRev (v : PV) (mh : MH) : R PV := match v with
  | .tup vs => .ok (.tup vs.reverse) mh
  | .ref n => match seqOf (.ref n) mh with
    | some vs => .ok (.ref mh.length) (mh ++ [.lst vs.reverse])
    | none => .bad
  | _ => .bad
def mRev (ma : PEnv → MH → R PV) : PEnv → MH → R PV := fun env mh => (ma env mh).bind opRev
section
variable {X : Cx} {W : WX} {a b c e : Expr} {es : List Expr} {x : Str} {p pos p1 p2 p3 : Pos} {ma mb : PEnv → MH → R PV} {m : PEnv → MH → R (List PV)}
theorem re_rev {k : Nat} (ha : RE X W e ma) : RE X W (.Subscript e (.Slice none none (some (minus1 k p1 p2)) p3) pos) (mRev ma) :=
  ((pe_revL ha).or (pe_revT ha)).imp fun σ H Q h => by
    obtain ⟨ρ, env, mh, sh, se, p⟩ := h
    have hcase : (∃ vs mh1, ma env mh = .ok (.tup vs) mh1) ∨ ¬ ∃ vs mh1, ma env mh = .ok (.tup vs) mh1 := Classical.em _
    rcases hcase with hv | hv
    · refine .inr ⟨ρ, env, mh, sh, se, Post.bind p fun v mh1 ρ1 x H1 e1 l1 sh1 rv p1 => ?_⟩
      obtain ⟨vs, mh2, e2⟩ := hv
      rw [e2] at e1
      cases e1
      cases rv with
      | tup h1 t1 => exact ⟨_, _, rfl, h1, fun q hq => p1.newTup sh1 t1.reverse hq⟩
    · refine .inl ⟨ρ, env, mh, sh, se, Post.bind p fun v mh1 ρ1 x H1 e1 l1 sh1 rv p1 => ?_⟩
      unfold opRev at p1
      split at p1
      · rename_i vs
        exact absurd ⟨_, _, e1⟩ hv
      · split at p1
        · rename_i vs e2
          obtain ⟨a, ws, rfl, rs, z⟩ := seq_below sh1 rv e2
          rcases z with ⟨_, _, z2⟩ | ⟨z, _⟩
          · cases z2
          · exact ⟨a, ws, rfl, z, fun q hq => p1.newLst sh1 rs.reverse hq⟩
        · exact p1.elim
      · exact p1.elim
/-! ### {k: v, ..} -/
def putP (kvs : List (Key × PV)) (k : Key) (v : PV) : List (Key × PV) :=
  if (kvs.any fun kv => decide (kv.1 = k)) = true then kvs.map (fun kv => if kv.1 = k then (kv.1, v) else kv) else kvs ++ [(k, v)]
def mergeP (kvs more : List (Key × PV)) : List (Key × PV) := more.foldl (fun acc kv => putP acc kv.1 kv.2) kvs
section
variable {K : KW} {ρ : List Addr} {H : Hp}
theorem RKV.append : ∀ {a b : List (Key × PV)} {a' b' : List (Key × V)}, RKV K ρ H a a' → RKV K ρ H b b' → RKV K ρ H (a ++ b) (a' ++ b')
  | _, _, _, _, .nil, s => s
  | _, _, _, _, .cons r t, s => .cons r (RKV.append t s)
theorem RKV.any (k : Key) : ∀ {a : List (Key × PV)} {a' : List (Key × V)}, RKV K ρ H a a' → (a.any fun kv => decide (kv.1 = k)) = (a'.any fun kv => decide (kv.1 = k))
  | _, _, .nil => rfl
  | _, _, .cons r t => by
    rw [List.any_cons, List.any_cons, RKV.any k t]
theorem RKV.mapPut (k : Key) {v : PV} {w : V} (r : RV K ρ H v w) : ∀ {a : List (Key × PV)} {a' : List (Key × V)}, RKV K ρ H a a' → RKV K ρ H (a.map fun kv => if kv.1 = k then (kv.1, v) else kv) (a'.map fun kv => if kv.1 = k then (kv.1, w) else kv)
  | _, _, .nil => .nil
  | _, _, .cons (k := k2) r2 t => by
    rw [List.map_cons, List.map_cons]
    have ih := RKV.mapPut k r t
    by_cases h : k2 = k
    · simp only [h, if_true]
      exact .cons r ih
    · simp only [h, if_false]
      exact .cons r2 ih
theorem RKV.put (k : Key) {v : PV} {w : V} (r : RV K ρ H v w) {a : List (Key × PV)} {a' : List (Key × V)} (h : RKV K ρ H a a') : RKV K ρ H (putP a k v) (putK a' k w) := by
  unfold putP putK
  rw [h.any k]
  split
  · exact h.mapPut k r
  · exact h.append (.cons r .nil)
theorem RKV.merge : ∀ {more : List (Key × PV)} {more' : List (Key × V)} {a : List (Key × PV)} {a' : List (Key × V)}, RKV K ρ H a a' → RKV K ρ H more more' → RKV K ρ H (mergeP a more) (mergeK a' more')
  | _, _, _, _, h, .nil => h
  | _, _, _, _, h, .cons (k := k) r t => by
    unfold mergeP mergeK
    rw [List.foldl_cons, List.foldl_cons]
    exact RKV.merge (h.put k r) t
theorem RKV.length : ∀ {a : List (Key × PV)} {a' : List (Key × V)}, RKV K ρ H a a' → a.length = a'.length
  | _, _, .nil => rfl
  | _, _, .cons _ t => by rw [List.length_cons, List.length_cons, RKV.length t]
end
def keyOf (v : PV) : Option Key := match v with
  | .int i => some (.inl i)
  | .str s => some (.inr s)
  | _ => none
def pairUp : List PV → Option (List (Key × PV))
  | [] => some []
  | k :: v :: r => match keyOf k, pairUp r with
    | some k, some ps => some ((k, v) :: ps)
    | _, _ => none
  | [_] => none
def flatV2 : List (V × V) → List V
  | [] => []
  | (x, y) :: r => x :: y :: flatV2 r
theorem pairUp_below {K : KW} {ρ : List Addr} {H : Hp} : ∀ {ps : List (V × V)} {vs : List PV} {kvs : List (Key × PV)}, RVs K ρ H vs (flatV2 ps) → pairUp vs = some kvs → ∃ kws : List (Key × V), ps = kws.map (fun kv => (kV kv.1, kv.2)) ∧ RKV K ρ H kvs kws
  | [], _, _, .nil, e => by
    cases e
    exact ⟨[], rfl, .nil⟩
  | (x, y) :: r, _, _, .cons r1 (.cons r2 t), e => by
    simp only [pairUp] at e
    split at e
    · rename_i k ps e1 e2
      cases e
      obtain ⟨kws, rfl, t2⟩ := pairUp_below t e2
      cases r1 with
      | int i => cases e1; exact ⟨(.inl i, y) :: kws, rfl, .cons r2 t2⟩
      | str i => cases e1; exact ⟨(.inr i, y) :: kws, rfl, .cons r2 t2⟩
      | _ => cases e1
    · cases e
/-- a display's pairs -/
def RPs (X : Cx) (W : WX) (pos : Pos) (ks : List (Option Expr)) (vs : List Expr) (m : PEnv → MH → R (List PV)) : Prop :=
  ∃ trs, PPs X pos ks vs trs ∧ ∀ σ H Q, tAr X.kw W m σ H (fun xs H' => ∀ ps, xs = flatV2 ps → Q ps H') → tPairs trs σ H Q
theorem rps_nil : RPs X W pos [] [] mNil := ⟨[], pps_nil, fun σ H Q h => by
  obtain ⟨ρ, env, mh, sh, se, p⟩ := h
  exact p ρ [] H .refl sh .nil [] rfl⟩
theorem rps_cons {ks : List (Option Expr)} {vs : List Expr} {mr : PEnv → MH → R (List PV)} (ha : RE X W a ma) (hb : RE X W b mb) (hr : RPs X W pos ks vs mr) : RPs X W pos (some a :: ks) (b :: vs) (mCons ma (mCons mb mr)) := by
  obtain ⟨trs, h1, h2⟩ := hr
  refine ⟨_, pps_cons ha hb h1, fun σ H Q h => ?_⟩
  obtain ⟨ρ, env, mh, sh, se, p⟩ := h
  refine ⟨ρ, env, mh, sh, se, Post.bindA p fun v mh1 ρ1 x H1 _ l1 sh1 rv p1 => ?_⟩
  have p1' : PostA X.kw ρ1 H1 ((mb env mh1).bind fun w mh2 => (mr env mh2).bind fun us mh3 => .ok (v :: w :: us) mh3) (fun xs H' => ∀ ps, xs = flatV2 ps → Q ps H') (fun c d H' => W c d σ H') := by
    have e : ((mCons mb mr env mh1).bind fun vs mh2 => R.ok (v :: vs) mh2) = (mb env mh1).bind fun w mh2 => (mr env mh2).bind fun us mh3 => .ok (v :: w :: us) mh3 := by
      unfold mCons
      cases mb env mh1 with
      | ok w h => simp only [R.bind_ok]; cases mr env h <;> rfl
      | exc _ _ _ => rfl
      | bad => rfl
    rw [← e]
    exact p1
  refine ⟨ρ1, env, mh1, sh1, se.mono l1, Post.bindA p1' fun w mh2 ρ2 y H2 _ l2 sh2 rw p2 => ?_⟩
  refine h2 _ _ _ ⟨ρ2, env, mh2, sh2, (se.mono l1).mono l2, p2.bindA fun us mh3 ρ3 zs H3 _ l3 sh3 rs p3 => ?_⟩
  intro ps e
  subst e
  exact p3 ρ3 (x :: y :: flatV2 ps) H3 .refl sh3 (.cons (rv.mono (l2.trans l3)) (.cons (rw.mono l3) rs)) ((x, y) :: ps) rfl
def mDict (m : PEnv → MH → R (List PV)) : PEnv → MH → R PV := fun env mh => (m env (mh ++ [.dict []])).bind fun vs mh2 => match pairUp vs, mh2[mh.length]? with
  | some kvs, some (.dict []) => if kvs.length ≤ 15 then .ok (.ref mh.length) (mh2.set mh.length (.dict (mergeP [] kvs))) else .bad
  | _, _ => .bad
theorem re_dict {ks : List (Option Expr)} {vs : List Expr} (h : RPs X W pos ks vs m) (hall : ks.all (·.isSome) = true := by rfl) (hl : ks.length = vs.length := by rfl) (h0 : ks ≠ [] := by intro z; cases z) (h15 : ks.length ≤ 15 := by decide) : RE X W (.Dict ks vs pos) (mDict m) := by
  obtain ⟨trs, h1, h2⟩ := h
  refine (pe_disp h1 hall hl h0 h15).imp fun σ H Q hh => ?_
  obtain ⟨ρ, env, mh, sh, se, p⟩ := hh
  unfold mDict at p
  intro D hD
  have l0 : Le X.kw ρ H (ρ ++ [D]) (upd H D (.dK [])) := .of_alloc hD
  obtain ⟨s1, l1, r1⟩ := sh.alloc (o := .dK []) (mo := .dict []) hD ⟨[], upd_same, .nil⟩
  have hd0 : (ρ ++ [D])[mh.length]? = some D := by
    cases r1 with
    | ref h => exact h
  refine h2 _ _ _ ⟨ρ ++ [D], env, _, s1, se.mono l1, PostA.bind (Post.le l1 p) fun us mh2 ρ2 xs H2 _ l2 sh2 rv p2 => ?_⟩
  intro ps e
  subst e
  split at p2
  · rename_i kvs e1 e2
    split at p2
    · rename_i hz
      obtain ⟨kws, e3, t⟩ := pairUp_below rv e1
      have hD2 := l2.pre _ _ hd0
      obtain ⟨z, hz1, hz2⟩ := sh2.ob _ _ D e2 hD2
      cases hz2
      have tm := RKV.merge (a := []) (a' := []) .nil t
      have gr : Le X.kw ρ2 H2 ρ2 (upd H2 D (.dK (mergeK [] kws))) := .of_mut hD2 hz1 (mut_dK _)
      obtain ⟨s3, l3⟩ := sh2.write (o := .dK (mergeK [] kws)) (mo := .dict (mergeP [] kvs)) hD2 hz1 (mut_dK _) ⟨_, upd_same, tm.mono gr⟩ (fun vs z => by rw [e2] at z; cases z)
      exact ⟨hz1, kws, e3, by rw [← t.length]; exact hz, p2 ρ2 _ _ l3 s3 (.ref (l3.pre _ _ hD2))⟩
    · exact p2.elim
  · exact p2.elim
theorem re_dict0 : RE X W (.Dict [] [] pos) (mDict mNil) := pe_dnewK.imp fun σ H Q h => by
  obtain ⟨ρ, env, mh, sh, se, p⟩ := h
  intro D hD
  have l0 : Le X.kw ρ H (ρ ++ [D]) (upd H D (.dK [])) := .of_alloc hD
  obtain ⟨s1, l1, r1⟩ := sh.alloc (o := .dK []) (mo := .dict []) hD ⟨[], upd_same, .nil⟩
  unfold mDict mNil at p
  simp only [R.bind_ok, pairUp, List.getElem?_append_right (Nat.le_refl _), Nat.sub_self, List.getElem?_cons_zero, List.length_nil] at p
  rw [if_pos (Nat.zero_le _)] at p
  have e : (mh ++ [MO.dict []]).set mh.length (.dict (mergeP [] [])) = mh ++ [.dict []] := by
    apply List.ext_getElem?
    intro i
    by_cases hi : mh.length = i
    · subst hi
      rw [List.getElem?_set_self (by simp)]
      simp [mergeP]
    · rw [List.getElem?_set_ne hi]
  rw [e] at p
  exact p _ _ _ l1 s1 r1
end
end Ev
namespace Ev
open PySem PySem.Spec PyProof.Rows L2
theorem boot_isinstance' : bootBuiltins "isinstance" = some (.builtin "isinstance") := by decide +kernel
theorem boot_len' : bootBuiltins "len" = some (.builtin "len") := by decide +kernel
theorem boot_abs' : bootBuiltins "abs" = some (.builtin "abs") := by decide +kernel
theorem boot_all' : bootBuiltins "all" = some (.builtin "all") := by decide +kernel
theorem boot_any' : bootBuiltins "any" = some (.builtin "any") := by decide +kernel
theorem boot_sum' : bootBuiltins "sum" = some (.builtin "sum") := by decide +kernel
theorem boot_max' : bootBuiltins "max" = some (.builtin "max") := by decide +kernel
theorem boot_min' : bootBuiltins "min" = some (.builtin "min") := by decide +kernel
theorem boot_sorted' : bootBuiltins "sorted" = some (.builtin "sorted") := by decide +kernel
theorem boot_repr' : bootBuiltins "repr" = some (.builtin "repr") := by decide +kernel
theorem boot_int' : bootBuiltins "int" = some (.type "int") := by decide +kernel
theorem boot_bool' : bootBuiltins "bool" = some (.type "bool") := by decide +kernel
theorem boot_str' : bootBuiltins "str" = some (.type "str") := by decide +kernel
theorem boot_tuple' : bootBuiltins "tuple" = some (.type "tuple") := by decide +kernel
theorem boot_list' : bootBuiltins "list" = some (.type "list") := by decide +kernel
theorem boot_dict' : bootBuiltins "dict" = some (.type "dict") := by decide +kernel
theorem boot_set' : bootBuiltins "set" = some (.type "set") := by decide +kernel
end Ev
namespace Ev
open PySem PySem.Spec PyProof.Rows L2
/-! ### the law's call, behind the head -/
/-- what the call of a law leaves -/
abbrev EndOk (s₁ : Shared) : Result → Shared → Prop := fun r s' => r = .ok (.ret (.bool true)) ∧ OldK s₁.heap s'.heap ∧ s'.os = s₁.os ∧ AllBare s'.gens
theorem fng_fd {P : Program} {w : World} {K : PySem.W.Frag} {mg : Str → Option Value} {base : Heap} {k : Nat} {x : Str} {params : Arguments} {body : List Stmt} {scope : Scope} {N ps : List Str} {f : Addr} {fd : FuncData} {mb : PEnv → MH → RS} (F : FunD K x x params body scope [] [] f fd) (S : FnScope N ps scope)
    (hbody : ∀ (cdv : Value) (A : Around) (outer : List PySem.Env) (s : Shared) (H : Hp) (E : XK), Room k (A.deeper (envOfC x scope s.heap.objs.size f cdv)) → A.guards = some [] →
      RSs (cxOf (L2.CX P w) P w K mg base N x scope f cdv A outer s H E) (fun c d _ H' => E c d H') body mb) : FnG P w K mg base (k + 1) f fd ps (spE ⟨K, w, P⟩ ps.length (runB mb N.length)) := by
  obtain ⟨oc, od, dV, kV, doc, pm, an, cdv, ct, osl, rfl, lk, hcd, _, _⟩ := F.ex
  exact fng_body lk hcd S fun A outer s H E hr hg => hbody cdv A outer s H E hr hg
section
variable {P : Program} {w : World} {K : PySem.W.Frag} {mg mb : Str → Option Value} {k : Nat} {fa a : Addr} {fd : FuncData} {x : Str} {s₁ : Shared} {items : List Value} {ns : List Int} {cf : List PV → MH → R PV}
theorem law_from {T : Hp} {tb : List (Addr × Addr)} (KX : K.In s₁.heap) (hns : s₁.heap.Ns mainGlobals mg) (hb : s₁.heap.Ns builtinsNs mb) (hbb : ∀ y : Str, y ≠ "__name__" → mb y = bootBuiltins y)
    (hlim : s₁.heap.NoLimit) (hg : s₁.gens = #[]) (ha : s₁.heap.get? a = some { cls := .type "list", data := .seq items.toArray }) (hr : Room k callerA)
    (tE : ∀ p ∈ tb, s₁.heap.get? p.2 = some { cls := .none, data := .fields #[] }) (tK : ∀ p ∈ tb, K.lookup p.2 = none) (tC : ∀ p ∈ tb, PySem.W.CodeHd s₁.heap p.1 p.2)
    (bmn : ∃ (bm : Addr) (ob : Obj), mg "__builtins__" = some (.ref bm) ∧ bm ≠ builtinsNs ∧ s₁.heap.get? bm = some ob ∧ ob.cls = .type "module" ∧ ob.dict = some builtinsNs ∧ ob.data = .plain)
    (F : ∀ bs : Heap, K.In bs → bs.Ns mainGlobals mg → (∀ p ∈ tb, LamX.TabB bs mg p.1 p.2) → FnG P w K mg bs k fa fd [x] (spE ⟨K, w, P⟩ 1 cf))
    (hbind : ∀ (s : Shared) (u : Value), BindsTo s fd ⟨[u], []⟩ [(x, u)])
    (hT : ∀ b, T b = none ∨ (∃ p ∈ tb, b = p.2 ∧ T b = some (.tbl #[])) ∨ ∃ o xs, T b = some (.frz o (.lst xs)) ∧ b = a)
    (hok : HOk P w T s₁.heap) (hK : T a ≠ none → K.lookup a = none)
    (hS : ∃ ρ mh v, SimH ⟨K, w, P⟩ ρ mh T ∧ RV ⟨K, w, P⟩ ρ T v (.ref a) ∧ ∃ mh', cf [v] mh = .ok (.bl true) mh') :
    codeAny (model P w) callerA (.call (.ref fa) ⟨[.ref a], []⟩) (EndOk s₁) s₁ := by
  -- what is neither a list nor an empty record is seen through
  have seen : ∀ {b : Addr} {o : Obj}, s₁.heap.get? b = some o → (∀ its n, o.data ≠ .seq its n) → o.data ≠ .fields #[] → T b = none := by
    intro b o e h1 h2
    rcases hT b with q | ⟨p, hp, hbp, q⟩ | ⟨ob, xs, q, hba⟩
    · exact q
    · rw [hbp, tE p hp] at e
      cases e
      exact absurd rfl h2
    · rw [hba, ha] at e
      cases e
      exact absurd rfl (h1 _ _)
  have free : ∀ {b : Addr} {o : Obj} {es : Array DictEntry} {ep : Nat}, s₁.heap.get? b = some o → o.data = .dict es ep → T b = none := by
    intro b o es ep e d
    refine seen e (fun its n z => ?_) fun z => ?_
    · rw [d] at z
      cases z
    · rw [d] at z
      cases z
  have names : ∀ {b : Addr} {m : Str → Option Value}, s₁.heap.Ns b m → (hidT s₁.heap T).Ns b m := by
    rintro b m ⟨o, es, ep, e, d, r⟩
    exact ⟨o, es, ep, hidT_get e (free e d), d, r⟩
  have kin : K.In (hidT s₁.heap T) := by
    intro b o e
    refine hidT_get (KX b o e) ?_
    rcases hT b with q | ⟨p, hp, hbp, q⟩ | ⟨ob, xs, q, hba⟩
    · exact q
    · rw [hbp, tK p hp] at e
      cases e
    · rw [hba] at q e
      rw [hK (by rw [q]; intro z; cases z)] at e
      cases e
  obtain ⟨ml, l1, l2⟩ := hlim
  have md : Mod K mg (hidT s₁.heap T) := ⟨kin, names hns, ⟨mb, names hb, hbb⟩, ⟨ml, names l1, l2⟩⟩
  have e0 : Env0 P w K mg (hidT s₁.heap T) callerA [] s₁ T :=
    { frames := rfl, mod := md, bs := fun b o e => of_hidT e, bsz := Nat.le_of_eq (hidT_size _ _), funs := trivial, frf := (by intro b hb; cases hb), hok := hok, bare := .of_eq hg }
  have tabs : ∀ p ∈ tb, LamX.TabB (hidT s₁.heap T) mg p.1 p.2 := by
    intro p hp
    have te := tE p hp
    refine ⟨?_, ?_, ?_⟩
    · have C := tC p hp
      unfold PySem.W.CodeHd at C ⊢
      obtain ⟨o, us, v1, v2, v3, v4, v5, v6, v7, e1, r1, r2, r3, rest⟩ := C
      refine ⟨o, us, v1, v2, v3, v4, v5, v6, v7, hidT_get e1 (seen e1 (fun its n z => ?_) fun z => ?_), r1, r2, r3, rest⟩
      · rw [r2] at z
        cases z
      · rw [r2] at z
        cases z
        simp at r3
    · obtain ⟨bm, ob, q1, q2, q3, q4, q5, q6⟩ := bmn
      refine ⟨bm, ob, q1, q2, ?_, ?_, hidT_get q3 (seen q3 (fun its n z => ?_) fun z => ?_), q4, q5, q6⟩
      · intro z
        obtain ⟨o, es, ep, e, hd, _⟩ := hns
        rw [z] at q3
        rw [e] at q3
        cases q3
        rw [hd] at q6
        cases q6
      · intro z
        rw [z, te] at q3
        cases q3
        cases q6
      · rw [q6] at z
        cases z
      · rw [q6] at z
        cases z
    · intro z
      obtain ⟨o, es, ep, e, hd, _⟩ := hns
      rw [z] at e
      rw [te] at e
      cases e
      cases hd
  obtain ⟨ρ, mh, v, sh, rv, mh', hcf⟩ := hS
  have run := (F _ kin (names hns) tabs).run callerA [] s₁ T ⟨[.ref a], []⟩ [.ref a] [.ref a] (fun z _ => z = .bl true) (fun _ _ _ => False) hr rfl e0 (hbind s₁ (.ref a)) (.cons rfl .nil)
    ⟨ρ, mh, [v], sh, .cons rv .nil, rfl, by
      rw [hcf]
      intro ρ' z H' _ _ rz
      cases rz
      rfl⟩
  refine codeAny_mono run fun r s' h => ?_
  match r, h with
  | .error e, h =>
    obtain ⟨_, _, _, _, _, _, _, _, _, _, _, _, _, _, _, _, z⟩ := h
  | .ok (.ret u), h =>
    obtain ⟨z, H', os, bare, un, hok', rz, q⟩ := h
    cases (show z = .bl true from q)
    cases (show u = Value.bool true from rz)
    have same : ∀ b o, s₁.heap.get? b = some o → (∃ p ∈ tb, b = p.2) ∨ s'.heap.get? b = some o := by
      intro b o e
      rcases hT b with q | ⟨p, hp, hbp, q⟩ | ⟨ob, xs, q, _⟩
      · exact .inr (un.keep b o e q (by intro z; cases z) (by simp))
      · exact .inl ⟨p, hp, hbp⟩
      · obtain ⟨e1, _⟩ := hok b _ q
        obtain ⟨e2, _⟩ := hok' b _ (un.frzs b ob _ q)
        rw [e] at e1
        cases e1
        exact .inr e2
    have led : ∀ p ∈ tb, ∃ more : Array Value, s'.heap.get? p.2 = some { cls := .none, data := .fields more } := by
      intro p hp
      rcases hT p.2 with q | ⟨p', _, _, q⟩ | ⟨ob, xs, q, hba⟩
      · have := un.keep p.2 _ (tE p hp) q (by intro z; cases z) (by simp)
        exact ⟨_, this⟩
      · obtain ⟨more, z⟩ := un.tbls p.2 #[] q
        exact ⟨_, hok' p.2 _ z⟩
      · have := tE p hp
        rw [hba, ha] at this
        cases this
    refine ⟨rfl, ⟨?_, ?_⟩, os, bare⟩
    · intro b o e
      rcases same b o e with ⟨p, hp, rfl⟩ | q
      · obtain ⟨more, hm⟩ := led p hp
        have e' := e
        rw [tE p hp] at e'
        cases e'
        exact .inr (.inl ⟨((tC p hp).tab (tE p hp)).isCodeTable, rfl, #[], more, rfl, by rw [hm, Array.empty_append]⟩)
      · exact .inl q
    · intro b o e
      rcases same b o e with ⟨p, hp, rfl⟩ | q
      · obtain ⟨more, hm⟩ := led p hp
        exact ⟨_, hm⟩
      · exact ⟨_, q⟩
/-- the tables at the start -/
theorem tabs_start {K : PySem.W.Frag} {T : Hp} (h : ∀ p ∈ lamDefs.map fun x => He.cT K (x, none), T p.2 = some (.tbl #[])) : LamX.Tabs (lamT K) T := by
  intro p hp
  obtain ⟨x, hx, rfl⟩ := List.mem_map.mp hp
  exact LamX.TabS.nil (h _ (List.mem_map.mpr ⟨x, hx, rfl⟩))
/-- from the script as it was laid: a list of its own, or one of the module's -/
theorem law_g {tb : List (Addr × Addr)} (htb : tb = lamDefs.map fun x => He.cT K (x, none)) (KX : K.In s₁.heap) (hns : s₁.heap.Ns mainGlobals mg) (hb : s₁.heap.Ns builtinsNs mb) (hbb : ∀ y : Str, y ≠ "__name__" → mb y = bootBuiltins y)
    (hlim : s₁.heap.NoLimit) (hg : s₁.gens = #[]) (ha : s₁.heap.get? a = some { cls := .type "list", data := .seq items.toArray }) (hi : IntsAre items ns) (hl : ns.length ≤ sizeLine) (hr : Room k callerA)
    (tE : ∀ p ∈ tb, s₁.heap.get? p.2 = some { cls := .none, data := .fields #[] }) (tK : ∀ p ∈ tb, K.lookup p.2 = none) (tC : ∀ p ∈ tb, PySem.W.CodeHd s₁.heap p.1 p.2)
    (bmn : ∃ (bm : Addr) (ob : Obj), mg "__builtins__" = some (.ref bm) ∧ bm ≠ builtinsNs ∧ s₁.heap.get? bm = some ob ∧ ob.cls = .type "module" ∧ ob.dict = some builtinsNs ∧ ob.data = .plain)
    (F : ∀ bs : Heap, K.In bs → bs.Ns mainGlobals mg → (∀ p ∈ tb, LamX.TabB bs mg p.1 p.2) → FnG P w K mg bs k fa fd [x] (spE ⟨K, w, P⟩ 1 cf))
    (hbind : ∀ (s : Shared) (u : Value), BindsTo s fd ⟨[u], []⟩ [(x, u)])
    (hc : ∃ mh', cf [.ref 0] [.scr (ns.map PV.int)] = .ok (.bl true) mh') : codeAny (model P w) callerA (.call (.ref fa) ⟨[.ref a], []⟩) (EndOk s₁) s₁ := by
  have rv := vals_ints hi
  have lenV := hi.length
  have naT : ∀ p ∈ tb, p.2 ≠ a := fun p hp z => by
    have := tE p hp
    rw [z, ha] at this
    cases this
  have one : ∀ T : Hp, LamX.Tabs (lamT K) T → RO ⟨K, w, P⟩ [a] T a (.scr (ns.map PV.int)) → ∃ ρ mh v, SimH ⟨K, w, P⟩ ρ mh T ∧ RV ⟨K, w, P⟩ ρ T v (.ref a) ∧ ∃ mh', cf [v] mh = .ok (.bl true) mh' := by
    intro T tt ro
    refine ⟨[a], [.scr (ns.map PV.int)], .ref 0, ⟨rfl, fun n m b h e1 e2 => ?_, fun n o b e1 e2 => ?_, tt⟩, .ref rfl, hc⟩
    · have h1 := (List.getElem?_eq_some_iff.mp e1).1
      have h2 := (List.getElem?_eq_some_iff.mp e2).1
      simp only [List.length_singleton] at h1 h2
      omega
    · have h1 := (List.getElem?_eq_some_iff.mp e1).1
      simp only [List.length_singleton] at h1
      have : n = 0 := by omega
      subst this
      cases e1
      cases e2
      exact ro
  cases hk : K.lookup a with
  | some o =>
    have e := KX a o hk
    rw [ha] at e
    cases e
    let T : Hp := fun b => if b ∈ tb.map (·.2) then some (.tbl #[]) else none
    have Ty : ∀ b, b ∈ tb.map (·.2) → T b = some (.tbl #[]) := fun b hb => if_pos hb
    have Tn : ∀ b, b ∉ tb.map (·.2) → T b = none := fun b hb => if_neg hb
    have Ta : T a = none := Tn a fun z => by
      obtain ⟨p, hp, e⟩ := List.mem_map.mp z
      exact naT p hp e
    refine law_from (T := T) (tb := tb) KX hns hb hbb hlim hg ha hr tE tK tC bmn F hbind (fun b => ?_) (fun b u z => ?_) (fun z => absurd Ta z) (one _ (tabs_start fun p hp => ?_) ?_)
    · by_cases h : b ∈ tb.map (·.2)
      · obtain ⟨p, hp, e⟩ := List.mem_map.mp h
        exact .inr (.inl ⟨p, hp, e.symm, Ty b h⟩)
      · exact .inl (Tn b h)
    · by_cases h : b ∈ tb.map (·.2)
      · rw [Ty b h] at z
        cases z
        obtain ⟨p, hp, e⟩ := List.mem_map.mp h
        rw [← e]
        exact tE p hp
      · rw [Tn b h] at z
        cases z
    · rw [← htb] at hp
      exact Ty _ (List.mem_map.mpr ⟨p, hp, rfl⟩)
    · exact ⟨ns.map V.int, .inr ⟨_, items.toArray, _, hk, rfl, rfl, rfl, by rw [List.size_toArray, lenV]; exact hl, by simpa using rv⟩, RVs.ofInts _ _ _⟩
  | none =>
    let T : Hp := fun b => if b = a then some (.frz { cls := .type "list", data := .seq items.toArray } (.lst (ns.map V.int))) else if b ∈ tb.map (·.2) then some (.tbl #[]) else none
    have Ta : T a = some (.frz { cls := .type "list", data := .seq items.toArray } (.lst (ns.map V.int))) := if_pos rfl
    have Ty : ∀ b, b ≠ a → b ∈ tb.map (·.2) → T b = some (.tbl #[]) := fun b h hb => (if_neg h).trans (if_pos hb)
    have Tn : ∀ b, b ≠ a → b ∉ tb.map (·.2) → T b = none := fun b h hb => (if_neg h).trans (if_neg hb)
    refine law_from (T := T) (tb := tb) KX hns hb hbb hlim hg ha hr tE tK tC bmn F hbind (fun b => ?_) (fun b u z => ?_) (fun _ => hk) (one T (tabs_start fun p hp => ?_) ⟨ns.map V.int, .inl ⟨_, Ta⟩, RVs.ofInts _ _ _⟩)
    · by_cases h : b = a
      · rw [h]
        exact .inr (.inr ⟨_, _, Ta, rfl⟩)
      · by_cases h2 : b ∈ tb.map (·.2)
        · obtain ⟨p, hp, e⟩ := List.mem_map.mp h2
          exact .inr (.inl ⟨p, hp, e.symm, Ty b h h2⟩)
        · exact .inl (Tn b h h2)
    · by_cases h : b = a
      · subst h
        rw [Ta] at z
        cases z
        exact ⟨ha, by rw [List.length_map]; exact hl, items, _, rv, ha⟩
      · by_cases h2 : b ∈ tb.map (·.2)
        · rw [Ty b h h2] at z
          cases z
          obtain ⟨p, hp, e⟩ := List.mem_map.mp h2
          rw [← e]
          exact tE p hp
        · rw [Tn b h h2] at z
          cases z
    · rw [← htb] at hp
      exact Ty _ (naT p hp) (List.mem_map.mpr ⟨p, hp, rfl⟩)
/-- THE END: the head's facts give the law's def; the evaluator answers True at every script -/
theorem walk_g {l : PySem.W.OpenLaw} {n k : Nat} {q : Program} {loose : List Str} {XP : (Str → Option Value) → Heap → Prop} {YP : World → Heap → Prop} {d : DefRec} {x : Str} {cf : List PV → MH → R PV}
    (hn : l.most = some n) (hn2 : n ≤ sizeLine) (hdf : d.params.defaults = []) (hr : Room k callerA)
    (F : ∀ (w : World) (mg : Str → Option Value) (fa : Addr) (h : Heap), YP w h → h.Ns mainGlobals mg → mg d.name = some (.ref fa) →
      ∃ (K : PySem.W.Frag) (fd : FuncData), K.In h ∧ (∀ p ∈ lamDefs.map fun x => He.cT K (x, none), h.get? p.2 = some { cls := .none, data := .fields #[] } ∧ K.lookup p.2 = none ∧ PySem.W.CodeHd h p.1 p.2) ∧ (∀ (s : Shared) (u : Value), BindsTo s fd ⟨[u], []⟩ [(x, u)]) ∧
        ∀ bs : Heap, K.In bs → bs.Ns mainGlobals mg → (∀ p ∈ lamDefs.map fun x => He.cT K (x, none), LamX.TabB bs mg p.1 p.2) → FnG l.prog w K mg bs k fa fd [x] (spE ⟨K, w, l.prog⟩ 1 cf))
    (hc : ∀ ns : List Int, ns.length ≤ n → (∀ i ∈ ns, Builtin.Int.intBits i ≤ 1048576) → ∃ mh', cf [.ref 0] [.scr (ns.map PV.int)] = .ok (.bl true) mh') :
    PySem.W.WalkO q loose XP YP l.row.toRowW d [] (fun f vs => PySem.call f vs) := by
  refine Att.attach_callB hn hdf fun w s₀ s₁ mg mb fa o pm cd doc a vs ns G Y ho hd hcd hmg hobj hints hlen hbits hg => ?_
  obtain ⟨K, fd, KX, ht, hb, hF⟩ := F w mg fa _ Y G.T.g hmg
  exact law_g rfl KX G.T.g G.T.b G.T.builtins G.T.nolimit hg hobj hints (Nat.le_trans hlen hn2) hr (fun p hp => (ht p hp).1) (fun p hp => (ht p hp).2.1) (fun p hp => (ht p hp).2.2) G.T.bmain hF hb (hc ns hlen hbits)
end
end Ev
namespace Ev
open PySem PySem.Spec PyProof.Rows L2 RZ
open PySem.Sem (wp)
/-! ### list(zip(a, b)) of two tuples: the pairs are held -/
section
variable {prog : Program} {w : World} {A : Around} {E : Value → Shared → Prop} {s : Shared}
theorem heldT_item {z TI TO T i1 i2 l1 l2 : Addr} {f : Bool} {oT : Obj} {k1 k2 : Nat} {xs ys : Array Value} {x y : Value} {Q : Option Value → Shared → Prop} (D : ZipApart z TI TO i1 i2 l1 l2)
    (hz : IsZipHeld s.heap z TI TO T f) (hT : s.heap.get? T = some oT) (hTI : IsPair s.heap TI (.ref i1) (.ref i2))
    (p1 : s.heap.IsTupleIter i1 l1 k1) (p2 : s.heap.IsTupleIter i2 l2 k2) (q1 : s.heap.IsTuple l1 xs) (q2 : s.heap.IsTuple l2 ys) (hx : xs[k1]? = some x) (hy : ys[k2]? = some y)
    (hQ : ∀ h', IsZipHeld h' z TI TO T true → h'.IsTupleIter i1 l1 (k1 + 1) → h'.IsTupleIter i2 l2 (k2 + 1) → IsPair h' s.heap.objs.size x y →
      (∀ c o, c ≠ z → c ≠ i1 → c ≠ i2 → s.heap.get? c = some o → h'.get? c = some o) → Q (some (.ref s.heap.objs.size)) { s with heap := h' }) :
    wpAny (model prog w) A (pyNext (.ref z)) Q E s := by
  have hTy : s.TypeIs (.ref z) "zip" := ⟨_, hz, rfl⟩
  unfold pyNext
  refine wpAny_bind (wpAny_attempt (wpAny_callSpecial?_slot (name := Str.ofString "__next__") hTy F.slot_zip_next (wpAny_call_entry F.slot_zip_next hTy F.entry_zip_next ?_ (F.args_zip_next_1 _))))
  show wpAny _ _ (field (.ref z) 2 >>= _) _ _ _
  refine wpAny_bind (wpAny_field hz rfl (x := .bool false) rfl ?_)
  show wpAny _ _ (field (.ref z) 3 >>= _) _ _ _
  refine wpAny_bind (wpAny_field hz rfl (x := .ref TI) rfl ?_)
  refine wpAny_bind (wpAny_seqItems hTI rfl ?_)
  show wpAny _ _ (Builtin.SmallTypes.ownedTupleIsFree (.ref z) >>= _) _ _ _
  refine wpAny_bind (wpAny_tupleHeld_zip hz hT fun g1 z1 s1 => ?_)
  simp only [Bool.false_eq_true, if_false]
  refine wpAny_bind ?_
  rw [← Array.forIn_toList]
  simp only [List.forIn_cons, List.forIn_nil]
  refine wpAny_bind (wpAny_bind (wpAny_holding ?_))
  show wpAny _ _ (Builtin.SmallTypes.nextOf (.ref i1) >>= _) _ _ _
  refine wpAny_bind (nextOf_tuple_item (s := { s with heap := g1 }) (p1.extBut s1.extBut D.i1z) (q1.extBut s1.extBut D.l1z) hx fun g2 r1 s2 => wpAny_pure ?_)
  refine wpAny_pure ?_
  refine wpAny_bind (wpAny_bind (wpAny_holding ?_))
  show wpAny _ _ (Builtin.SmallTypes.nextOf (.ref i2) >>= _) _ _ _
  refine wpAny_bind (nextOf_tuple_item (s := { s with heap := g2 }) ((p2.extBut s1.extBut D.i2z).extBut s2.extBut D.i12.symm) ((q2.extBut s1.extBut D.l2z).extBut s2.extBut D.l2i1) hy fun g3 r2 s3 => wpAny_pure ?_)
  refine wpAny_pure (wpAny_pure ?_)
  show wpAny _ _ (newTuple [x, y] >>= _) _ _ _
  refine wpAny_bind (wpAny_newTuple ?_)
  have esz : g3.objs.size = s.heap.objs.size := by rw [s3.1, s2.1, s1.1]
  have z3 : IsZipHeld g3 z TI TO T true := s3.extBut _ _ D.i2z.symm (s2.extBut _ _ D.i1z.symm z1)
  have keep : ∀ c o, c ≠ z → c ≠ i1 → c ≠ i2 → s.heap.get? c = some o → g3.get? c = some o := fun c o c1 c2 c3 e => s3.extBut _ _ c3 (s2.extBut _ _ c2 (s1.extBut _ _ c1 e))
  have r1' : g3.IsTupleIter i1 l1 (k1 + 1) := r1.extBut s3.extBut D.i12
  refine wpAny_pure ⟨_, rfl, wpAny_pure ?_⟩
  have hp : IsPair (g3.push { cls := .type "tuple", data := .seq #[x, y] }) g3.objs.size x y := Heap.get?_push_size _ rfl
  rw [esz] at hp ⊢
  exact hQ _ (Heap.get?_push_of_some _ z3) (r1'.at fun o e => Heap.get?_push_of_some _ e) (r2.at fun o e => Heap.get?_push_of_some _ e) hp fun c o c1 c2 c3 e => Heap.get?_push_of_some _ (keep c o c1 c2 c3 e)
theorem heldT_end {z TI TO T i1 i2 l1 l2 : Addr} {f : Bool} {oT : Obj} {k1 k2 : Nat} {xs ys : Array Value} {Q : Option Value → Shared → Prop} (hh : A.handled = none) (D : ZipApart z TI TO i1 i2 l1 l2)
    (hz : IsZipHeld s.heap z TI TO T f) (hT : s.heap.get? T = some oT) (hTI : IsPair s.heap TI (.ref i1) (.ref i2))
    (p1 : s.heap.IsTupleIter i1 l1 k1) (p2 : s.heap.IsTupleIter i2 l2 k2) (q1 : s.heap.IsTuple l1 xs) (q2 : s.heap.IsTuple l2 ys) (hend : xs[k1]? = none ∨ ys[k2]? = none)
    (hQ : ∀ h', (∀ c o, c ≠ z → c ≠ i1 → c ≠ i2 → s.heap.get? c = some o → h'.get? c = some o) → Q none { s with heap := h' }) : wpAny (model prog w) A (pyNext (.ref z)) Q E s := by
  have hTy : s.TypeIs (.ref z) "zip" := ⟨_, hz, rfl⟩
  unfold pyNext
  refine wpAny_bind (wpAny_attempt (wpAny_callSpecial?_slot (name := Str.ofString "__next__") hTy F.slot_zip_next (wpAny_call_entry F.slot_zip_next hTy F.entry_zip_next ?_ (F.args_zip_next_1 _))))
  show wpAny _ _ (field (.ref z) 2 >>= _) _ _ _
  refine wpAny_bind (wpAny_field hz rfl (x := .bool false) rfl ?_)
  show wpAny _ _ (field (.ref z) 3 >>= _) _ _ _
  refine wpAny_bind (wpAny_field hz rfl (x := .ref TI) rfl ?_)
  refine wpAny_bind (wpAny_seqItems hTI rfl ?_)
  show wpAny _ _ (Builtin.SmallTypes.ownedTupleIsFree (.ref z) >>= _) _ _ _
  refine wpAny_bind (wpAny_tupleHeld_zip hz hT fun g1 z1 s1 => ?_)
  simp only [Bool.false_eq_true, if_false]
  refine wpAny_bind ?_
  rw [← Array.forIn_toList]
  simp only [List.forIn_cons, List.forIn_nil]
  refine wpAny_bind (wpAny_bind (wpAny_holding ?_))
  show wpAny _ _ (Builtin.SmallTypes.nextOf (.ref i1) >>= _) _ _ _
  cases hx : xs[k1]? with
  | none =>
    refine wpAny_bind (nextOf_tuple_end (s := { s with heap := g1 }) hh (p1.extBut s1.extBut D.i1z) (q1.extBut s1.extBut D.l1z) hx fun g2 e s2 he => ?_)
    obtain ⟨o, ho, hc⟩ := he
    refine wpAny_bind (wpAny_isInstance (T := "StopIteration") (b := true) ⟨o, ho, hc⟩ isSubtype_stop (wpAny_pure (hQ _ ?_)))
    exact fun c o c1 c2 _ x => s2 _ _ c2 (s1.extBut _ _ c1 x)
  | some x =>
    have hy : ys[k2]? = none := by
      rcases hend with h | h
      · rw [hx] at h
        cases h
      · exact h
    refine wpAny_bind (nextOf_tuple_item (s := { s with heap := g1 }) (p1.extBut s1.extBut D.i1z) (q1.extBut s1.extBut D.l1z) hx fun g2 r1 s2 => wpAny_pure ?_)
    refine wpAny_pure ?_
    refine wpAny_bind (wpAny_bind (wpAny_holding ?_))
    show wpAny _ _ (Builtin.SmallTypes.nextOf (.ref i2) >>= _) _ _ _
    refine wpAny_bind (nextOf_tuple_end (s := { s with heap := g2 }) hh ((p2.extBut s1.extBut D.i2z).extBut s2.extBut D.i12.symm) ((q2.extBut s1.extBut D.l2z).extBut s2.extBut D.l2i1) hy fun g3 e s3 he => ?_)
    obtain ⟨o, ho, hc⟩ := he
    refine wpAny_bind (wpAny_isInstance (T := "StopIteration") (b := true) ⟨o, ho, hc⟩ isSubtype_stop (wpAny_pure (hQ _ ?_)))
    exact fun c o c1 c2 c3 x => s3 _ _ c3 (s2.extBut _ _ c2 (s1.extBut _ _ c1 x))
end
/-- the zip's state at turn i; S, the list that holds the pairs -/
def ZSt (h : Heap) (z TI TO i1 i2 a b S : Addr) (i : Nat) : Prop := IsPair h TI (.ref i1) (.ref i2) ∧ h.IsTupleIter i1 a i ∧ h.IsTupleIter i2 b i ∧
  (∃ x y, IsPair h TO x y) ∧ (IsZip h z TI TO .none ∨ ∃ T f oT, IsZipHeld h z TI TO T f ∧ h.get? T = some oT ∧ T ≠ z ∧ T ≠ i1 ∧ T ≠ i2 ∧ T ≠ S)
section
variable {X : Cx} {pins : List (Addr × Obj)} {σ : L2.St}
theorem zip_loop {A : Around} (hh : A.in1.handled = none) {z TI TO i1 i2 a b S : Addr} (D : ZipApart z TI TO i1 i2 a b) (hS : S ∉ [z, TI, TO, i1, i2]) (res : Value) {xs ys : List V} {R : Result → Shared → Prop} (G : Nat → Hp → Prop)
    (info : ∀ i H, G i H → SqT X.K H a xs ∧ SqT X.K H b ys ∧ ∃ acc, H S = some (.lst acc) ∧ acc.length = i)
    (step : ∀ i H T x y acc, G i H → xs[i]? = some x → ys[i]? = some y → H T = none → H S = some (.lst acc) → G (i + 1) (upd (upd H T (.tup [x, y])) S (.lst (acc ++ [.ref T]))))
    (hz : min xs.length ys.length ≤ sizeLine) (fin : ∀ s' H', Inv X pins σ H' s' → G (min xs.length ys.length) H' → R (.ok (.ret res)) s') :
    ∀ k i s H, min xs.length ys.length - i = k → i ≤ min xs.length ys.length → Inv X pins σ H s → (∀ c ∈ [z, TI, TO, i1, i2], FpOk X pins H c) → ZSt s.heap z TI TO i1 i2 a b S i → G i H →
      codeAny (model X.prog X.w) A (.builtin "list.extend.loop" ⟨[.ref S, .ref z, res], []⟩) R s := by
  intro k
  induction k with
  | zero =>
    intro i s H hk hi I hf st g
    have ei : i = min xs.length ys.length := by omega
    obtain ⟨qa, qb, acc, hacc, hl⟩ := info i H g
    obtain ⟨its, rv, t1, _⟩ := I.tuple qa
    obtain ⟨its2, rv2, t2, _⟩ := I.tuple qb
    have e1 := rv.length
    have e2 := rv2.length
    have hend : its.toArray[i]? = none ∨ its2.toArray[i]? = none := by
      rcases Nat.le_total xs.length ys.length with h | h
      · exact .inl (by simp; omega)
      · exact .inr (by simp; omega)
    refine codeAny_builtin F.entry_extend_loop ?_
    rw [Around.under_plainId F.plain_extend_loop _]
    show wpAny _ A.in1 (pyNext (.ref z) >>= _) _ _ s
    have last : ∀ h', (∀ c o, c ∉ [z, TI, TO, i1, i2] → s.heap.get? c = some o → h'.get? c = some o) → R (.ok (.ret res)) { s with heap := h' } := fun h' hk => by
      refine fin _ H (I.turnedL (t' := s.toks) hk hf) ?_
      rw [← ei]
      exact g
    obtain ⟨hTI, p1, p2, ⟨x0, y0, hTO⟩, z1 | ⟨T, f, oT, z1, hT, r1, r2, r3, r4⟩⟩ := st
    · refine wpAny_bind (pyNext_zipT_end hh D z1 hTI hTO p1 p2 t1 t2 hend fun h' hk => wpAny_pure (last h' fun c o hc e => hk c o ?_ ?_ ?_ ?_ e))
      all_goals (intro q; exact hc (by simp [q]))
    · refine wpAny_bind (heldT_end hh D z1 hT hTI p1 p2 t1 t2 hend fun h' hk => wpAny_pure (last h' fun c o hc e => hk c o ?_ ?_ ?_ e))
      all_goals (intro q; exact hc (by simp [q]))
  | succ k ih =>
    intro i s H hk hi I hf st g
    obtain ⟨qa, qb, acc, hacc, hl⟩ := info i H g
    obtain ⟨its, rv, t1, _⟩ := I.tuple qa
    obtain ⟨its2, rv2, t2, _⟩ := I.tuple qb
    have hix : i < xs.length := by omega
    have hiy : i < ys.length := by omega
    obtain ⟨u, hu, ru⟩ := rv.get (List.getElem?_eq_getElem hix)
    obtain ⟨u2, hu2, ru2⟩ := rv2.get (List.getElem?_eq_getElem hiy)
    refine codeAny_builtin F.entry_extend_loop ?_
    rw [Around.under_plainId F.plain_extend_loop _]
    show wpAny _ A.in1 (pyNext (.ref z) >>= _) _ _ s
    have hfT : H s.heap.objs.size = none := I.fresh
    have ltT : ∀ c ∈ [z, TI, TO, i1, i2], (∃ o, s.heap.get? c = some o) → s.heap.objs.size ≠ c := fun c _ ⟨o, e⟩ => Nat.ne_of_gt (Heap.lt_size e)
    -- behind the next pair
    have after : ∀ (h' : Heap), (∀ c o, c ∉ [z, TI, TO, i1, i2] → s.heap.get? c = some o → h'.get? c = some o) → IsPair h' s.heap.objs.size u u2 → h'.IsTupleIter i1 a (i + 1) → h'.IsTupleIter i2 b (i + 1) → IsPair h' TI (.ref i1) (.ref i2) → (∃ x y, IsPair h' TO x y) →
        (∃ T f oT, IsZipHeld h' z TI TO T f ∧ h'.get? T = some oT ∧ T ≠ z ∧ T ≠ i1 ∧ T ≠ i2 ∧ T ≠ S) → s.heap.objs.size ≠ z → s.heap.objs.size ≠ TI → s.heap.objs.size ≠ TO → s.heap.objs.size ≠ i1 → s.heap.objs.size ≠ i2 →
        wpAny (model X.prog X.w) A.in1 (updateSeq S (·.push (.ref s.heap.objs.size)) >>= fun _ => again (.builtin "list.extend.loop" ⟨[.ref S, .ref z, res], []⟩)) (fun fin s' => match fin with | .done f => R (.ok f) s' | .again c' => c'.quiet = true ∧ codeAny (model X.prog X.w) A c' R s') (fun e s' => R (.error e) s') { s with heap := h' } := by
      intro h' hk' hp r1 r2 hTI' hTO' hheld n1 n2 n3 n4 n5
      have new : ObjOk X.prog X.w (upd H s.heap.objs.size (.tup [xs[i], ys[i]])) h' s.heap.objs.size (.tup [xs[i], ys[i]]) :=
        ⟨by show 2 ≤ sizeLine; decide, [u, u2], .cons ru (.cons ru2 .nil), ⟨_, hp, rfl, _, rfl⟩⟩
      have I1 : Inv X pins σ (upd H s.heap.objs.size (.tup [xs[i], ys[i]])) { s with heap := h' } := I.turnedNew (t' := s.toks) hk' hf (Nat.le_refl _) new
      have hSne : S ≠ s.heap.objs.size := fun q => by
        rw [q, hfT] at hacc
        cases hacc
      have hacc1 : (upd H s.heap.objs.size (.tup [xs[i], ys[i]])) S = some (.lst acc) := by rw [upd_ne hSne]; exact hacc
      obtain ⟨zl, itl, nl, rl, el, eo⟩ := I1.lstM hacc1
      have eo' : h'.get? S = some { cls := .type "list", data := .seq itl.toArray nl } := eo
      refine wpAny_bind (wpAny_updateSeq eo' rfl ?_ (by rw [List.size_toArray]; omega) (by show (itl.toArray.push _).size ≤ _; rw [Array.size_push, List.size_toArray]; omega))
      have I2 := I1.lset (t' := s.toks) (its' := itl ++ [.ref s.heap.objs.size]) (ys := acc ++ [.ref s.heap.objs.size]) (f := (·.push (.ref s.heap.objs.size))) hacc1 eo (by simp) (rl.append (.cons (show RelV (.ref _) (.ref _) from rfl) .nil)) (by rw [List.length_append, List.length_singleton]; omega)
      have oth : ∀ c o, c ≠ S → h'.get? c = some o → (h'.update S (Obj.mapSeq (·.push (.ref s.heap.objs.size)))).get? c = some o := fun c o hc e => (Heap.get?_update_other _ _ (Ne.symm hc)).trans e
      have mem : ∀ {c : Addr}, c ∈ [z, TI, TO, i1, i2] → c ≠ S := fun hc q => hS (q ▸ hc)
      refine wpAny_pure ⟨plainId_quiet F.plain_extend_loop _, ih (i + 1) _ _ (by omega) (by omega) I2 (fun c hc => ?_) ⟨oth _ _ (mem (by simp)) hTI', r1.at fun o e => oth _ o (mem (by simp)) e, r2.at fun o e => oth _ o (mem (by simp)) e, (let ⟨x, y, q⟩ := hTO'; ⟨x, y, oth _ _ (mem (by simp)) q⟩), .inr ?_⟩ (step i H _ _ _ acc g (List.getElem?_eq_getElem hix) (List.getElem?_eq_getElem hiy) hfT hacc)⟩
      · obtain ⟨f0, f1, f2, f3, f4, f5⟩ := hf c hc
        refine ⟨?_, f1, f2, f3, f4, f5⟩
        have hcT : c ≠ s.heap.objs.size := by
          simp only [List.mem_cons, List.not_mem_nil, or_false] at hc
          rcases hc with q | q | q | q | q <;> (subst q; exact Ne.symm (by assumption))
        rw [upd_ne (mem hc), upd_ne hcT]
        exact f0
      · obtain ⟨T, f, oT, z1, hT, q1, q2, q3, q4⟩ := hheld
        exact ⟨T, f, oT, oth _ _ (mem (by simp)) z1, oth _ _ q4 hT, q1, q2, q3, q4⟩
    obtain ⟨hTI, p1, p2, ⟨x0, y0, hTO⟩, hzz⟩ := st
    have szO : s.heap.objs.size ≠ TO := Nat.ne_of_gt (Heap.lt_size hTO)
    have szz : s.heap.objs.size ≠ i1 := let ⟨_, e, _⟩ := p1; Nat.ne_of_gt (Heap.lt_size e)
    have szz2 : s.heap.objs.size ≠ i2 := let ⟨_, e, _⟩ := p2; Nat.ne_of_gt (Heap.lt_size e)
    have szI : s.heap.objs.size ≠ TI := Nat.ne_of_gt (Heap.lt_size hTI)
    have szS : s.heap.objs.size ≠ S := fun q => by
      rw [← q, hfT] at hacc
      cases hacc
    rcases hzz with z1 | ⟨T, f, oT, z1, hT, r1, r2, r3, r4⟩
    · have szz3 : s.heap.objs.size ≠ z := Nat.ne_of_gt (Heap.lt_size z1)
      refine wpAny_bind (pyNext_zipT_item D z1 hTI hTO p1 p2 t1 t2 (x := u) (y := u2) (by simpa using hu) (by simpa using hu2) fun h' a1 a2 a3 a4 a5 a6 hk' => ?_)
      refine after h' (fun c o hc e => hk' c o (fun q => hc (by simp [q])) (fun q => hc (by simp [q])) (fun q => hc (by simp [q])) (fun q => hc (by simp [q])) e) a5 a3 a4 (hk' _ _ D.TIz D.TITO D.TIi1 D.TIi2 hTI) ⟨_, _, a2⟩ ⟨s.heap.objs.size, false, _, a1, a5, szz3, szz, szz2, szS⟩ szz3 szI szO szz szz2
    · have szz3 : s.heap.objs.size ≠ z := Nat.ne_of_gt (Heap.lt_size z1)
      refine wpAny_bind (heldT_item D z1 hT hTI p1 p2 t1 t2 (x := u) (y := u2) (by simpa using hu) (by simpa using hu2) fun h' a1 a3 a4 a5 hk' => ?_)
      refine after h' (fun c o hc e => hk' c o (fun q => hc (by simp [q])) (fun q => hc (by simp [q])) (fun q => hc (by simp [q])) e) a5 a3 a4 (hk' _ _ D.TIz D.TIi1 D.TIi2 hTI) ⟨_, _, hk' _ _ D.TOz D.TOi1 D.TOi2 hTO⟩ ⟨T, true, oT, a1, hk' _ _ r1 r2 r3 hT, r1, r2, r3, r4⟩ szz3 szI szO szz szz2
theorem zip_no_len : typeLookup (.type "zip") "__len__" = pure none := am_miss_of_fast (by decide +kernel)
theorem zip_no_hint : typeLookup (.type "zip") "__length_hint__" = pure none := am_miss_of_fast (by decide +kernel)
/-- S.extend(zip), S still empty -/
theorem zip_extend {A : Around} {s : Shared} {H : Hp} (hh : A.in1.handled = none) {z TI TO i1 i2 a b S : Addr} (D : ZipApart z TI TO i1 i2 a b) (hS : S ∉ [z, TI, TO, i1, i2]) (res : Value) {xs ys : List V} {R : Result → Shared → Prop} (G : Nat → Hp → Prop)
    (info : ∀ i H, G i H → SqT X.K H a xs ∧ SqT X.K H b ys ∧ ∃ acc, H S = some (.lst acc) ∧ acc.length = i)
    (step : ∀ i H T x y acc, G i H → xs[i]? = some x → ys[i]? = some y → H T = none → H S = some (.lst acc) → G (i + 1) (upd (upd H T (.tup [x, y])) S (.lst (acc ++ [.ref T]))))
    (hz : min xs.length ys.length ≤ sizeLine) (fin : ∀ s' H', Inv X pins σ H' s' → G (min xs.length ys.length) H' → R (.ok (.ret res)) s')
    (I : Inv X pins σ H s) (hf : ∀ c ∈ [z, TI, TO, i1, i2], FpOk X pins H c) (st : ZSt s.heap z TI TO i1 i2 a b S 0) (hz0 : IsZip s.heap z TI TO .none) (g : G 0 H) :
    wpAny (model X.prog X.w) A.in1 (Builtin.List.listExtendWith (.ref S) (.ref z) res)
      (fun fin s' => match fin with | .done f => R (.ok f) s' | .again c' => c'.quiet = true ∧ codeAny (model X.prog X.w) A c' R s') (fun e s' => R (.error e) s') s := by
  have hSz : S ≠ z := fun q => hS (by simp [q])
  have tyz : ∀ h : Heap, ZSt h z TI TO i1 i2 a b S 0 → ({ s with heap := h } : Shared).TypeIs (.ref z) "zip" := fun h st => by
    rcases st.2.2.2.2 with q | ⟨_, _, _, q, _⟩
    · exact ⟨_, q, rfl⟩
    · exact ⟨_, q, rfl⟩
  have ty := tyz s.heap st
  unfold Builtin.List.listExtendWith
  refine wpAny_bind (wpAny_typeOf ty ?_)
  have n1 : Builtin.List.listSameRef (.ref S) (.ref z) = false := by simp [Builtin.List.listSameRef, hSz]
  have n2 : (Value.type "zip" == Value.type "list") = false := by decide
  have n3 : (Value.type "zip" == Value.type "tuple") = false := by decide
  simp only [n1, n2, n3, Bool.or_false, Bool.false_eq_true, if_false]
  have itz : ∀ {Q : Value → Shared → Prop} {E : Value → Shared → Prop}, Q (.ref z) s → wpAny (model X.prog X.w) A.in1 (pyIter (.ref z)) Q E s := by
    intro Q E h
    exact wpAny_pyIter_zip hz0 h
  refine wpAny_bind (itz ?_)
  refine wpAny_bind (wpAny_holding ?_)
  unfold Builtin.List.listLengthHint
  refine wpAny_bind (wpAny_specialOf ty zip_no_len ?_)
  show wpAny _ A.in1 (specialOf (Value.ref z) (Str.ofString "__length_hint__") >>= _) _ _ _
  refine wpAny_bind (wpAny_specialOf ty zip_no_hint ?_)
  refine wpAny_pure ?_
  show wpAny _ A.in1 (rule "list.extend.makes-room" >>= fun _ => Builtin.List.listTouch (.ref S) >>= fun _ => again (.builtin "list.extend.loop" ⟨[.ref S, .ref z, res], []⟩)) _ _ _
  refine wpAny_bind (wpAny_rule ?_)
  refine wpAny_bind ?_
  show wpAny _ A.in1 (updateSeq S (·.push .none) >>= fun _ => updateSeq S (·.pop)) _ _ _
  obtain ⟨_, _, acc, hacc, hl⟩ := info 0 H g
  have eacc : acc = [] := List.eq_nil_of_length_eq_zero hl
  subst eacc
  obtain ⟨zl, itl, nl, rl, el, eo⟩ := I.lstM hacc
  cases rl
  refine wpAny_bind (wpAny_updateSeq eo rfl ?_)
  have eo2 := Heap.get?_update_self (Obj.mapSeq (·.push Value.none)) eo rfl
  refine wpAny_updateSeq eo2 rfl ?_ (by show (Array.push _ _).size ≤ _; rw [Array.size_push]; show 0 + 1 ≤ sizeLine; decide) (by show (Array.pop _).size ≤ _; simp)
  have I2 : Inv X pins σ (upd H S (.lst [])) { s with heap := (s.heap.update S (Obj.mapSeq (·.push .none))).update S (Obj.mapSeq (·.pop)) } := by
    refine I.write (t' := s.toks) (x := S) (e := S) (by rw [hacc]; exact trivial) (.inl rfl) (fun c o hc e => (Heap.get?_update_other _ _ (Ne.symm hc)).trans ((Heap.get?_update_other _ _ (Ne.symm hc)).trans e)) ⟨_, Heap.get?_update_self _ eo2 rfl⟩ ?_
    exact ⟨by show 0 ≤ _; omega, [], _, .nil, Heap.get?_update_self _ eo2 rfl⟩
  have eH : upd H S (.lst []) = H := by
    funext c
    by_cases hc : c = S
    · rw [hc, upd_same, hacc]
    · rw [upd_ne hc]
  rw [eH] at I2
  have oth : ∀ c o, c ≠ S → s.heap.get? c = some o → ((s.heap.update S (Obj.mapSeq (·.push .none))).update S (Obj.mapSeq (·.pop))).get? c = some o := fun c o hc e => (Heap.get?_update_other _ _ (Ne.symm hc)).trans ((Heap.get?_update_other _ _ (Ne.symm hc)).trans e)
  have mem : ∀ {c : Addr}, c ∈ [z, TI, TO, i1, i2] → c ≠ S := fun hc q => hS (q ▸ hc)
  obtain ⟨hTI, p1, p2, ⟨x0, y0, hTO⟩, hzz⟩ := st
  refine wpAny_pure ⟨plainId_quiet F.plain_extend_loop _, zip_loop hh D hS res G info step hz fin _ 0 _ H rfl (Nat.zero_le _) I2 hf ⟨oth _ _ (mem (by simp)) hTI, p1.at fun o e => oth _ o (mem (by simp)) e, p2.at fun o e => oth _ o (mem (by simp)) e, ⟨x0, y0, oth _ _ (mem (by simp)) hTO⟩, ?_⟩ g⟩
  rcases hzz with q | ⟨T, f, oT, q, hT, q1, q2, q3, q4⟩
  · exact .inl (oth _ _ (mem (by simp)) q)
  · exact .inr ⟨T, f, oT, oth _ _ (mem (by simp)) q, oth _ _ q4 hT, q1, q2, q3, q4⟩
/-- list(z), z such a zip -/
theorem call_list_zip {s : Shared} {H : Hp} {Q : VK} (hc : X.calm = true) {z TI TO i1 i2 a b : Addr} (D : ZipApart z TI TO i1 i2 a b) {xs ys : List V} (hlt : ∀ c ∈ [z, TI, TO, i1, i2], c < s.heap.objs.size)
    (G : Nat → Hp → Prop) (info : ∀ i H', G i H' → SqT X.K H' a xs ∧ SqT X.K H' b ys ∧ ∃ acc, H' s.heap.objs.size = some (.lst acc) ∧ acc.length = i)
    (step : ∀ i H' T x y acc, G i H' → xs[i]? = some x → ys[i]? = some y → H' T = none → H' s.heap.objs.size = some (.lst acc) → G (i + 1) (upd (upd H' T (.tup [x, y])) s.heap.objs.size (.lst (acc ++ [.ref T]))))
    (hz : min xs.length ys.length ≤ sizeLine) (fin : ∀ H', G (min xs.length ys.length) H' → Q (.ref s.heap.objs.size) H')
    (I : Inv X pins σ H s) (hf : ∀ c ∈ [z, TI, TO, i1, i2], FpOk X pins H c) (st : ZSt s.heap z TI TO i1 i2 a b s.heap.objs.size 0) (hz0 : IsZip s.heap z TI TO .none) (g : G 0 (upd H s.heap.objs.size (.lst []))) :
    wpAny (model X.prog X.w) X.A (call (.type "list") [.ref z]) (EP X pins σ Q) X.xe s := by
  have hS : s.heap.objs.size ∉ [z, TI, TO, i1, i2] := fun hm => Nat.lt_irrefl _ (hlt _ hm)
  refine callType_codes (Q₁ := fun obj s₁ => obj = .ref s.heap.objs.size ∧ s₁ = { s with heap := s.heap.push { cls := .type "list", data := .seq #[] } }) F.called_list (F.typeCall_list_1 _) F.entry_list_init (code_list_new _ ⟨rfl, rfl⟩) fun obj s₁ e₁ => ?_
  obtain ⟨rfl, rfl⟩ := e₁
  have eo : (s.heap.push { cls := .type "list", data := .seq #[] }).get? s.heap.objs.size = some { cls := .type "list", data := .seq #[] } := Heap.get?_push_size _ rfl
  refine ⟨⟨_, eo, rfl⟩, F.args_list_init_2 _ _, ?_⟩
  have I1 : Inv X pins σ (upd H s.heap.objs.size (.lst [])) { s with heap := s.heap.push { cls := .type "list", data := .seq #[] } } := I.lnew (t' := s.toks) (its := []) .nil (Nat.zero_le _)
  show wpAny _ X.A.in1.in1 (do let old ← Builtin.List.listItems (.ref s.heap.objs.size); Builtin.List.listUpdate (.ref s.heap.objs.size) (fun _ => #[]); letGo old.toList.reverse; Builtin.List.listExtendWith (.ref s.heap.objs.size) (.ref z) .none) _ _ _
  refine wpAny_bind ?_
  unfold Builtin.List.listItems
  refine wpAny_bind (wpAny_seqItems eo rfl (wpAny_pure ?_))
  show wpAny _ X.A.in1.in1 (updateSeq s.heap.objs.size (fun _ => #[]) >>= fun _ => letGo (#[] : Array Value).toList.reverse >>= fun _ => Builtin.List.listExtendWith (.ref s.heap.objs.size) (.ref z) .none) _ _ _
  refine wpAny_bind (wpAny_updateSeq eo rfl ?_)
  refine wpAny_bind (wpAny_letGo ?_)
  have hacc : (upd H s.heap.objs.size (.lst [])) s.heap.objs.size = some (.lst []) := upd_same
  have I2 := I1.lset (t' := s.toks) (its := []) (its' := []) (ys := []) (f := fun _ => #[]) hacc eo rfl .nil (Nat.zero_le _)
  have eH : upd (upd H s.heap.objs.size (.lst [])) s.heap.objs.size (.lst []) = upd H s.heap.objs.size (.lst []) := by
    funext c
    by_cases hc : c = s.heap.objs.size
    · rw [hc, upd_same, upd_same]
    · rw [upd_ne hc]
  rw [eH] at I2
  have up : ∀ c o, s.heap.get? c = some o → ((s.heap.push { cls := .type "list", data := .seq #[] }).update s.heap.objs.size (Obj.mapSeq fun _ => #[])).get? c = some o := fun c o e =>
    (Heap.get?_update_other _ _ (Nat.ne_of_gt (Heap.lt_size e))).trans (Heap.get?_push_of_some _ e)
  obtain ⟨hTI, p1, p2, ⟨x0, y0, hTO⟩, hzz⟩ := st
  refine zip_extend (A := X.A.in1) (I.ok.hd hc) D hS .none G info step hz (fun s' H' I' g' => ⟨rfl, .ref s.heap.objs.size, H', I', rfl, fin H' g'⟩) I2 (fun c hc => ?_) ⟨up _ _ hTI, p1.at fun o e => up _ o e, p2.at fun o e => up _ o e, ⟨x0, y0, up _ _ hTO⟩, ?_⟩ ?_ g
  · obtain ⟨f0, f1, f2, f3, f4, f5⟩ := hf c hc
    refine ⟨?_, f1, f2, f3, f4, f5⟩
    rw [upd_ne (Nat.ne_of_lt (hlt c hc))]
    exact f0
  · rcases hzz with q | ⟨T, f, oT, q, hT, q1, q2, q3, q4⟩
    · exact .inl (up _ _ q)
    · exact .inr ⟨T, f, oT, up _ _ q, up _ _ hT, q1, q2, q3, q4⟩
  · exact up _ _ hz0
end
/-! ### the rule -/
def pairsOf : List PV → List PV → List PV
  | v :: vs, w :: ws => .tup [v, w] :: pairsOf vs ws
  | _, _ => []
def opLstZip : Op2 := fun v w mh => match v, w with
  | .tup vs, .tup ws => if min vs.length ws.length ≤ sizeLine then .ok (.ref mh.length) (mh ++ [.lst (pairsOf vs ws)]) else .bad
  | _, _ => .bad
theorem pairsOf_len : ∀ vs ws, (pairsOf vs ws).length = min vs.length ws.length
  | [], _ => by simp [pairsOf]
  | _ :: _, [] => by simp [pairsOf]
  | v :: vs, w :: ws => by
    simp only [pairsOf, List.length_cons, pairsOf_len vs ws]
    omega
theorem pairsOf_take : ∀ (vs ws : List PV) (i : Nat) (v w : PV), vs[i]? = some v → ws[i]? = some w → (pairsOf vs ws).take (i + 1) = (pairsOf vs ws).take i ++ [.tup [v, w]]
  | [], _, _, _, _, e, _ => by simp at e
  | _ :: _, [], _, _, _, _, e => by simp at e
  | v :: vs, w :: ws, 0, _, _, e1, e2 => by
    simp at e1 e2
    subst e1 e2
    simp [pairsOf]
  | v :: vs, w :: ws, i + 1, v', w', e1, e2 => by
    simp only [pairsOf, List.take_succ_cons, List.cons_append]
    rw [pairsOf_take vs ws i v' w' (by simpa using e1) (by simpa using e2)]
theorem q_lstZip : Quiet2 opLstZip := fun v w mh c u h e => by
  unfold opLstZip at e
  repeat' split at e
  all_goals cases e
section
variable {X : Cx} {W : WX} {a b : Expr} {ma mb : PEnv → MH → R PV} {p q1 q2 pos : Pos}
def tLstZip (K : KW) (ta tb : TE) : TE := fun σ H Q => ta σ H fun x H1 => tb σ H1 fun y H2 => r2P K opLstZip x y H2 Q
theorem pe_lstZip {ta tb : TE} (hc : X.calm = true) (hg : Gl X "list") (hm : X.mg "list" = none) (hg2 : Gl X "zip") (hm2 : X.mg "zip" = none) (ha : PE X a ta) (hb : PE X b tb)
    (na : starEach [a, b] X.env = (false, eval a X.env) :: starEach [b] X.env := by rfl) (nb : starEach [b] X.env = (false, eval b X.env) :: starEach [] X.env := by rfl) (hp : (backTo q2 (starEach [b] X.env)).any (·.1) = false := by rfl)
    (nz : starEach [.Call (.Name "zip" q1) [a, b] [] q2] X.env = (false, eval (.Call (.Name "zip" q1) [a, b] [] q2) X.env) :: starEach [] X.env := by rfl) :
    PE X (.Call (.Name "list" p) [.Call (.Name "zip" q1) [a, b] [] q2] [] pos) (tLstZip X.kw ta tb) := by
  constructor
  intro pins s σ H Q I h
  refine Call_ (ld_blt I hg hm boot_list ?_)
  refine PyProof.Rows.callWith_type1 (args_cons ?_ nz) rfl rfl
  refine Call_ (ld_blt I hg2 hm2 PyProof.Rows.boot_zip ?_)
  refine PyProof.Rows.callWith_type1 (args_cons (thn (ha.run pins s σ H _ I h) fun v s1 ⟨x, H1, I1, r1, q1⟩ => one_arg hb I1 q1 (fun u s2 y H2 I2 r2 q => ?_) nb) na) na hp
  obtain ⟨ρ, mh, pv, pw, sh, rv, rw, k⟩ := q
  unfold opLstZip at k
  split at k
  · rename_i vs us
    split at k
    · rename_i hsz
      cases rv with
      | @tup _ xs l1 h1 t1 =>
        cases rw with
        | @tup _ ys l2 h2 t2 =>
          cases (show v = Value.ref l1 from r1)
          cases (show u = Value.ref l2 from r2)
          obtain ⟨its, rv1, p1, _⟩ := I2.tuple h1
          obtain ⟨its2, rv2, p2, _⟩ := I2.tuple h2
          obtain ⟨o1, ho1, _⟩ := id p1
          obtain ⟨o2, ho2, _⟩ := id p2
          refine call_zipT (show s2.heap.IsTuple l1 its.toArray from p1) (show s2.heap.IsTuple l2 its2.toArray from p2) fun h' hz hTI hTO j1 j2 hs hk => ?_
          refine args_nil ?_
          have I3 : Inv X pins σ H2 { s2 with heap := h' } := I2.kept (t' := s2.toks) hk
          have lens : min xs.length ys.length = min vs.length us.length := by rw [t1.length, t2.length]
          have old : ∀ c ∈ [s2.heap.objs.size + 4, s2.heap.objs.size + 2, s2.heap.objs.size + 3, s2.heap.objs.size, s2.heap.objs.size + 1], s2.heap.objs.size ≤ c ∧ c < h'.objs.size := fun c hcm => by
            simp only [List.mem_cons, List.not_mem_nil, or_false] at hcm
            omega
          have hD : H2 h'.objs.size = none := I3.fresh
          refine call_list_zip (s := { s2 with heap := h' }) hc (PySem.W.ktu_apart s2.heap.objs.size l1 l2 (Heap.lt_size ho1) (Heap.lt_size ho2)) (fun c hcm => (old c hcm).2)
            (fun i H' => ∃ ρ' mh', Le X.kw ρ H2 ρ' H' ∧ SimH X.kw ρ' mh' H' ∧ mh' = mh ++ [.lst ((pairsOf vs us).take i)] ∧ ρ'[mh.length]? = some h'.objs.size ∧ i ≤ min vs.length us.length)
            ?_ ?_ (by rw [lens]; exact hsz) ?_ I3 (fun c hcm => I2.fpOk (old c hcm).1 (I2.hok.fresh (old c hcm).1)) ⟨hTI, j1, j2, ⟨_, _, hTO⟩, .inl hz⟩ hz ?_
          · rintro i H' ⟨ρ', mh', l, sh', e, hd, hi⟩
            obtain ⟨ws, w1, w2⟩ := sh'.ob mh.length (.lst ((pairsOf vs us).take i)) _ (by rw [e, List.getElem?_append_right (Nat.le_refl _), Nat.sub_self]; rfl) hd
            refine ⟨l.grow _ _ h1, l.grow _ _ h2, ws, w1, ?_⟩
            rw [← w2.length, List.length_take, pairsOf_len]
            omega
          · rintro i H' T x y acc ⟨ρ', mh', l, sh', e, hd, hi⟩ hx hy hT hacc
            obtain ⟨pv, e1, rx⟩ := t1.getW hx
            obtain ⟨pw, e2, ry⟩ := t2.getW hy
            obtain ⟨s4, l4⟩ := sh'.tuple (o := .tup [x, y]) hT
            have rt : RV X.kw ρ' (upd H' T (.tup [x, y])) (.tup [pv, pw]) (.ref T) := .tup (.inl (.inl upd_same)) (.cons (rx.mono (l.trans l4)) (.cons (ry.mono (l.trans l4)) .nil))
            have eput : putL mh.length (.tup [pv, pw]) mh' = some (mh'.set mh.length (.lst ((pairsOf vs us).take i ++ [.tup [pv, pw]]))) := by
              unfold putL
              rw [e, List.getElem?_append_right (Nat.le_refl _), Nat.sub_self]
              simp only [List.getElem?_cons_zero]
              have : ((pairsOf vs us).take i).length < sizeLine := by
                have h1 := (List.getElem?_eq_some_iff.mp e1).1
                have h2 := (List.getElem?_eq_some_iff.mp e2).1
                rw [List.length_take, pairsOf_len]
                omega
              rw [if_pos this]
            obtain ⟨acc', a1, a2, a3, a4⟩ := putL_below s4 hd rt eput
            have : acc' = acc := by
              have hne : h'.objs.size ≠ T := fun q => by
                rw [q] at hacc
                rw [hT] at hacc
                cases hacc
              rw [upd_ne hne, hacc] at a1
              cases a1
              rfl
            subst this
            refine ⟨ρ', _, (l.trans l4).trans a4, a3, ?_, hd, ?_⟩
            · rw [e, pairsOf_take vs us i pv pw e1 e2]
              simp
            · have h1 := (List.getElem?_eq_some_iff.mp e1).1
              have h2 := (List.getElem?_eq_some_iff.mp e2).1
              omega
          · rintro H' ⟨ρ', mh', l, sh', e, hd, hi⟩
            rw [lens, ← pairsOf_len, List.take_length] at e
            subst e
            exact k ρ' _ H' l sh' (.ref hd)
          · have l0 : Le X.kw ρ H2 (ρ ++ [h'.objs.size]) (upd H2 h'.objs.size (.lst [])) := .of_alloc hD
            obtain ⟨s5, l5, r5⟩ := sh.alloc (o := .lst []) (mo := .lst []) hD ⟨[], upd_same, .nil⟩
            cases r5 with
            | ref hd => exact ⟨_, _, l5, s5, by simp, hd, Nat.zero_le _⟩
    · exact k.elim
  · exact k.elim
def mLstZip (ma mb : PEnv → MH → R PV) : PEnv → MH → R PV := mBin opLstZip ma mb
theorem re_lstZip (hc : X.calm = true) (hg : Gl X "list") (hm : X.mg "list" = none) (hg2 : Gl X "zip") (hm2 : X.mg "zip" = none) (ha : RE X W a ma) (hb : RE X W b mb)
    (na : starEach [a, b] X.env = (false, eval a X.env) :: starEach [b] X.env := by rfl) (nb : starEach [b] X.env = (false, eval b X.env) :: starEach [] X.env := by rfl) (hp : (backTo q2 (starEach [b] X.env)).any (·.1) = false := by rfl)
    (nz : starEach [.Call (.Name "zip" q1) [a, b] [] q2] X.env = (false, eval (.Call (.Name "zip" q1) [a, b] [] q2) X.env) :: starEach [] X.env := by rfl) :
    RE X W (.Call (.Name "list" p) [.Call (.Name "zip" q1) [a, b] [] q2] [] pos) (mLstZip ma mb) :=
  (pe_lstZip hc hg hm hg2 hm2 ha hb na nb hp nz).imp fun σ H Q h => bin_imp (r := r2P X.kw opLstZip) q_lstZip (fun _ _ _ _ q => q) σ H Q h
end
end Ev
namespace Ev
open PySem PySem.Spec PySem.Calls PyProof.Rows L2
/-! ### the __init__ of the program's errors: super().__init__(value); self.value = value -/
/-- its positions -/
structure InPos where
  p0 : Pos
  p1 : Pos
  p2 : Pos
  p3 : Pos
  p4 : Pos
  p5 : Pos
  p6 : Pos
  p7 : Pos
  p8 : Pos
  p9 : Pos
def InPos.call (p : InPos) : Expr := .Call (.Attribute (.Call (.Name "super" p.p0) [] [] p.p1) "__init__" p.p2) [.Name "value" p.p3] [] p.p4
def InPos.body (p : InPos) : List Stmt := [.Expr p.call p.p5, .Assign [.Attribute (.Name "self" p.p6) "value" p.p7] (.Name "value" p.p8) p.p9]
/-- what the text says: proved by rfl -/
structure InTxt (p : InPos) (params : Arguments) (scope : Scope) : Prop where
  args : params.posonlyargs = [] ∧ params.args.map (·.arg) = [("self" : Str), "value"] ∧ params.vararg = none ∧ params.kwonlyargs = [] ∧ params.kwarg = none
  kind : scope.kind = .function
  co : scope.isCoroutine = false
  gen : scope.isGenerator = false
  cell : ∀ x ∈ scope.names, x.2 ≠ .cell
  self : scope.names.lookup ("self" : Str) = some .local
  value : scope.names.lookup ("value" : Str) = some .local
  sup : scope.names.lookup ("super" : Str) = some .globalImplicit
  cls : scope.names.lookup ("__class__" : Str) = some .free
  sw1 : ∀ env : PySem.Env, swapsWith p.call none p.p5.line env = pure false
  sw2 : ∀ env : PySem.Env, swapsWith (.Name "value" p.p8) (some (.Attribute (.Name "self" p.p6) "value" p.p7)) p.p9.line env = pure false
  form : ∀ env : PySem.Env, ∃ pl : Sem Bool, eval p.call env = (do
      let ov ← attributeBase (.Call (.Name "super" p.p0) [] [] p.p1) "__init__" env (eval (.Call (.Name "super" p.p0) [] [] p.p1) env)
      standAt p.p2.atName
      let (f, first) ← holding [ov] (getMethod ov "__init__" pl)
      callWith p.p4 f first (backTo p.p4 (starEach [.Name "value" p.p3] env)) [])
/-- what the written part says of TrackError, its __init__ -/
structure InFra (prog : Program) (K : PySem.W.Frag) (p : InPos) (params : Arguments) (scope : Scope) (D fI : Addr) : Prop where
  fn : ∃ (oc : Value) (od : Option Addr) (osl : Array (Option Value)) (dV kV doc pm : Value) (an : Option Addr) (cda : Addr) (ct : Value) (cc : Addr) (cl : Value) (cld : Option Addr) (csl : Array (Option Value)) (ccl : Value) (cdd : Option Addr) (vs : Array Value) (ccs : Array (Option Value)) (file : Str) (tf : Tok) (cdD : ClassData),
    K.lookup fI = some ⟨oc, od, .func (PySem.W.ksFn "__init__" "TrackError.__init__" params p.body scope dV kV doc pm an (.ref cda) ct cc), osl⟩ ∧ PySem.W.codeIn K (.ref cda) "TrackError.__init__" = true ∧ dV = .none ∧
    K.lookup cc = some ⟨cl, cld, .cell (some (.ref D)), csl⟩ ∧ K.lookup cda = some ⟨ccl, cdd, .fields vs, ccs⟩ ∧ vs[2]? = some (.str file tf) ∧ ((prog.main.file : Str) == file) = true ∧ PySem.W.clsIn K D = some cdD
  any : PySem.W.nsIn K cStatics "thirdparty.any" = some none
  ty : PySem.W.typeIn K (.ref fI) = some (.type "function")
  top : (prog.main.scope.names.lookup ("super" : Str)).isSome = false
/-- of an error class -/
structure ErrC (K : PySem.W.Frag) (D fI C : Addr) : Prop where
  oex : OexC K C
  init : PySem.W.findIn K (.ref C) "__init__" = some (some (.ref fI))
  up : PySem.W.mroIn K C (.ref D) = some true
  sup : PySem.W.ks_superIn K C D "__init__" = some (some (.builtin "ValueError.__init__"))
  ve : PySem.W.subIn K (.ref C) (.type "ValueError") = some true
  noat : PySem.W.findIn K (.ref C) "value" = some none
theorem bind_two {fd : FuncData} {a b : Value} (h : fd.params.posonlyargs = [] ∧ fd.params.args.map (·.arg) = [("self" : Str), "value"] ∧ fd.params.vararg = none ∧ fd.params.kwonlyargs = [] ∧ fd.params.kwarg = none) (hd : fd.defaults = .none) : bindArgs fd ⟨[a, b], []⟩ = pure [(("self" : Str), a), ("value", b)] :=
  bind_plain (ps := [("self" : Str), "value"]) ⟨h.1, h.2.1, h.2.2.1, h.2.2.2.1, h.2.2.2.2, by decide⟩ hd [a, b] rfl
theorem init_run {prog : Program} {w : World} {A : Around} {s : Shared} {K : PySem.W.Frag} {p : InPos} {params : Arguments} {scope : Scope} {D fI C e t0 : Addr} {u : Value} {mg mb : Str → Option Value}
    (Tx : InTxt p params scope) (Fr : InFra prog K p params scope D fI) (Er : ErrC K D fI C) (kin : K.In s.heap) (hns : s.heap.Ns mainGlobals mg) (hms : mg "super" = none) (hb : s.heap.Ns builtinsNs mb) (hbb : mb "super" = bootBuiltins "super") (hlim : s.heap.NoLimit)
    (he : s.heap.get? e = some (PySem.HandSPX.excO C t0)) (heK : K.lookup e = none) (hroom : A.depth < recursionLimit) :
    codeAny (model prog w) A (.call (.ref fI) ⟨[.ref e, u], []⟩) (fun r s' => r = .ok (.ret .none) ∧ s'.os = s.os ∧ s'.gens = s.gens ∧ ∃ t1 dx, (∀ b o, b ≠ e → s.heap.get? b = some o → s'.heap.get? b = some o) ∧ s.heap.objs.size ≤ dx ∧ dx ≠ e ∧
      s'.heap.get? e = some { cls := .ref C, dict := some dx, data := .fields #[.ref t1, .none, .none, .none, .bool false, .none] } ∧ s'.heap.Ns1 dx (fun y => if y = "value" then some u else none)) s := by
  obtain ⟨oc, od, osl, dV, kV, doc, pm, an, cda, ct, cc, cl, cld, csl, ccl, cdd, vs, ccs, file, tf, cdD, lk, hcd, hdV, hcell, hcode, hvs, hfile, hD⟩ := Fr.fn
  obtain ⟨nm, q, N, bs, bm, sn, sub, ab, col, dd, k0, k1, k2, k3, k5, hC, hbm⟩ := Er.oex.cls
  refine ks_codeAny_call_defAt (fd := PySem.W.ksFn "__init__" "TrackError.__init__" params p.body scope dV kV doc pm an (.ref cda) ct cc) (body := p.body) (binds := [(("self" : Str), .ref e), ("value", u)]) hroom (kin _ _ lk) rfl hlim (PySem.W.codeRec_of kin hcd) rfl
    (.of_eq (bind_two Tx.args hdV)) Tx.cell ?_ ?_ Tx.co Tx.gen Tx.kind
  · intro x hx
    rcases List.mem_cons.mp hx with rfl | hx
    · exact Tx.self
    · rw [List.mem_singleton] at hx
      subst hx
      exact Tx.value
  · intro h0 hn0 hk0
    generalize hen : callEnv (PySem.W.ksFn "__init__" "TrackError.__init__" params p.body scope dV kV doc pm an (.ref cda) ct cc) s.heap.objs.size fI = en
    have esc : en.scope = scope := by rw [← hen]; rfl
    have elo : en.locals = s.heap.objs.size := by rw [← hen]; rfl
    have egl : en.globals = mainGlobals := by rw [← hen]; rfl
    have ebl : en.builtins = builtinsNs := by rw [← hen]; rfl
    have ece : en.cells = [(("__class__" : Str), cc)] := by rw [← hen]; rfl
    have efu : en.func = some fI := by rw [← hen]; rfl
    have eco : en.code = .ref cda := by rw [← hen]; rfl
    have ekind : ∀ y : Str, en.kindOf y = scope.names.lookup y := fun y => by rw [← esc]; rfl
    have ekf : en.scope.kind = .function := by rw [esc]; exact Tx.kind
    obtain ⟨pl, hform⟩ := Tx.form en
    have kin0 : K.In h0 := fun b o z => hk0 b o (kin b o z)
    have he0 := hk0 _ _ he
    obtain ⟨oD, hD1, hD2⟩ : ∃ oD, h0.get? D = some oD ∧ oD.data = .cls cdD := by
      unfold PySem.W.clsIn at hD
      split at hD
      · rename_i c d cd' sl ho
        cases hD
        exact ⟨_, kin0 _ _ ho, rfl⟩
      · cases hD
    have eC : e ≠ C := fun z => by
      have := kin _ _ hC
      rw [← z, he] at this
      cases this
    refine ks_wpAt_execs_cons (ks_wpAt_Expr_any ?_ (by unfold interactive; rw [ekf]; rfl) (Tx.sw1 en))
    obtain ⟨ar, hp, har⟩ : ∃ ar : Arg, (params.posonlyargs ++ params.args).head? = some ar ∧ ar.arg = ("self" : Str) := by
      have h1 := Tx.args.1
      have h2 := Tx.args.2.1
      cases h3 : params.args with
      | nil =>
        rw [h3] at h2
        cases h2
      | cons a l =>
        rw [h3] at h2
        rw [h1]
        exact ⟨a, rfl, (List.cons.inj h2).1⟩
    refine ks_wpAt_MethodCall (pl := pl) (ks_wpAt_super_base (ar := ar) (f := fI) (cc := cda) ((ekind _).trans Tx.sup) ((ekind _).trans Tx.cls) rfl efu (kin0 _ _ lk) rfl hp eco (kin0 _ _ hcode) rfl hvs hfile Fr.top ?_) hform
    have hns0 : h0.Ns en.globals mg := by
      rw [egl]
      obtain ⟨o, es, ep, e1, e2⟩ := hns
      exact ⟨o, es, ep, hk0 _ _ e1, e2⟩
    have hb0 : h0.Ns en.builtins mb := by
      rw [ebl]
      obtain ⟨o, es, ep, e1, e2⟩ := hb
      exact ⟨o, es, ep, hk0 _ _ e1, e2⟩
    refine PySem.W.ks_loadName_global ekf ((ekind _).trans Tx.sup) (loadGlobal_builtin hns0 hms hb0 (hbb.trans (by decide +kernel)) ⟨rfl, ?_⟩)
    refine wpAny_loadName_free ekf ((ekind _).trans Tx.cls) (by rw [ece]; rfl) ⟨_, kin0 _ _ hcell, rfl⟩ ?_
    refine wpAny_loadName_local ekf (by rw [har]; exact (ekind _).trans Tx.self) (by rw [elo]; exact hn0) (by rw [har]; rfl) ?_
    refine ks_wpAny_isType_cls hD1 hD2 ⟨rfl, ?_⟩
    refine ks_wpAny_call_super hD1 hD2 he0 rfl (fun c z => by cases z) (PySem.W.looks_mroIn kin0 Er.up) (fun h1 hso hk1 => ?_)
    have kin1 : K.In h1 := fun b o z => hk1 b o (kin0 b o z)
    have he1 := hk1 _ _ he0
    have I1 : PySem.W.InstAt h1 e (PySem.HandSPX.excO C t0) C none := ⟨he1, rfl, rfl, trivial⟩
    have hcl : PySem.W.clsIn K C = some { name := nm, bases := bs, mro := .ref C :: bm, ns := N, qualname := q, hasDict := true, slotNames := sn, subclasses := sub, abstract := ab, collection := col, hasDel := false } := by unfold PySem.W.clsIn; rw [hC] <;> rfl
    have hal : PySem.W.alongIn K "__init__" (((Value.ref C :: bm).dropWhile (· != .ref D)).drop 1) = some (some (.builtin "ValueError.__init__")) := by
      have := Er.sup
      unfold PySem.W.ks_superIn at this
      rw [hcl] at this
      exact this
    refine PySem.W.kxs_getMethod PySem.W.kxs_ValueError hso (PySem.W.looks_opaque kin1 Fr.any) (l₀ := .ref C :: bm) ((PySem.W.looks_clsIn kin1 hcl).andThen .now) rfl kin1 hal (I1.type.andThen (PySem.W.looks_subIn kin1 Er.ve)) eC rfl ?_
    -- the argument
    have hLe : s.heap.objs.size ≠ e := fun z => absurd (Heap.lt_size he) (by rw [z]; exact Nat.lt_irrefl _)
    have hk2 : ∀ b o, h1.get? b = some o → (h1.push (PySem.W.kxs_mw "ValueError.__init__" e)).get? b = some o := fun b o z => Heap.get?_push_of_some _ z
    have hu2 : (h1.push (PySem.W.kxs_mw "ValueError.__init__" e)).get? h1.objs.size = some (PySem.W.kxs_mw "ValueError.__init__" e) := Heap.get?_push_at rfl rfl
    generalize h1.push (PySem.W.kxs_mw "ValueError.__init__" e) = h2 at hk2 hu2
    generalize h1.objs.size = mw at hu2
    have kin2 : K.In h2 := fun b o z => hk2 b o (kin1 b o z)
    have he2 := hk2 _ _ he1
    have hk02 : ∀ b o, h0.get? b = some o → h2.get? b = some o := fun b o z => hk2 b o (hk1 b o z)
    have hn2 : h2.Ns s.heap.objs.size (fun x => [(("self" : Str), Value.ref e), ("value", u)].reverse.lookup x) := by
      obtain ⟨o, es, ep, e1, e2⟩ := hn0
      exact ⟨o, es, ep, hk02 _ _ e1, e2⟩
    refine PySem.W.kxs_callWith (i := "ValueError.__init__") (x := e) rfl (evalArgs_plain ?_)
    refine Calls.spliced_cons ?_
    refine wpAny_Name (wpAny_loadName_local ekf ((ekind _).trans Tx.value) (by rw [elo]; exact hn2) rfl ?_) rfl
    refine Calls.spliced_nil ⟨hu2, ?_⟩
    -- ValueError.__init__
    refine wpAny_call (codeAny_of_tree ?_)
    show wpAny _ _ (callAny (.ref mw) ⟨[u], []⟩) _ _ _
    simp only [callAny]
    refine wpAny_bind (wpAny_load hu2 ?_)
    simp only [PySem.W.kxs_mw, show (Value.type "method-wrapper" == Value.type "method" || Value.type "method-wrapper" == Value.type "builtin_function_or_method" || Value.type "method-wrapper" == Value.type "method-wrapper") = true by decide, if_true]
    refine PySem.W.KFB.if_so (by decide) ?_
    refine wpAny_bind (PySem.W.check_bound_init F.excBase_ValueError.toExcCallFacts (kin2 _ _ hC) he2 rfl ?_)
    refine wpAny_bind (wpAny_pure (wpAny_pure ?_))
    refine ⟨PySem.plainId_quiet F.excBase_ValueError.init.plain _, codeAny_builtin F.excBase_ValueError.initEntry ?_⟩
    refine PySem.W.exc_init_tree (cls := .ref C) (t0 := t0) (dv := none) (c2 := .none) (c3 := .none) (b4 := .bool false) he2 (Nat.le_trans (show [u].length ≤ 1 from Nat.le_refl 1) (by decide)) fun h3 hk3 he3 _ => ?_
    -- self.value = value
    have hk23 : ∀ b o, b ≠ e → h0.get? b = some o → h3.get? b = some o := fun b o hb z => hk3 b o hb (hk02 b o z)
    have kin3 : K.In h3 := fun b o z => hk3 b o (fun z2 => by
      rw [z2, heK] at z
      cases z) (kin2 b o z)
    have hn3 : h3.Ns s.heap.objs.size (fun x => [(("self" : Str), Value.ref e), ("value", u)].reverse.lookup x) := by
      obtain ⟨o, es, ep, e1, e2⟩ := hn2
      exact ⟨o, es, ep, hk3 _ _ hLe e1, e2⟩
    refine ks_wpAt_execs_cons (ks_wpAt_Assign_Attr ?_ (Tx.sw2 en))
    refine wpAt_of_wpAny (wpAny_Name (wpAny_loadName_local ekf ((ekind _).trans Tx.value) (by rw [elo]; exact hn3) rfl ?_) rfl)
    refine wpAny_Name (wpAny_loadName_local ekf ((ekind _).trans Tx.self) (by rw [elo]; exact hn3) rfl ?_) rfl
    refine PySem.W.set_plain kin3 (ox := PySem.HandSPX.excO C h2.objs.size) (od := none) ⟨he3, rfl, rfl, trivial⟩ Er.oex.sa ?_
    refine PySem.HandSPX.exc_osa kin3 he3 hcl (show PySem.HandSPX.refsVE (.ref C :: bm) = true from hbm) rfl Er.noat (fun h4 tk4 dx hk4 hdx hdne he4 hn4 => ?_)
    refine wpAt_of_wpAny (wpAny_execs_nil ?_)
    have hsz : s.heap.objs.size ≤ dx := by
      have k03 : ∀ b o, b ≠ e → s.heap.get? b = some o → h3.get? b = some o := fun b o hb z => hk23 b o hb (hk0 b o z)
      refine Classical.byContradiction fun hlt => ?_
      have hlt2 : dx < s.heap.objs.size := Nat.lt_of_not_le hlt
      have h3s : s.heap.objs.size ≤ h3.objs.size := by
        obtain ⟨o, es, ep, e1, e2⟩ := hn3
        exact Nat.le_of_lt (Heap.lt_size e1)
      have hdx2 : h3.objs.size ≤ dx := hdx
      omega
    exact ⟨rfl, rfl, rfl, h2.objs.size, dx, fun b o hb z => hk4 b o hb (hk23 b o hb (hk0 b o z)), hsz, hdne, he4, hn4⟩
/-! ### C(e), C an error of the program -/
/-- the exception made, its value told -/
def tErr (C : Addr) (ta : TA) : L2.St → Hp → XK → Prop := fun σ H Q => ta σ H fun vs H1 => ∃ v, vs = [v] ∧ ∀ d, H1 d = none → Q (.ref C) (some d) (upd H1 d (.xd [("value", v)]))
theorem pmk_err {X : Cx} {x : Str} {e : Expr} {ta : TA} {p pos : Pos} {ip : InPos} {params : Arguments} {scope : Scope} {D fI C : Addr} {k : Nat} (Tx : InTxt ip params scope) (Fr : InFra X.prog X.K ip params scope D fI) (Er : ErrC X.K D fI C) (hms : X.mg "super" = none) (hr : Room (k + 1) X.A)
    (hg : Gl X x) (hm : X.mg x = some (.ref C)) (ha : PA X [e] ta) (hdb : (x == ("__debug__" : Str)) = false := by decide) (he : starEach [e] X.env = (false, eval e X.env) :: starEach [] X.env := by rfl) (hpl : (backTo pos (starEach [] X.env)).any (·.1) = false := by rfl) :
    PMk X (.Call (.Name x p) [e] [] pos) (tErr C ta) := by
  intro pins s σ H Q I h
  obtain ⟨nm, q, N, bs, bm, sn, sub, ab, col, dd, k0, k1, k2, k3, k5, hC, hbm⟩ := Er.oex.cls
  refine wpAny_Call_Name_kw (ld_glob I hg hm ?_ hdb)
  refine PySem.W.callWith_K (h₀ := X.base) I.ok.mod.kin Er.oex.kC (thn (ha.run pos pins s σ H _ I h) fun us s1 ⟨vs, H1, I1, r1, v, ev, q1⟩ => ⟨I1.kIn, ?_⟩) he hpl
  subst ev
  obtain ⟨u, rfl, ru⟩ := vals1 r1
  show wpAny _ _ (call (.ref C) [u]) _ _ _
  obtain ⟨hp, g, dr, tk, os⟩ := s1
  have hsz : hp.objs.size ≤ hp.objs.size + 1 := Nat.le_succ _
  have hn : H1 (hp.objs.size + 1) = none := I1.hok.fresh hsz
  have kk : ∀ b o, hp.get? b = some o → ((hp.push (PySem.W.kdv_tup [u])).push (PySem.HandSPX.excO C hp.objs.size)).get? b = some o := fun b o e => Heap.get?_push_of_some _ (Heap.get?_push_of_some _ e)
  have hget : ((hp.push (PySem.W.kdv_tup [u])).push (PySem.HandSPX.excO C hp.objs.size)).get? (hp.objs.size + 1) = some (PySem.HandSPX.excO C hp.objs.size) := by heap_get
  have hfree : X.K.lookup (hp.objs.size + 1) = none := by
    cases z : X.K.lookup (hp.objs.size + 1) with
    | none => rfl
    | some o =>
      have := Heap.lt_size (I1.kIn _ _ z)
      exact absurd this (by show ¬ hp.objs.size + 1 < hp.objs.size; omega)
  have hsize2 : hp.objs.size ≤ ((hp.push (PySem.W.kdv_tup [u])).push (PySem.HandSPX.excO C hp.objs.size)).objs.size := by
    rw [Heap.size_push, Heap.size_push]
    omega
  generalize hh2 : (hp.push (PySem.W.kdv_tup [u])).push (PySem.HandSPX.excO C hp.objs.size) = hp2 at kk hget hsize2
  have kin2 : X.K.In hp2 := fun b o z => kk b o (I1.kIn b o z)
  have hr2 := hr.make C [u] []
  have nsg : hp2.Ns mainGlobals X.mg := by
    obtain ⟨o, es, ep, e1, e2⟩ := I1.ok.mod.glob.keeps I1.bk
    exact ⟨o, es, ep, kk _ _ e1, e2⟩
  obtain ⟨mb, nb, hmb⟩ := I1.ok.mod.blt
  have nsb : hp2.Ns builtinsNs mb := by
    obtain ⟨o, es, ep, e1, e2⟩ := nb.keeps I1.bk
    exact ⟨o, es, ep, kk _ _ e1, e2⟩
  have nol : hp2.NoLimit := I1.nolimit.keeps kk
  refine wpAny_call (PySem.HandSPX.call_own F.excBase_ValueError (fun Y => PySem.HandSPX.refsVE_contains Y bm hbm) (I1.kIn _ _ hC) (PySem.W.looks_findIn I1.kIn Er.init) (fun self => PySem.W.bind_fn I1.kIn self Fr.ty) (Nat.le_trans (show [u].length ≤ 1 from Nat.le_refl 1) (by decide))
    (codeAny_mono (by
      rw [hh2]
      exact init_run Tx Fr Er kin2 nsg hms nsb (hmb _ (by decide)) nol hget hfree hr2.depth) fun r s' hq' => ?_))
  obtain ⟨rfl, eos, egn, t1, dx, hk, hdx, hdne, hex, hnd⟩ := hq'
  obtain ⟨h2, g2, d2, t2, os2⟩ := s'
  have ea1 : upd H1 (hp.objs.size + 1) (exo (hp.objs.size + 1) C none) (hp.objs.size + 1) = some (exo (hp.objs.size + 1) C none) := upd_same
  generalize hE : hp.objs.size + 1 = E at *
  have hdn : H1 dx = none := I1.hok.fresh (Nat.le_trans hsize2 hdx)
  have nd : ∀ {b : Addr} {o : Obj}, hp2.get? b = some o → b ≠ dx := fun {b o} q => Nat.ne_of_lt (Nat.lt_of_lt_of_le (Heap.lt_size q) hdx)
  have nE : ∀ {b : Addr} {o : HO}, H1 b = some o → b ≠ E := fun {b o} z z2 => by
    rw [z2, hn] at z
    cases z
  have nD : ∀ {b : Addr} {o : HO}, H1 b = some o → b ≠ dx := fun {b o} z z2 => by
    rw [z2, hdn] at z
    cases z
  -- tracked ones stay
  have st : ∀ {b : Addr} {o : HO}, H1 b = some o → upd (upd (upd H1 E (exo E C none)) dx (exd dx [("value", v)])) E (exo E C (some dx)) b = some o := fun {b o} z => by
    rw [upd_ne (nE z), upd_ne (nD z), upd_ne (nE z)]
    exact z
  have back : ∀ {b : Addr} {o : HO}, upd H1 E (exo E C none) b = some o → b ≠ E → H1 b = some o := fun {b o} z hb => by
    rw [upd_ne hb] at z
    exact z
  have un : Un (frs X.stack) [] (upd H1 E (exo E C none)) (upd (upd (upd H1 E (exo E C none)) dx (exd dx [("value", v)])) E (exo E C (some dx))) hp2 h2 := by
    refine ⟨fun b o z n _ _ => ?_, fun b o z n _ _ => ?_, fun b o z n _ => ?_, fun b o z _ => ?_, fun b xs z => ?_, fun b o xs z => ?_, fun b ps z => ?_⟩
    · exact hk b o (fun z2 => by rw [z2, upd_same] at n; cases n) z
    · exact ⟨o.slots, hk b o (fun z2 => by rw [z2, upd_same] at n; cases n) z⟩
    · have hb : b ≠ E := fun z2 => by rw [z2, upd_same] at n; cases n
      rw [upd_ne hb, upd_ne (nd z)]
      exact n
    · by_cases hb : b = E
      · exact ⟨_, by rw [hb]; exact hex⟩
      · exact ⟨o, hk b o hb z⟩
    · have hb : b ≠ E := fun z2 => by
        rw [z2, upd_same] at z
        exact exo_tup (Option.some.inj z)
      exact st (back z hb)
    · have hb : b ≠ E := fun z2 => by
        rw [z2, upd_same] at z
        exact exo_frz (Option.some.inj z)
      exact st (back z hb)
    · have hb : b ≠ E := fun z2 => by
        rw [z2, upd_same] at z
        exact exo_tbl (Option.some.inj z)
      exact ⟨#[], by rw [st (back z hb)]; simp⟩
  have rel : ∀ f, RelO (([("value", v)] : List (Str × V)).lookup f) (if f = "value" then some u else none) := fun f => relO_put (fs := []) (mA := fun _ => none) ru (fun g => True.intro) f
  have hok : HOk X.prog X.w (upd (upd (upd H1 E (exo E C none)) dx (exd dx [("value", v)])) E (exo E C (some dx))) h2 := fun b o z => by
    by_cases hb : b = E
    · subst hb
      rw [upd_same] at z
      cases z
      exact exo_ok hex
    · rw [upd_ne hb] at z
      by_cases hd : b = dx
      · subst hd
        rw [upd_same] at z
        cases z
        exact exd_ok hnd rel
      · rw [upd_ne hd, upd_ne hb] at z
        refine (I1.hok b o z).stay (fun c y hc z2 => ?_) (fun c hc => st hc) fun c xs hc => st hc
        refine hk c y ?_ (kk c y z2)
        rcases hc with hc | hc
        · rw [hc]
          exact hb
        · exact nE hc
  refine ⟨rfl, mk_end (raises_own Er.oex.exC Er.oex.tyC) I1 hsz kk un hok eos (by rw [show g2 = g from egn]; exact I1.bare) upd_same (by rw [upd_ne hdne, upd_same]) hdn ?_⟩
  have fin : upd (del (upd (upd (upd H1 E (exo E C none)) dx (exd dx [("value", v)])) E (exo E C (some dx))) E) dx (.xd [("value", v)]) = upd H1 dx (.xd [("value", v)]) := by
    funext b
    by_cases hb : b = dx
    · rw [hb, upd_same, upd_same]
    · rw [upd_ne hb, upd_ne hb]
      by_cases he : b = E
      · rw [he, del_same, hn]
      · rw [del_ne he, upd_ne he, upd_ne hb, upd_ne he]
  rw [fin]
  exact q1 dx hdn
/-! ### raise C(e) -/
def sRaise (c : Str) (m : PEnv → MH → R PV) : PEnv → MH → RS := fun env mh => (m env mh).bindS env fun v mh1 => .exc c v env mh1
theorem rs_raise {X : Cx} {W : WX} {x : Str} {e : Expr} {ma : PEnv → MH → R PV} {p pos pos' : Pos} {ip : InPos} {params : Arguments} {scope : Scope} {D fI : Addr} {k : Nat} (hc : X.calm = true) (tk : Takes X W) (Tx : InTxt ip params scope) (Fr : InFra X.prog X.K ip params scope D fI) (Er : ErrC X.K D fI (He.ga X.K x)) (hms : X.mg "super" = none) (hr : Room (k + 1) X.A)
    (hm : X.mg x = some (.ref (He.ga X.K x))) (ha : RE X W e ma) (hg : Gl X x := by rfl) (hdb : (x == ("__debug__" : Str)) = false := by decide) (he : starEach [e] X.env = (false, eval e X.env) :: starEach [] X.env := by rfl) (hpl : (backTo pos (starEach [] X.env)).any (·.1) = false := by rfl) :
    RSt X W (.Raise (some (.Call (.Name x p) [e] [] pos)) none pos') (sRaise x ma) :=
  (ps_raise hc tk (pmk_err Tx Fr Er hms hr hg hm (pa_cons ha pa_nil he) hdb he hpl)).imp fun D' σ H h => by
    obtain ⟨ρ, env, mh, sh, se, p⟩ := h
    refine ⟨ρ, env, mh, sh, se, Post.bindS se p fun v mh1 ρ1 y H1 _ l1 sh1 rv p1 => ?_⟩
    refine ⟨y, rfl, fun d hd => ?_⟩
    obtain ⟨s2, l2⟩ := sh1.tuple (o := .xd [("value", y)]) hd
    exact p1 ρ1 y d σ _ l2 s2 ((se.mono l1).mono l2) (rv.mono l2) upd_same
end Ev
namespace Ev
open PySem PySem.Spec PySem.Calls PyProof.Rows L2
/-! ### a caught exception that is kept as a value -/
theorem exV_ok {P : Program} {w : World} {G : Hp} {h : Heap} {a dd : Addr} {cls : Value} {oe : Obj} {vs : Array Value} (e : h.get? a = some oe) (z : Zc cls (some dd) oe) (d : oe.data = .fields vs) : ObjOk P w G h a (ExV cls dd a) :=
  ⟨⟨oe, vs, e, z, d⟩, ⟨oe, e⟩, fun _ _ ⟨o, v, q, r⟩ k => ⟨o, v, k o q, r⟩⟩
/-- an exception that was new behind the entry is tracked from now on -/
theorem adopt {X : Cx} {pins : List (Addr × Obj)} {σ : L2.St} {H : Hp} {s : Shared} {a dd : Addr} {cls : Value} {oe : Obj} {vs : Array Value} (I : Inv X pins σ H s) (na : H a = none) (he : s.heap.get? a = some oe) (hz : Zc cls (some dd) oe) (hd : oe.data = .fields vs)
    (n0 : ∀ b o, X.s_0.heap.get? b = some o → b ∉ X.ex → b ≠ a) (nL : a ≠ X.env.locals) (nC : ∀ y c, X.env.cells.lookup y = some c → c ≠ a) (nP : ∀ p ∈ X.pn ++ pins, p.1 ≠ a) : Inv X pins σ (upd H a (ExV cls dd a)) s := by
  have old : ∀ {b : Addr} {o : HO}, H b = some o → upd H a (ExV cls dd a) b = some o := fun {b o} z => by rw [upd_ne (ne_of_none z na)]; exact z
  refine ⟨I.ok, I.os, I.bare, ⟨I.base.keep, I.base.slot, fun b o e n hx => ?_, I.base.there, fun b xs z => old (I.base.tups b xs z), fun b o u z => old (I.base.frzs b o u z), fun b ps z => ?_⟩, I.loc, I.cell, ?_, fun y c hc => ?_, fun p hp => ?_, fun b o z => ?_, I.len⟩
  · rw [upd_ne (n0 b o e hx)]
    exact I.base.free b o e n hx
  · obtain ⟨more, q⟩ := I.base.tbls b ps z
    exact ⟨more, old q⟩
  · rw [upd_ne nL.symm]
    exact I.free
  · rw [upd_ne (nC y c hc)]
    exact I.freeC y c hc
  · obtain ⟨q1, q2, q3⟩ := I.pin p hp
    exact ⟨q1, by rw [upd_ne (nP p hp)]; exact q2, q3⟩
  · by_cases hb : b = a
    · subst hb
      rw [upd_same] at z
      cases z
      exact exV_ok he hz hd
    · rw [upd_ne hb] at z
      exact (I.hok b o z).stay (fun _ _ _ q => q) (fun _ q => old q) fun _ _ q => old q
/-- what 'except x as n' wishes: the exception stays known behind it -/
def wHeld (K : PySem.W.Frag) (c : Value) (i : Nat) (ts : Addr → Value → Option Addr → TS) (Wout : WX) (D : Ends) : WX := fun cls d σ H =>
  ∃ b, PySem.W.exmOne K cls c = some b ∧ (b = true → ∃ dd, d = some dd ∧ ∀ a, H a = none → ts a cls d { nx := fun σ' H' => D.nx (σ'.set i none) (upd H' a (ExV cls dd a)), rt := fun v H' => D.rt v (upd H' a (ExV cls dd a)), bk := fun _ _ => False, ct := fun _ _ => False } (σ.set i (some (.ref a))) H) ∧
    (b = false → Wout cls d σ H)
section
variable {X : Cx} {x n : Str} {c : Value} {i : Nat} {body suite : List Stmt} {b0 : Stmt} {np pos pos' : Pos} {tb : WX → TS} {ts : Addr → Value → Option Addr → TS} {Wout : WX}
theorem ps_try_held (st : X.stack = X.env :: X.outer) (fr : X.env.frame = some X.env.locals) (nd : X.N.Nodup) (at_i : X.N[i]? = some n) (lcl : X.env.kindOf n = some .local) (nm : Names X x c) (tk : Takes X Wout)
    (hbody : ∀ (W : WX) (pn : List (Addr × Obj)) (xe : Value → Shared → Prop), Takes (X.tr pn xe) W → PassesOwn (model X.prog X.w) X.A X.env xe → PSs (X.tr pn xe) body (tb W))
    (hsuite : ∀ (a : Addr) (oe : Obj) (cls : Value) (d : Option Addr) (pn : List (Addr × Obj)), Zc cls d oe → (∃ vs, oe.data = .fields vs) → PSs (X.suite a ((a, oe) :: pn)) (b0 :: suite) (ts a cls d)) :
    PS X (.Try body [.ExceptHandler (some (.Name x np)) (some n) (b0 :: suite) pos'] [] [] pos) (fun D σ H => tb (wHeld X.K c i ts Wout D) D σ H) := by
  constructor
  intro pins s σ H D I wish
  have okX := I.ok
  have frs' : X.A.frames = some (X.env :: X.outer) := by
    rw [← st]
    exact okX.frames
  apply wpAny_Try_except
  have caught : ∀ u s', XE (X.tr (X.pn ++ pins) (fun e s₁ => wpAny (model X.prog X.w) X.A (noteFrame e X.env) (fun _ s₂ => wpAny (model X.prog X.w) X.A (setFlight e none) (fun _ s₃ =>
      wpAny (model X.prog X.w) X.A (handleBy e X.env [.ExceptHandler (some (.Name x np)) (some n) (b0 :: suite) pos']) (SP X pins D) X.xe s₃) X.xe s₂) X.xe s₁)) (wHeld X.K c i ts Wout D) u s' →
      wpAny (model X.prog X.w) X.A (noteFrame u X.env) (fun _ s₂ => wpAny (model X.prog X.w) X.A (setFlight u none) (fun _ s₃ =>
      wpAny (model X.prog X.w) X.A (handleBy u X.env [.ExceptHandler (some (.Name x np)) (some n) (b0 :: suite) pos']) (SP X pins D) X.xe s₃) X.xe s₂) X.xe s' := by
    rintro u s' ⟨a, B, sI, pins1, σ1, H1, cls, d, rfl, J1, inB, upS, sk, aH, eos, bareS, b, isb, yes, no⟩
    have J : Inv X pins σ1 H1 sI := J1.ofTry okX
    have sk2 : Sky B (X.env :: X.outer) a (Zc cls d) X.env.locals s'.heap := by
      rw [← st]
      exact sk
    have noB : B.get? a = none := by
      rcases sk2 with ⟨_, z, _⟩ | ⟨_, z, _⟩ | ⟨_, z, _⟩ <;> exact z
    refine Sky.land Zc.steady frs' fr sk2 fun hA flA upA => ?_
    have JA : Inv X pins σ1 H1 { s' with heap := hA } := J.landed inB flA.1 (upS.trans upA) eos bareS
    obtain ⟨oA, vA, eA, zA, dA⟩ := flA.there
    have off : a ∉ frs (X.env :: X.outer) := fun hm => by
      obtain ⟨_, o', e', nf⟩ := flA.2.2.1.mem hm
      rw [eA] at e'
      cases e'
      exact nf _ dA
    have offS : a ∉ frs X.stack := by
      rw [st]
      exact off
    have noI : sI.heap.get? a = none := by
      cases q : sI.heap.get? a with
      | none => rfl
      | some o =>
        have := inB a o q offS
        rw [noB] at this
        cases this
    have offL : a ≠ X.env.locals := fun z => off (List.mem_filterMap.mpr ⟨X.env, List.mem_cons_self, by rw [fr, z]⟩)
    have offF : a ∉ X.fs := fun hm => by
      obtain ⟨e, h1, h2⟩ := List.mem_filterMap.mp hm
      exact off (List.mem_filterMap.mpr ⟨e, List.mem_cons_of_mem _ h1, h2⟩)
    have new0 : ∀ b o, X.s_0.heap.get? b = some o → b ∉ X.ex → b ≠ a := fun b o e hx z => by
      obtain ⟨o', q⟩ := J.base.there b o e hx
      rw [z, noI] at q
      cases q
    have newC : ∀ y k, X.env.cells.lookup y = some k → k ≠ a := fun y k hk z => by
      obtain ⟨v, o, q, _⟩ := J.cell y k hk
      rw [z, noI] at q
      cases q
    have newP : ∀ p ∈ X.pn ++ pins, p.1 ≠ a := fun p hp z => by
      have q := (J.pin p hp).1
      rw [z, noI] at q
      cases q
    have SA := JA.suite eA dA aH offL offF
    refine wpAny_handleBy_cons (codeAny_handlers_test ?_) (by intro q; cases q)
    have isT : PySem.W.Looks (model X.prog X.w) hA (typeOf (.ref a)) cls := fun A Q E s k q => wpAny_typeOf_ref (k _ _ eA) (by rw [zA.1]; exact q)
    have isM := PySem.W.exm_one (M := model X.prog X.w) JA.kIn isT isb
    have named : ∀ {Q : Value → Shared → Prop} {E : Value → Shared → Prop}, Q c { s' with heap := hA } → wpAny (model X.prog X.w) (X.A.mark (some (.ref a))) (eval (.Name x np) X.env) Q E { s' with heap := hA } := by
      intro Q E q
      obtain ⟨g1, g2, g3 | ⟨g3, g4, g5⟩⟩ := nm
      · exact ld_glob (X := X.suite a ((a, oA) :: (X.pn ++ pins))) SA g1 g3 q g2
      · exact ld_blt (X := X.suite a ((a, oA) :: (X.pn ++ pins))) SA g1 g3 g4 q g5 g2
    refine named (isM.here ?_)
    cases b with
    | false =>
      show wpAny _ X.A (handleBy (.ref a) X.env []) _ _ _
      refine wpAny_handleBy_nil ?_
      obtain ⟨k1, k2, k3, oe, vs, T, oT, tsv, q1, q2, q3, q4, q5⟩ := id flA
      unfold PySem.passOn
      refine wpAny_bind (wpAny_field q1 q3 q4 ?_)
      rw [if_neg (show ¬ ((Value.ref T == Value.none) = true) from by simp)]
      have out : wpAny (model X.prog X.w) X.A (setFlight (.ref a) X.env.frame) (fun _ s4 => wpAny (model X.prog X.w) X.A (throw (.ref a) : Sem Flow) (SP X pins D) X.xe s4) X.xe { s' with heap := hA } := by
        rw [fr]
        refine HandSPX.setFlight_upZ flA fun hB hhB upB => wpAny_throw (tk _ _ ?_)
        exact ⟨a, B, sI, pins, σ1, H1, cls, d, rfl, J, inB, (upS.trans upA).trans upB, .inr (.inr (by rw [st]; exact hhB)), aH, eos, bareS, no rfl⟩
      first
        | exact wpAny_bind (wpAny_pure (wpAny_bind out))
        | exact wpAny_bind out
    | true =>
      obtain ⟨dd, rfl, wis⟩ := yes rfl
      refine codeAny_handlers_suite_as ?_
      refine HandSPX.lands_againZ flA fun hB flB upB => ?_
      have JB : Inv X pins σ1 H1 { s' with heap := hB } := J.landed inB flB.1 ((upS.trans upA).trans upB) eos bareS
      obtain ⟨oB, vB, eB, zB, dB⟩ := flB.there
      have SB := JB.suite eB dB aH offL offF
      refine store_ok (X := X.suite a ((a, oB) :: (X.pn ++ pins))) (v := .ref a) SB nd at_i (.inl lcl) rfl (fun sC SC => ?_) (.inr lcl)
      refine wpAny_mono ((hsuite a oB cls (some dd) (X.pn ++ pins) zB ⟨_, dB⟩).run [] sC _ H1 _ SC (wis a aH)) (fun f sD end_ => ?_) (fun _ _ z => False.elim z)
      have fin : ∀ {σ2 : L2.St} {H2 : Hp} {Q : Shared → Prop}, Inv (X.suite a ((a, oB) :: (X.pn ++ pins))) [] σ2 H2 sD → (∀ s7, Inv X pins (σ2.set i none) (upd H2 a (ExV cls dd a)) s7 → Q s7) →
          wpAny (model X.prog X.w) X.A (do bindName X.env n .none; unbindBehindTheSuite X.env n pos') (fun _ s7 => Q s7) X.xe sD := by
        intro σ2 H2 Q S2 hq
        have pin := S2.pin (a, oB) (List.mem_append_left _ List.mem_cons_self)
        exact gone_ok (adopt (S2.unsuite okX) pin.2.1 pin.1 zB dB new0 offL newC newP) nd at_i lcl hq
      cases f with
      | next =>
        obtain ⟨σ2, H2, S2, q2⟩ := end_
        exact fin S2 fun s7 J7 => ⟨_, _, J7, q2⟩
      | brk =>
        obtain ⟨σ2, H2, S2, q2⟩ := end_
        exact q2.elim
      | cont =>
        obtain ⟨σ2, H2, S2, q2⟩ := end_
        exact q2.elim
      | ret u =>
        obtain ⟨v2, σ2, H2, S2, r2, q2⟩ := end_
        exact fin S2 fun s7 J7 => ⟨_, _, _, J7, r2, q2⟩
  refine wpAny_mono ((hbody (wHeld X.K c i ts Wout D) (X.pn ++ pins) _ caught PassesOwn.looking).run [] s σ H D (I.toTry _) wish) (fun f s1 end_ => ?_) (fun e s1 z => z)
  cases f with
  | next =>
    obtain ⟨σ2, H2, J2, q⟩ := end_
    exact wpAny_execs_nil ⟨σ2, H2, J2.ofTry okX, q⟩
  | brk =>
    obtain ⟨σ2, H2, J2, q⟩ := end_
    exact ⟨σ2, H2, J2.ofTry okX, q⟩
  | cont =>
    obtain ⟨σ2, H2, J2, q⟩ := end_
    exact ⟨σ2, H2, J2.ofTry okX, q⟩
  | ret u =>
    obtain ⟨v, σ2, H2, J2, r, q⟩ := end_
    exact ⟨v, σ2, H2, J2.ofTry okX, r, q⟩
end
end Ev
namespace Ev
open PySem PySem.Spec PySem.Calls PyProof.Rows L2
/-! ### a lambda without parameters, handed to a def that calls it once -/
theorem Le.of_ext {K : KW} {ρ : List Addr} {H H1 : Hp} (e : LamX.ExtN H H1) : Le K ρ H ρ H1 := by
  refine ⟨fun _ _ h => h, fun a ws h => ?_, fun a x h _ n => e a x h n, fun _ h n => absurd h n⟩
  rcases h with (h | ⟨ob, h⟩) | h
  · exact .inl (.inl (e a _ h fun _ z => by cases z))
  · exact .inl (.inr ⟨ob, e a _ h fun _ z => by cases z⟩)
  · exact .inr h
theorem SimH.of_ext {K : KW} {ρ : List Addr} {mh : MH} {H H1 : Hp} (s : SimH K ρ mh H) (e : LamX.ExtN H H1) (t : LamX.Tabs (lamT K.k) H1) : SimH K ρ mh H1 :=
  (s.beside (ρ1 := []) (ρ2 := []) (Le.of_ext e) (fun _ h => by cases h) t).1
abbrev gCx (X : Cx) (Ng : List Str) (x : Str) (sg : Scope) (g : Addr) (cdg : Value) (s : Shared) (H : Hp) : Cx := cxOf C8.CX0 X.prog X.w X.K X.mg X.base Ng x sg g cdg X.A X.stack s H C8.E0
/-- the call a() in the def's context -/
def ActR (Z : Cx) (a : Str) (f c' : Addr) (q : Str) (tl : XK → Hp → VK → Prop) : Prop :=
  ∀ (W : WX) (pn : List (Addr × Obj)) (xe : Value → Shared → Prop) (p1 p2 : Pos), Takes (Z.tr pn xe) W → PE (Z.tr pn xe) (.Call (.Name a p1) [] [] p2) (fun σZ HZ Q => σZ[0]? = some (some (.ref f)) ∧ HZ c' = some (LamX.CodeO c' q) ∧ ∃ (E : XK) (Qv : VK), (∀ cls d H', E cls d H' → W cls d σZ H') ∧ (∀ v H', Qv v H' → Q v H') ∧ tl E HZ Qv)
/-- what the def's body makes of it -/
def Gives (X : Cx) (Ng : List Str) (x : Str) (sg : Scope) (g : Addr) (cdg : Value) (bg : List Stmt) (a q : Str) (TT : (XK → Hp → VK → Prop) → Hp → VK → Prop) : Prop :=
  ∀ (f c' : Addr) (s : Shared) (H : Hp) (Q : VK) (tl : XK → Hp → VK → Prop), ActR (gCx X Ng x sg g cdg s H) a f c' q tl → H c' = some (LamX.CodeO c' q) → TT tl H Q →
    ∃ t, PSs (gCx X Ng x sg g cdg s H) bg t ∧ t { nx := fun _ H' => Q .non H', rt := Q } (L2.start Ng [.ref f]) H
section
variable {X : Cx} {pins : List (Addr × Obj)} {σ : L2.St} {H : Hp} {s : Shared}
theorem act_ok {Ng : List Str} {qg : Str} {sg : Scope} {g f c' : Addr} {cdg pm ctv : Value} {params : Arguments} {body : Expr} {scope : Scope} {k : Nat} {a : Str} {t : XK → TE}
    (I : Inv X pins σ H s) (L : LamX.LamS X.env.scope scope) (hf : s.heap.get? f = some (PySem.W.kla_obj "<lambda>" (X.env.qual ++ "<lambda>") params body scope (cloFrom X.env.cells scope.names []) pm c' ctv)) (fnew : H f = none) (foff : f ∉ frs X.stack)
    (hbind : bindArgs (PySem.W.kla_fn "<lambda>" (X.env.qual ++ "<lambda>") params body scope (cloFrom X.env.cells scope.names []) pm (.ref c') ctv) ⟨[], []⟩ = pure [])
    (hr : Room (k + 1) (X.A.deeper (envOfC qg sg s.heap.objs.size g cdg))) (gu : X.A.guards = some [])
    (hbody : ∀ (A : Around) (outer : List PySem.Env) (s : Shared) (H : Hp) (E : XK), Room k (A.deeper (LamX.lamEnv X scope s.heap.objs.size f c')) → A.guards = some [] → PE (LamX.lamCx X A outer s H E scope f c') body (t E))
    (at0 : Ng[0]? = some a) (vis : Vis sg a) (hd : (a == ("__debug__" : Str)) = false) (hcd : (a == ("__classdict__" : Str)) = false) :
    ActR (gCx X Ng qg sg g cdg s H) a f c' (X.env.qual ++ "<lambda>") (fun E H' Q' => t E σ H' Q') := by
  intro W pn xe p1 p2 tk
  constructor
  intro pinsZ sZ σZ HZ Q IZ wish
  obtain ⟨w1, w2, E, Qv, hE, hQ, w3⟩ := wish
  refine wpAny_Call_Name_kw (thn ((pe_var (pos := p1) (i := 0) at0 vis hd hcd).run pinsZ sZ σZ HZ (fun v H1 => v = .ref f ∧ H1 = HZ) IZ ⟨.ref f, w1, rfl, rfl⟩) fun u s1 ⟨v, H1, I1, rel, ev⟩ => ?_)
  obtain ⟨rfl, rfl⟩ := ev
  obtain rfl : u = Value.ref f := rel
  have fs : s1.heap.get? f = some (PySem.W.kla_obj "<lambda>" (X.env.qual ++ "<lambda>") params body scope (cloFrom X.env.cells scope.names []) pm c' ctv) := I1.base.keep f _ hf fnew foff (fun z => nomatch (show f ∈ ([] : List Addr) from z))
  refine PySem.W.callWith_F0 ⟨_, _, _, _, fs⟩ ?_
  have grown : Un (frs X.stack) [] H H1 s.heap s1.heap := I1.base
  obtain ⟨⟨oc, vs, tq, oc1, oc2, oc3⟩, _, _⟩ := I1.hok c' _ w2
  have run : codeAny (model X.prog X.w) (X.A.deeper (envOfC qg sg s.heap.objs.size g cdg)) (.call (.ref f) ⟨[], []⟩) (CR (L2.CX X.prog X.w) (envOfC qg sg s.heap.objs.size g cdg :: X.stack) X.prog X.w H1 s1 Qv E) s1 := by
    refine PySem.W.kla_callFunE hr.depth fs rfl L.co L.gen rfl ⟨c', oc, vs, tq, rfl, oc1, oc2, oc3⟩ ?_
    rw [hbind]
    refine wpAny_pure (wpAny_newFunctionEnv (fun y hy => (L.own y hy).2) (fun y hy => absurd hy (by simp)) (fun h1 nsl small => ⟨I1.nolimit.fresh _ small, ?_⟩) L.kind)
    show codeAny _ _ (.expr body (LamX.lamEnv X scope s1.heap.objs.size f c')) _ _
    have up : ∀ b o, s1.heap.get? b = some o → h1.get? b = some o := fun b o e => small.extBut b o (Nat.ne_of_lt (Heap.lt_size e)) (Heap.get?_push_of_some _ e)
    have J := LamX.lam_start2 (E := E) (f := f) (c' := c') (tk := s1.toks + ([] : List (Str × Value)).length) I L I1.env0 hr.hd grown nsl up
    refine PySem.W.kla_codeExpr (wpAny_mono ((hbody _ _ s1 H1 _ (hr.deeper _) gu).run [] _ _ H1 Qv J w3) (fun v s' hq => ?_) fun e s' hq => hq)
    obtain ⟨v2, H2, J2, rv, q⟩ := hq
    exact ⟨v2, H2, J2.os, J2.bare, J2.base, J2.hok, rv, q⟩
  refine wpAny_call (codeAny_mono run fun r s' hq => ?_)
  match r, hq with
  | .error e, hq => exact tk e s' (XE.of_call I1 (fun cls d H' z => hE cls d H' z) hq)
  | .ok (.ret u), hq =>
    obtain ⟨v, H2, q1, q2, q3, q4, q5, q6⟩ := hq
    exact I1.after ⟨v, H2, q1, q2, q3, q4, q5, hQ v H2 q6⟩
  | .ok .next, hq => exact False.elim hq
  | .ok .brk, hq => exact False.elim hq
  | .ok .cont, hq => exact False.elim hq
end
/-- where a def makes lambdas: its code object, its table -/
structure LamHost (X : Cx) (c P : Addr) : Prop where
  tb : LamX.TabB X.base X.mg c P
  code : X.env.code = .ref c
  mem : (P, X.env.qual ++ "<lambda>") ∈ lamT X.K
  one : ∀ p ∈ lamT X.K, p.1 = P → p.2 = X.env.qual ++ "<lambda>"
/-- what is wished of an exception: caught, it goes into the pair -/
def wishA (K : PySem.W.Frag) (CS : Addr) (Q : VK) : XK := fun cls d H' =>
  ∃ b, PySem.W.exmOne K cls (.ref CS) = some b ∧ (b = true → ∃ dd, d = some dd ∧ ∀ a, H' a = none → ∀ p, upd H' a (ExV cls dd a) p = none → Q (.ref p) (upd (upd H' a (ExV cls dd a)) p (.tup [.ref a, .non]))) ∧ (b = false → False)
/-- a = b = None; try: b = look() / except T as e: a = e; return a, b -/
def TTA (K : PySem.W.Frag) (CS : Addr) : (XK → Hp → VK → Prop) → Hp → VK → Prop := fun tl H Q => ∀ p0, H p0 = none → tl (wishA K CS Q) (upd H p0 (.tup [.non, .non])) fun v H' => ∀ p, H' p = none → Q (.ref p) (upd H' p (.tup [.non, v]))
def wishB (K : PySem.W.Frag) (CS : Addr) (Q : VK) : XK := fun cls d H' =>
  ∃ b, PySem.W.exmOne K cls (.ref CS) = some b ∧ (b = true → ∃ dd, d = some dd ∧ ∀ a, H' a = none → Q (.ref a) (upd H' a (ExV cls dd a))) ∧ (b = false → False)
/-- try: look() / except T as e: return e; return None -/
def TTB (K : PySem.W.Frag) (CS : Addr) : (XK → Hp → VK → Prop) → Hp → VK → Prop := fun tl H Q => tl (wishB K CS Q) H fun _ H' => Q .non H'
def mCaughtA (tab : Str → Bool) (mb : PEnv → MH → R PV) : PEnv → MH → R PV := fun env mh => match mb env mh with
  | .ok v h => .ok (.tup [.non, v]) h
  | .exc c v h => if tab c = true then .ok (.tup [.ref h.length, .non]) (h ++ [.exo c v]) else .bad
  | .bad => .bad
def mCaughtB (tab : Str → Bool) (mb : PEnv → MH → R PV) : PEnv → MH → R PV := fun env mh => match mb env mh with
  | .ok _ h => .ok .non h
  | .exc c v h => if tab c = true then .ok (.ref h.length) (h ++ [.exo c v]) else .bad
  | .bad => .bad
section
variable {X : Cx} {W : WX} {tab : Str → Bool} {CS : Addr} {mb : PEnv → MH → R PV}
/-- the lambda call, by what the def makes of it -/
theorem pe_lam {TT : (XK → Hp → VK → Prop) → Hp → VK → Prop} {x a : Str} {g c P : Addr} {fd : FuncData} {k : Nat} {pg : Arguments} {bg : List Stmt} {sg : Scope} {Ng : List Str} {params : Arguments} {body : Expr} {scope : Scope} {t : XK → TE} {p lpos pos : Pos} (hg : Gl X x) (hm : X.mg x = some (.ref g)) (F : FunD X.K x x pg bg sg [] [] g fd) (hpl : Plain pg [a])
    (Sg : FnScope Ng [a] sg) (hG : ∀ cdv : Value, Gives X Ng x sg g cdv bg a (X.env.qual ++ "<lambda>") TT) (LH : LamHost X c P) (hr : Room (k + 2) X.A) (gu : X.A.guards = some []) (L : LamX.LamS X.env.scope scope)
    (hbody : ∀ (A : Around) (outer : List PySem.Env) (s : Shared) (H : Hp) (E : XK) (f c' : Addr), Room k (A.deeper (LamX.lamEnv X scope s.heap.objs.size f c')) → A.guards = some [] → PE (LamX.lamCx X A outer s H E scope f c') body (t E))
    (hdef : defaultsOf params X.env = ([], []) := by rfl) (hbind : ∀ (q : Str) (cl : List (Str × Addr)) (pm cv ctv : Value), bindArgs (PySem.W.kla_fn "<lambda>" q params body scope cl pm cv ctv) ⟨[], []⟩ = pure [] := by intro _ _ _ _ _; rfl)
    (at0 : Ng[0]? = some a := by rfl) (vis : Vis sg a := by first | exact .inl rfl | exact .inr (.inl rfl) | exact .inr (.inr rfl)) (hdb : (x == ("__debug__" : Str)) = false := by decide) (hd : (a == ("__debug__" : Str)) = false := by decide) (hcd : (a == ("__classdict__" : Str)) = false := by decide) :
    PE X (.Call (.Name x p) [.Lambda params body scope lpos] [] pos) (fun σ H Q => LamX.Tabs (lamT X.K) H ∧ ∀ H1, LamX.ExtN H H1 → LamX.Tabs (lamT X.K) H1 → TT (fun E H' Q' => t E σ H' Q') H1 Q) := by
  constructor
  intro pins s σ H Q I wish
  obtain ⟨hT, wish⟩ := wish
  have b : Binds X.K fd [a] [] := F.bindsN fun kV doc pm an cdv ct us hl => bind_plain hpl rfl us hl
  have kp := F.kp
  obtain ⟨oc, od, dV, kV, doc, pm, an, cdv, ct, osl, rfl, lk, hcg, _, _⟩ := F.ex
  refine wpAny_Call_Name_kw (ld_glob I hg hm ?_ hdb)
  refine PySem.W.callWith_K (h₀ := X.base) I.ok.mod.kin kp ?_ (by rfl) (by rfl)
  show wpAny _ _ (spliced ((false, eval (.Lambda params body scope lpos) X.env) :: backTo pos (starEach [] X.env))) _ _ s
  refine Calls.spliced_cons (LamX.lam_make2 I LH.tb LH.code LH.mem LH.one hT hdef (L.has I.ok) fun f c' pm' ctv H1 s1 I1 eN T1 fs fnew foff code1 => ?_)
  refine Calls.spliced_nil ⟨I1.kIn, ?_⟩
  have run : codeAny (model X.prog X.w) X.A (.call (.ref g) ⟨[.ref f], []⟩) (CR C8.CX0 X.stack X.prog X.w H1 s1 Q C8.E0) s1 := by
    refine LamX.run_ofS (N := Ng) (ps := [a]) (us := [.ref f]) (vs := [.ref f]) lk hcg Sg hr I1.env0 (b s1 [.ref f] I1.kIn rfl) (.cons rfl .nil) rfl fun hr2 => ?_
    exact hG cdv f c' s1 H1 Q _ (act_ok I1 L fs fnew foff (hbind _ _ _ _ _) hr2 gu (fun A outer s H E h1 h2 => hbody A outer s H E f c' h1 h2) at0 vis hd hcd) code1 (wish H1 eN T1)
  refine wpAny_call (codeAny_mono run fun r s2 hq => ?_)
  match r, hq with
  | .error e, hq => exact (show False from hq).elim
  | .ok (.ret u), hq => exact I1.after hq
  | .ok .next, hq => exact False.elim hq
  | .ok .brk, hq => exact False.elim hq
  | .ok .cont, hq => exact False.elim hq
theorem re_caughtA {x a : Str} {g c P : Addr} {fd : FuncData} {k : Nat} {pg : Arguments} {bg : List Stmt} {sg : Scope} {Ng : List Str} {params : Arguments} {body : Expr} {scope : Scope} {p lpos pos : Pos} (hm : X.mg x = some (.ref g)) (F : FunD X.K x x pg bg sg [] [] g fd) (hpl : Plain pg [a])
    (Sg : FnScope Ng [a] sg) (hG : ∀ cdv : Value, Gives X Ng x sg g cdv bg a (X.env.qual ++ "<lambda>") (TTA X.K CS)) (htab : ∀ c, tab c = true → PySem.W.exmOne X.K (.ref (He.ga X.K c)) (.ref CS) = some true) (LH : LamHost X c P) (hr : Room (k + 2) X.A) (gu : X.A.guards = some []) (L : LamX.LamS X.env.scope scope)
    (hbody : ∀ (A : Around) (outer : List PySem.Env) (s : Shared) (H : Hp) (E : XK) (f c' : Addr), Room k (A.deeper (LamX.lamEnv X scope s.heap.objs.size f c')) → A.guards = some [] → RE (LamX.lamCx X A outer s H E scope f c') (fun c d _ H' => E c d H') body mb)
    (hg : Gl X x := by rfl) (hdef : defaultsOf params X.env = ([], []) := by rfl) (hbind : ∀ (q : Str) (cl : List (Str × Addr)) (pm cv ctv : Value), bindArgs (PySem.W.kla_fn "<lambda>" q params body scope cl pm cv ctv) ⟨[], []⟩ = pure [] := by intro _ _ _ _ _; rfl)
    (at0 : Ng[0]? = some a := by rfl) (vis : Vis sg a := by first | exact .inl rfl | exact .inr (.inl rfl) | exact .inr (.inr rfl)) (hdb : (x == ("__debug__" : Str)) = false := by decide) (hd : (a == ("__debug__" : Str)) = false := by decide) (hcd : (a == ("__classdict__" : Str)) = false := by decide) :
    RE X W (.Call (.Name x p) [.Lambda params body scope lpos] [] pos) (mCaughtA tab mb) :=
  (pe_lam (t := fun E => tE X.kw (fun c d _ H' => E c d H') mb) hg hm F hpl Sg hG LH hr gu L hbody hdef hbind at0 vis hdb hd hcd).imp fun σ H Q h => by
    obtain ⟨ρ, env, mh, sh, se, q⟩ := h
    refine ⟨sh.tabs, fun H1 eN T1 p0 hp0 => ?_⟩
    have l0 : Le X.kw ρ H ρ H1 := .of_ext eN
    have sh0 := sh.of_ext eN T1
    obtain ⟨sh1, l01⟩ := sh0.tuple (o := .tup [.non, .non]) hp0
    have l1 := l0.trans l01
    have q1 := Post.le l1 q
    refine ⟨ρ, env, mh, sh1, se.mono l1, ?_⟩
    unfold mCaughtA at q1
    cases e : mb env mh with
    | ok v h =>
      rw [e] at q1
      intro ρ' w H' l s r pa hp
      obtain ⟨s2, l2⟩ := s.tuple (o := .tup [.non, w]) hp
      exact q1 ρ' _ _ (l.trans l2) s2 (.tup (.inl (.inl upd_same)) (.cons .non (.cons (r.mono l2) .nil)))
    | exc c v h =>
      rw [e] at q1
      intro ρ' w d H' l s r hd'
      simp only at q1
      split at q1
      · rename_i ht
        refine ⟨true, htab c ht, fun _ => ⟨d, rfl, fun a ha pa hp => ?_⟩, fun z => by cases z⟩
        have dn : d ≠ a := ne_of_none hd' ha
        obtain ⟨s2, l2, r2⟩ := s.alloc (o := ExV (.ref (He.ga X.K c)) d a) (mo := .exo c v) ha ⟨d, w, upd_same, by rw [upd_ne dn]; exact hd', r.mono (.of_alloc ha)⟩
        obtain ⟨s3, l3⟩ := s2.tuple (o := .tup [.ref a, .non]) hp
        exact q1 _ _ _ ((l.trans l2).trans l3) s3 (.tup (.inl (.inl upd_same)) (.cons (r2.mono l3) (.cons .non .nil)))
      · exact q1.elim
    | bad =>
      rw [e] at q1
      exact q1.elim
theorem re_caughtB {x a : Str} {g c P : Addr} {fd : FuncData} {k : Nat} {pg : Arguments} {bg : List Stmt} {sg : Scope} {Ng : List Str} {params : Arguments} {body : Expr} {scope : Scope} {p lpos pos : Pos} (hm : X.mg x = some (.ref g)) (F : FunD X.K x x pg bg sg [] [] g fd) (hpl : Plain pg [a])
    (Sg : FnScope Ng [a] sg) (hG : ∀ cdv : Value, Gives X Ng x sg g cdv bg a (X.env.qual ++ "<lambda>") (TTB X.K CS)) (htab : ∀ c, tab c = true → PySem.W.exmOne X.K (.ref (He.ga X.K c)) (.ref CS) = some true) (LH : LamHost X c P) (hr : Room (k + 2) X.A) (gu : X.A.guards = some []) (L : LamX.LamS X.env.scope scope)
    (hbody : ∀ (A : Around) (outer : List PySem.Env) (s : Shared) (H : Hp) (E : XK) (f c' : Addr), Room k (A.deeper (LamX.lamEnv X scope s.heap.objs.size f c')) → A.guards = some [] → RE (LamX.lamCx X A outer s H E scope f c') (fun c d _ H' => E c d H') body mb)
    (hg : Gl X x := by rfl) (hdef : defaultsOf params X.env = ([], []) := by rfl) (hbind : ∀ (q : Str) (cl : List (Str × Addr)) (pm cv ctv : Value), bindArgs (PySem.W.kla_fn "<lambda>" q params body scope cl pm cv ctv) ⟨[], []⟩ = pure [] := by intro _ _ _ _ _; rfl)
    (at0 : Ng[0]? = some a := by rfl) (vis : Vis sg a := by first | exact .inl rfl | exact .inr (.inl rfl) | exact .inr (.inr rfl)) (hdb : (x == ("__debug__" : Str)) = false := by decide) (hd : (a == ("__debug__" : Str)) = false := by decide) (hcd : (a == ("__classdict__" : Str)) = false := by decide) :
    RE X W (.Call (.Name x p) [.Lambda params body scope lpos] [] pos) (mCaughtB tab mb) :=
  (pe_lam (t := fun E => tE X.kw (fun c d _ H' => E c d H') mb) hg hm F hpl Sg hG LH hr gu L hbody hdef hbind at0 vis hdb hd hcd).imp fun σ H Q h => by
    obtain ⟨ρ, env, mh, sh, se, q⟩ := h
    refine ⟨sh.tabs, fun H1 eN T1 => ?_⟩
    have l1 : Le X.kw ρ H ρ H1 := .of_ext eN
    have sh1 := sh.of_ext eN T1
    have q1 := Post.le l1 q
    refine ⟨ρ, env, mh, sh1, se.mono l1, ?_⟩
    unfold mCaughtB at q1
    cases e : mb env mh with
    | ok v h =>
      rw [e] at q1
      intro ρ' w H' l s r
      exact q1 ρ' _ _ l s .non
    | exc c v h =>
      rw [e] at q1
      intro ρ' w d H' l s r hd'
      simp only at q1
      split at q1
      · rename_i ht
        refine ⟨true, htab c ht, fun _ => ⟨d, rfl, fun a ha => ?_⟩, fun z => by cases z⟩
        have dn : d ≠ a := ne_of_none hd' ha
        obtain ⟨s2, l2, r2⟩ := s.alloc (o := ExV (.ref (He.ga X.K c)) d a) (mo := .exo c v) ha ⟨d, w, upd_same, by rw [upd_ne dn]; exact hd', r.mono (.of_alloc ha)⟩
        exact q1 _ _ _ (l.trans l2) s2 r2
      · exact q1.elim
    | bad =>
      rw [e] at q1
      exact q1.elim
end
/-! ### the defs that catch -/
section
variable {X : Cx} {x a n1 n2 en q : Str} {sg : Scope} {g CS : Addr} {cdg : Value}
theorem gives_A {kt k2 k3 : _} {j1 j2 : _} {p1 p2 p3 p4 p5 p6 p7 p8 p9 p10 p11 p12 p13 p14 p15 p16 p17 p18 p19 : Pos} (nd : [a, n1, n2, en].Nodup) (l1 : sg.names.lookup n1 = some .local) (l2 : sg.names.lookup n2 = some .local) (l3 : sg.names.lookup en = some .local) (gT : sg.names.lookup ("TrackError" : Str) = some .globalImplicit) (mT : X.mg "TrackError" = some (.ref CS))
    (hw : ∀ s : Shared, swappedStores [.Tuple [.Name n1 p1, .Name n2 p2] kt p3] (.Tuple [.Constant .none j1 p4, .Constant .none j2 p5] k2 p6) (envOfC x sg s.heap.objs.size g cdg) = pure none)
    (hs : ∀ s : Shared, swapsWithSole [.Tuple [.Name n1 p1, .Name n2 p2] kt p3] (.Tuple [.Constant .none j1 p4, .Constant .none j2 p5] k2 p6) p7.line (envOfC x sg s.heap.objs.size g cdg) = pure false)
    (hs1 : ∀ s : Shared, swapsWith (.Call (.Name a p8) [] [] p9) (some (.Name n2 p10)) p11.line (envOfC x sg s.heap.objs.size g cdg) = pure false)
    (hs2 : ∀ s : Shared, swapsWith (.Name en p12) (some (.Name n1 p13)) p14.line (envOfC x sg s.heap.objs.size g cdg) = pure false)
    (d1 : (n1 == ("__debug__" : Str)) = false) (d2 : (n2 == ("__debug__" : Str)) = false) (d3 : (en == ("__debug__" : Str)) = false) (c1 : (n1 == ("__classdict__" : Str)) = false) (c2 : (n2 == ("__classdict__" : Str)) = false) (c3 : (en == ("__classdict__" : Str)) = false) {p20 p21 : Pos} :
    Gives X [a, n1, n2, en] x sg g cdg [.Assign [.Tuple [.Name n1 p1, .Name n2 p2] kt p3] (.Tuple [.Constant .none j1 p4, .Constant .none j2 p5] k2 p6) p7,
      .Try [.Assign [.Name n2 p10] (.Call (.Name a p8) [] [] p9) p11] [.ExceptHandler (some (.Name "TrackError" p15)) (some en) [.Assign [.Name n1 p13] (.Name en p12) p14] p16] [] [] p17,
      .Return (some (.Tuple [.Name n1 p18, .Name n2 p19] k3 p20)) p21] a q (TTA X.K CS) := by
  intro f c' s H Q tl act hc h
  have s1 : PS (gCx X [a, n1, n2, en] x sg g cdg s H) (.Assign [.Tuple [.Name n1 p1, .Name n2 p2] kt p3] (.Tuple [.Constant .none j1 p4, .Constant .none j2 p5] k2 p6) p7) (tAsg (tTup (tCons (tC .non) (tCons (tC .non) tNil))) (gTup X.K 2 (gCons (gName 1) (gCons (gName 2) gNil)))) :=
    ps_asg (pe_tup (pa_cons pe_non (pa_cons pe_non pa_nil rfl) rfl)) (pg_tup rfl (pgs_cons (pg_name nd rfl (.inl l1) (.inr l1)) (pgs_cons (pg_name nd rfl (.inl l2) (.inr l2)) pgs_nil))) (hs s) (hw s)
  have s2 : PS (gCx X [a, n1, n2, en] x sg g cdg s H) (.Try [.Assign [.Name n2 p10] (.Call (.Name a p8) [] [] p9) p11] [.ExceptHandler (some (.Name "TrackError" p15)) (some en) [.Assign [.Name n1 p13] (.Name en p12) p14] p16] [] [] p17)
      (fun D σ H => (fun (W : WX) (D : Ends) (σ : L2.St) (H : Hp) => σ[0]? = some (some (V.ref f)) ∧ H c' = some (LamX.CodeO c' q) ∧ ∃ (E : XK) (Qv : VK), (∀ cls d H', E cls d H' → W cls d σ H') ∧ (∀ v H', Qv v H' → D.nx (σ.set 2 (some v)) H') ∧ tl E H Qv) (wHeld X.K (.ref CS) 3 (fun _ _ _ => tAsg (tVar 3) (gName 1)) (fun _ _ _ _ => False) D) D σ H) :=
    ps_try_held (X := gCx X [a, n1, n2, en] x sg g cdg s H) (x := "TrackError") (n := en) (Wout := fun _ _ _ _ => False) (ts := fun _ _ _ => tAsg (tVar 3) (gName 1)) (tb := fun (W : WX) (D : Ends) (σ : L2.St) (H : Hp) => σ[0]? = some (some (V.ref f)) ∧ H c' = some (LamX.CodeO c' q) ∧ ∃ (E : XK) (Qv : VK), (∀ cls d H', E cls d H' → W cls d σ H') ∧ (∀ v H', Qv v H' → D.nx (σ.set 2 (some v)) H') ∧ tl E H Qv) rfl rfl nd rfl l3 ⟨gT, rfl, .inl mT⟩ L2.takes0
      (fun W pn xe tk _ => pss_one ((ps_set (i := 2) nd rfl (.inl l2) (act W pn xe _ _ tk) (hs1 s) (.inr l2)).imp fun D σ H hh => hh))
      (fun a' oe cls d pn _ _ => pss_one (ps_set (X := (gCx X [a, n1, n2, en] x sg g cdg s H).suite a' ((a', oe) :: pn)) nd rfl (.inl l1) (pe_var (i := 3) rfl (.inl l3) d3 c3) (hs2 s) (.inr l1)))
  have s3 : PS (gCx X [a, n1, n2, en] x sg g cdg s H) (.Return (some (.Tuple [.Name n1 p18, .Name n2 p19] k3 p20)) p21) (tRet (tTup (tCons (tVar 1) (tCons (tVar 2) tNil)))) :=
    ps_ret (pe_tup (pa_cons (pe_var (i := 1) rfl (.inl l1) d1 c1) (pa_cons (pe_var (i := 2) rfl (.inl l2) d2 c2) pa_nil rfl) rfl))
  refine ⟨_, pss_cons s1 (pss_cons s2 (pss_one s3)), ?_⟩
  have pairs : ∀ (v w : V) (H1 : Hp), (∀ p, H1 p = none → Q (.ref p) (upd H1 p (.tup [v, w]))) → tRet (tTup (tCons (tVar 1) (tCons (tVar 2) tNil))) { nx := fun _ H' => Q .non H', rt := Q } [some (.ref f), some v, some w, none] H1 := fun v w H1 k =>
    ⟨v, rfl, w, rfl, Nat.le_trans (show [v, w].length ≤ 2 from Nat.le_refl 2) (by decide), k⟩
  refine ⟨by decide, fun p0 hp0 => ⟨p0, [.non, .non], rfl, .inl (.inl upd_same), rfl, .non, [.non], rfl, .non, [], rfl, rfl, rfl, (upd_ne (fun z => by rw [z, hp0] at hc; cases hc)).trans hc, wishA X.K CS Q, fun v H' => ∀ p, H' p = none → Q (.ref p) (upd H' p (.tup [.non, v])), fun cls d H' hE => ?_, fun v H' hQ => pairs .non v H' hQ, h p0 hp0⟩⟩
  obtain ⟨b, e1, e2, e3⟩ := hE
  refine ⟨b, e1, fun hb => ?_, fun hb => (e3 hb).elim⟩
  obtain ⟨dd, ed, k⟩ := e2 hb
  exact ⟨dd, ed, fun a' ha' => ⟨.ref a', rfl, pairs (.ref a') .non _ (k a' ha')⟩⟩
end
end Ev
namespace Ev
open PySem PySem.Spec PySem.Calls PyProof.Rows L2
/-! ### the program's error classes: what the written part must say, as a test -/
def oexB (K : PySem.W.Frag) (C : Addr) : Bool := match K.lookup C with
  | some ⟨.type "type", _, .cls cd, sl⟩ => (match cd.mro, sl.toList with
    | .ref C' :: bm, [_, _, _, _, some (.builtin n), _] => C' == C && n == "ValueError.__new__" && !cd.hasDel && cd.hasDict && PySem.HandSPX.refsVE bm
    | _, _ => false)
  | _ => false
def eqV (a b : Option (Option Value)) : Bool := decide (a = b)
/-- all that is asked of an error class C under D with the __init__ fI -/
def errB (K : PySem.W.Frag) (D fI C : Addr) : Bool :=
  oexB K C && decide (PySem.W.findIn K (.ref C) "__setattr__" = some (some (.builtin "object.__setattr__"))) && decide (PySem.W.subIn K (.ref C) (.type "BaseException") = some true) && decide (PySem.W.typeIn K (.ref C) = some (.type "type")) && PySem.W.keepIn K (.ref C) &&
  decide (PySem.W.findIn K (.ref C) "__init__" = some (some (.ref fI))) && decide (PySem.W.mroIn K C (.ref D) = some true) && decide (PySem.W.ks_superIn K C D "__init__" = some (some (.builtin "ValueError.__init__"))) && decide (PySem.W.subIn K (.ref C) (.type "ValueError") = some true) &&
  decide (PySem.W.findIn K (.ref C) "value" = some none) && xfB K C && (PySem.W.clsIn K C).isSome && decide (PySem.W.findIn K (.ref C) "__class__" = some (some (.builtin "object.__class__"))) && decide (PySem.W.specialIn K (.builtin "object.__class__") "__get__" = some (some (.builtin "getset_descriptor.__get__"))) &&
  decide (PySem.W.takesIn K (.builtin "object.__class__") = some true) && decide (PySem.W.mroIn K C (.type "object") = some true) && decide (PySem.W.kitOne K (.type "NoneType") (.ref C) = some false)
structure ErrA (K : PySem.W.Frag) (D fI C : Addr) : Prop where
  err : ErrC K D fI C
  xf : XfC K C
  some_ : (PySem.W.clsIn K C).isSome = true
  cl : PySem.W.findIn K (.ref C) "__class__" = some (some (.builtin "object.__class__"))
  get : PySem.W.specialIn K (.builtin "object.__class__") "__get__" = some (some (.builtin "getset_descriptor.__get__"))
  tk : PySem.W.takesIn K (.builtin "object.__class__") = some true
  ob : PySem.W.mroIn K C (.type "object") = some true
  no : PySem.W.kitOne K (.type "NoneType") (.ref C) = some false
theorem oexB_ok {K : PySem.W.Frag} {C : Addr} (h : oexB K C = true) : ∃ nm q N bs bm sn sub ab col dd k0 k1 k2 k3 k5, K.lookup C = some (excClassObj nm q C N bs bm true sn sub ab col dd k0 k1 k2 k3 k5 "ValueError.__new__") ∧ PySem.HandSPX.refsVE bm = true := by
  unfold oexB at h
  split at h
  · rename_i dd cd sl ho
    split at h
    · rename_i C' bm k0 k1 k2 k3 n k5 hm hs
      simp only [Bool.and_eq_true, beq_iff_eq, Bool.not_eq_true'] at h
      obtain ⟨⟨⟨⟨rfl, rfl⟩, hdel⟩, hdct⟩, hr⟩ := h
      obtain ⟨nm, bs, mro, ns, qn, hd, sn, sub, ab, col, del⟩ := cd
      dsimp only at hm hdel hdct
      subst hm hdel hdct
      have e : sl = #[k0, k1, k2, k3, some (.builtin "ValueError.__new__"), k5] := by
        obtain ⟨l⟩ := sl
        simp only at hs
        rw [hs]
      subst e
      exact ⟨nm, qn, ns, bs, bm, sn, sub, ab, col, dd, k0, k1, k2, k3, k5, ho, hr⟩
    · cases h
  · cases h
theorem errB_ok {K : PySem.W.Frag} {D fI C : Addr} (h : errB K D fI C = true) : ErrA K D fI C := by
  unfold errB at h
  simp only [Bool.and_eq_true, decide_eq_true_eq] at h
  obtain ⟨⟨⟨⟨⟨⟨⟨⟨⟨⟨⟨⟨⟨⟨⟨⟨h1, h2⟩, h3⟩, h4⟩, h5⟩, h6⟩, h7⟩, h8⟩, h9⟩, h10⟩, h11⟩, h12⟩, h13⟩, h14⟩, h15⟩, h16⟩, h17⟩ := h
  exact ⟨⟨⟨oexB_ok h1, h2, h3, h4, h5⟩, h6, h7, h8, h9, h10⟩, xfB_ok h11, h12, h13, h14, h15, h16, h17⟩
/-! ### isinstance(v, C) -/
def mIsC (tab : Str → Option Bool) (ma : PEnv → MH → R PV) : PEnv → MH → R PV := fun env mh => (ma env mh).bind fun v mh1 => match v with
  | .non => .ok (.bl false) mh1
  | .ref n => match mh1[n]? with
    | some (.exo c _) => match tab c with
      | some b => .ok (.bl b) mh1
      | none => .bad
    | _ => .bad
  | _ => .bad
/-- a caught exception, or None -/
def rIsX (K : PySem.W.Frag) (C : Addr) : List V → Hp → VK → Prop := fun xs H Q => (xs = [.non, .ref C] ∧ PySem.W.kitOne K (.type "NoneType") (.ref C) = some false ∧ Q (.bl false) H) ∨
  ∃ (a D1 d : Addr) (fs : List (Str × V)) (b : Bool) (D fI : Addr), xs = [.ref a, .ref C] ∧ H a = some (ExV (.ref D1) d a) ∧ H d = some (.xd fs) ∧ ErrA K D fI D1 ∧ PySem.W.kitOne K (.ref D1) (.ref C) = some b ∧ Q (.bl b) H
theorem call_isx {X : Cx} {C : Addr} : CallR X (.builtin "isinstance") (rIsX X.K C) := by
  intro pins s σ H xs us Q I r h
  rcases h with ⟨rfl, e, q⟩ | ⟨a, D1, d, fs, b, D, fI, rfl, ea, ed, A, e, q⟩
  · obtain ⟨u1, u2, rfl, r1, r2⟩ := vals2 r
    cases (show u2 = Value.ref C from r2)
    cases (show u1 = Value.none from r1)
    exact PySem.W.kia_one PySem.W.kitx_none I.kIn True.intro e (fun z => nomatch z) fun tk => ⟨.bl false, H, I.tok tk, rfl, q⟩
  · obtain ⟨u1, u2, rfl, r1, r2⟩ := vals2 r
    cases (show u2 = Value.ref C from r2)
    cases (show u1 = Value.ref a from r1)
    have x : ObjOk X.prog X.w H s.heap a (.ext fun h => ∃ (oe : Obj) (vs : Array Value), h.get? a = some oe ∧ Zc (.ref D1) (some d) oe ∧ oe.data = .fields vs) := I.hok a _ ea
    obtain ⟨oe, vs, e1, z, dt⟩ := x.1
    have hx : ObjOk X.prog X.w H s.heap d (.xd fs) := I.hok d _ ed
    obtain ⟨mA, hns, hr⟩ := hx
    obtain ⟨od, ho, hl⟩ := lookIn_ns hns
    have J : PySem.W.InstAt s.heap a oe D1 (some od) := ⟨e1, z.1, by unfold PySem.W.notCls; rw [dt] <;> rfl, by rw [z.2]; exact ho⟩
    exact PySem.W.kia_one (PySem.W.kitx_exc A.some_ A.xf.ga A.xf.gg A.xf.exC A.cl A.get A.tk A.ob) I.kIn J e (fun z => nomatch z) fun tk => ⟨.bl b, H, I.tok tk, rfl, q⟩
section
variable {X : Cx} {W : WX} {e : Expr} {ma : PEnv → MH → R PV}
theorem re_isC {x y : Str} {p py pos : Pos} {tab : Str → Option Bool} (hm : X.mg x = none) (hv : bootBuiltins x = some (.builtin "isinstance")) (hmy : X.mg y = some (.ref (He.ga X.K y))) (hno : PySem.W.kitOne X.K (.type "NoneType") (.ref (He.ga X.K y)) = some false)
    (htab : ∀ c b, tab c = some b → (∃ D fI, ErrA X.K D fI (He.ga X.K c)) ∧ PySem.W.kitOne X.K (.ref (He.ga X.K c)) (.ref (He.ga X.K y)) = some b) (ha : RE X W e ma) (hg : Gl X x := by rfl) (hgy : Gl X y := by rfl) (hn : x ≠ "__name__" := by decide) (hdb : (x == ("__debug__" : Str)) = false := by decide) (hdy : (y == ("__debug__" : Str)) = false := by decide)
    (he : starEach [e, .Name y py] X.env = (false, eval e X.env) :: starEach [.Name y py] X.env := by rfl) (he2 : starEach [.Name y py] X.env = (false, eval (.Name y py) X.env) :: starEach [] X.env := by rfl) (hpl : (backTo pos (starEach [.Name y py] X.env)).any (·.1) = false := by rfl) :
    RE X W (.Call (.Name x p) [e, .Name y py] [] pos) (mIsC tab ma) :=
  (pe_callB (call_isx (C := He.ga X.K y)) hg hm hv (pa_cons ha (pa_cons (pe_glob hgy hmy (v := .ref (He.ga X.K y)) rfl hdy) pa_nil he2) he) hn hdb he hpl).imp fun σ H Q h => by
    obtain ⟨ρ, env, mh, sh, se, q⟩ := h
    refine ⟨ρ, env, mh, sh, se, Post.bind q fun v mh1 ρ1 x1 H1 _ l1 sh1 rv q1 => ?_⟩
    cases rv with
    | non => exact .inl ⟨rfl, hno, q1.mk sh1 (.bl _)⟩
    | @ref n a hn =>
      simp only at q1
      split at q1
      · rename_i c w eo
        split at q1
        · rename_i b eb
          obtain ⟨d, w2, o1, o2, o3⟩ := sh1.ob n _ a eo hn
          obtain ⟨⟨D, fI, A⟩, kt⟩ := htab c b eb
          exact .inr ⟨a, _, d, _, b, D, fI, rfl, o1, o2, A, kt, q1.mk sh1 (.bl _)⟩
        · exact q1.elim
      · exact q1.elim
    | _ => exact q1.elim
/-! ### v.value -/
def mFld (tab : Str → Bool) (ma : PEnv → MH → R PV) : PEnv → MH → R PV := fun env mh => (ma env mh).bind fun v mh1 => match v with
  | .ref n => match mh1[n]? with
    | some (.exo c w) => if tab c = true then .ok w mh1 else .bad
    | _ => .bad
  | _ => .bad
def tFld (K : PySem.W.Frag) (te : TE) : TE := fun σ H Q => te σ H fun x H1 => ∃ (a D1 d D fI : Addr) (w : V), x = .ref a ∧ H1 a = some (ExV (.ref D1) d a) ∧ H1 d = some (.xd [("value", w)]) ∧ ErrA K D fI D1 ∧ Q w H1
theorem pe_fld {te : TE} {pos : Pos} (he : PE X e te) (hb : attributeBase e "value" X.env (eval e X.env) = eval e X.env := by rfl) : PE X (.Attribute e "value" pos) (tFld X.K te) := by
  constructor
  intro pins s σ H Q I h
  refine attr_of hb (thn (he.run pins s σ H _ I h) fun u s1 hh => ?_)
  obtain ⟨x, H1, I1, rx, a, D1, d, D, fI, w, rfl, ea, ed, A, q⟩ := hh
  obtain rfl : u = Value.ref a := rx
  have x : ObjOk X.prog X.w H1 s1.heap a (.ext fun h => ∃ (oe : Obj) (vs : Array Value), h.get? a = some oe ∧ Zc (.ref D1) (some d) oe ∧ oe.data = .fields vs) := I1.hok a _ ea
  obtain ⟨oe, vs, e1, z, dt⟩ := x.1
  have hx : ObjOk X.prog X.w H1 s1.heap d (.xd [("value", w)]) := I1.hok d _ ed
  obtain ⟨mA, hns, hr⟩ := hx
  obtain ⟨od, ho, hl⟩ := lookIn_ns hns
  obtain ⟨u, hu, ru⟩ := RelO.some_of (v := w) (o := mA "value") (hr "value")
  have J : PySem.W.InstAt s1.heap a oe D1 (some od) := ⟨e1, z.1, by unfold PySem.W.notCls; rw [dt] <;> rfl, by rw [z.2]; exact ho⟩
  exact HandSPX.exc_get I1.kIn J A.xf.ga A.xf.gg A.xf.exC (PySem.W.findObj_own A.xf.hdC A.err.noat rfl (by rw [hl, hu])) (handed_of ru) ⟨w, H1, I1.tok _, ru, q⟩
theorem re_fld {pos : Pos} {tab : Str → Bool} (htab : ∀ c, tab c = true → ∃ D fI, ErrA X.K D fI (He.ga X.K c)) (ha : RE X W e ma) (hb : attributeBase e "value" X.env (eval e X.env) = eval e X.env := by rfl) : RE X W (.Attribute e "value" pos) (mFld tab ma) :=
  (pe_fld ha hb).imp fun σ H Q h => by
    obtain ⟨ρ, env, mh, sh, se, q⟩ := h
    refine ⟨ρ, env, mh, sh, se, Post.bind q fun v mh1 ρ1 x1 H1 _ l1 sh1 rv q1 => ?_⟩
    cases rv with
    | @ref n a hn =>
      simp only at q1
      split at q1
      · rename_i c w eo
        split at q1
        · rename_i ht
          obtain ⟨d, w2, o1, o2, o3⟩ := sh1.ob n _ a eo hn
          obtain ⟨D, fI, A⟩ := htab c ht
          exact ⟨a, _, d, D, fI, w2, rfl, o1, o2, A, q1.mk sh1 o3⟩
        · exact q1.elim
      · exact q1.elim
    | _ => exact q1.elim
end
end Ev
namespace Ev
open PySem PySem.Spec PySem.Calls PyProof.Rows L2
/-! ### what is read off the heap behind the top -/
abbrev FnI : Type := Option (Str × Str × Arguments × FuncBody × Scope × Addr × List Str × Addr)
def initA (K : PySem.W.Frag) : Addr := He.fAd K ("TrackError", some "__init__")
def fnI (K : PySem.W.Frag) : FnI := match K.lookup (initA K) with
  | some ⟨_, _, .func fd, _⟩ => some (fd.name, fd.qualname, fd.params, fd.body, fd.scope, fd.globals, fd.closure.map (·.1), fd.builtins)
  | _ => none
def isNone : Value → Bool
  | .none => true
  | _ => false
def cellB (K : PySem.W.Frag) (D : Addr) : List (Str × Addr) → Bool
  | [(_, cc)] => match K.lookup cc with
    | some ⟨_, _, .cell (some (.ref D')), _⟩ => decide (D' = D)
    | _ => false
  | _ => false
def codeB (K : PySem.W.Frag) (file : Str) : Value → Bool
  | .ref cda => PySem.W.codeIn K (.ref cda) "TrackError.__init__" && match K.lookup cda with
    | some ⟨_, _, .fields vs, _⟩ => match (vs[2]? : Option Value) with
      | some (.str f _) => decide (f = file)
      | _ => false
    | _ => false
  | _ => false
def initB (K : PySem.W.Frag) (file : Str) : Bool :=
  (match K.lookup (initA K) with
    | some ⟨_, _, .func fd, _⟩ => isNone fd.defaults && (cellB K (He.ga K "TrackError") fd.closure && codeB K file fd.code)
    | _ => false) && ((PySem.W.clsIn K (He.ga K "TrackError")).isSome && (decide (PySem.W.nsIn K cStatics "thirdparty.any" = some none) && decide (PySem.W.typeIn K (.ref (initA K)) = some (.type "function"))))
theorem inFra_of {prog : Program} {K : PySem.W.Frag} {p : InPos} {params : Arguments} {scope : Scope} {file : Str} (e : fnI K = some (("__init__" : Str), ("TrackError.__init__" : Str), params, FuncBody.stmts p.body, scope, mainGlobals, [("__class__" : Str)], builtinsNs)) (b : initB K file = true) (hf : prog.main.file = file)
    (top : (prog.main.scope.names.lookup ("super" : Str)).isSome = false) : InFra prog K p params scope (He.ga K "TrackError") (initA K) := by
  unfold initB at b
  simp only [Bool.and_eq_true, decide_eq_true_eq] at b
  obtain ⟨b1, b2, b3, b4⟩ := b
  refine ⟨?_, b3, b4, top⟩
  unfold fnI at e
  split at e
  · rename_i oc od fd osl lk
    rw [lk] at b1
    simp only [Bool.and_eq_true] at b1
    obtain ⟨c1, c2, c3⟩ := b1
    obtain ⟨name, qual, par, body, sc, gl, cl, dV, kV, doc, pm, an, cdv, ct, bn⟩ := fd
    simp only [Option.some.injEq, Prod.mk.injEq] at e
    obtain ⟨rfl, rfl, rfl, rfl, rfl, rfl, ec, rfl⟩ := e
    have hd : dV = .none := by
      cases dV <;> first | rfl | cases c1
    cases cl with
    | nil => cases c2
    | cons a r =>
      cases r with
      | cons _ _ => cases c2
      | nil =>
        obtain ⟨y, cc⟩ := a
        have ey : y = ("__class__" : Str) := (List.cons.inj ec).1
        subst ey
        cases cdv with
        | ref cda =>
          simp only [cellB] at c2
          split at c2
          · rename_i a1 a2 D' a3 lc
            have hD := of_decide_eq_true c2
            subst hD
            simp only [codeB, Bool.and_eq_true] at c3
            obtain ⟨d1, d2⟩ := c3
            split at d2
            · rename_i b1' b2' vs b3' lcode
              split at d2
              · rename_i f tf hv
                have hf2 := of_decide_eq_true d2
                subst hf2
                obtain ⟨cdD, hcd⟩ := Option.isSome_iff_exists.mp b2
                exact ⟨_, _, _, _, _, _, _, _, cda, _, cc, _, _, _, _, _, vs, _, f, tf, cdD, lk, d1, hd, lc, lcode, hv, by rw [hf]; exact beq_self_eq_true _, hcd⟩
              · cases d2
            · cases d2
          · cases c2
        | _ => cases c3
  · cases e
/-! ### the Hook -/
def frL (n : Nat) (g : Addr → Option Obj) : PySem.W.Frag := He.frT g (He.asD g n ++ [cStatics])
abbrev AlL : Type := He.AlD × FnI × Bool
def obsL (n : Nat) (fa : List He.Fa) (fn : List He.DefD) (ex : PySem.W.Frag → Bool) (g : Addr → Option Obj) : AlL :=
  (He.obsD fa fn (frL n g), fnI (frL n g), ex (frL n g) && He.tabsB g (lamDefs.map fun x => (x, none)) (frL n g))
/-- what is known behind the top -/
structure SaysL (fa : List He.Fa) (fn : List He.DefD) (ie : FnI) (ex : PySem.W.Frag → Bool) (h : Heap) (K : PySem.W.Frag) : Prop where
  d : He.SaysD fa fn K
  i : fnI K = ie
  more : ex K = true
  tabs : ∀ p ∈ lamDefs.map fun x => He.cT K (x, none), h.get? p.2 = some { cls := .none, data := .fields #[] } ∧ K.lookup p.2 = none ∧ PySem.W.codeHdIn K p.1 p.2 = true
def hookL (n : Nat) (fa : List He.Fa) (fn : List He.DefD) (ie : FnI) (ex : PySem.W.Frag → Bool) : PySem.W.Hook where
  α := AlL
  obs := fun s => obsL n fa fn ex s.heap.get?
  val := fun _ => (He.valD fn, ie, true)
  says := fun _ h => ∃ K : PySem.W.Frag, K.In h ∧ SaysL fa fn ie ex h K
  of := fun w s e => by
    have e1 : He.obsD fa fn (frL n s.heap.get?) = He.valD fn := congrArg (fun z : AlL => z.1) e
    have e2 : fnI (frL n s.heap.get?) = ie := congrArg (fun z : AlL => z.2.1) e
    have e3 : (ex (frL n s.heap.get?) && He.tabsB s.heap.get? (lamDefs.map fun x => (x, none)) (frL n s.heap.get?)) = true := congrArg (fun z : AlL => z.2.2) e
    obtain ⟨h1, h2⟩ := Bool.and_eq_true_iff.mp e3
    refine ⟨frL n s.heap.get?, He.frT_in, e1, e2, h1, fun p hp => ?_⟩
    obtain ⟨x, hx, rfl⟩ := List.mem_map.mp hp
    have q := List.all_eq_true.mp h2 (x, none) (List.mem_map.mpr ⟨x, hx, rfl⟩)
    obtain ⟨q1, q2⟩ := Bool.and_eq_true_iff.mp q
    cases z : s.heap.get? (He.cT (frL n s.heap.get?) (x, none)).2 with
    | none =>
      rw [z] at q2
      cases q2
    | some o =>
      rw [z] at q2
      refine ⟨by rw [He.emptyTab_eq q2], He.frT_none z q2, q1⟩
  keeps := fun _ _ _ ⟨K, hK, c⟩ k => ⟨K, PySem.W.Frag.In.keeps hK k, c.d, c.i, c.more, fun p hp => ⟨k _ _ (c.tabs p hp).1, (c.tabs p hp).2⟩⟩
theorem obsL_eq {n : Nat} {fa : List He.Fa} {fn : List He.DefD} {ie : FnI} {ex : PySem.W.Frag → Bool} {g : Addr → Option Obj} {s : Shared} (h : ∀ a, g a = s.heap.get? a) : obsL n fa fn ex g = (hookL n fa fn ie ex).obs s := by
  have e : g = s.heap.get? := funext h
  rw [e] <;> rfl
/-! ### a class's first def; its positions -/
def clsFirst : Stmt → Stmt
  | .ClassDef (body := b :: _) .. => b
  | s => s
def inPos : List Stmt → InPos
  | [.Expr (.Call (.Attribute (.Call (.Name _ p0) [] [] p1) _ p2) [.Name _ p3] [] p4) p5, .Assign [.Attribute (.Name _ p6) _ p7] (.Name _ p8) p9] => ⟨p0, p1, p2, p3, p4, p5, p6, p7, p8, p9⟩
  | _ => ⟨⟨0, 0, 0, 0⟩, ⟨0, 0, 0, 0⟩, ⟨0, 0, 0, 0⟩, ⟨0, 0, 0, 0⟩, ⟨0, 0, 0, 0⟩, ⟨0, 0, 0, 0⟩, ⟨0, 0, 0, 0⟩, ⟨0, 0, 0, 0⟩, ⟨0, 0, 0, 0⟩, ⟨0, 0, 0, 0⟩⟩
/-! ### the error classes of a law -/
structure Errs (ip : InPos) (params : Arguments) (scope : Scope) (names : List Str) (sub : Str → Str → Bool) (P : Program) (K : PySem.W.Frag) (mg : Str → Option Value) : Prop where
  tx : InTxt ip params scope
  fr : InFra P K ip params scope (He.ga K "TrackError") (initA K)
  sup : mg "super" = none
  er : ∀ c ∈ names, ErrA K (He.ga K "TrackError") (initA K) (He.ga K c)
  mg_ : ∀ c ∈ names, mg c = some (.ref (He.ga K c))
  kit : ∀ c ∈ names, ∀ d ∈ names, PySem.W.kitOne K (.ref (He.ga K c)) (.ref (He.ga K d)) = some (sub c d)
  exm : ∀ c ∈ names, PySem.W.exmOne K (.ref (He.ga K c)) (.ref (He.ga K "TrackError")) = some true
  root : mg "TrackError" = some (.ref (He.ga K "TrackError"))
  one : ((lamT K).map (·.1)).Nodup
def errTab (names : List Str) (sub : Str → Str → Bool) (d : Str) : Str → Option Bool := fun c => if c ∈ names then some (sub c d) else none
def errIn (names : List Str) : Str → Bool := fun c => decide (c ∈ names)
def errEx (names : List Str) (sub : Str → Str → Bool) (file : Str) (K : PySem.W.Frag) : Bool :=
  initB K file && (names.all fun c => errB K (He.ga K "TrackError") (initA K) (He.ga K c)) && (names.all fun c => names.all fun d => decide (PySem.W.kitOne K (.ref (He.ga K c)) (.ref (He.ga K d)) = some (sub c d))) &&
  (names.all fun c => decide (PySem.W.exmOne K (.ref (He.ga K c)) (.ref (He.ga K "TrackError")) = some true)) && decide ((lamT K).map (·.1)).Nodup
theorem errs_of {ip : InPos} {params : Arguments} {scope : Scope} {names : List Str} {sub : Str → Str → Bool} {P : Program} {K : PySem.W.Frag} {mg : Str → Option Value} {file : Str} (tx : InTxt ip params scope) (e : fnI K = some (("__init__" : Str), ("TrackError.__init__" : Str), params, FuncBody.stmts ip.body, scope, mainGlobals, [("__class__" : Str)], builtinsNs))
    (x : errEx names sub file K = true) (hf : P.main.file = file) (top : (P.main.scope.names.lookup ("super" : Str)).isSome = false) (sup : mg "super" = none) (mg_ : ∀ c ∈ names, mg c = some (.ref (He.ga K c))) (root : mg "TrackError" = some (.ref (He.ga K "TrackError"))) : Errs ip params scope names sub P K mg := by
  unfold errEx at x
  simp only [Bool.and_eq_true, List.all_eq_true, decide_eq_true_eq] at x
  obtain ⟨⟨⟨⟨x1, x2⟩, x3⟩, x4⟩, x5⟩ := x
  exact ⟨tx, inFra_of e x1 hf top, sup, fun c hc => errB_ok (x2 c hc), mg_, fun c hc d hd => x3 c hc d hd, fun c hc => x4 c hc, root, x5⟩
section
variable {ip : InPos} {params : Arguments} {scope : Scope} {names : List Str} {sub : Str → Str → Bool}
theorem Errs.fld {P : Program} {K : PySem.W.Frag} {mg : Str → Option Value} (S : Errs ip params scope names sub P K mg) : ∀ c, errIn names c = true → ∃ D fI, ErrA K D fI (He.ga K c) := fun c h => ⟨_, _, S.er c (of_decide_eq_true h)⟩
theorem Errs.cau {P : Program} {K : PySem.W.Frag} {mg : Str → Option Value} (S : Errs ip params scope names sub P K mg) : ∀ c, errIn names c = true → PySem.W.exmOne K (.ref (He.ga K c)) (.ref (He.ga K "TrackError")) = some true := fun c h => S.exm c (of_decide_eq_true h)
theorem Errs.isc {P : Program} {K : PySem.W.Frag} {mg : Str → Option Value} (S : Errs ip params scope names sub P K mg) {d : Str} (hd : d ∈ names) : ∀ c b, errTab names sub d c = some b → (∃ D fI, ErrA K D fI (He.ga K c)) ∧ PySem.W.kitOne K (.ref (He.ga K c)) (.ref (He.ga K d)) = some b := fun c b h => by
  unfold errTab at h
  by_cases hc : c ∈ names
  · rw [if_pos hc] at h
    cases h
    exact ⟨⟨_, _, S.er c hc⟩, S.kit c hc d hd⟩
  · rw [if_neg hc] at h
    cases h
end
/-- a def that makes lambdas -/
theorem cal_ofL {P : Program} {w : World} {K : PySem.W.Frag} {mg : Str → Option Value} {base : Heap} {k : Nat} {x : Str} {params : Arguments} {body : List Stmt} {scope : Scope} {N ps : List Str} {f : Addr} {fd : FuncData} {mb : PEnv → MH → RS} (F : FunD K x x params body scope [] [] f fd) (hm : mg x = some (.ref f)) (hfa : f = He.fAd K (x, none)) (S : FnScope N ps scope) (hp : Plain params ps)
    (hbody : ∀ (A : Around) (outer : List PySem.Env) (s : Shared) (H : Hp) (E : XK), Room k (A.deeper (envOfC x scope s.heap.objs.size f (.ref (He.codeOf K (x, none))))) → A.guards = some [] →
      RSs (cxOf (L2.CX P w) P w K mg base N x scope f (.ref (He.codeOf K (x, none))) A outer s H E) (fun c d _ H' => E c d H') body mb) : Cal P w K mg base (k + 1) x ps (runB mb N.length) := by
  have b : Binds K fd ps [] := F.bindsN fun kV doc pm an cdv ct us hl => bind_plain hp rfl us hl
  have kp := F.kp
  obtain ⟨oc, od, dV, kV, doc, pm, an, cdv, ct, osl, rfl, lk, hcd, _, _⟩ := F.ex
  obtain ⟨c, hc⟩ := He.codeIn_ref hcd
  have ec : cdv = .ref (He.codeOf K (x, none)) := by
    rw [hc]
    congr 1
    exact (He.codeOf_eq (by rw [← hfa]; exact lk) hc).symm
  subst ec
  exact ⟨f, _, hm, kp, b, fng_body lk hcd S fun A outer s H E hr hg => hbody A outer s H E hr hg⟩
theorem host_by {P : Program} {w : World} {K : PySem.W.Frag} {mg : Str → Option Value} {base : Heap} {x : Str} {scope : Scope} {N : List Str} {f : Addr} {A : Around} {outer : List PySem.Env} {s : Shared} {H : Hp} {E : XK} (hx : x ∈ lamDefs) (tb : ∀ p ∈ lamDefs.map fun x => He.cT K (x, none), LamX.TabB base mg p.1 p.2) (one : ((lamT K).map (·.1)).Nodup)
    (hq : x ++ ".<locals>." ++ "<lambda>" = x ++ ".<locals>.<lambda>") : LamHost (cxOf (L2.CX P w) P w K mg base N x scope f (.ref (He.codeOf K (x, none))) A outer s H E) (He.cT K (x, none)).1 (He.cT K (x, none)).2 := by
  have mem : ((He.cT K (x, none)).2, x ++ ".<locals>.<lambda>") ∈ lamT K := List.mem_map.mpr ⟨x, hx, rfl⟩
  refine ⟨tb _ (List.mem_map.mpr ⟨x, hx, rfl⟩), rfl, ?_, fun p hp e => ?_⟩
  · show (_, x ++ ".<locals>." ++ "<lambda>") ∈ lamT K
    rw [hq]
    exact mem
  · show p.2 = x ++ ".<locals>." ++ "<lambda>"
    rw [hq]
    have key : ∀ (l : List (Addr × Str)), (l.map (·.1)).Nodup → ∀ p ∈ l, ∀ q ∈ l, p.1 = q.1 → p = q := by
      intro l
      induction l with
      | nil => intro _ p hp; cases hp
      | cons a l ih =>
        intro nd p hp q hq e
        rw [List.map_cons, List.nodup_cons] at nd
        rcases List.mem_cons.mp hp with rfl | hp
        · rcases List.mem_cons.mp hq with rfl | hq
          · rfl
          · exact absurd (List.mem_map.mpr ⟨q, hq, e.symm⟩) nd.1
        · rcases List.mem_cons.mp hq with eq | hq
          · exact absurd (List.mem_map.mpr ⟨p, hp, e.trans (by rw [eq])⟩) nd.1
          · exact ih nd.2 p hp q hq e
    rw [key _ one p hp _ mem e]
end Ev
namespace Ev
open PySem PySem.Spec PySem.Calls PyProof.Rows L2
/-! ### a lambda with one parameter -/
structure LamP (N : List Str) (sc scope : Scope) (p : Str) (j : Nat) : Prop where
  kind : scope.kind = .function
  co : scope.isCoroutine = false
  gen : scope.isGenerator = false
  ix : N[j]? = some p
  par : scope.names.lookup p = some .local
  loc : ∀ y ∈ scope.names, y.2 = .local → y.1 = p
  noc : ∀ y ∈ scope.names, y.2 ≠ .cell
  fr : ∀ y ∈ scope.names, y.2 = .free → sc.names.lookup y.1 = some .cell ∨ sc.names.lookup y.1 = some .free
def lamPB (N : List Str) (sc scope : Scope) (p : Str) (j : Nat) : Bool :=
  decide (scope.kind = .function) && (!scope.isCoroutine && (!scope.isGenerator && (decide (N[j]? = some p) && (decide (scope.names.lookup p = some .local) &&
    scope.names.all fun y => (!decide (y.2 = .local) || decide (y.1 = p)) && (!decide (y.2 = .cell) && (!decide (y.2 = .free) || (decide (sc.names.lookup y.1 = some .cell) || decide (sc.names.lookup y.1 = some .free))))))))
theorem lamP_by {N : List Str} {sc scope : Scope} {p : Str} {j : Nat} (h : lamPB N sc scope p j = true) : LamP N sc scope p j := by
  unfold lamPB at h
  simp only [Bool.and_eq_true, Bool.or_eq_true, Bool.not_eq_true', decide_eq_true_eq, decide_eq_false_iff_not, List.all_eq_true] at h
  obtain ⟨a1, a2, a3, a4, a5, a6⟩ := h
  refine ⟨a1, a2, a3, a4, a5, fun y hy e => ?_, fun y hy => (a6 y hy).2.1, fun y hy e => ?_⟩
  · exact (a6 y hy).1.elim (fun z => absurd e z) id
  · exact (a6 y hy).2.2.elim (fun z => absurd e z) id
section
variable {X : Cx} {pins : List (Addr × Obj)} {σ : L2.St} {H : Hp} {s : Shared}
theorem LamP.has {N : List Str} {scope : Scope} {p : Str} {j : Nat} (L : LamP N X.env.scope scope p j) (ok : X.Ok) : ∀ y ∈ scope.names, y.2 = .free → ∃ c, X.env.cells.lookup y.1 = some c := fun y hy e =>
  (L.fr y hy e).elim (fun k => ok.has _ (.inl k)) (fun k => ok.has _ (.inr k))
theorem lamP_start {A : Around} {E : XK} {scope : Scope} {f c' : Addr} {h₁ : Heap} {tk j : Nat} {p : Str} {v : V} {u : Value} (I : Inv X pins σ H s) (hN : X.N.Nodup) (L : LamP X.N X.env.scope scope p j) (e0 : Env0 X.prog X.w X.K X.mg X.base A X.stack s H) (hd : A.handled = none) (r : RelV v u)
    (hns : h₁.Ns s.heap.objs.size fun y => ([(p, u)] : List (Str × Value)).reverse.lookup y) (kp : ∀ b o, s.heap.get? b = some o → h₁.get? b = some o) :
    Inv (LamX.lamCx X A X.stack s H E scope f c') [] (σ.set j (some v)) H { s with heap := h₁, toks := tk } := by
  have cm : ∀ {y c}, (cloFrom X.env.cells scope.names []).lookup y = some c → X.env.cells.lookup y = some c := fun {y c} e => by
    cases cloFrom_mem (PySem.mem_of_lookup e) with
    | inl z => cases z
    | inr z =>
      obtain ⟨z1, z2⟩ := z
      obtain ⟨c1, q⟩ := L.has I.ok _ z1 rfl
      have q : X.env.cells.lookup y = some c1 := q
      rw [q] at z2
      rw [show c = c1 from z2]
      exact q
  have look : ∀ {y}, scope.names.lookup y = some .free → ∃ c, (cloFrom X.env.cells scope.names []).lookup y = some c := fun {y} hl =>
    mem_lookup (cloFrom_has (cells := X.env.cells) (acc := []) (show (y, NameKind.free) ∈ scope.names from PySem.mem_of_lookup hl))
  have cellK : ∀ {c : Addr} {x : Option Value}, s.heap.IsCell c x → h₁.IsCell c x := fun {c x} ⟨o, q1, q2⟩ => ⟨o, kp _ _ q1, q2⟩
  have noA : ∀ b : Addr, b ∉ (LamX.lamCx X A X.stack s H E scope f c').ex := fun b z => nomatch (show b ∈ ([] : List Addr) from z)
  have ok : (LamX.lamCx X A X.stack s H E scope f c').Ok := by
    refine ⟨e0.mod, L.kind, rfl, rfl, Nat.le_refl _, fun y z c e1 e2 => I.ok.inj y z c (cm e1) (cm e2), fun y hy => ?_, fun y c z _ => ?_, fun _ => hd, Around.frames_deeper e0.frames, .inr ⟨rfl, rfl⟩, fun b z => absurd z (noA b), e0.bs, e0.bsz, fun b _ _ => noA b,
      fun b z => absurd z (noA b), e0.funs, e0.frf⟩
    · rcases (show scope.names.lookup y = some .cell ∨ scope.names.lookup y = some .free from hy) with q | q
      · exact absurd rfl (L.noc _ (PySem.mem_of_lookup q))
      · exact look q
    · exact nomatch (show false = true from z)
  refine ⟨ok, rfl, e0.bare, Un.kept kp, ⟨_, hns, fun i y x e1 e2 e3 => ?_⟩, fun y c e => ?_, e0.hok.fresh (Nat.le_refl _), fun y c e => ?_, fun q hq => absurd (show q ∈ ([] : List (Addr × Obj)) ++ [] from hq) (by simp), e0.hok.kept kp, by rw [List.length_set]; exact I.len⟩
  · have e1 : X.N[i]? = some y := e1
    have vis : scope.names.lookup y = some .local ∨ scope.names.lookup y = some .cell ∨ scope.names.lookup y = some .free := e3
    by_cases hy : y = p
    · have hij : i = j := nodup_ix hN (e1.trans (by rw [hy])) L.ix
      rw [hij] at e2
      have hlt : j < σ.length := by
        rw [I.len]
        exact (List.getElem?_eq_some_iff.mp L.ix).1
      rw [List.getElem?_set_self hlt] at e2
      obtain rfl : v = x := Option.some.inj (Option.some.inj e2)
      refine ⟨u, r, .inl ⟨?_, ?_⟩⟩
      · rw [hy]
        exact L.par
      · rw [hy]
        show ([(p, u)] : List (Str × Value)).reverse.lookup p = some u
        simp
    · have hij : i ≠ j := fun z => by
        rw [z] at e1
        exact hy (Option.some.inj (e1.symm.trans L.ix))
      rw [List.getElem?_set_ne (Ne.symm hij)] at e2
      rcases vis with k | k | k
      · exact absurd (L.loc _ (PySem.mem_of_lookup k) rfl) hy
      · exact absurd rfl (L.noc _ (PySem.mem_of_lookup k))
      · obtain ⟨m, hn, hl⟩ := I.loc
        have hf := L.fr _ (PySem.mem_of_lookup k) rfl
        obtain ⟨w', r', q⟩ := hl i y x e1 e2 (.inr hf)
        obtain ⟨c2, h2⟩ := look k
        have c1 := cm h2
        refine ⟨w', r', .inr ⟨.inr k, c2, h2, ?_⟩⟩
        rcases q with ⟨k', _⟩ | ⟨_, c3, e', z⟩
        · have k' : X.env.scope.names.lookup y = some .local := k'
          rcases hf with k2 | k2 <;> (have k2 : X.env.scope.names.lookup y = _ := k2) <;> rw [k2] at k' <;> cases k'
        · rw [c1] at e'
          cases e'
          exact cellK z
  · obtain ⟨w', z⟩ := I.cell y c (cm e)
    exact ⟨w', cellK z⟩
  · exact I.freeC y c (cm e)
/-- the call of the lambda, anywhere below the context -/
theorem lamP_call {A : Around} {params : Arguments} {body : Expr} {scope : Scope} {f c' : Addr} {pm ctv : Value} {j : Nat} {p : Str} {v : V} {u : Value} {t : XK → TE} {Q : VK} {xe : Value → Shared → Prop}
    (I : Inv X pins σ H s) (hN : X.N.Nodup) (L : LamP X.N X.env.scope scope p j) (e0 : Env0 X.prog X.w X.K X.mg X.base A X.stack s H) (hr : Room 1 A) (r : RelV v u)
    (hf : s.heap.get? f = some (PySem.W.kla_obj "<lambda>" (X.env.qual ++ "<lambda>") params body scope (cloFrom X.env.cells scope.names []) pm c' ctv)) (hc : H c' = some (LamX.CodeO c' (X.env.qual ++ "<lambda>")))
    (hbind : bindArgs (PySem.W.kla_fn "<lambda>" (X.env.qual ++ "<lambda>") params body scope (cloFrom X.env.cells scope.names []) pm (.ref c') ctv) ⟨[u], []⟩ = pure [(p, u)])
    (hbody : ∀ (A : Around) (s : Shared) (H : Hp) (E : XK), PE (LamX.lamCx X A X.stack s H E scope f c') body (t E)) (h : t C8.E0 (σ.set j (some v)) H Q) :
    wpAny (model X.prog X.w) A (call (.ref f) [u]) (EP X pins σ Q) xe s := by
  obtain ⟨⟨oc, vs, tq, oc1, oc2, oc3⟩, _, _⟩ := I.hok c' _ hc
  have run : codeAny (model X.prog X.w) A (.call (.ref f) ⟨[u], []⟩) (CR (L2.CX X.prog X.w) X.stack X.prog X.w H s Q C8.E0) s := by
    refine PySem.W.kla_callFunE hr.depth hf rfl L.co L.gen rfl ⟨c', oc, vs, tq, rfl, oc1, oc2, oc3⟩ ?_
    rw [hbind]
    refine wpAny_pure (wpAny_newFunctionEnv (fun y hy => L.noc y hy) (fun y hy => ?_) (fun h1 nsl small => ⟨I.nolimit.fresh _ small, ?_⟩) L.kind)
    · obtain rfl : y = (p, u) := by simpa using hy
      exact L.par
    have up : ∀ b o, s.heap.get? b = some o → h1.get? b = some o := fun b o e => small.extBut b o (Nat.ne_of_lt (Heap.lt_size e)) (Heap.get?_push_of_some _ e)
    have J := lamP_start (E := C8.E0) (f := f) (c' := c') (tk := s.toks + ([(p, u)] : List (Str × Value)).length) I hN L e0 hr.hd r nsl up
    refine PySem.W.kla_codeExpr (wpAny_mono ((hbody A s H C8.E0).run [] _ _ H Q J h) (fun v s' hq => ?_) fun e s' hq => hq)
    obtain ⟨v2, H2, J2, rv, q⟩ := hq
    exact ⟨v2, H2, J2.os, J2.bare, J2.base, J2.hok, rv, q⟩
  refine wpAny_call (codeAny_mono run fun r s' hq => ?_)
  match r, hq with
  | .error e, hq =>
    obtain ⟨_, _, _, _, _, _, _, _, _, _, _, _, z⟩ := hq
    exact z.elim
  | .ok (.ret u), hq => exact I.after hq
  | .ok .next, hq => exact False.elim hq
  | .ok .brk, hq => exact False.elim hq
  | .ok .cont, hq => exact False.elim hq
end
/-! ### what sorted walks -/
def SrcV (K : PySem.W.Frag) (H : Hp) (x : V) (xs : List V) : Prop := ∃ a, x = .ref a ∧ (SqL K H a xs ∨ ∃ lo hi, H a = some (.rng lo hi) ∧ RgOk lo hi ∧ xs = rgV lo hi)
theorem SrcV.ext {K : PySem.W.Frag} {H H1 : Hp} {x : V} {xs : List V} (e : LamX.ExtN H H1) (h : SrcV K H x xs) : SrcV K H1 x xs := by
  obtain ⟨a, q, h⟩ := h
  refine ⟨a, q, h.imp (fun h => h.imp (fun h => ?_) id) fun ⟨lo, hi, h1, h2⟩ => ⟨lo, hi, e _ _ h1 (fun _ z => by cases z), h2⟩⟩
  rcases h with h | ⟨o, h⟩
  · exact .inl (e _ _ h fun _ z => by cases z)
  · exact .inr ⟨o, e _ _ h fun _ z => by cases z⟩
section
variable {X : Cx} {pins : List (Addr × Obj)} {σ : L2.St} {H : Hp} {s : Shared}
theorem collect_src {A : Around} {x : V} {xs : List V} {u : Value} {Q : List Value → Shared → Prop} {E : Value → Shared → Prop} (I : Inv X pins σ H s) (hh : A.handled = none) (h : SrcV X.K H x xs) (r : RelV x u)
    (k : ∀ (h' : Heap) (tk : Nat) (vs : List Value), (∀ b o, s.heap.get? b = some o → h'.get? b = some o) → Vals xs vs → vs.length ≤ sizeLine → Q vs { s with heap := h', toks := tk }) : wpAny (model X.prog X.w) A (collect u) Q E s := by
  obtain ⟨a, rfl, h⟩ := h
  obtain rfl : u = Value.ref a := r
  rcases h with h | ⟨lo, hi, h1, ⟨b1, b2, b3, b4, b5⟩, rfl⟩
  · obtain ⟨its, rv, pl, hz⟩ := I.list h
    refine PyProof.Rows.collect_list pl.isList (k _ s.toks its (fun b o e => ?_) rv (by rw [← rv.length]; exact hz)) (by rw [← rv.length]; exact hz)
    rw [Heap.get?_update_ne _ _ _ _ (Nat.ne_of_lt (Heap.lt_size e))]
    exact Heap.get?_push_of_some _ e
  · obtain ⟨t, u, v, ho⟩ := I.hok _ _ h1
    refine collect_range (n := (hi - lo).toNat) hh (a := lo) (b := hi) (c := 1) (t := t) (u := u) (v := v) ho (small_one b1 b2 b3 b4) (rangeSize_nat lo hi) b5 fun h' tk acc hk hi' => ?_
    have q := vals_rg hi'
    exact k h' tk _ hk q (by rw [← q.length, rgV_length, sizeLine_eq]; omega)
end
/-- sorted(u, ..): a new list of what u gives, then its method -/
theorem sorted_src {prog : Program} {w : World} {A : Around} {E : Value → Shared → Prop} {s : Shared} {u : Value} {kw : List (Str × Value)} {Q : Value → Shared → Prop} {P : List Value → Prop} (ha1 : argsOk "sorted" ⟨[u], kw⟩) (ha2 : ∀ x, argsOk "list.sort" ⟨[.ref x], kw⟩) (hL : ∀ vs, P vs → vs.length ≤ sizeLine)
    (col : ∀ Q' : List Value → Shared → Prop, (∀ (h' : Heap) (tk : Nat) (vs : List Value), (∀ b o, s.heap.get? b = some o → h'.get? b = some o) → P vs → Q' vs { s with heap := h', toks := tk }) → wpAny (model prog w) A.in1 (collect u) Q' E s)
    (body : ∀ (E' : Value → Shared → Prop) (h' : Heap) (tk : Nat) (vs : List Value), (∀ b o, s.heap.get? b = some o → h'.get? b = some o) → P vs →
      wpAny (model prog w) A.in1.in1 (Builtin.«list.sort» ⟨[.ref h'.objs.size], kw⟩) (fun f s' => f = .done (.ret .none) ∧ Q (.ref h'.objs.size) s') E' { s with heap := h'.push (seqObj "list" vs.toArray 0), toks := tk }) :
    wpAny (model prog w) A (call (.builtin "sorted") [u] kw) Q E s := by
  refine call_function_entry_kw kind_sorted plain_sorted entry_sorted ha1 ?_
  unfold Builtin.«sorted»
  refine wpAny_bind (m := checkCount "sorted" 1 1 _) (wpAny_pure ?_)
  refine wpAny_bind (col _ fun h' tk vs hk hv => ?_)
  refine wpAny_bind (wpAny_newList ?_ (hL vs hv))
  have at_ : (h'.push (seqObj "list" vs.toArray 0)).get? h'.objs.size = some (seqObj "list" vs.toArray 0) := Heap.get?_push_size _ rfl
  refine wpAny_bind (wpAny_holding (wpAny_call_entry_kw (T := "list") slot_list_sort ⟨_, at_, rfl⟩ entry_list_sort ?_ (ha2 _)))
  refine wpAny_mono (body _ h' tk vs hk hv) (fun f s' q => ?_) fun _ _ e => e
  obtain ⟨rfl, q⟩ := q
  exact ⟨_, rfl, wpAny_pure ⟨_, rfl, q⟩⟩
end Ev
namespace Ev
open PySem PySem.Spec PySem.Calls PyProof.Rows L2
/-! ### sorted(xs, key=lambda p: ..) with ints or pairs of ints as keys -/
def keysM (mk : PV → MH → R PV) : List PV → MH → R (List PV)
  | [], mh => .ok [] mh
  | v :: vs, mh => match mk v mh with
    | .ok k mh1 => match keysM mk vs mh1 with
      | .ok ks mh2 => .ok (k :: ks) mh2
      | _ => .bad
    | _ => .bad
def intK : PV → Option PyData
  | .int i => some (.int i)
  | _ => none
def prK : PV → Option PyData
  | .tup [.int i, .int j] => some (.tuple [.int i, .int j])
  | _ => none
def keysD (ks : List PV) : Option (List PyData) := match allD intK ks with
  | some ds => some ds
  | none => allD prK ks
def sortBy (b : Bool) (vs : List PV) (ds : List PyData) : List PV := ((vs.zip ds).mergeSort (PySem.W.dataLe b Prod.snd)).map Prod.fst
def mSrcL (ma : PEnv → MH → R PV) : PEnv → MH → R (List PV) := fun env mh => (ma env mh).bind fun v mh1 => match v with
  | .ref n => match mh1[n]? with
    | some (.lst xs) => .ok xs mh1
    | _ => .bad
  | _ => .bad
def mSrcR (ma : PEnv → MH → R PV) : PEnv → MH → R (List PV) := fun env mh => (ma env mh).bind fun v mh1 => match v with
  | .int i => if rgB 0 i = true then .ok (rgPV 0 i) mh1 else .bad
  | _ => .bad
def mSortKey (b : Bool) (j : Nat) (ms : PEnv → MH → R (List PV)) (mk : PEnv → MH → R PV) : PEnv → MH → R PV := fun env mh => (ms env mh).bind fun vs mh1 => match keysM (fun v h => mk (env.set j (some v)) h) vs mh1 with
  | .ok ks mh2 => match keysD ks with
    | some ds => .ok (.ref mh2.length) (mh2 ++ [.lst (sortBy b vs ds)])
    | none => .bad
  | _ => .bad
section
variable {K : KW} {ρ : List Addr} {H : Hp}
theorem keysD_shape {ks : List PV} {ds : List PyData} (h : keysD ks = some ds) : (∃ is : List Int, ds = is.map .int ∧ ks = is.map .int) ∨ ∃ is : List (Int × Int), ds = is.map (fun p => .tuple [.int p.1, .int p.2]) ∧ ks = is.map fun p => .tup [.int p.1, .int p.2] := by
  have i1 : ∀ (ks : List PV) (ds : List PyData), allD intK ks = some ds → ∃ is : List Int, ds = is.map .int ∧ ks = is.map .int := by
    intro ks
    induction ks with
    | nil => intro ds e; cases e; exact ⟨[], rfl, rfl⟩
    | cons k ks ih =>
      intro ds e
      unfold allD at e
      split at e
      · rename_i d e1
        split at e
        · rename_i ds' e2
          cases e
          obtain ⟨is, q1, q2⟩ := ih _ e2
          unfold intK at e1
          split at e1
          · rename_i i
            cases e1
            exact ⟨i :: is, by rw [q1]; rfl, by rw [q2]; rfl⟩
          · cases e1
        · cases e
      · cases e
  have i2 : ∀ (ks : List PV) (ds : List PyData), allD prK ks = some ds → ∃ is : List (Int × Int), ds = is.map (fun p => .tuple [.int p.1, .int p.2]) ∧ ks = is.map fun p => .tup [.int p.1, .int p.2] := by
    intro ks
    induction ks with
    | nil => intro ds e; cases e; exact ⟨[], rfl, rfl⟩
    | cons k ks ih =>
      intro ds e
      unfold allD at e
      split at e
      · rename_i d e1
        split at e
        · rename_i ds' e2
          cases e
          obtain ⟨is, q1, q2⟩ := ih _ e2
          unfold prK at e1
          split at e1
          · rename_i i j
            cases e1
            exact ⟨(i, j) :: is, by rw [q1]; rfl, by rw [q2]; rfl⟩
          · cases e1
        · cases e
      · cases e
  unfold keysD at h
  split at h
  · rename_i ds' e
    cases h
    exact .inl (i1 _ _ e)
  · exact .inr (i2 _ _ h)
theorem keysD_len {ks : List PV} {ds : List PyData} (h : keysD ks = some ds) : ds.length = ks.length := by
  rcases keysD_shape h with ⟨is, rfl, rfl⟩ | ⟨is, rfl, rfl⟩ <;> simp
theorem keysD_dp {ks : List PV} {kws : List V} {ds : List PyData} (h : keysD ks = some ds) (r : RVs K ρ H ks kws) : DpAll K.k H kws ds := by
  rcases keysD_shape h with ⟨is, rfl, rfl⟩ | ⟨is, rfl, rfl⟩
  · rw [r.ints]
    exact dpAll_ints _ _ _
  · clear h
    induction is generalizing kws with
    | nil => cases r; exact .nil
    | cons p is ih =>
      cases r with
      | cons r1 r2 =>
        refine .cons ?_ (ih r2)
        cases r1 with
        | tup h1 h2 =>
          refine .tup h1 ?_
          have := RVs.ints (ns := [p.1, p.2]) h2
          rw [this]
          exact dpAll_ints _ _ [p.1, p.2]
theorem keysD_alike {ks : List PV} {ds : List PyData} (h : keysD ks = some ds) : PySem.W.AllAlike ds ∧ PySem.W.Sortable ds ∧ ∀ d ∈ ds, d.depth ≤ 2 := by
  rcases keysD_shape h with ⟨is, rfl, rfl⟩ | ⟨is, rfl, rfl⟩
  · refine ⟨.of fun _ _ => by simp [PySem.W.alike], .others fun b => ⟨fun z => (by cases z), fun _ z => (by cases z)⟩, fun d hd => ?_⟩
    obtain ⟨i, _, rfl⟩ := List.mem_map.mp hd
    simp [PyData.depth]
  · refine ⟨.of fun _ _ => by simp [PySem.W.alike, PySem.W.alikeAll], .tuples fun b => ⟨_, _, rfl⟩, fun d hd => ?_⟩
    obtain ⟨i, _, rfl⟩ := List.mem_map.mp hd
    simp [PyData.depth, PyData.depthAll]
theorem each_of_reads {h : Heap} : ∀ {vs : List Value} {ds : List PyData} {as : List Addr}, ReadsAll h vs ds as → PySem.W.EachIs (fun v d => ∃ as, Reads h v d as) vs ds
  | _, _, _, .nil => .nil
  | _, _, _, .cons a b => .cons ⟨_, a⟩ (each_of_reads b)
theorem keysM_len (mk : PV → MH → R PV) : ∀ (vs : List PV) (mh : MH) (ks : List PV) (mh2 : MH), keysM mk vs mh = .ok ks mh2 → ks.length = vs.length
  | [], mh, ks, mh2, h => by
    unfold keysM at h
    cases h
    rfl
  | v :: vs, mh, ks, mh2, h => by
    unfold keysM at h
    split at h
    · split at h
      · rename_i e
        cases h
        rw [List.length_cons, List.length_cons, keysM_len mk vs _ _ _ e]
      · cases h
    · cases h
/-- items, their values, their keys -/
theorem each_three : ∀ {ws : List V} {vs : List Value} {pvs : List PV} {ds : List PyData}, Vals ws vs → pvs.length = ws.length → ds.length = ws.length → PySem.W.EachIs (fun (u : Value) (t : (V × PV) × PyData) => RelV t.1.1 u) vs ((ws.zip pvs).zip ds)
  | _, _, [], [], .nil, _, _ => .nil
  | _, _, p :: ps, d :: ds, .cons a b, h1, h2 => .cons a (each_three b (Nat.succ.inj h1) (Nat.succ.inj h2))
  | _, _, [], _ :: _, _, h1, h2 => (by rw [← h1] at h2; cases h2)
  | _, _, _ :: _, [], _, h1, h2 => (by rw [← h2] at h1; cases h1)
theorem vals_each {β : Type} (g : β → V) : ∀ {us : List Value} {ts : List β}, PySem.W.EachIs (fun u t => RelV (g t) u) us ts → Vals (ts.map g) us
  | _, _, .nil => .nil
  | _, _, .cons a b => .cons a (vals_each g b)
theorem rvs_each : ∀ {ts : List ((V × PV) × PyData)}, (∀ t ∈ ts, RV K ρ H t.1.2 t.1.1) → RVs K ρ H (ts.map fun t => t.1.2) (ts.map fun t => t.1.1)
  | [], _ => .nil
  | t :: ts, h => .cons (h t (List.mem_cons_self ..)) (rvs_each fun x hx => h x (List.mem_cons_of_mem _ hx))
theorem rvs_three : ∀ {ws : List V} {pvs : List PV} {ds : List PyData}, RVs K ρ H pvs ws → ∀ t ∈ (ws.zip pvs).zip ds, RV K ρ H t.1.2 t.1.1
  | _, _, _, .nil, t, ht => by simp at ht
  | _, _, [], .cons _ _, t, ht => by simp at ht
  | _, _, d :: ds, .cons a b, t, ht => by
    rw [List.zip_cons_cons, List.zip_cons_cons] at ht
    rcases List.mem_cons.mp ht with rfl | ht
    · exact a
    · exact rvs_three b t ht
theorem sortBy_eq (b : Bool) : ∀ {ws : List V} {pvs : List PV} {ds : List PyData}, pvs.length = ws.length → (((ws.zip pvs).zip ds).mergeSort (PySem.W.dataLe b Prod.snd)).map (fun t => t.1.2) = sortBy b pvs ds := by
  intro ws pvs ds h
  have e : ((ws.zip pvs).zip ds).map (fun t => (t.1.2, t.2)) = pvs.zip ds := by
    have e0 : pvs = (ws.zip pvs).map Prod.snd := (List.map_snd_zip (by omega)).symm
    conv => rhs; rw [e0]
    rw [List.zip_map_left]
    exact List.map_congr_left fun x _ => rfl
  unfold sortBy
  rw [← e, ← List.map_mergeSort (r := PySem.W.dataLe b Prod.snd) (s := PySem.W.dataLe b Prod.snd) (f := fun t : (V × PV) × PyData => (t.1.2, t.2)) (fun x _ y _ => rfl), List.map_map]
  rfl
end
end Ev
namespace Ev
open PySem PySem.Spec PySem.Calls PyProof.Rows L2
section
variable {X : Cx} {pins : List (Addr × Obj)} {σ : L2.St} {W : WX}
/-- the state between two calls of the key -/
def KeyAt (X : Cx) (pins : List (Addr × Obj)) (σ : L2.St) (f a kS c' : Addr) (fo : Obj) (e1 : Nat) (ρ0 : List Addr) (H0 : Hp) (mkE : PV → MH → R PV) (vs ks : List PV) (mh2 : MH) (i : Nat) (s : Shared) : Prop :=
  ∃ (ρ : List Addr) (H : Hp) (mh : MH) (kws : List V) (kA : Array Value) (e : Nat), Inv X pins σ H s ∧ SimH X.kw ρ mh H ∧ Le X.kw ρ0 H0 ρ H ∧ FpOk X pins H kS ∧ FpOk X pins H a ∧ s.heap.get? kS = some (PyProof.Rows.seqObj "list" kA e) ∧ s.heap.get? a = some (PyProof.Rows.seqObj "list" #[] e1) ∧
    Vals kws kA.toList ∧ RVs X.kw ρ H (ks.take i) kws ∧ keysM mkE (vs.drop i) mh = .ok (ks.drop i) mh2 ∧ H c' = some (LamX.CodeO c' (X.env.qual ++ "<lambda>")) ∧ s.heap.get? f = some fo ∧ H f = none ∧ f ≠ X.env.locals ∧ f ∉ X.fs
theorem codeO_at {c : Addr} {q : Str} {φ : Heap → Prop} (h : LamX.CodeO c q = .ext φ) : ∃ h0 : Heap, h0.get? c = some { cls := .type "code", data := .fields #[.none, .str q 0] } ∧ φ h0 := by
  have e : (fun h : Heap => ∃ (oc : Obj) (vs : Array Value) (t : Tok), h.get? c = some oc ∧ oc.data = .fields vs ∧ vs[1]? = some (.str q t)) = φ := by
    unfold LamX.CodeO at h
    exact HO.ext.inj h
  have g : (({ objs := Array.replicate c default } : Heap).push { cls := .type "code", data := .fields #[.none, .str q 0] }).get? c = some { cls := .type "code", data := .fields #[.none, .str q 0] } := by
    have := Heap.get?_push_size ({ objs := Array.replicate c default } : Heap) (o := { cls := .type "code", data := .fields #[.none, .str q 0] }) rfl
    simpa using this
  exact ⟨_, g, by rw [← e]; exact ⟨_, _, 0, g, rfl, rfl⟩⟩
theorem codeO_off {H : Hp} {s : Shared} {ρ : List Addr} {mh : MH} {c' : Addr} {q : Str} (I : Inv X pins σ H s) (sh : SimH X.kw ρ mh H) (h : H c' = some (LamX.CodeO c' q)) : c' ∉ ρ := by
  intro hm
  obtain ⟨n, hn⟩ := List.getElem?_of_mem hm
  have hl := (List.getElem?_eq_some_iff.mp hn).1
  rw [sh.len] at hl
  have r := sh.ob n _ c' (List.getElem?_eq_getElem hl) hn
  have noE : ∀ φ : Heap → Prop, H c' = some (.ext φ) → ∃ h0 : Heap, h0.get? c' = some { cls := .type "code", data := .fields #[.none, .str q 0] } ∧ φ h0 := fun φ e => codeO_at (Option.some.inj (h.symm.trans e))
  have nF : ∀ o : HO, H c' = some o → (∀ φ, o ≠ .ext φ) → False := fun o e n => by
    rw [h] at e
    unfold LamX.CodeO at e
    exact n _ (Option.some.inj e).symm
  generalize mh[n] = o at r
  cases o with
  | lst vs =>
    obtain ⟨ws, e, _⟩ := r
    exact nF _ e (fun φ z => by cases z)
  | scr vs =>
    obtain ⟨ws, e | ⟨o, its, k, e1, e2, _, e4, _⟩, _⟩ := r
    · obtain ⟨o, e⟩ := e
      exact nF _ e (fun φ z => by cases z)
    · have a1 := I.kIn _ _ e1
      obtain ⟨⟨oc, vs, t, b1, b2, _⟩, _⟩ := I.hok _ _ h
      rw [a1] at b1
      cases b1
      rw [e4] at b2
      cases b2
  | dict kvs =>
    obtain ⟨ws, e, _⟩ := r
    exact nF _ e (fun φ z => by cases z)
  | ins c fs =>
    obtain ⟨dx, ws, e, _⟩ := r
    exact nF _ e (fun φ z => by cases z)
  | exo c v =>
    obtain ⟨d, w, e, _⟩ := r
    obtain ⟨h0, g, oe, vs, p1, p2, _⟩ := noE _ e
    rw [g] at p1
    cases p1
    have := p2
    unfold Zc at this
    simp at this
  | iset l =>
    obtain ⟨k, e, _⟩ := r
    obtain ⟨h0, g, R⟩ := noE _ e
    obtain ⟨o, _, _, _, ho, hx, hd, _⟩ := R
    rw [g] at ho
    cases ho
    cases hd
abbrev keyO (X : Cx) (params : Arguments) (body : Expr) (scope : Scope) (pm ctv : Value) (c' : Addr) : Obj := PySem.W.kla_obj "<lambda>" (X.env.qual ++ "<lambda>") params body scope (cloFrom X.env.cells scope.names []) pm c' ctv
theorem keysM_cons {mk : PV → MH → R PV} {v : PV} {vs ks : List PV} {mh mh2 : MH} (h : keysM mk (v :: vs) mh = .ok ks mh2) : ∃ k ks' mh1, mk v mh = .ok k mh1 ∧ keysM mk vs mh1 = .ok ks' mh2 ∧ ks = k :: ks' := by
  unfold keysM at h
  split at h
  · rename_i k mh1 e1
    split at h
    · rename_i ks' mh3 e2
      cases h
      exact ⟨k, ks', mh1, e1, e2, rfl⟩
    · cases h
  · cases h
theorem key_step {f a kS c' : Addr} {params : Arguments} {body : Expr} {scope : Scope} {pm ctv : Value} {e1 j i : Nat} {p : Str} {ρ0 : List Addr} {H0 : Hp} {mk : PEnv → MH → R PV} {env : PEnv} {vs ks : List PV} {mh2 : MH} {s : Shared} {v : PV} {w : V} {u : Value} {E : Value → Shared → Prop}
    (hN : X.N.Nodup) (L : LamP X.N X.env.scope scope p j) (hr : Room 3 X.A) (hbind : ∀ u : Value, bindArgs (PySem.W.kla_fn "<lambda>" (X.env.qual ++ "<lambda>") params body scope (cloFrom X.env.cells scope.names []) pm (.ref c') ctv) ⟨[u], []⟩ = pure [(p, u)])
    (hbody : ∀ (A : Around) (s : Shared) (H : Hp) (E : XK), PE (LamX.lamCx X A X.stack s H E scope f c') body (tE X.kw (fun c d _ H' => E c d H') mk)) (se : SimE X.kw ρ0 H0 env σ)
    (K0 : KeyAt X pins σ f a kS c' (keyO X params body scope pm ctv c') e1 ρ0 H0 (fun v h => mk (env.set j (some v)) h) vs ks mh2 i s) (hka : a ≠ kS) (hkf : f ≠ kS) (hv : vs[i]? = some v) (hw : RV X.kw ρ0 H0 v w) (hu : RelV w u) :
    wpAny (model X.prog X.w) X.A.in1.in1 (call (.ref f) [u]) (fun k s1 => ∃ (kA : Array Value) (e : Nat), s1.heap.get? kS = some (PyProof.Rows.seqObj "list" kA e) ∧ kA.size = i ∧ ∀ (h2 : Heap) (c2 tk : Nat), h2.get? kS = some (PyProof.Rows.seqObj "list" (kA.push k) c2) → (∀ b o, b ≠ kS → s1.heap.get? b = some o → h2.get? b = some o) →
      KeyAt X pins σ f a kS c' (keyO X params body scope pm ctv c') e1 ρ0 H0 (fun v h => mk (env.set j (some v)) h) vs ks mh2 (i + 1) { s1 with heap := h2, toks := tk }) E s := by
  obtain ⟨ρ, H, mh, kws, kA, e, I, sh, l0, fk, fa, gk, ga, rk, rks, ek, hc, gf, nf, nl, nfs⟩ := K0
  have hi : i < vs.length := (List.getElem?_eq_some_iff.mp hv).1
  have ed : vs.drop i = v :: vs.drop (i + 1) := by rw [List.drop_eq_getElem_cons hi, (List.getElem?_eq_some_iff.mp hv).2]
  rw [ed] at ek
  obtain ⟨k, ks', mh1, q1, q2, q3⟩ := keysM_cons ek
  have nc : ∀ x, (PyProof.Rows.seqObj "list" #[] e1 : Obj).data ≠ .cell x := fun x z => by cases z
  have I' : Inv X ((kS, PyProof.Rows.seqObj "list" kA e) :: (a, PyProof.Rows.seqObj "list" #[] e1) :: (f, keyO X params body scope pm ctv c') :: pins) σ H s := I.pins_of fun q hq => by
    rcases List.mem_cons.mp hq with rfl | hq
    · exact ⟨gk, fk.1, fk.2.1, fk.2.2.1, fun x z => by cases z⟩
    rcases List.mem_cons.mp hq with rfl | hq
    · exact ⟨ga, fa.1, fa.2.1, fa.2.2.1, nc⟩
    rcases List.mem_cons.mp hq with rfl | hq
    · exact ⟨gf, nf, nl, nfs, fun x z => by cases z⟩
    · exact I.pin q (List.mem_append_right _ hq)
  have off := codeO_off I sh hc
  refine wpAny_mono (lamP_call (A := X.A.in1.in1) (xe := E) (t := fun E => tE X.kw (fun c d _ H' => E c d H') mk) (Q := fun w' H' => ∃ ρ', Le X.kw ρ H ρ' H' ∧ SimH X.kw ρ' mh1 H' ∧ RV X.kw ρ' H' k w') I' hN L I.env0.in1.in1 hr.in1.in1 hu gf hc (hbind u) hbody
    ⟨ρ, env.set j (some v), mh, sh, (se.mono l0).set (hw.mono l0) j, ?_⟩) (fun k1 s1 hq => ?_) fun _ _ z => z
  · show Post X.kw ρ H (mk (env.set j (some v)) mh) _ _
    rw [q1]
    exact fun ρ' w' H' l' sh' rv' => ⟨ρ', l', sh', rv'⟩
  · obtain ⟨w1, H1, I1, r1, ρ1, l1, sh1, rv1⟩ := hq
    have p1 := I1.pin (kS, PyProof.Rows.seqObj "list" kA e) (List.mem_append_right _ (.head _))
    have p2 := I1.pin (a, PyProof.Rows.seqObj "list" #[] e1) (List.mem_append_right _ (.tail _ (.head _)))
    have p3 := I1.pin (f, keyO X params body scope pm ctv c') (List.mem_append_right _ (.tail _ (.tail _ (.head _))))
    have I2 : Inv X pins σ H1 s1 := I1.pins_of fun q hq => I1.pin q (List.mem_append_right _ (.tail _ (.tail _ (.tail _ hq))))
    have fk1 : FpOk X pins H1 kS := ⟨p1.2.1, fk.2⟩
    have hks : ks[i]? = some k := by
      have := congrArg (fun l => l[0]?) q3
      simpa using this
    have hlk : kA.size = i := by
      have h1 := rks.length
      rw [List.length_take] at h1
      have h2 : kws.length = kA.size := by rw [← Array.length_toList]; exact Paired.length rk
      have h3 := (List.getElem?_eq_some_iff.mp hks).1
      omega
    refine ⟨kA, e, p1.1, hlk, fun h2 c2 tk g2 keep => ?_⟩
    have I3 : Inv X pins σ H1 { s1 with heap := h2, toks := tk } := I2.turnedL (ch := [kS]) (fun b o hb z => keep b o (fun q => hb (by rw [q]; exact List.mem_singleton.mpr rfl)) z) (fun b hb => by rw [List.mem_singleton.mp hb]; exact fk1)
    refine ⟨ρ1, H1, mh1, kws ++ [w1], kA.push k1, c2, I3, sh1, l0.trans l1, fk1, ⟨p2.2.1, fa.2⟩, g2, keep _ _ hka p2.1, ?_, ?_, ?_, l1.kept _ _ hc off LamX.codeO_ne, keep _ _ hkf p3.1, p3.2.1, nl, nfs⟩
    · rw [Array.toList_push]
      exact rk.append (.cons r1 .nil)
    · rw [List.take_add_one, hks]
      exact (rks.mono l1).append (.cons rv1 .nil)
    · have : ks.drop (i + 1) = ks' := by
        have h3 := congrArg List.tail q3
        rw [List.tail_drop] at h3
        exact h3
      rw [this]
      exact q2
theorem key_end {f a kS c' : Addr} {fo : Obj} {e1 : Nat} {ρ0 : List Addr} {H0 : Hp} {mkE : PV → MH → R PV} {vs ks : List PV} {ds : List PyData} {ws : List V} {us : List Value} {mh2 : MH} {s : Shared} {b : Bool} {Q : VK} {Ex : Value → Option Addr → Hp → Prop} {E : Value → Shared → Prop} (hr : Room 3 X.A)
    (K0 : KeyAt X pins σ f a kS c' fo e1 ρ0 H0 mkE vs ks mh2 us.length s) (hka : a ≠ kS) (rws : RVs X.kw ρ0 H0 vs ws) (rus : Vals ws us) (hz : us.length ≤ sizeLine) (hl : ks.length = vs.length) (hd : keysD ks = some ds) (p : Post X.kw ρ0 H0 (.ok (.ref mh2.length) (mh2 ++ [.lst (sortBy b vs ds)])) Q Ex) :
    ∃ (kA : Array Value) (e : Nat), s.heap.get? kS = some (PyProof.Rows.seqObj "list" kA e) ∧ wpAny (model X.prog X.w) X.A.in1.in1 (PyProof.Rows.ksk_end a b us.toArray e1 (.ref kS) kA) (fun r s' => r = .done (.ret .none) ∧ EP X pins σ Q (.ref a) s') E s := by
  obtain ⟨ρ, H, mh, kws, kA, e, I, sh, l0, fk, fa, gk, ga, rk, rks, ek, hc, gf, nf, nl, nfs⟩ := K0
  have n1 := rws.length
  have n2 : ws.length = us.length := Paired.length rus
  rw [List.drop_of_length_le (by omega), List.drop_of_length_le (by omega)] at ek
  rw [List.take_of_length_le (by omega)] at rks
  obtain rfl : mh = mh2 := by
    unfold keysM at ek
    cases ek
    rfl
  refine ⟨kA, e, gk, ?_⟩
  have n3 := rks.length
  have n4 : kws.length = kA.size := by rw [← Array.length_toList]; exact Paired.length rk
  have n5 := keysD_len hd
  obtain ⟨k1, k2, k3⟩ := keysD_alike hd
  obtain ⟨as, rd⟩ := Dp.readsAll I ds kws kA.toList (keysD_dp hd rks) rk
  have re := each_of_reads rd
  obtain ⟨G, g1, g2⟩ := restrict s.heap fun b => decide (b ≠ kS)
  have gk1 : ∀ b o, b ≠ kS → s.heap.get? b = some o → G.get? b = some o := fun b o hb z => (g1 b (by simpa using hb)).trans z
  have gk2 : ∀ b o, G.get? b = some o → s.heap.get? b = some o := fun b o z => by
    by_cases hb : b = kS
    · rw [g2 b (by simpa using hb)] at z
      cases z
    · exact (g1 b (by simpa using hb)).symm.trans z
  refine PySem.W.keyH_end (κ := PySem.W.dataKind s.heap ds) (h₁ := G) (fun b o _ z => gk2 b o z) (g2 kS (by simp)) gk ga (Ne.symm hka) (PySem.W.SortsAt.data re k1 k2 fun d hd => ?_) (by omega) hz fun h' tk c hk ha => ⟨rfl, ?_⟩
  · have q1 := k3 d hd
    have q2 := hr.un
    show X.A.units + 1 + 1 + d.depth < cLine
    omega
  · have I1 : Inv X pins σ H { s with heap := G } := I.turnedL (t' := s.toks) (ch := [kS]) (fun b o hb z => gk1 b o (fun q => hb (by rw [q]; exact List.mem_singleton.mpr rfl)) z) (fun b hb => by rw [List.mem_singleton.mp hb]; exact fk)
    have em : (((ws.zip vs).zip ds).map Prod.snd) = ds := List.map_snd_zip (by rw [List.length_zip]; omega)
    have ko : PySem.W.KeyedOut b (((ws.zip vs).zip ds).map Prod.snd) us (PySem.W.sortVals (PySem.W.dataKind s.heap ds) b kA.toList us) := by
      rw [em]
      exact ⟨s.heap, kA.toList, k1, rfl, re⟩
    have eo := PySem.W.keyedOut_each Prod.snd ko (each_three rus (by omega) (by omega))
    have ml : ∀ t ∈ ((ws.zip vs).zip ds).mergeSort (PySem.W.dataLe b Prod.snd), RV X.kw ρ H t.1.2 t.1.1 := fun t ht => (rvs_three rws t (List.mem_mergeSort.mp ht)).mono l0
    have rv := rvs_each ml
    rw [sortBy_eq b (by omega)] at rv
    have vo := vals_each (fun t : (V × PV) × PyData => t.1.1) eo
    have lo : (PySem.W.sortVals (PySem.W.dataKind s.heap ds) b kA.toList us).length = us.length := by
      rw [eo.length, List.length_mergeSort, List.length_zip, List.length_zip]
      omega
    refine ⟨.ref a, upd H a (.lst _), I1.take (t' := tk) hk fa (show ObjOk X.prog X.w _ h' a (.lst _) from ⟨?_, _, c, vo, ha⟩), rfl, (Post.le l0 p).newLst sh rv fa.1⟩
    rw [Paired.length vo, lo]
    exact hz
theorem key_rest {f a kS c' : Addr} {params : Arguments} {body : Expr} {scope : Scope} {pm ctv : Value} {e1 j : Nat} {q : Str} {ρ0 : List Addr} {H0 : Hp} {mk : PEnv → MH → R PV} {env : PEnv} {vs ks : List PV} {ds : List PyData} {ws : List V} {us : List Value} {mh2 : MH} {s : Shared} {b : Bool} {Q : VK} {Ex : Value → Option Addr → Hp → Prop} {E : Value → Shared → Prop}
    (hN : X.N.Nodup) (L : LamP X.N X.env.scope scope q j) (hr : Room 3 X.A) (hbind : ∀ u : Value, bindArgs (PySem.W.kla_fn "<lambda>" (X.env.qual ++ "<lambda>") params body scope (cloFrom X.env.cells scope.names []) pm (.ref c') ctv) ⟨[u], []⟩ = pure [(q, u)])
    (hbody : ∀ (A : Around) (s : Shared) (H : Hp) (E : XK), PE (LamX.lamCx X A X.stack s H E scope f c') body (tE X.kw (fun c d _ H' => E c d H') mk)) (se : SimE X.kw ρ0 H0 env σ)
    (K0 : KeyAt X pins σ f a kS c' (keyO X params body scope pm ctv c') e1 ρ0 H0 (fun v h => mk (env.set j (some v)) h) vs ks mh2 0 s) (hka : a ≠ kS) (hkf : f ≠ kS) (rws : RVs X.kw ρ0 H0 vs ws) (rus : Vals ws us) (hz : us.length ≤ sizeLine) (hl : ks.length = vs.length) (hd : keysD ks = some ds)
    (p : Post X.kw ρ0 H0 (.ok (.ref mh2.length) (mh2 ++ [.lst (sortBy b vs ds)])) Q Ex) :
    wpAny (model X.prog X.w) X.A.in1.in1 (PyProof.Rows.ksk_rest a (.ref f) b us.toArray e1 (.ref kS)) (fun r s' => r = .done (.ret .none) ∧ EP X pins σ Q (.ref a) s') E s := by
  unfold PyProof.Rows.ksk_rest
  refine wpAny_bind (wpAny_rule ?_)
  first
    | rw [List.forIn_toArray]
    | (rw [← Array.forIn_toList]; simp only [List.toList_toArray])
  refine wpAny_bind (PyProof.Rows.ksk_fold (fun i s' => KeyAt X pins σ f a kS c' (keyO X params body scope pm ctv c') e1 ρ0 H0 (fun v h => mk (env.set j (some v)) h) vs ks mh2 i s') us 0 s K0 (fun i u s1 hu K1 => ?_) fun s1 K1 => ?_)
  · rw [Nat.zero_add] at K1 ⊢
    have n1 := rws.length
    have n2 : ws.length = us.length := Paired.length rus
    have hi := (List.getElem?_eq_some_iff.mp hu).1
    have hv : vs[i]? = some vs[i] := List.getElem?_eq_getElem (by omega)
    obtain ⟨w, hw, rw⟩ := rws.get hv
    have ru : RelV w u := by
      obtain ⟨u', e1, e2⟩ := Vals.get rus hw
      rw [hu] at e1
      cases e1
      exact e2
    refine wpAny_bind (wpAny_attempt (wpAny_mono (key_step hN L hr hbind hbody se K1 hka hkf hv rw ru) (fun k s2 q => ?_) fun _ _ z => z))
    obtain ⟨kA, e, g, hs, hk⟩ := q
    have c2 := PyProof.Rows.get?_update_seq g (·.push k)
    refine wpAny_bind (PyProof.Rows.listUpdate_at g rfl ?_ (by omega) (by rw [Array.size_push]; omega))
    exact wpAny_pure ⟨rfl, hk _ _ s2.toks c2 fun b o hb z => (Heap.get?_update_ne _ _ _ _ hb).trans z⟩
  · rw [Nat.zero_add] at K1
    obtain ⟨kA, e, g, h⟩ := key_end (E := E) hr K1 hka rws rus hz hl hd p
    exact wpAny_bind (PyProof.Rows.listItems_at g rfl h)
end
end Ev
namespace Ev
open PySem PySem.Spec PySem.Calls PyProof.Rows L2
section
variable (K : KW) (ρ : List Addr) (H : Hp) (W : WX)
def PostSrc (r : R (List PV)) (Q : VK) (E : Value → Option Addr → Hp → Prop) : Prop := match r with
  | .ok vs mh' => ∀ ρ' x xs H', Le K ρ H ρ' H' → SimH K ρ' mh' H' → RVs K ρ' H' vs xs → SrcV K.k H' x xs → Q x H'
  | .exc c v mh' => ∀ ρ' w d H', Le K ρ H ρ' H' → SimH K ρ' mh' H' → RV K ρ' H' v w → H' d = some (.xd [("value", w)]) → E (.ref (He.ga K.k c)) (some d) H'
  | .bad => False
def tSrcE (ms : PEnv → MH → R (List PV)) : TE := fun σ H Q => ∃ ρ env mh, SimH K ρ mh H ∧ SimE K ρ H env σ ∧ PostSrc K ρ H (ms env mh) Q (fun c d H' => W c d σ H')
end
section
variable {X : Cx} {W : WX} {e a : Expr} {ma mk : PEnv → MH → R PV} {ms : PEnv → MH → R (List PV)}
theorem src_list (h : RE X W e ma) : PE X e (tSrcE X.kw W (mSrcL ma)) := h.imp fun σ H Q q => by
  obtain ⟨ρ, env, mh, sh, se, p⟩ := q
  refine ⟨ρ, env, mh, sh, se, ?_⟩
  unfold mSrcL at p
  generalize ma env mh = r at p
  cases r with
  | ok v mh1 =>
    intro ρ' w H' l s r
    simp only [R.bind] at p
    split at p
    · rename_i n
      split at p
      · rename_i xs e1
        cases r with
        | ref h1 =>
          obtain ⟨ws, q1, q2⟩ := s.ob _ _ _ e1 h1
          exact p ρ' _ ws H' l s q2 ⟨_, rfl, .inl (.inl (.inl q1))⟩
      · exact p.elim
    · exact p.elim
  | exc c v mh1 => exact p
  | bad => exact p.elim
theorem pe_range1 {ta : TE} {p pos : Pos} (hg : Gl X "range") (hm : X.mg "range" = none) (ha : PE X a ta) (na : starEach [a] X.env = (false, eval a X.env) :: starEach [] X.env := by rfl) :
    PE X (.Call (.Name "range" p) [a] [] pos) (fun σ H Q => ta σ H fun x H1 => ∃ n, x = .int n ∧ ∀ q, H1 q = none → Q (.ref q) (upd H1 q (.rng 0 n))) := by
  refine ⟨fun pins s σ H Q I h => ?_⟩
  refine Call_ (ld_blt I hg hm boot_range (PyProof.Rows.callWith_type1 (one_arg ha I h (fun v s2 x H2 I2 r q => ?_) na) na))
  obtain ⟨n, rfl, q⟩ := q
  obtain ⟨t, rfl⟩ := r
  refine call_range_1 ⟨.ref _, upd H2 _ (.rng 0 n), I2.laid (t' := s2.toks + 2) (fun b o z => Heap.get?_push_of_some _ z) (Nat.le_refl _) ?_, rfl, q _ (I2.hok.fresh (Nat.le_refl _))⟩
  exact ⟨_, _, _, Heap.get?_push_size _ rfl⟩
theorem src_range {p pos : Pos} (hg : Gl X "range") (hm : X.mg "range" = none) (ha : RE X W a ma) (na : starEach [a] X.env = (false, eval a X.env) :: starEach [] X.env := by rfl) : PE X (.Call (.Name "range" p) [a] [] pos) (tSrcE X.kw W (mSrcR ma)) :=
  (pe_range1 hg hm ha na).imp fun σ H Q q => by
    obtain ⟨ρ, env, mh, sh, se, p⟩ := q
    refine ⟨ρ, env, mh, sh, se, ?_⟩
    unfold mSrcR at p
    generalize ma env mh = r at p
    cases r with
    | ok v mh1 =>
      intro ρ' w H' l s r
      simp only [R.bind] at p
      split at p
      · rename_i i
        split at p
        · rename_i hb
          cases r with
          | int =>
            refine ⟨i, rfl, fun q hq => ?_⟩
            obtain ⟨s2, l2⟩ := s.tuple (o := .rng 0 i) hq
            exact p ρ' _ _ _ (l.trans l2) s2 (rg_rel _ _ _ _) ⟨q, rfl, .inr ⟨0, i, upd_same, rgB_ok hb, rfl⟩⟩
        · exact p.elim
      · exact p.elim
    | exc c v mh1 => exact p
    | bad => exact p.elim
def KeyWish (X : Cx) (W : WX) (j : Nat) (mk : PEnv → MH → R PV) (env : PEnv) (ρ : List Addr) (σ : L2.St) (H : Hp) (Q : VK) (l : List V) (H1 : Hp) : Prop :=
  ∃ x ρ1 xs vs ks ds mh1 mh2, l = [x] ∧ Le X.kw ρ H ρ1 H1 ∧ SimH X.kw ρ1 mh1 H1 ∧ RVs X.kw ρ1 H1 vs xs ∧ SrcV X.K H1 x xs ∧ keysM (fun v h => mk (env.set j (some v)) h) vs mh1 = .ok ks mh2 ∧ keysD ks = some ds ∧ Post X.kw ρ1 H1 (.ok (.ref mh2.length) (mh2 ++ [.lst (sortBy false vs ds)])) Q (fun c d H' => W c d σ H')
theorem re_sortKey {c P : Addr} {j : Nat} {q : Str} {params : Arguments} {body : Expr} {scope : Scope} {p1 lpos kp pos : Pos} (hc : X.calm = true) (hN : X.N.Nodup) (hg : Gl X "sorted") (hm : X.mg "sorted" = none) (hsrc : PE X e (tSrcE X.kw W ms)) (LH : LamHost X c P) (hr : Room 3 X.A) (L : LamP X.N X.env.scope scope q j)
    (hbody : ∀ (A : Around) (s : Shared) (H : Hp) (E : XK) (f c' : Addr), RE (LamX.lamCx X A X.stack s H E scope f c') (fun c d _ H' => E c d H') body mk)
    (hdef : defaultsOf params X.env = ([], []) := by rfl) (hbind : ∀ (q1 : Str) (cl : List (Str × Addr)) (pm cv ctv u : Value), bindArgs (PySem.W.kla_fn "<lambda>" q1 params body scope cl pm cv ctv) ⟨[u], []⟩ = pure [(q, u)] := by intro _ _ _ _ _ _; rfl)
    (hs : starEach [e] X.env = (false, eval e X.env) :: starEach [] X.env := by rfl) (he : backTo pos (starEach [e] X.env) = (false, eval e X.env) :: backTo pos (starEach [] X.env) := by rfl) (hpl : (backTo pos (starEach [e] X.env)).any (·.1) = false := by rfl) :
    RE X W (.Call (.Name "sorted" p1) [e] [⟨some "key", .Lambda params body scope lpos, kp⟩] pos) (mSortKey false j ms mk) := by
  refine ⟨fun pins s σ H Q I h => ?_⟩
  obtain ⟨ρ, env, mh, sh, se, p⟩ := h
  refine wpAny_Call_Name_kw (ld_blt I hg hm boot_sorted' ?_ (by decide) (by decide))
  have h1 : tCons (tSrcE X.kw W ms) tNil σ H (KeyWish X W j mk env ρ σ H Q) := by
    refine ⟨ρ, env, mh, sh, se, ?_⟩
    unfold mSortKey at p
    generalize ms env mh = r at p
    cases r with
    | ok vs mh1 =>
      intro ρ1 x xs H1 l1 sh1 rv sv
      have p := Post.le l1 p
      simp only [R.bind] at p
      split at p
      · rename_i ks mh2 e1
        split at p
        · rename_i ds e2
          exact ⟨x, ρ1, xs, vs, ks, ds, mh1, mh2, rfl, l1, sh1, rv, sv, e1, e2, p⟩
        · exact p.elim
      · exact p.elim
    | exc c v mh1 => exact p
    | bad => exact p.elim
  refine PyProof.Rows.callWith_kw (thn ((pa_cons hsrc pa_nil hs).run pos pins s σ H _ I h1) fun us s1 hq => ?_) he hpl rfl rfl
  obtain ⟨l, H1, I1, rl, x, ρ1, xs, vs, ks, ds, mh1, mh2, rfl, l1, sh1, rv, sv, e1, e2, pq⟩ := hq
  obtain ⟨u, rfl, ru⟩ : ∃ u, us = [u] ∧ RelV x u := by
    cases rl with
    | cons a b =>
      cases b
      exact ⟨_, rfl, a⟩
  show wpAny _ _ (evalAll [do let v ← eval (.Lambda params body scope lpos) X.env; standAt pos; pure v]) _ _ s1
  refine wpAny_evalAll_cons (wpAny_bind (LamX.lam_make2 I1 LH.tb LH.code LH.mem LH.one sh1.tabs hdef (L.has I1.ok) fun f c' pm ctv H2 s2 I2 eN T2 fs fnew foff code => wpAny_bind (wpAny_standAt (wpAny_pure (wpAny_evalAll_nil ?_)))))
  show wpAny _ _ (call (.builtin "sorted") [u] [(Str.ofString "key", .ref f)]) _ _ s2
  have l2 : Le X.kw ρ1 H1 ρ1 H2 := .of_ext eN
  have sh2 := sh1.of_ext eN T2
  have nl : f ≠ X.env.locals := fun z => by
    obtain ⟨m, ⟨o, es, ep, ho, r⟩, _⟩ := I2.loc
    rw [← z, fs] at ho
    cases ho
    cases r.1
  have nfs : f ∉ X.fs := fun z => foff (by
    rcases I2.ok.stk with q | ⟨q, q2⟩
    · rw [q]
      exact z
    · rw [q]
      unfold frs
      rw [List.filterMap_cons, q2]
      exact .tail _ z)
  refine sorted_src (P := fun us => Vals xs us ∧ us.length ≤ sizeLine) (PyProof.Rows.ksk_s1 _ _) (fun _ => PyProof.Rows.ksk_l1 _ _) (fun _ h => h.2) (fun Q' k => collect_src I2 hr.hd (sv.ext eN) ru fun h' tk vs hk rv hz => k h' tk vs hk ⟨rv, hz⟩) fun E' h' tk us hk hu => ?_
  obtain ⟨rus, hz⟩ := hu
  rw [PyProof.Rows.ksk_t1]
  have I3 : Inv X pins σ H2 { s2 with heap := h', toks := tk } := I2.kept hk
  have ga : (h'.push (PyProof.Rows.seqObj "list" us.toArray 0)).get? h'.objs.size = some (PyProof.Rows.seqObj "list" us.toArray 0) := Heap.get?_push_size _ rfl
  obtain ⟨e3, ga2⟩ : ∃ e3, ((h'.push (PyProof.Rows.seqObj "list" us.toArray 0)).update h'.objs.size (Obj.mapSeq fun _ => (#[] : Array Value))).get? h'.objs.size = some (PyProof.Rows.seqObj "list" #[] e3) := ⟨_, PyProof.Rows.get?_update_seq ga fun _ => #[]⟩
  unfold PyProof.Rows.ksk_tree
  refine wpAny_bind (PyProof.Rows.listItems_at ga rfl ?_)
  refine wpAny_bind (PyProof.Rows.listUpdate_at ga rfl ?_ (by rw [List.size_toArray]; exact hz) (Nat.zero_le _))
  refine wpAny_bind (PyProof.Rows.seqEpoch_at ga2 rfl ?_)
  refine wpAny_bind (wpAny_newTuple ?_ hz)
  refine wpAny_bind (wpAny_newList ?_ (Nat.zero_le _))
  refine wpAny_holding ?_
  have up : ∀ b o, h'.get? b = some o → ((((h'.push (PyProof.Rows.seqObj "list" us.toArray 0)).update h'.objs.size (Obj.mapSeq fun _ => (#[] : Array Value))).push (PyProof.Rows.seqObj "tuple" us.toArray 0)).push (PyProof.Rows.seqObj "list" #[] 0)).get? b = some o := fun b o z => by
    refine Heap.get?_push_of_some _ (Heap.get?_push_of_some _ ?_)
    rw [Heap.get?_update_ne _ _ _ _ (Nat.ne_of_lt (Heap.lt_size z))]
    exact Heap.get?_push_of_some _ z
  have hsz : (((h'.push (PyProof.Rows.seqObj "list" us.toArray 0)).update h'.objs.size (Obj.mapSeq fun _ => (#[] : Array Value))).push (PyProof.Rows.seqObj "tuple" us.toArray 0)).objs.size = h'.objs.size + 2 := by
    rw [PyProof.Rows.size_push', Heap.size_update, PyProof.Rows.size_push']
  have I4 := I3.kept (t' := tk) up
  have f3 := hk _ _ fs
  have ltf := Heap.lt_size f3
  refine key_rest (pm := pm) (ctv := ctv) (body := body) (params := params) hN L hr (fun u => hbind _ _ _ _ _ u) (fun A s H E => hbody A s H E f c') (se.mono (l1.trans l2)) (ks := ks) (vs := vs) (mh2 := mh2) (ds := ds)
    ⟨ρ1, H2, mh1, [], #[], 0, I4, sh2, .refl, I3.fpOk (by show h'.objs.size ≤ _; rw [hsz]; omega) (I3.hok.fresh (by show h'.objs.size ≤ _; rw [hsz]; omega)), I3.fpOk (Nat.le_refl _) (I3.hok.fresh (Nat.le_refl _)), Heap.get?_push_size _ rfl,
      Heap.get?_push_of_some _ (Heap.get?_push_of_some _ ga2), .nil, .nil, e1, code, up _ _ f3, fnew, nl, nfs⟩ (Nat.ne_of_lt (by rw [hsz]; exact Nat.lt_add_of_pos_right (by decide))) (Nat.ne_of_lt (by rw [hsz]; exact Nat.lt_of_lt_of_le ltf (Nat.le_add_right _ 2))) (rv.mono l2) rus hz (keysM_len _ _ _ _ _ e1) e2 (Post.le l2 pq)
end
end Ev
namespace Ev
open PySem PySem.Spec PyProof.Rows L2
/-! ### sum(lists, []) -/
def preL (val : Nat → List Value) : Nat → List Value
  | 0 => []
  | n + 1 => preL val n ++ val n
theorem preL_le (val : Nat → List Value) {m n : Nat} (h : m ≤ n) : (preL val m).length ≤ (preL val n).length := by
  induction n with
  | zero =>
    obtain rfl : m = 0 := by omega
    exact Nat.le_refl _
  | succ n ih =>
    by_cases e : m = n + 1
    · rw [e]
      exact Nat.le_refl _
    · simp only [preL, List.length_append]
      have := ih (by omega)
      omega
section
variable {prog : Program} {w : World} {A : Around} {R : Result → Shared → Prop} {I ax S : Addr} {items : Array Value} {h0 : Heap} {val : Nat → List Value}
theorem sum_loop (hh : A.in1.handled = none) (hne : ax ≠ I) (hv : ∀ i v, items[i]? = some v → ∃ a n, v = .ref a ∧ IsL h0 a (val i).toArray n) (hz : (preL val items.size).length ≤ sizeLine) (hS0 : h0.objs.size ≤ S) (hI0 : h0.objs.size ≤ I) (hIS : S ≠ I) (hSa : S ≠ ax) :
    ∀ (k i : Nat) (s : Shared) (T : Addr) (c cs : Nat), items.size - i = k → i ≤ items.size → (s.heap.IsListIter I ax i ∧ s.heap.IsList ax items) → (∀ b o, h0.get? b = some o → s.heap.get? b = some o) →
      s.heap.get? S = some { cls := .type "list", dict := none, data := .seq #[.ref T] cs, slots := #[] } → IsL s.heap T (preL val i).toArray c → T ≠ S → T ≠ I → (0 < i → h0.objs.size ≤ T) →
    (∀ h' tk T' c', (∀ b o, h0.get? b = some o → h'.get? b = some o) → IsL h' T' (preL val items.size).toArray c' → (0 < items.size → h0.objs.size ≤ T') → R (.ok (.ret (.ref T'))) { s with heap := h', toks := tk }) →
    codeAny (model prog w) A (.builtin "sum.loop" ⟨[.ref I, .ref S, rawInt 2, rawInt 0], []⟩) R s := by
  intro k
  have W := Walks.list (prog := prog) (w := w) hh I ax hne items
  induction k with
  | zero =>
    intro i s T c cs hk hi hst hkeep hS hT hTS hTI hT0 hR
    obtain rfl : i = items.size := by omega
    refine codeAny_builtin F.entry_sum_loop ?_
    rw [Around.under_plainId F.plain_sum_loop _]
    show wpAny _ A.in1 (seqItems? (.ref S) >>= _) _ _ s
    refine wpAny_bind (wpAny_seqItems hS rfl ?_)
    show wpAny _ A.in1 (tryCatch (pyNext (.ref I)) _ >>= _) _ _ s
    refine wpAny_bind (wpAny_tryCatch (W.done s _ _ hst fun h' tk hk' => ?_))
    refine wpAny_pure (hR h' tk T c (fun b o e => hk' b o (fun z => ?_) (hkeep b o e)) (hk' T _ (fun z => hTI (List.mem_singleton.mp z)) hT) hT0)
    rw [List.mem_singleton.mp z] at e
    exact Nat.lt_irrefl _ (Nat.lt_of_lt_of_le (Heap.lt_size e) hI0)
  | succ k ih =>
    intro i s T c cs hk hi hst hkeep hS hT hTS hTI hT0 hR
    have hlt : i < items.size := by omega
    refine codeAny_builtin F.entry_sum_loop ?_
    rw [Around.under_plainId F.plain_sum_loop _]
    show wpAny _ A.in1 (seqItems? (.ref S) >>= _) _ _ s
    refine wpAny_bind (wpAny_seqItems hS rfl ?_)
    show wpAny _ A.in1 (tryCatch (pyNext (.ref I)) _ >>= _) _ _ s
    refine wpAny_bind (wpAny_tryCatch (W.item i s _ _ hlt hst fun v h' tk hP hst' hk' => ?_))
    obtain ⟨a, n, rfl, hl⟩ := hv i v hP
    have hS' := hk' S _ (fun z => hIS (List.mem_singleton.mp z)) hS
    have hT' : IsL h' T (preL val i).toArray c := hk' T _ (fun z => hTI (List.mem_singleton.mp z)) hT
    have hkeep' : ∀ b o, h0.get? b = some o → h'.get? b = some o := fun b o e => hk' b o (fun z => by
      rw [List.mem_singleton.mp z] at e
      exact Nat.lt_irrefl _ (Nat.lt_of_lt_of_le (Heap.lt_size e) hI0)) (hkeep b o e)
    have hl' : IsL h' a (val i).toArray n := hkeep' _ _ hl
    have hz2 : (preL val i).length + (val i).length ≤ sizeLine := by
      have := preL_le val (show i + 1 ≤ items.size from hlt)
      simp only [preL, List.length_append] at this
      omega
    show wpAny _ A.in1 ((holding [Value.ref a] (binaryOp .Add (.ref T) (.ref a))).attempt >>= _) _ _ _
    have lS : S < h'.objs.size := Heap.lt_size hS'
    have lI : I < h'.objs.size := by
      obtain ⟨⟨o, e, _⟩, _⟩ := hst'
      exact Heap.lt_size e
    have lax : ax < h'.objs.size := by
      obtain ⟨_, ⟨o, e, _⟩⟩ := hst'
      exact Heap.lt_size e
    refine wpAny_bind (wpAny_attempt (wpAny_holding (PySem.P.add_list hT' hl' ?_ (by rw [List.size_toArray, List.size_toArray]; exact hz2))))
    show wpAny _ A.in1 (updateSeq S (fun _ => #[.ref h'.objs.size]) >>= _) _ _ _
    have hS2 : (h'.push { cls := .type "list", data := .seq ((preL val i).toArray ++ (val i).toArray) }).get? S = some { cls := .type "list", dict := none, data := .seq #[.ref T] cs, slots := #[] } := Heap.get?_push_of_some _ hS'
    refine wpAny_bind (wpAny_updateSeq hS2 rfl ?_)
    have hS3 := Heap.get?_update_self (Obj.mapSeq fun _ => #[Value.ref h'.objs.size]) hS2 rfl
    refine wpAny_bind (wpAny_letGo ?_)
    refine wpAny_bind (wpAny_updateSeq hS3 rfl ?_)
    have up : ∀ b o, b ≠ S → h'.get? b = some o → (((h'.push { cls := .type "list", data := .seq ((preL val i).toArray ++ (val i).toArray) }).update S (Obj.mapSeq fun _ => #[Value.ref h'.objs.size])).update S (Obj.mapSeq fun _ => #[Value.ref h'.objs.size])).get? b = some o := fun b o hb e => by
      rw [Heap.get?_update_ne _ _ _ _ hb, Heap.get?_update_ne _ _ _ _ hb]
      exact Heap.get?_push_of_some _ e
    have up0 : ∀ b o, h0.get? b = some o → (((h'.push { cls := .type "list", data := .seq ((preL val i).toArray ++ (val i).toArray) }).update S (Obj.mapSeq fun _ => #[Value.ref h'.objs.size])).update S (Obj.mapSeq fun _ => #[Value.ref h'.objs.size])).get? b = some o := fun b o e => up b o (fun z => by
      rw [z] at e
      exact Nat.lt_irrefl _ (Nat.lt_of_lt_of_le (Heap.lt_size e) hS0)) (hkeep' b o e)
    have newT : IsL (((h'.push { cls := .type "list", data := .seq ((preL val i).toArray ++ (val i).toArray) }).update S (Obj.mapSeq fun _ => #[Value.ref h'.objs.size])).update S (Obj.mapSeq fun _ => #[Value.ref h'.objs.size])) h'.objs.size (preL val (i + 1)).toArray 0 := by
      show Heap.get? _ _ = _
      rw [Heap.get?_update_ne _ _ _ _ (Nat.ne_of_gt lS), Heap.get?_update_ne _ _ _ _ (Nat.ne_of_gt lS)]
      have := Heap.get?_push_size h' (o := { cls := .type "list", data := .seq ((preL val i).toArray ++ (val i).toArray) }) rfl
      rw [this]
      simp [preL]
    refine wpAny_pure ⟨plainId_quiet F.plain_sum_loop _, ih (i + 1) _ h'.objs.size 0 _ (by omega) hlt ⟨hst'.1.at fun o e => up _ _ (Ne.symm hIS) e, hst'.2.at fun o e => up _ _ (Ne.symm hSa) e⟩ up0 (Heap.get?_update_self _ hS3 rfl) newT (Nat.ne_of_gt lS) (Nat.ne_of_gt lI) (fun _ => Nat.le_of_lt (Nat.lt_of_le_of_lt hS0 lS)) fun h'' tk'' T'' c'' q1 q2 q3 => hR h'' tk'' T'' c'' q1 q2 q3⟩
end
theorem args_sum2 (a b : Value) : argsOk "sum" ⟨[a, b], []⟩ := by unfold argsOk; kernel_rfl
theorem list_no_str : isSubtype (.type "list") (.type "str") = pure false := by rw [isSubtype_type]; kernel_rfl
theorem list_no_bytes : isSubtype (.type "list") (.type "bytes") = pure false := by rw [isSubtype_type]; kernel_rfl
theorem list_no_bytearray : isSubtype (.type "list") (.type "bytearray") = pure false := by rw [isSubtype_type]; kernel_rfl
section
variable {prog : Program} {w : World} {A : Around} {E : Value → Shared → Prop} {s : Shared}
theorem sum_lists {ax st : Addr} {items : Array Value} {c0 : Nat} {val : Nat → List Value} {Q : Value → Shared → Prop} (hh : A.handled = none) (hl : s.heap.IsList ax items) (hs : IsL s.heap st #[] c0) (hv : ∀ i v, items[i]? = some v → ∃ a n, v = .ref a ∧ IsL s.heap a (val i).toArray n)
    (hz : (preL val items.size).length ≤ sizeLine) (hn : 0 < items.size)
    (h : ∀ h' tk T c, (∀ b o, s.heap.get? b = some o → h'.get? b = some o) → s.heap.objs.size ≤ T → IsL h' T (preL val items.size).toArray c → Q (.ref T) { s with heap := h', toks := tk }) :
    wpAny (model prog w) A (call (.builtin "sum") [.ref ax, .ref st]) Q E s := by
  refine call_function_tree F.kind_sum F.plain_sum F.entry_sum (args_sum2 _ _) ?_
  unfold Builtin.«sum»
  simp only [List.length_cons, List.length_nil]
  rw [if_neg (by decide)]
  refine wpAny_bind (wpAny_of_eq (show Builtin.Builtins.bindParams "sum" ["start"] 0 ⟨[.ref st], []⟩ = pure [some (.ref st)] from rfl) ?_)
  refine wpAny_bind (iter_any hl fun s₂ e hit hne => ?_)
  subst e
  refine wpAny_bind (wpAny_pure ?_)
  simp only [List.forIn_cons, List.forIn_nil]
  have hs2 : IsL (s.heap.push { cls := .type "list_iterator", data := .fields #[.ref ax, .int 0 0] }) st #[] c0 := Heap.get?_push_of_some _ hs
  have ty : (({ s with heap := s.heap.push { cls := .type "list_iterator", data := .fields #[.ref ax, .int 0 0] } } : Shared)).TypeIs (.ref st) "list" := ⟨_, hs2, rfl⟩
  refine wpAny_bind (wpAny_bind (wpAny_bind (wpAny_isInstance (T := "list") (b := false) ty list_no_str ?_)))
  simp only [Bool.false_eq_true, if_false]
  refine wpAny_pure (wpAny_bind (wpAny_bind (wpAny_isInstance (T := "list") (b := false) ty list_no_bytes ?_)))
  simp only [Bool.false_eq_true, if_false]
  refine wpAny_pure (wpAny_bind (wpAny_bind (wpAny_isInstance (T := "list") (b := false) ty list_no_bytearray ?_)))
  simp only [Bool.false_eq_true, if_false]
  refine wpAny_pure (wpAny_pure ?_)
  refine wpAny_bind (wpAny_newList ?_ (show 1 ≤ sizeLine by decide))
  have lst : st < s.heap.objs.size := Heap.lt_size hs
  have sz : (s.heap.push { cls := .type "list_iterator", data := .fields #[.ref ax, .int 0 0] }).objs.size = s.heap.objs.size + 1 := Heap.size_push _ _
  have lax : ax < s.heap.objs.size := by
    obtain ⟨o, e, _⟩ := hl
    exact Heap.lt_size e
  refine wpAny_pure ⟨plainId_quiet F.plain_sum_loop _, sum_loop (h0 := s.heap) (val := val) (items := items) (I := s.heap.objs.size) (ax := ax) hh hne hv hz (by show _ ≤ (Heap.push _ _).objs.size; rw [sz]; exact Nat.le_succ _) (Nat.le_refl _) (Nat.ne_of_gt (by show _ < (Heap.push _ _).objs.size; rw [sz]; exact Nat.lt_succ_self _)) (Nat.ne_of_gt (by show _ < (Heap.push _ _).objs.size; rw [sz]; exact Nat.lt_succ_of_lt lax)) items.size 0 _ st c0 0 (Nat.sub_zero _) (Nat.zero_le _)
    ⟨hit.1.at fun o e => Heap.get?_push_of_some _ e, hit.2.at fun o e => Heap.get?_push_of_some _ e⟩ (fun b o e => Heap.get?_push_of_some _ (Heap.get?_push_of_some _ e)) (Heap.get?_push_size _ rfl) (Heap.get?_push_of_some _ hs2) (Nat.ne_of_lt (by show _ < (Heap.push _ _).objs.size; rw [sz]; exact Nat.lt_succ_of_lt lst)) (Nat.ne_of_lt lst) (fun z => absurd z (Nat.lt_irrefl _)) fun h' tk T' c' q1 q2 q3 => h h' tk T' c' q1 (q3 hn) q2⟩
end
def listsOf (mh : MH) : List PV → Option (List (List PV))
  | [] => some []
  | .ref n :: vs => match lstOf mh n with
    | some xs => match listsOf mh vs with
      | some ls => some (xs :: ls)
      | none => none
    | none => none
  | _ :: _ => none
def opSumL : OpN := fun vs mh => match vs with
  | [.ref n, .ref m] => match lstOf mh n, lstOf mh m with
    | some xs, some [] => match listsOf mh xs with
      | some ls => if ls ≠ [] ∧ ls.flatten.length ≤ sizeLine then .ok (.ref mh.length) (mh ++ [.lst ls.flatten]) else .bad
      | none => .bad
    | _, _ => .bad
  | _ => .bad
theorem preL_flat (val : Nat → List Value) : ∀ n, preL val n = ((List.range n).map val).flatten
  | 0 => rfl
  | n + 1 => by
    rw [preL, preL_flat val n, List.range_succ, List.map_append, List.flatten_append]
    simp
theorem preL_getD (l : List (List Value)) : preL (fun i => l.getD i []) l.length = l.flatten := by
  rw [preL_flat]
  congr 1
  refine List.ext_getElem? fun i => ?_
  rw [List.getElem?_map]
  by_cases h : i < l.length
  · simp [h]
  · simp [h]
theorem lstOf_some {mh : MH} {n : Nat} {xs : List PV} (h : lstOf mh n = some xs) : mh[n]? = some (.lst xs) := by
  unfold lstOf at h
  split at h
  · rename_i e
    cases h
    exact e
  · cases h
section
variable {X : Cx} {pins : List (Addr × Obj)} {σ : L2.St} {H : Hp} {s : Shared}
theorem lists_below {ρ : List Addr} {mh : MH} (I : Inv X pins σ H s) (sh : SimH X.kw ρ mh H) : ∀ {vs : List PV} {ws : List V} {us : List Value} {ls : List (List PV)}, RVs X.kw ρ H vs ws → Vals ws us → listsOf mh vs = some ls →
    ∃ (vl : List (List Value)) (wl : List (List V)), vl.length = us.length ∧ ls.length = us.length ∧ (∀ i v, us[i]? = some v → ∃ a n, v = .ref a ∧ IsL s.heap a (vl.getD i []).toArray n) ∧ RVs X.kw ρ H ls.flatten wl.flatten ∧ Vals wl.flatten vl.flatten
  | _, _, _, _, .nil, .nil, h => by
    cases h
    exact ⟨[], [], rfl, rfl, fun i v e => (by simp at e), .nil, .nil⟩
  | _, _, _, _, .cons r1 r2, .cons u1 u2, h => by
    cases r1 with
    | @ref n a h1 =>
      simp only [listsOf] at h
      split at h
      · rename_i xs e1
        split at h
        · rename_i ls e2
          cases h
          obtain ⟨vl, wl, p1, p2, p3, p4, p5⟩ := lists_below I sh r2 u2 e2
          obtain ⟨ws1, q1, q2⟩ := sh.ob _ _ _ (lstOf_some e1) h1
          obtain ⟨z, its, k, rv, g⟩ := I.hok _ _ q1
          refine ⟨its :: vl, ws1 :: wl, by simp [p1], by simp [p2], fun i v e => ?_, ?_, ?_⟩
          · cases i with
            | zero =>
              cases e
              exact ⟨a, k, u1, g⟩
            | succ i => exact p3 i v e
          · rw [List.flatten_cons, List.flatten_cons]
            exact q2.append p4
          · rw [List.flatten_cons, List.flatten_cons]
            exact rv.append p5
        · cases h
      · cases h
    | _ => cases h
theorem cvn_sumL (hc : X.calm = true) : CallV X (.builtin "sum") opSumL := by
  intro pins s σ H xs us Q I r h
  obtain ⟨ρ, mh, vs, sh, rv, k⟩ := h
  unfold opSumL at k
  split at k
  · rename_i n m
    split at k
    · rename_i xs0 e1 e2
      split at k
      · rename_i ls e3
        split at k
        · rename_i hb
          obtain ⟨hne, hz⟩ := hb
          cases rv with
          | cons r1 r2 =>
            cases r2 with
            | cons r2 r3 =>
              cases r3
              cases r1 with
              | @ref _ a h1 =>
                cases r2 with
                | @ref _ b h2 =>
                  obtain ⟨ws1, q1, q2⟩ := sh.ob _ _ _ (lstOf_some e1) h1
                  obtain ⟨ws2, q3, q4⟩ := sh.ob _ _ _ (lstOf_some e2) h2
                  cases q4
                  obtain ⟨u1, u2, rfl, ru1, ru2⟩ : ∃ u1 u2, us = [u1, u2] ∧ RelV (.ref a) u1 ∧ RelV (.ref b) u2 := by
                    cases r with
                    | cons a1 a2 =>
                      cases a2 with
                      | cons a2 a3 =>
                        cases a3
                        exact ⟨_, _, rfl, a1, a2⟩
                  obtain rfl : u1 = Value.ref a := ru1
                  obtain rfl : u2 = Value.ref b := ru2
                  obtain ⟨z1, its, k1, rv1, g1⟩ := I.hok _ _ q1
                  obtain ⟨z2, its2, k2, rv2, g2⟩ := I.hok _ _ q3
                  cases rv2
                  obtain ⟨vl, wl, p1, p2, p3, p4, p5⟩ := lists_below I sh q2 rv1 e3
                  have esz : its.toArray.size = vl.length := by rw [List.size_toArray, p1]
                  have hlen : (preL (fun i => vl.getD i []) its.toArray.size).length = ls.flatten.length := by
                    rw [esz, preL_getD]
                    have a1 := p4.length
                    have a2 : wl.flatten.length = vl.flatten.length := Paired.length p5
                    omega
                  refine sum_lists (val := fun i => vl.getD i []) (items := its.toArray) (I.ok.hd hc) ⟨_, g1, rfl, k1, rfl⟩ g2 (fun i v e => p3 i v (by simpa using e)) (by rw [hlen]; exact hz) ?_ fun h' tk T c hk hT hTl => ?_
                  · rw [List.size_toArray, ← p2]
                    exact List.length_pos_iff.mpr hne
                  · rw [esz, preL_getD] at hTl
                    have hT' : H T = none := I.hok.fresh hT
                    refine ⟨.ref T, upd H T (.lst wl.flatten), I.laid (t' := tk) hk hT ⟨?_, vl.flatten, c, p5, hTl⟩, rfl, k.newLst sh p4 hT'⟩
                    rw [← p4.length]
                    exact hz
        · exact k.elim
      · exact k.elim
    · exact k.elim
  · exact k.elim
theorem q_sumL : QuietN opSumL := by
  intro vs mh c u h
  unfold opSumL
  repeat' split
  all_goals exact fun z => by cases z
end
end Ev
namespace Ev
open PySem PySem.Spec PyProof.Rows L2 RZ
open PySem.Sem (wp)
/-! ### zip of a list and a tuple: either kind on either side -/
/-- an iterator at it over the sequence at l, whichever kind -/
structure Step (prog : Program) (w : World) (it l : Addr) (xs : Array Value) (P : Heap → Nat → Prop) : Prop where
  ext : ∀ {h h' : Heap} {k : Nat}, P h k → (∀ o, h.get? it = some o → h'.get? it = some o) → (∀ o, h.get? l = some o → h'.get? l = some o) → P h' k
  obj : ∀ {h : Heap} {k : Nat}, P h k → ∃ o, h.get? it = some o ∧ ∀ v, o.data ≠ .cell v
  item : ∀ {A : Around} {E : Value → Shared → Prop} {s : Shared} {k : Nat} {x : Value} {Q : Value → Shared → Prop}, P s.heap k → xs[k]? = some x → (∀ h', P h' (k + 1) → Heap.SameBut it s.heap h' → Q x { s with heap := h' }) → wpAny (model prog w) A (Builtin.SmallTypes.nextOf (.ref it)) Q E s
  fin : ∀ {A : Around} {E : Value → Shared → Prop} {s : Shared} {k : Nat} {Q : Value → Shared → Prop}, A.handled = none → P s.heap k → xs[k]? = none →
    (∀ h' e, Heap.ExtBut it s.heap h' → (∃ o, h'.get? e = some o ∧ o.cls = .type "StopIteration") → E (.ref e) { s with heap := h' }) → wpAny (model prog w) A (Builtin.SmallTypes.nextOf (.ref it)) Q E s
section
variable {prog : Program} {w : World}
theorem step_list {it l : Addr} {xs : Array Value} (hne : l ≠ it) : Step prog w it l xs (fun h k => h.IsListIter it l k ∧ h.IsList l xs) where
  ext := fun p a b => ⟨p.1.at fun o e => a o e, p.2.at fun o e => b o e⟩
  obj := fun p => by
    obtain ⟨⟨o, e, _, d⟩, _⟩ := p
    exact ⟨o, e, fun v q => by rw [d] at q; cases q⟩
  item := fun p hx q => wpAny_nextOf_list_item p.1 p.2 hx fun h' a b => q h' ⟨a, p.2.extBut b.extBut hne⟩ b
  fin := fun hh p hx q => wpAny_nextOf_list_end hh p.1 p.2 hx fun h' e a b => q h' e a b
theorem step_tuple {it l : Addr} {xs : Array Value} (hne : l ≠ it) : Step prog w it l xs (fun h k => h.IsTupleIter it l k ∧ h.IsTuple l xs) where
  ext := fun p a b => ⟨p.1.at fun o e => a o e, p.2.at fun o e => b o e⟩
  obj := fun p => by
    obtain ⟨⟨o, e, _, d⟩, _⟩ := p
    exact ⟨o, e, fun v q => by rw [d] at q; cases q⟩
  item := fun p hx q => nextOf_tuple_item p.1 p.2 hx fun h' a b => q h' ⟨a, p.2.extBut b.extBut hne⟩ b
  fin := fun hh p hx q => nextOf_tuple_end hh p.1 p.2 hx fun h' e a b => q h' e a b
variable {A : Around} {E : Value → Shared → Prop} {s : Shared} {z TI TO i1 i2 l1 l2 : Addr} {xs ys : Array Value} {P1 P2 : Heap → Nat → Prop} {k1 k2 : Nat} {a b : Value}
theorem Step.but (S : Step prog w i1 l1 xs P1) {h h' : Heap} {c : Addr} {k : Nat} (p : P1 h k) (e : Heap.SameBut c h h') (n1 : i1 ≠ c) (n2 : l1 ≠ c) : P1 h' k :=
  S.ext p (fun o q => (e.2 _ n1).trans q) fun o q => (e.2 _ n2).trans q
/-- one turn -/
theorem zipM_item {x y : Value} {Q : Option Value → Shared → Prop} (S1 : Step prog w i1 l1 xs P1) (S2 : Step prog w i2 l2 ys P2) (D : ZipApart z TI TO i1 i2 l1 l2) (hz : IsZip s.heap z TI TO .none) (hTI : IsPair s.heap TI (.ref i1) (.ref i2)) (hTO : IsPair s.heap TO a b)
    (h1 : P1 s.heap k1) (h2 : P2 s.heap k2) (hx : xs[k1]? = some x) (hy : ys[k2]? = some y)
    (hQ : ∀ h', IsZip h' z TI TO (rawInt s.heap.objs.size) → IsPair h' TO x y → P1 h' (k1 + 1) → P2 h' (k2 + 1) → IsPair h' s.heap.objs.size x y → (∀ c o, c ≠ z → c ≠ TO → c ≠ i1 → c ≠ i2 → s.heap.get? c = some o → h'.get? c = some o) → Q (some (.ref s.heap.objs.size)) { s with heap := h' }) :
    wpAny (model prog w) A (pyNext (.ref z)) Q E s := by
  have hT : s.TypeIs (.ref z) "zip" := ⟨_, hz, rfl⟩
  unfold pyNext
  refine wpAny_bind (wpAny_attempt (wpAny_callSpecial?_slot (name := Str.ofString "__next__") hT F.slot_zip_next (wpAny_call_entry F.slot_zip_next hT F.entry_zip_next ?_ (F.args_zip_next_1 _))))
  show wpAny _ _ (field (.ref z) 2 >>= _) _ _ _
  refine wpAny_bind (wpAny_field hz rfl (x := .bool false) rfl ?_)
  show wpAny _ _ (field (.ref z) 3 >>= _) _ _ _
  refine wpAny_bind (wpAny_field hz rfl (x := .ref TI) rfl (wpAny_bind (wpAny_seqItems hTI rfl ?_)))
  show wpAny _ _ (Builtin.SmallTypes.ownedTupleIsFree (.ref z) >>= _) _ _ _
  unfold Builtin.SmallTypes.ownedTupleIsFree
  refine wpAny_bind (wpAny_bind (wpAny_field hz rfl (x := .none) rfl (wpAny_pure ?_)))
  simp only [if_true]
  refine wpAny_bind (wpAny_rule (wpAny_bind (wpAny_field hz rfl (x := .ref TO) rfl (wpAny_bind (wpAny_setField_rec hz (by simp) fun g1 z1 e1 => ?_)))))
  replace z1 : IsZip g1 z TI TO .ellipsis := z1
  refine wpAny_bind ?_
  simp only [List.zipIdx_cons, List.zipIdx_nil, List.forIn_cons, List.forIn_nil]
  refine wpAny_bind (wpAny_bind (wpAny_onRaise ?_))
  show wpAny _ _ (Builtin.SmallTypes.nextOf (.ref i1) >>= _) _ _ _
  refine wpAny_bind (S1.item (s := { s with heap := g1 }) (S1.but h1 e1 D.i1z D.l1z) hx fun g2 r1 e2 => wpAny_pure ?_)
  have T2 : IsPair g2 TO a b := e2.extBut _ _ D.TOi1 (e1.extBut _ _ D.TOz hTO)
  refine wpAny_bind (wpAny_seqItems T2 rfl (wpAny_bind (wpAny_updateSeq_pair T2 fun g3 T3 e3 => ?_)))
  replace T3 : IsPair g3 TO x b := T3
  refine wpAny_bind (wpAny_letGo (wpAny_pure ?_))
  refine wpAny_bind (wpAny_bind (wpAny_onRaise ?_))
  show wpAny _ _ (Builtin.SmallTypes.nextOf (.ref i2) >>= _) _ _ _
  have p2 : P2 g3 k2 := S2.but (S2.but (S2.but h2 e1 D.i2z D.l2z) e2 D.i12.symm D.l2i1) e3 D.TOi2.symm D.l2TO
  refine wpAny_bind (S2.item (s := { s with heap := g3 }) p2 hy fun g4 r2 e4 => wpAny_pure ?_)
  have T4 : IsPair g4 TO x b := e4.extBut _ _ D.TOi2 T3
  refine wpAny_bind (wpAny_seqItems T4 rfl (wpAny_bind (wpAny_updateSeq_pair T4 fun g5 T5 e5 => ?_)))
  replace T5 : IsPair g5 TO x y := T5
  refine wpAny_bind (wpAny_letGo (wpAny_pure (wpAny_pure ?_)))
  refine wpAny_bind (wpAny_seqItems T5 rfl (wpAny_bind (wpAny_newTuple ?_)))
  have hsz : g5.objs.size = s.heap.objs.size := by rw [e5.1, e4.1, e3.1, e2.1, e1.1]
  have z5 : IsZip g5 z TI TO .ellipsis := e5.extBut _ _ D.TOz.symm (e4.extBut _ _ D.i2z.symm (e3.extBut _ _ D.TOz.symm (e2.extBut _ _ D.i1z.symm z1)))
  have k5 : ∀ c o, c ≠ z → c ≠ TO → c ≠ i1 → c ≠ i2 → s.heap.get? c = some o → g5.get? c = some o := fun c o c1 c2 c3 c4 e => e5.extBut _ _ c2 (e4.extBut _ _ c4 (e3.extBut _ _ c2 (e2.extBut _ _ c3 (e1.extBut _ _ c1 e))))
  have q1 : P1 g5 (k1 + 1) := S1.but (S1.but (S1.but r1 e3 D.TOi1.symm D.l1TO) e4 D.i12 D.l1i2) e5 D.TOi1.symm D.l1TO
  have q2 : P2 g5 (k2 + 1) := S2.but r2 e5 D.TOi2.symm D.l2TO
  have lz : z < g5.objs.size := Heap.lt_size z5
  show wpAny _ _ (Builtin.SmallTypes.ownedTupleHandOut (.ref z) (.ref g5.objs.size) >>= _) _ _ _
  unfold Builtin.SmallTypes.ownedTupleHandOut
  have z6 : IsZip (g5.push { cls := .type "tuple", data := .seq #[x, y] }) z TI TO .ellipsis := Heap.get?_push_of_some _ z5
  refine wpAny_bind (wpAny_bind (wpAny_setField_rec z6 (by simp) fun g7 z7 e7 => ?_))
  replace z7 : IsZip g7 z TI TO (rawInt g5.objs.size) := z7
  refine wpAny_setField_rec z7 (by simp) fun g8 z8 e8 => ?_
  replace z8 : IsZip g8 z TI TO (rawInt g5.objs.size) := z8
  have up : ∀ c o, c ≠ z → g5.get? c = some o → g8.get? c = some o := fun c o c1 e => e8.extBut _ _ c1 (e7.extBut _ _ c1 (Heap.get?_push_of_some _ e))
  have T8 : IsPair g8 g5.objs.size x y := e8.extBut _ _ (Nat.ne_of_gt lz) (e7.extBut _ _ (Nat.ne_of_gt lz) (Heap.get?_push_size _ rfl))
  rw [hsz] at z8 T8
  refine wpAny_pure ⟨_, rfl, wpAny_pure ?_⟩
  show Q (some (.ref g5.objs.size)) _
  rw [hsz]
  exact hQ g8 z8 (up _ _ D.TOz T5) (S1.ext q1 (fun o e => up _ o D.i1z e) fun o e => up _ o D.l1z e) (S2.ext q2 (fun o e => up _ o D.i2z e) fun o e => up _ o D.l2z e) T8 fun c o c1 c2 c3 c4 e => up c o c1 (k5 c o c1 c2 c3 c4 e)
/-- the end -/
theorem zipM_end {Q : Option Value → Shared → Prop} (S1 : Step prog w i1 l1 xs P1) (S2 : Step prog w i2 l2 ys P2) (hh : A.handled = none) (D : ZipApart z TI TO i1 i2 l1 l2) (hz : IsZip s.heap z TI TO .none) (hTI : IsPair s.heap TI (.ref i1) (.ref i2)) (hTO : IsPair s.heap TO a b)
    (h1 : P1 s.heap k1) (h2 : P2 s.heap k2) (hend : xs[k1]? = none ∨ ys[k2]? = none) (hQ : ∀ h', (∀ c o, c ≠ z → c ≠ TO → c ≠ i1 → c ≠ i2 → s.heap.get? c = some o → h'.get? c = some o) → Q none { s with heap := h' }) :
    wpAny (model prog w) A (pyNext (.ref z)) Q E s := by
  have hT : s.TypeIs (.ref z) "zip" := ⟨_, hz, rfl⟩
  have fin : ∀ {h' : Heap} {e : Addr}, (∀ c o, c ≠ z → c ≠ TO → c ≠ i1 → c ≠ i2 → s.heap.get? c = some o → h'.get? c = some o) → (∃ o, h'.get? e = some o ∧ o.cls = .type "StopIteration") →
      wpAny (model prog w) A (do if ← isInstance (.ref e) (.type "StopIteration") then pure (none : Option Value) else throw (.ref e)) Q E { s with heap := h' } := fun {h' e} hk he => by
    obtain ⟨o, ho, hc⟩ := he
    refine wpAny_bind (wpAny_isInstance (T := "StopIteration") (b := true) ⟨o, ho, hc⟩ isSubtype_stop ?_)
    exact wpAny_pure (hQ _ hk)
  unfold pyNext
  refine wpAny_bind (wpAny_attempt (wpAny_callSpecial?_slot (name := Str.ofString "__next__") hT F.slot_zip_next (wpAny_call_entry F.slot_zip_next hT F.entry_zip_next ?_ (F.args_zip_next_1 _))))
  show wpAny _ _ (field (.ref z) 2 >>= _) _ _ _
  refine wpAny_bind (wpAny_field hz rfl (x := .bool false) rfl ?_)
  show wpAny _ _ (field (.ref z) 3 >>= _) _ _ _
  refine wpAny_bind (wpAny_field hz rfl (x := .ref TI) rfl (wpAny_bind (wpAny_seqItems hTI rfl ?_)))
  show wpAny _ _ (Builtin.SmallTypes.ownedTupleIsFree (.ref z) >>= _) _ _ _
  unfold Builtin.SmallTypes.ownedTupleIsFree
  refine wpAny_bind (wpAny_bind (wpAny_field hz rfl (x := .none) rfl (wpAny_pure ?_)))
  simp only [if_true]
  refine wpAny_bind (wpAny_rule (wpAny_bind (wpAny_field hz rfl (x := .ref TO) rfl (wpAny_bind (wpAny_setField_rec hz (by simp) fun g1 z1 e1 => ?_)))))
  replace z1 : IsZip g1 z TI TO .ellipsis := z1
  refine wpAny_bind ?_
  simp only [List.zipIdx_cons, List.zipIdx_nil, List.forIn_cons, List.forIn_nil]
  refine wpAny_bind (wpAny_bind (wpAny_onRaise ?_))
  show wpAny _ _ (Builtin.SmallTypes.nextOf (.ref i1) >>= _) _ _ _
  cases hx : xs[k1]? with
  | none =>
    refine wpAny_bind (S1.fin (s := { s with heap := g1 }) hh (S1.but h1 e1 D.i1z D.l1z) hx fun g2 e e2 he => ?_)
    obtain ⟨oe, p1, p2⟩ := he
    have z2 : IsZip g2 z TI TO .ellipsis := e2 _ _ D.i1z.symm z1
    have ez : e ≠ z := fun q => by rw [q, z2] at p1; cases p1; simp at p2
    exact wpAny_setField_rec z2 (by simp) fun g3 _ e3 => fin (fun c o c1 _ c3 _ q => e3.extBut _ _ c1 (e2 _ _ c3 (e1.extBut _ _ c1 q))) ⟨oe, e3.extBut _ _ ez p1, p2⟩
  | some x =>
    have hy : ys[k2]? = none := hend.resolve_left fun q => by rw [hx] at q; cases q
    refine wpAny_bind (S1.item (s := { s with heap := g1 }) (S1.but h1 e1 D.i1z D.l1z) hx fun g2 r1 e2 => wpAny_pure ?_)
    have T2 : IsPair g2 TO a b := e2.extBut _ _ D.TOi1 (e1.extBut _ _ D.TOz hTO)
    refine wpAny_bind (wpAny_seqItems T2 rfl (wpAny_bind (wpAny_updateSeq_pair T2 fun g3 T3 e3 => ?_)))
    refine wpAny_bind (wpAny_letGo (wpAny_pure ?_))
    refine wpAny_bind (wpAny_bind (wpAny_onRaise ?_))
    show wpAny _ _ (Builtin.SmallTypes.nextOf (.ref i2) >>= _) _ _ _
    have p2 : P2 g3 k2 := S2.but (S2.but (S2.but h2 e1 D.i2z D.l2z) e2 D.i12.symm D.l2i1) e3 D.TOi2.symm D.l2TO
    refine wpAny_bind (S2.fin (s := { s with heap := g3 }) hh p2 hy fun g4 e e4 he => ?_)
    obtain ⟨oe, p1, p3⟩ := he
    have z4 : IsZip g4 z TI TO .ellipsis := e4 _ _ D.i2z.symm (e3.extBut _ _ D.TOz.symm (e2.extBut _ _ D.i1z.symm z1))
    have ez : e ≠ z := fun q => by rw [q, z4] at p1; cases p1; simp at p3
    exact wpAny_setField_rec z4 (by simp) fun g5 _ e5 => fin (fun c o c1 c2 c3 c4 q => e5.extBut _ _ c1 (e4 _ _ c4 (e3.extBut _ _ c2 (e2.extBut _ _ c3 (e1.extBut _ _ c1 q))))) ⟨oe, e5.extBut _ _ ez p1, p3⟩
end
/-! ### the kinds: true a list, false a tuple -/
def SeqB (b : Bool) (h : Heap) (l : Addr) (xs : Array Value) : Prop := match b with
  | true => h.IsList l xs
  | false => h.IsTuple l xs
def ItrB (b : Bool) (h : Heap) (it l : Addr) (i : Nat) : Prop := match b with
  | true => h.IsListIter it l i
  | false => h.IsTupleIter it l i
def SqB (K : PySem.W.Frag) (b : Bool) (H : Hp) (a : Addr) (xs : List V) : Prop := match b with
  | true => SqL K H a xs
  | false => SqT K H a xs
def clsB (b : Bool) : String := match b with
  | true => "list_iterator"
  | false => "tuple_iterator"
theorem stepB {prog : Program} {w : World} (b : Bool) {it l : Addr} {xs : Array Value} (hne : l ≠ it) : Step prog w it l xs (fun h k => ItrB b h it l k ∧ SeqB b h l xs) := by
  cases b with
  | true => exact step_list hne
  | false => exact step_tuple hne
theorem ItrB.at {b : Bool} {h h' : Heap} {it l : Addr} {i : Nat} (p : ItrB b h it l i) (e : ∀ o, h.get? it = some o → h'.get? it = some o) : ItrB b h' it l i := by
  cases b with
  | true => exact Heap.IsListIter.at p fun o q => e o q
  | false => exact Heap.IsTupleIter.at p fun o q => e o q
theorem ItrB.obj {b : Bool} {h : Heap} {it l : Addr} {i : Nat} (p : ItrB b h it l i) : ∃ o, h.get? it = some o ∧ ∀ v, o.data ≠ .cell v := by
  cases b with
  | true =>
    obtain ⟨o, e, _, d⟩ := p
    exact ⟨o, e, fun v q => by rw [d] at q; cases q⟩
  | false =>
    obtain ⟨o, e, _, d⟩ := p
    exact ⟨o, e, fun v q => by rw [d] at q; cases q⟩
theorem ItrB.lt {b : Bool} {h : Heap} {it l : Addr} {i : Nat} (p : ItrB b h it l i) : it < h.objs.size := by
  obtain ⟨o, e, _⟩ := p.obj
  exact Heap.lt_size e
theorem SeqB.lt {b : Bool} {h : Heap} {l : Addr} {xs : Array Value} (p : SeqB b h l xs) : l < h.objs.size := by
  cases b with
  | true =>
    obtain ⟨o, e, _⟩ := p
    exact Heap.lt_size e
  | false =>
    obtain ⟨o, e, _⟩ := p
    exact Heap.lt_size e
theorem sq_seq {X : Cx} {pins : List (Addr × Obj)} {σ : L2.St} {H : Hp} {s : Shared} {b : Bool} {a : Addr} {xs : List V} (I : Inv X pins σ H s) (h : SqB X.K b H a xs) : ∃ its : List Value, Vals xs its ∧ SeqB b s.heap a its.toArray := by
  cases b with
  | true =>
    obtain ⟨its, rv, p, _⟩ := I.list h
    exact ⟨its, rv, p.isList⟩
  | false =>
    obtain ⟨its, rv, p, _⟩ := I.tuple h
    exact ⟨its, rv, p⟩
theorem sq_inj {X : Cx} {pins : List (Addr × Obj)} {σ : L2.St} {H : Hp} {s : Shared} {b : Bool} {a : Addr} {xs ys : List V} (I : Inv X pins σ H s) (h : SqB X.K b H a xs) (h' : SqB X.K b H a ys) : xs = ys := by
  cases b with
  | true => exact I.list_inj h h'
  | false => exact I.tuple_inj h h'
/-- the sequences at a and b as they stand at each turn -/
def ItzM (K : PySem.W.Frag) (k1 k2 : Bool) (a b : Addr) : It :=
  ⟨fun i H => ∃ (xs ys : List V) (x y : V), SqB K k1 H a xs ∧ SqB K k2 H b ys ∧ xs[i]? = some x ∧ ys[i]? = some y,
    fun i H v H' => ∃ T x y, v = .ref T ∧ H T = none ∧ H' = upd H T (.tup [x, y]) ∧ (∀ xs, SqB K k1 H a xs → xs[i]? = some x) ∧ ∀ ys, SqB K k2 H b ys → ys[i]? = some y,
    fun i H => ∃ xs ys : List V, SqB K k1 H a xs ∧ SqB K k2 H b ys ∧ (xs.length ≤ i ∨ ys.length ≤ i)⟩
theorem five {c z TI TO i1 i2 : Addr} (h : c ∈ [z, TI, TO, i1, i2]) : c = z ∨ c = TI ∨ c = TO ∨ c = i1 ∨ c = i2 := by simpa using h
theorem turn_zipM {P : Program} {w : World} {K : PySem.W.Frag} {elts : List Expr} {kk : Nat} {tpos : Pos} {k1 k2 : Bool} {a b z TI TO i1 i2 : Addr} (D : ZipApart z TI TO i1 i2 a b) :
    Turn P w K (.Tuple elts kk tpos) (ItzM K k1 k2 a b) [z, TI, TO, i1, i2] z (fun i h => IsZip h z TI TO .none ∧ IsPair h TI (.ref i1) (.ref i2) ∧ (∃ x y, IsPair h TO x y) ∧ ItrB k1 h i1 a i ∧ ItrB k2 h i2 b i) where
  mem := .head _
  obj := fun i h st c hc => by
    obtain ⟨hz, hTI, ⟨x, y, hTO⟩, p1, p2⟩ := st
    rcases five hc with rfl | rfl | rfl | rfl | rfl
    · exact ⟨_, hz, fun v q => nomatch q⟩
    · exact ⟨_, hTI, fun v q => nomatch q⟩
    · exact ⟨_, hTO, fun v q => nomatch q⟩
    · exact p1.obj
    · exact p2.obj
  keep := fun i h h' st k => by
    obtain ⟨hz, hTI, ⟨x, y, hTO⟩, p1, p2⟩ := st
    exact ⟨k z (by simp) _ hz, k TI (by simp) _ hTI, ⟨x, y, k TO (by simp) _ hTO⟩, p1.at fun o q => k i1 (by simp) o q, p2.at fun o q => k i2 (by simp) o q⟩
  item := by
    intro X hP hw hK hc i pins s σ H E I hf st hg
    subst hP hw hK
    obtain ⟨hz, hTI, ⟨x0, y0, hTO⟩, p1, p2⟩ := st
    obtain ⟨xs, ys, x, y, hqx, hqy, hx, hy⟩ := hg
    obtain ⟨its, rv, s1⟩ := sq_seq I hqx
    obtain ⟨its2, rv2, s2⟩ := sq_seq I hqy
    obtain ⟨u, hu, ru⟩ := rv.get hx
    obtain ⟨u2, hu2, ru2⟩ := rv2.get hy
    have hzl : z < s.heap.objs.size := Heap.lt_size hz
    refine zipM_item (x := u) (y := u2) (stepB k1 D.l1i1) (stepB k2 D.l2i2) D hz hTI hTO ⟨p1, s1⟩ ⟨p2, s2⟩ (by simpa using hu) (by simpa using hu2) fun h' z' TO' q1 q2 hT hk => ?_
    refine ⟨_, rfl, wpAny_letOwnedTupleGo_zip (s := { s with heap := h' }) z' fun h'' z'' sb => ?_⟩
    have hT2 : h''.get? s.heap.objs.size = some { cls := .type "tuple", data := .seq #[u, u2] } := (sb.2 _ (Nat.ne_of_gt hzl)).trans hT
    have new : ObjOk X.prog X.w (upd H s.heap.objs.size (.tup [x, y])) h'' s.heap.objs.size (.tup [x, y]) := ⟨by show 2 ≤ sizeLine; decide, [u, u2], .cons ru (.cons ru2 .nil), ⟨_, hT2, rfl, _, rfl⟩⟩
    have keep : ∀ c o, c ∉ [z, TI, TO, i1, i2] → s.heap.get? c = some o → h''.get? c = some o := fun c o hb q =>
      (sb.2 c (fun e => hb (by simp [e]))).trans (hk c o (fun e => hb (by simp [e])) (fun e => hb (by simp [e])) (fun e => hb (by simp [e])) (fun e => hb (by simp [e])) q)
    have I1 : Inv X pins σ (upd H s.heap.objs.size (.tup [x, y])) { s with heap := h'' } := I.turnedNew (t' := s.toks) (ch := [z, TI, TO, i1, i2]) keep hf (Nat.le_refl _) new
    refine ⟨.ref s.heap.objs.size, _, I1, rfl, ⟨_, x, y, rfl, I.hok.fresh (Nat.le_refl _), rfl, fun l hl => by rw [sq_inj I hl hqx]; exact hx, fun l hl => by rw [sq_inj I hl hqy]; exact hy⟩, ⟨z'', ?_, ⟨u, u2, ?_⟩, ?_, ?_⟩, fun c hcm => ?_⟩
    · exact (sb.2 _ D.TIz).trans (hk _ _ D.TIz D.TITO D.TIi1 D.TIi2 hTI)
    · exact (sb.2 _ D.TOz).trans TO'
    · exact q1.1.at fun o q => (sb.2 _ D.i1z).trans q
    · exact q2.1.at fun o q => (sb.2 _ D.i2z).trans q
    · have hlt : c < s.heap.objs.size := by
        rcases five hcm with rfl | rfl | rfl | rfl | rfl
        · exact hzl
        · exact Heap.lt_size hTI
        · exact Heap.lt_size hTO
        · exact p1.lt
        · exact p2.lt
      rw [upd_ne (Nat.ne_of_lt hlt)]
      exact (hf c hcm).1
  done := by
    intro X hP hw hK hc i pins s σ H E I hf st hg
    subst hP hw hK
    obtain ⟨hz, hTI, ⟨x0, y0, hTO⟩, p1, p2⟩ := st
    obtain ⟨xs, ys, hqx, hqy, hend⟩ := hg
    obtain ⟨its, rv, s1⟩ := sq_seq I hqx
    obtain ⟨its2, rv2, s2⟩ := sq_seq I hqy
    have e1 := rv.length
    have e2 := rv2.length
    have he : its.toArray[i]? = none ∨ its2.toArray[i]? = none := by
      rcases hend with q | q
      · exact .inl (by simp; omega)
      · exact .inr (by simp; omega)
    exact zipM_end (stepB k1 D.l1i1) (stepB k2 D.l2i2) (I.ok.hd hc) D hz hTI hTO ⟨p1, s1⟩ ⟨p2, s2⟩ he fun h' hk => ⟨rfl, I.turnedL (t' := s.toks) (ch := [z, TI, TO, i1, i2]) (fun c o hb q =>
      hk c o (fun e => hb (by simp [e])) (fun e => hb (by simp [e])) (fun e => hb (by simp [e])) (fun e => hb (by simp [e])) q) hf⟩
  self := fun A i s Q E st h => wpAny_pyIter_zip st.1 h
/-! ### zip(a, b) is made -/
abbrev zm1 (c1 : String) (h : Heap) (l1 : Addr) : Heap := h.push { cls := .type c1, data := .fields #[.ref l1, .int 0 0] }
abbrev zm2 (c1 c2 : String) (h : Heap) (l1 l2 : Addr) : Heap := (zm1 c1 h l1).push { cls := .type c2, data := .fields #[.ref l2, .int 0 0] }
abbrev zm3 (c1 c2 : String) (h : Heap) (l1 l2 : Addr) : Heap := (zm2 c1 c2 h l1 l2).push { cls := .type "tuple", data := .seq #[.ref h.objs.size, .ref (zm1 c1 h l1).objs.size] }
abbrev zm4 (c1 c2 : String) (h : Heap) (l1 l2 : Addr) : Heap := (zm3 c1 c2 h l1 l2).push { cls := .type "tuple", data := .seq #[.none, .none] }
abbrev zm5 (c1 c2 : String) (h : Heap) (l1 l2 : Addr) : Heap := (zm4 c1 c2 h l1 l2).push { cls := .type "zip", data := .fields #[.none, .bool false, .bool false, .ref (zm2 c1 c2 h l1 l2).objs.size, .ref (zm3 c1 c2 h l1 l2).objs.size] }
def Makes (k1 k2 : Bool) : Prop := ∀ (l1 l2 : Addr) (xs ys : Array Value), Meets (Builtin.«zip.__new__» ⟨[.type "zip", .ref l1, .ref l2], []⟩) (fun _ R s => SeqB k1 s.heap l1 xs ∧ SeqB k2 s.heap l2 ys ∧ R (.ok (.ret (.ref (zm4 (clsB k1) (clsB k2) s.heap l1 l2).objs.size))) { s with heap := zm5 (clsB k1) (clsB k2) s.heap l1 l2 })
theorem makes_tt : Makes false false := fun l1 l2 xs ys => RZ.meets_zipT_new l1 l2 xs ys
theorem makes_ll : Makes true true := fun l1 l2 xs ys => PySem.meets_zip_new l1 l2 xs ys
theorem makes_lt : Makes true false := fun l1 l2 xs ys => .of_wp fun prog w A R s h => by
  obtain ⟨hp, g, d, tk, os⟩ := s
  obtain ⟨hl1, hl2, h⟩ := h
  have hsub := PySem.sub_zip
  have q1 : Heap.IsList (Shared.heap ⟨hp, g, d, tk, os⟩) l1 xs := hl1
  have q2 : Heap.IsTuple (Shared.heap ⟨hp.push { cls := .type "list_iterator", data := .fields #[.ref l1, .int 0 0] }, g, d, tk, os⟩) l2 ys := Heap.IsTuple.push hl2 _
  wp_walk using wpAny_pyIter_list q1, wpAny_pyIter_tuple q2
  exact ⟨_, rfl, h⟩
theorem makes_tl : Makes false true := fun l1 l2 xs ys => .of_wp fun prog w A R s h => by
  obtain ⟨hp, g, d, tk, os⟩ := s
  obtain ⟨hl1, hl2, h⟩ := h
  have hsub := PySem.sub_zip
  have q1 : Heap.IsTuple (Shared.heap ⟨hp, g, d, tk, os⟩) l1 xs := hl1
  have q2 : Heap.IsList (Shared.heap ⟨hp.push { cls := .type "tuple_iterator", data := .fields #[.ref l1, .int 0 0] }, g, d, tk, os⟩) l2 ys := Heap.IsList.push hl2 _
  wp_walk using wpAny_pyIter_tuple q1, wpAny_pyIter_list q2
  exact ⟨_, rfl, h⟩
theorem makes : ∀ k1 k2, Makes k1 k2
  | true, true => makes_ll
  | true, false => makes_lt
  | false, true => makes_tl
  | false, false => makes_tt
theorem SqB.ref {K : PySem.W.Frag} {b : Bool} {H : Hp} {a : Addr} {xs : List V} (h : SqB K b H a xs) : True := trivial
section
variable {prog : Program} {w : World} {A : Around} {E : Value → Shared → Prop} {s : Shared}
theorem call_zipM {k1 k2 : Bool} {l1 l2 : Addr} {xs ys : Array Value} {Q : Value → Shared → Prop} (h1 : SeqB k1 s.heap l1 xs) (h2 : SeqB k2 s.heap l2 ys)
    (h : ∀ h', IsZip h' (s.heap.objs.size + 4) (s.heap.objs.size + 2) (s.heap.objs.size + 3) .none → IsPair h' (s.heap.objs.size + 2) (.ref s.heap.objs.size) (.ref (s.heap.objs.size + 1)) → IsPair h' (s.heap.objs.size + 3) .none .none →
      ItrB k1 h' s.heap.objs.size l1 0 → ItrB k2 h' (s.heap.objs.size + 1) l2 0 → (∀ c o, s.heap.get? c = some o → h'.get? c = some o) → Q (.ref (s.heap.objs.size + 4)) { s with heap := h' }) :
    wpAny (model prog w) A (call (.type "zip") [.ref l1, .ref l2]) Q E s := by
  refine callType_new F.called_zip (by decide) (F.typeCall_zip_2 _ _) (F.newCall_zip_2 _ _) (fun obj => F.args_object_init_3 obj _ _) F.entry_zip_new (makes k1 k2 l1 l2 xs ys) ⟨h1, h2, ?_⟩
  generalize ec1 : clsB k1 = c1
  generalize ec2 : clsB k2 = c2
  have n1 : (zm1 c1 s.heap l1).objs.size = s.heap.objs.size + 1 := Heap.size_push ..
  have n2 : (zm2 c1 c2 s.heap l1 l2).objs.size = s.heap.objs.size + 2 := by rw [Heap.size_push, n1]
  have n3 : (zm3 c1 c2 s.heap l1 l2).objs.size = s.heap.objs.size + 3 := by rw [Heap.size_push, n2]
  have n4 : (zm4 c1 c2 s.heap l1 l2).objs.size = s.heap.objs.size + 4 := by rw [Heap.size_push, n3]
  have a5 : (zm5 c1 c2 s.heap l1 l2).get? (zm4 c1 c2 s.heap l1 l2).objs.size = some _ := Heap.get?_push_size _ rfl
  have a4 : (zm5 c1 c2 s.heap l1 l2).get? (zm3 c1 c2 s.heap l1 l2).objs.size = some _ := Heap.get?_push_of_some _ (Heap.get?_push_size _ rfl)
  have a3 : (zm5 c1 c2 s.heap l1 l2).get? (zm2 c1 c2 s.heap l1 l2).objs.size = some _ := Heap.get?_push_of_some _ (Heap.get?_push_of_some _ (Heap.get?_push_size _ rfl))
  have a2 : (zm5 c1 c2 s.heap l1 l2).get? (zm1 c1 s.heap l1).objs.size = some _ := Heap.get?_push_of_some _ (Heap.get?_push_of_some _ (Heap.get?_push_of_some _ (Heap.get?_push_size _ rfl)))
  have a1 : (zm5 c1 c2 s.heap l1 l2).get? s.heap.objs.size = some _ := Heap.get?_push_of_some _ (Heap.get?_push_of_some _ (Heap.get?_push_of_some _ (Heap.get?_push_of_some _ (Heap.get?_push_size _ rfl))))
  show _ ∧ _
  rw [n2, n3, n4] at a5
  rw [n1, n2] at a3
  rw [n3] at a4
  rw [n1] at a2
  rw [n4]
  have b1 : ItrB k1 (zm5 c1 c2 s.heap l1 l2) s.heap.objs.size l1 0 := by
    rw [← ec1] at a1 ⊢
    cases k1 with
    | true => exact ⟨_, a1, rfl, rfl⟩
    | false => exact ⟨_, a1, rfl, rfl⟩
  have b2 : ItrB k2 (zm5 c1 c2 s.heap l1 l2) (s.heap.objs.size + 1) l2 0 := by
    rw [← ec2] at a2 ⊢
    cases k2 with
    | true => exact ⟨_, a2, rfl, rfl⟩
    | false => exact ⟨_, a2, rfl, rfl⟩
  exact ⟨⟨_, a5, rfl⟩, h _ a5 a3 a4 b1 b2 fun c o x => Heap.get?_push_of_some _ (Heap.get?_push_of_some _ (Heap.get?_push_of_some _ (Heap.get?_push_of_some _ (Heap.get?_push_of_some _ x))))⟩
end
def iZipM (K : PySem.W.Frag) (ta : TA) : TI := fun σ H R => ta σ H fun vs H1 => ∃ a b xs ys k1 k2, vs = [.ref a, .ref b] ∧ SqB K k1 H1 a xs ∧ SqB K k2 H1 b ys ∧ R (ItzM K k1 k2 a b) H1
theorem pi_zipM {X : Cx} {e e2 : Expr} {ta : TA} {p pos tpos : Pos} {elts : List Expr} {kk : Nat} (hg : Gl X "zip") (hm : X.mg "zip" = none) (ha : PA X [e, e2] ta)
    (hs : starEach [e, e2] X.env = (false, eval e X.env) :: starEach [e2] X.env := by rfl) (hpl : (backTo pos (starEach [e2] X.env)).any (·.1) = false := by rfl) : PI X (.Tuple elts kk tpos) (.Call (.Name "zip" p) [e, e2] [] pos) (iZipM X.K ta) := by
  refine ⟨fun pins s σ H R I h => ?_⟩
  refine Call_ (ld_blt I hg hm PyProof.Rows.boot_zip (PyProof.Rows.callWith_type1 (thn (ha.run pos pins s σ H _ I h) fun us s1 ⟨vs, H1, I1, r1, q1⟩ => ?_) hs hpl))
  obtain ⟨a, b, xs, ys, k1, k2, rfl, hqx, hqy, q⟩ := q1
  cases r1 with
  | cons r rr =>
    cases rr with
    | cons r' rr =>
      cases rr
      cases r
      cases r'
      have new : ∀ c, c ∈ [s1.heap.objs.size + 4, s1.heap.objs.size + 2, s1.heap.objs.size + 3, s1.heap.objs.size, s1.heap.objs.size + 1] → FpOk X pins H1 c := fun c hcm => by
        have hle : s1.heap.objs.size ≤ c := by
          rcases five hcm with rfl | rfl | rfl | rfl | rfl <;> first | exact Nat.le_refl _ | exact Nat.le_add_right _ _
        exact I1.fpOk hle (I1.hok.fresh hle)
      obtain ⟨its, rv, p1⟩ := sq_seq I1 hqx
      obtain ⟨its2, rv2, p2⟩ := sq_seq I1 hqy
      refine call_zipM p1 p2 fun h' hz hTI hTO h1 h2 hk => wpAny_pyIter_zip hz ?_
      exact ⟨s1.heap.objs.size + 4, [s1.heap.objs.size + 4, s1.heap.objs.size + 2, s1.heap.objs.size + 3, s1.heap.objs.size, s1.heap.objs.size + 1], _, _, H1, rfl, I1.kept (t' := s1.toks) hk, turn_zipM (PySem.W.ktu_apart s1.heap.objs.size a b p1.lt p2.lt), ⟨hz, hTI, ⟨_, _, hTO⟩, h1, h2⟩, new, q⟩
/-! ### the rule -/
def srcPV (v : PV) (mh : MH) : Option (Src × Bool) := match v with
  | .ref n => if isLst mh n then some (.lst n, true) else none
  | .tup xs => some (.vals xs, false)
  | _ => none
def mZip2 (m : PEnv → MH → R (List PV)) : PEnv → MH → R Src := fun env mh => (m env mh).bind fun vs mh1 => match vs with
  | [v, w] => match srcPV v mh1, srcPV w mh1 with
    | some (s1, _), some (s2, _) => .ok (.zip s1 s2) mh1
    | _, _ => .bad
  | _ => .bad
section
variable {K : KW} {ρ : List Addr} {H : Hp}
/-- a source's items, whichever kind -/
theorem src_items {mh : MH} {v : PV} {x : V} {sr : Src} {k : Bool} (sh : SimH K ρ mh H) (r : RV K ρ H v x) (e : srcPV v mh = some (sr, k)) : ∃ a ws, x = .ref a ∧ SqB K.k k H a ws := by
  unfold srcPV at e
  cases r with
  | @ref n a h =>
    simp only at e
    split at e
    · rename_i q
      cases e
      obtain ⟨vs, ws, _, s1, _⟩ := isLst_below sh h q
      exact ⟨a, ws, rfl, s1⟩
    · cases e
  | tup h _ =>
    cases e
    exact ⟨_, _, rfl, h⟩
  | _ => cases e
theorem src_later {mh mh' : MH} {v : PV} {a : Addr} {sr : Src} {k : Bool} {ρ' : List Addr} {H' : Hp} (l : Le K ρ H ρ' H') (sh' : SimH K ρ' mh' H') (r : RV K ρ H v (.ref a)) (e : srcPV v mh = some (sr, k)) (i : Nat) :
    (∃ vs ws, SqB K.k k H' a ws ∧ RVs K ρ' H' vs ws ∧ sr.item mh' i = some vs[i]?) ∨ sr.item mh' i = none := by
  unfold srcPV at e
  have r' := r.mono l
  cases r' with
  | @ref n a h =>
    simp only at e
    split at e
    · cases e
      by_cases q : isLst mh' n = true
      · obtain ⟨vs, ws, e1, s1, r1⟩ := isLst_below sh' h q
        exact .inl ⟨vs, ws, s1, r1, congrFun e1 i⟩
      · cases e2 : (Src.lst n).item mh' i with
        | none => exact .inr rfl
        | some o => exact absurd (item_lst_ok e2) q
    · cases e
  | tup h r2 =>
    cases e
    exact .inl ⟨_, _, h, r2, rfl⟩
theorem sqB_inj {k : Bool} {a : Addr} {xs ys : List V} {vs : List PV} : True := trivial
theorem jok_zipM {mh : MH} {v1 v2 : PV} {a b : Addr} {s1 s2 : Src} {k1 k2 : Bool} (r1 : RV K ρ H v1 (.ref a)) (r2 : RV K ρ H v2 (.ref b)) (e1 : srcPV v1 mh = some (s1, k1)) (e2 : srcPV v2 mh = some (s2, k2)) : JOk K ρ H (.zip s1 s2) (ItzM K.k k1 k2 a b) := fun ρ' mh' H' i l sh => by
  simp only [Src.item]
  rcases src_later l sh r1 e1 i with ⟨vs, ws, q1, rv1, z1⟩ | z1
  · rcases src_later l sh r2 e2 i with ⟨us, zs, q2, rv2, z2⟩ | z2
    · rw [z1, z2]
      exact zip_at (stop := (ItzM K.k k1 k2 a b).stop i H') (go := (ItzM K.k k1 k2 a b).go i H') (yld := (ItzM K.k k1 k2 a b).yld i H') sh rv1 rv2 (fun q => ⟨ws, zs, q1, q2, q⟩) fun x y hx hy => ⟨⟨ws, zs, x, y, q1, q2, hx, hy⟩, fun v H2 ⟨T, x', y', ev, hT, eH, p1, p2⟩ => by
        have := p1 ws q1
        rw [hx] at this
        cases this
        have := p2 zs q2
        rw [hy] at this
        cases this
        exact ⟨T, ev, hT, eH⟩⟩
    · rw [z2, zipI_none]
      trivial
  · rw [z1]
    trivial
end
section
variable {X : Cx} {W : WX} {e e2 : Expr} {p pos tpos : Pos} {m : PEnv → MH → R (List PV)} {elts : List Expr} {kk : Nat}
theorem ri_zip2 (hg : Gl X "zip") (hm : X.mg "zip" = none) (ha : RA X W [e, e2] m) (hs : starEach [e, e2] X.env = (false, eval e X.env) :: starEach [e2] X.env) (hpl : (backTo pos (starEach [e2] X.env)).any (·.1) = false) :
    RI X W (.Tuple elts kk tpos) (.Call (.Name "zip" p) [e, e2] [] pos) (mZip2 m) :=
  (pi_zipM hg hm ha hs hpl).imp fun σ H R h => by
    obtain ⟨ρ, env, mh, sh, se, p⟩ := h
    refine ⟨ρ, env, mh, sh, se, PostA.bindI p fun vs mh1 ρ1 xs H1 e l1 sh1 rv p1 => ?_⟩
    split at p1
    · rename_i v w
      split at p1
      · rename_i s1 k1 s2 k2 e1 e2
        cases rv with
        | cons r1 r2 =>
          cases r2 with
          | cons r2 r3 =>
            cases r3
            obtain ⟨a, ws, rfl, q1⟩ := src_items sh1 r1 e1
            obtain ⟨b, zs, rfl, q2⟩ := src_items sh1 r2 e2
            exact ⟨a, b, ws, zs, k1, k2, rfl, q1, q2, p1 ρ1 H1 _ .refl sh1 (jok_zipM r1 r2 e1 e2)⟩
      · exact p1.elim
    · exact p1.elim
end
end Ev
namespace Ev
open PySem PySem.Spec PyProof.Rows L2 RZ
/-! ### what is wanted of the evaluator's answers -/
def Ok {α : Type} (r : R α) (Q : α → MH → Prop) : Prop := match r with
  | .ok a h => Q a h
  | _ => False
/-- a statement's ends; what is raised: never -/
structure EndsP where
  nx : PEnv → MH → Prop
  rt : PV → MH → Prop := fun _ _ => False
  bk : PEnv → MH → Prop := fun _ _ => False
  ct : PEnv → MH → Prop := fun _ _ => False
def OkS (r : RS) (D : EndsP) : Prop := match r with
  | .nx e h => D.nx e h
  | .rt v h => D.rt v h
  | .bk e h => D.bk e h
  | .ct e h => D.ct e h
  | _ => False
section
variable {α β : Type}
theorem Ok.of {r : R α} {a : α} {h : MH} {Q : α → MH → Prop} (e : r = .ok a h) (q : Q a h) : Ok r Q := by
  rw [e]
  exact q
theorem Ok.get {r : R α} {Q : α → MH → Prop} (k : Ok r Q) : ∃ a h, r = .ok a h ∧ Q a h := by
  cases r with
  | ok a h => exact ⟨a, h, rfl, k⟩
  | exc _ _ _ => exact k.elim
  | bad => exact k.elim
theorem Ok.imp {r : R α} {Q Q' : α → MH → Prop} (k : Ok r Q) (f : ∀ a h, Q a h → Q' a h) : Ok r Q' := by
  obtain ⟨a, h, e, q⟩ := k.get
  exact .of e (f a h q)
theorem ok_bind {r : R α} {f : α → MH → R β} {Q : β → MH → Prop} : Ok (r.bind f) Q ↔ Ok r fun a h => Ok (f a h) Q := by
  cases r with
  | ok a h => exact Iff.rfl
  | exc _ _ _ => exact Iff.rfl
  | bad => exact Iff.rfl
theorem ok_ok {a : α} {h : MH} {Q : α → MH → Prop} : Ok (.ok a h) Q ↔ Q a h := Iff.rfl
theorem okS_bind {r : R α} {env : PEnv} {f : α → MH → RS} {D : EndsP} : OkS (r.bindS env f) D ↔ Ok r fun a h => OkS (f a h) D := by
  cases r with
  | ok a h => exact Iff.rfl
  | exc _ _ _ => exact Iff.rfl
  | bad => exact Iff.rfl
end
section
variable {env : PEnv} {mh : MH} {Q : PV → MH → Prop} {QA : List PV → MH → Prop} {QB : Bool → MH → Prop} {QI : Src → MH → Prop} {D : EndsP} {ma mb mc : PEnv → MH → R PV} {m mr : PEnv → MH → R (List PV)} {ta tb : PEnv → MH → R Bool} {s1 s2 : PEnv → MH → RS}
theorem ok_bin {op : Op2} : Ok (mBin op ma mb env mh) Q ↔ Ok (ma env mh) fun v h => Ok (mb env h) fun w h' => Ok (op v w h') Q := by
  unfold mBin
  simp only [ok_bind]
theorem ok_un {op : Op1} : Ok (mUn op ma env mh) Q ↔ Ok (ma env mh) fun v h => Ok (op v h) Q := ok_bind
theorem ok_k {v : PV} : Ok (mK v env mh) Q ↔ Q v mh := Iff.rfl
theorem ok_var {i : Nat} {v : PV} (h : env[i]? = some (some v)) : Ok (mVar i env mh) Q ↔ Q v mh := by
  unfold mVar
  rw [h]
  exact Iff.rfl
theorem ok_var0 {v : PV} {e : PEnv} : Ok (mVar 0 (some v :: e) mh) Q ↔ Q v mh := Iff.rfl
theorem ok_varS {x : Option PV} {e : PEnv} {i : Nat} : Ok (mVar (i + 1) (x :: e) mh) Q ↔ Ok (mVar i e mh) Q := by
  unfold mVar
  rw [List.getElem?_cons_succ]
theorem ok_ob {o : Option Bool} : Ok (ob o mh) QB ↔ ∃ b, o = some b ∧ QB b mh := by
  cases o with
  | none => exact ⟨fun h => h.elim, fun ⟨_, h, _⟩ => by cases h⟩
  | some b => exact ⟨fun h => ⟨b, rfl, h⟩, fun ⟨_, h, q⟩ => by cases h; exact q⟩
theorem ok_obv {o : Option Bool} : Ok (obv o mh) Q ↔ ∃ b, o = some b ∧ Q (.bl b) mh := by
  cases o with
  | none => exact ⟨fun h => h.elim, fun ⟨_, h, _⟩ => by cases h⟩
  | some b => exact ⟨fun h => ⟨b, rfl, h⟩, fun ⟨_, h, q⟩ => by cases h; exact q⟩
theorem ok_cmp {o : Cmp2} : Ok (mCmp o ma mb env mh) Q ↔ Ok (ma env mh) fun v h => Ok (mb env h) fun w h' => Ok (obv (o v w h') h') Q := by
  unfold mCmp
  simp only [ok_bind]
theorem ok_cmpT {o : Cmp2} : Ok (mCmpT o ma mb env mh) QB ↔ Ok (ma env mh) fun v h => Ok (mb env h) fun w h' => Ok (ob (o v w h') h') QB := by
  unfold mCmpT
  simp only [ok_bind]
theorem ok_chain {o o' : Cmp2} : Ok (mChain o o' ma mb mc env mh) QB ↔ Ok (ma env mh) fun v h => Ok (mb env h) fun w h' => Ok (ob (o v w h') h') fun k h2 => Ok (if k = true then (mc env h2).bind fun u h3 => ob (o' w u h3) h3 else .ok false h2) QB := by
  unfold mChain
  simp only [ok_bind]
theorem ok_bl : Ok (mBl ta env mh) Q ↔ Ok (ta env mh) fun b h => Q (.bl b) h := by
  unfold mBl
  simp only [ok_bind, ok_ok]
theorem ok_nil : Ok (mNil env mh) QA ↔ QA [] mh := Iff.rfl
theorem ok_cons : Ok (mCons ma mr env mh) QA ↔ Ok (ma env mh) fun v h => Ok (mr env h) fun vs h' => QA (v :: vs) h' := by
  unfold mCons
  simp only [ok_bind, ok_ok]
theorem ok_call {cf : List PV → MH → R PV} : Ok (mCall cf m env mh) Q ↔ Ok (m env mh) fun vs h => Ok (cf vs h) Q := ok_bind
theorem ok_callOp {op : OpN} : Ok (mCallOp op m env mh) Q ↔ Ok (m env mh) fun vs h => Ok (op vs h) Q := ok_bind
theorem ok_isi {T : String} : Ok (mIsi T ma env mh) Q ↔ Ok (ma env mh) fun v h => Ok (isTy T v h) Q := ok_bind
theorem ok_test : Ok (mTest ma env mh) QB ↔ Ok (ma env mh) fun v h => Ok (truthy v h) QB := ok_bind
theorem ok_andT : Ok (mAndT ta tb env mh) QB ↔ Ok (ta env mh) fun k h => Ok (if k = true then tb env h else .ok false h) QB := ok_bind
theorem ok_orT : Ok (mOrT ta tb env mh) QB ↔ Ok (ta env mh) fun k h => Ok (if k = true then .ok true h else tb env h) QB := ok_bind
theorem ok_notT : Ok (mNotT ta env mh) QB ↔ Ok (ta env mh) fun k h => QB (!k) h := by
  unfold mNotT
  simp only [ok_bind, ok_ok]
theorem ok_isBl {b : Bool} : Ok (isBl (.bl b) mh) QB ↔ QB b mh := Iff.rfl
theorem ok_andV : Ok (mAndV ma mb env mh) Q ↔ Ok (ma env mh) fun v h => Ok (isBl v h) fun k h2 => Ok (if k = true then mb env h2 else .ok (.bl false) h2) Q := by
  unfold mAndV
  simp only [ok_bind]
theorem ok_orV : Ok (mOrV ma mb env mh) Q ↔ Ok (ma env mh) fun v h => Ok (isBl v h) fun k h2 => Ok (if k = true then .ok (.bl true) h2 else mb env h2) Q := by
  unfold mOrV
  simp only [ok_bind]
theorem ok_notV : Ok (mNotV ma env mh) Q ↔ Ok (ma env mh) fun v h => Ok (isBl v h) fun k h2 => Q (.bl (!k)) h2 := by
  unfold mNotV
  simp only [ok_bind, ok_ok]
theorem ok_if : Ok (mIf ta ma mb env mh) Q ↔ Ok (ta env mh) fun k h => Ok (if k = true then ma env h else mb env h) Q := ok_bind
theorem ok_ite {α : Type} {c : Prop} [Decidable c] {x y : R α} {Q : α → MH → Prop} : Ok (if c then x else y) Q ↔ (c → Ok x Q) ∧ (¬ c → Ok y Q) := by
  by_cases h : c
  · rw [if_pos h]
    exact ⟨fun q => ⟨fun _ => q, fun n => absurd h n⟩, fun q => q.1 h⟩
  · rw [if_neg h]
    exact ⟨fun q => ⟨fun n => absurd n h, fun _ => q⟩, fun q => q.2 h⟩
theorem okS_ite {c : Prop} [Decidable c] {x y : RS} : OkS (if c then x else y) D ↔ (c → OkS x D) ∧ (¬ c → OkS y D) := by
  by_cases h : c
  · rw [if_pos h]
    exact ⟨fun q => ⟨fun _ => q, fun n => absurd h n⟩, fun q => q.1 h⟩
  · rw [if_neg h]
    exact ⟨fun q => ⟨fun n => absurd n h, fun _ => q⟩, fun q => q.2 h⟩
theorem okS_next : OkS (sNext env mh) D ↔ D.nx env mh := Iff.rfl
theorem okS_seq : OkS (sSeq s1 s2 env mh) D ↔ OkS (s1 env mh) { D with nx := fun e h => OkS (s2 e h) D } := by
  unfold sSeq
  cases s1 env mh <;> exact Iff.rfl
theorem okS_ret : OkS (sRet ma env mh) D ↔ Ok (ma env mh) D.rt := by
  unfold sRet
  rw [okS_bind]
  exact Iff.rfl
theorem okS_expr : OkS (sExpr ma env mh) D ↔ Ok (ma env mh) fun _ h => D.nx env h := by
  unfold sExpr
  rw [okS_bind]
  exact Iff.rfl
theorem okS_if : OkS (sIf ta s1 s2 env mh) D ↔ Ok (ta env mh) fun k h => OkS (if k = true then s1 env h else s2 env h) D := by
  unfold sIf
  rw [okS_bind]
theorem okS_set {i : Nat} : OkS (sAsg ma (.nm i) env mh) D ↔ Ok (ma env mh) fun v h => D.nx (env.set i (some v)) h := by
  unfold sAsg
  rw [okS_bind]
  exact Iff.rfl
theorem okS_asg {t : Tg} : OkS (sAsg ma t env mh) D ↔ Ok (ma env mh) fun v h => ∃ e, asg t v env h = some e ∧ D.nx e h := by
  unfold sAsg
  rw [okS_bind]
  constructor
  · intro k
    refine k.imp fun v h q => ?_
    cases e : asg t v env h with
    | none => rw [e] at q; exact q.elim
    | some x => rw [e] at q; exact ⟨x, rfl, q⟩
  · intro k
    refine k.imp fun v h ⟨x, e, q⟩ => ?_
    rw [e]
    exact q
theorem okS_par {i j : Nat} : OkS (sPar i j m env mh) D ↔ Ok (m env mh) fun vs h => ∃ v w, vs = [v, w] ∧ D.nx ((env.set i (some v)).set j (some w)) h := by
  unfold sPar
  rw [okS_bind]
  constructor
  · intro k
    refine k.imp fun vs h q => ?_
    split at q
    · exact ⟨_, _, rfl, q⟩
    · exact q.elim
  · intro k
    refine k.imp fun vs h ⟨v, w, e, q⟩ => ?_
    subst e
    exact q
theorem okS_par3 {i j l : Nat} : OkS (sPar3 i j l m env mh) D ↔ Ok (m env mh) fun vs h => ∃ v w u, vs = [v, w, u] ∧ D.nx (((env.set i (some v)).set j (some w)).set l (some u)) h := by
  unfold sPar3
  rw [okS_bind]
  constructor
  · intro k
    refine k.imp fun vs h q => ?_
    split at q
    · exact ⟨_, _, _, rfl, q⟩
    · exact q.elim
  · intro k
    refine k.imp fun vs h ⟨v, w, u, e, q⟩ => ?_
    subst e
    exact q
theorem okS_store {me mo mi : PEnv → MH → R PV} : OkS (sStore me mo mi env mh) D ↔ Ok (me env mh) fun v h => Ok (mo env h) fun o h1 => Ok (mi env h1) fun i h2 => ∃ h3, stIx o i v h2 = some h3 ∧ D.nx env h3 := by
  unfold sStore
  rw [okS_bind]
  constructor
  · intro k
    refine k.imp fun v h q => ?_
    rw [okS_bind] at q
    refine q.imp fun o h1 q => ?_
    rw [okS_bind] at q
    refine q.imp fun i h2 q => ?_
    cases e : stIx o i v h2 with
    | none => rw [e] at q; exact q.elim
    | some x => rw [e] at q; exact ⟨x, rfl, q⟩
  · intro k
    refine k.imp fun v h q => ?_
    rw [okS_bind]
    refine q.imp fun o h1 q => ?_
    rw [okS_bind]
    refine q.imp fun i h2 ⟨h3, e, q⟩ => ?_
    rw [e]
    exact q
/-- a def's run -/
theorem ok_run {body : PEnv → MH → RS} {n : Nat} {args : List PV} : Ok (runB body n args mh) Q ↔ OkS (body (args.map some ++ List.replicate (n - args.length) none) mh) ⟨fun _ h => Q .non h, Q, fun _ _ => False, fun _ _ => False⟩ := by
  unfold runB
  cases body (args.map some ++ List.replicate (n - args.length) none) mh <;> exact Iff.rfl
theorem ok_src : Ok (mSrc ma env mh) QI ↔ Ok (ma env mh) fun v h => Ok (srcOf v h) QI := ok_bind
theorem ok_range : Ok (mRange m env mh) QI ↔ Ok (m env mh) fun vs h => ∃ l, rangeOf vs = some l ∧ QI (.vals l) h := by
  unfold mRange
  rw [ok_bind]
  constructor
  · intro k
    refine k.imp fun vs h q => ?_
    cases e : rangeOf vs with
    | none => rw [e] at q; exact q.elim
    | some x => rw [e] at q; exact ⟨x, rfl, q⟩
  · intro k
    refine k.imp fun vs h ⟨l, e, q⟩ => ?_
    rw [e]
    exact q
theorem ok_tup (hz : ∀ vs h, QA vs h → vs.length ≤ sizeLine) : Ok (m env mh) (fun vs h => QA vs h) → (∀ vs h, QA vs h → Q (.tup vs) h) → Ok (mTup m env mh) Q := fun k f => by
  unfold mTup
  rw [ok_bind]
  refine k.imp fun vs h q => ?_
  rw [if_pos (hz vs h q)]
  exact f vs h q
end
/-! ### heaps that keep what stood -/
def Sub (mh h : MH) : Prop := ∀ (i : Nat) o, mh[i]? = some o → h[i]? = some o
/-- all but the object at p -/
def SubX (p : Nat) (mh h : MH) : Prop := ∀ (i : Nat) o, i ≠ p → mh[i]? = some o → h[i]? = some o
theorem Sub.refl (mh : MH) : Sub mh mh := fun _ _ e => e
theorem Sub.trans {a b c : MH} (x : Sub a b) (y : Sub b c) : Sub a c := fun i o e => y i o (x i o e)
theorem Sub.x {a b : MH} (p : Nat) (x : Sub a b) : SubX p a b := fun i o _ e => x i o e
theorem SubX.refl (p : Nat) (mh : MH) : SubX p mh mh := fun _ _ _ e => e
theorem SubX.trans {p : Nat} {a b c : MH} (x : SubX p a b) (y : SubX p b c) : SubX p a c := fun i o n e => y i o n (x i o n e)
theorem Sub.push (mh : MH) (o : MO) : Sub mh (mh ++ [o]) := fun i x e => by
  rw [List.getElem?_append_left (List.getElem?_eq_some_iff.mp e).1]
  exact e
theorem at_push (mh : MH) (o : MO) : (mh ++ [o])[mh.length]? = some o := by simp
theorem Sub.new {a b : MH} (x : Sub a b) : a[b.length]? = none := by
  cases e : a[b.length]? with
  | none => rfl
  | some o =>
    have := (List.getElem?_eq_some_iff.mp (x _ _ e)).1
    omega
theorem SubX.new {p : Nat} {a b : MH} (x : SubX p a b) (hp : p < b.length) : a[b.length]? = none := by
  cases e : a[b.length]? with
  | none => rfl
  | some o =>
    have := (List.getElem?_eq_some_iff.mp (x _ _ (by omega) e)).1
    omega
theorem Sub.set {a b : MH} (x : Sub a b) {n : Nat} (hn : a[n]? = none) (o : MO) : Sub a (b.set n o) := fun i u e => by
  have : n ≠ i := fun z => by
    subst z
    rw [hn] at e
    cases e
  rw [List.getElem?_set_ne this]
  exact x i u e
theorem SubX.set {p : Nat} {a b : MH} (x : SubX p a b) {n : Nat} (hn : a[n]? = none ∨ n = p) (o : MO) : SubX p a (b.set n o) := fun i u hi e => by
  have : n ≠ i := fun z => by
    subst z
    rcases hn with hn | hn
    · rw [hn] at e
      cases e
    · exact hi hn
  rw [List.getElem?_set_ne this]
  exact x i u hi e
theorem at_set {mh : MH} {n : Nat} {x : MO} (h : mh[n]? = some x) (o : MO) : (mh.set n o)[n]? = some o := List.getElem?_set_self (List.getElem?_eq_some_iff.mp h).1
/-! ### sources -/
/-- the items are these, as the heap stands -/
def SrcIs (s : Src) (h : MH) (vs : List PV) : Prop := ∀ i : Nat, s.item h i = some vs[i]?
theorem srcIs_vals (vs : List PV) (h : MH) : SrcIs (.vals vs) h vs := fun _ => rfl
theorem srcIs_lst {n : Nat} {h : MH} {vs : List PV} (e : h[n]? = some (.lst vs)) : SrcIs (.lst n) h vs := fun i => by
  simp only [Src.item, e]
theorem srcIs_scr {n : Nat} {h : MH} {vs : List PV} (e : h[n]? = some (.scr vs)) : SrcIs (.lst n) h vs := fun i => by
  simp only [Src.item, e]
def enumPV (k : Nat) : List PV → List PV
  | [] => []
  | v :: vs => .tup [.int (k : Nat), v] :: enumPV (k + 1) vs
theorem enumPV_get : ∀ (vs : List PV) (k i : Nat), (enumPV k vs)[i]? = (vs[i]?).map fun v => .tup [.int ((k + i : Nat) : Int), v]
  | [], _, _ => by simp [enumPV]
  | v :: vs, k, 0 => by simp [enumPV]
  | v :: vs, k, i + 1 => by
    simp only [enumPV, List.getElem?_cons_succ]
    rw [enumPV_get vs (k + 1) i]
    congr 1
    funext w
    congr 4
    omega
theorem SrcIs.enum {s : Src} {h : MH} {vs : List PV} (e : SrcIs s h vs) : SrcIs (.enum s) h (enumPV 0 vs) := fun i => by
  simp only [Src.item, e i]
  rw [enumPV_get]
  cases vs[i]? with
  | none => rfl
  | some v => simp
theorem pairsOf_get : ∀ (vs ws : List PV) (i : Nat), zipI (some vs[i]?) (some ws[i]?) = some (pairsOf vs ws)[i]?
  | [], ws, i => by
    cases ws[i]? <;> simp [zipI, pairsOf]
  | v :: vs, [], i => by
    cases (v :: vs)[i]? <;> simp [zipI, pairsOf]
  | v :: vs, w :: ws, 0 => by simp [zipI, pairsOf]
  | v :: vs, w :: ws, i + 1 => by
    simp only [pairsOf, List.getElem?_cons_succ]
    exact pairsOf_get vs ws i
theorem SrcIs.zip {s t : Src} {h : MH} {vs ws : List PV} (e : SrcIs s h vs) (f : SrcIs t h ws) : SrcIs (.zip s t) h (pairsOf vs ws) := fun i => by
  simp only [Src.item, e i, f i]
  exact pairsOf_get vs ws i
/-! ### loops -/
section
variable {t : Tg} {body : PEnv → MH → RS} {src : Src} {vs : List PV}
theorem forL_inv (Iv : Nat → PEnv → MH → Prop) (D : EndsP) (hs : ∀ i e h, Iv i e h → SrcIs src h vs)
    (step : ∀ (i : Nat) v e h, vs[i]? = some v → Iv i e h → ∃ e2, asg t v e h = some e2 ∧ OkS (body e2 h) ⟨Iv (i + 1), D.rt, D.nx, Iv (i + 1)⟩)
    (done : ∀ e h, Iv vs.length e h → D.nx e h) : ∀ (fuel i : Nat) e h, vs.length < fuel + i → i ≤ vs.length → Iv i e h → OkS (forL src t body fuel i e h) D := by
  intro fuel
  induction fuel with
  | zero =>
    intro i e h h1 h2 _
    omega
  | succ fuel ih =>
    intro i e h h1 h2 inv
    have hi := hs i e h inv i
    simp only [forL, hi]
    cases q : vs[i]? with
    | none =>
      have : i = vs.length := by
        have := List.getElem?_eq_none_iff.mp q
        omega
      subst this
      exact done e h inv
    | some v =>
      have hlt := (List.getElem?_eq_some_iff.mp q).1
      obtain ⟨e2, ea, k⟩ := step i v e h q inv
      simp only [ea]
      cases hb : body e2 h with
      | nx e3 h3 =>
        rw [hb] at k
        exact ih (i + 1) e3 h3 (by omega) hlt k
      | ct e3 h3 =>
        rw [hb] at k
        exact ih (i + 1) e3 h3 (by omega) hlt k
      | bk e3 h3 =>
        rw [hb] at k
        exact k
      | rt v h3 =>
        rw [hb] at k
        exact k
      | exc _ _ _ _ =>
        rw [hb] at k
        exact k.elim
      | bad =>
        rw [hb] at k
        exact k.elim
theorem okS_for {ms : PEnv → MH → R Src} {env : PEnv} {mh : MH} {D : EndsP} (h : Ok (ms env mh) fun src h1 => ∃ (vs : List PV) (Iv : Nat → PEnv → MH → Prop), vs.length < loopFuel ∧ (∀ i e h, Iv i e h → SrcIs src h vs) ∧
    (∀ (i : Nat) v e h, vs[i]? = some v → Iv i e h → ∃ e2, asg t v e h = some e2 ∧ OkS (body e2 h) ⟨Iv (i + 1), D.rt, D.nx, Iv (i + 1)⟩) ∧ (∀ e h, Iv vs.length e h → D.nx e h) ∧ Iv 0 env h1) : OkS (sFor ms t body env mh) D := by
  unfold sFor
  rw [okS_bind]
  refine h.imp fun src h1 ⟨vs, Iv, hl, hs, step, done, i0⟩ => ?_
  exact forL_inv Iv D hs step done loopFuel 0 env h1 (by omega) (Nat.zero_le _) i0
/-- a comprehension, with an invariant: i items walked, out made; the made list stands at d -/
theorem compL_inv {mt : PEnv → MH → R Bool} {me : PEnv → MH → R PV} {env : PEnv} {d : Nat} (Iv : Nat → List PV → MH → Prop) {Q : MH → Prop} (hs : ∀ i out h, Iv i out h → h[d]? = some (.lst out) → SrcIs src h vs) (hz : ∀ i out h, Iv i out h → out.length ≤ i) (hv : vs.length < loopFuel)
    (step : ∀ (i : Nat) v out h, vs[i]? = some v → Iv i out h → h[d]? = some (.lst out) → ∃ e2, asg t v env h = some e2 ∧ Ok (mt e2 h) fun k h1 => if k = true then Ok (me e2 h1) fun y h2 => h2[d]? = some (.lst out) ∧ Iv (i + 1) (out ++ [y]) (h2.set d (.lst (out ++ [y]))) else h1[d]? = some (.lst out) ∧ Iv (i + 1) out h1)
    (done : ∀ out h, Iv vs.length out h → h[d]? = some (.lst out) → Q h) : ∀ (fuel i : Nat) out h, vs.length < fuel + i → i ≤ vs.length → Iv i out h → h[d]? = some (.lst out) → ∃ h', compL src t mt me d fuel i env h = some h' ∧ Q h' := by
  intro fuel
  induction fuel with
  | zero =>
    intro i out h h1 h2 _ _
    omega
  | succ fuel ih =>
    intro i out h h1 h2 inv hd
    have hi := hs i out h inv hd i
    simp only [compL, hi]
    cases q : vs[i]? with
    | none =>
      have : i = vs.length := by
        have := List.getElem?_eq_none_iff.mp q
        omega
      subst this
      exact ⟨h, rfl, done out h inv hd⟩
    | some v =>
      have hlt := (List.getElem?_eq_some_iff.mp q).1
      obtain ⟨e2, ea, k⟩ := step i v out h q inv hd
      simp only [ea]
      obtain ⟨b, h3, e3, k3⟩ := k.get
      rw [e3]
      cases b with
      | false =>
        rw [if_neg (by simp)] at k3
        exact ih (i + 1) out h3 (by omega) hlt k3.2 k3.1
      | true =>
        rw [if_pos rfl] at k3
        obtain ⟨y, h4, e4, k4, k5⟩ := k3.get
        simp only [e4]
        have hsz : out.length < sizeLine := by
          have := hz i out h inv
          have h9 : loopFuel ≤ sizeLine := by decide
          omega
        have ep : putL d y h4 = some (h4.set d (.lst (out ++ [y]))) := by
          unfold putL
          rw [k4]
          simp only
          rw [if_pos hsz]
        simp only [ep]
        exact ih (i + 1) (out ++ [y]) _ (by omega) hlt k5 (at_set k4 _)
theorem ok_comp {ms : PEnv → MH → R Src} {mt : PEnv → MH → R Bool} {me : PEnv → MH → R PV} {own : List Nat} {env : PEnv} {mh : MH} {Q : PV → MH → Prop}
    (h : Ok (ms env mh) fun src h1 => ∃ (vs : List PV) (Iv : Nat → List PV → MH → Prop), vs.length < loopFuel ∧ (∀ i out h, Iv i out h → h[h1.length]? = some (.lst out) → SrcIs src h vs) ∧ (∀ i out h, Iv i out h → out.length ≤ i) ∧
      (∀ (i : Nat) v out h, vs[i]? = some v → Iv i out h → h[h1.length]? = some (.lst out) → ∃ e2, asg t v (wipeE env own) h = some e2 ∧ Ok (mt e2 h) fun k h2 => if k = true then Ok (me e2 h2) fun y h3 => h3[h1.length]? = some (.lst out) ∧ Iv (i + 1) (out ++ [y]) (h3.set h1.length (.lst (out ++ [y]))) else h2[h1.length]? = some (.lst out) ∧ Iv (i + 1) out h2) ∧
      Iv 0 [] (h1 ++ [.lst []]) ∧ (∀ out h, Iv vs.length out h → h[h1.length]? = some (.lst out) → Q (.ref h1.length) h)) : Ok (mComp ms t mt me own env mh) Q := by
  unfold mComp
  rw [ok_bind]
  refine h.imp fun src h1 ⟨vs, Iv, hl, hs, hz, step, i0, done⟩ => ?_
  obtain ⟨h', e, q⟩ := compL_inv (Q := fun h => Q (.ref h1.length) h) Iv hs hz hl step done loopFuel 0 [] (h1 ++ [.lst []]) (by omega) (Nat.zero_le _) i0 (at_push _ _)
  rw [e]
  exact q
/-- a comprehension that changes nothing, of a source that stays; each item x of as (shown as s x) gives g x -/
theorem ok_compP {α : Type} {ms : PEnv → MH → R Src} {mt : PEnv → MH → R Bool} {me : PEnv → MH → R PV} {own : List Nat} {env : PEnv} {mh : MH} {Q : PV → MH → Prop} (as : List α) (s : α → PV) (p : α → Bool) (g : α → PV)
    (h : Ok (ms env mh) fun src h1 => as.length < loopFuel ∧ Sub mh h1 ∧ (∀ h, Sub h1 h → SrcIs src h (as.map s))) (step : ∀ x ∈ as, ∀ h, Sub mh h → ∃ e2, asg t (s x) (wipeE env own) h = some e2 ∧ Ok (mt e2 h) fun k h2 => k = p x ∧ Sub h h2 ∧ (p x = true → Ok (me e2 h2) fun y h3 => y = g x ∧ Sub h2 h3))
    (done : ∀ n h, Sub mh h → mh[n]? = none → h[n]? = some (.lst ((as.filter p).map g)) → Q (.ref n) h) : Ok (mComp ms t mt me own env mh) Q := by
  refine ok_comp (h.imp fun src h1 ⟨hl, hb, hs⟩ => ⟨as.map s, fun i out h => out = ((as.take i).filter p).map g ∧ Sub h1 h ∧ out.length ≤ i, by simpa using hl, fun i out h q _ => hs h q.2.1, fun i out h q => q.2.2, ?_, ⟨by simp, .push _ _, by simp⟩, ?_⟩)
  · rintro i v out h hv ⟨rfl, hk, hlen⟩ hd
    rw [List.getElem?_map] at hv
    obtain ⟨x, hx, rfl⟩ := Option.map_eq_some_iff.mp hv
    have hm : x ∈ as := List.mem_of_getElem? hx
    obtain ⟨e2, ea, k⟩ := step x hm h (hb.trans hk)
    have htake : as.take (i + 1) = as.take i ++ [x] := by
      rw [List.take_add_one, hx]
      rfl
    refine ⟨e2, ea, k.imp fun b h2 ⟨eb, hk2, k2⟩ => ?_⟩
    subst eb
    cases hp : p x with
    | false =>
      rw [if_neg (by simp)]
      refine ⟨hk2 _ _ hd, ?_, hk.trans hk2, by omega⟩
      rw [htake]
      simp [hp]
    | true =>
      rw [if_pos rfl]
      refine (k2 hp).imp fun y h3 ⟨ey, hk3⟩ => ⟨hk3 _ _ (hk2 _ _ hd), ?_, ?_, ?_⟩
      · rw [htake, ey]
        simp [hp]
      · exact ((hk.trans hk2).trans hk3).set (Sub.refl h1).new _
      · rw [List.length_append]
        simp
        simpa using hlen
  · rintro out h ⟨e, hk, _⟩ hd
    rw [List.length_map, List.take_length] at e
    subst e
    exact done _ _ (hb.trans hk) hb.new hd
end
end Ev
namespace Ev
open PySem PySem.Spec PyProof.Rows L2 RZ
/-! ### ints: sums, products, their size -/
def Bd (k : Nat) (x : Int) : Prop := x.natAbs < 2 ^ k
theorem Bd.mono {a b : Nat} {x : Int} (h : Bd a x) (hab : a ≤ b) : Bd b x := Nat.lt_of_lt_of_le h (Nat.pow_le_pow_right (by decide) hab)
theorem Bd.mul {a b : Nat} {x y : Int} (h : Bd a x) (k : Bd b y) : Bd (a + b) (x * y) := by
  unfold Bd at *
  rw [Int.natAbs_mul, Nat.pow_add]
  rcases Nat.eq_zero_or_pos y.natAbs with z | z
  · rw [z, Nat.mul_zero]
    exact Nat.mul_pos (Nat.pow_pos (by decide)) (Nat.pow_pos (by decide))
  · exact Nat.lt_of_lt_of_le (Nat.mul_lt_mul_of_pos_right h z) (Nat.mul_le_mul_left _ (Nat.le_of_lt k))
theorem Bd.add {a b : Nat} {x y : Int} (h : Bd a x) (k : Bd b y) : Bd (a + b + 1) (x + y) := by
  unfold Bd at *
  have h1 := Nat.pow_le_pow_right (n := 2) (by decide) (show a ≤ a + b by omega)
  have h2 := Nat.pow_le_pow_right (n := 2) (by decide) (show b ≤ a + b by omega)
  have h3 : 2 ^ (a + b + 1) = 2 ^ (a + b) * 2 := Nat.pow_succ ..
  omega
theorem Bd.mod {b : Nat} (x : Int) {m : Int} (hm : 0 < m) (k : Bd b m) : Bd b (x % m) := by
  unfold Bd at *
  have h1 := Int.emod_nonneg x (show m ≠ 0 by omega)
  have h2 := Int.emod_lt_of_pos x hm
  omega
theorem Bd.log {a : Nat} {x : Int} (h : Bd a x) (ha : 0 < a) : x.natAbs.log2 < a := by
  unfold Bd at h
  rcases Nat.eq_zero_or_pos x.natAbs with z | z
  · rw [z]
    simpa using ha
  · exact (Nat.log2_lt (by omega)).mpr h
theorem Bd.pow {a : Nat} {x : Int} (h : Bd a x) (n : Nat) : Bd (a * n + 1) (x ^ n) := by
  induction n with
  | zero =>
    unfold Bd
    rw [Int.pow_zero, Nat.mul_zero]
    decide
  | succ n ih =>
    rw [Int.pow_succ]
    exact (ih.mul h).mono (by rw [Nat.mul_succ]; omega)
section
variable {h : MH} {Q : PV → MH → Prop} {i j : Int}
theorem ok_addI : Ok (opAdd (.int i) (.int j) h) Q ↔ Q (.int (i + j)) h := Iff.rfl
theorem ok_subI : Ok (opSub (.int i) (.int j) h) Q ↔ Q (.int (i - j)) h := Iff.rfl
theorem ok_negI : Ok (opNeg (.int i) h) Q ↔ Q (.int (-i)) h := Iff.rfl
theorem ok_mulI {a b : Nat} (hi : Bd a i) (hj : Bd b j) (hab : a + b < 900000) (q : Q (.int (i * j)) h) : Ok (opMul (.int i) (.int j) h) Q := by
  have h1 := (hi.mono (Nat.le_succ a)).log (Nat.succ_pos a)
  have h2 := (hj.mono (Nat.le_succ b)).log (Nat.succ_pos b)
  simp only [opMul]
  rw [if_pos (by omega)]
  exact q
theorem ok_modI (hj : 0 < j) (q : Q (.int (i % j)) h) : Ok (opMod (.int i) (.int j) h) Q := by
  simp only [opMod]
  rw [if_pos hj]
  exact q
theorem ok_divI {b : Nat} (hj : 0 < j) (bj : Bd b j) (hb : b < 8000) (q : Q (.int (i / j)) h) : Ok (opDiv (.int i) (.int j) h) Q := by
  have h2 := (bj.mono (Nat.le_succ b)).log (Nat.succ_pos b)
  simp only [opDiv]
  rw [if_pos ⟨hj, by omega⟩]
  exact q
theorem ok_powI {a : Nat} {n : Nat} (hi : Bd a i) (ha : a < 9000) (hn : n ≤ 1000) (q : Q (.int (i ^ n)) h) : Ok (opPow (.int i) (.int n) h) Q := by
  have h1 := (hi.mono (Nat.le_succ a)).log (Nat.succ_pos a)
  simp only [opPow]
  rw [if_pos ⟨by omega, by omega, by omega⟩]
  exact q
theorem ok_intI : Ok (opInt [.int i] h) Q ↔ Q (.int i) h := Iff.rfl
theorem ok_intB {b : Bool} : Ok (opInt [.bl b] h) Q ↔ Q (.int (if b then 1 else 0)) h := Iff.rfl
theorem ok_absI : Ok (opAbs [.int i] h) Q ↔ Q (.int (if i < 0 then -i else i)) h := Iff.rfl
theorem ok_ix {v : PV} {vs : List PV} {k : Nat} {x : PV} (hs : seqOf v h = some vs) (hk : vs[k]? = some x) (hv : ∀ z, v ≠ .str z) (q : Q x h) : Ok (opIx v (.int k) h) Q := by
  have e : ixPV v (.int k) h = some x := by
    have hl := (List.getElem?_eq_some_iff.mp hk).1
    have e2 : atI vs (k : Int) = some x := by
      unfold atI ixN
      rw [if_pos (by omega), if_pos (by omega)]
      simpa using hk
    cases v with
    | str z => exact absurd rfl (hv z)
    | _ => simp only [ixPV, hs, e2]
  unfold opIx
  rw [e]
  exact q
theorem seq_lst {n : Nat} {vs : List PV} (e : h[n]? = some (.lst vs)) : seqOf (.ref n) h = some vs := by
  simp only [seqOf, e]
theorem seq_scr {n : Nat} {vs : List PV} (e : h[n]? = some (.scr vs)) : seqOf (.ref n) h = some vs := by
  simp only [seqOf, e]
theorem seq_tup (vs : List PV) : seqOf (.tup vs) h = some vs := rfl
theorem ok_len {v : PV} {vs : List PV} (hs : seqOf v h = some vs) (q : Q (.int vs.length) h) : Ok (opLen [v] h) Q := by
  cases v with
  | str z => cases hs
  | _ =>
    simp only [opLen, hs]
    exact q
theorem ok_mkl {m : PEnv → MH → R (List PV)} {env : PEnv} (k : Ok (m env h) fun vs h1 => vs.length ≤ sizeLine ∧ Q (.ref h1.length) (h1 ++ [.lst vs])) : Ok (mLst m env h) Q := by
  unfold mLst
  rw [ok_bind]
  refine k.imp fun vs h1 ⟨hz, q⟩ => ?_
  rw [if_pos hz]
  exact q
end
end Ev
namespace Ev
open PySem PySem.Spec PyProof.Rows L2 RZ
/-! ### pots: three ints, B draws so far at the most -/
def PotL (own c t : Int) : List PV := [.int own, .int c, .int t]
def Pot (p : Nat) (B : Nat) (h : MH) : Prop := ∃ own c t : Int, h[p]? = some (.lst (PotL own c t)) ∧ 0 ≤ own ∧ Bd 1300 own ∧ 0 ≤ c ∧ Bd 62 c ∧ 0 ≤ t ∧ t ≤ B
theorem Pot.mono {p a b : Nat} {h : MH} (k : Pot p a h) (hab : a ≤ b) : Pot p b h := by
  obtain ⟨own, c, t, h1, h2, h3, h4, h5, h6, h7⟩ := k
  exact ⟨own, c, t, h1, h2, h3, h4, h5, h6, by omega⟩
theorem Pot.lt {p a : Nat} {h : MH} (k : Pot p a h) : p < h.length := by
  obtain ⟨own, c, t, h1, _⟩ := k
  exact (List.getElem?_eq_some_iff.mp h1).1
theorem Pot.sub {p a : Nat} {h h' : MH} (k : Pot p a h) (s : Sub h h') : Pot p a h' := by
  obtain ⟨own, c, t, h1, r⟩ := k
  exact ⟨own, c, t, s _ _ h1, r⟩
theorem Pot.set {p a n : Nat} {h : MH} (k : Pot p a h) (hn : n ≠ p) (o : MO) : Pot p a (h.set n o) := by
  obtain ⟨own, c, t, h1, r⟩ := k
  exact ⟨own, c, t, by rw [List.getElem?_set_ne hn]; exact h1, r⟩
/-- a comprehension that draws from the pot at p, c draws an item at the most -/
theorem ok_compPot {t : Tg} {ms : PEnv → MH → R Src} {mt : PEnv → MH → R Bool} {me : PEnv → MH → R PV} {own : List Nat} {env : PEnv} {mh : MH} {Q : PV → MH → Prop} {p : Nat} (c : Nat) (G : PV → Prop)
    (h : Ok (ms env mh) fun src h1 => ∃ (as : List PV) (B : Nat), SubX p mh h1 ∧ Pot p B h1 ∧ as.length < loopFuel ∧ (∀ h, SubX p h1 h → SrcIs src h as) ∧
      (∀ x ∈ as, ∀ h B', B' ≤ B + as.length * c → Pot p B' h → SubX p mh h → ∃ e2, asg t x (wipeE env own) h = some e2 ∧ Ok (mt e2 h) fun k h2 => if k = true then Ok (me e2 h2) fun y h3 => G y ∧ Pot p (B' + c) h3 ∧ SubX p h h3 else mt ≠ mYes ∧ Pot p (B' + c) h2 ∧ SubX p h h2) ∧
      (∀ n out h, out.length ≤ as.length → (mt = mYes → out.length = as.length) → (∀ y ∈ out, G y) → SubX p mh h → mh[n]? = none → n ≠ p → h[n]? = some (.lst out) → Pot p (B + as.length * c) h → Q (.ref n) h)) : Ok (mComp ms t mt me own env mh) Q := by
  refine ok_comp (h.imp fun src h1 ⟨as, B, hb, hp, hl, hs, step, done⟩ => ⟨as, fun i out h => SubX p h1 h ∧ Pot p (B + i * c) h ∧ out.length ≤ i ∧ (mt = mYes → out.length = i) ∧ (∀ y ∈ out, G y) ∧ i ≤ as.length, hl, fun i out h q _ => hs h q.1, fun i out h q => q.2.2.1, ?_, ⟨(Sub.push _ _).x p, by rw [Nat.zero_mul]; exact hp.sub (.push _ _), by simp, fun _ => rfl, by simp, Nat.zero_le _⟩, ?_⟩)
  · rintro i v out h hv ⟨k1, k2, k3, k4, k5, k6⟩ hd
    have hlt := (List.getElem?_eq_some_iff.mp hv).1
    have hne : h1.length ≠ p := Nat.ne_of_gt hp.lt
    have hmul : B + i * c ≤ B + as.length * c := Nat.add_le_add_left (Nat.mul_le_mul_right c (by omega)) B
    obtain ⟨e2, ea, k⟩ := step v (List.mem_of_getElem? hv) h (B + i * c) hmul k2 (hb.trans k1)
    have hsucc : B + i * c + c = B + (i + 1) * c := by rw [Nat.succ_mul]; omega
    refine ⟨e2, ea, k.imp fun b h2 kb => ?_⟩
    cases b with
    | false =>
      rw [if_neg (by simp)] at kb ⊢
      obtain ⟨q0, q1, q2⟩ := kb
      exact ⟨q2 _ _ hne hd, k1.trans q2, by rw [← hsucc]; exact q1, by omega, fun z => absurd z q0, k5, hlt⟩
    | true =>
      rw [if_pos rfl] at kb ⊢
      refine kb.imp fun y h3 ⟨q0, q1, q2⟩ => ⟨q2 _ _ hne hd, ?_, ?_, ?_, ?_, ?_, hlt⟩
      · exact (k1.trans q2).set (.inl (Sub.refl h1).new) _
      · rw [← hsucc]
        exact q1.set hne _
      · rw [List.length_append]
        simp
        exact k3
      · intro z
        rw [List.length_append, k4 z]
        rfl
      · intro z hz
        rcases List.mem_append.mp hz with hz | hz
        · exact k5 z hz
        · rw [List.mem_singleton] at hz
          rw [hz]
          exact q0
  · rintro out h ⟨k1, k2, k3, k4, k5, k6⟩ hd
    have hnew : mh[h1.length]? = none := hb.new hp.lt
    exact done _ _ _ k3 k4 k5 (hb.trans k1) hnew (Nat.ne_of_gt hp.lt) hd k2
theorem ok_yes {env : PEnv} {mh : MH} {QB : Bool → MH → Prop} : Ok (mYes env mh) QB ↔ QB true mh := Iff.rfl
theorem ok_tupleOf {v : PV} {vs : List PV} {h : MH} {Q : PV → MH → Prop} (hs : seqOf v h = some vs) (q : Q (.tup vs) h) : Ok (opTuple [v] h) Q := by
  simp only [opTuple, hs]
  exact q
theorem ok_listOf {v : PV} {vs : List PV} {h : MH} {Q : PV → MH → Prop} (hs : seqOf v h = some vs) (q : Q (.ref h.length) (h ++ [.lst vs])) : Ok (opList [v] h) Q := by
  simp only [opList, hs]
  exact q
theorem range1 {n : Nat} (hn : n < 2 ^ 60) : rangeOf [.int n] = some ((List.range n).map fun k => .int (k : Nat)) := by
  simp only [rangeOf]
  rw [if_pos (inB_iff.mpr ⟨by omega, by omega⟩)]
  congr 1
  unfold rangeL
  simp
end Ev
namespace Ev
open PySem PySem.Spec PyProof.Rows L2 RZ
/-! ### types, ints, data: what the laws' proofs share -/
def tyIs (T t : String) : Bool := t == T || (t == "bool" && T == "int")
theorem kit_all : ∀ a ∈ ["NoneType", "bool", "int", "str", "tuple", "list", "dict"], ∀ b ∈ ["int", "bool", "tuple", "str", "list", "dict"], kitB a b = some (tyIs b a) := by decide +kernel
theorem tyOf_mem {v : PV} {mh : MH} {t : String} (h : tyOf v mh = some t) : t ∈ ["NoneType", "bool", "int", "str", "tuple", "list", "dict"] := by
  unfold tyOf at h
  repeat' split at h
  all_goals first | (cases h; simp) | cases h
theorem ok_isTy {T : String} (hT : T ∈ ["int", "bool", "tuple", "str", "list", "dict"]) {v : PV} {mh : MH} {t : String} (h : tyOf v mh = some t) : isTy T v mh = .ok (.bl (tyIs T t)) mh := by
  unfold isTy
  rw [h]
  simp only [kit_all t (tyOf_mem h) T hT]
/-- an int, no bool -/
def isI : PV → Bool
  | .int _ => true
  | _ => false
theorem tyIs_isI {v : PV} {mh : MH} {t : String} (h : tyOf v mh = some t) : (tyIs "int" t && !tyIs "bool" t) = isI v := by
  unfold tyOf at h
  repeat' split at h
  all_goals first | (cases h; rfl) | cases h
/-- an int from lo to hi -/
def isIn (v : PV) (lo hi : Int) : Bool := match v with
  | .int i => decide (lo ≤ i) && decide (i ≤ hi)
  | _ => false
abbrev iL (l : List Int) : List PV := l.map PV.int
abbrev iT (l : List Int) : PV := .tup (iL l)
theorem iL_of {G : Int → Prop} : ∀ {out : List PV}, (∀ y ∈ out, ∃ i, y = .int i ∧ G i) → ∃ l : List Int, out = iL l ∧ ∀ i ∈ l, G i
  | [], _ => ⟨[], rfl, by simp⟩
  | y :: out, h => by
    obtain ⟨i, rfl, g⟩ := h y (by simp)
    obtain ⟨l, rfl, gl⟩ := iL_of (out := out) fun z hz => h z (List.mem_cons_of_mem _ hz)
    refine ⟨i :: l, rfl, fun j hj => ?_⟩
    rcases List.mem_cons.mp hj with rfl | hj
    · exact g
    · exact gl j hj
theorem lay_ints : ∀ l : List Int, PyData.canLayAll0 (l.map PyData.int) = true
  | [] => by simp [PyData.canLayAll0]
  | i :: l => by
    have := lay_ints l
    simp [PyData.canLayAll0, PyData.canLay0, this]
theorem shaped_list (l : List Int) : SeqAt.shaped (.list (l.map PyData.int)) = true := by
  have h1 := lay_ints l
  have h2 := depth_ints l
  unfold SeqAt.shaped
  rw [Bool.and_eq_true]
  exact ⟨by simpa only [PyData.canLay0] using h1, decide_eq_true (by simp only [PyData.depth]; omega)⟩
theorem shaped_tup (l : List Int) : SeqAt.shaped (.tuple (l.map PyData.int)) = true := by
  have h1 := lay_ints l
  have h2 := depth_ints l
  unfold SeqAt.shaped
  rw [Bool.and_eq_true]
  exact ⟨by simpa only [PyData.canLay0] using h1, decide_eq_true (by simp only [PyData.depth]; omega)⟩
theorem allD_ints (n : Nat) (mh : MH) : ∀ l : List Int, allD (toD (n + 1) mh) (iL l) = some (l.map PyData.int)
  | [] => rfl
  | i :: l => by
    have := allD_ints n mh l
    simp only [List.map_cons, allD, toD] at this ⊢
    rw [this]
theorem toD_lst {mh : MH} {n : Nat} {l : List Int} (e : mh[n]? = some (.lst (iL l))) : toD dataFuel mh (.ref n) = some (.list (l.map PyData.int)) := by
  show toD (64 + 1 + 1) mh (.ref n) = _
  rw [toD]
  simp only [e, allD_ints]
theorem toD_tup (mh : MH) (l : List Int) : toD dataFuel mh (iT l) = some (.tuple (l.map PyData.int)) := by
  show toD (64 + 1 + 1) mh (iT l) = _
  rw [toD]
  simp only [allD_ints]
theorem eqv_ints : ∀ a b : List Int, PyData.eqvAll (a.map PyData.int) (b.map PyData.int) = decide (a = b)
  | [], [] => by simp [PyData.eqvAll]
  | [], _ :: _ => by simp [PyData.eqvAll]
  | _ :: _, [] => by simp [PyData.eqvAll]
  | x :: a, y :: b => by
    simp only [List.map_cons, PyData.eqvAll, PyData.eqv, eqv_ints a b, List.cons.injEq]
    by_cases h1 : x = y <;> by_cases h2 : a = b <;> simp [h1, h2]
theorem eqD_lst {mh : MH} {n k : Nat} {a b : List Int} (e1 : mh[n]? = some (.lst (iL a))) (e2 : mh[k]? = some (.lst (iL b))) : eqD (.ref n) (.ref k) mh = some (decide (a = b)) := by
  unfold eqD
  rw [toD_lst e1, toD_lst e2]
  simp only [shaped_list, Bool.and_self, if_true, PyData.eqv, eqv_ints]
theorem eqD_tup {mh : MH} {a b : List Int} : eqD (iT a) (iT b) mh = some (decide (a = b)) := by
  unfold eqD
  rw [toD_tup, toD_tup]
  simp only [shaped_tup, Bool.and_self, if_true, PyData.eqv, eqv_ints]
theorem eqD_int {mh : MH} {a b : Int} : eqD (.int a) (.int b) mh = some (decide (a = b)) := by
  have h : ∀ i : Int, SeqAt.shaped (.int i) = true := fun i => rfl
  unfold eqD
  show (match toD (65 + 1) mh (.int a), toD (65 + 1) mh (.int b) with | some d, some e => if SeqAt.shaped d && SeqAt.shaped e then some (PyData.eqv d e) else none | _, _ => none) = _
  simp only [toD, h, Bool.and_self, if_true, PyData.eqv]
  by_cases hab : a = b <;> simp [hab]
theorem neD_lst {mh : MH} {n k : Nat} {a b : List Int} (e1 : mh[n]? = some (.lst (iL a))) (e2 : mh[k]? = some (.lst (iL b))) : neD (.ref n) (.ref k) mh = some (!decide (a = b)) := by
  unfold neD
  rw [eqD_lst e1 e2]
  rfl
theorem neD_int {mh : MH} {a b : Int} : neD (.int a) (.int b) mh = some (!decide (a = b)) := by
  unfold neD
  rw [eqD_int]
  rfl
theorem ok_allB {n : Nat} {bs : List Bool} {h : MH} {Q : PV → MH → Prop} (e : h[n]? = some (.lst (bs.map PV.bl))) (q : Q (.bl (bs.all id)) h) : Ok (opAll [.ref n] h) Q := by
  have : lstOf h n = some (bs.map PV.bl) := by
    unfold lstOf
    rw [e]
  simp only [opAll, seqBools, this, boolsOf_map]
  exact q
theorem ok_anyB {n : Nat} {bs : List Bool} {h : MH} {Q : PV → MH → Prop} (e : h[n]? = some (.lst (bs.map PV.bl))) (q : Q (.bl (bs.any id)) h) : Ok (opAny [.ref n] h) Q := by
  have : lstOf h n = some (bs.map PV.bl) := by
    unfold lstOf
    rw [e]
  simp only [opAny, seqBools, this, boolsOf_map]
  exact q
theorem intsOf_iL : ∀ l : List Int, intsOf (iL l) = some l
  | [] => rfl
  | i :: l => by simp only [List.map_cons, intsOf, intsOf_iL l]
/-- all([f x for x in as]) -/
theorem ok_allP {α : Type} {ms : PEnv → MH → R Src} {t : Tg} {me : PEnv → MH → R PV} {own : List Nat} {env : PEnv} {mh : MH} {Q : PV → MH → Prop} (as : List α) (s : α → PV) (g : α → Bool)
    (h : Ok (ms env mh) fun src h1 => as.length < loopFuel ∧ Sub mh h1 ∧ (∀ h, Sub h1 h → SrcIs src h (as.map s))) (step : ∀ x ∈ as, ∀ h, Sub mh h → ∃ e2, asg t (s x) (wipeE env own) h = some e2 ∧ Ok (me e2 h) fun y h3 => y = .bl (g x) ∧ Sub h h3)
    (done : ∀ h, Sub mh h → Q (.bl (as.all g)) h) : Ok (mComp ms t mYes me own env mh) (fun v h => Ok (opAll [v] h) Q) := by
  refine ok_compP as s (fun _ => true) (fun x => .bl (g x)) h (fun x hx h' hs => ?_) fun n h' hs hn hl => ?_
  · obtain ⟨e2, ea, k⟩ := step x hx h' hs
    refine ⟨e2, ea, ?_⟩
    rw [ok_yes]
    exact ⟨rfl, .refl _, fun _ => k⟩
  · have e : h'[n]? = some (.lst ((as.map g).map PV.bl)) := by
      rw [hl, List.map_map, List.filter_eq_self.mpr (by simp)]
      rfl
    refine ok_allB e ?_
    have : (as.map g).all id = as.all g := by
      rw [List.all_map]
      rfl
    rw [this]
    exact done h' hs
theorem okS_nx {e : PEnv} {h : MH} {D : EndsP} : OkS (.nx e h) D ↔ D.nx e h := Iff.rfl
theorem ok_trB {b : Bool} {h : MH} {QB : Bool → MH → Prop} : Ok (Ev.truthy (.bl b) h) QB ↔ QB b h := Iff.rfl
theorem ok_trI {i : Int} {h : MH} {QB : Bool → MH → Prop} : Ok (Ev.truthy (.int i) h) QB ↔ QB (i != 0) h := Iff.rfl
/-! ### slices, methods, lists -/
section
variable {env : PEnv} {mh h : MH} {Q : PV → MH → Prop} {QI : Src → MH → Prop} {QO : Option Int → MH → Prop} {ma mb : PEnv → MH → R PV} {m : PEnv → MH → R (List PV)} {ml mu : PEnv → MH → R (Option Int)}
theorem ok_enum (k : Ok (m env mh) fun vs h => ∃ n us, vs = [.ref n] ∧ h[n]? = some (.lst us) ∧ QI (.enum (.lst n)) h) : Ok (mEnum m env mh) QI := by
  unfold mEnum
  rw [ok_bind]
  refine k.imp fun vs h ⟨n, us, e, e2, q⟩ => ?_
  subst e
  simp only [e2]
  exact q
theorem ok_zipT (k : Ok (m env mh) fun vs h => ∃ xs ys, vs = [.tup xs, .tup ys] ∧ QI (.zip (.vals xs) (.vals ys)) h) : Ok (mZip m env mh) QI := by
  unfold mZip
  rw [ok_bind]
  refine k.imp fun vs h ⟨xs, ys, e, q⟩ => ?_
  subst e
  exact q
theorem ok_sl : Ok (mSl ma ml mu env mh) Q ↔ Ok (ma env mh) fun v h => Ok (ml env h) fun lo h1 => Ok (mu env h1) fun hi h2 => Ok (opSl v lo hi h2) Q := by
  unfold mSl
  simp only [ok_bind]
theorem ok_noPart : Ok (mNoPart env mh) QO ↔ QO none mh := Iff.rfl
theorem ok_part (k : Ok (ma env mh) fun v h => ∃ i, v = .int i ∧ QO (some i) h) : Ok (mPart ma env mh) QO := by
  unfold mPart
  rw [ok_bind]
  refine k.imp fun v h ⟨i, e, q⟩ => ?_
  subst e
  exact q
theorem ok_slL {n : Nat} {vs : List PV} {lo hi : Option Int} (e : h[n]? = some (.lst vs)) (q : Q (.ref h.length) (h ++ [.lst (cutL vs lo hi)])) : Ok (opSl (.ref n) lo hi h) Q := by
  simp only [opSl, seqOf, e]
  exact q
theorem ok_slT {vs : List PV} {lo hi : Option Int} : Ok (opSl (.tup vs) lo hi h) Q ↔ Q (.tup (cutL vs lo hi)) h := Iff.rfl
theorem cut_to {α : Type} (vs : List α) (k : Nat) : cutL vs none (some (k : Int)) = vs.take k := by
  unfold cutL HT.sIx
  simp only [List.drop_zero, Nat.sub_zero]
  rw [if_neg (by omega)]
  simp only [Int.toNat_natCast]
  rw [List.take_eq_take_iff]
  omega
theorem cut_from {α : Type} (vs : List α) (k : Nat) : cutL vs (some (k : Int)) none = vs.drop k := by
  unfold cutL HT.sIx
  simp only
  rw [if_neg (by omega)]
  simp only [Int.toNat_natCast]
  by_cases hk : k ≤ vs.length
  · rw [Nat.min_eq_left hk]
    exact List.take_of_length_le (by rw [List.length_drop]; omega)
  · rw [Nat.min_eq_right (by omega), Nat.sub_self, List.take_zero, List.drop_of_length_le (by omega)]
theorem ok_addL {n k : Nat} {xs ys : List PV} (e1 : h[n]? = some (.lst xs)) (e2 : h[k]? = some (.lst ys)) (hz : xs.length + ys.length ≤ sizeLine) (q : Q (.ref h.length) (h ++ [.lst (xs ++ ys)])) : Ok (opAdd (.ref n) (.ref k) h) Q := by
  simp only [opAdd, lstOf, e1, e2]
  rw [if_pos hz]
  exact q
theorem ok_addT {xs ys : List PV} (hz : xs.length + ys.length ≤ sizeLine) (q : Q (.tup (xs ++ ys)) h) : Ok (opAdd (.tup xs) (.tup ys) h) Q := by
  simp only [opAdd]
  rw [if_pos hz]
  exact q
theorem ok_meth1 {f : PV → PV → MH → R PV} : Ok (mMeth1 f ma mb env mh) Q ↔ Ok (ma env mh) fun v h => Ok (mb env h) fun w h' => Ok (f v w h') Q := by
  unfold mMeth1
  simp only [ok_bind]
theorem ok_recv (k : Ok (ma env mh) fun v h => ∃ n vs, v = .ref n ∧ h[n]? = some (.lst vs) ∧ Q v h) : Ok (mRecv ma env mh) Q := by
  unfold mRecv
  rw [ok_bind]
  refine k.imp fun v h ⟨n, vs, e, e2, q⟩ => ?_
  subst e
  have : isL (.ref n) h = true := by
    simp only [isL, lstOf, e2, Option.isSome_some]
  rw [if_pos this]
  exact q
theorem ok_append {n : Nat} {vs : List PV} {w : PV} (e : h[n]? = some (.lst vs)) (hz : vs.length < sizeLine) (q : Q .non (h.set n (.lst (vs ++ [w])))) : Ok (meAppend (.ref n) w h) Q := by
  simp only [meAppend, lstOf, e]
  rw [if_pos hz]
  exact q
theorem ok_mtup (k : Ok (m env mh) fun vs h => vs.length ≤ sizeLine ∧ Q (.tup vs) h) : Ok (mTup m env mh) Q := by
  unfold mTup
  rw [ok_bind]
  refine k.imp fun vs h ⟨hz, q⟩ => ?_
  rw [if_pos hz]
  exact q
end
theorem snoc_ind {α : Type} {P : List α → Prop} (h0 : P []) (hs : ∀ l x, P l → P (l ++ [x])) (l : List α) : P l := by
  have : ∀ l : List α, P l.reverse := by
    intro l
    induction l with
    | nil => exact h0
    | cons x l ih =>
      rw [List.reverse_cons]
      exact hs _ _ ih
  have h := this l.reverse
  rwa [List.reverse_reverse] at h
theorem enumPV_len : ∀ (vs : List PV) (k : Nat), (enumPV k vs).length = vs.length
  | [], _ => rfl
  | v :: vs, k => by simp only [enumPV, List.length_cons, enumPV_len vs (k + 1)]
theorem enumPV_mem : ∀ (vs : List PV) (k : Nat) (y : PV), y ∈ enumPV k vs → ∃ (i : Nat) (v : PV), v ∈ vs ∧ y = .tup [.int (i : Nat), v]
  | [], _, _, h => by cases h
  | v :: vs, k, y, h => by
    simp only [enumPV] at h
    rcases List.mem_cons.mp h with rfl | h
    · exact ⟨k, v, by simp, rfl⟩
    · obtain ⟨i, w, hw, e⟩ := enumPV_mem vs (k + 1) y h
      exact ⟨i, w, List.mem_cons_of_mem _ hw, e⟩
/-! ### the same, the new list at some n -/
section
variable {env : PEnv} {mh h : MH} {Q : PV → MH → Prop} {ma mb : PEnv → MH → R PV} {m : PEnv → MH → R (List PV)}
abbrev NewL (h : MH) (vs : List PV) (Q : PV → MH → Prop) : Prop := ∀ n h2, Sub h h2 → h[n]? = none → h2[n]? = some (.lst vs) → Q (.ref n) h2
theorem NewL.at (q : NewL h vs Q) : Q (.ref h.length) (h ++ [.lst vs]) := q _ _ (.push _ _) (Sub.refl h).new (at_push _ _)
theorem ok_mklN (k : Ok (m env h) fun vs h1 => vs.length ≤ sizeLine ∧ NewL h1 vs Q) : Ok (mLst m env h) Q := ok_mkl (k.imp fun vs h1 ⟨a, b⟩ => ⟨a, b.at⟩)
theorem ok_slN {n : Nat} {vs : List PV} {lo hi : Option Int} (e : h[n]? = some (.lst vs)) (q : NewL h (cutL vs lo hi) Q) : Ok (opSl (.ref n) lo hi h) Q := ok_slL e q.at
theorem ok_addN {n k : Nat} {xs ys : List PV} (e1 : h[n]? = some (.lst xs)) (e2 : h[k]? = some (.lst ys)) (hz : xs.length + ys.length ≤ sizeLine) (q : NewL h (xs ++ ys) Q) : Ok (opAdd (.ref n) (.ref k) h) Q := ok_addL e1 e2 hz q.at
theorem ok_listN {v : PV} {vs : List PV} (hs : seqOf v h = some vs) (q : NewL h vs Q) : Ok (opList [v] h) Q := ok_listOf hs q.at
end
theorem big_line : 100000 ≤ sizeLine := by decide
theorem small_line {n : Nat} (h : n ≤ 100000) : n ≤ sizeLine := Nat.le_trans h big_line
theorem ok_rev {env : PEnv} {mh : MH} {Q : PV → MH → Prop} {ma : PEnv → MH → R PV} : Ok (mRev ma env mh) Q ↔ Ok (ma env mh) fun v h => Ok (opRev v h) Q := ok_bind
theorem ok_revN {h : MH} {Q : PV → MH → Prop} {n : Nat} {vs : List PV} (e : h[n]? = some (.lst vs)) (q : NewL h vs.reverse Q) : Ok (opRev (.ref n) h) Q := by
  simp only [opRev, seqOf, e]
  exact q.at
theorem ok_revT {h : MH} {Q : PV → MH → Prop} {vs : List PV} : Ok (opRev (.tup vs) h) Q ↔ Q (.tup vs.reverse) h := Iff.rfl
theorem ok_srcL {n : Nat} {vs : List PV} {h : MH} {QI : Src → MH → Prop} (e : h[n]? = some (.lst vs)) (q : QI (.lst n) h) : Ok (srcOf (.ref n) h) QI := by
  simp only [srcOf, e]
  exact q
theorem ok_srcT {vs : List PV} {h : MH} {QI : Src → MH → Prop} : Ok (srcOf (.tup vs) h) QI ↔ QI (.vals vs) h := Iff.rfl
end Ev
namespace Ev
open PySem PySem.Spec PyProof.Rows L2 RZ
/-! ### values of any kind: types told at every depth, short tuples -/
/-- objects keep their type -/
def TyM (a b : MH) : Prop := ∀ n t, tyOf (.ref n) a = some t → tyOf (.ref n) b = some t
theorem TyM.refl (a : MH) : TyM a a := fun _ _ h => h
theorem TyM.trans {a b c : MH} (x : TyM a b) (y : TyM b c) : TyM a c := fun n t h => y n t (x n t h)
theorem Sub.ty {a b : MH} (s : Sub a b) : TyM a b := fun n t e => by
  simp only [tyOf] at e ⊢
  cases q : a[n]? with
  | none => rw [q] at e; cases e
  | some o =>
    rw [q] at e
    rw [s _ _ q]
    exact e
theorem SubX.ty {a b : MH} {p x y : Nat} (s : SubX p a b) (ha : Pot p x a) (hb : Pot p y b) : TyM a b := fun n t e => by
  by_cases hn : n = p
  · subst hn
    obtain ⟨_, _, _, h1, _⟩ := ha
    obtain ⟨_, _, _, h2, _⟩ := hb
    simp only [tyOf, h1] at e
    simp only [tyOf, h2]
    exact e
  · simp only [tyOf] at e ⊢
    cases q : a[n]? with
    | none => rw [q] at e; cases e
    | some o =>
      rw [q] at e
      rw [s _ _ hn q]
      exact e
theorem TyM.setL {a : MH} {n : Nat} {vs : List PV} (e : a[n]? = some (.lst vs)) (ws : List PV) : TyM a (a.set n (.lst ws)) := fun k t h => by
  by_cases hk : n = k
  · subst hk
    simp only [tyOf, e] at h
    simp only [tyOf, at_set e]
    exact h
  · simp only [tyOf] at h ⊢
    rw [List.getElem?_set_ne hk]
    exact h
def Vt (h : MH) (v : PV) : Prop := ∃ t, tyOf v h = some t
theorem Vt.mono {a b : MH} {v : PV} (k : Vt a v) (s : TyM a b) : Vt b v := by
  obtain ⟨t, e⟩ := k
  cases v with
  | ref n => exact ⟨t, s _ _ e⟩
  | _ => exact ⟨t, e⟩
inductive Gd (h : MH) : PV → Prop
  | at {v : PV} : Vt h v → (∀ vs, v ≠ .tup vs) → Gd h v
  | tup {vs : List PV} : vs.length ≤ 60 → (∀ w, w ∈ vs → Gd h w) → Gd h (.tup vs)
theorem Gd.mono {a b : MH} {v : PV} (s : TyM a b) (k : Gd a v) : Gd b v := by
  induction k with
  | «at» h1 h2 => exact .at (h1.mono s) h2
  | tup h1 _ ih => exact .tup h1 ih
theorem Gd.vt {h : MH} {v : PV} (k : Gd h v) : Vt h v := by
  cases k with
  | «at» h1 _ => exact h1
  | tup _ _ => exact ⟨_, rfl⟩
theorem Gd.tupE {h : MH} {vs : List PV} (k : Gd h (.tup vs)) : vs.length ≤ 60 ∧ ∀ w ∈ vs, Gd h w := by
  cases k with
  | «at» _ h2 => exact absurd rfl (h2 vs)
  | tup h1 h2 => exact ⟨h1, h2⟩
theorem gd_int {h : MH} {i : Int} : Gd h (.int i) := .at ⟨_, rfl⟩ fun _ z => by cases z
theorem gd_bl {h : MH} {i : Bool} : Gd h (.bl i) := .at ⟨_, rfl⟩ fun _ z => by cases z
theorem gd_str {h : MH} {i : Str} : Gd h (.str i) := .at ⟨_, rfl⟩ fun _ z => by cases z
theorem gd_non {h : MH} : Gd h .non := .at ⟨_, rfl⟩ fun _ z => by cases z
theorem gd_lst {h : MH} {n : Nat} {vs : List PV} (e : h[n]? = some (.lst vs)) : Gd h (.ref n) := .at ⟨"list", by simp only [tyOf, e]⟩ fun _ z => by cases z
theorem gd_dict {h : MH} {n : Nat} {vs : List (Key × PV)} (e : h[n]? = some (.dict vs)) : Gd h (.ref n) := .at ⟨"dict", by simp only [tyOf, e]⟩ fun _ z => by cases z
theorem gd_ints {h : MH} {l : List Int} (hl : l.length ≤ 60) : Gd h (iT l) := .tup (by simpa using hl) fun w hw => by
  obtain ⟨i, _, rfl⟩ := List.mem_map.mp hw
  exact gd_int
theorem gd_one {h : MH} {v : PV} (k : Gd h v) : Gd h (.tup [v]) := .tup (by simp) fun w hw => by
  rw [List.mem_singleton] at hw
  subst hw
  exact k
theorem gd_two {h : MH} {v w : PV} (k : Gd h v) (k2 : Gd h w) : Gd h (.tup [v, w]) := .tup (by simp) fun u hu => by
  rcases List.mem_cons.mp hu with rfl | hu
  · exact k
  · rw [List.mem_singleton] at hu
    subst hu
    exact k2
theorem gd_three {h : MH} {v w u : PV} (k : Gd h v) (k2 : Gd h w) (k3 : Gd h u) : Gd h (.tup [v, w, u]) := .tup (by simp) fun x hx => by
  rcases List.mem_cons.mp hx with rfl | hx
  · exact k
  rcases List.mem_cons.mp hx with rfl | hx
  · exact k2
  · rw [List.mem_singleton] at hx
    subst hx
    exact k3
theorem gd_nil {h : MH} : Gd h (.tup []) := .tup (by simp) fun _ hw => by cases hw
theorem all_nil {P : PV → Prop} : ∀ v ∈ ([] : List PV), P v := fun _ h => by cases h
theorem all_cons {P : PV → Prop} {x : PV} {l : List PV} (hx : P x) (hl : ∀ v ∈ l, P v) : ∀ v ∈ x :: l, P v := fun v hv => by
  rcases List.mem_cons.mp hv with rfl | hv
  · exact hx
  · exact hl v hv
theorem all_app {P : PV → Prop} {l k : List PV} (hx : ∀ v ∈ l, P v) (hl : ∀ v ∈ k, P v) : ∀ v ∈ l ++ k, P v := fun v hv => by
  rcases List.mem_append.mp hv with hv | hv
  · exact hx v hv
  · exact hl v hv
/-! ### slices -/
theorem cut_len {α : Type} (vs : List α) (lo hi : Option Int) : (cutL vs lo hi).length ≤ vs.length := by
  unfold cutL
  rw [List.length_take, List.length_drop]
  omega
theorem cut_mem {α : Type} {vs : List α} {lo hi : Option Int} {w : α} (h : w ∈ cutL vs lo hi) : w ∈ vs := by
  unfold cutL at h
  exact List.mem_of_mem_drop (List.mem_of_mem_take h)
theorem gd_cut {h : MH} {vs : List PV} {lo hi : Option Int} (k : ∀ w ∈ vs, Gd h w) : ∀ w ∈ cutL vs lo hi, Gd h w := fun w hw => k w (cut_mem hw)
/-! ### a dict display -/
theorem ok_dictN {env : PEnv} {h : MH} {m : PEnv → MH → R (List PV)} {Q : PV → MH → Prop} (k : Ok (m env (h ++ [.dict []])) fun vs h1 => ∃ kvs, pairUp vs = some kvs ∧ kvs.length ≤ 15 ∧ Sub (h ++ [.dict []]) h1 ∧ ∀ n h2, Sub h h2 → h[n]? = none → h2[n]? = some (.dict (mergeP [] kvs)) → Q (.ref n) h2) : Ok (mDict m env h) Q := by
  unfold mDict
  rw [ok_bind]
  refine k.imp fun vs h1 ⟨kvs, e1, e2, s, q⟩ => ?_
  have ed : h1[h.length]? = some (.dict []) := s _ _ (at_push _ _)
  simp only [e1, ed]
  rw [if_pos e2]
  exact q _ _ (((Sub.push h _).trans s).set (Sub.refl h).new _) (Sub.refl h).new (at_set ed _)
/-! ### texts -/
theorem eqD_str {mh : MH} {a b : Str} (ha : PyData.strOk a = true) (hb : PyData.strOk b = true) : eqD (.str a) (.str b) mh = some (a == b) := by
  have h : ∀ i : Str, PyData.strOk i = true → SeqAt.shaped (.str i) = true := fun i hi => by
    unfold SeqAt.shaped
    simp only [PyData.canLay0, hi, PyData.depth, Bool.true_and]
    exact decide_eq_true (Nat.zero_le _)
  unfold eqD
  show (match toD (65 + 1) mh (.str a), toD (65 + 1) mh (.str b) with | some d, some e => if SeqAt.shaped d && SeqAt.shaped e then some (PyData.eqv d e) else none | _, _ => none) = _
  simp only [toD, h a ha, h b hb, Bool.and_self, if_true, PyData.eqv]
theorem neD_str {mh : MH} {a b : Str} (ha : PyData.strOk a = true) (hb : PyData.strOk b = true) : neD (.str a) (.str b) mh = some (!(a == b)) := by
  unfold neD
  rw [eqD_str ha hb]
  rfl
def blS (b : Bool) : Str := if b then "True" else "False"
theorem ok_reprB {b : Bool} {h : MH} {Q : PV → MH → Prop} (q : Q (.str (blS b)) h) : Ok (opRepr [.bl b] h) Q := by
  have e : opRepr [.bl b] h = .ok (.str (blS b)) h := by
    unfold opRepr
    show (match toD (65 + 1) h (.bl b) with | some d => if d.showable && !d.hasDict && decide (d.depth ≤ 66) && decide (d.shown.length ≤ sizeLine) then R.ok (PV.str d.shown) h else .bad | none => .bad) = _
    simp only [toD]
    cases b <;> rfl
  rw [e]
  exact q
theorem strOk_bl (b : Bool) : PyData.strOk (blS b) = true := by
  cases b <;> decide +kernel
theorem shown_nat : ∀ n : Fin 64, (PyData.showable (.int (n.val : Int)) && !PyData.hasDict (.int (n.val : Int)) && decide (PyData.depth (.int (n.val : Int)) ≤ 66) && decide ((PyData.shown (.int (n.val : Int))).length ≤ sizeLine)) = true ∧ PyData.strOk (PyData.shown (.int (n.val : Int))) = true := by decide +kernel
theorem ok_reprN {n : Nat} (hn : n < 64) {h : MH} {Q : PV → MH → Prop} (q : Q (.str (PyData.shown (.int (n : Int)))) h) : Ok (opRepr [.int (n : Nat)] h) Q := by
  have e : opRepr [.int (n : Nat)] h = .ok (.str (PyData.shown (.int (n : Int)))) h := by
    unfold opRepr
    show (match toD (65 + 1) h (.int (n : Int)) with | some d => if d.showable && !d.hasDict && decide (d.depth ≤ 66) && decide (d.shown.length ≤ sizeLine) then R.ok (PV.str d.shown) h else .bad | none => .bad) = _
    simp only [toD]
    rw [if_pos (shown_nat ⟨n, hn⟩).1]
  rw [e]
  exact q
theorem strOk_nat {n : Nat} (hn : n < 64) : PyData.strOk (PyData.shown (.int (n : Int))) = true := (shown_nat ⟨n, hn⟩).2
/-! ### max of a list -/
theorem ok_maxN {n : Nat} {l : List Int} {m : Int} {h : MH} {Q : PV → MH → Prop} (e : h[n]? = some (.lst (iL l))) (hm : maxI l = some m) (q : Q (.int m) h) : Ok (opMaxA [.ref n] h) Q := by
  have : intSeq (.ref n) h = some l := by
    unfold intSeq
    rw [seq_lst e]
    exact intsOf_iL l
  simp only [opMaxA, this, hm]
  exact q
theorem maxI_of {l : List Int} {m : Int} (h1 : m ∈ l) (h2 : ∀ y ∈ l, y ≤ m) : maxI l = some m := by
  cases e : maxI l with
  | none =>
    cases l with
    | nil => cases h1
    | cons x l => cases e
  | some k =>
    obtain ⟨a, b⟩ := maxI_spec e
    have := b m h1
    have := h2 k a
    congr 1
    omega
theorem rg0 (n : Nat) : rgPV 0 n = iL ((List.range n).map fun (k : Nat) => (k : Int)) := by
  unfold rgPV
  rw [iL, List.map_map]
  simp only [Int.sub_zero, Int.toNat_natCast]
  exact List.map_congr_left fun k _ => by simp
theorem rgB_nat {n : Nat} (hn : n ≤ 1000) : rgB 0 n = true := by
  unfold rgB
  simp only [Bool.and_eq_true, decide_eq_true_eq]
  omega
theorem ok_rg1 {f : Int → Int → MH → R PV} {ma : PEnv → MH → R PV} {env : PEnv} {mh : MH} {Q : PV → MH → Prop} (k : Ok (ma env mh) fun v h => ∃ i, v = .int i ∧ Ok (f 0 i h) Q) : Ok (mRg1 f ma env mh) Q := by
  unfold mRg1
  rw [ok_bind]
  refine k.imp fun v h ⟨i, e, q⟩ => ?_
  subst e
  exact q
theorem ok_rgT {n : Nat} (hn : n ≤ 1000) {h : MH} {Q : PV → MH → Prop} (q : Q (iT ((List.range n).map fun (k : Nat) => (k : Int))) h) : Ok (rgTup 0 n h) Q := by
  unfold rgTup
  rw [if_pos (rgB_nat hn), rg0]
  exact q
theorem ok_rgL {n : Nat} (hn : n ≤ 1000) {h : MH} {Q : PV → MH → Prop} (q : NewL h (iL ((List.range n).map fun (k : Nat) => (k : Int))) Q) : Ok (rgList 0 n h) Q := by
  unfold rgList
  rw [if_pos (rgB_nat hn), rg0]
  exact q.at
theorem ok_extend {n k : Nat} {vs ws : List PV} {h : MH} {Q : PV → MH → Prop} (e : h[n]? = some (.lst vs)) (e2 : h[k]? = some (.lst ws)) (hz : vs.length + ws.length ≤ sizeLine) (q : Q .non (h.set n (.lst (vs ++ ws)))) : Ok (meExtend (.ref n) (.ref k) h) Q := by
  simp only [meExtend, lstOf, e, e2]
  rw [if_pos hz]
  exact q
theorem ok_strI {i : Int} (hi : Bd 1000 i) {h : MH} {Q : PV → MH → Prop} (q : Q (.str (toString i)) h) : Ok (opStr [.int i] h) Q := by
  have := (hi.mono (Nat.le_succ _)).log (Nat.succ_pos _)
  simp only [opStr]
  rw [if_pos (by omega)]
  exact q
/-! ### a comprehension that draws, of values whose type is told -/
theorem ok_compGd {t : Tg} {ms : PEnv → MH → R Src} {mt : PEnv → MH → R Bool} {me : PEnv → MH → R PV} {own : List Nat} {env : PEnv} {mh : MH} {Q : PV → MH → Prop} {p : Nat} (c : Nat)
    (h : Ok (ms env mh) fun src h1 => ∃ (as : List PV) (B : Nat), SubX p mh h1 ∧ Pot p B h1 ∧ as.length < loopFuel ∧ (∀ h, SubX p h1 h → SrcIs src h as) ∧
      (∀ x ∈ as, ∀ h B', B' ≤ B + as.length * c → Pot p B' h → SubX p mh h → ∃ e2, asg t x (wipeE env own) h = some e2 ∧ Ok (mt e2 h) fun k h2 => k = true ∧ Ok (me e2 h2) fun y h3 => Gd h3 y ∧ Pot p (B' + c) h3 ∧ SubX p h h3) ∧
      (∀ n out h, out.length ≤ as.length → (∀ y ∈ out, Gd h y) → SubX p mh h → mh[n]? = none → n ≠ p → h[n]? = some (.lst out) → Pot p (B + as.length * c) h → Q (.ref n) h)) : Ok (mComp ms t mt me own env mh) Q := by
  refine ok_comp (h.imp fun src h1 ⟨as, B, hb, hp, hl, hs, step, done⟩ => ⟨as, fun i out h => SubX p h1 h ∧ Pot p (B + i * c) h ∧ out.length ≤ i ∧ (∀ y ∈ out, Gd h y) ∧ i ≤ as.length, hl, fun i out h q _ => hs h q.1, fun i out h q => q.2.2.1, ?_, ⟨(Sub.push _ _).x p, by rw [Nat.zero_mul]; exact hp.sub (.push _ _), by simp, by simp, Nat.zero_le _⟩, ?_⟩)
  · rintro i v out h hv ⟨k1, k2, k3, k5, k6⟩ hd
    have hlt := (List.getElem?_eq_some_iff.mp hv).1
    have hne : h1.length ≠ p := Nat.ne_of_gt hp.lt
    have hmul : B + i * c ≤ B + as.length * c := Nat.add_le_add_left (Nat.mul_le_mul_right c (by omega)) B
    obtain ⟨e2, ea, k⟩ := step v (List.mem_of_getElem? hv) h (B + i * c) hmul k2 (hb.trans k1)
    have hsucc : B + i * c + c = B + (i + 1) * c := by rw [Nat.succ_mul]; omega
    refine ⟨e2, ea, k.imp fun b h2 kb => ?_⟩
    obtain ⟨rfl, kb⟩ := kb
    rw [if_pos rfl]
    refine kb.imp fun y h3 ⟨q0, q1, q2⟩ => ?_
    have hd3 := q2 _ _ hne hd
    have ty : TyM h3 (h3.set h1.length (.lst (out ++ [y]))) := TyM.setL hd3 _
    refine ⟨hd3, ?_, ?_, ?_, ?_, hlt⟩
    · exact (k1.trans q2).set (.inl (Sub.refl h1).new) _
    · rw [← hsucc]
      exact q1.set hne _
    · rw [List.length_append]
      simp
      exact k3
    · intro z hz
      rcases List.mem_append.mp hz with hz | hz
      · exact (k5 z hz).mono ((q2.ty k2 q1).trans ty)
      · rw [List.mem_singleton] at hz
        rw [hz]
        exact q0.mono ty
  · rintro out h ⟨k1, k2, k3, k5, k6⟩ hd
    have hnew : mh[h1.length]? = none := hb.new hp.lt
    exact done _ _ _ k3 k5 (hb.trans k1) hnew (Nat.ne_of_gt hp.lt) hd k2
/-! ### copies of a tuple -/
theorem rep_mem {α : Type} {xs : List α} {k : Int} {w : α} (h : w ∈ rep xs k) : w ∈ xs := by
  unfold rep at h
  obtain ⟨l, hl, hw⟩ := List.mem_flatten.mp h
  rw [(List.mem_replicate.mp hl).2] at hw
  exact hw
theorem rep_one {α : Type} (x : α) (k : Nat) : rep [x] (k : Int) = List.replicate k x := by
  unfold rep
  rw [Int.toNat_natCast]
  induction k with
  | zero => rfl
  | succ k ih => rw [List.replicate_succ, List.flatten_cons, ih, List.replicate_succ]; rfl
theorem ok_mulT {xs : List PV} {k : Int} {h : MH} {Q : PV → MH → Prop} (hk : -1000 ≤ k ∧ k ≤ 1000) (hx : xs.length ≤ 1000) (q : Q (.tup (rep xs k)) h) : Ok (opMul (.tup xs) (.int k) h) Q := by
  simp only [opMul]
  rw [if_pos ⟨hk.1, hk.2, hx⟩]
  exact q
/-! ### a list that is led on with new values -/
structure Fd (p : Nat) (mh : MH) (nf : Nat) (vs : List PV) (L B : Nat) (h : MH) : Prop where
  is : h[nf]? = some (.lst vs)
  len : vs.length ≤ L
  gd : ∀ v ∈ vs, Gd h v
  pot : Pot p B h
  sub : SubX p mh h
  new : mh[nf]? = none
  ne : nf ≠ p
theorem Fd.up {p : Nat} {mh : MH} {nf : Nat} {vs : List PV} {L B : Nat} {h h2 : MH} (F : Fd p mh nf vs L B h) (s : Sub h h2) : Fd p mh nf vs L B h2 :=
  ⟨s _ _ F.is, F.len, fun v hv => (F.gd v hv).mono s.ty, F.pot.sub s, F.sub.trans (s.x p), F.new, F.ne⟩
theorem Fd.x {p : Nat} {mh : MH} {nf : Nat} {vs : List PV} {L B B2 : Nat} {h h2 : MH} (F : Fd p mh nf vs L B h) (s : SubX p h h2) (hp : Pot p B2 h2) : Fd p mh nf vs L B2 h2 :=
  ⟨s _ _ F.ne F.is, F.len, fun v hv => (F.gd v hv).mono (s.ty F.pot hp), hp, F.sub.trans s, F.new, F.ne⟩
theorem Fd.ext {p : Nat} {mh : MH} {nf nk : Nat} {vs ws : List PV} {L B c : Nat} {h : MH} (F : Fd p mh nf vs L B h) (l : h[nk]? = some (.lst ws)) (g : ∀ w ∈ ws, Gd h w) (hc : ws.length ≤ c) : Fd p mh nf (vs ++ ws) (L + c) B (h.set nf (.lst (vs ++ ws))) :=
  have ty : TyM h (h.set nf (.lst (vs ++ ws))) := TyM.setL F.is _
  ⟨at_set F.is _, by rw [List.length_append]; have := F.len; omega, all_app (fun v hv => (F.gd v hv).mono ty) fun v hv => (g v hv).mono ty, F.pot.set F.ne _, F.sub.set (.inl F.new) _, F.new, F.ne⟩
end Ev
namespace Ev
open PySem PySem.Spec PyProof.Rows L2 RZ
/-! ### what repr makes of data -/
structure Wd (n m : Nat) (d : PyData) : Prop where
  sh : d.showable = true
  nd : d.hasDict = false
  dp : d.depth ≤ m
  len : d.shown.length ≤ n
  ok : PyData.strOk d.shown = true
theorem Wd.mono {n m n' m' : Nat} {d : PyData} (w : Wd n m d) (h : n ≤ n') (h2 : m ≤ m') : Wd n' m' d := ⟨w.sh, w.nd, Nat.le_trans w.dp h2, Nat.le_trans w.len h, w.ok⟩
theorem strOk_lit (s : String) : PyData.strOk (Str.ofString s) = true := by
  unfold PyData.strOk
  rw [Str.ofString_eq_toList]
  rw [Array.all_eq_true']
  intro x hx
  simp only [List.mem_toArray, List.mem_map] at hx
  obtain ⟨c, _, rfl⟩ := hx
  have := c.valid
  simp only [UInt32.isValidChar, Nat.isValidChar] at this
  simp only [decide_eq_true_eq]
  have h2 : c.toNat = c.val.toNat := rfl
  omega
theorem strOk_app {a b : Str} (h : PyData.strOk a = true) (k : PyData.strOk b = true) : PyData.strOk (a ++ b) = true := by
  unfold PyData.strOk at h k ⊢
  rw [Array.all_eq_true'] at h k ⊢
  intro x hx
  have hx : x ∈ a.cps ++ b.cps := hx
  rcases Array.mem_append.mp hx with q | q
  · exact h x q
  · exact k x q
theorem wd_int {i : Int} {k : Nat} (hk : 0 < k) (hk2 : k ≤ 1900) (h : Bd k i) : Wd (k + 1) 0 (.int i) := by
  have hl := h.log hk
  refine ⟨?_, rfl, Nat.le_refl _, ?_, strOk_lit _⟩
  · simp only [PyData.showable, decide_eq_true_eq]
    omega
  · show (Str.ofString (toString i)).length ≤ k + 1
    have := int_text_length_le hk hl
    rw [Str.ofString_eq_toList]
    show ((toString i).toList.map Char.toNat).toArray.size ≤ k + 1
    rw [← String.length_toList] at this
    simpa using this
theorem wd_bl (b : Bool) : Wd 5 0 (.bool b) := by
  cases b
  · exact ⟨rfl, rfl, Nat.le_refl _, by decide, by decide +kernel⟩
  · exact ⟨rfl, rfl, Nat.le_refl _, by decide, by decide +kernel⟩
section
variable {n m : Nat}
theorem wd_all : ∀ {ds : List PyData}, (∀ d ∈ ds, Wd n m d) → PyData.showableAll ds = true ∧ PyData.hasDictAll ds = false ∧ PyData.depthAll ds ≤ m ∧ piled (PyData.shownAll ds) ≤ ds.length * (n + 2) ∧ (∀ t ∈ PyData.shownAll ds, PyData.strOk t = true) ∧ (PyData.shownAll ds).length = ds.length
  | [], _ => ⟨rfl, rfl, Nat.zero_le _, by simp [PyData.shownAll, piled], by simp [PyData.shownAll], rfl⟩
  | d :: ds, h => by
    obtain ⟨a1, a2, a3, a4, a5, a6⟩ := wd_all (ds := ds) fun x hx => h x (List.mem_cons_of_mem _ hx)
    have w := h d (List.mem_cons_self ..)
    refine ⟨by simp [PyData.showableAll, w.sh, a1], by simp [PyData.hasDictAll, w.nd, a2], ?_, ?_, ?_, by simp [PyData.shownAll, a6]⟩
    · simp only [PyData.depthAll]
      have := w.dp
      omega
    · simp only [PyData.shownAll, piled_cons, List.length_cons]
      have := w.len
      rw [Nat.add_mul]
      omega
    · intro t ht
      simp only [PyData.shownAll] at ht
      rcases List.mem_cons.mp ht with rfl | ht
      · exact w.ok
      · exact a5 t ht
theorem strOk_join (sep : Str) (hs : PyData.strOk sep = true) : ∀ ts : List Str, (∀ t ∈ ts, PyData.strOk t = true) → PyData.strOk (Str.join sep ts) = true
  | [], _ => by
    show PyData.strOk ⟨#[]⟩ = true
    unfold PyData.strOk
    simp
  | [x], h => h x (by simp)
  | x :: y :: r, h => by
    show PyData.strOk (x ++ sep ++ Str.join sep (y :: r)) = true
    exact strOk_app (strOk_app (h x (by simp)) hs) (strOk_join sep hs (y :: r) fun t ht => h t (List.mem_cons_of_mem _ ht))
theorem wd_tup {ds : List PyData} (h : ∀ d ∈ ds, Wd n m d) : Wd (3 + ds.length * (n + 2)) (m + 1) (.tuple ds) := by
  obtain ⟨a1, a2, a3, a4, a5, a6⟩ := wd_all h
  refine ⟨by simpa only [PyData.showable] using a1, by simpa only [PyData.hasDict] using a2, by simp only [PyData.depth]; omega, ?_, ?_⟩
  · simp only [PyData.shown, tupleText]
    rw [strLen_append, strLen_append]
    have e1 : (("(" : String) : Str).length = 1 := rfl
    have e2 : ((if ((PyData.shownAll ds).length == 1) = true then ",)" else ")" : String) : Str).length ≤ 2 := by split <;> decide
    have e3 : (Str.join ", " (PyData.shownAll ds)).length ≤ piled (PyData.shownAll ds) := by
      by_cases hn : PyData.shownAll ds = []
      · rw [hn]
        exact Nat.le_refl _
      · have := join_length_add _ hn
        omega
    have e1' : ("(" : Str).length = 1 := rfl
    omega
  · simp only [PyData.shown, tupleText]
    exact strOk_app (strOk_app (strOk_lit _) (strOk_join _ (strOk_lit _) _ a5)) (by split <;> exact strOk_lit _)
theorem textFrom_le : ∀ (ts : List Str) (k : Nat) (acc : Str), (textFrom k acc ts).length ≤ acc.length + piled ts
  | [], k, acc => by simp [textFrom]
  | t :: ts, k, acc => by
    have := textFrom_le ts (k + 1) (acc ++ (if k > 0 then ", " else "" : String) ++ t)
    simp only [textFrom, piled_cons]
    rw [strLen_append, strLen_append] at this
    have e2 : (((if k > 0 then ", " else "" : String)) : Str).length ≤ 2 := by split <;> decide
    omega
theorem strOk_from : ∀ (ts : List Str) (k : Nat) (acc : Str), PyData.strOk acc = true → (∀ t ∈ ts, PyData.strOk t = true) → PyData.strOk (textFrom k acc ts) = true
  | [], k, acc, h, _ => h
  | t :: ts, k, acc, h, ht => by
    simp only [textFrom]
    exact strOk_from ts (k + 1) _ (strOk_app (strOk_app h (strOk_lit _)) (ht t (by simp))) fun x hx => ht x (List.mem_cons_of_mem _ hx)
theorem wd_lst {ds : List PyData} (h : ∀ d ∈ ds, Wd n m d) : Wd (3 + ds.length * (n + 2)) (m + 1) (.list ds) := by
  obtain ⟨a1, a2, a3, a4, a5, a6⟩ := wd_all h
  refine ⟨by simpa only [PyData.showable] using a1, by simpa only [PyData.hasDict] using a2, by simp only [PyData.depth]; omega, ?_, ?_⟩
  · simp only [PyData.shown, listText]
    rw [strLen_append]
    have := textFrom_le (PyData.shownAll ds) 0 "["
    have e1 : (("[" : String) : Str).length = 1 := rfl
    have e2 : (("]" : String) : Str).length = 1 := rfl
    omega
  · simp only [PyData.shown, listText]
    exact strOk_app (strOk_from _ _ _ (strOk_lit _) a5) (strOk_lit _)
end
theorem ok_repr {v : PV} {h : MH} {d : PyData} {n m : Nat} {Q : PV → MH → Prop} (e : toD dataFuel h v = some d) (w : Wd n m d) (hn : n ≤ 100000) (hm : m ≤ 66) (q : Q (.str d.shown) h) : Ok (opRepr [v] h) Q := by
  have c : (d.showable && !d.hasDict && decide (d.depth ≤ 66) && decide (d.shown.length ≤ sizeLine)) = true := by
    rw [w.sh, w.nd, decide_eq_true (Nat.le_trans w.dp hm), decide_eq_true (small_line (Nat.le_trans w.len hn))]
    rfl
  have e2 : opRepr [v] h = .ok (.str d.shown) h := by
    unfold opRepr
    simp only [e]
    rw [if_pos c]
  rw [e2]
  exact q
theorem neD_same {a : Str} {mh : MH} (ha : PyData.strOk a = true) : neD (.str a) (.str a) mh = some false := by
  rw [neD_str ha ha]
  simp
theorem eqD_same {a : Str} {mh : MH} (ha : PyData.strOk a = true) : eqD (.str a) (.str a) mh = some true := by
  rw [eqD_str ha ha]
  simp
/-! data -/
theorem toD_int (n : Nat) (mh : MH) (i : Int) : toD (n + 1) mh (.int i) = some (.int i) := rfl
theorem toD_bl (n : Nat) (mh : MH) (b : Bool) : toD (n + 1) mh (.bl b) = some (.bool b) := rfl
theorem toD_tupN (n : Nat) (mh : MH) (l : List Int) : toD (n + 2) mh (iT l) = some (.tuple (l.map PyData.int)) := by
  show toD (n + 1 + 1) mh (iT l) = _
  rw [toD]
  simp only [allD_ints]
theorem allD_tups (n : Nat) (mh : MH) : ∀ ls : List (List Int), allD (toD (n + 2) mh) (ls.map iT) = some (ls.map fun l => .tuple (l.map PyData.int))
  | [] => rfl
  | l :: ls => by
    have := allD_tups n mh ls
    simp only [List.map_cons, allD, toD_tupN, this]
theorem toD_tups (n : Nat) (mh : MH) (ls : List (List Int)) : toD (n + 3) mh (.tup (ls.map iT)) = some (.tuple (ls.map fun l => .tuple (l.map PyData.int))) := by
  show toD (n + 2 + 1) mh (.tup (ls.map iT)) = _
  rw [toD]
  simp only [allD_tups]
theorem neD_tup {mh : MH} {a b : List Int} : neD (iT a) (iT b) mh = some (!decide (a = b)) := by
  unfold neD
  rw [eqD_tup]
  rfl
/-! ### runs that raise -/
def Ex {α : Type} (r : R α) (X : Str → PV → MH → Prop) : Prop := match r with
  | .exc c v h => X c v h
  | _ => False
def ExS (r : RS) (X : Str → PV → MH → Prop) : Prop := match r with
  | .exc c v _ h => X c v h
  | _ => False
section
variable {env : PEnv} {mh : MH} {X : Str → PV → MH → Prop}
theorem exS_seq {s1 s2 : PEnv → MH → RS} (k : OkS (s1 env mh) ⟨fun e h => ExS (s2 e h) X, fun _ _ => False, fun _ _ => False, fun _ _ => False⟩) : ExS (sSeq s1 s2 env mh) X := by
  unfold sSeq
  generalize s1 env mh = r at k
  cases r <;> first | exact k | exact k.elim
theorem exS_seq1 {s1 s2 : PEnv → MH → RS} (k : ExS (s1 env mh) X) : ExS (sSeq s1 s2 env mh) X := by
  unfold sSeq
  generalize s1 env mh = r at k
  cases r <;> first | exact k | exact k.elim
theorem exS_if {tc : PEnv → MH → R Bool} {s1 s2 : PEnv → MH → RS} (k : Ok (tc env mh) fun b h => if b = true then ExS (s1 env h) X else ExS (s2 env h) X) : ExS (sIf tc s1 s2 env mh) X := by
  unfold sIf
  generalize tc env mh = r at k
  cases r with
  | ok b h =>
    show ExS (if b = true then s1 env h else s2 env h) X
    cases b <;> exact k
  | exc _ _ _ => exact k.elim
  | bad => exact k.elim
theorem exS_raise {c : Str} {ma : PEnv → MH → R PV} (k : Ok (ma env mh) fun v h => X c v h) : ExS (sRaise c ma env mh) X := by
  unfold sRaise
  generalize ma env mh = r at k
  cases r <;> first | exact k | exact k.elim
theorem exS_expr {ma : PEnv → MH → R PV} (k : Ex (ma env mh) X) : ExS (sExpr ma env mh) X := by
  unfold sExpr
  generalize ma env mh = r at k
  cases r <;> first | exact k | exact k.elim
theorem exS_ret {ma : PEnv → MH → R PV} (k : Ex (ma env mh) X) : ExS (sRet ma env mh) X := by
  unfold sRet
  generalize ma env mh = r at k
  cases r <;> first | exact k | exact k.elim
theorem ex_call {cf : List PV → MH → R PV} {m : PEnv → MH → R (List PV)} (k : Ok (m env mh) fun vs h => Ex (cf vs h) X) : Ex (mCall cf m env mh) X := by
  unfold mCall
  generalize m env mh = r at k
  cases r <;> first | exact k | exact k.elim
theorem ex_run {body : PEnv → MH → RS} {n : Nat} {args : List PV} (k : ExS (body (args.map some ++ List.replicate (n - args.length) none) mh) X) : Ex (runB body n args mh) X := by
  unfold runB
  generalize body (args.map some ++ List.replicate (n - args.length) none) mh = r at k
  cases r <;> first | exact k | exact k.elim
theorem Ex.imp {α : Type} {r : R α} {Y : Str → PV → MH → Prop} (k : Ex r X) (f : ∀ c v h, X c v h → Y c v h) : Ex r Y := by
  cases r <;> first | exact f _ _ _ k | exact k.elim
theorem ok_caughtA {tab : Str → Bool} {mb : PEnv → MH → R PV} {Q : PV → MH → Prop} (k : Ex (mb env mh) fun c v h => tab c = true ∧ ∀ n h2, Sub h h2 → h[n]? = none → h2[n]? = some (.exo c v) → Q (.tup [.ref n, .non]) h2) : Ok (mCaughtA tab mb env mh) Q := by
  unfold mCaughtA
  generalize mb env mh = r at k
  cases r with
  | exc c v h =>
    obtain ⟨a, b⟩ := k
    simp only [a, if_true]
    exact b _ _ (.push _ _) (Sub.refl h).new (at_push _ _)
  | ok _ _ => exact k.elim
  | bad => exact k.elim
theorem ok_isC {tab : Str → Option Bool} {ma : PEnv → MH → R PV} {Q : PV → MH → Prop} (k : Ok (ma env mh) fun v h => ∃ n c w b, v = .ref n ∧ h[n]? = some (.exo c w) ∧ tab c = some b ∧ Q (.bl b) h) : Ok (mIsC tab ma env mh) Q := by
  unfold mIsC
  rw [ok_bind]
  refine k.imp fun v h ⟨n, c, w, b, e, e2, e3, q⟩ => ?_
  subst e
  simp only [e2, e3]
  exact q
theorem ok_fld {tab : Str → Bool} {ma : PEnv → MH → R PV} {Q : PV → MH → Prop} (k : Ok (ma env mh) fun v h => ∃ n c w, v = .ref n ∧ h[n]? = some (.exo c w) ∧ tab c = true ∧ Q w h) : Ok (mFld tab ma env mh) Q := by
  unfold mFld
  rw [ok_bind]
  refine k.imp fun v h ⟨n, c, w, e, e2, e3, q⟩ => ?_
  subst e
  simp only [e2, e3, if_true]
  exact q
end
/-! ### zips, sums, sorts -/
section
variable {env : PEnv} {mh h : MH} {Q : PV → MH → Prop} {QI : Src → MH → Prop} {m : PEnv → MH → R (List PV)} {ma : PEnv → MH → R PV}
theorem ok_zip2 (k : Ok (m env mh) fun vs h => ∃ v w s1 k1 s2 k2, vs = [v, w] ∧ srcPV v h = some (s1, k1) ∧ srcPV w h = some (s2, k2) ∧ QI (.zip s1 s2) h) : Ok (mZip2 m env mh) QI := by
  unfold mZip2
  rw [ok_bind]
  refine k.imp fun vs h ⟨v, w, s1, k1, s2, k2, e, e1, e2, q⟩ => ?_
  subst e
  simp only [e1, e2]
  exact q
theorem srcPV_lst {n : Nat} {vs : List PV} (e : h[n]? = some (.lst vs)) : srcPV (.ref n) h = some (.lst n, true) := by
  unfold srcPV isLst
  simp only [e, if_true]
theorem listsOf_refs {xs : List (List PV)} : ∀ {ns : List Nat}, ns.length = xs.length → (∀ (i : Nat) n l, ns[i]? = some n → xs[i]? = some l → h[n]? = some (.lst l)) → listsOf h (ns.map PV.ref) = some xs := by
  induction xs with
  | nil =>
    intro ns hl _
    cases ns with
    | nil => rfl
    | cons _ _ => cases hl
  | cons x xs ih =>
    intro ns hl hi
    cases ns with
    | nil => cases hl
    | cons n ns =>
      have e := hi 0 n x rfl rfl
      have : lstOf h n = some x := by
        unfold lstOf
        rw [e]
      simp only [List.map_cons, listsOf, this, ih (Nat.succ.inj hl) fun i n l a b => hi (i + 1) n l a b]
theorem ok_sumL {n k : Nat} {vs : List PV} {ls : List (List PV)} (e1 : h[n]? = some (.lst vs)) (e2 : h[k]? = some (.lst [])) (e3 : listsOf h vs = some ls) (hn : ls ≠ []) (hz : ls.flatten.length ≤ sizeLine) (q : NewL h ls.flatten Q) : Ok (opSumL [.ref n, .ref k] h) Q := by
  have a1 : lstOf h n = some vs := by
    unfold lstOf
    rw [e1]
  have a2 : lstOf h k = some [] := by
    unfold lstOf
    rw [e2]
  simp only [opSumL, a1, a2, e3]
  rw [if_pos ⟨hn, hz⟩]
  exact q.at
theorem ok_ixNeg {vs : List PV} {x : PV} (hk : vs.getLast? = some x) (q : Q x h) : Ok (opIx (.tup vs) (.int (-1)) h) Q := by
  have hne : vs ≠ [] := fun z => by rw [z] at hk; cases hk
  have hl : 0 < vs.length := List.length_pos_iff.mpr hne
  have e : ixPV (.tup vs) (.int (-1)) h = some x := by
    unfold ixPV
    simp only [seqOf]
    unfold atI ixN
    rw [List.getLast?_eq_getElem?] at hk
    rw [if_neg (show ¬ (0 : Int) ≤ -1 by decide), if_pos (show -(vs.length : Int) ≤ -1 by omega), show ((-1 : Int) + (vs.length : Int)).toNat = vs.length - 1 by omega]
    exact hk
  unfold opIx
  rw [e]
  exact q
end
theorem cut_init {α : Type} (vs : List α) : cutL vs none (some (-1)) = vs.dropLast := by
  unfold cutL HT.sIx
  simp only [List.drop_zero, Nat.sub_zero]
  rw [List.dropLast_eq_take]
  rw [List.take_eq_take_iff]
  rw [if_pos (show (-1 : Int) < 0 by decide), show ((-1 : Int) + (vs.length : Int)).toNat = vs.length - 1 by omega]
section
variable {mh h : MH} {Q : PV → MH → Prop} {env : PEnv}
theorem keysM_pure {mk : PV → MH → R PV} {k : PV → PV} : ∀ (vs : List PV), (∀ v ∈ vs, mk v h = .ok (k v) h) → keysM mk vs h = .ok (vs.map k) h
  | [], _ => rfl
  | v :: vs, hk => by
    simp only [keysM, hk v (by simp), keysM_pure vs fun w hw => hk w (List.mem_cons_of_mem _ hw), List.map_cons]
theorem ok_sortKey {b : Bool} {j : Nat} {ms : PEnv → MH → R (List PV)} {mk : PEnv → MH → R PV} (k : Ok (ms env mh) fun vs h1 => ∃ (kf : PV → PV) (ds : List PyData), (∀ v ∈ vs, mk (env.set j (some v)) h1 = .ok (kf v) h1) ∧ keysD (vs.map kf) = some ds ∧ NewL h1 (sortBy b vs ds) Q) : Ok (mSortKey b j ms mk env mh) Q := by
  unfold mSortKey
  rw [ok_bind]
  refine k.imp fun vs h1 ⟨kf, ds, h2, h3, q⟩ => ?_
  simp only [keysM_pure (mk := fun v h => mk (env.set j (some v)) h) vs h2, h3]
  exact q.at
theorem ok_srcR {ma : PEnv → MH → R PV} {QA : List PV → MH → Prop} (k : Ok (ma env mh) fun v h => ∃ i, v = .int i ∧ rgB 0 i = true ∧ QA (rgPV 0 i) h) : Ok (mSrcR ma env mh) QA := by
  unfold mSrcR
  rw [ok_bind]
  refine k.imp fun v h ⟨i, e, hb, q⟩ => ?_
  subst e
  simp only [hb, if_true]
  exact q
theorem keysD_pairs (f g : Nat → Int) : ∀ l : List Nat, keysD (l.map fun k => PV.tup [.int (f k), .int (g k)]) = some (l.map fun k => PyData.tuple [.int (f k), .int (g k)]) := by
  have i1 : ∀ l : List Nat, allD prK (l.map fun k => PV.tup [.int (f k), .int (g k)]) = some (l.map fun k => PyData.tuple [.int (f k), .int (g k)]) := by
    intro l
    induction l with
    | nil => rfl
    | cons x l ih => simp only [List.map_cons, allD, prK, ih]
  intro l
  cases l with
  | nil => rfl
  | cons x l =>
    have e : allD intK ((x :: l).map fun k => PV.tup [.int (f k), .int (g k)]) = none := rfl
    unfold keysD
    rw [e]
    exact i1 _
end
/-- a comprehension that draws; what holds of the i-th -/
theorem ok_compPotI {t : Tg} {ms : PEnv → MH → R Src} {me : PEnv → MH → R PV} {own : List Nat} {env : PEnv} {mh : MH} {Q : PV → MH → Prop} {p : Nat} (c : Nat) (G : Nat → PV → Prop)
    (h : Ok (ms env mh) fun src h1 => ∃ (as : List PV) (B : Nat), SubX p mh h1 ∧ Pot p B h1 ∧ as.length < loopFuel ∧ (∀ h, SubX p h1 h → SrcIs src h as) ∧
      (∀ (i : Nat) x, as[i]? = some x → ∀ h B', B' ≤ B + as.length * c → Pot p B' h → SubX p mh h → ∃ e2, asg t x (wipeE env own) h = some e2 ∧ Ok (me e2 h) fun y h3 => G i y ∧ Pot p (B' + c) h3 ∧ SubX p h h3) ∧
      (∀ n out h, out.length = as.length → (∀ (i : Nat) y, out[i]? = some y → G i y) → SubX p mh h → mh[n]? = none → n ≠ p → h[n]? = some (.lst out) → Pot p (B + as.length * c) h → Q (.ref n) h)) : Ok (mComp ms t mYes me own env mh) Q := by
  refine ok_comp (h.imp fun src h1 ⟨as, B, hb, hp, hl, hs, step, done⟩ => ⟨as, fun i out h => SubX p h1 h ∧ Pot p (B + i * c) h ∧ out.length = i ∧ (∀ (j : Nat) y, out[j]? = some y → G j y) ∧ i ≤ as.length, hl, fun i out h q _ => hs h q.1, fun i out h q => Nat.le_of_eq q.2.2.1, ?_, ⟨(Sub.push _ _).x p, by rw [Nat.zero_mul]; exact hp.sub (.push _ _), rfl, by simp, Nat.zero_le _⟩, ?_⟩)
  · rintro i v out h hv ⟨k1, k2, k3, k5, k6⟩ hd
    have hlt := (List.getElem?_eq_some_iff.mp hv).1
    have hne : h1.length ≠ p := Nat.ne_of_gt hp.lt
    obtain ⟨e2, ea, k⟩ := step i v hv h (B + i * c) (Nat.add_le_add_left (Nat.mul_le_mul_right c (by omega)) B) k2 (hb.trans k1)
    have hsucc : B + i * c + c = B + (i + 1) * c := by rw [Nat.succ_mul]; omega
    refine ⟨e2, ea, ?_⟩
    rw [ok_yes, if_pos rfl]
    refine k.imp fun y h3 ⟨q0, q1, q2⟩ => ⟨q2 _ _ hne hd, ?_, ?_, ?_, fun j z hz => ?_, hlt⟩
    · exact (k1.trans q2).set (.inl (Sub.refl h1).new) _
    · rw [← hsucc]
      exact q1.set hne _
    · rw [List.length_append, k3]
      rfl
    · by_cases hj : j < out.length
      · rw [List.getElem?_append_left hj] at hz
        exact k5 j z hz
      · have hj2 := (List.getElem?_eq_some_iff.mp hz).1
        simp only [List.length_append, List.length_singleton] at hj2
        have ej : j = out.length := by omega
        rw [ej, List.getElem?_append_right (Nat.le_refl _), Nat.sub_self] at hz
        cases hz
        rw [ej, k3]
        exact q0
  · rintro out h ⟨k1, k2, k3, k5, k6⟩ hd
    exact done _ _ _ k3 k5 (hb.trans k1) (hb.new hp.lt) (Nat.ne_of_gt hp.lt) hd k2
/-- tuples of ints, one by one -/
theorem iT_of {P : Nat → List Int → Prop} : ∀ {out : List PV}, (∀ (i : Nat) y, out[i]? = some y → ∃ d, y = iT d ∧ P i d) → ∃ ds : List (List Int), out = ds.map iT ∧ ∀ (i : Nat) d, ds[i]? = some d → P i d := by
  intro out
  induction out generalizing P with
  | nil => intro _; exact ⟨[], rfl, fun i d h => by simp at h⟩
  | cons y out ih =>
    intro h
    obtain ⟨d, e, p⟩ := h 0 y rfl
    obtain ⟨ds, e2, p2⟩ := ih (P := fun i d => P (i + 1) d) fun i z hz => h (i + 1) z hz
    refine ⟨d :: ds, by rw [e, e2]; rfl, fun i x hx => ?_⟩
    cases i with
    | zero => cases hx; exact p
    | succ i => exact p2 i x hx
theorem maxI_get {l : List Int} (h : l ≠ []) : ∃ m, maxI l = some m ∧ m ∈ l := by
  cases l with
  | nil => exact absurd rfl h
  | cons a l =>
    obtain ⟨h1, _, _⟩ := foldMax l a
    refine ⟨_, rfl, ?_⟩
    rcases h1 with h1 | h1
    · rw [h1]
      exact List.mem_cons_self ..
    · exact List.mem_cons_of_mem _ h1
end Ev
namespace K49
open PySem PySem.Spec PyProof.Rows L2 RZ Ev
def top (i : Nat) : Stmt := PySem.Challenge.pw_tracksenough_k49_whole_passes_and_codes.main.body.getD i (.Pass ⟨0, 0, 0, 0⟩)
abbrev FnP (K : PySem.W.Frag) (x : Str) (st : Stmt) (f : Addr) (fd : FuncData) : Prop := FunD K x x (defArgs st) (defBody st) (defScope st) [] [] f fd
/-! the errors -/
def errNames : List Str := ["TrackError", "BadCodes", "BadDeals", "BadRow", "BadTracks", "TooGreat"]
def errSub (c d : Str) : Bool := decide (c = d) || decide (d = "TrackError")
def initDef : Stmt := clsFirst (top 1)
def ip : InPos := inPos (defBody initDef)
theorem tx : InTxt ip (defArgs initDef) (defScope initDef) := ⟨⟨rfl, rfl, rfl, rfl, rfl⟩, rfl, rfl, rfl, by decide +kernel, rfl, rfl, rfl, rfl, fun _ => rfl, fun _ => rfl, fun _ => ⟨_, rfl⟩⟩
abbrev ErrS (P : Program) (K : PySem.W.Frag) (mg : Str → Option Value) : Prop := Errs ip (defArgs initDef) (defScope initDef) errNames errSub P K mg
/-! is_integer -/
def f_is_integer : List PV → MH → R PV := runB
 (sSeq (sRet ((mAndV (mIsi "int" (mVar 0)) (mNotV (mIsi "bool" (mVar 0))))))
 sNext) 1
theorem sc_is_integer : FnScope ["value"] ["value"] (defScope (top 8)) := ⟨rfl, rfl, rfl, by decide +kernel, rfl, by decide +kernel, by decide +kernel⟩
theorem pl_is_integer : Plain (defArgs (top 8)) ["value"] := ⟨rfl, rfl, rfl, rfl, rfl, by decide +kernel⟩
theorem ok_is_integer {P : Program} {w : World} {K : PySem.W.Frag} {mg : Str → Option Value} {base : Heap} {f : Addr} {fd : FuncData} (F : FnP K "is_integer" (top 8) f fd) (hm : mg "is_integer" = some (.ref f)) (b_isinstance : mg "isinstance" = none) (b_int : mg "int" = none) (b_bool : mg "bool" = none) : Cal P w K mg base 1 "is_integer" ["value"] f_is_integer :=
  cal_of F hm sc_is_integer pl_is_integer fun cdv A outer s H E hr hg => have nd := sc_is_integer.nd
 (rss_cons (rs_ret ((re_and (re_isi rfl b_isinstance boot_isinstance' rfl b_int boot_int' (xv 0)) (re_one (re_not (re_isi rfl b_isinstance boot_isinstance' rfl b_bool boot_bool' (xv 0)))))))
 rss_nil)
/-! is_between -/
def f_is_between : List PV → MH → R PV := runB
 (sSeq (sRet ((mAndV (mCall f_is_integer (mCons (mVar 0) mNil)) (mBl (mChain leD leD (mVar 1) (mVar 0) (mVar 2))))))
 sNext) 3
theorem sc_is_between : FnScope ["value", "low", "high"] ["value", "low", "high"] (defScope (top 9)) := ⟨rfl, rfl, rfl, by decide +kernel, rfl, by decide +kernel, by decide +kernel⟩
theorem pl_is_between : Plain (defArgs (top 9)) ["value", "low", "high"] := ⟨rfl, rfl, rfl, rfl, rfl, by decide +kernel⟩
theorem ok_is_between {P : Program} {w : World} {K : PySem.W.Frag} {mg : Str → Option Value} {base : Heap} {f : Addr} {fd : FuncData} (F : FnP K "is_between" (top 9) f fd) (hm : mg "is_between" = some (.ref f)) (c_is_integer : Cal P w K mg base 1 "is_integer" ["value"] f_is_integer) : Cal P w K mg base 2 "is_between" ["value", "low", "high"] f_is_between :=
  cal_of F hm sc_is_between pl_is_between fun cdv A outer s H E hr hg => have nd := sc_is_between.nd
 (rss_cons (rs_ret ((re_and (re_fn c_is_integer hr hg (takes_of rfl rfl rfl rfl) (xa (xv 0) ra_nil) (len_cons len_nil)) (re_one (re_chain (cv_le) (cv_le) (xv 1) (xv 0) (xv 2) (by with_unfolding_all rfl))))))
 rss_nil)
/-! is_row -/
def f_is_row : List PV → MH → R PV := runB
 (sSeq (sIf ((mOrT (mNotT (mTest (mIsi "tuple" (mVar 0)))) (mCmpT gtD (mCallOp opLen (mCons (mVar 0) mNil)) (mK (.int 30))))) (sSeq (sRet (mK (.bl false)))
 sNext) sNext)
 (sSeq (sRet (mCallOp opAll (mCons (mComp (mSrc (mVar 0)) (.nm 1) mYes (mCall f_is_between (mCons (mVar 1) (mCons (mK (.int 1)) (mCons (mK (.int 99)) mNil)))) [1]) mNil)))
 sNext)) 2
theorem sc_is_row : FnScope ["value", "number"] ["value"] (defScope (top 13)) := ⟨rfl, rfl, rfl, by decide +kernel, rfl, by decide +kernel, by decide +kernel⟩
theorem pl_is_row : Plain (defArgs (top 13)) ["value"] := ⟨rfl, rfl, rfl, rfl, rfl, by decide +kernel⟩
theorem ok_is_row {P : Program} {w : World} {K : PySem.W.Frag} {mg : Str → Option Value} {base : Heap} {f : Addr} {fd : FuncData} (F : FnP K "is_row" (top 13) f fd) (hm : mg "is_row" = some (.ref f)) (c_is_between : Cal P w K mg base 2 "is_between" ["value", "low", "high"] f_is_between) (b_isinstance : mg "isinstance" = none) (b_tuple : mg "tuple" = none) (b_len : mg "len" = none) (b_all : mg "all" = none) (c_MOST_CARS : ∃ t, mg "MOST_CARS" = some (.int 30 t)) (c_MOST_NUMBER : ∃ t, mg "MOST_NUMBER" = some (.int 99 t)) : Cal P w K mg base 3 "is_row" ["value"] f_is_row :=
  cal_of F hm sc_is_row pl_is_row fun cdv A outer s H E hr hg => have nd := sc_is_row.nd
 (rss_cons (rs_if (PW.pt (rw_or (rt_not (xtv (re_isi rfl b_isinstance boot_isinstance' rfl b_tuple boot_tuple' (xv 0)))) (rw_or1 (rt_cmp (cv_gt) (re_callB (cvn_len) q_len rfl b_len boot_len' (xa (xv 0) ra_nil)) (xgi c_MOST_CARS) (nomark _))))) (rss_cons (rs_ret (re_bl))
 rss_nil) rss_nil)
 (rss_cons (rs_ret (re_callB (cvn_all rfl) q_all rfl b_all boot_all' (xa (xlc [("number", 1)] rfl nd (ri_val (xv 0)) (blkOk_by (by kernel_rfl)) (by decide) (fun _ _ _ _ _ => ⟨(xgn nd), rts_nil, (re_fn c_is_between hr hg takes0 (xa (xv 1) (xa (re_int) (xa (xgi c_MOST_NUMBER) ra_nil))) (len_cons (len_cons (len_cons len_nil))))⟩)) ra_nil)))
 rss_nil))
/-! check_row -/
def f_check_row : List PV → MH → R PV := runB
 (sSeq (sIf (mNotT (mTest (mCall f_is_row (mCons (mVar 0) mNil)))) (sSeq (sRaise "BadRow" (mVar 0))
 sNext) sNext)
 sNext) 1
theorem sc_check_row : FnScope ["value"] ["value"] (defScope (top 14)) := ⟨rfl, rfl, rfl, by decide +kernel, rfl, by decide +kernel, by decide +kernel⟩
theorem pl_check_row : Plain (defArgs (top 14)) ["value"] := ⟨rfl, rfl, rfl, rfl, rfl, by decide +kernel⟩
theorem ok_check_row {P : Program} {w : World} {K : PySem.W.Frag} {mg : Str → Option Value} {base : Heap} {f : Addr} {fd : FuncData} (F : FnP K "check_row" (top 14) f fd) (hm : mg "check_row" = some (.ref f)) (c_is_row : Cal P w K mg base 3 "is_row" ["value"] f_is_row) (S : ErrS P K mg) : Cal P w K mg base 4 "check_row" ["value"] f_check_row :=
  cal_of F hm sc_check_row pl_check_row fun cdv A outer s H E hr hg => have nd := sc_check_row.nd
 (rss_cons (rs_if (rt_not (xtv (re_fn c_is_row hr hg (takes_of rfl rfl rfl rfl) (xa (xv 0) ra_nil) (len_cons len_nil)))) (rss_cons (rs_raise rfl (takes_of rfl rfl rfl rfl) S.tx S.fr (S.er _ (by decide)).err S.sup hr (S.mg_ _ (by decide)) (xv 0))
 rss_nil) rss_nil)
 rss_nil)
/-! product -/
def f_product : List PV → MH → R PV := runB
 (sSeq (sAsg (mK (.int 1)) (.nm 1))
 (sSeq (sFor (mSrc (mVar 0)) (.nm 2) (sSeq (sAsg (mBin opMul (mVar 1) (mVar 2)) (.nm 1))
 sNext))
 (sSeq (sRet (mVar 1))
 sNext))) 3
theorem sc_product : FnScope ["numbers", "found", "number"] ["numbers"] (defScope (top 16)) := ⟨rfl, rfl, rfl, by decide +kernel, rfl, by decide +kernel, by decide +kernel⟩
theorem pl_product : Plain (defArgs (top 16)) ["numbers"] := ⟨rfl, rfl, rfl, rfl, rfl, by decide +kernel⟩
theorem ok_product {P : Program} {w : World} {K : PySem.W.Frag} {mg : Str → Option Value} {base : Heap} {f : Addr} {fd : FuncData} (F : FnP K "product" (top 16) f fd) (hm : mg "product" = some (.ref f))  : Cal P w K mg base 1 "product" ["numbers"] f_product :=
  cal_of F hm sc_product pl_product fun cdv A outer s H E hr hg => have nd := sc_product.nd
 (rss_cons (xset nd (re_int))
 (rss_cons (xfor (passes_of rfl) rfl (ri_val (xv 0)) (xgn nd) (rss_cons (xset nd (re_bin ov_mul q_mul (xv 1) (xv 2)))
 rss_nil))
 (rss_cons (rs_ret (xv 1))
 rss_nil)))
/-! are_codes -/
def f_are_codes : List PV → MH → R PV := runB
 (sSeq (sIf ((mOrT (mNotT (mTest (mIsi "tuple" (mVar 1)))) (mCmpT neD (mCallOp opLen (mCons (mVar 1) mNil)) (mCallOp opLen (mCons (mVar 0) mNil))))) (sSeq (sRet (mK (.bl false)))
 sNext) sNext)
 (sSeq (sRet (mCallOp opAll (mCons (mComp (mSrc (mVar 1)) (.nm 2) mYes ((mAndV (mCall f_is_integer (mCons (mVar 2) mNil)) (mCmp geD (mVar 2) (mK (.int 0))))) [2]) mNil)))
 sNext)) 3
theorem sc_are_codes : FnScope ["row", "value", "code"] ["row", "value"] (defScope (top 18)) := ⟨rfl, rfl, rfl, by decide +kernel, rfl, by decide +kernel, by decide +kernel⟩
theorem pl_are_codes : Plain (defArgs (top 18)) ["row", "value"] := ⟨rfl, rfl, rfl, rfl, rfl, by decide +kernel⟩
theorem ok_are_codes {P : Program} {w : World} {K : PySem.W.Frag} {mg : Str → Option Value} {base : Heap} {f : Addr} {fd : FuncData} (F : FnP K "are_codes" (top 18) f fd) (hm : mg "are_codes" = some (.ref f)) (c_is_integer : Cal P w K mg base 1 "is_integer" ["value"] f_is_integer) (b_isinstance : mg "isinstance" = none) (b_tuple : mg "tuple" = none) (b_len : mg "len" = none) (b_all : mg "all" = none) : Cal P w K mg base 2 "are_codes" ["row", "value"] f_are_codes :=
  cal_of F hm sc_are_codes pl_are_codes fun cdv A outer s H E hr hg => have nd := sc_are_codes.nd
 (rss_cons (rs_if (PW.pt (rw_or (rt_not (xtv (re_isi rfl b_isinstance boot_isinstance' rfl b_tuple boot_tuple' (xv 1)))) (rw_or1 (rt_cmp (cv_ne hr.units) (re_callB (cvn_len) q_len rfl b_len boot_len' (xa (xv 1) ra_nil)) (re_callB (cvn_len) q_len rfl b_len boot_len' (xa (xv 0) ra_nil)) (nomark _))))) (rss_cons (rs_ret (re_bl))
 rss_nil) rss_nil)
 (rss_cons (rs_ret (re_callB (cvn_all rfl) q_all rfl b_all boot_all' (xa (xlc [("code", 2)] rfl nd (ri_val (xv 1)) (blkOk_by (by kernel_rfl)) (by decide) (fun _ _ _ _ _ => ⟨(xgn nd), rts_nil, ((re_and (re_fn c_is_integer hr hg takes0 (xa (xv 2) ra_nil) (len_cons len_nil)) (re_one (re_cmp (cv_ge) (xv 2) (re_int) (nomark _)))))⟩)) ra_nil)))
 rss_nil))
/-! check_codes -/
def f_check_codes : List PV → MH → R PV := runB
 (sSeq (sIf (mNotT (mTest (mCall f_are_codes (mCons (mVar 0) (mCons (mVar 1) mNil))))) (sSeq (sRaise "BadCodes" (mVar 1))
 sNext) sNext)
 sNext) 2
theorem sc_check_codes : FnScope ["row", "value"] ["row", "value"] (defScope (top 19)) := ⟨rfl, rfl, rfl, by decide +kernel, rfl, by decide +kernel, by decide +kernel⟩
theorem pl_check_codes : Plain (defArgs (top 19)) ["row", "value"] := ⟨rfl, rfl, rfl, rfl, rfl, by decide +kernel⟩
theorem ok_check_codes {P : Program} {w : World} {K : PySem.W.Frag} {mg : Str → Option Value} {base : Heap} {f : Addr} {fd : FuncData} (F : FnP K "check_codes" (top 19) f fd) (hm : mg "check_codes" = some (.ref f)) (c_are_codes : Cal P w K mg base 2 "are_codes" ["row", "value"] f_are_codes) (S : ErrS P K mg) : Cal P w K mg base 3 "check_codes" ["row", "value"] f_check_codes :=
  cal_of F hm sc_check_codes pl_check_codes fun cdv A outer s H E hr hg => have nd := sc_check_codes.nd
 (rss_cons (rs_if (rt_not (xtv (re_fn c_are_codes hr hg (takes_of rfl rfl rfl rfl) (xa (xv 0) (xa (xv 1) ra_nil)) (len_cons (len_cons len_nil))))) (rss_cons (rs_raise rfl (takes_of rfl rfl rfl rfl) S.tx S.fr (S.er _ (by decide)).err S.sup hr (S.mg_ _ (by decide)) (xv 1))
 rss_nil) rss_nil)
 rss_nil)
/-! ordered -/
def f_ordered : List PV → MH → R PV := runB
 (sSeq (sRet (mCallOp opTuple (mCons (mSortKey false 1 (mSrcR (mCallOp opLen (mCons (mVar 0) mNil))) (mTup (mCons (mBin opIx (mVar 0) (mVar 1)) (mCons (mVar 1) mNil)))) mNil)))
 sNext) 2
theorem sc_ordered : FnScope ["codes", "car"] ["codes"] (defScope (top 20)) := ⟨rfl, rfl, rfl, by decide +kernel, rfl, by decide +kernel, by decide +kernel⟩
theorem pl_ordered : Plain (defArgs (top 20)) ["codes"] := ⟨rfl, rfl, rfl, rfl, rfl, by decide +kernel⟩
theorem ok_ordered {P : Program} {w : World} {K : PySem.W.Frag} {mg : Str → Option Value} {base : Heap} {f : Addr} {fd : FuncData} (F : FnP K "ordered" (top 20) f fd) (hm : mg "ordered" = some (.ref f)) (S : ErrS P K mg) (hfa : f = He.fAd K ("ordered", none)) (tb : ∀ p ∈ lamDefs.map fun x => He.cT K (x, none), LamX.TabB base mg p.1 p.2) (b_len : mg "len" = none) (b_range : mg "range" = none) (b_sorted : mg "sorted" = none) (b_tuple : mg "tuple" = none) : Cal P w K mg base 4 "ordered" ["codes"] f_ordered :=
  cal_ofL F hm hfa sc_ordered pl_ordered fun A outer s H E hr hg => have nd := sc_ordered.nd
 (rss_cons (rs_ret (re_callTy (cvn_tuple) q_tuple rfl b_tuple boot_tuple' (xa (re_sortKey (j := 1) rfl nd rfl b_sorted (src_range rfl b_range (re_callB (cvn_len) q_len rfl b_len boot_len' (xa (xv 0) ra_nil))) (host_by (by decide) tb S.one rfl) (hr.mono (by decide)) (lamP_by rfl) (fun _ _ _ _ _ _ => (re_tup (xa (xix (xv 0) (xv 1)) (xa (xv 1) ra_nil))))) ra_nil)))
 rss_nil)
/-! is_in_order -/
def f_is_in_order : List PV → MH → R PV := runB
 (sSeq (sRet (mCallOp opAll (mCons (mComp (mZip2 (mCons (mVar 1) (mCons (mSl (mVar 1) (mPart (mK (.int 1))) mNoPart) mNil))) (.tp (.cons (.nm 2) (.cons (.nm 3) .nil))) mYes (mCmp leD (mBin opIx (mVar 0) (mVar 2)) (mBin opIx (mVar 0) (mVar 3))) [2, 3]) mNil)))
 sNext) 4
theorem sc_is_in_order : FnScope ["row", "cars", "one", "other"] ["row", "cars"] (defScope (top 21)) := ⟨rfl, rfl, rfl, by decide +kernel, rfl, by decide +kernel, by decide +kernel⟩
theorem pl_is_in_order : Plain (defArgs (top 21)) ["row", "cars"] := ⟨rfl, rfl, rfl, rfl, rfl, by decide +kernel⟩
theorem ok_is_in_order {P : Program} {w : World} {K : PySem.W.Frag} {mg : Str → Option Value} {base : Heap} {f : Addr} {fd : FuncData} (F : FnP K "is_in_order" (top 21) f fd) (hm : mg "is_in_order" = some (.ref f)) (b_zip : mg "zip" = none) (b_all : mg "all" = none) : Cal P w K mg base 1 "is_in_order" ["row", "cars"] f_is_in_order :=
  cal_of F hm sc_is_in_order pl_is_in_order fun cdv A outer s H E hr hg => have nd := sc_is_in_order.nd
 (rss_cons (rs_ret (re_callB (cvn_all rfl) q_all rfl b_all boot_all' (xa (xlc [("one", 2), ("other", 3)] rfl nd (ri_zip2 rfl b_zip (xa (xv 1) (xa (re_sl (xv 1) (ro_some (re_int)) ro_none) ra_nil)) rfl rfl) (blkOk_by (by kernel_rfl)) (by decide) (fun _ _ _ _ _ => ⟨(xgt rfl (xgc (xgn nd) (xgc (xgn nd) rgs_nil))), rts_nil, (re_cmp (cv_le) (xix (xv 0) (xv 2)) (xix (xv 0) (xv 3)) (nomark _))⟩)) ra_nil)))
 rss_nil)
/-! are_deals -/
def f_are_deals : List PV → MH → R PV := runB
 (sSeq (sIf ((mOrT (mNotT (mTest (mIsi "tuple" (mVar 1)))) (mCmpT gtD (mCallOp opLen (mCons (mVar 1) mNil)) (mK (.int 8))))) (sSeq (sRet (mK (.bl false)))
 sNext) sNext)
 (sSeq (sIf (mNotT (mTest (mCallOp opAll (mCons (mComp (mSrc (mVar 1)) (.nm 2) mYes ((mAndV (mIsi "tuple" (mVar 2)) (mCmp eqD (mCallOp opLen (mCons (mVar 2) mNil)) (mCallOp opLen (mCons (mVar 0) mNil))))) [2]) mNil)))) (sSeq (sRet (mK (.bl false)))
 sNext) sNext)
 (sSeq (sRet (mCallOp opAll (mCons (mComp (mSrc (mVar 1)) (.nm 2) mYes (mCallOp opAll (mCons (mComp (mSrc (mVar 2)) (.nm 3) mYes (mCall f_is_between (mCons (mVar 3) (mCons (mK (.int 0)) (mCons (mBin opSub (mK (.int 30)) (mK (.int 1))) mNil)))) [3]) mNil)) [2]) mNil)))
 sNext))) 4
theorem sc_are_deals : FnScope ["row", "value", "deal", "track"] ["row", "value"] (defScope (top 25)) := ⟨rfl, rfl, rfl, by decide +kernel, rfl, by decide +kernel, by decide +kernel⟩
theorem pl_are_deals : Plain (defArgs (top 25)) ["row", "value"] := ⟨rfl, rfl, rfl, rfl, rfl, by decide +kernel⟩
theorem ok_are_deals {P : Program} {w : World} {K : PySem.W.Frag} {mg : Str → Option Value} {base : Heap} {f : Addr} {fd : FuncData} (F : FnP K "are_deals" (top 25) f fd) (hm : mg "are_deals" = some (.ref f)) (c_is_between : Cal P w K mg base 2 "is_between" ["value", "low", "high"] f_is_between) (b_isinstance : mg "isinstance" = none) (b_tuple : mg "tuple" = none) (b_len : mg "len" = none) (b_all : mg "all" = none) (c_MOST_PASSES : ∃ t, mg "MOST_PASSES" = some (.int 8 t)) (c_MOST_TRACKS : ∃ t, mg "MOST_TRACKS" = some (.int 30 t)) : Cal P w K mg base 3 "are_deals" ["row", "value"] f_are_deals :=
  cal_of F hm sc_are_deals pl_are_deals fun cdv A outer s H E hr hg => have nd := sc_are_deals.nd
 (rss_cons (rs_if (PW.pt (rw_or (rt_not (xtv (re_isi rfl b_isinstance boot_isinstance' rfl b_tuple boot_tuple' (xv 1)))) (rw_or1 (rt_cmp (cv_gt) (re_callB (cvn_len) q_len rfl b_len boot_len' (xa (xv 1) ra_nil)) (xgi c_MOST_PASSES) (nomark _))))) (rss_cons (rs_ret (re_bl))
 rss_nil) rss_nil)
 (rss_cons (rs_if (rt_not (xtv (re_callB (cvn_all rfl) q_all rfl b_all boot_all' (xa (xlc [("deal", 2)] rfl nd (ri_val (xv 1)) (blkOk_by (by kernel_rfl)) (by decide) (fun _ _ _ _ _ => ⟨(xgn nd), rts_nil, ((re_and (re_isi rfl b_isinstance boot_isinstance' rfl b_tuple boot_tuple' (xv 2)) (re_one (re_cmp (cv_eq hr.units) (re_callB (cvn_len) q_len rfl b_len boot_len' (xa (xv 2) ra_nil)) (re_callB (cvn_len) q_len rfl b_len boot_len' (xa (xv 0) ra_nil)) (nomark _)))))⟩)) ra_nil)))) (rss_cons (rs_ret (re_bl))
 rss_nil) rss_nil)
 (rss_cons (rs_ret (re_callB (cvn_all rfl) q_all rfl b_all boot_all' (xa (xlc [("deal", 2)] rfl nd (ri_val (xv 1)) (blkOk_by (by kernel_rfl)) (by decide) (fun _ _ _ _ _ => ⟨(xgn nd), rts_nil, (re_callB (cvn_all rfl) q_all rfl b_all boot_all' (xa (xlc [("track", 3)] rfl nd (ri_val (xv 2)) (blkOk_by (by kernel_rfl)) (by decide) (fun _ _ _ _ _ => ⟨(xgn nd), rts_nil, (re_fn c_is_between hr hg takes0 (xa (xv 3) (xa (re_int) (xa (re_bin ov_sub q_sub (xgi c_MOST_TRACKS) (re_int)) ra_nil))) (len_cons (len_cons (len_cons len_nil))))⟩)) ra_nil))⟩)) ra_nil)))
 rss_nil)))
/-! check_deals -/
def f_check_deals : List PV → MH → R PV := runB
 (sSeq (sIf (mNotT (mTest (mCall f_are_deals (mCons (mVar 0) (mCons (mVar 1) mNil))))) (sSeq (sRaise "BadDeals" (mVar 1))
 sNext) sNext)
 sNext) 2
theorem sc_check_deals : FnScope ["row", "value"] ["row", "value"] (defScope (top 26)) := ⟨rfl, rfl, rfl, by decide +kernel, rfl, by decide +kernel, by decide +kernel⟩
theorem pl_check_deals : Plain (defArgs (top 26)) ["row", "value"] := ⟨rfl, rfl, rfl, rfl, rfl, by decide +kernel⟩
theorem ok_check_deals {P : Program} {w : World} {K : PySem.W.Frag} {mg : Str → Option Value} {base : Heap} {f : Addr} {fd : FuncData} (F : FnP K "check_deals" (top 26) f fd) (hm : mg "check_deals" = some (.ref f)) (c_are_deals : Cal P w K mg base 3 "are_deals" ["row", "value"] f_are_deals) (S : ErrS P K mg) : Cal P w K mg base 4 "check_deals" ["row", "value"] f_check_deals :=
  cal_of F hm sc_check_deals pl_check_deals fun cdv A outer s H E hr hg => have nd := sc_check_deals.nd
 (rss_cons (rs_if (rt_not (xtv (re_fn c_are_deals hr hg (takes_of rfl rfl rfl rfl) (xa (xv 0) (xa (xv 1) ra_nil)) (len_cons (len_cons len_nil))))) (rss_cons (rs_raise rfl (takes_of rfl rfl rfl rfl) S.tx S.fr (S.er _ (by decide)).err S.sup hr (S.mg_ _ (by decide)) (xv 1))
 rss_nil) rss_nil)
 rss_nil)
/-! check_tracks -/
def f_check_tracks : List PV → MH → R PV := runB
 (sSeq (sIf ((mOrT (mNotT (mTest (mIsi "tuple" (mVar 0)))) (mCmpT gtD (mCallOp opLen (mCons (mVar 0) mNil)) (mK (.int 8))))) (sSeq (sRaise "BadTracks" (mVar 0))
 sNext) sNext)
 (sSeq (sIf (mNotT (mTest (mCallOp opAll (mCons (mComp (mSrc (mVar 0)) (.nm 1) mYes (mCall f_is_between (mCons (mVar 1) (mCons (mK (.int 1)) (mCons (mK (.int 30)) mNil)))) [1]) mNil)))) (sSeq (sRaise "BadTracks" (mVar 0))
 sNext) sNext)
 sNext)) 2
theorem sc_check_tracks : FnScope ["value", "many"] ["value"] (defScope (top 27)) := ⟨rfl, rfl, rfl, by decide +kernel, rfl, by decide +kernel, by decide +kernel⟩
theorem pl_check_tracks : Plain (defArgs (top 27)) ["value"] := ⟨rfl, rfl, rfl, rfl, rfl, by decide +kernel⟩
theorem ok_check_tracks {P : Program} {w : World} {K : PySem.W.Frag} {mg : Str → Option Value} {base : Heap} {f : Addr} {fd : FuncData} (F : FnP K "check_tracks" (top 27) f fd) (hm : mg "check_tracks" = some (.ref f)) (c_is_between : Cal P w K mg base 2 "is_between" ["value", "low", "high"] f_is_between) (S : ErrS P K mg) (b_isinstance : mg "isinstance" = none) (b_tuple : mg "tuple" = none) (b_len : mg "len" = none) (b_all : mg "all" = none) (c_MOST_PASSES : ∃ t, mg "MOST_PASSES" = some (.int 8 t)) (c_MOST_TRACKS : ∃ t, mg "MOST_TRACKS" = some (.int 30 t)) : Cal P w K mg base 3 "check_tracks" ["value"] f_check_tracks :=
  cal_of F hm sc_check_tracks pl_check_tracks fun cdv A outer s H E hr hg => have nd := sc_check_tracks.nd
 (rss_cons (rs_if (PW.pt (rw_or (rt_not (xtv (re_isi rfl b_isinstance boot_isinstance' rfl b_tuple boot_tuple' (xv 0)))) (rw_or1 (rt_cmp (cv_gt) (re_callB (cvn_len) q_len rfl b_len boot_len' (xa (xv 0) ra_nil)) (xgi c_MOST_PASSES) (nomark _))))) (rss_cons (rs_raise rfl (takes_of rfl rfl rfl rfl) S.tx S.fr (S.er _ (by decide)).err S.sup hr (S.mg_ _ (by decide)) (xv 0))
 rss_nil) rss_nil)
 (rss_cons (rs_if (rt_not (xtv (re_callB (cvn_all rfl) q_all rfl b_all boot_all' (xa (xlc [("many", 1)] rfl nd (ri_val (xv 0)) (blkOk_by (by kernel_rfl)) (by decide) (fun _ _ _ _ _ => ⟨(xgn nd), rts_nil, (re_fn c_is_between hr hg takes0 (xa (xv 1) (xa (re_int) (xa (xgi c_MOST_TRACKS) ra_nil))) (len_cons (len_cons (len_cons len_nil))))⟩)) ra_nil)))) (rss_cons (rs_raise rfl (takes_of rfl rfl rfl rfl) S.tx S.fr (S.er _ (by decide)).err S.sup hr (S.mg_ _ (by decide)) (xv 0))
 rss_nil) rss_nil)
 rss_nil))
/-! are_below -/
def f_are_below : List PV → MH → R PV := runB
 (sSeq (sIf (mCmpT neD (mCallOp opLen (mCons (mVar 0) mNil)) (mCallOp opLen (mCons (mVar 1) mNil))) (sSeq (sRet (mK (.bl false)))
 sNext) sNext)
 (sSeq (sRet (mCallOp opAll (mCons (mComp (mZip2 (mCons (mVar 0) (mCons (mVar 1) mNil))) (.tp (.cons (.nm 3) (.cons (.nm 4) .nil))) mYes (mCallOp opAll (mCons (mComp (mSrc (mVar 3)) (.nm 2) mYes (mCmp ltD (mVar 2) (mVar 4)) [2]) mNil)) [3, 4]) mNil)))
 sNext)) 5
theorem sc_are_below : FnScope ["deals", "tracks", "track", "deal", "many"] ["deals", "tracks"] (defScope (top 28)) := ⟨rfl, rfl, rfl, by decide +kernel, rfl, by decide +kernel, by decide +kernel⟩
theorem pl_are_below : Plain (defArgs (top 28)) ["deals", "tracks"] := ⟨rfl, rfl, rfl, rfl, rfl, by decide +kernel⟩
theorem ok_are_below {P : Program} {w : World} {K : PySem.W.Frag} {mg : Str → Option Value} {base : Heap} {f : Addr} {fd : FuncData} (F : FnP K "are_below" (top 28) f fd) (hm : mg "are_below" = some (.ref f)) (b_len : mg "len" = none) (b_zip : mg "zip" = none) (b_all : mg "all" = none) : Cal P w K mg base 1 "are_below" ["deals", "tracks"] f_are_below :=
  cal_of F hm sc_are_below pl_are_below fun cdv A outer s H E hr hg => have nd := sc_are_below.nd
 (rss_cons (rs_if (rt_cmp (cv_ne hr.units) (re_callB (cvn_len) q_len rfl b_len boot_len' (xa (xv 0) ra_nil)) (re_callB (cvn_len) q_len rfl b_len boot_len' (xa (xv 1) ra_nil)) (nomark _)) (rss_cons (rs_ret (re_bl))
 rss_nil) rss_nil)
 (rss_cons (rs_ret (re_callB (cvn_all rfl) q_all rfl b_all boot_all' (xa (xlc [("deal", 3), ("many", 4)] rfl nd (ri_zip2 rfl b_zip (xa (xv 0) (xa (xv 1) ra_nil)) rfl rfl) (blkOk_by (by kernel_rfl)) (by decide) (fun _ _ _ _ _ => ⟨(xgt rfl (xgc (xgn nd) (xgc (xgn nd) rgs_nil))), rts_nil, (re_callB (cvn_all rfl) q_all rfl b_all boot_all' (xa (xlc [("track", 2)] rfl nd (ri_val (xv 3)) (blkOk_by (by kernel_rfl)) (by decide) (fun _ _ _ _ _ => ⟨(xgn nd), rts_nil, (re_cmp (cv_lt) (xv 2) (xv 4) (nomark _))⟩)) ra_nil))⟩)) ra_nil)))
 rss_nil))
/-! pulled -/
def f_pulled : List PV → MH → R PV := runB
 (sSeq (sAsg (mLst mNil) (.nm 2))
 (sSeq (sFor (mSrc (mCallOp opSorted (mCons (mCallOp opSet (mCons (mVar 1) mNil)) mNil))) (.nm 3) (sSeq (sExpr (mMeth1 meExtend (mRecv (mVar 2)) (mComp (mSrc (mVar 0)) (.nm 4) (mCmpT eqD (mBin opIx (mVar 1) (mVar 4)) (mVar 3)) (mVar 4) [4])))
 sNext))
 (sSeq (sRet (mVar 2))
 sNext))) 5
theorem sc_pulled : FnScope ["cars", "deal", "found", "track", "car"] ["cars", "deal"] (defScope (top 29)) := ⟨rfl, rfl, rfl, by decide +kernel, rfl, by decide +kernel, by decide +kernel⟩
theorem pl_pulled : Plain (defArgs (top 29)) ["cars", "deal"] := ⟨rfl, rfl, rfl, rfl, rfl, by decide +kernel⟩
theorem ok_pulled {P : Program} {w : World} {K : PySem.W.Frag} {mg : Str → Option Value} {base : Heap} {f : Addr} {fd : FuncData} (F : FnP K "pulled" (top 29) f fd) (hm : mg "pulled" = some (.ref f)) (b_set : mg "set" = none) (b_sorted : mg "sorted" = none) : Cal P w K mg base 1 "pulled" ["cars", "deal"] f_pulled :=
  cal_of F hm sc_pulled pl_pulled fun cdv A outer s H E hr hg => have nd := sc_pulled.nd
 (rss_cons (xset nd (re_lst ra_nil))
 (rss_cons (xfor (passes_of rfl) rfl (ri_val (re_callB (cvn_sorted rfl) q_sorted rfl b_sorted boot_sorted' (xa (re_callTy (cvn_set rfl) q_set rfl b_set boot_set' (xa (xv 1) ra_nil)) ra_nil))) (xgn nd) (rss_cons (xexpr (re_extend (xv 2) (xlc [("car", 4)] rfl nd (ri_val (xv 0)) (blkOk_by (by kernel_rfl)) (by decide) (fun _ _ _ _ _ => ⟨(xgn nd), (rts_one (rt_cmp (cv_eq hr.units) (xix (xv 1) (xv 4)) (xv 3) (nomark _))), (xv 4)⟩))))
 rss_nil))
 (rss_cons (rs_ret (xv 2))
 rss_nil)))
/-! behind_all -/
def f_behind_all : List PV → MH → R PV := runB
 (sSeq (sAsg (mRg1 rgList (mCallOp opLen (mCons (mVar 0) mNil))) (.nm 2))
 (sSeq (sFor (mSrc (mVar 1)) (.nm 3) (sSeq (sAsg (mCall f_pulled (mCons (mVar 2) (mCons (mVar 3) mNil))) (.nm 2))
 sNext))
 (sSeq (sRet (mCallOp opTuple (mCons (mVar 2) mNil)))
 sNext))) 4
theorem sc_behind_all : FnScope ["row", "deals", "cars", "deal"] ["row", "deals"] (defScope (top 30)) := ⟨rfl, rfl, rfl, by decide +kernel, rfl, by decide +kernel, by decide +kernel⟩
theorem pl_behind_all : Plain (defArgs (top 30)) ["row", "deals"] := ⟨rfl, rfl, rfl, rfl, rfl, by decide +kernel⟩
theorem ok_behind_all {P : Program} {w : World} {K : PySem.W.Frag} {mg : Str → Option Value} {base : Heap} {f : Addr} {fd : FuncData} (F : FnP K "behind_all" (top 30) f fd) (hm : mg "behind_all" = some (.ref f)) (c_pulled : Cal P w K mg base 1 "pulled" ["cars", "deal"] f_pulled) (b_len : mg "len" = none) (b_list : mg "list" = none) (b_range : mg "range" = none) (b_tuple : mg "tuple" = none) : Cal P w K mg base 2 "behind_all" ["row", "deals"] f_behind_all :=
  cal_of F hm sc_behind_all pl_behind_all fun cdv A outer s H E hr hg => have nd := sc_behind_all.nd
 (rss_cons (xset nd (re_lstRg1 rfl rfl b_list rfl b_range (re_callB (cvn_len) q_len rfl b_len boot_len' (xa (xv 0) ra_nil))))
 (rss_cons (xfor (passes_of rfl) rfl (ri_val (xv 1)) (xgn nd) (rss_cons (xset nd (re_fn c_pulled hr hg (takes_of rfl rfl rfl rfl) (xa (xv 2) (xa (xv 3) ra_nil)) (len_cons (len_cons len_nil))))
 rss_nil))
 (rss_cons (rs_ret (re_callTy (cvn_tuple) q_tuple rfl b_tuple boot_tuple' (xa (xv 2) ra_nil)))
 rss_nil)))
/-! behind -/
def f_behind : List PV → MH → R PV := runB
 (sSeq (sExpr (mCall f_check_row (mCons (mVar 0) mNil)))
 (sSeq (sExpr (mCall f_check_deals (mCons (mVar 0) (mCons (mVar 1) mNil))))
 (sSeq (sRet (mCall f_behind_all (mCons (mVar 0) (mCons (mVar 1) mNil))))
 sNext))) 2
theorem sc_behind : FnScope ["row", "deals"] ["row", "deals"] (defScope (top 31)) := ⟨rfl, rfl, rfl, by decide +kernel, rfl, by decide +kernel, by decide +kernel⟩
theorem pl_behind : Plain (defArgs (top 31)) ["row", "deals"] := ⟨rfl, rfl, rfl, rfl, rfl, by decide +kernel⟩
theorem ok_behind {P : Program} {w : World} {K : PySem.W.Frag} {mg : Str → Option Value} {base : Heap} {f : Addr} {fd : FuncData} (F : FnP K "behind" (top 31) f fd) (hm : mg "behind" = some (.ref f)) (c_check_row : Cal P w K mg base 4 "check_row" ["value"] f_check_row) (c_check_deals : Cal P w K mg base 4 "check_deals" ["row", "value"] f_check_deals) (c_behind_all : Cal P w K mg base 4 "behind_all" ["row", "deals"] f_behind_all) : Cal P w K mg base 5 "behind" ["row", "deals"] f_behind :=
  cal_of F hm sc_behind pl_behind fun cdv A outer s H E hr hg => have nd := sc_behind.nd
 (rss_cons (xexpr (re_fn c_check_row hr hg (takes_of rfl rfl rfl rfl) (xa (xv 0) ra_nil) (len_cons len_nil)))
 (rss_cons (xexpr (re_fn c_check_deals hr hg (takes_of rfl rfl rfl rfl) (xa (xv 0) (xa (xv 1) ra_nil)) (len_cons (len_cons len_nil))))
 (rss_cons (rs_ret (re_fn c_behind_all hr hg (takes_of rfl rfl rfl rfl) (xa (xv 0) (xa (xv 1) ra_nil)) (len_cons (len_cons len_nil))))
 rss_nil)))
/-! by_codes -/
def f_by_codes : List PV → MH → R PV := runB
 (sSeq (sExpr (mCall f_check_row (mCons (mVar 0) mNil)))
 (sSeq (sExpr (mCall f_check_codes (mCons (mVar 0) (mCons (mVar 1) mNil))))
 (sSeq (sRet (mCall f_ordered (mCons (mVar 1) mNil)))
 sNext))) 2
theorem sc_by_codes : FnScope ["row", "codes"] ["row", "codes"] (defScope (top 32)) := ⟨rfl, rfl, rfl, by decide +kernel, rfl, by decide +kernel, by decide +kernel⟩
theorem pl_by_codes : Plain (defArgs (top 32)) ["row", "codes"] := ⟨rfl, rfl, rfl, rfl, rfl, by decide +kernel⟩
theorem ok_by_codes {P : Program} {w : World} {K : PySem.W.Frag} {mg : Str → Option Value} {base : Heap} {f : Addr} {fd : FuncData} (F : FnP K "by_codes" (top 32) f fd) (hm : mg "by_codes" = some (.ref f)) (c_check_row : Cal P w K mg base 4 "check_row" ["value"] f_check_row) (c_check_codes : Cal P w K mg base 4 "check_codes" ["row", "value"] f_check_codes) (c_ordered : Cal P w K mg base 4 "ordered" ["codes"] f_ordered) : Cal P w K mg base 5 "by_codes" ["row", "codes"] f_by_codes :=
  cal_of F hm sc_by_codes pl_by_codes fun cdv A outer s H E hr hg => have nd := sc_by_codes.nd
 (rss_cons (xexpr (re_fn c_check_row hr hg (takes_of rfl rfl rfl rfl) (xa (xv 0) ra_nil) (len_cons len_nil)))
 (rss_cons (xexpr (re_fn c_check_codes hr hg (takes_of rfl rfl rfl rfl) (xa (xv 0) (xa (xv 1) ra_nil)) (len_cons (len_cons len_nil))))
 (rss_cons (rs_ret (re_fn c_ordered hr hg (takes_of rfl rfl rfl rfl) (xa (xv 1) ra_nil) (len_cons len_nil)))
 rss_nil)))
/-! do_set -/
def f_do_set : List PV → MH → R PV := runB
 (sSeq (sExpr (mCall f_check_row (mCons (mVar 0) mNil)))
 (sSeq (sExpr (mCall f_check_codes (mCons (mVar 0) (mCons (mVar 1) mNil))))
 (sSeq (sRet (mCall f_is_in_order (mCons (mVar 0) (mCons (mCall f_ordered (mCons (mVar 1) mNil)) mNil))))
 sNext))) 2
theorem sc_do_set : FnScope ["row", "codes"] ["row", "codes"] (defScope (top 33)) := ⟨rfl, rfl, rfl, by decide +kernel, rfl, by decide +kernel, by decide +kernel⟩
theorem pl_do_set : Plain (defArgs (top 33)) ["row", "codes"] := ⟨rfl, rfl, rfl, rfl, rfl, by decide +kernel⟩
theorem ok_do_set {P : Program} {w : World} {K : PySem.W.Frag} {mg : Str → Option Value} {base : Heap} {f : Addr} {fd : FuncData} (F : FnP K "do_set" (top 33) f fd) (hm : mg "do_set" = some (.ref f)) (c_check_row : Cal P w K mg base 4 "check_row" ["value"] f_check_row) (c_check_codes : Cal P w K mg base 4 "check_codes" ["row", "value"] f_check_codes) (c_ordered : Cal P w K mg base 4 "ordered" ["codes"] f_ordered) (c_is_in_order : Cal P w K mg base 4 "is_in_order" ["row", "cars"] f_is_in_order) : Cal P w K mg base 5 "do_set" ["row", "codes"] f_do_set :=
  cal_of F hm sc_do_set pl_do_set fun cdv A outer s H E hr hg => have nd := sc_do_set.nd
 (rss_cons (xexpr (re_fn c_check_row hr hg (takes_of rfl rfl rfl rfl) (xa (xv 0) ra_nil) (len_cons len_nil)))
 (rss_cons (xexpr (re_fn c_check_codes hr hg (takes_of rfl rfl rfl rfl) (xa (xv 0) (xa (xv 1) ra_nil)) (len_cons (len_cons len_nil))))
 (rss_cons (rs_ret (re_fn c_is_in_order hr hg (takes_of rfl rfl rfl rfl) (xa (xv 0) (xa (re_fn c_ordered hr hg (takes_of rfl rfl rfl rfl) (xa (xv 1) ra_nil) (len_cons len_nil)) ra_nil)) (len_cons (len_cons len_nil))))
 rss_nil)))
/-! figures -/
def f_figures : List PV → MH → R PV := runB
 (sSeq (sPar 2 3 (mCons (mLst mNil) (mCons (mCallOp opList (mCons (mVar 0) mNil)) mNil)))
 (sSeq (sFor (mSrc (mVar 1)) (.nm 4) (sSeq (sExpr (mMeth1 meAppend (mRecv (mVar 2)) (mCallOp opTuple (mCons (mComp (mSrc (mVar 3)) (.nm 5) mYes (mBin opMod (mVar 5) (mVar 4)) [5]) mNil))))
 (sSeq (sAsg (mComp (mSrc (mVar 3)) (.nm 5) mYes (mBin opDiv (mVar 5) (mVar 4)) [5]) (.nm 3))
 sNext)))
 (sSeq (sRet (mCallOp opTuple (mCons (mVar 2) mNil)))
 sNext))) 6
theorem sc_figures : FnScope ["codes", "tracks", "deals", "left", "many", "code"] ["codes", "tracks"] (defScope (top 34)) := ⟨rfl, rfl, rfl, by decide +kernel, rfl, by decide +kernel, by decide +kernel⟩
theorem pl_figures : Plain (defArgs (top 34)) ["codes", "tracks"] := ⟨rfl, rfl, rfl, rfl, rfl, by decide +kernel⟩
theorem ok_figures {P : Program} {w : World} {K : PySem.W.Frag} {mg : Str → Option Value} {base : Heap} {f : Addr} {fd : FuncData} (F : FnP K "figures" (top 34) f fd) (hm : mg "figures" = some (.ref f)) (b_list : mg "list" = none) (b_tuple : mg "tuple" = none) : Cal P w K mg base 1 "figures" ["codes", "tracks"] f_figures :=
  cal_of F hm sc_figures pl_figures fun cdv A outer s H E hr hg => have nd := sc_figures.nd
 (rss_cons (xpar rfl nd (xa (re_lst ra_nil) (xa (re_callTy (cvn_list) q_list rfl b_list boot_list' (xa (xv 0) ra_nil)) ra_nil)))
 (rss_cons (xfor (passes_of rfl) rfl (ri_val (xv 1)) (xgn nd) (rss_cons (xexpr (re_append (xv 2) (re_callTy (cvn_tuple) q_tuple rfl b_tuple boot_tuple' (xa (xlc [("code", 5)] rfl nd (ri_val (xv 3)) (blkOk_by (by kernel_rfl)) (by decide) (fun _ _ _ _ _ => ⟨(xgn nd), rts_nil, (re_bin ov_mod q_mod (xv 5) (xv 4))⟩)) ra_nil))))
 (rss_cons (xsetLc [("code", 5)] rfl nd (ri_val (xv 3)) (blkOk_by (by kernel_rfl)) (by decide) (fun _ _ _ _ _ => ⟨(xgn nd), rts_nil, (re_bin ov_div q_div (xv 5) (xv 4))⟩) (sw_true rfl rfl rfl (by decide +kernel)))
 rss_nil)))
 (rss_cons (rs_ret (re_callTy (cvn_tuple) q_tuple rfl b_tuple boot_tuple' (xa (xv 2) ra_nil)))
 rss_nil)))
/-! dealt -/
def f_dealt : List PV → MH → R PV := runB
 (sSeq (sExpr (mCall f_check_row (mCons (mVar 0) mNil)))
 (sSeq (sExpr (mCall f_check_codes (mCons (mVar 0) (mCons (mVar 1) mNil))))
 (sSeq (sExpr (mCall f_check_tracks (mCons (mVar 2) mNil)))
 (sSeq (sIf ((mAndT (mCmpT neD (mVar 1) (mTup mNil)) (mCmpT geD (mCallOp opMaxA (mCons (mVar 1) mNil)) (mCall f_product (mCons (mVar 2) mNil))))) (sSeq (sRaise "TooGreat" (mCallOp opMaxA (mCons (mVar 1) mNil)))
 sNext) sNext)
 (sSeq (sRet (mCall f_figures (mCons (mVar 1) (mCons (mVar 2) mNil))))
 sNext))))) 3
theorem sc_dealt : FnScope ["row", "codes", "tracks"] ["row", "codes", "tracks"] (defScope (top 35)) := ⟨rfl, rfl, rfl, by decide +kernel, rfl, by decide +kernel, by decide +kernel⟩
theorem pl_dealt : Plain (defArgs (top 35)) ["row", "codes", "tracks"] := ⟨rfl, rfl, rfl, rfl, rfl, by decide +kernel⟩
theorem ok_dealt {P : Program} {w : World} {K : PySem.W.Frag} {mg : Str → Option Value} {base : Heap} {f : Addr} {fd : FuncData} (F : FnP K "dealt" (top 35) f fd) (hm : mg "dealt" = some (.ref f)) (c_check_row : Cal P w K mg base 4 "check_row" ["value"] f_check_row) (c_check_codes : Cal P w K mg base 4 "check_codes" ["row", "value"] f_check_codes) (c_check_tracks : Cal P w K mg base 4 "check_tracks" ["value"] f_check_tracks) (c_product : Cal P w K mg base 4 "product" ["numbers"] f_product) (c_figures : Cal P w K mg base 4 "figures" ["codes", "tracks"] f_figures) (S : ErrS P K mg) (b_max : mg "max" = none) : Cal P w K mg base 5 "dealt" ["row", "codes", "tracks"] f_dealt :=
  cal_of F hm sc_dealt pl_dealt fun cdv A outer s H E hr hg => have nd := sc_dealt.nd
 (rss_cons (xexpr (re_fn c_check_row hr hg (takes_of rfl rfl rfl rfl) (xa (xv 0) ra_nil) (len_cons len_nil)))
 (rss_cons (xexpr (re_fn c_check_codes hr hg (takes_of rfl rfl rfl rfl) (xa (xv 0) (xa (xv 1) ra_nil)) (len_cons (len_cons len_nil))))
 (rss_cons (xexpr (re_fn c_check_tracks hr hg (takes_of rfl rfl rfl rfl) (xa (xv 2) ra_nil) (len_cons len_nil)))
 (rss_cons (rs_if (PW.pt (rw_and (rt_cmp (cv_ne hr.units) (xv 1) (re_tup ra_nil) (nomark _)) (rw_and1 (rt_cmp (cv_ge) (re_callB (cvn_maxA rfl hr.units) q_maxA rfl b_max boot_max' (xa (xv 1) ra_nil)) (re_fn c_product hr hg (takes_of rfl rfl rfl rfl) (xa (xv 2) ra_nil) (len_cons len_nil)) (nomark _))))) (rss_cons (rs_raise rfl (takes_of rfl rfl rfl rfl) S.tx S.fr (S.er _ (by decide)).err S.sup hr (S.mg_ _ (by decide)) (re_callB (cvn_maxA rfl hr.units) q_maxA rfl b_max boot_max' (xa (xv 1) ra_nil)))
 rss_nil) rss_nil)
 (rss_cons (rs_ret (re_fn c_figures hr hg (takes_of rfl rfl rfl rfl) (xa (xv 1) (xa (xv 2) ra_nil)) (len_cons (len_cons len_nil))))
 rss_nil)))))
/-! codes_of -/
def f_codes_of : List PV → MH → R PV := runB
 (sSeq (sExpr (mCall f_check_row (mCons (mVar 0) mNil)))
 (sSeq (sExpr (mCall f_check_deals (mCons (mVar 0) (mCons (mVar 1) mNil))))
 (sSeq (sExpr (mCall f_check_tracks (mCons (mVar 2) mNil)))
 (sSeq (sIf (mNotT (mTest (mCall f_are_below (mCons (mVar 1) (mCons (mVar 2) mNil))))) (sSeq (sRaise "BadDeals" (mVar 1))
 sNext) sNext)
 (sSeq (sAsg (mTup (mCons (mBin opMul (mLst (mCons (mK (.int 0)) mNil)) (mCallOp opLen (mCons (mVar 0) mNil))) (mCons (mK (.int 1)) mNil))) (.tp (.cons (.nm 3) (.cons (.nm 4) .nil))))
 (sSeq (sFor (mZip2 (mCons (mVar 1) (mCons (mVar 2) mNil))) (.tp (.cons (.nm 5) (.cons (.nm 6) .nil))) (sSeq (sAsg (mComp (mZip2 (mCons (mVar 3) (mCons (mVar 5) mNil))) (.tp (.cons (.nm 7) (.cons (.nm 8) .nil))) mYes (mBin opAdd (mVar 7) (mBin opMul (mVar 4) (mVar 8))) [7, 8]) (.nm 3))
 (sSeq (sAsg (mBin opMul (mVar 4) (mVar 6)) (.nm 4))
 sNext)))
 (sSeq (sRet (mCallOp opTuple (mCons (mVar 3) mNil)))
 sNext))))))) 9
theorem sc_codes_of : FnScope ["row", "deals", "tracks", "codes", "times", "deal", "many", "code", "track"] ["row", "deals", "tracks"] (defScope (top 36)) := ⟨rfl, rfl, rfl, by decide +kernel, rfl, by decide +kernel, by decide +kernel⟩
theorem pl_codes_of : Plain (defArgs (top 36)) ["row", "deals", "tracks"] := ⟨rfl, rfl, rfl, rfl, rfl, by decide +kernel⟩
theorem ok_codes_of {P : Program} {w : World} {K : PySem.W.Frag} {mg : Str → Option Value} {base : Heap} {f : Addr} {fd : FuncData} (F : FnP K "codes_of" (top 36) f fd) (hm : mg "codes_of" = some (.ref f)) (c_check_row : Cal P w K mg base 4 "check_row" ["value"] f_check_row) (c_check_deals : Cal P w K mg base 4 "check_deals" ["row", "value"] f_check_deals) (c_check_tracks : Cal P w K mg base 4 "check_tracks" ["value"] f_check_tracks) (c_are_below : Cal P w K mg base 4 "are_below" ["deals", "tracks"] f_are_below) (S : ErrS P K mg) (b_len : mg "len" = none) (b_zip : mg "zip" = none) (b_tuple : mg "tuple" = none) : Cal P w K mg base 5 "codes_of" ["row", "deals", "tracks"] f_codes_of :=
  cal_of F hm sc_codes_of pl_codes_of fun cdv A outer s H E hr hg => have nd := sc_codes_of.nd
 (rss_cons (xexpr (re_fn c_check_row hr hg (takes_of rfl rfl rfl rfl) (xa (xv 0) ra_nil) (len_cons len_nil)))
 (rss_cons (xexpr (re_fn c_check_deals hr hg (takes_of rfl rfl rfl rfl) (xa (xv 0) (xa (xv 1) ra_nil)) (len_cons (len_cons len_nil))))
 (rss_cons (xexpr (re_fn c_check_tracks hr hg (takes_of rfl rfl rfl rfl) (xa (xv 2) ra_nil) (len_cons len_nil)))
 (rss_cons (rs_if (rt_not (xtv (re_fn c_are_below hr hg (takes_of rfl rfl rfl rfl) (xa (xv 1) (xa (xv 2) ra_nil)) (len_cons (len_cons len_nil))))) (rss_cons (rs_raise rfl (takes_of rfl rfl rfl rfl) S.tx S.fr (S.er _ (by decide)).err S.sup hr (S.mg_ _ (by decide)) (xv 1))
 rss_nil) rss_nil)
 (rss_cons (xasg (re_tup (xa (re_bin ov_mul q_mul (re_lst (xa (re_int) ra_nil)) (re_callB (cvn_len) q_len rfl b_len boot_len' (xa (xv 0) ra_nil))) (xa (re_int) ra_nil))) (xgt rfl (xgc (xgn nd) (xgc (xgn nd) rgs_nil))))
 (rss_cons (xfor (passes_of rfl) rfl (ri_zip2 rfl b_zip (xa (xv 1) (xa (xv 2) ra_nil)) rfl rfl) (xgt rfl (xgc (xgn nd) (xgc (xgn nd) rgs_nil))) (rss_cons (xsetLc [("code", 7), ("track", 8)] rfl nd (ri_zip2 rfl b_zip (xa (xv 3) (xa (xv 5) ra_nil)) rfl rfl) (blkOk_by (by kernel_rfl)) (by decide) (fun _ _ _ _ _ => ⟨(xgt rfl (xgc (xgn nd) (xgc (xgn nd) rgs_nil))), rts_nil, (re_bin ov_add q_add (xv 7) (re_bin ov_mul q_mul (xv 4) (xv 8)))⟩) (sw_true rfl rfl rfl (by decide +kernel)))
 (rss_cons (xset nd (re_bin ov_mul q_mul (xv 4) (xv 6)))
 rss_nil)))
 (rss_cons (rs_ret (re_callTy (cvn_tuple) q_tuple rfl b_tuple boot_tuple' (xa (xv 3) ra_nil)))
 rss_nil)))))))
/-! _law_pot -/
def f__law_pot : List PV → MH → R PV := runB
 (sSeq (sAsg (mIf (mCmpT ltD (mVar 1) (mCallOp opLen (mCons (mVar 0) mNil))) (mBin opIx (mVar 0) (mVar 1)) (mBin opAdd (mBin opAdd (mBin opMod (mCallOp opSum (mCons (mSl (mVar 0) mNoPart (mPart (mK (.int 1)))) mNil)) (mK (.int 1000033))) (mBin opMul (mK (.int 4201)) (mVar 1))) (mK (.int 683)))) (.nm 2))
 (sSeq (sAsg (mBin opMul (mBin opMod (mCallOp opInt (mCons (mCallOp opAbs (mCons (mVar 2) mNil)) mNil)) (mBin opPow (mBin opPow (mK (.int 10)) (mK (.int 60))) (mK (.int 5)))) (mCallOp opInt (mCons (mCmp geD (mCallOp opAbs (mCons (mVar 2) mNil)) (mBin opPow (mK (.int 10)) (mK (.int 18)))) mNil))) (.nm 3))
 (sSeq (sAsg (mBin opMod (mCallOp opInt (mCons (mVar 2) mNil)) (mK (.int 2305843009213693951))) (.nm 4))
 (sSeq (sRet (mLst (mCons (mVar 3) (mCons (mBin opMod (mCallOp opInt (mCons (mBin opAdd (mBin opAdd (mBin opMul (mVar 4) (mK (.int 64879))) (mBin opMul (mBin opMul (mK (.int 7901)) (mVar 1)) (mVar 1))) (mK (.int 547))) mNil)) (mK (.int 2305843009213693921))) (mCons (mK (.int 0)) mNil)))))
 sNext)))) 5
theorem sc__law_pot : FnScope ["script", "place", "cell", "own", "small"] ["script", "place"] (defScope (top 38)) := ⟨rfl, rfl, rfl, by decide +kernel, rfl, by decide +kernel, by decide +kernel⟩
theorem pl__law_pot : Plain (defArgs (top 38)) ["script", "place"] := ⟨rfl, rfl, rfl, rfl, rfl, by decide +kernel⟩
theorem ok__law_pot {P : Program} {w : World} {K : PySem.W.Frag} {mg : Str → Option Value} {base : Heap} {f : Addr} {fd : FuncData} (F : FnP K "_law_pot" (top 38) f fd) (hm : mg "_law_pot" = some (.ref f)) (b_len : mg "len" = none) (b_sum : mg "sum" = none) (b_abs : mg "abs" = none) (b_int : mg "int" = none) : Cal P w K mg base 1 "_law_pot" ["script", "place"] f__law_pot :=
  cal_of F hm sc__law_pot pl__law_pot fun cdv A outer s H E hr hg => have nd := sc__law_pot.nd
 (rss_cons (xset nd (re_if (rt_cmp (cv_lt) (xv 1) (re_callB (cvn_len) q_len rfl b_len boot_len' (xa (xv 0) ra_nil)) (nomark _)) (xix (xv 0) (xv 1)) (re_bin ov_add q_add (re_bin ov_add q_add (re_bin ov_mod q_mod (re_callB (cvn_sum rfl) q_sum rfl b_sum boot_sum' (xa (re_sl (xv 0) ro_none (ro_some (re_int))) ra_nil)) (re_int)) (re_bin ov_mul q_mul (re_int) (xv 1))) (re_int))))
 (rss_cons (xset nd (re_bin ov_mul q_mul (re_bin ov_mod q_mod (re_callTy (cvn_int) q_int rfl b_int boot_int' (xa (re_callB (cvn_abs) q_abs rfl b_abs boot_abs' (xa (xv 2) ra_nil)) ra_nil)) (re_bin ov_pow q_pow (re_bin ov_pow q_pow (re_int) (re_int)) (re_int))) (re_callTy (cvn_int) q_int rfl b_int boot_int' (xa (re_cmp (cv_ge) (re_callB (cvn_abs) q_abs rfl b_abs boot_abs' (xa (xv 2) ra_nil)) (re_bin ov_pow q_pow (re_int) (re_int)) (nomark _)) ra_nil))))
 (rss_cons (xset nd (re_bin ov_mod q_mod (re_callTy (cvn_int) q_int rfl b_int boot_int' (xa (xv 2) ra_nil)) (re_int)))
 (rss_cons (rs_ret (re_lst (xa (xv 3) (xa (re_bin ov_mod q_mod (re_callTy (cvn_int) q_int rfl b_int boot_int' (xa (re_bin ov_add q_add (re_bin ov_add q_add (re_bin ov_mul q_mul (xv 4) (re_int)) (re_bin ov_mul q_mul (re_bin ov_mul q_mul (re_int) (xv 1)) (xv 1))) (re_int)) ra_nil)) (re_int)) (xa (re_int) ra_nil)))))
 rss_nil))))
/-! _law_take -/
def f__law_take : List PV → MH → R PV := runB
 (sSeq (sIf (mCmpT gtD (mBin opIx (mVar 0) (mK (.int 0))) (mK (.int 0))) (sSeq (sAsg (mBin opMod (mCallOp opInt (mCons (mBin opIx (mVar 0) (mK (.int 0))) mNil)) (mVar 1)) (.nm 2))
 (sSeq (sStore (mBin opDiv (mBin opIx (mVar 0) (mK (.int 0))) (mVar 1)) (mVar 0) (mK (.int 0)))
 (sSeq (sRet (mVar 2))
 sNext))) sNext)
 (sSeq (sStore (mBin opAdd (mBin opIx (mVar 0) (mK (.int 2))) (mK (.int 1))) (mVar 0) (mK (.int 2)))
 (sSeq (sAsg (mBin opIx (mLst (mCons (mK (.int 2147483549)) (mCons (mK (.int 2147483543)) (mCons (mK (.int 2147483497)) (mCons (mK (.int 2147483489)) (mCons (mK (.int 2147483477)) mNil)))))) (mBin opMod (mCallOp opInt (mCons (mBin opIx (mVar 0) (mK (.int 2))) mNil)) (mK (.int 5)))) (.nm 3))
 (sSeq (sAsg (mBin opMod (mCallOp opInt (mCons (mBin opPow (mCallOp opInt (mCons (mBin opAdd (mBin opAdd (mBin opIx (mVar 0) (mK (.int 1))) (mBin opMul (mBin opMul (mK (.int 86453)) (mBin opIx (mVar 0) (mK (.int 2)))) (mBin opIx (mVar 0) (mK (.int 2))))) (mK (.int 617))) mNil)) (mK (.int 3))) mNil)) (mVar 3)) (.nm 4))
 (sSeq (sAsg (mBin opMod (mCallOp opInt (mCons (mBin opMul (mVar 4) (mBin opAdd (mBin opMod (mCallOp opInt (mCons (mVar 4) mNil)) (mK (.int 8713))) (mBin opMul (mK (.int 131)) (mBin opIx (mVar 0) (mK (.int 2)))))) mNil)) (mK (.int 2305843009213693907))) (.nm 4))
 (sSeq (sRet (mBin opMod (mCallOp opInt (mCons (mBin opDiv (mVar 4) (mK (.int 149))) mNil)) (mVar 1)))
 sNext)))))) 5
theorem sc__law_take : FnScope ["pot", "upto", "digit", "prime", "blend"] ["pot", "upto"] (defScope (top 39)) := ⟨rfl, rfl, rfl, by decide +kernel, rfl, by decide +kernel, by decide +kernel⟩
theorem pl__law_take : Plain (defArgs (top 39)) ["pot", "upto"] := ⟨rfl, rfl, rfl, rfl, rfl, by decide +kernel⟩
theorem ok__law_take {P : Program} {w : World} {K : PySem.W.Frag} {mg : Str → Option Value} {base : Heap} {f : Addr} {fd : FuncData} (F : FnP K "_law_take" (top 39) f fd) (hm : mg "_law_take" = some (.ref f)) (b_int : mg "int" = none) : Cal P w K mg base 1 "_law_take" ["pot", "upto"] f__law_take :=
  cal_of F hm sc__law_take pl__law_take fun cdv A outer s H E hr hg => have nd := sc__law_take.nd
 (rss_cons (rs_if (rt_cmp (cv_gt) (xix (xv 0) (re_int)) (re_int) (nomark _)) (rss_cons (xset nd (re_bin ov_mod q_mod (re_callTy (cvn_int) q_int rfl b_int boot_int' (xa (xix (xv 0) (re_int)) ra_nil)) (xv 1)))
 (rss_cons (rs_store (re_bin ov_div q_div (xix (xv 0) (re_int)) (xv 1)) (xv 0) (re_int) (still_var 0) (still_k _))
 (rss_cons (rs_ret (xv 2))
 rss_nil))) rss_nil)
 (rss_cons (rs_store (re_bin ov_add q_add (xix (xv 0) (re_int)) (re_int)) (xv 0) (re_int) (still_var 0) (still_k _))
 (rss_cons (xset nd (xix (re_lst (xa (re_int) (xa (re_int) (xa (re_int) (xa (re_int) (xa (re_int) ra_nil)))))) (re_bin ov_mod q_mod (re_callTy (cvn_int) q_int rfl b_int boot_int' (xa (xix (xv 0) (re_int)) ra_nil)) (re_int))))
 (rss_cons (xset nd (re_bin ov_mod q_mod (re_callTy (cvn_int) q_int rfl b_int boot_int' (xa (re_bin ov_pow q_pow (re_callTy (cvn_int) q_int rfl b_int boot_int' (xa (re_bin ov_add q_add (re_bin ov_add q_add (xix (xv 0) (re_int)) (re_bin ov_mul q_mul (re_bin ov_mul q_mul (re_int) (xix (xv 0) (re_int))) (xix (xv 0) (re_int)))) (re_int)) ra_nil)) (re_int)) ra_nil)) (xv 3)))
 (rss_cons (xset nd (re_bin ov_mod q_mod (re_callTy (cvn_int) q_int rfl b_int boot_int' (xa (re_bin ov_mul q_mul (xv 4) (re_bin ov_add q_add (re_bin ov_mod q_mod (re_callTy (cvn_int) q_int rfl b_int boot_int' (xa (xv 4) ra_nil)) (re_int)) (re_bin ov_mul q_mul (re_int) (xix (xv 0) (re_int))))) ra_nil)) (re_int)))
 (rss_cons (rs_ret (re_bin ov_mod q_mod (re_callTy (cvn_int) q_int rfl b_int boot_int' (xa (re_bin ov_div q_div (xv 4) (re_int)) ra_nil)) (xv 1)))
 rss_nil))))))
/-! _law_of -/
def f__law_of : List PV → MH → R PV := runB
 (sSeq (sRet (mBin opIx (mVar 1) (mCall f__law_take (mCons (mVar 0) (mCons (mCallOp opLen (mCons (mVar 1) mNil)) mNil)))))
 sNext) 2
theorem sc__law_of : FnScope ["pot", "some"] ["pot", "some"] (defScope (top 40)) := ⟨rfl, rfl, rfl, by decide +kernel, rfl, by decide +kernel, by decide +kernel⟩
theorem pl__law_of : Plain (defArgs (top 40)) ["pot", "some"] := ⟨rfl, rfl, rfl, rfl, rfl, by decide +kernel⟩
theorem ok__law_of {P : Program} {w : World} {K : PySem.W.Frag} {mg : Str → Option Value} {base : Heap} {f : Addr} {fd : FuncData} (F : FnP K "_law_of" (top 40) f fd) (hm : mg "_law_of" = some (.ref f)) (c__law_take : Cal P w K mg base 1 "_law_take" ["pot", "upto"] f__law_take) (b_len : mg "len" = none) : Cal P w K mg base 2 "_law_of" ["pot", "some"] f__law_of :=
  cal_of F hm sc__law_of pl__law_of fun cdv A outer s H E hr hg => have nd := sc__law_of.nd
 (rss_cons (rs_ret (xix (xv 1) (re_fn c__law_take hr hg (takes_of rfl rfl rfl rfl) (xa (xv 0) (xa (re_callB (cvn_len) q_len rfl b_len boot_len' (xa (xv 1) ra_nil)) ra_nil)) (len_cons (len_cons len_nil)))))
 rss_nil)
/-! _law_cells -/
def f__law_cells : List PV → MH → R PV := runB
 (sSeq (sRet (mRg1 rgList (mCallOp opMaxA (mCons (mK (.int 1)) (mCons (mCallOp opMinA (mCons (mVar 1) (mCons (mCallOp opLen (mCons (mVar 0) mNil)) mNil))) mNil)))))
 sNext) 2
theorem sc__law_cells : FnScope ["script", "most"] ["script", "most"] (defScope (top 41)) := ⟨rfl, rfl, rfl, by decide +kernel, rfl, by decide +kernel, by decide +kernel⟩
theorem pl__law_cells : Plain (defArgs (top 41)) ["script", "most"] := ⟨rfl, rfl, rfl, rfl, rfl, by decide +kernel⟩
theorem ok__law_cells {P : Program} {w : World} {K : PySem.W.Frag} {mg : Str → Option Value} {base : Heap} {f : Addr} {fd : FuncData} (F : FnP K "_law_cells" (top 41) f fd) (hm : mg "_law_cells" = some (.ref f)) (b_len : mg "len" = none) (b_min : mg "min" = none) (b_max : mg "max" = none) (b_list : mg "list" = none) (b_range : mg "range" = none) : Cal P w K mg base 1 "_law_cells" ["script", "most"] f__law_cells :=
  cal_of F hm sc__law_cells pl__law_cells fun cdv A outer s H E hr hg => have nd := sc__law_cells.nd
 (rss_cons (rs_ret (re_lstRg1 rfl rfl b_list rfl b_range (re_callB (cvn_maxA rfl hr.units) q_maxA rfl b_max boot_max' (xa (re_int) (xa (re_callB (cvn_minA rfl hr.units) q_minA rfl b_min boot_min' (xa (xv 1) (xa (re_callB (cvn_len) q_len rfl b_len boot_len' (xa (xv 0) ra_nil)) ra_nil))) ra_nil)))))
 rss_nil)
/-! _law_row -/
def f__law_row : List PV → MH → R PV := runB
 (sSeq (sAsg (mCall f__law_of (mCons (mVar 0) (mCons (mLst (mCons (mK (.int 1)) (mCons (mK (.int 1)) (mCons (mK (.int 1)) (mCons (mK (.int 9)) mNil))))) mNil))) (.nm 3))
 (sSeq (sRet (mCallOp opTuple (mCons (mComp (mRange (mCons (mCall f__law_take (mCons (mVar 0) (mCons (mBin opAdd (mVar 1) (mK (.int 1))) mNil))) mNil)) (.nm 4) mYes (mCallOp opInt (mCons (mBin opAdd (mK (.int 1)) (mBin opMul (mVar 3) (mCall f__law_take (mCons (mVar 0) (mCons (mVar 2) mNil))))) mNil)) [4]) mNil)))
 sNext)) 5
theorem sc__law_row : FnScope ["pot", "most", "wide", "step", "lap"] ["pot", "most", "wide"] (defScope (top 42)) := ⟨rfl, rfl, rfl, by decide +kernel, rfl, by decide +kernel, by decide +kernel⟩
theorem pl__law_row : Plain (defArgs (top 42)) ["pot", "most", "wide"] := ⟨rfl, rfl, rfl, rfl, rfl, by decide +kernel⟩
theorem ok__law_row {P : Program} {w : World} {K : PySem.W.Frag} {mg : Str → Option Value} {base : Heap} {f : Addr} {fd : FuncData} (F : FnP K "_law_row" (top 42) f fd) (hm : mg "_law_row" = some (.ref f)) (c__law_of : Cal P w K mg base 2 "_law_of" ["pot", "some"] f__law_of) (c__law_take : Cal P w K mg base 2 "_law_take" ["pot", "upto"] f__law_take) (b_range : mg "range" = none) (b_int : mg "int" = none) (b_tuple : mg "tuple" = none) : Cal P w K mg base 3 "_law_row" ["pot", "most", "wide"] f__law_row :=
  cal_of F hm sc__law_row pl__law_row fun cdv A outer s H E hr hg => have nd := sc__law_row.nd
 (rss_cons (xset nd (re_fn c__law_of hr hg (takes_of rfl rfl rfl rfl) (xa (xv 0) (xa (re_lst (xa (re_int) (xa (re_int) (xa (re_int) (xa (re_int) ra_nil))))) ra_nil)) (len_cons (len_cons len_nil))))
 (rss_cons (rs_ret (re_callTy (cvn_tuple) q_tuple rfl b_tuple boot_tuple' (xa (xlc [("lap", 4)] rfl nd (ri_range1 rfl b_range (xa (re_fn c__law_take hr hg (takes_of rfl rfl rfl rfl) (xa (xv 0) (xa (re_bin ov_add q_add (xv 1) (re_int)) ra_nil)) (len_cons (len_cons len_nil))) ra_nil) rfl (len_cons len_nil)) (blkOk_by (by kernel_rfl)) (by decide) (fun _ _ _ _ _ => ⟨(xgn nd), rts_nil, (re_callTy (cvn_int) q_int rfl b_int boot_int' (xa (re_bin ov_add q_add (re_int) (re_bin ov_mul q_mul (xv 3) (re_fn c__law_take hr hg takes0 (xa (xv 0) (xa (xv 2) ra_nil)) (len_cons (len_cons len_nil))))) ra_nil))⟩)) ra_nil)))
 rss_nil))
/-! _law_ordered -/
def f__law_ordered : List PV → MH → R PV := runB
 (sSeq (sAsg (mLst mNil) (.nm 1))
 (sSeq (sFor (mSrc (mCallOp opSorted (mCons (mCallOp opSet (mCons (mVar 0) mNil)) mNil))) (.nm 2) (sSeq (sExpr (mMeth1 meExtend (mRecv (mVar 1)) (mComp (mRange (mCons (mCallOp opLen (mCons (mVar 0) mNil)) mNil)) (.nm 3) (mCmpT eqD (mBin opIx (mVar 0) (mVar 3)) (mVar 2)) (mVar 3) [3])))
 sNext))
 (sSeq (sRet (mCallOp opTuple (mCons (mVar 1) mNil)))
 sNext))) 4
theorem sc__law_ordered : FnScope ["codes", "found", "code", "car"] ["codes"] (defScope (top 43)) := ⟨rfl, rfl, rfl, by decide +kernel, rfl, by decide +kernel, by decide +kernel⟩
theorem pl__law_ordered : Plain (defArgs (top 43)) ["codes"] := ⟨rfl, rfl, rfl, rfl, rfl, by decide +kernel⟩
theorem ok__law_ordered {P : Program} {w : World} {K : PySem.W.Frag} {mg : Str → Option Value} {base : Heap} {f : Addr} {fd : FuncData} (F : FnP K "_law_ordered" (top 43) f fd) (hm : mg "_law_ordered" = some (.ref f)) (b_set : mg "set" = none) (b_sorted : mg "sorted" = none) (b_len : mg "len" = none) (b_range : mg "range" = none) (b_tuple : mg "tuple" = none) : Cal P w K mg base 1 "_law_ordered" ["codes"] f__law_ordered :=
  cal_of F hm sc__law_ordered pl__law_ordered fun cdv A outer s H E hr hg => have nd := sc__law_ordered.nd
 (rss_cons (xset nd (re_lst ra_nil))
 (rss_cons (xfor (passes_of rfl) rfl (ri_val (re_callB (cvn_sorted rfl) q_sorted rfl b_sorted boot_sorted' (xa (re_callTy (cvn_set rfl) q_set rfl b_set boot_set' (xa (xv 0) ra_nil)) ra_nil))) (xgn nd) (rss_cons (xexpr (re_extend (xv 1) (xlc [("car", 3)] rfl nd (ri_range1 rfl b_range (xa (re_callB (cvn_len) q_len rfl b_len boot_len' (xa (xv 0) ra_nil)) ra_nil) rfl (len_cons len_nil)) (blkOk_by (by kernel_rfl)) (by decide) (fun _ _ _ _ _ => ⟨(xgn nd), (rts_one (rt_cmp (cv_eq hr.units) (xix (xv 0) (xv 3)) (xv 2) (nomark _))), (xv 3)⟩))))
 rss_nil))
 (rss_cons (rs_ret (re_callTy (cvn_tuple) q_tuple rfl b_tuple boot_tuple' (xa (xv 1) ra_nil)))
 rss_nil)))
/-! _law_rise -/
def f__law_rise : List PV → MH → R PV := runB
 (sSeq (sRet (mCallOp opAll (mCons (mComp (mZip2 (mCons (mVar 1) (mCons (mSl (mVar 1) (mPart (mK (.int 1))) mNoPart) mNil))) (.tp (.cons (.nm 2) (.cons (.nm 3) .nil))) mYes (mCmp leD (mBin opIx (mVar 0) (mVar 2)) (mBin opIx (mVar 0) (mVar 3))) [2, 3]) mNil)))
 sNext) 4
theorem sc__law_rise : FnScope ["row", "cars", "one", "other"] ["row", "cars"] (defScope (top 44)) := ⟨rfl, rfl, rfl, by decide +kernel, rfl, by decide +kernel, by decide +kernel⟩
theorem pl__law_rise : Plain (defArgs (top 44)) ["row", "cars"] := ⟨rfl, rfl, rfl, rfl, rfl, by decide +kernel⟩
theorem ok__law_rise {P : Program} {w : World} {K : PySem.W.Frag} {mg : Str → Option Value} {base : Heap} {f : Addr} {fd : FuncData} (F : FnP K "_law_rise" (top 44) f fd) (hm : mg "_law_rise" = some (.ref f)) (b_zip : mg "zip" = none) (b_all : mg "all" = none) : Cal P w K mg base 1 "_law_rise" ["row", "cars"] f__law_rise :=
  cal_of F hm sc__law_rise pl__law_rise fun cdv A outer s H E hr hg => have nd := sc__law_rise.nd
 (rss_cons (rs_ret (re_callB (cvn_all rfl) q_all rfl b_all boot_all' (xa (xlc [("one", 2), ("other", 3)] rfl nd (ri_zip2 rfl b_zip (xa (xv 1) (xa (re_sl (xv 1) (ro_some (re_int)) ro_none) ra_nil)) rfl rfl) (blkOk_by (by kernel_rfl)) (by decide) (fun _ _ _ _ _ => ⟨(xgt rfl (xgc (xgn nd) (xgc (xgn nd) rgs_nil))), rts_nil, (re_cmp (cv_le) (xix (xv 0) (xv 2)) (xix (xv 0) (xv 3)) (nomark _))⟩)) ra_nil)))
 rss_nil)
/-! _law_behind -/
def f__law_behind : List PV → MH → R PV := runB
 (sSeq (sAsg (mRg1 rgList (mCallOp opLen (mCons (mVar 0) mNil))) (.nm 2))
 (sSeq (sFor (mSrc (mVar 1)) (.nm 3) (sSeq (sAsg (mCallOp opSumL (mCons (mComp (mRange (mCons (mK (.int 30)) mNil)) (.nm 5) mYes (mComp (mSrc (mVar 2)) (.nm 4) (mCmpT eqD (mBin opIx (mVar 3) (mVar 4)) (mVar 5)) (mVar 4) [4]) [5]) (mCons (mLst mNil) mNil))) (.nm 2))
 sNext))
 (sSeq (sRet (mCallOp opTuple (mCons (mVar 2) mNil)))
 sNext))) 6
theorem sc__law_behind : FnScope ["row", "deals", "cars", "deal", "car", "track"] ["row", "deals"] (defScope (top 45)) := ⟨rfl, rfl, rfl, by decide +kernel, rfl, by decide +kernel, by decide +kernel⟩
theorem pl__law_behind : Plain (defArgs (top 45)) ["row", "deals"] := ⟨rfl, rfl, rfl, rfl, rfl, by decide +kernel⟩
theorem ok__law_behind {P : Program} {w : World} {K : PySem.W.Frag} {mg : Str → Option Value} {base : Heap} {f : Addr} {fd : FuncData} (F : FnP K "_law_behind" (top 45) f fd) (hm : mg "_law_behind" = some (.ref f)) (b_len : mg "len" = none) (b_list : mg "list" = none) (b_range : mg "range" = none) (b_sum : mg "sum" = none) (b_tuple : mg "tuple" = none) : Cal P w K mg base 1 "_law_behind" ["row", "deals"] f__law_behind :=
  cal_of F hm sc__law_behind pl__law_behind fun cdv A outer s H E hr hg => have nd := sc__law_behind.nd
 (rss_cons (xset nd (re_lstRg1 rfl rfl b_list rfl b_range (re_callB (cvn_len) q_len rfl b_len boot_len' (xa (xv 0) ra_nil))))
 (rss_cons (xfor (passes_of rfl) rfl (ri_val (xv 1)) (xgn nd) (rss_cons (xset nd (re_callB (cvn_sumL rfl) q_sumL rfl b_sum boot_sum' (xa (xlc [("track", 5)] rfl nd (ri_range1 rfl b_range (xa (re_int) ra_nil) rfl (len_cons len_nil)) (blkOk_by (by kernel_rfl)) (by decide) (fun _ _ _ _ _ => ⟨(xgn nd), rts_nil, (xlc [("car", 4)] rfl nd (ri_val (xv 2)) (blkOk_by (by kernel_rfl)) (by decide) (fun _ _ _ _ _ => ⟨(xgn nd), (rts_one (rt_cmp (cv_eq hr.units) (xix (xv 3) (xv 4)) (xv 5) (nomark _))), (xv 4)⟩))⟩)) (xa (re_lst ra_nil) ra_nil))))
 rss_nil))
 (rss_cons (rs_ret (re_callTy (cvn_tuple) q_tuple rfl b_tuple boot_tuple' (xa (xv 2) ra_nil)))
 rss_nil)))
/-! _law_product -/
def f__law_product : List PV → MH → R PV := runB
 (sSeq (sAsg (mK (.int 1)) (.nm 1))
 (sSeq (sFor (mSrc (mVar 0)) (.nm 2) (sSeq (sAsg (mBin opMul (mVar 1) (mVar 2)) (.nm 1))
 sNext))
 (sSeq (sRet (mVar 1))
 sNext))) 3
theorem sc__law_product : FnScope ["numbers", "found", "number"] ["numbers"] (defScope (top 46)) := ⟨rfl, rfl, rfl, by decide +kernel, rfl, by decide +kernel, by decide +kernel⟩
theorem pl__law_product : Plain (defArgs (top 46)) ["numbers"] := ⟨rfl, rfl, rfl, rfl, rfl, by decide +kernel⟩
theorem ok__law_product {P : Program} {w : World} {K : PySem.W.Frag} {mg : Str → Option Value} {base : Heap} {f : Addr} {fd : FuncData} (F : FnP K "_law_product" (top 46) f fd) (hm : mg "_law_product" = some (.ref f))  : Cal P w K mg base 1 "_law_product" ["numbers"] f__law_product :=
  cal_of F hm sc__law_product pl__law_product fun cdv A outer s H E hr hg => have nd := sc__law_product.nd
 (rss_cons (xset nd (re_int))
 (rss_cons (xfor (passes_of rfl) rfl (ri_val (xv 0)) (xgn nd) (rss_cons (xset nd (re_bin ov_mul q_mul (xv 1) (xv 2)))
 rss_nil))
 (rss_cons (rs_ret (xv 1))
 rss_nil)))
/-! _law_caught -/
theorem sc__law_caught : FnScope ["look", "caught", "back", "error"] ["look"] (defScope (top 47)) := ⟨rfl, rfl, rfl, by decide +kernel, rfl, by decide +kernel, by decide +kernel⟩
theorem pl__law_caught : Plain (defArgs (top 47)) ["look"] := ⟨rfl, rfl, rfl, rfl, rfl, by decide +kernel⟩
theorem gv__law_caught {X : Cx} {q : Str} {CS : Addr} (mT : X.mg "TrackError" = some (.ref CS)) {g : Addr} (cdv : Value) : Gives X ["look", "caught", "back", "error"] "_law_caught" (defScope (top 47)) g cdv (defBody (top 47)) "look" q (TTA X.K CS) :=
  gives_A (by decide +kernel) rfl rfl rfl rfl mT (fun _ => rfl) (fun _ => rfl) (fun _ => rfl) (fun _ => rfl) rfl rfl rfl rfl rfl rfl
/-! _law_is_right -/
def f__law_is_right : List PV → MH → R PV := runB
 (sSeq (sAsg (mCallOp opTuple (mCons (mComp (mSrc (mVar 2)) (.nm 5) mYes (mCallOp opTuple (mCons (mComp (mSrc (mVar 1)) (.nm 4) mYes (mCall f__law_take (mCons (mVar 0) (mCons (mVar 5) mNil))) [4]) mNil)) [5]) mNil)) (.nm 3))
 (sSeq (sAsg (mTup (mCons (mBin opMul (mLst (mCons (mK (.int 0)) mNil)) (mCallOp opLen (mCons (mVar 1) mNil))) (mCons (mK (.int 1)) mNil))) (.tp (.cons (.nm 6) (.cons (.nm 7) .nil))))
 (sSeq (sFor (mZip2 (mCons (mVar 3) (mCons (mVar 2) mNil))) (.tp (.cons (.nm 8) (.cons (.nm 5) .nil))) (sSeq (sAsg (mTup (mCons (mComp (mZip2 (mCons (mVar 6) (mCons (mVar 8) mNil))) (.tp (.cons (.nm 9) (.cons (.nm 10) .nil))) mYes (mBin opAdd (mVar 9) (mBin opMul (mVar 7) (mVar 10))) [9, 10]) (mCons (mBin opMul (mVar 7) (mVar 5)) mNil))) (.tp (.cons (.nm 6) (.cons (.nm 7) .nil))))
 sNext))
 (sSeq (sAsg (mCallOp opTuple (mCons (mVar 6) mNil)) (.nm 6))
 (sSeq (sIf ((mOrT (mCmpT neD (mCallOp opRepr (mCons (mCall f_codes_of (mCons (mVar 1) (mCons (mVar 3) (mCons (mVar 2) mNil)))) mNil)) (mCallOp opRepr (mCons (mVar 6) mNil))) (mCmpT neD (mCallOp opRepr (mCons (mCall f_dealt (mCons (mVar 1) (mCons (mVar 6) (mCons (mVar 2) mNil)))) mNil)) (mCallOp opRepr (mCons (mVar 3) mNil))))) (sSeq (sRet (mK (.bl false)))
 sNext) sNext)
 (sSeq (sAsg (mCall f__law_ordered (mCons (mVar 6) mNil)) (.nm 11))
 (sSeq (sAsg (mLst (mCons (mCall f_behind (mCons (mVar 1) (mCons (mVar 3) mNil))) (mCons (mCall f_by_codes (mCons (mVar 1) (mCons (mVar 6) mNil))) (mCons (mCall f_do_set (mCons (mVar 1) (mCons (mVar 6) mNil))) mNil)))) (.nm 12))
 (sSeq (sIf ((mOrT (mCmpT neD (mCallOp opRepr (mCons (mVar 12) mNil)) (mCallOp opRepr (mCons (mLst (mCons (mCall f__law_behind (mCons (mVar 1) (mCons (mVar 3) mNil))) (mCons (mVar 11) (mCons (mCall f__law_rise (mCons (mVar 1) (mCons (mVar 11) mNil))) mNil)))) mNil))) (mCmpT neD (mBin opIx (mVar 12) (mK (.int 0))) (mBin opIx (mVar 12) (mK (.int 1)))))) (sSeq (sRet (mK (.bl false)))
 sNext) sNext)
 (sSeq (sIf (mCmpT eqD (mVar 1) (mTup mNil)) (sSeq (sRet (mK (.bl true)))
 sNext) sNext)
 (sSeq (sAsg (mBin opAdd (mSl (mVar 6) mNoPart (mPart (mUn opNeg (mK (.int 1))))) (mTup (mCons (mBin opAdd (mCall f__law_product (mCons (mVar 2) mNil)) (mCall f__law_take (mCons (mVar 0) (mCons (mK (.int 3)) mNil)))) mNil))) (.nm 13))
 (sSeq (sAsg (mBin opIx (mCaughtA (errIn errNames) (mCall f_dealt (mCons (mVar 1) (mCons (mVar 13) (mCons (mVar 2) mNil))))) (mK (.int 0))) (.nm 14))
 (sSeq (sRet ((mAndV (mIsC (errTab errNames errSub "TooGreat") (mVar 14)) (mCmp eqD (mCallOp opRepr (mCons (mFld (errIn errNames) (mVar 14)) mNil)) (mCallOp opRepr (mCons (mBin opIx (mVar 13) (mUn opNeg (mK (.int 1)))) mNil))))))
 sNext)))))))))))) 15
theorem sc__law_is_right : FnScope ["pot", "row", "tracks", "deals", "car", "many", "codes", "times", "deal", "code", "track", "cars", "told", "great", "caught"] ["pot", "row", "tracks"] (defScope (top 48)) := ⟨rfl, rfl, rfl, by decide +kernel, rfl, by decide +kernel, by decide +kernel⟩
theorem pl__law_is_right : Plain (defArgs (top 48)) ["pot", "row", "tracks"] := ⟨rfl, rfl, rfl, rfl, rfl, by decide +kernel⟩
theorem ok__law_is_right {P : Program} {w : World} {K : PySem.W.Frag} {mg : Str → Option Value} {base : Heap} {f : Addr} {fd : FuncData} (F : FnP K "_law_is_right" (top 48) f fd) (hm : mg "_law_is_right" = some (.ref f)) (c__law_take : Cal P w K mg base 7 "_law_take" ["pot", "upto"] f__law_take) (c_codes_of : Cal P w K mg base 7 "codes_of" ["row", "deals", "tracks"] f_codes_of) (c_dealt : Cal P w K mg base 7 "dealt" ["row", "codes", "tracks"] f_dealt) (c__law_ordered : Cal P w K mg base 7 "_law_ordered" ["codes"] f__law_ordered) (c_do_set : Cal P w K mg base 7 "do_set" ["row", "codes"] f_do_set) (c_by_codes : Cal P w K mg base 7 "by_codes" ["row", "codes"] f_by_codes) (c_behind : Cal P w K mg base 7 "behind" ["row", "deals"] f_behind) (c__law_rise : Cal P w K mg base 7 "_law_rise" ["row", "cars"] f__law_rise) (c__law_behind : Cal P w K mg base 7 "_law_behind" ["row", "deals"] f__law_behind) (c__law_product : Cal P w K mg base 7 "_law_product" ["numbers"] f__law_product) (c2_dealt : Cal P w K mg base 5 "dealt" ["row", "codes", "tracks"] f_dealt) {g__law_caught : Addr} {fd__law_caught : FuncData} (F__law_caught : FnP K "_law_caught" (top 47) g__law_caught fd__law_caught) (m__law_caught : mg "_law_caught" = some (.ref g__law_caught)) (S : ErrS P K mg) (hfa : f = He.fAd K ("_law_is_right", none)) (tb : ∀ p ∈ lamDefs.map fun x => He.cT K (x, none), LamX.TabB base mg p.1 p.2) (b_tuple : mg "tuple" = none) (b_len : mg "len" = none) (b_zip : mg "zip" = none) (b_repr : mg "repr" = none) (b_isinstance : mg "isinstance" = none) : Cal P w K mg base 8 "_law_is_right" ["pot", "row", "tracks"] f__law_is_right :=
  cal_ofL F hm hfa sc__law_is_right pl__law_is_right fun A outer s H E hr hg => have nd := sc__law_is_right.nd
 (rss_cons (xset nd (re_callTy (cvn_tuple) q_tuple rfl b_tuple boot_tuple' (xa (xlc [("many", 5)] rfl nd (ri_val (xv 2)) (blkOk_by (by kernel_rfl)) (by decide) (fun _ _ _ _ _ => ⟨(xgn nd), rts_nil, (re_callTy (cvn_tuple) q_tuple rfl b_tuple boot_tuple' (xa (xlc [("car", 4)] rfl nd (ri_val (xv 1)) (blkOk_by (by kernel_rfl)) (by decide) (fun _ _ _ _ _ => ⟨(xgn nd), rts_nil, (re_fn c__law_take hr hg takes0 (xa (xv 0) (xa (xv 5) ra_nil)) (len_cons (len_cons len_nil)))⟩)) ra_nil))⟩)) ra_nil)))
 (rss_cons (xasg (re_tup (xa (re_bin ov_mul q_mul (re_lst (xa (re_int) ra_nil)) (re_callB (cvn_len) q_len rfl b_len boot_len' (xa (xv 1) ra_nil))) (xa (re_int) ra_nil))) (xgt rfl (xgc (xgn nd) (xgc (xgn nd) rgs_nil))))
 (rss_cons (xfor (passes_of rfl) rfl (ri_zip2 rfl b_zip (xa (xv 3) (xa (xv 2) ra_nil)) rfl rfl) (xgt rfl (xgc (xgn nd) (xgc (xgn nd) rgs_nil))) (rss_cons (xasg (re_tup (xa (xlc [("code", 9), ("track", 10)] rfl nd (ri_zip2 rfl b_zip (xa (xv 6) (xa (xv 8) ra_nil)) rfl rfl) (blkOk_by (by kernel_rfl)) (by decide) (fun _ _ _ _ _ => ⟨(xgt rfl (xgc (xgn nd) (xgc (xgn nd) rgs_nil))), rts_nil, (re_bin ov_add q_add (xv 9) (re_bin ov_mul q_mul (xv 7) (xv 10)))⟩)) (xa (re_bin ov_mul q_mul (xv 7) (xv 5)) ra_nil))) (xgt rfl (xgc (xgn nd) (xgc (xgn nd) rgs_nil))))
 rss_nil))
 (rss_cons (xset nd (re_callTy (cvn_tuple) q_tuple rfl b_tuple boot_tuple' (xa (xv 6) ra_nil)))
 (rss_cons (rs_if (PW.pt (rw_or (rt_cmp (cv_ne hr.units) (re_callB (cvn_repr hg (room_128 hr)) q_repr rfl b_repr boot_repr' (xa (re_fn c_codes_of hr hg (takes_of rfl rfl rfl rfl) (xa (xv 1) (xa (xv 3) (xa (xv 2) ra_nil))) (len_cons (len_cons (len_cons len_nil)))) ra_nil)) (re_callB (cvn_repr hg (room_128 hr)) q_repr rfl b_repr boot_repr' (xa (xv 6) ra_nil)) (nomark _)) (rw_or1 (rt_cmp (cv_ne hr.units) (re_callB (cvn_repr hg (room_128 hr)) q_repr rfl b_repr boot_repr' (xa (re_fn c_dealt hr hg (takes_of rfl rfl rfl rfl) (xa (xv 1) (xa (xv 6) (xa (xv 2) ra_nil))) (len_cons (len_cons (len_cons len_nil)))) ra_nil)) (re_callB (cvn_repr hg (room_128 hr)) q_repr rfl b_repr boot_repr' (xa (xv 3) ra_nil)) (nomark _))))) (rss_cons (rs_ret (re_bl))
 rss_nil) rss_nil)
 (rss_cons (xset nd (re_fn c__law_ordered hr hg (takes_of rfl rfl rfl rfl) (xa (xv 6) ra_nil) (len_cons len_nil)))
 (rss_cons (xset nd (re_lst (xa (re_fn c_behind hr hg (takes_of rfl rfl rfl rfl) (xa (xv 1) (xa (xv 3) ra_nil)) (len_cons (len_cons len_nil))) (xa (re_fn c_by_codes hr hg (takes_of rfl rfl rfl rfl) (xa (xv 1) (xa (xv 6) ra_nil)) (len_cons (len_cons len_nil))) (xa (re_fn c_do_set hr hg (takes_of rfl rfl rfl rfl) (xa (xv 1) (xa (xv 6) ra_nil)) (len_cons (len_cons len_nil))) ra_nil)))))
 (rss_cons (rs_if (PW.pt (rw_or (rt_cmp (cv_ne hr.units) (re_callB (cvn_repr hg (room_128 hr)) q_repr rfl b_repr boot_repr' (xa (xv 12) ra_nil)) (re_callB (cvn_repr hg (room_128 hr)) q_repr rfl b_repr boot_repr' (xa (re_lst (xa (re_fn c__law_behind hr hg (takes_of rfl rfl rfl rfl) (xa (xv 1) (xa (xv 3) ra_nil)) (len_cons (len_cons len_nil))) (xa (xv 11) (xa (re_fn c__law_rise hr hg (takes_of rfl rfl rfl rfl) (xa (xv 1) (xa (xv 11) ra_nil)) (len_cons (len_cons len_nil))) ra_nil)))) ra_nil)) (nomark _)) (rw_or1 (rt_cmp (cv_ne hr.units) (xix (xv 12) (re_int)) (xix (xv 12) (re_int)) (nomark _))))) (rss_cons (rs_ret (re_bl))
 rss_nil) rss_nil)
 (rss_cons (rs_if (rt_cmp (cv_eq hr.units) (xv 1) (re_tup ra_nil) (nomark _)) (rss_cons (rs_ret (re_bl))
 rss_nil) rss_nil)
 (rss_cons (xset nd (re_bin ov_add q_add (re_sl (xv 6) ro_none (ro_some (re_un uv_neg q_neg (re_int)))) (re_tup (xa (re_bin ov_add q_add (re_fn c__law_product hr hg (takes_of rfl rfl rfl rfl) (xa (xv 2) ra_nil) (len_cons len_nil)) (re_fn c__law_take hr hg (takes_of rfl rfl rfl rfl) (xa (xv 0) (xa (re_int) ra_nil)) (len_cons (len_cons len_nil)))) ra_nil))))
 (rss_cons (xset nd (xix (re_caughtA (k := 5) (CS := He.ga K "TrackError") m__law_caught F__law_caught pl__law_caught sc__law_caught (gv__law_caught S.root) S.cau (host_by (by decide) tb S.one rfl) hr hg (LamX.lamS_by rfl) (fun _ _ _ _ _ _ _ hr2 hg2 => (re_fn c2_dealt hr2 hg2 (takes_of rfl rfl rfl rfl) (xa (xv 1) (xa (xv 13) (xa (xv 2) ra_nil))) (len_cons (len_cons (len_cons len_nil)))))) (re_int)))
 (rss_cons (rs_ret ((re_and (re_isC b_isinstance boot_isinstance' (S.mg_ _ (by decide)) (S.er _ (by decide)).no (S.isc (by decide)) (xv 14)) (re_one (re_cmp (cv_eq hr.units) (re_callB (cvn_repr hg (room_128 hr)) q_repr rfl b_repr boot_repr' (xa (re_fld S.fld (xv 14)) ra_nil)) (re_callB (cvn_repr hg (room_128 hr)) q_repr rfl b_repr boot_repr' (xa (xix (xv 13) (re_un uv_neg q_neg (re_int))) ra_nil)) (nomark _))))))
 rss_nil))))))))))))
/-! _law_is_free_right -/
def f__law_is_free_right : List PV → MH → R PV := runB
 (sSeq (sAsg (mCallOp opTuple (mCons (mComp (mRange (mCons (mCall f__law_take (mCons (mVar 0) (mCons (mK (.int 5)) mNil))) mNil)) (.nm 4) mYes (mCallOp opTuple (mCons (mComp (mSrc (mVar 1)) (.nm 3) mYes (mCall f__law_of (mCons (mVar 0) (mCons (mLst (mCons (mK (.int 0)) (mCons (mK (.int 1)) (mCons (mK (.int 3)) (mCons (mK (.int 29)) mNil))))) mNil))) [3]) mNil)) [4]) mNil)) (.nm 2))
 (sSeq (sAsg (mCallOp opTuple (mCons (mComp (mSrc (mVar 1)) (.nm 3) mYes (mCall f__law_of (mCons (mVar 0) (mCons (mLst (mCons (mK (.int 0)) (mCons (mK (.int 1)) (mCons (mK (.int 2)) (mCons (mBin opPow (mK (.int 10)) (mK (.int 11))) mNil))))) mNil))) [3]) mNil)) (.nm 5))
 (sSeq (sIf ((mOrT (mCmpT neD (mCallOp opRepr (mCons (mCall f_behind (mCons (mVar 1) (mCons (mVar 2) mNil))) mNil)) (mCallOp opRepr (mCons (mCall f__law_behind (mCons (mVar 1) (mCons (mVar 2) mNil))) mNil))) (mCmpT neD (mCallOp opRepr (mCons (mCall f_by_codes (mCons (mVar 1) (mCons (mVar 5) mNil))) mNil)) (mCallOp opRepr (mCons (mCall f__law_ordered (mCons (mVar 5) mNil)) mNil))))) (sSeq (sRet (mK (.bl false)))
 sNext) sNext)
 (sSeq (sRet (mCmp eqD (mCallOp opRepr (mCons (mCall f_do_set (mCons (mVar 1) (mCons (mVar 5) mNil))) mNil)) (mCallOp opRepr (mCons (mCall f__law_rise (mCons (mVar 1) (mCons (mCall f__law_ordered (mCons (mVar 5) mNil)) mNil))) mNil))))
 sNext)))) 6
theorem sc__law_is_free_right : FnScope ["pot", "row", "deals", "car", "lap", "codes"] ["pot", "row"] (defScope (top 49)) := ⟨rfl, rfl, rfl, by decide +kernel, rfl, by decide +kernel, by decide +kernel⟩
theorem pl__law_is_free_right : Plain (defArgs (top 49)) ["pot", "row"] := ⟨rfl, rfl, rfl, rfl, rfl, by decide +kernel⟩
theorem ok__law_is_free_right {P : Program} {w : World} {K : PySem.W.Frag} {mg : Str → Option Value} {base : Heap} {f : Addr} {fd : FuncData} (F : FnP K "_law_is_free_right" (top 49) f fd) (hm : mg "_law_is_free_right" = some (.ref f)) (c__law_take : Cal P w K mg base 5 "_law_take" ["pot", "upto"] f__law_take) (c__law_of : Cal P w K mg base 5 "_law_of" ["pot", "some"] f__law_of) (c_behind : Cal P w K mg base 5 "behind" ["row", "deals"] f_behind) (c__law_behind : Cal P w K mg base 5 "_law_behind" ["row", "deals"] f__law_behind) (c_by_codes : Cal P w K mg base 5 "by_codes" ["row", "codes"] f_by_codes) (c__law_ordered : Cal P w K mg base 5 "_law_ordered" ["codes"] f__law_ordered) (c_do_set : Cal P w K mg base 5 "do_set" ["row", "codes"] f_do_set) (c__law_rise : Cal P w K mg base 5 "_law_rise" ["row", "cars"] f__law_rise) (b_range : mg "range" = none) (b_tuple : mg "tuple" = none) (b_repr : mg "repr" = none) : Cal P w K mg base 6 "_law_is_free_right" ["pot", "row"] f__law_is_free_right :=
  cal_of F hm sc__law_is_free_right pl__law_is_free_right fun cdv A outer s H E hr hg => have nd := sc__law_is_free_right.nd
 (rss_cons (xset nd (re_callTy (cvn_tuple) q_tuple rfl b_tuple boot_tuple' (xa (xlc [("lap", 4)] rfl nd (ri_range1 rfl b_range (xa (re_fn c__law_take hr hg (takes_of rfl rfl rfl rfl) (xa (xv 0) (xa (re_int) ra_nil)) (len_cons (len_cons len_nil))) ra_nil) rfl (len_cons len_nil)) (blkOk_by (by kernel_rfl)) (by decide) (fun _ _ _ _ _ => ⟨(xgn nd), rts_nil, (re_callTy (cvn_tuple) q_tuple rfl b_tuple boot_tuple' (xa (xlc [("car", 3)] rfl nd (ri_val (xv 1)) (blkOk_by (by kernel_rfl)) (by decide) (fun _ _ _ _ _ => ⟨(xgn nd), rts_nil, (re_fn c__law_of hr hg takes0 (xa (xv 0) (xa (re_lst (xa (re_int) (xa (re_int) (xa (re_int) (xa (re_int) ra_nil))))) ra_nil)) (len_cons (len_cons len_nil)))⟩)) ra_nil))⟩)) ra_nil)))
 (rss_cons (xset nd (re_callTy (cvn_tuple) q_tuple rfl b_tuple boot_tuple' (xa (xlc [("car", 3)] rfl nd (ri_val (xv 1)) (blkOk_by (by kernel_rfl)) (by decide) (fun _ _ _ _ _ => ⟨(xgn nd), rts_nil, (re_fn c__law_of hr hg takes0 (xa (xv 0) (xa (re_lst (xa (re_int) (xa (re_int) (xa (re_int) (xa (re_bin ov_pow q_pow (re_int) (re_int)) ra_nil))))) ra_nil)) (len_cons (len_cons len_nil)))⟩)) ra_nil)))
 (rss_cons (rs_if (PW.pt (rw_or (rt_cmp (cv_ne hr.units) (re_callB (cvn_repr hg (room_128 hr)) q_repr rfl b_repr boot_repr' (xa (re_fn c_behind hr hg (takes_of rfl rfl rfl rfl) (xa (xv 1) (xa (xv 2) ra_nil)) (len_cons (len_cons len_nil))) ra_nil)) (re_callB (cvn_repr hg (room_128 hr)) q_repr rfl b_repr boot_repr' (xa (re_fn c__law_behind hr hg (takes_of rfl rfl rfl rfl) (xa (xv 1) (xa (xv 2) ra_nil)) (len_cons (len_cons len_nil))) ra_nil)) (nomark _)) (rw_or1 (rt_cmp (cv_ne hr.units) (re_callB (cvn_repr hg (room_128 hr)) q_repr rfl b_repr boot_repr' (xa (re_fn c_by_codes hr hg (takes_of rfl rfl rfl rfl) (xa (xv 1) (xa (xv 5) ra_nil)) (len_cons (len_cons len_nil))) ra_nil)) (re_callB (cvn_repr hg (room_128 hr)) q_repr rfl b_repr boot_repr' (xa (re_fn c__law_ordered hr hg (takes_of rfl rfl rfl rfl) (xa (xv 5) ra_nil) (len_cons len_nil)) ra_nil)) (nomark _))))) (rss_cons (rs_ret (re_bl))
 rss_nil) rss_nil)
 (rss_cons (rs_ret (re_cmp (cv_eq hr.units) (re_callB (cvn_repr hg (room_128 hr)) q_repr rfl b_repr boot_repr' (xa (re_fn c_do_set hr hg (takes_of rfl rfl rfl rfl) (xa (xv 1) (xa (xv 5) ra_nil)) (len_cons (len_cons len_nil))) ra_nil)) (re_callB (cvn_repr hg (room_128 hr)) q_repr rfl b_repr boot_repr' (xa (re_fn c__law_rise hr hg (takes_of rfl rfl rfl rfl) (xa (xv 1) (xa (re_fn c__law_ordered hr hg (takes_of rfl rfl rfl rfl) (xa (xv 5) ra_nil) (len_cons len_nil)) ra_nil)) (len_cons (len_cons len_nil))) ra_nil)) (nomark _)))
 rss_nil))))
/-! law -/
def f_law : List PV → MH → R PV := runB
 (sSeq (sFor (mSrc (mCall f__law_cells (mCons (mVar 0) (mCons (mK (.int 3)) mNil)))) (.nm 1) (sSeq (sAsg (mCall f__law_pot (mCons (mVar 0) (mCons (mVar 1) mNil))) (.nm 2))
 (sSeq (sFor (mRange (mCons (mK (.int 2)) mNil)) (.nm 3) (sSeq (sAsg (mCall f__law_row (mCons (mVar 2) (mCons (mK (.int 8)) (mCons (mCall f__law_of (mCons (mVar 2) (mCons (mLst (mCons (mK (.int 2)) (mCons (mK (.int 8)) mNil))) mNil))) mNil)))) (.nm 4))
 (sSeq (sAsg (mCallOp opTuple (mCons (mComp (mRange (mCons (mCall f__law_take (mCons (mVar 2) (mCons (mK (.int 5)) mNil))) mNil)) (.nm 6) mYes (mBin opAdd (mK (.int 1)) (mCall f__law_take (mCons (mVar 2) (mCons (mK (.int 4)) mNil)))) [6]) mNil)) (.nm 5))
 (sSeq (sIf ((mOrT (mNotT (mTest (mCall f__law_is_right (mCons (mVar 2) (mCons (mVar 4) (mCons (mVar 5) mNil)))))) (mNotT (mTest (mCall f__law_is_free_right (mCons (mVar 2) (mCons (mVar 4) mNil))))))) (sSeq (sRet (mK (.bl false)))
 sNext) sNext)
 sNext))))
 (sSeq (sAsg (mCallOp opTuple (mCons (mComp (mRange (mCons (mK (.int 30)) mNil)) (.nm 7) mYes (mBin opAdd (mK (.int 1)) (mCall f__law_take (mCons (mVar 2) (mCons (mK (.int 99)) mNil)))) [7]) mNil)) (.nm 4))
 (sSeq (sIf (mNotT (mTest (mCall f__law_is_right (mCons (mVar 2) (mCons (mVar 4) (mCons (mCallOp opTuple (mCons (mComp (mRange (mCons (mK (.int 8)) mNil)) (.nm 6) mYes (mCall f__law_of (mCons (mVar 2) (mCons (mLst (mCons (mK (.int 2)) (mCons (mK (.int 30)) mNil))) mNil))) [6]) mNil)) mNil)))))) (sSeq (sRet (mK (.bl false)))
 sNext) sNext)
 sNext)))))
 (sSeq (sRet (mK (.bl true)))
 sNext)) 8
theorem sc_law : FnScope ["script", "place", "pot", "lap", "row", "tracks", "one", "car"] ["script"] (defScope (top 50)) := ⟨rfl, rfl, rfl, by decide +kernel, rfl, by decide +kernel, by decide +kernel⟩
theorem pl_law : Plain (defArgs (top 50)) ["script"] := ⟨rfl, rfl, rfl, rfl, rfl, by decide +kernel⟩
theorem ok_law {P : Program} {w : World} {K : PySem.W.Frag} {mg : Str → Option Value} {base : Heap} {f : Addr} {fd : FuncData} (F : FnP K "law" (top 50) f fd) (hm : mg "law" = some (.ref f)) (c__law_cells : Cal P w K mg base 8 "_law_cells" ["script", "most"] f__law_cells) (c__law_pot : Cal P w K mg base 8 "_law_pot" ["script", "place"] f__law_pot) (c__law_of : Cal P w K mg base 8 "_law_of" ["pot", "some"] f__law_of) (c__law_row : Cal P w K mg base 8 "_law_row" ["pot", "most", "wide"] f__law_row) (c__law_take : Cal P w K mg base 8 "_law_take" ["pot", "upto"] f__law_take) (c__law_is_right : Cal P w K mg base 8 "_law_is_right" ["pot", "row", "tracks"] f__law_is_right) (c__law_is_free_right : Cal P w K mg base 8 "_law_is_free_right" ["pot", "row"] f__law_is_free_right) (b_range : mg "range" = none) (b_tuple : mg "tuple" = none) : FnG P w K mg base 9 f fd ["script"] (spE ⟨K, w, P⟩ 1 f_law) :=
  fng_fd F sc_law fun cdv A outer s H E hr hg => have nd := sc_law.nd
 (rss_cons (xfor (passes_of rfl) rfl (ri_val (re_fn c__law_cells hr hg (takes_of rfl rfl rfl rfl) (xa (xv 0) (xa (re_int) ra_nil)) (len_cons (len_cons len_nil)))) (xgn nd) (rss_cons (xset nd (re_fn c__law_pot hr hg (takes_of rfl rfl rfl rfl) (xa (xv 0) (xa (xv 1) ra_nil)) (len_cons (len_cons len_nil))))
 (rss_cons (xfor (passes_of rfl) rfl (ri_range1 rfl b_range (xa (re_int) ra_nil) rfl (len_cons len_nil)) (xgn nd) (rss_cons (xset nd (re_fn c__law_row hr hg (takes_of rfl rfl rfl rfl) (xa (xv 2) (xa (re_int) (xa (re_fn c__law_of hr hg (takes_of rfl rfl rfl rfl) (xa (xv 2) (xa (re_lst (xa (re_int) (xa (re_int) ra_nil))) ra_nil)) (len_cons (len_cons len_nil))) ra_nil))) (len_cons (len_cons (len_cons len_nil)))))
 (rss_cons (xset nd (re_callTy (cvn_tuple) q_tuple rfl b_tuple boot_tuple' (xa (xlc [("one", 6)] rfl nd (ri_range1 rfl b_range (xa (re_fn c__law_take hr hg (takes_of rfl rfl rfl rfl) (xa (xv 2) (xa (re_int) ra_nil)) (len_cons (len_cons len_nil))) ra_nil) rfl (len_cons len_nil)) (blkOk_by (by kernel_rfl)) (by decide) (fun _ _ _ _ _ => ⟨(xgn nd), rts_nil, (re_bin ov_add q_add (re_int) (re_fn c__law_take hr hg takes0 (xa (xv 2) (xa (re_int) ra_nil)) (len_cons (len_cons len_nil))))⟩)) ra_nil)))
 (rss_cons (rs_if (PW.pt (rw_or (rt_not (xtv (re_fn c__law_is_right hr hg (takes_of rfl rfl rfl rfl) (xa (xv 2) (xa (xv 4) (xa (xv 5) ra_nil))) (len_cons (len_cons (len_cons len_nil)))))) (rw_or1 (rt_not (xtv (re_fn c__law_is_free_right hr hg (takes_of rfl rfl rfl rfl) (xa (xv 2) (xa (xv 4) ra_nil)) (len_cons (len_cons len_nil)))))))) (rss_cons (rs_ret (re_bl))
 rss_nil) rss_nil)
 rss_nil))))
 (rss_cons (xset nd (re_callTy (cvn_tuple) q_tuple rfl b_tuple boot_tuple' (xa (xlc [("car", 7)] rfl nd (ri_range1 rfl b_range (xa (re_int) ra_nil) rfl (len_cons len_nil)) (blkOk_by (by kernel_rfl)) (by decide) (fun _ _ _ _ _ => ⟨(xgn nd), rts_nil, (re_bin ov_add q_add (re_int) (re_fn c__law_take hr hg takes0 (xa (xv 2) (xa (re_int) ra_nil)) (len_cons (len_cons len_nil))))⟩)) ra_nil)))
 (rss_cons (rs_if (rt_not (xtv (re_fn c__law_is_right hr hg (takes_of rfl rfl rfl rfl) (xa (xv 2) (xa (xv 4) (xa (re_callTy (cvn_tuple) q_tuple rfl b_tuple boot_tuple' (xa (xlc [("one", 6)] rfl nd (ri_range1 rfl b_range (xa (re_int) ra_nil) rfl (len_cons len_nil)) (blkOk_by (by kernel_rfl)) (by decide) (fun _ _ _ _ _ => ⟨(xgn nd), rts_nil, (re_fn c__law_of hr hg takes0 (xa (xv 2) (xa (re_lst (xa (re_int) (xa (re_int) ra_nil))) ra_nil)) (len_cons (len_cons len_nil)))⟩)) ra_nil)) ra_nil))) (len_cons (len_cons (len_cons len_nil)))))) (rss_cons (rs_ret (re_bl))
 rss_nil) rss_nil)
 rss_nil)))))
 (rss_cons (rs_ret (re_bl))
 rss_nil))
/-! the head -/
def d_is_integer : He.DefD := ⟨("is_integer", none), "is_integer", "is_integer", defArgs (top 8), defBody (top 8), defScope (top 8), [], []⟩
def d_is_between : He.DefD := ⟨("is_between", none), "is_between", "is_between", defArgs (top 9), defBody (top 9), defScope (top 9), [], []⟩
def d_is_row : He.DefD := ⟨("is_row", none), "is_row", "is_row", defArgs (top 13), defBody (top 13), defScope (top 13), [], []⟩
def d_check_row : He.DefD := ⟨("check_row", none), "check_row", "check_row", defArgs (top 14), defBody (top 14), defScope (top 14), [], []⟩
def d_product : He.DefD := ⟨("product", none), "product", "product", defArgs (top 16), defBody (top 16), defScope (top 16), [], []⟩
def d_are_codes : He.DefD := ⟨("are_codes", none), "are_codes", "are_codes", defArgs (top 18), defBody (top 18), defScope (top 18), [], []⟩
def d_check_codes : He.DefD := ⟨("check_codes", none), "check_codes", "check_codes", defArgs (top 19), defBody (top 19), defScope (top 19), [], []⟩
def d_ordered : He.DefD := ⟨("ordered", none), "ordered", "ordered", defArgs (top 20), defBody (top 20), defScope (top 20), [], []⟩
def d_is_in_order : He.DefD := ⟨("is_in_order", none), "is_in_order", "is_in_order", defArgs (top 21), defBody (top 21), defScope (top 21), [], []⟩
def d_are_deals : He.DefD := ⟨("are_deals", none), "are_deals", "are_deals", defArgs (top 25), defBody (top 25), defScope (top 25), [], []⟩
def d_check_deals : He.DefD := ⟨("check_deals", none), "check_deals", "check_deals", defArgs (top 26), defBody (top 26), defScope (top 26), [], []⟩
def d_check_tracks : He.DefD := ⟨("check_tracks", none), "check_tracks", "check_tracks", defArgs (top 27), defBody (top 27), defScope (top 27), [], []⟩
def d_are_below : He.DefD := ⟨("are_below", none), "are_below", "are_below", defArgs (top 28), defBody (top 28), defScope (top 28), [], []⟩
def d_pulled : He.DefD := ⟨("pulled", none), "pulled", "pulled", defArgs (top 29), defBody (top 29), defScope (top 29), [], []⟩
def d_behind_all : He.DefD := ⟨("behind_all", none), "behind_all", "behind_all", defArgs (top 30), defBody (top 30), defScope (top 30), [], []⟩
def d_behind : He.DefD := ⟨("behind", none), "behind", "behind", defArgs (top 31), defBody (top 31), defScope (top 31), [], []⟩
def d_by_codes : He.DefD := ⟨("by_codes", none), "by_codes", "by_codes", defArgs (top 32), defBody (top 32), defScope (top 32), [], []⟩
def d_do_set : He.DefD := ⟨("do_set", none), "do_set", "do_set", defArgs (top 33), defBody (top 33), defScope (top 33), [], []⟩
def d_figures : He.DefD := ⟨("figures", none), "figures", "figures", defArgs (top 34), defBody (top 34), defScope (top 34), [], []⟩
def d_dealt : He.DefD := ⟨("dealt", none), "dealt", "dealt", defArgs (top 35), defBody (top 35), defScope (top 35), [], []⟩
def d_codes_of : He.DefD := ⟨("codes_of", none), "codes_of", "codes_of", defArgs (top 36), defBody (top 36), defScope (top 36), [], []⟩
def d__law_pot : He.DefD := ⟨("_law_pot", none), "_law_pot", "_law_pot", defArgs (top 38), defBody (top 38), defScope (top 38), [], []⟩
def d__law_take : He.DefD := ⟨("_law_take", none), "_law_take", "_law_take", defArgs (top 39), defBody (top 39), defScope (top 39), [], []⟩
def d__law_of : He.DefD := ⟨("_law_of", none), "_law_of", "_law_of", defArgs (top 40), defBody (top 40), defScope (top 40), [], []⟩
def d__law_cells : He.DefD := ⟨("_law_cells", none), "_law_cells", "_law_cells", defArgs (top 41), defBody (top 41), defScope (top 41), [], []⟩
def d__law_row : He.DefD := ⟨("_law_row", none), "_law_row", "_law_row", defArgs (top 42), defBody (top 42), defScope (top 42), [], []⟩
def d__law_ordered : He.DefD := ⟨("_law_ordered", none), "_law_ordered", "_law_ordered", defArgs (top 43), defBody (top 43), defScope (top 43), [], []⟩
def d__law_rise : He.DefD := ⟨("_law_rise", none), "_law_rise", "_law_rise", defArgs (top 44), defBody (top 44), defScope (top 44), [], []⟩
def d__law_behind : He.DefD := ⟨("_law_behind", none), "_law_behind", "_law_behind", defArgs (top 45), defBody (top 45), defScope (top 45), [], []⟩
def d__law_product : He.DefD := ⟨("_law_product", none), "_law_product", "_law_product", defArgs (top 46), defBody (top 46), defScope (top 46), [], []⟩
def d__law_caught : He.DefD := ⟨("_law_caught", none), "_law_caught", "_law_caught", defArgs (top 47), defBody (top 47), defScope (top 47), [], []⟩
def d__law_is_right : He.DefD := ⟨("_law_is_right", none), "_law_is_right", "_law_is_right", defArgs (top 48), defBody (top 48), defScope (top 48), [], []⟩
def d__law_is_free_right : He.DefD := ⟨("_law_is_free_right", none), "_law_is_free_right", "_law_is_free_right", defArgs (top 49), defBody (top 49), defScope (top 49), [], []⟩
def d_law : He.DefD := ⟨("law", none), "law", "law", defArgs (top 50), defBody (top 50), defScope (top 50), [], []⟩
def fn : List He.DefD := [d_is_integer, d_is_between, d_is_row, d_check_row, d_product, d_are_codes, d_check_codes, d_ordered, d_is_in_order, d_are_deals, d_check_deals, d_check_tracks, d_are_below, d_pulled, d_behind_all, d_behind, d_by_codes, d_do_set, d_figures, d_dealt, d_codes_of, d__law_pot, d__law_take, d__law_of, d__law_cells, d__law_row, d__law_ordered, d__law_rise, d__law_behind, d__law_product, d__law_caught, d__law_is_right, d__law_is_free_right, d_law]
def fa : List He.Fa := [.glo "is_integer", .glo "is_between", .glo "is_row", .glo "check_row", .glo "product", .glo "are_codes", .glo "check_codes", .glo "ordered", .glo "is_in_order", .glo "are_deals", .glo "check_deals", .glo "check_tracks", .glo "are_below", .glo "pulled", .glo "behind_all", .glo "behind", .glo "by_codes", .glo "do_set", .glo "figures", .glo "dealt", .glo "codes_of", .glo "_law_pot", .glo "_law_take", .glo "_law_of", .glo "_law_cells", .glo "_law_row", .glo "_law_ordered", .glo "_law_rise", .glo "_law_behind", .glo "_law_product", .glo "_law_caught", .glo "_law_is_right", .glo "_law_is_free_right", .glo "law", .glo "TrackError", .glo "BadCodes", .glo "BadDeals", .glo "BadRow", .glo "BadTracks", .glo "TooGreat", .free "super", .free "isinstance", .free "int", .free "bool", .free "tuple", .free "len", .free "all", .free "range", .free "sorted", .free "zip", .free "set", .free "list", .free "max", .free "sum", .free "abs", .free "min", .free "repr", .int "MOST_CARS" 30, .int "MOST_NUMBER" 99, .int "MOST_PASSES" 8, .int "MOST_TRACKS" 30]
abbrev R : PySem.W.OpenRow := PySem.W.OpenLaw.row PySem.Challenge.rw_tracksenough_k49_whole_passes_and_codes
def file : Str := (R.prog).main.file
def ie : FnI := some (("__init__" : Str), ("TrackError.__init__" : Str), defArgs initDef, FuncBody.stmts ip.body, defScope initDef, mainGlobals, [("__class__" : Str)], builtinsNs)
def ex : PySem.W.Frag → Bool := errEx errNames errSub file
abbrev hk : PySem.W.Hook := hookL 4 fa fn ie ex
def ob (s : PySem.W.SharedT) : AlL := obsL 4 fa fn ex (HandSHeadRun.getT s)
theorem ob_eq (s : PySem.W.SharedT) : ob s = hk.obs s.abs := obsL_eq (HandSHeadRun.getT_eq s)
def names : List PySem.Str := (["TrackError", "BadCodes", "BadDeals", "BadRow", "BadTracks", "TooGreat", "is_integer", "is_between", "MOST_CARS", "MOST_NUMBER", "is_row", "check_row", "product", "are_codes", "check_codes", "ordered", "is_in_order", "MOST_TRACKS", "MOST_PASSES", "are_deals", "check_deals", "check_tracks", "are_below", "pulled", "behind_all", "behind", "by_codes", "do_set", "figures", "dealt", "codes_of", "_law_pot", "_law_take", "_law_of", "_law_cells", "_law_row", "_law_ordered", "_law_rise", "_law_behind", "_law_product", "_law_caught", "_law_is_right", "_law_is_free_right"] : List String).map Str.ofString
theorem run (w : World) : HandSHeadRun.RunEq R (PySem.W.view R.prog [50]) hk ob 4000 names w := by
  intro os
  kernel_rfl
theorem facts {P : Program} {w : World} {K : PySem.W.Frag} {h : Heap} {mg : Str → Option Value} {f : Addr} (X : K.In h) (G : h.Ns mainGlobals mg) (hfa : mg "law" = some (.ref f)) (c : SaysL fa fn ie ex h K) (hf : P.main.file = R.prog.main.file) (top_ : (P.main.scope.names.lookup ("super" : Str)).isSome = false) :
    ∃ fd : FuncData, (∀ (s : Shared) (u : Value), BindsTo s fd ⟨[u], []⟩ [("script", u)]) ∧ ∀ bs : Heap, K.In bs → bs.Ns mainGlobals mg → (∀ p ∈ lamDefs.map fun x => He.cT K (x, none), LamX.TabB bs mg p.1 p.2) → FnG P w K mg bs 9 f fd ["script"] (spE ⟨K, w, P⟩ 1 f_law) := by
  obtain ⟨fd_is_integer, F_is_integer⟩ := c.d.def_ 0 (d := d_is_integer) rfl
  obtain ⟨fd_is_between, F_is_between⟩ := c.d.def_ 1 (d := d_is_between) rfl
  obtain ⟨fd_is_row, F_is_row⟩ := c.d.def_ 2 (d := d_is_row) rfl
  obtain ⟨fd_check_row, F_check_row⟩ := c.d.def_ 3 (d := d_check_row) rfl
  obtain ⟨fd_product, F_product⟩ := c.d.def_ 4 (d := d_product) rfl
  obtain ⟨fd_are_codes, F_are_codes⟩ := c.d.def_ 5 (d := d_are_codes) rfl
  obtain ⟨fd_check_codes, F_check_codes⟩ := c.d.def_ 6 (d := d_check_codes) rfl
  obtain ⟨fd_ordered, F_ordered⟩ := c.d.def_ 7 (d := d_ordered) rfl
  obtain ⟨fd_is_in_order, F_is_in_order⟩ := c.d.def_ 8 (d := d_is_in_order) rfl
  obtain ⟨fd_are_deals, F_are_deals⟩ := c.d.def_ 9 (d := d_are_deals) rfl
  obtain ⟨fd_check_deals, F_check_deals⟩ := c.d.def_ 10 (d := d_check_deals) rfl
  obtain ⟨fd_check_tracks, F_check_tracks⟩ := c.d.def_ 11 (d := d_check_tracks) rfl
  obtain ⟨fd_are_below, F_are_below⟩ := c.d.def_ 12 (d := d_are_below) rfl
  obtain ⟨fd_pulled, F_pulled⟩ := c.d.def_ 13 (d := d_pulled) rfl
  obtain ⟨fd_behind_all, F_behind_all⟩ := c.d.def_ 14 (d := d_behind_all) rfl
  obtain ⟨fd_behind, F_behind⟩ := c.d.def_ 15 (d := d_behind) rfl
  obtain ⟨fd_by_codes, F_by_codes⟩ := c.d.def_ 16 (d := d_by_codes) rfl
  obtain ⟨fd_do_set, F_do_set⟩ := c.d.def_ 17 (d := d_do_set) rfl
  obtain ⟨fd_figures, F_figures⟩ := c.d.def_ 18 (d := d_figures) rfl
  obtain ⟨fd_dealt, F_dealt⟩ := c.d.def_ 19 (d := d_dealt) rfl
  obtain ⟨fd_codes_of, F_codes_of⟩ := c.d.def_ 20 (d := d_codes_of) rfl
  obtain ⟨fd__law_pot, F__law_pot⟩ := c.d.def_ 21 (d := d__law_pot) rfl
  obtain ⟨fd__law_take, F__law_take⟩ := c.d.def_ 22 (d := d__law_take) rfl
  obtain ⟨fd__law_of, F__law_of⟩ := c.d.def_ 23 (d := d__law_of) rfl
  obtain ⟨fd__law_cells, F__law_cells⟩ := c.d.def_ 24 (d := d__law_cells) rfl
  obtain ⟨fd__law_row, F__law_row⟩ := c.d.def_ 25 (d := d__law_row) rfl
  obtain ⟨fd__law_ordered, F__law_ordered⟩ := c.d.def_ 26 (d := d__law_ordered) rfl
  obtain ⟨fd__law_rise, F__law_rise⟩ := c.d.def_ 27 (d := d__law_rise) rfl
  obtain ⟨fd__law_behind, F__law_behind⟩ := c.d.def_ 28 (d := d__law_behind) rfl
  obtain ⟨fd__law_product, F__law_product⟩ := c.d.def_ 29 (d := d__law_product) rfl
  obtain ⟨fd__law_caught, F__law_caught⟩ := c.d.def_ 30 (d := d__law_caught) rfl
  obtain ⟨fd__law_is_right, F__law_is_right⟩ := c.d.def_ 31 (d := d__law_is_right) rfl
  obtain ⟨fd__law_is_free_right, F__law_is_free_right⟩ := c.d.def_ 32 (d := d__law_is_free_right) rfl
  obtain ⟨fd_law, F_law⟩ := c.d.def_ 33 (d := d_law) rfl
  have g_is_integer := He.glo_ok X G (c.d.fact 0 (f := .glo "is_integer") rfl)
  have g_is_between := He.glo_ok X G (c.d.fact 1 (f := .glo "is_between") rfl)
  have g_is_row := He.glo_ok X G (c.d.fact 2 (f := .glo "is_row") rfl)
  have g_check_row := He.glo_ok X G (c.d.fact 3 (f := .glo "check_row") rfl)
  have g_product := He.glo_ok X G (c.d.fact 4 (f := .glo "product") rfl)
  have g_are_codes := He.glo_ok X G (c.d.fact 5 (f := .glo "are_codes") rfl)
  have g_check_codes := He.glo_ok X G (c.d.fact 6 (f := .glo "check_codes") rfl)
  have g_ordered := He.glo_ok X G (c.d.fact 7 (f := .glo "ordered") rfl)
  have g_is_in_order := He.glo_ok X G (c.d.fact 8 (f := .glo "is_in_order") rfl)
  have g_are_deals := He.glo_ok X G (c.d.fact 9 (f := .glo "are_deals") rfl)
  have g_check_deals := He.glo_ok X G (c.d.fact 10 (f := .glo "check_deals") rfl)
  have g_check_tracks := He.glo_ok X G (c.d.fact 11 (f := .glo "check_tracks") rfl)
  have g_are_below := He.glo_ok X G (c.d.fact 12 (f := .glo "are_below") rfl)
  have g_pulled := He.glo_ok X G (c.d.fact 13 (f := .glo "pulled") rfl)
  have g_behind_all := He.glo_ok X G (c.d.fact 14 (f := .glo "behind_all") rfl)
  have g_behind := He.glo_ok X G (c.d.fact 15 (f := .glo "behind") rfl)
  have g_by_codes := He.glo_ok X G (c.d.fact 16 (f := .glo "by_codes") rfl)
  have g_do_set := He.glo_ok X G (c.d.fact 17 (f := .glo "do_set") rfl)
  have g_figures := He.glo_ok X G (c.d.fact 18 (f := .glo "figures") rfl)
  have g_dealt := He.glo_ok X G (c.d.fact 19 (f := .glo "dealt") rfl)
  have g_codes_of := He.glo_ok X G (c.d.fact 20 (f := .glo "codes_of") rfl)
  have g__law_pot := He.glo_ok X G (c.d.fact 21 (f := .glo "_law_pot") rfl)
  have g__law_take := He.glo_ok X G (c.d.fact 22 (f := .glo "_law_take") rfl)
  have g__law_of := He.glo_ok X G (c.d.fact 23 (f := .glo "_law_of") rfl)
  have g__law_cells := He.glo_ok X G (c.d.fact 24 (f := .glo "_law_cells") rfl)
  have g__law_row := He.glo_ok X G (c.d.fact 25 (f := .glo "_law_row") rfl)
  have g__law_ordered := He.glo_ok X G (c.d.fact 26 (f := .glo "_law_ordered") rfl)
  have g__law_rise := He.glo_ok X G (c.d.fact 27 (f := .glo "_law_rise") rfl)
  have g__law_behind := He.glo_ok X G (c.d.fact 28 (f := .glo "_law_behind") rfl)
  have g__law_product := He.glo_ok X G (c.d.fact 29 (f := .glo "_law_product") rfl)
  have g__law_caught := He.glo_ok X G (c.d.fact 30 (f := .glo "_law_caught") rfl)
  have g__law_is_right := He.glo_ok X G (c.d.fact 31 (f := .glo "_law_is_right") rfl)
  have g__law_is_free_right := He.glo_ok X G (c.d.fact 32 (f := .glo "_law_is_free_right") rfl)
  have g_law := He.glo_ok X G (c.d.fact 33 (f := .glo "law") rfl)
  have ge_TrackError := He.glo_ok X G (c.d.fact 34 (f := .glo "TrackError") rfl)
  have ge_BadCodes := He.glo_ok X G (c.d.fact 35 (f := .glo "BadCodes") rfl)
  have ge_BadDeals := He.glo_ok X G (c.d.fact 36 (f := .glo "BadDeals") rfl)
  have ge_BadRow := He.glo_ok X G (c.d.fact 37 (f := .glo "BadRow") rfl)
  have ge_BadTracks := He.glo_ok X G (c.d.fact 38 (f := .glo "BadTracks") rfl)
  have ge_TooGreat := He.glo_ok X G (c.d.fact 39 (f := .glo "TooGreat") rfl)
  have b_super := He.free_ok X G (c.d.fact 40 (f := .free "super") rfl)
  have mgs : ∀ c ∈ errNames, mg c = some (.ref (He.ga K c)) := by
    intro c hc
    simp only [errNames, List.mem_cons, List.not_mem_nil, or_false] at hc
    rcases hc with rfl | rfl | rfl | rfl | rfl | rfl
    all_goals assumption
  have S : ErrS P K mg := errs_of tx c.i c.more hf top_ b_super mgs ge_TrackError
  have b_isinstance := He.free_ok X G (c.d.fact 41 (f := .free "isinstance") rfl)
  have b_int := He.free_ok X G (c.d.fact 42 (f := .free "int") rfl)
  have b_bool := He.free_ok X G (c.d.fact 43 (f := .free "bool") rfl)
  have b_tuple := He.free_ok X G (c.d.fact 44 (f := .free "tuple") rfl)
  have b_len := He.free_ok X G (c.d.fact 45 (f := .free "len") rfl)
  have b_all := He.free_ok X G (c.d.fact 46 (f := .free "all") rfl)
  have b_range := He.free_ok X G (c.d.fact 47 (f := .free "range") rfl)
  have b_sorted := He.free_ok X G (c.d.fact 48 (f := .free "sorted") rfl)
  have b_zip := He.free_ok X G (c.d.fact 49 (f := .free "zip") rfl)
  have b_set := He.free_ok X G (c.d.fact 50 (f := .free "set") rfl)
  have b_list := He.free_ok X G (c.d.fact 51 (f := .free "list") rfl)
  have b_max := He.free_ok X G (c.d.fact 52 (f := .free "max") rfl)
  have b_sum := He.free_ok X G (c.d.fact 53 (f := .free "sum") rfl)
  have b_abs := He.free_ok X G (c.d.fact 54 (f := .free "abs") rfl)
  have b_min := He.free_ok X G (c.d.fact 55 (f := .free "min") rfl)
  have b_repr := He.free_ok X G (c.d.fact 56 (f := .free "repr") rfl)
  have c_MOST_CARS := He.int_ok X G (c.d.fact 57 (f := .int "MOST_CARS" 30) rfl)
  have c_MOST_NUMBER := He.int_ok X G (c.d.fact 58 (f := .int "MOST_NUMBER" 99) rfl)
  have c_MOST_PASSES := He.int_ok X G (c.d.fact 59 (f := .int "MOST_PASSES" 8) rfl)
  have c_MOST_TRACKS := He.int_ok X G (c.d.fact 60 (f := .int "MOST_TRACKS" 30) rfl)
  have e := hfa.symm.trans g_law
  cases e
  have b := FunD.bindsA (ps := ["script"]) F_law fun kV doc pm an cdv ct us hl => bind_plain pl_law rfl us hl
  refine ⟨fd_law, fun s u => b s [u] rfl, fun bs h1 h2 tb => ?_⟩
  have k_is_integer : Cal P w K mg bs 1 "is_integer" ["value"] f_is_integer := (ok_is_integer F_is_integer g_is_integer b_isinstance b_int b_bool)
  have k_is_between : Cal P w K mg bs 2 "is_between" ["value", "low", "high"] f_is_between := (ok_is_between F_is_between g_is_between (k_is_integer.mono (by decide)))
  have k_is_row : Cal P w K mg bs 3 "is_row" ["value"] f_is_row := (ok_is_row F_is_row g_is_row (k_is_between.mono (by decide)) b_isinstance b_tuple b_len b_all c_MOST_CARS c_MOST_NUMBER)
  have k_check_row : Cal P w K mg bs 4 "check_row" ["value"] f_check_row := (ok_check_row F_check_row g_check_row (k_is_row.mono (by decide)) S)
  have k_product : Cal P w K mg bs 1 "product" ["numbers"] f_product := (ok_product F_product g_product )
  have k_are_codes : Cal P w K mg bs 2 "are_codes" ["row", "value"] f_are_codes := (ok_are_codes F_are_codes g_are_codes (k_is_integer.mono (by decide)) b_isinstance b_tuple b_len b_all)
  have k_check_codes : Cal P w K mg bs 3 "check_codes" ["row", "value"] f_check_codes := (ok_check_codes F_check_codes g_check_codes (k_are_codes.mono (by decide)) S)
  have k_ordered : Cal P w K mg bs 4 "ordered" ["codes"] f_ordered := (ok_ordered F_ordered g_ordered S rfl tb b_len b_range b_sorted b_tuple)
  have k_is_in_order : Cal P w K mg bs 1 "is_in_order" ["row", "cars"] f_is_in_order := (ok_is_in_order F_is_in_order g_is_in_order b_zip b_all)
  have k_are_deals : Cal P w K mg bs 3 "are_deals" ["row", "value"] f_are_deals := (ok_are_deals F_are_deals g_are_deals (k_is_between.mono (by decide)) b_isinstance b_tuple b_len b_all c_MOST_PASSES c_MOST_TRACKS)
  have k_check_deals : Cal P w K mg bs 4 "check_deals" ["row", "value"] f_check_deals := (ok_check_deals F_check_deals g_check_deals (k_are_deals.mono (by decide)) S)
  have k_check_tracks : Cal P w K mg bs 3 "check_tracks" ["value"] f_check_tracks := (ok_check_tracks F_check_tracks g_check_tracks (k_is_between.mono (by decide)) S b_isinstance b_tuple b_len b_all c_MOST_PASSES c_MOST_TRACKS)
  have k_are_below : Cal P w K mg bs 1 "are_below" ["deals", "tracks"] f_are_below := (ok_are_below F_are_below g_are_below b_len b_zip b_all)
  have k_pulled : Cal P w K mg bs 1 "pulled" ["cars", "deal"] f_pulled := (ok_pulled F_pulled g_pulled b_set b_sorted)
  have k_behind_all : Cal P w K mg bs 2 "behind_all" ["row", "deals"] f_behind_all := (ok_behind_all F_behind_all g_behind_all (k_pulled.mono (by decide)) b_len b_list b_range b_tuple)
  have k_behind : Cal P w K mg bs 5 "behind" ["row", "deals"] f_behind := (ok_behind F_behind g_behind (k_check_row.mono (by decide)) (k_check_deals.mono (by decide)) (k_behind_all.mono (by decide)))
  have k_by_codes : Cal P w K mg bs 5 "by_codes" ["row", "codes"] f_by_codes := (ok_by_codes F_by_codes g_by_codes (k_check_row.mono (by decide)) (k_check_codes.mono (by decide)) (k_ordered.mono (by decide)))
  have k_do_set : Cal P w K mg bs 5 "do_set" ["row", "codes"] f_do_set := (ok_do_set F_do_set g_do_set (k_check_row.mono (by decide)) (k_check_codes.mono (by decide)) (k_ordered.mono (by decide)) (k_is_in_order.mono (by decide)))
  have k_figures : Cal P w K mg bs 1 "figures" ["codes", "tracks"] f_figures := (ok_figures F_figures g_figures b_list b_tuple)
  have k_dealt : Cal P w K mg bs 5 "dealt" ["row", "codes", "tracks"] f_dealt := (ok_dealt F_dealt g_dealt (k_check_row.mono (by decide)) (k_check_codes.mono (by decide)) (k_check_tracks.mono (by decide)) (k_product.mono (by decide)) (k_figures.mono (by decide)) S b_max)
  have k_codes_of : Cal P w K mg bs 5 "codes_of" ["row", "deals", "tracks"] f_codes_of := (ok_codes_of F_codes_of g_codes_of (k_check_row.mono (by decide)) (k_check_deals.mono (by decide)) (k_check_tracks.mono (by decide)) (k_are_below.mono (by decide)) S b_len b_zip b_tuple)
  have k__law_pot : Cal P w K mg bs 1 "_law_pot" ["script", "place"] f__law_pot := (ok__law_pot F__law_pot g__law_pot b_len b_sum b_abs b_int)
  have k__law_take : Cal P w K mg bs 1 "_law_take" ["pot", "upto"] f__law_take := (ok__law_take F__law_take g__law_take b_int)
  have k__law_of : Cal P w K mg bs 2 "_law_of" ["pot", "some"] f__law_of := (ok__law_of F__law_of g__law_of (k__law_take.mono (by decide)) b_len)
  have k__law_cells : Cal P w K mg bs 1 "_law_cells" ["script", "most"] f__law_cells := (ok__law_cells F__law_cells g__law_cells b_len b_min b_max b_list b_range)
  have k__law_row : Cal P w K mg bs 3 "_law_row" ["pot", "most", "wide"] f__law_row := (ok__law_row F__law_row g__law_row (k__law_of.mono (by decide)) (k__law_take.mono (by decide)) b_range b_int b_tuple)
  have k__law_ordered : Cal P w K mg bs 1 "_law_ordered" ["codes"] f__law_ordered := (ok__law_ordered F__law_ordered g__law_ordered b_set b_sorted b_len b_range b_tuple)
  have k__law_rise : Cal P w K mg bs 1 "_law_rise" ["row", "cars"] f__law_rise := (ok__law_rise F__law_rise g__law_rise b_zip b_all)
  have k__law_behind : Cal P w K mg bs 1 "_law_behind" ["row", "deals"] f__law_behind := (ok__law_behind F__law_behind g__law_behind b_len b_list b_range b_sum b_tuple)
  have k__law_product : Cal P w K mg bs 1 "_law_product" ["numbers"] f__law_product := (ok__law_product F__law_product g__law_product )
  have k__law_is_right : Cal P w K mg bs 8 "_law_is_right" ["pot", "row", "tracks"] f__law_is_right := (ok__law_is_right F__law_is_right g__law_is_right (k__law_take.mono (by decide)) (k_codes_of.mono (by decide)) (k_dealt.mono (by decide)) (k__law_ordered.mono (by decide)) (k_do_set.mono (by decide)) (k_by_codes.mono (by decide)) (k_behind.mono (by decide)) (k__law_rise.mono (by decide)) (k__law_behind.mono (by decide)) (k__law_product.mono (by decide)) (k_dealt.mono (by decide)) F__law_caught g__law_caught S rfl tb b_tuple b_len b_zip b_repr b_isinstance)
  have k__law_is_free_right : Cal P w K mg bs 6 "_law_is_free_right" ["pot", "row"] f__law_is_free_right := (ok__law_is_free_right F__law_is_free_right g__law_is_free_right (k__law_take.mono (by decide)) (k__law_of.mono (by decide)) (k_behind.mono (by decide)) (k__law_behind.mono (by decide)) (k_by_codes.mono (by decide)) (k__law_ordered.mono (by decide)) (k_do_set.mono (by decide)) (k__law_rise.mono (by decide)) b_range b_tuple b_repr)
  exact ok_law F_law g_law (k__law_cells.mono (by decide)) (k__law_pot.mono (by decide)) (k__law_of.mono (by decide)) (k__law_row.mono (by decide)) (k__law_take.mono (by decide)) (k__law_is_right.mono (by decide)) (k__law_is_free_right.mono (by decide)) b_range b_tuple

end K49
namespace K49
open PySem PySem.Spec PyProof.Rows L2 RZ Ev
theorem is_integer_s {v : PV} {mh : MH} {t : String} (h : tyOf v mh = some t) {Q : PV → MH → Prop} (q : Q (.bl (isI v)) mh) : Ok (f_is_integer [v] mh) Q := by
  unfold f_is_integer
  try simp only [if_true, if_false, Bool.false_eq_true, okS_nx, ok_trB, ok_trI, ok_bind, ok_bin, ok_un, ok_k, ok_cmp, ok_cmpT, ok_chain, ok_bl, ok_nil, ok_cons, ok_call, ok_callOp, ok_isi, ok_test, ok_andT, ok_orT, ok_notT, ok_isBl, ok_andV, ok_orV, ok_notV, ok_if, okS_next, okS_seq, okS_ret, okS_expr, okS_if, okS_set, ok_run, ok_src, ok_range, ok_ok, ok_obv, ok_ob, sNext, ok_var0, ok_varS, List.map_cons, List.map_nil, List.length_cons, List.length_nil, List.replicate_succ, List.replicate_zero, List.cons_append, List.nil_append, List.getElem?_cons_zero, List.getElem?_cons_succ, List.set_cons_zero, List.set_cons_succ, Nat.reduceAdd, Nat.reduceSub, Nat.sub_self, Nat.zero_add, Nat.sub_zero]
  rw [ok_isTy (by simp) h]
  try simp only [if_true, if_false, Bool.false_eq_true, okS_nx, ok_trB, ok_trI, ok_bind, ok_bin, ok_un, ok_k, ok_cmp, ok_cmpT, ok_chain, ok_bl, ok_nil, ok_cons, ok_call, ok_callOp, ok_isi, ok_test, ok_andT, ok_orT, ok_notT, ok_isBl, ok_andV, ok_orV, ok_notV, ok_if, okS_next, okS_seq, okS_ret, okS_expr, okS_if, okS_set, ok_run, ok_src, ok_range, ok_ok, ok_obv, ok_ob, sNext, ok_var0, ok_varS, List.map_cons, List.map_nil, List.length_cons, List.length_nil, List.replicate_succ, List.replicate_zero, List.cons_append, List.nil_append, List.getElem?_cons_zero, List.getElem?_cons_succ, List.set_cons_zero, List.set_cons_succ, Nat.reduceAdd, Nat.reduceSub, Nat.sub_self, Nat.zero_add, Nat.sub_zero]
  have e := tyIs_isI h
  cases h1 : tyIs "int" t with
  | false =>
    rw [h1] at e
    simp only [Bool.false_and] at e
    rw [← e] at q
    exact q
  | true =>
    rw [h1] at e
    simp only [Bool.true_and] at e
    simp only [if_true]
    try simp only [if_true, if_false, Bool.false_eq_true, okS_nx, ok_trB, ok_trI, ok_bind, ok_bin, ok_un, ok_k, ok_cmp, ok_cmpT, ok_chain, ok_bl, ok_nil, ok_cons, ok_call, ok_callOp, ok_isi, ok_test, ok_andT, ok_orT, ok_notT, ok_isBl, ok_andV, ok_orV, ok_notV, ok_if, okS_next, okS_seq, okS_ret, okS_expr, okS_if, okS_set, ok_run, ok_src, ok_range, ok_ok, ok_obv, ok_ob, sNext, ok_var0, ok_varS, List.map_cons, List.map_nil, List.length_cons, List.length_nil, List.replicate_succ, List.replicate_zero, List.cons_append, List.nil_append, List.getElem?_cons_zero, List.getElem?_cons_succ, List.set_cons_zero, List.set_cons_succ, Nat.reduceAdd, Nat.reduceSub, Nat.sub_self, Nat.zero_add, Nat.sub_zero]
    rw [ok_isTy (by simp) h]
    try simp only [if_true, if_false, Bool.false_eq_true, okS_nx, ok_trB, ok_trI, ok_bind, ok_bin, ok_un, ok_k, ok_cmp, ok_cmpT, ok_chain, ok_bl, ok_nil, ok_cons, ok_call, ok_callOp, ok_isi, ok_test, ok_andT, ok_orT, ok_notT, ok_isBl, ok_andV, ok_orV, ok_notV, ok_if, okS_next, okS_seq, okS_ret, okS_expr, okS_if, okS_set, ok_run, ok_src, ok_range, ok_ok, ok_obv, ok_ob, sNext, ok_var0, ok_varS, List.map_cons, List.map_nil, List.length_cons, List.length_nil, List.replicate_succ, List.replicate_zero, List.cons_append, List.nil_append, List.getElem?_cons_zero, List.getElem?_cons_succ, List.set_cons_zero, List.set_cons_succ, Nat.reduceAdd, Nat.reduceSub, Nat.sub_self, Nat.zero_add, Nat.sub_zero]
    rw [e]
    exact q
theorem is_between_s {v : PV} {mh : MH} {t : String} {lo hi : Int} (h : tyOf v mh = some t) {Q : PV → MH → Prop} (q : Q (.bl (isIn v lo hi)) mh) : Ok (f_is_between [v, .int lo, .int hi] mh) Q := by
  unfold f_is_between
  try simp only [if_true, if_false, Bool.false_eq_true, okS_nx, ok_trB, ok_trI, ok_bind, ok_bin, ok_un, ok_k, ok_cmp, ok_cmpT, ok_chain, ok_bl, ok_nil, ok_cons, ok_call, ok_callOp, ok_isi, ok_test, ok_andT, ok_orT, ok_notT, ok_isBl, ok_andV, ok_orV, ok_notV, ok_if, okS_next, okS_seq, okS_ret, okS_expr, okS_if, okS_set, ok_run, ok_src, ok_range, ok_ok, ok_obv, ok_ob, sNext, ok_var0, ok_varS, List.map_cons, List.map_nil, List.length_cons, List.length_nil, List.replicate_succ, List.replicate_zero, List.cons_append, List.nil_append, List.getElem?_cons_zero, List.getElem?_cons_succ, List.set_cons_zero, List.set_cons_succ, Nat.reduceAdd, Nat.reduceSub, Nat.sub_self, Nat.zero_add, Nat.sub_zero]
  refine is_integer_s h ?_
  try simp only [if_true, if_false, Bool.false_eq_true, okS_nx, ok_trB, ok_trI, ok_bind, ok_bin, ok_un, ok_k, ok_cmp, ok_cmpT, ok_chain, ok_bl, ok_nil, ok_cons, ok_call, ok_callOp, ok_isi, ok_test, ok_andT, ok_orT, ok_notT, ok_isBl, ok_andV, ok_orV, ok_notV, ok_if, okS_next, okS_seq, okS_ret, okS_expr, okS_if, okS_set, ok_run, ok_src, ok_range, ok_ok, ok_obv, ok_ob, sNext, ok_var0, ok_varS, List.map_cons, List.map_nil, List.length_cons, List.length_nil, List.replicate_succ, List.replicate_zero, List.cons_append, List.nil_append, List.getElem?_cons_zero, List.getElem?_cons_succ, List.set_cons_zero, List.set_cons_succ, Nat.reduceAdd, Nat.reduceSub, Nat.sub_self, Nat.zero_add, Nat.sub_zero]
  cases v with
  | int i =>
    simp only [isI, if_true]
    try simp only [if_true, if_false, Bool.false_eq_true, okS_nx, ok_trB, ok_trI, ok_bind, ok_bin, ok_un, ok_k, ok_cmp, ok_cmpT, ok_chain, ok_bl, ok_nil, ok_cons, ok_call, ok_callOp, ok_isi, ok_test, ok_andT, ok_orT, ok_notT, ok_isBl, ok_andV, ok_orV, ok_notV, ok_if, okS_next, okS_seq, okS_ret, okS_expr, okS_if, okS_set, ok_run, ok_src, ok_range, ok_ok, ok_obv, ok_ob, sNext, ok_var0, ok_varS, List.map_cons, List.map_nil, List.length_cons, List.length_nil, List.replicate_succ, List.replicate_zero, List.cons_append, List.nil_append, List.getElem?_cons_zero, List.getElem?_cons_succ, List.set_cons_zero, List.set_cons_succ, Nat.reduceAdd, Nat.reduceSub, Nat.sub_self, Nat.zero_add, Nat.sub_zero]
    refine ⟨decide (lo ≤ i), rfl, ?_⟩
    unfold isIn at q
    by_cases h1 : lo ≤ i
    · simp only [h1, decide_true, if_true] at q ⊢
      try simp only [if_true, if_false, Bool.false_eq_true, okS_nx, ok_trB, ok_trI, ok_bind, ok_bin, ok_un, ok_k, ok_cmp, ok_cmpT, ok_chain, ok_bl, ok_nil, ok_cons, ok_call, ok_callOp, ok_isi, ok_test, ok_andT, ok_orT, ok_notT, ok_isBl, ok_andV, ok_orV, ok_notV, ok_if, okS_next, okS_seq, okS_ret, okS_expr, okS_if, okS_set, ok_run, ok_src, ok_range, ok_ok, ok_obv, ok_ob, sNext, ok_var0, ok_varS, List.map_cons, List.map_nil, List.length_cons, List.length_nil, List.replicate_succ, List.replicate_zero, List.cons_append, List.nil_append, List.getElem?_cons_zero, List.getElem?_cons_succ, List.set_cons_zero, List.set_cons_succ, Nat.reduceAdd, Nat.reduceSub, Nat.sub_self, Nat.zero_add, Nat.sub_zero]
      exact ⟨_, rfl, q⟩
    · simp only [h1, decide_false] at q ⊢
      exact q
  | _ => exact q
/-! ### the draws: any number below upto; at most B so far -/
theorem take_s {p B : Nat} {u : Int} {mh : MH} (hp : Pot p B mh) (hB : B < 2 ^ 40) (hu : 0 < u) (hu2 : Bd 100 u) {Q : PV → MH → Prop} (q : ∀ (d : Int) h, 0 ≤ d → d < u → Pot p (B + 1) h → SubX p mh h → Q (.int d) h) : Ok (f__law_take [.ref p, .int u] mh) Q := by
  obtain ⟨own, c, t, hl, h1, h2, h3, h4, h5, h6⟩ := hp
  have i0 : ∀ {o : Int} {h : MH}, h[p]? = some (.lst (PotL o c t)) → seqOf (.ref p) h = some (PotL o c t) := fun e => seq_lst e
  have bt : Bd 41 t := by unfold Bd; omega
  have bt1 : Bd 41 (t + 1) := by unfold Bd; omega
  unfold f__law_take
  try simp only [if_true, if_false, Bool.false_eq_true, okS_nx, ok_trB, ok_trI, ok_bind, ok_bin, ok_un, ok_k, ok_cmp, ok_cmpT, ok_chain, ok_bl, ok_nil, ok_cons, ok_call, ok_callOp, ok_isi, ok_test, ok_andT, ok_orT, ok_notT, ok_isBl, ok_andV, ok_orV, ok_notV, ok_if, okS_next, okS_seq, okS_ret, okS_expr, okS_if, okS_set, ok_run, ok_src, ok_range, ok_ok, ok_obv, ok_ob, sNext, ok_var0, ok_varS, List.map_cons, List.map_nil, List.length_cons, List.length_nil, List.replicate_succ, List.replicate_zero, List.cons_append, List.nil_append, List.getElem?_cons_zero, List.getElem?_cons_succ, List.set_cons_zero, List.set_cons_succ, Nat.reduceAdd, Nat.reduceSub, Nat.sub_self, Nat.zero_add, Nat.sub_zero]
  refine ok_ix (k := 0) (i0 hl) rfl (fun _ z => by cases z) ?_
  refine ⟨_, rfl, ?_⟩
  by_cases hown : 0 < own
  · simp only [hown, decide_true, if_true]
    try simp only [if_true, if_false, Bool.false_eq_true, okS_nx, ok_trB, ok_trI, ok_bind, ok_bin, ok_un, ok_k, ok_cmp, ok_cmpT, ok_chain, ok_bl, ok_nil, ok_cons, ok_call, ok_callOp, ok_isi, ok_test, ok_andT, ok_orT, ok_notT, ok_isBl, ok_andV, ok_orV, ok_notV, ok_if, okS_next, okS_seq, okS_ret, okS_expr, okS_if, okS_set, ok_run, ok_src, ok_range, ok_ok, ok_obv, ok_ob, sNext, ok_var0, ok_varS, List.map_cons, List.map_nil, List.length_cons, List.length_nil, List.replicate_succ, List.replicate_zero, List.cons_append, List.nil_append, List.getElem?_cons_zero, List.getElem?_cons_succ, List.set_cons_zero, List.set_cons_succ, Nat.reduceAdd, Nat.reduceSub, Nat.sub_self, Nat.zero_add, Nat.sub_zero]
    refine ok_ix (k := 0) (i0 hl) rfl (fun _ z => by cases z) ?_
    rw [ok_intI]
    refine ok_modI hu ?_
    try simp only [if_true, if_false, Bool.false_eq_true, okS_nx, ok_trB, ok_trI, ok_bind, ok_bin, ok_un, ok_k, ok_cmp, ok_cmpT, ok_chain, ok_bl, ok_nil, ok_cons, ok_call, ok_callOp, ok_isi, ok_test, ok_andT, ok_orT, ok_notT, ok_isBl, ok_andV, ok_orV, ok_notV, ok_if, okS_next, okS_seq, okS_ret, okS_expr, okS_if, okS_set, ok_run, ok_src, ok_range, ok_ok, ok_obv, ok_ob, sNext, ok_var0, ok_varS, List.map_cons, List.map_nil, List.length_cons, List.length_nil, List.replicate_succ, List.replicate_zero, List.cons_append, List.nil_append, List.getElem?_cons_zero, List.getElem?_cons_succ, List.set_cons_zero, List.set_cons_succ, Nat.reduceAdd, Nat.reduceSub, Nat.sub_self, Nat.zero_add, Nat.sub_zero, okS_store]
    refine ok_ix (k := 0) (i0 hl) rfl (fun _ z => by cases z) ?_
    refine ok_divI hu hu2 (by decide) ?_
    refine ⟨mh.set p (.lst (PotL (own / u) c t)), ?_, ?_⟩
    · unfold stIx lstOf
      simp only [hl]
      rfl
    · refine q _ _ (Int.emod_nonneg _ (by omega)) (Int.emod_lt_of_pos _ hu) ⟨own / u, c, t, at_set hl _, Int.ediv_nonneg h1 (by omega), ?_, h3, h4, h5, by omega⟩ ((SubX.refl p mh).set (.inr rfl) _)
      have := Int.ediv_le_self u h1
      have := Int.ediv_nonneg h1 (show 0 ≤ u by omega)
      unfold Bd at h2 ⊢
      omega
  · simp only [hown, decide_false, Bool.false_eq_true, if_false]
    try simp only [if_true, if_false, Bool.false_eq_true, okS_nx, ok_trB, ok_trI, ok_bind, ok_bin, ok_un, ok_k, ok_cmp, ok_cmpT, ok_chain, ok_bl, ok_nil, ok_cons, ok_call, ok_callOp, ok_isi, ok_test, ok_andT, ok_orT, ok_notT, ok_isBl, ok_andV, ok_orV, ok_notV, ok_if, okS_next, okS_seq, okS_ret, okS_expr, okS_if, okS_set, ok_run, ok_src, ok_range, ok_ok, ok_obv, ok_ob, sNext, ok_var0, ok_varS, List.map_cons, List.map_nil, List.length_cons, List.length_nil, List.replicate_succ, List.replicate_zero, List.cons_append, List.nil_append, List.getElem?_cons_zero, List.getElem?_cons_succ, List.set_cons_zero, List.set_cons_succ, Nat.reduceAdd, Nat.reduceSub, Nat.sub_self, Nat.zero_add, Nat.sub_zero, okS_store]
    refine ok_ix (k := 2) (i0 hl) rfl (fun _ z => by cases z) ?_
    rw [ok_addI]
    have hl2 := at_set hl (.lst (PotL own c (t + 1)))
    refine ⟨mh.set p (.lst (PotL own c (t + 1))), ?_, ?_⟩
    · unfold stIx lstOf
      simp only [hl]
      rfl
    generalize eh : mh.set p (.lst (PotL own c (t + 1))) = m1 at hl2
    have hk : SubX p mh m1 := by
      rw [← eh]
      exact (SubX.refl p mh).set (.inr rfl) _
    have hpl : p < m1.length := (List.getElem?_eq_some_iff.mp hl2).1
    refine ok_mkl ?_
    try simp only [if_true, if_false, Bool.false_eq_true, okS_nx, ok_trB, ok_trI, ok_bind, ok_bin, ok_un, ok_k, ok_cmp, ok_cmpT, ok_chain, ok_bl, ok_nil, ok_cons, ok_call, ok_callOp, ok_isi, ok_test, ok_andT, ok_orT, ok_notT, ok_isBl, ok_andV, ok_orV, ok_notV, ok_if, okS_next, okS_seq, okS_ret, okS_expr, okS_if, okS_set, ok_run, ok_src, ok_range, ok_ok, ok_obv, ok_ob, sNext, ok_var0, ok_varS, List.map_cons, List.map_nil, List.length_cons, List.length_nil, List.replicate_succ, List.replicate_zero, List.cons_append, List.nil_append, List.getElem?_cons_zero, List.getElem?_cons_succ, List.set_cons_zero, List.set_cons_succ, Nat.reduceAdd, Nat.reduceSub, Nat.sub_self, Nat.zero_add, Nat.sub_zero]
    refine ⟨by decide, ?_⟩
    have up : ∀ o, (m1 ++ [o])[p]? = some (.lst (PotL own c (t + 1))) := fun o => Sub.push m1 o _ _ hl2
    generalize em : m1 ++ [MO.lst _] = m2
    have hl3 : m2[p]? = some (.lst (PotL own c (t + 1))) := by rw [← em]; exact up _
    have hk2 : SubX p mh m2 := by rw [← em]; exact hk.trans ((Sub.push m1 _).x p)
    have hpr : m2[m1.length]? = some (.lst [.int 2147483549, .int 2147483543, .int 2147483497, .int 2147483489, .int 2147483477]) := by rw [← em]; exact at_push _ _
    refine ok_ix (k := 2) (seq_lst hl3) rfl (fun _ z => by cases z) ?_
    rw [ok_intI]
    refine ok_modI (by decide) ?_
    have m5a := Int.emod_nonneg (t + 1) (show (5 : Int) ≠ 0 by decide)
    have m5b := Int.emod_lt_of_pos (t + 1) (show (0 : Int) < 5 by decide)
    obtain ⟨k5, hk5⟩ := Int.eq_ofNat_of_zero_le m5a
    rw [hk5] at m5b ⊢
    have hprime : ∃ pr : Int, ([.int 2147483549, .int 2147483543, .int 2147483497, .int 2147483489, .int 2147483477] : List PV)[k5]? = some (.int pr) ∧ 0 < pr ∧ Bd 31 pr := by
      have : k5 = 0 ∨ k5 = 1 ∨ k5 = 2 ∨ k5 = 3 ∨ k5 = 4 := by omega
      rcases this with z | z | z | z | z <;> (subst z; exact ⟨_, rfl, by decide, by unfold Bd; decide⟩)
    obtain ⟨pr, hp1, hp2, hp3⟩ := hprime
    refine ok_ix (k := k5) (seq_lst hpr) hp1 (fun _ z => by cases z) ?_
    refine ok_ix (k := 1) (seq_lst hl3) rfl (fun _ z => by cases z) ?_
    refine ok_ix (k := 2) (seq_lst hl3) rfl (fun _ z => by cases z) ?_
    refine ok_mulI (a := 41) (b := 41) (by unfold Bd; decide) bt1 (by decide) ?_
    refine ok_ix (k := 2) (seq_lst hl3) rfl (fun _ z => by cases z) ?_
    have b1 : Bd 41 (86453 : Int) := by unfold Bd; decide
    refine ok_mulI (a := 82) (b := 41) (b1.mul bt1) bt1 (by decide) ?_
    rw [ok_addI, ok_addI, ok_intI]
    have b2 : Bd 400 (c + 86453 * (t + 1) * (t + 1) + 617) := ((h4.add ((b1.mul bt1).mul bt1)).add (b := 41) (by unfold Bd; decide)).mono (by decide)
    generalize ez : c + 86453 * (t + 1) * (t + 1) + 617 = z at b2
    refine ok_powI (n := 3) b2 (by decide) (by decide) ?_
    rw [ok_intI]
    refine ok_modI hp2 ?_
    have b3 : Bd 31 (z ^ 3 % pr) := Bd.mod _ hp2 hp3
    generalize ey : z ^ 3 % pr = y at b3
    rw [ok_intI]
    refine ok_modI (by decide) ?_
    refine ok_ix (k := 2) (seq_lst hl3) rfl (fun _ z => by cases z) ?_
    refine ok_mulI (a := 41) (b := 41) (by unfold Bd; decide) bt1 (by decide) ?_
    rw [ok_addI]
    have b4 : Bd 200 (y % 8713 + 131 * (t + 1)) := ((Bd.mod (b := 41) y (m := 8713) (by decide) (by unfold Bd; decide)).add (Bd.mul (a := 41) (by unfold Bd; decide) bt1)).mono (by decide)
    refine ok_mulI b3 b4 (by decide) ?_
    rw [ok_intI]
    refine ok_modI (by decide) ?_
    refine ok_divI (b := 41) (by decide) (by unfold Bd; decide) (by decide) ?_
    rw [ok_intI]
    refine ok_modI hu ?_
    exact q _ _ (Int.emod_nonneg _ (by omega)) (Int.emod_lt_of_pos _ hu) ⟨own, c, t + 1, hl3, h1, h2, h3, h4, by omega, by omega⟩ hk2
theorem ok_sumI {n : Nat} {l : List Int} {h : MH} {Q : PV → MH → Prop} (e : h[n]? = some (.lst (l.map PV.int))) (q : Q (.int l.sum) h) : Ok (opSum [.ref n] h) Q := by
  have e : h[n]? = some (.lst (iL l)) := e
  simp only [opSum, seqInts, e, intsOf_iL]
  exact q
theorem pot_s {ns : List Int} {k : Nat} {mh : MH} (h0 : mh[0]? = some (.scr (ns.map PV.int))) (hn : ns.length ≤ 63) (hk : k ≤ 63) {Q : PV → MH → Prop} (q : ∀ p h, Sub mh h → mh[p]? = none → Pot p 0 h → Q (.ref p) h) : Ok (f__law_pot [.ref 0, .int k] mh) Q := by
  have hs : seqOf (.ref 0) mh = some (ns.map PV.int) := seq_scr h0
  unfold f__law_pot
  try simp only [if_true, if_false, Bool.false_eq_true, okS_nx, ok_trB, ok_trI, ok_bind, ok_bin, ok_un, ok_k, ok_cmp, ok_cmpT, ok_chain, ok_bl, ok_nil, ok_cons, ok_call, ok_callOp, ok_isi, ok_test, ok_andT, ok_orT, ok_notT, ok_isBl, ok_andV, ok_orV, ok_notV, ok_if, okS_next, okS_seq, okS_ret, okS_expr, okS_if, okS_set, ok_run, ok_src, ok_range, ok_ok, ok_obv, ok_ob, sNext, ok_var0, ok_varS, List.map_cons, List.map_nil, List.length_cons, List.length_nil, List.replicate_succ, List.replicate_zero, List.cons_append, List.nil_append, List.getElem?_cons_zero, List.getElem?_cons_succ, List.set_cons_zero, List.set_cons_succ, Nat.reduceAdd, Nat.reduceSub, Nat.sub_self, Nat.zero_add, Nat.sub_zero]
  refine ok_len hs ?_
  refine ⟨_, rfl, ?_⟩
  rw [List.length_map]
  -- the cell
  have rest : ∀ (cell : Int) (mh2 : MH), Sub mh mh2 → OkS ((sSeq (sAsg (mBin opMul (mBin opMod (mCallOp opInt (mCons (mCallOp opAbs (mCons (mVar 2) mNil)) mNil)) (mBin opPow (mBin opPow (mK (.int 10)) (mK (.int 60))) (mK (.int 5)))) (mCallOp opInt (mCons (mCmp geD (mCallOp opAbs (mCons (mVar 2) mNil)) (mBin opPow (mK (.int 10)) (mK (.int 18)))) mNil))) (.nm 3))
     (sSeq (sAsg (mBin opMod (mCallOp opInt (mCons (mVar 2) mNil)) (mK (.int 2305843009213693951))) (.nm 4))
     (sSeq (sRet (mLst (mCons (mVar 3) (mCons (mBin opMod (mCallOp opInt (mCons (mBin opAdd (mBin opAdd (mBin opMul (mVar 4) (mK (.int 64879))) (mBin opMul (mBin opMul (mK (.int 7901)) (mVar 1)) (mVar 1))) (mK (.int 547))) mNil)) (mK (.int 2305843009213693921))) (mCons (mK (.int 0)) mNil)))))
     sNext))) [some (.ref 0), some (.int k), some (.int cell), none, none] mh2) ⟨fun _ h => Q .non h, Q, fun _ _ => False, fun _ _ => False⟩ := by
    intro cell mh2 s2
    try simp only [if_true, if_false, Bool.false_eq_true, okS_nx, ok_trB, ok_trI, ok_bind, ok_bin, ok_un, ok_k, ok_cmp, ok_cmpT, ok_chain, ok_bl, ok_nil, ok_cons, ok_call, ok_callOp, ok_isi, ok_test, ok_andT, ok_orT, ok_notT, ok_isBl, ok_andV, ok_orV, ok_notV, ok_if, okS_next, okS_seq, okS_ret, okS_expr, okS_if, okS_set, ok_run, ok_src, ok_range, ok_ok, ok_obv, ok_ob, sNext, ok_var0, ok_varS, List.map_cons, List.map_nil, List.length_cons, List.length_nil, List.replicate_succ, List.replicate_zero, List.cons_append, List.nil_append, List.getElem?_cons_zero, List.getElem?_cons_succ, List.set_cons_zero, List.set_cons_succ, Nat.reduceAdd, Nat.reduceSub, Nat.sub_self, Nat.zero_add, Nat.sub_zero]
    rw [ok_absI, ok_intI]
    generalize ea : (if cell < 0 then -cell else cell) = ab
    refine ok_powI (a := 4) (n := 60) (by unfold Bd; decide) (by decide) (by decide) ?_
    refine ok_powI (a := 200) (n := 5) (by unfold Bd; decide) (by decide) (by decide) ?_
    have hm : (0 : Int) < (10 ^ 60) ^ 5 := by decide
    have bm : Bd 1300 ((10 ^ 60) ^ 5 : Int) := ((Bd.pow (a := 4) (x := 10) (by unfold Bd; decide) 60).pow 5).mono (by decide)
    refine ok_modI hm ?_
    have n1 := Int.emod_nonneg ab (Int.ne_of_gt hm)
    have n2 : Bd 1300 (ab % (10 ^ 60) ^ 5) := Bd.mod _ hm bm
    generalize em : ab % (10 ^ 60) ^ 5 = r at n1 n2
    rw [ok_absI, ea]
    refine ok_powI (a := 4) (n := 18) (by unfold Bd; decide) (by decide) (by decide) ?_
    refine ⟨_, rfl, ?_⟩
    rw [ok_intB]
    generalize eb : (if decide ((10 : Int) ^ 18 ≤ ab) = true then (1 : Int) else 0) = bit
    have hb : bit = 0 ∨ bit = 1 := by
      rw [← eb]
      split
      · exact .inr rfl
      · exact .inl rfl
    have b1 : Bd 1 bit := by
      unfold Bd
      omega
    refine ok_mulI n2 b1 (by decide) ?_
    have own0 : 0 ≤ r * bit := Int.mul_nonneg n1 (by omega)
    have own1 : Bd 1300 (r * bit) := by
      rcases hb with z | z
      · rw [z, Int.mul_zero]; unfold Bd; decide
      · rw [z, Int.mul_one]; exact n2
    generalize eo : r * bit = own at own0 own1
    rw [ok_intI]
    refine ok_modI (by decide) ?_
    have b2 : Bd 62 (cell % 2305843009213693951) := Bd.mod _ (by decide) (by unfold Bd; decide)
    generalize es : cell % 2305843009213693951 = small at b2
    refine ok_mkl ?_
    try simp only [if_true, if_false, Bool.false_eq_true, okS_nx, ok_trB, ok_trI, ok_bind, ok_bin, ok_un, ok_k, ok_cmp, ok_cmpT, ok_chain, ok_bl, ok_nil, ok_cons, ok_call, ok_callOp, ok_isi, ok_test, ok_andT, ok_orT, ok_notT, ok_isBl, ok_andV, ok_orV, ok_notV, ok_if, okS_next, okS_seq, okS_ret, okS_expr, okS_if, okS_set, ok_run, ok_src, ok_range, ok_ok, ok_obv, ok_ob, sNext, ok_var0, ok_varS, List.map_cons, List.map_nil, List.length_cons, List.length_nil, List.replicate_succ, List.replicate_zero, List.cons_append, List.nil_append, List.getElem?_cons_zero, List.getElem?_cons_succ, List.set_cons_zero, List.set_cons_succ, Nat.reduceAdd, Nat.reduceSub, Nat.sub_self, Nat.zero_add, Nat.sub_zero]
    have bk : Bd 6 (k : Int) := by
      unfold Bd
      omega
    refine ok_mulI (b := 41) b2 (by unfold Bd; decide) (by decide) ?_
    refine ok_mulI (a := 41) (by unfold Bd; decide) bk (by decide) ?_
    refine ok_mulI (Bd.mul (a := 41) (by unfold Bd; decide) bk) bk (by decide) ?_
    rw [ok_addI, ok_addI, ok_intI]
    refine ok_modI (by decide) ?_
    generalize ez : small * 64879 + 7901 * (k : Int) * k + 547 = z
    refine ⟨by decide, q _ _ (s2.trans (.push _ _)) s2.new ⟨own, z % 2305843009213693921, 0, at_push _ _, own0, own1, Int.emod_nonneg _ (by decide), Bd.mod _ (by decide) (by unfold Bd; decide), by omega, by omega⟩⟩
  by_cases hlt : (k : Int) < (ns.length : Int)
  · simp only [hlt, decide_true, if_true]
    try simp only [if_true, if_false, Bool.false_eq_true, okS_nx, ok_trB, ok_trI, ok_bind, ok_bin, ok_un, ok_k, ok_cmp, ok_cmpT, ok_chain, ok_bl, ok_nil, ok_cons, ok_call, ok_callOp, ok_isi, ok_test, ok_andT, ok_orT, ok_notT, ok_isBl, ok_andV, ok_orV, ok_notV, ok_if, okS_next, okS_seq, okS_ret, okS_expr, okS_if, okS_set, ok_run, ok_src, ok_range, ok_ok, ok_obv, ok_ob, sNext, ok_var0, ok_varS, List.map_cons, List.map_nil, List.length_cons, List.length_nil, List.replicate_succ, List.replicate_zero, List.cons_append, List.nil_append, List.getElem?_cons_zero, List.getElem?_cons_succ, List.set_cons_zero, List.set_cons_succ, Nat.reduceAdd, Nat.reduceSub, Nat.sub_self, Nat.zero_add, Nat.sub_zero]
    have hk2 : k < ns.length := by omega
    refine ok_ix (k := k) (x := .int ns[k]) hs (by rw [List.getElem?_map, List.getElem?_eq_getElem hk2]; rfl) (fun _ z => by cases z) ?_
    have r := rest ns[k] mh (.refl _)
    try simp only [if_true, if_false, Bool.false_eq_true, okS_nx, ok_trB, ok_trI, ok_bind, ok_bin, ok_un, ok_k, ok_cmp, ok_cmpT, ok_chain, ok_bl, ok_nil, ok_cons, ok_call, ok_callOp, ok_isi, ok_test, ok_andT, ok_orT, ok_notT, ok_isBl, ok_andV, ok_orV, ok_notV, ok_if, okS_next, okS_seq, okS_ret, okS_expr, okS_if, okS_set, ok_run, ok_src, ok_range, ok_ok, ok_obv, ok_ob, sNext, ok_var0, ok_varS, List.map_cons, List.map_nil, List.length_cons, List.length_nil, List.replicate_succ, List.replicate_zero, List.cons_append, List.nil_append, List.getElem?_cons_zero, List.getElem?_cons_succ, List.set_cons_zero, List.set_cons_succ, Nat.reduceAdd, Nat.reduceSub, Nat.sub_self, Nat.zero_add, Nat.sub_zero] at r
    exact r
  · simp only [hlt, decide_false, Bool.false_eq_true, if_false]
    try simp only [if_true, if_false, Bool.false_eq_true, okS_nx, ok_trB, ok_trI, ok_bind, ok_bin, ok_un, ok_k, ok_cmp, ok_cmpT, ok_chain, ok_bl, ok_nil, ok_cons, ok_call, ok_callOp, ok_isi, ok_test, ok_andT, ok_orT, ok_notT, ok_isBl, ok_andV, ok_orV, ok_notV, ok_if, okS_next, okS_seq, okS_ret, okS_expr, okS_if, okS_set, ok_run, ok_src, ok_range, ok_ok, ok_obv, ok_ob, sNext, ok_var0, ok_varS, List.map_cons, List.map_nil, List.length_cons, List.length_nil, List.replicate_succ, List.replicate_zero, List.cons_append, List.nil_append, List.getElem?_cons_zero, List.getElem?_cons_succ, List.set_cons_zero, List.set_cons_succ, Nat.reduceAdd, Nat.reduceSub, Nat.sub_self, Nat.zero_add, Nat.sub_zero]
    rw [ok_sl]
    try simp only [if_true, if_false, Bool.false_eq_true, okS_nx, ok_trB, ok_trI, ok_bind, ok_bin, ok_un, ok_k, ok_cmp, ok_cmpT, ok_chain, ok_bl, ok_nil, ok_cons, ok_call, ok_callOp, ok_isi, ok_test, ok_andT, ok_orT, ok_notT, ok_isBl, ok_andV, ok_orV, ok_notV, ok_if, okS_next, okS_seq, okS_ret, okS_expr, okS_if, okS_set, ok_run, ok_src, ok_range, ok_ok, ok_obv, ok_ob, sNext, ok_var0, ok_varS, List.map_cons, List.map_nil, List.length_cons, List.length_nil, List.replicate_succ, List.replicate_zero, List.cons_append, List.nil_append, List.getElem?_cons_zero, List.getElem?_cons_succ, List.set_cons_zero, List.set_cons_succ, Nat.reduceAdd, Nat.reduceSub, Nat.sub_self, Nat.zero_add, Nat.sub_zero]
    rw [ok_noPart]
    refine ok_part ?_
    try simp only [if_true, if_false, Bool.false_eq_true, okS_nx, ok_trB, ok_trI, ok_bind, ok_bin, ok_un, ok_k, ok_cmp, ok_cmpT, ok_chain, ok_bl, ok_nil, ok_cons, ok_call, ok_callOp, ok_isi, ok_test, ok_andT, ok_orT, ok_notT, ok_isBl, ok_andV, ok_orV, ok_notV, ok_if, okS_next, okS_seq, okS_ret, okS_expr, okS_if, okS_set, ok_run, ok_src, ok_range, ok_ok, ok_obv, ok_ob, sNext, ok_var0, ok_varS, List.map_cons, List.map_nil, List.length_cons, List.length_nil, List.replicate_succ, List.replicate_zero, List.cons_append, List.nil_append, List.getElem?_cons_zero, List.getElem?_cons_succ, List.set_cons_zero, List.set_cons_succ, Nat.reduceAdd, Nat.reduceSub, Nat.sub_self, Nat.zero_add, Nat.sub_zero]
    refine ⟨1, rfl, ?_⟩
    simp only [opSl, hs]
    have hs2 := at_push mh (.lst (cutL (ns.map PV.int) none (some 1)))
    have sb : Sub mh (mh ++ [.lst (cutL (ns.map PV.int) none (some 1))]) := .push _ _
    generalize mh ++ [MO.lst (cutL (ns.map PV.int) none (some 1))] = mh2 at hs2 sb
    generalize mh.length = nl at hs2
    rw [show cutL (ns.map PV.int) none (some 1) = (ns.map PV.int).take 1 from cut_to _ 1, ← List.map_take] at hs2
    rw [ok_ok]
    refine ok_sumI hs2 ?_
    generalize (ns.take 1).sum = x
    refine ok_modI (by decide) ?_
    have bk : Bd 6 (k : Int) := by
      unfold Bd
      omega
    refine ok_mulI (a := 41) (by unfold Bd; decide) bk (by decide) ?_
    rw [ok_addI, ok_addI]
    have r := rest (x % 1000033 + 4201 * (k : Int) + 683) mh2 sb
    try simp only [if_true, if_false, Bool.false_eq_true, okS_nx, ok_trB, ok_trI, ok_bind, ok_bin, ok_un, ok_k, ok_cmp, ok_cmpT, ok_chain, ok_bl, ok_nil, ok_cons, ok_call, ok_callOp, ok_isi, ok_test, ok_andT, ok_orT, ok_notT, ok_isBl, ok_andV, ok_orV, ok_notV, ok_if, okS_next, okS_seq, okS_ret, okS_expr, okS_if, okS_set, ok_run, ok_src, ok_range, ok_ok, ok_obv, ok_ob, sNext, ok_var0, ok_varS, List.map_cons, List.map_nil, List.length_cons, List.length_nil, List.replicate_succ, List.replicate_zero, List.cons_append, List.nil_append, List.getElem?_cons_zero, List.getElem?_cons_succ, List.set_cons_zero, List.set_cons_succ, Nat.reduceAdd, Nat.reduceSub, Nat.sub_self, Nat.zero_add, Nat.sub_zero] at r
    exact r
theorem of_s {p B n : Nat} {vs : List PV} {mh : MH} (hp : Pot p B mh) (hB : B < 2 ^ 40) (hv : mh[n]? = some (.lst vs)) (hn : n ≠ p) (hl : 0 < vs.length) (hl2 : vs.length < 2 ^ 40) {Q : PV → MH → Prop} (q : ∀ v h, v ∈ vs → Pot p (B + 1) h → SubX p mh h → Q v h) : Ok (f__law_of [.ref p, .ref n] mh) Q := by
  unfold f__law_of
  try simp only [if_true, if_false, Bool.false_eq_true, okS_nx, ok_trB, ok_trI, ok_bind, ok_bin, ok_un, ok_k, ok_cmp, ok_cmpT, ok_chain, ok_bl, ok_nil, ok_cons, ok_call, ok_callOp, ok_isi, ok_test, ok_andT, ok_orT, ok_notT, ok_isBl, ok_andV, ok_orV, ok_notV, ok_if, okS_next, okS_seq, okS_ret, okS_expr, okS_if, okS_set, ok_run, ok_src, ok_range, ok_ok, ok_obv, ok_ob, sNext, ok_var0, ok_varS, List.map_cons, List.map_nil, List.length_cons, List.length_nil, List.replicate_succ, List.replicate_zero, List.cons_append, List.nil_append, List.getElem?_cons_zero, List.getElem?_cons_succ, List.set_cons_zero, List.set_cons_succ, Nat.reduceAdd, Nat.reduceSub, Nat.sub_self, Nat.zero_add, Nat.sub_zero]
  refine ok_len (seq_lst hv) ?_
  refine take_s hp hB (by omega) (by unfold Bd; omega) fun d h h1 h2 h3 h4 => ?_
  obtain ⟨k, rfl⟩ := Int.eq_ofNat_of_zero_le h1
  have hk : k < vs.length := by omega
  refine ok_ix (seq_lst (h4 n _ hn hv)) (List.getElem?_eq_getElem hk) (fun _ z => by cases z) ?_
  exact q _ _ (List.getElem_mem hk) h3 h4
theorem row_s {p B most : Nat} {wide : Int} {mh : MH} (hp : Pot p B mh) (hB : B + most + 3 < 2 ^ 40) (hm : most < 2 ^ 20) (hw : 0 < wide) (hw2 : Bd 20 wide)
    {Q : PV → MH → Prop} (q : ∀ (row : List Int) h, row.length ≤ most → (∀ x ∈ row, 1 ≤ x ∧ x ≤ 1 + 9 * (wide - 1)) → Pot p (B + most + 2) h → SubX p mh h → Q (iT row) h) : Ok (f__law_row [.ref p, .int most, .int wide] mh) Q := by
  unfold f__law_row
  try simp only [if_true, if_false, Bool.false_eq_true, okS_nx, ok_trB, ok_trI, ok_bind, ok_bin, ok_un, ok_k, ok_cmp, ok_cmpT, ok_chain, ok_bl, ok_nil, ok_cons, ok_call, ok_callOp, ok_isi, ok_test, ok_andT, ok_orT, ok_notT, ok_isBl, ok_andV, ok_orV, ok_notV, ok_if, okS_next, okS_seq, okS_ret, okS_expr, okS_if, okS_set, ok_run, ok_src, ok_range, ok_ok, ok_obv, ok_ob, sNext, ok_var0, ok_varS, List.map_cons, List.map_nil, List.length_cons, List.length_nil, List.replicate_succ, List.replicate_zero, List.cons_append, List.nil_append, List.getElem?_cons_zero, List.getElem?_cons_succ, List.set_cons_zero, List.set_cons_succ, Nat.reduceAdd, Nat.reduceSub, Nat.sub_self, Nat.zero_add, Nat.sub_zero, ok_addI]
  refine ok_mklN ?_
  try simp only [if_true, if_false, Bool.false_eq_true, okS_nx, ok_trB, ok_trI, ok_bind, ok_bin, ok_un, ok_k, ok_cmp, ok_cmpT, ok_chain, ok_bl, ok_nil, ok_cons, ok_call, ok_callOp, ok_isi, ok_test, ok_andT, ok_orT, ok_notT, ok_isBl, ok_andV, ok_orV, ok_notV, ok_if, okS_next, okS_seq, okS_ret, okS_expr, okS_if, okS_set, ok_run, ok_src, ok_range, ok_ok, ok_obv, ok_ob, sNext, ok_var0, ok_varS, List.map_cons, List.map_nil, List.length_cons, List.length_nil, List.replicate_succ, List.replicate_zero, List.cons_append, List.nil_append, List.getElem?_cons_zero, List.getElem?_cons_succ, List.set_cons_zero, List.set_cons_succ, Nat.reduceAdd, Nat.reduceSub, Nat.sub_self, Nat.zero_add, Nat.sub_zero, ok_addI]
  refine ⟨by decide, fun ns h0 s0 fr0 hl0 => ?_⟩
  refine of_s (hp.sub s0) (by omega) hl0 (fun z => by rw [z] at fr0; exact absurd hp.lt (by have := List.getElem?_eq_none_iff.mp fr0; omega)) (by decide) (by decide) fun v h00 hv hp0 sx0 => ?_
  obtain ⟨st, rfl, hst1, hst2⟩ : ∃ st : Int, v = .int st ∧ 1 ≤ st ∧ st ≤ 9 := by
    simp only [List.mem_cons, List.not_mem_nil, or_false] at hv
    rcases hv with rfl | rfl | rfl | rfl <;> exact ⟨_, rfl, by decide, by decide⟩
  try simp only [if_true, if_false, Bool.false_eq_true, okS_nx, ok_trB, ok_trI, ok_bind, ok_bin, ok_un, ok_k, ok_cmp, ok_cmpT, ok_chain, ok_bl, ok_nil, ok_cons, ok_call, ok_callOp, ok_isi, ok_test, ok_andT, ok_orT, ok_notT, ok_isBl, ok_andV, ok_orV, ok_notV, ok_if, okS_next, okS_seq, okS_ret, okS_expr, okS_if, okS_set, ok_run, ok_src, ok_range, ok_ok, ok_obv, ok_ob, sNext, ok_var0, ok_varS, List.map_cons, List.map_nil, List.length_cons, List.length_nil, List.replicate_succ, List.replicate_zero, List.cons_append, List.nil_append, List.getElem?_cons_zero, List.getElem?_cons_succ, List.set_cons_zero, List.set_cons_succ, Nat.reduceAdd, Nat.reduceSub, Nat.sub_self, Nat.zero_add, Nat.sub_zero, ok_addI]
  have sx : SubX p mh h00 := (s0.x p).trans sx0
  refine ok_compPot (p := p) 1 (fun y => ∃ i, y = .int i ∧ 1 ≤ i ∧ i ≤ 1 + 9 * (wide - 1)) ?_
  try simp only [if_true, if_false, Bool.false_eq_true, okS_nx, ok_trB, ok_trI, ok_bind, ok_bin, ok_un, ok_k, ok_cmp, ok_cmpT, ok_chain, ok_bl, ok_nil, ok_cons, ok_call, ok_callOp, ok_isi, ok_test, ok_andT, ok_orT, ok_notT, ok_isBl, ok_andV, ok_orV, ok_notV, ok_if, okS_next, okS_seq, okS_ret, okS_expr, okS_if, okS_set, ok_run, ok_src, ok_range, ok_ok, ok_obv, ok_ob, sNext, ok_var0, ok_varS, List.map_cons, List.map_nil, List.length_cons, List.length_nil, List.replicate_succ, List.replicate_zero, List.cons_append, List.nil_append, List.getElem?_cons_zero, List.getElem?_cons_succ, List.set_cons_zero, List.set_cons_succ, Nat.reduceAdd, Nat.reduceSub, Nat.sub_self, Nat.zero_add, Nat.sub_zero, ok_addI]
  refine take_s hp0 (by omega) (by omega) (by unfold Bd; omega) fun d h h1 h2 h3 h4 => ?_
  obtain ⟨k, rfl⟩ := Int.eq_ofNat_of_zero_le h1
  refine ⟨_, range1 (by omega), _, B + 1 + 1, h4, h3, by simp; unfold loopFuel; omega, fun _ _ => srcIs_vals _ _, ?_, ?_⟩
  · intro x hx h' B' hB' hp' hs'
    refine ⟨_, rfl, ?_⟩
    rw [ok_yes, if_pos rfl]
    simp only [List.length_map, List.length_range] at hB'
    simp only [wipeE]
    try simp only [if_true, if_false, Bool.false_eq_true, okS_nx, ok_trB, ok_trI, ok_bind, ok_bin, ok_un, ok_k, ok_cmp, ok_cmpT, ok_chain, ok_bl, ok_nil, ok_cons, ok_call, ok_callOp, ok_isi, ok_test, ok_andT, ok_orT, ok_notT, ok_isBl, ok_andV, ok_orV, ok_notV, ok_if, okS_next, okS_seq, okS_ret, okS_expr, okS_if, okS_set, ok_run, ok_src, ok_range, ok_ok, ok_obv, ok_ob, sNext, ok_var0, ok_varS, List.map_cons, List.map_nil, List.length_cons, List.length_nil, List.replicate_succ, List.replicate_zero, List.cons_append, List.nil_append, List.getElem?_cons_zero, List.getElem?_cons_succ, List.set_cons_zero, List.set_cons_succ, Nat.reduceAdd, Nat.reduceSub, Nat.sub_self, Nat.zero_add, Nat.sub_zero, ok_addI]
    refine take_s hp' (by omega) hw (hw2.mono (by decide)) fun d2 h5 g1 g2 g3 g4 => ?_
    have bd : Bd 20 d2 := by unfold Bd at hw2 ⊢; omega
    refine ok_mulI (a := 20) (by unfold Bd; omega) bd (by decide) ?_
    rw [ok_addI, ok_intI]
    refine ⟨⟨_, rfl, ?_, ?_⟩, g3, g4⟩
    · have := Int.mul_nonneg (show 0 ≤ st by omega) g1
      omega
    · have e1 : st * d2 ≤ 9 * d2 := Int.mul_le_mul_of_nonneg_right hst2 g1
      omega
  · intro n out h' l1 l2 hG hs' hn hnp hl hp'
    obtain ⟨l, rfl, gl⟩ := iL_of hG
    refine ok_tupleOf (seq_lst hl) ?_
    simp only [List.length_map, List.length_range] at l1 hp'
    exact q l h' (by omega) gl (hp'.mono (by omega)) (sx.trans hs')
/-- a row: at most thirty ints from 1 to 99 -/
structure IsRow (row : List Int) : Prop where
  len : row.length ≤ 30
  num : ∀ x ∈ row, 1 ≤ x ∧ x ≤ 99
theorem is_row_s {row : List Int} (hr : IsRow row) {mh : MH} {Q : PV → MH → Prop} (q : ∀ h, Sub mh h → Q (.bl true) h) : Ok (f_is_row [iT row] mh) Q := by
  unfold f_is_row
  try simp only [if_true, if_false, Bool.false_eq_true, okS_nx, ok_trB, ok_trI, ok_bind, ok_bin, ok_un, ok_k, ok_cmp, ok_cmpT, ok_chain, ok_bl, ok_nil, ok_cons, ok_call, ok_callOp, ok_isi, ok_test, ok_andT, ok_orT, ok_notT, ok_isBl, ok_andV, ok_orV, ok_notV, ok_if, okS_next, okS_seq, okS_ret, okS_expr, okS_if, okS_set, ok_run, ok_src, ok_range, ok_ok, ok_obv, ok_ob, sNext, ok_var0, ok_varS, List.map_cons, List.map_nil, List.length_cons, List.length_nil, List.replicate_succ, List.replicate_zero, List.cons_append, List.nil_append, List.getElem?_cons_zero, List.getElem?_cons_succ, List.set_cons_zero, List.set_cons_succ, Nat.reduceAdd, Nat.reduceSub, Nat.sub_self, Nat.zero_add, Nat.sub_zero]
  rw [ok_isTy (t := "tuple") (by simp) rfl]
  try simp only [if_true, if_false, Bool.false_eq_true, okS_nx, ok_trB, ok_trI, ok_bind, ok_bin, ok_un, ok_k, ok_cmp, ok_cmpT, ok_chain, ok_bl, ok_nil, ok_cons, ok_call, ok_callOp, ok_isi, ok_test, ok_andT, ok_orT, ok_notT, ok_isBl, ok_andV, ok_orV, ok_notV, ok_if, okS_next, okS_seq, okS_ret, okS_expr, okS_if, okS_set, ok_run, ok_src, ok_range, ok_ok, ok_obv, ok_ob, sNext, ok_var0, ok_varS, List.map_cons, List.map_nil, List.length_cons, List.length_nil, List.replicate_succ, List.replicate_zero, List.cons_append, List.nil_append, List.getElem?_cons_zero, List.getElem?_cons_succ, List.set_cons_zero, List.set_cons_succ, Nat.reduceAdd, Nat.reduceSub, Nat.sub_self, Nat.zero_add, Nat.sub_zero]
  simp only [show tyIs "tuple" "tuple" = true from rfl, Bool.not_true, Bool.false_eq_true, if_false]
  try simp only [if_true, if_false, Bool.false_eq_true, okS_nx, ok_trB, ok_trI, ok_bind, ok_bin, ok_un, ok_k, ok_cmp, ok_cmpT, ok_chain, ok_bl, ok_nil, ok_cons, ok_call, ok_callOp, ok_isi, ok_test, ok_andT, ok_orT, ok_notT, ok_isBl, ok_andV, ok_orV, ok_notV, ok_if, okS_next, okS_seq, okS_ret, okS_expr, okS_if, okS_set, ok_run, ok_src, ok_range, ok_ok, ok_obv, ok_ob, sNext, ok_var0, ok_varS, List.map_cons, List.map_nil, List.length_cons, List.length_nil, List.replicate_succ, List.replicate_zero, List.cons_append, List.nil_append, List.getElem?_cons_zero, List.getElem?_cons_succ, List.set_cons_zero, List.set_cons_succ, Nat.reduceAdd, Nat.reduceSub, Nat.sub_self, Nat.zero_add, Nat.sub_zero]
  refine ok_len (seq_tup _) ?_
  refine ⟨_, rfl, ?_⟩
  have hl : ¬ (30 : Int) < ((iL row).length : Nat) := by
    have := hr.len
    simp only [List.length_map]
    omega
  simp only [hl, decide_false, Bool.false_eq_true, if_false]
  try simp only [if_true, if_false, Bool.false_eq_true, okS_nx, ok_trB, ok_trI, ok_bind, ok_bin, ok_un, ok_k, ok_cmp, ok_cmpT, ok_chain, ok_bl, ok_nil, ok_cons, ok_call, ok_callOp, ok_isi, ok_test, ok_andT, ok_orT, ok_notT, ok_isBl, ok_andV, ok_orV, ok_notV, ok_if, okS_next, okS_seq, okS_ret, okS_expr, okS_if, okS_set, ok_run, ok_src, ok_range, ok_ok, ok_obv, ok_ob, sNext, ok_var0, ok_varS, List.map_cons, List.map_nil, List.length_cons, List.length_nil, List.replicate_succ, List.replicate_zero, List.cons_append, List.nil_append, List.getElem?_cons_zero, List.getElem?_cons_succ, List.set_cons_zero, List.set_cons_succ, Nat.reduceAdd, Nat.reduceSub, Nat.sub_self, Nat.zero_add, Nat.sub_zero]
  refine ok_allP row PV.int (fun x => isIn (.int x) 1 99) ?_ ?_ ?_
  · try simp only [if_true, if_false, Bool.false_eq_true, okS_nx, ok_trB, ok_trI, ok_bind, ok_bin, ok_un, ok_k, ok_cmp, ok_cmpT, ok_chain, ok_bl, ok_nil, ok_cons, ok_call, ok_callOp, ok_isi, ok_test, ok_andT, ok_orT, ok_notT, ok_isBl, ok_andV, ok_orV, ok_notV, ok_if, okS_next, okS_seq, okS_ret, okS_expr, okS_if, okS_set, ok_run, ok_src, ok_range, ok_ok, ok_obv, ok_ob, sNext, ok_var0, ok_varS, List.map_cons, List.map_nil, List.length_cons, List.length_nil, List.replicate_succ, List.replicate_zero, List.cons_append, List.nil_append, List.getElem?_cons_zero, List.getElem?_cons_succ, List.set_cons_zero, List.set_cons_succ, Nat.reduceAdd, Nat.reduceSub, Nat.sub_self, Nat.zero_add, Nat.sub_zero]
    have := hr.len
    refine ⟨by unfold loopFuel; omega, .refl _, fun h _ => srcIs_vals _ _⟩
  · intro x hx h hs
    refine ⟨_, rfl, ?_⟩
    simp only [wipeE]
    try simp only [if_true, if_false, Bool.false_eq_true, okS_nx, ok_trB, ok_trI, ok_bind, ok_bin, ok_un, ok_k, ok_cmp, ok_cmpT, ok_chain, ok_bl, ok_nil, ok_cons, ok_call, ok_callOp, ok_isi, ok_test, ok_andT, ok_orT, ok_notT, ok_isBl, ok_andV, ok_orV, ok_notV, ok_if, okS_next, okS_seq, okS_ret, okS_expr, okS_if, okS_set, ok_run, ok_src, ok_range, ok_ok, ok_obv, ok_ob, sNext, ok_var0, ok_varS, List.map_cons, List.map_nil, List.length_cons, List.length_nil, List.replicate_succ, List.replicate_zero, List.cons_append, List.nil_append, List.getElem?_cons_zero, List.getElem?_cons_succ, List.set_cons_zero, List.set_cons_succ, Nat.reduceAdd, Nat.reduceSub, Nat.sub_self, Nat.zero_add, Nat.sub_zero]
    exact is_between_s (t := "int") rfl ⟨rfl, .refl _⟩
  · intro h hs
    have : row.all (fun x => isIn (.int x) 1 99) = true := by
      rw [List.all_eq_true]
      intro x hx
      have := hr.num x hx
      simp [isIn, this.1, this.2]
    rw [this]
    exact q h hs
theorem check_row_s {row : List Int} (hr : IsRow row) {mh : MH} {Q : PV → MH → Prop} (q : ∀ v h, Sub mh h → Q v h) : Ok (f_check_row [iT row] mh) Q := by
  unfold f_check_row
  try simp only [if_true, if_false, Bool.false_eq_true, okS_nx, ok_trB, ok_trI, ok_bind, ok_bin, ok_un, ok_k, ok_cmp, ok_cmpT, ok_chain, ok_bl, ok_nil, ok_cons, ok_call, ok_callOp, ok_isi, ok_test, ok_andT, ok_orT, ok_notT, ok_isBl, ok_andV, ok_orV, ok_notV, ok_if, okS_next, okS_seq, okS_ret, okS_expr, okS_if, okS_set, ok_run, ok_src, ok_range, ok_ok, ok_obv, ok_ob, sNext, ok_var0, ok_varS, List.map_cons, List.map_nil, List.length_cons, List.length_nil, List.replicate_succ, List.replicate_zero, List.cons_append, List.nil_append, List.getElem?_cons_zero, List.getElem?_cons_succ, List.set_cons_zero, List.set_cons_succ, Nat.reduceAdd, Nat.reduceSub, Nat.sub_self, Nat.zero_add, Nat.sub_zero]
  refine is_row_s hr fun h hs => ?_
  try simp only [if_true, if_false, Bool.false_eq_true, okS_nx, ok_trB, ok_trI, ok_bind, ok_bin, ok_un, ok_k, ok_cmp, ok_cmpT, ok_chain, ok_bl, ok_nil, ok_cons, ok_call, ok_callOp, ok_isi, ok_test, ok_andT, ok_orT, ok_notT, ok_isBl, ok_andV, ok_orV, ok_notV, ok_if, okS_next, okS_seq, okS_ret, okS_expr, okS_if, okS_set, ok_run, ok_src, ok_range, ok_ok, ok_obv, ok_ob, sNext, ok_var0, ok_varS, List.map_cons, List.map_nil, List.length_cons, List.length_nil, List.replicate_succ, List.replicate_zero, List.cons_append, List.nil_append, List.getElem?_cons_zero, List.getElem?_cons_succ, List.set_cons_zero, List.set_cons_succ, Nat.reduceAdd, Nat.reduceSub, Nat.sub_self, Nat.zero_add, Nat.sub_zero]
  simp only [Bool.not_true, Bool.false_eq_true, if_false]
  try simp only [if_true, if_false, Bool.false_eq_true, okS_nx, ok_trB, ok_trI, ok_bind, ok_bin, ok_un, ok_k, ok_cmp, ok_cmpT, ok_chain, ok_bl, ok_nil, ok_cons, ok_call, ok_callOp, ok_isi, ok_test, ok_andT, ok_orT, ok_notT, ok_isBl, ok_andV, ok_orV, ok_notV, ok_if, okS_next, okS_seq, okS_ret, okS_expr, okS_if, okS_set, ok_run, ok_src, ok_range, ok_ok, ok_obv, ok_ob, sNext, ok_var0, ok_varS, List.map_cons, List.map_nil, List.length_cons, List.length_nil, List.replicate_succ, List.replicate_zero, List.cons_append, List.nil_append, List.getElem?_cons_zero, List.getElem?_cons_succ, List.set_cons_zero, List.set_cons_succ, Nat.reduceAdd, Nat.reduceSub, Nat.sub_self, Nat.zero_add, Nat.sub_zero]
  exact q _ _ hs
theorem cells_s {ns : List Int} {mh : MH} {m : Nat} (hm : m ≤ 100) (h0 : mh[0]? = some (.scr (ns.map PV.int))) (hn : ns.length ≤ 63) {Q : PV → MH → Prop} (q : ∀ k n h, k ≤ m + 1 → Sub mh h → h[n]? = some (.lst (iL ((List.range k).map fun (k : Nat) => (k : Int)))) → Q (.ref n) h) : Ok (f__law_cells [.ref 0, .int m] mh) Q := by
  unfold f__law_cells
  try simp only [if_true, if_false, Bool.false_eq_true, okS_nx, ok_trB, ok_trI, ok_bind, ok_bin, ok_un, ok_k, ok_cmp, ok_cmpT, ok_chain, ok_bl, ok_nil, ok_cons, ok_call, ok_callOp, ok_isi, ok_test, ok_andT, ok_orT, ok_notT, ok_isBl, ok_andV, ok_orV, ok_notV, ok_if, okS_next, okS_seq, okS_ret, okS_expr, okS_if, okS_set, ok_run, ok_src, ok_range, ok_ok, ok_obv, ok_ob, sNext, ok_var0, ok_varS, List.map_cons, List.map_nil, List.length_cons, List.length_nil, List.replicate_succ, List.replicate_zero, List.cons_append, List.nil_append, List.getElem?_cons_zero, List.getElem?_cons_succ, List.set_cons_zero, List.set_cons_succ, Nat.reduceAdd, Nat.reduceSub, Nat.sub_self, Nat.zero_add, Nat.sub_zero]
  refine ok_rg1 ?_
  try simp only [if_true, if_false, Bool.false_eq_true, okS_nx, ok_trB, ok_trI, ok_bind, ok_bin, ok_un, ok_k, ok_cmp, ok_cmpT, ok_chain, ok_bl, ok_nil, ok_cons, ok_call, ok_callOp, ok_isi, ok_test, ok_andT, ok_orT, ok_notT, ok_isBl, ok_andV, ok_orV, ok_notV, ok_if, okS_next, okS_seq, okS_ret, okS_expr, okS_if, okS_set, ok_run, ok_src, ok_range, ok_ok, ok_obv, ok_ob, sNext, ok_var0, ok_varS, List.map_cons, List.map_nil, List.length_cons, List.length_nil, List.replicate_succ, List.replicate_zero, List.cons_append, List.nil_append, List.getElem?_cons_zero, List.getElem?_cons_succ, List.set_cons_zero, List.set_cons_succ, Nat.reduceAdd, Nat.reduceSub, Nat.sub_self, Nat.zero_add, Nat.sub_zero]
  refine ok_len (seq_scr h0) ?_
  rw [List.length_map]
  have e1 : opMinA [.int m, .int (ns.length : Nat)] mh = .ok (.int (if (ns.length : Int) < (m : Int) then (ns.length : Int) else (m : Int))) mh := rfl
  rw [e1]
  try simp only [if_true, if_false, Bool.false_eq_true, okS_nx, ok_trB, ok_trI, ok_bind, ok_bin, ok_un, ok_k, ok_cmp, ok_cmpT, ok_chain, ok_bl, ok_nil, ok_cons, ok_call, ok_callOp, ok_isi, ok_test, ok_andT, ok_orT, ok_notT, ok_isBl, ok_andV, ok_orV, ok_notV, ok_if, okS_next, okS_seq, okS_ret, okS_expr, okS_if, okS_set, ok_run, ok_src, ok_range, ok_ok, ok_obv, ok_ob, sNext, ok_var0, ok_varS, List.map_cons, List.map_nil, List.length_cons, List.length_nil, List.replicate_succ, List.replicate_zero, List.cons_append, List.nil_append, List.getElem?_cons_zero, List.getElem?_cons_succ, List.set_cons_zero, List.set_cons_succ, Nat.reduceAdd, Nat.reduceSub, Nat.sub_self, Nat.zero_add, Nat.sub_zero]
  generalize ej : (if (ns.length : Int) < (m : Int) then (ns.length : Int) else (m : Int)) = j
  have hj : 0 ≤ j ∧ j ≤ m := by
    rw [← ej]
    split <;> omega
  have e2 : opMaxA [.int 1, .int j] mh = .ok (.int (if j > 1 then j else 1)) mh := rfl
  rw [e2]
  try simp only [if_true, if_false, Bool.false_eq_true, okS_nx, ok_trB, ok_trI, ok_bind, ok_bin, ok_un, ok_k, ok_cmp, ok_cmpT, ok_chain, ok_bl, ok_nil, ok_cons, ok_call, ok_callOp, ok_isi, ok_test, ok_andT, ok_orT, ok_notT, ok_isBl, ok_andV, ok_orV, ok_notV, ok_if, okS_next, okS_seq, okS_ret, okS_expr, okS_if, okS_set, ok_run, ok_src, ok_range, ok_ok, ok_obv, ok_ob, sNext, ok_var0, ok_varS, List.map_cons, List.map_nil, List.length_cons, List.length_nil, List.replicate_succ, List.replicate_zero, List.cons_append, List.nil_append, List.getElem?_cons_zero, List.getElem?_cons_succ, List.set_cons_zero, List.set_cons_succ, Nat.reduceAdd, Nat.reduceSub, Nat.sub_self, Nat.zero_add, Nat.sub_zero]
  generalize ei : (if j > 1 then j else 1) = i
  have hi : 0 ≤ i ∧ i ≤ m + 1 := by
    rw [← ei]
    split <;> omega
  obtain ⟨k, rfl⟩ := Int.eq_ofNat_of_zero_le hi.1
  exact ⟨_, rfl, ok_rgL (by omega) fun n h s f l => q k n h (by omega) s l⟩
end K49
namespace K49
open PySem PySem.Spec PyProof.Rows L2 RZ Ev
/-! ### the plain law: tracks pulled out, one behind the other -/
def col (d : List Int) (x : Nat) : Int := d.getD x 0
def bk (ts : List Int) (f : Nat → Int) (l : List Nat) : List Nat := (ts.map fun t => l.filter fun x => decide (f x = t)).flatten
theorem bk_mem {ts : List Int} {f : Nat → Int} {l : List Nat} (h : ∀ x ∈ l, f x ∈ ts) (x : Nat) : x ∈ bk ts f l ↔ x ∈ l := by
  unfold bk
  rw [List.mem_flatten]
  constructor
  · rintro ⟨k, hk, hx⟩
    obtain ⟨t, _, rfl⟩ := List.mem_map.mp hk
    exact (List.mem_filter.mp hx).1
  · intro hx
    exact ⟨_, List.mem_map.mpr ⟨f x, h x hx, rfl⟩, List.mem_filter.mpr ⟨hx, by simp⟩⟩
theorem bk_pw {ts : List Int} {f : Nat → Int} {l : List Nat} {R : Nat → Nat → Prop} (ht : ts.Pairwise (· < ·)) (hl : l.Pairwise R) : (bk ts f l).Pairwise fun x y => f x < f y ∨ (f x = f y ∧ R x y) := by
  unfold bk
  rw [List.pairwise_flatten]
  constructor
  · intro k hk
    obtain ⟨t, _, rfl⟩ := List.mem_map.mp hk
    refine List.Pairwise.imp_of_mem (fun {x y} hx hy r => ?_) (hl.filter _)
    have e1 : f x = t := by simpa using (List.mem_filter.mp hx).2
    have e2 : f y = t := by simpa using (List.mem_filter.mp hy).2
    exact .inr ⟨e1.trans e2.symm, r⟩
  · rw [List.pairwise_map]
    refine ht.imp fun {s t} hst x hx y hy => ?_
    have e1 : f x = s := by simpa using (List.mem_filter.mp hx).2
    have e2 : f y = t := by simpa using (List.mem_filter.mp hy).2
    exact .inl (by omega)
/-- the relation behind the deals ds, the last one first -/
def RB (B : Nat → Nat → Prop) : List (List Int) → Nat → Nat → Prop
  | [], x, y => B x y
  | d :: ds, x, y => col d x < col d y ∨ (col d x = col d y ∧ RB B ds x y)
theorem rb_asym {B : Nat → Nat → Prop} (hB : ∀ x y, B x y → B y x → False) : ∀ (ds : List (List Int)) (x y : Nat), RB B ds x y → RB B ds y x → False
  | [], x, y, h, k => hB x y h k
  | d :: ds, x, y, h, k => by
    rcases h with h | ⟨e, h⟩ <;> rcases k with k | ⟨e', k⟩
    · omega
    · omega
    · omega
    · exact rb_asym hB ds x y h k
theorem rb_snoc {B : Nat → Nat → Prop} (d : List Int) : ∀ (ds : List (List Int)) (x y : Nat), RB B (ds ++ [d]) x y ↔ RB (fun x y => col d x < col d y ∨ (col d x = col d y ∧ B x y)) ds x y
  | [], x, y => Iff.rfl
  | c :: ds, x, y => by
    simp only [List.cons_append, RB, rb_snoc d ds x y]
structure Ord (R : Nat → Nat → Prop) (n : Nat) (l : List Nat) : Prop where
  pw : l.Pairwise R
  mem : ∀ x, x ∈ l ↔ x < n
theorem uniq {R : Nat → Nat → Prop} (as : ∀ x y, R x y → R y x → False) : ∀ {a b : List Nat}, a.Pairwise R → b.Pairwise R → (∀ x, x ∈ a ↔ x ∈ b) → a = b
  | [], [], _, _, _ => rfl
  | [], y :: b, _, _, h => absurd ((h y).mpr (List.mem_cons_self ..)) (by simp)
  | x :: a, [], _, _, h => absurd ((h x).mp (List.mem_cons_self ..)) (by simp)
  | x :: a, y :: b, ha, hb, h => by
    have ha' := List.pairwise_cons.mp ha
    have hb' := List.pairwise_cons.mp hb
    have e : x = y := by
      rcases List.mem_cons.mp ((h x).mp (List.mem_cons_self ..)) with q | q
      · exact q
      · rcases List.mem_cons.mp ((h y).mpr (List.mem_cons_self ..)) with q2 | q2
        · exact q2.symm
        · exact (as _ _ (ha'.1 y q2) (hb'.1 x q)).elim
    subst e
    refine congrArg (x :: ·) (uniq as ha'.2 hb'.2 fun z => ⟨fun hz => ?_, fun hz => ?_⟩)
    · rcases List.mem_cons.mp ((h z).mp (List.mem_cons_of_mem _ hz)) with q | q
      · subst q
        exact (as _ _ (ha'.1 z hz) (ha'.1 z hz)).elim
      · exact q
    · rcases List.mem_cons.mp ((h z).mpr (List.mem_cons_of_mem _ hz)) with q | q
      · subst q
        exact (as _ _ (hb'.1 z hz) (hb'.1 z hz)).elim
      · exact q
theorem Ord.one {R : Nat → Nat → Prop} {n : Nat} {a b : List Nat} (as : ∀ x y, R x y → R y x → False) (h : Ord R n a) (k : Ord R n b) : a = b := uniq as h.pw k.pw fun x => (h.mem x).trans (k.mem x).symm
theorem Ord.imp {R S : Nat → Nat → Prop} {n : Nat} {a : List Nat} (h : Ord R n a) (f : ∀ x y, x < n → y < n → R x y → S x y) : Ord S n a :=
  ⟨List.Pairwise.imp_of_mem (fun {x y} hx hy r => f x y ((h.mem x).mp hx) ((h.mem y).mp hy) r) h.pw, h.mem⟩
theorem ord_range (n : Nat) : Ord (RB (· < ·) []) n (List.range n) := ⟨List.pairwise_lt_range, fun x => List.mem_range⟩
theorem Ord.bk {ts : List Int} {f : Nat → Int} {n : Nat} {l : List Nat} {R : Nat → Nat → Prop} (ht : ts.Pairwise (· < ·)) (h : ∀ x < n, f x ∈ ts) (o : Ord R n l) : Ord (fun x y => f x < f y ∨ (f x = f y ∧ R x y)) n (bk ts f l) :=
  ⟨bk_pw ht o.pw, fun x => (bk_mem (fun y hy => h y ((o.mem y).mp hy)) x).trans (o.mem x)⟩
theorem Ord.len {R : Nat → Nat → Prop} {n : Nat} {l : List Nat} (ir : ∀ x, ¬ R x x) (o : Ord R n l) : l.length = n := by
  have nd : l.Nodup := by
    unfold List.Nodup
    exact o.pw.imp fun {x y} r (e : x = y) => ir y (by rw [e] at r; exact r)
  have p : l.Perm (List.range n) := (List.perm_ext_iff_of_nodup nd List.nodup_range).mpr fun x => (o.mem x).trans List.mem_range.symm
  rw [p.length_eq, List.length_range]
/-! ### codes -/
def hc : List (List Int) → List Int → Nat → Int
  | d :: ds, m :: ms, x => col d x + m * hc ds ms x
  | _, _, _ => 0
def prodI : List Int → Int
  | [] => 1
  | m :: ms => m * prodI ms
/-- deals and tracks that fit -/
structure Fit (n : Nat) (ds : List (List Int)) (ms : List Int) : Prop where
  len : ds.length = ms.length
  row : ∀ d ∈ ds, d.length = n
  dig : ∀ p ∈ ds.zip ms, 0 < p.2 ∧ ∀ t ∈ p.1, 0 ≤ t ∧ t < p.2
theorem Fit.cons {n : Nat} {d : List Int} {ds : List (List Int)} {m : Int} {ms : List Int} (f : Fit n (d :: ds) (m :: ms)) : d.length = n ∧ 0 < m ∧ (∀ t ∈ d, 0 ≤ t ∧ t < m) ∧ Fit n ds ms := by
  have h := f.dig (d, m) (by simp)
  exact ⟨f.row d (by simp), h.1, h.2, ⟨Nat.succ.inj f.len, fun e he => f.row e (List.mem_cons_of_mem _ he), fun p hp => f.dig p (by rw [List.zip_cons_cons]; exact List.mem_cons_of_mem _ hp)⟩⟩
theorem col_mem {d : List Int} {x : Nat} (h : x < d.length) : col d x ∈ d := by
  unfold col
  rw [List.getD_eq_getElem?_getD, List.getElem?_eq_getElem h]
  exact List.getElem_mem h
theorem col_at {d : List Int} {x : Nat} (h : x < d.length) : d[x]? = some (col d x) := by
  unfold col
  rw [List.getD_eq_getElem?_getD, List.getElem?_eq_getElem h]
  rfl
theorem hc_bd {n : Nat} : ∀ {ds : List (List Int)} {ms : List Int}, Fit n ds ms → ∀ x < n, 0 ≤ hc ds ms x ∧ hc ds ms x < prodI ms
  | [], [], _, x, _ => by simp [hc, prodI]
  | [], _ :: _, f, _, _ => absurd f.len (by simp)
  | _ :: _, [], f, _, _ => absurd f.len (by simp)
  | d :: ds, m :: ms, f, x, hx => by
    obtain ⟨f1, f2, f3, f4⟩ := f.cons
    obtain ⟨h1, h2⟩ := hc_bd f4 x hx
    obtain ⟨g1, g2⟩ := f3 _ (col_mem (d := d) (x := x) (by omega))
    simp only [hc, prodI]
    have e1 : 0 ≤ m * hc ds ms x := Int.mul_nonneg (by omega) h1
    have e2 : m * hc ds ms x ≤ m * (prodI ms - 1) := Int.mul_le_mul_of_nonneg_left (by omega) (by omega)
    have e3 : m * (prodI ms - 1) = m * prodI ms - m := by rw [Int.mul_sub, Int.mul_one]
    omega
theorem prodI_pos {n : Nat} : ∀ {ds : List (List Int)} {ms : List Int}, Fit n ds ms → 0 < prodI ms
  | [], [], _ => by simp [prodI]
  | [], _ :: _, f => absurd f.len (by simp)
  | _ :: _, [], f => absurd f.len (by simp)
  | d :: ds, m :: ms, f => by
    obtain ⟨f1, f2, f3, f4⟩ := f.cons
    simp only [prodI]
    exact Int.mul_pos f2 (prodI_pos f4)
theorem rb_hc {n : Nat} {x y : Nat} (hx : x < n) (hy : y < n) : ∀ {ds : List (List Int)} {ms : List Int} {B : Nat → Nat → Prop}, Fit n ds ms → RB B ds.reverse x y → hc ds ms x < hc ds ms y ∨ (hc ds ms x = hc ds ms y ∧ B x y)
  | [], [], B, _, h => .inr ⟨rfl, h⟩
  | [], _ :: _, B, f, _ => absurd f.len (by simp)
  | _ :: _, [], B, f, _ => absurd f.len (by simp)
  | d :: ds, m :: ms, B, f, h => by
    obtain ⟨f1, f2, f3, f4⟩ := f.cons
    rw [List.reverse_cons, rb_snoc] at h
    obtain ⟨g1, g2⟩ := f3 _ (col_mem (d := d) (x := x) (by omega))
    obtain ⟨k1, k2⟩ := f3 _ (col_mem (d := d) (x := y) (by omega))
    simp only [hc]
    rcases rb_hc hx hy f4 h with q | ⟨q, q2⟩
    · have e1 : m * (hc ds ms x + 1) ≤ m * hc ds ms y := Int.mul_le_mul_of_nonneg_left (by omega) (by omega)
      rw [Int.mul_add, Int.mul_one] at e1
      exact .inl (by omega)
    · rw [q]
      rcases q2 with q2 | ⟨q2, q3⟩
      · exact .inl (by omega)
      · exact .inr ⟨by omega, q3⟩
/-- by codes, by cars -/
def CL (f : Nat → Int) (x y : Nat) : Prop := f x < f y ∨ (f x = f y ∧ x < y)
theorem cl_asym (f : Nat → Int) : ∀ x y, CL f x y → CL f y x → False := fun x y h k => by
  unfold CL at h k
  omega
/-! ### the loops' steps -/
def cstep (s : List Int × Int) (p : List Int × Int) : List Int × Int := (List.zipWith (fun c t => c + s.2 * t) s.1 p.1, s.2 * p.2)
theorem cfold {n : Nat} : ∀ {ds : List (List Int)} {ms : List Int} (l : List Int) (t : Int), l.length = n → Fit n ds ms → (ds.zip ms).foldl cstep (l, t) = ((List.range n).map fun x => col l x + t * hc ds ms x, t * prodI ms)
  | [], [], l, t, hl, _ => by
    have : (List.range n).map (fun x => col l x) = l := by
      rw [← hl]
      refine List.ext_getElem? fun i => ?_
      rw [List.getElem?_map]
      by_cases h : i < l.length
      · rw [List.getElem?_range h, col_at h]
        rfl
      · rw [List.getElem?_eq_none_iff.mpr (by simp; omega), List.getElem?_eq_none_iff.mpr (by omega)]
        rfl
    simp [hc, prodI, this]
  | [], _ :: _, l, t, _, f => absurd f.len (by simp)
  | _ :: _, [], l, t, _, f => absurd f.len (by simp)
  | d :: ds, m :: ms, l, t, hl, f => by
    obtain ⟨f1, f2, f3, f4⟩ := f.cons
    rw [List.zip_cons_cons, List.foldl_cons]
    have hl2 : (List.zipWith (fun c u => c + t * u) l d).length = n := by rw [List.length_zipWith]; omega
    show List.foldl cstep (List.zipWith (fun c u => c + t * u) l d, t * m) (ds.zip ms) = _
    rw [cfold _ _ hl2 f4]
    refine Prod.ext ?_ ?_
    · refine List.map_congr_left fun x hx => ?_
      have hx : x < n := List.mem_range.mp hx
      have e : col (List.zipWith (fun c u => c + t * u) l d) x = col l x + t * col d x := by
        unfold col
        rw [List.getD_eq_getElem?_getD, List.getElem?_zipWith, col_at (d := l) (by omega), col_at (d := d) (by omega)]
        rfl
      rw [e]
      show _ = col l x + t * (col d x + m * hc ds ms x)
      rw [Int.mul_add, Int.mul_assoc]
      omega
    · show t * m * prodI ms = t * (m * prodI ms)
      rw [Int.mul_assoc]
def figs : List Int → List Int → List (List Int)
  | _, [] => []
  | cs, m :: ms => cs.map (· % m) :: figs (cs.map (· / m)) ms
theorem figs_hc {n : Nat} : ∀ {ds : List (List Int)} {ms : List Int}, Fit n ds ms → figs ((List.range n).map (hc ds ms)) ms = ds
  | [], [], _ => rfl
  | [], _ :: _, f => absurd f.len (by simp)
  | _ :: _, [], f => absurd f.len (by simp)
  | d :: ds, m :: ms, f => by
    obtain ⟨f1, f2, f3, f4⟩ := f.cons
    have e1 : ((List.range n).map (hc (d :: ds) (m :: ms))).map (· % m) = d := by
      rw [List.map_map]
      refine List.ext_getElem? fun i => ?_
      rw [List.getElem?_map]
      by_cases h : i < n
      · rw [List.getElem?_range h, col_at (by omega)]
        obtain ⟨g1, g2⟩ := f3 _ (col_mem (d := d) (x := i) (by omega))
        show some ((col d i + m * hc ds ms i) % m) = _
        rw [Int.add_mul_emod_self_left, Int.emod_eq_of_lt g1 g2]
      · rw [List.getElem?_eq_none_iff.mpr (by simp; omega), List.getElem?_eq_none_iff.mpr (by omega)]
        rfl
    have e2 : ((List.range n).map (hc (d :: ds) (m :: ms))).map (· / m) = (List.range n).map (hc ds ms) := by
      rw [List.map_map]
      refine List.map_congr_left fun x hx => ?_
      have hx : x < n := List.mem_range.mp hx
      obtain ⟨g1, g2⟩ := f3 _ (col_mem (d := d) (x := x) (by omega))
      show (col d x + m * hc ds ms x) / m = _
      rw [Int.add_mul_ediv_left _ _ (by omega), Int.ediv_eq_zero_of_lt g1 g2]
      omega
    simp only [figs, e1, e2, figs_hc f4]
/-! ### sorted by codes, by cars -/
theorem sort_ord (c : Nat → Int) (n : Nat) : ∃ l, Ord (CL c) n l ∧ sortBy false ((List.range n).map fun k => PV.int (k : Nat)) ((List.range n).map fun k => PyData.tuple [.int (c k), .int (k : Nat)]) = l.map fun k => PV.int (k : Nat) := by
  let le : Nat → Nat → Bool := fun a b => decide (c a < c b ∨ (c a = c b ∧ (a : Int) ≤ b))
  have hle : le = PySem.W.dataLe false fun b : Nat => PyData.tuple [.int (c b), .int (b : Nat)] := (PySem.W.dataLe_ii c fun b => (b : Int)).symm
  have tr : ∀ a b d : Nat, le a b = true → le b d = true → le a d = true := fun a b d h k => by
    simp only [le, decide_eq_true_eq] at h k ⊢
    omega
  have tot : ∀ a b : Nat, (le a b || le b a) = true := fun a b => by
    simp only [le, Bool.or_eq_true, decide_eq_true_eq]
    omega
  refine ⟨(List.range n).mergeSort le, ⟨?_, fun x => by rw [List.mem_mergeSort, List.mem_range]⟩, ?_⟩
  · have p1 := List.pairwise_mergeSort tr tot (List.range n)
    have nd : ((List.range n).mergeSort le).Nodup := (List.mergeSort_perm _ _).nodup_iff.mpr List.nodup_range
    refine (p1.and nd).imp fun {a b} h => ?_
    obtain ⟨h1, h2⟩ := h
    have h1 : le a b = true := h1
    simp only [le, decide_eq_true_eq] at h1
    unfold CL
    omega
  · unfold sortBy
    have e : ((List.range n).map fun k => PV.int (k : Nat)).zip ((List.range n).map fun k => PyData.tuple [.int (c k), .int (k : Nat)]) = (List.range n).map fun k => (PV.int (k : Nat), PyData.tuple [.int (c k), .int (k : Nat)]) := by
      rw [List.zip_map']
    rw [e, ← List.map_mergeSort (r := le) (fun a _ b _ => by rw [hle]; rfl), List.map_map]
    rfl
end K49
namespace K49
open PySem PySem.Spec PyProof.Rows L2 RZ Ev
abbrev nP (l : List Nat) : List PV := l.map fun k => PV.int (k : Nat)
theorem insU_len (x : Int) : ∀ l : List Int, (insU x l).length ≤ l.length + 1
  | [] => Nat.le_refl _
  | y :: ys => by
    unfold insU
    have := insU_len x ys
    split
    · simp
    · split <;> simp <;> omega
theorem sortU_len : ∀ l : List Int, (sortU l).length ≤ l.length
  | [] => Nat.le_refl _
  | x :: xs => by
    have := sortU_len xs
    have h := insU_len x (sortU xs)
    simp only [sortU, List.length_cons]
    omega
theorem bk_len (ts : List Int) (f : Nat → Int) (l : List Nat) : (bk ts f l).length ≤ ts.length * l.length := by
  unfold bk
  induction ts with
  | nil => simp
  | cons t ts ih =>
    simp only [List.map_cons, List.flatten_cons, List.length_append, List.length_cons, Nat.add_mul, Nat.one_mul]
    have := List.length_filter_le (fun x => decide (f x = t)) l
    omega
theorem bk_snoc (ts : List Int) (t : Int) (f : Nat → Int) (l : List Nat) : bk (ts ++ [t]) f l = bk ts f l ++ l.filter fun x => decide (f x = t) := by
  unfold bk
  rw [List.map_append, List.flatten_append]
  simp
section
variable {mh h : MH} {Q : PV → MH → Prop}
theorem ok_setT {l : List Int} (hl : l.length + 1 < scanBound) (q : ∀ n h2, Sub h h2 → h[n]? = none → h2[n]? = some (.iset l) → Q (.ref n) h2) : Ok (opSet [iT l] h) Q := by
  simp only [opSet, intsOf_iL]
  rw [if_pos hl]
  exact q _ _ (.push _ _) (Sub.refl h).new (at_push _ _)
theorem ok_sortedSet {n : Nat} {l : List Int} (e : h[n]? = some (.iset l)) (hl : l.length < 64) (q : NewL h (iL (sortU l)) Q) : Ok (opSorted [.ref n] h) Q := by
  simp only [opSorted, e]
  rw [if_pos hl]
  exact q.at
/-- deals: at most eight, each of a track from 0 to 29 for each car -/
structure IsDeals (n : Nat) (ds : List (List Int)) : Prop where
  len : ds.length ≤ 8
  row : ∀ d ∈ ds, d.length = n
  dig : ∀ d ∈ ds, ∀ t ∈ d, 0 ≤ t ∧ t ≤ 29
/-- codes: as many as cars, none below 0 -/
structure IsCodes (n : Nat) (cs : List Int) : Prop where
  len : cs.length = n
  pos : ∀ c ∈ cs, 0 ≤ c
structure IsTracks (ms : List Int) : Prop where
  len : ms.length ≤ 8
  num : ∀ m ∈ ms, 1 ≤ m ∧ m ≤ 30
theorem are_codes_s {row cs : List Int} (hr : row.length ≤ 30) (hc : IsCodes row.length cs) (q : ∀ h, Sub mh h → Q (.bl true) h) : Ok (f_are_codes [iT row, iT cs] mh) Q := by
  unfold f_are_codes
  try simp only [if_true, if_false, Bool.false_eq_true, okS_nx, ok_trB, ok_trI, ok_bind, ok_bin, ok_un, ok_k, ok_cmp, ok_cmpT, ok_chain, ok_bl, ok_nil, ok_cons, ok_call, ok_callOp, ok_isi, ok_test, ok_andT, ok_orT, ok_notT, ok_isBl, ok_andV, ok_orV, ok_notV, ok_if, okS_next, okS_seq, okS_ret, okS_expr, okS_if, okS_set, ok_run, ok_src, ok_range, ok_ok, ok_obv, ok_ob, sNext, ok_var0, ok_varS, List.map_cons, List.map_nil, List.length_cons, List.length_nil, List.replicate_succ, List.replicate_zero, List.cons_append, List.nil_append, List.getElem?_cons_zero, List.getElem?_cons_succ, List.set_cons_zero, List.set_cons_succ, Nat.reduceAdd, Nat.reduceSub, Nat.sub_self, Nat.zero_add, Nat.sub_zero]
  rw [ok_isTy (t := "tuple") (by simp) rfl]
  try simp only [if_true, if_false, Bool.false_eq_true, okS_nx, ok_trB, ok_trI, ok_bind, ok_bin, ok_un, ok_k, ok_cmp, ok_cmpT, ok_chain, ok_bl, ok_nil, ok_cons, ok_call, ok_callOp, ok_isi, ok_test, ok_andT, ok_orT, ok_notT, ok_isBl, ok_andV, ok_orV, ok_notV, ok_if, okS_next, okS_seq, okS_ret, okS_expr, okS_if, okS_set, ok_run, ok_src, ok_range, ok_ok, ok_obv, ok_ob, sNext, ok_var0, ok_varS, List.map_cons, List.map_nil, List.length_cons, List.length_nil, List.replicate_succ, List.replicate_zero, List.cons_append, List.nil_append, List.getElem?_cons_zero, List.getElem?_cons_succ, List.set_cons_zero, List.set_cons_succ, Nat.reduceAdd, Nat.reduceSub, Nat.sub_self, Nat.zero_add, Nat.sub_zero]
  simp only [show tyIs "tuple" "tuple" = true from rfl, Bool.not_true, Bool.false_eq_true, if_false]
  try simp only [if_true, if_false, Bool.false_eq_true, okS_nx, ok_trB, ok_trI, ok_bind, ok_bin, ok_un, ok_k, ok_cmp, ok_cmpT, ok_chain, ok_bl, ok_nil, ok_cons, ok_call, ok_callOp, ok_isi, ok_test, ok_andT, ok_orT, ok_notT, ok_isBl, ok_andV, ok_orV, ok_notV, ok_if, okS_next, okS_seq, okS_ret, okS_expr, okS_if, okS_set, ok_run, ok_src, ok_range, ok_ok, ok_obv, ok_ob, sNext, ok_var0, ok_varS, List.map_cons, List.map_nil, List.length_cons, List.length_nil, List.replicate_succ, List.replicate_zero, List.cons_append, List.nil_append, List.getElem?_cons_zero, List.getElem?_cons_succ, List.set_cons_zero, List.set_cons_succ, Nat.reduceAdd, Nat.reduceSub, Nat.sub_self, Nat.zero_add, Nat.sub_zero]
  refine ok_len (seq_tup _) ?_
  refine ok_len (seq_tup _) ?_
  refine ⟨_, neD_int, ?_⟩
  have e : ((iL cs).length : Int) = ((iL row).length : Int) := by
    have := hc.len
    simp only [List.length_map]
    omega
  simp only [e, decide_true, Bool.not_true, Bool.false_eq_true, if_false]
  try simp only [if_true, if_false, Bool.false_eq_true, okS_nx, ok_trB, ok_trI, ok_bind, ok_bin, ok_un, ok_k, ok_cmp, ok_cmpT, ok_chain, ok_bl, ok_nil, ok_cons, ok_call, ok_callOp, ok_isi, ok_test, ok_andT, ok_orT, ok_notT, ok_isBl, ok_andV, ok_orV, ok_notV, ok_if, okS_next, okS_seq, okS_ret, okS_expr, okS_if, okS_set, ok_run, ok_src, ok_range, ok_ok, ok_obv, ok_ob, sNext, ok_var0, ok_varS, List.map_cons, List.map_nil, List.length_cons, List.length_nil, List.replicate_succ, List.replicate_zero, List.cons_append, List.nil_append, List.getElem?_cons_zero, List.getElem?_cons_succ, List.set_cons_zero, List.set_cons_succ, Nat.reduceAdd, Nat.reduceSub, Nat.sub_self, Nat.zero_add, Nat.sub_zero]
  refine ok_allP cs PV.int (fun x => decide (0 ≤ x)) ?_ ?_ ?_
  · try simp only [if_true, if_false, Bool.false_eq_true, okS_nx, ok_trB, ok_trI, ok_bind, ok_bin, ok_un, ok_k, ok_cmp, ok_cmpT, ok_chain, ok_bl, ok_nil, ok_cons, ok_call, ok_callOp, ok_isi, ok_test, ok_andT, ok_orT, ok_notT, ok_isBl, ok_andV, ok_orV, ok_notV, ok_if, okS_next, okS_seq, okS_ret, okS_expr, okS_if, okS_set, ok_run, ok_src, ok_range, ok_ok, ok_obv, ok_ob, sNext, ok_var0, ok_varS, List.map_cons, List.map_nil, List.length_cons, List.length_nil, List.replicate_succ, List.replicate_zero, List.cons_append, List.nil_append, List.getElem?_cons_zero, List.getElem?_cons_succ, List.set_cons_zero, List.set_cons_succ, Nat.reduceAdd, Nat.reduceSub, Nat.sub_self, Nat.zero_add, Nat.sub_zero]
    have := hc.len
    refine ⟨by unfold loopFuel; omega, .refl _, fun h _ => srcIs_vals _ _⟩
  · intro x hx h hs
    refine ⟨_, rfl, ?_⟩
    simp only [wipeE]
    try simp only [if_true, if_false, Bool.false_eq_true, okS_nx, ok_trB, ok_trI, ok_bind, ok_bin, ok_un, ok_k, ok_cmp, ok_cmpT, ok_chain, ok_bl, ok_nil, ok_cons, ok_call, ok_callOp, ok_isi, ok_test, ok_andT, ok_orT, ok_notT, ok_isBl, ok_andV, ok_orV, ok_notV, ok_if, okS_next, okS_seq, okS_ret, okS_expr, okS_if, okS_set, ok_run, ok_src, ok_range, ok_ok, ok_obv, ok_ob, sNext, ok_var0, ok_varS, List.map_cons, List.map_nil, List.length_cons, List.length_nil, List.replicate_succ, List.replicate_zero, List.cons_append, List.nil_append, List.getElem?_cons_zero, List.getElem?_cons_succ, List.set_cons_zero, List.set_cons_succ, Nat.reduceAdd, Nat.reduceSub, Nat.sub_self, Nat.zero_add, Nat.sub_zero]
    refine is_integer_s (t := "int") rfl ?_
    try simp only [if_true, if_false, Bool.false_eq_true, okS_nx, ok_trB, ok_trI, ok_bind, ok_bin, ok_un, ok_k, ok_cmp, ok_cmpT, ok_chain, ok_bl, ok_nil, ok_cons, ok_call, ok_callOp, ok_isi, ok_test, ok_andT, ok_orT, ok_notT, ok_isBl, ok_andV, ok_orV, ok_notV, ok_if, okS_next, okS_seq, okS_ret, okS_expr, okS_if, okS_set, ok_run, ok_src, ok_range, ok_ok, ok_obv, ok_ob, sNext, ok_var0, ok_varS, List.map_cons, List.map_nil, List.length_cons, List.length_nil, List.replicate_succ, List.replicate_zero, List.cons_append, List.nil_append, List.getElem?_cons_zero, List.getElem?_cons_succ, List.set_cons_zero, List.set_cons_succ, Nat.reduceAdd, Nat.reduceSub, Nat.sub_self, Nat.zero_add, Nat.sub_zero]
    simp only [isI, if_true]
    try simp only [if_true, if_false, Bool.false_eq_true, okS_nx, ok_trB, ok_trI, ok_bind, ok_bin, ok_un, ok_k, ok_cmp, ok_cmpT, ok_chain, ok_bl, ok_nil, ok_cons, ok_call, ok_callOp, ok_isi, ok_test, ok_andT, ok_orT, ok_notT, ok_isBl, ok_andV, ok_orV, ok_notV, ok_if, okS_next, okS_seq, okS_ret, okS_expr, okS_if, okS_set, ok_run, ok_src, ok_range, ok_ok, ok_obv, ok_ob, sNext, ok_var0, ok_varS, List.map_cons, List.map_nil, List.length_cons, List.length_nil, List.replicate_succ, List.replicate_zero, List.cons_append, List.nil_append, List.getElem?_cons_zero, List.getElem?_cons_succ, List.set_cons_zero, List.set_cons_succ, Nat.reduceAdd, Nat.reduceSub, Nat.sub_self, Nat.zero_add, Nat.sub_zero]
    exact ⟨_, rfl, rfl, .refl _⟩
  · intro h hs
    have : cs.all (fun x => decide (0 ≤ x)) = true := by
      rw [List.all_eq_true]
      intro x hx
      exact decide_eq_true (hc.pos x hx)
    rw [this]
    exact q h hs
theorem check_codes_s {row cs : List Int} (hr : row.length ≤ 30) (hc : IsCodes row.length cs) (q : ∀ v h, Sub mh h → Q v h) : Ok (f_check_codes [iT row, iT cs] mh) Q := by
  unfold f_check_codes
  try simp only [if_true, if_false, Bool.false_eq_true, okS_nx, ok_trB, ok_trI, ok_bind, ok_bin, ok_un, ok_k, ok_cmp, ok_cmpT, ok_chain, ok_bl, ok_nil, ok_cons, ok_call, ok_callOp, ok_isi, ok_test, ok_andT, ok_orT, ok_notT, ok_isBl, ok_andV, ok_orV, ok_notV, ok_if, okS_next, okS_seq, okS_ret, okS_expr, okS_if, okS_set, ok_run, ok_src, ok_range, ok_ok, ok_obv, ok_ob, sNext, ok_var0, ok_varS, List.map_cons, List.map_nil, List.length_cons, List.length_nil, List.replicate_succ, List.replicate_zero, List.cons_append, List.nil_append, List.getElem?_cons_zero, List.getElem?_cons_succ, List.set_cons_zero, List.set_cons_succ, Nat.reduceAdd, Nat.reduceSub, Nat.sub_self, Nat.zero_add, Nat.sub_zero]
  refine are_codes_s hr hc fun h hs => ?_
  try simp only [if_true, if_false, Bool.false_eq_true, okS_nx, ok_trB, ok_trI, ok_bind, ok_bin, ok_un, ok_k, ok_cmp, ok_cmpT, ok_chain, ok_bl, ok_nil, ok_cons, ok_call, ok_callOp, ok_isi, ok_test, ok_andT, ok_orT, ok_notT, ok_isBl, ok_andV, ok_orV, ok_notV, ok_if, okS_next, okS_seq, okS_ret, okS_expr, okS_if, okS_set, ok_run, ok_src, ok_range, ok_ok, ok_obv, ok_ob, sNext, ok_var0, ok_varS, List.map_cons, List.map_nil, List.length_cons, List.length_nil, List.replicate_succ, List.replicate_zero, List.cons_append, List.nil_append, List.getElem?_cons_zero, List.getElem?_cons_succ, List.set_cons_zero, List.set_cons_succ, Nat.reduceAdd, Nat.reduceSub, Nat.sub_self, Nat.zero_add, Nat.sub_zero]
  simp only [Bool.not_true, Bool.false_eq_true, if_false]
  try simp only [if_true, if_false, Bool.false_eq_true, okS_nx, ok_trB, ok_trI, ok_bind, ok_bin, ok_un, ok_k, ok_cmp, ok_cmpT, ok_chain, ok_bl, ok_nil, ok_cons, ok_call, ok_callOp, ok_isi, ok_test, ok_andT, ok_orT, ok_notT, ok_isBl, ok_andV, ok_orV, ok_notV, ok_if, okS_next, okS_seq, okS_ret, okS_expr, okS_if, okS_set, ok_run, ok_src, ok_range, ok_ok, ok_obv, ok_ob, sNext, ok_var0, ok_varS, List.map_cons, List.map_nil, List.length_cons, List.length_nil, List.replicate_succ, List.replicate_zero, List.cons_append, List.nil_append, List.getElem?_cons_zero, List.getElem?_cons_succ, List.set_cons_zero, List.set_cons_succ, Nat.reduceAdd, Nat.reduceSub, Nat.sub_self, Nat.zero_add, Nat.sub_zero]
  exact q _ _ hs
theorem are_deals_s {row : List Int} {ds : List (List Int)} (hr : row.length ≤ 30) (hd : IsDeals row.length ds) (q : ∀ h, Sub mh h → Q (.bl true) h) : Ok (f_are_deals [iT row, .tup (ds.map iT)] mh) Q := by
  have h8 := hd.len
  unfold f_are_deals
  try simp only [if_true, if_false, Bool.false_eq_true, okS_nx, ok_trB, ok_trI, ok_bind, ok_bin, ok_un, ok_k, ok_cmp, ok_cmpT, ok_chain, ok_bl, ok_nil, ok_cons, ok_call, ok_callOp, ok_isi, ok_test, ok_andT, ok_orT, ok_notT, ok_isBl, ok_andV, ok_orV, ok_notV, ok_if, okS_next, okS_seq, okS_ret, okS_expr, okS_if, okS_set, ok_run, ok_src, ok_range, ok_ok, ok_obv, ok_ob, sNext, ok_var0, ok_varS, List.map_cons, List.map_nil, List.length_cons, List.length_nil, List.replicate_succ, List.replicate_zero, List.cons_append, List.nil_append, List.getElem?_cons_zero, List.getElem?_cons_succ, List.set_cons_zero, List.set_cons_succ, Nat.reduceAdd, Nat.reduceSub, Nat.sub_self, Nat.zero_add, Nat.sub_zero]
  rw [ok_isTy (t := "tuple") (by simp) rfl]
  try simp only [if_true, if_false, Bool.false_eq_true, okS_nx, ok_trB, ok_trI, ok_bind, ok_bin, ok_un, ok_k, ok_cmp, ok_cmpT, ok_chain, ok_bl, ok_nil, ok_cons, ok_call, ok_callOp, ok_isi, ok_test, ok_andT, ok_orT, ok_notT, ok_isBl, ok_andV, ok_orV, ok_notV, ok_if, okS_next, okS_seq, okS_ret, okS_expr, okS_if, okS_set, ok_run, ok_src, ok_range, ok_ok, ok_obv, ok_ob, sNext, ok_var0, ok_varS, List.map_cons, List.map_nil, List.length_cons, List.length_nil, List.replicate_succ, List.replicate_zero, List.cons_append, List.nil_append, List.getElem?_cons_zero, List.getElem?_cons_succ, List.set_cons_zero, List.set_cons_succ, Nat.reduceAdd, Nat.reduceSub, Nat.sub_self, Nat.zero_add, Nat.sub_zero]
  simp only [show tyIs "tuple" "tuple" = true from rfl, Bool.not_true, Bool.false_eq_true, if_false]
  try simp only [if_true, if_false, Bool.false_eq_true, okS_nx, ok_trB, ok_trI, ok_bind, ok_bin, ok_un, ok_k, ok_cmp, ok_cmpT, ok_chain, ok_bl, ok_nil, ok_cons, ok_call, ok_callOp, ok_isi, ok_test, ok_andT, ok_orT, ok_notT, ok_isBl, ok_andV, ok_orV, ok_notV, ok_if, okS_next, okS_seq, okS_ret, okS_expr, okS_if, okS_set, ok_run, ok_src, ok_range, ok_ok, ok_obv, ok_ob, sNext, ok_var0, ok_varS, List.map_cons, List.map_nil, List.length_cons, List.length_nil, List.replicate_succ, List.replicate_zero, List.cons_append, List.nil_append, List.getElem?_cons_zero, List.getElem?_cons_succ, List.set_cons_zero, List.set_cons_succ, Nat.reduceAdd, Nat.reduceSub, Nat.sub_self, Nat.zero_add, Nat.sub_zero]
  refine ok_len (seq_tup _) ?_
  refine ⟨_, rfl, ?_⟩
  have hl : ¬ (8 : Int) < ((ds.map iT).length : Nat) := by
    simp only [List.length_map]
    omega
  simp only [hl, decide_false, Bool.false_eq_true, if_false]
  try simp only [if_true, if_false, Bool.false_eq_true, okS_nx, ok_trB, ok_trI, ok_bind, ok_bin, ok_un, ok_k, ok_cmp, ok_cmpT, ok_chain, ok_bl, ok_nil, ok_cons, ok_call, ok_callOp, ok_isi, ok_test, ok_andT, ok_orT, ok_notT, ok_isBl, ok_andV, ok_orV, ok_notV, ok_if, okS_next, okS_seq, okS_ret, okS_expr, okS_if, okS_set, ok_run, ok_src, ok_range, ok_ok, ok_obv, ok_ob, sNext, ok_var0, ok_varS, List.map_cons, List.map_nil, List.length_cons, List.length_nil, List.replicate_succ, List.replicate_zero, List.cons_append, List.nil_append, List.getElem?_cons_zero, List.getElem?_cons_succ, List.set_cons_zero, List.set_cons_succ, Nat.reduceAdd, Nat.reduceSub, Nat.sub_self, Nat.zero_add, Nat.sub_zero]
  refine ok_allP ds iT (fun _ => true) ?_ ?_ ?_
  · try simp only [if_true, if_false, Bool.false_eq_true, okS_nx, ok_trB, ok_trI, ok_bind, ok_bin, ok_un, ok_k, ok_cmp, ok_cmpT, ok_chain, ok_bl, ok_nil, ok_cons, ok_call, ok_callOp, ok_isi, ok_test, ok_andT, ok_orT, ok_notT, ok_isBl, ok_andV, ok_orV, ok_notV, ok_if, okS_next, okS_seq, okS_ret, okS_expr, okS_if, okS_set, ok_run, ok_src, ok_range, ok_ok, ok_obv, ok_ob, sNext, ok_var0, ok_varS, List.map_cons, List.map_nil, List.length_cons, List.length_nil, List.replicate_succ, List.replicate_zero, List.cons_append, List.nil_append, List.getElem?_cons_zero, List.getElem?_cons_succ, List.set_cons_zero, List.set_cons_succ, Nat.reduceAdd, Nat.reduceSub, Nat.sub_self, Nat.zero_add, Nat.sub_zero]
    refine ⟨by unfold loopFuel; omega, .refl _, fun h _ => srcIs_vals _ _⟩
  · intro d hx h hs
    refine ⟨_, rfl, ?_⟩
    simp only [wipeE]
    try simp only [if_true, if_false, Bool.false_eq_true, okS_nx, ok_trB, ok_trI, ok_bind, ok_bin, ok_un, ok_k, ok_cmp, ok_cmpT, ok_chain, ok_bl, ok_nil, ok_cons, ok_call, ok_callOp, ok_isi, ok_test, ok_andT, ok_orT, ok_notT, ok_isBl, ok_andV, ok_orV, ok_notV, ok_if, okS_next, okS_seq, okS_ret, okS_expr, okS_if, okS_set, ok_run, ok_src, ok_range, ok_ok, ok_obv, ok_ob, sNext, ok_var0, ok_varS, List.map_cons, List.map_nil, List.length_cons, List.length_nil, List.replicate_succ, List.replicate_zero, List.cons_append, List.nil_append, List.getElem?_cons_zero, List.getElem?_cons_succ, List.set_cons_zero, List.set_cons_succ, Nat.reduceAdd, Nat.reduceSub, Nat.sub_self, Nat.zero_add, Nat.sub_zero]
    rw [ok_isTy (t := "tuple") (by simp) rfl]
    try simp only [if_true, if_false, Bool.false_eq_true, okS_nx, ok_trB, ok_trI, ok_bind, ok_bin, ok_un, ok_k, ok_cmp, ok_cmpT, ok_chain, ok_bl, ok_nil, ok_cons, ok_call, ok_callOp, ok_isi, ok_test, ok_andT, ok_orT, ok_notT, ok_isBl, ok_andV, ok_orV, ok_notV, ok_if, okS_next, okS_seq, okS_ret, okS_expr, okS_if, okS_set, ok_run, ok_src, ok_range, ok_ok, ok_obv, ok_ob, sNext, ok_var0, ok_varS, List.map_cons, List.map_nil, List.length_cons, List.length_nil, List.replicate_succ, List.replicate_zero, List.cons_append, List.nil_append, List.getElem?_cons_zero, List.getElem?_cons_succ, List.set_cons_zero, List.set_cons_succ, Nat.reduceAdd, Nat.reduceSub, Nat.sub_self, Nat.zero_add, Nat.sub_zero]
    simp only [show tyIs "tuple" "tuple" = true from rfl, if_true]
    try simp only [if_true, if_false, Bool.false_eq_true, okS_nx, ok_trB, ok_trI, ok_bind, ok_bin, ok_un, ok_k, ok_cmp, ok_cmpT, ok_chain, ok_bl, ok_nil, ok_cons, ok_call, ok_callOp, ok_isi, ok_test, ok_andT, ok_orT, ok_notT, ok_isBl, ok_andV, ok_orV, ok_notV, ok_if, okS_next, okS_seq, okS_ret, okS_expr, okS_if, okS_set, ok_run, ok_src, ok_range, ok_ok, ok_obv, ok_ob, sNext, ok_var0, ok_varS, List.map_cons, List.map_nil, List.length_cons, List.length_nil, List.replicate_succ, List.replicate_zero, List.cons_append, List.nil_append, List.getElem?_cons_zero, List.getElem?_cons_succ, List.set_cons_zero, List.set_cons_succ, Nat.reduceAdd, Nat.reduceSub, Nat.sub_self, Nat.zero_add, Nat.sub_zero]
    refine ok_len (seq_tup _) ?_
    refine ok_len (seq_tup _) ?_
    refine ⟨_, eqD_int, ?_, .refl _⟩
    have := hd.row d hx
    simp only [List.length_map]
    rw [this]
    simp
  · intro h hs
    have : ds.all (fun _ => true) = true := by simp
    rw [this]
    try simp only [if_true, if_false, Bool.false_eq_true, okS_nx, ok_trB, ok_trI, ok_bind, ok_bin, ok_un, ok_k, ok_cmp, ok_cmpT, ok_chain, ok_bl, ok_nil, ok_cons, ok_call, ok_callOp, ok_isi, ok_test, ok_andT, ok_orT, ok_notT, ok_isBl, ok_andV, ok_orV, ok_notV, ok_if, okS_next, okS_seq, okS_ret, okS_expr, okS_if, okS_set, ok_run, ok_src, ok_range, ok_ok, ok_obv, ok_ob, sNext, ok_var0, ok_varS, List.map_cons, List.map_nil, List.length_cons, List.length_nil, List.replicate_succ, List.replicate_zero, List.cons_append, List.nil_append, List.getElem?_cons_zero, List.getElem?_cons_succ, List.set_cons_zero, List.set_cons_succ, Nat.reduceAdd, Nat.reduceSub, Nat.sub_self, Nat.zero_add, Nat.sub_zero]
    simp only [Bool.not_true, Bool.false_eq_true, if_false]
    try simp only [if_true, if_false, Bool.false_eq_true, okS_nx, ok_trB, ok_trI, ok_bind, ok_bin, ok_un, ok_k, ok_cmp, ok_cmpT, ok_chain, ok_bl, ok_nil, ok_cons, ok_call, ok_callOp, ok_isi, ok_test, ok_andT, ok_orT, ok_notT, ok_isBl, ok_andV, ok_orV, ok_notV, ok_if, okS_next, okS_seq, okS_ret, okS_expr, okS_if, okS_set, ok_run, ok_src, ok_range, ok_ok, ok_obv, ok_ob, sNext, ok_var0, ok_varS, List.map_cons, List.map_nil, List.length_cons, List.length_nil, List.replicate_succ, List.replicate_zero, List.cons_append, List.nil_append, List.getElem?_cons_zero, List.getElem?_cons_succ, List.set_cons_zero, List.set_cons_succ, Nat.reduceAdd, Nat.reduceSub, Nat.sub_self, Nat.zero_add, Nat.sub_zero]
    refine ok_allP ds iT (fun _ => true) ?_ ?_ ?_
    · try simp only [if_true, if_false, Bool.false_eq_true, okS_nx, ok_trB, ok_trI, ok_bind, ok_bin, ok_un, ok_k, ok_cmp, ok_cmpT, ok_chain, ok_bl, ok_nil, ok_cons, ok_call, ok_callOp, ok_isi, ok_test, ok_andT, ok_orT, ok_notT, ok_isBl, ok_andV, ok_orV, ok_notV, ok_if, okS_next, okS_seq, okS_ret, okS_expr, okS_if, okS_set, ok_run, ok_src, ok_range, ok_ok, ok_obv, ok_ob, sNext, ok_var0, ok_varS, List.map_cons, List.map_nil, List.length_cons, List.length_nil, List.replicate_succ, List.replicate_zero, List.cons_append, List.nil_append, List.getElem?_cons_zero, List.getElem?_cons_succ, List.set_cons_zero, List.set_cons_succ, Nat.reduceAdd, Nat.reduceSub, Nat.sub_self, Nat.zero_add, Nat.sub_zero]
      refine ⟨by unfold loopFuel; omega, .refl _, fun h _ => srcIs_vals _ _⟩
    · intro d hx h2 hs2
      have hrow := hd.row d hx
      refine ⟨_, rfl, ?_⟩
      simp only [wipeE]
      try simp only [if_true, if_false, Bool.false_eq_true, okS_nx, ok_trB, ok_trI, ok_bind, ok_bin, ok_un, ok_k, ok_cmp, ok_cmpT, ok_chain, ok_bl, ok_nil, ok_cons, ok_call, ok_callOp, ok_isi, ok_test, ok_andT, ok_orT, ok_notT, ok_isBl, ok_andV, ok_orV, ok_notV, ok_if, okS_next, okS_seq, okS_ret, okS_expr, okS_if, okS_set, ok_run, ok_src, ok_range, ok_ok, ok_obv, ok_ob, sNext, ok_var0, ok_varS, List.map_cons, List.map_nil, List.length_cons, List.length_nil, List.replicate_succ, List.replicate_zero, List.cons_append, List.nil_append, List.getElem?_cons_zero, List.getElem?_cons_succ, List.set_cons_zero, List.set_cons_succ, Nat.reduceAdd, Nat.reduceSub, Nat.sub_self, Nat.zero_add, Nat.sub_zero]
      refine ok_allP d PV.int (fun x => isIn (.int x) 0 29) ?_ ?_ ?_
      · try simp only [if_true, if_false, Bool.false_eq_true, okS_nx, ok_trB, ok_trI, ok_bind, ok_bin, ok_un, ok_k, ok_cmp, ok_cmpT, ok_chain, ok_bl, ok_nil, ok_cons, ok_call, ok_callOp, ok_isi, ok_test, ok_andT, ok_orT, ok_notT, ok_isBl, ok_andV, ok_orV, ok_notV, ok_if, okS_next, okS_seq, okS_ret, okS_expr, okS_if, okS_set, ok_run, ok_src, ok_range, ok_ok, ok_obv, ok_ob, sNext, ok_var0, ok_varS, List.map_cons, List.map_nil, List.length_cons, List.length_nil, List.replicate_succ, List.replicate_zero, List.cons_append, List.nil_append, List.getElem?_cons_zero, List.getElem?_cons_succ, List.set_cons_zero, List.set_cons_succ, Nat.reduceAdd, Nat.reduceSub, Nat.sub_self, Nat.zero_add, Nat.sub_zero]
        refine ⟨by unfold loopFuel; omega, .refl _, fun h _ => srcIs_vals _ _⟩
      · intro x hxd h3 hs3
        refine ⟨_, rfl, ?_⟩
        simp only [wipeE]
        try simp only [if_true, if_false, Bool.false_eq_true, okS_nx, ok_trB, ok_trI, ok_bind, ok_bin, ok_un, ok_k, ok_cmp, ok_cmpT, ok_chain, ok_bl, ok_nil, ok_cons, ok_call, ok_callOp, ok_isi, ok_test, ok_andT, ok_orT, ok_notT, ok_isBl, ok_andV, ok_orV, ok_notV, ok_if, okS_next, okS_seq, okS_ret, okS_expr, okS_if, okS_set, ok_run, ok_src, ok_range, ok_ok, ok_obv, ok_ob, sNext, ok_var0, ok_varS, List.map_cons, List.map_nil, List.length_cons, List.length_nil, List.replicate_succ, List.replicate_zero, List.cons_append, List.nil_append, List.getElem?_cons_zero, List.getElem?_cons_succ, List.set_cons_zero, List.set_cons_succ, Nat.reduceAdd, Nat.reduceSub, Nat.sub_self, Nat.zero_add, Nat.sub_zero, ok_subI]
        exact is_between_s (t := "int") rfl ⟨rfl, .refl _⟩
      · intro h3 hs3
        have : d.all (fun x => isIn (.int x) 0 29) = true := by
          rw [List.all_eq_true]
          intro x hxd
          have := hd.dig d hx x hxd
          simp [isIn, this.1, this.2]
        exact ⟨by rw [this], hs3⟩
    · intro h2 hs2
      rw [this]
      exact q h2 (hs.trans hs2)
theorem check_deals_s {row : List Int} {ds : List (List Int)} (hr : row.length ≤ 30) (hd : IsDeals row.length ds) (q : ∀ v h, Sub mh h → Q v h) : Ok (f_check_deals [iT row, .tup (ds.map iT)] mh) Q := by
  unfold f_check_deals
  try simp only [if_true, if_false, Bool.false_eq_true, okS_nx, ok_trB, ok_trI, ok_bind, ok_bin, ok_un, ok_k, ok_cmp, ok_cmpT, ok_chain, ok_bl, ok_nil, ok_cons, ok_call, ok_callOp, ok_isi, ok_test, ok_andT, ok_orT, ok_notT, ok_isBl, ok_andV, ok_orV, ok_notV, ok_if, okS_next, okS_seq, okS_ret, okS_expr, okS_if, okS_set, ok_run, ok_src, ok_range, ok_ok, ok_obv, ok_ob, sNext, ok_var0, ok_varS, List.map_cons, List.map_nil, List.length_cons, List.length_nil, List.replicate_succ, List.replicate_zero, List.cons_append, List.nil_append, List.getElem?_cons_zero, List.getElem?_cons_succ, List.set_cons_zero, List.set_cons_succ, Nat.reduceAdd, Nat.reduceSub, Nat.sub_self, Nat.zero_add, Nat.sub_zero]
  refine are_deals_s hr hd fun h hs => ?_
  try simp only [if_true, if_false, Bool.false_eq_true, okS_nx, ok_trB, ok_trI, ok_bind, ok_bin, ok_un, ok_k, ok_cmp, ok_cmpT, ok_chain, ok_bl, ok_nil, ok_cons, ok_call, ok_callOp, ok_isi, ok_test, ok_andT, ok_orT, ok_notT, ok_isBl, ok_andV, ok_orV, ok_notV, ok_if, okS_next, okS_seq, okS_ret, okS_expr, okS_if, okS_set, ok_run, ok_src, ok_range, ok_ok, ok_obv, ok_ob, sNext, ok_var0, ok_varS, List.map_cons, List.map_nil, List.length_cons, List.length_nil, List.replicate_succ, List.replicate_zero, List.cons_append, List.nil_append, List.getElem?_cons_zero, List.getElem?_cons_succ, List.set_cons_zero, List.set_cons_succ, Nat.reduceAdd, Nat.reduceSub, Nat.sub_self, Nat.zero_add, Nat.sub_zero]
  simp only [Bool.not_true, Bool.false_eq_true, if_false]
  try simp only [if_true, if_false, Bool.false_eq_true, okS_nx, ok_trB, ok_trI, ok_bind, ok_bin, ok_un, ok_k, ok_cmp, ok_cmpT, ok_chain, ok_bl, ok_nil, ok_cons, ok_call, ok_callOp, ok_isi, ok_test, ok_andT, ok_orT, ok_notT, ok_isBl, ok_andV, ok_orV, ok_notV, ok_if, okS_next, okS_seq, okS_ret, okS_expr, okS_if, okS_set, ok_run, ok_src, ok_range, ok_ok, ok_obv, ok_ob, sNext, ok_var0, ok_varS, List.map_cons, List.map_nil, List.length_cons, List.length_nil, List.replicate_succ, List.replicate_zero, List.cons_append, List.nil_append, List.getElem?_cons_zero, List.getElem?_cons_succ, List.set_cons_zero, List.set_cons_succ, Nat.reduceAdd, Nat.reduceSub, Nat.sub_self, Nat.zero_add, Nat.sub_zero]
  exact q _ _ hs
theorem check_tracks_s {ms : List Int} (ht : IsTracks ms) (q : ∀ v h, Sub mh h → Q v h) : Ok (f_check_tracks [iT ms] mh) Q := by
  have h8 := ht.len
  unfold f_check_tracks
  try simp only [if_true, if_false, Bool.false_eq_true, okS_nx, ok_trB, ok_trI, ok_bind, ok_bin, ok_un, ok_k, ok_cmp, ok_cmpT, ok_chain, ok_bl, ok_nil, ok_cons, ok_call, ok_callOp, ok_isi, ok_test, ok_andT, ok_orT, ok_notT, ok_isBl, ok_andV, ok_orV, ok_notV, ok_if, okS_next, okS_seq, okS_ret, okS_expr, okS_if, okS_set, ok_run, ok_src, ok_range, ok_ok, ok_obv, ok_ob, sNext, ok_var0, ok_varS, List.map_cons, List.map_nil, List.length_cons, List.length_nil, List.replicate_succ, List.replicate_zero, List.cons_append, List.nil_append, List.getElem?_cons_zero, List.getElem?_cons_succ, List.set_cons_zero, List.set_cons_succ, Nat.reduceAdd, Nat.reduceSub, Nat.sub_self, Nat.zero_add, Nat.sub_zero]
  rw [ok_isTy (t := "tuple") (by simp) rfl]
  try simp only [if_true, if_false, Bool.false_eq_true, okS_nx, ok_trB, ok_trI, ok_bind, ok_bin, ok_un, ok_k, ok_cmp, ok_cmpT, ok_chain, ok_bl, ok_nil, ok_cons, ok_call, ok_callOp, ok_isi, ok_test, ok_andT, ok_orT, ok_notT, ok_isBl, ok_andV, ok_orV, ok_notV, ok_if, okS_next, okS_seq, okS_ret, okS_expr, okS_if, okS_set, ok_run, ok_src, ok_range, ok_ok, ok_obv, ok_ob, sNext, ok_var0, ok_varS, List.map_cons, List.map_nil, List.length_cons, List.length_nil, List.replicate_succ, List.replicate_zero, List.cons_append, List.nil_append, List.getElem?_cons_zero, List.getElem?_cons_succ, List.set_cons_zero, List.set_cons_succ, Nat.reduceAdd, Nat.reduceSub, Nat.sub_self, Nat.zero_add, Nat.sub_zero]
  simp only [show tyIs "tuple" "tuple" = true from rfl, Bool.not_true, Bool.false_eq_true, if_false]
  try simp only [if_true, if_false, Bool.false_eq_true, okS_nx, ok_trB, ok_trI, ok_bind, ok_bin, ok_un, ok_k, ok_cmp, ok_cmpT, ok_chain, ok_bl, ok_nil, ok_cons, ok_call, ok_callOp, ok_isi, ok_test, ok_andT, ok_orT, ok_notT, ok_isBl, ok_andV, ok_orV, ok_notV, ok_if, okS_next, okS_seq, okS_ret, okS_expr, okS_if, okS_set, ok_run, ok_src, ok_range, ok_ok, ok_obv, ok_ob, sNext, ok_var0, ok_varS, List.map_cons, List.map_nil, List.length_cons, List.length_nil, List.replicate_succ, List.replicate_zero, List.cons_append, List.nil_append, List.getElem?_cons_zero, List.getElem?_cons_succ, List.set_cons_zero, List.set_cons_succ, Nat.reduceAdd, Nat.reduceSub, Nat.sub_self, Nat.zero_add, Nat.sub_zero]
  refine ok_len (seq_tup _) ?_
  refine ⟨_, rfl, ?_⟩
  have hl : ¬ (8 : Int) < ((iL ms).length : Nat) := by
    simp only [List.length_map]
    omega
  simp only [hl, decide_false, Bool.false_eq_true, if_false]
  try simp only [if_true, if_false, Bool.false_eq_true, okS_nx, ok_trB, ok_trI, ok_bind, ok_bin, ok_un, ok_k, ok_cmp, ok_cmpT, ok_chain, ok_bl, ok_nil, ok_cons, ok_call, ok_callOp, ok_isi, ok_test, ok_andT, ok_orT, ok_notT, ok_isBl, ok_andV, ok_orV, ok_notV, ok_if, okS_next, okS_seq, okS_ret, okS_expr, okS_if, okS_set, ok_run, ok_src, ok_range, ok_ok, ok_obv, ok_ob, sNext, ok_var0, ok_varS, List.map_cons, List.map_nil, List.length_cons, List.length_nil, List.replicate_succ, List.replicate_zero, List.cons_append, List.nil_append, List.getElem?_cons_zero, List.getElem?_cons_succ, List.set_cons_zero, List.set_cons_succ, Nat.reduceAdd, Nat.reduceSub, Nat.sub_self, Nat.zero_add, Nat.sub_zero]
  refine ok_allP ms PV.int (fun x => isIn (.int x) 1 30) ?_ ?_ ?_
  · try simp only [if_true, if_false, Bool.false_eq_true, okS_nx, ok_trB, ok_trI, ok_bind, ok_bin, ok_un, ok_k, ok_cmp, ok_cmpT, ok_chain, ok_bl, ok_nil, ok_cons, ok_call, ok_callOp, ok_isi, ok_test, ok_andT, ok_orT, ok_notT, ok_isBl, ok_andV, ok_orV, ok_notV, ok_if, okS_next, okS_seq, okS_ret, okS_expr, okS_if, okS_set, ok_run, ok_src, ok_range, ok_ok, ok_obv, ok_ob, sNext, ok_var0, ok_varS, List.map_cons, List.map_nil, List.length_cons, List.length_nil, List.replicate_succ, List.replicate_zero, List.cons_append, List.nil_append, List.getElem?_cons_zero, List.getElem?_cons_succ, List.set_cons_zero, List.set_cons_succ, Nat.reduceAdd, Nat.reduceSub, Nat.sub_self, Nat.zero_add, Nat.sub_zero]
    refine ⟨by unfold loopFuel; omega, .refl _, fun h _ => srcIs_vals _ _⟩
  · intro x hx h hs
    refine ⟨_, rfl, ?_⟩
    simp only [wipeE]
    try simp only [if_true, if_false, Bool.false_eq_true, okS_nx, ok_trB, ok_trI, ok_bind, ok_bin, ok_un, ok_k, ok_cmp, ok_cmpT, ok_chain, ok_bl, ok_nil, ok_cons, ok_call, ok_callOp, ok_isi, ok_test, ok_andT, ok_orT, ok_notT, ok_isBl, ok_andV, ok_orV, ok_notV, ok_if, okS_next, okS_seq, okS_ret, okS_expr, okS_if, okS_set, ok_run, ok_src, ok_range, ok_ok, ok_obv, ok_ob, sNext, ok_var0, ok_varS, List.map_cons, List.map_nil, List.length_cons, List.length_nil, List.replicate_succ, List.replicate_zero, List.cons_append, List.nil_append, List.getElem?_cons_zero, List.getElem?_cons_succ, List.set_cons_zero, List.set_cons_succ, Nat.reduceAdd, Nat.reduceSub, Nat.sub_self, Nat.zero_add, Nat.sub_zero]
    exact is_between_s (t := "int") rfl ⟨rfl, .refl _⟩
  · intro h hs
    have : ms.all (fun x => isIn (.int x) 1 30) = true := by
      rw [List.all_eq_true]
      intro x hx
      have := ht.num x hx
      simp [isIn, this.1, this.2]
    rw [this]
    try simp only [if_true, if_false, Bool.false_eq_true, okS_nx, ok_trB, ok_trI, ok_bind, ok_bin, ok_un, ok_k, ok_cmp, ok_cmpT, ok_chain, ok_bl, ok_nil, ok_cons, ok_call, ok_callOp, ok_isi, ok_test, ok_andT, ok_orT, ok_notT, ok_isBl, ok_andV, ok_orV, ok_notV, ok_if, okS_next, okS_seq, okS_ret, okS_expr, okS_if, okS_set, ok_run, ok_src, ok_range, ok_ok, ok_obv, ok_ob, sNext, ok_var0, ok_varS, List.map_cons, List.map_nil, List.length_cons, List.length_nil, List.replicate_succ, List.replicate_zero, List.cons_append, List.nil_append, List.getElem?_cons_zero, List.getElem?_cons_succ, List.set_cons_zero, List.set_cons_succ, Nat.reduceAdd, Nat.reduceSub, Nat.sub_self, Nat.zero_add, Nat.sub_zero]
    simp only [Bool.not_true, Bool.false_eq_true, if_false]
    try simp only [if_true, if_false, Bool.false_eq_true, okS_nx, ok_trB, ok_trI, ok_bind, ok_bin, ok_un, ok_k, ok_cmp, ok_cmpT, ok_chain, ok_bl, ok_nil, ok_cons, ok_call, ok_callOp, ok_isi, ok_test, ok_andT, ok_orT, ok_notT, ok_isBl, ok_andV, ok_orV, ok_notV, ok_if, okS_next, okS_seq, okS_ret, okS_expr, okS_if, okS_set, ok_run, ok_src, ok_range, ok_ok, ok_obv, ok_ob, sNext, ok_var0, ok_varS, List.map_cons, List.map_nil, List.length_cons, List.length_nil, List.replicate_succ, List.replicate_zero, List.cons_append, List.nil_append, List.getElem?_cons_zero, List.getElem?_cons_succ, List.set_cons_zero, List.set_cons_succ, Nat.reduceAdd, Nat.reduceSub, Nat.sub_self, Nat.zero_add, Nat.sub_zero]
    exact q _ _ hs
end
end K49
namespace K49
open PySem PySem.Spec PyProof.Rows L2 RZ Ev
section
variable {mh h : MH} {Q : PV → MH → Prop}
theorem nP_len (l : List Nat) : (nP l).length = l.length := List.length_map ..
theorem pulled_s {nc : Nat} {cars : List Nat} {d : List Int} (hc : mh[nc]? = some (.lst (nP cars))) (hd : d.length ≤ 30) (hl : cars.length ≤ 30) (hx : ∀ x ∈ cars, x < d.length) (q : NewL mh (nP (bk (sortU d) (col d) cars)) Q) : Ok (f_pulled [.ref nc, iT d] mh) Q := by
  have hsl := sortU_len d
  unfold f_pulled
  try simp only [if_true, if_false, Bool.false_eq_true, okS_nx, ok_trB, ok_trI, ok_bind, ok_bin, ok_un, ok_k, ok_cmp, ok_cmpT, ok_chain, ok_bl, ok_nil, ok_cons, ok_call, ok_callOp, ok_isi, ok_test, ok_andT, ok_orT, ok_notT, ok_isBl, ok_andV, ok_orV, ok_notV, ok_if, okS_next, okS_seq, okS_ret, okS_expr, okS_if, okS_set, ok_run, ok_src, ok_range, ok_ok, ok_obv, ok_ob, sNext, ok_var0, ok_varS, List.map_cons, List.map_nil, List.length_cons, List.length_nil, List.replicate_succ, List.replicate_zero, List.cons_append, List.nil_append, List.getElem?_cons_zero, List.getElem?_cons_succ, List.set_cons_zero, List.set_cons_succ, Nat.reduceAdd, Nat.reduceSub, Nat.sub_self, Nat.zero_add, Nat.sub_zero]
  refine ok_mklN ⟨by decide, fun nf h1 s1 f1 l1 => ?_⟩
  refine okS_for ?_
  try simp only [if_true, if_false, Bool.false_eq_true, okS_nx, ok_trB, ok_trI, ok_bind, ok_bin, ok_un, ok_k, ok_cmp, ok_cmpT, ok_chain, ok_bl, ok_nil, ok_cons, ok_call, ok_callOp, ok_isi, ok_test, ok_andT, ok_orT, ok_notT, ok_isBl, ok_andV, ok_orV, ok_notV, ok_if, okS_next, okS_seq, okS_ret, okS_expr, okS_if, okS_set, ok_run, ok_src, ok_range, ok_ok, ok_obv, ok_ob, sNext, ok_var0, ok_varS, List.map_cons, List.map_nil, List.length_cons, List.length_nil, List.replicate_succ, List.replicate_zero, List.cons_append, List.nil_append, List.getElem?_cons_zero, List.getElem?_cons_succ, List.set_cons_zero, List.set_cons_succ, Nat.reduceAdd, Nat.reduceSub, Nat.sub_self, Nat.zero_add, Nat.sub_zero]
  refine ok_setT (Nat.lt_of_le_of_lt (Nat.succ_le_succ hd) (by decide)) fun ns h2 s2 f2 l2 => ?_
  refine ok_sortedSet l2 (by omega) fun n0 h3 s3 f3 l3 => ?_
  refine ok_srcL l3 ?_
  have nf0 : nf ≠ n0 := fun z => by
    have := s2 _ _ l1
    rw [z, f3] at this
    cases this
  refine ⟨iL (sortU d), fun i env h => ∃ a b, env = [some (.ref nc), some (iT d), some (.ref nf), a, b] ∧ h[nf]? = some (.lst (nP (bk ((sortU d).take i) (col d) cars))) ∧ Sub mh h ∧ h[n0]? = some (.lst (iL (sortU d))), ?_, fun _ _ h z => ?_, ?_, ?_, ?_⟩
  · simp only [List.length_map]
    unfold loopFuel
    omega
  · obtain ⟨_, _, _, _, _, z⟩ := z
    exact srcIs_lst z
  · rintro i v env h hv ⟨a, b, rfl, k1, k2, k3⟩
    rw [List.getElem?_map] at hv
    obtain ⟨t, ht, rfl⟩ := Option.map_eq_some_iff.mp hv
    have htake : (sortU d).take (i + 1) = (sortU d).take i ++ [t] := by
      rw [List.take_add_one, ht]
      rfl
    have hi := (List.getElem?_eq_some_iff.mp ht).1
    refine ⟨_, rfl, ?_⟩
    try simp only [if_true, if_false, Bool.false_eq_true, okS_nx, ok_trB, ok_trI, ok_bind, ok_bin, ok_un, ok_k, ok_cmp, ok_cmpT, ok_chain, ok_bl, ok_nil, ok_cons, ok_call, ok_callOp, ok_isi, ok_test, ok_andT, ok_orT, ok_notT, ok_isBl, ok_andV, ok_orV, ok_notV, ok_if, okS_next, okS_seq, okS_ret, okS_expr, okS_if, okS_set, ok_run, ok_src, ok_range, ok_ok, ok_obv, ok_ob, sNext, ok_var0, ok_varS, List.map_cons, List.map_nil, List.length_cons, List.length_nil, List.replicate_succ, List.replicate_zero, List.cons_append, List.nil_append, List.getElem?_cons_zero, List.getElem?_cons_succ, List.set_cons_zero, List.set_cons_succ, Nat.reduceAdd, Nat.reduceSub, Nat.sub_self, Nat.zero_add, Nat.sub_zero, ok_meth1]
    refine ok_recv ?_
    try simp only [if_true, if_false, Bool.false_eq_true, okS_nx, ok_trB, ok_trI, ok_bind, ok_bin, ok_un, ok_k, ok_cmp, ok_cmpT, ok_chain, ok_bl, ok_nil, ok_cons, ok_call, ok_callOp, ok_isi, ok_test, ok_andT, ok_orT, ok_notT, ok_isBl, ok_andV, ok_orV, ok_notV, ok_if, okS_next, okS_seq, okS_ret, okS_expr, okS_if, okS_set, ok_run, ok_src, ok_range, ok_ok, ok_obv, ok_ob, sNext, ok_var0, ok_varS, List.map_cons, List.map_nil, List.length_cons, List.length_nil, List.replicate_succ, List.replicate_zero, List.cons_append, List.nil_append, List.getElem?_cons_zero, List.getElem?_cons_succ, List.set_cons_zero, List.set_cons_succ, Nat.reduceAdd, Nat.reduceSub, Nat.sub_self, Nat.zero_add, Nat.sub_zero]
    refine ⟨_, _, rfl, k1, ?_⟩
    refine ok_compP cars (fun k => .int (k : Nat)) (fun k => decide (col d k = t)) (fun k => .int (k : Nat)) ?_ ?_ ?_
    · try simp only [if_true, if_false, Bool.false_eq_true, okS_nx, ok_trB, ok_trI, ok_bind, ok_bin, ok_un, ok_k, ok_cmp, ok_cmpT, ok_chain, ok_bl, ok_nil, ok_cons, ok_call, ok_callOp, ok_isi, ok_test, ok_andT, ok_orT, ok_notT, ok_isBl, ok_andV, ok_orV, ok_notV, ok_if, okS_next, okS_seq, okS_ret, okS_expr, okS_if, okS_set, ok_run, ok_src, ok_range, ok_ok, ok_obv, ok_ob, sNext, ok_var0, ok_varS, List.map_cons, List.map_nil, List.length_cons, List.length_nil, List.replicate_succ, List.replicate_zero, List.cons_append, List.nil_append, List.getElem?_cons_zero, List.getElem?_cons_succ, List.set_cons_zero, List.set_cons_succ, Nat.reduceAdd, Nat.reduceSub, Nat.sub_self, Nat.zero_add, Nat.sub_zero]
      refine ok_srcL (k2 _ _ hc) ⟨by unfold loopFuel; omega, .refl _, fun h' hs' => srcIs_lst (hs' _ _ (k2 _ _ hc))⟩
    · intro x hxc h' hs'
      refine ⟨_, rfl, ?_⟩
      simp only [wipeE]
      try simp only [if_true, if_false, Bool.false_eq_true, okS_nx, ok_trB, ok_trI, ok_bind, ok_bin, ok_un, ok_k, ok_cmp, ok_cmpT, ok_chain, ok_bl, ok_nil, ok_cons, ok_call, ok_callOp, ok_isi, ok_test, ok_andT, ok_orT, ok_notT, ok_isBl, ok_andV, ok_orV, ok_notV, ok_if, okS_next, okS_seq, okS_ret, okS_expr, okS_if, okS_set, ok_run, ok_src, ok_range, ok_ok, ok_obv, ok_ob, sNext, ok_var0, ok_varS, List.map_cons, List.map_nil, List.length_cons, List.length_nil, List.replicate_succ, List.replicate_zero, List.cons_append, List.nil_append, List.getElem?_cons_zero, List.getElem?_cons_succ, List.set_cons_zero, List.set_cons_succ, Nat.reduceAdd, Nat.reduceSub, Nat.sub_self, Nat.zero_add, Nat.sub_zero]
      have hlt := hx x hxc
      refine ok_ix (k := x) (x := .int (col d x)) (seq_tup _) (by rw [List.getElem?_map, col_at hlt]; rfl) (fun _ z => by cases z) ?_
      try simp only [if_true, if_false, Bool.false_eq_true, okS_nx, ok_trB, ok_trI, ok_bind, ok_bin, ok_un, ok_k, ok_cmp, ok_cmpT, ok_chain, ok_bl, ok_nil, ok_cons, ok_call, ok_callOp, ok_isi, ok_test, ok_andT, ok_orT, ok_notT, ok_isBl, ok_andV, ok_orV, ok_notV, ok_if, okS_next, okS_seq, okS_ret, okS_expr, okS_if, okS_set, ok_run, ok_src, ok_range, ok_ok, ok_obv, ok_ob, sNext, ok_var0, ok_varS, List.map_cons, List.map_nil, List.length_cons, List.length_nil, List.replicate_succ, List.replicate_zero, List.cons_append, List.nil_append, List.getElem?_cons_zero, List.getElem?_cons_succ, List.set_cons_zero, List.set_cons_succ, Nat.reduceAdd, Nat.reduceSub, Nat.sub_self, Nat.zero_add, Nat.sub_zero]
      exact ⟨_, eqD_int, rfl, .refl _, fun _ => ⟨by first | trivial | rfl, .refl _⟩⟩
    · intro n5 h5 s5 f5 l5
      have z1 : (nP (bk ((sortU d).take i) (col d) cars)).length ≤ 30 * 30 := by
        rw [nP_len]
        refine Nat.le_trans (bk_len _ _ _) (Nat.mul_le_mul ?_ hl)
        rw [List.length_take]
        omega
      have z2 : (List.map (fun k => PV.int (k : Nat)) (cars.filter fun k => decide (col d k = t))).length ≤ 30 := by
        rw [List.length_map]
        exact Nat.le_trans (List.length_filter_le ..) hl
      refine ok_extend (s5 _ _ k1) l5 (small_line (by omega)) ?_
      have e : nP (bk ((sortU d).take i) (col d) cars) ++ List.map (fun k => PV.int (k : Nat)) (cars.filter fun k => decide (col d k = t)) = nP (bk ((sortU d).take (i + 1)) (col d) cars) := by
        rw [htake, bk_snoc]
        exact (List.map_append ..).symm
      rw [e]
      exact ⟨_, _, rfl, at_set (s5 _ _ k1) _, (k2.trans s5).set f1 _, by rw [List.getElem?_set_ne nf0]; exact s5 _ _ k3⟩
  · rintro env h ⟨a, b, rfl, k1, k2, k3⟩
    try simp only [if_true, if_false, Bool.false_eq_true, okS_nx, ok_trB, ok_trI, ok_bind, ok_bin, ok_un, ok_k, ok_cmp, ok_cmpT, ok_chain, ok_bl, ok_nil, ok_cons, ok_call, ok_callOp, ok_isi, ok_test, ok_andT, ok_orT, ok_notT, ok_isBl, ok_andV, ok_orV, ok_notV, ok_if, okS_next, okS_seq, okS_ret, okS_expr, okS_if, okS_set, ok_run, ok_src, ok_range, ok_ok, ok_obv, ok_ob, sNext, ok_var0, ok_varS, List.map_cons, List.map_nil, List.length_cons, List.length_nil, List.replicate_succ, List.replicate_zero, List.cons_append, List.nil_append, List.getElem?_cons_zero, List.getElem?_cons_succ, List.set_cons_zero, List.set_cons_succ, Nat.reduceAdd, Nat.reduceSub, Nat.sub_self, Nat.zero_add, Nat.sub_zero]
    rw [List.take_of_length_le (by simp)] at k1
    exact q _ _ k2 f1 k1
  · exact ⟨_, _, rfl, by rw [List.take_zero]; exact s3 _ _ (s2 _ _ l1), (s1.trans s2).trans s3, l3⟩
def beh (tf : List Int → List Int) (ds : List (List Int)) (n : Nat) : List Nat := ds.foldl (fun l d => bk (tf d) (col d) l) (List.range n)
theorem beh_ord {tf : List Int → List Int} {n : Nat} (ht : ∀ d, (tf d).Pairwise (· < ·)) : ∀ (ds : List (List Int)), (∀ d ∈ ds, ∀ x < n, col d x ∈ tf d) → Ord (RB (· < ·) ds.reverse) n (beh tf ds n) := by
  refine snoc_ind (fun _ => ord_range n) fun ds d ih h => ?_
  have ih := ih fun e he => h e (List.mem_append_left _ he)
  unfold beh at ih ⊢
  rw [List.foldl_append, List.foldl_cons, List.foldl_nil, List.reverse_append, List.reverse_singleton]
  exact ih.bk (ht d) (h d (by simp))
theorem lt_irr (ds : List (List Int)) (x : Nat) : ¬ RB (· < ·) ds x x := fun h => rb_asym (fun _ _ a b => Nat.lt_asymm a b) ds x x h h
theorem beh_len {tf : List Int → List Int} {n : Nat} (ht : ∀ d, (tf d).Pairwise (· < ·)) {ds : List (List Int)} (h : ∀ d ∈ ds, ∀ x < n, col d x ∈ tf d) : (beh tf ds n).length = n ∧ ∀ x ∈ beh tf ds n, x < n :=
  ⟨(beh_ord ht ds h).len (lt_irr _), fun x hx => ((beh_ord ht ds h).mem x).mp hx⟩
theorem sortU_col {n : Nat} {ds : List (List Int)} (hr : ∀ d ∈ ds, d.length = n) : ∀ d ∈ ds, ∀ x < n, col d x ∈ sortU d := fun d hd x hx => (mem_sortU _ _).mpr (col_mem (by rw [hr d hd]; exact hx))
theorem take_mem {α : Type} {l : List α} {i : Nat} {x : α} (h : x ∈ l.take i) : x ∈ l := List.mem_of_mem_take h
theorem behind_all_s {row : List Int} {ds : List (List Int)} (hr : row.length ≤ 30) (hd : IsDeals row.length ds) (q : ∀ h, Sub mh h → Q (.tup (nP (beh sortU ds row.length))) h) : Ok (f_behind_all [iT row, .tup (ds.map iT)] mh) Q := by
  have h8 := hd.len
  unfold f_behind_all
  try simp only [if_true, if_false, Bool.false_eq_true, okS_nx, ok_trB, ok_trI, ok_bind, ok_bin, ok_un, ok_k, ok_cmp, ok_cmpT, ok_chain, ok_bl, ok_nil, ok_cons, ok_call, ok_callOp, ok_isi, ok_test, ok_andT, ok_orT, ok_notT, ok_isBl, ok_andV, ok_orV, ok_notV, ok_if, okS_next, okS_seq, okS_ret, okS_expr, okS_if, okS_set, ok_run, ok_src, ok_range, ok_ok, ok_obv, ok_ob, sNext, ok_var0, ok_varS, List.map_cons, List.map_nil, List.length_cons, List.length_nil, List.replicate_succ, List.replicate_zero, List.cons_append, List.nil_append, List.getElem?_cons_zero, List.getElem?_cons_succ, List.set_cons_zero, List.set_cons_succ, Nat.reduceAdd, Nat.reduceSub, Nat.sub_self, Nat.zero_add, Nat.sub_zero]
  refine ok_rg1 ?_
  try simp only [if_true, if_false, Bool.false_eq_true, okS_nx, ok_trB, ok_trI, ok_bind, ok_bin, ok_un, ok_k, ok_cmp, ok_cmpT, ok_chain, ok_bl, ok_nil, ok_cons, ok_call, ok_callOp, ok_isi, ok_test, ok_andT, ok_orT, ok_notT, ok_isBl, ok_andV, ok_orV, ok_notV, ok_if, okS_next, okS_seq, okS_ret, okS_expr, okS_if, okS_set, ok_run, ok_src, ok_range, ok_ok, ok_obv, ok_ob, sNext, ok_var0, ok_varS, List.map_cons, List.map_nil, List.length_cons, List.length_nil, List.replicate_succ, List.replicate_zero, List.cons_append, List.nil_append, List.getElem?_cons_zero, List.getElem?_cons_succ, List.set_cons_zero, List.set_cons_succ, Nat.reduceAdd, Nat.reduceSub, Nat.sub_self, Nat.zero_add, Nat.sub_zero]
  refine ok_len (seq_tup _) ⟨_, rfl, ?_⟩
  rw [List.length_map]
  refine ok_rgL (by omega) fun nc h1 s1 f1 l1 => ?_
  refine okS_for ?_
  try simp only [if_true, if_false, Bool.false_eq_true, okS_nx, ok_trB, ok_trI, ok_bind, ok_bin, ok_un, ok_k, ok_cmp, ok_cmpT, ok_chain, ok_bl, ok_nil, ok_cons, ok_call, ok_callOp, ok_isi, ok_test, ok_andT, ok_orT, ok_notT, ok_isBl, ok_andV, ok_orV, ok_notV, ok_if, okS_next, okS_seq, okS_ret, okS_expr, okS_if, okS_set, ok_run, ok_src, ok_range, ok_ok, ok_obv, ok_ob, sNext, ok_var0, ok_varS, List.map_cons, List.map_nil, List.length_cons, List.length_nil, List.replicate_succ, List.replicate_zero, List.cons_append, List.nil_append, List.getElem?_cons_zero, List.getElem?_cons_succ, List.set_cons_zero, List.set_cons_succ, Nat.reduceAdd, Nat.reduceSub, Nat.sub_self, Nat.zero_add, Nat.sub_zero]
  refine ⟨ds.map iT, fun i env h => ∃ nl a, env = [some (iT row), some (.tup (ds.map iT)), some (.ref nl), a] ∧ h[nl]? = some (.lst (nP (beh sortU (ds.take i) row.length))) ∧ Sub mh h, ?_, fun _ _ h _ => srcIs_vals _ _, ?_, ?_, ?_⟩
  · simp only [List.length_map]
    unfold loopFuel
    omega
  · rintro i v env h hv ⟨nl, a, rfl, k1, k2⟩
    rw [List.getElem?_map] at hv
    obtain ⟨d, hdi, rfl⟩ := Option.map_eq_some_iff.mp hv
    have htake : ds.take (i + 1) = ds.take i ++ [d] := by
      rw [List.take_add_one, hdi]
      rfl
    have hdl := hd.row d (List.mem_of_getElem? hdi)
    obtain ⟨b1, b2⟩ := beh_len sortU_sorted (ds := ds.take i) (n := row.length) (sortU_col fun e he => hd.row e (take_mem he))
    refine ⟨_, rfl, ?_⟩
    try simp only [if_true, if_false, Bool.false_eq_true, okS_nx, ok_trB, ok_trI, ok_bind, ok_bin, ok_un, ok_k, ok_cmp, ok_cmpT, ok_chain, ok_bl, ok_nil, ok_cons, ok_call, ok_callOp, ok_isi, ok_test, ok_andT, ok_orT, ok_notT, ok_isBl, ok_andV, ok_orV, ok_notV, ok_if, okS_next, okS_seq, okS_ret, okS_expr, okS_if, okS_set, ok_run, ok_src, ok_range, ok_ok, ok_obv, ok_ob, sNext, ok_var0, ok_varS, List.map_cons, List.map_nil, List.length_cons, List.length_nil, List.replicate_succ, List.replicate_zero, List.cons_append, List.nil_append, List.getElem?_cons_zero, List.getElem?_cons_succ, List.set_cons_zero, List.set_cons_succ, Nat.reduceAdd, Nat.reduceSub, Nat.sub_self, Nat.zero_add, Nat.sub_zero]
    refine pulled_s k1 (by omega) (by omega) (fun x hx => by rw [hdl]; exact b2 x hx) fun nn h2 s2 f2 l2 => ?_
    refine ⟨_, _, rfl, ?_, k2.trans s2⟩
    rw [l2, htake]
    unfold beh
    rw [List.foldl_append]
    rfl
  · rintro env h ⟨nl, a, rfl, k1, k2⟩
    try simp only [if_true, if_false, Bool.false_eq_true, okS_nx, ok_trB, ok_trI, ok_bind, ok_bin, ok_un, ok_k, ok_cmp, ok_cmpT, ok_chain, ok_bl, ok_nil, ok_cons, ok_call, ok_callOp, ok_isi, ok_test, ok_andT, ok_orT, ok_notT, ok_isBl, ok_andV, ok_orV, ok_notV, ok_if, okS_next, okS_seq, okS_ret, okS_expr, okS_if, okS_set, ok_run, ok_src, ok_range, ok_ok, ok_obv, ok_ob, sNext, ok_var0, ok_varS, List.map_cons, List.map_nil, List.length_cons, List.length_nil, List.replicate_succ, List.replicate_zero, List.cons_append, List.nil_append, List.getElem?_cons_zero, List.getElem?_cons_succ, List.set_cons_zero, List.set_cons_succ, Nat.reduceAdd, Nat.reduceSub, Nat.sub_self, Nat.zero_add, Nat.sub_zero]
    rw [List.take_of_length_le (by simp)] at k1
    refine ok_tupleOf (seq_lst k1) ?_
    exact q _ k2
  · refine ⟨_, _, rfl, ?_, s1⟩
    rw [l1]
    simp only [iL, List.map_map]
    rfl
theorem behind_s {row : List Int} {ds : List (List Int)} (hr : IsRow row) (hd : IsDeals row.length ds) (q : ∀ h, Sub mh h → Q (.tup (nP (beh sortU ds row.length))) h) : Ok (f_behind [iT row, .tup (ds.map iT)] mh) Q := by
  unfold f_behind
  try simp only [if_true, if_false, Bool.false_eq_true, okS_nx, ok_trB, ok_trI, ok_bind, ok_bin, ok_un, ok_k, ok_cmp, ok_cmpT, ok_chain, ok_bl, ok_nil, ok_cons, ok_call, ok_callOp, ok_isi, ok_test, ok_andT, ok_orT, ok_notT, ok_isBl, ok_andV, ok_orV, ok_notV, ok_if, okS_next, okS_seq, okS_ret, okS_expr, okS_if, okS_set, ok_run, ok_src, ok_range, ok_ok, ok_obv, ok_ob, sNext, ok_var0, ok_varS, List.map_cons, List.map_nil, List.length_cons, List.length_nil, List.replicate_succ, List.replicate_zero, List.cons_append, List.nil_append, List.getElem?_cons_zero, List.getElem?_cons_succ, List.set_cons_zero, List.set_cons_succ, Nat.reduceAdd, Nat.reduceSub, Nat.sub_self, Nat.zero_add, Nat.sub_zero]
  refine check_row_s hr fun v h1 s1 => ?_
  try simp only [if_true, if_false, Bool.false_eq_true, okS_nx, ok_trB, ok_trI, ok_bind, ok_bin, ok_un, ok_k, ok_cmp, ok_cmpT, ok_chain, ok_bl, ok_nil, ok_cons, ok_call, ok_callOp, ok_isi, ok_test, ok_andT, ok_orT, ok_notT, ok_isBl, ok_andV, ok_orV, ok_notV, ok_if, okS_next, okS_seq, okS_ret, okS_expr, okS_if, okS_set, ok_run, ok_src, ok_range, ok_ok, ok_obv, ok_ob, sNext, ok_var0, ok_varS, List.map_cons, List.map_nil, List.length_cons, List.length_nil, List.replicate_succ, List.replicate_zero, List.cons_append, List.nil_append, List.getElem?_cons_zero, List.getElem?_cons_succ, List.set_cons_zero, List.set_cons_succ, Nat.reduceAdd, Nat.reduceSub, Nat.sub_self, Nat.zero_add, Nat.sub_zero]
  refine check_deals_s hr.len hd fun v h2 s2 => ?_
  try simp only [if_true, if_false, Bool.false_eq_true, okS_nx, ok_trB, ok_trI, ok_bind, ok_bin, ok_un, ok_k, ok_cmp, ok_cmpT, ok_chain, ok_bl, ok_nil, ok_cons, ok_call, ok_callOp, ok_isi, ok_test, ok_andT, ok_orT, ok_notT, ok_isBl, ok_andV, ok_orV, ok_notV, ok_if, okS_next, okS_seq, okS_ret, okS_expr, okS_if, okS_set, ok_run, ok_src, ok_range, ok_ok, ok_obv, ok_ob, sNext, ok_var0, ok_varS, List.map_cons, List.map_nil, List.length_cons, List.length_nil, List.replicate_succ, List.replicate_zero, List.cons_append, List.nil_append, List.getElem?_cons_zero, List.getElem?_cons_succ, List.set_cons_zero, List.set_cons_succ, Nat.reduceAdd, Nat.reduceSub, Nat.sub_self, Nat.zero_add, Nat.sub_zero]
  refine behind_all_s hr.len hd fun h3 s3 => ?_
  exact q _ ((s1.trans s2).trans s3)
end
end K49
namespace K49
open PySem PySem.Spec PyProof.Rows L2 RZ Ev
section
variable {mh h : MH} {Q : PV → MH → Prop} {env : PEnv}
theorem ordered_s {cs : List Int} {n : Nat} (hn : cs.length = n) (hl : n ≤ 30) (q : ∀ l h, Ord (CL (col cs)) n l → Sub mh h → Q (.tup (nP l)) h) : Ok (f_ordered [iT cs] mh) Q := by
  obtain ⟨l, ol, el⟩ := sort_ord (col cs) n
  unfold f_ordered
  try simp only [if_true, if_false, Bool.false_eq_true, okS_nx, ok_trB, ok_trI, ok_bind, ok_bin, ok_un, ok_k, ok_cmp, ok_cmpT, ok_chain, ok_bl, ok_nil, ok_cons, ok_call, ok_callOp, ok_isi, ok_test, ok_andT, ok_orT, ok_notT, ok_isBl, ok_andV, ok_orV, ok_notV, ok_if, okS_next, okS_seq, okS_ret, okS_expr, okS_if, okS_set, ok_run, ok_src, ok_range, ok_ok, ok_obv, ok_ob, sNext, ok_var0, ok_varS, List.map_cons, List.map_nil, List.length_cons, List.length_nil, List.replicate_succ, List.replicate_zero, List.cons_append, List.nil_append, List.getElem?_cons_zero, List.getElem?_cons_succ, List.set_cons_zero, List.set_cons_succ, Nat.reduceAdd, Nat.reduceSub, Nat.sub_self, Nat.zero_add, Nat.sub_zero]
  refine ok_sortKey ?_
  refine ok_srcR ?_
  try simp only [if_true, if_false, Bool.false_eq_true, okS_nx, ok_trB, ok_trI, ok_bind, ok_bin, ok_un, ok_k, ok_cmp, ok_cmpT, ok_chain, ok_bl, ok_nil, ok_cons, ok_call, ok_callOp, ok_isi, ok_test, ok_andT, ok_orT, ok_notT, ok_isBl, ok_andV, ok_orV, ok_notV, ok_if, okS_next, okS_seq, okS_ret, okS_expr, okS_if, okS_set, ok_run, ok_src, ok_range, ok_ok, ok_obv, ok_ob, sNext, ok_var0, ok_varS, List.map_cons, List.map_nil, List.length_cons, List.length_nil, List.replicate_succ, List.replicate_zero, List.cons_append, List.nil_append, List.getElem?_cons_zero, List.getElem?_cons_succ, List.set_cons_zero, List.set_cons_succ, Nat.reduceAdd, Nat.reduceSub, Nat.sub_self, Nat.zero_add, Nat.sub_zero]
  refine ok_len (seq_tup _) ⟨_, rfl, ?_, ?_⟩
  · rw [List.length_map, hn]
    exact rgB_nat (by omega)
  rw [List.length_map, hn, rg0]
  let kf : PV → PV := fun v => match v with
    | .int k => .tup [.int (col cs k.toNat), .int k]
    | _ => .non
  refine ⟨kf, (List.range n).map fun k => PyData.tuple [.int (col cs k), .int (k : Nat)], fun v hv => ?_, ?_, fun m h1 s1 f1 l1 => ?_⟩
  · simp only [iL, List.map_map, List.mem_map, List.mem_range] at hv
    obtain ⟨k, hk, rfl⟩ := hv
    have hk2 : Ok ((mTup (mCons (mBin opIx (mVar 0) (mVar 1)) (mCons (mVar 1) mNil))) ([some (iT cs), some (.int (k : Nat))] : PEnv) mh) fun v h => v = kf (.int (k : Nat)) ∧ h = mh := by
      refine ok_mtup ?_
      try simp only [if_true, if_false, Bool.false_eq_true, okS_nx, ok_trB, ok_trI, ok_bind, ok_bin, ok_un, ok_k, ok_cmp, ok_cmpT, ok_chain, ok_bl, ok_nil, ok_cons, ok_call, ok_callOp, ok_isi, ok_test, ok_andT, ok_orT, ok_notT, ok_isBl, ok_andV, ok_orV, ok_notV, ok_if, okS_next, okS_seq, okS_ret, okS_expr, okS_if, okS_set, ok_run, ok_src, ok_range, ok_ok, ok_obv, ok_ob, sNext, ok_var0, ok_varS, List.map_cons, List.map_nil, List.length_cons, List.length_nil, List.replicate_succ, List.replicate_zero, List.cons_append, List.nil_append, List.getElem?_cons_zero, List.getElem?_cons_succ, List.set_cons_zero, List.set_cons_succ, Nat.reduceAdd, Nat.reduceSub, Nat.sub_self, Nat.zero_add, Nat.sub_zero]
      refine ok_ix (k := k) (x := .int (col cs k)) (seq_tup _) (by rw [List.getElem?_map, col_at (by omega)]; rfl) (fun _ z => by cases z) ?_
      try simp only [if_true, if_false, Bool.false_eq_true, okS_nx, ok_trB, ok_trI, ok_bind, ok_bin, ok_un, ok_k, ok_cmp, ok_cmpT, ok_chain, ok_bl, ok_nil, ok_cons, ok_call, ok_callOp, ok_isi, ok_test, ok_andT, ok_orT, ok_notT, ok_isBl, ok_andV, ok_orV, ok_notV, ok_if, okS_next, okS_seq, okS_ret, okS_expr, okS_if, okS_set, ok_run, ok_src, ok_range, ok_ok, ok_obv, ok_ob, sNext, ok_var0, ok_varS, List.map_cons, List.map_nil, List.length_cons, List.length_nil, List.replicate_succ, List.replicate_zero, List.cons_append, List.nil_append, List.getElem?_cons_zero, List.getElem?_cons_succ, List.set_cons_zero, List.set_cons_succ, Nat.reduceAdd, Nat.reduceSub, Nat.sub_self, Nat.zero_add, Nat.sub_zero]
      exact ⟨by decide, rfl, by first | trivial | rfl⟩
    obtain ⟨a, h', e, e1, e2⟩ := hk2.get
    rw [e1, e2] at e
    exact e
  · rw [show (iL ((List.range n).map fun (k : Nat) => (k : Int))).map kf = (List.range n).map fun (k : Nat) => PV.tup [.int (col cs k), .int (k : Nat)] from by simp only [iL, List.map_map]; rfl]
    exact keysD_pairs (col cs) (fun k => (k : Nat)) _
  · try simp only [if_true, if_false, Bool.false_eq_true, okS_nx, ok_trB, ok_trI, ok_bind, ok_bin, ok_un, ok_k, ok_cmp, ok_cmpT, ok_chain, ok_bl, ok_nil, ok_cons, ok_call, ok_callOp, ok_isi, ok_test, ok_andT, ok_orT, ok_notT, ok_isBl, ok_andV, ok_orV, ok_notV, ok_if, okS_next, okS_seq, okS_ret, okS_expr, okS_if, okS_set, ok_run, ok_src, ok_range, ok_ok, ok_obv, ok_ob, sNext, ok_var0, ok_varS, List.map_cons, List.map_nil, List.length_cons, List.length_nil, List.replicate_succ, List.replicate_zero, List.cons_append, List.nil_append, List.getElem?_cons_zero, List.getElem?_cons_succ, List.set_cons_zero, List.set_cons_succ, Nat.reduceAdd, Nat.reduceSub, Nat.sub_self, Nat.zero_add, Nat.sub_zero]
    rw [show iL ((List.range n).map fun (k : Nat) => (k : Int)) = (List.range n).map fun k => PV.int (k : Nat) from by simp only [iL, List.map_map]; rfl, el] at l1
    refine ok_tupleOf (seq_lst l1) ?_
    exact q l _ ol s1
theorem law_ordered_s {cs : List Int} (hl : cs.length ≤ 30) (q : ∀ h, Sub mh h → Q (.tup (nP (bk (sortU cs) (col cs) (List.range cs.length)))) h) : Ok (f__law_ordered [iT cs] mh) Q := by
  have hsl := sortU_len cs
  unfold f__law_ordered
  try simp only [if_true, if_false, Bool.false_eq_true, okS_nx, ok_trB, ok_trI, ok_bind, ok_bin, ok_un, ok_k, ok_cmp, ok_cmpT, ok_chain, ok_bl, ok_nil, ok_cons, ok_call, ok_callOp, ok_isi, ok_test, ok_andT, ok_orT, ok_notT, ok_isBl, ok_andV, ok_orV, ok_notV, ok_if, okS_next, okS_seq, okS_ret, okS_expr, okS_if, okS_set, ok_run, ok_src, ok_range, ok_ok, ok_obv, ok_ob, sNext, ok_var0, ok_varS, List.map_cons, List.map_nil, List.length_cons, List.length_nil, List.replicate_succ, List.replicate_zero, List.cons_append, List.nil_append, List.getElem?_cons_zero, List.getElem?_cons_succ, List.set_cons_zero, List.set_cons_succ, Nat.reduceAdd, Nat.reduceSub, Nat.sub_self, Nat.zero_add, Nat.sub_zero]
  refine ok_mklN ⟨by decide, fun nf h1 s1 f1 l1 => ?_⟩
  refine okS_for ?_
  try simp only [if_true, if_false, Bool.false_eq_true, okS_nx, ok_trB, ok_trI, ok_bind, ok_bin, ok_un, ok_k, ok_cmp, ok_cmpT, ok_chain, ok_bl, ok_nil, ok_cons, ok_call, ok_callOp, ok_isi, ok_test, ok_andT, ok_orT, ok_notT, ok_isBl, ok_andV, ok_orV, ok_notV, ok_if, okS_next, okS_seq, okS_ret, okS_expr, okS_if, okS_set, ok_run, ok_src, ok_range, ok_ok, ok_obv, ok_ob, sNext, ok_var0, ok_varS, List.map_cons, List.map_nil, List.length_cons, List.length_nil, List.replicate_succ, List.replicate_zero, List.cons_append, List.nil_append, List.getElem?_cons_zero, List.getElem?_cons_succ, List.set_cons_zero, List.set_cons_succ, Nat.reduceAdd, Nat.reduceSub, Nat.sub_self, Nat.zero_add, Nat.sub_zero]
  refine ok_setT (Nat.lt_of_le_of_lt (Nat.succ_le_succ hl) (by decide)) fun ns h2 s2 f2 l2 => ?_
  refine ok_sortedSet l2 (by omega) fun n0 h3 s3 f3 l3 => ?_
  refine ok_srcL l3 ?_
  have nf0 : nf ≠ n0 := fun z => by
    have := s2 _ _ l1
    rw [z, f3] at this
    cases this
  refine ⟨iL (sortU cs), fun i env h => ∃ a b, env = [some (iT cs), some (.ref nf), a, b] ∧ h[nf]? = some (.lst (nP (bk ((sortU cs).take i) (col cs) (List.range cs.length)))) ∧ Sub mh h ∧ h[n0]? = some (.lst (iL (sortU cs))), ?_, fun _ _ h z => ?_, ?_, ?_, ?_⟩
  · simp only [List.length_map]
    unfold loopFuel
    omega
  · obtain ⟨_, _, _, _, _, z⟩ := z
    exact srcIs_lst z
  · rintro i v env h hv ⟨a, b, rfl, k1, k2, k3⟩
    rw [List.getElem?_map] at hv
    obtain ⟨t, ht, rfl⟩ := Option.map_eq_some_iff.mp hv
    have htake : (sortU cs).take (i + 1) = (sortU cs).take i ++ [t] := by
      rw [List.take_add_one, ht]
      rfl
    have hi := (List.getElem?_eq_some_iff.mp ht).1
    refine ⟨_, rfl, ?_⟩
    try simp only [if_true, if_false, Bool.false_eq_true, okS_nx, ok_trB, ok_trI, ok_bind, ok_bin, ok_un, ok_k, ok_cmp, ok_cmpT, ok_chain, ok_bl, ok_nil, ok_cons, ok_call, ok_callOp, ok_isi, ok_test, ok_andT, ok_orT, ok_notT, ok_isBl, ok_andV, ok_orV, ok_notV, ok_if, okS_next, okS_seq, okS_ret, okS_expr, okS_if, okS_set, ok_run, ok_src, ok_range, ok_ok, ok_obv, ok_ob, sNext, ok_var0, ok_varS, List.map_cons, List.map_nil, List.length_cons, List.length_nil, List.replicate_succ, List.replicate_zero, List.cons_append, List.nil_append, List.getElem?_cons_zero, List.getElem?_cons_succ, List.set_cons_zero, List.set_cons_succ, Nat.reduceAdd, Nat.reduceSub, Nat.sub_self, Nat.zero_add, Nat.sub_zero, ok_meth1]
    refine ok_recv ?_
    try simp only [if_true, if_false, Bool.false_eq_true, okS_nx, ok_trB, ok_trI, ok_bind, ok_bin, ok_un, ok_k, ok_cmp, ok_cmpT, ok_chain, ok_bl, ok_nil, ok_cons, ok_call, ok_callOp, ok_isi, ok_test, ok_andT, ok_orT, ok_notT, ok_isBl, ok_andV, ok_orV, ok_notV, ok_if, okS_next, okS_seq, okS_ret, okS_expr, okS_if, okS_set, ok_run, ok_src, ok_range, ok_ok, ok_obv, ok_ob, sNext, ok_var0, ok_varS, List.map_cons, List.map_nil, List.length_cons, List.length_nil, List.replicate_succ, List.replicate_zero, List.cons_append, List.nil_append, List.getElem?_cons_zero, List.getElem?_cons_succ, List.set_cons_zero, List.set_cons_succ, Nat.reduceAdd, Nat.reduceSub, Nat.sub_self, Nat.zero_add, Nat.sub_zero]
    refine ⟨_, _, rfl, k1, ?_⟩
    refine ok_compP (List.range cs.length) (fun k => .int (k : Nat)) (fun k => decide (col cs k = t)) (fun k => .int (k : Nat)) ?_ ?_ ?_
    · try simp only [if_true, if_false, Bool.false_eq_true, okS_nx, ok_trB, ok_trI, ok_bind, ok_bin, ok_un, ok_k, ok_cmp, ok_cmpT, ok_chain, ok_bl, ok_nil, ok_cons, ok_call, ok_callOp, ok_isi, ok_test, ok_andT, ok_orT, ok_notT, ok_isBl, ok_andV, ok_orV, ok_notV, ok_if, okS_next, okS_seq, okS_ret, okS_expr, okS_if, okS_set, ok_run, ok_src, ok_range, ok_ok, ok_obv, ok_ob, sNext, ok_var0, ok_varS, List.map_cons, List.map_nil, List.length_cons, List.length_nil, List.replicate_succ, List.replicate_zero, List.cons_append, List.nil_append, List.getElem?_cons_zero, List.getElem?_cons_succ, List.set_cons_zero, List.set_cons_succ, Nat.reduceAdd, Nat.reduceSub, Nat.sub_self, Nat.zero_add, Nat.sub_zero]
      refine ok_len (seq_tup _) ⟨_, range1 (by rw [List.length_map]; omega), by simp; unfold loopFuel; omega, .refl _, fun h' hs' => ?_⟩
      rw [List.length_map]
      exact srcIs_vals _ _
    · intro x hxc h' hs'
      have hlt := List.mem_range.mp hxc
      refine ⟨_, rfl, ?_⟩
      simp only [wipeE]
      try simp only [if_true, if_false, Bool.false_eq_true, okS_nx, ok_trB, ok_trI, ok_bind, ok_bin, ok_un, ok_k, ok_cmp, ok_cmpT, ok_chain, ok_bl, ok_nil, ok_cons, ok_call, ok_callOp, ok_isi, ok_test, ok_andT, ok_orT, ok_notT, ok_isBl, ok_andV, ok_orV, ok_notV, ok_if, okS_next, okS_seq, okS_ret, okS_expr, okS_if, okS_set, ok_run, ok_src, ok_range, ok_ok, ok_obv, ok_ob, sNext, ok_var0, ok_varS, List.map_cons, List.map_nil, List.length_cons, List.length_nil, List.replicate_succ, List.replicate_zero, List.cons_append, List.nil_append, List.getElem?_cons_zero, List.getElem?_cons_succ, List.set_cons_zero, List.set_cons_succ, Nat.reduceAdd, Nat.reduceSub, Nat.sub_self, Nat.zero_add, Nat.sub_zero]
      refine ok_ix (k := x) (x := .int (col cs x)) (seq_tup _) (by rw [List.getElem?_map, col_at hlt]; rfl) (fun _ z => by cases z) ?_
      try simp only [if_true, if_false, Bool.false_eq_true, okS_nx, ok_trB, ok_trI, ok_bind, ok_bin, ok_un, ok_k, ok_cmp, ok_cmpT, ok_chain, ok_bl, ok_nil, ok_cons, ok_call, ok_callOp, ok_isi, ok_test, ok_andT, ok_orT, ok_notT, ok_isBl, ok_andV, ok_orV, ok_notV, ok_if, okS_next, okS_seq, okS_ret, okS_expr, okS_if, okS_set, ok_run, ok_src, ok_range, ok_ok, ok_obv, ok_ob, sNext, ok_var0, ok_varS, List.map_cons, List.map_nil, List.length_cons, List.length_nil, List.replicate_succ, List.replicate_zero, List.cons_append, List.nil_append, List.getElem?_cons_zero, List.getElem?_cons_succ, List.set_cons_zero, List.set_cons_succ, Nat.reduceAdd, Nat.reduceSub, Nat.sub_self, Nat.zero_add, Nat.sub_zero]
      exact ⟨_, eqD_int, rfl, .refl _, fun _ => ⟨by first | trivial | rfl, .refl _⟩⟩
    · intro n5 h5 s5 f5 l5
      have z1 : (nP (bk ((sortU cs).take i) (col cs) (List.range cs.length))).length ≤ 30 * 30 := by
        rw [nP_len]
        refine Nat.le_trans (bk_len _ _ _) (Nat.mul_le_mul ?_ (by rw [List.length_range]; exact hl))
        rw [List.length_take]
        omega
      have z2 : (List.map (fun k => PV.int (k : Nat)) ((List.range cs.length).filter fun k => decide (col cs k = t))).length ≤ 30 := by
        rw [List.length_map]
        exact Nat.le_trans (List.length_filter_le ..) (by rw [List.length_range]; exact hl)
      refine ok_extend (s5 _ _ k1) l5 (small_line (by omega)) ?_
      have e : nP (bk ((sortU cs).take i) (col cs) (List.range cs.length)) ++ List.map (fun k => PV.int (k : Nat)) ((List.range cs.length).filter fun k => decide (col cs k = t)) = nP (bk ((sortU cs).take (i + 1)) (col cs) (List.range cs.length)) := by
        rw [htake, bk_snoc]
        exact (List.map_append ..).symm
      rw [e]
      exact ⟨_, _, rfl, at_set (s5 _ _ k1) _, (k2.trans s5).set f1 _, by rw [List.getElem?_set_ne nf0]; exact s5 _ _ k3⟩
  · rintro env h ⟨a, b, rfl, k1, k2, k3⟩
    try simp only [if_true, if_false, Bool.false_eq_true, okS_nx, ok_trB, ok_trI, ok_bind, ok_bin, ok_un, ok_k, ok_cmp, ok_cmpT, ok_chain, ok_bl, ok_nil, ok_cons, ok_call, ok_callOp, ok_isi, ok_test, ok_andT, ok_orT, ok_notT, ok_isBl, ok_andV, ok_orV, ok_notV, ok_if, okS_next, okS_seq, okS_ret, okS_expr, okS_if, okS_set, ok_run, ok_src, ok_range, ok_ok, ok_obv, ok_ob, sNext, ok_var0, ok_varS, List.map_cons, List.map_nil, List.length_cons, List.length_nil, List.replicate_succ, List.replicate_zero, List.cons_append, List.nil_append, List.getElem?_cons_zero, List.getElem?_cons_succ, List.set_cons_zero, List.set_cons_succ, Nat.reduceAdd, Nat.reduceSub, Nat.sub_self, Nat.zero_add, Nat.sub_zero]
    rw [List.take_of_length_le (by simp)] at k1
    refine ok_tupleOf (seq_lst k1) ?_
    exact q _ k2
  · exact ⟨_, _, rfl, by rw [List.take_zero]; exact s3 _ _ (s2 _ _ l1), (s1.trans s2).trans s3, l3⟩
def r30 : List Int := (List.range 30).map fun (k : Nat) => (k : Int)
theorem r30_sorted : r30.Pairwise (· < ·) := by
  unfold r30
  rw [List.pairwise_map]
  exact List.pairwise_lt_range.imp fun h => by omega
theorem r30_mem {t : Int} (h0 : 0 ≤ t) (h1 : t ≤ 29) : t ∈ r30 := List.mem_map.mpr ⟨t.toNat, List.mem_range.mpr (by omega), by omega⟩
theorem law_behind_s {row : List Int} {ds : List (List Int)} (hr : row.length ≤ 30) (hd : IsDeals row.length ds) (q : ∀ h, Sub mh h → Q (.tup (nP (beh (fun _ => r30) ds row.length))) h) : Ok (f__law_behind [iT row, .tup (ds.map iT)] mh) Q := by
  have h8 := hd.len
  unfold f__law_behind
  try simp only [if_true, if_false, Bool.false_eq_true, okS_nx, ok_trB, ok_trI, ok_bind, ok_bin, ok_un, ok_k, ok_cmp, ok_cmpT, ok_chain, ok_bl, ok_nil, ok_cons, ok_call, ok_callOp, ok_isi, ok_test, ok_andT, ok_orT, ok_notT, ok_isBl, ok_andV, ok_orV, ok_notV, ok_if, okS_next, okS_seq, okS_ret, okS_expr, okS_if, okS_set, ok_run, ok_src, ok_range, ok_ok, ok_obv, ok_ob, sNext, ok_var0, ok_varS, List.map_cons, List.map_nil, List.length_cons, List.length_nil, List.replicate_succ, List.replicate_zero, List.cons_append, List.nil_append, List.getElem?_cons_zero, List.getElem?_cons_succ, List.set_cons_zero, List.set_cons_succ, Nat.reduceAdd, Nat.reduceSub, Nat.sub_self, Nat.zero_add, Nat.sub_zero]
  refine ok_rg1 ?_
  try simp only [if_true, if_false, Bool.false_eq_true, okS_nx, ok_trB, ok_trI, ok_bind, ok_bin, ok_un, ok_k, ok_cmp, ok_cmpT, ok_chain, ok_bl, ok_nil, ok_cons, ok_call, ok_callOp, ok_isi, ok_test, ok_andT, ok_orT, ok_notT, ok_isBl, ok_andV, ok_orV, ok_notV, ok_if, okS_next, okS_seq, okS_ret, okS_expr, okS_if, okS_set, ok_run, ok_src, ok_range, ok_ok, ok_obv, ok_ob, sNext, ok_var0, ok_varS, List.map_cons, List.map_nil, List.length_cons, List.length_nil, List.replicate_succ, List.replicate_zero, List.cons_append, List.nil_append, List.getElem?_cons_zero, List.getElem?_cons_succ, List.set_cons_zero, List.set_cons_succ, Nat.reduceAdd, Nat.reduceSub, Nat.sub_self, Nat.zero_add, Nat.sub_zero]
  refine ok_len (seq_tup _) ⟨_, rfl, ?_⟩
  rw [List.length_map]
  refine ok_rgL (by omega) fun nc h1 s1 f1 l1 => ?_
  refine okS_for ?_
  try simp only [if_true, if_false, Bool.false_eq_true, okS_nx, ok_trB, ok_trI, ok_bind, ok_bin, ok_un, ok_k, ok_cmp, ok_cmpT, ok_chain, ok_bl, ok_nil, ok_cons, ok_call, ok_callOp, ok_isi, ok_test, ok_andT, ok_orT, ok_notT, ok_isBl, ok_andV, ok_orV, ok_notV, ok_if, okS_next, okS_seq, okS_ret, okS_expr, okS_if, okS_set, ok_run, ok_src, ok_range, ok_ok, ok_obv, ok_ob, sNext, ok_var0, ok_varS, List.map_cons, List.map_nil, List.length_cons, List.length_nil, List.replicate_succ, List.replicate_zero, List.cons_append, List.nil_append, List.getElem?_cons_zero, List.getElem?_cons_succ, List.set_cons_zero, List.set_cons_succ, Nat.reduceAdd, Nat.reduceSub, Nat.sub_self, Nat.zero_add, Nat.sub_zero]
  refine ⟨ds.map iT, fun i env h => ∃ nl a b c, env = [some (iT row), some (.tup (ds.map iT)), some (.ref nl), a, b, c] ∧ h[nl]? = some (.lst (nP (beh (fun _ => r30) (ds.take i) row.length))) ∧ Sub mh h, ?_, fun _ _ h _ => srcIs_vals _ _, ?_, ?_, ?_⟩
  · simp only [List.length_map]
    unfold loopFuel
    omega
  · rintro i v env h hv ⟨nl, a, b, c, rfl, k1, k2⟩
    rw [List.getElem?_map] at hv
    obtain ⟨d, hdi, rfl⟩ := Option.map_eq_some_iff.mp hv
    have htake : ds.take (i + 1) = ds.take i ++ [d] := by
      rw [List.take_add_one, hdi]
      rfl
    have hdl := hd.row d (List.mem_of_getElem? hdi)
    obtain ⟨b1, b2⟩ := beh_len (tf := fun _ => r30) (fun _ => r30_sorted) (ds := ds.take i) (n := row.length) fun e he x hx => by
      have := hd.dig e (take_mem he) _ (col_mem (d := e) (x := x) (by rw [hd.row e (take_mem he)]; exact hx))
      exact r30_mem this.1 this.2
    generalize ec : beh (fun _ => r30) (ds.take i) row.length = cars at k1 b1 b2
    refine ⟨_, rfl, ?_⟩
    try simp only [if_true, if_false, Bool.false_eq_true, okS_nx, ok_trB, ok_trI, ok_bind, ok_bin, ok_un, ok_k, ok_cmp, ok_cmpT, ok_chain, ok_bl, ok_nil, ok_cons, ok_call, ok_callOp, ok_isi, ok_test, ok_andT, ok_orT, ok_notT, ok_isBl, ok_andV, ok_orV, ok_notV, ok_if, okS_next, okS_seq, okS_ret, okS_expr, okS_if, okS_set, ok_run, ok_src, ok_range, ok_ok, ok_obv, ok_ob, sNext, ok_var0, ok_varS, List.map_cons, List.map_nil, List.length_cons, List.length_nil, List.replicate_succ, List.replicate_zero, List.cons_append, List.nil_append, List.getElem?_cons_zero, List.getElem?_cons_succ, List.set_cons_zero, List.set_cons_succ, Nat.reduceAdd, Nat.reduceSub, Nat.sub_self, Nat.zero_add, Nat.sub_zero]
    refine ok_comp ?_
    try simp only [if_true, if_false, Bool.false_eq_true, okS_nx, ok_trB, ok_trI, ok_bind, ok_bin, ok_un, ok_k, ok_cmp, ok_cmpT, ok_chain, ok_bl, ok_nil, ok_cons, ok_call, ok_callOp, ok_isi, ok_test, ok_andT, ok_orT, ok_notT, ok_isBl, ok_andV, ok_orV, ok_notV, ok_if, okS_next, okS_seq, okS_ret, okS_expr, okS_if, okS_set, ok_run, ok_src, ok_range, ok_ok, ok_obv, ok_ob, sNext, ok_var0, ok_varS, List.map_cons, List.map_nil, List.length_cons, List.length_nil, List.replicate_succ, List.replicate_zero, List.cons_append, List.nil_append, List.getElem?_cons_zero, List.getElem?_cons_succ, List.set_cons_zero, List.set_cons_succ, Nat.reduceAdd, Nat.reduceSub, Nat.sub_self, Nat.zero_add, Nat.sub_zero]
    refine ⟨_, range1 (n := 30) (by decide), (List.range 30).map fun k => .int (k : Nat), fun i out g => ∃ ns : List Nat, out = ns.map PV.ref ∧ ns.length = i ∧ Sub h g ∧ ∀ (j : Nat) n, ns[j]? = some n → n ≠ h.length ∧ g[n]? = some (.lst (nP (cars.filter fun x => decide (col d x = (j : Int))))), by decide, fun _ _ g _ _ => srcIs_vals _ _, ?_, ?_, ?_, ?_⟩
    · rintro i out g ⟨ns, rfl, e1, _⟩
      rw [List.length_map]
      omega
    · rintro i v out g hv ⟨ns, rfl, e1, e2, e3⟩ hg
      rw [List.getElem?_map] at hv
      obtain ⟨t, ht, rfl⟩ := Option.map_eq_some_iff.mp hv
      have hti : t = i := by
        obtain ⟨h9, e9⟩ := List.getElem?_eq_some_iff.mp ht
        rw [List.getElem_range] at e9
        exact e9.symm
      subst hti
      refine ⟨_, rfl, ?_⟩
      rw [ok_yes, if_pos rfl]
      simp only [wipeE]
      try simp only [if_true, if_false, Bool.false_eq_true, okS_nx, ok_trB, ok_trI, ok_bind, ok_bin, ok_un, ok_k, ok_cmp, ok_cmpT, ok_chain, ok_bl, ok_nil, ok_cons, ok_call, ok_callOp, ok_isi, ok_test, ok_andT, ok_orT, ok_notT, ok_isBl, ok_andV, ok_orV, ok_notV, ok_if, okS_next, okS_seq, okS_ret, okS_expr, okS_if, okS_set, ok_run, ok_src, ok_range, ok_ok, ok_obv, ok_ob, sNext, ok_var0, ok_varS, List.map_cons, List.map_nil, List.length_cons, List.length_nil, List.replicate_succ, List.replicate_zero, List.cons_append, List.nil_append, List.getElem?_cons_zero, List.getElem?_cons_succ, List.set_cons_zero, List.set_cons_succ, Nat.reduceAdd, Nat.reduceSub, Nat.sub_self, Nat.zero_add, Nat.sub_zero]
      refine ok_compP cars (fun k => .int (k : Nat)) (fun k => decide (col d k = (t : Int))) (fun k => .int (k : Nat)) ?_ ?_ ?_
      · try simp only [if_true, if_false, Bool.false_eq_true, okS_nx, ok_trB, ok_trI, ok_bind, ok_bin, ok_un, ok_k, ok_cmp, ok_cmpT, ok_chain, ok_bl, ok_nil, ok_cons, ok_call, ok_callOp, ok_isi, ok_test, ok_andT, ok_orT, ok_notT, ok_isBl, ok_andV, ok_orV, ok_notV, ok_if, okS_next, okS_seq, okS_ret, okS_expr, okS_if, okS_set, ok_run, ok_src, ok_range, ok_ok, ok_obv, ok_ob, sNext, ok_var0, ok_varS, List.map_cons, List.map_nil, List.length_cons, List.length_nil, List.replicate_succ, List.replicate_zero, List.cons_append, List.nil_append, List.getElem?_cons_zero, List.getElem?_cons_succ, List.set_cons_zero, List.set_cons_succ, Nat.reduceAdd, Nat.reduceSub, Nat.sub_self, Nat.zero_add, Nat.sub_zero]
        exact ok_srcL (e2 _ _ k1) ⟨by unfold loopFuel; omega, .refl _, fun h' hs' => srcIs_lst (hs' _ _ (e2 _ _ k1))⟩
      · intro x hxc h' hs'
        refine ⟨_, rfl, ?_⟩
        simp only [wipeE]
        try simp only [if_true, if_false, Bool.false_eq_true, okS_nx, ok_trB, ok_trI, ok_bind, ok_bin, ok_un, ok_k, ok_cmp, ok_cmpT, ok_chain, ok_bl, ok_nil, ok_cons, ok_call, ok_callOp, ok_isi, ok_test, ok_andT, ok_orT, ok_notT, ok_isBl, ok_andV, ok_orV, ok_notV, ok_if, okS_next, okS_seq, okS_ret, okS_expr, okS_if, okS_set, ok_run, ok_src, ok_range, ok_ok, ok_obv, ok_ob, sNext, ok_var0, ok_varS, List.map_cons, List.map_nil, List.length_cons, List.length_nil, List.replicate_succ, List.replicate_zero, List.cons_append, List.nil_append, List.getElem?_cons_zero, List.getElem?_cons_succ, List.set_cons_zero, List.set_cons_succ, Nat.reduceAdd, Nat.reduceSub, Nat.sub_self, Nat.zero_add, Nat.sub_zero]
        have hlt := b2 x hxc
        refine ok_ix (k := x) (x := .int (col d x)) (seq_tup _) (by rw [List.getElem?_map, col_at (by omega)]; rfl) (fun _ z => by cases z) ?_
        try simp only [if_true, if_false, Bool.false_eq_true, okS_nx, ok_trB, ok_trI, ok_bind, ok_bin, ok_un, ok_k, ok_cmp, ok_cmpT, ok_chain, ok_bl, ok_nil, ok_cons, ok_call, ok_callOp, ok_isi, ok_test, ok_andT, ok_orT, ok_notT, ok_isBl, ok_andV, ok_orV, ok_notV, ok_if, okS_next, okS_seq, okS_ret, okS_expr, okS_if, okS_set, ok_run, ok_src, ok_range, ok_ok, ok_obv, ok_ob, sNext, ok_var0, ok_varS, List.map_cons, List.map_nil, List.length_cons, List.length_nil, List.replicate_succ, List.replicate_zero, List.cons_append, List.nil_append, List.getElem?_cons_zero, List.getElem?_cons_succ, List.set_cons_zero, List.set_cons_succ, Nat.reduceAdd, Nat.reduceSub, Nat.sub_self, Nat.zero_add, Nat.sub_zero]
        exact ⟨_, eqD_int, rfl, .refl _, fun _ => ⟨by first | trivial | rfl, .refl _⟩⟩
      · intro n5 h5 s5 f5 l5
        have nn : n5 ≠ h.length := fun z => by
          rw [z, hg] at f5
          cases f5
        refine ⟨s5 _ _ hg, ns ++ [n5], by simp, by simp [e1], ((e2.trans s5).set (Sub.refl h).new _), fun j n hj => ?_⟩
        by_cases hlt : j < ns.length
        · rw [List.getElem?_append_left hlt] at hj
          obtain ⟨g1, g2⟩ := e3 j n hj
          exact ⟨g1, by rw [List.getElem?_set_ne (Ne.symm g1)]; exact s5 _ _ g2⟩
        · have hj2 := (List.getElem?_eq_some_iff.mp hj).1
          simp only [List.length_append, List.length_singleton] at hj2
          have : j = ns.length := by omega
          subst this
          rw [List.getElem?_append_right (Nat.le_refl _), Nat.sub_self] at hj
          cases hj
          refine ⟨nn, ?_⟩
          rw [List.getElem?_set_ne (Ne.symm nn), l5, e1]
    · exact ⟨[], rfl, rfl, .push _ _, fun j n hj => by simp at hj⟩
    · rintro out g ⟨ns, rfl, e1, e2, e3⟩ hg
      try simp only [if_true, if_false, Bool.false_eq_true, okS_nx, ok_trB, ok_trI, ok_bind, ok_bin, ok_un, ok_k, ok_cmp, ok_cmpT, ok_chain, ok_bl, ok_nil, ok_cons, ok_call, ok_callOp, ok_isi, ok_test, ok_andT, ok_orT, ok_notT, ok_isBl, ok_andV, ok_orV, ok_notV, ok_if, okS_next, okS_seq, okS_ret, okS_expr, okS_if, okS_set, ok_run, ok_src, ok_range, ok_ok, ok_obv, ok_ob, sNext, ok_var0, ok_varS, List.map_cons, List.map_nil, List.length_cons, List.length_nil, List.replicate_succ, List.replicate_zero, List.cons_append, List.nil_append, List.getElem?_cons_zero, List.getElem?_cons_succ, List.set_cons_zero, List.set_cons_succ, Nat.reduceAdd, Nat.reduceSub, Nat.sub_self, Nat.zero_add, Nat.sub_zero]
      refine ok_mklN ⟨by decide, fun n6 g6 s6 f6 l6 => ?_⟩
      try simp only [if_true, if_false, Bool.false_eq_true, okS_nx, ok_trB, ok_trI, ok_bind, ok_bin, ok_un, ok_k, ok_cmp, ok_cmpT, ok_chain, ok_bl, ok_nil, ok_cons, ok_call, ok_callOp, ok_isi, ok_test, ok_andT, ok_orT, ok_notT, ok_isBl, ok_andV, ok_orV, ok_notV, ok_if, okS_next, okS_seq, okS_ret, okS_expr, okS_if, okS_set, ok_run, ok_src, ok_range, ok_ok, ok_obv, ok_ob, sNext, ok_var0, ok_varS, List.map_cons, List.map_nil, List.length_cons, List.length_nil, List.replicate_succ, List.replicate_zero, List.cons_append, List.nil_append, List.getElem?_cons_zero, List.getElem?_cons_succ, List.set_cons_zero, List.set_cons_succ, Nat.reduceAdd, Nat.reduceSub, Nat.sub_self, Nat.zero_add, Nat.sub_zero]
      have el : listsOf g6 (ns.map PV.ref) = some ((List.range 30).map fun (t : Nat) => nP (cars.filter fun x => decide (col d x = (t : Int)))) := listsOf_refs (by simpa using e1) fun j n l a b => by
        rw [List.getElem?_map] at b
        obtain ⟨t, ht, rfl⟩ := Option.map_eq_some_iff.mp b
        obtain ⟨h9, e9⟩ := List.getElem?_eq_some_iff.mp ht
        rw [List.getElem_range] at e9
        rw [← e9]
        exact s6 _ _ (e3 j n a).2
      have ef : ((List.range 30).map fun (t : Nat) => nP (cars.filter fun x => decide (col d x = (t : Int)))).flatten = nP (bk r30 (col d) cars) := by
        unfold bk r30
        simp only [nP, List.map_flatten, List.map_map]
        rfl
      refine ok_sumL (s6 _ _ hg) l6 el (by simp) ?_ ?_
      · rw [ef, nP_len]
        refine small_line (Nat.le_trans (bk_len _ _ _) ?_)
        have : r30.length = 30 := by unfold r30; simp
        rw [this]
        omega
      · rw [ef]
        intro n7 g7 s7 f7 l7
        refine ⟨_, _, _, _, rfl, ?_, ((k2.trans e2).trans s6).trans s7⟩
        rw [l7, htake, ← ec]
        unfold beh
        rw [List.foldl_append]
        rfl
  · rintro env h ⟨nl, a, b, c, rfl, k1, k2⟩
    try simp only [if_true, if_false, Bool.false_eq_true, okS_nx, ok_trB, ok_trI, ok_bind, ok_bin, ok_un, ok_k, ok_cmp, ok_cmpT, ok_chain, ok_bl, ok_nil, ok_cons, ok_call, ok_callOp, ok_isi, ok_test, ok_andT, ok_orT, ok_notT, ok_isBl, ok_andV, ok_orV, ok_notV, ok_if, okS_next, okS_seq, okS_ret, okS_expr, okS_if, okS_set, ok_run, ok_src, ok_range, ok_ok, ok_obv, ok_ob, sNext, ok_var0, ok_varS, List.map_cons, List.map_nil, List.length_cons, List.length_nil, List.replicate_succ, List.replicate_zero, List.cons_append, List.nil_append, List.getElem?_cons_zero, List.getElem?_cons_succ, List.set_cons_zero, List.set_cons_succ, Nat.reduceAdd, Nat.reduceSub, Nat.sub_self, Nat.zero_add, Nat.sub_zero]
    rw [List.take_of_length_le (by simp)] at k1
    refine ok_tupleOf (seq_lst k1) ?_
    exact q _ k2
  · refine ⟨_, _, _, _, rfl, ?_, s1⟩
    rw [l1]
    simp only [iL, List.map_map]
    rfl
end
end K49
namespace K49
open PySem PySem.Spec PyProof.Rows L2 RZ Ev
section
variable {mh h : MH} {Q : PV → MH → Prop} {env : PEnv}
theorem pairsOf_map {α β : Type} (f : α → PV) (g : β → PV) : ∀ (l : List α) (k : List β), Ev.pairsOf (l.map f) (k.map g) = (l.zip k).map fun p => PV.tup [f p.1, g p.2]
  | [], _ => rfl
  | _ :: _, [] => rfl
  | a :: l, b :: k => by simp only [List.map_cons, Ev.pairsOf, List.zip_cons_cons, pairsOf_map f g l k]
def riseB (row : List Int) (l : List Nat) : Bool := (l.zip (l.drop 1)).all fun p => decide (col row p.1 ≤ col row p.2)
theorem rise_gen {row : List Int} {l : List Nat} (hl : l.length ≤ 30) (hx : ∀ x ∈ l, x < row.length) (q : ∀ h, Sub mh h → Q (.bl (riseB row l)) h) :
    Ok (mCallOp opAll (mCons (mComp (mZip2 (mCons (mVar 1) (mCons (mSl (mVar 1) (mPart (mK (.int 1))) mNoPart) mNil))) (.tp (.cons (.nm 2) (.cons (.nm 3) .nil))) mYes (mCmp leD (mBin opIx (mVar 0) (mVar 2)) (mBin opIx (mVar 0) (mVar 3))) [2, 3]) mNil) ([some (iT row), some (.tup (nP l)), none, none] : PEnv) mh) Q := by
  try simp only [if_true, if_false, Bool.false_eq_true, okS_nx, ok_trB, ok_trI, ok_bind, ok_bin, ok_un, ok_k, ok_cmp, ok_cmpT, ok_chain, ok_bl, ok_nil, ok_cons, ok_call, ok_callOp, ok_isi, ok_test, ok_andT, ok_orT, ok_notT, ok_isBl, ok_andV, ok_orV, ok_notV, ok_if, okS_next, okS_seq, okS_ret, okS_expr, okS_if, okS_set, ok_run, ok_src, ok_range, ok_ok, ok_obv, ok_ob, sNext, ok_var0, ok_varS, List.map_cons, List.map_nil, List.length_cons, List.length_nil, List.replicate_succ, List.replicate_zero, List.cons_append, List.nil_append, List.getElem?_cons_zero, List.getElem?_cons_succ, List.set_cons_zero, List.set_cons_succ, Nat.reduceAdd, Nat.reduceSub, Nat.sub_self, Nat.zero_add, Nat.sub_zero]
  refine ok_allP (l.zip (l.drop 1)) (fun p => .tup [.int (p.1 : Nat), .int (p.2 : Nat)]) (fun p => decide (col row p.1 ≤ col row p.2)) ?_ ?_ ?_
  · refine ok_zip2 ?_
    try simp only [if_true, if_false, Bool.false_eq_true, okS_nx, ok_trB, ok_trI, ok_bind, ok_bin, ok_un, ok_k, ok_cmp, ok_cmpT, ok_chain, ok_bl, ok_nil, ok_cons, ok_call, ok_callOp, ok_isi, ok_test, ok_andT, ok_orT, ok_notT, ok_isBl, ok_andV, ok_orV, ok_notV, ok_if, okS_next, okS_seq, okS_ret, okS_expr, okS_if, okS_set, ok_run, ok_src, ok_range, ok_ok, ok_obv, ok_ob, sNext, ok_var0, ok_varS, List.map_cons, List.map_nil, List.length_cons, List.length_nil, List.replicate_succ, List.replicate_zero, List.cons_append, List.nil_append, List.getElem?_cons_zero, List.getElem?_cons_succ, List.set_cons_zero, List.set_cons_succ, Nat.reduceAdd, Nat.reduceSub, Nat.sub_self, Nat.zero_add, Nat.sub_zero, ok_sl]
    refine ok_part ?_
    try simp only [if_true, if_false, Bool.false_eq_true, okS_nx, ok_trB, ok_trI, ok_bind, ok_bin, ok_un, ok_k, ok_cmp, ok_cmpT, ok_chain, ok_bl, ok_nil, ok_cons, ok_call, ok_callOp, ok_isi, ok_test, ok_andT, ok_orT, ok_notT, ok_isBl, ok_andV, ok_orV, ok_notV, ok_if, okS_next, okS_seq, okS_ret, okS_expr, okS_if, okS_set, ok_run, ok_src, ok_range, ok_ok, ok_obv, ok_ob, sNext, ok_var0, ok_varS, List.map_cons, List.map_nil, List.length_cons, List.length_nil, List.replicate_succ, List.replicate_zero, List.cons_append, List.nil_append, List.getElem?_cons_zero, List.getElem?_cons_succ, List.set_cons_zero, List.set_cons_succ, Nat.reduceAdd, Nat.reduceSub, Nat.sub_self, Nat.zero_add, Nat.sub_zero]
    refine ⟨1, rfl, ?_⟩
    rw [ok_noPart, ok_slT]
    refine ⟨_, _, _, _, _, _, rfl, rfl, rfl, by rw [List.length_zip]; unfold loopFuel; omega, .refl _, fun h _ => ?_⟩
    have e : cutL (nP l) (some 1) none = nP (l.drop 1) := by
      have := cut_from (nP l) 1
      rw [show cutL (nP l) (some 1) none = (nP l).drop 1 from this]
      exact List.map_drop.symm
    rw [e]
    have := (srcIs_vals (nP l) h).zip (srcIs_vals (nP (l.drop 1)) h)
    rw [pairsOf_map] at this
    exact this
  · intro p hp h hs
    have h1 := hx _ (List.of_mem_zip hp).1
    have h2 := hx _ (List.mem_of_mem_drop (List.of_mem_zip hp).2)
    refine ⟨_, rfl, ?_⟩
    simp only [wipeE]
    try simp only [if_true, if_false, Bool.false_eq_true, okS_nx, ok_trB, ok_trI, ok_bind, ok_bin, ok_un, ok_k, ok_cmp, ok_cmpT, ok_chain, ok_bl, ok_nil, ok_cons, ok_call, ok_callOp, ok_isi, ok_test, ok_andT, ok_orT, ok_notT, ok_isBl, ok_andV, ok_orV, ok_notV, ok_if, okS_next, okS_seq, okS_ret, okS_expr, okS_if, okS_set, ok_run, ok_src, ok_range, ok_ok, ok_obv, ok_ob, sNext, ok_var0, ok_varS, List.map_cons, List.map_nil, List.length_cons, List.length_nil, List.replicate_succ, List.replicate_zero, List.cons_append, List.nil_append, List.getElem?_cons_zero, List.getElem?_cons_succ, List.set_cons_zero, List.set_cons_succ, Nat.reduceAdd, Nat.reduceSub, Nat.sub_self, Nat.zero_add, Nat.sub_zero]
    refine ok_ix (k := p.1) (x := .int (col row p.1)) (seq_tup _) (by rw [List.getElem?_map, col_at h1]; rfl) (fun _ z => by cases z) ?_
    try simp only [if_true, if_false, Bool.false_eq_true, okS_nx, ok_trB, ok_trI, ok_bind, ok_bin, ok_un, ok_k, ok_cmp, ok_cmpT, ok_chain, ok_bl, ok_nil, ok_cons, ok_call, ok_callOp, ok_isi, ok_test, ok_andT, ok_orT, ok_notT, ok_isBl, ok_andV, ok_orV, ok_notV, ok_if, okS_next, okS_seq, okS_ret, okS_expr, okS_if, okS_set, ok_run, ok_src, ok_range, ok_ok, ok_obv, ok_ob, sNext, ok_var0, ok_varS, List.map_cons, List.map_nil, List.length_cons, List.length_nil, List.replicate_succ, List.replicate_zero, List.cons_append, List.nil_append, List.getElem?_cons_zero, List.getElem?_cons_succ, List.set_cons_zero, List.set_cons_succ, Nat.reduceAdd, Nat.reduceSub, Nat.sub_self, Nat.zero_add, Nat.sub_zero]
    refine ok_ix (k := p.2) (x := .int (col row p.2)) (seq_tup _) (by rw [List.getElem?_map, col_at h2]; rfl) (fun _ z => by cases z) ?_
    try simp only [if_true, if_false, Bool.false_eq_true, okS_nx, ok_trB, ok_trI, ok_bind, ok_bin, ok_un, ok_k, ok_cmp, ok_cmpT, ok_chain, ok_bl, ok_nil, ok_cons, ok_call, ok_callOp, ok_isi, ok_test, ok_andT, ok_orT, ok_notT, ok_isBl, ok_andV, ok_orV, ok_notV, ok_if, okS_next, okS_seq, okS_ret, okS_expr, okS_if, okS_set, ok_run, ok_src, ok_range, ok_ok, ok_obv, ok_ob, sNext, ok_var0, ok_varS, List.map_cons, List.map_nil, List.length_cons, List.length_nil, List.replicate_succ, List.replicate_zero, List.cons_append, List.nil_append, List.getElem?_cons_zero, List.getElem?_cons_succ, List.set_cons_zero, List.set_cons_succ, Nat.reduceAdd, Nat.reduceSub, Nat.sub_self, Nat.zero_add, Nat.sub_zero]
    exact ⟨_, rfl, rfl, .refl _⟩
  · intro h hs
    exact q h hs
theorem in_order_s {row : List Int} {l : List Nat} (hl : l.length ≤ 30) (hx : ∀ x ∈ l, x < row.length) (q : ∀ h, Sub mh h → Q (.bl (riseB row l)) h) : Ok (f_is_in_order [iT row, .tup (nP l)] mh) Q := by
  unfold f_is_in_order
  have r := rise_gen (Q := Q) hl hx q
  try simp only [if_true, if_false, Bool.false_eq_true, okS_nx, ok_trB, ok_trI, ok_bind, ok_bin, ok_un, ok_k, ok_cmp, ok_cmpT, ok_chain, ok_bl, ok_nil, ok_cons, ok_call, ok_callOp, ok_isi, ok_test, ok_andT, ok_orT, ok_notT, ok_isBl, ok_andV, ok_orV, ok_notV, ok_if, okS_next, okS_seq, okS_ret, okS_expr, okS_if, okS_set, ok_run, ok_src, ok_range, ok_ok, ok_obv, ok_ob, sNext, ok_var0, ok_varS, List.map_cons, List.map_nil, List.length_cons, List.length_nil, List.replicate_succ, List.replicate_zero, List.cons_append, List.nil_append, List.getElem?_cons_zero, List.getElem?_cons_succ, List.set_cons_zero, List.set_cons_succ, Nat.reduceAdd, Nat.reduceSub, Nat.sub_self, Nat.zero_add, Nat.sub_zero] at r
  try simp only [if_true, if_false, Bool.false_eq_true, okS_nx, ok_trB, ok_trI, ok_bind, ok_bin, ok_un, ok_k, ok_cmp, ok_cmpT, ok_chain, ok_bl, ok_nil, ok_cons, ok_call, ok_callOp, ok_isi, ok_test, ok_andT, ok_orT, ok_notT, ok_isBl, ok_andV, ok_orV, ok_notV, ok_if, okS_next, okS_seq, okS_ret, okS_expr, okS_if, okS_set, ok_run, ok_src, ok_range, ok_ok, ok_obv, ok_ob, sNext, ok_var0, ok_varS, List.map_cons, List.map_nil, List.length_cons, List.length_nil, List.replicate_succ, List.replicate_zero, List.cons_append, List.nil_append, List.getElem?_cons_zero, List.getElem?_cons_succ, List.set_cons_zero, List.set_cons_succ, Nat.reduceAdd, Nat.reduceSub, Nat.sub_self, Nat.zero_add, Nat.sub_zero]
  exact r
theorem law_rise_s {row : List Int} {l : List Nat} (hl : l.length ≤ 30) (hx : ∀ x ∈ l, x < row.length) (q : ∀ h, Sub mh h → Q (.bl (riseB row l)) h) : Ok (f__law_rise [iT row, .tup (nP l)] mh) Q := by
  unfold f__law_rise
  have r := rise_gen (Q := Q) hl hx q
  try simp only [if_true, if_false, Bool.false_eq_true, okS_nx, ok_trB, ok_trI, ok_bind, ok_bin, ok_un, ok_k, ok_cmp, ok_cmpT, ok_chain, ok_bl, ok_nil, ok_cons, ok_call, ok_callOp, ok_isi, ok_test, ok_andT, ok_orT, ok_notT, ok_isBl, ok_andV, ok_orV, ok_notV, ok_if, okS_next, okS_seq, okS_ret, okS_expr, okS_if, okS_set, ok_run, ok_src, ok_range, ok_ok, ok_obv, ok_ob, sNext, ok_var0, ok_varS, List.map_cons, List.map_nil, List.length_cons, List.length_nil, List.replicate_succ, List.replicate_zero, List.cons_append, List.nil_append, List.getElem?_cons_zero, List.getElem?_cons_succ, List.set_cons_zero, List.set_cons_succ, Nat.reduceAdd, Nat.reduceSub, Nat.sub_self, Nat.zero_add, Nat.sub_zero] at r
  try simp only [if_true, if_false, Bool.false_eq_true, okS_nx, ok_trB, ok_trI, ok_bind, ok_bin, ok_un, ok_k, ok_cmp, ok_cmpT, ok_chain, ok_bl, ok_nil, ok_cons, ok_call, ok_callOp, ok_isi, ok_test, ok_andT, ok_orT, ok_notT, ok_isBl, ok_andV, ok_orV, ok_notV, ok_if, okS_next, okS_seq, okS_ret, okS_expr, okS_if, okS_set, ok_run, ok_src, ok_range, ok_ok, ok_obv, ok_ob, sNext, ok_var0, ok_varS, List.map_cons, List.map_nil, List.length_cons, List.length_nil, List.replicate_succ, List.replicate_zero, List.cons_append, List.nil_append, List.getElem?_cons_zero, List.getElem?_cons_succ, List.set_cons_zero, List.set_cons_succ, Nat.reduceAdd, Nat.reduceSub, Nat.sub_self, Nat.zero_add, Nat.sub_zero]
  exact r
theorem by_codes_s {row cs : List Int} (hr : IsRow row) (hc : IsCodes row.length cs) (q : ∀ l h, Ord (CL (col cs)) row.length l → Sub mh h → Q (.tup (nP l)) h) : Ok (f_by_codes [iT row, iT cs] mh) Q := by
  unfold f_by_codes
  try simp only [if_true, if_false, Bool.false_eq_true, okS_nx, ok_trB, ok_trI, ok_bind, ok_bin, ok_un, ok_k, ok_cmp, ok_cmpT, ok_chain, ok_bl, ok_nil, ok_cons, ok_call, ok_callOp, ok_isi, ok_test, ok_andT, ok_orT, ok_notT, ok_isBl, ok_andV, ok_orV, ok_notV, ok_if, okS_next, okS_seq, okS_ret, okS_expr, okS_if, okS_set, ok_run, ok_src, ok_range, ok_ok, ok_obv, ok_ob, sNext, ok_var0, ok_varS, List.map_cons, List.map_nil, List.length_cons, List.length_nil, List.replicate_succ, List.replicate_zero, List.cons_append, List.nil_append, List.getElem?_cons_zero, List.getElem?_cons_succ, List.set_cons_zero, List.set_cons_succ, Nat.reduceAdd, Nat.reduceSub, Nat.sub_self, Nat.zero_add, Nat.sub_zero]
  refine check_row_s hr fun v h1 s1 => ?_
  try simp only [if_true, if_false, Bool.false_eq_true, okS_nx, ok_trB, ok_trI, ok_bind, ok_bin, ok_un, ok_k, ok_cmp, ok_cmpT, ok_chain, ok_bl, ok_nil, ok_cons, ok_call, ok_callOp, ok_isi, ok_test, ok_andT, ok_orT, ok_notT, ok_isBl, ok_andV, ok_orV, ok_notV, ok_if, okS_next, okS_seq, okS_ret, okS_expr, okS_if, okS_set, ok_run, ok_src, ok_range, ok_ok, ok_obv, ok_ob, sNext, ok_var0, ok_varS, List.map_cons, List.map_nil, List.length_cons, List.length_nil, List.replicate_succ, List.replicate_zero, List.cons_append, List.nil_append, List.getElem?_cons_zero, List.getElem?_cons_succ, List.set_cons_zero, List.set_cons_succ, Nat.reduceAdd, Nat.reduceSub, Nat.sub_self, Nat.zero_add, Nat.sub_zero]
  refine check_codes_s hr.len hc fun v h2 s2 => ?_
  try simp only [if_true, if_false, Bool.false_eq_true, okS_nx, ok_trB, ok_trI, ok_bind, ok_bin, ok_un, ok_k, ok_cmp, ok_cmpT, ok_chain, ok_bl, ok_nil, ok_cons, ok_call, ok_callOp, ok_isi, ok_test, ok_andT, ok_orT, ok_notT, ok_isBl, ok_andV, ok_orV, ok_notV, ok_if, okS_next, okS_seq, okS_ret, okS_expr, okS_if, okS_set, ok_run, ok_src, ok_range, ok_ok, ok_obv, ok_ob, sNext, ok_var0, ok_varS, List.map_cons, List.map_nil, List.length_cons, List.length_nil, List.replicate_succ, List.replicate_zero, List.cons_append, List.nil_append, List.getElem?_cons_zero, List.getElem?_cons_succ, List.set_cons_zero, List.set_cons_succ, Nat.reduceAdd, Nat.reduceSub, Nat.sub_self, Nat.zero_add, Nat.sub_zero]
  refine ordered_s hc.len hr.len fun l h3 ol s3 => ?_
  exact q l _ ol ((s1.trans s2).trans s3)
theorem cl_irr (f : Nat → Int) (x : Nat) : ¬ CL f x x := fun h => cl_asym f x x h h
theorem do_set_s {row cs : List Int} (hr : IsRow row) (hc : IsCodes row.length cs) (q : ∀ l h, Ord (CL (col cs)) row.length l → Sub mh h → Q (.bl (riseB row l)) h) : Ok (f_do_set [iT row, iT cs] mh) Q := by
  unfold f_do_set
  try simp only [if_true, if_false, Bool.false_eq_true, okS_nx, ok_trB, ok_trI, ok_bind, ok_bin, ok_un, ok_k, ok_cmp, ok_cmpT, ok_chain, ok_bl, ok_nil, ok_cons, ok_call, ok_callOp, ok_isi, ok_test, ok_andT, ok_orT, ok_notT, ok_isBl, ok_andV, ok_orV, ok_notV, ok_if, okS_next, okS_seq, okS_ret, okS_expr, okS_if, okS_set, ok_run, ok_src, ok_range, ok_ok, ok_obv, ok_ob, sNext, ok_var0, ok_varS, List.map_cons, List.map_nil, List.length_cons, List.length_nil, List.replicate_succ, List.replicate_zero, List.cons_append, List.nil_append, List.getElem?_cons_zero, List.getElem?_cons_succ, List.set_cons_zero, List.set_cons_succ, Nat.reduceAdd, Nat.reduceSub, Nat.sub_self, Nat.zero_add, Nat.sub_zero]
  refine check_row_s hr fun v h1 s1 => ?_
  try simp only [if_true, if_false, Bool.false_eq_true, okS_nx, ok_trB, ok_trI, ok_bind, ok_bin, ok_un, ok_k, ok_cmp, ok_cmpT, ok_chain, ok_bl, ok_nil, ok_cons, ok_call, ok_callOp, ok_isi, ok_test, ok_andT, ok_orT, ok_notT, ok_isBl, ok_andV, ok_orV, ok_notV, ok_if, okS_next, okS_seq, okS_ret, okS_expr, okS_if, okS_set, ok_run, ok_src, ok_range, ok_ok, ok_obv, ok_ob, sNext, ok_var0, ok_varS, List.map_cons, List.map_nil, List.length_cons, List.length_nil, List.replicate_succ, List.replicate_zero, List.cons_append, List.nil_append, List.getElem?_cons_zero, List.getElem?_cons_succ, List.set_cons_zero, List.set_cons_succ, Nat.reduceAdd, Nat.reduceSub, Nat.sub_self, Nat.zero_add, Nat.sub_zero]
  refine check_codes_s hr.len hc fun v h2 s2 => ?_
  try simp only [if_true, if_false, Bool.false_eq_true, okS_nx, ok_trB, ok_trI, ok_bind, ok_bin, ok_un, ok_k, ok_cmp, ok_cmpT, ok_chain, ok_bl, ok_nil, ok_cons, ok_call, ok_callOp, ok_isi, ok_test, ok_andT, ok_orT, ok_notT, ok_isBl, ok_andV, ok_orV, ok_notV, ok_if, okS_next, okS_seq, okS_ret, okS_expr, okS_if, okS_set, ok_run, ok_src, ok_range, ok_ok, ok_obv, ok_ob, sNext, ok_var0, ok_varS, List.map_cons, List.map_nil, List.length_cons, List.length_nil, List.replicate_succ, List.replicate_zero, List.cons_append, List.nil_append, List.getElem?_cons_zero, List.getElem?_cons_succ, List.set_cons_zero, List.set_cons_succ, Nat.reduceAdd, Nat.reduceSub, Nat.sub_self, Nat.zero_add, Nat.sub_zero]
  refine ordered_s hc.len hr.len fun l h3 ol s3 => ?_
  try simp only [if_true, if_false, Bool.false_eq_true, okS_nx, ok_trB, ok_trI, ok_bind, ok_bin, ok_un, ok_k, ok_cmp, ok_cmpT, ok_chain, ok_bl, ok_nil, ok_cons, ok_call, ok_callOp, ok_isi, ok_test, ok_andT, ok_orT, ok_notT, ok_isBl, ok_andV, ok_orV, ok_notV, ok_if, okS_next, okS_seq, okS_ret, okS_expr, okS_if, okS_set, ok_run, ok_src, ok_range, ok_ok, ok_obv, ok_ob, sNext, ok_var0, ok_varS, List.map_cons, List.map_nil, List.length_cons, List.length_nil, List.replicate_succ, List.replicate_zero, List.cons_append, List.nil_append, List.getElem?_cons_zero, List.getElem?_cons_succ, List.set_cons_zero, List.set_cons_succ, Nat.reduceAdd, Nat.reduceSub, Nat.sub_self, Nat.zero_add, Nat.sub_zero]
  refine in_order_s (by rw [ol.len (cl_irr _)]; exact hr.len) (fun x hx => (ol.mem x).mp hx) fun h4 s4 => ?_
  exact q l _ ol (((s1.trans s2).trans s3).trans s4)
theorem prodI_snoc (m : Int) : ∀ ms : List Int, prodI (ms ++ [m]) = prodI ms * m
  | [] => by simp [prodI]
  | k :: ms => by
    simp only [List.cons_append, prodI, prodI_snoc m ms, Int.mul_assoc]
theorem bd_num {m : Int} (h : 1 ≤ m ∧ m ≤ 30) : Bd 5 m := by
  unfold Bd
  omega
theorem bd_prod : ∀ (ms : List Int), (∀ m ∈ ms, 1 ≤ m ∧ m ≤ 30) → Bd (5 * ms.length + 1) (prodI ms)
  | [], _ => by unfold Bd; decide
  | m :: ms, h => by
    have h1 := bd_num (h m (by simp))
    have h2 := bd_prod ms fun k hk => h k (List.mem_cons_of_mem _ hk)
    exact (h1.mul h2).mono (by simp only [List.length_cons]; omega)
theorem prod_gen {ms : List Int} (ht : IsTracks ms) (q : ∀ h, Sub mh h → Q (.int (prodI ms)) h) :
    OkS ((sSeq (sAsg (mK (.int 1)) (.nm 1)) (sSeq (sFor (mSrc (mVar 0)) (.nm 2) (sSeq (sAsg (mBin opMul (mVar 1) (mVar 2)) (.nm 1)) sNext)) (sSeq (sRet (mVar 1)) sNext))) ([some (iT ms), none, none] : PEnv) mh) ⟨fun _ h => Q .non h, Q, fun _ _ => False, fun _ _ => False⟩ := by
  have h8 := ht.len
  try simp only [if_true, if_false, Bool.false_eq_true, okS_nx, ok_trB, ok_trI, ok_bind, ok_bin, ok_un, ok_k, ok_cmp, ok_cmpT, ok_chain, ok_bl, ok_nil, ok_cons, ok_call, ok_callOp, ok_isi, ok_test, ok_andT, ok_orT, ok_notT, ok_isBl, ok_andV, ok_orV, ok_notV, ok_if, okS_next, okS_seq, okS_ret, okS_expr, okS_if, okS_set, ok_run, ok_src, ok_range, ok_ok, ok_obv, ok_ob, sNext, ok_var0, ok_varS, List.map_cons, List.map_nil, List.length_cons, List.length_nil, List.replicate_succ, List.replicate_zero, List.cons_append, List.nil_append, List.getElem?_cons_zero, List.getElem?_cons_succ, List.set_cons_zero, List.set_cons_succ, Nat.reduceAdd, Nat.reduceSub, Nat.sub_self, Nat.zero_add, Nat.sub_zero]
  refine okS_for ?_
  try simp only [if_true, if_false, Bool.false_eq_true, okS_nx, ok_trB, ok_trI, ok_bind, ok_bin, ok_un, ok_k, ok_cmp, ok_cmpT, ok_chain, ok_bl, ok_nil, ok_cons, ok_call, ok_callOp, ok_isi, ok_test, ok_andT, ok_orT, ok_notT, ok_isBl, ok_andV, ok_orV, ok_notV, ok_if, okS_next, okS_seq, okS_ret, okS_expr, okS_if, okS_set, ok_run, ok_src, ok_range, ok_ok, ok_obv, ok_ob, sNext, ok_var0, ok_varS, List.map_cons, List.map_nil, List.length_cons, List.length_nil, List.replicate_succ, List.replicate_zero, List.cons_append, List.nil_append, List.getElem?_cons_zero, List.getElem?_cons_succ, List.set_cons_zero, List.set_cons_succ, Nat.reduceAdd, Nat.reduceSub, Nat.sub_self, Nat.zero_add, Nat.sub_zero]
  refine ⟨iL ms, fun i env h => ∃ a, env = [some (iT ms), some (.int (prodI (ms.take i))), a] ∧ Sub mh h, ?_, fun _ _ h _ => srcIs_vals _ _, ?_, ?_, ?_⟩
  · simp only [List.length_map]
    unfold loopFuel
    omega
  · rintro i v env h hv ⟨a, rfl, k1⟩
    rw [List.getElem?_map] at hv
    obtain ⟨m, hm, rfl⟩ := Option.map_eq_some_iff.mp hv
    have htake : ms.take (i + 1) = ms.take i ++ [m] := by
      rw [List.take_add_one, hm]
      rfl
    have hb := bd_prod (ms.take i) fun k hk => ht.num k (take_mem hk)
    refine ⟨_, rfl, ?_⟩
    try simp only [if_true, if_false, Bool.false_eq_true, okS_nx, ok_trB, ok_trI, ok_bind, ok_bin, ok_un, ok_k, ok_cmp, ok_cmpT, ok_chain, ok_bl, ok_nil, ok_cons, ok_call, ok_callOp, ok_isi, ok_test, ok_andT, ok_orT, ok_notT, ok_isBl, ok_andV, ok_orV, ok_notV, ok_if, okS_next, okS_seq, okS_ret, okS_expr, okS_if, okS_set, ok_run, ok_src, ok_range, ok_ok, ok_obv, ok_ob, sNext, ok_var0, ok_varS, List.map_cons, List.map_nil, List.length_cons, List.length_nil, List.replicate_succ, List.replicate_zero, List.cons_append, List.nil_append, List.getElem?_cons_zero, List.getElem?_cons_succ, List.set_cons_zero, List.set_cons_succ, Nat.reduceAdd, Nat.reduceSub, Nat.sub_self, Nat.zero_add, Nat.sub_zero]
    refine ok_mulI (a := 50) (hb.mono (by rw [List.length_take]; omega)) (bd_num (ht.num m (List.mem_of_getElem? hm))) (by decide) ?_
    exact ⟨_, by rw [htake, prodI_snoc], k1⟩
  · rintro env h ⟨a, rfl, k1⟩
    try simp only [if_true, if_false, Bool.false_eq_true, okS_nx, ok_trB, ok_trI, ok_bind, ok_bin, ok_un, ok_k, ok_cmp, ok_cmpT, ok_chain, ok_bl, ok_nil, ok_cons, ok_call, ok_callOp, ok_isi, ok_test, ok_andT, ok_orT, ok_notT, ok_isBl, ok_andV, ok_orV, ok_notV, ok_if, okS_next, okS_seq, okS_ret, okS_expr, okS_if, okS_set, ok_run, ok_src, ok_range, ok_ok, ok_obv, ok_ob, sNext, ok_var0, ok_varS, List.map_cons, List.map_nil, List.length_cons, List.length_nil, List.replicate_succ, List.replicate_zero, List.cons_append, List.nil_append, List.getElem?_cons_zero, List.getElem?_cons_succ, List.set_cons_zero, List.set_cons_succ, Nat.reduceAdd, Nat.reduceSub, Nat.sub_self, Nat.zero_add, Nat.sub_zero]
    rw [List.take_of_length_le (by simp)]
    exact q _ k1
  · exact ⟨_, rfl, .refl _⟩
theorem product_s {ms : List Int} (ht : IsTracks ms) (q : ∀ h, Sub mh h → Q (.int (prodI ms)) h) : Ok (f_product [iT ms] mh) Q := by
  unfold f_product
  rw [ok_run]
  exact prod_gen ht q
theorem law_product_s {ms : List Int} (ht : IsTracks ms) (q : ∀ h, Sub mh h → Q (.int (prodI ms)) h) : Ok (f__law_product [iT ms] mh) Q := by
  unfold f__law_product
  rw [ok_run]
  exact prod_gen ht q
/-! ### figures -/
def lefts (cs : List Int) (ms : List Int) : List Int := ms.foldl (fun cs m => cs.map (· / m)) cs
theorem figs_snoc (m : Int) : ∀ (ms cs : List Int), figs cs (ms ++ [m]) = figs cs ms ++ [(lefts cs ms).map (· % m)]
  | [], cs => rfl
  | k :: ms, cs => by
    simp only [List.cons_append, figs, figs_snoc m ms]
    rfl
theorem lefts_len (ms : List Int) : ∀ cs : List Int, (lefts cs ms).length = cs.length := by
  unfold lefts
  induction ms with
  | nil => intro cs; rfl
  | cons m ms ih =>
    intro cs
    rw [List.foldl_cons, ih, List.length_map]
theorem figs_len : ∀ (ms cs : List Int), (figs cs ms).length = ms.length
  | [], _ => rfl
  | _ :: ms, _ => by simp only [figs, List.length_cons, figs_len ms]
theorem figures_s {cs ms : List Int} (hc : cs.length ≤ 30) (ht : IsTracks ms) (q : ∀ h, Sub mh h → Q (.tup ((figs cs ms).map iT)) h) : Ok (f_figures [iT cs, iT ms] mh) Q := by
  have h8 := ht.len
  unfold f_figures
  try simp only [if_true, if_false, Bool.false_eq_true, okS_nx, ok_trB, ok_trI, ok_bind, ok_bin, ok_un, ok_k, ok_cmp, ok_cmpT, ok_chain, ok_bl, ok_nil, ok_cons, ok_call, ok_callOp, ok_isi, ok_test, ok_andT, ok_orT, ok_notT, ok_isBl, ok_andV, ok_orV, ok_notV, ok_if, okS_next, okS_seq, okS_ret, okS_expr, okS_if, okS_set, ok_run, ok_src, ok_range, ok_ok, ok_obv, ok_ob, sNext, ok_var0, ok_varS, List.map_cons, List.map_nil, List.length_cons, List.length_nil, List.replicate_succ, List.replicate_zero, List.cons_append, List.nil_append, List.getElem?_cons_zero, List.getElem?_cons_succ, List.set_cons_zero, List.set_cons_succ, Nat.reduceAdd, Nat.reduceSub, Nat.sub_self, Nat.zero_add, Nat.sub_zero, okS_par]
  refine ok_mklN ⟨by decide, fun nd h1 s1 f1 l1 => ?_⟩
  refine ok_listN (seq_tup _) fun nl h2 s2 f2 l2 => ?_
  refine ⟨_, _, rfl, ?_⟩
  refine okS_for ?_
  try simp only [if_true, if_false, Bool.false_eq_true, okS_nx, ok_trB, ok_trI, ok_bind, ok_bin, ok_un, ok_k, ok_cmp, ok_cmpT, ok_chain, ok_bl, ok_nil, ok_cons, ok_call, ok_callOp, ok_isi, ok_test, ok_andT, ok_orT, ok_notT, ok_isBl, ok_andV, ok_orV, ok_notV, ok_if, okS_next, okS_seq, okS_ret, okS_expr, okS_if, okS_set, ok_run, ok_src, ok_range, ok_ok, ok_obv, ok_ob, sNext, ok_var0, ok_varS, List.map_cons, List.map_nil, List.length_cons, List.length_nil, List.replicate_succ, List.replicate_zero, List.cons_append, List.nil_append, List.getElem?_cons_zero, List.getElem?_cons_succ, List.set_cons_zero, List.set_cons_succ, Nat.reduceAdd, Nat.reduceSub, Nat.sub_self, Nat.zero_add, Nat.sub_zero]
  refine ⟨iL ms, fun i env h => ∃ nd nl a b, env = [some (iT cs), some (iT ms), some (.ref nd), some (.ref nl), a, b] ∧ h[nd]? = some (.lst ((figs cs (ms.take i)).map iT)) ∧ h[nl]? = some (.lst (iL (lefts cs (ms.take i)))) ∧ mh[nd]? = none ∧ nd ≠ nl ∧ Sub mh h, ?_, fun _ _ h _ => srcIs_vals _ _, ?_, ?_, ?_⟩
  · simp only [List.length_map]
    unfold loopFuel
    omega
  · rintro i v env h hv ⟨nd, nl, a, b, rfl, k1, k2, k3, k4, k5⟩
    rw [List.getElem?_map] at hv
    obtain ⟨m, hm, rfl⟩ := Option.map_eq_some_iff.mp hv
    have htake : ms.take (i + 1) = ms.take i ++ [m] := by
      rw [List.take_add_one, hm]
      rfl
    have hm1 := ht.num m (List.mem_of_getElem? hm)
    have hll := lefts_len (ms.take i) cs
    have hfl := figs_len (ms.take i) cs
    rw [List.length_take] at hfl
    refine ⟨_, rfl, ?_⟩
    try simp only [if_true, if_false, Bool.false_eq_true, okS_nx, ok_trB, ok_trI, ok_bind, ok_bin, ok_un, ok_k, ok_cmp, ok_cmpT, ok_chain, ok_bl, ok_nil, ok_cons, ok_call, ok_callOp, ok_isi, ok_test, ok_andT, ok_orT, ok_notT, ok_isBl, ok_andV, ok_orV, ok_notV, ok_if, okS_next, okS_seq, okS_ret, okS_expr, okS_if, okS_set, ok_run, ok_src, ok_range, ok_ok, ok_obv, ok_ob, sNext, ok_var0, ok_varS, List.map_cons, List.map_nil, List.length_cons, List.length_nil, List.replicate_succ, List.replicate_zero, List.cons_append, List.nil_append, List.getElem?_cons_zero, List.getElem?_cons_succ, List.set_cons_zero, List.set_cons_succ, Nat.reduceAdd, Nat.reduceSub, Nat.sub_self, Nat.zero_add, Nat.sub_zero, ok_meth1]
    refine ok_recv ?_
    try simp only [if_true, if_false, Bool.false_eq_true, okS_nx, ok_trB, ok_trI, ok_bind, ok_bin, ok_un, ok_k, ok_cmp, ok_cmpT, ok_chain, ok_bl, ok_nil, ok_cons, ok_call, ok_callOp, ok_isi, ok_test, ok_andT, ok_orT, ok_notT, ok_isBl, ok_andV, ok_orV, ok_notV, ok_if, okS_next, okS_seq, okS_ret, okS_expr, okS_if, okS_set, ok_run, ok_src, ok_range, ok_ok, ok_obv, ok_ob, sNext, ok_var0, ok_varS, List.map_cons, List.map_nil, List.length_cons, List.length_nil, List.replicate_succ, List.replicate_zero, List.cons_append, List.nil_append, List.getElem?_cons_zero, List.getElem?_cons_succ, List.set_cons_zero, List.set_cons_succ, Nat.reduceAdd, Nat.reduceSub, Nat.sub_self, Nat.zero_add, Nat.sub_zero]
    refine ⟨_, _, rfl, k1, ?_⟩
    refine ok_compP (lefts cs (ms.take i)) PV.int (fun _ => true) (fun c => .int (c % m)) ?_ ?_ ?_
    · try simp only [if_true, if_false, Bool.false_eq_true, okS_nx, ok_trB, ok_trI, ok_bind, ok_bin, ok_un, ok_k, ok_cmp, ok_cmpT, ok_chain, ok_bl, ok_nil, ok_cons, ok_call, ok_callOp, ok_isi, ok_test, ok_andT, ok_orT, ok_notT, ok_isBl, ok_andV, ok_orV, ok_notV, ok_if, okS_next, okS_seq, okS_ret, okS_expr, okS_if, okS_set, ok_run, ok_src, ok_range, ok_ok, ok_obv, ok_ob, sNext, ok_var0, ok_varS, List.map_cons, List.map_nil, List.length_cons, List.length_nil, List.replicate_succ, List.replicate_zero, List.cons_append, List.nil_append, List.getElem?_cons_zero, List.getElem?_cons_succ, List.set_cons_zero, List.set_cons_succ, Nat.reduceAdd, Nat.reduceSub, Nat.sub_self, Nat.zero_add, Nat.sub_zero]
      exact ok_srcL k2 ⟨by unfold loopFuel; omega, .refl _, fun h' hs' => srcIs_lst (hs' _ _ k2)⟩
    · intro x hx h' hs'
      refine ⟨_, rfl, ?_⟩
      simp only [wipeE]
      try simp only [if_true, if_false, Bool.false_eq_true, okS_nx, ok_trB, ok_trI, ok_bind, ok_bin, ok_un, ok_k, ok_cmp, ok_cmpT, ok_chain, ok_bl, ok_nil, ok_cons, ok_call, ok_callOp, ok_isi, ok_test, ok_andT, ok_orT, ok_notT, ok_isBl, ok_andV, ok_orV, ok_notV, ok_if, okS_next, okS_seq, okS_ret, okS_expr, okS_if, okS_set, ok_run, ok_src, ok_range, ok_ok, ok_obv, ok_ob, sNext, ok_var0, ok_varS, List.map_cons, List.map_nil, List.length_cons, List.length_nil, List.replicate_succ, List.replicate_zero, List.cons_append, List.nil_append, List.getElem?_cons_zero, List.getElem?_cons_succ, List.set_cons_zero, List.set_cons_succ, Nat.reduceAdd, Nat.reduceSub, Nat.sub_self, Nat.zero_add, Nat.sub_zero]
      rw [ok_yes]
      refine ⟨rfl, .refl _, fun _ => ?_⟩
      exact ok_modI (by omega) ⟨rfl, .refl _⟩
    · intro n5 h5 s5 f5 l5
      try simp only [if_true, if_false, Bool.false_eq_true, okS_nx, ok_trB, ok_trI, ok_bind, ok_bin, ok_un, ok_k, ok_cmp, ok_cmpT, ok_chain, ok_bl, ok_nil, ok_cons, ok_call, ok_callOp, ok_isi, ok_test, ok_andT, ok_orT, ok_notT, ok_isBl, ok_andV, ok_orV, ok_notV, ok_if, okS_next, okS_seq, okS_ret, okS_expr, okS_if, okS_set, ok_run, ok_src, ok_range, ok_ok, ok_obv, ok_ob, sNext, ok_var0, ok_varS, List.map_cons, List.map_nil, List.length_cons, List.length_nil, List.replicate_succ, List.replicate_zero, List.cons_append, List.nil_append, List.getElem?_cons_zero, List.getElem?_cons_succ, List.set_cons_zero, List.set_cons_succ, Nat.reduceAdd, Nat.reduceSub, Nat.sub_self, Nat.zero_add, Nat.sub_zero]
      refine ok_tupleOf (seq_lst l5) ?_
      try simp only [if_true, if_false, Bool.false_eq_true, okS_nx, ok_trB, ok_trI, ok_bind, ok_bin, ok_un, ok_k, ok_cmp, ok_cmpT, ok_chain, ok_bl, ok_nil, ok_cons, ok_call, ok_callOp, ok_isi, ok_test, ok_andT, ok_orT, ok_notT, ok_isBl, ok_andV, ok_orV, ok_notV, ok_if, okS_next, okS_seq, okS_ret, okS_expr, okS_if, okS_set, ok_run, ok_src, ok_range, ok_ok, ok_obv, ok_ob, sNext, ok_var0, ok_varS, List.map_cons, List.map_nil, List.length_cons, List.length_nil, List.replicate_succ, List.replicate_zero, List.cons_append, List.nil_append, List.getElem?_cons_zero, List.getElem?_cons_succ, List.set_cons_zero, List.set_cons_succ, Nat.reduceAdd, Nat.reduceSub, Nat.sub_self, Nat.zero_add, Nat.sub_zero]
      have z1 : ((figs cs (ms.take i)).map iT).length < sizeLine := Nat.lt_of_lt_of_le (show _ < 100000 by rw [List.length_map]; omega) big_line
      refine ok_append (s5 _ _ k1) z1 ?_
      have e1 : (figs cs (ms.take i)).map iT ++ [PV.tup (List.map (fun c => PV.int (c % m)) (List.filter (fun _ => true) (lefts cs (ms.take i))))] = (figs cs (ms.take (i + 1))).map iT := by
        have e0 : iT ((lefts cs (ms.take i)).map (· % m)) = PV.tup ((lefts cs (ms.take i)).map fun c => .int (c % m)) := by
          simp only [iT, iL, List.map_map]
          rfl
        rw [htake, figs_snoc, List.map_append, List.filter_eq_self.mpr (by simp), List.map_cons, List.map_nil, e0]
      rw [e1]
      try simp only [if_true, if_false, Bool.false_eq_true, okS_nx, ok_trB, ok_trI, ok_bind, ok_bin, ok_un, ok_k, ok_cmp, ok_cmpT, ok_chain, ok_bl, ok_nil, ok_cons, ok_call, ok_callOp, ok_isi, ok_test, ok_andT, ok_orT, ok_notT, ok_isBl, ok_andV, ok_orV, ok_notV, ok_if, okS_next, okS_seq, okS_ret, okS_expr, okS_if, okS_set, ok_run, ok_src, ok_range, ok_ok, ok_obv, ok_ob, sNext, ok_var0, ok_varS, List.map_cons, List.map_nil, List.length_cons, List.length_nil, List.replicate_succ, List.replicate_zero, List.cons_append, List.nil_append, List.getElem?_cons_zero, List.getElem?_cons_succ, List.set_cons_zero, List.set_cons_succ, Nat.reduceAdd, Nat.reduceSub, Nat.sub_self, Nat.zero_add, Nat.sub_zero]
      have g2 : (h5.set nd (.lst ((figs cs (ms.take (i + 1))).map iT)))[nl]? = some (.lst (iL (lefts cs (ms.take i)))) := by
        rw [List.getElem?_set_ne k4]
        exact s5 _ _ k2
      have g1 := at_set (s5 _ _ k1) (.lst ((figs cs (ms.take (i + 1))).map iT))
      have g3 : Sub mh (h5.set nd (.lst ((figs cs (ms.take (i + 1))).map iT))) := (k5.trans s5).set k3 _
      generalize h5.set nd (.lst ((figs cs (ms.take (i + 1))).map iT)) = h6 at g1 g2 g3
      refine ok_compP (lefts cs (ms.take i)) PV.int (fun _ => true) (fun c => .int (c / m)) ?_ ?_ ?_
      · try simp only [if_true, if_false, Bool.false_eq_true, okS_nx, ok_trB, ok_trI, ok_bind, ok_bin, ok_un, ok_k, ok_cmp, ok_cmpT, ok_chain, ok_bl, ok_nil, ok_cons, ok_call, ok_callOp, ok_isi, ok_test, ok_andT, ok_orT, ok_notT, ok_isBl, ok_andV, ok_orV, ok_notV, ok_if, okS_next, okS_seq, okS_ret, okS_expr, okS_if, okS_set, ok_run, ok_src, ok_range, ok_ok, ok_obv, ok_ob, sNext, ok_var0, ok_varS, List.map_cons, List.map_nil, List.length_cons, List.length_nil, List.replicate_succ, List.replicate_zero, List.cons_append, List.nil_append, List.getElem?_cons_zero, List.getElem?_cons_succ, List.set_cons_zero, List.set_cons_succ, Nat.reduceAdd, Nat.reduceSub, Nat.sub_self, Nat.zero_add, Nat.sub_zero]
        exact ok_srcL g2 ⟨by unfold loopFuel; omega, .refl _, fun h' hs' => srcIs_lst (hs' _ _ g2)⟩
      · intro x hx h' hs'
        refine ⟨_, rfl, ?_⟩
        simp only [wipeE]
        try simp only [if_true, if_false, Bool.false_eq_true, okS_nx, ok_trB, ok_trI, ok_bind, ok_bin, ok_un, ok_k, ok_cmp, ok_cmpT, ok_chain, ok_bl, ok_nil, ok_cons, ok_call, ok_callOp, ok_isi, ok_test, ok_andT, ok_orT, ok_notT, ok_isBl, ok_andV, ok_orV, ok_notV, ok_if, okS_next, okS_seq, okS_ret, okS_expr, okS_if, okS_set, ok_run, ok_src, ok_range, ok_ok, ok_obv, ok_ob, sNext, ok_var0, ok_varS, List.map_cons, List.map_nil, List.length_cons, List.length_nil, List.replicate_succ, List.replicate_zero, List.cons_append, List.nil_append, List.getElem?_cons_zero, List.getElem?_cons_succ, List.set_cons_zero, List.set_cons_succ, Nat.reduceAdd, Nat.reduceSub, Nat.sub_self, Nat.zero_add, Nat.sub_zero]
        rw [ok_yes]
        refine ⟨rfl, .refl _, fun _ => ?_⟩
        exact ok_divI (b := 5) (by omega) (bd_num hm1) (by decide) ⟨rfl, .refl _⟩
      · intro n7 h7 s7 f7 l7
        refine ⟨nd, n7, _, _, rfl, s7 _ _ g1, ?_, k3, fun z => ?_, g3.trans s7⟩
        · rw [l7, htake, List.filter_eq_self.mpr (by simp)]
          unfold lefts
          rw [List.foldl_append]
          simp only [iL, List.foldl_cons, List.foldl_nil, List.map_map]
          rfl
        · rw [← z, g1] at f7
          cases f7
  · rintro env h ⟨nd, nl, a, b, rfl, k1, k2, k3, k4, k5⟩
    try simp only [if_true, if_false, Bool.false_eq_true, okS_nx, ok_trB, ok_trI, ok_bind, ok_bin, ok_un, ok_k, ok_cmp, ok_cmpT, ok_chain, ok_bl, ok_nil, ok_cons, ok_call, ok_callOp, ok_isi, ok_test, ok_andT, ok_orT, ok_notT, ok_isBl, ok_andV, ok_orV, ok_notV, ok_if, okS_next, okS_seq, okS_ret, okS_expr, okS_if, okS_set, ok_run, ok_src, ok_range, ok_ok, ok_obv, ok_ob, sNext, ok_var0, ok_varS, List.map_cons, List.map_nil, List.length_cons, List.length_nil, List.replicate_succ, List.replicate_zero, List.cons_append, List.nil_append, List.getElem?_cons_zero, List.getElem?_cons_succ, List.set_cons_zero, List.set_cons_succ, Nat.reduceAdd, Nat.reduceSub, Nat.sub_self, Nat.zero_add, Nat.sub_zero]
    rw [List.take_of_length_le (by simp)] at k1
    refine ok_tupleOf (seq_lst k1) ?_
    exact q _ k5
  · refine ⟨nd, nl, _, _, rfl, s2 _ _ l1, l2, f1, fun z => ?_, s1.trans s2⟩
    rw [← z, l1] at f2
    cases f2
end
end K49
namespace K49
open PySem PySem.Spec PyProof.Rows L2 RZ Ev
section
variable {mh h : MH} {Q : PV → MH → Prop} {env : PEnv}
theorem ok_mulL {n : Nat} {xs : List PV} {k : Int} (e : h[n]? = some (.lst xs)) (hk : -1000 ≤ k ∧ k ≤ 1000) (hx : xs.length ≤ 1000) (q : NewL h (rep xs k) Q) : Ok (opMul (.ref n) (.int k) h) Q := by
  have : lstOf h n = some xs := by
    unfold lstOf
    rw [e]
  simp only [opMul, this]
  rw [if_pos ⟨hk.1, hk.2, hx⟩]
  exact q.at
theorem maxT_s {l : List Int} {m : Int} (hm : maxI l = some m) (q : Q (.int m) h) : Ok (opMaxA [iT l] h) Q := by
  have : intSeq (iT l) h = some l := by
    unfold intSeq
    exact intsOf_iL l
  simp only [opMaxA, this, hm]
  exact q
theorem are_below_s {ds : List (List Int)} {ms : List Int} {n : Nat} (hn : n ≤ 30) (ht : IsTracks ms) (f : Fit n ds ms) (q : ∀ h, Sub mh h → Q (.bl true) h) : Ok (f_are_below [.tup (ds.map iT), iT ms] mh) Q := by
  have h8 := ht.len
  have hlen := f.len
  unfold f_are_below
  try simp only [if_true, if_false, Bool.false_eq_true, okS_nx, ok_trB, ok_trI, ok_bind, ok_bin, ok_un, ok_k, ok_cmp, ok_cmpT, ok_chain, ok_bl, ok_nil, ok_cons, ok_call, ok_callOp, ok_isi, ok_test, ok_andT, ok_orT, ok_notT, ok_isBl, ok_andV, ok_orV, ok_notV, ok_if, okS_next, okS_seq, okS_ret, okS_expr, okS_if, okS_set, ok_run, ok_src, ok_range, ok_ok, ok_obv, ok_ob, sNext, ok_var0, ok_varS, List.map_cons, List.map_nil, List.length_cons, List.length_nil, List.replicate_succ, List.replicate_zero, List.cons_append, List.nil_append, List.getElem?_cons_zero, List.getElem?_cons_succ, List.set_cons_zero, List.set_cons_succ, Nat.reduceAdd, Nat.reduceSub, Nat.sub_self, Nat.zero_add, Nat.sub_zero]
  refine ok_len (seq_tup _) ?_
  refine ok_len (seq_tup _) ?_
  refine ⟨_, neD_int, ?_⟩
  have e : ((ds.map iT).length : Int) = ((iL ms).length : Int) := by
    simp only [List.length_map]
    omega
  simp only [e, decide_true, Bool.not_true, Bool.false_eq_true, if_false]
  try simp only [if_true, if_false, Bool.false_eq_true, okS_nx, ok_trB, ok_trI, ok_bind, ok_bin, ok_un, ok_k, ok_cmp, ok_cmpT, ok_chain, ok_bl, ok_nil, ok_cons, ok_call, ok_callOp, ok_isi, ok_test, ok_andT, ok_orT, ok_notT, ok_isBl, ok_andV, ok_orV, ok_notV, ok_if, okS_next, okS_seq, okS_ret, okS_expr, okS_if, okS_set, ok_run, ok_src, ok_range, ok_ok, ok_obv, ok_ob, sNext, ok_var0, ok_varS, List.map_cons, List.map_nil, List.length_cons, List.length_nil, List.replicate_succ, List.replicate_zero, List.cons_append, List.nil_append, List.getElem?_cons_zero, List.getElem?_cons_succ, List.set_cons_zero, List.set_cons_succ, Nat.reduceAdd, Nat.reduceSub, Nat.sub_self, Nat.zero_add, Nat.sub_zero]
  refine ok_allP (ds.zip ms) (fun p => .tup [iT p.1, .int p.2]) (fun _ => true) ?_ ?_ ?_
  · refine ok_zip2 ?_
    try simp only [if_true, if_false, Bool.false_eq_true, okS_nx, ok_trB, ok_trI, ok_bind, ok_bin, ok_un, ok_k, ok_cmp, ok_cmpT, ok_chain, ok_bl, ok_nil, ok_cons, ok_call, ok_callOp, ok_isi, ok_test, ok_andT, ok_orT, ok_notT, ok_isBl, ok_andV, ok_orV, ok_notV, ok_if, okS_next, okS_seq, okS_ret, okS_expr, okS_if, okS_set, ok_run, ok_src, ok_range, ok_ok, ok_obv, ok_ob, sNext, ok_var0, ok_varS, List.map_cons, List.map_nil, List.length_cons, List.length_nil, List.replicate_succ, List.replicate_zero, List.cons_append, List.nil_append, List.getElem?_cons_zero, List.getElem?_cons_succ, List.set_cons_zero, List.set_cons_succ, Nat.reduceAdd, Nat.reduceSub, Nat.sub_self, Nat.zero_add, Nat.sub_zero]
    refine ⟨_, _, _, _, _, _, rfl, rfl, rfl, by rw [List.length_zip]; unfold loopFuel; omega, .refl _, fun h _ => ?_⟩
    have := (srcIs_vals (ds.map iT) h).zip (srcIs_vals (iL ms) h)
    rw [pairsOf_map] at this
    exact this
  · intro p hp h hs
    have hd := f.row _ (List.of_mem_zip hp).1
    have hg := f.dig p hp
    refine ⟨_, rfl, ?_⟩
    simp only [wipeE]
    try simp only [if_true, if_false, Bool.false_eq_true, okS_nx, ok_trB, ok_trI, ok_bind, ok_bin, ok_un, ok_k, ok_cmp, ok_cmpT, ok_chain, ok_bl, ok_nil, ok_cons, ok_call, ok_callOp, ok_isi, ok_test, ok_andT, ok_orT, ok_notT, ok_isBl, ok_andV, ok_orV, ok_notV, ok_if, okS_next, okS_seq, okS_ret, okS_expr, okS_if, okS_set, ok_run, ok_src, ok_range, ok_ok, ok_obv, ok_ob, sNext, ok_var0, ok_varS, List.map_cons, List.map_nil, List.length_cons, List.length_nil, List.replicate_succ, List.replicate_zero, List.cons_append, List.nil_append, List.getElem?_cons_zero, List.getElem?_cons_succ, List.set_cons_zero, List.set_cons_succ, Nat.reduceAdd, Nat.reduceSub, Nat.sub_self, Nat.zero_add, Nat.sub_zero]
    refine ok_allP p.1 PV.int (fun t => decide (t < p.2)) ?_ ?_ ?_
    · try simp only [if_true, if_false, Bool.false_eq_true, okS_nx, ok_trB, ok_trI, ok_bind, ok_bin, ok_un, ok_k, ok_cmp, ok_cmpT, ok_chain, ok_bl, ok_nil, ok_cons, ok_call, ok_callOp, ok_isi, ok_test, ok_andT, ok_orT, ok_notT, ok_isBl, ok_andV, ok_orV, ok_notV, ok_if, okS_next, okS_seq, okS_ret, okS_expr, okS_if, okS_set, ok_run, ok_src, ok_range, ok_ok, ok_obv, ok_ob, sNext, ok_var0, ok_varS, List.map_cons, List.map_nil, List.length_cons, List.length_nil, List.replicate_succ, List.replicate_zero, List.cons_append, List.nil_append, List.getElem?_cons_zero, List.getElem?_cons_succ, List.set_cons_zero, List.set_cons_succ, Nat.reduceAdd, Nat.reduceSub, Nat.sub_self, Nat.zero_add, Nat.sub_zero]
      exact ⟨by unfold loopFuel; omega, .refl _, fun h _ => srcIs_vals _ _⟩
    · intro x hx h2 hs2
      refine ⟨_, rfl, ?_⟩
      simp only [wipeE]
      try simp only [if_true, if_false, Bool.false_eq_true, okS_nx, ok_trB, ok_trI, ok_bind, ok_bin, ok_un, ok_k, ok_cmp, ok_cmpT, ok_chain, ok_bl, ok_nil, ok_cons, ok_call, ok_callOp, ok_isi, ok_test, ok_andT, ok_orT, ok_notT, ok_isBl, ok_andV, ok_orV, ok_notV, ok_if, okS_next, okS_seq, okS_ret, okS_expr, okS_if, okS_set, ok_run, ok_src, ok_range, ok_ok, ok_obv, ok_ob, sNext, ok_var0, ok_varS, List.map_cons, List.map_nil, List.length_cons, List.length_nil, List.replicate_succ, List.replicate_zero, List.cons_append, List.nil_append, List.getElem?_cons_zero, List.getElem?_cons_succ, List.set_cons_zero, List.set_cons_succ, Nat.reduceAdd, Nat.reduceSub, Nat.sub_self, Nat.zero_add, Nat.sub_zero]
      exact ⟨_, rfl, rfl, .refl _⟩
    · intro h2 hs2
      have : p.1.all (fun t => decide (t < p.2)) = true := by
        rw [List.all_eq_true]
        intro x hx
        exact decide_eq_true (hg.2 x hx).2
      exact ⟨by rw [this], hs2⟩
  · intro h hs
    rw [show (ds.zip ms).all (fun _ => true) = true by simp]
    exact q h hs
/-! ### the codes' loop -/
def cst (n : Nat) (ds : List (List Int)) (ms : List Int) (i : Nat) : List Int × Int := ((ds.zip ms).take i).foldl cstep (List.replicate n 0, 1)
theorem cst_succ {n : Nat} {ds : List (List Int)} {ms : List Int} {i : Nat} {p : List Int × Int} (h : (ds.zip ms)[i]? = some p) : cst n ds ms (i + 1) = cstep (cst n ds ms i) p := by
  unfold cst
  rw [List.take_add_one, h, List.foldl_append]
  rfl
theorem cst_len {n : Nat} {ds : List (List Int)} {ms : List Int} (hr : ∀ d ∈ ds, d.length = n) : ∀ i, (cst n ds ms i).1.length = n := by
  intro i
  unfold cst
  have : ∀ (l : List (List Int × Int)) (s : List Int × Int), s.1.length = n → (∀ p ∈ l, p.1.length = n) → (l.foldl cstep s).1.length = n := by
    intro l
    induction l with
    | nil => intro s h _; exact h
    | cons p l ih =>
      intro s h hp
      rw [List.foldl_cons]
      refine ih _ ?_ fun q hq => hp q (List.mem_cons_of_mem _ hq)
      have := hp p (by simp)
      simp only [cstep, List.length_zipWith]
      omega
  exact this _ _ (by simp) fun p hp => hr _ (List.of_mem_zip (take_mem hp)).1
theorem cst_bd {n : Nat} {ds : List (List Int)} {ms : List Int} (ht : ∀ m ∈ ms, 1 ≤ m ∧ m ≤ 30) : ∀ i, Bd (5 * (min i 10) + 1) (cst n ds ms i).2 ∨ 10 ≤ i := by
  intro i
  induction i with
  | zero => exact .inl (by unfold cst; simp; unfold Bd; decide)
  | succ i ih =>
    by_cases h10 : 10 ≤ i + 1
    · exact .inr h10
    · rcases ih with ih | ih
      · refine .inl ?_
        cases e : (ds.zip ms)[i]? with
        | none =>
          have : cst n ds ms (i + 1) = cst n ds ms i := by
            unfold cst
            have hl := List.getElem?_eq_none_iff.mp e
            rw [List.take_of_length_le (by omega), List.take_of_length_le hl]
          rw [this]
          exact ih.mono (by omega)
        | some p =>
          rw [cst_succ e]
          have hm := ht p.2 (List.of_mem_zip (List.mem_of_getElem? e)).2
          exact (ih.mul (bd_num hm)).mono (by omega)
      · omega
theorem zipWith_eq (t : Int) : ∀ (l d : List Int), ((l.zip d).map fun p => p.1 + t * p.2) = List.zipWith (fun c u => c + t * u) l d
  | [], _ => rfl
  | _ :: _, [] => rfl
  | a :: l, b :: d => by simp only [List.zip_cons_cons, List.map_cons, List.zipWith_cons_cons, zipWith_eq t l d]
theorem codes_of_s {row : List Int} {ds : List (List Int)} {ms : List Int} (hr : IsRow row) (hd : IsDeals row.length ds) (ht : IsTracks ms) (f : Fit row.length ds ms) (q : ∀ h, Sub mh h → Q (iT (cst row.length ds ms ds.length).1) h) : Ok (f_codes_of [iT row, .tup (ds.map iT), iT ms] mh) Q := by
  have h30 := hr.len
  have h8 := ht.len
  have hlen := f.len
  unfold f_codes_of
  try simp only [if_true, if_false, Bool.false_eq_true, okS_nx, ok_trB, ok_trI, ok_bind, ok_bin, ok_un, ok_k, ok_cmp, ok_cmpT, ok_chain, ok_bl, ok_nil, ok_cons, ok_call, ok_callOp, ok_isi, ok_test, ok_andT, ok_orT, ok_notT, ok_isBl, ok_andV, ok_orV, ok_notV, ok_if, okS_next, okS_seq, okS_ret, okS_expr, okS_if, okS_set, ok_run, ok_src, ok_range, ok_ok, ok_obv, ok_ob, sNext, ok_var0, ok_varS, List.map_cons, List.map_nil, List.length_cons, List.length_nil, List.replicate_succ, List.replicate_zero, List.cons_append, List.nil_append, List.getElem?_cons_zero, List.getElem?_cons_succ, List.set_cons_zero, List.set_cons_succ, Nat.reduceAdd, Nat.reduceSub, Nat.sub_self, Nat.zero_add, Nat.sub_zero]
  refine check_row_s hr fun v h1 s1 => ?_
  try simp only [if_true, if_false, Bool.false_eq_true, okS_nx, ok_trB, ok_trI, ok_bind, ok_bin, ok_un, ok_k, ok_cmp, ok_cmpT, ok_chain, ok_bl, ok_nil, ok_cons, ok_call, ok_callOp, ok_isi, ok_test, ok_andT, ok_orT, ok_notT, ok_isBl, ok_andV, ok_orV, ok_notV, ok_if, okS_next, okS_seq, okS_ret, okS_expr, okS_if, okS_set, ok_run, ok_src, ok_range, ok_ok, ok_obv, ok_ob, sNext, ok_var0, ok_varS, List.map_cons, List.map_nil, List.length_cons, List.length_nil, List.replicate_succ, List.replicate_zero, List.cons_append, List.nil_append, List.getElem?_cons_zero, List.getElem?_cons_succ, List.set_cons_zero, List.set_cons_succ, Nat.reduceAdd, Nat.reduceSub, Nat.sub_self, Nat.zero_add, Nat.sub_zero]
  refine check_deals_s h30 hd fun v h2 s2 => ?_
  try simp only [if_true, if_false, Bool.false_eq_true, okS_nx, ok_trB, ok_trI, ok_bind, ok_bin, ok_un, ok_k, ok_cmp, ok_cmpT, ok_chain, ok_bl, ok_nil, ok_cons, ok_call, ok_callOp, ok_isi, ok_test, ok_andT, ok_orT, ok_notT, ok_isBl, ok_andV, ok_orV, ok_notV, ok_if, okS_next, okS_seq, okS_ret, okS_expr, okS_if, okS_set, ok_run, ok_src, ok_range, ok_ok, ok_obv, ok_ob, sNext, ok_var0, ok_varS, List.map_cons, List.map_nil, List.length_cons, List.length_nil, List.replicate_succ, List.replicate_zero, List.cons_append, List.nil_append, List.getElem?_cons_zero, List.getElem?_cons_succ, List.set_cons_zero, List.set_cons_succ, Nat.reduceAdd, Nat.reduceSub, Nat.sub_self, Nat.zero_add, Nat.sub_zero]
  refine check_tracks_s ht fun v h3 s3 => ?_
  try simp only [if_true, if_false, Bool.false_eq_true, okS_nx, ok_trB, ok_trI, ok_bind, ok_bin, ok_un, ok_k, ok_cmp, ok_cmpT, ok_chain, ok_bl, ok_nil, ok_cons, ok_call, ok_callOp, ok_isi, ok_test, ok_andT, ok_orT, ok_notT, ok_isBl, ok_andV, ok_orV, ok_notV, ok_if, okS_next, okS_seq, okS_ret, okS_expr, okS_if, okS_set, ok_run, ok_src, ok_range, ok_ok, ok_obv, ok_ob, sNext, ok_var0, ok_varS, List.map_cons, List.map_nil, List.length_cons, List.length_nil, List.replicate_succ, List.replicate_zero, List.cons_append, List.nil_append, List.getElem?_cons_zero, List.getElem?_cons_succ, List.set_cons_zero, List.set_cons_succ, Nat.reduceAdd, Nat.reduceSub, Nat.sub_self, Nat.zero_add, Nat.sub_zero]
  refine are_below_s h30 ht f fun h4 s4 => ?_
  try simp only [if_true, if_false, Bool.false_eq_true, okS_nx, ok_trB, ok_trI, ok_bind, ok_bin, ok_un, ok_k, ok_cmp, ok_cmpT, ok_chain, ok_bl, ok_nil, ok_cons, ok_call, ok_callOp, ok_isi, ok_test, ok_andT, ok_orT, ok_notT, ok_isBl, ok_andV, ok_orV, ok_notV, ok_if, okS_next, okS_seq, okS_ret, okS_expr, okS_if, okS_set, ok_run, ok_src, ok_range, ok_ok, ok_obv, ok_ob, sNext, ok_var0, ok_varS, List.map_cons, List.map_nil, List.length_cons, List.length_nil, List.replicate_succ, List.replicate_zero, List.cons_append, List.nil_append, List.getElem?_cons_zero, List.getElem?_cons_succ, List.set_cons_zero, List.set_cons_succ, Nat.reduceAdd, Nat.reduceSub, Nat.sub_self, Nat.zero_add, Nat.sub_zero]
  simp only [Bool.not_true, Bool.false_eq_true, if_false]
  try simp only [if_true, if_false, Bool.false_eq_true, okS_nx, ok_trB, ok_trI, ok_bind, ok_bin, ok_un, ok_k, ok_cmp, ok_cmpT, ok_chain, ok_bl, ok_nil, ok_cons, ok_call, ok_callOp, ok_isi, ok_test, ok_andT, ok_orT, ok_notT, ok_isBl, ok_andV, ok_orV, ok_notV, ok_if, okS_next, okS_seq, okS_ret, okS_expr, okS_if, okS_set, ok_run, ok_src, ok_range, ok_ok, ok_obv, ok_ob, sNext, ok_var0, ok_varS, List.map_cons, List.map_nil, List.length_cons, List.length_nil, List.replicate_succ, List.replicate_zero, List.cons_append, List.nil_append, List.getElem?_cons_zero, List.getElem?_cons_succ, List.set_cons_zero, List.set_cons_succ, Nat.reduceAdd, Nat.reduceSub, Nat.sub_self, Nat.zero_add, Nat.sub_zero, okS_asg]
  refine ok_mtup ?_
  try simp only [if_true, if_false, Bool.false_eq_true, okS_nx, ok_trB, ok_trI, ok_bind, ok_bin, ok_un, ok_k, ok_cmp, ok_cmpT, ok_chain, ok_bl, ok_nil, ok_cons, ok_call, ok_callOp, ok_isi, ok_test, ok_andT, ok_orT, ok_notT, ok_isBl, ok_andV, ok_orV, ok_notV, ok_if, okS_next, okS_seq, okS_ret, okS_expr, okS_if, okS_set, ok_run, ok_src, ok_range, ok_ok, ok_obv, ok_ob, sNext, ok_var0, ok_varS, List.map_cons, List.map_nil, List.length_cons, List.length_nil, List.replicate_succ, List.replicate_zero, List.cons_append, List.nil_append, List.getElem?_cons_zero, List.getElem?_cons_succ, List.set_cons_zero, List.set_cons_succ, Nat.reduceAdd, Nat.reduceSub, Nat.sub_self, Nat.zero_add, Nat.sub_zero]
  refine ok_mklN ⟨by decide, fun n5 h5 s5 f5 l5 => ?_⟩
  try simp only [if_true, if_false, Bool.false_eq_true, okS_nx, ok_trB, ok_trI, ok_bind, ok_bin, ok_un, ok_k, ok_cmp, ok_cmpT, ok_chain, ok_bl, ok_nil, ok_cons, ok_call, ok_callOp, ok_isi, ok_test, ok_andT, ok_orT, ok_notT, ok_isBl, ok_andV, ok_orV, ok_notV, ok_if, okS_next, okS_seq, okS_ret, okS_expr, okS_if, okS_set, ok_run, ok_src, ok_range, ok_ok, ok_obv, ok_ob, sNext, ok_var0, ok_varS, List.map_cons, List.map_nil, List.length_cons, List.length_nil, List.replicate_succ, List.replicate_zero, List.cons_append, List.nil_append, List.getElem?_cons_zero, List.getElem?_cons_succ, List.set_cons_zero, List.set_cons_succ, Nat.reduceAdd, Nat.reduceSub, Nat.sub_self, Nat.zero_add, Nat.sub_zero]
  refine ok_len (seq_tup _) ?_
  refine ok_mulL l5 (by rw [List.length_map]; omega) (by decide) fun n6 h6 s6 f6 l6 => ?_
  try simp only [if_true, if_false, Bool.false_eq_true, okS_nx, ok_trB, ok_trI, ok_bind, ok_bin, ok_un, ok_k, ok_cmp, ok_cmpT, ok_chain, ok_bl, ok_nil, ok_cons, ok_call, ok_callOp, ok_isi, ok_test, ok_andT, ok_orT, ok_notT, ok_isBl, ok_andV, ok_orV, ok_notV, ok_if, okS_next, okS_seq, okS_ret, okS_expr, okS_if, okS_set, ok_run, ok_src, ok_range, ok_ok, ok_obv, ok_ob, sNext, ok_var0, ok_varS, List.map_cons, List.map_nil, List.length_cons, List.length_nil, List.replicate_succ, List.replicate_zero, List.cons_append, List.nil_append, List.getElem?_cons_zero, List.getElem?_cons_succ, List.set_cons_zero, List.set_cons_succ, Nat.reduceAdd, Nat.reduceSub, Nat.sub_self, Nat.zero_add, Nat.sub_zero]
  refine ⟨by decide, _, rfl, ?_⟩
  rw [List.length_map, rep_one] at l6
  refine okS_for ?_
  refine ok_zip2 ?_
  try simp only [if_true, if_false, Bool.false_eq_true, okS_nx, ok_trB, ok_trI, ok_bind, ok_bin, ok_un, ok_k, ok_cmp, ok_cmpT, ok_chain, ok_bl, ok_nil, ok_cons, ok_call, ok_callOp, ok_isi, ok_test, ok_andT, ok_orT, ok_notT, ok_isBl, ok_andV, ok_orV, ok_notV, ok_if, okS_next, okS_seq, okS_ret, okS_expr, okS_if, okS_set, ok_run, ok_src, ok_range, ok_ok, ok_obv, ok_ob, sNext, ok_var0, ok_varS, List.map_cons, List.map_nil, List.length_cons, List.length_nil, List.replicate_succ, List.replicate_zero, List.cons_append, List.nil_append, List.getElem?_cons_zero, List.getElem?_cons_succ, List.set_cons_zero, List.set_cons_succ, Nat.reduceAdd, Nat.reduceSub, Nat.sub_self, Nat.zero_add, Nat.sub_zero]
  refine ⟨_, _, _, _, _, _, rfl, rfl, rfl, ?_⟩
  refine ⟨(ds.zip ms).map fun p => .tup [iT p.1, .int p.2], fun i env h => ∃ nl a b c d, env = [some (iT row), some (.tup (ds.map iT)), some (iT ms), some (.ref nl), some (.int (cst row.length ds ms i).2), a, b, c, d] ∧ h[nl]? = some (.lst (iL (cst row.length ds ms i).1)) ∧ Sub mh h, ?_, fun _ _ h _ => ?_, ?_, ?_, ?_⟩
  · rw [List.length_map, List.length_zip]
    unfold loopFuel
    omega
  · have := (srcIs_vals (ds.map iT) h).zip (srcIs_vals (iL ms) h)
    rw [pairsOf_map] at this
    exact this
  · rintro i v env h hv ⟨nl, a, b, c, d, rfl, k1, k2⟩
    rw [List.getElem?_map] at hv
    obtain ⟨p, hp, rfl⟩ := Option.map_eq_some_iff.mp hv
    have hi := (List.getElem?_eq_some_iff.mp hp).1
    rw [List.length_zip] at hi
    have hpz := List.of_mem_zip (List.mem_of_getElem? hp)
    have hdl := hd.row _ hpz.1
    have hm := ht.num _ hpz.2
    have hcl := cst_len (ms := ms) hd.row i
    have hb : Bd 60 (cst row.length ds ms i).2 := by
      rcases cst_bd (n := row.length) (ds := ds) ht.num i with z | z
      · exact z.mono (by omega)
      · omega
    have hsc := cst_succ (n := row.length) hp
    generalize cst row.length ds ms i = st at k1 hcl hb hsc
    refine ⟨_, rfl, ?_⟩
    try simp only [if_true, if_false, Bool.false_eq_true, okS_nx, ok_trB, ok_trI, ok_bind, ok_bin, ok_un, ok_k, ok_cmp, ok_cmpT, ok_chain, ok_bl, ok_nil, ok_cons, ok_call, ok_callOp, ok_isi, ok_test, ok_andT, ok_orT, ok_notT, ok_isBl, ok_andV, ok_orV, ok_notV, ok_if, okS_next, okS_seq, okS_ret, okS_expr, okS_if, okS_set, ok_run, ok_src, ok_range, ok_ok, ok_obv, ok_ob, sNext, ok_var0, ok_varS, List.map_cons, List.map_nil, List.length_cons, List.length_nil, List.replicate_succ, List.replicate_zero, List.cons_append, List.nil_append, List.getElem?_cons_zero, List.getElem?_cons_succ, List.set_cons_zero, List.set_cons_succ, Nat.reduceAdd, Nat.reduceSub, Nat.sub_self, Nat.zero_add, Nat.sub_zero]
    refine ok_compP (st.1.zip p.1) (fun p => .tup [.int p.1, .int p.2]) (fun _ => true) (fun p => .int (p.1 + st.2 * p.2)) ?_ ?_ ?_
    · refine ok_zip2 ?_
      try simp only [if_true, if_false, Bool.false_eq_true, okS_nx, ok_trB, ok_trI, ok_bind, ok_bin, ok_un, ok_k, ok_cmp, ok_cmpT, ok_chain, ok_bl, ok_nil, ok_cons, ok_call, ok_callOp, ok_isi, ok_test, ok_andT, ok_orT, ok_notT, ok_isBl, ok_andV, ok_orV, ok_notV, ok_if, okS_next, okS_seq, okS_ret, okS_expr, okS_if, okS_set, ok_run, ok_src, ok_range, ok_ok, ok_obv, ok_ob, sNext, ok_var0, ok_varS, List.map_cons, List.map_nil, List.length_cons, List.length_nil, List.replicate_succ, List.replicate_zero, List.cons_append, List.nil_append, List.getElem?_cons_zero, List.getElem?_cons_succ, List.set_cons_zero, List.set_cons_succ, Nat.reduceAdd, Nat.reduceSub, Nat.sub_self, Nat.zero_add, Nat.sub_zero]
      refine ⟨_, _, _, _, _, _, rfl, srcPV_lst k1, rfl, by rw [List.length_zip]; unfold loopFuel; omega, .refl _, fun h' hs' => ?_⟩
      have := (srcIs_lst (hs' _ _ k1)).zip (srcIs_vals (iL p.1) h')
      rw [pairsOf_map] at this
      exact this
    · intro x hx h' hs'
      have hxz := List.of_mem_zip hx
      have ht2 := hd.dig _ hpz.1 _ hxz.2
      refine ⟨_, rfl, ?_⟩
      simp only [wipeE]
      try simp only [if_true, if_false, Bool.false_eq_true, okS_nx, ok_trB, ok_trI, ok_bind, ok_bin, ok_un, ok_k, ok_cmp, ok_cmpT, ok_chain, ok_bl, ok_nil, ok_cons, ok_call, ok_callOp, ok_isi, ok_test, ok_andT, ok_orT, ok_notT, ok_isBl, ok_andV, ok_orV, ok_notV, ok_if, okS_next, okS_seq, okS_ret, okS_expr, okS_if, okS_set, ok_run, ok_src, ok_range, ok_ok, ok_obv, ok_ob, sNext, ok_var0, ok_varS, List.map_cons, List.map_nil, List.length_cons, List.length_nil, List.replicate_succ, List.replicate_zero, List.cons_append, List.nil_append, List.getElem?_cons_zero, List.getElem?_cons_succ, List.set_cons_zero, List.set_cons_succ, Nat.reduceAdd, Nat.reduceSub, Nat.sub_self, Nat.zero_add, Nat.sub_zero]
      rw [ok_yes]
      refine ⟨rfl, .refl _, fun _ => ?_⟩
      refine ok_mulI (b := 5) hb (by unfold Bd; omega) (by decide) ?_
      rw [ok_addI]
      exact ⟨rfl, .refl _⟩
    · intro n7 h7 s7 f7 l7
      try simp only [if_true, if_false, Bool.false_eq_true, okS_nx, ok_trB, ok_trI, ok_bind, ok_bin, ok_un, ok_k, ok_cmp, ok_cmpT, ok_chain, ok_bl, ok_nil, ok_cons, ok_call, ok_callOp, ok_isi, ok_test, ok_andT, ok_orT, ok_notT, ok_isBl, ok_andV, ok_orV, ok_notV, ok_if, okS_next, okS_seq, okS_ret, okS_expr, okS_if, okS_set, ok_run, ok_src, ok_range, ok_ok, ok_obv, ok_ob, sNext, ok_var0, ok_varS, List.map_cons, List.map_nil, List.length_cons, List.length_nil, List.replicate_succ, List.replicate_zero, List.cons_append, List.nil_append, List.getElem?_cons_zero, List.getElem?_cons_succ, List.set_cons_zero, List.set_cons_succ, Nat.reduceAdd, Nat.reduceSub, Nat.sub_self, Nat.zero_add, Nat.sub_zero]
      refine ok_mulI hb (bd_num hm) (by decide) ?_
      refine ⟨n7, _, _, _, _, by rw [hsc]; rfl, ?_, k2.trans s7⟩
      rw [l7, List.filter_eq_self.mpr (by simp), hsc]
      show _ = some (MO.lst (iL (List.zipWith (fun c u => c + st.2 * u) st.1 p.1)))
      rw [← zipWith_eq]
      simp only [iL, List.map_map]
      rfl
  · rintro env h ⟨nl, a, b, c, d, rfl, k1, k2⟩
    try simp only [if_true, if_false, Bool.false_eq_true, okS_nx, ok_trB, ok_trI, ok_bind, ok_bin, ok_un, ok_k, ok_cmp, ok_cmpT, ok_chain, ok_bl, ok_nil, ok_cons, ok_call, ok_callOp, ok_isi, ok_test, ok_andT, ok_orT, ok_notT, ok_isBl, ok_andV, ok_orV, ok_notV, ok_if, okS_next, okS_seq, okS_ret, okS_expr, okS_if, okS_set, ok_run, ok_src, ok_range, ok_ok, ok_obv, ok_ob, sNext, ok_var0, ok_varS, List.map_cons, List.map_nil, List.length_cons, List.length_nil, List.replicate_succ, List.replicate_zero, List.cons_append, List.nil_append, List.getElem?_cons_zero, List.getElem?_cons_succ, List.set_cons_zero, List.set_cons_succ, Nat.reduceAdd, Nat.reduceSub, Nat.sub_self, Nat.zero_add, Nat.sub_zero]
    rw [List.length_map, List.length_zip, show min ds.length ms.length = ds.length by omega] at k1
    refine ok_tupleOf (seq_lst k1) ?_
    exact q _ k2
  · refine ⟨n6, _, _, _, _, rfl, ?_, ((((s1.trans s2).trans s3).trans s4).trans s5).trans s6⟩
    rw [l6]
    unfold cst
    simp [iL, List.map_replicate]
end
end K49
namespace K49
open PySem PySem.Spec PyProof.Rows L2 RZ Ev
section
variable {mh h : MH} {Q : PV → MH → Prop} {env : PEnv}
theorem dealt_s {row cs ms : List Int} (hr : IsRow row) (hc : IsCodes row.length cs) (ht : IsTracks ms) (hlt : ∀ c ∈ cs, c < prodI ms) (q : ∀ h, Sub mh h → Q (.tup ((figs cs ms).map iT)) h) : Ok (f_dealt [iT row, iT cs, iT ms] mh) Q := by
  unfold f_dealt
  try simp only [if_true, if_false, Bool.false_eq_true, okS_nx, ok_trB, ok_trI, ok_bind, ok_bin, ok_un, ok_k, ok_cmp, ok_cmpT, ok_chain, ok_bl, ok_nil, ok_cons, ok_call, ok_callOp, ok_isi, ok_test, ok_andT, ok_orT, ok_notT, ok_isBl, ok_andV, ok_orV, ok_notV, ok_if, okS_next, okS_seq, okS_ret, okS_expr, okS_if, okS_set, ok_run, ok_src, ok_range, ok_ok, ok_obv, ok_ob, sNext, ok_var0, ok_varS, List.map_cons, List.map_nil, List.length_cons, List.length_nil, List.replicate_succ, List.replicate_zero, List.cons_append, List.nil_append, List.getElem?_cons_zero, List.getElem?_cons_succ, List.set_cons_zero, List.set_cons_succ, Nat.reduceAdd, Nat.reduceSub, Nat.sub_self, Nat.zero_add, Nat.sub_zero]
  refine check_row_s hr fun v h1 s1 => ?_
  try simp only [if_true, if_false, Bool.false_eq_true, okS_nx, ok_trB, ok_trI, ok_bind, ok_bin, ok_un, ok_k, ok_cmp, ok_cmpT, ok_chain, ok_bl, ok_nil, ok_cons, ok_call, ok_callOp, ok_isi, ok_test, ok_andT, ok_orT, ok_notT, ok_isBl, ok_andV, ok_orV, ok_notV, ok_if, okS_next, okS_seq, okS_ret, okS_expr, okS_if, okS_set, ok_run, ok_src, ok_range, ok_ok, ok_obv, ok_ob, sNext, ok_var0, ok_varS, List.map_cons, List.map_nil, List.length_cons, List.length_nil, List.replicate_succ, List.replicate_zero, List.cons_append, List.nil_append, List.getElem?_cons_zero, List.getElem?_cons_succ, List.set_cons_zero, List.set_cons_succ, Nat.reduceAdd, Nat.reduceSub, Nat.sub_self, Nat.zero_add, Nat.sub_zero]
  refine check_codes_s hr.len hc fun v h2 s2 => ?_
  try simp only [if_true, if_false, Bool.false_eq_true, okS_nx, ok_trB, ok_trI, ok_bind, ok_bin, ok_un, ok_k, ok_cmp, ok_cmpT, ok_chain, ok_bl, ok_nil, ok_cons, ok_call, ok_callOp, ok_isi, ok_test, ok_andT, ok_orT, ok_notT, ok_isBl, ok_andV, ok_orV, ok_notV, ok_if, okS_next, okS_seq, okS_ret, okS_expr, okS_if, okS_set, ok_run, ok_src, ok_range, ok_ok, ok_obv, ok_ob, sNext, ok_var0, ok_varS, List.map_cons, List.map_nil, List.length_cons, List.length_nil, List.replicate_succ, List.replicate_zero, List.cons_append, List.nil_append, List.getElem?_cons_zero, List.getElem?_cons_succ, List.set_cons_zero, List.set_cons_succ, Nat.reduceAdd, Nat.reduceSub, Nat.sub_self, Nat.zero_add, Nat.sub_zero]
  refine check_tracks_s ht fun v h3 s3 => ?_
  try simp only [if_true, if_false, Bool.false_eq_true, okS_nx, ok_trB, ok_trI, ok_bind, ok_bin, ok_un, ok_k, ok_cmp, ok_cmpT, ok_chain, ok_bl, ok_nil, ok_cons, ok_call, ok_callOp, ok_isi, ok_test, ok_andT, ok_orT, ok_notT, ok_isBl, ok_andV, ok_orV, ok_notV, ok_if, okS_next, okS_seq, okS_ret, okS_expr, okS_if, okS_set, ok_run, ok_src, ok_range, ok_ok, ok_obv, ok_ob, sNext, ok_var0, ok_varS, List.map_cons, List.map_nil, List.length_cons, List.length_nil, List.replicate_succ, List.replicate_zero, List.cons_append, List.nil_append, List.getElem?_cons_zero, List.getElem?_cons_succ, List.set_cons_zero, List.set_cons_succ, Nat.reduceAdd, Nat.reduceSub, Nat.sub_self, Nat.zero_add, Nat.sub_zero]
  have hl : cs.length ≤ 30 := by rw [hc.len]; exact hr.len
  refine ok_mtup ?_
  try simp only [if_true, if_false, Bool.false_eq_true, okS_nx, ok_trB, ok_trI, ok_bind, ok_bin, ok_un, ok_k, ok_cmp, ok_cmpT, ok_chain, ok_bl, ok_nil, ok_cons, ok_call, ok_callOp, ok_isi, ok_test, ok_andT, ok_orT, ok_notT, ok_isBl, ok_andV, ok_orV, ok_notV, ok_if, okS_next, okS_seq, okS_ret, okS_expr, okS_if, okS_set, ok_run, ok_src, ok_range, ok_ok, ok_obv, ok_ob, sNext, ok_var0, ok_varS, List.map_cons, List.map_nil, List.length_cons, List.length_nil, List.replicate_succ, List.replicate_zero, List.cons_append, List.nil_append, List.getElem?_cons_zero, List.getElem?_cons_succ, List.set_cons_zero, List.set_cons_succ, Nat.reduceAdd, Nat.reduceSub, Nat.sub_self, Nat.zero_add, Nat.sub_zero]
  refine ⟨by decide, _, neD_tup (b := []), ?_⟩
  have fin : ∀ h', Sub mh h' → OkS ((sSeq (sRet (mCall f_figures (mCons (mVar 1) (mCons (mVar 2) mNil)))) sNext) ([some (iT row), some (iT cs), some (iT ms)] : PEnv) h') ⟨fun _ h => Q .non h, Q, fun _ _ => False, fun _ _ => False⟩ := by
    intro h' s'
    try simp only [if_true, if_false, Bool.false_eq_true, okS_nx, ok_trB, ok_trI, ok_bind, ok_bin, ok_un, ok_k, ok_cmp, ok_cmpT, ok_chain, ok_bl, ok_nil, ok_cons, ok_call, ok_callOp, ok_isi, ok_test, ok_andT, ok_orT, ok_notT, ok_isBl, ok_andV, ok_orV, ok_notV, ok_if, okS_next, okS_seq, okS_ret, okS_expr, okS_if, okS_set, ok_run, ok_src, ok_range, ok_ok, ok_obv, ok_ob, sNext, ok_var0, ok_varS, List.map_cons, List.map_nil, List.length_cons, List.length_nil, List.replicate_succ, List.replicate_zero, List.cons_append, List.nil_append, List.getElem?_cons_zero, List.getElem?_cons_succ, List.set_cons_zero, List.set_cons_succ, Nat.reduceAdd, Nat.reduceSub, Nat.sub_self, Nat.zero_add, Nat.sub_zero]
    refine figures_s hl ht fun h6 s6 => ?_
    exact q _ (s'.trans s6)
  by_cases hn : cs = []
  · simp only [hn, decide_true, Bool.not_true, Bool.false_eq_true, if_false]
    try simp only [if_true, if_false, Bool.false_eq_true, okS_nx, ok_trB, ok_trI, ok_bind, ok_bin, ok_un, ok_k, ok_cmp, ok_cmpT, ok_chain, ok_bl, ok_nil, ok_cons, ok_call, ok_callOp, ok_isi, ok_test, ok_andT, ok_orT, ok_notT, ok_isBl, ok_andV, ok_orV, ok_notV, ok_if, okS_next, okS_seq, okS_ret, okS_expr, okS_if, okS_set, ok_run, ok_src, ok_range, ok_ok, ok_obv, ok_ob, sNext, ok_var0, ok_varS, List.map_cons, List.map_nil, List.length_cons, List.length_nil, List.replicate_succ, List.replicate_zero, List.cons_append, List.nil_append, List.getElem?_cons_zero, List.getElem?_cons_succ, List.set_cons_zero, List.set_cons_succ, Nat.reduceAdd, Nat.reduceSub, Nat.sub_self, Nat.zero_add, Nat.sub_zero]
    have := fin h3 ((s1.trans s2).trans s3)
    rw [hn] at this
    try simp only [if_true, if_false, Bool.false_eq_true, okS_nx, ok_trB, ok_trI, ok_bind, ok_bin, ok_un, ok_k, ok_cmp, ok_cmpT, ok_chain, ok_bl, ok_nil, ok_cons, ok_call, ok_callOp, ok_isi, ok_test, ok_andT, ok_orT, ok_notT, ok_isBl, ok_andV, ok_orV, ok_notV, ok_if, okS_next, okS_seq, okS_ret, okS_expr, okS_if, okS_set, ok_run, ok_src, ok_range, ok_ok, ok_obv, ok_ob, sNext, ok_var0, ok_varS, List.map_cons, List.map_nil, List.length_cons, List.length_nil, List.replicate_succ, List.replicate_zero, List.cons_append, List.nil_append, List.getElem?_cons_zero, List.getElem?_cons_succ, List.set_cons_zero, List.set_cons_succ, Nat.reduceAdd, Nat.reduceSub, Nat.sub_self, Nat.zero_add, Nat.sub_zero] at this
    exact this
  · simp only [hn, decide_false, Bool.not_false, if_true]
    try simp only [if_true, if_false, Bool.false_eq_true, okS_nx, ok_trB, ok_trI, ok_bind, ok_bin, ok_un, ok_k, ok_cmp, ok_cmpT, ok_chain, ok_bl, ok_nil, ok_cons, ok_call, ok_callOp, ok_isi, ok_test, ok_andT, ok_orT, ok_notT, ok_isBl, ok_andV, ok_orV, ok_notV, ok_if, okS_next, okS_seq, okS_ret, okS_expr, okS_if, okS_set, ok_run, ok_src, ok_range, ok_ok, ok_obv, ok_ob, sNext, ok_var0, ok_varS, List.map_cons, List.map_nil, List.length_cons, List.length_nil, List.replicate_succ, List.replicate_zero, List.cons_append, List.nil_append, List.getElem?_cons_zero, List.getElem?_cons_succ, List.set_cons_zero, List.set_cons_succ, Nat.reduceAdd, Nat.reduceSub, Nat.sub_self, Nat.zero_add, Nat.sub_zero]
    obtain ⟨m, hm, hmc⟩ := maxI_get hn
    refine maxT_s hm ?_
    try simp only [if_true, if_false, Bool.false_eq_true, okS_nx, ok_trB, ok_trI, ok_bind, ok_bin, ok_un, ok_k, ok_cmp, ok_cmpT, ok_chain, ok_bl, ok_nil, ok_cons, ok_call, ok_callOp, ok_isi, ok_test, ok_andT, ok_orT, ok_notT, ok_isBl, ok_andV, ok_orV, ok_notV, ok_if, okS_next, okS_seq, okS_ret, okS_expr, okS_if, okS_set, ok_run, ok_src, ok_range, ok_ok, ok_obv, ok_ob, sNext, ok_var0, ok_varS, List.map_cons, List.map_nil, List.length_cons, List.length_nil, List.replicate_succ, List.replicate_zero, List.cons_append, List.nil_append, List.getElem?_cons_zero, List.getElem?_cons_succ, List.set_cons_zero, List.set_cons_succ, Nat.reduceAdd, Nat.reduceSub, Nat.sub_self, Nat.zero_add, Nat.sub_zero]
    refine product_s ht fun h4 s4 => ?_
    refine ⟨_, rfl, ?_⟩
    have hge : ¬ prodI ms ≤ m := by
      have := hlt m hmc
      omega
    simp only [hge, decide_false, Bool.false_eq_true, if_false]
    try simp only [if_true, if_false, Bool.false_eq_true, okS_nx, ok_trB, ok_trI, ok_bind, ok_bin, ok_un, ok_k, ok_cmp, ok_cmpT, ok_chain, ok_bl, ok_nil, ok_cons, ok_call, ok_callOp, ok_isi, ok_test, ok_andT, ok_orT, ok_notT, ok_isBl, ok_andV, ok_orV, ok_notV, ok_if, okS_next, okS_seq, okS_ret, okS_expr, okS_if, okS_set, ok_run, ok_src, ok_range, ok_ok, ok_obv, ok_ob, sNext, ok_var0, ok_varS, List.map_cons, List.map_nil, List.length_cons, List.length_nil, List.replicate_succ, List.replicate_zero, List.cons_append, List.nil_append, List.getElem?_cons_zero, List.getElem?_cons_succ, List.set_cons_zero, List.set_cons_succ, Nat.reduceAdd, Nat.reduceSub, Nat.sub_self, Nat.zero_add, Nat.sub_zero]
    have := fin h4 (((s1.trans s2).trans s3).trans s4)
    try simp only [if_true, if_false, Bool.false_eq_true, okS_nx, ok_trB, ok_trI, ok_bind, ok_bin, ok_un, ok_k, ok_cmp, ok_cmpT, ok_chain, ok_bl, ok_nil, ok_cons, ok_call, ok_callOp, ok_isi, ok_test, ok_andT, ok_orT, ok_notT, ok_isBl, ok_andV, ok_orV, ok_notV, ok_if, okS_next, okS_seq, okS_ret, okS_expr, okS_if, okS_set, ok_run, ok_src, ok_range, ok_ok, ok_obv, ok_ob, sNext, ok_var0, ok_varS, List.map_cons, List.map_nil, List.length_cons, List.length_nil, List.replicate_succ, List.replicate_zero, List.cons_append, List.nil_append, List.getElem?_cons_zero, List.getElem?_cons_succ, List.set_cons_zero, List.set_cons_succ, Nat.reduceAdd, Nat.reduceSub, Nat.sub_self, Nat.zero_add, Nat.sub_zero] at this
    exact this
theorem dealt_x {row cs ms : List Int} {g : Int} (hr : IsRow row) (hc : IsCodes row.length (cs ++ [g])) (ht : IsTracks ms) (hlt : ∀ c ∈ cs, c < prodI ms) (hg : prodI ms ≤ g) {X : Str → PV → MH → Prop} (q : ∀ h, Sub mh h → X "TooGreat" (.int g) h) : Ex (f_dealt [iT row, iT (cs ++ [g]), iT ms] mh) X := by
  unfold f_dealt
  refine ex_run ?_
  refine exS_seq ?_
  try simp only [if_true, if_false, Bool.false_eq_true, okS_nx, ok_trB, ok_trI, ok_bind, ok_bin, ok_un, ok_k, ok_cmp, ok_cmpT, ok_chain, ok_bl, ok_nil, ok_cons, ok_call, ok_callOp, ok_isi, ok_test, ok_andT, ok_orT, ok_notT, ok_isBl, ok_andV, ok_orV, ok_notV, ok_if, okS_next, okS_seq, okS_ret, okS_expr, okS_if, okS_set, ok_run, ok_src, ok_range, ok_ok, ok_obv, ok_ob, sNext, ok_var0, ok_varS, List.map_cons, List.map_nil, List.length_cons, List.length_nil, List.replicate_succ, List.replicate_zero, List.cons_append, List.nil_append, List.getElem?_cons_zero, List.getElem?_cons_succ, List.set_cons_zero, List.set_cons_succ, Nat.reduceAdd, Nat.reduceSub, Nat.sub_self, Nat.zero_add, Nat.sub_zero]
  refine check_row_s hr fun v h1 s1 => ?_
  refine exS_seq ?_
  try simp only [if_true, if_false, Bool.false_eq_true, okS_nx, ok_trB, ok_trI, ok_bind, ok_bin, ok_un, ok_k, ok_cmp, ok_cmpT, ok_chain, ok_bl, ok_nil, ok_cons, ok_call, ok_callOp, ok_isi, ok_test, ok_andT, ok_orT, ok_notT, ok_isBl, ok_andV, ok_orV, ok_notV, ok_if, okS_next, okS_seq, okS_ret, okS_expr, okS_if, okS_set, ok_run, ok_src, ok_range, ok_ok, ok_obv, ok_ob, sNext, ok_var0, ok_varS, List.map_cons, List.map_nil, List.length_cons, List.length_nil, List.replicate_succ, List.replicate_zero, List.cons_append, List.nil_append, List.getElem?_cons_zero, List.getElem?_cons_succ, List.set_cons_zero, List.set_cons_succ, Nat.reduceAdd, Nat.reduceSub, Nat.sub_self, Nat.zero_add, Nat.sub_zero]
  refine check_codes_s hr.len hc fun v h2 s2 => ?_
  refine exS_seq ?_
  try simp only [if_true, if_false, Bool.false_eq_true, okS_nx, ok_trB, ok_trI, ok_bind, ok_bin, ok_un, ok_k, ok_cmp, ok_cmpT, ok_chain, ok_bl, ok_nil, ok_cons, ok_call, ok_callOp, ok_isi, ok_test, ok_andT, ok_orT, ok_notT, ok_isBl, ok_andV, ok_orV, ok_notV, ok_if, okS_next, okS_seq, okS_ret, okS_expr, okS_if, okS_set, ok_run, ok_src, ok_range, ok_ok, ok_obv, ok_ob, sNext, ok_var0, ok_varS, List.map_cons, List.map_nil, List.length_cons, List.length_nil, List.replicate_succ, List.replicate_zero, List.cons_append, List.nil_append, List.getElem?_cons_zero, List.getElem?_cons_succ, List.set_cons_zero, List.set_cons_succ, Nat.reduceAdd, Nat.reduceSub, Nat.sub_self, Nat.zero_add, Nat.sub_zero]
  refine check_tracks_s ht fun v h3 s3 => ?_
  refine exS_seq1 ?_
  refine exS_if ?_
  try simp only [if_true, if_false, Bool.false_eq_true, okS_nx, ok_trB, ok_trI, ok_bind, ok_bin, ok_un, ok_k, ok_cmp, ok_cmpT, ok_chain, ok_bl, ok_nil, ok_cons, ok_call, ok_callOp, ok_isi, ok_test, ok_andT, ok_orT, ok_notT, ok_isBl, ok_andV, ok_orV, ok_notV, ok_if, okS_next, okS_seq, okS_ret, okS_expr, okS_if, okS_set, ok_run, ok_src, ok_range, ok_ok, ok_obv, ok_ob, sNext, ok_var0, ok_varS, List.map_cons, List.map_nil, List.length_cons, List.length_nil, List.replicate_succ, List.replicate_zero, List.cons_append, List.nil_append, List.getElem?_cons_zero, List.getElem?_cons_succ, List.set_cons_zero, List.set_cons_succ, Nat.reduceAdd, Nat.reduceSub, Nat.sub_self, Nat.zero_add, Nat.sub_zero]
  have hmax : maxI (cs ++ [g]) = some g := maxI_of (by simp) fun y hy => by
    rcases List.mem_append.mp hy with z | z
    · have := hlt y z
      omega
    · rw [List.mem_singleton.mp z]
      exact Int.le_refl _
  refine ok_mtup ?_
  try simp only [if_true, if_false, Bool.false_eq_true, okS_nx, ok_trB, ok_trI, ok_bind, ok_bin, ok_un, ok_k, ok_cmp, ok_cmpT, ok_chain, ok_bl, ok_nil, ok_cons, ok_call, ok_callOp, ok_isi, ok_test, ok_andT, ok_orT, ok_notT, ok_isBl, ok_andV, ok_orV, ok_notV, ok_if, okS_next, okS_seq, okS_ret, okS_expr, okS_if, okS_set, ok_run, ok_src, ok_range, ok_ok, ok_obv, ok_ob, sNext, ok_var0, ok_varS, List.map_cons, List.map_nil, List.length_cons, List.length_nil, List.replicate_succ, List.replicate_zero, List.cons_append, List.nil_append, List.getElem?_cons_zero, List.getElem?_cons_succ, List.set_cons_zero, List.set_cons_succ, Nat.reduceAdd, Nat.reduceSub, Nat.sub_self, Nat.zero_add, Nat.sub_zero]
  refine ⟨by decide, _, neD_tup (b := []), ?_⟩
  simp only [show ¬ (cs ++ [g] = []) by simp, decide_false, Bool.not_false, if_true]
  try simp only [if_true, if_false, Bool.false_eq_true, okS_nx, ok_trB, ok_trI, ok_bind, ok_bin, ok_un, ok_k, ok_cmp, ok_cmpT, ok_chain, ok_bl, ok_nil, ok_cons, ok_call, ok_callOp, ok_isi, ok_test, ok_andT, ok_orT, ok_notT, ok_isBl, ok_andV, ok_orV, ok_notV, ok_if, okS_next, okS_seq, okS_ret, okS_expr, okS_if, okS_set, ok_run, ok_src, ok_range, ok_ok, ok_obv, ok_ob, sNext, ok_var0, ok_varS, List.map_cons, List.map_nil, List.length_cons, List.length_nil, List.replicate_succ, List.replicate_zero, List.cons_append, List.nil_append, List.getElem?_cons_zero, List.getElem?_cons_succ, List.set_cons_zero, List.set_cons_succ, Nat.reduceAdd, Nat.reduceSub, Nat.sub_self, Nat.zero_add, Nat.sub_zero]
  refine maxT_s hmax ?_
  try simp only [if_true, if_false, Bool.false_eq_true, okS_nx, ok_trB, ok_trI, ok_bind, ok_bin, ok_un, ok_k, ok_cmp, ok_cmpT, ok_chain, ok_bl, ok_nil, ok_cons, ok_call, ok_callOp, ok_isi, ok_test, ok_andT, ok_orT, ok_notT, ok_isBl, ok_andV, ok_orV, ok_notV, ok_if, okS_next, okS_seq, okS_ret, okS_expr, okS_if, okS_set, ok_run, ok_src, ok_range, ok_ok, ok_obv, ok_ob, sNext, ok_var0, ok_varS, List.map_cons, List.map_nil, List.length_cons, List.length_nil, List.replicate_succ, List.replicate_zero, List.cons_append, List.nil_append, List.getElem?_cons_zero, List.getElem?_cons_succ, List.set_cons_zero, List.set_cons_succ, Nat.reduceAdd, Nat.reduceSub, Nat.sub_self, Nat.zero_add, Nat.sub_zero]
  refine product_s ht fun h4 s4 => ?_
  refine ⟨_, rfl, ?_⟩
  simp only [hg, decide_true, if_true]
  refine exS_seq1 ?_
  refine exS_raise ?_
  try simp only [if_true, if_false, Bool.false_eq_true, okS_nx, ok_trB, ok_trI, ok_bind, ok_bin, ok_un, ok_k, ok_cmp, ok_cmpT, ok_chain, ok_bl, ok_nil, ok_cons, ok_call, ok_callOp, ok_isi, ok_test, ok_andT, ok_orT, ok_notT, ok_isBl, ok_andV, ok_orV, ok_notV, ok_if, okS_next, okS_seq, okS_ret, okS_expr, okS_if, okS_set, ok_run, ok_src, ok_range, ok_ok, ok_obv, ok_ob, sNext, ok_var0, ok_varS, List.map_cons, List.map_nil, List.length_cons, List.length_nil, List.replicate_succ, List.replicate_zero, List.cons_append, List.nil_append, List.getElem?_cons_zero, List.getElem?_cons_succ, List.set_cons_zero, List.set_cons_succ, Nat.reduceAdd, Nat.reduceSub, Nat.sub_self, Nat.zero_add, Nat.sub_zero]
  refine maxT_s hmax ?_
  exact q _ (((s1.trans s2).trans s3).trans s4)
theorem nP_iL (l : List Nat) : nP l = iL (l.map fun (k : Nat) => (k : Int)) := by
  simp only [iL, List.map_map]
  rfl
/-! ### the codes that a law's run makes -/
theorem cst_full {n : Nat} {ds : List (List Int)} {ms : List Int} (f : Fit n ds ms) : (cst n ds ms ds.length).1 = (List.range n).map (hc ds ms) := by
  unfold cst
  have hl := f.len
  rw [List.take_of_length_le (by rw [List.length_zip]; omega), cfold _ _ (by simp) f]
  refine List.map_congr_left fun x hx => ?_
  have hx : x < n := List.mem_range.mp hx
  have : col (List.replicate n (0 : Int)) x = 0 := by
    unfold col
    rw [List.getD_eq_getElem?_getD, List.getElem?_replicate, if_pos hx]
    rfl
  rw [this]
  omega
theorem col_map {n : Nat} {c : Nat → Int} {x : Nat} (hx : x < n) : col ((List.range n).map c) x = c x := by
  unfold col
  rw [List.getD_eq_getElem?_getD, List.getElem?_map, List.getElem?_range hx]
  rfl
theorem codes_ok {n : Nat} {ds : List (List Int)} {ms : List Int} (f : Fit n ds ms) : IsCodes n ((List.range n).map (hc ds ms)) ∧ ∀ c ∈ (List.range n).map (hc ds ms), c < prodI ms := by
  have : ∀ c ∈ (List.range n).map (hc ds ms), 0 ≤ c ∧ c < prodI ms := fun c hc' => by
    obtain ⟨x, hx, rfl⟩ := List.mem_map.mp hc'
    exact hc_bd f x (List.mem_range.mp hx)
  exact ⟨⟨by simp, fun c h => (this c h).1⟩, fun c h => (this c h).2⟩
/-- all ways lead to one sequence -/
theorem all_one {n : Nat} {ds : List (List Int)} {ms : List Int} {tf : List Int → List Int} {l : List Nat} (f : Fit n ds ms) (ht : ∀ d, (tf d).Pairwise (· < ·)) (hm : ∀ d ∈ ds, ∀ x < n, col d x ∈ tf d) (o : Ord (CL (col ((List.range n).map (hc ds ms)))) n l) : beh tf ds n = l := by
  have a := (beh_ord ht ds hm).imp (S := CL (hc ds ms)) fun x y hx hy r => rb_hc hx hy f r
  have b := o.imp (S := CL (hc ds ms)) fun x y hx hy r => by
    unfold CL at r ⊢
    rw [col_map hx, col_map hy] at r
    exact r
  exact Ord.one (cl_asym _) a b
theorem beh_one {n : Nat} {ds : List (List Int)} {tf tg : List Int → List Int} (ht : ∀ d, (tf d).Pairwise (· < ·)) (hm : ∀ d ∈ ds, ∀ x < n, col d x ∈ tf d) (ht2 : ∀ d, (tg d).Pairwise (· < ·)) (hm2 : ∀ d ∈ ds, ∀ x < n, col d x ∈ tg d) : beh tf ds n = beh tg ds n :=
  Ord.one (rb_asym (fun _ _ a b => Nat.lt_asymm a b) _) (beh_ord ht ds hm) (beh_ord ht2 ds hm2)
theorem law_ord {n : Nat} {cs : List Int} (hn : cs.length = n) : Ord (CL (col cs)) n (bk (sortU cs) (col cs) (List.range n)) :=
  (ord_range n).bk (sortU_sorted _) fun x hx => (mem_sortU _ _).mpr (col_mem (by omega))
theorem deals_r30 {n : Nat} {ds : List (List Int)} (hd : IsDeals n ds) : ∀ d ∈ ds, ∀ x < n, col d x ∈ (fun _ => r30) d := fun d hdm x hx => by
  have := hd.dig d hdm _ (col_mem (d := d) (x := x) (by rw [hd.row d hdm]; exact hx))
  exact r30_mem this.1 this.2
theorem wd_ints {l : List Int} {k : Nat} (hk : 0 < k) (hk2 : k ≤ 1900) (h : ∀ c ∈ l, Bd k c) : Wd (3 + l.length * (k + 1 + 2)) 1 (.tuple (l.map PyData.int)) := by
  have := wd_tup (n := k + 1) (m := 0) (ds := l.map PyData.int) fun d hd => by
    obtain ⟨c, hc', rfl⟩ := List.mem_map.mp hd
    exact wd_int hk hk2 (h c hc')
  rw [List.length_map] at this
  exact this
theorem wd_nat {l : List Nat} (h : ∀ c ∈ l, c < 1000) : Wd (3 + l.length * 23) 1 (.tuple ((l.map fun (k : Nat) => (k : Int)).map PyData.int)) := by
  have := wd_ints (l := l.map fun (k : Nat) => (k : Int)) (k := 20) (by decide) (by decide) fun c hc' => by
    obtain ⟨x, hx, rfl⟩ := List.mem_map.mp hc'
    have := h x hx
    unfold Bd
    omega
  rw [List.length_map] at this
  exact this
end
end K49
namespace K49
open PySem PySem.Spec PyProof.Rows L2 RZ Ev
section
variable {mh h : MH} {Q : PV → MH → Prop}
theorem told_data {n : Nat} {l : List Nat} {b : Bool} (e : h[n]? = some (.lst [.tup (nP l), .tup (nP l), .bl b])) : toD dataFuel h (.ref n) = some (.list [.tuple ((l.map fun (k : Nat) => (k : Int)).map PyData.int), .tuple ((l.map fun (k : Nat) => (k : Int)).map PyData.int), .bool b]) := by
  have e1 : toD 65 h (.tup (nP l)) = some (.tuple ((l.map fun (k : Nat) => (k : Int)).map PyData.int)) := by
    rw [nP_iL]
    exact toD_tupN 63 h _
  show toD (65 + 1) h (.ref n) = _
  rw [toD]
  simp only [e, allD, e1, toD_bl 64 h b]
theorem told_wd {l : List Nat} {b : Bool} (hl : l.length ≤ 30) (hx : ∀ c ∈ l, c < 1000) : Wd 100000 2 (.list [.tuple ((l.map fun (k : Nat) => (k : Int)).map PyData.int), .tuple ((l.map fun (k : Nat) => (k : Int)).map PyData.int), .bool b]) := by
  have w1 := (wd_nat hx).mono (n' := 1000) (m' := 1) (by omega) (by decide)
  refine (wd_lst (n := 1000) (m := 1) fun d hd => ?_).mono (by simp) (by decide)
  simp only [List.mem_cons, List.not_mem_nil, or_false] at hd
  rcases hd with rfl | rfl | rfl
  · exact w1
  · exact w1
  · exact (wd_bl b).mono (by decide) (by decide)
/-- the tail of _law_is_right, behind the deals -/
theorem right_tail {p B : Nat} {row ms : List Int} {ds : List (List Int)} {a5 : Option PV} (hr : IsRow row) (ht : IsTracks ms) (f : Fit row.length ds ms) (hp : Pot p B mh) (hB : B < 2 ^ 39) (q : ∀ h, Pot p (B + 1) h → SubX p mh h → Q (.bl true) h) :
    OkS ((sSeq (sAsg (mTup (mCons (mBin opMul (mLst (mCons (mK (.int 0)) mNil)) (mCallOp opLen (mCons (mVar 1) mNil))) (mCons (mK (.int 1)) mNil))) (.tp (.cons (.nm 6) (.cons (.nm 7) .nil))))
 (sSeq (sFor (mZip2 (mCons (mVar 3) (mCons (mVar 2) mNil))) (.tp (.cons (.nm 8) (.cons (.nm 5) .nil))) (sSeq (sAsg (mTup (mCons (mComp (mZip2 (mCons (mVar 6) (mCons (mVar 8) mNil))) (.tp (.cons (.nm 9) (.cons (.nm 10) .nil))) mYes (mBin opAdd (mVar 9) (mBin opMul (mVar 7) (mVar 10))) [9, 10]) (mCons (mBin opMul (mVar 7) (mVar 5)) mNil))) (.tp (.cons (.nm 6) (.cons (.nm 7) .nil))))
 sNext))
 (sSeq (sAsg (mCallOp opTuple (mCons (mVar 6) mNil)) (.nm 6))
 (sSeq (sIf ((mOrT (mCmpT neD (mCallOp opRepr (mCons (mCall f_codes_of (mCons (mVar 1) (mCons (mVar 3) (mCons (mVar 2) mNil)))) mNil)) (mCallOp opRepr (mCons (mVar 6) mNil))) (mCmpT neD (mCallOp opRepr (mCons (mCall f_dealt (mCons (mVar 1) (mCons (mVar 6) (mCons (mVar 2) mNil)))) mNil)) (mCallOp opRepr (mCons (mVar 3) mNil))))) (sSeq (sRet (mK (.bl false)))
 sNext) sNext)
 (sSeq (sAsg (mCall f__law_ordered (mCons (mVar 6) mNil)) (.nm 11))
 (sSeq (sAsg (mLst (mCons (mCall f_behind (mCons (mVar 1) (mCons (mVar 3) mNil))) (mCons (mCall f_by_codes (mCons (mVar 1) (mCons (mVar 6) mNil))) (mCons (mCall f_do_set (mCons (mVar 1) (mCons (mVar 6) mNil))) mNil)))) (.nm 12))
 (sSeq (sIf ((mOrT (mCmpT neD (mCallOp opRepr (mCons (mVar 12) mNil)) (mCallOp opRepr (mCons (mLst (mCons (mCall f__law_behind (mCons (mVar 1) (mCons (mVar 3) mNil))) (mCons (mVar 11) (mCons (mCall f__law_rise (mCons (mVar 1) (mCons (mVar 11) mNil))) mNil)))) mNil))) (mCmpT neD (mBin opIx (mVar 12) (mK (.int 0))) (mBin opIx (mVar 12) (mK (.int 1)))))) (sSeq (sRet (mK (.bl false)))
 sNext) sNext)
 (sSeq (sIf (mCmpT eqD (mVar 1) (mTup mNil)) (sSeq (sRet (mK (.bl true)))
 sNext) sNext)
 (sSeq (sAsg (mBin opAdd (mSl (mVar 6) mNoPart (mPart (mUn opNeg (mK (.int 1))))) (mTup (mCons (mBin opAdd (mCall f__law_product (mCons (mVar 2) mNil)) (mCall f__law_take (mCons (mVar 0) (mCons (mK (.int 3)) mNil)))) mNil))) (.nm 13))
 (sSeq (sAsg (mBin opIx (mCaughtA (errIn errNames) (mCall f_dealt (mCons (mVar 1) (mCons (mVar 13) (mCons (mVar 2) mNil))))) (mK (.int 0))) (.nm 14))
 (sSeq (sRet ((mAndV (mIsC (errTab errNames errSub "TooGreat") (mVar 14)) (mCmp eqD (mCallOp opRepr (mCons (mFld (errIn errNames) (mVar 14)) mNil)) (mCallOp opRepr (mCons (mBin opIx (mVar 13) (mUn opNeg (mK (.int 1)))) mNil))))))
 sNext))))))))))) ([some (.ref p), some (iT row), some (iT ms), some (.tup (ds.map iT)), none, a5, none, none, none, none, none, none, none, none, none] : PEnv) mh) ⟨fun _ h => Q .non h, Q, fun _ _ => False, fun _ _ => False⟩ := by
  have h30 := hr.len
  have h8 := ht.len
  have hlen := f.len
  have hd : IsDeals row.length ds := ⟨by omega, f.row, fun d hdm t htm => by
    obtain ⟨i, hi⟩ := List.getElem?_of_mem hdm
    have hil := (List.getElem?_eq_some_iff.mp hi).1
    have e : (ds.zip ms)[i]? = some (d, ms[i]) := by
      rw [List.getElem?_zip_eq_some]
      exact ⟨hi, List.getElem?_eq_getElem (by omega)⟩
    have h1 := (f.dig _ (List.mem_of_getElem? e)).2 t htm
    have h2 := ht.num ms[i] (List.getElem_mem _)
    exact ⟨h1.1, by have := h1.2; simp only at this; omega⟩⟩
  try simp only [if_true, if_false, Bool.false_eq_true, okS_nx, ok_trB, ok_trI, ok_bind, ok_bin, ok_un, ok_k, ok_cmp, ok_cmpT, ok_chain, ok_bl, ok_nil, ok_cons, ok_call, ok_callOp, ok_isi, ok_test, ok_andT, ok_orT, ok_notT, ok_isBl, ok_andV, ok_orV, ok_notV, ok_if, okS_next, okS_seq, okS_ret, okS_expr, okS_if, okS_set, ok_run, ok_src, ok_range, ok_ok, ok_obv, ok_ob, sNext, ok_var0, ok_varS, List.map_cons, List.map_nil, List.length_cons, List.length_nil, List.replicate_succ, List.replicate_zero, List.cons_append, List.nil_append, List.getElem?_cons_zero, List.getElem?_cons_succ, List.set_cons_zero, List.set_cons_succ, Nat.reduceAdd, Nat.reduceSub, Nat.sub_self, Nat.zero_add, Nat.sub_zero, okS_asg]
  refine ok_mtup ?_
  try simp only [if_true, if_false, Bool.false_eq_true, okS_nx, ok_trB, ok_trI, ok_bind, ok_bin, ok_un, ok_k, ok_cmp, ok_cmpT, ok_chain, ok_bl, ok_nil, ok_cons, ok_call, ok_callOp, ok_isi, ok_test, ok_andT, ok_orT, ok_notT, ok_isBl, ok_andV, ok_orV, ok_notV, ok_if, okS_next, okS_seq, okS_ret, okS_expr, okS_if, okS_set, ok_run, ok_src, ok_range, ok_ok, ok_obv, ok_ob, sNext, ok_var0, ok_varS, List.map_cons, List.map_nil, List.length_cons, List.length_nil, List.replicate_succ, List.replicate_zero, List.cons_append, List.nil_append, List.getElem?_cons_zero, List.getElem?_cons_succ, List.set_cons_zero, List.set_cons_succ, Nat.reduceAdd, Nat.reduceSub, Nat.sub_self, Nat.zero_add, Nat.sub_zero]
  refine ok_mklN ⟨by decide, fun n5 h5 s5 f5 l5 => ?_⟩
  try simp only [if_true, if_false, Bool.false_eq_true, okS_nx, ok_trB, ok_trI, ok_bind, ok_bin, ok_un, ok_k, ok_cmp, ok_cmpT, ok_chain, ok_bl, ok_nil, ok_cons, ok_call, ok_callOp, ok_isi, ok_test, ok_andT, ok_orT, ok_notT, ok_isBl, ok_andV, ok_orV, ok_notV, ok_if, okS_next, okS_seq, okS_ret, okS_expr, okS_if, okS_set, ok_run, ok_src, ok_range, ok_ok, ok_obv, ok_ob, sNext, ok_var0, ok_varS, List.map_cons, List.map_nil, List.length_cons, List.length_nil, List.replicate_succ, List.replicate_zero, List.cons_append, List.nil_append, List.getElem?_cons_zero, List.getElem?_cons_succ, List.set_cons_zero, List.set_cons_succ, Nat.reduceAdd, Nat.reduceSub, Nat.sub_self, Nat.zero_add, Nat.sub_zero]
  refine ok_len (seq_tup _) ?_
  refine ok_mulL l5 (by rw [List.length_map]; omega) (by decide) fun n6 h6 s6 f6 l6 => ?_
  try simp only [if_true, if_false, Bool.false_eq_true, okS_nx, ok_trB, ok_trI, ok_bind, ok_bin, ok_un, ok_k, ok_cmp, ok_cmpT, ok_chain, ok_bl, ok_nil, ok_cons, ok_call, ok_callOp, ok_isi, ok_test, ok_andT, ok_orT, ok_notT, ok_isBl, ok_andV, ok_orV, ok_notV, ok_if, okS_next, okS_seq, okS_ret, okS_expr, okS_if, okS_set, ok_run, ok_src, ok_range, ok_ok, ok_obv, ok_ob, sNext, ok_var0, ok_varS, List.map_cons, List.map_nil, List.length_cons, List.length_nil, List.replicate_succ, List.replicate_zero, List.cons_append, List.nil_append, List.getElem?_cons_zero, List.getElem?_cons_succ, List.set_cons_zero, List.set_cons_succ, Nat.reduceAdd, Nat.reduceSub, Nat.sub_self, Nat.zero_add, Nat.sub_zero]
  refine ⟨by decide, _, rfl, ?_⟩
  rw [List.length_map, rep_one] at l6
  refine okS_for ?_
  refine ok_zip2 ?_
  try simp only [if_true, if_false, Bool.false_eq_true, okS_nx, ok_trB, ok_trI, ok_bind, ok_bin, ok_un, ok_k, ok_cmp, ok_cmpT, ok_chain, ok_bl, ok_nil, ok_cons, ok_call, ok_callOp, ok_isi, ok_test, ok_andT, ok_orT, ok_notT, ok_isBl, ok_andV, ok_orV, ok_notV, ok_if, okS_next, okS_seq, okS_ret, okS_expr, okS_if, okS_set, ok_run, ok_src, ok_range, ok_ok, ok_obv, ok_ob, sNext, ok_var0, ok_varS, List.map_cons, List.map_nil, List.length_cons, List.length_nil, List.replicate_succ, List.replicate_zero, List.cons_append, List.nil_append, List.getElem?_cons_zero, List.getElem?_cons_succ, List.set_cons_zero, List.set_cons_succ, Nat.reduceAdd, Nat.reduceSub, Nat.sub_self, Nat.zero_add, Nat.sub_zero]
  refine ⟨_, _, _, _, _, _, rfl, rfl, rfl, ?_⟩
  refine ⟨(ds.zip ms).map fun p => .tup [iT p.1, .int p.2], fun i env h => ∃ nl a5 a8, env = [some (.ref p), some (iT row), some (iT ms), some (.tup (ds.map iT)), none, a5, some (.ref nl), some (.int (cst row.length ds ms i).2), a8, none, none, none, none, none, none] ∧ h[nl]? = some (.lst (iL (cst row.length ds ms i).1)) ∧ Sub mh h, ?_, fun _ _ h _ => ?_, ?_, ?_, ?_⟩
  · rw [List.length_map, List.length_zip]
    unfold loopFuel
    omega
  · have := (srcIs_vals (ds.map iT) h).zip (srcIs_vals (iL ms) h)
    rw [pairsOf_map] at this
    exact this
  · rintro i v env h hv ⟨nl, a5, a8, rfl, k1, k2⟩
    rw [List.getElem?_map] at hv
    obtain ⟨pr, hpr, rfl⟩ := Option.map_eq_some_iff.mp hv
    have hi := (List.getElem?_eq_some_iff.mp hpr).1
    rw [List.length_zip] at hi
    have hpz := List.of_mem_zip (List.mem_of_getElem? hpr)
    have hdl := hd.row _ hpz.1
    have hm := ht.num _ hpz.2
    have hcl := cst_len (ms := ms) hd.row i
    have hb : Bd 60 (cst row.length ds ms i).2 := by
      rcases cst_bd (n := row.length) (ds := ds) ht.num i with z | z
      · exact z.mono (by omega)
      · omega
    have hsc := cst_succ (n := row.length) hpr
    generalize cst row.length ds ms i = st at k1 hcl hb hsc
    refine ⟨_, rfl, ?_⟩
    try simp only [if_true, if_false, Bool.false_eq_true, okS_nx, ok_trB, ok_trI, ok_bind, ok_bin, ok_un, ok_k, ok_cmp, ok_cmpT, ok_chain, ok_bl, ok_nil, ok_cons, ok_call, ok_callOp, ok_isi, ok_test, ok_andT, ok_orT, ok_notT, ok_isBl, ok_andV, ok_orV, ok_notV, ok_if, okS_next, okS_seq, okS_ret, okS_expr, okS_if, okS_set, ok_run, ok_src, ok_range, ok_ok, ok_obv, ok_ob, sNext, ok_var0, ok_varS, List.map_cons, List.map_nil, List.length_cons, List.length_nil, List.replicate_succ, List.replicate_zero, List.cons_append, List.nil_append, List.getElem?_cons_zero, List.getElem?_cons_succ, List.set_cons_zero, List.set_cons_succ, Nat.reduceAdd, Nat.reduceSub, Nat.sub_self, Nat.zero_add, Nat.sub_zero, okS_asg]
    refine ok_mtup ?_
    try simp only [if_true, if_false, Bool.false_eq_true, okS_nx, ok_trB, ok_trI, ok_bind, ok_bin, ok_un, ok_k, ok_cmp, ok_cmpT, ok_chain, ok_bl, ok_nil, ok_cons, ok_call, ok_callOp, ok_isi, ok_test, ok_andT, ok_orT, ok_notT, ok_isBl, ok_andV, ok_orV, ok_notV, ok_if, okS_next, okS_seq, okS_ret, okS_expr, okS_if, okS_set, ok_run, ok_src, ok_range, ok_ok, ok_obv, ok_ob, sNext, ok_var0, ok_varS, List.map_cons, List.map_nil, List.length_cons, List.length_nil, List.replicate_succ, List.replicate_zero, List.cons_append, List.nil_append, List.getElem?_cons_zero, List.getElem?_cons_succ, List.set_cons_zero, List.set_cons_succ, Nat.reduceAdd, Nat.reduceSub, Nat.sub_self, Nat.zero_add, Nat.sub_zero]
    refine ok_compP (st.1.zip pr.1) (fun p => .tup [.int p.1, .int p.2]) (fun _ => true) (fun p => .int (p.1 + st.2 * p.2)) ?_ ?_ ?_
    · refine ok_zip2 ?_
      try simp only [if_true, if_false, Bool.false_eq_true, okS_nx, ok_trB, ok_trI, ok_bind, ok_bin, ok_un, ok_k, ok_cmp, ok_cmpT, ok_chain, ok_bl, ok_nil, ok_cons, ok_call, ok_callOp, ok_isi, ok_test, ok_andT, ok_orT, ok_notT, ok_isBl, ok_andV, ok_orV, ok_notV, ok_if, okS_next, okS_seq, okS_ret, okS_expr, okS_if, okS_set, ok_run, ok_src, ok_range, ok_ok, ok_obv, ok_ob, sNext, ok_var0, ok_varS, List.map_cons, List.map_nil, List.length_cons, List.length_nil, List.replicate_succ, List.replicate_zero, List.cons_append, List.nil_append, List.getElem?_cons_zero, List.getElem?_cons_succ, List.set_cons_zero, List.set_cons_succ, Nat.reduceAdd, Nat.reduceSub, Nat.sub_self, Nat.zero_add, Nat.sub_zero]
      refine ⟨_, _, _, _, _, _, rfl, srcPV_lst k1, rfl, by rw [List.length_zip]; unfold loopFuel; omega, .refl _, fun h' hs' => ?_⟩
      have := (srcIs_lst (hs' _ _ k1)).zip (srcIs_vals (iL pr.1) h')
      rw [pairsOf_map] at this
      exact this
    · intro x hx h' hs'
      have hxz := List.of_mem_zip hx
      have ht2 := hd.dig _ hpz.1 _ hxz.2
      refine ⟨_, rfl, ?_⟩
      simp only [wipeE]
      try simp only [if_true, if_false, Bool.false_eq_true, okS_nx, ok_trB, ok_trI, ok_bind, ok_bin, ok_un, ok_k, ok_cmp, ok_cmpT, ok_chain, ok_bl, ok_nil, ok_cons, ok_call, ok_callOp, ok_isi, ok_test, ok_andT, ok_orT, ok_notT, ok_isBl, ok_andV, ok_orV, ok_notV, ok_if, okS_next, okS_seq, okS_ret, okS_expr, okS_if, okS_set, ok_run, ok_src, ok_range, ok_ok, ok_obv, ok_ob, sNext, ok_var0, ok_varS, List.map_cons, List.map_nil, List.length_cons, List.length_nil, List.replicate_succ, List.replicate_zero, List.cons_append, List.nil_append, List.getElem?_cons_zero, List.getElem?_cons_succ, List.set_cons_zero, List.set_cons_succ, Nat.reduceAdd, Nat.reduceSub, Nat.sub_self, Nat.zero_add, Nat.sub_zero]
      rw [ok_yes]
      refine ⟨rfl, .refl _, fun _ => ?_⟩
      refine ok_mulI (b := 5) hb (by unfold Bd; omega) (by decide) ?_
      rw [ok_addI]
      exact ⟨rfl, .refl _⟩
    · intro n7 h7 s7 f7 l7
      try simp only [if_true, if_false, Bool.false_eq_true, okS_nx, ok_trB, ok_trI, ok_bind, ok_bin, ok_un, ok_k, ok_cmp, ok_cmpT, ok_chain, ok_bl, ok_nil, ok_cons, ok_call, ok_callOp, ok_isi, ok_test, ok_andT, ok_orT, ok_notT, ok_isBl, ok_andV, ok_orV, ok_notV, ok_if, okS_next, okS_seq, okS_ret, okS_expr, okS_if, okS_set, ok_run, ok_src, ok_range, ok_ok, ok_obv, ok_ob, sNext, ok_var0, ok_varS, List.map_cons, List.map_nil, List.length_cons, List.length_nil, List.replicate_succ, List.replicate_zero, List.cons_append, List.nil_append, List.getElem?_cons_zero, List.getElem?_cons_succ, List.set_cons_zero, List.set_cons_succ, Nat.reduceAdd, Nat.reduceSub, Nat.sub_self, Nat.zero_add, Nat.sub_zero]
      refine ok_mulI hb (bd_num hm) (by decide) ?_
      try simp only [if_true, if_false, Bool.false_eq_true, okS_nx, ok_trB, ok_trI, ok_bind, ok_bin, ok_un, ok_k, ok_cmp, ok_cmpT, ok_chain, ok_bl, ok_nil, ok_cons, ok_call, ok_callOp, ok_isi, ok_test, ok_andT, ok_orT, ok_notT, ok_isBl, ok_andV, ok_orV, ok_notV, ok_if, okS_next, okS_seq, okS_ret, okS_expr, okS_if, okS_set, ok_run, ok_src, ok_range, ok_ok, ok_obv, ok_ob, sNext, ok_var0, ok_varS, List.map_cons, List.map_nil, List.length_cons, List.length_nil, List.replicate_succ, List.replicate_zero, List.cons_append, List.nil_append, List.getElem?_cons_zero, List.getElem?_cons_succ, List.set_cons_zero, List.set_cons_succ, Nat.reduceAdd, Nat.reduceSub, Nat.sub_self, Nat.zero_add, Nat.sub_zero]
      refine ⟨by decide, _, rfl, n7, _, _, by rw [hsc]; rfl, ?_, k2.trans s7⟩
      rw [l7, List.filter_eq_self.mpr (by simp), hsc]
      show _ = some (MO.lst (iL (List.zipWith (fun c u => c + st.2 * u) st.1 pr.1)))
      rw [← zipWith_eq]
      simp only [iL, List.map_map]
      rfl
  · rintro env h ⟨nl, a5, a8, rfl, k1, k2⟩
    rw [List.length_map, List.length_zip, show min ds.length ms.length = ds.length by omega, cst_full f] at k1
    obtain ⟨co, clt⟩ := codes_ok f
    have ccf := cst_full f
    have one : ∀ (tf : List Int → List Int) (l : List Nat), (∀ d, (tf d).Pairwise (· < ·)) → (∀ d ∈ ds, ∀ x < row.length, col d x ∈ tf d) → Ord (CL (col ((List.range row.length).map (hc ds ms)))) row.length l → beh tf ds row.length = l := fun tf l a b o => all_one f a b o
    have hfig := figs_hc f
    have hbd : ∀ c ∈ (List.range row.length).map (hc ds ms), Bd 41 c := fun c hc' => by
      have a1 := co.pos c hc'
      have a2 := clt c hc'
      have a3 := (bd_prod ms ht.num).mono (show 5 * ms.length + 1 ≤ 41 by omega)
      unfold Bd at a3 ⊢
      omega
    generalize ecs : (List.range row.length).map (hc ds ms) = cs at *
    have hcl := co.len
    try simp only [if_true, if_false, Bool.false_eq_true, okS_nx, ok_trB, ok_trI, ok_bind, ok_bin, ok_un, ok_k, ok_cmp, ok_cmpT, ok_chain, ok_bl, ok_nil, ok_cons, ok_call, ok_callOp, ok_isi, ok_test, ok_andT, ok_orT, ok_notT, ok_isBl, ok_andV, ok_orV, ok_notV, ok_if, okS_next, okS_seq, okS_ret, okS_expr, okS_if, okS_set, ok_run, ok_src, ok_range, ok_ok, ok_obv, ok_ob, sNext, ok_var0, ok_varS, List.map_cons, List.map_nil, List.length_cons, List.length_nil, List.replicate_succ, List.replicate_zero, List.cons_append, List.nil_append, List.getElem?_cons_zero, List.getElem?_cons_succ, List.set_cons_zero, List.set_cons_succ, Nat.reduceAdd, Nat.reduceSub, Nat.sub_self, Nat.zero_add, Nat.sub_zero]
    refine ok_tupleOf (seq_lst k1) ?_
    refine ⟨_, rfl, ?_⟩
    try simp only [if_true, if_false, Bool.false_eq_true, okS_nx, ok_trB, ok_trI, ok_bind, ok_bin, ok_un, ok_k, ok_cmp, ok_cmpT, ok_chain, ok_bl, ok_nil, ok_cons, ok_call, ok_callOp, ok_isi, ok_test, ok_andT, ok_orT, ok_notT, ok_isBl, ok_andV, ok_orV, ok_notV, ok_if, okS_next, okS_seq, okS_ret, okS_expr, okS_if, okS_set, ok_run, ok_src, ok_range, ok_ok, ok_obv, ok_ob, sNext, ok_var0, ok_varS, List.map_cons, List.map_nil, List.length_cons, List.length_nil, List.replicate_succ, List.replicate_zero, List.cons_append, List.nil_append, List.getElem?_cons_zero, List.getElem?_cons_succ, List.set_cons_zero, List.set_cons_succ, Nat.reduceAdd, Nat.reduceSub, Nat.sub_self, Nat.zero_add, Nat.sub_zero]
    refine codes_of_s hr hd ht f fun h1 s1 => ?_
    rw [ccf]
    have wcs : Wd 100000 66 (.tuple (cs.map PyData.int)) := (wd_ints (by decide) (by decide) hbd).mono (by omega) (by decide)
    refine ok_repr (toD_tup _ _) wcs (by decide) (by decide) ?_
    try simp only [if_true, if_false, Bool.false_eq_true, okS_nx, ok_trB, ok_trI, ok_bind, ok_bin, ok_un, ok_k, ok_cmp, ok_cmpT, ok_chain, ok_bl, ok_nil, ok_cons, ok_call, ok_callOp, ok_isi, ok_test, ok_andT, ok_orT, ok_notT, ok_isBl, ok_andV, ok_orV, ok_notV, ok_if, okS_next, okS_seq, okS_ret, okS_expr, okS_if, okS_set, ok_run, ok_src, ok_range, ok_ok, ok_obv, ok_ob, sNext, ok_var0, ok_varS, List.map_cons, List.map_nil, List.length_cons, List.length_nil, List.replicate_succ, List.replicate_zero, List.cons_append, List.nil_append, List.getElem?_cons_zero, List.getElem?_cons_succ, List.set_cons_zero, List.set_cons_succ, Nat.reduceAdd, Nat.reduceSub, Nat.sub_self, Nat.zero_add, Nat.sub_zero]
    refine ok_repr (toD_tup _ _) wcs (by decide) (by decide) ?_
    refine ⟨_, neD_same wcs.ok, ?_⟩
    simp only [Bool.false_eq_true, if_false]
    try simp only [if_true, if_false, Bool.false_eq_true, okS_nx, ok_trB, ok_trI, ok_bind, ok_bin, ok_un, ok_k, ok_cmp, ok_cmpT, ok_chain, ok_bl, ok_nil, ok_cons, ok_call, ok_callOp, ok_isi, ok_test, ok_andT, ok_orT, ok_notT, ok_isBl, ok_andV, ok_orV, ok_notV, ok_if, okS_next, okS_seq, okS_ret, okS_expr, okS_if, okS_set, ok_run, ok_src, ok_range, ok_ok, ok_obv, ok_ob, sNext, ok_var0, ok_varS, List.map_cons, List.map_nil, List.length_cons, List.length_nil, List.replicate_succ, List.replicate_zero, List.cons_append, List.nil_append, List.getElem?_cons_zero, List.getElem?_cons_succ, List.set_cons_zero, List.set_cons_succ, Nat.reduceAdd, Nat.reduceSub, Nat.sub_self, Nat.zero_add, Nat.sub_zero]
    refine dealt_s hr co ht clt fun h2 s2 => ?_
    rw [hfig]
    have wds : Wd 100000 66 (.tuple (ds.map fun l => .tuple (l.map PyData.int))) := (wd_tup (n := 2000) (m := 1) fun d hd' => by
      obtain ⟨l, hl, rfl⟩ := List.mem_map.mp hd'
      have hll := hd.row l hl
      exact (wd_ints (k := 5) (by decide) (by decide) fun c hc' => by
        have := hd.dig l hl c hc'
        unfold Bd
        omega).mono (by omega) (by decide)).mono (by rw [List.length_map]; have := hd.len; omega) (by decide)
    refine ok_repr (toD_tups 63 _ _) wds (by decide) (by decide) ?_
    try simp only [if_true, if_false, Bool.false_eq_true, okS_nx, ok_trB, ok_trI, ok_bind, ok_bin, ok_un, ok_k, ok_cmp, ok_cmpT, ok_chain, ok_bl, ok_nil, ok_cons, ok_call, ok_callOp, ok_isi, ok_test, ok_andT, ok_orT, ok_notT, ok_isBl, ok_andV, ok_orV, ok_notV, ok_if, okS_next, okS_seq, okS_ret, okS_expr, okS_if, okS_set, ok_run, ok_src, ok_range, ok_ok, ok_obv, ok_ob, sNext, ok_var0, ok_varS, List.map_cons, List.map_nil, List.length_cons, List.length_nil, List.replicate_succ, List.replicate_zero, List.cons_append, List.nil_append, List.getElem?_cons_zero, List.getElem?_cons_succ, List.set_cons_zero, List.set_cons_succ, Nat.reduceAdd, Nat.reduceSub, Nat.sub_self, Nat.zero_add, Nat.sub_zero]
    refine ok_repr (toD_tups 63 _ _) wds (by decide) (by decide) ?_
    refine ⟨_, neD_same wds.ok, ?_⟩
    simp only [Bool.false_eq_true, if_false]
    try simp only [if_true, if_false, Bool.false_eq_true, okS_nx, ok_trB, ok_trI, ok_bind, ok_bin, ok_un, ok_k, ok_cmp, ok_cmpT, ok_chain, ok_bl, ok_nil, ok_cons, ok_call, ok_callOp, ok_isi, ok_test, ok_andT, ok_orT, ok_notT, ok_isBl, ok_andV, ok_orV, ok_notV, ok_if, okS_next, okS_seq, okS_ret, okS_expr, okS_if, okS_set, ok_run, ok_src, ok_range, ok_ok, ok_obv, ok_ob, sNext, ok_var0, ok_varS, List.map_cons, List.map_nil, List.length_cons, List.length_nil, List.replicate_succ, List.replicate_zero, List.cons_append, List.nil_append, List.getElem?_cons_zero, List.getElem?_cons_succ, List.set_cons_zero, List.set_cons_succ, Nat.reduceAdd, Nat.reduceSub, Nat.sub_self, Nat.zero_add, Nat.sub_zero]
    refine law_ordered_s (by omega) fun h3 s3 => ?_
    rw [hcl]
    have ol := law_ord hcl
    generalize bk (sortU cs) (col cs) (List.range row.length) = lo at ol
    have lo1 := ol.len (cl_irr _)
    have lo2 : ∀ x ∈ lo, x < row.length := fun x hx => (ol.mem x).mp hx
    refine ⟨_, rfl, ?_⟩
    try simp only [if_true, if_false, Bool.false_eq_true, okS_nx, ok_trB, ok_trI, ok_bind, ok_bin, ok_un, ok_k, ok_cmp, ok_cmpT, ok_chain, ok_bl, ok_nil, ok_cons, ok_call, ok_callOp, ok_isi, ok_test, ok_andT, ok_orT, ok_notT, ok_isBl, ok_andV, ok_orV, ok_notV, ok_if, okS_next, okS_seq, okS_ret, okS_expr, okS_if, okS_set, ok_run, ok_src, ok_range, ok_ok, ok_obv, ok_ob, sNext, ok_var0, ok_varS, List.map_cons, List.map_nil, List.length_cons, List.length_nil, List.replicate_succ, List.replicate_zero, List.cons_append, List.nil_append, List.getElem?_cons_zero, List.getElem?_cons_succ, List.set_cons_zero, List.set_cons_succ, Nat.reduceAdd, Nat.reduceSub, Nat.sub_self, Nat.zero_add, Nat.sub_zero]
    refine ok_mklN ?_
    try simp only [if_true, if_false, Bool.false_eq_true, okS_nx, ok_trB, ok_trI, ok_bind, ok_bin, ok_un, ok_k, ok_cmp, ok_cmpT, ok_chain, ok_bl, ok_nil, ok_cons, ok_call, ok_callOp, ok_isi, ok_test, ok_andT, ok_orT, ok_notT, ok_isBl, ok_andV, ok_orV, ok_notV, ok_if, okS_next, okS_seq, okS_ret, okS_expr, okS_if, okS_set, ok_run, ok_src, ok_range, ok_ok, ok_obv, ok_ob, sNext, ok_var0, ok_varS, List.map_cons, List.map_nil, List.length_cons, List.length_nil, List.replicate_succ, List.replicate_zero, List.cons_append, List.nil_append, List.getElem?_cons_zero, List.getElem?_cons_succ, List.set_cons_zero, List.set_cons_succ, Nat.reduceAdd, Nat.reduceSub, Nat.sub_self, Nat.zero_add, Nat.sub_zero]
    refine behind_s hr hd fun h4 s4 => ?_
    rw [one sortU lo sortU_sorted (sortU_col hd.row) ol]
    try simp only [if_true, if_false, Bool.false_eq_true, okS_nx, ok_trB, ok_trI, ok_bind, ok_bin, ok_un, ok_k, ok_cmp, ok_cmpT, ok_chain, ok_bl, ok_nil, ok_cons, ok_call, ok_callOp, ok_isi, ok_test, ok_andT, ok_orT, ok_notT, ok_isBl, ok_andV, ok_orV, ok_notV, ok_if, okS_next, okS_seq, okS_ret, okS_expr, okS_if, okS_set, ok_run, ok_src, ok_range, ok_ok, ok_obv, ok_ob, sNext, ok_var0, ok_varS, List.map_cons, List.map_nil, List.length_cons, List.length_nil, List.replicate_succ, List.replicate_zero, List.cons_append, List.nil_append, List.getElem?_cons_zero, List.getElem?_cons_succ, List.set_cons_zero, List.set_cons_succ, Nat.reduceAdd, Nat.reduceSub, Nat.sub_self, Nat.zero_add, Nat.sub_zero]
    refine by_codes_s hr co fun l5 h5 o5 s5 => ?_
    rw [Ord.one (cl_asym _) o5 ol]
    try simp only [if_true, if_false, Bool.false_eq_true, okS_nx, ok_trB, ok_trI, ok_bind, ok_bin, ok_un, ok_k, ok_cmp, ok_cmpT, ok_chain, ok_bl, ok_nil, ok_cons, ok_call, ok_callOp, ok_isi, ok_test, ok_andT, ok_orT, ok_notT, ok_isBl, ok_andV, ok_orV, ok_notV, ok_if, okS_next, okS_seq, okS_ret, okS_expr, okS_if, okS_set, ok_run, ok_src, ok_range, ok_ok, ok_obv, ok_ob, sNext, ok_var0, ok_varS, List.map_cons, List.map_nil, List.length_cons, List.length_nil, List.replicate_succ, List.replicate_zero, List.cons_append, List.nil_append, List.getElem?_cons_zero, List.getElem?_cons_succ, List.set_cons_zero, List.set_cons_succ, Nat.reduceAdd, Nat.reduceSub, Nat.sub_self, Nat.zero_add, Nat.sub_zero]
    refine do_set_s hr co fun l6 h6 o6 s6 => ?_
    rw [Ord.one (cl_asym _) o6 ol]
    try simp only [if_true, if_false, Bool.false_eq_true, okS_nx, ok_trB, ok_trI, ok_bind, ok_bin, ok_un, ok_k, ok_cmp, ok_cmpT, ok_chain, ok_bl, ok_nil, ok_cons, ok_call, ok_callOp, ok_isi, ok_test, ok_andT, ok_orT, ok_notT, ok_isBl, ok_andV, ok_orV, ok_notV, ok_if, okS_next, okS_seq, okS_ret, okS_expr, okS_if, okS_set, ok_run, ok_src, ok_range, ok_ok, ok_obv, ok_ob, sNext, ok_var0, ok_varS, List.map_cons, List.map_nil, List.length_cons, List.length_nil, List.replicate_succ, List.replicate_zero, List.cons_append, List.nil_append, List.getElem?_cons_zero, List.getElem?_cons_succ, List.set_cons_zero, List.set_cons_succ, Nat.reduceAdd, Nat.reduceSub, Nat.sub_self, Nat.zero_add, Nat.sub_zero]
    refine ⟨by decide, fun nt h7 s7 f7 l7 => ?_⟩
    refine ⟨_, rfl, ?_⟩
    try simp only [if_true, if_false, Bool.false_eq_true, okS_nx, ok_trB, ok_trI, ok_bind, ok_bin, ok_un, ok_k, ok_cmp, ok_cmpT, ok_chain, ok_bl, ok_nil, ok_cons, ok_call, ok_callOp, ok_isi, ok_test, ok_andT, ok_orT, ok_notT, ok_isBl, ok_andV, ok_orV, ok_notV, ok_if, okS_next, okS_seq, okS_ret, okS_expr, okS_if, okS_set, ok_run, ok_src, ok_range, ok_ok, ok_obv, ok_ob, sNext, ok_var0, ok_varS, List.map_cons, List.map_nil, List.length_cons, List.length_nil, List.replicate_succ, List.replicate_zero, List.cons_append, List.nil_append, List.getElem?_cons_zero, List.getElem?_cons_succ, List.set_cons_zero, List.set_cons_succ, Nat.reduceAdd, Nat.reduceSub, Nat.sub_self, Nat.zero_add, Nat.sub_zero]
    have lo3 : ∀ c ∈ lo, c < 1000 := fun c hc' => by
      have := lo2 c hc'
      omega
    have wt : Wd 100000 2 _ := told_wd (b := riseB row lo) (by omega) lo3
    refine ok_repr (told_data l7) wt (by decide) (by decide) ?_
    try simp only [if_true, if_false, Bool.false_eq_true, okS_nx, ok_trB, ok_trI, ok_bind, ok_bin, ok_un, ok_k, ok_cmp, ok_cmpT, ok_chain, ok_bl, ok_nil, ok_cons, ok_call, ok_callOp, ok_isi, ok_test, ok_andT, ok_orT, ok_notT, ok_isBl, ok_andV, ok_orV, ok_notV, ok_if, okS_next, okS_seq, okS_ret, okS_expr, okS_if, okS_set, ok_run, ok_src, ok_range, ok_ok, ok_obv, ok_ob, sNext, ok_var0, ok_varS, List.map_cons, List.map_nil, List.length_cons, List.length_nil, List.replicate_succ, List.replicate_zero, List.cons_append, List.nil_append, List.getElem?_cons_zero, List.getElem?_cons_succ, List.set_cons_zero, List.set_cons_succ, Nat.reduceAdd, Nat.reduceSub, Nat.sub_self, Nat.zero_add, Nat.sub_zero]
    refine ok_mklN ?_
    try simp only [if_true, if_false, Bool.false_eq_true, okS_nx, ok_trB, ok_trI, ok_bind, ok_bin, ok_un, ok_k, ok_cmp, ok_cmpT, ok_chain, ok_bl, ok_nil, ok_cons, ok_call, ok_callOp, ok_isi, ok_test, ok_andT, ok_orT, ok_notT, ok_isBl, ok_andV, ok_orV, ok_notV, ok_if, okS_next, okS_seq, okS_ret, okS_expr, okS_if, okS_set, ok_run, ok_src, ok_range, ok_ok, ok_obv, ok_ob, sNext, ok_var0, ok_varS, List.map_cons, List.map_nil, List.length_cons, List.length_nil, List.replicate_succ, List.replicate_zero, List.cons_append, List.nil_append, List.getElem?_cons_zero, List.getElem?_cons_succ, List.set_cons_zero, List.set_cons_succ, Nat.reduceAdd, Nat.reduceSub, Nat.sub_self, Nat.zero_add, Nat.sub_zero]
    refine law_behind_s h30 hd fun h8 s8 => ?_
    rw [one (fun _ => r30) lo (fun _ => r30_sorted) (deals_r30 hd) ol]
    try simp only [if_true, if_false, Bool.false_eq_true, okS_nx, ok_trB, ok_trI, ok_bind, ok_bin, ok_un, ok_k, ok_cmp, ok_cmpT, ok_chain, ok_bl, ok_nil, ok_cons, ok_call, ok_callOp, ok_isi, ok_test, ok_andT, ok_orT, ok_notT, ok_isBl, ok_andV, ok_orV, ok_notV, ok_if, okS_next, okS_seq, okS_ret, okS_expr, okS_if, okS_set, ok_run, ok_src, ok_range, ok_ok, ok_obv, ok_ob, sNext, ok_var0, ok_varS, List.map_cons, List.map_nil, List.length_cons, List.length_nil, List.replicate_succ, List.replicate_zero, List.cons_append, List.nil_append, List.getElem?_cons_zero, List.getElem?_cons_succ, List.set_cons_zero, List.set_cons_succ, Nat.reduceAdd, Nat.reduceSub, Nat.sub_self, Nat.zero_add, Nat.sub_zero]
    refine law_rise_s (by omega) lo2 fun h9 s9 => ?_
    try simp only [if_true, if_false, Bool.false_eq_true, okS_nx, ok_trB, ok_trI, ok_bind, ok_bin, ok_un, ok_k, ok_cmp, ok_cmpT, ok_chain, ok_bl, ok_nil, ok_cons, ok_call, ok_callOp, ok_isi, ok_test, ok_andT, ok_orT, ok_notT, ok_isBl, ok_andV, ok_orV, ok_notV, ok_if, okS_next, okS_seq, okS_ret, okS_expr, okS_if, okS_set, ok_run, ok_src, ok_range, ok_ok, ok_obv, ok_ob, sNext, ok_var0, ok_varS, List.map_cons, List.map_nil, List.length_cons, List.length_nil, List.replicate_succ, List.replicate_zero, List.cons_append, List.nil_append, List.getElem?_cons_zero, List.getElem?_cons_succ, List.set_cons_zero, List.set_cons_succ, Nat.reduceAdd, Nat.reduceSub, Nat.sub_self, Nat.zero_add, Nat.sub_zero]
    refine ⟨by decide, fun nu h10 s10 f10 l10 => ?_⟩
    try simp only [if_true, if_false, Bool.false_eq_true, okS_nx, ok_trB, ok_trI, ok_bind, ok_bin, ok_un, ok_k, ok_cmp, ok_cmpT, ok_chain, ok_bl, ok_nil, ok_cons, ok_call, ok_callOp, ok_isi, ok_test, ok_andT, ok_orT, ok_notT, ok_isBl, ok_andV, ok_orV, ok_notV, ok_if, okS_next, okS_seq, okS_ret, okS_expr, okS_if, okS_set, ok_run, ok_src, ok_range, ok_ok, ok_obv, ok_ob, sNext, ok_var0, ok_varS, List.map_cons, List.map_nil, List.length_cons, List.length_nil, List.replicate_succ, List.replicate_zero, List.cons_append, List.nil_append, List.getElem?_cons_zero, List.getElem?_cons_succ, List.set_cons_zero, List.set_cons_succ, Nat.reduceAdd, Nat.reduceSub, Nat.sub_self, Nat.zero_add, Nat.sub_zero]
    refine ok_repr (told_data l10) wt (by decide) (by decide) ?_
    refine ⟨_, neD_same wt.ok, ?_⟩
    simp only [Bool.false_eq_true, if_false]
    try simp only [if_true, if_false, Bool.false_eq_true, okS_nx, ok_trB, ok_trI, ok_bind, ok_bin, ok_un, ok_k, ok_cmp, ok_cmpT, ok_chain, ok_bl, ok_nil, ok_cons, ok_call, ok_callOp, ok_isi, ok_test, ok_andT, ok_orT, ok_notT, ok_isBl, ok_andV, ok_orV, ok_notV, ok_if, okS_next, okS_seq, okS_ret, okS_expr, okS_if, okS_set, ok_run, ok_src, ok_range, ok_ok, ok_obv, ok_ob, sNext, ok_var0, ok_varS, List.map_cons, List.map_nil, List.length_cons, List.length_nil, List.replicate_succ, List.replicate_zero, List.cons_append, List.nil_append, List.getElem?_cons_zero, List.getElem?_cons_succ, List.set_cons_zero, List.set_cons_succ, Nat.reduceAdd, Nat.reduceSub, Nat.sub_self, Nat.zero_add, Nat.sub_zero]
    have l7' := ((s8.trans s9).trans s10) _ _ l7
    refine ok_ix (k := 0) (seq_lst l7') rfl (fun _ z => by cases z) ?_
    try simp only [if_true, if_false, Bool.false_eq_true, okS_nx, ok_trB, ok_trI, ok_bind, ok_bin, ok_un, ok_k, ok_cmp, ok_cmpT, ok_chain, ok_bl, ok_nil, ok_cons, ok_call, ok_callOp, ok_isi, ok_test, ok_andT, ok_orT, ok_notT, ok_isBl, ok_andV, ok_orV, ok_notV, ok_if, okS_next, okS_seq, okS_ret, okS_expr, okS_if, okS_set, ok_run, ok_src, ok_range, ok_ok, ok_obv, ok_ob, sNext, ok_var0, ok_varS, List.map_cons, List.map_nil, List.length_cons, List.length_nil, List.replicate_succ, List.replicate_zero, List.cons_append, List.nil_append, List.getElem?_cons_zero, List.getElem?_cons_succ, List.set_cons_zero, List.set_cons_succ, Nat.reduceAdd, Nat.reduceSub, Nat.sub_self, Nat.zero_add, Nat.sub_zero]
    refine ok_ix (k := 1) (seq_lst l7') rfl (fun _ z => by cases z) ?_
    try simp only [if_true, if_false, Bool.false_eq_true, okS_nx, ok_trB, ok_trI, ok_bind, ok_bin, ok_un, ok_k, ok_cmp, ok_cmpT, ok_chain, ok_bl, ok_nil, ok_cons, ok_call, ok_callOp, ok_isi, ok_test, ok_andT, ok_orT, ok_notT, ok_isBl, ok_andV, ok_orV, ok_notV, ok_if, okS_next, okS_seq, okS_ret, okS_expr, okS_if, okS_set, ok_run, ok_src, ok_range, ok_ok, ok_obv, ok_ob, sNext, ok_var0, ok_varS, List.map_cons, List.map_nil, List.length_cons, List.length_nil, List.replicate_succ, List.replicate_zero, List.cons_append, List.nil_append, List.getElem?_cons_zero, List.getElem?_cons_succ, List.set_cons_zero, List.set_cons_succ, Nat.reduceAdd, Nat.reduceSub, Nat.sub_self, Nat.zero_add, Nat.sub_zero]
    refine ⟨false, by rw [nP_iL, neD_tup]; simp, ?_⟩
    simp only [Bool.false_eq_true, if_false]
    try simp only [if_true, if_false, Bool.false_eq_true, okS_nx, ok_trB, ok_trI, ok_bind, ok_bin, ok_un, ok_k, ok_cmp, ok_cmpT, ok_chain, ok_bl, ok_nil, ok_cons, ok_call, ok_callOp, ok_isi, ok_test, ok_andT, ok_orT, ok_notT, ok_isBl, ok_andV, ok_orV, ok_notV, ok_if, okS_next, okS_seq, okS_ret, okS_expr, okS_if, okS_set, ok_run, ok_src, ok_range, ok_ok, ok_obv, ok_ob, sNext, ok_var0, ok_varS, List.map_cons, List.map_nil, List.length_cons, List.length_nil, List.replicate_succ, List.replicate_zero, List.cons_append, List.nil_append, List.getElem?_cons_zero, List.getElem?_cons_succ, List.set_cons_zero, List.set_cons_succ, Nat.reduceAdd, Nat.reduceSub, Nat.sub_self, Nat.zero_add, Nat.sub_zero]
    have sub10 : Sub mh h10 := k2.trans (s1.trans (s2.trans (s3.trans (s4.trans (s5.trans (s6.trans (s7.trans (s8.trans (s9.trans s10)))))))))
    refine ok_mtup ?_
    try simp only [if_true, if_false, Bool.false_eq_true, okS_nx, ok_trB, ok_trI, ok_bind, ok_bin, ok_un, ok_k, ok_cmp, ok_cmpT, ok_chain, ok_bl, ok_nil, ok_cons, ok_call, ok_callOp, ok_isi, ok_test, ok_andT, ok_orT, ok_notT, ok_isBl, ok_andV, ok_orV, ok_notV, ok_if, okS_next, okS_seq, okS_ret, okS_expr, okS_if, okS_set, ok_run, ok_src, ok_range, ok_ok, ok_obv, ok_ob, sNext, ok_var0, ok_varS, List.map_cons, List.map_nil, List.length_cons, List.length_nil, List.replicate_succ, List.replicate_zero, List.cons_append, List.nil_append, List.getElem?_cons_zero, List.getElem?_cons_succ, List.set_cons_zero, List.set_cons_succ, Nat.reduceAdd, Nat.reduceSub, Nat.sub_self, Nat.zero_add, Nat.sub_zero]
    refine ⟨by decide, _, eqD_tup (b := []), ?_⟩
    by_cases hrow : row = []
    · simp only [hrow, decide_true, if_true]
      try simp only [if_true, if_false, Bool.false_eq_true, okS_nx, ok_trB, ok_trI, ok_bind, ok_bin, ok_un, ok_k, ok_cmp, ok_cmpT, ok_chain, ok_bl, ok_nil, ok_cons, ok_call, ok_callOp, ok_isi, ok_test, ok_andT, ok_orT, ok_notT, ok_isBl, ok_andV, ok_orV, ok_notV, ok_if, okS_next, okS_seq, okS_ret, okS_expr, okS_if, okS_set, ok_run, ok_src, ok_range, ok_ok, ok_obv, ok_ob, sNext, ok_var0, ok_varS, List.map_cons, List.map_nil, List.length_cons, List.length_nil, List.replicate_succ, List.replicate_zero, List.cons_append, List.nil_append, List.getElem?_cons_zero, List.getElem?_cons_succ, List.set_cons_zero, List.set_cons_succ, Nat.reduceAdd, Nat.reduceSub, Nat.sub_self, Nat.zero_add, Nat.sub_zero]
      exact q _ ((hp.sub sub10).mono (by omega)) (sub10.x p)
    · simp only [hrow, decide_false, Bool.false_eq_true, if_false]
      try simp only [if_true, if_false, Bool.false_eq_true, okS_nx, ok_trB, ok_trI, ok_bind, ok_bin, ok_un, ok_k, ok_cmp, ok_cmpT, ok_chain, ok_bl, ok_nil, ok_cons, ok_call, ok_callOp, ok_isi, ok_test, ok_andT, ok_orT, ok_notT, ok_isBl, ok_andV, ok_orV, ok_notV, ok_if, okS_next, okS_seq, okS_ret, okS_expr, okS_if, okS_set, ok_run, ok_src, ok_range, ok_ok, ok_obv, ok_ob, sNext, ok_var0, ok_varS, List.map_cons, List.map_nil, List.length_cons, List.length_nil, List.replicate_succ, List.replicate_zero, List.cons_append, List.nil_append, List.getElem?_cons_zero, List.getElem?_cons_succ, List.set_cons_zero, List.set_cons_succ, Nat.reduceAdd, Nat.reduceSub, Nat.sub_self, Nat.zero_add, Nat.sub_zero]
      rw [ok_sl]
      try simp only [if_true, if_false, Bool.false_eq_true, okS_nx, ok_trB, ok_trI, ok_bind, ok_bin, ok_un, ok_k, ok_cmp, ok_cmpT, ok_chain, ok_bl, ok_nil, ok_cons, ok_call, ok_callOp, ok_isi, ok_test, ok_andT, ok_orT, ok_notT, ok_isBl, ok_andV, ok_orV, ok_notV, ok_if, okS_next, okS_seq, okS_ret, okS_expr, okS_if, okS_set, ok_run, ok_src, ok_range, ok_ok, ok_obv, ok_ob, sNext, ok_var0, ok_varS, List.map_cons, List.map_nil, List.length_cons, List.length_nil, List.replicate_succ, List.replicate_zero, List.cons_append, List.nil_append, List.getElem?_cons_zero, List.getElem?_cons_succ, List.set_cons_zero, List.set_cons_succ, Nat.reduceAdd, Nat.reduceSub, Nat.sub_self, Nat.zero_add, Nat.sub_zero]
      rw [ok_noPart]
      refine ok_part ?_
      try simp only [if_true, if_false, Bool.false_eq_true, okS_nx, ok_trB, ok_trI, ok_bind, ok_bin, ok_un, ok_k, ok_cmp, ok_cmpT, ok_chain, ok_bl, ok_nil, ok_cons, ok_call, ok_callOp, ok_isi, ok_test, ok_andT, ok_orT, ok_notT, ok_isBl, ok_andV, ok_orV, ok_notV, ok_if, okS_next, okS_seq, okS_ret, okS_expr, okS_if, okS_set, ok_run, ok_src, ok_range, ok_ok, ok_obv, ok_ob, sNext, ok_var0, ok_varS, List.map_cons, List.map_nil, List.length_cons, List.length_nil, List.replicate_succ, List.replicate_zero, List.cons_append, List.nil_append, List.getElem?_cons_zero, List.getElem?_cons_succ, List.set_cons_zero, List.set_cons_succ, Nat.reduceAdd, Nat.reduceSub, Nat.sub_self, Nat.zero_add, Nat.sub_zero]
      rw [ok_negI]
      refine ⟨_, rfl, ?_⟩
      rw [ok_slT, cut_init]
      refine ok_mtup ?_
      try simp only [if_true, if_false, Bool.false_eq_true, okS_nx, ok_trB, ok_trI, ok_bind, ok_bin, ok_un, ok_k, ok_cmp, ok_cmpT, ok_chain, ok_bl, ok_nil, ok_cons, ok_call, ok_callOp, ok_isi, ok_test, ok_andT, ok_orT, ok_notT, ok_isBl, ok_andV, ok_orV, ok_notV, ok_if, okS_next, okS_seq, okS_ret, okS_expr, okS_if, okS_set, ok_run, ok_src, ok_range, ok_ok, ok_obv, ok_ob, sNext, ok_var0, ok_varS, List.map_cons, List.map_nil, List.length_cons, List.length_nil, List.replicate_succ, List.replicate_zero, List.cons_append, List.nil_append, List.getElem?_cons_zero, List.getElem?_cons_succ, List.set_cons_zero, List.set_cons_succ, Nat.reduceAdd, Nat.reduceSub, Nat.sub_self, Nat.zero_add, Nat.sub_zero]
      refine law_product_s ht fun h11 s11 => ?_
      try simp only [if_true, if_false, Bool.false_eq_true, okS_nx, ok_trB, ok_trI, ok_bind, ok_bin, ok_un, ok_k, ok_cmp, ok_cmpT, ok_chain, ok_bl, ok_nil, ok_cons, ok_call, ok_callOp, ok_isi, ok_test, ok_andT, ok_orT, ok_notT, ok_isBl, ok_andV, ok_orV, ok_notV, ok_if, okS_next, okS_seq, okS_ret, okS_expr, okS_if, okS_set, ok_run, ok_src, ok_range, ok_ok, ok_obv, ok_ob, sNext, ok_var0, ok_varS, List.map_cons, List.map_nil, List.length_cons, List.length_nil, List.replicate_succ, List.replicate_zero, List.cons_append, List.nil_append, List.getElem?_cons_zero, List.getElem?_cons_succ, List.set_cons_zero, List.set_cons_succ, Nat.reduceAdd, Nat.reduceSub, Nat.sub_self, Nat.zero_add, Nat.sub_zero]
      refine take_s ((hp.sub sub10).sub s11) (by omega) (by decide) (by unfold Bd; decide) fun d h12 d1 d2 p12 s12 => ?_
      rw [ok_addI]
      try simp only [if_true, if_false, Bool.false_eq_true, okS_nx, ok_trB, ok_trI, ok_bind, ok_bin, ok_un, ok_k, ok_cmp, ok_cmpT, ok_chain, ok_bl, ok_nil, ok_cons, ok_call, ok_callOp, ok_isi, ok_test, ok_andT, ok_orT, ok_notT, ok_isBl, ok_andV, ok_orV, ok_notV, ok_if, okS_next, okS_seq, okS_ret, okS_expr, okS_if, okS_set, ok_run, ok_src, ok_range, ok_ok, ok_obv, ok_ob, sNext, ok_var0, ok_varS, List.map_cons, List.map_nil, List.length_cons, List.length_nil, List.replicate_succ, List.replicate_zero, List.cons_append, List.nil_append, List.getElem?_cons_zero, List.getElem?_cons_succ, List.set_cons_zero, List.set_cons_succ, Nat.reduceAdd, Nat.reduceSub, Nat.sub_self, Nat.zero_add, Nat.sub_zero]
      refine ⟨by decide, ?_⟩
      refine ok_addT (small_line (by simp; omega)) ?_
      refine ⟨_, rfl, ?_⟩
      have eg : (iL cs).dropLast ++ [PV.int (prodI ms + d)] = iL (cs.dropLast ++ [prodI ms + d]) := by
        simp only [iL, List.map_append, List.map_cons, List.map_nil]
        rw [List.map_dropLast]
      rw [eg]
      have hg : prodI ms ≤ prodI ms + d := by omega
      have hgb : Bd 45 (prodI ms + d) := by
        have a3 := (bd_prod ms ht.num).mono (show 5 * ms.length + 1 ≤ 41 by omega)
        have a4 := prodI_pos f
        unfold Bd at a3 ⊢
        omega
      generalize prodI ms + d = g at hg hgb
      have hne : cs ≠ [] := fun z => by
        rw [z] at hcl
        exact hrow (List.length_eq_zero_iff.mp hcl.symm)
      have hcg : IsCodes row.length (cs.dropLast ++ [g]) := ⟨by
        rw [List.length_append, List.length_dropLast, List.length_singleton]
        have := List.length_pos_iff.mpr hne
        omega, fun c hc' => by
        rcases List.mem_append.mp hc' with z | z
        · exact co.pos c (List.mem_of_mem_take (by rw [List.dropLast_eq_take] at z; exact z))
        · rw [List.mem_singleton.mp z]
          have := prodI_pos f
          omega⟩
      have hsub12 : SubX p mh h12 := ((sub10.trans s11).x p).trans s12
      try simp only [if_true, if_false, Bool.false_eq_true, okS_nx, ok_trB, ok_trI, ok_bind, ok_bin, ok_un, ok_k, ok_cmp, ok_cmpT, ok_chain, ok_bl, ok_nil, ok_cons, ok_call, ok_callOp, ok_isi, ok_test, ok_andT, ok_orT, ok_notT, ok_isBl, ok_andV, ok_orV, ok_notV, ok_if, okS_next, okS_seq, okS_ret, okS_expr, okS_if, okS_set, ok_run, ok_src, ok_range, ok_ok, ok_obv, ok_ob, sNext, ok_var0, ok_varS, List.map_cons, List.map_nil, List.length_cons, List.length_nil, List.replicate_succ, List.replicate_zero, List.cons_append, List.nil_append, List.getElem?_cons_zero, List.getElem?_cons_succ, List.set_cons_zero, List.set_cons_succ, Nat.reduceAdd, Nat.reduceSub, Nat.sub_self, Nat.zero_add, Nat.sub_zero]
      refine ok_caughtA ?_
      refine ex_call ?_
      try simp only [if_true, if_false, Bool.false_eq_true, okS_nx, ok_trB, ok_trI, ok_bind, ok_bin, ok_un, ok_k, ok_cmp, ok_cmpT, ok_chain, ok_bl, ok_nil, ok_cons, ok_call, ok_callOp, ok_isi, ok_test, ok_andT, ok_orT, ok_notT, ok_isBl, ok_andV, ok_orV, ok_notV, ok_if, okS_next, okS_seq, okS_ret, okS_expr, okS_if, okS_set, ok_run, ok_src, ok_range, ok_ok, ok_obv, ok_ob, sNext, ok_var0, ok_varS, List.map_cons, List.map_nil, List.length_cons, List.length_nil, List.replicate_succ, List.replicate_zero, List.cons_append, List.nil_append, List.getElem?_cons_zero, List.getElem?_cons_succ, List.set_cons_zero, List.set_cons_succ, Nat.reduceAdd, Nat.reduceSub, Nat.sub_self, Nat.zero_add, Nat.sub_zero]
      refine dealt_x hr hcg ht (fun c hc' => clt c (List.mem_of_mem_take (by rw [List.dropLast_eq_take] at hc'; exact hc'))) hg fun h13 s13 => ⟨by decide, fun ne h14 s14 f14 l14 => ?_⟩
      try simp only [if_true, if_false, Bool.false_eq_true, okS_nx, ok_trB, ok_trI, ok_bind, ok_bin, ok_un, ok_k, ok_cmp, ok_cmpT, ok_chain, ok_bl, ok_nil, ok_cons, ok_call, ok_callOp, ok_isi, ok_test, ok_andT, ok_orT, ok_notT, ok_isBl, ok_andV, ok_orV, ok_notV, ok_if, okS_next, okS_seq, okS_ret, okS_expr, okS_if, okS_set, ok_run, ok_src, ok_range, ok_ok, ok_obv, ok_ob, sNext, ok_var0, ok_varS, List.map_cons, List.map_nil, List.length_cons, List.length_nil, List.replicate_succ, List.replicate_zero, List.cons_append, List.nil_append, List.getElem?_cons_zero, List.getElem?_cons_succ, List.set_cons_zero, List.set_cons_succ, Nat.reduceAdd, Nat.reduceSub, Nat.sub_self, Nat.zero_add, Nat.sub_zero]
      refine ok_ix (k := 0) (seq_tup _) rfl (fun _ z => by cases z) ?_
      refine ⟨_, rfl, ?_⟩
      try simp only [if_true, if_false, Bool.false_eq_true, okS_nx, ok_trB, ok_trI, ok_bind, ok_bin, ok_un, ok_k, ok_cmp, ok_cmpT, ok_chain, ok_bl, ok_nil, ok_cons, ok_call, ok_callOp, ok_isi, ok_test, ok_andT, ok_orT, ok_notT, ok_isBl, ok_andV, ok_orV, ok_notV, ok_if, okS_next, okS_seq, okS_ret, okS_expr, okS_if, okS_set, ok_run, ok_src, ok_range, ok_ok, ok_obv, ok_ob, sNext, ok_var0, ok_varS, List.map_cons, List.map_nil, List.length_cons, List.length_nil, List.replicate_succ, List.replicate_zero, List.cons_append, List.nil_append, List.getElem?_cons_zero, List.getElem?_cons_succ, List.set_cons_zero, List.set_cons_succ, Nat.reduceAdd, Nat.reduceSub, Nat.sub_self, Nat.zero_add, Nat.sub_zero]
      refine ok_isC ?_
      try simp only [if_true, if_false, Bool.false_eq_true, okS_nx, ok_trB, ok_trI, ok_bind, ok_bin, ok_un, ok_k, ok_cmp, ok_cmpT, ok_chain, ok_bl, ok_nil, ok_cons, ok_call, ok_callOp, ok_isi, ok_test, ok_andT, ok_orT, ok_notT, ok_isBl, ok_andV, ok_orV, ok_notV, ok_if, okS_next, okS_seq, okS_ret, okS_expr, okS_if, okS_set, ok_run, ok_src, ok_range, ok_ok, ok_obv, ok_ob, sNext, ok_var0, ok_varS, List.map_cons, List.map_nil, List.length_cons, List.length_nil, List.replicate_succ, List.replicate_zero, List.cons_append, List.nil_append, List.getElem?_cons_zero, List.getElem?_cons_succ, List.set_cons_zero, List.set_cons_succ, Nat.reduceAdd, Nat.reduceSub, Nat.sub_self, Nat.zero_add, Nat.sub_zero]
      refine ⟨ne, _, _, true, rfl, l14, by decide, ?_⟩
      simp only [if_true]
      try simp only [if_true, if_false, Bool.false_eq_true, okS_nx, ok_trB, ok_trI, ok_bind, ok_bin, ok_un, ok_k, ok_cmp, ok_cmpT, ok_chain, ok_bl, ok_nil, ok_cons, ok_call, ok_callOp, ok_isi, ok_test, ok_andT, ok_orT, ok_notT, ok_isBl, ok_andV, ok_orV, ok_notV, ok_if, okS_next, okS_seq, okS_ret, okS_expr, okS_if, okS_set, ok_run, ok_src, ok_range, ok_ok, ok_obv, ok_ob, sNext, ok_var0, ok_varS, List.map_cons, List.map_nil, List.length_cons, List.length_nil, List.replicate_succ, List.replicate_zero, List.cons_append, List.nil_append, List.getElem?_cons_zero, List.getElem?_cons_succ, List.set_cons_zero, List.set_cons_succ, Nat.reduceAdd, Nat.reduceSub, Nat.sub_self, Nat.zero_add, Nat.sub_zero]
      refine ok_fld ?_
      try simp only [if_true, if_false, Bool.false_eq_true, okS_nx, ok_trB, ok_trI, ok_bind, ok_bin, ok_un, ok_k, ok_cmp, ok_cmpT, ok_chain, ok_bl, ok_nil, ok_cons, ok_call, ok_callOp, ok_isi, ok_test, ok_andT, ok_orT, ok_notT, ok_isBl, ok_andV, ok_orV, ok_notV, ok_if, okS_next, okS_seq, okS_ret, okS_expr, okS_if, okS_set, ok_run, ok_src, ok_range, ok_ok, ok_obv, ok_ob, sNext, ok_var0, ok_varS, List.map_cons, List.map_nil, List.length_cons, List.length_nil, List.replicate_succ, List.replicate_zero, List.cons_append, List.nil_append, List.getElem?_cons_zero, List.getElem?_cons_succ, List.set_cons_zero, List.set_cons_succ, Nat.reduceAdd, Nat.reduceSub, Nat.sub_self, Nat.zero_add, Nat.sub_zero]
      refine ⟨ne, _, _, rfl, l14, by decide, ?_⟩
      have wg : Wd 100000 66 (.int g) := (wd_int (by decide) (by decide) hgb).mono (by omega) (by decide)
      refine ok_repr (toD_int 65 _ _) wg (by decide) (by decide) ?_
      try simp only [if_true, if_false, Bool.false_eq_true, okS_nx, ok_trB, ok_trI, ok_bind, ok_bin, ok_un, ok_k, ok_cmp, ok_cmpT, ok_chain, ok_bl, ok_nil, ok_cons, ok_call, ok_callOp, ok_isi, ok_test, ok_andT, ok_orT, ok_notT, ok_isBl, ok_andV, ok_orV, ok_notV, ok_if, okS_next, okS_seq, okS_ret, okS_expr, okS_if, okS_set, ok_run, ok_src, ok_range, ok_ok, ok_obv, ok_ob, sNext, ok_var0, ok_varS, List.map_cons, List.map_nil, List.length_cons, List.length_nil, List.replicate_succ, List.replicate_zero, List.cons_append, List.nil_append, List.getElem?_cons_zero, List.getElem?_cons_succ, List.set_cons_zero, List.set_cons_succ, Nat.reduceAdd, Nat.reduceSub, Nat.sub_self, Nat.zero_add, Nat.sub_zero]
      rw [ok_negI]
      refine ok_ixNeg (x := .int g) (by simp [iL]) ?_
      try simp only [if_true, if_false, Bool.false_eq_true, okS_nx, ok_trB, ok_trI, ok_bind, ok_bin, ok_un, ok_k, ok_cmp, ok_cmpT, ok_chain, ok_bl, ok_nil, ok_cons, ok_call, ok_callOp, ok_isi, ok_test, ok_andT, ok_orT, ok_notT, ok_isBl, ok_andV, ok_orV, ok_notV, ok_if, okS_next, okS_seq, okS_ret, okS_expr, okS_if, okS_set, ok_run, ok_src, ok_range, ok_ok, ok_obv, ok_ob, sNext, ok_var0, ok_varS, List.map_cons, List.map_nil, List.length_cons, List.length_nil, List.replicate_succ, List.replicate_zero, List.cons_append, List.nil_append, List.getElem?_cons_zero, List.getElem?_cons_succ, List.set_cons_zero, List.set_cons_succ, Nat.reduceAdd, Nat.reduceSub, Nat.sub_self, Nat.zero_add, Nat.sub_zero]
      refine ok_repr (toD_int 65 _ _) wg (by decide) (by decide) ?_
      refine ⟨_, eqD_same wg.ok, ?_⟩
      exact q _ ((p12.sub s13).sub s14) ((hsub12.trans (s13.x p)).trans (s14.x p))
  · refine ⟨n6, _, _, rfl, ?_, s5.trans s6⟩
    rw [l6]
    unfold cst
    simp [iL, List.map_replicate]
end
end K49
namespace K49
open PySem PySem.Spec PyProof.Rows L2 RZ Ev
section
variable {mh h : MH} {Q : PV → MH → Prop}
theorem fit_of {n : Nat} {ds : List (List Int)} {ms : List Int} (ht : IsTracks ms) (hl : ds.length = ms.length) (h : ∀ (i : Nat) d, ds[i]? = some d → d.length = n ∧ ∀ m, ms[i]? = some m → ∀ t ∈ d, 0 ≤ t ∧ t < m) : Fit n ds ms := by
  refine ⟨hl, fun d hd => ?_, fun p hp => ?_⟩
  · obtain ⟨i, hi⟩ := List.getElem?_of_mem hd
    exact (h i d hi).1
  · obtain ⟨i, hi⟩ := List.getElem?_of_mem hp
    rw [List.getElem?_zip_eq_some] at hi
    have := ht.num p.2 (List.mem_of_getElem? hi.2)
    exact ⟨by omega, (h i _ hi.1).2 _ hi.2⟩
theorem is_right_s {p B : Nat} {row ms : List Int} (hp : Pot p B mh) (hB : B + 400 < 2 ^ 38) (hr : IsRow row) (ht : IsTracks ms) (q : ∀ h, Pot p (B + 300) h → SubX p mh h → Q (.bl true) h) : Ok (f__law_is_right [.ref p, iT row, iT ms] mh) Q := by
  have h30 := hr.len
  have h8 := ht.len
  unfold f__law_is_right
  rw [ok_run, okS_seq, okS_set, ok_callOp, ok_cons]
  have ee : List.map some [PV.ref p, iT row, iT ms] ++ List.replicate (15 - [PV.ref p, iT row, iT ms].length) none = [some (.ref p), some (iT row), some (iT ms), none, none, none, none, none, none, none, none, none, none, none, none] := rfl
  rw [ee]
  refine Ok.imp (Q := fun v h1 => ∃ (n : Nat) (ds : List (List Int)), v = .ref n ∧ h1[n]? = some (.lst (ds.map iT)) ∧ ds.length = ms.length ∧ (∀ (i : Nat) d, ds[i]? = some d → d.length = row.length ∧ ∀ m, ms[i]? = some m → ∀ t ∈ d, 0 ≤ t ∧ t < m) ∧ SubX p mh h1 ∧ Pot p (B + 240) h1) ?_ ?_
  rotate_left
  · rintro v h1 ⟨n, ds, rfl, hl, e1, gd, sx, hp1⟩
    rw [ok_nil]
    refine ok_tupleOf (seq_lst hl) ?_
    have f := fit_of ht e1 gd
    have t := right_tail (Q := Q) (a5 := none) hr ht f hp1 (by omega) fun h2 p2 sx2 => q h2 (p2.mono (by omega)) (sx.trans sx2)
    exact t
  refine ok_compPotI (p := p) row.length (fun i y => ∃ d : List Int, y = iT d ∧ (d.length = row.length ∧ ∀ m, ms[i]? = some m → ∀ t ∈ d, 0 ≤ t ∧ t < m)) ?_
  try simp only [if_true, if_false, Bool.false_eq_true, okS_nx, ok_trB, ok_trI, ok_bind, ok_bin, ok_un, ok_k, ok_cmp, ok_cmpT, ok_chain, ok_bl, ok_nil, ok_cons, ok_call, ok_callOp, ok_isi, ok_test, ok_andT, ok_orT, ok_notT, ok_isBl, ok_andV, ok_orV, ok_notV, ok_if, okS_next, okS_seq, okS_ret, okS_expr, okS_if, okS_set, ok_run, ok_src, ok_range, ok_ok, ok_obv, ok_ob, sNext, ok_var0, ok_varS, List.map_cons, List.map_nil, List.length_cons, List.length_nil, List.replicate_succ, List.replicate_zero, List.cons_append, List.nil_append, List.getElem?_cons_zero, List.getElem?_cons_succ, List.set_cons_zero, List.set_cons_succ, Nat.reduceAdd, Nat.reduceSub, Nat.sub_self, Nat.zero_add, Nat.sub_zero]
  refine ⟨iL ms, B, SubX.refl p mh, hp, by rw [List.length_map]; unfold loopFuel; omega, fun _ _ => srcIs_vals _ _, ?_, ?_⟩
  · intro i x hx h1 B1 hB1 hp1 sx1
    rw [List.length_map] at hB1
    have hmul : ms.length * row.length ≤ 8 * 30 := Nat.mul_le_mul h8 h30
    rw [List.getElem?_map] at hx
    obtain ⟨m, hm, rfl⟩ := Option.map_eq_some_iff.mp hx
    have hm1 := ht.num m (List.mem_of_getElem? hm)
    refine ⟨_, rfl, ?_⟩
    simp only [wipeE]
    try simp only [if_true, if_false, Bool.false_eq_true, okS_nx, ok_trB, ok_trI, ok_bind, ok_bin, ok_un, ok_k, ok_cmp, ok_cmpT, ok_chain, ok_bl, ok_nil, ok_cons, ok_call, ok_callOp, ok_isi, ok_test, ok_andT, ok_orT, ok_notT, ok_isBl, ok_andV, ok_orV, ok_notV, ok_if, okS_next, okS_seq, okS_ret, okS_expr, okS_if, okS_set, ok_run, ok_src, ok_range, ok_ok, ok_obv, ok_ob, sNext, ok_var0, ok_varS, List.map_cons, List.map_nil, List.length_cons, List.length_nil, List.replicate_succ, List.replicate_zero, List.cons_append, List.nil_append, List.getElem?_cons_zero, List.getElem?_cons_succ, List.set_cons_zero, List.set_cons_succ, Nat.reduceAdd, Nat.reduceSub, Nat.sub_self, Nat.zero_add, Nat.sub_zero]
    refine ok_compPot (p := p) 1 (fun y => ∃ t, y = .int t ∧ (0 ≤ t ∧ t < m)) ?_
    try simp only [if_true, if_false, Bool.false_eq_true, okS_nx, ok_trB, ok_trI, ok_bind, ok_bin, ok_un, ok_k, ok_cmp, ok_cmpT, ok_chain, ok_bl, ok_nil, ok_cons, ok_call, ok_callOp, ok_isi, ok_test, ok_andT, ok_orT, ok_notT, ok_isBl, ok_andV, ok_orV, ok_notV, ok_if, okS_next, okS_seq, okS_ret, okS_expr, okS_if, okS_set, ok_run, ok_src, ok_range, ok_ok, ok_obv, ok_ob, sNext, ok_var0, ok_varS, List.map_cons, List.map_nil, List.length_cons, List.length_nil, List.replicate_succ, List.replicate_zero, List.cons_append, List.nil_append, List.getElem?_cons_zero, List.getElem?_cons_succ, List.set_cons_zero, List.set_cons_succ, Nat.reduceAdd, Nat.reduceSub, Nat.sub_self, Nat.zero_add, Nat.sub_zero]
    refine ⟨iL row, B1, SubX.refl p h1, hp1, by rw [List.length_map]; unfold loopFuel; omega, fun _ _ => srcIs_vals _ _, ?_, ?_⟩
    · intro x hx h2 B2 hB2 hp2 sx2
      rw [List.length_map] at hB2
      refine ⟨_, rfl, ?_⟩
      rw [ok_yes, if_pos rfl]
      simp only [wipeE]
      try simp only [if_true, if_false, Bool.false_eq_true, okS_nx, ok_trB, ok_trI, ok_bind, ok_bin, ok_un, ok_k, ok_cmp, ok_cmpT, ok_chain, ok_bl, ok_nil, ok_cons, ok_call, ok_callOp, ok_isi, ok_test, ok_andT, ok_orT, ok_notT, ok_isBl, ok_andV, ok_orV, ok_notV, ok_if, okS_next, okS_seq, okS_ret, okS_expr, okS_if, okS_set, ok_run, ok_src, ok_range, ok_ok, ok_obv, ok_ob, sNext, ok_var0, ok_varS, List.map_cons, List.map_nil, List.length_cons, List.length_nil, List.replicate_succ, List.replicate_zero, List.cons_append, List.nil_append, List.getElem?_cons_zero, List.getElem?_cons_succ, List.set_cons_zero, List.set_cons_succ, Nat.reduceAdd, Nat.reduceSub, Nat.sub_self, Nat.zero_add, Nat.sub_zero]
      refine take_s hp2 (by omega) (by omega) (by unfold Bd; omega) fun d h3 g1 g2 g3 g4 => ?_
      exact ⟨⟨d, rfl, g1, g2⟩, g3, g4⟩
    · intro n out h2 e1 e2 hG sx2 hn hnp hl hp2
      obtain ⟨l, rfl, gl⟩ := iL_of hG
      simp only [List.length_map] at e1 e2 hp2
      have e2 := e2 (by first | trivial | rfl)
      try simp only [if_true, if_false, Bool.false_eq_true, okS_nx, ok_trB, ok_trI, ok_bind, ok_bin, ok_un, ok_k, ok_cmp, ok_cmpT, ok_chain, ok_bl, ok_nil, ok_cons, ok_call, ok_callOp, ok_isi, ok_test, ok_andT, ok_orT, ok_notT, ok_isBl, ok_andV, ok_orV, ok_notV, ok_if, okS_next, okS_seq, okS_ret, okS_expr, okS_if, okS_set, ok_run, ok_src, ok_range, ok_ok, ok_obv, ok_ob, sNext, ok_var0, ok_varS, List.map_cons, List.map_nil, List.length_cons, List.length_nil, List.replicate_succ, List.replicate_zero, List.cons_append, List.nil_append, List.getElem?_cons_zero, List.getElem?_cons_succ, List.set_cons_zero, List.set_cons_succ, Nat.reduceAdd, Nat.reduceSub, Nat.sub_self, Nat.zero_add, Nat.sub_zero]
      refine ok_tupleOf (seq_lst hl) ?_
      refine ⟨⟨l, rfl, e2, fun m' hm' => ?_⟩, hp2.mono (by omega), sx2⟩
      rw [hm] at hm'
      cases hm'
      exact gl
  · intro n out h1 e1 hG sx hn hnp hl hp1
    obtain ⟨ds, rfl, gd⟩ := iT_of hG
    simp only [List.length_map] at e1 hp1
    have hmul : ms.length * row.length ≤ 8 * 30 := Nat.mul_le_mul h8 h30
    exact ⟨n, ds, rfl, hl, e1, gd, sx, hp1.mono (by omega)⟩
theorem pot_ne {p B n : Nat} {a b : MH} (hp : Pot p B a) (hn : a[n]? = none) : n ≠ p := fun z => by
  rw [z] at hn
  exact absurd hp.lt (by have := List.getElem?_eq_none_iff.mp hn; omega)
theorem free_right_s {p B : Nat} {row : List Int} (hp : Pot p B mh) (hB : B + 400 < 2 ^ 38) (hr : IsRow row) (q : ∀ h, Pot p (B + 300) h → SubX p mh h → Q (.bl true) h) : Ok (f__law_is_free_right [.ref p, iT row] mh) Q := by
  have h30 := hr.len
  unfold f__law_is_free_right
  rw [ok_run, okS_seq, okS_set, ok_callOp, ok_cons]
  have ee : List.map some [PV.ref p, iT row] ++ List.replicate (6 - [PV.ref p, iT row].length) none = [some (.ref p), some (iT row), none, none, none, none] := rfl
  rw [ee]
  refine Ok.imp (Q := fun v h1 => ∃ (n : Nat) (ds : List (List Int)), v = .ref n ∧ h1[n]? = some (.lst (ds.map iT)) ∧ IsDeals row.length ds ∧ SubX p mh h1 ∧ Pot p (B + 200) h1) ?_ ?_
  · refine ok_compPotI (p := p) row.length (fun i y => ∃ d : List Int, y = iT d ∧ (d.length = row.length ∧ ∀ t ∈ d, 0 ≤ t ∧ t ≤ 29)) ?_
    try simp only [if_true, if_false, Bool.false_eq_true, okS_nx, ok_trB, ok_trI, ok_bind, ok_bin, ok_un, ok_k, ok_cmp, ok_cmpT, ok_chain, ok_bl, ok_nil, ok_cons, ok_call, ok_callOp, ok_isi, ok_test, ok_andT, ok_orT, ok_notT, ok_isBl, ok_andV, ok_orV, ok_notV, ok_if, okS_next, okS_seq, okS_ret, okS_expr, okS_if, okS_set, ok_run, ok_src, ok_range, ok_ok, ok_obv, ok_ob, sNext, ok_var0, ok_varS, List.map_cons, List.map_nil, List.length_cons, List.length_nil, List.replicate_succ, List.replicate_zero, List.cons_append, List.nil_append, List.getElem?_cons_zero, List.getElem?_cons_succ, List.set_cons_zero, List.set_cons_succ, Nat.reduceAdd, Nat.reduceSub, Nat.sub_self, Nat.zero_add, Nat.sub_zero]
    refine take_s hp (by omega) (by decide) (by unfold Bd; decide) fun dk h1 g1 g2 p1 sx1 => ?_
    obtain ⟨k, rfl⟩ := Int.eq_ofNat_of_zero_le g1
    have hk : k ≤ 4 := by omega
    have hmul : k * row.length ≤ 4 * 30 := Nat.mul_le_mul hk h30
    refine ⟨_, range1 (by omega), (List.range k).map fun j => .int (j : Nat), B + 1, sx1, p1, by simp; unfold loopFuel; omega, fun _ _ => srcIs_vals _ _, ?_, ?_⟩
    · intro i x hx h2 B2 hB2 hp2 sx2
      rw [List.length_map, List.length_range] at hB2
      refine ⟨_, rfl, ?_⟩
      simp only [wipeE]
      try simp only [if_true, if_false, Bool.false_eq_true, okS_nx, ok_trB, ok_trI, ok_bind, ok_bin, ok_un, ok_k, ok_cmp, ok_cmpT, ok_chain, ok_bl, ok_nil, ok_cons, ok_call, ok_callOp, ok_isi, ok_test, ok_andT, ok_orT, ok_notT, ok_isBl, ok_andV, ok_orV, ok_notV, ok_if, okS_next, okS_seq, okS_ret, okS_expr, okS_if, okS_set, ok_run, ok_src, ok_range, ok_ok, ok_obv, ok_ob, sNext, ok_var0, ok_varS, List.map_cons, List.map_nil, List.length_cons, List.length_nil, List.replicate_succ, List.replicate_zero, List.cons_append, List.nil_append, List.getElem?_cons_zero, List.getElem?_cons_succ, List.set_cons_zero, List.set_cons_succ, Nat.reduceAdd, Nat.reduceSub, Nat.sub_self, Nat.zero_add, Nat.sub_zero]
      refine ok_compPot (p := p) 1 (fun y => ∃ t, y = .int t ∧ (0 ≤ t ∧ t ≤ 29)) ?_
      try simp only [if_true, if_false, Bool.false_eq_true, okS_nx, ok_trB, ok_trI, ok_bind, ok_bin, ok_un, ok_k, ok_cmp, ok_cmpT, ok_chain, ok_bl, ok_nil, ok_cons, ok_call, ok_callOp, ok_isi, ok_test, ok_andT, ok_orT, ok_notT, ok_isBl, ok_andV, ok_orV, ok_notV, ok_if, okS_next, okS_seq, okS_ret, okS_expr, okS_if, okS_set, ok_run, ok_src, ok_range, ok_ok, ok_obv, ok_ob, sNext, ok_var0, ok_varS, List.map_cons, List.map_nil, List.length_cons, List.length_nil, List.replicate_succ, List.replicate_zero, List.cons_append, List.nil_append, List.getElem?_cons_zero, List.getElem?_cons_succ, List.set_cons_zero, List.set_cons_succ, Nat.reduceAdd, Nat.reduceSub, Nat.sub_self, Nat.zero_add, Nat.sub_zero]
      refine ⟨iL row, B2, SubX.refl p h2, hp2, by rw [List.length_map]; unfold loopFuel; omega, fun _ _ => srcIs_vals _ _, ?_, ?_⟩
      · intro x hx h3 B3 hB3 hp3 sx3
        rw [List.length_map] at hB3
        refine ⟨_, rfl, ?_⟩
        rw [ok_yes, if_pos rfl]
        simp only [wipeE]
        try simp only [if_true, if_false, Bool.false_eq_true, okS_nx, ok_trB, ok_trI, ok_bind, ok_bin, ok_un, ok_k, ok_cmp, ok_cmpT, ok_chain, ok_bl, ok_nil, ok_cons, ok_call, ok_callOp, ok_isi, ok_test, ok_andT, ok_orT, ok_notT, ok_isBl, ok_andV, ok_orV, ok_notV, ok_if, okS_next, okS_seq, okS_ret, okS_expr, okS_if, okS_set, ok_run, ok_src, ok_range, ok_ok, ok_obv, ok_ob, sNext, ok_var0, ok_varS, List.map_cons, List.map_nil, List.length_cons, List.length_nil, List.replicate_succ, List.replicate_zero, List.cons_append, List.nil_append, List.getElem?_cons_zero, List.getElem?_cons_succ, List.set_cons_zero, List.set_cons_succ, Nat.reduceAdd, Nat.reduceSub, Nat.sub_self, Nat.zero_add, Nat.sub_zero]
        refine ok_mklN ⟨by decide, fun n4 h4 s4 f4 l4 => ?_⟩
        try simp only [if_true, if_false, Bool.false_eq_true, okS_nx, ok_trB, ok_trI, ok_bind, ok_bin, ok_un, ok_k, ok_cmp, ok_cmpT, ok_chain, ok_bl, ok_nil, ok_cons, ok_call, ok_callOp, ok_isi, ok_test, ok_andT, ok_orT, ok_notT, ok_isBl, ok_andV, ok_orV, ok_notV, ok_if, okS_next, okS_seq, okS_ret, okS_expr, okS_if, okS_set, ok_run, ok_src, ok_range, ok_ok, ok_obv, ok_ob, sNext, ok_var0, ok_varS, List.map_cons, List.map_nil, List.length_cons, List.length_nil, List.replicate_succ, List.replicate_zero, List.cons_append, List.nil_append, List.getElem?_cons_zero, List.getElem?_cons_succ, List.set_cons_zero, List.set_cons_succ, Nat.reduceAdd, Nat.reduceSub, Nat.sub_self, Nat.zero_add, Nat.sub_zero]
        refine of_s (hp3.sub s4) (by omega) l4 (pot_ne (b := h4) hp3 f4) (by decide) (by decide) fun v h5 hv p5 sx5 => ?_
        refine ⟨?_, p5, (s4.x p).trans sx5⟩
        simp only [List.mem_cons, List.not_mem_nil, or_false] at hv
        rcases hv with rfl | rfl | rfl | rfl <;> exact ⟨_, rfl, by decide, by decide⟩
      · intro n out h3 e1 e2 hG sx3 hn hnp hl hp3
        obtain ⟨l, rfl, gl⟩ := iL_of hG
        simp only [List.length_map] at e1 e2 hp3
        have e2 := e2 (by first | trivial | rfl)
        try simp only [if_true, if_false, Bool.false_eq_true, okS_nx, ok_trB, ok_trI, ok_bind, ok_bin, ok_un, ok_k, ok_cmp, ok_cmpT, ok_chain, ok_bl, ok_nil, ok_cons, ok_call, ok_callOp, ok_isi, ok_test, ok_andT, ok_orT, ok_notT, ok_isBl, ok_andV, ok_orV, ok_notV, ok_if, okS_next, okS_seq, okS_ret, okS_expr, okS_if, okS_set, ok_run, ok_src, ok_range, ok_ok, ok_obv, ok_ob, sNext, ok_var0, ok_varS, List.map_cons, List.map_nil, List.length_cons, List.length_nil, List.replicate_succ, List.replicate_zero, List.cons_append, List.nil_append, List.getElem?_cons_zero, List.getElem?_cons_succ, List.set_cons_zero, List.set_cons_succ, Nat.reduceAdd, Nat.reduceSub, Nat.sub_self, Nat.zero_add, Nat.sub_zero]
        refine ok_tupleOf (seq_lst hl) ?_
        exact ⟨⟨l, rfl, e2, gl⟩, hp3.mono (by omega), sx3⟩
    · intro n out h2 e1 hG sx2 hn hnp hl hp2
      obtain ⟨ds, rfl, gd⟩ := iT_of hG
      simp only [List.length_map, List.length_range] at e1 hp2
      refine ⟨n, ds, rfl, hl, ⟨by omega, fun d hd => ?_, fun d hd => ?_⟩, sx2, hp2.mono (by omega)⟩
      · obtain ⟨i, hi⟩ := List.getElem?_of_mem hd
        exact (gd i d hi).1
      · obtain ⟨i, hi⟩ := List.getElem?_of_mem hd
        exact (gd i d hi).2
  · rintro v h1 ⟨n, ds, rfl, hl, hd, sx1, hp1⟩
    rw [ok_nil]
    refine ok_tupleOf (seq_lst hl) ?_
    dsimp only
    rw [okS_seq, okS_set, ok_callOp, ok_cons]
    refine Ok.imp (Q := fun v h2 => ∃ (n : Nat) (cs : List Int), v = .ref n ∧ h2[n]? = some (.lst (iL cs)) ∧ IsCodes row.length cs ∧ SubX p mh h2 ∧ Pot p (B + 290) h2) ?_ ?_
    · refine ok_compPot (p := p) 1 (fun y => ∃ t, y = .int t ∧ 0 ≤ t) ?_
      try simp only [if_true, if_false, Bool.false_eq_true, okS_nx, ok_trB, ok_trI, ok_bind, ok_bin, ok_un, ok_k, ok_cmp, ok_cmpT, ok_chain, ok_bl, ok_nil, ok_cons, ok_call, ok_callOp, ok_isi, ok_test, ok_andT, ok_orT, ok_notT, ok_isBl, ok_andV, ok_orV, ok_notV, ok_if, okS_next, okS_seq, okS_ret, okS_expr, okS_if, okS_set, ok_run, ok_src, ok_range, ok_ok, ok_obv, ok_ob, sNext, ok_var0, ok_varS, List.map_cons, List.map_nil, List.length_cons, List.length_nil, List.replicate_succ, List.replicate_zero, List.cons_append, List.nil_append, List.getElem?_cons_zero, List.getElem?_cons_succ, List.set_cons_zero, List.set_cons_succ, Nat.reduceAdd, Nat.reduceSub, Nat.sub_self, Nat.zero_add, Nat.sub_zero]
      refine ⟨iL row, B + 200, SubX.refl p h1, hp1, by rw [List.length_map]; unfold loopFuel; omega, fun _ _ => srcIs_vals _ _, ?_, ?_⟩
      · intro x hx h3 B3 hB3 hp3 sx3
        rw [List.length_map] at hB3
        refine ⟨_, rfl, ?_⟩
        rw [ok_yes, if_pos rfl]
        simp only [wipeE]
        try simp only [if_true, if_false, Bool.false_eq_true, okS_nx, ok_trB, ok_trI, ok_bind, ok_bin, ok_un, ok_k, ok_cmp, ok_cmpT, ok_chain, ok_bl, ok_nil, ok_cons, ok_call, ok_callOp, ok_isi, ok_test, ok_andT, ok_orT, ok_notT, ok_isBl, ok_andV, ok_orV, ok_notV, ok_if, okS_next, okS_seq, okS_ret, okS_expr, okS_if, okS_set, ok_run, ok_src, ok_range, ok_ok, ok_obv, ok_ob, sNext, ok_var0, ok_varS, List.map_cons, List.map_nil, List.length_cons, List.length_nil, List.replicate_succ, List.replicate_zero, List.cons_append, List.nil_append, List.getElem?_cons_zero, List.getElem?_cons_succ, List.set_cons_zero, List.set_cons_succ, Nat.reduceAdd, Nat.reduceSub, Nat.sub_self, Nat.zero_add, Nat.sub_zero]
        refine ok_mklN ?_
        try simp only [if_true, if_false, Bool.false_eq_true, okS_nx, ok_trB, ok_trI, ok_bind, ok_bin, ok_un, ok_k, ok_cmp, ok_cmpT, ok_chain, ok_bl, ok_nil, ok_cons, ok_call, ok_callOp, ok_isi, ok_test, ok_andT, ok_orT, ok_notT, ok_isBl, ok_andV, ok_orV, ok_notV, ok_if, okS_next, okS_seq, okS_ret, okS_expr, okS_if, okS_set, ok_run, ok_src, ok_range, ok_ok, ok_obv, ok_ob, sNext, ok_var0, ok_varS, List.map_cons, List.map_nil, List.length_cons, List.length_nil, List.replicate_succ, List.replicate_zero, List.cons_append, List.nil_append, List.getElem?_cons_zero, List.getElem?_cons_succ, List.set_cons_zero, List.set_cons_succ, Nat.reduceAdd, Nat.reduceSub, Nat.sub_self, Nat.zero_add, Nat.sub_zero]
        refine ok_powI (a := 4) (n := 11) (by unfold Bd; decide) (by decide) (by decide) ?_
        try simp only [if_true, if_false, Bool.false_eq_true, okS_nx, ok_trB, ok_trI, ok_bind, ok_bin, ok_un, ok_k, ok_cmp, ok_cmpT, ok_chain, ok_bl, ok_nil, ok_cons, ok_call, ok_callOp, ok_isi, ok_test, ok_andT, ok_orT, ok_notT, ok_isBl, ok_andV, ok_orV, ok_notV, ok_if, okS_next, okS_seq, okS_ret, okS_expr, okS_if, okS_set, ok_run, ok_src, ok_range, ok_ok, ok_obv, ok_ob, sNext, ok_var0, ok_varS, List.map_cons, List.map_nil, List.length_cons, List.length_nil, List.replicate_succ, List.replicate_zero, List.cons_append, List.nil_append, List.getElem?_cons_zero, List.getElem?_cons_succ, List.set_cons_zero, List.set_cons_succ, Nat.reduceAdd, Nat.reduceSub, Nat.sub_self, Nat.zero_add, Nat.sub_zero]
        refine ⟨by decide, fun n4 h4 s4 f4 l4 => ?_⟩
        try simp only [if_true, if_false, Bool.false_eq_true, okS_nx, ok_trB, ok_trI, ok_bind, ok_bin, ok_un, ok_k, ok_cmp, ok_cmpT, ok_chain, ok_bl, ok_nil, ok_cons, ok_call, ok_callOp, ok_isi, ok_test, ok_andT, ok_orT, ok_notT, ok_isBl, ok_andV, ok_orV, ok_notV, ok_if, okS_next, okS_seq, okS_ret, okS_expr, okS_if, okS_set, ok_run, ok_src, ok_range, ok_ok, ok_obv, ok_ob, sNext, ok_var0, ok_varS, List.map_cons, List.map_nil, List.length_cons, List.length_nil, List.replicate_succ, List.replicate_zero, List.cons_append, List.nil_append, List.getElem?_cons_zero, List.getElem?_cons_succ, List.set_cons_zero, List.set_cons_succ, Nat.reduceAdd, Nat.reduceSub, Nat.sub_self, Nat.zero_add, Nat.sub_zero]
        refine of_s (hp3.sub s4) (by omega) l4 (pot_ne (b := h4) hp3 f4) (by decide) (by decide) fun v h5 hv p5 sx5 => ?_
        refine ⟨?_, p5, (s4.x p).trans sx5⟩
        simp only [List.mem_cons, List.not_mem_nil, or_false] at hv
        rcases hv with rfl | rfl | rfl | rfl <;> exact ⟨_, rfl, by decide⟩
      · intro n out h3 e1 e2 hG sx3 hn hnp hl hp3
        obtain ⟨cs, rfl, gl⟩ := iL_of hG
        simp only [List.length_map] at e1 e2 hp3
        have e2 := e2 (by first | trivial | rfl)
        exact ⟨n, cs, rfl, hl, ⟨e2, gl⟩, sx1.trans sx3, hp3.mono (by omega)⟩
    · rintro v h2 ⟨n2, cs, rfl, hl2, co, sx2, hp2⟩
      rw [ok_nil]
      refine ok_tupleOf (seq_lst hl2) ?_
      have hcl := co.len
      try simp only [if_true, if_false, Bool.false_eq_true, okS_nx, ok_trB, ok_trI, ok_bind, ok_bin, ok_un, ok_k, ok_cmp, ok_cmpT, ok_chain, ok_bl, ok_nil, ok_cons, ok_call, ok_callOp, ok_isi, ok_test, ok_andT, ok_orT, ok_notT, ok_isBl, ok_andV, ok_orV, ok_notV, ok_if, okS_next, okS_seq, okS_ret, okS_expr, okS_if, okS_set, ok_run, ok_src, ok_range, ok_ok, ok_obv, ok_ob, sNext, ok_var0, ok_varS, List.map_cons, List.map_nil, List.length_cons, List.length_nil, List.replicate_succ, List.replicate_zero, List.cons_append, List.nil_append, List.getElem?_cons_zero, List.getElem?_cons_succ, List.set_cons_zero, List.set_cons_succ, Nat.reduceAdd, Nat.reduceSub, Nat.sub_self, Nat.zero_add, Nat.sub_zero]
      refine behind_s hr hd fun h3 s3 => ?_
      have hb := beh_len sortU_sorted (sortU_col hd.row)
      have e1 := beh_one (tf := fun _ => r30) (tg := sortU) (fun _ => r30_sorted) (deals_r30 hd) sortU_sorted (sortU_col hd.row)
      generalize beh sortU ds row.length = lb at hb e1
      have wb : Wd 100000 66 _ := (wd_nat (l := lb) fun c hc' => by
        have := hb.2 c hc'
        omega).mono (by omega) (by decide)
      rw [nP_iL]
      refine ok_repr (toD_tup _ _) wb (by decide) (by decide) ?_
      try simp only [if_true, if_false, Bool.false_eq_true, okS_nx, ok_trB, ok_trI, ok_bind, ok_bin, ok_un, ok_k, ok_cmp, ok_cmpT, ok_chain, ok_bl, ok_nil, ok_cons, ok_call, ok_callOp, ok_isi, ok_test, ok_andT, ok_orT, ok_notT, ok_isBl, ok_andV, ok_orV, ok_notV, ok_if, okS_next, okS_seq, okS_ret, okS_expr, okS_if, okS_set, ok_run, ok_src, ok_range, ok_ok, ok_obv, ok_ob, sNext, ok_var0, ok_varS, List.map_cons, List.map_nil, List.length_cons, List.length_nil, List.replicate_succ, List.replicate_zero, List.cons_append, List.nil_append, List.getElem?_cons_zero, List.getElem?_cons_succ, List.set_cons_zero, List.set_cons_succ, Nat.reduceAdd, Nat.reduceSub, Nat.sub_self, Nat.zero_add, Nat.sub_zero]
      refine law_behind_s h30 hd fun h4 s4 => ?_
      rw [e1, nP_iL]
      try simp only [if_true, if_false, Bool.false_eq_true, okS_nx, ok_trB, ok_trI, ok_bind, ok_bin, ok_un, ok_k, ok_cmp, ok_cmpT, ok_chain, ok_bl, ok_nil, ok_cons, ok_call, ok_callOp, ok_isi, ok_test, ok_andT, ok_orT, ok_notT, ok_isBl, ok_andV, ok_orV, ok_notV, ok_if, okS_next, okS_seq, okS_ret, okS_expr, okS_if, okS_set, ok_run, ok_src, ok_range, ok_ok, ok_obv, ok_ob, sNext, ok_var0, ok_varS, List.map_cons, List.map_nil, List.length_cons, List.length_nil, List.replicate_succ, List.replicate_zero, List.cons_append, List.nil_append, List.getElem?_cons_zero, List.getElem?_cons_succ, List.set_cons_zero, List.set_cons_succ, Nat.reduceAdd, Nat.reduceSub, Nat.sub_self, Nat.zero_add, Nat.sub_zero]
      refine ok_repr (toD_tup _ _) wb (by decide) (by decide) ?_
      refine ⟨_, neD_same wb.ok, ?_⟩
      simp only [Bool.false_eq_true, if_false]
      try simp only [if_true, if_false, Bool.false_eq_true, okS_nx, ok_trB, ok_trI, ok_bind, ok_bin, ok_un, ok_k, ok_cmp, ok_cmpT, ok_chain, ok_bl, ok_nil, ok_cons, ok_call, ok_callOp, ok_isi, ok_test, ok_andT, ok_orT, ok_notT, ok_isBl, ok_andV, ok_orV, ok_notV, ok_if, okS_next, okS_seq, okS_ret, okS_expr, okS_if, okS_set, ok_run, ok_src, ok_range, ok_ok, ok_obv, ok_ob, sNext, ok_var0, ok_varS, List.map_cons, List.map_nil, List.length_cons, List.length_nil, List.replicate_succ, List.replicate_zero, List.cons_append, List.nil_append, List.getElem?_cons_zero, List.getElem?_cons_succ, List.set_cons_zero, List.set_cons_succ, Nat.reduceAdd, Nat.reduceSub, Nat.sub_self, Nat.zero_add, Nat.sub_zero]
      have ol := law_ord hcl
      have hcl2 : cs.length ≤ 30 := by omega
      refine by_codes_s hr co fun l5 h5 o5 s5 => ?_
      have ol1 := ol.len (cl_irr _)
      have ol2 : ∀ x ∈ bk (sortU cs) (col cs) (List.range row.length), x < row.length := fun x hx => (ol.mem x).mp hx
      rw [Ord.one (cl_asym _) o5 ol]
      have wl : Wd 100000 66 _ := (wd_nat (l := bk (sortU cs) (col cs) (List.range row.length)) fun c hc' => by
        have := ol2 c hc'
        omega).mono (by omega) (by decide)
      rw [nP_iL]
      refine ok_repr (toD_tup _ _) wl (by decide) (by decide) ?_
      try simp only [if_true, if_false, Bool.false_eq_true, okS_nx, ok_trB, ok_trI, ok_bind, ok_bin, ok_un, ok_k, ok_cmp, ok_cmpT, ok_chain, ok_bl, ok_nil, ok_cons, ok_call, ok_callOp, ok_isi, ok_test, ok_andT, ok_orT, ok_notT, ok_isBl, ok_andV, ok_orV, ok_notV, ok_if, okS_next, okS_seq, okS_ret, okS_expr, okS_if, okS_set, ok_run, ok_src, ok_range, ok_ok, ok_obv, ok_ob, sNext, ok_var0, ok_varS, List.map_cons, List.map_nil, List.length_cons, List.length_nil, List.replicate_succ, List.replicate_zero, List.cons_append, List.nil_append, List.getElem?_cons_zero, List.getElem?_cons_succ, List.set_cons_zero, List.set_cons_succ, Nat.reduceAdd, Nat.reduceSub, Nat.sub_self, Nat.zero_add, Nat.sub_zero]
      refine law_ordered_s hcl2 fun h6 s6 => ?_
      rw [hcl, nP_iL]
      try simp only [if_true, if_false, Bool.false_eq_true, okS_nx, ok_trB, ok_trI, ok_bind, ok_bin, ok_un, ok_k, ok_cmp, ok_cmpT, ok_chain, ok_bl, ok_nil, ok_cons, ok_call, ok_callOp, ok_isi, ok_test, ok_andT, ok_orT, ok_notT, ok_isBl, ok_andV, ok_orV, ok_notV, ok_if, okS_next, okS_seq, okS_ret, okS_expr, okS_if, okS_set, ok_run, ok_src, ok_range, ok_ok, ok_obv, ok_ob, sNext, ok_var0, ok_varS, List.map_cons, List.map_nil, List.length_cons, List.length_nil, List.replicate_succ, List.replicate_zero, List.cons_append, List.nil_append, List.getElem?_cons_zero, List.getElem?_cons_succ, List.set_cons_zero, List.set_cons_succ, Nat.reduceAdd, Nat.reduceSub, Nat.sub_self, Nat.zero_add, Nat.sub_zero]
      refine ok_repr (toD_tup _ _) wl (by decide) (by decide) ?_
      refine ⟨_, neD_same wl.ok, ?_⟩
      simp only [Bool.false_eq_true, if_false]
      try simp only [if_true, if_false, Bool.false_eq_true, okS_nx, ok_trB, ok_trI, ok_bind, ok_bin, ok_un, ok_k, ok_cmp, ok_cmpT, ok_chain, ok_bl, ok_nil, ok_cons, ok_call, ok_callOp, ok_isi, ok_test, ok_andT, ok_orT, ok_notT, ok_isBl, ok_andV, ok_orV, ok_notV, ok_if, okS_next, okS_seq, okS_ret, okS_expr, okS_if, okS_set, ok_run, ok_src, ok_range, ok_ok, ok_obv, ok_ob, sNext, ok_var0, ok_varS, List.map_cons, List.map_nil, List.length_cons, List.length_nil, List.replicate_succ, List.replicate_zero, List.cons_append, List.nil_append, List.getElem?_cons_zero, List.getElem?_cons_succ, List.set_cons_zero, List.set_cons_succ, Nat.reduceAdd, Nat.reduceSub, Nat.sub_self, Nat.zero_add, Nat.sub_zero]
      refine do_set_s hr co fun l7 h7 o7 s7 => ?_
      rw [Ord.one (cl_asym _) o7 ol]
      try simp only [if_true, if_false, Bool.false_eq_true, okS_nx, ok_trB, ok_trI, ok_bind, ok_bin, ok_un, ok_k, ok_cmp, ok_cmpT, ok_chain, ok_bl, ok_nil, ok_cons, ok_call, ok_callOp, ok_isi, ok_test, ok_andT, ok_orT, ok_notT, ok_isBl, ok_andV, ok_orV, ok_notV, ok_if, okS_next, okS_seq, okS_ret, okS_expr, okS_if, okS_set, ok_run, ok_src, ok_range, ok_ok, ok_obv, ok_ob, sNext, ok_var0, ok_varS, List.map_cons, List.map_nil, List.length_cons, List.length_nil, List.replicate_succ, List.replicate_zero, List.cons_append, List.nil_append, List.getElem?_cons_zero, List.getElem?_cons_succ, List.set_cons_zero, List.set_cons_succ, Nat.reduceAdd, Nat.reduceSub, Nat.sub_self, Nat.zero_add, Nat.sub_zero]
      refine ok_reprB ?_
      try simp only [if_true, if_false, Bool.false_eq_true, okS_nx, ok_trB, ok_trI, ok_bind, ok_bin, ok_un, ok_k, ok_cmp, ok_cmpT, ok_chain, ok_bl, ok_nil, ok_cons, ok_call, ok_callOp, ok_isi, ok_test, ok_andT, ok_orT, ok_notT, ok_isBl, ok_andV, ok_orV, ok_notV, ok_if, okS_next, okS_seq, okS_ret, okS_expr, okS_if, okS_set, ok_run, ok_src, ok_range, ok_ok, ok_obv, ok_ob, sNext, ok_var0, ok_varS, List.map_cons, List.map_nil, List.length_cons, List.length_nil, List.replicate_succ, List.replicate_zero, List.cons_append, List.nil_append, List.getElem?_cons_zero, List.getElem?_cons_succ, List.set_cons_zero, List.set_cons_succ, Nat.reduceAdd, Nat.reduceSub, Nat.sub_self, Nat.zero_add, Nat.sub_zero]
      refine law_ordered_s hcl2 fun h8 s8 => ?_
      rw [hcl]
      try simp only [if_true, if_false, Bool.false_eq_true, okS_nx, ok_trB, ok_trI, ok_bind, ok_bin, ok_un, ok_k, ok_cmp, ok_cmpT, ok_chain, ok_bl, ok_nil, ok_cons, ok_call, ok_callOp, ok_isi, ok_test, ok_andT, ok_orT, ok_notT, ok_isBl, ok_andV, ok_orV, ok_notV, ok_if, okS_next, okS_seq, okS_ret, okS_expr, okS_if, okS_set, ok_run, ok_src, ok_range, ok_ok, ok_obv, ok_ob, sNext, ok_var0, ok_varS, List.map_cons, List.map_nil, List.length_cons, List.length_nil, List.replicate_succ, List.replicate_zero, List.cons_append, List.nil_append, List.getElem?_cons_zero, List.getElem?_cons_succ, List.set_cons_zero, List.set_cons_succ, Nat.reduceAdd, Nat.reduceSub, Nat.sub_self, Nat.zero_add, Nat.sub_zero]
      refine law_rise_s (by omega) ol2 fun h9 s9 => ?_
      try simp only [if_true, if_false, Bool.false_eq_true, okS_nx, ok_trB, ok_trI, ok_bind, ok_bin, ok_un, ok_k, ok_cmp, ok_cmpT, ok_chain, ok_bl, ok_nil, ok_cons, ok_call, ok_callOp, ok_isi, ok_test, ok_andT, ok_orT, ok_notT, ok_isBl, ok_andV, ok_orV, ok_notV, ok_if, okS_next, okS_seq, okS_ret, okS_expr, okS_if, okS_set, ok_run, ok_src, ok_range, ok_ok, ok_obv, ok_ob, sNext, ok_var0, ok_varS, List.map_cons, List.map_nil, List.length_cons, List.length_nil, List.replicate_succ, List.replicate_zero, List.cons_append, List.nil_append, List.getElem?_cons_zero, List.getElem?_cons_succ, List.set_cons_zero, List.set_cons_succ, Nat.reduceAdd, Nat.reduceSub, Nat.sub_self, Nat.zero_add, Nat.sub_zero]
      refine ok_reprB ?_
      refine ⟨_, eqD_same (strOk_bl _), ?_⟩
      have sa : Sub h2 h9 := s3.trans (s4.trans (s5.trans (s6.trans (s7.trans (s8.trans s9)))))
      exact q _ ((hp2.sub sa).mono (by omega)) (sx2.trans (sa.x p))
end
end K49
namespace K49
open PySem PySem.Spec PyProof.Rows L2 RZ Ev
theorem law_s {ns : List Int} (hn : ns.length ≤ 63) : ∃ mh', f_law [.ref 0] [.scr (ns.map PV.int)] = .ok (.bl true) mh' := by
  have key : Ok (f_law [.ref 0] [.scr (ns.map PV.int)]) fun v _ => v = .bl true := by
    generalize hm : ([.scr (ns.map PV.int)] : MH) = mh
    have h0 : mh[0]? = some (.scr (ns.map PV.int)) := by rw [← hm]; rfl
    unfold f_law
    try simp only [if_true, if_false, Bool.false_eq_true, okS_nx, ok_trB, ok_trI, ok_bind, ok_bin, ok_un, ok_k, ok_cmp, ok_cmpT, ok_chain, ok_bl, ok_nil, ok_cons, ok_call, ok_callOp, ok_isi, ok_test, ok_andT, ok_orT, ok_notT, ok_isBl, ok_andV, ok_orV, ok_notV, ok_if, okS_next, okS_seq, okS_ret, okS_expr, okS_if, okS_set, ok_run, ok_src, ok_range, ok_ok, ok_obv, ok_ob, sNext, ok_var0, ok_varS, List.map_cons, List.map_nil, List.length_cons, List.length_nil, List.replicate_succ, List.replicate_zero, List.cons_append, List.nil_append, List.getElem?_cons_zero, List.getElem?_cons_succ, List.set_cons_zero, List.set_cons_succ, Nat.reduceAdd, Nat.reduceSub, Nat.sub_self, Nat.zero_add, Nat.sub_zero]
    refine okS_for ?_
    try simp only [if_true, if_false, Bool.false_eq_true, okS_nx, ok_trB, ok_trI, ok_bind, ok_bin, ok_un, ok_k, ok_cmp, ok_cmpT, ok_chain, ok_bl, ok_nil, ok_cons, ok_call, ok_callOp, ok_isi, ok_test, ok_andT, ok_orT, ok_notT, ok_isBl, ok_andV, ok_orV, ok_notV, ok_if, okS_next, okS_seq, okS_ret, okS_expr, okS_if, okS_set, ok_run, ok_src, ok_range, ok_ok, ok_obv, ok_ob, sNext, ok_var0, ok_varS, List.map_cons, List.map_nil, List.length_cons, List.length_nil, List.replicate_succ, List.replicate_zero, List.cons_append, List.nil_append, List.getElem?_cons_zero, List.getElem?_cons_succ, List.set_cons_zero, List.set_cons_succ, Nat.reduceAdd, Nat.reduceSub, Nat.sub_self, Nat.zero_add, Nat.sub_zero]
    refine cells_s (m := 3) (by decide) h0 hn fun k n1 h1 hk s1 l1 => ?_
    refine ok_srcL l1 ⟨iL ((List.range k).map fun (k : Nat) => (k : Int)), fun i env h => ∃ a b c d e f g, env = [some (.ref 0), a, b, c, d, e, f, g] ∧ Sub h1 h, by rw [List.length_map, List.length_map, List.length_range]; unfold loopFuel; omega, fun i e h q => by
      obtain ⟨_, _, _, _, _, _, _, _, s⟩ := q
      exact srcIs_lst (s _ _ l1), ?_, ?_, ?_⟩
    · rintro i v env h hv ⟨a, b, c, d, e, f, g, rfl, s⟩
      rw [List.getElem?_map, List.getElem?_map] at hv
      obtain ⟨x, hx, rfl⟩ := Option.map_eq_some_iff.mp hv
      obtain ⟨c0, hc, rfl⟩ := Option.map_eq_some_iff.mp hx
      have hc2 := List.mem_range.mp (List.mem_of_getElem? hc)
      refine ⟨_, rfl, ?_⟩
      try simp only [if_true, if_false, Bool.false_eq_true, okS_nx, ok_trB, ok_trI, ok_bind, ok_bin, ok_un, ok_k, ok_cmp, ok_cmpT, ok_chain, ok_bl, ok_nil, ok_cons, ok_call, ok_callOp, ok_isi, ok_test, ok_andT, ok_orT, ok_notT, ok_isBl, ok_andV, ok_orV, ok_notV, ok_if, okS_next, okS_seq, okS_ret, okS_expr, okS_if, okS_set, ok_run, ok_src, ok_range, ok_ok, ok_obv, ok_ob, sNext, ok_var0, ok_varS, List.map_cons, List.map_nil, List.length_cons, List.length_nil, List.replicate_succ, List.replicate_zero, List.cons_append, List.nil_append, List.getElem?_cons_zero, List.getElem?_cons_succ, List.set_cons_zero, List.set_cons_succ, Nat.reduceAdd, Nat.reduceSub, Nat.sub_self, Nat.zero_add, Nat.sub_zero]
      refine pot_s (s _ _ (s1 _ _ h0)) hn (by omega) fun p h2 s2 f2 p2 => ?_
      have hgo : ∀ h', SubX p h2 h' → Sub h1 h' := fun h' sx j o e => by
        have hj := s _ _ e
        have hne : j ≠ p := fun z => by
          rw [z, f2] at hj
          cases hj
        exact sx _ _ hne (s2 _ _ hj)
      refine okS_for ?_
      try simp only [if_true, if_false, Bool.false_eq_true, okS_nx, ok_trB, ok_trI, ok_bind, ok_bin, ok_un, ok_k, ok_cmp, ok_cmpT, ok_chain, ok_bl, ok_nil, ok_cons, ok_call, ok_callOp, ok_isi, ok_test, ok_andT, ok_orT, ok_notT, ok_isBl, ok_andV, ok_orV, ok_notV, ok_if, okS_next, okS_seq, okS_ret, okS_expr, okS_if, okS_set, ok_run, ok_src, ok_range, ok_ok, ok_obv, ok_ob, sNext, ok_var0, ok_varS, List.map_cons, List.map_nil, List.length_cons, List.length_nil, List.replicate_succ, List.replicate_zero, List.cons_append, List.nil_append, List.getElem?_cons_zero, List.getElem?_cons_succ, List.set_cons_zero, List.set_cons_succ, Nat.reduceAdd, Nat.reduceSub, Nat.sub_self, Nat.zero_add, Nat.sub_zero]
      refine ⟨_, range1 (n := 2) (by decide), (List.range 2).map fun j => .int (j : Nat), fun i env h => ∃ c d e f g, env = [some (.ref 0), some (.int c0), some (.ref p), c, d, e, f, g] ∧ Pot p (i * 2000) h ∧ SubX p h2 h, by decide, fun _ _ _ _ => srcIs_vals _ _, ?_, ?_, ?_⟩
      · rintro i v env h3 hv ⟨c, d, e, f, g, rfl, p3, sx3⟩
        have hi := (List.getElem?_eq_some_iff.mp hv).1
        simp only [List.length_map, List.length_range] at hi
        refine ⟨_, rfl, ?_⟩
        try simp only [if_true, if_false, Bool.false_eq_true, okS_nx, ok_trB, ok_trI, ok_bind, ok_bin, ok_un, ok_k, ok_cmp, ok_cmpT, ok_chain, ok_bl, ok_nil, ok_cons, ok_call, ok_callOp, ok_isi, ok_test, ok_andT, ok_orT, ok_notT, ok_isBl, ok_andV, ok_orV, ok_notV, ok_if, okS_next, okS_seq, okS_ret, okS_expr, okS_if, okS_set, ok_run, ok_src, ok_range, ok_ok, ok_obv, ok_ob, sNext, ok_var0, ok_varS, List.map_cons, List.map_nil, List.length_cons, List.length_nil, List.replicate_succ, List.replicate_zero, List.cons_append, List.nil_append, List.getElem?_cons_zero, List.getElem?_cons_succ, List.set_cons_zero, List.set_cons_succ, Nat.reduceAdd, Nat.reduceSub, Nat.sub_self, Nat.zero_add, Nat.sub_zero]
        refine ok_mklN ⟨by decide, fun n4 h4 s4 f4 l4 => ?_⟩
        try simp only [if_true, if_false, Bool.false_eq_true, okS_nx, ok_trB, ok_trI, ok_bind, ok_bin, ok_un, ok_k, ok_cmp, ok_cmpT, ok_chain, ok_bl, ok_nil, ok_cons, ok_call, ok_callOp, ok_isi, ok_test, ok_andT, ok_orT, ok_notT, ok_isBl, ok_andV, ok_orV, ok_notV, ok_if, okS_next, okS_seq, okS_ret, okS_expr, okS_if, okS_set, ok_run, ok_src, ok_range, ok_ok, ok_obv, ok_ob, sNext, ok_var0, ok_varS, List.map_cons, List.map_nil, List.length_cons, List.length_nil, List.replicate_succ, List.replicate_zero, List.cons_append, List.nil_append, List.getElem?_cons_zero, List.getElem?_cons_succ, List.set_cons_zero, List.set_cons_succ, Nat.reduceAdd, Nat.reduceSub, Nat.sub_self, Nat.zero_add, Nat.sub_zero]
        refine of_s (p3.sub s4) (by omega) l4 (pot_ne (b := h4) p3 f4) (by decide) (by decide) fun w h5 hw p5 sx5 => ?_
        obtain ⟨wi, rfl, hw1, hw2⟩ : ∃ wi : Int, w = .int wi ∧ 1 ≤ wi ∧ wi ≤ 8 := by
          simp only [List.mem_cons, List.not_mem_nil, or_false] at hw
          rcases hw with rfl | rfl <;> exact ⟨_, rfl, by decide, by decide⟩
        refine row_s (most := 8) p5 (by omega) (by decide) (by omega) (by unfold Bd; omega) fun row h6 r1 r2 p6 sx6 => ?_
        have hr : IsRow row := ⟨by omega, fun x hx => ⟨(r2 x hx).1, by have := (r2 x hx).2; omega⟩⟩
        try simp only [if_true, if_false, Bool.false_eq_true, okS_nx, ok_trB, ok_trI, ok_bind, ok_bin, ok_un, ok_k, ok_cmp, ok_cmpT, ok_chain, ok_bl, ok_nil, ok_cons, ok_call, ok_callOp, ok_isi, ok_test, ok_andT, ok_orT, ok_notT, ok_isBl, ok_andV, ok_orV, ok_notV, ok_if, okS_next, okS_seq, okS_ret, okS_expr, okS_if, okS_set, ok_run, ok_src, ok_range, ok_ok, ok_obv, ok_ob, sNext, ok_var0, ok_varS, List.map_cons, List.map_nil, List.length_cons, List.length_nil, List.replicate_succ, List.replicate_zero, List.cons_append, List.nil_append, List.getElem?_cons_zero, List.getElem?_cons_succ, List.set_cons_zero, List.set_cons_succ, Nat.reduceAdd, Nat.reduceSub, Nat.sub_self, Nat.zero_add, Nat.sub_zero]
        refine Ok.imp (Q := fun v h7 => ∃ (n : Nat) (ms : List Int), v = .ref n ∧ h7[n]? = some (.lst (iL ms)) ∧ IsTracks ms ∧ SubX p h6 h7 ∧ Pot p (i * 2000 + 100) h7) ?_ ?_
        · refine ok_compPot (p := p) 1 (fun y => ∃ t, y = .int t ∧ (1 ≤ t ∧ t ≤ 30)) ?_
          try simp only [if_true, if_false, Bool.false_eq_true, okS_nx, ok_trB, ok_trI, ok_bind, ok_bin, ok_un, ok_k, ok_cmp, ok_cmpT, ok_chain, ok_bl, ok_nil, ok_cons, ok_call, ok_callOp, ok_isi, ok_test, ok_andT, ok_orT, ok_notT, ok_isBl, ok_andV, ok_orV, ok_notV, ok_if, okS_next, okS_seq, okS_ret, okS_expr, okS_if, okS_set, ok_run, ok_src, ok_range, ok_ok, ok_obv, ok_ob, sNext, ok_var0, ok_varS, List.map_cons, List.map_nil, List.length_cons, List.length_nil, List.replicate_succ, List.replicate_zero, List.cons_append, List.nil_append, List.getElem?_cons_zero, List.getElem?_cons_succ, List.set_cons_zero, List.set_cons_succ, Nat.reduceAdd, Nat.reduceSub, Nat.sub_self, Nat.zero_add, Nat.sub_zero]
          refine take_s p6 (by omega) (by decide) (by unfold Bd; decide) fun dk h7 g1 g2 p7 sx7 => ?_
          obtain ⟨k5, rfl⟩ := Int.eq_ofNat_of_zero_le g1
          refine ⟨_, range1 (by omega), (List.range k5).map fun j => .int (j : Nat), _, sx7, p7, by simp; unfold loopFuel; omega, fun _ _ => srcIs_vals _ _, ?_, ?_⟩
          · intro x hx h8 B8 hB8 p8 sx8
            rw [List.length_map, List.length_range] at hB8
            refine ⟨_, rfl, ?_⟩
            rw [ok_yes, if_pos rfl]
            simp only [wipeE]
            try simp only [if_true, if_false, Bool.false_eq_true, okS_nx, ok_trB, ok_trI, ok_bind, ok_bin, ok_un, ok_k, ok_cmp, ok_cmpT, ok_chain, ok_bl, ok_nil, ok_cons, ok_call, ok_callOp, ok_isi, ok_test, ok_andT, ok_orT, ok_notT, ok_isBl, ok_andV, ok_orV, ok_notV, ok_if, okS_next, okS_seq, okS_ret, okS_expr, okS_if, okS_set, ok_run, ok_src, ok_range, ok_ok, ok_obv, ok_ob, sNext, ok_var0, ok_varS, List.map_cons, List.map_nil, List.length_cons, List.length_nil, List.replicate_succ, List.replicate_zero, List.cons_append, List.nil_append, List.getElem?_cons_zero, List.getElem?_cons_succ, List.set_cons_zero, List.set_cons_succ, Nat.reduceAdd, Nat.reduceSub, Nat.sub_self, Nat.zero_add, Nat.sub_zero]
            refine take_s p8 (by omega) (by decide) (by unfold Bd; decide) fun d h9 g3 g4 p9 sx9 => ?_
            rw [ok_addI]
            exact ⟨⟨_, rfl, by omega, by omega⟩, p9, sx9⟩
          · intro n out h8 e1 e2 hG sx8 hn' hnp hl p8
            obtain ⟨l, rfl, gl⟩ := iL_of hG
            simp only [List.length_map, List.length_range] at e1 p8
            exact ⟨n, l, rfl, hl, ⟨by omega, gl⟩, sx8, p8.mono (by omega)⟩
        · rintro v h7 ⟨n7, ms, rfl, l7, ht, sx7, p7⟩
          refine ok_tupleOf (seq_lst l7) ?_
          try simp only [if_true, if_false, Bool.false_eq_true, okS_nx, ok_trB, ok_trI, ok_bind, ok_bin, ok_un, ok_k, ok_cmp, ok_cmpT, ok_chain, ok_bl, ok_nil, ok_cons, ok_call, ok_callOp, ok_isi, ok_test, ok_andT, ok_orT, ok_notT, ok_isBl, ok_andV, ok_orV, ok_notV, ok_if, okS_next, okS_seq, okS_ret, okS_expr, okS_if, okS_set, ok_run, ok_src, ok_range, ok_ok, ok_obv, ok_ob, sNext, ok_var0, ok_varS, List.map_cons, List.map_nil, List.length_cons, List.length_nil, List.replicate_succ, List.replicate_zero, List.cons_append, List.nil_append, List.getElem?_cons_zero, List.getElem?_cons_succ, List.set_cons_zero, List.set_cons_succ, Nat.reduceAdd, Nat.reduceSub, Nat.sub_self, Nat.zero_add, Nat.sub_zero]
          refine is_right_s p7 (by omega) hr ht fun h8 p8 sx8 => ?_
          try simp only [if_true, if_false, Bool.false_eq_true, okS_nx, ok_trB, ok_trI, ok_bind, ok_bin, ok_un, ok_k, ok_cmp, ok_cmpT, ok_chain, ok_bl, ok_nil, ok_cons, ok_call, ok_callOp, ok_isi, ok_test, ok_andT, ok_orT, ok_notT, ok_isBl, ok_andV, ok_orV, ok_notV, ok_if, okS_next, okS_seq, okS_ret, okS_expr, okS_if, okS_set, ok_run, ok_src, ok_range, ok_ok, ok_obv, ok_ob, sNext, ok_var0, ok_varS, List.map_cons, List.map_nil, List.length_cons, List.length_nil, List.replicate_succ, List.replicate_zero, List.cons_append, List.nil_append, List.getElem?_cons_zero, List.getElem?_cons_succ, List.set_cons_zero, List.set_cons_succ, Nat.reduceAdd, Nat.reduceSub, Nat.sub_self, Nat.zero_add, Nat.sub_zero]
          simp only [Bool.not_true, Bool.false_eq_true, if_false]
          try simp only [if_true, if_false, Bool.false_eq_true, okS_nx, ok_trB, ok_trI, ok_bind, ok_bin, ok_un, ok_k, ok_cmp, ok_cmpT, ok_chain, ok_bl, ok_nil, ok_cons, ok_call, ok_callOp, ok_isi, ok_test, ok_andT, ok_orT, ok_notT, ok_isBl, ok_andV, ok_orV, ok_notV, ok_if, okS_next, okS_seq, okS_ret, okS_expr, okS_if, okS_set, ok_run, ok_src, ok_range, ok_ok, ok_obv, ok_ob, sNext, ok_var0, ok_varS, List.map_cons, List.map_nil, List.length_cons, List.length_nil, List.replicate_succ, List.replicate_zero, List.cons_append, List.nil_append, List.getElem?_cons_zero, List.getElem?_cons_succ, List.set_cons_zero, List.set_cons_succ, Nat.reduceAdd, Nat.reduceSub, Nat.sub_self, Nat.zero_add, Nat.sub_zero]
          refine free_right_s p8 (by omega) hr fun h9 p9 sx9 => ?_
          try simp only [if_true, if_false, Bool.false_eq_true, okS_nx, ok_trB, ok_trI, ok_bind, ok_bin, ok_un, ok_k, ok_cmp, ok_cmpT, ok_chain, ok_bl, ok_nil, ok_cons, ok_call, ok_callOp, ok_isi, ok_test, ok_andT, ok_orT, ok_notT, ok_isBl, ok_andV, ok_orV, ok_notV, ok_if, okS_next, okS_seq, okS_ret, okS_expr, okS_if, okS_set, ok_run, ok_src, ok_range, ok_ok, ok_obv, ok_ob, sNext, ok_var0, ok_varS, List.map_cons, List.map_nil, List.length_cons, List.length_nil, List.replicate_succ, List.replicate_zero, List.cons_append, List.nil_append, List.getElem?_cons_zero, List.getElem?_cons_succ, List.set_cons_zero, List.set_cons_succ, Nat.reduceAdd, Nat.reduceSub, Nat.sub_self, Nat.zero_add, Nat.sub_zero]
          simp only [Bool.not_true, Bool.false_eq_true, if_false]
          try simp only [if_true, if_false, Bool.false_eq_true, okS_nx, ok_trB, ok_trI, ok_bind, ok_bin, ok_un, ok_k, ok_cmp, ok_cmpT, ok_chain, ok_bl, ok_nil, ok_cons, ok_call, ok_callOp, ok_isi, ok_test, ok_andT, ok_orT, ok_notT, ok_isBl, ok_andV, ok_orV, ok_notV, ok_if, okS_next, okS_seq, okS_ret, okS_expr, okS_if, okS_set, ok_run, ok_src, ok_range, ok_ok, ok_obv, ok_ob, sNext, ok_var0, ok_varS, List.map_cons, List.map_nil, List.length_cons, List.length_nil, List.replicate_succ, List.replicate_zero, List.cons_append, List.nil_append, List.getElem?_cons_zero, List.getElem?_cons_succ, List.set_cons_zero, List.set_cons_succ, Nat.reduceAdd, Nat.reduceSub, Nat.sub_self, Nat.zero_add, Nat.sub_zero]
          exact ⟨_, _, _, _, _, rfl, p9.mono (by omega), ((((sx3.trans (s4.x p)).trans (sx5.trans sx6)).trans sx7).trans sx8).trans sx9⟩
      · rintro env h3 ⟨c, d, e, f, g, rfl, p3, sx3⟩
        simp only [List.length_map, List.length_range] at p3
        try simp only [if_true, if_false, Bool.false_eq_true, okS_nx, ok_trB, ok_trI, ok_bind, ok_bin, ok_un, ok_k, ok_cmp, ok_cmpT, ok_chain, ok_bl, ok_nil, ok_cons, ok_call, ok_callOp, ok_isi, ok_test, ok_andT, ok_orT, ok_notT, ok_isBl, ok_andV, ok_orV, ok_notV, ok_if, okS_next, okS_seq, okS_ret, okS_expr, okS_if, okS_set, ok_run, ok_src, ok_range, ok_ok, ok_obv, ok_ob, sNext, ok_var0, ok_varS, List.map_cons, List.map_nil, List.length_cons, List.length_nil, List.replicate_succ, List.replicate_zero, List.cons_append, List.nil_append, List.getElem?_cons_zero, List.getElem?_cons_succ, List.set_cons_zero, List.set_cons_succ, Nat.reduceAdd, Nat.reduceSub, Nat.sub_self, Nat.zero_add, Nat.sub_zero]
        refine Ok.imp (Q := fun v h7 => ∃ (n : Nat) (row : List Int), v = .ref n ∧ h7[n]? = some (.lst (iL row)) ∧ IsRow row ∧ SubX p h3 h7 ∧ Pot p 5000 h7) ?_ ?_
        · refine ok_compPot (p := p) 1 (fun y => ∃ t, y = .int t ∧ (1 ≤ t ∧ t ≤ 99)) ?_
          try simp only [if_true, if_false, Bool.false_eq_true, okS_nx, ok_trB, ok_trI, ok_bind, ok_bin, ok_un, ok_k, ok_cmp, ok_cmpT, ok_chain, ok_bl, ok_nil, ok_cons, ok_call, ok_callOp, ok_isi, ok_test, ok_andT, ok_orT, ok_notT, ok_isBl, ok_andV, ok_orV, ok_notV, ok_if, okS_next, okS_seq, okS_ret, okS_expr, okS_if, okS_set, ok_run, ok_src, ok_range, ok_ok, ok_obv, ok_ob, sNext, ok_var0, ok_varS, List.map_cons, List.map_nil, List.length_cons, List.length_nil, List.replicate_succ, List.replicate_zero, List.cons_append, List.nil_append, List.getElem?_cons_zero, List.getElem?_cons_succ, List.set_cons_zero, List.set_cons_succ, Nat.reduceAdd, Nat.reduceSub, Nat.sub_self, Nat.zero_add, Nat.sub_zero]
          refine ⟨_, range1 (n := 30) (by decide), (List.range 30).map fun j => .int (j : Nat), _, SubX.refl p h3, p3, by decide, fun _ _ => srcIs_vals _ _, ?_, ?_⟩
          · intro x hx h8 B8 hB8 p8 sx8
            rw [List.length_map, List.length_range] at hB8
            refine ⟨_, rfl, ?_⟩
            rw [ok_yes, if_pos rfl]
            simp only [wipeE]
            try simp only [if_true, if_false, Bool.false_eq_true, okS_nx, ok_trB, ok_trI, ok_bind, ok_bin, ok_un, ok_k, ok_cmp, ok_cmpT, ok_chain, ok_bl, ok_nil, ok_cons, ok_call, ok_callOp, ok_isi, ok_test, ok_andT, ok_orT, ok_notT, ok_isBl, ok_andV, ok_orV, ok_notV, ok_if, okS_next, okS_seq, okS_ret, okS_expr, okS_if, okS_set, ok_run, ok_src, ok_range, ok_ok, ok_obv, ok_ob, sNext, ok_var0, ok_varS, List.map_cons, List.map_nil, List.length_cons, List.length_nil, List.replicate_succ, List.replicate_zero, List.cons_append, List.nil_append, List.getElem?_cons_zero, List.getElem?_cons_succ, List.set_cons_zero, List.set_cons_succ, Nat.reduceAdd, Nat.reduceSub, Nat.sub_self, Nat.zero_add, Nat.sub_zero]
            refine take_s p8 (by omega) (by decide) (by unfold Bd; decide) fun d h9 g3 g4 p9 sx9 => ?_
            rw [ok_addI]
            exact ⟨⟨_, rfl, by omega, by omega⟩, p9, sx9⟩
          · intro n out h8 e1 e2 hG sx8 hn' hnp hl p8
            obtain ⟨l, rfl, gl⟩ := iL_of hG
            simp only [List.length_map, List.length_range] at e1 p8
            exact ⟨n, l, rfl, hl, ⟨e1, gl⟩, sx8, p8.mono (by omega)⟩
        · rintro v h7 ⟨n7, row, rfl, l7, hr, sx7, p7⟩
          refine ok_tupleOf (seq_lst l7) ?_
          try simp only [if_true, if_false, Bool.false_eq_true, okS_nx, ok_trB, ok_trI, ok_bind, ok_bin, ok_un, ok_k, ok_cmp, ok_cmpT, ok_chain, ok_bl, ok_nil, ok_cons, ok_call, ok_callOp, ok_isi, ok_test, ok_andT, ok_orT, ok_notT, ok_isBl, ok_andV, ok_orV, ok_notV, ok_if, okS_next, okS_seq, okS_ret, okS_expr, okS_if, okS_set, ok_run, ok_src, ok_range, ok_ok, ok_obv, ok_ob, sNext, ok_var0, ok_varS, List.map_cons, List.map_nil, List.length_cons, List.length_nil, List.replicate_succ, List.replicate_zero, List.cons_append, List.nil_append, List.getElem?_cons_zero, List.getElem?_cons_succ, List.set_cons_zero, List.set_cons_succ, Nat.reduceAdd, Nat.reduceSub, Nat.sub_self, Nat.zero_add, Nat.sub_zero]
          refine Ok.imp (Q := fun v h8 => ∃ (n : Nat) (ms : List Int), v = .ref n ∧ h8[n]? = some (.lst (iL ms)) ∧ IsTracks ms ∧ SubX p h7 h8 ∧ Pot p 6000 h8) ?_ ?_
          · refine ok_compPot (p := p) 1 (fun y => ∃ t, y = .int t ∧ (1 ≤ t ∧ t ≤ 30)) ?_
            try simp only [if_true, if_false, Bool.false_eq_true, okS_nx, ok_trB, ok_trI, ok_bind, ok_bin, ok_un, ok_k, ok_cmp, ok_cmpT, ok_chain, ok_bl, ok_nil, ok_cons, ok_call, ok_callOp, ok_isi, ok_test, ok_andT, ok_orT, ok_notT, ok_isBl, ok_andV, ok_orV, ok_notV, ok_if, okS_next, okS_seq, okS_ret, okS_expr, okS_if, okS_set, ok_run, ok_src, ok_range, ok_ok, ok_obv, ok_ob, sNext, ok_var0, ok_varS, List.map_cons, List.map_nil, List.length_cons, List.length_nil, List.replicate_succ, List.replicate_zero, List.cons_append, List.nil_append, List.getElem?_cons_zero, List.getElem?_cons_succ, List.set_cons_zero, List.set_cons_succ, Nat.reduceAdd, Nat.reduceSub, Nat.sub_self, Nat.zero_add, Nat.sub_zero]
            refine ⟨_, range1 (n := 8) (by decide), (List.range 8).map fun j => .int (j : Nat), _, SubX.refl p h7, p7, by decide, fun _ _ => srcIs_vals _ _, ?_, ?_⟩
            · intro x hx h8 B8 hB8 p8 sx8
              rw [List.length_map, List.length_range] at hB8
              refine ⟨_, rfl, ?_⟩
              rw [ok_yes, if_pos rfl]
              simp only [wipeE]
              try simp only [if_true, if_false, Bool.false_eq_true, okS_nx, ok_trB, ok_trI, ok_bind, ok_bin, ok_un, ok_k, ok_cmp, ok_cmpT, ok_chain, ok_bl, ok_nil, ok_cons, ok_call, ok_callOp, ok_isi, ok_test, ok_andT, ok_orT, ok_notT, ok_isBl, ok_andV, ok_orV, ok_notV, ok_if, okS_next, okS_seq, okS_ret, okS_expr, okS_if, okS_set, ok_run, ok_src, ok_range, ok_ok, ok_obv, ok_ob, sNext, ok_var0, ok_varS, List.map_cons, List.map_nil, List.length_cons, List.length_nil, List.replicate_succ, List.replicate_zero, List.cons_append, List.nil_append, List.getElem?_cons_zero, List.getElem?_cons_succ, List.set_cons_zero, List.set_cons_succ, Nat.reduceAdd, Nat.reduceSub, Nat.sub_self, Nat.zero_add, Nat.sub_zero]
              refine ok_mklN ⟨by decide, fun n9 h9 s9 f9 l9 => ?_⟩
              try simp only [if_true, if_false, Bool.false_eq_true, okS_nx, ok_trB, ok_trI, ok_bind, ok_bin, ok_un, ok_k, ok_cmp, ok_cmpT, ok_chain, ok_bl, ok_nil, ok_cons, ok_call, ok_callOp, ok_isi, ok_test, ok_andT, ok_orT, ok_notT, ok_isBl, ok_andV, ok_orV, ok_notV, ok_if, okS_next, okS_seq, okS_ret, okS_expr, okS_if, okS_set, ok_run, ok_src, ok_range, ok_ok, ok_obv, ok_ob, sNext, ok_var0, ok_varS, List.map_cons, List.map_nil, List.length_cons, List.length_nil, List.replicate_succ, List.replicate_zero, List.cons_append, List.nil_append, List.getElem?_cons_zero, List.getElem?_cons_succ, List.set_cons_zero, List.set_cons_succ, Nat.reduceAdd, Nat.reduceSub, Nat.sub_self, Nat.zero_add, Nat.sub_zero]
              refine of_s (p8.sub s9) (by omega) l9 (pot_ne (b := h9) p8 f9) (by decide) (by decide) fun w h10 hw p10 sx10 => ?_
              refine ⟨?_, p10, (s9.x p).trans sx10⟩
              simp only [List.mem_cons, List.not_mem_nil, or_false] at hw
              rcases hw with rfl | rfl <;> exact ⟨_, rfl, by decide, by decide⟩
            · intro n out h8 e1 e2 hG sx8 hn' hnp hl p8
              obtain ⟨l, rfl, gl⟩ := iL_of hG
              simp only [List.length_map, List.length_range] at e1 p8
              exact ⟨n, l, rfl, hl, ⟨e1, gl⟩, sx8, p8.mono (by omega)⟩
          · rintro v h8 ⟨n8, ms, rfl, l8, ht, sx8, p8⟩
            refine ok_tupleOf (seq_lst l8) ?_
            try simp only [if_true, if_false, Bool.false_eq_true, okS_nx, ok_trB, ok_trI, ok_bind, ok_bin, ok_un, ok_k, ok_cmp, ok_cmpT, ok_chain, ok_bl, ok_nil, ok_cons, ok_call, ok_callOp, ok_isi, ok_test, ok_andT, ok_orT, ok_notT, ok_isBl, ok_andV, ok_orV, ok_notV, ok_if, okS_next, okS_seq, okS_ret, okS_expr, okS_if, okS_set, ok_run, ok_src, ok_range, ok_ok, ok_obv, ok_ob, sNext, ok_var0, ok_varS, List.map_cons, List.map_nil, List.length_cons, List.length_nil, List.replicate_succ, List.replicate_zero, List.cons_append, List.nil_append, List.getElem?_cons_zero, List.getElem?_cons_succ, List.set_cons_zero, List.set_cons_succ, Nat.reduceAdd, Nat.reduceSub, Nat.sub_self, Nat.zero_add, Nat.sub_zero]
            refine is_right_s p8 (by omega) hr ht fun h9 p9 sx9 => ?_
            try simp only [if_true, if_false, Bool.false_eq_true, okS_nx, ok_trB, ok_trI, ok_bind, ok_bin, ok_un, ok_k, ok_cmp, ok_cmpT, ok_chain, ok_bl, ok_nil, ok_cons, ok_call, ok_callOp, ok_isi, ok_test, ok_andT, ok_orT, ok_notT, ok_isBl, ok_andV, ok_orV, ok_notV, ok_if, okS_next, okS_seq, okS_ret, okS_expr, okS_if, okS_set, ok_run, ok_src, ok_range, ok_ok, ok_obv, ok_ob, sNext, ok_var0, ok_varS, List.map_cons, List.map_nil, List.length_cons, List.length_nil, List.replicate_succ, List.replicate_zero, List.cons_append, List.nil_append, List.getElem?_cons_zero, List.getElem?_cons_succ, List.set_cons_zero, List.set_cons_succ, Nat.reduceAdd, Nat.reduceSub, Nat.sub_self, Nat.zero_add, Nat.sub_zero]
            simp only [Bool.not_true, Bool.false_eq_true, if_false]
            try simp only [if_true, if_false, Bool.false_eq_true, okS_nx, ok_trB, ok_trI, ok_bind, ok_bin, ok_un, ok_k, ok_cmp, ok_cmpT, ok_chain, ok_bl, ok_nil, ok_cons, ok_call, ok_callOp, ok_isi, ok_test, ok_andT, ok_orT, ok_notT, ok_isBl, ok_andV, ok_orV, ok_notV, ok_if, okS_next, okS_seq, okS_ret, okS_expr, okS_if, okS_set, ok_run, ok_src, ok_range, ok_ok, ok_obv, ok_ob, sNext, ok_var0, ok_varS, List.map_cons, List.map_nil, List.length_cons, List.length_nil, List.replicate_succ, List.replicate_zero, List.cons_append, List.nil_append, List.getElem?_cons_zero, List.getElem?_cons_succ, List.set_cons_zero, List.set_cons_succ, Nat.reduceAdd, Nat.reduceSub, Nat.sub_self, Nat.zero_add, Nat.sub_zero]
            exact ⟨_, _, _, _, _, _, _, rfl, hgo _ (((sx3.trans sx7).trans sx8).trans sx9)⟩
      · exact ⟨_, _, _, _, _, rfl, p2.mono (by omega), SubX.refl p h2⟩
    · rintro env h ⟨a, b, c, d, e, f, g, rfl, s⟩
      try simp only [if_true, if_false, Bool.false_eq_true, okS_nx, ok_trB, ok_trI, ok_bind, ok_bin, ok_un, ok_k, ok_cmp, ok_cmpT, ok_chain, ok_bl, ok_nil, ok_cons, ok_call, ok_callOp, ok_isi, ok_test, ok_andT, ok_orT, ok_notT, ok_isBl, ok_andV, ok_orV, ok_notV, ok_if, okS_next, okS_seq, okS_ret, okS_expr, okS_if, okS_set, ok_run, ok_src, ok_range, ok_ok, ok_obv, ok_ob, sNext, ok_var0, ok_varS, List.map_cons, List.map_nil, List.length_cons, List.length_nil, List.replicate_succ, List.replicate_zero, List.cons_append, List.nil_append, List.getElem?_cons_zero, List.getElem?_cons_succ, List.set_cons_zero, List.set_cons_succ, Nat.reduceAdd, Nat.reduceSub, Nat.sub_self, Nat.zero_add, Nat.sub_zero]
    · exact ⟨_, _, _, _, _, _, _, rfl, .refl _⟩
  obtain ⟨v, h, e, rfl⟩ := key.get
  exact ⟨h, e⟩
end K49
open PySem PySem.W PySem.Calls PyProof.Rows in
theorem holds_of (hlaw : ∀ ns : List Int, ns.length ≤ 63 → (∀ i ∈ ns, Builtin.Int.intBits i ≤ 1048576) → ∃ mh', K49.f_law [.ref 0] [.scr (ns.map Ev.PV.int)] = .ok (.bl true) mh') : PySem.Challenge.rw_tracksenough_k49_whole_passes_and_codes.Holds := by
  w_on; o_law
  refine HandSHeadRun.head_any (r := OpenLaw.row PySem.Challenge.rw_tracksenough_k49_whole_passes_and_codes) (q := view (OpenLaw.row PySem.Challenge.rw_tracksenough_k49_whole_passes_and_codes).prog [50]) (H := K49.hk) (ob := K49.ob)
    (M := 4000) (loose := K49.names) (d := HandSHeadRun.topDef (OpenLaw.row PySem.Challenge.rw_tracksenough_k49_whole_passes_and_codes).prog 50) (kwd := []) K49.ob_eq
    (by kernel_rfl) (fun s => by kernel_rfl) K49.run (by kernel_rfl) (by kernel_rfl) (by kernel_rfl) (by rfl) (by first | assumption | decide +kernel)
    (by decide +kernel) ⟨rfl, rfl, rfl, rfl, rfl, by decide +kernel⟩ ?wit ?cal
  case wit => w_witness2
  case cal =>
    refine Ev.walk_g (l := PySem.Challenge.rw_tracksenough_k49_whole_passes_and_codes) (n := 63) (k := 9) (x := "script") (cf := K49.f_law) rfl (by decide) (by kernel_rfl) ⟨rfl, by decide, by decide⟩ ?fac hlaw
    intro w mg fa h Y G hmg0
    obtain ⟨K, KX, c⟩ := Y
    have hmg : mg ("law" : PySem.Str) = some (.ref fa) := by
      have e : (HandSHeadRun.topDef (OpenLaw.row PySem.Challenge.rw_tracksenough_k49_whole_passes_and_codes).prog 50).name = ("law" : PySem.Str) := by kernel_rfl
      rw [← e]
      exact hmg0
    obtain ⟨fd, hb, hF⟩ := K49.facts (P := (PySem.Challenge.rw_tracksenough_k49_whole_passes_and_codes).prog) (w := w) KX G hmg c rfl (by decide +kernel)
    exact ⟨K, fd, KX, fun p hp => ⟨(c.tabs p hp).1, (c.tabs p hp).2.1, codeHd_of_K KX (c.tabs p hp).2.2⟩, hb, hF⟩
theorem PySem.Challenge.cw_tracksenough_k49_whole_passes_and_codes_holds : PySem.Challenge.rw_tracksenough_k49_whole_passes_and_codes.Holds :=
  holds_of fun ns hn hi => K49.law_s hn
