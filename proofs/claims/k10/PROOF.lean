import PyProof.Rows.All
import HandS.ForMost
import HandS.ForExc
import HandS.Defaults
import HandS.IsInst
import HandS.TupAny
import HandS.TupMul
import HandS.Wide
import HandS.WideBits
import HandS.Style
import HandS.Zip
import HandS.Strs
import HandS.SortInts
import HandS.SetFor
import HandS.HeadHook1
import HandS.HeadHook2
import HandS.RaiseMore
import KE.DataMinMax
import HandS.SortKw
import HandS.Conv
import HandS.EndBits
import HandS.HeadEnd
import KE.KDictZip
import HandS.Head2
import PySem.Challenge.RW_tracksenough_k10_whole_fewest_tracks
set_option Elab.async false
set_option linter.all false
set_option maxRecDepth 100000
set_option maxHeartbeats 4000000
namespace Ev
open PySem PySem.Spec PyProof.Rows L2

/-! ### values, heap, results of the evaluator -/
inductive PV where
  | non | bl (b : Bool) | int (i : Int) | str (s : Str) | tup (vs : List PV) | ref (n : Nat)
  deriving Inhabited
inductive MO where
  | lst (vs : List PV)
  | scr (vs : List PV)
  | dict (kvs : List (Key × PV))
  | ins (c : Str) (fs : List (Str × PV))
  | exo (c : Str) (v : PV)
  | iset (l : List Int)
  deriving Inhabited
abbrev MH := List MO
abbrev PEnv := List (Option PV)
inductive R (α : Type) where
  | ok (a : α) (h : MH)
  | exc (c : Str) (v : PV) (h : MH)
  | bad
inductive RS where
  | nx (e : PEnv) (h : MH) | rt (v : PV) (h : MH) | bk (e : PEnv) (h : MH) | ct (e : PEnv) (h : MH)
  | exc (c : Str) (v : PV) (e : PEnv) (h : MH) | bad
def R.bind {α β : Type} (r : R α) (f : α → MH → R β) : R β := match r with
  | .ok a h => f a h
  | .exc c v h => .exc c v h
  | .bad => .bad
def R.bindS {α : Type} (r : R α) (e : PEnv) (f : α → MH → RS) : RS := match r with
  | .ok a h => f a h
  | .exc c v h => .exc c v e h
  | .bad => .bad
@[simp] theorem R.bind_ok {α β : Type} (a : α) (h : MH) (f : α → MH → R β) : (R.ok a h).bind f = f a h := rfl
@[simp] theorem R.bind_exc {α β : Type} (c : Str) (v : PV) (h : MH) (f : α → MH → R β) : (R.exc c v h : R α).bind f = .exc c v h := rfl
@[simp] theorem R.bind_bad {α β : Type} (f : α → MH → R β) : (R.bad : R α).bind f = .bad := rfl
@[simp] theorem R.bindS_ok {α : Type} (a : α) (h : MH) (e : PEnv) (f : α → MH → RS) : (R.ok a h).bindS e f = f a h := rfl
@[simp] theorem R.bindS_exc {α : Type} (c : Str) (v : PV) (h : MH) (e : PEnv) (f : α → MH → RS) : (R.exc c v h : R α).bindS e f = .exc c v e h := rfl
@[simp] theorem R.bindS_bad {α : Type} (e : PEnv) (f : α → MH → RS) : (R.bad : R α).bindS e f = .bad := rfl

/-- the written part, the world, the program -/
structure KW where
  k : PySem.W.Frag
  w : World
  p : Program
end Ev
abbrev L2.Cx.kw (X : L2.Cx) : Ev.KW := ⟨X.K, X.w, X.prog⟩
namespace Ev
open PySem PySem.Spec PyProof.Rows L2
/-! ### how they lie in the abstract heap -/
section
variable (K : KW)
mutual
inductive RV (ρ : List Addr) (H : Hp) : PV → V → Prop
  | non : RV ρ H .non .non
  | bl (b : Bool) : RV ρ H (.bl b) (.bl b)
  | int (i : Int) : RV ρ H (.int i) (.int i)
  | str (s : Str) : RV ρ H (.str s) (.str s)
  | tup {vs : List PV} {ws : List V} {a : Addr} : SqT K.k H a ws → RVs ρ H vs ws → RV ρ H (.tup vs) (.ref a)
  | ref {n : Nat} {a : Addr} : ρ[n]? = some a → RV ρ H (.ref n) (.ref a)
inductive RVs (ρ : List Addr) (H : Hp) : List PV → List V → Prop
  | nil : RVs ρ H [] []
  | cons {v : PV} {vs : List PV} {w : V} {ws : List V} : RV ρ H v w → RVs ρ H vs ws → RVs ρ H (v :: vs) (w :: ws)
end
/-- the tuples stay -/
def Grow (H H' : Hp) : Prop := ∀ a ws, SqT K.k H a ws → SqT K.k H' a ws
structure Le (ρ : List Addr) (H : Hp) (ρ' : List Addr) (H' : Hp) : Prop where
  pre : ∀ (n : Nat) a, ρ[n]? = some a → ρ'[n]? = some a
  grow : Grow K H H'
end
section
variable {K : KW} {ρ ρ' ρ1 ρ2 : List Addr} {H H' H1 H2 : Hp}
theorem Grow.refl : Grow K H H := fun _ _ h => h
theorem Grow.trans (a : Grow K H H1) (b : Grow K H1 H2) : Grow K H H2 := fun c o h => b c o (a c o h)
theorem Le.refl : Le K ρ H ρ H := ⟨fun _ _ h => h, .refl⟩
theorem Le.trans (a : Le K ρ H ρ1 H1) (b : Le K ρ1 H1 ρ2 H2) : Le K ρ H ρ2 H2 := ⟨fun n c h => b.pre n c (a.pre n c h), a.grow.trans b.grow⟩
mutual
theorem RV.mono (l : Le K ρ H ρ' H') : ∀ {v : PV} {w : V}, RV K ρ H v w → RV K ρ' H' v w
  | _, _, .non => .non
  | _, _, .bl b => .bl b
  | _, _, .int i => .int i
  | _, _, .str s => .str s
  | _, _, .tup h t => .tup (l.grow _ _ h) (RVs.mono l t)
  | _, _, .ref h => .ref (l.pre _ _ h)
theorem RVs.mono (l : Le K ρ H ρ' H') : ∀ {vs : List PV} {ws : List V}, RVs K ρ H vs ws → RVs K ρ' H' vs ws
  | _, _, .nil => .nil
  | _, _, .cons a b => .cons (RV.mono l a) (RVs.mono l b)
end
theorem RVs.length : ∀ {vs : List PV} {ws : List V}, RVs K ρ H vs ws → vs.length = ws.length
  | _, _, .nil => rfl
  | _, _, .cons _ t => congrArg (· + 1) (RVs.length t)
theorem RVs.append : ∀ {vs vs' : List PV} {ws ws' : List V}, RVs K ρ H vs ws → RVs K ρ H vs' ws' → RVs K ρ H (vs ++ vs') (ws ++ ws')
  | _, _, _, _, .nil, s => s
  | _, _, _, _, .cons r t, s => .cons r (RVs.append t s)
theorem RVs.get : ∀ {vs : List PV} {ws : List V} {i : Nat} {v : PV}, RVs K ρ H vs ws → vs[i]? = some v → ∃ w, ws[i]? = some w ∧ RV K ρ H v w
  | _, _, _, _, .nil, e => by simp at e
  | _, _, 0, _, .cons r _, e => by
    simp at e
    subst e
    exact ⟨_, rfl, r⟩
  | _, _, i + 1, v, .cons _ t, e => by
    obtain ⟨w, h1, h2⟩ := RVs.get (i := i) (v := v) t (by simpa using e)
    exact ⟨w, by simpa using h1, h2⟩
theorem RVs.getW : ∀ {vs : List PV} {ws : List V} {i : Nat} {w : V}, RVs K ρ H vs ws → ws[i]? = some w → ∃ v, vs[i]? = some v ∧ RV K ρ H v w
  | _, _, _, _, .nil, e => by simp at e
  | _, _, 0, _, .cons r _, e => by
    simp at e
    subst e
    exact ⟨_, rfl, r⟩
  | _, _, i + 1, w, .cons _ t, e => by
    obtain ⟨v, h1, h2⟩ := RVs.getW (i := i) (w := w) t (by simpa using e)
    exact ⟨v, by simpa using h1, h2⟩
theorem RVs.set : ∀ {vs : List PV} {ws : List V} {v : PV} {w : V} (i : Nat), RVs K ρ H vs ws → RV K ρ H v w → RVs K ρ H (vs.set i v) (ws.set i w)
  | _, _, _, _, _, .nil, _ => .nil
  | _, _, _, _, 0, .cons _ t, q => .cons q t
  | _, _, _, _, i + 1, .cons r t, q => .cons r (RVs.set i t q)
theorem RVs.take : ∀ {vs : List PV} {ws : List V} (n : Nat), RVs K ρ H vs ws → RVs K ρ H (vs.take n) (ws.take n)
  | _, _, 0, _ => .nil
  | _, _, _ + 1, .nil => .nil
  | _, _, n + 1, .cons r t => .cons r (RVs.take n t)
theorem RVs.drop : ∀ {vs : List PV} {ws : List V} (n : Nat), RVs K ρ H vs ws → RVs K ρ H (vs.drop n) (ws.drop n)
  | _, _, 0, r => r
  | _, _, _ + 1, .nil => .nil
  | _, _, n + 1, .cons _ t => RVs.drop n t
theorem RVs.reverse {vs : List PV} {ws : List V} (h : RVs K ρ H vs ws) : RVs K ρ H vs.reverse ws.reverse := by
  have : ∀ {vs : List PV} {ws : List V}, RVs K ρ H vs ws → RVs K ρ H vs.reverse ws.reverse := by
    intro vs
    induction vs with
    | nil => intro ws h; cases h; exact .nil
    | cons v vs ih =>
      intro ws h
      cases h with
      | cons r t =>
        rw [List.reverse_cons, List.reverse_cons]
        exact (ih t).append (.cons r .nil)
  exact this h
theorem RVs.eraseIdx : ∀ {vs : List PV} {ws : List V} (n : Nat), RVs K ρ H vs ws → RVs K ρ H (vs.eraseIdx n) (ws.eraseIdx n)
  | _, _, _, .nil => .nil
  | _, _, 0, .cons _ t => t
  | _, _, n + 1, .cons r t => .cons r (RVs.eraseIdx n t)
theorem RVs.ints : ∀ {ns : List Int} {ws : List V}, RVs K ρ H (ns.map PV.int) ws → ws = ns.map V.int
  | [], _, h => by cases h; rfl
  | n :: ns, _, h => by
    rw [List.map_cons] at h
    cases h with
    | cons r t =>
      cases r
      rw [RVs.ints t]
      rfl
theorem RVs.ofInts (ρ : List Addr) (H : Hp) : ∀ (ns : List Int), RVs K ρ H (ns.map PV.int) (ns.map V.int)
  | [] => .nil
  | n :: ns => .cons (.int n) (RVs.ofInts ρ H ns)
theorem RVs.bools : ∀ {ns : List Bool} {ws : List V}, RVs K ρ H (ns.map PV.bl) ws → ws = ns.map V.bl
  | [], _, h => by cases h; rfl
  | n :: ns, _, h => by
    rw [List.map_cons] at h
    cases h with
    | cons r t =>
      cases r
      rw [RVs.bools t]
      rfl
theorem RVs.strs : ∀ {ns : List Str} {ws : List V}, RVs K ρ H (ns.map PV.str) ws → ws = ns.map V.str
  | [], _, h => by cases h; rfl
  | n :: ns, _, h => by
    rw [List.map_cons] at h
    cases h with
    | cons r t =>
      cases r
      rw [RVs.strs t]
      rfl
theorem RVs.ofStrs (ρ : List Addr) (H : Hp) : ∀ (ns : List Str), RVs K ρ H (ns.map PV.str) (ns.map V.str)
  | [] => .nil
  | n :: ns => .cons (.str n) (RVs.ofStrs ρ H ns)
end

section
variable (K : KW)
/-- a dict's pairs: the keys are plain -/
inductive RKV (ρ : List Addr) (H : Hp) : List (Key × PV) → List (Key × V) → Prop
  | nil : RKV ρ H [] []
  | cons {k : Key} {v : PV} {w : V} {kvs : List (Key × PV)} {kws : List (Key × V)} : RV K ρ H v w → RKV ρ H kvs kws → RKV ρ H ((k, v) :: kvs) ((k, w) :: kws)
inductive RFs (ρ : List Addr) (H : Hp) : List (Str × PV) → List (Str × V) → Prop
  | nil : RFs ρ H [] []
  | cons {k : Str} {v : PV} {w : V} {kvs : List (Str × PV)} {kws : List (Str × V)} : RV K ρ H v w → RFs ρ H kvs kws → RFs ρ H ((k, v) :: kvs) ((k, w) :: kws)
/-- a list of the written part; the script: frozen, or such a list -/
def KSq (k : PySem.W.Frag) (a : Addr) (ws : List V) : Prop := ∃ (o : Obj) (its : Array Value) (n : Nat), k.lookup a = some o ∧ o.cls = .type "list" ∧ o.dict = none ∧ o.data = .seq its n ∧ its.size ≤ sizeLine ∧ Vals ws its.toList
def SqR (k : PySem.W.Frag) (H : Hp) (a : Addr) (ws : List V) : Prop := (∃ o, H a = some (.frz o (.lst ws))) ∨ KSq k a ws
/-- an object -/
def RO (ρ : List Addr) (H : Hp) (a : Addr) : MO → Prop
  | .lst vs => ∃ ws, H a = some (.lst ws) ∧ RVs K ρ H vs ws
  | .scr vs => ∃ ws, SqR K.k H a ws ∧ RVs K ρ H vs ws
  | .dict kvs => ∃ kws, H a = some (.dK kws) ∧ RKV K ρ H kvs kws
  | .ins c fs => ∃ dx ws, H a = some (.ins (He.ga K.k c) dx ws) ∧ H dx = some (.own a) ∧ RFs K ρ H fs ws
  | .exo _ _ => False
  | .iset l => ∃ c, H a = some (SetO K.w a (fun k => decide (k ∈ l)) c) ∧ c ≤ l.length
structure SimH (ρ : List Addr) (mh : MH) (H : Hp) : Prop where
  len : ρ.length = mh.length
  nd : ∀ (n m : Nat) a, n ≠ m → ρ[n]? = some a → ρ[m]? = some a → (∃ vs ws, mh[n]? = some (.scr vs) ∧ KSq K.k a ws ∧ RVs K ρ H vs ws) ∨ ∃ vs ws, mh[m]? = some (.scr vs) ∧ KSq K.k a ws ∧ RVs K ρ H vs ws
  ob : ∀ (n : Nat) o a, mh[n]? = some o → ρ[n]? = some a → RO K ρ H a o
structure SimE (ρ : List Addr) (H : Hp) (env : PEnv) (σ : L2.St) : Prop where
  len : env.length = σ.length
  at_ : ∀ (i : Nat) v, env[i]? = some (some v) → ∃ w, σ[i]? = some (some w) ∧ RV K ρ H v w
end
section
variable {K : KW} {ρ ρ' ρ1 ρ2 : List Addr} {H H' H1 H2 : Hp} {mh mh' : MH} {env : PEnv} {σ : L2.St}
theorem RKV.mono (l : Le K ρ H ρ' H') : ∀ {kvs : List (Key × PV)} {kws : List (Key × V)}, RKV K ρ H kvs kws → RKV K ρ' H' kvs kws
  | _, _, .nil => .nil
  | _, _, .cons a b => .cons (a.mono l) (RKV.mono l b)
theorem RFs.mono (l : Le K ρ H ρ' H') : ∀ {kvs : List (Str × PV)} {kws : List (Str × V)}, RFs K ρ H kvs kws → RFs K ρ' H' kvs kws
  | _, _, .nil => .nil
  | _, _, .cons a b => .cons (a.mono l) (RFs.mono l b)
theorem SimE.mono (s : SimE K ρ H env σ) (l : Le K ρ H ρ' H') : SimE K ρ' H' env σ := ⟨s.len, fun i v e => let ⟨w, h1, h2⟩ := s.at_ i v e; ⟨w, h1, h2.mono l⟩⟩
theorem SimE.set (s : SimE K ρ H env σ) {v : PV} {w : V} (r : RV K ρ H v w) (i : Nat) : SimE K ρ H (env.set i (some v)) (σ.set i (some w)) := by
  refine ⟨by rw [List.length_set, List.length_set]; exact s.len, fun j u e => ?_⟩
  by_cases hj : i = j
  · subst hj
    have hi : i < env.length := by
      have h1 := (List.getElem?_eq_some_iff.mp e).1
      rwa [List.length_set] at h1
    rw [List.getElem?_set_self hi] at e
    cases e
    exact ⟨w, List.getElem?_set_self (by rw [← s.len]; exact hi), r⟩
  · rw [List.getElem?_set_ne hj] at e
    obtain ⟨x, h1, h2⟩ := s.at_ j u e
    exact ⟨x, by rw [List.getElem?_set_ne hj]; exact h1, h2⟩
theorem SimH.addr (s : SimH K ρ mh H) {n : Nat} {o : MO} (e : mh[n]? = some o) : ∃ a, ρ[n]? = some a ∧ RO K ρ H a o := by
  have h1 := (List.getElem?_eq_some_iff.mp e).1
  have h2 : n < ρ.length := by rw [s.len]; exact h1
  exact ⟨ρ[n], List.getElem?_eq_getElem h2, s.ob n o _ e (List.getElem?_eq_getElem h2)⟩
theorem SimH.at (s : SimH K ρ mh H) {n : Nat} {a : Addr} {o : MO} (e : mh[n]? = some o) (r : RV K ρ H (.ref n) (.ref a)) : RO K ρ H a o := by
  cases r with
  | ref h => exact s.ob n o a e h
theorem SqR.sq {k : PySem.W.Frag} {a : Addr} {ws : List V} (h : SqR k H a ws) : SqL k H a ws := by
  rcases h with ⟨o, h⟩ | h
  · exact .inl (.inr ⟨o, h⟩)
  · exact .inr h
theorem RO.ex_ {a : Addr} {o : MO} (r : RO K ρ H a o) : (∃ x, H a = Option.some x) ∨ ∃ vs ws, o = .scr vs ∧ KSq K.k a ws ∧ RVs K ρ H vs ws := by
  cases o with
  | lst vs => obtain ⟨_, h, _⟩ := r; exact .inl ⟨_, h⟩
  | scr vs =>
    obtain ⟨ws, ⟨_, h⟩ | h, t⟩ := r
    · exact .inl ⟨_, h⟩
    · exact .inr ⟨vs, ws, rfl, h, t⟩
  | dict vs => obtain ⟨_, h, _⟩ := r; exact .inl ⟨_, h⟩
  | ins c fs => obtain ⟨_, _, h, _⟩ := r; exact .inl ⟨_, h⟩
  | exo c v => exact r.elim
  | iset l => obtain ⟨_, h, _⟩ := r; exact .inl ⟨_, h⟩
/-- a new address, all else stays -/
theorem Grow.of_new {p : Addr} {o : HO} (hp : H p = none) : Grow K H (upd H p o) := fun a ws h => by
  rcases h with (h | ⟨ob, h⟩) | h
  · exact .inl (.inl (by rw [upd_ne (ne_of_none h hp)]; exact h))
  · exact .inl (.inr ⟨ob, by rw [upd_ne (ne_of_none h hp)]; exact h⟩)
  · exact .inr h
theorem Grow.of_mut {x : Addr} {u o : HO} (hx : H x = some u) (h1 : ∀ ws, u ≠ .tup ws) (h2 : ∀ ob ws, u ≠ .frz ob (.tup ws)) : Grow K H (upd H x o) := fun a ws h => by
  rcases h with (h | ⟨ob, h⟩) | h
  · exact .inl (.inl (by rw [upd_ne (ne_of h hx (fun z => h1 ws z.symm))]; exact h))
  · exact .inl (.inr ⟨ob, by rw [upd_ne (ne_of h hx (fun z => h2 ob ws z.symm))]; exact h⟩)
  · exact .inr h
theorem RO.mono {a : Addr} {o : MO} (l : Le K ρ H ρ' H') (k : ∀ x, H a = some x → H' a = some x) (k2 : ∀ dx, H dx = some (.own a) → H' dx = some (.own a)) (r : RO K ρ H a o) : RO K ρ' H' a o := by
  cases o with
  | lst vs => obtain ⟨ws, h, q⟩ := r; exact ⟨ws, k _ h, q.mono l⟩
  | scr vs =>
    obtain ⟨ws, ⟨ob, h⟩ | h, q⟩ := r
    · exact ⟨ws, .inl ⟨ob, k _ h⟩, q.mono l⟩
    · exact ⟨ws, .inr h, q.mono l⟩
  | dict vs => obtain ⟨ws, h, q⟩ := r; exact ⟨ws, k _ h, q.mono l⟩
  | ins c fs => obtain ⟨dx, ws, h, h2, q⟩ := r; exact ⟨dx, ws, k _ h, k2 _ h2, q.mono l⟩
  | exo c v => exact r.elim
  | iset l => obtain ⟨n, h, hc⟩ := r; exact ⟨n, k _ h, hc⟩
/-- a tuple was laid -/
theorem SimH.tuple (s : SimH K ρ mh H) {p : Addr} {o : HO} (hp : H p = none) : SimH K ρ mh (upd H p o) ∧ Le K ρ H ρ (upd H p o) := by
  have l : Le K ρ H ρ (upd H p o) := ⟨fun _ _ h => h, .of_new hp⟩
  exact ⟨⟨s.len, fun n m a h e1 e2 => (s.nd n m a h e1 e2).imp (fun ⟨vs, ws, q1, q2, q3⟩ => ⟨vs, ws, q1, q2, q3.mono l⟩) (fun ⟨vs, ws, q1, q2, q3⟩ => ⟨vs, ws, q1, q2, q3.mono l⟩), fun n ob a e1 e2 => RO.mono (r := s.ob n ob a e1 e2) l (fun x hx => by rw [upd_ne (ne_of_none hx hp)]; exact hx) fun x hx => by rw [upd_ne (ne_of_none hx hp)]; exact hx⟩, l⟩
/-- an object was laid at p -/
theorem SimH.alloc (s : SimH K ρ mh H) {p : Addr} {o : HO} {mo : MO} (hp : H p = none) (new : RO K (ρ ++ [p]) (upd H p o) p mo) :
    SimH K (ρ ++ [p]) (mh ++ [mo]) (upd H p o) ∧ Le K ρ H (ρ ++ [p]) (upd H p o) ∧ RV K (ρ ++ [p]) (upd H p o) (.ref mh.length) (.ref p) := by
  have l : Le K ρ H (ρ ++ [p]) (upd H p o) := ⟨fun n a h => by
    have h1 := (List.getElem?_eq_some_iff.mp h).1
    rw [List.getElem?_append_left h1]; exact h, .of_new hp⟩
  refine ⟨⟨by rw [List.length_append, List.length_append, s.len]; rfl, ?_, fun n ob a e1 e2 => ?_⟩, l, .ref ?_⟩
  · have old : ∀ (n : Nat), n < mh.length → (ρ ++ [p])[n]? = some p → ∃ vs ws, (mh ++ [mo])[n]? = some (.scr vs) ∧ KSq K.k p ws ∧ RVs K (ρ ++ [p]) (upd H p o) vs ws := fun n hn e => by
      rw [List.getElem?_append_left (by rw [s.len]; exact hn)] at e
      rcases RO.ex_ (s.ob n _ p (List.getElem?_eq_getElem hn) e) with ⟨x, hx⟩ | ⟨vs, ws, e3, e4, e5⟩
      · rw [hp] at hx
        cases hx
      · exact ⟨vs, ws, by rw [List.getElem?_append_left hn, List.getElem?_eq_getElem hn, e3], e4, e5.mono l⟩
    intro n m a h e1 e2
    have hn : n < mh.length + 1 := by
      have := (List.getElem?_eq_some_iff.mp e1).1
      rw [List.length_append, s.len] at this
      exact this
    have hm : m < mh.length + 1 := by
      have := (List.getElem?_eq_some_iff.mp e2).1
      rw [List.length_append, s.len] at this
      exact this
    have last : ∀ (k : Nat), k = mh.length → (ρ ++ [p])[k]? = some p := fun k hk => by
      rw [List.getElem?_append_right (by rw [s.len, hk]; exact Nat.le_refl _), s.len, hk, Nat.sub_self]
      rfl
    by_cases h1 : n = mh.length
    · have : a = p := by
        rw [last n h1] at e1
        exact (Option.some.inj e1).symm
      subst this
      exact .inr (old m (by omega) e2)
    · by_cases h2 : m = mh.length
      · have : a = p := by
          rw [last m h2] at e2
          exact (Option.some.inj e2).symm
        subst this
        exact .inl (old n (by omega) e1)
      · rw [List.getElem?_append_left (by rw [s.len]; omega)] at e1 e2
        rcases s.nd n m a h e1 e2 with ⟨vs, ws, q1, q2, q3⟩ | ⟨vs, ws, q1, q2, q3⟩
        · exact .inl ⟨vs, ws, by rw [List.getElem?_append_left (by omega)]; exact q1, q2, q3.mono l⟩
        · exact .inr ⟨vs, ws, by rw [List.getElem?_append_left (by omega)]; exact q1, q2, q3.mono l⟩
  · by_cases hn : n < mh.length
    · rw [List.getElem?_append_left hn] at e1
      rw [List.getElem?_append_left (by rw [s.len]; exact hn)] at e2
      exact RO.mono (r := s.ob n ob a e1 e2) l (fun x hx => by rw [upd_ne (ne_of_none hx hp)]; exact hx) fun x hx => by rw [upd_ne (ne_of_none hx hp)]; exact hx
    · rw [List.getElem?_append_right (by omega)] at e1
      rw [List.getElem?_append_right (by rw [s.len]; omega), s.len] at e2
      cases hk : n - mh.length with
      | zero =>
        rw [hk] at e1 e2
        simp at e1 e2
        subst e1 e2
        exact new
      | succ k =>
        rw [hk] at e1
        simp at e1
  · rw [List.getElem?_append_right (by rw [s.len]; exact Nat.le_refl _), s.len, Nat.sub_self]
    rfl
/-- the object at x is changed -/
theorem SimH.write (s : SimH K ρ mh H) {x : Addr} {n : Nat} {o u : HO} {mo : MO} (hn : ρ[n]? = some x) (hx : H x = some u) (h1 : ∀ ws, u ≠ .tup ws) (h2 : ∀ ob ws, u ≠ .frz ob (.tup ws)) (h3 : ∀ y, u ≠ .own y)
    (new : RO K ρ (upd H x o) x mo) (hs : ∀ vs, mh[n]? ≠ some (.scr vs)) : SimH K ρ (mh.set n mo) (upd H x o) ∧ Le K ρ H ρ (upd H x o) := by
  have l : Le K ρ H ρ (upd H x o) := ⟨fun _ _ h => h, .of_mut hx h1 h2⟩
  refine ⟨⟨by rw [List.length_set]; exact s.len, fun i j a hij e1 e2 => ?_, fun m ob a e1 e2 => ?_⟩, l⟩
  · have keep : ∀ (i : Nat), (∃ vs ws, mh[i]? = some (.scr vs) ∧ KSq K.k a ws ∧ RVs K ρ H vs ws) → ∃ vs ws, (mh.set n mo)[i]? = some (.scr vs) ∧ KSq K.k a ws ∧ RVs K ρ (upd H x o) vs ws := fun i ⟨vs, ws, q1, q2, q3⟩ => by
      have hne : n ≠ i := fun z => by
        subst z
        exact hs vs q1
      exact ⟨vs, ws, by rw [List.getElem?_set_ne hne]; exact q1, q2, q3.mono l⟩
    exact (s.nd i j a hij e1 e2).imp (keep i) (keep j)
  · by_cases hm : n = m
    · subst hm
      have hl := (List.getElem?_eq_some_iff.mp e1).1
      rw [List.length_set] at hl
      rw [List.getElem?_set_self hl] at e1
      rw [hn] at e2
      cases e1
      cases e2
      exact new
    · rw [List.getElem?_set_ne hm] at e1
      by_cases hax : a = x
      · subst hax
        rcases s.nd n m a hm hn e2 with ⟨vs, ws, q1, q2, q3⟩ | ⟨vs, ws, q1, q2, q3⟩
        · exact absurd q1 (hs vs)
        · rw [e1] at q1
          cases q1
          exact ⟨ws, .inr q2, q3.mono l⟩
      · exact RO.mono (r := s.ob m ob a e1 e2) l (fun y hy => by rw [upd_ne hax]; exact hy) fun dx hd => by
          rw [upd_ne (ne_of hd hx (fun z => h3 _ z.symm))]; exact hd
end
end Ev
namespace Ev
open PySem PySem.Spec PyProof.Rows L2

/-! ### what is wanted behind a result -/
section
variable (K : KW) (ρ : List Addr) (H : Hp)
def Post (r : R PV) (Q : VK) (E : Value → Option Addr → Hp → Prop) : Prop := match r with
  | .ok v mh' => ∀ ρ' w H', Le K ρ H ρ' H' → SimH K ρ' mh' H' → RV K ρ' H' v w → Q w H'
  | .exc c v mh' => ∀ ρ' w d H', Le K ρ H ρ' H' → SimH K ρ' mh' H' → RV K ρ' H' v w → H' d = some (.xd [("value", w)]) → E (.ref (He.ga K.k c)) (some d) H'
  | .bad => False
def PostA (r : R (List PV)) (Q : List V → Hp → Prop) (E : Value → Option Addr → Hp → Prop) : Prop := match r with
  | .ok v mh' => ∀ ρ' w H', Le K ρ H ρ' H' → SimH K ρ' mh' H' → RVs K ρ' H' v w → Q w H'
  | .exc c v mh' => ∀ ρ' w d H', Le K ρ H ρ' H' → SimH K ρ' mh' H' → RV K ρ' H' v w → H' d = some (.xd [("value", w)]) → E (.ref (He.ga K.k c)) (some d) H'
  | .bad => False
def PostT (r : R Bool) (Q : Bool → Hp → Prop) (E : Value → Option Addr → Hp → Prop) : Prop := match r with
  | .ok v mh' => ∀ ρ' H', Le K ρ H ρ' H' → SimH K ρ' mh' H' → Q v H'
  | .exc c v mh' => ∀ ρ' w d H', Le K ρ H ρ' H' → SimH K ρ' mh' H' → RV K ρ' H' v w → H' d = some (.xd [("value", w)]) → E (.ref (He.ga K.k c)) (some d) H'
  | .bad => False
def PostS (r : RS) (D : Ends) (W : WX) : Prop := match r with
  | .nx env' mh' => ∀ ρ' σ' H', Le K ρ H ρ' H' → SimH K ρ' mh' H' → SimE K ρ' H' env' σ' → D.nx σ' H'
  | .rt v mh' => ∀ ρ' w H', Le K ρ H ρ' H' → SimH K ρ' mh' H' → RV K ρ' H' v w → D.rt w H'
  | .bk env' mh' => ∀ ρ' σ' H', Le K ρ H ρ' H' → SimH K ρ' mh' H' → SimE K ρ' H' env' σ' → D.bk σ' H'
  | .ct env' mh' => ∀ ρ' σ' H', Le K ρ H ρ' H' → SimH K ρ' mh' H' → SimE K ρ' H' env' σ' → D.ct σ' H'
  | .exc c v env' mh' => ∀ ρ' w d σ' H', Le K ρ H ρ' H' → SimH K ρ' mh' H' → SimE K ρ' H' env' σ' → RV K ρ' H' v w → H' d = some (.xd [("value", w)]) → W (.ref (He.ga K.k c)) (some d) σ' H'
  | .bad => False
end
section
variable {K : KW} {ρ ρ1 : List Addr} {H H1 : Hp}
theorem Post.le {r : R PV} {Q : VK} {E} (l : Le K ρ H ρ1 H1) (p : Post K ρ H r Q E) : Post K ρ1 H1 r Q E := by
  cases r with
  | ok v mh => exact fun ρ' w H' a b c => p ρ' w H' (l.trans a) b c
  | exc c v mh => exact fun ρ' w d H' a b c e => p ρ' w d H' (l.trans a) b c e
  | bad => exact p
theorem PostA.le {r : R (List PV)} {Q E} (l : Le K ρ H ρ1 H1) (p : PostA K ρ H r Q E) : PostA K ρ1 H1 r Q E := by
  cases r with
  | ok v mh => exact fun ρ' w H' a b c => p ρ' w H' (l.trans a) b c
  | exc c v mh => exact fun ρ' w d H' a b c e => p ρ' w d H' (l.trans a) b c e
  | bad => exact p
theorem PostT.le {r : R Bool} {Q E} (l : Le K ρ H ρ1 H1) (p : PostT K ρ H r Q E) : PostT K ρ1 H1 r Q E := by
  cases r with
  | ok v mh => exact fun ρ' H' a b => p ρ' H' (l.trans a) b
  | exc c v mh => exact fun ρ' w d H' a b c e => p ρ' w d H' (l.trans a) b c e
  | bad => exact p
theorem PostS.le {r : RS} {D W} (l : Le K ρ H ρ1 H1) (p : PostS K ρ H r D W) : PostS K ρ1 H1 r D W := by
  cases r with
  | nx v mh => exact fun ρ' w H' a b c => p ρ' w H' (l.trans a) b c
  | rt v mh => exact fun ρ' w H' a b c => p ρ' w H' (l.trans a) b c
  | bk v mh => exact fun ρ' w H' a b c => p ρ' w H' (l.trans a) b c
  | ct v mh => exact fun ρ' w H' a b c => p ρ' w H' (l.trans a) b c
  | exc c v e mh => exact fun ρ' w d σ' H' a b c e f => p ρ' w d σ' H' (l.trans a) b c e f
  | bad => exact p
theorem Post.mk {v : PV} {w : V} {mh : MH} {Q : VK} {E} (p : Post K ρ H (.ok v mh) Q E) (s : SimH K ρ mh H) (r : RV K ρ H v w) : Q w H := p ρ w H .refl s r
theorem Post.mk' {v : PV} {w : V} {mh : MH} {Q : VK} {E} (p : Post K ρ H (.ok v mh) Q E) (l : Le K ρ H ρ1 H1) (s : SimH K ρ1 mh H1) (r : RV K ρ1 H1 v w) : Q w H1 := p ρ1 w H1 l s r
end

/-! ### the readings -/
section
variable (K : KW) (W : WX)
def tE (m : PEnv → MH → R PV) : TE := fun σ H Q => ∃ ρ env mh, SimH K ρ mh H ∧ SimE K ρ H env σ ∧ Post K ρ H (m env mh) Q (fun c d H' => W c d σ H')
def tAr (m : PEnv → MH → R (List PV)) : TA := fun σ H Q => ∃ ρ env mh, SimH K ρ mh H ∧ SimE K ρ H env σ ∧ PostA K ρ H (m env mh) Q (fun c d H' => W c d σ H')
def tTe (m : PEnv → MH → R Bool) : TT := fun σ H Q => ∃ ρ env mh, SimH K ρ mh H ∧ SimE K ρ H env σ ∧ PostT K ρ H (m env mh) Q (fun c d H' => W c d σ H')
def tSt (m : PEnv → MH → RS) : TS := fun D σ H => ∃ ρ env mh, SimH K ρ mh H ∧ SimE K ρ H env σ ∧ PostS K ρ H (m env mh) D W
end
abbrev RE (X : Cx) (W : WX) (e : Expr) (m : PEnv → MH → R PV) : Prop := PE X e (tE X.kw W m)
abbrev RA (X : Cx) (W : WX) (es : List Expr) (m : PEnv → MH → R (List PV)) : Prop := PA X es (tAr X.kw W m)
abbrev RT (X : Cx) (W : WX) (e : Expr) (m : PEnv → MH → R Bool) : Prop := PT X e (tTe X.kw W m)
abbrev RW (X : Cx) (W : WX) (e : Expr) (m : PEnv → MH → R Bool) : Prop := PW X e (tTe X.kw W m)
abbrev RSt (X : Cx) (W : WX) (st : Stmt) (m : PEnv → MH → RS) : Prop := PS X st (tSt X.kw W m)
abbrev RSs (X : Cx) (W : WX) (st : List Stmt) (m : PEnv → MH → RS) : Prop := PSs X st (tSt X.kw W m)

end Ev
namespace L2
open PySem PySem.Spec PyProof.Rows
section
variable {X : Cx}
theorem PE.imp {e : Expr} {t t' : TE} (h : PE X e t) (k : ∀ σ H Q, t' σ H Q → t σ H Q) : PE X e t' := ⟨fun pins s σ H Q I q => h.run pins s σ H Q I (k σ H Q q)⟩
theorem PA.imp {e : List Expr} {t t' : TA} (h : PA X e t) (k : ∀ σ H Q, t' σ H Q → t σ H Q) : PA X e t' := ⟨fun pos pins s σ H Q I q => h.run pos pins s σ H Q I (k σ H Q q)⟩
theorem PT.imp {e : Expr} {t t' : TT} (h : PT X e t) (k : ∀ σ H Q, t' σ H Q → t σ H Q) : PT X e t' := ⟨fun pins s σ H Q I q => h.run pins s σ H Q I (k σ H Q q)⟩
theorem PW.imp {e : Expr} {t t' : TT} (h : PW X e t) (k : ∀ σ H Q, t' σ H Q → t σ H Q) : PW X e t' := ⟨fun wh pins s σ H Q I q => h.run wh pins s σ H Q I (k σ H Q q)⟩
theorem PS.imp {e : Stmt} {t t' : TS} (h : PS X e t) (k : ∀ D σ H, t' D σ H → t D σ H) : PS X e t' := ⟨fun pins s σ H D I q => h.run pins s σ H D I (k D σ H q)⟩
theorem PSs.imp {e : List Stmt} {t t' : TS} (h : PSs X e t) (k : ∀ D σ H, t' D σ H → t D σ H) : PSs X e t' := ⟨fun pins s σ H D I q => h.run pins s σ H D I (k D σ H q)⟩
end

end L2
namespace Ev
open PySem PySem.Spec PyProof.Rows L2

/-! ### chaining -/
section
variable {K : KW} {ρ : List Addr} {H : Hp} {W : WX} {σ : L2.St}
theorem Post.bind {r : R PV} {f : PV → MH → R PV} {Q Q1 : VK} {E} (h : Post K ρ H (r.bind f) Q E)
    (k : ∀ v mh1 ρ1 x H1, r = .ok v mh1 → Le K ρ H ρ1 H1 → SimH K ρ1 mh1 H1 → RV K ρ1 H1 v x → Post K ρ1 H1 (f v mh1) Q E → Q1 x H1) : Post K ρ H r Q1 E := by
  cases r with
  | ok v mh => exact fun ρ' w H' a b c => k v mh ρ' w H' rfl a b c (Post.le a h)
  | exc c v mh => exact h
  | bad => exact h
theorem Post.bindT {r : R PV} {f : PV → MH → R Bool} {Q : Bool → Hp → Prop} {Q1 : VK} {E} (h : PostT K ρ H (r.bind f) Q E)
    (k : ∀ v mh1 ρ1 x H1, r = .ok v mh1 → Le K ρ H ρ1 H1 → SimH K ρ1 mh1 H1 → RV K ρ1 H1 v x → PostT K ρ1 H1 (f v mh1) Q E → Q1 x H1) : Post K ρ H r Q1 E := by
  cases r with
  | ok v mh => exact fun ρ' w H' a b c => k v mh ρ' w H' rfl a b c (PostT.le a h)
  | exc c v mh => exact h
  | bad => exact h
theorem PostT.bind {r : R Bool} {f : Bool → MH → R PV} {Q : VK} {Q1 : Bool → Hp → Prop} {E} (h : Post K ρ H (r.bind f) Q E)
    (k : ∀ v mh1 ρ1 H1, r = .ok v mh1 → Le K ρ H ρ1 H1 → SimH K ρ1 mh1 H1 → Post K ρ1 H1 (f v mh1) Q E → Q1 v H1) : PostT K ρ H r Q1 E := by
  cases r with
  | ok v mh => exact fun ρ' H' a b => k v mh ρ' H' rfl a b (Post.le a h)
  | exc c v mh => exact h
  | bad => exact h
theorem PostT.bindT {r : R Bool} {f : Bool → MH → R Bool} {Q : Bool → Hp → Prop} {Q1 : Bool → Hp → Prop} {E} (h : PostT K ρ H (r.bind f) Q E)
    (k : ∀ v mh1 ρ1 H1, r = .ok v mh1 → Le K ρ H ρ1 H1 → SimH K ρ1 mh1 H1 → PostT K ρ1 H1 (f v mh1) Q E → Q1 v H1) : PostT K ρ H r Q1 E := by
  cases r with
  | ok v mh => exact fun ρ' H' a b => k v mh ρ' H' rfl a b (PostT.le a h)
  | exc c v mh => exact h
  | bad => exact h
theorem Post.bindA {r : R PV} {f : PV → MH → R (List PV)} {Q : List V → Hp → Prop} {Q1 : VK} {E} (h : PostA K ρ H (r.bind f) Q E)
    (k : ∀ v mh1 ρ1 x H1, r = .ok v mh1 → Le K ρ H ρ1 H1 → SimH K ρ1 mh1 H1 → RV K ρ1 H1 v x → PostA K ρ1 H1 (f v mh1) Q E → Q1 x H1) : Post K ρ H r Q1 E := by
  cases r with
  | ok v mh => exact fun ρ' w H' a b c => k v mh ρ' w H' rfl a b c (PostA.le a h)
  | exc c v mh => exact h
  | bad => exact h
theorem PostA.bindA {r : R (List PV)} {f : List PV → MH → R (List PV)} {Q : List V → Hp → Prop} {Q1 : List V → Hp → Prop} {E} (h : PostA K ρ H (r.bind f) Q E)
    (k : ∀ v mh1 ρ1 x H1, r = .ok v mh1 → Le K ρ H ρ1 H1 → SimH K ρ1 mh1 H1 → RVs K ρ1 H1 v x → PostA K ρ1 H1 (f v mh1) Q E → Q1 x H1) : PostA K ρ H r Q1 E := by
  cases r with
  | ok v mh => exact fun ρ' w H' a b c => k v mh ρ' w H' rfl a b c (PostA.le a h)
  | exc c v mh => exact h
  | bad => exact h
theorem PostA.bind {r : R (List PV)} {f : List PV → MH → R PV} {Q : VK} {Q1 : List V → Hp → Prop} {E} (h : Post K ρ H (r.bind f) Q E)
    (k : ∀ v mh1 ρ1 x H1, r = .ok v mh1 → Le K ρ H ρ1 H1 → SimH K ρ1 mh1 H1 → RVs K ρ1 H1 v x → Post K ρ1 H1 (f v mh1) Q E → Q1 x H1) : PostA K ρ H r Q1 E := by
  cases r with
  | ok v mh => exact fun ρ' w H' a b c => k v mh ρ' w H' rfl a b c (Post.le a h)
  | exc c v mh => exact h
  | bad => exact h
theorem Post.bindS {r : R PV} {env : PEnv} {f : PV → MH → RS} {D : Ends} {Q1 : VK} (se : SimE K ρ H env σ) (h : PostS K ρ H (r.bindS env f) D W)
    (k : ∀ v mh1 ρ1 x H1, r = .ok v mh1 → Le K ρ H ρ1 H1 → SimH K ρ1 mh1 H1 → RV K ρ1 H1 v x → PostS K ρ1 H1 (f v mh1) D W → Q1 x H1) : Post K ρ H r Q1 (fun c d H' => W c d σ H') := by
  cases r with
  | ok v mh => exact fun ρ' w H' a b c => k v mh ρ' w H' rfl a b c (PostS.le a h)
  | exc c v mh => exact fun ρ' w d H' a b c e => h ρ' w d σ H' a b (se.mono a) c e
  | bad => exact h
theorem PostA.bindS {r : R (List PV)} {env : PEnv} {f : List PV → MH → RS} {D : Ends} {Q1 : List V → Hp → Prop} (se : SimE K ρ H env σ) (h : PostS K ρ H (r.bindS env f) D W)
    (k : ∀ v mh1 ρ1 x H1, r = .ok v mh1 → Le K ρ H ρ1 H1 → SimH K ρ1 mh1 H1 → RVs K ρ1 H1 v x → PostS K ρ1 H1 (f v mh1) D W → Q1 x H1) : PostA K ρ H r Q1 (fun c d H' => W c d σ H') := by
  cases r with
  | ok v mh => exact fun ρ' w H' a b c => k v mh ρ' w H' rfl a b c (PostS.le a h)
  | exc c v mh => exact fun ρ' w d H' a b c e => h ρ' w d σ H' a b (se.mono a) c e
  | bad => exact h
theorem PostT.bindS {r : R Bool} {env : PEnv} {f : Bool → MH → RS} {D : Ends} {Q1 : Bool → Hp → Prop} (se : SimE K ρ H env σ) (h : PostS K ρ H (r.bindS env f) D W)
    (k : ∀ v mh1 ρ1 H1, r = .ok v mh1 → Le K ρ H ρ1 H1 → SimH K ρ1 mh1 H1 → PostS K ρ1 H1 (f v mh1) D W → Q1 v H1) : PostT K ρ H r Q1 (fun c d H' => W c d σ H') := by
  cases r with
  | ok v mh => exact fun ρ' H' a b => k v mh ρ' H' rfl a b (PostS.le a h)
  | exc c v mh => exact fun ρ' w d H' a b c e => h ρ' w d σ H' a b (se.mono a) c e
  | bad => exact h
end

/-! ### operators by values -/
abbrev Op1 := PV → MH → R PV
abbrev Op2 := PV → PV → MH → R PV
abbrev OpN := List PV → MH → R PV
/-- nothing is raised -/
abbrev NoE : Value → Option Addr → Hp → Prop := fun _ _ _ => False
def r2P (K : KW) (op : Op2) : R2 := fun x y H Q => ∃ ρ mh v w, SimH K ρ mh H ∧ RV K ρ H v x ∧ RV K ρ H w y ∧ Post K ρ H (op v w mh) Q NoE
def r1P (K : KW) (op : Op1) : V → Hp → VK → Prop := fun x H Q => ∃ ρ mh v, SimH K ρ mh H ∧ RV K ρ H v x ∧ Post K ρ H (op v mh) Q NoE
def rNP (K : KW) (op : OpN) : List V → Hp → VK → Prop := fun xs H Q => ∃ ρ mh vs, SimH K ρ mh H ∧ RVs K ρ H vs xs ∧ Post K ρ H (op vs mh) Q NoE
/-- an operator that never raises (in the evaluator) -/
def Quiet2 (op : Op2) : Prop := ∀ v w mh c u h, op v w mh ≠ .exc c u h
def Quiet1 (op : Op1) : Prop := ∀ v mh c u h, op v mh ≠ .exc c u h
def QuietN (op : OpN) : Prop := ∀ v mh c u h, op v mh ≠ .exc c u h
abbrev OpV (X : Cx) (f : Value → Value → Sem Value) (op : Op2) : Prop := OpR X f (r2P X.kw op)
abbrev UnV (X : Cx) (f : Value → Sem Value) (op : Op1) : Prop := UnR X f (r1P X.kw op)
abbrev CallV (X : Cx) (f : Value) (op : OpN) : Prop := CallR X f (rNP X.kw op)
theorem Post.noE {K : KW} {ρ : List Addr} {H : Hp} {r : R PV} {Q : VK} {E} (n : ∀ c u h, r ≠ .exc c u h) (p : Post K ρ H r Q E) : Post K ρ H r Q NoE := by
  cases r with
  | ok v mh => exact p
  | exc c v mh => exact absurd rfl (n c v mh)
  | bad => exact p

def mBin (op : Op2) (ma mb : PEnv → MH → R PV) : PEnv → MH → R PV := fun env mh => (ma env mh).bind fun v mh1 => (mb env mh1).bind fun w mh2 => op v w mh2
def mUn (op : Op1) (ma : PEnv → MH → R PV) : PEnv → MH → R PV := fun env mh => (ma env mh).bind fun v mh1 => op v mh1
section
variable {X : Cx} {W : WX} {a b c e : Expr} {pos : Pos} {ma mb mc : PEnv → MH → R PV}
theorem bin_imp {op : Op2} (n : Quiet2 op) {K : KW} {r : R2} (hr : ∀ x y H Q, r2P K op x y H Q → r x y H Q) (σ : L2.St) (H : Hp) (Q : VK) (h : tE K W (mBin op ma mb) σ H Q) : tOp r (tE K W ma) (tE K W mb) σ H Q := by
  obtain ⟨ρ, env, mh, sh, se, p⟩ := h
  refine ⟨ρ, env, mh, sh, se, p.bind fun v mh1 ρ1 x H1 _ l1 sh1 rv p1 => ?_⟩
  refine ⟨ρ1, env, mh1, sh1, se.mono l1, p1.bind fun w mh2 ρ2 y H2 _ l2 sh2 rw p2 => ?_⟩
  exact hr _ _ _ _ ⟨ρ2, mh2, v, w, sh2, rv.mono l2, rw, p2.noE (n v w mh2)⟩
theorem re_bin {op : Operator} {o : Op2} (ho : OpV X (binaryOp op) o) (n : Quiet2 o) (ha : RE X W a ma) (hb : RE X W b mb) : RE X W (.BinOp a op b pos) (mBin o ma mb) :=
  (pe_op ho ha hb).imp fun σ H Q h => bin_imp n (fun _ _ _ _ q => q) σ H Q h
theorem re_un {op : UnaryOp} {o : Op1} (ho : UnV X (unaryOp op) o) (n : Quiet1 o) (ha : RE X W a ma) : RE X W (.UnaryOp op a pos) (mUn o ma) :=
  (pe_un ho ha).imp fun σ H Q h => by
    obtain ⟨ρ, env, mh, sh, se, p⟩ := h
    refine ⟨ρ, env, mh, sh, se, p.bind fun v mh1 ρ1 x H1 _ l1 sh1 rv p1 => ?_⟩
    exact ⟨ρ1, mh1, v, sh1, rv, p1.noE (n v mh1)⟩
/-- a comparison: pure -/
abbrev Cmp2 := PV → PV → MH → Option Bool
def rCP (K : KW) (oc : Cmp2) : R2 := fun x y H Q => ∃ ρ mh v w b, SimH K ρ mh H ∧ RV K ρ H v x ∧ RV K ρ H w y ∧ oc v w mh = some b ∧ Q (.bl b) H
abbrev CmpV (X : Cx) (op : CmpOp) (oc : Cmp2) : Prop := OpR X (compareOp op) (rCP X.kw oc)
def ob (o : Option Bool) (mh : MH) : R Bool := match o with
  | some b => .ok b mh
  | none => .bad
def obv (o : Option Bool) (mh : MH) : R PV := match o with
  | some b => .ok (.bl b) mh
  | none => .bad
def mCmp (oc : Cmp2) (ma mb : PEnv → MH → R PV) : PEnv → MH → R PV := fun env mh => (ma env mh).bind fun v mh1 => (mb env mh1).bind fun w mh2 => obv (oc v w mh2) mh2
def mCmpT (oc : Cmp2) (ma mb : PEnv → MH → R PV) : PEnv → MH → R Bool := fun env mh => (ma env mh).bind fun v mh1 => (mb env mh1).bind fun w mh2 => ob (oc v w mh2) mh2
theorem re_cmp {op : CmpOp} {o : Cmp2} (ho : CmpV X op o) (ha : RE X W a ma) (hb : RE X W b mb) (h1 : behindInMarks op b = false) : RE X W (.Compare a [op] [b] pos) (mCmp o ma mb) :=
  (pe_cmpR ho ha hb h1).imp fun σ H Q h => by
    obtain ⟨ρ, env, mh, sh, se, p⟩ := h
    refine ⟨ρ, env, mh, sh, se, p.bind fun v mh1 ρ1 x H1 _ l1 sh1 rv p1 => ?_⟩
    refine ⟨ρ1, env, mh1, sh1, se.mono l1, p1.bind fun w mh2 ρ2 y H2 _ l2 sh2 rw p2 => ?_⟩
    cases e : o v w mh2 with
    | none => rw [e] at p2; exact p2.elim
    | some b => rw [e] at p2; exact ⟨ρ2, mh2, v, w, b, sh2, rv.mono l2, rw, e, p2.mk sh2 (.bl b)⟩
theorem rt_cmp {op : CmpOp} {o : Cmp2} (ho : CmpV X op o) (ha : RE X W a ma) (hb : RE X W b mb) (h1 : behindInMarks op b = false) : RT X W (.Compare a [op] [b] pos) (mCmpT o ma mb) :=
  (pt_cmpR ho ha hb h1).imp fun σ H Q h => by
    obtain ⟨ρ, env, mh, sh, se, p⟩ := h
    refine ⟨ρ, env, mh, sh, se, Post.bindT p fun v mh1 ρ1 x H1 _ l1 sh1 rv p1 => ?_⟩
    refine ⟨ρ1, env, mh1, sh1, se.mono l1, Post.bindT p1 fun w mh2 ρ2 y H2 _ l2 sh2 rw p2 => ?_⟩
    cases e : o v w mh2 with
    | none => rw [e] at p2; exact p2.elim
    | some b => rw [e] at p2; exact ⟨ρ2, mh2, v, w, b, sh2, rv.mono l2, rw, e, b, rfl, p2 ρ2 H2 .refl sh2⟩
/-- a op b op' c -/
def mChain (o o' : Cmp2) (ma mb mc : PEnv → MH → R PV) : PEnv → MH → R Bool := fun env mh => (ma env mh).bind fun v mh1 => (mb env mh1).bind fun w mh2 => (ob (o v w mh2) mh2).bind fun k mh3 =>
  if k = true then (mc env mh3).bind fun u mh4 => ob (o' w u mh4) mh4 else .ok false mh3
def mBl (m : PEnv → MH → R Bool) : PEnv → MH → R PV := fun env mh => (m env mh).bind fun b mh1 => .ok (.bl b) mh1
theorem chain_imp {K : KW} {o o' : Cmp2} (σ : L2.St) (H : Hp) (Q : Bool → Hp → Prop) {Qv : VK} (kq : ∀ k H', Q k H' → Qv (.bl k) H') (h : tTe K W (mChain o o' ma mb mc) σ H Q) : tChain (rCP K o) (rCP K o') (tE K W ma) (tE K W mb) (tE K W mc) σ H Qv := by
  obtain ⟨ρ, env, mh, sh, se, p⟩ := h
  refine ⟨ρ, env, mh, sh, se, Post.bindT p fun v mh1 ρ1 x H1 _ l1 sh1 rv p1 => ?_⟩
  refine ⟨ρ1, env, mh1, sh1, se.mono l1, Post.bindT p1 fun w mh2 ρ2 y H2 _ l2 sh2 rw p2 => ?_⟩
  cases e : o v w mh2 with
  | none => rw [e] at p2; exact p2.elim
  | some b =>
    rw [e] at p2
    refine ⟨ρ2, mh2, v, w, b, sh2, rv.mono l2, rw, e, b, rfl, ?_⟩
    cases b with
    | false =>
      rw [if_neg Bool.false_ne_true]
      exact kq false _ ((show PostT K ρ2 H2 (.ok false mh2) Q _ from p2) ρ2 H2 .refl sh2)
    | true =>
      rw [if_pos rfl]
      have p3 : PostT K ρ2 H2 ((mc env mh2).bind fun u mh4 => ob (o' w u mh4) mh4) Q _ := p2
      refine ⟨ρ2, env, mh2, sh2, (se.mono l1).mono l2, Post.bindT p3 fun u mh4 ρ4 z H4 _ l4 sh4 ru p4 => ?_⟩
      cases e2 : o' w u mh4 with
      | none => rw [e2] at p4; exact p4.elim
      | some d => rw [e2] at p4; exact ⟨ρ4, mh4, w, u, d, sh4, rw.mono l4, ru, e2, kq d _ (p4 ρ4 H4 .refl sh4)⟩
theorem rt_chain {op op' : CmpOp} {o o' : Cmp2} (ho : CmpV X op o) (ho' : CmpV X op' o') (ha : RE X W a ma) (hb : RE X W b mb) (hc : RE X W c mc) (hm : lastMarks [op, op'] [b, c] = false) : RT X W (.Compare a [op, op'] [b, c] pos) (mChain o o' ma mb mc) :=
  (pt_chain ho ho' ha hb hc hm).imp fun σ H Q h => chain_imp σ H Q (fun k H' q => ⟨k, rfl, q⟩) h
theorem mBl_imp {K : KW} {m : PEnv → MH → R Bool} {σ : L2.St} {H : Hp} {Q : VK} (h : tE K W (mBl m) σ H Q) : tTe K W m σ H (fun k H' => Q (.bl k) H') := by
  obtain ⟨ρ, env, mh, sh, se, p⟩ := h
  exact ⟨ρ, env, mh, sh, se, PostT.bind p fun v mh1 ρ1 H1 _ l1 sh1 p1 => p1.mk sh1 (.bl v)⟩
theorem re_chain {op op' : CmpOp} {o o' : Cmp2} (ho : CmpV X op o) (ho' : CmpV X op' o') (ha : RE X W a ma) (hb : RE X W b mb) (hc : RE X W c mc) (hm : lastMarks [op, op'] [b, c] = false) : RE X W (.Compare a [op, op'] [b, c] pos) (mBl (mChain o o' ma mb mc)) :=
  (pe_chain ho ho' ha hb hc hm).imp fun σ H Q h => by
    exact chain_imp σ H _ (fun k H' q => q) (mBl_imp h)

/-! ### names, constants -/
def mVar (i : Nat) : PEnv → MH → R PV := fun env mh => match env[i]? with
  | some (some v) => .ok v mh
  | _ => .bad
def mK (v : PV) : PEnv → MH → R PV := fun _ mh => .ok v mh
theorem re_var {i : Nat} {x : Str} (hN : X.N[i]? = some x) (hv : Vis X.env.scope x) (hd : (x == ("__debug__" : Str)) = false) (hcd : (x == ("__classdict__" : Str)) = false) : RE X W (.Name x pos) (mVar i) :=
  (pe_var hN hv hd hcd).imp fun σ H Q h => by
    obtain ⟨ρ, env, mh, sh, se, p⟩ := h
    unfold mVar at p
    cases e : env[i]? with
    | none => rw [e] at p; exact p.elim
    | some o =>
      cases o with
      | none => rw [e] at p; exact p.elim
      | some v =>
        rw [e] at p
        obtain ⟨w, h1, h2⟩ := se.at_ i v e
        exact ⟨w, h1, p.mk sh h2⟩
theorem k_imp {K : KW} {v : PV} {w : V} (hr : ∀ ρ H, RV K ρ H v w) (σ : L2.St) (H : Hp) (Q : VK) (h : tE K W (mK v) σ H Q) : tC w σ H Q := by
  obtain ⟨ρ, env, mh, sh, se, p⟩ := h
  exact p.mk sh (hr ρ H)
theorem re_int {i : Int} {j} : RE X W (.Constant (.int i) j pos) (mK (.int i)) := pe_int.imp (k_imp fun _ _ => .int i)
theorem re_bl {i : Bool} {j} : RE X W (.Constant (.bool i) j pos) (mK (.bl i)) := pe_bl.imp (k_imp fun _ _ => .bl i)
theorem re_non {j} : RE X W (.Constant .none j pos) (mK .non) := pe_non.imp (k_imp fun _ _ => .non)
theorem re_str {i : Str} {j} : RE X W (.Constant (.str i) j pos) (mK (.str i)) := pe_str.imp (k_imp fun _ _ => .str i)
theorem re_glob {x : Str} {v : PV} {w : V} {u : Value} (hg : Gl X x) (hm : X.mg x = some u) (r : RelV w u) (hr : ∀ ρ H, RV X.kw ρ H v w) (hd : (x == ("__debug__" : Str)) = false) : RE X W (.Name x pos) (mK v) :=
  (pe_glob hg hm r hd).imp (k_imp hr)

/-! ### argument lists -/
def mNil : PEnv → MH → R (List PV) := fun _ mh => .ok [] mh
def mCons (ma : PEnv → MH → R PV) (mr : PEnv → MH → R (List PV)) : PEnv → MH → R (List PV) := fun env mh => (ma env mh).bind fun v mh1 => (mr env mh1).bind fun vs mh2 => .ok (v :: vs) mh2
theorem ra_nil : RA X W [] mNil := pa_nil.imp fun σ H Q h => by
  obtain ⟨ρ, env, mh, sh, se, p⟩ := h
  exact p ρ [] H .refl sh .nil
theorem ra_cons {es : List Expr} {mr : PEnv → MH → R (List PV)} (ha : RE X W e ma) (hr : RA X W es mr) (hs : starEach (e :: es) X.env = (false, eval e X.env) :: starEach es X.env) : RA X W (e :: es) (mCons ma mr) :=
  (pa_cons ha hr hs).imp fun σ H Q h => by
    obtain ⟨ρ, env, mh, sh, se, p⟩ := h
    refine ⟨ρ, env, mh, sh, se, Post.bindA p fun v mh1 ρ1 x H1 _ l1 sh1 rv p1 => ?_⟩
    refine ⟨ρ1, env, mh1, sh1, se.mono l1, p1.bindA fun vs mh2 ρ2 xs H2 _ l2 sh2 rvs p2 => ?_⟩
    exact p2 ρ2 (x :: xs) H2 .refl sh2 (.cons (rv.mono l2) rvs)
def mTup (m : PEnv → MH → R (List PV)) : PEnv → MH → R PV := fun env mh => (m env mh).bind fun vs mh1 => if vs.length ≤ sizeLine then .ok (.tup vs) mh1 else .bad
def mLst (m : PEnv → MH → R (List PV)) : PEnv → MH → R PV := fun env mh => (m env mh).bind fun vs mh1 => if vs.length ≤ sizeLine then .ok (.ref mh1.length) (mh1 ++ [.lst vs]) else .bad
/-- a new tuple -/
theorem Post.newTup {K : KW} {ρ : List Addr} {H : Hp} {mh : MH} {vs : List PV} {ws : List V} {Q : VK} {E} (p : Post K ρ H (.ok (.tup vs) mh) Q E) (sh : SimH K ρ mh H) (r : RVs K ρ H vs ws) {q : Addr} (hq : H q = none) : Q (.ref q) (upd H q (.tup ws)) := by
  obtain ⟨s1, l1⟩ := sh.tuple (o := .tup ws) hq
  exact p ρ _ _ l1 s1 (.tup (.inl (.inl upd_same)) (r.mono l1))
/-- a new list -/
theorem Post.newLst {K : KW} {ρ : List Addr} {H : Hp} {mh : MH} {vs : List PV} {ws : List V} {Q : VK} {E} (p : Post K ρ H (.ok (.ref mh.length) (mh ++ [.lst vs])) Q E) (sh : SimH K ρ mh H) (r : RVs K ρ H vs ws) {q : Addr} (hq : H q = none) : Q (.ref q) (upd H q (.lst ws)) := by
  have l0 : Le K ρ H (ρ ++ [q]) (upd H q (.lst ws)) := ⟨fun n a h => by
    rw [List.getElem?_append_left (List.getElem?_eq_some_iff.mp h).1]; exact h, .of_new hq⟩
  obtain ⟨s1, l1, r1⟩ := sh.alloc (o := .lst ws) (mo := .lst vs) hq ⟨ws, upd_same, r.mono l0⟩
  exact p _ _ _ l1 s1 r1
theorem re_tup {es : List Expr} {x1} {m : PEnv → MH → R (List PV)} (h : RA X W es m) : RE X W (.Tuple es x1 pos) (mTup m) :=
  (pe_tup h).imp fun σ H Q h => by
    obtain ⟨ρ, env, mh, sh, se, p⟩ := h
    refine ⟨ρ, env, mh, sh, se, PostA.bind p fun vs mh1 ρ1 xs H1 _ l1 sh1 rvs p1 => ?_⟩
    by_cases hz : vs.length ≤ sizeLine
    · rw [if_pos hz] at p1
      exact ⟨by rw [← rvs.length]; exact hz, fun q hq => p1.newTup sh1 rvs hq⟩
    · rw [if_neg hz] at p1
      exact p1.elim
theorem re_lst {es : List Expr} {m : PEnv → MH → R (List PV)} (h : RA X W es m) : RE X W (.List es pos) (mLst m) :=
  (pe_lst h).imp fun σ H Q h => by
    obtain ⟨ρ, env, mh, sh, se, p⟩ := h
    refine ⟨ρ, env, mh, sh, se, PostA.bind p fun vs mh1 ρ1 xs H1 _ l1 sh1 rvs p1 => ?_⟩
    by_cases hz : vs.length ≤ sizeLine
    · rw [if_pos hz] at p1
      exact ⟨by rw [← rvs.length]; exact hz, fun q hq => p1.newLst sh1 rvs hq⟩
    · rw [if_neg hz] at p1
      exact p1.elim

/-! ### tests -/
/-- a value's truth; bools, ints, None, texts, tuples, lists -/
def truthy (v : PV) (mh : MH) : R Bool := match v with
  | .bl b => .ok b mh
  | .non => .ok false mh
  | .int i => .ok (i != 0) mh
  | _ => .bad
def mTest (m : PEnv → MH → R PV) : PEnv → MH → R Bool := fun env mh => (m env mh).bind truthy
theorem rt_val (ha : RE X W a ma) (he : ∀ whole, isTrue a X.env whole = (do let v ← whole; standAt a.pos; holding [v] (PySem.truthy v))) : RT X W a (mTest ma) :=
  (pt_truth ha he).imp fun σ H Q h => by
    obtain ⟨ρ, env, mh, sh, se, p⟩ := h
    refine ⟨ρ, env, mh, sh, se, Post.bindT p fun v mh1 ρ1 x H1 _ l1 sh1 rv p1 => ?_⟩
    cases rv with
    | bl b => exact ⟨b, rfl, p1 ρ1 H1 .refl sh1⟩
    | non => exact ⟨false, rfl, p1 ρ1 H1 .refl sh1⟩
    | int i => exact ⟨_, rfl, p1 ρ1 H1 .refl sh1⟩
    | str s => exact p1.elim
    | tup _ _ => exact p1.elim
    | ref _ => exact p1.elim
end
end Ev
namespace Ev
open PySem PySem.Spec PyProof.Rows L2
section
variable {X : Cx} {W : WX} {a b c e : Expr} {pos : Pos} {ma mb mc : PEnv → MH → R PV} {ta tb tc : PEnv → MH → R Bool} {rest : List Expr}
/-! ### and, or, not, if-else -/
def mAndT (ta tb : PEnv → MH → R Bool) : PEnv → MH → R Bool := fun env mh => (ta env mh).bind fun k mh1 => if k = true then tb env mh1 else .ok false mh1
def mOrT (ta tb : PEnv → MH → R Bool) : PEnv → MH → R Bool := fun env mh => (ta env mh).bind fun k mh1 => if k = true then .ok true mh1 else tb env mh1
def mNotT (ta : PEnv → MH → R Bool) : PEnv → MH → R Bool := fun env mh => (ta env mh).bind fun k mh1 => .ok (!k) mh1
def isBl (v : PV) (mh : MH) : R Bool := match v with
  | .bl b => .ok b mh
  | _ => .bad
def mAndV (ma mb : PEnv → MH → R PV) : PEnv → MH → R PV := fun env mh => (ma env mh).bind fun v mh1 => (isBl v mh1).bind fun k mh2 => if k = true then mb env mh2 else .ok (.bl false) mh2
def mOrV (ma mb : PEnv → MH → R PV) : PEnv → MH → R PV := fun env mh => (ma env mh).bind fun v mh1 => (isBl v mh1).bind fun k mh2 => if k = true then .ok (.bl true) mh2 else mb env mh2
def mNotV (ma : PEnv → MH → R PV) : PEnv → MH → R PV := fun env mh => (ma env mh).bind fun v mh1 => (isBl v mh1).bind fun k mh2 => .ok (.bl (!k)) mh2
def mIf (tc : PEnv → MH → R Bool) (ma mb : PEnv → MH → R PV) : PEnv → MH → R PV := fun env mh => (tc env mh).bind fun k mh1 => if k = true then ma env mh1 else mb env mh1
theorem rw_and1 (h : RT X W a ta) : RW X W (.BoolOp .And [a] pos) ta := pw_and1 h
theorem rw_or1 (h : RT X W a ta) : RW X W (.BoolOp .Or [a] pos) ta := pw_or1 h
theorem rw_and (ha : RT X W a ta) (hb : RW X W (.BoolOp .And (b :: rest) pos) tb) : RW X W (.BoolOp .And (a :: b :: rest) pos) (mAndT ta tb) :=
  (pw_and ha hb).imp fun σ H Q h => by
    obtain ⟨ρ, env, mh, sh, se, p⟩ := h
    refine ⟨ρ, env, mh, sh, se, PostT.bindT p fun k mh1 ρ1 H1 _ l1 sh1 p1 => ?_⟩
    cases k with
    | true => exact ⟨ρ1, env, mh1, sh1, se.mono l1, p1⟩
    | false => exact (show PostT X.kw ρ1 H1 (.ok false mh1) Q _ from p1) ρ1 H1 .refl sh1
theorem rw_or (ha : RT X W a ta) (hb : RW X W (.BoolOp .Or (b :: rest) pos) tb) : RW X W (.BoolOp .Or (a :: b :: rest) pos) (mOrT ta tb) :=
  (pw_or ha hb).imp fun σ H Q h => by
    obtain ⟨ρ, env, mh, sh, se, p⟩ := h
    refine ⟨ρ, env, mh, sh, se, PostT.bindT p fun k mh1 ρ1 H1 _ l1 sh1 p1 => ?_⟩
    cases k with
    | false => exact ⟨ρ1, env, mh1, sh1, se.mono l1, p1⟩
    | true => exact (show PostT X.kw ρ1 H1 (.ok true mh1) Q _ from p1) ρ1 H1 .refl sh1
theorem rt_not (ha : RT X W a ta) : RT X W (.UnaryOp .Not a pos) (mNotT ta) :=
  (pt_not ha).imp fun σ H Q h => by
    obtain ⟨ρ, env, mh, sh, se, p⟩ := h
    exact ⟨ρ, env, mh, sh, se, PostT.bindT p fun k mh1 ρ1 H1 _ l1 sh1 p1 => p1 ρ1 H1 .refl sh1⟩
theorem bl_bind {K : KW} {ρ : List Addr} {H : Hp} {v : PV} {x : V} {mh : MH} {f : Bool → MH → R PV} {Q : VK} {E} (rv : RV K ρ H v x) (p : Post K ρ H ((isBl v mh).bind f) Q E) : ∃ k, v = .bl k ∧ x = .bl k ∧ Post K ρ H (f k mh) Q E := by
  cases rv with
  | bl k => exact ⟨k, rfl, rfl, p⟩
  | non => exact p.elim
  | int _ => exact p.elim
  | str _ => exact p.elim
  | tup _ _ => exact p.elim
  | ref _ => exact p.elim
theorem re_one {op} (h : RE X W a ma) : RE X W (.BoolOp op [a] pos) ma := pe_one h
theorem re_and (ha : RE X W a ma) (hb : RE X W (.BoolOp .And (b :: rest) pos) mb) : RE X W (.BoolOp .And (a :: b :: rest) pos) (mAndV ma mb) :=
  (pe_and ha hb).imp fun σ H Q h => by
    obtain ⟨ρ, env, mh, sh, se, p⟩ := h
    refine ⟨ρ, env, mh, sh, se, Post.bind p fun v mh1 ρ1 x H1 _ l1 sh1 rv p1 => ?_⟩
    obtain ⟨k, rfl, rfl, p2⟩ := bl_bind rv p1
    refine ⟨k, rfl, ?_⟩
    cases k with
    | true => exact ⟨ρ1, env, mh1, sh1, se.mono l1, p2⟩
    | false => exact (show Post X.kw ρ1 H1 (.ok (.bl false) mh1) Q _ from p2).mk sh1 (.bl false)
theorem re_or (ha : RE X W a ma) (hb : RE X W (.BoolOp .Or (b :: rest) pos) mb) : RE X W (.BoolOp .Or (a :: b :: rest) pos) (mOrV ma mb) :=
  (pe_or ha hb).imp fun σ H Q h => by
    obtain ⟨ρ, env, mh, sh, se, p⟩ := h
    refine ⟨ρ, env, mh, sh, se, Post.bind p fun v mh1 ρ1 x H1 _ l1 sh1 rv p1 => ?_⟩
    obtain ⟨k, rfl, rfl, p2⟩ := bl_bind rv p1
    refine ⟨k, rfl, ?_⟩
    cases k with
    | false => exact ⟨ρ1, env, mh1, sh1, se.mono l1, p2⟩
    | true => exact (show Post X.kw ρ1 H1 (.ok (.bl true) mh1) Q _ from p2).mk sh1 (.bl true)
theorem re_not (ha : RE X W a ma) : RE X W (.UnaryOp .Not a pos) (mNotV ma) :=
  (pe_not ha).imp fun σ H Q h => by
    obtain ⟨ρ, env, mh, sh, se, p⟩ := h
    refine ⟨ρ, env, mh, sh, se, Post.bind p fun v mh1 ρ1 x H1 _ l1 sh1 rv p1 => ?_⟩
    obtain ⟨k, rfl, rfl, p2⟩ := bl_bind rv p1
    exact ⟨k, rfl, p2.mk sh1 (.bl _)⟩
theorem re_if (hc : RT X W c tc) (ha : RE X W a ma) (hb : RE X W b mb) : RE X W (.IfExp c a b pos) (mIf tc ma mb) :=
  (pe_ifExp hc ha hb).imp fun σ H Q h => by
    obtain ⟨ρ, env, mh, sh, se, p⟩ := h
    refine ⟨ρ, env, mh, sh, se, PostT.bind p fun k mh1 ρ1 H1 _ l1 sh1 p1 => ?_⟩
    cases k with
    | true => exact ⟨ρ1, env, mh1, sh1, se.mono l1, p1⟩
    | false => exact ⟨ρ1, env, mh1, sh1, se.mono l1, p1⟩
end

/-! ### statements -/
section
variable {X : Cx} {W : WX} {e : Expr} {pos : Pos} {ma : PEnv → MH → R PV} {tc : PEnv → MH → R Bool} {st : Stmt} {rest : List Stmt} {s1 s2 : PEnv → MH → RS}
def sNext : PEnv → MH → RS := fun env mh => .nx env mh
def RS.andThen (r : RS) (f : PEnv → MH → RS) : RS := match r with
  | .nx e h => f e h
  | r => r
def sSeq (s1 s2 : PEnv → MH → RS) : PEnv → MH → RS := fun env mh => (s1 env mh).andThen s2
def sBreak : PEnv → MH → RS := fun env mh => .bk env mh
def sCont : PEnv → MH → RS := fun env mh => .ct env mh
def sExpr (m : PEnv → MH → R PV) : PEnv → MH → RS := fun env mh => (m env mh).bindS env fun _ mh1 => .nx env mh1
def sRet (m : PEnv → MH → R PV) : PEnv → MH → RS := fun env mh => (m env mh).bindS env fun v mh1 => .rt v mh1
def sRetN : PEnv → MH → RS := fun _ mh => .rt .non mh
def sIf (tc : PEnv → MH → R Bool) (s1 s2 : PEnv → MH → RS) : PEnv → MH → RS := fun env mh => (tc env mh).bindS env fun k mh1 => if k = true then s1 env mh1 else s2 env mh1
def sNever : PEnv → MH → RS := fun _ _ => .bad
theorem rss_nil : RSs X W [] sNext := pss_nil.imp fun D σ H h => by
  obtain ⟨ρ, env, mh, sh, se, p⟩ := h
  exact p ρ σ H .refl sh se
theorem rss_cons (h1 : RSt X W st s1) (h2 : RSs X W rest s2) : RSs X W (st :: rest) (sSeq s1 s2) :=
  (pss_cons h1 h2).imp fun D σ H h => by
    obtain ⟨ρ, env, mh, sh, se, p⟩ := h
    refine ⟨ρ, env, mh, sh, se, ?_⟩
    unfold sSeq at p
    cases e : s1 env mh with
    | nx e2 h2 =>
      rw [e] at p
      exact fun ρ' σ' H' l sh' se' => ⟨ρ', e2, h2, sh', se', PostS.le l p⟩
    | rt v h => rw [e] at p; exact p
    | bk v h => rw [e] at p; exact p
    | ct v h => rw [e] at p; exact p
    | exc c v e h => rw [e] at p; exact p
    | bad => rw [e] at p; exact p
theorem rs_pass : RSt X W (.Pass pos) sNext := ps_pass.imp fun D σ H h => by
  obtain ⟨ρ, env, mh, sh, se, p⟩ := h
  exact p ρ σ H .refl sh se
theorem rs_break : RSt X W (.Break pos) sBreak := ps_break.imp fun D σ H h => by
  obtain ⟨ρ, env, mh, sh, se, p⟩ := h
  exact p ρ σ H .refl sh se
theorem rs_continue : RSt X W (.Continue pos) sCont := ps_continue.imp fun D σ H h => by
  obtain ⟨ρ, env, mh, sh, se, p⟩ := h
  exact p ρ σ H .refl sh se
theorem rs_never : RSt X W st sNever := ps_never.imp fun D σ H h => by
  obtain ⟨ρ, env, mh, sh, se, p⟩ := h
  exact p.elim
theorem rs_expr (h : RE X W e ma) (hs : swapsWith e none pos.line X.env = pure false) : RSt X W (.Expr e pos) (sExpr ma) :=
  (ps_expr h hs).imp fun D σ H h => by
    obtain ⟨ρ, env, mh, sh, se, p⟩ := h
    exact ⟨ρ, env, mh, sh, se, Post.bindS se p fun v mh1 ρ1 x H1 _ l1 sh1 rv p1 => p1 ρ1 σ H1 .refl sh1 (se.mono l1)⟩
theorem rs_ret (h : RE X W e ma) : RSt X W (.Return (some e) pos) (sRet ma) :=
  (ps_ret h).imp fun D σ H h => by
    obtain ⟨ρ, env, mh, sh, se, p⟩ := h
    exact ⟨ρ, env, mh, sh, se, Post.bindS se p fun v mh1 ρ1 x H1 _ l1 sh1 rv p1 => p1 ρ1 x H1 .refl sh1 rv⟩
theorem rs_retN : RSt X W (.Return none pos) sRetN := ps_retN.imp fun D σ H h => by
  obtain ⟨ρ, env, mh, sh, se, p⟩ := h
  exact p ρ .non H .refl sh .non
theorem rs_if {c : Expr} {sa sb : List Stmt} (hc : RT X W c tc) (ha : RSs X W sa s1) (hb : RSs X W sb s2) : RSt X W (.If c sa sb pos) (sIf tc s1 s2) :=
  (ps_if hc ha hb).imp fun D σ H h => by
    obtain ⟨ρ, env, mh, sh, se, p⟩ := h
    refine ⟨ρ, env, mh, sh, se, PostT.bindS se p fun k mh1 ρ1 H1 _ l1 sh1 p1 => ?_⟩
    cases k with
    | true => exact ⟨ρ1, env, mh1, sh1, se.mono l1, p1⟩
    | false => exact ⟨ρ1, env, mh1, sh1, se.mono l1, p1⟩

end
end Ev
namespace L2
open PySem PySem.Spec PyProof.Rows
section
variable {X : Cx} {e : Expr}
theorem PG.imp {t t' : TG} (h : PG X e t) (k : ∀ v σ H Q, t' v σ H Q → t v σ H Q) : PG X e t' := ⟨fun pins s σ H v u Q I r q => h.run pins s σ H v u Q I r (k v σ H Q q)⟩
theorem PGs.imp {es : List Expr} {t t' : TGs} (h : PGs X es t) (k : ∀ v σ H Q, t' v σ H Q → t v σ H Q) : PGs X es t' := ⟨fun pins s σ H v u Q I r q => h.run pins s σ H v u Q I r (k v σ H Q q)⟩
theorem PG.or {t t' : TG} (h : PG X e t) (h' : PG X e t') : PG X e (fun v σ H Q => t v σ H Q ∨ t' v σ H Q) := ⟨fun pins s σ H v u Q I r q => q.elim (h.run pins s σ H v u Q I r) (h'.run pins s σ H v u Q I r)⟩
theorem PI.imp {tg : Expr} {t t' : TI} (h : PI X tg e t) (k : ∀ σ H Q, t' σ H Q → t σ H Q) : PI X tg e t' := ⟨fun pins s σ H R I q => h.run pins s σ H R I (k σ H R q)⟩
theorem PI.or {tg : Expr} {t t' : TI} (h : PI X tg e t) (h' : PI X tg e t') : PI X tg e (fun σ H Q => t σ H Q ∨ t' σ H Q) := ⟨fun pins s σ H R I q => q.elim (h.run pins s σ H R I) (h'.run pins s σ H R I)⟩
theorem PE.or {t t' : TE} (h : PE X e t) (h' : PE X e t') : PE X e (fun σ H Q => t σ H Q ∨ t' σ H Q) := ⟨fun pins s σ H R I q => q.elim (h.run pins s σ H R I) (h'.run pins s σ H R I)⟩
end
end L2
namespace Ev
open PySem PySem.Spec PyProof.Rows L2
/-! ### targets -/
/-- a name, or a tuple of targets (tp of a chain of cons) -/
inductive Tg where
  | nm (i : Nat)
  | tp (r : Tg)
  | nil
  | cons (t : Tg) (r : Tg)
def seqOf (v : PV) (mh : MH) : Option (List PV) := match v with
  | .tup vs => some vs
  | .ref n => match mh[n]? with
    | some (.lst vs) => some vs
    | some (.scr vs) => some vs
    | _ => none
  | _ => none
def Tg.len : Tg → Nat
  | .cons _ r => r.len + 1
  | _ => 0
mutual
/-- v is stored at the target -/
def asg : Tg → PV → PEnv → MH → Option PEnv
  | .nm i, v, env, _ => some (env.set i (some v))
  | .tp r, v, env, mh => match seqOf v mh with
    | some vs => asgs r vs env mh
    | none => none
  | .nil, _, _, _ => none
  | .cons _ _, _, _, _ => none
def asgs : Tg → List PV → PEnv → MH → Option PEnv
  | .nm _, _, _, _ => none
  | .tp _, _, _, _ => none
  | .nil, vs, env, _ => match vs with
    | [] => some env
    | _ => none
  | .cons t r, vs, env, mh => match vs with
    | v :: vs => match asg t v env mh with
      | some env2 => asgs r vs env2 mh
      | none => none
    | [] => none
end
section
variable {K : KW} {ρ : List Addr} {H : Hp} {mh : MH} {v : PV} {x : V} {vs : List PV}
/-- what a sequence is, below -/
theorem seq_below (sh : SimH K ρ mh H) (rv : RV K ρ H v x) (e : seqOf v mh = some vs) : ∃ a ws, x = .ref a ∧ RVs K ρ H vs ws ∧ ((SqT K.k H a ws ∧ ∃ us, v = .tup us) ∨ (SqL K.k H a ws ∧ ∃ n, v = .ref n)) := by
  cases rv with
  | tup h r =>
    simp only [seqOf, Option.some.injEq] at e
    subst e
    exact ⟨_, _, rfl, r, .inl ⟨h, _, rfl⟩⟩
  | @ref n a h =>
    simp only [seqOf] at e
    cases q : mh[n]? with
    | none => rw [q] at e; cases e
    | some o =>
      have ro := sh.ob n o a q h
      cases o with
      | lst us =>
        rw [q] at e
        cases e
        obtain ⟨ws, h1, h2⟩ := ro
        exact ⟨a, ws, rfl, h2, .inr ⟨.inl (.inl h1), _, rfl⟩⟩
      | scr us =>
        rw [q] at e
        cases e
        obtain ⟨ws, h1, h2⟩ := ro
        exact ⟨a, ws, rfl, h2, .inr ⟨h1.sq, _, rfl⟩⟩
      | dict _ => rw [q] at e; cases e
      | ins _ _ => rw [q] at e; cases e
      | exo _ _ => rw [q] at e; cases e
      | iset _ => rw [q] at e; cases e
  | non => cases e
  | bl _ => cases e
  | int _ => cases e
  | str _ => cases e
end
def Tg.slots : Tg → List Nat
  | .nm i => [i]
  | .tp r => r.slots
  | .nil => []
  | .cons t r => t.slots ++ r.slots
/-- the other slots are as they were -/
structure Only (sl : List Nat) (σ σ' : L2.St) : Prop where
  len : σ'.length = σ.length
  at_ : ∀ i, i ∉ sl → σ'[i]? = σ[i]?
theorem Only.trans {s1 s2 : List Nat} {σ σ1 σ2 : L2.St} (a : Only s1 σ σ1) (b : Only s2 σ1 σ2) : Only (s1 ++ s2) σ σ2 := ⟨b.len.trans a.len, fun i hi => by
  rw [List.mem_append, not_or] at hi
  exact (b.at_ i hi.2).trans (a.at_ i hi.1)⟩
theorem Only.wipe {sl : List Nat} {σ σ' : L2.St} (h : Only sl σ σ') : ∀ (own : List Nat), (∀ i ∈ sl, i ∈ own) → L2.wipe σ' own = L2.wipe σ own := by
  have key : ∀ (own : List Nat) (i : Nat), (L2.wipe σ' own)[i]? = if i ∈ own then (if i < σ.length then some none else none) else σ'[i]? := by
    intro own
    induction own with
    | nil => intro i; simp [L2.wipe]
    | cons v own ih =>
      intro i
      simp only [L2.wipe]
      by_cases hv : v = i
      · subst hv
        rw [List.getElem?_set]
        simp [L2.wipe_length, h.len]
      · rw [List.getElem?_set_ne hv, ih i]
        have : (i ∈ v :: own) ↔ i ∈ own := by simp [Ne.symm hv]
        simp only [this]
  have key2 : ∀ (own : List Nat) (i : Nat), (L2.wipe σ own)[i]? = if i ∈ own then (if i < σ.length then some none else none) else σ[i]? := by
    intro own
    induction own with
    | nil => intro i; simp [L2.wipe]
    | cons v own ih =>
      intro i
      simp only [L2.wipe]
      by_cases hv : v = i
      · subst hv
        rw [List.getElem?_set]
        simp [L2.wipe_length]
      · rw [List.getElem?_set_ne hv, ih i]
        have : (i ∈ v :: own) ↔ i ∈ own := by simp [Ne.symm hv]
        simp only [this]
  intro own hs
  apply List.ext_getElem?
  intro i
  rw [key, key2]
  by_cases hi : i ∈ own
  · rw [if_pos hi, if_pos hi]
  · rw [if_neg hi, if_neg hi]
    exact h.at_ i fun z => hi (hs i z)
def tG (K : KW) (t : Tg) : TG := fun x σ H Q => ∃ ρ env mh v env', SimH K ρ mh H ∧ SimE K ρ H env σ ∧ RV K ρ H v x ∧ asg t v env mh = some env' ∧ ∀ σ', SimE K ρ H env' σ' → Only t.slots σ σ' → Q σ' H
def tGs (K : KW) (t : Tg) : TGs := fun xs σ H Q => ∃ ρ env mh vs env', SimH K ρ mh H ∧ SimE K ρ H env σ ∧ RVs K ρ H vs xs ∧ asgs t vs env mh = some env' ∧ ∀ σ', SimE K ρ H env' σ' → Only t.slots σ σ' → Q σ' H
section
variable {X : Cx} {W : WX} {pos : Pos} {e : Expr} {es : List Expr}
theorem rg_name {i : Nat} {x : Str} (hN : X.N.Nodup) (hi : X.N[i]? = some x) (hx : Loc X.env.scope x) (hf : X.fn x = true ∨ X.env.scope.names.lookup x = some .local) : PG X (.Name x pos) (tG X.kw (.nm i)) :=
  (pg_name hN hi hx hf).imp fun x σ H Q h => by
    obtain ⟨ρ, env, mh, v, env', sh, se, rv, e, k⟩ := h
    simp only [asg, Option.some.injEq] at e
    subst e
    exact k _ (se.set rv i) ⟨List.length_set, fun j hj => List.getElem?_set_ne (fun z => hj (by simp [Tg.slots, z]))⟩
theorem rgs_nil : PGs X [] (tGs X.kw .nil) := pgs_nil.imp fun xs σ H Q h => by
  obtain ⟨ρ, env, mh, vs, env', sh, se, rv, e, k⟩ := h
  cases vs with
  | nil =>
    simp only [asgs, Option.some.injEq] at e
    subst e
    cases rv
    exact ⟨rfl, k _ se ⟨rfl, fun _ _ => rfl⟩⟩
  | cons v vs => simp [asgs] at e
theorem rgs_cons {t r : Tg} (h1 : PG X e (tG X.kw t)) (h2 : PGs X es (tGs X.kw r)) (hs : (assignEach (e :: es) X.env).map (·.2) = assign e X.env :: (assignEach es X.env).map (·.2)) : PGs X (e :: es) (tGs X.kw (.cons t r)) :=
  (pgs_cons h1 h2 hs).imp fun xs σ H Q h => by
    obtain ⟨ρ, env, mh, vs, env', sh, se, rv, q, k⟩ := h
    cases rv with
    | nil => simp [asgs] at q
    | cons r1 r2 =>
      simp only [asgs] at q
      split at q
      · rename_i env2 e2
        exact ⟨_, _, rfl, ρ, env, mh, _, _, sh, se, r1, e2, fun σ' se' on1 => ⟨ρ, env2, mh, _, env', sh, se', r2, q, fun σ2 se2 on2 => k σ2 se2 (on1.trans on2)⟩⟩
      · cases q
theorem rg_tup {k : Nat} {r : Tg} {n : Nat} (hc : X.calm = true) (h : PGs X es (tGs X.kw r)) (hn : (assignEach es X.env).length = n) (hst : (assignEach es X.env).findIdx? (·.1) = none) (hl : ∀ vs env mh env', asgs r vs env mh = some env' → vs.length = n) :
    PG X (.Tuple es k pos) (tG X.kw (.tp r)) :=
  ((pg_tup hc h hn hst).or (pg_lst hc h hn hst)).imp fun x σ H Q h => by
    obtain ⟨ρ, env, mh, v, env', sh, se, rv, e, kk⟩ := h
    simp only [asg] at e
    split at e
    · rename_i vs e2
      obtain ⟨a, ws, rfl, rvs, q⟩ := seq_below sh rv e2
      have hlen : ws.length = n := by rw [← rvs.length]; exact hl _ _ _ _ e
      rcases q with ⟨q, _⟩ | ⟨q, _⟩
      · exact .inl ⟨a, ws, rfl, q, hlen, ρ, env, mh, vs, env', sh, se, rvs, e, kk⟩
      · exact .inr ⟨a, ws, rfl, q, hlen, ρ, env, mh, vs, env', sh, se, rvs, e, kk⟩
    · cases e
theorem asgs_len : ∀ (r : Tg) (vs : List PV) (env : PEnv) (mh : MH) (env' : PEnv), asgs r vs env mh = some env' → vs.length = r.len
  | .nm _, _, _, _, _, h => by simp [asgs] at h
  | .tp _, _, _, _, _, h => by simp [asgs] at h
  | .nil, vs, _, _, _, h => by
    cases vs with
    | nil => rfl
    | cons _ _ => simp [asgs] at h
  | .cons t r, vs, env, mh, env', h => by
    cases vs with
    | nil => simp [asgs] at h
    | cons v vs =>
      simp only [asgs] at h
      split at h
      · simp only [List.length_cons, Tg.len]
        rw [asgs_len r vs _ mh env' h]
      · cases h
/-! ### assignments -/
def sAsg (m : PEnv → MH → R PV) (t : Tg) : PEnv → MH → RS := fun env mh => (m env mh).bindS env fun v mh1 => match asg t v env mh1 with
  | some env' => .nx env' mh1
  | none => .bad
theorem asg_imp {K : KW} {ma : PEnv → MH → R PV} {t : Tg} {D : Ends} {σ : L2.St} {H : Hp} (h : tSt K W (sAsg ma t) D σ H) : tAsg (tE K W ma) (tG K t) D σ H := by
  obtain ⟨ρ, env, mh, sh, se, p⟩ := h
  refine ⟨ρ, env, mh, sh, se, Post.bindS se p fun v mh1 ρ1 x H1 _ l1 sh1 rv p1 => ?_⟩
  split at p1
  · rename_i env' e
    exact ⟨ρ1, env, mh1, v, env', sh1, se.mono l1, rv, e, fun σ' se' _ => p1 ρ1 σ' H1 .refl sh1 se'⟩
  · exact p1.elim
theorem rs_asg {tg : Expr} {ma : PEnv → MH → R PV} {t : Tg} (he : RE X W e ma) (hg : PG X tg (tG X.kw t)) (hs : swapsWithSole [tg] e pos.line X.env = pure false) (hw : swappedStores [tg] e X.env = pure none)
    (h1 : (assignEach [tg] X.env).map (·.2) = [assign tg X.env]) : RSt X W (.Assign [tg] e pos) (sAsg ma t) :=
  (ps_asg he hg hs hw h1).imp fun D σ H h => asg_imp h
theorem rs_set {i : Nat} {x : Str} {ma : PEnv → MH → R PV} {p : Pos} (hN : X.N.Nodup) (hi : X.N[i]? = some x) (hx : Loc X.env.scope x) (he : RE X W e ma) (hs : swapsWith e (some (.Name x p)) pos.line X.env = pure false) (hf : X.fn x = true ∨ X.env.scope.names.lookup x = some .local) :
    RSt X W (.Assign [.Name x p] e pos) (sAsg ma (.nm i)) :=
  (ps_set hN hi hx he hs hf).imp fun D σ H h => by
    obtain ⟨ρ, env, mh, sh, se, p⟩ := h
    refine ⟨ρ, env, mh, sh, se, Post.bindS se p fun v mh1 ρ1 x H1 _ l1 sh1 rv p1 => ?_⟩
    exact p1 ρ1 _ H1 .refl sh1 ((se.mono l1).set rv i)
/-- a, b = x, y (names): the pair is not made -/
def sPar (i j : Nat) (m : PEnv → MH → R (List PV)) : PEnv → MH → RS := fun env mh => (m env mh).bindS env fun vs mh1 => match vs with
  | [v, w] => .nx ((env.set i (some v)).set j (some w)) mh1
  | _ => .bad
def sPar3 (i j l : Nat) (m : PEnv → MH → R (List PV)) : PEnv → MH → RS := fun env mh => (m env mh).bindS env fun vs mh1 => match vs with
  | [v, w, u] => .nx (((env.set i (some v)).set j (some w)).set l (some u)) mh1
  | _ => .bad
theorem rs_par {i j : Nat} {x y : Str} {a b : Expr} {m : PEnv → MH → R (List PV)} {px py pt : Pos} {kt k2 pt2} (hc : X.calm = true) (hN : X.N.Nodup) (hi : X.N[i]? = some x) (hj : X.N[j]? = some y) (hij : i ≠ j)
    (hx : X.env.scope.names.lookup x = some .local) (hy : X.env.scope.names.lookup y = some .local) (ha : RA X W [a, b] m)
    (hw : swappedStores [.Tuple [.Name x px, .Name y py] kt pt] (.Tuple [a, b] k2 pt2) X.env = pure (some [x, y]))
    (hs : swapsWithSole [.Tuple [.Name x px, .Name y py] kt pt] (.Tuple [a, b] k2 pt2) pos.line X.env = pure false) :
    RSt X W (.Assign [.Tuple [.Name x px, .Name y py] kt pt] (.Tuple [a, b] k2 pt2) pos) (sPar i j m) :=
  (ps_par hc hN hi hj hij hx hy ha hw hs).imp fun D σ H h => by
    obtain ⟨ρ, env, mh, sh, se, p⟩ := h
    refine ⟨ρ, env, mh, sh, se, PostA.bindS se p fun vs mh1 ρ1 xs H1 _ l1 sh1 rv p1 => ?_⟩
    split at p1
    · cases rv with
      | cons r1 r2 =>
        cases r2 with
        | cons r2 r3 =>
          cases r3
          exact ⟨_, _, rfl, p1 ρ1 _ H1 .refl sh1 (((se.mono l1).set r1 i).set r2 j)⟩
    · exact p1.elim
theorem rs_par3 {i j l : Nat} {x y z : Str} {a b c : Expr} {m : PEnv → MH → R (List PV)} {px py pz pt : Pos} {kt k2 pt2} (hc : X.calm = true) (hN : X.N.Nodup) (hi : X.N[i]? = some x) (hj : X.N[j]? = some y) (hl : X.N[l]? = some z) (hij : i ≠ j) (hil : i ≠ l) (hjl : j ≠ l)
    (hx : X.env.scope.names.lookup x = some .local) (hy : X.env.scope.names.lookup y = some .local) (hz : X.env.scope.names.lookup z = some .local) (ha : RA X W [a, b, c] m)
    (hw : swappedStores [.Tuple [.Name x px, .Name y py, .Name z pz] kt pt] (.Tuple [a, b, c] k2 pt2) X.env = pure (some [x, y, z]))
    (hs : swapsWithSole [.Tuple [.Name x px, .Name y py, .Name z pz] kt pt] (.Tuple [a, b, c] k2 pt2) pos.line X.env = pure false) :
    RSt X W (.Assign [.Tuple [.Name x px, .Name y py, .Name z pz] kt pt] (.Tuple [a, b, c] k2 pt2) pos) (sPar3 i j l m) :=
  (ps_par3 hc hN hi hj hl hij hil hjl hx hy hz ha hw hs).imp fun D σ H h => by
    obtain ⟨ρ, env, mh, sh, se, p⟩ := h
    refine ⟨ρ, env, mh, sh, se, PostA.bindS se p fun vs mh1 ρ1 xs H1 _ l1 sh1 rv p1 => ?_⟩
    split at p1
    · cases rv with
      | cons r1 r2 =>
        cases r2 with
        | cons r2 r3 =>
          cases r3 with
          | cons r3 r4 =>
            cases r4
            exact ⟨_, _, _, rfl, p1 ρ1 _ H1 .refl sh1 ((((se.mono l1).set r1 i).set r2 j).set r3 l)⟩
    · exact p1.elim

/-! ### what is walked -/
/-- the items, one by one, as they stand -/
inductive Src where
  | vals (vs : List PV)
  | lst (n : Nat)
  | enum (s : Src)
  | zip (s t : Src)
def zipI (x y : Option (Option PV)) : Option (Option PV) := match x, y with
  | some (some v), some (some w) => some (some (.tup [v, w]))
  | some none, some _ => some none
  | some _, some none => some none
  | _, _ => none
/-- none: bad; some none: at the end -/
def Src.item : Src → MH → Nat → Option (Option PV)
  | .vals vs, _, i => some vs[i]?
  | .lst n, mh, i => match mh[n]? with
    | some (.lst vs) => some vs[i]?
    | some (.scr vs) => some vs[i]?
    | _ => none
  | .enum s, mh, i => match s.item mh i with
    | some (some v) => some (some (.tup [.int (i : Nat), v]))
    | some none => some none
    | none => none
  | .zip s t, mh, i => zipI (s.item mh i) (t.item mh i)
def JOk (K : KW) (ρ₀ : List Addr) (H₀ : Hp) (src : Src) (J : It) : Prop := ∀ ρ mh H (i : Nat), Le K ρ₀ H₀ ρ H → SimH K ρ mh H → match src.item mh i with
  | none => True
  | some none => J.stop i H
  | some (some v) => J.go i H ∧ ∀ x H', J.yld i H x H' → Le K ρ H ρ H' ∧ SimH K ρ mh H' ∧ RV K ρ H' v x
def PostI (K : KW) (ρ : List Addr) (H : Hp) (r : R Src) (Q : It → Hp → Prop) (E : Value → Option Addr → Hp → Prop) : Prop := match r with
  | .ok src mh' => ∀ ρ' H' J, Le K ρ H ρ' H' → SimH K ρ' mh' H' → JOk K ρ' H' src J → Q J H'
  | .exc c v mh' => ∀ ρ' w d H', Le K ρ H ρ' H' → SimH K ρ' mh' H' → RV K ρ' H' v w → H' d = some (.xd [("value", w)]) → E (.ref (He.ga K.k c)) (some d) H'
  | .bad => False
theorem PostI.le {K : KW} {ρ ρ1 : List Addr} {H H1 : Hp} {r : R Src} {Q E} (l : Le K ρ H ρ1 H1) (p : PostI K ρ H r Q E) : PostI K ρ1 H1 r Q E := by
  cases r with
  | ok v mh => exact fun ρ' H' J a b c => p ρ' H' J (l.trans a) b c
  | exc c v mh => exact fun ρ' w d H' a b c e => p ρ' w d H' (l.trans a) b c e
  | bad => exact p
def tI (K : KW) (W : WX) (m : PEnv → MH → R Src) : TI := fun σ H Q => ∃ ρ env mh, SimH K ρ mh H ∧ SimE K ρ H env σ ∧ PostI K ρ H (m env mh) Q (fun c d H' => W c d σ H')
abbrev RI (X : Cx) (W : WX) (tg iter : Expr) (m : PEnv → MH → R Src) : Prop := PI X tg iter (tI X.kw W m)
/-- fuel for loops -/
def loopFuel : Nat := 16777216
/-- for t in src: body; i the turn -/
def forL (src : Src) (t : Tg) (body : PEnv → MH → RS) : Nat → Nat → PEnv → MH → RS
  | 0, _, _, _ => .bad
  | fuel + 1, i, env, mh => match src.item mh i with
    | none => .bad
    | some none => .nx env mh
    | some (some v) => match asg t v env mh with
      | none => .bad
      | some env2 => match body env2 mh with
        | .nx env3 mh3 => forL src t body fuel (i + 1) env3 mh3
        | .ct env3 mh3 => forL src t body fuel (i + 1) env3 mh3
        | .bk env3 mh3 => .nx env3 mh3
        | r => r
def sFor (ms : PEnv → MH → R Src) (t : Tg) (body : PEnv → MH → RS) : PEnv → MH → RS := fun env mh => (ms env mh).bindS env fun src mh1 => forL src t body loopFuel 0 env mh1
theorem PostI.bindS {K : KW} {ρ : List Addr} {H : Hp} {σ : L2.St} {r : R Src} {env : PEnv} {f : Src → MH → RS} {D : Ends} {Q1 : It → Hp → Prop} (se : SimE K ρ H env σ) (h : PostS K ρ H (r.bindS env f) D W)
    (k : ∀ src mh1 ρ1 H1 J, r = .ok src mh1 → Le K ρ H ρ1 H1 → SimH K ρ1 mh1 H1 → JOk K ρ1 H1 src J → PostS K ρ1 H1 (f src mh1) D W → Q1 J H1) : PostI K ρ H r Q1 (fun c d H' => W c d σ H') := by
  cases r with
  | ok v mh => exact fun ρ' H' J a b c => k v mh ρ' H' J rfl a b c (PostS.le a h)
  | exc c v mh => exact fun ρ' w d H' a b c e => h ρ' w d σ H' a b (se.mono a) c e
  | bad => exact h
theorem rs_for {tg iter : Expr} {body : List Stmt} {ms : PEnv → MH → R Src} {t : Tg} {mb : PEnv → MH → RS} (hp : PassesOwn (model X.prog X.w) X.A X.env X.xe) (hc : X.calm = true) (hi : RI X W tg iter ms) (hg : PG X tg (tG X.kw t)) (hb : RSs X W body mb)
    (hs : ∀ x, foldedSetIterable iter X.env x = pure x) : RSt X W (.For tg iter body [] pos) (sFor ms t mb) :=
  (ps_for hp hc hi hg hb hs).imp fun D σ H h => by
    obtain ⟨ρ, env, mh, sh, se, p⟩ := h
    refine ⟨ρ, env, mh, sh, se, PostI.bindS se p fun src mh1 ρ1 H1 J _ l1 sh1 jo p1 => ?_⟩
    refine ⟨fun i m σ H => ∃ ρ env mh, Le X.kw ρ1 H1 ρ H ∧ SimH X.kw ρ mh H ∧ SimE X.kw ρ H env σ ∧ PostS X.kw ρ H (forL src t mb m i env mh) D W, ⟨loopFuel, ρ1, env, mh1, .refl, sh1, se.mono l1, p1⟩, ?_⟩
    rintro i m σ2 H2 ⟨ρ2, env2, mh2, l2, sh2, se2, p2⟩
    cases m with
    | zero => exact p2.elim
    | succ m =>
      have j := jo ρ2 mh2 H2 i l2 sh2
      simp only [forL] at p2
      cases q : src.item mh2 i with
      | none => rw [q] at p2; exact p2.elim
      | some o =>
        rw [q] at j p2
        cases o with
        | none => exact .inl ⟨j, p2 ρ2 σ2 H2 .refl sh2 se2⟩
        | some v =>
          obtain ⟨jg, jy⟩ := j
          refine .inr ⟨jg, ?_⟩
          simp only at p2
          cases q2 : asg t v env2 mh2 with
          | none => rw [q2] at p2; exact p2.elim
          | some env3 =>
            rw [q2] at p2
            simp only at p2
            refine ⟨fun σ4 H4 => ∃ ρ4 env4 mh4, Le X.kw ρ1 H1 ρ4 H4 ∧ SimH X.kw ρ4 mh4 H4 ∧ SimE X.kw ρ4 H4 env4 σ4 ∧ PostS X.kw ρ4 H4 (forL src t mb m (i + 1) env4 mh4) D W, fun σ4 H4 w4 => ⟨m, Nat.lt_succ_self m, w4⟩, fun x H3 y => ?_⟩
            obtain ⟨l3, sh3, rv3⟩ := jy x H3 y
            refine ⟨ρ2, env2, mh2, v, env3, sh3, se2.mono l3, rv3, q2, fun σ3 se3 _ => ?_⟩
            refine ⟨ρ2, env3, mh2, sh3, se3, ?_⟩
            have l23 : Le X.kw ρ1 H1 ρ2 H3 := l2.trans l3
            cases q3 : mb env3 mh2 with
            | nx env4 mh4 =>
              rw [q3] at p2
              exact fun ρ4 σ4 H4 l4 sh4 se4 => ⟨ρ4, env4, mh4, l23.trans l4, sh4, se4, PostS.le (l3.trans l4) p2⟩
            | ct env4 mh4 =>
              rw [q3] at p2
              exact fun ρ4 σ4 H4 l4 sh4 se4 => ⟨ρ4, env4, mh4, l23.trans l4, sh4, se4, PostS.le (l3.trans l4) p2⟩
            | bk env4 mh4 =>
              rw [q3] at p2
              exact fun ρ4 σ4 H4 l4 sh4 se4 => p2 ρ4 σ4 H4 (l3.trans l4) sh4 se4
            | rt v mh4 =>
              rw [q3] at p2
              exact fun ρ4 w H4 l4 sh4 rv4 => p2 ρ4 w H4 (l3.trans l4) sh4 rv4
            | exc c v env4 mh4 =>
              rw [q3] at p2
              exact fun ρ4 w d σ4 H4 l4 sh4 se4 rv4 hd => p2 ρ4 w d σ4 H4 (l3.trans l4) sh4 se4 rv4 hd
            | bad => rw [q3] at p2; exact p2
/-- while -/
def whileL (tc : PEnv → MH → R Bool) (body : PEnv → MH → RS) : Nat → PEnv → MH → RS
  | 0, _, _ => .bad
  | fuel + 1, env, mh => (tc env mh).bindS env fun k mh1 => if k = true then (match body env mh1 with
      | .nx env3 mh3 => whileL tc body fuel env3 mh3
      | .ct env3 mh3 => whileL tc body fuel env3 mh3
      | .bk env3 mh3 => .nx env3 mh3
      | r => r) else .nx env mh1
def sWhile (tc : PEnv → MH → R Bool) (body : PEnv → MH → RS) : PEnv → MH → RS := fun env mh => whileL tc body loopFuel env mh
theorem rs_while {c : Expr} {body : List Stmt} {tc : PEnv → MH → R Bool} {mb : PEnv → MH → RS} (hp : PassesOwn (model X.prog X.w) X.A X.env X.xe) (hc : RT X W c tc) (hb : RSs X W body mb) : RSt X W (.While c body [] pos) (sWhile tc mb) :=
  (ps_while hp hc hb).imp fun D σ H h => by
    obtain ⟨ρ, env, mh, sh, se, p⟩ := h
    refine ⟨fun m σ H => ∃ ρ env mh, SimH X.kw ρ mh H ∧ SimE X.kw ρ H env σ ∧ PostS X.kw ρ H (whileL tc mb m env mh) D W, ⟨loopFuel, ρ, env, mh, sh, se, p⟩, ?_⟩
    rintro m σ2 H2 ⟨ρ2, env2, mh2, sh2, se2, p2⟩
    cases m with
    | zero => exact p2.elim
    | succ m =>
      simp only [whileL] at p2
      refine ⟨ρ2, env2, mh2, sh2, se2, PostT.bindS se2 p2 fun k mh3 ρ3 H3 _ l3 sh3 p3 => ?_⟩
      cases k with
      | false => exact (show PostS X.kw ρ3 H3 (.nx env2 mh3) D W from p3) ρ3 σ2 H3 .refl sh3 (se2.mono l3)
      | true =>
        simp only [if_true] at p3
        refine ⟨fun σ4 H4 => ∃ ρ4 env4 mh4, SimH X.kw ρ4 mh4 H4 ∧ SimE X.kw ρ4 H4 env4 σ4 ∧ PostS X.kw ρ4 H4 (whileL tc mb m env4 mh4) D W, fun σ4 H4 w4 => ⟨m, Nat.lt_succ_self m, w4⟩, ρ3, env2, mh3, sh3, se2.mono l3, ?_⟩
        cases q3 : mb env2 mh3 with
        | nx env4 mh4 =>
          rw [q3] at p3
          exact fun ρ4 σ4 H4 l4 sh4 se4 => ⟨ρ4, env4, mh4, sh4, se4, PostS.le l4 p3⟩
        | ct env4 mh4 =>
          rw [q3] at p3
          exact fun ρ4 σ4 H4 l4 sh4 se4 => ⟨ρ4, env4, mh4, sh4, se4, PostS.le l4 p3⟩
        | bk env4 mh4 =>
          rw [q3] at p3
          exact fun ρ4 σ4 H4 l4 sh4 se4 => p3 ρ4 σ4 H4 l4 sh4 se4
        | rt v mh4 =>
          rw [q3] at p3
          exact p3
        | exc c v env4 mh4 =>
          rw [q3] at p3
          exact p3
        | bad => rw [q3] at p3; exact p3
end
end Ev
namespace Ev
open PySem PySem.Spec PyProof.Rows L2 RZ
section
variable {K : KW} {ρ : List Addr} {H : Hp} {W : WX} {σ : L2.St}
theorem Post.bindI {r : R PV} {f : PV → MH → R Src} {Q : It → Hp → Prop} {Q1 : VK} {E} (h : PostI K ρ H (r.bind f) Q E)
    (k : ∀ v mh1 ρ1 x H1, r = .ok v mh1 → Le K ρ H ρ1 H1 → SimH K ρ1 mh1 H1 → RV K ρ1 H1 v x → PostI K ρ1 H1 (f v mh1) Q E → Q1 x H1) : Post K ρ H r Q1 E := by
  cases r with
  | ok v mh => exact fun ρ' w H' a b c => k v mh ρ' w H' rfl a b c (PostI.le a h)
  | exc c v mh => exact h
  | bad => exact h
theorem PostA.bindI {r : R (List PV)} {f : List PV → MH → R Src} {Q : It → Hp → Prop} {Q1 : List V → Hp → Prop} {E} (h : PostI K ρ H (r.bind f) Q E)
    (k : ∀ v mh1 ρ1 x H1, r = .ok v mh1 → Le K ρ H ρ1 H1 → SimH K ρ1 mh1 H1 → RVs K ρ1 H1 v x → PostI K ρ1 H1 (f v mh1) Q E → Q1 x H1) : PostA K ρ H r Q1 E := by
  cases r with
  | ok v mh => exact fun ρ' w H' a b c => k v mh ρ' w H' rfl a b c (PostI.le a h)
  | exc c v mh => exact h
  | bad => exact h
theorem PostI.bind {r : R Src} {f : Src → MH → R PV} {Q : VK} {Q1 : It → Hp → Prop} {E} (h : Post K ρ H (r.bind f) Q E)
    (k : ∀ v mh1 ρ1 J H1, r = .ok v mh1 → Le K ρ H ρ1 H1 → SimH K ρ1 mh1 H1 → JOk K ρ1 H1 v J → Post K ρ1 H1 (f v mh1) Q E → Q1 J H1) : PostI K ρ H r Q1 E := by
  cases r with
  | ok v mh => exact fun ρ' H' J a b c => k v mh ρ' J H' rfl a b c (Post.le a h)
  | exc c v mh => exact h
  | bad => exact h
theorem jok_vals {vs : List PV} {J : It} (h : ∀ ρ' (mh : MH) H' (i : Nat), Le K ρ H ρ' H' → SimH K ρ' mh H' → match vs[i]? with
    | none => J.stop i H'
    | some v => J.go i H' ∧ ∀ x H2, J.yld i H' x H2 → Le K ρ' H' ρ' H2 ∧ SimH K ρ' mh H2 ∧ RV K ρ' H2 v x) : JOk K ρ H (.vals vs) J := fun ρ' mh H' i l sh => by
  have q := h ρ' mh H' i l sh
  simp only [Src.item]
  cases e : vs[i]? with
  | none => rw [e] at q; exact q
  | some v => rw [e] at q; exact q
theorem jok_tup {vs : List PV} {ws : List V} {a : Addr} (h : SqT K.k H a ws) (r : RVs K ρ H vs ws) : JOk K ρ H (.vals vs) (Itt K.k a) := jok_vals fun ρ' mh H' i l sh => by
  have h' := l.grow _ _ h
  cases e : vs[i]? with
  | none =>
    refine ⟨ws, h', ?_⟩
    rw [← r.length]
    exact List.getElem?_eq_none_iff.mp e
  | some v =>
    obtain ⟨w, e2, rw⟩ := r.get e
    refine ⟨⟨ws, w, h', e2⟩, fun x H2 ⟨eH, y⟩ => ?_⟩
    subst eH
    have := y ws h'
    rw [e2] at this
    cases this
    exact ⟨.refl, sh, rw.mono l⟩
theorem jok_lst {n : Nat} {a : Addr} (h : ρ[n]? = some a) : JOk K ρ H (.lst n) (Itl K.k a) := fun ρ' mh H' i l sh => by
  have h' := l.pre _ _ h
  simp only [Src.item]
  cases e : mh[n]? with
  | none => simp
  | some o =>
    have ro := sh.ob n o a e h'
    cases o with
    | lst vs =>
      obtain ⟨ws, h1, r⟩ := ro
      have hq : SqL K.k H' a ws := .inl (.inl h1)
      simp only
      cases e2 : vs[i]? with
      | none => exact ⟨ws, hq, by rw [← r.length]; exact List.getElem?_eq_none_iff.mp e2⟩
      | some v =>
        obtain ⟨w, e3, rw⟩ := r.get e2
        refine ⟨⟨ws, w, hq, e3⟩, fun x H2 ⟨eH, y⟩ => ?_⟩
        subst eH
        have := y ws hq
        rw [e3] at this
        cases this
        exact ⟨.refl, sh, rw⟩
    | scr vs =>
      obtain ⟨ws, h1, r⟩ := ro
      have hq : SqL K.k H' a ws := h1.sq
      simp only
      cases e2 : vs[i]? with
      | none => exact ⟨ws, hq, by rw [← r.length]; exact List.getElem?_eq_none_iff.mp e2⟩
      | some v =>
        obtain ⟨w, e3, rw⟩ := r.get e2
        refine ⟨⟨ws, w, hq, e3⟩, fun x H2 ⟨eH, y⟩ => ?_⟩
        subst eH
        have := y ws hq
        rw [e3] at this
        cases this
        exact ⟨.refl, sh, rw⟩
    | dict _ => trivial
    | ins _ _ => trivial
    | exo _ _ => trivial
    | iset _ => trivial
end
def signsOf (s : Str) : List PV := s.cps.toList.map fun c => .str ⟨#[c]⟩
def srcOf (v : PV) (mh : MH) : R Src := match v with
  | .tup vs => .ok (.vals vs) mh
  | .ref n => match mh[n]? with
    | some (.lst _) => .ok (.lst n) mh
    | some (.scr _) => .ok (.lst n) mh
    | _ => .bad
  | .str s => .ok (.vals (signsOf s)) mh
  | _ => .bad
def mSrc (ma : PEnv → MH → R PV) : PEnv → MH → R Src := fun env mh => (ma env mh).bind srcOf
section
variable {X : Cx} {W : WX} {tg e a b c : Expr} {pos p : Pos} {ma : PEnv → MH → R PV} {m : PEnv → MH → R (List PV)}
theorem ri_val (ha : RE X W e ma) : RI X W tg e (mSrc ma) :=
  (((pi_list ha).or (pi_tup ha)).or (pi_str ha)).imp fun σ H R h => by
    obtain ⟨ρ, env, mh, sh, se, p⟩ := h
    have hm : (∃ n mh1, ma env mh = .ok (.ref n) mh1) ∨ (∃ vs mh1, ma env mh = .ok (.tup vs) mh1) ∨ (∃ s mh1, ma env mh = .ok (.str s) mh1) ∨ (∃ c v mh1, ma env mh = .exc c v mh1) := by
      unfold mSrc at p
      cases q : ma env mh with
      | bad => rw [q] at p; exact p.elim
      | exc c v mh1 => exact .inr (.inr (.inr ⟨c, v, mh1, rfl⟩))
      | ok v mh1 =>
        rw [q] at p
        cases v with
        | ref n => exact .inl ⟨n, mh1, rfl⟩
        | tup vs => exact .inr (.inl ⟨vs, mh1, rfl⟩)
        | str s => exact .inr (.inr (.inl ⟨s, mh1, rfl⟩))
        | non => exact p.elim
        | bl _ => exact p.elim
        | int _ => exact p.elim
    have pre := Post.bindI (Q1 := fun x H1 => ∃ v mh1 ρ1, ma env mh = .ok v mh1 ∧ Le X.kw ρ H ρ1 H1 ∧ SimH X.kw ρ1 mh1 H1 ∧ RV X.kw ρ1 H1 v x ∧ PostI X.kw ρ1 H1 (srcOf v mh1) R (fun c d H' => W c d σ H')) p fun v mh1 ρ1 x H1 e l1 sh1 rv p1 => ⟨v, mh1, ρ1, e, l1, sh1, rv, p1⟩
    have fin : ∀ Q2 : VK, (∀ x H1, (∃ v mh1 ρ1, ma env mh = .ok v mh1 ∧ Le X.kw ρ H ρ1 H1 ∧ SimH X.kw ρ1 mh1 H1 ∧ RV X.kw ρ1 H1 v x ∧ PostI X.kw ρ1 H1 (srcOf v mh1) R (fun c d H' => W c d σ H')) → Q2 x H1) → Post X.kw ρ H (ma env mh) Q2 (fun c d H' => W c d σ H') := fun Q2 k => by
      cases q : ma env mh with
      | ok v mh1 =>
        have pre := pre
        rw [q] at pre
        intro ρ' w H' x1 x2 x3
        obtain ⟨v', mh', ρ1, e, a1, a2, a3, a4⟩ := pre ρ' w H' x1 x2 x3
        exact k w H' ⟨v', mh', ρ1, by rw [q]; exact e, a1, a2, a3, a4⟩
      | exc c v mh1 => rw [q] at pre; exact pre
      | bad => rw [q] at pre; exact pre
    rcases hm with ⟨n, mh1, e⟩ | ⟨vs, mh1, e⟩ | ⟨s, mh1, e⟩ | ⟨c, v, mh1, e⟩
    · refine .inl (.inl ⟨ρ, env, mh, sh, se, fin _ fun x H1 ⟨v', mh', ρ1, e', l1, sh1, rv, p1⟩ => ?_⟩)
      rw [e] at e'
      cases e'
      cases rv with
      | @ref n a h =>
        simp only [srcOf] at p1
        cases q : mh1[n]? with
        | none => rw [q] at p1; exact p1.elim
        | some o =>
          have ro := sh1.ob n o a q h
          rw [q] at p1
          cases o with
          | lst vs =>
            obtain ⟨ws, h1, r⟩ := ro
            exact ⟨a, rfl, ⟨ws, .inl (.inl h1)⟩, p1 ρ1 H1 _ .refl sh1 (jok_lst h)⟩
          | scr vs =>
            obtain ⟨ws, h1, r⟩ := ro
            exact ⟨a, rfl, ⟨ws, h1.sq⟩, p1 ρ1 H1 _ .refl sh1 (jok_lst h)⟩
          | dict _ => exact p1.elim
          | ins _ _ => exact p1.elim
          | exo _ _ => exact p1.elim
          | iset _ => exact p1.elim
    · refine .inl (.inr ⟨ρ, env, mh, sh, se, fin _ fun x H1 ⟨v', mh', ρ1, e', l1, sh1, rv, p1⟩ => ?_⟩)
      rw [e] at e'
      cases e'
      cases rv with
      | tup h r =>
        exact ⟨_, rfl, ⟨_, h⟩, p1 ρ1 H1 _ .refl sh1 (jok_tup h r)⟩
    · refine .inr ⟨ρ, env, mh, sh, se, fin _ fun x H1 ⟨v', mh', ρ1, e', l1, sh1, rv, p1⟩ => ?_⟩
      rw [e] at e'
      cases e'
      cases rv with
      | str s =>
        refine ⟨s, rfl, p1 ρ1 H1 _ .refl sh1 (jok_vals fun ρ' mh2 H' i l2 sh2 => ?_)⟩
        unfold signsOf
        rw [List.getElem?_map]
        cases e : s.cps.toList[i]? with
        | none =>
          have := List.getElem?_eq_none_iff.mp e
          show s.cps.size ≤ i
          simpa using this
        | some c =>
          have hi := (List.getElem?_eq_some_iff.mp e).1
          refine ⟨(by show i < s.cps.size; simpa using hi), fun x H2 ⟨eH, d, ed, ex⟩ => ?_⟩
          subst eH ex
          have : s.cps.toList[i]? = some d := by simpa using ed
          rw [e] at this
          cases this
          exact ⟨.refl, sh2, .str _⟩
    · refine .inl (.inl ⟨ρ, env, mh, sh, se, ?_⟩)
      rw [e] at pre ⊢
      exact pre

/-! ### range -/
def rangeL (lo c : Int) (n : Nat) : List PV := (List.range n).map fun k => .int (lo + (k : Nat) * c)
theorem rangeL_get (lo c : Int) (n i : Nat) : (rangeL lo c n)[i]? = if i < n then some (.int (lo + (i : Nat) * c)) else none := by
  unfold rangeL
  rw [List.getElem?_map]
  by_cases h : i < n
  · rw [if_pos h, List.getElem?_range h]
    rfl
  · rw [if_neg h, List.getElem?_eq_none (by simpa using h)]
    rfl
theorem jok_itr {K : KW} {ρ : List Addr} {H : Hp} (lo : Int) (n : Nat) : JOk K ρ H (.vals (rangeL lo 1 n)) (Itr lo n) := jok_vals fun ρ' mh H' i l sh => by
  rw [rangeL_get]
  by_cases h : i < n
  · rw [if_pos h]
    refine ⟨h, fun x H2 ⟨eH, ex⟩ => ?_⟩
    subst eH ex
    rw [Int.mul_one]
    exact ⟨.refl, sh, .int _⟩
  · rw [if_neg h]
    exact Nat.le_of_not_lt h
theorem jok_itc {K : KW} {ρ : List Addr} {H : Hp} (lo c : Int) (n : Nat) : JOk K ρ H (.vals (rangeL lo c n)) (Itc lo c n) := jok_vals fun ρ' mh H' i l sh => by
  rw [rangeL_get]
  by_cases h : i < n
  · rw [if_pos h]
    refine ⟨h, fun x H2 ⟨eH, ex⟩ => ?_⟩
    subst eH ex
    exact ⟨.refl, sh, .int _⟩
  · rw [if_neg h]
    exact Nat.le_of_not_lt h
@[irreducible] def inB (i : Int) : Bool := decide (-(2 ^ 62) ≤ i) && decide (i < 2 ^ 62)
theorem inB_iff {i : Int} : inB i = true ↔ -(2 ^ 62) ≤ i ∧ i < 2 ^ 62 := by
  unfold inB
  rw [Bool.and_eq_true, decide_eq_true_eq, decide_eq_true_eq]
@[irreducible] def smallB (i j c : Int) : Bool := Builtin.Range.small i j c
theorem smallB_iff {i j c : Int} : smallB i j c = true ↔ Builtin.Range.small i j c = true := by
  unfold smallB
  exact Iff.rfl
/-- the ints of a range -/
def rangeOf (vs : List PV) : Option (List PV) := match vs with
  | [.int j] => if inB j = true then some (rangeL 0 1 j.toNat) else none
  | [.int i, .int j] => if inB i = true ∧ inB j = true then some (rangeL i 1 (j - i).toNat) else none
  | [.int i, .int j, .int c] => if c ≠ 0 ∧ c.natAbs < 1073741824 ∧ smallB i j c = true then some (rangeL i c (Builtin.Range.rangeSize i j c).toNat) else none
  | _ => none
def mRange (m : PEnv → MH → R (List PV)) : PEnv → MH → R Src := fun env mh => (m env mh).bind fun vs mh1 => match rangeOf vs with
  | some l => .ok (.vals l) mh1
  | none => .bad
theorem ri_range1 (hg : Gl X "range") (hm : X.mg "range" = none) (ha : RA X W [a] m) (hs : starEach [a] X.env = [(false, eval a X.env)]) (one : ∀ env mh vs mh1, m env mh = .ok vs mh1 → vs.length = 1) : RI X W tg (.Call (.Name "range" p) [a] [] pos) (mRange m) :=
  (pi_range1 hg hm ha hs).imp fun σ H R h => by
    obtain ⟨ρ, env, mh, sh, se, p⟩ := h
    refine ⟨ρ, env, mh, sh, se, PostA.bindI p fun vs mh1 ρ1 xs H1 e l1 sh1 rv p1 => ?_⟩
    have hl := one _ _ _ _ e
    cases rv with
    | nil => cases hl
    | cons r1 r2 =>
      cases r2 with
      | cons _ _ => simp at hl
      | nil =>
        cases r1 with
        | int j =>
          simp only [rangeOf] at p1
          by_cases hj : inB j = true
          · rw [if_pos hj] at p1
            exact ⟨j, rfl, (inB_iff.mp hj).1, (inB_iff.mp hj).2, p1 ρ1 H1 _ .refl sh1 (jok_itr 0 _)⟩
          · rw [if_neg hj] at p1
            exact p1.elim
        | non => exact p1.elim
        | bl _ => exact p1.elim
        | str _ => exact p1.elim
        | tup _ _ => exact p1.elim
        | ref _ => exact p1.elim
theorem two_ints {K : KW} {ρ : List Addr} {H : Hp} {mh : MH} {vs : List PV} {xs : List V} {Q E} (rv : RVs K ρ H vs xs) (hl : vs.length = 2) (p : PostI K ρ H (match rangeOf vs with
  | some l => .ok (.vals l) mh
  | none => .bad) Q E) : ∃ i j, vs = [.int i, .int j] ∧ xs = [.int i, .int j] := by
  cases rv with
  | nil => cases hl
  | cons r1 r2 =>
    cases r2 with
    | nil => cases hl
    | cons r2 r3 =>
      cases r3 with
      | cons _ _ => simp at hl
      | nil => cases r1 <;> cases r2 <;> first | exact ⟨_, _, rfl, rfl⟩ | exact p.elim
theorem ri_range2 (hg : Gl X "range") (hm : X.mg "range" = none) (ha : RA X W [a, b] m) (hs : starEach [a, b] X.env = [(false, eval a X.env), (false, eval b X.env)]) (hs2 : starEach [b] X.env = [(false, eval b X.env)]) (two : ∀ env mh vs mh1, m env mh = .ok vs mh1 → vs.length = 2) :
    RI X W tg (.Call (.Name "range" p) [a, b] [] pos) (mRange m) :=
  (pi_range2 hg hm ha hs hs2).imp fun σ H R h => by
    obtain ⟨ρ, env, mh, sh, se, p⟩ := h
    refine ⟨ρ, env, mh, sh, se, PostA.bindI p fun vs mh1 ρ1 xs H1 e l1 sh1 rv p1 => ?_⟩
    obtain ⟨i, j, rfl, rfl⟩ := two_ints rv (two _ _ _ _ e) p1
    simp only [rangeOf] at p1
    by_cases hj : inB i = true ∧ inB j = true
    · rw [if_pos hj] at p1
      exact ⟨i, j, rfl, ⟨(inB_iff.mp hj.1).1, (inB_iff.mp hj.1).2, (inB_iff.mp hj.2).1, (inB_iff.mp hj.2).2⟩, p1 ρ1 H1 _ .refl sh1 (jok_itr i _)⟩
    · rw [if_neg hj] at p1
      exact p1.elim
theorem three_ints {K : KW} {ρ : List Addr} {H : Hp} {mh : MH} {vs : List PV} {xs : List V} {Q E} (rv : RVs K ρ H vs xs) (hl : vs.length = 3) (p : PostI K ρ H (match rangeOf vs with
  | some l => .ok (.vals l) mh
  | none => .bad) Q E) : ∃ i j c, vs = [.int i, .int j, .int c] ∧ xs = [.int i, .int j, .int c] := by
  cases rv with
  | nil => cases hl
  | cons r1 r2 =>
    cases r2 with
    | nil => cases hl
    | cons r2 r3 =>
      cases r3 with
      | nil => cases hl
      | cons r3 r4 =>
        cases r4 with
        | cons _ _ => simp at hl
        | nil => cases r1 <;> cases r2 <;> cases r3 <;> first | exact ⟨_, _, _, rfl, rfl⟩ | exact p.elim
theorem rangeSize_nn (i j c : Int) (hc : c ≠ 0) : 0 ≤ Builtin.Range.rangeSize i j c := by
  unfold Builtin.Range.rangeSize
  split
  · split
    · have : 0 ≤ (j - i - 1) / c := Int.ediv_nonneg (by omega) (by omega)
      omega
    · omega
  · split
    · have : 0 ≤ (i - j - 1) / (-c) := Int.ediv_nonneg (by omega) (by omega)
      omega
    · omega
theorem ri_range3 (hg : Gl X "range") (hm : X.mg "range" = none) (ha : RA X W [a, b, c] m) (hs : starEach [a, b, c] X.env = (false, eval a X.env) :: starEach [b, c] X.env) (hs2 : (backTo pos (starEach [b, c] X.env)).any (·.1) = false)
    (three : ∀ env mh vs mh1, m env mh = .ok vs mh1 → vs.length = 3) : RI X W tg (.Call (.Name "range" p) [a, b, c] [] pos) (mRange m) :=
  (pi_range3 hg hm ha hs hs2).imp fun σ H R h => by
    obtain ⟨ρ, env, mh, sh, se, p⟩ := h
    refine ⟨ρ, env, mh, sh, se, PostA.bindI p fun vs mh1 ρ1 xs H1 e l1 sh1 rv p1 => ?_⟩
    obtain ⟨i, j, c, rfl, rfl⟩ := three_ints rv (three _ _ _ _ e) p1
    simp only [rangeOf] at p1
    by_cases hj : c ≠ 0 ∧ c.natAbs < 1073741824 ∧ smallB i j c = true
    · rw [if_pos hj] at p1
      refine ⟨i, j, c, _, rfl, ⟨hj.1, hj.2.1, smallB_iff.mp hj.2.2, ?_⟩, p1 ρ1 H1 _ .refl sh1 (jok_itc i c _)⟩
      exact (Int.toNat_of_nonneg (rangeSize_nn i j c hj.1)).symm
    · rw [if_neg hj] at p1
      exact p1.elim

/-! ### enumerate, zip -/
def mEnum (m : PEnv → MH → R (List PV)) : PEnv → MH → R Src := fun env mh => (m env mh).bind fun vs mh1 => match vs with
  | [.ref n] => match mh1[n]? with
    | some (.lst _) => .ok (.enum (.lst n)) mh1
    | some (.scr _) => .ok (.enum (.lst n)) mh1
    | _ => .bad
  | _ => .bad
theorem jok_enum {K : KW} {ρ : List Addr} {H : Hp} {n : Nat} {a : Addr} (h : ρ[n]? = some a) : JOk K ρ H (.enum (.lst n)) (Ite K.k a) := fun ρ' mh H' i l sh => by
  have h' := l.pre _ _ h
  simp only [Src.item]
  have main : ∀ (vs : List PV) (ws : List V), SqL K.k H' a ws → RVs K ρ' H' vs ws → match (match (some vs[i]? : Option (Option PV)) with
      | some (some v) => some (some (PV.tup [.int (i : Nat), v]))
      | some none => some none
      | none => none) with
    | none => True
    | some none => (Ite K.k a).stop i H'
    | some (some v) => (Ite K.k a).go i H' ∧ ∀ x H2, (Ite K.k a).yld i H' x H2 → Le K ρ' H' ρ' H2 ∧ SimH K ρ' mh H2 ∧ RV K ρ' H2 v x := by
    intro vs ws hq r
    cases e2 : vs[i]? with
    | none => exact ⟨ws, hq, by rw [← r.length]; exact List.getElem?_eq_none_iff.mp e2⟩
    | some v =>
      obtain ⟨w, e3, rw⟩ := r.get e2
      refine ⟨⟨ws, w, hq, e3⟩, fun x H2 ⟨T, y, ex, hT, eH, hy⟩ => ?_⟩
      have := hy ws hq
      rw [e3] at this
      cases this
      subst ex eH
      obtain ⟨s1, l1⟩ := sh.tuple (o := .tup [.int (i : Nat), w]) hT
      exact ⟨l1, s1, .tup (.inl (.inl upd_same)) (.cons (.int _) (.cons (rw.mono l1) .nil))⟩
  cases e : mh[n]? with
  | none => simp
  | some o =>
    have ro := sh.ob n o a e h'
    cases o with
    | lst vs =>
      obtain ⟨ws, h1, r⟩ := ro
      exact main vs ws (.inl (.inl h1)) r
    | scr vs =>
      obtain ⟨ws, h1, r⟩ := ro
      exact main vs ws (h1.sq) r
    | dict _ => trivial
    | ins _ _ => trivial
    | exo _ _ => trivial
    | iset _ => trivial
theorem ri_enum {elts : List Expr} {kk : Nat} {tpos : Pos} (hg : Gl X "enumerate") (hm : X.mg "enumerate" = none) (ha : RA X W [e] m) (hs : starEach [e] X.env = [(false, eval e X.env)]) : RI X W (.Tuple elts kk tpos) (.Call (.Name "enumerate" p) [e] [] pos) (mEnum m) :=
  (pi_enum hg hm ha hs).imp fun σ H R h => by
    obtain ⟨ρ, env, mh, sh, se, p⟩ := h
    refine ⟨ρ, env, mh, sh, se, PostA.bindI p fun vs mh1 ρ1 xs H1 e l1 sh1 rv p1 => ?_⟩
    split at p1
    · rename_i n
      cases rv with
      | cons r1 r2 =>
        cases r2
        cases r1 with
        | @ref n a h =>
          split at p1
          · rename_i us q
            obtain ⟨ws, h1, r⟩ := sh1.ob n _ a q h
            exact ⟨a, ws, rfl, .inl (.inl h1), p1 ρ1 H1 _ .refl sh1 (jok_enum h)⟩
          · rename_i us q
            obtain ⟨ws, h1, r⟩ := sh1.ob n _ a q h
            exact ⟨a, ws, rfl, h1.sq, p1 ρ1 H1 _ .refl sh1 (jok_enum h)⟩
          · exact p1.elim
    · exact p1.elim
def isLst (mh : MH) (n : Nat) : Bool := match mh[n]? with
  | some (.lst _) => true
  | some (.scr _) => true
  | _ => false
def mZip (m : PEnv → MH → R (List PV)) : PEnv → MH → R Src := fun env mh => (m env mh).bind fun vs mh1 => match vs with
  | [.ref n, .ref k] => if isLst mh1 n && isLst mh1 k then .ok (.zip (.lst n) (.lst k)) mh1 else .bad
  | [.tup xs, .tup ys] => .ok (.zip (.vals xs) (.vals ys)) mh1
  | _ => .bad
theorem isLst_below {K : KW} {ρ : List Addr} {H : Hp} {mh : MH} {n : Nat} {a : Addr} (sh : SimH K ρ mh H) (h : ρ[n]? = some a) (q : isLst mh n = true) : ∃ vs ws, (Src.lst n).item mh = (fun i => some vs[i]?) ∧ SqL K.k H a ws ∧ RVs K ρ H vs ws := by
  unfold isLst at q
  cases e : mh[n]? with
  | none => rw [e] at q; cases q
  | some o =>
    have ro := sh.ob n o a e h
    rw [e] at q
    cases o with
    | lst vs =>
      obtain ⟨ws, h1, r⟩ := ro
      exact ⟨vs, ws, by funext i; simp [Src.item, e], .inl (.inl h1), r⟩
    | scr vs =>
      obtain ⟨ws, h1, r⟩ := ro
      exact ⟨vs, ws, by funext i; simp [Src.item, e], h1.sq, r⟩
    | dict _ => cases q
    | ins _ _ => cases q
    | exo _ _ => cases q
    | iset _ => cases q
theorem item_lst_ok {mh : MH} {n i : Nat} {o : Option PV} (h : (Src.lst n).item mh i = some o) : isLst mh n = true := by
  unfold isLst
  simp only [Src.item] at h
  cases e : mh[n]? with
  | none => rw [e] at h; cases h
  | some x =>
    rw [e] at h
    cases x <;> first | rfl | cases h
theorem zipI_none (x : Option (Option PV)) : zipI x none = none := by
  cases x with
  | none => rfl
  | some o => cases o <;> rfl
theorem zip_at {K : KW} {ρ : List Addr} {H : Hp} {mh : MH} {vs us : List PV} {ws zs : List V} {i : Nat} {stop go : Prop} {yld : V → Hp → Prop} (sh : SimH K ρ mh H) (r1 : RVs K ρ H vs ws) (r2 : RVs K ρ H us zs)
    (hstop : (ws.length ≤ i ∨ zs.length ≤ i) → stop) (hgo : ∀ x y, ws[i]? = some x → zs[i]? = some y → go ∧ ∀ v H', yld v H' → ∃ T, v = .ref T ∧ H T = none ∧ H' = upd H T (.tup [x, y])) :
    match zipI (some vs[i]?) (some us[i]?) with
    | none => True
    | some none => stop
    | some (some v) => go ∧ ∀ x H', yld x H' → Le K ρ H ρ H' ∧ SimH K ρ mh H' ∧ RV K ρ H' v x := by
  cases e1 : vs[i]? with
  | none => 
    have : ws.length ≤ i := by rw [← r1.length]; exact List.getElem?_eq_none_iff.mp e1
    exact hstop (.inl this)
  | some v =>
    cases e2 : us[i]? with
    | none =>
      have : zs.length ≤ i := by rw [← r2.length]; exact List.getElem?_eq_none_iff.mp e2
      exact hstop (.inr this)
    | some u =>
      obtain ⟨x, e3, rx⟩ := r1.get e1
      obtain ⟨y, e4, ry⟩ := r2.get e2
      obtain ⟨g, hy⟩ := hgo x y e3 e4
      refine ⟨g, fun z H' q => ?_⟩
      obtain ⟨T, ez, hT, eH⟩ := hy z H' q
      subst ez eH
      obtain ⟨s1, l1⟩ := sh.tuple (o := .tup [x, y]) hT
      exact ⟨l1, s1, .tup (.inl (.inl upd_same)) (.cons (rx.mono l1) (.cons (ry.mono l1) .nil))⟩
theorem jok_zipL {K : KW} {ρ : List Addr} {H : Hp} {n k : Nat} {a b : Addr} (h : ρ[n]? = some a) (h2 : ρ[k]? = some b) : JOk K ρ H (.zip (.lst n) (.lst k)) (Itz K.k a b) := fun ρ' mh H' i l sh => by
  have h' := l.pre _ _ h
  have h2' := l.pre _ _ h2
  simp only [Src.item]
  by_cases q1 : isLst mh n = true
  · by_cases q2 : isLst mh k = true
    · obtain ⟨vs, ws, e1, s1, r1⟩ := isLst_below sh h' q1
      obtain ⟨us, zs, e2, s2, r2⟩ := isLst_below sh h2' q2
      have e1' := congrFun e1 i
      have e2' := congrFun e2 i
      simp only [Src.item] at e1' e2'
      rw [e1', e2']
      exact zip_at (stop := (Itz K.k a b).stop i H') (go := (Itz K.k a b).go i H') (yld := (Itz K.k a b).yld i H') sh r1 r2 (fun q => ⟨ws, zs, s1, s2, q⟩) fun x y hx hy => ⟨⟨ws, zs, x, y, s1, s2, hx, hy⟩, fun v H2 ⟨T, x', y', ev, hT, eH, k1, k2⟩ => by
        have := k1 ws s1
        rw [hx] at this
        cases this
        have := k2 zs s2
        rw [hy] at this
        cases this
        exact ⟨T, ev, hT, eH⟩⟩
    · cases e : (Src.lst k).item mh i with
      | some o => exact absurd (item_lst_ok e) q2
      | none =>
        simp only [Src.item] at e
        rw [e, zipI_none]
        trivial
  · cases e : (Src.lst n).item mh i with
    | some o => exact absurd (item_lst_ok e) q1
    | none =>
      simp only [Src.item] at e
      rw [e]
      trivial
theorem jok_zipT {K : KW} {ρ : List Addr} {H : Hp} {vs us : List PV} {ws zs : List V} {a b : Addr} (h : SqT K.k H a ws) (h2 : SqT K.k H b zs) (r : RVs K ρ H vs ws) (r2 : RVs K ρ H us zs) : JOk K ρ H (.zip (.vals vs) (.vals us)) (ItzT K.k a b) := fun ρ' mh H' i l sh => by
  have s1 := l.grow _ _ h
  have s2 := l.grow _ _ h2
  simp only [Src.item]
  exact zip_at (stop := (ItzT K.k a b).stop i H') (go := (ItzT K.k a b).go i H') (yld := (ItzT K.k a b).yld i H') sh (r.mono l) (r2.mono l) (fun q => ⟨ws, zs, s1, s2, q⟩) fun x y hx hy => ⟨⟨ws, zs, x, y, s1, s2, hx, hy⟩, fun v H2 ⟨T, x', y', ev, hT, eH, k1, k2⟩ => by
    have := k1 ws s1
    rw [hx] at this
    cases this
    have := k2 zs s2
    rw [hy] at this
    cases this
    exact ⟨T, ev, hT, eH⟩⟩
theorem ri_zip {elts : List Expr} {kk : Nat} {tpos : Pos} {e2 : Expr} (hg : Gl X "zip") (hm : X.mg "zip" = none) (ha : RA X W [e, e2] m) (hs : starEach [e, e2] X.env = (false, eval e X.env) :: starEach [e2] X.env) (hpl : (backTo pos (starEach [e2] X.env)).any (·.1) = false) :
    RI X W (.Tuple elts kk tpos) (.Call (.Name "zip" p) [e, e2] [] pos) (mZip m) :=
  (pi_zipA hg hm ha hs hpl).imp fun σ H R h => by
    obtain ⟨ρ, env, mh, sh, se, p⟩ := h
    refine ⟨ρ, env, mh, sh, se, PostA.bindI p fun vs mh1 ρ1 xs H1 e l1 sh1 rv p1 => ?_⟩
    split at p1
    · rename_i n k
      cases rv with
      | cons r1 r2 =>
        cases r2 with
        | cons r2 r3 =>
          cases r3
          cases r1 with
          | @ref n a h =>
            cases r2 with
            | @ref k b h2 =>
              split at p1
              · rename_i q
                obtain ⟨q1, q2⟩ := Bool.and_eq_true_iff.mp q
                obtain ⟨vs, ws, _, s1, r1⟩ := isLst_below sh1 h q1
                obtain ⟨us, zs, _, s2, r2⟩ := isLst_below sh1 h2 q2
                exact ⟨a, b, ws, zs, rfl, .inl ⟨s1, s2, p1 ρ1 H1 _ .refl sh1 (jok_zipL h h2)⟩⟩
              · exact p1.elim
    · rename_i us zs
      cases rv with
      | cons r1 r2 =>
        cases r2 with
        | cons r2 r3 =>
          cases r3
          cases r1 with
          | tup h r1 =>
            cases r2 with
            | tup h2 r2 => exact ⟨_, _, _, _, rfl, .inr ⟨h, h2, p1 ρ1 H1 _ .refl sh1 (jok_zipT h h2 r1 r2)⟩⟩
    · exact p1.elim
end
end Ev
namespace L2
open PySem PySem.Spec PyProof.Rows
theorem PTs.imp {X : Cx} {es : List Expr} {t t' : TT} (h : PTs X es t) (k : ∀ σ H Q, t' σ H Q → t σ H Q) : PTs X es t' := ⟨fun pins s σ H Q I q => h.run pins s σ H Q I (k σ H Q q)⟩
end L2
namespace Ev
open PySem PySem.Spec PyProof.Rows L2 RZ
/-! ### list comprehensions -/
def wipeE (env : PEnv) : List Nat → PEnv
  | [] => env
  | v :: vs => (wipeE env vs).set v none
theorem wipeE_length (env : PEnv) : ∀ vs : List Nat, (wipeE env vs).length = env.length
  | [] => rfl
  | v :: vs => by unfold wipeE; rw [List.length_set, wipeE_length env vs]
theorem SimE.wipe {K : KW} {ρ : List Addr} {H : Hp} {env : PEnv} {σ : L2.St} (s : SimE K ρ H env σ) : ∀ vs : List Nat, SimE K ρ H (wipeE env vs) (L2.wipe σ vs)
  | [] => s
  | v :: vs => by
    have ih := SimE.wipe s vs
    refine ⟨by unfold wipeE L2.wipe; rw [List.length_set, List.length_set]; exact ih.len, fun i x e => ?_⟩
    unfold wipeE at e
    by_cases hv : v = i
    · subst hv
      rw [List.getElem?_set] at e
      simp at e
    · rw [List.getElem?_set_ne hv] at e
      obtain ⟨w, h1, h2⟩ := ih.at_ i x e
      unfold L2.wipe
      exact ⟨w, by rw [List.getElem?_set_ne hv]; exact h1, h2⟩
/-- y is put behind the list at d -/
def putL (d : Nat) (y : PV) (mh : MH) : Option MH := match mh[d]? with
  | some (.lst acc) => if acc.length < sizeLine then some (mh.set d (.lst (acc ++ [y]))) else none
  | _ => none
def compL (src : Src) (t : Tg) (mt : PEnv → MH → R Bool) (me : PEnv → MH → R PV) (d : Nat) : Nat → Nat → PEnv → MH → Option MH
  | 0, _, _, _ => none
  | fuel + 1, i, env, mh => match src.item mh i with
    | none => none
    | some none => some mh
    | some (some v) => match asg t v env mh with
      | none => none
      | some env2 => match mt env2 mh with
        | .ok true mh2 => match me env2 mh2 with
          | .ok y mh3 => match putL d y mh3 with
            | some mh4 => compL src t mt me d fuel (i + 1) env mh4
            | none => none
          | _ => none
        | .ok false mh2 => compL src t mt me d fuel (i + 1) env mh2
        | _ => none
def mComp (ms : PEnv → MH → R Src) (t : Tg) (mt : PEnv → MH → R Bool) (me : PEnv → MH → R PV) (own : List Nat) : PEnv → MH → R PV := fun env mh => (ms env mh).bind fun src mh1 =>
  match compL src t mt me mh1.length loopFuel 0 (wipeE env own) (mh1 ++ [.lst []]) with
  | some mh2 => .ok (.ref mh1.length) mh2
  | none => .bad
def mYes : PEnv → MH → R Bool := fun _ mh => .ok true mh
abbrev W0 : WX := fun _ _ _ _ => False
/-- y is appended below -/
theorem putL_below {K : KW} {ρ : List Addr} {H : Hp} {mh mh' : MH} {d : Nat} {D : Addr} {y : PV} {w : V} (sh : SimH K ρ mh H) (hd : ρ[d]? = some D) (r : RV K ρ H y w) (e : putL d y mh = some mh') :
    ∃ acc, H D = some (.lst acc) ∧ acc.length < sizeLine ∧ SimH K ρ mh' (upd H D (.lst (acc ++ [w]))) ∧ Le K ρ H ρ (upd H D (.lst (acc ++ [w]))) := by
  unfold putL at e
  split at e
  · rename_i acc q
    split at e
    · rename_i hz
      cases e
      obtain ⟨ws, h1, rs⟩ := sh.ob d _ D q hd
      have gr : Le K ρ H ρ (upd H D (.lst (ws ++ [w]))) := ⟨fun _ _ h => h, .of_mut h1 (fun _ z => nomatch z) (fun _ _ z => nomatch z)⟩
      obtain ⟨s1, l1⟩ := sh.write (o := .lst (ws ++ [w])) (mo := .lst (acc ++ [y])) hd h1 (fun _ z => nomatch z) (fun _ _ z => nomatch z) (fun _ z => nomatch z) ⟨_, upd_same, (rs.append (.cons r .nil)).mono gr⟩ (fun vs z => by rw [q] at z; cases z)
      exact ⟨ws, h1, by rw [← rs.length]; exact hz, s1, l1⟩
    · cases e
  · cases e
section
variable {X : Cx} {W : WX} {tg e a b c elt iter : Expr} {pos p : Pos} {ifs : List Expr} {scope : Scope} {own : List (Str × Nat)} {ms : PEnv → MH → R Src} {t : Tg} {mt : PEnv → MH → R Bool} {me : PEnv → MH → R PV}
theorem lc_imp {K : KW} {vs : List Nat} (sub : ∀ i ∈ t.slots, i ∈ vs) (σ : L2.St) (H : Hp) (Q : VK) (h : tE K W (mComp ms t mt me vs) σ H Q) : tLc (tI K W ms) (tG K t) (tTe K W0 mt) (tE K W0 me) vs σ H Q := by
  obtain ⟨ρ, env, mh, sh, se, p⟩ := h
  refine ⟨ρ, env, mh, sh, se, PostI.bind p fun src mh1 ρ1 J H1 _ l1 sh1 jo p1 => fun D hD => ?_⟩
  split at p1
  · rename_i mhF q
    have l0 : Le K ρ1 H1 (ρ1 ++ [D]) (upd H1 D (.lst [])) := ⟨fun n a h => by
      rw [List.getElem?_append_left (List.getElem?_eq_some_iff.mp h).1]; exact h, .of_new hD⟩
    obtain ⟨shD, lD, rD⟩ := sh1.alloc (o := .lst []) (mo := .lst []) hD ⟨[], upd_same, .nil⟩
    have hd0 : (ρ1 ++ [D])[mh1.length]? = some D := by
      cases rD with
      | ref h => exact h
    refine ⟨fun i m H => ∃ ρ2 mh2, Le K (ρ1 ++ [D]) (upd H1 D (.lst [])) ρ2 H ∧ SimH K ρ2 mh2 H ∧ compL src t mt me mh1.length m i (wipeE env vs) mh2 = some mhF, ⟨loopFuel, _, _, .refl, shD, q⟩, ?_⟩
    rintro i m H2 ⟨ρ2, mh2, l2, sh2, e2⟩
    cases m with
    | zero => simp [compL] at e2
    | succ m =>
      have j := jo ρ2 mh2 H2 i (lD.trans l2) sh2
      simp only [compL] at e2
      cases q1 : src.item mh2 i with
      | none => rw [q1] at e2; cases e2
      | some o =>
        rw [q1] at j e2
        cases o with
        | none =>
          cases e2
          exact .inl ⟨j, p1 ρ2 _ H2 (lD.trans l2) sh2 (.ref (l2.pre _ _ hd0))⟩
        | some v =>
          obtain ⟨jg, jy⟩ := j
          simp only at e2
          cases q2 : asg t v (wipeE env vs) mh2 with
          | none => rw [q2] at e2; cases e2
          | some env3 =>
            rw [q2] at e2
            simp only at e2
            refine .inr ⟨jg, fun H4 => ∃ ρ4 mh4, Le K (ρ1 ++ [D]) (upd H1 D (.lst [])) ρ4 H4 ∧ SimH K ρ4 mh4 H4 ∧ compL src t mt me mh1.length m (i + 1) (wipeE env vs) mh4 = some mhF, fun H4 w4 => ⟨m, Nat.lt_succ_self m, w4⟩, fun x H3 y => ?_⟩
            obtain ⟨l3, sh3, rv3⟩ := jy x H3 y
            have lx : Le K ρ H ρ2 H3 := ((l1.trans lD).trans l2).trans l3
            refine ⟨ρ2, wipeE env vs, mh2, v, env3, sh3, (se.mono lx).wipe vs, rv3, q2, fun σ3 se3 on3 => ⟨?_, ρ2, env3, mh2, sh3, se3, ?_⟩⟩
            · rw [on3.wipe vs sub]
              apply List.ext_getElem?
              intro i
              have key : ∀ (own : List Nat) (τ : L2.St) (i : Nat), (L2.wipe τ own)[i]? = if i ∈ own then (if i < τ.length then some none else none) else τ[i]? := by
                intro own τ
                induction own with
                | nil => intro i; simp [L2.wipe]
                | cons v own ih =>
                  intro i
                  simp only [L2.wipe]
                  by_cases hv : v = i
                  · subst hv
                    rw [List.getElem?_set]
                    simp [L2.wipe_length]
                  · rw [List.getElem?_set_ne hv, ih i]
                    have : (i ∈ v :: own) ↔ i ∈ own := by simp [Ne.symm hv]
                    simp only [this]
              rw [key vs (L2.wipe σ vs) i, key vs σ i, L2.wipe_length]
              by_cases hi : i ∈ vs
              · rw [if_pos hi, if_pos hi]
              · rw [if_neg hi, if_neg hi]
            · have l23 := l2.trans l3
              cases q3 : mt env3 mh2 with
              | bad => rw [q3] at e2; cases e2
              | exc _ _ _ => rw [q3] at e2; cases e2
              | ok k mh5 =>
                rw [q3] at e2
                intro ρ5 H5 l5 sh5
                cases k with
                | false => exact ⟨ρ5, mh5, l23.trans l5, sh5, e2⟩
                | true =>
                  refine ⟨ρ5, env3, mh5, sh5, se3.mono l5, ?_⟩
                  simp only at e2
                  cases q4 : me env3 mh5 with
                  | bad => rw [q4] at e2; cases e2
                  | exc _ _ _ => rw [q4] at e2; cases e2
                  | ok y mh6 =>
                    rw [q4] at e2
                    intro ρ6 w H6 l6 sh6 rv6
                    simp only at e2
                    cases q5 : putL mh1.length y mh6 with
                    | none => rw [q5] at e2; cases e2
                    | some mh7 =>
                      rw [q5] at e2
                      have l26 := (l23.trans l5).trans l6
                      obtain ⟨acc, a1, a2, a3, a4⟩ := putL_below sh6 (l26.pre _ _ hd0) rv6 q5
                      exact ⟨acc, a1, a2, ρ6, mh7, l26.trans a4, a3, e2⟩
  · exact p1.elim
theorem re_comp (hc : X.calm = true) (hN : X.N.Nodup) (hi : RI X W tg iter ms) (ok : BlkOk X.N X.env.scope scope own)
    (hg : ∀ (s : Shared) (H : Hp) (C : Addr) (cl : List (Str × Addr)) (fp : List Addr), PG (X.blk s H scope (compEnvC scope cl C X.env) fp) tg (tG X.kw t)) (ht : ∀ (s : Shared) (H : Hp) (C : Addr) (cl : List (Str × Addr)) (fp : List Addr), PTs (X.blk s H scope (compEnvC scope cl C X.env) fp) ifs (tTe X.kw W0 mt))
    (he : ∀ (s : Shared) (H : Hp) (C : Addr) (cl : List (Str × Addr)) (fp : List Addr), RE (X.blk s H scope (compEnvC scope cl C X.env) fp) W0 elt me) (hs : ∀ x, foldedSetIterable iter X.env x = pure x) (sub : ∀ i ∈ t.slots, i ∈ own.map (·.2)) :
    RE X W (.ListComp elt [⟨tg, iter, ifs, 0⟩] scope pos) (mComp ms t mt me (own.map (·.2))) :=
  (pe_lc hc hN hi ok hg ht he hs).imp fun σ H Q h => lc_imp sub σ H Q h
theorem rs_setLc {i : Nat} {y : Str} {py spos : Pos} (hc : X.calm = true) (hN : X.N.Nodup) (hy : X.N[i]? = some y) (hyl : X.env.scope.names.lookup y = some .local)
    (hsw : swapsWith (.ListComp elt [⟨tg, iter, ifs, 0⟩] scope pos) (some (.Name y py)) spos.line X.env = pure true) (hi : RI X W tg iter ms) (ok : BlkOk X.N X.env.scope scope own)
    (hg : ∀ (s : Shared) (H : Hp) (C : Addr) (cl : List (Str × Addr)) (fp : List Addr), PG (X.blk s H scope (compEnvC scope cl C X.env) fp) tg (tG X.kw t)) (ht : ∀ (s : Shared) (H : Hp) (C : Addr) (cl : List (Str × Addr)) (fp : List Addr), PTs (X.blk s H scope (compEnvC scope cl C X.env) fp) ifs (tTe X.kw W0 mt))
    (he : ∀ (s : Shared) (H : Hp) (C : Addr) (cl : List (Str × Addr)) (fp : List Addr), RE (X.blk s H scope (compEnvC scope cl C X.env) fp) W0 elt me) (hs : ∀ x, foldedSetIterable iter X.env x = pure x) (sub : ∀ i ∈ t.slots, i ∈ own.map (·.2)) :
    RSt X W (.Assign [.Name y py] (.ListComp elt [⟨tg, iter, ifs, 0⟩] scope pos) spos) (sAsg (mComp ms t mt me (own.map (·.2))) (.nm i)) :=
  (ps_setLc hc hN hy hyl hsw hi ok hg ht he hs).imp fun D σ H h => by
    have q : tAsg (tE X.kw W (mComp ms t mt me (own.map (·.2)))) (gName i) D σ H := by
      obtain ⟨ρ, env, mh, sh, se, p⟩ := h
      refine ⟨ρ, env, mh, sh, se, Post.bindS se p fun v mh1 ρ1 x H1 _ l1 sh1 rv p1 => ?_⟩
      exact p1 ρ1 _ H1 .refl sh1 ((se.mono l1).set rv i)
    exact lc_imp sub σ H _ q
theorem rts_nil : PTs X [] (tTe X.kw W mYes) := pts_nil.imp fun σ H Q h => by
  obtain ⟨ρ, env, mh, sh, se, p⟩ := h
  exact p ρ H .refl sh
theorem rts_one {c : Expr} (h : RT X W c mt) : PTs X [c] (tTe X.kw W mt) := pts_one h
end
end Ev
namespace Ev
open PySem PySem.Spec PyProof.Rows L2 RZ

/-! ### data -/
def allD (f : PV → Option PyData) : List PV → Option (List PyData)
  | [] => some []
  | v :: vs => match f v with
    | some d => match allD f vs with
      | some ds => some (d :: ds)
      | none => none
    | none => none
def keyD : Key → PyData
  | .inl i => .int i
  | .inr s => .str s
def keyPV : Key → PV
  | .inl i => .int i
  | .inr s => .str s
def kvD (f : PV → Option PyData) : List (Key × PV) → Option (List (PyData × PyData))
  | [] => some []
  | (k, v) :: vs => match f v with
    | some d => match kvD f vs with
      | some ds => some ((keyD k, d) :: ds)
      | none => none
    | none => none
/-- what a value is, to a depth -/
def toD : Nat → MH → PV → Option PyData
  | 0, _, _ => none
  | n + 1, mh, v => match v with
    | .non => some .none
    | .bl b => some (.bool b)
    | .int i => some (.int i)
    | .str s => some (.str s)
    | .tup vs => match allD (toD n mh) vs with
      | some ds => some (.tuple ds)
      | none => none
    | .ref k => match mh[k]? with
      | some (.lst vs) => match allD (toD n mh) vs with
        | some ds => some (.list ds)
        | none => none
      | some (.scr vs) => match allD (toD n mh) vs with
        | some ds => some (.list ds)
        | none => none
      | some (.dict kvs) => match kvD (toD n mh) kvs with
        | some ds => some (.dict ds)
        | none => none
      | _ => none
/-- without dicts -/
def hasD : PyData → Bool := PyData.hasDict
section
variable {K : KW} {ρ : List Addr} {H : Hp} {mh : MH}
theorem allD_dp {f : PV → Option PyData} (hf : ∀ v x d, RV K ρ H v x → f v = some d → d.hasDict = false → Dp K.k H x d) : ∀ {vs : List PV} {ws : List V} {ds : List PyData}, RVs K ρ H vs ws → allD f vs = some ds → PyData.hasDictAll ds = false → DpAll K.k H ws ds
  | _, _, _, .nil, e, _ => by
    simp only [allD, Option.some.injEq] at e
    subst e
    exact .nil
  | _, _, _, .cons r t, e, h => by
    simp only [allD] at e
    split at e
    · rename_i d e1
      split at e
      · rename_i ds e2
        cases e
        simp only [PyData.hasDictAll, Bool.or_eq_false_iff] at h
        exact .cons (hf _ _ _ r e1 h.1) (allD_dp hf t e2 h.2)
      · cases e
    · cases e
theorem toD_dp (sh : SimH K ρ mh H) : ∀ (n : Nat) (v : PV) (x : V) (d : PyData), RV K ρ H v x → toD n mh v = some d → d.hasDict = false → Dp K.k H x d
  | 0, _, _, _, _, e, _ => by simp [toD] at e
  | n + 1, v, x, d, r, e, h => by
    have ih := toD_dp sh n
    cases r with
    | non => simp only [toD, Option.some.injEq] at e; subst e; exact .non
    | bl b => simp only [toD, Option.some.injEq] at e; subst e; exact .bl b
    | int i => simp only [toD, Option.some.injEq] at e; subst e; exact .int i
    | str s => simp only [toD, Option.some.injEq] at e; subst e; exact .str s
    | tup hq rs =>
      simp only [toD] at e
      split at e
      · rename_i ds e1
        cases e
        exact .tup hq (allD_dp (fun v x d => ih v x d) rs e1 (by simpa [PyData.hasDict] using h))
      · cases e
    | @ref k a hk =>
      simp only [toD] at e
      split at e
      · rename_i vs q
        split at e
        · rename_i ds e1
          cases e
          obtain ⟨ws, h1, rs⟩ := sh.ob k _ a q hk
          exact .lst (.inl (.inl h1)) (allD_dp (fun v x d => ih v x d) rs e1 (by simpa [PyData.hasDict] using h))
        · cases e
      · rename_i vs q
        split at e
        · rename_i ds e1
          cases e
          obtain ⟨ws, h1, rs⟩ := sh.ob k _ a q hk
          exact .lst (h1.sq) (allD_dp (fun v x d => ih v x d) rs e1 (by simpa [PyData.hasDict] using h))
        · cases e
      · split at e
        · cases e
          simp [PyData.hasDict] at h
        · cases e
      · cases e
end
/-- the depth to which values are read -/
def dataFuel : Nat := 66
def eqD (v w : PV) (mh : MH) : Option Bool := match toD dataFuel mh v, toD dataFuel mh w with
  | some d, some e => if SeqAt.shaped d && SeqAt.shaped e then some (PyData.eqv d e) else none
  | _, _ => none
theorem shaped_nd {d : PyData} (h : SeqAt.shaped d = true) : d.hasDict = false := PyData.hasDict_of_canLay d (SeqAt.canLay_of_shaped h)
def neD (v w : PV) (mh : MH) : Option Bool := (eqD v w mh).map (!·)
section
variable {X : Cx}
theorem cv_eq (hu : X.A.units + 64 < cLine) : CmpV X .Eq eqD := by
  intro pins s σ H x y v u Q I rx ry h
  obtain ⟨ρ, mh, p, q, b, sh, r1, r2, e, k⟩ := h
  refine op_eqD hu pins s σ H x y v u Q I rx ry ?_
  unfold eqD at e
  split at e
  · rename_i d e' h1 h2
    split at e
    · rename_i hs
      obtain ⟨s1, s2⟩ := Bool.and_eq_true_iff.mp hs
      cases e
      exact ⟨d, e', toD_dp sh _ _ _ _ r1 h1 (shaped_nd s1), toD_dp sh _ _ _ _ r2 h2 (shaped_nd s2), s1, s2, k⟩
    · cases e
  · cases e
theorem cv_ne (hu : X.A.units + 64 < cLine) : CmpV X .NotEq neD := by
  intro pins s σ H x y v u Q I rx ry h
  obtain ⟨ρ, mh, p, q, b, sh, r1, r2, e, k⟩ := h
  refine op_neD hu pins s σ H x y v u Q I rx ry ?_
  unfold neD eqD at e
  split at e
  · rename_i d e' h1 h2
    split at e
    · rename_i hs
      obtain ⟨s1, s2⟩ := Bool.and_eq_true_iff.mp hs
      cases e
      exact ⟨d, e', toD_dp sh _ _ _ _ r1 h1 (shaped_nd s1), toD_dp sh _ _ _ _ r2 h2 (shaped_nd s2), s1, s2, k⟩
    · cases e
  · cases e
/-- order of ints, of texts -/
def cmpI (f : Int → Int → Bool) (g : List Nat → List Nat → Bool) (v w : PV) (_ : MH) : Option Bool := match v, w with
  | .int i, .int j => some (f i j)
  | .str i, .str j => some (g i.cps.toList j.cps.toList)
  | _, _ => none
def ltD := cmpI (fun i j => decide (i < j)) fun i j => decide (i < j)
def leD := cmpI (fun i j => decide (i ≤ j)) fun i j => !decide (j < i)
def gtD := cmpI (fun i j => decide (j < i)) fun i j => decide (j < i)
def geD := cmpI (fun i j => decide (j ≤ i)) fun i j => !decide (i < j)
theorem cv_cmpI {op : CmpOp} {f : Int → Int → Bool} {g : List Nat → List Nat → Bool} (h1 : OpR X (compareOp op) (rI0 fun i j => .bl (f i j))) (h2 : OpR X (compareOp op) (fun x y H Q => ∃ i j, x = .str i ∧ y = .str j ∧ Q (.bl (g i.cps.toList j.cps.toList)) H)) : CmpV X op (cmpI f g) := by
  intro pins s σ H x y v u Q I rx ry h
  obtain ⟨ρ, mh, p, q, b, sh, r1, r2, e, k⟩ := h
  cases r1 <;> cases r2 <;> first
    | (cases e; exact h1 pins s σ H _ _ v u Q I rx ry ⟨_, _, rfl, rfl, k⟩)
    | (cases e; exact h2 pins s σ H _ _ v u Q I rx ry ⟨_, _, rfl, rfl, k⟩)
    | cases e
theorem cv_lt : CmpV X .Lt ltD := cv_cmpI op_lt op_lt_str
theorem cv_le : CmpV X .LtE leD := cv_cmpI op_le op_le_str
theorem cv_gt : CmpV X .Gt gtD := cv_cmpI op_gt op_gt_str
theorem cv_ge : CmpV X .GtE geD := cv_cmpI op_ge op_ge_str
/-- is None, is a bool -/
def isD (v w : PV) (_ : MH) : Option Bool := match w with
  | .non => match v with
    | .non => some true
    | _ => some false
  | .bl b => match v with
    | .bl a => some (decide (a = b))
    | _ => none
  | _ => none
def isNotD (v w : PV) (mh : MH) : Option Bool := (isD v w mh).map (!·)
theorem cv_is : CmpV X .Is isD := by
  intro pins s σ H x y v u Q I rx ry h
  obtain ⟨ρ, mh, p, q, b, sh, r1, r2, e, k⟩ := h
  cases r2 with
  | non =>
    refine op_isN pins s σ H _ _ v u Q I rx ry ⟨rfl, ?_⟩
    cases r1 <;> (cases e; simpa using k)
  | bl c =>
    cases r1 <;> first
      | (cases e; exact op_isBl pins s σ H _ _ v u Q I rx ry ⟨_, _, rfl, rfl, k⟩)
      | cases e
  | _ => cases e
theorem cv_isNot : CmpV X .IsNot isNotD := by
  intro pins s σ H x y v u Q I rx ry h
  obtain ⟨ρ, mh, p, q, b, sh, r1, r2, e, k⟩ := h
  cases r2 with
  | non =>
    refine op_notN pins s σ H _ _ v u Q I rx ry ⟨rfl, ?_⟩
    cases r1 <;> (cases e; simpa using k)
  | bl c =>
    cases r1 <;> first
      | (cases e; exact op_notBl pins s σ H _ _ v u Q I rx ry ⟨_, _, rfl, rfl, k⟩)
      | cases e
  | _ => cases e
/-- flat values -/
def eqF : PV → PV → Option Bool
  | .non, .non => some true
  | .bl a, .bl b => some (a == b)
  | .bl a, .int b => some ((if a then 1 else 0) == b)
  | .int a, .bl b => some (a == (if b then 1 else 0))
  | .int a, .int b => some (a == b)
  | .str a, .str b => some (a == b)
  | .tup _, _ => none
  | _, .tup _ => none
  | .ref _, _ => none
  | _, .ref _ => none
  | _, _ => some false
/-- x in items, all flat -/
def inF (x : PV) : List PV → Option Bool
  | [] => match x with
    | .tup _ => none
    | .ref _ => none
    | _ => some false
  | y :: ys => match eqF y x, inF x ys with
    | some a, some b => some (a || b)
    | _, _ => none
def txtIn (x y : Str) : Bool := !(Builtin.Str.occurrences y x 0 y.length 1).isEmpty
def inD (v w : PV) (mh : MH) : Option Bool := match w with
  | .str y => match v with
    | .str x => some (txtIn x y)
    | _ => none
  | _ => match seqOf w mh with
    | some vs => inF v vs
    | none => none
def notInD (v w : PV) (mh : MH) : Option Bool := (inD v w mh).map (!·)
end
theorem eqF_below {K : KW} {ρ : List Addr} {H : Hp} {v w : PV} {x y : V} {b : Bool} (r1 : RV K ρ H v x) (r2 : RV K ρ H w y) (e : eqF v w = some b) : flatV x = true ∧ flatV y = true ∧ eqV x y = b := by
  cases r1 <;> cases r2 <;> first
    | (cases e; exact ⟨rfl, rfl, rfl⟩)
    | cases e
theorem inF_below {K : KW} {ρ : List Addr} {H : Hp} {v : PV} {x : V} (r1 : RV K ρ H v x) : ∀ {vs : List PV} {ws : List V} {b : Bool}, RVs K ρ H vs ws → inF v vs = some b → flatV x = true ∧ ws.all flatV = true ∧ inV x ws = b
  | _, _, _, .nil, e => by
    cases r1 <;> first
      | (cases e; exact ⟨rfl, rfl, rfl⟩)
      | cases e
  | _, _, _, .cons r t, e => by
    simp only [inF] at e
    split at e
    · rename_i a c h1 h2
      cases e
      obtain ⟨f1, f2, e1⟩ := eqF_below r r1 h1
      obtain ⟨g1, g2, e2⟩ := inF_below r1 t h2
      refine ⟨g1, by rw [List.all_cons, f1, g2]; rfl, ?_⟩
      unfold inV at e2 ⊢
      rw [List.any_cons, e1, e2]
    · cases e
section
variable {X : Cx}
theorem cv_in : CmpV X .In inD := by
  intro pins s σ H x y v u Q I rx ry h
  obtain ⟨ρ, mh, p, q, b, sh, r1, r2, e, k⟩ := h
  have main : (∃ vs, seqOf q mh = some vs ∧ inF p vs = some b) → wpAny (model X.prog X.w) X.A (compareOp .In v u) (EP X pins σ Q) X.xe s := fun ⟨vs, e1, e2⟩ => by
    obtain ⟨a, ws, rfl, rs, z⟩ := seq_below sh r2 e1
    obtain ⟨f1, f2, e3⟩ := inF_below r1 rs e2
    refine op_in_seq pins s σ H x _ v u Q I rx ry ⟨a, ws, rfl, ?_, f1, f2, ?_⟩
    · rcases z with ⟨z, _⟩ | ⟨z, _⟩
      · exact .inr z
      · exact .inl z
    · simp only [Bool.false_eq_true, if_false]
      rw [e3]
      exact k
  cases r2 with
  | str s2 =>
    cases r1 <;> first
      | (cases e; exact op_in_str pins s σ H _ _ v u Q I rx ry ⟨_, _, rfl, rfl, k⟩)
      | cases e
  | tup hq rs =>
    refine main ⟨_, rfl, ?_⟩
    exact e
  | @ref n a hq =>
    simp only [inD] at e
    split at e
    · rename_i vs e1
      exact main ⟨vs, e1, e⟩
    · cases e
  | _ => cases e
theorem cv_notIn : CmpV X .NotIn notInD := by
  intro pins s σ H x y v u Q I rx ry h
  obtain ⟨ρ, mh, p, q, b, sh, r1, r2, e, k⟩ := h
  unfold notInD at e
  obtain ⟨b', e', eb⟩ := Option.map_eq_some_iff.mp e
  subst eb
  clear e
  have e := e'
  clear e'
  have main : (∃ vs, seqOf q mh = some vs ∧ inF p vs = some b') → wpAny (model X.prog X.w) X.A (compareOp .NotIn v u) (EP X pins σ Q) X.xe s := fun ⟨vs, e1, e2⟩ => by
    obtain ⟨a, ws, rfl, rs, z⟩ := seq_below sh r2 e1
    obtain ⟨f1, f2, e3⟩ := inF_below r1 rs e2
    refine op_notIn_seq pins s σ H x _ v u Q I rx ry ⟨a, ws, rfl, ?_, f1, f2, ?_⟩
    · rcases z with ⟨z, _⟩ | ⟨z, _⟩
      · exact .inr z
      · exact .inl z
    · simp only [if_true]
      rw [e3]
      exact k
  cases r2 with
  | str s2 =>
    cases r1 <;> first
      | (cases e; exact op_notIn_str pins s σ H _ _ v u Q I rx ry ⟨_, _, rfl, rfl, k⟩)
      | cases e
  | tup hq rs =>
    refine main ⟨_, rfl, ?_⟩
    exact e
  | @ref n a hq =>
    simp only [inD] at e
    split at e
    · rename_i vs e1
      exact main ⟨vs, e1, e⟩
    · cases e
  | _ => cases e
end
end Ev
namespace Ev
open PySem PySem.Spec PyProof.Rows L2 RZ HT
/-- t * 1, () * k: the tuple itself -/
theorem tmul_self (l : Addr) (items : Array Value) (n : Nat) (dd : Option Addr) (sl : Array (Option Value)) (x : Int) (u : Tok) (c0 : (decide (x < -(2 ^ 63)) || decide (x ≥ 2 ^ 63)) = false) (c1 : (items.isEmpty || x == 1) = true) :
    Meets (Builtin.«tuple.__mul__» ⟨[.ref l, .int x u], []⟩) (fun _ R s => s.heap.get? l = some { cls := .type "tuple", dict := dd, data := .seq items n, slots := sl } ∧ R (.ok (.ret (.ref l))) s) :=
  .of_wp fun prog w A R s h => by
    obtain ⟨hp, g, d, tk, os⟩ := s
    obtain ⟨hl, h⟩ := h
    have f1 := AutoSeq1.idx_int
    wp_walk using wpAny_loadPart' hl
    repeat (first
      | (refine wpAny_ite_false (decide_eq_false (by rw [c0]; exact Bool.false_ne_true)) ?_; wp_walk using wpAny_loadPart' hl)
      | (refine wpAny_ite_true (decide_eq_true (by rw [c1])) ?_; wp_walk using wpAny_loadPart' hl))
    exact ⟨_, rfl, h⟩
/-- t * k, k below one: a new empty tuple -/
theorem tmul_none (l : Addr) (items : Array Value) (n : Nat) (dd : Option Addr) (sl : Array (Option Value)) (x : Int) (u : Tok) (c0 : (decide (x < -(2 ^ 63)) || decide (x ≥ 2 ^ 63)) = false) (c1 : (items.isEmpty || x == 1) = false) (c2 : (decide (x ≤ 0) || items.isEmpty) = true) :
    Meets (Builtin.«tuple.__mul__» ⟨[.ref l, .int x u], []⟩) (fun _ R s => s.heap.get? l = some { cls := .type "tuple", dict := dd, data := .seq items n, slots := sl } ∧
      R (.ok (.ret (.ref s.heap.objs.size))) { s with heap := s.heap.push { cls := .type "tuple", data := .seq #[] } }) :=
  .of_wp fun prog w A R s h => by
    obtain ⟨hp, g, d, tk, os⟩ := s
    obtain ⟨hl, h⟩ := h
    have f1 := AutoSeq1.idx_int
    wp_walk using wpAny_loadPart' hl
    repeat (first
      | (refine wpAny_ite_false (decide_eq_false (by rw [c0]; exact Bool.false_ne_true)) ?_; wp_walk using wpAny_loadPart' hl)
      | (refine wpAny_ite_false (decide_eq_false (by rw [c1]; exact Bool.false_ne_true)) ?_; wp_walk using wpAny_loadPart' hl)
      | (refine wpAny_ite_true (decide_eq_true (by rw [c2])) ?_; wp_walk using wpAny_loadPart' hl))
    exact ⟨_, rfl, h⟩
/-- tuple * int -/
def rRepTA (K : PySem.W.Frag) : R2 := fun x y H Q => ∃ l k xs, x = .ref l ∧ y = .int k ∧ SqT K H l xs ∧ -1000 ≤ k ∧ k ≤ 1000 ∧ xs.length ≤ 1000 ∧ (xs = [] ∨ k = 1 → Q (.ref l) H) ∧ (xs ≠ [] → k ≠ 1 → ∀ p, H p = none → Q (.ref p) (upd H p (.tup (List.replicate k.toNat xs).flatten)))
section
variable {X : Cx}
theorem op_repTA : OpR X (binaryOp .Mult) (rRepTA X.K) := by
  intro pins s σ H x y v u Q I rx ry h
  obtain ⟨l, k, xs, rfl, rfl, hT, h1, h2, hz, q1, q2⟩ := h
  have rx0 := rx
  have ry0 := ry
  cases rx
  obtain ⟨t, rfl⟩ := ry
  obtain ⟨its, r, ⟨⟨cls, dd, data, sl⟩, ho, hc, n, hd⟩, hs⟩ := I.tuple hT
  simp only at hc hd
  subst hc hd
  have hle : its.length = xs.length := r.length.symm
  have c0 : (decide (k < -(2 ^ 63)) || decide (k ≥ 2 ^ 63)) = false := by
    rw [decide_eq_false (by omega), decide_eq_false (by omega)]
    rfl
  have road : ∀ {Q' : Value → Shared → Prop} {Pm : Result → Shared → Prop}, True := fun {_ _} => trivial
  by_cases hself : xs = [] ∨ k = 1
  · have c1 : (its.toArray.isEmpty || k == 1) = true := by
      rcases hself with e | e
      · subst e
        have : its = [] := List.eq_nil_of_length_eq_zero hle
        subst this
        rfl
      · subst e
        simp
    refine wpAny_binaryOp_repeat_ref (T := "tuple") (U := "int") (by decide) ⟨_, ho, rfl⟩ (fun s' => typeIs_int s' k t) noFill_tuple_mul F.fills_int_mul F.slot_int_rmul repeat_tuple F.slot_int_index.lookup
      (call_meets F.slot_int_rmul (typeIs_int s k t) F.entry_int_rmul (F.args_int_rmul_2 _ _) (int_rmul_tuple k t l its.toArray n dd sl)
        ⟨ho, rfl, ⟨_, ho, rfl⟩, call_meets F.slot_tuple_mul ⟨_, ho, rfl⟩ F.entry_tuple_mul (F.args_tuple_mul_2 _ _) (tmul_self l its.toArray n dd sl k t c0 c1) ⟨ho, ?_⟩⟩)
    exact ⟨.ref l, H, I, rfl, q1 hself⟩
  · have hne : xs ≠ [] := fun e => hself (.inl e)
    have hk1 : k ≠ 1 := fun e => hself (.inr e)
    by_cases hk : 2 ≤ k
    · exact op_repT pins s σ H _ _ _ _ Q I rx0 ry0 ⟨l, k, xs, rfl, rfl, hT, hne, hk, h2, hz, q2 hne hk1⟩
    · have hn : its ≠ [] := fun e => hne (by
        rw [e] at hle
        exact List.eq_nil_of_length_eq_zero hle.symm)
      have hi : its.toArray.isEmpty = false := by
        cases its with
        | nil => exact absurd rfl hn
        | cons a b => rfl
      have c1 : (its.toArray.isEmpty || k == 1) = false := by
        rw [hi, Bool.false_or]
        exact beq_eq_false_iff_ne.mpr hk1
      have c2 : (decide (k ≤ 0) || its.toArray.isEmpty) = true := by
        rw [decide_eq_true (by omega)]
        rfl
      refine wpAny_binaryOp_repeat_ref (T := "tuple") (U := "int") (by decide) ⟨_, ho, rfl⟩ (fun s' => typeIs_int s' k t) noFill_tuple_mul F.fills_int_mul F.slot_int_rmul repeat_tuple F.slot_int_index.lookup
        (call_meets F.slot_int_rmul (typeIs_int s k t) F.entry_int_rmul (F.args_int_rmul_2 _ _) (int_rmul_tuple k t l its.toArray n dd sl)
          ⟨ho, rfl, ⟨_, ho, rfl⟩, call_meets F.slot_tuple_mul ⟨_, ho, rfl⟩ F.entry_tuple_mul (F.args_tuple_mul_2 _ _) (tmul_none l its.toArray n dd sl k t c0 c1 c2) ⟨ho, ?_⟩⟩)
      have hf := q2 hne hk1 _ (I.hok.fresh (Nat.le_refl _))
      have e0 : k.toNat = 0 := by omega
      rw [e0] at hf
      refine ⟨.ref s.heap.objs.size, _, I.laid (t' := s.toks) (o := .tup []) (fun b ob q => Heap.get?_push_of_some _ q) (Nat.le_refl _) ?_, rfl, hf⟩
      exact ⟨Nat.zero_le _, [], .nil, IsTup.new _ _⟩
end

/-! ### t[::-1] of a tuple -/
theorem rev_pick (xs : Array Value) : ((List.range xs.size).filterMap fun (m : Nat) => xs[(((xs.size : Int) - 1) + (m : Int) * (-1)).toNat]?).toArray = xs.toList.reverse.toArray := by
  congr 1
  apply List.ext_getElem?
  intro i
  have e : ∀ (l : List Nat), (∀ m ∈ l, m < xs.size) → (l.filterMap fun (m : Nat) => xs[(((xs.size : Int) - 1) + (m : Int) * (-1)).toNat]?) = l.map fun m => xs.toList.getD (xs.size - 1 - m) .none := by
    intro l
    induction l with
    | nil => intro _; rfl
    | cons m l ih =>
      intro hl
      have hm := hl m (by simp)
      have e1 : (((xs.size : Int) - 1) + (m : Int) * (-1)).toNat = xs.size - 1 - m := by omega
      have hlt : xs.size - 1 - m < xs.size := by omega
      rw [List.filterMap_cons, List.map_cons, e1, Array.getElem?_eq_getElem hlt, ih fun k hk => hl k (List.mem_cons_of_mem _ hk)]
      simp [List.getD, hlt]
  rw [e _ (fun m hm => List.mem_range.mp hm), List.getElem?_map]
  by_cases hi : i < xs.size
  · rw [List.getElem?_range hi, List.getElem?_reverse (by simpa using hi)]
    have : xs.toList.length - 1 - i < xs.toList.length := by rw [Array.length_toList]; omega
    have hz : xs.toList.length = xs.size := Array.length_toList
    simp only [List.getD, Option.map_some]
    rw [List.getElem?_eq_getElem (by omega), List.getElem?_eq_getElem (by omega)]
    simp only [Option.getD_some, hz]
  · rw [List.getElem?_eq_none (by simpa using hi), List.getElem?_eq_none (by simpa using hi)]
    rfl
theorem getItem_tuple_rev {prog : Program} {w : World} {A : Around} {E : Value → Shared → Prop} {s : Shared} {t sl : Addr} {items : Array Value} {vs : Value} {Q : Value → Shared → Prop} (ht : IsTup s.heap t items) (hs : s.heap.IsSliceOf sl .none .none vs) (ps : IsPart vs (some (-1)))
    (h : Q (.ref s.heap.objs.size) { s with heap := s.heap.push { cls := .type "tuple", data := .seq items.toList.reverse.toArray } }) (hsz : items.size ≤ sizeLine) : wpAny (model prog w) A (getItem (.ref t) (.ref sl)) Q E s := by
  obtain ⟨os, hos, hcs, hds⟩ := id hs
  have hTs : s.TypeIs (.ref sl) "slice" := ⟨os, hos, hcs⟩
  have hn : 0 ≤ (items.size : Int) := Int.natCast_nonneg _
  unfold getItem
  try with_reducible refine wpAny_holding ?_
  first | refine wpAny_bind (wpAny_pure ?_) | skip
  refine wpAny_bind (wpAny_sequenceKey ht.typeIs (by decide) ?_)
  refine wpAny_bind (wpAny_callSpecial?_slot (name := Str.ofString "__getitem__") ht.typeIs PyProof.Rows.slot_tuple_getitem
    (wpAny_call_entry PyProof.Rows.slot_tuple_getitem ht.typeIs entry_tuple_getitem ?_ (args_tuple_getitem _ _)))
  show wpAny _ _ (Builtin.Tuple.tupleItemsOf (.ref t) >>= _) _ _ s
  refine wpAny_bind (tupleItemsOf_ ht ?_)
  refine wpAny_bind (wpAny_typeOf hTs ?_)
  rw [if_pos (by decide)]
  have ap : ∀ {Q' : Int × Int × Nat → Shared → Prop}, Q' ((items.size : Int) - 1, -1, items.size) s → wpAny (model prog w) (A.in1) (Builtin.Slice.sliceApplied (.ref sl) (pure (items.size : Int))) Q' E s := by
    intro Q' hq
    unfold Builtin.Slice.sliceApplied Builtin.Slice.sliceFields
    refine wpAny_bind (wpAny_bind (wpAny_field hos hds (x := .none) rfl (wpAny_bind (wpAny_field hos hds (x := .none) rfl (wpAny_bind (wpAny_field hos hds (x := vs) rfl (wpAny_pure ?_)))))))
    refine wpAny_bind (slicePart_ ps ?_)
    show wpAny _ _ (if ((-1 : Int) == 0) = true then _ else _) _ _ s
    rw [if_neg (by decide)]
    refine wpAny_bind (slicePart_ .none (wpAny_bind (slicePart_ .none (wpAny_bind (wpAny_pure ?_)))))
    show wpAny _ _ (match Builtin.Slice.sliceAdjust none none (-1) (items.size : Int) with | (lo, hi) => pure (lo, (-1 : Int), Builtin.Slice.slicePlaces lo hi (-1))) _ _ s
    have e1 : Builtin.Slice.sliceAdjust none none (-1) (items.size : Int) = ((items.size : Int) - 1, -1) := by
      unfold Builtin.Slice.sliceAdjust
      simp
    rw [e1]
    show wpAny _ _ (pure ((items.size : Int) - 1, (-1 : Int), Builtin.Slice.slicePlaces ((items.size : Int) - 1) (-1) (-1))) _ _ s
    have e2 : Builtin.Slice.slicePlaces ((items.size : Int) - 1) (-1) (-1) = items.size := by
      unfold Builtin.Slice.slicePlaces
      simp
      split <;> omega
    rw [e2]
    exact wpAny_pure hq
  refine wpAny_bind (ap ?_)
  show wpAny _ _ (if (((items.size : Int) - 1) == 0 && (-1 : Int) == 1 && items.size == items.size) = true then _ else _) _ _ s
  have hno : ¬ ((((items.size : Int) - 1) == 0 && (-1 : Int) == 1 && items.size == items.size) = true) := by
    simp
  rw [if_neg hno, rev_pick]
  have htake : sizeOk (.seq items.toList.reverse.toArray) := by
    show items.toList.reverse.toArray.size ≤ sizeLine
    simpa using hsz
  first
    | exact wpAny_bind (m := Builtin.Tuple.tupleExact _) (wpAny_newObj_type (wpAny_pure ⟨_, rfl, wpAny_pure h⟩) htake)
    | exact wpAny_bind (m := Builtin.Tuple.tupleExact _) (wpAny_newObj_type (wpAny_bind (wpAny_pure (wpAny_pure ⟨_, rfl, wpAny_pure h⟩))) htake)
end Ev
namespace Ev
open PySem PySem.Spec PyProof.Rows L2 RZ
/-! ### arithmetic -/
def lstOf (mh : MH) (n : Nat) : Option (List PV) := match mh[n]? with
  | some (.lst vs) => some vs
  | _ => none
def opAdd : Op2 := fun v w mh => match v, w with
  | .int i, .int j => .ok (.int (i + j)) mh
  | .str x, .str y => if x.length + y.length ≤ sizeLine then .ok (.str (x ++ y)) mh else .bad
  | .tup xs, .tup ys => if xs.length + ys.length ≤ sizeLine then .ok (.tup (xs ++ ys)) mh else .bad
  | .ref n, .ref k => match lstOf mh n, lstOf mh k with
    | some xs, some ys => if xs.length + ys.length ≤ sizeLine then .ok (.ref mh.length) (mh ++ [.lst (xs ++ ys)]) else .bad
    | _, _ => .bad
  | _, _ => .bad
def opSub : Op2 := fun v w mh => match v, w with
  | .int i, .int j => .ok (.int (i - j)) mh
  | _, _ => .bad
def rep {α : Type} (xs : List α) (k : Int) : List α := (List.replicate k.toNat xs).flatten
def opMul : Op2 := fun v w mh => match v, w with
  | .int i, .int j => if i.natAbs.log2 + j.natAbs.log2 < 1000000 then .ok (.int (i * j)) mh else .bad
  | .tup xs, .int k => if -1000 ≤ k ∧ k ≤ 1000 ∧ xs.length ≤ 1000 then .ok (.tup (rep xs k)) mh else .bad
  | .ref n, .int k => match lstOf mh n with
    | some xs => if -1000 ≤ k ∧ k ≤ 1000 ∧ xs.length ≤ 1000 then .ok (.ref mh.length) (mh ++ [.lst (rep xs k)]) else .bad
    | none => .bad
  | _, _ => .bad
def opDiv : Op2 := fun v w mh => match v, w with
  | .int i, .int j => if 0 < j ∧ j.natAbs.log2 < 9000 then .ok (.int (i / j)) mh else .bad
  | _, _ => .bad
def opMod : Op2 := fun v w mh => match v, w with
  | .int i, .int j => if 0 < j then .ok (.int (i % j)) mh else .bad
  | _, _ => .bad
def opPow : Op2 := fun v w mh => match v, w with
  | .int i, .int j => if 0 ≤ j ∧ j ≤ 1000 ∧ i.natAbs.log2 < 10000 then .ok (.int (i ^ j.toNat)) mh else .bad
  | _, _ => .bad
def opNeg : Op1 := fun v mh => match v with
  | .int i => .ok (.int (-i)) mh
  | _ => .bad
theorem q_add : Quiet2 opAdd := fun v w mh c u h e => by
  unfold opAdd at e
  repeat' split at e
  all_goals cases e
theorem q_sub : Quiet2 opSub := fun v w mh c u h e => by
  unfold opSub at e
  repeat' split at e
  all_goals cases e
theorem q_mul : Quiet2 opMul := fun v w mh c u h e => by
  unfold opMul at e
  repeat' split at e
  all_goals cases e
theorem q_div : Quiet2 opDiv := fun v w mh c u h e => by
  unfold opDiv at e
  repeat' split at e
  all_goals cases e
theorem q_mod : Quiet2 opMod := fun v w mh c u h e => by
  unfold opMod at e
  repeat' split at e
  all_goals cases e
theorem q_pow : Quiet2 opPow := fun v w mh c u h e => by
  unfold opPow at e
  repeat' split at e
  all_goals cases e
theorem q_neg : Quiet1 opNeg := fun v mh c u h e => by
  unfold opNeg at e
  repeat' split at e
  all_goals cases e
section
variable {K : KW} {ρ : List Addr} {H : Hp} {mh : MH}
theorem lstOf_below {n : Nat} {a : Addr} {vs : List PV} (sh : SimH K ρ mh H) (h : ρ[n]? = some a) (e : lstOf mh n = some vs) : ∃ ws, H a = some (.lst ws) ∧ RVs K ρ H vs ws := by
  unfold lstOf at e
  split at e
  · rename_i us q
    cases e
    exact sh.ob n _ a q h
  · cases e
theorem RVs.rep {vs : List PV} {ws : List V} (r : RVs K ρ H vs ws) : ∀ k : Nat, RVs K ρ H (List.replicate k vs).flatten (List.replicate k ws).flatten
  | 0 => .nil
  | k + 1 => by
    rw [List.replicate_succ, List.replicate_succ, List.flatten_cons, List.flatten_cons]
    exact r.append (RVs.rep r k)
theorem RVs.nil_iff {vs : List PV} {ws : List V} (r : RVs K ρ H vs ws) : vs = [] ↔ ws = [] := by
  cases r with
  | nil => exact ⟨fun _ => rfl, fun _ => rfl⟩
  | cons _ _ => exact ⟨fun h => (nomatch h), fun h => (nomatch h)⟩
end
section
variable {X : Cx}
theorem ov_add : OpV X (binaryOp .Add) opAdd := by
  intro pins s σ H x y v u Q I rx ry h
  obtain ⟨ρ, mh, p, q, sh, r1, r2, k⟩ := h
  unfold opAdd at k
  split at k
  · cases r1; cases r2
    exact op_add pins s σ H _ _ v u Q I rx ry ⟨_, _, rfl, rfl, k.mk sh (.int _)⟩
  · cases r1; cases r2
    split at k
    · rename_i hz
      exact op_add_str pins s σ H _ _ v u Q I rx ry ⟨_, _, rfl, rfl, hz, k.mk sh (.str _)⟩
    · exact k.elim
  · rename_i xs ys
    cases r1 with
    | @tup _ ws a h1 t1 =>
      cases r2 with
      | @tup _ zs b h2 t2 =>
        split at k
        · rename_i hz
          refine op_catA pins s σ H _ _ v u Q I rx ry ⟨a, b, ws, zs, rfl, rfl, h1, h2, by rw [← t1.length, ← t2.length]; exact hz, fun e => ?_, fun e1 e2 => ?_, fun e1 e2 p hp => k.newTup sh (t1.append t2) hp⟩
          · have : xs = [] := (t1.nil_iff).mpr e
            subst this
            exact k.mk sh (.tup h2 t2)
          · have : ys = [] := (t2.nil_iff).mpr e2
            subst this
            rw [List.append_nil] at k
            exact k.mk sh (.tup h1 t1)
        · exact k.elim
  · rename_i n m
    split at k
    · rename_i xs ys e1 e2
      cases r1 with
      | @ref _ a h1 =>
        cases r2 with
        | @ref _ b h2 =>
          obtain ⟨ws, p1, t1⟩ := lstOf_below sh h1 e1
          obtain ⟨zs, p2, t2⟩ := lstOf_below sh h2 e2
          split at k
          · rename_i hz
            exact op_cat pins s σ H _ _ v u Q I rx ry ⟨a, b, ws, zs, rfl, rfl, p1, p2, by rw [← t1.length, ← t2.length]; exact hz, fun p hp => k.newLst sh (t1.append t2) hp⟩
          · exact k.elim
    · exact k.elim
  · exact k.elim
theorem ov_sub : OpV X (binaryOp .Sub) opSub := by
  intro pins s σ H x y v u Q I rx ry h
  obtain ⟨ρ, mh, p, q, sh, r1, r2, k⟩ := h
  unfold opSub at k
  split at k
  · cases r1; cases r2
    exact op_sub pins s σ H _ _ v u Q I rx ry ⟨_, _, rfl, rfl, k.mk sh (.int _)⟩
  · exact k.elim
theorem ov_mul : OpV X (binaryOp .Mult) opMul := by
  intro pins s σ H x y v u Q I rx ry h
  obtain ⟨ρ, mh, p, q, sh, r1, r2, k⟩ := h
  unfold opMul at k
  split at k
  · cases r1; cases r2
    split at k
    · rename_i hz
      exact op_mulW pins s σ H _ _ v u Q I rx ry ⟨_, _, rfl, rfl, hz, k.mk sh (.int _)⟩
    · exact k.elim
  · rename_i xs j
    cases r1 with
    | @tup _ ws a h1 t1 =>
      cases r2
      split at k
      · rename_i hz
        obtain ⟨z1, z2, z3⟩ := hz
        refine op_repTA pins s σ H _ _ v u Q I rx ry ⟨a, j, ws, rfl, rfl, h1, z1, z2, by rw [← t1.length]; exact z3, fun e => ?_, fun e1 e2 p hp => k.newTup sh (t1.rep j.toNat) hp⟩
        have er : rep xs j = xs := by
          rcases e with e | e
          · have : xs = [] := (t1.nil_iff).mpr e
            subst this
            unfold rep
            rw [List.flatten_eq_nil_iff]
            intro l hl
            exact (List.eq_of_mem_replicate hl)
          · subst e
            unfold rep
            simp
        rw [er] at k
        exact k.mk sh (.tup h1 t1)
      · exact k.elim
  · rename_i n j
    split at k
    · rename_i xs e1
      cases r1 with
      | @ref _ a h1 =>
        cases r2
        obtain ⟨ws, p1, t1⟩ := lstOf_below sh h1 e1
        split at k
        · rename_i hz
          obtain ⟨z1, z2, z3⟩ := hz
          refine op_rep pins s σ H _ _ v u Q I rx ry ⟨a, j, ws, rfl, rfl, p1, by omega, by omega, ?_, fun p hp => k.newLst sh (t1.rep j.toNat) hp⟩
          rw [← t1.length, sizeLine_eq]
          have : xs.length * j.toNat ≤ 1000 * 1000 := Nat.mul_le_mul z3 (by omega)
          omega
        · exact k.elim
    · exact k.elim
  · exact k.elim
theorem ov_div : OpV X (binaryOp .FloorDiv) opDiv := by
  intro pins s σ H x y v u Q I rx ry h
  obtain ⟨ρ, mh, p, q, sh, r1, r2, k⟩ := h
  unfold opDiv at k
  split at k
  · cases r1; cases r2
    split at k
    · rename_i hz
      exact op_fdivW pins s σ H _ _ v u Q I rx ry ⟨_, _, rfl, rfl, hz, k.mk sh (.int _)⟩
    · exact k.elim
  · exact k.elim
theorem ov_mod : OpV X (binaryOp .Mod) opMod := by
  intro pins s σ H x y v u Q I rx ry h
  obtain ⟨ρ, mh, p, q, sh, r1, r2, k⟩ := h
  unfold opMod at k
  split at k
  · cases r1; cases r2
    split at k
    · rename_i hz
      exact op_mod pins s σ H _ _ v u Q I rx ry ⟨_, _, rfl, rfl, hz, k.mk sh (.int _)⟩
    · exact k.elim
  · exact k.elim
theorem op_powW : OpR X (binaryOp .Pow) (rI (fun i j => 0 ≤ j ∧ j ≤ 1000 ∧ i.natAbs.log2 < 10000) fun i j => .int (i ^ j.toNat)) := opI fun i j _ _ _ _ _ hc q => by
  obtain ⟨h1, h2, h3⟩ := hc
  refine pow_int h1 ?_ q
  have hb : Builtin.Int.intBits i ≤ i.natAbs.log2 + 1 := by
    unfold Builtin.Int.intBits
    split <;> omega
  have hb2 : (Builtin.Int.intBits i : Int) ≤ 10001 := by omega
  have hb0 : (0 : Int) ≤ (Builtin.Int.intBits i : Int) := Int.natCast_nonneg _
  have : (Builtin.Int.intBits i : Int) * j ≤ 10001 * 1000 := Int.mul_le_mul hb2 h2 h1 (by omega)
  omega
theorem ov_pow : OpV X (binaryOp .Pow) opPow := by
  intro pins s σ H x y v u Q I rx ry h
  obtain ⟨ρ, mh, p, q, sh, r1, r2, k⟩ := h
  unfold opPow at k
  split at k
  · cases r1; cases r2
    split at k
    · rename_i hz
      exact op_powW pins s σ H _ _ v u Q I rx ry ⟨_, _, rfl, rfl, hz, k.mk sh (.int _)⟩
    · exact k.elim
  · exact k.elim
theorem uv_neg : UnV X (unaryOp .USub) opNeg := by
  intro pins s σ H x v Q I rx h
  obtain ⟨ρ, mh, p, sh, r1, k⟩ := h
  unfold opNeg at k
  split at k
  · cases r1
    exact un_neg pins s σ H _ v Q I rx ⟨_, rfl, k.mk sh (.int _)⟩
  · exact k.elim
end

/-! ### places, slices -/
def ixPV (v w : PV) (mh : MH) : Option PV := match w with
  | .int i => match v with
    | .str z => if z.length ≤ sizeLine then (atI z.cps.toList i).map fun c => .str ⟨#[c]⟩ else none
    | _ => match seqOf v mh with
      | some vs => atI vs i
      | none => none
  | _ => none
def opIx : Op2 := fun v w mh => match ixPV v w mh with
  | some r => .ok r mh
  | none => .bad
theorem q_ix : Quiet2 opIx := fun v w mh c u h e => by
  unfold opIx at e
  split at e <;> cases e
theorem atI_below {K : KW} {ρ : List Addr} {H : Hp} {vs : List PV} {ws : List V} {i : Int} {v : PV} (r : RVs K ρ H vs ws) (e : atI vs i = some v) : ∃ w, atI ws i = some w ∧ RV K ρ H v w := by
  unfold atI at e ⊢
  rw [← r.length]
  cases q : ixN vs.length i with
  | none => rw [q] at e; cases e
  | some j =>
    rw [q] at e
    exact r.get e
section
variable {X : Cx} {W : WX} {a b e : Expr} {pos p2 : Pos} {ma mb : PEnv → MH → R PV}
theorem re_ix (ha : RE X W a ma) (hb : RE X W b mb) (hs : PlainIx b) : RE X W (.Subscript a b pos) (mBin opIx ma mb) :=
  (pe_ix ix_seq ha hb hs).imp fun σ H Q h => bin_imp q_ix (fun x y H Q q => by
    obtain ⟨ρ, mh, v, w, sh, r1, r2, k⟩ := q
    unfold opIx at k
    split at k
    · rename_i r e
      unfold ixPV at e
      cases r2 with
      | int i =>
        cases r1 with
        | str z =>
          simp only at e
          split at e
          · rename_i hz
            obtain ⟨c, e1, e2⟩ := Option.map_eq_some_iff.mp e
            subst e2
            exact .inr (.inr ⟨z, i, c, rfl, rfl, hz, e1, k.mk sh (.str _)⟩)
          · cases e
        | @tup vs ws a h1 t1 =>
          have e' : atI vs i = some r := e
          obtain ⟨y, e1, ry⟩ := atI_below t1 e'
          exact .inr (.inl ⟨a, ws, i, y, rfl, rfl, h1, e1, k.mk sh ry⟩)
        | @ref n a h1 =>
          simp only at e
          split at e
          · rename_i vs e2
            obtain ⟨a', ws, e3, rs, z⟩ := seq_below sh (.ref h1) e2
            cases e3
            obtain ⟨y, e1, ry⟩ := atI_below rs e
            rcases z with ⟨z, _, z2⟩ | ⟨z, _⟩
            · cases z2
            · exact .inl ⟨a, ws, i, y, rfl, rfl, z, e1, k.mk sh ry⟩
          · cases e
        | non => cases e
        | bl _ => cases e
        | int _ => cases e
      | _ => cases e
    · exact k.elim) σ H Q h
/-- a part of a slice -/
def mNoPart : PEnv → MH → R (Option Int) := fun _ mh => .ok none mh
def mPart (m : PEnv → MH → R PV) : PEnv → MH → R (Option Int) := fun env mh => (m env mh).bind fun v mh1 => match v with
  | .int i => .ok (some i) mh1
  | _ => .bad
def cutL {α : Type} (xs : List α) (lo hi : Option Int) : List α := (xs.drop (HT.sIx xs.length 0 lo)).take (HT.sIx xs.length xs.length hi - HT.sIx xs.length 0 lo)
def opSl (v : PV) (lo hi : Option Int) (mh : MH) : R PV := match v with
  | .str z => if z.length ≤ sizeLine then .ok (.str (cutS z lo hi)) mh else .bad
  | .tup vs => .ok (.tup (cutL vs lo hi)) mh
  | .ref n => match seqOf (.ref n) mh with
    | some vs => .ok (.ref mh.length) (mh ++ [.lst (cutL vs lo hi)])
    | none => .bad
  | _ => .bad
def mSl (ma : PEnv → MH → R PV) (ml mu : PEnv → MH → R (Option Int)) : PEnv → MH → R PV := fun env mh => (ma env mh).bind fun v mh1 => (ml env mh1).bind fun lo mh2 => (mu env mh2).bind fun hi mh3 => opSl v lo hi mh3
def tOr (K : KW) (W : WX) (m : PEnv → MH → R (Option Int)) : TO := fun σ H Q => ∃ ρ env mh, SimH K ρ mh H ∧ SimE K ρ H env σ ∧ (match m env mh with
  | .ok v mh' => ∀ ρ' H', Le K ρ H ρ' H' → SimH K ρ' mh' H' → Q v H'
  | .exc c v mh' => ∀ ρ' w d H', Le K ρ H ρ' H' → SimH K ρ' mh' H' → RV K ρ' H' v w → H' d = some (.xd [("value", w)]) → W (.ref (He.ga K.k c)) (some d) σ H'
  | .bad => False)
theorem _root_.L2.PO.imp {X : Cx} {e : Option Expr} {t t' : TO} (h : PO X e t) (k : ∀ σ H Q, t' σ H Q → t σ H Q) : PO X e t' := ⟨fun pins s σ H Q I q => h.run pins s σ H Q I (k σ H Q q)⟩
abbrev RO' (X : Cx) (W : WX) (e : Option Expr) (m : PEnv → MH → R (Option Int)) : Prop := PO X e (tOr X.kw W m)
theorem ro_none : RO' X W none mNoPart := po_none.imp fun σ H Q h => by
  obtain ⟨ρ, env, mh, sh, se, p⟩ := h
  exact p ρ H .refl sh
theorem ro_some (h : RE X W e ma) : RO' X W (some e) (mPart ma) := (po_some h).imp fun σ H Q h => by
  obtain ⟨ρ, env, mh, sh, se, p⟩ := h
  refine ⟨ρ, env, mh, sh, se, ?_⟩
  unfold mPart at p
  cases q : ma env mh with
  | bad => rw [q] at p; exact p.elim
  | exc c v mh1 => rw [q] at p; exact p
  | ok v mh1 =>
    rw [q] at p
    intro ρ1 x H1 l1 sh1 rv
    cases rv with
    | int i => exact ⟨i, rfl, p ρ1 H1 l1 sh1⟩
    | _ => exact p.elim
theorem slA : SlR X (fun x lo hi H Q => (rSlL X.K x lo hi H Q ∨ rSlA X.K x lo hi H Q) ∨ rSlS x lo hi H Q) := (sl_list.or sl_tupA).or sl_str
theorem re_sl {lo hi : Option Expr} {ml mu : PEnv → MH → R (Option Int)} (ha : RE X W a ma) (hl : RO' X W lo ml) (hu : RO' X W hi mu) : RE X W (.Subscript a (.Slice lo hi none p2) pos) (mSl ma ml mu) :=
  (pe_slice slA ha hl hu).imp fun σ H Q h => by
    obtain ⟨ρ, env, mh, sh, se, p⟩ := h
    refine ⟨ρ, env, mh, sh, se, Post.bind p fun v mh1 ρ1 x H1 _ l1 sh1 rv p1 => ?_⟩
    refine ⟨ρ1, env, mh1, sh1, se.mono l1, ?_⟩
    cases q1 : ml env mh1 with
    | bad => rw [q1] at p1; exact p1.elim
    | exc c v mh2 => rw [q1] at p1; exact p1
    | ok lo mh2 =>
      rw [q1] at p1
      intro ρ2 H2 l2 sh2
      refine ⟨ρ2, env, mh2, sh2, (se.mono l1).mono l2, ?_⟩
      have p2 : Post X.kw ρ1 H1 ((mu env mh2).bind fun hi mh3 => opSl v lo hi mh3) Q _ := p1
      cases q2 : mu env mh2 with
      | bad => rw [q2] at p2; exact p2.elim
      | exc c v mh3 => rw [q2] at p2; exact fun ρ' w d H' a b c e => p2 ρ' w d H' (l2.trans a) b c e
      | ok hi mh3 =>
        rw [q2] at p2
        intro ρ3 H3 l3 sh3
        have p3 : Post X.kw ρ3 H3 (opSl v lo hi mh3) Q _ := Post.le (l2.trans l3) p2
        have rv3 := rv.mono (l2.trans l3)
        unfold opSl at p3
        cases rv3 with
        | str z =>
          simp only at p3
          split at p3
          · rename_i hz
            exact .inr ⟨z, rfl, hz, p3.mk sh3 (.str _)⟩
          · exact p3.elim
        | @tup vs ws a h1 t1 =>
          simp only at p3
          refine .inl (.inr ⟨a, ws, rfl, h1, fun e => ?_, fun e q hq => ?_⟩)
          · have ec : cutL vs lo hi = vs := by
              unfold cutL
              rw [t1.length, e.1, e.2, List.drop_zero, Nat.sub_zero, ← t1.length]
              exact List.take_length
            rw [ec] at p3
            exact p3.mk sh3 (.tup h1 t1)
          · have rc : RVs X.kw ρ3 H3 (cutL vs lo hi) (cutV ws lo hi) := by
              unfold cutL cutV
              rw [t1.length]
              exact (t1.drop _).take _
            exact p3.newTup sh3 rc hq
        | @ref n a h1 =>
          simp only at p3
          split at p3
          · rename_i vs e2
            obtain ⟨a', ws, e3, rs, z⟩ := seq_below sh3 (.ref h1) e2
            cases e3
            rcases z with ⟨_, _, z2⟩ | ⟨z, _⟩
            · cases z2
            · refine .inl (.inl ⟨a, ws, rfl, z, fun q hq => ?_⟩)
              have rc : RVs X.kw ρ3 H3 (cutL vs lo hi) (cutV ws lo hi) := by
                unfold cutL cutV
                rw [rs.length]
                exact (rs.drop _).take _
              exact p3.newLst sh3 rc hq
          · exact p3.elim
        | non => exact p3.elim
        | bl _ => exact p3.elim
        | int _ => exact p3.elim
end
end Ev
namespace Ev
open PySem PySem.Spec PyProof.Rows L2 RZ
/-! ### how plain parameters are bound -/
theorem lookup_zip {α : Type} : ∀ {ns : List Str} {us : List α}, us.length = ns.length → ∀ n ∈ ns, ((ns.zip us).lookup n).isSome = true
  | [], _, _, n, h => by cases h
  | m :: ns, [], hl, n, h => by cases hl
  | m :: ns, u :: us, hl, n, h => by
    rw [List.zip_cons_cons, List.lookup_cons]
    cases e : (n == m) with
    | true => rfl
    | false =>
      rcases List.mem_cons.mp h with rfl | h
      · simp at e
      · exact lookup_zip (by simpa using hl) n h
theorem filterMap_zip {α : Type} : ∀ {ns : List Str} {us : List α}, ns.Nodup → us.length = ns.length → ns.filterMap (fun n => ((ns.zip us).lookup n).map (n, ·)) = ns.zip us := by
  have key : ∀ (ns : List Str) (us : List α) (pre : List (Str × α)), ns.Nodup → us.length = ns.length → (∀ n ∈ ns, ∀ p ∈ pre, p.1 ≠ n) → ns.filterMap (fun n => ((pre ++ ns.zip us).lookup n).map (n, ·)) = ns.zip us := by
    intro ns
    induction ns with
    | nil => intro us pre _ _ _; rfl
    | cons m ns ih =>
      intro us pre nd hl hp
      cases us with
      | nil => cases hl
      | cons u us =>
        have hm : (pre ++ (m :: ns).zip (u :: us)).lookup m = some u := by
          rw [List.zip_cons_cons]
          have : ∀ (pre : List (Str × α)), (∀ p ∈ pre, p.1 ≠ m) → (pre ++ (m, u) :: ns.zip us).lookup m = some u := by
            intro pre
            induction pre with
            | nil => intro _; simp [List.lookup_cons]
            | cons p pre ih2 =>
              intro h
              rw [List.cons_append, List.lookup_cons]
              have : (m == p.1) = false := beq_eq_false_iff_ne.mpr (fun z => h p (by simp) z.symm)
              rw [this]
              exact ih2 fun q hq => h q (List.mem_cons_of_mem _ hq)
          exact this pre (hp m (by simp))
        rw [List.filterMap_cons, hm, List.zip_cons_cons]
        simp only [Option.map_some]
        congr 1
        have e : pre ++ (m, u) :: ns.zip us = (pre ++ [(m, u)]) ++ ns.zip us := by simp
        rw [e]
        refine ih us (pre ++ [(m, u)]) (List.nodup_cons.mp nd).2 (by simpa using hl) fun n hn p hpm => ?_
        rcases List.mem_append.mp hpm with h | h
        · exact hp n (List.mem_cons_of_mem _ hn) p h
        · rw [List.mem_singleton] at h
          subst h
          exact fun z => (List.nodup_cons.mp nd).1 (by rw [show m = n from z]; exact hn)
  intro ns us nd hl
  exact key ns us [] nd hl fun _ _ p h => by cases h
/-- parameters without defaults, stars, keywords -/
structure Plain (p : Arguments) (ps : List Str) : Prop where
  po : p.posonlyargs = []
  na : p.args.map (·.arg) = ps
  va : p.vararg = none
  ko : p.kwonlyargs = []
  ka : p.kwarg = none
  nd : ps.Nodup
theorem bind_plain {fd : FuncData} {ps : List Str} (h : Plain fd.params ps) (hd : fd.defaults = .none) (us : List Value) (hl : us.length = ps.length) : bindArgs fd ⟨us, []⟩ = pure (ps.zip us) := by
  have hsq : seqItems? Value.none = pure none := rfl
  have hm : ((ps.take (ps.length - 0)).filter fun n => ((ps.zip us).lookup n).isNone) = [] := by
    rw [List.filter_eq_nil_iff]
    intro n hn
    have := lookup_zip hl n (List.mem_of_mem_take hn)
    simp only [Option.isNone_iff_eq_none, bne_iff_ne]
    intro z
    rw [z] at this
    cases this
  unfold bindArgs
  simp only [h.po, h.na, h.va, h.ko, h.ka, hd, hsq, List.map_nil, List.nil_append, List.append_nil, List.forIn_nil, pure_bind, Option.getD_none, List.drop_nil, List.length_nil, hm]
  have hgt : ¬ us.length > ps.length := by omega
  simp [hgt, filterMap_zip h.nd hl]

/-! ### defs -/
/-- a def's promise, told in a context without guards around -/
structure FnG (P : Program) (w : World) (K : PySem.W.Frag) (mg : Str → Option Value) (base : Heap) (k : Nat) (f : Addr) (fd : FuncData) (ps : List Str) (sp : Sp) : Prop where
  len : ∀ vs H Q E, sp vs H Q E → vs.length = ps.length
  run : ∀ (A : Around) (outer : List PySem.Env) (s : Shared) (H : Hp) (args : Args) (us : List Value) (vs : List V) (Q : VK) (E : XK), Room k A → A.guards = some [] → Env0 P w K mg base A outer s H → BindsTo s fd args (ps.zip us) → Vals vs us → sp vs H Q E →
    codeAny (model P w) A (.call (.ref f) args) (CR (L2.CX P w) outer P w H s Q E) s
theorem FnG.mono {P : Program} {w : World} {K : PySem.W.Frag} {mg : Str → Option Value} {base : Heap} {j k : Nat} {f : Addr} {fd : FuncData} {ps : List Str} {sp : Sp} (F : FnG P w K mg base j f fd ps sp) (h : j ≤ k) : FnG P w K mg base k f fd ps sp :=
  ⟨F.len, fun A outer s H args us vs Q E hr hg => F.run A outer s H args us vs Q E (hr.mono h) hg⟩
/-- by its body -/
theorem fng_of {P : Program} {w : World} {K : PySem.W.Frag} {mg : Str → Option Value} {base : Heap} {k : Nat} {f : Addr} {name qual : Str} {params : Arguments} {body : List Stmt} {scope : Scope} {dV kV doc pm cdv ct oc : Value} {an od : Option Addr}
    {osl : Array (Option Value)} {N ps : List Str} {sp : Sp} (lk : K.lookup f = some ⟨oc, od, .func (PySem.W.fnOf name qual params body scope dV kV doc pm an cdv ct), osl⟩) (hcd : PySem.W.codeIn K cdv qual = true) (S : FnScope N ps scope)
    (len : ∀ vs H Q E, sp vs H Q E → vs.length = ps.length)
    (hbody : ∀ (A : Around) (outer : List PySem.Env) (s : Shared) (H : Hp) (vs : List V) (Q : VK) (E : XK), Room k (A.deeper (envOfC qual scope s.heap.objs.size f cdv)) → A.guards = some [] → sp vs H Q E →
      ∃ t, PSs (cxOf (L2.CX P w) P w K mg base N qual scope f cdv A outer s H E) body t ∧ t { nx := fun _ H' => Q .non H', rt := Q } (L2.start N vs) H) :
    FnG P w K mg base (k + 1) f (PySem.W.fnOf name qual params body scope dV kV doc pm an cdv ct) ps sp := by
  refine ⟨len, fun A outer s H args us vs Q E hr hg e0 hb r hsp => ?_⟩
  have hl := len _ _ _ _ hsp
  have kin : K.In s.heap := e0.mod.kin.keeps (fun b o e => (e0.bs b o e).1)
  have nolim : s.heap.NoLimit := e0.mod.nolimit.keeps (fun b o e => (e0.bs b o e).1)
  have kinds : ∀ y ∈ ps.zip us, scope.names.lookup y.1 = some .local ∨
      (scope.names.lookup y.1 = some .cell ∧ ((cellsFrom (s.heap.objs.size + 1) scope.names []).lookup y.1).isSome = true) := by
    rintro ⟨n, v⟩ hy
    have hn := (List.of_mem_zip hy).1
    rcases S.par n hn with q | q
    · exact .inl q
    · exact .inr ⟨q, PySem.W.cellsFrom_some _ _ _ (.inl q)⟩
  apply codeAny_call_function hr.depth (kin _ _ lk) rfl S.co S.gen rfl (PySem.W.codeRec_of kin hcd)
  apply hb
  refine wpAny_newFunctionEnv_cells S.kind kinds (fun env he s1 x => ?_)
  subst he
  refine ⟨nolim.keeps x.toInCall.keep, codeAny_func ?_⟩
  obtain ⟨t, ht, hq⟩ := hbody A outer s H vs Q E (hr.deeper _) hg hsp
  have I0 := inv_start (CX := L2.CX P w) (E := E) (cd := cdv) (f := f) (qual := qual) S hr.hd e0 hl r x
  have fin : ∀ {σ' : L2.St} {H' : Hp} {v : V} {u : Value} {s' : Shared}, Inv (cxOf (L2.CX P w) P w K mg base N qual scope f cdv A outer s H E) [] σ' H' s' →
      RelV v u → Q v H' → CE outer P w H s Q u s' := by
    intro σ' H' v u s' J rv q
    exact ⟨v, H', J.os, J.bare, J.base, J.hok, rv, q⟩
  refine wpAny_mono (ht.run [] s1 (L2.start N vs) H _ I0 hq) (fun fl s' hs => ?_) (fun e s' hs => hs)
  cases fl with
  | ret u => exact let ⟨_, _, _, J, rv, q⟩ := hs; fin J rv q
  | next => exact let ⟨_, _, J, q⟩ := hs; fin (v := V.non) (u := Value.none) J rfl q
  | brk => exact let ⟨_, _, _, q⟩ := hs; False.elim q
  | cont => exact let ⟨_, _, _, q⟩ := hs; False.elim q
/-- the callee runs -/
theorem run_g {X : Cx} {k : Nat} {f : Addr} {fd : FuncData} {ps : List Str} {sp : Sp} {dvs : List V} {ds : List Value} {E : XK} {pins : List (Addr × Obj)} {σ : L2.St} {H : Hp} {s : Shared} {Q : VK} {us : List Value} {vs : List V}
    (F : FnG X.prog X.w X.K X.mg X.base k f fd ps sp) (hr : Room k X.A) (hg : X.A.guards = some []) (hb : Binds X.K fd ps ds) (hd : Vals dvs ds) (hx : ∀ e s', L2.CX X.prog X.w X.stack H s E e s' → X.xe e s')
    (I : Inv X pins σ H s) (r : Vals vs us) (h : sp (vs ++ dvs) H Q E) : wpAny (model X.prog X.w) X.A (call (.ref f) us) (EP X pins σ Q) X.xe s := by
  have r2 : Vals (vs ++ dvs) (us ++ ds) := r.append hd
  have hl : (us ++ ds).length = ps.length := by
    rw [← r2.length]
    exact F.len _ _ _ _ h
  have run := F.run X.A X.stack s H ⟨us, []⟩ (us ++ ds) (vs ++ dvs) Q E hr hg I.env0 (hb s us I.kIn hl) r2 h
  refine wpAny_call (codeAny_mono run fun res s' hq => ?_)
  match res, hq with
  | .error e, hq => exact hx e s' hq
  | .ok (.ret u), hq => exact I.after hq
/-- a call, what is raised wished for at the caller's slots -/
def tCallW (sp : Sp) (W : WX) (t : TA) : TE := fun σ H Q => t σ H fun vs H1 => sp vs H1 Q (fun c d H' => W c d σ H')
/-- f(..), f a def of the top -/
theorem pe_g {X : Cx} {k : Nat} {f : Addr} {fd : FuncData} {ps : List Str} {sp : Sp} {W : WX} {x : Str} {p pos : Pos} {e : Expr} {es : List Expr} {t : TA}
    (F : FnG X.prog X.w X.K X.mg X.base k f fd ps sp) (hr : Room k X.A) (hgu : X.A.guards = some []) (hg : Gl X x) (hm : X.mg x = some (.ref f)) (hk : PySem.W.keepIn X.K (.ref f) = true) (hb : Binds X.K fd ps []) (tk : Takes X W)
    (ha : PA X (e :: es) t) (hdb : (x == ("__debug__" : Str)) = false) (he : starEach (e :: es) X.env = (false, eval e X.env) :: starEach es X.env) (hpl : (backTo pos (starEach es X.env)).any (·.1) = false) :
    PE X (.Call (.Name x p) (e :: es) [] pos) (tCallW sp W t) := by
  constructor
  intro pins s σ H Q I h
  apply wpAny_Call_Name_kw
  refine ld_glob I hg hm ?_ hdb
  apply PySem.W.callWith_K (h₀ := X.base) I.ok.mod.kin hk ?_ he hpl
  exact thn (ha.run pos pins s σ H _ I h) fun us s1 ⟨vs, H1, I1, r, q⟩ => ⟨I1.kIn, run_g F hr hgu hb .nil (fun e s' c => tk e s' (XE.of_call I1 (fun _ _ _ z => z) c)) I1 r (by rw [List.append_nil]; exact q)⟩
theorem pe_g0 {X : Cx} {k : Nat} {f : Addr} {fd : FuncData} {ps : List Str} {sp : Sp} {W : WX} {x : Str} {p pos : Pos}
    (F : FnG X.prog X.w X.K X.mg X.base k f fd ps sp) (hr : Room k X.A) (hgu : X.A.guards = some []) (hg : Gl X x) (hm : X.mg x = some (.ref f)) (hk : PySem.W.keepIn X.K (.ref f) = true) (hb : Binds X.K fd ps []) (tk : Takes X W)
    (hdb : (x == ("__debug__" : Str)) = false) : PE X (.Call (.Name x p) [] [] pos) (tCallW sp W tNil) := by
  constructor
  intro pins s σ H Q I h
  apply wpAny_Call_Name_kw
  refine ld_glob I hg hm ?_ hdb
  exact PySem.W.callWith_K0 I.kIn hk (run_g (us := []) F hr hgu hb .nil (fun e s' c => tk e s' (XE.of_call I (fun _ _ _ z => z) c)) I .nil h)

/-! ### defs of the evaluator -/
/-- the promise that the evaluator's answer makes -/
def spE (K : KW) (n : Nat) (cf : List PV → MH → R PV) : Sp := fun vs H Q E => ∃ ρ mh args, SimH K ρ mh H ∧ RVs K ρ H args vs ∧ args.length = n ∧ Post K ρ H (cf args mh) Q E
/-- a body run -/
def runB (body : PEnv → MH → RS) (n : Nat) (args : List PV) (mh : MH) : R PV := match body (args.map some ++ List.replicate (n - args.length) none) mh with
  | .nx _ h => .ok .non h
  | .rt v h => .ok v h
  | .exc c v _ h => .exc c v h
  | _ => .bad
theorem simE_start {K : KW} {ρ : List Addr} {H : Hp} {args : List PV} {vs : List V} (r : RVs K ρ H args vs) (N : List Str) : SimE K ρ H (args.map some ++ List.replicate (N.length - args.length) none) (L2.start N vs) := by
  unfold L2.start
  refine ⟨by simp [r.length], fun i v e => ?_⟩
  by_cases hi : i < args.length
  · rw [List.getElem?_append_left (by simpa using hi), List.getElem?_map] at e
    cases q : args[i]? with
    | none => rw [q] at e; cases e
    | some a =>
      rw [q] at e
      cases e
      obtain ⟨w, h1, h2⟩ := r.get q
      refine ⟨w, ?_, h2⟩
      rw [List.getElem?_append_left (by rw [List.length_map, ← r.length]; exact hi), List.getElem?_map, h1]
      rfl
  · rw [List.getElem?_append_right (by simpa using hi), List.getElem?_replicate] at e
    split at e <;> cases e
theorem body_post {K : KW} {ρ : List Addr} {H : Hp} {r : RS} {Q : VK} {E : XK} (p : Post K ρ H (match r with
  | .nx _ h => .ok .non h
  | .rt v h => .ok v h
  | .exc c v _ h => .exc c v h
  | _ => .bad) Q E) : PostS K ρ H r { nx := fun _ H' => Q .non H', rt := Q } (fun c d _ H' => E c d H') := by
  cases r with
  | nx e h => exact fun ρ' σ' H' a b c => p ρ' .non H' a b .non
  | rt v h => exact p
  | exc c v e h => exact fun ρ' w d σ' H' a b c r e => p ρ' w d H' a b r e
  | bk _ _ => exact p.elim
  | ct _ _ => exact p.elim
  | bad => exact p.elim
/-- a def keeps the evaluator's promise -/
theorem fng_body {P : Program} {w : World} {K : PySem.W.Frag} {mg : Str → Option Value} {base : Heap} {k : Nat} {f : Addr} {name qual : Str} {params : Arguments} {body : List Stmt} {scope : Scope} {dV kV doc pm cdv ct oc : Value} {an od : Option Addr}
    {osl : Array (Option Value)} {N ps : List Str} {mb : PEnv → MH → RS} (lk : K.lookup f = some ⟨oc, od, .func (PySem.W.fnOf name qual params body scope dV kV doc pm an cdv ct), osl⟩) (hcd : PySem.W.codeIn K cdv qual = true) (S : FnScope N ps scope)
    (hbody : ∀ (A : Around) (outer : List PySem.Env) (s : Shared) (H : Hp) (E : XK), Room k (A.deeper (envOfC qual scope s.heap.objs.size f cdv)) → A.guards = some [] →
      RSs (cxOf (L2.CX P w) P w K mg base N qual scope f cdv A outer s H E) (fun c d _ H' => E c d H') body mb) :
    FnG P w K mg base (k + 1) f (PySem.W.fnOf name qual params body scope dV kV doc pm an cdv ct) ps (spE ⟨K, w, P⟩ ps.length (runB mb N.length)) := by
  refine fng_of lk hcd S (fun vs H Q E h => ?_) (fun A outer s H vs Q E hr hg h => ⟨_, hbody A outer s H E hr hg, ?_⟩)
  · obtain ⟨ρ, mh, args, sh, r, hl, p⟩ := h
    rw [← r.length, hl]
  · obtain ⟨ρ, mh, args, sh, r, hl, p⟩ := h
    exact ⟨ρ, _, mh, sh, simE_start r N, body_post p⟩
def mCall (cf : List PV → MH → R PV) (m : PEnv → MH → R (List PV)) : PEnv → MH → R PV := fun env mh => (m env mh).bind fun vs mh1 => cf vs mh1
theorem call_imp {K : KW} {W : WX} {n : Nat} {cf : List PV → MH → R PV} {m : PEnv → MH → R (List PV)} (hn : ∀ env mh vs mh1, m env mh = .ok vs mh1 → vs.length = n) (σ : L2.St) (H : Hp) (Q : VK) (h : tE K W (mCall cf m) σ H Q) :
    tCallW (spE K n cf) W (tAr K W m) σ H Q := by
  obtain ⟨ρ, env, mh, sh, se, p⟩ := h
  refine ⟨ρ, env, mh, sh, se, PostA.bind p fun vs mh1 ρ1 xs H1 e l1 sh1 rv p1 => ?_⟩
  exact ⟨ρ1, mh1, vs, sh1, rv, hn _ _ _ _ e, p1⟩
end Ev
namespace Ev
open PySem PySem.Spec PyProof.Rows L2 RZ
section
variable {K : KW} {ρ : List Addr} {H : Hp} {mh : MH}
theorem RVs.one {v : PV} {xs : List V} (r : RVs K ρ H [v] xs) : ∃ x, xs = [x] ∧ RV K ρ H v x := by
  cases r with
  | cons a b => cases b; exact ⟨_, rfl, a⟩
theorem RVs.two {v w : PV} {xs : List V} (r : RVs K ρ H [v, w] xs) : ∃ x y, xs = [x, y] ∧ RV K ρ H v x ∧ RV K ρ H w y := by
  cases r with
  | cons a b =>
    obtain ⟨y, e, h⟩ := RVs.one b
    subst e
    exact ⟨_, _, rfl, a, h⟩
/-- the ints of values -/
def intsOf : List PV → Option (List Int)
  | [] => some []
  | .int i :: vs => match intsOf vs with
    | some is => some (i :: is)
    | none => none
  | _ :: _ => none
theorem intsOf_eq : ∀ {vs : List PV} {is : List Int}, intsOf vs = some is → vs = is.map .int
  | [], _, e => by cases e; rfl
  | v :: vs, is, e => by
    cases v with
    | int i =>
      simp only [intsOf] at e
      split at e
      · rename_i js q
        cases e
        rw [intsOf_eq q]
        rfl
      · cases e
    | _ => simp [intsOf] at e
theorem intsOf_map : ∀ (is : List Int), intsOf (is.map PV.int) = some is
  | [] => rfl
  | i :: is => by simp only [List.map_cons, intsOf, intsOf_map is]
def boolsOf : List PV → Option (List Bool)
  | [] => some []
  | .bl i :: vs => match boolsOf vs with
    | some is => some (i :: is)
    | none => none
  | _ :: _ => none
theorem boolsOf_eq : ∀ {vs : List PV} {is : List Bool}, boolsOf vs = some is → vs = is.map .bl
  | [], _, e => by cases e; rfl
  | v :: vs, is, e => by
    cases v with
    | bl i =>
      simp only [boolsOf] at e
      split at e
      · rename_i js q
        cases e
        rw [boolsOf_eq q]
        rfl
      · cases e
    | _ => simp [boolsOf] at e
theorem boolsOf_map : ∀ (is : List Bool), boolsOf (is.map PV.bl) = some is
  | [] => rfl
  | i :: is => by simp only [List.map_cons, boolsOf, boolsOf_map is]
end
def opLen : OpN := fun vs mh => match vs with
  | [.str s] => if s.length ≤ sizeLine then .ok (.int s.length) mh else .bad
  | [v] => match seqOf v mh with
    | some xs => .ok (.int xs.length) mh
    | none => .bad
  | _ => .bad
def opAbs : OpN := fun vs mh => match vs with
  | [.int i] => .ok (.int (if i < 0 then -i else i)) mh
  | _ => .bad
def opInt : OpN := fun vs mh => match vs with
  | [.int i] => .ok (.int i) mh
  | [.bl b] => .ok (.int (if b then 1 else 0)) mh
  | [.str s] => if s.length ≤ 640 then match PySem.intText? s with
    | some n => .ok (.int n) mh
    | none => .bad else .bad
  | _ => .bad
def opStr : OpN := fun vs mh => match vs with
  | [.int i] => if i.natAbs.log2 < 1920 then .ok (.str (toString i)) mh else .bad
  | [.str s] => .ok (.str s) mh
  | _ => .bad
def opList : OpN := fun vs mh => match vs with
  | [v] => match seqOf v mh with
    | some xs => .ok (.ref mh.length) (mh ++ [.lst xs])
    | none => .bad
  | _ => .bad
def opTuple : OpN := fun vs mh => match vs with
  | [v] => match seqOf v mh with
    | some xs => .ok (.tup xs) mh
    | none => .bad
  | _ => .bad
def seqBools (v : PV) (mh : MH) : Option (List Bool) := match v with
  | .ref n => match lstOf mh n with
    | some xs => boolsOf xs
    | none => none
  | _ => none
def opAll : OpN := fun vs mh => match vs with
  | [v] => match seqBools v mh with
    | some bs => .ok (.bl (bs.all id)) mh
    | none => .bad
  | _ => .bad
def opAny : OpN := fun vs mh => match vs with
  | [v] => match seqBools v mh with
    | some bs => .ok (.bl (bs.any id)) mh
    | none => .bad
  | _ => .bad
def seqInts (v : PV) (mh : MH) : Option (List Int) := match v with
  | .ref n => match mh[n]? with
    | some (.lst xs) => intsOf xs
    | some (.scr xs) => intsOf xs
    | _ => none
  | _ => none
def opSum : OpN := fun vs mh => match vs with
  | [v] => match seqInts v mh with
    | some is => .ok (.int is.sum) mh
    | none => .bad
  | _ => .bad
def maxI : List Int → Option Int
  | [] => none
  | i :: is => some (is.foldl (fun m x => if m < x then x else m) i)
def minI : List Int → Option Int
  | [] => none
  | i :: is => some (is.foldl (fun m x => if x < m then x else m) i)
def opMax : OpN := fun vs mh => match vs with
  | [.int i, .int j] => .ok (.int (if j > i then j else i)) mh
  | [v] => match seqInts v mh with
    | some is => match maxI is with
      | some m => .ok (.int m) mh
      | none => .bad
    | none => .bad
  | _ => .bad
def opMin : OpN := fun vs mh => match vs with
  | [.int i, .int j] => .ok (.int (if j < i then j else i)) mh
  | [v] => match seqInts v mh with
    | some is => match minI is with
      | some m => .ok (.int m) mh
      | none => .bad
    | none => .bad
  | _ => .bad
def insI (x : Int) : List Int → List Int
  | [] => [x]
  | y :: ys => if x ≤ y then x :: y :: ys else y :: insI x ys
def sortI : List Int → List Int
  | [] => []
  | x :: xs => insI x (sortI xs)
/-- each once -/
def insU (x : Int) : List Int → List Int
  | [] => [x]
  | y :: ys => if x < y then x :: y :: ys else if x = y then y :: ys else y :: insU x ys
def sortU : List Int → List Int
  | [] => []
  | x :: xs => insU x (sortU xs)
def opSorted : OpN := fun vs mh => match vs with
  | [.ref n] => match mh[n]? with
    | some (.lst xs) => match intsOf xs with
      | some is => .ok (.ref mh.length) (mh ++ [.lst ((sortI is).map .int)])
      | none => .bad
    | some (.iset l) => if l.length < 64 then .ok (.ref mh.length) (mh ++ [.lst ((sortU l).map .int)]) else .bad
    | _ => .bad
  | _ => .bad
def opSet : OpN := fun vs mh => match vs with
  | [.tup xs] => match intsOf xs with
    | some is => if is.length + 1 < scanBound then .ok (.ref mh.length) (mh ++ [.iset is]) else .bad
    | none => .bad
  | _ => .bad
def opRepr : OpN := fun vs mh => match vs with
  | [v] => match toD dataFuel mh v with
    | some d => if d.showable && !d.hasDict && decide (d.depth ≤ 66) && decide (d.shown.length ≤ sizeLine) then .ok (.str d.shown) mh else .bad
    | none => .bad
  | _ => .bad

section
variable {X : Cx}
theorem cvn_abs : CallV X (.builtin "abs") opAbs := by
  intro pins s σ H xs us Q I r h
  obtain ⟨ρ, mh, vs, sh, rv, k⟩ := h
  unfold opAbs at k
  split at k
  · obtain ⟨x, rfl, r1⟩ := rv.one
    cases r1
    exact call_abs pins s σ H _ us Q I r ⟨_, rfl, k.mk sh (.int _)⟩
  · exact k.elim
theorem cvn_len : CallV X (.builtin "len") opLen := by
  intro pins s σ H xs us Q I r h
  obtain ⟨ρ, mh, vs, sh, rv, k⟩ := h
  unfold opLen at k
  split at k
  · obtain ⟨x, rfl, r1⟩ := rv.one
    cases r1
    split at k
    · rename_i hz
      exact call_len pins s σ H _ us Q I r ⟨_, _, rfl, ⟨hz, rfl⟩, k.mk sh (.int _)⟩
    · exact k.elim
  · obtain ⟨x, rfl, r1⟩ := rv.one
    split at k
    · rename_i xs e
      obtain ⟨a, ws, rfl, rs, z⟩ := seq_below sh r1 e
      refine call_len pins s σ H _ us Q I r ⟨_, xs.length, rfl, ?_, k.mk sh (.int _)⟩
      rcases z with ⟨z, _⟩ | ⟨z, _⟩
      · exact .inr ⟨ws, z, rs.length⟩
      · exact .inl ⟨ws, z, rs.length⟩
    · exact k.elim
  · exact k.elim
theorem cvn_int : CallV X (.type "int") opInt := by
  intro pins s σ H xs us Q I r h
  obtain ⟨ρ, mh, vs, sh, rv, k⟩ := h
  unfold opInt at k
  split at k
  · obtain ⟨x, rfl, r1⟩ := rv.one
    cases r1
    exact call_int1 pins s σ H _ us Q I r (.inl ⟨_, rfl, k.mk sh (.int _)⟩)
  · obtain ⟨x, rfl, r1⟩ := rv.one
    cases r1
    exact call_int1 pins s σ H _ us Q I r (.inr ⟨_, rfl, k.mk sh (.int _)⟩)
  · obtain ⟨x, rfl, r1⟩ := rv.one
    cases r1
    split at k
    · rename_i hz
      split at k
      · rename_i n e
        exact call_int_str pins s σ H _ us Q I r ⟨_, n, rfl, e, hz, k.mk sh (.int _)⟩
      · exact k.elim
    · exact k.elim
  · exact k.elim
theorem cvn_list : CallV X (.type "list") opList := by
  intro pins s σ H xs us Q I r h
  obtain ⟨ρ, mh, vs, sh, rv, k⟩ := h
  unfold opList at k
  split at k
  · obtain ⟨x, rfl, r1⟩ := rv.one
    split at k
    · rename_i xs e
      obtain ⟨a, ws, rfl, rs, z⟩ := seq_below sh r1 e
      refine call_list_of pins s σ H _ us Q I r ⟨a, ws, rfl, ?_, fun q hq => k.newLst sh rs hq⟩
      rcases z with ⟨z, _⟩ | ⟨z, _⟩
      · exact .inr z
      · exact .inl z
    · exact k.elim
  · exact k.elim
theorem cvn_tuple : CallV X (.type "tuple") opTuple := by
  intro pins s σ H xs us Q I r h
  obtain ⟨ρ, mh, vs, sh, rv, k⟩ := h
  unfold opTuple at k
  split at k
  · obtain ⟨x, rfl, r1⟩ := rv.one
    split at k
    · rename_i xs e
      obtain ⟨a, ws, rfl, rs, z⟩ := seq_below sh r1 e
      refine call_tuple_of pins s σ H _ us Q I r ⟨a, ws, rfl, ?_⟩
      rcases z with ⟨z, us, rfl⟩ | ⟨z, _⟩
      · cases e
        exact .inr ⟨z, k.mk sh r1⟩
      · exact .inl ⟨z, fun q hq => k.newTup sh rs hq⟩
    · exact k.elim
  · exact k.elim
theorem seqBools_below {K : KW} {ρ : List Addr} {H : Hp} {mh : MH} {v : PV} {x : V} {bs : List Bool} (sh : SimH K ρ mh H) (r : RV K ρ H v x) (e : seqBools v mh = some bs) : ∃ a, x = .ref a ∧ SqL K.k H a (bs.map V.bl) := by
  unfold seqBools at e
  split at e
  · rename_i n
    cases r with
    | @ref _ a h1 =>
      split at e
      · rename_i xs q
        obtain ⟨ws, p1, t1⟩ := lstOf_below sh h1 q
        have := boolsOf_eq e
        subst this
        rw [t1.bools] at p1
        exact ⟨a, rfl, .inl (.inl p1)⟩
      · cases e
  · cases e
theorem seqInts_below {K : KW} {ρ : List Addr} {H : Hp} {mh : MH} {v : PV} {x : V} {is : List Int} (sh : SimH K ρ mh H) (r : RV K ρ H v x) (e : seqInts v mh = some is) : ∃ a, x = .ref a ∧ SqL K.k H a (is.map V.int) := by
  unfold seqInts at e
  split at e
  · rename_i n
    cases r with
    | @ref _ a h1 =>
      split at e
      · rename_i xs q
        obtain ⟨ws, p1, t1⟩ := sh.ob _ _ a q h1
        have := intsOf_eq e
        subst this
        rw [t1.ints] at p1
        exact ⟨a, rfl, .inl (.inl p1)⟩
      · rename_i xs q
        obtain ⟨ws, p1, t1⟩ := sh.ob _ _ a q h1
        have := intsOf_eq e
        subst this
        rw [t1.ints] at p1
        exact ⟨a, rfl, p1.sq⟩
      · cases e
  · cases e
theorem cvn_all (hc : X.calm = true) : CallV X (.builtin "all") opAll := by
  intro pins s σ H xs us Q I r h
  obtain ⟨ρ, mh, vs, sh, rv, k⟩ := h
  unfold opAll at k
  split at k
  · obtain ⟨x, rfl, r1⟩ := rv.one
    split at k
    · rename_i bs e
      obtain ⟨a, rfl, z⟩ := seqBools_below sh r1 e
      exact cr_all hc pins s σ H _ us Q I r ⟨a, bs, rfl, z, k.mk sh (.bl _)⟩
    · exact k.elim
  · exact k.elim
theorem cvn_any (hc : X.calm = true) : CallV X (.builtin "any") opAny := by
  intro pins s σ H xs us Q I r h
  obtain ⟨ρ, mh, vs, sh, rv, k⟩ := h
  unfold opAny at k
  split at k
  · obtain ⟨x, rfl, r1⟩ := rv.one
    split at k
    · rename_i bs e
      obtain ⟨a, rfl, z⟩ := seqBools_below sh r1 e
      exact cr_any hc pins s σ H _ us Q I r ⟨a, bs, rfl, z, k.mk sh (.bl _)⟩
    · exact k.elim
  · exact k.elim
theorem cvn_sum (hc : X.calm = true) : CallV X (.builtin "sum") opSum := by
  intro pins s σ H xs us Q I r h
  obtain ⟨ρ, mh, vs, sh, rv, k⟩ := h
  unfold opSum at k
  split at k
  · obtain ⟨x, rfl, r1⟩ := rv.one
    split at k
    · rename_i bs e
      obtain ⟨a, rfl, z⟩ := seqInts_below sh r1 e
      exact cr_sum hc pins s σ H _ us Q I r ⟨a, bs, rfl, z, k.mk sh (.int _)⟩
    · exact k.elim
  · exact k.elim
theorem foldMax : ∀ (is : List Int) (m : Int), let r := is.foldl (fun m x => if m < x then x else m) m; (r = m ∨ r ∈ is) ∧ m ≤ r ∧ ∀ y ∈ is, y ≤ r
  | [], m => ⟨.inl rfl, Int.le_refl _, fun _ h => nomatch h⟩
  | x :: is, m => by
    obtain ⟨h1, h2, h3⟩ := foldMax is (if m < x then x else m)
    simp only [List.foldl_cons]
    refine ⟨?_, ?_, fun y hy => ?_⟩
    · rcases h1 with h1 | h1
      · rw [h1]
        split
        · exact .inr (by simp)
        · exact .inl rfl
      · exact .inr (List.mem_cons_of_mem _ h1)
    · refine Int.le_trans ?_ h2
      split <;> omega
    · rcases List.mem_cons.mp hy with rfl | hy
      · refine Int.le_trans ?_ h2
        split <;> omega
      · exact h3 y hy
theorem foldMin : ∀ (is : List Int) (m : Int), let r := is.foldl (fun m x => if x < m then x else m) m; (r = m ∨ r ∈ is) ∧ r ≤ m ∧ ∀ y ∈ is, r ≤ y
  | [], m => ⟨.inl rfl, Int.le_refl _, fun _ h => nomatch h⟩
  | x :: is, m => by
    obtain ⟨h1, h2, h3⟩ := foldMin is (if x < m then x else m)
    simp only [List.foldl_cons]
    refine ⟨?_, ?_, fun y hy => ?_⟩
    · rcases h1 with h1 | h1
      · rw [h1]
        split
        · exact .inr (by simp)
        · exact .inl rfl
      · exact .inr (List.mem_cons_of_mem _ h1)
    · refine Int.le_trans h2 ?_
      split <;> omega
    · rcases List.mem_cons.mp hy with rfl | hy
      · refine Int.le_trans h2 ?_
        split <;> omega
      · exact h3 y hy
theorem maxI_spec {is : List Int} {m : Int} (e : maxI is = some m) : m ∈ is ∧ ∀ y ∈ is, y ≤ m := by
  cases is with
  | nil => cases e
  | cons i is =>
    simp only [maxI, Option.some.injEq] at e
    obtain ⟨h1, h2, h3⟩ := foldMax is i
    rw [e] at h1 h2 h3
    refine ⟨?_, fun y hy => ?_⟩
    · rcases h1 with h1 | h1
      · rw [h1]; simp
      · exact List.mem_cons_of_mem _ h1
    · rcases List.mem_cons.mp hy with rfl | hy
      · exact h2
      · exact h3 y hy
theorem minI_spec {is : List Int} {m : Int} (e : minI is = some m) : m ∈ is ∧ ∀ y ∈ is, m ≤ y := by
  cases is with
  | nil => cases e
  | cons i is =>
    simp only [minI, Option.some.injEq] at e
    obtain ⟨h1, h2, h3⟩ := foldMin is i
    rw [e] at h1 h2 h3
    refine ⟨?_, fun y hy => ?_⟩
    · rcases h1 with h1 | h1
      · rw [h1]; simp
      · exact List.mem_cons_of_mem _ h1
    · rcases List.mem_cons.mp hy with rfl | hy
      · exact h2
      · exact h3 y hy
theorem cvn_max (hc : X.calm = true) : CallV X (.builtin "max") opMax := by
  intro pins s σ H xs us Q I r h
  obtain ⟨ρ, mh, vs, sh, rv, k⟩ := h
  unfold opMax at k
  split at k
  · obtain ⟨x, y, rfl, r1, r2⟩ := rv.two
    cases r1; cases r2
    exact call_max2 hc pins s σ H _ us Q I r ⟨_, _, rfl, k.mk sh (.int _)⟩
  · obtain ⟨x, rfl, r1⟩ := rv.one
    split at k
    · rename_i bs e
      obtain ⟨a, rfl, z⟩ := seqInts_below sh r1 e
      split at k
      · rename_i m q
        obtain ⟨h1, h2⟩ := maxI_spec q
        refine cr_max hc pins s σ H _ us Q I r ⟨a, bs, rfl, z, ?_, fun m' h3 h4 => ?_⟩
        · cases bs with
          | nil => cases h1
          | cons _ _ => exact Nat.succ_pos _
        · have : m' = m := Int.le_antisymm (h2 m' h3) (h4 m h1)
          rw [this]
          exact k.mk sh (.int _)
      · exact k.elim
    · exact k.elim
  · exact k.elim
theorem cvn_min (hc : X.calm = true) : CallV X (.builtin "min") opMin := by
  intro pins s σ H xs us Q I r h
  obtain ⟨ρ, mh, vs, sh, rv, k⟩ := h
  unfold opMin at k
  split at k
  · obtain ⟨x, y, rfl, r1, r2⟩ := rv.two
    cases r1; cases r2
    exact call_min2 hc pins s σ H _ us Q I r ⟨_, _, rfl, k.mk sh (.int _)⟩
  · obtain ⟨x, rfl, r1⟩ := rv.one
    split at k
    · rename_i bs e
      obtain ⟨a, rfl, z⟩ := seqInts_below sh r1 e
      split at k
      · rename_i m q
        obtain ⟨h1, h2⟩ := minI_spec q
        refine cr_min hc pins s σ H _ us Q I r ⟨a, bs, rfl, z, ?_, fun m' h3 h4 => ?_⟩
        · cases bs with
          | nil => cases h1
          | cons _ _ => exact Nat.succ_pos _
        · have : m' = m := Int.le_antisymm (h4 m h1) (h2 m' h3)
          rw [this]
          exact k.mk sh (.int _)
      · exact k.elim
    · exact k.elim
  · exact k.elim
/-! ### sorting -/
theorem insI_perm (x : Int) : ∀ l, (insI x l).Perm (x :: l)
  | [] => .refl _
  | y :: ys => by
    unfold insI
    split
    · exact .refl _
    · exact ((insI_perm x ys).cons y).trans (.swap _ _ _)
theorem sortI_perm : ∀ l, (sortI l).Perm l
  | [] => .refl _
  | x :: xs => (insI_perm x _).trans ((sortI_perm xs).cons x)
theorem insI_sorted (x : Int) : ∀ l : List Int, l.Pairwise (· ≤ ·) → (insI x l).Pairwise (· ≤ ·)
  | [], _ => by simp [insI]
  | y :: ys, h => by
    unfold insI
    obtain ⟨h1, h2⟩ := List.pairwise_cons.mp h
    split
    · rename_i hxy
      refine List.pairwise_cons.mpr ⟨fun z hz => ?_, h⟩
      rcases List.mem_cons.mp hz with rfl | hz
      · exact hxy
      · exact Int.le_trans hxy (h1 z hz)
    · rename_i hxy
      refine List.pairwise_cons.mpr ⟨fun z hz => ?_, insI_sorted x ys h2⟩
      rcases List.mem_cons.mp ((insI_perm x ys).mem_iff.mp hz) with rfl | hz
      · omega
      · exact h1 z hz
theorem sortI_sorted : ∀ l : List Int, (sortI l).Pairwise (· ≤ ·)
  | [] => .nil
  | x :: xs => insI_sorted x _ (sortI_sorted xs)
theorem sorted_one : ∀ {a b : List Int}, a.Perm b → a.Pairwise (· ≤ ·) → b.Pairwise (· ≤ ·) → a = b := fun p h1 h2 =>
  List.Perm.eq_of_pairwise (le := (· ≤ ·)) (fun _ _ _ _ x y => Int.le_antisymm x y) h1 h2 p
theorem mem_insU (x k : Int) : ∀ l, k ∈ insU x l ↔ k = x ∨ k ∈ l
  | [] => by simp [insU]
  | y :: ys => by
    unfold insU
    split
    · simp
    · split
      · rename_i h
        subst h
        simp
      · rw [List.mem_cons, mem_insU x k ys, List.mem_cons]
        constructor
        · rintro (h | h | h) <;> simp [h]
        · rintro (h | h | h) <;> simp [h]
theorem mem_sortU (k : Int) : ∀ l, k ∈ sortU l ↔ k ∈ l
  | [] => by simp [sortU]
  | x :: xs => by rw [sortU, mem_insU, mem_sortU k xs, List.mem_cons]
theorem insU_sorted (x : Int) : ∀ l : List Int, l.Pairwise (· < ·) → (insU x l).Pairwise (· < ·)
  | [], _ => by simp [insU]
  | y :: ys, h => by
    unfold insU
    obtain ⟨h1, h2⟩ := List.pairwise_cons.mp h
    split
    · rename_i hxy
      refine List.pairwise_cons.mpr ⟨fun z hz => ?_, h⟩
      rcases List.mem_cons.mp hz with rfl | hz
      · exact hxy
      · exact Int.lt_trans hxy (h1 z hz)
    · split
      · exact h
      · rename_i hxy hne
        refine List.pairwise_cons.mpr ⟨fun z hz => ?_, insU_sorted x ys h2⟩
        rcases (mem_insU x z ys).mp hz with rfl | hz
        · omega
        · exact h1 z hz
theorem sortU_sorted : ∀ l : List Int, (sortU l).Pairwise (· < ·)
  | [] => .nil
  | x :: xs => insU_sorted x _ (sortU_sorted xs)
theorem sortedU_one : ∀ {a b : List Int}, a.Pairwise (· < ·) → b.Pairwise (· < ·) → (∀ k, k ∈ a ↔ k ∈ b) → a = b
  | [], [], _, _, _ => rfl
  | [], y :: ys, _, _, h => by have := (h y).mpr (by simp); simp at this
  | x :: xs, [], _, _, h => by have := (h x).mp (by simp); simp at this
  | x :: xs, y :: ys, h1, h2, h => by
    obtain ⟨a1, a2⟩ := List.pairwise_cons.mp h1
    obtain ⟨b1, b2⟩ := List.pairwise_cons.mp h2
    have e : x = y := by
      rcases List.mem_cons.mp ((h x).mp (by simp)) with q | q
      · exact q
      · rcases List.mem_cons.mp ((h y).mpr (by simp)) with q2 | q2
        · exact q2.symm
        · have := b1 x q
          have := a1 y q2
          omega
    subst e
    congr 1
    refine sortedU_one a2 b2 fun k => ⟨fun hk => ?_, fun hk => ?_⟩
    · rcases List.mem_cons.mp ((h k).mp (List.mem_cons_of_mem _ hk)) with q | q
      · subst q
        exact absurd (a1 k hk) (Int.lt_irrefl _)
      · exact q
    · rcases List.mem_cons.mp ((h k).mpr (List.mem_cons_of_mem _ hk)) with q | q
      · subst q
        exact absurd (b1 k hk) (Int.lt_irrefl _)
      · exact q
theorem cvn_sorted (hc : X.calm = true) : CallV X (.builtin "sorted") opSorted := by
  intro pins s σ H xs us Q I r h
  obtain ⟨ρ, mh, vs, sh, rv, k⟩ := h
  unfold opSorted at k
  split at k
  · rename_i n
    obtain ⟨x, rfl, r1⟩ := rv.one
    cases r1 with
    | @ref _ a h1 =>
      split at k
      · rename_i xs e
        split at k
        · rename_i is e2
          obtain ⟨ws, p1, t1⟩ := sh.ob _ _ a e h1
          have := intsOf_eq e2
          subst this
          rw [t1.ints] at p1
          refine cr_sortedI pins s σ H _ us Q I r ⟨a, is, rfl, .inl (.inl p1), fun ns' p hp1 hp2 hq => ?_⟩
          have : ns' = sortI is := sorted_one (hp1.trans (sortI_perm is).symm) hp2 (sortI_sorted is)
          subst this
          exact k.newLst sh (RVs.ofInts _ _ _) hq
        · exact k.elim
      · rename_i l e
        split at k
        · rename_i hl
          obtain ⟨c, p1, hcl⟩ := sh.ob _ _ a e h1
          refine cr_sortedSet hc pins s σ H _ us Q I r ⟨a, _, c, rfl, p1, by omega, fun ns p h2 h3 h4 hq => ?_⟩
          have : ns = sortU l := sortedU_one h2 (sortU_sorted l) fun k => by
            rw [h3 k, mem_sortU]
            simp
          subst this
          exact k.newLst sh (RVs.ofInts _ _ _) hq
        · exact k.elim
      · exact k.elim
  · exact k.elim
theorem cvn_set (hc : X.calm = true) : CallV X (.type "set") opSet := by
  intro pins s σ H xs us Q I r h
  obtain ⟨ρ, mh, vs, sh, rv, k⟩ := h
  unfold opSet at k
  split at k
  · rename_i ys
    obtain ⟨x, rfl, r1⟩ := rv.one
    cases r1 with
    | @tup _ ws a h1 t1 =>
      split at k
      · rename_i is e2
        split at k
        · rename_i hb
          have := intsOf_eq e2
          subst this
          have hws := t1.ints
          subst hws
          obtain ⟨u, rfl, ru⟩ := vals1 r
          cases ru
          obtain ⟨its, r2, p2, _⟩ := I.tuple h1
          refine call_set_tupI is (I.ok.hd hc) p2 (by simpa using ints_of_vals r2) hb fun h' tk c hS hcl hk => ?_
          have hf : H s.heap.objs.size = none := I.hok.fresh (Nat.le_refl _)
          have I2 : Inv X pins σ (upd H s.heap.objs.size (SetO X.w s.heap.objs.size (fun j => decide (j ∈ is)) c)) { s with heap := h', toks := tk } :=
            I.laid (t' := tk) hk (Nat.le_refl _) (setO_new hS)
          have l0 : Le X.kw ρ H (ρ ++ [s.heap.objs.size]) (upd H s.heap.objs.size (SetO X.w s.heap.objs.size (fun j => decide (j ∈ is)) c)) := ⟨fun n a h => by
            rw [List.getElem?_append_left (List.getElem?_eq_some_iff.mp h).1]; exact h, .of_new hf⟩
          obtain ⟨s1, l1, rr⟩ := sh.alloc (mo := .iset is) hf ⟨c, upd_same, hcl⟩
          exact ⟨.ref s.heap.objs.size, _, I2, rfl, k _ _ _ l1 s1 rr⟩
        · exact k.elim
      · exact k.elim
  · exact k.elim
theorem cvn_repr (hg : X.A.guards = some []) (hu : X.A.units + 128 < cLine) : CallV X (.builtin "repr") opRepr := by
  intro pins s σ H xs us Q I r h
  obtain ⟨ρ, mh, vs, sh, rv, k⟩ := h
  unfold opRepr at k
  split at k
  · obtain ⟨x, rfl, r1⟩ := rv.one
    split at k
    · rename_i d e
      split at k
      · rename_i hz
        simp only [Bool.and_eq_true, Bool.not_eq_true', decide_eq_true_eq] at hz
        obtain ⟨⟨⟨z1, z2⟩, z3⟩, z4⟩ := hz
        have dp := toD_dp sh _ _ _ _ r1 e z2
        obtain ⟨u, rfl, ru⟩ := vals1 r
        obtain ⟨as, rd⟩ := Dp.reads I d _ u dp ru
        have fin : ∀ h' u tk, (∀ b o, s.heap.get? b = some o → h'.get? b = some o) → EP X pins σ Q (.str d.shown u) { s with heap := h', toks := tk } := fun h' u tk hk =>
          ⟨.str d.shown, H, I.kept hk, ⟨_, rfl⟩, k.mk sh (.str _)⟩
        cases r1 with
        | non =>
          cases ru
          cases dp
          refine PySem.P.repr_of_none ?_
          have := fin s.heap s.toks (s.toks + 1) (fun _ _ z => z)
          rwa [PyData.shown_none] at this
        | bl b =>
          cases ru
          cases dp
          refine PySem.P.repr_of_bool ?_
          have := fin s.heap s.toks (s.toks + 1) (fun _ _ z => z)
          rw [PyData.shown_bool] at this
          cases b <;> exact this
        | int i =>
          obtain ⟨t, rfl⟩ := ru
          cases dp
          refine PySem.P.repr_of_int ?_ ?_
          · simpa [PyData.showable] using z1
          · have := fin s.heap s.toks (s.toks + 1) (fun _ _ z => z)
            rwa [PyData.shown_int] at this
        | str z =>
          obtain ⟨t, rfl⟩ := ru
          cases dp
          rw [PyData.shown_str] at z4
          refine PySem.P.repr_of_str ?_ z4
          have := fin s.heap s.toks (s.toks + 1) (fun _ _ z => z)
          rwa [PyData.shown_str] at this
        | tup _ _ =>
          cases ru
          exact repr_of_reads' rd z1 (PyData.noDict_hsm z2) hg (by omega) (fun _ _ z => z) fin z4
        | ref _ =>
          cases ru
          exact repr_of_reads' rd z1 (PyData.noDict_hsm z2) hg (by omega) (fun _ _ z => z) fin z4
      · exact k.elim
    · exact k.elim
  · exact k.elim
end
end Ev
namespace Ev
open PySem PySem.Spec PyProof.Rows L2 RZ
/-! ### calls of built-ins -/
def mCallOp (op : OpN) (m : PEnv → MH → R (List PV)) : PEnv → MH → R PV := fun env mh => (m env mh).bind fun vs mh1 => op vs mh1
section
variable {X : Cx} {W : WX} {e : Expr} {es : List Expr} {x : Str} {p pos : Pos} {op : OpN} {m : PEnv → MH → R (List PV)}
theorem callOp_imp {K : KW} (n : QuietN op) (σ : L2.St) (H : Hp) (Q : VK) (h : tE K W (mCallOp op m) σ H Q) : tCB (rNP K op) (tAr K W m) σ H Q := by
  obtain ⟨ρ, env, mh, sh, se, q⟩ := h
  refine ⟨ρ, env, mh, sh, se, PostA.bind q fun vs mh1 ρ1 xs H1 _ l1 sh1 rv q1 => ?_⟩
  exact ⟨ρ1, mh1, vs, sh1, rv, q1.noE (n vs mh1)⟩
theorem re_callB {id : String} (hc : CallV X (.builtin id) op) (n : QuietN op) (hg : Gl X x) (hm : X.mg x = none) (hv : bootBuiltins x = some (.builtin id)) (ha : RA X W (e :: es) m) (hn : x ≠ "__name__" := by decide) (hdb : (x == ("__debug__" : Str)) = false := by decide)
    (he : starEach (e :: es) X.env = (false, eval e X.env) :: starEach es X.env := by rfl) (hpl : (backTo pos (starEach es X.env)).any (·.1) = false := by rfl) : RE X W (.Call (.Name x p) (e :: es) [] pos) (mCallOp op m) :=
  (pe_callB hc hg hm hv ha hn hdb he hpl).imp fun σ H Q h => callOp_imp n σ H Q h
theorem re_callTy {T : String} (hc : CallV X (.type T) op) (n : QuietN op) (hg : Gl X x) (hm : X.mg x = none) (hv : bootBuiltins x = some (.type T)) (ha : RA X W (e :: es) m) (hn : x ≠ "__name__" := by decide) (hdb : (x == ("__debug__" : Str)) = false := by decide)
    (he : starEach (e :: es) X.env = (false, eval e X.env) :: starEach es X.env := by rfl) (hpl : (backTo pos (starEach es X.env)).any (·.1) = false := by rfl) : RE X W (.Call (.Name x p) (e :: es) [] pos) (mCallOp op m) :=
  (pe_callTy hc hg hm hv ha hn hdb he hpl).imp fun σ H Q h => callOp_imp n σ H Q h
end
theorem q_len : QuietN opLen := fun v mh c u h e => by
  unfold opLen at e
  repeat' split at e
  all_goals cases e
theorem q_abs : QuietN opAbs := fun v mh c u h e => by
  unfold opAbs at e
  repeat' split at e
  all_goals cases e
theorem q_int : QuietN opInt := fun v mh c u h e => by
  unfold opInt at e
  repeat' split at e
  all_goals cases e
theorem q_str : QuietN opStr := fun v mh c u h e => by
  unfold opStr at e
  repeat' split at e
  all_goals cases e
theorem q_list : QuietN opList := fun v mh c u h e => by
  unfold opList at e
  repeat' split at e
  all_goals cases e
theorem q_tuple : QuietN opTuple := fun v mh c u h e => by
  unfold opTuple at e
  repeat' split at e
  all_goals cases e
theorem q_all : QuietN opAll := fun v mh c u h e => by
  unfold opAll at e
  repeat' split at e
  all_goals cases e
theorem q_any : QuietN opAny := fun v mh c u h e => by
  unfold opAny at e
  repeat' split at e
  all_goals cases e
theorem q_sum : QuietN opSum := fun v mh c u h e => by
  unfold opSum at e
  repeat' split at e
  all_goals cases e
theorem q_max : QuietN opMax := fun v mh c u h e => by
  unfold opMax at e
  repeat' split at e
  all_goals cases e
theorem q_min : QuietN opMin := fun v mh c u h e => by
  unfold opMin at e
  repeat' split at e
  all_goals cases e
theorem q_sorted : QuietN opSorted := fun v mh c u h e => by
  unfold opSorted at e
  repeat' split at e
  all_goals cases e
theorem q_set : QuietN opSet := fun v mh c u h e => by
  unfold opSet at e
  repeat' split at e
  all_goals cases e
theorem q_repr : QuietN opRepr := fun v mh c u h e => by
  unfold opRepr at e
  repeat' split at e
  all_goals cases e
section
variable {X : Cx} {W : WX} {a b c e : Expr} {es : List Expr} {x : Str} {p pos : Pos} {ma mb : PEnv → MH → R PV} {m : PEnv → MH → R (List PV)}
theorem cvn_str : CallV X (.type "str") opStr := by
  intro pins s σ H xs us Q I r h
  obtain ⟨ρ, mh, vs, sh, rv, k⟩ := h
  unfold opStr at k
  split at k
  · obtain ⟨x, rfl, r1⟩ := rv.one
    cases r1
    split at k
    · rename_i hz
      exact call_str_int pins s σ H _ us Q I r ⟨_, rfl, hz, k.mk sh (.str _)⟩
    · exact k.elim
  · obtain ⟨x, rfl, r1⟩ := rv.one
    cases r1
    exact SkE.call_str_str pins s σ H _ us Q I r ⟨_, rfl, k.mk sh (.str _)⟩
  · exact k.elim
/-! ### isinstance -/
def tyOf (v : PV) (mh : MH) : Option String := match v with
  | .non => some "NoneType"
  | .bl _ => some "bool"
  | .int _ => some "int"
  | .str _ => some "str"
  | .tup _ => some "tuple"
  | .ref n => match mh[n]? with
    | some (.lst _) => some "list"
    | some (.scr _) => some "list"
    | some (.dict _) => some "dict"
    | _ => none
theorem tyOf_x {K : KW} {ρ : List Addr} {H : Hp} {mh : MH} {v : PV} {x : V} {t : String} (sh : SimH K ρ mh H) (r : RV K ρ H v x) (e : tyOf v mh = some t) : TyX K.k H x (.type t) := by
  cases r with
  | non => cases e; exact .base .non
  | bl b => cases e; exact .base (.bl b)
  | int b => cases e; exact .base (.int b)
  | str b => cases e; exact .base (.str b)
  | tup h _ =>
    cases e
    rcases h with (h | ⟨o, h⟩) | ⟨o, its, n, h, hc, _⟩
    · exact .base (.tup h)
    · exact .fTuple h
    · exact .kTuple h hc
  | @ref n a h =>
    simp only [tyOf] at e
    split at e
    · rename_i vs q
      cases e
      obtain ⟨ws, h1, _⟩ := sh.ob n _ a q h
      exact .base (.lst h1)
    · rename_i vs q
      cases e
      obtain ⟨ws, ⟨o, h1⟩ | ⟨o, its, k, h1, hc, _⟩, _⟩ := sh.ob n _ a q h
      · exact .base (.frz h1)
      · exact .kList h1 hc
    · rename_i vs q
      cases e
      obtain ⟨ws, h1, _⟩ := sh.ob n _ a q h
      exact .base (.dK h1)
    · cases e
def isTy (T : String) (v : PV) (mh : MH) : R PV := match tyOf v mh with
  | some t => match kitB t T with
    | some b => .ok (.bl b) mh
    | none => .bad
  | none => .bad
def mIsi (T : String) (ma : PEnv → MH → R PV) : PEnv → MH → R PV := fun env mh => (ma env mh).bind fun v mh1 => isTy T v mh1
theorem re_isi {T : String} {y : Str} {py : Pos} (hg : Gl X x) (hm : X.mg x = none) (hv : bootBuiltins x = some (.builtin "isinstance")) (hgy : Gl X y) (hmy : X.mg y = none) (hvy : bootBuiltins y = some (.type T)) (ha : RE X W e ma)
    (hn : x ≠ "__name__" := by decide) (hdb : (x == ("__debug__" : Str)) = false := by decide) (hny : y ≠ "__name__" := by decide) (hdy : (y == ("__debug__" : Str)) = false := by decide)
    (he : starEach [e, .Name y py] X.env = (false, eval e X.env) :: starEach [.Name y py] X.env := by rfl) (he2 : starEach [.Name y py] X.env = (false, eval (.Name y py) X.env) :: starEach [] X.env := by rfl) (hpl : (backTo pos (starEach [.Name y py] X.env)).any (·.1) = false := by rfl) :
    RE X W (.Call (.Name x p) [e, .Name y py] [] pos) (mIsi T ma) :=
  (pe_callB call_isi hg hm hv (pa_cons ha (pa_cons (pe_bltn hgy hmy hvy (v := .ty T) rfl hny hdy) pa_nil he2) he) hn hdb he hpl).imp fun σ H Q h => by
    obtain ⟨ρ, env, mh, sh, se, q⟩ := h
    refine ⟨ρ, env, mh, sh, se, Post.bind q fun v mh1 ρ1 x H1 _ l1 sh1 rv q1 => ?_⟩
    unfold isTy at q1
    split at q1
    · rename_i t et
      split at q1
      · rename_i b eb
        exact ⟨x, .ty T, .type t, .type T, b, rfl, .ty T, tyOf_x sh1 rv et, kit_ty eb, q1.mk sh1 (.bl b)⟩
      · exact q1.elim
    · exact q1.elim
/-! ### methods of lists -/
/-- xs.append(v) -/
def meAppend (v w : PV) (mh : MH) : R PV := match v with
  | .ref n => match lstOf mh n with
    | some vs => if vs.length < sizeLine then .ok .non (mh.set n (.lst (vs ++ [w]))) else .bad
    | none => .bad
  | _ => .bad
def meExtend (v w : PV) (mh : MH) : R PV := match v, w with
  | .ref n, .ref k => match lstOf mh n, lstOf mh k with
    | some vs, some ws => if vs.length + ws.length ≤ sizeLine then .ok .non (mh.set n (.lst (vs ++ ws))) else .bad
    | _, _ => .bad
  | _, _ => .bad
def mePop (v : PV) (mh : MH) : R PV := match v with
  | .ref n => match lstOf mh n with
    | some vs => match vs[vs.length - 1]? with
      | some w => .ok w (mh.set n (.lst vs.dropLast))
      | none => .bad
    | none => .bad
  | _ => .bad
def mePopAt (v w : PV) (mh : MH) : R PV := match v, w with
  | .ref n, .int i => match lstOf mh n with
    | some vs => if -(2 ^ 63) ≤ i ∧ i < 2 ^ 63 then match seqIndex? i vs.length with
        | some k => match vs[k]? with
          | some w => .ok w (mh.set n (.lst (vs.eraseIdx k)))
          | none => .bad
        | none => .bad else .bad
    | none => .bad
  | _, _ => .bad
theorem RVs.dropLast {K : KW} {ρ : List Addr} {H : Hp} {vs : List PV} {ws : List V} (h : RVs K ρ H vs ws) : RVs K ρ H vs.dropLast ws.dropLast := by
  rw [List.dropLast_eq_take, List.dropLast_eq_take, ← h.length]
  exact h.take _
theorem noScr {mh : MH} {n : Nat} {vs : List PV} (e : lstOf mh n = some vs) : ∀ us, mh[n]? ≠ some (.scr us) := fun us z => by
  unfold lstOf at e
  rw [z] at e
  cases e
/-- a list at n is changed -/
theorem Post.setLst {K : KW} {ρ : List Addr} {H : Hp} {mh : MH} {n : Nat} {a : Addr} {us : List PV} {ws zs : List V} {r : PV} {z : V} {Q : VK} {E} (p : Post K ρ H (.ok r (mh.set n (.lst us))) Q E) (sh : SimH K ρ mh H) (hn : ρ[n]? = some a) (ha : H a = some (.lst ws)) (r1 : RVs K ρ H us zs) (rz : RV K ρ H r z) (hs : ∀ vs, mh[n]? ≠ some (.scr vs)) :
    Q z (upd H a (.lst zs)) := by
  have l0 : Le K ρ H ρ (upd H a (.lst zs)) := ⟨fun _ _ h => h, .of_mut ha (by simp) (by simp)⟩
  obtain ⟨s1, l1⟩ := sh.write (o := .lst zs) (mo := .lst us) hn ha (by simp) (by simp) (by simp) ⟨zs, upd_same, r1.mono l0⟩ hs
  exact p ρ z _ l1 s1 (rz.mono l1)
theorem lstOf_at {K : KW} {ρ : List Addr} {H : Hp} {mh : MH} {n : Nat} {a : Addr} {vs : List PV} (sh : SimH K ρ mh H) (hn : ρ[n]? = some a) (e : lstOf mh n = some vs) : ∃ ws, H a = some (.lst ws) ∧ RVs K ρ H vs ws := lstOf_below sh hn e
def mMeth1 (f : PV → PV → MH → R PV) (ma mb : PEnv → MH → R PV) : PEnv → MH → R PV := fun env mh => (ma env mh).bind fun v mh1 => (mb env mh1).bind fun w mh2 => f v w mh2
def mMeth0 (f : PV → MH → R PV) (ma : PEnv → MH → R PV) : PEnv → MH → R PV := fun env mh => (ma env mh).bind fun v mh1 => f v mh1
/-- is it a list (for the method's lookup) -/
def isL (v : PV) (mh : MH) : Bool := match v with
  | .ref n => (lstOf mh n).isSome
  | _ => false
theorem isL_ty {K : KW} {ρ : List Addr} {H : Hp} {mh : MH} {v : PV} {x : V} (sh : SimH K ρ mh H) (r : RV K ρ H v x) (e : isL v mh = true) : tyV K.k "list" x H := by
  cases r with
  | @ref n a h =>
    simp only [isL] at e
    cases q : lstOf mh n with
    | none => rw [q] at e; cases e
    | some vs =>
      obtain ⟨ws, h1, _⟩ := lstOf_at sh h q
      exact .inl ⟨rfl, _, .inl (.inl h1)⟩
  | _ => cases e
/-- the receiver must be a list -/
def mRecv (ma : PEnv → MH → R PV) : PEnv → MH → R PV := fun env mh => (ma env mh).bind fun v mh1 => if isL v mh1 = true then .ok v mh1 else .bad
theorem recv_imp {K : KW} {E} {ρ : List Addr} {H : Hp} {mh mh1 : MH} {v : PV} {x : V} {f : PV → MH → R PV} {Q : VK} (sh : SimH K ρ mh H) (r : RV K ρ H v x) (p : Post K ρ H (((if isL v mh = true then .ok v mh else .bad : R PV)).bind f) Q E) : tyV K.k "list" x H ∧ Post K ρ H (f v mh) Q E := by
  by_cases h : isL v mh = true
  · rw [if_pos h] at p
    exact ⟨isL_ty sh r h, p⟩
  · rw [if_neg h] at p
    exact p.elim
section
variable {apos cpos : Pos} {o : Expr}
abbrev Hfew (X : Cx) (cpos : Pos) (es : List Expr) : Prop := ((backTo cpos (starEach es X.env)).all (fun x => !x.1) && (backToKw cpos (keywordEach [] X.env)).all (fun x => x.1.isSome)
      && decide (es.length + ([] : List Keyword).length + (if ([] : List Keyword).isEmpty then 0 else 1) < 30)) = true
theorem re_append (ho : RE X W o ma) (ha : RE X W e mb) (hbase : attributeBase o "append" X.env (eval o X.env) = eval o X.env := by rfl) (hfew : Hfew X cpos [e] := by rfl) (hline : (apos.endLine == cpos.line) = true := by rfl)
    (hs : starEach [e] X.env = (false, eval e X.env) :: starEach [] X.env := by rfl) (hplain : (backTo cpos (starEach [] X.env)).any (·.1) = false := by rfl) :
    RE X W (.Call (.Attribute o "append" apos) [e] [] cpos) (mMeth1 meAppend (mRecv ma) mb) :=
  (pe_bm PySem.F.plainAttrs_list PySem.F.slot_list_append PySem.F.type_list_append mt_append ho (pa_cons ha pa_nil hs) hbase hfew hline hs hplain).imp fun σ H Q h => by
    obtain ⟨ρ, env, mh, sh, se, p⟩ := h
    unfold mMeth1 mRecv at p
    rw [show ∀ (r : R PV) (f g : PV → MH → R PV), (r.bind f).bind g = r.bind fun v h => (f v h).bind g from fun r f g => by cases r <;> rfl] at p
    refine ⟨ρ, env, mh, sh, se, p.bind fun v mh1 ρ1 x H1 _ l1 sh1 rv p1 => ?_⟩
    obtain ⟨ty, p1⟩ := recv_imp (mh1 := mh1) sh1 rv p1
    refine ⟨ty, ρ1, env, mh1, sh1, se.mono l1, p1.bind fun w mh2 ρ2 y H2 _ l2 sh2 rw p2 => ?_⟩
    unfold meAppend at p2
    split at p2
    · rename_i n
      split at p2
      · rename_i vs e
        split at p2
        · rename_i hz
          have rv2 := rv.mono l2
          cases rv2 with
          | @ref _ a hn =>
            obtain ⟨ws, h1, t1⟩ := lstOf_at sh2 hn e
            exact ⟨a, ws, y, rfl, rfl, h1, by rw [← t1.length]; exact hz, p2.setLst sh2 hn h1 (t1.append (.cons rw .nil)) .non (noScr e)⟩
        · exact p2.elim
      · exact p2.elim
    · exact p2.elim
theorem re_extend (ho : RE X W o ma) (ha : RE X W e mb) (hbase : attributeBase o "extend" X.env (eval o X.env) = eval o X.env := by rfl) (hfew : Hfew X cpos [e] := by rfl) (hline : (apos.endLine == cpos.line) = true := by rfl)
    (hs : starEach [e] X.env = (false, eval e X.env) :: starEach [] X.env := by rfl) (hplain : (backTo cpos (starEach [] X.env)).any (·.1) = false := by rfl) :
    RE X W (.Call (.Attribute o "extend" apos) [e] [] cpos) (mMeth1 meExtend (mRecv ma) mb) :=
  (pe_bm PySem.F.plainAttrs_list PySem.F.slot_list_extend PySem.F.type_list_extend mt_extend ho (pa_cons ha pa_nil hs) hbase hfew hline hs hplain).imp fun σ H Q h => by
    obtain ⟨ρ, env, mh, sh, se, p⟩ := h
    unfold mMeth1 mRecv at p
    rw [show ∀ (r : R PV) (f g : PV → MH → R PV), (r.bind f).bind g = r.bind fun v h => (f v h).bind g from fun r f g => by cases r <;> rfl] at p
    refine ⟨ρ, env, mh, sh, se, p.bind fun v mh1 ρ1 x H1 _ l1 sh1 rv p1 => ?_⟩
    obtain ⟨ty, p1⟩ := recv_imp (mh1 := mh1) sh1 rv p1
    refine ⟨ty, ρ1, env, mh1, sh1, se.mono l1, p1.bind fun w mh2 ρ2 y H2 _ l2 sh2 rw p2 => ?_⟩
    unfold meExtend at p2
    split at p2
    · rename_i n k
      split at p2
      · rename_i vs us e e2
        split at p2
        · rename_i hz
          have rv2 := rv.mono l2
          cases rv2 with
          | @ref _ a hn =>
            cases rw with
            | @ref _ b hk =>
              obtain ⟨ws, h1, t1⟩ := lstOf_at sh2 hn e
              obtain ⟨zs, h2, t2⟩ := lstOf_at sh2 hk e2
              exact ⟨a, b, ws, zs, rfl, rfl, h1, h2, by rw [← t1.length, ← t2.length]; exact hz, p2.setLst sh2 hn h1 (t1.append t2) .non (noScr e)⟩
        · exact p2.elim
      · exact p2.elim
    · exact p2.elim
theorem re_pop (ho : RE X W o ma) (hbase : attributeBase o "pop" X.env (eval o X.env) = eval o X.env := by rfl) (hline : (apos.endLine == cpos.line) = true := by rfl) :
    RE X W (.Call (.Attribute o "pop" apos) [] [] cpos) (mMeth0 mePop (mRecv ma)) :=
  (pe_bm0 PySem.F.plainAttrs_list PySem.F.slot_list_pop PySem.F.type_list_pop mt_pop ho hbase hline).imp fun σ H Q h => by
    obtain ⟨ρ, env, mh, sh, se, p⟩ := h
    unfold mMeth0 mRecv at p
    rw [show ∀ (r : R PV) (f g : PV → MH → R PV), (r.bind f).bind g = r.bind fun v h => (f v h).bind g from fun r f g => by cases r <;> rfl] at p
    refine ⟨ρ, env, mh, sh, se, p.bind fun v mh1 ρ1 x H1 _ l1 sh1 rv p1 => ?_⟩
    obtain ⟨ty, p1⟩ := recv_imp (mh1 := mh1) sh1 rv p1
    refine ⟨ty, ?_⟩
    unfold mePop at p1
    split at p1
    · rename_i n
      split at p1
      · rename_i vs e
        split at p1
        · rename_i w q
          cases rv with
          | @ref _ a hn =>
            obtain ⟨ws, h1, t1⟩ := lstOf_at sh1 hn e
            obtain ⟨y, hy, ry⟩ := t1.get q
            rw [t1.length] at hy
            exact ⟨a, ws, y, rfl, rfl, h1, hy, p1.setLst sh1 hn h1 t1.dropLast ry (noScr e)⟩
        · exact p1.elim
      · exact p1.elim
    · exact p1.elim
theorem re_popAt (ho : RE X W o ma) (ha : RE X W e mb) (hbase : attributeBase o "pop" X.env (eval o X.env) = eval o X.env := by rfl) (hfew : Hfew X cpos [e] := by rfl) (hline : (apos.endLine == cpos.line) = true := by rfl)
    (hs : starEach [e] X.env = (false, eval e X.env) :: starEach [] X.env := by rfl) (hplain : (backTo cpos (starEach [] X.env)).any (·.1) = false := by rfl) :
    RE X W (.Call (.Attribute o "pop" apos) [e] [] cpos) (mMeth1 mePopAt (mRecv ma) mb) :=
  (pe_bm PySem.F.plainAttrs_list PySem.F.slot_list_pop PySem.F.type_list_pop mt_popAt ho (pa_cons ha pa_nil hs) hbase hfew hline hs hplain).imp fun σ H Q h => by
    obtain ⟨ρ, env, mh, sh, se, p⟩ := h
    unfold mMeth1 mRecv at p
    rw [show ∀ (r : R PV) (f g : PV → MH → R PV), (r.bind f).bind g = r.bind fun v h => (f v h).bind g from fun r f g => by cases r <;> rfl] at p
    refine ⟨ρ, env, mh, sh, se, p.bind fun v mh1 ρ1 x H1 _ l1 sh1 rv p1 => ?_⟩
    obtain ⟨ty, p1⟩ := recv_imp (mh1 := mh1) sh1 rv p1
    refine ⟨ty, ρ1, env, mh1, sh1, se.mono l1, p1.bind fun w mh2 ρ2 y H2 _ l2 sh2 rw p2 => ?_⟩
    unfold mePopAt at p2
    split at p2
    · rename_i n i
      split at p2
      · rename_i vs e
        split at p2
        · rename_i hz
          split at p2
          · rename_i k ek
            split at p2
            · rename_i z q
              have rv2 := rv.mono l2
              cases rv2 with
              | @ref _ a hn =>
                cases rw
                obtain ⟨ws, h1, t1⟩ := lstOf_at sh2 hn e
                obtain ⟨yy, hy, ry⟩ := t1.get q
                refine ⟨a, ws, _, k, yy, rfl, rfl, h1, hz.1, hz.2, ?_, hy, p2.setLst sh2 hn h1 (t1.eraseIdx k) ry (noScr e)⟩
                rw [← t1.length]; exact ek
            · exact p2.elim
          · exact p2.elim
        · exact p2.elim
      · exact p2.elim
    · exact p2.elim
end
/-! ### xs[i] = v -/
def stIx (o i v : PV) (mh : MH) : Option MH := match o, i with
  | .ref n, .int k => match lstOf mh n with
    | some vs => match ixN vs.length k with
      | some j => some (mh.set n (.lst (vs.set j v)))
      | none => none
    | none => none
  | _, _ => none
/-- o[i] = e -/
def sStore (me mo mi : PEnv → MH → R PV) : PEnv → MH → RS := fun env mh => (me env mh).bindS env fun v mh1 => (mo env mh1).bindS env fun o mh2 => (mi env mh2).bindS env fun i mh3 => match stIx o i v mh3 with
  | some mh4 => .nx env mh4
  | none => .bad
/-- the target's parts raise nothing -/
def Still (m : PEnv → MH → R PV) : Prop := ∀ env mh c v h, m env mh ≠ .exc c v h
theorem still_var (i : Nat) : Still (mVar i) := by
  intro env mh c v h
  unfold mVar
  split <;> (intro z; cases z)
theorem still_k (v : PV) : Still (mK v) := fun _ _ _ _ _ z => by cases z
def W0' : WX := fun _ _ _ _ => False
theorem bindS_calm {r : R PV} {env : PEnv} {f : PV → MH → RS} (n : ∀ c v h, r ≠ .exc c v h) {K : KW} {ρ : List Addr} {H : Hp} {D : Ends} {Q1 : VK} {E} (h : PostS K ρ H (r.bindS env f) D W)
    (k : ∀ v mh1 ρ1 x H1, r = .ok v mh1 → Le K ρ H ρ1 H1 → SimH K ρ1 mh1 H1 → RV K ρ1 H1 v x → PostS K ρ1 H1 (f v mh1) D W → Q1 x H1) : Post K ρ H r Q1 E := by
  cases r with
  | ok v mh => exact fun ρ' w H' a b c => k v mh ρ' w H' rfl a b c (PostS.le a h)
  | exc c v mh => exact absurd rfl (n c v mh)
  | bad => exact h
theorem rs_store {oo ii : Expr} {me mo mi : PEnv → MH → R PV} {pp : Pos} (he : RE X W e me) (ho : RE X W oo mo) (hi : RE X W ii mi) (so : Still mo) (si : Still mi)
    (hs : swapsWithSole [.Subscript oo ii pp] e pos.line X.env = pure false := by rfl) (hw : swappedStores [.Subscript oo ii pp] e X.env = pure none := by rfl)
    (h1 : (assignEach [.Subscript oo ii pp] X.env).map (·.2) = [assign (.Subscript oo ii pp) X.env] := by rfl)
    (hz : ∀ v, assign (.Subscript oo ii pp) X.env v = (do
      let ov ← holding [v] (eval oo X.env)
      let iv ← holding [v, ov] (eval ii X.env)
      standAt pp
      holding [v, ov, iv] (setItem ov iv v)
      release [v, ov, iv] []) := by intro _; rfl) :
    RSt X W (.Assign [.Subscript oo ii pp] e pos) (sStore me mo mi) :=
  (ps_asg he (pg_sub ho hi set_list hz) hs hw h1).imp fun D σ H h => by
    obtain ⟨ρ, env, mh, sh, se, p⟩ := h
    refine ⟨ρ, env, mh, sh, se, Post.bindS se p fun v mh1 ρ1 x H1 _ l1 sh1 rv p1 => ?_⟩
    refine ⟨ρ1, env, mh1, sh1, se.mono l1, bindS_calm (so env mh1) p1 fun o mh2 ρ2 y H2 _ l2 sh2 ro p2 => ?_⟩
    refine ⟨ρ2, env, mh2, sh2, (se.mono l1).mono l2, bindS_calm (si env mh2) p2 fun i mh3 ρ3 z H3 _ l3 sh3 ri p3 => ?_⟩
    split at p3
    · rename_i mh4 e4
      unfold stIx at e4
      split at e4
      · rename_i n k
        split at e4
        · rename_i vs e5
          split at e4
          · rename_i j e6
            cases e4
            have ro3 := ro.mono l3
            cases ro3 with
            | @ref _ a hn =>
              cases ri
              obtain ⟨ws, h1, t1⟩ := lstOf_at sh3 hn e5
              have rv3 := (rv.mono l2).mono l3
              have t2 := t1.set j rv3
              have l0 : Le X.kw ρ3 H3 ρ3 (upd H3 a (.lst (ws.set j x))) := ⟨fun _ _ h => h, .of_mut h1 (by simp) (by simp)⟩
              obtain ⟨s1, l4⟩ := sh3.write (o := .lst (ws.set j x)) (mo := .lst (vs.set j v)) hn h1 (by simp) (by simp) (by simp) ⟨_, upd_same, t2.mono l0⟩ (noScr e5)
              refine ⟨a, ws, _, j, rfl, rfl, h1, by rw [← t1.length]; exact e6, ?_⟩
              exact p3 ρ3 σ _ l4 s1 ((((se.mono l1).mono l2).mono l3).mono l4)
          · cases e4
        · cases e4
      · cases e4
    · exact p3.elim
end
end Ev
namespace Ev
open PySem PySem.Spec PyProof.Rows L2 RZ
/-! ### max, min of a list or tuple of ints, with default= -/
def intSeq (v : PV) (mh : MH) : Option (List Int) := match seqOf v mh with
  | some xs => intsOf xs
  | none => none
theorem dpAll_ints (K : PySem.W.Frag) (H : Hp) : ∀ ns : List Int, DpAll K H (ns.map V.int) (ns.map PyData.int)
  | [] => .nil
  | n :: ns => .cons (.int n) (dpAll_ints K H ns)
theorem alike_ints (ns : List Int) : PySem.W.AlikeAll (ns.map PyData.int) := by
  refine ⟨fun x hx y hy => ?_, fun x hx => ?_⟩
  · obtain ⟨a, _, rfl⟩ := List.mem_map.mp hx
    obtain ⟨b, _, rfl⟩ := List.mem_map.mp hy
    rfl
  · obtain ⟨a, _, rfl⟩ := List.mem_map.mp hx
    intro z
    cases z
theorem depth_ints : ∀ ns : List Int, PyData.depthAll (ns.map PyData.int) ≤ 1
  | [] => by simp [PyData.depthAll]
  | n :: ns => by
    have := depth_ints ns
    simp only [List.map_cons, PyData.depthAll, PyData.depth]
    omega
theorem foldl_max_is (n : Int) : ∀ ns : List Int, ns.foldl max n = ns.foldl (fun m x => if m < x then x else m) n := by
  intro ns
  congr 1
  funext a b
  show max a b = _
  split <;> omega
theorem foldl_min_is (n : Int) : ∀ ns : List Int, ns.foldl min n = ns.foldl (fun m x => if x < m then x else m) n := by
  intro ns
  congr 1
  funext a b
  show min a b = _
  split <;> omega
def opMaxA : OpN := fun vs mh => match vs with
  | [v] => match intSeq v mh with
    | some is => match maxI is with
      | some m => .ok (.int m) mh
      | none => .bad
    | none => .bad
  | _ => opMax vs mh
def opMinA : OpN := fun vs mh => match vs with
  | [v] => match intSeq v mh with
    | some is => match minI is with
      | some m => .ok (.int m) mh
      | none => .bad
    | none => .bad
  | _ => opMin vs mh
/-- max(v, default=d) -/
def opMaxD : Op2 := fun v d mh => match intSeq v mh with
  | some is => match maxI is with
    | some m => .ok (.int m) mh
    | none => .ok d mh
  | none => .bad
def opMinD : Op2 := fun v d mh => match intSeq v mh with
  | some is => match minI is with
    | some m => .ok (.int m) mh
    | none => .ok d mh
  | none => .bad
theorem q_maxA : QuietN opMaxA := fun v mh c u h e => by
  unfold opMaxA opMax at e
  repeat' split at e
  all_goals cases e
theorem q_minA : QuietN opMinA := fun v mh c u h e => by
  unfold opMinA opMin at e
  repeat' split at e
  all_goals cases e
theorem q_maxD : Quiet2 opMaxD := fun v w mh c u h e => by
  unfold opMaxD at e
  repeat' split at e
  all_goals cases e
theorem q_minD : Quiet2 opMinD := fun v w mh c u h e => by
  unfold opMinD at e
  repeat' split at e
  all_goals cases e
section
variable {X : Cx} {W : WX} {pins : List (Addr × Obj)} {σ : L2.St} {H : Hp} {s : Shared} {ρ : List Addr} {mh : MH} {v : PV} {x : V}
/-- such a sequence, as the walk's laws want it -/
theorem intSeq_below (I : Inv X pins σ H s) (sh : SimH X.kw ρ mh H) (r : RV X.kw ρ H v x) {is : List Int} (e : intSeq v mh = some is) :
    ∃ a its as, x = .ref a ∧ (s.heap.IsList a its ∨ s.heap.IsTuple a its) ∧ ReadsAll s.heap its.toList (is.map PyData.int) as := by
  unfold intSeq at e
  split at e
  · rename_i xs e1
    obtain ⟨a, ws, rfl, rs, z⟩ := seq_below sh r e1
    have := intsOf_eq e
    subst this
    have hw := rs.ints
    subst hw
    rcases z with ⟨z, _⟩ | ⟨z, _⟩
    · obtain ⟨its, rv, ht, _⟩ := I.tuple z
      obtain ⟨as, hr⟩ := Dp.readsAll I _ _ _ (dpAll_ints X.K H is) rv
      exact ⟨a, its.toArray, as, rfl, .inr ht, by simpa using hr⟩
    · obtain ⟨its, rv, ht, _⟩ := I.list z
      obtain ⟨as, hr⟩ := Dp.readsAll I _ _ _ (dpAll_ints X.K H is) rv
      exact ⟨a, its.toArray, as, rfl, .inl ht.isList, by simpa using hr⟩
  · cases e
theorem int_of_reads {h : Heap} {v : Value} {i : Int} {as : List Addr} (r : Reads h v (.int i) as) : ∃ t, v = .int i t := by
  cases r with
  | int _ t => exact ⟨t, rfl⟩
theorem cvn_maxA (hc : X.calm = true) (hu : X.A.units + 64 < cLine) : CallV X (.builtin "max") opMaxA := by
  intro pins s σ H xs us Q I r h
  obtain ⟨ρ, mh, vs, sh, rv, k⟩ := h
  unfold opMaxA at k
  split at k
  · obtain ⟨x, rfl, r1⟩ := rv.one
    split at k
    · rename_i is e
      obtain ⟨a, its, as, rfl, ht, hr⟩ := intSeq_below I sh r1 e
      obtain ⟨u, rfl, ru⟩ := vals1 r
      cases (show u = Value.ref a from ru)
      cases is with
      | nil => exact k.elim
      | cons n ns =>
        simp only [maxI] at k
        have hd := depth_ints (n :: ns)
        have fin : ∀ (i : Nat) (v : Value) (h' : Heap) (tk : Nat) (bs : List Addr), its[i]? = some v → Reads h' v (PySem.W.maxD (.int n) (ns.map PyData.int)) bs → (∀ b o, s.heap.get? b = some o → h'.get? b = some o) → EP X pins σ Q v { s with heap := h', toks := tk } := fun i v h' tk bs _ hv hk => by
          rw [PySem.W.maxD_ints, foldl_max_is] at hv
          obtain ⟨t, rfl⟩ := int_of_reads hv
          exact ⟨.int _, H, I.kept hk, ⟨_, rfl⟩, k.mk sh (.int _)⟩
        rcases ht with ht | ht
        · exact PySem.W.max_list_data (I.ok.hd hc) ht hr (alike_ints (n :: ns)) (by rw [List.map_cons] at hd; omega) fin
        · exact PySem.W.max_tuple_data (I.ok.hd hc) ht hr (alike_ints (n :: ns)) (by rw [List.map_cons] at hd; omega) fin
    · exact k.elim
  · exact cvn_max hc pins s σ H xs us Q I r ⟨ρ, mh, _, sh, rv, k⟩
theorem cvn_minA (hc : X.calm = true) (hu : X.A.units + 64 < cLine) : CallV X (.builtin "min") opMinA := by
  intro pins s σ H xs us Q I r h
  obtain ⟨ρ, mh, vs, sh, rv, k⟩ := h
  unfold opMinA at k
  split at k
  · obtain ⟨x, rfl, r1⟩ := rv.one
    split at k
    · rename_i is e
      obtain ⟨a, its, as, rfl, ht, hr⟩ := intSeq_below I sh r1 e
      obtain ⟨u, rfl, ru⟩ := vals1 r
      cases (show u = Value.ref a from ru)
      cases is with
      | nil => exact k.elim
      | cons n ns =>
        simp only [minI] at k
        have hd := depth_ints (n :: ns)
        have fin : ∀ (i : Nat) (v : Value) (h' : Heap) (tk : Nat) (bs : List Addr), its[i]? = some v → Reads h' v (PySem.W.minD (.int n) (ns.map PyData.int)) bs → (∀ b o, s.heap.get? b = some o → h'.get? b = some o) → EP X pins σ Q v { s with heap := h', toks := tk } := fun i v h' tk bs _ hv hk => by
          rw [PySem.W.minD_ints, foldl_min_is] at hv
          obtain ⟨t, rfl⟩ := int_of_reads hv
          exact ⟨.int _, H, I.kept hk, ⟨_, rfl⟩, k.mk sh (.int _)⟩
        rcases ht with ht | ht
        · exact PySem.W.min_list_data (I.ok.hd hc) ht hr (alike_ints (n :: ns)) (by rw [List.map_cons] at hd; omega) fin
        · exact PySem.W.min_tuple_data (I.ok.hd hc) ht hr (alike_ints (n :: ns)) (by rw [List.map_cons] at hd; omega) fin
    · exact k.elim
  · exact cvn_min hc pins s σ H xs us Q I r ⟨ρ, mh, _, sh, rv, k⟩
/-- f(v, k=d), by values -/
def rKP (K : KW) (op : Op2) : List V → List V → Hp → VK → Prop := fun xs zs H Q => ∃ x z, xs = [x] ∧ zs = [z] ∧ r2P K op x z H Q
theorem cvk_maxD (hc : X.calm = true) (hu : X.A.units + 64 < cLine) : CallRK X (.builtin "max") [Str.ofString "default"] (rKP X.kw opMaxD) := by
  intro pins s σ H xs zs us ws Q I r rz h
  obtain ⟨x, z, rfl, rfl, ρ, mh, v, w, sh, r1, r2, k⟩ := h
  obtain ⟨u, rfl, ru⟩ := vals1 r
  obtain ⟨u2, rfl, ru2⟩ := vals1 rz
  unfold opMaxD at k
  split at k
  · rename_i is e
    obtain ⟨a, its, as, rfl, ht, hr⟩ := intSeq_below I sh r1 e
    cases (show u = Value.ref a from ru)
    have hd := depth_ints is
    have h0 : is.map PyData.int = [] → ∀ (h' : Heap) (tk : Nat), (∀ b o, s.heap.get? b = some o → h'.get? b = some o) → EP X pins σ Q u2 { s with heap := h', toks := tk } := fun e0 h' tk hk => by
      cases is with
      | cons _ _ => cases e0
      | nil => exact ⟨z, H, I.kept hk, ru2, k.mk sh r2⟩
    have h1 : ∀ (y : PyData) (ys : List PyData) (i : Nat) (v : Value) (h' : Heap) (tk : Nat) (bs : List Addr), is.map PyData.int = y :: ys → its[i]? = some v → Reads h' v (PySem.W.maxD y ys) bs → (∀ b o, s.heap.get? b = some o → h'.get? b = some o) → EP X pins σ Q v { s with heap := h', toks := tk } := fun y ys i v h' tk bs ey _ hv hk => by
      cases is with
      | nil => cases ey
      | cons n ns =>
        cases ey
        rw [PySem.W.maxD_ints, foldl_max_is] at hv
        obtain ⟨t, rfl⟩ := int_of_reads hv
        exact ⟨.int _, H, I.kept hk, ⟨_, rfl⟩, k.mk sh (.int _)⟩
    rcases ht with ht | ht
    · exact PySem.W.max_list_default (I.ok.hd hc) ht hr (alike_ints is) (by omega) h0 h1
    · exact PySem.W.max_tuple_default (I.ok.hd hc) ht hr (alike_ints is) (by omega) h0 h1
  · exact k.elim
theorem cvk_minD (hc : X.calm = true) (hu : X.A.units + 64 < cLine) : CallRK X (.builtin "min") [Str.ofString "default"] (rKP X.kw opMinD) := by
  intro pins s σ H xs zs us ws Q I r rz h
  obtain ⟨x, z, rfl, rfl, ρ, mh, v, w, sh, r1, r2, k⟩ := h
  obtain ⟨u, rfl, ru⟩ := vals1 r
  obtain ⟨u2, rfl, ru2⟩ := vals1 rz
  unfold opMinD at k
  split at k
  · rename_i is e
    obtain ⟨a, its, as, rfl, ht, hr⟩ := intSeq_below I sh r1 e
    cases (show u = Value.ref a from ru)
    have hd := depth_ints is
    have h0 : is.map PyData.int = [] → ∀ (h' : Heap) (tk : Nat), (∀ b o, s.heap.get? b = some o → h'.get? b = some o) → EP X pins σ Q u2 { s with heap := h', toks := tk } := fun e0 h' tk hk => by
      cases is with
      | cons _ _ => cases e0
      | nil => exact ⟨z, H, I.kept hk, ru2, k.mk sh r2⟩
    have h1 : ∀ (y : PyData) (ys : List PyData) (i : Nat) (v : Value) (h' : Heap) (tk : Nat) (bs : List Addr), is.map PyData.int = y :: ys → its[i]? = some v → Reads h' v (PySem.W.minD y ys) bs → (∀ b o, s.heap.get? b = some o → h'.get? b = some o) → EP X pins σ Q v { s with heap := h', toks := tk } := fun y ys i v h' tk bs ey _ hv hk => by
      cases is with
      | nil => cases ey
      | cons n ns =>
        cases ey
        rw [PySem.W.minD_ints, foldl_min_is] at hv
        obtain ⟨t, rfl⟩ := int_of_reads hv
        exact ⟨.int _, H, I.kept hk, ⟨_, rfl⟩, k.mk sh (.int _)⟩
    rcases ht with ht | ht
    · exact PySem.W.min_list_default (I.ok.hd hc) ht hr (alike_ints is) (by omega) h0 h1
    · exact PySem.W.min_tuple_default (I.ok.hd hc) ht hr (alike_ints is) (by omega) h0 h1
  · exact k.elim
end
section
variable {X : Cx} {W : WX} {a b c e : Expr} {es : List Expr} {x : Str} {p pos p1 p2 p3 : Pos} {ma mb : PEnv → MH → R PV} {m : PEnv → MH → R (List PV)}
theorem re_callK1 {id : String} {kn : Str} {op : Op2} {kp : Pos} (hc : CallRK X (.builtin id) [kn] (rKP X.kw op)) (n : Quiet2 op) (hg : Gl X x) (hm : X.mg x = none) (hv : bootBuiltins x = some (.builtin id)) (ha : RE X W a ma) (hb : RE X W b mb)
    (hn : x ≠ "__name__" := by decide) (hdb : (x == ("__debug__" : Str)) = false := by decide) (hs : starEach [a] X.env = (false, eval a X.env) :: starEach [] X.env := by rfl)
    (he : backTo pos (starEach [a] X.env) = (false, eval a X.env) :: backTo pos (starEach [] X.env) := by rfl) (hpl : (backTo pos (starEach [a] X.env)).any (·.1) = false := by rfl)
    (hall : (backToKw pos (keywordEach [⟨some kn, b, kp⟩] X.env)).all (·.1.isSome) = true := by rfl) (hnone : (backToKw pos (keywordEach [⟨some kn, b, kp⟩] X.env)).any (·.1.isNone) = false := by rfl) (hks : (backToKw pos (keywordEach [⟨some kn, b, kp⟩] X.env)).filterMap (·.1) = [kn] := by rfl) :
    RE X W (.Call (.Name x p) [a] [⟨some kn, b, kp⟩] pos) (mBin op ma mb) :=
  (pe_callBK hc hg hm hv (pa_cons ha pa_nil hs) (pk_cons hb pk_nil) hn hdb he hpl hall hnone hks).imp fun σ H Q h => by
    obtain ⟨ρ, env, mh, sh, se, p⟩ := h
    refine ⟨ρ, env, mh, sh, se, p.bind fun v mh1 ρ1 x H1 _ l1 sh1 rv p1 => ?_⟩
    refine ⟨ρ1, env, mh1, sh1, se.mono l1, p1.bind fun w mh2 ρ2 y H2 _ l2 sh2 rw p2 => ?_⟩
    exact ⟨x, y, rfl, rfl, ρ2, mh2, v, w, sh2, rv.mono l2, rw, p2.noE (n v w mh2)⟩
/-! ### list(range(..)), tuple(range(..)) -/
def rgPV (a b : Int) : List PV := (List.range (b - a).toNat).map fun i => PV.int (a + (i : Nat))
@[irreducible] def rgB (a b : Int) : Bool := decide (-(2 ^ 62) ≤ a) && decide (a < 2 ^ 62) && decide (-(2 ^ 62) ≤ b) && decide (b < 2 ^ 62) && decide ((b - a).toNat ≤ 2 ^ 24)
theorem rgB_ok {a b : Int} (h : rgB a b = true) : RgOk a b := by
  unfold rgB at h
  simp only [Bool.and_eq_true, decide_eq_true_eq] at h
  unfold RgOk
  omega
theorem rg_rel {K : KW} (ρ : List Addr) (H : Hp) (a b : Int) : RVs K ρ H (rgPV a b) (rgV a b) := by
  have := RVs.ofInts (K := K) ρ H ((List.range (b - a).toNat).map fun i => a + (i : Nat))
  rw [List.map_map, List.map_map] at this
  exact this
def rgList (a b : Int) (mh : MH) : R PV := if rgB a b = true then .ok (.ref mh.length) (mh ++ [.lst (rgPV a b)]) else .bad
def rgTup (a b : Int) (mh : MH) : R PV := if rgB a b = true then .ok (.tup (rgPV a b)) mh else .bad
/-- range(e); range(e, f) -/
def mRg1 (f : Int → Int → MH → R PV) (ma : PEnv → MH → R PV) : PEnv → MH → R PV := fun env mh => (ma env mh).bind fun v mh1 => match v with
  | .int i => f 0 i mh1
  | _ => .bad
def mRg2 (f : Int → Int → MH → R PV) (ma mb : PEnv → MH → R PV) : PEnv → MH → R PV := fun env mh => (ma env mh).bind fun v mh1 => (mb env mh1).bind fun w mh2 => match v, w with
  | .int i, .int j => f i j mh2
  | _, _ => .bad
theorem rgList_fin {K : KW} {ρ : List Addr} {H : Hp} {mh : MH} {i j : Int} {Q : VK} {E} (sh : SimH K ρ mh H) (p : Post K ρ H (rgList i j mh) Q E) : RgOk i j ∧ ∀ q, H q = none → Q (.ref q) (upd H q (.lst (rgV i j))) := by
  unfold rgList at p
  split at p
  · rename_i h
    exact ⟨rgB_ok h, fun q hq => p.newLst sh (rg_rel _ _ _ _) hq⟩
  · exact p.elim
theorem rgTup_fin {K : KW} {ρ : List Addr} {H : Hp} {mh : MH} {i j : Int} {Q : VK} {E} (sh : SimH K ρ mh H) (p : Post K ρ H (rgTup i j mh) Q E) : RgOk i j ∧ ∀ q, H q = none → Q (.ref q) (upd H q (.tup (rgV i j))) := by
  unfold rgTup at p
  split at p
  · rename_i h
    exact ⟨rgB_ok h, fun q hq => p.newTup sh (rg_rel _ _ _ _) hq⟩
  · exact p.elim
theorem rg1_imp {f : Int → Int → MH → R PV} {K : KW} {G : Int → Int → Hp → VK → Prop} (hf : ∀ ρ H mh i j Q (E : Value → Option Addr → Hp → Prop), SimH K ρ mh H → Post K ρ H (f i j mh) Q E → G i j H Q) (σ : L2.St) (H : Hp) (Q : VK) (h : tE K W (mRg1 f ma) σ H Q) :
    tRg1 (tE K W ma) σ H fun i j H1 => G i j H1 Q := by
  obtain ⟨ρ, env, mh, sh, se, p⟩ := h
  refine ⟨ρ, env, mh, sh, se, p.bind fun v mh1 ρ1 x H1 _ l1 sh1 rv p1 => ?_⟩
  cases rv with
  | int i => exact ⟨i, rfl, hf _ _ _ _ _ _ _ sh1 p1⟩
  | _ => exact p1.elim
theorem rg2_imp {f : Int → Int → MH → R PV} {K : KW} {G : Int → Int → Hp → VK → Prop} (hf : ∀ ρ H mh i j Q (E : Value → Option Addr → Hp → Prop), SimH K ρ mh H → Post K ρ H (f i j mh) Q E → G i j H Q) (σ : L2.St) (H : Hp) (Q : VK) (h : tE K W (mRg2 f ma mb) σ H Q) :
    tRg2 (tE K W ma) (tE K W mb) σ H fun i j H1 => G i j H1 Q := by
  obtain ⟨ρ, env, mh, sh, se, p⟩ := h
  refine ⟨ρ, env, mh, sh, se, p.bind fun v mh1 ρ1 x H1 _ l1 sh1 rv p1 => ?_⟩
  refine ⟨ρ1, env, mh1, sh1, se.mono l1, p1.bind fun w mh2 ρ2 y H2 _ l2 sh2 rw p2 => ?_⟩
  cases rv with
  | int i =>
    cases rw with
    | int j => exact ⟨i, j, rfl, rfl, hf _ _ _ _ _ _ _ sh2 p2⟩
    | _ => exact p2.elim
  | _ => exact p2.elim
def gLst : Int → Int → Hp → VK → Prop := fun i j H Q => RgOk i j ∧ ∀ q, H q = none → Q (.ref q) (upd H q (.lst (rgV i j)))
def gTupR : Int → Int → Hp → VK → Prop := fun i j H Q => RgOk i j ∧ ∀ q, H q = none → Q (.ref q) (upd H q (.tup (rgV i j)))
section
variable {q1 q2 : Pos}
theorem re_lstRg1 (hc : X.calm = true) (hg : Gl X "list") (hm : X.mg "list" = none) (hg2 : Gl X "range") (hm2 : X.mg "range" = none) (ha : RE X W a ma) (na : starEach [a] X.env = (false, eval a X.env) :: starEach [] X.env := by rfl) :
    RE X W (.Call (.Name "list" p) [.Call (.Name "range" q1) [a] [] q2] [] pos) (mRg1 rgList ma) :=
  (pe_listRg hc hg hm (prg_1 hg2 hm2 ha na) rfl).imp fun σ H Q h => rg1_imp (G := gLst) (fun _ _ _ _ _ _ _ sh p => rgList_fin sh p) σ H Q h
theorem re_tupRg1 (hc : X.calm = true) (hg : Gl X "tuple") (hm : X.mg "tuple" = none) (hg2 : Gl X "range") (hm2 : X.mg "range" = none) (ha : RE X W a ma) (na : starEach [a] X.env = (false, eval a X.env) :: starEach [] X.env := by rfl) :
    RE X W (.Call (.Name "tuple" p) [.Call (.Name "range" q1) [a] [] q2] [] pos) (mRg1 rgTup ma) :=
  (pe_tupRg hc hg hm (prg_1 hg2 hm2 ha na) rfl).imp fun σ H Q h => rg1_imp (G := gTupR) (fun _ _ _ _ _ _ _ sh p => rgTup_fin sh p) σ H Q h
theorem re_lstRg2 (hc : X.calm = true) (hg : Gl X "list") (hm : X.mg "list" = none) (hg2 : Gl X "range") (hm2 : X.mg "range" = none) (ha : RE X W a ma) (hb : RE X W b mb) (na : starEach [a, b] X.env = (false, eval a X.env) :: starEach [b] X.env := by rfl)
    (nb : starEach [b] X.env = (false, eval b X.env) :: starEach [] X.env := by rfl) (hp : (backTo q2 (starEach [b] X.env)).any (·.1) = false := by rfl) :
    RE X W (.Call (.Name "list" p) [.Call (.Name "range" q1) [a, b] [] q2] [] pos) (mRg2 rgList ma mb) :=
  (pe_listRg hc hg hm (prg_2 hg2 hm2 ha hb na nb hp) rfl).imp fun σ H Q h => rg2_imp (G := gLst) (fun _ _ _ _ _ _ _ sh p => rgList_fin sh p) σ H Q h
theorem re_tupRg2 (hc : X.calm = true) (hg : Gl X "tuple") (hm : X.mg "tuple" = none) (hg2 : Gl X "range") (hm2 : X.mg "range" = none) (ha : RE X W a ma) (hb : RE X W b mb) (na : starEach [a, b] X.env = (false, eval a X.env) :: starEach [b] X.env := by rfl)
    (nb : starEach [b] X.env = (false, eval b X.env) :: starEach [] X.env := by rfl) (hp : (backTo q2 (starEach [b] X.env)).any (·.1) = false := by rfl) :
    RE X W (.Call (.Name "tuple" p) [.Call (.Name "range" q1) [a, b] [] q2] [] pos) (mRg2 rgTup ma mb) :=
  (pe_tupRg hc hg hm (prg_2 hg2 hm2 ha hb na nb hp) rfl).imp fun σ H Q h => rg2_imp (G := gTupR) (fun _ _ _ _ _ _ _ sh p => rgTup_fin sh p) σ H Q h
end
end
end Ev
namespace Ev
open PySem PySem.Spec PyProof.Rows L2 RZ
/-! ### what the printed proofs use -/
abbrev LenIs (m : PEnv → MH → R (List PV)) (n : Nat) : Prop := ∀ env mh vs mh1, m env mh = .ok vs mh1 → vs.length = n
theorem len_nil : LenIs mNil 0 := fun env mh vs mh1 e => by
  cases e
  rfl
theorem len_cons {ma : PEnv → MH → R PV} {mr : PEnv → MH → R (List PV)} {n : Nat} (h : LenIs mr n) : LenIs (mCons ma mr) (n + 1) := fun env mh vs mh1 e => by
  unfold mCons at e
  cases q : ma env mh with
  | ok v h1 =>
    rw [q] at e
    simp only [R.bind_ok] at e
    cases q2 : mr env h1 with
    | ok us h2 =>
      rw [q2] at e
      cases e
      rw [List.length_cons, h _ _ _ _ q2]
    | exc c v h => rw [q2] at e; cases e
    | bad => rw [q2] at e; cases e
  | exc c v h => rw [q] at e; cases e
  | bad => rw [q] at e; cases e
structure Cal (P : Program) (w : World) (K : PySem.W.Frag) (mg : Str → Option Value) (base : Heap) (k : Nat) (x : Str) (ps : List Str) (cf : List PV → MH → R PV) : Prop where
  ex : ∃ f fd, mg x = some (.ref f) ∧ PySem.W.keepIn K (.ref f) = true ∧ Binds K fd ps [] ∧ FnG P w K mg base k f fd ps (spE ⟨K, w, P⟩ ps.length cf)
theorem Cal.mono {P : Program} {w : World} {K : PySem.W.Frag} {mg : Str → Option Value} {base : Heap} {j k : Nat} {x : Str} {ps : List Str} {cf : List PV → MH → R PV} (c : Cal P w K mg base j x ps cf) (h : j ≤ k) : Cal P w K mg base k x ps cf := by
  obtain ⟨f, fd, h1, h2, h3, h4⟩ := c.ex
  exact ⟨f, fd, h1, h2, h3, h4.mono h⟩
theorem cal_of {P : Program} {w : World} {K : PySem.W.Frag} {mg : Str → Option Value} {base : Heap} {k : Nat} {x : Str} {params : Arguments} {body : List Stmt} {scope : Scope} {N ps : List Str} {f : Addr} {fd : FuncData} {mb : PEnv → MH → RS} (F : FunD K x x params body scope [] [] f fd) (hm : mg x = some (.ref f)) (S : FnScope N ps scope) (hp : Plain params ps)
    (hbody : ∀ (cdv : Value) (A : Around) (outer : List PySem.Env) (s : Shared) (H : Hp) (E : XK), Room k (A.deeper (envOfC x scope s.heap.objs.size f cdv)) → A.guards = some [] →
      RSs (cxOf (L2.CX P w) P w K mg base N x scope f cdv A outer s H E) (fun c d _ H' => E c d H') body mb) : Cal P w K mg base (k + 1) x ps (runB mb N.length) := by
  have b : Binds K fd ps [] := F.bindsN fun kV doc pm an cdv ct us hl => bind_plain hp rfl us hl
  have kp := F.kp
  obtain ⟨oc, od, dV, kV, doc, pm, an, cdv, ct, osl, rfl, lk, hcd, _, _⟩ := F.ex
  exact ⟨f, _, hm, kp, b, fng_body lk hcd S fun A outer s H E hr hg => hbody cdv A outer s H E hr hg⟩
theorem room_128 {k : Nat} {A : Around} (r : Room k A) : A.units + 128 < cLine := by
  have := r.un
  omega
/-- a def of which nothing is wanted -/
theorem cal_bad {P : Program} {w : World} {K : PySem.W.Frag} {mg : Str → Option Value} {base : Heap} {k : Nat} {x : Str} {params : Arguments} {body : List Stmt} {scope : Scope} {ps : List Str} {f : Addr} {fd : FuncData} (F : FunD K x x params body scope [] [] f fd) (hm : mg x = some (.ref f)) (hp : Plain params ps) : Cal P w K mg base k x ps (fun _ _ => .bad) := by
  have b : Binds K fd ps [] := F.bindsN fun kV doc pm an cdv ct us hl => bind_plain hp rfl us hl
  refine ⟨f, fd, hm, F.kp, b, ⟨fun vs H Q E h => ?_, fun A outer s H args us vs Q E hr hg e0 hb r h => ?_⟩⟩
  · obtain ⟨ρ, mh, args, sh, r, hl, p⟩ := h
    exact p.elim
  · obtain ⟨ρ, mh, args, sh, r, hl, p⟩ := h
    exact p.elim
section
variable {X : Cx} {W : WX} {a b c e : Expr} {es : List Expr} {x : Str} {p pos p1 p2 p3 : Pos} {ma mb : PEnv → MH → R PV} {m : PEnv → MH → R (List PV)}
theorem re_fn {k : Nat} {ps : List Str} {cf : List PV → MH → R PV} (C : Cal X.prog X.w X.K X.mg X.base k x ps cf) (hr : Room k X.A) (hgu : X.A.guards = some []) (tk : Takes X W) (ha : RA X W (e :: es) m) (hl : LenIs m ps.length) (hg : Gl X x := by rfl)
    (hdb : (x == ("__debug__" : Str)) = false := by decide) (he : starEach (e :: es) X.env = (false, eval e X.env) :: starEach es X.env := by rfl) (hpl : (backTo pos (starEach es X.env)).any (·.1) = false := by rfl) : RE X W (.Call (.Name x p) (e :: es) [] pos) (mCall cf m) := by
  obtain ⟨f, fd, h1, h2, h3, h4⟩ := C.ex
  exact (pe_g h4 hr hgu hg h1 h2 h3 tk ha hdb he hpl).imp fun σ H Q h => call_imp hl σ H Q h
theorem re_fn0 {k : Nat} {cf : List PV → MH → R PV} (C : Cal X.prog X.w X.K X.mg X.base k x [] cf) (hr : Room k X.A) (hgu : X.A.guards = some []) (tk : Takes X W) (hg : Gl X x := by rfl) (hdb : (x == ("__debug__" : Str)) = false := by decide) : RE X W (.Call (.Name x p) [] [] pos) (mCall cf mNil) := by
  obtain ⟨f, fd, h1, h2, h3, h4⟩ := C.ex
  exact (pe_g0 h4 hr hgu hg h1 h2 h3 tk hdb).imp fun σ H Q h => by
    have := call_imp len_nil σ H Q h
    obtain ⟨ρ, env, mh, sh, se, q⟩ := this
    exact q ρ [] H .refl sh .nil
/-- a name in slot i -/
theorem xv (i : Nat) (hN : X.N[i]? = some x := by rfl) (hv : Vis X.env.scope x := by first | exact .inl rfl | exact .inr (.inl rfl) | exact .inr (.inr rfl)) (hd : (x == ("__debug__" : Str)) = false := by decide) (hcd : (x == ("__classdict__" : Str)) = false := by decide) : RE X W (.Name x pos) (mVar i) := re_var hN hv hd hcd
theorem xg {v : PV} {w : V} {u : Value} (hm : X.mg x = some u) (r : RelV w u) (hr : ∀ ρ H, RV X.kw ρ H v w) (hg : Gl X x := by rfl) (hd : (x == ("__debug__" : Str)) = false := by decide) : RE X W (.Name x pos) (mK v) := re_glob hg hm r hr hd
/-- an int of the top -/
theorem xgi {i : Int} (hm : ∃ t, X.mg x = some (.int i t)) (hg : Gl X x := by rfl) (hd : (x == ("__debug__" : Str)) = false := by decide) : RE X W (.Name x pos) (mK (.int i)) := by
  obtain ⟨t, hm⟩ := hm
  exact re_glob hg hm (w := .int i) ⟨t, rfl⟩ (fun _ _ => .int i) hd
theorem xa {mr : PEnv → MH → R (List PV)} (ha : RE X W e ma) (hr : RA X W es mr) (hs : starEach (e :: es) X.env = (false, eval e X.env) :: starEach es X.env := by rfl) : RA X W (e :: es) (mCons ma mr) := ra_cons ha hr hs
theorem xtv (ha : RE X W a ma) (he : ∀ whole, isTrue a X.env whole = (do let v ← whole; standAt a.pos; holding [v] (PySem.truthy v)) := by intro _; rfl) : RT X W a (mTest ma) := rt_val ha he
theorem xix (ha : RE X W a ma) (hb : RE X W b mb) (hs : PlainIx b := by intro _ _; rfl) : RE X W (.Subscript a b pos) (mBin opIx ma mb) := re_ix ha hb hs
theorem xexpr (h : RE X W e ma) (hs : swapsWith e none pos.line X.env = pure false := by rfl) : RSt X W (.Expr e pos) (sExpr ma) := rs_expr h hs
theorem xset {i : Nat} {q : Pos} (hN : X.N.Nodup) (he : RE X W e ma) (hi : X.N[i]? = some x := by rfl) (hx : Loc X.env.scope x := by first | exact .inl rfl | exact .inr rfl) (hs : swapsWith e (some (.Name x q)) pos.line X.env = pure false := by rfl) (hf : X.fn x = true ∨ X.env.scope.names.lookup x = some .local := by first | exact .inr rfl | exact .inl rfl) :
    RSt X W (.Assign [.Name x q] e pos) (sAsg ma (.nm i)) := rs_set hN hi hx he hs hf
theorem xgn {i : Nat} (hN : X.N.Nodup) (hi : X.N[i]? = some x := by rfl) (hx : Loc X.env.scope x := by first | exact .inl rfl | exact .inr rfl) (hf : X.fn x = true ∨ X.env.scope.names.lookup x = some .local := by first | exact .inr rfl | exact .inl rfl) : PG X (.Name x pos) (tG X.kw (.nm i)) := rg_name hN hi hx hf
theorem xgc {t r : Tg} (h1 : PG X e (tG X.kw t)) (h2 : PGs X es (tGs X.kw r)) (hs : (assignEach (e :: es) X.env).map (·.2) = assign e X.env :: (assignEach es X.env).map (·.2) := by rfl) : PGs X (e :: es) (tGs X.kw (.cons t r)) := rgs_cons h1 h2 hs
theorem xgt {k : Nat} {r : Tg} (hc : X.calm = true) (h : PGs X es (tGs X.kw r)) (hn : (assignEach es X.env).length = r.len := by rfl) (hst : (assignEach es X.env).findIdx? (·.1) = none := by rfl) : PG X (.Tuple es k pos) (tG X.kw (.tp r)) := rg_tup hc h hn hst (asgs_len r)
theorem xasg {tg : Expr} {t : Tg} (he : RE X W e ma) (hg : PG X tg (tG X.kw t)) (hs : swapsWithSole [tg] e pos.line X.env = pure false := by rfl) (hw : swappedStores [tg] e X.env = pure none := by rfl)
    (h1 : (assignEach [tg] X.env).map (·.2) = [assign tg X.env] := by rfl) : RSt X W (.Assign [tg] e pos) (sAsg ma t) := rs_asg he hg hs hw h1
theorem xfor {tg iter : Expr} {body : List Stmt} {ms : PEnv → MH → R Src} {t : Tg} {sb : PEnv → MH → RS} (hp : PassesOwn (model X.prog X.w) X.A X.env X.xe) (hc : X.calm = true) (hi : RI X W tg iter ms) (hg : PG X tg (tG X.kw t)) (hb : RSs X W body sb)
    (hs : ∀ x, foldedSetIterable iter X.env x = pure x := by intro _; rfl) : RSt X W (.For tg iter body [] pos) (sFor ms t sb) := rs_for hp hc hi hg hb hs
theorem xpar {i j : Nat} {x y : Str} {m : PEnv → MH → R (List PV)} {px py pt : Pos} {kt k2 pt2} (hc : X.calm = true) (hN : X.N.Nodup) (ha : RA X W [a, b] m) (hi : X.N[i]? = some x := by rfl) (hj : X.N[j]? = some y := by rfl) (hij : i ≠ j := by decide)
    (hx : X.env.scope.names.lookup x = some .local := by rfl) (hy : X.env.scope.names.lookup y = some .local := by rfl)
    (hw : swappedStores [.Tuple [.Name x px, .Name y py] kt pt] (.Tuple [a, b] k2 pt2) X.env = pure (some [x, y]) := by rfl)
    (hs : swapsWithSole [.Tuple [.Name x px, .Name y py] kt pt] (.Tuple [a, b] k2 pt2) pos.line X.env = pure false := by rfl) :
    RSt X W (.Assign [.Tuple [.Name x px, .Name y py] kt pt] (.Tuple [a, b] k2 pt2) pos) (sPar i j m) := rs_par hc hN hi hj hij hx hy ha hw hs
theorem xpar3 {i j l : Nat} {x y z : Str} {m : PEnv → MH → R (List PV)} {px py pz pt : Pos} {kt k2 pt2} (hc : X.calm = true) (hN : X.N.Nodup) (ha : RA X W [a, b, c] m) (hi : X.N[i]? = some x := by rfl) (hj : X.N[j]? = some y := by rfl) (hl : X.N[l]? = some z := by rfl) (hij : i ≠ j := by decide) (hil : i ≠ l := by decide) (hjl : j ≠ l := by decide)
    (hx : X.env.scope.names.lookup x = some .local := by rfl) (hy : X.env.scope.names.lookup y = some .local := by rfl) (hz : X.env.scope.names.lookup z = some .local := by rfl)
    (hw : swappedStores [.Tuple [.Name x px, .Name y py, .Name z pz] kt pt] (.Tuple [a, b, c] k2 pt2) X.env = pure (some [x, y, z]) := by rfl)
    (hs : swapsWithSole [.Tuple [.Name x px, .Name y py, .Name z pz] kt pt] (.Tuple [a, b, c] k2 pt2) pos.line X.env = pure false := by rfl) :
    RSt X W (.Assign [.Tuple [.Name x px, .Name y py, .Name z pz] kt pt] (.Tuple [a, b, c] k2 pt2) pos) (sPar3 i j l m) := rs_par3 hc hN hi hj hl hij hil hjl hx hy hz ha hw hs
section
variable {tg iter elt : Expr} {ifs : List Expr} {scope : Scope} {own : List (Str × Nat)} {ms : PEnv → MH → R Src} {t : Tg} {mt : PEnv → MH → R Bool} {me : PEnv → MH → R PV}
/-- a comprehension: the block's context is Y -/
theorem xlc (own : List (Str × Nat)) (hc : X.calm = true) (hN : X.N.Nodup) (hi : RI X W tg iter ms) (ok : BlkOk X.N X.env.scope scope own) (sub : ∀ i ∈ t.slots, i ∈ own.map (·.2))
    (h : ∀ (s : Shared) (H : Hp) (C : Addr) (cl : List (Str × Addr)) (fp : List Addr), PG (X.blk s H scope (compEnvC scope cl C X.env) fp) tg (tG X.kw t) ∧ PTs (X.blk s H scope (compEnvC scope cl C X.env) fp) ifs (tTe X.kw W0 mt) ∧ RE (X.blk s H scope (compEnvC scope cl C X.env) fp) W0 elt me)
    (hs : ∀ x, foldedSetIterable iter X.env x = pure x := by intro _; rfl) : RE X W (.ListComp elt [⟨tg, iter, ifs, 0⟩] scope pos) (mComp ms t mt me (own.map (·.2))) :=
  re_comp hc hN hi ok (fun s H C cl fp => (h s H C cl fp).1) (fun s H C cl fp => (h s H C cl fp).2.1) (fun s H C cl fp => (h s H C cl fp).2.2) hs sub
theorem xsetLc {i : Nat} {y : Str} {py spos : Pos} (own : List (Str × Nat)) (hc : X.calm = true) (hN : X.N.Nodup) (hi : RI X W tg iter ms) (ok : BlkOk X.N X.env.scope scope own) (sub : ∀ i ∈ t.slots, i ∈ own.map (·.2))
    (h : ∀ (s : Shared) (H : Hp) (C : Addr) (cl : List (Str × Addr)) (fp : List Addr), PG (X.blk s H scope (compEnvC scope cl C X.env) fp) tg (tG X.kw t) ∧ PTs (X.blk s H scope (compEnvC scope cl C X.env) fp) ifs (tTe X.kw W0 mt) ∧ RE (X.blk s H scope (compEnvC scope cl C X.env) fp) W0 elt me)
    (hsw : swapsWith (.ListComp elt [⟨tg, iter, ifs, 0⟩] scope pos) (some (.Name y py)) spos.line X.env = pure true) (hy : X.N[i]? = some y := by rfl) (hyl : X.env.scope.names.lookup y = some .local := by rfl)
    (hs : ∀ x, foldedSetIterable iter X.env x = pure x := by intro _; rfl) : RSt X W (.Assign [.Name y py] (.ListComp elt [⟨tg, iter, ifs, 0⟩] scope pos) spos) (sAsg (mComp ms t mt me (own.map (·.2))) (.nm i)) :=
  rs_setLc hc hN hy hyl hsw hi ok (fun s H C cl fp => (h s H C cl fp).1) (fun s H C cl fp => (h s H C cl fp).2.1) (fun s H C cl fp => (h s H C cl fp).2.2) hs sub
end
/-- not carried: never reached in the evaluator -/
def mBad : PEnv → MH → R PV := fun _ _ => .bad
theorem re_bad : RE X W e mBad := ⟨fun pins s σ H Q I h => by
  obtain ⟨ρ, env, mh, sh, se, p⟩ := h
  exact p.elim⟩
def tBad : PEnv → MH → R Bool := fun _ _ => .bad
theorem rt_bad : RT X W e tBad := ⟨fun pins s σ H Q I h => by
  obtain ⟨ρ, env, mh, sh, se, p⟩ := h
  exact p.elim⟩
def iBad : PEnv → MH → R Src := fun _ _ => .bad
theorem ri_bad {tg : Expr} : RI X W tg e iBad := ⟨fun pins s σ H Q I h => by
  obtain ⟨ρ, env, mh, sh, se, p⟩ := h
  exact p.elim⟩
end
end Ev
namespace Ev
open PySem PySem.Spec PyProof.Rows L2 RZ
/-! ### x[::-1] of a tuple -/
def tRevT (K : PySem.W.Frag) (te : TE) : TE := fun σ H Q => te σ H fun x H1 => ∃ a xs, x = .ref a ∧ SqT K H1 a xs ∧ ∀ p, H1 p = none → Q (.ref p) (upd H1 p (.tup xs.reverse))
abbrev minus1 (k : Nat) (p1 p2 : Pos) : Expr := .UnaryOp .USub (.Constant (.int 1) k p1) p2
theorem slot_tget : typeLookup (.type "tuple") "__getitem__" = pure (some (.builtin "tuple.__getitem__")) := PyProof.Rows.slot_tuple_getitem.lookup
theorem pe_revT {X : Cx} {e : Expr} {te : TE} {k : Nat} {p1 p2 p3 pos : Pos} (he : PE X e te) : PE X (.Subscript e (.Slice none none (some (minus1 k p1 p2)) p3) pos) (tRevT X.K te) := by
  constructor
  intro pins s σ H Q I h
  refine Subscript_ (thn (he.run pins s σ H _ I h) ?_)
  rintro v s1 ⟨x, H1, I1, r1, a, xs, rfl, hx, q⟩
  cases r1
  have hst : PO X (some (minus1 k p1 p2)) (tPart (tUn (rU fun i => .int (-i)) (tC (.int 1)))) := po_some (pe_un un_neg pe_int)
  refine wpAny_Slice (thn (po_none.run pins s1 σ H1 (fun o H2 => o = none ∧ H2 = H1) I1 ⟨rfl, rfl⟩) ?_)
  rintro vl s2 ⟨l, H2, I2, pl, rfl, rfl⟩
  refine thn (po_none.run pins s2 σ H2 (fun o H3 => o = none ∧ H3 = H2) I2 ⟨rfl, rfl⟩) ?_
  rintro vu s3 ⟨u, H3, I3, pu, rfl, rfl⟩
  refine thn (hst.run pins s3 σ H3 (fun o H4 => o = some (-1) ∧ H4 = H3) I3 ⟨1, rfl, -1, rfl, rfl, rfl⟩) ?_
  rintro vs s4 ⟨o, H4, I4, ps, rfl, rfl⟩
  have I5 : Inv X pins σ H4 { s4 with heap := s4.heap.push { cls := .type "slice", data := .fields #[vl, vu, vs] } } := I4.kept (t' := s4.toks) fun b ob z => Heap.get?_push_of_some _ z
  obtain ⟨its, r, ht, hz⟩ := I5.tuple hx
  have hlen := r.length
  show wpAny (model X.prog X.w) X.A (subscriptTail e (.Slice none none (some (minus1 k p1 p2)) p3) (.ref a) (.ref s4.heap.objs.size)) (EP X pins σ Q) X.xe { s4 with heap := s4.heap.push { cls := .type "slice", data := .fields #[vl, vu, vs] } }
  refine tail_any (ops := [.ref a, .ref s4.heap.objs.size]) ht.typeIs slot_tget ?_ (by with_unfolding_all rfl)
  cases pl
  cases pu
  refine getItem_tuple_rev ht (Heap.IsSliceOf.new _ _ _ vs) ps ?_ (by rw [List.size_toArray]; omega)
  refine ⟨.ref _, _, I5.laid (t' := s4.toks) (o := .tup xs.reverse) (fun b ob z => Heap.get?_push_of_some _ z) (Nat.le_refl _) ?_, rfl, q _ (I5.hok.fresh (Nat.le_refl _))⟩
  refine ⟨by rw [List.length_reverse]; exact hz, its.reverse, r.reverse, ?_⟩
  have : its.toArray.toList.reverse = its.reverse := by simp
  rw [this]
  exact IsTup.new _ _
def opRev (v : PV) (mh : MH) : R PV := match v with
  | .tup vs => .ok (.tup vs.reverse) mh
  | .ref n => match seqOf (.ref n) mh with
    | some vs => .ok (.ref mh.length) (mh ++ [.lst vs.reverse])
    | none => .bad
  | _ => .bad
def mRev (ma : PEnv → MH → R PV) : PEnv → MH → R PV := fun env mh => (ma env mh).bind opRev
section
variable {X : Cx} {W : WX} {a b c e : Expr} {es : List Expr} {x : Str} {p pos p1 p2 p3 : Pos} {ma mb : PEnv → MH → R PV} {m : PEnv → MH → R (List PV)}
theorem re_rev {k : Nat} (ha : RE X W e ma) : RE X W (.Subscript e (.Slice none none (some (minus1 k p1 p2)) p3) pos) (mRev ma) :=
  ((pe_revL ha).or (pe_revT ha)).imp fun σ H Q h => by
    obtain ⟨ρ, env, mh, sh, se, p⟩ := h
    have hcase : (∃ vs mh1, ma env mh = .ok (.tup vs) mh1) ∨ ¬ ∃ vs mh1, ma env mh = .ok (.tup vs) mh1 := Classical.em _
    rcases hcase with hv | hv
    · refine .inr ⟨ρ, env, mh, sh, se, Post.bind p fun v mh1 ρ1 x H1 e1 l1 sh1 rv p1 => ?_⟩
      obtain ⟨vs, mh2, e2⟩ := hv
      rw [e2] at e1
      cases e1
      cases rv with
      | tup h1 t1 => exact ⟨_, _, rfl, h1, fun q hq => p1.newTup sh1 t1.reverse hq⟩
    · refine .inl ⟨ρ, env, mh, sh, se, Post.bind p fun v mh1 ρ1 x H1 e1 l1 sh1 rv p1 => ?_⟩
      unfold opRev at p1
      split at p1
      · rename_i vs
        exact absurd ⟨_, _, e1⟩ hv
      · split at p1
        · rename_i vs e2
          obtain ⟨a, ws, rfl, rs, z⟩ := seq_below sh1 rv e2
          rcases z with ⟨_, _, z2⟩ | ⟨z, _⟩
          · cases z2
          · exact ⟨a, ws, rfl, z, fun q hq => p1.newLst sh1 rs.reverse hq⟩
        · exact p1.elim
      · exact p1.elim
/-! ### {k: v, ..} -/
def putP (kvs : List (Key × PV)) (k : Key) (v : PV) : List (Key × PV) :=
  if (kvs.any fun kv => decide (kv.1 = k)) = true then kvs.map (fun kv => if kv.1 = k then (kv.1, v) else kv) else kvs ++ [(k, v)]
def mergeP (kvs more : List (Key × PV)) : List (Key × PV) := more.foldl (fun acc kv => putP acc kv.1 kv.2) kvs
section
variable {K : KW} {ρ : List Addr} {H : Hp}
theorem RKV.append : ∀ {a b : List (Key × PV)} {a' b' : List (Key × V)}, RKV K ρ H a a' → RKV K ρ H b b' → RKV K ρ H (a ++ b) (a' ++ b')
  | _, _, _, _, .nil, s => s
  | _, _, _, _, .cons r t, s => .cons r (RKV.append t s)
theorem RKV.any (k : Key) : ∀ {a : List (Key × PV)} {a' : List (Key × V)}, RKV K ρ H a a' → (a.any fun kv => decide (kv.1 = k)) = (a'.any fun kv => decide (kv.1 = k))
  | _, _, .nil => rfl
  | _, _, .cons r t => by
    rw [List.any_cons, List.any_cons, RKV.any k t]
theorem RKV.mapPut (k : Key) {v : PV} {w : V} (r : RV K ρ H v w) : ∀ {a : List (Key × PV)} {a' : List (Key × V)}, RKV K ρ H a a' → RKV K ρ H (a.map fun kv => if kv.1 = k then (kv.1, v) else kv) (a'.map fun kv => if kv.1 = k then (kv.1, w) else kv)
  | _, _, .nil => .nil
  | _, _, .cons (k := k2) r2 t => by
    rw [List.map_cons, List.map_cons]
    have ih := RKV.mapPut k r t
    by_cases h : k2 = k
    · simp only [h, if_true]
      exact .cons r ih
    · simp only [h, if_false]
      exact .cons r2 ih
theorem RKV.put (k : Key) {v : PV} {w : V} (r : RV K ρ H v w) {a : List (Key × PV)} {a' : List (Key × V)} (h : RKV K ρ H a a') : RKV K ρ H (putP a k v) (putK a' k w) := by
  unfold putP putK
  rw [h.any k]
  split
  · exact h.mapPut k r
  · exact h.append (.cons r .nil)
theorem RKV.merge : ∀ {more : List (Key × PV)} {more' : List (Key × V)} {a : List (Key × PV)} {a' : List (Key × V)}, RKV K ρ H a a' → RKV K ρ H more more' → RKV K ρ H (mergeP a more) (mergeK a' more')
  | _, _, _, _, h, .nil => h
  | _, _, _, _, h, .cons (k := k) r t => by
    unfold mergeP mergeK
    rw [List.foldl_cons, List.foldl_cons]
    exact RKV.merge (h.put k r) t
theorem RKV.length : ∀ {a : List (Key × PV)} {a' : List (Key × V)}, RKV K ρ H a a' → a.length = a'.length
  | _, _, .nil => rfl
  | _, _, .cons _ t => by rw [List.length_cons, List.length_cons, RKV.length t]
end
def keyOf (v : PV) : Option Key := match v with
  | .int i => some (.inl i)
  | .str s => some (.inr s)
  | _ => none
def pairUp : List PV → Option (List (Key × PV))
  | [] => some []
  | k :: v :: r => match keyOf k, pairUp r with
    | some k, some ps => some ((k, v) :: ps)
    | _, _ => none
  | [_] => none
def flatV2 : List (V × V) → List V
  | [] => []
  | (x, y) :: r => x :: y :: flatV2 r
theorem pairUp_below {K : KW} {ρ : List Addr} {H : Hp} : ∀ {ps : List (V × V)} {vs : List PV} {kvs : List (Key × PV)}, RVs K ρ H vs (flatV2 ps) → pairUp vs = some kvs → ∃ kws : List (Key × V), ps = kws.map (fun kv => (kV kv.1, kv.2)) ∧ RKV K ρ H kvs kws
  | [], _, _, .nil, e => by
    cases e
    exact ⟨[], rfl, .nil⟩
  | (x, y) :: r, _, _, .cons r1 (.cons r2 t), e => by
    simp only [pairUp] at e
    split at e
    · rename_i k ps e1 e2
      cases e
      obtain ⟨kws, rfl, t2⟩ := pairUp_below t e2
      cases r1 with
      | int i => cases e1; exact ⟨(.inl i, y) :: kws, rfl, .cons r2 t2⟩
      | str i => cases e1; exact ⟨(.inr i, y) :: kws, rfl, .cons r2 t2⟩
      | _ => cases e1
    · cases e
/-- a display's pairs -/
def RPs (X : Cx) (W : WX) (pos : Pos) (ks : List (Option Expr)) (vs : List Expr) (m : PEnv → MH → R (List PV)) : Prop :=
  ∃ trs, PPs X pos ks vs trs ∧ ∀ σ H Q, tAr X.kw W m σ H (fun xs H' => ∀ ps, xs = flatV2 ps → Q ps H') → tPairs trs σ H Q
theorem rps_nil : RPs X W pos [] [] mNil := ⟨[], pps_nil, fun σ H Q h => by
  obtain ⟨ρ, env, mh, sh, se, p⟩ := h
  exact p ρ [] H .refl sh .nil [] rfl⟩
theorem rps_cons {ks : List (Option Expr)} {vs : List Expr} {mr : PEnv → MH → R (List PV)} (ha : RE X W a ma) (hb : RE X W b mb) (hr : RPs X W pos ks vs mr) : RPs X W pos (some a :: ks) (b :: vs) (mCons ma (mCons mb mr)) := by
  obtain ⟨trs, h1, h2⟩ := hr
  refine ⟨_, pps_cons ha hb h1, fun σ H Q h => ?_⟩
  obtain ⟨ρ, env, mh, sh, se, p⟩ := h
  refine ⟨ρ, env, mh, sh, se, Post.bindA p fun v mh1 ρ1 x H1 _ l1 sh1 rv p1 => ?_⟩
  have p1' : PostA X.kw ρ1 H1 ((mb env mh1).bind fun w mh2 => (mr env mh2).bind fun us mh3 => .ok (v :: w :: us) mh3) (fun xs H' => ∀ ps, xs = flatV2 ps → Q ps H') (fun c d H' => W c d σ H') := by
    have e : ((mCons mb mr env mh1).bind fun vs mh2 => R.ok (v :: vs) mh2) = (mb env mh1).bind fun w mh2 => (mr env mh2).bind fun us mh3 => .ok (v :: w :: us) mh3 := by
      unfold mCons
      cases mb env mh1 with
      | ok w h => simp only [R.bind_ok]; cases mr env h <;> rfl
      | exc _ _ _ => rfl
      | bad => rfl
    rw [← e]
    exact p1
  refine ⟨ρ1, env, mh1, sh1, se.mono l1, Post.bindA p1' fun w mh2 ρ2 y H2 _ l2 sh2 rw p2 => ?_⟩
  refine h2 _ _ _ ⟨ρ2, env, mh2, sh2, (se.mono l1).mono l2, p2.bindA fun us mh3 ρ3 zs H3 _ l3 sh3 rs p3 => ?_⟩
  intro ps e
  subst e
  exact p3 ρ3 (x :: y :: flatV2 ps) H3 .refl sh3 (.cons (rv.mono (l2.trans l3)) (.cons (rw.mono l3) rs)) ((x, y) :: ps) rfl
def mDict (m : PEnv → MH → R (List PV)) : PEnv → MH → R PV := fun env mh => (m env (mh ++ [.dict []])).bind fun vs mh2 => match pairUp vs, mh2[mh.length]? with
  | some kvs, some (.dict []) => if kvs.length ≤ 15 then .ok (.ref mh.length) (mh2.set mh.length (.dict (mergeP [] kvs))) else .bad
  | _, _ => .bad
theorem re_dict {ks : List (Option Expr)} {vs : List Expr} (h : RPs X W pos ks vs m) (hall : ks.all (·.isSome) = true := by rfl) (hl : ks.length = vs.length := by rfl) (h0 : ks ≠ [] := by intro z; cases z) (h15 : ks.length ≤ 15 := by decide) : RE X W (.Dict ks vs pos) (mDict m) := by
  obtain ⟨trs, h1, h2⟩ := h
  refine (pe_disp h1 hall hl h0 h15).imp fun σ H Q hh => ?_
  obtain ⟨ρ, env, mh, sh, se, p⟩ := hh
  unfold mDict at p
  intro D hD
  have l0 : Le X.kw ρ H (ρ ++ [D]) (upd H D (.dK [])) := ⟨fun n a h => by
    rw [List.getElem?_append_left (List.getElem?_eq_some_iff.mp h).1]; exact h, .of_new hD⟩
  obtain ⟨s1, l1, r1⟩ := sh.alloc (o := .dK []) (mo := .dict []) hD ⟨[], upd_same, .nil⟩
  have hd0 : (ρ ++ [D])[mh.length]? = some D := by
    cases r1 with
    | ref h => exact h
  refine h2 _ _ _ ⟨ρ ++ [D], env, _, s1, se.mono l1, PostA.bind (Post.le l1 p) fun us mh2 ρ2 xs H2 _ l2 sh2 rv p2 => ?_⟩
  intro ps e
  subst e
  split at p2
  · rename_i kvs e1 e2
    split at p2
    · rename_i hz
      obtain ⟨kws, e3, t⟩ := pairUp_below rv e1
      have hD2 := l2.pre _ _ hd0
      obtain ⟨z, hz1, hz2⟩ := sh2.ob _ _ D e2 hD2
      cases hz2
      have tm := RKV.merge (a := []) (a' := []) .nil t
      have gr : Le X.kw ρ2 H2 ρ2 (upd H2 D (.dK (mergeK [] kws))) := ⟨fun _ _ h => h, .of_mut hz1 (by simp) (by simp)⟩
      obtain ⟨s3, l3⟩ := sh2.write (o := .dK (mergeK [] kws)) (mo := .dict (mergeP [] kvs)) hD2 hz1 (by simp) (by simp) (by simp) ⟨_, upd_same, tm.mono gr⟩ (fun vs z => by rw [e2] at z; cases z)
      exact ⟨hz1, kws, e3, by rw [← t.length]; exact hz, p2 ρ2 _ _ l3 s3 (.ref (l3.pre _ _ hD2))⟩
    · exact p2.elim
  · exact p2.elim
theorem re_dict0 : RE X W (.Dict [] [] pos) (mDict mNil) := pe_dnewK.imp fun σ H Q h => by
  obtain ⟨ρ, env, mh, sh, se, p⟩ := h
  intro D hD
  have l0 : Le X.kw ρ H (ρ ++ [D]) (upd H D (.dK [])) := ⟨fun n a h => by
    rw [List.getElem?_append_left (List.getElem?_eq_some_iff.mp h).1]; exact h, .of_new hD⟩
  obtain ⟨s1, l1, r1⟩ := sh.alloc (o := .dK []) (mo := .dict []) hD ⟨[], upd_same, .nil⟩
  unfold mDict mNil at p
  simp only [R.bind_ok, pairUp, List.getElem?_append_right (Nat.le_refl _), Nat.sub_self, List.getElem?_cons_zero, List.length_nil] at p
  rw [if_pos (Nat.zero_le _)] at p
  have e : (mh ++ [MO.dict []]).set mh.length (.dict (mergeP [] [])) = mh ++ [.dict []] := by
    apply List.ext_getElem?
    intro i
    by_cases hi : mh.length = i
    · subst hi
      rw [List.getElem?_set_self (by simp)]
      simp [mergeP]
    · rw [List.getElem?_set_ne hi]
  rw [e] at p
  exact p _ _ _ l1 s1 r1
end
end Ev
namespace Ev
open PySem PySem.Spec PyProof.Rows L2
theorem boot_isinstance' : bootBuiltins "isinstance" = some (.builtin "isinstance") := by decide +kernel
theorem boot_len' : bootBuiltins "len" = some (.builtin "len") := by decide +kernel
theorem boot_abs' : bootBuiltins "abs" = some (.builtin "abs") := by decide +kernel
theorem boot_all' : bootBuiltins "all" = some (.builtin "all") := by decide +kernel
theorem boot_any' : bootBuiltins "any" = some (.builtin "any") := by decide +kernel
theorem boot_sum' : bootBuiltins "sum" = some (.builtin "sum") := by decide +kernel
theorem boot_max' : bootBuiltins "max" = some (.builtin "max") := by decide +kernel
theorem boot_min' : bootBuiltins "min" = some (.builtin "min") := by decide +kernel
theorem boot_sorted' : bootBuiltins "sorted" = some (.builtin "sorted") := by decide +kernel
theorem boot_repr' : bootBuiltins "repr" = some (.builtin "repr") := by decide +kernel
theorem boot_int' : bootBuiltins "int" = some (.type "int") := by decide +kernel
theorem boot_bool' : bootBuiltins "bool" = some (.type "bool") := by decide +kernel
theorem boot_str' : bootBuiltins "str" = some (.type "str") := by decide +kernel
theorem boot_tuple' : bootBuiltins "tuple" = some (.type "tuple") := by decide +kernel
theorem boot_list' : bootBuiltins "list" = some (.type "list") := by decide +kernel
theorem boot_dict' : bootBuiltins "dict" = some (.type "dict") := by decide +kernel
theorem boot_set' : bootBuiltins "set" = some (.type "set") := by decide +kernel
end Ev
namespace Ev
open PySem PySem.Spec PyProof.Rows L2
/-! ### the law's call, behind the head -/
/-- what the call of a law leaves -/
abbrev EndOk (s₁ : Shared) : Result → Shared → Prop := fun r s' => r = .ok (.ret (.bool true)) ∧ OldK s₁.heap s'.heap ∧ s'.os = s₁.os ∧ AllBare s'.gens
theorem fng_fd {P : Program} {w : World} {K : PySem.W.Frag} {mg : Str → Option Value} {base : Heap} {k : Nat} {x : Str} {params : Arguments} {body : List Stmt} {scope : Scope} {N ps : List Str} {f : Addr} {fd : FuncData} {mb : PEnv → MH → RS} (F : FunD K x x params body scope [] [] f fd) (S : FnScope N ps scope)
    (hbody : ∀ (cdv : Value) (A : Around) (outer : List PySem.Env) (s : Shared) (H : Hp) (E : XK), Room k (A.deeper (envOfC x scope s.heap.objs.size f cdv)) → A.guards = some [] →
      RSs (cxOf (L2.CX P w) P w K mg base N x scope f cdv A outer s H E) (fun c d _ H' => E c d H') body mb) : FnG P w K mg base (k + 1) f fd ps (spE ⟨K, w, P⟩ ps.length (runB mb N.length)) := by
  obtain ⟨oc, od, dV, kV, doc, pm, an, cdv, ct, osl, rfl, lk, hcd, _, _⟩ := F.ex
  exact fng_body lk hcd S fun A outer s H E hr hg => hbody cdv A outer s H E hr hg
section
variable {P : Program} {w : World} {K : PySem.W.Frag} {mg mb : Str → Option Value} {k : Nat} {fa a : Addr} {fd : FuncData} {x : Str} {s₁ : Shared} {items : List Value} {ns : List Int} {cf : List PV → MH → R PV}
theorem law_from {T : Hp} (KX : K.In s₁.heap) (hns : s₁.heap.Ns mainGlobals mg) (hb : s₁.heap.Ns builtinsNs mb) (hbb : ∀ y : Str, y ≠ "__name__" → mb y = bootBuiltins y)
    (hlim : s₁.heap.NoLimit) (hg : s₁.gens = #[]) (ha : s₁.heap.get? a = some { cls := .type "list", data := .seq items.toArray }) (hr : Room k callerA)
    (F : ∀ bs : Heap, K.In bs → bs.Ns mainGlobals mg → FnG P w K mg bs k fa fd [x] (spE ⟨K, w, P⟩ 1 cf))
    (hbind : ∀ (s : Shared) (u : Value), BindsTo s fd ⟨[u], []⟩ [(x, u)])
    (hT : ∀ b, T b = none ∨ ∃ o xs, T b = some (.frz o (.lst xs))) (hok : HOk P w T s₁.heap) (only : ∀ b, T b ≠ none → b = a) (hK : T a ≠ none → K.lookup a = none)
    (hS : ∃ ρ mh v, SimH ⟨K, w, P⟩ ρ mh T ∧ RV ⟨K, w, P⟩ ρ T v (.ref a) ∧ ∃ mh', cf [v] mh = .ok (.bl true) mh') :
    codeAny (model P w) callerA (.call (.ref fa) ⟨[.ref a], []⟩) (EndOk s₁) s₁ := by
  have free : ∀ {b : Addr} {o : Obj} {es : Array DictEntry} {ep : Nat}, s₁.heap.get? b = some o → o.data = .dict es ep → T b = none := by
    intro b o es ep e d
    refine Classical.byContradiction fun q => ?_
    cases only b q
    rw [ha] at e
    cases e
    cases (show Data.seq items.toArray _ = Data.dict es ep from d)
  have names : ∀ {b : Addr} {m : Str → Option Value}, s₁.heap.Ns b m → (hidT s₁.heap T).Ns b m := by
    rintro b m ⟨o, es, ep, e, d, r⟩
    exact ⟨o, es, ep, hidT_get e (free e d), d, r⟩
  have kin : K.In (hidT s₁.heap T) := by
    intro b o e
    refine hidT_get (KX b o e) (Classical.byContradiction fun q => ?_)
    cases only b q
    rw [hK q] at e
    cases e
  obtain ⟨ml, l1, l2⟩ := hlim
  have md : Mod K mg (hidT s₁.heap T) := ⟨kin, names hns, ⟨mb, names hb, hbb⟩, ⟨ml, names l1, l2⟩⟩
  have e0 : Env0 P w K mg (hidT s₁.heap T) callerA [] s₁ T :=
    { frames := rfl, mod := md, bs := fun b o e => of_hidT e, bsz := Nat.le_of_eq (hidT_size _ _), funs := trivial, frf := (by intro b hb; cases hb), hok := hok, bare := .of_eq hg }
  obtain ⟨ρ, mh, v, sh, rv, mh', hcf⟩ := hS
  have run := (F _ kin (names hns)).run callerA [] s₁ T ⟨[.ref a], []⟩ [.ref a] [.ref a] (fun z _ => z = .bl true) (fun _ _ _ => False) hr rfl e0 (hbind s₁ (.ref a)) (.cons rfl .nil)
    ⟨ρ, mh, [v], sh, .cons rv .nil, rfl, by
      rw [hcf]
      intro ρ' z H' _ _ rz
      cases rz
      rfl⟩
  refine codeAny_mono run fun r s' h => ?_
  match r, h with
  | .error e, h =>
    obtain ⟨_, _, _, _, _, _, _, _, _, _, _, _, _, _, _, _, z⟩ := h
  | .ok (.ret u), h =>
    obtain ⟨z, H', os, bare, un, hok', rz, q⟩ := h
    cases (show z = .bl true from q)
    cases (show u = Value.bool true from rz)
    refine ⟨rfl, .of_keep ?_, os, bare⟩
    intro b o e
    rcases hT b with q | ⟨ob, xs, q⟩
    · exact un.keep b o e q (by intro z; cases z) (by simp)
    · obtain ⟨e1, _⟩ := hok b _ q
      obtain ⟨e2, _⟩ := hok' b _ (un.frzs b ob _ q)
      rw [e] at e1
      cases e1
      exact e2
/-- from the script as it was laid: a list of its own, or one of the module's -/
theorem law_g (KX : K.In s₁.heap) (hns : s₁.heap.Ns mainGlobals mg) (hb : s₁.heap.Ns builtinsNs mb) (hbb : ∀ y : Str, y ≠ "__name__" → mb y = bootBuiltins y)
    (hlim : s₁.heap.NoLimit) (hg : s₁.gens = #[]) (ha : s₁.heap.get? a = some { cls := .type "list", data := .seq items.toArray }) (hi : IntsAre items ns) (hl : ns.length ≤ sizeLine) (hr : Room k callerA)
    (F : ∀ bs : Heap, K.In bs → bs.Ns mainGlobals mg → FnG P w K mg bs k fa fd [x] (spE ⟨K, w, P⟩ 1 cf))
    (hbind : ∀ (s : Shared) (u : Value), BindsTo s fd ⟨[u], []⟩ [(x, u)])
    (hc : ∃ mh', cf [.ref 0] [.scr (ns.map PV.int)] = .ok (.bl true) mh') : codeAny (model P w) callerA (.call (.ref fa) ⟨[.ref a], []⟩) (EndOk s₁) s₁ := by
  have rv := vals_ints hi
  have lenV := hi.length
  have one : ∀ T : Hp, RO ⟨K, w, P⟩ [a] T a (.scr (ns.map PV.int)) → ∃ ρ mh v, SimH ⟨K, w, P⟩ ρ mh T ∧ RV ⟨K, w, P⟩ ρ T v (.ref a) ∧ ∃ mh', cf [v] mh = .ok (.bl true) mh' := by
    intro T ro
    refine ⟨[a], [.scr (ns.map PV.int)], .ref 0, ⟨rfl, fun n m b h e1 e2 => ?_, fun n o b e1 e2 => ?_⟩, .ref rfl, hc⟩
    · have h1 := (List.getElem?_eq_some_iff.mp e1).1
      have h2 := (List.getElem?_eq_some_iff.mp e2).1
      simp only [List.length_singleton] at h1 h2
      omega
    · have h1 := (List.getElem?_eq_some_iff.mp e1).1
      simp only [List.length_singleton] at h1
      have : n = 0 := by omega
      subst this
      cases e1
      cases e2
      exact ro
  cases hk : K.lookup a with
  | some o =>
    have e := KX a o hk
    rw [ha] at e
    cases e
    refine law_from (T := fun _ => none) KX hns hb hbb hlim hg ha hr F hbind (fun _ => .inl rfl) (fun b u z => by cases z) (fun b z => absurd rfl z) (fun z => absurd rfl z) (one _ ?_)
    exact ⟨ns.map V.int, .inr ⟨_, items.toArray, _, hk, rfl, rfl, rfl, by rw [List.size_toArray, lenV]; exact hl, by simpa using rv⟩, RVs.ofInts _ _ _⟩
  | none =>
    let T : Hp := fun b => if b = a then some (.frz { cls := .type "list", data := .seq items.toArray } (.lst (ns.map V.int))) else none
    have Ta : T a = some (.frz { cls := .type "list", data := .seq items.toArray } (.lst (ns.map V.int))) := if_pos rfl
    have Tn : ∀ b, b ≠ a → T b = none := fun b hb => if_neg hb
    refine law_from (T := T) KX hns hb hbb hlim hg ha hr F hbind (fun b => ?_) (fun b u z => ?_) (fun b z => ?_) (fun _ => hk) (one T ⟨ns.map V.int, .inl ⟨_, Ta⟩, RVs.ofInts _ _ _⟩)
    · by_cases h : b = a
      · rw [h]
        exact .inr ⟨_, _, Ta⟩
      · exact .inl (Tn b h)
    · by_cases h : b = a
      · subst h
        rw [Ta] at z
        cases z
        exact ⟨ha, by rw [List.length_map]; exact hl, items, _, rv, ha⟩
      · rw [Tn b h] at z
        cases z
    · exact Classical.byContradiction fun h => z (Tn b h)
/-- THE END: the head's facts give the law's def; the evaluator answers True at every script -/
theorem walk_g {l : PySem.W.OpenLaw} {n k : Nat} {q : Program} {loose : List Str} {XP : (Str → Option Value) → Heap → Prop} {YP : World → Heap → Prop} {d : DefRec} {x : Str} {cf : List PV → MH → R PV}
    (hn : l.most = some n) (hn2 : n ≤ sizeLine) (hdf : d.params.defaults = []) (hr : Room k callerA)
    (F : ∀ (w : World) (mg : Str → Option Value) (fa : Addr) (h : Heap), YP w h → h.Ns mainGlobals mg → mg d.name = some (.ref fa) →
      ∃ (K : PySem.W.Frag) (fd : FuncData), K.In h ∧ (∀ (s : Shared) (u : Value), BindsTo s fd ⟨[u], []⟩ [(x, u)]) ∧
        ∀ bs : Heap, K.In bs → bs.Ns mainGlobals mg → FnG l.prog w K mg bs k fa fd [x] (spE ⟨K, w, l.prog⟩ 1 cf))
    (hc : ∀ ns : List Int, ns.length ≤ n → (∀ i ∈ ns, Builtin.Int.intBits i ≤ 1048576) → ∃ mh', cf [.ref 0] [.scr (ns.map PV.int)] = .ok (.bl true) mh') :
    PySem.W.WalkO q loose XP YP l.row.toRowW d [] (fun f vs => PySem.call f vs) := by
  refine Att.attach_callB hn hdf fun w s₀ s₁ mg mb fa o pm cd doc a vs ns G Y ho hd hcd hmg hobj hints hlen hbits hg => ?_
  obtain ⟨K, fd, KX, hb, hF⟩ := F w mg fa _ Y G.T.g hmg
  exact law_g KX G.T.g G.T.b G.T.builtins G.T.nolimit hg hobj hints (Nat.le_trans hlen hn2) hr hF hb (hc ns hlen hbits)
end
end Ev
namespace Ev
open PySem PySem.Spec PyProof.Rows L2 RZ
open PySem.Sem (wp)
/-! ### list(zip(a, b)) of two tuples: the pairs are held -/
section
variable {prog : Program} {w : World} {A : Around} {E : Value → Shared → Prop} {s : Shared}
theorem heldT_item {z TI TO T i1 i2 l1 l2 : Addr} {f : Bool} {oT : Obj} {k1 k2 : Nat} {xs ys : Array Value} {x y : Value} {Q : Option Value → Shared → Prop} (D : ZipApart z TI TO i1 i2 l1 l2)
    (hz : IsZipHeld s.heap z TI TO T f) (hT : s.heap.get? T = some oT) (hTI : IsPair s.heap TI (.ref i1) (.ref i2))
    (p1 : s.heap.IsTupleIter i1 l1 k1) (p2 : s.heap.IsTupleIter i2 l2 k2) (q1 : s.heap.IsTuple l1 xs) (q2 : s.heap.IsTuple l2 ys) (hx : xs[k1]? = some x) (hy : ys[k2]? = some y)
    (hQ : ∀ h', IsZipHeld h' z TI TO T true → h'.IsTupleIter i1 l1 (k1 + 1) → h'.IsTupleIter i2 l2 (k2 + 1) → IsPair h' s.heap.objs.size x y →
      (∀ c o, c ≠ z → c ≠ i1 → c ≠ i2 → s.heap.get? c = some o → h'.get? c = some o) → Q (some (.ref s.heap.objs.size)) { s with heap := h' }) :
    wpAny (model prog w) A (pyNext (.ref z)) Q E s := by
  have hTy : s.TypeIs (.ref z) "zip" := ⟨_, hz, rfl⟩
  unfold pyNext
  refine wpAny_bind (wpAny_attempt (wpAny_callSpecial?_slot (name := Str.ofString "__next__") hTy F.slot_zip_next (wpAny_call_entry F.slot_zip_next hTy F.entry_zip_next ?_ (F.args_zip_next_1 _))))
  show wpAny _ _ (field (.ref z) 2 >>= _) _ _ _
  refine wpAny_bind (wpAny_field hz rfl (x := .bool false) rfl ?_)
  show wpAny _ _ (field (.ref z) 3 >>= _) _ _ _
  refine wpAny_bind (wpAny_field hz rfl (x := .ref TI) rfl ?_)
  refine wpAny_bind (wpAny_seqItems hTI rfl ?_)
  show wpAny _ _ (Builtin.SmallTypes.ownedTupleIsFree (.ref z) >>= _) _ _ _
  refine wpAny_bind (wpAny_tupleHeld_zip hz hT fun g1 z1 s1 => ?_)
  simp only [Bool.false_eq_true, if_false]
  refine wpAny_bind ?_
  rw [← Array.forIn_toList]
  simp only [List.forIn_cons, List.forIn_nil]
  refine wpAny_bind (wpAny_bind (wpAny_holding ?_))
  show wpAny _ _ (Builtin.SmallTypes.nextOf (.ref i1) >>= _) _ _ _
  refine wpAny_bind (nextOf_tuple_item (s := { s with heap := g1 }) (p1.extBut s1.extBut D.i1z) (q1.extBut s1.extBut D.l1z) hx fun g2 r1 s2 => wpAny_pure ?_)
  refine wpAny_pure ?_
  refine wpAny_bind (wpAny_bind (wpAny_holding ?_))
  show wpAny _ _ (Builtin.SmallTypes.nextOf (.ref i2) >>= _) _ _ _
  refine wpAny_bind (nextOf_tuple_item (s := { s with heap := g2 }) ((p2.extBut s1.extBut D.i2z).extBut s2.extBut D.i12.symm) ((q2.extBut s1.extBut D.l2z).extBut s2.extBut D.l2i1) hy fun g3 r2 s3 => wpAny_pure ?_)
  refine wpAny_pure (wpAny_pure ?_)
  show wpAny _ _ (newTuple [x, y] >>= _) _ _ _
  refine wpAny_bind (wpAny_newTuple ?_)
  have esz : g3.objs.size = s.heap.objs.size := by rw [s3.1, s2.1, s1.1]
  have z3 : IsZipHeld g3 z TI TO T true := s3.extBut _ _ D.i2z.symm (s2.extBut _ _ D.i1z.symm z1)
  have keep : ∀ c o, c ≠ z → c ≠ i1 → c ≠ i2 → s.heap.get? c = some o → g3.get? c = some o := fun c o c1 c2 c3 e => s3.extBut _ _ c3 (s2.extBut _ _ c2 (s1.extBut _ _ c1 e))
  have r1' : g3.IsTupleIter i1 l1 (k1 + 1) := r1.extBut s3.extBut D.i12
  refine wpAny_pure ⟨_, rfl, wpAny_pure ?_⟩
  have hp : IsPair (g3.push { cls := .type "tuple", data := .seq #[x, y] }) g3.objs.size x y := Heap.get?_push_size _ rfl
  rw [esz] at hp ⊢
  exact hQ _ (Heap.get?_push_of_some _ z3) (r1'.at fun o e => Heap.get?_push_of_some _ e) (r2.at fun o e => Heap.get?_push_of_some _ e) hp fun c o c1 c2 c3 e => Heap.get?_push_of_some _ (keep c o c1 c2 c3 e)
theorem heldT_end {z TI TO T i1 i2 l1 l2 : Addr} {f : Bool} {oT : Obj} {k1 k2 : Nat} {xs ys : Array Value} {Q : Option Value → Shared → Prop} (hh : A.handled = none) (D : ZipApart z TI TO i1 i2 l1 l2)
    (hz : IsZipHeld s.heap z TI TO T f) (hT : s.heap.get? T = some oT) (hTI : IsPair s.heap TI (.ref i1) (.ref i2))
    (p1 : s.heap.IsTupleIter i1 l1 k1) (p2 : s.heap.IsTupleIter i2 l2 k2) (q1 : s.heap.IsTuple l1 xs) (q2 : s.heap.IsTuple l2 ys) (hend : xs[k1]? = none ∨ ys[k2]? = none)
    (hQ : ∀ h', (∀ c o, c ≠ z → c ≠ i1 → c ≠ i2 → s.heap.get? c = some o → h'.get? c = some o) → Q none { s with heap := h' }) : wpAny (model prog w) A (pyNext (.ref z)) Q E s := by
  have hTy : s.TypeIs (.ref z) "zip" := ⟨_, hz, rfl⟩
  unfold pyNext
  refine wpAny_bind (wpAny_attempt (wpAny_callSpecial?_slot (name := Str.ofString "__next__") hTy F.slot_zip_next (wpAny_call_entry F.slot_zip_next hTy F.entry_zip_next ?_ (F.args_zip_next_1 _))))
  show wpAny _ _ (field (.ref z) 2 >>= _) _ _ _
  refine wpAny_bind (wpAny_field hz rfl (x := .bool false) rfl ?_)
  show wpAny _ _ (field (.ref z) 3 >>= _) _ _ _
  refine wpAny_bind (wpAny_field hz rfl (x := .ref TI) rfl ?_)
  refine wpAny_bind (wpAny_seqItems hTI rfl ?_)
  show wpAny _ _ (Builtin.SmallTypes.ownedTupleIsFree (.ref z) >>= _) _ _ _
  refine wpAny_bind (wpAny_tupleHeld_zip hz hT fun g1 z1 s1 => ?_)
  simp only [Bool.false_eq_true, if_false]
  refine wpAny_bind ?_
  rw [← Array.forIn_toList]
  simp only [List.forIn_cons, List.forIn_nil]
  refine wpAny_bind (wpAny_bind (wpAny_holding ?_))
  show wpAny _ _ (Builtin.SmallTypes.nextOf (.ref i1) >>= _) _ _ _
  cases hx : xs[k1]? with
  | none =>
    refine wpAny_bind (nextOf_tuple_end (s := { s with heap := g1 }) hh (p1.extBut s1.extBut D.i1z) (q1.extBut s1.extBut D.l1z) hx fun g2 e s2 he => ?_)
    obtain ⟨o, ho, hc⟩ := he
    refine wpAny_bind (wpAny_isInstance (T := "StopIteration") (b := true) ⟨o, ho, hc⟩ isSubtype_stop (wpAny_pure (hQ _ ?_)))
    exact fun c o c1 c2 _ x => s2 _ _ c2 (s1.extBut _ _ c1 x)
  | some x =>
    have hy : ys[k2]? = none := by
      rcases hend with h | h
      · rw [hx] at h
        cases h
      · exact h
    refine wpAny_bind (nextOf_tuple_item (s := { s with heap := g1 }) (p1.extBut s1.extBut D.i1z) (q1.extBut s1.extBut D.l1z) hx fun g2 r1 s2 => wpAny_pure ?_)
    refine wpAny_pure ?_
    refine wpAny_bind (wpAny_bind (wpAny_holding ?_))
    show wpAny _ _ (Builtin.SmallTypes.nextOf (.ref i2) >>= _) _ _ _
    refine wpAny_bind (nextOf_tuple_end (s := { s with heap := g2 }) hh ((p2.extBut s1.extBut D.i2z).extBut s2.extBut D.i12.symm) ((q2.extBut s1.extBut D.l2z).extBut s2.extBut D.l2i1) hy fun g3 e s3 he => ?_)
    obtain ⟨o, ho, hc⟩ := he
    refine wpAny_bind (wpAny_isInstance (T := "StopIteration") (b := true) ⟨o, ho, hc⟩ isSubtype_stop (wpAny_pure (hQ _ ?_)))
    exact fun c o c1 c2 c3 x => s3 _ _ c3 (s2.extBut _ _ c2 (s1.extBut _ _ c1 x))
end
/-- the zip's state at turn i; S, the list that holds the pairs -/
def ZSt (h : Heap) (z TI TO i1 i2 a b S : Addr) (i : Nat) : Prop := IsPair h TI (.ref i1) (.ref i2) ∧ h.IsTupleIter i1 a i ∧ h.IsTupleIter i2 b i ∧
  (∃ x y, IsPair h TO x y) ∧ (IsZip h z TI TO .none ∨ ∃ T f oT, IsZipHeld h z TI TO T f ∧ h.get? T = some oT ∧ T ≠ z ∧ T ≠ i1 ∧ T ≠ i2 ∧ T ≠ S)
section
variable {X : Cx} {pins : List (Addr × Obj)} {σ : L2.St}
theorem zip_loop {A : Around} (hh : A.in1.handled = none) {z TI TO i1 i2 a b S : Addr} (D : ZipApart z TI TO i1 i2 a b) (hS : S ∉ [z, TI, TO, i1, i2]) (res : Value) {xs ys : List V} {R : Result → Shared → Prop} (G : Nat → Hp → Prop)
    (info : ∀ i H, G i H → SqT X.K H a xs ∧ SqT X.K H b ys ∧ ∃ acc, H S = some (.lst acc) ∧ acc.length = i)
    (step : ∀ i H T x y acc, G i H → xs[i]? = some x → ys[i]? = some y → H T = none → H S = some (.lst acc) → G (i + 1) (upd (upd H T (.tup [x, y])) S (.lst (acc ++ [.ref T]))))
    (hz : min xs.length ys.length ≤ sizeLine) (fin : ∀ s' H', Inv X pins σ H' s' → G (min xs.length ys.length) H' → R (.ok (.ret res)) s') :
    ∀ k i s H, min xs.length ys.length - i = k → i ≤ min xs.length ys.length → Inv X pins σ H s → (∀ c ∈ [z, TI, TO, i1, i2], FpOk X pins H c) → ZSt s.heap z TI TO i1 i2 a b S i → G i H →
      codeAny (model X.prog X.w) A (.builtin "list.extend.loop" ⟨[.ref S, .ref z, res], []⟩) R s := by
  intro k
  induction k with
  | zero =>
    intro i s H hk hi I hf st g
    have ei : i = min xs.length ys.length := by omega
    obtain ⟨qa, qb, acc, hacc, hl⟩ := info i H g
    obtain ⟨its, rv, t1, _⟩ := I.tuple qa
    obtain ⟨its2, rv2, t2, _⟩ := I.tuple qb
    have e1 := rv.length
    have e2 := rv2.length
    have hend : its.toArray[i]? = none ∨ its2.toArray[i]? = none := by
      rcases Nat.le_total xs.length ys.length with h | h
      · exact .inl (by simp; omega)
      · exact .inr (by simp; omega)
    refine codeAny_builtin F.entry_extend_loop ?_
    rw [Around.under_plainId F.plain_extend_loop _]
    show wpAny _ A.in1 (pyNext (.ref z) >>= _) _ _ s
    have last : ∀ h', (∀ c o, c ∉ [z, TI, TO, i1, i2] → s.heap.get? c = some o → h'.get? c = some o) → R (.ok (.ret res)) { s with heap := h' } := fun h' hk => by
      refine fin _ H (I.turnedL (t' := s.toks) hk hf) ?_
      rw [← ei]
      exact g
    obtain ⟨hTI, p1, p2, ⟨x0, y0, hTO⟩, z1 | ⟨T, f, oT, z1, hT, r1, r2, r3, r4⟩⟩ := st
    · refine wpAny_bind (pyNext_zipT_end hh D z1 hTI hTO p1 p2 t1 t2 hend fun h' hk => wpAny_pure (last h' fun c o hc e => hk c o ?_ ?_ ?_ ?_ e))
      all_goals (intro q; exact hc (by simp [q]))
    · refine wpAny_bind (heldT_end hh D z1 hT hTI p1 p2 t1 t2 hend fun h' hk => wpAny_pure (last h' fun c o hc e => hk c o ?_ ?_ ?_ e))
      all_goals (intro q; exact hc (by simp [q]))
  | succ k ih =>
    intro i s H hk hi I hf st g
    obtain ⟨qa, qb, acc, hacc, hl⟩ := info i H g
    obtain ⟨its, rv, t1, _⟩ := I.tuple qa
    obtain ⟨its2, rv2, t2, _⟩ := I.tuple qb
    have hix : i < xs.length := by omega
    have hiy : i < ys.length := by omega
    obtain ⟨u, hu, ru⟩ := rv.get (List.getElem?_eq_getElem hix)
    obtain ⟨u2, hu2, ru2⟩ := rv2.get (List.getElem?_eq_getElem hiy)
    refine codeAny_builtin F.entry_extend_loop ?_
    rw [Around.under_plainId F.plain_extend_loop _]
    show wpAny _ A.in1 (pyNext (.ref z) >>= _) _ _ s
    have hfT : H s.heap.objs.size = none := I.fresh
    have ltT : ∀ c ∈ [z, TI, TO, i1, i2], (∃ o, s.heap.get? c = some o) → s.heap.objs.size ≠ c := fun c _ ⟨o, e⟩ => Nat.ne_of_gt (Heap.lt_size e)
    -- behind the next pair
    have after : ∀ (h' : Heap), (∀ c o, c ∉ [z, TI, TO, i1, i2] → s.heap.get? c = some o → h'.get? c = some o) → IsPair h' s.heap.objs.size u u2 → h'.IsTupleIter i1 a (i + 1) → h'.IsTupleIter i2 b (i + 1) → IsPair h' TI (.ref i1) (.ref i2) → (∃ x y, IsPair h' TO x y) →
        (∃ T f oT, IsZipHeld h' z TI TO T f ∧ h'.get? T = some oT ∧ T ≠ z ∧ T ≠ i1 ∧ T ≠ i2 ∧ T ≠ S) → s.heap.objs.size ≠ z → s.heap.objs.size ≠ TI → s.heap.objs.size ≠ TO → s.heap.objs.size ≠ i1 → s.heap.objs.size ≠ i2 →
        wpAny (model X.prog X.w) A.in1 (updateSeq S (·.push (.ref s.heap.objs.size)) >>= fun _ => again (.builtin "list.extend.loop" ⟨[.ref S, .ref z, res], []⟩)) (fun fin s' => match fin with | .done f => R (.ok f) s' | .again c' => c'.quiet = true ∧ codeAny (model X.prog X.w) A c' R s') (fun e s' => R (.error e) s') { s with heap := h' } := by
      intro h' hk' hp r1 r2 hTI' hTO' hheld n1 n2 n3 n4 n5
      have new : ObjOk X.prog X.w (upd H s.heap.objs.size (.tup [xs[i], ys[i]])) h' s.heap.objs.size (.tup [xs[i], ys[i]]) :=
        ⟨by show 2 ≤ sizeLine; decide, [u, u2], .cons ru (.cons ru2 .nil), ⟨_, hp, rfl, _, rfl⟩⟩
      have I1 : Inv X pins σ (upd H s.heap.objs.size (.tup [xs[i], ys[i]])) { s with heap := h' } := I.turnedNew (t' := s.toks) hk' hf (Nat.le_refl _) new
      have hSne : S ≠ s.heap.objs.size := fun q => by
        rw [q, hfT] at hacc
        cases hacc
      have hacc1 : (upd H s.heap.objs.size (.tup [xs[i], ys[i]])) S = some (.lst acc) := by rw [upd_ne hSne]; exact hacc
      obtain ⟨zl, itl, nl, rl, el, eo⟩ := I1.lstM hacc1
      have eo' : h'.get? S = some { cls := .type "list", data := .seq itl.toArray nl } := eo
      refine wpAny_bind (wpAny_updateSeq eo' rfl ?_ (by rw [List.size_toArray]; omega) (by show (itl.toArray.push _).size ≤ _; rw [Array.size_push, List.size_toArray]; omega))
      have I2 := I1.lset (t' := s.toks) (its' := itl ++ [.ref s.heap.objs.size]) (ys := acc ++ [.ref s.heap.objs.size]) (f := (·.push (.ref s.heap.objs.size))) hacc1 eo (by simp) (rl.append (.cons (show RelV (.ref _) (.ref _) from rfl) .nil)) (by rw [List.length_append, List.length_singleton]; omega)
      have oth : ∀ c o, c ≠ S → h'.get? c = some o → (h'.update S (Obj.mapSeq (·.push (.ref s.heap.objs.size)))).get? c = some o := fun c o hc e => (Heap.get?_update_other _ _ (Ne.symm hc)).trans e
      have mem : ∀ {c : Addr}, c ∈ [z, TI, TO, i1, i2] → c ≠ S := fun hc q => hS (q ▸ hc)
      refine wpAny_pure ⟨plainId_quiet F.plain_extend_loop _, ih (i + 1) _ _ (by omega) (by omega) I2 (fun c hc => ?_) ⟨oth _ _ (mem (by simp)) hTI', r1.at fun o e => oth _ o (mem (by simp)) e, r2.at fun o e => oth _ o (mem (by simp)) e, (let ⟨x, y, q⟩ := hTO'; ⟨x, y, oth _ _ (mem (by simp)) q⟩), .inr ?_⟩ (step i H _ _ _ acc g (List.getElem?_eq_getElem hix) (List.getElem?_eq_getElem hiy) hfT hacc)⟩
      · obtain ⟨f0, f1, f2, f3, f4, f5⟩ := hf c hc
        refine ⟨?_, f1, f2, f3, f4, f5⟩
        have hcT : c ≠ s.heap.objs.size := by
          simp only [List.mem_cons, List.not_mem_nil, or_false] at hc
          rcases hc with q | q | q | q | q <;> (subst q; exact Ne.symm (by assumption))
        rw [upd_ne (mem hc), upd_ne hcT]
        exact f0
      · obtain ⟨T, f, oT, z1, hT, q1, q2, q3, q4⟩ := hheld
        exact ⟨T, f, oT, oth _ _ (mem (by simp)) z1, oth _ _ q4 hT, q1, q2, q3, q4⟩
    obtain ⟨hTI, p1, p2, ⟨x0, y0, hTO⟩, hzz⟩ := st
    have szO : s.heap.objs.size ≠ TO := Nat.ne_of_gt (Heap.lt_size hTO)
    have szz : s.heap.objs.size ≠ i1 := let ⟨_, e, _⟩ := p1; Nat.ne_of_gt (Heap.lt_size e)
    have szz2 : s.heap.objs.size ≠ i2 := let ⟨_, e, _⟩ := p2; Nat.ne_of_gt (Heap.lt_size e)
    have szI : s.heap.objs.size ≠ TI := Nat.ne_of_gt (Heap.lt_size hTI)
    have szS : s.heap.objs.size ≠ S := fun q => by
      rw [← q, hfT] at hacc
      cases hacc
    rcases hzz with z1 | ⟨T, f, oT, z1, hT, r1, r2, r3, r4⟩
    · have szz3 : s.heap.objs.size ≠ z := Nat.ne_of_gt (Heap.lt_size z1)
      refine wpAny_bind (pyNext_zipT_item D z1 hTI hTO p1 p2 t1 t2 (x := u) (y := u2) (by simpa using hu) (by simpa using hu2) fun h' a1 a2 a3 a4 a5 a6 hk' => ?_)
      refine after h' (fun c o hc e => hk' c o (fun q => hc (by simp [q])) (fun q => hc (by simp [q])) (fun q => hc (by simp [q])) (fun q => hc (by simp [q])) e) a5 a3 a4 (hk' _ _ D.TIz D.TITO D.TIi1 D.TIi2 hTI) ⟨_, _, a2⟩ ⟨s.heap.objs.size, false, _, a1, a5, szz3, szz, szz2, szS⟩ szz3 szI szO szz szz2
    · have szz3 : s.heap.objs.size ≠ z := Nat.ne_of_gt (Heap.lt_size z1)
      refine wpAny_bind (heldT_item D z1 hT hTI p1 p2 t1 t2 (x := u) (y := u2) (by simpa using hu) (by simpa using hu2) fun h' a1 a3 a4 a5 hk' => ?_)
      refine after h' (fun c o hc e => hk' c o (fun q => hc (by simp [q])) (fun q => hc (by simp [q])) (fun q => hc (by simp [q])) e) a5 a3 a4 (hk' _ _ D.TIz D.TIi1 D.TIi2 hTI) ⟨_, _, hk' _ _ D.TOz D.TOi1 D.TOi2 hTO⟩ ⟨T, true, oT, a1, hk' _ _ r1 r2 r3 hT, r1, r2, r3, r4⟩ szz3 szI szO szz szz2
theorem zip_no_len : typeLookup (.type "zip") "__len__" = pure none := am_miss_of_fast (by decide +kernel)
theorem zip_no_hint : typeLookup (.type "zip") "__length_hint__" = pure none := am_miss_of_fast (by decide +kernel)
/-- S.extend(zip), S still empty -/
theorem zip_extend {A : Around} {s : Shared} {H : Hp} (hh : A.in1.handled = none) {z TI TO i1 i2 a b S : Addr} (D : ZipApart z TI TO i1 i2 a b) (hS : S ∉ [z, TI, TO, i1, i2]) (res : Value) {xs ys : List V} {R : Result → Shared → Prop} (G : Nat → Hp → Prop)
    (info : ∀ i H, G i H → SqT X.K H a xs ∧ SqT X.K H b ys ∧ ∃ acc, H S = some (.lst acc) ∧ acc.length = i)
    (step : ∀ i H T x y acc, G i H → xs[i]? = some x → ys[i]? = some y → H T = none → H S = some (.lst acc) → G (i + 1) (upd (upd H T (.tup [x, y])) S (.lst (acc ++ [.ref T]))))
    (hz : min xs.length ys.length ≤ sizeLine) (fin : ∀ s' H', Inv X pins σ H' s' → G (min xs.length ys.length) H' → R (.ok (.ret res)) s')
    (I : Inv X pins σ H s) (hf : ∀ c ∈ [z, TI, TO, i1, i2], FpOk X pins H c) (st : ZSt s.heap z TI TO i1 i2 a b S 0) (hz0 : IsZip s.heap z TI TO .none) (g : G 0 H) :
    wpAny (model X.prog X.w) A.in1 (Builtin.List.listExtendWith (.ref S) (.ref z) res)
      (fun fin s' => match fin with | .done f => R (.ok f) s' | .again c' => c'.quiet = true ∧ codeAny (model X.prog X.w) A c' R s') (fun e s' => R (.error e) s') s := by
  have hSz : S ≠ z := fun q => hS (by simp [q])
  have tyz : ∀ h : Heap, ZSt h z TI TO i1 i2 a b S 0 → ({ s with heap := h } : Shared).TypeIs (.ref z) "zip" := fun h st => by
    rcases st.2.2.2.2 with q | ⟨_, _, _, q, _⟩
    · exact ⟨_, q, rfl⟩
    · exact ⟨_, q, rfl⟩
  have ty := tyz s.heap st
  unfold Builtin.List.listExtendWith
  refine wpAny_bind (wpAny_typeOf ty ?_)
  have n1 : Builtin.List.listSameRef (.ref S) (.ref z) = false := by simp [Builtin.List.listSameRef, hSz]
  have n2 : (Value.type "zip" == Value.type "list") = false := by decide
  have n3 : (Value.type "zip" == Value.type "tuple") = false := by decide
  simp only [n1, n2, n3, Bool.or_false, Bool.false_eq_true, if_false]
  have itz : ∀ {Q : Value → Shared → Prop} {E : Value → Shared → Prop}, Q (.ref z) s → wpAny (model X.prog X.w) A.in1 (pyIter (.ref z)) Q E s := by
    intro Q E h
    exact wpAny_pyIter_zip hz0 h
  refine wpAny_bind (itz ?_)
  refine wpAny_bind (wpAny_holding ?_)
  unfold Builtin.List.listLengthHint
  refine wpAny_bind (wpAny_specialOf ty zip_no_len ?_)
  show wpAny _ A.in1 (specialOf (Value.ref z) (Str.ofString "__length_hint__") >>= _) _ _ _
  refine wpAny_bind (wpAny_specialOf ty zip_no_hint ?_)
  refine wpAny_pure ?_
  show wpAny _ A.in1 (rule "list.extend.makes-room" >>= fun _ => Builtin.List.listTouch (.ref S) >>= fun _ => again (.builtin "list.extend.loop" ⟨[.ref S, .ref z, res], []⟩)) _ _ _
  refine wpAny_bind (wpAny_rule ?_)
  refine wpAny_bind ?_
  show wpAny _ A.in1 (updateSeq S (·.push .none) >>= fun _ => updateSeq S (·.pop)) _ _ _
  obtain ⟨_, _, acc, hacc, hl⟩ := info 0 H g
  have eacc : acc = [] := List.eq_nil_of_length_eq_zero hl
  subst eacc
  obtain ⟨zl, itl, nl, rl, el, eo⟩ := I.lstM hacc
  cases rl
  refine wpAny_bind (wpAny_updateSeq eo rfl ?_)
  have eo2 := Heap.get?_update_self (Obj.mapSeq (·.push Value.none)) eo rfl
  refine wpAny_updateSeq eo2 rfl ?_ (by show (Array.push _ _).size ≤ _; rw [Array.size_push]; show 0 + 1 ≤ sizeLine; decide) (by show (Array.pop _).size ≤ _; simp)
  have I2 : Inv X pins σ (upd H S (.lst [])) { s with heap := (s.heap.update S (Obj.mapSeq (·.push .none))).update S (Obj.mapSeq (·.pop)) } := by
    refine I.write (t' := s.toks) (x := S) (e := S) (by rw [hacc]; exact trivial) (.inl rfl) (fun c o hc e => (Heap.get?_update_other _ _ (Ne.symm hc)).trans ((Heap.get?_update_other _ _ (Ne.symm hc)).trans e)) ⟨_, Heap.get?_update_self _ eo2 rfl⟩ ?_
    exact ⟨by show 0 ≤ _; omega, [], _, .nil, Heap.get?_update_self _ eo2 rfl⟩
  have eH : upd H S (.lst []) = H := by
    funext c
    by_cases hc : c = S
    · rw [hc, upd_same, hacc]
    · rw [upd_ne hc]
  rw [eH] at I2
  have oth : ∀ c o, c ≠ S → s.heap.get? c = some o → ((s.heap.update S (Obj.mapSeq (·.push .none))).update S (Obj.mapSeq (·.pop))).get? c = some o := fun c o hc e => (Heap.get?_update_other _ _ (Ne.symm hc)).trans ((Heap.get?_update_other _ _ (Ne.symm hc)).trans e)
  have mem : ∀ {c : Addr}, c ∈ [z, TI, TO, i1, i2] → c ≠ S := fun hc q => hS (q ▸ hc)
  obtain ⟨hTI, p1, p2, ⟨x0, y0, hTO⟩, hzz⟩ := st
  refine wpAny_pure ⟨plainId_quiet F.plain_extend_loop _, zip_loop hh D hS res G info step hz fin _ 0 _ H rfl (Nat.zero_le _) I2 hf ⟨oth _ _ (mem (by simp)) hTI, p1.at fun o e => oth _ o (mem (by simp)) e, p2.at fun o e => oth _ o (mem (by simp)) e, ⟨x0, y0, oth _ _ (mem (by simp)) hTO⟩, ?_⟩ g⟩
  rcases hzz with q | ⟨T, f, oT, q, hT, q1, q2, q3, q4⟩
  · exact .inl (oth _ _ (mem (by simp)) q)
  · exact .inr ⟨T, f, oT, oth _ _ (mem (by simp)) q, oth _ _ q4 hT, q1, q2, q3, q4⟩
/-- list(z), z such a zip -/
theorem call_list_zip {s : Shared} {H : Hp} {Q : VK} (hc : X.calm = true) {z TI TO i1 i2 a b : Addr} (D : ZipApart z TI TO i1 i2 a b) {xs ys : List V} (hlt : ∀ c ∈ [z, TI, TO, i1, i2], c < s.heap.objs.size)
    (G : Nat → Hp → Prop) (info : ∀ i H', G i H' → SqT X.K H' a xs ∧ SqT X.K H' b ys ∧ ∃ acc, H' s.heap.objs.size = some (.lst acc) ∧ acc.length = i)
    (step : ∀ i H' T x y acc, G i H' → xs[i]? = some x → ys[i]? = some y → H' T = none → H' s.heap.objs.size = some (.lst acc) → G (i + 1) (upd (upd H' T (.tup [x, y])) s.heap.objs.size (.lst (acc ++ [.ref T]))))
    (hz : min xs.length ys.length ≤ sizeLine) (fin : ∀ H', G (min xs.length ys.length) H' → Q (.ref s.heap.objs.size) H')
    (I : Inv X pins σ H s) (hf : ∀ c ∈ [z, TI, TO, i1, i2], FpOk X pins H c) (st : ZSt s.heap z TI TO i1 i2 a b s.heap.objs.size 0) (hz0 : IsZip s.heap z TI TO .none) (g : G 0 (upd H s.heap.objs.size (.lst []))) :
    wpAny (model X.prog X.w) X.A (call (.type "list") [.ref z]) (EP X pins σ Q) X.xe s := by
  have hS : s.heap.objs.size ∉ [z, TI, TO, i1, i2] := fun hm => Nat.lt_irrefl _ (hlt _ hm)
  refine callType_codes (Q₁ := fun obj s₁ => obj = .ref s.heap.objs.size ∧ s₁ = { s with heap := s.heap.push { cls := .type "list", data := .seq #[] } }) F.called_list (F.typeCall_list_1 _) F.entry_list_init (code_list_new _ ⟨rfl, rfl⟩) fun obj s₁ e₁ => ?_
  obtain ⟨rfl, rfl⟩ := e₁
  have eo : (s.heap.push { cls := .type "list", data := .seq #[] }).get? s.heap.objs.size = some { cls := .type "list", data := .seq #[] } := Heap.get?_push_size _ rfl
  refine ⟨⟨_, eo, rfl⟩, F.args_list_init_2 _ _, ?_⟩
  have I1 : Inv X pins σ (upd H s.heap.objs.size (.lst [])) { s with heap := s.heap.push { cls := .type "list", data := .seq #[] } } := I.lnew (t' := s.toks) (its := []) .nil (Nat.zero_le _)
  show wpAny _ X.A.in1.in1 (do let old ← Builtin.List.listItems (.ref s.heap.objs.size); Builtin.List.listUpdate (.ref s.heap.objs.size) (fun _ => #[]); letGo old.toList.reverse; Builtin.List.listExtendWith (.ref s.heap.objs.size) (.ref z) .none) _ _ _
  refine wpAny_bind ?_
  unfold Builtin.List.listItems
  refine wpAny_bind (wpAny_seqItems eo rfl (wpAny_pure ?_))
  show wpAny _ X.A.in1.in1 (updateSeq s.heap.objs.size (fun _ => #[]) >>= fun _ => letGo (#[] : Array Value).toList.reverse >>= fun _ => Builtin.List.listExtendWith (.ref s.heap.objs.size) (.ref z) .none) _ _ _
  refine wpAny_bind (wpAny_updateSeq eo rfl ?_)
  refine wpAny_bind (wpAny_letGo ?_)
  have hacc : (upd H s.heap.objs.size (.lst [])) s.heap.objs.size = some (.lst []) := upd_same
  have I2 := I1.lset (t' := s.toks) (its := []) (its' := []) (ys := []) (f := fun _ => #[]) hacc eo rfl .nil (Nat.zero_le _)
  have eH : upd (upd H s.heap.objs.size (.lst [])) s.heap.objs.size (.lst []) = upd H s.heap.objs.size (.lst []) := by
    funext c
    by_cases hc : c = s.heap.objs.size
    · rw [hc, upd_same, upd_same]
    · rw [upd_ne hc]
  rw [eH] at I2
  have up : ∀ c o, s.heap.get? c = some o → ((s.heap.push { cls := .type "list", data := .seq #[] }).update s.heap.objs.size (Obj.mapSeq fun _ => #[])).get? c = some o := fun c o e =>
    (Heap.get?_update_other _ _ (Nat.ne_of_gt (Heap.lt_size e))).trans (Heap.get?_push_of_some _ e)
  obtain ⟨hTI, p1, p2, ⟨x0, y0, hTO⟩, hzz⟩ := st
  refine zip_extend (A := X.A.in1) (I.ok.hd hc) D hS .none G info step hz (fun s' H' I' g' => ⟨rfl, .ref s.heap.objs.size, H', I', rfl, fin H' g'⟩) I2 (fun c hc => ?_) ⟨up _ _ hTI, p1.at fun o e => up _ o e, p2.at fun o e => up _ o e, ⟨x0, y0, up _ _ hTO⟩, ?_⟩ ?_ g
  · obtain ⟨f0, f1, f2, f3, f4, f5⟩ := hf c hc
    refine ⟨?_, f1, f2, f3, f4, f5⟩
    rw [upd_ne (Nat.ne_of_lt (hlt c hc))]
    exact f0
  · rcases hzz with q | ⟨T, f, oT, q, hT, q1, q2, q3, q4⟩
    · exact .inl (up _ _ q)
    · exact .inr ⟨T, f, oT, up _ _ q, up _ _ hT, q1, q2, q3, q4⟩
  · exact up _ _ hz0
end
/-! ### the rule -/
def pairsOf : List PV → List PV → List PV
  | v :: vs, w :: ws => .tup [v, w] :: pairsOf vs ws
  | _, _ => []
def opLstZip : Op2 := fun v w mh => match v, w with
  | .tup vs, .tup ws => if min vs.length ws.length ≤ sizeLine then .ok (.ref mh.length) (mh ++ [.lst (pairsOf vs ws)]) else .bad
  | _, _ => .bad
theorem pairsOf_len : ∀ vs ws, (pairsOf vs ws).length = min vs.length ws.length
  | [], _ => by simp [pairsOf]
  | _ :: _, [] => by simp [pairsOf]
  | v :: vs, w :: ws => by
    simp only [pairsOf, List.length_cons, pairsOf_len vs ws]
    omega
theorem pairsOf_take : ∀ (vs ws : List PV) (i : Nat) (v w : PV), vs[i]? = some v → ws[i]? = some w → (pairsOf vs ws).take (i + 1) = (pairsOf vs ws).take i ++ [.tup [v, w]]
  | [], _, _, _, _, e, _ => by simp at e
  | _ :: _, [], _, _, _, _, e => by simp at e
  | v :: vs, w :: ws, 0, _, _, e1, e2 => by
    simp at e1 e2
    subst e1 e2
    simp [pairsOf]
  | v :: vs, w :: ws, i + 1, v', w', e1, e2 => by
    simp only [pairsOf, List.take_succ_cons, List.cons_append]
    rw [pairsOf_take vs ws i v' w' (by simpa using e1) (by simpa using e2)]
theorem q_lstZip : Quiet2 opLstZip := fun v w mh c u h e => by
  unfold opLstZip at e
  repeat' split at e
  all_goals cases e
section
variable {X : Cx} {W : WX} {a b : Expr} {ma mb : PEnv → MH → R PV} {p q1 q2 pos : Pos}
def tLstZip (K : KW) (ta tb : TE) : TE := fun σ H Q => ta σ H fun x H1 => tb σ H1 fun y H2 => r2P K opLstZip x y H2 Q
theorem pe_lstZip {ta tb : TE} (hc : X.calm = true) (hg : Gl X "list") (hm : X.mg "list" = none) (hg2 : Gl X "zip") (hm2 : X.mg "zip" = none) (ha : PE X a ta) (hb : PE X b tb)
    (na : starEach [a, b] X.env = (false, eval a X.env) :: starEach [b] X.env := by rfl) (nb : starEach [b] X.env = (false, eval b X.env) :: starEach [] X.env := by rfl) (hp : (backTo q2 (starEach [b] X.env)).any (·.1) = false := by rfl)
    (nz : starEach [.Call (.Name "zip" q1) [a, b] [] q2] X.env = (false, eval (.Call (.Name "zip" q1) [a, b] [] q2) X.env) :: starEach [] X.env := by rfl) :
    PE X (.Call (.Name "list" p) [.Call (.Name "zip" q1) [a, b] [] q2] [] pos) (tLstZip X.kw ta tb) := by
  constructor
  intro pins s σ H Q I h
  refine Call_ (ld_blt I hg hm boot_list ?_)
  refine PyProof.Rows.callWith_type1 (args_cons ?_ nz) rfl rfl
  refine Call_ (ld_blt I hg2 hm2 PyProof.Rows.boot_zip ?_)
  refine PyProof.Rows.callWith_type1 (args_cons (thn (ha.run pins s σ H _ I h) fun v s1 ⟨x, H1, I1, r1, q1⟩ => one_arg hb I1 q1 (fun u s2 y H2 I2 r2 q => ?_) nb) na) na hp
  obtain ⟨ρ, mh, pv, pw, sh, rv, rw, k⟩ := q
  unfold opLstZip at k
  split at k
  · rename_i vs us
    split at k
    · rename_i hsz
      cases rv with
      | @tup _ xs l1 h1 t1 =>
        cases rw with
        | @tup _ ys l2 h2 t2 =>
          cases (show v = Value.ref l1 from r1)
          cases (show u = Value.ref l2 from r2)
          obtain ⟨its, rv1, p1, _⟩ := I2.tuple h1
          obtain ⟨its2, rv2, p2, _⟩ := I2.tuple h2
          obtain ⟨o1, ho1, _⟩ := id p1
          obtain ⟨o2, ho2, _⟩ := id p2
          refine call_zipT (show s2.heap.IsTuple l1 its.toArray from p1) (show s2.heap.IsTuple l2 its2.toArray from p2) fun h' hz hTI hTO j1 j2 hs hk => ?_
          refine args_nil ?_
          have I3 : Inv X pins σ H2 { s2 with heap := h' } := I2.kept (t' := s2.toks) hk
          have lens : min xs.length ys.length = min vs.length us.length := by rw [t1.length, t2.length]
          have old : ∀ c ∈ [s2.heap.objs.size + 4, s2.heap.objs.size + 2, s2.heap.objs.size + 3, s2.heap.objs.size, s2.heap.objs.size + 1], s2.heap.objs.size ≤ c ∧ c < h'.objs.size := fun c hcm => by
            simp only [List.mem_cons, List.not_mem_nil, or_false] at hcm
            omega
          have hD : H2 h'.objs.size = none := I3.fresh
          refine call_list_zip (s := { s2 with heap := h' }) hc (PySem.W.ktu_apart s2.heap.objs.size l1 l2 (Heap.lt_size ho1) (Heap.lt_size ho2)) (fun c hcm => (old c hcm).2)
            (fun i H' => ∃ ρ' mh', Le X.kw ρ H2 ρ' H' ∧ SimH X.kw ρ' mh' H' ∧ mh' = mh ++ [.lst ((pairsOf vs us).take i)] ∧ ρ'[mh.length]? = some h'.objs.size ∧ i ≤ min vs.length us.length)
            ?_ ?_ (by rw [lens]; exact hsz) ?_ I3 (fun c hcm => I2.fpOk (old c hcm).1 (I2.hok.fresh (old c hcm).1)) ⟨hTI, j1, j2, ⟨_, _, hTO⟩, .inl hz⟩ hz ?_
          · rintro i H' ⟨ρ', mh', l, sh', e, hd, hi⟩
            obtain ⟨ws, w1, w2⟩ := sh'.ob mh.length (.lst ((pairsOf vs us).take i)) _ (by rw [e, List.getElem?_append_right (Nat.le_refl _), Nat.sub_self]; rfl) hd
            refine ⟨l.grow _ _ h1, l.grow _ _ h2, ws, w1, ?_⟩
            rw [← w2.length, List.length_take, pairsOf_len]
            omega
          · rintro i H' T x y acc ⟨ρ', mh', l, sh', e, hd, hi⟩ hx hy hT hacc
            obtain ⟨pv, e1, rx⟩ := t1.getW hx
            obtain ⟨pw, e2, ry⟩ := t2.getW hy
            obtain ⟨s4, l4⟩ := sh'.tuple (o := .tup [x, y]) hT
            have rt : RV X.kw ρ' (upd H' T (.tup [x, y])) (.tup [pv, pw]) (.ref T) := .tup (.inl (.inl upd_same)) (.cons (rx.mono (l.trans l4)) (.cons (ry.mono (l.trans l4)) .nil))
            have eput : putL mh.length (.tup [pv, pw]) mh' = some (mh'.set mh.length (.lst ((pairsOf vs us).take i ++ [.tup [pv, pw]]))) := by
              unfold putL
              rw [e, List.getElem?_append_right (Nat.le_refl _), Nat.sub_self]
              simp only [List.getElem?_cons_zero]
              have : ((pairsOf vs us).take i).length < sizeLine := by
                have h1 := (List.getElem?_eq_some_iff.mp e1).1
                have h2 := (List.getElem?_eq_some_iff.mp e2).1
                rw [List.length_take, pairsOf_len]
                omega
              rw [if_pos this]
            obtain ⟨acc', a1, a2, a3, a4⟩ := putL_below s4 hd rt eput
            have : acc' = acc := by
              have hne : h'.objs.size ≠ T := fun q => by
                rw [q] at hacc
                rw [hT] at hacc
                cases hacc
              rw [upd_ne hne, hacc] at a1
              cases a1
              rfl
            subst this
            refine ⟨ρ', _, (l.trans l4).trans a4, a3, ?_, hd, ?_⟩
            · rw [e, pairsOf_take vs us i pv pw e1 e2]
              simp
            · have h1 := (List.getElem?_eq_some_iff.mp e1).1
              have h2 := (List.getElem?_eq_some_iff.mp e2).1
              omega
          · rintro H' ⟨ρ', mh', l, sh', e, hd, hi⟩
            rw [lens, ← pairsOf_len, List.take_length] at e
            subst e
            exact k ρ' _ H' l sh' (.ref hd)
          · have l0 : Le X.kw ρ H2 (ρ ++ [h'.objs.size]) (upd H2 h'.objs.size (.lst [])) := ⟨fun n a h => by
              rw [List.getElem?_append_left (List.getElem?_eq_some_iff.mp h).1]; exact h, .of_new hD⟩
            obtain ⟨s5, l5, r5⟩ := sh.alloc (o := .lst []) (mo := .lst []) hD ⟨[], upd_same, .nil⟩
            cases r5 with
            | ref hd => exact ⟨_, _, l5, s5, by simp, hd, Nat.zero_le _⟩
    · exact k.elim
  · exact k.elim
def mLstZip (ma mb : PEnv → MH → R PV) : PEnv → MH → R PV := mBin opLstZip ma mb
theorem re_lstZip (hc : X.calm = true) (hg : Gl X "list") (hm : X.mg "list" = none) (hg2 : Gl X "zip") (hm2 : X.mg "zip" = none) (ha : RE X W a ma) (hb : RE X W b mb)
    (na : starEach [a, b] X.env = (false, eval a X.env) :: starEach [b] X.env := by rfl) (nb : starEach [b] X.env = (false, eval b X.env) :: starEach [] X.env := by rfl) (hp : (backTo q2 (starEach [b] X.env)).any (·.1) = false := by rfl)
    (nz : starEach [.Call (.Name "zip" q1) [a, b] [] q2] X.env = (false, eval (.Call (.Name "zip" q1) [a, b] [] q2) X.env) :: starEach [] X.env := by rfl) :
    RE X W (.Call (.Name "list" p) [.Call (.Name "zip" q1) [a, b] [] q2] [] pos) (mLstZip ma mb) :=
  (pe_lstZip hc hg hm hg2 hm2 ha hb na nb hp nz).imp fun σ H Q h => bin_imp (r := r2P X.kw opLstZip) q_lstZip (fun _ _ _ _ q => q) σ H Q h
end
end Ev
namespace Ev
open PySem PySem.Spec PyProof.Rows L2 RZ
/-! ### what is wanted of the evaluator's answers -/
def Ok {α : Type} (r : R α) (Q : α → MH → Prop) : Prop := match r with
  | .ok a h => Q a h
  | _ => False
/-- a statement's ends; what is raised: never -/
structure EndsP where
  nx : PEnv → MH → Prop
  rt : PV → MH → Prop := fun _ _ => False
  bk : PEnv → MH → Prop := fun _ _ => False
  ct : PEnv → MH → Prop := fun _ _ => False
def OkS (r : RS) (D : EndsP) : Prop := match r with
  | .nx e h => D.nx e h
  | .rt v h => D.rt v h
  | .bk e h => D.bk e h
  | .ct e h => D.ct e h
  | _ => False
section
variable {α β : Type}
theorem Ok.of {r : R α} {a : α} {h : MH} {Q : α → MH → Prop} (e : r = .ok a h) (q : Q a h) : Ok r Q := by
  rw [e]
  exact q
theorem Ok.get {r : R α} {Q : α → MH → Prop} (k : Ok r Q) : ∃ a h, r = .ok a h ∧ Q a h := by
  cases r with
  | ok a h => exact ⟨a, h, rfl, k⟩
  | exc _ _ _ => exact k.elim
  | bad => exact k.elim
theorem Ok.imp {r : R α} {Q Q' : α → MH → Prop} (k : Ok r Q) (f : ∀ a h, Q a h → Q' a h) : Ok r Q' := by
  obtain ⟨a, h, e, q⟩ := k.get
  exact .of e (f a h q)
theorem ok_bind {r : R α} {f : α → MH → R β} {Q : β → MH → Prop} : Ok (r.bind f) Q ↔ Ok r fun a h => Ok (f a h) Q := by
  cases r with
  | ok a h => exact Iff.rfl
  | exc _ _ _ => exact Iff.rfl
  | bad => exact Iff.rfl
theorem ok_ok {a : α} {h : MH} {Q : α → MH → Prop} : Ok (.ok a h) Q ↔ Q a h := Iff.rfl
theorem okS_bind {r : R α} {env : PEnv} {f : α → MH → RS} {D : EndsP} : OkS (r.bindS env f) D ↔ Ok r fun a h => OkS (f a h) D := by
  cases r with
  | ok a h => exact Iff.rfl
  | exc _ _ _ => exact Iff.rfl
  | bad => exact Iff.rfl
end
section
variable {env : PEnv} {mh : MH} {Q : PV → MH → Prop} {QA : List PV → MH → Prop} {QB : Bool → MH → Prop} {QI : Src → MH → Prop} {D : EndsP} {ma mb mc : PEnv → MH → R PV} {m mr : PEnv → MH → R (List PV)} {ta tb : PEnv → MH → R Bool} {s1 s2 : PEnv → MH → RS}
theorem ok_bin {op : Op2} : Ok (mBin op ma mb env mh) Q ↔ Ok (ma env mh) fun v h => Ok (mb env h) fun w h' => Ok (op v w h') Q := by
  unfold mBin
  simp only [ok_bind]
theorem ok_un {op : Op1} : Ok (mUn op ma env mh) Q ↔ Ok (ma env mh) fun v h => Ok (op v h) Q := ok_bind
theorem ok_k {v : PV} : Ok (mK v env mh) Q ↔ Q v mh := Iff.rfl
theorem ok_var {i : Nat} {v : PV} (h : env[i]? = some (some v)) : Ok (mVar i env mh) Q ↔ Q v mh := by
  unfold mVar
  rw [h]
  exact Iff.rfl
theorem ok_var0 {v : PV} {e : PEnv} : Ok (mVar 0 (some v :: e) mh) Q ↔ Q v mh := Iff.rfl
theorem ok_varS {x : Option PV} {e : PEnv} {i : Nat} : Ok (mVar (i + 1) (x :: e) mh) Q ↔ Ok (mVar i e mh) Q := by
  unfold mVar
  rw [List.getElem?_cons_succ]
theorem ok_ob {o : Option Bool} : Ok (ob o mh) QB ↔ ∃ b, o = some b ∧ QB b mh := by
  cases o with
  | none => exact ⟨fun h => h.elim, fun ⟨_, h, _⟩ => by cases h⟩
  | some b => exact ⟨fun h => ⟨b, rfl, h⟩, fun ⟨_, h, q⟩ => by cases h; exact q⟩
theorem ok_obv {o : Option Bool} : Ok (obv o mh) Q ↔ ∃ b, o = some b ∧ Q (.bl b) mh := by
  cases o with
  | none => exact ⟨fun h => h.elim, fun ⟨_, h, _⟩ => by cases h⟩
  | some b => exact ⟨fun h => ⟨b, rfl, h⟩, fun ⟨_, h, q⟩ => by cases h; exact q⟩
theorem ok_cmp {o : Cmp2} : Ok (mCmp o ma mb env mh) Q ↔ Ok (ma env mh) fun v h => Ok (mb env h) fun w h' => Ok (obv (o v w h') h') Q := by
  unfold mCmp
  simp only [ok_bind]
theorem ok_cmpT {o : Cmp2} : Ok (mCmpT o ma mb env mh) QB ↔ Ok (ma env mh) fun v h => Ok (mb env h) fun w h' => Ok (ob (o v w h') h') QB := by
  unfold mCmpT
  simp only [ok_bind]
theorem ok_chain {o o' : Cmp2} : Ok (mChain o o' ma mb mc env mh) QB ↔ Ok (ma env mh) fun v h => Ok (mb env h) fun w h' => Ok (ob (o v w h') h') fun k h2 => Ok (if k = true then (mc env h2).bind fun u h3 => ob (o' w u h3) h3 else .ok false h2) QB := by
  unfold mChain
  simp only [ok_bind]
theorem ok_bl : Ok (mBl ta env mh) Q ↔ Ok (ta env mh) fun b h => Q (.bl b) h := by
  unfold mBl
  simp only [ok_bind, ok_ok]
theorem ok_nil : Ok (mNil env mh) QA ↔ QA [] mh := Iff.rfl
theorem ok_cons : Ok (mCons ma mr env mh) QA ↔ Ok (ma env mh) fun v h => Ok (mr env h) fun vs h' => QA (v :: vs) h' := by
  unfold mCons
  simp only [ok_bind, ok_ok]
theorem ok_call {cf : List PV → MH → R PV} : Ok (mCall cf m env mh) Q ↔ Ok (m env mh) fun vs h => Ok (cf vs h) Q := ok_bind
theorem ok_callOp {op : OpN} : Ok (mCallOp op m env mh) Q ↔ Ok (m env mh) fun vs h => Ok (op vs h) Q := ok_bind
theorem ok_isi {T : String} : Ok (mIsi T ma env mh) Q ↔ Ok (ma env mh) fun v h => Ok (isTy T v h) Q := ok_bind
theorem ok_test : Ok (mTest ma env mh) QB ↔ Ok (ma env mh) fun v h => Ok (truthy v h) QB := ok_bind
theorem ok_andT : Ok (mAndT ta tb env mh) QB ↔ Ok (ta env mh) fun k h => Ok (if k = true then tb env h else .ok false h) QB := ok_bind
theorem ok_orT : Ok (mOrT ta tb env mh) QB ↔ Ok (ta env mh) fun k h => Ok (if k = true then .ok true h else tb env h) QB := ok_bind
theorem ok_notT : Ok (mNotT ta env mh) QB ↔ Ok (ta env mh) fun k h => QB (!k) h := by
  unfold mNotT
  simp only [ok_bind, ok_ok]
theorem ok_isBl {b : Bool} : Ok (isBl (.bl b) mh) QB ↔ QB b mh := Iff.rfl
theorem ok_andV : Ok (mAndV ma mb env mh) Q ↔ Ok (ma env mh) fun v h => Ok (isBl v h) fun k h2 => Ok (if k = true then mb env h2 else .ok (.bl false) h2) Q := by
  unfold mAndV
  simp only [ok_bind]
theorem ok_orV : Ok (mOrV ma mb env mh) Q ↔ Ok (ma env mh) fun v h => Ok (isBl v h) fun k h2 => Ok (if k = true then .ok (.bl true) h2 else mb env h2) Q := by
  unfold mOrV
  simp only [ok_bind]
theorem ok_notV : Ok (mNotV ma env mh) Q ↔ Ok (ma env mh) fun v h => Ok (isBl v h) fun k h2 => Q (.bl (!k)) h2 := by
  unfold mNotV
  simp only [ok_bind, ok_ok]
theorem ok_if : Ok (mIf ta ma mb env mh) Q ↔ Ok (ta env mh) fun k h => Ok (if k = true then ma env h else mb env h) Q := ok_bind
theorem ok_ite {α : Type} {c : Prop} [Decidable c] {x y : R α} {Q : α → MH → Prop} : Ok (if c then x else y) Q ↔ (c → Ok x Q) ∧ (¬ c → Ok y Q) := by
  by_cases h : c
  · rw [if_pos h]
    exact ⟨fun q => ⟨fun _ => q, fun n => absurd h n⟩, fun q => q.1 h⟩
  · rw [if_neg h]
    exact ⟨fun q => ⟨fun n => absurd n h, fun _ => q⟩, fun q => q.2 h⟩
theorem okS_ite {c : Prop} [Decidable c] {x y : RS} : OkS (if c then x else y) D ↔ (c → OkS x D) ∧ (¬ c → OkS y D) := by
  by_cases h : c
  · rw [if_pos h]
    exact ⟨fun q => ⟨fun _ => q, fun n => absurd h n⟩, fun q => q.1 h⟩
  · rw [if_neg h]
    exact ⟨fun q => ⟨fun n => absurd n h, fun _ => q⟩, fun q => q.2 h⟩
theorem okS_next : OkS (sNext env mh) D ↔ D.nx env mh := Iff.rfl
theorem okS_seq : OkS (sSeq s1 s2 env mh) D ↔ OkS (s1 env mh) { D with nx := fun e h => OkS (s2 e h) D } := by
  unfold sSeq
  cases s1 env mh <;> exact Iff.rfl
theorem okS_ret : OkS (sRet ma env mh) D ↔ Ok (ma env mh) D.rt := by
  unfold sRet
  rw [okS_bind]
  exact Iff.rfl
theorem okS_expr : OkS (sExpr ma env mh) D ↔ Ok (ma env mh) fun _ h => D.nx env h := by
  unfold sExpr
  rw [okS_bind]
  exact Iff.rfl
theorem okS_if : OkS (sIf ta s1 s2 env mh) D ↔ Ok (ta env mh) fun k h => OkS (if k = true then s1 env h else s2 env h) D := by
  unfold sIf
  rw [okS_bind]
theorem okS_set {i : Nat} : OkS (sAsg ma (.nm i) env mh) D ↔ Ok (ma env mh) fun v h => D.nx (env.set i (some v)) h := by
  unfold sAsg
  rw [okS_bind]
  exact Iff.rfl
theorem okS_asg {t : Tg} : OkS (sAsg ma t env mh) D ↔ Ok (ma env mh) fun v h => ∃ e, asg t v env h = some e ∧ D.nx e h := by
  unfold sAsg
  rw [okS_bind]
  constructor
  · intro k
    refine k.imp fun v h q => ?_
    cases e : asg t v env h with
    | none => rw [e] at q; exact q.elim
    | some x => rw [e] at q; exact ⟨x, rfl, q⟩
  · intro k
    refine k.imp fun v h ⟨x, e, q⟩ => ?_
    rw [e]
    exact q
theorem okS_par {i j : Nat} : OkS (sPar i j m env mh) D ↔ Ok (m env mh) fun vs h => ∃ v w, vs = [v, w] ∧ D.nx ((env.set i (some v)).set j (some w)) h := by
  unfold sPar
  rw [okS_bind]
  constructor
  · intro k
    refine k.imp fun vs h q => ?_
    split at q
    · exact ⟨_, _, rfl, q⟩
    · exact q.elim
  · intro k
    refine k.imp fun vs h ⟨v, w, e, q⟩ => ?_
    subst e
    exact q
theorem okS_par3 {i j l : Nat} : OkS (sPar3 i j l m env mh) D ↔ Ok (m env mh) fun vs h => ∃ v w u, vs = [v, w, u] ∧ D.nx (((env.set i (some v)).set j (some w)).set l (some u)) h := by
  unfold sPar3
  rw [okS_bind]
  constructor
  · intro k
    refine k.imp fun vs h q => ?_
    split at q
    · exact ⟨_, _, _, rfl, q⟩
    · exact q.elim
  · intro k
    refine k.imp fun vs h ⟨v, w, u, e, q⟩ => ?_
    subst e
    exact q
theorem okS_store {me mo mi : PEnv → MH → R PV} : OkS (sStore me mo mi env mh) D ↔ Ok (me env mh) fun v h => Ok (mo env h) fun o h1 => Ok (mi env h1) fun i h2 => ∃ h3, stIx o i v h2 = some h3 ∧ D.nx env h3 := by
  unfold sStore
  rw [okS_bind]
  constructor
  · intro k
    refine k.imp fun v h q => ?_
    rw [okS_bind] at q
    refine q.imp fun o h1 q => ?_
    rw [okS_bind] at q
    refine q.imp fun i h2 q => ?_
    cases e : stIx o i v h2 with
    | none => rw [e] at q; exact q.elim
    | some x => rw [e] at q; exact ⟨x, rfl, q⟩
  · intro k
    refine k.imp fun v h q => ?_
    rw [okS_bind]
    refine q.imp fun o h1 q => ?_
    rw [okS_bind]
    refine q.imp fun i h2 ⟨h3, e, q⟩ => ?_
    rw [e]
    exact q
/-- a def's run -/
theorem ok_run {body : PEnv → MH → RS} {n : Nat} {args : List PV} : Ok (runB body n args mh) Q ↔ OkS (body (args.map some ++ List.replicate (n - args.length) none) mh) ⟨fun _ h => Q .non h, Q, fun _ _ => False, fun _ _ => False⟩ := by
  unfold runB
  cases body (args.map some ++ List.replicate (n - args.length) none) mh <;> exact Iff.rfl
theorem ok_src : Ok (mSrc ma env mh) QI ↔ Ok (ma env mh) fun v h => Ok (srcOf v h) QI := ok_bind
theorem ok_range : Ok (mRange m env mh) QI ↔ Ok (m env mh) fun vs h => ∃ l, rangeOf vs = some l ∧ QI (.vals l) h := by
  unfold mRange
  rw [ok_bind]
  constructor
  · intro k
    refine k.imp fun vs h q => ?_
    cases e : rangeOf vs with
    | none => rw [e] at q; exact q.elim
    | some x => rw [e] at q; exact ⟨x, rfl, q⟩
  · intro k
    refine k.imp fun vs h ⟨l, e, q⟩ => ?_
    rw [e]
    exact q
theorem ok_tup (hz : ∀ vs h, QA vs h → vs.length ≤ sizeLine) : Ok (m env mh) (fun vs h => QA vs h) → (∀ vs h, QA vs h → Q (.tup vs) h) → Ok (mTup m env mh) Q := fun k f => by
  unfold mTup
  rw [ok_bind]
  refine k.imp fun vs h q => ?_
  rw [if_pos (hz vs h q)]
  exact f vs h q
end
/-! ### heaps that keep what stood -/
def Sub (mh h : MH) : Prop := ∀ (i : Nat) o, mh[i]? = some o → h[i]? = some o
/-- all but the object at p -/
def SubX (p : Nat) (mh h : MH) : Prop := ∀ (i : Nat) o, i ≠ p → mh[i]? = some o → h[i]? = some o
theorem Sub.refl (mh : MH) : Sub mh mh := fun _ _ e => e
theorem Sub.trans {a b c : MH} (x : Sub a b) (y : Sub b c) : Sub a c := fun i o e => y i o (x i o e)
theorem Sub.x {a b : MH} (p : Nat) (x : Sub a b) : SubX p a b := fun i o _ e => x i o e
theorem SubX.refl (p : Nat) (mh : MH) : SubX p mh mh := fun _ _ _ e => e
theorem SubX.trans {p : Nat} {a b c : MH} (x : SubX p a b) (y : SubX p b c) : SubX p a c := fun i o n e => y i o n (x i o n e)
theorem Sub.push (mh : MH) (o : MO) : Sub mh (mh ++ [o]) := fun i x e => by
  rw [List.getElem?_append_left (List.getElem?_eq_some_iff.mp e).1]
  exact e
theorem at_push (mh : MH) (o : MO) : (mh ++ [o])[mh.length]? = some o := by simp
theorem Sub.new {a b : MH} (x : Sub a b) : a[b.length]? = none := by
  cases e : a[b.length]? with
  | none => rfl
  | some o =>
    have := (List.getElem?_eq_some_iff.mp (x _ _ e)).1
    omega
theorem SubX.new {p : Nat} {a b : MH} (x : SubX p a b) (hp : p < b.length) : a[b.length]? = none := by
  cases e : a[b.length]? with
  | none => rfl
  | some o =>
    have := (List.getElem?_eq_some_iff.mp (x _ _ (by omega) e)).1
    omega
theorem Sub.set {a b : MH} (x : Sub a b) {n : Nat} (hn : a[n]? = none) (o : MO) : Sub a (b.set n o) := fun i u e => by
  have : n ≠ i := fun z => by
    subst z
    rw [hn] at e
    cases e
  rw [List.getElem?_set_ne this]
  exact x i u e
theorem SubX.set {p : Nat} {a b : MH} (x : SubX p a b) {n : Nat} (hn : a[n]? = none ∨ n = p) (o : MO) : SubX p a (b.set n o) := fun i u hi e => by
  have : n ≠ i := fun z => by
    subst z
    rcases hn with hn | hn
    · rw [hn] at e
      cases e
    · exact hi hn
  rw [List.getElem?_set_ne this]
  exact x i u hi e
theorem at_set {mh : MH} {n : Nat} {x : MO} (h : mh[n]? = some x) (o : MO) : (mh.set n o)[n]? = some o := List.getElem?_set_self (List.getElem?_eq_some_iff.mp h).1
/-! ### sources -/
/-- the items are these, as the heap stands -/
def SrcIs (s : Src) (h : MH) (vs : List PV) : Prop := ∀ i : Nat, s.item h i = some vs[i]?
theorem srcIs_vals (vs : List PV) (h : MH) : SrcIs (.vals vs) h vs := fun _ => rfl
theorem srcIs_lst {n : Nat} {h : MH} {vs : List PV} (e : h[n]? = some (.lst vs)) : SrcIs (.lst n) h vs := fun i => by
  simp only [Src.item, e]
theorem srcIs_scr {n : Nat} {h : MH} {vs : List PV} (e : h[n]? = some (.scr vs)) : SrcIs (.lst n) h vs := fun i => by
  simp only [Src.item, e]
def enumPV (k : Nat) : List PV → List PV
  | [] => []
  | v :: vs => .tup [.int (k : Nat), v] :: enumPV (k + 1) vs
theorem enumPV_get : ∀ (vs : List PV) (k i : Nat), (enumPV k vs)[i]? = (vs[i]?).map fun v => .tup [.int ((k + i : Nat) : Int), v]
  | [], _, _ => by simp [enumPV]
  | v :: vs, k, 0 => by simp [enumPV]
  | v :: vs, k, i + 1 => by
    simp only [enumPV, List.getElem?_cons_succ]
    rw [enumPV_get vs (k + 1) i]
    congr 1
    funext w
    congr 4
    omega
theorem SrcIs.enum {s : Src} {h : MH} {vs : List PV} (e : SrcIs s h vs) : SrcIs (.enum s) h (enumPV 0 vs) := fun i => by
  simp only [Src.item, e i]
  rw [enumPV_get]
  cases vs[i]? with
  | none => rfl
  | some v => simp
theorem pairsOf_get : ∀ (vs ws : List PV) (i : Nat), zipI (some vs[i]?) (some ws[i]?) = some (pairsOf vs ws)[i]?
  | [], ws, i => by
    cases ws[i]? <;> simp [zipI, pairsOf]
  | v :: vs, [], i => by
    cases (v :: vs)[i]? <;> simp [zipI, pairsOf]
  | v :: vs, w :: ws, 0 => by simp [zipI, pairsOf]
  | v :: vs, w :: ws, i + 1 => by
    simp only [pairsOf, List.getElem?_cons_succ]
    exact pairsOf_get vs ws i
theorem SrcIs.zip {s t : Src} {h : MH} {vs ws : List PV} (e : SrcIs s h vs) (f : SrcIs t h ws) : SrcIs (.zip s t) h (pairsOf vs ws) := fun i => by
  simp only [Src.item, e i, f i]
  exact pairsOf_get vs ws i
/-! ### loops -/
section
variable {t : Tg} {body : PEnv → MH → RS} {src : Src} {vs : List PV}
theorem forL_inv (Iv : Nat → PEnv → MH → Prop) (D : EndsP) (hs : ∀ i e h, Iv i e h → SrcIs src h vs)
    (step : ∀ (i : Nat) v e h, vs[i]? = some v → Iv i e h → ∃ e2, asg t v e h = some e2 ∧ OkS (body e2 h) ⟨Iv (i + 1), D.rt, D.nx, Iv (i + 1)⟩)
    (done : ∀ e h, Iv vs.length e h → D.nx e h) : ∀ (fuel i : Nat) e h, vs.length < fuel + i → i ≤ vs.length → Iv i e h → OkS (forL src t body fuel i e h) D := by
  intro fuel
  induction fuel with
  | zero =>
    intro i e h h1 h2 _
    omega
  | succ fuel ih =>
    intro i e h h1 h2 inv
    have hi := hs i e h inv i
    simp only [forL, hi]
    cases q : vs[i]? with
    | none =>
      have : i = vs.length := by
        have := List.getElem?_eq_none_iff.mp q
        omega
      subst this
      exact done e h inv
    | some v =>
      have hlt := (List.getElem?_eq_some_iff.mp q).1
      obtain ⟨e2, ea, k⟩ := step i v e h q inv
      simp only [ea]
      cases hb : body e2 h with
      | nx e3 h3 =>
        rw [hb] at k
        exact ih (i + 1) e3 h3 (by omega) hlt k
      | ct e3 h3 =>
        rw [hb] at k
        exact ih (i + 1) e3 h3 (by omega) hlt k
      | bk e3 h3 =>
        rw [hb] at k
        exact k
      | rt v h3 =>
        rw [hb] at k
        exact k
      | exc _ _ _ _ =>
        rw [hb] at k
        exact k.elim
      | bad =>
        rw [hb] at k
        exact k.elim
theorem okS_for {ms : PEnv → MH → R Src} {env : PEnv} {mh : MH} {D : EndsP} (h : Ok (ms env mh) fun src h1 => ∃ (vs : List PV) (Iv : Nat → PEnv → MH → Prop), vs.length < loopFuel ∧ (∀ i e h, Iv i e h → SrcIs src h vs) ∧
    (∀ (i : Nat) v e h, vs[i]? = some v → Iv i e h → ∃ e2, asg t v e h = some e2 ∧ OkS (body e2 h) ⟨Iv (i + 1), D.rt, D.nx, Iv (i + 1)⟩) ∧ (∀ e h, Iv vs.length e h → D.nx e h) ∧ Iv 0 env h1) : OkS (sFor ms t body env mh) D := by
  unfold sFor
  rw [okS_bind]
  refine h.imp fun src h1 ⟨vs, Iv, hl, hs, step, done, i0⟩ => ?_
  exact forL_inv Iv D hs step done loopFuel 0 env h1 (by omega) (Nat.zero_le _) i0
/-- a comprehension, with an invariant: i items walked, out made; the made list stands at d -/
theorem compL_inv {mt : PEnv → MH → R Bool} {me : PEnv → MH → R PV} {env : PEnv} {d : Nat} (Iv : Nat → List PV → MH → Prop) {Q : MH → Prop} (hs : ∀ i out h, Iv i out h → h[d]? = some (.lst out) → SrcIs src h vs) (hz : ∀ i out h, Iv i out h → out.length ≤ i) (hv : vs.length < loopFuel)
    (step : ∀ (i : Nat) v out h, vs[i]? = some v → Iv i out h → h[d]? = some (.lst out) → ∃ e2, asg t v env h = some e2 ∧ Ok (mt e2 h) fun k h1 => if k = true then Ok (me e2 h1) fun y h2 => h2[d]? = some (.lst out) ∧ Iv (i + 1) (out ++ [y]) (h2.set d (.lst (out ++ [y]))) else h1[d]? = some (.lst out) ∧ Iv (i + 1) out h1)
    (done : ∀ out h, Iv vs.length out h → h[d]? = some (.lst out) → Q h) : ∀ (fuel i : Nat) out h, vs.length < fuel + i → i ≤ vs.length → Iv i out h → h[d]? = some (.lst out) → ∃ h', compL src t mt me d fuel i env h = some h' ∧ Q h' := by
  intro fuel
  induction fuel with
  | zero =>
    intro i out h h1 h2 _ _
    omega
  | succ fuel ih =>
    intro i out h h1 h2 inv hd
    have hi := hs i out h inv hd i
    simp only [compL, hi]
    cases q : vs[i]? with
    | none =>
      have : i = vs.length := by
        have := List.getElem?_eq_none_iff.mp q
        omega
      subst this
      exact ⟨h, rfl, done out h inv hd⟩
    | some v =>
      have hlt := (List.getElem?_eq_some_iff.mp q).1
      obtain ⟨e2, ea, k⟩ := step i v out h q inv hd
      simp only [ea]
      obtain ⟨b, h3, e3, k3⟩ := k.get
      rw [e3]
      cases b with
      | false =>
        rw [if_neg (by simp)] at k3
        exact ih (i + 1) out h3 (by omega) hlt k3.2 k3.1
      | true =>
        rw [if_pos rfl] at k3
        obtain ⟨y, h4, e4, k4, k5⟩ := k3.get
        simp only [e4]
        have hsz : out.length < sizeLine := by
          have := hz i out h inv
          have h9 : loopFuel ≤ sizeLine := by decide
          omega
        have ep : putL d y h4 = some (h4.set d (.lst (out ++ [y]))) := by
          unfold putL
          rw [k4]
          simp only
          rw [if_pos hsz]
        simp only [ep]
        exact ih (i + 1) (out ++ [y]) _ (by omega) hlt k5 (at_set k4 _)
theorem ok_comp {ms : PEnv → MH → R Src} {mt : PEnv → MH → R Bool} {me : PEnv → MH → R PV} {own : List Nat} {env : PEnv} {mh : MH} {Q : PV → MH → Prop}
    (h : Ok (ms env mh) fun src h1 => ∃ (vs : List PV) (Iv : Nat → List PV → MH → Prop), vs.length < loopFuel ∧ (∀ i out h, Iv i out h → h[h1.length]? = some (.lst out) → SrcIs src h vs) ∧ (∀ i out h, Iv i out h → out.length ≤ i) ∧
      (∀ (i : Nat) v out h, vs[i]? = some v → Iv i out h → h[h1.length]? = some (.lst out) → ∃ e2, asg t v (wipeE env own) h = some e2 ∧ Ok (mt e2 h) fun k h2 => if k = true then Ok (me e2 h2) fun y h3 => h3[h1.length]? = some (.lst out) ∧ Iv (i + 1) (out ++ [y]) (h3.set h1.length (.lst (out ++ [y]))) else h2[h1.length]? = some (.lst out) ∧ Iv (i + 1) out h2) ∧
      Iv 0 [] (h1 ++ [.lst []]) ∧ (∀ out h, Iv vs.length out h → h[h1.length]? = some (.lst out) → Q (.ref h1.length) h)) : Ok (mComp ms t mt me own env mh) Q := by
  unfold mComp
  rw [ok_bind]
  refine h.imp fun src h1 ⟨vs, Iv, hl, hs, hz, step, i0, done⟩ => ?_
  obtain ⟨h', e, q⟩ := compL_inv (Q := fun h => Q (.ref h1.length) h) Iv hs hz hl step done loopFuel 0 [] (h1 ++ [.lst []]) (by omega) (Nat.zero_le _) i0 (at_push _ _)
  rw [e]
  exact q
/-- a comprehension that changes nothing, of a source that stays; each item x of as (shown as s x) gives g x -/
theorem ok_compP {α : Type} {ms : PEnv → MH → R Src} {mt : PEnv → MH → R Bool} {me : PEnv → MH → R PV} {own : List Nat} {env : PEnv} {mh : MH} {Q : PV → MH → Prop} (as : List α) (s : α → PV) (p : α → Bool) (g : α → PV)
    (h : Ok (ms env mh) fun src h1 => as.length < loopFuel ∧ Sub mh h1 ∧ (∀ h, Sub h1 h → SrcIs src h (as.map s))) (step : ∀ x ∈ as, ∀ h, Sub mh h → ∃ e2, asg t (s x) (wipeE env own) h = some e2 ∧ Ok (mt e2 h) fun k h2 => k = p x ∧ Sub h h2 ∧ (p x = true → Ok (me e2 h2) fun y h3 => y = g x ∧ Sub h2 h3))
    (done : ∀ n h, Sub mh h → mh[n]? = none → h[n]? = some (.lst ((as.filter p).map g)) → Q (.ref n) h) : Ok (mComp ms t mt me own env mh) Q := by
  refine ok_comp (h.imp fun src h1 ⟨hl, hb, hs⟩ => ⟨as.map s, fun i out h => out = ((as.take i).filter p).map g ∧ Sub h1 h ∧ out.length ≤ i, by simpa using hl, fun i out h q _ => hs h q.2.1, fun i out h q => q.2.2, ?_, ⟨by simp, .push _ _, by simp⟩, ?_⟩)
  · rintro i v out h hv ⟨rfl, hk, hlen⟩ hd
    rw [List.getElem?_map] at hv
    obtain ⟨x, hx, rfl⟩ := Option.map_eq_some_iff.mp hv
    have hm : x ∈ as := List.mem_of_getElem? hx
    obtain ⟨e2, ea, k⟩ := step x hm h (hb.trans hk)
    have htake : as.take (i + 1) = as.take i ++ [x] := by
      rw [List.take_add_one, hx]
      rfl
    refine ⟨e2, ea, k.imp fun b h2 ⟨eb, hk2, k2⟩ => ?_⟩
    subst eb
    cases hp : p x with
    | false =>
      rw [if_neg (by simp)]
      refine ⟨hk2 _ _ hd, ?_, hk.trans hk2, by omega⟩
      rw [htake]
      simp [hp]
    | true =>
      rw [if_pos rfl]
      refine (k2 hp).imp fun y h3 ⟨ey, hk3⟩ => ⟨hk3 _ _ (hk2 _ _ hd), ?_, ?_, ?_⟩
      · rw [htake, ey]
        simp [hp]
      · exact ((hk.trans hk2).trans hk3).set (Sub.refl h1).new _
      · rw [List.length_append]
        simp
        simpa using hlen
  · rintro out h ⟨e, hk, _⟩ hd
    rw [List.length_map, List.take_length] at e
    subst e
    exact done _ _ (hb.trans hk) hb.new hd
end
end Ev
namespace Ev
open PySem PySem.Spec PyProof.Rows L2 RZ
/-! ### ints: sums, products, their size -/
def Bd (k : Nat) (x : Int) : Prop := x.natAbs < 2 ^ k
theorem Bd.mono {a b : Nat} {x : Int} (h : Bd a x) (hab : a ≤ b) : Bd b x := Nat.lt_of_lt_of_le h (Nat.pow_le_pow_right (by decide) hab)
theorem Bd.mul {a b : Nat} {x y : Int} (h : Bd a x) (k : Bd b y) : Bd (a + b) (x * y) := by
  unfold Bd at *
  rw [Int.natAbs_mul, Nat.pow_add]
  rcases Nat.eq_zero_or_pos y.natAbs with z | z
  · rw [z, Nat.mul_zero]
    exact Nat.mul_pos (Nat.pow_pos (by decide)) (Nat.pow_pos (by decide))
  · exact Nat.lt_of_lt_of_le (Nat.mul_lt_mul_of_pos_right h z) (Nat.mul_le_mul_left _ (Nat.le_of_lt k))
theorem Bd.add {a b : Nat} {x y : Int} (h : Bd a x) (k : Bd b y) : Bd (a + b + 1) (x + y) := by
  unfold Bd at *
  have h1 := Nat.pow_le_pow_right (n := 2) (by decide) (show a ≤ a + b by omega)
  have h2 := Nat.pow_le_pow_right (n := 2) (by decide) (show b ≤ a + b by omega)
  have h3 : 2 ^ (a + b + 1) = 2 ^ (a + b) * 2 := Nat.pow_succ ..
  omega
theorem Bd.mod {b : Nat} (x : Int) {m : Int} (hm : 0 < m) (k : Bd b m) : Bd b (x % m) := by
  unfold Bd at *
  have h1 := Int.emod_nonneg x (show m ≠ 0 by omega)
  have h2 := Int.emod_lt_of_pos x hm
  omega
theorem Bd.log {a : Nat} {x : Int} (h : Bd a x) (ha : 0 < a) : x.natAbs.log2 < a := by
  unfold Bd at h
  rcases Nat.eq_zero_or_pos x.natAbs with z | z
  · rw [z]
    simpa using ha
  · exact (Nat.log2_lt (by omega)).mpr h
theorem Bd.pow {a : Nat} {x : Int} (h : Bd a x) (n : Nat) : Bd (a * n + 1) (x ^ n) := by
  induction n with
  | zero =>
    unfold Bd
    rw [Int.pow_zero, Nat.mul_zero]
    decide
  | succ n ih =>
    rw [Int.pow_succ]
    exact (ih.mul h).mono (by rw [Nat.mul_succ]; omega)
section
variable {h : MH} {Q : PV → MH → Prop} {i j : Int}
theorem ok_addI : Ok (opAdd (.int i) (.int j) h) Q ↔ Q (.int (i + j)) h := Iff.rfl
theorem ok_subI : Ok (opSub (.int i) (.int j) h) Q ↔ Q (.int (i - j)) h := Iff.rfl
theorem ok_negI : Ok (opNeg (.int i) h) Q ↔ Q (.int (-i)) h := Iff.rfl
theorem ok_mulI {a b : Nat} (hi : Bd a i) (hj : Bd b j) (hab : a + b < 900000) (q : Q (.int (i * j)) h) : Ok (opMul (.int i) (.int j) h) Q := by
  have h1 := (hi.mono (Nat.le_succ a)).log (Nat.succ_pos a)
  have h2 := (hj.mono (Nat.le_succ b)).log (Nat.succ_pos b)
  simp only [opMul]
  rw [if_pos (by omega)]
  exact q
theorem ok_modI (hj : 0 < j) (q : Q (.int (i % j)) h) : Ok (opMod (.int i) (.int j) h) Q := by
  simp only [opMod]
  rw [if_pos hj]
  exact q
theorem ok_divI {b : Nat} (hj : 0 < j) (bj : Bd b j) (hb : b < 8000) (q : Q (.int (i / j)) h) : Ok (opDiv (.int i) (.int j) h) Q := by
  have h2 := (bj.mono (Nat.le_succ b)).log (Nat.succ_pos b)
  simp only [opDiv]
  rw [if_pos ⟨hj, by omega⟩]
  exact q
theorem ok_powI {a : Nat} {n : Nat} (hi : Bd a i) (ha : a < 9000) (hn : n ≤ 1000) (q : Q (.int (i ^ n)) h) : Ok (opPow (.int i) (.int n) h) Q := by
  have h1 := (hi.mono (Nat.le_succ a)).log (Nat.succ_pos a)
  simp only [opPow]
  rw [if_pos ⟨by omega, by omega, by omega⟩]
  exact q
theorem ok_intI : Ok (opInt [.int i] h) Q ↔ Q (.int i) h := Iff.rfl
theorem ok_intB {b : Bool} : Ok (opInt [.bl b] h) Q ↔ Q (.int (if b then 1 else 0)) h := Iff.rfl
theorem ok_absI : Ok (opAbs [.int i] h) Q ↔ Q (.int (if i < 0 then -i else i)) h := Iff.rfl
theorem ok_ix {v : PV} {vs : List PV} {k : Nat} {x : PV} (hs : seqOf v h = some vs) (hk : vs[k]? = some x) (hv : ∀ z, v ≠ .str z) (q : Q x h) : Ok (opIx v (.int k) h) Q := by
  have e : ixPV v (.int k) h = some x := by
    have hl := (List.getElem?_eq_some_iff.mp hk).1
    have e2 : atI vs (k : Int) = some x := by
      unfold atI ixN
      rw [if_pos (by omega), if_pos (by omega)]
      simpa using hk
    cases v with
    | str z => exact absurd rfl (hv z)
    | _ => simp only [ixPV, hs, e2]
  unfold opIx
  rw [e]
  exact q
theorem seq_lst {n : Nat} {vs : List PV} (e : h[n]? = some (.lst vs)) : seqOf (.ref n) h = some vs := by
  simp only [seqOf, e]
theorem seq_scr {n : Nat} {vs : List PV} (e : h[n]? = some (.scr vs)) : seqOf (.ref n) h = some vs := by
  simp only [seqOf, e]
theorem seq_tup (vs : List PV) : seqOf (.tup vs) h = some vs := rfl
theorem ok_len {v : PV} {vs : List PV} (hs : seqOf v h = some vs) (q : Q (.int vs.length) h) : Ok (opLen [v] h) Q := by
  cases v with
  | str z => cases hs
  | _ =>
    simp only [opLen, hs]
    exact q
theorem ok_mkl {m : PEnv → MH → R (List PV)} {env : PEnv} (k : Ok (m env h) fun vs h1 => vs.length ≤ sizeLine ∧ Q (.ref h1.length) (h1 ++ [.lst vs])) : Ok (mLst m env h) Q := by
  unfold mLst
  rw [ok_bind]
  refine k.imp fun vs h1 ⟨hz, q⟩ => ?_
  rw [if_pos hz]
  exact q
end
end Ev
namespace Ev
open PySem PySem.Spec PyProof.Rows L2 RZ
/-! ### pots: three ints, B draws so far at the most -/
def PotL (own c t : Int) : List PV := [.int own, .int c, .int t]
def Pot (p : Nat) (B : Nat) (h : MH) : Prop := ∃ own c t : Int, h[p]? = some (.lst (PotL own c t)) ∧ 0 ≤ own ∧ Bd 1300 own ∧ 0 ≤ c ∧ Bd 62 c ∧ 0 ≤ t ∧ t ≤ B
theorem Pot.mono {p a b : Nat} {h : MH} (k : Pot p a h) (hab : a ≤ b) : Pot p b h := by
  obtain ⟨own, c, t, h1, h2, h3, h4, h5, h6, h7⟩ := k
  exact ⟨own, c, t, h1, h2, h3, h4, h5, h6, by omega⟩
theorem Pot.lt {p a : Nat} {h : MH} (k : Pot p a h) : p < h.length := by
  obtain ⟨own, c, t, h1, _⟩ := k
  exact (List.getElem?_eq_some_iff.mp h1).1
theorem Pot.sub {p a : Nat} {h h' : MH} (k : Pot p a h) (s : Sub h h') : Pot p a h' := by
  obtain ⟨own, c, t, h1, r⟩ := k
  exact ⟨own, c, t, s _ _ h1, r⟩
theorem Pot.set {p a n : Nat} {h : MH} (k : Pot p a h) (hn : n ≠ p) (o : MO) : Pot p a (h.set n o) := by
  obtain ⟨own, c, t, h1, r⟩ := k
  exact ⟨own, c, t, by rw [List.getElem?_set_ne hn]; exact h1, r⟩
/-- a comprehension that draws from the pot at p, c draws an item at the most -/
theorem ok_compPot {t : Tg} {ms : PEnv → MH → R Src} {mt : PEnv → MH → R Bool} {me : PEnv → MH → R PV} {own : List Nat} {env : PEnv} {mh : MH} {Q : PV → MH → Prop} {p : Nat} (c : Nat) (G : PV → Prop)
    (h : Ok (ms env mh) fun src h1 => ∃ (as : List PV) (B : Nat), SubX p mh h1 ∧ Pot p B h1 ∧ as.length < loopFuel ∧ (∀ h, SubX p h1 h → SrcIs src h as) ∧
      (∀ x ∈ as, ∀ h B', B' ≤ B + as.length * c → Pot p B' h → SubX p mh h → ∃ e2, asg t x (wipeE env own) h = some e2 ∧ Ok (mt e2 h) fun k h2 => if k = true then Ok (me e2 h2) fun y h3 => G y ∧ Pot p (B' + c) h3 ∧ SubX p h h3 else mt ≠ mYes ∧ Pot p (B' + c) h2 ∧ SubX p h h2) ∧
      (∀ n out h, out.length ≤ as.length → (mt = mYes → out.length = as.length) → (∀ y ∈ out, G y) → SubX p mh h → mh[n]? = none → n ≠ p → h[n]? = some (.lst out) → Pot p (B + as.length * c) h → Q (.ref n) h)) : Ok (mComp ms t mt me own env mh) Q := by
  refine ok_comp (h.imp fun src h1 ⟨as, B, hb, hp, hl, hs, step, done⟩ => ⟨as, fun i out h => SubX p h1 h ∧ Pot p (B + i * c) h ∧ out.length ≤ i ∧ (mt = mYes → out.length = i) ∧ (∀ y ∈ out, G y) ∧ i ≤ as.length, hl, fun i out h q _ => hs h q.1, fun i out h q => q.2.2.1, ?_, ⟨(Sub.push _ _).x p, by rw [Nat.zero_mul]; exact hp.sub (.push _ _), by simp, fun _ => rfl, by simp, Nat.zero_le _⟩, ?_⟩)
  · rintro i v out h hv ⟨k1, k2, k3, k4, k5, k6⟩ hd
    have hlt := (List.getElem?_eq_some_iff.mp hv).1
    have hne : h1.length ≠ p := Nat.ne_of_gt hp.lt
    have hmul : B + i * c ≤ B + as.length * c := Nat.add_le_add_left (Nat.mul_le_mul_right c (by omega)) B
    obtain ⟨e2, ea, k⟩ := step v (List.mem_of_getElem? hv) h (B + i * c) hmul k2 (hb.trans k1)
    have hsucc : B + i * c + c = B + (i + 1) * c := by rw [Nat.succ_mul]; omega
    refine ⟨e2, ea, k.imp fun b h2 kb => ?_⟩
    cases b with
    | false =>
      rw [if_neg (by simp)] at kb ⊢
      obtain ⟨q0, q1, q2⟩ := kb
      exact ⟨q2 _ _ hne hd, k1.trans q2, by rw [← hsucc]; exact q1, by omega, fun z => absurd z q0, k5, hlt⟩
    | true =>
      rw [if_pos rfl] at kb ⊢
      refine kb.imp fun y h3 ⟨q0, q1, q2⟩ => ⟨q2 _ _ hne hd, ?_, ?_, ?_, ?_, ?_, hlt⟩
      · exact (k1.trans q2).set (.inl (Sub.refl h1).new) _
      · rw [← hsucc]
        exact q1.set hne _
      · rw [List.length_append]
        simp
        exact k3
      · intro z
        rw [List.length_append, k4 z]
        rfl
      · intro z hz
        rcases List.mem_append.mp hz with hz | hz
        · exact k5 z hz
        · rw [List.mem_singleton] at hz
          rw [hz]
          exact q0
  · rintro out h ⟨k1, k2, k3, k4, k5, k6⟩ hd
    have hnew : mh[h1.length]? = none := hb.new hp.lt
    exact done _ _ _ k3 k4 k5 (hb.trans k1) hnew (Nat.ne_of_gt hp.lt) hd k2
theorem ok_yes {env : PEnv} {mh : MH} {QB : Bool → MH → Prop} : Ok (mYes env mh) QB ↔ QB true mh := Iff.rfl
theorem ok_tupleOf {v : PV} {vs : List PV} {h : MH} {Q : PV → MH → Prop} (hs : seqOf v h = some vs) (q : Q (.tup vs) h) : Ok (opTuple [v] h) Q := by
  simp only [opTuple, hs]
  exact q
theorem ok_listOf {v : PV} {vs : List PV} {h : MH} {Q : PV → MH → Prop} (hs : seqOf v h = some vs) (q : Q (.ref h.length) (h ++ [.lst vs])) : Ok (opList [v] h) Q := by
  simp only [opList, hs]
  exact q
theorem range1 {n : Nat} (hn : n < 2 ^ 60) : rangeOf [.int n] = some ((List.range n).map fun k => .int (k : Nat)) := by
  simp only [rangeOf]
  rw [if_pos (inB_iff.mpr ⟨by omega, by omega⟩)]
  congr 1
  unfold rangeL
  simp
end Ev
namespace Ev
open PySem PySem.Spec PyProof.Rows L2 RZ
/-! ### types, ints, data: what the laws' proofs share -/
def tyIs (T t : String) : Bool := t == T || (t == "bool" && T == "int")
theorem kit_all : ∀ a ∈ ["NoneType", "bool", "int", "str", "tuple", "list", "dict"], ∀ b ∈ ["int", "bool", "tuple", "str", "list", "dict"], kitB a b = some (tyIs b a) := by decide +kernel
theorem tyOf_mem {v : PV} {mh : MH} {t : String} (h : tyOf v mh = some t) : t ∈ ["NoneType", "bool", "int", "str", "tuple", "list", "dict"] := by
  unfold tyOf at h
  repeat' split at h
  all_goals first | (cases h; simp) | cases h
theorem ok_isTy {T : String} (hT : T ∈ ["int", "bool", "tuple", "str", "list", "dict"]) {v : PV} {mh : MH} {t : String} (h : tyOf v mh = some t) : isTy T v mh = .ok (.bl (tyIs T t)) mh := by
  unfold isTy
  rw [h]
  simp only [kit_all t (tyOf_mem h) T hT]
/-- an int, no bool -/
def isI : PV → Bool
  | .int _ => true
  | _ => false
theorem tyIs_isI {v : PV} {mh : MH} {t : String} (h : tyOf v mh = some t) : (tyIs "int" t && !tyIs "bool" t) = isI v := by
  unfold tyOf at h
  repeat' split at h
  all_goals first | (cases h; rfl) | cases h
/-- an int from lo to hi -/
def isIn (v : PV) (lo hi : Int) : Bool := match v with
  | .int i => decide (lo ≤ i) && decide (i ≤ hi)
  | _ => false
abbrev iL (l : List Int) : List PV := l.map PV.int
abbrev iT (l : List Int) : PV := .tup (iL l)
theorem iL_of {G : Int → Prop} : ∀ {out : List PV}, (∀ y ∈ out, ∃ i, y = .int i ∧ G i) → ∃ l : List Int, out = iL l ∧ ∀ i ∈ l, G i
  | [], _ => ⟨[], rfl, by simp⟩
  | y :: out, h => by
    obtain ⟨i, rfl, g⟩ := h y (by simp)
    obtain ⟨l, rfl, gl⟩ := iL_of (out := out) fun z hz => h z (List.mem_cons_of_mem _ hz)
    refine ⟨i :: l, rfl, fun j hj => ?_⟩
    rcases List.mem_cons.mp hj with rfl | hj
    · exact g
    · exact gl j hj
theorem lay_ints : ∀ l : List Int, PyData.canLayAll0 (l.map PyData.int) = true
  | [] => by simp [PyData.canLayAll0]
  | i :: l => by
    have := lay_ints l
    simp [PyData.canLayAll0, PyData.canLay0, this]
theorem shaped_list (l : List Int) : SeqAt.shaped (.list (l.map PyData.int)) = true := by
  have h1 := lay_ints l
  have h2 := depth_ints l
  unfold SeqAt.shaped
  rw [Bool.and_eq_true]
  exact ⟨by simpa only [PyData.canLay0] using h1, decide_eq_true (by simp only [PyData.depth]; omega)⟩
theorem shaped_tup (l : List Int) : SeqAt.shaped (.tuple (l.map PyData.int)) = true := by
  have h1 := lay_ints l
  have h2 := depth_ints l
  unfold SeqAt.shaped
  rw [Bool.and_eq_true]
  exact ⟨by simpa only [PyData.canLay0] using h1, decide_eq_true (by simp only [PyData.depth]; omega)⟩
theorem allD_ints (n : Nat) (mh : MH) : ∀ l : List Int, allD (toD (n + 1) mh) (iL l) = some (l.map PyData.int)
  | [] => rfl
  | i :: l => by
    have := allD_ints n mh l
    simp only [List.map_cons, allD, toD] at this ⊢
    rw [this]
theorem toD_lst {mh : MH} {n : Nat} {l : List Int} (e : mh[n]? = some (.lst (iL l))) : toD dataFuel mh (.ref n) = some (.list (l.map PyData.int)) := by
  show toD (64 + 1 + 1) mh (.ref n) = _
  rw [toD]
  simp only [e, allD_ints]
theorem toD_tup (mh : MH) (l : List Int) : toD dataFuel mh (iT l) = some (.tuple (l.map PyData.int)) := by
  show toD (64 + 1 + 1) mh (iT l) = _
  rw [toD]
  simp only [allD_ints]
theorem eqv_ints : ∀ a b : List Int, PyData.eqvAll (a.map PyData.int) (b.map PyData.int) = decide (a = b)
  | [], [] => by simp [PyData.eqvAll]
  | [], _ :: _ => by simp [PyData.eqvAll]
  | _ :: _, [] => by simp [PyData.eqvAll]
  | x :: a, y :: b => by
    simp only [List.map_cons, PyData.eqvAll, PyData.eqv, eqv_ints a b, List.cons.injEq]
    by_cases h1 : x = y <;> by_cases h2 : a = b <;> simp [h1, h2]
theorem eqD_lst {mh : MH} {n k : Nat} {a b : List Int} (e1 : mh[n]? = some (.lst (iL a))) (e2 : mh[k]? = some (.lst (iL b))) : eqD (.ref n) (.ref k) mh = some (decide (a = b)) := by
  unfold eqD
  rw [toD_lst e1, toD_lst e2]
  simp only [shaped_list, Bool.and_self, if_true, PyData.eqv, eqv_ints]
theorem eqD_tup {mh : MH} {a b : List Int} : eqD (iT a) (iT b) mh = some (decide (a = b)) := by
  unfold eqD
  rw [toD_tup, toD_tup]
  simp only [shaped_tup, Bool.and_self, if_true, PyData.eqv, eqv_ints]
theorem eqD_int {mh : MH} {a b : Int} : eqD (.int a) (.int b) mh = some (decide (a = b)) := by
  have h : ∀ i : Int, SeqAt.shaped (.int i) = true := fun i => rfl
  unfold eqD
  show (match toD (65 + 1) mh (.int a), toD (65 + 1) mh (.int b) with | some d, some e => if SeqAt.shaped d && SeqAt.shaped e then some (PyData.eqv d e) else none | _, _ => none) = _
  simp only [toD, h, Bool.and_self, if_true, PyData.eqv]
  by_cases hab : a = b <;> simp [hab]
theorem neD_lst {mh : MH} {n k : Nat} {a b : List Int} (e1 : mh[n]? = some (.lst (iL a))) (e2 : mh[k]? = some (.lst (iL b))) : neD (.ref n) (.ref k) mh = some (!decide (a = b)) := by
  unfold neD
  rw [eqD_lst e1 e2]
  rfl
theorem neD_int {mh : MH} {a b : Int} : neD (.int a) (.int b) mh = some (!decide (a = b)) := by
  unfold neD
  rw [eqD_int]
  rfl
theorem ok_allB {n : Nat} {bs : List Bool} {h : MH} {Q : PV → MH → Prop} (e : h[n]? = some (.lst (bs.map PV.bl))) (q : Q (.bl (bs.all id)) h) : Ok (opAll [.ref n] h) Q := by
  have : lstOf h n = some (bs.map PV.bl) := by
    unfold lstOf
    rw [e]
  simp only [opAll, seqBools, this, boolsOf_map]
  exact q
theorem ok_anyB {n : Nat} {bs : List Bool} {h : MH} {Q : PV → MH → Prop} (e : h[n]? = some (.lst (bs.map PV.bl))) (q : Q (.bl (bs.any id)) h) : Ok (opAny [.ref n] h) Q := by
  have : lstOf h n = some (bs.map PV.bl) := by
    unfold lstOf
    rw [e]
  simp only [opAny, seqBools, this, boolsOf_map]
  exact q
theorem intsOf_iL : ∀ l : List Int, intsOf (iL l) = some l
  | [] => rfl
  | i :: l => by simp only [List.map_cons, intsOf, intsOf_iL l]
/-- all([f x for x in as]) -/
theorem ok_allP {α : Type} {ms : PEnv → MH → R Src} {t : Tg} {me : PEnv → MH → R PV} {own : List Nat} {env : PEnv} {mh : MH} {Q : PV → MH → Prop} (as : List α) (s : α → PV) (g : α → Bool)
    (h : Ok (ms env mh) fun src h1 => as.length < loopFuel ∧ Sub mh h1 ∧ (∀ h, Sub h1 h → SrcIs src h (as.map s))) (step : ∀ x ∈ as, ∀ h, Sub mh h → ∃ e2, asg t (s x) (wipeE env own) h = some e2 ∧ Ok (me e2 h) fun y h3 => y = .bl (g x) ∧ Sub h h3)
    (done : ∀ h, Sub mh h → Q (.bl (as.all g)) h) : Ok (mComp ms t mYes me own env mh) (fun v h => Ok (opAll [v] h) Q) := by
  refine ok_compP as s (fun _ => true) (fun x => .bl (g x)) h (fun x hx h' hs => ?_) fun n h' hs hn hl => ?_
  · obtain ⟨e2, ea, k⟩ := step x hx h' hs
    refine ⟨e2, ea, ?_⟩
    rw [ok_yes]
    exact ⟨rfl, .refl _, fun _ => k⟩
  · have e : h'[n]? = some (.lst ((as.map g).map PV.bl)) := by
      rw [hl, List.map_map, List.filter_eq_self.mpr (by simp)]
      rfl
    refine ok_allB e ?_
    have : (as.map g).all id = as.all g := by
      rw [List.all_map]
      rfl
    rw [this]
    exact done h' hs
theorem okS_nx {e : PEnv} {h : MH} {D : EndsP} : OkS (.nx e h) D ↔ D.nx e h := Iff.rfl
theorem ok_trB {b : Bool} {h : MH} {QB : Bool → MH → Prop} : Ok (Ev.truthy (.bl b) h) QB ↔ QB b h := Iff.rfl
theorem ok_trI {i : Int} {h : MH} {QB : Bool → MH → Prop} : Ok (Ev.truthy (.int i) h) QB ↔ QB (i != 0) h := Iff.rfl
/-! ### slices, methods, lists -/
section
variable {env : PEnv} {mh h : MH} {Q : PV → MH → Prop} {QI : Src → MH → Prop} {QO : Option Int → MH → Prop} {ma mb : PEnv → MH → R PV} {m : PEnv → MH → R (List PV)} {ml mu : PEnv → MH → R (Option Int)}
theorem ok_enum (k : Ok (m env mh) fun vs h => ∃ n us, vs = [.ref n] ∧ h[n]? = some (.lst us) ∧ QI (.enum (.lst n)) h) : Ok (mEnum m env mh) QI := by
  unfold mEnum
  rw [ok_bind]
  refine k.imp fun vs h ⟨n, us, e, e2, q⟩ => ?_
  subst e
  simp only [e2]
  exact q
theorem ok_zipT (k : Ok (m env mh) fun vs h => ∃ xs ys, vs = [.tup xs, .tup ys] ∧ QI (.zip (.vals xs) (.vals ys)) h) : Ok (mZip m env mh) QI := by
  unfold mZip
  rw [ok_bind]
  refine k.imp fun vs h ⟨xs, ys, e, q⟩ => ?_
  subst e
  exact q
theorem ok_sl : Ok (mSl ma ml mu env mh) Q ↔ Ok (ma env mh) fun v h => Ok (ml env h) fun lo h1 => Ok (mu env h1) fun hi h2 => Ok (opSl v lo hi h2) Q := by
  unfold mSl
  simp only [ok_bind]
theorem ok_noPart : Ok (mNoPart env mh) QO ↔ QO none mh := Iff.rfl
theorem ok_part (k : Ok (ma env mh) fun v h => ∃ i, v = .int i ∧ QO (some i) h) : Ok (mPart ma env mh) QO := by
  unfold mPart
  rw [ok_bind]
  refine k.imp fun v h ⟨i, e, q⟩ => ?_
  subst e
  exact q
theorem ok_slL {n : Nat} {vs : List PV} {lo hi : Option Int} (e : h[n]? = some (.lst vs)) (q : Q (.ref h.length) (h ++ [.lst (cutL vs lo hi)])) : Ok (opSl (.ref n) lo hi h) Q := by
  simp only [opSl, seqOf, e]
  exact q
theorem ok_slT {vs : List PV} {lo hi : Option Int} : Ok (opSl (.tup vs) lo hi h) Q ↔ Q (.tup (cutL vs lo hi)) h := Iff.rfl
theorem cut_to {α : Type} (vs : List α) (k : Nat) : cutL vs none (some (k : Int)) = vs.take k := by
  unfold cutL HT.sIx
  simp only [List.drop_zero, Nat.sub_zero]
  rw [if_neg (by omega)]
  simp only [Int.toNat_natCast]
  rw [List.take_eq_take_iff]
  omega
theorem cut_from {α : Type} (vs : List α) (k : Nat) : cutL vs (some (k : Int)) none = vs.drop k := by
  unfold cutL HT.sIx
  simp only
  rw [if_neg (by omega)]
  simp only [Int.toNat_natCast]
  by_cases hk : k ≤ vs.length
  · rw [Nat.min_eq_left hk]
    exact List.take_of_length_le (by rw [List.length_drop]; omega)
  · rw [Nat.min_eq_right (by omega), Nat.sub_self, List.take_zero, List.drop_of_length_le (by omega)]
theorem ok_addL {n k : Nat} {xs ys : List PV} (e1 : h[n]? = some (.lst xs)) (e2 : h[k]? = some (.lst ys)) (hz : xs.length + ys.length ≤ sizeLine) (q : Q (.ref h.length) (h ++ [.lst (xs ++ ys)])) : Ok (opAdd (.ref n) (.ref k) h) Q := by
  simp only [opAdd, lstOf, e1, e2]
  rw [if_pos hz]
  exact q
theorem ok_addT {xs ys : List PV} (hz : xs.length + ys.length ≤ sizeLine) (q : Q (.tup (xs ++ ys)) h) : Ok (opAdd (.tup xs) (.tup ys) h) Q := by
  simp only [opAdd]
  rw [if_pos hz]
  exact q
theorem ok_meth1 {f : PV → PV → MH → R PV} : Ok (mMeth1 f ma mb env mh) Q ↔ Ok (ma env mh) fun v h => Ok (mb env h) fun w h' => Ok (f v w h') Q := by
  unfold mMeth1
  simp only [ok_bind]
theorem ok_recv (k : Ok (ma env mh) fun v h => ∃ n vs, v = .ref n ∧ h[n]? = some (.lst vs) ∧ Q v h) : Ok (mRecv ma env mh) Q := by
  unfold mRecv
  rw [ok_bind]
  refine k.imp fun v h ⟨n, vs, e, e2, q⟩ => ?_
  subst e
  have : isL (.ref n) h = true := by
    simp only [isL, lstOf, e2, Option.isSome_some]
  rw [if_pos this]
  exact q
theorem ok_append {n : Nat} {vs : List PV} {w : PV} (e : h[n]? = some (.lst vs)) (hz : vs.length < sizeLine) (q : Q .non (h.set n (.lst (vs ++ [w])))) : Ok (meAppend (.ref n) w h) Q := by
  simp only [meAppend, lstOf, e]
  rw [if_pos hz]
  exact q
theorem ok_mtup (k : Ok (m env mh) fun vs h => vs.length ≤ sizeLine ∧ Q (.tup vs) h) : Ok (mTup m env mh) Q := by
  unfold mTup
  rw [ok_bind]
  refine k.imp fun vs h ⟨hz, q⟩ => ?_
  rw [if_pos hz]
  exact q
end
theorem snoc_ind {α : Type} {P : List α → Prop} (h0 : P []) (hs : ∀ l x, P l → P (l ++ [x])) (l : List α) : P l := by
  have : ∀ l : List α, P l.reverse := by
    intro l
    induction l with
    | nil => exact h0
    | cons x l ih =>
      rw [List.reverse_cons]
      exact hs _ _ ih
  have h := this l.reverse
  rwa [List.reverse_reverse] at h
theorem enumPV_len : ∀ (vs : List PV) (k : Nat), (enumPV k vs).length = vs.length
  | [], _ => rfl
  | v :: vs, k => by simp only [enumPV, List.length_cons, enumPV_len vs (k + 1)]
theorem enumPV_mem : ∀ (vs : List PV) (k : Nat) (y : PV), y ∈ enumPV k vs → ∃ (i : Nat) (v : PV), v ∈ vs ∧ y = .tup [.int (i : Nat), v]
  | [], _, _, h => by cases h
  | v :: vs, k, y, h => by
    simp only [enumPV] at h
    rcases List.mem_cons.mp h with rfl | h
    · exact ⟨k, v, by simp, rfl⟩
    · obtain ⟨i, w, hw, e⟩ := enumPV_mem vs (k + 1) y h
      exact ⟨i, w, List.mem_cons_of_mem _ hw, e⟩
/-! ### the same, the new list at some n -/
section
variable {env : PEnv} {mh h : MH} {Q : PV → MH → Prop} {ma mb : PEnv → MH → R PV} {m : PEnv → MH → R (List PV)}
abbrev NewL (h : MH) (vs : List PV) (Q : PV → MH → Prop) : Prop := ∀ n h2, Sub h h2 → h[n]? = none → h2[n]? = some (.lst vs) → Q (.ref n) h2
theorem NewL.at (q : NewL h vs Q) : Q (.ref h.length) (h ++ [.lst vs]) := q _ _ (.push _ _) (Sub.refl h).new (at_push _ _)
theorem ok_mklN (k : Ok (m env h) fun vs h1 => vs.length ≤ sizeLine ∧ NewL h1 vs Q) : Ok (mLst m env h) Q := ok_mkl (k.imp fun vs h1 ⟨a, b⟩ => ⟨a, b.at⟩)
theorem ok_slN {n : Nat} {vs : List PV} {lo hi : Option Int} (e : h[n]? = some (.lst vs)) (q : NewL h (cutL vs lo hi) Q) : Ok (opSl (.ref n) lo hi h) Q := ok_slL e q.at
theorem ok_addN {n k : Nat} {xs ys : List PV} (e1 : h[n]? = some (.lst xs)) (e2 : h[k]? = some (.lst ys)) (hz : xs.length + ys.length ≤ sizeLine) (q : NewL h (xs ++ ys) Q) : Ok (opAdd (.ref n) (.ref k) h) Q := ok_addL e1 e2 hz q.at
theorem ok_listN {v : PV} {vs : List PV} (hs : seqOf v h = some vs) (q : NewL h vs Q) : Ok (opList [v] h) Q := ok_listOf hs q.at
end
theorem big_line : 100000 ≤ sizeLine := by decide
theorem small_line {n : Nat} (h : n ≤ 100000) : n ≤ sizeLine := Nat.le_trans h big_line
theorem ok_rev {env : PEnv} {mh : MH} {Q : PV → MH → Prop} {ma : PEnv → MH → R PV} : Ok (mRev ma env mh) Q ↔ Ok (ma env mh) fun v h => Ok (opRev v h) Q := ok_bind
theorem ok_revN {h : MH} {Q : PV → MH → Prop} {n : Nat} {vs : List PV} (e : h[n]? = some (.lst vs)) (q : NewL h vs.reverse Q) : Ok (opRev (.ref n) h) Q := by
  simp only [opRev, seqOf, e]
  exact q.at
theorem ok_revT {h : MH} {Q : PV → MH → Prop} {vs : List PV} : Ok (opRev (.tup vs) h) Q ↔ Q (.tup vs.reverse) h := Iff.rfl
theorem ok_srcL {n : Nat} {vs : List PV} {h : MH} {QI : Src → MH → Prop} (e : h[n]? = some (.lst vs)) (q : QI (.lst n) h) : Ok (srcOf (.ref n) h) QI := by
  simp only [srcOf, e]
  exact q
theorem ok_srcT {vs : List PV} {h : MH} {QI : Src → MH → Prop} : Ok (srcOf (.tup vs) h) QI ↔ QI (.vals vs) h := Iff.rfl
end Ev
namespace Ev
open PySem PySem.Spec PyProof.Rows L2 RZ
/-! ### values of any kind: types told at every depth, short tuples -/
/-- objects keep their type -/
def TyM (a b : MH) : Prop := ∀ n t, tyOf (.ref n) a = some t → tyOf (.ref n) b = some t
theorem TyM.refl (a : MH) : TyM a a := fun _ _ h => h
theorem TyM.trans {a b c : MH} (x : TyM a b) (y : TyM b c) : TyM a c := fun n t h => y n t (x n t h)
theorem Sub.ty {a b : MH} (s : Sub a b) : TyM a b := fun n t e => by
  simp only [tyOf] at e ⊢
  cases q : a[n]? with
  | none => rw [q] at e; cases e
  | some o =>
    rw [q] at e
    rw [s _ _ q]
    exact e
theorem SubX.ty {a b : MH} {p x y : Nat} (s : SubX p a b) (ha : Pot p x a) (hb : Pot p y b) : TyM a b := fun n t e => by
  by_cases hn : n = p
  · subst hn
    obtain ⟨_, _, _, h1, _⟩ := ha
    obtain ⟨_, _, _, h2, _⟩ := hb
    simp only [tyOf, h1] at e
    simp only [tyOf, h2]
    exact e
  · simp only [tyOf] at e ⊢
    cases q : a[n]? with
    | none => rw [q] at e; cases e
    | some o =>
      rw [q] at e
      rw [s _ _ hn q]
      exact e
theorem TyM.setL {a : MH} {n : Nat} {vs : List PV} (e : a[n]? = some (.lst vs)) (ws : List PV) : TyM a (a.set n (.lst ws)) := fun k t h => by
  by_cases hk : n = k
  · subst hk
    simp only [tyOf, e] at h
    simp only [tyOf, at_set e]
    exact h
  · simp only [tyOf] at h ⊢
    rw [List.getElem?_set_ne hk]
    exact h
def Vt (h : MH) (v : PV) : Prop := ∃ t, tyOf v h = some t
theorem Vt.mono {a b : MH} {v : PV} (k : Vt a v) (s : TyM a b) : Vt b v := by
  obtain ⟨t, e⟩ := k
  cases v with
  | ref n => exact ⟨t, s _ _ e⟩
  | _ => exact ⟨t, e⟩
inductive Gd (h : MH) : PV → Prop
  | at {v : PV} : Vt h v → (∀ vs, v ≠ .tup vs) → Gd h v
  | tup {vs : List PV} : vs.length ≤ 60 → (∀ w, w ∈ vs → Gd h w) → Gd h (.tup vs)
theorem Gd.mono {a b : MH} {v : PV} (s : TyM a b) (k : Gd a v) : Gd b v := by
  induction k with
  | «at» h1 h2 => exact .at (h1.mono s) h2
  | tup h1 _ ih => exact .tup h1 ih
theorem Gd.vt {h : MH} {v : PV} (k : Gd h v) : Vt h v := by
  cases k with
  | «at» h1 _ => exact h1
  | tup _ _ => exact ⟨_, rfl⟩
theorem Gd.tupE {h : MH} {vs : List PV} (k : Gd h (.tup vs)) : vs.length ≤ 60 ∧ ∀ w ∈ vs, Gd h w := by
  cases k with
  | «at» _ h2 => exact absurd rfl (h2 vs)
  | tup h1 h2 => exact ⟨h1, h2⟩
theorem gd_int {h : MH} {i : Int} : Gd h (.int i) := .at ⟨_, rfl⟩ fun _ z => by cases z
theorem gd_bl {h : MH} {i : Bool} : Gd h (.bl i) := .at ⟨_, rfl⟩ fun _ z => by cases z
theorem gd_str {h : MH} {i : Str} : Gd h (.str i) := .at ⟨_, rfl⟩ fun _ z => by cases z
theorem gd_non {h : MH} : Gd h .non := .at ⟨_, rfl⟩ fun _ z => by cases z
theorem gd_lst {h : MH} {n : Nat} {vs : List PV} (e : h[n]? = some (.lst vs)) : Gd h (.ref n) := .at ⟨"list", by simp only [tyOf, e]⟩ fun _ z => by cases z
theorem gd_dict {h : MH} {n : Nat} {vs : List (Key × PV)} (e : h[n]? = some (.dict vs)) : Gd h (.ref n) := .at ⟨"dict", by simp only [tyOf, e]⟩ fun _ z => by cases z
theorem gd_ints {h : MH} {l : List Int} (hl : l.length ≤ 60) : Gd h (iT l) := .tup (by simpa using hl) fun w hw => by
  obtain ⟨i, _, rfl⟩ := List.mem_map.mp hw
  exact gd_int
theorem gd_one {h : MH} {v : PV} (k : Gd h v) : Gd h (.tup [v]) := .tup (by simp) fun w hw => by
  rw [List.mem_singleton] at hw
  subst hw
  exact k
theorem gd_two {h : MH} {v w : PV} (k : Gd h v) (k2 : Gd h w) : Gd h (.tup [v, w]) := .tup (by simp) fun u hu => by
  rcases List.mem_cons.mp hu with rfl | hu
  · exact k
  · rw [List.mem_singleton] at hu
    subst hu
    exact k2
theorem gd_three {h : MH} {v w u : PV} (k : Gd h v) (k2 : Gd h w) (k3 : Gd h u) : Gd h (.tup [v, w, u]) := .tup (by simp) fun x hx => by
  rcases List.mem_cons.mp hx with rfl | hx
  · exact k
  rcases List.mem_cons.mp hx with rfl | hx
  · exact k2
  · rw [List.mem_singleton] at hx
    subst hx
    exact k3
theorem gd_nil {h : MH} : Gd h (.tup []) := .tup (by simp) fun _ hw => by cases hw
theorem all_nil {P : PV → Prop} : ∀ v ∈ ([] : List PV), P v := fun _ h => by cases h
theorem all_cons {P : PV → Prop} {x : PV} {l : List PV} (hx : P x) (hl : ∀ v ∈ l, P v) : ∀ v ∈ x :: l, P v := fun v hv => by
  rcases List.mem_cons.mp hv with rfl | hv
  · exact hx
  · exact hl v hv
theorem all_app {P : PV → Prop} {l k : List PV} (hx : ∀ v ∈ l, P v) (hl : ∀ v ∈ k, P v) : ∀ v ∈ l ++ k, P v := fun v hv => by
  rcases List.mem_append.mp hv with hv | hv
  · exact hx v hv
  · exact hl v hv
/-! ### slices -/
theorem cut_len {α : Type} (vs : List α) (lo hi : Option Int) : (cutL vs lo hi).length ≤ vs.length := by
  unfold cutL
  rw [List.length_take, List.length_drop]
  omega
theorem cut_mem {α : Type} {vs : List α} {lo hi : Option Int} {w : α} (h : w ∈ cutL vs lo hi) : w ∈ vs := by
  unfold cutL at h
  exact List.mem_of_mem_drop (List.mem_of_mem_take h)
theorem gd_cut {h : MH} {vs : List PV} {lo hi : Option Int} (k : ∀ w ∈ vs, Gd h w) : ∀ w ∈ cutL vs lo hi, Gd h w := fun w hw => k w (cut_mem hw)
/-! ### a dict display -/
theorem ok_dictN {env : PEnv} {h : MH} {m : PEnv → MH → R (List PV)} {Q : PV → MH → Prop} (k : Ok (m env (h ++ [.dict []])) fun vs h1 => ∃ kvs, pairUp vs = some kvs ∧ kvs.length ≤ 15 ∧ Sub (h ++ [.dict []]) h1 ∧ ∀ n h2, Sub h h2 → h[n]? = none → h2[n]? = some (.dict (mergeP [] kvs)) → Q (.ref n) h2) : Ok (mDict m env h) Q := by
  unfold mDict
  rw [ok_bind]
  refine k.imp fun vs h1 ⟨kvs, e1, e2, s, q⟩ => ?_
  have ed : h1[h.length]? = some (.dict []) := s _ _ (at_push _ _)
  simp only [e1, ed]
  rw [if_pos e2]
  exact q _ _ (((Sub.push h _).trans s).set (Sub.refl h).new _) (Sub.refl h).new (at_set ed _)
/-! ### texts -/
theorem eqD_str {mh : MH} {a b : Str} (ha : PyData.strOk a = true) (hb : PyData.strOk b = true) : eqD (.str a) (.str b) mh = some (a == b) := by
  have h : ∀ i : Str, PyData.strOk i = true → SeqAt.shaped (.str i) = true := fun i hi => by
    unfold SeqAt.shaped
    simp only [PyData.canLay0, hi, PyData.depth, Bool.true_and]
    exact decide_eq_true (Nat.zero_le _)
  unfold eqD
  show (match toD (65 + 1) mh (.str a), toD (65 + 1) mh (.str b) with | some d, some e => if SeqAt.shaped d && SeqAt.shaped e then some (PyData.eqv d e) else none | _, _ => none) = _
  simp only [toD, h a ha, h b hb, Bool.and_self, if_true, PyData.eqv]
theorem neD_str {mh : MH} {a b : Str} (ha : PyData.strOk a = true) (hb : PyData.strOk b = true) : neD (.str a) (.str b) mh = some (!(a == b)) := by
  unfold neD
  rw [eqD_str ha hb]
  rfl
def blS (b : Bool) : Str := if b then "True" else "False"
theorem ok_reprB {b : Bool} {h : MH} {Q : PV → MH → Prop} (q : Q (.str (blS b)) h) : Ok (opRepr [.bl b] h) Q := by
  have e : opRepr [.bl b] h = .ok (.str (blS b)) h := by
    unfold opRepr
    show (match toD (65 + 1) h (.bl b) with | some d => if d.showable && !d.hasDict && decide (d.depth ≤ 66) && decide (d.shown.length ≤ sizeLine) then R.ok (PV.str d.shown) h else .bad | none => .bad) = _
    simp only [toD]
    cases b <;> rfl
  rw [e]
  exact q
theorem strOk_bl (b : Bool) : PyData.strOk (blS b) = true := by
  cases b <;> decide +kernel
theorem shown_nat : ∀ n : Fin 64, (PyData.showable (.int (n.val : Int)) && !PyData.hasDict (.int (n.val : Int)) && decide (PyData.depth (.int (n.val : Int)) ≤ 66) && decide ((PyData.shown (.int (n.val : Int))).length ≤ sizeLine)) = true ∧ PyData.strOk (PyData.shown (.int (n.val : Int))) = true := by decide +kernel
theorem ok_reprN {n : Nat} (hn : n < 64) {h : MH} {Q : PV → MH → Prop} (q : Q (.str (PyData.shown (.int (n : Int)))) h) : Ok (opRepr [.int (n : Nat)] h) Q := by
  have e : opRepr [.int (n : Nat)] h = .ok (.str (PyData.shown (.int (n : Int)))) h := by
    unfold opRepr
    show (match toD (65 + 1) h (.int (n : Int)) with | some d => if d.showable && !d.hasDict && decide (d.depth ≤ 66) && decide (d.shown.length ≤ sizeLine) then R.ok (PV.str d.shown) h else .bad | none => .bad) = _
    simp only [toD]
    rw [if_pos (shown_nat ⟨n, hn⟩).1]
  rw [e]
  exact q
theorem strOk_nat {n : Nat} (hn : n < 64) : PyData.strOk (PyData.shown (.int (n : Int))) = true := (shown_nat ⟨n, hn⟩).2
/-! ### max of a list -/
theorem ok_maxN {n : Nat} {l : List Int} {m : Int} {h : MH} {Q : PV → MH → Prop} (e : h[n]? = some (.lst (iL l))) (hm : maxI l = some m) (q : Q (.int m) h) : Ok (opMaxA [.ref n] h) Q := by
  have : intSeq (.ref n) h = some l := by
    unfold intSeq
    rw [seq_lst e]
    exact intsOf_iL l
  simp only [opMaxA, this, hm]
  exact q
theorem maxI_of {l : List Int} {m : Int} (h1 : m ∈ l) (h2 : ∀ y ∈ l, y ≤ m) : maxI l = some m := by
  cases e : maxI l with
  | none =>
    cases l with
    | nil => cases h1
    | cons x l => cases e
  | some k =>
    obtain ⟨a, b⟩ := maxI_spec e
    have := b m h1
    have := h2 k a
    congr 1
    omega
theorem rg0 (n : Nat) : rgPV 0 n = iL ((List.range n).map fun (k : Nat) => (k : Int)) := by
  unfold rgPV
  rw [iL, List.map_map]
  simp only [Int.sub_zero, Int.toNat_natCast]
  exact List.map_congr_left fun k _ => by simp
theorem rgB_nat {n : Nat} (hn : n ≤ 1000) : rgB 0 n = true := by
  unfold rgB
  simp only [Bool.and_eq_true, decide_eq_true_eq]
  omega
theorem ok_rg1 {f : Int → Int → MH → R PV} {ma : PEnv → MH → R PV} {env : PEnv} {mh : MH} {Q : PV → MH → Prop} (k : Ok (ma env mh) fun v h => ∃ i, v = .int i ∧ Ok (f 0 i h) Q) : Ok (mRg1 f ma env mh) Q := by
  unfold mRg1
  rw [ok_bind]
  refine k.imp fun v h ⟨i, e, q⟩ => ?_
  subst e
  exact q
theorem ok_rgT {n : Nat} (hn : n ≤ 1000) {h : MH} {Q : PV → MH → Prop} (q : Q (iT ((List.range n).map fun (k : Nat) => (k : Int))) h) : Ok (rgTup 0 n h) Q := by
  unfold rgTup
  rw [if_pos (rgB_nat hn), rg0]
  exact q
theorem ok_rgL {n : Nat} (hn : n ≤ 1000) {h : MH} {Q : PV → MH → Prop} (q : NewL h (iL ((List.range n).map fun (k : Nat) => (k : Int))) Q) : Ok (rgList 0 n h) Q := by
  unfold rgList
  rw [if_pos (rgB_nat hn), rg0]
  exact q.at
theorem ok_extend {n k : Nat} {vs ws : List PV} {h : MH} {Q : PV → MH → Prop} (e : h[n]? = some (.lst vs)) (e2 : h[k]? = some (.lst ws)) (hz : vs.length + ws.length ≤ sizeLine) (q : Q .non (h.set n (.lst (vs ++ ws)))) : Ok (meExtend (.ref n) (.ref k) h) Q := by
  simp only [meExtend, lstOf, e, e2]
  rw [if_pos hz]
  exact q
theorem ok_strI {i : Int} (hi : Bd 1000 i) {h : MH} {Q : PV → MH → Prop} (q : Q (.str (toString i)) h) : Ok (opStr [.int i] h) Q := by
  have := (hi.mono (Nat.le_succ _)).log (Nat.succ_pos _)
  simp only [opStr]
  rw [if_pos (by omega)]
  exact q
/-! ### a comprehension that draws, of values whose type is told -/
theorem ok_compGd {t : Tg} {ms : PEnv → MH → R Src} {mt : PEnv → MH → R Bool} {me : PEnv → MH → R PV} {own : List Nat} {env : PEnv} {mh : MH} {Q : PV → MH → Prop} {p : Nat} (c : Nat)
    (h : Ok (ms env mh) fun src h1 => ∃ (as : List PV) (B : Nat), SubX p mh h1 ∧ Pot p B h1 ∧ as.length < loopFuel ∧ (∀ h, SubX p h1 h → SrcIs src h as) ∧
      (∀ x ∈ as, ∀ h B', B' ≤ B + as.length * c → Pot p B' h → SubX p mh h → ∃ e2, asg t x (wipeE env own) h = some e2 ∧ Ok (mt e2 h) fun k h2 => k = true ∧ Ok (me e2 h2) fun y h3 => Gd h3 y ∧ Pot p (B' + c) h3 ∧ SubX p h h3) ∧
      (∀ n out h, out.length ≤ as.length → (∀ y ∈ out, Gd h y) → SubX p mh h → mh[n]? = none → n ≠ p → h[n]? = some (.lst out) → Pot p (B + as.length * c) h → Q (.ref n) h)) : Ok (mComp ms t mt me own env mh) Q := by
  refine ok_comp (h.imp fun src h1 ⟨as, B, hb, hp, hl, hs, step, done⟩ => ⟨as, fun i out h => SubX p h1 h ∧ Pot p (B + i * c) h ∧ out.length ≤ i ∧ (∀ y ∈ out, Gd h y) ∧ i ≤ as.length, hl, fun i out h q _ => hs h q.1, fun i out h q => q.2.2.1, ?_, ⟨(Sub.push _ _).x p, by rw [Nat.zero_mul]; exact hp.sub (.push _ _), by simp, by simp, Nat.zero_le _⟩, ?_⟩)
  · rintro i v out h hv ⟨k1, k2, k3, k5, k6⟩ hd
    have hlt := (List.getElem?_eq_some_iff.mp hv).1
    have hne : h1.length ≠ p := Nat.ne_of_gt hp.lt
    have hmul : B + i * c ≤ B + as.length * c := Nat.add_le_add_left (Nat.mul_le_mul_right c (by omega)) B
    obtain ⟨e2, ea, k⟩ := step v (List.mem_of_getElem? hv) h (B + i * c) hmul k2 (hb.trans k1)
    have hsucc : B + i * c + c = B + (i + 1) * c := by rw [Nat.succ_mul]; omega
    refine ⟨e2, ea, k.imp fun b h2 kb => ?_⟩
    obtain ⟨rfl, kb⟩ := kb
    rw [if_pos rfl]
    refine kb.imp fun y h3 ⟨q0, q1, q2⟩ => ?_
    have hd3 := q2 _ _ hne hd
    have ty : TyM h3 (h3.set h1.length (.lst (out ++ [y]))) := TyM.setL hd3 _
    refine ⟨hd3, ?_, ?_, ?_, ?_, hlt⟩
    · exact (k1.trans q2).set (.inl (Sub.refl h1).new) _
    · rw [← hsucc]
      exact q1.set hne _
    · rw [List.length_append]
      simp
      exact k3
    · intro z hz
      rcases List.mem_append.mp hz with hz | hz
      · exact (k5 z hz).mono ((q2.ty k2 q1).trans ty)
      · rw [List.mem_singleton] at hz
        rw [hz]
        exact q0.mono ty
  · rintro out h ⟨k1, k2, k3, k5, k6⟩ hd
    have hnew : mh[h1.length]? = none := hb.new hp.lt
    exact done _ _ _ k3 k5 (hb.trans k1) hnew (Nat.ne_of_gt hp.lt) hd k2
/-! ### copies of a tuple -/
theorem rep_mem {α : Type} {xs : List α} {k : Int} {w : α} (h : w ∈ rep xs k) : w ∈ xs := by
  unfold rep at h
  obtain ⟨l, hl, hw⟩ := List.mem_flatten.mp h
  rw [(List.mem_replicate.mp hl).2] at hw
  exact hw
theorem rep_one {α : Type} (x : α) (k : Nat) : rep [x] (k : Int) = List.replicate k x := by
  unfold rep
  rw [Int.toNat_natCast]
  induction k with
  | zero => rfl
  | succ k ih => rw [List.replicate_succ, List.flatten_cons, ih, List.replicate_succ]; rfl
theorem ok_mulT {xs : List PV} {k : Int} {h : MH} {Q : PV → MH → Prop} (hk : -1000 ≤ k ∧ k ≤ 1000) (hx : xs.length ≤ 1000) (q : Q (.tup (rep xs k)) h) : Ok (opMul (.tup xs) (.int k) h) Q := by
  simp only [opMul]
  rw [if_pos ⟨hk.1, hk.2, hx⟩]
  exact q
/-! ### a list that is led on with new values -/
structure Fd (p : Nat) (mh : MH) (nf : Nat) (vs : List PV) (L B : Nat) (h : MH) : Prop where
  is : h[nf]? = some (.lst vs)
  len : vs.length ≤ L
  gd : ∀ v ∈ vs, Gd h v
  pot : Pot p B h
  sub : SubX p mh h
  new : mh[nf]? = none
  ne : nf ≠ p
theorem Fd.up {p : Nat} {mh : MH} {nf : Nat} {vs : List PV} {L B : Nat} {h h2 : MH} (F : Fd p mh nf vs L B h) (s : Sub h h2) : Fd p mh nf vs L B h2 :=
  ⟨s _ _ F.is, F.len, fun v hv => (F.gd v hv).mono s.ty, F.pot.sub s, F.sub.trans (s.x p), F.new, F.ne⟩
theorem Fd.x {p : Nat} {mh : MH} {nf : Nat} {vs : List PV} {L B B2 : Nat} {h h2 : MH} (F : Fd p mh nf vs L B h) (s : SubX p h h2) (hp : Pot p B2 h2) : Fd p mh nf vs L B2 h2 :=
  ⟨s _ _ F.ne F.is, F.len, fun v hv => (F.gd v hv).mono (s.ty F.pot hp), hp, F.sub.trans s, F.new, F.ne⟩
theorem Fd.ext {p : Nat} {mh : MH} {nf nk : Nat} {vs ws : List PV} {L B c : Nat} {h : MH} (F : Fd p mh nf vs L B h) (l : h[nk]? = some (.lst ws)) (g : ∀ w ∈ ws, Gd h w) (hc : ws.length ≤ c) : Fd p mh nf (vs ++ ws) (L + c) B (h.set nf (.lst (vs ++ ws))) :=
  have ty : TyM h (h.set nf (.lst (vs ++ ws))) := TyM.setL F.is _
  ⟨at_set F.is _, by rw [List.length_append]; have := F.len; omega, all_app (fun v hv => (F.gd v hv).mono ty) fun v hv => (g v hv).mono ty, F.pot.set F.ne _, F.sub.set (.inl F.new) _, F.new, F.ne⟩
end Ev
namespace K10
open PySem PySem.Spec PyProof.Rows L2 RZ Ev
def top (i : Nat) : Stmt := PySem.Challenge.pw_tracksenough_k10_whole_fewest_tracks.main.body.getD i (.Pass ⟨0, 0, 0, 0⟩)
abbrev FnP (K : PySem.W.Frag) (x : Str) (st : Stmt) (f : Addr) (fd : FuncData) : Prop := FunD K x x (defArgs st) (defBody st) (defScope st) [] [] f fd
/-! is_integer -/
def f_is_integer : List PV → MH → R PV := runB
 (sSeq (sRet ((mAndV (mIsi "int" (mVar 0)) (mNotV (mIsi "bool" (mVar 0))))))
 sNext) 1
theorem sc_is_integer : FnScope ["value"] ["value"] (defScope (top 4)) := ⟨rfl, rfl, rfl, by decide +kernel, rfl, by decide +kernel, by decide +kernel⟩
theorem pl_is_integer : Plain (defArgs (top 4)) ["value"] := ⟨rfl, rfl, rfl, rfl, rfl, by decide +kernel⟩
theorem ok_is_integer {P : Program} {w : World} {K : PySem.W.Frag} {mg : Str → Option Value} {base : Heap} {f : Addr} {fd : FuncData} (F : FnP K "is_integer" (top 4) f fd) (hm : mg "is_integer" = some (.ref f)) (b_isinstance : mg "isinstance" = none) (b_int : mg "int" = none) (b_bool : mg "bool" = none) : Cal P w K mg base 1 "is_integer" ["value"] f_is_integer :=
  cal_of F hm sc_is_integer pl_is_integer fun cdv A outer s H E hr hg => have nd := sc_is_integer.nd
 (rss_cons (rs_ret ((re_and (re_isi rfl b_isinstance boot_isinstance' rfl b_int boot_int' (xv 0)) (re_one (re_not (re_isi rfl b_isinstance boot_isinstance' rfl b_bool boot_bool' (xv 0)))))))
 rss_nil)
/-! is_between -/
def f_is_between : List PV → MH → R PV := runB
 (sSeq (sRet ((mAndV (mCall f_is_integer (mCons (mVar 0) mNil)) (mBl (mChain leD leD (mVar 1) (mVar 0) (mVar 2))))))
 sNext) 3
theorem sc_is_between : FnScope ["value", "low", "high"] ["value", "low", "high"] (defScope (top 5)) := ⟨rfl, rfl, rfl, by decide +kernel, rfl, by decide +kernel, by decide +kernel⟩
theorem pl_is_between : Plain (defArgs (top 5)) ["value", "low", "high"] := ⟨rfl, rfl, rfl, rfl, rfl, by decide +kernel⟩
theorem ok_is_between {P : Program} {w : World} {K : PySem.W.Frag} {mg : Str → Option Value} {base : Heap} {f : Addr} {fd : FuncData} (F : FnP K "is_between" (top 5) f fd) (hm : mg "is_between" = some (.ref f)) (c_is_integer : Cal P w K mg base 1 "is_integer" ["value"] f_is_integer) : Cal P w K mg base 2 "is_between" ["value", "low", "high"] f_is_between :=
  cal_of F hm sc_is_between pl_is_between fun cdv A outer s H E hr hg => have nd := sc_is_between.nd
 (rss_cons (rs_ret ((re_and (re_fn c_is_integer hr hg (takes_of rfl rfl rfl rfl) (xa (xv 0) ra_nil) (len_cons len_nil)) (re_one (re_chain (cv_le) (cv_le) (xv 1) (xv 0) (xv 2) (by with_unfolding_all rfl))))))
 rss_nil)
/-! is_row -/
def f_is_row : List PV → MH → R PV := runB
 (sSeq (sIf ((mOrT (mNotT (mTest (mIsi "tuple" (mVar 0)))) (mCmpT gtD (mCallOp opLen (mCons (mVar 0) mNil)) (mK (.int 30))))) (sSeq (sRet (mK (.bl false)))
 sNext) sNext)
 (sSeq (sRet (mCallOp opAll (mCons (mComp (mSrc (mVar 0)) (.nm 1) mYes (mCall f_is_between (mCons (mVar 1) (mCons (mK (.int 1)) (mCons (mK (.int 99)) mNil)))) [1]) mNil)))
 sNext)) 2
theorem sc_is_row : FnScope ["value", "number"] ["value"] (defScope (top 9)) := ⟨rfl, rfl, rfl, by decide +kernel, rfl, by decide +kernel, by decide +kernel⟩
theorem pl_is_row : Plain (defArgs (top 9)) ["value"] := ⟨rfl, rfl, rfl, rfl, rfl, by decide +kernel⟩
theorem ok_is_row {P : Program} {w : World} {K : PySem.W.Frag} {mg : Str → Option Value} {base : Heap} {f : Addr} {fd : FuncData} (F : FnP K "is_row" (top 9) f fd) (hm : mg "is_row" = some (.ref f)) (c_is_between : Cal P w K mg base 2 "is_between" ["value", "low", "high"] f_is_between) (b_isinstance : mg "isinstance" = none) (b_tuple : mg "tuple" = none) (b_len : mg "len" = none) (b_all : mg "all" = none) (c_MOST_CARS : ∃ t, mg "MOST_CARS" = some (.int 30 t)) (c_MOST_NUMBER : ∃ t, mg "MOST_NUMBER" = some (.int 99 t)) : Cal P w K mg base 3 "is_row" ["value"] f_is_row :=
  cal_of F hm sc_is_row pl_is_row fun cdv A outer s H E hr hg => have nd := sc_is_row.nd
 (rss_cons (rs_if (PW.pt (rw_or (rt_not (xtv (re_isi rfl b_isinstance boot_isinstance' rfl b_tuple boot_tuple' (xv 0)))) (rw_or1 (rt_cmp (cv_gt) (re_callB (cvn_len) q_len rfl b_len boot_len' (xa (xv 0) ra_nil)) (xgi c_MOST_CARS) (nomark _))))) (rss_cons (rs_ret (re_bl))
 rss_nil) rss_nil)
 (rss_cons (rs_ret (re_callB (cvn_all rfl) q_all rfl b_all boot_all' (xa (xlc [("number", 1)] rfl nd (ri_val (xv 0)) (blkOk_by (by kernel_rfl)) (by decide) (fun _ _ _ _ _ => ⟨(xgn nd), rts_nil, (re_fn c_is_between hr hg takes0 (xa (xv 1) (xa (re_int) (xa (xgi c_MOST_NUMBER) ra_nil))) (len_cons (len_cons (len_cons len_nil))))⟩)) ra_nil)))
 rss_nil))
/-! check_row -/
def f_check_row : List PV → MH → R PV := runB
 (sSeq (sIf (mNotT (mTest (mCall f_is_row (mCons (mVar 0) mNil)))) (sSeq (sNever)
 sNext) sNext)
 sNext) 1
theorem sc_check_row : FnScope ["value"] ["value"] (defScope (top 10)) := ⟨rfl, rfl, rfl, by decide +kernel, rfl, by decide +kernel, by decide +kernel⟩
theorem pl_check_row : Plain (defArgs (top 10)) ["value"] := ⟨rfl, rfl, rfl, rfl, rfl, by decide +kernel⟩
theorem ok_check_row {P : Program} {w : World} {K : PySem.W.Frag} {mg : Str → Option Value} {base : Heap} {f : Addr} {fd : FuncData} (F : FnP K "check_row" (top 10) f fd) (hm : mg "check_row" = some (.ref f)) (c_is_row : Cal P w K mg base 3 "is_row" ["value"] f_is_row) : Cal P w K mg base 4 "check_row" ["value"] f_check_row :=
  cal_of F hm sc_check_row pl_check_row fun cdv A outer s H E hr hg => have nd := sc_check_row.nd
 (rss_cons (rs_if (rt_not (xtv (re_fn c_is_row hr hg (takes_of rfl rfl rfl rfl) (xa (xv 0) ra_nil) (len_cons len_nil)))) (rss_cons (rs_never)
 rss_nil) rss_nil)
 rss_nil)
/-! are_places_of -/
def f_are_places_of : List PV → MH → R PV := runB
 (sSeq (sIf ((mOrT (mNotT (mTest (mIsi "tuple" (mVar 1)))) (mCmpT neD (mCallOp opLen (mCons (mVar 1) mNil)) (mCallOp opLen (mCons (mVar 0) mNil))))) (sSeq (sRet (mK (.bl false)))
 sNext) sNext)
 (sSeq (sRet (mCallOp opAll (mCons (mComp (mSrc (mVar 1)) (.nm 2) mYes ((mOrV (mCmp isD (mVar 2) (mK .non)) (mCall f_is_between (mCons (mVar 2) (mCons (mK (.int 0)) (mCons (mBin opSub (mK (.int 30)) (mK (.int 1))) mNil)))))) [2]) mNil)))
 sNext)) 3
theorem sc_are_places_of : FnScope ["row", "value", "place"] ["row", "value"] (defScope (top 14)) := ⟨rfl, rfl, rfl, by decide +kernel, rfl, by decide +kernel, by decide +kernel⟩
theorem pl_are_places_of : Plain (defArgs (top 14)) ["row", "value"] := ⟨rfl, rfl, rfl, rfl, rfl, by decide +kernel⟩
theorem ok_are_places_of {P : Program} {w : World} {K : PySem.W.Frag} {mg : Str → Option Value} {base : Heap} {f : Addr} {fd : FuncData} (F : FnP K "are_places_of" (top 14) f fd) (hm : mg "are_places_of" = some (.ref f)) (c_is_between : Cal P w K mg base 2 "is_between" ["value", "low", "high"] f_is_between) (b_isinstance : mg "isinstance" = none) (b_tuple : mg "tuple" = none) (b_len : mg "len" = none) (b_all : mg "all" = none) (c_MOST_TRACKS : ∃ t, mg "MOST_TRACKS" = some (.int 30 t)) : Cal P w K mg base 3 "are_places_of" ["row", "value"] f_are_places_of :=
  cal_of F hm sc_are_places_of pl_are_places_of fun cdv A outer s H E hr hg => have nd := sc_are_places_of.nd
 (rss_cons (rs_if (PW.pt (rw_or (rt_not (xtv (re_isi rfl b_isinstance boot_isinstance' rfl b_tuple boot_tuple' (xv 1)))) (rw_or1 (rt_cmp (cv_ne hr.units) (re_callB (cvn_len) q_len rfl b_len boot_len' (xa (xv 1) ra_nil)) (re_callB (cvn_len) q_len rfl b_len boot_len' (xa (xv 0) ra_nil)) (nomark _))))) (rss_cons (rs_ret (re_bl))
 rss_nil) rss_nil)
 (rss_cons (rs_ret (re_callB (cvn_all rfl) q_all rfl b_all boot_all' (xa (xlc [("place", 2)] rfl nd (ri_val (xv 1)) (blkOk_by (by kernel_rfl)) (by decide) (fun _ _ _ _ _ => ⟨(xgn nd), rts_nil, ((re_or (re_cmp (cv_is) (xv 2) (re_non) (nomark _)) (re_one (re_fn c_is_between hr hg takes0 (xa (xv 2) (xa (re_int) (xa (re_bin ov_sub q_sub (xgi c_MOST_TRACKS) (re_int)) ra_nil))) (len_cons (len_cons (len_cons len_nil)))))))⟩)) ra_nil)))
 rss_nil))
/-! crossed -/
def f_crossed : List PV → MH → R PV := runB
 (sSeq (sFor (mRange (mCons (mCallOp opLen (mCons (mVar 0) mNil)) mNil)) (.nm 2) (sSeq (sFor (mRange (mCons (mVar 2) mNil)) (.nm 3) (sSeq (sIf ((mAndT (mCmpT isNotD (mBin opIx (mVar 1) (mVar 3)) (mK .non)) (mAndT (mCmpT eqD (mBin opIx (mVar 1) (mVar 3)) (mBin opIx (mVar 1) (mVar 2))) (mCmpT gtD (mBin opIx (mVar 0) (mVar 3)) (mBin opIx (mVar 0) (mVar 2)))))) (sSeq (sRet (mTup (mCons (mVar 3) (mCons (mVar 2) mNil))))
 sNext) sNext)
 sNext))
 sNext))
 (sSeq (sRet (mK .non))
 sNext)) 4
theorem sc_crossed : FnScope ["row", "places", "other", "one"] ["row", "places"] (defScope (top 15)) := ⟨rfl, rfl, rfl, by decide +kernel, rfl, by decide +kernel, by decide +kernel⟩
theorem pl_crossed : Plain (defArgs (top 15)) ["row", "places"] := ⟨rfl, rfl, rfl, rfl, rfl, by decide +kernel⟩
theorem ok_crossed {P : Program} {w : World} {K : PySem.W.Frag} {mg : Str → Option Value} {base : Heap} {f : Addr} {fd : FuncData} (F : FnP K "crossed" (top 15) f fd) (hm : mg "crossed" = some (.ref f)) (b_len : mg "len" = none) (b_range : mg "range" = none) : Cal P w K mg base 1 "crossed" ["row", "places"] f_crossed :=
  cal_of F hm sc_crossed pl_crossed fun cdv A outer s H E hr hg => have nd := sc_crossed.nd
 (rss_cons (xfor (passes_of rfl) rfl (ri_range1 rfl b_range (xa (re_callB (cvn_len) q_len rfl b_len boot_len' (xa (xv 0) ra_nil)) ra_nil) rfl (len_cons len_nil)) (xgn nd) (rss_cons (xfor (passes_of rfl) rfl (ri_range1 rfl b_range (xa (xv 2) ra_nil) rfl (len_cons len_nil)) (xgn nd) (rss_cons (rs_if (PW.pt (rw_and (rt_cmp (cv_isNot) (xix (xv 1) (xv 3)) (re_non) (nomark _)) (rw_and (rt_cmp (cv_eq hr.units) (xix (xv 1) (xv 3)) (xix (xv 1) (xv 2)) (nomark _)) (rw_and1 (rt_cmp (cv_gt) (xix (xv 0) (xv 3)) (xix (xv 0) (xv 2)) (nomark _)))))) (rss_cons (rs_ret (re_tup (xa (xv 3) (xa (xv 2) ra_nil))))
 rss_nil) rss_nil)
 rss_nil))
 rss_nil))
 (rss_cons (rs_ret (re_non))
 rss_nil))
/-! are_right -/
def f_are_right : List PV → MH → R PV := runB
 (sSeq (sIf ((mOrT (mNotT (mTest (mCall f_are_places_of (mCons (mVar 0) (mCons (mVar 1) mNil))))) (mNotT (mTest (mCallOp opAll (mCons (mComp (mSrc (mVar 1)) (.nm 3) mYes ((mOrV (mCmp isD (mVar 3) (mK .non)) (mCmp ltD (mVar 3) (mVar 2)))) [3]) mNil)))))) (sSeq (sRet (mK (.bl false)))
 sNext) sNext)
 (sSeq (sRet (mCmp isD (mCall f_crossed (mCons (mVar 0) (mCons (mVar 1) mNil))) (mK .non)))
 sNext)) 4
theorem sc_are_right : FnScope ["row", "value", "many", "place"] ["row", "value", "many"] (defScope (top 16)) := ⟨rfl, rfl, rfl, by decide +kernel, rfl, by decide +kernel, by decide +kernel⟩
theorem pl_are_right : Plain (defArgs (top 16)) ["row", "value", "many"] := ⟨rfl, rfl, rfl, rfl, rfl, by decide +kernel⟩
theorem ok_are_right {P : Program} {w : World} {K : PySem.W.Frag} {mg : Str → Option Value} {base : Heap} {f : Addr} {fd : FuncData} (F : FnP K "are_right" (top 16) f fd) (hm : mg "are_right" = some (.ref f)) (c_are_places_of : Cal P w K mg base 3 "are_places_of" ["row", "value"] f_are_places_of) (c_crossed : Cal P w K mg base 3 "crossed" ["row", "places"] f_crossed) (b_all : mg "all" = none) : Cal P w K mg base 4 "are_right" ["row", "value", "many"] f_are_right :=
  cal_of F hm sc_are_right pl_are_right fun cdv A outer s H E hr hg => have nd := sc_are_right.nd
 (rss_cons (rs_if (PW.pt (rw_or (rt_not (xtv (re_fn c_are_places_of hr hg (takes_of rfl rfl rfl rfl) (xa (xv 0) (xa (xv 1) ra_nil)) (len_cons (len_cons len_nil))))) (rw_or1 (rt_not (xtv (re_callB (cvn_all rfl) q_all rfl b_all boot_all' (xa (xlc [("place", 3)] rfl nd (ri_val (xv 1)) (blkOk_by (by kernel_rfl)) (by decide) (fun _ _ _ _ _ => ⟨(xgn nd), rts_nil, ((re_or (re_cmp (cv_is) (xv 3) (re_non) (nomark _)) (re_one (re_cmp (cv_lt) (xv 3) (xv 2) (nomark _)))))⟩)) ra_nil))))))) (rss_cons (rs_ret (re_bl))
 rss_nil) rss_nil)
 (rss_cons (rs_ret (re_cmp (cv_is) (re_fn c_crossed hr hg (takes_of rfl rfl rfl rfl) (xa (xv 0) (xa (xv 1) ra_nil)) (len_cons (len_cons len_nil))) (re_non) (nomark _)))
 rss_nil))
/-! is_lot -/
def f_is_lot : List PV → MH → R PV := runB
 (sSeq (sIf ((mOrT (mNotT (mTest (mIsi "tuple" (mVar 1)))) (mNotT (mTest (mCallOp opAll (mCons (mComp (mSrc (mVar 1)) (.nm 2) mYes (mCall f_is_between (mCons (mVar 2) (mCons (mK (.int 0)) (mCons (mBin opSub (mCallOp opLen (mCons (mVar 0) mNil)) (mK (.int 1))) mNil)))) [2]) mNil)))))) (sSeq (sRet (mK (.bl false)))
 sNext) sNext)
 (sSeq (sAsg (mLstZip (mVar 1) (mSl (mVar 1) (mPart (mK (.int 1))) mNoPart)) (.nm 3))
 (sSeq (sRet (mCallOp opAll (mCons (mComp (mSrc (mVar 3)) (.tp (.cons (.nm 4) (.cons (.nm 5) .nil))) mYes ((mAndV (mCmp ltD (mVar 4) (mVar 5)) (mCmp gtD (mBin opIx (mVar 0) (mVar 4)) (mBin opIx (mVar 0) (mVar 5))))) [4, 5]) mNil)))
 sNext))) 6
theorem sc_is_lot : FnScope ["row", "value", "car", "pairs", "one", "other"] ["row", "value"] (defScope (top 17)) := ⟨rfl, rfl, rfl, by decide +kernel, rfl, by decide +kernel, by decide +kernel⟩
theorem pl_is_lot : Plain (defArgs (top 17)) ["row", "value"] := ⟨rfl, rfl, rfl, rfl, rfl, by decide +kernel⟩
theorem ok_is_lot {P : Program} {w : World} {K : PySem.W.Frag} {mg : Str → Option Value} {base : Heap} {f : Addr} {fd : FuncData} (F : FnP K "is_lot" (top 17) f fd) (hm : mg "is_lot" = some (.ref f)) (c_is_between : Cal P w K mg base 2 "is_between" ["value", "low", "high"] f_is_between) (b_isinstance : mg "isinstance" = none) (b_tuple : mg "tuple" = none) (b_len : mg "len" = none) (b_all : mg "all" = none) (b_list : mg "list" = none) (b_zip : mg "zip" = none) : Cal P w K mg base 3 "is_lot" ["row", "value"] f_is_lot :=
  cal_of F hm sc_is_lot pl_is_lot fun cdv A outer s H E hr hg => have nd := sc_is_lot.nd
 (rss_cons (rs_if (PW.pt (rw_or (rt_not (xtv (re_isi rfl b_isinstance boot_isinstance' rfl b_tuple boot_tuple' (xv 1)))) (rw_or1 (rt_not (xtv (re_callB (cvn_all rfl) q_all rfl b_all boot_all' (xa (xlc [("car", 2)] rfl nd (ri_val (xv 1)) (blkOk_by (by kernel_rfl)) (by decide) (fun _ _ _ _ _ => ⟨(xgn nd), rts_nil, (re_fn c_is_between hr hg takes0 (xa (xv 2) (xa (re_int) (xa (re_bin ov_sub q_sub (re_callB (cvn_len) q_len rfl b_len boot_len' (xa (xv 0) ra_nil)) (re_int)) ra_nil))) (len_cons (len_cons (len_cons len_nil))))⟩)) ra_nil))))))) (rss_cons (rs_ret (re_bl))
 rss_nil) rss_nil)
 (rss_cons (xset nd (re_lstZip rfl rfl b_list rfl b_zip (xv 1) (re_sl (xv 1) (ro_some (re_int)) ro_none)))
 (rss_cons (rs_ret (re_callB (cvn_all rfl) q_all rfl b_all boot_all' (xa (xlc [("one", 4), ("other", 5)] rfl nd (ri_val (xv 3)) (blkOk_by (by kernel_rfl)) (by decide) (fun _ _ _ _ _ => ⟨(xgt rfl (xgc (xgn nd) (xgc (xgn nd) rgs_nil))), rts_nil, ((re_and (re_cmp (cv_lt) (xv 4) (xv 5) (nomark _)) (re_one (re_cmp (cv_gt) (xix (xv 0) (xv 4)) (xix (xv 0) (xv 5)) (nomark _)))))⟩)) ra_nil)))
 rss_nil)))
/-! fitted -/
def f_fitted : List PV → MH → R PV := runB
 (sSeq (sPar 1 2 (mCons (mLst mNil) (mCons (mLst mNil) mNil)))
 (sSeq (sFor (mSrc (mVar 0)) (.nm 3) (sSeq (sAsg (mComp (mEnum (mCons (mVar 1) mNil)) (.tp (.cons (.nm 5) (.cons (.nm 6) .nil))) (mCmpT leD (mVar 6) (mVar 3)) (mVar 5) [5, 6]) (.nm 4))
 (sSeq (sAsg (mIf (mCmpT neD (mVar 4) (mLst mNil)) (mBin opIx (mVar 4) (mK (.int 0))) (mCallOp opLen (mCons (mVar 1) mNil))) (.nm 7))
 (sSeq (sAsg (mBin opAdd (mBin opAdd (mSl (mVar 1) mNoPart (mPart (mVar 7))) (mLst (mCons (mVar 3) mNil))) (mSl (mVar 1) (mPart (mBin opAdd (mVar 7) (mK (.int 1)))) mNoPart)) (.nm 1))
 (sSeq (sExpr (mMeth1 meAppend (mRecv (mVar 2)) (mVar 7)))
 sNext)))))
 (sSeq (sRet (mCallOp opTuple (mCons (mVar 2) mNil)))
 sNext))) 8
theorem sc_fitted : FnScope ["row", "tops", "places", "number", "free", "track", "top", "place"] ["row"] (defScope (top 18)) := ⟨rfl, rfl, rfl, by decide +kernel, rfl, by decide +kernel, by decide +kernel⟩
theorem pl_fitted : Plain (defArgs (top 18)) ["row"] := ⟨rfl, rfl, rfl, rfl, rfl, by decide +kernel⟩
theorem ok_fitted {P : Program} {w : World} {K : PySem.W.Frag} {mg : Str → Option Value} {base : Heap} {f : Addr} {fd : FuncData} (F : FnP K "fitted" (top 18) f fd) (hm : mg "fitted" = some (.ref f)) (b_enumerate : mg "enumerate" = none) (b_len : mg "len" = none) (b_tuple : mg "tuple" = none) : Cal P w K mg base 1 "fitted" ["row"] f_fitted :=
  cal_of F hm sc_fitted pl_fitted fun cdv A outer s H E hr hg => have nd := sc_fitted.nd
 (rss_cons (xpar rfl nd (xa (re_lst ra_nil) (xa (re_lst ra_nil) ra_nil)))
 (rss_cons (xfor (passes_of rfl) rfl (ri_val (xv 0)) (xgn nd) (rss_cons (xsetLc [("track", 5), ("top", 6)] rfl nd (ri_enum rfl b_enumerate (xa (xv 1) ra_nil) rfl) (blkOk_by (by kernel_rfl)) (by decide) (fun _ _ _ _ _ => ⟨(xgt rfl (xgc (xgn nd) (xgc (xgn nd) rgs_nil))), (rts_one (rt_cmp (cv_le) (xv 6) (xv 3) (nomark _))), (xv 5)⟩) (sw_true rfl rfl rfl (by decide +kernel)))
 (rss_cons (xset nd (re_if (rt_cmp (cv_ne hr.units) (xv 4) (re_lst ra_nil) (nomark _)) (xix (xv 4) (re_int)) (re_callB (cvn_len) q_len rfl b_len boot_len' (xa (xv 1) ra_nil))))
 (rss_cons (xset nd (re_bin ov_add q_add (re_bin ov_add q_add (re_sl (xv 1) ro_none (ro_some (xv 7))) (re_lst (xa (xv 3) ra_nil))) (re_sl (xv 1) (ro_some (re_bin ov_add q_add (xv 7) (re_int))) ro_none)))
 (rss_cons (xexpr (re_append (xv 2) (xv 7)))
 rss_nil)))))
 (rss_cons (rs_ret (re_callTy (cvn_tuple) q_tuple rfl b_tuple boot_tuple' (xa (xv 2) ra_nil)))
 rss_nil)))
/-! longest_lot -/
def f_longest_lot : List PV → MH → R PV := runB
 (sSeq (sPar 2 3 (mCons (mLst mNil) (mCons (mBin opMaxD (mVar 1) (mUn opNeg (mK (.int 1)))) mNil)))
 (sSeq (sFor (mRange (mCons (mBin opSub (mCallOp opLen (mCons (mVar 0) mNil)) (mK (.int 1))) (mCons (mUn opNeg (mK (.int 1))) (mCons (mUn opNeg (mK (.int 1))) mNil)))) (.nm 4) (sSeq (sIf ((mAndT (mCmpT eqD (mBin opIx (mVar 1) (mVar 4)) (mVar 3)) ((mOrT (mCmpT eqD (mVar 2) (mLst mNil)) (mCmpT gtD (mBin opIx (mVar 0) (mVar 4)) (mBin opIx (mVar 0) (mBin opIx (mVar 2) (mUn opNeg (mK (.int 1)))))))))) (sSeq (sExpr (mMeth1 meAppend (mRecv (mVar 2)) (mVar 4)))
 (sSeq (sAsg (mBin opSub (mVar 3) (mK (.int 1))) (.nm 3))
 sNext)) sNext)
 sNext))
 (sSeq (sRet (mCallOp opTuple (mCons (mRev (mVar 2)) mNil)))
 sNext))) 5
theorem sc_longest_lot : FnScope ["row", "places", "lot", "number", "car"] ["row", "places"] (defScope (top 19)) := ⟨rfl, rfl, rfl, by decide +kernel, rfl, by decide +kernel, by decide +kernel⟩
theorem pl_longest_lot : Plain (defArgs (top 19)) ["row", "places"] := ⟨rfl, rfl, rfl, rfl, rfl, by decide +kernel⟩
theorem ok_longest_lot {P : Program} {w : World} {K : PySem.W.Frag} {mg : Str → Option Value} {base : Heap} {f : Addr} {fd : FuncData} (F : FnP K "longest_lot" (top 19) f fd) (hm : mg "longest_lot" = some (.ref f)) (b_max : mg "max" = none) (b_len : mg "len" = none) (b_range : mg "range" = none) (b_tuple : mg "tuple" = none) : Cal P w K mg base 1 "longest_lot" ["row", "places"] f_longest_lot :=
  cal_of F hm sc_longest_lot pl_longest_lot fun cdv A outer s H E hr hg => have nd := sc_longest_lot.nd
 (rss_cons (xpar rfl nd (xa (re_lst ra_nil) (xa (re_callK1 (cvk_maxD rfl hr.units) q_maxD rfl b_max boot_max' (xv 1) (re_un uv_neg q_neg (re_int))) ra_nil)))
 (rss_cons (xfor (passes_of rfl) rfl (ri_range3 rfl b_range (xa (re_bin ov_sub q_sub (re_callB (cvn_len) q_len rfl b_len boot_len' (xa (xv 0) ra_nil)) (re_int)) (xa (re_un uv_neg q_neg (re_int)) (xa (re_un uv_neg q_neg (re_int)) ra_nil))) rfl rfl (len_cons (len_cons (len_cons len_nil)))) (xgn nd) (rss_cons (rs_if (PW.pt (rw_and (rt_cmp (cv_eq hr.units) (xix (xv 1) (xv 4)) (xv 3) (nomark _)) (rw_and1 (PW.pt (rw_or (rt_cmp (cv_eq hr.units) (xv 2) (re_lst ra_nil) (nomark _)) (rw_or1 (rt_cmp (cv_gt) (xix (xv 0) (xv 4)) (xix (xv 0) (xix (xv 2) (re_un uv_neg q_neg (re_int)))) (nomark _)))))))) (rss_cons (xexpr (re_append (xv 2) (xv 4)))
 (rss_cons (xset nd (re_bin ov_sub q_sub (xv 3) (re_int)))
 rss_nil)) rss_nil)
 rss_nil))
 (rss_cons (rs_ret (re_callTy (cvn_tuple) q_tuple rfl b_tuple boot_tuple' (xa (re_rev (xv 2)) ra_nil)))
 rss_nil)))
/-! fewest_tracks -/
def f_fewest_tracks : List PV → MH → R PV := runB
 (sSeq (sExpr (mCall f_check_row (mCons (mVar 0) mNil)))
 (sSeq (sAsg (mCall f_fitted (mCons (mVar 0) mNil)) (.nm 1))
 (sSeq (sRet (mTup (mCons (mBin opAdd (mBin opMaxD (mVar 1) (mUn opNeg (mK (.int 1)))) (mK (.int 1))) (mCons (mVar 1) (mCons (mCall f_longest_lot (mCons (mVar 0) (mCons (mVar 1) mNil))) mNil)))))
 sNext))) 2
theorem sc_fewest_tracks : FnScope ["row", "places"] ["row"] (defScope (top 20)) := ⟨rfl, rfl, rfl, by decide +kernel, rfl, by decide +kernel, by decide +kernel⟩
theorem pl_fewest_tracks : Plain (defArgs (top 20)) ["row"] := ⟨rfl, rfl, rfl, rfl, rfl, by decide +kernel⟩
theorem ok_fewest_tracks {P : Program} {w : World} {K : PySem.W.Frag} {mg : Str → Option Value} {base : Heap} {f : Addr} {fd : FuncData} (F : FnP K "fewest_tracks" (top 20) f fd) (hm : mg "fewest_tracks" = some (.ref f)) (c_check_row : Cal P w K mg base 4 "check_row" ["value"] f_check_row) (c_fitted : Cal P w K mg base 4 "fitted" ["row"] f_fitted) (c_longest_lot : Cal P w K mg base 4 "longest_lot" ["row", "places"] f_longest_lot) (b_max : mg "max" = none) : Cal P w K mg base 5 "fewest_tracks" ["row"] f_fewest_tracks :=
  cal_of F hm sc_fewest_tracks pl_fewest_tracks fun cdv A outer s H E hr hg => have nd := sc_fewest_tracks.nd
 (rss_cons (xexpr (re_fn c_check_row hr hg (takes_of rfl rfl rfl rfl) (xa (xv 0) ra_nil) (len_cons len_nil)))
 (rss_cons (xset nd (re_fn c_fitted hr hg (takes_of rfl rfl rfl rfl) (xa (xv 0) ra_nil) (len_cons len_nil)))
 (rss_cons (rs_ret (re_tup (xa (re_bin ov_add q_add (re_callK1 (cvk_maxD rfl hr.units) q_maxD rfl b_max boot_max' (xv 1) (re_un uv_neg q_neg (re_int))) (re_int)) (xa (xv 1) (xa (re_fn c_longest_lot hr hg (takes_of rfl rfl rfl rfl) (xa (xv 0) (xa (xv 1) ra_nil)) (len_cons (len_cons len_nil))) ra_nil)))))
 rss_nil)))
/-! shows_fewest_tracks -/
def f_shows_fewest_tracks : List PV → MH → R PV := runB
 (sSeq (sExpr (mCall f_check_row (mCons (mVar 0) mNil)))
 (sSeq (sIf ((mOrT (mNotT (mTest (mIsi "tuple" (mVar 1)))) (mOrT (mCmpT neD (mCallOp opLen (mCons (mVar 1) mNil)) (mK (.int 3))) (mNotT (mTest (mCall f_is_integer (mCons (mBin opIx (mVar 1) (mK (.int 0))) mNil))))))) (sSeq (sRet (mK (.bl false)))
 sNext) sNext)
 (sSeq (sAsg (mVar 1) (.tp (.cons (.nm 2) (.cons (.nm 3) (.cons (.nm 4) .nil)))))
 (sSeq (sIf ((mOrT (mNotT (mTest (mCall f_are_right (mCons (mVar 0) (mCons (mVar 3) (mCons (mVar 2) mNil)))))) (mCmpT inD (mK .non) (mVar 3)))) (sSeq (sRet (mK (.bl false)))
 sNext) sNext)
 (sSeq (sRet ((mAndV (mCall f_is_lot (mCons (mVar 0) (mCons (mVar 4) mNil))) (mCmp eqD (mCallOp opLen (mCons (mVar 4) mNil)) (mVar 2)))))
 sNext))))) 5
theorem sc_shows_fewest_tracks : FnScope ["row", "value", "number", "places", "lot"] ["row", "value"] (defScope (top 21)) := ⟨rfl, rfl, rfl, by decide +kernel, rfl, by decide +kernel, by decide +kernel⟩
theorem pl_shows_fewest_tracks : Plain (defArgs (top 21)) ["row", "value"] := ⟨rfl, rfl, rfl, rfl, rfl, by decide +kernel⟩
theorem ok_shows_fewest_tracks {P : Program} {w : World} {K : PySem.W.Frag} {mg : Str → Option Value} {base : Heap} {f : Addr} {fd : FuncData} (F : FnP K "shows_fewest_tracks" (top 21) f fd) (hm : mg "shows_fewest_tracks" = some (.ref f)) (c_check_row : Cal P w K mg base 4 "check_row" ["value"] f_check_row) (c_is_integer : Cal P w K mg base 4 "is_integer" ["value"] f_is_integer) (c_are_right : Cal P w K mg base 4 "are_right" ["row", "value", "many"] f_are_right) (c_is_lot : Cal P w K mg base 4 "is_lot" ["row", "value"] f_is_lot) (b_isinstance : mg "isinstance" = none) (b_tuple : mg "tuple" = none) (b_len : mg "len" = none) (c_THREE : ∃ t, mg "THREE" = some (.int 3 t)) : Cal P w K mg base 5 "shows_fewest_tracks" ["row", "value"] f_shows_fewest_tracks :=
  cal_of F hm sc_shows_fewest_tracks pl_shows_fewest_tracks fun cdv A outer s H E hr hg => have nd := sc_shows_fewest_tracks.nd
 (rss_cons (xexpr (re_fn c_check_row hr hg (takes_of rfl rfl rfl rfl) (xa (xv 0) ra_nil) (len_cons len_nil)))
 (rss_cons (rs_if (PW.pt (rw_or (rt_not (xtv (re_isi rfl b_isinstance boot_isinstance' rfl b_tuple boot_tuple' (xv 1)))) (rw_or (rt_cmp (cv_ne hr.units) (re_callB (cvn_len) q_len rfl b_len boot_len' (xa (xv 1) ra_nil)) (xgi c_THREE) (nomark _)) (rw_or1 (rt_not (xtv (re_fn c_is_integer hr hg (takes_of rfl rfl rfl rfl) (xa (xix (xv 1) (re_int)) ra_nil) (len_cons len_nil)))))))) (rss_cons (rs_ret (re_bl))
 rss_nil) rss_nil)
 (rss_cons (xasg (xv 1) (xgt rfl (xgc (xgn nd) (xgc (xgn nd) (xgc (xgn nd) rgs_nil)))))
 (rss_cons (rs_if (PW.pt (rw_or (rt_not (xtv (re_fn c_are_right hr hg (takes_of rfl rfl rfl rfl) (xa (xv 0) (xa (xv 3) (xa (xv 2) ra_nil))) (len_cons (len_cons (len_cons len_nil)))))) (rw_or1 (rt_cmp (cv_in) (re_non) (xv 3) (by with_unfolding_all rfl))))) (rss_cons (rs_ret (re_bl))
 rss_nil) rss_nil)
 (rss_cons (rs_ret ((re_and (re_fn c_is_lot hr hg (takes_of rfl rfl rfl rfl) (xa (xv 0) (xa (xv 4) ra_nil)) (len_cons (len_cons len_nil))) (re_one (re_cmp (cv_eq hr.units) (re_callB (cvn_len) q_len rfl b_len boot_len' (xa (xv 4) ra_nil)) (xv 2) (nomark _))))))
 rss_nil)))))
/-! _law_pot -/
def f__law_pot : List PV → MH → R PV := runB
 (sSeq (sAsg (mIf (mCmpT ltD (mVar 1) (mCallOp opLen (mCons (mVar 0) mNil))) (mBin opIx (mVar 0) (mVar 1)) (mBin opAdd (mBin opMul (mK (.int 431)) (mVar 1)) (mK (.int 281)))) (.nm 2))
 (sSeq (sAsg (mBin opMul (mBin opMod (mCallOp opInt (mCons (mCallOp opAbs (mCons (mVar 2) mNil)) mNil)) (mBin opPow (mBin opPow (mK (.int 10)) (mK (.int 60))) (mK (.int 5)))) (mCallOp opInt (mCons (mCmp geD (mCallOp opAbs (mCons (mVar 2) mNil)) (mBin opPow (mK (.int 10)) (mK (.int 18)))) mNil))) (.nm 3))
 (sSeq (sAsg (mBin opMod (mCallOp opInt (mCons (mVar 2) mNil)) (mK (.int 2305843009213693951))) (.nm 4))
 (sSeq (sRet (mLst (mCons (mVar 3) (mCons (mBin opMod (mCallOp opInt (mCons (mBin opAdd (mBin opAdd (mBin opMul (mVar 4) (mK (.int 86711))) (mBin opMul (mBin opMul (mK (.int 8191)) (mVar 1)) (mVar 1))) (mK (.int 389))) mNil)) (mK (.int 2305843009213693921))) (mCons (mK (.int 0)) mNil)))))
 sNext)))) 5
theorem sc__law_pot : FnScope ["script", "place", "cell", "own", "small"] ["script", "place"] (defScope (top 23)) := ⟨rfl, rfl, rfl, by decide +kernel, rfl, by decide +kernel, by decide +kernel⟩
theorem pl__law_pot : Plain (defArgs (top 23)) ["script", "place"] := ⟨rfl, rfl, rfl, rfl, rfl, by decide +kernel⟩
theorem ok__law_pot {P : Program} {w : World} {K : PySem.W.Frag} {mg : Str → Option Value} {base : Heap} {f : Addr} {fd : FuncData} (F : FnP K "_law_pot" (top 23) f fd) (hm : mg "_law_pot" = some (.ref f)) (b_len : mg "len" = none) (b_abs : mg "abs" = none) (b_int : mg "int" = none) : Cal P w K mg base 1 "_law_pot" ["script", "place"] f__law_pot :=
  cal_of F hm sc__law_pot pl__law_pot fun cdv A outer s H E hr hg => have nd := sc__law_pot.nd
 (rss_cons (xset nd (re_if (rt_cmp (cv_lt) (xv 1) (re_callB (cvn_len) q_len rfl b_len boot_len' (xa (xv 0) ra_nil)) (nomark _)) (xix (xv 0) (xv 1)) (re_bin ov_add q_add (re_bin ov_mul q_mul (re_int) (xv 1)) (re_int))))
 (rss_cons (xset nd (re_bin ov_mul q_mul (re_bin ov_mod q_mod (re_callTy (cvn_int) q_int rfl b_int boot_int' (xa (re_callB (cvn_abs) q_abs rfl b_abs boot_abs' (xa (xv 2) ra_nil)) ra_nil)) (re_bin ov_pow q_pow (re_bin ov_pow q_pow (re_int) (re_int)) (re_int))) (re_callTy (cvn_int) q_int rfl b_int boot_int' (xa (re_cmp (cv_ge) (re_callB (cvn_abs) q_abs rfl b_abs boot_abs' (xa (xv 2) ra_nil)) (re_bin ov_pow q_pow (re_int) (re_int)) (nomark _)) ra_nil))))
 (rss_cons (xset nd (re_bin ov_mod q_mod (re_callTy (cvn_int) q_int rfl b_int boot_int' (xa (xv 2) ra_nil)) (re_int)))
 (rss_cons (rs_ret (re_lst (xa (xv 3) (xa (re_bin ov_mod q_mod (re_callTy (cvn_int) q_int rfl b_int boot_int' (xa (re_bin ov_add q_add (re_bin ov_add q_add (re_bin ov_mul q_mul (xv 4) (re_int)) (re_bin ov_mul q_mul (re_bin ov_mul q_mul (re_int) (xv 1)) (xv 1))) (re_int)) ra_nil)) (re_int)) (xa (re_int) ra_nil)))))
 rss_nil))))
/-! _law_take -/
def f__law_take : List PV → MH → R PV := runB
 (sSeq (sIf (mCmpT gtD (mBin opIx (mVar 0) (mK (.int 0))) (mK (.int 0))) (sSeq (sAsg (mBin opMod (mCallOp opInt (mCons (mBin opIx (mVar 0) (mK (.int 0))) mNil)) (mVar 1)) (.nm 2))
 (sSeq (sStore (mBin opDiv (mBin opIx (mVar 0) (mK (.int 0))) (mVar 1)) (mVar 0) (mK (.int 0)))
 (sSeq (sRet (mVar 2))
 sNext))) sNext)
 (sSeq (sStore (mBin opAdd (mBin opIx (mVar 0) (mK (.int 2))) (mK (.int 1))) (mVar 0) (mK (.int 2)))
 (sSeq (sAsg (mBin opIx (mLst (mCons (mK (.int 2147483647)) (mCons (mK (.int 2147483629)) (mCons (mK (.int 2147483587)) (mCons (mK (.int 2147483579)) (mCons (mK (.int 2147483563)) mNil)))))) (mBin opMod (mCallOp opInt (mCons (mBin opIx (mVar 0) (mK (.int 2))) mNil)) (mK (.int 5)))) (.nm 3))
 (sSeq (sAsg (mBin opMod (mCallOp opInt (mCons (mBin opPow (mCallOp opInt (mCons (mBin opAdd (mBin opAdd (mBin opIx (mVar 0) (mK (.int 1))) (mBin opMul (mBin opMul (mK (.int 99367)) (mBin opIx (mVar 0) (mK (.int 2)))) (mBin opIx (mVar 0) (mK (.int 2))))) (mK (.int 419))) mNil)) (mK (.int 3))) mNil)) (mVar 3)) (.nm 4))
 (sSeq (sAsg (mBin opMod (mCallOp opInt (mCons (mBin opMul (mVar 4) (mBin opAdd (mBin opMod (mCallOp opInt (mCons (mVar 4) mNil)) (mK (.int 10335))) (mBin opMul (mK (.int 165)) (mBin opIx (mVar 0) (mK (.int 2)))))) mNil)) (mK (.int 2305843009213693907))) (.nm 4))
 (sSeq (sRet (mBin opMod (mCallOp opInt (mCons (mBin opDiv (mVar 4) (mK (.int 155))) mNil)) (mVar 1)))
 sNext)))))) 5
theorem sc__law_take : FnScope ["pot", "upto", "digit", "prime", "blend"] ["pot", "upto"] (defScope (top 24)) := ⟨rfl, rfl, rfl, by decide +kernel, rfl, by decide +kernel, by decide +kernel⟩
theorem pl__law_take : Plain (defArgs (top 24)) ["pot", "upto"] := ⟨rfl, rfl, rfl, rfl, rfl, by decide +kernel⟩
theorem ok__law_take {P : Program} {w : World} {K : PySem.W.Frag} {mg : Str → Option Value} {base : Heap} {f : Addr} {fd : FuncData} (F : FnP K "_law_take" (top 24) f fd) (hm : mg "_law_take" = some (.ref f)) (b_int : mg "int" = none) : Cal P w K mg base 1 "_law_take" ["pot", "upto"] f__law_take :=
  cal_of F hm sc__law_take pl__law_take fun cdv A outer s H E hr hg => have nd := sc__law_take.nd
 (rss_cons (rs_if (rt_cmp (cv_gt) (xix (xv 0) (re_int)) (re_int) (nomark _)) (rss_cons (xset nd (re_bin ov_mod q_mod (re_callTy (cvn_int) q_int rfl b_int boot_int' (xa (xix (xv 0) (re_int)) ra_nil)) (xv 1)))
 (rss_cons (rs_store (re_bin ov_div q_div (xix (xv 0) (re_int)) (xv 1)) (xv 0) (re_int) (still_var 0) (still_k _))
 (rss_cons (rs_ret (xv 2))
 rss_nil))) rss_nil)
 (rss_cons (rs_store (re_bin ov_add q_add (xix (xv 0) (re_int)) (re_int)) (xv 0) (re_int) (still_var 0) (still_k _))
 (rss_cons (xset nd (xix (re_lst (xa (re_int) (xa (re_int) (xa (re_int) (xa (re_int) (xa (re_int) ra_nil)))))) (re_bin ov_mod q_mod (re_callTy (cvn_int) q_int rfl b_int boot_int' (xa (xix (xv 0) (re_int)) ra_nil)) (re_int))))
 (rss_cons (xset nd (re_bin ov_mod q_mod (re_callTy (cvn_int) q_int rfl b_int boot_int' (xa (re_bin ov_pow q_pow (re_callTy (cvn_int) q_int rfl b_int boot_int' (xa (re_bin ov_add q_add (re_bin ov_add q_add (xix (xv 0) (re_int)) (re_bin ov_mul q_mul (re_bin ov_mul q_mul (re_int) (xix (xv 0) (re_int))) (xix (xv 0) (re_int)))) (re_int)) ra_nil)) (re_int)) ra_nil)) (xv 3)))
 (rss_cons (xset nd (re_bin ov_mod q_mod (re_callTy (cvn_int) q_int rfl b_int boot_int' (xa (re_bin ov_mul q_mul (xv 4) (re_bin ov_add q_add (re_bin ov_mod q_mod (re_callTy (cvn_int) q_int rfl b_int boot_int' (xa (xv 4) ra_nil)) (re_int)) (re_bin ov_mul q_mul (re_int) (xix (xv 0) (re_int))))) ra_nil)) (re_int)))
 (rss_cons (rs_ret (re_bin ov_mod q_mod (re_callTy (cvn_int) q_int rfl b_int boot_int' (xa (re_bin ov_div q_div (xv 4) (re_int)) ra_nil)) (xv 1)))
 rss_nil))))))
/-! _law_of -/
def f__law_of : List PV → MH → R PV := runB
 (sSeq (sRet (mBin opIx (mVar 1) (mCall f__law_take (mCons (mVar 0) (mCons (mCallOp opLen (mCons (mVar 1) mNil)) mNil)))))
 sNext) 2
theorem sc__law_of : FnScope ["pot", "some"] ["pot", "some"] (defScope (top 25)) := ⟨rfl, rfl, rfl, by decide +kernel, rfl, by decide +kernel, by decide +kernel⟩
theorem pl__law_of : Plain (defArgs (top 25)) ["pot", "some"] := ⟨rfl, rfl, rfl, rfl, rfl, by decide +kernel⟩
theorem ok__law_of {P : Program} {w : World} {K : PySem.W.Frag} {mg : Str → Option Value} {base : Heap} {f : Addr} {fd : FuncData} (F : FnP K "_law_of" (top 25) f fd) (hm : mg "_law_of" = some (.ref f)) (c__law_take : Cal P w K mg base 1 "_law_take" ["pot", "upto"] f__law_take) (b_len : mg "len" = none) : Cal P w K mg base 2 "_law_of" ["pot", "some"] f__law_of :=
  cal_of F hm sc__law_of pl__law_of fun cdv A outer s H E hr hg => have nd := sc__law_of.nd
 (rss_cons (rs_ret (xix (xv 1) (re_fn c__law_take hr hg (takes_of rfl rfl rfl rfl) (xa (xv 0) (xa (re_callB (cvn_len) q_len rfl b_len boot_len' (xa (xv 1) ra_nil)) ra_nil)) (len_cons (len_cons len_nil)))))
 rss_nil)
/-! _law_cells -/
def f__law_cells : List PV → MH → R PV := runB
 (sSeq (sRet (mRg1 rgList (mCallOp opMaxA (mCons (mK (.int 1)) (mCons (mCallOp opMinA (mCons (mVar 1) (mCons (mCallOp opLen (mCons (mVar 0) mNil)) mNil))) mNil)))))
 sNext) 2
theorem sc__law_cells : FnScope ["script", "limit"] ["script", "limit"] (defScope (top 26)) := ⟨rfl, rfl, rfl, by decide +kernel, rfl, by decide +kernel, by decide +kernel⟩
theorem pl__law_cells : Plain (defArgs (top 26)) ["script", "limit"] := ⟨rfl, rfl, rfl, rfl, rfl, by decide +kernel⟩
theorem ok__law_cells {P : Program} {w : World} {K : PySem.W.Frag} {mg : Str → Option Value} {base : Heap} {f : Addr} {fd : FuncData} (F : FnP K "_law_cells" (top 26) f fd) (hm : mg "_law_cells" = some (.ref f)) (b_len : mg "len" = none) (b_min : mg "min" = none) (b_max : mg "max" = none) (b_list : mg "list" = none) (b_range : mg "range" = none) : Cal P w K mg base 1 "_law_cells" ["script", "limit"] f__law_cells :=
  cal_of F hm sc__law_cells pl__law_cells fun cdv A outer s H E hr hg => have nd := sc__law_cells.nd
 (rss_cons (rs_ret (re_lstRg1 rfl rfl b_list rfl b_range (re_callB (cvn_maxA rfl hr.units) q_maxA rfl b_max boot_max' (xa (re_int) (xa (re_callB (cvn_minA rfl hr.units) q_minA rfl b_min boot_min' (xa (xv 1) (xa (re_callB (cvn_len) q_len rfl b_len boot_len' (xa (xv 0) ra_nil)) ra_nil))) ra_nil)))))
 rss_nil)
/-! _law_row -/
def f__law_row : List PV → MH → R PV := runB
 (sSeq (sRet (mCallOp opTuple (mCons (mComp (mRange (mCons (mCall f__law_take (mCons (mVar 0) (mCons (mBin opAdd (mVar 1) (mK (.int 1))) mNil))) mNil)) (.nm 3) mYes (mBin opAdd (mK (.int 1)) (mCall f__law_take (mCons (mVar 0) (mCons (mVar 2) mNil)))) [3]) mNil)))
 sNext) 4
theorem sc__law_row : FnScope ["pot", "most", "wide", "lap"] ["pot", "most", "wide"] (defScope (top 27)) := ⟨rfl, rfl, rfl, by decide +kernel, rfl, by decide +kernel, by decide +kernel⟩
theorem pl__law_row : Plain (defArgs (top 27)) ["pot", "most", "wide"] := ⟨rfl, rfl, rfl, rfl, rfl, by decide +kernel⟩
theorem ok__law_row {P : Program} {w : World} {K : PySem.W.Frag} {mg : Str → Option Value} {base : Heap} {f : Addr} {fd : FuncData} (F : FnP K "_law_row" (top 27) f fd) (hm : mg "_law_row" = some (.ref f)) (c__law_take : Cal P w K mg base 1 "_law_take" ["pot", "upto"] f__law_take) (b_range : mg "range" = none) (b_tuple : mg "tuple" = none) : Cal P w K mg base 2 "_law_row" ["pot", "most", "wide"] f__law_row :=
  cal_of F hm sc__law_row pl__law_row fun cdv A outer s H E hr hg => have nd := sc__law_row.nd
 (rss_cons (rs_ret (re_callTy (cvn_tuple) q_tuple rfl b_tuple boot_tuple' (xa (xlc [("lap", 3)] rfl nd (ri_range1 rfl b_range (xa (re_fn c__law_take hr hg (takes_of rfl rfl rfl rfl) (xa (xv 0) (xa (re_bin ov_add q_add (xv 1) (re_int)) ra_nil)) (len_cons (len_cons len_nil))) ra_nil) rfl (len_cons len_nil)) (blkOk_by (by kernel_rfl)) (by decide) (fun _ _ _ _ _ => ⟨(xgn nd), rts_nil, (re_bin ov_add q_add (re_int) (re_fn c__law_take hr hg takes0 (xa (xv 0) (xa (xv 2) ra_nil)) (len_cons (len_cons len_nil))))⟩)) ra_nil)))
 rss_nil)
/-! _law_lots -/
def f__law_lots : List PV → MH → R PV := runB
 (sSeq (sAsg (mLst (mCons (mTup mNil) mNil)) (.nm 1))
 (sSeq (sFor (mRange (mCons (mVar 0) mNil)) (.nm 2) (sSeq (sAsg (mBin opAdd (mVar 1) (mComp (mSrc (mVar 1)) (.nm 3) mYes (mBin opAdd (mVar 3) (mTup (mCons (mVar 2) mNil))) [3])) (.nm 1))
 sNext))
 (sSeq (sRet (mVar 1))
 sNext))) 4
theorem sc__law_lots : FnScope ["many", "found", "at", "lot"] ["many"] (defScope (top 28)) := ⟨rfl, rfl, rfl, by decide +kernel, rfl, by decide +kernel, by decide +kernel⟩
theorem pl__law_lots : Plain (defArgs (top 28)) ["many"] := ⟨rfl, rfl, rfl, rfl, rfl, by decide +kernel⟩
theorem ok__law_lots {P : Program} {w : World} {K : PySem.W.Frag} {mg : Str → Option Value} {base : Heap} {f : Addr} {fd : FuncData} (F : FnP K "_law_lots" (top 28) f fd) (hm : mg "_law_lots" = some (.ref f)) (b_range : mg "range" = none) : Cal P w K mg base 1 "_law_lots" ["many"] f__law_lots :=
  cal_of F hm sc__law_lots pl__law_lots fun cdv A outer s H E hr hg => have nd := sc__law_lots.nd
 (rss_cons (xset nd (re_lst (xa (re_tup ra_nil) ra_nil)))
 (rss_cons (xfor (passes_of rfl) rfl (ri_range1 rfl b_range (xa (xv 0) ra_nil) rfl (len_cons len_nil)) (xgn nd) (rss_cons (xset nd (re_bin ov_add q_add (xv 1) (xlc [("lot", 3)] rfl nd (ri_val (xv 1)) (blkOk_by (by kernel_rfl)) (by decide) (fun _ _ _ _ _ => ⟨(xgn nd), rts_nil, (re_bin ov_add q_add (xv 3) (re_tup (xa (xv 2) ra_nil)))⟩))))
 rss_nil))
 (rss_cons (rs_ret (xv 1))
 rss_nil)))
/-! _law_do_cross -/
def f__law_do_cross : List PV → MH → R PV := runB
 (sSeq (sRet (mCallOp opAll (mCons (mComp (mZip (mCons (mVar 1) (mCons (mSl (mVar 1) (mPart (mK (.int 1))) mNoPart) mNil))) (.tp (.cons (.nm 2) (.cons (.nm 3) .nil))) mYes (mCmp gtD (mBin opIx (mVar 0) (mVar 2)) (mBin opIx (mVar 0) (mVar 3))) [2, 3]) mNil)))
 sNext) 4
theorem sc__law_do_cross : FnScope ["row", "lot", "one", "other"] ["row", "lot"] (defScope (top 29)) := ⟨rfl, rfl, rfl, by decide +kernel, rfl, by decide +kernel, by decide +kernel⟩
theorem pl__law_do_cross : Plain (defArgs (top 29)) ["row", "lot"] := ⟨rfl, rfl, rfl, rfl, rfl, by decide +kernel⟩
theorem ok__law_do_cross {P : Program} {w : World} {K : PySem.W.Frag} {mg : Str → Option Value} {base : Heap} {f : Addr} {fd : FuncData} (F : FnP K "_law_do_cross" (top 29) f fd) (hm : mg "_law_do_cross" = some (.ref f)) (b_zip : mg "zip" = none) (b_all : mg "all" = none) : Cal P w K mg base 1 "_law_do_cross" ["row", "lot"] f__law_do_cross :=
  cal_of F hm sc__law_do_cross pl__law_do_cross fun cdv A outer s H E hr hg => have nd := sc__law_do_cross.nd
 (rss_cons (rs_ret (re_callB (cvn_all rfl) q_all rfl b_all boot_all' (xa (xlc [("one", 2), ("other", 3)] rfl nd (ri_zip rfl b_zip (xa (xv 1) (xa (re_sl (xv 1) (ro_some (re_int)) ro_none) ra_nil)) rfl rfl) (blkOk_by (by kernel_rfl)) (by decide) (fun _ _ _ _ _ => ⟨(xgt rfl (xgc (xgn nd) (xgc (xgn nd) rgs_nil))), rts_nil, (re_cmp (cv_gt) (xix (xv 0) (xv 2)) (xix (xv 0) (xv 3)) (nomark _))⟩)) ra_nil)))
 rss_nil)
/-! _law_can_stand -/
def f__law_can_stand : List PV → MH → R PV := runB
 (sSeq (sRet (mCallOp opAll (mCons (mComp (mZip (mCons (mVar 1) (mCons (mSl (mVar 1) (mPart (mK (.int 1))) mNoPart) mNil))) (.tp (.cons (.nm 2) (.cons (.nm 3) .nil))) mYes (mCmp leD (mBin opIx (mVar 0) (mVar 2)) (mBin opIx (mVar 0) (mVar 3))) [2, 3]) mNil)))
 sNext) 4
theorem sc__law_can_stand : FnScope ["row", "lot", "one", "other"] ["row", "lot"] (defScope (top 30)) := ⟨rfl, rfl, rfl, by decide +kernel, rfl, by decide +kernel, by decide +kernel⟩
theorem pl__law_can_stand : Plain (defArgs (top 30)) ["row", "lot"] := ⟨rfl, rfl, rfl, rfl, rfl, by decide +kernel⟩
theorem ok__law_can_stand {P : Program} {w : World} {K : PySem.W.Frag} {mg : Str → Option Value} {base : Heap} {f : Addr} {fd : FuncData} (F : FnP K "_law_can_stand" (top 30) f fd) (hm : mg "_law_can_stand" = some (.ref f)) (b_zip : mg "zip" = none) (b_all : mg "all" = none) : Cal P w K mg base 1 "_law_can_stand" ["row", "lot"] f__law_can_stand :=
  cal_of F hm sc__law_can_stand pl__law_can_stand fun cdv A outer s H E hr hg => have nd := sc__law_can_stand.nd
 (rss_cons (rs_ret (re_callB (cvn_all rfl) q_all rfl b_all boot_all' (xa (xlc [("one", 2), ("other", 3)] rfl nd (ri_zip rfl b_zip (xa (xv 1) (xa (re_sl (xv 1) (ro_some (re_int)) ro_none) ra_nil)) rfl rfl) (blkOk_by (by kernel_rfl)) (by decide) (fun _ _ _ _ _ => ⟨(xgt rfl (xgc (xgn nd) (xgc (xgn nd) rgs_nil))), rts_nil, (re_cmp (cv_le) (xix (xv 0) (xv 2)) (xix (xv 0) (xv 3)) (nomark _))⟩)) ra_nil)))
 rss_nil)
/-! _law_is_int -/
def f__law_is_int : List PV → MH → R PV := runB
 (sSeq (sRet ((mAndV (mIsi "int" (mVar 0)) (mAndV (mNotV (mIsi "bool" (mVar 0))) (mBl (mChain leD leD (mVar 1) (mVar 0) (mVar 2)))))))
 sNext) 3
theorem sc__law_is_int : FnScope ["value", "low", "high"] ["value", "low", "high"] (defScope (top 31)) := ⟨rfl, rfl, rfl, by decide +kernel, rfl, by decide +kernel, by decide +kernel⟩
theorem pl__law_is_int : Plain (defArgs (top 31)) ["value", "low", "high"] := ⟨rfl, rfl, rfl, rfl, rfl, by decide +kernel⟩
theorem ok__law_is_int {P : Program} {w : World} {K : PySem.W.Frag} {mg : Str → Option Value} {base : Heap} {f : Addr} {fd : FuncData} (F : FnP K "_law_is_int" (top 31) f fd) (hm : mg "_law_is_int" = some (.ref f)) (b_isinstance : mg "isinstance" = none) (b_int : mg "int" = none) (b_bool : mg "bool" = none) : Cal P w K mg base 1 "_law_is_int" ["value", "low", "high"] f__law_is_int :=
  cal_of F hm sc__law_is_int pl__law_is_int fun cdv A outer s H E hr hg => have nd := sc__law_is_int.nd
 (rss_cons (rs_ret ((re_and (re_isi rfl b_isinstance boot_isinstance' rfl b_int boot_int' (xv 0)) (re_and (re_not (re_isi rfl b_isinstance boot_isinstance' rfl b_bool boot_bool' (xv 0))) (re_one (re_chain (cv_le) (cv_le) (xv 1) (xv 0) (xv 2) (by with_unfolding_all rfl)))))))
 rss_nil)
/-! _law_are_places -/
def f__law_are_places : List PV → MH → R PV := runB
 (sSeq (sIf ((mOrT (mNotT (mTest (mIsi "tuple" (mVar 1)))) (mCmpT neD (mCallOp opLen (mCons (mVar 1) mNil)) (mCallOp opLen (mCons (mVar 0) mNil))))) (sSeq (sRet (mK (.bl false)))
 sNext) sNext)
 (sSeq (sIf (mNotT (mTest (mCallOp opAll (mCons (mComp (mSrc (mVar 1)) (.nm 3) mYes ((mOrV (mCmp isD (mVar 3) (mK .non)) (mCall f__law_is_int (mCons (mVar 3) (mCons (mK (.int 0)) (mCons (mBin opSub (mVar 2) (mK (.int 1))) mNil)))))) [3]) mNil)))) (sSeq (sRet (mK (.bl false)))
 sNext) sNext)
 (sSeq (sRet (mCallOp opAll (mCons (mComp (mRange (mCons (mVar 2) mNil)) (.nm 5) mYes (mCall f__law_can_stand (mCons (mVar 0) (mCons (mComp (mRange (mCons (mCallOp opLen (mCons (mVar 0) mNil)) mNil)) (.nm 4) (mCmpT eqD (mBin opIx (mVar 1) (mVar 4)) (mVar 5)) (mVar 4) [4]) mNil))) [5]) mNil)))
 sNext))) 6
theorem sc__law_are_places : FnScope ["row", "value", "many", "place", "car", "track"] ["row", "value", "many"] (defScope (top 32)) := ⟨rfl, rfl, rfl, by decide +kernel, rfl, by decide +kernel, by decide +kernel⟩
theorem pl__law_are_places : Plain (defArgs (top 32)) ["row", "value", "many"] := ⟨rfl, rfl, rfl, rfl, rfl, by decide +kernel⟩
theorem ok__law_are_places {P : Program} {w : World} {K : PySem.W.Frag} {mg : Str → Option Value} {base : Heap} {f : Addr} {fd : FuncData} (F : FnP K "_law_are_places" (top 32) f fd) (hm : mg "_law_are_places" = some (.ref f)) (c__law_is_int : Cal P w K mg base 1 "_law_is_int" ["value", "low", "high"] f__law_is_int) (c__law_can_stand : Cal P w K mg base 1 "_law_can_stand" ["row", "lot"] f__law_can_stand) (b_isinstance : mg "isinstance" = none) (b_tuple : mg "tuple" = none) (b_len : mg "len" = none) (b_all : mg "all" = none) (b_range : mg "range" = none) : Cal P w K mg base 2 "_law_are_places" ["row", "value", "many"] f__law_are_places :=
  cal_of F hm sc__law_are_places pl__law_are_places fun cdv A outer s H E hr hg => have nd := sc__law_are_places.nd
 (rss_cons (rs_if (PW.pt (rw_or (rt_not (xtv (re_isi rfl b_isinstance boot_isinstance' rfl b_tuple boot_tuple' (xv 1)))) (rw_or1 (rt_cmp (cv_ne hr.units) (re_callB (cvn_len) q_len rfl b_len boot_len' (xa (xv 1) ra_nil)) (re_callB (cvn_len) q_len rfl b_len boot_len' (xa (xv 0) ra_nil)) (nomark _))))) (rss_cons (rs_ret (re_bl))
 rss_nil) rss_nil)
 (rss_cons (rs_if (rt_not (xtv (re_callB (cvn_all rfl) q_all rfl b_all boot_all' (xa (xlc [("place", 3)] rfl nd (ri_val (xv 1)) (blkOk_by (by kernel_rfl)) (by decide) (fun _ _ _ _ _ => ⟨(xgn nd), rts_nil, ((re_or (re_cmp (cv_is) (xv 3) (re_non) (nomark _)) (re_one (re_fn c__law_is_int hr hg takes0 (xa (xv 3) (xa (re_int) (xa (re_bin ov_sub q_sub (xv 2) (re_int)) ra_nil))) (len_cons (len_cons (len_cons len_nil)))))))⟩)) ra_nil)))) (rss_cons (rs_ret (re_bl))
 rss_nil) rss_nil)
 (rss_cons (rs_ret (re_callB (cvn_all rfl) q_all rfl b_all boot_all' (xa (xlc [("track", 5)] rfl nd (ri_range1 rfl b_range (xa (xv 2) ra_nil) rfl (len_cons len_nil)) (blkOk_by (by kernel_rfl)) (by decide) (fun _ _ _ _ _ => ⟨(xgn nd), rts_nil, (re_fn c__law_can_stand hr hg takes0 (xa (xv 0) (xa (xlc [("car", 4)] rfl nd (ri_range1 rfl b_range (xa (re_callB (cvn_len) q_len rfl b_len boot_len' (xa (xv 0) ra_nil)) ra_nil) rfl (len_cons len_nil)) (blkOk_by (by kernel_rfl)) (by decide) (fun _ _ _ _ _ => ⟨(xgn nd), (rts_one (rt_cmp (cv_eq hr.units) (xix (xv 1) (xv 4)) (xv 5) (nomark _))), (xv 4)⟩)) ra_nil)) (len_cons (len_cons len_nil)))⟩)) ra_nil)))
 rss_nil)))
/-! _law_is_lot -/
def f__law_is_lot : List PV → MH → R PV := runB
 (sSeq (sIf ((mOrT (mNotT (mTest (mIsi "tuple" (mVar 1)))) (mNotT (mTest (mCallOp opAll (mCons (mComp (mSrc (mVar 1)) (.nm 2) mYes (mCall f__law_is_int (mCons (mVar 2) (mCons (mK (.int 0)) (mCons (mBin opSub (mCallOp opLen (mCons (mVar 0) mNil)) (mK (.int 1))) mNil)))) [2]) mNil)))))) (sSeq (sRet (mK (.bl false)))
 sNext) sNext)
 (sSeq (sRet ((mAndV (mCmp eqD (mCallOp opList (mCons (mVar 1) mNil)) (mCallOp opSorted (mCons (mCallOp opSet (mCons (mVar 1) mNil)) mNil))) (mCall f__law_do_cross (mCons (mVar 0) (mCons (mVar 1) mNil))))))
 sNext)) 3
theorem sc__law_is_lot : FnScope ["row", "value", "car"] ["row", "value"] (defScope (top 33)) := ⟨rfl, rfl, rfl, by decide +kernel, rfl, by decide +kernel, by decide +kernel⟩
theorem pl__law_is_lot : Plain (defArgs (top 33)) ["row", "value"] := ⟨rfl, rfl, rfl, rfl, rfl, by decide +kernel⟩
theorem ok__law_is_lot {P : Program} {w : World} {K : PySem.W.Frag} {mg : Str → Option Value} {base : Heap} {f : Addr} {fd : FuncData} (F : FnP K "_law_is_lot" (top 33) f fd) (hm : mg "_law_is_lot" = some (.ref f)) (c__law_is_int : Cal P w K mg base 1 "_law_is_int" ["value", "low", "high"] f__law_is_int) (c__law_do_cross : Cal P w K mg base 1 "_law_do_cross" ["row", "lot"] f__law_do_cross) (b_isinstance : mg "isinstance" = none) (b_tuple : mg "tuple" = none) (b_len : mg "len" = none) (b_all : mg "all" = none) (b_list : mg "list" = none) (b_set : mg "set" = none) (b_sorted : mg "sorted" = none) : Cal P w K mg base 2 "_law_is_lot" ["row", "value"] f__law_is_lot :=
  cal_of F hm sc__law_is_lot pl__law_is_lot fun cdv A outer s H E hr hg => have nd := sc__law_is_lot.nd
 (rss_cons (rs_if (PW.pt (rw_or (rt_not (xtv (re_isi rfl b_isinstance boot_isinstance' rfl b_tuple boot_tuple' (xv 1)))) (rw_or1 (rt_not (xtv (re_callB (cvn_all rfl) q_all rfl b_all boot_all' (xa (xlc [("car", 2)] rfl nd (ri_val (xv 1)) (blkOk_by (by kernel_rfl)) (by decide) (fun _ _ _ _ _ => ⟨(xgn nd), rts_nil, (re_fn c__law_is_int hr hg takes0 (xa (xv 2) (xa (re_int) (xa (re_bin ov_sub q_sub (re_callB (cvn_len) q_len rfl b_len boot_len' (xa (xv 0) ra_nil)) (re_int)) ra_nil))) (len_cons (len_cons (len_cons len_nil))))⟩)) ra_nil))))))) (rss_cons (rs_ret (re_bl))
 rss_nil) rss_nil)
 (rss_cons (rs_ret ((re_and (re_cmp (cv_eq hr.units) (re_callTy (cvn_list) q_list rfl b_list boot_list' (xa (xv 1) ra_nil)) (re_callB (cvn_sorted rfl) q_sorted rfl b_sorted boot_sorted' (xa (re_callTy (cvn_set rfl) q_set rfl b_set boot_set' (xa (xv 1) ra_nil)) ra_nil)) (nomark _)) (re_one (re_fn c__law_do_cross hr hg (takes_of rfl rfl rfl rfl) (xa (xv 0) (xa (xv 1) ra_nil)) (len_cons (len_cons len_nil)))))))
 rss_nil))
/-! _law_odd -/
def f__law_odd : List PV → MH → R PV := runB
 (sSeq (sAsg (mLst (mCons (mK .non) (mCons (mK (.bl true)) (mCons (mK (.bl false)) (mCons (mK (.int 0)) (mCons (mK (.int 1)) (mCons (mUn opNeg (mK (.int 1))) (mCons (mK (.int 7)) (mCons (mBin opPow (mK (.int 10)) (mK (.int 11))) (mCons (mK (.str "")) (mCons (mK (.str "a")) (mCons (mK (.str "places")) (mCons (mTup mNil) (mCons (mTup (mCons (mK (.int 0)) mNil)) (mCons (mTup (mCons (mK .non) mNil)) (mCons (mLst mNil) (mCons (mLst (mCons (mK (.int 0)) mNil)) (mCons (mDict mNil) (mCons (mDict (mCons (mK (.str "a")) (mCons (mK (.int 1)) mNil))) (mCons (mTup (mCons (mTup (mCons (mK (.int 0)) (mCons (mK (.int 0)) mNil))) mNil)) mNil)))))))))))))))))))) (.nm 1))
 (sSeq (sAsg (mCall f__law_of (mCons (mVar 0) (mCons (mVar 1) mNil))) (.nm 2))
 (sSeq (sFor (mRange (mCons (mCall f__law_take (mCons (mVar 0) (mCons (mK (.int 3)) mNil))) mNil)) (.nm 3) (sSeq (sAsg (mCall f__law_of (mCons (mVar 0) (mCons (mLst (mCons (mTup (mCons (mVar 2) mNil)) (mCons (mLst (mCons (mVar 2) mNil)) (mCons (mDict (mCons (mK (.str "a")) (mCons (mVar 2) mNil))) (mCons (mTup (mCons (mVar 2) (mCons (mK (.int 0)) mNil))) (mCons (mTup (mCons (mK (.int 0)) (mCons (mVar 2) mNil))) mNil)))))) mNil))) (.nm 2))
 sNext))
 (sSeq (sRet (mVar 2))
 sNext)))) 4
theorem sc__law_odd : FnScope ["pot", "some", "value", "lap"] ["pot"] (defScope (top 34)) := ⟨rfl, rfl, rfl, by decide +kernel, rfl, by decide +kernel, by decide +kernel⟩
theorem pl__law_odd : Plain (defArgs (top 34)) ["pot"] := ⟨rfl, rfl, rfl, rfl, rfl, by decide +kernel⟩
theorem ok__law_odd {P : Program} {w : World} {K : PySem.W.Frag} {mg : Str → Option Value} {base : Heap} {f : Addr} {fd : FuncData} (F : FnP K "_law_odd" (top 34) f fd) (hm : mg "_law_odd" = some (.ref f)) (c__law_of : Cal P w K mg base 2 "_law_of" ["pot", "some"] f__law_of) (c__law_take : Cal P w K mg base 2 "_law_take" ["pot", "upto"] f__law_take) (b_range : mg "range" = none) : Cal P w K mg base 3 "_law_odd" ["pot"] f__law_odd :=
  cal_of F hm sc__law_odd pl__law_odd fun cdv A outer s H E hr hg => have nd := sc__law_odd.nd
 (rss_cons (xset nd (re_lst (xa (re_non) (xa (re_bl) (xa (re_bl) (xa (re_int) (xa (re_int) (xa (re_un uv_neg q_neg (re_int)) (xa (re_int) (xa (re_bin ov_pow q_pow (re_int) (re_int)) (xa (re_str) (xa (re_str) (xa (re_str) (xa (re_tup ra_nil) (xa (re_tup (xa (re_int) ra_nil)) (xa (re_tup (xa (re_non) ra_nil)) (xa (re_lst ra_nil) (xa (re_lst (xa (re_int) ra_nil)) (xa (re_dict0) (xa (re_dict (rps_cons (re_str) (re_int) rps_nil)) (xa (re_tup (xa (re_tup (xa (re_int) (xa (re_int) ra_nil))) ra_nil)) ra_nil)))))))))))))))))))))
 (rss_cons (xset nd (re_fn c__law_of hr hg (takes_of rfl rfl rfl rfl) (xa (xv 0) (xa (xv 1) ra_nil)) (len_cons (len_cons len_nil))))
 (rss_cons (xfor (passes_of rfl) rfl (ri_range1 rfl b_range (xa (re_fn c__law_take hr hg (takes_of rfl rfl rfl rfl) (xa (xv 0) (xa (re_int) ra_nil)) (len_cons (len_cons len_nil))) ra_nil) rfl (len_cons len_nil)) (xgn nd) (rss_cons (xset nd (re_fn c__law_of hr hg (takes_of rfl rfl rfl rfl) (xa (xv 0) (xa (re_lst (xa (re_tup (xa (xv 2) ra_nil)) (xa (re_lst (xa (xv 2) ra_nil)) (xa (re_dict (rps_cons (re_str) (xv 2) rps_nil)) (xa (re_tup (xa (xv 2) (xa (re_int) ra_nil))) (xa (re_tup (xa (re_int) (xa (xv 2) ra_nil))) ra_nil)))))) ra_nil)) (len_cons (len_cons len_nil))))
 rss_nil))
 (rss_cons (rs_ret (xv 2))
 rss_nil))))
/-! _law_bent -/
def b__law_bent (cf : List PV → MH → R PV) : PEnv → MH → RS :=
 (sSeq (sIf ((mAndT (mTest (mIsi "tuple" (mVar 1))) (mAndT (mCmpT neD (mVar 1) (mTup mNil)) (mCmpT gtD (mCall f__law_take (mCons (mVar 0) (mCons (mK (.int 5)) mNil))) (mK (.int 0)))))) (sSeq (sAsg (mCall f__law_take (mCons (mVar 0) (mCons (mCallOp opLen (mCons (mVar 1) mNil)) mNil))) (.nm 2))
 (sSeq (sRet (mBin opAdd (mBin opAdd (mSl (mVar 1) mNoPart (mPart (mVar 2))) (mTup (mCons (mCall cf (mCons (mVar 0) (mCons (mBin opIx (mVar 1) (mVar 2)) mNil))) mNil))) (mSl (mVar 1) (mPart (mBin opAdd (mVar 2) (mK (.int 1)))) mNoPart)))
 sNext)) sNext)
 (sSeq (sIf (mTest (mIsi "tuple" (mVar 1))) (sSeq (sAsg (mCall f__law_take (mCons (mVar 0) (mCons (mBin opAdd (mCallOp opLen (mCons (mVar 1) mNil)) (mK (.int 1))) mNil))) (.nm 2))
 (sSeq (sAsg (mLst (mCons (mCallOp opList (mCons (mVar 1) mNil)) (mCons (mBin opAdd (mSl (mVar 1) mNoPart (mPart (mVar 2))) (mSl (mVar 1) (mPart (mBin opAdd (mVar 2) (mK (.int 1)))) mNoPart)) (mCons (mBin opAdd (mVar 1) (mSl (mVar 1) (mPart (mVar 2)) (mPart (mBin opAdd (mVar 2) (mK (.int 1)))))) (mCons (mRev (mVar 1)) (mCons (mBin opAdd (mBin opAdd (mSl (mVar 1) mNoPart (mPart (mVar 2))) (mTup (mCons (mCall f__law_odd (mCons (mVar 0) mNil)) mNil))) (mSl (mVar 1) (mPart (mVar 2)) mNoPart)) mNil)))))) (.nm 3))
 (sSeq (sRet (mCall f__law_of (mCons (mVar 0) (mCons (mVar 3) mNil))))
 sNext))) sNext)
 (sSeq (sIf ((mOrT (mTest (mIsi "bool" (mVar 1))) (mNotT (mTest (mIsi "int" (mVar 1)))))) (sSeq (sRet (mCall f__law_odd (mCons (mVar 0) mNil)))
 sNext) sNext)
 (sSeq (sRet (mCall f__law_of (mCons (mVar 0) (mCons (mLst (mCons (mBin opAdd (mVar 1) (mK (.int 1))) (mCons (mBin opSub (mVar 1) (mK (.int 1))) (mCons (mBin opAdd (mVar 1) (mK (.int 2))) (mCons (mUn opNeg (mVar 1)) (mCons (mCallOp opStr (mCons (mVar 1) mNil)) (mCons (mTup (mCons (mVar 1) mNil)) (mCons (mCmp eqD (mVar 1) (mK (.int 1))) (mCons (mK .non) (mCons (mK (.int 29)) (mCons (mK (.int 30)) mNil))))))))))) mNil))))
 sNext))))
def f__law_bent : Nat → List PV → MH → R PV
  | 0 => fun _ _ => .bad
  | n + 1 => runB (b__law_bent (f__law_bent n)) 4
theorem sc__law_bent : FnScope ["pot", "value", "at", "ways"] ["pot", "value"] (defScope (top 35)) := ⟨rfl, rfl, rfl, by decide +kernel, rfl, by decide +kernel, by decide +kernel⟩
theorem pl__law_bent : Plain (defArgs (top 35)) ["pot", "value"] := ⟨rfl, rfl, rfl, rfl, rfl, by decide +kernel⟩
theorem ok__law_bent {P : Program} {w : World} {K : PySem.W.Frag} {mg : Str → Option Value} {base : Heap} {f : Addr} {fd : FuncData} (F : FnP K "_law_bent" (top 35) f fd) (hm : mg "_law_bent" = some (.ref f)) (c__law_take : Cal P w K mg base 3 "_law_take" ["pot", "upto"] f__law_take) (c__law_odd : Cal P w K mg base 3 "_law_odd" ["pot"] f__law_odd) (c__law_of : Cal P w K mg base 3 "_law_of" ["pot", "some"] f__law_of) (b_isinstance : mg "isinstance" = none) (b_tuple : mg "tuple" = none) (b_len : mg "len" = none) (b_list : mg "list" = none) (b_bool : mg "bool" = none) (b_int : mg "int" = none) (b_str : mg "str" = none) : ∀ n : Nat, Cal P w K mg base (3 + n) "_law_bent" ["pot", "value"] (f__law_bent n)
  | 0 => cal_bad F hm pl__law_bent
  | n + 1 => have c__law_bent := ok__law_bent F hm c__law_take c__law_odd c__law_of b_isinstance b_tuple b_len b_list b_bool b_int b_str n; have c__law_take := c__law_take.mono (Nat.le_add_right 3 n); have c__law_odd := c__law_odd.mono (Nat.le_add_right 3 n); have c__law_of := c__law_of.mono (Nat.le_add_right 3 n);
  cal_of F hm sc__law_bent pl__law_bent fun cdv A outer s H E hr hg => have nd := sc__law_bent.nd
 (rss_cons (rs_if (PW.pt (rw_and (xtv (re_isi rfl b_isinstance boot_isinstance' rfl b_tuple boot_tuple' (xv 1))) (rw_and (rt_cmp (cv_ne hr.units) (xv 1) (re_tup ra_nil) (nomark _)) (rw_and1 (rt_cmp (cv_gt) (re_fn c__law_take hr hg (takes_of rfl rfl rfl rfl) (xa (xv 0) (xa (re_int) ra_nil)) (len_cons (len_cons len_nil))) (re_int) (nomark _)))))) (rss_cons (xset nd (re_fn c__law_take hr hg (takes_of rfl rfl rfl rfl) (xa (xv 0) (xa (re_callB (cvn_len) q_len rfl b_len boot_len' (xa (xv 1) ra_nil)) ra_nil)) (len_cons (len_cons len_nil))))
 (rss_cons (rs_ret (re_bin ov_add q_add (re_bin ov_add q_add (re_sl (xv 1) ro_none (ro_some (xv 2))) (re_tup (xa (re_fn c__law_bent hr hg (takes_of rfl rfl rfl rfl) (xa (xv 0) (xa (xix (xv 1) (xv 2)) ra_nil)) (len_cons (len_cons len_nil))) ra_nil))) (re_sl (xv 1) (ro_some (re_bin ov_add q_add (xv 2) (re_int))) ro_none)))
 rss_nil)) rss_nil)
 (rss_cons (rs_if (xtv (re_isi rfl b_isinstance boot_isinstance' rfl b_tuple boot_tuple' (xv 1))) (rss_cons (xset nd (re_fn c__law_take hr hg (takes_of rfl rfl rfl rfl) (xa (xv 0) (xa (re_bin ov_add q_add (re_callB (cvn_len) q_len rfl b_len boot_len' (xa (xv 1) ra_nil)) (re_int)) ra_nil)) (len_cons (len_cons len_nil))))
 (rss_cons (xset nd (re_lst (xa (re_callTy (cvn_list) q_list rfl b_list boot_list' (xa (xv 1) ra_nil)) (xa (re_bin ov_add q_add (re_sl (xv 1) ro_none (ro_some (xv 2))) (re_sl (xv 1) (ro_some (re_bin ov_add q_add (xv 2) (re_int))) ro_none)) (xa (re_bin ov_add q_add (xv 1) (re_sl (xv 1) (ro_some (xv 2)) (ro_some (re_bin ov_add q_add (xv 2) (re_int))))) (xa (re_rev (xv 1)) (xa (re_bin ov_add q_add (re_bin ov_add q_add (re_sl (xv 1) ro_none (ro_some (xv 2))) (re_tup (xa (re_fn c__law_odd hr hg (takes_of rfl rfl rfl rfl) (xa (xv 0) ra_nil) (len_cons len_nil)) ra_nil))) (re_sl (xv 1) (ro_some (xv 2)) ro_none)) ra_nil)))))))
 (rss_cons (rs_ret (re_fn c__law_of hr hg (takes_of rfl rfl rfl rfl) (xa (xv 0) (xa (xv 3) ra_nil)) (len_cons (len_cons len_nil))))
 rss_nil))) rss_nil)
 (rss_cons (rs_if (PW.pt (rw_or (xtv (re_isi rfl b_isinstance boot_isinstance' rfl b_bool boot_bool' (xv 1))) (rw_or1 (rt_not (xtv (re_isi rfl b_isinstance boot_isinstance' rfl b_int boot_int' (xv 1))))))) (rss_cons (rs_ret (re_fn c__law_odd hr hg (takes_of rfl rfl rfl rfl) (xa (xv 0) ra_nil) (len_cons len_nil)))
 rss_nil) rss_nil)
 (rss_cons (rs_ret (re_fn c__law_of hr hg (takes_of rfl rfl rfl rfl) (xa (xv 0) (xa (re_lst (xa (re_bin ov_add q_add (xv 1) (re_int)) (xa (re_bin ov_sub q_sub (xv 1) (re_int)) (xa (re_bin ov_add q_add (xv 1) (re_int)) (xa (re_un uv_neg q_neg (xv 1)) (xa (re_callTy (cvn_str) q_str rfl b_str boot_str' (xa (xv 1) ra_nil)) (xa (re_tup (xa (xv 1) ra_nil)) (xa (re_cmp (cv_eq hr.units) (xv 1) (re_int) (nomark _)) (xa (re_non) (xa (re_int) (xa (re_int) ra_nil))))))))))) ra_nil)) (len_cons (len_cons len_nil))))
 rss_nil))))
/-! _law_is_shown -/
def f__law_is_shown : List PV → MH → R PV := runB
 (sSeq (sIf ((mOrT (mNotT (mTest (mIsi "tuple" (mVar 1)))) (mOrT (mCmpT neD (mCallOp opLen (mCons (mVar 1) mNil)) (mK (.int 3))) (mNotT (mTest (mCall f__law_is_int (mCons (mBin opIx (mVar 1) (mK (.int 0))) (mCons (mK (.int 0)) (mCons (mK (.int 30)) mNil))))))))) (sSeq (sRet (mK (.bl false)))
 sNext) sNext)
 (sSeq (sAsg (mVar 1) (.tp (.cons (.nm 2) (.cons (.nm 3) (.cons (.nm 4) .nil)))))
 (sSeq (sIf ((mOrT (mNotT (mTest (mCall f__law_are_places (mCons (mVar 0) (mCons (mVar 3) (mCons (mVar 2) mNil)))))) (mTest (mCallOp opAny (mCons (mComp (mSrc (mVar 3)) (.nm 5) mYes (mCmp isD (mVar 5) (mK .non)) [5]) mNil))))) (sSeq (sRet (mK (.bl false)))
 sNext) sNext)
 (sSeq (sRet ((mAndV (mCall f__law_is_lot (mCons (mVar 0) (mCons (mVar 4) mNil))) (mCmp eqD (mCallOp opLen (mCons (mVar 4) mNil)) (mVar 2)))))
 sNext)))) 6
theorem sc__law_is_shown : FnScope ["row", "value", "number", "places", "lot", "place"] ["row", "value"] (defScope (top 36)) := ⟨rfl, rfl, rfl, by decide +kernel, rfl, by decide +kernel, by decide +kernel⟩
theorem pl__law_is_shown : Plain (defArgs (top 36)) ["row", "value"] := ⟨rfl, rfl, rfl, rfl, rfl, by decide +kernel⟩
theorem ok__law_is_shown {P : Program} {w : World} {K : PySem.W.Frag} {mg : Str → Option Value} {base : Heap} {f : Addr} {fd : FuncData} (F : FnP K "_law_is_shown" (top 36) f fd) (hm : mg "_law_is_shown" = some (.ref f)) (c__law_is_int : Cal P w K mg base 2 "_law_is_int" ["value", "low", "high"] f__law_is_int) (c__law_are_places : Cal P w K mg base 2 "_law_are_places" ["row", "value", "many"] f__law_are_places) (c__law_is_lot : Cal P w K mg base 2 "_law_is_lot" ["row", "value"] f__law_is_lot) (b_isinstance : mg "isinstance" = none) (b_tuple : mg "tuple" = none) (b_len : mg "len" = none) (b_any : mg "any" = none) : Cal P w K mg base 3 "_law_is_shown" ["row", "value"] f__law_is_shown :=
  cal_of F hm sc__law_is_shown pl__law_is_shown fun cdv A outer s H E hr hg => have nd := sc__law_is_shown.nd
 (rss_cons (rs_if (PW.pt (rw_or (rt_not (xtv (re_isi rfl b_isinstance boot_isinstance' rfl b_tuple boot_tuple' (xv 1)))) (rw_or (rt_cmp (cv_ne hr.units) (re_callB (cvn_len) q_len rfl b_len boot_len' (xa (xv 1) ra_nil)) (re_int) (nomark _)) (rw_or1 (rt_not (xtv (re_fn c__law_is_int hr hg (takes_of rfl rfl rfl rfl) (xa (xix (xv 1) (re_int)) (xa (re_int) (xa (re_int) ra_nil))) (len_cons (len_cons (len_cons len_nil)))))))))) (rss_cons (rs_ret (re_bl))
 rss_nil) rss_nil)
 (rss_cons (xasg (xv 1) (xgt rfl (xgc (xgn nd) (xgc (xgn nd) (xgc (xgn nd) rgs_nil)))))
 (rss_cons (rs_if (PW.pt (rw_or (rt_not (xtv (re_fn c__law_are_places hr hg (takes_of rfl rfl rfl rfl) (xa (xv 0) (xa (xv 3) (xa (xv 2) ra_nil))) (len_cons (len_cons (len_cons len_nil)))))) (rw_or1 (xtv (re_callB (cvn_any rfl) q_any rfl b_any boot_any' (xa (xlc [("place", 5)] rfl nd (ri_val (xv 3)) (blkOk_by (by kernel_rfl)) (by decide) (fun _ _ _ _ _ => ⟨(xgn nd), rts_nil, (re_cmp (cv_is) (xv 5) (re_non) (nomark _))⟩)) ra_nil)))))) (rss_cons (rs_ret (re_bl))
 rss_nil) rss_nil)
 (rss_cons (rs_ret ((re_and (re_fn c__law_is_lot hr hg (takes_of rfl rfl rfl rfl) (xa (xv 0) (xa (xv 4) ra_nil)) (len_cons (len_cons len_nil))) (re_one (re_cmp (cv_eq hr.units) (re_callB (cvn_len) q_len rfl b_len boot_len' (xa (xv 4) ra_nil)) (xv 2) (nomark _))))))
 rss_nil))))
/-! _law_values -/
def f__law_values : List PV → MH → R PV := runB
 (sSeq (sAsg (mVar 2) (.tp (.cons (.nm 3) (.cons (.nm 4) (.cons (.nm 5) .nil)))))
 (sSeq (sAsg (mLst (mCons (mVar 2) (mCons (mCallOp opList (mCons (mVar 2) mNil)) (mCons (mSl (mVar 2) mNoPart (mPart (mK (.int 2)))) (mCons (mBin opAdd (mVar 2) (mTup (mCons (mK (.int 0)) mNil))) (mCons (mTup (mCons (mBin opAdd (mVar 3) (mK (.int 1))) (mCons (mVar 4) (mCons (mVar 5) mNil)))) (mCons (mTup (mCons (mBin opSub (mVar 3) (mK (.int 1))) (mCons (mVar 4) (mCons (mVar 5) mNil)))) (mCons (mTup (mCons (mVar 3) (mCons (mVar 5) (mCons (mVar 4) mNil)))) mNil)))))))) (.nm 6))
 (sSeq (sExpr (mMeth1 meExtend (mRecv (mVar 6)) (mLst (mCons (mTup (mCons (mVar 3) (mCons (mSl (mVar 4) (mPart (mK (.int 1))) mNoPart) (mCons (mVar 5) mNil)))) (mCons (mTup (mCons (mVar 3) (mCons (mCallOp opList (mCons (mVar 4) mNil)) (mCons (mVar 5) mNil)))) (mCons (mTup (mCons (mVar 3) (mCons (mVar 4) (mCons (mSl (mVar 5) (mPart (mK (.int 1))) mNoPart) mNil)))) (mCons (mTup (mCons (mVar 3) (mCons (mVar 4) (mCons (mRev (mVar 5)) mNil)))) mNil)))))))
 (sSeq (sExpr (mMeth1 meExtend (mRecv (mVar 6)) (mLst (mCons (mTup (mCons (mVar 3) (mCons (mBin opMul (mTup (mCons (mK (.int 0)) mNil)) (mCallOp opLen (mCons (mVar 1) mNil))) (mCons (mVar 5) mNil)))) (mCons (mTup (mCons (mVar 3) (mCons (mRg1 rgTup (mCallOp opLen (mCons (mVar 1) mNil))) (mCons (mVar 5) mNil)))) (mCons (mTup (mCons (mCallOp opLen (mCons (mVar 1) mNil)) (mCons (mRg1 rgTup (mCallOp opLen (mCons (mVar 1) mNil))) (mCons (mVar 5) mNil)))) (mCons (mK .non) mNil)))))))
 (sSeq (sFor (mRange (mCons (mK (.int 5)) mNil)) (.nm 7) (sSeq (sAsg (mCallOp opTuple (mCons (mComp (mSrc (mVar 1)) (.nm 9) mYes (mCall f__law_take (mCons (mVar 0) (mCons (mBin opAdd (mVar 3) (mK (.int 1))) mNil))) [9]) mNil)) (.nm 8))
 (sSeq (sAsg (mCallOp opTuple (mCons (mComp (mRange (mCons (mCallOp opLen (mCons (mVar 1) mNil)) mNil)) (.nm 9) (mCmpT eqD (mCall f__law_take (mCons (mVar 0) (mCons (mK (.int 2)) mNil))) (mK (.int 0))) (mVar 9) [9]) mNil)) (.nm 10))
 (sSeq (sExpr (mMeth1 meExtend (mRecv (mVar 6)) (mLst (mCons (mTup (mCons (mVar 3) (mCons (mVar 8) (mCons (mVar 5) mNil)))) (mCons (mTup (mCons (mVar 3) (mCons (mVar 4) (mCons (mVar 10) mNil)))) (mCons (mTup (mCons (mCallOp opLen (mCons (mVar 10) mNil)) (mCons (mVar 8) (mCons (mVar 10) mNil)))) (mCons (mTup (mCons (mVar 3) (mCons (mVar 4) (mCons (mBin opAdd (mVar 5) (mSl (mVar 5) (mPart (mUn opNeg (mK (.int 1)))) mNoPart)) mNil)))) mNil)))))))
 sNext))))
 (sSeq (sRet (mBin opAdd (mBin opAdd (mVar 6) (mComp (mRange (mCons (mK (.int 8)) mNil)) (.nm 7) mYes (mCall (f__law_bent 6) (mCons (mVar 0) (mCons (mVar 2) mNil))) [7])) (mLst (mCons (mCall f__law_odd (mCons (mVar 0) mNil)) mNil))))
 sNext)))))) 11
theorem sc__law_values : FnScope ["pot", "row", "told", "number", "places", "lot", "found", "lap", "drawn", "car", "cars"] ["pot", "row", "told"] (defScope (top 37)) := ⟨rfl, rfl, rfl, by decide +kernel, rfl, by decide +kernel, by decide +kernel⟩
theorem pl__law_values : Plain (defArgs (top 37)) ["pot", "row", "told"] := ⟨rfl, rfl, rfl, rfl, rfl, by decide +kernel⟩
theorem ok__law_values {P : Program} {w : World} {K : PySem.W.Frag} {mg : Str → Option Value} {base : Heap} {f : Addr} {fd : FuncData} (F : FnP K "_law_values" (top 37) f fd) (hm : mg "_law_values" = some (.ref f)) (c__law_take : Cal P w K mg base 9 "_law_take" ["pot", "upto"] f__law_take) (c__law_bent : Cal P w K mg base 9 "_law_bent" ["pot", "value"] (f__law_bent 6)) (c__law_odd : Cal P w K mg base 9 "_law_odd" ["pot"] f__law_odd) (b_list : mg "list" = none) (b_len : mg "len" = none) (b_tuple : mg "tuple" = none) (b_range : mg "range" = none) : Cal P w K mg base 10 "_law_values" ["pot", "row", "told"] f__law_values :=
  cal_of F hm sc__law_values pl__law_values fun cdv A outer s H E hr hg => have nd := sc__law_values.nd
 (rss_cons (xasg (xv 2) (xgt rfl (xgc (xgn nd) (xgc (xgn nd) (xgc (xgn nd) rgs_nil)))))
 (rss_cons (xset nd (re_lst (xa (xv 2) (xa (re_callTy (cvn_list) q_list rfl b_list boot_list' (xa (xv 2) ra_nil)) (xa (re_sl (xv 2) ro_none (ro_some (re_int))) (xa (re_bin ov_add q_add (xv 2) (re_tup (xa (re_int) ra_nil))) (xa (re_tup (xa (re_bin ov_add q_add (xv 3) (re_int)) (xa (xv 4) (xa (xv 5) ra_nil)))) (xa (re_tup (xa (re_bin ov_sub q_sub (xv 3) (re_int)) (xa (xv 4) (xa (xv 5) ra_nil)))) (xa (re_tup (xa (xv 3) (xa (xv 5) (xa (xv 4) ra_nil)))) ra_nil)))))))))
 (rss_cons (xexpr (re_extend (xv 6) (re_lst (xa (re_tup (xa (xv 3) (xa (re_sl (xv 4) (ro_some (re_int)) ro_none) (xa (xv 5) ra_nil)))) (xa (re_tup (xa (xv 3) (xa (re_callTy (cvn_list) q_list rfl b_list boot_list' (xa (xv 4) ra_nil)) (xa (xv 5) ra_nil)))) (xa (re_tup (xa (xv 3) (xa (xv 4) (xa (re_sl (xv 5) (ro_some (re_int)) ro_none) ra_nil)))) (xa (re_tup (xa (xv 3) (xa (xv 4) (xa (re_rev (xv 5)) ra_nil)))) ra_nil)))))))
 (rss_cons (xexpr (re_extend (xv 6) (re_lst (xa (re_tup (xa (xv 3) (xa (re_bin ov_mul q_mul (re_tup (xa (re_int) ra_nil)) (re_callB (cvn_len) q_len rfl b_len boot_len' (xa (xv 1) ra_nil))) (xa (xv 5) ra_nil)))) (xa (re_tup (xa (xv 3) (xa (re_tupRg1 rfl rfl b_tuple rfl b_range (re_callB (cvn_len) q_len rfl b_len boot_len' (xa (xv 1) ra_nil))) (xa (xv 5) ra_nil)))) (xa (re_tup (xa (re_callB (cvn_len) q_len rfl b_len boot_len' (xa (xv 1) ra_nil)) (xa (re_tupRg1 rfl rfl b_tuple rfl b_range (re_callB (cvn_len) q_len rfl b_len boot_len' (xa (xv 1) ra_nil))) (xa (xv 5) ra_nil)))) (xa (re_non) ra_nil)))))))
 (rss_cons (xfor (passes_of rfl) rfl (ri_range1 rfl b_range (xa (re_int) ra_nil) rfl (len_cons len_nil)) (xgn nd) (rss_cons (xset nd (re_callTy (cvn_tuple) q_tuple rfl b_tuple boot_tuple' (xa (xlc [("car", 9)] rfl nd (ri_val (xv 1)) (blkOk_by (by kernel_rfl)) (by decide) (fun _ _ _ _ _ => ⟨(xgn nd), rts_nil, (re_fn c__law_take hr hg takes0 (xa (xv 0) (xa (re_bin ov_add q_add (xv 3) (re_int)) ra_nil)) (len_cons (len_cons len_nil)))⟩)) ra_nil)))
 (rss_cons (xset nd (re_callTy (cvn_tuple) q_tuple rfl b_tuple boot_tuple' (xa (xlc [("car", 9)] rfl nd (ri_range1 rfl b_range (xa (re_callB (cvn_len) q_len rfl b_len boot_len' (xa (xv 1) ra_nil)) ra_nil) rfl (len_cons len_nil)) (blkOk_by (by kernel_rfl)) (by decide) (fun _ _ _ _ _ => ⟨(xgn nd), (rts_one (rt_cmp (cv_eq hr.units) (re_fn c__law_take hr hg takes0 (xa (xv 0) (xa (re_int) ra_nil)) (len_cons (len_cons len_nil))) (re_int) (nomark _))), (xv 9)⟩)) ra_nil)))
 (rss_cons (xexpr (re_extend (xv 6) (re_lst (xa (re_tup (xa (xv 3) (xa (xv 8) (xa (xv 5) ra_nil)))) (xa (re_tup (xa (xv 3) (xa (xv 4) (xa (xv 10) ra_nil)))) (xa (re_tup (xa (re_callB (cvn_len) q_len rfl b_len boot_len' (xa (xv 10) ra_nil)) (xa (xv 8) (xa (xv 10) ra_nil)))) (xa (re_tup (xa (xv 3) (xa (xv 4) (xa (re_bin ov_add q_add (xv 5) (re_sl (xv 5) (ro_some (re_un uv_neg q_neg (re_int))) ro_none)) ra_nil)))) ra_nil)))))))
 rss_nil))))
 (rss_cons (rs_ret (re_bin ov_add q_add (re_bin ov_add q_add (xv 6) (xlc [("lap", 7)] rfl nd (ri_range1 rfl b_range (xa (re_int) ra_nil) rfl (len_cons len_nil)) (blkOk_by (by kernel_rfl)) (by decide) (fun _ _ _ _ _ => ⟨(xgn nd), rts_nil, (re_fn c__law_bent hr hg takes0 (xa (xv 0) (xa (xv 2) ra_nil)) (len_cons (len_cons len_nil)))⟩))) (re_lst (xa (re_fn c__law_odd hr hg (takes_of rfl rfl rfl rfl) (xa (xv 0) ra_nil) (len_cons len_nil)) ra_nil))))
 rss_nil))))))
/-! _law_right -/
def f__law_right : List PV → MH → R PV := runB
 (sSeq (sAsg (mCall f__law_row (mCons (mVar 0) (mCons (mK (.int 8)) (mCons (mCall f__law_of (mCons (mVar 0) (mCons (mLst (mCons (mK (.int 2)) (mCons (mK (.int 4)) (mCons (mK (.int 9)) (mCons (mK (.int 99)) mNil))))) mNil))) mNil)))) (.nm 1))
 (sSeq (sPar 2 3 (mCons (mCall f_fewest_tracks (mCons (mVar 1) mNil)) (mCons (mCall f__law_lots (mCons (mCallOp opLen (mCons (mVar 1) mNil)) mNil)) mNil)))
 (sSeq (sAsg (mCallOp opMaxA (mCons (mComp (mSrc (mVar 3)) (.nm 5) (mTest (mCall f__law_do_cross (mCons (mVar 1) (mCons (mVar 5) mNil)))) (mCallOp opLen (mCons (mVar 5) mNil)) [5]) mNil)) (.nm 4))
 (sSeq (sIf ((mOrT (mCmpT neD (mCallOp opRepr (mCons (mBin opIx (mVar 2) (mK (.int 0))) mNil)) (mCallOp opRepr (mCons (mVar 4) mNil))) (mNotT (mTest (mCall f__law_is_shown (mCons (mVar 1) (mCons (mVar 2) mNil))))))) (sSeq (sRet (mK (.bl false)))
 sNext) sNext)
 (sSeq (sFor (mSrc (mCall f__law_values (mCons (mVar 0) (mCons (mVar 1) (mCons (mVar 2) mNil))))) (.nm 6) (sSeq (sIf (mCmpT neD (mCallOp opRepr (mCons (mCall f_shows_fewest_tracks (mCons (mVar 1) (mCons (mVar 6) mNil))) mNil)) (mCallOp opRepr (mCons (mCall f__law_is_shown (mCons (mVar 1) (mCons (mVar 6) mNil))) mNil))) (sSeq (sRet (mK (.bl false)))
 sNext) sNext)
 sNext))
 (sSeq (sIf (mCmpT neD (mBin opIx (mCall f_fewest_tracks (mCons (mCallOp opTuple (mCons (mComp (mSrc (mRev (mVar 1))) (.nm 7) mYes (mBin opSub (mK (.int 100)) (mVar 7)) [7]) mNil)) mNil)) (mK (.int 0))) (mVar 4)) (sSeq (sRet (mK (.bl false)))
 sNext) sNext)
 (sSeq (sAsg (mCall f__law_take (mCons (mVar 0) (mCons (mBin opAdd (mCallOp opLen (mCons (mVar 1) mNil)) (mK (.int 1))) mNil))) (.nm 8))
 (sSeq (sAsg (mBin opIx (mCall f_fewest_tracks (mCons (mBin opAdd (mBin opAdd (mSl (mVar 1) mNoPart (mPart (mVar 8))) (mTup (mCons (mBin opAdd (mK (.int 1)) (mCall f__law_take (mCons (mVar 0) (mCons (mK (.int 99)) mNil)))) mNil))) (mSl (mVar 1) (mPart (mVar 8)) mNoPart)) mNil)) (mK (.int 0))) (.nm 9))
 (sSeq (sRet ((mAndV (mCmp inD (mBin opSub (mVar 9) (mVar 4)) (mTup (mCons (mK (.int 0)) (mCons (mK (.int 1)) mNil)))) (mCmp geD (mBin opMul (mVar 4) (mCallOp opMaxA (mCons (mComp (mSrc (mVar 3)) (.nm 5) (mTest (mCall f__law_can_stand (mCons (mVar 1) (mCons (mVar 5) mNil)))) (mCallOp opLen (mCons (mVar 5) mNil)) [5]) mNil))) (mCallOp opLen (mCons (mVar 1) mNil))))))
 sNext))))))))) 10
theorem sc__law_right : FnScope ["pot", "row", "told", "lots", "most", "lot", "value", "number", "at", "more"] ["pot"] (defScope (top 38)) := ⟨rfl, rfl, rfl, by decide +kernel, rfl, by decide +kernel, by decide +kernel⟩
theorem pl__law_right : Plain (defArgs (top 38)) ["pot"] := ⟨rfl, rfl, rfl, rfl, rfl, by decide +kernel⟩
theorem ok__law_right {P : Program} {w : World} {K : PySem.W.Frag} {mg : Str → Option Value} {base : Heap} {f : Addr} {fd : FuncData} (F : FnP K "_law_right" (top 38) f fd) (hm : mg "_law_right" = some (.ref f)) (c__law_of : Cal P w K mg base 10 "_law_of" ["pot", "some"] f__law_of) (c__law_row : Cal P w K mg base 10 "_law_row" ["pot", "most", "wide"] f__law_row) (c__law_lots : Cal P w K mg base 10 "_law_lots" ["many"] f__law_lots) (c_fewest_tracks : Cal P w K mg base 10 "fewest_tracks" ["row"] f_fewest_tracks) (c__law_do_cross : Cal P w K mg base 10 "_law_do_cross" ["row", "lot"] f__law_do_cross) (c__law_is_shown : Cal P w K mg base 10 "_law_is_shown" ["row", "value"] f__law_is_shown) (c__law_values : Cal P w K mg base 10 "_law_values" ["pot", "row", "told"] f__law_values) (c_shows_fewest_tracks : Cal P w K mg base 10 "shows_fewest_tracks" ["row", "value"] f_shows_fewest_tracks) (c__law_take : Cal P w K mg base 10 "_law_take" ["pot", "upto"] f__law_take) (c__law_can_stand : Cal P w K mg base 10 "_law_can_stand" ["row", "lot"] f__law_can_stand) (b_len : mg "len" = none) (b_max : mg "max" = none) (b_repr : mg "repr" = none) (b_tuple : mg "tuple" = none) : Cal P w K mg base 11 "_law_right" ["pot"] f__law_right :=
  cal_of F hm sc__law_right pl__law_right fun cdv A outer s H E hr hg => have nd := sc__law_right.nd
 (rss_cons (xset nd (re_fn c__law_row hr hg (takes_of rfl rfl rfl rfl) (xa (xv 0) (xa (re_int) (xa (re_fn c__law_of hr hg (takes_of rfl rfl rfl rfl) (xa (xv 0) (xa (re_lst (xa (re_int) (xa (re_int) (xa (re_int) (xa (re_int) ra_nil))))) ra_nil)) (len_cons (len_cons len_nil))) ra_nil))) (len_cons (len_cons (len_cons len_nil)))))
 (rss_cons (xpar rfl nd (xa (re_fn c_fewest_tracks hr hg (takes_of rfl rfl rfl rfl) (xa (xv 1) ra_nil) (len_cons len_nil)) (xa (re_fn c__law_lots hr hg (takes_of rfl rfl rfl rfl) (xa (re_callB (cvn_len) q_len rfl b_len boot_len' (xa (xv 1) ra_nil)) ra_nil) (len_cons len_nil)) ra_nil)))
 (rss_cons (xset nd (re_callB (cvn_maxA rfl hr.units) q_maxA rfl b_max boot_max' (xa (xlc [("lot", 5)] rfl nd (ri_val (xv 3)) (blkOk_by (by kernel_rfl)) (by decide) (fun _ _ _ _ _ => ⟨(xgn nd), (rts_one (xtv (re_fn c__law_do_cross hr hg takes0 (xa (xv 1) (xa (xv 5) ra_nil)) (len_cons (len_cons len_nil))))), (re_callB (cvn_len) q_len rfl b_len boot_len' (xa (xv 5) ra_nil))⟩)) ra_nil)))
 (rss_cons (rs_if (PW.pt (rw_or (rt_cmp (cv_ne hr.units) (re_callB (cvn_repr hg (room_128 hr)) q_repr rfl b_repr boot_repr' (xa (xix (xv 2) (re_int)) ra_nil)) (re_callB (cvn_repr hg (room_128 hr)) q_repr rfl b_repr boot_repr' (xa (xv 4) ra_nil)) (nomark _)) (rw_or1 (rt_not (xtv (re_fn c__law_is_shown hr hg (takes_of rfl rfl rfl rfl) (xa (xv 1) (xa (xv 2) ra_nil)) (len_cons (len_cons len_nil)))))))) (rss_cons (rs_ret (re_bl))
 rss_nil) rss_nil)
 (rss_cons (xfor (passes_of rfl) rfl (ri_val (re_fn c__law_values hr hg (takes_of rfl rfl rfl rfl) (xa (xv 0) (xa (xv 1) (xa (xv 2) ra_nil))) (len_cons (len_cons (len_cons len_nil))))) (xgn nd) (rss_cons (rs_if (rt_cmp (cv_ne hr.units) (re_callB (cvn_repr hg (room_128 hr)) q_repr rfl b_repr boot_repr' (xa (re_fn c_shows_fewest_tracks hr hg (takes_of rfl rfl rfl rfl) (xa (xv 1) (xa (xv 6) ra_nil)) (len_cons (len_cons len_nil))) ra_nil)) (re_callB (cvn_repr hg (room_128 hr)) q_repr rfl b_repr boot_repr' (xa (re_fn c__law_is_shown hr hg (takes_of rfl rfl rfl rfl) (xa (xv 1) (xa (xv 6) ra_nil)) (len_cons (len_cons len_nil))) ra_nil)) (nomark _)) (rss_cons (rs_ret (re_bl))
 rss_nil) rss_nil)
 rss_nil))
 (rss_cons (rs_if (rt_cmp (cv_ne hr.units) (xix (re_fn c_fewest_tracks hr hg (takes_of rfl rfl rfl rfl) (xa (re_callTy (cvn_tuple) q_tuple rfl b_tuple boot_tuple' (xa (xlc [("number", 7)] rfl nd (ri_val (re_rev (xv 1))) (blkOk_by (by kernel_rfl)) (by decide) (fun _ _ _ _ _ => ⟨(xgn nd), rts_nil, (re_bin ov_sub q_sub (re_int) (xv 7))⟩)) ra_nil)) ra_nil) (len_cons len_nil)) (re_int)) (xv 4) (nomark _)) (rss_cons (rs_ret (re_bl))
 rss_nil) rss_nil)
 (rss_cons (xset nd (re_fn c__law_take hr hg (takes_of rfl rfl rfl rfl) (xa (xv 0) (xa (re_bin ov_add q_add (re_callB (cvn_len) q_len rfl b_len boot_len' (xa (xv 1) ra_nil)) (re_int)) ra_nil)) (len_cons (len_cons len_nil))))
 (rss_cons (xset nd (xix (re_fn c_fewest_tracks hr hg (takes_of rfl rfl rfl rfl) (xa (re_bin ov_add q_add (re_bin ov_add q_add (re_sl (xv 1) ro_none (ro_some (xv 8))) (re_tup (xa (re_bin ov_add q_add (re_int) (re_fn c__law_take hr hg (takes_of rfl rfl rfl rfl) (xa (xv 0) (xa (re_int) ra_nil)) (len_cons (len_cons len_nil)))) ra_nil))) (re_sl (xv 1) (ro_some (xv 8)) ro_none)) ra_nil) (len_cons len_nil)) (re_int)))
 (rss_cons (rs_ret ((re_and (re_cmp (cv_in) (re_bin ov_sub q_sub (xv 9) (xv 4)) (re_tup (xa (re_int) (xa (re_int) ra_nil))) (by with_unfolding_all rfl)) (re_one (re_cmp (cv_ge) (re_bin ov_mul q_mul (xv 4) (re_callB (cvn_maxA rfl hr.units) q_maxA rfl b_max boot_max' (xa (xlc [("lot", 5)] rfl nd (ri_val (xv 3)) (blkOk_by (by kernel_rfl)) (by decide) (fun _ _ _ _ _ => ⟨(xgn nd), (rts_one (xtv (re_fn c__law_can_stand hr hg takes0 (xa (xv 1) (xa (xv 5) ra_nil)) (len_cons (len_cons len_nil))))), (re_callB (cvn_len) q_len rfl b_len boot_len' (xa (xv 5) ra_nil))⟩)) ra_nil))) (re_callB (cvn_len) q_len rfl b_len boot_len' (xa (xv 1) ra_nil)) (nomark _))))))
 rss_nil)))))))))
/-! law -/
def f_law : List PV → MH → R PV := runB
 (sSeq (sFor (mSrc (mCall f__law_cells (mCons (mVar 0) (mCons (mK (.int 3)) mNil)))) (.nm 1) (sSeq (sAsg (mCall f__law_pot (mCons (mVar 0) (mCons (mVar 1) mNil))) (.nm 2))
 (sSeq (sIf ((mOrT (mNotT (mTest (mCall f__law_right (mCons (mVar 2) mNil)))) (mNotT (mTest (mCall f__law_right (mCons (mVar 2) mNil)))))) (sSeq (sRet (mK (.bl false)))
 sNext) sNext)
 sNext)))
 (sSeq (sRet (mCmp eqD (mCallOp opRepr (mCons (mCall f_fewest_tracks (mCons (mTup mNil) mNil)) mNil)) (mK (.str "(0, (), ())"))))
 sNext)) 3
theorem sc_law : FnScope ["script", "place", "pot"] ["script"] (defScope (top 39)) := ⟨rfl, rfl, rfl, by decide +kernel, rfl, by decide +kernel, by decide +kernel⟩
theorem pl_law : Plain (defArgs (top 39)) ["script"] := ⟨rfl, rfl, rfl, rfl, rfl, by decide +kernel⟩
theorem ok_law {P : Program} {w : World} {K : PySem.W.Frag} {mg : Str → Option Value} {base : Heap} {f : Addr} {fd : FuncData} (F : FnP K "law" (top 39) f fd) (hm : mg "law" = some (.ref f)) (c__law_cells : Cal P w K mg base 11 "_law_cells" ["script", "limit"] f__law_cells) (c__law_pot : Cal P w K mg base 11 "_law_pot" ["script", "place"] f__law_pot) (c__law_right : Cal P w K mg base 11 "_law_right" ["pot"] f__law_right) (c_fewest_tracks : Cal P w K mg base 11 "fewest_tracks" ["row"] f_fewest_tracks) (b_repr : mg "repr" = none) : FnG P w K mg base 12 f fd ["script"] (spE ⟨K, w, P⟩ 1 f_law) :=
  fng_fd F sc_law fun cdv A outer s H E hr hg => have nd := sc_law.nd
 (rss_cons (xfor (passes_of rfl) rfl (ri_val (re_fn c__law_cells hr hg (takes_of rfl rfl rfl rfl) (xa (xv 0) (xa (re_int) ra_nil)) (len_cons (len_cons len_nil)))) (xgn nd) (rss_cons (xset nd (re_fn c__law_pot hr hg (takes_of rfl rfl rfl rfl) (xa (xv 0) (xa (xv 1) ra_nil)) (len_cons (len_cons len_nil))))
 (rss_cons (rs_if (PW.pt (rw_or (rt_not (xtv (re_fn c__law_right hr hg (takes_of rfl rfl rfl rfl) (xa (xv 2) ra_nil) (len_cons len_nil)))) (rw_or1 (rt_not (xtv (re_fn c__law_right hr hg (takes_of rfl rfl rfl rfl) (xa (xv 2) ra_nil) (len_cons len_nil))))))) (rss_cons (rs_ret (re_bl))
 rss_nil) rss_nil)
 rss_nil)))
 (rss_cons (rs_ret (re_cmp (cv_eq hr.units) (re_callB (cvn_repr hg (room_128 hr)) q_repr rfl b_repr boot_repr' (xa (re_fn c_fewest_tracks hr hg (takes_of rfl rfl rfl rfl) (xa (re_tup ra_nil) ra_nil) (len_cons len_nil)) ra_nil)) (re_str) (nomark _)))
 rss_nil))
/-! the head -/
def d_is_integer : He.DefD := ⟨("is_integer", none), "is_integer", "is_integer", defArgs (top 4), defBody (top 4), defScope (top 4), [], []⟩
def d_is_between : He.DefD := ⟨("is_between", none), "is_between", "is_between", defArgs (top 5), defBody (top 5), defScope (top 5), [], []⟩
def d_is_row : He.DefD := ⟨("is_row", none), "is_row", "is_row", defArgs (top 9), defBody (top 9), defScope (top 9), [], []⟩
def d_check_row : He.DefD := ⟨("check_row", none), "check_row", "check_row", defArgs (top 10), defBody (top 10), defScope (top 10), [], []⟩
def d_are_places_of : He.DefD := ⟨("are_places_of", none), "are_places_of", "are_places_of", defArgs (top 14), defBody (top 14), defScope (top 14), [], []⟩
def d_crossed : He.DefD := ⟨("crossed", none), "crossed", "crossed", defArgs (top 15), defBody (top 15), defScope (top 15), [], []⟩
def d_are_right : He.DefD := ⟨("are_right", none), "are_right", "are_right", defArgs (top 16), defBody (top 16), defScope (top 16), [], []⟩
def d_is_lot : He.DefD := ⟨("is_lot", none), "is_lot", "is_lot", defArgs (top 17), defBody (top 17), defScope (top 17), [], []⟩
def d_fitted : He.DefD := ⟨("fitted", none), "fitted", "fitted", defArgs (top 18), defBody (top 18), defScope (top 18), [], []⟩
def d_longest_lot : He.DefD := ⟨("longest_lot", none), "longest_lot", "longest_lot", defArgs (top 19), defBody (top 19), defScope (top 19), [], []⟩
def d_fewest_tracks : He.DefD := ⟨("fewest_tracks", none), "fewest_tracks", "fewest_tracks", defArgs (top 20), defBody (top 20), defScope (top 20), [], []⟩
def d_shows_fewest_tracks : He.DefD := ⟨("shows_fewest_tracks", none), "shows_fewest_tracks", "shows_fewest_tracks", defArgs (top 21), defBody (top 21), defScope (top 21), [], []⟩
def d__law_pot : He.DefD := ⟨("_law_pot", none), "_law_pot", "_law_pot", defArgs (top 23), defBody (top 23), defScope (top 23), [], []⟩
def d__law_take : He.DefD := ⟨("_law_take", none), "_law_take", "_law_take", defArgs (top 24), defBody (top 24), defScope (top 24), [], []⟩
def d__law_of : He.DefD := ⟨("_law_of", none), "_law_of", "_law_of", defArgs (top 25), defBody (top 25), defScope (top 25), [], []⟩
def d__law_cells : He.DefD := ⟨("_law_cells", none), "_law_cells", "_law_cells", defArgs (top 26), defBody (top 26), defScope (top 26), [], []⟩
def d__law_row : He.DefD := ⟨("_law_row", none), "_law_row", "_law_row", defArgs (top 27), defBody (top 27), defScope (top 27), [], []⟩
def d__law_lots : He.DefD := ⟨("_law_lots", none), "_law_lots", "_law_lots", defArgs (top 28), defBody (top 28), defScope (top 28), [], []⟩
def d__law_do_cross : He.DefD := ⟨("_law_do_cross", none), "_law_do_cross", "_law_do_cross", defArgs (top 29), defBody (top 29), defScope (top 29), [], []⟩
def d__law_can_stand : He.DefD := ⟨("_law_can_stand", none), "_law_can_stand", "_law_can_stand", defArgs (top 30), defBody (top 30), defScope (top 30), [], []⟩
def d__law_is_int : He.DefD := ⟨("_law_is_int", none), "_law_is_int", "_law_is_int", defArgs (top 31), defBody (top 31), defScope (top 31), [], []⟩
def d__law_are_places : He.DefD := ⟨("_law_are_places", none), "_law_are_places", "_law_are_places", defArgs (top 32), defBody (top 32), defScope (top 32), [], []⟩
def d__law_is_lot : He.DefD := ⟨("_law_is_lot", none), "_law_is_lot", "_law_is_lot", defArgs (top 33), defBody (top 33), defScope (top 33), [], []⟩
def d__law_odd : He.DefD := ⟨("_law_odd", none), "_law_odd", "_law_odd", defArgs (top 34), defBody (top 34), defScope (top 34), [], []⟩
def d__law_bent : He.DefD := ⟨("_law_bent", none), "_law_bent", "_law_bent", defArgs (top 35), defBody (top 35), defScope (top 35), [], []⟩
def d__law_is_shown : He.DefD := ⟨("_law_is_shown", none), "_law_is_shown", "_law_is_shown", defArgs (top 36), defBody (top 36), defScope (top 36), [], []⟩
def d__law_values : He.DefD := ⟨("_law_values", none), "_law_values", "_law_values", defArgs (top 37), defBody (top 37), defScope (top 37), [], []⟩
def d__law_right : He.DefD := ⟨("_law_right", none), "_law_right", "_law_right", defArgs (top 38), defBody (top 38), defScope (top 38), [], []⟩
def d_law : He.DefD := ⟨("law", none), "law", "law", defArgs (top 39), defBody (top 39), defScope (top 39), [], []⟩
def fn : List He.DefD := [d_is_integer, d_is_between, d_is_row, d_check_row, d_are_places_of, d_crossed, d_are_right, d_is_lot, d_fitted, d_longest_lot, d_fewest_tracks, d_shows_fewest_tracks, d__law_pot, d__law_take, d__law_of, d__law_cells, d__law_row, d__law_lots, d__law_do_cross, d__law_can_stand, d__law_is_int, d__law_are_places, d__law_is_lot, d__law_odd, d__law_bent, d__law_is_shown, d__law_values, d__law_right, d_law]
def fa : List He.Fa := [.glo "is_integer", .glo "is_between", .glo "is_row", .glo "check_row", .glo "are_places_of", .glo "crossed", .glo "are_right", .glo "is_lot", .glo "fitted", .glo "longest_lot", .glo "fewest_tracks", .glo "shows_fewest_tracks", .glo "_law_pot", .glo "_law_take", .glo "_law_of", .glo "_law_cells", .glo "_law_row", .glo "_law_lots", .glo "_law_do_cross", .glo "_law_can_stand", .glo "_law_is_int", .glo "_law_are_places", .glo "_law_is_lot", .glo "_law_odd", .glo "_law_bent", .glo "_law_is_shown", .glo "_law_values", .glo "_law_right", .glo "law", .free "isinstance", .free "int", .free "bool", .free "tuple", .free "len", .free "all", .free "range", .free "list", .free "zip", .free "enumerate", .free "max", .free "abs", .free "min", .free "set", .free "sorted", .free "str", .free "any", .free "repr", .int "MOST_CARS" 30, .int "MOST_NUMBER" 99, .int "MOST_TRACKS" 30, .int "THREE" 3]
abbrev R : PySem.W.OpenRow := PySem.W.OpenLaw.row PySem.Challenge.rw_tracksenough_k10_whole_fewest_tracks
abbrev hk : PySem.W.Hook := He.hookD 4 fa fn
def ob (s : PySem.W.SharedT) : He.AlD := He.obsDG 4 fa fn (HandSHeadRun.getT s)
theorem ob_eq (s : PySem.W.SharedT) : ob s = hk.obs s.abs := He.obsDG_eq (HandSHeadRun.getT_eq s)
def names : List PySem.Str := (["TrackError", "BadRow", "is_integer", "is_between", "MOST_CARS", "MOST_NUMBER", "is_row", "check_row", "MOST_TRACKS", "THREE", "are_places_of", "crossed", "are_right", "is_lot", "fitted", "longest_lot", "fewest_tracks", "shows_fewest_tracks", "_law_pot", "_law_take", "_law_of", "_law_cells", "_law_row", "_law_lots", "_law_do_cross", "_law_can_stand", "_law_is_int", "_law_are_places", "_law_is_lot", "_law_odd", "_law_bent", "_law_is_shown", "_law_values", "_law_right"] : List String).map Str.ofString
theorem run (w : World) : HandSHeadRun.RunEq R (PySem.W.view R.prog [39]) hk ob 4000 names w := by
  intro os
  kernel_rfl
theorem facts {P : Program} {w : World} {K : PySem.W.Frag} {h : Heap} {mg : Str → Option Value} {f : Addr} (X : K.In h) (G : h.Ns mainGlobals mg) (hfa : mg "law" = some (.ref f)) (c : He.SaysD fa fn K) :
    ∃ fd : FuncData, (∀ (s : Shared) (u : Value), BindsTo s fd ⟨[u], []⟩ [("script", u)]) ∧ ∀ bs : Heap, K.In bs → bs.Ns mainGlobals mg → FnG P w K mg bs 12 f fd ["script"] (spE ⟨K, w, P⟩ 1 f_law) := by
  obtain ⟨fd_is_integer, F_is_integer⟩ := c.def_ 0 (d := d_is_integer) rfl
  obtain ⟨fd_is_between, F_is_between⟩ := c.def_ 1 (d := d_is_between) rfl
  obtain ⟨fd_is_row, F_is_row⟩ := c.def_ 2 (d := d_is_row) rfl
  obtain ⟨fd_check_row, F_check_row⟩ := c.def_ 3 (d := d_check_row) rfl
  obtain ⟨fd_are_places_of, F_are_places_of⟩ := c.def_ 4 (d := d_are_places_of) rfl
  obtain ⟨fd_crossed, F_crossed⟩ := c.def_ 5 (d := d_crossed) rfl
  obtain ⟨fd_are_right, F_are_right⟩ := c.def_ 6 (d := d_are_right) rfl
  obtain ⟨fd_is_lot, F_is_lot⟩ := c.def_ 7 (d := d_is_lot) rfl
  obtain ⟨fd_fitted, F_fitted⟩ := c.def_ 8 (d := d_fitted) rfl
  obtain ⟨fd_longest_lot, F_longest_lot⟩ := c.def_ 9 (d := d_longest_lot) rfl
  obtain ⟨fd_fewest_tracks, F_fewest_tracks⟩ := c.def_ 10 (d := d_fewest_tracks) rfl
  obtain ⟨fd_shows_fewest_tracks, F_shows_fewest_tracks⟩ := c.def_ 11 (d := d_shows_fewest_tracks) rfl
  obtain ⟨fd__law_pot, F__law_pot⟩ := c.def_ 12 (d := d__law_pot) rfl
  obtain ⟨fd__law_take, F__law_take⟩ := c.def_ 13 (d := d__law_take) rfl
  obtain ⟨fd__law_of, F__law_of⟩ := c.def_ 14 (d := d__law_of) rfl
  obtain ⟨fd__law_cells, F__law_cells⟩ := c.def_ 15 (d := d__law_cells) rfl
  obtain ⟨fd__law_row, F__law_row⟩ := c.def_ 16 (d := d__law_row) rfl
  obtain ⟨fd__law_lots, F__law_lots⟩ := c.def_ 17 (d := d__law_lots) rfl
  obtain ⟨fd__law_do_cross, F__law_do_cross⟩ := c.def_ 18 (d := d__law_do_cross) rfl
  obtain ⟨fd__law_can_stand, F__law_can_stand⟩ := c.def_ 19 (d := d__law_can_stand) rfl
  obtain ⟨fd__law_is_int, F__law_is_int⟩ := c.def_ 20 (d := d__law_is_int) rfl
  obtain ⟨fd__law_are_places, F__law_are_places⟩ := c.def_ 21 (d := d__law_are_places) rfl
  obtain ⟨fd__law_is_lot, F__law_is_lot⟩ := c.def_ 22 (d := d__law_is_lot) rfl
  obtain ⟨fd__law_odd, F__law_odd⟩ := c.def_ 23 (d := d__law_odd) rfl
  obtain ⟨fd__law_bent, F__law_bent⟩ := c.def_ 24 (d := d__law_bent) rfl
  obtain ⟨fd__law_is_shown, F__law_is_shown⟩ := c.def_ 25 (d := d__law_is_shown) rfl
  obtain ⟨fd__law_values, F__law_values⟩ := c.def_ 26 (d := d__law_values) rfl
  obtain ⟨fd__law_right, F__law_right⟩ := c.def_ 27 (d := d__law_right) rfl
  obtain ⟨fd_law, F_law⟩ := c.def_ 28 (d := d_law) rfl
  have g_is_integer := He.glo_ok X G (c.fact 0 (f := .glo "is_integer") rfl)
  have g_is_between := He.glo_ok X G (c.fact 1 (f := .glo "is_between") rfl)
  have g_is_row := He.glo_ok X G (c.fact 2 (f := .glo "is_row") rfl)
  have g_check_row := He.glo_ok X G (c.fact 3 (f := .glo "check_row") rfl)
  have g_are_places_of := He.glo_ok X G (c.fact 4 (f := .glo "are_places_of") rfl)
  have g_crossed := He.glo_ok X G (c.fact 5 (f := .glo "crossed") rfl)
  have g_are_right := He.glo_ok X G (c.fact 6 (f := .glo "are_right") rfl)
  have g_is_lot := He.glo_ok X G (c.fact 7 (f := .glo "is_lot") rfl)
  have g_fitted := He.glo_ok X G (c.fact 8 (f := .glo "fitted") rfl)
  have g_longest_lot := He.glo_ok X G (c.fact 9 (f := .glo "longest_lot") rfl)
  have g_fewest_tracks := He.glo_ok X G (c.fact 10 (f := .glo "fewest_tracks") rfl)
  have g_shows_fewest_tracks := He.glo_ok X G (c.fact 11 (f := .glo "shows_fewest_tracks") rfl)
  have g__law_pot := He.glo_ok X G (c.fact 12 (f := .glo "_law_pot") rfl)
  have g__law_take := He.glo_ok X G (c.fact 13 (f := .glo "_law_take") rfl)
  have g__law_of := He.glo_ok X G (c.fact 14 (f := .glo "_law_of") rfl)
  have g__law_cells := He.glo_ok X G (c.fact 15 (f := .glo "_law_cells") rfl)
  have g__law_row := He.glo_ok X G (c.fact 16 (f := .glo "_law_row") rfl)
  have g__law_lots := He.glo_ok X G (c.fact 17 (f := .glo "_law_lots") rfl)
  have g__law_do_cross := He.glo_ok X G (c.fact 18 (f := .glo "_law_do_cross") rfl)
  have g__law_can_stand := He.glo_ok X G (c.fact 19 (f := .glo "_law_can_stand") rfl)
  have g__law_is_int := He.glo_ok X G (c.fact 20 (f := .glo "_law_is_int") rfl)
  have g__law_are_places := He.glo_ok X G (c.fact 21 (f := .glo "_law_are_places") rfl)
  have g__law_is_lot := He.glo_ok X G (c.fact 22 (f := .glo "_law_is_lot") rfl)
  have g__law_odd := He.glo_ok X G (c.fact 23 (f := .glo "_law_odd") rfl)
  have g__law_bent := He.glo_ok X G (c.fact 24 (f := .glo "_law_bent") rfl)
  have g__law_is_shown := He.glo_ok X G (c.fact 25 (f := .glo "_law_is_shown") rfl)
  have g__law_values := He.glo_ok X G (c.fact 26 (f := .glo "_law_values") rfl)
  have g__law_right := He.glo_ok X G (c.fact 27 (f := .glo "_law_right") rfl)
  have g_law := He.glo_ok X G (c.fact 28 (f := .glo "law") rfl)
  have b_isinstance := He.free_ok X G (c.fact 29 (f := .free "isinstance") rfl)
  have b_int := He.free_ok X G (c.fact 30 (f := .free "int") rfl)
  have b_bool := He.free_ok X G (c.fact 31 (f := .free "bool") rfl)
  have b_tuple := He.free_ok X G (c.fact 32 (f := .free "tuple") rfl)
  have b_len := He.free_ok X G (c.fact 33 (f := .free "len") rfl)
  have b_all := He.free_ok X G (c.fact 34 (f := .free "all") rfl)
  have b_range := He.free_ok X G (c.fact 35 (f := .free "range") rfl)
  have b_list := He.free_ok X G (c.fact 36 (f := .free "list") rfl)
  have b_zip := He.free_ok X G (c.fact 37 (f := .free "zip") rfl)
  have b_enumerate := He.free_ok X G (c.fact 38 (f := .free "enumerate") rfl)
  have b_max := He.free_ok X G (c.fact 39 (f := .free "max") rfl)
  have b_abs := He.free_ok X G (c.fact 40 (f := .free "abs") rfl)
  have b_min := He.free_ok X G (c.fact 41 (f := .free "min") rfl)
  have b_set := He.free_ok X G (c.fact 42 (f := .free "set") rfl)
  have b_sorted := He.free_ok X G (c.fact 43 (f := .free "sorted") rfl)
  have b_str := He.free_ok X G (c.fact 44 (f := .free "str") rfl)
  have b_any := He.free_ok X G (c.fact 45 (f := .free "any") rfl)
  have b_repr := He.free_ok X G (c.fact 46 (f := .free "repr") rfl)
  have c_MOST_CARS := He.int_ok X G (c.fact 47 (f := .int "MOST_CARS" 30) rfl)
  have c_MOST_NUMBER := He.int_ok X G (c.fact 48 (f := .int "MOST_NUMBER" 99) rfl)
  have c_MOST_TRACKS := He.int_ok X G (c.fact 49 (f := .int "MOST_TRACKS" 30) rfl)
  have c_THREE := He.int_ok X G (c.fact 50 (f := .int "THREE" 3) rfl)
  have e := hfa.symm.trans g_law
  cases e
  have b := FunD.bindsA (ps := ["script"]) F_law fun kV doc pm an cdv ct us hl => bind_plain pl_law rfl us hl
  refine ⟨fd_law, fun s u => b s [u] rfl, fun bs h1 h2 => ?_⟩
  have k_is_integer : Cal P w K mg bs 1 "is_integer" ["value"] f_is_integer := (ok_is_integer F_is_integer g_is_integer b_isinstance b_int b_bool)
  have k_is_between : Cal P w K mg bs 2 "is_between" ["value", "low", "high"] f_is_between := (ok_is_between F_is_between g_is_between (k_is_integer.mono (by decide)))
  have k_is_row : Cal P w K mg bs 3 "is_row" ["value"] f_is_row := (ok_is_row F_is_row g_is_row (k_is_between.mono (by decide)) b_isinstance b_tuple b_len b_all c_MOST_CARS c_MOST_NUMBER)
  have k_check_row : Cal P w K mg bs 4 "check_row" ["value"] f_check_row := (ok_check_row F_check_row g_check_row (k_is_row.mono (by decide)))
  have k_are_places_of : Cal P w K mg bs 3 "are_places_of" ["row", "value"] f_are_places_of := (ok_are_places_of F_are_places_of g_are_places_of (k_is_between.mono (by decide)) b_isinstance b_tuple b_len b_all c_MOST_TRACKS)
  have k_crossed : Cal P w K mg bs 1 "crossed" ["row", "places"] f_crossed := (ok_crossed F_crossed g_crossed b_len b_range)
  have k_are_right : Cal P w K mg bs 4 "are_right" ["row", "value", "many"] f_are_right := (ok_are_right F_are_right g_are_right (k_are_places_of.mono (by decide)) (k_crossed.mono (by decide)) b_all)
  have k_is_lot : Cal P w K mg bs 3 "is_lot" ["row", "value"] f_is_lot := (ok_is_lot F_is_lot g_is_lot (k_is_between.mono (by decide)) b_isinstance b_tuple b_len b_all b_list b_zip)
  have k_fitted : Cal P w K mg bs 1 "fitted" ["row"] f_fitted := (ok_fitted F_fitted g_fitted b_enumerate b_len b_tuple)
  have k_longest_lot : Cal P w K mg bs 1 "longest_lot" ["row", "places"] f_longest_lot := (ok_longest_lot F_longest_lot g_longest_lot b_max b_len b_range b_tuple)
  have k_fewest_tracks : Cal P w K mg bs 5 "fewest_tracks" ["row"] f_fewest_tracks := (ok_fewest_tracks F_fewest_tracks g_fewest_tracks (k_check_row.mono (by decide)) (k_fitted.mono (by decide)) (k_longest_lot.mono (by decide)) b_max)
  have k_shows_fewest_tracks : Cal P w K mg bs 5 "shows_fewest_tracks" ["row", "value"] f_shows_fewest_tracks := (ok_shows_fewest_tracks F_shows_fewest_tracks g_shows_fewest_tracks (k_check_row.mono (by decide)) (k_is_integer.mono (by decide)) (k_are_right.mono (by decide)) (k_is_lot.mono (by decide)) b_isinstance b_tuple b_len c_THREE)
  have k__law_pot : Cal P w K mg bs 1 "_law_pot" ["script", "place"] f__law_pot := (ok__law_pot F__law_pot g__law_pot b_len b_abs b_int)
  have k__law_take : Cal P w K mg bs 1 "_law_take" ["pot", "upto"] f__law_take := (ok__law_take F__law_take g__law_take b_int)
  have k__law_of : Cal P w K mg bs 2 "_law_of" ["pot", "some"] f__law_of := (ok__law_of F__law_of g__law_of (k__law_take.mono (by decide)) b_len)
  have k__law_cells : Cal P w K mg bs 1 "_law_cells" ["script", "limit"] f__law_cells := (ok__law_cells F__law_cells g__law_cells b_len b_min b_max b_list b_range)
  have k__law_row : Cal P w K mg bs 2 "_law_row" ["pot", "most", "wide"] f__law_row := (ok__law_row F__law_row g__law_row (k__law_take.mono (by decide)) b_range b_tuple)
  have k__law_lots : Cal P w K mg bs 1 "_law_lots" ["many"] f__law_lots := (ok__law_lots F__law_lots g__law_lots b_range)
  have k__law_do_cross : Cal P w K mg bs 1 "_law_do_cross" ["row", "lot"] f__law_do_cross := (ok__law_do_cross F__law_do_cross g__law_do_cross b_zip b_all)
  have k__law_can_stand : Cal P w K mg bs 1 "_law_can_stand" ["row", "lot"] f__law_can_stand := (ok__law_can_stand F__law_can_stand g__law_can_stand b_zip b_all)
  have k__law_is_int : Cal P w K mg bs 1 "_law_is_int" ["value", "low", "high"] f__law_is_int := (ok__law_is_int F__law_is_int g__law_is_int b_isinstance b_int b_bool)
  have k__law_are_places : Cal P w K mg bs 2 "_law_are_places" ["row", "value", "many"] f__law_are_places := (ok__law_are_places F__law_are_places g__law_are_places (k__law_is_int.mono (by decide)) (k__law_can_stand.mono (by decide)) b_isinstance b_tuple b_len b_all b_range)
  have k__law_is_lot : Cal P w K mg bs 2 "_law_is_lot" ["row", "value"] f__law_is_lot := (ok__law_is_lot F__law_is_lot g__law_is_lot (k__law_is_int.mono (by decide)) (k__law_do_cross.mono (by decide)) b_isinstance b_tuple b_len b_all b_list b_set b_sorted)
  have k__law_odd : Cal P w K mg bs 3 "_law_odd" ["pot"] f__law_odd := (ok__law_odd F__law_odd g__law_odd (k__law_of.mono (by decide)) (k__law_take.mono (by decide)) b_range)
  have k__law_bent : Cal P w K mg bs 9 "_law_bent" ["pot", "value"] (f__law_bent 6) := (ok__law_bent F__law_bent g__law_bent (k__law_take.mono (by decide)) (k__law_odd.mono (by decide)) (k__law_of.mono (by decide)) b_isinstance b_tuple b_len b_list b_bool b_int b_str 6).mono (by decide)
  have k__law_is_shown : Cal P w K mg bs 3 "_law_is_shown" ["row", "value"] f__law_is_shown := (ok__law_is_shown F__law_is_shown g__law_is_shown (k__law_is_int.mono (by decide)) (k__law_are_places.mono (by decide)) (k__law_is_lot.mono (by decide)) b_isinstance b_tuple b_len b_any)
  have k__law_values : Cal P w K mg bs 10 "_law_values" ["pot", "row", "told"] f__law_values := (ok__law_values F__law_values g__law_values (k__law_take.mono (by decide)) (k__law_bent.mono (by decide)) (k__law_odd.mono (by decide)) b_list b_len b_tuple b_range)
  have k__law_right : Cal P w K mg bs 11 "_law_right" ["pot"] f__law_right := (ok__law_right F__law_right g__law_right (k__law_of.mono (by decide)) (k__law_row.mono (by decide)) (k__law_lots.mono (by decide)) (k_fewest_tracks.mono (by decide)) (k__law_do_cross.mono (by decide)) (k__law_is_shown.mono (by decide)) (k__law_values.mono (by decide)) (k_shows_fewest_tracks.mono (by decide)) (k__law_take.mono (by decide)) (k__law_can_stand.mono (by decide)) b_len b_max b_repr b_tuple)
  exact ok_law F_law g_law (k__law_cells.mono (by decide)) (k__law_pot.mono (by decide)) (k__law_right.mono (by decide)) (k_fewest_tracks.mono (by decide)) b_repr

end K10
namespace K10
open PySem PySem.Spec PyProof.Rows L2 RZ Ev
theorem is_integer_s {v : PV} {mh : MH} {t : String} (h : tyOf v mh = some t) {Q : PV → MH → Prop} (q : Q (.bl (isI v)) mh) : Ok (f_is_integer [v] mh) Q := by
  unfold f_is_integer
  try simp only [if_true, if_false, Bool.false_eq_true, okS_nx, ok_trB, ok_trI, ok_bind, ok_bin, ok_un, ok_k, ok_cmp, ok_cmpT, ok_chain, ok_bl, ok_nil, ok_cons, ok_call, ok_callOp, ok_isi, ok_test, ok_andT, ok_orT, ok_notT, ok_isBl, ok_andV, ok_orV, ok_notV, ok_if, okS_next, okS_seq, okS_ret, okS_expr, okS_if, okS_set, ok_run, ok_src, ok_range, ok_ok, ok_obv, ok_ob, sNext, ok_var0, ok_varS, List.map_cons, List.map_nil, List.length_cons, List.length_nil, List.replicate_succ, List.replicate_zero, List.cons_append, List.nil_append, List.getElem?_cons_zero, List.getElem?_cons_succ, List.set_cons_zero, List.set_cons_succ, Nat.reduceAdd, Nat.reduceSub, Nat.sub_self, Nat.zero_add, Nat.sub_zero]
  rw [ok_isTy (by simp) h]
  try simp only [if_true, if_false, Bool.false_eq_true, okS_nx, ok_trB, ok_trI, ok_bind, ok_bin, ok_un, ok_k, ok_cmp, ok_cmpT, ok_chain, ok_bl, ok_nil, ok_cons, ok_call, ok_callOp, ok_isi, ok_test, ok_andT, ok_orT, ok_notT, ok_isBl, ok_andV, ok_orV, ok_notV, ok_if, okS_next, okS_seq, okS_ret, okS_expr, okS_if, okS_set, ok_run, ok_src, ok_range, ok_ok, ok_obv, ok_ob, sNext, ok_var0, ok_varS, List.map_cons, List.map_nil, List.length_cons, List.length_nil, List.replicate_succ, List.replicate_zero, List.cons_append, List.nil_append, List.getElem?_cons_zero, List.getElem?_cons_succ, List.set_cons_zero, List.set_cons_succ, Nat.reduceAdd, Nat.reduceSub, Nat.sub_self, Nat.zero_add, Nat.sub_zero]
  have e := tyIs_isI h
  cases h1 : tyIs "int" t with
  | false =>
    rw [h1] at e
    simp only [Bool.false_and] at e
    rw [← e] at q
    exact q
  | true =>
    rw [h1] at e
    simp only [Bool.true_and] at e
    simp only [if_true]
    try simp only [if_true, if_false, Bool.false_eq_true, okS_nx, ok_trB, ok_trI, ok_bind, ok_bin, ok_un, ok_k, ok_cmp, ok_cmpT, ok_chain, ok_bl, ok_nil, ok_cons, ok_call, ok_callOp, ok_isi, ok_test, ok_andT, ok_orT, ok_notT, ok_isBl, ok_andV, ok_orV, ok_notV, ok_if, okS_next, okS_seq, okS_ret, okS_expr, okS_if, okS_set, ok_run, ok_src, ok_range, ok_ok, ok_obv, ok_ob, sNext, ok_var0, ok_varS, List.map_cons, List.map_nil, List.length_cons, List.length_nil, List.replicate_succ, List.replicate_zero, List.cons_append, List.nil_append, List.getElem?_cons_zero, List.getElem?_cons_succ, List.set_cons_zero, List.set_cons_succ, Nat.reduceAdd, Nat.reduceSub, Nat.sub_self, Nat.zero_add, Nat.sub_zero]
    rw [ok_isTy (by simp) h]
    try simp only [if_true, if_false, Bool.false_eq_true, okS_nx, ok_trB, ok_trI, ok_bind, ok_bin, ok_un, ok_k, ok_cmp, ok_cmpT, ok_chain, ok_bl, ok_nil, ok_cons, ok_call, ok_callOp, ok_isi, ok_test, ok_andT, ok_orT, ok_notT, ok_isBl, ok_andV, ok_orV, ok_notV, ok_if, okS_next, okS_seq, okS_ret, okS_expr, okS_if, okS_set, ok_run, ok_src, ok_range, ok_ok, ok_obv, ok_ob, sNext, ok_var0, ok_varS, List.map_cons, List.map_nil, List.length_cons, List.length_nil, List.replicate_succ, List.replicate_zero, List.cons_append, List.nil_append, List.getElem?_cons_zero, List.getElem?_cons_succ, List.set_cons_zero, List.set_cons_succ, Nat.reduceAdd, Nat.reduceSub, Nat.sub_self, Nat.zero_add, Nat.sub_zero]
    rw [e]
    exact q
theorem is_between_s {v : PV} {mh : MH} {t : String} {lo hi : Int} (h : tyOf v mh = some t) {Q : PV → MH → Prop} (q : Q (.bl (isIn v lo hi)) mh) : Ok (f_is_between [v, .int lo, .int hi] mh) Q := by
  unfold f_is_between
  try simp only [if_true, if_false, Bool.false_eq_true, okS_nx, ok_trB, ok_trI, ok_bind, ok_bin, ok_un, ok_k, ok_cmp, ok_cmpT, ok_chain, ok_bl, ok_nil, ok_cons, ok_call, ok_callOp, ok_isi, ok_test, ok_andT, ok_orT, ok_notT, ok_isBl, ok_andV, ok_orV, ok_notV, ok_if, okS_next, okS_seq, okS_ret, okS_expr, okS_if, okS_set, ok_run, ok_src, ok_range, ok_ok, ok_obv, ok_ob, sNext, ok_var0, ok_varS, List.map_cons, List.map_nil, List.length_cons, List.length_nil, List.replicate_succ, List.replicate_zero, List.cons_append, List.nil_append, List.getElem?_cons_zero, List.getElem?_cons_succ, List.set_cons_zero, List.set_cons_succ, Nat.reduceAdd, Nat.reduceSub, Nat.sub_self, Nat.zero_add, Nat.sub_zero]
  refine is_integer_s h ?_
  try simp only [if_true, if_false, Bool.false_eq_true, okS_nx, ok_trB, ok_trI, ok_bind, ok_bin, ok_un, ok_k, ok_cmp, ok_cmpT, ok_chain, ok_bl, ok_nil, ok_cons, ok_call, ok_callOp, ok_isi, ok_test, ok_andT, ok_orT, ok_notT, ok_isBl, ok_andV, ok_orV, ok_notV, ok_if, okS_next, okS_seq, okS_ret, okS_expr, okS_if, okS_set, ok_run, ok_src, ok_range, ok_ok, ok_obv, ok_ob, sNext, ok_var0, ok_varS, List.map_cons, List.map_nil, List.length_cons, List.length_nil, List.replicate_succ, List.replicate_zero, List.cons_append, List.nil_append, List.getElem?_cons_zero, List.getElem?_cons_succ, List.set_cons_zero, List.set_cons_succ, Nat.reduceAdd, Nat.reduceSub, Nat.sub_self, Nat.zero_add, Nat.sub_zero]
  cases v with
  | int i =>
    simp only [isI, if_true]
    try simp only [if_true, if_false, Bool.false_eq_true, okS_nx, ok_trB, ok_trI, ok_bind, ok_bin, ok_un, ok_k, ok_cmp, ok_cmpT, ok_chain, ok_bl, ok_nil, ok_cons, ok_call, ok_callOp, ok_isi, ok_test, ok_andT, ok_orT, ok_notT, ok_isBl, ok_andV, ok_orV, ok_notV, ok_if, okS_next, okS_seq, okS_ret, okS_expr, okS_if, okS_set, ok_run, ok_src, ok_range, ok_ok, ok_obv, ok_ob, sNext, ok_var0, ok_varS, List.map_cons, List.map_nil, List.length_cons, List.length_nil, List.replicate_succ, List.replicate_zero, List.cons_append, List.nil_append, List.getElem?_cons_zero, List.getElem?_cons_succ, List.set_cons_zero, List.set_cons_succ, Nat.reduceAdd, Nat.reduceSub, Nat.sub_self, Nat.zero_add, Nat.sub_zero]
    refine ⟨decide (lo ≤ i), rfl, ?_⟩
    unfold isIn at q
    by_cases h1 : lo ≤ i
    · simp only [h1, decide_true, if_true] at q ⊢
      try simp only [if_true, if_false, Bool.false_eq_true, okS_nx, ok_trB, ok_trI, ok_bind, ok_bin, ok_un, ok_k, ok_cmp, ok_cmpT, ok_chain, ok_bl, ok_nil, ok_cons, ok_call, ok_callOp, ok_isi, ok_test, ok_andT, ok_orT, ok_notT, ok_isBl, ok_andV, ok_orV, ok_notV, ok_if, okS_next, okS_seq, okS_ret, okS_expr, okS_if, okS_set, ok_run, ok_src, ok_range, ok_ok, ok_obv, ok_ob, sNext, ok_var0, ok_varS, List.map_cons, List.map_nil, List.length_cons, List.length_nil, List.replicate_succ, List.replicate_zero, List.cons_append, List.nil_append, List.getElem?_cons_zero, List.getElem?_cons_succ, List.set_cons_zero, List.set_cons_succ, Nat.reduceAdd, Nat.reduceSub, Nat.sub_self, Nat.zero_add, Nat.sub_zero]
      exact ⟨_, rfl, q⟩
    · simp only [h1, decide_false] at q ⊢
      exact q
  | _ => exact q
end K10
namespace K10
open PySem PySem.Spec PyProof.Rows L2 RZ Ev
/-! ### the draws: any number below upto; at most B so far -/
theorem take_s {p B : Nat} {u : Int} {mh : MH} (hp : Pot p B mh) (hB : B < 2 ^ 40) (hu : 0 < u) (hu2 : Bd 100 u) {Q : PV → MH → Prop} (q : ∀ (d : Int) h, 0 ≤ d → d < u → Pot p (B + 1) h → SubX p mh h → Q (.int d) h) : Ok (f__law_take [.ref p, .int u] mh) Q := by
  obtain ⟨own, c, t, hl, h1, h2, h3, h4, h5, h6⟩ := hp
  have i0 : ∀ {o : Int} {h : MH}, h[p]? = some (.lst (PotL o c t)) → seqOf (.ref p) h = some (PotL o c t) := fun e => seq_lst e
  have bt : Bd 41 t := by unfold Bd; omega
  have bt1 : Bd 41 (t + 1) := by unfold Bd; omega
  unfold f__law_take
  try simp only [if_true, if_false, Bool.false_eq_true, okS_nx, ok_trB, ok_trI, ok_bind, ok_bin, ok_un, ok_k, ok_cmp, ok_cmpT, ok_chain, ok_bl, ok_nil, ok_cons, ok_call, ok_callOp, ok_isi, ok_test, ok_andT, ok_orT, ok_notT, ok_isBl, ok_andV, ok_orV, ok_notV, ok_if, okS_next, okS_seq, okS_ret, okS_expr, okS_if, okS_set, ok_run, ok_src, ok_range, ok_ok, ok_obv, ok_ob, sNext, ok_var0, ok_varS, List.map_cons, List.map_nil, List.length_cons, List.length_nil, List.replicate_succ, List.replicate_zero, List.cons_append, List.nil_append, List.getElem?_cons_zero, List.getElem?_cons_succ, List.set_cons_zero, List.set_cons_succ, Nat.reduceAdd, Nat.reduceSub, Nat.sub_self, Nat.zero_add, Nat.sub_zero]
  refine ok_ix (k := 0) (i0 hl) rfl (fun _ z => by cases z) ?_
  refine ⟨_, rfl, ?_⟩
  by_cases hown : 0 < own
  · simp only [hown, decide_true, if_true]
    try simp only [if_true, if_false, Bool.false_eq_true, okS_nx, ok_trB, ok_trI, ok_bind, ok_bin, ok_un, ok_k, ok_cmp, ok_cmpT, ok_chain, ok_bl, ok_nil, ok_cons, ok_call, ok_callOp, ok_isi, ok_test, ok_andT, ok_orT, ok_notT, ok_isBl, ok_andV, ok_orV, ok_notV, ok_if, okS_next, okS_seq, okS_ret, okS_expr, okS_if, okS_set, ok_run, ok_src, ok_range, ok_ok, ok_obv, ok_ob, sNext, ok_var0, ok_varS, List.map_cons, List.map_nil, List.length_cons, List.length_nil, List.replicate_succ, List.replicate_zero, List.cons_append, List.nil_append, List.getElem?_cons_zero, List.getElem?_cons_succ, List.set_cons_zero, List.set_cons_succ, Nat.reduceAdd, Nat.reduceSub, Nat.sub_self, Nat.zero_add, Nat.sub_zero]
    refine ok_ix (k := 0) (i0 hl) rfl (fun _ z => by cases z) ?_
    rw [ok_intI]
    refine ok_modI hu ?_
    try simp only [if_true, if_false, Bool.false_eq_true, okS_nx, ok_trB, ok_trI, ok_bind, ok_bin, ok_un, ok_k, ok_cmp, ok_cmpT, ok_chain, ok_bl, ok_nil, ok_cons, ok_call, ok_callOp, ok_isi, ok_test, ok_andT, ok_orT, ok_notT, ok_isBl, ok_andV, ok_orV, ok_notV, ok_if, okS_next, okS_seq, okS_ret, okS_expr, okS_if, okS_set, ok_run, ok_src, ok_range, ok_ok, ok_obv, ok_ob, sNext, ok_var0, ok_varS, List.map_cons, List.map_nil, List.length_cons, List.length_nil, List.replicate_succ, List.replicate_zero, List.cons_append, List.nil_append, List.getElem?_cons_zero, List.getElem?_cons_succ, List.set_cons_zero, List.set_cons_succ, Nat.reduceAdd, Nat.reduceSub, Nat.sub_self, Nat.zero_add, Nat.sub_zero, okS_store]
    refine ok_ix (k := 0) (i0 hl) rfl (fun _ z => by cases z) ?_
    refine ok_divI hu hu2 (by decide) ?_
    refine ⟨mh.set p (.lst (PotL (own / u) c t)), ?_, ?_⟩
    · unfold stIx lstOf
      simp only [hl]
      rfl
    · refine q _ _ (Int.emod_nonneg _ (by omega)) (Int.emod_lt_of_pos _ hu) ⟨own / u, c, t, at_set hl _, Int.ediv_nonneg h1 (by omega), ?_, h3, h4, h5, by omega⟩ ((SubX.refl p mh).set (.inr rfl) _)
      have := Int.ediv_le_self u h1
      have := Int.ediv_nonneg h1 (show 0 ≤ u by omega)
      unfold Bd at h2 ⊢
      omega
  · simp only [hown, decide_false, Bool.false_eq_true, if_false]
    try simp only [if_true, if_false, Bool.false_eq_true, okS_nx, ok_trB, ok_trI, ok_bind, ok_bin, ok_un, ok_k, ok_cmp, ok_cmpT, ok_chain, ok_bl, ok_nil, ok_cons, ok_call, ok_callOp, ok_isi, ok_test, ok_andT, ok_orT, ok_notT, ok_isBl, ok_andV, ok_orV, ok_notV, ok_if, okS_next, okS_seq, okS_ret, okS_expr, okS_if, okS_set, ok_run, ok_src, ok_range, ok_ok, ok_obv, ok_ob, sNext, ok_var0, ok_varS, List.map_cons, List.map_nil, List.length_cons, List.length_nil, List.replicate_succ, List.replicate_zero, List.cons_append, List.nil_append, List.getElem?_cons_zero, List.getElem?_cons_succ, List.set_cons_zero, List.set_cons_succ, Nat.reduceAdd, Nat.reduceSub, Nat.sub_self, Nat.zero_add, Nat.sub_zero, okS_store]
    refine ok_ix (k := 2) (i0 hl) rfl (fun _ z => by cases z) ?_
    rw [ok_addI]
    have hl2 := at_set hl (.lst (PotL own c (t + 1)))
    refine ⟨mh.set p (.lst (PotL own c (t + 1))), ?_, ?_⟩
    · unfold stIx lstOf
      simp only [hl]
      rfl
    generalize eh : mh.set p (.lst (PotL own c (t + 1))) = m1 at hl2
    have hk : SubX p mh m1 := by
      rw [← eh]
      exact (SubX.refl p mh).set (.inr rfl) _
    have hpl : p < m1.length := (List.getElem?_eq_some_iff.mp hl2).1
    refine ok_mkl ?_
    try simp only [if_true, if_false, Bool.false_eq_true, okS_nx, ok_trB, ok_trI, ok_bind, ok_bin, ok_un, ok_k, ok_cmp, ok_cmpT, ok_chain, ok_bl, ok_nil, ok_cons, ok_call, ok_callOp, ok_isi, ok_test, ok_andT, ok_orT, ok_notT, ok_isBl, ok_andV, ok_orV, ok_notV, ok_if, okS_next, okS_seq, okS_ret, okS_expr, okS_if, okS_set, ok_run, ok_src, ok_range, ok_ok, ok_obv, ok_ob, sNext, ok_var0, ok_varS, List.map_cons, List.map_nil, List.length_cons, List.length_nil, List.replicate_succ, List.replicate_zero, List.cons_append, List.nil_append, List.getElem?_cons_zero, List.getElem?_cons_succ, List.set_cons_zero, List.set_cons_succ, Nat.reduceAdd, Nat.reduceSub, Nat.sub_self, Nat.zero_add, Nat.sub_zero]
    refine ⟨by decide, ?_⟩
    have up : ∀ o, (m1 ++ [o])[p]? = some (.lst (PotL own c (t + 1))) := fun o => Sub.push m1 o _ _ hl2
    generalize em : m1 ++ [MO.lst _] = m2
    have hl3 : m2[p]? = some (.lst (PotL own c (t + 1))) := by rw [← em]; exact up _
    have hk2 : SubX p mh m2 := by rw [← em]; exact hk.trans ((Sub.push m1 _).x p)
    have hpr : m2[m1.length]? = some (.lst [.int 2147483647, .int 2147483629, .int 2147483587, .int 2147483579, .int 2147483563]) := by rw [← em]; exact at_push _ _
    refine ok_ix (k := 2) (seq_lst hl3) rfl (fun _ z => by cases z) ?_
    rw [ok_intI]
    refine ok_modI (by decide) ?_
    have m5a := Int.emod_nonneg (t + 1) (show (5 : Int) ≠ 0 by decide)
    have m5b := Int.emod_lt_of_pos (t + 1) (show (0 : Int) < 5 by decide)
    obtain ⟨k5, hk5⟩ := Int.eq_ofNat_of_zero_le m5a
    rw [hk5] at m5b ⊢
    have hprime : ∃ pr : Int, ([.int 2147483647, .int 2147483629, .int 2147483587, .int 2147483579, .int 2147483563] : List PV)[k5]? = some (.int pr) ∧ 0 < pr ∧ Bd 31 pr := by
      have : k5 = 0 ∨ k5 = 1 ∨ k5 = 2 ∨ k5 = 3 ∨ k5 = 4 := by omega
      rcases this with z | z | z | z | z <;> (subst z; exact ⟨_, rfl, by decide, by unfold Bd; decide⟩)
    obtain ⟨pr, hp1, hp2, hp3⟩ := hprime
    refine ok_ix (k := k5) (seq_lst hpr) hp1 (fun _ z => by cases z) ?_
    refine ok_ix (k := 1) (seq_lst hl3) rfl (fun _ z => by cases z) ?_
    refine ok_ix (k := 2) (seq_lst hl3) rfl (fun _ z => by cases z) ?_
    refine ok_mulI (a := 41) (b := 41) (by unfold Bd; decide) bt1 (by decide) ?_
    refine ok_ix (k := 2) (seq_lst hl3) rfl (fun _ z => by cases z) ?_
    have b1 : Bd 41 (99367 : Int) := by unfold Bd; decide
    refine ok_mulI (a := 82) (b := 41) (b1.mul bt1) bt1 (by decide) ?_
    rw [ok_addI, ok_addI, ok_intI]
    have b2 : Bd 400 (c + 99367 * (t + 1) * (t + 1) + 419) := ((h4.add ((b1.mul bt1).mul bt1)).add (b := 41) (by unfold Bd; decide)).mono (by decide)
    generalize ez : c + 99367 * (t + 1) * (t + 1) + 419 = z at b2
    refine ok_powI (n := 3) b2 (by decide) (by decide) ?_
    rw [ok_intI]
    refine ok_modI hp2 ?_
    have b3 : Bd 31 (z ^ 3 % pr) := Bd.mod _ hp2 hp3
    generalize ey : z ^ 3 % pr = y at b3
    rw [ok_intI]
    refine ok_modI (by decide) ?_
    refine ok_ix (k := 2) (seq_lst hl3) rfl (fun _ z => by cases z) ?_
    refine ok_mulI (a := 41) (b := 41) (by unfold Bd; decide) bt1 (by decide) ?_
    rw [ok_addI]
    have b4 : Bd 200 (y % 10335 + 165 * (t + 1)) := ((Bd.mod (b := 41) y (m := 10335) (by decide) (by unfold Bd; decide)).add (Bd.mul (a := 41) (by unfold Bd; decide) bt1)).mono (by decide)
    refine ok_mulI b3 b4 (by decide) ?_
    rw [ok_intI]
    refine ok_modI (by decide) ?_
    refine ok_divI (b := 41) (by decide) (by unfold Bd; decide) (by decide) ?_
    rw [ok_intI]
    refine ok_modI hu ?_
    exact q _ _ (Int.emod_nonneg _ (by omega)) (Int.emod_lt_of_pos _ hu) ⟨own, c, t + 1, hl3, h1, h2, h3, h4, by omega, by omega⟩ hk2
end K10
namespace K10
open PySem PySem.Spec PyProof.Rows L2 RZ Ev
theorem pot_s {ns : List Int} {k : Nat} {mh : MH} (h0 : mh[0]? = some (.scr (ns.map PV.int))) (hn : ns.length ≤ 63) (hk : k ≤ 63) {Q : PV → MH → Prop} (q : ∀ p h, Sub mh h → mh[p]? = none → Pot p 0 h → Q (.ref p) h) : Ok (f__law_pot [.ref 0, .int k] mh) Q := by
  have hs : seqOf (.ref 0) mh = some (ns.map PV.int) := seq_scr h0
  unfold f__law_pot
  try simp only [if_true, if_false, Bool.false_eq_true, okS_nx, ok_trB, ok_trI, ok_bind, ok_bin, ok_un, ok_k, ok_cmp, ok_cmpT, ok_chain, ok_bl, ok_nil, ok_cons, ok_call, ok_callOp, ok_isi, ok_test, ok_andT, ok_orT, ok_notT, ok_isBl, ok_andV, ok_orV, ok_notV, ok_if, okS_next, okS_seq, okS_ret, okS_expr, okS_if, okS_set, ok_run, ok_src, ok_range, ok_ok, ok_obv, ok_ob, sNext, ok_var0, ok_varS, List.map_cons, List.map_nil, List.length_cons, List.length_nil, List.replicate_succ, List.replicate_zero, List.cons_append, List.nil_append, List.getElem?_cons_zero, List.getElem?_cons_succ, List.set_cons_zero, List.set_cons_succ, Nat.reduceAdd, Nat.reduceSub, Nat.sub_self, Nat.zero_add, Nat.sub_zero]
  refine ok_len hs ?_
  refine ⟨_, rfl, ?_⟩
  rw [List.length_map]
  -- the cell
  have rest : ∀ cell : Int, OkS ((sSeq (sAsg (mBin opMul (mBin opMod (mCallOp opInt (mCons (mCallOp opAbs (mCons (mVar 2) mNil)) mNil)) (mBin opPow (mBin opPow (mK (.int 10)) (mK (.int 60))) (mK (.int 5)))) (mCallOp opInt (mCons (mCmp geD (mCallOp opAbs (mCons (mVar 2) mNil)) (mBin opPow (mK (.int 10)) (mK (.int 18)))) mNil))) (.nm 3))
     (sSeq (sAsg (mBin opMod (mCallOp opInt (mCons (mVar 2) mNil)) (mK (.int 2305843009213693951))) (.nm 4))
     (sSeq (sRet (mLst (mCons (mVar 3) (mCons (mBin opMod (mCallOp opInt (mCons (mBin opAdd (mBin opAdd (mBin opMul (mVar 4) (mK (.int 86711))) (mBin opMul (mBin opMul (mK (.int 8191)) (mVar 1)) (mVar 1))) (mK (.int 389))) mNil)) (mK (.int 2305843009213693921))) (mCons (mK (.int 0)) mNil)))))
     sNext))) [some (.ref 0), some (.int k), some (.int cell), none, none] mh) ⟨fun _ h => Q .non h, Q, fun _ _ => False, fun _ _ => False⟩ := by
    intro cell
    try simp only [if_true, if_false, Bool.false_eq_true, okS_nx, ok_trB, ok_trI, ok_bind, ok_bin, ok_un, ok_k, ok_cmp, ok_cmpT, ok_chain, ok_bl, ok_nil, ok_cons, ok_call, ok_callOp, ok_isi, ok_test, ok_andT, ok_orT, ok_notT, ok_isBl, ok_andV, ok_orV, ok_notV, ok_if, okS_next, okS_seq, okS_ret, okS_expr, okS_if, okS_set, ok_run, ok_src, ok_range, ok_ok, ok_obv, ok_ob, sNext, ok_var0, ok_varS, List.map_cons, List.map_nil, List.length_cons, List.length_nil, List.replicate_succ, List.replicate_zero, List.cons_append, List.nil_append, List.getElem?_cons_zero, List.getElem?_cons_succ, List.set_cons_zero, List.set_cons_succ, Nat.reduceAdd, Nat.reduceSub, Nat.sub_self, Nat.zero_add, Nat.sub_zero]
    rw [ok_absI, ok_intI]
    generalize ea : (if cell < 0 then -cell else cell) = ab
    refine ok_powI (a := 4) (n := 60) (by unfold Bd; decide) (by decide) (by decide) ?_
    refine ok_powI (a := 200) (n := 5) (by unfold Bd; decide) (by decide) (by decide) ?_
    have hm : (0 : Int) < (10 ^ 60) ^ 5 := by decide
    have bm : Bd 1300 ((10 ^ 60) ^ 5 : Int) := ((Bd.pow (a := 4) (x := 10) (by unfold Bd; decide) 60).pow 5).mono (by decide)
    refine ok_modI hm ?_
    have n1 := Int.emod_nonneg ab (Int.ne_of_gt hm)
    have n2 : Bd 1300 (ab % (10 ^ 60) ^ 5) := Bd.mod _ hm bm
    generalize em : ab % (10 ^ 60) ^ 5 = r at n1 n2
    rw [ok_absI, ea]
    refine ok_powI (a := 4) (n := 18) (by unfold Bd; decide) (by decide) (by decide) ?_
    refine ⟨_, rfl, ?_⟩
    rw [ok_intB]
    generalize eb : (if decide ((10 : Int) ^ 18 ≤ ab) = true then (1 : Int) else 0) = bit
    have hb : bit = 0 ∨ bit = 1 := by
      rw [← eb]
      split
      · exact .inr rfl
      · exact .inl rfl
    have b1 : Bd 1 bit := by
      unfold Bd
      omega
    refine ok_mulI n2 b1 (by decide) ?_
    have own0 : 0 ≤ r * bit := Int.mul_nonneg n1 (by omega)
    have own1 : Bd 1300 (r * bit) := by
      rcases hb with z | z
      · rw [z, Int.mul_zero]; unfold Bd; decide
      · rw [z, Int.mul_one]; exact n2
    generalize eo : r * bit = own at own0 own1
    rw [ok_intI]
    refine ok_modI (by decide) ?_
    have b2 : Bd 62 (cell % 2305843009213693951) := Bd.mod _ (by decide) (by unfold Bd; decide)
    generalize es : cell % 2305843009213693951 = small at b2
    refine ok_mkl ?_
    try simp only [if_true, if_false, Bool.false_eq_true, okS_nx, ok_trB, ok_trI, ok_bind, ok_bin, ok_un, ok_k, ok_cmp, ok_cmpT, ok_chain, ok_bl, ok_nil, ok_cons, ok_call, ok_callOp, ok_isi, ok_test, ok_andT, ok_orT, ok_notT, ok_isBl, ok_andV, ok_orV, ok_notV, ok_if, okS_next, okS_seq, okS_ret, okS_expr, okS_if, okS_set, ok_run, ok_src, ok_range, ok_ok, ok_obv, ok_ob, sNext, ok_var0, ok_varS, List.map_cons, List.map_nil, List.length_cons, List.length_nil, List.replicate_succ, List.replicate_zero, List.cons_append, List.nil_append, List.getElem?_cons_zero, List.getElem?_cons_succ, List.set_cons_zero, List.set_cons_succ, Nat.reduceAdd, Nat.reduceSub, Nat.sub_self, Nat.zero_add, Nat.sub_zero]
    have bk : Bd 6 (k : Int) := by
      unfold Bd
      omega
    refine ok_mulI (b := 41) b2 (by unfold Bd; decide) (by decide) ?_
    refine ok_mulI (a := 41) (by unfold Bd; decide) bk (by decide) ?_
    refine ok_mulI (Bd.mul (a := 41) (by unfold Bd; decide) bk) bk (by decide) ?_
    rw [ok_addI, ok_addI, ok_intI]
    refine ok_modI (by decide) ?_
    generalize ez : small * 86711 + 8191 * (k : Int) * k + 389 = z
    refine ⟨by decide, q _ _ (.push _ _) (Sub.refl mh).new ⟨own, z % 2305843009213693921, 0, at_push _ _, own0, own1, Int.emod_nonneg _ (by decide), Bd.mod _ (by decide) (by unfold Bd; decide), by omega, by omega⟩⟩
  by_cases hlt : (k : Int) < (ns.length : Int)
  · simp only [hlt, decide_true, if_true]
    try simp only [if_true, if_false, Bool.false_eq_true, okS_nx, ok_trB, ok_trI, ok_bind, ok_bin, ok_un, ok_k, ok_cmp, ok_cmpT, ok_chain, ok_bl, ok_nil, ok_cons, ok_call, ok_callOp, ok_isi, ok_test, ok_andT, ok_orT, ok_notT, ok_isBl, ok_andV, ok_orV, ok_notV, ok_if, okS_next, okS_seq, okS_ret, okS_expr, okS_if, okS_set, ok_run, ok_src, ok_range, ok_ok, ok_obv, ok_ob, sNext, ok_var0, ok_varS, List.map_cons, List.map_nil, List.length_cons, List.length_nil, List.replicate_succ, List.replicate_zero, List.cons_append, List.nil_append, List.getElem?_cons_zero, List.getElem?_cons_succ, List.set_cons_zero, List.set_cons_succ, Nat.reduceAdd, Nat.reduceSub, Nat.sub_self, Nat.zero_add, Nat.sub_zero]
    have hk2 : k < ns.length := by omega
    refine ok_ix (k := k) (x := .int ns[k]) hs (by rw [List.getElem?_map, List.getElem?_eq_getElem hk2]; rfl) (fun _ z => by cases z) ?_
    have r := rest ns[k]
    try simp only [if_true, if_false, Bool.false_eq_true, okS_nx, ok_trB, ok_trI, ok_bind, ok_bin, ok_un, ok_k, ok_cmp, ok_cmpT, ok_chain, ok_bl, ok_nil, ok_cons, ok_call, ok_callOp, ok_isi, ok_test, ok_andT, ok_orT, ok_notT, ok_isBl, ok_andV, ok_orV, ok_notV, ok_if, okS_next, okS_seq, okS_ret, okS_expr, okS_if, okS_set, ok_run, ok_src, ok_range, ok_ok, ok_obv, ok_ob, sNext, ok_var0, ok_varS, List.map_cons, List.map_nil, List.length_cons, List.length_nil, List.replicate_succ, List.replicate_zero, List.cons_append, List.nil_append, List.getElem?_cons_zero, List.getElem?_cons_succ, List.set_cons_zero, List.set_cons_succ, Nat.reduceAdd, Nat.reduceSub, Nat.sub_self, Nat.zero_add, Nat.sub_zero] at r
    exact r
  · simp only [hlt, decide_false, Bool.false_eq_true, if_false]
    try simp only [if_true, if_false, Bool.false_eq_true, okS_nx, ok_trB, ok_trI, ok_bind, ok_bin, ok_un, ok_k, ok_cmp, ok_cmpT, ok_chain, ok_bl, ok_nil, ok_cons, ok_call, ok_callOp, ok_isi, ok_test, ok_andT, ok_orT, ok_notT, ok_isBl, ok_andV, ok_orV, ok_notV, ok_if, okS_next, okS_seq, okS_ret, okS_expr, okS_if, okS_set, ok_run, ok_src, ok_range, ok_ok, ok_obv, ok_ob, sNext, ok_var0, ok_varS, List.map_cons, List.map_nil, List.length_cons, List.length_nil, List.replicate_succ, List.replicate_zero, List.cons_append, List.nil_append, List.getElem?_cons_zero, List.getElem?_cons_succ, List.set_cons_zero, List.set_cons_succ, Nat.reduceAdd, Nat.reduceSub, Nat.sub_self, Nat.zero_add, Nat.sub_zero]
    have bk : Bd 6 (k : Int) := by
      unfold Bd
      omega
    refine ok_mulI (a := 41) (by unfold Bd; decide) bk (by decide) ?_
    rw [ok_addI]
    have r := rest (431 * (k : Int) + 281)
    try simp only [if_true, if_false, Bool.false_eq_true, okS_nx, ok_trB, ok_trI, ok_bind, ok_bin, ok_un, ok_k, ok_cmp, ok_cmpT, ok_chain, ok_bl, ok_nil, ok_cons, ok_call, ok_callOp, ok_isi, ok_test, ok_andT, ok_orT, ok_notT, ok_isBl, ok_andV, ok_orV, ok_notV, ok_if, okS_next, okS_seq, okS_ret, okS_expr, okS_if, okS_set, ok_run, ok_src, ok_range, ok_ok, ok_obv, ok_ob, sNext, ok_var0, ok_varS, List.map_cons, List.map_nil, List.length_cons, List.length_nil, List.replicate_succ, List.replicate_zero, List.cons_append, List.nil_append, List.getElem?_cons_zero, List.getElem?_cons_succ, List.set_cons_zero, List.set_cons_succ, Nat.reduceAdd, Nat.reduceSub, Nat.sub_self, Nat.zero_add, Nat.sub_zero] at r
    exact r
theorem of_s {p B n : Nat} {vs : List PV} {mh : MH} (hp : Pot p B mh) (hB : B < 2 ^ 40) (hv : mh[n]? = some (.lst vs)) (hn : n ≠ p) (hl : 0 < vs.length) (hl2 : vs.length < 2 ^ 40) {Q : PV → MH → Prop} (q : ∀ v h, v ∈ vs → Pot p (B + 1) h → SubX p mh h → Q v h) : Ok (f__law_of [.ref p, .ref n] mh) Q := by
  unfold f__law_of
  try simp only [if_true, if_false, Bool.false_eq_true, okS_nx, ok_trB, ok_trI, ok_bind, ok_bin, ok_un, ok_k, ok_cmp, ok_cmpT, ok_chain, ok_bl, ok_nil, ok_cons, ok_call, ok_callOp, ok_isi, ok_test, ok_andT, ok_orT, ok_notT, ok_isBl, ok_andV, ok_orV, ok_notV, ok_if, okS_next, okS_seq, okS_ret, okS_expr, okS_if, okS_set, ok_run, ok_src, ok_range, ok_ok, ok_obv, ok_ob, sNext, ok_var0, ok_varS, List.map_cons, List.map_nil, List.length_cons, List.length_nil, List.replicate_succ, List.replicate_zero, List.cons_append, List.nil_append, List.getElem?_cons_zero, List.getElem?_cons_succ, List.set_cons_zero, List.set_cons_succ, Nat.reduceAdd, Nat.reduceSub, Nat.sub_self, Nat.zero_add, Nat.sub_zero]
  refine ok_len (seq_lst hv) ?_
  refine take_s hp hB (by omega) (by unfold Bd; omega) fun d h h1 h2 h3 h4 => ?_
  obtain ⟨k, rfl⟩ := Int.eq_ofNat_of_zero_le h1
  have hk : k < vs.length := by omega
  refine ok_ix (seq_lst (h4 n _ hn hv)) (List.getElem?_eq_getElem hk) (fun _ z => by cases z) ?_
  exact q _ _ (List.getElem_mem hk) h3 h4
end K10
namespace K10
open PySem PySem.Spec PyProof.Rows L2 RZ Ev
theorem row_s {p B most : Nat} {wide : Int} {mh : MH} (hp : Pot p B mh) (hB : B + most + 2 < 2 ^ 40) (hm : most < 2 ^ 20) (hw : 0 < wide) (hw2 : Bd 90 wide)
    {Q : PV → MH → Prop} (q : ∀ (row : List Int) h, row.length ≤ most → (∀ x ∈ row, 1 ≤ x ∧ x ≤ wide) → Pot p (B + most + 1) h → SubX p mh h → Q (iT row) h) : Ok (f__law_row [.ref p, .int most, .int wide] mh) Q := by
  unfold f__law_row
  try simp only [if_true, if_false, Bool.false_eq_true, okS_nx, ok_trB, ok_trI, ok_bind, ok_bin, ok_un, ok_k, ok_cmp, ok_cmpT, ok_chain, ok_bl, ok_nil, ok_cons, ok_call, ok_callOp, ok_isi, ok_test, ok_andT, ok_orT, ok_notT, ok_isBl, ok_andV, ok_orV, ok_notV, ok_if, okS_next, okS_seq, okS_ret, okS_expr, okS_if, okS_set, ok_run, ok_src, ok_range, ok_ok, ok_obv, ok_ob, sNext, ok_var0, ok_varS, List.map_cons, List.map_nil, List.length_cons, List.length_nil, List.replicate_succ, List.replicate_zero, List.cons_append, List.nil_append, List.getElem?_cons_zero, List.getElem?_cons_succ, List.set_cons_zero, List.set_cons_succ, Nat.reduceAdd, Nat.reduceSub, Nat.sub_self, Nat.zero_add, Nat.sub_zero, ok_addI]
  refine ok_compPot (p := p) 1 (fun y => ∃ i, y = .int i ∧ 1 ≤ i ∧ i ≤ wide) ?_
  try simp only [if_true, if_false, Bool.false_eq_true, okS_nx, ok_trB, ok_trI, ok_bind, ok_bin, ok_un, ok_k, ok_cmp, ok_cmpT, ok_chain, ok_bl, ok_nil, ok_cons, ok_call, ok_callOp, ok_isi, ok_test, ok_andT, ok_orT, ok_notT, ok_isBl, ok_andV, ok_orV, ok_notV, ok_if, okS_next, okS_seq, okS_ret, okS_expr, okS_if, okS_set, ok_run, ok_src, ok_range, ok_ok, ok_obv, ok_ob, sNext, ok_var0, ok_varS, List.map_cons, List.map_nil, List.length_cons, List.length_nil, List.replicate_succ, List.replicate_zero, List.cons_append, List.nil_append, List.getElem?_cons_zero, List.getElem?_cons_succ, List.set_cons_zero, List.set_cons_succ, Nat.reduceAdd, Nat.reduceSub, Nat.sub_self, Nat.zero_add, Nat.sub_zero, ok_addI]
  refine take_s hp (by omega) (by omega) (by unfold Bd; omega) fun d h h1 h2 h3 h4 => ?_
  obtain ⟨k, rfl⟩ := Int.eq_ofNat_of_zero_le h1
  refine ⟨_, range1 (by omega), _, B + 1, h4, h3, by simp; unfold loopFuel; omega, fun _ _ => srcIs_vals _ _, ?_, ?_⟩
  · intro x hx h' B' hB' hp' hs'
    refine ⟨_, rfl, ?_⟩
    rw [ok_yes, if_pos rfl]
    simp only [List.length_map, List.length_range] at hB'
    simp only [wipeE]
    try simp only [if_true, if_false, Bool.false_eq_true, okS_nx, ok_trB, ok_trI, ok_bind, ok_bin, ok_un, ok_k, ok_cmp, ok_cmpT, ok_chain, ok_bl, ok_nil, ok_cons, ok_call, ok_callOp, ok_isi, ok_test, ok_andT, ok_orT, ok_notT, ok_isBl, ok_andV, ok_orV, ok_notV, ok_if, okS_next, okS_seq, okS_ret, okS_expr, okS_if, okS_set, ok_run, ok_src, ok_range, ok_ok, ok_obv, ok_ob, sNext, ok_var0, ok_varS, List.map_cons, List.map_nil, List.length_cons, List.length_nil, List.replicate_succ, List.replicate_zero, List.cons_append, List.nil_append, List.getElem?_cons_zero, List.getElem?_cons_succ, List.set_cons_zero, List.set_cons_succ, Nat.reduceAdd, Nat.reduceSub, Nat.sub_self, Nat.zero_add, Nat.sub_zero, ok_addI]
    refine take_s hp' (by omega) hw (hw2.mono (by decide)) fun d2 h5 g1 g2 g3 g4 => ?_
    exact ⟨⟨_, rfl, by omega, by omega⟩, g3, g4⟩
  · intro n out h' l1 l2 hG hs' hn hnp hl hp'
    obtain ⟨l, rfl, gl⟩ := iL_of hG
    refine ok_tupleOf (seq_lst hl) ?_
    simp only [List.length_map, List.length_range] at l1 hp'
    exact q l h' (by omega) gl (hp'.mono (by omega)) hs'
end K10
namespace K10
open PySem PySem.Spec PyProof.Rows L2 RZ Ev
/-- a row: at most thirty ints from 1 to 99 -/
structure IsRow (row : List Int) : Prop where
  len : row.length ≤ 30
  num : ∀ x ∈ row, 1 ≤ x ∧ x ≤ 99
theorem is_row_s {row : List Int} (hr : IsRow row) {mh : MH} {Q : PV → MH → Prop} (q : ∀ h, Sub mh h → Q (.bl true) h) : Ok (f_is_row [iT row] mh) Q := by
  unfold f_is_row
  try simp only [if_true, if_false, Bool.false_eq_true, okS_nx, ok_trB, ok_trI, ok_bind, ok_bin, ok_un, ok_k, ok_cmp, ok_cmpT, ok_chain, ok_bl, ok_nil, ok_cons, ok_call, ok_callOp, ok_isi, ok_test, ok_andT, ok_orT, ok_notT, ok_isBl, ok_andV, ok_orV, ok_notV, ok_if, okS_next, okS_seq, okS_ret, okS_expr, okS_if, okS_set, ok_run, ok_src, ok_range, ok_ok, ok_obv, ok_ob, sNext, ok_var0, ok_varS, List.map_cons, List.map_nil, List.length_cons, List.length_nil, List.replicate_succ, List.replicate_zero, List.cons_append, List.nil_append, List.getElem?_cons_zero, List.getElem?_cons_succ, List.set_cons_zero, List.set_cons_succ, Nat.reduceAdd, Nat.reduceSub, Nat.sub_self, Nat.zero_add, Nat.sub_zero]
  rw [ok_isTy (t := "tuple") (by simp) rfl]
  try simp only [if_true, if_false, Bool.false_eq_true, okS_nx, ok_trB, ok_trI, ok_bind, ok_bin, ok_un, ok_k, ok_cmp, ok_cmpT, ok_chain, ok_bl, ok_nil, ok_cons, ok_call, ok_callOp, ok_isi, ok_test, ok_andT, ok_orT, ok_notT, ok_isBl, ok_andV, ok_orV, ok_notV, ok_if, okS_next, okS_seq, okS_ret, okS_expr, okS_if, okS_set, ok_run, ok_src, ok_range, ok_ok, ok_obv, ok_ob, sNext, ok_var0, ok_varS, List.map_cons, List.map_nil, List.length_cons, List.length_nil, List.replicate_succ, List.replicate_zero, List.cons_append, List.nil_append, List.getElem?_cons_zero, List.getElem?_cons_succ, List.set_cons_zero, List.set_cons_succ, Nat.reduceAdd, Nat.reduceSub, Nat.sub_self, Nat.zero_add, Nat.sub_zero]
  simp only [show tyIs "tuple" "tuple" = true from rfl, Bool.not_true, Bool.false_eq_true, if_false]
  try simp only [if_true, if_false, Bool.false_eq_true, okS_nx, ok_trB, ok_trI, ok_bind, ok_bin, ok_un, ok_k, ok_cmp, ok_cmpT, ok_chain, ok_bl, ok_nil, ok_cons, ok_call, ok_callOp, ok_isi, ok_test, ok_andT, ok_orT, ok_notT, ok_isBl, ok_andV, ok_orV, ok_notV, ok_if, okS_next, okS_seq, okS_ret, okS_expr, okS_if, okS_set, ok_run, ok_src, ok_range, ok_ok, ok_obv, ok_ob, sNext, ok_var0, ok_varS, List.map_cons, List.map_nil, List.length_cons, List.length_nil, List.replicate_succ, List.replicate_zero, List.cons_append, List.nil_append, List.getElem?_cons_zero, List.getElem?_cons_succ, List.set_cons_zero, List.set_cons_succ, Nat.reduceAdd, Nat.reduceSub, Nat.sub_self, Nat.zero_add, Nat.sub_zero]
  refine ok_len (seq_tup _) ?_
  refine ⟨_, rfl, ?_⟩
  have hl : ¬ (30 : Int) < ((iL row).length : Nat) := by
    have := hr.len
    simp only [List.length_map]
    omega
  simp only [hl, decide_false, Bool.false_eq_true, if_false]
  try simp only [if_true, if_false, Bool.false_eq_true, okS_nx, ok_trB, ok_trI, ok_bind, ok_bin, ok_un, ok_k, ok_cmp, ok_cmpT, ok_chain, ok_bl, ok_nil, ok_cons, ok_call, ok_callOp, ok_isi, ok_test, ok_andT, ok_orT, ok_notT, ok_isBl, ok_andV, ok_orV, ok_notV, ok_if, okS_next, okS_seq, okS_ret, okS_expr, okS_if, okS_set, ok_run, ok_src, ok_range, ok_ok, ok_obv, ok_ob, sNext, ok_var0, ok_varS, List.map_cons, List.map_nil, List.length_cons, List.length_nil, List.replicate_succ, List.replicate_zero, List.cons_append, List.nil_append, List.getElem?_cons_zero, List.getElem?_cons_succ, List.set_cons_zero, List.set_cons_succ, Nat.reduceAdd, Nat.reduceSub, Nat.sub_self, Nat.zero_add, Nat.sub_zero]
  refine ok_allP row PV.int (fun x => isIn (.int x) 1 99) ?_ ?_ ?_
  · try simp only [if_true, if_false, Bool.false_eq_true, okS_nx, ok_trB, ok_trI, ok_bind, ok_bin, ok_un, ok_k, ok_cmp, ok_cmpT, ok_chain, ok_bl, ok_nil, ok_cons, ok_call, ok_callOp, ok_isi, ok_test, ok_andT, ok_orT, ok_notT, ok_isBl, ok_andV, ok_orV, ok_notV, ok_if, okS_next, okS_seq, okS_ret, okS_expr, okS_if, okS_set, ok_run, ok_src, ok_range, ok_ok, ok_obv, ok_ob, sNext, ok_var0, ok_varS, List.map_cons, List.map_nil, List.length_cons, List.length_nil, List.replicate_succ, List.replicate_zero, List.cons_append, List.nil_append, List.getElem?_cons_zero, List.getElem?_cons_succ, List.set_cons_zero, List.set_cons_succ, Nat.reduceAdd, Nat.reduceSub, Nat.sub_self, Nat.zero_add, Nat.sub_zero]
    have := hr.len
    refine ⟨by unfold loopFuel; omega, .refl _, fun h _ => srcIs_vals _ _⟩
  · intro x hx h hs
    refine ⟨_, rfl, ?_⟩
    simp only [wipeE]
    try simp only [if_true, if_false, Bool.false_eq_true, okS_nx, ok_trB, ok_trI, ok_bind, ok_bin, ok_un, ok_k, ok_cmp, ok_cmpT, ok_chain, ok_bl, ok_nil, ok_cons, ok_call, ok_callOp, ok_isi, ok_test, ok_andT, ok_orT, ok_notT, ok_isBl, ok_andV, ok_orV, ok_notV, ok_if, okS_next, okS_seq, okS_ret, okS_expr, okS_if, okS_set, ok_run, ok_src, ok_range, ok_ok, ok_obv, ok_ob, sNext, ok_var0, ok_varS, List.map_cons, List.map_nil, List.length_cons, List.length_nil, List.replicate_succ, List.replicate_zero, List.cons_append, List.nil_append, List.getElem?_cons_zero, List.getElem?_cons_succ, List.set_cons_zero, List.set_cons_succ, Nat.reduceAdd, Nat.reduceSub, Nat.sub_self, Nat.zero_add, Nat.sub_zero]
    exact is_between_s (t := "int") rfl ⟨rfl, .refl _⟩
  · intro h hs
    have : row.all (fun x => isIn (.int x) 1 99) = true := by
      rw [List.all_eq_true]
      intro x hx
      have := hr.num x hx
      simp [isIn, this.1, this.2]
    rw [this]
    exact q h hs
theorem check_row_s {row : List Int} (hr : IsRow row) {mh : MH} {Q : PV → MH → Prop} (q : ∀ v h, Sub mh h → Q v h) : Ok (f_check_row [iT row] mh) Q := by
  unfold f_check_row
  try simp only [if_true, if_false, Bool.false_eq_true, okS_nx, ok_trB, ok_trI, ok_bind, ok_bin, ok_un, ok_k, ok_cmp, ok_cmpT, ok_chain, ok_bl, ok_nil, ok_cons, ok_call, ok_callOp, ok_isi, ok_test, ok_andT, ok_orT, ok_notT, ok_isBl, ok_andV, ok_orV, ok_notV, ok_if, okS_next, okS_seq, okS_ret, okS_expr, okS_if, okS_set, ok_run, ok_src, ok_range, ok_ok, ok_obv, ok_ob, sNext, ok_var0, ok_varS, List.map_cons, List.map_nil, List.length_cons, List.length_nil, List.replicate_succ, List.replicate_zero, List.cons_append, List.nil_append, List.getElem?_cons_zero, List.getElem?_cons_succ, List.set_cons_zero, List.set_cons_succ, Nat.reduceAdd, Nat.reduceSub, Nat.sub_self, Nat.zero_add, Nat.sub_zero]
  refine is_row_s hr fun h hs => ?_
  try simp only [if_true, if_false, Bool.false_eq_true, okS_nx, ok_trB, ok_trI, ok_bind, ok_bin, ok_un, ok_k, ok_cmp, ok_cmpT, ok_chain, ok_bl, ok_nil, ok_cons, ok_call, ok_callOp, ok_isi, ok_test, ok_andT, ok_orT, ok_notT, ok_isBl, ok_andV, ok_orV, ok_notV, ok_if, okS_next, okS_seq, okS_ret, okS_expr, okS_if, okS_set, ok_run, ok_src, ok_range, ok_ok, ok_obv, ok_ob, sNext, ok_var0, ok_varS, List.map_cons, List.map_nil, List.length_cons, List.length_nil, List.replicate_succ, List.replicate_zero, List.cons_append, List.nil_append, List.getElem?_cons_zero, List.getElem?_cons_succ, List.set_cons_zero, List.set_cons_succ, Nat.reduceAdd, Nat.reduceSub, Nat.sub_self, Nat.zero_add, Nat.sub_zero]
  simp only [Bool.not_true, Bool.false_eq_true, if_false]
  try simp only [if_true, if_false, Bool.false_eq_true, okS_nx, ok_trB, ok_trI, ok_bind, ok_bin, ok_un, ok_k, ok_cmp, ok_cmpT, ok_chain, ok_bl, ok_nil, ok_cons, ok_call, ok_callOp, ok_isi, ok_test, ok_andT, ok_orT, ok_notT, ok_isBl, ok_andV, ok_orV, ok_notV, ok_if, okS_next, okS_seq, okS_ret, okS_expr, okS_if, okS_set, ok_run, ok_src, ok_range, ok_ok, ok_obv, ok_ob, sNext, ok_var0, ok_varS, List.map_cons, List.map_nil, List.length_cons, List.length_nil, List.replicate_succ, List.replicate_zero, List.cons_append, List.nil_append, List.getElem?_cons_zero, List.getElem?_cons_succ, List.set_cons_zero, List.set_cons_succ, Nat.reduceAdd, Nat.reduceSub, Nat.sub_self, Nat.zero_add, Nat.sub_zero]
  exact q _ _ hs
end K10
namespace K10
open PySem PySem.Spec PyProof.Rows L2 RZ Ev
/-! ### the greedy places -/
/-- the first track whose top is no greater -/
def slot (tops : List Int) (x : Int) : Nat := tops.findIdx fun t => decide (t ≤ x)
def fitStep (s : List Int × List Int) (x : Int) : List Int × List Int := (s.1.take (slot s.1 x) ++ [x] ++ s.1.drop (slot s.1 x + 1), s.2 ++ [(slot s.1 x : Int)])
def fit (row : List Int) : List Int × List Int := row.foldl fitStep ([], [])
theorem fit_snoc (l : List Int) (x : Int) : fit (l ++ [x]) = fitStep (fit l) x := by
  unfold fit
  rw [List.foldl_append]
  rfl
theorem slot_le (tops : List Int) (x : Int) : slot tops x ≤ tops.length := List.findIdx_le_length
theorem fit_len (l : List Int) : (fit l).2.length = l.length ∧ (fit l).1.length ≤ l.length := by
  refine snoc_ind (P := fun l => (fit l).2.length = l.length ∧ (fit l).1.length ≤ l.length) ⟨rfl, Nat.le_refl _⟩ (fun l x ih => ?_) l
  rw [fit_snoc]
  unfold fitStep
  have h1 := slot_le (fit l).1 x
  simp only [List.length_append, List.length_take, List.length_drop, List.length_singleton]
  omega
/-- the tracks that are free: their numbers -/
def isFree (x : Int) : PV → Bool
  | .tup [_, .int t] => decide (t ≤ x)
  | _ => false
def fstPV : PV → PV
  | .tup [i, _] => i
  | _ => .non
theorem free_first (x : Int) : ∀ (tops : List Int) (k : Nat), (((enumPV k (iL tops)).filter (isFree x)).map fstPV = [] ∧ slot tops x = tops.length) ∨ ∃ r : List Int, ((enumPV k (iL tops)).filter (isFree x)).map fstPV = .int ((k + slot tops x : Nat) : Int) :: iL r ∧ slot tops x < tops.length
  | [], k => .inl ⟨rfl, rfl⟩
  | t :: tops, k => by
    have ih := free_first x tops (k + 1)
    simp only [List.map_cons, enumPV]
    by_cases ht : t ≤ x
    · refine .inr ?_
      have hs : slot (t :: tops) x = 0 := by
        unfold slot
        simp [List.findIdx_cons, ht]
      have hr : ∃ r : List Int, ((enumPV (k + 1) (iL tops)).filter (isFree x)).map fstPV = iL r := by
        rcases ih with ⟨h, _⟩ | ⟨r, h, _⟩
        · exact ⟨[], h⟩
        · exact ⟨_ :: r, h⟩
      obtain ⟨r, hr⟩ := hr
      refine ⟨r, ?_, by rw [hs]; simp⟩
      rw [List.filter_cons_of_pos (by simpa [isFree] using ht), List.map_cons, hr, hs]
      rfl
    · have hs : slot (t :: tops) x = slot tops x + 1 := by
        unfold slot
        rw [List.findIdx_cons]
        simp [ht]
      rw [List.filter_cons_of_neg (by simpa [isFree] using ht)]
      rcases ih with ⟨h1, h2⟩ | ⟨r, h1, h2⟩
      · exact .inl ⟨h1, by rw [hs, h2]; rfl⟩
      · refine .inr ⟨r, ?_, by rw [hs]; simpa using h2⟩
        rw [h1, hs]
        congr 3
        omega
theorem fitted_s {row : List Int} (hr : row.length ≤ 40) {mh : MH} {Q : PV → MH → Prop} (q : ∀ h, Sub mh h → Q (iT (fit row).2) h) : Ok (f_fitted [iT row] mh) Q := by
  unfold f_fitted
  try simp only [if_true, if_false, Bool.false_eq_true, okS_nx, ok_trB, ok_trI, ok_bind, ok_bin, ok_un, ok_k, ok_cmp, ok_cmpT, ok_chain, ok_bl, ok_nil, ok_cons, ok_call, ok_callOp, ok_isi, ok_test, ok_andT, ok_orT, ok_notT, ok_isBl, ok_andV, ok_orV, ok_notV, ok_if, okS_next, okS_seq, okS_ret, okS_expr, okS_if, okS_set, ok_run, ok_src, ok_range, ok_ok, ok_obv, ok_ob, sNext, ok_var0, ok_varS, List.map_cons, List.map_nil, List.length_cons, List.length_nil, List.replicate_succ, List.replicate_zero, List.cons_append, List.nil_append, List.getElem?_cons_zero, List.getElem?_cons_succ, List.set_cons_zero, List.set_cons_succ, Nat.reduceAdd, Nat.reduceSub, Nat.sub_self, Nat.zero_add, Nat.sub_zero, okS_par]
  refine ok_mklN ⟨by decide, fun nt0 g1 s1 f1 l1 => ?_⟩
  refine ok_mklN ⟨by decide, fun np0 g2 s2 f2 l2 => ?_⟩
  refine ⟨_, _, rfl, ?_⟩
  refine okS_for ?_
  try simp only [if_true, if_false, Bool.false_eq_true, okS_nx, ok_trB, ok_trI, ok_bind, ok_bin, ok_un, ok_k, ok_cmp, ok_cmpT, ok_chain, ok_bl, ok_nil, ok_cons, ok_call, ok_callOp, ok_isi, ok_test, ok_andT, ok_orT, ok_notT, ok_isBl, ok_andV, ok_orV, ok_notV, ok_if, okS_next, okS_seq, okS_ret, okS_expr, okS_if, okS_set, ok_run, ok_src, ok_range, ok_ok, ok_obv, ok_ob, sNext, ok_var0, ok_varS, List.map_cons, List.map_nil, List.length_cons, List.length_nil, List.replicate_succ, List.replicate_zero, List.cons_append, List.nil_append, List.getElem?_cons_zero, List.getElem?_cons_succ, List.set_cons_zero, List.set_cons_succ, Nat.reduceAdd, Nat.reduceSub, Nat.sub_self, Nat.zero_add, Nat.sub_zero]
  refine ⟨iL row, fun i env h => ∃ nt np a b c, env = [some (iT row), some (.ref nt), some (.ref np), a, b, none, none, c] ∧ h[nt]? = some (.lst (iL (fit (row.take i)).1)) ∧ h[np]? = some (.lst (iL (fit (row.take i)).2)) ∧ mh[np]? = none ∧ nt ≠ np ∧ Sub mh h,
    by simp; unfold loopFuel; omega, fun _ _ h _ => srcIs_vals _ _, ?_, ?_, ?_⟩
  · rintro i v env h hv ⟨nt, np, a, b, c, rfl, h1, h2', h3, h4, h5⟩
    rw [List.getElem?_map] at hv
    obtain ⟨x, hx, rfl⟩ := Option.map_eq_some_iff.mp hv
    have htake : row.take (i + 1) = row.take i ++ [x] := by
      rw [List.take_add_one, hx]
      rfl
    have hlen := fit_len (row.take i)
    have hl2 : (row.take i).length ≤ 40 := by
      rw [List.length_take]
      omega
    have hsl := slot_le (fit (row.take i)).1 x
    refine ⟨_, rfl, ?_⟩
    try simp only [if_true, if_false, Bool.false_eq_true, okS_nx, ok_trB, ok_trI, ok_bind, ok_bin, ok_un, ok_k, ok_cmp, ok_cmpT, ok_chain, ok_bl, ok_nil, ok_cons, ok_call, ok_callOp, ok_isi, ok_test, ok_andT, ok_orT, ok_notT, ok_isBl, ok_andV, ok_orV, ok_notV, ok_if, okS_next, okS_seq, okS_ret, okS_expr, okS_if, okS_set, ok_run, ok_src, ok_range, ok_ok, ok_obv, ok_ob, sNext, ok_var0, ok_varS, List.map_cons, List.map_nil, List.length_cons, List.length_nil, List.replicate_succ, List.replicate_zero, List.cons_append, List.nil_append, List.getElem?_cons_zero, List.getElem?_cons_succ, List.set_cons_zero, List.set_cons_succ, Nat.reduceAdd, Nat.reduceSub, Nat.sub_self, Nat.zero_add, Nat.sub_zero]
    refine ok_compP (enumPV 0 (iL (fit (row.take i)).1)) id (isFree x) fstPV ?_ ?_ ?_
    · refine ok_enum ?_
      try simp only [if_true, if_false, Bool.false_eq_true, okS_nx, ok_trB, ok_trI, ok_bind, ok_bin, ok_un, ok_k, ok_cmp, ok_cmpT, ok_chain, ok_bl, ok_nil, ok_cons, ok_call, ok_callOp, ok_isi, ok_test, ok_andT, ok_orT, ok_notT, ok_isBl, ok_andV, ok_orV, ok_notV, ok_if, okS_next, okS_seq, okS_ret, okS_expr, okS_if, okS_set, ok_run, ok_src, ok_range, ok_ok, ok_obv, ok_ob, sNext, ok_var0, ok_varS, List.map_cons, List.map_nil, List.length_cons, List.length_nil, List.replicate_succ, List.replicate_zero, List.cons_append, List.nil_append, List.getElem?_cons_zero, List.getElem?_cons_succ, List.set_cons_zero, List.set_cons_succ, Nat.reduceAdd, Nat.reduceSub, Nat.sub_self, Nat.zero_add, Nat.sub_zero]
      refine ⟨_, _, rfl, h1, by rw [enumPV_len]; simp; unfold loopFuel; omega, .refl _, fun h' hs' => ?_⟩
      rw [List.map_id]
      exact (srcIs_lst (hs' _ _ h1)).enum
    · intro y hy h' hs'
      obtain ⟨k, v, hv, rfl⟩ := enumPV_mem _ _ _ hy
      obtain ⟨tp, _, rfl⟩ := List.mem_map.mp hv
      refine ⟨_, rfl, ?_⟩
      simp only [wipeE]
      try simp only [if_true, if_false, Bool.false_eq_true, okS_nx, ok_trB, ok_trI, ok_bind, ok_bin, ok_un, ok_k, ok_cmp, ok_cmpT, ok_chain, ok_bl, ok_nil, ok_cons, ok_call, ok_callOp, ok_isi, ok_test, ok_andT, ok_orT, ok_notT, ok_isBl, ok_andV, ok_orV, ok_notV, ok_if, okS_next, okS_seq, okS_ret, okS_expr, okS_if, okS_set, ok_run, ok_src, ok_range, ok_ok, ok_obv, ok_ob, sNext, ok_var0, ok_varS, List.map_cons, List.map_nil, List.length_cons, List.length_nil, List.replicate_succ, List.replicate_zero, List.cons_append, List.nil_append, List.getElem?_cons_zero, List.getElem?_cons_succ, List.set_cons_zero, List.set_cons_succ, Nat.reduceAdd, Nat.reduceSub, Nat.sub_self, Nat.zero_add, Nat.sub_zero]
      refine ⟨_, rfl, rfl, .refl _, fun _ => ⟨rfl, .refl _⟩⟩
    · intro nf h' hs' hnf hf
      try simp only [if_true, if_false, Bool.false_eq_true, okS_nx, ok_trB, ok_trI, ok_bind, ok_bin, ok_un, ok_k, ok_cmp, ok_cmpT, ok_chain, ok_bl, ok_nil, ok_cons, ok_call, ok_callOp, ok_isi, ok_test, ok_andT, ok_orT, ok_notT, ok_isBl, ok_andV, ok_orV, ok_notV, ok_if, okS_next, okS_seq, okS_ret, okS_expr, okS_if, okS_set, ok_run, ok_src, ok_range, ok_ok, ok_obv, ok_ob, sNext, ok_var0, ok_varS, List.map_cons, List.map_nil, List.length_cons, List.length_nil, List.replicate_succ, List.replicate_zero, List.cons_append, List.nil_append, List.getElem?_cons_zero, List.getElem?_cons_succ, List.set_cons_zero, List.set_cons_succ, Nat.reduceAdd, Nat.reduceSub, Nat.sub_self, Nat.zero_add, Nat.sub_zero]
      refine ok_mklN ⟨by decide, fun ne he se fe le => ?_⟩
      -- the place
      have fin : ∀ (h2 : MH), Sub h h2 → OkS ((sSeq (sAsg (mBin opAdd (mBin opAdd (mSl (mVar 1) mNoPart (mPart (mVar 7))) (mLst (mCons (mVar 3) mNil))) (mSl (mVar 1) (mPart (mBin opAdd (mVar 7) (mK (.int 1)))) mNoPart)) (.nm 1)) (sSeq (sExpr (mMeth1 meAppend (mRecv (mVar 2)) (mVar 7))) sNext))
          [some (iT row), some (.ref nt), some (.ref np), some (.int x), some (.ref nf), none, none, some (.int (slot (fit (row.take i)).1 x : Nat))] h2)
          ⟨fun env h => ∃ nt np a b c, env = [some (iT row), some (.ref nt), some (.ref np), a, b, none, none, c] ∧ h[nt]? = some (.lst (iL (fit (row.take (i + 1))).1)) ∧ h[np]? = some (.lst (iL (fit (row.take (i + 1))).2)) ∧ mh[np]? = none ∧ nt ≠ np ∧ Sub mh h, fun _ _ => False, fun _ _ => False, fun _ _ => False⟩ := by
        intro h2 k2
        generalize es : slot (fit (row.take i)).1 x = sl at hsl
        generalize et : (fit (row.take i)).1 = tops at h1 hlen hsl
        generalize ep : (fit (row.take i)).2 = places at h2' hlen
        try simp only [if_true, if_false, Bool.false_eq_true, okS_nx, ok_trB, ok_trI, ok_bind, ok_bin, ok_un, ok_k, ok_cmp, ok_cmpT, ok_chain, ok_bl, ok_nil, ok_cons, ok_call, ok_callOp, ok_isi, ok_test, ok_andT, ok_orT, ok_notT, ok_isBl, ok_andV, ok_orV, ok_notV, ok_if, okS_next, okS_seq, okS_ret, okS_expr, okS_if, okS_set, ok_run, ok_src, ok_range, ok_ok, ok_obv, ok_ob, sNext, ok_var0, ok_varS, List.map_cons, List.map_nil, List.length_cons, List.length_nil, List.replicate_succ, List.replicate_zero, List.cons_append, List.nil_append, List.getElem?_cons_zero, List.getElem?_cons_succ, List.set_cons_zero, List.set_cons_succ, Nat.reduceAdd, Nat.reduceSub, Nat.sub_self, Nat.zero_add, Nat.sub_zero, ok_sl, ok_noPart, ok_meth1]
        refine ok_part ⟨_, rfl, ?_⟩
        refine ok_slN (k2 _ _ h1) fun n1 m1 s1 f1 l1 => ?_
        refine ok_mklN ⟨by have := big_line; simp; omega, fun n2 m2 s2 f2 l2 => ?_⟩
        refine ok_addN (s2 _ _ l1) l2 (by rw [cut_to]; simp; have := big_line; omega) fun n3 m3 s3 f3 l3 => ?_
        refine ok_part ?_
        try simp only [if_true, if_false, Bool.false_eq_true, okS_nx, ok_trB, ok_trI, ok_bind, ok_bin, ok_un, ok_k, ok_cmp, ok_cmpT, ok_chain, ok_bl, ok_nil, ok_cons, ok_call, ok_callOp, ok_isi, ok_test, ok_andT, ok_orT, ok_notT, ok_isBl, ok_andV, ok_orV, ok_notV, ok_if, okS_next, okS_seq, okS_ret, okS_expr, okS_if, okS_set, ok_run, ok_src, ok_range, ok_ok, ok_obv, ok_ob, sNext, ok_var0, ok_varS, List.map_cons, List.map_nil, List.length_cons, List.length_nil, List.replicate_succ, List.replicate_zero, List.cons_append, List.nil_append, List.getElem?_cons_zero, List.getElem?_cons_succ, List.set_cons_zero, List.set_cons_succ, Nat.reduceAdd, Nat.reduceSub, Nat.sub_self, Nat.zero_add, Nat.sub_zero, ok_addI]
        refine ⟨_, rfl, ?_⟩
        refine ok_slN (s3 _ _ (s2 _ _ (s1 _ _ (k2 _ _ h1)))) fun n4 m4 s4 f4 l4 => ?_
        have e1 : ((sl : Int) + 1) = ((sl + 1 : Nat) : Int) := by omega
        rw [e1, cut_from] at l4
        rw [cut_to] at l3
        refine ok_addN (s4 _ _ l3) l4 (by simp; have := big_line; omega) fun n5 m5 s5 f5 l5 => ?_
        have big : Sub h m5 := (((k2.trans s1).trans s2).trans s3).trans (s4.trans s5)
        refine ok_recv ⟨_, _, rfl, big _ _ h2', ?_⟩
        refine ok_append (big _ _ h2') (by simp; have := big_line; omega) ?_
        have n5ne : n5 ≠ np := fun z => by
          subst z
          have := ((((k2.trans s1).trans s2).trans s3).trans s4) _ _ h2'
          rw [f5] at this
          cases this
        refine ⟨n5, np, _, _, _, rfl, ?_, ?_, h3, n5ne, (h5.trans big).set h3 _⟩
        · rw [List.getElem?_set_ne n5ne.symm, l5, htake, fit_snoc]
          unfold fitStep
          rw [es, et]
          simp
        · rw [at_set (big _ _ h2') _, htake, fit_snoc]
          unfold fitStep
          rw [es, ep]
          simp
      rcases free_first x (fit (row.take i)).1 0 with ⟨g1, g2⟩ | ⟨r, g1, g2⟩
      · rw [g1] at hf
        refine ⟨_, neD_lst (a := []) (b := []) (se _ _ hf) le, ?_⟩
        simp only [decide_true, Bool.not_true, Bool.false_eq_true, if_false]
        try simp only [if_true, if_false, Bool.false_eq_true, okS_nx, ok_trB, ok_trI, ok_bind, ok_bin, ok_un, ok_k, ok_cmp, ok_cmpT, ok_chain, ok_bl, ok_nil, ok_cons, ok_call, ok_callOp, ok_isi, ok_test, ok_andT, ok_orT, ok_notT, ok_isBl, ok_andV, ok_orV, ok_notV, ok_if, okS_next, okS_seq, okS_ret, okS_expr, okS_if, okS_set, ok_run, ok_src, ok_range, ok_ok, ok_obv, ok_ob, sNext, ok_var0, ok_varS, List.map_cons, List.map_nil, List.length_cons, List.length_nil, List.replicate_succ, List.replicate_zero, List.cons_append, List.nil_append, List.getElem?_cons_zero, List.getElem?_cons_succ, List.set_cons_zero, List.set_cons_succ, Nat.reduceAdd, Nat.reduceSub, Nat.sub_self, Nat.zero_add, Nat.sub_zero]
        refine ok_len (seq_lst (se _ _ (hs' _ _ h1))) ?_
        have k := fin he (hs'.trans se)
        try simp only [if_true, if_false, Bool.false_eq_true, okS_nx, ok_trB, ok_trI, ok_bind, ok_bin, ok_un, ok_k, ok_cmp, ok_cmpT, ok_chain, ok_bl, ok_nil, ok_cons, ok_call, ok_callOp, ok_isi, ok_test, ok_andT, ok_orT, ok_notT, ok_isBl, ok_andV, ok_orV, ok_notV, ok_if, okS_next, okS_seq, okS_ret, okS_expr, okS_if, okS_set, ok_run, ok_src, ok_range, ok_ok, ok_obv, ok_ob, sNext, ok_var0, ok_varS, List.map_cons, List.map_nil, List.length_cons, List.length_nil, List.replicate_succ, List.replicate_zero, List.cons_append, List.nil_append, List.getElem?_cons_zero, List.getElem?_cons_succ, List.set_cons_zero, List.set_cons_succ, Nat.reduceAdd, Nat.reduceSub, Nat.sub_self, Nat.zero_add, Nat.sub_zero] at k
        rw [g2] at k
        simpa using k
      · rw [g1] at hf
        refine ⟨_, neD_lst (a := ((0 + slot (fit (row.take i)).1 x : Nat) : Int) :: r) (b := []) (se _ _ hf) le, ?_⟩
        simp only [show decide ((((0 + slot (fit (row.take i)).1 x : Nat) : Int) :: r) = []) = false from rfl, Bool.not_false, if_true]
        try simp only [if_true, if_false, Bool.false_eq_true, okS_nx, ok_trB, ok_trI, ok_bind, ok_bin, ok_un, ok_k, ok_cmp, ok_cmpT, ok_chain, ok_bl, ok_nil, ok_cons, ok_call, ok_callOp, ok_isi, ok_test, ok_andT, ok_orT, ok_notT, ok_isBl, ok_andV, ok_orV, ok_notV, ok_if, okS_next, okS_seq, okS_ret, okS_expr, okS_if, okS_set, ok_run, ok_src, ok_range, ok_ok, ok_obv, ok_ob, sNext, ok_var0, ok_varS, List.map_cons, List.map_nil, List.length_cons, List.length_nil, List.replicate_succ, List.replicate_zero, List.cons_append, List.nil_append, List.getElem?_cons_zero, List.getElem?_cons_succ, List.set_cons_zero, List.set_cons_succ, Nat.reduceAdd, Nat.reduceSub, Nat.sub_self, Nat.zero_add, Nat.sub_zero]
        refine ok_ix (k := 0) (seq_lst (se _ _ hf)) rfl (fun _ z => by cases z) ?_
        have k := fin he (hs'.trans se)
        try simp only [if_true, if_false, Bool.false_eq_true, okS_nx, ok_trB, ok_trI, ok_bind, ok_bin, ok_un, ok_k, ok_cmp, ok_cmpT, ok_chain, ok_bl, ok_nil, ok_cons, ok_call, ok_callOp, ok_isi, ok_test, ok_andT, ok_orT, ok_notT, ok_isBl, ok_andV, ok_orV, ok_notV, ok_if, okS_next, okS_seq, okS_ret, okS_expr, okS_if, okS_set, ok_run, ok_src, ok_range, ok_ok, ok_obv, ok_ob, sNext, ok_var0, ok_varS, List.map_cons, List.map_nil, List.length_cons, List.length_nil, List.replicate_succ, List.replicate_zero, List.cons_append, List.nil_append, List.getElem?_cons_zero, List.getElem?_cons_succ, List.set_cons_zero, List.set_cons_succ, Nat.reduceAdd, Nat.reduceSub, Nat.sub_self, Nat.zero_add, Nat.sub_zero] at k
        simpa using k
  · rintro env h ⟨nt, np, a, b, c, rfl, h1, h2, h3, h4, h5⟩
    try simp only [if_true, if_false, Bool.false_eq_true, okS_nx, ok_trB, ok_trI, ok_bind, ok_bin, ok_un, ok_k, ok_cmp, ok_cmpT, ok_chain, ok_bl, ok_nil, ok_cons, ok_call, ok_callOp, ok_isi, ok_test, ok_andT, ok_orT, ok_notT, ok_isBl, ok_andV, ok_orV, ok_notV, ok_if, okS_next, okS_seq, okS_ret, okS_expr, okS_if, okS_set, ok_run, ok_src, ok_range, ok_ok, ok_obv, ok_ob, sNext, ok_var0, ok_varS, List.map_cons, List.map_nil, List.length_cons, List.length_nil, List.replicate_succ, List.replicate_zero, List.cons_append, List.nil_append, List.getElem?_cons_zero, List.getElem?_cons_succ, List.set_cons_zero, List.set_cons_succ, Nat.reduceAdd, Nat.reduceSub, Nat.sub_self, Nat.zero_add, Nat.sub_zero]
    refine ok_tupleOf (seq_lst h2) ?_
    have : row.take (iL row).length = row := by
      rw [List.length_map]
      exact List.take_length
    rw [this]
    exact q _ h5
  · refine ⟨nt0, np0, _, _, _, rfl, s2 _ _ l1, l2, ?_, ?_, s1.trans s2⟩
    · cases e : mh[np0]? with
      | none => rfl
      | some o =>
        have := s1 _ _ e
        rw [f2] at this
        cases this
    · intro z
      subst z
      rw [l1] at f2
      cases f2
end K10
namespace K10
open PySem PySem.Spec PyProof.Rows L2 RZ Ev
/-! ### what the greedy places are like -/
structure FitOk (row tops places : List Int) : Prop where
  len : places.length = row.length
  rng : ∀ (c : Nat) (p : Int), places[c]? = some p → 0 ≤ p ∧ p < tops.length
  top : ∀ (p : Nat) (t : Int), tops[p]? = some t → ∃ c : Nat, places[c]? = some (p : Int) ∧ row[c]? = some t ∧ ∀ c' : Nat, c < c' → places[c']? ≠ some (p : Int)
  asc : ∀ (c c' : Nat) (p x y : Int), c < c' → places[c]? = some p → places[c']? = some p → row[c]? = some x → row[c']? = some y → x ≤ y
  below : ∀ (c p : Nat) (x : Int), places[c]? = some ((p + 1 : Nat) : Int) → row[c]? = some x → ∃ (c' : Nat) (x' : Int), c' < c ∧ places[c']? = some (p : Int) ∧ row[c']? = some x' ∧ x < x' ∧ ∀ c'' : Nat, c' < c'' → c'' < c → places[c'']? ≠ some (p : Int)
theorem slot_free {tops : List Int} {x : Int} (h : slot tops x < tops.length) : ∃ t, tops[slot tops x]? = some t ∧ t ≤ x := by
  have := List.findIdx_getElem (p := fun t => decide (t ≤ x)) (w := h)
  exact ⟨_, List.getElem?_eq_getElem h, of_decide_eq_true this⟩
theorem slot_before {tops : List Int} {x : Int} {p : Nat} {t : Int} (hp : p < slot tops x) (ht : tops[p]? = some t) : x < t := by
  have h1 := List.not_of_lt_findIdx hp
  obtain ⟨hl, e⟩ := List.getElem?_eq_some_iff.mp ht
  simp only [decide_eq_false_iff_not, Bool.not_eq_true, e] at h1
  have : ¬ t ≤ x := by simpa using h1
  omega
theorem get_snoc {α : Type} (l : List α) (x : α) (i : Nat) (y : α) : (l ++ [x])[i]? = some y ↔ l[i]? = some y ∨ (i = l.length ∧ y = x) := by
  by_cases h : i < l.length
  · rw [List.getElem?_append_left h]
    constructor
    · exact .inl
    · rintro (h1 | ⟨h1, _⟩)
      · exact h1
      · omega
  · have hn : l[i]? = none := List.getElem?_eq_none (by omega)
    rw [hn, List.getElem?_append_right (by omega)]
    constructor
    · intro e
      by_cases h2 : i = l.length
      · subst h2
        simp at e
        exact .inr ⟨rfl, e.symm⟩
      · have : 0 < i - l.length := by omega
        rw [List.getElem?_eq_none (by simp; omega)] at e
        cases e
    · rintro (h1 | ⟨rfl, rfl⟩)
      · cases h1
      · simp
theorem tops_new {tops : List Int} {x : Int} {s : Nat} (hs : s ≤ tops.length) (p : Nat) (t : Int) : (tops.take s ++ [x] ++ tops.drop (s + 1))[p]? = some t ↔ (p = s ∧ t = x) ∨ (p ≠ s ∧ tops[p]? = some t) := by
  have hl : (tops.take s).length = s := by rw [List.length_take]; omega
  by_cases h1 : p < s
  · rw [List.append_assoc, List.getElem?_append_left (by omega), List.getElem?_take_of_lt h1]
    constructor
    · exact fun h => .inr ⟨by omega, h⟩
    · rintro (⟨rfl, _⟩ | ⟨_, h⟩)
      · omega
      · exact h
  · by_cases h2 : p = s
    · subst h2
      rw [List.append_assoc, List.getElem?_append_right (by omega), hl, Nat.sub_self]
      simp
      exact ⟨fun h => h.symm, fun h => h.symm⟩
    · rw [List.getElem?_append_right (by simp; omega)]
      have : (tops.drop (s + 1))[p - (tops.take s ++ [x]).length]? = tops[p]? := by
        rw [List.getElem?_drop]
        congr 1
        simp
        omega
      rw [this]
      constructor
      · exact fun h => .inr ⟨h2, h⟩
      · rintro (⟨h, _⟩ | ⟨_, h⟩)
        · exact absurd h h2
        · exact h
theorem fit_ok (row : List Int) : FitOk row (fit row).1 (fit row).2 := by
  refine snoc_ind (P := fun row => FitOk row (fit row).1 (fit row).2) ⟨rfl, by simp [fit], by simp [fit], by simp [fit], by simp [fit]⟩ (fun l x ih => ?_) row
  rw [fit_snoc]
  unfold fitStep
  generalize (fit l).1 = tops at ih
  generalize (fit l).2 = places at ih
  have hs := slot_le tops x
  generalize es : slot tops x = s at hs
  have hlen : (tops.take s ++ [x] ++ tops.drop (s + 1)).length = max tops.length (s + 1) := by
    simp
    omega
  have pl : ∀ (c : Nat) (p : Int), (places ++ [(s : Int)])[c]? = some p ↔ places[c]? = some p ∨ (c = l.length ∧ p = s) := by
    intro c p
    rw [get_snoc, ih.len]
  have lt : ∀ (c : Nat) (p : Int), places[c]? = some p → c < l.length := fun c p h => by
    rw [← ih.len]
    exact (List.getElem?_eq_some_iff.mp h).1
  have ltr : ∀ (c : Nat) (p : Int), l[c]? = some p → c < l.length := fun c p h => (List.getElem?_eq_some_iff.mp h).1
  refine ⟨by simp [ih.len], fun c p h => ?_, fun p t h => ?_, fun c c' p y z hc h1 h2 h3 h4 => ?_, fun c p y h1 h2 => ?_⟩
  · rw [hlen]
    rcases (pl c p).mp h with h | ⟨_, rfl⟩
    · have := ih.rng c p h
      omega
    · omega
  · rcases (tops_new hs p t).mp h with ⟨rfl, rfl⟩ | ⟨hne, h⟩
    · refine ⟨l.length, (pl _ _).mpr (.inr ⟨rfl, rfl⟩), (get_snoc _ _ _ _).mpr (.inr ⟨rfl, rfl⟩), fun c' hc' e => ?_⟩
      rcases (pl c' _).mp e with e | ⟨e, _⟩
      · have := lt c' _ e
        omega
      · omega
    · obtain ⟨c, g1, g2, g3⟩ := ih.top p t h
      refine ⟨c, (pl _ _).mpr (.inl g1), (get_snoc _ _ _ _).mpr (.inl g2), fun c' hc' e => ?_⟩
      rcases (pl c' _).mp e with e | ⟨_, e⟩
      · exact g3 c' hc' e
      · omega
  · rcases (pl c p).mp h1 with k1 | ⟨rfl, rfl⟩
    · rcases (get_snoc _ _ _ _).mp h3 with k3 | ⟨k3, _⟩
      · rcases (pl c' p).mp h2 with k2 | ⟨e2, e3⟩
        · rcases (get_snoc _ _ _ _).mp h4 with k4 | ⟨k4, _⟩
          · exact ih.asc c c' p y z hc k1 k2 k3 k4
          · have := lt c' _ k2
            omega
        · rcases (get_snoc _ _ _ _).mp h4 with k4 | ⟨_, e4⟩
          · have := ltr _ _ k4
            omega
          · -- the top of the track that is taken
            subst e3 e4
            have hsl : s < tops.length := by
              have := (ih.rng c _ k1).2
              omega
            obtain ⟨t, ht, htx⟩ := slot_free (tops := tops) (x := z) (by rw [es]; exact hsl)
            rw [es] at ht
            obtain ⟨ct, g1, g2, g3⟩ := ih.top s t ht
            have : y ≤ t := by
              rcases Nat.lt_trichotomy c ct with q | q | q
              · exact ih.asc c ct _ y t q k1 g1 k3 g2
              · subst q
                rw [k3] at g2
                cases g2
                exact Int.le_refl _
              · exact absurd k1 (g3 c q)
            omega
      · have := lt c _ k1
        omega
    · have := hc
      rcases (pl c' _).mp h2 with h2 | ⟨h2, _⟩
      · have := lt c' _ h2
        omega
      · omega
  · rcases (pl c _).mp h1 with h1 | ⟨rfl, e⟩
    · rcases (get_snoc _ _ _ _).mp h2 with h2 | ⟨h2, _⟩
      · obtain ⟨c', x', g1, g2, g3, g4, g5⟩ := ih.below c p y h1 h2
        refine ⟨c', x', g1, (pl _ _).mpr (.inl g2), (get_snoc _ _ _ _).mpr (.inl g3), g4, fun c'' q1 q2 e => ?_⟩
        rcases (pl c'' _).mp e with e | ⟨e, _⟩
        · exact g5 c'' q1 q2 e
        · have := lt c _ h1
          omega
      · have := lt c _ h1
        omega
    · rcases (get_snoc _ _ _ _).mp h2 with h2 | ⟨_, rfl⟩
      · have := ltr _ _ h2
        omega
      · have hp : p < slot tops y := by
          rw [es]
          omega
        have hpl : p < tops.length := by omega
        have ht := List.getElem?_eq_getElem hpl
        have hx := slot_before hp ht
        obtain ⟨c', g1, g2, g3⟩ := ih.top p _ ht
        refine ⟨c', _, lt c' _ g1, (pl _ _).mpr (.inl g1), (get_snoc _ _ _ _).mpr (.inl g2), hx, fun c'' q1 q2 e => ?_⟩
        rcases (pl c'' _).mp e with e | ⟨e, _⟩
        · exact g3 c'' q1 e
        · omega
end K10
namespace K10
open PySem PySem.Spec PyProof.Rows L2 RZ Ev
/-! ### the longest falling lot, from behind -/
def lotStep (row places : List Int) (s : List Int × Int) (car : Nat) : List Int × Int :=
  if places.getD car 0 = s.2 ∧ (s.1 = [] ∨ row.getD (s.1.getLastD 0).toNat 0 < row.getD car 0) then (s.1 ++ [(car : Int)], s.2 - 1) else s
def maxDef (l : List Int) (d : Int) : Int := match maxI l with
  | some m => m
  | none => d
def lotB (row places : List Int) : List Int := ((List.range row.length).reverse.foldl (lotStep row places) ([], maxDef places (-1))).1
theorem ok_maxD {v : PV} {l : List Int} {d : Int} {h : MH} {Q : PV → MH → Prop} (hs : intSeq v h = some l) (q : Q (.int (maxDef l d)) h) : Ok (opMaxD v (.int d) h) Q := by
  simp only [opMaxD, hs]
  unfold maxDef at q
  cases e : maxI l with
  | some m => rw [e] at q; exact q
  | none => rw [e] at q; exact q
theorem range_down {n : Nat} (hn : n < 1000000) : rangeOf [.int ((n : Int) - 1), .int (-1), .int (-1)] = some ((List.range n).map fun k => .int ((n : Int) - 1 - (k : Nat))) := by
  have h2 : Builtin.Range.rangeSize ((n : Int) - 1) (-1) (-1) = n := by
    unfold Builtin.Range.rangeSize
    simp
    omega
  have h1 : Builtin.Range.small ((n : Int) - 1) (-1) (-1) = true := by
    unfold Builtin.Range.small
    rw [h2]
    simp only [Builtin.Range.rangeFitsLong, Bool.and_eq_true, Bool.or_eq_true, decide_eq_true_eq, beq_iff_eq, show ¬ ((-1 : Int) > 0) by decide, if_false]
    omega
  simp only [rangeOf]
  rw [if_pos ⟨by decide, by decide, smallB_iff.mpr h1⟩, h2]
  simp only [Int.toNat_natCast]
  unfold rangeL
  congr 1
  apply List.map_congr_left
  intro k _
  congr 1
  omega
theorem ok_ixLast {v : PV} {vs : List PV} {x : PV} {h : MH} {Q : PV → MH → Prop} (hs : seqOf v h = some vs) (hx : vs.getLast? = some x) (hv : ∀ z, v ≠ .str z) (q : Q x h) : Ok (opIx v (.int (-1)) h) Q := by
  have hne : vs ≠ [] := fun z => by
    subst z
    cases hx
  have hl : 0 < vs.length := List.length_pos_iff.mpr hne
  have e : ixPV v (.int (-1)) h = some x := by
    have e2 : atI vs (-1) = some x := by
      unfold atI ixN
      rw [if_neg (by decide), if_pos (by omega)]
      have : ((-1 : Int) + (vs.length : Nat)).toNat = vs.length - 1 := by omega
      simp only [Option.bind_some, this]
      rw [← List.getLast?_eq_getElem?]
      exact hx
    cases v with
    | str z => exact absurd rfl (hv z)
    | _ => simp only [ixPV, hs, e2]
  unfold opIx
  rw [e]
  exact q
theorem cars_take {n i : Nat} (hi : i < n) : (List.range n).reverse.take (i + 1) = (List.range n).reverse.take i ++ [n - 1 - i] := by
  have : (List.range n).reverse[i]? = some (n - 1 - i) := by
    rw [List.getElem?_reverse (by simpa using hi), List.length_range, List.getElem?_range (by omega)]
  rw [List.take_add_one, this]
  rfl
theorem longest_s {row places : List Int} (hr : row.length ≤ 40) (hl : places.length = row.length) {mh : MH} {Q : PV → MH → Prop} (q : ∀ h, Sub mh h → Q (iT (lotB row places).reverse) h) : Ok (f_longest_lot [iT row, iT places] mh) Q := by
  unfold f_longest_lot
  try simp only [if_true, if_false, Bool.false_eq_true, okS_nx, ok_trB, ok_trI, ok_bind, ok_bin, ok_un, ok_k, ok_cmp, ok_cmpT, ok_chain, ok_bl, ok_nil, ok_cons, ok_call, ok_callOp, ok_isi, ok_test, ok_andT, ok_orT, ok_notT, ok_isBl, ok_andV, ok_orV, ok_notV, ok_if, okS_next, okS_seq, okS_ret, okS_expr, okS_if, okS_set, ok_run, ok_src, ok_range, ok_ok, ok_obv, ok_ob, sNext, ok_var0, ok_varS, List.map_cons, List.map_nil, List.length_cons, List.length_nil, List.replicate_succ, List.replicate_zero, List.cons_append, List.nil_append, List.getElem?_cons_zero, List.getElem?_cons_succ, List.set_cons_zero, List.set_cons_succ, Nat.reduceAdd, Nat.reduceSub, Nat.sub_self, Nat.zero_add, Nat.sub_zero, okS_par]
  refine ok_mklN ⟨by decide, fun nl0 g1 s1 f1 l1 => ?_⟩
  refine ok_negI.mpr ?_
  refine ok_maxD (l := places) (by unfold intSeq; rw [seq_tup]; exact intsOf_iL places) ?_
  refine ⟨_, _, rfl, ?_⟩
  refine okS_for ?_
  try simp only [if_true, if_false, Bool.false_eq_true, okS_nx, ok_trB, ok_trI, ok_bind, ok_bin, ok_un, ok_k, ok_cmp, ok_cmpT, ok_chain, ok_bl, ok_nil, ok_cons, ok_call, ok_callOp, ok_isi, ok_test, ok_andT, ok_orT, ok_notT, ok_isBl, ok_andV, ok_orV, ok_notV, ok_if, okS_next, okS_seq, okS_ret, okS_expr, okS_if, okS_set, ok_run, ok_src, ok_range, ok_ok, ok_obv, ok_ob, sNext, ok_var0, ok_varS, List.map_cons, List.map_nil, List.length_cons, List.length_nil, List.replicate_succ, List.replicate_zero, List.cons_append, List.nil_append, List.getElem?_cons_zero, List.getElem?_cons_succ, List.set_cons_zero, List.set_cons_succ, Nat.reduceAdd, Nat.reduceSub, Nat.sub_self, Nat.zero_add, Nat.sub_zero]
  refine ok_len (seq_tup _) ?_
  refine ok_subI.mpr ?_
  simp only [ok_negI]
  rw [List.length_map]
  refine ⟨_, range_down (n := row.length) (by omega), ?_⟩
  refine ⟨_, fun i env h => ∃ nl lot num a, env = [some (iT row), some (iT places), some (.ref nl), some (.int num), a] ∧ h[nl]? = some (.lst (iL lot)) ∧ (lot, num) = ((List.range row.length).reverse.take i).foldl (lotStep row places) ([], maxDef places (-1)) ∧ (∀ e ∈ lot, ∃ k : Nat, e = k ∧ k < row.length) ∧ lot.length ≤ i ∧ i ≤ row.length ∧ mh[nl]? = none ∧ Sub mh h,
    by simp; unfold loopFuel; omega, fun _ _ h _ => srcIs_vals _ _, ?_, ?_, ?_⟩
  · rintro i v env h hv ⟨nl, lot, num, a, rfl, h1, h2, h3, h3', h3'', h4, h5⟩
    rw [List.getElem?_map] at hv
    obtain ⟨k, hk, rfl⟩ := Option.map_eq_some_iff.mp hv
    obtain ⟨hi, hk2⟩ := List.getElem?_eq_some_iff.mp hk
    rw [List.length_range] at hi
    rw [List.getElem_range] at hk2
    subst hk2
    have ec : ((row.length : Int) - 1 - (i : Nat)) = ((row.length - 1 - i : Nat) : Int) := by omega
    rw [ec]
    have hc : row.length - 1 - i < row.length := by omega
    generalize hcar : row.length - 1 - i = c at hc
    have hst : ((List.range row.length).reverse.take (i + 1)).foldl (lotStep row places) ([], maxDef places (-1)) = lotStep row places (lot, num) c := by
      rw [cars_take hi, List.foldl_append, ← h2, hcar]
      rfl
    have hrc : (iL row)[c]? = some (.int (row.getD c 0)) := by
      rw [List.getElem?_map, List.getD, List.getElem?_eq_getElem hc]
      rfl
    have hpc : (iL places)[c]? = some (.int (places.getD c 0)) := by
      rw [List.getElem?_map, List.getD, List.getElem?_eq_getElem (by omega)]
      rfl
    have big := big_line
    -- what is left of a turn, with and without the car
    have skip : ∀ h2, Sub h h2 → lotStep row places (lot, num) c = (lot, num) → ∃ nl' lot' num' a', [some (iT row), some (iT places), some (.ref nl), some (.int num), some (.int (c : Nat))] = [some (iT row), some (iT places), some (.ref nl'), some (.int num'), a'] ∧ h2[nl']? = some (.lst (iL lot')) ∧ (lot', num') = ((List.range row.length).reverse.take (i + 1)).foldl (lotStep row places) ([], maxDef places (-1)) ∧ (∀ e ∈ lot', ∃ k : Nat, e = k ∧ k < row.length) ∧ lot'.length ≤ i + 1 ∧ i + 1 ≤ row.length ∧ mh[nl']? = none ∧ Sub mh h2 := by
      intro h2' k2 e
      exact ⟨nl, lot, num, _, rfl, k2 _ _ h1, by rw [hst, e], h3, by omega, hi, h4, h5.trans k2⟩
    have add : ∀ h2, Sub h h2 → lotStep row places (lot, num) c = (lot ++ [(c : Int)], num - 1) → OkS ((sSeq (sExpr (mMeth1 meAppend (mRecv (mVar 2)) (mVar 4))) (sSeq (sAsg (mBin opSub (mVar 3) (mK (.int 1))) (.nm 3)) sNext))
        [some (iT row), some (iT places), some (.ref nl), some (.int num), some (.int (c : Nat))] h2) ⟨fun env h => ∃ nl lot num a, env = [some (iT row), some (iT places), some (.ref nl), some (.int num), a] ∧ h[nl]? = some (.lst (iL lot)) ∧ (lot, num) = ((List.range row.length).reverse.take (i + 1)).foldl (lotStep row places) ([], maxDef places (-1)) ∧ (∀ e ∈ lot, ∃ k : Nat, e = k ∧ k < row.length) ∧ lot.length ≤ i + 1 ∧ i + 1 ≤ row.length ∧ mh[nl]? = none ∧ Sub mh h, fun _ _ => False, fun _ _ => False, fun _ _ => False⟩ := by
      intro h2' k2 e
      try simp only [if_true, if_false, Bool.false_eq_true, okS_nx, ok_trB, ok_trI, ok_bind, ok_bin, ok_un, ok_k, ok_cmp, ok_cmpT, ok_chain, ok_bl, ok_nil, ok_cons, ok_call, ok_callOp, ok_isi, ok_test, ok_andT, ok_orT, ok_notT, ok_isBl, ok_andV, ok_orV, ok_notV, ok_if, okS_next, okS_seq, okS_ret, okS_expr, okS_if, okS_set, ok_run, ok_src, ok_range, ok_ok, ok_obv, ok_ob, sNext, ok_var0, ok_varS, List.map_cons, List.map_nil, List.length_cons, List.length_nil, List.replicate_succ, List.replicate_zero, List.cons_append, List.nil_append, List.getElem?_cons_zero, List.getElem?_cons_succ, List.set_cons_zero, List.set_cons_succ, Nat.reduceAdd, Nat.reduceSub, Nat.sub_self, Nat.zero_add, Nat.sub_zero, ok_meth1]
      refine ok_recv ?_
      try simp only [if_true, if_false, Bool.false_eq_true, okS_nx, ok_trB, ok_trI, ok_bind, ok_bin, ok_un, ok_k, ok_cmp, ok_cmpT, ok_chain, ok_bl, ok_nil, ok_cons, ok_call, ok_callOp, ok_isi, ok_test, ok_andT, ok_orT, ok_notT, ok_isBl, ok_andV, ok_orV, ok_notV, ok_if, okS_next, okS_seq, okS_ret, okS_expr, okS_if, okS_set, ok_run, ok_src, ok_range, ok_ok, ok_obv, ok_ob, sNext, ok_var0, ok_varS, List.map_cons, List.map_nil, List.length_cons, List.length_nil, List.replicate_succ, List.replicate_zero, List.cons_append, List.nil_append, List.getElem?_cons_zero, List.getElem?_cons_succ, List.set_cons_zero, List.set_cons_succ, Nat.reduceAdd, Nat.reduceSub, Nat.sub_self, Nat.zero_add, Nat.sub_zero]
      refine ⟨_, _, rfl, k2 _ _ h1, ?_⟩
      refine ok_append (k2 _ _ h1) (by rw [List.length_map]; omega) ?_
      refine ok_subI.mpr ?_
      refine ⟨nl, lot ++ [(c : Int)], num - 1, _, rfl, ?_, by rw [hst, e], ?_, by rw [List.length_append]; simp; omega, hi, h4, (h5.trans k2).set h4 _⟩
      · rw [at_set (k2 _ _ h1)]
        simp
      · intro x hx
        rcases List.mem_append.mp hx with hx | hx
        · exact h3 x hx
        · rw [List.mem_singleton] at hx
          exact ⟨c, hx, hc⟩
    refine ⟨_, rfl, ?_⟩
    try simp only [if_true, if_false, Bool.false_eq_true, okS_nx, ok_trB, ok_trI, ok_bind, ok_bin, ok_un, ok_k, ok_cmp, ok_cmpT, ok_chain, ok_bl, ok_nil, ok_cons, ok_call, ok_callOp, ok_isi, ok_test, ok_andT, ok_orT, ok_notT, ok_isBl, ok_andV, ok_orV, ok_notV, ok_if, okS_next, okS_seq, okS_ret, okS_expr, okS_if, okS_set, ok_run, ok_src, ok_range, ok_ok, ok_obv, ok_ob, sNext, ok_var0, ok_varS, List.map_cons, List.map_nil, List.length_cons, List.length_nil, List.replicate_succ, List.replicate_zero, List.cons_append, List.nil_append, List.getElem?_cons_zero, List.getElem?_cons_succ, List.set_cons_zero, List.set_cons_succ, Nat.reduceAdd, Nat.reduceSub, Nat.sub_self, Nat.zero_add, Nat.sub_zero]
    refine ok_ix (k := c) (seq_tup _) hpc (fun _ z => by cases z) ?_
    refine ⟨_, eqD_int, ?_⟩
    by_cases hp : places.getD c 0 = num
    · simp only [hp, decide_true, if_true]
      try simp only [if_true, if_false, Bool.false_eq_true, okS_nx, ok_trB, ok_trI, ok_bind, ok_bin, ok_un, ok_k, ok_cmp, ok_cmpT, ok_chain, ok_bl, ok_nil, ok_cons, ok_call, ok_callOp, ok_isi, ok_test, ok_andT, ok_orT, ok_notT, ok_isBl, ok_andV, ok_orV, ok_notV, ok_if, okS_next, okS_seq, okS_ret, okS_expr, okS_if, okS_set, ok_run, ok_src, ok_range, ok_ok, ok_obv, ok_ob, sNext, ok_var0, ok_varS, List.map_cons, List.map_nil, List.length_cons, List.length_nil, List.replicate_succ, List.replicate_zero, List.cons_append, List.nil_append, List.getElem?_cons_zero, List.getElem?_cons_succ, List.set_cons_zero, List.set_cons_succ, Nat.reduceAdd, Nat.reduceSub, Nat.sub_self, Nat.zero_add, Nat.sub_zero]
      refine ok_mklN ⟨by decide, fun ne he se fe le => ?_⟩
      refine ⟨_, eqD_lst (b := []) (se _ _ h1) le, ?_⟩
      by_cases hlot : lot = []
      · simp only [hlot, decide_true, if_true]
        have k := add he se (by unfold lotStep; rw [if_pos ⟨hp, .inl hlot⟩])
        try simp only [if_true, if_false, Bool.false_eq_true, okS_nx, ok_trB, ok_trI, ok_bind, ok_bin, ok_un, ok_k, ok_cmp, ok_cmpT, ok_chain, ok_bl, ok_nil, ok_cons, ok_call, ok_callOp, ok_isi, ok_test, ok_andT, ok_orT, ok_notT, ok_isBl, ok_andV, ok_orV, ok_notV, ok_if, okS_next, okS_seq, okS_ret, okS_expr, okS_if, okS_set, ok_run, ok_src, ok_range, ok_ok, ok_obv, ok_ob, sNext, ok_var0, ok_varS, List.map_cons, List.map_nil, List.length_cons, List.length_nil, List.replicate_succ, List.replicate_zero, List.cons_append, List.nil_append, List.getElem?_cons_zero, List.getElem?_cons_succ, List.set_cons_zero, List.set_cons_succ, Nat.reduceAdd, Nat.reduceSub, Nat.sub_self, Nat.zero_add, Nat.sub_zero] at k ⊢
        exact k
      · simp only [hlot, decide_false, Bool.false_eq_true, if_false]
        try simp only [if_true, if_false, Bool.false_eq_true, okS_nx, ok_trB, ok_trI, ok_bind, ok_bin, ok_un, ok_k, ok_cmp, ok_cmpT, ok_chain, ok_bl, ok_nil, ok_cons, ok_call, ok_callOp, ok_isi, ok_test, ok_andT, ok_orT, ok_notT, ok_isBl, ok_andV, ok_orV, ok_notV, ok_if, okS_next, okS_seq, okS_ret, okS_expr, okS_if, okS_set, ok_run, ok_src, ok_range, ok_ok, ok_obv, ok_ob, sNext, ok_var0, ok_varS, List.map_cons, List.map_nil, List.length_cons, List.length_nil, List.replicate_succ, List.replicate_zero, List.cons_append, List.nil_append, List.getElem?_cons_zero, List.getElem?_cons_succ, List.set_cons_zero, List.set_cons_succ, Nat.reduceAdd, Nat.reduceSub, Nat.sub_self, Nat.zero_add, Nat.sub_zero]
        refine ok_ix (k := c) (seq_tup _) hrc (fun _ z => by cases z) ?_
        refine ok_negI.mpr ?_
        obtain ⟨k, ek, hk⟩ := h3 (lot.getLast hlot) (List.getLast_mem hlot)
        have hlast : (iL lot).getLast? = some (.int (k : Nat)) := by
          rw [List.getLast?_map, List.getLast?_eq_some_getLast hlot, ek]
          rfl
        refine ok_ixLast (seq_lst (se _ _ h1)) hlast (fun _ z => by cases z) ?_
        have hrk : (iL row)[k]? = some (.int (row.getD k 0)) := by
          rw [List.getElem?_map, List.getD, List.getElem?_eq_getElem hk]
          rfl
        refine ok_ix (k := k) (seq_tup _) hrk (fun _ z => by cases z) ?_
        refine ⟨_, rfl, ?_⟩
        have eD : lot.getLastD 0 = (k : Int) := by
          rw [List.getLastD_eq_getLast?, List.getLast?_eq_some_getLast hlot, ek]
          rfl
        by_cases hlt : row.getD k 0 < row.getD c 0
        · simp only [hlt, decide_true, if_true]
          have kk := add he se (by unfold lotStep; rw [if_pos ⟨hp, .inr (by rw [eD]; simpa using hlt)⟩])
          try simp only [if_true, if_false, Bool.false_eq_true, okS_nx, ok_trB, ok_trI, ok_bind, ok_bin, ok_un, ok_k, ok_cmp, ok_cmpT, ok_chain, ok_bl, ok_nil, ok_cons, ok_call, ok_callOp, ok_isi, ok_test, ok_andT, ok_orT, ok_notT, ok_isBl, ok_andV, ok_orV, ok_notV, ok_if, okS_next, okS_seq, okS_ret, okS_expr, okS_if, okS_set, ok_run, ok_src, ok_range, ok_ok, ok_obv, ok_ob, sNext, ok_var0, ok_varS, List.map_cons, List.map_nil, List.length_cons, List.length_nil, List.replicate_succ, List.replicate_zero, List.cons_append, List.nil_append, List.getElem?_cons_zero, List.getElem?_cons_succ, List.set_cons_zero, List.set_cons_succ, Nat.reduceAdd, Nat.reduceSub, Nat.sub_self, Nat.zero_add, Nat.sub_zero] at kk ⊢
          exact kk
        · simp only [hlt, decide_false, Bool.false_eq_true, if_false]
          try simp only [if_true, if_false, Bool.false_eq_true, okS_nx, ok_trB, ok_trI, ok_bind, ok_bin, ok_un, ok_k, ok_cmp, ok_cmpT, ok_chain, ok_bl, ok_nil, ok_cons, ok_call, ok_callOp, ok_isi, ok_test, ok_andT, ok_orT, ok_notT, ok_isBl, ok_andV, ok_orV, ok_notV, ok_if, okS_next, okS_seq, okS_ret, okS_expr, okS_if, okS_set, ok_run, ok_src, ok_range, ok_ok, ok_obv, ok_ob, sNext, ok_var0, ok_varS, List.map_cons, List.map_nil, List.length_cons, List.length_nil, List.replicate_succ, List.replicate_zero, List.cons_append, List.nil_append, List.getElem?_cons_zero, List.getElem?_cons_succ, List.set_cons_zero, List.set_cons_succ, Nat.reduceAdd, Nat.reduceSub, Nat.sub_self, Nat.zero_add, Nat.sub_zero]
          refine skip he se ?_
          unfold lotStep
          rw [if_neg]
          rintro ⟨_, z | z⟩
          · exact hlot z
          · rw [eD] at z
            exact hlt (by simpa using z)
    · simp only [hp, decide_false, Bool.false_eq_true, if_false]
      try simp only [if_true, if_false, Bool.false_eq_true, okS_nx, ok_trB, ok_trI, ok_bind, ok_bin, ok_un, ok_k, ok_cmp, ok_cmpT, ok_chain, ok_bl, ok_nil, ok_cons, ok_call, ok_callOp, ok_isi, ok_test, ok_andT, ok_orT, ok_notT, ok_isBl, ok_andV, ok_orV, ok_notV, ok_if, okS_next, okS_seq, okS_ret, okS_expr, okS_if, okS_set, ok_run, ok_src, ok_range, ok_ok, ok_obv, ok_ob, sNext, ok_var0, ok_varS, List.map_cons, List.map_nil, List.length_cons, List.length_nil, List.replicate_succ, List.replicate_zero, List.cons_append, List.nil_append, List.getElem?_cons_zero, List.getElem?_cons_succ, List.set_cons_zero, List.set_cons_succ, Nat.reduceAdd, Nat.reduceSub, Nat.sub_self, Nat.zero_add, Nat.sub_zero]
      refine skip h (.refl _) ?_
      unfold lotStep
      rw [if_neg]
      exact fun z => hp z.1
  · rintro env h ⟨nl, lot, num, a, rfl, h1, h2, h3, h3', h3'', h4, h5⟩
    simp only [List.length_map, List.length_range] at h2
    rw [List.take_of_length_le (by simp)] at h2
    try simp only [if_true, if_false, Bool.false_eq_true, okS_nx, ok_trB, ok_trI, ok_bind, ok_bin, ok_un, ok_k, ok_cmp, ok_cmpT, ok_chain, ok_bl, ok_nil, ok_cons, ok_call, ok_callOp, ok_isi, ok_test, ok_andT, ok_orT, ok_notT, ok_isBl, ok_andV, ok_orV, ok_notV, ok_if, okS_next, okS_seq, okS_ret, okS_expr, okS_if, okS_set, ok_run, ok_src, ok_range, ok_ok, ok_obv, ok_ob, sNext, ok_var0, ok_varS, List.map_cons, List.map_nil, List.length_cons, List.length_nil, List.replicate_succ, List.replicate_zero, List.cons_append, List.nil_append, List.getElem?_cons_zero, List.getElem?_cons_succ, List.set_cons_zero, List.set_cons_succ, Nat.reduceAdd, Nat.reduceSub, Nat.sub_self, Nat.zero_add, Nat.sub_zero, ok_rev]
    refine ok_revN h1 fun n2 h2' s2 f2 l2 => ?_
    refine ok_tupleOf (seq_lst l2) ?_
    have e : lot = lotB row places := by
      unfold lotB
      rw [← h2]
    subst e
    rw [← List.map_reverse]
    exact q _ (h5.trans s2)
  · exact ⟨nl0, [], _, _, rfl, l1, rfl, by simp, by simp, Nat.zero_le _, f1, s1⟩
end K10
namespace K10
open PySem PySem.Spec PyProof.Rows L2 RZ Ev
theorem range_rev (j : Nat) : (List.range (j + 1)).reverse = j :: (List.range j).reverse := by
  rw [List.range_succ, List.reverse_append]
  rfl
abbrev lotRun (row places : List Int) (j : Nat) (s : List Int × Int) : List Int := ((List.range j).reverse.foldl (lotStep row places) s).1
theorem run_succ (row places : List Int) (j : Nat) (s : List Int × Int) : lotRun row places (j + 1) s = lotRun row places j (lotStep row places s j) := by
  unfold lotRun
  rw [range_rev]
  rfl
theorem getD_some {l : List Int} {c : Nat} {x : Int} (h : l[c]? = some x) : l.getD c 0 = x := by
  rw [List.getD, h]
  rfl
section
variable {row tops places : List Int} (F : FitOk row tops places)
include F
theorem run_end : ∀ (j : Nat) (lot : List Int), j ≤ row.length → lotRun row places j (lot, -1) = lot
  | 0, lot, _ => rfl
  | j + 1, lot, h => by
    rw [run_succ]
    have hj : j < places.length := by rw [F.len]; omega
    have e : lotStep row places (lot, -1) j = (lot, -1) := by
      unfold lotStep
      rw [if_neg]
      rintro ⟨z, _⟩
      have g := List.getElem?_eq_getElem hj
      have := (F.rng j _ g).1
      rw [getD_some g] at z
      have z' : places[j] = -1 := z
      omega
    rw [e]
    exact run_end j lot (by omega)
theorem run_down : ∀ (j : Nat) (lot : List Int) (p : Nat), j ≤ row.length → (∃ (c : Nat) (x : Int), c < j ∧ places[c]? = some (p : Int) ∧ row[c]? = some x ∧ (∀ c'' : Nat, c < c'' → c'' < j → places[c'']? ≠ some (p : Int)) ∧ (lot = [] ∨ row.getD (lot.getLastD 0).toNat 0 < x)) →
    ∃ r : List Nat, lotRun row places j (lot, p) = lot ++ r.map (fun (k : Nat) => (k : Int)) ∧ r.length = p + 1 ∧ r.Pairwise (fun a b => b < a ∧ row.getD a 0 < row.getD b 0) ∧ ∀ e ∈ r, e < j ∧ (lot = [] ∨ row.getD (lot.getLastD 0).toNat 0 < row.getD e 0)
  | 0, lot, p, _, ⟨c, _, hc, _⟩ => by omega
  | j + 1, lot, p, h, ⟨c, x, hc, hp, hx, hno, hb⟩ => by
    rw [run_succ]
    by_cases hj : c = j
    · subst hj
      have e : lotStep row places (lot, p) c = (lot ++ [(c : Int)], (p : Int) - 1) := by
        unfold lotStep
        rw [if_pos ⟨getD_some hp, by rw [getD_some hx]; exact hb⟩]
      rw [e]
      have hlast : (lot ++ [(c : Int)]).getLastD 0 = (c : Int) := by
        rw [List.getLastD_eq_getLast?]
        simp
      cases p with
      | zero =>
        have e2 : ((0 : Nat) : Int) - 1 = -1 := by decide
        rw [e2, run_end F c _ (by omega)]
        refine ⟨[c], rfl, rfl, by simp, fun e he => ?_⟩
        rw [List.mem_singleton] at he
        subst he
        rw [getD_some hx]
        exact ⟨by omega, hb⟩
      | succ p =>
        have e2 : ((p + 1 : Nat) : Int) - 1 = (p : Nat) := by omega
        rw [e2]
        obtain ⟨c', x', g1, g2, g3, g4, g5⟩ := F.below c p x hp hx
        obtain ⟨r, q1, q2, q3, q4⟩ := run_down c (lot ++ [(c : Int)]) p (by omega) ⟨c', x', g1, g2, g3, g5, .inr (by rw [hlast, Int.toNat_natCast, getD_some hx]; exact g4)⟩
        refine ⟨c :: r, ?_, by simp [q2], ?_, ?_⟩
        · rw [q1]
          simp
        · refine List.pairwise_cons.mpr ⟨fun e he => ?_, q3⟩
          obtain ⟨w1, w2⟩ := q4 e he
          rw [hlast, Int.toNat_natCast] at w2
          rcases w2 with w2 | w2
          · simp at w2
          · exact ⟨w1, w2⟩
        · intro e he
          rcases List.mem_cons.mp he with rfl | he
          · rw [getD_some hx]
            exact ⟨by omega, hb⟩
          · obtain ⟨w1, w2⟩ := q4 e he
            rw [hlast, Int.toNat_natCast, getD_some hx] at w2
            refine ⟨by omega, ?_⟩
            rcases hb with hb | hb
            · exact .inl hb
            · rcases w2 with w2 | w2
              · simp at w2
              · exact .inr (by omega)
    · have e : lotStep row places (lot, (p : Int)) j = (lot, (p : Int)) := by
        unfold lotStep
        rw [if_neg]
        rintro ⟨z, _⟩
        have hjl : j < places.length := by rw [F.len]; omega
        have g := List.getElem?_eq_getElem hjl
        rw [getD_some g] at z
        exact hno j (by omega) (by omega) (by rw [g]; exact congrArg some z)
      rw [e]
      obtain ⟨r, q1, q2, q3, q4⟩ := run_down j lot p (by omega) ⟨c, x, by omega, hp, hx, fun c'' h1 h2 => hno c'' h1 (by omega), hb⟩
      exact ⟨r, q1, q2, q3, fun e he => ⟨by have := (q4 e he).1; omega, (q4 e he).2⟩⟩
theorem max_places : maxDef places (-1) = (tops.length : Int) - 1 := by
  unfold maxDef
  cases e : maxI places with
  | none =>
    have : places = [] := by
      cases places with
      | nil => rfl
      | cons _ _ => cases e
    have ht : tops = [] := by
      cases tops with
      | nil => rfl
      | cons t ts =>
        obtain ⟨c, g, _⟩ := F.top 0 t rfl
        rw [this] at g
        cases g
    rw [ht]
    rfl
  | some m =>
    obtain ⟨h1, h2⟩ := maxI_spec e
    obtain ⟨c, hc⟩ := List.mem_iff_getElem?.mp h1
    have h3 := F.rng c m hc
    have hpos : tops.length - 1 < tops.length := by omega
    obtain ⟨c2, g, _⟩ := F.top (tops.length - 1) _ (List.getElem?_eq_getElem hpos)
    have h4 := h2 _ (List.mem_of_getElem? g)
    show m = _
    omega
/-- the lot from behind: as many as tracks, falling -/
theorem lotB_is : ∃ r : List Nat, lotB row places = r.map (fun (k : Nat) => (k : Int)) ∧ r.length = tops.length ∧ r.Pairwise (fun a b => b < a ∧ row.getD a 0 < row.getD b 0) ∧ ∀ e ∈ r, e < row.length := by
  unfold lotB
  rw [max_places F]
  cases hT : tops.length with
  | zero =>
    have := run_end F row.length [] (Nat.le_refl _)
    exact ⟨[], this, rfl, .nil, by simp⟩
  | succ p =>
    have e : ((p + 1 : Nat) : Int) - 1 = (p : Nat) := by omega
    rw [e]
    have hpl : p < tops.length := by omega
    obtain ⟨c, g1, g2, g3⟩ := F.top p _ (List.getElem?_eq_getElem hpl)
    have hc : c < row.length := (List.getElem?_eq_some_iff.mp g2).1
    obtain ⟨r, q1, q2, q3, q4⟩ := run_down F row.length [] p (Nat.le_refl _) ⟨c, _, hc, g1, g2, fun c'' h1 _ => g3 c'' h1, .inl rfl⟩
    exact ⟨r, q1, q2, q3, fun e he => (q4 e he).1⟩
end
end K10
namespace K10
open PySem PySem.Spec PyProof.Rows L2 RZ Ev
/-! ### fewest_tracks -/
def tracks (row : List Int) : Nat := (fit row).1.length
def lotOf (row : List Int) : List Int := (lotB row (fit row).2).reverse
abbrev told (row : List Int) : List PV := [.int (tracks row : Nat), iT (fit row).2, iT (lotOf row)]
theorem fewest_s {row : List Int} (hr : IsRow row) {mh : MH} {Q : PV → MH → Prop} (q : ∀ h, Sub mh h → Q (.tup (told row)) h) : Ok (f_fewest_tracks [iT row] mh) Q := by
  have hl := hr.len
  unfold f_fewest_tracks
  try simp only [if_true, if_false, Bool.false_eq_true, okS_nx, ok_trB, ok_trI, ok_bind, ok_bin, ok_un, ok_k, ok_cmp, ok_cmpT, ok_chain, ok_bl, ok_nil, ok_cons, ok_call, ok_callOp, ok_isi, ok_test, ok_andT, ok_orT, ok_notT, ok_isBl, ok_andV, ok_orV, ok_notV, ok_if, okS_next, okS_seq, okS_ret, okS_expr, okS_if, okS_set, ok_run, ok_src, ok_range, ok_ok, ok_obv, ok_ob, sNext, ok_var0, ok_varS, List.map_cons, List.map_nil, List.length_cons, List.length_nil, List.replicate_succ, List.replicate_zero, List.cons_append, List.nil_append, List.getElem?_cons_zero, List.getElem?_cons_succ, List.set_cons_zero, List.set_cons_succ, Nat.reduceAdd, Nat.reduceSub, Nat.sub_self, Nat.zero_add, Nat.sub_zero]
  refine check_row_s hr fun v h1 s1 => ?_
  refine fitted_s (by omega) fun h2 s2 => ?_
  try simp only [if_true, if_false, Bool.false_eq_true, okS_nx, ok_trB, ok_trI, ok_bind, ok_bin, ok_un, ok_k, ok_cmp, ok_cmpT, ok_chain, ok_bl, ok_nil, ok_cons, ok_call, ok_callOp, ok_isi, ok_test, ok_andT, ok_orT, ok_notT, ok_isBl, ok_andV, ok_orV, ok_notV, ok_if, okS_next, okS_seq, okS_ret, okS_expr, okS_if, okS_set, ok_run, ok_src, ok_range, ok_ok, ok_obv, ok_ob, sNext, ok_var0, ok_varS, List.map_cons, List.map_nil, List.length_cons, List.length_nil, List.replicate_succ, List.replicate_zero, List.cons_append, List.nil_append, List.getElem?_cons_zero, List.getElem?_cons_succ, List.set_cons_zero, List.set_cons_succ, Nat.reduceAdd, Nat.reduceSub, Nat.sub_self, Nat.zero_add, Nat.sub_zero]
  refine ok_mtup ?_
  try simp only [if_true, if_false, Bool.false_eq_true, okS_nx, ok_trB, ok_trI, ok_bind, ok_bin, ok_un, ok_k, ok_cmp, ok_cmpT, ok_chain, ok_bl, ok_nil, ok_cons, ok_call, ok_callOp, ok_isi, ok_test, ok_andT, ok_orT, ok_notT, ok_isBl, ok_andV, ok_orV, ok_notV, ok_if, okS_next, okS_seq, okS_ret, okS_expr, okS_if, okS_set, ok_run, ok_src, ok_range, ok_ok, ok_obv, ok_ob, sNext, ok_var0, ok_varS, List.map_cons, List.map_nil, List.length_cons, List.length_nil, List.replicate_succ, List.replicate_zero, List.cons_append, List.nil_append, List.getElem?_cons_zero, List.getElem?_cons_succ, List.set_cons_zero, List.set_cons_succ, Nat.reduceAdd, Nat.reduceSub, Nat.sub_self, Nat.zero_add, Nat.sub_zero]
  refine ok_negI.mpr ?_
  refine ok_maxD (l := (fit row).2) (by unfold intSeq; rw [seq_tup]; exact intsOf_iL _) ?_
  refine ok_addI.mpr ?_
  refine longest_s (by omega) (fit_len row).1 fun h3 s3 => ?_
  refine ⟨by have := big_line; simp; omega, ?_⟩
  have e : maxDef (fit row).2 (-1) + 1 = (tracks row : Nat) := by
    rw [max_places (fit_ok row)]
    unfold tracks
    omega
  rw [e]
  exact q h3 ((s1.trans s2).trans s3)
/-! ### all lots -/
def lots : Nat → List (List Int)
  | 0 => [[]]
  | n + 1 => lots n ++ (lots n).map fun l => l ++ [(n : Int)]
theorem lots_len : ∀ n, (lots n).length = 2 ^ n
  | 0 => rfl
  | n + 1 => by
    unfold lots
    rw [List.length_append, List.length_map, lots_len n, Nat.pow_succ]
    omega
theorem lots_s {n : Nat} (hn : n ≤ 10) {mh : MH} {Q : PV → MH → Prop} (q : ∀ k h, Sub mh h → mh[k]? = none → h[k]? = some (.lst ((lots n).map iT)) → Q (.ref k) h) : Ok (f__law_lots [.int n] mh) Q := by
  have big := big_line
  unfold f__law_lots
  try simp only [if_true, if_false, Bool.false_eq_true, okS_nx, ok_trB, ok_trI, ok_bind, ok_bin, ok_un, ok_k, ok_cmp, ok_cmpT, ok_chain, ok_bl, ok_nil, ok_cons, ok_call, ok_callOp, ok_isi, ok_test, ok_andT, ok_orT, ok_notT, ok_isBl, ok_andV, ok_orV, ok_notV, ok_if, okS_next, okS_seq, okS_ret, okS_expr, okS_if, okS_set, ok_run, ok_src, ok_range, ok_ok, ok_obv, ok_ob, sNext, ok_var0, ok_varS, List.map_cons, List.map_nil, List.length_cons, List.length_nil, List.replicate_succ, List.replicate_zero, List.cons_append, List.nil_append, List.getElem?_cons_zero, List.getElem?_cons_succ, List.set_cons_zero, List.set_cons_succ, Nat.reduceAdd, Nat.reduceSub, Nat.sub_self, Nat.zero_add, Nat.sub_zero]
  refine ok_mklN ?_
  try simp only [if_true, if_false, Bool.false_eq_true, okS_nx, ok_trB, ok_trI, ok_bind, ok_bin, ok_un, ok_k, ok_cmp, ok_cmpT, ok_chain, ok_bl, ok_nil, ok_cons, ok_call, ok_callOp, ok_isi, ok_test, ok_andT, ok_orT, ok_notT, ok_isBl, ok_andV, ok_orV, ok_notV, ok_if, okS_next, okS_seq, okS_ret, okS_expr, okS_if, okS_set, ok_run, ok_src, ok_range, ok_ok, ok_obv, ok_ob, sNext, ok_var0, ok_varS, List.map_cons, List.map_nil, List.length_cons, List.length_nil, List.replicate_succ, List.replicate_zero, List.cons_append, List.nil_append, List.getElem?_cons_zero, List.getElem?_cons_succ, List.set_cons_zero, List.set_cons_succ, Nat.reduceAdd, Nat.reduceSub, Nat.sub_self, Nat.zero_add, Nat.sub_zero]
  refine ok_mtup ?_
  try simp only [if_true, if_false, Bool.false_eq_true, okS_nx, ok_trB, ok_trI, ok_bind, ok_bin, ok_un, ok_k, ok_cmp, ok_cmpT, ok_chain, ok_bl, ok_nil, ok_cons, ok_call, ok_callOp, ok_isi, ok_test, ok_andT, ok_orT, ok_notT, ok_isBl, ok_andV, ok_orV, ok_notV, ok_if, okS_next, okS_seq, okS_ret, okS_expr, okS_if, okS_set, ok_run, ok_src, ok_range, ok_ok, ok_obv, ok_ob, sNext, ok_var0, ok_varS, List.map_cons, List.map_nil, List.length_cons, List.length_nil, List.replicate_succ, List.replicate_zero, List.cons_append, List.nil_append, List.getElem?_cons_zero, List.getElem?_cons_succ, List.set_cons_zero, List.set_cons_succ, Nat.reduceAdd, Nat.reduceSub, Nat.sub_self, Nat.zero_add, Nat.sub_zero]
  have z0 : 0 ≤ sizeLine := Nat.zero_le _
  have z1 : 1 ≤ sizeLine := by omega
  refine ⟨z0, z1, ?_⟩
  intro n0 g1 s1 f1 l1
  refine okS_for ?_
  try simp only [if_true, if_false, Bool.false_eq_true, okS_nx, ok_trB, ok_trI, ok_bind, ok_bin, ok_un, ok_k, ok_cmp, ok_cmpT, ok_chain, ok_bl, ok_nil, ok_cons, ok_call, ok_callOp, ok_isi, ok_test, ok_andT, ok_orT, ok_notT, ok_isBl, ok_andV, ok_orV, ok_notV, ok_if, okS_next, okS_seq, okS_ret, okS_expr, okS_if, okS_set, ok_run, ok_src, ok_range, ok_ok, ok_obv, ok_ob, sNext, ok_var0, ok_varS, List.map_cons, List.map_nil, List.length_cons, List.length_nil, List.replicate_succ, List.replicate_zero, List.cons_append, List.nil_append, List.getElem?_cons_zero, List.getElem?_cons_succ, List.set_cons_zero, List.set_cons_succ, Nat.reduceAdd, Nat.reduceSub, Nat.sub_self, Nat.zero_add, Nat.sub_zero]
  refine ⟨_, range1 (by omega), _, fun i env h => ∃ nf a, env = [some (.int (n : Nat)), some (.ref nf), a, none] ∧ h[nf]? = some (.lst ((lots i).map iT)) ∧ mh[nf]? = none ∧ i ≤ n ∧ Sub mh h, by simp; unfold loopFuel; omega, fun _ _ h _ => srcIs_vals _ _, ?_, ?_, ?_⟩
  · rintro i v env h hv ⟨nf, a, rfl, h1, h2, h3, h4⟩
    rw [List.getElem?_map] at hv
    obtain ⟨k, hk, rfl⟩ := Option.map_eq_some_iff.mp hv
    obtain ⟨hi, hk2⟩ := List.getElem?_eq_some_iff.mp hk
    rw [List.length_range] at hi
    rw [List.getElem_range] at hk2
    subst hk2
    have hlen : (lots i).length ≤ 1024 := by
      rw [lots_len]
      exact Nat.le_trans (Nat.pow_le_pow_right (by decide) (show i ≤ 10 by omega)) (by decide)
    refine ⟨_, rfl, ?_⟩
    try simp only [if_true, if_false, Bool.false_eq_true, okS_nx, ok_trB, ok_trI, ok_bind, ok_bin, ok_un, ok_k, ok_cmp, ok_cmpT, ok_chain, ok_bl, ok_nil, ok_cons, ok_call, ok_callOp, ok_isi, ok_test, ok_andT, ok_orT, ok_notT, ok_isBl, ok_andV, ok_orV, ok_notV, ok_if, okS_next, okS_seq, okS_ret, okS_expr, okS_if, okS_set, ok_run, ok_src, ok_range, ok_ok, ok_obv, ok_ob, sNext, ok_var0, ok_varS, List.map_cons, List.map_nil, List.length_cons, List.length_nil, List.replicate_succ, List.replicate_zero, List.cons_append, List.nil_append, List.getElem?_cons_zero, List.getElem?_cons_succ, List.set_cons_zero, List.set_cons_succ, Nat.reduceAdd, Nat.reduceSub, Nat.sub_self, Nat.zero_add, Nat.sub_zero]
    refine ok_compP (lots i) iT (fun _ => true) (fun l => iT (l ++ [(i : Int)])) ?_ ?_ ?_
    · try simp only [if_true, if_false, Bool.false_eq_true, okS_nx, ok_trB, ok_trI, ok_bind, ok_bin, ok_un, ok_k, ok_cmp, ok_cmpT, ok_chain, ok_bl, ok_nil, ok_cons, ok_call, ok_callOp, ok_isi, ok_test, ok_andT, ok_orT, ok_notT, ok_isBl, ok_andV, ok_orV, ok_notV, ok_if, okS_next, okS_seq, okS_ret, okS_expr, okS_if, okS_set, ok_run, ok_src, ok_range, ok_ok, ok_obv, ok_ob, sNext, ok_var0, ok_varS, List.map_cons, List.map_nil, List.length_cons, List.length_nil, List.replicate_succ, List.replicate_zero, List.cons_append, List.nil_append, List.getElem?_cons_zero, List.getElem?_cons_succ, List.set_cons_zero, List.set_cons_succ, Nat.reduceAdd, Nat.reduceSub, Nat.sub_self, Nat.zero_add, Nat.sub_zero]
      refine ok_srcL h1 ⟨by unfold loopFuel; omega, .refl _, fun h' hs' => srcIs_lst (hs' _ _ h1)⟩
    · intro l hl h' hs'
      refine ⟨_, rfl, ?_⟩
      rw [ok_yes]
      refine ⟨rfl, .refl _, fun _ => ?_⟩
      simp only [wipeE]
      try simp only [if_true, if_false, Bool.false_eq_true, okS_nx, ok_trB, ok_trI, ok_bind, ok_bin, ok_un, ok_k, ok_cmp, ok_cmpT, ok_chain, ok_bl, ok_nil, ok_cons, ok_call, ok_callOp, ok_isi, ok_test, ok_andT, ok_orT, ok_notT, ok_isBl, ok_andV, ok_orV, ok_notV, ok_if, okS_next, okS_seq, okS_ret, okS_expr, okS_if, okS_set, ok_run, ok_src, ok_range, ok_ok, ok_obv, ok_ob, sNext, ok_var0, ok_varS, List.map_cons, List.map_nil, List.length_cons, List.length_nil, List.replicate_succ, List.replicate_zero, List.cons_append, List.nil_append, List.getElem?_cons_zero, List.getElem?_cons_succ, List.set_cons_zero, List.set_cons_succ, Nat.reduceAdd, Nat.reduceSub, Nat.sub_self, Nat.zero_add, Nat.sub_zero]
      refine ok_mtup ?_
      try simp only [if_true, if_false, Bool.false_eq_true, okS_nx, ok_trB, ok_trI, ok_bind, ok_bin, ok_un, ok_k, ok_cmp, ok_cmpT, ok_chain, ok_bl, ok_nil, ok_cons, ok_call, ok_callOp, ok_isi, ok_test, ok_andT, ok_orT, ok_notT, ok_isBl, ok_andV, ok_orV, ok_notV, ok_if, okS_next, okS_seq, okS_ret, okS_expr, okS_if, okS_set, ok_run, ok_src, ok_range, ok_ok, ok_obv, ok_ob, sNext, ok_var0, ok_varS, List.map_cons, List.map_nil, List.length_cons, List.length_nil, List.replicate_succ, List.replicate_zero, List.cons_append, List.nil_append, List.getElem?_cons_zero, List.getElem?_cons_succ, List.set_cons_zero, List.set_cons_succ, Nat.reduceAdd, Nat.reduceSub, Nat.sub_self, Nat.zero_add, Nat.sub_zero]
      refine ⟨by have := big_line; simp; omega, ?_⟩
      have hll : ∀ (j : Nat) (l : List Int), l ∈ lots j → l.length ≤ j := by
        intro j
        induction j with
        | zero => intro l hl; simp [lots] at hl; subst hl; simp
        | succ j ih =>
          intro l hl
          rcases List.mem_append.mp hl with hl | hl
          · exact Nat.le_succ_of_le (ih l hl)
          · obtain ⟨l', h', rfl⟩ := List.mem_map.mp hl
            have := ih l' h'
            simp
            omega
      have := hll i l hl
      refine ok_addT (by simp; omega) ⟨by simp, .refl _⟩
    · intro n2 h' hs' hn2 hl2
      have el : (lots i).filter (fun _ => true) = lots i := List.filter_eq_self.mpr (by simp)
      rw [el] at hl2
      refine ok_addN (hs' _ _ h1) hl2 (by simp; omega) fun n3 h3' s3 f3 l3 => ?_
      refine ⟨n3, _, rfl, ?_, ?_, hi, (h4.trans hs').trans s3⟩
      · rw [l3, show lots (i + 1) = lots i ++ (lots i).map (fun l => l ++ [(i : Int)]) from rfl, List.map_append, List.map_map]
        rfl
      · cases e : mh[n3]? with
        | none => rfl
        | some o =>
          have := (h4.trans hs') _ _ e
          rw [f3] at this
          cases this
  · rintro env h ⟨nf, a, rfl, h1, h2, h3, h4⟩
    simp only [List.length_map, List.length_range] at h1
    try simp only [if_true, if_false, Bool.false_eq_true, okS_nx, ok_trB, ok_trI, ok_bind, ok_bin, ok_un, ok_k, ok_cmp, ok_cmpT, ok_chain, ok_bl, ok_nil, ok_cons, ok_call, ok_callOp, ok_isi, ok_test, ok_andT, ok_orT, ok_notT, ok_isBl, ok_andV, ok_orV, ok_notV, ok_if, okS_next, okS_seq, okS_ret, okS_expr, okS_if, okS_set, ok_run, ok_src, ok_range, ok_ok, ok_obv, ok_ob, sNext, ok_var0, ok_varS, List.map_cons, List.map_nil, List.length_cons, List.length_nil, List.replicate_succ, List.replicate_zero, List.cons_append, List.nil_append, List.getElem?_cons_zero, List.getElem?_cons_succ, List.set_cons_zero, List.set_cons_succ, Nat.reduceAdd, Nat.reduceSub, Nat.sub_self, Nat.zero_add, Nat.sub_zero]
    exact q _ _ h4 h2 h1
  · exact ⟨_, _, rfl, l1, f1, Nat.zero_le _, s1⟩
end K10
namespace K10
open PySem PySem.Spec PyProof.Rows L2 RZ Ev
/-! ### neighbours in a lot -/
abbrev at0 (row : List Int) (a : Int) : Int := row.getD a.toNat 0
def nexts (lot : List Int) : List (Int × Int) := lot.zip lot.tail
def falls (row lot : List Int) : Bool := (nexts lot).all fun p => decide (at0 row p.2 < at0 row p.1)
def rises (row lot : List Int) : Bool := (nexts lot).all fun p => decide (at0 row p.1 ≤ at0 row p.2)
def pairPV (p : Int × Int) : PV := .tup [.int p.1, .int p.2]
theorem pairs_iL : ∀ (a b : List Int), Ev.pairsOf (iL a) (iL b) = (a.zip b).map pairPV
  | [], _ => by simp [Ev.pairsOf]
  | _ :: _, [] => by simp [Ev.pairsOf]
  | x :: a, y :: b => by
    simp only [List.map_cons, Ev.pairsOf, List.zip_cons_cons, pairs_iL a b]
    rfl
/-- each is a car of the row -/
def CarsOf (row lot : List Int) : Prop := ∀ e ∈ lot, 0 ≤ e ∧ e < row.length
theorem row_at {row : List Int} {e : Int} (h : 0 ≤ e ∧ e < row.length) : ∃ k : Nat, e = k ∧ (iL row)[k]? = some (.int (at0 row e)) := by
  obtain ⟨k, rfl⟩ := Int.eq_ofNat_of_zero_le h.1
  have hk : k < row.length := by omega
  refine ⟨k, rfl, ?_⟩
  rw [List.getElem?_map, List.getElem?_eq_getElem hk]
  show some _ = some (PV.int (row.getD k 0))
  rw [List.getD, List.getElem?_eq_getElem hk]
  rfl
theorem nexts_mem {lot : List Int} {p : Int × Int} (h : p ∈ nexts lot) : p.1 ∈ lot ∧ p.2 ∈ lot := by
  obtain ⟨h1, h2⟩ := List.of_mem_zip h
  exact ⟨h1, List.mem_of_mem_tail h2⟩
theorem do_cross_s {row lot : List Int} (hc : CarsOf row lot) (hl : lot.length ≤ 100) {mh : MH} {Q : PV → MH → Prop} (q : ∀ h, Sub mh h → Q (.bl (falls row lot)) h) : Ok (f__law_do_cross [iT row, iT lot] mh) Q := by
  unfold f__law_do_cross
  try simp only [if_true, if_false, Bool.false_eq_true, okS_nx, ok_trB, ok_trI, ok_bind, ok_bin, ok_un, ok_k, ok_cmp, ok_cmpT, ok_chain, ok_bl, ok_nil, ok_cons, ok_call, ok_callOp, ok_isi, ok_test, ok_andT, ok_orT, ok_notT, ok_isBl, ok_andV, ok_orV, ok_notV, ok_if, okS_next, okS_seq, okS_ret, okS_expr, okS_if, okS_set, ok_run, ok_src, ok_range, ok_ok, ok_obv, ok_ob, sNext, ok_var0, ok_varS, List.map_cons, List.map_nil, List.length_cons, List.length_nil, List.replicate_succ, List.replicate_zero, List.cons_append, List.nil_append, List.getElem?_cons_zero, List.getElem?_cons_succ, List.set_cons_zero, List.set_cons_succ, Nat.reduceAdd, Nat.reduceSub, Nat.sub_self, Nat.zero_add, Nat.sub_zero]
  refine ok_allP (nexts lot) pairPV (fun p => decide (at0 row p.2 < at0 row p.1)) ?_ ?_ ?_
  · refine ok_zipT ?_
    try simp only [if_true, if_false, Bool.false_eq_true, okS_nx, ok_trB, ok_trI, ok_bind, ok_bin, ok_un, ok_k, ok_cmp, ok_cmpT, ok_chain, ok_bl, ok_nil, ok_cons, ok_call, ok_callOp, ok_isi, ok_test, ok_andT, ok_orT, ok_notT, ok_isBl, ok_andV, ok_orV, ok_notV, ok_if, okS_next, okS_seq, okS_ret, okS_expr, okS_if, okS_set, ok_run, ok_src, ok_range, ok_ok, ok_obv, ok_ob, sNext, ok_var0, ok_varS, List.map_cons, List.map_nil, List.length_cons, List.length_nil, List.replicate_succ, List.replicate_zero, List.cons_append, List.nil_append, List.getElem?_cons_zero, List.getElem?_cons_succ, List.set_cons_zero, List.set_cons_succ, Nat.reduceAdd, Nat.reduceSub, Nat.sub_self, Nat.zero_add, Nat.sub_zero, ok_sl, ok_noPart]
    refine ok_part ?_
    try simp only [if_true, if_false, Bool.false_eq_true, okS_nx, ok_trB, ok_trI, ok_bind, ok_bin, ok_un, ok_k, ok_cmp, ok_cmpT, ok_chain, ok_bl, ok_nil, ok_cons, ok_call, ok_callOp, ok_isi, ok_test, ok_andT, ok_orT, ok_notT, ok_isBl, ok_andV, ok_orV, ok_notV, ok_if, okS_next, okS_seq, okS_ret, okS_expr, okS_if, okS_set, ok_run, ok_src, ok_range, ok_ok, ok_obv, ok_ob, sNext, ok_var0, ok_varS, List.map_cons, List.map_nil, List.length_cons, List.length_nil, List.replicate_succ, List.replicate_zero, List.cons_append, List.nil_append, List.getElem?_cons_zero, List.getElem?_cons_succ, List.set_cons_zero, List.set_cons_succ, Nat.reduceAdd, Nat.reduceSub, Nat.sub_self, Nat.zero_add, Nat.sub_zero]
    refine ⟨_, rfl, ok_slT.mpr ⟨_, _, rfl, ?_⟩⟩
    rw [show (1 : Int) = ((1 : Nat) : Int) from rfl, cut_from, ← List.map_drop, List.drop_one]
    refine ⟨by unfold nexts loopFuel; rw [List.length_zip]; omega, .refl _, fun h hs => ?_⟩
    have e : Ev.pairsOf (iL lot) (iL lot.tail) = (nexts lot).map pairPV := pairs_iL _ _
    rw [← e]
    exact (srcIs_vals _ _).zip (srcIs_vals _ _)
  · intro p hp h hs
    obtain ⟨m1, m2⟩ := nexts_mem hp
    obtain ⟨k1, e1, r1⟩ := row_at (hc _ m1)
    obtain ⟨k2, e2, r2⟩ := row_at (hc _ m2)
    refine ⟨_, rfl, ?_⟩
    simp only [wipeE]
    try simp only [if_true, if_false, Bool.false_eq_true, okS_nx, ok_trB, ok_trI, ok_bind, ok_bin, ok_un, ok_k, ok_cmp, ok_cmpT, ok_chain, ok_bl, ok_nil, ok_cons, ok_call, ok_callOp, ok_isi, ok_test, ok_andT, ok_orT, ok_notT, ok_isBl, ok_andV, ok_orV, ok_notV, ok_if, okS_next, okS_seq, okS_ret, okS_expr, okS_if, okS_set, ok_run, ok_src, ok_range, ok_ok, ok_obv, ok_ob, sNext, ok_var0, ok_varS, List.map_cons, List.map_nil, List.length_cons, List.length_nil, List.replicate_succ, List.replicate_zero, List.cons_append, List.nil_append, List.getElem?_cons_zero, List.getElem?_cons_succ, List.set_cons_zero, List.set_cons_succ, Nat.reduceAdd, Nat.reduceSub, Nat.sub_self, Nat.zero_add, Nat.sub_zero]
    rw [e1, e2]
    rw [e1] at r1
    rw [e2] at r2
    refine ok_ix (k := k1) (seq_tup _) r1 (fun _ z => by cases z) ?_
    refine ok_ix (k := k2) (seq_tup _) r2 (fun _ z => by cases z) ?_
    refine ⟨_, rfl, ?_, .refl _⟩
    rfl
  · exact fun h hs => q h hs
theorem can_stand_s {row lot : List Int} (hc : CarsOf row lot) (hl : lot.length ≤ 100) {mh : MH} {Q : PV → MH → Prop} (q : ∀ h, Sub mh h → Q (.bl (rises row lot)) h) : Ok (f__law_can_stand [iT row, iT lot] mh) Q := by
  unfold f__law_can_stand
  try simp only [if_true, if_false, Bool.false_eq_true, okS_nx, ok_trB, ok_trI, ok_bind, ok_bin, ok_un, ok_k, ok_cmp, ok_cmpT, ok_chain, ok_bl, ok_nil, ok_cons, ok_call, ok_callOp, ok_isi, ok_test, ok_andT, ok_orT, ok_notT, ok_isBl, ok_andV, ok_orV, ok_notV, ok_if, okS_next, okS_seq, okS_ret, okS_expr, okS_if, okS_set, ok_run, ok_src, ok_range, ok_ok, ok_obv, ok_ob, sNext, ok_var0, ok_varS, List.map_cons, List.map_nil, List.length_cons, List.length_nil, List.replicate_succ, List.replicate_zero, List.cons_append, List.nil_append, List.getElem?_cons_zero, List.getElem?_cons_succ, List.set_cons_zero, List.set_cons_succ, Nat.reduceAdd, Nat.reduceSub, Nat.sub_self, Nat.zero_add, Nat.sub_zero]
  refine ok_allP (nexts lot) pairPV (fun p => decide (at0 row p.1 ≤ at0 row p.2)) ?_ ?_ ?_
  · refine ok_zipT ?_
    try simp only [if_true, if_false, Bool.false_eq_true, okS_nx, ok_trB, ok_trI, ok_bind, ok_bin, ok_un, ok_k, ok_cmp, ok_cmpT, ok_chain, ok_bl, ok_nil, ok_cons, ok_call, ok_callOp, ok_isi, ok_test, ok_andT, ok_orT, ok_notT, ok_isBl, ok_andV, ok_orV, ok_notV, ok_if, okS_next, okS_seq, okS_ret, okS_expr, okS_if, okS_set, ok_run, ok_src, ok_range, ok_ok, ok_obv, ok_ob, sNext, ok_var0, ok_varS, List.map_cons, List.map_nil, List.length_cons, List.length_nil, List.replicate_succ, List.replicate_zero, List.cons_append, List.nil_append, List.getElem?_cons_zero, List.getElem?_cons_succ, List.set_cons_zero, List.set_cons_succ, Nat.reduceAdd, Nat.reduceSub, Nat.sub_self, Nat.zero_add, Nat.sub_zero, ok_sl, ok_noPart]
    refine ok_part ?_
    try simp only [if_true, if_false, Bool.false_eq_true, okS_nx, ok_trB, ok_trI, ok_bind, ok_bin, ok_un, ok_k, ok_cmp, ok_cmpT, ok_chain, ok_bl, ok_nil, ok_cons, ok_call, ok_callOp, ok_isi, ok_test, ok_andT, ok_orT, ok_notT, ok_isBl, ok_andV, ok_orV, ok_notV, ok_if, okS_next, okS_seq, okS_ret, okS_expr, okS_if, okS_set, ok_run, ok_src, ok_range, ok_ok, ok_obv, ok_ob, sNext, ok_var0, ok_varS, List.map_cons, List.map_nil, List.length_cons, List.length_nil, List.replicate_succ, List.replicate_zero, List.cons_append, List.nil_append, List.getElem?_cons_zero, List.getElem?_cons_succ, List.set_cons_zero, List.set_cons_succ, Nat.reduceAdd, Nat.reduceSub, Nat.sub_self, Nat.zero_add, Nat.sub_zero]
    refine ⟨_, rfl, ok_slT.mpr ⟨_, _, rfl, ?_⟩⟩
    rw [show (1 : Int) = ((1 : Nat) : Int) from rfl, cut_from, ← List.map_drop, List.drop_one]
    refine ⟨by unfold nexts loopFuel; rw [List.length_zip]; omega, .refl _, fun h hs => ?_⟩
    have e : Ev.pairsOf (iL lot) (iL lot.tail) = (nexts lot).map pairPV := pairs_iL _ _
    rw [← e]
    exact (srcIs_vals _ _).zip (srcIs_vals _ _)
  · intro p hp h hs
    obtain ⟨m1, m2⟩ := nexts_mem hp
    obtain ⟨k1, e1, r1⟩ := row_at (hc _ m1)
    obtain ⟨k2, e2, r2⟩ := row_at (hc _ m2)
    refine ⟨_, rfl, ?_⟩
    simp only [wipeE]
    try simp only [if_true, if_false, Bool.false_eq_true, okS_nx, ok_trB, ok_trI, ok_bind, ok_bin, ok_un, ok_k, ok_cmp, ok_cmpT, ok_chain, ok_bl, ok_nil, ok_cons, ok_call, ok_callOp, ok_isi, ok_test, ok_andT, ok_orT, ok_notT, ok_isBl, ok_andV, ok_orV, ok_notV, ok_if, okS_next, okS_seq, okS_ret, okS_expr, okS_if, okS_set, ok_run, ok_src, ok_range, ok_ok, ok_obv, ok_ob, sNext, ok_var0, ok_varS, List.map_cons, List.map_nil, List.length_cons, List.length_nil, List.replicate_succ, List.replicate_zero, List.cons_append, List.nil_append, List.getElem?_cons_zero, List.getElem?_cons_succ, List.set_cons_zero, List.set_cons_succ, Nat.reduceAdd, Nat.reduceSub, Nat.sub_self, Nat.zero_add, Nat.sub_zero]
    rw [e1, e2]
    rw [e1] at r1
    rw [e2] at r2
    refine ok_ix (k := k1) (seq_tup _) r1 (fun _ z => by cases z) ?_
    refine ok_ix (k := k2) (seq_tup _) r2 (fun _ z => by cases z) ?_
    refine ⟨_, rfl, ?_, .refl _⟩
    rfl
  · exact fun h hs => q h hs
end K10
namespace K10
open PySem PySem.Spec PyProof.Rows L2 RZ Ev
/-! ### lots: rising cars; falling rows; as many as tracks at the most -/
/-- rising numbers from 0 to n - 1 -/
structure IsLot (n : Nat) (l : List Int) : Prop where
  up : l.Pairwise (· < ·)
  rng : ∀ e ∈ l, 0 ≤ e ∧ e < n
theorem lots_is : ∀ (n : Nat) (l : List Int), l ∈ lots n → IsLot n l
  | 0, l, h => by
    simp only [lots, List.mem_singleton] at h
    subst h
    exact ⟨.nil, by simp⟩
  | n + 1, l, h => by
    rcases List.mem_append.mp h with h | h
    · have ih := lots_is n l h
      exact ⟨ih.up, fun e he => by have := ih.rng e he; omega⟩
    · obtain ⟨l', h', rfl⟩ := List.mem_map.mp h
      have ih := lots_is n l' h'
      refine ⟨List.pairwise_append.mpr ⟨ih.up, by simp, fun a ha b hb => ?_⟩, fun e he => ?_⟩
      · rw [List.mem_singleton] at hb
        have := ih.rng a ha
        omega
      · rcases List.mem_append.mp he with he | he
        · have := ih.rng e he
          omega
        · rw [List.mem_singleton] at he
          omega
theorem lots_has : ∀ (n : Nat) (l : List Int), IsLot n l → l ∈ lots n
  | 0, l, h => by
    cases l with
    | nil => simp [lots]
    | cons e l =>
      have := h.rng e (by simp)
      omega
  | n + 1, l, h => by
    refine snoc_ind (P := fun l => IsLot (n + 1) l → l ∈ lots (n + 1)) (fun _ => ?_) (fun l x _ h => ?_) l h
    · exact List.mem_append_left _ (lots_has n [] ⟨.nil, by simp⟩)
    · obtain ⟨u1, _, u3⟩ := List.pairwise_append.mp h.up
      have hx := h.rng x (by simp)
      by_cases e : x = n
      · refine List.mem_append_right _ (List.mem_map.mpr ⟨l, lots_has n l ⟨u1, fun y hy => ?_⟩, by rw [e]⟩)
        have h1 := h.rng y (by simp [hy])
        have h2 := u3 y hy x (by simp)
        omega
      · refine List.mem_append_left _ (lots_has n _ ⟨h.up, fun y hy => ?_⟩)
        have h1 := h.rng y hy
        rcases List.mem_append.mp hy with q | q
        · have h2 := u3 y q x (by simp)
          omega
        · rw [List.mem_singleton] at q
          omega
theorem falls_pair {row : List Int} : ∀ {l : List Int}, falls row l = true → l.Pairwise fun a b => at0 row b < at0 row a
  | [], _ => .nil
  | [a], _ => by simp
  | a :: b :: l, h => by
    have h' : decide (at0 row b < at0 row a) = true ∧ falls row (b :: l) = true := by
      unfold falls nexts at h ⊢
      simpa only [List.tail_cons, List.zip_cons_cons, List.all_cons, Bool.and_eq_true] using h
    have ih := falls_pair h'.2
    have hab := of_decide_eq_true h'.1
    refine List.pairwise_cons.mpr ⟨fun c hc => ?_, ih⟩
    rcases List.mem_cons.mp hc with rfl | hc
    · exact hab
    · have := (List.pairwise_cons.mp ih).1 c hc
      omega
theorem pair_falls {row : List Int} : ∀ {l : List Int}, (l.Pairwise fun a b => at0 row b < at0 row a) → falls row l = true
  | [], _ => rfl
  | [a], _ => rfl
  | a :: b :: l, h => by
    obtain ⟨h1, h2⟩ := List.pairwise_cons.mp h
    have ih := pair_falls h2
    unfold falls nexts at ih ⊢
    simp only [List.tail_cons, List.zip_cons_cons, List.all_cons, Bool.and_eq_true]
    exact ⟨decide_eq_true (h1 b (by simp)), ih⟩
/-- unlike numbers below T: T at the most -/
theorem few_unlike : ∀ (T : Nat) (l : List Nat), l.Nodup → (∀ x ∈ l, x < T) → l.length ≤ T
  | 0, l, _, h => by
    cases l with
    | nil => exact Nat.le_refl _
    | cons x l => exact absurd (h x (by simp)) (Nat.not_lt_zero _)
  | T + 1, l, hn, h => by
    have ih := few_unlike T (l.filter fun x => x ≠ T) (hn.filter _) fun x hx => by
      obtain ⟨h1, h2⟩ := List.mem_filter.mp hx
      have := h x h1
      have h3 : x ≠ T := by simpa using h2
      omega
    have hc : l.length ≤ (l.filter fun x => x ≠ T).length + 1 := by
      clear ih h
      induction l with
      | nil => simp
      | cons x l ihl =>
        obtain ⟨n1, n2⟩ := List.nodup_cons.mp hn
        have := ihl n2
        by_cases e : x = T
        · subst e
          have : (l.filter fun y => y ≠ x) = l := List.filter_eq_self.mpr fun y hy => by
            have : y ≠ x := fun z => n1 (z ▸ hy)
            simpa using this
          rw [List.filter_cons_of_neg (by simp), this]
          simp
        · rw [List.filter_cons_of_pos (by simpa using e)]
          simp only [List.length_cons]
          omega
    omega
end K10
namespace K10
open PySem PySem.Spec PyProof.Rows L2 RZ Ev
theorem nth_at {row : List Int} {k : Nat} (h : k < row.length) : row[k]? = some (at0 row k) := by
  unfold at0
  rw [Int.toNat_natCast, List.getD, List.getElem?_eq_getElem h]
  rfl
theorem cross_few {row l : List Int} (h : IsLot row.length l) (f : falls row l = true) : l.length ≤ tracks row := by
  have F := fit_ok row
  have pw := falls_pair f
  have both : l.Pairwise fun a b => a < b ∧ at0 row b < at0 row a := h.up.and pw
  have plen := F.len
  let p : Int → Nat := fun e => (at0 (fit row).2 e).toNat
  have hp : ∀ e ∈ l, ∃ (k : Nat), e = k ∧ k < row.length ∧ (fit row).2[k]? = some ((p e : Nat) : Int) ∧ p e < tracks row := by
    intro e he
    obtain ⟨r1, r2⟩ := h.rng e he
    obtain ⟨k, rfl⟩ := Int.eq_ofNat_of_zero_le r1
    have hk : k < row.length := by omega
    have g := nth_at (row := (fit row).2) (k := k) (by omega)
    obtain ⟨g1, g2⟩ := F.rng k _ g
    refine ⟨k, rfl, hk, ?_, ?_⟩
    · rw [g]
      show some _ = some (((at0 (fit row).2 k).toNat : Nat) : Int)
      rw [Int.toNat_of_nonneg g1]
    · show (at0 (fit row).2 k).toNat < tracks row
      unfold tracks
      omega
  have nd : (l.map p).Nodup := by
    rw [List.nodup_iff_pairwise_ne, List.pairwise_map]
    refine both.imp_of_mem fun {a b} ha hb ⟨h1, h2⟩ e => ?_
    obtain ⟨ka, rfl, la, ga, _⟩ := hp a ha
    obtain ⟨kb, rfl, lb, gb, _⟩ := hp b hb
    have := F.asc ka kb _ _ _ (by omega) ga (by rw [gb, e]) (nth_at la) (nth_at lb)
    omega
  have := few_unlike (tracks row) (l.map p) nd fun x hx => by
    obtain ⟨e, he, rfl⟩ := List.mem_map.mp hx
    obtain ⟨_, _, _, _, q⟩ := hp e he
    exact q
  rwa [List.length_map] at this
theorem lotOf_is (row : List Int) : IsLot row.length (lotOf row) ∧ falls row (lotOf row) = true ∧ (lotOf row).length = tracks row := by
  obtain ⟨r, e, hl, pw, rng⟩ := lotB_is (fit_ok row)
  have e2 : lotOf row = (r.reverse).map fun (k : Nat) => (k : Int) := by
    unfold lotOf
    rw [e, List.map_reverse]
  have pw2 : (r.reverse).Pairwise fun (a b : Nat) => a < b ∧ at0 row (b : Int) < at0 row (a : Int) := by
    rw [List.pairwise_reverse]
    refine pw.imp fun {a b} ⟨h1, h2⟩ => ⟨h1, ?_⟩
    unfold at0
    rwa [Int.toNat_natCast, Int.toNat_natCast]
  refine ⟨⟨?_, fun x hx => ?_⟩, pair_falls ?_, ?_⟩
  · rw [e2, List.pairwise_map]
    exact pw2.imp fun {a b} h => by have := h.1; omega
  · rw [e2] at hx
    obtain ⟨k, hk, rfl⟩ := List.mem_map.mp hx
    have := rng k (by simpa using hk)
    omega
  · rw [e2, List.pairwise_map]
    exact pw2.imp fun {a b} h => h.2
  · rw [e2, List.length_map, List.length_reverse, hl]
    rfl
end K10
namespace K10
open PySem PySem.Spec PyProof.Rows L2 RZ Ev
/-! ### values of any kind: what the two looks see of them -/
theorem law_is_int_s {v : PV} {mh : MH} {t : String} {lo hi : Int} (h : tyOf v mh = some t) {Q : PV → MH → Prop} (q : Q (.bl (isIn v lo hi)) mh) : Ok (f__law_is_int [v, .int lo, .int hi] mh) Q := by
  have e := tyIs_isI h
  unfold f__law_is_int
  try simp only [if_true, if_false, Bool.false_eq_true, okS_nx, ok_trB, ok_trI, ok_bind, ok_bin, ok_un, ok_k, ok_cmp, ok_cmpT, ok_chain, ok_bl, ok_nil, ok_cons, ok_call, ok_callOp, ok_isi, ok_test, ok_andT, ok_orT, ok_notT, ok_isBl, ok_andV, ok_orV, ok_notV, ok_if, okS_next, okS_seq, okS_ret, okS_expr, okS_if, okS_set, ok_run, ok_src, ok_range, ok_ok, ok_obv, ok_ob, sNext, ok_var0, ok_varS, List.map_cons, List.map_nil, List.length_cons, List.length_nil, List.replicate_succ, List.replicate_zero, List.cons_append, List.nil_append, List.getElem?_cons_zero, List.getElem?_cons_succ, List.set_cons_zero, List.set_cons_succ, Nat.reduceAdd, Nat.reduceSub, Nat.sub_self, Nat.zero_add, Nat.sub_zero]
  rw [ok_isTy (by simp) h]
  try simp only [if_true, if_false, Bool.false_eq_true, okS_nx, ok_trB, ok_trI, ok_bind, ok_bin, ok_un, ok_k, ok_cmp, ok_cmpT, ok_chain, ok_bl, ok_nil, ok_cons, ok_call, ok_callOp, ok_isi, ok_test, ok_andT, ok_orT, ok_notT, ok_isBl, ok_andV, ok_orV, ok_notV, ok_if, okS_next, okS_seq, okS_ret, okS_expr, okS_if, okS_set, ok_run, ok_src, ok_range, ok_ok, ok_obv, ok_ob, sNext, ok_var0, ok_varS, List.map_cons, List.map_nil, List.length_cons, List.length_nil, List.replicate_succ, List.replicate_zero, List.cons_append, List.nil_append, List.getElem?_cons_zero, List.getElem?_cons_succ, List.set_cons_zero, List.set_cons_succ, Nat.reduceAdd, Nat.reduceSub, Nat.sub_self, Nat.zero_add, Nat.sub_zero]
  cases h1 : tyIs "int" t with
  | false =>
    rw [h1] at e
    simp only [Bool.false_and] at e
    try simp only [if_true, if_false, Bool.false_eq_true, okS_nx, ok_trB, ok_trI, ok_bind, ok_bin, ok_un, ok_k, ok_cmp, ok_cmpT, ok_chain, ok_bl, ok_nil, ok_cons, ok_call, ok_callOp, ok_isi, ok_test, ok_andT, ok_orT, ok_notT, ok_isBl, ok_andV, ok_orV, ok_notV, ok_if, okS_next, okS_seq, okS_ret, okS_expr, okS_if, okS_set, ok_run, ok_src, ok_range, ok_ok, ok_obv, ok_ob, sNext, ok_var0, ok_varS, List.map_cons, List.map_nil, List.length_cons, List.length_nil, List.replicate_succ, List.replicate_zero, List.cons_append, List.nil_append, List.getElem?_cons_zero, List.getElem?_cons_succ, List.set_cons_zero, List.set_cons_succ, Nat.reduceAdd, Nat.reduceSub, Nat.sub_self, Nat.zero_add, Nat.sub_zero]
    cases v with
    | int i => cases e
    | _ => exact q
  | true =>
    simp only [if_true]
    try simp only [if_true, if_false, Bool.false_eq_true, okS_nx, ok_trB, ok_trI, ok_bind, ok_bin, ok_un, ok_k, ok_cmp, ok_cmpT, ok_chain, ok_bl, ok_nil, ok_cons, ok_call, ok_callOp, ok_isi, ok_test, ok_andT, ok_orT, ok_notT, ok_isBl, ok_andV, ok_orV, ok_notV, ok_if, okS_next, okS_seq, okS_ret, okS_expr, okS_if, okS_set, ok_run, ok_src, ok_range, ok_ok, ok_obv, ok_ob, sNext, ok_var0, ok_varS, List.map_cons, List.map_nil, List.length_cons, List.length_nil, List.replicate_succ, List.replicate_zero, List.cons_append, List.nil_append, List.getElem?_cons_zero, List.getElem?_cons_succ, List.set_cons_zero, List.set_cons_succ, Nat.reduceAdd, Nat.reduceSub, Nat.sub_self, Nat.zero_add, Nat.sub_zero]
    rw [ok_isTy (by simp) h]
    try simp only [if_true, if_false, Bool.false_eq_true, okS_nx, ok_trB, ok_trI, ok_bind, ok_bin, ok_un, ok_k, ok_cmp, ok_cmpT, ok_chain, ok_bl, ok_nil, ok_cons, ok_call, ok_callOp, ok_isi, ok_test, ok_andT, ok_orT, ok_notT, ok_isBl, ok_andV, ok_orV, ok_notV, ok_if, okS_next, okS_seq, okS_ret, okS_expr, okS_if, okS_set, ok_run, ok_src, ok_range, ok_ok, ok_obv, ok_ob, sNext, ok_var0, ok_varS, List.map_cons, List.map_nil, List.length_cons, List.length_nil, List.replicate_succ, List.replicate_zero, List.cons_append, List.nil_append, List.getElem?_cons_zero, List.getElem?_cons_succ, List.set_cons_zero, List.set_cons_succ, Nat.reduceAdd, Nat.reduceSub, Nat.sub_self, Nat.zero_add, Nat.sub_zero]
    rw [h1] at e
    simp only [Bool.true_and] at e
    rw [e]
    cases v with
    | int i =>
      simp only [isI, if_true]
      try simp only [if_true, if_false, Bool.false_eq_true, okS_nx, ok_trB, ok_trI, ok_bind, ok_bin, ok_un, ok_k, ok_cmp, ok_cmpT, ok_chain, ok_bl, ok_nil, ok_cons, ok_call, ok_callOp, ok_isi, ok_test, ok_andT, ok_orT, ok_notT, ok_isBl, ok_andV, ok_orV, ok_notV, ok_if, okS_next, okS_seq, okS_ret, okS_expr, okS_if, okS_set, ok_run, ok_src, ok_range, ok_ok, ok_obv, ok_ob, sNext, ok_var0, ok_varS, List.map_cons, List.map_nil, List.length_cons, List.length_nil, List.replicate_succ, List.replicate_zero, List.cons_append, List.nil_append, List.getElem?_cons_zero, List.getElem?_cons_succ, List.set_cons_zero, List.set_cons_succ, Nat.reduceAdd, Nat.reduceSub, Nat.sub_self, Nat.zero_add, Nat.sub_zero]
      refine ⟨decide (lo ≤ i), rfl, ?_⟩
      unfold isIn at q
      by_cases h2 : lo ≤ i
      · simp only [h2, decide_true, if_true, Bool.true_and] at q ⊢
        try simp only [if_true, if_false, Bool.false_eq_true, okS_nx, ok_trB, ok_trI, ok_bind, ok_bin, ok_un, ok_k, ok_cmp, ok_cmpT, ok_chain, ok_bl, ok_nil, ok_cons, ok_call, ok_callOp, ok_isi, ok_test, ok_andT, ok_orT, ok_notT, ok_isBl, ok_andV, ok_orV, ok_notV, ok_if, okS_next, okS_seq, okS_ret, okS_expr, okS_if, okS_set, ok_run, ok_src, ok_range, ok_ok, ok_obv, ok_ob, sNext, ok_var0, ok_varS, List.map_cons, List.map_nil, List.length_cons, List.length_nil, List.replicate_succ, List.replicate_zero, List.cons_append, List.nil_append, List.getElem?_cons_zero, List.getElem?_cons_succ, List.set_cons_zero, List.set_cons_succ, Nat.reduceAdd, Nat.reduceSub, Nat.sub_self, Nat.zero_add, Nat.sub_zero]
        exact ⟨_, rfl, q⟩
      · simp only [h2, decide_false, Bool.false_and, Bool.false_eq_true, if_false] at q ⊢
        exact q
    | _ => exact q
/-- None, or an int from lo to hi -/
def isPl (v : PV) (lo hi : Int) : Bool := match v with
  | .non => true
  | v => isIn v lo hi
def isNon : PV → Bool
  | .non => true
  | _ => false
theorem isD_non (v : PV) (h : MH) : isD v .non h = some (isNon v) := by
  cases v <;> rfl
/-- a value whose type is told -/
def V1 (h : MH) (v : PV) : Prop := ∃ t, tyOf v h = some t
theorem V1.sub {a b : MH} {v : PV} (k : V1 a v) (s : Sub a b) : V1 b v := by
  obtain ⟨t, e⟩ := k
  refine ⟨t, ?_⟩
  cases v with
  | ref n =>
    simp only [tyOf] at e ⊢
    cases q : a[n]? with
    | none => rw [q] at e; cases e
    | some o =>
      rw [q] at e
      rw [s _ _ q]
      exact e
  | _ => exact e
theorem isPl_or (v : PV) (lo hi : Int) : isPl v lo hi = (isNon v || isIn v lo hi) := by
  cases v <;> rfl
/-- are_places_of(row, value) -/
def placesOf (n : Nat) (v : PV) : Bool := match v with
  | .tup vs => decide (vs.length = n) && vs.all fun w => isPl w 0 29
  | _ => false
theorem places_of_s {row : List Int} {v : PV} {mh : MH} (hv : V1 mh v) (hvs : ∀ vs, v = .tup vs → vs.length ≤ 1000 ∧ ∀ w ∈ vs, V1 mh w) {Q : PV → MH → Prop} (q : ∀ h, Sub mh h → Q (.bl (placesOf row.length v)) h) : Ok (f_are_places_of [iT row, v] mh) Q := by
  obtain ⟨t, ht⟩ := hv
  unfold f_are_places_of
  try simp only [if_true, if_false, Bool.false_eq_true, okS_nx, ok_trB, ok_trI, ok_bind, ok_bin, ok_un, ok_k, ok_cmp, ok_cmpT, ok_chain, ok_bl, ok_nil, ok_cons, ok_call, ok_callOp, ok_isi, ok_test, ok_andT, ok_orT, ok_notT, ok_isBl, ok_andV, ok_orV, ok_notV, ok_if, okS_next, okS_seq, okS_ret, okS_expr, okS_if, okS_set, ok_run, ok_src, ok_range, ok_ok, ok_obv, ok_ob, sNext, ok_var0, ok_varS, List.map_cons, List.map_nil, List.length_cons, List.length_nil, List.replicate_succ, List.replicate_zero, List.cons_append, List.nil_append, List.getElem?_cons_zero, List.getElem?_cons_succ, List.set_cons_zero, List.set_cons_succ, Nat.reduceAdd, Nat.reduceSub, Nat.sub_self, Nat.zero_add, Nat.sub_zero]
  rw [ok_isTy (by simp) ht]
  try simp only [if_true, if_false, Bool.false_eq_true, okS_nx, ok_trB, ok_trI, ok_bind, ok_bin, ok_un, ok_k, ok_cmp, ok_cmpT, ok_chain, ok_bl, ok_nil, ok_cons, ok_call, ok_callOp, ok_isi, ok_test, ok_andT, ok_orT, ok_notT, ok_isBl, ok_andV, ok_orV, ok_notV, ok_if, okS_next, okS_seq, okS_ret, okS_expr, okS_if, okS_set, ok_run, ok_src, ok_range, ok_ok, ok_obv, ok_ob, sNext, ok_var0, ok_varS, List.map_cons, List.map_nil, List.length_cons, List.length_nil, List.replicate_succ, List.replicate_zero, List.cons_append, List.nil_append, List.getElem?_cons_zero, List.getElem?_cons_succ, List.set_cons_zero, List.set_cons_succ, Nat.reduceAdd, Nat.reduceSub, Nat.sub_self, Nat.zero_add, Nat.sub_zero]
  cases v with
  | tup vs =>
    cases ht
    simp only [show tyIs "tuple" "tuple" = true from rfl, Bool.not_true, Bool.false_eq_true, if_false]
    try simp only [if_true, if_false, Bool.false_eq_true, okS_nx, ok_trB, ok_trI, ok_bind, ok_bin, ok_un, ok_k, ok_cmp, ok_cmpT, ok_chain, ok_bl, ok_nil, ok_cons, ok_call, ok_callOp, ok_isi, ok_test, ok_andT, ok_orT, ok_notT, ok_isBl, ok_andV, ok_orV, ok_notV, ok_if, okS_next, okS_seq, okS_ret, okS_expr, okS_if, okS_set, ok_run, ok_src, ok_range, ok_ok, ok_obv, ok_ob, sNext, ok_var0, ok_varS, List.map_cons, List.map_nil, List.length_cons, List.length_nil, List.replicate_succ, List.replicate_zero, List.cons_append, List.nil_append, List.getElem?_cons_zero, List.getElem?_cons_succ, List.set_cons_zero, List.set_cons_succ, Nat.reduceAdd, Nat.reduceSub, Nat.sub_self, Nat.zero_add, Nat.sub_zero]
    refine ok_len (seq_tup _) ?_
    refine ok_len (seq_tup _) ?_
    refine ⟨_, neD_int, ?_⟩
    rw [List.length_map]
    by_cases hl : vs.length = row.length
    · simp only [hl, decide_true, Bool.not_true, Bool.false_eq_true, if_false]
      try simp only [if_true, if_false, Bool.false_eq_true, okS_nx, ok_trB, ok_trI, ok_bind, ok_bin, ok_un, ok_k, ok_cmp, ok_cmpT, ok_chain, ok_bl, ok_nil, ok_cons, ok_call, ok_callOp, ok_isi, ok_test, ok_andT, ok_orT, ok_notT, ok_isBl, ok_andV, ok_orV, ok_notV, ok_if, okS_next, okS_seq, okS_ret, okS_expr, okS_if, okS_set, ok_run, ok_src, ok_range, ok_ok, ok_obv, ok_ob, sNext, ok_var0, ok_varS, List.map_cons, List.map_nil, List.length_cons, List.length_nil, List.replicate_succ, List.replicate_zero, List.cons_append, List.nil_append, List.getElem?_cons_zero, List.getElem?_cons_succ, List.set_cons_zero, List.set_cons_succ, Nat.reduceAdd, Nat.reduceSub, Nat.sub_self, Nat.zero_add, Nat.sub_zero]
      obtain ⟨hz, hw⟩ := hvs vs rfl
      refine ok_allP vs id (fun w => isPl w 0 29) ?_ ?_ ?_
      · try simp only [if_true, if_false, Bool.false_eq_true, okS_nx, ok_trB, ok_trI, ok_bind, ok_bin, ok_un, ok_k, ok_cmp, ok_cmpT, ok_chain, ok_bl, ok_nil, ok_cons, ok_call, ok_callOp, ok_isi, ok_test, ok_andT, ok_orT, ok_notT, ok_isBl, ok_andV, ok_orV, ok_notV, ok_if, okS_next, okS_seq, okS_ret, okS_expr, okS_if, okS_set, ok_run, ok_src, ok_range, ok_ok, ok_obv, ok_ob, sNext, ok_var0, ok_varS, List.map_cons, List.map_nil, List.length_cons, List.length_nil, List.replicate_succ, List.replicate_zero, List.cons_append, List.nil_append, List.getElem?_cons_zero, List.getElem?_cons_succ, List.set_cons_zero, List.set_cons_succ, Nat.reduceAdd, Nat.reduceSub, Nat.sub_self, Nat.zero_add, Nat.sub_zero]
        refine ⟨by unfold loopFuel; omega, .refl _, fun h _ => ?_⟩
        rw [List.map_id]
        exact srcIs_vals _ _
      · intro w hwm h hs
        obtain ⟨tw, ew⟩ := (hw w hwm).sub hs
        refine ⟨_, rfl, ?_⟩
        simp only [wipeE]
        try simp only [if_true, if_false, Bool.false_eq_true, okS_nx, ok_trB, ok_trI, ok_bind, ok_bin, ok_un, ok_k, ok_cmp, ok_cmpT, ok_chain, ok_bl, ok_nil, ok_cons, ok_call, ok_callOp, ok_isi, ok_test, ok_andT, ok_orT, ok_notT, ok_isBl, ok_andV, ok_orV, ok_notV, ok_if, okS_next, okS_seq, okS_ret, okS_expr, okS_if, okS_set, ok_run, ok_src, ok_range, ok_ok, ok_obv, ok_ob, sNext, ok_var0, ok_varS, List.map_cons, List.map_nil, List.length_cons, List.length_nil, List.replicate_succ, List.replicate_zero, List.cons_append, List.nil_append, List.getElem?_cons_zero, List.getElem?_cons_succ, List.set_cons_zero, List.set_cons_succ, Nat.reduceAdd, Nat.reduceSub, Nat.sub_self, Nat.zero_add, Nat.sub_zero, isD_non, id]
        refine ⟨_, rfl, ?_⟩
        try simp only [if_true, if_false, Bool.false_eq_true, okS_nx, ok_trB, ok_trI, ok_bind, ok_bin, ok_un, ok_k, ok_cmp, ok_cmpT, ok_chain, ok_bl, ok_nil, ok_cons, ok_call, ok_callOp, ok_isi, ok_test, ok_andT, ok_orT, ok_notT, ok_isBl, ok_andV, ok_orV, ok_notV, ok_if, okS_next, okS_seq, okS_ret, okS_expr, okS_if, okS_set, ok_run, ok_src, ok_range, ok_ok, ok_obv, ok_ob, sNext, ok_var0, ok_varS, List.map_cons, List.map_nil, List.length_cons, List.length_nil, List.replicate_succ, List.replicate_zero, List.cons_append, List.nil_append, List.getElem?_cons_zero, List.getElem?_cons_succ, List.set_cons_zero, List.set_cons_succ, Nat.reduceAdd, Nat.reduceSub, Nat.sub_self, Nat.zero_add, Nat.sub_zero]
        rw [isPl_or]
        cases hn : isNon w with
        | true =>
          simp only [if_true, Bool.true_or]
          exact ⟨rfl, .refl _⟩
        | false =>
          simp only [Bool.false_eq_true, if_false, Bool.false_or]
          try simp only [if_true, if_false, Bool.false_eq_true, okS_nx, ok_trB, ok_trI, ok_bind, ok_bin, ok_un, ok_k, ok_cmp, ok_cmpT, ok_chain, ok_bl, ok_nil, ok_cons, ok_call, ok_callOp, ok_isi, ok_test, ok_andT, ok_orT, ok_notT, ok_isBl, ok_andV, ok_orV, ok_notV, ok_if, okS_next, okS_seq, okS_ret, okS_expr, okS_if, okS_set, ok_run, ok_src, ok_range, ok_ok, ok_obv, ok_ob, sNext, ok_var0, ok_varS, List.map_cons, List.map_nil, List.length_cons, List.length_nil, List.replicate_succ, List.replicate_zero, List.cons_append, List.nil_append, List.getElem?_cons_zero, List.getElem?_cons_succ, List.set_cons_zero, List.set_cons_succ, Nat.reduceAdd, Nat.reduceSub, Nat.sub_self, Nat.zero_add, Nat.sub_zero]
          refine ok_subI.mpr ?_
          exact is_between_s ew ⟨rfl, .refl _⟩
      · intro h hs
        have e : placesOf row.length (.tup vs) = vs.all fun w => isPl w 0 29 := by
          simp [placesOf, hl]
        rw [← e]
        exact q h hs
    · simp only [show ¬ ((vs.length : Int) = (row.length : Int)) by omega, decide_false, Bool.not_false, if_true]
      try simp only [if_true, if_false, Bool.false_eq_true, okS_nx, ok_trB, ok_trI, ok_bind, ok_bin, ok_un, ok_k, ok_cmp, ok_cmpT, ok_chain, ok_bl, ok_nil, ok_cons, ok_call, ok_callOp, ok_isi, ok_test, ok_andT, ok_orT, ok_notT, ok_isBl, ok_andV, ok_orV, ok_notV, ok_if, okS_next, okS_seq, okS_ret, okS_expr, okS_if, okS_set, ok_run, ok_src, ok_range, ok_ok, ok_obv, ok_ob, sNext, ok_var0, ok_varS, List.map_cons, List.map_nil, List.length_cons, List.length_nil, List.replicate_succ, List.replicate_zero, List.cons_append, List.nil_append, List.getElem?_cons_zero, List.getElem?_cons_succ, List.set_cons_zero, List.set_cons_succ, Nat.reduceAdd, Nat.reduceSub, Nat.sub_self, Nat.zero_add, Nat.sub_zero]
      have e : placesOf row.length (.tup vs) = false := by
        simp [placesOf, hl]
      rw [← e]
      exact q mh (.refl _)
  | _ =>
    have e : tyIs "tuple" t = false := by
      simp only [tyOf] at ht
      repeat' split at ht
      all_goals first | (cases ht; rfl) | cases ht
    simp only [e, Bool.not_false, if_true]
    try simp only [if_true, if_false, Bool.false_eq_true, okS_nx, ok_trB, ok_trI, ok_bind, ok_bin, ok_un, ok_k, ok_cmp, ok_cmpT, ok_chain, ok_bl, ok_nil, ok_cons, ok_call, ok_callOp, ok_isi, ok_test, ok_andT, ok_orT, ok_notT, ok_isBl, ok_andV, ok_orV, ok_notV, ok_if, okS_next, okS_seq, okS_ret, okS_expr, okS_if, okS_set, ok_run, ok_src, ok_range, ok_ok, ok_obv, ok_ob, sNext, ok_var0, ok_varS, List.map_cons, List.map_nil, List.length_cons, List.length_nil, List.replicate_succ, List.replicate_zero, List.cons_append, List.nil_append, List.getElem?_cons_zero, List.getElem?_cons_succ, List.set_cons_zero, List.set_cons_succ, Nat.reduceAdd, Nat.reduceSub, Nat.sub_self, Nat.zero_add, Nat.sub_zero]
    exact q mh (.refl _)
end K10
namespace K10
open PySem PySem.Spec PyProof.Rows L2 RZ Ev
/-! ### crossed -/
/-- one and other stand on one track and cross -/
def Cross (row : List Int) (vs : List PV) (one other : Nat) : Prop := ∃ (p x y : Int), vs[one]? = some (.int p) ∧ vs[other]? = some (.int p) ∧ row[one]? = some x ∧ row[other]? = some y ∧ y < x
theorem eqD_pl {mh : MH} {p : Int} {w : PV} (hw : isPl w 0 29 = true) : ∃ b, eqD (.int p) w mh = some b ∧ (b = true ↔ w = .int p) := by
  cases w with
  | non =>
    refine ⟨false, rfl, ?_⟩
    simp
  | int i =>
    refine ⟨_, eqD_int, ?_⟩
    simp [eq_comm]
  | _ => cases hw
theorem crossed_s {row : List Int} {vs : List PV} {mh : MH} (hr : row.length ≤ 1000) (hl : vs.length = row.length) (hp : ∀ w ∈ vs, isPl w 0 29 = true) {Q : PV → MH → Prop}
    (q1 : (∀ one other, one < other → other < row.length → ¬ Cross row vs one other) → Q .non mh) (q2 : ∀ one other, one < other → other < row.length → Cross row vs one other → ∀ a b, Q (.tup [a, b]) mh) : Ok (f_crossed [iT row, .tup vs] mh) Q := by
  unfold f_crossed
  try simp only [if_true, if_false, Bool.false_eq_true, okS_nx, ok_trB, ok_trI, ok_bind, ok_bin, ok_un, ok_k, ok_cmp, ok_cmpT, ok_chain, ok_bl, ok_nil, ok_cons, ok_call, ok_callOp, ok_isi, ok_test, ok_andT, ok_orT, ok_notT, ok_isBl, ok_andV, ok_orV, ok_notV, ok_if, okS_next, okS_seq, okS_ret, okS_expr, okS_if, okS_set, ok_run, ok_src, ok_range, ok_ok, ok_obv, ok_ob, sNext, ok_var0, ok_varS, List.map_cons, List.map_nil, List.length_cons, List.length_nil, List.replicate_succ, List.replicate_zero, List.cons_append, List.nil_append, List.getElem?_cons_zero, List.getElem?_cons_succ, List.set_cons_zero, List.set_cons_succ, Nat.reduceAdd, Nat.reduceSub, Nat.sub_self, Nat.zero_add, Nat.sub_zero]
  refine okS_for ?_
  try simp only [if_true, if_false, Bool.false_eq_true, okS_nx, ok_trB, ok_trI, ok_bind, ok_bin, ok_un, ok_k, ok_cmp, ok_cmpT, ok_chain, ok_bl, ok_nil, ok_cons, ok_call, ok_callOp, ok_isi, ok_test, ok_andT, ok_orT, ok_notT, ok_isBl, ok_andV, ok_orV, ok_notV, ok_if, okS_next, okS_seq, okS_ret, okS_expr, okS_if, okS_set, ok_run, ok_src, ok_range, ok_ok, ok_obv, ok_ob, sNext, ok_var0, ok_varS, List.map_cons, List.map_nil, List.length_cons, List.length_nil, List.replicate_succ, List.replicate_zero, List.cons_append, List.nil_append, List.getElem?_cons_zero, List.getElem?_cons_succ, List.set_cons_zero, List.set_cons_succ, Nat.reduceAdd, Nat.reduceSub, Nat.sub_self, Nat.zero_add, Nat.sub_zero]
  refine ok_len (seq_tup _) ?_
  rw [List.length_map]
  refine ⟨_, range1 (by omega), _, fun i env h => mh = h ∧ i ≤ row.length ∧ (∃ a b, env = [some (iT row), some (.tup vs), a, b]) ∧ ∀ one other, one < other → other < i → ¬ Cross row vs one other, by simp; unfold loopFuel; omega, fun _ _ h _ => srcIs_vals _ _, ?_, ?_, ?_⟩
  · rintro i v env h hv ⟨rfl, hi', ⟨a, b, rfl⟩, hno⟩
    rw [List.getElem?_map] at hv
    obtain ⟨k, hk, rfl⟩ := Option.map_eq_some_iff.mp hv
    obtain ⟨hi, hk2⟩ := List.getElem?_eq_some_iff.mp hk
    rw [List.length_range] at hi
    rw [List.getElem_range] at hk2
    subst hk2
    refine ⟨_, rfl, ?_⟩
    try simp only [if_true, if_false, Bool.false_eq_true, okS_nx, ok_trB, ok_trI, ok_bind, ok_bin, ok_un, ok_k, ok_cmp, ok_cmpT, ok_chain, ok_bl, ok_nil, ok_cons, ok_call, ok_callOp, ok_isi, ok_test, ok_andT, ok_orT, ok_notT, ok_isBl, ok_andV, ok_orV, ok_notV, ok_if, okS_next, okS_seq, okS_ret, okS_expr, okS_if, okS_set, ok_run, ok_src, ok_range, ok_ok, ok_obv, ok_ob, sNext, ok_var0, ok_varS, List.map_cons, List.map_nil, List.length_cons, List.length_nil, List.replicate_succ, List.replicate_zero, List.cons_append, List.nil_append, List.getElem?_cons_zero, List.getElem?_cons_succ, List.set_cons_zero, List.set_cons_succ, Nat.reduceAdd, Nat.reduceSub, Nat.sub_self, Nat.zero_add, Nat.sub_zero]
    refine okS_for ?_
    try simp only [if_true, if_false, Bool.false_eq_true, okS_nx, ok_trB, ok_trI, ok_bind, ok_bin, ok_un, ok_k, ok_cmp, ok_cmpT, ok_chain, ok_bl, ok_nil, ok_cons, ok_call, ok_callOp, ok_isi, ok_test, ok_andT, ok_orT, ok_notT, ok_isBl, ok_andV, ok_orV, ok_notV, ok_if, okS_next, okS_seq, okS_ret, okS_expr, okS_if, okS_set, ok_run, ok_src, ok_range, ok_ok, ok_obv, ok_ob, sNext, ok_var0, ok_varS, List.map_cons, List.map_nil, List.length_cons, List.length_nil, List.replicate_succ, List.replicate_zero, List.cons_append, List.nil_append, List.getElem?_cons_zero, List.getElem?_cons_succ, List.set_cons_zero, List.set_cons_succ, Nat.reduceAdd, Nat.reduceSub, Nat.sub_self, Nat.zero_add, Nat.sub_zero]
    refine ⟨_, range1 (by omega), _, fun j env h => mh = h ∧ j ≤ i ∧ (∃ b, env = [some (iT row), some (.tup vs), some (.int (i : Nat)), b]) ∧ ∀ one, one < j → ¬ Cross row vs one i, by simp; unfold loopFuel; omega, fun _ _ h _ => srcIs_vals _ _, ?_, ?_, ?_⟩
    · rintro j v env h hv ⟨rfl, hj', ⟨b2, rfl⟩, hno2⟩
      rw [List.getElem?_map] at hv
      obtain ⟨k, hk, rfl⟩ := Option.map_eq_some_iff.mp hv
      obtain ⟨hj, hk2⟩ := List.getElem?_eq_some_iff.mp hk
      rw [List.length_range] at hj
      rw [List.getElem_range] at hk2
      subst hk2
      have hvj : vs[j]? = some (vs[j]'(by omega)) := List.getElem?_eq_getElem (by omega)
      have hvi : vs[i]? = some (vs[i]'(by omega)) := List.getElem?_eq_getElem (by omega)
      generalize vs[j]'(by omega) = wj at hvj
      generalize vs[i]'(by omega) = wi at hvi
      have hrj : (iL row)[j]? = some (.int (row[j]'(by omega))) := by rw [List.getElem?_map, List.getElem?_eq_getElem (by omega)]; rfl
      have hri : (iL row)[i]? = some (.int (row[i]'(by omega))) := by rw [List.getElem?_map, List.getElem?_eq_getElem (by omega)]; rfl
      have gj : row[j]? = some (row[j]'(by omega)) := List.getElem?_eq_getElem (by omega)
      have gi : row[i]? = some (row[i]'(by omega)) := List.getElem?_eq_getElem (by omega)
      have more : (¬ Cross row vs j i) → ∃ b, ([some (iT row), some (.tup vs), some (.int (i : Nat)), some (.int (j : Nat))] : PEnv) = [some (iT row), some (.tup vs), some (.int (i : Nat)), b] ∧ ∀ one, one < j + 1 → ¬ Cross row vs one i := fun hn => ⟨_, rfl, fun one h1 => by
        by_cases e : one = j
        · rw [e]; exact hn
        · exact hno2 one (by omega)⟩
      refine ⟨_, rfl, ?_⟩
      try simp only [if_true, if_false, Bool.false_eq_true, okS_nx, ok_trB, ok_trI, ok_bind, ok_bin, ok_un, ok_k, ok_cmp, ok_cmpT, ok_chain, ok_bl, ok_nil, ok_cons, ok_call, ok_callOp, ok_isi, ok_test, ok_andT, ok_orT, ok_notT, ok_isBl, ok_andV, ok_orV, ok_notV, ok_if, okS_next, okS_seq, okS_ret, okS_expr, okS_if, okS_set, ok_run, ok_src, ok_range, ok_ok, ok_obv, ok_ob, sNext, ok_var0, ok_varS, List.map_cons, List.map_nil, List.length_cons, List.length_nil, List.replicate_succ, List.replicate_zero, List.cons_append, List.nil_append, List.getElem?_cons_zero, List.getElem?_cons_succ, List.set_cons_zero, List.set_cons_succ, Nat.reduceAdd, Nat.reduceSub, Nat.sub_self, Nat.zero_add, Nat.sub_zero]
      refine ok_ix (k := j) (seq_tup _) hvj (fun _ z => by cases z) ?_
      refine ⟨!isNon wj, by unfold isNotD; rw [isD_non]; rfl, ?_⟩
      cases hn : isNon wj with
      | true =>
        simp only [Bool.not_true, Bool.false_eq_true, if_false]
        try simp only [if_true, if_false, Bool.false_eq_true, okS_nx, ok_trB, ok_trI, ok_bind, ok_bin, ok_un, ok_k, ok_cmp, ok_cmpT, ok_chain, ok_bl, ok_nil, ok_cons, ok_call, ok_callOp, ok_isi, ok_test, ok_andT, ok_orT, ok_notT, ok_isBl, ok_andV, ok_orV, ok_notV, ok_if, okS_next, okS_seq, okS_ret, okS_expr, okS_if, okS_set, ok_run, ok_src, ok_range, ok_ok, ok_obv, ok_ob, sNext, ok_var0, ok_varS, List.map_cons, List.map_nil, List.length_cons, List.length_nil, List.replicate_succ, List.replicate_zero, List.cons_append, List.nil_append, List.getElem?_cons_zero, List.getElem?_cons_succ, List.set_cons_zero, List.set_cons_succ, Nat.reduceAdd, Nat.reduceSub, Nat.sub_self, Nat.zero_add, Nat.sub_zero]
        obtain ⟨b, e, hx⟩ := more (by
          rintro ⟨p, x, y, c1, _⟩
          rw [hvj] at c1
          cases c1
          cases hn)
        exact ⟨trivial, hj, ⟨b, e⟩, hx⟩
      | false =>
        simp only [Bool.not_false, if_true]
        try simp only [if_true, if_false, Bool.false_eq_true, okS_nx, ok_trB, ok_trI, ok_bind, ok_bin, ok_un, ok_k, ok_cmp, ok_cmpT, ok_chain, ok_bl, ok_nil, ok_cons, ok_call, ok_callOp, ok_isi, ok_test, ok_andT, ok_orT, ok_notT, ok_isBl, ok_andV, ok_orV, ok_notV, ok_if, okS_next, okS_seq, okS_ret, okS_expr, okS_if, okS_set, ok_run, ok_src, ok_range, ok_ok, ok_obv, ok_ob, sNext, ok_var0, ok_varS, List.map_cons, List.map_nil, List.length_cons, List.length_nil, List.replicate_succ, List.replicate_zero, List.cons_append, List.nil_append, List.getElem?_cons_zero, List.getElem?_cons_succ, List.set_cons_zero, List.set_cons_succ, Nat.reduceAdd, Nat.reduceSub, Nat.sub_self, Nat.zero_add, Nat.sub_zero]
        have hpj := hp wj (List.mem_of_getElem? hvj)
        have hpi := hp wi (List.mem_of_getElem? hvi)
        cases wj with
        | int p =>
          obtain ⟨b, eb, hb⟩ := eqD_pl (mh := mh) (p := p) hpi
          refine ok_ix (k := j) (seq_tup _) hvj (fun _ z => by cases z) ?_
          refine ok_ix (k := i) (seq_tup _) hvi (fun _ z => by cases z) ?_
          refine ⟨b, eb, ?_⟩
          cases b with
          | false =>
            simp only [Bool.false_eq_true, if_false]
            try simp only [if_true, if_false, Bool.false_eq_true, okS_nx, ok_trB, ok_trI, ok_bind, ok_bin, ok_un, ok_k, ok_cmp, ok_cmpT, ok_chain, ok_bl, ok_nil, ok_cons, ok_call, ok_callOp, ok_isi, ok_test, ok_andT, ok_orT, ok_notT, ok_isBl, ok_andV, ok_orV, ok_notV, ok_if, okS_next, okS_seq, okS_ret, okS_expr, okS_if, okS_set, ok_run, ok_src, ok_range, ok_ok, ok_obv, ok_ob, sNext, ok_var0, ok_varS, List.map_cons, List.map_nil, List.length_cons, List.length_nil, List.replicate_succ, List.replicate_zero, List.cons_append, List.nil_append, List.getElem?_cons_zero, List.getElem?_cons_succ, List.set_cons_zero, List.set_cons_succ, Nat.reduceAdd, Nat.reduceSub, Nat.sub_self, Nat.zero_add, Nat.sub_zero]
            obtain ⟨b, e, hx⟩ := more (by
              rintro ⟨p', x, y, c1, c2, _⟩
              rw [hvj] at c1
              cases c1
              rw [hvi] at c2
              cases c2
              exact absurd (hb.mpr rfl) Bool.false_ne_true)
            exact ⟨trivial, hj, ⟨b, e⟩, hx⟩
          | true =>
            have ewi := hb.mp rfl
            subst ewi
            simp only [if_true]
            try simp only [if_true, if_false, Bool.false_eq_true, okS_nx, ok_trB, ok_trI, ok_bind, ok_bin, ok_un, ok_k, ok_cmp, ok_cmpT, ok_chain, ok_bl, ok_nil, ok_cons, ok_call, ok_callOp, ok_isi, ok_test, ok_andT, ok_orT, ok_notT, ok_isBl, ok_andV, ok_orV, ok_notV, ok_if, okS_next, okS_seq, okS_ret, okS_expr, okS_if, okS_set, ok_run, ok_src, ok_range, ok_ok, ok_obv, ok_ob, sNext, ok_var0, ok_varS, List.map_cons, List.map_nil, List.length_cons, List.length_nil, List.replicate_succ, List.replicate_zero, List.cons_append, List.nil_append, List.getElem?_cons_zero, List.getElem?_cons_succ, List.set_cons_zero, List.set_cons_succ, Nat.reduceAdd, Nat.reduceSub, Nat.sub_self, Nat.zero_add, Nat.sub_zero]
            refine ok_ix (k := j) (seq_tup _) hrj (fun _ z => by cases z) ?_
            refine ok_ix (k := i) (seq_tup _) hri (fun _ z => by cases z) ?_
            refine ⟨_, rfl, ?_⟩
            by_cases hlt : row[i]'(by omega) < row[j]'(by omega)
            · simp only [hlt, decide_true, if_true]
              try simp only [if_true, if_false, Bool.false_eq_true, okS_nx, ok_trB, ok_trI, ok_bind, ok_bin, ok_un, ok_k, ok_cmp, ok_cmpT, ok_chain, ok_bl, ok_nil, ok_cons, ok_call, ok_callOp, ok_isi, ok_test, ok_andT, ok_orT, ok_notT, ok_isBl, ok_andV, ok_orV, ok_notV, ok_if, okS_next, okS_seq, okS_ret, okS_expr, okS_if, okS_set, ok_run, ok_src, ok_range, ok_ok, ok_obv, ok_ob, sNext, ok_var0, ok_varS, List.map_cons, List.map_nil, List.length_cons, List.length_nil, List.replicate_succ, List.replicate_zero, List.cons_append, List.nil_append, List.getElem?_cons_zero, List.getElem?_cons_succ, List.set_cons_zero, List.set_cons_succ, Nat.reduceAdd, Nat.reduceSub, Nat.sub_self, Nat.zero_add, Nat.sub_zero]
              refine ok_mtup ?_
              try simp only [if_true, if_false, Bool.false_eq_true, okS_nx, ok_trB, ok_trI, ok_bind, ok_bin, ok_un, ok_k, ok_cmp, ok_cmpT, ok_chain, ok_bl, ok_nil, ok_cons, ok_call, ok_callOp, ok_isi, ok_test, ok_andT, ok_orT, ok_notT, ok_isBl, ok_andV, ok_orV, ok_notV, ok_if, okS_next, okS_seq, okS_ret, okS_expr, okS_if, okS_set, ok_run, ok_src, ok_range, ok_ok, ok_obv, ok_ob, sNext, ok_var0, ok_varS, List.map_cons, List.map_nil, List.length_cons, List.length_nil, List.replicate_succ, List.replicate_zero, List.cons_append, List.nil_append, List.getElem?_cons_zero, List.getElem?_cons_succ, List.set_cons_zero, List.set_cons_succ, Nat.reduceAdd, Nat.reduceSub, Nat.sub_self, Nat.zero_add, Nat.sub_zero]
              refine ⟨small_line (by simp), ?_⟩
              exact q2 j i hj hi ⟨p, _, _, hvj, hvi, gj, gi, hlt⟩ _ _
            · simp only [hlt, decide_false, Bool.false_eq_true, if_false]
              try simp only [if_true, if_false, Bool.false_eq_true, okS_nx, ok_trB, ok_trI, ok_bind, ok_bin, ok_un, ok_k, ok_cmp, ok_cmpT, ok_chain, ok_bl, ok_nil, ok_cons, ok_call, ok_callOp, ok_isi, ok_test, ok_andT, ok_orT, ok_notT, ok_isBl, ok_andV, ok_orV, ok_notV, ok_if, okS_next, okS_seq, okS_ret, okS_expr, okS_if, okS_set, ok_run, ok_src, ok_range, ok_ok, ok_obv, ok_ob, sNext, ok_var0, ok_varS, List.map_cons, List.map_nil, List.length_cons, List.length_nil, List.replicate_succ, List.replicate_zero, List.cons_append, List.nil_append, List.getElem?_cons_zero, List.getElem?_cons_succ, List.set_cons_zero, List.set_cons_succ, Nat.reduceAdd, Nat.reduceSub, Nat.sub_self, Nat.zero_add, Nat.sub_zero]
              obtain ⟨b, e, hx⟩ := more (by
                rintro ⟨p', x, y, c1, c2, c3, c4, c5⟩
                rw [gj] at c3
                rw [gi] at c4
                cases c3
                cases c4
                exact hlt c5)
              exact ⟨trivial, hj, ⟨b, e⟩, hx⟩
        | non => cases hn
        | _ => cases hpj
    · rintro env h ⟨rfl, _, ⟨b2, rfl⟩, hno2⟩
      simp only [List.length_map, List.length_range] at hno2
      refine ⟨rfl, hi, ⟨_, _, rfl⟩, fun one other h1 h2 => ?_⟩
      by_cases e : other = i
      · rw [e]; exact hno2 one (by omega)
      · exact hno one other h1 (by omega)
    · exact ⟨rfl, Nat.zero_le _, ⟨_, rfl⟩, fun _ h => absurd h (Nat.not_lt_zero _)⟩
  · rintro env h ⟨rfl, _, ⟨a, b, rfl⟩, hno⟩
    simp only [List.length_map, List.length_range] at hno
    try simp only [if_true, if_false, Bool.false_eq_true, okS_nx, ok_trB, ok_trI, ok_bind, ok_bin, ok_un, ok_k, ok_cmp, ok_cmpT, ok_chain, ok_bl, ok_nil, ok_cons, ok_call, ok_callOp, ok_isi, ok_test, ok_andT, ok_orT, ok_notT, ok_isBl, ok_andV, ok_orV, ok_notV, ok_if, okS_next, okS_seq, okS_ret, okS_expr, okS_if, okS_set, ok_run, ok_src, ok_range, ok_ok, ok_obv, ok_ob, sNext, ok_var0, ok_varS, List.map_cons, List.map_nil, List.length_cons, List.length_nil, List.replicate_succ, List.replicate_zero, List.cons_append, List.nil_append, List.getElem?_cons_zero, List.getElem?_cons_succ, List.set_cons_zero, List.set_cons_succ, Nat.reduceAdd, Nat.reduceSub, Nat.sub_self, Nat.zero_add, Nat.sub_zero]
    exact q1 hno
  · exact ⟨rfl, Nat.zero_le _, ⟨_, _, rfl⟩, fun _ _ _ h => absurd h (Nat.not_lt_zero _)⟩
end K10
namespace K10
open PySem PySem.Spec PyProof.Rows L2 RZ Ev
/-! ### are_right -/
def below (w : PV) (many : Int) : Bool := isNon w || match w with
  | .int i => decide (i < many)
  | _ => false
/-- no two cars on one track cross -/
def NoCross (row : List Int) (v : PV) : Prop := ∀ vs, v = .tup vs → ∀ one other, one < other → other < row.length → ¬ Cross row vs one other
theorem are_right_s {row : List Int} {v : PV} {many : Int} {mh : MH} (hr : row.length ≤ 1000) (hv : V1 mh v) (hvs : ∀ vs, v = .tup vs → vs.length ≤ 1000 ∧ ∀ w ∈ vs, V1 mh w) {Q : PV → MH → Prop}
    (q : ∀ h b, Sub mh h → (b = true ↔ placesOf row.length v = true ∧ (∀ vs, v = .tup vs → ∀ w ∈ vs, below w many = true) ∧ NoCross row v) → Q (.bl b) h) : Ok (f_are_right [iT row, v, .int many] mh) Q := by
  unfold f_are_right
  try simp only [if_true, if_false, Bool.false_eq_true, okS_nx, ok_trB, ok_trI, ok_bind, ok_bin, ok_un, ok_k, ok_cmp, ok_cmpT, ok_chain, ok_bl, ok_nil, ok_cons, ok_call, ok_callOp, ok_isi, ok_test, ok_andT, ok_orT, ok_notT, ok_isBl, ok_andV, ok_orV, ok_notV, ok_if, okS_next, okS_seq, okS_ret, okS_expr, okS_if, okS_set, ok_run, ok_src, ok_range, ok_ok, ok_obv, ok_ob, sNext, ok_var0, ok_varS, List.map_cons, List.map_nil, List.length_cons, List.length_nil, List.replicate_succ, List.replicate_zero, List.cons_append, List.nil_append, List.getElem?_cons_zero, List.getElem?_cons_succ, List.set_cons_zero, List.set_cons_succ, Nat.reduceAdd, Nat.reduceSub, Nat.sub_self, Nat.zero_add, Nat.sub_zero]
  refine places_of_s hv hvs fun h1 s1 => ?_
  try simp only [if_true, if_false, Bool.false_eq_true, okS_nx, ok_trB, ok_trI, ok_bind, ok_bin, ok_un, ok_k, ok_cmp, ok_cmpT, ok_chain, ok_bl, ok_nil, ok_cons, ok_call, ok_callOp, ok_isi, ok_test, ok_andT, ok_orT, ok_notT, ok_isBl, ok_andV, ok_orV, ok_notV, ok_if, okS_next, okS_seq, okS_ret, okS_expr, okS_if, okS_set, ok_run, ok_src, ok_range, ok_ok, ok_obv, ok_ob, sNext, ok_var0, ok_varS, List.map_cons, List.map_nil, List.length_cons, List.length_nil, List.replicate_succ, List.replicate_zero, List.cons_append, List.nil_append, List.getElem?_cons_zero, List.getElem?_cons_succ, List.set_cons_zero, List.set_cons_succ, Nat.reduceAdd, Nat.reduceSub, Nat.sub_self, Nat.zero_add, Nat.sub_zero]
  cases hp : placesOf row.length v with
  | false =>
    simp only [Bool.not_false, if_true]
    try simp only [if_true, if_false, Bool.false_eq_true, okS_nx, ok_trB, ok_trI, ok_bind, ok_bin, ok_un, ok_k, ok_cmp, ok_cmpT, ok_chain, ok_bl, ok_nil, ok_cons, ok_call, ok_callOp, ok_isi, ok_test, ok_andT, ok_orT, ok_notT, ok_isBl, ok_andV, ok_orV, ok_notV, ok_if, okS_next, okS_seq, okS_ret, okS_expr, okS_if, okS_set, ok_run, ok_src, ok_range, ok_ok, ok_obv, ok_ob, sNext, ok_var0, ok_varS, List.map_cons, List.map_nil, List.length_cons, List.length_nil, List.replicate_succ, List.replicate_zero, List.cons_append, List.nil_append, List.getElem?_cons_zero, List.getElem?_cons_succ, List.set_cons_zero, List.set_cons_succ, Nat.reduceAdd, Nat.reduceSub, Nat.sub_self, Nat.zero_add, Nat.sub_zero]
    exact q _ _ s1 ⟨fun h => (Bool.false_ne_true h).elim, fun h => by rw [hp] at h; cases h.1⟩
  | true =>
    simp only [Bool.not_true, Bool.false_eq_true, if_false]
    try simp only [if_true, if_false, Bool.false_eq_true, okS_nx, ok_trB, ok_trI, ok_bind, ok_bin, ok_un, ok_k, ok_cmp, ok_cmpT, ok_chain, ok_bl, ok_nil, ok_cons, ok_call, ok_callOp, ok_isi, ok_test, ok_andT, ok_orT, ok_notT, ok_isBl, ok_andV, ok_orV, ok_notV, ok_if, okS_next, okS_seq, okS_ret, okS_expr, okS_if, okS_set, ok_run, ok_src, ok_range, ok_ok, ok_obv, ok_ob, sNext, ok_var0, ok_varS, List.map_cons, List.map_nil, List.length_cons, List.length_nil, List.replicate_succ, List.replicate_zero, List.cons_append, List.nil_append, List.getElem?_cons_zero, List.getElem?_cons_succ, List.set_cons_zero, List.set_cons_succ, Nat.reduceAdd, Nat.reduceSub, Nat.sub_self, Nat.zero_add, Nat.sub_zero]
    cases v with
    | tup vs =>
      have hp2 : vs.length = row.length ∧ ∀ w ∈ vs, isPl w 0 29 = true := by
        unfold placesOf at hp
        simpa [List.all_eq_true] using hp
      refine ok_allP vs id (fun w => below w many) ?_ ?_ ?_
      · try simp only [if_true, if_false, Bool.false_eq_true, okS_nx, ok_trB, ok_trI, ok_bind, ok_bin, ok_un, ok_k, ok_cmp, ok_cmpT, ok_chain, ok_bl, ok_nil, ok_cons, ok_call, ok_callOp, ok_isi, ok_test, ok_andT, ok_orT, ok_notT, ok_isBl, ok_andV, ok_orV, ok_notV, ok_if, okS_next, okS_seq, okS_ret, okS_expr, okS_if, okS_set, ok_run, ok_src, ok_range, ok_ok, ok_obv, ok_ob, sNext, ok_var0, ok_varS, List.map_cons, List.map_nil, List.length_cons, List.length_nil, List.replicate_succ, List.replicate_zero, List.cons_append, List.nil_append, List.getElem?_cons_zero, List.getElem?_cons_succ, List.set_cons_zero, List.set_cons_succ, Nat.reduceAdd, Nat.reduceSub, Nat.sub_self, Nat.zero_add, Nat.sub_zero]
        refine ok_srcT.mpr ⟨by unfold loopFuel; omega, .refl _, fun h _ => ?_⟩
        rw [List.map_id]
        exact srcIs_vals _ _
      · intro w hw h hs
        refine ⟨_, rfl, ?_⟩
        simp only [wipeE, id]
        try simp only [if_true, if_false, Bool.false_eq_true, okS_nx, ok_trB, ok_trI, ok_bind, ok_bin, ok_un, ok_k, ok_cmp, ok_cmpT, ok_chain, ok_bl, ok_nil, ok_cons, ok_call, ok_callOp, ok_isi, ok_test, ok_andT, ok_orT, ok_notT, ok_isBl, ok_andV, ok_orV, ok_notV, ok_if, okS_next, okS_seq, okS_ret, okS_expr, okS_if, okS_set, ok_run, ok_src, ok_range, ok_ok, ok_obv, ok_ob, sNext, ok_var0, ok_varS, List.map_cons, List.map_nil, List.length_cons, List.length_nil, List.replicate_succ, List.replicate_zero, List.cons_append, List.nil_append, List.getElem?_cons_zero, List.getElem?_cons_succ, List.set_cons_zero, List.set_cons_succ, Nat.reduceAdd, Nat.reduceSub, Nat.sub_self, Nat.zero_add, Nat.sub_zero, isD_non]
        refine ⟨_, rfl, ?_⟩
        have hpl := hp2.2 w hw
        cases w with
        | non =>
          simp only [isNon, if_true]
          exact ⟨rfl, .refl _⟩
        | int i =>
          simp only [isNon, Bool.false_eq_true, if_false]
          try simp only [if_true, if_false, Bool.false_eq_true, okS_nx, ok_trB, ok_trI, ok_bind, ok_bin, ok_un, ok_k, ok_cmp, ok_cmpT, ok_chain, ok_bl, ok_nil, ok_cons, ok_call, ok_callOp, ok_isi, ok_test, ok_andT, ok_orT, ok_notT, ok_isBl, ok_andV, ok_orV, ok_notV, ok_if, okS_next, okS_seq, okS_ret, okS_expr, okS_if, okS_set, ok_run, ok_src, ok_range, ok_ok, ok_obv, ok_ob, sNext, ok_var0, ok_varS, List.map_cons, List.map_nil, List.length_cons, List.length_nil, List.replicate_succ, List.replicate_zero, List.cons_append, List.nil_append, List.getElem?_cons_zero, List.getElem?_cons_succ, List.set_cons_zero, List.set_cons_succ, Nat.reduceAdd, Nat.reduceSub, Nat.sub_self, Nat.zero_add, Nat.sub_zero]
          exact ⟨_, rfl, rfl, .refl _⟩
        | _ => cases hpl
      · intro h2 s2
        try simp only [if_true, if_false, Bool.false_eq_true, okS_nx, ok_trB, ok_trI, ok_bind, ok_bin, ok_un, ok_k, ok_cmp, ok_cmpT, ok_chain, ok_bl, ok_nil, ok_cons, ok_call, ok_callOp, ok_isi, ok_test, ok_andT, ok_orT, ok_notT, ok_isBl, ok_andV, ok_orV, ok_notV, ok_if, okS_next, okS_seq, okS_ret, okS_expr, okS_if, okS_set, ok_run, ok_src, ok_range, ok_ok, ok_obv, ok_ob, sNext, ok_var0, ok_varS, List.map_cons, List.map_nil, List.length_cons, List.length_nil, List.replicate_succ, List.replicate_zero, List.cons_append, List.nil_append, List.getElem?_cons_zero, List.getElem?_cons_succ, List.set_cons_zero, List.set_cons_succ, Nat.reduceAdd, Nat.reduceSub, Nat.sub_self, Nat.zero_add, Nat.sub_zero]
        cases hb : vs.all fun w => below w many with
        | false =>
          simp only [Bool.not_false, if_true]
          try simp only [if_true, if_false, Bool.false_eq_true, okS_nx, ok_trB, ok_trI, ok_bind, ok_bin, ok_un, ok_k, ok_cmp, ok_cmpT, ok_chain, ok_bl, ok_nil, ok_cons, ok_call, ok_callOp, ok_isi, ok_test, ok_andT, ok_orT, ok_notT, ok_isBl, ok_andV, ok_orV, ok_notV, ok_if, okS_next, okS_seq, okS_ret, okS_expr, okS_if, okS_set, ok_run, ok_src, ok_range, ok_ok, ok_obv, ok_ob, sNext, ok_var0, ok_varS, List.map_cons, List.map_nil, List.length_cons, List.length_nil, List.replicate_succ, List.replicate_zero, List.cons_append, List.nil_append, List.getElem?_cons_zero, List.getElem?_cons_succ, List.set_cons_zero, List.set_cons_succ, Nat.reduceAdd, Nat.reduceSub, Nat.sub_self, Nat.zero_add, Nat.sub_zero]
          refine q _ _ (s1.trans s2) ⟨fun h => (Bool.false_ne_true h).elim, fun h => ?_⟩
          have := List.all_eq_true.mpr (h.2.1 vs rfl)
          rw [hb] at this
          cases this
        | true =>
          simp only [Bool.not_true, Bool.false_eq_true, if_false]
          try simp only [if_true, if_false, Bool.false_eq_true, okS_nx, ok_trB, ok_trI, ok_bind, ok_bin, ok_un, ok_k, ok_cmp, ok_cmpT, ok_chain, ok_bl, ok_nil, ok_cons, ok_call, ok_callOp, ok_isi, ok_test, ok_andT, ok_orT, ok_notT, ok_isBl, ok_andV, ok_orV, ok_notV, ok_if, okS_next, okS_seq, okS_ret, okS_expr, okS_if, okS_set, ok_run, ok_src, ok_range, ok_ok, ok_obv, ok_ob, sNext, ok_var0, ok_varS, List.map_cons, List.map_nil, List.length_cons, List.length_nil, List.replicate_succ, List.replicate_zero, List.cons_append, List.nil_append, List.getElem?_cons_zero, List.getElem?_cons_succ, List.set_cons_zero, List.set_cons_succ, Nat.reduceAdd, Nat.reduceSub, Nat.sub_self, Nat.zero_add, Nat.sub_zero]
          refine crossed_s (by omega) hp2.1 hp2.2 (fun hno => ?_) (fun one other h1' h2' hc a b => ?_)
          · try simp only [if_true, if_false, Bool.false_eq_true, okS_nx, ok_trB, ok_trI, ok_bind, ok_bin, ok_un, ok_k, ok_cmp, ok_cmpT, ok_chain, ok_bl, ok_nil, ok_cons, ok_call, ok_callOp, ok_isi, ok_test, ok_andT, ok_orT, ok_notT, ok_isBl, ok_andV, ok_orV, ok_notV, ok_if, okS_next, okS_seq, okS_ret, okS_expr, okS_if, okS_set, ok_run, ok_src, ok_range, ok_ok, ok_obv, ok_ob, sNext, ok_var0, ok_varS, List.map_cons, List.map_nil, List.length_cons, List.length_nil, List.replicate_succ, List.replicate_zero, List.cons_append, List.nil_append, List.getElem?_cons_zero, List.getElem?_cons_succ, List.set_cons_zero, List.set_cons_succ, Nat.reduceAdd, Nat.reduceSub, Nat.sub_self, Nat.zero_add, Nat.sub_zero]
            refine ⟨_, rfl, q _ _ (s1.trans s2) ⟨fun _ => ⟨hp, fun us e w hw => ?_, fun us e => ?_⟩, fun _ => rfl⟩⟩
            · cases e
              exact List.all_eq_true.mp hb w hw
            · cases e
              exact hno
          · try simp only [if_true, if_false, Bool.false_eq_true, okS_nx, ok_trB, ok_trI, ok_bind, ok_bin, ok_un, ok_k, ok_cmp, ok_cmpT, ok_chain, ok_bl, ok_nil, ok_cons, ok_call, ok_callOp, ok_isi, ok_test, ok_andT, ok_orT, ok_notT, ok_isBl, ok_andV, ok_orV, ok_notV, ok_if, okS_next, okS_seq, okS_ret, okS_expr, okS_if, okS_set, ok_run, ok_src, ok_range, ok_ok, ok_obv, ok_ob, sNext, ok_var0, ok_varS, List.map_cons, List.map_nil, List.length_cons, List.length_nil, List.replicate_succ, List.replicate_zero, List.cons_append, List.nil_append, List.getElem?_cons_zero, List.getElem?_cons_succ, List.set_cons_zero, List.set_cons_succ, Nat.reduceAdd, Nat.reduceSub, Nat.sub_self, Nat.zero_add, Nat.sub_zero]
            refine ⟨_, rfl, q _ _ (s1.trans s2) ⟨fun h => (Bool.false_ne_true h).elim, fun h => (h.2.2 vs rfl one other h1' h2' hc).elim⟩⟩
    | _ => cases hp
end K10
namespace K10
open PySem PySem.Spec PyProof.Rows L2 RZ Ev
/-! ### is_lot -/
/-- neighbours rise and cross -/
def lotOk (row l : List Int) : Bool := (nexts l).all fun p => decide (p.1 < p.2) && decide (at0 row p.2 < at0 row p.1)
theorem up_pair : ∀ {l : List Int}, ((nexts l).all fun p => decide (p.1 < p.2)) = true → l.Pairwise (· < ·)
  | [], _ => .nil
  | [a], _ => by simp
  | a :: b :: l, h => by
    have h' : decide (a < b) = true ∧ ((nexts (b :: l)).all fun p => decide (p.1 < p.2)) = true := by
      unfold nexts at h ⊢
      simpa only [List.tail_cons, List.zip_cons_cons, List.all_cons, Bool.and_eq_true] using h
    have ih := up_pair h'.2
    have hab := of_decide_eq_true h'.1
    refine List.pairwise_cons.mpr ⟨fun c hc => ?_, ih⟩
    rcases List.mem_cons.mp hc with rfl | hc
    · exact hab
    · have := (List.pairwise_cons.mp ih).1 c hc
      omega
theorem pair_up : ∀ {l : List Int}, l.Pairwise (· < ·) → ((nexts l).all fun p => decide (p.1 < p.2)) = true
  | [], _ => rfl
  | [a], _ => rfl
  | a :: b :: l, h => by
    obtain ⟨h1, h2⟩ := List.pairwise_cons.mp h
    have ih := pair_up h2
    unfold nexts at ih ⊢
    simp only [List.tail_cons, List.zip_cons_cons, List.all_cons, Bool.and_eq_true]
    exact ⟨decide_eq_true (h1 b (by simp)), ih⟩
theorem all_ints {lo hi : Int} : ∀ {vs : List PV}, (vs.all fun w => isIn w lo hi) = true → ∃ l : List Int, vs = iL l ∧ ∀ e ∈ l, lo ≤ e ∧ e ≤ hi
  | [], _ => ⟨[], rfl, by simp⟩
  | v :: vs, h => by
    simp only [List.all_cons, Bool.and_eq_true] at h
    obtain ⟨l, rfl, hl⟩ := all_ints h.2
    cases v with
    | int i =>
      have h1 := h.1
      simp only [isIn, Bool.and_eq_true, decide_eq_true_eq] at h1
      refine ⟨i :: l, rfl, fun e he => ?_⟩
      rcases List.mem_cons.mp he with rfl | he
      · exact h1
      · exact hl e he
    | _ => cases h.1
theorem lotOk_iff (row l : List Int) : lotOk row l = true ↔ l.Pairwise (· < ·) ∧ falls row l = true := by
  unfold lotOk falls
  constructor
  · intro h
    have h' : ∀ p ∈ nexts l, p.1 < p.2 ∧ at0 row p.2 < at0 row p.1 := by simpa [List.all_eq_true] using h
    exact ⟨up_pair (List.all_eq_true.mpr fun p hp => decide_eq_true (h' p hp).1), List.all_eq_true.mpr fun p hp => decide_eq_true (h' p hp).2⟩
  · rintro ⟨h1, h2⟩
    have h1' := List.all_eq_true.mp (pair_up h1)
    have h2' := List.all_eq_true.mp h2
    exact List.all_eq_true.mpr fun p hp => by rw [h1' p hp, h2' p hp]; rfl
theorem is_lot_s {row : List Int} {v : PV} {mh : MH} (hr : row.length ≤ 1000) (hv : V1 mh v) (hvs : ∀ vs, v = .tup vs → vs.length ≤ 1000 ∧ ∀ w ∈ vs, V1 mh w) {Q : PV → MH → Prop}
    (q : ∀ h b, Sub mh h → (b = true ↔ ∃ l : List Int, v = iT l ∧ IsLot row.length l ∧ falls row l = true) → Q (.bl b) h) : Ok (f_is_lot [iT row, v] mh) Q := by
  obtain ⟨t, ht⟩ := hv
  unfold f_is_lot
  try simp only [if_true, if_false, Bool.false_eq_true, okS_nx, ok_trB, ok_trI, ok_bind, ok_bin, ok_un, ok_k, ok_cmp, ok_cmpT, ok_chain, ok_bl, ok_nil, ok_cons, ok_call, ok_callOp, ok_isi, ok_test, ok_andT, ok_orT, ok_notT, ok_isBl, ok_andV, ok_orV, ok_notV, ok_if, okS_next, okS_seq, okS_ret, okS_expr, okS_if, okS_set, ok_run, ok_src, ok_range, ok_ok, ok_obv, ok_ob, sNext, ok_var0, ok_varS, List.map_cons, List.map_nil, List.length_cons, List.length_nil, List.replicate_succ, List.replicate_zero, List.cons_append, List.nil_append, List.getElem?_cons_zero, List.getElem?_cons_succ, List.set_cons_zero, List.set_cons_succ, Nat.reduceAdd, Nat.reduceSub, Nat.sub_self, Nat.zero_add, Nat.sub_zero]
  rw [ok_isTy (by simp) ht]
  try simp only [if_true, if_false, Bool.false_eq_true, okS_nx, ok_trB, ok_trI, ok_bind, ok_bin, ok_un, ok_k, ok_cmp, ok_cmpT, ok_chain, ok_bl, ok_nil, ok_cons, ok_call, ok_callOp, ok_isi, ok_test, ok_andT, ok_orT, ok_notT, ok_isBl, ok_andV, ok_orV, ok_notV, ok_if, okS_next, okS_seq, okS_ret, okS_expr, okS_if, okS_set, ok_run, ok_src, ok_range, ok_ok, ok_obv, ok_ob, sNext, ok_var0, ok_varS, List.map_cons, List.map_nil, List.length_cons, List.length_nil, List.replicate_succ, List.replicate_zero, List.cons_append, List.nil_append, List.getElem?_cons_zero, List.getElem?_cons_succ, List.set_cons_zero, List.set_cons_succ, Nat.reduceAdd, Nat.reduceSub, Nat.sub_self, Nat.zero_add, Nat.sub_zero]
  cases v with
  | tup vs =>
    cases ht
    obtain ⟨hz, hw⟩ := hvs vs rfl
    simp only [show tyIs "tuple" "tuple" = true from rfl, Bool.not_true, Bool.false_eq_true, if_false]
    try simp only [if_true, if_false, Bool.false_eq_true, okS_nx, ok_trB, ok_trI, ok_bind, ok_bin, ok_un, ok_k, ok_cmp, ok_cmpT, ok_chain, ok_bl, ok_nil, ok_cons, ok_call, ok_callOp, ok_isi, ok_test, ok_andT, ok_orT, ok_notT, ok_isBl, ok_andV, ok_orV, ok_notV, ok_if, okS_next, okS_seq, okS_ret, okS_expr, okS_if, okS_set, ok_run, ok_src, ok_range, ok_ok, ok_obv, ok_ob, sNext, ok_var0, ok_varS, List.map_cons, List.map_nil, List.length_cons, List.length_nil, List.replicate_succ, List.replicate_zero, List.cons_append, List.nil_append, List.getElem?_cons_zero, List.getElem?_cons_succ, List.set_cons_zero, List.set_cons_succ, Nat.reduceAdd, Nat.reduceSub, Nat.sub_self, Nat.zero_add, Nat.sub_zero]
    refine ok_allP vs id (fun w => isIn w 0 ((row.length : Int) - 1)) ?_ ?_ ?_
    · try simp only [if_true, if_false, Bool.false_eq_true, okS_nx, ok_trB, ok_trI, ok_bind, ok_bin, ok_un, ok_k, ok_cmp, ok_cmpT, ok_chain, ok_bl, ok_nil, ok_cons, ok_call, ok_callOp, ok_isi, ok_test, ok_andT, ok_orT, ok_notT, ok_isBl, ok_andV, ok_orV, ok_notV, ok_if, okS_next, okS_seq, okS_ret, okS_expr, okS_if, okS_set, ok_run, ok_src, ok_range, ok_ok, ok_obv, ok_ob, sNext, ok_var0, ok_varS, List.map_cons, List.map_nil, List.length_cons, List.length_nil, List.replicate_succ, List.replicate_zero, List.cons_append, List.nil_append, List.getElem?_cons_zero, List.getElem?_cons_succ, List.set_cons_zero, List.set_cons_succ, Nat.reduceAdd, Nat.reduceSub, Nat.sub_self, Nat.zero_add, Nat.sub_zero]
      refine ok_srcT.mpr ⟨by unfold loopFuel; omega, .refl _, fun h _ => ?_⟩
      rw [List.map_id]
      exact srcIs_vals _ _
    · intro w hwm h hs
      obtain ⟨tw, ew⟩ := (hw w hwm).sub hs
      refine ⟨_, rfl, ?_⟩
      simp only [wipeE, id]
      try simp only [if_true, if_false, Bool.false_eq_true, okS_nx, ok_trB, ok_trI, ok_bind, ok_bin, ok_un, ok_k, ok_cmp, ok_cmpT, ok_chain, ok_bl, ok_nil, ok_cons, ok_call, ok_callOp, ok_isi, ok_test, ok_andT, ok_orT, ok_notT, ok_isBl, ok_andV, ok_orV, ok_notV, ok_if, okS_next, okS_seq, okS_ret, okS_expr, okS_if, okS_set, ok_run, ok_src, ok_range, ok_ok, ok_obv, ok_ob, sNext, ok_var0, ok_varS, List.map_cons, List.map_nil, List.length_cons, List.length_nil, List.replicate_succ, List.replicate_zero, List.cons_append, List.nil_append, List.getElem?_cons_zero, List.getElem?_cons_succ, List.set_cons_zero, List.set_cons_succ, Nat.reduceAdd, Nat.reduceSub, Nat.sub_self, Nat.zero_add, Nat.sub_zero]
      refine ok_len (seq_tup _) ?_
      refine ok_subI.mpr ?_
      rw [List.length_map]
      exact is_between_s ew ⟨rfl, .refl _⟩
    · intro h1 s1
      try simp only [if_true, if_false, Bool.false_eq_true, okS_nx, ok_trB, ok_trI, ok_bind, ok_bin, ok_un, ok_k, ok_cmp, ok_cmpT, ok_chain, ok_bl, ok_nil, ok_cons, ok_call, ok_callOp, ok_isi, ok_test, ok_andT, ok_orT, ok_notT, ok_isBl, ok_andV, ok_orV, ok_notV, ok_if, okS_next, okS_seq, okS_ret, okS_expr, okS_if, okS_set, ok_run, ok_src, ok_range, ok_ok, ok_obv, ok_ob, sNext, ok_var0, ok_varS, List.map_cons, List.map_nil, List.length_cons, List.length_nil, List.replicate_succ, List.replicate_zero, List.cons_append, List.nil_append, List.getElem?_cons_zero, List.getElem?_cons_succ, List.set_cons_zero, List.set_cons_succ, Nat.reduceAdd, Nat.reduceSub, Nat.sub_self, Nat.zero_add, Nat.sub_zero]
      cases hb : vs.all fun w => isIn w 0 ((row.length : Int) - 1) with
      | false =>
        simp only [Bool.not_false, if_true]
        try simp only [if_true, if_false, Bool.false_eq_true, okS_nx, ok_trB, ok_trI, ok_bind, ok_bin, ok_un, ok_k, ok_cmp, ok_cmpT, ok_chain, ok_bl, ok_nil, ok_cons, ok_call, ok_callOp, ok_isi, ok_test, ok_andT, ok_orT, ok_notT, ok_isBl, ok_andV, ok_orV, ok_notV, ok_if, okS_next, okS_seq, okS_ret, okS_expr, okS_if, okS_set, ok_run, ok_src, ok_range, ok_ok, ok_obv, ok_ob, sNext, ok_var0, ok_varS, List.map_cons, List.map_nil, List.length_cons, List.length_nil, List.replicate_succ, List.replicate_zero, List.cons_append, List.nil_append, List.getElem?_cons_zero, List.getElem?_cons_succ, List.set_cons_zero, List.set_cons_succ, Nat.reduceAdd, Nat.reduceSub, Nat.sub_self, Nat.zero_add, Nat.sub_zero]
        refine q _ _ s1 ⟨fun h => (Bool.false_ne_true h).elim, ?_⟩
        rintro ⟨l, e, il, _⟩
        cases e
        have : ((iL l).all fun w => isIn w 0 ((row.length : Int) - 1)) = true := by
          rw [List.all_eq_true]
          intro w hw
          obtain ⟨x, hx, rfl⟩ := List.mem_map.mp hw
          have := il.rng x hx
          simp only [isIn, Bool.and_eq_true, decide_eq_true_eq]
          omega
        rw [hb] at this
        cases this
      | true =>
        simp only [Bool.not_true, Bool.false_eq_true, if_false]
        try simp only [if_true, if_false, Bool.false_eq_true, okS_nx, ok_trB, ok_trI, ok_bind, ok_bin, ok_un, ok_k, ok_cmp, ok_cmpT, ok_chain, ok_bl, ok_nil, ok_cons, ok_call, ok_callOp, ok_isi, ok_test, ok_andT, ok_orT, ok_notT, ok_isBl, ok_andV, ok_orV, ok_notV, ok_if, okS_next, okS_seq, okS_ret, okS_expr, okS_if, okS_set, ok_run, ok_src, ok_range, ok_ok, ok_obv, ok_ob, sNext, ok_var0, ok_varS, List.map_cons, List.map_nil, List.length_cons, List.length_nil, List.replicate_succ, List.replicate_zero, List.cons_append, List.nil_append, List.getElem?_cons_zero, List.getElem?_cons_succ, List.set_cons_zero, List.set_cons_succ, Nat.reduceAdd, Nat.reduceSub, Nat.sub_self, Nat.zero_add, Nat.sub_zero]
        obtain ⟨l, rfl, hl⟩ := all_ints hb
        have hcars : CarsOf row l := fun e he => by
          have := hl e he
          omega
        rw [List.length_map] at hz
        unfold mLstZip
        try simp only [if_true, if_false, Bool.false_eq_true, okS_nx, ok_trB, ok_trI, ok_bind, ok_bin, ok_un, ok_k, ok_cmp, ok_cmpT, ok_chain, ok_bl, ok_nil, ok_cons, ok_call, ok_callOp, ok_isi, ok_test, ok_andT, ok_orT, ok_notT, ok_isBl, ok_andV, ok_orV, ok_notV, ok_if, okS_next, okS_seq, okS_ret, okS_expr, okS_if, okS_set, ok_run, ok_src, ok_range, ok_ok, ok_obv, ok_ob, sNext, ok_var0, ok_varS, List.map_cons, List.map_nil, List.length_cons, List.length_nil, List.replicate_succ, List.replicate_zero, List.cons_append, List.nil_append, List.getElem?_cons_zero, List.getElem?_cons_succ, List.set_cons_zero, List.set_cons_succ, Nat.reduceAdd, Nat.reduceSub, Nat.sub_self, Nat.zero_add, Nat.sub_zero, ok_sl, ok_noPart]
        refine ok_part ?_
        try simp only [if_true, if_false, Bool.false_eq_true, okS_nx, ok_trB, ok_trI, ok_bind, ok_bin, ok_un, ok_k, ok_cmp, ok_cmpT, ok_chain, ok_bl, ok_nil, ok_cons, ok_call, ok_callOp, ok_isi, ok_test, ok_andT, ok_orT, ok_notT, ok_isBl, ok_andV, ok_orV, ok_notV, ok_if, okS_next, okS_seq, okS_ret, okS_expr, okS_if, okS_set, ok_run, ok_src, ok_range, ok_ok, ok_obv, ok_ob, sNext, ok_var0, ok_varS, List.map_cons, List.map_nil, List.length_cons, List.length_nil, List.replicate_succ, List.replicate_zero, List.cons_append, List.nil_append, List.getElem?_cons_zero, List.getElem?_cons_succ, List.set_cons_zero, List.set_cons_succ, Nat.reduceAdd, Nat.reduceSub, Nat.sub_self, Nat.zero_add, Nat.sub_zero]
        refine ⟨_, rfl, ok_slT.mpr ?_⟩
        rw [show (1 : Int) = ((1 : Nat) : Int) from rfl, cut_from, ← List.map_drop, List.drop_one]
        have e : Ev.pairsOf (iL l) (iL l.tail) = (nexts l).map pairPV := pairs_iL _ _
        simp only [opLstZip]
        rw [if_pos (by have := big_line; rw [List.length_map, List.length_map]; omega), e]
        refine ok_allP (nexts l) pairPV (fun p => decide (p.1 < p.2) && decide (at0 row p.2 < at0 row p.1)) ?_ ?_ ?_
        · try simp only [if_true, if_false, Bool.false_eq_true, okS_nx, ok_trB, ok_trI, ok_bind, ok_bin, ok_un, ok_k, ok_cmp, ok_cmpT, ok_chain, ok_bl, ok_nil, ok_cons, ok_call, ok_callOp, ok_isi, ok_test, ok_andT, ok_orT, ok_notT, ok_isBl, ok_andV, ok_orV, ok_notV, ok_if, okS_next, okS_seq, okS_ret, okS_expr, okS_if, okS_set, ok_run, ok_src, ok_range, ok_ok, ok_obv, ok_ob, sNext, ok_var0, ok_varS, List.map_cons, List.map_nil, List.length_cons, List.length_nil, List.replicate_succ, List.replicate_zero, List.cons_append, List.nil_append, List.getElem?_cons_zero, List.getElem?_cons_succ, List.set_cons_zero, List.set_cons_succ, Nat.reduceAdd, Nat.reduceSub, Nat.sub_self, Nat.zero_add, Nat.sub_zero]
          refine ok_srcL (at_push _ _) ⟨by unfold nexts loopFuel; rw [List.length_zip]; omega, .refl _, fun h hs => srcIs_lst (hs _ _ (at_push _ _))⟩
        · intro p hp h hs
          obtain ⟨m1, m2⟩ := nexts_mem hp
          obtain ⟨k1, e1, r1⟩ := row_at (hcars _ m1)
          obtain ⟨k2, e2, r2⟩ := row_at (hcars _ m2)
          refine ⟨_, rfl, ?_⟩
          simp only [wipeE]
          try simp only [if_true, if_false, Bool.false_eq_true, okS_nx, ok_trB, ok_trI, ok_bind, ok_bin, ok_un, ok_k, ok_cmp, ok_cmpT, ok_chain, ok_bl, ok_nil, ok_cons, ok_call, ok_callOp, ok_isi, ok_test, ok_andT, ok_orT, ok_notT, ok_isBl, ok_andV, ok_orV, ok_notV, ok_if, okS_next, okS_seq, okS_ret, okS_expr, okS_if, okS_set, ok_run, ok_src, ok_range, ok_ok, ok_obv, ok_ob, sNext, ok_var0, ok_varS, List.map_cons, List.map_nil, List.length_cons, List.length_nil, List.replicate_succ, List.replicate_zero, List.cons_append, List.nil_append, List.getElem?_cons_zero, List.getElem?_cons_succ, List.set_cons_zero, List.set_cons_succ, Nat.reduceAdd, Nat.reduceSub, Nat.sub_self, Nat.zero_add, Nat.sub_zero]
          refine ⟨_, rfl, ?_⟩
          try simp only [if_true, if_false, Bool.false_eq_true, okS_nx, ok_trB, ok_trI, ok_bind, ok_bin, ok_un, ok_k, ok_cmp, ok_cmpT, ok_chain, ok_bl, ok_nil, ok_cons, ok_call, ok_callOp, ok_isi, ok_test, ok_andT, ok_orT, ok_notT, ok_isBl, ok_andV, ok_orV, ok_notV, ok_if, okS_next, okS_seq, okS_ret, okS_expr, okS_if, okS_set, ok_run, ok_src, ok_range, ok_ok, ok_obv, ok_ob, sNext, ok_var0, ok_varS, List.map_cons, List.map_nil, List.length_cons, List.length_nil, List.replicate_succ, List.replicate_zero, List.cons_append, List.nil_append, List.getElem?_cons_zero, List.getElem?_cons_succ, List.set_cons_zero, List.set_cons_succ, Nat.reduceAdd, Nat.reduceSub, Nat.sub_self, Nat.zero_add, Nat.sub_zero]
          by_cases hlt : p.1 < p.2
          · simp only [hlt, decide_true, if_true, Bool.true_and]
            try simp only [if_true, if_false, Bool.false_eq_true, okS_nx, ok_trB, ok_trI, ok_bind, ok_bin, ok_un, ok_k, ok_cmp, ok_cmpT, ok_chain, ok_bl, ok_nil, ok_cons, ok_call, ok_callOp, ok_isi, ok_test, ok_andT, ok_orT, ok_notT, ok_isBl, ok_andV, ok_orV, ok_notV, ok_if, okS_next, okS_seq, okS_ret, okS_expr, okS_if, okS_set, ok_run, ok_src, ok_range, ok_ok, ok_obv, ok_ob, sNext, ok_var0, ok_varS, List.map_cons, List.map_nil, List.length_cons, List.length_nil, List.replicate_succ, List.replicate_zero, List.cons_append, List.nil_append, List.getElem?_cons_zero, List.getElem?_cons_succ, List.set_cons_zero, List.set_cons_succ, Nat.reduceAdd, Nat.reduceSub, Nat.sub_self, Nat.zero_add, Nat.sub_zero]
            rw [e1, e2]
            rw [e1] at r1
            rw [e2] at r2
            refine ok_ix (k := k1) (seq_tup _) r1 (fun _ z => by cases z) ?_
            refine ok_ix (k := k2) (seq_tup _) r2 (fun _ z => by cases z) ?_
            exact ⟨_, rfl, rfl, .refl _⟩
          · simp only [hlt, decide_false, Bool.false_eq_true, if_false, Bool.false_and]
            exact ⟨rfl, .refl _⟩
        · intro h2 s2
          refine q _ _ (s1.trans ((Sub.push _ _).trans s2)) ?_
          show lotOk row l = true ↔ _
          rw [lotOk_iff]
          constructor
          · rintro ⟨u, f⟩
            exact ⟨l, rfl, ⟨u, hcars⟩, f⟩
          · rintro ⟨l', e', il, f⟩
            have : l' = l := by
              have e3 : iL l = iL l' := by injection e'
              exact ((List.map_inj_right (fun a b hab => by injection hab)).mp e3).symm
            subst this
            exact ⟨il.up, f⟩
  | _ =>
    have e : tyIs "tuple" t = false := by
      simp only [tyOf] at ht
      repeat' split at ht
      all_goals first | (cases ht; rfl) | cases ht
    simp only [e, Bool.not_false, if_true]
    try simp only [if_true, if_false, Bool.false_eq_true, okS_nx, ok_trB, ok_trI, ok_bind, ok_bin, ok_un, ok_k, ok_cmp, ok_cmpT, ok_chain, ok_bl, ok_nil, ok_cons, ok_call, ok_callOp, ok_isi, ok_test, ok_andT, ok_orT, ok_notT, ok_isBl, ok_andV, ok_orV, ok_notV, ok_if, okS_next, okS_seq, okS_ret, okS_expr, okS_if, okS_set, ok_run, ok_src, ok_range, ok_ok, ok_obv, ok_ob, sNext, ok_var0, ok_varS, List.map_cons, List.map_nil, List.length_cons, List.length_nil, List.replicate_succ, List.replicate_zero, List.cons_append, List.nil_append, List.getElem?_cons_zero, List.getElem?_cons_succ, List.set_cons_zero, List.set_cons_succ, Nat.reduceAdd, Nat.reduceSub, Nat.sub_self, Nat.zero_add, Nat.sub_zero]
    refine q _ _ (.refl _) ⟨fun h => (Bool.false_ne_true h).elim, ?_⟩
    rintro ⟨l, e', _⟩
    cases e'
end K10
namespace K10
open PySem PySem.Spec PyProof.Rows L2 RZ Ev
/-! ### shows_fewest_tracks -/
/-- told to depth three, and short -/
structure V3 (h : MH) (v : PV) : Prop where
  one : V1 h v
  two : ∀ vs, v = .tup vs → vs.length ≤ 1000 ∧ ∀ w ∈ vs, V1 h w ∧ ∀ us, w = .tup us → us.length ≤ 1000 ∧ ∀ u ∈ us, V1 h u
theorem V3.sub {a b : MH} {v : PV} (k : V3 a v) (s : Sub a b) : V3 b v :=
  ⟨k.one.sub s, fun vs e => ⟨(k.two vs e).1, fun w hw => ⟨((k.two vs e).2 w hw).1.sub s, fun us e2 => ⟨(((k.two vs e).2 w hw).2 us e2).1, fun u hu => ((((k.two vs e).2 w hw).2 us e2).2 u hu).sub s⟩⟩⟩⟩
/-- a paper that is right -/
structure Shown (row : List Int) (v : PV) (k : Int) (pl lot : List Int) : Prop where
  is : v = .tup [.int k, iT pl, iT lot]
  len : pl.length = row.length
  rng : ∀ p ∈ pl, 0 ≤ p ∧ p ≤ 29 ∧ p < k
  no : ∀ one other : Nat, one < other → other < row.length → ∀ p x y : Int, pl[one]? = some p → pl[other]? = some p → row[one]? = some x → row[other]? = some y → x ≤ y
  isl : IsLot row.length lot
  fall : falls row lot = true
  many : (lot.length : Int) = k
theorem len3 {vs : List PV} (h : vs.length = 3) : ∃ a b c, vs = [a, b, c] := by
  match vs, h with
  | [a, b, c], _ => exact ⟨a, b, c, rfl⟩
theorem pl_ints : ∀ {vs : List PV}, (∀ w ∈ vs, isPl w 0 29 = true) → (∀ w ∈ vs, isNon w = false) → ∃ l : List Int, vs = iL l ∧ ∀ e ∈ l, 0 ≤ e ∧ e ≤ 29
  | [], _, _ => ⟨[], rfl, by simp⟩
  | v :: vs, h, hn => by
    obtain ⟨l, rfl, hl⟩ := pl_ints (fun w hw => h w (List.mem_cons_of_mem _ hw)) (fun w hw => hn w (List.mem_cons_of_mem _ hw))
    have h1 := h v (by simp)
    have h2 := hn v (by simp)
    cases v with
    | int i =>
      simp only [isPl, isIn, Bool.and_eq_true, decide_eq_true_eq] at h1
      refine ⟨i :: l, rfl, fun e he => ?_⟩
      rcases List.mem_cons.mp he with rfl | he
      · exact h1
      · exact hl e he
    | non => cases h2
    | _ => cases h1
theorem inF_non : ∀ {vs : List PV}, (∀ w ∈ vs, isPl w 0 29 = true) → inF .non vs = some (vs.any isNon)
  | [], _ => rfl
  | v :: vs, h => by
    have ih := inF_non (fun w hw => h w (List.mem_cons_of_mem _ hw))
    have h1 := h v (by simp)
    simp only [inF, ih, List.any_cons]
    cases v with
    | int i => rfl
    | non => rfl
    | _ => cases h1
theorem iL_get {l : List Int} {c : Nat} {p : Int} : (iL l)[c]? = some (.int p) ↔ l[c]? = some p := by
  rw [List.getElem?_map]
  cases l[c]? with
  | none => simp
  | some x => simp
theorem shown_right {row : List Int} {k : Int} {pl lot : List Int} {v : PV} (S : Shown row v k pl lot) : placesOf row.length (iT pl) = true ∧ (∀ vs, iT pl = .tup vs → ∀ w ∈ vs, below w k = true) ∧ NoCross row (iT pl) := by
  refine ⟨?_, fun vs e w hw => ?_, fun vs e one other h1 h2 hc => ?_⟩
  · simp only [placesOf, List.length_map, S.len, decide_true, Bool.true_and, List.all_eq_true]
    intro w hw
    obtain ⟨p, hp, rfl⟩ := List.mem_map.mp hw
    have := S.rng p hp
    simp only [isPl, isIn, Bool.and_eq_true, decide_eq_true_eq]
    omega
  · cases e
    obtain ⟨p, hp, rfl⟩ := List.mem_map.mp hw
    have := S.rng p hp
    simp only [below, isNon, Bool.false_or, decide_eq_true_eq]
    omega
  · cases e
    obtain ⟨p, x, y, c1, c2, c3, c4, c5⟩ := hc
    have := S.no one other h1 h2 p x y (iL_get.mp c1) (iL_get.mp c2) c3 c4
    omega
theorem shows_s {row : List Int} {v : PV} {mh : MH} (hr : IsRow row) (hv : V3 mh v) {Q : PV → MH → Prop} (q : ∀ h b, Sub mh h → (b = true ↔ ∃ k pl lot, Shown row v k pl lot) → Q (.bl b) h) : Ok (f_shows_fewest_tracks [iT row, v] mh) Q := by
  have hlen := hr.len
  unfold f_shows_fewest_tracks
  try simp only [if_true, if_false, Bool.false_eq_true, okS_nx, ok_trB, ok_trI, ok_bind, ok_bin, ok_un, ok_k, ok_cmp, ok_cmpT, ok_chain, ok_bl, ok_nil, ok_cons, ok_call, ok_callOp, ok_isi, ok_test, ok_andT, ok_orT, ok_notT, ok_isBl, ok_andV, ok_orV, ok_notV, ok_if, okS_next, okS_seq, okS_ret, okS_expr, okS_if, okS_set, ok_run, ok_src, ok_range, ok_ok, ok_obv, ok_ob, sNext, ok_var0, ok_varS, List.map_cons, List.map_nil, List.length_cons, List.length_nil, List.replicate_succ, List.replicate_zero, List.cons_append, List.nil_append, List.getElem?_cons_zero, List.getElem?_cons_succ, List.set_cons_zero, List.set_cons_succ, Nat.reduceAdd, Nat.reduceSub, Nat.sub_self, Nat.zero_add, Nat.sub_zero]
  refine check_row_s hr fun _ h1 s1 => ?_
  obtain ⟨t, ht⟩ := hv.one.sub s1
  rw [ok_isTy (by simp) ht]
  try simp only [if_true, if_false, Bool.false_eq_true, okS_nx, ok_trB, ok_trI, ok_bind, ok_bin, ok_un, ok_k, ok_cmp, ok_cmpT, ok_chain, ok_bl, ok_nil, ok_cons, ok_call, ok_callOp, ok_isi, ok_test, ok_andT, ok_orT, ok_notT, ok_isBl, ok_andV, ok_orV, ok_notV, ok_if, okS_next, okS_seq, okS_ret, okS_expr, okS_if, okS_set, ok_run, ok_src, ok_range, ok_ok, ok_obv, ok_ob, sNext, ok_var0, ok_varS, List.map_cons, List.map_nil, List.length_cons, List.length_nil, List.replicate_succ, List.replicate_zero, List.cons_append, List.nil_append, List.getElem?_cons_zero, List.getElem?_cons_succ, List.set_cons_zero, List.set_cons_succ, Nat.reduceAdd, Nat.reduceSub, Nat.sub_self, Nat.zero_add, Nat.sub_zero]
  cases v with
  | tup vs =>
    cases ht
    obtain ⟨hz, hw⟩ := hv.two vs rfl
    simp only [show tyIs "tuple" "tuple" = true from rfl, Bool.not_true, Bool.false_eq_true, if_false]
    try simp only [if_true, if_false, Bool.false_eq_true, okS_nx, ok_trB, ok_trI, ok_bind, ok_bin, ok_un, ok_k, ok_cmp, ok_cmpT, ok_chain, ok_bl, ok_nil, ok_cons, ok_call, ok_callOp, ok_isi, ok_test, ok_andT, ok_orT, ok_notT, ok_isBl, ok_andV, ok_orV, ok_notV, ok_if, okS_next, okS_seq, okS_ret, okS_expr, okS_if, okS_set, ok_run, ok_src, ok_range, ok_ok, ok_obv, ok_ob, sNext, ok_var0, ok_varS, List.map_cons, List.map_nil, List.length_cons, List.length_nil, List.replicate_succ, List.replicate_zero, List.cons_append, List.nil_append, List.getElem?_cons_zero, List.getElem?_cons_succ, List.set_cons_zero, List.set_cons_succ, Nat.reduceAdd, Nat.reduceSub, Nat.sub_self, Nat.zero_add, Nat.sub_zero]
    refine ok_len (seq_tup _) ?_
    refine ⟨_, neD_int, ?_⟩
    by_cases h3 : vs.length = 3
    · obtain ⟨a, b, c, rfl⟩ := len3 h3
      simp only [show ((([a, b, c] : List PV).length : Nat) : Int) = 3 from rfl, decide_true, Bool.not_true, Bool.false_eq_true, if_false]
      try simp only [if_true, if_false, Bool.false_eq_true, okS_nx, ok_trB, ok_trI, ok_bind, ok_bin, ok_un, ok_k, ok_cmp, ok_cmpT, ok_chain, ok_bl, ok_nil, ok_cons, ok_call, ok_callOp, ok_isi, ok_test, ok_andT, ok_orT, ok_notT, ok_isBl, ok_andV, ok_orV, ok_notV, ok_if, okS_next, okS_seq, okS_ret, okS_expr, okS_if, okS_set, ok_run, ok_src, ok_range, ok_ok, ok_obv, ok_ob, sNext, ok_var0, ok_varS, List.map_cons, List.map_nil, List.length_cons, List.length_nil, List.replicate_succ, List.replicate_zero, List.cons_append, List.nil_append, List.getElem?_cons_zero, List.getElem?_cons_succ, List.set_cons_zero, List.set_cons_succ, Nat.reduceAdd, Nat.reduceSub, Nat.sub_self, Nat.zero_add, Nat.sub_zero]
      refine ok_ix (k := 0) (seq_tup _) rfl (fun _ z => by cases z) ?_
      obtain ⟨ta, ea⟩ := ((hw a (by simp)).1).sub s1
      refine is_integer_s ea ?_
      try simp only [if_true, if_false, Bool.false_eq_true, okS_nx, ok_trB, ok_trI, ok_bind, ok_bin, ok_un, ok_k, ok_cmp, ok_cmpT, ok_chain, ok_bl, ok_nil, ok_cons, ok_call, ok_callOp, ok_isi, ok_test, ok_andT, ok_orT, ok_notT, ok_isBl, ok_andV, ok_orV, ok_notV, ok_if, okS_next, okS_seq, okS_ret, okS_expr, okS_if, okS_set, ok_run, ok_src, ok_range, ok_ok, ok_obv, ok_ob, sNext, ok_var0, ok_varS, List.map_cons, List.map_nil, List.length_cons, List.length_nil, List.replicate_succ, List.replicate_zero, List.cons_append, List.nil_append, List.getElem?_cons_zero, List.getElem?_cons_succ, List.set_cons_zero, List.set_cons_succ, Nat.reduceAdd, Nat.reduceSub, Nat.sub_self, Nat.zero_add, Nat.sub_zero]
      cases a with
      | int k =>
        simp only [isI, Bool.not_true, Bool.false_eq_true, if_false]
        try simp only [if_true, if_false, Bool.false_eq_true, okS_nx, ok_trB, ok_trI, ok_bind, ok_bin, ok_un, ok_k, ok_cmp, ok_cmpT, ok_chain, ok_bl, ok_nil, ok_cons, ok_call, ok_callOp, ok_isi, ok_test, ok_andT, ok_orT, ok_notT, ok_isBl, ok_andV, ok_orV, ok_notV, ok_if, okS_next, okS_seq, okS_ret, okS_expr, okS_if, okS_set, ok_run, ok_src, ok_range, ok_ok, ok_obv, ok_ob, sNext, ok_var0, ok_varS, List.map_cons, List.map_nil, List.length_cons, List.length_nil, List.replicate_succ, List.replicate_zero, List.cons_append, List.nil_append, List.getElem?_cons_zero, List.getElem?_cons_succ, List.set_cons_zero, List.set_cons_succ, Nat.reduceAdd, Nat.reduceSub, Nat.sub_self, Nat.zero_add, Nat.sub_zero, okS_asg]
        refine ⟨_, rfl, ?_⟩
        simp only [List.set_cons_succ, List.set_cons_zero]
        try simp only [if_true, if_false, Bool.false_eq_true, okS_nx, ok_trB, ok_trI, ok_bind, ok_bin, ok_un, ok_k, ok_cmp, ok_cmpT, ok_chain, ok_bl, ok_nil, ok_cons, ok_call, ok_callOp, ok_isi, ok_test, ok_andT, ok_orT, ok_notT, ok_isBl, ok_andV, ok_orV, ok_notV, ok_if, okS_next, okS_seq, okS_ret, okS_expr, okS_if, okS_set, ok_run, ok_src, ok_range, ok_ok, ok_obv, ok_ob, sNext, ok_var0, ok_varS, List.map_cons, List.map_nil, List.length_cons, List.length_nil, List.replicate_succ, List.replicate_zero, List.cons_append, List.nil_append, List.getElem?_cons_zero, List.getElem?_cons_succ, List.set_cons_zero, List.set_cons_succ, Nat.reduceAdd, Nat.reduceSub, Nat.sub_self, Nat.zero_add, Nat.sub_zero]
        obtain ⟨vb, wb⟩ := hw b (by simp)
        obtain ⟨vc, wc⟩ := hw c (by simp)
        refine are_right_s (by omega) (vb.sub s1) (fun us e => ⟨(wb us e).1, fun w hwm => ((wb us e).2 w hwm).sub s1⟩) fun h2 br s2 ebr => ?_
        try simp only [if_true, if_false, Bool.false_eq_true, okS_nx, ok_trB, ok_trI, ok_bind, ok_bin, ok_un, ok_k, ok_cmp, ok_cmpT, ok_chain, ok_bl, ok_nil, ok_cons, ok_call, ok_callOp, ok_isi, ok_test, ok_andT, ok_orT, ok_notT, ok_isBl, ok_andV, ok_orV, ok_notV, ok_if, okS_next, okS_seq, okS_ret, okS_expr, okS_if, okS_set, ok_run, ok_src, ok_range, ok_ok, ok_obv, ok_ob, sNext, ok_var0, ok_varS, List.map_cons, List.map_nil, List.length_cons, List.length_nil, List.replicate_succ, List.replicate_zero, List.cons_append, List.nil_append, List.getElem?_cons_zero, List.getElem?_cons_succ, List.set_cons_zero, List.set_cons_succ, Nat.reduceAdd, Nat.reduceSub, Nat.sub_self, Nat.zero_add, Nat.sub_zero]
        cases br with
        | false =>
          simp only [Bool.not_false, if_true]
          try simp only [if_true, if_false, Bool.false_eq_true, okS_nx, ok_trB, ok_trI, ok_bind, ok_bin, ok_un, ok_k, ok_cmp, ok_cmpT, ok_chain, ok_bl, ok_nil, ok_cons, ok_call, ok_callOp, ok_isi, ok_test, ok_andT, ok_orT, ok_notT, ok_isBl, ok_andV, ok_orV, ok_notV, ok_if, okS_next, okS_seq, okS_ret, okS_expr, okS_if, okS_set, ok_run, ok_src, ok_range, ok_ok, ok_obv, ok_ob, sNext, ok_var0, ok_varS, List.map_cons, List.map_nil, List.length_cons, List.length_nil, List.replicate_succ, List.replicate_zero, List.cons_append, List.nil_append, List.getElem?_cons_zero, List.getElem?_cons_succ, List.set_cons_zero, List.set_cons_succ, Nat.reduceAdd, Nat.reduceSub, Nat.sub_self, Nat.zero_add, Nat.sub_zero]
          refine q _ _ (s1.trans s2) ⟨fun h => (Bool.false_ne_true h).elim, ?_⟩
          rintro ⟨k', pl, lot, S⟩
          have e := S.is
          cases e
          exact absurd (ebr.mpr (shown_right S)) Bool.false_ne_true
        | true =>
          simp only [Bool.not_true, Bool.false_eq_true, if_false]
          try simp only [if_true, if_false, Bool.false_eq_true, okS_nx, ok_trB, ok_trI, ok_bind, ok_bin, ok_un, ok_k, ok_cmp, ok_cmpT, ok_chain, ok_bl, ok_nil, ok_cons, ok_call, ok_callOp, ok_isi, ok_test, ok_andT, ok_orT, ok_notT, ok_isBl, ok_andV, ok_orV, ok_notV, ok_if, okS_next, okS_seq, okS_ret, okS_expr, okS_if, okS_set, ok_run, ok_src, ok_range, ok_ok, ok_obv, ok_ob, sNext, ok_var0, ok_varS, List.map_cons, List.map_nil, List.length_cons, List.length_nil, List.replicate_succ, List.replicate_zero, List.cons_append, List.nil_append, List.getElem?_cons_zero, List.getElem?_cons_succ, List.set_cons_zero, List.set_cons_succ, Nat.reduceAdd, Nat.reduceSub, Nat.sub_self, Nat.zero_add, Nat.sub_zero]
          obtain ⟨r1, r2, r3⟩ := ebr.mp rfl
          cases b with
          | tup us =>
            have hp2 : us.length = row.length ∧ ∀ w ∈ us, isPl w 0 29 = true := by
              unfold placesOf at r1
              simpa [List.all_eq_true] using r1
            refine ⟨us.any isNon, by simp only [inD, seqOf]; exact inF_non hp2.2, ?_⟩
            cases hn : us.any isNon with
            | true =>
              simp only [if_true]
              try simp only [if_true, if_false, Bool.false_eq_true, okS_nx, ok_trB, ok_trI, ok_bind, ok_bin, ok_un, ok_k, ok_cmp, ok_cmpT, ok_chain, ok_bl, ok_nil, ok_cons, ok_call, ok_callOp, ok_isi, ok_test, ok_andT, ok_orT, ok_notT, ok_isBl, ok_andV, ok_orV, ok_notV, ok_if, okS_next, okS_seq, okS_ret, okS_expr, okS_if, okS_set, ok_run, ok_src, ok_range, ok_ok, ok_obv, ok_ob, sNext, ok_var0, ok_varS, List.map_cons, List.map_nil, List.length_cons, List.length_nil, List.replicate_succ, List.replicate_zero, List.cons_append, List.nil_append, List.getElem?_cons_zero, List.getElem?_cons_succ, List.set_cons_zero, List.set_cons_succ, Nat.reduceAdd, Nat.reduceSub, Nat.sub_self, Nat.zero_add, Nat.sub_zero]
              refine q _ _ (s1.trans s2) ⟨fun h => (Bool.false_ne_true h).elim, ?_⟩
              rintro ⟨k', pl, lot, S⟩
              have e := S.is
              cases e
              obtain ⟨w, hw1, hw2⟩ := List.any_eq_true.mp hn
              obtain ⟨p, _, rfl⟩ := List.mem_map.mp hw1
              cases hw2
            | false =>
              simp only [Bool.false_eq_true, if_false]
              try simp only [if_true, if_false, Bool.false_eq_true, okS_nx, ok_trB, ok_trI, ok_bind, ok_bin, ok_un, ok_k, ok_cmp, ok_cmpT, ok_chain, ok_bl, ok_nil, ok_cons, ok_call, ok_callOp, ok_isi, ok_test, ok_andT, ok_orT, ok_notT, ok_isBl, ok_andV, ok_orV, ok_notV, ok_if, okS_next, okS_seq, okS_ret, okS_expr, okS_if, okS_set, ok_run, ok_src, ok_range, ok_ok, ok_obv, ok_ob, sNext, ok_var0, ok_varS, List.map_cons, List.map_nil, List.length_cons, List.length_nil, List.replicate_succ, List.replicate_zero, List.cons_append, List.nil_append, List.getElem?_cons_zero, List.getElem?_cons_succ, List.set_cons_zero, List.set_cons_succ, Nat.reduceAdd, Nat.reduceSub, Nat.sub_self, Nat.zero_add, Nat.sub_zero]
              have hno : ∀ w ∈ us, isNon w = false := fun w hw => by
                cases e : isNon w with
                | false => rfl
                | true =>
                  have := List.any_eq_true.mpr ⟨w, hw, e⟩
                  rw [hn] at this
                  cases this
              obtain ⟨pl, rfl, hpl⟩ := pl_ints hp2.2 hno
              refine is_lot_s (by omega) ((vc.sub s1).sub s2) (fun us e => ⟨(wc us e).1, fun w hwm => (((wc us e).2 w hwm).sub s1).sub s2⟩) fun h3' bl s3 ebl => ?_
              try simp only [if_true, if_false, Bool.false_eq_true, okS_nx, ok_trB, ok_trI, ok_bind, ok_bin, ok_un, ok_k, ok_cmp, ok_cmpT, ok_chain, ok_bl, ok_nil, ok_cons, ok_call, ok_callOp, ok_isi, ok_test, ok_andT, ok_orT, ok_notT, ok_isBl, ok_andV, ok_orV, ok_notV, ok_if, okS_next, okS_seq, okS_ret, okS_expr, okS_if, okS_set, ok_run, ok_src, ok_range, ok_ok, ok_obv, ok_ob, sNext, ok_var0, ok_varS, List.map_cons, List.map_nil, List.length_cons, List.length_nil, List.replicate_succ, List.replicate_zero, List.cons_append, List.nil_append, List.getElem?_cons_zero, List.getElem?_cons_succ, List.set_cons_zero, List.set_cons_succ, Nat.reduceAdd, Nat.reduceSub, Nat.sub_self, Nat.zero_add, Nat.sub_zero]
              cases bl with
              | false =>
                simp only [Bool.false_eq_true, if_false]
                refine q _ _ ((s1.trans s2).trans s3) ⟨fun h => (Bool.false_ne_true h).elim, ?_⟩
                rintro ⟨k', pl', lot, S⟩
                have e := S.is
                injection e with e
                injection e with e1 e
                injection e with e2 e
                injection e with e3 _
                exact absurd (ebl.mpr ⟨lot, e3, S.isl, S.fall⟩) Bool.false_ne_true
              | true =>
                obtain ⟨lot, rfl, il, fl⟩ := ebl.mp rfl
                simp only [if_true]
                try simp only [if_true, if_false, Bool.false_eq_true, okS_nx, ok_trB, ok_trI, ok_bind, ok_bin, ok_un, ok_k, ok_cmp, ok_cmpT, ok_chain, ok_bl, ok_nil, ok_cons, ok_call, ok_callOp, ok_isi, ok_test, ok_andT, ok_orT, ok_notT, ok_isBl, ok_andV, ok_orV, ok_notV, ok_if, okS_next, okS_seq, okS_ret, okS_expr, okS_if, okS_set, ok_run, ok_src, ok_range, ok_ok, ok_obv, ok_ob, sNext, ok_var0, ok_varS, List.map_cons, List.map_nil, List.length_cons, List.length_nil, List.replicate_succ, List.replicate_zero, List.cons_append, List.nil_append, List.getElem?_cons_zero, List.getElem?_cons_succ, List.set_cons_zero, List.set_cons_succ, Nat.reduceAdd, Nat.reduceSub, Nat.sub_self, Nat.zero_add, Nat.sub_zero]
                refine ok_len (seq_tup _) ?_
                refine ⟨_, eqD_int, ?_⟩
                refine q _ _ ((s1.trans s2).trans s3) ?_
                rw [List.length_map]
                constructor
                · intro h
                  have hk := of_decide_eq_true h
                  refine ⟨k, pl, lot, rfl, by simpa using hp2.1, fun p hp => ?_, fun one other h1' h2' p x y g1 g2 g3 g4 => ?_, il, fl, hk⟩
                  · have a1 := hpl p hp
                    have a2 := r2 (iL pl) rfl (.int p) (List.mem_map.mpr ⟨p, hp, rfl⟩)
                    simp only [below, isNon, Bool.false_or, decide_eq_true_eq] at a2
                    omega
                  · have := r3 (iL pl) rfl one other h1' h2'
                    refine Int.not_lt.mp fun hxy => this ⟨p, x, y, iL_get.mpr g1, iL_get.mpr g2, g3, g4, hxy⟩
                · rintro ⟨k', pl', lot', S⟩
                  have e := S.is
                  injection e with e
                  injection e with e1 e
                  injection e with e2 e
                  injection e with e3 _
                  injection e1 with e1
                  injection e3 with e3
                  have e4 : lot = lot' := (List.map_inj_right (fun a b hab => by injection hab)).mp e3
                  have := S.many
                  rw [← e4, ← e1] at this
                  exact decide_eq_true this
          | _ => cases r1
      | _ =>
        simp only [isI, Bool.not_false, if_true]
        try simp only [if_true, if_false, Bool.false_eq_true, okS_nx, ok_trB, ok_trI, ok_bind, ok_bin, ok_un, ok_k, ok_cmp, ok_cmpT, ok_chain, ok_bl, ok_nil, ok_cons, ok_call, ok_callOp, ok_isi, ok_test, ok_andT, ok_orT, ok_notT, ok_isBl, ok_andV, ok_orV, ok_notV, ok_if, okS_next, okS_seq, okS_ret, okS_expr, okS_if, okS_set, ok_run, ok_src, ok_range, ok_ok, ok_obv, ok_ob, sNext, ok_var0, ok_varS, List.map_cons, List.map_nil, List.length_cons, List.length_nil, List.replicate_succ, List.replicate_zero, List.cons_append, List.nil_append, List.getElem?_cons_zero, List.getElem?_cons_succ, List.set_cons_zero, List.set_cons_succ, Nat.reduceAdd, Nat.reduceSub, Nat.sub_self, Nat.zero_add, Nat.sub_zero]
        refine q _ _ s1 ⟨fun h => (Bool.false_ne_true h).elim, ?_⟩
        rintro ⟨k', pl, lot, S⟩
        have e := S.is
        cases e
    · simp only [show ¬ ((vs.length : Int) = 3) by omega, decide_false, Bool.not_false, if_true]
      try simp only [if_true, if_false, Bool.false_eq_true, okS_nx, ok_trB, ok_trI, ok_bind, ok_bin, ok_un, ok_k, ok_cmp, ok_cmpT, ok_chain, ok_bl, ok_nil, ok_cons, ok_call, ok_callOp, ok_isi, ok_test, ok_andT, ok_orT, ok_notT, ok_isBl, ok_andV, ok_orV, ok_notV, ok_if, okS_next, okS_seq, okS_ret, okS_expr, okS_if, okS_set, ok_run, ok_src, ok_range, ok_ok, ok_obv, ok_ob, sNext, ok_var0, ok_varS, List.map_cons, List.map_nil, List.length_cons, List.length_nil, List.replicate_succ, List.replicate_zero, List.cons_append, List.nil_append, List.getElem?_cons_zero, List.getElem?_cons_succ, List.set_cons_zero, List.set_cons_succ, Nat.reduceAdd, Nat.reduceSub, Nat.sub_self, Nat.zero_add, Nat.sub_zero]
      refine q _ _ s1 ⟨fun h => (Bool.false_ne_true h).elim, ?_⟩
      rintro ⟨k, pl, lot, S⟩
      have e := S.is
      cases e
      exact absurd rfl h3
  | _ =>
    have e : tyIs "tuple" t = false := by
      simp only [tyOf] at ht
      repeat' split at ht
      all_goals first | (cases ht; rfl) | cases ht
    simp only [e, Bool.not_false, if_true]
    try simp only [if_true, if_false, Bool.false_eq_true, okS_nx, ok_trB, ok_trI, ok_bind, ok_bin, ok_un, ok_k, ok_cmp, ok_cmpT, ok_chain, ok_bl, ok_nil, ok_cons, ok_call, ok_callOp, ok_isi, ok_test, ok_andT, ok_orT, ok_notT, ok_isBl, ok_andV, ok_orV, ok_notV, ok_if, okS_next, okS_seq, okS_ret, okS_expr, okS_if, okS_set, ok_run, ok_src, ok_range, ok_ok, ok_obv, ok_ob, sNext, ok_var0, ok_varS, List.map_cons, List.map_nil, List.length_cons, List.length_nil, List.replicate_succ, List.replicate_zero, List.cons_append, List.nil_append, List.getElem?_cons_zero, List.getElem?_cons_succ, List.set_cons_zero, List.set_cons_succ, Nat.reduceAdd, Nat.reduceSub, Nat.sub_self, Nat.zero_add, Nat.sub_zero]
    refine q _ _ s1 ⟨fun h => (Bool.false_ne_true h).elim, ?_⟩
    rintro ⟨k, pl, lot, S⟩
    have e' := S.is
    cases e'
end K10
namespace K10
open PySem PySem.Spec PyProof.Rows L2 RZ Ev
/-! ### the law's own look -/
theorem sortU_is {l : List Int} : l = sortU l ↔ l.Pairwise (· < ·) := by
  constructor
  · intro h
    rw [h]
    exact sortU_sorted l
  · intro h
    exact sortedU_one h (sortU_sorted l) fun k => (mem_sortU k l).symm
theorem law_lot_s {row : List Int} {v : PV} {mh : MH} (hr : row.length ≤ 1000) (hv : V1 mh v) (hvs : ∀ vs, v = .tup vs → vs.length ≤ 60 ∧ ∀ w ∈ vs, V1 mh w) {Q : PV → MH → Prop}
    (q : ∀ h b, Sub mh h → (b = true ↔ ∃ l : List Int, v = iT l ∧ IsLot row.length l ∧ falls row l = true) → Q (.bl b) h) : Ok (f__law_is_lot [iT row, v] mh) Q := by
  obtain ⟨t, ht⟩ := hv
  unfold f__law_is_lot
  try simp only [if_true, if_false, Bool.false_eq_true, okS_nx, ok_trB, ok_trI, ok_bind, ok_bin, ok_un, ok_k, ok_cmp, ok_cmpT, ok_chain, ok_bl, ok_nil, ok_cons, ok_call, ok_callOp, ok_isi, ok_test, ok_andT, ok_orT, ok_notT, ok_isBl, ok_andV, ok_orV, ok_notV, ok_if, okS_next, okS_seq, okS_ret, okS_expr, okS_if, okS_set, ok_run, ok_src, ok_range, ok_ok, ok_obv, ok_ob, sNext, ok_var0, ok_varS, List.map_cons, List.map_nil, List.length_cons, List.length_nil, List.replicate_succ, List.replicate_zero, List.cons_append, List.nil_append, List.getElem?_cons_zero, List.getElem?_cons_succ, List.set_cons_zero, List.set_cons_succ, Nat.reduceAdd, Nat.reduceSub, Nat.sub_self, Nat.zero_add, Nat.sub_zero]
  rw [ok_isTy (by simp) ht]
  try simp only [if_true, if_false, Bool.false_eq_true, okS_nx, ok_trB, ok_trI, ok_bind, ok_bin, ok_un, ok_k, ok_cmp, ok_cmpT, ok_chain, ok_bl, ok_nil, ok_cons, ok_call, ok_callOp, ok_isi, ok_test, ok_andT, ok_orT, ok_notT, ok_isBl, ok_andV, ok_orV, ok_notV, ok_if, okS_next, okS_seq, okS_ret, okS_expr, okS_if, okS_set, ok_run, ok_src, ok_range, ok_ok, ok_obv, ok_ob, sNext, ok_var0, ok_varS, List.map_cons, List.map_nil, List.length_cons, List.length_nil, List.replicate_succ, List.replicate_zero, List.cons_append, List.nil_append, List.getElem?_cons_zero, List.getElem?_cons_succ, List.set_cons_zero, List.set_cons_succ, Nat.reduceAdd, Nat.reduceSub, Nat.sub_self, Nat.zero_add, Nat.sub_zero]
  cases v with
  | tup vs =>
    cases ht
    obtain ⟨hz, hw⟩ := hvs vs rfl
    simp only [show tyIs "tuple" "tuple" = true from rfl, Bool.not_true, Bool.false_eq_true, if_false]
    try simp only [if_true, if_false, Bool.false_eq_true, okS_nx, ok_trB, ok_trI, ok_bind, ok_bin, ok_un, ok_k, ok_cmp, ok_cmpT, ok_chain, ok_bl, ok_nil, ok_cons, ok_call, ok_callOp, ok_isi, ok_test, ok_andT, ok_orT, ok_notT, ok_isBl, ok_andV, ok_orV, ok_notV, ok_if, okS_next, okS_seq, okS_ret, okS_expr, okS_if, okS_set, ok_run, ok_src, ok_range, ok_ok, ok_obv, ok_ob, sNext, ok_var0, ok_varS, List.map_cons, List.map_nil, List.length_cons, List.length_nil, List.replicate_succ, List.replicate_zero, List.cons_append, List.nil_append, List.getElem?_cons_zero, List.getElem?_cons_succ, List.set_cons_zero, List.set_cons_succ, Nat.reduceAdd, Nat.reduceSub, Nat.sub_self, Nat.zero_add, Nat.sub_zero]
    refine ok_allP vs id (fun w => isIn w 0 ((row.length : Int) - 1)) ?_ ?_ ?_
    · try simp only [if_true, if_false, Bool.false_eq_true, okS_nx, ok_trB, ok_trI, ok_bind, ok_bin, ok_un, ok_k, ok_cmp, ok_cmpT, ok_chain, ok_bl, ok_nil, ok_cons, ok_call, ok_callOp, ok_isi, ok_test, ok_andT, ok_orT, ok_notT, ok_isBl, ok_andV, ok_orV, ok_notV, ok_if, okS_next, okS_seq, okS_ret, okS_expr, okS_if, okS_set, ok_run, ok_src, ok_range, ok_ok, ok_obv, ok_ob, sNext, ok_var0, ok_varS, List.map_cons, List.map_nil, List.length_cons, List.length_nil, List.replicate_succ, List.replicate_zero, List.cons_append, List.nil_append, List.getElem?_cons_zero, List.getElem?_cons_succ, List.set_cons_zero, List.set_cons_succ, Nat.reduceAdd, Nat.reduceSub, Nat.sub_self, Nat.zero_add, Nat.sub_zero]
      refine ok_srcT.mpr ⟨by unfold loopFuel; omega, .refl _, fun h _ => ?_⟩
      rw [List.map_id]
      exact srcIs_vals _ _
    · intro w hwm h hs
      obtain ⟨tw, ew⟩ := (hw w hwm).sub hs
      refine ⟨_, rfl, ?_⟩
      simp only [wipeE, id]
      try simp only [if_true, if_false, Bool.false_eq_true, okS_nx, ok_trB, ok_trI, ok_bind, ok_bin, ok_un, ok_k, ok_cmp, ok_cmpT, ok_chain, ok_bl, ok_nil, ok_cons, ok_call, ok_callOp, ok_isi, ok_test, ok_andT, ok_orT, ok_notT, ok_isBl, ok_andV, ok_orV, ok_notV, ok_if, okS_next, okS_seq, okS_ret, okS_expr, okS_if, okS_set, ok_run, ok_src, ok_range, ok_ok, ok_obv, ok_ob, sNext, ok_var0, ok_varS, List.map_cons, List.map_nil, List.length_cons, List.length_nil, List.replicate_succ, List.replicate_zero, List.cons_append, List.nil_append, List.getElem?_cons_zero, List.getElem?_cons_succ, List.set_cons_zero, List.set_cons_succ, Nat.reduceAdd, Nat.reduceSub, Nat.sub_self, Nat.zero_add, Nat.sub_zero]
      refine ok_len (seq_tup _) ?_
      refine ok_subI.mpr ?_
      rw [List.length_map]
      exact law_is_int_s ew ⟨rfl, .refl _⟩
    · intro h1 s1
      try simp only [if_true, if_false, Bool.false_eq_true, okS_nx, ok_trB, ok_trI, ok_bind, ok_bin, ok_un, ok_k, ok_cmp, ok_cmpT, ok_chain, ok_bl, ok_nil, ok_cons, ok_call, ok_callOp, ok_isi, ok_test, ok_andT, ok_orT, ok_notT, ok_isBl, ok_andV, ok_orV, ok_notV, ok_if, okS_next, okS_seq, okS_ret, okS_expr, okS_if, okS_set, ok_run, ok_src, ok_range, ok_ok, ok_obv, ok_ob, sNext, ok_var0, ok_varS, List.map_cons, List.map_nil, List.length_cons, List.length_nil, List.replicate_succ, List.replicate_zero, List.cons_append, List.nil_append, List.getElem?_cons_zero, List.getElem?_cons_succ, List.set_cons_zero, List.set_cons_succ, Nat.reduceAdd, Nat.reduceSub, Nat.sub_self, Nat.zero_add, Nat.sub_zero]
      cases hb : vs.all fun w => isIn w 0 ((row.length : Int) - 1) with
      | false =>
        simp only [Bool.not_false, if_true]
        try simp only [if_true, if_false, Bool.false_eq_true, okS_nx, ok_trB, ok_trI, ok_bind, ok_bin, ok_un, ok_k, ok_cmp, ok_cmpT, ok_chain, ok_bl, ok_nil, ok_cons, ok_call, ok_callOp, ok_isi, ok_test, ok_andT, ok_orT, ok_notT, ok_isBl, ok_andV, ok_orV, ok_notV, ok_if, okS_next, okS_seq, okS_ret, okS_expr, okS_if, okS_set, ok_run, ok_src, ok_range, ok_ok, ok_obv, ok_ob, sNext, ok_var0, ok_varS, List.map_cons, List.map_nil, List.length_cons, List.length_nil, List.replicate_succ, List.replicate_zero, List.cons_append, List.nil_append, List.getElem?_cons_zero, List.getElem?_cons_succ, List.set_cons_zero, List.set_cons_succ, Nat.reduceAdd, Nat.reduceSub, Nat.sub_self, Nat.zero_add, Nat.sub_zero]
        refine q _ _ s1 ⟨fun h => (Bool.false_ne_true h).elim, ?_⟩
        rintro ⟨l, e, il, _⟩
        cases e
        have : ((iL l).all fun w => isIn w 0 ((row.length : Int) - 1)) = true := by
          rw [List.all_eq_true]
          intro w hw
          obtain ⟨x, hx, rfl⟩ := List.mem_map.mp hw
          have := il.rng x hx
          simp only [isIn, Bool.and_eq_true, decide_eq_true_eq]
          omega
        rw [hb] at this
        cases this
      | true =>
        simp only [Bool.not_true, Bool.false_eq_true, if_false]
        try simp only [if_true, if_false, Bool.false_eq_true, okS_nx, ok_trB, ok_trI, ok_bind, ok_bin, ok_un, ok_k, ok_cmp, ok_cmpT, ok_chain, ok_bl, ok_nil, ok_cons, ok_call, ok_callOp, ok_isi, ok_test, ok_andT, ok_orT, ok_notT, ok_isBl, ok_andV, ok_orV, ok_notV, ok_if, okS_next, okS_seq, okS_ret, okS_expr, okS_if, okS_set, ok_run, ok_src, ok_range, ok_ok, ok_obv, ok_ob, sNext, ok_var0, ok_varS, List.map_cons, List.map_nil, List.length_cons, List.length_nil, List.replicate_succ, List.replicate_zero, List.cons_append, List.nil_append, List.getElem?_cons_zero, List.getElem?_cons_succ, List.set_cons_zero, List.set_cons_succ, Nat.reduceAdd, Nat.reduceSub, Nat.sub_self, Nat.zero_add, Nat.sub_zero]
        obtain ⟨l, rfl, hl⟩ := all_ints hb
        have hcars : CarsOf row l := fun e he => by
          have := hl e he
          omega
        rw [List.length_map] at hz
        refine ok_listN (seq_tup _) fun n1 h2 s2 f2 l2 => ?_
        have eset : opSet [.tup (iL l)] h2 = .ok (.ref h2.length) (h2 ++ [.iset l]) := by
          simp only [opSet, intsOf_iL]
          rw [if_pos (by unfold scanBound; omega)]
        rw [eset]
        try simp only [if_true, if_false, Bool.false_eq_true, okS_nx, ok_trB, ok_trI, ok_bind, ok_bin, ok_un, ok_k, ok_cmp, ok_cmpT, ok_chain, ok_bl, ok_nil, ok_cons, ok_call, ok_callOp, ok_isi, ok_test, ok_andT, ok_orT, ok_notT, ok_isBl, ok_andV, ok_orV, ok_notV, ok_if, okS_next, okS_seq, okS_ret, okS_expr, okS_if, okS_set, ok_run, ok_src, ok_range, ok_ok, ok_obv, ok_ob, sNext, ok_var0, ok_varS, List.map_cons, List.map_nil, List.length_cons, List.length_nil, List.replicate_succ, List.replicate_zero, List.cons_append, List.nil_append, List.getElem?_cons_zero, List.getElem?_cons_succ, List.set_cons_zero, List.set_cons_succ, Nat.reduceAdd, Nat.reduceSub, Nat.sub_self, Nat.zero_add, Nat.sub_zero]
        generalize hh3 : h2 ++ [MO.iset l] = h3
        have s3 : Sub h2 h3 := by rw [← hh3]; exact .push _ _
        have l3 : h3[h2.length]? = some (.iset l) := by rw [← hh3]; exact at_push _ _
        have esort : opSorted [.ref h2.length] h3 = .ok (.ref h3.length) (h3 ++ [.lst (iL (sortU l))]) := by
          simp only [opSorted, l3]
          rw [if_pos (by omega)]
        rw [esort]
        try simp only [if_true, if_false, Bool.false_eq_true, okS_nx, ok_trB, ok_trI, ok_bind, ok_bin, ok_un, ok_k, ok_cmp, ok_cmpT, ok_chain, ok_bl, ok_nil, ok_cons, ok_call, ok_callOp, ok_isi, ok_test, ok_andT, ok_orT, ok_notT, ok_isBl, ok_andV, ok_orV, ok_notV, ok_if, okS_next, okS_seq, okS_ret, okS_expr, okS_if, okS_set, ok_run, ok_src, ok_range, ok_ok, ok_obv, ok_ob, sNext, ok_var0, ok_varS, List.map_cons, List.map_nil, List.length_cons, List.length_nil, List.replicate_succ, List.replicate_zero, List.cons_append, List.nil_append, List.getElem?_cons_zero, List.getElem?_cons_succ, List.set_cons_zero, List.set_cons_succ, Nat.reduceAdd, Nat.reduceSub, Nat.sub_self, Nat.zero_add, Nat.sub_zero]
        refine ⟨_, eqD_lst (a := l) (b := sortU l) (Sub.push _ _ _ _ (s3 _ _ l2)) (at_push _ _), ?_⟩
        have s4 : Sub mh (h3 ++ [MO.lst (iL (sortU l))]) := ((s1.trans s2).trans s3).trans (.push _ _)
        try simp only [if_true, if_false, Bool.false_eq_true, okS_nx, ok_trB, ok_trI, ok_bind, ok_bin, ok_un, ok_k, ok_cmp, ok_cmpT, ok_chain, ok_bl, ok_nil, ok_cons, ok_call, ok_callOp, ok_isi, ok_test, ok_andT, ok_orT, ok_notT, ok_isBl, ok_andV, ok_orV, ok_notV, ok_if, okS_next, okS_seq, okS_ret, okS_expr, okS_if, okS_set, ok_run, ok_src, ok_range, ok_ok, ok_obv, ok_ob, sNext, ok_var0, ok_varS, List.map_cons, List.map_nil, List.length_cons, List.length_nil, List.replicate_succ, List.replicate_zero, List.cons_append, List.nil_append, List.getElem?_cons_zero, List.getElem?_cons_succ, List.set_cons_zero, List.set_cons_succ, Nat.reduceAdd, Nat.reduceSub, Nat.sub_self, Nat.zero_add, Nat.sub_zero]
        by_cases hs : l = sortU l
        · have up := sortU_is.mp hs
          rw [decide_eq_true hs]
          simp only [if_true]
          try simp only [if_true, if_false, Bool.false_eq_true, okS_nx, ok_trB, ok_trI, ok_bind, ok_bin, ok_un, ok_k, ok_cmp, ok_cmpT, ok_chain, ok_bl, ok_nil, ok_cons, ok_call, ok_callOp, ok_isi, ok_test, ok_andT, ok_orT, ok_notT, ok_isBl, ok_andV, ok_orV, ok_notV, ok_if, okS_next, okS_seq, okS_ret, okS_expr, okS_if, okS_set, ok_run, ok_src, ok_range, ok_ok, ok_obv, ok_ob, sNext, ok_var0, ok_varS, List.map_cons, List.map_nil, List.length_cons, List.length_nil, List.replicate_succ, List.replicate_zero, List.cons_append, List.nil_append, List.getElem?_cons_zero, List.getElem?_cons_succ, List.set_cons_zero, List.set_cons_succ, Nat.reduceAdd, Nat.reduceSub, Nat.sub_self, Nat.zero_add, Nat.sub_zero]
          refine do_cross_s hcars (by omega) fun h5 s5 => ?_
          refine q _ _ (s4.trans s5) ?_
          constructor
          · exact fun f => ⟨l, rfl, ⟨up, hcars⟩, f⟩
          · rintro ⟨l', e', il, f⟩
            have : l' = l := by
              have e3 : iL l = iL l' := by injection e'
              exact ((List.map_inj_right (fun a b hab => by injection hab)).mp e3).symm
            subst this
            exact f
        · rw [decide_eq_false hs]
          simp only [Bool.false_eq_true, if_false]
          refine q _ _ s4 ⟨fun h => (Bool.false_ne_true h).elim, ?_⟩
          rintro ⟨l', e', il, f⟩
          have : l' = l := by
            have e3 : iL l = iL l' := by injection e'
            exact ((List.map_inj_right (fun a b hab => by injection hab)).mp e3).symm
          subst this
          exact absurd (sortU_is.mpr il.up) hs
  | _ =>
    have e : tyIs "tuple" t = false := by
      simp only [tyOf] at ht
      repeat' split at ht
      all_goals first | (cases ht; rfl) | cases ht
    simp only [e, Bool.not_false, if_true]
    try simp only [if_true, if_false, Bool.false_eq_true, okS_nx, ok_trB, ok_trI, ok_bind, ok_bin, ok_un, ok_k, ok_cmp, ok_cmpT, ok_chain, ok_bl, ok_nil, ok_cons, ok_call, ok_callOp, ok_isi, ok_test, ok_andT, ok_orT, ok_notT, ok_isBl, ok_andV, ok_orV, ok_notV, ok_if, okS_next, okS_seq, okS_ret, okS_expr, okS_if, okS_set, ok_run, ok_src, ok_range, ok_ok, ok_obv, ok_ob, sNext, ok_var0, ok_varS, List.map_cons, List.map_nil, List.length_cons, List.length_nil, List.replicate_succ, List.replicate_zero, List.cons_append, List.nil_append, List.getElem?_cons_zero, List.getElem?_cons_succ, List.set_cons_zero, List.set_cons_succ, Nat.reduceAdd, Nat.reduceSub, Nat.sub_self, Nat.zero_add, Nat.sub_zero]
    refine q _ _ (.refl _) ⟨fun h => (Bool.false_ne_true h).elim, ?_⟩
    rintro ⟨l, e', _⟩
    cases e'
end K10
namespace K10
open PySem PySem.Spec PyProof.Rows L2 RZ Ev
theorem ok_zipL {env : PEnv} {mh : MH} {QI : Src → MH → Prop} {m : PEnv → MH → Ev.R (List PV)} (k : Ok (m env mh) fun vs h => ∃ n k xs ys, vs = [.ref n, .ref k] ∧ h[n]? = some (.lst xs) ∧ h[k]? = some (.lst ys) ∧ QI (.zip (.lst n) (.lst k)) h) : Ok (mZip m env mh) QI := by
  unfold mZip
  rw [ok_bind]
  refine k.imp fun vs h ⟨n, k, xs, ys, e, e1, e2, q⟩ => ?_
  subst e
  have h1 : isLst h n = true := by simp only [isLst, e1]
  have h2 : isLst h k = true := by simp only [isLst, e2]
  simp only [h1, h2, Bool.and_self, if_true]
  exact q
theorem can_stand_L {row lot : List Int} {n : Nat} (hc : CarsOf row lot) (hl : lot.length ≤ 100) {mh : MH} (hn : mh[n]? = some (.lst (iL lot))) {Q : PV → MH → Prop} (q : ∀ h, Sub mh h → Q (.bl (rises row lot)) h) : Ok (f__law_can_stand [iT row, .ref n] mh) Q := by
  unfold f__law_can_stand
  try simp only [if_true, if_false, Bool.false_eq_true, okS_nx, ok_trB, ok_trI, ok_bind, ok_bin, ok_un, ok_k, ok_cmp, ok_cmpT, ok_chain, ok_bl, ok_nil, ok_cons, ok_call, ok_callOp, ok_isi, ok_test, ok_andT, ok_orT, ok_notT, ok_isBl, ok_andV, ok_orV, ok_notV, ok_if, okS_next, okS_seq, okS_ret, okS_expr, okS_if, okS_set, ok_run, ok_src, ok_range, ok_ok, ok_obv, ok_ob, sNext, ok_var0, ok_varS, List.map_cons, List.map_nil, List.length_cons, List.length_nil, List.replicate_succ, List.replicate_zero, List.cons_append, List.nil_append, List.getElem?_cons_zero, List.getElem?_cons_succ, List.set_cons_zero, List.set_cons_succ, Nat.reduceAdd, Nat.reduceSub, Nat.sub_self, Nat.zero_add, Nat.sub_zero]
  refine ok_allP (nexts lot) pairPV (fun p => decide (at0 row p.1 ≤ at0 row p.2)) ?_ ?_ ?_
  · refine ok_zipL ?_
    try simp only [if_true, if_false, Bool.false_eq_true, okS_nx, ok_trB, ok_trI, ok_bind, ok_bin, ok_un, ok_k, ok_cmp, ok_cmpT, ok_chain, ok_bl, ok_nil, ok_cons, ok_call, ok_callOp, ok_isi, ok_test, ok_andT, ok_orT, ok_notT, ok_isBl, ok_andV, ok_orV, ok_notV, ok_if, okS_next, okS_seq, okS_ret, okS_expr, okS_if, okS_set, ok_run, ok_src, ok_range, ok_ok, ok_obv, ok_ob, sNext, ok_var0, ok_varS, List.map_cons, List.map_nil, List.length_cons, List.length_nil, List.replicate_succ, List.replicate_zero, List.cons_append, List.nil_append, List.getElem?_cons_zero, List.getElem?_cons_succ, List.set_cons_zero, List.set_cons_succ, Nat.reduceAdd, Nat.reduceSub, Nat.sub_self, Nat.zero_add, Nat.sub_zero, ok_sl, ok_noPart]
    refine ok_part ?_
    try simp only [if_true, if_false, Bool.false_eq_true, okS_nx, ok_trB, ok_trI, ok_bind, ok_bin, ok_un, ok_k, ok_cmp, ok_cmpT, ok_chain, ok_bl, ok_nil, ok_cons, ok_call, ok_callOp, ok_isi, ok_test, ok_andT, ok_orT, ok_notT, ok_isBl, ok_andV, ok_orV, ok_notV, ok_if, okS_next, okS_seq, okS_ret, okS_expr, okS_if, okS_set, ok_run, ok_src, ok_range, ok_ok, ok_obv, ok_ob, sNext, ok_var0, ok_varS, List.map_cons, List.map_nil, List.length_cons, List.length_nil, List.replicate_succ, List.replicate_zero, List.cons_append, List.nil_append, List.getElem?_cons_zero, List.getElem?_cons_succ, List.set_cons_zero, List.set_cons_succ, Nat.reduceAdd, Nat.reduceSub, Nat.sub_self, Nat.zero_add, Nat.sub_zero]
    refine ⟨_, rfl, ok_slN hn fun k h2 s2 f2 l2 => ?_⟩
    rw [show (1 : Int) = ((1 : Nat) : Int) from rfl, cut_from, ← List.map_drop, List.drop_one] at l2
    refine ⟨n, k, _, _, rfl, s2 _ _ hn, l2, by unfold nexts loopFuel; rw [List.length_zip]; omega, s2, fun h hs => ?_⟩
    have e : Ev.pairsOf (iL lot) (iL lot.tail) = (nexts lot).map pairPV := pairs_iL _ _
    rw [← e]
    exact (srcIs_lst (hs _ _ (s2 _ _ hn))).zip (srcIs_lst (hs _ _ l2))
  · intro p hp h hs
    obtain ⟨m1, m2⟩ := nexts_mem hp
    obtain ⟨k1, e1, r1⟩ := row_at (hc _ m1)
    obtain ⟨k2, e2, r2⟩ := row_at (hc _ m2)
    refine ⟨_, rfl, ?_⟩
    simp only [wipeE]
    try simp only [if_true, if_false, Bool.false_eq_true, okS_nx, ok_trB, ok_trI, ok_bind, ok_bin, ok_un, ok_k, ok_cmp, ok_cmpT, ok_chain, ok_bl, ok_nil, ok_cons, ok_call, ok_callOp, ok_isi, ok_test, ok_andT, ok_orT, ok_notT, ok_isBl, ok_andV, ok_orV, ok_notV, ok_if, okS_next, okS_seq, okS_ret, okS_expr, okS_if, okS_set, ok_run, ok_src, ok_range, ok_ok, ok_obv, ok_ob, sNext, ok_var0, ok_varS, List.map_cons, List.map_nil, List.length_cons, List.length_nil, List.replicate_succ, List.replicate_zero, List.cons_append, List.nil_append, List.getElem?_cons_zero, List.getElem?_cons_succ, List.set_cons_zero, List.set_cons_succ, Nat.reduceAdd, Nat.reduceSub, Nat.sub_self, Nat.zero_add, Nat.sub_zero]
    rw [e1, e2]
    rw [e1] at r1
    rw [e2] at r2
    refine ok_ix (k := k1) (seq_tup _) r1 (fun _ z => by cases z) ?_
    refine ok_ix (k := k2) (seq_tup _) r2 (fun _ z => by cases z) ?_
    refine ⟨_, rfl, ?_, .refl _⟩
    rfl
  · exact fun h hs => q h hs
/-- the cars on a track -/
def isAt (vs : List PV) (t : Int) (c : Nat) : Bool := match vs[c]? with
  | some (.int i) => decide (i = t)
  | _ => false
def onTrack (vs : List PV) (n : Nat) (t : Int) : List Int := ((List.range n).filter (isAt vs t)).map fun (c : Nat) => (c : Int)
theorem onTrack_cars {row : List Int} {vs : List PV} {t : Int} : CarsOf row (onTrack vs row.length t) ∧ (onTrack vs row.length t).length ≤ row.length := by
  refine ⟨fun e he => ?_, ?_⟩
  · obtain ⟨c, hc, rfl⟩ := List.mem_map.mp he
    have := List.mem_range.mp (List.mem_filter.mp hc).1
    omega
  · unfold onTrack
    rw [List.length_map]
    have := List.length_filter_le (isAt vs t) (List.range row.length)
    rwa [List.length_range] at this
end K10
namespace K10
open PySem PySem.Spec PyProof.Rows L2 RZ Ev
def PlacesL (row : List Int) (v : PV) (k : Int) : Prop := ∃ vs, v = .tup vs ∧ vs.length = row.length ∧ (∀ w ∈ vs, isPl w 0 (k - 1) = true) ∧ ∀ t : Nat, (t : Int) < k → rises row (onTrack vs row.length t) = true
theorem eqD_at {vs : List PV} {c : Nat} {w : PV} {t lo hi : Int} {h : MH} (hc : vs[c]? = some w) (hw : isPl w lo hi = true) : eqD w (.int t) h = some (isAt vs t c) := by
  unfold isAt
  rw [hc]
  cases w with
  | non => rfl
  | int i => exact eqD_int
  | _ => cases hw
theorem law_places_s {row : List Int} {v : PV} {k : Int} {mh : MH} (hk : 0 ≤ k ∧ k ≤ 30) (hr : row.length ≤ 60) (hv : V1 mh v) (hvs : ∀ vs, v = .tup vs → vs.length ≤ 1000 ∧ ∀ w ∈ vs, V1 mh w) {Q : PV → MH → Prop}
    (q : ∀ h b, Sub mh h → (b = true ↔ PlacesL row v k) → Q (.bl b) h) : Ok (f__law_are_places [iT row, v, .int k] mh) Q := by
  obtain ⟨t, ht⟩ := hv
  unfold f__law_are_places
  try simp only [if_true, if_false, Bool.false_eq_true, okS_nx, ok_trB, ok_trI, ok_bind, ok_bin, ok_un, ok_k, ok_cmp, ok_cmpT, ok_chain, ok_bl, ok_nil, ok_cons, ok_call, ok_callOp, ok_isi, ok_test, ok_andT, ok_orT, ok_notT, ok_isBl, ok_andV, ok_orV, ok_notV, ok_if, okS_next, okS_seq, okS_ret, okS_expr, okS_if, okS_set, ok_run, ok_src, ok_range, ok_ok, ok_obv, ok_ob, sNext, ok_var0, ok_varS, List.map_cons, List.map_nil, List.length_cons, List.length_nil, List.replicate_succ, List.replicate_zero, List.cons_append, List.nil_append, List.getElem?_cons_zero, List.getElem?_cons_succ, List.set_cons_zero, List.set_cons_succ, Nat.reduceAdd, Nat.reduceSub, Nat.sub_self, Nat.zero_add, Nat.sub_zero]
  rw [ok_isTy (by simp) ht]
  try simp only [if_true, if_false, Bool.false_eq_true, okS_nx, ok_trB, ok_trI, ok_bind, ok_bin, ok_un, ok_k, ok_cmp, ok_cmpT, ok_chain, ok_bl, ok_nil, ok_cons, ok_call, ok_callOp, ok_isi, ok_test, ok_andT, ok_orT, ok_notT, ok_isBl, ok_andV, ok_orV, ok_notV, ok_if, okS_next, okS_seq, okS_ret, okS_expr, okS_if, okS_set, ok_run, ok_src, ok_range, ok_ok, ok_obv, ok_ob, sNext, ok_var0, ok_varS, List.map_cons, List.map_nil, List.length_cons, List.length_nil, List.replicate_succ, List.replicate_zero, List.cons_append, List.nil_append, List.getElem?_cons_zero, List.getElem?_cons_succ, List.set_cons_zero, List.set_cons_succ, Nat.reduceAdd, Nat.reduceSub, Nat.sub_self, Nat.zero_add, Nat.sub_zero]
  cases v with
  | tup vs =>
    cases ht
    obtain ⟨hz, hw⟩ := hvs vs rfl
    simp only [show tyIs "tuple" "tuple" = true from rfl, Bool.not_true, Bool.false_eq_true, if_false]
    try simp only [if_true, if_false, Bool.false_eq_true, okS_nx, ok_trB, ok_trI, ok_bind, ok_bin, ok_un, ok_k, ok_cmp, ok_cmpT, ok_chain, ok_bl, ok_nil, ok_cons, ok_call, ok_callOp, ok_isi, ok_test, ok_andT, ok_orT, ok_notT, ok_isBl, ok_andV, ok_orV, ok_notV, ok_if, okS_next, okS_seq, okS_ret, okS_expr, okS_if, okS_set, ok_run, ok_src, ok_range, ok_ok, ok_obv, ok_ob, sNext, ok_var0, ok_varS, List.map_cons, List.map_nil, List.length_cons, List.length_nil, List.replicate_succ, List.replicate_zero, List.cons_append, List.nil_append, List.getElem?_cons_zero, List.getElem?_cons_succ, List.set_cons_zero, List.set_cons_succ, Nat.reduceAdd, Nat.reduceSub, Nat.sub_self, Nat.zero_add, Nat.sub_zero]
    refine ok_len (seq_tup _) ?_
    refine ok_len (seq_tup _) ?_
    refine ⟨_, neD_int, ?_⟩
    rw [List.length_map]
    by_cases hl : vs.length = row.length
    · simp only [hl, decide_true, Bool.not_true, Bool.false_eq_true, if_false]
      try simp only [if_true, if_false, Bool.false_eq_true, okS_nx, ok_trB, ok_trI, ok_bind, ok_bin, ok_un, ok_k, ok_cmp, ok_cmpT, ok_chain, ok_bl, ok_nil, ok_cons, ok_call, ok_callOp, ok_isi, ok_test, ok_andT, ok_orT, ok_notT, ok_isBl, ok_andV, ok_orV, ok_notV, ok_if, okS_next, okS_seq, okS_ret, okS_expr, okS_if, okS_set, ok_run, ok_src, ok_range, ok_ok, ok_obv, ok_ob, sNext, ok_var0, ok_varS, List.map_cons, List.map_nil, List.length_cons, List.length_nil, List.replicate_succ, List.replicate_zero, List.cons_append, List.nil_append, List.getElem?_cons_zero, List.getElem?_cons_succ, List.set_cons_zero, List.set_cons_succ, Nat.reduceAdd, Nat.reduceSub, Nat.sub_self, Nat.zero_add, Nat.sub_zero]
      refine ok_allP vs id (fun w => isPl w 0 (k - 1)) ?_ ?_ ?_
      · try simp only [if_true, if_false, Bool.false_eq_true, okS_nx, ok_trB, ok_trI, ok_bind, ok_bin, ok_un, ok_k, ok_cmp, ok_cmpT, ok_chain, ok_bl, ok_nil, ok_cons, ok_call, ok_callOp, ok_isi, ok_test, ok_andT, ok_orT, ok_notT, ok_isBl, ok_andV, ok_orV, ok_notV, ok_if, okS_next, okS_seq, okS_ret, okS_expr, okS_if, okS_set, ok_run, ok_src, ok_range, ok_ok, ok_obv, ok_ob, sNext, ok_var0, ok_varS, List.map_cons, List.map_nil, List.length_cons, List.length_nil, List.replicate_succ, List.replicate_zero, List.cons_append, List.nil_append, List.getElem?_cons_zero, List.getElem?_cons_succ, List.set_cons_zero, List.set_cons_succ, Nat.reduceAdd, Nat.reduceSub, Nat.sub_self, Nat.zero_add, Nat.sub_zero]
        refine ok_srcT.mpr ⟨by unfold loopFuel; omega, .refl _, fun h _ => ?_⟩
        rw [List.map_id]
        exact srcIs_vals _ _
      · intro w hwm h hs
        obtain ⟨tw, ew⟩ := (hw w hwm).sub hs
        refine ⟨_, rfl, ?_⟩
        simp only [wipeE, id]
        try simp only [if_true, if_false, Bool.false_eq_true, okS_nx, ok_trB, ok_trI, ok_bind, ok_bin, ok_un, ok_k, ok_cmp, ok_cmpT, ok_chain, ok_bl, ok_nil, ok_cons, ok_call, ok_callOp, ok_isi, ok_test, ok_andT, ok_orT, ok_notT, ok_isBl, ok_andV, ok_orV, ok_notV, ok_if, okS_next, okS_seq, okS_ret, okS_expr, okS_if, okS_set, ok_run, ok_src, ok_range, ok_ok, ok_obv, ok_ob, sNext, ok_var0, ok_varS, List.map_cons, List.map_nil, List.length_cons, List.length_nil, List.replicate_succ, List.replicate_zero, List.cons_append, List.nil_append, List.getElem?_cons_zero, List.getElem?_cons_succ, List.set_cons_zero, List.set_cons_succ, Nat.reduceAdd, Nat.reduceSub, Nat.sub_self, Nat.zero_add, Nat.sub_zero, isD_non]
        refine ⟨_, rfl, ?_⟩
        try simp only [if_true, if_false, Bool.false_eq_true, okS_nx, ok_trB, ok_trI, ok_bind, ok_bin, ok_un, ok_k, ok_cmp, ok_cmpT, ok_chain, ok_bl, ok_nil, ok_cons, ok_call, ok_callOp, ok_isi, ok_test, ok_andT, ok_orT, ok_notT, ok_isBl, ok_andV, ok_orV, ok_notV, ok_if, okS_next, okS_seq, okS_ret, okS_expr, okS_if, okS_set, ok_run, ok_src, ok_range, ok_ok, ok_obv, ok_ob, sNext, ok_var0, ok_varS, List.map_cons, List.map_nil, List.length_cons, List.length_nil, List.replicate_succ, List.replicate_zero, List.cons_append, List.nil_append, List.getElem?_cons_zero, List.getElem?_cons_succ, List.set_cons_zero, List.set_cons_succ, Nat.reduceAdd, Nat.reduceSub, Nat.sub_self, Nat.zero_add, Nat.sub_zero]
        rw [isPl_or]
        cases hn : isNon w with
        | true =>
          simp only [if_true, Bool.true_or]
          exact ⟨rfl, .refl _⟩
        | false =>
          simp only [Bool.false_eq_true, if_false, Bool.false_or]
          try simp only [if_true, if_false, Bool.false_eq_true, okS_nx, ok_trB, ok_trI, ok_bind, ok_bin, ok_un, ok_k, ok_cmp, ok_cmpT, ok_chain, ok_bl, ok_nil, ok_cons, ok_call, ok_callOp, ok_isi, ok_test, ok_andT, ok_orT, ok_notT, ok_isBl, ok_andV, ok_orV, ok_notV, ok_if, okS_next, okS_seq, okS_ret, okS_expr, okS_if, okS_set, ok_run, ok_src, ok_range, ok_ok, ok_obv, ok_ob, sNext, ok_var0, ok_varS, List.map_cons, List.map_nil, List.length_cons, List.length_nil, List.replicate_succ, List.replicate_zero, List.cons_append, List.nil_append, List.getElem?_cons_zero, List.getElem?_cons_succ, List.set_cons_zero, List.set_cons_succ, Nat.reduceAdd, Nat.reduceSub, Nat.sub_self, Nat.zero_add, Nat.sub_zero]
          refine ok_subI.mpr ?_
          exact law_is_int_s ew ⟨rfl, .refl _⟩
      · intro h1 s1
        try simp only [if_true, if_false, Bool.false_eq_true, okS_nx, ok_trB, ok_trI, ok_bind, ok_bin, ok_un, ok_k, ok_cmp, ok_cmpT, ok_chain, ok_bl, ok_nil, ok_cons, ok_call, ok_callOp, ok_isi, ok_test, ok_andT, ok_orT, ok_notT, ok_isBl, ok_andV, ok_orV, ok_notV, ok_if, okS_next, okS_seq, okS_ret, okS_expr, okS_if, okS_set, ok_run, ok_src, ok_range, ok_ok, ok_obv, ok_ob, sNext, ok_var0, ok_varS, List.map_cons, List.map_nil, List.length_cons, List.length_nil, List.replicate_succ, List.replicate_zero, List.cons_append, List.nil_append, List.getElem?_cons_zero, List.getElem?_cons_succ, List.set_cons_zero, List.set_cons_succ, Nat.reduceAdd, Nat.reduceSub, Nat.sub_self, Nat.zero_add, Nat.sub_zero]
        cases hb : vs.all fun w => isPl w 0 (k - 1) with
        | false =>
          simp only [Bool.not_false, if_true]
          try simp only [if_true, if_false, Bool.false_eq_true, okS_nx, ok_trB, ok_trI, ok_bind, ok_bin, ok_un, ok_k, ok_cmp, ok_cmpT, ok_chain, ok_bl, ok_nil, ok_cons, ok_call, ok_callOp, ok_isi, ok_test, ok_andT, ok_orT, ok_notT, ok_isBl, ok_andV, ok_orV, ok_notV, ok_if, okS_next, okS_seq, okS_ret, okS_expr, okS_if, okS_set, ok_run, ok_src, ok_range, ok_ok, ok_obv, ok_ob, sNext, ok_var0, ok_varS, List.map_cons, List.map_nil, List.length_cons, List.length_nil, List.replicate_succ, List.replicate_zero, List.cons_append, List.nil_append, List.getElem?_cons_zero, List.getElem?_cons_succ, List.set_cons_zero, List.set_cons_succ, Nat.reduceAdd, Nat.reduceSub, Nat.sub_self, Nat.zero_add, Nat.sub_zero]
          refine q _ _ s1 ⟨fun h => (Bool.false_ne_true h).elim, ?_⟩
          rintro ⟨us, e, _, h2, _⟩
          cases e
          rw [List.all_eq_true.mpr h2] at hb
          cases hb
        | true =>
          simp only [Bool.not_true, Bool.false_eq_true, if_false]
          try simp only [if_true, if_false, Bool.false_eq_true, okS_nx, ok_trB, ok_trI, ok_bind, ok_bin, ok_un, ok_k, ok_cmp, ok_cmpT, ok_chain, ok_bl, ok_nil, ok_cons, ok_call, ok_callOp, ok_isi, ok_test, ok_andT, ok_orT, ok_notT, ok_isBl, ok_andV, ok_orV, ok_notV, ok_if, okS_next, okS_seq, okS_ret, okS_expr, okS_if, okS_set, ok_run, ok_src, ok_range, ok_ok, ok_obv, ok_ob, sNext, ok_var0, ok_varS, List.map_cons, List.map_nil, List.length_cons, List.length_nil, List.replicate_succ, List.replicate_zero, List.cons_append, List.nil_append, List.getElem?_cons_zero, List.getElem?_cons_succ, List.set_cons_zero, List.set_cons_succ, Nat.reduceAdd, Nat.reduceSub, Nat.sub_self, Nat.zero_add, Nat.sub_zero]
          have hall := List.all_eq_true.mp hb
          obtain ⟨kn, rfl⟩ := Int.eq_ofNat_of_zero_le hk.1
          refine ok_allP (List.range kn) (fun (t : Nat) => PV.int (t : Nat)) (fun t => rises row (onTrack vs row.length t)) ?_ ?_ ?_
          · try simp only [if_true, if_false, Bool.false_eq_true, okS_nx, ok_trB, ok_trI, ok_bind, ok_bin, ok_un, ok_k, ok_cmp, ok_cmpT, ok_chain, ok_bl, ok_nil, ok_cons, ok_call, ok_callOp, ok_isi, ok_test, ok_andT, ok_orT, ok_notT, ok_isBl, ok_andV, ok_orV, ok_notV, ok_if, okS_next, okS_seq, okS_ret, okS_expr, okS_if, okS_set, ok_run, ok_src, ok_range, ok_ok, ok_obv, ok_ob, sNext, ok_var0, ok_varS, List.map_cons, List.map_nil, List.length_cons, List.length_nil, List.replicate_succ, List.replicate_zero, List.cons_append, List.nil_append, List.getElem?_cons_zero, List.getElem?_cons_succ, List.set_cons_zero, List.set_cons_succ, Nat.reduceAdd, Nat.reduceSub, Nat.sub_self, Nat.zero_add, Nat.sub_zero]
            refine ⟨_, range1 (by omega), by simp; unfold loopFuel; omega, .refl _, fun h _ => srcIs_vals _ _⟩
          · intro t ht h hs
            refine ⟨_, rfl, ?_⟩
            simp only [wipeE]
            try simp only [if_true, if_false, Bool.false_eq_true, okS_nx, ok_trB, ok_trI, ok_bind, ok_bin, ok_un, ok_k, ok_cmp, ok_cmpT, ok_chain, ok_bl, ok_nil, ok_cons, ok_call, ok_callOp, ok_isi, ok_test, ok_andT, ok_orT, ok_notT, ok_isBl, ok_andV, ok_orV, ok_notV, ok_if, okS_next, okS_seq, okS_ret, okS_expr, okS_if, okS_set, ok_run, ok_src, ok_range, ok_ok, ok_obv, ok_ob, sNext, ok_var0, ok_varS, List.map_cons, List.map_nil, List.length_cons, List.length_nil, List.replicate_succ, List.replicate_zero, List.cons_append, List.nil_append, List.getElem?_cons_zero, List.getElem?_cons_succ, List.set_cons_zero, List.set_cons_succ, Nat.reduceAdd, Nat.reduceSub, Nat.sub_self, Nat.zero_add, Nat.sub_zero]
            refine ok_compP (List.range row.length) (fun (c : Nat) => PV.int (c : Nat)) (isAt vs t) (fun (c : Nat) => PV.int (c : Nat)) ?_ ?_ ?_
            · try simp only [if_true, if_false, Bool.false_eq_true, okS_nx, ok_trB, ok_trI, ok_bind, ok_bin, ok_un, ok_k, ok_cmp, ok_cmpT, ok_chain, ok_bl, ok_nil, ok_cons, ok_call, ok_callOp, ok_isi, ok_test, ok_andT, ok_orT, ok_notT, ok_isBl, ok_andV, ok_orV, ok_notV, ok_if, okS_next, okS_seq, okS_ret, okS_expr, okS_if, okS_set, ok_run, ok_src, ok_range, ok_ok, ok_obv, ok_ob, sNext, ok_var0, ok_varS, List.map_cons, List.map_nil, List.length_cons, List.length_nil, List.replicate_succ, List.replicate_zero, List.cons_append, List.nil_append, List.getElem?_cons_zero, List.getElem?_cons_succ, List.set_cons_zero, List.set_cons_succ, Nat.reduceAdd, Nat.reduceSub, Nat.sub_self, Nat.zero_add, Nat.sub_zero]
              refine ok_len (seq_tup _) ?_
              rw [List.length_map]
              refine ⟨_, range1 (by omega), by simp; unfold loopFuel; omega, .refl _, fun h _ => srcIs_vals _ _⟩
            · intro c hc h2 s2
              have hc2 := List.mem_range.mp hc
              have hvc : vs[c]? = some (vs[c]'(by omega)) := List.getElem?_eq_getElem (by omega)
              refine ⟨_, rfl, ?_⟩
              simp only [wipeE]
              try simp only [if_true, if_false, Bool.false_eq_true, okS_nx, ok_trB, ok_trI, ok_bind, ok_bin, ok_un, ok_k, ok_cmp, ok_cmpT, ok_chain, ok_bl, ok_nil, ok_cons, ok_call, ok_callOp, ok_isi, ok_test, ok_andT, ok_orT, ok_notT, ok_isBl, ok_andV, ok_orV, ok_notV, ok_if, okS_next, okS_seq, okS_ret, okS_expr, okS_if, okS_set, ok_run, ok_src, ok_range, ok_ok, ok_obv, ok_ob, sNext, ok_var0, ok_varS, List.map_cons, List.map_nil, List.length_cons, List.length_nil, List.replicate_succ, List.replicate_zero, List.cons_append, List.nil_append, List.getElem?_cons_zero, List.getElem?_cons_succ, List.set_cons_zero, List.set_cons_succ, Nat.reduceAdd, Nat.reduceSub, Nat.sub_self, Nat.zero_add, Nat.sub_zero]
              refine ok_ix (k := c) (seq_tup _) hvc (fun _ z => by cases z) ?_
              refine ⟨_, eqD_at hvc (hall _ (List.getElem_mem _)), rfl, .refl _, fun _ => ⟨trivial, .refl _⟩⟩
            · intro n h2 s2 hn hl2
              obtain ⟨c1, c2⟩ := onTrack_cars (row := row) (vs := vs) (t := t)
              have e : ((List.range row.length).filter (isAt vs t)).map (fun (c : Nat) => PV.int (c : Nat)) = iL (onTrack vs row.length t) := by
                unfold onTrack
                exact (List.map_map (f := fun (c : Nat) => (c : Int)) (g := PV.int)).symm
              rw [e] at hl2
              exact can_stand_L c1 (by omega) hl2 fun h3 s3 => ⟨rfl, s2.trans s3⟩
          · intro h2 s2
            refine q _ _ (s1.trans s2) ?_
            rw [List.all_eq_true]
            constructor
            · intro hh
              exact ⟨vs, rfl, hl, hall, fun t ht => hh t (List.mem_range.mpr (by omega))⟩
            · rintro ⟨us, e, _, _, hh⟩ t ht
              cases e
              exact hh t (by have := List.mem_range.mp ht; omega)
    · simp only [show ¬ ((vs.length : Int) = (row.length : Int)) by omega, decide_false, Bool.not_false, if_true]
      try simp only [if_true, if_false, Bool.false_eq_true, okS_nx, ok_trB, ok_trI, ok_bind, ok_bin, ok_un, ok_k, ok_cmp, ok_cmpT, ok_chain, ok_bl, ok_nil, ok_cons, ok_call, ok_callOp, ok_isi, ok_test, ok_andT, ok_orT, ok_notT, ok_isBl, ok_andV, ok_orV, ok_notV, ok_if, okS_next, okS_seq, okS_ret, okS_expr, okS_if, okS_set, ok_run, ok_src, ok_range, ok_ok, ok_obv, ok_ob, sNext, ok_var0, ok_varS, List.map_cons, List.map_nil, List.length_cons, List.length_nil, List.replicate_succ, List.replicate_zero, List.cons_append, List.nil_append, List.getElem?_cons_zero, List.getElem?_cons_succ, List.set_cons_zero, List.set_cons_succ, Nat.reduceAdd, Nat.reduceSub, Nat.sub_self, Nat.zero_add, Nat.sub_zero]
      refine q _ _ (.refl _) ⟨fun h => (Bool.false_ne_true h).elim, ?_⟩
      rintro ⟨us, e, h2, _⟩
      cases e
      exact absurd h2 hl
  | _ =>
    have e : tyIs "tuple" t = false := by
      simp only [tyOf] at ht
      repeat' split at ht
      all_goals first | (cases ht; rfl) | cases ht
    simp only [e, Bool.not_false, if_true]
    try simp only [if_true, if_false, Bool.false_eq_true, okS_nx, ok_trB, ok_trI, ok_bind, ok_bin, ok_un, ok_k, ok_cmp, ok_cmpT, ok_chain, ok_bl, ok_nil, ok_cons, ok_call, ok_callOp, ok_isi, ok_test, ok_andT, ok_orT, ok_notT, ok_isBl, ok_andV, ok_orV, ok_notV, ok_if, okS_next, okS_seq, okS_ret, okS_expr, okS_if, okS_set, ok_run, ok_src, ok_range, ok_ok, ok_obv, ok_ob, sNext, ok_var0, ok_varS, List.map_cons, List.map_nil, List.length_cons, List.length_nil, List.replicate_succ, List.replicate_zero, List.cons_append, List.nil_append, List.getElem?_cons_zero, List.getElem?_cons_succ, List.set_cons_zero, List.set_cons_succ, Nat.reduceAdd, Nat.reduceSub, Nat.sub_self, Nat.zero_add, Nat.sub_zero]
    refine q _ _ (.refl _) ⟨fun h => (Bool.false_ne_true h).elim, ?_⟩
    rintro ⟨us, e', _⟩
    cases e'
end K10
namespace K10
open PySem PySem.Spec PyProof.Rows L2 RZ Ev
/-! ### the law's is_shown *)-/
theorem rises_pair {row : List Int} : ∀ {l : List Int}, rises row l = true → l.Pairwise fun a b => at0 row a ≤ at0 row b
  | [], _ => .nil
  | [a], _ => by simp
  | a :: b :: l, h => by
    have h' : decide (at0 row a ≤ at0 row b) = true ∧ rises row (b :: l) = true := by
      unfold rises nexts at h ⊢
      simpa only [List.tail_cons, List.zip_cons_cons, List.all_cons, Bool.and_eq_true] using h
    have ih := rises_pair h'.2
    have hab := of_decide_eq_true h'.1
    refine List.pairwise_cons.mpr ⟨fun c hc => ?_, ih⟩
    rcases List.mem_cons.mp hc with rfl | hc
    · exact hab
    · have := (List.pairwise_cons.mp ih).1 c hc
      omega
theorem pair_rises {row : List Int} : ∀ {l : List Int}, (l.Pairwise fun a b => at0 row a ≤ at0 row b) → rises row l = true
  | [], _ => rfl
  | [a], _ => rfl
  | a :: b :: l, h => by
    obtain ⟨h1, h2⟩ := List.pairwise_cons.mp h
    have ih := pair_rises h2
    unfold rises nexts at ih ⊢
    simp only [List.tail_cons, List.zip_cons_cons, List.all_cons, Bool.and_eq_true]
    exact ⟨decide_eq_true (h1 b (by simp)), ih⟩
theorem pw_mem {α : Type} {P : α → α → Prop} : ∀ {l : List α}, l.Pairwise P → ∀ {a b : α}, a ∈ l → b ∈ l → a = b ∨ P a b ∨ P b a
  | [], _, _, _, h, _ => by cases h
  | x :: l, h, a, b, ha, hb => by
    obtain ⟨h1, h2⟩ := List.pairwise_cons.mp h
    rcases List.mem_cons.mp ha with ea | ha2
    · rcases List.mem_cons.mp hb with eb | hb2
      · exact .inl (ea.trans eb.symm)
      · exact .inr (.inl (ea ▸ h1 b hb2))
    · rcases List.mem_cons.mp hb with eb | hb2
      · exact .inr (.inr (eb ▸ h1 a ha2))
      · exact pw_mem h2 ha2 hb2
theorem isAt_iff {l : List Int} {t : Int} {c : Nat} : isAt (iL l) t c = true ↔ l[c]? = some t := by
  unfold isAt
  rw [List.getElem?_map]
  cases l[c]? with
  | none => simp
  | some x => simp
theorem onTrack_mem {l : List Int} {n : Nat} {t e : Int} : e ∈ onTrack (iL l) n t ↔ ∃ c : Nat, e = c ∧ c < n ∧ l[c]? = some t := by
  unfold onTrack
  simp only [List.mem_map, List.mem_filter, List.mem_range, isAt_iff]
  constructor
  · rintro ⟨c, ⟨h1, h2⟩, rfl⟩
    exact ⟨c, rfl, h1, h2⟩
  · rintro ⟨c, rfl, h1, h2⟩
    exact ⟨c, ⟨h1, h2⟩, rfl⟩
theorem onTrack_up {vs : List PV} {n : Nat} {t : Int} : (onTrack vs n t).Pairwise (· < ·) := by
  unfold onTrack
  rw [List.pairwise_map]
  refine (List.Pairwise.filter _ List.pairwise_lt_range).imp fun h => ?_
  omega
theorem at_some {row : List Int} {c : Nat} {x : Int} (h : row[c]? = some x) : at0 row c = x := by
  unfold at0
  rw [Int.toNat_natCast, List.getD, h]
  rfl
/-- no two on one track cross: just if each track's cars can stand -/
theorem tracks_stand {row pl : List Int} {k : Int} (hl : pl.length = row.length) (hr : ∀ p ∈ pl, 0 ≤ p ∧ p < k) :
    (∀ t : Nat, (t : Int) < k → rises row (onTrack (iL pl) row.length t) = true) ↔ ∀ one other : Nat, one < other → other < row.length → ∀ p x y : Int, pl[one]? = some p → pl[other]? = some p → row[one]? = some x → row[other]? = some y → x ≤ y := by
  constructor
  · intro h one other h1 h2 p x y e1 e2 e3 e4
    have hp := hr p (List.mem_of_getElem? e1)
    obtain ⟨t, rfl⟩ := Int.eq_ofNat_of_zero_le hp.1
    have pw := rises_pair (h t hp.2)
    have both := (onTrack_up (vs := iL pl) (n := row.length) (t := t)).and pw
    rcases pw_mem both (onTrack_mem.mpr ⟨one, rfl, by omega, e1⟩) (onTrack_mem.mpr ⟨other, rfl, h2, e2⟩) with q | ⟨_, q⟩ | ⟨q, _⟩
    · omega
    · rw [at_some e3, at_some e4] at q
      exact q
    · omega
  · intro h t ht
    refine pair_rises ((onTrack_up (vs := iL pl) (n := row.length) (t := t)).imp_of_mem fun {a b} ha hb hab => ?_)
    obtain ⟨c, rfl, hc, ec⟩ := onTrack_mem.mp ha
    obtain ⟨d, rfl, hd, ed⟩ := onTrack_mem.mp hb
    exact h c d (by omega) hd t _ _ ec ed (nth_at hc) (nth_at hd)
theorem IsLot.few {n : Nat} {l : List Int} (h : IsLot n l) : l.length ≤ n := by
  have := few_unlike n (l.map Int.toNat) ?_ ?_
  · rwa [List.length_map] at this
  · rw [List.nodup_iff_pairwise_ne, List.pairwise_map]
    refine h.up.imp_of_mem fun {a b} ha hb hab e => ?_
    have h1 := h.rng a ha
    have h2 := h.rng b hb
    omega
  · intro x hx
    obtain ⟨e, he, rfl⟩ := List.mem_map.mp hx
    have := h.rng e he
    omega
theorem isPl_ints {vs : List PV} {k : Int} (h : ∀ w ∈ vs, isPl w 0 (k - 1) = true) (hn : ∀ w ∈ vs, isNon w = false) (hk : k ≤ 30) : ∃ l : List Int, vs = iL l ∧ ∀ e ∈ l, 0 ≤ e ∧ e < k := by
  obtain ⟨l, rfl, _⟩ := pl_ints (vs := vs) (fun w hw => by
    have := h w hw
    cases w with
    | int i =>
      simp only [isPl, isIn, Bool.and_eq_true, decide_eq_true_eq] at this ⊢
      omega
    | non => rfl
    | _ => cases this) hn
  refine ⟨l, rfl, fun e he => ?_⟩
  have := h (.int e) (List.mem_map.mpr ⟨e, he, rfl⟩)
  simp only [isPl, isIn, Bool.and_eq_true, decide_eq_true_eq] at this
  omega
theorem isNon_any {vs : List PV} {h : MH} : (vs.map fun w => isD w .non h) = (vs.map isNon).map some := by
  rw [List.map_map]
  exact List.map_congr_left fun w _ => isD_non w h
theorem law_shown_s {row : List Int} {v : PV} {mh : MH} (hr : row.length ≤ 30) (hv : V3 mh v) (hs : ∀ vs, v = .tup vs → ∀ w ∈ vs, ∀ us, w = .tup us → us.length ≤ 60) {Q : PV → MH → Prop}
    (q : ∀ h b, Sub mh h → (b = true ↔ ∃ k pl lot, Shown row v k pl lot) → Q (.bl b) h) : Ok (f__law_is_shown [iT row, v] mh) Q := by
  obtain ⟨t, ht⟩ := hv.one
  unfold f__law_is_shown
  try simp only [if_true, if_false, Bool.false_eq_true, okS_nx, ok_trB, ok_trI, ok_bind, ok_bin, ok_un, ok_k, ok_cmp, ok_cmpT, ok_chain, ok_bl, ok_nil, ok_cons, ok_call, ok_callOp, ok_isi, ok_test, ok_andT, ok_orT, ok_notT, ok_isBl, ok_andV, ok_orV, ok_notV, ok_if, okS_next, okS_seq, okS_ret, okS_expr, okS_if, okS_set, ok_run, ok_src, ok_range, ok_ok, ok_obv, ok_ob, sNext, ok_var0, ok_varS, List.map_cons, List.map_nil, List.length_cons, List.length_nil, List.replicate_succ, List.replicate_zero, List.cons_append, List.nil_append, List.getElem?_cons_zero, List.getElem?_cons_succ, List.set_cons_zero, List.set_cons_succ, Nat.reduceAdd, Nat.reduceSub, Nat.sub_self, Nat.zero_add, Nat.sub_zero]
  rw [ok_isTy (by simp) ht]
  try simp only [if_true, if_false, Bool.false_eq_true, okS_nx, ok_trB, ok_trI, ok_bind, ok_bin, ok_un, ok_k, ok_cmp, ok_cmpT, ok_chain, ok_bl, ok_nil, ok_cons, ok_call, ok_callOp, ok_isi, ok_test, ok_andT, ok_orT, ok_notT, ok_isBl, ok_andV, ok_orV, ok_notV, ok_if, okS_next, okS_seq, okS_ret, okS_expr, okS_if, okS_set, ok_run, ok_src, ok_range, ok_ok, ok_obv, ok_ob, sNext, ok_var0, ok_varS, List.map_cons, List.map_nil, List.length_cons, List.length_nil, List.replicate_succ, List.replicate_zero, List.cons_append, List.nil_append, List.getElem?_cons_zero, List.getElem?_cons_succ, List.set_cons_zero, List.set_cons_succ, Nat.reduceAdd, Nat.reduceSub, Nat.sub_self, Nat.zero_add, Nat.sub_zero]
  cases v with
  | tup vs =>
    cases ht
    obtain ⟨hz, hw⟩ := hv.two vs rfl
    have hs := hs vs rfl
    simp only [show tyIs "tuple" "tuple" = true from rfl, Bool.not_true, Bool.false_eq_true, if_false]
    try simp only [if_true, if_false, Bool.false_eq_true, okS_nx, ok_trB, ok_trI, ok_bind, ok_bin, ok_un, ok_k, ok_cmp, ok_cmpT, ok_chain, ok_bl, ok_nil, ok_cons, ok_call, ok_callOp, ok_isi, ok_test, ok_andT, ok_orT, ok_notT, ok_isBl, ok_andV, ok_orV, ok_notV, ok_if, okS_next, okS_seq, okS_ret, okS_expr, okS_if, okS_set, ok_run, ok_src, ok_range, ok_ok, ok_obv, ok_ob, sNext, ok_var0, ok_varS, List.map_cons, List.map_nil, List.length_cons, List.length_nil, List.replicate_succ, List.replicate_zero, List.cons_append, List.nil_append, List.getElem?_cons_zero, List.getElem?_cons_succ, List.set_cons_zero, List.set_cons_succ, Nat.reduceAdd, Nat.reduceSub, Nat.sub_self, Nat.zero_add, Nat.sub_zero]
    refine ok_len (seq_tup _) ?_
    refine ⟨_, neD_int, ?_⟩
    by_cases h3 : vs.length = 3
    · obtain ⟨a, b, c, rfl⟩ := len3 h3
      simp only [show ((([a, b, c] : List PV).length : Nat) : Int) = 3 from rfl, decide_true, Bool.not_true, Bool.false_eq_true, if_false]
      try simp only [if_true, if_false, Bool.false_eq_true, okS_nx, ok_trB, ok_trI, ok_bind, ok_bin, ok_un, ok_k, ok_cmp, ok_cmpT, ok_chain, ok_bl, ok_nil, ok_cons, ok_call, ok_callOp, ok_isi, ok_test, ok_andT, ok_orT, ok_notT, ok_isBl, ok_andV, ok_orV, ok_notV, ok_if, okS_next, okS_seq, okS_ret, okS_expr, okS_if, okS_set, ok_run, ok_src, ok_range, ok_ok, ok_obv, ok_ob, sNext, ok_var0, ok_varS, List.map_cons, List.map_nil, List.length_cons, List.length_nil, List.replicate_succ, List.replicate_zero, List.cons_append, List.nil_append, List.getElem?_cons_zero, List.getElem?_cons_succ, List.set_cons_zero, List.set_cons_succ, Nat.reduceAdd, Nat.reduceSub, Nat.sub_self, Nat.zero_add, Nat.sub_zero]
      refine ok_ix (k := 0) (seq_tup _) rfl (fun _ z => by cases z) ?_
      obtain ⟨ta, ea⟩ := (hw a (by simp)).1
      refine law_is_int_s ea ?_
      try simp only [if_true, if_false, Bool.false_eq_true, okS_nx, ok_trB, ok_trI, ok_bind, ok_bin, ok_un, ok_k, ok_cmp, ok_cmpT, ok_chain, ok_bl, ok_nil, ok_cons, ok_call, ok_callOp, ok_isi, ok_test, ok_andT, ok_orT, ok_notT, ok_isBl, ok_andV, ok_orV, ok_notV, ok_if, okS_next, okS_seq, okS_ret, okS_expr, okS_if, okS_set, ok_run, ok_src, ok_range, ok_ok, ok_obv, ok_ob, sNext, ok_var0, ok_varS, List.map_cons, List.map_nil, List.length_cons, List.length_nil, List.replicate_succ, List.replicate_zero, List.cons_append, List.nil_append, List.getElem?_cons_zero, List.getElem?_cons_succ, List.set_cons_zero, List.set_cons_succ, Nat.reduceAdd, Nat.reduceSub, Nat.sub_self, Nat.zero_add, Nat.sub_zero]
      have no : isIn a 0 30 = false → ¬ ∃ k pl lot, Shown row (.tup [a, b, c]) k pl lot := by
        rintro h ⟨k, pl, lot, S⟩
        have e := S.is
        injection e with e
        injection e with e1 e
        subst e1
        have := S.isl.few
        have hm := S.many
        simp only [isIn, Bool.and_eq_false_iff, decide_eq_false_iff_not] at h
        omega
      cases hin : isIn a 0 30 with
      | false =>
        simp only [Bool.not_false, if_true]
        try simp only [if_true, if_false, Bool.false_eq_true, okS_nx, ok_trB, ok_trI, ok_bind, ok_bin, ok_un, ok_k, ok_cmp, ok_cmpT, ok_chain, ok_bl, ok_nil, ok_cons, ok_call, ok_callOp, ok_isi, ok_test, ok_andT, ok_orT, ok_notT, ok_isBl, ok_andV, ok_orV, ok_notV, ok_if, okS_next, okS_seq, okS_ret, okS_expr, okS_if, okS_set, ok_run, ok_src, ok_range, ok_ok, ok_obv, ok_ob, sNext, ok_var0, ok_varS, List.map_cons, List.map_nil, List.length_cons, List.length_nil, List.replicate_succ, List.replicate_zero, List.cons_append, List.nil_append, List.getElem?_cons_zero, List.getElem?_cons_succ, List.set_cons_zero, List.set_cons_succ, Nat.reduceAdd, Nat.reduceSub, Nat.sub_self, Nat.zero_add, Nat.sub_zero]
        exact q _ _ (.refl _) ⟨fun h => (Bool.false_ne_true h).elim, fun h => absurd h (no hin)⟩
      | true =>
        cases a with
        | int k =>
          simp only [isIn, Bool.and_eq_true, decide_eq_true_eq] at hin
          simp only [Bool.not_true, Bool.false_eq_true, if_false]
          try simp only [if_true, if_false, Bool.false_eq_true, okS_nx, ok_trB, ok_trI, ok_bind, ok_bin, ok_un, ok_k, ok_cmp, ok_cmpT, ok_chain, ok_bl, ok_nil, ok_cons, ok_call, ok_callOp, ok_isi, ok_test, ok_andT, ok_orT, ok_notT, ok_isBl, ok_andV, ok_orV, ok_notV, ok_if, okS_next, okS_seq, okS_ret, okS_expr, okS_if, okS_set, ok_run, ok_src, ok_range, ok_ok, ok_obv, ok_ob, sNext, ok_var0, ok_varS, List.map_cons, List.map_nil, List.length_cons, List.length_nil, List.replicate_succ, List.replicate_zero, List.cons_append, List.nil_append, List.getElem?_cons_zero, List.getElem?_cons_succ, List.set_cons_zero, List.set_cons_succ, Nat.reduceAdd, Nat.reduceSub, Nat.sub_self, Nat.zero_add, Nat.sub_zero, okS_asg]
          refine ⟨_, rfl, ?_⟩
          simp only [List.set_cons_succ, List.set_cons_zero]
          try simp only [if_true, if_false, Bool.false_eq_true, okS_nx, ok_trB, ok_trI, ok_bind, ok_bin, ok_un, ok_k, ok_cmp, ok_cmpT, ok_chain, ok_bl, ok_nil, ok_cons, ok_call, ok_callOp, ok_isi, ok_test, ok_andT, ok_orT, ok_notT, ok_isBl, ok_andV, ok_orV, ok_notV, ok_if, okS_next, okS_seq, okS_ret, okS_expr, okS_if, okS_set, ok_run, ok_src, ok_range, ok_ok, ok_obv, ok_ob, sNext, ok_var0, ok_varS, List.map_cons, List.map_nil, List.length_cons, List.length_nil, List.replicate_succ, List.replicate_zero, List.cons_append, List.nil_append, List.getElem?_cons_zero, List.getElem?_cons_succ, List.set_cons_zero, List.set_cons_succ, Nat.reduceAdd, Nat.reduceSub, Nat.sub_self, Nat.zero_add, Nat.sub_zero]
          obtain ⟨vb, wb⟩ := hw b (by simp)
          obtain ⟨vc, wc⟩ := hw c (by simp)
          refine law_places_s hin (by omega) vb (fun us e => ⟨(wb us e).1, fun w hwm => (wb us e).2 w hwm⟩) fun h2 br s2 ebr => ?_
          try simp only [if_true, if_false, Bool.false_eq_true, okS_nx, ok_trB, ok_trI, ok_bind, ok_bin, ok_un, ok_k, ok_cmp, ok_cmpT, ok_chain, ok_bl, ok_nil, ok_cons, ok_call, ok_callOp, ok_isi, ok_test, ok_andT, ok_orT, ok_notT, ok_isBl, ok_andV, ok_orV, ok_notV, ok_if, okS_next, okS_seq, okS_ret, okS_expr, okS_if, okS_set, ok_run, ok_src, ok_range, ok_ok, ok_obv, ok_ob, sNext, ok_var0, ok_varS, List.map_cons, List.map_nil, List.length_cons, List.length_nil, List.replicate_succ, List.replicate_zero, List.cons_append, List.nil_append, List.getElem?_cons_zero, List.getElem?_cons_succ, List.set_cons_zero, List.set_cons_succ, Nat.reduceAdd, Nat.reduceSub, Nat.sub_self, Nat.zero_add, Nat.sub_zero]
          cases br with
          | false =>
            simp only [Bool.not_false, if_true]
            try simp only [if_true, if_false, Bool.false_eq_true, okS_nx, ok_trB, ok_trI, ok_bind, ok_bin, ok_un, ok_k, ok_cmp, ok_cmpT, ok_chain, ok_bl, ok_nil, ok_cons, ok_call, ok_callOp, ok_isi, ok_test, ok_andT, ok_orT, ok_notT, ok_isBl, ok_andV, ok_orV, ok_notV, ok_if, okS_next, okS_seq, okS_ret, okS_expr, okS_if, okS_set, ok_run, ok_src, ok_range, ok_ok, ok_obv, ok_ob, sNext, ok_var0, ok_varS, List.map_cons, List.map_nil, List.length_cons, List.length_nil, List.replicate_succ, List.replicate_zero, List.cons_append, List.nil_append, List.getElem?_cons_zero, List.getElem?_cons_succ, List.set_cons_zero, List.set_cons_succ, Nat.reduceAdd, Nat.reduceSub, Nat.sub_self, Nat.zero_add, Nat.sub_zero]
            refine q _ _ s2 ⟨fun h => (Bool.false_ne_true h).elim, ?_⟩
            rintro ⟨k', pl, lot, S⟩
            have e := S.is
            cases e
            refine absurd (ebr.mpr ⟨iL pl, rfl, by simpa using S.len, fun w hw => ?_, ?_⟩) Bool.false_ne_true
            · obtain ⟨p, hp, rfl⟩ := List.mem_map.mp hw
              have := S.rng p hp
              simp only [isPl, isIn, Bool.and_eq_true, decide_eq_true_eq]
              omega
            · exact (tracks_stand S.len fun p hp => ⟨(S.rng p hp).1, (S.rng p hp).2.2⟩).mpr S.no
          | true =>
            simp only [Bool.not_true, Bool.false_eq_true, if_false]
            try simp only [if_true, if_false, Bool.false_eq_true, okS_nx, ok_trB, ok_trI, ok_bind, ok_bin, ok_un, ok_k, ok_cmp, ok_cmpT, ok_chain, ok_bl, ok_nil, ok_cons, ok_call, ok_callOp, ok_isi, ok_test, ok_andT, ok_orT, ok_notT, ok_isBl, ok_andV, ok_orV, ok_notV, ok_if, okS_next, okS_seq, okS_ret, okS_expr, okS_if, okS_set, ok_run, ok_src, ok_range, ok_ok, ok_obv, ok_ob, sNext, ok_var0, ok_varS, List.map_cons, List.map_nil, List.length_cons, List.length_nil, List.replicate_succ, List.replicate_zero, List.cons_append, List.nil_append, List.getElem?_cons_zero, List.getElem?_cons_succ, List.set_cons_zero, List.set_cons_succ, Nat.reduceAdd, Nat.reduceSub, Nat.sub_self, Nat.zero_add, Nat.sub_zero]
            obtain ⟨us, rfl, l1, l2, l3⟩ := ebr.mp rfl
            have hus := (wb us rfl).1
            refine ok_compP us id (fun _ => true) (fun w => .bl (isNon w)) ?_ ?_ ?_
            · try simp only [if_true, if_false, Bool.false_eq_true, okS_nx, ok_trB, ok_trI, ok_bind, ok_bin, ok_un, ok_k, ok_cmp, ok_cmpT, ok_chain, ok_bl, ok_nil, ok_cons, ok_call, ok_callOp, ok_isi, ok_test, ok_andT, ok_orT, ok_notT, ok_isBl, ok_andV, ok_orV, ok_notV, ok_if, okS_next, okS_seq, okS_ret, okS_expr, okS_if, okS_set, ok_run, ok_src, ok_range, ok_ok, ok_obv, ok_ob, sNext, ok_var0, ok_varS, List.map_cons, List.map_nil, List.length_cons, List.length_nil, List.replicate_succ, List.replicate_zero, List.cons_append, List.nil_append, List.getElem?_cons_zero, List.getElem?_cons_succ, List.set_cons_zero, List.set_cons_succ, Nat.reduceAdd, Nat.reduceSub, Nat.sub_self, Nat.zero_add, Nat.sub_zero]
              refine ok_srcT.mpr ⟨by unfold loopFuel; omega, .refl _, fun h _ => ?_⟩
              rw [List.map_id]
              exact srcIs_vals _ _
            · intro w hwm h hs'
              refine ⟨_, rfl, ?_⟩
              rw [ok_yes]
              refine ⟨rfl, .refl _, fun _ => ?_⟩
              simp only [wipeE, id]
              try simp only [if_true, if_false, Bool.false_eq_true, okS_nx, ok_trB, ok_trI, ok_bind, ok_bin, ok_un, ok_k, ok_cmp, ok_cmpT, ok_chain, ok_bl, ok_nil, ok_cons, ok_call, ok_callOp, ok_isi, ok_test, ok_andT, ok_orT, ok_notT, ok_isBl, ok_andV, ok_orV, ok_notV, ok_if, okS_next, okS_seq, okS_ret, okS_expr, okS_if, okS_set, ok_run, ok_src, ok_range, ok_ok, ok_obv, ok_ob, sNext, ok_var0, ok_varS, List.map_cons, List.map_nil, List.length_cons, List.length_nil, List.replicate_succ, List.replicate_zero, List.cons_append, List.nil_append, List.getElem?_cons_zero, List.getElem?_cons_succ, List.set_cons_zero, List.set_cons_succ, Nat.reduceAdd, Nat.reduceSub, Nat.sub_self, Nat.zero_add, Nat.sub_zero, isD_non]
              exact ⟨_, rfl, rfl, .refl _⟩
            · intro n h3 s3 hn hl3
              rw [List.filter_eq_self.mpr (by simp)] at hl3
              have hl4 : h3[n]? = some (.lst ((us.map isNon).map PV.bl)) := by
                rw [hl3, List.map_map]
                rfl
              refine ok_anyB hl4 ?_
              try simp only [if_true, if_false, Bool.false_eq_true, okS_nx, ok_trB, ok_trI, ok_bind, ok_bin, ok_un, ok_k, ok_cmp, ok_cmpT, ok_chain, ok_bl, ok_nil, ok_cons, ok_call, ok_callOp, ok_isi, ok_test, ok_andT, ok_orT, ok_notT, ok_isBl, ok_andV, ok_orV, ok_notV, ok_if, okS_next, okS_seq, okS_ret, okS_expr, okS_if, okS_set, ok_run, ok_src, ok_range, ok_ok, ok_obv, ok_ob, sNext, ok_var0, ok_varS, List.map_cons, List.map_nil, List.length_cons, List.length_nil, List.replicate_succ, List.replicate_zero, List.cons_append, List.nil_append, List.getElem?_cons_zero, List.getElem?_cons_succ, List.set_cons_zero, List.set_cons_succ, Nat.reduceAdd, Nat.reduceSub, Nat.sub_self, Nat.zero_add, Nat.sub_zero]
              have s23 := s2.trans s3
              cases hany : (us.map isNon).any id with
              | true =>
                simp only [if_true]
                try simp only [if_true, if_false, Bool.false_eq_true, okS_nx, ok_trB, ok_trI, ok_bind, ok_bin, ok_un, ok_k, ok_cmp, ok_cmpT, ok_chain, ok_bl, ok_nil, ok_cons, ok_call, ok_callOp, ok_isi, ok_test, ok_andT, ok_orT, ok_notT, ok_isBl, ok_andV, ok_orV, ok_notV, ok_if, okS_next, okS_seq, okS_ret, okS_expr, okS_if, okS_set, ok_run, ok_src, ok_range, ok_ok, ok_obv, ok_ob, sNext, ok_var0, ok_varS, List.map_cons, List.map_nil, List.length_cons, List.length_nil, List.replicate_succ, List.replicate_zero, List.cons_append, List.nil_append, List.getElem?_cons_zero, List.getElem?_cons_succ, List.set_cons_zero, List.set_cons_succ, Nat.reduceAdd, Nat.reduceSub, Nat.sub_self, Nat.zero_add, Nat.sub_zero]
                refine q _ _ s23 ⟨fun h => (Bool.false_ne_true h).elim, ?_⟩
                rintro ⟨k', pl, lot, S⟩
                have e := S.is
                cases e
                obtain ⟨w, hw1, hw2⟩ := List.any_eq_true.mp hany
                obtain ⟨u, hu, rfl⟩ := List.mem_map.mp hw1
                obtain ⟨p, _, rfl⟩ := List.mem_map.mp hu
                cases hw2
              | false =>
                simp only [Bool.false_eq_true, if_false]
                try simp only [if_true, if_false, Bool.false_eq_true, okS_nx, ok_trB, ok_trI, ok_bind, ok_bin, ok_un, ok_k, ok_cmp, ok_cmpT, ok_chain, ok_bl, ok_nil, ok_cons, ok_call, ok_callOp, ok_isi, ok_test, ok_andT, ok_orT, ok_notT, ok_isBl, ok_andV, ok_orV, ok_notV, ok_if, okS_next, okS_seq, okS_ret, okS_expr, okS_if, okS_set, ok_run, ok_src, ok_range, ok_ok, ok_obv, ok_ob, sNext, ok_var0, ok_varS, List.map_cons, List.map_nil, List.length_cons, List.length_nil, List.replicate_succ, List.replicate_zero, List.cons_append, List.nil_append, List.getElem?_cons_zero, List.getElem?_cons_succ, List.set_cons_zero, List.set_cons_succ, Nat.reduceAdd, Nat.reduceSub, Nat.sub_self, Nat.zero_add, Nat.sub_zero]
                have hno : ∀ w ∈ us, isNon w = false := fun w hw => by
                  cases e : isNon w with
                  | false => rfl
                  | true =>
                    have := List.any_eq_true.mpr ⟨isNon w, List.mem_map.mpr ⟨w, hw, rfl⟩, (show id (isNon w) = true from e)⟩
                    rw [hany] at this
                    cases this
                obtain ⟨pl, rfl, hpl⟩ := isPl_ints l2 hno hin.2
                rw [List.length_map] at l1
                have hno2 := (tracks_stand l1 hpl).mp l3
                refine law_lot_s (by omega) (vc.sub s23) (fun us e => ⟨hs c (by simp) us e, fun w hwm => ((wc us e).2 w hwm).sub s23⟩) fun h5 bl s5 ebl => ?_
                try simp only [if_true, if_false, Bool.false_eq_true, okS_nx, ok_trB, ok_trI, ok_bind, ok_bin, ok_un, ok_k, ok_cmp, ok_cmpT, ok_chain, ok_bl, ok_nil, ok_cons, ok_call, ok_callOp, ok_isi, ok_test, ok_andT, ok_orT, ok_notT, ok_isBl, ok_andV, ok_orV, ok_notV, ok_if, okS_next, okS_seq, okS_ret, okS_expr, okS_if, okS_set, ok_run, ok_src, ok_range, ok_ok, ok_obv, ok_ob, sNext, ok_var0, ok_varS, List.map_cons, List.map_nil, List.length_cons, List.length_nil, List.replicate_succ, List.replicate_zero, List.cons_append, List.nil_append, List.getElem?_cons_zero, List.getElem?_cons_succ, List.set_cons_zero, List.set_cons_succ, Nat.reduceAdd, Nat.reduceSub, Nat.sub_self, Nat.zero_add, Nat.sub_zero]
                cases bl with
                | false =>
                  simp only [Bool.false_eq_true, if_false]
                  refine q _ _ (s23.trans s5) ⟨fun h => (Bool.false_ne_true h).elim, ?_⟩
                  rintro ⟨k', pl', lot, S⟩
                  have e := S.is
                  injection e with e
                  injection e with e1 e
                  injection e with e2 e
                  injection e with e3 _
                  exact absurd (ebl.mpr ⟨lot, e3, S.isl, S.fall⟩) Bool.false_ne_true
                | true =>
                  obtain ⟨lot, rfl, il, fl⟩ := ebl.mp rfl
                  simp only [if_true]
                  try simp only [if_true, if_false, Bool.false_eq_true, okS_nx, ok_trB, ok_trI, ok_bind, ok_bin, ok_un, ok_k, ok_cmp, ok_cmpT, ok_chain, ok_bl, ok_nil, ok_cons, ok_call, ok_callOp, ok_isi, ok_test, ok_andT, ok_orT, ok_notT, ok_isBl, ok_andV, ok_orV, ok_notV, ok_if, okS_next, okS_seq, okS_ret, okS_expr, okS_if, okS_set, ok_run, ok_src, ok_range, ok_ok, ok_obv, ok_ob, sNext, ok_var0, ok_varS, List.map_cons, List.map_nil, List.length_cons, List.length_nil, List.replicate_succ, List.replicate_zero, List.cons_append, List.nil_append, List.getElem?_cons_zero, List.getElem?_cons_succ, List.set_cons_zero, List.set_cons_succ, Nat.reduceAdd, Nat.reduceSub, Nat.sub_self, Nat.zero_add, Nat.sub_zero]
                  refine ok_len (seq_tup _) ?_
                  refine ⟨_, eqD_int, ?_⟩
                  refine q _ _ (s23.trans s5) ?_
                  rw [List.length_map]
                  constructor
                  · intro h
                    have hk := of_decide_eq_true h
                    refine ⟨k, pl, lot, rfl, l1, fun p hp => ?_, hno2, il, fl, hk⟩
                    have := hpl p hp
                    omega
                  · rintro ⟨k', pl', lot', S⟩
                    have e := S.is
                    injection e with e
                    injection e with e1 e
                    injection e with e2 e
                    injection e with e3 _
                    injection e1 with e1
                    injection e3 with e3
                    have e4 : lot = lot' := (List.map_inj_right (fun a b hab => by injection hab)).mp e3
                    have := S.many
                    rw [← e4, ← e1] at this
                    exact decide_eq_true this
        | _ => cases hin
    · simp only [show ¬ ((vs.length : Int) = 3) by omega, decide_false, Bool.not_false, if_true]
      try simp only [if_true, if_false, Bool.false_eq_true, okS_nx, ok_trB, ok_trI, ok_bind, ok_bin, ok_un, ok_k, ok_cmp, ok_cmpT, ok_chain, ok_bl, ok_nil, ok_cons, ok_call, ok_callOp, ok_isi, ok_test, ok_andT, ok_orT, ok_notT, ok_isBl, ok_andV, ok_orV, ok_notV, ok_if, okS_next, okS_seq, okS_ret, okS_expr, okS_if, okS_set, ok_run, ok_src, ok_range, ok_ok, ok_obv, ok_ob, sNext, ok_var0, ok_varS, List.map_cons, List.map_nil, List.length_cons, List.length_nil, List.replicate_succ, List.replicate_zero, List.cons_append, List.nil_append, List.getElem?_cons_zero, List.getElem?_cons_succ, List.set_cons_zero, List.set_cons_succ, Nat.reduceAdd, Nat.reduceSub, Nat.sub_self, Nat.zero_add, Nat.sub_zero]
      refine q _ _ (.refl _) ⟨fun h => (Bool.false_ne_true h).elim, ?_⟩
      rintro ⟨k, pl, lot, S⟩
      have e := S.is
      cases e
      exact absurd rfl h3
  | _ =>
    have e : tyIs "tuple" t = false := by
      simp only [tyOf] at ht
      repeat' split at ht
      all_goals first | (cases ht; rfl) | cases ht
    simp only [e, Bool.not_false, if_true]
    try simp only [if_true, if_false, Bool.false_eq_true, okS_nx, ok_trB, ok_trI, ok_bind, ok_bin, ok_un, ok_k, ok_cmp, ok_cmpT, ok_chain, ok_bl, ok_nil, ok_cons, ok_call, ok_callOp, ok_isi, ok_test, ok_andT, ok_orT, ok_notT, ok_isBl, ok_andV, ok_orV, ok_notV, ok_if, okS_next, okS_seq, okS_ret, okS_expr, okS_if, okS_set, ok_run, ok_src, ok_range, ok_ok, ok_obv, ok_ob, sNext, ok_var0, ok_varS, List.map_cons, List.map_nil, List.length_cons, List.length_nil, List.replicate_succ, List.replicate_zero, List.cons_append, List.nil_append, List.getElem?_cons_zero, List.getElem?_cons_succ, List.set_cons_zero, List.set_cons_succ, Nat.reduceAdd, Nat.reduceSub, Nat.sub_self, Nat.zero_add, Nat.sub_zero]
    refine q _ _ (.refl _) ⟨fun h => (Bool.false_ne_true h).elim, ?_⟩
    rintro ⟨k, pl, lot, S⟩
    have e' := S.is
    cases e'
/-- what is told is right -/
theorem told_shown {row : List Int} (hr : row.length ≤ 30) : Shown row (.tup (told row)) (tracks row : Nat) (fit row).2 (lotOf row) := by
  have F := fit_ok row
  obtain ⟨l1, l2, l3⟩ := lotOf_is row
  have hfew := l1.few
  refine ⟨rfl, F.len, fun p hp => ?_, fun one other h1 h2 p x y e1 e2 e3 e4 => F.asc one other p x y h1 e1 e2 e3 e4, l1, l2, by rw [l3]⟩
  obtain ⟨c, hc⟩ := List.mem_iff_getElem?.mp hp
  have := F.rng c p hc
  unfold tracks at *
  omega
end K10
namespace K10
open PySem PySem.Spec PyProof.Rows L2 RZ Ev
theorem pot_ne {p B n : Nat} {h : MH} (hp : Pot p B h) (hn : h[n]? = none) : n ≠ p := fun z => by
  subst z
  obtain ⟨_, _, _, h1, _⟩ := hp
  rw [hn] at h1
  cases h1
/-! ### a value of any kind -/
theorem odd_s {p B : Nat} {mh : MH} (hp : Pot p B mh) (hB : B < 2 ^ 39) {Q : PV → MH → Prop} (q : ∀ v h, Gd h v → Pot p (B + 4) h → SubX p mh h → Q v h) : Ok (f__law_odd [.ref p] mh) Q := by
  unfold f__law_odd
  try simp only [if_true, if_false, Bool.false_eq_true, okS_nx, ok_trB, ok_trI, ok_bind, ok_bin, ok_un, ok_k, ok_cmp, ok_cmpT, ok_chain, ok_bl, ok_nil, ok_cons, ok_call, ok_callOp, ok_isi, ok_test, ok_andT, ok_orT, ok_notT, ok_isBl, ok_andV, ok_orV, ok_notV, ok_if, okS_next, okS_seq, okS_ret, okS_expr, okS_if, okS_set, ok_run, ok_src, ok_range, ok_ok, ok_obv, ok_ob, sNext, ok_var0, ok_varS, List.map_cons, List.map_nil, List.length_cons, List.length_nil, List.replicate_succ, List.replicate_zero, List.cons_append, List.nil_append, List.getElem?_cons_zero, List.getElem?_cons_succ, List.set_cons_zero, List.set_cons_succ, Nat.reduceAdd, Nat.reduceSub, Nat.sub_self, Nat.zero_add, Nat.sub_zero]
  refine ok_mklN ?_
  try simp only [if_true, if_false, Bool.false_eq_true, okS_nx, ok_trB, ok_trI, ok_bind, ok_bin, ok_un, ok_k, ok_cmp, ok_cmpT, ok_chain, ok_bl, ok_nil, ok_cons, ok_call, ok_callOp, ok_isi, ok_test, ok_andT, ok_orT, ok_notT, ok_isBl, ok_andV, ok_orV, ok_notV, ok_if, okS_next, okS_seq, okS_ret, okS_expr, okS_if, okS_set, ok_run, ok_src, ok_range, ok_ok, ok_obv, ok_ob, sNext, ok_var0, ok_varS, List.map_cons, List.map_nil, List.length_cons, List.length_nil, List.replicate_succ, List.replicate_zero, List.cons_append, List.nil_append, List.getElem?_cons_zero, List.getElem?_cons_succ, List.set_cons_zero, List.set_cons_succ, Nat.reduceAdd, Nat.reduceSub, Nat.sub_self, Nat.zero_add, Nat.sub_zero]
  refine ok_negI.mpr ?_
  refine ok_powI (a := 4) (n := 11) (by unfold Bd; decide) (by decide) (by decide) ?_
  refine ok_mtup ?_
  try simp only [if_true, if_false, Bool.false_eq_true, okS_nx, ok_trB, ok_trI, ok_bind, ok_bin, ok_un, ok_k, ok_cmp, ok_cmpT, ok_chain, ok_bl, ok_nil, ok_cons, ok_call, ok_callOp, ok_isi, ok_test, ok_andT, ok_orT, ok_notT, ok_isBl, ok_andV, ok_orV, ok_notV, ok_if, okS_next, okS_seq, okS_ret, okS_expr, okS_if, okS_set, ok_run, ok_src, ok_range, ok_ok, ok_obv, ok_ob, sNext, ok_var0, ok_varS, List.map_cons, List.map_nil, List.length_cons, List.length_nil, List.replicate_succ, List.replicate_zero, List.cons_append, List.nil_append, List.getElem?_cons_zero, List.getElem?_cons_succ, List.set_cons_zero, List.set_cons_succ, Nat.reduceAdd, Nat.reduceSub, Nat.sub_self, Nat.zero_add, Nat.sub_zero]
  refine ⟨by decide, ?_⟩
  refine ok_mtup ?_
  try simp only [if_true, if_false, Bool.false_eq_true, okS_nx, ok_trB, ok_trI, ok_bind, ok_bin, ok_un, ok_k, ok_cmp, ok_cmpT, ok_chain, ok_bl, ok_nil, ok_cons, ok_call, ok_callOp, ok_isi, ok_test, ok_andT, ok_orT, ok_notT, ok_isBl, ok_andV, ok_orV, ok_notV, ok_if, okS_next, okS_seq, okS_ret, okS_expr, okS_if, okS_set, ok_run, ok_src, ok_range, ok_ok, ok_obv, ok_ob, sNext, ok_var0, ok_varS, List.map_cons, List.map_nil, List.length_cons, List.length_nil, List.replicate_succ, List.replicate_zero, List.cons_append, List.nil_append, List.getElem?_cons_zero, List.getElem?_cons_succ, List.set_cons_zero, List.set_cons_succ, Nat.reduceAdd, Nat.reduceSub, Nat.sub_self, Nat.zero_add, Nat.sub_zero]
  refine ⟨by decide, ?_⟩
  refine ok_mtup ?_
  try simp only [if_true, if_false, Bool.false_eq_true, okS_nx, ok_trB, ok_trI, ok_bind, ok_bin, ok_un, ok_k, ok_cmp, ok_cmpT, ok_chain, ok_bl, ok_nil, ok_cons, ok_call, ok_callOp, ok_isi, ok_test, ok_andT, ok_orT, ok_notT, ok_isBl, ok_andV, ok_orV, ok_notV, ok_if, okS_next, okS_seq, okS_ret, okS_expr, okS_if, okS_set, ok_run, ok_src, ok_range, ok_ok, ok_obv, ok_ob, sNext, ok_var0, ok_varS, List.map_cons, List.map_nil, List.length_cons, List.length_nil, List.replicate_succ, List.replicate_zero, List.cons_append, List.nil_append, List.getElem?_cons_zero, List.getElem?_cons_succ, List.set_cons_zero, List.set_cons_succ, Nat.reduceAdd, Nat.reduceSub, Nat.sub_self, Nat.zero_add, Nat.sub_zero]
  refine ⟨by decide, ?_⟩
  refine ok_mklN ?_
  try simp only [if_true, if_false, Bool.false_eq_true, okS_nx, ok_trB, ok_trI, ok_bind, ok_bin, ok_un, ok_k, ok_cmp, ok_cmpT, ok_chain, ok_bl, ok_nil, ok_cons, ok_call, ok_callOp, ok_isi, ok_test, ok_andT, ok_orT, ok_notT, ok_isBl, ok_andV, ok_orV, ok_notV, ok_if, okS_next, okS_seq, okS_ret, okS_expr, okS_if, okS_set, ok_run, ok_src, ok_range, ok_ok, ok_obv, ok_ob, sNext, ok_var0, ok_varS, List.map_cons, List.map_nil, List.length_cons, List.length_nil, List.replicate_succ, List.replicate_zero, List.cons_append, List.nil_append, List.getElem?_cons_zero, List.getElem?_cons_succ, List.set_cons_zero, List.set_cons_succ, Nat.reduceAdd, Nat.reduceSub, Nat.sub_self, Nat.zero_add, Nat.sub_zero]
  refine ⟨by decide, fun n1 h1 s1 f1 l1 => ?_⟩
  refine ok_mklN ?_
  try simp only [if_true, if_false, Bool.false_eq_true, okS_nx, ok_trB, ok_trI, ok_bind, ok_bin, ok_un, ok_k, ok_cmp, ok_cmpT, ok_chain, ok_bl, ok_nil, ok_cons, ok_call, ok_callOp, ok_isi, ok_test, ok_andT, ok_orT, ok_notT, ok_isBl, ok_andV, ok_orV, ok_notV, ok_if, okS_next, okS_seq, okS_ret, okS_expr, okS_if, okS_set, ok_run, ok_src, ok_range, ok_ok, ok_obv, ok_ob, sNext, ok_var0, ok_varS, List.map_cons, List.map_nil, List.length_cons, List.length_nil, List.replicate_succ, List.replicate_zero, List.cons_append, List.nil_append, List.getElem?_cons_zero, List.getElem?_cons_succ, List.set_cons_zero, List.set_cons_succ, Nat.reduceAdd, Nat.reduceSub, Nat.sub_self, Nat.zero_add, Nat.sub_zero]
  refine ⟨by decide, fun n2 h2 s2 f2 l2 => ?_⟩
  refine ok_dictN ?_
  try simp only [if_true, if_false, Bool.false_eq_true, okS_nx, ok_trB, ok_trI, ok_bind, ok_bin, ok_un, ok_k, ok_cmp, ok_cmpT, ok_chain, ok_bl, ok_nil, ok_cons, ok_call, ok_callOp, ok_isi, ok_test, ok_andT, ok_orT, ok_notT, ok_isBl, ok_andV, ok_orV, ok_notV, ok_if, okS_next, okS_seq, okS_ret, okS_expr, okS_if, okS_set, ok_run, ok_src, ok_range, ok_ok, ok_obv, ok_ob, sNext, ok_var0, ok_varS, List.map_cons, List.map_nil, List.length_cons, List.length_nil, List.replicate_succ, List.replicate_zero, List.cons_append, List.nil_append, List.getElem?_cons_zero, List.getElem?_cons_succ, List.set_cons_zero, List.set_cons_succ, Nat.reduceAdd, Nat.reduceSub, Nat.sub_self, Nat.zero_add, Nat.sub_zero]
  refine ⟨[], rfl, by decide, .refl _, fun n3 h3 s3 f3 l3 => ?_⟩
  refine ok_dictN ?_
  try simp only [if_true, if_false, Bool.false_eq_true, okS_nx, ok_trB, ok_trI, ok_bind, ok_bin, ok_un, ok_k, ok_cmp, ok_cmpT, ok_chain, ok_bl, ok_nil, ok_cons, ok_call, ok_callOp, ok_isi, ok_test, ok_andT, ok_orT, ok_notT, ok_isBl, ok_andV, ok_orV, ok_notV, ok_if, okS_next, okS_seq, okS_ret, okS_expr, okS_if, okS_set, ok_run, ok_src, ok_range, ok_ok, ok_obv, ok_ob, sNext, ok_var0, ok_varS, List.map_cons, List.map_nil, List.length_cons, List.length_nil, List.replicate_succ, List.replicate_zero, List.cons_append, List.nil_append, List.getElem?_cons_zero, List.getElem?_cons_succ, List.set_cons_zero, List.set_cons_succ, Nat.reduceAdd, Nat.reduceSub, Nat.sub_self, Nat.zero_add, Nat.sub_zero]
  refine ⟨_, rfl, by decide, .refl _, fun n4 h4 s4 f4 l4 => ?_⟩
  refine ok_mtup ?_
  try simp only [if_true, if_false, Bool.false_eq_true, okS_nx, ok_trB, ok_trI, ok_bind, ok_bin, ok_un, ok_k, ok_cmp, ok_cmpT, ok_chain, ok_bl, ok_nil, ok_cons, ok_call, ok_callOp, ok_isi, ok_test, ok_andT, ok_orT, ok_notT, ok_isBl, ok_andV, ok_orV, ok_notV, ok_if, okS_next, okS_seq, okS_ret, okS_expr, okS_if, okS_set, ok_run, ok_src, ok_range, ok_ok, ok_obv, ok_ob, sNext, ok_var0, ok_varS, List.map_cons, List.map_nil, List.length_cons, List.length_nil, List.replicate_succ, List.replicate_zero, List.cons_append, List.nil_append, List.getElem?_cons_zero, List.getElem?_cons_succ, List.set_cons_zero, List.set_cons_succ, Nat.reduceAdd, Nat.reduceSub, Nat.sub_self, Nat.zero_add, Nat.sub_zero]
  refine ok_mtup ?_
  try simp only [if_true, if_false, Bool.false_eq_true, okS_nx, ok_trB, ok_trI, ok_bind, ok_bin, ok_un, ok_k, ok_cmp, ok_cmpT, ok_chain, ok_bl, ok_nil, ok_cons, ok_call, ok_callOp, ok_isi, ok_test, ok_andT, ok_orT, ok_notT, ok_isBl, ok_andV, ok_orV, ok_notV, ok_if, okS_next, okS_seq, okS_ret, okS_expr, okS_if, okS_set, ok_run, ok_src, ok_range, ok_ok, ok_obv, ok_ob, sNext, ok_var0, ok_varS, List.map_cons, List.map_nil, List.length_cons, List.length_nil, List.replicate_succ, List.replicate_zero, List.cons_append, List.nil_append, List.getElem?_cons_zero, List.getElem?_cons_succ, List.set_cons_zero, List.set_cons_succ, Nat.reduceAdd, Nat.reduceSub, Nat.sub_self, Nat.zero_add, Nat.sub_zero]
  refine ⟨by decide, by decide, ?_⟩
  refine ⟨by decide, fun n5 h5 s5 f5 l5 => ?_⟩
  have g1 : Gd h5 (.ref n1) := gd_lst (s5 _ _ (s4 _ _ (s3 _ _ (s2 _ _ l1))))
  have g2 : Gd h5 (.ref n2) := gd_lst (s5 _ _ (s4 _ _ (s3 _ _ l2)))
  have g3 : Gd h5 (.ref n3) := gd_dict (s5 _ _ (s4 _ _ l3))
  have g4 : Gd h5 (.ref n4) := gd_dict (s5 _ _ l4)
  have s05 : Sub mh h5 := (((s1.trans s2).trans s3).trans s4).trans s5
  have hp5 := hp.sub s05
  have hp4 := hp.sub (((s1.trans s2).trans s3).trans s4)
  refine of_s hp5 (by omega) l5 (pot_ne hp4 f5) (by simp) (by (try simp only [List.length_cons, List.length_nil]); omega) fun v h6 hv hp6 s6 => ?_
  have gv : Gd h5 v := by
    refine (all_cons gd_non (all_cons gd_bl (all_cons gd_bl (all_cons gd_int (all_cons gd_int (all_cons gd_int (all_cons gd_int (all_cons gd_int (all_cons gd_str (all_cons gd_str (all_cons gd_str (all_cons gd_nil (all_cons (gd_one gd_int) (all_cons (gd_one gd_non) (all_cons g1 (all_cons g2 (all_cons g3 (all_cons g4 (all_cons (gd_one (gd_two gd_int gd_int)) all_nil))))))))))))))))))) v hv
  have gv6 := gv.mono (s6.ty hp5 hp6)
  try simp only [if_true, if_false, Bool.false_eq_true, okS_nx, ok_trB, ok_trI, ok_bind, ok_bin, ok_un, ok_k, ok_cmp, ok_cmpT, ok_chain, ok_bl, ok_nil, ok_cons, ok_call, ok_callOp, ok_isi, ok_test, ok_andT, ok_orT, ok_notT, ok_isBl, ok_andV, ok_orV, ok_notV, ok_if, okS_next, okS_seq, okS_ret, okS_expr, okS_if, okS_set, ok_run, ok_src, ok_range, ok_ok, ok_obv, ok_ob, sNext, ok_var0, ok_varS, List.map_cons, List.map_nil, List.length_cons, List.length_nil, List.replicate_succ, List.replicate_zero, List.cons_append, List.nil_append, List.getElem?_cons_zero, List.getElem?_cons_succ, List.set_cons_zero, List.set_cons_succ, Nat.reduceAdd, Nat.reduceSub, Nat.sub_self, Nat.zero_add, Nat.sub_zero]
  refine okS_for ?_
  try simp only [if_true, if_false, Bool.false_eq_true, okS_nx, ok_trB, ok_trI, ok_bind, ok_bin, ok_un, ok_k, ok_cmp, ok_cmpT, ok_chain, ok_bl, ok_nil, ok_cons, ok_call, ok_callOp, ok_isi, ok_test, ok_andT, ok_orT, ok_notT, ok_isBl, ok_andV, ok_orV, ok_notV, ok_if, okS_next, okS_seq, okS_ret, okS_expr, okS_if, okS_set, ok_run, ok_src, ok_range, ok_ok, ok_obv, ok_ob, sNext, ok_var0, ok_varS, List.map_cons, List.map_nil, List.length_cons, List.length_nil, List.replicate_succ, List.replicate_zero, List.cons_append, List.nil_append, List.getElem?_cons_zero, List.getElem?_cons_succ, List.set_cons_zero, List.set_cons_succ, Nat.reduceAdd, Nat.reduceSub, Nat.sub_self, Nat.zero_add, Nat.sub_zero]
  refine take_s hp6 (by omega) (by decide) (by unfold Bd; decide) fun d h7 d1 d2 hp7 s7 => ?_
  obtain ⟨k, rfl⟩ := Int.eq_ofNat_of_zero_le d1
  have x05 : SubX p mh h7 := ((s05.x p).trans s6).trans s7
  refine ⟨_, range1 (by omega), _, fun i env h => ∃ v a b, env = [some (.ref p), a, some v, b] ∧ Gd h v ∧ Pot p (B + 2 + i) h ∧ SubX p mh h ∧ i ≤ k, by simp; unfold loopFuel; omega, fun _ _ h _ => srcIs_vals _ _, ?_, ?_, ?_⟩
  · rintro i x env h hx ⟨v, a, b, rfl, gv, hpi, si, hik⟩
    have hi := (List.getElem?_eq_some_iff.mp hx).1
    rw [List.length_map, List.length_range] at hi
    refine ⟨_, rfl, ?_⟩
    try simp only [if_true, if_false, Bool.false_eq_true, okS_nx, ok_trB, ok_trI, ok_bind, ok_bin, ok_un, ok_k, ok_cmp, ok_cmpT, ok_chain, ok_bl, ok_nil, ok_cons, ok_call, ok_callOp, ok_isi, ok_test, ok_andT, ok_orT, ok_notT, ok_isBl, ok_andV, ok_orV, ok_notV, ok_if, okS_next, okS_seq, okS_ret, okS_expr, okS_if, okS_set, ok_run, ok_src, ok_range, ok_ok, ok_obv, ok_ob, sNext, ok_var0, ok_varS, List.map_cons, List.map_nil, List.length_cons, List.length_nil, List.replicate_succ, List.replicate_zero, List.cons_append, List.nil_append, List.getElem?_cons_zero, List.getElem?_cons_succ, List.set_cons_zero, List.set_cons_succ, Nat.reduceAdd, Nat.reduceSub, Nat.sub_self, Nat.zero_add, Nat.sub_zero]
    refine ok_mklN ?_
    try simp only [if_true, if_false, Bool.false_eq_true, okS_nx, ok_trB, ok_trI, ok_bind, ok_bin, ok_un, ok_k, ok_cmp, ok_cmpT, ok_chain, ok_bl, ok_nil, ok_cons, ok_call, ok_callOp, ok_isi, ok_test, ok_andT, ok_orT, ok_notT, ok_isBl, ok_andV, ok_orV, ok_notV, ok_if, okS_next, okS_seq, okS_ret, okS_expr, okS_if, okS_set, ok_run, ok_src, ok_range, ok_ok, ok_obv, ok_ob, sNext, ok_var0, ok_varS, List.map_cons, List.map_nil, List.length_cons, List.length_nil, List.replicate_succ, List.replicate_zero, List.cons_append, List.nil_append, List.getElem?_cons_zero, List.getElem?_cons_succ, List.set_cons_zero, List.set_cons_succ, Nat.reduceAdd, Nat.reduceSub, Nat.sub_self, Nat.zero_add, Nat.sub_zero]
    refine ok_mtup ?_
    try simp only [if_true, if_false, Bool.false_eq_true, okS_nx, ok_trB, ok_trI, ok_bind, ok_bin, ok_un, ok_k, ok_cmp, ok_cmpT, ok_chain, ok_bl, ok_nil, ok_cons, ok_call, ok_callOp, ok_isi, ok_test, ok_andT, ok_orT, ok_notT, ok_isBl, ok_andV, ok_orV, ok_notV, ok_if, okS_next, okS_seq, okS_ret, okS_expr, okS_if, okS_set, ok_run, ok_src, ok_range, ok_ok, ok_obv, ok_ob, sNext, ok_var0, ok_varS, List.map_cons, List.map_nil, List.length_cons, List.length_nil, List.replicate_succ, List.replicate_zero, List.cons_append, List.nil_append, List.getElem?_cons_zero, List.getElem?_cons_succ, List.set_cons_zero, List.set_cons_succ, Nat.reduceAdd, Nat.reduceSub, Nat.sub_self, Nat.zero_add, Nat.sub_zero]
    refine ⟨by decide, ?_⟩
    refine ok_mklN ?_
    try simp only [if_true, if_false, Bool.false_eq_true, okS_nx, ok_trB, ok_trI, ok_bind, ok_bin, ok_un, ok_k, ok_cmp, ok_cmpT, ok_chain, ok_bl, ok_nil, ok_cons, ok_call, ok_callOp, ok_isi, ok_test, ok_andT, ok_orT, ok_notT, ok_isBl, ok_andV, ok_orV, ok_notV, ok_if, okS_next, okS_seq, okS_ret, okS_expr, okS_if, okS_set, ok_run, ok_src, ok_range, ok_ok, ok_obv, ok_ob, sNext, ok_var0, ok_varS, List.map_cons, List.map_nil, List.length_cons, List.length_nil, List.replicate_succ, List.replicate_zero, List.cons_append, List.nil_append, List.getElem?_cons_zero, List.getElem?_cons_succ, List.set_cons_zero, List.set_cons_succ, Nat.reduceAdd, Nat.reduceSub, Nat.sub_self, Nat.zero_add, Nat.sub_zero]
    refine ⟨by decide, fun n1 h1 s1 f1 l1 => ?_⟩
    refine ok_dictN ?_
    try simp only [if_true, if_false, Bool.false_eq_true, okS_nx, ok_trB, ok_trI, ok_bind, ok_bin, ok_un, ok_k, ok_cmp, ok_cmpT, ok_chain, ok_bl, ok_nil, ok_cons, ok_call, ok_callOp, ok_isi, ok_test, ok_andT, ok_orT, ok_notT, ok_isBl, ok_andV, ok_orV, ok_notV, ok_if, okS_next, okS_seq, okS_ret, okS_expr, okS_if, okS_set, ok_run, ok_src, ok_range, ok_ok, ok_obv, ok_ob, sNext, ok_var0, ok_varS, List.map_cons, List.map_nil, List.length_cons, List.length_nil, List.replicate_succ, List.replicate_zero, List.cons_append, List.nil_append, List.getElem?_cons_zero, List.getElem?_cons_succ, List.set_cons_zero, List.set_cons_succ, Nat.reduceAdd, Nat.reduceSub, Nat.sub_self, Nat.zero_add, Nat.sub_zero]
    refine ⟨_, rfl, by simp, .refl _, fun n2 h2 s2 f2 l2 => ?_⟩
    refine ok_mtup ?_
    try simp only [if_true, if_false, Bool.false_eq_true, okS_nx, ok_trB, ok_trI, ok_bind, ok_bin, ok_un, ok_k, ok_cmp, ok_cmpT, ok_chain, ok_bl, ok_nil, ok_cons, ok_call, ok_callOp, ok_isi, ok_test, ok_andT, ok_orT, ok_notT, ok_isBl, ok_andV, ok_orV, ok_notV, ok_if, okS_next, okS_seq, okS_ret, okS_expr, okS_if, okS_set, ok_run, ok_src, ok_range, ok_ok, ok_obv, ok_ob, sNext, ok_var0, ok_varS, List.map_cons, List.map_nil, List.length_cons, List.length_nil, List.replicate_succ, List.replicate_zero, List.cons_append, List.nil_append, List.getElem?_cons_zero, List.getElem?_cons_succ, List.set_cons_zero, List.set_cons_succ, Nat.reduceAdd, Nat.reduceSub, Nat.sub_self, Nat.zero_add, Nat.sub_zero]
    refine ⟨by decide, ?_⟩
    refine ok_mtup ?_
    try simp only [if_true, if_false, Bool.false_eq_true, okS_nx, ok_trB, ok_trI, ok_bind, ok_bin, ok_un, ok_k, ok_cmp, ok_cmpT, ok_chain, ok_bl, ok_nil, ok_cons, ok_call, ok_callOp, ok_isi, ok_test, ok_andT, ok_orT, ok_notT, ok_isBl, ok_andV, ok_orV, ok_notV, ok_if, okS_next, okS_seq, okS_ret, okS_expr, okS_if, okS_set, ok_run, ok_src, ok_range, ok_ok, ok_obv, ok_ob, sNext, ok_var0, ok_varS, List.map_cons, List.map_nil, List.length_cons, List.length_nil, List.replicate_succ, List.replicate_zero, List.cons_append, List.nil_append, List.getElem?_cons_zero, List.getElem?_cons_succ, List.set_cons_zero, List.set_cons_succ, Nat.reduceAdd, Nat.reduceSub, Nat.sub_self, Nat.zero_add, Nat.sub_zero]
    refine ⟨by decide, ?_⟩
    refine ⟨by decide, fun n3 h3 s3 f3 l3 => ?_⟩
    have sh3 := (s1.trans s2).trans s3
    have gv3 := gv.mono sh3.ty
    refine of_s (hpi.sub sh3) (by omega) l3 (pot_ne (hpi.sub (s1.trans s2)) f3) (by simp) (by (try simp only [List.length_cons, List.length_nil]); omega) fun w h4 hw hp4 s4 => ?_
    have gw : Gd h3 w := (all_cons (gd_one gv3) (all_cons (gd_lst (s3 _ _ (s2 _ _ l1))) (all_cons (gd_dict (s3 _ _ l2)) (all_cons (gd_two gv3 gd_int) (all_cons (gd_two gd_int gv3) all_nil))))) w hw
    exact ⟨w, _, _, rfl, gw.mono (s4.ty (hpi.sub sh3) hp4), hp4, (si.trans (sh3.x p)).trans s4, hi⟩
  · rintro env h ⟨v, a, b, rfl, gv, hpi, si, hik⟩
    try simp only [if_true, if_false, Bool.false_eq_true, okS_nx, ok_trB, ok_trI, ok_bind, ok_bin, ok_un, ok_k, ok_cmp, ok_cmpT, ok_chain, ok_bl, ok_nil, ok_cons, ok_call, ok_callOp, ok_isi, ok_test, ok_andT, ok_orT, ok_notT, ok_isBl, ok_andV, ok_orV, ok_notV, ok_if, okS_next, okS_seq, okS_ret, okS_expr, okS_if, okS_set, ok_run, ok_src, ok_range, ok_ok, ok_obv, ok_ob, sNext, ok_var0, ok_varS, List.map_cons, List.map_nil, List.length_cons, List.length_nil, List.replicate_succ, List.replicate_zero, List.cons_append, List.nil_append, List.getElem?_cons_zero, List.getElem?_cons_succ, List.set_cons_zero, List.set_cons_succ, Nat.reduceAdd, Nat.reduceSub, Nat.sub_self, Nat.zero_add, Nat.sub_zero]
    simp only [List.length_map, List.length_range] at hpi
    exact q _ _ gv (hpi.mono (by omega)) si
  · exact ⟨v, _, _, rfl, gv6.mono (s7.ty hp6 hp7), hp7, x05, Nat.zero_le _⟩
/-! ### a value with one thing otherwise -/
theorem bent_int {n p B : Nat} {i : Int} {mh : MH} (hi : Bd 100 i) (hp : Pot p B mh) (hB : B < 2 ^ 38) {Q : PV → MH → Prop} (q : ∀ v h, Gd h v → Pot p (B + 1) h → SubX p mh h → Q v h) : Ok (f__law_bent (n + 1) [.ref p, .int i] mh) Q := by
  unfold f__law_bent b__law_bent
  try simp only [if_true, if_false, Bool.false_eq_true, okS_nx, ok_trB, ok_trI, ok_bind, ok_bin, ok_un, ok_k, ok_cmp, ok_cmpT, ok_chain, ok_bl, ok_nil, ok_cons, ok_call, ok_callOp, ok_isi, ok_test, ok_andT, ok_orT, ok_notT, ok_isBl, ok_andV, ok_orV, ok_notV, ok_if, okS_next, okS_seq, okS_ret, okS_expr, okS_if, okS_set, ok_run, ok_src, ok_range, ok_ok, ok_obv, ok_ob, sNext, ok_var0, ok_varS, List.map_cons, List.map_nil, List.length_cons, List.length_nil, List.replicate_succ, List.replicate_zero, List.cons_append, List.nil_append, List.getElem?_cons_zero, List.getElem?_cons_succ, List.set_cons_zero, List.set_cons_succ, Nat.reduceAdd, Nat.reduceSub, Nat.sub_self, Nat.zero_add, Nat.sub_zero]
  rw [ok_isTy (t := "int") (by simp) rfl]
  try simp only [if_true, if_false, Bool.false_eq_true, okS_nx, ok_trB, ok_trI, ok_bind, ok_bin, ok_un, ok_k, ok_cmp, ok_cmpT, ok_chain, ok_bl, ok_nil, ok_cons, ok_call, ok_callOp, ok_isi, ok_test, ok_andT, ok_orT, ok_notT, ok_isBl, ok_andV, ok_orV, ok_notV, ok_if, okS_next, okS_seq, okS_ret, okS_expr, okS_if, okS_set, ok_run, ok_src, ok_range, ok_ok, ok_obv, ok_ob, sNext, ok_var0, ok_varS, List.map_cons, List.map_nil, List.length_cons, List.length_nil, List.replicate_succ, List.replicate_zero, List.cons_append, List.nil_append, List.getElem?_cons_zero, List.getElem?_cons_succ, List.set_cons_zero, List.set_cons_succ, Nat.reduceAdd, Nat.reduceSub, Nat.sub_self, Nat.zero_add, Nat.sub_zero]
  simp only [show tyIs "tuple" "int" = false from rfl, Bool.false_eq_true, if_false]
  try simp only [if_true, if_false, Bool.false_eq_true, okS_nx, ok_trB, ok_trI, ok_bind, ok_bin, ok_un, ok_k, ok_cmp, ok_cmpT, ok_chain, ok_bl, ok_nil, ok_cons, ok_call, ok_callOp, ok_isi, ok_test, ok_andT, ok_orT, ok_notT, ok_isBl, ok_andV, ok_orV, ok_notV, ok_if, okS_next, okS_seq, okS_ret, okS_expr, okS_if, okS_set, ok_run, ok_src, ok_range, ok_ok, ok_obv, ok_ob, sNext, ok_var0, ok_varS, List.map_cons, List.map_nil, List.length_cons, List.length_nil, List.replicate_succ, List.replicate_zero, List.cons_append, List.nil_append, List.getElem?_cons_zero, List.getElem?_cons_succ, List.set_cons_zero, List.set_cons_succ, Nat.reduceAdd, Nat.reduceSub, Nat.sub_self, Nat.zero_add, Nat.sub_zero]
  rw [ok_isTy (t := "int") (by simp) rfl]
  try simp only [if_true, if_false, Bool.false_eq_true, okS_nx, ok_trB, ok_trI, ok_bind, ok_bin, ok_un, ok_k, ok_cmp, ok_cmpT, ok_chain, ok_bl, ok_nil, ok_cons, ok_call, ok_callOp, ok_isi, ok_test, ok_andT, ok_orT, ok_notT, ok_isBl, ok_andV, ok_orV, ok_notV, ok_if, okS_next, okS_seq, okS_ret, okS_expr, okS_if, okS_set, ok_run, ok_src, ok_range, ok_ok, ok_obv, ok_ob, sNext, ok_var0, ok_varS, List.map_cons, List.map_nil, List.length_cons, List.length_nil, List.replicate_succ, List.replicate_zero, List.cons_append, List.nil_append, List.getElem?_cons_zero, List.getElem?_cons_succ, List.set_cons_zero, List.set_cons_succ, Nat.reduceAdd, Nat.reduceSub, Nat.sub_self, Nat.zero_add, Nat.sub_zero]
  simp only [show tyIs "tuple" "int" = false from rfl, Bool.false_eq_true, if_false]
  try simp only [if_true, if_false, Bool.false_eq_true, okS_nx, ok_trB, ok_trI, ok_bind, ok_bin, ok_un, ok_k, ok_cmp, ok_cmpT, ok_chain, ok_bl, ok_nil, ok_cons, ok_call, ok_callOp, ok_isi, ok_test, ok_andT, ok_orT, ok_notT, ok_isBl, ok_andV, ok_orV, ok_notV, ok_if, okS_next, okS_seq, okS_ret, okS_expr, okS_if, okS_set, ok_run, ok_src, ok_range, ok_ok, ok_obv, ok_ob, sNext, ok_var0, ok_varS, List.map_cons, List.map_nil, List.length_cons, List.length_nil, List.replicate_succ, List.replicate_zero, List.cons_append, List.nil_append, List.getElem?_cons_zero, List.getElem?_cons_succ, List.set_cons_zero, List.set_cons_succ, Nat.reduceAdd, Nat.reduceSub, Nat.sub_self, Nat.zero_add, Nat.sub_zero]
  rw [ok_isTy (t := "int") (by simp) rfl]
  try simp only [if_true, if_false, Bool.false_eq_true, okS_nx, ok_trB, ok_trI, ok_bind, ok_bin, ok_un, ok_k, ok_cmp, ok_cmpT, ok_chain, ok_bl, ok_nil, ok_cons, ok_call, ok_callOp, ok_isi, ok_test, ok_andT, ok_orT, ok_notT, ok_isBl, ok_andV, ok_orV, ok_notV, ok_if, okS_next, okS_seq, okS_ret, okS_expr, okS_if, okS_set, ok_run, ok_src, ok_range, ok_ok, ok_obv, ok_ob, sNext, ok_var0, ok_varS, List.map_cons, List.map_nil, List.length_cons, List.length_nil, List.replicate_succ, List.replicate_zero, List.cons_append, List.nil_append, List.getElem?_cons_zero, List.getElem?_cons_succ, List.set_cons_zero, List.set_cons_succ, Nat.reduceAdd, Nat.reduceSub, Nat.sub_self, Nat.zero_add, Nat.sub_zero]
  simp only [show tyIs "bool" "int" = false from rfl, Bool.false_eq_true, if_false]
  try simp only [if_true, if_false, Bool.false_eq_true, okS_nx, ok_trB, ok_trI, ok_bind, ok_bin, ok_un, ok_k, ok_cmp, ok_cmpT, ok_chain, ok_bl, ok_nil, ok_cons, ok_call, ok_callOp, ok_isi, ok_test, ok_andT, ok_orT, ok_notT, ok_isBl, ok_andV, ok_orV, ok_notV, ok_if, okS_next, okS_seq, okS_ret, okS_expr, okS_if, okS_set, ok_run, ok_src, ok_range, ok_ok, ok_obv, ok_ob, sNext, ok_var0, ok_varS, List.map_cons, List.map_nil, List.length_cons, List.length_nil, List.replicate_succ, List.replicate_zero, List.cons_append, List.nil_append, List.getElem?_cons_zero, List.getElem?_cons_succ, List.set_cons_zero, List.set_cons_succ, Nat.reduceAdd, Nat.reduceSub, Nat.sub_self, Nat.zero_add, Nat.sub_zero]
  rw [ok_isTy (t := "int") (by simp) rfl]
  try simp only [if_true, if_false, Bool.false_eq_true, okS_nx, ok_trB, ok_trI, ok_bind, ok_bin, ok_un, ok_k, ok_cmp, ok_cmpT, ok_chain, ok_bl, ok_nil, ok_cons, ok_call, ok_callOp, ok_isi, ok_test, ok_andT, ok_orT, ok_notT, ok_isBl, ok_andV, ok_orV, ok_notV, ok_if, okS_next, okS_seq, okS_ret, okS_expr, okS_if, okS_set, ok_run, ok_src, ok_range, ok_ok, ok_obv, ok_ob, sNext, ok_var0, ok_varS, List.map_cons, List.map_nil, List.length_cons, List.length_nil, List.replicate_succ, List.replicate_zero, List.cons_append, List.nil_append, List.getElem?_cons_zero, List.getElem?_cons_succ, List.set_cons_zero, List.set_cons_succ, Nat.reduceAdd, Nat.reduceSub, Nat.sub_self, Nat.zero_add, Nat.sub_zero]
  simp only [show tyIs "int" "int" = true from rfl, Bool.not_true, Bool.false_eq_true, if_false]
  try simp only [if_true, if_false, Bool.false_eq_true, okS_nx, ok_trB, ok_trI, ok_bind, ok_bin, ok_un, ok_k, ok_cmp, ok_cmpT, ok_chain, ok_bl, ok_nil, ok_cons, ok_call, ok_callOp, ok_isi, ok_test, ok_andT, ok_orT, ok_notT, ok_isBl, ok_andV, ok_orV, ok_notV, ok_if, okS_next, okS_seq, okS_ret, okS_expr, okS_if, okS_set, ok_run, ok_src, ok_range, ok_ok, ok_obv, ok_ob, sNext, ok_var0, ok_varS, List.map_cons, List.map_nil, List.length_cons, List.length_nil, List.replicate_succ, List.replicate_zero, List.cons_append, List.nil_append, List.getElem?_cons_zero, List.getElem?_cons_succ, List.set_cons_zero, List.set_cons_succ, Nat.reduceAdd, Nat.reduceSub, Nat.sub_self, Nat.zero_add, Nat.sub_zero]
  refine ok_mklN ?_
  try simp only [if_true, if_false, Bool.false_eq_true, okS_nx, ok_trB, ok_trI, ok_bind, ok_bin, ok_un, ok_k, ok_cmp, ok_cmpT, ok_chain, ok_bl, ok_nil, ok_cons, ok_call, ok_callOp, ok_isi, ok_test, ok_andT, ok_orT, ok_notT, ok_isBl, ok_andV, ok_orV, ok_notV, ok_if, okS_next, okS_seq, okS_ret, okS_expr, okS_if, okS_set, ok_run, ok_src, ok_range, ok_ok, ok_obv, ok_ob, sNext, ok_var0, ok_varS, List.map_cons, List.map_nil, List.length_cons, List.length_nil, List.replicate_succ, List.replicate_zero, List.cons_append, List.nil_append, List.getElem?_cons_zero, List.getElem?_cons_succ, List.set_cons_zero, List.set_cons_succ, Nat.reduceAdd, Nat.reduceSub, Nat.sub_self, Nat.zero_add, Nat.sub_zero]
  refine ok_addI.mpr (ok_subI.mpr (ok_addI.mpr (ok_negI.mpr ?_)))
  refine ok_strI (hi.mono (by decide)) ?_
  refine ok_mtup ?_
  try simp only [if_true, if_false, Bool.false_eq_true, okS_nx, ok_trB, ok_trI, ok_bind, ok_bin, ok_un, ok_k, ok_cmp, ok_cmpT, ok_chain, ok_bl, ok_nil, ok_cons, ok_call, ok_callOp, ok_isi, ok_test, ok_andT, ok_orT, ok_notT, ok_isBl, ok_andV, ok_orV, ok_notV, ok_if, okS_next, okS_seq, okS_ret, okS_expr, okS_if, okS_set, ok_run, ok_src, ok_range, ok_ok, ok_obv, ok_ob, sNext, ok_var0, ok_varS, List.map_cons, List.map_nil, List.length_cons, List.length_nil, List.replicate_succ, List.replicate_zero, List.cons_append, List.nil_append, List.getElem?_cons_zero, List.getElem?_cons_succ, List.set_cons_zero, List.set_cons_succ, Nat.reduceAdd, Nat.reduceSub, Nat.sub_self, Nat.zero_add, Nat.sub_zero]
  refine ⟨by decide, ?_⟩
  refine ⟨_, eqD_int, ?_⟩
  refine ⟨by decide, fun n3 h3 s3 f3 l3 => ?_⟩
  refine of_s (hp.sub s3) (by omega) l3 (pot_ne hp f3) (by simp) (by (try simp only [List.length_cons, List.length_nil]); omega) fun w h4 hw hp4 s4 => ?_
  have gw : Gd h3 w := (all_cons gd_int (all_cons gd_int (all_cons gd_int (all_cons gd_int (all_cons gd_str (all_cons (gd_one gd_int) (all_cons gd_bl (all_cons gd_non (all_cons gd_int (all_cons gd_int all_nil)))))))))) w hw
  exact q _ _ (gw.mono (s4.ty (hp.sub s3) hp4)) hp4 ((s3.x p).trans s4)
theorem cut_nat {α : Type} (vs : List α) (k : Nat) (hk : k ≤ vs.length) : (vs.take k).length + (vs.drop k).length = vs.length := by
  rw [List.length_take, List.length_drop]
  omega
theorem bent_tup {n p B K : Nat} {vs : List PV} {mh : MH} (hl : vs.length ≤ 50) (hd : ∀ h, neD (.tup vs) (.tup []) h = some (!vs.isEmpty)) (hg : ∀ h, ∀ w ∈ vs, Gd h w)
    (rec : ∀ w ∈ vs, ∀ B' mh (Q : PV → MH → Prop), Pot p B' mh → B' ≤ B + 2 → (∀ v h, Gd h v → Pot p (B' + K) h → SubX p mh h → Q v h) → Ok (f__law_bent n [.ref p, w] mh) Q)
    (hp : Pot p B mh) (hB : B + K + 10 < 2 ^ 38) {Q : PV → MH → Prop} (q : ∀ v h, Gd h v → Pot p (B + K + 8) h → SubX p mh h → Q v h) : Ok (f__law_bent (n + 1) [.ref p, .tup vs] mh) Q := by
  have big := big_line
  unfold f__law_bent b__law_bent
  refine ok_run.mpr (okS_seq.mpr (okS_if.mpr (Ok.imp (Q := fun k h => (k = true → 0 < vs.length) ∧ Pot p (B + 1) h ∧ SubX p mh h) ?_ fun k h hk => ?_)))
  · try simp only [if_true, if_false, Bool.false_eq_true, okS_nx, ok_trB, ok_trI, ok_bind, ok_bin, ok_un, ok_k, ok_cmp, ok_cmpT, ok_chain, ok_bl, ok_nil, ok_cons, ok_call, ok_callOp, ok_isi, ok_test, ok_andT, ok_orT, ok_notT, ok_isBl, ok_andV, ok_orV, ok_notV, ok_if, okS_next, okS_seq, okS_ret, okS_expr, okS_if, okS_set, ok_run, ok_src, ok_range, ok_ok, ok_obv, ok_ob, sNext, ok_var0, ok_varS, List.map_cons, List.map_nil, List.length_cons, List.length_nil, List.replicate_succ, List.replicate_zero, List.cons_append, List.nil_append, List.getElem?_cons_zero, List.getElem?_cons_succ, List.set_cons_zero, List.set_cons_succ, Nat.reduceAdd, Nat.reduceSub, Nat.sub_self, Nat.zero_add, Nat.sub_zero]
    rw [ok_isTy (t := "tuple") (by simp) rfl]
    try simp only [if_true, if_false, Bool.false_eq_true, okS_nx, ok_trB, ok_trI, ok_bind, ok_bin, ok_un, ok_k, ok_cmp, ok_cmpT, ok_chain, ok_bl, ok_nil, ok_cons, ok_call, ok_callOp, ok_isi, ok_test, ok_andT, ok_orT, ok_notT, ok_isBl, ok_andV, ok_orV, ok_notV, ok_if, okS_next, okS_seq, okS_ret, okS_expr, okS_if, okS_set, ok_run, ok_src, ok_range, ok_ok, ok_obv, ok_ob, sNext, ok_var0, ok_varS, List.map_cons, List.map_nil, List.length_cons, List.length_nil, List.replicate_succ, List.replicate_zero, List.cons_append, List.nil_append, List.getElem?_cons_zero, List.getElem?_cons_succ, List.set_cons_zero, List.set_cons_succ, Nat.reduceAdd, Nat.reduceSub, Nat.sub_self, Nat.zero_add, Nat.sub_zero]
    simp only [show tyIs "tuple" "tuple" = true from rfl, if_true]
    try simp only [if_true, if_false, Bool.false_eq_true, okS_nx, ok_trB, ok_trI, ok_bind, ok_bin, ok_un, ok_k, ok_cmp, ok_cmpT, ok_chain, ok_bl, ok_nil, ok_cons, ok_call, ok_callOp, ok_isi, ok_test, ok_andT, ok_orT, ok_notT, ok_isBl, ok_andV, ok_orV, ok_notV, ok_if, okS_next, okS_seq, okS_ret, okS_expr, okS_if, okS_set, ok_run, ok_src, ok_range, ok_ok, ok_obv, ok_ob, sNext, ok_var0, ok_varS, List.map_cons, List.map_nil, List.length_cons, List.length_nil, List.replicate_succ, List.replicate_zero, List.cons_append, List.nil_append, List.getElem?_cons_zero, List.getElem?_cons_succ, List.set_cons_zero, List.set_cons_succ, Nat.reduceAdd, Nat.reduceSub, Nat.sub_self, Nat.zero_add, Nat.sub_zero]
    refine ok_mtup ?_
    try simp only [if_true, if_false, Bool.false_eq_true, okS_nx, ok_trB, ok_trI, ok_bind, ok_bin, ok_un, ok_k, ok_cmp, ok_cmpT, ok_chain, ok_bl, ok_nil, ok_cons, ok_call, ok_callOp, ok_isi, ok_test, ok_andT, ok_orT, ok_notT, ok_isBl, ok_andV, ok_orV, ok_notV, ok_if, okS_next, okS_seq, okS_ret, okS_expr, okS_if, okS_set, ok_run, ok_src, ok_range, ok_ok, ok_obv, ok_ob, sNext, ok_var0, ok_varS, List.map_cons, List.map_nil, List.length_cons, List.length_nil, List.replicate_succ, List.replicate_zero, List.cons_append, List.nil_append, List.getElem?_cons_zero, List.getElem?_cons_succ, List.set_cons_zero, List.set_cons_succ, Nat.reduceAdd, Nat.reduceSub, Nat.sub_self, Nat.zero_add, Nat.sub_zero]
    refine ⟨Nat.zero_le _, _, hd _, ?_⟩
    cases vs with
    | nil => exact ⟨fun z => (Bool.false_ne_true z).elim, hp.mono (by omega), .refl _ _⟩
    | cons v vs =>
      simp only [List.isEmpty_cons, Bool.not_false, if_true]
      try simp only [if_true, if_false, Bool.false_eq_true, okS_nx, ok_trB, ok_trI, ok_bind, ok_bin, ok_un, ok_k, ok_cmp, ok_cmpT, ok_chain, ok_bl, ok_nil, ok_cons, ok_call, ok_callOp, ok_isi, ok_test, ok_andT, ok_orT, ok_notT, ok_isBl, ok_andV, ok_orV, ok_notV, ok_if, okS_next, okS_seq, okS_ret, okS_expr, okS_if, okS_set, ok_run, ok_src, ok_range, ok_ok, ok_obv, ok_ob, sNext, ok_var0, ok_varS, List.map_cons, List.map_nil, List.length_cons, List.length_nil, List.replicate_succ, List.replicate_zero, List.cons_append, List.nil_append, List.getElem?_cons_zero, List.getElem?_cons_succ, List.set_cons_zero, List.set_cons_succ, Nat.reduceAdd, Nat.reduceSub, Nat.sub_self, Nat.zero_add, Nat.sub_zero]
      refine take_s hp (by omega) (by decide) (by unfold Bd; decide) fun d h h1 h2 h3 h4 => ?_
      exact ⟨_, rfl, fun _ => Nat.succ_pos _, h3, h4⟩
  · obtain ⟨k1, k2, k3⟩ := hk
    cases k with
    | true =>
      have hpos := k1 rfl
      simp only [if_true]
      try simp only [if_true, if_false, Bool.false_eq_true, okS_nx, ok_trB, ok_trI, ok_bind, ok_bin, ok_un, ok_k, ok_cmp, ok_cmpT, ok_chain, ok_bl, ok_nil, ok_cons, ok_call, ok_callOp, ok_isi, ok_test, ok_andT, ok_orT, ok_notT, ok_isBl, ok_andV, ok_orV, ok_notV, ok_if, okS_next, okS_seq, okS_ret, okS_expr, okS_if, okS_set, ok_run, ok_src, ok_range, ok_ok, ok_obv, ok_ob, sNext, ok_var0, ok_varS, List.map_cons, List.map_nil, List.length_cons, List.length_nil, List.replicate_succ, List.replicate_zero, List.cons_append, List.nil_append, List.getElem?_cons_zero, List.getElem?_cons_succ, List.set_cons_zero, List.set_cons_succ, Nat.reduceAdd, Nat.reduceSub, Nat.sub_self, Nat.zero_add, Nat.sub_zero]
      refine ok_len (seq_tup _) ?_
      refine take_s k2 (by omega) (by omega) (by unfold Bd; omega) fun d h2 d1 d2 d3 d4 => ?_
      obtain ⟨at', rfl⟩ := Int.eq_ofNat_of_zero_le d1
      have hat : at' < vs.length := by omega
      try simp only [if_true, if_false, Bool.false_eq_true, okS_nx, ok_trB, ok_trI, ok_bind, ok_bin, ok_un, ok_k, ok_cmp, ok_cmpT, ok_chain, ok_bl, ok_nil, ok_cons, ok_call, ok_callOp, ok_isi, ok_test, ok_andT, ok_orT, ok_notT, ok_isBl, ok_andV, ok_orV, ok_notV, ok_if, okS_next, okS_seq, okS_ret, okS_expr, okS_if, okS_set, ok_run, ok_src, ok_range, ok_ok, ok_obv, ok_ob, sNext, ok_var0, ok_varS, List.map_cons, List.map_nil, List.length_cons, List.length_nil, List.replicate_succ, List.replicate_zero, List.cons_append, List.nil_append, List.getElem?_cons_zero, List.getElem?_cons_succ, List.set_cons_zero, List.set_cons_succ, Nat.reduceAdd, Nat.reduceSub, Nat.sub_self, Nat.zero_add, Nat.sub_zero, ok_sl, ok_noPart]
      refine ok_part ⟨_, rfl, ok_slT.mpr ?_⟩
      refine ok_mtup ?_
      try simp only [if_true, if_false, Bool.false_eq_true, okS_nx, ok_trB, ok_trI, ok_bind, ok_bin, ok_un, ok_k, ok_cmp, ok_cmpT, ok_chain, ok_bl, ok_nil, ok_cons, ok_call, ok_callOp, ok_isi, ok_test, ok_andT, ok_orT, ok_notT, ok_isBl, ok_andV, ok_orV, ok_notV, ok_if, okS_next, okS_seq, okS_ret, okS_expr, okS_if, okS_set, ok_run, ok_src, ok_range, ok_ok, ok_obv, ok_ob, sNext, ok_var0, ok_varS, List.map_cons, List.map_nil, List.length_cons, List.length_nil, List.replicate_succ, List.replicate_zero, List.cons_append, List.nil_append, List.getElem?_cons_zero, List.getElem?_cons_succ, List.set_cons_zero, List.set_cons_succ, Nat.reduceAdd, Nat.reduceSub, Nat.sub_self, Nat.zero_add, Nat.sub_zero]
      refine ok_ix (k := at') (seq_tup _) (List.getElem?_eq_getElem hat) (fun _ z => by cases z) ?_
      refine rec _ (List.getElem_mem hat) _ _ _ d3 (by omega) fun b h3 gb pb sb => ?_
      refine ⟨by (try simp only [List.length_cons, List.length_nil]); omega, ?_⟩
      rw [cut_to]
      have l1 : (vs.take at').length = at' := by rw [List.length_take]; omega
      refine ok_addT (by simp; omega) ?_
      refine ok_part ?_
      try simp only [if_true, if_false, Bool.false_eq_true, okS_nx, ok_trB, ok_trI, ok_bind, ok_bin, ok_un, ok_k, ok_cmp, ok_cmpT, ok_chain, ok_bl, ok_nil, ok_cons, ok_call, ok_callOp, ok_isi, ok_test, ok_andT, ok_orT, ok_notT, ok_isBl, ok_andV, ok_orV, ok_notV, ok_if, okS_next, okS_seq, okS_ret, okS_expr, okS_if, okS_set, ok_run, ok_src, ok_range, ok_ok, ok_obv, ok_ob, sNext, ok_var0, ok_varS, List.map_cons, List.map_nil, List.length_cons, List.length_nil, List.replicate_succ, List.replicate_zero, List.cons_append, List.nil_append, List.getElem?_cons_zero, List.getElem?_cons_succ, List.set_cons_zero, List.set_cons_succ, Nat.reduceAdd, Nat.reduceSub, Nat.sub_self, Nat.zero_add, Nat.sub_zero, ok_addI]
      refine ⟨_, rfl, ok_slT.mpr ?_⟩
      rw [show ((at' : Int) + 1) = ((at' + 1 : Nat) : Int) by omega, cut_from]
      refine ok_addT (by simp; omega) ?_
      refine q _ _ ?_ (pb.mono (by omega)) ((k3.trans d4).trans sb)
      refine .tup (by simp; omega) (all_app (all_app (fun w hw => hg _ w (List.mem_of_mem_take hw)) (all_cons gb all_nil)) fun w hw => hg _ w (List.mem_of_mem_drop hw))
    | false =>
      simp only [Bool.false_eq_true, if_false]
      try simp only [if_true, if_false, Bool.false_eq_true, okS_nx, ok_trB, ok_trI, ok_bind, ok_bin, ok_un, ok_k, ok_cmp, ok_cmpT, ok_chain, ok_bl, ok_nil, ok_cons, ok_call, ok_callOp, ok_isi, ok_test, ok_andT, ok_orT, ok_notT, ok_isBl, ok_andV, ok_orV, ok_notV, ok_if, okS_next, okS_seq, okS_ret, okS_expr, okS_if, okS_set, ok_run, ok_src, ok_range, ok_ok, ok_obv, ok_ob, sNext, ok_var0, ok_varS, List.map_cons, List.map_nil, List.length_cons, List.length_nil, List.replicate_succ, List.replicate_zero, List.cons_append, List.nil_append, List.getElem?_cons_zero, List.getElem?_cons_succ, List.set_cons_zero, List.set_cons_succ, Nat.reduceAdd, Nat.reduceSub, Nat.sub_self, Nat.zero_add, Nat.sub_zero]
      rw [ok_isTy (t := "tuple") (by simp) rfl]
      try simp only [if_true, if_false, Bool.false_eq_true, okS_nx, ok_trB, ok_trI, ok_bind, ok_bin, ok_un, ok_k, ok_cmp, ok_cmpT, ok_chain, ok_bl, ok_nil, ok_cons, ok_call, ok_callOp, ok_isi, ok_test, ok_andT, ok_orT, ok_notT, ok_isBl, ok_andV, ok_orV, ok_notV, ok_if, okS_next, okS_seq, okS_ret, okS_expr, okS_if, okS_set, ok_run, ok_src, ok_range, ok_ok, ok_obv, ok_ob, sNext, ok_var0, ok_varS, List.map_cons, List.map_nil, List.length_cons, List.length_nil, List.replicate_succ, List.replicate_zero, List.cons_append, List.nil_append, List.getElem?_cons_zero, List.getElem?_cons_succ, List.set_cons_zero, List.set_cons_succ, Nat.reduceAdd, Nat.reduceSub, Nat.sub_self, Nat.zero_add, Nat.sub_zero]
      simp only [show tyIs "tuple" "tuple" = true from rfl, if_true]
      try simp only [if_true, if_false, Bool.false_eq_true, okS_nx, ok_trB, ok_trI, ok_bind, ok_bin, ok_un, ok_k, ok_cmp, ok_cmpT, ok_chain, ok_bl, ok_nil, ok_cons, ok_call, ok_callOp, ok_isi, ok_test, ok_andT, ok_orT, ok_notT, ok_isBl, ok_andV, ok_orV, ok_notV, ok_if, okS_next, okS_seq, okS_ret, okS_expr, okS_if, okS_set, ok_run, ok_src, ok_range, ok_ok, ok_obv, ok_ob, sNext, ok_var0, ok_varS, List.map_cons, List.map_nil, List.length_cons, List.length_nil, List.replicate_succ, List.replicate_zero, List.cons_append, List.nil_append, List.getElem?_cons_zero, List.getElem?_cons_succ, List.set_cons_zero, List.set_cons_succ, Nat.reduceAdd, Nat.reduceSub, Nat.sub_self, Nat.zero_add, Nat.sub_zero]
      refine ok_len (seq_tup _) ?_
      refine ok_addI.mpr ?_
      refine take_s k2 (by omega) (by omega) (by unfold Bd; omega) fun d h2 d1 d2 d3 d4 => ?_
      obtain ⟨at', rfl⟩ := Int.eq_ofNat_of_zero_le d1
      have hat : at' ≤ vs.length := by omega
      have hg' : ∀ (h : MH), Gd h (.tup vs) := fun h => .tup (by omega) (hg h)
      refine ok_mklN ?_
      try simp only [if_true, if_false, Bool.false_eq_true, okS_nx, ok_trB, ok_trI, ok_bind, ok_bin, ok_un, ok_k, ok_cmp, ok_cmpT, ok_chain, ok_bl, ok_nil, ok_cons, ok_call, ok_callOp, ok_isi, ok_test, ok_andT, ok_orT, ok_notT, ok_isBl, ok_andV, ok_orV, ok_notV, ok_if, okS_next, okS_seq, okS_ret, okS_expr, okS_if, okS_set, ok_run, ok_src, ok_range, ok_ok, ok_obv, ok_ob, sNext, ok_var0, ok_varS, List.map_cons, List.map_nil, List.length_cons, List.length_nil, List.replicate_succ, List.replicate_zero, List.cons_append, List.nil_append, List.getElem?_cons_zero, List.getElem?_cons_succ, List.set_cons_zero, List.set_cons_succ, Nat.reduceAdd, Nat.reduceSub, Nat.sub_self, Nat.zero_add, Nat.sub_zero]
      refine ok_listN (seq_tup _) fun n1 h3 s3 f3 l3 => ?_
      try simp only [if_true, if_false, Bool.false_eq_true, okS_nx, ok_trB, ok_trI, ok_bind, ok_bin, ok_un, ok_k, ok_cmp, ok_cmpT, ok_chain, ok_bl, ok_nil, ok_cons, ok_call, ok_callOp, ok_isi, ok_test, ok_andT, ok_orT, ok_notT, ok_isBl, ok_andV, ok_orV, ok_notV, ok_if, okS_next, okS_seq, okS_ret, okS_expr, okS_if, okS_set, ok_run, ok_src, ok_range, ok_ok, ok_obv, ok_ob, sNext, ok_var0, ok_varS, List.map_cons, List.map_nil, List.length_cons, List.length_nil, List.replicate_succ, List.replicate_zero, List.cons_append, List.nil_append, List.getElem?_cons_zero, List.getElem?_cons_succ, List.set_cons_zero, List.set_cons_succ, Nat.reduceAdd, Nat.reduceSub, Nat.sub_self, Nat.zero_add, Nat.sub_zero, ok_sl, ok_noPart]
      refine ok_part ⟨_, rfl, ok_slT.mpr ?_⟩
      refine ok_part ?_
      try simp only [if_true, if_false, Bool.false_eq_true, okS_nx, ok_trB, ok_trI, ok_bind, ok_bin, ok_un, ok_k, ok_cmp, ok_cmpT, ok_chain, ok_bl, ok_nil, ok_cons, ok_call, ok_callOp, ok_isi, ok_test, ok_andT, ok_orT, ok_notT, ok_isBl, ok_andV, ok_orV, ok_notV, ok_if, okS_next, okS_seq, okS_ret, okS_expr, okS_if, okS_set, ok_run, ok_src, ok_range, ok_ok, ok_obv, ok_ob, sNext, ok_var0, ok_varS, List.map_cons, List.map_nil, List.length_cons, List.length_nil, List.replicate_succ, List.replicate_zero, List.cons_append, List.nil_append, List.getElem?_cons_zero, List.getElem?_cons_succ, List.set_cons_zero, List.set_cons_succ, Nat.reduceAdd, Nat.reduceSub, Nat.sub_self, Nat.zero_add, Nat.sub_zero, ok_addI]
      refine ⟨_, rfl, ok_slT.mpr ?_⟩
      rw [show ((at' : Int) + 1) = ((at' + 1 : Nat) : Int) by omega, cut_from, cut_to]
      refine ok_addT (by simp; omega) ?_
      refine ok_part ⟨_, rfl, ?_⟩
      refine ok_part ?_
      try simp only [if_true, if_false, Bool.false_eq_true, okS_nx, ok_trB, ok_trI, ok_bind, ok_bin, ok_un, ok_k, ok_cmp, ok_cmpT, ok_chain, ok_bl, ok_nil, ok_cons, ok_call, ok_callOp, ok_isi, ok_test, ok_andT, ok_orT, ok_notT, ok_isBl, ok_andV, ok_orV, ok_notV, ok_if, okS_next, okS_seq, okS_ret, okS_expr, okS_if, okS_set, ok_run, ok_src, ok_range, ok_ok, ok_obv, ok_ob, sNext, ok_var0, ok_varS, List.map_cons, List.map_nil, List.length_cons, List.length_nil, List.replicate_succ, List.replicate_zero, List.cons_append, List.nil_append, List.getElem?_cons_zero, List.getElem?_cons_succ, List.set_cons_zero, List.set_cons_succ, Nat.reduceAdd, Nat.reduceSub, Nat.sub_self, Nat.zero_add, Nat.sub_zero, ok_addI]
      refine ⟨_, rfl, ok_slT.mpr ?_⟩
      have cl := cut_len vs (some (at' : Int)) (some ((at' : Int) + 1))
      refine ok_addT (by omega) ?_
      try simp only [if_true, if_false, Bool.false_eq_true, okS_nx, ok_trB, ok_trI, ok_bind, ok_bin, ok_un, ok_k, ok_cmp, ok_cmpT, ok_chain, ok_bl, ok_nil, ok_cons, ok_call, ok_callOp, ok_isi, ok_test, ok_andT, ok_orT, ok_notT, ok_isBl, ok_andV, ok_orV, ok_notV, ok_if, okS_next, okS_seq, okS_ret, okS_expr, okS_if, okS_set, ok_run, ok_src, ok_range, ok_ok, ok_obv, ok_ob, sNext, ok_var0, ok_varS, List.map_cons, List.map_nil, List.length_cons, List.length_nil, List.replicate_succ, List.replicate_zero, List.cons_append, List.nil_append, List.getElem?_cons_zero, List.getElem?_cons_succ, List.set_cons_zero, List.set_cons_succ, Nat.reduceAdd, Nat.reduceSub, Nat.sub_self, Nat.zero_add, Nat.sub_zero, ok_rev]
      refine ok_revT.mpr ?_
      refine ok_part ⟨_, rfl, ok_slT.mpr ?_⟩
      refine ok_mtup ?_
      try simp only [if_true, if_false, Bool.false_eq_true, okS_nx, ok_trB, ok_trI, ok_bind, ok_bin, ok_un, ok_k, ok_cmp, ok_cmpT, ok_chain, ok_bl, ok_nil, ok_cons, ok_call, ok_callOp, ok_isi, ok_test, ok_andT, ok_orT, ok_notT, ok_isBl, ok_andV, ok_orV, ok_notV, ok_if, okS_next, okS_seq, okS_ret, okS_expr, okS_if, okS_set, ok_run, ok_src, ok_range, ok_ok, ok_obv, ok_ob, sNext, ok_var0, ok_varS, List.map_cons, List.map_nil, List.length_cons, List.length_nil, List.replicate_succ, List.replicate_zero, List.cons_append, List.nil_append, List.getElem?_cons_zero, List.getElem?_cons_succ, List.set_cons_zero, List.set_cons_succ, Nat.reduceAdd, Nat.reduceSub, Nat.sub_self, Nat.zero_add, Nat.sub_zero]
      refine odd_s (d3.sub s3) (by omega) fun ov h4 go po so => ?_
      refine ⟨by (try simp only [List.length_cons, List.length_nil]); omega, ?_⟩
      rw [cut_to]
      have l1 : (vs.take at').length = at' := by rw [List.length_take]; omega
      refine ok_addT (by simp; omega) ?_
      refine ok_part ⟨_, rfl, ok_slT.mpr ?_⟩
      rw [cut_from]
      refine ok_addT (by simp; omega) ?_
      refine ⟨by (try simp only [List.length_cons, List.length_nil]); omega, fun n5 h5 s5 f5 l5 => ?_⟩
      refine of_s (po.sub s5) (by omega) l5 (pot_ne po f5) (by simp) (by (try simp only [List.length_cons, List.length_nil]); omega) fun w h6 hw hp6 s6 => ?_
      have f1 : Gd h5 (.ref n1) := gd_lst (s5 _ _ (so _ _ (pot_ne (d3) f3) l3))
      have f2 : Gd h5 (.tup (vs.take at' ++ vs.drop (at' + 1))) := .tup (by simp; omega) (all_app (fun w hw => hg _ w (List.mem_of_mem_take hw)) fun w hw => hg _ w (List.mem_of_mem_drop hw))
      have f3 : Gd h5 (.tup (vs ++ cutL vs (some (at' : Int)) (some ((at' : Int) + 1)))) := by
        have : (cutL vs (some (at' : Int)) (some ((at' : Int) + 1))).length ≤ 1 := by
          rw [show ((at' : Int) + 1) = ((at' + 1 : Nat) : Int) by omega]
          unfold cutL HT.sIx
          simp only
          rw [if_neg (by omega), if_neg (by omega), List.length_take]
          simp only [Int.toNat_natCast]
          omega
        refine .tup (by rw [List.length_append]; omega) (all_app (hg _) (gd_cut (hg _)))
      have f4 : Gd h5 (.tup vs.reverse) := .tup (by simp; omega) fun w hw => hg _ w (List.mem_reverse.mp hw)
      have f5 : Gd h5 (.tup (vs.take at' ++ [ov] ++ vs.drop at')) := .tup (by simp; omega) (all_app (all_app (fun w hw => hg _ w (List.mem_of_mem_take hw)) (all_cons (go.mono s5.ty) all_nil)) fun w hw => hg _ w (List.mem_of_mem_drop hw))
      have gw : Gd h5 w := (all_cons f1 (all_cons f2 (all_cons f3 (all_cons f4 (all_cons f5 all_nil))))) w hw
      exact q _ _ (gw.mono (s6.ty (po.sub s5) hp6)) (hp6.mono (by omega)) (((((k3.trans d4).trans (s3.x p)).trans so).trans (s5.x p)).trans s6)
end K10
namespace K10
open PySem PySem.Spec PyProof.Rows L2 RZ Ev
theorem bent_ints {n p B : Nat} {l : List Int} {mh : MH} (hl : l.length ≤ 40) (hb : ∀ i ∈ l, Bd 100 i) (hp : Pot p B mh) (hB : B < 2 ^ 37) {Q : PV → MH → Prop} (q : ∀ v h, Gd h v → Pot p (B + 9) h → SubX p mh h → Q v h) : Ok (f__law_bent (n + 2) [.ref p, iT l] mh) Q := by
  refine bent_tup (n := n + 1) (K := 1) (by rw [List.length_map]; omega) (fun h => ?_) (fun h w hw => ?_) (fun w hw B' mh' Q' hp' hB' q' => ?_) hp (by omega) q
  · unfold neD
    have := eqD_tup (mh := h) (a := l) (b := [])
    rw [show (PV.tup [] : PV) = iT [] from rfl, this]
    cases l <;> rfl
  · obtain ⟨i, _, rfl⟩ := List.mem_map.mp hw
    exact gd_int
  · obtain ⟨i, hi, rfl⟩ := List.mem_map.mp hw
    exact bent_int (hb i hi) hp' (by omega) q'
theorem toD_tupN (n : Nat) (mh : MH) (l : List Int) : toD (n + 1 + 1) mh (iT l) = some (.tuple (l.map PyData.int)) := by
  rw [toD]
  simp only [allD_ints]
theorem told_d {k : Int} {a b : List Int} {h : MH} : toD dataFuel h (.tup [.int k, iT a, iT b]) = some (.tuple [.int k, .tuple (a.map PyData.int), .tuple (b.map PyData.int)]) := by
  show toD (64 + 1 + 1) h _ = _
  have ei : toD (64 + 1) h (.int k) = some (.int k) := rfl
  rw [toD]
  simp only [allD, ei, toD_tupN 63]
theorem told_ne {k : Int} {a b : List Int} {h : MH} : neD (.tup [.int k, iT a, iT b]) (.tup []) h = some true := by
  have e1 := told_d (k := k) (a := a) (b := b) (h := h)
  have e2 : toD dataFuel h (.tup []) = some (.tuple []) := by
    show toD (65 + 1) h _ = _
    rw [toD]
    rfl
  have d1 := depth_ints a
  have d2 := depth_ints b
  have c1 := lay_ints a
  have c2 := lay_ints b
  have s1 : SeqAt.shaped (.tuple [.int k, .tuple (a.map PyData.int), .tuple (b.map PyData.int)]) = true := by
    unfold SeqAt.shaped
    rw [Bool.and_eq_true]
    refine ⟨by simp only [PyData.canLay0, PyData.canLayAll0, c1, c2, Bool.and_self], decide_eq_true ?_⟩
    simp only [PyData.depth, PyData.depthAll]
    omega
  unfold neD eqD
  rw [e1, e2]
  simp only [s1, show SeqAt.shaped (.tuple []) = true from rfl, Bool.and_self, if_true]
  rfl
theorem bent_told {p B : Nat} {k : Int} {a b : List Int} {mh : MH} (hk : Bd 100 k) (ha : a.length ≤ 40) (hb : b.length ≤ 40) (ia : ∀ i ∈ a, Bd 100 i) (ib : ∀ i ∈ b, Bd 100 i) (hp : Pot p B mh) (hB : B < 2 ^ 36) {Q : PV → MH → Prop} (q : ∀ v h, Gd h v → Pot p (B + 17) h → SubX p mh h → Q v h) : Ok (f__law_bent 6 [.ref p, .tup [.int k, iT a, iT b]] mh) Q := by
  refine bent_tup (n := 5) (K := 9) (by (try simp only [List.length_cons, List.length_nil]); omega) (fun h => told_ne) (fun h => all_cons gd_int (all_cons (gd_ints (by omega)) (all_cons (gd_ints (by omega)) all_nil))) (fun w hw B' mh' Q' hp' hB' q' => ?_) hp (by omega) q
  rcases List.mem_cons.mp hw with rfl | hw
  · exact bent_int (n := 4) hk hp' (by omega) fun v h g1 g2 g3 => q' v h g1 (g2.mono (by omega)) g3
  rcases List.mem_cons.mp hw with rfl | hw
  · exact bent_ints (n := 3) ha ia hp' (by omega) q'
  · rw [List.mem_singleton] at hw
    subst hw
    exact bent_ints (n := 3) hb ib hp' (by omega) q'
theorem gd_rep {h : MH} {i : Int} {k : Nat} (hk : k ≤ 60) : Gd h (.tup (rep [.int i] (k : Int))) := by
  rw [rep_one]
  refine .tup (by rw [List.length_replicate]; exact hk) fun w hw => ?_
  rw [(List.mem_replicate.mp hw).2]
  exact gd_int
theorem gd_cutI {h : MH} {l : List Int} {lo hi : Option Int} (hl : l.length ≤ 60) : Gd h (.tup (cutL (iL l) lo hi)) := .tup (Nat.le_trans (cut_len _ _ _) (by rw [List.length_map]; exact hl)) fun w hw => by
  obtain ⟨i, _, rfl⟩ := List.mem_map.mp (cut_mem hw)
  exact gd_int
theorem values_s {row : List Int} {T : Nat} {pl lot : List Int} (hr : row.length ≤ 30) (hT : T ≤ 30) (hpl : pl.length ≤ 30) (hlot : lot.length ≤ 30) (ipl : ∀ i ∈ pl, Bd 100 i) (ilot : ∀ i ∈ lot, Bd 100 i) {p B : Nat} {mh : MH} (hp : Pot p B mh) (hB : B < 2 ^ 35)
    {Q : PV → MH → Prop} (q : ∀ n vs h, h[n]? = some (.lst vs) → n ≠ p → vs.length ≤ 200 → (∀ v ∈ vs, Gd h v) → Pot p (B + 1000) h → SubX p mh h → Q (.ref n) h) : Ok (f__law_values [.ref p, iT row, .tup [.int (T : Nat), iT pl, iT lot]] mh) Q := by
  have big := big_line
  have tk : Bd 100 (T : Int) := by unfold Bd; omega
  have gpl : ∀ h : MH, Gd h (iT pl) := fun h => gd_ints (by omega)
  have glot : ∀ h : MH, Gd h (iT lot) := fun h => gd_ints (by omega)
  have gt : ∀ h : MH, Gd h (.tup [.int (T : Nat), iT pl, iT lot]) := fun h => gd_three gd_int (gpl h) (glot h)
  unfold f__law_values
  try simp only [if_true, if_false, Bool.false_eq_true, okS_nx, ok_trB, ok_trI, ok_bind, ok_bin, ok_un, ok_k, ok_cmp, ok_cmpT, ok_chain, ok_bl, ok_nil, ok_cons, ok_call, ok_callOp, ok_isi, ok_test, ok_andT, ok_orT, ok_notT, ok_isBl, ok_andV, ok_orV, ok_notV, ok_if, okS_next, okS_seq, okS_ret, okS_expr, okS_if, okS_set, ok_run, ok_src, ok_range, ok_ok, ok_obv, ok_ob, sNext, ok_var0, ok_varS, List.map_cons, List.map_nil, List.length_cons, List.length_nil, List.replicate_succ, List.replicate_zero, List.cons_append, List.nil_append, List.getElem?_cons_zero, List.getElem?_cons_succ, List.set_cons_zero, List.set_cons_succ, Nat.reduceAdd, Nat.reduceSub, Nat.sub_self, Nat.zero_add, Nat.sub_zero, okS_asg]
  refine ⟨_, rfl, ?_⟩
  simp only [List.set_cons_succ, List.set_cons_zero]
  try simp only [if_true, if_false, Bool.false_eq_true, okS_nx, ok_trB, ok_trI, ok_bind, ok_bin, ok_un, ok_k, ok_cmp, ok_cmpT, ok_chain, ok_bl, ok_nil, ok_cons, ok_call, ok_callOp, ok_isi, ok_test, ok_andT, ok_orT, ok_notT, ok_isBl, ok_andV, ok_orV, ok_notV, ok_if, okS_next, okS_seq, okS_ret, okS_expr, okS_if, okS_set, ok_run, ok_src, ok_range, ok_ok, ok_obv, ok_ob, sNext, ok_var0, ok_varS, List.map_cons, List.map_nil, List.length_cons, List.length_nil, List.replicate_succ, List.replicate_zero, List.cons_append, List.nil_append, List.getElem?_cons_zero, List.getElem?_cons_succ, List.set_cons_zero, List.set_cons_succ, Nat.reduceAdd, Nat.reduceSub, Nat.sub_self, Nat.zero_add, Nat.sub_zero, okS_asg]
  refine ok_mklN ?_
  try simp only [if_true, if_false, Bool.false_eq_true, okS_nx, ok_trB, ok_trI, ok_bind, ok_bin, ok_un, ok_k, ok_cmp, ok_cmpT, ok_chain, ok_bl, ok_nil, ok_cons, ok_call, ok_callOp, ok_isi, ok_test, ok_andT, ok_orT, ok_notT, ok_isBl, ok_andV, ok_orV, ok_notV, ok_if, okS_next, okS_seq, okS_ret, okS_expr, okS_if, okS_set, ok_run, ok_src, ok_range, ok_ok, ok_obv, ok_ob, sNext, ok_var0, ok_varS, List.map_cons, List.map_nil, List.length_cons, List.length_nil, List.replicate_succ, List.replicate_zero, List.cons_append, List.nil_append, List.getElem?_cons_zero, List.getElem?_cons_succ, List.set_cons_zero, List.set_cons_succ, Nat.reduceAdd, Nat.reduceSub, Nat.sub_self, Nat.zero_add, Nat.sub_zero]
  refine ok_listN (seq_tup _) fun n1 h1 s1 f1 l1 => ?_
  try simp only [if_true, if_false, Bool.false_eq_true, okS_nx, ok_trB, ok_trI, ok_bind, ok_bin, ok_un, ok_k, ok_cmp, ok_cmpT, ok_chain, ok_bl, ok_nil, ok_cons, ok_call, ok_callOp, ok_isi, ok_test, ok_andT, ok_orT, ok_notT, ok_isBl, ok_andV, ok_orV, ok_notV, ok_if, okS_next, okS_seq, okS_ret, okS_expr, okS_if, okS_set, ok_run, ok_src, ok_range, ok_ok, ok_obv, ok_ob, sNext, ok_var0, ok_varS, List.map_cons, List.map_nil, List.length_cons, List.length_nil, List.replicate_succ, List.replicate_zero, List.cons_append, List.nil_append, List.getElem?_cons_zero, List.getElem?_cons_succ, List.set_cons_zero, List.set_cons_succ, Nat.reduceAdd, Nat.reduceSub, Nat.sub_self, Nat.zero_add, Nat.sub_zero, ok_sl, ok_noPart]
  refine ok_part ⟨_, rfl, ok_slT.mpr ?_⟩
  refine ok_mtup ?_
  try simp only [if_true, if_false, Bool.false_eq_true, okS_nx, ok_trB, ok_trI, ok_bind, ok_bin, ok_un, ok_k, ok_cmp, ok_cmpT, ok_chain, ok_bl, ok_nil, ok_cons, ok_call, ok_callOp, ok_isi, ok_test, ok_andT, ok_orT, ok_notT, ok_isBl, ok_andV, ok_orV, ok_notV, ok_if, okS_next, okS_seq, okS_ret, okS_expr, okS_if, okS_set, ok_run, ok_src, ok_range, ok_ok, ok_obv, ok_ob, sNext, ok_var0, ok_varS, List.map_cons, List.map_nil, List.length_cons, List.length_nil, List.replicate_succ, List.replicate_zero, List.cons_append, List.nil_append, List.getElem?_cons_zero, List.getElem?_cons_succ, List.set_cons_zero, List.set_cons_succ, Nat.reduceAdd, Nat.reduceSub, Nat.sub_self, Nat.zero_add, Nat.sub_zero]
  refine ⟨by (try simp only [List.length_cons, List.length_nil]); omega, ?_⟩
  refine ok_addT (by (try simp only [List.length_cons, List.length_nil]); omega) ?_
  refine ok_mtup ?_
  try simp only [if_true, if_false, Bool.false_eq_true, okS_nx, ok_trB, ok_trI, ok_bind, ok_bin, ok_un, ok_k, ok_cmp, ok_cmpT, ok_chain, ok_bl, ok_nil, ok_cons, ok_call, ok_callOp, ok_isi, ok_test, ok_andT, ok_orT, ok_notT, ok_isBl, ok_andV, ok_orV, ok_notV, ok_if, okS_next, okS_seq, okS_ret, okS_expr, okS_if, okS_set, ok_run, ok_src, ok_range, ok_ok, ok_obv, ok_ob, sNext, ok_var0, ok_varS, List.map_cons, List.map_nil, List.length_cons, List.length_nil, List.replicate_succ, List.replicate_zero, List.cons_append, List.nil_append, List.getElem?_cons_zero, List.getElem?_cons_succ, List.set_cons_zero, List.set_cons_succ, Nat.reduceAdd, Nat.reduceSub, Nat.sub_self, Nat.zero_add, Nat.sub_zero]
  refine ok_addI.mpr ?_
  refine ⟨by (try simp only [List.length_cons, List.length_nil]); omega, ?_⟩
  refine ok_mtup ?_
  try simp only [if_true, if_false, Bool.false_eq_true, okS_nx, ok_trB, ok_trI, ok_bind, ok_bin, ok_un, ok_k, ok_cmp, ok_cmpT, ok_chain, ok_bl, ok_nil, ok_cons, ok_call, ok_callOp, ok_isi, ok_test, ok_andT, ok_orT, ok_notT, ok_isBl, ok_andV, ok_orV, ok_notV, ok_if, okS_next, okS_seq, okS_ret, okS_expr, okS_if, okS_set, ok_run, ok_src, ok_range, ok_ok, ok_obv, ok_ob, sNext, ok_var0, ok_varS, List.map_cons, List.map_nil, List.length_cons, List.length_nil, List.replicate_succ, List.replicate_zero, List.cons_append, List.nil_append, List.getElem?_cons_zero, List.getElem?_cons_succ, List.set_cons_zero, List.set_cons_succ, Nat.reduceAdd, Nat.reduceSub, Nat.sub_self, Nat.zero_add, Nat.sub_zero]
  refine ok_subI.mpr ?_
  refine ⟨by (try simp only [List.length_cons, List.length_nil]); omega, ?_⟩
  refine ok_mtup ?_
  try simp only [if_true, if_false, Bool.false_eq_true, okS_nx, ok_trB, ok_trI, ok_bind, ok_bin, ok_un, ok_k, ok_cmp, ok_cmpT, ok_chain, ok_bl, ok_nil, ok_cons, ok_call, ok_callOp, ok_isi, ok_test, ok_andT, ok_orT, ok_notT, ok_isBl, ok_andV, ok_orV, ok_notV, ok_if, okS_next, okS_seq, okS_ret, okS_expr, okS_if, okS_set, ok_run, ok_src, ok_range, ok_ok, ok_obv, ok_ob, sNext, ok_var0, ok_varS, List.map_cons, List.map_nil, List.length_cons, List.length_nil, List.replicate_succ, List.replicate_zero, List.cons_append, List.nil_append, List.getElem?_cons_zero, List.getElem?_cons_succ, List.set_cons_zero, List.set_cons_succ, Nat.reduceAdd, Nat.reduceSub, Nat.sub_self, Nat.zero_add, Nat.sub_zero]
  refine ⟨by (try simp only [List.length_cons, List.length_nil]); omega, ?_⟩
  refine ⟨by (try simp only [List.length_cons, List.length_nil]); omega, fun nf h2 s2 f2 l2 => ?_⟩
  refine ⟨_, rfl, ?_⟩
  simp only [List.set_cons_succ, List.set_cons_zero]
  have nw : mh[nf]? = none := by
    cases e : mh[nf]? with
    | none => rfl
    | some o =>
      have := s1 _ _ e
      rw [f2] at this
      cases this
  have F0 : Fd p mh nf _ 7 B h2 := ⟨l2, by (try simp only [List.length_cons, List.length_nil]); omega, all_cons (gt _) (all_cons (gd_lst (s2 _ _ l1)) (all_cons (.tup (Nat.le_trans (cut_len _ _ _) (by simp)) (gd_cut (gt h2).tupE.2)) (all_cons (.tup (by simp) (all_app (gt h2).tupE.2 (all_cons gd_int all_nil))) (all_cons (gd_three gd_int (gpl _) (glot _)) (all_cons (gd_three gd_int (gpl _) (glot _)) (all_cons (gd_three gd_int (glot _) (gpl _)) all_nil)))))), (hp.sub s1).sub s2, (s1.trans s2).x p, nw, pot_ne (hp.sub s1) f2⟩
  obtain ⟨vs0, F0⟩ : ∃ vs0, Fd p mh nf vs0 7 B h2 := ⟨_, F0⟩
  -- the first four more
  try simp only [if_true, if_false, Bool.false_eq_true, okS_nx, ok_trB, ok_trI, ok_bind, ok_bin, ok_un, ok_k, ok_cmp, ok_cmpT, ok_chain, ok_bl, ok_nil, ok_cons, ok_call, ok_callOp, ok_isi, ok_test, ok_andT, ok_orT, ok_notT, ok_isBl, ok_andV, ok_orV, ok_notV, ok_if, okS_next, okS_seq, okS_ret, okS_expr, okS_if, okS_set, ok_run, ok_src, ok_range, ok_ok, ok_obv, ok_ob, sNext, ok_var0, ok_varS, List.map_cons, List.map_nil, List.length_cons, List.length_nil, List.replicate_succ, List.replicate_zero, List.cons_append, List.nil_append, List.getElem?_cons_zero, List.getElem?_cons_succ, List.set_cons_zero, List.set_cons_succ, Nat.reduceAdd, Nat.reduceSub, Nat.sub_self, Nat.zero_add, Nat.sub_zero, ok_meth1]
  refine ok_recv ⟨_, _, rfl, F0.is, ?_⟩
  refine ok_mklN ?_
  try simp only [if_true, if_false, Bool.false_eq_true, okS_nx, ok_trB, ok_trI, ok_bind, ok_bin, ok_un, ok_k, ok_cmp, ok_cmpT, ok_chain, ok_bl, ok_nil, ok_cons, ok_call, ok_callOp, ok_isi, ok_test, ok_andT, ok_orT, ok_notT, ok_isBl, ok_andV, ok_orV, ok_notV, ok_if, okS_next, okS_seq, okS_ret, okS_expr, okS_if, okS_set, ok_run, ok_src, ok_range, ok_ok, ok_obv, ok_ob, sNext, ok_var0, ok_varS, List.map_cons, List.map_nil, List.length_cons, List.length_nil, List.replicate_succ, List.replicate_zero, List.cons_append, List.nil_append, List.getElem?_cons_zero, List.getElem?_cons_succ, List.set_cons_zero, List.set_cons_succ, Nat.reduceAdd, Nat.reduceSub, Nat.sub_self, Nat.zero_add, Nat.sub_zero]
  refine ok_mtup ?_
  try simp only [if_true, if_false, Bool.false_eq_true, okS_nx, ok_trB, ok_trI, ok_bind, ok_bin, ok_un, ok_k, ok_cmp, ok_cmpT, ok_chain, ok_bl, ok_nil, ok_cons, ok_call, ok_callOp, ok_isi, ok_test, ok_andT, ok_orT, ok_notT, ok_isBl, ok_andV, ok_orV, ok_notV, ok_if, okS_next, okS_seq, okS_ret, okS_expr, okS_if, okS_set, ok_run, ok_src, ok_range, ok_ok, ok_obv, ok_ob, sNext, ok_var0, ok_varS, List.map_cons, List.map_nil, List.length_cons, List.length_nil, List.replicate_succ, List.replicate_zero, List.cons_append, List.nil_append, List.getElem?_cons_zero, List.getElem?_cons_succ, List.set_cons_zero, List.set_cons_succ, Nat.reduceAdd, Nat.reduceSub, Nat.sub_self, Nat.zero_add, Nat.sub_zero, ok_sl, ok_noPart]
  refine ok_part ⟨_, rfl, ok_slT.mpr ?_⟩
  refine ⟨by (try simp only [List.length_cons, List.length_nil]); omega, ?_⟩
  refine ok_mtup ?_
  try simp only [if_true, if_false, Bool.false_eq_true, okS_nx, ok_trB, ok_trI, ok_bind, ok_bin, ok_un, ok_k, ok_cmp, ok_cmpT, ok_chain, ok_bl, ok_nil, ok_cons, ok_call, ok_callOp, ok_isi, ok_test, ok_andT, ok_orT, ok_notT, ok_isBl, ok_andV, ok_orV, ok_notV, ok_if, okS_next, okS_seq, okS_ret, okS_expr, okS_if, okS_set, ok_run, ok_src, ok_range, ok_ok, ok_obv, ok_ob, sNext, ok_var0, ok_varS, List.map_cons, List.map_nil, List.length_cons, List.length_nil, List.replicate_succ, List.replicate_zero, List.cons_append, List.nil_append, List.getElem?_cons_zero, List.getElem?_cons_succ, List.set_cons_zero, List.set_cons_succ, Nat.reduceAdd, Nat.reduceSub, Nat.sub_self, Nat.zero_add, Nat.sub_zero]
  refine ok_listN (seq_tup _) fun n3 h3 s3 f3 l3 => ?_
  refine ⟨by (try simp only [List.length_cons, List.length_nil]); omega, ?_⟩
  refine ok_mtup ?_
  try simp only [if_true, if_false, Bool.false_eq_true, okS_nx, ok_trB, ok_trI, ok_bind, ok_bin, ok_un, ok_k, ok_cmp, ok_cmpT, ok_chain, ok_bl, ok_nil, ok_cons, ok_call, ok_callOp, ok_isi, ok_test, ok_andT, ok_orT, ok_notT, ok_isBl, ok_andV, ok_orV, ok_notV, ok_if, okS_next, okS_seq, okS_ret, okS_expr, okS_if, okS_set, ok_run, ok_src, ok_range, ok_ok, ok_obv, ok_ob, sNext, ok_var0, ok_varS, List.map_cons, List.map_nil, List.length_cons, List.length_nil, List.replicate_succ, List.replicate_zero, List.cons_append, List.nil_append, List.getElem?_cons_zero, List.getElem?_cons_succ, List.set_cons_zero, List.set_cons_succ, Nat.reduceAdd, Nat.reduceSub, Nat.sub_self, Nat.zero_add, Nat.sub_zero, ok_sl, ok_noPart]
  refine ok_part ⟨_, rfl, ok_slT.mpr ?_⟩
  refine ⟨by (try simp only [List.length_cons, List.length_nil]); omega, ?_⟩
  refine ok_mtup ?_
  try simp only [if_true, if_false, Bool.false_eq_true, okS_nx, ok_trB, ok_trI, ok_bind, ok_bin, ok_un, ok_k, ok_cmp, ok_cmpT, ok_chain, ok_bl, ok_nil, ok_cons, ok_call, ok_callOp, ok_isi, ok_test, ok_andT, ok_orT, ok_notT, ok_isBl, ok_andV, ok_orV, ok_notV, ok_if, okS_next, okS_seq, okS_ret, okS_expr, okS_if, okS_set, ok_run, ok_src, ok_range, ok_ok, ok_obv, ok_ob, sNext, ok_var0, ok_varS, List.map_cons, List.map_nil, List.length_cons, List.length_nil, List.replicate_succ, List.replicate_zero, List.cons_append, List.nil_append, List.getElem?_cons_zero, List.getElem?_cons_succ, List.set_cons_zero, List.set_cons_succ, Nat.reduceAdd, Nat.reduceSub, Nat.sub_self, Nat.zero_add, Nat.sub_zero, ok_rev]
  refine ok_revT.mpr ?_
  refine ⟨by (try simp only [List.length_cons, List.length_nil]); omega, ?_⟩
  refine ⟨by (try simp only [List.length_cons, List.length_nil]); omega, fun n4 h4 s4 f4 l4 => ?_⟩
  have F1 := (F0.up s3).up s4
  refine ok_extend F1.is l4 (by have := F1.len; simp only [List.length_cons, List.length_nil]; omega) ?_
  have F2 := F1.ext l4 (c := 4) (all_cons (gd_three gd_int (gd_cutI (by omega)) (glot _)) (all_cons (gd_three gd_int (gd_lst (s4 _ _ l3)) (glot _)) (all_cons (gd_three gd_int (gpl _) (gd_cutI (by omega))) (all_cons (gd_three gd_int (gpl _) (.tup (by rw [List.length_reverse, List.length_map]; omega) fun w hw => by
    obtain ⟨i, _, rfl⟩ := List.mem_map.mp (List.mem_reverse.mp hw)
    exact gd_int)) all_nil)))) (Nat.le_refl _)
  generalize h4.set nf _ = h5 at F2 ⊢
  obtain ⟨vs1, F2⟩ : ∃ vs1, Fd p mh nf vs1 11 B h5 := ⟨_, F2⟩
  -- four more
  try simp only [if_true, if_false, Bool.false_eq_true, okS_nx, ok_trB, ok_trI, ok_bind, ok_bin, ok_un, ok_k, ok_cmp, ok_cmpT, ok_chain, ok_bl, ok_nil, ok_cons, ok_call, ok_callOp, ok_isi, ok_test, ok_andT, ok_orT, ok_notT, ok_isBl, ok_andV, ok_orV, ok_notV, ok_if, okS_next, okS_seq, okS_ret, okS_expr, okS_if, okS_set, ok_run, ok_src, ok_range, ok_ok, ok_obv, ok_ob, sNext, ok_var0, ok_varS, List.map_cons, List.map_nil, List.length_cons, List.length_nil, List.replicate_succ, List.replicate_zero, List.cons_append, List.nil_append, List.getElem?_cons_zero, List.getElem?_cons_succ, List.set_cons_zero, List.set_cons_succ, Nat.reduceAdd, Nat.reduceSub, Nat.sub_self, Nat.zero_add, Nat.sub_zero, ok_meth1]
  refine ok_recv ⟨_, _, rfl, F2.is, ?_⟩
  refine ok_mklN ?_
  try simp only [if_true, if_false, Bool.false_eq_true, okS_nx, ok_trB, ok_trI, ok_bind, ok_bin, ok_un, ok_k, ok_cmp, ok_cmpT, ok_chain, ok_bl, ok_nil, ok_cons, ok_call, ok_callOp, ok_isi, ok_test, ok_andT, ok_orT, ok_notT, ok_isBl, ok_andV, ok_orV, ok_notV, ok_if, okS_next, okS_seq, okS_ret, okS_expr, okS_if, okS_set, ok_run, ok_src, ok_range, ok_ok, ok_obv, ok_ob, sNext, ok_var0, ok_varS, List.map_cons, List.map_nil, List.length_cons, List.length_nil, List.replicate_succ, List.replicate_zero, List.cons_append, List.nil_append, List.getElem?_cons_zero, List.getElem?_cons_succ, List.set_cons_zero, List.set_cons_succ, Nat.reduceAdd, Nat.reduceSub, Nat.sub_self, Nat.zero_add, Nat.sub_zero]
  refine ok_mtup ?_
  try simp only [if_true, if_false, Bool.false_eq_true, okS_nx, ok_trB, ok_trI, ok_bind, ok_bin, ok_un, ok_k, ok_cmp, ok_cmpT, ok_chain, ok_bl, ok_nil, ok_cons, ok_call, ok_callOp, ok_isi, ok_test, ok_andT, ok_orT, ok_notT, ok_isBl, ok_andV, ok_orV, ok_notV, ok_if, okS_next, okS_seq, okS_ret, okS_expr, okS_if, okS_set, ok_run, ok_src, ok_range, ok_ok, ok_obv, ok_ob, sNext, ok_var0, ok_varS, List.map_cons, List.map_nil, List.length_cons, List.length_nil, List.replicate_succ, List.replicate_zero, List.cons_append, List.nil_append, List.getElem?_cons_zero, List.getElem?_cons_succ, List.set_cons_zero, List.set_cons_succ, Nat.reduceAdd, Nat.reduceSub, Nat.sub_self, Nat.zero_add, Nat.sub_zero]
  refine ok_mtup ?_
  try simp only [if_true, if_false, Bool.false_eq_true, okS_nx, ok_trB, ok_trI, ok_bind, ok_bin, ok_un, ok_k, ok_cmp, ok_cmpT, ok_chain, ok_bl, ok_nil, ok_cons, ok_call, ok_callOp, ok_isi, ok_test, ok_andT, ok_orT, ok_notT, ok_isBl, ok_andV, ok_orV, ok_notV, ok_if, okS_next, okS_seq, okS_ret, okS_expr, okS_if, okS_set, ok_run, ok_src, ok_range, ok_ok, ok_obv, ok_ob, sNext, ok_var0, ok_varS, List.map_cons, List.map_nil, List.length_cons, List.length_nil, List.replicate_succ, List.replicate_zero, List.cons_append, List.nil_append, List.getElem?_cons_zero, List.getElem?_cons_succ, List.set_cons_zero, List.set_cons_succ, Nat.reduceAdd, Nat.reduceSub, Nat.sub_self, Nat.zero_add, Nat.sub_zero]
  refine ⟨by (try simp only [List.length_cons, List.length_nil]); omega, ?_⟩
  refine ok_len (seq_tup _) ?_
  refine ok_mulT (by rw [List.length_map]; omega) (by decide) ?_
  refine ⟨by (try simp only [List.length_cons, List.length_nil]); omega, ?_⟩
  refine ok_mtup ?_
  try simp only [if_true, if_false, Bool.false_eq_true, okS_nx, ok_trB, ok_trI, ok_bind, ok_bin, ok_un, ok_k, ok_cmp, ok_cmpT, ok_chain, ok_bl, ok_nil, ok_cons, ok_call, ok_callOp, ok_isi, ok_test, ok_andT, ok_orT, ok_notT, ok_isBl, ok_andV, ok_orV, ok_notV, ok_if, okS_next, okS_seq, okS_ret, okS_expr, okS_if, okS_set, ok_run, ok_src, ok_range, ok_ok, ok_obv, ok_ob, sNext, ok_var0, ok_varS, List.map_cons, List.map_nil, List.length_cons, List.length_nil, List.replicate_succ, List.replicate_zero, List.cons_append, List.nil_append, List.getElem?_cons_zero, List.getElem?_cons_succ, List.set_cons_zero, List.set_cons_succ, Nat.reduceAdd, Nat.reduceSub, Nat.sub_self, Nat.zero_add, Nat.sub_zero]
  refine ok_rg1 ?_
  try simp only [if_true, if_false, Bool.false_eq_true, okS_nx, ok_trB, ok_trI, ok_bind, ok_bin, ok_un, ok_k, ok_cmp, ok_cmpT, ok_chain, ok_bl, ok_nil, ok_cons, ok_call, ok_callOp, ok_isi, ok_test, ok_andT, ok_orT, ok_notT, ok_isBl, ok_andV, ok_orV, ok_notV, ok_if, okS_next, okS_seq, okS_ret, okS_expr, okS_if, okS_set, ok_run, ok_src, ok_range, ok_ok, ok_obv, ok_ob, sNext, ok_var0, ok_varS, List.map_cons, List.map_nil, List.length_cons, List.length_nil, List.replicate_succ, List.replicate_zero, List.cons_append, List.nil_append, List.getElem?_cons_zero, List.getElem?_cons_succ, List.set_cons_zero, List.set_cons_succ, Nat.reduceAdd, Nat.reduceSub, Nat.sub_self, Nat.zero_add, Nat.sub_zero]
  refine ok_len (seq_tup _) ?_
  refine ⟨_, rfl, ok_rgT (by rw [List.length_map]; omega) ?_⟩
  refine ⟨by (try simp only [List.length_cons, List.length_nil]); omega, ?_⟩
  refine ok_mtup ?_
  try simp only [if_true, if_false, Bool.false_eq_true, okS_nx, ok_trB, ok_trI, ok_bind, ok_bin, ok_un, ok_k, ok_cmp, ok_cmpT, ok_chain, ok_bl, ok_nil, ok_cons, ok_call, ok_callOp, ok_isi, ok_test, ok_andT, ok_orT, ok_notT, ok_isBl, ok_andV, ok_orV, ok_notV, ok_if, okS_next, okS_seq, okS_ret, okS_expr, okS_if, okS_set, ok_run, ok_src, ok_range, ok_ok, ok_obv, ok_ob, sNext, ok_var0, ok_varS, List.map_cons, List.map_nil, List.length_cons, List.length_nil, List.replicate_succ, List.replicate_zero, List.cons_append, List.nil_append, List.getElem?_cons_zero, List.getElem?_cons_succ, List.set_cons_zero, List.set_cons_succ, Nat.reduceAdd, Nat.reduceSub, Nat.sub_self, Nat.zero_add, Nat.sub_zero]
  refine ok_len (seq_tup _) ?_
  refine ok_rg1 ?_
  try simp only [if_true, if_false, Bool.false_eq_true, okS_nx, ok_trB, ok_trI, ok_bind, ok_bin, ok_un, ok_k, ok_cmp, ok_cmpT, ok_chain, ok_bl, ok_nil, ok_cons, ok_call, ok_callOp, ok_isi, ok_test, ok_andT, ok_orT, ok_notT, ok_isBl, ok_andV, ok_orV, ok_notV, ok_if, okS_next, okS_seq, okS_ret, okS_expr, okS_if, okS_set, ok_run, ok_src, ok_range, ok_ok, ok_obv, ok_ob, sNext, ok_var0, ok_varS, List.map_cons, List.map_nil, List.length_cons, List.length_nil, List.replicate_succ, List.replicate_zero, List.cons_append, List.nil_append, List.getElem?_cons_zero, List.getElem?_cons_succ, List.set_cons_zero, List.set_cons_succ, Nat.reduceAdd, Nat.reduceSub, Nat.sub_self, Nat.zero_add, Nat.sub_zero]
  refine ok_len (seq_tup _) ?_
  refine ⟨_, rfl, ok_rgT (by rw [List.length_map]; omega) ?_⟩
  refine ⟨by (try simp only [List.length_cons, List.length_nil]); omega, ?_⟩
  refine ⟨by (try simp only [List.length_cons, List.length_nil]); omega, fun n6 h6 s6 f6 l6 => ?_⟩
  have F3 := F2.up s6
  refine ok_extend F3.is l6 (by have := F3.len; simp only [List.length_cons, List.length_nil]; omega) ?_
  have F4 := F3.ext l6 (c := 4) (all_cons (gd_three gd_int (gd_rep (by rw [List.length_map]; omega)) (glot _)) (all_cons (gd_three gd_int (gd_ints (by simp; omega)) (glot _)) (all_cons (gd_three gd_int (gd_ints (by simp; omega)) (glot _)) (all_cons gd_non all_nil)))) (Nat.le_refl _)
  generalize h6.set nf _ = h7 at F4 ⊢
  obtain ⟨vs2, F4⟩ : ∃ vs2, Fd p mh nf vs2 15 B h7 := ⟨_, F4⟩
  -- five drawn lots
  try simp only [if_true, if_false, Bool.false_eq_true, okS_nx, ok_trB, ok_trI, ok_bind, ok_bin, ok_un, ok_k, ok_cmp, ok_cmpT, ok_chain, ok_bl, ok_nil, ok_cons, ok_call, ok_callOp, ok_isi, ok_test, ok_andT, ok_orT, ok_notT, ok_isBl, ok_andV, ok_orV, ok_notV, ok_if, okS_next, okS_seq, okS_ret, okS_expr, okS_if, okS_set, ok_run, ok_src, ok_range, ok_ok, ok_obv, ok_ob, sNext, ok_var0, ok_varS, List.map_cons, List.map_nil, List.length_cons, List.length_nil, List.replicate_succ, List.replicate_zero, List.cons_append, List.nil_append, List.getElem?_cons_zero, List.getElem?_cons_succ, List.set_cons_zero, List.set_cons_succ, Nat.reduceAdd, Nat.reduceSub, Nat.sub_self, Nat.zero_add, Nat.sub_zero]
  refine okS_for ?_
  try simp only [if_true, if_false, Bool.false_eq_true, okS_nx, ok_trB, ok_trI, ok_bind, ok_bin, ok_un, ok_k, ok_cmp, ok_cmpT, ok_chain, ok_bl, ok_nil, ok_cons, ok_call, ok_callOp, ok_isi, ok_test, ok_andT, ok_orT, ok_notT, ok_isBl, ok_andV, ok_orV, ok_notV, ok_if, okS_next, okS_seq, okS_ret, okS_expr, okS_if, okS_set, ok_run, ok_src, ok_range, ok_ok, ok_obv, ok_ob, sNext, ok_var0, ok_varS, List.map_cons, List.map_nil, List.length_cons, List.length_nil, List.replicate_succ, List.replicate_zero, List.cons_append, List.nil_append, List.getElem?_cons_zero, List.getElem?_cons_succ, List.set_cons_zero, List.set_cons_succ, Nat.reduceAdd, Nat.reduceSub, Nat.sub_self, Nat.zero_add, Nat.sub_zero]
  refine ⟨_, range1 (n := 5) (by decide), _, fun i env h => ∃ vs a b c d, env = [some (.ref p), some (iT row), some (.tup [.int (T : Nat), iT pl, iT lot]), some (.int (T : Nat)), some (iT pl), some (iT lot), some (.ref nf), a, b, c, d] ∧ Fd p mh nf vs (15 + 4 * i) (B + 60 * i) h ∧ i ≤ 5, by simp; unfold loopFuel; omega, fun _ _ h _ => srcIs_vals _ _, ?_, ?_, ?_⟩
  · rintro i x env h hx ⟨vs, a, b, c, d, rfl, F, hi5⟩
    have hi := (List.getElem?_eq_some_iff.mp hx).1
    rw [List.length_map, List.length_range] at hi
    refine ⟨_, rfl, ?_⟩
    try simp only [if_true, if_false, Bool.false_eq_true, okS_nx, ok_trB, ok_trI, ok_bind, ok_bin, ok_un, ok_k, ok_cmp, ok_cmpT, ok_chain, ok_bl, ok_nil, ok_cons, ok_call, ok_callOp, ok_isi, ok_test, ok_andT, ok_orT, ok_notT, ok_isBl, ok_andV, ok_orV, ok_notV, ok_if, okS_next, okS_seq, okS_ret, okS_expr, okS_if, okS_set, ok_run, ok_src, ok_range, ok_ok, ok_obv, ok_ob, sNext, ok_var0, ok_varS, List.map_cons, List.map_nil, List.length_cons, List.length_nil, List.replicate_succ, List.replicate_zero, List.cons_append, List.nil_append, List.getElem?_cons_zero, List.getElem?_cons_succ, List.set_cons_zero, List.set_cons_succ, Nat.reduceAdd, Nat.reduceSub, Nat.sub_self, Nat.zero_add, Nat.sub_zero]
    refine ok_compPot (p := p) 1 (fun y => ∃ i, y = .int i ∧ True) ?_
    try simp only [if_true, if_false, Bool.false_eq_true, okS_nx, ok_trB, ok_trI, ok_bind, ok_bin, ok_un, ok_k, ok_cmp, ok_cmpT, ok_chain, ok_bl, ok_nil, ok_cons, ok_call, ok_callOp, ok_isi, ok_test, ok_andT, ok_orT, ok_notT, ok_isBl, ok_andV, ok_orV, ok_notV, ok_if, okS_next, okS_seq, okS_ret, okS_expr, okS_if, okS_set, ok_run, ok_src, ok_range, ok_ok, ok_obv, ok_ob, sNext, ok_var0, ok_varS, List.map_cons, List.map_nil, List.length_cons, List.length_nil, List.replicate_succ, List.replicate_zero, List.cons_append, List.nil_append, List.getElem?_cons_zero, List.getElem?_cons_succ, List.set_cons_zero, List.set_cons_succ, Nat.reduceAdd, Nat.reduceSub, Nat.sub_self, Nat.zero_add, Nat.sub_zero]
    refine ok_srcT.mpr ⟨_, B + 60 * i, .refl _ _, F.pot, by rw [List.length_map]; unfold loopFuel; omega, fun _ _ => srcIs_vals _ _, ?_, ?_⟩
    · intro x hx h' B' hB' hp' hs'
      rw [List.length_map] at hB'
      refine ⟨_, rfl, ?_⟩
      rw [ok_yes, if_pos rfl]
      simp only [wipeE]
      try simp only [if_true, if_false, Bool.false_eq_true, okS_nx, ok_trB, ok_trI, ok_bind, ok_bin, ok_un, ok_k, ok_cmp, ok_cmpT, ok_chain, ok_bl, ok_nil, ok_cons, ok_call, ok_callOp, ok_isi, ok_test, ok_andT, ok_orT, ok_notT, ok_isBl, ok_andV, ok_orV, ok_notV, ok_if, okS_next, okS_seq, okS_ret, okS_expr, okS_if, okS_set, ok_run, ok_src, ok_range, ok_ok, ok_obv, ok_ob, sNext, ok_var0, ok_varS, List.map_cons, List.map_nil, List.length_cons, List.length_nil, List.replicate_succ, List.replicate_zero, List.cons_append, List.nil_append, List.getElem?_cons_zero, List.getElem?_cons_succ, List.set_cons_zero, List.set_cons_succ, Nat.reduceAdd, Nat.reduceSub, Nat.sub_self, Nat.zero_add, Nat.sub_zero, ok_addI]
      refine take_s hp' (by omega) (by omega) (by unfold Bd; omega) fun d2 h5 g1 g2 g3 g4 => ?_
      exact ⟨⟨_, rfl, trivial⟩, g3, g4⟩
    · intro n out h' o1 o2 hG hs' hn hnp hl hp'
      obtain ⟨dr, rfl, _⟩ := iL_of hG
      rw [List.length_map] at o1 hp'
      rw [List.length_map] at o1
      refine ok_tupleOf (seq_lst hl) ?_
      have Fa := F.x hs' hp'
      try simp only [if_true, if_false, Bool.false_eq_true, okS_nx, ok_trB, ok_trI, ok_bind, ok_bin, ok_un, ok_k, ok_cmp, ok_cmpT, ok_chain, ok_bl, ok_nil, ok_cons, ok_call, ok_callOp, ok_isi, ok_test, ok_andT, ok_orT, ok_notT, ok_isBl, ok_andV, ok_orV, ok_notV, ok_if, okS_next, okS_seq, okS_ret, okS_expr, okS_if, okS_set, ok_run, ok_src, ok_range, ok_ok, ok_obv, ok_ob, sNext, ok_var0, ok_varS, List.map_cons, List.map_nil, List.length_cons, List.length_nil, List.replicate_succ, List.replicate_zero, List.cons_append, List.nil_append, List.getElem?_cons_zero, List.getElem?_cons_succ, List.set_cons_zero, List.set_cons_succ, Nat.reduceAdd, Nat.reduceSub, Nat.sub_self, Nat.zero_add, Nat.sub_zero]
      refine ok_compPot (p := p) 1 (fun y => ∃ i, y = .int i ∧ True) ?_
      try simp only [if_true, if_false, Bool.false_eq_true, okS_nx, ok_trB, ok_trI, ok_bind, ok_bin, ok_un, ok_k, ok_cmp, ok_cmpT, ok_chain, ok_bl, ok_nil, ok_cons, ok_call, ok_callOp, ok_isi, ok_test, ok_andT, ok_orT, ok_notT, ok_isBl, ok_andV, ok_orV, ok_notV, ok_if, okS_next, okS_seq, okS_ret, okS_expr, okS_if, okS_set, ok_run, ok_src, ok_range, ok_ok, ok_obv, ok_ob, sNext, ok_var0, ok_varS, List.map_cons, List.map_nil, List.length_cons, List.length_nil, List.replicate_succ, List.replicate_zero, List.cons_append, List.nil_append, List.getElem?_cons_zero, List.getElem?_cons_succ, List.set_cons_zero, List.set_cons_succ, Nat.reduceAdd, Nat.reduceSub, Nat.sub_self, Nat.zero_add, Nat.sub_zero]
      refine ok_len (seq_tup _) ?_
      refine ⟨_, range1 (n := (iL row).length) (by rw [List.length_map]; omega), _, B + 60 * i + row.length * 1, .refl _ _, hp', by simp; unfold loopFuel; omega, fun _ _ => srcIs_vals _ _, ?_, ?_⟩
      · intro x hx h2' B' hB' hp2 hs2
        rw [List.length_map, List.length_range, List.length_map] at hB'
        obtain ⟨cx, _, rfl⟩ := List.mem_map.mp hx
        refine ⟨_, rfl, ?_⟩
        simp only [wipeE]
        try simp only [if_true, if_false, Bool.false_eq_true, okS_nx, ok_trB, ok_trI, ok_bind, ok_bin, ok_un, ok_k, ok_cmp, ok_cmpT, ok_chain, ok_bl, ok_nil, ok_cons, ok_call, ok_callOp, ok_isi, ok_test, ok_andT, ok_orT, ok_notT, ok_isBl, ok_andV, ok_orV, ok_notV, ok_if, okS_next, okS_seq, okS_ret, okS_expr, okS_if, okS_set, ok_run, ok_src, ok_range, ok_ok, ok_obv, ok_ob, sNext, ok_var0, ok_varS, List.map_cons, List.map_nil, List.length_cons, List.length_nil, List.replicate_succ, List.replicate_zero, List.cons_append, List.nil_append, List.getElem?_cons_zero, List.getElem?_cons_succ, List.set_cons_zero, List.set_cons_succ, Nat.reduceAdd, Nat.reduceSub, Nat.sub_self, Nat.zero_add, Nat.sub_zero]
        refine take_s hp2 (by omega) (by decide) (by unfold Bd; decide) fun d2 h5 g1 g2 g3 g4 => ?_
        refine ⟨_, eqD_int, ?_⟩
        cases decide (d2 = 0) with
        | true =>
          simp only [if_true]
          try simp only [if_true, if_false, Bool.false_eq_true, okS_nx, ok_trB, ok_trI, ok_bind, ok_bin, ok_un, ok_k, ok_cmp, ok_cmpT, ok_chain, ok_bl, ok_nil, ok_cons, ok_call, ok_callOp, ok_isi, ok_test, ok_andT, ok_orT, ok_notT, ok_isBl, ok_andV, ok_orV, ok_notV, ok_if, okS_next, okS_seq, okS_ret, okS_expr, okS_if, okS_set, ok_run, ok_src, ok_range, ok_ok, ok_obv, ok_ob, sNext, ok_var0, ok_varS, List.map_cons, List.map_nil, List.length_cons, List.length_nil, List.replicate_succ, List.replicate_zero, List.cons_append, List.nil_append, List.getElem?_cons_zero, List.getElem?_cons_succ, List.set_cons_zero, List.set_cons_succ, Nat.reduceAdd, Nat.reduceSub, Nat.sub_self, Nat.zero_add, Nat.sub_zero]
          exact ⟨⟨_, rfl, trivial⟩, g3, g4⟩
        | false =>
          simp only [Bool.false_eq_true, if_false]
          refine ⟨fun z => ?_, g3, g4⟩
          have := congrFun (congrFun z []) []
          cases this
      · intro n' out' h2' o3 o4 hG' hs2 hn2 hnp2 hl2 hp2
        obtain ⟨cs, rfl, _⟩ := iL_of hG'
        rw [List.length_map, List.length_map, List.length_range, List.length_map] at o3
        rw [List.length_map, List.length_range, List.length_map] at hp2
        refine ok_tupleOf (seq_lst hl2) ?_
        have Fb := Fa.x hs2 hp2
        try simp only [if_true, if_false, Bool.false_eq_true, okS_nx, ok_trB, ok_trI, ok_bind, ok_bin, ok_un, ok_k, ok_cmp, ok_cmpT, ok_chain, ok_bl, ok_nil, ok_cons, ok_call, ok_callOp, ok_isi, ok_test, ok_andT, ok_orT, ok_notT, ok_isBl, ok_andV, ok_orV, ok_notV, ok_if, okS_next, okS_seq, okS_ret, okS_expr, okS_if, okS_set, ok_run, ok_src, ok_range, ok_ok, ok_obv, ok_ob, sNext, ok_var0, ok_varS, List.map_cons, List.map_nil, List.length_cons, List.length_nil, List.replicate_succ, List.replicate_zero, List.cons_append, List.nil_append, List.getElem?_cons_zero, List.getElem?_cons_succ, List.set_cons_zero, List.set_cons_succ, Nat.reduceAdd, Nat.reduceSub, Nat.sub_self, Nat.zero_add, Nat.sub_zero, ok_meth1]
        refine ok_recv ⟨_, _, rfl, Fb.is, ?_⟩
        refine ok_mklN ?_
        try simp only [if_true, if_false, Bool.false_eq_true, okS_nx, ok_trB, ok_trI, ok_bind, ok_bin, ok_un, ok_k, ok_cmp, ok_cmpT, ok_chain, ok_bl, ok_nil, ok_cons, ok_call, ok_callOp, ok_isi, ok_test, ok_andT, ok_orT, ok_notT, ok_isBl, ok_andV, ok_orV, ok_notV, ok_if, okS_next, okS_seq, okS_ret, okS_expr, okS_if, okS_set, ok_run, ok_src, ok_range, ok_ok, ok_obv, ok_ob, sNext, ok_var0, ok_varS, List.map_cons, List.map_nil, List.length_cons, List.length_nil, List.replicate_succ, List.replicate_zero, List.cons_append, List.nil_append, List.getElem?_cons_zero, List.getElem?_cons_succ, List.set_cons_zero, List.set_cons_succ, Nat.reduceAdd, Nat.reduceSub, Nat.sub_self, Nat.zero_add, Nat.sub_zero]
        refine ok_mtup ?_
        try simp only [if_true, if_false, Bool.false_eq_true, okS_nx, ok_trB, ok_trI, ok_bind, ok_bin, ok_un, ok_k, ok_cmp, ok_cmpT, ok_chain, ok_bl, ok_nil, ok_cons, ok_call, ok_callOp, ok_isi, ok_test, ok_andT, ok_orT, ok_notT, ok_isBl, ok_andV, ok_orV, ok_notV, ok_if, okS_next, okS_seq, okS_ret, okS_expr, okS_if, okS_set, ok_run, ok_src, ok_range, ok_ok, ok_obv, ok_ob, sNext, ok_var0, ok_varS, List.map_cons, List.map_nil, List.length_cons, List.length_nil, List.replicate_succ, List.replicate_zero, List.cons_append, List.nil_append, List.getElem?_cons_zero, List.getElem?_cons_succ, List.set_cons_zero, List.set_cons_succ, Nat.reduceAdd, Nat.reduceSub, Nat.sub_self, Nat.zero_add, Nat.sub_zero]
        refine ⟨by (try simp only [List.length_cons, List.length_nil]); omega, ?_⟩
        refine ok_mtup ?_
        try simp only [if_true, if_false, Bool.false_eq_true, okS_nx, ok_trB, ok_trI, ok_bind, ok_bin, ok_un, ok_k, ok_cmp, ok_cmpT, ok_chain, ok_bl, ok_nil, ok_cons, ok_call, ok_callOp, ok_isi, ok_test, ok_andT, ok_orT, ok_notT, ok_isBl, ok_andV, ok_orV, ok_notV, ok_if, okS_next, okS_seq, okS_ret, okS_expr, okS_if, okS_set, ok_run, ok_src, ok_range, ok_ok, ok_obv, ok_ob, sNext, ok_var0, ok_varS, List.map_cons, List.map_nil, List.length_cons, List.length_nil, List.replicate_succ, List.replicate_zero, List.cons_append, List.nil_append, List.getElem?_cons_zero, List.getElem?_cons_succ, List.set_cons_zero, List.set_cons_succ, Nat.reduceAdd, Nat.reduceSub, Nat.sub_self, Nat.zero_add, Nat.sub_zero]
        refine ⟨by (try simp only [List.length_cons, List.length_nil]); omega, ?_⟩
        refine ok_mtup ?_
        try simp only [if_true, if_false, Bool.false_eq_true, okS_nx, ok_trB, ok_trI, ok_bind, ok_bin, ok_un, ok_k, ok_cmp, ok_cmpT, ok_chain, ok_bl, ok_nil, ok_cons, ok_call, ok_callOp, ok_isi, ok_test, ok_andT, ok_orT, ok_notT, ok_isBl, ok_andV, ok_orV, ok_notV, ok_if, okS_next, okS_seq, okS_ret, okS_expr, okS_if, okS_set, ok_run, ok_src, ok_range, ok_ok, ok_obv, ok_ob, sNext, ok_var0, ok_varS, List.map_cons, List.map_nil, List.length_cons, List.length_nil, List.replicate_succ, List.replicate_zero, List.cons_append, List.nil_append, List.getElem?_cons_zero, List.getElem?_cons_succ, List.set_cons_zero, List.set_cons_succ, Nat.reduceAdd, Nat.reduceSub, Nat.sub_self, Nat.zero_add, Nat.sub_zero]
        refine ok_len (seq_tup _) ?_
        refine ⟨by (try simp only [List.length_cons, List.length_nil]); omega, ?_⟩
        refine ok_mtup ?_
        try simp only [if_true, if_false, Bool.false_eq_true, okS_nx, ok_trB, ok_trI, ok_bind, ok_bin, ok_un, ok_k, ok_cmp, ok_cmpT, ok_chain, ok_bl, ok_nil, ok_cons, ok_call, ok_callOp, ok_isi, ok_test, ok_andT, ok_orT, ok_notT, ok_isBl, ok_andV, ok_orV, ok_notV, ok_if, okS_next, okS_seq, okS_ret, okS_expr, okS_if, okS_set, ok_run, ok_src, ok_range, ok_ok, ok_obv, ok_ob, sNext, ok_var0, ok_varS, List.map_cons, List.map_nil, List.length_cons, List.length_nil, List.replicate_succ, List.replicate_zero, List.cons_append, List.nil_append, List.getElem?_cons_zero, List.getElem?_cons_succ, List.set_cons_zero, List.set_cons_succ, Nat.reduceAdd, Nat.reduceSub, Nat.sub_self, Nat.zero_add, Nat.sub_zero, ok_sl, ok_noPart]
        refine ok_part ?_
        try simp only [if_true, if_false, Bool.false_eq_true, okS_nx, ok_trB, ok_trI, ok_bind, ok_bin, ok_un, ok_k, ok_cmp, ok_cmpT, ok_chain, ok_bl, ok_nil, ok_cons, ok_call, ok_callOp, ok_isi, ok_test, ok_andT, ok_orT, ok_notT, ok_isBl, ok_andV, ok_orV, ok_notV, ok_if, okS_next, okS_seq, okS_ret, okS_expr, okS_if, okS_set, ok_run, ok_src, ok_range, ok_ok, ok_obv, ok_ob, sNext, ok_var0, ok_varS, List.map_cons, List.map_nil, List.length_cons, List.length_nil, List.replicate_succ, List.replicate_zero, List.cons_append, List.nil_append, List.getElem?_cons_zero, List.getElem?_cons_succ, List.set_cons_zero, List.set_cons_succ, Nat.reduceAdd, Nat.reduceSub, Nat.sub_self, Nat.zero_add, Nat.sub_zero]
        refine ok_negI.mpr ?_
        refine ⟨_, rfl, ok_slT.mpr ?_⟩
        have cl := cut_len (iL lot) (some (-1)) none
        rw [List.length_map] at cl
        refine ok_addT (by rw [List.length_map]; omega) ?_
        refine ⟨by (try simp only [List.length_cons, List.length_nil]); omega, ?_⟩
        refine ⟨by (try simp only [List.length_cons, List.length_nil]); omega, fun n6 h6 s6 f6 l6 => ?_⟩
        have Fc := Fb.up s6
        refine ok_extend Fc.is l6 (by have := Fc.len; simp only [List.length_cons, List.length_nil]; omega) ?_
        have gdr : Gd h6 (iT dr) := gd_ints (by omega)
        have gcs : Gd h6 (iT cs) := gd_ints (by omega)
        have Fe := Fc.ext l6 (c := 4) (all_cons (gd_three gd_int gdr (glot _)) (all_cons (gd_three gd_int (gpl _) gcs) (all_cons (gd_three gd_int gdr gcs) (all_cons (gd_three gd_int (gpl _) (.tup (by rw [List.length_append, List.length_map]; omega) (all_app (glot _).tupE.2 (gd_cut (glot _).tupE.2)))) all_nil)))) (Nat.le_refl _)
        refine ⟨_, _, _, _, _, rfl, ⟨Fe.is, Nat.le_trans Fe.len (by omega), Fe.gd, Fe.pot.mono (by omega), Fe.sub, Fe.new, Fe.ne⟩, hi⟩
  · rintro env h ⟨vs, a, b, c, d, rfl, F, hi5⟩
    have flen := F.len
    have fpot := F.pot
    simp only [List.length_map, List.length_range] at flen fpot
    try simp only [if_true, if_false, Bool.false_eq_true, okS_nx, ok_trB, ok_trI, ok_bind, ok_bin, ok_un, ok_k, ok_cmp, ok_cmpT, ok_chain, ok_bl, ok_nil, ok_cons, ok_call, ok_callOp, ok_isi, ok_test, ok_andT, ok_orT, ok_notT, ok_isBl, ok_andV, ok_orV, ok_notV, ok_if, okS_next, okS_seq, okS_ret, okS_expr, okS_if, okS_set, ok_run, ok_src, ok_range, ok_ok, ok_obv, ok_ob, sNext, ok_var0, ok_varS, List.map_cons, List.map_nil, List.length_cons, List.length_nil, List.replicate_succ, List.replicate_zero, List.cons_append, List.nil_append, List.getElem?_cons_zero, List.getElem?_cons_succ, List.set_cons_zero, List.set_cons_succ, Nat.reduceAdd, Nat.reduceSub, Nat.sub_self, Nat.zero_add, Nat.sub_zero]
    refine ok_compGd (p := p) 17 ?_
    try simp only [if_true, if_false, Bool.false_eq_true, okS_nx, ok_trB, ok_trI, ok_bind, ok_bin, ok_un, ok_k, ok_cmp, ok_cmpT, ok_chain, ok_bl, ok_nil, ok_cons, ok_call, ok_callOp, ok_isi, ok_test, ok_andT, ok_orT, ok_notT, ok_isBl, ok_andV, ok_orV, ok_notV, ok_if, okS_next, okS_seq, okS_ret, okS_expr, okS_if, okS_set, ok_run, ok_src, ok_range, ok_ok, ok_obv, ok_ob, sNext, ok_var0, ok_varS, List.map_cons, List.map_nil, List.length_cons, List.length_nil, List.replicate_succ, List.replicate_zero, List.cons_append, List.nil_append, List.getElem?_cons_zero, List.getElem?_cons_succ, List.set_cons_zero, List.set_cons_succ, Nat.reduceAdd, Nat.reduceSub, Nat.sub_self, Nat.zero_add, Nat.sub_zero]
    refine ⟨_, range1 (n := 8) (by decide), _, B + 300, .refl _ _, fpot.mono (by omega), by simp; unfold loopFuel; omega, fun _ _ => srcIs_vals _ _, ?_, ?_⟩
    · intro x hx h' B' hB' hp' hs'
      rw [List.length_map, List.length_range] at hB'
      refine ⟨_, rfl, ?_⟩
      rw [ok_yes]
      refine ⟨rfl, ?_⟩
      simp only [wipeE]
      try simp only [if_true, if_false, Bool.false_eq_true, okS_nx, ok_trB, ok_trI, ok_bind, ok_bin, ok_un, ok_k, ok_cmp, ok_cmpT, ok_chain, ok_bl, ok_nil, ok_cons, ok_call, ok_callOp, ok_isi, ok_test, ok_andT, ok_orT, ok_notT, ok_isBl, ok_andV, ok_orV, ok_notV, ok_if, okS_next, okS_seq, okS_ret, okS_expr, okS_if, okS_set, ok_run, ok_src, ok_range, ok_ok, ok_obv, ok_ob, sNext, ok_var0, ok_varS, List.map_cons, List.map_nil, List.length_cons, List.length_nil, List.replicate_succ, List.replicate_zero, List.cons_append, List.nil_append, List.getElem?_cons_zero, List.getElem?_cons_succ, List.set_cons_zero, List.set_cons_succ, Nat.reduceAdd, Nat.reduceSub, Nat.sub_self, Nat.zero_add, Nat.sub_zero]
      exact bent_told tk (by omega) (by omega) ipl ilot hp' (by omega) fun v h g1 g2 g3 => ⟨g1, g2, g3⟩
    · intro n out h' o1 hG hs' hn hnp hl hp'
      rw [List.length_map, List.length_range] at o1 hp'
      refine ok_addN (hs' _ _ F.ne F.is) hl (by omega) fun n2 h2 s2 f2 l2 => ?_
      refine ok_mklN ?_
      try simp only [if_true, if_false, Bool.false_eq_true, okS_nx, ok_trB, ok_trI, ok_bind, ok_bin, ok_un, ok_k, ok_cmp, ok_cmpT, ok_chain, ok_bl, ok_nil, ok_cons, ok_call, ok_callOp, ok_isi, ok_test, ok_andT, ok_orT, ok_notT, ok_isBl, ok_andV, ok_orV, ok_notV, ok_if, okS_next, okS_seq, okS_ret, okS_expr, okS_if, okS_set, ok_run, ok_src, ok_range, ok_ok, ok_obv, ok_ob, sNext, ok_var0, ok_varS, List.map_cons, List.map_nil, List.length_cons, List.length_nil, List.replicate_succ, List.replicate_zero, List.cons_append, List.nil_append, List.getElem?_cons_zero, List.getElem?_cons_succ, List.set_cons_zero, List.set_cons_succ, Nat.reduceAdd, Nat.reduceSub, Nat.sub_self, Nat.zero_add, Nat.sub_zero]
      refine odd_s (hp'.sub s2) (by omega) fun ov h3 go po so => ?_
      refine ⟨by (try simp only [List.length_cons, List.length_nil]); omega, fun n4 h4 s4 f4 l4 => ?_⟩
      refine ok_addN (s4 _ _ (so _ _ (pot_ne hp' f2) l2)) l4 (by rw [List.length_append]; simp only [List.length_cons, List.length_nil]; omega) fun n5 h5 s5 f5 l5 => ?_
      have ty1 : TyM h h' := hs'.ty fpot hp'
      have ty2 : TyM h' h3 := s2.ty.trans (so.ty (hp'.sub s2) po)
      have ty3 : TyM h3 h5 := s4.ty.trans s5.ty
      refine q n5 _ h5 l5 (pot_ne (po.sub s4) f5) (by simp only [List.length_append, List.length_cons, List.length_nil]; omega) ?_ ((po.sub s4).sub s5 |>.mono (by omega)) (((((F.sub.trans hs').trans (s2.x p)).trans so).trans (s4.x p)).trans (s5.x p))
      exact all_app (all_app (fun v hv => (F.gd v hv).mono ((ty1.trans ty2).trans ty3)) fun v hv => (hG v hv).mono (ty2.trans ty3)) (all_cons (go.mono ty3) all_nil)
  · exact ⟨vs2, _, _, _, _, rfl, ⟨F4.is, F4.len, F4.gd, F4.pot, F4.sub, F4.new, F4.ne⟩, Nat.zero_le _⟩
end K10
namespace K10
open PySem PySem.Spec PyProof.Rows L2 RZ Ev
/-! ### lots and sublists -/
abbrev Desc (s : List Int) : Prop := s.Pairwise fun a b => b < a
theorem isLot_split {n : Nat} {l : List Int} (h : IsLot (n + 1) l) : IsLot n l ∨ ∃ l', IsLot n l' ∧ l = l' ++ [(n : Int)] := by
  rcases List.mem_append.mp (lots_has _ _ h) with h | h
  · exact .inl (lots_is _ _ h)
  · obtain ⟨l', h', rfl⟩ := List.mem_map.mp h
    exact .inr ⟨l', lots_is _ _ h', rfl⟩
theorem at0_app {row : List Int} {x e : Int} (h : 0 ≤ e ∧ e < row.length) : at0 (row ++ [x]) e = at0 row e := by
  unfold at0
  rw [List.getD, List.getD, List.getElem?_append_left (by omega)]
theorem at0_last {row : List Int} {x : Int} : at0 (row ++ [x]) (row.length : Int) = x := by
  unfold at0
  rw [Int.toNat_natCast, List.getD]
  simp
theorem map_app {row l : List Int} {x : Int} (h : IsLot row.length l) : l.map (at0 (row ++ [x])) = l.map (at0 row) := List.map_congr_left fun e he => at0_app (h.rng e he)
theorem lot_sub {row : List Int} : ∀ l, IsLot row.length l → (l.map (at0 row)).Sublist row := by
  refine snoc_ind (P := fun row => ∀ l, IsLot row.length l → (l.map (at0 row)).Sublist row) (fun l h => ?_) (fun row x ih l h => ?_) row
  · cases l with
    | nil => exact List.nil_sublist _
    | cons e l =>
      have := h.rng e (by simp)
      simp at this
      omega
  · rw [List.length_append] at h
    rcases isLot_split h with h2 | ⟨l', h2, rfl⟩
    · rw [map_app h2]
      exact (ih l h2).trans (List.sublist_append_left _ _)
    · rw [List.map_append, map_app h2, List.map_singleton, at0_last]
      exact (ih l' h2).append (List.Sublist.refl _)
theorem sub_one {α : Type} {s : List α} {x : α} (h : s.Sublist [x]) : s = [] ∨ s = [x] := by
  cases h with
  | cons _ h => exact .inl (List.sublist_nil.mp h)
  | cons_cons _ h => exact .inr (by rw [List.sublist_nil.mp h])
theorem sub_lot {row : List Int} : ∀ s : List Int, s.Sublist row → ∃ l, IsLot row.length l ∧ l.map (at0 row) = s := by
  refine snoc_ind (P := fun row => ∀ s : List Int, s.Sublist row → ∃ l, IsLot row.length l ∧ l.map (at0 row) = s) (fun s h => ?_) (fun row x ih s h => ?_) row
  · rw [List.sublist_nil.mp h]
    exact ⟨[], ⟨.nil, by simp⟩, rfl⟩
  · obtain ⟨s1, s2, rfl, h1, h2⟩ := List.sublist_append_iff.mp h
    obtain ⟨l, il, rfl⟩ := ih s1 h1
    rw [List.length_append]
    rcases sub_one h2 with rfl | rfl
    · refine ⟨l, ⟨il.up, fun e he => ?_⟩, by rw [map_app il, List.append_nil]⟩
      have := il.rng e he
      simp
      omega
    · refine ⟨l ++ [(row.length : Int)], ⟨List.pairwise_append.mpr ⟨il.up, by simp, fun a ha b hb => ?_⟩, fun e he => ?_⟩, by rw [List.map_append, map_app il, List.map_singleton, at0_last]⟩
      · rw [List.mem_singleton] at hb
        have := il.rng a ha
        omega
      · simp only [List.length_singleton]
        rcases List.mem_append.mp he with he | he
        · have := il.rng e he
          omega
        · rw [List.mem_singleton] at he
          omega
theorem falls_desc {row l : List Int} : falls row l = true ↔ Desc (l.map (at0 row)) := by
  rw [Desc, List.pairwise_map]
  exact ⟨falls_pair, pair_falls⟩
theorem tracks_le {row s : List Int} (h : s.Sublist row) (d : Desc s) : s.length ≤ tracks row := by
  obtain ⟨l, il, rfl⟩ := sub_lot s h
  rw [List.length_map]
  exact cross_few il (falls_desc.mpr d)
theorem tracks_ex (row : List Int) : ∃ s : List Int, s.Sublist row ∧ Desc s ∧ s.length = tracks row := by
  obtain ⟨h1, h2, h3⟩ := lotOf_is row
  exact ⟨_, lot_sub _ h1, falls_desc.mp h2, by rw [List.length_map, h3]⟩
/-! ### the row turned about -/
def turn (row : List Int) : List Int := row.reverse.map fun x => 100 - x
theorem turn_turn (row : List Int) : turn (turn row) = row := by
  unfold turn
  rw [← List.map_reverse, List.reverse_reverse, List.map_map]
  have : ((fun x : Int => 100 - x) ∘ fun x : Int => 100 - x) = id := by
    funext x
    simp only [Function.comp, id]
    omega
  rw [this, List.map_id]
theorem turn_le (row : List Int) : tracks row ≤ tracks (turn row) := by
  obtain ⟨s, h1, h2, h3⟩ := tracks_ex row
  rw [← h3]
  have h4 : (turn s).length = s.length := by
    unfold turn
    rw [List.length_map, List.length_reverse]
  rw [← h4]
  refine tracks_le ?_ ?_
  · unfold turn
    exact (h1.reverse).map _
  · unfold turn Desc
    rw [List.pairwise_map, List.pairwise_reverse]
    exact h2.imp fun {a b} h => by omega
theorem turn_same (row : List Int) : tracks (turn row) = tracks row := by
  have h1 := turn_le row
  have h2 := turn_le (turn row)
  rw [turn_turn] at h2
  omega
/-! ### one car more -/
theorem more_car (a b : List Int) (x : Int) : tracks (a ++ b) ≤ tracks (a ++ [x] ++ b) ∧ tracks (a ++ [x] ++ b) ≤ tracks (a ++ b) + 1 := by
  constructor
  · obtain ⟨s, h1, h2, h3⟩ := tracks_ex (a ++ b)
    rw [← h3]
    refine tracks_le (h1.trans ?_) h2
    exact (List.sublist_append_left a [x]).append (List.Sublist.refl _)
  · obtain ⟨s, h1, h2, h3⟩ := tracks_ex (a ++ [x] ++ b)
    rw [← h3]
    obtain ⟨s1, s2, rfl, k1, k2⟩ := List.sublist_append_iff.mp h1
    obtain ⟨s3, s4, rfl, k3, k4⟩ := List.sublist_append_iff.mp k1
    have d : Desc (s3 ++ s2) := h2.sublist ((List.sublist_append_left s3 s4).append (List.Sublist.refl _))
    have := tracks_le (k3.append k2) d
    rw [List.length_append] at this
    rw [List.length_append, List.length_append]
    have := k4.length_le
    rw [List.length_singleton] at this
    omega
/-! ### each track's cars do not cross -/
theorem filter_two {α : Type} (p : α → Bool) : ∀ l : List α, l.length = (l.filter fun x => !p x).length + (l.filter p).length
  | [] => rfl
  | x :: l => by
    have ih := filter_two p l
    cases h : p x with
    | true => rw [List.filter_cons_of_neg (by simp [h]), List.filter_cons_of_pos h]; simp only [List.length_cons]; omega
    | false => rw [List.filter_cons_of_pos (by simp [h]), List.filter_cons_of_neg (by simp [h])]; simp only [List.length_cons]; omega
theorem count_le {α : Type} (m : Nat) (f : α → Nat) : ∀ (T : Nat) (l : List α), (∀ x ∈ l, f x < T) → (∀ t, t < T → (l.filter fun x => f x == t).length ≤ m) → l.length ≤ T * m
  | 0, l, h, _ => by
    cases l with
    | nil => exact Nat.zero_le _
    | cons x l => exact absurd (h x (by simp)) (Nat.not_lt_zero _)
  | T + 1, l, h, k => by
    have ih := count_le m f T (l.filter fun x => !(f x == T)) (fun x hx => by
      obtain ⟨h1, h2⟩ := List.mem_filter.mp hx
      have := h x h1
      have h3 : f x ≠ T := by simpa using h2
      omega) fun t ht => Nat.le_trans ((List.filter_sublist.filter _).length_le) (k t (by omega))
    have h1 := filter_two (fun x => f x == T) l
    have h2 := k T (by omega)
    rw [Nat.succ_mul]
    omega
theorem onTrack_is {row : List Int} {t : Int} : IsLot row.length (onTrack (iL (fit row).2) row.length t) := ⟨onTrack_up, onTrack_cars.1⟩
theorem most_rise {row : List Int} {m : Nat} (hm : ∀ l, IsLot row.length l → rises row l = true → l.length ≤ m) : row.length ≤ tracks row * m := by
  have F := fit_ok row
  have rg : ∀ p ∈ (fit row).2, 0 ≤ p ∧ p < (tracks row : Nat) := fun p hp => by
    obtain ⟨c, hc⟩ := List.mem_iff_getElem?.mp hp
    exact F.rng c p hc
  have st := (tracks_stand (row := row) F.len rg).mpr fun one other h1 h2 p x y e1 e2 e3 e4 => F.asc one other p x y h1 e1 e2 e3 e4
  have key := count_le m (fun c => (at0 (fit row).2 (c : Nat)).toNat) (tracks row) (List.range row.length) (fun c hc => ?_) fun t ht => ?_
  · rwa [List.length_range] at key
  · have hc := List.mem_range.mp hc
    have g := nth_at (row := (fit row).2) (k := c) (by rw [F.len]; exact hc)
    have := rg _ (List.mem_of_getElem? g)
    omega
  · have := hm _ (onTrack_is (row := row) (t := t)) (st t (by omega))
    unfold onTrack at this
    rw [List.length_map] at this
    have e : (List.range row.length).filter (fun c => (at0 (fit row).2 (c : Nat)).toNat == t) = (List.range row.length).filter (isAt (iL (fit row).2) t) := by
      refine List.filter_congr fun c hc => ?_
      have hc := List.mem_range.mp hc
      have g := nth_at (row := (fit row).2) (k := c) (by rw [F.len]; exact hc)
      have r := rg _ (List.mem_of_getElem? g)
      rw [Bool.eq_iff_iff, isAt_iff, g, beq_iff_eq, Option.some.injEq]
      omega
    rw [e]
    exact this
theorem max_falls (row : List Int) : maxI (((lots row.length).filter (falls row)).map fun l => (l.length : Int)) = some (tracks row : Int) := by
  obtain ⟨h1, h2, h3⟩ := lotOf_is row
  refine maxI_of (List.mem_map.mpr ⟨lotOf row, List.mem_filter.mpr ⟨lots_has _ _ h1, h2⟩, by rw [h3]⟩) fun y hy => ?_
  obtain ⟨l, hl, rfl⟩ := List.mem_map.mp hy
  obtain ⟨k1, k2⟩ := List.mem_filter.mp hl
  have := cross_few (lots_is _ _ k1) k2
  omega
theorem max_rises (row : List Int) : ∃ m : Nat, maxI (((lots row.length).filter (rises row)).map fun l => (l.length : Int)) = some (m : Int) ∧ m ≤ row.length ∧ row.length ≤ tracks row * m := by
  have h0 : ([] : List Int) ∈ (lots row.length).filter (rises row) := List.mem_filter.mpr ⟨lots_has _ _ ⟨.nil, by simp⟩, rfl⟩
  cases e : maxI (((lots row.length).filter (rises row)).map fun l => (l.length : Int)) with
  | none =>
    cases e2 : ((lots row.length).filter (rises row)).map fun l => (l.length : Int) with
    | nil =>
      rw [List.map_eq_nil_iff] at e2
      rw [e2] at h0
      cases h0
    | cons x l =>
      rw [e2] at e
      cases e
  | some m =>
    obtain ⟨h1, h2⟩ := maxI_spec e
    obtain ⟨l, hl, rfl⟩ := List.mem_map.mp h1
    refine ⟨l.length, rfl, (lots_is _ _ (List.mem_filter.mp hl).1).few, most_rise fun k hk hr => ?_⟩
    have := h2 _ (List.mem_map.mpr ⟨k, List.mem_filter.mpr ⟨lots_has _ _ hk, hr⟩, rfl⟩)
    omega
end K10
namespace K10
open PySem PySem.Spec PyProof.Rows L2 RZ Ev
theorem gd_v3 {h : MH} {v : PV} (g : Gd h v) : V3 h v ∧ ∀ vs, v = .tup vs → ∀ w ∈ vs, ∀ us, w = .tup us → us.length ≤ 60 := by
  refine ⟨⟨g.vt, fun vs e => ?_⟩, fun vs e w hw us e2 => ?_⟩
  · subst e
    refine ⟨Nat.le_trans g.tupE.1 (by decide), fun w hw => ⟨(g.tupE.2 w hw).vt, fun us e2 => ?_⟩⟩
    subst e2
    have k := (g.tupE.2 _ hw).tupE
    exact ⟨Nat.le_trans k.1 (by decide), fun u hu => (k.2 u hu).vt⟩
  · subst e
    subst e2
    exact (g.tupE.2 _ hw).tupE.1
theorem turn_row {row : List Int} (hr : IsRow row) : IsRow (turn row) := by
  unfold turn
  refine ⟨by have := hr.len; simpa using this, fun x hx => ?_⟩
  obtain ⟨y, hy, rfl⟩ := List.mem_map.mp hx
  have := hr.num y (List.mem_reverse.mp hy)
  omega
theorem right_s {p B : Nat} {mh : MH} (hp : Pot p B mh) (hB : B < 2 ^ 34) {Q : PV → MH → Prop} (q : ∀ h, Pot p (B + 1100) h → SubX p mh h → Q (.bl true) h) : Ok (f__law_right [.ref p] mh) Q := by
  have big := big_line
  unfold f__law_right
  try simp only [if_true, if_false, Bool.false_eq_true, okS_nx, ok_trB, ok_trI, ok_bind, ok_bin, ok_un, ok_k, ok_cmp, ok_cmpT, ok_chain, ok_bl, ok_nil, ok_cons, ok_call, ok_callOp, ok_isi, ok_test, ok_andT, ok_orT, ok_notT, ok_isBl, ok_andV, ok_orV, ok_notV, ok_if, okS_next, okS_seq, okS_ret, okS_expr, okS_if, okS_set, ok_run, ok_src, ok_range, ok_ok, ok_obv, ok_ob, sNext, ok_var0, ok_varS, List.map_cons, List.map_nil, List.length_cons, List.length_nil, List.replicate_succ, List.replicate_zero, List.cons_append, List.nil_append, List.getElem?_cons_zero, List.getElem?_cons_succ, List.set_cons_zero, List.set_cons_succ, Nat.reduceAdd, Nat.reduceSub, Nat.sub_self, Nat.zero_add, Nat.sub_zero]
  refine ok_mklN ?_
  try simp only [if_true, if_false, Bool.false_eq_true, okS_nx, ok_trB, ok_trI, ok_bind, ok_bin, ok_un, ok_k, ok_cmp, ok_cmpT, ok_chain, ok_bl, ok_nil, ok_cons, ok_call, ok_callOp, ok_isi, ok_test, ok_andT, ok_orT, ok_notT, ok_isBl, ok_andV, ok_orV, ok_notV, ok_if, okS_next, okS_seq, okS_ret, okS_expr, okS_if, okS_set, ok_run, ok_src, ok_range, ok_ok, ok_obv, ok_ob, sNext, ok_var0, ok_varS, List.map_cons, List.map_nil, List.length_cons, List.length_nil, List.replicate_succ, List.replicate_zero, List.cons_append, List.nil_append, List.getElem?_cons_zero, List.getElem?_cons_succ, List.set_cons_zero, List.set_cons_succ, Nat.reduceAdd, Nat.reduceSub, Nat.sub_self, Nat.zero_add, Nat.sub_zero]
  refine ⟨by decide, fun n1 h1 s1 f1 l1 => ?_⟩
  refine of_s (hp.sub s1) (by omega) l1 (pot_ne hp f1) (by simp) (by (try simp only [List.length_cons, List.length_nil]); omega) fun v h2 hv p2 s2 => ?_
  obtain ⟨w, rfl, hw1, hw2⟩ : ∃ w : Int, v = .int w ∧ 0 < w ∧ w ≤ 99 := (all_cons (P := fun v => ∃ w : Int, v = .int w ∧ 0 < w ∧ w ≤ 99) ⟨2, rfl, by decide, by decide⟩ (all_cons ⟨4, rfl, by decide, by decide⟩ (all_cons ⟨9, rfl, by decide, by decide⟩ (all_cons ⟨99, rfl, by decide, by decide⟩ all_nil)))) v hv
  refine row_s (most := 8) p2 (by omega) (by decide) hw1 (by unfold Bd; omega) fun row h3 hlen hnum p3 s3 => ?_
  have hr : IsRow row := ⟨by omega, fun x hx => by have := hnum x hx; omega⟩
  have x3 : SubX p mh h3 := ((s1.x p).trans s2).trans s3
  try simp only [if_true, if_false, Bool.false_eq_true, okS_nx, ok_trB, ok_trI, ok_bind, ok_bin, ok_un, ok_k, ok_cmp, ok_cmpT, ok_chain, ok_bl, ok_nil, ok_cons, ok_call, ok_callOp, ok_isi, ok_test, ok_andT, ok_orT, ok_notT, ok_isBl, ok_andV, ok_orV, ok_notV, ok_if, okS_next, okS_seq, okS_ret, okS_expr, okS_if, okS_set, ok_run, ok_src, ok_range, ok_ok, ok_obv, ok_ob, sNext, ok_var0, ok_varS, List.map_cons, List.map_nil, List.length_cons, List.length_nil, List.replicate_succ, List.replicate_zero, List.cons_append, List.nil_append, List.getElem?_cons_zero, List.getElem?_cons_succ, List.set_cons_zero, List.set_cons_succ, Nat.reduceAdd, Nat.reduceSub, Nat.sub_self, Nat.zero_add, Nat.sub_zero, okS_par]
  refine fewest_s hr fun h4 s4 => ?_
  refine ok_len (seq_tup _) ?_
  rw [List.length_map]
  refine lots_s (by omega) fun k h5 s5 f5 l5 => ?_
  refine ⟨_, _, rfl, ?_⟩
  have p5 := (p3.sub s4).sub s5
  have x5 : SubX p mh h5 := (x3.trans (s4.x p)).trans (s5.x p)
  -- the greatest
  have hll : (lots row.length).length ≤ 256 := by
    rw [lots_len]
    exact Nat.le_trans (Nat.pow_le_pow_right (by decide) hlen) (by decide)
  try simp only [if_true, if_false, Bool.false_eq_true, okS_nx, ok_trB, ok_trI, ok_bind, ok_bin, ok_un, ok_k, ok_cmp, ok_cmpT, ok_chain, ok_bl, ok_nil, ok_cons, ok_call, ok_callOp, ok_isi, ok_test, ok_andT, ok_orT, ok_notT, ok_isBl, ok_andV, ok_orV, ok_notV, ok_if, okS_next, okS_seq, okS_ret, okS_expr, okS_if, okS_set, ok_run, ok_src, ok_range, ok_ok, ok_obv, ok_ob, sNext, ok_var0, ok_varS, List.map_cons, List.map_nil, List.length_cons, List.length_nil, List.replicate_succ, List.replicate_zero, List.cons_append, List.nil_append, List.getElem?_cons_zero, List.getElem?_cons_succ, List.set_cons_zero, List.set_cons_succ, Nat.reduceAdd, Nat.reduceSub, Nat.sub_self, Nat.zero_add, Nat.sub_zero]
  refine ok_compP (lots row.length) iT (falls row) (fun l => .int (l.length : Nat)) ?_ ?_ ?_
  · try simp only [if_true, if_false, Bool.false_eq_true, okS_nx, ok_trB, ok_trI, ok_bind, ok_bin, ok_un, ok_k, ok_cmp, ok_cmpT, ok_chain, ok_bl, ok_nil, ok_cons, ok_call, ok_callOp, ok_isi, ok_test, ok_andT, ok_orT, ok_notT, ok_isBl, ok_andV, ok_orV, ok_notV, ok_if, okS_next, okS_seq, okS_ret, okS_expr, okS_if, okS_set, ok_run, ok_src, ok_range, ok_ok, ok_obv, ok_ob, sNext, ok_var0, ok_varS, List.map_cons, List.map_nil, List.length_cons, List.length_nil, List.replicate_succ, List.replicate_zero, List.cons_append, List.nil_append, List.getElem?_cons_zero, List.getElem?_cons_succ, List.set_cons_zero, List.set_cons_succ, Nat.reduceAdd, Nat.reduceSub, Nat.sub_self, Nat.zero_add, Nat.sub_zero]
    refine ok_srcL l5 ⟨by unfold loopFuel; omega, .refl _, fun h' hs' => srcIs_lst (hs' _ _ l5)⟩
  · intro l hl h' hs'
    have il := lots_is _ _ hl
    refine ⟨_, rfl, ?_⟩
    simp only [wipeE]
    try simp only [if_true, if_false, Bool.false_eq_true, okS_nx, ok_trB, ok_trI, ok_bind, ok_bin, ok_un, ok_k, ok_cmp, ok_cmpT, ok_chain, ok_bl, ok_nil, ok_cons, ok_call, ok_callOp, ok_isi, ok_test, ok_andT, ok_orT, ok_notT, ok_isBl, ok_andV, ok_orV, ok_notV, ok_if, okS_next, okS_seq, okS_ret, okS_expr, okS_if, okS_set, ok_run, ok_src, ok_range, ok_ok, ok_obv, ok_ob, sNext, ok_var0, ok_varS, List.map_cons, List.map_nil, List.length_cons, List.length_nil, List.replicate_succ, List.replicate_zero, List.cons_append, List.nil_append, List.getElem?_cons_zero, List.getElem?_cons_succ, List.set_cons_zero, List.set_cons_succ, Nat.reduceAdd, Nat.reduceSub, Nat.sub_self, Nat.zero_add, Nat.sub_zero]
    refine do_cross_s il.rng (by have := il.few; omega) fun h6 s6 => ?_
    try simp only [if_true, if_false, Bool.false_eq_true, okS_nx, ok_trB, ok_trI, ok_bind, ok_bin, ok_un, ok_k, ok_cmp, ok_cmpT, ok_chain, ok_bl, ok_nil, ok_cons, ok_call, ok_callOp, ok_isi, ok_test, ok_andT, ok_orT, ok_notT, ok_isBl, ok_andV, ok_orV, ok_notV, ok_if, okS_next, okS_seq, okS_ret, okS_expr, okS_if, okS_set, ok_run, ok_src, ok_range, ok_ok, ok_obv, ok_ob, sNext, ok_var0, ok_varS, List.map_cons, List.map_nil, List.length_cons, List.length_nil, List.replicate_succ, List.replicate_zero, List.cons_append, List.nil_append, List.getElem?_cons_zero, List.getElem?_cons_succ, List.set_cons_zero, List.set_cons_succ, Nat.reduceAdd, Nat.reduceSub, Nat.sub_self, Nat.zero_add, Nat.sub_zero]
    refine ⟨trivial, s6, fun _ => ?_⟩
    refine ok_len (seq_tup _) ?_
    rw [List.length_map]
    exact ⟨rfl, .refl _⟩
  · intro n6 h6 s6 f6 l6
    have e6 : ((lots row.length).filter (falls row)).map (fun l => PV.int (l.length : Nat)) = iL (((lots row.length).filter (falls row)).map fun l => (l.length : Int)) := by
      unfold iL
      rw [List.map_map]
      rfl
    rw [e6] at l6
    refine ok_maxN l6 (max_falls row) ?_
    have p6 := p5.sub s6
    have tk : tracks row ≤ row.length := by
      have := (lotOf_is row).1.few
      rw [(lotOf_is row).2.2] at this
      exact this
    try simp only [if_true, if_false, Bool.false_eq_true, okS_nx, ok_trB, ok_trI, ok_bind, ok_bin, ok_un, ok_k, ok_cmp, ok_cmpT, ok_chain, ok_bl, ok_nil, ok_cons, ok_call, ok_callOp, ok_isi, ok_test, ok_andT, ok_orT, ok_notT, ok_isBl, ok_andV, ok_orV, ok_notV, ok_if, okS_next, okS_seq, okS_ret, okS_expr, okS_if, okS_set, ok_run, ok_src, ok_range, ok_ok, ok_obv, ok_ob, sNext, ok_var0, ok_varS, List.map_cons, List.map_nil, List.length_cons, List.length_nil, List.replicate_succ, List.replicate_zero, List.cons_append, List.nil_append, List.getElem?_cons_zero, List.getElem?_cons_succ, List.set_cons_zero, List.set_cons_succ, Nat.reduceAdd, Nat.reduceSub, Nat.sub_self, Nat.zero_add, Nat.sub_zero]
    refine ok_ix (k := 0) (seq_tup _) rfl (fun _ z => by cases z) ?_
    refine ok_reprN (by omega) ?_
    refine ok_reprN (by omega) ?_
    refine ⟨_, neD_str (strOk_nat (by omega)) (strOk_nat (by omega)), ?_⟩
    simp only [beq_self_eq_true, Bool.not_true, Bool.false_eq_true, if_false]
    try simp only [if_true, if_false, Bool.false_eq_true, okS_nx, ok_trB, ok_trI, ok_bind, ok_bin, ok_un, ok_k, ok_cmp, ok_cmpT, ok_chain, ok_bl, ok_nil, ok_cons, ok_call, ok_callOp, ok_isi, ok_test, ok_andT, ok_orT, ok_notT, ok_isBl, ok_andV, ok_orV, ok_notV, ok_if, okS_next, okS_seq, okS_ret, okS_expr, okS_if, okS_set, ok_run, ok_src, ok_range, ok_ok, ok_obv, ok_ob, sNext, ok_var0, ok_varS, List.map_cons, List.map_nil, List.length_cons, List.length_nil, List.replicate_succ, List.replicate_zero, List.cons_append, List.nil_append, List.getElem?_cons_zero, List.getElem?_cons_succ, List.set_cons_zero, List.set_cons_succ, Nat.reduceAdd, Nat.reduceSub, Nat.sub_self, Nat.zero_add, Nat.sub_zero]
    have F := fit_ok row
    have rg : ∀ p ∈ (fit row).2, 0 ≤ p ∧ p < (tracks row : Nat) := fun p hp => by
      obtain ⟨c, hc⟩ := List.mem_iff_getElem?.mp hp
      exact F.rng c p hc
    have pll : (fit row).2.length ≤ 8 := by rw [F.len]; exact hlen
    have lol : (lotOf row).length ≤ 8 := by rw [(lotOf_is row).2.2]; omega
    have gt : ∀ h : MH, Gd h (.tup (told row)) := fun h => gd_three gd_int (gd_ints (by omega)) (gd_ints (by omega))
    refine law_shown_s hr.len (gd_v3 (gt h6)).1 (gd_v3 (gt h6)).2 fun h7 b7 s7 e7 => ?_
    have b7t : b7 = true := e7.mpr ⟨_, _, _, told_shown hr.len⟩
    subst b7t
    try simp only [if_true, if_false, Bool.false_eq_true, okS_nx, ok_trB, ok_trI, ok_bind, ok_bin, ok_un, ok_k, ok_cmp, ok_cmpT, ok_chain, ok_bl, ok_nil, ok_cons, ok_call, ok_callOp, ok_isi, ok_test, ok_andT, ok_orT, ok_notT, ok_isBl, ok_andV, ok_orV, ok_notV, ok_if, okS_next, okS_seq, okS_ret, okS_expr, okS_if, okS_set, ok_run, ok_src, ok_range, ok_ok, ok_obv, ok_ob, sNext, ok_var0, ok_varS, List.map_cons, List.map_nil, List.length_cons, List.length_nil, List.replicate_succ, List.replicate_zero, List.cons_append, List.nil_append, List.getElem?_cons_zero, List.getElem?_cons_succ, List.set_cons_zero, List.set_cons_succ, Nat.reduceAdd, Nat.reduceSub, Nat.sub_self, Nat.zero_add, Nat.sub_zero]
    simp only [Bool.not_true, Bool.false_eq_true, if_false]
    try simp only [if_true, if_false, Bool.false_eq_true, okS_nx, ok_trB, ok_trI, ok_bind, ok_bin, ok_un, ok_k, ok_cmp, ok_cmpT, ok_chain, ok_bl, ok_nil, ok_cons, ok_call, ok_callOp, ok_isi, ok_test, ok_andT, ok_orT, ok_notT, ok_isBl, ok_andV, ok_orV, ok_notV, ok_if, okS_next, okS_seq, okS_ret, okS_expr, okS_if, okS_set, ok_run, ok_src, ok_range, ok_ok, ok_obv, ok_ob, sNext, ok_var0, ok_varS, List.map_cons, List.map_nil, List.length_cons, List.length_nil, List.replicate_succ, List.replicate_zero, List.cons_append, List.nil_append, List.getElem?_cons_zero, List.getElem?_cons_succ, List.set_cons_zero, List.set_cons_succ, Nat.reduceAdd, Nat.reduceSub, Nat.sub_self, Nat.zero_add, Nat.sub_zero]
    -- all values
    refine okS_for ?_
    try simp only [if_true, if_false, Bool.false_eq_true, okS_nx, ok_trB, ok_trI, ok_bind, ok_bin, ok_un, ok_k, ok_cmp, ok_cmpT, ok_chain, ok_bl, ok_nil, ok_cons, ok_call, ok_callOp, ok_isi, ok_test, ok_andT, ok_orT, ok_notT, ok_isBl, ok_andV, ok_orV, ok_notV, ok_if, okS_next, okS_seq, okS_ret, okS_expr, okS_if, okS_set, ok_run, ok_src, ok_range, ok_ok, ok_obv, ok_ob, sNext, ok_var0, ok_varS, List.map_cons, List.map_nil, List.length_cons, List.length_nil, List.replicate_succ, List.replicate_zero, List.cons_append, List.nil_append, List.getElem?_cons_zero, List.getElem?_cons_succ, List.set_cons_zero, List.set_cons_succ, Nat.reduceAdd, Nat.reduceSub, Nat.sub_self, Nat.zero_add, Nat.sub_zero]
    refine values_s hr.len (by omega) (by omega) (by omega) (fun i hi => by
      have := rg i hi
      unfold Bd
      omega) (fun i hi => by
      have := (lotOf_is row).1.rng i hi
      unfold Bd
      omega) (p6.sub s7) (by omega) fun n8 vs h8 l8 ne8 len8 g8 p8 s8 => ?_
    have x8 : SubX p mh h8 := ((x5.trans (s6.x p)).trans (s7.x p)).trans s8
    refine ok_srcL l8 ⟨vs, fun i env h => ∃ a, env = [some (.ref p), some (iT row), some (.tup (told row)), some (.ref k), some (.int (tracks row : Nat)), none, a, none, none, none] ∧ Sub h8 h, by unfold loopFuel; omega, fun i e h q => by
      obtain ⟨_, _, s⟩ := q
      exact srcIs_lst (s _ _ l8), ?_, ?_, ?_⟩
    · rintro i v env h hv ⟨a, rfl, s⟩
      have gv := (g8 v (List.mem_of_getElem? hv)).mono s.ty
      refine ⟨_, rfl, ?_⟩
      try simp only [if_true, if_false, Bool.false_eq_true, okS_nx, ok_trB, ok_trI, ok_bind, ok_bin, ok_un, ok_k, ok_cmp, ok_cmpT, ok_chain, ok_bl, ok_nil, ok_cons, ok_call, ok_callOp, ok_isi, ok_test, ok_andT, ok_orT, ok_notT, ok_isBl, ok_andV, ok_orV, ok_notV, ok_if, okS_next, okS_seq, okS_ret, okS_expr, okS_if, okS_set, ok_run, ok_src, ok_range, ok_ok, ok_obv, ok_ob, sNext, ok_var0, ok_varS, List.map_cons, List.map_nil, List.length_cons, List.length_nil, List.replicate_succ, List.replicate_zero, List.cons_append, List.nil_append, List.getElem?_cons_zero, List.getElem?_cons_succ, List.set_cons_zero, List.set_cons_succ, Nat.reduceAdd, Nat.reduceSub, Nat.sub_self, Nat.zero_add, Nat.sub_zero]
      refine shows_s hr (gd_v3 gv).1 fun h9 b9 s9 e9 => ?_
      refine ok_reprB ?_
      have gv9 := gv.mono s9.ty
      refine law_shown_s hr.len (gd_v3 gv9).1 (gd_v3 gv9).2 fun h10 b10 s10 e10 => ?_
      refine ok_reprB ?_
      have eb : b9 = b10 := Bool.eq_iff_iff.mpr (e9.trans e10.symm)
      subst eb
      refine ⟨_, neD_str (strOk_bl _) (strOk_bl _), ?_⟩
      simp only [beq_self_eq_true, Bool.not_true, Bool.false_eq_true, if_false]
      try simp only [if_true, if_false, Bool.false_eq_true, okS_nx, ok_trB, ok_trI, ok_bind, ok_bin, ok_un, ok_k, ok_cmp, ok_cmpT, ok_chain, ok_bl, ok_nil, ok_cons, ok_call, ok_callOp, ok_isi, ok_test, ok_andT, ok_orT, ok_notT, ok_isBl, ok_andV, ok_orV, ok_notV, ok_if, okS_next, okS_seq, okS_ret, okS_expr, okS_if, okS_set, ok_run, ok_src, ok_range, ok_ok, ok_obv, ok_ob, sNext, ok_var0, ok_varS, List.map_cons, List.map_nil, List.length_cons, List.length_nil, List.replicate_succ, List.replicate_zero, List.cons_append, List.nil_append, List.getElem?_cons_zero, List.getElem?_cons_succ, List.set_cons_zero, List.set_cons_succ, Nat.reduceAdd, Nat.reduceSub, Nat.sub_self, Nat.zero_add, Nat.sub_zero]
      exact ⟨_, rfl, (s.trans s9).trans s10⟩
    · rintro env h ⟨a, rfl, s⟩
      have p9 := p8.sub s
      have k9 : h[k]? = some (.lst ((lots row.length).map iT)) := s _ _ (s8 _ _ (fun z => by
        subst z
        obtain ⟨_, _, _, z, _⟩ := p3.sub s4
        rw [f5] at z
        cases z) (s7 _ _ (s6 _ _ l5)))
      have x9 : SubX p mh h := x8.trans (s.x p)
      -- the row turned about
      try simp only [if_true, if_false, Bool.false_eq_true, okS_nx, ok_trB, ok_trI, ok_bind, ok_bin, ok_un, ok_k, ok_cmp, ok_cmpT, ok_chain, ok_bl, ok_nil, ok_cons, ok_call, ok_callOp, ok_isi, ok_test, ok_andT, ok_orT, ok_notT, ok_isBl, ok_andV, ok_orV, ok_notV, ok_if, okS_next, okS_seq, okS_ret, okS_expr, okS_if, okS_set, ok_run, ok_src, ok_range, ok_ok, ok_obv, ok_ob, sNext, ok_var0, ok_varS, List.map_cons, List.map_nil, List.length_cons, List.length_nil, List.replicate_succ, List.replicate_zero, List.cons_append, List.nil_append, List.getElem?_cons_zero, List.getElem?_cons_succ, List.set_cons_zero, List.set_cons_succ, Nat.reduceAdd, Nat.reduceSub, Nat.sub_self, Nat.zero_add, Nat.sub_zero]
      refine ok_compP row.reverse PV.int (fun _ => true) (fun x => .int (100 - x)) ?_ ?_ ?_
      · try simp only [if_true, if_false, Bool.false_eq_true, okS_nx, ok_trB, ok_trI, ok_bind, ok_bin, ok_un, ok_k, ok_cmp, ok_cmpT, ok_chain, ok_bl, ok_nil, ok_cons, ok_call, ok_callOp, ok_isi, ok_test, ok_andT, ok_orT, ok_notT, ok_isBl, ok_andV, ok_orV, ok_notV, ok_if, okS_next, okS_seq, okS_ret, okS_expr, okS_if, okS_set, ok_run, ok_src, ok_range, ok_ok, ok_obv, ok_ob, sNext, ok_var0, ok_varS, List.map_cons, List.map_nil, List.length_cons, List.length_nil, List.replicate_succ, List.replicate_zero, List.cons_append, List.nil_append, List.getElem?_cons_zero, List.getElem?_cons_succ, List.set_cons_zero, List.set_cons_succ, Nat.reduceAdd, Nat.reduceSub, Nat.sub_self, Nat.zero_add, Nat.sub_zero, ok_rev]
        refine ok_revT.mpr (ok_srcT.mpr ⟨by rw [List.length_reverse]; unfold loopFuel; omega, .refl _, fun h' _ => ?_⟩)
        rw [List.map_reverse]
        exact srcIs_vals _ _
      · intro x hx h' hs'
        refine ⟨_, rfl, ?_⟩
        rw [ok_yes]
        refine ⟨rfl, .refl _, fun _ => ?_⟩
        simp only [wipeE]
        try simp only [if_true, if_false, Bool.false_eq_true, okS_nx, ok_trB, ok_trI, ok_bind, ok_bin, ok_un, ok_k, ok_cmp, ok_cmpT, ok_chain, ok_bl, ok_nil, ok_cons, ok_call, ok_callOp, ok_isi, ok_test, ok_andT, ok_orT, ok_notT, ok_isBl, ok_andV, ok_orV, ok_notV, ok_if, okS_next, okS_seq, okS_ret, okS_expr, okS_if, okS_set, ok_run, ok_src, ok_range, ok_ok, ok_obv, ok_ob, sNext, ok_var0, ok_varS, List.map_cons, List.map_nil, List.length_cons, List.length_nil, List.replicate_succ, List.replicate_zero, List.cons_append, List.nil_append, List.getElem?_cons_zero, List.getElem?_cons_succ, List.set_cons_zero, List.set_cons_succ, Nat.reduceAdd, Nat.reduceSub, Nat.sub_self, Nat.zero_add, Nat.sub_zero]
        exact ⟨rfl, .refl _⟩
      · intro n10 h10 s10 f10 l10
        have e10 : (row.reverse.filter fun _ => true).map (fun x => PV.int (100 - x)) = iL (turn row) := by
          rw [List.filter_eq_self.mpr (by simp)]
          unfold turn
          unfold iL
          rw [List.map_map]
          rfl
        rw [e10] at l10
        refine ok_tupleOf (seq_lst l10) ?_
        refine fewest_s (turn_row hr) fun h11 s11 => ?_
        refine ok_ix (k := 0) (seq_tup _) rfl (fun _ z => by cases z) ?_
        refine ⟨_, neD_int, ?_⟩
        rw [turn_same]
        simp only [decide_true, Bool.not_true, Bool.false_eq_true, if_false]
        try simp only [if_true, if_false, Bool.false_eq_true, okS_nx, ok_trB, ok_trI, ok_bind, ok_bin, ok_un, ok_k, ok_cmp, ok_cmpT, ok_chain, ok_bl, ok_nil, ok_cons, ok_call, ok_callOp, ok_isi, ok_test, ok_andT, ok_orT, ok_notT, ok_isBl, ok_andV, ok_orV, ok_notV, ok_if, okS_next, okS_seq, okS_ret, okS_expr, okS_if, okS_set, ok_run, ok_src, ok_range, ok_ok, ok_obv, ok_ob, sNext, ok_var0, ok_varS, List.map_cons, List.map_nil, List.length_cons, List.length_nil, List.replicate_succ, List.replicate_zero, List.cons_append, List.nil_append, List.getElem?_cons_zero, List.getElem?_cons_succ, List.set_cons_zero, List.set_cons_succ, Nat.reduceAdd, Nat.reduceSub, Nat.sub_self, Nat.zero_add, Nat.sub_zero]
        -- one car more
        refine ok_len (seq_tup _) ?_
        refine ok_addI.mpr ?_
        rw [List.length_map]
        have s911 := s10.trans s11
        refine take_s (p9.sub s911) (by omega) (by omega) (by unfold Bd; omega) fun d h12 d1 d2 p12 s12 => ?_
        obtain ⟨c, rfl⟩ := Int.eq_ofNat_of_zero_le d1
        try simp only [if_true, if_false, Bool.false_eq_true, okS_nx, ok_trB, ok_trI, ok_bind, ok_bin, ok_un, ok_k, ok_cmp, ok_cmpT, ok_chain, ok_bl, ok_nil, ok_cons, ok_call, ok_callOp, ok_isi, ok_test, ok_andT, ok_orT, ok_notT, ok_isBl, ok_andV, ok_orV, ok_notV, ok_if, okS_next, okS_seq, okS_ret, okS_expr, okS_if, okS_set, ok_run, ok_src, ok_range, ok_ok, ok_obv, ok_ob, sNext, ok_var0, ok_varS, List.map_cons, List.map_nil, List.length_cons, List.length_nil, List.replicate_succ, List.replicate_zero, List.cons_append, List.nil_append, List.getElem?_cons_zero, List.getElem?_cons_succ, List.set_cons_zero, List.set_cons_succ, Nat.reduceAdd, Nat.reduceSub, Nat.sub_self, Nat.zero_add, Nat.sub_zero, ok_sl, ok_noPart]
        refine ok_part ⟨_, rfl, ok_slT.mpr ?_⟩
        refine ok_mtup ?_
        try simp only [if_true, if_false, Bool.false_eq_true, okS_nx, ok_trB, ok_trI, ok_bind, ok_bin, ok_un, ok_k, ok_cmp, ok_cmpT, ok_chain, ok_bl, ok_nil, ok_cons, ok_call, ok_callOp, ok_isi, ok_test, ok_andT, ok_orT, ok_notT, ok_isBl, ok_andV, ok_orV, ok_notV, ok_if, okS_next, okS_seq, okS_ret, okS_expr, okS_if, okS_set, ok_run, ok_src, ok_range, ok_ok, ok_obv, ok_ob, sNext, ok_var0, ok_varS, List.map_cons, List.map_nil, List.length_cons, List.length_nil, List.replicate_succ, List.replicate_zero, List.cons_append, List.nil_append, List.getElem?_cons_zero, List.getElem?_cons_succ, List.set_cons_zero, List.set_cons_succ, Nat.reduceAdd, Nat.reduceSub, Nat.sub_self, Nat.zero_add, Nat.sub_zero]
        refine take_s p12 (by omega) (by decide) (by unfold Bd; decide) fun e h13 e1 e2 p13 s13 => ?_
        refine ok_addI.mpr ?_
        refine ⟨by (try simp only [List.length_cons, List.length_nil]); omega, ?_⟩
        rw [cut_to, ← List.map_take]
        have lt : (row.take c).length = c := by rw [List.length_take]; omega
        have ld : (row.drop c).length = row.length - c := by rw [List.length_drop]
        refine ok_addT (by rw [List.length_map]; simp only [List.length_cons, List.length_nil]; omega) ?_
        refine ok_part ⟨_, rfl, ok_slT.mpr ?_⟩
        rw [cut_from, ← List.map_drop]
        have en : iL (row.take c) ++ [PV.int (1 + e)] ++ iL (row.drop c) = iL (row.take c ++ [1 + e] ++ row.drop c) := by
          unfold iL
          rw [List.map_append, List.map_append]
          rfl
        refine ok_addT (by rw [List.length_append, List.length_map, List.length_map]; simp only [List.length_cons, List.length_nil]; omega) ?_
        rw [en]
        have hr2 : IsRow (row.take c ++ [1 + e] ++ row.drop c) := by
          refine ⟨by simp only [List.length_append, List.length_cons, List.length_nil]; omega, fun x hx => ?_⟩
          rcases List.mem_append.mp hx with hx | hx
          · rcases List.mem_append.mp hx with hx | hx
            · exact hr.num x (List.mem_of_mem_take hx)
            · rw [List.mem_singleton] at hx
              omega
          · exact hr.num x (List.mem_of_mem_drop hx)
        refine fewest_s hr2 fun h14 s14 => ?_
        refine ok_ix (k := 0) (seq_tup _) rfl (fun _ z => by cases z) ?_
        try simp only [if_true, if_false, Bool.false_eq_true, okS_nx, ok_trB, ok_trI, ok_bind, ok_bin, ok_un, ok_k, ok_cmp, ok_cmpT, ok_chain, ok_bl, ok_nil, ok_cons, ok_call, ok_callOp, ok_isi, ok_test, ok_andT, ok_orT, ok_notT, ok_isBl, ok_andV, ok_orV, ok_notV, ok_if, okS_next, okS_seq, okS_ret, okS_expr, okS_if, okS_set, ok_run, ok_src, ok_range, ok_ok, ok_obv, ok_ob, sNext, ok_var0, ok_varS, List.map_cons, List.map_nil, List.length_cons, List.length_nil, List.replicate_succ, List.replicate_zero, List.cons_append, List.nil_append, List.getElem?_cons_zero, List.getElem?_cons_succ, List.set_cons_zero, List.set_cons_succ, Nat.reduceAdd, Nat.reduceSub, Nat.sub_self, Nat.zero_add, Nat.sub_zero]
        refine ok_subI.mpr ?_
        refine ok_mtup ?_
        try simp only [if_true, if_false, Bool.false_eq_true, okS_nx, ok_trB, ok_trI, ok_bind, ok_bin, ok_un, ok_k, ok_cmp, ok_cmpT, ok_chain, ok_bl, ok_nil, ok_cons, ok_call, ok_callOp, ok_isi, ok_test, ok_andT, ok_orT, ok_notT, ok_isBl, ok_andV, ok_orV, ok_notV, ok_if, okS_next, okS_seq, okS_ret, okS_expr, okS_if, okS_set, ok_run, ok_src, ok_range, ok_ok, ok_obv, ok_ob, sNext, ok_var0, ok_varS, List.map_cons, List.map_nil, List.length_cons, List.length_nil, List.replicate_succ, List.replicate_zero, List.cons_append, List.nil_append, List.getElem?_cons_zero, List.getElem?_cons_succ, List.set_cons_zero, List.set_cons_succ, Nat.reduceAdd, Nat.reduceSub, Nat.sub_self, Nat.zero_add, Nat.sub_zero]
        refine ⟨by (try simp only [List.length_cons, List.length_nil]); omega, ?_⟩
        have mc := more_car (row.take c) (row.drop c) (1 + e)
        rw [List.take_append_drop] at mc
        generalize tracks (row.take c ++ [1 + e] ++ row.drop c) = T2 at mc
        have hin : inD (.int ((T2 : Int) - (tracks row : Int))) (.tup [.int 0, .int 1]) h14 = some true := by
          have : (T2 : Int) - (tracks row : Int) = 0 ∨ (T2 : Int) - (tracks row : Int) = 1 := by omega
          rcases this with z | z <;> (rw [z]; rfl)
        refine ⟨_, hin, ?_⟩
        try simp only [if_true, if_false, Bool.false_eq_true, okS_nx, ok_trB, ok_trI, ok_bind, ok_bin, ok_un, ok_k, ok_cmp, ok_cmpT, ok_chain, ok_bl, ok_nil, ok_cons, ok_call, ok_callOp, ok_isi, ok_test, ok_andT, ok_orT, ok_notT, ok_isBl, ok_andV, ok_orV, ok_notV, ok_if, okS_next, okS_seq, okS_ret, okS_expr, okS_if, okS_set, ok_run, ok_src, ok_range, ok_ok, ok_obv, ok_ob, sNext, ok_var0, ok_varS, List.map_cons, List.map_nil, List.length_cons, List.length_nil, List.replicate_succ, List.replicate_zero, List.cons_append, List.nil_append, List.getElem?_cons_zero, List.getElem?_cons_succ, List.set_cons_zero, List.set_cons_succ, Nat.reduceAdd, Nat.reduceSub, Nat.sub_self, Nat.zero_add, Nat.sub_zero]
        -- the most that do not cross
        have x14 : SubX p h h14 := (((s911.x p).trans s12).trans s13).trans (s14.x p)
        have k14 := x14 _ _ (pot_ne (p3.sub s4) f5) k9
        refine ok_compP (lots row.length) iT (rises row) (fun l => .int (l.length : Nat)) ?_ ?_ ?_
        · try simp only [if_true, if_false, Bool.false_eq_true, okS_nx, ok_trB, ok_trI, ok_bind, ok_bin, ok_un, ok_k, ok_cmp, ok_cmpT, ok_chain, ok_bl, ok_nil, ok_cons, ok_call, ok_callOp, ok_isi, ok_test, ok_andT, ok_orT, ok_notT, ok_isBl, ok_andV, ok_orV, ok_notV, ok_if, okS_next, okS_seq, okS_ret, okS_expr, okS_if, okS_set, ok_run, ok_src, ok_range, ok_ok, ok_obv, ok_ob, sNext, ok_var0, ok_varS, List.map_cons, List.map_nil, List.length_cons, List.length_nil, List.replicate_succ, List.replicate_zero, List.cons_append, List.nil_append, List.getElem?_cons_zero, List.getElem?_cons_succ, List.set_cons_zero, List.set_cons_succ, Nat.reduceAdd, Nat.reduceSub, Nat.sub_self, Nat.zero_add, Nat.sub_zero]
          refine ok_srcL k14 ⟨by unfold loopFuel; omega, .refl _, fun h' hs' => srcIs_lst (hs' _ _ k14)⟩
        · intro l hl h' hs'
          have il := lots_is _ _ hl
          refine ⟨_, rfl, ?_⟩
          simp only [wipeE]
          try simp only [if_true, if_false, Bool.false_eq_true, okS_nx, ok_trB, ok_trI, ok_bind, ok_bin, ok_un, ok_k, ok_cmp, ok_cmpT, ok_chain, ok_bl, ok_nil, ok_cons, ok_call, ok_callOp, ok_isi, ok_test, ok_andT, ok_orT, ok_notT, ok_isBl, ok_andV, ok_orV, ok_notV, ok_if, okS_next, okS_seq, okS_ret, okS_expr, okS_if, okS_set, ok_run, ok_src, ok_range, ok_ok, ok_obv, ok_ob, sNext, ok_var0, ok_varS, List.map_cons, List.map_nil, List.length_cons, List.length_nil, List.replicate_succ, List.replicate_zero, List.cons_append, List.nil_append, List.getElem?_cons_zero, List.getElem?_cons_succ, List.set_cons_zero, List.set_cons_succ, Nat.reduceAdd, Nat.reduceSub, Nat.sub_self, Nat.zero_add, Nat.sub_zero]
          refine can_stand_s il.rng (by have := il.few; omega) fun h6 s6 => ?_
          try simp only [if_true, if_false, Bool.false_eq_true, okS_nx, ok_trB, ok_trI, ok_bind, ok_bin, ok_un, ok_k, ok_cmp, ok_cmpT, ok_chain, ok_bl, ok_nil, ok_cons, ok_call, ok_callOp, ok_isi, ok_test, ok_andT, ok_orT, ok_notT, ok_isBl, ok_andV, ok_orV, ok_notV, ok_if, okS_next, okS_seq, okS_ret, okS_expr, okS_if, okS_set, ok_run, ok_src, ok_range, ok_ok, ok_obv, ok_ob, sNext, ok_var0, ok_varS, List.map_cons, List.map_nil, List.length_cons, List.length_nil, List.replicate_succ, List.replicate_zero, List.cons_append, List.nil_append, List.getElem?_cons_zero, List.getElem?_cons_succ, List.set_cons_zero, List.set_cons_succ, Nat.reduceAdd, Nat.reduceSub, Nat.sub_self, Nat.zero_add, Nat.sub_zero]
          refine ⟨trivial, s6, fun _ => ?_⟩
          refine ok_len (seq_tup _) ?_
          rw [List.length_map]
          exact ⟨rfl, .refl _⟩
        · intro n15 h15 s15 f15 l15
          have e15 : ((lots row.length).filter (rises row)).map (fun l => PV.int (l.length : Nat)) = iL (((lots row.length).filter (rises row)).map fun l => (l.length : Int)) := by
            unfold iL
            rw [List.map_map]
            rfl
          rw [e15] at l15
          obtain ⟨m, m1, m2, m3⟩ := max_rises row
          refine ok_maxN l15 m1 ?_
          refine ok_mulI (a := 100) (b := 100) (by unfold Bd; omega) (by unfold Bd; omega) (by decide) ?_
          refine ok_len (seq_tup _) ?_
          refine ⟨_, rfl, ?_⟩
          rw [List.length_map]
          have : ((row.length : Nat) : Int) ≤ (tracks row : Int) * (m : Int) := by
            rw [← Int.natCast_mul]
            omega
          have e16 : decide (((row.length : Nat) : Int) ≤ (tracks row : Int) * (m : Int)) = true := decide_eq_true this
          show Q (.bl (decide (((row.length : Nat) : Int) ≤ (tracks row : Int) * (m : Int)))) h15
          rw [e16]
          exact q _ (((p13.sub s14).sub s15).mono (by omega)) ((x9.trans x14).trans (s15.x p))
    · exact ⟨_, rfl, .refl _⟩
/-! ### the law -/
theorem cells_s {ns : List Int} {mh : MH} (h0 : mh[0]? = some (.scr (ns.map PV.int))) (hn : ns.length ≤ 63) {Q : PV → MH → Prop} (q : ∀ k n h, k ≤ 3 → Sub mh h → h[n]? = some (.lst (iL ((List.range k).map fun (k : Nat) => (k : Int)))) → Q (.ref n) h) : Ok (f__law_cells [.ref 0, .int 3] mh) Q := by
  unfold f__law_cells
  try simp only [if_true, if_false, Bool.false_eq_true, okS_nx, ok_trB, ok_trI, ok_bind, ok_bin, ok_un, ok_k, ok_cmp, ok_cmpT, ok_chain, ok_bl, ok_nil, ok_cons, ok_call, ok_callOp, ok_isi, ok_test, ok_andT, ok_orT, ok_notT, ok_isBl, ok_andV, ok_orV, ok_notV, ok_if, okS_next, okS_seq, okS_ret, okS_expr, okS_if, okS_set, ok_run, ok_src, ok_range, ok_ok, ok_obv, ok_ob, sNext, ok_var0, ok_varS, List.map_cons, List.map_nil, List.length_cons, List.length_nil, List.replicate_succ, List.replicate_zero, List.cons_append, List.nil_append, List.getElem?_cons_zero, List.getElem?_cons_succ, List.set_cons_zero, List.set_cons_succ, Nat.reduceAdd, Nat.reduceSub, Nat.sub_self, Nat.zero_add, Nat.sub_zero]
  refine ok_rg1 ?_
  try simp only [if_true, if_false, Bool.false_eq_true, okS_nx, ok_trB, ok_trI, ok_bind, ok_bin, ok_un, ok_k, ok_cmp, ok_cmpT, ok_chain, ok_bl, ok_nil, ok_cons, ok_call, ok_callOp, ok_isi, ok_test, ok_andT, ok_orT, ok_notT, ok_isBl, ok_andV, ok_orV, ok_notV, ok_if, okS_next, okS_seq, okS_ret, okS_expr, okS_if, okS_set, ok_run, ok_src, ok_range, ok_ok, ok_obv, ok_ob, sNext, ok_var0, ok_varS, List.map_cons, List.map_nil, List.length_cons, List.length_nil, List.replicate_succ, List.replicate_zero, List.cons_append, List.nil_append, List.getElem?_cons_zero, List.getElem?_cons_succ, List.set_cons_zero, List.set_cons_succ, Nat.reduceAdd, Nat.reduceSub, Nat.sub_self, Nat.zero_add, Nat.sub_zero]
  refine ok_len (seq_scr h0) ?_
  rw [List.length_map]
  have e1 : opMinA [.int 3, .int (ns.length : Nat)] mh = .ok (.int (if (ns.length : Int) < 3 then (ns.length : Int) else 3)) mh := rfl
  rw [e1]
  try simp only [if_true, if_false, Bool.false_eq_true, okS_nx, ok_trB, ok_trI, ok_bind, ok_bin, ok_un, ok_k, ok_cmp, ok_cmpT, ok_chain, ok_bl, ok_nil, ok_cons, ok_call, ok_callOp, ok_isi, ok_test, ok_andT, ok_orT, ok_notT, ok_isBl, ok_andV, ok_orV, ok_notV, ok_if, okS_next, okS_seq, okS_ret, okS_expr, okS_if, okS_set, ok_run, ok_src, ok_range, ok_ok, ok_obv, ok_ob, sNext, ok_var0, ok_varS, List.map_cons, List.map_nil, List.length_cons, List.length_nil, List.replicate_succ, List.replicate_zero, List.cons_append, List.nil_append, List.getElem?_cons_zero, List.getElem?_cons_succ, List.set_cons_zero, List.set_cons_succ, Nat.reduceAdd, Nat.reduceSub, Nat.sub_self, Nat.zero_add, Nat.sub_zero]
  generalize ej : (if (ns.length : Int) < 3 then (ns.length : Int) else 3) = j
  have hj : 0 ≤ j ∧ j ≤ 3 := by
    rw [← ej]
    split <;> omega
  have e2 : opMaxA [.int 1, .int j] mh = .ok (.int (if j > 1 then j else 1)) mh := rfl
  rw [e2]
  try simp only [if_true, if_false, Bool.false_eq_true, okS_nx, ok_trB, ok_trI, ok_bind, ok_bin, ok_un, ok_k, ok_cmp, ok_cmpT, ok_chain, ok_bl, ok_nil, ok_cons, ok_call, ok_callOp, ok_isi, ok_test, ok_andT, ok_orT, ok_notT, ok_isBl, ok_andV, ok_orV, ok_notV, ok_if, okS_next, okS_seq, okS_ret, okS_expr, okS_if, okS_set, ok_run, ok_src, ok_range, ok_ok, ok_obv, ok_ob, sNext, ok_var0, ok_varS, List.map_cons, List.map_nil, List.length_cons, List.length_nil, List.replicate_succ, List.replicate_zero, List.cons_append, List.nil_append, List.getElem?_cons_zero, List.getElem?_cons_succ, List.set_cons_zero, List.set_cons_succ, Nat.reduceAdd, Nat.reduceSub, Nat.sub_self, Nat.zero_add, Nat.sub_zero]
  generalize ei : (if j > 1 then j else 1) = i
  have hi : 0 ≤ i ∧ i ≤ 3 := by
    rw [← ei]
    split <;> omega
  obtain ⟨k, rfl⟩ := Int.eq_ofNat_of_zero_le hi.1
  exact ⟨_, rfl, ok_rgL (by omega) fun n h s f l => q k n h (by omega) s l⟩
theorem told_nil : told [] = [.int 0, .tup [], .tup []] := rfl
theorem repr_nil : PyData.shown (.tuple [.int 0, .tuple [], .tuple []]) = "(0, (), ())" ∧ (PyData.showable (.tuple [.int 0, .tuple [], .tuple []]) && !PyData.hasDict (.tuple [.int 0, .tuple [], .tuple []]) && decide (PyData.depth (.tuple [.int 0, .tuple [], .tuple []]) ≤ 66) && decide ((PyData.shown (.tuple [.int 0, .tuple [], .tuple []])).length ≤ sizeLine)) = true ∧ PyData.strOk "(0, (), ())" = true := by decide +kernel
theorem law_s {ns : List Int} (hn : ns.length ≤ 63) : ∃ mh', f_law [.ref 0] [.scr (ns.map PV.int)] = .ok (.bl true) mh' := by
  have key : Ok (f_law [.ref 0] [.scr (ns.map PV.int)]) fun v _ => v = .bl true := by
    generalize hm : ([.scr (ns.map PV.int)] : MH) = mh
    have h0 : mh[0]? = some (.scr (ns.map PV.int)) := by rw [← hm]; rfl
    unfold f_law
    try simp only [if_true, if_false, Bool.false_eq_true, okS_nx, ok_trB, ok_trI, ok_bind, ok_bin, ok_un, ok_k, ok_cmp, ok_cmpT, ok_chain, ok_bl, ok_nil, ok_cons, ok_call, ok_callOp, ok_isi, ok_test, ok_andT, ok_orT, ok_notT, ok_isBl, ok_andV, ok_orV, ok_notV, ok_if, okS_next, okS_seq, okS_ret, okS_expr, okS_if, okS_set, ok_run, ok_src, ok_range, ok_ok, ok_obv, ok_ob, sNext, ok_var0, ok_varS, List.map_cons, List.map_nil, List.length_cons, List.length_nil, List.replicate_succ, List.replicate_zero, List.cons_append, List.nil_append, List.getElem?_cons_zero, List.getElem?_cons_succ, List.set_cons_zero, List.set_cons_succ, Nat.reduceAdd, Nat.reduceSub, Nat.sub_self, Nat.zero_add, Nat.sub_zero]
    refine okS_for ?_
    try simp only [if_true, if_false, Bool.false_eq_true, okS_nx, ok_trB, ok_trI, ok_bind, ok_bin, ok_un, ok_k, ok_cmp, ok_cmpT, ok_chain, ok_bl, ok_nil, ok_cons, ok_call, ok_callOp, ok_isi, ok_test, ok_andT, ok_orT, ok_notT, ok_isBl, ok_andV, ok_orV, ok_notV, ok_if, okS_next, okS_seq, okS_ret, okS_expr, okS_if, okS_set, ok_run, ok_src, ok_range, ok_ok, ok_obv, ok_ob, sNext, ok_var0, ok_varS, List.map_cons, List.map_nil, List.length_cons, List.length_nil, List.replicate_succ, List.replicate_zero, List.cons_append, List.nil_append, List.getElem?_cons_zero, List.getElem?_cons_succ, List.set_cons_zero, List.set_cons_succ, Nat.reduceAdd, Nat.reduceSub, Nat.sub_self, Nat.zero_add, Nat.sub_zero]
    refine cells_s h0 hn fun k n1 h1 hk s1 l1 => ?_
    refine ok_srcL l1 ⟨iL ((List.range k).map fun (k : Nat) => (k : Int)), fun i env h => ∃ a b, env = [some (.ref 0), a, b] ∧ Sub h1 h, by rw [List.length_map, List.length_map, List.length_range]; unfold loopFuel; omega, fun i e h q => by
      obtain ⟨_, _, _, s⟩ := q
      exact srcIs_lst (s _ _ l1), ?_, ?_, ?_⟩
    · rintro i v env h hv ⟨a, b, rfl, s⟩
      rw [List.getElem?_map, List.getElem?_map] at hv
      obtain ⟨x, hx, rfl⟩ := Option.map_eq_some_iff.mp hv
      obtain ⟨c, hc, rfl⟩ := Option.map_eq_some_iff.mp hx
      have hc2 := List.mem_range.mp (List.mem_of_getElem? hc)
      refine ⟨_, rfl, ?_⟩
      try simp only [if_true, if_false, Bool.false_eq_true, okS_nx, ok_trB, ok_trI, ok_bind, ok_bin, ok_un, ok_k, ok_cmp, ok_cmpT, ok_chain, ok_bl, ok_nil, ok_cons, ok_call, ok_callOp, ok_isi, ok_test, ok_andT, ok_orT, ok_notT, ok_isBl, ok_andV, ok_orV, ok_notV, ok_if, okS_next, okS_seq, okS_ret, okS_expr, okS_if, okS_set, ok_run, ok_src, ok_range, ok_ok, ok_obv, ok_ob, sNext, ok_var0, ok_varS, List.map_cons, List.map_nil, List.length_cons, List.length_nil, List.replicate_succ, List.replicate_zero, List.cons_append, List.nil_append, List.getElem?_cons_zero, List.getElem?_cons_succ, List.set_cons_zero, List.set_cons_succ, Nat.reduceAdd, Nat.reduceSub, Nat.sub_self, Nat.zero_add, Nat.sub_zero]
      refine pot_s (s _ _ (s1 _ _ h0)) hn (by omega) fun p h2 s2 f2 p2 => ?_
      try simp only [if_true, if_false, Bool.false_eq_true, okS_nx, ok_trB, ok_trI, ok_bind, ok_bin, ok_un, ok_k, ok_cmp, ok_cmpT, ok_chain, ok_bl, ok_nil, ok_cons, ok_call, ok_callOp, ok_isi, ok_test, ok_andT, ok_orT, ok_notT, ok_isBl, ok_andV, ok_orV, ok_notV, ok_if, okS_next, okS_seq, okS_ret, okS_expr, okS_if, okS_set, ok_run, ok_src, ok_range, ok_ok, ok_obv, ok_ob, sNext, ok_var0, ok_varS, List.map_cons, List.map_nil, List.length_cons, List.length_nil, List.replicate_succ, List.replicate_zero, List.cons_append, List.nil_append, List.getElem?_cons_zero, List.getElem?_cons_succ, List.set_cons_zero, List.set_cons_succ, Nat.reduceAdd, Nat.reduceSub, Nat.sub_self, Nat.zero_add, Nat.sub_zero]
      refine right_s p2 (by decide) fun h3 p3 s3 => ?_
      try simp only [if_true, if_false, Bool.false_eq_true, okS_nx, ok_trB, ok_trI, ok_bind, ok_bin, ok_un, ok_k, ok_cmp, ok_cmpT, ok_chain, ok_bl, ok_nil, ok_cons, ok_call, ok_callOp, ok_isi, ok_test, ok_andT, ok_orT, ok_notT, ok_isBl, ok_andV, ok_orV, ok_notV, ok_if, okS_next, okS_seq, okS_ret, okS_expr, okS_if, okS_set, ok_run, ok_src, ok_range, ok_ok, ok_obv, ok_ob, sNext, ok_var0, ok_varS, List.map_cons, List.map_nil, List.length_cons, List.length_nil, List.replicate_succ, List.replicate_zero, List.cons_append, List.nil_append, List.getElem?_cons_zero, List.getElem?_cons_succ, List.set_cons_zero, List.set_cons_succ, Nat.reduceAdd, Nat.reduceSub, Nat.sub_self, Nat.zero_add, Nat.sub_zero]
      simp only [Bool.not_true, Bool.false_eq_true, if_false]
      try simp only [if_true, if_false, Bool.false_eq_true, okS_nx, ok_trB, ok_trI, ok_bind, ok_bin, ok_un, ok_k, ok_cmp, ok_cmpT, ok_chain, ok_bl, ok_nil, ok_cons, ok_call, ok_callOp, ok_isi, ok_test, ok_andT, ok_orT, ok_notT, ok_isBl, ok_andV, ok_orV, ok_notV, ok_if, okS_next, okS_seq, okS_ret, okS_expr, okS_if, okS_set, ok_run, ok_src, ok_range, ok_ok, ok_obv, ok_ob, sNext, ok_var0, ok_varS, List.map_cons, List.map_nil, List.length_cons, List.length_nil, List.replicate_succ, List.replicate_zero, List.cons_append, List.nil_append, List.getElem?_cons_zero, List.getElem?_cons_succ, List.set_cons_zero, List.set_cons_succ, Nat.reduceAdd, Nat.reduceSub, Nat.sub_self, Nat.zero_add, Nat.sub_zero]
      refine right_s p3 (by decide) fun h4 p4 s4 => ?_
      try simp only [if_true, if_false, Bool.false_eq_true, okS_nx, ok_trB, ok_trI, ok_bind, ok_bin, ok_un, ok_k, ok_cmp, ok_cmpT, ok_chain, ok_bl, ok_nil, ok_cons, ok_call, ok_callOp, ok_isi, ok_test, ok_andT, ok_orT, ok_notT, ok_isBl, ok_andV, ok_orV, ok_notV, ok_if, okS_next, okS_seq, okS_ret, okS_expr, okS_if, okS_set, ok_run, ok_src, ok_range, ok_ok, ok_obv, ok_ob, sNext, ok_var0, ok_varS, List.map_cons, List.map_nil, List.length_cons, List.length_nil, List.replicate_succ, List.replicate_zero, List.cons_append, List.nil_append, List.getElem?_cons_zero, List.getElem?_cons_succ, List.set_cons_zero, List.set_cons_succ, Nat.reduceAdd, Nat.reduceSub, Nat.sub_self, Nat.zero_add, Nat.sub_zero]
      simp only [Bool.not_true, Bool.false_eq_true, if_false]
      try simp only [if_true, if_false, Bool.false_eq_true, okS_nx, ok_trB, ok_trI, ok_bind, ok_bin, ok_un, ok_k, ok_cmp, ok_cmpT, ok_chain, ok_bl, ok_nil, ok_cons, ok_call, ok_callOp, ok_isi, ok_test, ok_andT, ok_orT, ok_notT, ok_isBl, ok_andV, ok_orV, ok_notV, ok_if, okS_next, okS_seq, okS_ret, okS_expr, okS_if, okS_set, ok_run, ok_src, ok_range, ok_ok, ok_obv, ok_ob, sNext, ok_var0, ok_varS, List.map_cons, List.map_nil, List.length_cons, List.length_nil, List.replicate_succ, List.replicate_zero, List.cons_append, List.nil_append, List.getElem?_cons_zero, List.getElem?_cons_succ, List.set_cons_zero, List.set_cons_succ, Nat.reduceAdd, Nat.reduceSub, Nat.sub_self, Nat.zero_add, Nat.sub_zero]
      refine ⟨_, _, rfl, fun j o e => ?_⟩
      have hj := s _ _ e
      have hne : j ≠ p := fun z => by
        subst z
        rw [f2] at hj
        cases hj
      exact s4 _ _ hne (s3 _ _ hne (s2 _ _ hj))
    · rintro env h ⟨a, b, rfl, s⟩
      try simp only [if_true, if_false, Bool.false_eq_true, okS_nx, ok_trB, ok_trI, ok_bind, ok_bin, ok_un, ok_k, ok_cmp, ok_cmpT, ok_chain, ok_bl, ok_nil, ok_cons, ok_call, ok_callOp, ok_isi, ok_test, ok_andT, ok_orT, ok_notT, ok_isBl, ok_andV, ok_orV, ok_notV, ok_if, okS_next, okS_seq, okS_ret, okS_expr, okS_if, okS_set, ok_run, ok_src, ok_range, ok_ok, ok_obv, ok_ob, sNext, ok_var0, ok_varS, List.map_cons, List.map_nil, List.length_cons, List.length_nil, List.replicate_succ, List.replicate_zero, List.cons_append, List.nil_append, List.getElem?_cons_zero, List.getElem?_cons_succ, List.set_cons_zero, List.set_cons_succ, Nat.reduceAdd, Nat.reduceSub, Nat.sub_self, Nat.zero_add, Nat.sub_zero]
      refine ok_mtup ?_
      try simp only [if_true, if_false, Bool.false_eq_true, okS_nx, ok_trB, ok_trI, ok_bind, ok_bin, ok_un, ok_k, ok_cmp, ok_cmpT, ok_chain, ok_bl, ok_nil, ok_cons, ok_call, ok_callOp, ok_isi, ok_test, ok_andT, ok_orT, ok_notT, ok_isBl, ok_andV, ok_orV, ok_notV, ok_if, okS_next, okS_seq, okS_ret, okS_expr, okS_if, okS_set, ok_run, ok_src, ok_range, ok_ok, ok_obv, ok_ob, sNext, ok_var0, ok_varS, List.map_cons, List.map_nil, List.length_cons, List.length_nil, List.replicate_succ, List.replicate_zero, List.cons_append, List.nil_append, List.getElem?_cons_zero, List.getElem?_cons_succ, List.set_cons_zero, List.set_cons_succ, Nat.reduceAdd, Nat.reduceSub, Nat.sub_self, Nat.zero_add, Nat.sub_zero]
      refine ⟨Nat.zero_le _, ?_⟩
      refine fewest_s (row := []) ⟨by simp, by simp⟩ fun h2 s2 => ?_
      rw [told_nil]
      have er : opRepr [.tup [.int 0, .tup [], .tup []]] h2 = .ok (.str "(0, (), ())") h2 := by
        unfold opRepr
        have et : toD dataFuel h2 (.tup [.int 0, .tup [], .tup []]) = some (.tuple [.int 0, .tuple [], .tuple []]) := told_d (k := 0) (a := []) (b := [])
        simp only [et]
        rw [if_pos repr_nil.2.1, repr_nil.1]
      rw [er]
      try simp only [if_true, if_false, Bool.false_eq_true, okS_nx, ok_trB, ok_trI, ok_bind, ok_bin, ok_un, ok_k, ok_cmp, ok_cmpT, ok_chain, ok_bl, ok_nil, ok_cons, ok_call, ok_callOp, ok_isi, ok_test, ok_andT, ok_orT, ok_notT, ok_isBl, ok_andV, ok_orV, ok_notV, ok_if, okS_next, okS_seq, okS_ret, okS_expr, okS_if, okS_set, ok_run, ok_src, ok_range, ok_ok, ok_obv, ok_ob, sNext, ok_var0, ok_varS, List.map_cons, List.map_nil, List.length_cons, List.length_nil, List.replicate_succ, List.replicate_zero, List.cons_append, List.nil_append, List.getElem?_cons_zero, List.getElem?_cons_succ, List.set_cons_zero, List.set_cons_succ, Nat.reduceAdd, Nat.reduceSub, Nat.sub_self, Nat.zero_add, Nat.sub_zero]
      refine ⟨_, eqD_str repr_nil.2.2 repr_nil.2.2, ?_⟩
      rw [beq_self_eq_true]
    · exact ⟨_, _, rfl, .refl _⟩
  obtain ⟨v, h, e, rfl⟩ := key.get
  exact ⟨h, e⟩
end K10
open PySem PySem.W PySem.Calls PyProof.Rows in
theorem holds_of (hlaw : ∀ ns : List Int, ns.length ≤ 63 → (∀ i ∈ ns, Builtin.Int.intBits i ≤ 1048576) → ∃ mh', K10.f_law [.ref 0] [.scr (ns.map Ev.PV.int)] = .ok (.bl true) mh') : PySem.Challenge.rw_tracksenough_k10_whole_fewest_tracks.Holds := by
  w_on; o_law
  refine HandSHeadRun.head_any (r := OpenLaw.row PySem.Challenge.rw_tracksenough_k10_whole_fewest_tracks) (q := view (OpenLaw.row PySem.Challenge.rw_tracksenough_k10_whole_fewest_tracks).prog [39]) (H := K10.hk) (ob := K10.ob)
    (M := 4000) (loose := K10.names) (d := HandSHeadRun.topDef (OpenLaw.row PySem.Challenge.rw_tracksenough_k10_whole_fewest_tracks).prog 39) (kwd := []) K10.ob_eq
    (by kernel_rfl) (fun s => by kernel_rfl) K10.run (by kernel_rfl) (by kernel_rfl) (by kernel_rfl) (by rfl) (by first | assumption | decide +kernel)
    (by decide +kernel) ⟨rfl, rfl, rfl, rfl, rfl, by decide +kernel⟩ ?wit ?cal
  case wit => w_witness2
  case cal =>
    refine Ev.walk_g (l := PySem.Challenge.rw_tracksenough_k10_whole_fewest_tracks) (n := 63) (k := 12) (x := "script") (cf := K10.f_law) rfl (by decide) (by kernel_rfl) ⟨rfl, by decide, by decide⟩ ?fac hlaw
    intro w mg fa h Y G hmg0
    obtain ⟨K, KX, c⟩ := Y
    have hmg : mg ("law" : PySem.Str) = some (.ref fa) := by
      have e : (HandSHeadRun.topDef (OpenLaw.row PySem.Challenge.rw_tracksenough_k10_whole_fewest_tracks).prog 39).name = ("law" : PySem.Str) := by kernel_rfl
      rw [← e]
      exact hmg0
    obtain ⟨fd, hb, hF⟩ := K10.facts (P := (PySem.Challenge.rw_tracksenough_k10_whole_fewest_tracks).prog) (w := w) KX G hmg c
    exact ⟨K, fd, KX, hb, hF⟩
theorem PySem.Challenge.cw_tracksenough_k10_whole_fewest_tracks_holds : PySem.Challenge.rw_tracksenough_k10_whole_fewest_tracks.Holds :=
  holds_of fun ns hn hi => K10.law_s hn
