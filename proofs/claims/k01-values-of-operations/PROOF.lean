import PyProof.Rows.All
import Wide.All
import OpenK.AllK
import Wide.FinOn
import HandS.ForMost
import HandS.ForExc
import HandS.HeadHook4
import HandS.TupAny
import HandS.IsInst
import HandS.Wide
import HandS.Style
import HandS.Flow
import HandS.TryMany
import HandS.CallSlots
import HandS.WrittenGet
import HandS.Replace
import HandS.Deep
import HandS.Defaults
import HandS.More
import HandS.HeadEnd
import HandS.Head2
import HandS.HeadHook3
import PySem.Challenge.RW_overlappedloops_k01_values_of_operations

section
set_option Elab.async false
set_option linter.all false
set_option maxRecDepth 100000
set_option maxHeartbeats 2000000
/-! Dn1: values as data: deep frozen data D, cells that may change, the store, what the abstract heap says of them. -/
namespace Dn
open PySem PySem.Spec PyProof.Rows L2

/-- frozen data: never changed again -/
inductive D where
  | non | bl (b : Bool) | int (i : Int) | str (x : Str) | tup (xs : List D) | lst (xs : List D) | rls (xs : List D) | obj (c : Str) (fs : List (Str × D)) | ty (n : String)
/-- a value: frozen data, or the k-th cell of the store -/
inductive W where
  | val (d : D) | ptr (k : Nat)
inductive Cell where
  | lst (ws : List W) | dic (kvs : List (Key × W)) | dit (kvs : List (List Key × W)) | ins (c : Str) (fs : List (Str × W)) | frz (d : D)
abbrev Store := List Cell
abbrev Env := List (Option W)

inductive R (α : Type) where
  | ok (a : α) (M : Store) | exc (c : Str) (fs : List (Str × D)) (M : Store) | stuck
inductive SR where
  | nx (e : Env) (M : Store) | rt (w : W) (M : Store) | bk (e : Env) (M : Store) | ct (e : Env) (M : Store) | exc (c : Str) (fs : List (Str × D)) (e : Env) (M : Store) | stuck

def R.bind {α β : Type} (r : R α) (f : α → Store → R β) : R β := match r with
  | .ok a M => f a M
  | .exc c fs M => .exc c fs M
  | .stuck => .stuck
theorem R.bind_ok {α β : Type} {a : α} {M : Store} {f : α → Store → R β} : R.bind (.ok a M) f = f a M := rfl
theorem R.bind_exc {α β : Type} {c fs M} {f : α → Store → R β} : R.bind (.exc c fs M) f = .exc c fs M := rfl
theorem R.bind_stuck {α β : Type} {f : α → Store → R β} : R.bind .stuck f = .stuck := rfl

/-! ### what frozen data says of the heap -/
mutual
inductive Fz (K : PySem.W.Frag) (B : Hp) : D → V → Prop
  | non : Fz K B .non .non
  | bl (b : Bool) : Fz K B (.bl b) (.bl b)
  | int (i : Int) : Fz K B (.int i) (.int i)
  | str (x : Str) : Fz K B (.str x) (.str x)
  | ty (n : String) : Fz K B (.ty n) (.ty n)
  | tup {p : Addr} {ds : List D} {vs : List V} : SqT K B p vs → FzL K B ds vs → Fz K B (.tup ds) (.ref p)
  | lst {p : Addr} {ds : List D} {vs : List V} : B p = some (.lst vs) → FzL K B ds vs → Fz K B (.lst ds) (.ref p)
  | rls {p : Addr} {ds : List D} {vs : List V} : SqL K B p vs → FzL K B ds vs → Fz K B (.rls ds) (.ref p)
  | obj {p dx : Addr} {c : Str} {fs : List (Str × D)} {gs : List (Str × V)} : B p = some (.ins (He.ga K c) dx gs) → B dx = some (.own p) → FzF K B fs gs → Fz K B (.obj c fs) (.ref p)
inductive FzL (K : PySem.W.Frag) (B : Hp) : List D → List V → Prop
  | nil : FzL K B [] []
  | cons {d : D} {v : V} {ds : List D} {vs : List V} : Fz K B d v → FzL K B ds vs → FzL K B (d :: ds) (v :: vs)
inductive FzF (K : PySem.W.Frag) (B : Hp) : List (Str × D) → List (Str × V) → Prop
  | nil : FzF K B [] []
  | cons {f : Str} {d : D} {v : V} {ds : List (Str × D)} {vs : List (Str × V)} : Fz K B d v → FzF K B ds vs → FzF K B ((f, d) :: ds) ((f, v) :: vs)
end
section
variable {K : PySem.W.Frag} {B B' : Hp}
theorem rd_mono {a : Addr} {u : HO} (e : Same B B') (h : Rd B a u) : Rd B' a u := by
  rcases h with h | ⟨o, h⟩
  · exact .inl (e _ _ h)
  · exact .inr ⟨o, e _ _ h⟩
theorem sqL_mono {a : Addr} {xs : List V} (e : Same B B') (h : SqL K B a xs) : SqL K B' a xs := h.imp (rd_mono e) id
theorem sqT_mono {a : Addr} {xs : List V} (e : Same B B') (h : SqT K B a xs) : SqT K B' a xs := h.imp (rd_mono e) id
mutual
theorem Fz.mono (e : Same B B') : ∀ {d : D} {v : V}, Fz K B d v → Fz K B' d v
  | _, _, .non => .non
  | _, _, .bl b => .bl b
  | _, _, .int i => .int i
  | _, _, .str x => .str x
  | _, _, .ty x => .ty x
  | _, _, .tup h t => .tup (sqT_mono e h) (FzL.mono e t)
  | _, _, .lst h t => .lst (e _ _ h) (FzL.mono e t)
  | _, _, .rls h t => .rls (sqL_mono e h) (FzL.mono e t)
  | _, _, .obj h g t => .obj (e _ _ h) (e _ _ g) (FzF.mono e t)
theorem FzL.mono (e : Same B B') : ∀ {d : List D} {v : List V}, FzL K B d v → FzL K B' d v
  | _, _, .nil => .nil
  | _, _, .cons h t => .cons (Fz.mono e h) (FzL.mono e t)
theorem FzF.mono (e : Same B B') : ∀ {d : List (Str × D)} {v : List (Str × V)}, FzF K B d v → FzF K B' d v
  | _, _, .nil => .nil
  | _, _, .cons h t => .cons (Fz.mono e h) (FzF.mono e t)
end
theorem FzL.length : ∀ {d : List D} {v : List V}, FzL K B d v → v.length = d.length
  | _, _, .nil => rfl
  | _, _, .cons _ t => congrArg Nat.succ t.length
theorem FzL.get : ∀ {d : List D} {v : List V} {i : Nat} {x : D}, FzL K B d v → d[i]? = some x → ∃ y, v[i]? = some y ∧ Fz K B x y
  | _, _, _, _, .nil, h => by simp at h
  | _, _, 0, _, .cons a _, h => by simp at h; subst h; exact ⟨_, rfl, a⟩
  | _, _, i + 1, _, .cons _ t, h => by
    obtain ⟨y, e, r⟩ := FzL.get (i := i) t (by simpa using h)
    exact ⟨y, by simpa using e, r⟩
theorem FzL.append : ∀ {d d' : List D} {v v' : List V}, FzL K B d v → FzL K B d' v' → FzL K B (d ++ d') (v ++ v')
  | _, _, _, _, .nil, h => h
  | _, _, _, _, .cons a t, h => .cons a (FzL.append t h)
theorem FzL.take : ∀ (n : Nat) {d : List D} {v : List V}, FzL K B d v → FzL K B (d.take n) (v.take n)
  | 0, _, _, _ => .nil
  | _ + 1, _, _, .nil => .nil
  | n + 1, _, _, .cons a t => .cons a (FzL.take n t)
theorem FzL.drop : ∀ (n : Nat) {d : List D} {v : List V}, FzL K B d v → FzL K B (d.drop n) (v.drop n)
  | 0, _, _, h => h
  | _ + 1, _, _, .nil => .nil
  | n + 1, _, _, .cons _ t => FzL.drop n t
theorem FzL.reverse : ∀ {d : List D} {v : List V}, FzL K B d v → FzL K B d.reverse v.reverse
  | _, _, .nil => .nil
  | _, _, .cons a t => by
    rw [List.reverse_cons, List.reverse_cons]
    exact FzL.append (FzL.reverse t) (.cons a .nil)
end

theorem nd_ix {α : Type} {x : α} : ∀ {N : List α} {i j : Nat}, N.Nodup → N[i]? = some x → N[j]? = some x → i = j
  | [], _, _, _, h, _ => by simp at h
  | y :: N, i, j, nd, h1, h2 => by
    obtain ⟨n1, n2⟩ := List.nodup_cons.mp nd
    cases i with
    | zero =>
      cases j with
      | zero => rfl
      | succ j =>
        have e : y = x := by simpa using h1
        subst e
        exact absurd (List.mem_of_getElem? (by simpa using h2)) n1
    | succ i =>
      cases j with
      | zero =>
        have e : y = x := by simpa using h2
        subst e
        exact absurd (List.mem_of_getElem? (by simpa using h1)) n1
      | succ j => exact congrArg Nat.succ (nd_ix n2 (by simpa using h1) (by simpa using h2))

/-! ### values, cells, the store -/
inductive WR (K : PySem.W.Frag) (B : Hp) (as : List Addr) : W → V → Prop
  | val {d : D} {v : V} : Fz K B d v → WR K B as (.val d) v
  | ptr {k : Nat} {p : Addr} : as[k]? = some p → WR K B as (.ptr k) (.ref p)
inductive WL (K : PySem.W.Frag) (B : Hp) (as : List Addr) : List W → List V → Prop
  | nil : WL K B as [] []
  | cons {w : W} {v : V} {ws : List W} {vs : List V} : WR K B as w v → WL K B as ws vs → WL K B as (w :: ws) (v :: vs)
/-- keyed values -/
inductive WK {κ : Type} (K : PySem.W.Frag) (B : Hp) (as : List Addr) : List (κ × W) → List (κ × V) → Prop
  | nil : WK K B as [] []
  | cons {k : κ} {w : W} {v : V} {ws : List (κ × W)} {vs : List (κ × V)} : WR K B as w v → WK K B as ws vs → WK K B as ((k, w) :: ws) ((k, v) :: vs)
def CellR (K : PySem.W.Frag) (B H : Hp) (as : List Addr) (p : Addr) : Cell → Prop
  | .lst ws => B p = none ∧ ∃ vs, H p = some (.lst vs) ∧ WL K B as ws vs
  | .dic ws => B p = none ∧ ∃ vs, H p = some (.dK vs) ∧ WK K B as ws vs
  | .dit ws => B p = none ∧ ∃ vs, H p = some (.dT vs) ∧ WK K B as ws vs
  | .ins c ws => B p = none ∧ ∃ dx vs, H p = some (.ins (He.ga K c) dx vs) ∧ H dx = some (.own p) ∧ WK K B as ws vs
  | .frz d => (∃ o, B p = some o) ∧ Fz K B d (.ref p)
structure StR (K : PySem.W.Frag) (B H : Hp) (M : Store) (as : List Addr) : Prop where
  ex : Same B H
  len : as.length = M.length
  nd : as.Nodup
  cells : ∀ (k : Nat) (p : Addr) (c : Cell), as[k]? = some p → M[k]? = some c → CellR K B H as p c
structure EnvR (K : PySem.W.Frag) (B : Hp) (as : List Addr) (e : Env) (σ : L2.St) : Prop where
  len : σ.length = e.length
  get : ∀ (i : Nat) (w : W), e[i]? = some (some w) → ∃ v, σ[i]? = some (some v) ∧ WR K B as w v

section
variable {K : PySem.W.Frag} {B B' H H' : Hp} {as as' : List Addr} {M : Store}
theorem pre_get {k : Nat} {p : Addr} (a : as <+: as') (h : as[k]? = some p) : as'[k]? = some p := by
  obtain ⟨t, rfl⟩ := a
  rw [List.getElem?_append_left (List.getElem?_eq_some_iff.mp h).1]
  exact h
theorem WR.mono {w : W} {v : V} (e : Same B B') (a : as <+: as') (h : WR K B as w v) : WR K B' as' w v := by
  cases h with
  | val h => exact .val (h.mono e)
  | ptr h => exact .ptr (pre_get a h)
theorem WL.mono (e : Same B B') (a : as <+: as') : ∀ {w : List W} {v : List V}, WL K B as w v → WL K B' as' w v
  | _, _, .nil => .nil
  | _, _, .cons h t => .cons (h.mono e a) (WL.mono e a t)
theorem WK.mono {κ : Type} (e : Same B B') (a : as <+: as') : ∀ {w : List (κ × W)} {v : List (κ × V)}, WK K B as w v → WK K B' as' w v
  | _, _, .nil => .nil
  | _, _, .cons h t => .cons (h.mono e a) (WK.mono e a t)
theorem EnvR.mono {e : Env} {σ : L2.St} (b : Same B B') (a : as <+: as') (h : EnvR K B as e σ) : EnvR K B' as' e σ :=
  ⟨h.len, fun i w q => by
    obtain ⟨v, e1, r⟩ := h.get i w q
    exact ⟨v, e1, r.mono b a⟩⟩
theorem EnvR.set {e : Env} {σ : L2.St} {w : W} {v : V} (h : EnvR K B as e σ) (i : Nat) (r : WR K B as w v) : EnvR K B as (e.set i (some w)) (σ.set i (some v)) := by
  refine ⟨by rw [List.length_set, List.length_set]; exact h.len, fun j w' q => ?_⟩
  by_cases hj : i = j
  · subst hj
    rw [List.getElem?_set_self' ] at q
    have hi : i < e.length := by
      cases e1 : e[i]? with
      | none => rw [e1] at q; simp at q
      | some _ => exact (List.getElem?_eq_some_iff.mp e1).1
    rw [List.getElem?_eq_getElem hi] at q
    have q' : w = w' := by simpa using q
    subst q'
    exact ⟨v, by rw [List.getElem?_set_self (by rw [h.len]; exact hi)], r⟩
  · rw [List.getElem?_set_ne hj] at q
    rw [List.getElem?_set_ne hj]
    exact h.get j w' q
theorem EnvR.unset {e : Env} {σ : L2.St} (h : EnvR K B as e σ) (i : Nat) (o : Option V) : EnvR K B as (e.set i none) (σ.set i o) := by
  refine ⟨by rw [List.length_set, List.length_set]; exact h.len, fun j w' q => ?_⟩
  by_cases hj : i = j
  · subst hj
    rw [List.getElem?_set_self' ] at q
    cases e1 : e[i]? with
    | none => rw [e1] at q; simp at q
    | some _ => rw [e1] at q; simp at q
  · rw [List.getElem?_set_ne hj] at q
    rw [List.getElem?_set_ne hj]
    exact h.get j w' q
theorem WL.length : ∀ {w : List W} {v : List V}, WL K B as w v → v.length = w.length
  | _, _, .nil => rfl
  | _, _, .cons _ t => congrArg Nat.succ t.length
theorem WL.get : ∀ {d : List W} {v : List V} {i : Nat} {x : W}, WL K B as d v → d[i]? = some x → ∃ y, v[i]? = some y ∧ WR K B as x y
  | _, _, _, _, .nil, h => by simp at h
  | _, _, 0, _, .cons a _, h => by simp at h; subst h; exact ⟨_, rfl, a⟩
  | _, _, i + 1, _, .cons _ t, h => by
    obtain ⟨y, e, r⟩ := WL.get (i := i) t (by simpa using h)
    exact ⟨y, by simpa using e, r⟩
theorem WL.append : ∀ {d d' : List W} {v v' : List V}, WL K B as d v → WL K B as d' v' → WL K B as (d ++ d') (v ++ v')
  | _, _, _, _, .nil, h => h
  | _, _, _, _, .cons a t, h => .cons a (WL.append t h)
theorem WL.set {x : W} {y : V} (r : WR K B as x y) : ∀ (i : Nat) {d : List W} {v : List V}, WL K B as d v → WL K B as (d.set i x) (v.set i y)
  | _, _, _, .nil => .nil
  | 0, _, _, .cons _ t => .cons r t
  | i + 1, _, _, .cons a t => .cons a (WL.set r i t)
theorem WL.take : ∀ (n : Nat) {d : List W} {v : List V}, WL K B as d v → WL K B as (d.take n) (v.take n)
  | 0, _, _, _ => .nil
  | _ + 1, _, _, .nil => .nil
  | n + 1, _, _, .cons a t => .cons a (WL.take n t)
theorem WL.drop : ∀ (n : Nat) {d : List W} {v : List V}, WL K B as d v → WL K B as (d.drop n) (v.drop n)
  | 0, _, _, h => h
  | _ + 1, _, _, .nil => .nil
  | n + 1, _, _, .cons _ t => WL.drop n t
theorem WL.reverse : ∀ {d : List W} {v : List V}, WL K B as d v → WL K B as d.reverse v.reverse
  | _, _, .nil => .nil
  | _, _, .cons a t => by
    rw [List.reverse_cons, List.reverse_cons]
    exact WL.append (WL.reverse t) (.cons a .nil)
theorem FzL.wl : ∀ {ds : List D} {vs : List V}, FzL K B ds vs → WL K B as (ds.map W.val) vs
  | _, _, .nil => .nil
  | _, _, .cons a t => .cons (.val a) (FzL.wl t)
/-- all of them frozen -/
def vals : List W → Option (List D)
  | [] => some []
  | .val d :: ws => (vals ws).map fun ds => d :: ds
  | .ptr _ :: _ => none
theorem WL.fz : ∀ {ws : List W} {vs : List V} {ds : List D}, WL K B as ws vs → vals ws = some ds → FzL K B ds vs
  | _, _, _, .nil, h => by cases h; exact .nil
  | _, _, ds, .cons (w := w) (ws := ws) a t, h => by
    cases a with
    | val a =>
      cases e : vals ws with
      | none => simp [vals, e] at h
      | some ds' =>
        simp [vals, e] at h
        subst h
        exact .cons a (WL.fz t e)
    | ptr _ => simp [vals] at h
theorem vals_map (ds : List D) : vals (ds.map W.val) = some ds := by
  induction ds with
  | nil => rfl
  | cons d ds ih => simp [vals, ih]

/-! ### cells under changes elsewhere -/
theorem StR.hp (s : StR K B H M as) {k : Nat} {p : Addr} (h : as[k]? = some p) : ∃ c, M[k]? = some c ∧ CellR K B H as p c := by
  have hk : k < M.length := by rw [← s.len]; exact (List.getElem?_eq_some_iff.mp h).1
  exact ⟨M[k], List.getElem?_eq_getElem hk, s.cells k p _ h (List.getElem?_eq_getElem hk)⟩
/-- it stands in H -/
theorem CellR.live {p : Addr} {c : Cell} (b : Same B H) (h : CellR K B H as p c) : ∃ o, H p = some o := by
  cases c with
  | lst ws => obtain ⟨_, vs, e, _⟩ := h; exact ⟨_, e⟩
  | dic ws => obtain ⟨_, vs, e, _⟩ := h; exact ⟨_, e⟩
  | dit ws => obtain ⟨_, vs, e, _⟩ := h; exact ⟨_, e⟩
  | ins c ws => obtain ⟨_, dx, vs, e, _⟩ := h; exact ⟨_, e⟩
  | frz d => obtain ⟨⟨o, e⟩, _⟩ := h; exact ⟨o, b _ _ e⟩
theorem CellR.to {p : Addr} {c : Cell} (h : CellR K B H as p c) (hp : ∀ o, H p = some o → H' p = some o) (ho : ∀ dx, H dx = some (.own p) → H' dx = some (.own p)) (b : Same B B') (bn : B p = none → B' p = none) (a : as <+: as') : CellR K B' H' as' p c := by
  cases c with
  | lst ws => obtain ⟨n, vs, e, r⟩ := h; exact ⟨bn n, vs, hp _ e, r.mono b a⟩
  | dic ws => obtain ⟨n, vs, e, r⟩ := h; exact ⟨bn n, vs, hp _ e, r.mono b a⟩
  | dit ws => obtain ⟨n, vs, e, r⟩ := h; exact ⟨bn n, vs, hp _ e, r.mono b a⟩
  | ins c ws => obtain ⟨n, dx, vs, e, e2, r⟩ := h; exact ⟨bn n, dx, vs, hp _ e, ho _ e2, r.mono b a⟩
  | frz d => obtain ⟨⟨o, e⟩, r⟩ := h; exact ⟨⟨o, b _ _ e⟩, r.mono b⟩
theorem same_new {q : Addr} {o : HO} (h : H q = none) : Same H (upd H q o) := fun b x e => by
  rw [upd_ne (ne_of_none e h)]; exact e
theorem pre_refl (as : List Addr) : as <+: as := List.prefix_refl as
theorem same_none {q : Addr} (b : Same B H) (h : H q = none) : B q = none := b.free h
theorem StR.there (s : StR K B H M as) {k : Nat} {p : Addr} (h : as[k]? = some p) : ∃ o, H p = some o := by
  obtain ⟨c, _, r⟩ := s.hp h
  exact r.live s.ex
/-- a new frozen object -/
theorem StR.frozen (s : StR K B H M as) {q : Addr} {o : HO} (h : H q = none) : StR K (upd B q o) (upd H q o) M as where
  ex := fun b x e => by
    by_cases hb : b = q
    · subst hb; rw [upd_same] at e ⊢; exact e
    · rw [upd_ne hb] at e ⊢; exact s.ex _ _ e
  len := s.len
  nd := s.nd
  cells := fun k p c h1 h2 => by
    obtain ⟨o', e⟩ := s.there h1
    exact (s.cells k p c h1 h2).to (fun o e => same_new h _ _ e) (fun dx e => same_new h _ _ e) (same_new (same_none s.ex h)) (fun n => by rw [upd_ne (ne_of_none e h)]; exact n) (pre_refl as)
/-- a new object that nobody holds -/
theorem StR.loose (s : StR K B H M as) {q : Addr} {o : HO} (h : H q = none) : StR K B (upd H q o) M as where
  ex := s.ex.trans (same_new h)
  len := s.len
  nd := s.nd
  cells := fun k p c h1 h2 => (s.cells k p c h1 h2).to (fun o e => same_new h _ _ e) (fun dx e => same_new h _ _ e) (Same.refl B) id (pre_refl as)
theorem get_snoc {α : Type} {xs : List α} {x y : α} {k : Nat} (h : (xs ++ [x])[k]? = some y) : xs[k]? = some y ∨ (k = xs.length ∧ x = y) := by
  by_cases hk : k < xs.length
  · rw [List.getElem?_append_left hk] at h; exact .inl h
  · rw [List.getElem?_append_right (by omega)] at h
    cases e : k - xs.length with
    | zero => rw [e] at h; exact .inr ⟨by omega, by simpa using h⟩
    | succ n => rw [e] at h; simp at h
/-- a new cell -/
theorem StR.new (s : StR K B H M as) {q : Addr} {o : HO} {c : Cell} (h : H q = none) (r : CellR K B (upd H q o) (as ++ [q]) q c) : StR K B (upd H q o) (M ++ [c]) (as ++ [q]) where
  ex := s.ex.trans (same_new h)
  len := by rw [List.length_append, List.length_append, s.len]; rfl
  nd := by
    refine List.nodup_append.mpr ⟨s.nd, by simp, fun a ha b hb e => ?_⟩
    have : b = q := by simpa using hb
    subst this; subst e
    obtain ⟨k, hk, e⟩ := List.getElem_of_mem ha
    obtain ⟨o', e'⟩ := s.there (k := k) (p := a) (by rw [List.getElem?_eq_getElem hk, e])
    rw [h] at e'; cases e'
  cells := fun k p c' h1 h2 => by
    rcases get_snoc h1 with h1 | ⟨e1, e2⟩
    · have hk : k < M.length := by rw [← s.len]; exact (List.getElem?_eq_some_iff.mp h1).1
      rw [List.getElem?_append_left hk] at h2
      exact (s.cells k p c' h1 h2).to (fun o e => same_new h _ _ e) (fun dx e => same_new h _ _ e) (Same.refl B) id ⟨[q], rfl⟩
    · subst e1; subst e2
      rw [s.len, List.getElem?_append_right (Nat.le_refl _)] at h2
      have : c = c' := by simpa using h2
      subst this
      exact r
theorem StR.newL (s : StR K B H M as) {q : Addr} {ws : List W} {vs : List V} (h : H q = none) (r : WL K B as ws vs) : StR K B (upd H q (.lst vs)) (M ++ [.lst ws]) (as ++ [q]) :=
  s.new h ⟨same_none s.ex h, vs, upd_same, r.mono (Same.refl B) ⟨[q], rfl⟩⟩
theorem newptr (s : StR K B H M as) {q : Addr} : (as ++ [q])[M.length]? = some q := by
  rw [← s.len, List.getElem?_append_right (Nat.le_refl _)]; simp
/-- a cell is written -/
theorem StR.put (s : StR K B H M as) {k : Nat} {p : Addr} {o : HO} {c : Cell} (hk : as[k]? = some p) (hB : B p = none) (hno : ∀ x, H p ≠ some (.own x)) (r : CellR K B (upd H p o) as p c) : StR K B (upd H p o) (M.set k c) as where
  ex := fun b x e => by rw [upd_ne (ne_of_none e hB)]; exact s.ex _ _ e
  len := by rw [List.length_set]; exact s.len
  nd := s.nd
  cells := fun j p' c' h1 h2 => by
    by_cases hj : k = j
    · subst hj
      rw [hk] at h1
      cases h1
      rw [List.getElem?_set_self (by rw [← s.len]; exact (List.getElem?_eq_some_iff.mp hk).1)] at h2
      cases h2
      exact r
    · rw [List.getElem?_set_ne hj] at h2
      have ne : p' ≠ p := fun e => by
        subst e
        exact hj (nd_ix s.nd hk h1)
      exact (s.cells j p' c' h1 h2).to (fun o e => by rw [upd_ne ne]; exact e) (fun dx e => by
        have nd : dx ≠ p := fun z => by subst z; exact hno _ e
        rw [upd_ne nd]; exact e) (Same.refl B) id (pre_refl as)
theorem StR.lstAt (s : StR K B H M as) {k : Nat} {p : Addr} {ws : List W} (hk : as[k]? = some p) (hm : M[k]? = some (.lst ws)) : B p = none ∧ ∃ vs, H p = some (.lst vs) ∧ WL K B as ws vs := s.cells k p _ hk hm
theorem StR.putL (s : StR K B H M as) {k : Nat} {p : Addr} {ws0 ws : List W} {vs : List V} (hk : as[k]? = some p) (hm : M[k]? = some (.lst ws0)) (r : WL K B as ws vs) : StR K B (upd H p (.lst vs)) (M.set k (.lst ws)) as := by
  obtain ⟨n, vs0, e, _⟩ := s.lstAt hk hm
  exact s.put hk n (fun x z => by rw [e] at z; cases z) ⟨n, vs, upd_same, r⟩
/-- a list cell is frozen -/
theorem StR.freezeR (s : StR K B H M as) {k : Nat} {p : Addr} {ws : List W} {ds : List D} (hk : as[k]? = some p) (hm : M[k]? = some (.lst ws)) (hd : ∀ vs, WL K B as ws vs → FzL K B ds vs) :
    ∃ B', Same B B' ∧ StR K B' H (M.set k (.frz (.lst ds))) as ∧ Fz K B' (.lst ds) (.ref p) := by
  obtain ⟨n, vs, e, r⟩ := s.lstAt hk hm
  have sb : Same B (upd B p (.lst vs)) := same_new n
  have fz : Fz K (upd B p (.lst vs)) (.lst ds) (.ref p) := .lst upd_same ((hd vs r).mono sb)
  refine ⟨upd B p (.lst vs), sb, ⟨fun b x z => ?_, by rw [List.length_set]; exact s.len, s.nd, fun j p' c' h1 h2 => ?_⟩, fz⟩
  · by_cases hb : b = p
    · subst hb; rw [upd_same] at z; cases z; exact e
    · rw [upd_ne hb] at z; exact s.ex _ _ z
  · by_cases hj : k = j
    · subst hj
      rw [hk] at h1
      cases h1
      rw [List.getElem?_set_self (by rw [← s.len]; exact (List.getElem?_eq_some_iff.mp hk).1)] at h2
      cases h2
      exact ⟨⟨_, upd_same⟩, fz⟩
    · rw [List.getElem?_set_ne hj] at h2
      have ne : p' ≠ p := fun e => by
        subst e
        exact hj (nd_ix s.nd hk h1)
      exact (s.cells j p' c' h1 h2).to (fun o e => e) (fun dx e => e) sb (fun z => by rw [upd_ne ne]; exact z) (pre_refl as)
theorem StR.freezeL (s : StR K B H M as) {k : Nat} {p : Addr} {ws : List W} {ds : List D} (hk : as[k]? = some p) (hm : M[k]? = some (.lst ws)) (hd : vals ws = some ds) :
    ∃ B', Same B B' ∧ StR K B' H (M.set k (.frz (.lst ds))) as ∧ Fz K B' (.lst ds) (.ref p) := by
  obtain ⟨n, vs, e, r⟩ := s.lstAt hk hm
  have sb : Same B (upd B p (.lst vs)) := same_new n
  have fz : Fz K (upd B p (.lst vs)) (.lst ds) (.ref p) := .lst upd_same ((r.fz hd).mono sb)
  refine ⟨upd B p (.lst vs), sb, ⟨fun b x z => ?_, by rw [List.length_set]; exact s.len, s.nd, fun j p' c' h1 h2 => ?_⟩, fz⟩
  · by_cases hb : b = p
    · subst hb; rw [upd_same] at z; cases z; exact e
    · rw [upd_ne hb] at z; exact s.ex _ _ z
  · by_cases hj : k = j
    · subst hj
      rw [hk] at h1
      cases h1
      rw [List.getElem?_set_self (by rw [← s.len]; exact (List.getElem?_eq_some_iff.mp hk).1)] at h2
      cases h2
      exact ⟨⟨_, upd_same⟩, fz⟩
    · rw [List.getElem?_set_ne hj] at h2
      have ne : p' ≠ p := fun e => by
        subst e
        exact hj (nd_ix s.nd hk h1)
      exact (s.cells j p' c' h1 h2).to (fun o e => e) (fun dx e => e) sb (fun z => by rw [upd_ne ne]; exact z) (pre_refl as)
end
/-! ### what a call leaves behind is dropped -/
def W.low (n : Nat) : W → Bool
  | .val _ => true
  | .ptr k => decide (k < n)
def Cell.low (n : Nat) : Cell → Bool
  | .lst ws => ws.all (W.low n)
  | .dic ws => ws.all fun q => q.2.low n
  | .dit ws => ws.all fun q => q.2.low n
  | .ins _ ws => ws.all fun q => q.2.low n
  | .frz _ => true
/-- the old cells of M' hold nothing that came behind M -/
def Closed (M M' : Store) : Prop := M.length ≤ M'.length ∧ ∀ (k : Nat) (c : Cell), k < M.length → M'[k]? = some c → (M[k]? = some c ∨ c.low M.length = true)
section
variable {K : PySem.W.Frag} {B B' H H' : Hp} {as as' : List Addr} {M M' : Store}
theorem WR.down {w : W} {v : V} (n : Nat) (l : w.low n = true) (h : WR K B as w v) : WR K B (as.take n) w v := by
  cases h with
  | val h => exact .val h
  | ptr h =>
    have l' : _ < n := of_decide_eq_true l
    exact .ptr (by rw [List.getElem?_take_of_lt l']; exact h)
theorem WL.down (n : Nat) : ∀ {w : List W} {v : List V}, w.all (W.low n) = true → WL K B as w v → WL K B (as.take n) w v
  | _, _, _, .nil => .nil
  | _, _, l, .cons a t => by
    rw [List.all_cons, Bool.and_eq_true] at l
    exact .cons (a.down n l.1) (WL.down n l.2 t)
theorem WK.down {κ : Type} (n : Nat) : ∀ {w : List (κ × W)} {v : List (κ × V)}, (w.all fun q => q.2.low n) = true → WK K B as w v → WK K B (as.take n) w v
  | _, _, _, .nil => .nil
  | _, _, l, .cons a t => by
    rw [List.all_cons, Bool.and_eq_true] at l
    exact .cons (a.down n l.1) (WK.down n l.2 t)
theorem CellR.down {p : Addr} {c : Cell} (n : Nat) (l : c.low n = true) (h : CellR K B H as p c) : CellR K B H (as.take n) p c := by
  cases c with
  | lst ws => obtain ⟨n', vs, e, r⟩ := h; exact ⟨n', vs, e, r.down n l⟩
  | dic ws => obtain ⟨n', vs, e, r⟩ := h; exact ⟨n', vs, e, r.down n l⟩
  | dit ws => obtain ⟨n', vs, e, r⟩ := h; exact ⟨n', vs, e, r.down n l⟩
  | ins c ws => obtain ⟨n', dx, vs, e, e2, r⟩ := h; exact ⟨n', dx, vs, e, e2, r.down n l⟩
  | frz d => exact h
theorem WR.wf {w : W} {v : V} (h : WR K B as w v) : w.low as.length = true := by
  cases h with
  | val _ => rfl
  | ptr h => exact decide_eq_true (List.getElem?_eq_some_iff.mp h).1
theorem WL.wf : ∀ {w : List W} {v : List V}, WL K B as w v → w.all (W.low as.length) = true
  | _, _, .nil => rfl
  | _, _, .cons a t => by rw [List.all_cons, a.wf, t.wf]; rfl
theorem WK.wf {κ : Type} : ∀ {w : List (κ × W)} {v : List (κ × V)}, WK K B as w v → (w.all fun q => q.2.low as.length) = true
  | _, _, .nil => rfl
  | _, _, .cons a t => by rw [List.all_cons, t.wf, a.wf]; rfl
theorem CellR.wf {p : Addr} {c : Cell} (h : CellR K B H as p c) : c.low as.length = true := by
  cases c with
  | lst ws => obtain ⟨n', vs, e, r⟩ := h; exact r.wf
  | dic ws => obtain ⟨n', vs, e, r⟩ := h; exact r.wf
  | dit ws => obtain ⟨n', vs, e, r⟩ := h; exact r.wf
  | ins c ws => obtain ⟨n', dx, vs, e, e2, r⟩ := h; exact r.wf
  | frz d => rfl
theorem take_pre {n : Nat} (a : as <+: as') (h : n = as.length) : as'.take n = as := by
  subst h
  obtain ⟨t, rfl⟩ := a
  simp
/-- back to the old length -/
theorem StR.drop (s : StR K B H M as) (s' : StR K B' H' M' as') (a : as <+: as') (c : Closed M M') : StR K B' H' (M'.take M.length) as where
  ex := s'.ex
  len := by rw [List.length_take, s.len]; have := c.1; omega
  nd := s.nd
  cells := fun k p cl h1 h2 => by
    have hk : k < M.length := by rw [← s.len]; exact (List.getElem?_eq_some_iff.mp h1).1
    rw [List.getElem?_take_of_lt hk] at h2
    have r := s'.cells k p cl (pre_get a h1) h2
    have l : cl.low M.length = true := by
      rcases c.2 k cl hk h2 with z | z
      · have w := (s.cells k p cl h1 z).wf
        rw [s.len] at w
        exact w
      · exact z
    have r2 := r.down M.length l
    rw [take_pre a s.len.symm] at r2
    exact r2
end
end Dn
end

section
set_option Elab.async false
set_option linter.all false
set_option maxRecDepth 100000
set_option maxHeartbeats 2000000
/-! Dn2: what a reading yields by a function of data: Sem.. and its rules. -/
namespace Dn
open PySem PySem.Spec PyProof.Rows L2

/-! ### outcomes -/
/-- an exception of the class c with its fields -/
def ExR (K : PySem.W.Frag) (B H : Hp) (c : Str) (fs : List (Str × D)) (cls : Value) (d : Option Addr) : Prop :=
  cls = .ref (He.ga K c) ∧ ((fs = [] ∧ d = none) ∨ ∃ dx gs, d = some dx ∧ H dx = some (.xd gs) ∧ FzF K B fs gs)
def Post {α β : Type} (K : PySem.W.Frag) (rel : Hp → List Addr → α → β → Prop) (B : Hp) (as : List Addr) (r : R α) (Q : β → Hp → Prop) (E : XK) : Prop := match r with
  | .ok a M' => ∀ B' H' as' x, Same B B' → as <+: as' → StR K B' H' M' as' → rel B' as' a x → Q x H'
  | .exc c fs M' => ∀ B' H' as' cls d, Same B B' → as <+: as' → StR K B' H' M' as' → ExR K B' H' c fs cls d → E cls d H'
  | .stuck => False
theorem Post.mono {α β : Type} {K : PySem.W.Frag} {rel : Hp → List Addr → α → β → Prop} {B B1 : Hp} {as as1 : List Addr} {r : R α} {Q : β → Hp → Prop} {E : XK} (e : Same B B1) (a : as <+: as1) (h : Post K rel B as r Q E) : Post K rel B1 as1 r Q E := by
  cases r with
  | ok x M => exact fun B' H' as' x sb pre st rl => h B' H' as' x (e.trans sb) (a.trans pre) st rl
  | exc c fs M => exact fun B' H' as' cls d sb pre st rl => h B' H' as' cls d (e.trans sb) (a.trans pre) st rl
  | stuck => exact h
/-- one outcome, then another -/
theorem Post.bind {α β γ δ : Type} {K : PySem.W.Frag} {rel : Hp → List Addr → α → β → Prop} {rel' : Hp → List Addr → γ → δ → Prop} {B : Hp} {as : List Addr} {r : R α} {f : α → Store → R γ} {Q : β → Hp → Prop} {Q' : δ → Hp → Prop} {E : XK}
    (h : Post K rel' B as (r.bind f) Q' E) (k : ∀ a M' B' H' as' x, r = .ok a M' → Same B B' → as <+: as' → StR K B' H' M' as' → rel B' as' a x → Post K rel' B' as' (f a M') Q' E → Q x H') : Post K rel B as r Q E := by
  cases r with
  | ok x M => exact fun B' H' as' y sb pre st rl => k x M B' H' as' y rfl sb pre st rl (Post.mono sb pre h)
  | exc c fs M => exact h
  | stuck => exact h
abbrev relW (K : PySem.W.Frag) : Hp → List Addr → W → V → Prop := fun B as w v => WR K B as w v
abbrev relL (K : PySem.W.Frag) : Hp → List Addr → List W → List V → Prop := fun B as w v => WL K B as w v
abbrev relB : Hp → List Addr → Bool → Bool → Prop := fun _ _ a b => a = b
abbrev relO : Hp → List Addr → Option Int → Option Int → Prop := fun _ _ a b => a = b
abbrev DE := Env → Store → R W
abbrev DT := Env → Store → R Bool
abbrev DA := Env → Store → R (List W)
abbrev DO := Env → Store → R (Option Int)
abbrev DS := Env → Store → SR
def SemG {α β : Type} (K : PySem.W.Frag) (rel : Hp → List Addr → α → β → Prop) (Wx : WX) (t : L2.St → Hp → (β → Hp → Prop) → Prop) (f : Env → Store → R α) : Prop :=
  ∀ (B H : Hp) (M : Store) (as : List Addr) (e : Env) (σ : L2.St) (Q : β → Hp → Prop), StR K B H M as → EnvR K B as e σ → Post K rel B as (f e M) Q (fun c d H' => Wx c d σ H') → t σ H Q
abbrev SemE (K : PySem.W.Frag) (Wx : WX) (t : TE) (f : DE) : Prop := SemG K (relW K) Wx t f
abbrev SemT (K : PySem.W.Frag) (Wx : WX) (t : TT) (f : DT) : Prop := SemG K relB Wx t f
abbrev SemA (K : PySem.W.Frag) (Wx : WX) (t : TA) (f : DA) : Prop := SemG K (relL K) Wx t f
abbrev SemO (K : PySem.W.Frag) (Wx : WX) (t : TO) (f : DO) : Prop := SemG K relO Wx t f
/-- what an operation on values yields -/
def Sem2 (K : PySem.W.Frag) (r : R2) (g : W → W → Store → R W) : Prop :=
  ∀ (B H : Hp) (M : Store) (as : List Addr) (a b : W) (x y : V) (Q : VK) (E : XK), StR K B H M as → WR K B as a x → WR K B as b y → Post K (relW K) B as (g a b M) Q E → r x y H Q
def Sem1 (K : PySem.W.Frag) (r : V → Hp → VK → Prop) (g : W → Store → R W) : Prop :=
  ∀ (B H : Hp) (M : Store) (as : List Addr) (a : W) (x : V) (Q : VK) (E : XK), StR K B H M as → WR K B as a x → Post K (relW K) B as (g a M) Q E → r x H Q
def SemC (K : PySem.W.Frag) (r : List V → Hp → VK → Prop) (g : List W → Store → R W) : Prop :=
  ∀ (B H : Hp) (M : Store) (as : List Addr) (ws : List W) (xs : List V) (Q : VK) (E : XK), StR K B H M as → WL K B as ws xs → Post K (relW K) B as (g ws M) Q E → r xs H Q
/-- a method: receiver, arguments -/
def SemM (K : PySem.W.Frag) (r : V → List V → Hp → VK → Prop) (g : W → List W → Store → R W) : Prop :=
  ∀ (B H : Hp) (M : Store) (as : List Addr) (w : W) (x : V) (ws : List W) (xs : List V) (Q : VK) (E : XK), StR K B H M as → WR K B as w x → WL K B as ws xs → Post K (relW K) B as (g w ws M) Q E → r x xs H Q

section
variable {K : PySem.W.Frag} {Wx : WX} {ta tb tc te : TE} {fa fb fc : DE} {tt tu : TT} {gt gu : DT}
/-! ### names, constants -/
def dVar (i : Nat) : DE := fun e M => match e[i]? with
  | some (some w) => .ok w M
  | _ => .stuck
theorem s_var {i : Nat} : SemE K Wx (tVar i) (dVar i) := fun B H M as e σ Q st en h => by
  unfold dVar at h
  cases q : e[i]? with
  | none => rw [q] at h; exact h.elim
  | some o =>
    cases o with
    | none => rw [q] at h; exact h.elim
    | some w =>
      rw [q] at h
      obtain ⟨v, e1, r⟩ := en.get i w q
      exact ⟨v, e1, h B H as v (Same.refl B) (pre_refl as) st r⟩
def dC (d : D) : DE := fun _ M => .ok (.val d) M
/-- a constant whose data hangs on the written part alone -/
theorem s_con {d : D} {v : V} (r : ∀ B, Fz K B d v) : SemE K Wx (tC v) (dC d) := fun B H M as e σ Q st en h => h B H as v (Same.refl B) (pre_refl as) st (.val (r B))
theorem s_int {i : Int} : SemE K Wx (tC (.int i)) (dC (.int i)) := s_con fun _ => .int i
theorem s_str {x : Str} : SemE K Wx (tC (.str x)) (dC (.str x)) := s_con fun _ => .str x
theorem s_bl {x : Bool} : SemE K Wx (tC (.bl x)) (dC (.bl x)) := s_con fun _ => .bl x
theorem s_non : SemE K Wx (tC .non) (dC .non) := s_con fun _ => .non
/-! ### operations -/
def d2 (g : W → W → Store → R W) (fa fb : DE) : DE := fun e M => (fa e M).bind fun a M1 => (fb e M1).bind fun b M2 => g a b M2
theorem s_op {r : R2} {g : W → W → Store → R W} (hr : Sem2 K r g) (ha : SemE K Wx ta fa) (hb : SemE K Wx tb fb) : SemE K Wx (tOp r ta tb) (d2 g fa fb) := fun B H M as e σ Q st en h =>
  ha B H M as e σ _ st en (Post.bind h fun a M1 B1 H1 as1 x _ sb pre st1 rl h1 =>
    hb B1 H1 M1 as1 e σ _ st1 (en.mono sb pre) (Post.bind h1 fun b M2 B2 H2 as2 y _ sb2 pre2 st2 rl2 h2 => hr B2 H2 M2 as2 a b x y Q _ st2 (rl.mono sb2 pre2) rl2 h2))
def d1 (g : W → Store → R W) (fa : DE) : DE := fun e M => (fa e M).bind fun a M1 => g a M1
theorem s_un {r : V → Hp → VK → Prop} {g : W → Store → R W} (hr : Sem1 K r g) (ha : SemE K Wx ta fa) : SemE K Wx (tUn r ta) (d1 g fa) := fun B H M as e σ Q st en h =>
  ha B H M as e σ _ st en (Post.bind h fun a M1 B1 H1 as1 x _ sb pre st1 rl h1 => hr B1 H1 M1 as1 a x Q _ st1 rl h1)
def dNil : DA := fun _ M => .ok [] M
def dCons (fa : DE) (fr : DA) : DA := fun e M => (fa e M).bind fun a M1 => (fr e M1).bind fun ws M2 => .ok (a :: ws) M2
theorem s_nil : SemA K Wx tNil dNil := fun B H M as e σ Q st en h => h B H as [] (Same.refl B) (pre_refl as) st .nil
theorem s_cons {tr : TA} {fr : DA} (ha : SemE K Wx ta fa) (hr : SemA K Wx tr fr) : SemA K Wx (tCons ta tr) (dCons fa fr) := fun B H M as e σ Q st en h =>
  ha B H M as e σ _ st en (Post.bind h fun a M1 B1 H1 as1 x _ sb pre st1 rl h1 =>
    hr B1 H1 M1 as1 e σ _ st1 (en.mono sb pre) (Post.bind h1 fun ws M2 B2 H2 as2 vs _ sb2 pre2 st2 rl2 h2 => h2 B2 H2 as2 (x :: vs) (Same.refl B2) (pre_refl as2) st2 (.cons (rl.mono sb2 pre2) rl2)))
def dCall (g : List W → Store → R W) (fr : DA) : DE := fun e M => (fr e M).bind fun ws M1 => g ws M1
theorem s_cb {r : List V → Hp → VK → Prop} {g : List W → Store → R W} {tr : TA} {fr : DA} (hr : SemC K r g) (ha : SemA K Wx tr fr) : SemE K Wx (tCB r tr) (dCall g fr) := fun B H M as e σ Q st en h =>
  ha B H M as e σ _ st en (Post.bind h fun ws M1 B1 H1 as1 xs _ sb pre st1 rl h1 => hr B1 H1 M1 as1 ws xs Q _ st1 rl h1)
/-! ### tests -/
def dIsB (fa : DE) : DT := fun e M => (fa e M).bind fun a M1 => match a with
  | .val (.bl b) => .ok b M1
  | _ => .stuck
theorem isB_ok {B : Hp} {as : List Addr} {b : Bool} {x : V} (h : WR K B as (.val (.bl b)) x) : x = .bl b := by
  cases h with
  | val h => cases h; rfl
theorem s_tB (ha : SemE K Wx ta fa) : SemT K Wx (tB ta) (dIsB fa) := fun B H M as e σ Q st en h =>
  ha B H M as e σ _ st en (Post.bind h fun a M1 B1 H1 as1 x _ sb pre st1 rl h1 => by
    split at h1
    · rename_i b _
      exact ⟨b, isB_ok rl, h1 B1 H1 as1 b (Same.refl B1) (pre_refl as1) st1 rfl⟩
    · exact h1.elim)
theorem s_tTest (ha : SemE K Wx ta fa) : SemT K Wx (tTest ta) (dIsB fa) := s_tB ha
def dAnd (f g : DT) : DT := fun e M => (f e M).bind fun b M1 => if b = true then g e M1 else .ok false M1
def dOr (f g : DT) : DT := fun e M => (f e M).bind fun b M1 => if b = true then .ok true M1 else g e M1
def dNot (f : DT) : DT := fun e M => (f e M).bind fun b M1 => .ok (!b) M1
theorem s_and (ha : SemT K Wx tt gt) (hb : SemT K Wx tu gu) : SemT K Wx (tAnd tt tu) (dAnd gt gu) := fun B H M as e σ Q st en h =>
  ha B H M as e σ _ st en (Post.bind h fun a M1 B1 H1 as1 x _ sb pre st1 rl h1 => by
    have rl' : a = x := rl
    subst rl'
    cases a with
    | true => exact hb B1 H1 M1 as1 e σ _ st1 (en.mono sb pre) h1
    | false => exact h1 B1 H1 as1 false (Same.refl B1) (pre_refl as1) st1 rfl)
theorem s_or (ha : SemT K Wx tt gt) (hb : SemT K Wx tu gu) : SemT K Wx (tOr tt tu) (dOr gt gu) := fun B H M as e σ Q st en h =>
  ha B H M as e σ _ st en (Post.bind h fun a M1 B1 H1 as1 x _ sb pre st1 rl h1 => by
    have rl' : a = x := rl
    subst rl'
    cases a with
    | false => exact hb B1 H1 M1 as1 e σ _ st1 (en.mono sb pre) h1
    | true => exact h1 B1 H1 as1 true (Same.refl B1) (pre_refl as1) st1 rfl)
theorem s_not (ha : SemT K Wx tt gt) : SemT K Wx (tNot tt) (dNot gt) := fun B H M as e σ Q st en h =>
  ha B H M as e σ _ st en (Post.bind h fun a M1 B1 H1 as1 x _ sb pre st1 rl h1 => by
    have rl' : a = x := rl
    subst rl'
    exact h1 B1 H1 as1 (!a) (Same.refl B1) (pre_refl as1) st1 rfl)
/-- and, or, not as values: all but the last are bools -/
def dAndV (f g : DE) : DE := fun e M => (f e M).bind fun a M1 => match a with
  | .val (.bl true) => g e M1
  | .val (.bl false) => .ok (.val (.bl false)) M1
  | _ => .stuck
def dOrV (f g : DE) : DE := fun e M => (f e M).bind fun a M1 => match a with
  | .val (.bl true) => .ok (.val (.bl true)) M1
  | .val (.bl false) => g e M1
  | _ => .stuck
def dNotV (f : DE) : DE := fun e M => (f e M).bind fun a M1 => match a with
  | .val (.bl b) => .ok (.val (.bl (!b))) M1
  | _ => .stuck
theorem s_andV (ha : SemE K Wx ta fa) (hb : SemE K Wx tb fb) : SemE K Wx (tAndV ta tb) (dAndV fa fb) := fun B H M as e σ Q st en h =>
  ha B H M as e σ _ st en (Post.bind h fun a M1 B1 H1 as1 x _ sb pre st1 rl h1 => by
    split at h1
    · refine ⟨true, isB_ok rl, ?_⟩
      exact hb B1 H1 M1 as1 e σ _ st1 (en.mono sb pre) h1
    · exact ⟨false, isB_ok rl, h1 B1 H1 as1 (.bl false) (Same.refl B1) (pre_refl as1) st1 (.val (.bl false))⟩
    · exact h1.elim)
theorem s_orV (ha : SemE K Wx ta fa) (hb : SemE K Wx tb fb) : SemE K Wx (tOrV ta tb) (dOrV fa fb) := fun B H M as e σ Q st en h =>
  ha B H M as e σ _ st en (Post.bind h fun a M1 B1 H1 as1 x _ sb pre st1 rl h1 => by
    split at h1
    · exact ⟨true, isB_ok rl, h1 B1 H1 as1 (.bl true) (Same.refl B1) (pre_refl as1) st1 (.val (.bl true))⟩
    · refine ⟨false, isB_ok rl, ?_⟩
      exact hb B1 H1 M1 as1 e σ _ st1 (en.mono sb pre) h1
    · exact h1.elim)
theorem s_notV (ha : SemE K Wx ta fa) : SemE K Wx (tNotV ta) (dNotV fa) := fun B H M as e σ Q st en h =>
  ha B H M as e σ _ st en (Post.bind h fun a M1 B1 H1 as1 x _ sb pre st1 rl h1 => by
    split at h1
    · rename_i b _
      exact ⟨b, isB_ok rl, h1 B1 H1 as1 (.bl (!b)) (Same.refl B1) (pre_refl as1) st1 (.val (.bl (!b)))⟩
    · exact h1.elim)
def dIfE (f : DT) (g h : DE) : DE := fun e M => (f e M).bind fun b M1 => if b = true then g e M1 else h e M1
theorem s_ifE (ht : SemT K Wx tt gt) (ha : SemE K Wx ta fa) (hb : SemE K Wx tb fb) : SemE K Wx (tIf tt ta tb) (dIfE gt fa fb) := fun B H M as e σ Q st en h =>
  ht B H M as e σ _ st en (Post.bind h fun a M1 B1 H1 as1 x _ sb pre st1 rl h1 => by
    have rl' : a = x := rl
    subst rl'
    cases a with
    | true => exact ha B1 H1 M1 as1 e σ _ st1 (en.mono sb pre) h1
    | false => exact hb B1 H1 M1 as1 e σ _ st1 (en.mono sb pre) h1)
/-- a < b < c -/
def dChain (g g' : W → W → Store → R W) (fa fb fc : DE) : DE := fun e M => (fa e M).bind fun a M1 => (fb e M1).bind fun b M2 => (g a b M2).bind fun z M3 => match z with
  | .val (.bl true) => (fc e M3).bind fun c M4 => g' b c M4
  | .val (.bl false) => .ok (.val (.bl false)) M3
  | _ => .stuck
theorem s_chain {r r' : R2} {g g' : W → W → Store → R W} (hr : Sem2 K r g) (hr' : Sem2 K r' g') (ha : SemE K Wx ta fa) (hb : SemE K Wx tb fb) (hc : SemE K Wx tc fc) : SemE K Wx (tChain r r' ta tb tc) (dChain g g' fa fb fc) := fun B H M as e σ Q st en h =>
  ha B H M as e σ _ st en (Post.bind h fun a M1 B1 H1 as1 x _ sb pre st1 rl h1 =>
    hb B1 H1 M1 as1 e σ _ st1 (en.mono sb pre) (Post.bind h1 fun b M2 B2 H2 as2 y _ sb2 pre2 st2 rl2 h2 =>
      hr B2 H2 M2 as2 a b x y _ (fun c d H' => Wx c d σ H') st2 (rl.mono sb2 pre2) rl2 (Post.bind h2 fun z M3 B3 H3 as3 zv _ sb3 pre3 st3 rl3 h3 => by
        split at h3
        · refine ⟨true, isB_ok rl3, ?_⟩
          rw [if_pos rfl]
          exact hc B3 H3 M3 as3 e σ _ st3 (en.mono ((sb.trans sb2).trans sb3) ((pre.trans pre2).trans pre3)) (Post.bind h3 fun c M4 B4 H4 as4 w _ sb4 pre4 st4 rl4 h4 => hr' B4 H4 M4 as4 b c y w Q _ st4 (rl2.mono (sb3.trans sb4) (pre3.trans pre4)) rl4 h4)
        · refine ⟨false, isB_ok rl3, ?_⟩
          rw [if_neg Bool.false_ne_true]
          exact h3 B3 H3 as3 (.bl false) (Same.refl B3) (pre_refl as3) st3 (.val (.bl false))
        · exact h3.elim)))
end
end Dn
end

section
set_option Elab.async false
set_option linter.all false
set_option maxRecDepth 100000
set_option maxHeartbeats 2000000
/-! Dn3: the operations: what each yields on data, and that its rule asks no more. -/
namespace Dn
open PySem PySem.Spec PyProof.Rows L2

/-- a frozen cell is its data -/
def rd (M : Store) : W → W
  | .ptr k => match M[k]? with
    | some (.frz d) => .val d
    | _ => .ptr k
  | .val d => .val d
/-- a list's items; a tuple's; either's -/
def lvw (M : Store) (w : W) : Option (List W) := match rd M w with
  | .val (.lst ds) => some (ds.map .val)
  | .val (.rls ds) => some (ds.map .val)
  | .ptr k => match M[k]? with
    | some (.lst ws) => some ws
    | _ => none
  | _ => none
def tvw (M : Store) (w : W) : Option (List D) := match rd M w with
  | .val (.tup ds) => some ds
  | _ => none
def svw (M : Store) (w : W) : Option (List W) := match tvw M w with
  | some ds => some (ds.map .val)
  | none => lvw M w
section
variable {K : PySem.W.Frag} {B B' H H' : Hp} {as as' : List Addr} {M M' : Store}
theorem rd_ok {w : W} {v : V} (st : StR K B H M as) (h : WR K B as w v) : WR K B as (rd M w) v := by
  cases h with
  | val h => exact .val h
  | @ptr k p h =>
    obtain ⟨c, e, r⟩ := st.hp h
    unfold rd
    simp only [e]
    cases c with
    | frz d => exact .val r.2
    | _ => exact .ptr h
theorem lvw_ok {w : W} {v : V} {ws : List W} (st : StR K B H M as) (h : WR K B as w v) (e : lvw M w = some ws) : ∃ p vs, v = .ref p ∧ SqL K H p vs ∧ WL K B as ws vs := by
  have h' := rd_ok st h
  unfold lvw at e
  generalize rd M w = w' at h' e
  cases h' with
  | val f =>
    cases f with
    | lst a b =>
      cases e
      exact ⟨_, _, rfl, SqL.of (st.ex _ _ a), FzL.wl b⟩
    | rls a b =>
      cases e
      exact ⟨_, _, rfl, sqL_mono st.ex a, FzL.wl b⟩
    | _ => cases e
  | @ptr k p hk =>
    obtain ⟨c, e2, r⟩ := st.hp hk
    simp only [e2] at e
    cases c with
    | lst ws' =>
      cases e
      obtain ⟨_, vs, e3, r⟩ := r
      exact ⟨p, vs, rfl, SqL.of e3, r⟩
    | _ => cases e
/-- a list that is tracked as a list -/
def lvt (M : Store) (w : W) : Option (List W) := match rd M w with
  | .val (.lst ds) => some (ds.map .val)
  | .ptr k => match M[k]? with
    | some (.lst ws) => some ws
    | _ => none
  | _ => none
theorem lvt_ok {w : W} {v : V} {ws : List W} (st : StR K B H M as) (h : WR K B as w v) (e : lvt M w = some ws) : ∃ p vs, v = .ref p ∧ H p = some (.lst vs) ∧ WL K B as ws vs := by
  have h' := rd_ok st h
  unfold lvt at e
  generalize rd M w = w' at h' e
  cases h' with
  | val f =>
    cases f with
    | lst a b =>
      cases e
      exact ⟨_, _, rfl, st.ex _ _ a, FzL.wl b⟩
    | _ => cases e
  | @ptr k p hk =>
    obtain ⟨c, e2, r⟩ := st.hp hk
    simp only [e2] at e
    cases c with
    | lst ws' =>
      cases e
      obtain ⟨_, vs, e3, r⟩ := r
      exact ⟨p, vs, rfl, e3, r⟩
    | _ => cases e
theorem tvw_ok {w : W} {v : V} {ds : List D} (st : StR K B H M as) (h : WR K B as w v) (e : tvw M w = some ds) : ∃ p vs, v = .ref p ∧ SqT K B p vs ∧ FzL K B ds vs := by
  have h' := rd_ok st h
  unfold tvw at e
  generalize rd M w = w' at h' e
  cases h' with
  | val f =>
    cases f with
    | tup a b =>
      cases e
      exact ⟨_, _, rfl, a, b⟩
    | _ => cases e
  | ptr h => cases e
theorem svw_ok {w : W} {v : V} {ws : List W} (st : StR K B H M as) (h : WR K B as w v) (e : svw M w = some ws) : ∃ p vs, v = .ref p ∧ (SqL K H p vs ∨ SqT K H p vs) ∧ WL K B as ws vs := by
  unfold svw at e
  cases t : tvw M w with
  | some ds =>
    rw [t] at e
    cases e
    obtain ⟨p, vs, e1, a, b⟩ := tvw_ok st h t
    exact ⟨p, vs, e1, .inr (sqT_mono st.ex a), FzL.wl b⟩
  | none =>
    rw [t] at e
    obtain ⟨p, vs, e1, a, b⟩ := lvw_ok st h e
    exact ⟨p, vs, e1, .inl a, b⟩
theorem val_ok {d : D} {v : V} (h : WR K B as (.val d) v) : Fz K B d v := by
  cases h with
  | val h => exact h
/-- an int, a text, a bool at hand -/
theorem int_ok {i : Int} {v : V} (h : WR K B as (.val (.int i)) v) : v = .int i := by
  cases val_ok h; rfl
theorem str_ok {i : Str} {v : V} (h : WR K B as (.val (.str i)) v) : v = .str i := by
  cases val_ok h; rfl
/-- an outcome without a change -/
theorem Post.same {Q : VK} {E : XK} {w : W} {v : V} (st : StR K B H M as) (r : WR K B as w v) (h : Post K (relW K) B as (.ok w M) Q E) : Q v H := h B H as v (Same.refl B) (pre_refl as) st r
theorem Post.fz {Q : VK} {E : XK} {d : D} {v : V} (st : StR K B H M as) (r : Fz K B d v) (h : Post K (relW K) B as (.ok (.val d) M) Q E) : Q v H := h.same st (.val r)
/-- a new list -/
theorem Post.newL {Q : VK} {E : XK} {ws : List W} {vs : List V} (st : StR K B H M as) (r : WL K B as ws vs) (h : Post K (relW K) B as (.ok (.ptr M.length) (M ++ [.lst ws])) Q E) {p : Addr} (np : H p = none) : Q (.ref p) (upd H p (.lst vs)) :=
  h B _ (as ++ [p]) _ (Same.refl B) ⟨[p], rfl⟩ (st.newL np r) (.ptr (newptr st))
/-- a new tuple -/
theorem Post.newT {Q : VK} {E : XK} {ds : List D} {vs : List V} (st : StR K B H M as) (r : FzL K B ds vs) (h : Post K (relW K) B as (.ok (.val (.tup ds)) M) Q E) {p : Addr} (np : H p = none) : Q (.ref p) (upd H p (.tup vs)) :=
  h _ _ as _ (same_new (same_none st.ex np)) (pre_refl as) (st.frozen np) (.val (.tup (SqT.of upd_same) (r.mono (same_new (same_none st.ex np)))))
end
theorem orR {X : Cx} {f : Value → Value → Sem Value} {r r' : R2} (h : OpR X f r) (h' : OpR X f r') : OpR X f (fun x y H Q => r x y H Q ∨ r' x y H Q) := fun pins s σ H x y v u Q I rx ry q =>
  q.elim (h pins s σ H x y v u Q I rx ry) (h' pins s σ H x y v u Q I rx ry)
/-! ### + -/
def rAddS : R2 := fun x y H Q => ∃ i j, x = .str i ∧ y = .str j ∧ i.length + j.length ≤ sizeLine ∧ Q (.str (i ++ j)) H
def rAdd (K : PySem.W.Frag) : R2 := fun x y H Q => rI0 (fun i j => .int (i + j)) x y H Q ∨ (rAddS x y H Q ∨ (rCat x y H Q ∨ rCatA K x y H Q))
theorem op_addA {X : Cx} : OpR X (binaryOp .Add) (rAdd X.K) := orR op_add (orR op_add_str (orR op_cat op_catA))
def gAdd (a b : W) (M : Store) : R W := match rd M a, rd M b with
  | .val (.int i), .val (.int j) => .ok (.val (.int (i + j))) M
  | .val (.str x), .val (.str y) => if x.length + y.length ≤ sizeLine then .ok (.val (.str (x ++ y))) M else .stuck
  | _, _ => match tvw M a, tvw M b with
    | some x, some y => if x.length + y.length ≤ sizeLine then .ok (.val (.tup (x ++ y))) M else .stuck
    | _, _ => match lvt M a, lvt M b with
      | some x, some y => if x.length + y.length ≤ sizeLine then .ok (.ptr M.length) (M ++ [.lst (x ++ y)]) else .stuck
      | _, _ => .stuck
theorem g_add {K : PySem.W.Frag} : Sem2 K (rAdd K) gAdd := fun B H M as a b x y Q E st ra rb h => by
  unfold gAdd at h
  have ra' := rd_ok st ra
  have rb' := rd_ok st rb
  split at h
  · rename_i i j ea eb
    rw [ea] at ra'; rw [eb] at rb'
    cases int_ok ra'; cases int_ok rb'
    exact .inl ⟨i, j, rfl, rfl, h.fz st (.int _)⟩
  · rename_i i j ea eb
    rw [ea] at ra'; rw [eb] at rb'
    cases str_ok ra'; cases str_ok rb'
    split at h
    · rename_i hl
      exact .inr (.inl ⟨i, j, rfl, rfl, hl, h.fz st (.str _)⟩)
    · exact h.elim
  · split at h
    · rename_i u v eu ev
      obtain ⟨p, us, rfl, sp, fu⟩ := tvw_ok st ra eu
      obtain ⟨q, vs, rfl, sq, fv⟩ := tvw_ok st rb ev
      split at h
      · rename_i hl
        refine .inr (.inr (.inr ⟨p, q, us, vs, rfl, rfl, sqT_mono st.ex sp, sqT_mono st.ex sq, by rw [fu.length, fv.length]; exact hl, fun z => ?_, fun _ z => ?_, fun _ _ r hr => ?_⟩))
        · subst z
          cases fu
          exact h.fz st (.tup sq fv)
        · subst z
          cases fv
          rw [List.append_nil] at h
          exact h.fz st (.tup sp fu)
        · exact h.newT st (fu.append fv) hr
      · exact h.elim
    · split at h
      · rename_i u v eu ev
        obtain ⟨p, us, rfl, sp, fu⟩ := lvt_ok st ra eu
        obtain ⟨q, vs, rfl, sq, fv⟩ := lvt_ok st rb ev
        split at h
        · rename_i hl
          exact .inr (.inr (.inl ⟨p, q, us, vs, rfl, rfl, sp, sq, by rw [fu.length, fv.length]; exact hl, fun r hr => h.newL st (fu.append fv) hr⟩))
        · exact h.elim
      · exact h.elim
/-! ### ints -/
/-- on two ints where C holds (cb decides it) -/
def gI (cb : Int → Int → Bool) (g : Int → Int → D) (a b : W) (M : Store) : R W := match rd M a, rd M b with
  | .val (.int i), .val (.int j) => if cb i j = true then .ok (.val (g i j)) M else .stuck
  | _, _ => .stuck
theorem g_I {K : PySem.W.Frag} {C : Int → Int → Prop} {cb : Int → Int → Bool} {g : Int → Int → D} {gv : Int → Int → V} (hc : ∀ i j, cb i j = true → C i j) (hg : ∀ B i j, Fz K B (g i j) (gv i j)) : Sem2 K (rI C gv) (gI cb g) := fun B H M as a b x y Q E st ra rb h => by
  unfold gI at h
  have ra' := rd_ok st ra
  have rb' := rd_ok st rb
  split at h
  · rename_i i j ea eb
    rw [ea] at ra'; rw [eb] at rb'
    cases int_ok ra'; cases int_ok rb'
    split at h
    · rename_i z
      exact ⟨i, j, rfl, rfl, hc i j z, h.fz st (hg B i j)⟩
    · exact h.elim
  · exact h.elim
def gI0 (g : Int → Int → D) (a b : W) (M : Store) : R W := match rd M a, rd M b with
  | .val (.int i), .val (.int j) => .ok (.val (g i j)) M
  | _, _ => .stuck
theorem g_I0 {K : PySem.W.Frag} {g : Int → Int → D} {gv : Int → Int → V} (hg : ∀ B i j, Fz K B (g i j) (gv i j)) : Sem2 K (rI0 gv) (gI0 g) := fun B H M as a b x y Q E st ra rb h => by
  unfold gI0 at h
  have ra' := rd_ok st ra
  have rb' := rd_ok st rb
  split at h
  · rename_i i j ea eb
    rw [ea] at ra'; rw [eb] at rb'
    cases int_ok ra'; cases int_ok rb'
    exact ⟨i, j, rfl, rfl, h.fz st (hg B i j)⟩
  · exact h.elim
def gSub := gI0 fun i j => .int (i - j)
theorem g_sub {K : PySem.W.Frag} : Sem2 K (rI0 fun i j => .int (i - j)) gSub := g_I0 fun _ _ _ => .int _
def gMod := gI (fun _ j => decide (0 < j)) fun i j => .int (i % j)
theorem g_mod {K : PySem.W.Frag} : Sem2 K (rI (fun _ j => 0 < j) fun i j => .int (i % j)) gMod := g_I (fun _ _ h => of_decide_eq_true h) fun _ _ _ => .int _
def gDiv := gI (fun _ j => decide (0 < j) && decide (j.natAbs.log2 < 9000)) fun i j => .int (i / j)
theorem g_div {K : PySem.W.Frag} : Sem2 K (rI CDivW fun i j => .int (i / j)) gDiv := g_I (fun _ _ h => by
  rw [Bool.and_eq_true] at h
  exact ⟨of_decide_eq_true h.1, of_decide_eq_true h.2⟩) fun _ _ _ => .int _
def CPowW (i j : Int) : Prop := 0 ≤ j ∧ (Builtin.Int.intBits i : Int) * j ≤ 2 ^ 27
theorem op_powW {X : Cx} : OpR X (binaryOp .Pow) (rI CPowW fun i j => .int (i ^ j.toNat)) := opI fun _ _ _ _ _ _ _ hc q => pow_int hc.1 hc.2 q
def gPow := gI (fun i j => decide (0 ≤ j) && decide ((Builtin.Int.intBits i : Int) * j ≤ 2 ^ 27)) fun i j => .int (i ^ j.toNat)
theorem g_pow {K : PySem.W.Frag} : Sem2 K (rI CPowW fun i j => .int (i ^ j.toNat)) gPow := g_I (fun _ _ h => by
  rw [Bool.and_eq_true] at h
  exact ⟨of_decide_eq_true h.1, of_decide_eq_true h.2⟩) fun _ _ _ => .int _
def gLt := gI0 fun i j => .bl (decide (i < j))
def gLe := gI0 fun i j => .bl (decide (i ≤ j))
def gGt := gI0 fun i j => .bl (decide (j < i))
def gGe := gI0 fun i j => .bl (decide (j ≤ i))
theorem g_lt {K : PySem.W.Frag} : Sem2 K (rI0 fun i j => .bl (decide (i < j))) gLt := g_I0 fun _ _ _ => .bl _
theorem g_le {K : PySem.W.Frag} : Sem2 K (rI0 fun i j => .bl (decide (i ≤ j))) gLe := g_I0 fun _ _ _ => .bl _
theorem g_gt {K : PySem.W.Frag} : Sem2 K (rI0 fun i j => .bl (decide (j < i))) gGt := g_I0 fun _ _ _ => .bl _
theorem g_ge {K : PySem.W.Frag} : Sem2 K (rI0 fun i j => .bl (decide (j ≤ i))) gGe := g_I0 fun _ _ _ => .bl _
/-! ### * -/
def rMul : R2 := fun x y H Q => rI CMulW (fun i j => .int (i * j)) x y H Q ∨ rRep x y H Q
theorem op_mulA {X : Cx} : OpR X (binaryOp .Mult) rMul := orR op_mulW op_rep
def gMul (a b : W) (M : Store) : R W := match rd M b with
  | .val (.int j) => (match lvt M a with
    | some x => if x.length * j.toNat ≤ sizeLine ∧ j < 2 ^ 63 ∧ -(2 ^ 63) ≤ j then .ok (.ptr M.length) (M ++ [.lst (List.replicate j.toNat x).flatten]) else .stuck
    | none => match rd M a with
      | .val (.int i) => if i.natAbs.log2 + j.natAbs.log2 < 1000000 then .ok (.val (.int (i * j))) M else .stuck
      | _ => .stuck)
  | _ => .stuck
theorem WL.rep {K : PySem.W.Frag} {B : Hp} {as : List Addr} {ws : List W} {vs : List V} (h : WL K B as ws vs) : ∀ n, WL K B as (List.replicate n ws).flatten (List.replicate n vs).flatten
  | 0 => .nil
  | n + 1 => by
    rw [List.replicate_succ, List.replicate_succ, List.flatten_cons, List.flatten_cons]
    exact h.append (WL.rep h n)
theorem g_mul {K : PySem.W.Frag} : Sem2 K rMul gMul := fun B H M as a b x y Q E st ra rb h => by
  unfold gMul at h
  have ra' := rd_ok st ra
  have rb' := rd_ok st rb
  split at h
  · rename_i j eb
    rw [eb] at rb'
    cases int_ok rb'
    split at h
    · rename_i u eu
      obtain ⟨p, us, rfl, sp, fu⟩ := lvt_ok st ra eu
      split at h
      · rename_i z
        exact .inr ⟨p, j, us, rfl, rfl, sp, z.2.2, z.2.1, by rw [fu.length]; exact z.1, fun r hr => h.newL st (fu.rep _) hr⟩
      · exact h.elim
    · split at h
      · rename_i i ea
        rw [ea] at ra'
        cases int_ok ra'
        split at h
        · rename_i z
          exact .inl ⟨i, j, rfl, rfl, z, h.fz st (.int _)⟩
        · exact h.elim
      · exact h.elim
  · exact h.elim
/-! ### == -/
mutual
def D.py : D → Option PyData
  | .non => some .none
  | .bl b => some (.bool b)
  | .int i => some (.int i)
  | .str x => some (.str x)
  | .tup xs => (D.pyL xs).map .tuple
  | .lst xs => (D.pyL xs).map .list
  | .rls xs => (D.pyL xs).map .list
  | .obj _ _ => none
  | .ty _ => none
def D.pyL : List D → Option (List PyData)
  | [] => some []
  | x :: xs => match D.py x, D.pyL xs with
    | some a, some as => some (a :: as)
    | _, _ => none
end
def optAll {α β : Type} (f : α → Option β) : List α → Option (List β)
  | [] => some []
  | x :: xs => match f x, optAll f xs with
    | some a, some as => some (a :: as)
    | _, _ => none
/-- the data that a value shows now, n lists deep -/
def W.py (M : Store) : Nat → W → Option PyData
  | 0, w => match w with
    | .val d => d.py
    | .ptr _ => none
  | n + 1, w => match w with
    | .val d => d.py
    | .ptr k => match M[k]? with
      | some (.lst ws) => (optAll (W.py M n) ws).map .list
      | some (.frz d) => d.py
      | _ => none
section
variable {K : PySem.W.Frag} {B H : Hp} {as : List Addr} {M : Store}
mutual
theorem Fz.dp (e : Same B H) : ∀ {d : D} {v : V} {p : PyData}, Fz K B d v → d.py = some p → Dp K H v p
  | _, _, _, .non, h => by cases h; exact .non
  | _, _, _, .bl b, h => by cases h; exact .bl b
  | _, _, _, .int b, h => by cases h; exact .int b
  | _, _, _, .str b, h => by cases h; exact .str b
  | _, _, _, .tup (ds := ds) a t, h => by
    unfold D.py at h
    cases q : D.pyL ds with
    | none => rw [q] at h; cases h
    | some l => rw [q] at h; cases h; exact .tup (sqT_mono e a) (FzL.dp e t q)
  | _, _, _, .lst (ds := ds) a t, h => by
    unfold D.py at h
    cases q : D.pyL ds with
    | none => rw [q] at h; cases h
    | some l => rw [q] at h; cases h; exact .lst (SqL.of (e _ _ a)) (FzL.dp e t q)
  | _, _, _, .rls (ds := ds) a t, h => by
    unfold D.py at h
    cases q : D.pyL ds with
    | none => rw [q] at h; cases h
    | some l => rw [q] at h; cases h; exact .lst (sqL_mono e a) (FzL.dp e t q)
  | _, _, _, .obj a b t, h => by cases h
  | _, _, _, .ty _, h => by cases h
theorem FzL.dp (e : Same B H) : ∀ {d : List D} {v : List V} {p : List PyData}, FzL K B d v → D.pyL d = some p → DpAll K H v p
  | _, _, _, .nil, h => by cases h; exact .nil
  | _, _, _, .cons (d := d) (ds := ds) a t, h => by
    unfold D.pyL at h
    cases q : D.py d with
    | none => rw [q] at h; cases h
    | some x =>
      cases q2 : D.pyL ds with
      | none => rw [q, q2] at h; cases h
      | some l => rw [q, q2] at h; cases h; exact .cons (Fz.dp e a q) (FzL.dp e t q2)
end
theorem WL.dp {f : W → Option PyData} (one : ∀ (w : W) (v : V) (p : PyData), WR K B as w v → f w = some p → Dp K H v p) : ∀ {ws : List W} {vs : List V} {ps : List PyData}, WL K B as ws vs → optAll f ws = some ps → DpAll K H vs ps
  | _, _, _, .nil, h => by cases h; exact .nil
  | _, _, _, .cons (w := w) (ws := ws) a t, h => by
    unfold optAll at h
    cases q : f w with
    | none => rw [q] at h; cases h
    | some x =>
      cases q2 : optAll f ws with
      | none => rw [q, q2] at h; cases h
      | some l => rw [q, q2] at h; cases h; exact .cons (one _ _ _ a q) (WL.dp one t q2)
theorem W.dp (st : StR K B H M as) : ∀ (n : Nat) (w : W) (v : V) (p : PyData), WR K B as w v → W.py M n w = some p → Dp K H v p
  | 0, _, _, _, .val f, e => f.dp st.ex e
  | 0, _, _, _, .ptr _, e => by cases e
  | n + 1, _, _, _, .val f, e => f.dp st.ex e
  | n + 1, _, _, p, .ptr (k := k) hk, e => by
    obtain ⟨c, e2, r⟩ := st.hp hk
    have e' : (match M[k]? with
      | some (.lst ws) => (optAll (W.py M n) ws).map .list
      | some (.frz d) => d.py
      | _ => none) = some p := e
    rw [e2] at e'
    cases c with
    | lst ws =>
      obtain ⟨_, vs, e3, r⟩ := r
      have e4 : (optAll (W.py M n) ws).map PyData.list = some p := e'
      cases q : optAll (W.py M n) ws with
      | none => rw [q] at e4; cases e4
      | some l =>
        rw [q] at e4; cases e4
        exact .lst (SqL.of e3) (WL.dp (W.dp st n) r q)
    | frz d => exact r.2.dp st.ex e'
    | _ => cases e'
end
def rEqA (K : PySem.W.Frag) : R2 := fun x y H Q => rEq x y H Q ∨ rEqD K x y H Q
def rNeA (K : PySem.W.Frag) : R2 := fun x y H Q => rNe x y H Q ∨ rNeD K x y H Q
theorem op_eqA {X : Cx} (hu : X.A.units + 64 < cLine) : OpR X (compareOp .Eq) (rEqA X.K) := orR op_eq (op_eqD hu)
theorem op_neA {X : Cx} (hu : X.A.units + 64 < cLine) : OpR X (compareOp .NotEq) (rNeA X.K) := orR op_ne (op_neD hu)
/-- what == yields -/
def eqW (a b : W) (M : Store) : Option Bool := match rd M a, rd M b with
  | .val (.int i), .val (.int j) => some (decide (i = j))
  | .val (.str i), .val (.str j) => some (decide (i = j))
  | _, _ => match W.py M 4 a, W.py M 4 b with
    | some p, some q => if SeqAt.shaped p = true ∧ SeqAt.shaped q = true then some (PyData.eqv p q) else none
    | _, _ => none
def gEq (a b : W) (M : Store) : R W := match eqW a b M with
  | some r => .ok (.val (.bl r)) M
  | none => .stuck
def gNe (a b : W) (M : Store) : R W := match eqW a b M with
  | some r => .ok (.val (.bl (!r))) M
  | none => .stuck
theorem eqW_ok {K : PySem.W.Frag} {B H : Hp} {M : Store} {as : List Addr} {a b : W} {x y : V} {r : Bool} (st : StR K B H M as) (ra : WR K B as a x) (rb : WR K B as b y) (h : eqW a b M = some r) :
    (scal x y = true ∧ decide (x = y) = r) ∨ ∃ d e, Dp K H x d ∧ Dp K H y e ∧ SeqAt.shaped d = true ∧ SeqAt.shaped e = true ∧ PyData.eqv d e = r := by
  unfold eqW at h
  have ra' := rd_ok st ra
  have rb' := rd_ok st rb
  split at h
  · rename_i i j ea eb
    rw [ea] at ra'; rw [eb] at rb'
    cases int_ok ra'; cases int_ok rb'
    cases h
    exact .inl ⟨rfl, by simp⟩
  · rename_i i j ea eb
    rw [ea] at ra'; rw [eb] at rb'
    cases str_ok ra'; cases str_ok rb'
    cases h
    exact .inl ⟨rfl, by simp⟩
  · split at h
    · rename_i p q e1 e2
      split at h
      · rename_i z
        cases h
        exact .inr ⟨p, q, W.dp st 4 _ _ _ ra e1, W.dp st 4 _ _ _ rb e2, z.1, z.2, rfl⟩
      · cases h
    · cases h
theorem g_eq {K : PySem.W.Frag} : Sem2 K (rEqA K) gEq := fun B H M as a b x y Q E st ra rb h => by
  unfold gEq at h
  split at h
  · rename_i r e
    rcases eqW_ok st ra rb e with ⟨h1, h2⟩ | ⟨d, e, h1, h2, h3, h4, h5⟩
    · exact .inl ⟨h1, by rw [h2]; exact h.fz st (.bl _)⟩
    · exact .inr ⟨d, e, h1, h2, h3, h4, by rw [h5]; exact h.fz st (.bl _)⟩
  · exact h.elim
theorem g_ne {K : PySem.W.Frag} : Sem2 K (rNeA K) gNe := fun B H M as a b x y Q E st ra rb h => by
  unfold gNe at h
  split at h
  · rename_i r e
    rcases eqW_ok st ra rb e with ⟨h1, h2⟩ | ⟨d, e, h1, h2, h3, h4, h5⟩
    · exact .inl ⟨h1, by rw [h2]; exact h.fz st (.bl _)⟩
    · exact .inr ⟨d, e, h1, h2, h3, h4, by rw [h5]; exact h.fz st (.bl _)⟩
  · exact h.elim
end Dn
end

section
set_option Elab.async false
set_option linter.all false
set_option maxRecDepth 100000
set_option maxHeartbeats 2000000
/-! Dn4: in, is None, subscripts, slices, built-in calls, methods. -/
namespace Dn
open PySem PySem.Spec PyProof.Rows L2
section
variable {K : PySem.W.Frag} {B B' H H' : Hp} {as as' : List Addr} {M M' : Store}
/-! ### in -/
def pyV : V → PyData
  | .bl b => .bool b
  | .int i => .int i
  | .str x => .str x
  | _ => .none
def flatP : PyData → Bool
  | .none => true
  | .bool _ => true
  | .int _ => true
  | .str _ => true
  | _ => false
theorem dp_flat {v : V} {p : PyData} (h : Dp K H v p) (f : flatP p = true) : flatV v = true ∧ pyV v = p := by
  cases h with
  | non => exact ⟨rfl, rfl⟩
  | bl b => exact ⟨rfl, rfl⟩
  | int b => exact ⟨rfl, rfl⟩
  | str b => exact ⟨rfl, rfl⟩
  | lst _ _ => cases f
  | tup _ _ => cases f
theorem eqV_py : ∀ {y x : V}, flatV y = true → flatV x = true → eqV y x = PyData.eqv (pyV y) (pyV x) := fun {y x} hy hx => by
  cases y with
  | non => cases x with
    | non => rfl
    | bl _ => rfl
    | int _ => rfl
    | str _ => rfl
    | _ => cases hx
  | bl b => cases x with
    | non => rfl
    | bl _ => rfl
    | int _ => rfl
    | str _ => rfl
    | _ => cases hx
  | int b => cases x with
    | non => rfl
    | bl _ => rfl
    | int _ => rfl
    | str _ => rfl
    | _ => cases hx
  | str b => cases x with
    | non => rfl
    | bl _ => rfl
    | int _ => rfl
    | str _ => rfl
    | _ => cases hx
  | _ => cases hy
theorem dpAll_flat : ∀ {vs : List V} {ps : List PyData}, DpAll K H vs ps → ps.all flatP = true → vs.all flatV = true ∧ vs.map pyV = ps
  | _, _, .nil, _ => ⟨rfl, rfl⟩
  | _, _, .cons a t, f => by
    rw [List.all_cons, Bool.and_eq_true] at f
    obtain ⟨h1, h2⟩ := dp_flat a f.1
    obtain ⟨h3, h4⟩ := dpAll_flat t f.2
    exact ⟨by rw [List.all_cons, h1, h3]; rfl, by rw [List.map_cons, h2, h4]⟩
theorem inV_py {x : V} : ∀ {vs : List V}, flatV x = true → vs.all flatV = true → inV x vs = (vs.map pyV).any fun z => PyData.eqv z (pyV x)
  | [], _, _ => rfl
  | v :: vs, hx, hv => by
    rw [List.all_cons, Bool.and_eq_true] at hv
    show (eqV v x || inV x vs) = (PyData.eqv (pyV v) (pyV x) || (vs.map pyV).any fun z => PyData.eqv z (pyV x))
    rw [eqV_py hv.1 hx, inV_py hx hv.2]
def rSgn (neg : Bool) : R2 := fun x y H Q => ∃ (c : Nat) (z : Str), x = .str ⟨#[c]⟩ ∧ y = .str z ∧ Q (.bl (if neg then !decide (c ∈ z.cps.toList) else decide (c ∈ z.cps.toList))) H
def rInA (K : PySem.W.Frag) : R2 := fun x y H Q => rSgn false x y H Q ∨ (rIn K false x y H Q ∨ rInD K x y H Q)
def rNiA (K : PySem.W.Frag) : R2 := fun x y H Q => rSgn true x y H Q ∨ (rIn K true x y H Q ∨ rNotInD K x y H Q)
theorem op_inA {X : Cx} (hu : X.A.units + 65 < cLine) : OpR X (compareOp .In) (rInA X.K) := orR (fun pins s σ H x y v u Q I rx ry q => op_in_sign pins s σ H x y v u Q I rx ry q) (orR op_in_seq (op_inD hu))
theorem op_niA {X : Cx} (hu : X.A.units + 65 < cLine) : OpR X (compareOp .NotIn) (rNiA X.K) := orR (fun pins s σ H x y v u Q I rx ry q => op_notIn_sign pins s σ H x y v u Q I rx ry q) (orR op_notIn_seq (op_notInD hu))
def signOf (x : Str) : Option Nat := match x.cps.toList with
  | [c] => some c
  | _ => none
theorem signOf_eq {x : Str} {c : Nat} (h : signOf x = some c) : x = ⟨#[c]⟩ := by
  unfold signOf at h
  obtain ⟨⟨l⟩⟩ := x
  cases l with
  | nil => cases h
  | cons a t =>
    cases t with
    | nil => cases h; rfl
    | cons _ _ => cases h
def inW (a b : W) (M : Store) : Option Bool := match rd M a, rd M b with
  | .val (.str x), .val (.str z) => (signOf x).map fun c => decide (c ∈ z.cps.toList)
  | _, _ => match W.py M 4 a with
    | some p => (match W.py M 4 b with
      | some (.tuple ps) => if flatP p = true ∧ ps.all flatP = true then some (ps.any fun z => PyData.eqv z p) else none
      | some (.list ps) => if flatP p = true ∧ ps.all flatP = true then some (ps.any fun z => PyData.eqv z p) else if SeqAt.shaped p = true ∧ SeqAt.shaped (.list ps) = true then some (ps.any fun z => PyData.eqv z p) else none
      | _ => none)
    | none => none
def gIn (a b : W) (M : Store) : R W := match inW a b M with
  | some r => .ok (.val (.bl r)) M
  | none => .stuck
def gNi (a b : W) (M : Store) : R W := match inW a b M with
  | some r => .ok (.val (.bl (!r))) M
  | none => .stuck
theorem inW_ok {a b : W} {x y : V} {r : Bool} (st : StR K B H M as) (ra : WR K B as a x) (rb : WR K B as b y) (h : inW a b M = some r) (neg : Bool) {Q : VK} (q : Q (.bl (if neg then !r else r)) H) :
    rSgn neg x y H Q ∨ (rIn K neg x y H Q ∨ ∃ d ds, Dp K H x d ∧ Dp K H y (.list ds) ∧ SeqAt.shaped d = true ∧ SeqAt.shaped (.list ds) = true ∧ Q (.bl (if neg then !(ds.any fun z => PyData.eqv z d) else (ds.any fun z => PyData.eqv z d))) H) := by
  unfold inW at h
  have ra' := rd_ok st ra
  have rb' := rd_ok st rb
  split at h
  · rename_i i j ea eb
    rw [ea] at ra'; rw [eb] at rb'
    cases int_ok (i := 0) (.val (.int 0) : WR K B as _ (.int 0))
    cases str_ok ra'; cases str_ok rb'
    cases e : signOf i with
    | none => rw [e] at h; cases h
    | some c =>
      rw [e] at h
      cases h
      cases signOf_eq e
      exact .inl ⟨c, j, rfl, rfl, q⟩
  · split at h
    · rename_i p e1
      have d1 := W.dp st 4 _ _ _ ra e1
      split at h
      · rename_i ps e2
        have d2 := W.dp st 4 _ _ _ rb e2
        split at h
        · rename_i z
          cases h
          cases d2 with
          | tup s2 t2 =>
            obtain ⟨f1, f2⟩ := dp_flat d1 z.1
            obtain ⟨f3, f4⟩ := dpAll_flat t2 z.2
            refine .inr (.inl ⟨_, _, rfl, .inr s2, f1, f3, ?_⟩)
            rw [inV_py f1 f3, f4, f2]
            exact q
        · cases h
      · rename_i ps e2
        have d2 := W.dp st 4 _ _ _ rb e2
        split at h
        · rename_i z
          cases h
          cases d2 with
          | lst s2 t2 =>
            obtain ⟨f1, f2⟩ := dp_flat d1 z.1
            obtain ⟨f3, f4⟩ := dpAll_flat t2 z.2
            refine .inr (.inl ⟨_, _, rfl, .inl s2, f1, f3, ?_⟩)
            rw [inV_py f1 f3, f4, f2]
            exact q
        · split at h
          · rename_i z
            cases h
            exact .inr (.inr ⟨p, ps, d1, d2, z.1, z.2, q⟩)
          · cases h
      · cases h
    · cases h
theorem g_in : Sem2 K (rInA K) gIn := fun B H M as a b x y Q E st ra rb h => by
  unfold gIn at h
  split at h
  · rename_i r e
    exact inW_ok st ra rb e false (h.fz st (.bl _))
  · exact h.elim
theorem g_ni : Sem2 K (rNiA K) gNi := fun B H M as a b x y Q E st ra rb h => by
  unfold gNi at h
  split at h
  · rename_i r e
    exact inW_ok st ra rb e true (h.fz st (.bl _))
  · exact h.elim
/-! ### is None -/
def W.isNon : W → Bool
  | .val .non => true
  | _ => false
theorem isNon_ok {w : W} {v : V} (h : WR K B as w v) : decide (v = .non) = w.isNon := by
  cases h with
  | val f => cases f <;> rfl
  | ptr _ => rfl
def rIsNo : R2 := fun x y H Q => y = .non ∧ Q (.bl (decide (x = .non))) H
def rIsnNo : R2 := fun x y H Q => y = .non ∧ Q (.bl (!decide (x = .non))) H
theorem op_isNo {X : Cx} : OpR X (compareOp .Is) rIsNo := op_isN
theorem op_isnNo {X : Cx} : OpR X (compareOp .IsNot) rIsnNo := op_notN
def gIs (a b : W) (M : Store) : R W := match b with
  | .val .non => .ok (.val (.bl a.isNon)) M
  | _ => .stuck
def gIsn (a b : W) (M : Store) : R W := match b with
  | .val .non => .ok (.val (.bl (!a.isNon))) M
  | _ => .stuck
theorem g_is : Sem2 K rIsNo gIs := fun B H M as a b x y Q E st ra rb h => by
  unfold gIs at h
  split at h
  · cases val_ok rb
    exact ⟨rfl, by rw [isNon_ok ra]; exact h.fz st (.bl _)⟩
  · exact h.elim
theorem g_isn : Sem2 K rIsnNo gIsn := fun B H M as a b x y Q E st ra rb h => by
  unfold gIsn at h
  split at h
  · cases val_ok rb
    exact ⟨rfl, by rw [isNon_ok ra]; exact h.fz st (.bl _)⟩
  · exact h.elim
/-! ### subscripts -/
theorem WL.atI {ws : List W} {vs : List V} {i : Int} {w : W} (h : WL K B as ws vs) (e : atI ws i = some w) : ∃ v, L2.atI vs i = some v ∧ WR K B as w v := by
  unfold L2.atI at e ⊢
  rw [h.length]
  cases q : ixN ws.length i with
  | none => rw [q] at e; cases e
  | some j =>
    rw [q] at e
    exact h.get e
theorem FzL.atI {ws : List D} {vs : List V} {i : Int} {w : D} (h : FzL K B ws vs) (e : atI ws i = some w) : ∃ v, L2.atI vs i = some v ∧ Fz K B w v := by
  unfold L2.atI at e ⊢
  rw [h.length]
  cases q : ixN ws.length i with
  | none => rw [q] at e; cases e
  | some j =>
    rw [q] at e
    exact h.get e
def gIx (a b : W) (M : Store) : R W := match rd M b with
  | .val (.int i) => (match rd M a with
    | .val (.str z) => if z.length ≤ sizeLine then (match atI z.cps.toList i with
      | some c => .ok (.val (.str ⟨#[c]⟩)) M
      | none => .stuck) else .stuck
    | _ => match tvw M a with
      | some ds => (match atI ds i with
        | some d => .ok (.val d) M
        | none => .stuck)
      | none => match lvw M a with
        | some ws => (match atI ws i with
          | some w => .ok w M
          | none => .stuck)
        | none => .stuck)
  | _ => .stuck
theorem g_ix : Sem2 K (rIx K) gIx := fun B H M as a b x y Q E st ra rb h => by
  unfold gIx at h
  have ra' := rd_ok st ra
  have rb' := rd_ok st rb
  split at h
  · rename_i i eb
    rw [eb] at rb'
    cases int_ok rb'
    split at h
    · rename_i z ea
      rw [ea] at ra'
      cases str_ok ra'
      split at h
      · rename_i hz
        split at h
        · rename_i c ec
          exact .inr (.inr ⟨z, i, c, rfl, rfl, hz, ec, h.fz st (.str _)⟩)
        · exact h.elim
      · exact h.elim
    · split at h
      · rename_i ds ed
        obtain ⟨p, vs, rfl, sp, fv⟩ := tvw_ok st ra ed
        split at h
        · rename_i d e
          obtain ⟨v, e1, f⟩ := fv.atI e
          exact .inr (.inl ⟨p, vs, i, v, rfl, rfl, sqT_mono st.ex sp, e1, h.fz st f⟩)
        · exact h.elim
      · split at h
        · rename_i ws ed
          obtain ⟨p, vs, rfl, sp, fv⟩ := lvw_ok st ra ed
          split at h
          · rename_i d e
            obtain ⟨v, e1, f⟩ := fv.atI e
            exact .inl ⟨p, vs, i, v, rfl, rfl, sp, e1, h.same st f⟩
          · exact h.elim
        · exact h.elim
  · exact h.elim
/-! ### slices -/
def cutL {α : Type} (xs : List α) (lo hi : Option Int) : List α := (xs.drop (HT.sIx xs.length 0 lo)).take (HT.sIx xs.length xs.length hi - HT.sIx xs.length 0 lo)
theorem WL.cut {ws : List W} {vs : List V} (h : WL K B as ws vs) (lo hi : Option Int) : WL K B as (cutL ws lo hi) (cutV vs lo hi) := by
  unfold cutL cutV
  rw [h.length]
  exact (h.drop _).take _
theorem FzL.cut {ws : List D} {vs : List V} (h : FzL K B ws vs) (lo hi : Option Int) : FzL K B (cutL ws lo hi) (cutV vs lo hi) := by
  unfold cutL cutV
  rw [h.length]
  exact (h.drop _).take _
def rSl (K : PySem.W.Frag) : V → Option Int → Option Int → Hp → VK → Prop := fun x lo hi H Q => rSlL K x lo hi H Q ∨ (rSlA K x lo hi H Q ∨ rSlS x lo hi H Q)
theorem sl_A {X : Cx} : SlR X (rSl X.K) := sl_list.or (sl_tupA.or sl_str)
def gSl (a : W) (lo hi : Option Int) (M : Store) : R W := match rd M a with
  | .val (.str z) => if z.length ≤ sizeLine then .ok (.val (.str (cutS z lo hi))) M else .stuck
  | _ => match tvw M a with
    | some ds => .ok (.val (.tup (cutL ds lo hi))) M
    | none => match lvw M a with
      | some ws => .ok (.ptr M.length) (M ++ [.lst (cutL ws lo hi)])
      | none => .stuck
def dSl (fa : DE) (fl fh : DO) : DE := fun e M => (fa e M).bind fun a M1 => (fl e M1).bind fun lo M2 => (fh e M2).bind fun hi M3 => gSl a lo hi M3
def dNo : DO := fun _ M => .ok none M
def dPart (fa : DE) : DO := fun e M => (fa e M).bind fun a M1 => match a with
  | .val (.int i) => .ok (some i) M1
  | _ => .stuck
variable {Wx : WX} {ta tb tc te : TE} {fa fb fc : DE}
theorem s_no : SemO K Wx tNoPart dNo := fun B H M as e σ Q st en h => h B H as none (Same.refl B) (pre_refl as) st rfl
theorem s_part (ha : SemE K Wx ta fa) : SemO K Wx (tPart ta) (dPart fa) := fun B H M as e σ Q st en h =>
  ha B H M as e σ _ st en (Post.bind h fun a M1 B1 H1 as1 x _ sb pre st1 rl h1 => by
    split at h1
    · rename_i i _
      exact ⟨i, int_ok rl, h1 B1 H1 as1 (some i) (Same.refl B1) (pre_refl as1) st1 rfl⟩
    · exact h1.elim)
theorem cut_whole {α : Type} {xs : List α} {lo hi : Option Int} (h : HT.sIx xs.length 0 lo = 0 ∧ HT.sIx xs.length xs.length hi = xs.length) : cutL xs lo hi = xs := by
  unfold cutL
  rw [h.1, h.2]
  simp
theorem g_sl {a : W} {lo hi : Option Int} {x : V} {Q : VK} {E : XK} (st : StR K B H M as) (ra : WR K B as a x) (h : Post K (relW K) B as (gSl a lo hi M) Q E) : rSl K x lo hi H Q := by
  unfold gSl at h
  have ra' := rd_ok st ra
  split at h
  · rename_i z ea
    rw [ea] at ra'
    cases str_ok ra'
    split at h
    · rename_i hz
      exact .inr (.inr ⟨z, rfl, hz, h.fz st (.str _)⟩)
    · exact h.elim
  · split at h
    · rename_i ds ed
      obtain ⟨p, vs, rfl, sp, fv⟩ := tvw_ok st ra ed
      refine .inr (.inl ⟨p, vs, rfl, sqT_mono st.ex sp, fun w => ?_, fun w r hr => h.newT st (fv.cut lo hi) hr⟩)
      have w' : HT.sIx ds.length 0 lo = 0 ∧ HT.sIx ds.length ds.length hi = ds.length := by rw [← fv.length]; exact w
      rw [cut_whole w'] at h
      exact h.fz st (.tup sp fv)
    · split at h
      · rename_i ws ed
        obtain ⟨p, vs, rfl, sp, fv⟩ := lvw_ok st ra ed
        exact .inl ⟨p, vs, rfl, sp, fun r hr => h.newL st (fv.cut lo hi) hr⟩
      · exact h.elim
theorem s_sl {tl th : TO} {fl fh : DO} (ha : SemE K Wx ta fa) (hl : SemO K Wx tl fl) (hh : SemO K Wx th fh) : SemE K Wx (tSl (rSl K) ta tl th) (dSl fa fl fh) := fun B H M as e σ Q st en h =>
  ha B H M as e σ _ st en (Post.bind h fun a M1 B1 H1 as1 x _ sb pre st1 rl h1 =>
    hl B1 H1 M1 as1 e σ _ st1 (en.mono sb pre) (Post.bind h1 fun lo M2 B2 H2 as2 y _ sb2 pre2 st2 rl2 h2 =>
      hh B2 H2 M2 as2 e σ _ st2 (en.mono (sb.trans sb2) (pre.trans pre2)) (Post.bind h2 fun hi M3 B3 H3 as3 z _ sb3 pre3 st3 rl3 h3 => by
        have e1 : lo = y := rl2
        have e2 : hi = z := rl3
        subst e1; subst e2
        exact g_sl st3 (rl.mono (sb2.trans sb3) (pre2.trans pre3)) h3)))
def gRev (a : W) (M : Store) : R W := match lvw M a with
  | some ws => .ok (.ptr M.length) (M ++ [.lst ws.reverse])
  | none => .stuck
theorem s_rev (ha : SemE K Wx ta fa) : SemE K Wx (tRevL K ta) (d1 gRev fa) := fun B H M as e σ Q st en h =>
  ha B H M as e σ _ st en (Post.bind h fun a M1 B1 H1 as1 x _ sb pre st1 rl h1 => by
    unfold gRev at h1
    split at h1
    · rename_i ws _ ed
      obtain ⟨p, vs, rfl, sp, fv⟩ := lvw_ok st1 rl ed
      exact ⟨p, vs, rfl, sp, fun r hr => h1.newL st1 fv.reverse hr⟩
    · exact h1.elim)
end
end Dn
end

section
set_option Elab.async false
set_option linter.all false
set_option maxRecDepth 100000
set_option maxHeartbeats 2000000
/-! Dn5: built-in calls, methods, displays, calls of defs. -/
namespace Dn
open PySem PySem.Spec PyProof.Rows L2
/-! ### lists of one kind -/
def intsOf : List W → Option (List Int)
  | [] => some []
  | .val (.int i) :: ws => (intsOf ws).map fun is => i :: is
  | _ :: _ => none
def blsOf : List W → Option (List Bool)
  | [] => some []
  | .val (.bl i) :: ws => (blsOf ws).map fun is => i :: is
  | _ :: _ => none
def strsOf : List W → Option (List Str)
  | [] => some []
  | .val (.str i) :: ws => (strsOf ws).map fun is => i :: is
  | _ :: _ => none
theorem ints_map (ns : List Int) : intsOf (ns.map fun i => W.val (.int i)) = some ns := by
  induction ns with
  | nil => rfl
  | cons n ns ih => simp [intsOf, ih]
theorem bls_map (ns : List Bool) : blsOf (ns.map fun i => W.val (.bl i)) = some ns := by
  induction ns with
  | nil => rfl
  | cons n ns ih => simp [blsOf, ih]
theorem strs_map (ns : List Str) : strsOf (ns.map fun i => W.val (.str i)) = some ns := by
  induction ns with
  | nil => rfl
  | cons n ns ih => simp [strsOf, ih]
section
variable {K : PySem.W.Frag} {B B' H H' : Hp} {as as' : List Addr} {M M' : Store}
theorem ints_ok : ∀ {ws : List W} {vs : List V} {ns : List Int}, WL K B as ws vs → intsOf ws = some ns → vs = ns.map V.int
  | _, _, _, .nil, h => by cases h; rfl
  | _, _, _, .cons (w := w) (ws := ws) a t, h => by
    cases a with
    | val f =>
      cases f with
      | int i =>
        cases q : intsOf ws with
        | none => simp [intsOf, q] at h
        | some l =>
          simp [intsOf, q] at h
          subst h
          rw [ints_ok t q]
          rfl
      | _ => simp [intsOf] at h
    | ptr _ => simp [intsOf] at h
theorem bls_ok : ∀ {ws : List W} {vs : List V} {ns : List Bool}, WL K B as ws vs → blsOf ws = some ns → vs = ns.map V.bl
  | _, _, _, .nil, h => by cases h; rfl
  | _, _, _, .cons (w := w) (ws := ws) a t, h => by
    cases a with
    | val f =>
      cases f with
      | bl i =>
        cases q : blsOf ws with
        | none => simp [blsOf, q] at h
        | some l =>
          simp [blsOf, q] at h
          subst h
          rw [bls_ok t q]
          rfl
      | _ => simp [blsOf] at h
    | ptr _ => simp [blsOf] at h
theorem strs_ok : ∀ {ws : List W} {vs : List V} {ns : List Str}, WL K B as ws vs → strsOf ws = some ns → vs = ns.map V.str
  | _, _, _, .nil, h => by cases h; rfl
  | _, _, _, .cons (w := w) (ws := ws) a t, h => by
    cases a with
    | val f =>
      cases f with
      | str i =>
        cases q : strsOf ws with
        | none => simp [strsOf, q] at h
        | some l =>
          simp [strsOf, q] at h
          subst h
          rw [strs_ok t q]
          rfl
      | _ => simp [strsOf] at h
    | ptr _ => simp [strsOf] at h
theorem WL.one {w : W} {vs : List V} (h : WL K B as [w] vs) : ∃ v, vs = [v] ∧ WR K B as w v := by
  cases h with
  | cons a t => cases t; exact ⟨_, rfl, a⟩
theorem WL.two {w w' : W} {vs : List V} (h : WL K B as [w, w'] vs) : ∃ v v', vs = [v, v'] ∧ WR K B as w v ∧ WR K B as w' v' := by
  cases h with
  | cons a t =>
    obtain ⟨v', rfl, b⟩ := t.one
    exact ⟨_, _, rfl, a, b⟩
/-! ### calls of built-ins -/
def rLenA (K : PySem.W.Frag) : List V → Hp → VK → Prop := fun xs H Q => ∃ x n, xs = [x] ∧ LenV K x H n ∧ Q (.int n) H
theorem call_lenA {X : Cx} : CallR X (.builtin "len") (rLenA X.K) := call_len
def gLen (ws : List W) (M : Store) : R W := match ws with
  | [a] => (match rd M a with
    | .val (.str z) => if z.length ≤ sizeLine then .ok (.val (.int z.length)) M else .stuck
    | _ => match svw M a with
      | some xs => .ok (.val (.int xs.length)) M
      | none => .stuck)
  | _ => .stuck
theorem g_len : SemC K (rLenA K) gLen := fun B H M as ws xs Q E st rl h => by
  unfold gLen at h
  split at h
  · rename_i a
    obtain ⟨v, rfl, ra⟩ := rl.one
    have ra' := rd_ok st ra
    split at h
    · rename_i z ea
      rw [ea] at ra'
      cases str_ok ra'
      split at h
      · rename_i hz
        exact ⟨_, z.length, rfl, ⟨hz, rfl⟩, h.fz st (.int _)⟩
      · exact h.elim
    · split at h
      · rename_i ys e
        obtain ⟨p, vs, rfl, sp, fv⟩ := svw_ok st ra e
        refine ⟨_, vs.length, rfl, ?_, by rw [fv.length]; exact h.fz st (.int _)⟩
        exact sp.imp (fun s => ⟨vs, s, rfl⟩) fun s => ⟨vs, s, rfl⟩
      · exact h.elim
  · exact h.elim
def rAbs : List V → Hp → VK → Prop := fun xs H Q => ∃ i, xs = [.int i] ∧ Q (.int (if i < 0 then -i else i)) H
theorem call_absA {X : Cx} : CallR X (.builtin "abs") rAbs := call_abs
def gAbs (ws : List W) (M : Store) : R W := match ws with
  | [.val (.int i)] => .ok (.val (.int (if i < 0 then -i else i))) M
  | _ => .stuck
theorem g_abs : SemC K rAbs gAbs := fun B H M as ws xs Q E st rl h => by
  unfold gAbs at h
  split at h
  · rename_i i
    obtain ⟨v, rfl, ra⟩ := rl.one
    cases int_ok ra
    exact ⟨i, rfl, h.fz st (.int _)⟩
  · exact h.elim
def rInt1 : List V → Hp → VK → Prop := fun xs H Q => (∃ i, xs = [.int i] ∧ Q (.int i) H) ∨ ∃ k, xs = [.bl k] ∧ Q (.int (if k then 1 else 0)) H
theorem call_intA {X : Cx} : CallR X (.type "int") rInt1 := call_int1
def gInt (ws : List W) (M : Store) : R W := match ws with
  | [.val (.int i)] => .ok (.val (.int i)) M
  | [.val (.bl k)] => .ok (.val (.int (if k then 1 else 0))) M
  | _ => .stuck
theorem g_int : SemC K rInt1 gInt := fun B H M as ws xs Q E st rl h => by
  unfold gInt at h
  split at h
  · rename_i i
    obtain ⟨v, rfl, ra⟩ := rl.one
    cases int_ok ra
    exact .inl ⟨i, rfl, h.fz st (.int _)⟩
  · rename_i i
    obtain ⟨v, rfl, ra⟩ := rl.one
    cases isB_ok ra
    exact .inr ⟨i, rfl, h.fz st (.int _)⟩
  · exact h.elim
def gSum (ws : List W) (M : Store) : R W := match ws with
  | [a] => (match (lvw M a).bind intsOf with
    | some ns => .ok (.val (.int ns.sum)) M
    | none => .stuck)
  | _ => .stuck
theorem g_sum : SemC K (rSum K) gSum := fun B H M as ws xs Q E st rl h => by
  unfold gSum at h
  split at h
  · rename_i a
    obtain ⟨v, rfl, ra⟩ := rl.one
    split at h
    · rename_i ns e
      cases q : lvw M a with
      | none => rw [q] at e; cases e
      | some ys =>
        rw [q] at e
        obtain ⟨p, vs, rfl, sp, fv⟩ := lvw_ok st ra q
        cases ints_ok fv e
        exact ⟨p, ns, rfl, sp, h.fz st (.int _)⟩
    · exact h.elim
  · exact h.elim
def gAll (f : List Bool → Bool) (ws : List W) (M : Store) : R W := match ws with
  | [a] => (match (lvw M a).bind blsOf with
    | some ns => .ok (.val (.bl (f ns))) M
    | none => .stuck)
  | _ => .stuck
theorem g_allL {f : List Bool → Bool} : SemC K (fun vs H Q => ∃ (a : Addr) (bs : List Bool), vs = [V.ref a] ∧ SqL K H a (bs.map V.bl) ∧ Q (.bl (f bs)) H) (gAll f) := fun B H M as ws xs Q E st rl h => by
  unfold gAll at h
  split at h
  · rename_i a
    obtain ⟨v, rfl, ra⟩ := rl.one
    split at h
    · rename_i ns e
      cases q : lvw M a with
      | none => rw [q] at e; cases e
      | some ys =>
        rw [q] at e
        obtain ⟨p, vs, rfl, sp, fv⟩ := lvw_ok st ra q
        cases bls_ok fv e
        exact ⟨p, ns, rfl, sp, h.fz st (.bl _)⟩
    · exact h.elim
  · exact h.elim
theorem g_all : SemC K (rAll K) (gAll fun bs => bs.all id) := g_allL
theorem g_any : SemC K (rAny K) (gAll fun bs => bs.any id) := g_allL
def rListOf (K : PySem.W.Frag) : List V → Hp → VK → Prop := fun xs H Q => ∃ p ys, xs = [.ref p] ∧ (SqL K H p ys ∨ SqT K H p ys) ∧ ∀ l, H l = none → Q (.ref l) (upd H l (.lst ys))
theorem call_listA {X : Cx} : CallR X (.type "list") (rListOf X.K) := call_list_of
def gList (ws : List W) (M : Store) : R W := match ws with
  | [a] => (match svw M a with
    | some xs => .ok (.ptr M.length) (M ++ [.lst xs])
    | none => .stuck)
  | _ => .stuck
theorem g_list : SemC K (rListOf K) gList := fun B H M as ws xs Q E st rl h => by
  unfold gList at h
  split at h
  · rename_i a
    obtain ⟨v, rfl, ra⟩ := rl.one
    split at h
    · rename_i ys e
      obtain ⟨p, vs, rfl, sp, fv⟩ := svw_ok st ra e
      exact ⟨p, vs, rfl, sp, fun l hl => h.newL st fv hl⟩
    · exact h.elim
  · exact h.elim
def rTupOf (K : PySem.W.Frag) : List V → Hp → VK → Prop := fun xs H Q => ∃ p ys, xs = [.ref p] ∧ ((SqL K H p ys ∧ ∀ l, H l = none → Q (.ref l) (upd H l (.tup ys))) ∨ (SqT K H p ys ∧ Q (.ref p) H))
theorem call_tupA {X : Cx} : CallR X (.type "tuple") (rTupOf X.K) := call_tuple_of
def gTup (ws : List W) (M : Store) : R W := match ws with
  | [a] => (match tvw M a with
    | some ds => .ok (.val (.tup ds)) M
    | none => match (lvw M a).bind vals with
      | some ds => .ok (.val (.tup ds)) M
      | none => .stuck)
  | _ => .stuck
theorem g_tup : SemC K (rTupOf K) gTup := fun B H M as ws xs Q E st rl h => by
  unfold gTup at h
  split at h
  · rename_i a
    obtain ⟨v, rfl, ra⟩ := rl.one
    split at h
    · rename_i ds e
      obtain ⟨p, vs, rfl, sp, fv⟩ := tvw_ok st ra e
      exact ⟨p, vs, rfl, .inr ⟨sqT_mono st.ex sp, h.fz st (.tup sp fv)⟩⟩
    · split at h
      · rename_i ds e
        cases q : lvw M a with
        | none => rw [q] at e; cases e
        | some ys =>
          rw [q] at e
          obtain ⟨p, vs, rfl, sp, fv⟩ := lvw_ok st ra q
          exact ⟨p, vs, rfl, .inl ⟨sp, fun l hl => h.newT st (fv.fz e) hl⟩⟩
      · exact h.elim
  · exact h.elim
def rMin2 : List V → Hp → VK → Prop := fun xs H Q => ∃ i j, xs = [.int i, .int j] ∧ Q (.int (if j < i then j else i)) H
def rMax2 : List V → Hp → VK → Prop := fun xs H Q => ∃ i j, xs = [.int i, .int j] ∧ Q (.int (if j > i then j else i)) H
theorem call_min2A {X : Cx} (hc : X.calm = true) : CallR X (.builtin "min") rMin2 := call_min2 hc
theorem call_max2A {X : Cx} (hc : X.calm = true) : CallR X (.builtin "max") rMax2 := call_max2 hc
def gI2 (g : Int → Int → Int) (ws : List W) (M : Store) : R W := match ws with
  | [.val (.int i), .val (.int j)] => .ok (.val (.int (g i j))) M
  | _ => .stuck
theorem g_I2 {g : Int → Int → Int} : SemC K (fun xs H Q => ∃ i j, xs = [.int i, .int j] ∧ Q (.int (g i j)) H) (gI2 g) := fun B H M as ws xs Q E st rl h => by
  unfold gI2 at h
  split at h
  · rename_i i j
    obtain ⟨v, v', rfl, ra, rb⟩ := rl.two
    cases int_ok ra
    cases int_ok rb
    exact ⟨i, j, rfl, h.fz st (.int _)⟩
  · exact h.elim
def gMin2 := gI2 fun i j => if j < i then j else i
def gMax2 := gI2 fun i j => if j > i then j else i
theorem g_min2 : SemC K rMin2 gMin2 := g_I2
theorem g_max2 : SemC K rMax2 gMax2 := g_I2
/-! ### isinstance with one built-in class -/
theorem sqT_ty {p : Addr} {vs : List V} (h : SqT K H p vs) : TyX K H (.ref p) (.type "tuple") := by
  rcases h with (h | ⟨o, h⟩) | ⟨o, its, n, h1, h2, _⟩
  · exact .base (.tup h)
  · exact .fTuple h
  · exact .kTuple h1 h2
theorem sqL_ty {p : Addr} {vs : List V} (h : SqL K H p vs) : TyX K H (.ref p) (.type "list") := by
  rcases h with (h | ⟨o, h⟩) | ⟨o, its, n, h1, h2, _⟩
  · exact .base (.lst h)
  · exact .base (.frz h)
  · exact .kList h1 h2
def D.tyN : D → Option String
  | .non => some "NoneType"
  | .bl _ => some "bool"
  | .int _ => some "int"
  | .str _ => some "str"
  | .tup _ => some "tuple"
  | .lst _ => some "list"
  | .rls _ => some "list"
  | _ => none
def tyW (M : Store) (w : W) : Option String := match rd M w with
  | .val d => d.tyN
  | .ptr k => match M[k]? with
    | some (.lst _) => some "list"
    | some (.dic _) => some "dict"
    | some (.dit _) => some "dict"
    | _ => none
theorem tyW_ok {w : W} {v : V} {n : String} (st : StR K B H M as) (h : WR K B as w v) (e : tyW M w = some n) : TyX K H v (.type n) := by
  have h' := rd_ok st h
  unfold tyW at e
  generalize rd M w = w' at h' e
  cases h' with
  | val f =>
    cases f with
    | non => cases e; exact .base .non
    | bl b => cases e; exact .base (.bl b)
    | int b => cases e; exact .base (.int b)
    | str b => cases e; exact .base (.str b)
    | tup a t => cases e; exact sqT_ty (sqT_mono st.ex a)
    | lst a t => cases e; exact sqL_ty (SqL.of (st.ex _ _ a))
    | rls a t => cases e; exact sqL_ty (sqL_mono st.ex a)
    | _ => cases e
  | @ptr k p hk =>
    obtain ⟨c, e2, r⟩ := st.hp hk
    simp only [e2] at e
    cases c with
    | lst ws => cases e; obtain ⟨_, vs, e3, r⟩ := r; exact .base (.lst e3)
    | dic ws => cases e; obtain ⟨_, vs, e3, r⟩ := r; exact .base (.dK e3)
    | dit ws => cases e; obtain ⟨_, vs, e3, r⟩ := r; exact .base (.dT e3)
    | _ => cases e
def gIsi (ws : List W) (M : Store) : R W := match ws with
  | [a, .val (.ty n)] => (match (tyW M a).bind fun t => kitB t n with
    | some b => .ok (.val (.bl b)) M
    | none => .stuck)
  | _ => .stuck
theorem g_isi : SemC K (rIsi K) gIsi := fun B H M as ws xs Q E st rl h => by
  unfold gIsi at h
  split at h
  · rename_i a n
    obtain ⟨v, v', rfl, ra, rb⟩ := rl.two
    have ev : v' = .ty n := by cases val_ok rb; rfl
    subst ev
    split at h
    · rename_i b e
      cases q : tyW M a with
      | none => rw [q] at e; cases e
      | some t =>
        rw [q] at e
        exact ⟨v, .ty n, .type t, .type n, b, rfl, .ty n, tyW_ok st ra q, kit_ty e, h.fz st (.bl b)⟩
    · exact h.elim
  · exact h.elim
/-! ### displays -/
variable {Wx : WX} {ta tb tc te : TE} {fa fb fc : DE} {tr : TA} {fr : DA}
/-- lists become frozen, deep -/
def frzA (f : Store → Nat → Option Store) : List W → Store → Option Store
  | [], M => some M
  | .val _ :: ws, M => frzA f ws M
  | .ptr k :: ws, M => match f M k with
    | some M1 => frzA f ws M1
    | none => none
def frz1 : Nat → Store → Nat → Option Store
  | 0, _, _ => none
  | n + 1, M, k => match M[k]? with
    | some (.frz _) => some M
    | some (.lst ws) => (match frzA (frz1 n) ws M with
      | some M1 => (match M1[k]? with
        | some (.lst ws1) => (match vals (ws1.map (rd M1)) with
          | some ds => some (M1.set k (.frz (.lst ds)))
          | none => none)
        | _ => none)
      | none => none)
    | _ => none
def Frzs (f : Store → Nat → Option Store) : Prop := ∀ (K : PySem.W.Frag) (B H : Hp) (as : List Addr) (M M' : Store) (k : Nat), StR K B H M as → f M k = some M' → ∃ B', Same B B' ∧ StR K B' H M' as
theorem frzA_ok {f : Store → Nat → Option Store} (hf : Frzs f) {K : PySem.W.Frag} {H : Hp} {as : List Addr} : ∀ (ws : List W) (B : Hp) (M M' : Store), StR K B H M as → frzA f ws M = some M' → ∃ B', Same B B' ∧ StR K B' H M' as
  | [], B, M, M', st, h => by cases h; exact ⟨B, Same.refl B, st⟩
  | .val _ :: ws, B, M, M', st, h => frzA_ok hf ws B M M' st h
  | .ptr k :: ws, B, M, M', st, h => by
    unfold frzA at h
    cases q : f M k with
    | none => rw [q] at h; cases h
    | some M1 =>
      rw [q] at h
      obtain ⟨B1, sb, st1⟩ := hf K B H as M M1 k st q
      obtain ⟨B2, sb2, st2⟩ := frzA_ok hf ws B1 M1 M' st1 h
      exact ⟨B2, sb.trans sb2, st2⟩
theorem WL.rd {K : PySem.W.Frag} {B H : Hp} {as : List Addr} {M : Store} (st : StR K B H M as) : ∀ {ws : List W} {vs : List V}, WL K B as ws vs → WL K B as (ws.map (Dn.rd M)) vs
  | _, _, .nil => .nil
  | _, _, .cons a t => .cons (rd_ok st a) (WL.rd st t)
theorem frz1_ok : ∀ n, Frzs (frz1 n)
  | 0, K, B, H, as, M, M', k, st, h => by cases h
  | n + 1, K, B, H, as, M, M', k, st, h => by
    unfold frz1 at h
    split at h
    · cases h; exact ⟨B, Same.refl B, st⟩
    · rename_i ws ek
      split at h
      · rename_i M1 e1
        obtain ⟨B1, sb, st1⟩ := frzA_ok (frz1_ok n) ws B M M1 st e1
        split at h
        · rename_i ws1 e2
          split at h
          · rename_i ds e3
            cases h
            have hk : k < as.length := by rw [st1.len]; exact (List.getElem?_eq_some_iff.mp e2).1
            obtain ⟨n0, vs, e, r⟩ := st1.lstAt (List.getElem?_eq_getElem hk) e2
            obtain ⟨B', sb', st', _⟩ := st1.freezeR (List.getElem?_eq_getElem hk) e2 (fun vs r => (WL.rd st1 r).fz e3)
            exact ⟨B', sb.trans sb', st'⟩
          · cases h
        · cases h
      · cases h
    · cases h
def gMkT (ws : List W) (M : Store) : R W := match frzA (frz1 4) ws M with
  | some M1 => (match vals (ws.map (rd M1)) with
    | some ds => if ds.length ≤ sizeLine then .ok (.val (.tup ds)) M1 else .stuck
    | none => .stuck)
  | none => .stuck
def gMkL (ws : List W) (M : Store) : R W := if ws.length ≤ sizeLine then .ok (.ptr M.length) (M ++ [.lst ws]) else .stuck
theorem vals_len : ∀ {ws : List W} {ds : List D}, vals ws = some ds → ds.length = ws.length
  | [], ds, h => by cases h; rfl
  | .val d :: ws, ds, h => by
    cases q : vals ws with
    | none => simp [vals, q] at h
    | some l =>
      simp [vals, q] at h
      subst h
      exact congrArg Nat.succ (vals_len q)
  | .ptr _ :: _, _, h => by simp [vals] at h
theorem s_mkT (ha : SemA K Wx tr fr) : SemE K Wx (tTup tr) (dCall gMkT fr) := fun B H M as e σ Q st en h =>
  ha B H M as e σ _ st en (Post.bind h fun ws M1 B1 H1 as1 xs _ sb pre st1 rl h1 => by
    unfold gMkT at h1
    split at h1
    · rename_i M2 e2
      obtain ⟨B2, sb2, st2⟩ := frzA_ok (frz1_ok 4) ws B1 M1 M2 st1 e2
      split at h1
      · rename_i ds ed
        split at h1
        · rename_i hl
          have rl2 := WL.rd st2 (rl.mono sb2 (pre_refl as1))
          exact ⟨by rw [rl.length, ← List.length_map (as := ws) (Dn.rd M2), ← vals_len ed]; exact hl, fun p hp => (Post.mono sb2 (pre_refl as1) h1).newT st2 (rl2.fz ed) hp⟩
        · exact h1.elim
      · exact h1.elim
    · exact h1.elim)
theorem s_mkL (ha : SemA K Wx tr fr) : SemE K Wx (tLst tr) (dCall gMkL fr) := fun B H M as e σ Q st en h =>
  ha B H M as e σ _ st en (Post.bind h fun ws M1 B1 H1 as1 xs _ sb pre st1 rl h1 => by
    unfold gMkL at h1
    split at h1
    · rename_i hl
      exact ⟨by rw [rl.length]; exact hl, fun p hp => h1.newL st1 rl hp⟩
    · exact h1.elim)
/-! ### methods -/
/-- of which built-in type -/
def tyB (M : Store) (T : String) (w : W) : Bool := match rd M w with
  | .val (.str _) => T == "str"
  | .val (.int _) => T == "int"
  | .val (.lst _) => T == "list"
  | .val (.rls _) => T == "list"
  | .ptr k => (match M[k]? with
    | some (.lst _) => T == "list"
    | some (.dic _) => T == "dict"
    | some (.dit _) => T == "dict"
    | _ => false)
  | _ => false
theorem tyB_ok {T : String} {w : W} {v : V} (st : StR K B H M as) (h : WR K B as w v) (e : tyB M T w = true) : tyV K T v H := by
  have h' := rd_ok st h
  unfold tyB at e
  generalize rd M w = w' at h' e
  cases h' with
  | val f =>
    cases f with
    | str b => exact eq_of_beq e
    | int b => exact eq_of_beq e
    | lst a t => exact .inl ⟨eq_of_beq e, _, SqL.of (st.ex _ _ a)⟩
    | rls a t => exact .inl ⟨eq_of_beq e, _, sqL_mono st.ex a⟩
    | _ => cases e
  | @ptr k p hk =>
    obtain ⟨c, e2, r⟩ := st.hp hk
    simp only [e2] at e
    cases c with
    | lst ws => obtain ⟨_, vs, e3, r⟩ := r; exact .inl ⟨eq_of_beq e, _, SqL.of e3⟩
    | dic ws => obtain ⟨_, vs, e3, r⟩ := r; exact .inr (.inr (.inl ⟨eq_of_beq e, .inl ⟨_, e3⟩⟩))
    | dit ws => obtain ⟨_, vs, e3, r⟩ := r; exact .inr (.inr (.inl ⟨eq_of_beq e, .inr ⟨_, e3⟩⟩))
    | _ => cases e
def dMeth (T : String) (g : W → List W → Store → R W) (fa : DE) (fr : DA) : DE := fun e M => (fa e M).bind fun a M1 => if tyB M1 T a = true then (fr e M1).bind fun ws M2 => g a ws M2 else .stuck
theorem s_meth {T : String} {r : V → List V → Hp → VK → Prop} {g : W → List W → Store → R W} (hr : SemM K r g) (ha : SemE K Wx ta fa) (hb : SemA K Wx tr fr) : SemE K Wx (tBM K T r ta tr) (dMeth T g fa fr) := fun B H M as e σ Q st en h =>
  ha B H M as e σ _ st en (Post.bind h fun a M1 B1 H1 as1 x _ sb pre st1 rl h1 => by
    split at h1
    · rename_i ht
      refine ⟨tyB_ok st1 rl ht, ?_⟩
      exact hb B1 H1 M1 as1 e σ _ st1 (en.mono sb pre) (Post.bind h1 fun ws M2 B2 H2 as2 xs _ sb2 pre2 st2 rl2 h2 => hr B2 H2 M2 as2 a x ws xs Q _ st2 (rl.mono sb2 pre2) rl2 h2)
    · exact h1.elim)
def dMeth0 (T : String) (g : W → List W → Store → R W) (fa : DE) : DE := fun e M => (fa e M).bind fun a M1 => if tyB M1 T a = true then g a [] M1 else .stuck
theorem s_meth0 {T : String} {r : V → List V → Hp → VK → Prop} {g : W → List W → Store → R W} (hr : SemM K r g) (ha : SemE K Wx ta fa) : SemE K Wx (tBM0 K T r ta) (dMeth0 T g fa) := fun B H M as e σ Q st en h =>
  ha B H M as e σ _ st en (Post.bind h fun a M1 B1 H1 as1 x _ sb pre st1 rl h1 => by
    split at h1
    · rename_i ht
      exact ⟨tyB_ok st1 rl ht, hr B1 H1 M1 as1 a x [] [] Q _ st1 rl .nil h1⟩
    · exact h1.elim)
/-- a live list cell -/
theorem live_ok {k : Nat} {v : V} {xs : List W} (st : StR K B H M as) (h : WR K B as (.ptr k) v) (e : M[k]? = some (.lst xs)) : ∃ p vs, v = .ref p ∧ as[k]? = some p ∧ H p = some (.lst vs) ∧ WL K B as xs vs := by
  cases h with
  | ptr hk =>
    obtain ⟨_, vs, e1, r⟩ := st.lstAt hk e
    exact ⟨_, vs, rfl, hk, e1, r⟩
def gAppend (a : W) (ws : List W) (M : Store) : R W := match a, ws with
  | .ptr k, [w] => (match M[k]? with
    | some (.lst xs) => if xs.length < sizeLine then .ok (.val .non) (M.set k (.lst (xs ++ [w]))) else .stuck
    | _ => .stuck)
  | _, _ => .stuck
theorem g_append : SemM K rAppend gAppend := fun B H M as a x ws xs Q E st ra rl h => by
  unfold gAppend at h
  split at h
  · rename_i k w
    obtain ⟨v, rfl, rw'⟩ := rl.one
    split at h
    · rename_i ys e
      obtain ⟨p, vs, rfl, hk, hp, r⟩ := live_ok st ra e
      split at h
      · rename_i hl
        refine ⟨p, vs, v, rfl, rfl, hp, by rw [r.length]; exact hl, ?_⟩
        exact h B _ as .non (Same.refl B) (pre_refl as) (st.putL hk e (r.append (.cons rw' .nil))) (.val .non)
      · exact h.elim
    · exact h.elim
  · exact h.elim
theorem WL.dropLast : ∀ {ws : List W} {vs : List V}, WL K B as ws vs → WL K B as ws.dropLast vs.dropLast
  | _, _, .nil => .nil
  | _, _, .cons _ .nil => .nil
  | _, _, .cons a (.cons b t) => .cons a (WL.dropLast (.cons b t))
def gPop (a : W) (ws : List W) (M : Store) : R W := match a, ws with
  | .ptr k, [] => (match M[k]? with
    | some (.lst xs) => (match xs[xs.length - 1]? with
      | some w => .ok w (M.set k (.lst xs.dropLast))
      | none => .stuck)
    | _ => .stuck)
  | _, _ => .stuck
theorem g_pop : SemM K rPop gPop := fun B H M as a x ws xs Q E st ra rl h => by
  unfold gPop at h
  split at h
  · rename_i k
    cases rl
    split at h
    · rename_i ys e
      obtain ⟨p, vs, rfl, hk, hp, r⟩ := live_ok st ra e
      split at h
      · rename_i w ew
        obtain ⟨v, ev, rv⟩ := r.get ew
        refine ⟨p, vs, v, rfl, rfl, hp, by rw [r.length]; exact ev, ?_⟩
        exact h B _ as v (Same.refl B) (pre_refl as) (st.putL hk e r.dropLast) rv
      · exact h.elim
    · exact h.elim
  · exact h.elim
/-- texts -/
def rSplit : V → List V → Hp → VK → Prop := fun x xs H Q => ∃ a b, x = .str a ∧ xs = [.str b] ∧ (b.length == 0) = false ∧ a.length + 2 ≤ sizeLine ∧ rNewStrs (Txt.split a b) H Q
theorem mt_splitA {X : Cx} : MtR X "str.split" rSplit := mt_split
def gSplit (a : W) (ws : List W) (M : Store) : R W := match a, ws with
  | .val (.str x), [.val (.str b)] => if (b.length == 0) = false ∧ x.length + 2 ≤ sizeLine then .ok (.ptr M.length) (M ++ [.lst ((Txt.split x b).map fun z => .val (.str z))]) else .stuck
  | _, _ => .stuck
theorem strs_wl (zs : List Str) : WL K B as (zs.map fun z => .val (.str z)) (zs.map V.str) := by
  induction zs with
  | nil => exact .nil
  | cons z zs ih => exact .cons (.val (.str z)) ih
theorem g_split : SemM K rSplit gSplit := fun B H M as a x ws xs Q E st ra rl h => by
  unfold gSplit at h
  split at h
  · rename_i z b
    obtain ⟨v, rfl, rw'⟩ := rl.one
    cases str_ok ra
    cases str_ok rw'
    split at h
    · rename_i hc
      exact ⟨z, b, rfl, rfl, hc.1, hc.2, fun p hp => h.newL st (strs_wl _) hp⟩
    · exact h.elim
  · exact h.elim
def rJoin (K : PySem.W.Frag) : V → List V → Hp → VK → Prop := fun x xs H Q => ∃ a p, ∃ ys : List Str, x = .str a ∧ xs = [.ref p] ∧ (SqL K H p (ys.map V.str) ∨ SqT K H p (ys.map V.str)) ∧
    (ys.map (·.length)).sum + ys.length * a.length ≤ 16777216 ∧ Q (.str (Txt.join a ys)) H
theorem mt_joinA {X : Cx} : MtR X "str.join" (rJoin X.K) := mt_join
def gJoin (a : W) (ws : List W) (M : Store) : R W := match a, ws with
  | .val (.str x), [b] => (match (svw M b).bind strsOf with
    | some ys => if (ys.map (·.length)).sum + ys.length * x.length ≤ 16777216 then .ok (.val (.str (Txt.join x ys))) M else .stuck
    | none => .stuck)
  | _, _ => .stuck
theorem g_join : SemM K (rJoin K) gJoin := fun B H M as a x ws xs Q E st ra rl h => by
  unfold gJoin at h
  split at h
  · rename_i z b
    obtain ⟨v, rfl, rw'⟩ := rl.one
    cases str_ok ra
    split at h
    · rename_i ys e
      cases q : svw M b with
      | none => rw [q] at e; cases e
      | some us =>
        rw [q] at e
        obtain ⟨p, vs, rfl, sp, fv⟩ := svw_ok st rw' q
        cases strs_ok fv e
        split at h
        · rename_i hc
          exact ⟨z, p, ys, rfl, rfl, sp, hc, h.fz st (.str _)⟩
        · exact h.elim
    · exact h.elim
  · exact h.elim
def rUpper : V → List V → Hp → VK → Prop := fun x xs H Q => ∃ a, x = .str a ∧ xs = [] ∧ a.length ≤ 5592405 ∧ Q (.str (Txt.upper a)) H
theorem mt_upperA {X : Cx} : MtR X "str.upper" rUpper := mt_upper
def gUpper (a : W) (ws : List W) (M : Store) : R W := match a, ws with
  | .val (.str x), [] => if x.length ≤ 5592405 then .ok (.val (.str (Txt.upper x))) M else .stuck
  | _, _ => .stuck
theorem g_upper : SemM K rUpper gUpper := fun B H M as a x ws xs Q E st ra rl h => by
  unfold gUpper at h
  split at h
  · rename_i z
    cases rl
    cases str_ok ra
    split at h
    · rename_i hc
      exact ⟨z, rfl, rfl, hc, h.fz st (.str _)⟩
    · exact h.elim
  · exact h.elim
/-! ### calls of defs -/
/-- a def's promise, by what it yields on data -/
def SpD (K : PySem.W.Frag) (n : Nat) (m : List W → Store → R W) : Sp := fun vs H Q E => vs.length = n ∧ ∃ (B : Hp) (M : Store) (as : List Addr) (ws : List W), StR K B H M as ∧ WL K B as ws vs ∧ Post K (relW K) B as (m ws M) Q E
theorem s_call {n : Nat} {m : List W → Store → R W} (ha : SemA K Wx tr fr) (hn : ∀ e M ws M', fr e M = .ok ws M' → ws.length = n) : SemE K Wx (tCallS (SpD K n m) (WE Wx) tr) (dCall m fr) := fun B H M as e σ Q st en h =>
  ha B H M as e σ _ st en (Post.bind h fun ws M1 B1 H1 as1 xs eq sb pre st1 rl h1 => ⟨by rw [rl.length]; exact hn _ _ _ _ eq, B1, M1, as1, ws, st1, rl, h1⟩)
theorem len_nil {e : Env} {M M' : Store} {ws : List W} (h : dNil e M = .ok ws M') : ws.length = 0 := by cases h; rfl
theorem len_cons {e : Env} {M M' : Store} {ws : List W} {n : Nat} (hr : ∀ e M ws M', fr e M = .ok ws M' → ws.length = n) (h : dCons fa fr e M = .ok ws M') : ws.length = n + 1 := by
  unfold dCons at h
  cases q : fa e M with
  | ok a M1 =>
    rw [q] at h
    have h' : (fr e M1).bind (fun ws M2 => R.ok (a :: ws) M2) = .ok ws M' := h
    cases q2 : fr e M1 with
    | ok bs M2 =>
      rw [q2] at h'
      cases h'
      exact congrArg Nat.succ (hr _ _ _ _ q2)
    | exc _ _ _ => rw [q2] at h'; cases h'
    | stuck => rw [q2] at h'; cases h'
  | exc _ _ _ => rw [q] at h; cases h
  | stuck => rw [q] at h; cases h
end
end Dn
end

section
set_option Elab.async false
set_option linter.all false
set_option maxRecDepth 100000
set_option maxHeartbeats 2000000
/-! Dn6: statements, loops, comprehensions, the body of a def. -/
namespace Dn
open PySem PySem.Spec PyProof.Rows L2
noncomputable section
open Classical in
/-- the rest of a call's store is dropped -/
def settle (M : Store) (r : R W) : R W := match r with
  | .ok (.val d) M' => if Closed M M' then .ok (.val d) (M'.take M.length) else .ok (.val d) M'
  | .ok (.ptr k) M' => if Closed M M' then (if k < M.length then .ok (.ptr k) (M'.take M.length) else match M'[k]? with
      | some c => if c.low M.length = true then .ok (.ptr M.length) (M'.take M.length ++ [c]) else .ok (.ptr k) M'
      | none => .stuck) else .ok (.ptr k) M'
  | .exc c fs M' => if Closed M M' then .exc c fs (M'.take M.length) else .exc c fs M'
  | .stuck => .stuck
end
section
variable {K : PySem.W.Frag} {B B' H H' : Hp} {as as' : List Addr} {M M' : Store}
theorem take_as (st : StR K B H M as) (a : as <+: as') : as'.take M.length = as := take_pre a st.len.symm
theorem WR.up {w : W} {v : V} {n : Nat} (h : WR K B (as.take n) w v) : WR K B as w v := h.mono (Same.refl B) (List.take_prefix n as)
theorem Post.settle {r : R W} {Q : VK} {E : XK} (st : StR K B H M as) (h : Post K (relW K) B as (settle M r) Q E) : Post K (relW K) B as r Q E := by
  cases r with
  | stuck => exact h
  | exc c fs M' =>
    intro B' H' as' cls d sb pre st' ex
    unfold Dn.settle at h
    simp only at h
    split at h
    · rename_i cl
      exact h B' H' as cls d sb (pre_refl as) (st.drop st' pre cl) ex
    · exact h B' H' as' cls d sb pre st' ex
  | ok w M' =>
    intro B' H' as' x sb pre st' rl
    cases w with
    | val d =>
      unfold Dn.settle at h
      simp only at h
      split at h
      · rename_i cl
        exact h B' H' as x sb (pre_refl as) (st.drop st' pre cl) (.val (val_ok rl))
      · exact h B' H' as' x sb pre st' rl
    | ptr k =>
      unfold Dn.settle at h
      simp only at h
      split at h
      · rename_i cl
        split at h
        · rename_i hk
          refine h B' H' as x sb (pre_refl as) (st.drop st' pre cl) ?_
          have r2 := WR.down (w := .ptr k) M.length (show decide (k < M.length) = true from decide_eq_true hk) rl
          rw [take_as st pre] at r2
          exact r2
        · rename_i hk
          cases rl with
          | @ptr _ p hp =>
            obtain ⟨c, ec, rc⟩ := st'.hp hp
            rw [ec] at h
            simp only at h
            split at h
            · rename_i hl
              have st2 := st.drop st' pre cl
              have nin : p ∉ as := fun hm => by
                obtain ⟨j, hj, ej⟩ := List.getElem_of_mem hm
                have hj' : as'[j]? = some p := pre_get pre (by rw [List.getElem?_eq_getElem hj, ej])
                have := nd_ix st'.nd hj' hp
                have : j < M.length := by rw [← st.len]; exact hj
                omega
              have rc2 := rc.down M.length hl
              rw [take_as st pre] at rc2
              have len2 : (M'.take M.length).length = M.length := by rw [← st2.len, st.len]
              refine h B' H' (as ++ [p]) (.ref p) sb ⟨[p], rfl⟩ ⟨st2.ex, by rw [List.length_append, List.length_append, st2.len]; rfl, ?_, fun j q c' h1 h2 => ?_⟩ (.ptr (by rw [← st.len, List.getElem?_append_right (Nat.le_refl _)]; simp))
              · refine List.nodup_append.mpr ⟨st2.nd, by simp, fun a ha b hb e => ?_⟩
                have : b = p := by simpa using hb
                subst this; subst e
                exact nin ha
              · rcases get_snoc h1 with h1 | ⟨e1, e2⟩
                · have hj : j < (M'.take M.length).length := by rw [← st2.len]; exact (List.getElem?_eq_some_iff.mp h1).1
                  rw [List.getElem?_append_left hj] at h2
                  exact (st2.cells j q c' h1 h2).to (fun o e => e) (fun dx e => e) (Same.refl B') id ⟨[p], rfl⟩
                · subst e1; subst e2
                  rw [st2.len, List.getElem?_append_right (Nat.le_refl _)] at h2
                  have : c = c' := by simpa using h2
                  subst this
                  exact rc2.to (fun o e => e) (fun dx e => e) (Same.refl B') id ⟨[p], rfl⟩
            · exact h B' H' as' (.ref p) sb pre st' (.ptr hp)
      · exact h B' H' as' x sb pre st' rl
noncomputable def dTmp (f : DE) : DE := fun e M => settle M (f e M)
theorem s_tmp {Wx : WX} {t : TE} {f : DE} (h : SemE K Wx t f) : SemE K Wx t (dTmp f) := fun B H M as e σ Q st en p => h B H M as e σ Q st en (p.settle st)
end
/-! ### statements -/
def SPost (K : PySem.W.Frag) (B : Hp) (as : List Addr) (r : SR) (D : Ends) (W : WX) : Prop := match r with
  | .nx e' M' => ∀ B' H' as' σ', Same B B' → as <+: as' → StR K B' H' M' as' → EnvR K B' as' e' σ' → D.nx σ' H'
  | .bk e' M' => ∀ B' H' as' σ', Same B B' → as <+: as' → StR K B' H' M' as' → EnvR K B' as' e' σ' → D.bk σ' H'
  | .ct e' M' => ∀ B' H' as' σ', Same B B' → as <+: as' → StR K B' H' M' as' → EnvR K B' as' e' σ' → D.ct σ' H'
  | .rt w M' => ∀ B' H' as' v, Same B B' → as <+: as' → StR K B' H' M' as' → WR K B' as' w v → D.rt v H'
  | .exc c fs e' M' => ∀ B' H' as' σ' cls d, Same B B' → as <+: as' → StR K B' H' M' as' → EnvR K B' as' e' σ' → ExR K B' H' c fs cls d → W cls d σ' H'
  | .stuck => False
def SemS (K : PySem.W.Frag) (Wx : WX) (t : TS) (f : DS) : Prop :=
  ∀ (B H : Hp) (M : Store) (as : List Addr) (e : Env) (σ : L2.St) (D : Ends), StR K B H M as → EnvR K B as e σ → SPost K B as (f e M) D Wx → t D σ H
def R.st {α : Type} (r : R α) (e : Env) (k : α → Store → SR) : SR := match r with
  | .ok a M => k a M
  | .exc c fs M => .exc c fs e M
  | .stuck => .stuck
theorem R.st_ok {α : Type} {a : α} {M : Store} {e : Env} {k : α → Store → SR} : R.st (.ok a M) e k = k a M := rfl
theorem R.st_exc {α : Type} {c fs M} {e : Env} {k : α → Store → SR} : R.st (.exc c fs M) e k = .exc c fs e M := rfl
theorem R.st_stuck {α : Type} {e : Env} {k : α → Store → SR} : R.st .stuck e k = .stuck := rfl
section
variable {K : PySem.W.Frag} {B B' B1 H H' : Hp} {as as' as1 : List Addr} {M M' : Store} {Wx : WX} {D : Ends} {e : Env} {σ : L2.St}
theorem SPost.mono {r : SR} (sb : Same B B1) (pre : as <+: as1) (h : SPost K B as r D Wx) : SPost K B1 as1 r D Wx := by
  cases r with
  | nx e' M' => exact fun B' H' as' σ' a b => h B' H' as' σ' (sb.trans a) (pre.trans b)
  | bk e' M' => exact fun B' H' as' σ' a b => h B' H' as' σ' (sb.trans a) (pre.trans b)
  | ct e' M' => exact fun B' H' as' σ' a b => h B' H' as' σ' (sb.trans a) (pre.trans b)
  | rt w M' => exact fun B' H' as' v a b => h B' H' as' v (sb.trans a) (pre.trans b)
  | exc c fs e' M' => exact fun B' H' as' σ' cls d a b => h B' H' as' σ' cls d (sb.trans a) (pre.trans b)
  | stuck => exact h
theorem SPost.bind {α β : Type} {rel : Hp → List Addr → α → β → Prop} {r : R α} {k : α → Store → SR} {Q : β → Hp → Prop} (en : EnvR K B as e σ) (h : SPost K B as (r.st e k) D Wx)
    (g : ∀ a M' B' H' as' x, r = .ok a M' → Same B B' → as <+: as' → StR K B' H' M' as' → rel B' as' a x → SPost K B' as' (k a M') D Wx → Q x H') : Post K rel B as r Q (fun c d H' => Wx c d σ H') := by
  cases r with
  | ok a M' => exact fun B' H' as' x sb pre st rl => g a M' B' H' as' x rfl sb pre st rl (SPost.mono sb pre h)
  | exc c fs M' => exact fun B' H' as' cls d sb pre st ex => h B' H' as' σ cls d sb pre st (en.mono sb pre) ex
  | stuck => exact h
variable {ta tb te : TE} {fa fb fe : DE} {tt : TT} {ft : DT} {t u : TS} {f g : DS}
/-- targets -/
def Only (ls : List Nat) (σ σ' : L2.St) : Prop := ∀ vs : List Nat, (∀ j ∈ ls, j ∈ vs) → wipe σ' vs = wipe σ vs
abbrev DG := W → Env → Store → Option Env
def SemG1 (K : PySem.W.Frag) (tg : TG) (ls : List Nat) (dg : DG) : Prop :=
  ∀ (B H : Hp) (M : Store) (as : List Addr) (w : W) (v : V) (e e' : Env) (σ : L2.St) (Q : L2.St → Hp → Prop), StR K B H M as → EnvR K B as e σ → WR K B as w v → dg w e M = some e' → (∀ σ', EnvR K B as e' σ' → Only ls σ σ' → Q σ' H) → tg v σ H Q
theorem wipe_set {σ : L2.St} {i : Nat} {o : Option V} : ∀ {vs : List Nat}, i ∈ vs → wipe (σ.set i o) vs = wipe σ vs
  | v :: vs, h => by
    unfold wipe
    by_cases hv : i ∈ vs
    · rw [wipe_set hv]
    · have : i = v := by
        rcases List.mem_cons.mp h with e | e
        · exact e
        · exact absurd e hv
      subst this
      have comm : ∀ {vs : List Nat}, i ∉ vs → wipe (σ.set i o) vs = (wipe σ vs).set i o := fun {vs} => by
        induction vs with
        | nil => intro _; rfl
        | cons a t ih =>
          intro hn
          have h1 : a ≠ i := fun z => hn (by rw [z]; exact List.mem_cons_self)
          have h2 : i ∉ t := fun z => hn (List.mem_cons_of_mem _ z)
          unfold wipe
          rw [ih h2, List.set_comm _ _ h1]
      rw [comm hv, List.set_set]
def gnm (i : Nat) : DG := fun w e _ => some (e.set i (some w))
theorem s_gnm {i : Nat} : SemG1 K (gName i) [i] (gnm i) := fun B H M as w v e e' σ Q st en rl h q => by
  cases h
  exact q _ (en.set i rl) fun vs hv => wipe_set (hv i (by simp))
abbrev DGs := List W → Env → Store → Option Env
def SemGs (K : PySem.W.Frag) (tg : TGs) (ls : List Nat) (dg : DGs) : Prop :=
  ∀ (B H : Hp) (M : Store) (as : List Addr) (ws : List W) (vs : List V) (e e' : Env) (σ : L2.St) (Q : L2.St → Hp → Prop), StR K B H M as → EnvR K B as e σ → WL K B as ws vs → dg ws e M = some e' → (∀ σ', EnvR K B as e' σ' → Only ls σ σ' → Q σ' H) → tg vs σ H Q
def gnil : DGs := fun ws e _ => match ws with
  | [] => some e
  | _ => none
def gcons (g : DG) (gs : DGs) : DGs := fun ws e M => match ws with
  | w :: ws => (g w e M).bind fun e1 => gs ws e1 M
  | [] => none
theorem s_gnil : SemGs K gNil [] gnil := fun B H M as ws vs e e' σ Q st en rl h q => by
  unfold gnil at h
  split at h
  · cases h
    cases rl
    exact ⟨rfl, q _ en fun _ _ => rfl⟩
  · cases h
theorem s_gcons {tg : TG} {ts : TGs} {l1 l2 : List Nat} {g : DG} {gs : DGs} (h1 : SemG1 K tg l1 g) (h2 : SemGs K ts l2 gs) : SemGs K (gCons tg ts) (l1 ++ l2) (gcons g gs) := fun B H M as ws vs e e' σ Q st en rl h q => by
  unfold gcons at h
  split at h
  · rename_i w ws'
    cases rl with
    | cons a t =>
      cases e1 : g w e M with
      | none => rw [e1] at h; cases h
      | some en1 =>
        rw [e1] at h
        refine ⟨_, _, rfl, h1 B H M as w _ e en1 σ _ st en a e1 fun σ1 en' o1 => ?_⟩
        exact h2 B H M as ws' _ en1 e' σ1 Q st en' t h fun σ2 en2 o2 => q σ2 en2 fun vs hv => (o2 vs fun j hj => hv j (by simp [hj])).trans (o1 vs fun j hj => hv j (by simp [hj]))
  · cases h
def gtup (n : Nat) (gs : DGs) : DG := fun w e M => match tvw M w with
  | some ds => if ds.length = n then gs (ds.map .val) e M else none
  | none => none
theorem s_gtup {n : Nat} {ts : TGs} {ls : List Nat} {gs : DGs} (h : SemGs K ts ls gs) : SemG1 K (L2.gTup K n ts) ls (gtup n gs) := fun B H M as w v e e' σ Q st en rl hh q => by
  unfold gtup at hh
  split at hh
  · rename_i ds ed
    obtain ⟨p, vs, rfl, sp, fv⟩ := tvw_ok st rl ed
    split at hh
    · rename_i hn
      exact ⟨p, vs, rfl, sqT_mono st.ex sp, by rw [fv.length]; exact hn, h B H M as _ vs e e' σ Q st en (FzL.wl fv) hh q⟩
    · cases hh
  · cases hh
def dAsg (fe : DE) (dg : DG) : DS := fun e M => (fe e M).st e fun w M1 => match dg w e M1 with
  | some e' => .nx e' M1
  | none => .stuck
theorem s_asg {tg : TG} {ls : List Nat} {dg : DG} (he : SemE K Wx te fe) (hg : SemG1 K tg ls dg) : SemS K Wx (tAsg te tg) (dAsg fe dg) := fun B H M as e σ D st en h =>
  he B H M as e σ _ st en (SPost.bind en h fun w M1 B1 H1 as1 x _ sb pre st1 rl h1 => by
    cases q : dg w e M1 with
    | none => rw [q] at h1; exact h1.elim
    | some e' =>
      rw [q] at h1
      exact hg B1 H1 M1 as1 w x e e' σ _ st1 (en.mono sb pre) rl q fun σ' en' _ => h1 B1 H1 as1 σ' (Same.refl B1) (pre_refl as1) st1 en')
/-- the plain one -/
def dSet (i : Nat) (fe : DE) : DS := fun e M => (fe e M).st e fun w M1 => .nx (e.set i (some w)) M1
theorem s_set {i : Nat} (he : SemE K Wx te fe) : SemS K Wx (tAsg te (gName i)) (dSet i fe) := fun B H M as e σ D st en h =>
  he B H M as e σ _ st en (SPost.bind en h fun w M1 B1 H1 as1 x _ sb pre st1 rl h1 => h1 B1 H1 as1 _ (Same.refl B1) (pre_refl as1) st1 ((en.mono sb pre).set i rl))
def SR.seq (r : SR) (k : Env → Store → SR) : SR := match r with
  | .nx e M => k e M
  | .rt w M => .rt w M
  | .bk e M => .bk e M
  | .ct e M => .ct e M
  | .exc c fs e M => .exc c fs e M
  | .stuck => .stuck
theorem SR.seq_nx {e : Env} {M : Store} {k : Env → Store → SR} : SR.seq (.nx e M) k = k e M := rfl
theorem SR.seq_rt {w : W} {M : Store} {k : Env → Store → SR} : SR.seq (.rt w M) k = .rt w M := rfl
theorem SR.seq_exc {c fs} {e : Env} {M : Store} {k : Env → Store → SR} : SR.seq (.exc c fs e M) k = .exc c fs e M := rfl
theorem SR.seq_bk {e : Env} {M : Store} {k : Env → Store → SR} : SR.seq (.bk e M) k = .bk e M := rfl
theorem SR.seq_ct {e : Env} {M : Store} {k : Env → Store → SR} : SR.seq (.ct e M) k = .ct e M := rfl
theorem SR.seq_stuck {k : Env → Store → SR} : SR.seq .stuck k = .stuck := rfl
def dSeq (f g : DS) : DS := fun e M => (f e M).seq g
theorem s_seq (hf : SemS K Wx t f) (hg : SemS K Wx u g) : SemS K Wx (tSeq t u) (dSeq f g) := fun B H M as e σ D st en h => by
  refine hf B H M as e σ { D with nx := u D } st en ?_
  have h' : SPost K B as ((f e M).seq g) D Wx := h
  generalize f e M = r at h' ⊢
  cases r with
  | nx e' M' => exact fun B' H' as' σ' sb pre st' en' => hg B' H' M' as' e' σ' D st' en' (SPost.mono sb pre h')
  | rt w M' => exact h'
  | bk e' M' => exact h'
  | ct e' M' => exact h'
  | exc c fs e' M' => exact h'
  | stuck => exact h'
def dNext : DS := fun e M => .nx e M
theorem s_next : SemS K Wx tNext dNext := fun B H M as e σ D st en h => h B H as σ (Same.refl B) (pre_refl as) st en
def dBrk : DS := fun e M => .bk e M
def dCnt : DS := fun e M => .ct e M
theorem s_brk : SemS K Wx tBreak dBrk := fun B H M as e σ D st en h => h B H as σ (Same.refl B) (pre_refl as) st en
theorem s_cnt : SemS K Wx tCont dCnt := fun B H M as e σ D st en h => h B H as σ (Same.refl B) (pre_refl as) st en
def dIf (ft : DT) (f g : DS) : DS := fun e M => (ft e M).st e fun b M1 => if b = true then f e M1 else g e M1
theorem s_if (ht : SemT K Wx tt ft) (hf : SemS K Wx t f) (hg : SemS K Wx u g) : SemS K Wx (tIfS tt t u) (dIf ft f g) := fun B H M as e σ D st en h =>
  ht B H M as e σ _ st en (SPost.bind en h fun w M1 B1 H1 as1 x _ sb pre st1 rl h1 => by
    have rl' : w = x := rl
    subst rl'
    cases w with
    | true => exact hf B1 H1 M1 as1 e σ D st1 (en.mono sb pre) h1
    | false => exact hg B1 H1 M1 as1 e σ D st1 (en.mono sb pre) h1)
def dRet (fe : DE) : DS := fun e M => (fe e M).st e fun w M1 => .rt w M1
theorem s_ret (he : SemE K Wx te fe) : SemS K Wx (tRet te) (dRet fe) := fun B H M as e σ D st en h =>
  he B H M as e σ _ st en (SPost.bind en h fun w M1 B1 H1 as1 x _ sb pre st1 rl h1 => h1 B1 H1 as1 x (Same.refl B1) (pre_refl as1) st1 rl)
def dRetN : DS := fun e M => .rt (.val .non) M
theorem s_retN : SemS K Wx tRetN dRetN := fun B H M as e σ D st en h => h B H as .non (Same.refl B) (pre_refl as) st (.val .non)
def dDrop (fe : DE) : DS := fun e M => (fe e M).st e fun _ M1 => .nx e M1
theorem s_drop (he : SemE K Wx te fe) : SemS K Wx (tDrop te) (dDrop fe) := fun B H M as e σ D st en h =>
  he B H M as e σ _ st en (SPost.bind en h fun w M1 B1 H1 as1 x _ sb pre st1 rl h1 => h1 B1 H1 as1 σ (Same.refl B1) (pre_refl as1) st1 (en.mono sb pre))
/-- xs[i] = e -/
def dPutL (fv fo fi : DE) : DS := fun e M => (fv e M).st e fun w M1 => (fo e M1).st e fun o M2 => (fi e M2).st e fun i M3 => match o, i with
  | .ptr k, .val (.int j) => (match M3[k]? with
    | some (.lst xs) => (match ixN xs.length j with
      | some n => .nx e (M3.set k (.lst (xs.set n w)))
      | none => .stuck)
    | _ => .stuck)
  | _, _ => .stuck
theorem s_putL {to ti : TE} {fo fi : DE} (hv : SemE K Wx te fe) (ho : SemE K Wx to fo) (hi : SemE K Wx ti fi) : SemS K Wx (tAsg te (L2.gSub to ti rSetL)) (dPutL fe fo fi) := fun B H M as e σ D st en h =>
  hv B H M as e σ _ st en (SPost.bind en h fun w M1 B1 H1 as1 x _ sb pre st1 rl h1 =>
    ho B1 H1 M1 as1 e σ _ st1 (en.mono sb pre) (SPost.bind (en.mono sb pre) h1 fun o M2 B2 H2 as2 y _ sb2 pre2 st2 rl2 h2 =>
      hi B2 H2 M2 as2 e σ _ st2 (en.mono (sb.trans sb2) (pre.trans pre2)) (SPost.bind (en.mono (sb.trans sb2) (pre.trans pre2)) h2 fun i M3 B3 H3 as3 z _ sb3 pre3 st3 rl3 h3 => by
        split at h3
        · rename_i k j _ _
          have ro := rl2.mono sb3 pre3
          split at h3
          · rename_i xs ex
            obtain ⟨p, vs, rfl, hk, hp, r⟩ := live_ok st3 ro ex
            split at h3
            · rename_i n en'
              refine ⟨p, vs, j, n, rfl, int_ok rl3, hp, by rw [r.length]; exact en', ?_⟩
              exact h3 B3 _ as3 σ (Same.refl B3) (pre_refl as3) (st3.putL hk ex (r.set (rl.mono (sb2.trans sb3) (pre2.trans pre3)) n)) (en.mono ((sb.trans sb2).trans sb3) ((pre.trans pre2).trans pre3))
            · exact h3.elim
          · exact h3.elim
        · exact h3.elim)))
/-! ### loops -/
def loopW (ft : DT) (f : DS) : Nat → Env → Store → SR
  | 0, _, _ => .stuck
  | n + 1, e, M => (ft e M).st e fun c M1 => if c = true then (match f e M1 with
    | .nx e' M' => loopW ft f n e' M'
    | .ct e' M' => loopW ft f n e' M'
    | .bk e' M' => .nx e' M'
    | .rt w M' => .rt w M'
    | .exc c fs e' M' => .exc c fs e' M'
    | .stuck => .stuck) else .nx e M1
def dWhile (n : Nat) (ft : DT) (f : DS) : DS := fun e M => loopW ft f n e M
theorem s_while {n : Nat} (ht : SemT K Wx tt ft) (hf : SemS K Wx t f) : SemS K Wx (tWhile tt t) (dWhile n ft f) := fun B H M as e σ D st en h => by
  refine ⟨fun m σ H => ∃ B M as e, StR K B H M as ∧ EnvR K B as e σ ∧ SPost K B as (loopW ft f m e M) D Wx, ⟨n, B, M, as, e, st, en, h⟩, ?_⟩
  rintro m σ H ⟨B, M, as, e, st, en, h⟩
  cases m with
  | zero => exact h.elim
  | succ m =>
    refine ht B H M as e σ _ st en (SPost.bind en h fun w M1 B1 H1 as1 x _ sb pre st1 rl h1 => ?_)
    have rl' : w = x := rl
    subst rl'
    cases w with
    | false =>
      rw [if_neg Bool.false_ne_true] at h1 ⊢
      exact h1 B1 H1 as1 σ (Same.refl B1) (pre_refl as1) st1 (en.mono sb pre)
    | true =>
      rw [if_pos rfl] at h1 ⊢
      refine ⟨fun σ' H' => ∃ B M as e, StR K B H' M as ∧ EnvR K B as e σ' ∧ SPost K B as (loopW ft f m e M) D Wx, fun σ' H' ⟨B, M, as, e, a⟩ => ⟨m, Nat.lt_succ_self m, B, M, as, e, a⟩, ?_⟩
      refine hf B1 H1 M1 as1 e σ _ st1 (en.mono sb pre) ?_
      generalize f e M1 = r at h1 ⊢
      cases r with
      | nx e' M' => exact fun B' H' as' σ' sb' pre' st' en' => ⟨B', M', as', e', st', en', SPost.mono sb' pre' h1⟩
      | ct e' M' => exact fun B' H' as' σ' sb' pre' st' en' => ⟨B', M', as', e', st', en', SPost.mono sb' pre' h1⟩
      | bk e' M' => exact h1
      | rt w M' => exact h1
      | exc c fs e' M' => exact h1
      | stuck => exact h1
/-- what must stay while a loop walks -/
inductive Stay where
  | always | cell (k : Nat) (ws : List W)
def Stay.ok (M : Store) : Stay → Prop
  | .always => True
  | .cell k ws => M[k]? = some (.lst ws)
abbrev Iter := List W × Stay
abbrev DI := Env → Store → R Iter
def relI (K : PySem.W.Frag) : Hp → List Addr → Iter → It → Prop := fun B as it J => ∀ B2 H2 M2 as2, Same B B2 → as <+: as2 → StR K B2 H2 M2 as2 → it.2.ok M2 →
  ∀ i, (∀ w, it.1[i]? = some w → J.go i H2 ∧ ∀ x H3, J.yld i H2 x H3 → ∃ B3, Same B2 B3 ∧ StR K B3 H3 M2 as2 ∧ WR K B3 as2 w x) ∧ (it.1.length ≤ i → J.stop i H2)
abbrev SemI (K : PySem.W.Frag) (Wx : WX) (t : TI) (f : DI) : Prop := SemG K (relI K) Wx t f
noncomputable section
open Classical in
def loopF (s : Stay) (dg : DG) (f : DS) : List W → Env → Store → SR
  | [], e, M => if s.ok M then .nx e M else .stuck
  | w :: ws, e, M => if s.ok M then (match dg w e M with
    | none => .stuck
    | some e1 => match f e1 M with
      | .nx e' M' => loopF s dg f ws e' M'
      | .ct e' M' => loopF s dg f ws e' M'
      | .bk e' M' => .nx e' M'
      | .rt w M' => .rt w M'
      | .exc c fs e' M' => .exc c fs e' M'
      | .stuck => .stuck) else .stuck
def dFor (fi : DI) (dg : DG) (f : DS) : DS := fun e M => (fi e M).st e fun it M1 => loopF it.2 dg f it.1 e M1
end
theorem s_for {wi : TI} {fi : DI} {tg : TG} {ls : List Nat} {dg : DG} (hi : SemI K Wx wi fi) (hg : SemG1 K tg ls dg) (hf : SemS K Wx t f) : SemS K Wx (tFor wi tg t) (dFor fi dg f) := fun B H M as e σ D st en h =>
  hi B H M as e σ _ st en (SPost.bind en h fun it M1 B1 H1 as1 J _ sb pre st1 rl h1 => by
    refine ⟨fun i m σ H => m = it.1.length - i ∧ i ≤ it.1.length ∧ ∃ B M as e, Same B1 B ∧ as1 <+: as ∧ StR K B H M as ∧ EnvR K B as e σ ∧ SPost K B as (loopF it.2 dg f (it.1.drop i) e M) D Wx,
      ⟨it.1.length, rfl, Nat.zero_le _, B1, M1, as1, e, Same.refl B1, pre_refl as1, st1, en.mono sb pre, h1⟩, ?_⟩
    rintro i m σ H ⟨rfl, hi, B2, M2, as2, e2, sb2, pre2, st2, en2, h2⟩
    by_cases hlt : i < it.1.length
    · have hd : it.1.drop i = it.1[i] :: it.1.drop (i + 1) := List.drop_eq_getElem_cons hlt
      rw [hd] at h2
      unfold loopF at h2
      split at h2
      · rename_i hs
        obtain ⟨go, yl⟩ := (rl B2 H M2 as2 sb2 pre2 st2 hs i).1 it.1[i] (List.getElem?_eq_getElem hlt)
        refine .inr ⟨go, fun σ' H' => ∃ B M as e, Same B1 B ∧ as1 <+: as ∧ StR K B H' M as ∧ EnvR K B as e σ' ∧ SPost K B as (loopF it.2 dg f (it.1.drop (i + 1)) e M) D Wx,
          fun σ' H' a => ⟨it.1.length - (i + 1), by omega, rfl, hlt, a⟩, fun x H3 y => ?_⟩
        obtain ⟨B3, sb3, st3, r3⟩ := yl x H3 y
        split at h2
        · exact h2.elim
        · rename_i e1 q
          refine hg B3 H3 M2 as2 _ x e2 e1 σ _ st3 (en2.mono sb3 (pre_refl as2)) r3 q fun σ' en' _ => ?_
          refine hf B3 H3 M2 as2 e1 σ' _ st3 en' ?_
          have h3 := SPost.mono (D := D) (Wx := Wx) sb3 (pre_refl as2) h2
          generalize f e1 M2 = r at h3 ⊢
          cases r with
          | nx e' M' => exact fun B' H' as' σ' sb' pre' st' en' => ⟨B', M', as', e', (sb2.trans sb3).trans sb', pre2.trans pre', st', en', SPost.mono sb' pre' h3⟩
          | ct e' M' => exact fun B' H' as' σ' sb' pre' st' en' => ⟨B', M', as', e', (sb2.trans sb3).trans sb', pre2.trans pre', st', en', SPost.mono sb' pre' h3⟩
          | bk e' M' => exact h3
          | rt w M' => exact h3
          | exc c fs e' M' => exact h3
          | stuck => exact h3
      · exact h2.elim
    · have e0 : i = it.1.length := by omega
      subst e0
      rw [List.drop_length] at h2
      unfold loopF at h2
      split at h2
      · rename_i hs
        exact .inl ⟨(rl B2 H M2 as2 sb2 pre2 st2 hs it.1.length).2 (Nat.le_refl _), h2 B2 H as2 σ (Same.refl B2) (pre_refl as2) st2 en2⟩
      · exact h2.elim)
end
end Dn
end

section
set_option Elab.async false
set_option linter.all false
set_option maxRecDepth 100000
set_option maxHeartbeats 2000000
/-! Dn7: what loops walk; comprehensions; keyword calls; the body of a def. -/
namespace Dn
open PySem PySem.Spec PyProof.Rows L2
section
variable {K : PySem.W.Frag} {B B' B1 H H' : Hp} {as as' as1 : List Addr} {M M' : Store} {Wx : WX} {e : Env} {σ : L2.St}
variable {ta tb te : TE} {fa fb fe : DE} {tr : TA} {fr : DA} {tt : TT} {ft : DT}
/-! ### iterables -/
theorem WL.nolen {ws : List W} {vs : List V} {i : Nat} (h : WL K B as ws vs) (hi : ws.length ≤ i) : vs.length ≤ i := by rw [h.length]; exact hi
theorem relI_list {ws : List W} {a : Addr} {s : Stay} (h : ∀ B2 H2 M2 as2, Same B B2 → as <+: as2 → StR K B2 H2 M2 as2 → s.ok M2 → ∃ vs, SqL K H2 a vs ∧ WL K B2 as2 ws vs) : relI K B as (ws, s) (Itl K a) := fun B2 H2 M2 as2 sb pre st ok i => by
  obtain ⟨vs, sq, r⟩ := h B2 H2 M2 as2 sb pre st ok
  refine ⟨fun w hw => ?_, fun hi => ⟨vs, sq, r.nolen hi⟩⟩
  obtain ⟨v, ev, rv⟩ := r.get hw
  refine ⟨⟨vs, v, sq, ev⟩, fun x H3 y => ?_⟩
  obtain ⟨e3, y⟩ := y
  subst e3
  have e4 : x = v := Option.some.inj ((y vs sq).symm.trans ev)
  subst e4
  exact ⟨B2, Same.refl B2, st, rv⟩
theorem relI_tup {ws : List W} {a : Addr} {s : Stay} (h : ∀ B2 H2 M2 as2, Same B B2 → as <+: as2 → StR K B2 H2 M2 as2 → s.ok M2 → ∃ vs, SqT K H2 a vs ∧ WL K B2 as2 ws vs) : relI K B as (ws, s) (Itt K a) := fun B2 H2 M2 as2 sb pre st ok i => by
  obtain ⟨vs, sq, r⟩ := h B2 H2 M2 as2 sb pre st ok
  refine ⟨fun w hw => ?_, fun hi => ⟨vs, sq, r.nolen hi⟩⟩
  obtain ⟨v, ev, rv⟩ := r.get hw
  refine ⟨⟨vs, v, sq, ev⟩, fun x H3 y => ?_⟩
  obtain ⟨e3, y⟩ := y
  subst e3
  have e4 : x = v := Option.some.inj ((y vs sq).symm.trans ev)
  subst e4
  exact ⟨B2, Same.refl B2, st, rv⟩
def signs (z : Str) : List W := z.cps.toList.map fun c => .val (.str ⟨#[c]⟩)
theorem relI_str (z : Str) : relI K B as (signs z, .always) (Its z) := fun B2 H2 M2 as2 sb pre st ok i => by
  refine ⟨fun w hw => ?_, fun hi => show z.cps.size ≤ i by simpa [signs] using hi⟩
  have hw' : (z.cps.toList.map fun c => W.val (.str ⟨#[c]⟩))[i]? = some w := hw
  rw [List.getElem?_map] at hw'
  have hi : i < z.cps.size := by
    have := (List.getElem?_eq_some_iff.mp hw).1
    simpa [signs] using this
  refine ⟨hi, fun x H3 y => ?_⟩
  obtain ⟨e3, c, ec, ex⟩ := y
  subst e3; subst ex
  have e2 : z.cps.toList[i]? = some c := by simpa using ec
  rw [e2] at hw'
  have : W.val (.str ⟨#[c]⟩) = w := Option.some.inj hw'
  subst this
  exact ⟨B2, Same.refl B2, st, .val (.str _)⟩
/-- an iterable by its value: a list, a tuple, a text -/
def gIter (a : W) (M : Store) : R Iter := match rd M a with
  | .val (.tup ds) => .ok (ds.map .val, .always) M
  | .val (.lst ds) => .ok (ds.map .val, .always) M
  | .val (.rls ds) => .ok (ds.map .val, .always) M
  | .val (.str z) => .ok (signs z, .always) M
  | .ptr k => (match M[k]? with
    | some (.lst ws) => .ok (ws, .cell k ws) M
    | _ => .stuck)
  | _ => .stuck
def dIter (fa : DE) : DI := fun e M => (fa e M).bind fun a M1 => gIter a M1
def iSeq (K : PySem.W.Frag) (tl : TE) : TI := fun σ H R => iList K tl σ H R ∨ (iTup K tl σ H R ∨ iStr tl σ H R)
theorem pi_seq {X : Cx} {tg l : Expr} {tl : TE} (hl : PE X l tl) : PI X tg l (iSeq X.K tl) := ⟨fun pins s σ H R I h => h.elim ((pi_list hl).run pins s σ H R I) fun h => h.elim ((pi_tup hl).run pins s σ H R I) ((pi_str hl).run pins s σ H R I)⟩
theorem iList_mono {tl : TE} {σ : L2.St} {H : Hp} {R : It → Hp → Prop} (h : tl σ H fun x H1 => ∃ a, x = .ref a ∧ (∃ xs, SqL K H1 a xs) ∧ R (Itl K a) H1) : iList K tl σ H R := h
end
/-- a reading is monotone in what is wanted: whatever it yields of two wishes, one of them is had (by the denotation) -/
theorem SemG.three {α β : Type} {K : PySem.W.Frag} {rel : Hp → List Addr → α → β → Prop} {Wx : WX} {t : L2.St → Hp → (β → Hp → Prop) → Prop} {f : Env → Store → R α} (h : SemG K rel Wx t f) {B H : Hp} {M : Store} {as : List Addr} {e : Env} {σ : L2.St} (st : StR K B H M as) (en : EnvR K B as e σ)
    {Q1 Q2 Q3 : β → Hp → Prop} {E : XK} (hE : E = fun c d H' => Wx c d σ H') (p : (Post K rel B as (f e M) Q1 E) ∨ (Post K rel B as (f e M) Q2 E) ∨ (Post K rel B as (f e M) Q3 E)) : t σ H Q1 ∨ t σ H Q2 ∨ t σ H Q3 := by
  subst hE
  rcases p with p | p | p
  · exact .inl (h B H M as e σ Q1 st en p)
  · exact .inr (.inl (h B H M as e σ Q2 st en p))
  · exact .inr (.inr (h B H M as e σ Q3 st en p))
section
variable {K : PySem.W.Frag} {B B' B1 H H' : Hp} {as as' as1 : List Addr} {M M' : Store} {Wx : WX} {e : Env} {σ : L2.St}
variable {ta tb te : TE} {fa fb fe : DE} {tr : TA} {fr : DA} {tt : TT} {ft : DT}
theorem s_iter (ha : SemE K Wx ta fa) : SemI K Wx (iSeq K ta) (dIter fa) := fun B H M as e σ Q st en h => by
  refine ha.three st en rfl ?_
  have h' : Post K (relI K) B as ((fa e M).bind fun a M1 => gIter a M1) Q (fun c d H' => Wx c d σ H') := h
  generalize fa e M = r at h' ⊢
  cases r with
  | stuck => exact h'.elim
  | exc c fs M' => exact .inl h'
  | ok a M1 =>
    have h2 : Post K (relI K) B as (gIter a M1) Q (fun c d H' => Wx c d σ H') := h'
    unfold gIter at h2
    split at h2
    · rename_i ds ed
      refine .inr (.inl fun B1 H1 as1 x sb pre st1 rl => ?_)
      have rl' := rd_ok st1 rl
      rw [ed] at rl'
      cases val_ok rl' with
      | tup sp fv => exact ⟨_, rfl, ⟨_, sqT_mono st1.ex sp⟩, h2 B1 H1 as1 _ sb pre st1 (relI_tup fun B2 H2 M2 as2 sb2 pre2 st2 _ => ⟨_, sqT_mono (sb2.trans st2.ex) sp, FzL.wl (fv.mono sb2)⟩)⟩
    · rename_i ds ed
      refine .inl fun B1 H1 as1 x sb pre st1 rl => ?_
      have rl' := rd_ok st1 rl
      rw [ed] at rl'
      cases val_ok rl' with
      | lst sp fv => exact ⟨_, rfl, ⟨_, SqL.of (st1.ex _ _ sp)⟩, h2 B1 H1 as1 _ sb pre st1 (relI_list fun B2 H2 M2 as2 sb2 pre2 st2 _ => ⟨_, SqL.of (st2.ex _ _ (sb2 _ _ sp)), FzL.wl (fv.mono sb2)⟩)⟩
    · rename_i ds ed
      refine .inl fun B1 H1 as1 x sb pre st1 rl => ?_
      have rl' := rd_ok st1 rl
      rw [ed] at rl'
      cases val_ok rl' with
      | rls sp fv => exact ⟨_, rfl, ⟨_, sqL_mono st1.ex sp⟩, h2 B1 H1 as1 _ sb pre st1 (relI_list fun B2 H2 M2 as2 sb2 pre2 st2 _ => ⟨_, sqL_mono (sb2.trans st2.ex) sp, FzL.wl (fv.mono sb2)⟩)⟩
    · rename_i z ed
      refine .inr (.inr fun B1 H1 as1 x sb pre st1 rl => ?_)
      have rl' := rd_ok st1 rl
      rw [ed] at rl'
      exact ⟨z, str_ok rl', h2 B1 H1 as1 _ sb pre st1 (relI_str z)⟩
    · rename_i k ed
      split at h2
      · rename_i ws ew
        refine .inl fun B1 H1 as1 x sb pre st1 rl => ?_
        have rl' := rd_ok st1 rl
        rw [ed] at rl'
        obtain ⟨p, vs, rfl, hk, hp, r⟩ := live_ok st1 rl' ew
        refine ⟨p, rfl, ⟨vs, SqL.of hp⟩, h2 B1 H1 as1 _ sb pre st1 (relI_list fun B2 H2 M2 as2 sb2 pre2 st2 ok => ?_)⟩
        obtain ⟨_, vs2, e2, r2⟩ := st2.lstAt (pre_get pre2 hk) ok
        exact ⟨vs2, SqL.of e2, r2⟩
      · exact h2.elim
    · exact h2.elim
def rngW (lo : Int) (n : Nat) : List W := (List.range n).map fun (i : Nat) => W.val (.int (lo + (i : Int)))
theorem relI_rng (lo : Int) (n : Nat) : relI K B as (rngW lo n, .always) (Itr lo n) := fun B2 H2 M2 as2 sb pre st ok i => by
  refine ⟨fun w hw => ?_, fun hi => show n ≤ i by simpa [rngW] using hi⟩
  have hi : i < n := by
    have := (List.getElem?_eq_some_iff.mp hw).1
    simpa [rngW] using this
  refine ⟨hi, fun x H3 y => ?_⟩
  obtain ⟨e3, ex⟩ := y
  subst e3; subst ex
  have hw' : ((List.range n).map fun (i : Nat) => W.val (.int (lo + (i : Int))))[i]? = some w := hw
  rw [List.getElem?_map, List.getElem?_range hi] at hw'
  have : W.val (.int (lo + (i : Int))) = w := Option.some.inj hw'
  subst this
  exact ⟨B2, Same.refl B2, st, .val (.int _)⟩
def smallI (j : Int) : Prop := -(2 ^ 62) ≤ j ∧ j < 2 ^ 62
instance (j : Int) : Decidable (smallI j) := inferInstanceAs (Decidable (_ ∧ _))
def gRng1 (ws : List W) (M : Store) : R Iter := match ws with
  | [.val (.int j)] => if smallI j then .ok (rngW 0 j.toNat, .always) M else .stuck
  | _ => .stuck
def dRng (g : List W → Store → R Iter) (fr : DA) : DI := fun e M => (fr e M).bind fun ws M1 => g ws M1
theorem s_rng1 (ha : SemA K Wx tr fr) : SemI K Wx (iRng1 tr) (dRng gRng1 fr) := fun B H M as e σ Q st en h =>
  ha B H M as e σ _ st en (Post.bind h fun ws M1 B1 H1 as1 xs _ sb pre st1 rl h1 => by
    unfold gRng1 at h1
    split at h1
    · rename_i j _
      obtain ⟨v, rfl, ra⟩ := rl.one
      cases int_ok ra
      split at h1
      · rename_i hs
        exact ⟨j, rfl, hs.1, hs.2, h1 B1 H1 as1 _ (Same.refl B1) (pre_refl as1) st1 (relI_rng 0 _)⟩
      · exact h1.elim
    · exact h1.elim)
def gRng2 (ws : List W) (M : Store) : R Iter := match ws with
  | [.val (.int i), .val (.int j)] => if smallI i ∧ smallI j then .ok (rngW i (j - i).toNat, .always) M else .stuck
  | _ => .stuck
theorem s_rng2 (ha : SemA K Wx tr fr) : SemI K Wx (iRng2 tr) (dRng gRng2 fr) := fun B H M as e σ Q st en h =>
  ha B H M as e σ _ st en (Post.bind h fun ws M1 B1 H1 as1 xs _ sb pre st1 rl h1 => by
    unfold gRng2 at h1
    split at h1
    · rename_i i j _
      obtain ⟨v, v', rfl, ra, rb⟩ := rl.two
      cases int_ok ra
      cases int_ok rb
      split at h1
      · rename_i hs
        exact ⟨i, j, rfl, ⟨hs.1.1, hs.1.2, hs.2.1, hs.2.2⟩, h1 B1 H1 as1 _ (Same.refl B1) (pre_refl as1) st1 (relI_rng i _)⟩
      · exact h1.elim
    · exact h1.elim)
/-! ### comprehensions -/
def wipeE (e : Env) : List Nat → Env
  | [] => e
  | v :: vs => (wipeE e vs).set v none
theorem EnvR.wipe (en : EnvR K B as e σ) : ∀ vs, EnvR K B as (wipeE e vs) (L2.wipe σ vs)
  | [] => en
  | v :: vs => (EnvR.wipe en vs).unset v none
theorem wipe_idem {σ : L2.St} : ∀ vs, wipe (wipe σ vs) vs = wipe σ vs := by
  have gen : ∀ (us vs : List Nat), (∀ u ∈ us, u ∈ vs) → wipe (wipe σ us) vs = wipe σ vs := fun us => by
    induction us with
    | nil => intro vs _; rfl
    | cons u us ih =>
      intro vs h
      show wipe ((wipe σ us).set u none) vs = wipe σ vs
      rw [wipe_set (h u List.mem_cons_self)]
      exact ih vs fun u' h' => h u' (List.mem_cons_of_mem _ h')
  exact fun vs => gen vs vs fun _ h => h
def W0 : WX := fun _ _ _ _ => False
/-- only an outcome without an exception counts -/
def R.noex {α : Type} (r : R α) : R α := match r with
  | .ok a M => .ok a M
  | _ => .stuck
noncomputable section
open Classical in
def loopC (s : Stay) (dg : DG) (ft : DT) (fe : DE) (k : Nat) (e : Env) : List W → Store → R W
  | [], M => if s.ok M then .ok (.ptr k) M else .stuck
  | w :: ws, M => if s.ok M then (match dg w e M with
    | none => .stuck
    | some e1 => match (ft e1 M).noex with
      | .ok true M1 => (match (settle M1 (fe e1 M1)).noex with
        | .ok y M2 => (match M2[k]? with
          | some (.lst acc) => if acc.length < sizeLine then loopC s dg ft fe k e ws (M2.set k (.lst (acc ++ [y]))) else .stuck
          | _ => .stuck)
        | _ => .stuck)
      | .ok false M1 => loopC s dg ft fe k e ws M1
      | _ => .stuck) else .stuck
def dLc (fi : DI) (dg : DG) (ft : DT) (fe : DE) (vs : List Nat) : DE := fun e M => (fi e M).bind fun it M1 => loopC it.2 dg ft fe M1.length (wipeE e vs) it.1 (M1 ++ [.lst []])
end
theorem Post.no {α β : Type} {rel : Hp → List Addr → α → β → Prop} {r : R α} {Q : β → Hp → Prop} {E : XK} (h : Post K rel B as r.noex Q E) : Post K rel B as r Q E := by
  cases r with
  | ok a M => exact h
  | exc _ _ _ => exact h.elim
  | stuck => exact h
theorem s_lc {wi : TI} {fi : DI} {g : TG} {ls : List Nat} {dg : DG} {vs : List Nat} (hi : SemI K Wx wi fi) (hg : SemG1 K g ls dg) (hls : ∀ j ∈ ls, j ∈ vs) (ht : SemT K W0 tt ft) (he : SemE K W0 te fe) : SemE K Wx (tLc wi g tt te vs) (dLc fi dg ft fe vs) := fun B H M as e σ Q st en h =>
  hi B H M as e σ _ st en (Post.bind h fun it M1 B1 H1 as1 J _ sb pre st1 rl h1 D hD => by
    have st2 : StR K B1 (upd H1 D (.lst [])) (M1 ++ [.lst []]) (as1 ++ [D]) := st1.newL hD .nil
    have hDk : (as1 ++ [D])[M1.length]? = some D := newptr st1
    have en1 := (en.mono sb pre)
    refine ⟨fun i m H => m = it.1.length - i ∧ i ≤ it.1.length ∧ ∃ B M as, Same B1 B ∧ (as1 ++ [D]) <+: as ∧ StR K B H M as ∧ Post K (relW K) B as (loopC it.2 dg ft fe M1.length (wipeE e vs) (it.1.drop i) M) Q (fun c d H' => Wx c d σ H'),
      ⟨it.1.length, rfl, Nat.zero_le _, B1, M1 ++ [.lst []], as1 ++ [D], Same.refl B1, pre_refl _, st2, by rw [List.drop_zero]; exact Post.mono (Same.refl B1) (List.prefix_append as1 [D]) h1⟩, ?_⟩
    rintro i m H ⟨rfl, hi, B2, M2, as2, sb2, pre2, st3, h2⟩
    have pre12 : as1 <+: as2 := (List.prefix_append as1 [D]).trans pre2
    by_cases hlt : i < it.1.length
    · have hd : it.1.drop i = it.1[i] :: it.1.drop (i + 1) := List.drop_eq_getElem_cons hlt
      rw [hd] at h2
      unfold loopC at h2
      split at h2
      · rename_i hs
        obtain ⟨go, yl⟩ := (rl B2 H M2 as2 sb2 pre12 st3 hs i).1 it.1[i] (List.getElem?_eq_getElem hlt)
        refine .inr ⟨go, fun H' => ∃ B M as, Same B1 B ∧ (as1 ++ [D]) <+: as ∧ StR K B H' M as ∧ Post K (relW K) B as (loopC it.2 dg ft fe M1.length (wipeE e vs) (it.1.drop (i + 1)) M) Q (fun c d H' => Wx c d σ H'),
          fun H' a => ⟨it.1.length - (i + 1), by omega, rfl, hlt, a⟩, fun x H3 y => ?_⟩
        obtain ⟨B3, sb3, st4, r3⟩ := yl x H3 y
        split at h2
        · exact h2.elim
        · rename_i e1 q
          refine hg B3 H3 M2 as2 _ x (wipeE e vs) e1 (wipe σ vs) _ st4 ((en1.mono (sb2.trans sb3) pre12).wipe vs) r3 q fun σ' en' o => ?_
          refine ⟨(o vs hls).trans (wipe_idem vs), ?_⟩
          refine ht B3 H3 M2 as2 e1 σ' _ st4 en' (Post.no ?_)
          split at h2
          · rename_i M3 e3
            rw [e3]
            intro B4 H4 as4 b sb4 pre4 st5 eb
            have eb' : true = b := eb
            subst eb'
            rw [if_pos rfl]
            refine he B4 H4 M3 as4 e1 σ' _ st5 (en'.mono sb4 pre4) (Post.settle st5 (Post.no ?_))
            split at h2
            · rename_i y M4 e4
              rw [e4]
              intro B5 H5 as5 yv sb5 pre5 st6 ry
              split at h2
              · rename_i acc ea
                have hk5 : as5[M1.length]? = some D := pre_get ((pre2.trans pre4).trans pre5) hDk
                obtain ⟨_, vacc, eD, racc⟩ := st6.lstAt hk5 ea
                split at h2
                · rename_i hl
                  refine ⟨vacc, eD, by rw [racc.length]; exact hl, B5, _, as5, ((sb2.trans sb3).trans sb4).trans sb5, (pre2.trans pre4).trans pre5, st6.putL hk5 ea (racc.append (.cons ry .nil)), ?_⟩
                  exact h2.mono ((sb3.trans sb4).trans sb5) (pre4.trans pre5)
                · exact h2.elim
              · exact h2.elim
            · exact h2.elim
          · rename_i M3 e3
            rw [e3]
            intro B4 H4 as4 b sb4 pre4 st5 eb
            have eb' : false = b := eb
            subst eb'
            rw [if_neg Bool.false_ne_true]
            exact ⟨B4, M3, as4, (sb2.trans sb3).trans sb4, pre2.trans pre4, st5, h2.mono (sb3.trans sb4) pre4⟩
          · exact h2.elim
      · exact h2.elim
    · have e0 : i = it.1.length := by omega
      subst e0
      rw [List.drop_length] at h2
      unfold loopC at h2
      split at h2
      · rename_i hs
        exact .inl ⟨(rl B2 H M2 as2 sb2 pre12 st3 hs it.1.length).2 (Nat.le_refl _), h2 B2 H as2 (.ref D) (Same.refl B2) (pre_refl as2) st3 (.ptr (pre_get pre2 hDk))⟩
      · exact h2.elim)
/-- no test -/
def dYes : DT := fun _ M => .ok true M
theorem s_yes : SemT K Wx tYes dYes := fun B H M as e σ Q st en h => h B H as true (Same.refl B) (pre_refl as) st rfl
end
/-! ### keyword calls -/
def tCallKS (sp : Sp) (gV : List V → List V → List V) (E : L2.St → XK) (t tk : TA) : TE := fun σ H Q => t σ H fun vs H1 => tk σ H1 fun zs H2 => sp (gV vs zs) H2 Q (E σ)
section
variable {X : Cx} {CX : CXT} {k n : Nat} {f : Addr} {fd : FuncData} {ps ks : List Str} {sp : Sp} {E : L2.St → XK} {x : Str} {p pos : Pos} {e : Expr} {es : List Expr} {kws : List Keyword} {t tk : TA} {g : List Value → List Value → List Value} {gV : List V → List V → List V}
theorem run_kw {pins : List (Addr × Obj)} {σ : L2.St} {H : Hp} {s : Shared} {Q : VK} {us ws : List Value} {vs zs : List V} {E : XK} (F : FnOk X.prog X.w X.K X.mg X.base CX k f fd ps sp) (hr : Room k X.A) (hb : KBn X.K fd ps n ks g gV) (hx : PassesAt CX X σ E)
    (I : Inv X pins σ H s) (r : Vals vs us) (rz : Vals zs ws) (h1 : us.length = n) (h2 : ws.length = ks.length) (h : sp (gV vs zs) H Q E) : wpAny (model X.prog X.w) X.A (call (.ref f) us (ks.zip ws)) (EP X pins σ Q) X.xe s := by
  refine wpAny_call (codeAny_mono (F.run X.A X.stack s H ⟨us, ks.zip ws⟩ (g us ws) (gV vs zs) Q E hr I.env0 (hb.to s us ws I.kIn h1 h2) (hb.rel r rz) h) fun r s' hq => ?_)
  cases r with
  | error e => exact hx pins H s e s' I hq
  | ok fl =>
    cases fl with
    | ret u => exact I.after hq
    | next => exact False.elim hq
    | brk => exact False.elim hq
    | cont => exact False.elim hq
def tLen (n : Nat) (t : TA) : TA := fun σ H Q => t σ H fun vs H1 => vs.length = n ∧ Q vs H1
theorem pe_callKS (F : FnOk X.prog X.w X.K X.mg X.base CX k f fd ps sp) (hr : Room k X.A) (hg : Gl X x) (hm : X.mg x = some (.ref f)) (hk : PySem.W.keepIn X.K (.ref f) = true) (hb : KBn X.K fd ps n ks g gV) (hx : ∀ σ, PassesAt CX X σ (E σ))
    (ha : PA X (e :: es) t) (hkw : PK X kws tk) (hall : (backToKw pos (keywordEach kws X.env)).all (·.1.isSome) = true := by rfl) (hks : (backToKw pos (keywordEach kws X.env)).filterMap (·.1) = ks := by rfl)
    (hdb : (x == ("__debug__" : Str)) = false := by decide) (he : starEach (e :: es) X.env = (false, eval e X.env) :: starEach es X.env := by rfl)
    (hpl : ((backTo pos (starEach (e :: es) X.env)).any (·.1) || (backToKw pos (keywordEach kws X.env)).any (·.1.isNone)) = false := by rfl) :
    PE X (.Call (.Name x p) (e :: es) kws pos) (tCallKS sp gV E (tLen n t) (tLen ks.length tk)) := by
  refine ⟨fun pins s σ H Q I h => ?_⟩
  refine wpAny_Call_Name_kw (ld_glob I hg hm ?_ hdb)
  refine PySem.W.callWith_KW (h₀ := X.base) I.ok.mod.kin hk hall (thn (ha.run pos pins s σ H _ I h) fun us s1 ⟨vs, H1, I1, r, l1, q⟩ => ?_) hpl he
  refine thn (hkw.run pos pins s1 σ H1 _ I1 q) fun ws s2 ⟨zs, H2, I2, rz, l2, q2⟩ => ⟨I2.kIn, ?_⟩
  rw [hks]
  exact run_kw F hr hb (hx σ) I2 r rz (r.length.symm.trans l1) (rz.length.symm.trans l2) q2
theorem pe_callKS0 (F : FnOk X.prog X.w X.K X.mg X.base CX k f fd ps sp) (hr : Room k X.A) (hg : Gl X x) (hm : X.mg x = some (.ref f)) (hk : PySem.W.keepIn X.K (.ref f) = true) (hb : KBn X.K fd ps 0 ks g gV) (hx : ∀ σ, PassesAt CX X σ (E σ))
    (hkw : PK X kws tk) (hall : (backToKw pos (keywordEach kws X.env)).all (·.1.isSome) = true := by rfl) (hks : (backToKw pos (keywordEach kws X.env)).filterMap (·.1) = ks := by rfl)
    (hdb : (x == ("__debug__" : Str)) = false := by decide)
    (hpl : ((backTo pos (starEach [] X.env)).any (·.1) || (backToKw pos (keywordEach kws X.env)).any (·.1.isNone)) = false := by rfl) :
    PE X (.Call (.Name x p) [] kws pos) (tCallKS sp gV E (tLen 0 tNil) (tLen ks.length tk)) := by
  refine ⟨fun pins s σ H Q I h => ?_⟩
  refine wpAny_Call_Name_kw (ld_glob I hg hm ?_ hdb)
  refine PySem.W.callWith_KW0 (h₀ := X.base) I.ok.mod.kin hk hall ?_ hpl
  refine thn (hkw.run pos pins s σ H _ I h.2) fun ws s2 ⟨zs, H2, I2, rz, l2, q2⟩ => ⟨I2.kIn, ?_⟩
  rw [hks]
  exact run_kw (us := []) F hr hb (hx σ) I2 .nil rz rfl (rz.length.symm.trans l2) q2
end
section
variable {K : PySem.W.Frag} {Wx : WX} {tr tk : TA} {fr fk : DA}
/-- values in the parameters' order -/
def permL {α : Type} (pm : List Nat) (us ws : List α) : List α := pm.filterMap fun i => (us ++ ws)[i]?
theorem WL.perm {B : Hp} {as : List Addr} {us : List W} {vs : List V} (h : WL K B as us vs) : ∀ pm : List Nat, WL K B as (pm.filterMap fun i => us[i]?) (pm.filterMap fun i => vs[i]?)
  | [] => .nil
  | i :: pm => by
    rw [List.filterMap_cons, List.filterMap_cons]
    cases e : us[i]? with
    | none =>
      have e2 : vs[i]? = none := by
        rw [List.getElem?_eq_none_iff] at e ⊢
        rw [h.length]; exact e
      rw [e2]
      exact WL.perm h pm
    | some w =>
      obtain ⟨v, ev, r⟩ := h.get e
      rw [ev]
      exact .cons r (WL.perm h pm)
theorem Vals.permL {us : List V} {vs : List Value} (h : Vals us vs) : ∀ pm : List Nat, Vals (pm.filterMap fun i => us[i]?) (pm.filterMap fun i => vs[i]?)
  | [] => .nil
  | i :: pm => by
    rw [List.filterMap_cons, List.filterMap_cons]
    cases e : us[i]? with
    | none =>
      rw [h.none_of e]
      exact Vals.permL h pm
    | some w =>
      obtain ⟨v, ev, r⟩ := h.get e
      rw [ev]
      exact .cons r (Vals.permL h pm)
/-- how a def without defaults takes keywords -/
theorem kbn_of {x qual : Str} {st : Stmt} {f : Addr} {fd : FuncData} {ps ks : List Str} {n : Nat} (pm : List Nat) (F : Fun K x qual st f fd)
    (h : ∀ (kV doc pm' : Value) (an : Option Addr) (cdv ct : Value) (us ws : List Value), us.length = n → ws.length = ks.length → bindArgs (PySem.W.fnOf x qual (defArgs st) (defBody st) (defScope st) .none kV doc pm' an cdv ct) ⟨us, ks.zip ws⟩ = pure (ps.zip (permL pm us ws))) : KBn K fd ps n ks (permL pm) (permL pm) := by
  obtain ⟨oc, od, kV, doc, pm', an, cdv, ct, osl, rfl, lk, hcd⟩ := F.ex
  exact ⟨fun s us ws _ h1 h2 => .of_eq (h kV doc pm' an cdv ct us ws h1 h2), fun r1 r2 => Vals.permL (r1.append r2) pm⟩
def dCallK (m : List W → Store → R W) (pm : List Nat) (n j k : Nat) (fr fk : DA) : DE := fun e M => (fr e M).bind fun ws M1 => if ws.length = n then (fk e M1).bind fun zs M2 => if zs.length = j ∧ (permL pm ws zs).length = k then m (permL pm ws zs) M2 else .stuck else .stuck
theorem s_callK {k n j : Nat} {m : List W → Store → R W} {pm : List Nat} (ha : SemA K Wx tr fr) (hk : SemA K Wx tk fk) : SemE K Wx (tCallKS (SpD K k m) (permL pm) (WE Wx) (tLen n tr) (tLen j tk)) (dCallK m pm n j k fr fk) := fun B H M as e σ Q st en h =>
  ha B H M as e σ _ st en (Post.bind h fun ws M1 B1 H1 as1 xs _ sb pre st1 rl h1 => by
    split at h1
    · rename_i hn
      refine ⟨by rw [rl.length]; exact hn, hk B1 H1 M1 as1 e σ _ st1 (en.mono sb pre) (Post.bind h1 fun zs M2 B2 H2 as2 ys _ sb2 pre2 st2 rl2 h2 => ?_)⟩
      split at h2
      · rename_i hc
        have r := (((rl.mono sb2 pre2).append rl2).perm pm)
        exact ⟨by rw [rl2.length]; exact hc.1, by rw [show permL pm xs ys = pm.filterMap fun i => (xs ++ ys)[i]? from rfl, r.length]; exact hc.2, B2, M2, as2, _, st2, r, h2⟩
      · exact h2.elim
    · exact h1.elim)
end
/-! ### the body of a def -/
def env0 (n : Nat) (ws : List W) : Env := ws.map some ++ List.replicate (n - ws.length) none
noncomputable def dFun (f : DS) (n : Nat) (ws : List W) (M : Store) : R W := settle M (match f (env0 n ws) M with
  | .nx _ M' => .ok (.val .non) M'
  | .rt w M' => .ok w M'
  | .exc c fs _ M' => .exc c fs M'
  | _ => .stuck)
section
variable {K : PySem.W.Frag} {B H : Hp} {as : List Addr} {M : Store}
theorem EnvR.start {N : List Str} {ws : List W} {vs : List V} (h : WL K B as ws vs) (hn : ws.length ≤ N.length) : EnvR K B as (env0 N.length ws) (L2.start N vs) := by
  refine ⟨?_, fun i w q => ?_⟩
  · unfold env0 L2.start
    simp only [List.length_append, List.length_map, List.length_replicate, h.length]
  · unfold env0 at q
    unfold L2.start
    by_cases hi : i < ws.length
    · rw [List.getElem?_append_left (by simpa using hi), List.getElem?_map, List.getElem?_eq_getElem hi] at q
      have q' : ws[i] = w := by simpa using q
      obtain ⟨v, ev, r⟩ := h.get (show ws[i]? = some w by rw [List.getElem?_eq_getElem hi, q'])
      refine ⟨v, ?_, r⟩
      rw [List.getElem?_append_left (by simpa [h.length] using hi), List.getElem?_map, ev]
      rfl
    · rw [List.getElem?_append_right (by simpa using hi)] at q
      rw [List.getElem?_replicate] at q
      split at q <;> cases q
theorem run_body {N : List Str} {n : Nat} {f : DS} {t : TS} {vs : List V} {Q : VK} {E : XK} (hn : n ≤ N.length) (hs : SemS K (fun c d _ H => E c d H) t f) (h : SpD K n (dFun f N.length) vs H Q E) : t { nx := fun _ H' => Q .non H', rt := Q } (L2.start N vs) H := by
  obtain ⟨hl, B, M, as, ws, st, r, p⟩ := h
  have hw : ws.length ≤ N.length := by rw [← r.length, hl]; exact hn
  refine hs B H M as _ _ _ st (EnvR.start r hw) ?_
  have p' := Post.settle st (show Post K (relW K) B as (settle M _) Q E from p)
  generalize f (env0 N.length ws) M = o at p' ⊢
  cases o with
  | nx e' M' => exact fun B' H' as' σ' sb pre st' _ => p' B' H' as' .non sb pre st' (.val .non)
  | rt w M' => exact p'
  | exc c fs e' M' => exact fun B' H' as' σ' cls d sb pre st' _ ex => p' B' H' as' cls d sb pre st' ex
  | bk _ _ => exact p'.elim
  | ct _ _ => exact p'.elim
  | stuck => exact p'.elim
end
end Dn
end

section
set_option Elab.async false
set_option linter.all false
set_option maxRecDepth 100000
set_option maxHeartbeats 2000000
/-! Dn8: what the top has written: constants, tables, defs; calls; the end. -/
namespace Dn
open PySem PySem.Spec PyProof.Rows L2
/-! ### constants of the top -/
mutual
def constB (K : PySem.W.Frag) : D → Value → Bool
  | .non, .none => true
  | .bl b, .bool c => b == c
  | .int i, .int j _ => decide (i = j)
  | .str x, .str y _ => decide (x = y)
  | .tup ds, .ref a => match K.lookup a with
    | some ⟨.type "tuple", _, .seq its _, _⟩ => decide (its.size ≤ sizeLine) && constL K ds its.toList
    | _ => false
  | _, _ => false
def constL (K : PySem.W.Frag) : List D → List Value → Bool
  | [], [] => true
  | d :: ds, u :: us => constB K d u && constL K ds us
  | _, _ => false
end
mutual
theorem constB_ok {K : PySem.W.Frag} : ∀ {d : D} {u : Value}, constB K d u = true → ∃ v, RelV v u ∧ ∀ B, Fz K B d v
  | .non, .none, _ => ⟨.non, rfl, fun _ => .non⟩
  | .bl b, .bool c, h => by
    have e : b = c := eq_of_beq h
    subst e
    exact ⟨.bl b, rfl, fun _ => .bl b⟩
  | .int i, .int j t, h => by
    have e : i = j := of_decide_eq_true h
    subst e
    exact ⟨.int i, ⟨t, rfl⟩, fun _ => .int i⟩
  | .str i, .str j t, h => by
    have e : i = j := of_decide_eq_true h
    subst e
    exact ⟨.str i, ⟨t, rfl⟩, fun _ => .str i⟩
  | .tup ds, .ref a, h => by
    unfold constB at h
    split at h
    · rename_i dd its n sl hl
      rw [Bool.and_eq_true] at h
      obtain ⟨vs, r, f⟩ := constL_ok h.2
      exact ⟨.ref a, rfl, fun B => .tup (.inr ⟨_, its, n, hl, rfl, rfl, of_decide_eq_true h.1, r⟩) (f B)⟩
    · cases h
theorem constL_ok {K : PySem.W.Frag} : ∀ {ds : List D} {us : List Value}, constL K ds us = true → ∃ vs, Vals vs us ∧ ∀ B, FzL K B ds vs
  | [], [], _ => ⟨[], .nil, fun _ => .nil⟩
  | d :: ds, u :: us, h => by
    unfold constL at h
    rw [Bool.and_eq_true] at h
    obtain ⟨v, r, f⟩ := constB_ok h.1
    obtain ⟨vs, rs, fs⟩ := constL_ok h.2
    exact ⟨v :: vs, .cons r rs, fun B => .cons (f B) (fs B)⟩
end
/-- the module's name x holds the data d -/
def GlC (K : PySem.W.Frag) (mg : Str → Option Value) (x : Str) (d : D) : Prop := ∃ u v, mg x = some u ∧ RelV v u ∧ ∀ B, Fz K B d v
def glB (K : PySem.W.Frag) (x : Str) (d : D) : Bool := match PySem.W.nsIn K mainGlobals x with
  | some (some u) => constB K d u
  | _ => false
theorem glB_ok {K : PySem.W.Frag} {h : Heap} {mg : Str → Option Value} {x : Str} {d : D} (X : K.In h) (G : h.Ns mainGlobals mg) (c : glB K x d = true) : GlC K mg x d := by
  unfold glB at c
  split at c
  · rename_i u e
    obtain ⟨v, r, f⟩ := constB_ok c
    exact ⟨u, v, PySem.W.mg_of X G e, r, f⟩
  · cases c
def tGl (K : PySem.W.Frag) (d : D) : TE := fun _ H Q => ∀ v, (∀ B, Fz K B d v) → Q v H
theorem pe_gl {X : Cx} {x : Str} {d : D} {pos : Pos} (hg : Gl X x) (h : GlC X.K X.mg x d) (hd : (x == ("__debug__" : Str)) = false := by decide) : PE X (.Name x pos) (tGl X.K d) := by
  obtain ⟨u, v, e, r, f⟩ := h
  exact ⟨fun pins s σ H Q I hq => (pe_glob hg e r hd).run pins s σ H Q I (hq v f)⟩
theorem s_gl {K : PySem.W.Frag} {Wx : WX} {d : D} : SemE K Wx (tGl K d) (dC d) := fun B H M as e σ Q st en h v f => h B H as v (Same.refl B) (pre_refl as) st (.val (f B))
/-! ### a table of the top with text keys -/
def entsB (K : PySem.W.Frag) : List (Str × D) → List DictEntry → Bool
  | [], [] => true
  | (x, d) :: kvs, e :: es => (match e.key with
    | .str y _ => decide (y = x)
    | _ => false) && (constB K d e.val && entsB K kvs es)
  | _, _ => false
def tabB (K : PySem.W.Frag) (x : Str) (kvs : List (Str × D)) : Bool := match K.lookup (He.ga K x) with
  | some ⟨_, _, .dict es _, _⟩ => entsB K kvs es.toList && He.eqO (PySem.W.nsIn K mainGlobals x) (some (some (.ref (He.ga K x))))
  | _ => false
/-- x stands for such a table: what a key gives -/
structure TbC (K : PySem.W.Frag) (w : World) (mg : Str → Option Value) (x : Str) (kvs : List (Str × D)) : Prop where
  at_ : mg x = some (.ref (He.ga K x))
  tab : ∃ es n, KDict K w (He.ga K x) es n
  get : ∀ z : Str, ∃ r : Option Value, PySem.W.nsIn K (He.ga K x) z = some r ∧ (match kvs.lookup z with
    | some d => ∃ u v, r = some u ∧ RelV v u ∧ ∀ B, Fz K B d v
    | none => r = none)
theorem ents_get {K : PySem.W.Frag} : ∀ {kvs : List (Str × D)} {es : List DictEntry}, entsB K kvs es = true → (es.any (·.refKey)) = false ∧ ∀ z : Str, match kvs.lookup z with
    | some d => ∃ e v, es.find? (·.key.isStr z) = some e ∧ RelV v e.val ∧ ∀ B, Fz K B d v
    | none => es.find? (·.key.isStr z) = none
  | [], [], _ => ⟨rfl, fun _ => rfl⟩
  | (x, d) :: kvs, e :: es, h => by
    unfold entsB at h
    rw [Bool.and_eq_true, Bool.and_eq_true] at h
    obtain ⟨h1, h2, h3⟩ := h
    obtain ⟨i1, i2⟩ := ents_get h3
    obtain ⟨hs, ky, vl⟩ := e
    cases ky with
    | str y t =>
      have e1 : y = x := of_decide_eq_true h1
      subst e1
      obtain ⟨v, r, f⟩ := constB_ok h2
      refine ⟨by rw [List.any_cons, i1]; rfl, fun z => ?_⟩
      rw [List.lookup_cons]
      by_cases hz : z = y
      · subst hz
        simp only [BEq.rfl]
        refine ⟨_, v, ?_, r, f⟩
        rw [List.find?_cons_of_pos]
        simp [Value.isStr]
      · have hb : (z == y) = false := beq_eq_false_iff_ne.mpr hz
        rw [hb]
        have hf : ((⟨hs, .str y t, vl⟩ : DictEntry) :: es).find? (·.key.isStr z) = es.find? (·.key.isStr z) := by
          rw [List.find?_cons_of_neg]
          simp [Value.isStr]
          exact fun q => hz q.symm
        rw [hf]
        exact i2 z
    | _ => cases h1
theorem tabB_ok {K : PySem.W.Frag} {w : World} {h : Heap} {mg : Str → Option Value} {x : Str} {kvs : List (Str × D)} (X : K.In h) (G : h.Ns mainGlobals mg) (c : tabB K x kvs = true) (t : ∃ es n, KDict K w (He.ga K x) es n) : TbC K w mg x kvs := by
  unfold tabB at c
  split at c
  · rename_i oc od es n sl hl
    rw [Bool.and_eq_true] at c
    obtain ⟨g1, g2⟩ := ents_get c.1
    refine ⟨PySem.W.mg_of X G (He.eqO_ok c.2), t, fun z => ?_⟩
    have e : PySem.W.nsIn K (He.ga K x) z = (match es.toList.find? (·.key.isStr z) with
      | some e => some (some e.val)
      | none => if es.toList.any (·.refKey) then none else some none) := by
      unfold PySem.W.nsIn
      rw [hl]
      rfl
    have g := g2 z
    cases q : kvs.lookup z with
    | some d =>
      rw [q] at g
      obtain ⟨en, v, e1, r, f⟩ := g
      exact ⟨some en.val, by rw [e, e1], en.val, v, rfl, r, f⟩
    | none =>
      rw [q] at g
      exact ⟨none, by rw [e, g, g1]; rfl, rfl⟩
  · cases c
def tKGet (K : PySem.W.Frag) (kvs : List (Str × D)) (ty tx : TE) : TE := fun σ H Q => ty σ H fun y H2 => tx σ H2 fun z H3 => ∃ s, y = .str s ∧ (match kvs.lookup s with
  | some d => ∀ v, (∀ B, Fz K B d v) → Q v H3
  | none => Q z H3)
theorem pe_kget {X : Cx} {x : Str} {kvs : List (Str × D)} {e f : Expr} {apos cpos np : Pos} {ty tx : TE} (hg : Gl X x) (T : TbC X.K X.w X.mg x kvs) (he : PE X e ty) (hf : PE X f tx) (m : M2 X (.Name x np) "get" apos e f cpos) (hdb : (x == ("__debug__" : Str)) = false := by decide) :
    PE X (.Call (.Attribute (.Name x np) "get" apos) [e, f] [] cpos) (tKGet X.K kvs ty tx) := by
  refine ⟨fun pins s σ H Q I h => ?_⟩
  obtain ⟨es, n, D⟩ := T.tab
  refine wpAny_Call_method m.base m.few m.line PySem.F.plainAttrs_dict PySem.F.slot_dict_get PySem.F.type_dict_get (ld_glob I hg T.at_ ?_ hdb)
  have mo := PySem.W.mapOf_K (prog := X.prog) (w := X.w) I.kIn D.at_ D.lit
  refine ⟨mo.typeIs, fun b q => ?_, ?_⟩
  · cases q
    exact ⟨_, I.kIn _ _ D.at_, rfl⟩
  · rw [m.trees]
    refine Calls.callWith_builtin rfl (Calls.evalArgs_plain (Calls.spliced_cons (thn (he.run pins s σ H _ I h) fun iv s2 ⟨y, H2, I2, ry, q2⟩ =>
      Calls.spliced_cons (thn (hf.run pins s2 σ H2 _ I2 q2) fun fv s3 ⟨z, H3, I3, rz, sx, ey, q3⟩ => Calls.spliced_nil ?_))))
    subst ey
    obtain ⟨t, rfl⟩ := ry
    have mo3 := PySem.W.mapOf_K (prog := X.prog) (w := X.w) I3.kIn D.at_ D.lit
    refine call_meetsIn PySem.F.slot_dict_get mo3.typeIs PySem.F.entry_dict_get (PySem.F.args_dict_get_3 _ _ _) (meets_dict_get_default (strKind X.prog X.w) _ (strKind_is X.prog X.w sx t) D.low fv) ⟨_, mo3, ?_⟩
    obtain ⟨r, e1, g⟩ := T.get sx
    show EP X pins σ Q ((findBy Value.isStrOf es sx).getD fv) _
    rw [PySem.W.find_K D.at_ e1]
    cases q : kvs.lookup sx with
    | some d =>
      rw [q] at g q3
      obtain ⟨u, v, rfl, r, f⟩ := g
      exact ⟨v, H3, I3.tok _, r, q3 v f⟩
    | none =>
      rw [q] at g q3
      subst g
      exact ⟨z, H3, I3.tok _, rz, q3⟩
def dKGet (kvs : List (Str × D)) (fe fx : DE) : DE := fun e M => (fe e M).bind fun a M1 => (fx e M1).bind fun b M2 => match a with
  | .val (.str s) => (match kvs.lookup s with
    | some d => .ok (.val d) M2
    | none => .ok b M2)
  | _ => .stuck
theorem s_kget {K : PySem.W.Frag} {Wx : WX} {kvs : List (Str × D)} {ty tx : TE} {fe fx : DE} (he : SemE K Wx ty fe) (hx : SemE K Wx tx fx) : SemE K Wx (tKGet K kvs ty tx) (dKGet kvs fe fx) := fun B H M as e σ Q st en h =>
  he B H M as e σ _ st en (Post.bind h fun a M1 B1 H1 as1 x _ sb pre st1 rl h1 =>
    hx B1 H1 M1 as1 e σ _ st1 (en.mono sb pre) (Post.bind h1 fun b M2 B2 H2 as2 y _ sb2 pre2 st2 rl2 h2 => by
      cases a with
      | ptr k => exact h2.elim
      | val d =>
        cases d with
        | str s =>
          refine ⟨s, str_ok rl, ?_⟩
          have h3 : Post K (relW K) B2 as2 (match kvs.lookup s with
            | some d => .ok (.val d) M2
            | none => .ok b M2) Q (fun c d H' => Wx c d σ H') := h2
          split at h3
          · rename_i d e1
            exact fun v f => h3.fz st2 (f B2)
          · exact h3.same st2 rl2
        | _ => exact h2.elim))
/-! ### defs -/
/-- a def as it is known to its callers -/
structure FnG (P : Program) (w : World) (K : PySem.W.Frag) (mg : Str → Option Value) (base : Heap) (k : Nat) (x : Str) (f : Addr) (fd : FuncData) (ps : List Str) (m : List W → Store → R W) : Prop where
  ok : FnOk P w K mg base (L2.CX P w) k f fd ps (SpD K ps.length m)
  at_ : mg x = some (.ref f)
  kp : PySem.W.keepIn K (.ref f) = true
  b : Binds K fd ps []
section
variable {X : Cx} {W : WX} {k j : Nat} {f : Addr} {fd : FuncData} {ps : List Str} {m : List Dn.W → Store → R Dn.W} {x : Str} {p pos : Pos} {e : Expr} {es : List Expr} {t : TA}
theorem pe_c (G : FnG X.prog X.w X.K X.mg X.base k x f fd ps m) (hr : Room j X.A) (hk : k ≤ j) (tk : Takes X W) (hg : Gl X x) (ha : PA X (e :: es) t) (hdb : (x == ("__debug__" : Str)) = false := by decide)
    (he : starEach (e :: es) X.env = (false, eval e X.env) :: starEach es X.env := by rfl) (hpl : (backTo pos (starEach es X.env)).any (·.1) = false := by rfl) : PE X (.Call (.Name x p) (e :: es) [] pos) (tCallS (SpD X.K ps.length m) (WE W) t) :=
  pe_callS G.ok (hr.mono hk) hg G.at_ G.kp G.b (fun σ => passAt tk σ) ha hdb he hpl
theorem pe_c0 (G : FnG X.prog X.w X.K X.mg X.base k x f fd ps m) (hr : Room j X.A) (hk : k ≤ j) (tk : Takes X W) (hg : Gl X x) (hdb : (x == ("__debug__" : Str)) = false := by decide) : PE X (.Call (.Name x p) [] [] pos) (tCallS (SpD X.K ps.length m) (WE W) tNil) := by
  refine ⟨fun pins s σ H Q I h => ?_⟩
  refine wpAny_Call_Name_kw (ld_glob I hg G.at_ ?_ hdb)
  exact PySem.W.callWith_K0 I.kIn G.kp (run_fnS (us := []) G.ok (hr.mono hk) G.b (passAt tk σ) I .nil h)
end
theorem fun_of {K : PySem.W.Frag} {x qual : Str} {st : Stmt} {f : Addr} {fd : FuncData} (F : FunD K x qual (defArgs st) (defBody st) (defScope st) [] [] f fd) : Fun K x qual st f fd := by
  obtain ⟨⟨oc, od, dV, kV, doc, pm, an, cdv, ct, osl, e, lk, hcd, hD, _⟩, kp⟩ := F
  rcases hD with ⟨_, rfl⟩ | ⟨n, _⟩
  · exact ⟨⟨oc, od, kV, doc, pm, an, cdv, ct, osl, e, lk, hcd⟩, kp⟩
  · exact absurd rfl n
/-! ### the end -/
/-- what may lie behind a call, in any world -/
def CXA (P : Program) : CXT := fun outer H s E u s' => ∃ w, L2.CX P w outer H s E u s'
theorem FnOk.anyw {P : Program} {w : World} {K : PySem.W.Frag} {mg : Str → Option Value} {base : Heap} {k : Nat} {f : Addr} {fd : FuncData} {ps : List Str} {sp : Sp} (F : FnOk P w K mg base (L2.CX P w) k f fd ps sp) : FnOk P w K mg base (CXA P) k f fd ps sp :=
  ⟨F.len, fun A outer s H args us vs Q E hr he hb hv hs => codeAny_mono (F.run A outer s H args us vs Q E hr he hb hv hs) fun r s' q => by
    cases r with
    | ok fl => cases fl <;> exact q
    | error e => exact ⟨w, q⟩⟩
theorem cxa_none {P : Program} {H : Hp} {s s' : Shared} {e : Value} (h : CXA P [] H s (fun _ _ _ => False) e s') : False := by
  obtain ⟨_, _, _, _, _, _, _, _, _, _, _, _, _, z⟩ := h
  exact z
/-- the script, frozen -/
def scriptD (ns : List Int) : W := .val (.rls (ns.map .int))
theorem ints_fz {K : PySem.W.Frag} {B : Hp} (ns : List Int) : FzL K B (ns.map .int) (ns.map V.int) := by
  induction ns with
  | nil => exact .nil
  | cons n ns ih => exact .cons (.int n) ih
/-- the law's promise from its value on every script -/
theorem law_sp {K : PySem.W.Frag} {m : List W → Store → R W} {n : Nat} (h : ∀ ns : List Int, ns.length ≤ n → ∃ M, m [scriptD ns] [] = .ok (.val (.bl true)) M) {H : Hp} {a : Addr} {ns : List Int} (hl : ns.length ≤ n) (hS : SqL K H a (ns.map V.int)) :
    SpD K 1 m [.ref a] H (fun v _ => v = .bl true) fun _ _ _ => False := by
  refine ⟨rfl, H, [], [], [scriptD ns], ⟨Same.refl H, rfl, List.nodup_nil, fun k p c h1 _ => by simp at h1⟩, .cons (.val (.rls hS (ints_fz ns))) .nil, ?_⟩
  obtain ⟨M, e⟩ := h ns hl
  rw [e]
  exact fun B' H' as' x sb pre st rl => isB_ok rl
end Dn
end

section
set_option Elab.async false
set_option linter.all false
set_option maxRecDepth 100000
set_option maxHeartbeats 2000000
/-! Dn9: alternatives; dicts. -/
namespace Dn
open PySem PySem.Spec PyProof.Rows L2
/-! ### one of two rules -/
section
variable {X : Cx}
theorem pe_or2 {e : Expr} {t t' : TE} (h : PE X e t) (h' : PE X e t') : PE X e (fun σ H Q => t σ H Q ∨ t' σ H Q) := ⟨fun pins s σ H Q I q => q.elim (h.run pins s σ H Q I) (h'.run pins s σ H Q I)⟩
theorem ps_or2 {st : Stmt} {t t' : TS} (h : PS X st t) (h' : PS X st t') : PS X st (fun D σ H => t D σ H ∨ t' D σ H) := ⟨fun pins s σ H D I q => q.elim (h.run pins s σ H D I) (h'.run pins s σ H D I)⟩
theorem pi_or2 {tg e : Expr} {t t' : TI} (h : PI X tg e t) (h' : PI X tg e t') : PI X tg e (fun σ H Q => t σ H Q ∨ t' σ H Q) := ⟨fun pins s σ H Q I q => q.elim (h.run pins s σ H Q I) (h'.run pins s σ H Q I)⟩
end
def orE {α : Type} (f g : Env → Store → R α) : Env → Store → R α := fun e M => match f e M with
  | .stuck => g e M
  | .ok a M' => .ok a M'
  | .exc c fs M' => .exc c fs M'
theorem s_or2 {α β : Type} {K : PySem.W.Frag} {rel : Hp → List Addr → α → β → Prop} {Wx : WX} {t t' : L2.St → Hp → (β → Hp → Prop) → Prop} {f g : Env → Store → R α} (h : SemG K rel Wx t f) (h' : SemG K rel Wx t' g) : SemG K rel Wx (fun σ H Q => t σ H Q ∨ t' σ H Q) (orE f g) := fun B H M as e σ Q st en p => by
  unfold orE at p
  cases q : f e M with
  | stuck => rw [q] at p; exact .inr (h' B H M as e σ Q st en p)
  | ok a M' => rw [q] at p; exact .inl (h B H M as e σ Q st en (by rw [q]; exact p))
  | exc c fs M' => rw [q] at p; exact .inl (h B H M as e σ Q st en (by rw [q]; exact p))
def orS (f g : DS) : DS := fun e M => match f e M with
  | .stuck => g e M
  | .nx e M => .nx e M
  | .rt w M => .rt w M
  | .bk e M => .bk e M
  | .ct e M => .ct e M
  | .exc c fs e M => .exc c fs e M
theorem s_orS {K : PySem.W.Frag} {Wx : WX} {t t' : TS} {f g : DS} (h : SemS K Wx t f) (h' : SemS K Wx t' g) : SemS K Wx (fun D σ H => t D σ H ∨ t' D σ H) (orS f g) := fun B H M as e σ D st en p => by
  unfold orS at p
  cases q : f e M with
  | stuck => rw [q] at p; exact .inr (h' B H M as e σ D st en p)
  | nx _ _ => rw [q] at p; exact .inl (h B H M as e σ D st en (by rw [q]; exact p))
  | rt _ _ => rw [q] at p; exact .inl (h B H M as e σ D st en (by rw [q]; exact p))
  | bk _ _ => rw [q] at p; exact .inl (h B H M as e σ D st en (by rw [q]; exact p))
  | ct _ _ => rw [q] at p; exact .inl (h B H M as e σ D st en (by rw [q]; exact p))
  | exc _ _ _ _ => rw [q] at p; exact .inl (h B H M as e σ D st en (by rw [q]; exact p))
section
variable {K : PySem.W.Frag} {B B' B1 H H' : Hp} {as as' as1 : List Addr} {M M' : Store} {Wx : WX} {e : Env} {σ : L2.St}
variable {ta tb tc te : TE} {fa fb fc fe : DE} {tr : TA} {fr : DA}
/-! ### -x -/
def gNeg (a : W) (M : Store) : R W := match rd M a with
  | .val (.int i) => .ok (.val (.int (-i))) M
  | _ => .stuck
theorem g_neg : Sem1 K (rU fun i => .int (-i)) gNeg := fun B H M as a x Q E st ra h => by
  unfold gNeg at h
  have ra' := rd_ok st ra
  split at h
  · rename_i i ea
    rw [ea] at ra'
    cases int_ok ra'
    exact ⟨i, rfl, h.fz st (.int _)⟩
  · exact h.elim
theorem room65 {k : Nat} {A : Around} (r : Room k A) : A.units + 65 < cLine := by have := r.un; omega
/-- pairs of values -/
inductive relP (K : PySem.W.Frag) (B : Hp) (as : List Addr) : List (W × W) → List (V × V) → Prop
  | nil : relP K B as [] []
  | cons {k v : W} {x y : V} {ps : List (W × W)} {qs : List (V × V)} : WR K B as k x → WR K B as v y → relP K B as ps qs → relP K B as ((k, v) :: ps) ((x, y) :: qs)
/-! ### keys -/
def valW {κ : Type} [DecidableEq κ] (kvs : List (κ × W)) (k : κ) : Option W := (kvs.find? fun kv => decide (kv.1 = k)).map (·.2)
def putW {κ : Type} [DecidableEq κ] (kvs : List (κ × W)) (k : κ) (v : W) : List (κ × W) :=
  if (kvs.any fun kv => decide (kv.1 = k)) = true then kvs.map (fun kv => if kv.1 = k then (kv.1, v) else kv) else kvs ++ [(k, v)]
theorem WK.val {κ : Type} [DecidableEq κ] {k : κ} : ∀ {ws : List (κ × W)} {vs : List (κ × V)}, WK K B as ws vs → (match valW ws k with
  | some w => ∃ v, valV vs k = some v ∧ WR K B as w v
  | none => valV vs k = none)
  | _, _, .nil => rfl
  | _, _, .cons (k := j) (w := w) (v := v) (ws := ws) (vs := vs) a t => by
    unfold valW valV
    rw [List.find?_cons, List.find?_cons]
    by_cases hj : j = k
    · simp only [hj, decide_true]
      exact ⟨v, rfl, a⟩
    · simp only [hj, decide_false]
      exact WK.val t
theorem WK.any {κ : Type} {p : κ → Bool} : ∀ {ws : List (κ × W)} {vs : List (κ × V)}, WK K B as ws vs → (vs.any fun q => p q.1) = (ws.any fun q => p q.1)
  | _, _, .nil => rfl
  | _, _, .cons a t => by rw [List.any_cons, List.any_cons, WK.any t]
theorem WK.length {κ : Type} : ∀ {ws : List (κ × W)} {vs : List (κ × V)}, WK K B as ws vs → vs.length = ws.length
  | _, _, .nil => rfl
  | _, _, .cons a t => congrArg Nat.succ t.length
theorem WK.append {κ : Type} : ∀ {ws ws' : List (κ × W)} {vs vs' : List (κ × V)}, WK K B as ws vs → WK K B as ws' vs' → WK K B as (ws ++ ws') (vs ++ vs')
  | _, _, _, _, .nil, h => h
  | _, _, _, _, .cons a t, h => .cons a (WK.append t h)
theorem WK.map {κ : Type} [DecidableEq κ] {k : κ} {w : W} {v : V} (r : WR K B as w v) : ∀ {ws : List (κ × W)} {vs : List (κ × V)}, WK K B as ws vs → WK K B as (ws.map fun kv => if kv.1 = k then (kv.1, w) else kv) (vs.map fun kv => if kv.1 = k then (kv.1, v) else kv)
  | _, _, .nil => .nil
  | _, _, .cons (k := j) a t => by
    rw [List.map_cons, List.map_cons]
    by_cases hj : j = k
    · simp only [hj, if_true]
      exact .cons r (WK.map r t)
    · simp only [hj, if_false]
      exact .cons a (WK.map r t)
theorem WK.put {κ : Type} [DecidableEq κ] {k : κ} {w : W} {v : V} {ws : List (κ × W)} {vs : List (κ × V)} (h : WK K B as ws vs) (r : WR K B as w v) : WK K B as (putW ws k w) (putK vs k v) := by
  unfold putW putK
  rw [h.any (p := fun x => decide (x = k))]
  split
  · exact h.map r
  · exact h.append (.cons r .nil)
def keyW : W → Option Key
  | .val (.int i) => some (.inl i)
  | .val (.str x) => some (.inr x)
  | _ => none
theorem keyW_ok {w : W} {v : V} {k : Key} (h : WR K B as w v) (e : keyW w = some k) : v = kV k := by
  cases h with
  | val f =>
    cases f with
    | int i => cases e; rfl
    | str i => cases e; rfl
    | _ => cases e
  | ptr _ => cases e
def keyD : D → Option Key
  | .int i => some (.inl i)
  | .str x => some (.inr x)
  | _ => none
def keyT (M : Store) (w : W) : Option (List Key) := (tvw M w).bind (optAll keyD)
theorem keyDs_ok : ∀ {ds : List D} {vs : List V} {ks : List Key}, FzL K B ds vs → optAll keyD ds = some ks → vs = ks.map kV
  | _, _, _, .nil, h => by cases h; rfl
  | _, _, _, .cons (d := d) (ds := ds) a t, h => by
    unfold optAll at h
    cases q : keyD d with
    | none => rw [q] at h; cases h
    | some x =>
      cases q2 : optAll keyD ds with
      | none => rw [q, q2] at h; cases h
      | some l =>
        rw [q, q2] at h
        cases h
        rw [keyDs_ok t q2]
        cases a with
        | int i => cases q; rfl
        | str i => cases q; rfl
        | _ => cases q
/-! ### d[k] = v -/
def dPutD (fv fo fi : DE) : DS := fun e M => (fv e M).st e fun w M1 => (fo e M1).st e fun o M2 => (fi e M2).st e fun i M3 => match o, keyW i with
  | .ptr k, some ky => (match M3[k]? with
    | some (.dic kvs) => if kvs.length < sizeLine then .nx e (M3.set k (.dic (putW kvs ky w))) else .stuck
    | _ => .stuck)
  | _, _ => .stuck
theorem s_putD (hv : SemE K Wx tc fc) (ho : SemE K Wx ta fa) (hi : SemE K Wx tb fb) : SemS K Wx (sDPut ta tb tc) (dPutD fc fa fb) := fun B H M as e σ D st en h =>
  hv B H M as e σ _ st en (SPost.bind en h fun w M1 B1 H1 as1 x _ sb pre st1 rl h1 =>
    ho B1 H1 M1 as1 e σ _ st1 (en.mono sb pre) (SPost.bind (en.mono sb pre) h1 fun o M2 B2 H2 as2 y _ sb2 pre2 st2 rl2 h2 =>
      hi B2 H2 M2 as2 e σ _ st2 (en.mono (sb.trans sb2) (pre.trans pre2)) (SPost.bind (en.mono (sb.trans sb2) (pre.trans pre2)) h2 fun i M3 B3 H3 as3 z _ sb3 pre3 st3 rl3 h3 => by
        cases o with
        | val d => exact h3.elim
        | ptr k =>
          cases ek : keyW i with
          | none => simp only [ek] at h3; exact h3.elim
          | some ky =>
            simp only [ek] at h3
            have ro := rl2.mono sb3 pre3
            cases ro with
            | @ptr _ p hk =>
              obtain ⟨c, ec, rc⟩ := st3.hp hk
              rw [ec] at h3
              cases c with
              | dic kvs =>
                obtain ⟨nb, vs, hp, r⟩ := rc
                have h4 : SPost K B3 as3 (if kvs.length < sizeLine then .nx e (M3.set k (.dic (putW kvs ky w))) else .stuck) D Wx := h3
                split at h4
                · rename_i hl
                  have ez := keyW_ok rl3 ek
                  subst ez
                  exact ⟨p, upd H3 p (.dK (putK vs ky x)), rfl, DPut.k hp (by rw [r.length]; exact hl), h4 B3 _ as3 σ (Same.refl B3) (pre_refl as3) (st3.put hk nb (fun y z => by rw [hp] at z; cases z) ⟨nb, _, upd_same, r.put (rl.mono (sb2.trans sb3) (pre2.trans pre3))⟩) (en.mono ((sb.trans sb2).trans sb3) ((pre.trans pre2).trans pre3))⟩
                · exact h4.elim
              | _ => exact h3.elim)))
/-! ### d.get(k, x), d.get(k), d[k] -/
/-- what a dict holds at a key now -/
def dGetW (M : Store) (o i : W) : Option (Option W) := match o with
  | .ptr k => (match M[k]? with
    | some (.dic kvs) => (keyW i).map fun ky => valW kvs ky
    | _ => none)
  | _ => none
def GotW (K : PySem.W.Frag) (B : Hp) (as : List Addr) (rv : Option V) : Option W → Prop
  | some w => ∃ v, rv = some v ∧ WR K B as w v
  | none => rv = none
theorem dGetW_ok {o i : W} {x y : V} {r : Option W} (st : StR K B H M as) (ro : WR K B as o x) (ri : WR K B as i y) (h : dGetW M o i = some r) : ∃ a rv, x = .ref a ∧ DGet H a y rv ∧ GotW K B as rv r := by
  unfold dGetW at h
  cases ro with
  | val d => cases h
  | @ptr k p hk =>
    obtain ⟨c, ec, rc⟩ := st.hp hk
    simp only [ec] at h
    cases c with
    | dic kvs =>
      cases ek : keyW i with
      | none => simp [ek] at h
      | some ky =>
        simp [ek] at h
        obtain ⟨nb, vs, hp, r2⟩ := rc
        have ez := keyW_ok ri ek
        subst ez
        refine ⟨p, _, rfl, DGet.k hp, ?_⟩
        rw [← h]
        have q := r2.val (k := ky)
        cases z : valW kvs ky with
        | some w => rw [z] at q; exact q
        | none => rw [z] at q; exact q
    | _ => cases h
def isDicW (M : Store) (o : W) : Bool := match o with
  | .ptr k => (match M[k]? with
    | some (.dic _) => true
    | _ => false)
  | _ => false
theorem isDicW_ok {o : W} {x : V} (st : StR K B H M as) (ro : WR K B as o x) (h : isDicW M o = true) : ∃ a, x = .ref a ∧ IsD H a := by
  unfold isDicW at h
  cases ro with
  | val d => cases h
  | @ptr k p hk =>
    obtain ⟨c, ec, rc⟩ := st.hp hk
    simp only [ec] at h
    cases c with
    | dic kvs =>
      obtain ⟨nb, vs, hp, r2⟩ := rc
      exact ⟨p, rfl, .inl ⟨vs, .inl hp⟩⟩
    | _ => cases h
def dGet2 (fo fi fx : DE) : DE := fun e M => (fo e M).bind fun o M1 => if isDicW M1 o = true then (fi e M1).bind fun i M2 => (fx e M2).bind fun d M3 => match dGetW M3 o i with
  | some (some w) => .ok w M3
  | some none => .ok d M3
  | none => .stuck else .stuck
theorem s_get2 (ho : SemE K Wx ta fa) (hi : SemE K Wx tb fb) (hx : SemE K Wx tc fc) : SemE K Wx (tDGet2 ta tb tc) (dGet2 fa fb fc) := fun B H M as e σ Q st en h =>
  ho B H M as e σ _ st en (Post.bind h fun o M1 B1 H1 as1 x _ sb pre st1 rl h1 => by
    split at h1
    · rename_i hd
      obtain ⟨a, rfl, isd⟩ := isDicW_ok st1 rl hd
      refine ⟨a, rfl, isd, hi B1 H1 M1 as1 e σ _ st1 (en.mono sb pre) (Post.bind h1 fun i M2 B2 H2 as2 y _ sb2 pre2 st2 rl2 h2 =>
        hx B2 H2 M2 as2 e σ _ st2 (en.mono (sb.trans sb2) (pre.trans pre2)) (Post.bind h2 fun d M3 B3 H3 as3 z _ sb3 pre3 st3 rl3 h3 => ?_))⟩
      cases q : dGetW M3 o i with
      | none => simp only [q] at h3; exact h3.elim
      | some r =>
        obtain ⟨a', rv, ea, g, rr⟩ := dGetW_ok st3 (rl.mono (sb2.trans sb3) (pre2.trans pre3)) (rl2.mono sb3 pre3) q
        cases ea
        cases r with
        | some w =>
          obtain ⟨v, rfl, rw'⟩ := rr
          simp only [q] at h3
          exact ⟨_, g, h3.same st3 rw'⟩
        | none =>
          subst rr
          simp only [q] at h3
          exact ⟨_, g, h3.same st3 rl3⟩
    · exact h1.elim)
/-! ### {k: v, ..} -/
abbrev DP := Env → Store → R (List (W × W))
def SemP (K : PySem.W.Frag) (Wx : WX) (trs : List (TE × TE)) (f : DP) : Prop := SemG K (relP K) Wx (tPairs trs) f
theorem s_p0 : SemP K Wx [] (fun _ M => .ok [] M) := fun B H M as e σ Q st en h => h B H as [] (Same.refl B) (pre_refl as) st .nil
def dPc (fk fv : DE) (fr : DP) : DP := fun e M => (fk e M).bind fun k M1 => (fv e M1).bind fun v M2 => (fr e M2).bind fun r M3 => .ok ((k, v) :: r) M3
theorem s_pc {trs : List (TE × TE)} {fr : DP} (hk : SemE K Wx ta fa) (hv : SemE K Wx tb fb) (hr : SemP K Wx trs fr) : SemP K Wx ((ta, tb) :: trs) (dPc fa fb fr) := fun B H M as e σ Q st en h =>
  hk B H M as e σ _ st en (Post.bind h fun k M1 B1 H1 as1 x _ sb pre st1 rl h1 =>
    hv B1 H1 M1 as1 e σ _ st1 (en.mono sb pre) (Post.bind h1 fun v M2 B2 H2 as2 y _ sb2 pre2 st2 rl2 h2 =>
      hr B2 H2 M2 as2 e σ _ st2 (en.mono (sb.trans sb2) (pre.trans pre2)) (Post.bind h2 fun r M3 B3 H3 as3 z _ sb3 pre3 st3 rl3 h3 =>
        h3 B3 H3 as3 _ (Same.refl B3) (pre_refl as3) st3 (.cons (rl.mono (sb2.trans sb3) (pre2.trans pre3)) (rl2.mono sb3 pre3) rl3))))
def keysP : List (W × W) → Option (List (Key × W))
  | [] => some []
  | (k, v) :: r => match keyW k, keysP r with
    | some a, some b => some ((a, v) :: b)
    | _, _ => none
theorem keysP_ok : ∀ {ps : List (W × W)} {qs : List (V × V)} {kvs : List (Key × W)}, relP K B as ps qs → keysP ps = some kvs → ∃ ws, qs = ws.map (fun kv => (kV kv.1, kv.2)) ∧ WK K B as kvs ws
  | _, _, _, .nil, h => by cases h; exact ⟨[], rfl, .nil⟩
  | _, _, _, .cons (k := k) (ps := ps) a b t, h => by
    unfold keysP at h
    cases q : keyW k with
    | none => rw [q] at h; cases h
    | some x =>
      cases q2 : keysP ps with
      | none => rw [q, q2] at h; cases h
      | some l =>
        rw [q, q2] at h
        cases h
        obtain ⟨ws, rfl, r⟩ := keysP_ok t q2
        cases keyW_ok a q
        exact ⟨(x, _) :: ws, rfl, .cons b r⟩
def mergeW (kvs more : List (Key × W)) : List (Key × W) := more.foldl (fun acc kv => putW acc kv.1 kv.2) kvs
theorem WK.merge {more : List (Key × W)} {rs : List (Key × V)} (h : WK K B as more rs) : ∀ {kvs : List (Key × W)} {vs : List (Key × V)}, WK K B as kvs vs → WK K B as (mergeW kvs more) (mergeK vs rs) := by
  induction h with
  | nil => exact fun h => h
  | cons a t ih => exact fun h => ih (h.put a)
def dDisp (fp : DP) : DE := fun e M => (fp e (M ++ [.dic []])).bind fun ps M1 => match keysP ps, M1[M.length]? with
  | some kvs, some (.dic []) => if kvs.length ≤ 15 then .ok (.ptr M.length) (M1.set M.length (.dic (mergeW [] kvs))) else .stuck
  | _, _ => .stuck
theorem s_disp {trs : List (TE × TE)} {fp : DP} (hp : SemP K Wx trs fp) : SemE K Wx (tDisp trs) (dDisp fp) := fun B H M as e σ Q st en h p hp0 => by
  have st1 : StR K B (upd H p (.dK [])) (M ++ [.dic []]) (as ++ [p]) := st.new hp0 ⟨same_none st.ex hp0, [], upd_same, .nil⟩
  have hk : (as ++ [p])[M.length]? = some p := newptr st
  have h' : Post K (relW K) B (as ++ [p]) (dDisp fp e M) Q (fun c d H' => Wx c d σ H') := Post.mono (Same.refl B) (List.prefix_append as [p]) h
  refine hp B _ (M ++ [.dic []]) (as ++ [p]) e σ _ st1 (en.mono (Same.refl B) (List.prefix_append as [p])) (Post.bind h' fun ps M1 B1 H1 as1 qs _ sb pre st2 rl h1 => ?_)
  cases e1 : keysP ps with
  | none => simp only [e1] at h1; exact h1.elim
  | some kvs =>
    obtain ⟨c, ec, rc⟩ := st2.hp (pre_get pre hk)
    simp only [e1, ec] at h1
    cases c with
    | dic z =>
      cases z with
      | nil =>
        obtain ⟨nb, vs, hv, rz⟩ := rc
        cases rz
        obtain ⟨ws, rfl, r⟩ := keysP_ok rl e1
        refine ⟨hv, ws, rfl, ?_⟩
        have h2 : Post K (relW K) B1 as1 (if kvs.length ≤ 15 then .ok (.ptr M.length) (M1.set M.length (.dic (mergeW [] kvs))) else .stuck) Q (fun c d H' => Wx c d σ H') := h1
        split at h2
        · rename_i hl
          exact ⟨by rw [r.length]; exact hl, h2 B1 _ as1 (.ref p) (Same.refl B1) (pre_refl as1) (st2.put (pre_get pre hk) nb (fun y z => by rw [hv] at z; cases z) ⟨nb, _, upd_same, WK.merge r .nil⟩) (.ptr (pre_get pre hk))⟩
        · exact h2.elim
      | cons _ _ => exact h1.elim
    | _ => exact h1.elim
/-! ### list(d) -/
def rListD (K : PySem.W.Frag) : List V → Hp → VK → Prop := fun xs H Q => rListOf K xs H Q ∨ ∃ (a : Addr) (kvs : List (Key × V)), xs = [.ref a] ∧ Rd H a (.dK kvs) ∧ ∀ p, H p = none → Q (.ref p) (upd H p (.lst (kvs.map fun kv => kV kv.1)))
theorem call_listX {X : Cx} (hc : X.calm = true) : CallR X (.type "list") (Dn.rListD X.K) := CallR.or call_list_of (call_listD hc)
def kD : Key → D
  | .inl i => .int i
  | .inr x => .str x
theorem kD_fz (k : Key) : Fz K B (kD k) (kV k) := by
  cases k with
  | inl i => exact .int i
  | inr x => exact .str x
theorem WK.keys : ∀ {ws : List (Key × W)} {vs : List (Key × V)}, WK K B as ws vs → WL K B as (ws.map fun kv => .val (kD kv.1)) (vs.map fun kv => kV kv.1)
  | _, _, .nil => .nil
  | _, _, .cons a t => .cons (.val (kD_fz _)) (WK.keys t)
def gListX (ws : List W) (M : Store) : R W := match ws with
  | [.ptr k] => (match M[k]? with
    | some (.dic kvs) => .ok (.ptr M.length) (M ++ [.lst (kvs.map fun kv => .val (kD kv.1))])
    | _ => gList ws M)
  | _ => gList ws M
theorem g_listX : SemC K (Dn.rListD K) gListX := fun B H M as ws xs Q E st rl h => by
  unfold gListX at h
  split at h
  · rename_i k
    split at h
    · rename_i kvs ek
      obtain ⟨v, rfl, ra⟩ := rl.one
      cases ra with
      | @ptr _ p hk =>
        obtain ⟨nb, vs, hv, r⟩ := st.cells k p _ hk ek
        exact .inr ⟨p, vs, rfl, .inl hv, fun l hl => h.newL st r.keys hl⟩
    · exact .inl (g_list B H M as _ xs Q E st rl h)
  · exact .inl (g_list B H M as _ xs Q E st rl h)
end
end Dn
end

section
set_option Elab.async false
set_option linter.all false
set_option maxRecDepth 100000
set_option maxHeartbeats 2000000
/-! Dn10: the rules with the written part K named (a comprehension's block has the same K, but says it by its own context). -/
namespace Dn
open PySem PySem.Spec PyProof.Rows L2
section
variable {X : Cx}
theorem k_add (K : PySem.W.Frag) (hK : X.K = K := by rfl) : OpR X (binaryOp .Add) (rAdd K) := by subst hK; exact op_addA
theorem k_eq (K : PySem.W.Frag) (hu : X.A.units + 64 < cLine) (hK : X.K = K := by rfl) : OpR X (compareOp .Eq) (rEqA K) := by subst hK; exact op_eqA hu
theorem k_ne (K : PySem.W.Frag) (hu : X.A.units + 64 < cLine) (hK : X.K = K := by rfl) : OpR X (compareOp .NotEq) (rNeA K) := by subst hK; exact op_neA hu
theorem k_in (K : PySem.W.Frag) (hu : X.A.units + 65 < cLine) (hK : X.K = K := by rfl) : OpR X (compareOp .In) (rInA K) := by subst hK; exact op_inA hu
theorem k_ni (K : PySem.W.Frag) (hu : X.A.units + 65 < cLine) (hK : X.K = K := by rfl) : OpR X (compareOp .NotIn) (rNiA K) := by subst hK; exact op_niA hu
theorem k_ix (K : PySem.W.Frag) (hK : X.K = K := by rfl) : IxR X (rIx K) := by subst hK; exact ix_seq
theorem k_sl (K : PySem.W.Frag) (hK : X.K = K := by rfl) : SlR X (rSl K) := by subst hK; exact sl_A
theorem k_len (K : PySem.W.Frag) (hK : X.K = K := by rfl) : CallR X (.builtin "len") (rLenA K) := by subst hK; exact call_lenA
theorem k_sum (K : PySem.W.Frag) (hc : X.calm = true := by rfl) (hK : X.K = K := by rfl) : CallR X (.builtin "sum") (rSum K) := by subst hK; exact cr_sum hc
theorem k_all (K : PySem.W.Frag) (hc : X.calm = true := by rfl) (hK : X.K = K := by rfl) : CallR X (.builtin "all") (rAll K) := by subst hK; exact cr_all hc
theorem k_any (K : PySem.W.Frag) (hc : X.calm = true := by rfl) (hK : X.K = K := by rfl) : CallR X (.builtin "any") (rAny K) := by subst hK; exact cr_any hc
theorem k_list (K : PySem.W.Frag) (hc : X.calm = true := by rfl) (hK : X.K = K := by rfl) : CallR X (.type "list") (Dn.rListD K) := by subst hK; exact call_listX hc
theorem k_tup (K : PySem.W.Frag) (hK : X.K = K := by rfl) : CallR X (.type "tuple") (rTupOf K) := by subst hK; exact call_tupA
theorem k_isi (K : PySem.W.Frag) (hK : X.K = K := by rfl) : CallR X (.builtin "isinstance") (rIsi K) := by subst hK; exact call_isi
theorem k_join (K : PySem.W.Frag) (hK : X.K = K := by rfl) : MtR X "str.join" (rJoin K) := by subst hK; exact mt_joinA
theorem k_seq {tg l : Expr} {tl : TE} (K : PySem.W.Frag) (hl : PE X l tl) (hK : X.K = K := by rfl) : PI X tg l (iSeq K tl) := by subst hK; exact pi_seq hl
theorem k_rev {e : Expr} {te : TE} {k : Nat} {p1 p2 p3 pos : Pos} (K : PySem.W.Frag) (he : PE X e te) (hK : X.K = K := by rfl) : PE X (.Subscript e (.Slice none none (some (.UnaryOp .USub (.Constant (.int 1) k p1) p2)) p3) pos) (tRevL K te) := by subst hK; exact pe_revL he
theorem k_gtup {es : List Expr} {k : Nat} {t : TGs} {n : Nat} {pos : Pos} (K : PySem.W.Frag) (hc : X.calm = true) (h : PGs X es t) (hn : (assignEach es X.env).length = n := by rfl) (hst : (assignEach es X.env).findIdx? (·.1) = none := by rfl) (hK : X.K = K := by rfl) : PG X (.Tuple es k pos) (L2.gTup K n t) := by subst hK; exact pg_tup hc h hn hst
theorem k_gl {K : PySem.W.Frag} {mg : Str → Option Value} {x : Str} {d : D} {pos : Pos} (h : GlC K mg x d) (hg : Gl X x := by rfl) (hK : X.K = K := by rfl) (hm : X.mg = mg := by rfl) (hd : (x == ("__debug__" : Str)) = false := by decide) : PE X (.Name x pos) (tGl K d) := by subst hK; subst hm; exact pe_gl hg h hd
theorem k_kget {K : PySem.W.Frag} {w : World} {mg : Str → Option Value} {x : Str} {kvs : List (Str × D)} {e f : Expr} {apos cpos np : Pos} {ty tx : TE} (T : TbC K w mg x kvs) (he : PE X e ty) (hf : PE X f tx) (m : M2 X (.Name x np) "get" apos e f cpos) (hg : Gl X x := by rfl) (hK : X.K = K := by rfl) (hw : X.w = w := by rfl) (hm : X.mg = mg := by rfl) (hdb : (x == ("__debug__" : Str)) = false := by decide) :
    PE X (.Call (.Attribute (.Name x np) "get" apos) [e, f] [] cpos) (tKGet K kvs ty tx) := by subst hK; subst hw; subst hm; exact pe_kget hg T he hf m hdb
variable {o e : Expr} {es : List Expr} {to : TE} {t : TA} {name : Str} {apos cpos : Pos} {T id : String} {r : V → List V → Hp → VK → Prop}
theorem k_bm0 (K : PySem.W.Frag) (pa : PlainAttrs T) (slot : Slot T name id) (hty : typeOf (.builtin id) = pure (.type "method_descriptor")) (hm : MtR X id r) (ho : PE X o to)
    (hbase : attributeBase o name X.env (eval o X.env) = eval o X.env := by rfl) (hline : (apos.endLine == cpos.line) = true := by rfl) (hK : X.K = K := by rfl) : PE X (.Call (.Attribute o name apos) [] [] cpos) (tBM0 K T r to) := by subst hK; exact pe_bm0 pa slot hty hm ho hbase hline
theorem k_bm (K : PySem.W.Frag) (pa : PlainAttrs T) (slot : Slot T name id) (hty : typeOf (.builtin id) = pure (.type "method_descriptor")) (hm : MtR X id r) (ho : PE X o to) (ha : PA X (e :: es) t)
    (hbase : attributeBase o name X.env (eval o X.env) = eval o X.env := by rfl)
    (hfew : ((backTo cpos (starEach (e :: es) X.env)).all (fun x => !x.1) && (backToKw cpos (keywordEach [] X.env)).all (fun x => x.1.isSome)
      && decide ((e :: es).length + ([] : List Keyword).length + (if ([] : List Keyword).isEmpty then 0 else 1) < 30)) = true := by rfl)
    (hline : (apos.endLine == cpos.line) = true := by rfl) (hs : starEach (e :: es) X.env = (false, eval e X.env) :: starEach es X.env := by rfl) (hplain : (backTo cpos (starEach es X.env)).any (·.1) = false := by rfl) (hK : X.K = K := by rfl) :
    PE X (.Call (.Attribute o name apos) (e :: es) [] cpos) (tBM K T r to t) := by subst hK; exact pe_bm pa slot hty hm ho ha hbase hfew hline hs hplain
variable {P : Program} {w : World} {K : PySem.W.Frag} {mg : Str → Option Value} {base : Heap} {W : WX} {k j n : Nat} {f : Addr} {fd : FuncData} {ps ks : List Str} {m : List Dn.W → Store → R Dn.W} {x : Str} {p pos : Pos} {pm : List Nat} {kws : List Keyword} {tk : TA}
theorem k_c (G : FnG P w K mg base k x f fd ps m) (hr : Room j X.A) (hk : k ≤ j) (tk : Takes X W) (ha : PA X (e :: es) t) (hg : Gl X x := by rfl) (hP : X.prog = P := by rfl) (hw : X.w = w := by rfl) (hK : X.K = K := by rfl) (hm : X.mg = mg := by rfl) (hB : X.base = base := by rfl) (hdb : (x == ("__debug__" : Str)) = false := by decide)
    (he : starEach (e :: es) X.env = (false, eval e X.env) :: starEach es X.env := by rfl) (hpl : (backTo pos (starEach es X.env)).any (·.1) = false := by rfl) : PE X (.Call (.Name x p) (e :: es) [] pos) (tCallS (SpD K ps.length m) (WE W) t) := by
  subst hP; subst hw; subst hK; subst hm; subst hB
  exact pe_c G hr hk tk hg ha hdb he hpl
theorem k_c0 (G : FnG P w K mg base k x f fd ps m) (hr : Room j X.A) (hk : k ≤ j) (tk : Takes X W) (hg : Gl X x := by rfl) (hP : X.prog = P := by rfl) (hw : X.w = w := by rfl) (hK : X.K = K := by rfl) (hm : X.mg = mg := by rfl) (hB : X.base = base := by rfl) (hdb : (x == ("__debug__" : Str)) = false := by decide) : PE X (.Call (.Name x p) [] [] pos) (tCallS (SpD K ps.length m) (WE W) tNil) := by
  subst hP; subst hw; subst hK; subst hm; subst hB
  exact pe_c0 G hr hk tk hg hdb
theorem k_cK (G : FnG P w K mg base k x f fd ps m) (hr : Room j X.A) (hk : k ≤ j) (tk : Takes X W) (hb : KBn K fd ps n ks (permL pm) (permL pm)) {tk' : TA} (ha : PA X (e :: es) t) (hkw : PK X kws tk') (hg : Gl X x := by rfl) (hP : X.prog = P := by rfl) (hw : X.w = w := by rfl) (hK : X.K = K := by rfl) (hm : X.mg = mg := by rfl) (hB : X.base = base := by rfl)
    (hall : (backToKw pos (keywordEach kws X.env)).all (·.1.isSome) = true := by rfl) (hks : (backToKw pos (keywordEach kws X.env)).filterMap (·.1) = ks := by rfl)
    (hdb : (x == ("__debug__" : Str)) = false := by decide) (he : starEach (e :: es) X.env = (false, eval e X.env) :: starEach es X.env := by rfl)
    (hpl : ((backTo pos (starEach (e :: es) X.env)).any (·.1) || (backToKw pos (keywordEach kws X.env)).any (·.1.isNone)) = false := by rfl) :
    PE X (.Call (.Name x p) (e :: es) kws pos) (tCallKS (SpD K ps.length m) (permL pm) (WE W) (tLen n t) (tLen ks.length tk')) := by
  subst hP; subst hw; subst hK; subst hm; subst hB
  exact pe_callKS G.ok (hr.mono hk) hg G.at_ G.kp hb (fun σ => passAt tk σ) ha hkw hall hks hdb he hpl
theorem k_cK0 (G : FnG P w K mg base k x f fd ps m) (hr : Room j X.A) (hk : k ≤ j) (tk : Takes X W) (hb : KBn K fd ps 0 ks (permL pm) (permL pm)) {tk' : TA} (hkw : PK X kws tk') (hg : Gl X x := by rfl) (hP : X.prog = P := by rfl) (hw : X.w = w := by rfl) (hK : X.K = K := by rfl) (hm : X.mg = mg := by rfl) (hB : X.base = base := by rfl)
    (hall : (backToKw pos (keywordEach kws X.env)).all (·.1.isSome) = true := by rfl) (hks : (backToKw pos (keywordEach kws X.env)).filterMap (·.1) = ks := by rfl)
    (hdb : (x == ("__debug__" : Str)) = false := by decide)
    (hpl : ((backTo pos (starEach [] X.env)).any (·.1) || (backToKw pos (keywordEach kws X.env)).any (·.1.isNone)) = false := by rfl) :
    PE X (.Call (.Name x p) [] kws pos) (tCallKS (SpD K ps.length m) (permL pm) (WE W) (tLen 0 tNil) (tLen ks.length tk')) := by
  subst hP; subst hw; subst hK; subst hm; subst hB
  exact pe_callKS0 G.ok (hr.mono hk) hg G.at_ G.kp hb (fun σ => passAt tk σ) hkw hall hks hdb hpl
end
end Dn
end

section
set_option Elab.async false
set_option linter.all false
set_option maxRecDepth 100000
set_option maxHeartbeats 2000000
/-! Dn11: evaluating denotations: what settle, the store's ends, comprehensions come to. -/
namespace Dn
open PySem PySem.Spec PyProof.Rows L2
/-! ### the store's end -/
theorem st_at0 {α : Type} {M : List α} {c : α} {ex : List α} : (M ++ c :: ex)[M.length]? = some c := by
  rw [List.getElem?_append_right (Nat.le_refl _)]; simp
theorem st_at {α : Type} {M ex : List α} {n : Nat} : (M ++ ex)[M.length + n]? = ex[n]? := by
  rw [List.getElem?_append_right (by omega), show M.length + n - M.length = n by omega]
theorem st_set0 {α : Type} {M : List α} {c d : α} {ex : List α} : (M ++ c :: ex).set M.length d = M ++ d :: ex := by
  rw [List.set_append_right _ _ (Nat.le_refl _)]; simp
theorem st_set {α : Type} {M ex : List α} {n : Nat} {d : α} : (M ++ ex).set (M.length + n) d = M ++ ex.set n d := by
  rw [List.set_append_right _ _ (by omega), show M.length + n - M.length = n by omega]
theorem st_lt {α : Type} {M ex : List α} {k : Nat} {c : α} (h : M[k]? = some c) : (M ++ ex)[k]? = some c := by
  have hk := (List.getElem?_eq_some_iff.mp h).1
  rw [List.getElem?_append_left hk]; exact h
theorem st_set_lt {α : Type} {M ex : List α} {k : Nat} {c d : α} (h : M[k]? = some c) : (M ++ ex).set k d = M.set k d ++ ex := by
  have hk := (List.getElem?_eq_some_iff.mp h).1
  rw [List.set_append_left _ _ hk]
theorem st_get_set {α : Type} {M : List α} {k : Nat} {c d : α} (h : M[k]? = some c) : (M.set k d)[k]? = some d := by
  have hk := (List.getElem?_eq_some_iff.mp h).1
  rw [List.getElem?_set_self hk]
theorem set_eta {α : Type} {M : List α} {k : Nat} {c : α} (h : M[k]? = some c) : M.set k c = M := by
  apply List.ext_getElem?
  intro i
  by_cases e : k = i
  · subst e
    rw [st_get_set h, h]
  · rw [List.getElem?_set_ne e]
theorem st_take {α : Type} {M ex : List α} : (M ++ ex).take M.length = M := by simp
/-! ### settle -/
theorem closed_app {M ex : Store} : Closed M (M ++ ex) := ⟨by simp, fun k c hk e => .inl (by rw [List.getElem?_append_left hk] at e; exact e)⟩
theorem closed_self {M : Store} : Closed M M := ⟨Nat.le_refl _, fun k c hk e => .inl e⟩
theorem closed_set {M ex : Store} {k : Nat} {c : Cell} (h : c.low M.length = true) : Closed M (M.set k c ++ ex) := ⟨by simp, fun j d hj e => by
  rw [List.getElem?_append_left (by simpa using hj)] at e
  by_cases q : k = j
  · subst q
    rw [List.getElem?_set_self hj] at e
    cases e
    exact .inr h
  · rw [List.getElem?_set_ne q] at e
    exact .inl e⟩
theorem settle_v0 {M : Store} {d : D} : settle M (.ok (.val d) M) = .ok (.val d) M := by
  unfold settle
  simp only [closed_self, if_true, List.take_length]
theorem settle_v {M ex : Store} {d : D} : settle M (.ok (.val d) (M ++ ex)) = .ok (.val d) M := by
  unfold settle
  simp only [closed_app, if_true, st_take]
theorem settle_vs {M : Store} {k : Nat} {c : Cell} {d : D} (h : c.low M.length = true) : settle M (.ok (.val d) (M.set k c)) = .ok (.val d) (M.set k c) := by
  have := closed_set (M := M) (ex := []) (k := k) h
  rw [List.append_nil] at this
  unfold settle
  simp only [this, if_true]
  congr 1
  rw [List.take_of_length_le (by simp)]
theorem settle_vsx {M ex : Store} {k : Nat} {c : Cell} {d : D} (h : c.low M.length = true) : settle M (.ok (.val d) (M.set k c ++ ex)) = .ok (.val d) (M.set k c) := by
  have := closed_set (M := M) (ex := ex) (k := k) h
  unfold settle
  simp only [this, if_true]
  congr 1
  rw [List.take_append_of_le_length (by simp), List.take_of_length_le (by simp)]
theorem settle_p {M ex : Store} {n : Nat} {c : Cell} (e : ex[n]? = some c) (h : c.low M.length = true) : settle M (.ok (.ptr (M.length + n)) (M ++ ex)) = .ok (.ptr M.length) (M ++ [c]) := by
  unfold settle
  simp only [closed_app, if_true, st_take, st_at, e, h]
  rw [if_neg (by omega)]
theorem settle_p0 {M ex : Store} {c : Cell} (h : c.low M.length = true) : settle M (.ok (.ptr M.length) (M ++ c :: ex)) = .ok (.ptr M.length) (M ++ [c]) := settle_p (n := 0) (ex := c :: ex) rfl h
theorem settle_ps {M ex : Store} {n k : Nat} {c d : Cell} (e : ex[n]? = some c) (h : c.low M.length = true) (h2 : d.low M.length = true) : settle M (.ok (.ptr (M.length + n)) (M.set k d ++ ex)) = .ok (.ptr M.length) (M.set k d ++ [c]) := by
  have cl := closed_set (M := M) (ex := ex) (k := k) h2
  have e1 : (M.set k d ++ ex)[M.length + n]? = some c := by
    rw [List.getElem?_append_right (by simp)]
    simp only [List.length_set, show M.length + n - M.length = n by omega, e]
  have e2 : (M.set k d ++ ex).take M.length = M.set k d := by
    rw [List.take_append_of_le_length (by simp), List.take_of_length_le (by simp)]
  unfold settle
  simp only [cl, if_true, e1, e2, h]
  rw [if_neg (by omega)]
theorem settle_old {M ex : Store} {k : Nat} (h : k < M.length) : settle M (.ok (.ptr k) (M ++ ex)) = .ok (.ptr k) M := by
  unfold settle
  simp only [closed_app, if_true, st_take, h]
theorem settle_old0 {M : Store} {k : Nat} (h : k < M.length) : settle M (.ok (.ptr k) M) = .ok (.ptr k) M := by
  have := settle_old (ex := []) h
  rwa [List.append_nil] at this
theorem settle_stuck {M : Store} : settle M .stuck = .stuck := rfl
/-! ### operations at values -/
section
variable {M : Store} {i j : Int} {x y : Str}
theorem ev_rd {d : D} : rd M (.val d) = .val d := rfl
theorem ev_rdp {k : Nat} {ws : List W} (h : M[k]? = some (.lst ws)) : rd M (.ptr k) = .ptr k := by
  show (match M[k]? with | some (.frz d) => W.val d | _ => .ptr k) = _
  rw [h]
theorem ev_addI : gAdd (.val (.int i)) (.val (.int j)) M = .ok (.val (.int (i + j))) M := rfl
theorem ev_subI : gSub (.val (.int i)) (.val (.int j)) M = .ok (.val (.int (i - j))) M := rfl
theorem ev_ltI : gLt (.val (.int i)) (.val (.int j)) M = .ok (.val (.bl (decide (i < j)))) M := rfl
theorem ev_leI : gLe (.val (.int i)) (.val (.int j)) M = .ok (.val (.bl (decide (i ≤ j)))) M := rfl
theorem ev_gtI : gGt (.val (.int i)) (.val (.int j)) M = .ok (.val (.bl (decide (j < i)))) M := rfl
theorem ev_geI : gGe (.val (.int i)) (.val (.int j)) M = .ok (.val (.bl (decide (j ≤ i)))) M := rfl
theorem ev_eqI : gEq (.val (.int i)) (.val (.int j)) M = .ok (.val (.bl (decide (i = j)))) M := rfl
theorem ev_neI : gNe (.val (.int i)) (.val (.int j)) M = .ok (.val (.bl (!decide (i = j)))) M := rfl
theorem ev_eqS : gEq (.val (.str x)) (.val (.str y)) M = .ok (.val (.bl (decide (x = y)))) M := rfl
theorem ev_neS : gNe (.val (.str x)) (.val (.str y)) M = .ok (.val (.bl (!decide (x = y)))) M := rfl
theorem ev_modI (h : 0 < j) : gMod (.val (.int i)) (.val (.int j)) M = .ok (.val (.int (i % j))) M := by
  show (if decide (0 < j) = true then _ else _) = _
  rw [if_pos (decide_eq_true h)]
theorem ev_divI (h : 0 < j) (h2 : j.natAbs.log2 < 9000) : gDiv (.val (.int i)) (.val (.int j)) M = .ok (.val (.int (i / j))) M := by
  show (if (decide (0 < j) && decide (j.natAbs.log2 < 9000)) = true then _ else _) = _
  rw [if_pos (by simp [h, h2])]
theorem ev_mulI (h : i.natAbs.log2 + j.natAbs.log2 < 1000000) : gMul (.val (.int i)) (.val (.int j)) M = .ok (.val (.int (i * j))) M := by
  show (if _ then _ else _) = _
  rw [if_pos h]
theorem ev_addS (h : x.length + y.length ≤ sizeLine) : gAdd (.val (.str x)) (.val (.str y)) M = .ok (.val (.str (x ++ y))) M := by
  show (if _ then _ else _) = _
  rw [if_pos h]
theorem ev_negI : gNeg (.val (.int i)) M = .ok (.val (.int (-i))) M := rfl
theorem ev_absI : gAbs [.val (.int i)] M = .ok (.val (.int (if i < 0 then -i else i))) M := rfl
theorem ev_intI : gInt [.val (.int i)] M = .ok (.val (.int i)) M := rfl
theorem ev_intB {b : Bool} : gInt [.val (.bl b)] M = .ok (.val (.int (if b then 1 else 0))) M := rfl
theorem ev_ixR {ds : List D} : gIx (.val (.rls ds)) (.val (.int i)) M = match atI ds i with
  | some d => .ok (.val d) M
  | none => .stuck := by
  show (match atI (ds.map W.val) i with | some w => R.ok w M | none => .stuck) = _
  unfold atI
  rw [List.length_map]
  cases ixN ds.length i with
  | none => rfl
  | some n =>
    show (match (ds.map W.val)[n]? with | some w => R.ok w M | none => .stuck) = (match ds[n]? with | some d => .ok (.val d) M | none => .stuck)
    rw [List.getElem?_map]
    cases ds[n]? <;> rfl
theorem ev_ixT {ds : List D} : gIx (.val (.tup ds)) (.val (.int i)) M = match atI ds i with
  | some d => .ok (.val d) M
  | none => .stuck := rfl
theorem ev_ixP {k : Nat} {ws : List W} (h : M[k]? = some (.lst ws)) : gIx (.ptr k) (.val (.int i)) M = match atI ws i with
  | some w => .ok w M
  | none => .stuck := by
  have e : rd M (.ptr k) = .ptr k := ev_rdp h
  have e2 : tvw M (.ptr k) = none := by unfold tvw; rw [e]
  have e3 : lvw M (.ptr k) = some ws := by unfold lvw; rw [e]; simp only [h]
  unfold gIx
  (simp only [ev_rd, e, e2, e3]) <;> rfl
theorem ev_lvwP {k : Nat} {ws : List W} (h : M[k]? = some (.lst ws)) : lvw M (.ptr k) = some ws := by
  unfold lvw; rw [ev_rdp h]; simp only [h]
theorem ev_tvwP {k : Nat} {ws : List W} (h : M[k]? = some (.lst ws)) : tvw M (.ptr k) = none := by
  unfold tvw; rw [ev_rdp h]
theorem ev_svwP {k : Nat} {ws : List W} (h : M[k]? = some (.lst ws)) : svw M (.ptr k) = some ws := by
  unfold svw; rw [ev_tvwP h, ev_lvwP h]
end

/-! ### structure -/
section
variable {e e1 : Env} {M M1 : Store} {f g : DS} {fa fb fc : DE} {ft gt : DT} {fr : DA} {a b w : W}
theorem ev_nx {k : Env → Store → SR} : SR.seq (.nx e M) k = k e M := rfl
theorem ev_rt {k : Env → Store → SR} : SR.seq (.rt w M) k = .rt w M := rfl
theorem ev_bk {k : Env → Store → SR} : SR.seq (.bk e M) k = .bk e M := rfl
theorem ev_ct {k : Env → Store → SR} : SR.seq (.ct e M) k = .ct e M := rfl
theorem ev_exc {k : Env → Store → SR} {c fs} : SR.seq (.exc c fs e M) k = .exc c fs e M := rfl
theorem ev_bind {α β : Type} {a : α} {k : α → Store → R β} : R.bind (.ok a M) k = k a M := rfl
theorem ev_bindx {α β : Type} {c fs} {k : α → Store → R β} : R.bind (.exc c fs M) k = .exc c fs M := rfl
theorem ev_st {α : Type} {a : α} {k : α → Store → SR} : R.st (.ok a M) e k = k a M := rfl
theorem ev_stx {α : Type} {c fs} {k : α → Store → SR} : R.st (.exc c fs M) e k = .exc c fs e M := rfl
theorem ev_seq : dSeq f g e M = SR.seq (f e M) g := rfl
theorem ev_next : dNext e M = .nx e M := rfl
theorem ev_brk : dBrk e M = .bk e M := rfl
theorem ev_cnt : dCnt e M = .ct e M := rfl
def kIf (f g : DS) (e : Env) (b : Bool) (M : Store) : SR := if b = true then f e M else g e M
theorem ev_kIf1 : kIf f g e true M = f e M := rfl
theorem ev_kIf0 : kIf f g e false M = g e M := rfl
theorem ev_if : dIf ft f g e M = R.st (ft e M) e (kIf f g e) := rfl
def kRt (w : W) (M : Store) : SR := .rt w M
theorem ev_kRt : kRt w M = .rt w M := rfl
theorem ev_ret : dRet fa e M = R.st (fa e M) e kRt := rfl
theorem ev_retN : dRetN e M = .rt (.val .non) M := rfl
def kSet (i : Nat) (e : Env) (w : W) (M : Store) : SR := .nx (e.set i (some w)) M
theorem ev_kSet {i : Nat} : kSet i e w M = .nx (e.set i (some w)) M := rfl
theorem ev_set {i : Nat} : dSet i fa e M = R.st (fa e M) e (kSet i e) := rfl
def kDrop (e : Env) (w : W) (M : Store) : SR := .nx e M
theorem ev_kDrop : kDrop e w M = .nx e M := rfl
theorem ev_drop : dDrop fa e M = R.st (fa e M) e (kDrop e) := rfl
def kVar (o : Option (Option W)) (M : Store) : R W := match o with
  | some (some w) => .ok w M
  | _ => .stuck
theorem ev_kVar : kVar (some (some w)) M = .ok w M := rfl
theorem ev_var {i : Nat} : dVar i e M = kVar e[i]? M := rfl
theorem ev_c {d : D} : dC d e M = .ok (.val d) M := rfl
def k2 (g : W → W → Store → R W) (fb : DE) (e : Env) (a : W) (M : Store) : R W := R.bind (fb e M) (g a)
theorem ev_k2 {g : W → W → Store → R W} : k2 g fb e a M = R.bind (fb e M) (g a) := rfl
theorem ev_d2 {g : W → W → Store → R W} : d2 g fa fb e M = R.bind (fa e M) (k2 g fb e) := rfl
theorem ev_d1 {g : W → Store → R W} : d1 g fa e M = R.bind (fa e M) g := rfl
theorem ev_nil : dNil e M = .ok [] M := rfl
def kCons2 (a : W) (ws : List W) (M : Store) : R (List W) := .ok (a :: ws) M
theorem ev_kCons2 {ws : List W} : kCons2 a ws M = .ok (a :: ws) M := rfl
def kCons (fr : DA) (e : Env) (a : W) (M : Store) : R (List W) := R.bind (fr e M) (kCons2 a)
theorem ev_kCons : kCons fr e a M = R.bind (fr e M) (kCons2 a) := rfl
theorem ev_cons : dCons fa fr e M = R.bind (fa e M) (kCons fr e) := rfl
theorem ev_call {g : List W → Store → R W} : dCall g fr e M = R.bind (fr e M) g := rfl
def kIsB (a : W) (M : Store) : R Bool := match a with
  | .val (.bl b) => .ok b M
  | _ => .stuck
theorem ev_kIsB {b : Bool} : kIsB (.val (.bl b)) M = .ok b M := rfl
theorem ev_isB : dIsB fa e M = R.bind (fa e M) kIsB := rfl
def kAnd (gt : DT) (e : Env) (b : Bool) (M : Store) : R Bool := if b = true then gt e M else .ok false M
theorem ev_kAnd1 : kAnd gt e true M = gt e M := rfl
theorem ev_kAnd0 : kAnd gt e false M = .ok false M := rfl
theorem ev_and : dAnd ft gt e M = R.bind (ft e M) (kAnd gt e) := rfl
def kOr (gt : DT) (e : Env) (b : Bool) (M : Store) : R Bool := if b = true then .ok true M else gt e M
theorem ev_kOr1 : kOr gt e true M = .ok true M := rfl
theorem ev_kOr0 : kOr gt e false M = gt e M := rfl
theorem ev_or : dOr ft gt e M = R.bind (ft e M) (kOr gt e) := rfl
def kNot (b : Bool) (M : Store) : R Bool := .ok (!b) M
theorem ev_kNot {b : Bool} : kNot b M = .ok (!b) M := rfl
theorem ev_not : dNot ft e M = R.bind (ft e M) kNot := rfl
def kAndV (fb : DE) (e : Env) (a : W) (M : Store) : R W := match a with
  | .val (.bl true) => fb e M
  | .val (.bl false) => .ok (.val (.bl false)) M
  | _ => .stuck
theorem ev_kAndV1 : kAndV fb e (.val (.bl true)) M = fb e M := rfl
theorem ev_kAndV0 : kAndV fb e (.val (.bl false)) M = .ok (.val (.bl false)) M := rfl
theorem ev_andV : dAndV fa fb e M = R.bind (fa e M) (kAndV fb e) := rfl
def kOrV (fb : DE) (e : Env) (a : W) (M : Store) : R W := match a with
  | .val (.bl true) => .ok (.val (.bl true)) M
  | .val (.bl false) => fb e M
  | _ => .stuck
theorem ev_kOrV1 : kOrV fb e (.val (.bl true)) M = .ok (.val (.bl true)) M := rfl
theorem ev_kOrV0 : kOrV fb e (.val (.bl false)) M = fb e M := rfl
theorem ev_orV : dOrV fa fb e M = R.bind (fa e M) (kOrV fb e) := rfl
def kNotV (a : W) (M : Store) : R W := match a with
  | .val (.bl b) => .ok (.val (.bl (!b))) M
  | _ => .stuck
theorem ev_kNotV {b : Bool} : kNotV (.val (.bl b)) M = .ok (.val (.bl (!b))) M := rfl
theorem ev_notV : dNotV fa e M = R.bind (fa e M) kNotV := rfl
def kIfE (fa fb : DE) (e : Env) (b : Bool) (M : Store) : R W := if b = true then fa e M else fb e M
theorem ev_kIfE1 : kIfE fa fb e true M = fa e M := rfl
theorem ev_kIfE0 : kIfE fa fb e false M = fb e M := rfl
theorem ev_ifE : dIfE ft fa fb e M = R.bind (ft e M) (kIfE fa fb e) := rfl
def kCh3 (g' : W → W → Store → R W) (fc : DE) (e : Env) (b z : W) (M : Store) : R W := match z with
  | .val (.bl true) => R.bind (fc e M) (g' b)
  | .val (.bl false) => .ok (.val (.bl false)) M
  | _ => .stuck
theorem ev_kCh31 {g' : W → W → Store → R W} : kCh3 g' fc e b (.val (.bl true)) M = R.bind (fc e M) (g' b) := rfl
theorem ev_kCh30 {g' : W → W → Store → R W} : kCh3 g' fc e b (.val (.bl false)) M = .ok (.val (.bl false)) M := rfl
def kCh2 (g g' : W → W → Store → R W) (fc : DE) (e : Env) (a b : W) (M : Store) : R W := R.bind (g a b M) (kCh3 g' fc e b)
theorem ev_kCh2 {g g' : W → W → Store → R W} : kCh2 g g' fc e a b M = R.bind (g a b M) (kCh3 g' fc e b) := rfl
def kCh1 (g g' : W → W → Store → R W) (fb fc : DE) (e : Env) (a : W) (M : Store) : R W := R.bind (fb e M) (kCh2 g g' fc e a)
theorem ev_kCh1 {g g' : W → W → Store → R W} : kCh1 g g' fb fc e a M = R.bind (fb e M) (kCh2 g g' fc e a) := rfl
theorem ev_chain {g g' : W → W → Store → R W} : dChain g g' fa fb fc e M = R.bind (fa e M) (kCh1 g g' fb fc e) := rfl
theorem ev_tmp : dTmp fa e M = settle M (fa e M) := rfl
def kFun (r : SR) : R W := match r with
  | .nx _ M' => .ok (.val .non) M'
  | .rt w M' => .ok w M'
  | .exc c fs _ M' => .exc c fs M'
  | _ => .stuck
theorem ev_kFunN : kFun (.nx e M) = .ok (.val .non) M := rfl
theorem ev_kFunR : kFun (.rt w M) = .ok w M := rfl
theorem ev_kFunX {c fs} : kFun (.exc c fs e M) = .exc c fs M := rfl
theorem ev_fun {n : Nat} {ws : List W} : dFun f n ws M = settle M (kFun (f (env0 n ws) M)) := rfl
theorem ev_env {n : Nat} {ws : List W} : env0 n ws = ws.map some ++ List.replicate (n - ws.length) none := rfl
def kDi (a : W) (M : Store) : R Iter := gIter a M
theorem ev_iter : dIter fa e M = R.bind (fa e M) gIter := rfl
noncomputable def kFor (dg : DG) (f : DS) (e : Env) (it : Iter) (M : Store) : SR := loopF it.2 dg f it.1 e M
theorem ev_kFor {dg : DG} {ws : List W} {s : Stay} : kFor dg f e (ws, s) M = loopF s dg f ws e M := rfl
theorem ev_for {fi : DI} {dg : DG} : dFor fi dg f e M = R.st (fi e M) e (kFor dg f e) := rfl
noncomputable def kLc (dg : DG) (ft : DT) (fe : DE) (vs : List Nat) (e : Env) (it : Iter) (M : Store) : R W := loopC it.2 dg ft fe M.length (wipeE e vs) it.1 (M ++ [.lst []])
theorem ev_kLc {dg : DG} {vs : List Nat} {ws : List W} {s : Stay} : kLc dg ft fa vs e (ws, s) M = loopC s dg ft fa M.length (wipeE e vs) ws (M ++ [.lst []]) := rfl
theorem ev_lc {fi : DI} {dg : DG} {vs : List Nat} : dLc fi dg ft fa vs e M = R.bind (fi e M) (kLc dg ft fa vs e) := rfl
theorem ev_rng {g : List W → Store → R Iter} : dRng g fr e M = R.bind (fr e M) g := rfl
theorem ev_no : dNo e M = .ok none M := rfl
def kPart (a : W) (M : Store) : R (Option Int) := match a with
  | .val (.int i) => .ok (some i) M
  | _ => .stuck
theorem ev_kPart {i : Int} : kPart (.val (.int i)) M = .ok (some i) M := rfl
theorem ev_part : dPart fa e M = R.bind (fa e M) kPart := rfl
def kSl2 (a : W) (lo hi : Option Int) (M : Store) : R W := gSl a lo hi M
def kSl1 (fh : DO) (e : Env) (a : W) (lo : Option Int) (M : Store) : R W := R.bind (fh e M) (gSl a lo)
theorem ev_kSl1 {fh : DO} {lo : Option Int} : kSl1 fh e a lo M = R.bind (fh e M) (gSl a lo) := rfl
def kSl (fl fh : DO) (e : Env) (a : W) (M : Store) : R W := R.bind (fl e M) (kSl1 fh e a)
theorem ev_kSl {fl fh : DO} : kSl fl fh e a M = R.bind (fl e M) (kSl1 fh e a) := rfl
theorem ev_sl {fl fh : DO} : dSl fa fl fh e M = R.bind (fa e M) (kSl fl fh e) := rfl
def kMeth0 (T : String) (g : W → List W → Store → R W) (a : W) (M : Store) : R W := if tyB M T a = true then g a [] M else .stuck
theorem ev_kMeth0S {g : W → List W → Store → R W} {x : Str} : kMeth0 "str" g (.val (.str x)) M = g (.val (.str x)) [] M := rfl
theorem ev_meth0 {T : String} {g : W → List W → Store → R W} : dMeth0 T g fa e M = R.bind (fa e M) (kMeth0 T g) := rfl
def kMeth (T : String) (g : W → List W → Store → R W) (fr : DA) (e : Env) (a : W) (M : Store) : R W := if tyB M T a = true then R.bind (fr e M) (g a) else .stuck
theorem ev_kMethS {g : W → List W → Store → R W} {x : Str} : kMeth "str" g fr e (.val (.str x)) M = R.bind (fr e M) (g (.val (.str x))) := rfl
theorem ev_meth {T : String} {g : W → List W → Store → R W} : dMeth T g fa fr e M = R.bind (fa e M) (kMeth T g fr e) := rfl
/-- by the cell that a pointer names -/
def kCell (g : W → List W → Store → R W) (fr : DA) (e : Env) (k : Nat) (o : Option Cell) (M : Store) : R W := match o with
  | some (.lst _) => R.bind (fr e M) (g (.ptr k))
  | _ => .stuck
theorem ev_kMethP {g : W → List W → Store → R W} {k : Nat} {ws : List W} (h : M[k]? = some (.lst ws)) : kMeth "list" g fr e (.ptr k) M = R.bind (fr e M) (g (.ptr k)) := by
  have : tyB M "list" (.ptr k) = true := by
    unfold tyB
    rw [ev_rdp h]
    show (match M[k]? with | some (.lst _) => _ | some (.dic _) => _ | some (.dit _) => _ | _ => _) = _
    rw [h]; rfl
  unfold kMeth
  rw [if_pos this]
theorem ev_kMeth0P {g : W → List W → Store → R W} {k : Nat} {ws : List W} (h : M[k]? = some (.lst ws)) : kMeth0 "list" g (.ptr k) M = g (.ptr k) [] M := by
  have : tyB M "list" (.ptr k) = true := by
    unfold tyB
    rw [ev_rdp h]
    show (match M[k]? with | some (.lst _) => _ | some (.dic _) => _ | some (.dit _) => _ | _ => _) = _
    rw [h]; rfl
  unfold kMeth0
  rw [if_pos this]
end
end Dn
end

section
set_option Elab.async false
set_option linter.all false
set_option maxRecDepth 100000
set_option maxHeartbeats 2000000
/-! Dn12: evaluation through pointers. -/
noncomputable section
namespace Dn
open PySem PySem.Spec PyProof.Rows L2
section
variable {e : Env} {f : DS} {fa : DE} {ft : DT} {fr : DA} {M M1 : Store} {k j : Nat} {ws us : List W} {w : W} {i : Int}
def rdC (k : Nat) (o : Option Cell) : W := match o with
  | some (.frz d) => .val d
  | _ => .ptr k
theorem ev_rdC : rdC k (some (.lst ws)) = .ptr k := rfl
theorem ev_rdP : rd M (.ptr k) = rdC k M[k]? := by
  unfold rdC
  show (match M[k]? with | some (.frz d) => W.val d | _ => .ptr k) = _
  rfl
def lvwC (M : Store) (k : Nat) (o : Option Cell) : Option (List W) := match o with
  | some (.lst ws) => some ws
  | _ => lvw M (.ptr k)
theorem ev_lvwC : lvwC M k (some (.lst ws)) = some ws := rfl
theorem ev_lvw : lvw M (.ptr k) = lvwC M k M[k]? := by
  unfold lvwC
  split
  · rename_i h; exact ev_lvwP h
  · rfl
theorem ev_lvwR {ds : List D} : lvw M (.val (.rls ds)) = some (ds.map .val) := rfl
theorem ev_lvwL {ds : List D} : lvw M (.val (.lst ds)) = some (ds.map .val) := rfl
theorem ev_tvwR {ds : List D} : tvw M (.val (.rls ds)) = none := rfl
theorem ev_tvwT {ds : List D} : tvw M (.val (.tup ds)) = some ds := rfl
theorem ev_svwR {ds : List D} : svw M (.val (.rls ds)) = some (ds.map .val) := rfl
theorem ev_svwT {ds : List D} : svw M (.val (.tup ds)) = some (ds.map .val) := rfl
def svwC (M : Store) (k : Nat) (o : Option Cell) : Option (List W) := match o with
  | some (.lst ws) => some ws
  | _ => svw M (.ptr k)
theorem ev_svwC : svwC M k (some (.lst ws)) = some ws := rfl
theorem ev_svw : svw M (.ptr k) = svwC M k M[k]? := by
  unfold svwC
  split
  · rename_i h; exact ev_svwP h
  · rfl
def kOk (o : Option W) (M : Store) : R W := match o with
  | some w => .ok w M
  | none => .stuck
theorem ev_kOk : kOk (some w) M = .ok w M := rfl
def kOkD (o : Option D) (M : Store) : R W := match o with
  | some d => .ok (.val d) M
  | none => .stuck
theorem ev_kOkD {d : D} : kOkD (some d) M = .ok (.val d) M := rfl
def ixC (k : Nat) (i : Int) (o : Option Cell) (M : Store) : R W := match o with
  | some (.lst ws) => kOk (atI ws i) M
  | _ => gIx (.ptr k) (.val (.int i)) M
theorem ev_ixC : ixC k i (some (.lst ws)) M = kOk (atI ws i) M := rfl
theorem ev_ix : gIx (.ptr k) (.val (.int i)) M = ixC k i M[k]? M := by
  unfold ixC
  split
  · rename_i h; exact ev_ixP h
  · rfl
theorem ev_ixRls {ds : List D} : gIx (.val (.rls ds)) (.val (.int i)) M = kOkD (atI ds i) M := ev_ixR
theorem ev_ixTup {ds : List D} : gIx (.val (.tup ds)) (.val (.int i)) M = kOkD (atI ds i) M := ev_ixT
theorem ev_at0 {α : Type} {a : α} {l : List α} : atI (a :: l) 0 = some a := by
  unfold atI ixN
  rw [if_pos (Int.le_refl 0), if_pos (by simp only [List.length_cons]; omega)]
  rfl
theorem ev_at1 {α : Type} {a b : α} {l : List α} : atI (a :: b :: l) 1 = some b := by
  unfold atI ixN
  rw [if_pos (by omega), if_pos (by simp only [List.length_cons]; omega)]
  rfl
theorem ev_at2 {α : Type} {a b c : α} {l : List α} : atI (a :: b :: c :: l) 2 = some c := by
  unfold atI ixN
  rw [if_pos (by omega), if_pos (by simp only [List.length_cons]; omega)]
  rfl
theorem ev_at3 {α : Type} {a b c d : α} {l : List α} : atI (a :: b :: c :: d :: l) 3 = some d := by
  unfold atI ixN
  rw [if_pos (by omega), if_pos (by simp only [List.length_cons]; omega)]
  rfl
theorem at_last {α : Type} {a : α} {l : List α} : atI (l ++ [a]) (-1) = some a := by
  unfold atI ixN
  rw [if_neg (by omega), if_pos (by simp only [List.length_append, List.length_cons, List.length_nil]; omega)]
  show (l ++ [a])[((-1 : Int) + ((l ++ [a]).length : Nat)).toNat]? = _
  rw [show ((-1 : Int) + ((l ++ [a]).length : Nat)).toNat = l.length by simp; omega]
  simp
def lenC (k : Nat) (o : Option Cell) (M : Store) : R W := match o with
  | some (.lst ws) => .ok (.val (.int ws.length)) M
  | _ => gLen [.ptr k] M
theorem ev_lenC : lenC k (some (.lst ws)) M = .ok (.val (.int ws.length)) M := rfl
theorem ev_len : gLen [.ptr k] M = lenC k M[k]? M := by
  unfold lenC
  split
  · rename_i h
    unfold gLen
    simp only [ev_rdp h, ev_svwP h]
  · rfl
theorem ev_lenRls {ds : List D} : gLen [.val (.rls ds)] M = .ok (.val (.int ds.length)) M := by
  show R.ok (W.val (.int (ds.map W.val).length)) M = _
  rw [List.length_map]
theorem ev_lenTup {ds : List D} : gLen [.val (.tup ds)] M = .ok (.val (.int ds.length)) M := by
  show R.ok (W.val (.int (ds.map W.val).length)) M = _
  rw [List.length_map]
theorem ev_lenS {x : Str} (h : x.length ≤ sizeLine) : gLen [.val (.str x)] M = .ok (.val (.int x.length)) M := by
  show (if _ then _ else _) = _
  rw [if_pos h]
def addC (j k : Nat) (o p : Option Cell) (M : Store) : R W := match o, p with
  | some (.lst ws), some (.lst us) => if ws.length + us.length ≤ sizeLine then .ok (.ptr M.length) (M ++ [.lst (ws ++ us)]) else .stuck
  | _, _ => gAdd (.ptr j) (.ptr k) M
theorem lvtP (h : M[k]? = some (.lst ws)) : lvt M (.ptr k) = some ws := by
  unfold lvt; rw [ev_rdp h]; simp only [h]
theorem ev_addC : addC j k (some (.lst ws)) (some (.lst us)) M = if ws.length + us.length ≤ sizeLine then .ok (.ptr M.length) (M ++ [.lst (ws ++ us)]) else .stuck := rfl
theorem ev_add : gAdd (.ptr j) (.ptr k) M = addC j k M[j]? M[k]? M := by
  unfold addC
  split
  · rename_i h1 h2
    unfold gAdd
    simp only [ev_rdp h1, ev_rdp h2, ev_tvwP h1, ev_tvwP h2, lvtP h1, lvtP h2]
  · rfl
def appC (k : Nat) (w : W) (o : Option Cell) (M : Store) : R W := match o with
  | some (.lst xs) => if xs.length < sizeLine then .ok (.val .non) (M.set k (.lst (xs ++ [w]))) else .stuck
  | _ => .stuck
theorem ev_appC : appC k w (some (.lst ws)) M = if ws.length < sizeLine then .ok (.val .non) (M.set k (.lst (ws ++ [w]))) else .stuck := rfl
theorem ev_app : gAppend (.ptr k) [w] M = appC k w M[k]? M := rfl
def mthC (g : W → List W → Store → R W) (fr : DA) (e : Env) (k : Nat) (o : Option Cell) (M : Store) : R W := match o with
  | some (.lst _) => R.bind (fr e M) (g (.ptr k))
  | _ => kMeth "list" g fr e (.ptr k) M
theorem ev_mthC {g : W → List W → Store → R W} : mthC g fr e k (some (.lst ws)) M = R.bind (fr e M) (g (.ptr k)) := rfl
theorem ev_mth {g : W → List W → Store → R W} : kMeth "list" g fr e (.ptr k) M = mthC g fr e k M[k]? M := by
  unfold mthC
  split
  · rename_i h; exact ev_kMethP h
  · rfl
def mth0C (g : W → List W → Store → R W) (k : Nat) (o : Option Cell) (M : Store) : R W := match o with
  | some (.lst _) => g (.ptr k) [] M
  | _ => kMeth0 "list" g (.ptr k) M
theorem ev_mth0C {g : W → List W → Store → R W} : mth0C g k (some (.lst ws)) M = g (.ptr k) [] M := rfl
theorem ev_mth0 {g : W → List W → Store → R W} : kMeth0 "list" g (.ptr k) M = mth0C g k M[k]? M := by
  unfold mth0C
  split
  · rename_i h; exact ev_kMeth0P h
  · rfl
def itC (k : Nat) (o : Option Cell) (M : Store) : R Iter := match o with
  | some (.lst ws) => .ok (ws, .cell k ws) M
  | _ => gIter (.ptr k) M
theorem ev_itC : itC k (some (.lst ws)) M = .ok (ws, .cell k ws) M := rfl
theorem ev_it : gIter (.ptr k) M = itC k M[k]? M := by
  unfold itC
  split
  · rename_i h
    unfold gIter
    simp only [ev_rdp h, h]
  · rfl
theorem ev_itR {ds : List D} : gIter (.val (.rls ds)) M = .ok (ds.map .val, .always) M := rfl
theorem ev_itT {ds : List D} : gIter (.val (.tup ds)) M = .ok (ds.map .val, .always) M := rfl
theorem ev_itS {x : Str} : gIter (.val (.str x)) M = .ok (signs x, .always) M := rfl
theorem ev_mkL {l : List W} (h : l.length ≤ sizeLine) : gMkL l M = .ok (.ptr M.length) (M ++ [.lst l]) := if_pos h
/-! ### a tuple's lists are frozen -/
theorem ev_vals0 : vals [] = some [] := rfl
theorem ev_vals1 {d : D} : vals (.val d :: ws) = (vals ws).map (d :: ·) := rfl
theorem frzA_vals {f : Store → Nat → Option Store} : ∀ {ws : List W} {ds : List D}, vals ws = some ds → frzA f ws M = some M
  | [], _, _ => rfl
  | .val d :: ws, ds, h => by
    cases q : vals ws with
    | none => simp [vals, q] at h
    | some l => exact frzA_vals (ws := ws) q
  | .ptr _ :: _, _, h => by simp [vals] at h
theorem rd_vals : ∀ {ws : List W} {ds : List D}, vals ws = some ds → ws.map (rd M) = ws
  | [], _, _ => rfl
  | .val d :: ws, ds, h => by
    cases q : vals ws with
    | none => simp [vals, q] at h
    | some l => rw [List.map_cons, rd_vals q]; rfl
  | .ptr _ :: _, _, h => by simp [vals] at h
def frzV (n : Nat) (M : Store) (k : Nat) (o : Option (List D)) : Option Store := match o with
  | some ds => some (M.set k (.frz (.lst ds)))
  | none => frz1 (n + 1) M k
theorem ev_frzV {n : Nat} {ds : List D} : frzV n M k (some ds) = some (M.set k (.frz (.lst ds))) := rfl
def frzC (n : Nat) (M : Store) (k : Nat) (o : Option Cell) : Option Store := match o with
  | some (.lst ws) => frzV n M k (vals ws)
  | some (.frz _) => some M
  | _ => none
theorem ev_frzC {n : Nat} : frzC n M k (some (.lst ws)) = frzV n M k (vals ws) := rfl
theorem ev_frzCf {n : Nat} {d : D} : frzC n M k (some (.frz d)) = some M := rfl
theorem ev_frz {n : Nat} : frz1 (n + 1) M k = frzC n M k M[k]? := by
  cases h : M[k]? with
  | none => unfold frz1; simp only [h]; rfl
  | some c =>
    cases c with
    | lst ws =>
      show _ = frzV n M k (vals ws)
      unfold frzV
      split
      · rename_i ds e
        unfold frz1
        simp only [h, frzA_vals e, rd_vals e, e]
      · rfl
    | frz d => unfold frz1; simp only [h]; rfl
    | _ => unfold frz1; simp only [h]; rfl
def frzK (f : Store → Nat → Option Store) (ws : List W) (o : Option Store) : Option Store := match o with
  | some M1 => frzA f ws M1
  | none => none
theorem ev_frzK {f : Store → Nat → Option Store} : frzK f ws (some M) = frzA f ws M := rfl
theorem ev_frzA0 {f : Store → Nat → Option Store} : frzA f [] M = some M := rfl
theorem ev_frzAv {f : Store → Nat → Option Store} {d : D} : frzA f (.val d :: ws) M = frzA f ws M := rfl
theorem ev_frzAp {f : Store → Nat → Option Store} : frzA f (.ptr k :: ws) M = frzK f ws (f M k) := rfl
def kMkT2 (M : Store) (o : Option (List D)) : R W := match o with
  | some ds => if ds.length ≤ sizeLine then .ok (.val (.tup ds)) M else .stuck
  | none => .stuck
theorem ev_kMkT2 {ds : List D} : kMkT2 M (some ds) = if ds.length ≤ sizeLine then .ok (.val (.tup ds)) M else .stuck := rfl
def kMkT (ws : List W) (o : Option Store) : R W := match o with
  | some M => kMkT2 M (vals (ws.map (rd M)))
  | none => .stuck
theorem ev_kMkT : kMkT ws (some M) = kMkT2 M (vals (ws.map (rd M))) := rfl
theorem ev_mkT : gMkT ws M = kMkT ws (frzA (frz1 4) ws M) := rfl
theorem ev_rdF {d : D} : rdC k (some (.frz d)) = .val d := rfl
theorem ev_map0 {α β : Type} {f : α → β} : [].map f = [] := rfl
theorem ev_map1 {α β : Type} {f : α → β} {a : α} {l : List α} : (a :: l).map f = f a :: l.map f := rfl
theorem ev_omap {α β : Type} {f : α → β} {a : α} : (some a).map f = some (f a) := rfl
open Classical
/-! ### loops over lists in sight -/
def kF2 (s : Stay) (dg : DG) (f : DS) (ws : List W) (r : SR) : SR := match r with
  | .nx e' M' => loopF s dg f ws e' M'
  | .ct e' M' => loopF s dg f ws e' M'
  | .bk e' M' => .nx e' M'
  | .rt w M' => .rt w M'
  | .exc c fs e' M' => .exc c fs e' M'
  | .stuck => .stuck
section
variable {s : Stay} {dg : DG}
theorem ev_kF2n : kF2 s dg f ws (.nx e M) = loopF s dg f ws e M := rfl
theorem ev_kF2c : kF2 s dg f ws (.ct e M) = loopF s dg f ws e M := rfl
theorem ev_kF2b : kF2 s dg f ws (.bk e M) = .nx e M := rfl
theorem ev_kF2r : kF2 s dg f ws (.rt w M) = .rt w M := rfl
theorem ev_kF2x {c fs} : kF2 s dg f ws (.exc c fs e M) = .exc c fs e M := rfl
def kF1 (s : Stay) (dg : DG) (f : DS) (ws : List W) (M : Store) (o : Option Env) : SR := match o with
  | some e1 => kF2 s dg f ws (f e1 M)
  | none => .stuck
theorem ev_kF1 : kF1 s dg f ws M (some e) = kF2 s dg f ws (f e M) := rfl
theorem ev_F1 : loopF .always dg f (w :: ws) e M = kF1 .always dg f ws M (dg w e M) := by
  show (if Stay.ok M .always then _ else _) = _
  rw [if_pos (show Stay.ok M .always from trivial)]
  unfold kF1
  cases dg w e M <;> rfl
theorem ev_F0 : loopF .always dg f [] e M = .nx e M := by
  show (if Stay.ok M .always then _ else _) = _
  rw [if_pos (show Stay.ok M .always from trivial)]
theorem ev_F1c {vs : List W} : loopF (.cell k vs) dg f (w :: ws) e M = if M[k]? = some (.lst vs) then kF1 (.cell k vs) dg f ws M (dg w e M) else .stuck := by
  show (if Stay.ok M (.cell k vs) then _ else _) = _
  by_cases h : M[k]? = some (.lst vs)
  · rw [if_pos (show Stay.ok M (.cell k vs) from h), if_pos h]
    unfold kF1
    cases dg w e M <;> rfl
  · rw [if_neg (show ¬ Stay.ok M (.cell k vs) from h), if_neg h]
theorem ev_F0c {vs : List W} : loopF (.cell k vs) dg f [] e M = if M[k]? = some (.lst vs) then .nx e M else .stuck := by
  show (if Stay.ok M (.cell k vs) then _ else _) = _
  by_cases h : M[k]? = some (.lst vs)
  · rw [if_pos (show Stay.ok M (.cell k vs) from h), if_pos h]
  · rw [if_neg (show ¬ Stay.ok M (.cell k vs) from h), if_neg h]
end
theorem ev_gnm {i : Nat} : gnm i w e M = some (e.set i (some w)) := rfl
theorem ev_gnil : gnil [] e M = some e := rfl
def kGc (gs : DGs) (ws : List W) (M : Store) (o : Option Env) : Option Env := o.bind fun e1 => gs ws e1 M
theorem ev_kGc {gs : DGs} : kGc gs ws M (some e) = gs ws e M := rfl
theorem ev_gcons {g : DG} {gs : DGs} : gcons g gs (w :: ws) e M = kGc gs ws M (g w e M) := rfl
theorem ev_gtup {n : Nat} {gs : DGs} {ds : List D} : gtup n gs (.val (.tup ds)) e M = if ds.length = n then gs (ds.map .val) e M else none := rfl
/-! ### comprehensions over lists in sight -/
def kC4 (s : Stay) (dg : DG) (ft : DT) (fe : DE) (k : Nat) (e : Env) (ws : List W) (y : W) (M : Store) (o : Option Cell) : R W := match o with
  | some (.lst acc) => if acc.length < sizeLine then loopC s dg ft fe k e ws (M.set k (.lst (acc ++ [y]))) else .stuck
  | _ => .stuck
def kC3 (s : Stay) (dg : DG) (ft : DT) (fe : DE) (k : Nat) (e : Env) (ws : List W) (r : R W) : R W := match r with
  | .ok y M2 => kC4 s dg ft fe k e ws y M2 M2[k]?
  | _ => .stuck
def kC2 (s : Stay) (dg : DG) (ft : DT) (fe : DE) (k : Nat) (e : Env) (ws : List W) (e1 : Env) (r : R Bool) : R W := match r with
  | .ok true M1 => kC3 s dg ft fe k e ws (settle M1 (fe e1 M1))
  | .ok false M1 => loopC s dg ft fe k e ws M1
  | _ => .stuck
def kC1 (s : Stay) (dg : DG) (ft : DT) (fe : DE) (k : Nat) (e : Env) (ws : List W) (M : Store) (o : Option Env) : R W := match o with
  | some e1 => kC2 s dg ft fe k e ws e1 (ft e1 M)
  | none => .stuck
section
variable {s : Stay} {dg : DG} {fe : DE} {acc : List W} {y : W}
theorem ev_kC4 : kC4 s dg ft fe k e ws y M (some (.lst acc)) = if acc.length < sizeLine then loopC s dg ft fe k e ws (M.set k (.lst (acc ++ [y]))) else .stuck := rfl
theorem ev_kC3 : kC3 s dg ft fe k e ws (.ok y M) = kC4 s dg ft fe k e ws y M M[k]? := rfl
theorem ev_kC21 {e1 : Env} : kC2 s dg ft fe k e ws e1 (.ok true M) = kC3 s dg ft fe k e ws (settle M (fe e1 M)) := rfl
theorem ev_kC20 {e1 : Env} : kC2 s dg ft fe k e ws e1 (.ok false M) = loopC s dg ft fe k e ws M := rfl
theorem ev_kC1 {e1 : Env} : kC1 s dg ft fe k e ws M (some e1) = kC2 s dg ft fe k e ws e1 (ft e1 M) := rfl
theorem loopC_step (ok : s.ok M) : loopC s dg ft fe k e (w :: ws) M = kC1 s dg ft fe k e ws M (dg w e M) := by
  show (if s.ok M then _ else _) = _
  rw [if_pos ok]
  unfold kC1
  cases dg w e M with
  | none => rfl
  | some e1 =>
    show _ = kC2 s dg ft fe k e ws e1 (ft e1 M)
    unfold kC2
    cases h : ft e1 M with
    | ok b M1 =>
      cases b with
      | false => simp only [h]; rfl
      | true =>
        simp only [h]
        show _ = kC3 s dg ft fe k e ws (settle M1 (fe e1 M1))
        unfold kC3
        cases h2 : settle M1 (fe e1 M1) with
        | ok y M2 =>
          simp only [R.noex, h2]
          unfold kC4
          cases M2[k]? with
          | none => rfl
          | some c => cases c <;> rfl
        | exc _ _ _ => simp only [R.noex, h2]
        | stuck => simp only [R.noex, h2]
    | exc _ _ _ => simp only [R.noex, h]
    | stuck => simp only [R.noex, h]
theorem ev_C1 : loopC .always dg ft fe k e (w :: ws) M = kC1 .always dg ft fe k e ws M (dg w e M) := loopC_step trivial
theorem ev_C0 : loopC .always dg ft fe k e [] M = .ok (.ptr k) M := by
  show (if Stay.ok M .always then _ else _) = _
  rw [if_pos (show Stay.ok M .always from trivial)]
theorem ev_C1c {vs : List W} {j : Nat} : loopC (.cell j vs) dg ft fe k e (w :: ws) M = if M[j]? = some (.lst vs) then kC1 (.cell j vs) dg ft fe k e ws M (dg w e M) else .stuck := by
  by_cases h : M[j]? = some (.lst vs)
  · rw [if_pos h]; exact loopC_step h
  · rw [if_neg h]
    show (if Stay.ok M (.cell j vs) then _ else _) = _
    rw [if_neg (show ¬ Stay.ok M (.cell j vs) from h)]
theorem ev_C0c {vs : List W} {j : Nat} : loopC (.cell j vs) dg ft fe k e [] M = if M[j]? = some (.lst vs) then .ok (.ptr k) M else .stuck := by
  by_cases h : M[j]? = some (.lst vs)
  · rw [if_pos h]
    show (if Stay.ok M (.cell j vs) then _ else _) = _
    rw [if_pos (show Stay.ok M (.cell j vs) from h)]
  · rw [if_neg h]
    show (if Stay.ok M (.cell j vs) then _ else _) = _
    rw [if_neg (show ¬ Stay.ok M (.cell j vs) from h)]
theorem ev_yes : dYes e M = .ok true M := rfl
theorem ev_wipe0 : wipeE e [] = e := rfl
theorem ev_wipe1 {v : Nat} {vs : List Nat} : wipeE e (v :: vs) = (wipeE e vs).set v none := rfl
end
end
end Dn
end
end

section
set_option Elab.async false
set_option linter.all false
set_option maxRecDepth 100000
set_option maxHeartbeats 2000000
/-! Dn13: evaluation of built-ins. -/
noncomputable section
namespace Dn
open PySem PySem.Spec PyProof.Rows L2
theorem ofS_inj {a b : String} : (Str.ofString a = Str.ofString b) = (a = b) := by
  apply propext
  constructor
  · intro h
    rw [Str.ofString_eq_toList, Str.ofString_eq_toList] at h
    have h1 : a.toList.map Char.toNat = b.toList.map Char.toNat := by simpa using h
    have h2 : a.toList = b.toList := by
      have inj : Function.Injective Char.toNat := fun x y e => Char.ext (UInt32.toNat_inj.mp e)
      exact List.map_inj_right (fun x y e => inj e) |>.mp h1
    exact String.toList_inj.mp h2
  · intro h; rw [h]
section
variable {e : Env} {f : DS} {fa fo fi fx : DE} {ft : DT} {fr fk : DA} {M M1 : Store} {k j : Nat} {ws us : List W} {w : W} {i : Int} {x : Str}
theorem ev_mkLi {l : List W} : gMkL l M = if l.length ≤ sizeLine then .ok (.ptr M.length) (M ++ [.lst l]) else .stuck := rfl
/-! ### list(..), tuple(..) -/
def lsxC (k : Nat) (o : Option Cell) (M : Store) : R W := match o with
  | some (.lst ws) => .ok (.ptr M.length) (M ++ [.lst ws])
  | some (.dic kvs) => .ok (.ptr M.length) (M ++ [.lst (kvs.map fun kv => .val (kD kv.1))])
  | _ => gListX [.ptr k] M
theorem ev_lsxC : lsxC k (some (.lst ws)) M = .ok (.ptr M.length) (M ++ [.lst ws]) := rfl
theorem ev_lsxD {kvs : List (Key × W)} : lsxC k (some (.dic kvs)) M = .ok (.ptr M.length) (M ++ [.lst (kvs.map fun kv => .val (kD kv.1))]) := rfl
theorem ev_lsx : gListX [.ptr k] M = lsxC k M[k]? M := by
  unfold lsxC
  split
  · rename_i ws h
    unfold gListX
    simp only [h]
    unfold gList
    simp only [ev_svwP h]
  · rename_i kvs h
    unfold gListX
    simp only [h]
  · rfl
theorem ev_lsxR {ds : List D} : gListX [.val (.rls ds)] M = .ok (.ptr M.length) (M ++ [.lst (ds.map .val)]) := rfl
theorem ev_lsxL {ds : List D} : gListX [.val (.lst ds)] M = .ok (.ptr M.length) (M ++ [.lst (ds.map .val)]) := rfl
theorem ev_lsxT {ds : List D} : gListX [.val (.tup ds)] M = .ok (.ptr M.length) (M ++ [.lst (ds.map .val)]) := rfl
def kOkT (o : Option (List D)) (M : Store) : R W := match o with
  | some ds => .ok (.val (.tup ds)) M
  | none => .stuck
theorem ev_kOkT {ds : List D} : kOkT (some ds) M = .ok (.val (.tup ds)) M := rfl
def tupC (k : Nat) (o : Option Cell) (M : Store) : R W := match o with
  | some (.lst ws) => kOkT (vals ws) M
  | _ => Dn.gTup [.ptr k] M
theorem ev_tupC : tupC k (some (.lst ws)) M = kOkT (vals ws) M := rfl
theorem ev_tup : Dn.gTup [.ptr k] M = tupC k M[k]? M := by
  unfold tupC
  split
  · rename_i ws h
    unfold Dn.gTup
    simp only [ev_tvwP h, ev_lvwP h]
    rfl
  · rfl
theorem ev_tupR {ds : List D} : Dn.gTup [.val (.rls ds)] M = .ok (.val (.tup ds)) M := by
  show (match vals (ds.map W.val) with | some ds => R.ok (W.val (.tup ds)) M | none => .stuck) = _
  rw [vals_map]
theorem ev_tupL {ds : List D} : Dn.gTup [.val (.lst ds)] M = .ok (.val (.tup ds)) M := by
  show (match vals (ds.map W.val) with | some ds => R.ok (W.val (.tup ds)) M | none => .stuck) = _
  rw [vals_map]
theorem ev_tupT {ds : List D} : Dn.gTup [.val (.tup ds)] M = .ok (.val (.tup ds)) M := rfl
/-! ### frozen lists that were fresh -/
theorem ev_tvwL {ds : List D} : tvw M (.val (.lst ds)) = none := rfl
theorem ev_svwL {ds : List D} : svw M (.val (.lst ds)) = some (ds.map .val) := rfl
theorem ev_ixL {ds : List D} : gIx (.val (.lst ds)) (.val (.int i)) M = kOkD (atI ds i) M := by
  have := ev_ixR (M := M) (i := i) (ds := ds)
  exact this
theorem ev_lenL {ds : List D} : gLen [.val (.lst ds)] M = .ok (.val (.int ds.length)) M := by
  show R.ok (W.val (.int (ds.map W.val).length)) M = _
  rw [List.length_map]
theorem ev_itL {ds : List D} : gIter (.val (.lst ds)) M = .ok (ds.map .val, .always) M := rfl
/-! ### calls by keyword -/
def kCK2 (m : List W → Store → R W) (pm : List Nat) (j k : Nat) (ws zs : List W) (M : Store) : R W := if zs.length = j ∧ (permL pm ws zs).length = k then m (permL pm ws zs) M else .stuck
def kCK (m : List W → Store → R W) (pm : List Nat) (n j k : Nat) (fk : DA) (e : Env) (ws : List W) (M : Store) : R W := if ws.length = n then R.bind (fk e M) (kCK2 m pm j k ws) else .stuck
theorem ev_callK {m : List W → Store → R W} {pm : List Nat} {n j k : Nat} : dCallK m pm n j k fr fk e M = R.bind (fr e M) (kCK m pm n j k fk e) := rfl
theorem ev_kCK {m : List W → Store → R W} {pm : List Nat} {n j k : Nat} : kCK m pm n j k fk e ws M = if ws.length = n then R.bind (fk e M) (kCK2 m pm j k ws) else .stuck := rfl
theorem ev_kCK2 {m : List W → Store → R W} {pm : List Nat} {j k : Nat} {zs : List W} : kCK2 m pm j k ws zs M = if zs.length = j ∧ (permL pm ws zs).length = k then m (permL pm ws zs) M else .stuck := rfl
theorem ev_permL {α : Type} {pm : List Nat} {us ws : List α} : permL pm us ws = pm.filterMap fun i => (us ++ ws)[i]? := rfl
/-! ### isinstance -/
def kIsi (o : Option Bool) (M : Store) : R W := match o with
  | some b => .ok (.val (.bl b)) M
  | none => .stuck
theorem ev_kIsi {b : Bool} : kIsi (some b) M = .ok (.val (.bl b)) M := rfl
theorem ev_isi {n : String} : gIsi [w, .val (.ty n)] M = kIsi ((tyW M w).bind fun t => kitB t n) M := by
  unfold kIsi
  rfl
theorem ev_tyI : tyW M (.val (.int i)) = some "int" := rfl
theorem ev_tyB {b : Bool} : tyW M (.val (.bl b)) = some "bool" := rfl
theorem ev_tyS : tyW M (.val (.str x)) = some "str" := rfl
theorem ev_tyN : tyW M (.val .non) = some "NoneType" := rfl
theorem ev_tyT {ds : List D} : tyW M (.val (.tup ds)) = some "tuple" := rfl
theorem ev_tyL {ds : List D} : tyW M (.val (.lst ds)) = some "list" := rfl
theorem ev_tyR {ds : List D} : tyW M (.val (.rls ds)) = some "list" := rfl
theorem ev_kit1 : kitB "int" "int" = some true := rfl
theorem ev_kit2 : kitB "int" "bool" = some false := by decide +kernel
theorem ev_kit3 : kitB "bool" "int" = some true := by decide +kernel
theorem ev_kit4 : kitB "bool" "bool" = some true := rfl
theorem ev_kit5 : kitB "str" "str" = some true := rfl
theorem ev_kit6 : kitB "list" "list" = some true := rfl
theorem ev_kit7 : kitB "tuple" "tuple" = some true := rfl
/-! ### equal lists -/
def eqIL (o p : Option (List Int)) (a b : W) (M : Store) : R W := match o, p with
  | some is, some js => .ok (.val (.bl (decide (is = js)))) M
  | _, _ => gEq a b M
theorem ev_eqIL {is js : List Int} {a b : W} : eqIL (some is) (some js) a b M = .ok (.val (.bl (decide (is = js)))) M := rfl
theorem ints_of {ws : List W} : ∀ {is : List Int}, intsOf ws = some is → ws = is.map fun i => .val (.int i) := by
  induction ws with
  | nil => intro is h; cases h; rfl
  | cons w ws ih =>
    intro is h
    cases w with
    | ptr k => cases h
    | val d =>
      cases d with
      | int i =>
        cases q : intsOf ws with
        | none => simp [intsOf, q] at h
        | some l =>
          simp [intsOf, q] at h
          subst h
          rw [ih q]; rfl
      | _ => cases h
theorem optAll_ints {n : Nat} : ∀ is : List Int, optAll (W.py M n) (is.map fun i => .val (.int i)) = some (is.map PyData.int)
  | [] => rfl
  | i :: is => by
    rw [List.map_cons, optAll]
    rw [optAll_ints is]
    cases n <;> rfl
theorem pyL_ints : ∀ is : List Int, D.pyL (is.map D.int) = some (is.map PyData.int)
  | [] => by rw [List.map_nil, D.pyL]; rfl
  | i :: is => by
    rw [List.map_cons, D.pyL, pyL_ints is]
    rw [D.py]; rfl
theorem eqv_ints (is js : List Int) : PyData.eqvAll (is.map .int) (js.map .int) = decide (is = js) := by
  induction is generalizing js with
  | nil => cases js <;> simp [PyData.eqvAll]
  | cons a is ih =>
    cases js with
    | nil => simp [PyData.eqvAll]
    | cons b js =>
      simp only [List.map_cons, PyData.eqvAll, ih, PyData.eqv]
      by_cases h : a = b
      · subst h; simp
      · simp [h]
theorem lay_ints (is : List Int) : PyData.canLayAll0 (is.map .int) = true := by
  induction is with
  | nil => simp [PyData.canLayAll0]
  | cons a is ih => simp [PyData.canLayAll0, PyData.canLay0, ih]
theorem dep_ints (is : List Int) : PyData.depthAll (is.map .int) = 0 := by
  induction is with
  | nil => simp [PyData.depthAll]
  | cons a is ih => simp [PyData.depthAll, PyData.depth, ih]
theorem shp_ints (is : List Int) : SeqAt.shaped (.list (is.map .int)) = true := by
  unfold SeqAt.shaped
  simp [PyData.canLay0, lay_ints, PyData.depth, dep_ints]
/-- a list's data -/
theorem pyP (h : M[k]? = some (.lst ws)) {is : List Int} (e : intsOf ws = some is) : W.py M 4 (.ptr k) = some (.list (is.map .int)) := by
  show (match M[k]? with | some (.lst ws) => (optAll (W.py M 3) ws).map PyData.list | some (.frz d) => d.py | _ => none) = _
  rw [h]
  show (optAll (W.py M 3) ws).map PyData.list = _
  rw [ints_of e, optAll_ints]; rfl
theorem ints_ds : ∀ {ds : List D} {is : List Int}, intsOf (ds.map W.val) = some is → ds = is.map D.int
  | [], is, h => by cases h; rfl
  | d :: ds, is, h => by
    cases d with
    | int i =>
      cases q : intsOf (ds.map W.val) with
      | none => simp [intsOf, q] at h
      | some l =>
        simp [intsOf, q] at h
        subst h
        rw [ints_ds q]; rfl
    | _ => cases h
theorem eq_ints {a b : W} {is js : List Int} (ha : ∀ i, rd M a ≠ .val (.int i)) (ha2 : ∀ i, rd M a ≠ .val (.str i)) (h1 : W.py M 4 a = some (.list (is.map .int))) (h2 : W.py M 4 b = some (.list (js.map .int))) : gEq a b M = .ok (.val (.bl (decide (is = js)))) M := by
  unfold gEq eqW
  split
  · rename_i r e
    split at e
    · rename_i z1 z2; exact absurd z1 (ha _)
    · rename_i z1 z2; exact absurd z1 (ha2 _)
    · simp only [h1, h2, shp_ints, and_self, if_true] at e
      rw [← Option.some.inj e]
      rw [PyData.eqv, eqv_ints]
  · rename_i e
    split at e
    · rename_i z1 z2; exact absurd z1 (ha _)
    · rename_i z1 z2; exact absurd z1 (ha2 _)
    · simp only [h1, h2, shp_ints, and_self, if_true] at e
      cases e
def eqPRC (k : Nat) (b : W) (p : Option (List Int)) (o : Option Cell) (M : Store) : R W := match o with
  | some (.lst ws) => eqIL (intsOf ws) p (.ptr k) b M
  | _ => gEq (.ptr k) b M
theorem ev_eqPRC {b : W} {p : Option (List Int)} : eqPRC k b p (some (.lst ws)) M = eqIL (intsOf ws) p (.ptr k) b M := rfl
theorem ptr_not {d : D} (h : M[k]? = some (.lst ws)) : rd M (.ptr k) ≠ .val d := by
  rw [ev_rdp h]; intro z; cases z
theorem pyR {ds : List D} {is : List Int} (e : intsOf (ds.map W.val) = some is) : D.py (.rls ds) = some (.list (is.map .int)) := by
  rw [D.py, ints_ds e, pyL_ints]; rfl
theorem pyL' {ds : List D} {is : List Int} (e : intsOf (ds.map W.val) = some is) : D.py (.lst ds) = some (.list (is.map .int)) := by
  rw [D.py, ints_ds e, pyL_ints]; rfl
theorem ev_eqPR {ds : List D} : gEq (.ptr k) (.val (.rls ds)) M = eqPRC k (.val (.rls ds)) (intsOf (ds.map W.val)) M[k]? M := by
  unfold eqPRC
  split
  · rename_i ws h
    unfold eqIL
    split
    · rename_i is js e1 e2
      exact eq_ints (fun _ => ptr_not h) (fun _ => ptr_not h) (pyP h e1) (show D.py (.rls ds) = _ from pyR e2)
    · rfl
  · rfl
theorem ev_eqPL {ds : List D} : gEq (.ptr k) (.val (.lst ds)) M = eqPRC k (.val (.lst ds)) (intsOf (ds.map W.val)) M[k]? M := by
  unfold eqPRC
  split
  · rename_i ws h
    unfold eqIL
    split
    · rename_i is js e1 e2
      exact eq_ints (fun _ => ptr_not h) (fun _ => ptr_not h) (pyP h e1) (show D.py (.lst ds) = _ from pyL' e2)
    · rfl
  · rfl
theorem ev_int0 : intsOf [] = some [] := rfl
theorem ev_int1 : intsOf (.val (.int i) :: ws) = (intsOf ws).map (i :: ·) := rfl
/-! ### sums, all -/
def kSum (o : Option (List Int)) (M : Store) : R W := match o with
  | some ns => .ok (.val (.int ns.sum)) M
  | none => .stuck
theorem ev_kSum {ns : List Int} : kSum (some ns) M = .ok (.val (.int ns.sum)) M := rfl
theorem ev_sum : Dn.gSum [w] M = kSum ((lvw M w).bind intsOf) M := rfl
def kAllB (f : List Bool → Bool) (o : Option (List Bool)) (M : Store) : R W := match o with
  | some ns => .ok (.val (.bl (f ns))) M
  | none => .stuck
theorem ev_kAllB {f : List Bool → Bool} {ns : List Bool} : kAllB f (some ns) M = .ok (.val (.bl (f ns))) M := rfl
theorem ev_all {f : List Bool → Bool} : Dn.gAll f [w] M = kAllB f ((lvw M w).bind blsOf) M := rfl
theorem ev_bl0 : blsOf [] = some [] := rfl
theorem ev_bl1 {b : Bool} : blsOf (.val (.bl b) :: ws) = (blsOf ws).map (b :: ·) := rfl
/-! ### reversed, parts, pop -/
def kRev (o : Option (List W)) (M : Store) : R W := match o with
  | some ws => .ok (.ptr M.length) (M ++ [.lst ws.reverse])
  | none => .stuck
theorem ev_kRev : kRev (some ws) M = .ok (.ptr M.length) (M ++ [.lst ws.reverse]) := rfl
theorem ev_rev : gRev w M = kRev (lvw M w) M := rfl
def slC (k : Nat) (lo hi : Option Int) (o : Option Cell) (M : Store) : R W := match o with
  | some (.lst ws) => .ok (.ptr M.length) (M ++ [.lst (cutL ws lo hi)])
  | _ => gSl (.ptr k) lo hi M
theorem ev_slC {lo hi : Option Int} : slC k lo hi (some (.lst ws)) M = .ok (.ptr M.length) (M ++ [.lst (cutL ws lo hi)]) := rfl
theorem ev_slP {lo hi : Option Int} : gSl (.ptr k) lo hi M = slC k lo hi M[k]? M := by
  unfold slC
  split
  · rename_i ws h
    unfold gSl
    simp only [ev_rdp h, ev_tvwP h, ev_lvwP h]
  · rfl
theorem ev_slR {ds : List D} {lo hi : Option Int} : gSl (.val (.rls ds)) lo hi M = .ok (.ptr M.length) (M ++ [.lst (cutL (ds.map .val) lo hi)]) := rfl
theorem ev_slS (h : x.length ≤ sizeLine) {lo hi : Option Int} : gSl (.val (.str x)) lo hi M = .ok (.val (.str (cutS x lo hi))) M := by
  show (if _ then _ else _) = _
  rw [if_pos h]
def popC (k : Nat) (o : Option Cell) (M : Store) : R W := match o with
  | some (.lst xs) => (match xs[xs.length - 1]? with
    | some w => .ok w (M.set k (.lst xs.dropLast))
    | none => .stuck)
  | _ => .stuck
theorem ev_pop : gPop (.ptr k) [] M = popC k M[k]? M := rfl
theorem pop_last {a : W} : popC k (some (.lst (ws ++ [a]))) M = .ok a (M.set k (.lst ws)) := by
  unfold popC
  simp
/-! ### ways out of two -/
theorem orS_of {f g : DS} (h : ∀ e' M', f e M = .nx e' M' → True) : True := trivial
def kOrS (g : DS) (e : Env) (M : Store) (r : SR) : SR := match r with
  | .stuck => g e M
  | .nx e M => .nx e M
  | .rt w M => .rt w M
  | .bk e M => .bk e M
  | .ct e M => .ct e M
  | .exc c fs e M => .exc c fs e M
theorem ev_kOrS {g : DS} {e' : Env} : kOrS g e M (.nx e' M1) = .nx e' M1 := rfl
theorem ev_kOrSs {g : DS} : kOrS g e M .stuck = g e M := rfl
theorem ev_orS {f g : DS} : orS f g e M = kOrS g e M (f e M) := by
  unfold orS kOrS
  cases f e M <;> rfl
def kPut3 (e : Env) (w o i : W) (M : Store) : SR := match o, i with
  | .ptr k, .val (.int j) => (match M[k]? with
    | some (.lst xs) => (match ixN xs.length j with
      | some n => .nx e (M.set k (.lst (xs.set n w)))
      | none => .stuck)
    | _ => .stuck)
  | _, _ => .stuck
def kPut2 (fi : DE) (e : Env) (w o : W) (M : Store) : SR := R.st (fi e M) e (kPut3 e w o)
def kPut1 (fo fi : DE) (e : Env) (w : W) (M : Store) : SR := R.st (fo e M) e (kPut2 fi e w)
theorem ev_kPut2 {o : W} : kPut2 fi e w o M = R.st (fi e M) e (kPut3 e w o) := rfl
theorem ev_kPut1 : kPut1 fo fi e w M = R.st (fo e M) e (kPut2 fi e w) := rfl
theorem ev_putL : dPutL fa fo fi e M = R.st (fa e M) e (kPut1 fo fi e) := rfl
def putN (k : Nat) (w : W) (xs : List W) (e : Env) (M : Store) (o : Option Nat) : SR := match o with
  | some n => .nx e (M.set k (.lst (xs.set n w)))
  | none => .stuck
theorem ev_putN {n : Nat} {xs : List W} : putN k w xs e M (some n) = .nx e (M.set k (.lst (xs.set n w))) := rfl
def putC (k : Nat) (w : W) (j : Int) (e : Env) (o : Option Cell) (M : Store) : SR := match o with
  | some (.lst xs) => putN k w xs e M (ixN xs.length j)
  | _ => .stuck
theorem ev_putC : putC k w i e (some (.lst ws)) M = putN k w ws e M (ixN ws.length i) := rfl
theorem ev_putCd {kvs : List (Key × W)} : putC k w i e (some (.dic kvs)) M = .stuck := rfl
theorem ev_kPut3 : kPut3 e w (.ptr k) (.val (.int i)) M = putC k w i e M[k]? M := rfl
theorem ev_kPut3s : kPut3 e w (.ptr k) (.val (.str x)) M = .stuck := rfl
/-! ### dicts -/
def kPd3 (e : Env) (w o i : W) (M : Store) : SR := match o, keyW i with
  | .ptr k, some ky => (match M[k]? with
    | some (.dic kvs) => if kvs.length < sizeLine then .nx e (M.set k (.dic (putW kvs ky w))) else .stuck
    | _ => .stuck)
  | _, _ => .stuck
def kPd2 (fi : DE) (e : Env) (w o : W) (M : Store) : SR := R.st (fi e M) e (kPd3 e w o)
def kPd1 (fo fi : DE) (e : Env) (w : W) (M : Store) : SR := R.st (fo e M) e (kPd2 fi e w)
theorem ev_kPd2 {o : W} : kPd2 fi e w o M = R.st (fi e M) e (kPd3 e w o) := rfl
theorem ev_kPd1 : kPd1 fo fi e w M = R.st (fo e M) e (kPd2 fi e w) := rfl
theorem ev_putD : dPutD fa fo fi e M = R.st (fa e M) e (kPd1 fo fi e) := rfl
def pdC (k : Nat) (w : W) (ky : Key) (e : Env) (o : Option Cell) (M : Store) : SR := match o with
  | some (.dic kvs) => if kvs.length < sizeLine then .nx e (M.set k (.dic (putW kvs ky w))) else .stuck
  | _ => .stuck
theorem ev_pdC {kvs : List (Key × W)} {ky : Key} : pdC k w ky e (some (.dic kvs)) M = if kvs.length < sizeLine then .nx e (M.set k (.dic (putW kvs ky w))) else .stuck := rfl
theorem ev_kPd3S : kPd3 e w (.ptr k) (.val (.str x)) M = pdC k w (.inr x) e M[k]? M := rfl
theorem ev_kPd3I : kPd3 e w (.ptr k) (.val (.int i)) M = pdC k w (.inl i) e M[k]? M := rfl
def kKG2 (kvs : List (Str × D)) (a b : W) (M : Store) : R W := match a with
  | .val (.str s) => (match kvs.lookup s with
    | some d => .ok (.val d) M
    | none => .ok b M)
  | _ => .stuck
def kKG1 (kvs : List (Str × D)) (fx : DE) (e : Env) (a : W) (M : Store) : R W := R.bind (fx e M) (kKG2 kvs a)
theorem ev_kKG1 {kvs : List (Str × D)} : kKG1 kvs fx e w M = R.bind (fx e M) (kKG2 kvs w) := rfl
theorem ev_kget {kvs : List (Str × D)} : dKGet kvs fa fx e M = R.bind (fa e M) (kKG1 kvs fx e) := rfl
def lkD (o : Option D) (b : W) : W := match o with
  | some d => .val d
  | none => b
theorem ev_kKG2 {kvs : List (Str × D)} {b : W} : kKG2 kvs (.val (.str x)) b M = .ok (lkD (kvs.lookup x) b) M := by
  show (match kvs.lookup x with | some d => R.ok (W.val d) M | none => .ok b M) = _
  cases kvs.lookup x <;> rfl
end
end Dn
end
end

section
set_option Elab.async false
set_option linter.all false
set_option maxRecDepth 100000
set_option maxHeartbeats 2000000
/-! Dn14: settle in general; lists of numbers as cells. -/
noncomputable section
namespace Dn
open PySem PySem.Spec PyProof.Rows L2
/-- M1 begins as M0 does, but for cells that hold nothing new -/
def Cl (n : Nat) : Store → Store → Prop
  | [], _ => True
  | c :: M0, c' :: M1 => (c = c' ∨ c'.low n = true) ∧ Cl n M0 M1
  | _ :: _, [] => False
theorem Cl.get {n : Nat} : ∀ {M0 M1 : Store}, Cl n M0 M1 → M0.length ≤ M1.length ∧ ∀ (k : Nat) (c : Cell), k < M0.length → M1[k]? = some c → (M0[k]? = some c ∨ c.low n = true)
  | [], _, _ => ⟨Nat.zero_le _, fun k c h => absurd h (Nat.not_lt_zero k)⟩
  | d :: M0, d' :: M1, h => by
    obtain ⟨h1, h2⟩ := h
    obtain ⟨h3, h4⟩ := Cl.get h2
    refine ⟨Nat.succ_le_succ h3, fun k c hk e => ?_⟩
    cases k with
    | zero =>
      have e' : d' = c := by simpa using e
      subst e'
      rcases h1 with h1 | h1
      · subst h1; exact .inl rfl
      · exact .inr h1
    | succ k => exact h4 k c (by simpa using hk) (by simpa using e)
  | _ :: _, [], h => h.elim
theorem Cl.closed {M0 M1 : Store} (h : Cl M0.length M0 M1) : Closed M0 M1 := h.get
theorem Cl.of {n : Nat} : ∀ {M0 M1 : Store}, M0.length ≤ M1.length → (∀ (k : Nat) (c : Cell), k < M0.length → M1[k]? = some c → (M0[k]? = some c ∨ c.low n = true)) → Cl n M0 M1
  | [], _, _, _ => trivial
  | d :: M0, [], h, _ => absurd h (by simp)
  | d :: M0, d' :: M1, h, g => by
    refine ⟨?_, Cl.of (by simpa using h) fun k c hk e => ?_⟩
    · rcases g 0 d' (by simp) rfl with q | q
      · exact .inl (by simpa using q)
      · exact .inr q
    · have := g (k + 1) c (by simpa using hk) (by simpa using e)
      simpa using this
section
variable {n : Nat} {M0 M1 T ex l l' : Store} {c d : Cell}
theorem cl_nil : Cl n [] M1 = True := propext Iff.rfl
theorem cl_cons : Cl n (c :: M0) (d :: M1) = ((c = d ∨ d.low n = true) ∧ Cl n M0 M1) := propext Iff.rfl
theorem cl_self : Cl n T T = True := eq_true (Cl.of (Nat.le_refl _) fun _ _ _ e => .inl e)
theorem cl_app : Cl n T (T ++ ex) = True := eq_true (Cl.of (by simp) fun k c hk e => .inl (by rw [List.getElem?_append_left hk] at e; exact e))
theorem cl_app2 : Cl n (T ++ l) (T ++ l') = Cl n l l' := by
  induction T with
  | nil => rfl
  | cons a T ih =>
    show ((a = a ∨ a.low n = true) ∧ Cl n (T ++ l) (T ++ l')) = _
    rw [ih]
    simp
theorem settle_vg {dd : D} (h : Cl M0.length M0 M1) : settle M0 (.ok (.val dd) M1) = .ok (.val dd) (M1.take M0.length) := by
  unfold settle
  simp only [h.closed, if_true]
def sPC (n k : Nat) (M1 : Store) (o : Option Cell) : R W := match o with
  | some c => if c.low n = true then .ok (.ptr n) (M1.take n ++ [c]) else .ok (.ptr k) M1
  | none => .stuck
theorem sPC_some {k : Nat} : sPC n k M1 (some c) = if c.low n = true then .ok (.ptr n) (M1.take n ++ [c]) else .ok (.ptr k) M1 := rfl
theorem settle_pg {k : Nat} (h : Cl M0.length M0 M1) : settle M0 (.ok (.ptr k) M1) = if k < M0.length then .ok (.ptr k) (M1.take M0.length) else sPC M0.length k M1 M1[k]? := by
  unfold settle
  simp only [h.closed, if_true]
  split
  · rfl
  · cases M1[k]? <;> rfl
theorem low_lst {ws : List W} : Cell.low n (.lst ws) = ws.all (W.low n) := rfl
theorem low_dic {ws : List (Key × W)} : Cell.low n (.dic ws) = ws.all fun q => q.2.low n := rfl
theorem low_frz {d : D} : Cell.low n (.frz d) = true := rfl
theorem low_val {d : D} : W.low n (.val d) = true := rfl
theorem low_ptr {k : Nat} : W.low n (.ptr k) = decide (k < n) := rfl
theorem take_app {α : Type} {a b : List α} {k : Nat} : (a ++ b).take (a.length + k) = a ++ b.take k := by
  rw [List.take_append, List.take_of_length_le (by omega), show a.length + k - a.length = k by omega]
theorem take_app0 {α : Type} {a b : List α} : (a ++ b).take a.length = a := by simp
theorem lt_f {a b : Nat} : (a + b < a) = False := eq_false (by omega)
theorem lt_f1 {a b : Nat} : (a < a + (b + 1)) = True := eq_true (by omega)
theorem all_nil {α : Type} {p : α → Bool} : [].all p = true := rfl
theorem all_cons {α : Type} {p : α → Bool} {a : α} {l : List α} : (a :: l).all p = (p a && l.all p) := rfl
end
theorem ev_nc0 : ((0 : Nat) : Int) = 0 := rfl
theorem ev_nc1 : ((1 : Nat) : Int) = 1 := rfl
theorem ev_ncn {n : Nat} : ((no_index (OfNat.ofNat n) : Nat) : Int) = OfNat.ofNat n := rfl
/-! ### numbers, texts as a list's items -/
def iW (p : List Int) : List W := p.map fun i => .val (.int i)
def sW (p : List Str) : List W := p.map fun i => .val (.str i)
section
variable {n : Nat} {p q : List Int} {x y : List Str}
theorem low_iW : (iW p).all (W.low n) = true := by
  unfold iW; rw [List.all_map]; simp [Function.comp_def, W.low]
theorem low_sW : (sW x).all (W.low n) = true := by
  unfold sW; rw [List.all_map]; simp [Function.comp_def, W.low]
theorem len_iW : (iW p).length = p.length := by simp [iW]
theorem len_sW : (sW x).length = x.length := by simp [sW]
theorem int_iW : intsOf (iW p) = some p := by
  unfold iW
  induction p with
  | nil => rfl
  | cons a p ih => rw [List.map_cons, ev_int1, ih]; rfl
theorem str_sW : strsOf (sW x) = some x := by
  unfold sW
  induction x with
  | nil => rfl
  | cons a p ih => rw [List.map_cons, strsOf, ih]; rfl
theorem iW_app : iW p ++ iW q = iW (p ++ q) := by simp [iW]
theorem sW_app : sW x ++ sW y = sW (x ++ y) := by simp [sW]
theorem iW_rev : (iW p).reverse = iW p.reverse := by simp [iW]
theorem iW_nil : ([] : List W) = iW [] := rfl
end
end Dn
end
end

section
set_option Elab.async false
set_option linter.all false
set_option maxRecDepth 100000
set_option maxHeartbeats 2000000
/-! Dn15: loops by an invariant; small numbers. -/
noncomputable section
namespace Dn
open PySem PySem.Spec PyProof.Rows L2
open Classical
/-! ### small numbers -/
def Sm (x : Int) : Prop := x.natAbs < 18446744073709551616
theorem Sm.log {x : Int} (h : Sm x) : x.natAbs.log2 < 64 := by
  unfold Sm at h
  by_cases z : x.natAbs = 0
  · rw [z]; decide
  · exact (Nat.log2_lt z).mpr (Nat.lt_of_lt_of_eq h (by decide))
theorem log_lt {n k : Nat} (hk : 0 < k) (h : n < 2 ^ k) : n.log2 < k := by
  by_cases z : n = 0
  · rw [z]; simpa using hk
  · exact (Nat.log2_lt z).mpr h
theorem natAbs_ediv_le {a m : Int} (h : 0 < m) : (a / m).natAbs ≤ a.natAbs := Int.natAbs_ediv_le_natAbs a m
theorem log_mono {a b : Nat} (h : a ≤ b) : a.log2 ≤ b.log2 := by
  by_cases z : a = 0
  · rw [z]; simp
  · rw [Nat.le_log2 (by omega)]
    exact Nat.le_trans (Nat.log2_self_le z) h
theorem Sm.mul_log {a b : Int} (ha : Sm a) (hb : Sm b) : (a * b).natAbs.log2 < 128 := by
  apply log_lt (by decide)
  rw [Int.natAbs_mul]
  unfold Sm at ha hb
  calc a.natAbs * b.natAbs ≤ 18446744073709551616 * b.natAbs := Nat.mul_le_mul_right _ (Nat.le_of_lt ha)
    _ < 18446744073709551616 * 18446744073709551616 := Nat.mul_lt_mul_of_pos_left hb (by decide)
    _ = 2 ^ 128 := by decide
/-! ### comprehensions -/
section
variable {s : Stay} {dg : DG} {ft : DT} {fe : DE} {k : Nat} {e : Env} {f : DS}
theorem loopC_nil {M : Store} (ok : s.ok M) : loopC s dg ft fe k e [] M = .ok (.ptr k) M := by
  show (if s.ok M then _ else _) = _
  rw [if_pos ok]
/-- an invariant I of what is left, of the store and of what is gathered -/
theorem loopC_inv (I : List W → Store → List W → Prop) (hI : ∀ ws M acc, I ws M acc → s.ok M ∧ acc.length + ws.length < sizeLine) : ∀ (ws : List W)
    (step : ∀ w us M acc, I (w :: us) M acc → ∃ e1, dg w e M = some e1 ∧ ft e1 M = .ok true M ∧ ∃ y M2, settle M (fe e1 M) = .ok y M2 ∧ M2[k]? = some (.lst acc) ∧ I us (M2.set k (.lst (acc ++ [y]))) (acc ++ [y]))
    (M : Store) (acc : List W), I ws M acc → ∃ M' ys, loopC s dg ft fe k e ws M = .ok (.ptr k) M' ∧ I [] M' (acc ++ ys) ∧ ys.length = ws.length
  | [], _, M, acc, h => ⟨M, [], loopC_nil (hI _ M acc h).1, by rw [List.append_nil]; exact h, rfl⟩
  | w :: ws, step, M, acc, h => by
    obtain ⟨e1, h1, h2, y, M2, h3, h4, h5⟩ := step w ws M acc h
    obtain ⟨M', ys, g1, g2, g3⟩ := loopC_inv I hI ws step _ _ h5
    refine ⟨M', y :: ys, ?_, by rw [List.append_assoc] at g2; exact g2, by simp [g3]⟩
    rw [loopC_step (hI _ M acc h).1, h1, ev_kC1, h2, ev_kC21, h3, ev_kC3, h4, ev_kC4, if_pos (by have := (hI _ M acc h).2; simp at this; omega)]
    exact g1
/-- filter and map, the store as it was -/
theorem loopC_fm (T : Store) (p : W → Bool) (g : W → W) : ∀ (ws acc : List W) (hl : acc.length + ws.length < sizeLine) (hs : ∀ acc, s.ok (T ++ [.lst acc]))
    (step : ∀ w ∈ ws, ∀ acc, ∃ e1, dg w e (T ++ [.lst acc]) = some e1 ∧ ft e1 (T ++ [.lst acc]) = .ok (p w) (T ++ [.lst acc]) ∧ (p w = true → settle (T ++ [.lst acc]) (fe e1 (T ++ [.lst acc])) = .ok (g w) (T ++ [.lst acc]))),
    loopC s dg ft fe T.length e ws (T ++ [.lst acc]) = .ok (.ptr T.length) (T ++ [.lst (acc ++ (ws.filter p).map g)])
  | [], acc, hl, hs, _ => by
    rw [loopC_nil (hs acc)]; simp
  | w :: ws, acc, hl, hs, step => by
    obtain ⟨e1, h1, h2, h3⟩ := step w (by simp) acc
    rw [loopC_step (hs acc), h1, ev_kC1, h2]
    cases q : p w with
    | false =>
      rw [ev_kC20, loopC_fm T p g ws acc (by simp at hl; omega) hs (fun w hw => step w (by simp [hw]))]
      simp [q]
    | true =>
      rw [ev_kC21, h3 q, ev_kC3, st_at0, ev_kC4, if_pos (by simp at hl; omega), st_set0]
      rw [loopC_fm T p g ws (acc ++ [g w]) (by simp at hl ⊢; omega) hs (fun w hw => step w (by simp [hw]))]
      simp [q]
/-! ### for -/
theorem loopF_nil {M : Store} {e : Env} (ok : s.ok M) : loopF s dg f [] e M = .nx e M := by
  show (if s.ok M then _ else _) = _
  rw [if_pos ok]
theorem loopF_step {M : Store} {e : Env} {w : W} {ws : List W} (ok : s.ok M) : loopF s dg f (w :: ws) e M = kF1 s dg f ws M (dg w e M) := by
  show (if s.ok M then _ else _) = _
  rw [if_pos ok]
  unfold kF1
  cases dg w e M <;> rfl
/-- each turn goes on -/
theorem loopF_inv (I : List W → Env → Store → Prop) (hI : ∀ ws e M, I ws e M → s.ok M) : ∀ (ws : List W)
    (step : ∀ w us e M, I (w :: us) e M → ∃ e1, dg w e M = some e1 ∧ ∃ e2 M2, (f e1 M = .nx e2 M2 ∨ f e1 M = .ct e2 M2) ∧ I us e2 M2)
    (e : Env) (M : Store), I ws e M → ∃ e' M', loopF s dg f ws e M = .nx e' M' ∧ I [] e' M'
  | [], _, e, M, h => ⟨e, M, loopF_nil (hI _ _ _ h), h⟩
  | w :: ws, step, e, M, h => by
    obtain ⟨e1, h1, e2, M2, h2, h3⟩ := step w ws e M h
    obtain ⟨e', M', g1, g2⟩ := loopF_inv I hI ws step e2 M2 h3
    refine ⟨e', M', ?_, g2⟩
    rw [loopF_step (hI _ _ _ h), h1, ev_kF1]
    rcases h2 with h2 | h2 <;> rw [h2] <;> exact g1
/-- while: a measure -/
theorem ev_while {n : Nat} {e : Env} {M : Store} : dWhile n ft f e M = loopW ft f n e M := rfl
theorem loopW_f {n : Nat} {e : Env} {M M1 : Store} (h : ft e M = .ok false M1) : loopW ft f (n + 1) e M = .nx e M1 := by
  unfold loopW
  rw [h]; rfl
theorem loopW_t {n : Nat} {e e2 : Env} {M M1 M2 : Store} (h : ft e M = .ok true M1) (h2 : f e M1 = .nx e2 M2) : loopW ft f (n + 1) e M = loopW ft f n e2 M2 := by
  conv => lhs; unfold loopW
  rw [h]
  show (match f e M1 with | .nx e' M' => _ | .ct e' M' => _ | .bk e' M' => _ | .rt w M' => _ | .exc c fs e' M' => _ | .stuck => _) = _
  rw [h2]
theorem loopW_inv (I : Nat → Env → Store → Prop) (F : Env → Store → Prop) (step : ∀ m e M, I m e M → (∃ M1, ft e M = .ok false M1 ∧ F e M1) ∨ ∃ M1, ft e M = .ok true M1 ∧ ∃ m' e2 M2, m = m' + 1 ∧ (f e M1 = .nx e2 M2 ∨ f e M1 = .ct e2 M2) ∧ I m' e2 M2) :
    ∀ (n m : Nat) (e : Env) (M : Store), m < n → I m e M → ∃ e' M', loopW ft f n e M = .nx e' M' ∧ F e' M'
  | 0, m, _, _, h, _ => absurd h (Nat.not_lt_zero _)
  | n + 1, m, e, M, h, hi => by
    rcases step m e M hi with ⟨M1, h1, h2⟩ | ⟨M1, h1, m', e2, M2, hm, h2, h3⟩
    · refine ⟨e, M1, ?_, h2⟩
      unfold loopW
      rw [h1]; rfl
    · obtain ⟨e', M', g1, g2⟩ := loopW_inv I F step n m' e2 M2 (by omega) h3
      refine ⟨e', M', ?_, g2⟩
      unfold loopW
      rw [h1]
      show (match f e M1 with | .nx e' M' => _ | .ct e' M' => _ | .bk e' M' => _ | .rt w M' => _ | .exc c fs e' M' => _ | .stuck => _) = _
      rcases h2 with h2 | h2 <;> rw [h2] <;> exact g1
end
theorem comp_ints (S : Store) (s : Stay) (fe : DE) (i : Nat) (e : Dn.Env) (g : Int → Int) (hs : ∀ acc, s.ok (S ++ [.lst acc]))
    (step : ∀ z acc, settle (S ++ [.lst acc]) (fe (e.set i (some (.val (.int z)))) (S ++ [.lst acc])) = .ok (.val (.int (g z))) (S ++ [.lst acc])) (ns acc : List Int) (hl : acc.length + ns.length < sizeLine) :
    loopC s (gnm i) dYes fe S.length e (iW ns) (S ++ [.lst (iW acc)]) = R.ok (W.ptr S.length) (S ++ [.lst (iW (acc ++ ns.map g))]) := by
  have := loopC_fm (s := s) (dg := gnm i) (ft := dYes) (fe := fe) (e := e) S (fun _ => true) (fun w => match w with | .val (.int z) => .val (.int (g z)) | w => w) (iW ns) (iW acc) (by rw [len_iW, len_iW]; exact hl) hs (fun w hw acc => by
    unfold iW at hw
    obtain ⟨z, _, rfl⟩ := List.mem_map.mp hw
    exact ⟨_, rfl, rfl, fun _ => step z acc⟩)
  rw [this]
  congr 3
  simp [iW, List.filter_eq_self.mpr, Function.comp_def]
/-! ### the last of a list of numbers -/
theorem iW_n : iW [] = [] := rfl
theorem sW_n : sW [] = [] := rfl
theorem ev_powI {i j : Int} {M : Store} (h : 0 ≤ j) (h2 : (Builtin.Int.intBits i : Int) * j ≤ 2 ^ 27) : gPow (.val (.int i)) (.val (.int j)) M = .ok (.val (.int (i ^ j.toNat))) M := by
  show (if _ then _ else _) = _
  rw [if_pos (by rw [Bool.and_eq_true]; exact ⟨decide_eq_true h, decide_eq_true h2⟩)]

theorem at_iW {q : List Int} {a : Int} : atI (iW (q ++ [a])) (-1) = some (.val (.int a)) := by
  rw [show iW (q ++ [a]) = iW q ++ [.val (.int a)] by simp [iW]]
  exact at_last
theorem ix_last {n : Nat} : ixN (n + 1) (-1) = some n := by
  unfold ixN
  rw [if_neg (by omega), if_pos (by omega)]
  congr 1
  omega
theorem set_iW {q : List Int} {a b : Int} : (iW (q ++ [a])).set q.length (.val (.int b)) = iW (q ++ [b]) := by
  simp [iW]
theorem pop_iW {q : List Int} {a : Int} {k : Nat} {M : Store} : popC k (some (.lst (iW (q ++ [a])))) M = .ok (.val (.int a)) (M.set k (.lst (iW q))) := by
  rw [show iW (q ++ [a]) = iW q ++ [.val (.int a)] by simp [iW]]
  exact pop_last
end Dn
end
end

section
set_option Elab.async false
set_option linter.all false
set_option maxRecDepth 100000
set_option maxHeartbeats 2000000
/-! Dn16: texts; comprehensions over lists of a form. -/
noncomputable section
namespace Dn
open PySem PySem.Spec PyProof.Rows L2
/-- a comprehension over things of a form -/
theorem comp_g {α β : Type} {s : Stay} {dg : DG} {ft : DT} {fe : DE} {e : Dn.Env} (S : Store) (ra : α → W) (rb : β → W) (g : α → β) (p : α → Bool) (hs : ∀ acc, s.ok (S ++ [.lst acc])) : ∀ (l : List α)
    (step : ∀ a ∈ l, ∀ acc, ∃ e1, dg (ra a) e (S ++ [.lst acc]) = some e1 ∧ ft e1 (S ++ [.lst acc]) = .ok (p a) (S ++ [.lst acc]) ∧ (p a = true → settle (S ++ [.lst acc]) (fe e1 (S ++ [.lst acc])) = .ok (rb (g a)) (S ++ [.lst acc])))
    (acc : List W) (hl : acc.length + l.length < sizeLine), loopC s dg ft fe S.length e (l.map ra) (S ++ [.lst acc]) = R.ok (W.ptr S.length) (S ++ [.lst (acc ++ ((l.filter p).map g).map rb)])
  | [], _, acc, hl => by
    rw [List.map_nil, loopC_nil (hs acc)]; simp
  | a :: l, step, acc, hl => by
    obtain ⟨e1, h1, h2, h3⟩ := step a (by simp) acc
    rw [List.map_cons, loopC_step (hs acc), h1, ev_kC1, h2]
    cases q : p a with
    | false =>
      rw [ev_kC20, comp_g S ra rb g p hs l (fun a ha => step a (by simp [ha])) acc (by simp at hl; omega)]
      simp [q]
    | true =>
      rw [ev_kC21, h3 q, ev_kC3, st_at0, ev_kC4, if_pos (by simp at hl; omega), st_set0]
      rw [comp_g S ra rb g p hs l (fun a ha => step a (by simp [ha])) _ (by simp at hl ⊢; omega)]
      simp [q]
theorem all_filter {α : Type} (q : α → Bool) (l : List α) : decide (((l.filter fun d => !q d).length : Int) = 0) = l.all q := by
  induction l with
  | nil => rfl
  | cons a l ih =>
    cases h : q a with
    | true =>
      rw [List.filter_cons_of_neg (by simp [h]), ih, List.all_cons, h]; rfl
    | false =>
      rw [List.filter_cons_of_pos (by simp [h]), List.all_cons, h, List.length_cons]
      exact decide_eq_false (by omega)
def bW (p : List Bool) : List W := p.map fun b => .val (.bl b)
def cW (l : List Nat) : List W := l.map fun c => .val (.str ⟨#[c]⟩)
theorem low_bW {n : Nat} {p : List Bool} : (bW p).all (W.low n) = true := by
  unfold bW; rw [List.all_map]; simp [Function.comp_def, W.low]
theorem low_cW {n : Nat} {p : List Nat} : (cW p).all (W.low n) = true := by
  unfold cW; rw [List.all_map]; simp [Function.comp_def, W.low]
theorem len_bW {p : List Bool} : (bW p).length = p.length := by simp [bW]
theorem len_cW {p : List Nat} : (cW p).length = p.length := by simp [cW]
theorem bls_bW {p : List Bool} : blsOf (bW p) = some p := by
  unfold bW
  induction p with
  | nil => rfl
  | cons a p ih => rw [List.map_cons, ev_bl1, ih]; rfl
section
variable {M : Store} {k : Nat} {x z : Str} {c : Nat} {l t : List Nat} {ws : List W} {ys : List Str} {ds : List D}
def memC (c : Nat) (z : Str) : Bool := decide (c ∈ z.cps.toList)
theorem memC_app {a b : Str} : memC c (a ++ b) = (memC c a || memC c b) := by
  unfold memC
  show decide (c ∈ (a.cps ++ b.cps).toList) = _
  by_cases h1 : c ∈ a.cps.toList <;> by_cases h2 : c ∈ b.cps.toList <;> simp_all
theorem ev_niC : gNi (.val (.str ⟨#[c]⟩)) (.val (.str z)) M = .ok (.val (.bl (!memC c z))) M := rfl
theorem ev_inC : gIn (.val (.str ⟨#[c]⟩)) (.val (.str z)) M = .ok (.val (.bl (memC c z))) M := rfl
theorem len_mk (h : l.length ≤ 16777216) : gLen [.val (.str ⟨⟨l⟩⟩)] M = .ok (.val (.int l.length)) M := by
  show (if Str.length ⟨⟨l⟩⟩ ≤ sizeLine then R.ok (W.val (.int (Str.length ⟨⟨l⟩⟩))) M else .stuck) = _
  rw [if_pos (show Str.length ⟨⟨l⟩⟩ ≤ sizeLine from h)]
  rfl
theorem ix0_mk (h : (c :: t).length ≤ 16777216) : gIx (.val (.str ⟨⟨c :: t⟩⟩)) (.val (.int 0)) M = .ok (.val (.str ⟨#[c]⟩)) M := by
  show (if Str.length ⟨⟨c :: t⟩⟩ ≤ sizeLine then (match atI (c :: t) 0 with | some c => R.ok (W.val (.str ⟨#[c]⟩)) M | none => .stuck) else .stuck) = _
  rw [if_pos (show Str.length ⟨⟨c :: t⟩⟩ ≤ sizeLine from h), ev_at0]
theorem ix_mk {i : Int} (h : l.length ≤ 16777216) (e : atI l i = some c) : gIx (.val (.str ⟨⟨l⟩⟩)) (.val (.int i)) M = .ok (.val (.str ⟨#[c]⟩)) M := by
  show (if Str.length ⟨⟨l⟩⟩ ≤ sizeLine then (match atI l i with | some c => R.ok (W.val (.str ⟨#[c]⟩)) M | none => .stuck) else .stuck) = _
  rw [if_pos (show Str.length ⟨⟨l⟩⟩ ≤ sizeLine from h), e]
theorem ev_signs : signs ⟨⟨l⟩⟩ = cW l := rfl
theorem ev_itMk : gIter (.val (.str ⟨⟨l⟩⟩)) M = .ok (cW l, .always) M := rfl
theorem ev_eqB {a b : Bool} : gEq (.val (.bl a)) (.val (.bl b)) M = .ok (.val (.bl (a == b))) M := by
  cases a <;> cases b <;> rfl
/-! ### a text in a list of texts -/
theorem strs_of : ∀ {ws : List W} {ys : List Str}, strsOf ws = some ys → ws = sW ys
  | [], ys, h => by cases h; rfl
  | w :: ws, ys, h => by
    cases w with
    | ptr k => cases h
    | val d =>
      cases d with
      | str i =>
        cases q : strsOf ws with
        | none => simp [strsOf, q] at h
        | some l =>
          simp [strsOf, q] at h
          subst h
          rw [strs_of q]; rfl
      | _ => cases h
theorem optAll_strs {n : Nat} : ∀ is : List Str, optAll (W.py M n) (sW is) = some (is.map PyData.str)
  | [] => rfl
  | i :: is => by
    show optAll (W.py M n) (.val (.str i) :: sW is) = _
    rw [optAll]
    rw [optAll_strs is]
    cases n <;> rfl
theorem pyL_strs : ∀ is : List Str, D.pyL (is.map D.str) = some (is.map PyData.str)
  | [] => by rw [List.map_nil, D.pyL]; rfl
  | i :: is => by
    rw [List.map_cons, D.pyL, pyL_strs is]
    rw [D.py]; rfl
theorem flat_strs (is : List Str) : (is.map PyData.str).all flatP = true := by
  rw [List.all_map]; simp [Function.comp_def, flatP]
theorem any_strs (is : List Str) : ((is.map PyData.str).any fun z => PyData.eqv z (.str x)) = decide (x ∈ is) := by
  induction is with
  | nil => simp
  | cons a is ih =>
    rw [List.map_cons, List.any_cons, ih, PyData.eqv]
    by_cases h : x = a
    · subst h; simp
    · have h' : ¬ a = x := fun z => h z.symm
      simp [h, h']
theorem in_strs {b : W} (hb : ∀ y, rd M b ≠ .val (.str y)) (h : W.py M 4 b = some (.list (ys.map .str)) ∨ W.py M 4 b = some (.tuple (ys.map .str))) : inW (.val (.str x)) b M = some (decide (x ∈ ys)) := by
  unfold inW
  split
  · rename_i z1 z2; exact absurd z2 (hb _)
  · show (match some (PyData.str x) with | some p => _ | none => none) = _
    rcases h with h | h <;> simp only [h, flat_strs, flatP, and_self, if_true, any_strs]
def inC (k : Nat) (x : Str) (M : Store) (o : Option Cell) : Option Bool := match o with
  | some (.lst ws) => (match strsOf ws with
    | some ys => some (decide (x ∈ ys))
    | none => inW (.val (.str x)) (.ptr k) M)
  | _ => inW (.val (.str x)) (.ptr k) M
theorem ev_inC2 : inC k x M (some (.lst (sW ys))) = some (decide (x ∈ ys)) := by
  unfold inC
  simp only [str_sW]
theorem ev_inP : inW (.val (.str x)) (.ptr k) M = inC k x M M[k]? := by
  unfold inC
  split
  · rename_i ws h
    split
    · rename_i ys e
      refine in_strs (fun y => ptr_not h) (.inl ?_)
      show (match M[k]? with | some (.lst ws) => (optAll (W.py M 3) ws).map PyData.list | some (.frz d) => d.py | _ => none) = _
      rw [h]
      show (optAll (W.py M 3) ws).map PyData.list = _
      rw [strs_of e, optAll_strs]; rfl
    · rfl
  · rfl
theorem strs_ds : ∀ {ds : List D} {ys : List Str}, strsOf (ds.map W.val) = some ys → ds = ys.map D.str
  | [], is, h => by cases h; rfl
  | d :: ds, is, h => by
    cases d with
    | str i =>
      cases q : strsOf (ds.map W.val) with
      | none => simp [strsOf, q] at h
      | some l =>
        simp [strsOf, q] at h
        subst h
        rw [strs_ds q]; rfl
    | _ => cases h
theorem in_tup (ys : List Str) : inW (.val (.str x)) (.val (.tup (ys.map .str))) M = some (decide (x ∈ ys)) := by
  refine in_strs (fun y z => by cases z) (.inr ?_)
  show D.py (.tup (ys.map .str)) = _
  rw [D.py, pyL_strs]; rfl
def kIn (o : Option Bool) (M : Store) : R W := match o with
  | some r => .ok (.val (.bl r)) M
  | none => .stuck
def kNi (o : Option Bool) (M : Store) : R W := match o with
  | some r => .ok (.val (.bl (!r))) M
  | none => .stuck
theorem ev_kIn {r : Bool} : kIn (some r) M = .ok (.val (.bl r)) M := rfl
theorem ev_kNi {r : Bool} : kNi (some r) M = .ok (.val (.bl (!r))) M := rfl
theorem ev_inPP : gIn (.val (.str x)) (.ptr k) M = kIn (inW (.val (.str x)) (.ptr k) M) M := rfl
theorem ev_niPP : gNi (.val (.str x)) (.ptr k) M = kNi (inW (.val (.str x)) (.ptr k) M) M := rfl
theorem ev_inT : gIn (.val (.str x)) (.val (.tup ds)) M = kIn (inW (.val (.str x)) (.val (.tup ds)) M) M := rfl
theorem ev_niT : gNi (.val (.str x)) (.val (.tup ds)) M = kNi (inW (.val (.str x)) (.val (.tup ds)) M) M := rfl
theorem split_of (h : (z.length == 0) = false) (h2 : x.length + 2 ≤ sizeLine) (e : Txt.split x z = ys) : gSplit (.val (.str x)) [.val (.str z)] M = .ok (.ptr M.length) (M ++ [.lst (sW ys)]) := by
  show (if (z.length == 0) = false ∧ x.length + 2 ≤ sizeLine then _ else _) = _
  rw [if_pos ⟨h, h2⟩, e]; rfl
theorem join_of {b : Str} (h : (ys.map (·.length)).sum + ys.length * b.length ≤ 16777216) (e : (svw M w).bind strsOf = some ys) : gJoin (.val (.str b)) [w] M = .ok (.val (.str (Txt.join b ys))) M := by
  show (match (svw M w).bind strsOf with | some ys => _ | none => _) = _
  rw [e]
  exact if_pos h
theorem ev_upS (h : x.length ≤ 5592405) : gUpper (.val (.str x)) [] M = .ok (.val (.str (Txt.upper x))) M := by
  show (if _ then _ else _) = _
  rw [if_pos h]
/-! ### displayed dicts, get -/
variable {e : Dn.Env} {fk fv fo fi fx : DE} {fr fp : DP} {M1 : Store} {kvs : List (Key × W)} {n : Nat} {v w o : W} {ps : List (W × W)}
def kPc3 (k v : W) (r : List (W × W)) (M : Store) : R (List (W × W)) := .ok ((k, v) :: r) M
def kPc2 (fr : DP) (e : Dn.Env) (k v : W) (M : Store) : R (List (W × W)) := R.bind (fr e M) (kPc3 k v)
def kPc1 (fv : DE) (fr : DP) (e : Dn.Env) (k : W) (M : Store) : R (List (W × W)) := R.bind (fv e M) (kPc2 fr e k)
theorem ev_kPc3 : kPc3 w v ps M = .ok ((w, v) :: ps) M := rfl
theorem ev_kPc2 : kPc2 fr e w v M = R.bind (fr e M) (kPc3 w v) := rfl
theorem ev_kPc1 : kPc1 fv fr e w M = R.bind (fv e M) (kPc2 fr e w) := rfl
theorem ev_pc : dPc fk fv fr e M = R.bind (fk e M) (kPc1 fv fr e) := rfl
def dispC (n : Nat) (M1 : Store) (a : Option (List (Key × W))) (o : Option Cell) : R W := match a, o with
  | some kvs, some (.dic []) => if kvs.length ≤ 15 then .ok (.ptr n) (M1.set n (.dic (mergeW [] kvs))) else .stuck
  | _, _ => .stuck
def kDisp (n : Nat) (ps : List (W × W)) (M1 : Store) : R W := dispC n M1 (keysP ps) M1[n]?
theorem ev_dispC : dispC n M1 (some kvs) (some (.dic [])) = if kvs.length ≤ 15 then .ok (.ptr n) (M1.set n (.dic (mergeW [] kvs))) else .stuck := rfl
theorem ev_kDisp : kDisp n ps M1 = dispC n M1 (keysP ps) M1[n]? := rfl
theorem ev_disp : dDisp fp e M = R.bind (fp e (M ++ [.dic []])) (kDisp M.length) := rfl
theorem ev_keys0 : keysP [] = some [] := rfl
theorem ev_keysS : keysP ((.val (.str x), v) :: ps) = (keysP ps).map ((.inr x, v) :: ·) := by
  show (match some (Sum.inr x : Key), keysP ps with | some a, some b => some ((a, v) :: b) | _, _ => none) = _
  cases keysP ps <;> rfl
theorem ev_merge : mergeW [] kvs = kvs.foldl (fun acc kv => putW acc kv.1 kv.2) [] := rfl
def g3C (k : Nat) (x : Str) (d : W) (M : Store) (o : Option Cell) : R W := match o with
  | some (.dic kvs) => .ok ((valW kvs (.inr x : Key)).getD d) M
  | _ => .stuck
def kG3 (o i d : W) (M : Store) : R W := match dGetW M o i with
  | some (some w) => .ok w M
  | some none => .ok d M
  | none => .stuck
theorem ev_g3C : g3C k x w M (some (.dic kvs)) = .ok ((valW kvs (.inr x : Key)).getD w) M := rfl
theorem ev_kG3 : kG3 (.ptr k) (.val (.str x)) w M = g3C k x w M M[k]? := by
  unfold kG3 g3C dGetW
  simp only
  cases M[k]? with
  | none => rfl
  | some c =>
    cases c with
    | dic kvs =>
      show (match some (valW kvs (.inr x : Key)) with | some (some w) => R.ok w M | some none => .ok w M | none => .stuck) = R.ok ((valW kvs (.inr x : Key)).getD w) M
      cases valW kvs (.inr x : Key) <;> rfl
    | _ => rfl
def kG2 (fx : DE) (e : Dn.Env) (o i : W) (M : Store) : R W := R.bind (fx e M) (kG3 o i)
theorem ev_kG2 : kG2 fx e o w M = R.bind (fx e M) (kG3 o w) := rfl
def kG1 (fi fx : DE) (e : Dn.Env) (o : W) (M : Store) : R W := if isDicW M o = true then R.bind (fi e M) (kG2 fx e o) else .stuck
def g1C (fi fx : DE) (e : Dn.Env) (k : Nat) (M : Store) (o : Option Cell) : R W := match o with
  | some (.dic _) => R.bind (fi e M) (kG2 fx e (.ptr k))
  | _ => .stuck
theorem ev_g1C : g1C fi fx e k M (some (.dic kvs)) = R.bind (fi e M) (kG2 fx e (.ptr k)) := rfl
def isDicC : Option Cell → Bool
  | some (.dic _) => true
  | _ => false
theorem ev_kG1 : kG1 fi fx e (.ptr k) M = g1C fi fx e k M M[k]? := by
  show (if isDicC M[k]? = true then R.bind (fi e M) (kG2 fx e (.ptr k)) else R.stuck) = _
  unfold g1C
  cases M[k]? with
  | none => rfl
  | some c => cases c <;> rfl
theorem ev_get2 : dGet2 fo fi fx e M = R.bind (fo e M) (kG1 fi fx e) := rfl
/-! ### lengths, joins -/
theorem slen_mk : Str.length ⟨⟨l⟩⟩ = l.length := rfl
theorem join_len (z : Str) (hz : z.length = 0) : ∀ ts : List Str, (Txt.join z ts).length = (ts.map (·.length)).sum := by
  have key : ∀ ts : List Str, (Str.join z ts).length = (ts.map (·.length)).sum := by
    intro ts
    induction ts with
    | nil => rfl
    | cons a ts ih =>
      cases ts with
      | nil => show a.length = _; simp
      | cons b r =>
        show (a ++ z ++ Str.join z (b :: r)).length = _
        rw [Str.length_append, Str.length_append, ih, hz]
        simp
  intro ts
  show (Builtin.Str.glued z ts).length = _
  rw [StrLaws.glued_eq_join]
  exact key ts
theorem atI_in {α : Type} {xs : List α} {i : Int} (h0 : 0 ≤ i) (h1 : i < xs.length) : ∃ c, atI xs i = some c ∧ c ∈ xs := by
  unfold atI ixN
  rw [if_pos h0, if_pos h1]
  have hn : i.toNat < xs.length := by omega
  exact ⟨xs[i.toNat], List.getElem?_eq_getElem hn, List.getElem_mem hn⟩
theorem ev_rng1 {j : Int} : gRng1 [.val (.int j)] M = if smallI j then .ok (rngW 0 j.toNat, .always) M else .stuck := rfl
theorem len_rngW {lo : Int} {n : Nat} : (rngW lo n).length = n := by simp [rngW]
theorem sW_push {ys : List Str} {x : Str} {ws : List W} : sW ys ++ (.val (.str x) :: ws) = sW (ys ++ [x]) ++ ws := by simp [sW]
theorem str_cW : strsOf (cW l) = some (l.map fun c => ⟨#[c]⟩) := by
  unfold cW
  induction l with
  | nil => rfl
  | cons a p ih => rw [List.map_cons, strsOf, ih]; rfl
theorem eta_str : (⟨⟨x.cps.toList⟩⟩ : Str) = x := rfl
theorem get_s3 {α : Type} {c : α} {L : List α} {a b n : Nat} : (c :: L)[a + (b + (n + 1))]? = L[a + (b + n)]? := by
  rw [show a + (b + (n + 1)) = (a + (b + n)) + 1 by omega, List.getElem?_cons_succ]
/-- the last cell -/
theorem last_form {α : Type} {S : List α} {n : Nat} {c : α} (h : S[n]? = some c) (hl : S.length = n + 1) : ∃ T, S = T ++ [c] ∧ T.length = n := by
  rcases List.eq_nil_or_concat S with rfl | ⟨T, d, rfl⟩
  · simp at hl
  · rw [List.concat_eq_append] at h hl ⊢
    have hT : T.length = n := by simpa using hl
    subst hT
    have : d = c := by simpa using h
    subst this
    exact ⟨T, rfl, rfl⟩
end
end Dn
end
end

section
set_option Elab.async false
set_option linter.all false
set_option maxRecDepth 100000
namespace K01
open PySem PyProof.Rows L2 Dn
def c_LETTERS : D := .str "abcdefghijklmnopqrstuvwxyz"
def c_DIGITS : D := .str "0123456789"
def c_LONGEST_WORD : D := .int 8
def c_RESERVED : D := .tup [.str "values", .str "array", .str "var", .str "loop", .str "let", .str "set", .str "put", .str "if", .str "else", .str "end", .str "leave", .str "round", .str "pick", .str "old", .str "unit", .str "kind"]
def t_OPERANDS : List (Str × D) := [("move", .int 1), ("add", .int 2), ("sub", .int 2), ("mul", .int 2), ("less", .int 2), ("pick", .int 3), ("load", .int 0), ("store", .int 1), ("leave", .int 1)]
noncomputable section
def d_value_of : DS := (dSeq (dIf (dIsB (d2 gEq (dVar 0) (dC (.str "add")))) (dRet (d2 gMod (d2 gAdd (d2 gIx (dVar 1) (dC (.int 0))) (d2 gIx (dVar 1) (dC (.int 1)))) (dVar 2))) dNext)
    (dSeq (dIf (dIsB (d2 gEq (dVar 0) (dC (.str "sub")))) (dRet (d2 gMod (d2 gSub (d2 gIx (dVar 1) (dC (.int 0))) (d2 gIx (dVar 1) (dC (.int 1)))) (dVar 2))) dNext)
    (dSeq (dIf (dIsB (d2 gEq (dVar 0) (dC (.str "mul")))) (dRet (d2 gMod (d2 gMul (d2 gIx (dVar 1) (dC (.int 0))) (d2 gIx (dVar 1) (dC (.int 1)))) (dVar 2))) dNext)
    (dSeq (dIf (dIsB (d2 gEq (dVar 0) (dC (.str "less")))) (dRet (dIfE (dIsB (d2 gLt (d2 gIx (dVar 1) (dC (.int 0))) (d2 gIx (dVar 1) (dC (.int 1))))) (dC (.int 1)) (dC (.int 0)))) dNext)
    (dSeq (dIf (dIsB (d2 gEq (dVar 0) (dC (.str "pick")))) (dRet (dIfE (dIsB (d2 gNe (d2 gIx (dVar 1) (dC (.int 0))) (dC (.int 0)))) (d2 gIx (dVar 1) (dC (.int 1))) (d2 gIx (dVar 1) (dC (.int 2))))) dNext)
    (dRet (d2 gIx (dVar 1) (dC (.int 0)))))))))
def m_value_of : List Dn.W → Store → R Dn.W := dFun d_value_of 3
theorem u_value_of {ws : List Dn.W} {M : Store} : m_value_of ws M = settle M (kFun (d_value_of (env0 3 ws) M)) := rfl
def e_is_word_1 : DE := (dOrV (d2 gIn (dVar 1) (dC c_LETTERS)) (d2 gIn (dVar 1) (dC c_DIGITS)))
def d_is_word : DS := (dSeq (dIf (dNot (dIsB (dChain gLe gLe (dC (.int 1)) (dCall gLen (dCons (dVar 0) dNil)) (dC c_LONGEST_WORD)))) (dRet (dC (.bl false))) dNext)
    (dSeq (dIf (dIsB (d2 gNi (d2 gIx (dVar 0) (dC (.int 0))) (dC c_LETTERS))) (dRet (dC (.bl false))) dNext)
    (dRet (dTmp (dCall (gAll fun bs => bs.all id) (dCons (dLc (dIter (dVar 0)) (gnm 1) dYes e_is_word_1 [1]) dNil))))))
def m_is_word : List Dn.W → Store → R Dn.W := dFun d_is_word 2
theorem u_is_word {ws : List Dn.W} {M : Store} : m_is_word ws M = settle M (kFun (d_is_word (env0 2 ws) M)) := rfl
def d_is_identifier : DS := (dRet (dAndV (dCall m_is_word (dCons (dVar 0) dNil)) (d2 gNi (dVar 0) (dC c_RESERVED))))
def m_is_identifier : List Dn.W → Store → R Dn.W := dFun d_is_identifier 1
theorem u_is_identifier {ws : List Dn.W} {M : Store} : m_is_identifier ws M = settle M (kFun (d_is_identifier (env0 1 ws) M)) := rfl
def d_operand_count : DS := (dRet (dKGet t_OPERANDS (dVar 0) (d1 gNeg (dC (.int 1)))))
def m_operand_count : List Dn.W → Store → R Dn.W := dFun d_operand_count 1
theorem u_operand_count {ws : List Dn.W} {M : Store} : m_operand_count ws M = settle M (kFun (d_operand_count (env0 1 ws) M)) := rfl
def d_makes_value : DS := (dRet (dAndV (d2 gNe (dVar 0) (dC (.str "store"))) (d2 gNe (dVar 0) (dC (.str "leave")))))
def m_makes_value : List Dn.W → Store → R Dn.W := dFun d_makes_value 1
theorem u_makes_value {ws : List Dn.W} {M : Store} : m_makes_value ws M = settle M (kFun (d_makes_value (env0 1 ws) M)) := rfl
def e_Lpool_1 : DE := (dTmp (dCall gAbs (dCons (dCall gInt (dCons (dVar 4) dNil)) dNil)))
def e_Lpool_2 : DE := (d2 gMod (dVar 4) (dC (.int 1009)))
def e_Lpool_3 : DE := (d2 gMod (dVar 4) (d2 gPow (d2 gPow (dC (.int 10)) (dC (.int 60))) (dC (.int 9))))
def d_Lpool : DS := (dSeq (dSet 1 (dLc (dIter (dSl (dVar 0) dNo (dPart (dC (.int 63))))) (gnm 4) dYes e_Lpool_1 [4]))
    (dSeq (dSet 2 (d2 gAdd (dC (.int 1)) (dTmp (dCall gSum (dCons (dLc (dIter (dVar 1)) (gnm 4) dYes e_Lpool_2 [4]) dNil)))))
    (dSeq (dSet 3 (d2 gPow (dC (.int 31415926535897932384626433832795028841971693993751)) (dC (.int 12))))
    (dRet (d2 gAdd (dCall gMkL (dCons (d2 gMul (dVar 3) (dVar 2)) dNil)) (dLc (dIter (d1 gRev (dVar 1))) (gnm 4) dYes e_Lpool_3 [4]))))))
def m_Lpool : List Dn.W → Store → R Dn.W := dFun d_Lpool 5
theorem u_Lpool {ws : List Dn.W} {M : Store} : m_Lpool ws M = settle M (kFun (d_Lpool (env0 5 ws) M)) := rfl
def w_Lpick_1 : DT := (dAnd (dIsB (d2 gGt (dCall gLen (dCons (dVar 0) dNil)) (dC (.int 1)))) (dIsB (d2 gEq (d2 gIx (dVar 0) (d1 gNeg (dC (.int 1)))) (dC (.int 0)))))
def l_Lpick_2 : DS := (dDrop (dMeth0 "list" gPop (dVar 0)))
def d_Lpick : DS := (dSeq (dWhile 100000 w_Lpick_1 l_Lpick_2)
    (dSeq (dSet 2 (d2 gMod (dCall gInt (dCons (d2 gIx (dVar 0) (d1 gNeg (dC (.int 1)))) dNil)) (dVar 1)))
    (dSeq (orS (dPutL (d2 gDiv (dCall gInt (dCons (d2 gIx (dVar 0) (d1 gNeg (dC (.int 1)))) dNil)) (dVar 1)) (dVar 0) (d1 gNeg (dC (.int 1)))) (dPutD (d2 gDiv (dCall gInt (dCons (d2 gIx (dVar 0) (d1 gNeg (dC (.int 1)))) dNil)) (dVar 1)) (dVar 0) (d1 gNeg (dC (.int 1)))))
    (dRet (dVar 2)))))
def m_Lpick : List Dn.W → Store → R Dn.W := dFun d_Lpick 3
theorem u_Lpick {ws : List Dn.W} {M : Store} : m_Lpick ws M = settle M (kFun (d_Lpick (env0 3 ws) M)) := rfl
def d_Ldraw_modulus : DS := (dSeq (dSet 1 (dCall m_Lpick (dCons (dVar 0) (dCons (dC (.int 6)) dNil))))
    (dSeq (dIf (dIsB (d2 gLt (dVar 1) (dC (.int 4)))) (dRet (d2 gIx (dCall gMkL (dCons (dC (.int 97)) (dCons (dC (.int 2)) (dCons (dC (.int 1000000)) (dCons (dC (.int 3)) dNil))))) (dVar 1))) dNext)
    (dRet (d2 gAdd (dC (.int 2)) (dCall m_Lpick (dCons (dVar 0) (dCons (dC (.int 999999)) dNil)))))))
def m_Ldraw_modulus : List Dn.W → Store → R Dn.W := dFun d_Ldraw_modulus 2
theorem u_Ldraw_modulus {ws : List Dn.W} {M : Store} : m_Ldraw_modulus ws M = settle M (kFun (d_Ldraw_modulus (env0 2 ws) M)) := rfl
def d_Ldraw_number : DS := (dSeq (dSet 2 (dCall m_Lpick (dCons (dVar 0) (dCons (dC (.int 5)) dNil))))
    (dSeq (dIf (dIsB (d2 gLt (dVar 2) (dC (.int 3)))) (dRet (d2 gIx (dCall gMkL (dCons (dC (.int 0)) (dCons (dC (.int 1)) (dCons (d2 gSub (dVar 1) (dC (.int 1))) dNil)))) (dVar 2))) dNext)
    (dRet (dCall m_Lpick (dCons (dVar 0) (dCons (dVar 1) dNil))))))
def m_Ldraw_number : List Dn.W → Store → R Dn.W := dFun d_Ldraw_number 3
theorem u_Ldraw_number {ws : List Dn.W} {M : Store} : m_Ldraw_number ws M = settle M (kFun (d_Ldraw_number (env0 3 ws) M)) := rfl
def d_Lis_integer : DS := (dRet (dAndV (dCall gIsi (dCons (dVar 0) (dCons (dC (.ty "int")) dNil))) (dAndV (dNotV (dCall gIsi (dCons (dVar 0) (dCons (dC (.ty "bool")) dNil)))) (d2 gEq (dVar 0) (dVar 1)))))
def m_Lis_integer : List Dn.W → Store → R Dn.W := dFun d_Lis_integer 2
theorem u_Lis_integer {ws : List Dn.W} {M : Store} : m_Lis_integer ws M = settle M (kFun (d_Lis_integer (env0 2 ws) M)) := rfl
def d_Lis_truth : DS := (dRet (dAndV (dCall gIsi (dCons (dVar 0) (dCons (dC (.ty "bool")) dNil))) (d2 gEq (dVar 0) (dVar 1))))
def m_Lis_truth : List Dn.W → Store → R Dn.W := dFun d_Lis_truth 2
theorem u_Lis_truth {ws : List Dn.W} {M : Store} : m_Lis_truth ws M = settle M (kFun (d_Lis_truth (env0 2 ws) M)) := rfl
def d_Lvalue : DS := (dSeq (dIf (dIsB (d2 gEq (dVar 0) (dC (.str "move")))) (dRet (d2 gIx (dVar 1) (dC (.int 0)))) dNext)
    (dSeq (dIf (dIsB (d2 gEq (dVar 0) (dC (.str "pick")))) (dRet (d2 gIx (dVar 1) (d2 gSub (dC (.int 2)) (dCall gInt (dCons (d2 gNe (d2 gIx (dVar 1) (dC (.int 0))) (dC (.int 0))) dNil))))) dNext)
    (dSeq (dIf (dIsB (d2 gEq (dVar 0) (dC (.str "less")))) (dRet (dCall gInt (dCons (d2 gLt (d2 gIx (dVar 1) (dC (.int 0))) (d2 gIx (dVar 1) (dC (.int 1)))) dNil))) dNext)
    (dSeq (dSet 3 (d2 gAdd (d2 gIx (dVar 1) (dC (.int 0))) (d2 gIx (dVar 1) (dC (.int 1)))))
    (dSeq (dIf (dIsB (d2 gEq (dVar 0) (dC (.str "sub")))) (dSet 3 (d2 gSub (d2 gIx (dVar 1) (dC (.int 0))) (d2 gIx (dVar 1) (dC (.int 1))))) dNext)
    (dSeq (dIf (dIsB (d2 gEq (dVar 0) (dC (.str "mul")))) (dSet 3 (d2 gMul (d2 gIx (dVar 1) (dC (.int 0))) (d2 gIx (dVar 1) (dC (.int 1))))) dNext)
    (dRet (d2 gSub (dVar 3) (d2 gMul (d2 gDiv (dVar 3) (dVar 2)) (dVar 2))))))))))
def m_Lvalue : List Dn.W → Store → R Dn.W := dFun d_Lvalue 4
theorem u_Lvalue {ws : List Dn.W} {M : Store} : m_Lvalue ws M = settle M (kFun (d_Lvalue (env0 4 ws) M)) := rfl
def p_Lvalue_told_1 : DT := (dNot (dIsB (dCall m_Lis_integer (dCons (dVar 7) (dCons (dVar 3) dNil)))))
def e_Lvalue_told_2 : DE := (dVar 7)
def d_Lvalue_told : DS := (dSeq (dSet 3 (dCall m_Lvalue (dCons (dVar 0) (dCons (dVar 1) (dCons (dVar 2) dNil)))))
    (dSeq (dSet 4 (dCall gListX (dCons (dVar 1) dNil)))
    (dSeq (dSet 5 (dCall gMkL (dCons (dCall m_value_of (dCons (dVar 0) (dCons (dVar 4) (dCons (dVar 2) dNil)))) dNil)))
    (dSeq (dDrop (dMeth "list" gAppend (dVar 5) (dCons (dCall m_value_of (dCons (dVar 0) (dCons (dCall gTup (dCons (dVar 1) dNil)) (dCons (dVar 2) dNil)))) dNil)))
    (dSeq (dDrop (dMeth "list" gAppend (dVar 5) (dCons (dTmp (dCallK m_value_of [2, 1, 0] 0 3 3 dNil (dCons (dVar 2) (dCons (dCall gListX (dCons (dVar 1) dNil)) (dCons (dVar 0) dNil))))) dNil)))
    (dSeq (dDrop (dMeth "list" gAppend (dVar 5) (dCons (dCall m_value_of (dCons (dVar 0) (dCons (dVar 4) (dCons (dVar 2) dNil)))) dNil)))
    (dSeq (dSet 6 (dLc (dIter (dVar 5)) (gnm 7) p_Lvalue_told_1 e_Lvalue_told_2 [7]))
    (dRet (dAndV (d2 gEq (dVar 4) (dVar 1)) (d2 gEq (dCall gLen (dCons (dVar 6) dNil)) (dC (.int 0))))))))))))
def m_Lvalue_told : List Dn.W → Store → R Dn.W := dFun d_Lvalue_told 8
theorem u_Lvalue_told {ws : List Dn.W} {M : Store} : m_Lvalue_told ws M = settle M (kFun (d_Lvalue_told (env0 8 ws) M)) := rfl
def l_Lvalues_told_1 : DS := (dIf (dNot (dIsB (dCall m_Lvalue_told (dCons (dVar 6) (dCons (dVar 7) (dCons (dVar 0) dNil)))))) (dRet (dC (.bl false))) dNext)
def d_Lvalues_told : DS := (dSeq (dSet 4 (d2 gSub (dVar 0) (dC (.int 1))))
    (dSeq (dSet 5 (dCall gMkL (dCons (dCall gMkT (dCons (dC (.str "move")) (dCons (dCall gMkL (dCons (dVar 1) dNil)) dNil))) (dCons (dCall gMkT (dCons (dC (.str "move")) (dCons (dCall gMkL (dCons (dVar 4) dNil)) dNil))) (dCons (dCall gMkT (dCons (dC (.str "add")) (dCons (dCall gMkL (dCons (dVar 1) (dCons (dVar 2) dNil))) dNil))) dNil)))))
    (dSeq (dSet 5 (d2 gAdd (dVar 5) (dCall gMkL (dCons (dCall gMkT (dCons (dC (.str "add")) (dCons (dCall gMkL (dCons (dVar 4) (dCons (dVar 4) dNil))) dNil))) (dCons (dCall gMkT (dCons (dC (.str "add")) (dCons (dCall gMkL (dCons (dVar 4) (dCons (dC (.int 1)) dNil))) dNil))) dNil)))))
    (dSeq (dSet 5 (d2 gAdd (dVar 5) (dCall gMkL (dCons (dCall gMkT (dCons (dC (.str "sub")) (dCons (dCall gMkL (dCons (dVar 1) (dCons (dVar 2) dNil))) dNil))) (dCons (dCall gMkT (dCons (dC (.str "sub")) (dCons (dCall gMkL (dCons (dVar 2) (dCons (dVar 1) dNil))) dNil))) dNil)))))
    (dSeq (dSet 5 (d2 gAdd (dVar 5) (dCall gMkL (dCons (dCall gMkT (dCons (dC (.str "sub")) (dCons (dCall gMkL (dCons (dC (.int 0)) (dCons (dVar 4) dNil))) dNil))) (dCons (dCall gMkT (dCons (dC (.str "sub")) (dCons (dCall gMkL (dCons (dVar 1) (dCons (dVar 1) dNil))) dNil))) dNil)))))
    (dSeq (dSet 5 (d2 gAdd (dVar 5) (dCall gMkL (dCons (dCall gMkT (dCons (dC (.str "mul")) (dCons (dCall gMkL (dCons (dVar 1) (dCons (dVar 3) dNil))) dNil))) (dCons (dCall gMkT (dCons (dC (.str "mul")) (dCons (dCall gMkL (dCons (dVar 4) (dCons (dVar 4) dNil))) dNil))) dNil)))))
    (dSeq (dSet 5 (d2 gAdd (dVar 5) (dCall gMkL (dCons (dCall gMkT (dCons (dC (.str "less")) (dCons (dCall gMkL (dCons (dVar 1) (dCons (dVar 2) dNil))) dNil))) (dCons (dCall gMkT (dCons (dC (.str "less")) (dCons (dCall gMkL (dCons (dVar 2) (dCons (dVar 1) dNil))) dNil))) dNil)))))
    (dSeq (dSet 5 (d2 gAdd (dVar 5) (dCall gMkL (dCons (dCall gMkT (dCons (dC (.str "less")) (dCons (dCall gMkL (dCons (dVar 1) (dCons (dVar 1) dNil))) dNil))) (dCons (dCall gMkT (dCons (dC (.str "less")) (dCons (dCall gMkL (dCons (dC (.int 0)) (dCons (dVar 4) dNil))) dNil))) dNil)))))
    (dSeq (dSet 5 (d2 gAdd (dVar 5) (dCall gMkL (dCons (dCall gMkT (dCons (dC (.str "pick")) (dCons (dCall gMkL (dCons (dVar 1) (dCons (dVar 2) (dCons (dVar 3) dNil)))) dNil))) dNil))))
    (dSeq (dSet 5 (d2 gAdd (dVar 5) (dCall gMkL (dCons (dCall gMkT (dCons (dC (.str "pick")) (dCons (dCall gMkL (dCons (dC (.int 0)) (dCons (dVar 2) (dCons (dVar 3) dNil)))) dNil))) (dCons (dCall gMkT (dCons (dC (.str "pick")) (dCons (dCall gMkL (dCons (dVar 4) (dCons (dVar 2) (dCons (dVar 3) dNil)))) dNil))) dNil)))))
    (dSeq (dFor (dIter (dVar 5)) (gtup 2 (gcons (gnm 6) (gcons (gnm 7) gnil))) l_Lvalues_told_1)
    (dRet (dC (.bl true))))))))))))))
def m_Lvalues_told : List Dn.W → Store → R Dn.W := dFun d_Lvalues_told 8
theorem u_Lvalues_told {ws : List Dn.W} {M : Store} : m_Lvalues_told ws M = settle M (kFun (d_Lvalues_told (env0 8 ws) M)) := rfl
def d_Lall_signs : DS := (dSeq (dSet 0 (dC (.str " !\"#$&'()*+,-./0123456789:;<=>?@ABCDEFGHIJKLMNOPQRSTUVWXYZ[\\]^_`")))
    (dRet (d2 gAdd (dVar 0) (dC (.str "abcdefghijklmnopqrstuvwxyz{|}~\n")))))
def m_Lall_signs : List Dn.W → Store → R Dn.W := dFun d_Lall_signs 1
theorem u_Lall_signs {ws : List Dn.W} {M : Store} : m_Lall_signs ws M = settle M (kFun (d_Lall_signs (env0 1 ws) M)) := rfl
def d_Lletters : DS := (dRet (dC (.str "abcdefghijklmnopqrstuvwxyz")))
def m_Lletters : List Dn.W → Store → R Dn.W := dFun d_Lletters 0
theorem u_Lletters {ws : List Dn.W} {M : Store} : m_Lletters ws M = settle M (kFun (d_Lletters (env0 0 ws) M)) := rfl
def d_Lboth : DS := (dRet (d2 gAdd (dCall m_Lletters dNil) (dC (.str "0123456789"))))
def m_Lboth : List Dn.W → Store → R Dn.W := dFun d_Lboth 0
theorem u_Lboth {ws : List Dn.W} {M : Store} : m_Lboth ws M = settle M (kFun (d_Lboth (env0 0 ws) M)) := rfl
def d_Lreserved : DS := (dSeq (dSet 0 (dC (.str "values array var loop let set put if else end leave round pick old unit kind")))
    (dRet (dMeth "str" gSplit (dVar 0) (dCons (dC (.str " ")) dNil))))
def m_Lreserved : List Dn.W → Store → R Dn.W := dFun d_Lreserved 1
theorem u_Lreserved {ws : List Dn.W} {M : Store} : m_Lreserved ws M = settle M (kFun (d_Lreserved (env0 1 ws) M)) := rfl
def l_Loperand_counts_1 : DS := (orS (dPutL (dVar 2) (dVar 0) (dVar 1)) (dPutD (dVar 2) (dVar 0) (dVar 1)))
def d_Loperand_counts : DS := (dSeq (dSet 0 (dDisp (dPc (dC (.str "move")) (dC (.int 1)) (dPc (dC (.str "add")) (dC (.int 2)) (dPc (dC (.str "sub")) (dC (.int 2)) (dPc (dC (.str "mul")) (dC (.int 2)) (dPc (dC (.str "less")) (dC (.int 2)) (fun _ M => .ok [] M))))))))
    (dSeq (dFor (dIter (dCall gMkL (dCons (dCall gMkT (dCons (dC (.str "pick")) (dCons (dC (.int 3)) dNil))) (dCons (dCall gMkT (dCons (dC (.str "load")) (dCons (dC (.int 0)) dNil))) (dCons (dCall gMkT (dCons (dC (.str "store")) (dCons (dC (.int 1)) dNil))) (dCons (dCall gMkT (dCons (dC (.str "leave")) (dCons (dC (.int 1)) dNil))) dNil)))))) (gtup 2 (gcons (gnm 1) (gcons (gnm 2) gnil))) l_Loperand_counts_1)
    (dRet (dVar 0))))
def m_Loperand_counts : List Dn.W → Store → R Dn.W := dFun d_Loperand_counts 3
theorem u_Loperand_counts {ws : List Dn.W} {M : Store} : m_Loperand_counts ws M = settle M (kFun (d_Loperand_counts (env0 3 ws) M)) := rfl
def e_Ldraw_text_1 : DE := (d2 gIx (dVar 1) (dCall m_Lpick (dCons (dVar 0) (dCons (dCall gLen (dCons (dVar 1) dNil)) dNil))))
def d_Ldraw_text : DS := (dSeq (dSet 3 (dLc (dRng gRng1 (dCons (dVar 2) dNil)) (gnm 4) dYes e_Ldraw_text_1 [4]))
    (dRet (dMeth "str" gJoin (dC (.str "")) (dCons (dVar 3) dNil))))
def m_Ldraw_text : List Dn.W → Store → R Dn.W := dFun d_Ldraw_text 5
theorem u_Ldraw_text {ws : List Dn.W} {M : Store} : m_Ldraw_text ws M = settle M (kFun (d_Ldraw_text (env0 5 ws) M)) := rfl
def d_Ldraw_word : DS := (dSeq (dSet 2 (dCall m_Ldraw_text (dCons (dVar 0) (dCons (dCall m_Lletters dNil) (dCons (dC (.int 1)) dNil)))))
    (dRet (d2 gAdd (dVar 2) (dCall m_Ldraw_text (dCons (dVar 0) (dCons (dCall m_Lboth dNil) (dCons (d2 gSub (dVar 1) (dC (.int 1))) dNil)))))))
def m_Ldraw_word : List Dn.W → Store → R Dn.W := dFun d_Ldraw_word 3
theorem u_Ldraw_word {ws : List Dn.W} {M : Store} : m_Ldraw_word ws M = settle M (kFun (d_Ldraw_word (env0 3 ws) M)) := rfl
def l_Ldraw_texts_1 : DS := (dSeq (dSet 3 (dCall m_Ldraw_word (dCons (dVar 0) (dCons (d2 gAdd (dC (.int 1)) (dCall m_Lpick (dCons (dVar 0) (dCons (dC (.int 8)) dNil)))) dNil))))
    (dSeq (dSet 4 (dCall m_Lpick (dCons (dVar 0) (dCons (dCall gLen (dCons (dVar 3) dNil)) dNil))))
    (dSeq (dSet 5 (dCall m_Ldraw_text (dCons (dVar 0) (dCons (dCall m_Lall_signs dNil) (dCons (dC (.int 1)) dNil)))))
    (dSeq (dSet 6 (d2 gAdd (d2 gAdd (dSl (dVar 3) dNo (dPart (dVar 4))) (dVar 5)) (dSl (dVar 3) (dPart (d2 gAdd (dVar 4) (dC (.int 1)))) dNo)))
    (dSeq (dSet 1 (d2 gAdd (dVar 1) (dCall gMkL (dCons (dVar 3) (dCons (dVar 6) dNil)))))
    (dSeq (dDrop (dMeth "list" gAppend (dVar 1) (dCons (d2 gAdd (dVar 3) (dCall m_Ldraw_text (dCons (dVar 0) (dCons (dCall m_Lboth dNil) (dCons (dC (.int 1)) dNil))))) dNil)))
    (dSeq (dDrop (dMeth "list" gAppend (dVar 1) (dCons (d2 gAdd (dCall m_Ldraw_text (dCons (dVar 0) (dCons (dC (.str "0123456789")) (dCons (dC (.int 1)) dNil)))) (dVar 3)) dNil)))
    (dSeq (dSet 1 (d2 gAdd (dVar 1) (dCall gMkL (dCons (d2 gAdd (dVar 3) (dC (.str "\n"))) (dCons (d2 gAdd (dC (.str "\n")) (dVar 3)) (dCons (d2 gAdd (dC (.str " ")) (dVar 3)) dNil))))))
    (dSet 1 (d2 gAdd (dVar 1) (dCall gMkL (dCons (d2 gAdd (dVar 3) (dC (.str " "))) (dCons (dMeth0 "str" gUpper (dVar 3)) dNil)))))))))))))
def l_Ldraw_texts_2 : DS := (dSeq (dSet 5 (dCall m_Ldraw_text (dCons (dVar 0) (dCons (dCall m_Lboth dNil) (dCons (dC (.int 1)) dNil)))))
    (dSeq (dSet 1 (d2 gAdd (dVar 1) (dCall gMkL (dCons (dVar 3) (dCons (d2 gAdd (dVar 3) (dVar 5)) (dCons (dMeth0 "str" gUpper (dVar 3)) dNil))))))
    (dSet 1 (d2 gAdd (dVar 1) (dCall gMkL (dCons (dSl (dVar 3) (dPart (dC (.int 1))) dNo) (dCons (dSl (dVar 3) dNo (dPart (d1 gNeg (dC (.int 1))))) dNil)))))))
def d_Ldraw_texts : DS := (dSeq (dSet 1 (dCall gMkL (dCons (dC (.str "")) (dCons (dC (.str "a")) (dCons (dC (.str "z")) (dCons (dC (.str "0")) (dCons (dC (.str "-")) (dCons (dC (.str "\n")) (dCons (dC (.str "abcdefgh")) (dCons (dC (.str "abcdefghi")) (dCons (dC (.str "a1b2c3d4")) (dCons (dC (.str "a1b2c3d45")) dNil))))))))))))
    (dSeq (dFor (dRng gRng1 (dCons (dC (.int 3)) dNil)) (gnm 2) l_Ldraw_texts_1)
    (dSeq (dDrop (dMeth "list" gAppend (dVar 1) (dCons (d2 gAdd (dCall m_Ldraw_word (dCons (dVar 0) (dCons (dC (.int 8)) dNil))) (dCall m_Ldraw_text (dCons (dVar 0) (dCons (dCall m_Lboth dNil) (dCons (dC (.int 1)) dNil))))) dNil)))
    (dSeq (dDrop (dMeth "list" gAppend (dVar 1) (dCons (dCall m_Ldraw_text (dCons (dVar 0) (dCons (dCall m_Lall_signs dNil) (dCons (dCall m_Lpick (dCons (dVar 0) (dCons (dC (.int 13)) dNil))) dNil)))) dNil)))
    (dSeq (dFor (dIter (d2 gAdd (dCall m_Lreserved dNil) (dTmp (dCall gListX (dCons (dCall m_Loperand_counts dNil) dNil))))) (gnm 3) l_Ldraw_texts_2)
    (dRet (dVar 1)))))))
def m_Ldraw_texts : List Dn.W → Store → R Dn.W := dFun d_Ldraw_texts 7
theorem u_Ldraw_texts {ws : List Dn.W} {M : Store} : m_Ldraw_texts ws M = settle M (kFun (d_Ldraw_texts (env0 7 ws) M)) := rfl
def p_Lis_word_1 : DT := (dIsB (d2 gNi (dVar 1) (dCall m_Lboth dNil)))
def e_Lis_word_2 : DE := (dVar 1)
def d_Lis_word : DS := (dSeq (dIf (dOr (dIsB (d2 gEq (dCall gLen (dCons (dVar 0) dNil)) (dC (.int 0)))) (dOr (dIsB (d2 gGt (dCall gLen (dCons (dVar 0) dNil)) (dC (.int 8)))) (dIsB (d2 gNi (d2 gIx (dVar 0) (dC (.int 0))) (dCall m_Lletters dNil))))) (dRet (dC (.bl false))) dNext)
    (dRet (d2 gEq (dTmp (dCall gLen (dCons (dLc (dIter (dVar 0)) (gnm 1) p_Lis_word_1 e_Lis_word_2 [1]) dNil))) (dC (.int 0)))))
def m_Lis_word : List Dn.W → Store → R Dn.W := dFun d_Lis_word 2
theorem u_Lis_word {ws : List Dn.W} {M : Store} : m_Lis_word ws M = settle M (kFun (d_Lis_word (env0 2 ws) M)) := rfl
def d_Ltext_told : DS := (dSeq (dSet 1 (dCall m_Lis_word (dCons (dVar 0) dNil)))
    (dSeq (dSet 2 (dAndV (dVar 1) (d2 gNi (dVar 0) (dCall m_Lreserved dNil))))
    (dSeq (dSet 3 (dAndV (d2 gNe (dVar 0) (dC (.str "store"))) (d2 gNe (dVar 0) (dC (.str "leave")))))
    (dSeq (dSet 4 (dTmp (dGet2 (dCall m_Loperand_counts dNil) (dVar 0) (d1 gNeg (dC (.int 1))))))
    (dSeq (dIf (dNot (dIsB (dCall m_Lis_truth (dCons (dCall m_is_word (dCons (dVar 0) dNil)) (dCons (dVar 1) dNil))))) (dRet (dC (.bl false))) dNext)
    (dSeq (dIf (dNot (dIsB (dCall m_Lis_truth (dCons (dTmp (dCallK m_is_word [0] 0 1 1 dNil (dCons (dVar 0) dNil))) (dCons (dVar 1) dNil))))) (dRet (dC (.bl false))) dNext)
    (dSeq (dIf (dNot (dIsB (dCall m_Lis_truth (dCons (dCall m_is_identifier (dCons (dVar 0) dNil)) (dCons (dVar 2) dNil))))) (dRet (dC (.bl false))) dNext)
    (dSeq (dIf (dNot (dIsB (dCall m_Lis_truth (dCons (dTmp (dCallK m_is_identifier [0] 0 1 1 dNil (dCons (dVar 0) dNil))) (dCons (dVar 2) dNil))))) (dRet (dC (.bl false))) dNext)
    (dSeq (dIf (dNot (dIsB (dCall m_Lis_integer (dCons (dCall m_operand_count (dCons (dVar 0) dNil)) (dCons (dVar 4) dNil))))) (dRet (dC (.bl false))) dNext)
    (dSeq (dIf (dNot (dIsB (dCall m_Lis_integer (dCons (dTmp (dCallK m_operand_count [0] 0 1 1 dNil (dCons (dVar 0) dNil))) (dCons (dVar 4) dNil))))) (dRet (dC (.bl false))) dNext)
    (dSeq (dIf (dNot (dIsB (dCall m_Lis_truth (dCons (dCall m_makes_value (dCons (dVar 0) dNil)) (dCons (dVar 3) dNil))))) (dRet (dC (.bl false))) dNext)
    (dRet (dCall m_Lis_truth (dCons (dTmp (dCallK m_makes_value [0] 0 1 1 dNil (dCons (dVar 0) dNil))) (dCons (dVar 3) dNil)))))))))))))))
def m_Ltext_told : List Dn.W → Store → R Dn.W := dFun d_Ltext_told 5
theorem u_Ltext_told {ws : List Dn.W} {M : Store} : m_Ltext_told ws M = settle M (kFun (d_Ltext_told (env0 5 ws) M)) := rfl
def e_law_1 : DE := (dCall m_Ltext_told (dCons (dVar 7) dNil))
def d_law : DS := (dSeq (dSet 1 (dCall m_Lpool (dCons (dVar 0) dNil)))
    (dSeq (dSet 2 (dCall m_Ldraw_modulus (dCons (dVar 1) dNil)))
    (dSeq (dSet 3 (dCall m_Ldraw_number (dCons (dVar 1) (dCons (dVar 2) dNil))))
    (dSeq (dSet 4 (dCall m_Ldraw_number (dCons (dVar 1) (dCons (dVar 2) dNil))))
    (dSeq (dSet 5 (dCall m_Ldraw_number (dCons (dVar 1) (dCons (dVar 2) dNil))))
    (dSeq (dIf (dIsB (d2 gEq (dCall m_Lpick (dCons (dVar 1) (dCons (dC (.int 4)) dNil))) (dC (.int 0)))) (dSet 4 (dVar 3)) dNext)
    (dSeq (dIf (dNot (dIsB (dCall m_Lvalues_told (dCons (dVar 2) (dCons (dVar 3) (dCons (dVar 4) (dCons (dVar 5) dNil))))))) (dRet (dC (.bl false))) dNext)
    (dSeq (dSet 6 (d2 gAdd (dC (.int 2)) (d2 gMod (dVar 2) (dC (.int 999999)))))
    (dSeq (dIf (dNot (dIsB (dCall m_Lvalues_told (dCons (dVar 6) (dCons (dCall gMin2 (dCons (dVar 4) (dCons (dC (.int 1)) dNil))) (dCons (dCall gMin2 (dCons (dVar 3) (dCons (dC (.int 1)) dNil))) (dCons (dCall gMin2 (dCons (dVar 5) (dCons (dC (.int 1)) dNil))) dNil))))))) (dRet (dC (.bl false))) dNext)
    (dRet (dTmp (dCall (gAll fun bs => bs.all id) (dCons (dLc (dIter (dCall m_Ldraw_texts (dCons (dVar 1) dNil))) (gnm 7) dYes e_law_1 [7]) dNil)))))))))))))
def m_law : List Dn.W → Store → R Dn.W := dFun d_law 8
theorem u_law {ws : List Dn.W} {M : Store} : m_law ws M = settle M (kFun (d_law (env0 8 ws) M)) := rfl
end
end K01
end

section
set_option Elab.async false
set_option linter.all false
set_option maxRecDepth 100000
set_option maxHeartbeats 2000000
namespace K01
open PySem PyProof.Rows L2 Dn
theorem sub_div (x m : Int) : x - x / m * m = x % m := by rw [Int.emod_def, Int.mul_comm]
section
variable (M : Store) (a b c m : Int)
theorem told_add (h : 0 < m) (hm : Sm m) (ha : Sm a) (hb : Sm b) : m_Lvalue_told [.val (.str "add"), .val (.lst [.int a, .int b]), .val (.int m)] M = .ok (.val (.bl true)) M := by
  have h2 : m.natAbs.log2 < 9000 := Nat.lt_trans hm.log (by decide)
  have h3 : ((a + b) / m).natAbs.log2 + m.natAbs.log2 < 1000000 := by
    have e := log_mono (natAbs_ediv_le (a := a + b) h)
    have e2 : (a + b).natAbs.log2 < 65 := log_lt (by decide) (by unfold Sm at ha hb; have : (2 : Nat) ^ 65 = 36893488147419103232 := by decide
                                                                 omega)
    have := hm.log
    omega
  simp only [u_Lvalue_told, d_Lvalue_told, p_Lvalue_told_1, e_Lvalue_told_2, u_value_of, d_value_of, u_Lvalue, d_Lvalue, u_Lis_integer, d_Lis_integer, ev_rd, ev_addI, ev_subI, ev_ltI, ev_leI, ev_gtI, ev_geI, ev_eqI, ev_neI, ev_eqS, ev_neS, ev_negI, ev_absI, ev_intI, ev_intB, ev_nx, ev_rt, ev_bk, ev_ct, ev_bind, ev_st, ev_seq, ev_next, ev_brk, ev_cnt, ev_kIf1, ev_kIf0, ev_if, ev_kRt, ev_ret, ev_retN, ev_kSet, ev_set, ev_kDrop, ev_drop, ev_kVar, ev_var, ev_c, ev_k2, ev_d2, ev_d1, ev_nil, ev_kCons2, ev_kCons, ev_cons, ev_call, ev_kIsB, ev_isB, ev_kAnd1, ev_kAnd0, ev_and, ev_kOr1, ev_kOr0, ev_or, ev_kNot, ev_not, ev_kAndV1, ev_kAndV0, ev_andV, ev_kOrV1, ev_kOrV0, ev_orV, ev_kNotV, ev_notV, ev_kIfE1, ev_kIfE0, ev_ifE, ev_kCh31, ev_kCh30, ev_kCh2, ev_kCh1, ev_chain, ev_tmp, ev_kFunN, ev_kFunR, ev_fun, ev_env, ev_iter, ev_kFor, ev_for, ev_kLc, ev_lc, ev_rng, ev_no, ev_kPart, ev_part, ev_kSl1, ev_kSl, ev_sl, ev_kMeth0S, ev_meth0, ev_kMethS, ev_meth, ev_rdC, ev_rdP, ev_lvwC, ev_lvw, ev_lvwR, ev_lvwL, ev_tvwR, ev_tvwT, ev_svwR, ev_svwT, ev_svwC, ev_svw, ev_kOk, ev_kOkD, ev_ixC, ev_ix, ev_ixRls, ev_ixTup, ev_at0, ev_at1, ev_at2, ev_at3, ev_lenC, ev_len, ev_lenRls, ev_lenTup, ev_addC, ev_add, ev_appC, ev_app, ev_mthC, ev_mth, ev_mth0C, ev_mth0, ev_itC, ev_it, ev_itR, ev_itT, ev_itS, ev_vals0, ev_vals1, ev_frzV, ev_frzC, ev_frzCf, ev_frz, ev_frzK, ev_frzA0, ev_frzAv, ev_frzAp, ev_kMkT2, ev_kMkT, ev_mkT, ev_rdF, ev_map0, ev_map1, ev_omap, ev_kF2n, ev_kF2c, ev_kF2b, ev_kF2r, ev_kF1, ev_F1, ev_F0, ev_F1c, ev_F0c, ev_gnm, ev_gnil, ev_kGc, ev_gcons, ev_gtup, ev_kC4, ev_kC3, ev_kC21, ev_kC20, ev_kC1, ev_C1, ev_C0, ev_C1c, ev_C0c, ev_yes, ev_wipe0, ev_wipe1, ev_mkLi, ev_lsxC, ev_lsxD, ev_lsx, ev_lsxR, ev_lsxL, ev_lsxT, ev_kOkT, ev_tupC, ev_tup, ev_tupR, ev_tupL, ev_tupT, ev_tvwL, ev_svwL, ev_ixL, ev_lenL, ev_itL, ev_callK, ev_kCK, ev_kCK2, ev_permL, ev_kIsi, ev_isi, ev_tyI, ev_tyB, ev_tyS, ev_tyN, ev_tyT, ev_tyL, ev_tyR, ev_kit1, ev_kit2, ev_kit3, ev_kit4, ev_kit5, ev_kit6, ev_kit7, ev_eqIL, ev_eqPRC, ev_eqPR, ev_eqPL, ev_int0, ev_int1, ev_kSum, ev_sum, ev_kAllB, ev_all, ev_bl0, ev_bl1, ev_kRev, ev_rev, ev_slC, ev_slP, ev_slR, ev_pop, ev_kOrS, ev_kOrSs, ev_orS, ev_kPut2, ev_kPut1, ev_putL, ev_putN, ev_putC, ev_putCd, ev_kPut3, ev_kPut3s, ev_kPd2, ev_kPd1, ev_putD, ev_pdC, ev_kPd3S, ev_kPd3I, ev_kKG1, ev_kget, ev_kKG2, ev_nc0, ev_nc1, ev_ncn, ev_while, ev_niC, ev_inC, ev_signs, ev_itMk, ev_eqB, ev_inC2, ev_inP, ev_kIn, ev_kNi, ev_inPP, ev_niPP, ev_inT, ev_niT, ev_kPc3, ev_kPc2, ev_kPc1, ev_pc, ev_dispC, ev_kDisp, ev_disp, ev_keys0, ev_keysS, ev_merge, ev_g3C, ev_kG3, ev_kG2, ev_g1C, ev_kG1, ev_get2, ev_rng1, str_cW, len_rngW, BEq.rfl, beq_self_eq_true, low_dic, List.any_cons, List.any_nil, Bool.or_false, Bool.false_or, Bool.true_or, Bool.or_true, Sum.inr.injEq, Sum.inl.injEq, low_bW, low_cW, len_bW, len_cW, bls_bW, iW_n, sW_n, List.length_singleton, at_iW, ix_last, set_iW, pop_iW, int_iW, str_sW, List.map_cons, List.map_nil, List.length_cons, List.length_nil, List.cons_append, List.nil_append, List.append_assoc, List.getElem?_cons_zero, List.getElem?_cons_succ, List.set_cons_zero, List.set_cons_succ, List.replicate_zero, List.replicate_succ, List.append_nil, List.filterMap_cons, List.filterMap_nil, and_self, List.length_append, List.length_set, st_at0, st_at, st_set0, st_set, settle_v0, settle_v, cl_nil, cl_cons, cl_self, cl_app, cl_app2, settle_vg, settle_pg, sPC_some, low_lst, low_frz, low_val, low_ptr, take_app, take_app0, lt_f, lt_f1, all_nil, all_cons, low_iW, low_sW, len_iW, len_sW, List.take_succ_cons, List.take_zero, List.take_length, true_or, or_true, Bool.and_true, Bool.true_and, true_and, and_true, Nat.lt_irrefl, Nat.add_lt_add_iff_left, Option.map_some, Option.bind_some, decide_true, decide_false, decide_eq_true_eq, eq_self, if_true, if_false, Bool.not_true, Bool.not_false, reduceIte, Bool.false_eq_true, Nat.add_zero, Nat.zero_add, Nat.reduceAdd, Nat.reduceSub, Nat.reduceLeDiff, Nat.reduceLT, Nat.reduceMul, Nat.reducePow, ofS_inj, sizeLine, String.reduceEq, String.reduceNe, Int.reduceAdd, Int.reduceSub, Int.reduceMul, Int.reduceNeg, Int.reduceLE, Int.reduceLT, Int.reduceEq, Nat.add_assoc, ev_modI h, ev_divI h h2, ev_mulI h3, sub_div]
theorem told_sub (h : 0 < m) (hm : Sm m) (ha : Sm a) (hb : Sm b) : m_Lvalue_told [.val (.str "sub"), .val (.lst [.int a, .int b]), .val (.int m)] M = .ok (.val (.bl true)) M := by
  have h2 : m.natAbs.log2 < 9000 := Nat.lt_trans hm.log (by decide)
  have h3 : ((a - b) / m).natAbs.log2 + m.natAbs.log2 < 1000000 := by
    have e := log_mono (natAbs_ediv_le (a := a - b) h)
    have e2 : (a - b).natAbs.log2 < 65 := log_lt (by decide) (by unfold Sm at ha hb; have : (2 : Nat) ^ 65 = 36893488147419103232 := by decide
                                                                 omega)
    have := hm.log
    omega
  simp only [u_Lvalue_told, d_Lvalue_told, p_Lvalue_told_1, e_Lvalue_told_2, u_value_of, d_value_of, u_Lvalue, d_Lvalue, u_Lis_integer, d_Lis_integer, ev_rd, ev_addI, ev_subI, ev_ltI, ev_leI, ev_gtI, ev_geI, ev_eqI, ev_neI, ev_eqS, ev_neS, ev_negI, ev_absI, ev_intI, ev_intB, ev_nx, ev_rt, ev_bk, ev_ct, ev_bind, ev_st, ev_seq, ev_next, ev_brk, ev_cnt, ev_kIf1, ev_kIf0, ev_if, ev_kRt, ev_ret, ev_retN, ev_kSet, ev_set, ev_kDrop, ev_drop, ev_kVar, ev_var, ev_c, ev_k2, ev_d2, ev_d1, ev_nil, ev_kCons2, ev_kCons, ev_cons, ev_call, ev_kIsB, ev_isB, ev_kAnd1, ev_kAnd0, ev_and, ev_kOr1, ev_kOr0, ev_or, ev_kNot, ev_not, ev_kAndV1, ev_kAndV0, ev_andV, ev_kOrV1, ev_kOrV0, ev_orV, ev_kNotV, ev_notV, ev_kIfE1, ev_kIfE0, ev_ifE, ev_kCh31, ev_kCh30, ev_kCh2, ev_kCh1, ev_chain, ev_tmp, ev_kFunN, ev_kFunR, ev_fun, ev_env, ev_iter, ev_kFor, ev_for, ev_kLc, ev_lc, ev_rng, ev_no, ev_kPart, ev_part, ev_kSl1, ev_kSl, ev_sl, ev_kMeth0S, ev_meth0, ev_kMethS, ev_meth, ev_rdC, ev_rdP, ev_lvwC, ev_lvw, ev_lvwR, ev_lvwL, ev_tvwR, ev_tvwT, ev_svwR, ev_svwT, ev_svwC, ev_svw, ev_kOk, ev_kOkD, ev_ixC, ev_ix, ev_ixRls, ev_ixTup, ev_at0, ev_at1, ev_at2, ev_at3, ev_lenC, ev_len, ev_lenRls, ev_lenTup, ev_addC, ev_add, ev_appC, ev_app, ev_mthC, ev_mth, ev_mth0C, ev_mth0, ev_itC, ev_it, ev_itR, ev_itT, ev_itS, ev_vals0, ev_vals1, ev_frzV, ev_frzC, ev_frzCf, ev_frz, ev_frzK, ev_frzA0, ev_frzAv, ev_frzAp, ev_kMkT2, ev_kMkT, ev_mkT, ev_rdF, ev_map0, ev_map1, ev_omap, ev_kF2n, ev_kF2c, ev_kF2b, ev_kF2r, ev_kF1, ev_F1, ev_F0, ev_F1c, ev_F0c, ev_gnm, ev_gnil, ev_kGc, ev_gcons, ev_gtup, ev_kC4, ev_kC3, ev_kC21, ev_kC20, ev_kC1, ev_C1, ev_C0, ev_C1c, ev_C0c, ev_yes, ev_wipe0, ev_wipe1, ev_mkLi, ev_lsxC, ev_lsxD, ev_lsx, ev_lsxR, ev_lsxL, ev_lsxT, ev_kOkT, ev_tupC, ev_tup, ev_tupR, ev_tupL, ev_tupT, ev_tvwL, ev_svwL, ev_ixL, ev_lenL, ev_itL, ev_callK, ev_kCK, ev_kCK2, ev_permL, ev_kIsi, ev_isi, ev_tyI, ev_tyB, ev_tyS, ev_tyN, ev_tyT, ev_tyL, ev_tyR, ev_kit1, ev_kit2, ev_kit3, ev_kit4, ev_kit5, ev_kit6, ev_kit7, ev_eqIL, ev_eqPRC, ev_eqPR, ev_eqPL, ev_int0, ev_int1, ev_kSum, ev_sum, ev_kAllB, ev_all, ev_bl0, ev_bl1, ev_kRev, ev_rev, ev_slC, ev_slP, ev_slR, ev_pop, ev_kOrS, ev_kOrSs, ev_orS, ev_kPut2, ev_kPut1, ev_putL, ev_putN, ev_putC, ev_putCd, ev_kPut3, ev_kPut3s, ev_kPd2, ev_kPd1, ev_putD, ev_pdC, ev_kPd3S, ev_kPd3I, ev_kKG1, ev_kget, ev_kKG2, ev_nc0, ev_nc1, ev_ncn, ev_while, ev_niC, ev_inC, ev_signs, ev_itMk, ev_eqB, ev_inC2, ev_inP, ev_kIn, ev_kNi, ev_inPP, ev_niPP, ev_inT, ev_niT, ev_kPc3, ev_kPc2, ev_kPc1, ev_pc, ev_dispC, ev_kDisp, ev_disp, ev_keys0, ev_keysS, ev_merge, ev_g3C, ev_kG3, ev_kG2, ev_g1C, ev_kG1, ev_get2, ev_rng1, str_cW, len_rngW, BEq.rfl, beq_self_eq_true, low_dic, List.any_cons, List.any_nil, Bool.or_false, Bool.false_or, Bool.true_or, Bool.or_true, Sum.inr.injEq, Sum.inl.injEq, low_bW, low_cW, len_bW, len_cW, bls_bW, iW_n, sW_n, List.length_singleton, at_iW, ix_last, set_iW, pop_iW, int_iW, str_sW, List.map_cons, List.map_nil, List.length_cons, List.length_nil, List.cons_append, List.nil_append, List.append_assoc, List.getElem?_cons_zero, List.getElem?_cons_succ, List.set_cons_zero, List.set_cons_succ, List.replicate_zero, List.replicate_succ, List.append_nil, List.filterMap_cons, List.filterMap_nil, and_self, List.length_append, List.length_set, st_at0, st_at, st_set0, st_set, settle_v0, settle_v, cl_nil, cl_cons, cl_self, cl_app, cl_app2, settle_vg, settle_pg, sPC_some, low_lst, low_frz, low_val, low_ptr, take_app, take_app0, lt_f, lt_f1, all_nil, all_cons, low_iW, low_sW, len_iW, len_sW, List.take_succ_cons, List.take_zero, List.take_length, true_or, or_true, Bool.and_true, Bool.true_and, true_and, and_true, Nat.lt_irrefl, Nat.add_lt_add_iff_left, Option.map_some, Option.bind_some, decide_true, decide_false, decide_eq_true_eq, eq_self, if_true, if_false, Bool.not_true, Bool.not_false, reduceIte, Bool.false_eq_true, Nat.add_zero, Nat.zero_add, Nat.reduceAdd, Nat.reduceSub, Nat.reduceLeDiff, Nat.reduceLT, Nat.reduceMul, Nat.reducePow, ofS_inj, sizeLine, String.reduceEq, String.reduceNe, Int.reduceAdd, Int.reduceSub, Int.reduceMul, Int.reduceNeg, Int.reduceLE, Int.reduceLT, Int.reduceEq, Nat.add_assoc, ev_modI h, ev_divI h h2, ev_mulI h3, sub_div]
theorem told_mul (h : 0 < m) (hm : Sm m) (ha : Sm a) (hb : Sm b) : m_Lvalue_told [.val (.str "mul"), .val (.lst [.int a, .int b]), .val (.int m)] M = .ok (.val (.bl true)) M := by
  have h2 : m.natAbs.log2 < 9000 := Nat.lt_trans hm.log (by decide)
  have h4 : a.natAbs.log2 + b.natAbs.log2 < 1000000 := by have := ha.log; have := hb.log; omega
  have h3 : ((a * b) / m).natAbs.log2 + m.natAbs.log2 < 1000000 := by
    have e := log_mono (natAbs_ediv_le (a := a * b) h)
    have e2 := ha.mul_log hb
    have := hm.log
    omega
  simp only [u_Lvalue_told, d_Lvalue_told, p_Lvalue_told_1, e_Lvalue_told_2, u_value_of, d_value_of, u_Lvalue, d_Lvalue, u_Lis_integer, d_Lis_integer, ev_rd, ev_addI, ev_subI, ev_ltI, ev_leI, ev_gtI, ev_geI, ev_eqI, ev_neI, ev_eqS, ev_neS, ev_negI, ev_absI, ev_intI, ev_intB, ev_nx, ev_rt, ev_bk, ev_ct, ev_bind, ev_st, ev_seq, ev_next, ev_brk, ev_cnt, ev_kIf1, ev_kIf0, ev_if, ev_kRt, ev_ret, ev_retN, ev_kSet, ev_set, ev_kDrop, ev_drop, ev_kVar, ev_var, ev_c, ev_k2, ev_d2, ev_d1, ev_nil, ev_kCons2, ev_kCons, ev_cons, ev_call, ev_kIsB, ev_isB, ev_kAnd1, ev_kAnd0, ev_and, ev_kOr1, ev_kOr0, ev_or, ev_kNot, ev_not, ev_kAndV1, ev_kAndV0, ev_andV, ev_kOrV1, ev_kOrV0, ev_orV, ev_kNotV, ev_notV, ev_kIfE1, ev_kIfE0, ev_ifE, ev_kCh31, ev_kCh30, ev_kCh2, ev_kCh1, ev_chain, ev_tmp, ev_kFunN, ev_kFunR, ev_fun, ev_env, ev_iter, ev_kFor, ev_for, ev_kLc, ev_lc, ev_rng, ev_no, ev_kPart, ev_part, ev_kSl1, ev_kSl, ev_sl, ev_kMeth0S, ev_meth0, ev_kMethS, ev_meth, ev_rdC, ev_rdP, ev_lvwC, ev_lvw, ev_lvwR, ev_lvwL, ev_tvwR, ev_tvwT, ev_svwR, ev_svwT, ev_svwC, ev_svw, ev_kOk, ev_kOkD, ev_ixC, ev_ix, ev_ixRls, ev_ixTup, ev_at0, ev_at1, ev_at2, ev_at3, ev_lenC, ev_len, ev_lenRls, ev_lenTup, ev_addC, ev_add, ev_appC, ev_app, ev_mthC, ev_mth, ev_mth0C, ev_mth0, ev_itC, ev_it, ev_itR, ev_itT, ev_itS, ev_vals0, ev_vals1, ev_frzV, ev_frzC, ev_frzCf, ev_frz, ev_frzK, ev_frzA0, ev_frzAv, ev_frzAp, ev_kMkT2, ev_kMkT, ev_mkT, ev_rdF, ev_map0, ev_map1, ev_omap, ev_kF2n, ev_kF2c, ev_kF2b, ev_kF2r, ev_kF1, ev_F1, ev_F0, ev_F1c, ev_F0c, ev_gnm, ev_gnil, ev_kGc, ev_gcons, ev_gtup, ev_kC4, ev_kC3, ev_kC21, ev_kC20, ev_kC1, ev_C1, ev_C0, ev_C1c, ev_C0c, ev_yes, ev_wipe0, ev_wipe1, ev_mkLi, ev_lsxC, ev_lsxD, ev_lsx, ev_lsxR, ev_lsxL, ev_lsxT, ev_kOkT, ev_tupC, ev_tup, ev_tupR, ev_tupL, ev_tupT, ev_tvwL, ev_svwL, ev_ixL, ev_lenL, ev_itL, ev_callK, ev_kCK, ev_kCK2, ev_permL, ev_kIsi, ev_isi, ev_tyI, ev_tyB, ev_tyS, ev_tyN, ev_tyT, ev_tyL, ev_tyR, ev_kit1, ev_kit2, ev_kit3, ev_kit4, ev_kit5, ev_kit6, ev_kit7, ev_eqIL, ev_eqPRC, ev_eqPR, ev_eqPL, ev_int0, ev_int1, ev_kSum, ev_sum, ev_kAllB, ev_all, ev_bl0, ev_bl1, ev_kRev, ev_rev, ev_slC, ev_slP, ev_slR, ev_pop, ev_kOrS, ev_kOrSs, ev_orS, ev_kPut2, ev_kPut1, ev_putL, ev_putN, ev_putC, ev_putCd, ev_kPut3, ev_kPut3s, ev_kPd2, ev_kPd1, ev_putD, ev_pdC, ev_kPd3S, ev_kPd3I, ev_kKG1, ev_kget, ev_kKG2, ev_nc0, ev_nc1, ev_ncn, ev_while, ev_niC, ev_inC, ev_signs, ev_itMk, ev_eqB, ev_inC2, ev_inP, ev_kIn, ev_kNi, ev_inPP, ev_niPP, ev_inT, ev_niT, ev_kPc3, ev_kPc2, ev_kPc1, ev_pc, ev_dispC, ev_kDisp, ev_disp, ev_keys0, ev_keysS, ev_merge, ev_g3C, ev_kG3, ev_kG2, ev_g1C, ev_kG1, ev_get2, ev_rng1, str_cW, len_rngW, BEq.rfl, beq_self_eq_true, low_dic, List.any_cons, List.any_nil, Bool.or_false, Bool.false_or, Bool.true_or, Bool.or_true, Sum.inr.injEq, Sum.inl.injEq, low_bW, low_cW, len_bW, len_cW, bls_bW, iW_n, sW_n, List.length_singleton, at_iW, ix_last, set_iW, pop_iW, int_iW, str_sW, List.map_cons, List.map_nil, List.length_cons, List.length_nil, List.cons_append, List.nil_append, List.append_assoc, List.getElem?_cons_zero, List.getElem?_cons_succ, List.set_cons_zero, List.set_cons_succ, List.replicate_zero, List.replicate_succ, List.append_nil, List.filterMap_cons, List.filterMap_nil, and_self, List.length_append, List.length_set, st_at0, st_at, st_set0, st_set, settle_v0, settle_v, cl_nil, cl_cons, cl_self, cl_app, cl_app2, settle_vg, settle_pg, sPC_some, low_lst, low_frz, low_val, low_ptr, take_app, take_app0, lt_f, lt_f1, all_nil, all_cons, low_iW, low_sW, len_iW, len_sW, List.take_succ_cons, List.take_zero, List.take_length, true_or, or_true, Bool.and_true, Bool.true_and, true_and, and_true, Nat.lt_irrefl, Nat.add_lt_add_iff_left, Option.map_some, Option.bind_some, decide_true, decide_false, decide_eq_true_eq, eq_self, if_true, if_false, Bool.not_true, Bool.not_false, reduceIte, Bool.false_eq_true, Nat.add_zero, Nat.zero_add, Nat.reduceAdd, Nat.reduceSub, Nat.reduceLeDiff, Nat.reduceLT, Nat.reduceMul, Nat.reducePow, ofS_inj, sizeLine, String.reduceEq, String.reduceNe, Int.reduceAdd, Int.reduceSub, Int.reduceMul, Int.reduceNeg, Int.reduceLE, Int.reduceLT, Int.reduceEq, Nat.add_assoc, ev_modI h, ev_divI h h2, ev_mulI h3, ev_mulI h4, sub_div]
theorem told_less (h : 0 < m) : m_Lvalue_told [.val (.str "less"), .val (.lst [.int a, .int b]), .val (.int m)] M = .ok (.val (.bl true)) M := by
  by_cases q : a < b <;> simp only [q, u_Lvalue_told, d_Lvalue_told, p_Lvalue_told_1, e_Lvalue_told_2, u_value_of, d_value_of, u_Lvalue, d_Lvalue, u_Lis_integer, d_Lis_integer, ev_rd, ev_addI, ev_subI, ev_ltI, ev_leI, ev_gtI, ev_geI, ev_eqI, ev_neI, ev_eqS, ev_neS, ev_negI, ev_absI, ev_intI, ev_intB, ev_nx, ev_rt, ev_bk, ev_ct, ev_bind, ev_st, ev_seq, ev_next, ev_brk, ev_cnt, ev_kIf1, ev_kIf0, ev_if, ev_kRt, ev_ret, ev_retN, ev_kSet, ev_set, ev_kDrop, ev_drop, ev_kVar, ev_var, ev_c, ev_k2, ev_d2, ev_d1, ev_nil, ev_kCons2, ev_kCons, ev_cons, ev_call, ev_kIsB, ev_isB, ev_kAnd1, ev_kAnd0, ev_and, ev_kOr1, ev_kOr0, ev_or, ev_kNot, ev_not, ev_kAndV1, ev_kAndV0, ev_andV, ev_kOrV1, ev_kOrV0, ev_orV, ev_kNotV, ev_notV, ev_kIfE1, ev_kIfE0, ev_ifE, ev_kCh31, ev_kCh30, ev_kCh2, ev_kCh1, ev_chain, ev_tmp, ev_kFunN, ev_kFunR, ev_fun, ev_env, ev_iter, ev_kFor, ev_for, ev_kLc, ev_lc, ev_rng, ev_no, ev_kPart, ev_part, ev_kSl1, ev_kSl, ev_sl, ev_kMeth0S, ev_meth0, ev_kMethS, ev_meth, ev_rdC, ev_rdP, ev_lvwC, ev_lvw, ev_lvwR, ev_lvwL, ev_tvwR, ev_tvwT, ev_svwR, ev_svwT, ev_svwC, ev_svw, ev_kOk, ev_kOkD, ev_ixC, ev_ix, ev_ixRls, ev_ixTup, ev_at0, ev_at1, ev_at2, ev_at3, ev_lenC, ev_len, ev_lenRls, ev_lenTup, ev_addC, ev_add, ev_appC, ev_app, ev_mthC, ev_mth, ev_mth0C, ev_mth0, ev_itC, ev_it, ev_itR, ev_itT, ev_itS, ev_vals0, ev_vals1, ev_frzV, ev_frzC, ev_frzCf, ev_frz, ev_frzK, ev_frzA0, ev_frzAv, ev_frzAp, ev_kMkT2, ev_kMkT, ev_mkT, ev_rdF, ev_map0, ev_map1, ev_omap, ev_kF2n, ev_kF2c, ev_kF2b, ev_kF2r, ev_kF1, ev_F1, ev_F0, ev_F1c, ev_F0c, ev_gnm, ev_gnil, ev_kGc, ev_gcons, ev_gtup, ev_kC4, ev_kC3, ev_kC21, ev_kC20, ev_kC1, ev_C1, ev_C0, ev_C1c, ev_C0c, ev_yes, ev_wipe0, ev_wipe1, ev_mkLi, ev_lsxC, ev_lsxD, ev_lsx, ev_lsxR, ev_lsxL, ev_lsxT, ev_kOkT, ev_tupC, ev_tup, ev_tupR, ev_tupL, ev_tupT, ev_tvwL, ev_svwL, ev_ixL, ev_lenL, ev_itL, ev_callK, ev_kCK, ev_kCK2, ev_permL, ev_kIsi, ev_isi, ev_tyI, ev_tyB, ev_tyS, ev_tyN, ev_tyT, ev_tyL, ev_tyR, ev_kit1, ev_kit2, ev_kit3, ev_kit4, ev_kit5, ev_kit6, ev_kit7, ev_eqIL, ev_eqPRC, ev_eqPR, ev_eqPL, ev_int0, ev_int1, ev_kSum, ev_sum, ev_kAllB, ev_all, ev_bl0, ev_bl1, ev_kRev, ev_rev, ev_slC, ev_slP, ev_slR, ev_pop, ev_kOrS, ev_kOrSs, ev_orS, ev_kPut2, ev_kPut1, ev_putL, ev_putN, ev_putC, ev_putCd, ev_kPut3, ev_kPut3s, ev_kPd2, ev_kPd1, ev_putD, ev_pdC, ev_kPd3S, ev_kPd3I, ev_kKG1, ev_kget, ev_kKG2, ev_nc0, ev_nc1, ev_ncn, ev_while, ev_niC, ev_inC, ev_signs, ev_itMk, ev_eqB, ev_inC2, ev_inP, ev_kIn, ev_kNi, ev_inPP, ev_niPP, ev_inT, ev_niT, ev_kPc3, ev_kPc2, ev_kPc1, ev_pc, ev_dispC, ev_kDisp, ev_disp, ev_keys0, ev_keysS, ev_merge, ev_g3C, ev_kG3, ev_kG2, ev_g1C, ev_kG1, ev_get2, ev_rng1, str_cW, len_rngW, BEq.rfl, beq_self_eq_true, low_dic, List.any_cons, List.any_nil, Bool.or_false, Bool.false_or, Bool.true_or, Bool.or_true, Sum.inr.injEq, Sum.inl.injEq, low_bW, low_cW, len_bW, len_cW, bls_bW, iW_n, sW_n, List.length_singleton, at_iW, ix_last, set_iW, pop_iW, int_iW, str_sW, List.map_cons, List.map_nil, List.length_cons, List.length_nil, List.cons_append, List.nil_append, List.append_assoc, List.getElem?_cons_zero, List.getElem?_cons_succ, List.set_cons_zero, List.set_cons_succ, List.replicate_zero, List.replicate_succ, List.append_nil, List.filterMap_cons, List.filterMap_nil, and_self, List.length_append, List.length_set, st_at0, st_at, st_set0, st_set, settle_v0, settle_v, cl_nil, cl_cons, cl_self, cl_app, cl_app2, settle_vg, settle_pg, sPC_some, low_lst, low_frz, low_val, low_ptr, take_app, take_app0, lt_f, lt_f1, all_nil, all_cons, low_iW, low_sW, len_iW, len_sW, List.take_succ_cons, List.take_zero, List.take_length, true_or, or_true, Bool.and_true, Bool.true_and, true_and, and_true, Nat.lt_irrefl, Nat.add_lt_add_iff_left, Option.map_some, Option.bind_some, decide_true, decide_false, decide_eq_true_eq, eq_self, if_true, if_false, Bool.not_true, Bool.not_false, reduceIte, Bool.false_eq_true, Nat.add_zero, Nat.zero_add, Nat.reduceAdd, Nat.reduceSub, Nat.reduceLeDiff, Nat.reduceLT, Nat.reduceMul, Nat.reducePow, ofS_inj, sizeLine, String.reduceEq, String.reduceNe, Int.reduceAdd, Int.reduceSub, Int.reduceMul, Int.reduceNeg, Int.reduceLE, Int.reduceLT, Int.reduceEq, Nat.add_assoc, ev_modI h, sub_div]
theorem told_pick (h : 0 < m) : m_Lvalue_told [.val (.str "pick"), .val (.lst [.int a, .int b, .int c]), .val (.int m)] M = .ok (.val (.bl true)) M := by
  by_cases q : a = 0 <;> simp only [q, u_Lvalue_told, d_Lvalue_told, p_Lvalue_told_1, e_Lvalue_told_2, u_value_of, d_value_of, u_Lvalue, d_Lvalue, u_Lis_integer, d_Lis_integer, ev_rd, ev_addI, ev_subI, ev_ltI, ev_leI, ev_gtI, ev_geI, ev_eqI, ev_neI, ev_eqS, ev_neS, ev_negI, ev_absI, ev_intI, ev_intB, ev_nx, ev_rt, ev_bk, ev_ct, ev_bind, ev_st, ev_seq, ev_next, ev_brk, ev_cnt, ev_kIf1, ev_kIf0, ev_if, ev_kRt, ev_ret, ev_retN, ev_kSet, ev_set, ev_kDrop, ev_drop, ev_kVar, ev_var, ev_c, ev_k2, ev_d2, ev_d1, ev_nil, ev_kCons2, ev_kCons, ev_cons, ev_call, ev_kIsB, ev_isB, ev_kAnd1, ev_kAnd0, ev_and, ev_kOr1, ev_kOr0, ev_or, ev_kNot, ev_not, ev_kAndV1, ev_kAndV0, ev_andV, ev_kOrV1, ev_kOrV0, ev_orV, ev_kNotV, ev_notV, ev_kIfE1, ev_kIfE0, ev_ifE, ev_kCh31, ev_kCh30, ev_kCh2, ev_kCh1, ev_chain, ev_tmp, ev_kFunN, ev_kFunR, ev_fun, ev_env, ev_iter, ev_kFor, ev_for, ev_kLc, ev_lc, ev_rng, ev_no, ev_kPart, ev_part, ev_kSl1, ev_kSl, ev_sl, ev_kMeth0S, ev_meth0, ev_kMethS, ev_meth, ev_rdC, ev_rdP, ev_lvwC, ev_lvw, ev_lvwR, ev_lvwL, ev_tvwR, ev_tvwT, ev_svwR, ev_svwT, ev_svwC, ev_svw, ev_kOk, ev_kOkD, ev_ixC, ev_ix, ev_ixRls, ev_ixTup, ev_at0, ev_at1, ev_at2, ev_at3, ev_lenC, ev_len, ev_lenRls, ev_lenTup, ev_addC, ev_add, ev_appC, ev_app, ev_mthC, ev_mth, ev_mth0C, ev_mth0, ev_itC, ev_it, ev_itR, ev_itT, ev_itS, ev_vals0, ev_vals1, ev_frzV, ev_frzC, ev_frzCf, ev_frz, ev_frzK, ev_frzA0, ev_frzAv, ev_frzAp, ev_kMkT2, ev_kMkT, ev_mkT, ev_rdF, ev_map0, ev_map1, ev_omap, ev_kF2n, ev_kF2c, ev_kF2b, ev_kF2r, ev_kF1, ev_F1, ev_F0, ev_F1c, ev_F0c, ev_gnm, ev_gnil, ev_kGc, ev_gcons, ev_gtup, ev_kC4, ev_kC3, ev_kC21, ev_kC20, ev_kC1, ev_C1, ev_C0, ev_C1c, ev_C0c, ev_yes, ev_wipe0, ev_wipe1, ev_mkLi, ev_lsxC, ev_lsxD, ev_lsx, ev_lsxR, ev_lsxL, ev_lsxT, ev_kOkT, ev_tupC, ev_tup, ev_tupR, ev_tupL, ev_tupT, ev_tvwL, ev_svwL, ev_ixL, ev_lenL, ev_itL, ev_callK, ev_kCK, ev_kCK2, ev_permL, ev_kIsi, ev_isi, ev_tyI, ev_tyB, ev_tyS, ev_tyN, ev_tyT, ev_tyL, ev_tyR, ev_kit1, ev_kit2, ev_kit3, ev_kit4, ev_kit5, ev_kit6, ev_kit7, ev_eqIL, ev_eqPRC, ev_eqPR, ev_eqPL, ev_int0, ev_int1, ev_kSum, ev_sum, ev_kAllB, ev_all, ev_bl0, ev_bl1, ev_kRev, ev_rev, ev_slC, ev_slP, ev_slR, ev_pop, ev_kOrS, ev_kOrSs, ev_orS, ev_kPut2, ev_kPut1, ev_putL, ev_putN, ev_putC, ev_putCd, ev_kPut3, ev_kPut3s, ev_kPd2, ev_kPd1, ev_putD, ev_pdC, ev_kPd3S, ev_kPd3I, ev_kKG1, ev_kget, ev_kKG2, ev_nc0, ev_nc1, ev_ncn, ev_while, ev_niC, ev_inC, ev_signs, ev_itMk, ev_eqB, ev_inC2, ev_inP, ev_kIn, ev_kNi, ev_inPP, ev_niPP, ev_inT, ev_niT, ev_kPc3, ev_kPc2, ev_kPc1, ev_pc, ev_dispC, ev_kDisp, ev_disp, ev_keys0, ev_keysS, ev_merge, ev_g3C, ev_kG3, ev_kG2, ev_g1C, ev_kG1, ev_get2, ev_rng1, str_cW, len_rngW, BEq.rfl, beq_self_eq_true, low_dic, List.any_cons, List.any_nil, Bool.or_false, Bool.false_or, Bool.true_or, Bool.or_true, Sum.inr.injEq, Sum.inl.injEq, low_bW, low_cW, len_bW, len_cW, bls_bW, iW_n, sW_n, List.length_singleton, at_iW, ix_last, set_iW, pop_iW, int_iW, str_sW, List.map_cons, List.map_nil, List.length_cons, List.length_nil, List.cons_append, List.nil_append, List.append_assoc, List.getElem?_cons_zero, List.getElem?_cons_succ, List.set_cons_zero, List.set_cons_succ, List.replicate_zero, List.replicate_succ, List.append_nil, List.filterMap_cons, List.filterMap_nil, and_self, List.length_append, List.length_set, st_at0, st_at, st_set0, st_set, settle_v0, settle_v, cl_nil, cl_cons, cl_self, cl_app, cl_app2, settle_vg, settle_pg, sPC_some, low_lst, low_frz, low_val, low_ptr, take_app, take_app0, lt_f, lt_f1, all_nil, all_cons, low_iW, low_sW, len_iW, len_sW, List.take_succ_cons, List.take_zero, List.take_length, true_or, or_true, Bool.and_true, Bool.true_and, true_and, and_true, Nat.lt_irrefl, Nat.add_lt_add_iff_left, Option.map_some, Option.bind_some, decide_true, decide_false, decide_eq_true_eq, eq_self, if_true, if_false, Bool.not_true, Bool.not_false, reduceIte, Bool.false_eq_true, Nat.add_zero, Nat.zero_add, Nat.reduceAdd, Nat.reduceSub, Nat.reduceLeDiff, Nat.reduceLT, Nat.reduceMul, Nat.reducePow, ofS_inj, sizeLine, String.reduceEq, String.reduceNe, Int.reduceAdd, Int.reduceSub, Int.reduceMul, Int.reduceNeg, Int.reduceLE, Int.reduceLT, Int.reduceEq, Nat.add_assoc, ev_modI h, sub_div]
theorem told_move (h : 0 < m) : m_Lvalue_told [.val (.str "move"), .val (.lst [.int a]), .val (.int m)] M = .ok (.val (.bl true)) M := by
  simp only [u_Lvalue_told, d_Lvalue_told, p_Lvalue_told_1, e_Lvalue_told_2, u_value_of, d_value_of, u_Lvalue, d_Lvalue, u_Lis_integer, d_Lis_integer, ev_rd, ev_addI, ev_subI, ev_ltI, ev_leI, ev_gtI, ev_geI, ev_eqI, ev_neI, ev_eqS, ev_neS, ev_negI, ev_absI, ev_intI, ev_intB, ev_nx, ev_rt, ev_bk, ev_ct, ev_bind, ev_st, ev_seq, ev_next, ev_brk, ev_cnt, ev_kIf1, ev_kIf0, ev_if, ev_kRt, ev_ret, ev_retN, ev_kSet, ev_set, ev_kDrop, ev_drop, ev_kVar, ev_var, ev_c, ev_k2, ev_d2, ev_d1, ev_nil, ev_kCons2, ev_kCons, ev_cons, ev_call, ev_kIsB, ev_isB, ev_kAnd1, ev_kAnd0, ev_and, ev_kOr1, ev_kOr0, ev_or, ev_kNot, ev_not, ev_kAndV1, ev_kAndV0, ev_andV, ev_kOrV1, ev_kOrV0, ev_orV, ev_kNotV, ev_notV, ev_kIfE1, ev_kIfE0, ev_ifE, ev_kCh31, ev_kCh30, ev_kCh2, ev_kCh1, ev_chain, ev_tmp, ev_kFunN, ev_kFunR, ev_fun, ev_env, ev_iter, ev_kFor, ev_for, ev_kLc, ev_lc, ev_rng, ev_no, ev_kPart, ev_part, ev_kSl1, ev_kSl, ev_sl, ev_kMeth0S, ev_meth0, ev_kMethS, ev_meth, ev_rdC, ev_rdP, ev_lvwC, ev_lvw, ev_lvwR, ev_lvwL, ev_tvwR, ev_tvwT, ev_svwR, ev_svwT, ev_svwC, ev_svw, ev_kOk, ev_kOkD, ev_ixC, ev_ix, ev_ixRls, ev_ixTup, ev_at0, ev_at1, ev_at2, ev_at3, ev_lenC, ev_len, ev_lenRls, ev_lenTup, ev_addC, ev_add, ev_appC, ev_app, ev_mthC, ev_mth, ev_mth0C, ev_mth0, ev_itC, ev_it, ev_itR, ev_itT, ev_itS, ev_vals0, ev_vals1, ev_frzV, ev_frzC, ev_frzCf, ev_frz, ev_frzK, ev_frzA0, ev_frzAv, ev_frzAp, ev_kMkT2, ev_kMkT, ev_mkT, ev_rdF, ev_map0, ev_map1, ev_omap, ev_kF2n, ev_kF2c, ev_kF2b, ev_kF2r, ev_kF1, ev_F1, ev_F0, ev_F1c, ev_F0c, ev_gnm, ev_gnil, ev_kGc, ev_gcons, ev_gtup, ev_kC4, ev_kC3, ev_kC21, ev_kC20, ev_kC1, ev_C1, ev_C0, ev_C1c, ev_C0c, ev_yes, ev_wipe0, ev_wipe1, ev_mkLi, ev_lsxC, ev_lsxD, ev_lsx, ev_lsxR, ev_lsxL, ev_lsxT, ev_kOkT, ev_tupC, ev_tup, ev_tupR, ev_tupL, ev_tupT, ev_tvwL, ev_svwL, ev_ixL, ev_lenL, ev_itL, ev_callK, ev_kCK, ev_kCK2, ev_permL, ev_kIsi, ev_isi, ev_tyI, ev_tyB, ev_tyS, ev_tyN, ev_tyT, ev_tyL, ev_tyR, ev_kit1, ev_kit2, ev_kit3, ev_kit4, ev_kit5, ev_kit6, ev_kit7, ev_eqIL, ev_eqPRC, ev_eqPR, ev_eqPL, ev_int0, ev_int1, ev_kSum, ev_sum, ev_kAllB, ev_all, ev_bl0, ev_bl1, ev_kRev, ev_rev, ev_slC, ev_slP, ev_slR, ev_pop, ev_kOrS, ev_kOrSs, ev_orS, ev_kPut2, ev_kPut1, ev_putL, ev_putN, ev_putC, ev_putCd, ev_kPut3, ev_kPut3s, ev_kPd2, ev_kPd1, ev_putD, ev_pdC, ev_kPd3S, ev_kPd3I, ev_kKG1, ev_kget, ev_kKG2, ev_nc0, ev_nc1, ev_ncn, ev_while, ev_niC, ev_inC, ev_signs, ev_itMk, ev_eqB, ev_inC2, ev_inP, ev_kIn, ev_kNi, ev_inPP, ev_niPP, ev_inT, ev_niT, ev_kPc3, ev_kPc2, ev_kPc1, ev_pc, ev_dispC, ev_kDisp, ev_disp, ev_keys0, ev_keysS, ev_merge, ev_g3C, ev_kG3, ev_kG2, ev_g1C, ev_kG1, ev_get2, ev_rng1, str_cW, len_rngW, BEq.rfl, beq_self_eq_true, low_dic, List.any_cons, List.any_nil, Bool.or_false, Bool.false_or, Bool.true_or, Bool.or_true, Sum.inr.injEq, Sum.inl.injEq, low_bW, low_cW, len_bW, len_cW, bls_bW, iW_n, sW_n, List.length_singleton, at_iW, ix_last, set_iW, pop_iW, int_iW, str_sW, List.map_cons, List.map_nil, List.length_cons, List.length_nil, List.cons_append, List.nil_append, List.append_assoc, List.getElem?_cons_zero, List.getElem?_cons_succ, List.set_cons_zero, List.set_cons_succ, List.replicate_zero, List.replicate_succ, List.append_nil, List.filterMap_cons, List.filterMap_nil, and_self, List.length_append, List.length_set, st_at0, st_at, st_set0, st_set, settle_v0, settle_v, cl_nil, cl_cons, cl_self, cl_app, cl_app2, settle_vg, settle_pg, sPC_some, low_lst, low_frz, low_val, low_ptr, take_app, take_app0, lt_f, lt_f1, all_nil, all_cons, low_iW, low_sW, len_iW, len_sW, List.take_succ_cons, List.take_zero, List.take_length, true_or, or_true, Bool.and_true, Bool.true_and, true_and, and_true, Nat.lt_irrefl, Nat.add_lt_add_iff_left, Option.map_some, Option.bind_some, decide_true, decide_false, decide_eq_true_eq, eq_self, if_true, if_false, Bool.not_true, Bool.not_false, reduceIte, Bool.false_eq_true, Nat.add_zero, Nat.zero_add, Nat.reduceAdd, Nat.reduceSub, Nat.reduceLeDiff, Nat.reduceLT, Nat.reduceMul, Nat.reducePow, ofS_inj, sizeLine, String.reduceEq, String.reduceNe, Int.reduceAdd, Int.reduceSub, Int.reduceMul, Int.reduceNeg, Int.reduceLE, Int.reduceLT, Int.reduceEq, Nat.add_assoc, ev_modI h, sub_div]
theorem sm0 : Sm 0 := by unfold Sm; decide
theorem sm1 : Sm 1 := by unfold Sm; decide
theorem values_told (h : 0 < m) (hm : Sm m) (hm1 : Sm (m - 1)) (ha : Sm a) (hb : Sm b) (hc : Sm c) : m_Lvalues_told [.val (.int m), .val (.int a), .val (.int b), .val (.int c)] M = .ok (.val (.bl true)) M := by
  simp only [u_Lvalues_told, d_Lvalues_told, l_Lvalues_told_1, ev_rd, ev_addI, ev_subI, ev_ltI, ev_leI, ev_gtI, ev_geI, ev_eqI, ev_neI, ev_eqS, ev_neS, ev_negI, ev_absI, ev_intI, ev_intB, ev_nx, ev_rt, ev_bk, ev_ct, ev_bind, ev_st, ev_seq, ev_next, ev_brk, ev_cnt, ev_kIf1, ev_kIf0, ev_if, ev_kRt, ev_ret, ev_retN, ev_kSet, ev_set, ev_kDrop, ev_drop, ev_kVar, ev_var, ev_c, ev_k2, ev_d2, ev_d1, ev_nil, ev_kCons2, ev_kCons, ev_cons, ev_call, ev_kIsB, ev_isB, ev_kAnd1, ev_kAnd0, ev_and, ev_kOr1, ev_kOr0, ev_or, ev_kNot, ev_not, ev_kAndV1, ev_kAndV0, ev_andV, ev_kOrV1, ev_kOrV0, ev_orV, ev_kNotV, ev_notV, ev_kIfE1, ev_kIfE0, ev_ifE, ev_kCh31, ev_kCh30, ev_kCh2, ev_kCh1, ev_chain, ev_tmp, ev_kFunN, ev_kFunR, ev_fun, ev_env, ev_iter, ev_kFor, ev_for, ev_kLc, ev_lc, ev_rng, ev_no, ev_kPart, ev_part, ev_kSl1, ev_kSl, ev_sl, ev_kMeth0S, ev_meth0, ev_kMethS, ev_meth, ev_rdC, ev_rdP, ev_lvwC, ev_lvw, ev_lvwR, ev_lvwL, ev_tvwR, ev_tvwT, ev_svwR, ev_svwT, ev_svwC, ev_svw, ev_kOk, ev_kOkD, ev_ixC, ev_ix, ev_ixRls, ev_ixTup, ev_at0, ev_at1, ev_at2, ev_at3, ev_lenC, ev_len, ev_lenRls, ev_lenTup, ev_addC, ev_add, ev_appC, ev_app, ev_mthC, ev_mth, ev_mth0C, ev_mth0, ev_itC, ev_it, ev_itR, ev_itT, ev_itS, ev_vals0, ev_vals1, ev_frzV, ev_frzC, ev_frzCf, ev_frz, ev_frzK, ev_frzA0, ev_frzAv, ev_frzAp, ev_kMkT2, ev_kMkT, ev_mkT, ev_rdF, ev_map0, ev_map1, ev_omap, ev_kF2n, ev_kF2c, ev_kF2b, ev_kF2r, ev_kF1, ev_F1, ev_F0, ev_F1c, ev_F0c, ev_gnm, ev_gnil, ev_kGc, ev_gcons, ev_gtup, ev_kC4, ev_kC3, ev_kC21, ev_kC20, ev_kC1, ev_C1, ev_C0, ev_C1c, ev_C0c, ev_yes, ev_wipe0, ev_wipe1, ev_mkLi, ev_lsxC, ev_lsxD, ev_lsx, ev_lsxR, ev_lsxL, ev_lsxT, ev_kOkT, ev_tupC, ev_tup, ev_tupR, ev_tupL, ev_tupT, ev_tvwL, ev_svwL, ev_ixL, ev_lenL, ev_itL, ev_callK, ev_kCK, ev_kCK2, ev_permL, ev_kIsi, ev_isi, ev_tyI, ev_tyB, ev_tyS, ev_tyN, ev_tyT, ev_tyL, ev_tyR, ev_kit1, ev_kit2, ev_kit3, ev_kit4, ev_kit5, ev_kit6, ev_kit7, ev_eqIL, ev_eqPRC, ev_eqPR, ev_eqPL, ev_int0, ev_int1, ev_kSum, ev_sum, ev_kAllB, ev_all, ev_bl0, ev_bl1, ev_kRev, ev_rev, ev_slC, ev_slP, ev_slR, ev_pop, ev_kOrS, ev_kOrSs, ev_orS, ev_kPut2, ev_kPut1, ev_putL, ev_putN, ev_putC, ev_putCd, ev_kPut3, ev_kPut3s, ev_kPd2, ev_kPd1, ev_putD, ev_pdC, ev_kPd3S, ev_kPd3I, ev_kKG1, ev_kget, ev_kKG2, ev_nc0, ev_nc1, ev_ncn, ev_while, ev_niC, ev_inC, ev_signs, ev_itMk, ev_eqB, ev_inC2, ev_inP, ev_kIn, ev_kNi, ev_inPP, ev_niPP, ev_inT, ev_niT, ev_kPc3, ev_kPc2, ev_kPc1, ev_pc, ev_dispC, ev_kDisp, ev_disp, ev_keys0, ev_keysS, ev_merge, ev_g3C, ev_kG3, ev_kG2, ev_g1C, ev_kG1, ev_get2, ev_rng1, str_cW, len_rngW, BEq.rfl, beq_self_eq_true, low_dic, List.any_cons, List.any_nil, Bool.or_false, Bool.false_or, Bool.true_or, Bool.or_true, Sum.inr.injEq, Sum.inl.injEq, low_bW, low_cW, len_bW, len_cW, bls_bW, iW_n, sW_n, List.length_singleton, at_iW, ix_last, set_iW, pop_iW, int_iW, str_sW, List.map_cons, List.map_nil, List.length_cons, List.length_nil, List.cons_append, List.nil_append, List.append_assoc, List.getElem?_cons_zero, List.getElem?_cons_succ, List.set_cons_zero, List.set_cons_succ, List.replicate_zero, List.replicate_succ, List.append_nil, List.filterMap_cons, List.filterMap_nil, and_self, List.length_append, List.length_set, st_at0, st_at, st_set0, st_set, settle_v0, settle_v, cl_nil, cl_cons, cl_self, cl_app, cl_app2, settle_vg, settle_pg, sPC_some, low_lst, low_frz, low_val, low_ptr, take_app, take_app0, lt_f, lt_f1, all_nil, all_cons, low_iW, low_sW, len_iW, len_sW, List.take_succ_cons, List.take_zero, List.take_length, true_or, or_true, Bool.and_true, Bool.true_and, true_and, and_true, Nat.lt_irrefl, Nat.add_lt_add_iff_left, Option.map_some, Option.bind_some, decide_true, decide_false, decide_eq_true_eq, eq_self, if_true, if_false, Bool.not_true, Bool.not_false, reduceIte, Bool.false_eq_true, Nat.add_zero, Nat.zero_add, Nat.reduceAdd, Nat.reduceSub, Nat.reduceLeDiff, Nat.reduceLT, Nat.reduceMul, Nat.reducePow, ofS_inj, sizeLine, String.reduceEq, String.reduceNe, Int.reduceAdd, Int.reduceSub, Int.reduceMul, Int.reduceNeg, Int.reduceLE, Int.reduceLT, Int.reduceEq, Nat.add_assoc, told_add, told_sub, told_mul, told_less, told_pick, told_move, h, hm, hm1, ha, hb, hc, sm0, sm1]
end
/-! ### the pool -/
def Gp (p : List Int) : Prop := p ≠ [] ∧ p.length ≤ 64
theorem pick_loop (many : Int) : ∀ (n : Nat) (p : List Int), p.length = n + 1 → ∃ p', p' ≠ [] ∧ p'.length ≤ n + 1 ∧ ∀ (m : Nat) (T : Store), n < m → loopW w_Lpick_1 l_Lpick_2 m [some (.ptr 0), some (.val (.int many)), none] (.lst (iW p) :: T) = .nx [some (.ptr 0), some (.val (.int many)), none] (.lst (iW p') :: T)
  | n, p, hp => by
    rcases List.eq_nil_or_concat p with rfl | ⟨q, a, rfl⟩
    · simp at hp
    rw [List.concat_eq_append] at hp ⊢
    have hq : q.length = n := by simpa using hp
    cases n with
    | zero =>
      have : q = [] := List.length_eq_zero_iff.mp hq
      subst this
      refine ⟨[a], by simp, by simp, fun m T hm => ?_⟩
      obtain ⟨m, rfl⟩ : ∃ k, m = k + 1 := ⟨m - 1, by omega⟩
      exact loopW_f (by simp only [w_Lpick_1, ev_rd, ev_addI, ev_subI, ev_ltI, ev_leI, ev_gtI, ev_geI, ev_eqI, ev_neI, ev_eqS, ev_neS, ev_negI, ev_absI, ev_intI, ev_intB, ev_nx, ev_rt, ev_bk, ev_ct, ev_bind, ev_st, ev_seq, ev_next, ev_brk, ev_cnt, ev_kIf1, ev_kIf0, ev_if, ev_kRt, ev_ret, ev_retN, ev_kSet, ev_set, ev_kDrop, ev_drop, ev_kVar, ev_var, ev_c, ev_k2, ev_d2, ev_d1, ev_nil, ev_kCons2, ev_kCons, ev_cons, ev_call, ev_kIsB, ev_isB, ev_kAnd1, ev_kAnd0, ev_and, ev_kOr1, ev_kOr0, ev_or, ev_kNot, ev_not, ev_kAndV1, ev_kAndV0, ev_andV, ev_kOrV1, ev_kOrV0, ev_orV, ev_kNotV, ev_notV, ev_kIfE1, ev_kIfE0, ev_ifE, ev_kCh31, ev_kCh30, ev_kCh2, ev_kCh1, ev_chain, ev_tmp, ev_kFunN, ev_kFunR, ev_fun, ev_env, ev_iter, ev_kFor, ev_for, ev_kLc, ev_lc, ev_rng, ev_no, ev_kPart, ev_part, ev_kSl1, ev_kSl, ev_sl, ev_kMeth0S, ev_meth0, ev_kMethS, ev_meth, ev_rdC, ev_rdP, ev_lvwC, ev_lvw, ev_lvwR, ev_lvwL, ev_tvwR, ev_tvwT, ev_svwR, ev_svwT, ev_svwC, ev_svw, ev_kOk, ev_kOkD, ev_ixC, ev_ix, ev_ixRls, ev_ixTup, ev_at0, ev_at1, ev_at2, ev_at3, ev_lenC, ev_len, ev_lenRls, ev_lenTup, ev_addC, ev_add, ev_appC, ev_app, ev_mthC, ev_mth, ev_mth0C, ev_mth0, ev_itC, ev_it, ev_itR, ev_itT, ev_itS, ev_vals0, ev_vals1, ev_frzV, ev_frzC, ev_frzCf, ev_frz, ev_frzK, ev_frzA0, ev_frzAv, ev_frzAp, ev_kMkT2, ev_kMkT, ev_mkT, ev_rdF, ev_map0, ev_map1, ev_omap, ev_kF2n, ev_kF2c, ev_kF2b, ev_kF2r, ev_kF1, ev_F1, ev_F0, ev_F1c, ev_F0c, ev_gnm, ev_gnil, ev_kGc, ev_gcons, ev_gtup, ev_kC4, ev_kC3, ev_kC21, ev_kC20, ev_kC1, ev_C1, ev_C0, ev_C1c, ev_C0c, ev_yes, ev_wipe0, ev_wipe1, ev_mkLi, ev_lsxC, ev_lsxD, ev_lsx, ev_lsxR, ev_lsxL, ev_lsxT, ev_kOkT, ev_tupC, ev_tup, ev_tupR, ev_tupL, ev_tupT, ev_tvwL, ev_svwL, ev_ixL, ev_lenL, ev_itL, ev_callK, ev_kCK, ev_kCK2, ev_permL, ev_kIsi, ev_isi, ev_tyI, ev_tyB, ev_tyS, ev_tyN, ev_tyT, ev_tyL, ev_tyR, ev_kit1, ev_kit2, ev_kit3, ev_kit4, ev_kit5, ev_kit6, ev_kit7, ev_eqIL, ev_eqPRC, ev_eqPR, ev_eqPL, ev_int0, ev_int1, ev_kSum, ev_sum, ev_kAllB, ev_all, ev_bl0, ev_bl1, ev_kRev, ev_rev, ev_slC, ev_slP, ev_slR, ev_pop, ev_kOrS, ev_kOrSs, ev_orS, ev_kPut2, ev_kPut1, ev_putL, ev_putN, ev_putC, ev_putCd, ev_kPut3, ev_kPut3s, ev_kPd2, ev_kPd1, ev_putD, ev_pdC, ev_kPd3S, ev_kPd3I, ev_kKG1, ev_kget, ev_kKG2, ev_nc0, ev_nc1, ev_ncn, ev_while, ev_niC, ev_inC, ev_signs, ev_itMk, ev_eqB, ev_inC2, ev_inP, ev_kIn, ev_kNi, ev_inPP, ev_niPP, ev_inT, ev_niT, ev_kPc3, ev_kPc2, ev_kPc1, ev_pc, ev_dispC, ev_kDisp, ev_disp, ev_keys0, ev_keysS, ev_merge, ev_g3C, ev_kG3, ev_kG2, ev_g1C, ev_kG1, ev_get2, ev_rng1, str_cW, len_rngW, BEq.rfl, beq_self_eq_true, low_dic, List.any_cons, List.any_nil, Bool.or_false, Bool.false_or, Bool.true_or, Bool.or_true, Sum.inr.injEq, Sum.inl.injEq, low_bW, low_cW, len_bW, len_cW, bls_bW, iW_n, sW_n, List.length_singleton, at_iW, ix_last, set_iW, pop_iW, int_iW, str_sW, List.map_cons, List.map_nil, List.length_cons, List.length_nil, List.cons_append, List.nil_append, List.append_assoc, List.getElem?_cons_zero, List.getElem?_cons_succ, List.set_cons_zero, List.set_cons_succ, List.replicate_zero, List.replicate_succ, List.append_nil, List.filterMap_cons, List.filterMap_nil, and_self, List.length_append, List.length_set, st_at0, st_at, st_set0, st_set, settle_v0, settle_v, cl_nil, cl_cons, cl_self, cl_app, cl_app2, settle_vg, settle_pg, sPC_some, low_lst, low_frz, low_val, low_ptr, take_app, take_app0, lt_f, lt_f1, all_nil, all_cons, low_iW, low_sW, len_iW, len_sW, List.take_succ_cons, List.take_zero, List.take_length, true_or, or_true, Bool.and_true, Bool.true_and, true_and, and_true, Nat.lt_irrefl, Nat.add_lt_add_iff_left, Option.map_some, Option.bind_some, decide_true, decide_false, decide_eq_true_eq, eq_self, if_true, if_false, Bool.not_true, Bool.not_false, reduceIte, Bool.false_eq_true, Nat.add_zero, Nat.zero_add, Nat.reduceAdd, Nat.reduceSub, Nat.reduceLeDiff, Nat.reduceLT, Nat.reduceMul, Nat.reducePow, ofS_inj, sizeLine, String.reduceEq, String.reduceNe, Int.reduceAdd, Int.reduceSub, Int.reduceMul, Int.reduceNeg, Int.reduceLE, Int.reduceLT, Int.reduceEq, Nat.add_assoc])
    | succ n =>
      have c3 : (1 : Int) < ((q.length + 1 : Nat) : Int) := by omega
      by_cases c2 : a = 0
      · subst c2
        obtain ⟨p', h1, h2, h3⟩ := pick_loop many n q hq
        refine ⟨p', h1, by omega, fun m T hm => ?_⟩
        obtain ⟨m, rfl⟩ : ∃ k, m = k + 1 := ⟨m - 1, by omega⟩
        refine (loopW_t (M1 := .lst (iW (q ++ [0])) :: T) (e2 := [some (.ptr 0), some (.val (.int many)), none]) (M2 := .lst (iW q) :: T) (by simp only [w_Lpick_1, ev_rd, ev_addI, ev_subI, ev_ltI, ev_leI, ev_gtI, ev_geI, ev_eqI, ev_neI, ev_eqS, ev_neS, ev_negI, ev_absI, ev_intI, ev_intB, ev_nx, ev_rt, ev_bk, ev_ct, ev_bind, ev_st, ev_seq, ev_next, ev_brk, ev_cnt, ev_kIf1, ev_kIf0, ev_if, ev_kRt, ev_ret, ev_retN, ev_kSet, ev_set, ev_kDrop, ev_drop, ev_kVar, ev_var, ev_c, ev_k2, ev_d2, ev_d1, ev_nil, ev_kCons2, ev_kCons, ev_cons, ev_call, ev_kIsB, ev_isB, ev_kAnd1, ev_kAnd0, ev_and, ev_kOr1, ev_kOr0, ev_or, ev_kNot, ev_not, ev_kAndV1, ev_kAndV0, ev_andV, ev_kOrV1, ev_kOrV0, ev_orV, ev_kNotV, ev_notV, ev_kIfE1, ev_kIfE0, ev_ifE, ev_kCh31, ev_kCh30, ev_kCh2, ev_kCh1, ev_chain, ev_tmp, ev_kFunN, ev_kFunR, ev_fun, ev_env, ev_iter, ev_kFor, ev_for, ev_kLc, ev_lc, ev_rng, ev_no, ev_kPart, ev_part, ev_kSl1, ev_kSl, ev_sl, ev_kMeth0S, ev_meth0, ev_kMethS, ev_meth, ev_rdC, ev_rdP, ev_lvwC, ev_lvw, ev_lvwR, ev_lvwL, ev_tvwR, ev_tvwT, ev_svwR, ev_svwT, ev_svwC, ev_svw, ev_kOk, ev_kOkD, ev_ixC, ev_ix, ev_ixRls, ev_ixTup, ev_at0, ev_at1, ev_at2, ev_at3, ev_lenC, ev_len, ev_lenRls, ev_lenTup, ev_addC, ev_add, ev_appC, ev_app, ev_mthC, ev_mth, ev_mth0C, ev_mth0, ev_itC, ev_it, ev_itR, ev_itT, ev_itS, ev_vals0, ev_vals1, ev_frzV, ev_frzC, ev_frzCf, ev_frz, ev_frzK, ev_frzA0, ev_frzAv, ev_frzAp, ev_kMkT2, ev_kMkT, ev_mkT, ev_rdF, ev_map0, ev_map1, ev_omap, ev_kF2n, ev_kF2c, ev_kF2b, ev_kF2r, ev_kF1, ev_F1, ev_F0, ev_F1c, ev_F0c, ev_gnm, ev_gnil, ev_kGc, ev_gcons, ev_gtup, ev_kC4, ev_kC3, ev_kC21, ev_kC20, ev_kC1, ev_C1, ev_C0, ev_C1c, ev_C0c, ev_yes, ev_wipe0, ev_wipe1, ev_mkLi, ev_lsxC, ev_lsxD, ev_lsx, ev_lsxR, ev_lsxL, ev_lsxT, ev_kOkT, ev_tupC, ev_tup, ev_tupR, ev_tupL, ev_tupT, ev_tvwL, ev_svwL, ev_ixL, ev_lenL, ev_itL, ev_callK, ev_kCK, ev_kCK2, ev_permL, ev_kIsi, ev_isi, ev_tyI, ev_tyB, ev_tyS, ev_tyN, ev_tyT, ev_tyL, ev_tyR, ev_kit1, ev_kit2, ev_kit3, ev_kit4, ev_kit5, ev_kit6, ev_kit7, ev_eqIL, ev_eqPRC, ev_eqPR, ev_eqPL, ev_int0, ev_int1, ev_kSum, ev_sum, ev_kAllB, ev_all, ev_bl0, ev_bl1, ev_kRev, ev_rev, ev_slC, ev_slP, ev_slR, ev_pop, ev_kOrS, ev_kOrSs, ev_orS, ev_kPut2, ev_kPut1, ev_putL, ev_putN, ev_putC, ev_putCd, ev_kPut3, ev_kPut3s, ev_kPd2, ev_kPd1, ev_putD, ev_pdC, ev_kPd3S, ev_kPd3I, ev_kKG1, ev_kget, ev_kKG2, ev_nc0, ev_nc1, ev_ncn, ev_while, ev_niC, ev_inC, ev_signs, ev_itMk, ev_eqB, ev_inC2, ev_inP, ev_kIn, ev_kNi, ev_inPP, ev_niPP, ev_inT, ev_niT, ev_kPc3, ev_kPc2, ev_kPc1, ev_pc, ev_dispC, ev_kDisp, ev_disp, ev_keys0, ev_keysS, ev_merge, ev_g3C, ev_kG3, ev_kG2, ev_g1C, ev_kG1, ev_get2, ev_rng1, str_cW, len_rngW, BEq.rfl, beq_self_eq_true, low_dic, List.any_cons, List.any_nil, Bool.or_false, Bool.false_or, Bool.true_or, Bool.or_true, Sum.inr.injEq, Sum.inl.injEq, low_bW, low_cW, len_bW, len_cW, bls_bW, iW_n, sW_n, List.length_singleton, at_iW, ix_last, set_iW, pop_iW, int_iW, str_sW, List.map_cons, List.map_nil, List.length_cons, List.length_nil, List.cons_append, List.nil_append, List.append_assoc, List.getElem?_cons_zero, List.getElem?_cons_succ, List.set_cons_zero, List.set_cons_succ, List.replicate_zero, List.replicate_succ, List.append_nil, List.filterMap_cons, List.filterMap_nil, and_self, List.length_append, List.length_set, st_at0, st_at, st_set0, st_set, settle_v0, settle_v, cl_nil, cl_cons, cl_self, cl_app, cl_app2, settle_vg, settle_pg, sPC_some, low_lst, low_frz, low_val, low_ptr, take_app, take_app0, lt_f, lt_f1, all_nil, all_cons, low_iW, low_sW, len_iW, len_sW, List.take_succ_cons, List.take_zero, List.take_length, true_or, or_true, Bool.and_true, Bool.true_and, true_and, and_true, Nat.lt_irrefl, Nat.add_lt_add_iff_left, Option.map_some, Option.bind_some, decide_true, decide_false, decide_eq_true_eq, eq_self, if_true, if_false, Bool.not_true, Bool.not_false, reduceIte, Bool.false_eq_true, Nat.add_zero, Nat.zero_add, Nat.reduceAdd, Nat.reduceSub, Nat.reduceLeDiff, Nat.reduceLT, Nat.reduceMul, Nat.reducePow, ofS_inj, sizeLine, String.reduceEq, String.reduceNe, Int.reduceAdd, Int.reduceSub, Int.reduceMul, Int.reduceNeg, Int.reduceLE, Int.reduceLT, Int.reduceEq, Nat.add_assoc, c3]) (by simp only [l_Lpick_2, ev_rd, ev_addI, ev_subI, ev_ltI, ev_leI, ev_gtI, ev_geI, ev_eqI, ev_neI, ev_eqS, ev_neS, ev_negI, ev_absI, ev_intI, ev_intB, ev_nx, ev_rt, ev_bk, ev_ct, ev_bind, ev_st, ev_seq, ev_next, ev_brk, ev_cnt, ev_kIf1, ev_kIf0, ev_if, ev_kRt, ev_ret, ev_retN, ev_kSet, ev_set, ev_kDrop, ev_drop, ev_kVar, ev_var, ev_c, ev_k2, ev_d2, ev_d1, ev_nil, ev_kCons2, ev_kCons, ev_cons, ev_call, ev_kIsB, ev_isB, ev_kAnd1, ev_kAnd0, ev_and, ev_kOr1, ev_kOr0, ev_or, ev_kNot, ev_not, ev_kAndV1, ev_kAndV0, ev_andV, ev_kOrV1, ev_kOrV0, ev_orV, ev_kNotV, ev_notV, ev_kIfE1, ev_kIfE0, ev_ifE, ev_kCh31, ev_kCh30, ev_kCh2, ev_kCh1, ev_chain, ev_tmp, ev_kFunN, ev_kFunR, ev_fun, ev_env, ev_iter, ev_kFor, ev_for, ev_kLc, ev_lc, ev_rng, ev_no, ev_kPart, ev_part, ev_kSl1, ev_kSl, ev_sl, ev_kMeth0S, ev_meth0, ev_kMethS, ev_meth, ev_rdC, ev_rdP, ev_lvwC, ev_lvw, ev_lvwR, ev_lvwL, ev_tvwR, ev_tvwT, ev_svwR, ev_svwT, ev_svwC, ev_svw, ev_kOk, ev_kOkD, ev_ixC, ev_ix, ev_ixRls, ev_ixTup, ev_at0, ev_at1, ev_at2, ev_at3, ev_lenC, ev_len, ev_lenRls, ev_lenTup, ev_addC, ev_add, ev_appC, ev_app, ev_mthC, ev_mth, ev_mth0C, ev_mth0, ev_itC, ev_it, ev_itR, ev_itT, ev_itS, ev_vals0, ev_vals1, ev_frzV, ev_frzC, ev_frzCf, ev_frz, ev_frzK, ev_frzA0, ev_frzAv, ev_frzAp, ev_kMkT2, ev_kMkT, ev_mkT, ev_rdF, ev_map0, ev_map1, ev_omap, ev_kF2n, ev_kF2c, ev_kF2b, ev_kF2r, ev_kF1, ev_F1, ev_F0, ev_F1c, ev_F0c, ev_gnm, ev_gnil, ev_kGc, ev_gcons, ev_gtup, ev_kC4, ev_kC3, ev_kC21, ev_kC20, ev_kC1, ev_C1, ev_C0, ev_C1c, ev_C0c, ev_yes, ev_wipe0, ev_wipe1, ev_mkLi, ev_lsxC, ev_lsxD, ev_lsx, ev_lsxR, ev_lsxL, ev_lsxT, ev_kOkT, ev_tupC, ev_tup, ev_tupR, ev_tupL, ev_tupT, ev_tvwL, ev_svwL, ev_ixL, ev_lenL, ev_itL, ev_callK, ev_kCK, ev_kCK2, ev_permL, ev_kIsi, ev_isi, ev_tyI, ev_tyB, ev_tyS, ev_tyN, ev_tyT, ev_tyL, ev_tyR, ev_kit1, ev_kit2, ev_kit3, ev_kit4, ev_kit5, ev_kit6, ev_kit7, ev_eqIL, ev_eqPRC, ev_eqPR, ev_eqPL, ev_int0, ev_int1, ev_kSum, ev_sum, ev_kAllB, ev_all, ev_bl0, ev_bl1, ev_kRev, ev_rev, ev_slC, ev_slP, ev_slR, ev_pop, ev_kOrS, ev_kOrSs, ev_orS, ev_kPut2, ev_kPut1, ev_putL, ev_putN, ev_putC, ev_putCd, ev_kPut3, ev_kPut3s, ev_kPd2, ev_kPd1, ev_putD, ev_pdC, ev_kPd3S, ev_kPd3I, ev_kKG1, ev_kget, ev_kKG2, ev_nc0, ev_nc1, ev_ncn, ev_while, ev_niC, ev_inC, ev_signs, ev_itMk, ev_eqB, ev_inC2, ev_inP, ev_kIn, ev_kNi, ev_inPP, ev_niPP, ev_inT, ev_niT, ev_kPc3, ev_kPc2, ev_kPc1, ev_pc, ev_dispC, ev_kDisp, ev_disp, ev_keys0, ev_keysS, ev_merge, ev_g3C, ev_kG3, ev_kG2, ev_g1C, ev_kG1, ev_get2, ev_rng1, str_cW, len_rngW, BEq.rfl, beq_self_eq_true, low_dic, List.any_cons, List.any_nil, Bool.or_false, Bool.false_or, Bool.true_or, Bool.or_true, Sum.inr.injEq, Sum.inl.injEq, low_bW, low_cW, len_bW, len_cW, bls_bW, iW_n, sW_n, List.length_singleton, at_iW, ix_last, set_iW, pop_iW, int_iW, str_sW, List.map_cons, List.map_nil, List.length_cons, List.length_nil, List.cons_append, List.nil_append, List.append_assoc, List.getElem?_cons_zero, List.getElem?_cons_succ, List.set_cons_zero, List.set_cons_succ, List.replicate_zero, List.replicate_succ, List.append_nil, List.filterMap_cons, List.filterMap_nil, and_self, List.length_append, List.length_set, st_at0, st_at, st_set0, st_set, settle_v0, settle_v, cl_nil, cl_cons, cl_self, cl_app, cl_app2, settle_vg, settle_pg, sPC_some, low_lst, low_frz, low_val, low_ptr, take_app, take_app0, lt_f, lt_f1, all_nil, all_cons, low_iW, low_sW, len_iW, len_sW, List.take_succ_cons, List.take_zero, List.take_length, true_or, or_true, Bool.and_true, Bool.true_and, true_and, and_true, Nat.lt_irrefl, Nat.add_lt_add_iff_left, Option.map_some, Option.bind_some, decide_true, decide_false, decide_eq_true_eq, eq_self, if_true, if_false, Bool.not_true, Bool.not_false, reduceIte, Bool.false_eq_true, Nat.add_zero, Nat.zero_add, Nat.reduceAdd, Nat.reduceSub, Nat.reduceLeDiff, Nat.reduceLT, Nat.reduceMul, Nat.reducePow, ofS_inj, sizeLine, String.reduceEq, String.reduceNe, Int.reduceAdd, Int.reduceSub, Int.reduceMul, Int.reduceNeg, Int.reduceLE, Int.reduceLT, Int.reduceEq, Nat.add_assoc])).trans (h3 m T (by omega))
      · refine ⟨q ++ [a], by simp, by simp [hq], fun m T hm => ?_⟩
        obtain ⟨m, rfl⟩ : ∃ k, m = k + 1 := ⟨m - 1, by omega⟩
        exact loopW_f (by simp only [w_Lpick_1, ev_rd, ev_addI, ev_subI, ev_ltI, ev_leI, ev_gtI, ev_geI, ev_eqI, ev_neI, ev_eqS, ev_neS, ev_negI, ev_absI, ev_intI, ev_intB, ev_nx, ev_rt, ev_bk, ev_ct, ev_bind, ev_st, ev_seq, ev_next, ev_brk, ev_cnt, ev_kIf1, ev_kIf0, ev_if, ev_kRt, ev_ret, ev_retN, ev_kSet, ev_set, ev_kDrop, ev_drop, ev_kVar, ev_var, ev_c, ev_k2, ev_d2, ev_d1, ev_nil, ev_kCons2, ev_kCons, ev_cons, ev_call, ev_kIsB, ev_isB, ev_kAnd1, ev_kAnd0, ev_and, ev_kOr1, ev_kOr0, ev_or, ev_kNot, ev_not, ev_kAndV1, ev_kAndV0, ev_andV, ev_kOrV1, ev_kOrV0, ev_orV, ev_kNotV, ev_notV, ev_kIfE1, ev_kIfE0, ev_ifE, ev_kCh31, ev_kCh30, ev_kCh2, ev_kCh1, ev_chain, ev_tmp, ev_kFunN, ev_kFunR, ev_fun, ev_env, ev_iter, ev_kFor, ev_for, ev_kLc, ev_lc, ev_rng, ev_no, ev_kPart, ev_part, ev_kSl1, ev_kSl, ev_sl, ev_kMeth0S, ev_meth0, ev_kMethS, ev_meth, ev_rdC, ev_rdP, ev_lvwC, ev_lvw, ev_lvwR, ev_lvwL, ev_tvwR, ev_tvwT, ev_svwR, ev_svwT, ev_svwC, ev_svw, ev_kOk, ev_kOkD, ev_ixC, ev_ix, ev_ixRls, ev_ixTup, ev_at0, ev_at1, ev_at2, ev_at3, ev_lenC, ev_len, ev_lenRls, ev_lenTup, ev_addC, ev_add, ev_appC, ev_app, ev_mthC, ev_mth, ev_mth0C, ev_mth0, ev_itC, ev_it, ev_itR, ev_itT, ev_itS, ev_vals0, ev_vals1, ev_frzV, ev_frzC, ev_frzCf, ev_frz, ev_frzK, ev_frzA0, ev_frzAv, ev_frzAp, ev_kMkT2, ev_kMkT, ev_mkT, ev_rdF, ev_map0, ev_map1, ev_omap, ev_kF2n, ev_kF2c, ev_kF2b, ev_kF2r, ev_kF1, ev_F1, ev_F0, ev_F1c, ev_F0c, ev_gnm, ev_gnil, ev_kGc, ev_gcons, ev_gtup, ev_kC4, ev_kC3, ev_kC21, ev_kC20, ev_kC1, ev_C1, ev_C0, ev_C1c, ev_C0c, ev_yes, ev_wipe0, ev_wipe1, ev_mkLi, ev_lsxC, ev_lsxD, ev_lsx, ev_lsxR, ev_lsxL, ev_lsxT, ev_kOkT, ev_tupC, ev_tup, ev_tupR, ev_tupL, ev_tupT, ev_tvwL, ev_svwL, ev_ixL, ev_lenL, ev_itL, ev_callK, ev_kCK, ev_kCK2, ev_permL, ev_kIsi, ev_isi, ev_tyI, ev_tyB, ev_tyS, ev_tyN, ev_tyT, ev_tyL, ev_tyR, ev_kit1, ev_kit2, ev_kit3, ev_kit4, ev_kit5, ev_kit6, ev_kit7, ev_eqIL, ev_eqPRC, ev_eqPR, ev_eqPL, ev_int0, ev_int1, ev_kSum, ev_sum, ev_kAllB, ev_all, ev_bl0, ev_bl1, ev_kRev, ev_rev, ev_slC, ev_slP, ev_slR, ev_pop, ev_kOrS, ev_kOrSs, ev_orS, ev_kPut2, ev_kPut1, ev_putL, ev_putN, ev_putC, ev_putCd, ev_kPut3, ev_kPut3s, ev_kPd2, ev_kPd1, ev_putD, ev_pdC, ev_kPd3S, ev_kPd3I, ev_kKG1, ev_kget, ev_kKG2, ev_nc0, ev_nc1, ev_ncn, ev_while, ev_niC, ev_inC, ev_signs, ev_itMk, ev_eqB, ev_inC2, ev_inP, ev_kIn, ev_kNi, ev_inPP, ev_niPP, ev_inT, ev_niT, ev_kPc3, ev_kPc2, ev_kPc1, ev_pc, ev_dispC, ev_kDisp, ev_disp, ev_keys0, ev_keysS, ev_merge, ev_g3C, ev_kG3, ev_kG2, ev_g1C, ev_kG1, ev_get2, ev_rng1, str_cW, len_rngW, BEq.rfl, beq_self_eq_true, low_dic, List.any_cons, List.any_nil, Bool.or_false, Bool.false_or, Bool.true_or, Bool.or_true, Sum.inr.injEq, Sum.inl.injEq, low_bW, low_cW, len_bW, len_cW, bls_bW, iW_n, sW_n, List.length_singleton, at_iW, ix_last, set_iW, pop_iW, int_iW, str_sW, List.map_cons, List.map_nil, List.length_cons, List.length_nil, List.cons_append, List.nil_append, List.append_assoc, List.getElem?_cons_zero, List.getElem?_cons_succ, List.set_cons_zero, List.set_cons_succ, List.replicate_zero, List.replicate_succ, List.append_nil, List.filterMap_cons, List.filterMap_nil, and_self, List.length_append, List.length_set, st_at0, st_at, st_set0, st_set, settle_v0, settle_v, cl_nil, cl_cons, cl_self, cl_app, cl_app2, settle_vg, settle_pg, sPC_some, low_lst, low_frz, low_val, low_ptr, take_app, take_app0, lt_f, lt_f1, all_nil, all_cons, low_iW, low_sW, len_iW, len_sW, List.take_succ_cons, List.take_zero, List.take_length, true_or, or_true, Bool.and_true, Bool.true_and, true_and, and_true, Nat.lt_irrefl, Nat.add_lt_add_iff_left, Option.map_some, Option.bind_some, decide_true, decide_false, decide_eq_true_eq, eq_self, if_true, if_false, Bool.not_true, Bool.not_false, reduceIte, Bool.false_eq_true, Nat.add_zero, Nat.zero_add, Nat.reduceAdd, Nat.reduceSub, Nat.reduceLeDiff, Nat.reduceLT, Nat.reduceMul, Nat.reducePow, ofS_inj, sizeLine, String.reduceEq, String.reduceNe, Int.reduceAdd, Int.reduceSub, Int.reduceMul, Int.reduceNeg, Int.reduceLE, Int.reduceLT, Int.reduceEq, Nat.add_assoc, c3, c2])
theorem pick_ok (p : List Int) (hp : Gp p) (many : Int) (h : 0 < many) (hm : Sm many) : ∃ d p', (∀ T : Store, m_Lpick [.ptr 0, .val (.int many)] (.lst (iW p) :: T) = .ok (.val (.int d)) (.lst (iW p') :: T)) ∧ Gp p' ∧ 0 ≤ d ∧ d < many := by
  have h2 : many.natAbs.log2 < 9000 := Nat.lt_trans hm.log (by decide)
  have hlen : 0 < p.length := List.length_pos_iff.mpr hp.1
  obtain ⟨p', n1, n2, n3⟩ := pick_loop many (p.length - 1) p (by omega)
  have hp2 := hp.2
  rcases List.eq_nil_or_concat p' with rfl | ⟨q, a, rfl⟩
  · exact absurd rfl n1
  rw [List.concat_eq_append] at n2 n3
  refine ⟨a % many, q ++ [a / many], fun T => ?_, ⟨by simp, by simp at n2 ⊢; omega⟩, Int.emod_nonneg _ (by omega), Int.emod_lt_of_pos _ h⟩
  have n4 := n3 100000 T (by omega)
  simp only [u_Lpick, d_Lpick, ev_rd, ev_addI, ev_subI, ev_ltI, ev_leI, ev_gtI, ev_geI, ev_eqI, ev_neI, ev_eqS, ev_neS, ev_negI, ev_absI, ev_intI, ev_intB, ev_nx, ev_rt, ev_bk, ev_ct, ev_bind, ev_st, ev_seq, ev_next, ev_brk, ev_cnt, ev_kIf1, ev_kIf0, ev_if, ev_kRt, ev_ret, ev_retN, ev_kSet, ev_set, ev_kDrop, ev_drop, ev_kVar, ev_var, ev_c, ev_k2, ev_d2, ev_d1, ev_nil, ev_kCons2, ev_kCons, ev_cons, ev_call, ev_kIsB, ev_isB, ev_kAnd1, ev_kAnd0, ev_and, ev_kOr1, ev_kOr0, ev_or, ev_kNot, ev_not, ev_kAndV1, ev_kAndV0, ev_andV, ev_kOrV1, ev_kOrV0, ev_orV, ev_kNotV, ev_notV, ev_kIfE1, ev_kIfE0, ev_ifE, ev_kCh31, ev_kCh30, ev_kCh2, ev_kCh1, ev_chain, ev_tmp, ev_kFunN, ev_kFunR, ev_fun, ev_env, ev_iter, ev_kFor, ev_for, ev_kLc, ev_lc, ev_rng, ev_no, ev_kPart, ev_part, ev_kSl1, ev_kSl, ev_sl, ev_kMeth0S, ev_meth0, ev_kMethS, ev_meth, ev_rdC, ev_rdP, ev_lvwC, ev_lvw, ev_lvwR, ev_lvwL, ev_tvwR, ev_tvwT, ev_svwR, ev_svwT, ev_svwC, ev_svw, ev_kOk, ev_kOkD, ev_ixC, ev_ix, ev_ixRls, ev_ixTup, ev_at0, ev_at1, ev_at2, ev_at3, ev_lenC, ev_len, ev_lenRls, ev_lenTup, ev_addC, ev_add, ev_appC, ev_app, ev_mthC, ev_mth, ev_mth0C, ev_mth0, ev_itC, ev_it, ev_itR, ev_itT, ev_itS, ev_vals0, ev_vals1, ev_frzV, ev_frzC, ev_frzCf, ev_frz, ev_frzK, ev_frzA0, ev_frzAv, ev_frzAp, ev_kMkT2, ev_kMkT, ev_mkT, ev_rdF, ev_map0, ev_map1, ev_omap, ev_kF2n, ev_kF2c, ev_kF2b, ev_kF2r, ev_kF1, ev_F1, ev_F0, ev_F1c, ev_F0c, ev_gnm, ev_gnil, ev_kGc, ev_gcons, ev_gtup, ev_kC4, ev_kC3, ev_kC21, ev_kC20, ev_kC1, ev_C1, ev_C0, ev_C1c, ev_C0c, ev_yes, ev_wipe0, ev_wipe1, ev_mkLi, ev_lsxC, ev_lsxD, ev_lsx, ev_lsxR, ev_lsxL, ev_lsxT, ev_kOkT, ev_tupC, ev_tup, ev_tupR, ev_tupL, ev_tupT, ev_tvwL, ev_svwL, ev_ixL, ev_lenL, ev_itL, ev_callK, ev_kCK, ev_kCK2, ev_permL, ev_kIsi, ev_isi, ev_tyI, ev_tyB, ev_tyS, ev_tyN, ev_tyT, ev_tyL, ev_tyR, ev_kit1, ev_kit2, ev_kit3, ev_kit4, ev_kit5, ev_kit6, ev_kit7, ev_eqIL, ev_eqPRC, ev_eqPR, ev_eqPL, ev_int0, ev_int1, ev_kSum, ev_sum, ev_kAllB, ev_all, ev_bl0, ev_bl1, ev_kRev, ev_rev, ev_slC, ev_slP, ev_slR, ev_pop, ev_kOrS, ev_kOrSs, ev_orS, ev_kPut2, ev_kPut1, ev_putL, ev_putN, ev_putC, ev_putCd, ev_kPut3, ev_kPut3s, ev_kPd2, ev_kPd1, ev_putD, ev_pdC, ev_kPd3S, ev_kPd3I, ev_kKG1, ev_kget, ev_kKG2, ev_nc0, ev_nc1, ev_ncn, ev_while, ev_niC, ev_inC, ev_signs, ev_itMk, ev_eqB, ev_inC2, ev_inP, ev_kIn, ev_kNi, ev_inPP, ev_niPP, ev_inT, ev_niT, ev_kPc3, ev_kPc2, ev_kPc1, ev_pc, ev_dispC, ev_kDisp, ev_disp, ev_keys0, ev_keysS, ev_merge, ev_g3C, ev_kG3, ev_kG2, ev_g1C, ev_kG1, ev_get2, ev_rng1, str_cW, len_rngW, BEq.rfl, beq_self_eq_true, low_dic, List.any_cons, List.any_nil, Bool.or_false, Bool.false_or, Bool.true_or, Bool.or_true, Sum.inr.injEq, Sum.inl.injEq, low_bW, low_cW, len_bW, len_cW, bls_bW, iW_n, sW_n, List.length_singleton, at_iW, ix_last, set_iW, pop_iW, int_iW, str_sW, List.map_cons, List.map_nil, List.length_cons, List.length_nil, List.cons_append, List.nil_append, List.append_assoc, List.getElem?_cons_zero, List.getElem?_cons_succ, List.set_cons_zero, List.set_cons_succ, List.replicate_zero, List.replicate_succ, List.append_nil, List.filterMap_cons, List.filterMap_nil, and_self, List.length_append, List.length_set, st_at0, st_at, st_set0, st_set, settle_v0, settle_v, cl_nil, cl_cons, cl_self, cl_app, cl_app2, settle_vg, settle_pg, sPC_some, low_lst, low_frz, low_val, low_ptr, take_app, take_app0, lt_f, lt_f1, all_nil, all_cons, low_iW, low_sW, len_iW, len_sW, List.take_succ_cons, List.take_zero, List.take_length, true_or, or_true, Bool.and_true, Bool.true_and, true_and, and_true, Nat.lt_irrefl, Nat.add_lt_add_iff_left, Option.map_some, Option.bind_some, decide_true, decide_false, decide_eq_true_eq, eq_self, if_true, if_false, Bool.not_true, Bool.not_false, reduceIte, Bool.false_eq_true, Nat.add_zero, Nat.zero_add, Nat.reduceAdd, Nat.reduceSub, Nat.reduceLeDiff, Nat.reduceLT, Nat.reduceMul, Nat.reducePow, ofS_inj, sizeLine, String.reduceEq, String.reduceNe, Int.reduceAdd, Int.reduceSub, Int.reduceMul, Int.reduceNeg, Int.reduceLE, Int.reduceLT, Int.reduceEq, Nat.add_assoc, n4, ev_modI h, ev_divI h h2]
theorem sm_of {x : Int} (h1 : -18446744073709551616 < x) (h2 : x < 18446744073709551616) : Sm x := by unfold Sm; omega
theorem draw_modulus_ok (p : List Int) (hp : Gp p) : ∃ d p', (∀ T : Store, m_Ldraw_modulus [.ptr 0] (.lst (iW p) :: T) = .ok (.val (.int d)) (.lst (iW p') :: T)) ∧ Gp p' ∧ 2 ≤ d ∧ d ≤ 1000001 := by
  obtain ⟨k, p1, e1, hp1, k0, k6⟩ := pick_ok p hp 6 (by decide) (sm_of (by decide) (by decide))
  obtain ⟨d, p2, e2, hp2, d0, d6⟩ := pick_ok p1 hp1 999999 (by decide) (sm_of (by decide) (by decide))
  by_cases c : k < 4
  · have : k = 0 ∨ k = 1 ∨ k = 2 ∨ k = 3 := by omega
    rcases this with rfl | rfl | rfl | rfl
    · exact ⟨97, p1, fun T => by simp only [u_Ldraw_modulus, d_Ldraw_modulus, ev_rd, ev_addI, ev_subI, ev_ltI, ev_leI, ev_gtI, ev_geI, ev_eqI, ev_neI, ev_eqS, ev_neS, ev_negI, ev_absI, ev_intI, ev_intB, ev_nx, ev_rt, ev_bk, ev_ct, ev_bind, ev_st, ev_seq, ev_next, ev_brk, ev_cnt, ev_kIf1, ev_kIf0, ev_if, ev_kRt, ev_ret, ev_retN, ev_kSet, ev_set, ev_kDrop, ev_drop, ev_kVar, ev_var, ev_c, ev_k2, ev_d2, ev_d1, ev_nil, ev_kCons2, ev_kCons, ev_cons, ev_call, ev_kIsB, ev_isB, ev_kAnd1, ev_kAnd0, ev_and, ev_kOr1, ev_kOr0, ev_or, ev_kNot, ev_not, ev_kAndV1, ev_kAndV0, ev_andV, ev_kOrV1, ev_kOrV0, ev_orV, ev_kNotV, ev_notV, ev_kIfE1, ev_kIfE0, ev_ifE, ev_kCh31, ev_kCh30, ev_kCh2, ev_kCh1, ev_chain, ev_tmp, ev_kFunN, ev_kFunR, ev_fun, ev_env, ev_iter, ev_kFor, ev_for, ev_kLc, ev_lc, ev_rng, ev_no, ev_kPart, ev_part, ev_kSl1, ev_kSl, ev_sl, ev_kMeth0S, ev_meth0, ev_kMethS, ev_meth, ev_rdC, ev_rdP, ev_lvwC, ev_lvw, ev_lvwR, ev_lvwL, ev_tvwR, ev_tvwT, ev_svwR, ev_svwT, ev_svwC, ev_svw, ev_kOk, ev_kOkD, ev_ixC, ev_ix, ev_ixRls, ev_ixTup, ev_at0, ev_at1, ev_at2, ev_at3, ev_lenC, ev_len, ev_lenRls, ev_lenTup, ev_addC, ev_add, ev_appC, ev_app, ev_mthC, ev_mth, ev_mth0C, ev_mth0, ev_itC, ev_it, ev_itR, ev_itT, ev_itS, ev_vals0, ev_vals1, ev_frzV, ev_frzC, ev_frzCf, ev_frz, ev_frzK, ev_frzA0, ev_frzAv, ev_frzAp, ev_kMkT2, ev_kMkT, ev_mkT, ev_rdF, ev_map0, ev_map1, ev_omap, ev_kF2n, ev_kF2c, ev_kF2b, ev_kF2r, ev_kF1, ev_F1, ev_F0, ev_F1c, ev_F0c, ev_gnm, ev_gnil, ev_kGc, ev_gcons, ev_gtup, ev_kC4, ev_kC3, ev_kC21, ev_kC20, ev_kC1, ev_C1, ev_C0, ev_C1c, ev_C0c, ev_yes, ev_wipe0, ev_wipe1, ev_mkLi, ev_lsxC, ev_lsxD, ev_lsx, ev_lsxR, ev_lsxL, ev_lsxT, ev_kOkT, ev_tupC, ev_tup, ev_tupR, ev_tupL, ev_tupT, ev_tvwL, ev_svwL, ev_ixL, ev_lenL, ev_itL, ev_callK, ev_kCK, ev_kCK2, ev_permL, ev_kIsi, ev_isi, ev_tyI, ev_tyB, ev_tyS, ev_tyN, ev_tyT, ev_tyL, ev_tyR, ev_kit1, ev_kit2, ev_kit3, ev_kit4, ev_kit5, ev_kit6, ev_kit7, ev_eqIL, ev_eqPRC, ev_eqPR, ev_eqPL, ev_int0, ev_int1, ev_kSum, ev_sum, ev_kAllB, ev_all, ev_bl0, ev_bl1, ev_kRev, ev_rev, ev_slC, ev_slP, ev_slR, ev_pop, ev_kOrS, ev_kOrSs, ev_orS, ev_kPut2, ev_kPut1, ev_putL, ev_putN, ev_putC, ev_putCd, ev_kPut3, ev_kPut3s, ev_kPd2, ev_kPd1, ev_putD, ev_pdC, ev_kPd3S, ev_kPd3I, ev_kKG1, ev_kget, ev_kKG2, ev_nc0, ev_nc1, ev_ncn, ev_while, ev_niC, ev_inC, ev_signs, ev_itMk, ev_eqB, ev_inC2, ev_inP, ev_kIn, ev_kNi, ev_inPP, ev_niPP, ev_inT, ev_niT, ev_kPc3, ev_kPc2, ev_kPc1, ev_pc, ev_dispC, ev_kDisp, ev_disp, ev_keys0, ev_keysS, ev_merge, ev_g3C, ev_kG3, ev_kG2, ev_g1C, ev_kG1, ev_get2, ev_rng1, str_cW, len_rngW, BEq.rfl, beq_self_eq_true, low_dic, List.any_cons, List.any_nil, Bool.or_false, Bool.false_or, Bool.true_or, Bool.or_true, Sum.inr.injEq, Sum.inl.injEq, low_bW, low_cW, len_bW, len_cW, bls_bW, iW_n, sW_n, List.length_singleton, at_iW, ix_last, set_iW, pop_iW, int_iW, str_sW, List.map_cons, List.map_nil, List.length_cons, List.length_nil, List.cons_append, List.nil_append, List.append_assoc, List.getElem?_cons_zero, List.getElem?_cons_succ, List.set_cons_zero, List.set_cons_succ, List.replicate_zero, List.replicate_succ, List.append_nil, List.filterMap_cons, List.filterMap_nil, and_self, List.length_append, List.length_set, st_at0, st_at, st_set0, st_set, settle_v0, settle_v, cl_nil, cl_cons, cl_self, cl_app, cl_app2, settle_vg, settle_pg, sPC_some, low_lst, low_frz, low_val, low_ptr, take_app, take_app0, lt_f, lt_f1, all_nil, all_cons, low_iW, low_sW, len_iW, len_sW, List.take_succ_cons, List.take_zero, List.take_length, true_or, or_true, Bool.and_true, Bool.true_and, true_and, and_true, Nat.lt_irrefl, Nat.add_lt_add_iff_left, Option.map_some, Option.bind_some, decide_true, decide_false, decide_eq_true_eq, eq_self, if_true, if_false, Bool.not_true, Bool.not_false, reduceIte, Bool.false_eq_true, Nat.add_zero, Nat.zero_add, Nat.reduceAdd, Nat.reduceSub, Nat.reduceLeDiff, Nat.reduceLT, Nat.reduceMul, Nat.reducePow, ofS_inj, sizeLine, String.reduceEq, String.reduceNe, Int.reduceAdd, Int.reduceSub, Int.reduceMul, Int.reduceNeg, Int.reduceLE, Int.reduceLT, Int.reduceEq, Nat.add_assoc, e1], hp1, by decide, by decide⟩
    · exact ⟨2, p1, fun T => by simp only [u_Ldraw_modulus, d_Ldraw_modulus, ev_rd, ev_addI, ev_subI, ev_ltI, ev_leI, ev_gtI, ev_geI, ev_eqI, ev_neI, ev_eqS, ev_neS, ev_negI, ev_absI, ev_intI, ev_intB, ev_nx, ev_rt, ev_bk, ev_ct, ev_bind, ev_st, ev_seq, ev_next, ev_brk, ev_cnt, ev_kIf1, ev_kIf0, ev_if, ev_kRt, ev_ret, ev_retN, ev_kSet, ev_set, ev_kDrop, ev_drop, ev_kVar, ev_var, ev_c, ev_k2, ev_d2, ev_d1, ev_nil, ev_kCons2, ev_kCons, ev_cons, ev_call, ev_kIsB, ev_isB, ev_kAnd1, ev_kAnd0, ev_and, ev_kOr1, ev_kOr0, ev_or, ev_kNot, ev_not, ev_kAndV1, ev_kAndV0, ev_andV, ev_kOrV1, ev_kOrV0, ev_orV, ev_kNotV, ev_notV, ev_kIfE1, ev_kIfE0, ev_ifE, ev_kCh31, ev_kCh30, ev_kCh2, ev_kCh1, ev_chain, ev_tmp, ev_kFunN, ev_kFunR, ev_fun, ev_env, ev_iter, ev_kFor, ev_for, ev_kLc, ev_lc, ev_rng, ev_no, ev_kPart, ev_part, ev_kSl1, ev_kSl, ev_sl, ev_kMeth0S, ev_meth0, ev_kMethS, ev_meth, ev_rdC, ev_rdP, ev_lvwC, ev_lvw, ev_lvwR, ev_lvwL, ev_tvwR, ev_tvwT, ev_svwR, ev_svwT, ev_svwC, ev_svw, ev_kOk, ev_kOkD, ev_ixC, ev_ix, ev_ixRls, ev_ixTup, ev_at0, ev_at1, ev_at2, ev_at3, ev_lenC, ev_len, ev_lenRls, ev_lenTup, ev_addC, ev_add, ev_appC, ev_app, ev_mthC, ev_mth, ev_mth0C, ev_mth0, ev_itC, ev_it, ev_itR, ev_itT, ev_itS, ev_vals0, ev_vals1, ev_frzV, ev_frzC, ev_frzCf, ev_frz, ev_frzK, ev_frzA0, ev_frzAv, ev_frzAp, ev_kMkT2, ev_kMkT, ev_mkT, ev_rdF, ev_map0, ev_map1, ev_omap, ev_kF2n, ev_kF2c, ev_kF2b, ev_kF2r, ev_kF1, ev_F1, ev_F0, ev_F1c, ev_F0c, ev_gnm, ev_gnil, ev_kGc, ev_gcons, ev_gtup, ev_kC4, ev_kC3, ev_kC21, ev_kC20, ev_kC1, ev_C1, ev_C0, ev_C1c, ev_C0c, ev_yes, ev_wipe0, ev_wipe1, ev_mkLi, ev_lsxC, ev_lsxD, ev_lsx, ev_lsxR, ev_lsxL, ev_lsxT, ev_kOkT, ev_tupC, ev_tup, ev_tupR, ev_tupL, ev_tupT, ev_tvwL, ev_svwL, ev_ixL, ev_lenL, ev_itL, ev_callK, ev_kCK, ev_kCK2, ev_permL, ev_kIsi, ev_isi, ev_tyI, ev_tyB, ev_tyS, ev_tyN, ev_tyT, ev_tyL, ev_tyR, ev_kit1, ev_kit2, ev_kit3, ev_kit4, ev_kit5, ev_kit6, ev_kit7, ev_eqIL, ev_eqPRC, ev_eqPR, ev_eqPL, ev_int0, ev_int1, ev_kSum, ev_sum, ev_kAllB, ev_all, ev_bl0, ev_bl1, ev_kRev, ev_rev, ev_slC, ev_slP, ev_slR, ev_pop, ev_kOrS, ev_kOrSs, ev_orS, ev_kPut2, ev_kPut1, ev_putL, ev_putN, ev_putC, ev_putCd, ev_kPut3, ev_kPut3s, ev_kPd2, ev_kPd1, ev_putD, ev_pdC, ev_kPd3S, ev_kPd3I, ev_kKG1, ev_kget, ev_kKG2, ev_nc0, ev_nc1, ev_ncn, ev_while, ev_niC, ev_inC, ev_signs, ev_itMk, ev_eqB, ev_inC2, ev_inP, ev_kIn, ev_kNi, ev_inPP, ev_niPP, ev_inT, ev_niT, ev_kPc3, ev_kPc2, ev_kPc1, ev_pc, ev_dispC, ev_kDisp, ev_disp, ev_keys0, ev_keysS, ev_merge, ev_g3C, ev_kG3, ev_kG2, ev_g1C, ev_kG1, ev_get2, ev_rng1, str_cW, len_rngW, BEq.rfl, beq_self_eq_true, low_dic, List.any_cons, List.any_nil, Bool.or_false, Bool.false_or, Bool.true_or, Bool.or_true, Sum.inr.injEq, Sum.inl.injEq, low_bW, low_cW, len_bW, len_cW, bls_bW, iW_n, sW_n, List.length_singleton, at_iW, ix_last, set_iW, pop_iW, int_iW, str_sW, List.map_cons, List.map_nil, List.length_cons, List.length_nil, List.cons_append, List.nil_append, List.append_assoc, List.getElem?_cons_zero, List.getElem?_cons_succ, List.set_cons_zero, List.set_cons_succ, List.replicate_zero, List.replicate_succ, List.append_nil, List.filterMap_cons, List.filterMap_nil, and_self, List.length_append, List.length_set, st_at0, st_at, st_set0, st_set, settle_v0, settle_v, cl_nil, cl_cons, cl_self, cl_app, cl_app2, settle_vg, settle_pg, sPC_some, low_lst, low_frz, low_val, low_ptr, take_app, take_app0, lt_f, lt_f1, all_nil, all_cons, low_iW, low_sW, len_iW, len_sW, List.take_succ_cons, List.take_zero, List.take_length, true_or, or_true, Bool.and_true, Bool.true_and, true_and, and_true, Nat.lt_irrefl, Nat.add_lt_add_iff_left, Option.map_some, Option.bind_some, decide_true, decide_false, decide_eq_true_eq, eq_self, if_true, if_false, Bool.not_true, Bool.not_false, reduceIte, Bool.false_eq_true, Nat.add_zero, Nat.zero_add, Nat.reduceAdd, Nat.reduceSub, Nat.reduceLeDiff, Nat.reduceLT, Nat.reduceMul, Nat.reducePow, ofS_inj, sizeLine, String.reduceEq, String.reduceNe, Int.reduceAdd, Int.reduceSub, Int.reduceMul, Int.reduceNeg, Int.reduceLE, Int.reduceLT, Int.reduceEq, Nat.add_assoc, e1], hp1, by decide, by decide⟩
    · exact ⟨1000000, p1, fun T => by simp only [u_Ldraw_modulus, d_Ldraw_modulus, ev_rd, ev_addI, ev_subI, ev_ltI, ev_leI, ev_gtI, ev_geI, ev_eqI, ev_neI, ev_eqS, ev_neS, ev_negI, ev_absI, ev_intI, ev_intB, ev_nx, ev_rt, ev_bk, ev_ct, ev_bind, ev_st, ev_seq, ev_next, ev_brk, ev_cnt, ev_kIf1, ev_kIf0, ev_if, ev_kRt, ev_ret, ev_retN, ev_kSet, ev_set, ev_kDrop, ev_drop, ev_kVar, ev_var, ev_c, ev_k2, ev_d2, ev_d1, ev_nil, ev_kCons2, ev_kCons, ev_cons, ev_call, ev_kIsB, ev_isB, ev_kAnd1, ev_kAnd0, ev_and, ev_kOr1, ev_kOr0, ev_or, ev_kNot, ev_not, ev_kAndV1, ev_kAndV0, ev_andV, ev_kOrV1, ev_kOrV0, ev_orV, ev_kNotV, ev_notV, ev_kIfE1, ev_kIfE0, ev_ifE, ev_kCh31, ev_kCh30, ev_kCh2, ev_kCh1, ev_chain, ev_tmp, ev_kFunN, ev_kFunR, ev_fun, ev_env, ev_iter, ev_kFor, ev_for, ev_kLc, ev_lc, ev_rng, ev_no, ev_kPart, ev_part, ev_kSl1, ev_kSl, ev_sl, ev_kMeth0S, ev_meth0, ev_kMethS, ev_meth, ev_rdC, ev_rdP, ev_lvwC, ev_lvw, ev_lvwR, ev_lvwL, ev_tvwR, ev_tvwT, ev_svwR, ev_svwT, ev_svwC, ev_svw, ev_kOk, ev_kOkD, ev_ixC, ev_ix, ev_ixRls, ev_ixTup, ev_at0, ev_at1, ev_at2, ev_at3, ev_lenC, ev_len, ev_lenRls, ev_lenTup, ev_addC, ev_add, ev_appC, ev_app, ev_mthC, ev_mth, ev_mth0C, ev_mth0, ev_itC, ev_it, ev_itR, ev_itT, ev_itS, ev_vals0, ev_vals1, ev_frzV, ev_frzC, ev_frzCf, ev_frz, ev_frzK, ev_frzA0, ev_frzAv, ev_frzAp, ev_kMkT2, ev_kMkT, ev_mkT, ev_rdF, ev_map0, ev_map1, ev_omap, ev_kF2n, ev_kF2c, ev_kF2b, ev_kF2r, ev_kF1, ev_F1, ev_F0, ev_F1c, ev_F0c, ev_gnm, ev_gnil, ev_kGc, ev_gcons, ev_gtup, ev_kC4, ev_kC3, ev_kC21, ev_kC20, ev_kC1, ev_C1, ev_C0, ev_C1c, ev_C0c, ev_yes, ev_wipe0, ev_wipe1, ev_mkLi, ev_lsxC, ev_lsxD, ev_lsx, ev_lsxR, ev_lsxL, ev_lsxT, ev_kOkT, ev_tupC, ev_tup, ev_tupR, ev_tupL, ev_tupT, ev_tvwL, ev_svwL, ev_ixL, ev_lenL, ev_itL, ev_callK, ev_kCK, ev_kCK2, ev_permL, ev_kIsi, ev_isi, ev_tyI, ev_tyB, ev_tyS, ev_tyN, ev_tyT, ev_tyL, ev_tyR, ev_kit1, ev_kit2, ev_kit3, ev_kit4, ev_kit5, ev_kit6, ev_kit7, ev_eqIL, ev_eqPRC, ev_eqPR, ev_eqPL, ev_int0, ev_int1, ev_kSum, ev_sum, ev_kAllB, ev_all, ev_bl0, ev_bl1, ev_kRev, ev_rev, ev_slC, ev_slP, ev_slR, ev_pop, ev_kOrS, ev_kOrSs, ev_orS, ev_kPut2, ev_kPut1, ev_putL, ev_putN, ev_putC, ev_putCd, ev_kPut3, ev_kPut3s, ev_kPd2, ev_kPd1, ev_putD, ev_pdC, ev_kPd3S, ev_kPd3I, ev_kKG1, ev_kget, ev_kKG2, ev_nc0, ev_nc1, ev_ncn, ev_while, ev_niC, ev_inC, ev_signs, ev_itMk, ev_eqB, ev_inC2, ev_inP, ev_kIn, ev_kNi, ev_inPP, ev_niPP, ev_inT, ev_niT, ev_kPc3, ev_kPc2, ev_kPc1, ev_pc, ev_dispC, ev_kDisp, ev_disp, ev_keys0, ev_keysS, ev_merge, ev_g3C, ev_kG3, ev_kG2, ev_g1C, ev_kG1, ev_get2, ev_rng1, str_cW, len_rngW, BEq.rfl, beq_self_eq_true, low_dic, List.any_cons, List.any_nil, Bool.or_false, Bool.false_or, Bool.true_or, Bool.or_true, Sum.inr.injEq, Sum.inl.injEq, low_bW, low_cW, len_bW, len_cW, bls_bW, iW_n, sW_n, List.length_singleton, at_iW, ix_last, set_iW, pop_iW, int_iW, str_sW, List.map_cons, List.map_nil, List.length_cons, List.length_nil, List.cons_append, List.nil_append, List.append_assoc, List.getElem?_cons_zero, List.getElem?_cons_succ, List.set_cons_zero, List.set_cons_succ, List.replicate_zero, List.replicate_succ, List.append_nil, List.filterMap_cons, List.filterMap_nil, and_self, List.length_append, List.length_set, st_at0, st_at, st_set0, st_set, settle_v0, settle_v, cl_nil, cl_cons, cl_self, cl_app, cl_app2, settle_vg, settle_pg, sPC_some, low_lst, low_frz, low_val, low_ptr, take_app, take_app0, lt_f, lt_f1, all_nil, all_cons, low_iW, low_sW, len_iW, len_sW, List.take_succ_cons, List.take_zero, List.take_length, true_or, or_true, Bool.and_true, Bool.true_and, true_and, and_true, Nat.lt_irrefl, Nat.add_lt_add_iff_left, Option.map_some, Option.bind_some, decide_true, decide_false, decide_eq_true_eq, eq_self, if_true, if_false, Bool.not_true, Bool.not_false, reduceIte, Bool.false_eq_true, Nat.add_zero, Nat.zero_add, Nat.reduceAdd, Nat.reduceSub, Nat.reduceLeDiff, Nat.reduceLT, Nat.reduceMul, Nat.reducePow, ofS_inj, sizeLine, String.reduceEq, String.reduceNe, Int.reduceAdd, Int.reduceSub, Int.reduceMul, Int.reduceNeg, Int.reduceLE, Int.reduceLT, Int.reduceEq, Nat.add_assoc, e1], hp1, by decide, by decide⟩
    · exact ⟨3, p1, fun T => by simp only [u_Ldraw_modulus, d_Ldraw_modulus, ev_rd, ev_addI, ev_subI, ev_ltI, ev_leI, ev_gtI, ev_geI, ev_eqI, ev_neI, ev_eqS, ev_neS, ev_negI, ev_absI, ev_intI, ev_intB, ev_nx, ev_rt, ev_bk, ev_ct, ev_bind, ev_st, ev_seq, ev_next, ev_brk, ev_cnt, ev_kIf1, ev_kIf0, ev_if, ev_kRt, ev_ret, ev_retN, ev_kSet, ev_set, ev_kDrop, ev_drop, ev_kVar, ev_var, ev_c, ev_k2, ev_d2, ev_d1, ev_nil, ev_kCons2, ev_kCons, ev_cons, ev_call, ev_kIsB, ev_isB, ev_kAnd1, ev_kAnd0, ev_and, ev_kOr1, ev_kOr0, ev_or, ev_kNot, ev_not, ev_kAndV1, ev_kAndV0, ev_andV, ev_kOrV1, ev_kOrV0, ev_orV, ev_kNotV, ev_notV, ev_kIfE1, ev_kIfE0, ev_ifE, ev_kCh31, ev_kCh30, ev_kCh2, ev_kCh1, ev_chain, ev_tmp, ev_kFunN, ev_kFunR, ev_fun, ev_env, ev_iter, ev_kFor, ev_for, ev_kLc, ev_lc, ev_rng, ev_no, ev_kPart, ev_part, ev_kSl1, ev_kSl, ev_sl, ev_kMeth0S, ev_meth0, ev_kMethS, ev_meth, ev_rdC, ev_rdP, ev_lvwC, ev_lvw, ev_lvwR, ev_lvwL, ev_tvwR, ev_tvwT, ev_svwR, ev_svwT, ev_svwC, ev_svw, ev_kOk, ev_kOkD, ev_ixC, ev_ix, ev_ixRls, ev_ixTup, ev_at0, ev_at1, ev_at2, ev_at3, ev_lenC, ev_len, ev_lenRls, ev_lenTup, ev_addC, ev_add, ev_appC, ev_app, ev_mthC, ev_mth, ev_mth0C, ev_mth0, ev_itC, ev_it, ev_itR, ev_itT, ev_itS, ev_vals0, ev_vals1, ev_frzV, ev_frzC, ev_frzCf, ev_frz, ev_frzK, ev_frzA0, ev_frzAv, ev_frzAp, ev_kMkT2, ev_kMkT, ev_mkT, ev_rdF, ev_map0, ev_map1, ev_omap, ev_kF2n, ev_kF2c, ev_kF2b, ev_kF2r, ev_kF1, ev_F1, ev_F0, ev_F1c, ev_F0c, ev_gnm, ev_gnil, ev_kGc, ev_gcons, ev_gtup, ev_kC4, ev_kC3, ev_kC21, ev_kC20, ev_kC1, ev_C1, ev_C0, ev_C1c, ev_C0c, ev_yes, ev_wipe0, ev_wipe1, ev_mkLi, ev_lsxC, ev_lsxD, ev_lsx, ev_lsxR, ev_lsxL, ev_lsxT, ev_kOkT, ev_tupC, ev_tup, ev_tupR, ev_tupL, ev_tupT, ev_tvwL, ev_svwL, ev_ixL, ev_lenL, ev_itL, ev_callK, ev_kCK, ev_kCK2, ev_permL, ev_kIsi, ev_isi, ev_tyI, ev_tyB, ev_tyS, ev_tyN, ev_tyT, ev_tyL, ev_tyR, ev_kit1, ev_kit2, ev_kit3, ev_kit4, ev_kit5, ev_kit6, ev_kit7, ev_eqIL, ev_eqPRC, ev_eqPR, ev_eqPL, ev_int0, ev_int1, ev_kSum, ev_sum, ev_kAllB, ev_all, ev_bl0, ev_bl1, ev_kRev, ev_rev, ev_slC, ev_slP, ev_slR, ev_pop, ev_kOrS, ev_kOrSs, ev_orS, ev_kPut2, ev_kPut1, ev_putL, ev_putN, ev_putC, ev_putCd, ev_kPut3, ev_kPut3s, ev_kPd2, ev_kPd1, ev_putD, ev_pdC, ev_kPd3S, ev_kPd3I, ev_kKG1, ev_kget, ev_kKG2, ev_nc0, ev_nc1, ev_ncn, ev_while, ev_niC, ev_inC, ev_signs, ev_itMk, ev_eqB, ev_inC2, ev_inP, ev_kIn, ev_kNi, ev_inPP, ev_niPP, ev_inT, ev_niT, ev_kPc3, ev_kPc2, ev_kPc1, ev_pc, ev_dispC, ev_kDisp, ev_disp, ev_keys0, ev_keysS, ev_merge, ev_g3C, ev_kG3, ev_kG2, ev_g1C, ev_kG1, ev_get2, ev_rng1, str_cW, len_rngW, BEq.rfl, beq_self_eq_true, low_dic, List.any_cons, List.any_nil, Bool.or_false, Bool.false_or, Bool.true_or, Bool.or_true, Sum.inr.injEq, Sum.inl.injEq, low_bW, low_cW, len_bW, len_cW, bls_bW, iW_n, sW_n, List.length_singleton, at_iW, ix_last, set_iW, pop_iW, int_iW, str_sW, List.map_cons, List.map_nil, List.length_cons, List.length_nil, List.cons_append, List.nil_append, List.append_assoc, List.getElem?_cons_zero, List.getElem?_cons_succ, List.set_cons_zero, List.set_cons_succ, List.replicate_zero, List.replicate_succ, List.append_nil, List.filterMap_cons, List.filterMap_nil, and_self, List.length_append, List.length_set, st_at0, st_at, st_set0, st_set, settle_v0, settle_v, cl_nil, cl_cons, cl_self, cl_app, cl_app2, settle_vg, settle_pg, sPC_some, low_lst, low_frz, low_val, low_ptr, take_app, take_app0, lt_f, lt_f1, all_nil, all_cons, low_iW, low_sW, len_iW, len_sW, List.take_succ_cons, List.take_zero, List.take_length, true_or, or_true, Bool.and_true, Bool.true_and, true_and, and_true, Nat.lt_irrefl, Nat.add_lt_add_iff_left, Option.map_some, Option.bind_some, decide_true, decide_false, decide_eq_true_eq, eq_self, if_true, if_false, Bool.not_true, Bool.not_false, reduceIte, Bool.false_eq_true, Nat.add_zero, Nat.zero_add, Nat.reduceAdd, Nat.reduceSub, Nat.reduceLeDiff, Nat.reduceLT, Nat.reduceMul, Nat.reducePow, ofS_inj, sizeLine, String.reduceEq, String.reduceNe, Int.reduceAdd, Int.reduceSub, Int.reduceMul, Int.reduceNeg, Int.reduceLE, Int.reduceLT, Int.reduceEq, Nat.add_assoc, e1], hp1, by decide, by decide⟩
  · exact ⟨2 + d, p2, fun T => by simp only [u_Ldraw_modulus, d_Ldraw_modulus, ev_rd, ev_addI, ev_subI, ev_ltI, ev_leI, ev_gtI, ev_geI, ev_eqI, ev_neI, ev_eqS, ev_neS, ev_negI, ev_absI, ev_intI, ev_intB, ev_nx, ev_rt, ev_bk, ev_ct, ev_bind, ev_st, ev_seq, ev_next, ev_brk, ev_cnt, ev_kIf1, ev_kIf0, ev_if, ev_kRt, ev_ret, ev_retN, ev_kSet, ev_set, ev_kDrop, ev_drop, ev_kVar, ev_var, ev_c, ev_k2, ev_d2, ev_d1, ev_nil, ev_kCons2, ev_kCons, ev_cons, ev_call, ev_kIsB, ev_isB, ev_kAnd1, ev_kAnd0, ev_and, ev_kOr1, ev_kOr0, ev_or, ev_kNot, ev_not, ev_kAndV1, ev_kAndV0, ev_andV, ev_kOrV1, ev_kOrV0, ev_orV, ev_kNotV, ev_notV, ev_kIfE1, ev_kIfE0, ev_ifE, ev_kCh31, ev_kCh30, ev_kCh2, ev_kCh1, ev_chain, ev_tmp, ev_kFunN, ev_kFunR, ev_fun, ev_env, ev_iter, ev_kFor, ev_for, ev_kLc, ev_lc, ev_rng, ev_no, ev_kPart, ev_part, ev_kSl1, ev_kSl, ev_sl, ev_kMeth0S, ev_meth0, ev_kMethS, ev_meth, ev_rdC, ev_rdP, ev_lvwC, ev_lvw, ev_lvwR, ev_lvwL, ev_tvwR, ev_tvwT, ev_svwR, ev_svwT, ev_svwC, ev_svw, ev_kOk, ev_kOkD, ev_ixC, ev_ix, ev_ixRls, ev_ixTup, ev_at0, ev_at1, ev_at2, ev_at3, ev_lenC, ev_len, ev_lenRls, ev_lenTup, ev_addC, ev_add, ev_appC, ev_app, ev_mthC, ev_mth, ev_mth0C, ev_mth0, ev_itC, ev_it, ev_itR, ev_itT, ev_itS, ev_vals0, ev_vals1, ev_frzV, ev_frzC, ev_frzCf, ev_frz, ev_frzK, ev_frzA0, ev_frzAv, ev_frzAp, ev_kMkT2, ev_kMkT, ev_mkT, ev_rdF, ev_map0, ev_map1, ev_omap, ev_kF2n, ev_kF2c, ev_kF2b, ev_kF2r, ev_kF1, ev_F1, ev_F0, ev_F1c, ev_F0c, ev_gnm, ev_gnil, ev_kGc, ev_gcons, ev_gtup, ev_kC4, ev_kC3, ev_kC21, ev_kC20, ev_kC1, ev_C1, ev_C0, ev_C1c, ev_C0c, ev_yes, ev_wipe0, ev_wipe1, ev_mkLi, ev_lsxC, ev_lsxD, ev_lsx, ev_lsxR, ev_lsxL, ev_lsxT, ev_kOkT, ev_tupC, ev_tup, ev_tupR, ev_tupL, ev_tupT, ev_tvwL, ev_svwL, ev_ixL, ev_lenL, ev_itL, ev_callK, ev_kCK, ev_kCK2, ev_permL, ev_kIsi, ev_isi, ev_tyI, ev_tyB, ev_tyS, ev_tyN, ev_tyT, ev_tyL, ev_tyR, ev_kit1, ev_kit2, ev_kit3, ev_kit4, ev_kit5, ev_kit6, ev_kit7, ev_eqIL, ev_eqPRC, ev_eqPR, ev_eqPL, ev_int0, ev_int1, ev_kSum, ev_sum, ev_kAllB, ev_all, ev_bl0, ev_bl1, ev_kRev, ev_rev, ev_slC, ev_slP, ev_slR, ev_pop, ev_kOrS, ev_kOrSs, ev_orS, ev_kPut2, ev_kPut1, ev_putL, ev_putN, ev_putC, ev_putCd, ev_kPut3, ev_kPut3s, ev_kPd2, ev_kPd1, ev_putD, ev_pdC, ev_kPd3S, ev_kPd3I, ev_kKG1, ev_kget, ev_kKG2, ev_nc0, ev_nc1, ev_ncn, ev_while, ev_niC, ev_inC, ev_signs, ev_itMk, ev_eqB, ev_inC2, ev_inP, ev_kIn, ev_kNi, ev_inPP, ev_niPP, ev_inT, ev_niT, ev_kPc3, ev_kPc2, ev_kPc1, ev_pc, ev_dispC, ev_kDisp, ev_disp, ev_keys0, ev_keysS, ev_merge, ev_g3C, ev_kG3, ev_kG2, ev_g1C, ev_kG1, ev_get2, ev_rng1, str_cW, len_rngW, BEq.rfl, beq_self_eq_true, low_dic, List.any_cons, List.any_nil, Bool.or_false, Bool.false_or, Bool.true_or, Bool.or_true, Sum.inr.injEq, Sum.inl.injEq, low_bW, low_cW, len_bW, len_cW, bls_bW, iW_n, sW_n, List.length_singleton, at_iW, ix_last, set_iW, pop_iW, int_iW, str_sW, List.map_cons, List.map_nil, List.length_cons, List.length_nil, List.cons_append, List.nil_append, List.append_assoc, List.getElem?_cons_zero, List.getElem?_cons_succ, List.set_cons_zero, List.set_cons_succ, List.replicate_zero, List.replicate_succ, List.append_nil, List.filterMap_cons, List.filterMap_nil, and_self, List.length_append, List.length_set, st_at0, st_at, st_set0, st_set, settle_v0, settle_v, cl_nil, cl_cons, cl_self, cl_app, cl_app2, settle_vg, settle_pg, sPC_some, low_lst, low_frz, low_val, low_ptr, take_app, take_app0, lt_f, lt_f1, all_nil, all_cons, low_iW, low_sW, len_iW, len_sW, List.take_succ_cons, List.take_zero, List.take_length, true_or, or_true, Bool.and_true, Bool.true_and, true_and, and_true, Nat.lt_irrefl, Nat.add_lt_add_iff_left, Option.map_some, Option.bind_some, decide_true, decide_false, decide_eq_true_eq, eq_self, if_true, if_false, Bool.not_true, Bool.not_false, reduceIte, Bool.false_eq_true, Nat.add_zero, Nat.zero_add, Nat.reduceAdd, Nat.reduceSub, Nat.reduceLeDiff, Nat.reduceLT, Nat.reduceMul, Nat.reducePow, ofS_inj, sizeLine, String.reduceEq, String.reduceNe, Int.reduceAdd, Int.reduceSub, Int.reduceMul, Int.reduceNeg, Int.reduceLE, Int.reduceLT, Int.reduceEq, Nat.add_assoc, e1, e2, c], hp2, by omega, by omega⟩
theorem draw_number_ok (p : List Int) (hp : Gp p) (m : Int) (hm : 2 ≤ m) (hm2 : m ≤ 1000001) : ∃ d p', (∀ T : Store, m_Ldraw_number [.ptr 0, .val (.int m)] (.lst (iW p) :: T) = .ok (.val (.int d)) (.lst (iW p') :: T)) ∧ Gp p' ∧ 0 ≤ d ∧ d < m := by
  obtain ⟨k, p1, e1, hp1, k0, k6⟩ := pick_ok p hp 5 (by decide) (sm_of (by decide) (by decide))
  obtain ⟨d, p2, e2, hp2, d0, d6⟩ := pick_ok p1 hp1 m (by omega) (sm_of (by omega) (by omega))
  by_cases c : k < 3
  · have : k = 0 ∨ k = 1 ∨ k = 2 := by omega
    rcases this with rfl | rfl | rfl
    · exact ⟨0, p1, fun T => by simp only [u_Ldraw_number, d_Ldraw_number, ev_rd, ev_addI, ev_subI, ev_ltI, ev_leI, ev_gtI, ev_geI, ev_eqI, ev_neI, ev_eqS, ev_neS, ev_negI, ev_absI, ev_intI, ev_intB, ev_nx, ev_rt, ev_bk, ev_ct, ev_bind, ev_st, ev_seq, ev_next, ev_brk, ev_cnt, ev_kIf1, ev_kIf0, ev_if, ev_kRt, ev_ret, ev_retN, ev_kSet, ev_set, ev_kDrop, ev_drop, ev_kVar, ev_var, ev_c, ev_k2, ev_d2, ev_d1, ev_nil, ev_kCons2, ev_kCons, ev_cons, ev_call, ev_kIsB, ev_isB, ev_kAnd1, ev_kAnd0, ev_and, ev_kOr1, ev_kOr0, ev_or, ev_kNot, ev_not, ev_kAndV1, ev_kAndV0, ev_andV, ev_kOrV1, ev_kOrV0, ev_orV, ev_kNotV, ev_notV, ev_kIfE1, ev_kIfE0, ev_ifE, ev_kCh31, ev_kCh30, ev_kCh2, ev_kCh1, ev_chain, ev_tmp, ev_kFunN, ev_kFunR, ev_fun, ev_env, ev_iter, ev_kFor, ev_for, ev_kLc, ev_lc, ev_rng, ev_no, ev_kPart, ev_part, ev_kSl1, ev_kSl, ev_sl, ev_kMeth0S, ev_meth0, ev_kMethS, ev_meth, ev_rdC, ev_rdP, ev_lvwC, ev_lvw, ev_lvwR, ev_lvwL, ev_tvwR, ev_tvwT, ev_svwR, ev_svwT, ev_svwC, ev_svw, ev_kOk, ev_kOkD, ev_ixC, ev_ix, ev_ixRls, ev_ixTup, ev_at0, ev_at1, ev_at2, ev_at3, ev_lenC, ev_len, ev_lenRls, ev_lenTup, ev_addC, ev_add, ev_appC, ev_app, ev_mthC, ev_mth, ev_mth0C, ev_mth0, ev_itC, ev_it, ev_itR, ev_itT, ev_itS, ev_vals0, ev_vals1, ev_frzV, ev_frzC, ev_frzCf, ev_frz, ev_frzK, ev_frzA0, ev_frzAv, ev_frzAp, ev_kMkT2, ev_kMkT, ev_mkT, ev_rdF, ev_map0, ev_map1, ev_omap, ev_kF2n, ev_kF2c, ev_kF2b, ev_kF2r, ev_kF1, ev_F1, ev_F0, ev_F1c, ev_F0c, ev_gnm, ev_gnil, ev_kGc, ev_gcons, ev_gtup, ev_kC4, ev_kC3, ev_kC21, ev_kC20, ev_kC1, ev_C1, ev_C0, ev_C1c, ev_C0c, ev_yes, ev_wipe0, ev_wipe1, ev_mkLi, ev_lsxC, ev_lsxD, ev_lsx, ev_lsxR, ev_lsxL, ev_lsxT, ev_kOkT, ev_tupC, ev_tup, ev_tupR, ev_tupL, ev_tupT, ev_tvwL, ev_svwL, ev_ixL, ev_lenL, ev_itL, ev_callK, ev_kCK, ev_kCK2, ev_permL, ev_kIsi, ev_isi, ev_tyI, ev_tyB, ev_tyS, ev_tyN, ev_tyT, ev_tyL, ev_tyR, ev_kit1, ev_kit2, ev_kit3, ev_kit4, ev_kit5, ev_kit6, ev_kit7, ev_eqIL, ev_eqPRC, ev_eqPR, ev_eqPL, ev_int0, ev_int1, ev_kSum, ev_sum, ev_kAllB, ev_all, ev_bl0, ev_bl1, ev_kRev, ev_rev, ev_slC, ev_slP, ev_slR, ev_pop, ev_kOrS, ev_kOrSs, ev_orS, ev_kPut2, ev_kPut1, ev_putL, ev_putN, ev_putC, ev_putCd, ev_kPut3, ev_kPut3s, ev_kPd2, ev_kPd1, ev_putD, ev_pdC, ev_kPd3S, ev_kPd3I, ev_kKG1, ev_kget, ev_kKG2, ev_nc0, ev_nc1, ev_ncn, ev_while, ev_niC, ev_inC, ev_signs, ev_itMk, ev_eqB, ev_inC2, ev_inP, ev_kIn, ev_kNi, ev_inPP, ev_niPP, ev_inT, ev_niT, ev_kPc3, ev_kPc2, ev_kPc1, ev_pc, ev_dispC, ev_kDisp, ev_disp, ev_keys0, ev_keysS, ev_merge, ev_g3C, ev_kG3, ev_kG2, ev_g1C, ev_kG1, ev_get2, ev_rng1, str_cW, len_rngW, BEq.rfl, beq_self_eq_true, low_dic, List.any_cons, List.any_nil, Bool.or_false, Bool.false_or, Bool.true_or, Bool.or_true, Sum.inr.injEq, Sum.inl.injEq, low_bW, low_cW, len_bW, len_cW, bls_bW, iW_n, sW_n, List.length_singleton, at_iW, ix_last, set_iW, pop_iW, int_iW, str_sW, List.map_cons, List.map_nil, List.length_cons, List.length_nil, List.cons_append, List.nil_append, List.append_assoc, List.getElem?_cons_zero, List.getElem?_cons_succ, List.set_cons_zero, List.set_cons_succ, List.replicate_zero, List.replicate_succ, List.append_nil, List.filterMap_cons, List.filterMap_nil, and_self, List.length_append, List.length_set, st_at0, st_at, st_set0, st_set, settle_v0, settle_v, cl_nil, cl_cons, cl_self, cl_app, cl_app2, settle_vg, settle_pg, sPC_some, low_lst, low_frz, low_val, low_ptr, take_app, take_app0, lt_f, lt_f1, all_nil, all_cons, low_iW, low_sW, len_iW, len_sW, List.take_succ_cons, List.take_zero, List.take_length, true_or, or_true, Bool.and_true, Bool.true_and, true_and, and_true, Nat.lt_irrefl, Nat.add_lt_add_iff_left, Option.map_some, Option.bind_some, decide_true, decide_false, decide_eq_true_eq, eq_self, if_true, if_false, Bool.not_true, Bool.not_false, reduceIte, Bool.false_eq_true, Nat.add_zero, Nat.zero_add, Nat.reduceAdd, Nat.reduceSub, Nat.reduceLeDiff, Nat.reduceLT, Nat.reduceMul, Nat.reducePow, ofS_inj, sizeLine, String.reduceEq, String.reduceNe, Int.reduceAdd, Int.reduceSub, Int.reduceMul, Int.reduceNeg, Int.reduceLE, Int.reduceLT, Int.reduceEq, Nat.add_assoc, e1], hp1, by omega, by omega⟩
    · exact ⟨1, p1, fun T => by simp only [u_Ldraw_number, d_Ldraw_number, ev_rd, ev_addI, ev_subI, ev_ltI, ev_leI, ev_gtI, ev_geI, ev_eqI, ev_neI, ev_eqS, ev_neS, ev_negI, ev_absI, ev_intI, ev_intB, ev_nx, ev_rt, ev_bk, ev_ct, ev_bind, ev_st, ev_seq, ev_next, ev_brk, ev_cnt, ev_kIf1, ev_kIf0, ev_if, ev_kRt, ev_ret, ev_retN, ev_kSet, ev_set, ev_kDrop, ev_drop, ev_kVar, ev_var, ev_c, ev_k2, ev_d2, ev_d1, ev_nil, ev_kCons2, ev_kCons, ev_cons, ev_call, ev_kIsB, ev_isB, ev_kAnd1, ev_kAnd0, ev_and, ev_kOr1, ev_kOr0, ev_or, ev_kNot, ev_not, ev_kAndV1, ev_kAndV0, ev_andV, ev_kOrV1, ev_kOrV0, ev_orV, ev_kNotV, ev_notV, ev_kIfE1, ev_kIfE0, ev_ifE, ev_kCh31, ev_kCh30, ev_kCh2, ev_kCh1, ev_chain, ev_tmp, ev_kFunN, ev_kFunR, ev_fun, ev_env, ev_iter, ev_kFor, ev_for, ev_kLc, ev_lc, ev_rng, ev_no, ev_kPart, ev_part, ev_kSl1, ev_kSl, ev_sl, ev_kMeth0S, ev_meth0, ev_kMethS, ev_meth, ev_rdC, ev_rdP, ev_lvwC, ev_lvw, ev_lvwR, ev_lvwL, ev_tvwR, ev_tvwT, ev_svwR, ev_svwT, ev_svwC, ev_svw, ev_kOk, ev_kOkD, ev_ixC, ev_ix, ev_ixRls, ev_ixTup, ev_at0, ev_at1, ev_at2, ev_at3, ev_lenC, ev_len, ev_lenRls, ev_lenTup, ev_addC, ev_add, ev_appC, ev_app, ev_mthC, ev_mth, ev_mth0C, ev_mth0, ev_itC, ev_it, ev_itR, ev_itT, ev_itS, ev_vals0, ev_vals1, ev_frzV, ev_frzC, ev_frzCf, ev_frz, ev_frzK, ev_frzA0, ev_frzAv, ev_frzAp, ev_kMkT2, ev_kMkT, ev_mkT, ev_rdF, ev_map0, ev_map1, ev_omap, ev_kF2n, ev_kF2c, ev_kF2b, ev_kF2r, ev_kF1, ev_F1, ev_F0, ev_F1c, ev_F0c, ev_gnm, ev_gnil, ev_kGc, ev_gcons, ev_gtup, ev_kC4, ev_kC3, ev_kC21, ev_kC20, ev_kC1, ev_C1, ev_C0, ev_C1c, ev_C0c, ev_yes, ev_wipe0, ev_wipe1, ev_mkLi, ev_lsxC, ev_lsxD, ev_lsx, ev_lsxR, ev_lsxL, ev_lsxT, ev_kOkT, ev_tupC, ev_tup, ev_tupR, ev_tupL, ev_tupT, ev_tvwL, ev_svwL, ev_ixL, ev_lenL, ev_itL, ev_callK, ev_kCK, ev_kCK2, ev_permL, ev_kIsi, ev_isi, ev_tyI, ev_tyB, ev_tyS, ev_tyN, ev_tyT, ev_tyL, ev_tyR, ev_kit1, ev_kit2, ev_kit3, ev_kit4, ev_kit5, ev_kit6, ev_kit7, ev_eqIL, ev_eqPRC, ev_eqPR, ev_eqPL, ev_int0, ev_int1, ev_kSum, ev_sum, ev_kAllB, ev_all, ev_bl0, ev_bl1, ev_kRev, ev_rev, ev_slC, ev_slP, ev_slR, ev_pop, ev_kOrS, ev_kOrSs, ev_orS, ev_kPut2, ev_kPut1, ev_putL, ev_putN, ev_putC, ev_putCd, ev_kPut3, ev_kPut3s, ev_kPd2, ev_kPd1, ev_putD, ev_pdC, ev_kPd3S, ev_kPd3I, ev_kKG1, ev_kget, ev_kKG2, ev_nc0, ev_nc1, ev_ncn, ev_while, ev_niC, ev_inC, ev_signs, ev_itMk, ev_eqB, ev_inC2, ev_inP, ev_kIn, ev_kNi, ev_inPP, ev_niPP, ev_inT, ev_niT, ev_kPc3, ev_kPc2, ev_kPc1, ev_pc, ev_dispC, ev_kDisp, ev_disp, ev_keys0, ev_keysS, ev_merge, ev_g3C, ev_kG3, ev_kG2, ev_g1C, ev_kG1, ev_get2, ev_rng1, str_cW, len_rngW, BEq.rfl, beq_self_eq_true, low_dic, List.any_cons, List.any_nil, Bool.or_false, Bool.false_or, Bool.true_or, Bool.or_true, Sum.inr.injEq, Sum.inl.injEq, low_bW, low_cW, len_bW, len_cW, bls_bW, iW_n, sW_n, List.length_singleton, at_iW, ix_last, set_iW, pop_iW, int_iW, str_sW, List.map_cons, List.map_nil, List.length_cons, List.length_nil, List.cons_append, List.nil_append, List.append_assoc, List.getElem?_cons_zero, List.getElem?_cons_succ, List.set_cons_zero, List.set_cons_succ, List.replicate_zero, List.replicate_succ, List.append_nil, List.filterMap_cons, List.filterMap_nil, and_self, List.length_append, List.length_set, st_at0, st_at, st_set0, st_set, settle_v0, settle_v, cl_nil, cl_cons, cl_self, cl_app, cl_app2, settle_vg, settle_pg, sPC_some, low_lst, low_frz, low_val, low_ptr, take_app, take_app0, lt_f, lt_f1, all_nil, all_cons, low_iW, low_sW, len_iW, len_sW, List.take_succ_cons, List.take_zero, List.take_length, true_or, or_true, Bool.and_true, Bool.true_and, true_and, and_true, Nat.lt_irrefl, Nat.add_lt_add_iff_left, Option.map_some, Option.bind_some, decide_true, decide_false, decide_eq_true_eq, eq_self, if_true, if_false, Bool.not_true, Bool.not_false, reduceIte, Bool.false_eq_true, Nat.add_zero, Nat.zero_add, Nat.reduceAdd, Nat.reduceSub, Nat.reduceLeDiff, Nat.reduceLT, Nat.reduceMul, Nat.reducePow, ofS_inj, sizeLine, String.reduceEq, String.reduceNe, Int.reduceAdd, Int.reduceSub, Int.reduceMul, Int.reduceNeg, Int.reduceLE, Int.reduceLT, Int.reduceEq, Nat.add_assoc, e1], hp1, by omega, by omega⟩
    · exact ⟨m - 1, p1, fun T => by simp only [u_Ldraw_number, d_Ldraw_number, ev_rd, ev_addI, ev_subI, ev_ltI, ev_leI, ev_gtI, ev_geI, ev_eqI, ev_neI, ev_eqS, ev_neS, ev_negI, ev_absI, ev_intI, ev_intB, ev_nx, ev_rt, ev_bk, ev_ct, ev_bind, ev_st, ev_seq, ev_next, ev_brk, ev_cnt, ev_kIf1, ev_kIf0, ev_if, ev_kRt, ev_ret, ev_retN, ev_kSet, ev_set, ev_kDrop, ev_drop, ev_kVar, ev_var, ev_c, ev_k2, ev_d2, ev_d1, ev_nil, ev_kCons2, ev_kCons, ev_cons, ev_call, ev_kIsB, ev_isB, ev_kAnd1, ev_kAnd0, ev_and, ev_kOr1, ev_kOr0, ev_or, ev_kNot, ev_not, ev_kAndV1, ev_kAndV0, ev_andV, ev_kOrV1, ev_kOrV0, ev_orV, ev_kNotV, ev_notV, ev_kIfE1, ev_kIfE0, ev_ifE, ev_kCh31, ev_kCh30, ev_kCh2, ev_kCh1, ev_chain, ev_tmp, ev_kFunN, ev_kFunR, ev_fun, ev_env, ev_iter, ev_kFor, ev_for, ev_kLc, ev_lc, ev_rng, ev_no, ev_kPart, ev_part, ev_kSl1, ev_kSl, ev_sl, ev_kMeth0S, ev_meth0, ev_kMethS, ev_meth, ev_rdC, ev_rdP, ev_lvwC, ev_lvw, ev_lvwR, ev_lvwL, ev_tvwR, ev_tvwT, ev_svwR, ev_svwT, ev_svwC, ev_svw, ev_kOk, ev_kOkD, ev_ixC, ev_ix, ev_ixRls, ev_ixTup, ev_at0, ev_at1, ev_at2, ev_at3, ev_lenC, ev_len, ev_lenRls, ev_lenTup, ev_addC, ev_add, ev_appC, ev_app, ev_mthC, ev_mth, ev_mth0C, ev_mth0, ev_itC, ev_it, ev_itR, ev_itT, ev_itS, ev_vals0, ev_vals1, ev_frzV, ev_frzC, ev_frzCf, ev_frz, ev_frzK, ev_frzA0, ev_frzAv, ev_frzAp, ev_kMkT2, ev_kMkT, ev_mkT, ev_rdF, ev_map0, ev_map1, ev_omap, ev_kF2n, ev_kF2c, ev_kF2b, ev_kF2r, ev_kF1, ev_F1, ev_F0, ev_F1c, ev_F0c, ev_gnm, ev_gnil, ev_kGc, ev_gcons, ev_gtup, ev_kC4, ev_kC3, ev_kC21, ev_kC20, ev_kC1, ev_C1, ev_C0, ev_C1c, ev_C0c, ev_yes, ev_wipe0, ev_wipe1, ev_mkLi, ev_lsxC, ev_lsxD, ev_lsx, ev_lsxR, ev_lsxL, ev_lsxT, ev_kOkT, ev_tupC, ev_tup, ev_tupR, ev_tupL, ev_tupT, ev_tvwL, ev_svwL, ev_ixL, ev_lenL, ev_itL, ev_callK, ev_kCK, ev_kCK2, ev_permL, ev_kIsi, ev_isi, ev_tyI, ev_tyB, ev_tyS, ev_tyN, ev_tyT, ev_tyL, ev_tyR, ev_kit1, ev_kit2, ev_kit3, ev_kit4, ev_kit5, ev_kit6, ev_kit7, ev_eqIL, ev_eqPRC, ev_eqPR, ev_eqPL, ev_int0, ev_int1, ev_kSum, ev_sum, ev_kAllB, ev_all, ev_bl0, ev_bl1, ev_kRev, ev_rev, ev_slC, ev_slP, ev_slR, ev_pop, ev_kOrS, ev_kOrSs, ev_orS, ev_kPut2, ev_kPut1, ev_putL, ev_putN, ev_putC, ev_putCd, ev_kPut3, ev_kPut3s, ev_kPd2, ev_kPd1, ev_putD, ev_pdC, ev_kPd3S, ev_kPd3I, ev_kKG1, ev_kget, ev_kKG2, ev_nc0, ev_nc1, ev_ncn, ev_while, ev_niC, ev_inC, ev_signs, ev_itMk, ev_eqB, ev_inC2, ev_inP, ev_kIn, ev_kNi, ev_inPP, ev_niPP, ev_inT, ev_niT, ev_kPc3, ev_kPc2, ev_kPc1, ev_pc, ev_dispC, ev_kDisp, ev_disp, ev_keys0, ev_keysS, ev_merge, ev_g3C, ev_kG3, ev_kG2, ev_g1C, ev_kG1, ev_get2, ev_rng1, str_cW, len_rngW, BEq.rfl, beq_self_eq_true, low_dic, List.any_cons, List.any_nil, Bool.or_false, Bool.false_or, Bool.true_or, Bool.or_true, Sum.inr.injEq, Sum.inl.injEq, low_bW, low_cW, len_bW, len_cW, bls_bW, iW_n, sW_n, List.length_singleton, at_iW, ix_last, set_iW, pop_iW, int_iW, str_sW, List.map_cons, List.map_nil, List.length_cons, List.length_nil, List.cons_append, List.nil_append, List.append_assoc, List.getElem?_cons_zero, List.getElem?_cons_succ, List.set_cons_zero, List.set_cons_succ, List.replicate_zero, List.replicate_succ, List.append_nil, List.filterMap_cons, List.filterMap_nil, and_self, List.length_append, List.length_set, st_at0, st_at, st_set0, st_set, settle_v0, settle_v, cl_nil, cl_cons, cl_self, cl_app, cl_app2, settle_vg, settle_pg, sPC_some, low_lst, low_frz, low_val, low_ptr, take_app, take_app0, lt_f, lt_f1, all_nil, all_cons, low_iW, low_sW, len_iW, len_sW, List.take_succ_cons, List.take_zero, List.take_length, true_or, or_true, Bool.and_true, Bool.true_and, true_and, and_true, Nat.lt_irrefl, Nat.add_lt_add_iff_left, Option.map_some, Option.bind_some, decide_true, decide_false, decide_eq_true_eq, eq_self, if_true, if_false, Bool.not_true, Bool.not_false, reduceIte, Bool.false_eq_true, Nat.add_zero, Nat.zero_add, Nat.reduceAdd, Nat.reduceSub, Nat.reduceLeDiff, Nat.reduceLT, Nat.reduceMul, Nat.reducePow, ofS_inj, sizeLine, String.reduceEq, String.reduceNe, Int.reduceAdd, Int.reduceSub, Int.reduceMul, Int.reduceNeg, Int.reduceLE, Int.reduceLT, Int.reduceEq, Nat.add_assoc, e1], hp1, by omega, by omega⟩
  · exact ⟨d, p2, fun T => by simp only [u_Ldraw_number, d_Ldraw_number, ev_rd, ev_addI, ev_subI, ev_ltI, ev_leI, ev_gtI, ev_geI, ev_eqI, ev_neI, ev_eqS, ev_neS, ev_negI, ev_absI, ev_intI, ev_intB, ev_nx, ev_rt, ev_bk, ev_ct, ev_bind, ev_st, ev_seq, ev_next, ev_brk, ev_cnt, ev_kIf1, ev_kIf0, ev_if, ev_kRt, ev_ret, ev_retN, ev_kSet, ev_set, ev_kDrop, ev_drop, ev_kVar, ev_var, ev_c, ev_k2, ev_d2, ev_d1, ev_nil, ev_kCons2, ev_kCons, ev_cons, ev_call, ev_kIsB, ev_isB, ev_kAnd1, ev_kAnd0, ev_and, ev_kOr1, ev_kOr0, ev_or, ev_kNot, ev_not, ev_kAndV1, ev_kAndV0, ev_andV, ev_kOrV1, ev_kOrV0, ev_orV, ev_kNotV, ev_notV, ev_kIfE1, ev_kIfE0, ev_ifE, ev_kCh31, ev_kCh30, ev_kCh2, ev_kCh1, ev_chain, ev_tmp, ev_kFunN, ev_kFunR, ev_fun, ev_env, ev_iter, ev_kFor, ev_for, ev_kLc, ev_lc, ev_rng, ev_no, ev_kPart, ev_part, ev_kSl1, ev_kSl, ev_sl, ev_kMeth0S, ev_meth0, ev_kMethS, ev_meth, ev_rdC, ev_rdP, ev_lvwC, ev_lvw, ev_lvwR, ev_lvwL, ev_tvwR, ev_tvwT, ev_svwR, ev_svwT, ev_svwC, ev_svw, ev_kOk, ev_kOkD, ev_ixC, ev_ix, ev_ixRls, ev_ixTup, ev_at0, ev_at1, ev_at2, ev_at3, ev_lenC, ev_len, ev_lenRls, ev_lenTup, ev_addC, ev_add, ev_appC, ev_app, ev_mthC, ev_mth, ev_mth0C, ev_mth0, ev_itC, ev_it, ev_itR, ev_itT, ev_itS, ev_vals0, ev_vals1, ev_frzV, ev_frzC, ev_frzCf, ev_frz, ev_frzK, ev_frzA0, ev_frzAv, ev_frzAp, ev_kMkT2, ev_kMkT, ev_mkT, ev_rdF, ev_map0, ev_map1, ev_omap, ev_kF2n, ev_kF2c, ev_kF2b, ev_kF2r, ev_kF1, ev_F1, ev_F0, ev_F1c, ev_F0c, ev_gnm, ev_gnil, ev_kGc, ev_gcons, ev_gtup, ev_kC4, ev_kC3, ev_kC21, ev_kC20, ev_kC1, ev_C1, ev_C0, ev_C1c, ev_C0c, ev_yes, ev_wipe0, ev_wipe1, ev_mkLi, ev_lsxC, ev_lsxD, ev_lsx, ev_lsxR, ev_lsxL, ev_lsxT, ev_kOkT, ev_tupC, ev_tup, ev_tupR, ev_tupL, ev_tupT, ev_tvwL, ev_svwL, ev_ixL, ev_lenL, ev_itL, ev_callK, ev_kCK, ev_kCK2, ev_permL, ev_kIsi, ev_isi, ev_tyI, ev_tyB, ev_tyS, ev_tyN, ev_tyT, ev_tyL, ev_tyR, ev_kit1, ev_kit2, ev_kit3, ev_kit4, ev_kit5, ev_kit6, ev_kit7, ev_eqIL, ev_eqPRC, ev_eqPR, ev_eqPL, ev_int0, ev_int1, ev_kSum, ev_sum, ev_kAllB, ev_all, ev_bl0, ev_bl1, ev_kRev, ev_rev, ev_slC, ev_slP, ev_slR, ev_pop, ev_kOrS, ev_kOrSs, ev_orS, ev_kPut2, ev_kPut1, ev_putL, ev_putN, ev_putC, ev_putCd, ev_kPut3, ev_kPut3s, ev_kPd2, ev_kPd1, ev_putD, ev_pdC, ev_kPd3S, ev_kPd3I, ev_kKG1, ev_kget, ev_kKG2, ev_nc0, ev_nc1, ev_ncn, ev_while, ev_niC, ev_inC, ev_signs, ev_itMk, ev_eqB, ev_inC2, ev_inP, ev_kIn, ev_kNi, ev_inPP, ev_niPP, ev_inT, ev_niT, ev_kPc3, ev_kPc2, ev_kPc1, ev_pc, ev_dispC, ev_kDisp, ev_disp, ev_keys0, ev_keysS, ev_merge, ev_g3C, ev_kG3, ev_kG2, ev_g1C, ev_kG1, ev_get2, ev_rng1, str_cW, len_rngW, BEq.rfl, beq_self_eq_true, low_dic, List.any_cons, List.any_nil, Bool.or_false, Bool.false_or, Bool.true_or, Bool.or_true, Sum.inr.injEq, Sum.inl.injEq, low_bW, low_cW, len_bW, len_cW, bls_bW, iW_n, sW_n, List.length_singleton, at_iW, ix_last, set_iW, pop_iW, int_iW, str_sW, List.map_cons, List.map_nil, List.length_cons, List.length_nil, List.cons_append, List.nil_append, List.append_assoc, List.getElem?_cons_zero, List.getElem?_cons_succ, List.set_cons_zero, List.set_cons_succ, List.replicate_zero, List.replicate_succ, List.append_nil, List.filterMap_cons, List.filterMap_nil, and_self, List.length_append, List.length_set, st_at0, st_at, st_set0, st_set, settle_v0, settle_v, cl_nil, cl_cons, cl_self, cl_app, cl_app2, settle_vg, settle_pg, sPC_some, low_lst, low_frz, low_val, low_ptr, take_app, take_app0, lt_f, lt_f1, all_nil, all_cons, low_iW, low_sW, len_iW, len_sW, List.take_succ_cons, List.take_zero, List.take_length, true_or, or_true, Bool.and_true, Bool.true_and, true_and, and_true, Nat.lt_irrefl, Nat.add_lt_add_iff_left, Option.map_some, Option.bind_some, decide_true, decide_false, decide_eq_true_eq, eq_self, if_true, if_false, Bool.not_true, Bool.not_false, reduceIte, Bool.false_eq_true, Nat.add_zero, Nat.zero_add, Nat.reduceAdd, Nat.reduceSub, Nat.reduceLeDiff, Nat.reduceLT, Nat.reduceMul, Nat.reducePow, ofS_inj, sizeLine, String.reduceEq, String.reduceNe, Int.reduceAdd, Int.reduceSub, Int.reduceMul, Int.reduceNeg, Int.reduceLE, Int.reduceLT, Int.reduceEq, Nat.add_assoc, e1, e2, c], hp2, by omega, by omega⟩
/-! ### the pool itself -/
def absI (i : Int) : Int := if i < 0 then -i else i
def pcells (ns : List Int) : List Int := ns.map absI
def pmany (ns : List Int) : Int := 1 + ((pcells ns).map (· % 1009)).sum
theorem pw1 {M : Store} : gPow (.val (.int 31415926535897932384626433832795028841971693993751)) (.val (.int 12)) M = .ok (.val (.int (31415926535897932384626433832795028841971693993751 ^ 12))) M := ev_powI (by decide +kernel) (by decide +kernel)
theorem pw2 {M : Store} : gPow (.val (.int 10)) (.val (.int 60)) M = .ok (.val (.int (10 ^ 60))) M := ev_powI (by decide +kernel) (by decide +kernel)
theorem pw3 {M : Store} : gPow (.val (.int (10 ^ 60))) (.val (.int 9)) M = .ok (.val (.int ((10 ^ 60) ^ 9))) M := ev_powI (by decide +kernel) (by decide +kernel)
theorem sum_bound (g : Int → Int) (hg : ∀ x, 0 ≤ g x ∧ g x < 1009) : ∀ l : List Int, 0 ≤ (l.map g).sum ∧ (l.map g).sum ≤ 1009 * l.length
  | [] => by simp
  | a :: l => by
    have := sum_bound g hg l
    have := hg a
    simp only [List.map_cons, List.sum_cons, List.length_cons]
    omega
theorem pool_ok (ns : List Int) (h : ns.length ≤ 63) : ∃ p, m_Lpool [scriptD ns] [] = .ok (.ptr 0) [.lst (iW p)] ∧ Gp p := by
  have hd : cutL ((ns.map D.int).map W.val) none (some 63) = iW ns := by
    unfold cutL
    rw [HT.sIx_none]
    have : HT.sIx ((ns.map D.int).map W.val).length ((ns.map D.int).map W.val).length (some 63) = ns.length := by
      rw [show (some 63 : Option Int) = some ((63 : Nat) : Int) from rfl, HT.sIx_nat]
      simp
      omega
    rw [this]
    simp [iW, Function.comp_def, List.take_of_length_le]
  have e1 := comp_ints [.lst (iW ns)] (.cell 0 (iW ns)) (dTmp (dCall gAbs (dCons (dCall gInt (dCons (dVar 4) dNil)) dNil))) 4 [some (.val (.rls (ns.map .int))), none, none, none, none] absI (fun acc => rfl) (fun z acc => by
    simp only [ev_rd, ev_addI, ev_subI, ev_ltI, ev_leI, ev_gtI, ev_geI, ev_eqI, ev_neI, ev_eqS, ev_neS, ev_negI, ev_absI, ev_intI, ev_intB, ev_nx, ev_rt, ev_bk, ev_ct, ev_bind, ev_st, ev_seq, ev_next, ev_brk, ev_cnt, ev_kIf1, ev_kIf0, ev_if, ev_kRt, ev_ret, ev_retN, ev_kSet, ev_set, ev_kDrop, ev_drop, ev_kVar, ev_var, ev_c, ev_k2, ev_d2, ev_d1, ev_nil, ev_kCons2, ev_kCons, ev_cons, ev_call, ev_kIsB, ev_isB, ev_kAnd1, ev_kAnd0, ev_and, ev_kOr1, ev_kOr0, ev_or, ev_kNot, ev_not, ev_kAndV1, ev_kAndV0, ev_andV, ev_kOrV1, ev_kOrV0, ev_orV, ev_kNotV, ev_notV, ev_kIfE1, ev_kIfE0, ev_ifE, ev_kCh31, ev_kCh30, ev_kCh2, ev_kCh1, ev_chain, ev_tmp, ev_kFunN, ev_kFunR, ev_fun, ev_env, ev_iter, ev_kFor, ev_for, ev_kLc, ev_lc, ev_rng, ev_no, ev_kPart, ev_part, ev_kSl1, ev_kSl, ev_sl, ev_kMeth0S, ev_meth0, ev_kMethS, ev_meth, ev_rdC, ev_rdP, ev_lvwC, ev_lvw, ev_lvwR, ev_lvwL, ev_tvwR, ev_tvwT, ev_svwR, ev_svwT, ev_svwC, ev_svw, ev_kOk, ev_kOkD, ev_ixC, ev_ix, ev_ixRls, ev_ixTup, ev_at0, ev_at1, ev_at2, ev_at3, ev_lenC, ev_len, ev_lenRls, ev_lenTup, ev_addC, ev_add, ev_appC, ev_app, ev_mthC, ev_mth, ev_mth0C, ev_mth0, ev_itC, ev_it, ev_itR, ev_itT, ev_itS, ev_vals0, ev_vals1, ev_frzV, ev_frzC, ev_frzCf, ev_frz, ev_frzK, ev_frzA0, ev_frzAv, ev_frzAp, ev_kMkT2, ev_kMkT, ev_mkT, ev_rdF, ev_map0, ev_map1, ev_omap, ev_kF2n, ev_kF2c, ev_kF2b, ev_kF2r, ev_kF1, ev_F1, ev_F0, ev_F1c, ev_F0c, ev_gnm, ev_gnil, ev_kGc, ev_gcons, ev_gtup, ev_kC4, ev_kC3, ev_kC21, ev_kC20, ev_kC1, ev_C1, ev_C0, ev_C1c, ev_C0c, ev_yes, ev_wipe0, ev_wipe1, ev_mkLi, ev_lsxC, ev_lsxD, ev_lsx, ev_lsxR, ev_lsxL, ev_lsxT, ev_kOkT, ev_tupC, ev_tup, ev_tupR, ev_tupL, ev_tupT, ev_tvwL, ev_svwL, ev_ixL, ev_lenL, ev_itL, ev_callK, ev_kCK, ev_kCK2, ev_permL, ev_kIsi, ev_isi, ev_tyI, ev_tyB, ev_tyS, ev_tyN, ev_tyT, ev_tyL, ev_tyR, ev_kit1, ev_kit2, ev_kit3, ev_kit4, ev_kit5, ev_kit6, ev_kit7, ev_eqIL, ev_eqPRC, ev_eqPR, ev_eqPL, ev_int0, ev_int1, ev_kSum, ev_sum, ev_kAllB, ev_all, ev_bl0, ev_bl1, ev_kRev, ev_rev, ev_slC, ev_slP, ev_slR, ev_pop, ev_kOrS, ev_kOrSs, ev_orS, ev_kPut2, ev_kPut1, ev_putL, ev_putN, ev_putC, ev_putCd, ev_kPut3, ev_kPut3s, ev_kPd2, ev_kPd1, ev_putD, ev_pdC, ev_kPd3S, ev_kPd3I, ev_kKG1, ev_kget, ev_kKG2, ev_nc0, ev_nc1, ev_ncn, ev_while, ev_niC, ev_inC, ev_signs, ev_itMk, ev_eqB, ev_inC2, ev_inP, ev_kIn, ev_kNi, ev_inPP, ev_niPP, ev_inT, ev_niT, ev_kPc3, ev_kPc2, ev_kPc1, ev_pc, ev_dispC, ev_kDisp, ev_disp, ev_keys0, ev_keysS, ev_merge, ev_g3C, ev_kG3, ev_kG2, ev_g1C, ev_kG1, ev_get2, ev_rng1, str_cW, len_rngW, BEq.rfl, beq_self_eq_true, low_dic, List.any_cons, List.any_nil, Bool.or_false, Bool.false_or, Bool.true_or, Bool.or_true, Sum.inr.injEq, Sum.inl.injEq, low_bW, low_cW, len_bW, len_cW, bls_bW, iW_n, sW_n, List.length_singleton, at_iW, ix_last, set_iW, pop_iW, int_iW, str_sW, List.map_cons, List.map_nil, List.length_cons, List.length_nil, List.cons_append, List.nil_append, List.append_assoc, List.getElem?_cons_zero, List.getElem?_cons_succ, List.set_cons_zero, List.set_cons_succ, List.replicate_zero, List.replicate_succ, List.append_nil, List.filterMap_cons, List.filterMap_nil, and_self, List.length_append, List.length_set, st_at0, st_at, st_set0, st_set, settle_v0, settle_v, cl_nil, cl_cons, cl_self, cl_app, cl_app2, settle_vg, settle_pg, sPC_some, low_lst, low_frz, low_val, low_ptr, take_app, take_app0, lt_f, lt_f1, all_nil, all_cons, low_iW, low_sW, len_iW, len_sW, List.take_succ_cons, List.take_zero, List.take_length, true_or, or_true, Bool.and_true, Bool.true_and, true_and, and_true, Nat.lt_irrefl, Nat.add_lt_add_iff_left, Option.map_some, Option.bind_some, decide_true, decide_false, decide_eq_true_eq, eq_self, if_true, if_false, Bool.not_true, Bool.not_false, reduceIte, Bool.false_eq_true, Nat.add_zero, Nat.zero_add, Nat.reduceAdd, Nat.reduceSub, Nat.reduceLeDiff, Nat.reduceLT, Nat.reduceMul, Nat.reducePow, ofS_inj, sizeLine, String.reduceEq, String.reduceNe, Int.reduceAdd, Int.reduceSub, Int.reduceMul, Int.reduceNeg, Int.reduceLE, Int.reduceLT, Int.reduceEq, Nat.add_assoc]; rfl) ns [] (by simp [sizeLine]; omega)
  have e2 := fun S => comp_ints (S ++ [.lst (iW (pcells ns))]) (.cell S.length (iW (pcells ns))) (d2 gMod (dVar 4) (dC (.int 1009))) 4 [some (.val (.rls (ns.map .int))), some (.ptr S.length), none, none, none] (· % 1009) (fun acc => by show ((S ++ [_]) ++ [_])[S.length]? = _; simp) (fun z acc => by
    simp only [ev_rd, ev_addI, ev_subI, ev_ltI, ev_leI, ev_gtI, ev_geI, ev_eqI, ev_neI, ev_eqS, ev_neS, ev_negI, ev_absI, ev_intI, ev_intB, ev_nx, ev_rt, ev_bk, ev_ct, ev_bind, ev_st, ev_seq, ev_next, ev_brk, ev_cnt, ev_kIf1, ev_kIf0, ev_if, ev_kRt, ev_ret, ev_retN, ev_kSet, ev_set, ev_kDrop, ev_drop, ev_kVar, ev_var, ev_c, ev_k2, ev_d2, ev_d1, ev_nil, ev_kCons2, ev_kCons, ev_cons, ev_call, ev_kIsB, ev_isB, ev_kAnd1, ev_kAnd0, ev_and, ev_kOr1, ev_kOr0, ev_or, ev_kNot, ev_not, ev_kAndV1, ev_kAndV0, ev_andV, ev_kOrV1, ev_kOrV0, ev_orV, ev_kNotV, ev_notV, ev_kIfE1, ev_kIfE0, ev_ifE, ev_kCh31, ev_kCh30, ev_kCh2, ev_kCh1, ev_chain, ev_tmp, ev_kFunN, ev_kFunR, ev_fun, ev_env, ev_iter, ev_kFor, ev_for, ev_kLc, ev_lc, ev_rng, ev_no, ev_kPart, ev_part, ev_kSl1, ev_kSl, ev_sl, ev_kMeth0S, ev_meth0, ev_kMethS, ev_meth, ev_rdC, ev_rdP, ev_lvwC, ev_lvw, ev_lvwR, ev_lvwL, ev_tvwR, ev_tvwT, ev_svwR, ev_svwT, ev_svwC, ev_svw, ev_kOk, ev_kOkD, ev_ixC, ev_ix, ev_ixRls, ev_ixTup, ev_at0, ev_at1, ev_at2, ev_at3, ev_lenC, ev_len, ev_lenRls, ev_lenTup, ev_addC, ev_add, ev_appC, ev_app, ev_mthC, ev_mth, ev_mth0C, ev_mth0, ev_itC, ev_it, ev_itR, ev_itT, ev_itS, ev_vals0, ev_vals1, ev_frzV, ev_frzC, ev_frzCf, ev_frz, ev_frzK, ev_frzA0, ev_frzAv, ev_frzAp, ev_kMkT2, ev_kMkT, ev_mkT, ev_rdF, ev_map0, ev_map1, ev_omap, ev_kF2n, ev_kF2c, ev_kF2b, ev_kF2r, ev_kF1, ev_F1, ev_F0, ev_F1c, ev_F0c, ev_gnm, ev_gnil, ev_kGc, ev_gcons, ev_gtup, ev_kC4, ev_kC3, ev_kC21, ev_kC20, ev_kC1, ev_C1, ev_C0, ev_C1c, ev_C0c, ev_yes, ev_wipe0, ev_wipe1, ev_mkLi, ev_lsxC, ev_lsxD, ev_lsx, ev_lsxR, ev_lsxL, ev_lsxT, ev_kOkT, ev_tupC, ev_tup, ev_tupR, ev_tupL, ev_tupT, ev_tvwL, ev_svwL, ev_ixL, ev_lenL, ev_itL, ev_callK, ev_kCK, ev_kCK2, ev_permL, ev_kIsi, ev_isi, ev_tyI, ev_tyB, ev_tyS, ev_tyN, ev_tyT, ev_tyL, ev_tyR, ev_kit1, ev_kit2, ev_kit3, ev_kit4, ev_kit5, ev_kit6, ev_kit7, ev_eqIL, ev_eqPRC, ev_eqPR, ev_eqPL, ev_int0, ev_int1, ev_kSum, ev_sum, ev_kAllB, ev_all, ev_bl0, ev_bl1, ev_kRev, ev_rev, ev_slC, ev_slP, ev_slR, ev_pop, ev_kOrS, ev_kOrSs, ev_orS, ev_kPut2, ev_kPut1, ev_putL, ev_putN, ev_putC, ev_putCd, ev_kPut3, ev_kPut3s, ev_kPd2, ev_kPd1, ev_putD, ev_pdC, ev_kPd3S, ev_kPd3I, ev_kKG1, ev_kget, ev_kKG2, ev_nc0, ev_nc1, ev_ncn, ev_while, ev_niC, ev_inC, ev_signs, ev_itMk, ev_eqB, ev_inC2, ev_inP, ev_kIn, ev_kNi, ev_inPP, ev_niPP, ev_inT, ev_niT, ev_kPc3, ev_kPc2, ev_kPc1, ev_pc, ev_dispC, ev_kDisp, ev_disp, ev_keys0, ev_keysS, ev_merge, ev_g3C, ev_kG3, ev_kG2, ev_g1C, ev_kG1, ev_get2, ev_rng1, str_cW, len_rngW, BEq.rfl, beq_self_eq_true, low_dic, List.any_cons, List.any_nil, Bool.or_false, Bool.false_or, Bool.true_or, Bool.or_true, Sum.inr.injEq, Sum.inl.injEq, low_bW, low_cW, len_bW, len_cW, bls_bW, iW_n, sW_n, List.length_singleton, at_iW, ix_last, set_iW, pop_iW, int_iW, str_sW, List.map_cons, List.map_nil, List.length_cons, List.length_nil, List.cons_append, List.nil_append, List.append_assoc, List.getElem?_cons_zero, List.getElem?_cons_succ, List.set_cons_zero, List.set_cons_succ, List.replicate_zero, List.replicate_succ, List.append_nil, List.filterMap_cons, List.filterMap_nil, and_self, List.length_append, List.length_set, st_at0, st_at, st_set0, st_set, settle_v0, settle_v, cl_nil, cl_cons, cl_self, cl_app, cl_app2, settle_vg, settle_pg, sPC_some, low_lst, low_frz, low_val, low_ptr, take_app, take_app0, lt_f, lt_f1, all_nil, all_cons, low_iW, low_sW, len_iW, len_sW, List.take_succ_cons, List.take_zero, List.take_length, true_or, or_true, Bool.and_true, Bool.true_and, true_and, and_true, Nat.lt_irrefl, Nat.add_lt_add_iff_left, Option.map_some, Option.bind_some, decide_true, decide_false, decide_eq_true_eq, eq_self, if_true, if_false, Bool.not_true, Bool.not_false, reduceIte, Bool.false_eq_true, Nat.add_zero, Nat.zero_add, Nat.reduceAdd, Nat.reduceSub, Nat.reduceLeDiff, Nat.reduceLT, Nat.reduceMul, Nat.reducePow, ofS_inj, sizeLine, String.reduceEq, String.reduceNe, Int.reduceAdd, Int.reduceSub, Int.reduceMul, Int.reduceNeg, Int.reduceLE, Int.reduceLT, Int.reduceEq, Nat.add_assoc, ev_modI (show (0 : Int) < 1009 by decide)]) (pcells ns) [] (by simp [sizeLine, pcells]; omega)
  have e3 := fun S => comp_ints (S ++ [.lst (iW (pcells ns).reverse)]) (.cell S.length (iW (pcells ns).reverse)) (d2 gMod (dVar 4) (d2 gPow (d2 gPow (dC (.int 10)) (dC (.int 60))) (dC (.int 9)))) 4 [some (.val (.rls (ns.map .int))), some (.ptr 1), some (.val (.int (pmany ns))), some (.val (.int (31415926535897932384626433832795028841971693993751 ^ 12))), none] (· % (10 ^ 60) ^ 9) (fun acc => by show ((S ++ [_]) ++ [_])[S.length]? = _; simp) (fun z acc => by
    simp only [ev_rd, ev_addI, ev_subI, ev_ltI, ev_leI, ev_gtI, ev_geI, ev_eqI, ev_neI, ev_eqS, ev_neS, ev_negI, ev_absI, ev_intI, ev_intB, ev_nx, ev_rt, ev_bk, ev_ct, ev_bind, ev_st, ev_seq, ev_next, ev_brk, ev_cnt, ev_kIf1, ev_kIf0, ev_if, ev_kRt, ev_ret, ev_retN, ev_kSet, ev_set, ev_kDrop, ev_drop, ev_kVar, ev_var, ev_c, ev_k2, ev_d2, ev_d1, ev_nil, ev_kCons2, ev_kCons, ev_cons, ev_call, ev_kIsB, ev_isB, ev_kAnd1, ev_kAnd0, ev_and, ev_kOr1, ev_kOr0, ev_or, ev_kNot, ev_not, ev_kAndV1, ev_kAndV0, ev_andV, ev_kOrV1, ev_kOrV0, ev_orV, ev_kNotV, ev_notV, ev_kIfE1, ev_kIfE0, ev_ifE, ev_kCh31, ev_kCh30, ev_kCh2, ev_kCh1, ev_chain, ev_tmp, ev_kFunN, ev_kFunR, ev_fun, ev_env, ev_iter, ev_kFor, ev_for, ev_kLc, ev_lc, ev_rng, ev_no, ev_kPart, ev_part, ev_kSl1, ev_kSl, ev_sl, ev_kMeth0S, ev_meth0, ev_kMethS, ev_meth, ev_rdC, ev_rdP, ev_lvwC, ev_lvw, ev_lvwR, ev_lvwL, ev_tvwR, ev_tvwT, ev_svwR, ev_svwT, ev_svwC, ev_svw, ev_kOk, ev_kOkD, ev_ixC, ev_ix, ev_ixRls, ev_ixTup, ev_at0, ev_at1, ev_at2, ev_at3, ev_lenC, ev_len, ev_lenRls, ev_lenTup, ev_addC, ev_add, ev_appC, ev_app, ev_mthC, ev_mth, ev_mth0C, ev_mth0, ev_itC, ev_it, ev_itR, ev_itT, ev_itS, ev_vals0, ev_vals1, ev_frzV, ev_frzC, ev_frzCf, ev_frz, ev_frzK, ev_frzA0, ev_frzAv, ev_frzAp, ev_kMkT2, ev_kMkT, ev_mkT, ev_rdF, ev_map0, ev_map1, ev_omap, ev_kF2n, ev_kF2c, ev_kF2b, ev_kF2r, ev_kF1, ev_F1, ev_F0, ev_F1c, ev_F0c, ev_gnm, ev_gnil, ev_kGc, ev_gcons, ev_gtup, ev_kC4, ev_kC3, ev_kC21, ev_kC20, ev_kC1, ev_C1, ev_C0, ev_C1c, ev_C0c, ev_yes, ev_wipe0, ev_wipe1, ev_mkLi, ev_lsxC, ev_lsxD, ev_lsx, ev_lsxR, ev_lsxL, ev_lsxT, ev_kOkT, ev_tupC, ev_tup, ev_tupR, ev_tupL, ev_tupT, ev_tvwL, ev_svwL, ev_ixL, ev_lenL, ev_itL, ev_callK, ev_kCK, ev_kCK2, ev_permL, ev_kIsi, ev_isi, ev_tyI, ev_tyB, ev_tyS, ev_tyN, ev_tyT, ev_tyL, ev_tyR, ev_kit1, ev_kit2, ev_kit3, ev_kit4, ev_kit5, ev_kit6, ev_kit7, ev_eqIL, ev_eqPRC, ev_eqPR, ev_eqPL, ev_int0, ev_int1, ev_kSum, ev_sum, ev_kAllB, ev_all, ev_bl0, ev_bl1, ev_kRev, ev_rev, ev_slC, ev_slP, ev_slR, ev_pop, ev_kOrS, ev_kOrSs, ev_orS, ev_kPut2, ev_kPut1, ev_putL, ev_putN, ev_putC, ev_putCd, ev_kPut3, ev_kPut3s, ev_kPd2, ev_kPd1, ev_putD, ev_pdC, ev_kPd3S, ev_kPd3I, ev_kKG1, ev_kget, ev_kKG2, ev_nc0, ev_nc1, ev_ncn, ev_while, ev_niC, ev_inC, ev_signs, ev_itMk, ev_eqB, ev_inC2, ev_inP, ev_kIn, ev_kNi, ev_inPP, ev_niPP, ev_inT, ev_niT, ev_kPc3, ev_kPc2, ev_kPc1, ev_pc, ev_dispC, ev_kDisp, ev_disp, ev_keys0, ev_keysS, ev_merge, ev_g3C, ev_kG3, ev_kG2, ev_g1C, ev_kG1, ev_get2, ev_rng1, str_cW, len_rngW, BEq.rfl, beq_self_eq_true, low_dic, List.any_cons, List.any_nil, Bool.or_false, Bool.false_or, Bool.true_or, Bool.or_true, Sum.inr.injEq, Sum.inl.injEq, low_bW, low_cW, len_bW, len_cW, bls_bW, iW_n, sW_n, List.length_singleton, at_iW, ix_last, set_iW, pop_iW, int_iW, str_sW, List.map_cons, List.map_nil, List.length_cons, List.length_nil, List.cons_append, List.nil_append, List.append_assoc, List.getElem?_cons_zero, List.getElem?_cons_succ, List.set_cons_zero, List.set_cons_succ, List.replicate_zero, List.replicate_succ, List.append_nil, List.filterMap_cons, List.filterMap_nil, and_self, List.length_append, List.length_set, st_at0, st_at, st_set0, st_set, settle_v0, settle_v, cl_nil, cl_cons, cl_self, cl_app, cl_app2, settle_vg, settle_pg, sPC_some, low_lst, low_frz, low_val, low_ptr, take_app, take_app0, lt_f, lt_f1, all_nil, all_cons, low_iW, low_sW, len_iW, len_sW, List.take_succ_cons, List.take_zero, List.take_length, true_or, or_true, Bool.and_true, Bool.true_and, true_and, and_true, Nat.lt_irrefl, Nat.add_lt_add_iff_left, Option.map_some, Option.bind_some, decide_true, decide_false, decide_eq_true_eq, eq_self, if_true, if_false, Bool.not_true, Bool.not_false, reduceIte, Bool.false_eq_true, Nat.add_zero, Nat.zero_add, Nat.reduceAdd, Nat.reduceSub, Nat.reduceLeDiff, Nat.reduceLT, Nat.reduceMul, Nat.reducePow, ofS_inj, sizeLine, String.reduceEq, String.reduceNe, Int.reduceAdd, Int.reduceSub, Int.reduceMul, Int.reduceNeg, Int.reduceLE, Int.reduceLT, Int.reduceEq, Nat.add_assoc, pw2, pw3, ev_modI (show (0 : Int) < (10 ^ 60) ^ 9 by decide +kernel)]) (pcells ns).reverse [] (by simp [sizeLine, pcells]; omega)
  have bm : (31415926535897932384626433832795028841971693993751 ^ 12 : Int).natAbs.log2 + (pmany ns).natAbs.log2 < 1000000 := by
    have h1 : (31415926535897932384626433832795028841971693993751 ^ 12 : Int).natAbs.log2 < 2000 := by decide +kernel
    have h2 := sum_bound (· % 1009) (fun x => ⟨Int.emod_nonneg _ (by decide), Int.emod_lt_of_pos _ (by decide)⟩) (pcells ns)
    have h3 : (pcells ns).length ≤ 63 := by simpa [pcells] using h
    have h4 : Sm (pmany ns) := by unfold pmany Sm; omega
    have := h4.log
    omega
  refine ⟨[31415926535897932384626433832795028841971693993751 ^ 12 * pmany ns] ++ (pcells ns).reverse.map (· % (10 ^ 60) ^ 9), ?_, ?_⟩
  · have hl2 : 1 + (List.map (fun x => x % (10 ^ 60) ^ 9) (pcells ns).reverse).length ≤ 16777216 := by
      simp [pcells]; omega
    have iW_c : ∀ (x : Int) (l : List Int), iW (x :: l) = W.val (.int x) :: iW l := fun _ _ => rfl
    have e2' := e2 [.lst (iW ns)]
    have e3' := e3 [.lst (iW ns), .lst (iW (pcells ns)), .lst [.val (.int (31415926535897932384626433832795028841971693993751 ^ 12 * pmany ns))]]
    have hpc : ns.map absI = pcells ns := rfl
    have hpm : 1 + ((pcells ns).map (· % 1009)).sum = pmany ns := rfl
    simp only [ev_rd, ev_addI, ev_subI, ev_ltI, ev_leI, ev_gtI, ev_geI, ev_eqI, ev_neI, ev_eqS, ev_neS, ev_negI, ev_absI, ev_intI, ev_intB, ev_nx, ev_rt, ev_bk, ev_ct, ev_bind, ev_st, ev_seq, ev_next, ev_brk, ev_cnt, ev_kIf1, ev_kIf0, ev_if, ev_kRt, ev_ret, ev_retN, ev_kSet, ev_set, ev_kDrop, ev_drop, ev_kVar, ev_var, ev_c, ev_k2, ev_d2, ev_d1, ev_nil, ev_kCons2, ev_kCons, ev_cons, ev_call, ev_kIsB, ev_isB, ev_kAnd1, ev_kAnd0, ev_and, ev_kOr1, ev_kOr0, ev_or, ev_kNot, ev_not, ev_kAndV1, ev_kAndV0, ev_andV, ev_kOrV1, ev_kOrV0, ev_orV, ev_kNotV, ev_notV, ev_kIfE1, ev_kIfE0, ev_ifE, ev_kCh31, ev_kCh30, ev_kCh2, ev_kCh1, ev_chain, ev_tmp, ev_kFunN, ev_kFunR, ev_fun, ev_env, ev_iter, ev_kFor, ev_for, ev_kLc, ev_lc, ev_rng, ev_no, ev_kPart, ev_part, ev_kSl1, ev_kSl, ev_sl, ev_kMeth0S, ev_meth0, ev_kMethS, ev_meth, ev_rdC, ev_rdP, ev_lvwC, ev_lvw, ev_lvwR, ev_lvwL, ev_tvwR, ev_tvwT, ev_svwR, ev_svwT, ev_svwC, ev_svw, ev_kOk, ev_kOkD, ev_ixC, ev_ix, ev_ixRls, ev_ixTup, ev_at0, ev_at1, ev_at2, ev_at3, ev_lenC, ev_len, ev_lenRls, ev_lenTup, ev_addC, ev_add, ev_appC, ev_app, ev_mthC, ev_mth, ev_mth0C, ev_mth0, ev_itC, ev_it, ev_itR, ev_itT, ev_itS, ev_vals0, ev_vals1, ev_frzV, ev_frzC, ev_frzCf, ev_frz, ev_frzK, ev_frzA0, ev_frzAv, ev_frzAp, ev_kMkT2, ev_kMkT, ev_mkT, ev_rdF, ev_map0, ev_map1, ev_omap, ev_kF2n, ev_kF2c, ev_kF2b, ev_kF2r, ev_kF1, ev_F1, ev_F0, ev_F1c, ev_F0c, ev_gnm, ev_gnil, ev_kGc, ev_gcons, ev_gtup, ev_kC4, ev_kC3, ev_kC21, ev_kC20, ev_kC1, ev_C1, ev_C0, ev_C1c, ev_C0c, ev_yes, ev_wipe0, ev_wipe1, ev_mkLi, ev_lsxC, ev_lsxD, ev_lsx, ev_lsxR, ev_lsxL, ev_lsxT, ev_kOkT, ev_tupC, ev_tup, ev_tupR, ev_tupL, ev_tupT, ev_tvwL, ev_svwL, ev_ixL, ev_lenL, ev_itL, ev_callK, ev_kCK, ev_kCK2, ev_permL, ev_kIsi, ev_isi, ev_tyI, ev_tyB, ev_tyS, ev_tyN, ev_tyT, ev_tyL, ev_tyR, ev_kit1, ev_kit2, ev_kit3, ev_kit4, ev_kit5, ev_kit6, ev_kit7, ev_eqIL, ev_eqPRC, ev_eqPR, ev_eqPL, ev_int0, ev_int1, ev_kSum, ev_sum, ev_kAllB, ev_all, ev_bl0, ev_bl1, ev_kRev, ev_rev, ev_slC, ev_slP, ev_slR, ev_pop, ev_kOrS, ev_kOrSs, ev_orS, ev_kPut2, ev_kPut1, ev_putL, ev_putN, ev_putC, ev_putCd, ev_kPut3, ev_kPut3s, ev_kPd2, ev_kPd1, ev_putD, ev_pdC, ev_kPd3S, ev_kPd3I, ev_kKG1, ev_kget, ev_kKG2, ev_nc0, ev_nc1, ev_ncn, ev_while, ev_niC, ev_inC, ev_signs, ev_itMk, ev_eqB, ev_inC2, ev_inP, ev_kIn, ev_kNi, ev_inPP, ev_niPP, ev_inT, ev_niT, ev_kPc3, ev_kPc2, ev_kPc1, ev_pc, ev_dispC, ev_kDisp, ev_disp, ev_keys0, ev_keysS, ev_merge, ev_g3C, ev_kG3, ev_kG2, ev_g1C, ev_kG1, ev_get2, ev_rng1, str_cW, len_rngW, BEq.rfl, beq_self_eq_true, low_dic, List.any_cons, List.any_nil, Bool.or_false, Bool.false_or, Bool.true_or, Bool.or_true, Sum.inr.injEq, Sum.inl.injEq, low_bW, low_cW, len_bW, len_cW, bls_bW, iW_n, sW_n, List.length_singleton, at_iW, ix_last, set_iW, pop_iW, int_iW, str_sW, List.map_cons, List.map_nil, List.length_cons, List.length_nil, List.cons_append, List.nil_append, List.append_assoc, List.getElem?_cons_zero, List.getElem?_cons_succ, List.set_cons_zero, List.set_cons_succ, List.replicate_zero, List.replicate_succ, List.append_nil, List.filterMap_cons, List.filterMap_nil, and_self, List.length_append, List.length_set, st_at0, st_at, st_set0, st_set, settle_v0, settle_v, cl_nil, cl_cons, cl_self, cl_app, cl_app2, settle_vg, settle_pg, sPC_some, low_lst, low_frz, low_val, low_ptr, take_app, take_app0, lt_f, lt_f1, all_nil, all_cons, low_iW, low_sW, len_iW, len_sW, List.take_succ_cons, List.take_zero, List.take_length, true_or, or_true, Bool.and_true, Bool.true_and, true_and, and_true, Nat.lt_irrefl, Nat.add_lt_add_iff_left, Option.map_some, Option.bind_some, decide_true, decide_false, decide_eq_true_eq, eq_self, if_true, if_false, Bool.not_true, Bool.not_false, reduceIte, Bool.false_eq_true, Nat.add_zero, Nat.zero_add, Nat.reduceAdd, Nat.reduceSub, Nat.reduceLeDiff, Nat.reduceLT, Nat.reduceMul, Nat.reducePow, ofS_inj, sizeLine, String.reduceEq, String.reduceNe, Int.reduceAdd, Int.reduceSub, Int.reduceMul, Int.reduceNeg, Int.reduceLE, Int.reduceLT, Int.reduceEq, Nat.add_assoc, hpc] at e1 e2' e3'
    simp only [u_Lpool, d_Lpool, e_Lpool_1, e_Lpool_2, e_Lpool_3, scriptD, ev_rd, ev_addI, ev_subI, ev_ltI, ev_leI, ev_gtI, ev_geI, ev_eqI, ev_neI, ev_eqS, ev_neS, ev_negI, ev_absI, ev_intI, ev_intB, ev_nx, ev_rt, ev_bk, ev_ct, ev_bind, ev_st, ev_seq, ev_next, ev_brk, ev_cnt, ev_kIf1, ev_kIf0, ev_if, ev_kRt, ev_ret, ev_retN, ev_kSet, ev_set, ev_kDrop, ev_drop, ev_kVar, ev_var, ev_c, ev_k2, ev_d2, ev_d1, ev_nil, ev_kCons2, ev_kCons, ev_cons, ev_call, ev_kIsB, ev_isB, ev_kAnd1, ev_kAnd0, ev_and, ev_kOr1, ev_kOr0, ev_or, ev_kNot, ev_not, ev_kAndV1, ev_kAndV0, ev_andV, ev_kOrV1, ev_kOrV0, ev_orV, ev_kNotV, ev_notV, ev_kIfE1, ev_kIfE0, ev_ifE, ev_kCh31, ev_kCh30, ev_kCh2, ev_kCh1, ev_chain, ev_tmp, ev_kFunN, ev_kFunR, ev_fun, ev_env, ev_iter, ev_kFor, ev_for, ev_kLc, ev_lc, ev_rng, ev_no, ev_kPart, ev_part, ev_kSl1, ev_kSl, ev_sl, ev_kMeth0S, ev_meth0, ev_kMethS, ev_meth, ev_rdC, ev_rdP, ev_lvwC, ev_lvw, ev_lvwR, ev_lvwL, ev_tvwR, ev_tvwT, ev_svwR, ev_svwT, ev_svwC, ev_svw, ev_kOk, ev_kOkD, ev_ixC, ev_ix, ev_ixRls, ev_ixTup, ev_at0, ev_at1, ev_at2, ev_at3, ev_lenC, ev_len, ev_lenRls, ev_lenTup, ev_addC, ev_add, ev_appC, ev_app, ev_mthC, ev_mth, ev_mth0C, ev_mth0, ev_itC, ev_it, ev_itR, ev_itT, ev_itS, ev_vals0, ev_vals1, ev_frzV, ev_frzC, ev_frzCf, ev_frz, ev_frzK, ev_frzA0, ev_frzAv, ev_frzAp, ev_kMkT2, ev_kMkT, ev_mkT, ev_rdF, ev_map0, ev_map1, ev_omap, ev_kF2n, ev_kF2c, ev_kF2b, ev_kF2r, ev_kF1, ev_F1, ev_F0, ev_F1c, ev_F0c, ev_gnm, ev_gnil, ev_kGc, ev_gcons, ev_gtup, ev_kC4, ev_kC3, ev_kC21, ev_kC20, ev_kC1, ev_C1, ev_C0, ev_C1c, ev_C0c, ev_yes, ev_wipe0, ev_wipe1, ev_mkLi, ev_lsxC, ev_lsxD, ev_lsx, ev_lsxR, ev_lsxL, ev_lsxT, ev_kOkT, ev_tupC, ev_tup, ev_tupR, ev_tupL, ev_tupT, ev_tvwL, ev_svwL, ev_ixL, ev_lenL, ev_itL, ev_callK, ev_kCK, ev_kCK2, ev_permL, ev_kIsi, ev_isi, ev_tyI, ev_tyB, ev_tyS, ev_tyN, ev_tyT, ev_tyL, ev_tyR, ev_kit1, ev_kit2, ev_kit3, ev_kit4, ev_kit5, ev_kit6, ev_kit7, ev_eqIL, ev_eqPRC, ev_eqPR, ev_eqPL, ev_int0, ev_int1, ev_kSum, ev_sum, ev_kAllB, ev_all, ev_bl0, ev_bl1, ev_kRev, ev_rev, ev_slC, ev_slP, ev_slR, ev_pop, ev_kOrS, ev_kOrSs, ev_orS, ev_kPut2, ev_kPut1, ev_putL, ev_putN, ev_putC, ev_putCd, ev_kPut3, ev_kPut3s, ev_kPd2, ev_kPd1, ev_putD, ev_pdC, ev_kPd3S, ev_kPd3I, ev_kKG1, ev_kget, ev_kKG2, ev_nc0, ev_nc1, ev_ncn, ev_while, ev_niC, ev_inC, ev_signs, ev_itMk, ev_eqB, ev_inC2, ev_inP, ev_kIn, ev_kNi, ev_inPP, ev_niPP, ev_inT, ev_niT, ev_kPc3, ev_kPc2, ev_kPc1, ev_pc, ev_dispC, ev_kDisp, ev_disp, ev_keys0, ev_keysS, ev_merge, ev_g3C, ev_kG3, ev_kG2, ev_g1C, ev_kG1, ev_get2, ev_rng1, str_cW, len_rngW, BEq.rfl, beq_self_eq_true, low_dic, List.any_cons, List.any_nil, Bool.or_false, Bool.false_or, Bool.true_or, Bool.or_true, Sum.inr.injEq, Sum.inl.injEq, low_bW, low_cW, len_bW, len_cW, bls_bW, iW_n, sW_n, List.length_singleton, at_iW, ix_last, set_iW, pop_iW, int_iW, str_sW, List.map_cons, List.map_nil, List.length_cons, List.length_nil, List.cons_append, List.nil_append, List.append_assoc, List.getElem?_cons_zero, List.getElem?_cons_succ, List.set_cons_zero, List.set_cons_succ, List.replicate_zero, List.replicate_succ, List.append_nil, List.filterMap_cons, List.filterMap_nil, and_self, List.length_append, List.length_set, st_at0, st_at, st_set0, st_set, settle_v0, settle_v, cl_nil, cl_cons, cl_self, cl_app, cl_app2, settle_vg, settle_pg, sPC_some, low_lst, low_frz, low_val, low_ptr, take_app, take_app0, lt_f, lt_f1, all_nil, all_cons, low_iW, low_sW, len_iW, len_sW, List.take_succ_cons, List.take_zero, List.take_length, true_or, or_true, Bool.and_true, Bool.true_and, true_and, and_true, Nat.lt_irrefl, Nat.add_lt_add_iff_left, Option.map_some, Option.bind_some, decide_true, decide_false, decide_eq_true_eq, eq_self, if_true, if_false, Bool.not_true, Bool.not_false, reduceIte, Bool.false_eq_true, Nat.add_zero, Nat.zero_add, Nat.reduceAdd, Nat.reduceSub, Nat.reduceLeDiff, Nat.reduceLT, Nat.reduceMul, Nat.reducePow, ofS_inj, sizeLine, String.reduceEq, String.reduceNe, Int.reduceAdd, Int.reduceSub, Int.reduceMul, Int.reduceNeg, Int.reduceLE, Int.reduceLT, Int.reduceEq, Nat.add_assoc, hd, e1, hpc, e2', hpm, pw1, ev_mulI bm, e3', iW_rev, hl2, iW_c]
  · refine ⟨by simp, ?_⟩
    simp [pcells]
    omega
end K01
end

section
set_option Elab.async false
set_option linter.all false
set_option maxRecDepth 100000
set_option maxHeartbeats 4000000
namespace K01
open PySem PyProof.Rows L2 Dn
def LET : Str := "abcdefghijklmnopqrstuvwxyz"
def DIG : Str := "0123456789"
def BOTH : Str := LET ++ DIG
variable {M : Store}
theorem both_ok : m_Lboth [] M = .ok (.val (.str BOTH)) M := by
  have e : gAdd (.val (.str LET)) (.val (.str DIG)) M = .ok (.val (.str BOTH)) M := ev_addS (by decide +kernel)
  unfold LET DIG at e
  simp only [u_Lboth, d_Lboth, u_Lletters, d_Lletters, ev_rd, ev_addI, ev_subI, ev_ltI, ev_leI, ev_gtI, ev_geI, ev_eqI, ev_neI, ev_eqS, ev_neS, ev_negI, ev_absI, ev_intI, ev_intB, ev_nx, ev_rt, ev_bk, ev_ct, ev_bind, ev_st, ev_seq, ev_next, ev_brk, ev_cnt, ev_kIf1, ev_kIf0, ev_if, ev_kRt, ev_ret, ev_retN, ev_kSet, ev_set, ev_kDrop, ev_drop, ev_kVar, ev_var, ev_c, ev_k2, ev_d2, ev_d1, ev_nil, ev_kCons2, ev_kCons, ev_cons, ev_call, ev_kIsB, ev_isB, ev_kAnd1, ev_kAnd0, ev_and, ev_kOr1, ev_kOr0, ev_or, ev_kNot, ev_not, ev_kAndV1, ev_kAndV0, ev_andV, ev_kOrV1, ev_kOrV0, ev_orV, ev_kNotV, ev_notV, ev_kIfE1, ev_kIfE0, ev_ifE, ev_kCh31, ev_kCh30, ev_kCh2, ev_kCh1, ev_chain, ev_tmp, ev_kFunN, ev_kFunR, ev_fun, ev_env, ev_iter, ev_kFor, ev_for, ev_kLc, ev_lc, ev_rng, ev_no, ev_kPart, ev_part, ev_kSl1, ev_kSl, ev_sl, ev_kMeth0S, ev_meth0, ev_kMethS, ev_meth, ev_rdC, ev_rdP, ev_lvwC, ev_lvw, ev_lvwR, ev_lvwL, ev_tvwR, ev_tvwT, ev_svwR, ev_svwT, ev_svwC, ev_svw, ev_kOk, ev_kOkD, ev_ixC, ev_ix, ev_ixRls, ev_ixTup, ev_at0, ev_at1, ev_at2, ev_at3, ev_lenC, ev_len, ev_lenRls, ev_lenTup, ev_addC, ev_add, ev_appC, ev_app, ev_mthC, ev_mth, ev_mth0C, ev_mth0, ev_itC, ev_it, ev_itR, ev_itT, ev_itS, ev_vals0, ev_vals1, ev_frzV, ev_frzC, ev_frzCf, ev_frz, ev_frzK, ev_frzA0, ev_frzAv, ev_frzAp, ev_kMkT2, ev_kMkT, ev_mkT, ev_rdF, ev_map0, ev_map1, ev_omap, ev_kF2n, ev_kF2c, ev_kF2b, ev_kF2r, ev_kF1, ev_F1, ev_F0, ev_F1c, ev_F0c, ev_gnm, ev_gnil, ev_kGc, ev_gcons, ev_gtup, ev_kC4, ev_kC3, ev_kC21, ev_kC20, ev_kC1, ev_C1, ev_C0, ev_C1c, ev_C0c, ev_yes, ev_wipe0, ev_wipe1, ev_mkLi, ev_lsxC, ev_lsxD, ev_lsx, ev_lsxR, ev_lsxL, ev_lsxT, ev_kOkT, ev_tupC, ev_tup, ev_tupR, ev_tupL, ev_tupT, ev_tvwL, ev_svwL, ev_ixL, ev_lenL, ev_itL, ev_callK, ev_kCK, ev_kCK2, ev_permL, ev_kIsi, ev_isi, ev_tyI, ev_tyB, ev_tyS, ev_tyN, ev_tyT, ev_tyL, ev_tyR, ev_kit1, ev_kit2, ev_kit3, ev_kit4, ev_kit5, ev_kit6, ev_kit7, ev_eqIL, ev_eqPRC, ev_eqPR, ev_eqPL, ev_int0, ev_int1, ev_kSum, ev_sum, ev_kAllB, ev_all, ev_bl0, ev_bl1, ev_kRev, ev_rev, ev_slC, ev_slP, ev_slR, ev_pop, ev_kOrS, ev_kOrSs, ev_orS, ev_kPut2, ev_kPut1, ev_putL, ev_putN, ev_putC, ev_putCd, ev_kPut3, ev_kPut3s, ev_kPd2, ev_kPd1, ev_putD, ev_pdC, ev_kPd3S, ev_kPd3I, ev_kKG1, ev_kget, ev_kKG2, ev_nc0, ev_nc1, ev_ncn, ev_while, ev_niC, ev_inC, ev_signs, ev_itMk, ev_eqB, ev_inC2, ev_inP, ev_kIn, ev_kNi, ev_inPP, ev_niPP, ev_inT, ev_niT, ev_kPc3, ev_kPc2, ev_kPc1, ev_pc, ev_dispC, ev_kDisp, ev_disp, ev_keys0, ev_keysS, ev_merge, ev_g3C, ev_kG3, ev_kG2, ev_g1C, ev_kG1, ev_get2, ev_rng1, str_cW, len_rngW, BEq.rfl, beq_self_eq_true, low_dic, List.any_cons, List.any_nil, Bool.or_false, Bool.false_or, Bool.true_or, Bool.or_true, Sum.inr.injEq, Sum.inl.injEq, low_bW, low_cW, len_bW, len_cW, bls_bW, iW_n, sW_n, List.length_singleton, at_iW, ix_last, set_iW, pop_iW, int_iW, str_sW, List.map_cons, List.map_nil, List.length_cons, List.length_nil, List.cons_append, List.nil_append, List.append_assoc, List.getElem?_cons_zero, List.getElem?_cons_succ, List.set_cons_zero, List.set_cons_succ, List.replicate_zero, List.replicate_succ, List.append_nil, List.filterMap_cons, List.filterMap_nil, and_self, List.length_append, List.length_set, st_at0, st_at, st_set0, st_set, settle_v0, settle_v, cl_nil, cl_cons, cl_self, cl_app, cl_app2, settle_vg, settle_pg, sPC_some, low_lst, low_frz, low_val, low_ptr, take_app, take_app0, lt_f, lt_f1, all_nil, all_cons, low_iW, low_sW, len_iW, len_sW, List.take_succ_cons, List.take_zero, List.take_length, true_or, or_true, Bool.and_true, Bool.true_and, true_and, and_true, Nat.lt_irrefl, Nat.add_lt_add_iff_left, Option.map_some, Option.bind_some, decide_true, decide_false, decide_eq_true_eq, eq_self, if_true, if_false, Bool.not_true, Bool.not_false, reduceIte, Bool.false_eq_true, Nat.add_zero, Nat.zero_add, Nat.reduceAdd, Nat.reduceSub, Nat.reduceLeDiff, Nat.reduceLT, Nat.reduceMul, Nat.reducePow, ofS_inj, sizeLine, String.reduceEq, String.reduceNe, Int.reduceAdd, Int.reduceSub, Int.reduceMul, Int.reduceNeg, Int.reduceLE, Int.reduceLT, Int.reduceEq, Nat.add_assoc, e]
theorem letters_ok : m_Lletters [] M = .ok (.val (.str LET)) M := by
  simp only [u_Lletters, d_Lletters, ev_rd, ev_addI, ev_subI, ev_ltI, ev_leI, ev_gtI, ev_geI, ev_eqI, ev_neI, ev_eqS, ev_neS, ev_negI, ev_absI, ev_intI, ev_intB, ev_nx, ev_rt, ev_bk, ev_ct, ev_bind, ev_st, ev_seq, ev_next, ev_brk, ev_cnt, ev_kIf1, ev_kIf0, ev_if, ev_kRt, ev_ret, ev_retN, ev_kSet, ev_set, ev_kDrop, ev_drop, ev_kVar, ev_var, ev_c, ev_k2, ev_d2, ev_d1, ev_nil, ev_kCons2, ev_kCons, ev_cons, ev_call, ev_kIsB, ev_isB, ev_kAnd1, ev_kAnd0, ev_and, ev_kOr1, ev_kOr0, ev_or, ev_kNot, ev_not, ev_kAndV1, ev_kAndV0, ev_andV, ev_kOrV1, ev_kOrV0, ev_orV, ev_kNotV, ev_notV, ev_kIfE1, ev_kIfE0, ev_ifE, ev_kCh31, ev_kCh30, ev_kCh2, ev_kCh1, ev_chain, ev_tmp, ev_kFunN, ev_kFunR, ev_fun, ev_env, ev_iter, ev_kFor, ev_for, ev_kLc, ev_lc, ev_rng, ev_no, ev_kPart, ev_part, ev_kSl1, ev_kSl, ev_sl, ev_kMeth0S, ev_meth0, ev_kMethS, ev_meth, ev_rdC, ev_rdP, ev_lvwC, ev_lvw, ev_lvwR, ev_lvwL, ev_tvwR, ev_tvwT, ev_svwR, ev_svwT, ev_svwC, ev_svw, ev_kOk, ev_kOkD, ev_ixC, ev_ix, ev_ixRls, ev_ixTup, ev_at0, ev_at1, ev_at2, ev_at3, ev_lenC, ev_len, ev_lenRls, ev_lenTup, ev_addC, ev_add, ev_appC, ev_app, ev_mthC, ev_mth, ev_mth0C, ev_mth0, ev_itC, ev_it, ev_itR, ev_itT, ev_itS, ev_vals0, ev_vals1, ev_frzV, ev_frzC, ev_frzCf, ev_frz, ev_frzK, ev_frzA0, ev_frzAv, ev_frzAp, ev_kMkT2, ev_kMkT, ev_mkT, ev_rdF, ev_map0, ev_map1, ev_omap, ev_kF2n, ev_kF2c, ev_kF2b, ev_kF2r, ev_kF1, ev_F1, ev_F0, ev_F1c, ev_F0c, ev_gnm, ev_gnil, ev_kGc, ev_gcons, ev_gtup, ev_kC4, ev_kC3, ev_kC21, ev_kC20, ev_kC1, ev_C1, ev_C0, ev_C1c, ev_C0c, ev_yes, ev_wipe0, ev_wipe1, ev_mkLi, ev_lsxC, ev_lsxD, ev_lsx, ev_lsxR, ev_lsxL, ev_lsxT, ev_kOkT, ev_tupC, ev_tup, ev_tupR, ev_tupL, ev_tupT, ev_tvwL, ev_svwL, ev_ixL, ev_lenL, ev_itL, ev_callK, ev_kCK, ev_kCK2, ev_permL, ev_kIsi, ev_isi, ev_tyI, ev_tyB, ev_tyS, ev_tyN, ev_tyT, ev_tyL, ev_tyR, ev_kit1, ev_kit2, ev_kit3, ev_kit4, ev_kit5, ev_kit6, ev_kit7, ev_eqIL, ev_eqPRC, ev_eqPR, ev_eqPL, ev_int0, ev_int1, ev_kSum, ev_sum, ev_kAllB, ev_all, ev_bl0, ev_bl1, ev_kRev, ev_rev, ev_slC, ev_slP, ev_slR, ev_pop, ev_kOrS, ev_kOrSs, ev_orS, ev_kPut2, ev_kPut1, ev_putL, ev_putN, ev_putC, ev_putCd, ev_kPut3, ev_kPut3s, ev_kPd2, ev_kPd1, ev_putD, ev_pdC, ev_kPd3S, ev_kPd3I, ev_kKG1, ev_kget, ev_kKG2, ev_nc0, ev_nc1, ev_ncn, ev_while, ev_niC, ev_inC, ev_signs, ev_itMk, ev_eqB, ev_inC2, ev_inP, ev_kIn, ev_kNi, ev_inPP, ev_niPP, ev_inT, ev_niT, ev_kPc3, ev_kPc2, ev_kPc1, ev_pc, ev_dispC, ev_kDisp, ev_disp, ev_keys0, ev_keysS, ev_merge, ev_g3C, ev_kG3, ev_kG2, ev_g1C, ev_kG1, ev_get2, ev_rng1, str_cW, len_rngW, BEq.rfl, beq_self_eq_true, low_dic, List.any_cons, List.any_nil, Bool.or_false, Bool.false_or, Bool.true_or, Bool.or_true, Sum.inr.injEq, Sum.inl.injEq, low_bW, low_cW, len_bW, len_cW, bls_bW, iW_n, sW_n, List.length_singleton, at_iW, ix_last, set_iW, pop_iW, int_iW, str_sW, List.map_cons, List.map_nil, List.length_cons, List.length_nil, List.cons_append, List.nil_append, List.append_assoc, List.getElem?_cons_zero, List.getElem?_cons_succ, List.set_cons_zero, List.set_cons_succ, List.replicate_zero, List.replicate_succ, List.append_nil, List.filterMap_cons, List.filterMap_nil, and_self, List.length_append, List.length_set, st_at0, st_at, st_set0, st_set, settle_v0, settle_v, cl_nil, cl_cons, cl_self, cl_app, cl_app2, settle_vg, settle_pg, sPC_some, low_lst, low_frz, low_val, low_ptr, take_app, take_app0, lt_f, lt_f1, all_nil, all_cons, low_iW, low_sW, len_iW, len_sW, List.take_succ_cons, List.take_zero, List.take_length, true_or, or_true, Bool.and_true, Bool.true_and, true_and, and_true, Nat.lt_irrefl, Nat.add_lt_add_iff_left, Option.map_some, Option.bind_some, decide_true, decide_false, decide_eq_true_eq, eq_self, if_true, if_false, Bool.not_true, Bool.not_false, reduceIte, Bool.false_eq_true, Nat.add_zero, Nat.zero_add, Nat.reduceAdd, Nat.reduceSub, Nat.reduceLeDiff, Nat.reduceLT, Nat.reduceMul, Nat.reducePow, ofS_inj, sizeLine, String.reduceEq, String.reduceNe, Int.reduceAdd, Int.reduceSub, Int.reduceMul, Int.reduceNeg, Int.reduceLE, Int.reduceLT, Int.reduceEq, Nat.add_assoc, LET]
/-- a word, by its signs -/
def isW (l : List Nat) : Bool := match l with
  | [] => false
  | c :: t => decide (((t.length + 1 : Nat) : Int) ≤ 8) && (memC c LET && (c :: t).all fun d => memC d LET || memC d DIG)
theorem is_word_ok (l : List Nat) (hl : l.length ≤ 16777214) : m_is_word [.val (.str ⟨⟨l⟩⟩)] M = .ok (.val (.bl (isW l))) M := by
  have hl2 : l.length ≤ 16777216 := by omega
  have z1 : c_LETTERS = .str LET := rfl
  have z2 : c_DIGITS = .str DIG := rfl
  cases l with
  | nil => simp only [u_is_word, d_is_word, e_is_word_1, ev_rd, ev_addI, ev_subI, ev_ltI, ev_leI, ev_gtI, ev_geI, ev_eqI, ev_neI, ev_eqS, ev_neS, ev_negI, ev_absI, ev_intI, ev_intB, ev_nx, ev_rt, ev_bk, ev_ct, ev_bind, ev_st, ev_seq, ev_next, ev_brk, ev_cnt, ev_kIf1, ev_kIf0, ev_if, ev_kRt, ev_ret, ev_retN, ev_kSet, ev_set, ev_kDrop, ev_drop, ev_kVar, ev_var, ev_c, ev_k2, ev_d2, ev_d1, ev_nil, ev_kCons2, ev_kCons, ev_cons, ev_call, ev_kIsB, ev_isB, ev_kAnd1, ev_kAnd0, ev_and, ev_kOr1, ev_kOr0, ev_or, ev_kNot, ev_not, ev_kAndV1, ev_kAndV0, ev_andV, ev_kOrV1, ev_kOrV0, ev_orV, ev_kNotV, ev_notV, ev_kIfE1, ev_kIfE0, ev_ifE, ev_kCh31, ev_kCh30, ev_kCh2, ev_kCh1, ev_chain, ev_tmp, ev_kFunN, ev_kFunR, ev_fun, ev_env, ev_iter, ev_kFor, ev_for, ev_kLc, ev_lc, ev_rng, ev_no, ev_kPart, ev_part, ev_kSl1, ev_kSl, ev_sl, ev_kMeth0S, ev_meth0, ev_kMethS, ev_meth, ev_rdC, ev_rdP, ev_lvwC, ev_lvw, ev_lvwR, ev_lvwL, ev_tvwR, ev_tvwT, ev_svwR, ev_svwT, ev_svwC, ev_svw, ev_kOk, ev_kOkD, ev_ixC, ev_ix, ev_ixRls, ev_ixTup, ev_at0, ev_at1, ev_at2, ev_at3, ev_lenC, ev_len, ev_lenRls, ev_lenTup, ev_addC, ev_add, ev_appC, ev_app, ev_mthC, ev_mth, ev_mth0C, ev_mth0, ev_itC, ev_it, ev_itR, ev_itT, ev_itS, ev_vals0, ev_vals1, ev_frzV, ev_frzC, ev_frzCf, ev_frz, ev_frzK, ev_frzA0, ev_frzAv, ev_frzAp, ev_kMkT2, ev_kMkT, ev_mkT, ev_rdF, ev_map0, ev_map1, ev_omap, ev_kF2n, ev_kF2c, ev_kF2b, ev_kF2r, ev_kF1, ev_F1, ev_F0, ev_F1c, ev_F0c, ev_gnm, ev_gnil, ev_kGc, ev_gcons, ev_gtup, ev_kC4, ev_kC3, ev_kC21, ev_kC20, ev_kC1, ev_C1, ev_C0, ev_C1c, ev_C0c, ev_yes, ev_wipe0, ev_wipe1, ev_mkLi, ev_lsxC, ev_lsxD, ev_lsx, ev_lsxR, ev_lsxL, ev_lsxT, ev_kOkT, ev_tupC, ev_tup, ev_tupR, ev_tupL, ev_tupT, ev_tvwL, ev_svwL, ev_ixL, ev_lenL, ev_itL, ev_callK, ev_kCK, ev_kCK2, ev_permL, ev_kIsi, ev_isi, ev_tyI, ev_tyB, ev_tyS, ev_tyN, ev_tyT, ev_tyL, ev_tyR, ev_kit1, ev_kit2, ev_kit3, ev_kit4, ev_kit5, ev_kit6, ev_kit7, ev_eqIL, ev_eqPRC, ev_eqPR, ev_eqPL, ev_int0, ev_int1, ev_kSum, ev_sum, ev_kAllB, ev_all, ev_bl0, ev_bl1, ev_kRev, ev_rev, ev_slC, ev_slP, ev_slR, ev_pop, ev_kOrS, ev_kOrSs, ev_orS, ev_kPut2, ev_kPut1, ev_putL, ev_putN, ev_putC, ev_putCd, ev_kPut3, ev_kPut3s, ev_kPd2, ev_kPd1, ev_putD, ev_pdC, ev_kPd3S, ev_kPd3I, ev_kKG1, ev_kget, ev_kKG2, ev_nc0, ev_nc1, ev_ncn, ev_while, ev_niC, ev_inC, ev_signs, ev_itMk, ev_eqB, ev_inC2, ev_inP, ev_kIn, ev_kNi, ev_inPP, ev_niPP, ev_inT, ev_niT, ev_kPc3, ev_kPc2, ev_kPc1, ev_pc, ev_dispC, ev_kDisp, ev_disp, ev_keys0, ev_keysS, ev_merge, ev_g3C, ev_kG3, ev_kG2, ev_g1C, ev_kG1, ev_get2, ev_rng1, str_cW, len_rngW, BEq.rfl, beq_self_eq_true, low_dic, List.any_cons, List.any_nil, Bool.or_false, Bool.false_or, Bool.true_or, Bool.or_true, Sum.inr.injEq, Sum.inl.injEq, low_bW, low_cW, len_bW, len_cW, bls_bW, iW_n, sW_n, List.length_singleton, at_iW, ix_last, set_iW, pop_iW, int_iW, str_sW, List.map_cons, List.map_nil, List.length_cons, List.length_nil, List.cons_append, List.nil_append, List.append_assoc, List.getElem?_cons_zero, List.getElem?_cons_succ, List.set_cons_zero, List.set_cons_succ, List.replicate_zero, List.replicate_succ, List.append_nil, List.filterMap_cons, List.filterMap_nil, and_self, List.length_append, List.length_set, st_at0, st_at, st_set0, st_set, settle_v0, settle_v, cl_nil, cl_cons, cl_self, cl_app, cl_app2, settle_vg, settle_pg, sPC_some, low_lst, low_frz, low_val, low_ptr, take_app, take_app0, lt_f, lt_f1, all_nil, all_cons, low_iW, low_sW, len_iW, len_sW, List.take_succ_cons, List.take_zero, List.take_length, true_or, or_true, Bool.and_true, Bool.true_and, true_and, and_true, Nat.lt_irrefl, Nat.add_lt_add_iff_left, Option.map_some, Option.bind_some, decide_true, decide_false, decide_eq_true_eq, eq_self, if_true, if_false, Bool.not_true, Bool.not_false, reduceIte, Bool.false_eq_true, Nat.add_zero, Nat.zero_add, Nat.reduceAdd, Nat.reduceSub, Nat.reduceLeDiff, Nat.reduceLT, Nat.reduceMul, Nat.reducePow, ofS_inj, sizeLine, String.reduceEq, String.reduceNe, Int.reduceAdd, Int.reduceSub, Int.reduceMul, Int.reduceNeg, Int.reduceLE, Int.reduceLT, Int.reduceEq, Nat.add_assoc, len_mk hl2, c_LONGEST_WORD]; rfl
  | cons c t =>
    have n1 : (1 : Int) ≤ ((t.length + 1 : Nat) : Int) := by omega
    have e1 := comp_g (s := .always) (dg := gnm 1) (ft := dYes) (fe := dOrV (d2 gIn (dVar 1) (dC (.str LET))) (d2 gIn (dVar 1) (dC (.str DIG)))) (e := [some (.val (.str ⟨⟨c :: t⟩⟩)), none]) M (fun c : Nat => W.val (.str ⟨#[c]⟩)) (fun b : Bool => W.val (.bl b)) (fun d => memC d LET || memC d DIG) (fun _ => true) (fun _ => trivial) (c :: t) (fun d _ acc => ⟨_, rfl, rfl, fun _ => by
          cases q : memC d LET <;> simp only [ev_rd, ev_addI, ev_subI, ev_ltI, ev_leI, ev_gtI, ev_geI, ev_eqI, ev_neI, ev_eqS, ev_neS, ev_negI, ev_absI, ev_intI, ev_intB, ev_nx, ev_rt, ev_bk, ev_ct, ev_bind, ev_st, ev_seq, ev_next, ev_brk, ev_cnt, ev_kIf1, ev_kIf0, ev_if, ev_kRt, ev_ret, ev_retN, ev_kSet, ev_set, ev_kDrop, ev_drop, ev_kVar, ev_var, ev_c, ev_k2, ev_d2, ev_d1, ev_nil, ev_kCons2, ev_kCons, ev_cons, ev_call, ev_kIsB, ev_isB, ev_kAnd1, ev_kAnd0, ev_and, ev_kOr1, ev_kOr0, ev_or, ev_kNot, ev_not, ev_kAndV1, ev_kAndV0, ev_andV, ev_kOrV1, ev_kOrV0, ev_orV, ev_kNotV, ev_notV, ev_kIfE1, ev_kIfE0, ev_ifE, ev_kCh31, ev_kCh30, ev_kCh2, ev_kCh1, ev_chain, ev_tmp, ev_kFunN, ev_kFunR, ev_fun, ev_env, ev_iter, ev_kFor, ev_for, ev_kLc, ev_lc, ev_rng, ev_no, ev_kPart, ev_part, ev_kSl1, ev_kSl, ev_sl, ev_kMeth0S, ev_meth0, ev_kMethS, ev_meth, ev_rdC, ev_rdP, ev_lvwC, ev_lvw, ev_lvwR, ev_lvwL, ev_tvwR, ev_tvwT, ev_svwR, ev_svwT, ev_svwC, ev_svw, ev_kOk, ev_kOkD, ev_ixC, ev_ix, ev_ixRls, ev_ixTup, ev_at0, ev_at1, ev_at2, ev_at3, ev_lenC, ev_len, ev_lenRls, ev_lenTup, ev_addC, ev_add, ev_appC, ev_app, ev_mthC, ev_mth, ev_mth0C, ev_mth0, ev_itC, ev_it, ev_itR, ev_itT, ev_itS, ev_vals0, ev_vals1, ev_frzV, ev_frzC, ev_frzCf, ev_frz, ev_frzK, ev_frzA0, ev_frzAv, ev_frzAp, ev_kMkT2, ev_kMkT, ev_mkT, ev_rdF, ev_map0, ev_map1, ev_omap, ev_kF2n, ev_kF2c, ev_kF2b, ev_kF2r, ev_kF1, ev_F1, ev_F0, ev_F1c, ev_F0c, ev_gnm, ev_gnil, ev_kGc, ev_gcons, ev_gtup, ev_kC4, ev_kC3, ev_kC21, ev_kC20, ev_kC1, ev_C1, ev_C0, ev_C1c, ev_C0c, ev_yes, ev_wipe0, ev_wipe1, ev_mkLi, ev_lsxC, ev_lsxD, ev_lsx, ev_lsxR, ev_lsxL, ev_lsxT, ev_kOkT, ev_tupC, ev_tup, ev_tupR, ev_tupL, ev_tupT, ev_tvwL, ev_svwL, ev_ixL, ev_lenL, ev_itL, ev_callK, ev_kCK, ev_kCK2, ev_permL, ev_kIsi, ev_isi, ev_tyI, ev_tyB, ev_tyS, ev_tyN, ev_tyT, ev_tyL, ev_tyR, ev_kit1, ev_kit2, ev_kit3, ev_kit4, ev_kit5, ev_kit6, ev_kit7, ev_eqIL, ev_eqPRC, ev_eqPR, ev_eqPL, ev_int0, ev_int1, ev_kSum, ev_sum, ev_kAllB, ev_all, ev_bl0, ev_bl1, ev_kRev, ev_rev, ev_slC, ev_slP, ev_slR, ev_pop, ev_kOrS, ev_kOrSs, ev_orS, ev_kPut2, ev_kPut1, ev_putL, ev_putN, ev_putC, ev_putCd, ev_kPut3, ev_kPut3s, ev_kPd2, ev_kPd1, ev_putD, ev_pdC, ev_kPd3S, ev_kPd3I, ev_kKG1, ev_kget, ev_kKG2, ev_nc0, ev_nc1, ev_ncn, ev_while, ev_niC, ev_inC, ev_signs, ev_itMk, ev_eqB, ev_inC2, ev_inP, ev_kIn, ev_kNi, ev_inPP, ev_niPP, ev_inT, ev_niT, ev_kPc3, ev_kPc2, ev_kPc1, ev_pc, ev_dispC, ev_kDisp, ev_disp, ev_keys0, ev_keysS, ev_merge, ev_g3C, ev_kG3, ev_kG2, ev_g1C, ev_kG1, ev_get2, ev_rng1, str_cW, len_rngW, BEq.rfl, beq_self_eq_true, low_dic, List.any_cons, List.any_nil, Bool.or_false, Bool.false_or, Bool.true_or, Bool.or_true, Sum.inr.injEq, Sum.inl.injEq, low_bW, low_cW, len_bW, len_cW, bls_bW, iW_n, sW_n, List.length_singleton, at_iW, ix_last, set_iW, pop_iW, int_iW, str_sW, List.map_cons, List.map_nil, List.length_cons, List.length_nil, List.cons_append, List.nil_append, List.append_assoc, List.getElem?_cons_zero, List.getElem?_cons_succ, List.set_cons_zero, List.set_cons_succ, List.replicate_zero, List.replicate_succ, List.append_nil, List.filterMap_cons, List.filterMap_nil, and_self, List.length_append, List.length_set, st_at0, st_at, st_set0, st_set, settle_v0, settle_v, cl_nil, cl_cons, cl_self, cl_app, cl_app2, settle_vg, settle_pg, sPC_some, low_lst, low_frz, low_val, low_ptr, take_app, take_app0, lt_f, lt_f1, all_nil, all_cons, low_iW, low_sW, len_iW, len_sW, List.take_succ_cons, List.take_zero, List.take_length, true_or, or_true, Bool.and_true, Bool.true_and, true_and, and_true, Nat.lt_irrefl, Nat.add_lt_add_iff_left, Option.map_some, Option.bind_some, decide_true, decide_false, decide_eq_true_eq, eq_self, if_true, if_false, Bool.not_true, Bool.not_false, reduceIte, Bool.false_eq_true, Nat.add_zero, Nat.zero_add, Nat.reduceAdd, Nat.reduceSub, Nat.reduceLeDiff, Nat.reduceLT, Nat.reduceMul, Nat.reducePow, ofS_inj, sizeLine, String.reduceEq, String.reduceNe, Int.reduceAdd, Int.reduceSub, Int.reduceMul, Int.reduceNeg, Int.reduceLE, Int.reduceLT, Int.reduceEq, Nat.add_assoc, q, Bool.true_or, Bool.false_or]⟩) [] (by show 0 + (c :: t).length < 16777216; omega)
    rw [show (c :: t).map (fun c : Nat => W.val (.str ⟨#[c]⟩)) = cW (c :: t) from rfl, List.nil_append, List.filter_eq_self.mpr (fun _ _ => rfl)] at e1
    change _ = R.ok _ (M ++ [Cell.lst (bW _)]) at e1
    by_cases h8 : ((t.length + 1 : Nat) : Int) ≤ 8
    · cases hc : memC c LET with
      | true =>
        simp only [u_is_word, d_is_word, e_is_word_1, ev_rd, ev_addI, ev_subI, ev_ltI, ev_leI, ev_gtI, ev_geI, ev_eqI, ev_neI, ev_eqS, ev_neS, ev_negI, ev_absI, ev_intI, ev_intB, ev_nx, ev_rt, ev_bk, ev_ct, ev_bind, ev_st, ev_seq, ev_next, ev_brk, ev_cnt, ev_kIf1, ev_kIf0, ev_if, ev_kRt, ev_ret, ev_retN, ev_kSet, ev_set, ev_kDrop, ev_drop, ev_kVar, ev_var, ev_c, ev_k2, ev_d2, ev_d1, ev_nil, ev_kCons2, ev_kCons, ev_cons, ev_call, ev_kIsB, ev_isB, ev_kAnd1, ev_kAnd0, ev_and, ev_kOr1, ev_kOr0, ev_or, ev_kNot, ev_not, ev_kAndV1, ev_kAndV0, ev_andV, ev_kOrV1, ev_kOrV0, ev_orV, ev_kNotV, ev_notV, ev_kIfE1, ev_kIfE0, ev_ifE, ev_kCh31, ev_kCh30, ev_kCh2, ev_kCh1, ev_chain, ev_tmp, ev_kFunN, ev_kFunR, ev_fun, ev_env, ev_iter, ev_kFor, ev_for, ev_kLc, ev_lc, ev_rng, ev_no, ev_kPart, ev_part, ev_kSl1, ev_kSl, ev_sl, ev_kMeth0S, ev_meth0, ev_kMethS, ev_meth, ev_rdC, ev_rdP, ev_lvwC, ev_lvw, ev_lvwR, ev_lvwL, ev_tvwR, ev_tvwT, ev_svwR, ev_svwT, ev_svwC, ev_svw, ev_kOk, ev_kOkD, ev_ixC, ev_ix, ev_ixRls, ev_ixTup, ev_at0, ev_at1, ev_at2, ev_at3, ev_lenC, ev_len, ev_lenRls, ev_lenTup, ev_addC, ev_add, ev_appC, ev_app, ev_mthC, ev_mth, ev_mth0C, ev_mth0, ev_itC, ev_it, ev_itR, ev_itT, ev_itS, ev_vals0, ev_vals1, ev_frzV, ev_frzC, ev_frzCf, ev_frz, ev_frzK, ev_frzA0, ev_frzAv, ev_frzAp, ev_kMkT2, ev_kMkT, ev_mkT, ev_rdF, ev_map0, ev_map1, ev_omap, ev_kF2n, ev_kF2c, ev_kF2b, ev_kF2r, ev_kF1, ev_F1, ev_F0, ev_F1c, ev_F0c, ev_gnm, ev_gnil, ev_kGc, ev_gcons, ev_gtup, ev_kC4, ev_kC3, ev_kC21, ev_kC20, ev_kC1, ev_C1, ev_C0, ev_C1c, ev_C0c, ev_yes, ev_wipe0, ev_wipe1, ev_mkLi, ev_lsxC, ev_lsxD, ev_lsx, ev_lsxR, ev_lsxL, ev_lsxT, ev_kOkT, ev_tupC, ev_tup, ev_tupR, ev_tupL, ev_tupT, ev_tvwL, ev_svwL, ev_ixL, ev_lenL, ev_itL, ev_callK, ev_kCK, ev_kCK2, ev_permL, ev_kIsi, ev_isi, ev_tyI, ev_tyB, ev_tyS, ev_tyN, ev_tyT, ev_tyL, ev_tyR, ev_kit1, ev_kit2, ev_kit3, ev_kit4, ev_kit5, ev_kit6, ev_kit7, ev_eqIL, ev_eqPRC, ev_eqPR, ev_eqPL, ev_int0, ev_int1, ev_kSum, ev_sum, ev_kAllB, ev_all, ev_bl0, ev_bl1, ev_kRev, ev_rev, ev_slC, ev_slP, ev_slR, ev_pop, ev_kOrS, ev_kOrSs, ev_orS, ev_kPut2, ev_kPut1, ev_putL, ev_putN, ev_putC, ev_putCd, ev_kPut3, ev_kPut3s, ev_kPd2, ev_kPd1, ev_putD, ev_pdC, ev_kPd3S, ev_kPd3I, ev_kKG1, ev_kget, ev_kKG2, ev_nc0, ev_nc1, ev_ncn, ev_while, ev_niC, ev_inC, ev_signs, ev_itMk, ev_eqB, ev_inC2, ev_inP, ev_kIn, ev_kNi, ev_inPP, ev_niPP, ev_inT, ev_niT, ev_kPc3, ev_kPc2, ev_kPc1, ev_pc, ev_dispC, ev_kDisp, ev_disp, ev_keys0, ev_keysS, ev_merge, ev_g3C, ev_kG3, ev_kG2, ev_g1C, ev_kG1, ev_get2, ev_rng1, str_cW, len_rngW, BEq.rfl, beq_self_eq_true, low_dic, List.any_cons, List.any_nil, Bool.or_false, Bool.false_or, Bool.true_or, Bool.or_true, Sum.inr.injEq, Sum.inl.injEq, low_bW, low_cW, len_bW, len_cW, bls_bW, iW_n, sW_n, List.length_singleton, at_iW, ix_last, set_iW, pop_iW, int_iW, str_sW, List.map_cons, List.map_nil, List.length_cons, List.length_nil, List.cons_append, List.nil_append, List.append_assoc, List.getElem?_cons_zero, List.getElem?_cons_succ, List.set_cons_zero, List.set_cons_succ, List.replicate_zero, List.replicate_succ, List.append_nil, List.filterMap_cons, List.filterMap_nil, and_self, List.length_append, List.length_set, st_at0, st_at, st_set0, st_set, settle_v0, settle_v, cl_nil, cl_cons, cl_self, cl_app, cl_app2, settle_vg, settle_pg, sPC_some, low_lst, low_frz, low_val, low_ptr, take_app, take_app0, lt_f, lt_f1, all_nil, all_cons, low_iW, low_sW, len_iW, len_sW, List.take_succ_cons, List.take_zero, List.take_length, true_or, or_true, Bool.and_true, Bool.true_and, true_and, and_true, Nat.lt_irrefl, Nat.add_lt_add_iff_left, Option.map_some, Option.bind_some, decide_true, decide_false, decide_eq_true_eq, eq_self, if_true, if_false, Bool.not_true, Bool.not_false, reduceIte, Bool.false_eq_true, Nat.add_zero, Nat.zero_add, Nat.reduceAdd, Nat.reduceSub, Nat.reduceLeDiff, Nat.reduceLT, Nat.reduceMul, Nat.reducePow, ofS_inj, sizeLine, String.reduceEq, String.reduceNe, Int.reduceAdd, Int.reduceSub, Int.reduceMul, Int.reduceNeg, Int.reduceLE, Int.reduceLT, Int.reduceEq, Nat.add_assoc, len_mk hl2, ix0_mk hl2, c_LONGEST_WORD, n1, h8, z1, z2, hc, e1, bls_bW]
        simp [isW, hc, h8, List.all_map, Function.comp_def]
        exact fun _ => by omega
      | false =>
        simp only [u_is_word, d_is_word, e_is_word_1, ev_rd, ev_addI, ev_subI, ev_ltI, ev_leI, ev_gtI, ev_geI, ev_eqI, ev_neI, ev_eqS, ev_neS, ev_negI, ev_absI, ev_intI, ev_intB, ev_nx, ev_rt, ev_bk, ev_ct, ev_bind, ev_st, ev_seq, ev_next, ev_brk, ev_cnt, ev_kIf1, ev_kIf0, ev_if, ev_kRt, ev_ret, ev_retN, ev_kSet, ev_set, ev_kDrop, ev_drop, ev_kVar, ev_var, ev_c, ev_k2, ev_d2, ev_d1, ev_nil, ev_kCons2, ev_kCons, ev_cons, ev_call, ev_kIsB, ev_isB, ev_kAnd1, ev_kAnd0, ev_and, ev_kOr1, ev_kOr0, ev_or, ev_kNot, ev_not, ev_kAndV1, ev_kAndV0, ev_andV, ev_kOrV1, ev_kOrV0, ev_orV, ev_kNotV, ev_notV, ev_kIfE1, ev_kIfE0, ev_ifE, ev_kCh31, ev_kCh30, ev_kCh2, ev_kCh1, ev_chain, ev_tmp, ev_kFunN, ev_kFunR, ev_fun, ev_env, ev_iter, ev_kFor, ev_for, ev_kLc, ev_lc, ev_rng, ev_no, ev_kPart, ev_part, ev_kSl1, ev_kSl, ev_sl, ev_kMeth0S, ev_meth0, ev_kMethS, ev_meth, ev_rdC, ev_rdP, ev_lvwC, ev_lvw, ev_lvwR, ev_lvwL, ev_tvwR, ev_tvwT, ev_svwR, ev_svwT, ev_svwC, ev_svw, ev_kOk, ev_kOkD, ev_ixC, ev_ix, ev_ixRls, ev_ixTup, ev_at0, ev_at1, ev_at2, ev_at3, ev_lenC, ev_len, ev_lenRls, ev_lenTup, ev_addC, ev_add, ev_appC, ev_app, ev_mthC, ev_mth, ev_mth0C, ev_mth0, ev_itC, ev_it, ev_itR, ev_itT, ev_itS, ev_vals0, ev_vals1, ev_frzV, ev_frzC, ev_frzCf, ev_frz, ev_frzK, ev_frzA0, ev_frzAv, ev_frzAp, ev_kMkT2, ev_kMkT, ev_mkT, ev_rdF, ev_map0, ev_map1, ev_omap, ev_kF2n, ev_kF2c, ev_kF2b, ev_kF2r, ev_kF1, ev_F1, ev_F0, ev_F1c, ev_F0c, ev_gnm, ev_gnil, ev_kGc, ev_gcons, ev_gtup, ev_kC4, ev_kC3, ev_kC21, ev_kC20, ev_kC1, ev_C1, ev_C0, ev_C1c, ev_C0c, ev_yes, ev_wipe0, ev_wipe1, ev_mkLi, ev_lsxC, ev_lsxD, ev_lsx, ev_lsxR, ev_lsxL, ev_lsxT, ev_kOkT, ev_tupC, ev_tup, ev_tupR, ev_tupL, ev_tupT, ev_tvwL, ev_svwL, ev_ixL, ev_lenL, ev_itL, ev_callK, ev_kCK, ev_kCK2, ev_permL, ev_kIsi, ev_isi, ev_tyI, ev_tyB, ev_tyS, ev_tyN, ev_tyT, ev_tyL, ev_tyR, ev_kit1, ev_kit2, ev_kit3, ev_kit4, ev_kit5, ev_kit6, ev_kit7, ev_eqIL, ev_eqPRC, ev_eqPR, ev_eqPL, ev_int0, ev_int1, ev_kSum, ev_sum, ev_kAllB, ev_all, ev_bl0, ev_bl1, ev_kRev, ev_rev, ev_slC, ev_slP, ev_slR, ev_pop, ev_kOrS, ev_kOrSs, ev_orS, ev_kPut2, ev_kPut1, ev_putL, ev_putN, ev_putC, ev_putCd, ev_kPut3, ev_kPut3s, ev_kPd2, ev_kPd1, ev_putD, ev_pdC, ev_kPd3S, ev_kPd3I, ev_kKG1, ev_kget, ev_kKG2, ev_nc0, ev_nc1, ev_ncn, ev_while, ev_niC, ev_inC, ev_signs, ev_itMk, ev_eqB, ev_inC2, ev_inP, ev_kIn, ev_kNi, ev_inPP, ev_niPP, ev_inT, ev_niT, ev_kPc3, ev_kPc2, ev_kPc1, ev_pc, ev_dispC, ev_kDisp, ev_disp, ev_keys0, ev_keysS, ev_merge, ev_g3C, ev_kG3, ev_kG2, ev_g1C, ev_kG1, ev_get2, ev_rng1, str_cW, len_rngW, BEq.rfl, beq_self_eq_true, low_dic, List.any_cons, List.any_nil, Bool.or_false, Bool.false_or, Bool.true_or, Bool.or_true, Sum.inr.injEq, Sum.inl.injEq, low_bW, low_cW, len_bW, len_cW, bls_bW, iW_n, sW_n, List.length_singleton, at_iW, ix_last, set_iW, pop_iW, int_iW, str_sW, List.map_cons, List.map_nil, List.length_cons, List.length_nil, List.cons_append, List.nil_append, List.append_assoc, List.getElem?_cons_zero, List.getElem?_cons_succ, List.set_cons_zero, List.set_cons_succ, List.replicate_zero, List.replicate_succ, List.append_nil, List.filterMap_cons, List.filterMap_nil, and_self, List.length_append, List.length_set, st_at0, st_at, st_set0, st_set, settle_v0, settle_v, cl_nil, cl_cons, cl_self, cl_app, cl_app2, settle_vg, settle_pg, sPC_some, low_lst, low_frz, low_val, low_ptr, take_app, take_app0, lt_f, lt_f1, all_nil, all_cons, low_iW, low_sW, len_iW, len_sW, List.take_succ_cons, List.take_zero, List.take_length, true_or, or_true, Bool.and_true, Bool.true_and, true_and, and_true, Nat.lt_irrefl, Nat.add_lt_add_iff_left, Option.map_some, Option.bind_some, decide_true, decide_false, decide_eq_true_eq, eq_self, if_true, if_false, Bool.not_true, Bool.not_false, reduceIte, Bool.false_eq_true, Nat.add_zero, Nat.zero_add, Nat.reduceAdd, Nat.reduceSub, Nat.reduceLeDiff, Nat.reduceLT, Nat.reduceMul, Nat.reducePow, ofS_inj, sizeLine, String.reduceEq, String.reduceNe, Int.reduceAdd, Int.reduceSub, Int.reduceMul, Int.reduceNeg, Int.reduceLE, Int.reduceLT, Int.reduceEq, Nat.add_assoc, len_mk hl2, ix0_mk hl2, c_LONGEST_WORD, n1, h8, z1, z2, hc, isW, Bool.false_and, Bool.and_false]
    · simp only [u_is_word, d_is_word, e_is_word_1, ev_rd, ev_addI, ev_subI, ev_ltI, ev_leI, ev_gtI, ev_geI, ev_eqI, ev_neI, ev_eqS, ev_neS, ev_negI, ev_absI, ev_intI, ev_intB, ev_nx, ev_rt, ev_bk, ev_ct, ev_bind, ev_st, ev_seq, ev_next, ev_brk, ev_cnt, ev_kIf1, ev_kIf0, ev_if, ev_kRt, ev_ret, ev_retN, ev_kSet, ev_set, ev_kDrop, ev_drop, ev_kVar, ev_var, ev_c, ev_k2, ev_d2, ev_d1, ev_nil, ev_kCons2, ev_kCons, ev_cons, ev_call, ev_kIsB, ev_isB, ev_kAnd1, ev_kAnd0, ev_and, ev_kOr1, ev_kOr0, ev_or, ev_kNot, ev_not, ev_kAndV1, ev_kAndV0, ev_andV, ev_kOrV1, ev_kOrV0, ev_orV, ev_kNotV, ev_notV, ev_kIfE1, ev_kIfE0, ev_ifE, ev_kCh31, ev_kCh30, ev_kCh2, ev_kCh1, ev_chain, ev_tmp, ev_kFunN, ev_kFunR, ev_fun, ev_env, ev_iter, ev_kFor, ev_for, ev_kLc, ev_lc, ev_rng, ev_no, ev_kPart, ev_part, ev_kSl1, ev_kSl, ev_sl, ev_kMeth0S, ev_meth0, ev_kMethS, ev_meth, ev_rdC, ev_rdP, ev_lvwC, ev_lvw, ev_lvwR, ev_lvwL, ev_tvwR, ev_tvwT, ev_svwR, ev_svwT, ev_svwC, ev_svw, ev_kOk, ev_kOkD, ev_ixC, ev_ix, ev_ixRls, ev_ixTup, ev_at0, ev_at1, ev_at2, ev_at3, ev_lenC, ev_len, ev_lenRls, ev_lenTup, ev_addC, ev_add, ev_appC, ev_app, ev_mthC, ev_mth, ev_mth0C, ev_mth0, ev_itC, ev_it, ev_itR, ev_itT, ev_itS, ev_vals0, ev_vals1, ev_frzV, ev_frzC, ev_frzCf, ev_frz, ev_frzK, ev_frzA0, ev_frzAv, ev_frzAp, ev_kMkT2, ev_kMkT, ev_mkT, ev_rdF, ev_map0, ev_map1, ev_omap, ev_kF2n, ev_kF2c, ev_kF2b, ev_kF2r, ev_kF1, ev_F1, ev_F0, ev_F1c, ev_F0c, ev_gnm, ev_gnil, ev_kGc, ev_gcons, ev_gtup, ev_kC4, ev_kC3, ev_kC21, ev_kC20, ev_kC1, ev_C1, ev_C0, ev_C1c, ev_C0c, ev_yes, ev_wipe0, ev_wipe1, ev_mkLi, ev_lsxC, ev_lsxD, ev_lsx, ev_lsxR, ev_lsxL, ev_lsxT, ev_kOkT, ev_tupC, ev_tup, ev_tupR, ev_tupL, ev_tupT, ev_tvwL, ev_svwL, ev_ixL, ev_lenL, ev_itL, ev_callK, ev_kCK, ev_kCK2, ev_permL, ev_kIsi, ev_isi, ev_tyI, ev_tyB, ev_tyS, ev_tyN, ev_tyT, ev_tyL, ev_tyR, ev_kit1, ev_kit2, ev_kit3, ev_kit4, ev_kit5, ev_kit6, ev_kit7, ev_eqIL, ev_eqPRC, ev_eqPR, ev_eqPL, ev_int0, ev_int1, ev_kSum, ev_sum, ev_kAllB, ev_all, ev_bl0, ev_bl1, ev_kRev, ev_rev, ev_slC, ev_slP, ev_slR, ev_pop, ev_kOrS, ev_kOrSs, ev_orS, ev_kPut2, ev_kPut1, ev_putL, ev_putN, ev_putC, ev_putCd, ev_kPut3, ev_kPut3s, ev_kPd2, ev_kPd1, ev_putD, ev_pdC, ev_kPd3S, ev_kPd3I, ev_kKG1, ev_kget, ev_kKG2, ev_nc0, ev_nc1, ev_ncn, ev_while, ev_niC, ev_inC, ev_signs, ev_itMk, ev_eqB, ev_inC2, ev_inP, ev_kIn, ev_kNi, ev_inPP, ev_niPP, ev_inT, ev_niT, ev_kPc3, ev_kPc2, ev_kPc1, ev_pc, ev_dispC, ev_kDisp, ev_disp, ev_keys0, ev_keysS, ev_merge, ev_g3C, ev_kG3, ev_kG2, ev_g1C, ev_kG1, ev_get2, ev_rng1, str_cW, len_rngW, BEq.rfl, beq_self_eq_true, low_dic, List.any_cons, List.any_nil, Bool.or_false, Bool.false_or, Bool.true_or, Bool.or_true, Sum.inr.injEq, Sum.inl.injEq, low_bW, low_cW, len_bW, len_cW, bls_bW, iW_n, sW_n, List.length_singleton, at_iW, ix_last, set_iW, pop_iW, int_iW, str_sW, List.map_cons, List.map_nil, List.length_cons, List.length_nil, List.cons_append, List.nil_append, List.append_assoc, List.getElem?_cons_zero, List.getElem?_cons_succ, List.set_cons_zero, List.set_cons_succ, List.replicate_zero, List.replicate_succ, List.append_nil, List.filterMap_cons, List.filterMap_nil, and_self, List.length_append, List.length_set, st_at0, st_at, st_set0, st_set, settle_v0, settle_v, cl_nil, cl_cons, cl_self, cl_app, cl_app2, settle_vg, settle_pg, sPC_some, low_lst, low_frz, low_val, low_ptr, take_app, take_app0, lt_f, lt_f1, all_nil, all_cons, low_iW, low_sW, len_iW, len_sW, List.take_succ_cons, List.take_zero, List.take_length, true_or, or_true, Bool.and_true, Bool.true_and, true_and, and_true, Nat.lt_irrefl, Nat.add_lt_add_iff_left, Option.map_some, Option.bind_some, decide_true, decide_false, decide_eq_true_eq, eq_self, if_true, if_false, Bool.not_true, Bool.not_false, reduceIte, Bool.false_eq_true, Nat.add_zero, Nat.zero_add, Nat.reduceAdd, Nat.reduceSub, Nat.reduceLeDiff, Nat.reduceLT, Nat.reduceMul, Nat.reducePow, ofS_inj, sizeLine, String.reduceEq, String.reduceNe, Int.reduceAdd, Int.reduceSub, Int.reduceMul, Int.reduceNeg, Int.reduceLE, Int.reduceLT, Int.reduceEq, Nat.add_assoc, len_mk hl2, ix0_mk hl2, c_LONGEST_WORD, n1, h8, isW, Bool.false_and]
theorem law_is_word_ok (l : List Nat) (hl : l.length ≤ 16777214) : m_Lis_word [.val (.str ⟨⟨l⟩⟩)] M = .ok (.val (.bl (isW l))) M := by
  have hl2 : l.length ≤ 16777216 := by omega
  cases l with
  | nil => simp only [u_Lis_word, d_Lis_word, p_Lis_word_1, e_Lis_word_2, ev_rd, ev_addI, ev_subI, ev_ltI, ev_leI, ev_gtI, ev_geI, ev_eqI, ev_neI, ev_eqS, ev_neS, ev_negI, ev_absI, ev_intI, ev_intB, ev_nx, ev_rt, ev_bk, ev_ct, ev_bind, ev_st, ev_seq, ev_next, ev_brk, ev_cnt, ev_kIf1, ev_kIf0, ev_if, ev_kRt, ev_ret, ev_retN, ev_kSet, ev_set, ev_kDrop, ev_drop, ev_kVar, ev_var, ev_c, ev_k2, ev_d2, ev_d1, ev_nil, ev_kCons2, ev_kCons, ev_cons, ev_call, ev_kIsB, ev_isB, ev_kAnd1, ev_kAnd0, ev_and, ev_kOr1, ev_kOr0, ev_or, ev_kNot, ev_not, ev_kAndV1, ev_kAndV0, ev_andV, ev_kOrV1, ev_kOrV0, ev_orV, ev_kNotV, ev_notV, ev_kIfE1, ev_kIfE0, ev_ifE, ev_kCh31, ev_kCh30, ev_kCh2, ev_kCh1, ev_chain, ev_tmp, ev_kFunN, ev_kFunR, ev_fun, ev_env, ev_iter, ev_kFor, ev_for, ev_kLc, ev_lc, ev_rng, ev_no, ev_kPart, ev_part, ev_kSl1, ev_kSl, ev_sl, ev_kMeth0S, ev_meth0, ev_kMethS, ev_meth, ev_rdC, ev_rdP, ev_lvwC, ev_lvw, ev_lvwR, ev_lvwL, ev_tvwR, ev_tvwT, ev_svwR, ev_svwT, ev_svwC, ev_svw, ev_kOk, ev_kOkD, ev_ixC, ev_ix, ev_ixRls, ev_ixTup, ev_at0, ev_at1, ev_at2, ev_at3, ev_lenC, ev_len, ev_lenRls, ev_lenTup, ev_addC, ev_add, ev_appC, ev_app, ev_mthC, ev_mth, ev_mth0C, ev_mth0, ev_itC, ev_it, ev_itR, ev_itT, ev_itS, ev_vals0, ev_vals1, ev_frzV, ev_frzC, ev_frzCf, ev_frz, ev_frzK, ev_frzA0, ev_frzAv, ev_frzAp, ev_kMkT2, ev_kMkT, ev_mkT, ev_rdF, ev_map0, ev_map1, ev_omap, ev_kF2n, ev_kF2c, ev_kF2b, ev_kF2r, ev_kF1, ev_F1, ev_F0, ev_F1c, ev_F0c, ev_gnm, ev_gnil, ev_kGc, ev_gcons, ev_gtup, ev_kC4, ev_kC3, ev_kC21, ev_kC20, ev_kC1, ev_C1, ev_C0, ev_C1c, ev_C0c, ev_yes, ev_wipe0, ev_wipe1, ev_mkLi, ev_lsxC, ev_lsxD, ev_lsx, ev_lsxR, ev_lsxL, ev_lsxT, ev_kOkT, ev_tupC, ev_tup, ev_tupR, ev_tupL, ev_tupT, ev_tvwL, ev_svwL, ev_ixL, ev_lenL, ev_itL, ev_callK, ev_kCK, ev_kCK2, ev_permL, ev_kIsi, ev_isi, ev_tyI, ev_tyB, ev_tyS, ev_tyN, ev_tyT, ev_tyL, ev_tyR, ev_kit1, ev_kit2, ev_kit3, ev_kit4, ev_kit5, ev_kit6, ev_kit7, ev_eqIL, ev_eqPRC, ev_eqPR, ev_eqPL, ev_int0, ev_int1, ev_kSum, ev_sum, ev_kAllB, ev_all, ev_bl0, ev_bl1, ev_kRev, ev_rev, ev_slC, ev_slP, ev_slR, ev_pop, ev_kOrS, ev_kOrSs, ev_orS, ev_kPut2, ev_kPut1, ev_putL, ev_putN, ev_putC, ev_putCd, ev_kPut3, ev_kPut3s, ev_kPd2, ev_kPd1, ev_putD, ev_pdC, ev_kPd3S, ev_kPd3I, ev_kKG1, ev_kget, ev_kKG2, ev_nc0, ev_nc1, ev_ncn, ev_while, ev_niC, ev_inC, ev_signs, ev_itMk, ev_eqB, ev_inC2, ev_inP, ev_kIn, ev_kNi, ev_inPP, ev_niPP, ev_inT, ev_niT, ev_kPc3, ev_kPc2, ev_kPc1, ev_pc, ev_dispC, ev_kDisp, ev_disp, ev_keys0, ev_keysS, ev_merge, ev_g3C, ev_kG3, ev_kG2, ev_g1C, ev_kG1, ev_get2, ev_rng1, str_cW, len_rngW, BEq.rfl, beq_self_eq_true, low_dic, List.any_cons, List.any_nil, Bool.or_false, Bool.false_or, Bool.true_or, Bool.or_true, Sum.inr.injEq, Sum.inl.injEq, low_bW, low_cW, len_bW, len_cW, bls_bW, iW_n, sW_n, List.length_singleton, at_iW, ix_last, set_iW, pop_iW, int_iW, str_sW, List.map_cons, List.map_nil, List.length_cons, List.length_nil, List.cons_append, List.nil_append, List.append_assoc, List.getElem?_cons_zero, List.getElem?_cons_succ, List.set_cons_zero, List.set_cons_succ, List.replicate_zero, List.replicate_succ, List.append_nil, List.filterMap_cons, List.filterMap_nil, and_self, List.length_append, List.length_set, st_at0, st_at, st_set0, st_set, settle_v0, settle_v, cl_nil, cl_cons, cl_self, cl_app, cl_app2, settle_vg, settle_pg, sPC_some, low_lst, low_frz, low_val, low_ptr, take_app, take_app0, lt_f, lt_f1, all_nil, all_cons, low_iW, low_sW, len_iW, len_sW, List.take_succ_cons, List.take_zero, List.take_length, true_or, or_true, Bool.and_true, Bool.true_and, true_and, and_true, Nat.lt_irrefl, Nat.add_lt_add_iff_left, Option.map_some, Option.bind_some, decide_true, decide_false, decide_eq_true_eq, eq_self, if_true, if_false, Bool.not_true, Bool.not_false, reduceIte, Bool.false_eq_true, Nat.add_zero, Nat.zero_add, Nat.reduceAdd, Nat.reduceSub, Nat.reduceLeDiff, Nat.reduceLT, Nat.reduceMul, Nat.reducePow, ofS_inj, sizeLine, String.reduceEq, String.reduceNe, Int.reduceAdd, Int.reduceSub, Int.reduceMul, Int.reduceNeg, Int.reduceLE, Int.reduceLT, Int.reduceEq, Nat.add_assoc, len_mk hl2]; rfl
  | cons c t =>
    have n0 : ¬ ((t.length + 1 : Nat) : Int) = 0 := by omega
    have e1 := comp_g (s := .always) (dg := gnm 1) (ft := dIsB (d2 gNi (dVar 1) (dCall m_Lboth dNil))) (fe := dVar 1) (e := [some (.val (.str ⟨⟨c :: t⟩⟩)), none]) M (fun c : Nat => W.val (.str ⟨#[c]⟩)) (fun c : Nat => W.val (.str ⟨#[c]⟩)) id (fun d => !memC d BOTH) (fun _ => trivial) (c :: t) (fun d _ acc => ⟨_, rfl, by simp only [ev_rd, ev_addI, ev_subI, ev_ltI, ev_leI, ev_gtI, ev_geI, ev_eqI, ev_neI, ev_eqS, ev_neS, ev_negI, ev_absI, ev_intI, ev_intB, ev_nx, ev_rt, ev_bk, ev_ct, ev_bind, ev_st, ev_seq, ev_next, ev_brk, ev_cnt, ev_kIf1, ev_kIf0, ev_if, ev_kRt, ev_ret, ev_retN, ev_kSet, ev_set, ev_kDrop, ev_drop, ev_kVar, ev_var, ev_c, ev_k2, ev_d2, ev_d1, ev_nil, ev_kCons2, ev_kCons, ev_cons, ev_call, ev_kIsB, ev_isB, ev_kAnd1, ev_kAnd0, ev_and, ev_kOr1, ev_kOr0, ev_or, ev_kNot, ev_not, ev_kAndV1, ev_kAndV0, ev_andV, ev_kOrV1, ev_kOrV0, ev_orV, ev_kNotV, ev_notV, ev_kIfE1, ev_kIfE0, ev_ifE, ev_kCh31, ev_kCh30, ev_kCh2, ev_kCh1, ev_chain, ev_tmp, ev_kFunN, ev_kFunR, ev_fun, ev_env, ev_iter, ev_kFor, ev_for, ev_kLc, ev_lc, ev_rng, ev_no, ev_kPart, ev_part, ev_kSl1, ev_kSl, ev_sl, ev_kMeth0S, ev_meth0, ev_kMethS, ev_meth, ev_rdC, ev_rdP, ev_lvwC, ev_lvw, ev_lvwR, ev_lvwL, ev_tvwR, ev_tvwT, ev_svwR, ev_svwT, ev_svwC, ev_svw, ev_kOk, ev_kOkD, ev_ixC, ev_ix, ev_ixRls, ev_ixTup, ev_at0, ev_at1, ev_at2, ev_at3, ev_lenC, ev_len, ev_lenRls, ev_lenTup, ev_addC, ev_add, ev_appC, ev_app, ev_mthC, ev_mth, ev_mth0C, ev_mth0, ev_itC, ev_it, ev_itR, ev_itT, ev_itS, ev_vals0, ev_vals1, ev_frzV, ev_frzC, ev_frzCf, ev_frz, ev_frzK, ev_frzA0, ev_frzAv, ev_frzAp, ev_kMkT2, ev_kMkT, ev_mkT, ev_rdF, ev_map0, ev_map1, ev_omap, ev_kF2n, ev_kF2c, ev_kF2b, ev_kF2r, ev_kF1, ev_F1, ev_F0, ev_F1c, ev_F0c, ev_gnm, ev_gnil, ev_kGc, ev_gcons, ev_gtup, ev_kC4, ev_kC3, ev_kC21, ev_kC20, ev_kC1, ev_C1, ev_C0, ev_C1c, ev_C0c, ev_yes, ev_wipe0, ev_wipe1, ev_mkLi, ev_lsxC, ev_lsxD, ev_lsx, ev_lsxR, ev_lsxL, ev_lsxT, ev_kOkT, ev_tupC, ev_tup, ev_tupR, ev_tupL, ev_tupT, ev_tvwL, ev_svwL, ev_ixL, ev_lenL, ev_itL, ev_callK, ev_kCK, ev_kCK2, ev_permL, ev_kIsi, ev_isi, ev_tyI, ev_tyB, ev_tyS, ev_tyN, ev_tyT, ev_tyL, ev_tyR, ev_kit1, ev_kit2, ev_kit3, ev_kit4, ev_kit5, ev_kit6, ev_kit7, ev_eqIL, ev_eqPRC, ev_eqPR, ev_eqPL, ev_int0, ev_int1, ev_kSum, ev_sum, ev_kAllB, ev_all, ev_bl0, ev_bl1, ev_kRev, ev_rev, ev_slC, ev_slP, ev_slR, ev_pop, ev_kOrS, ev_kOrSs, ev_orS, ev_kPut2, ev_kPut1, ev_putL, ev_putN, ev_putC, ev_putCd, ev_kPut3, ev_kPut3s, ev_kPd2, ev_kPd1, ev_putD, ev_pdC, ev_kPd3S, ev_kPd3I, ev_kKG1, ev_kget, ev_kKG2, ev_nc0, ev_nc1, ev_ncn, ev_while, ev_niC, ev_inC, ev_signs, ev_itMk, ev_eqB, ev_inC2, ev_inP, ev_kIn, ev_kNi, ev_inPP, ev_niPP, ev_inT, ev_niT, ev_kPc3, ev_kPc2, ev_kPc1, ev_pc, ev_dispC, ev_kDisp, ev_disp, ev_keys0, ev_keysS, ev_merge, ev_g3C, ev_kG3, ev_kG2, ev_g1C, ev_kG1, ev_get2, ev_rng1, str_cW, len_rngW, BEq.rfl, beq_self_eq_true, low_dic, List.any_cons, List.any_nil, Bool.or_false, Bool.false_or, Bool.true_or, Bool.or_true, Sum.inr.injEq, Sum.inl.injEq, low_bW, low_cW, len_bW, len_cW, bls_bW, iW_n, sW_n, List.length_singleton, at_iW, ix_last, set_iW, pop_iW, int_iW, str_sW, List.map_cons, List.map_nil, List.length_cons, List.length_nil, List.cons_append, List.nil_append, List.append_assoc, List.getElem?_cons_zero, List.getElem?_cons_succ, List.set_cons_zero, List.set_cons_succ, List.replicate_zero, List.replicate_succ, List.append_nil, List.filterMap_cons, List.filterMap_nil, and_self, List.length_append, List.length_set, st_at0, st_at, st_set0, st_set, settle_v0, settle_v, cl_nil, cl_cons, cl_self, cl_app, cl_app2, settle_vg, settle_pg, sPC_some, low_lst, low_frz, low_val, low_ptr, take_app, take_app0, lt_f, lt_f1, all_nil, all_cons, low_iW, low_sW, len_iW, len_sW, List.take_succ_cons, List.take_zero, List.take_length, true_or, or_true, Bool.and_true, Bool.true_and, true_and, and_true, Nat.lt_irrefl, Nat.add_lt_add_iff_left, Option.map_some, Option.bind_some, decide_true, decide_false, decide_eq_true_eq, eq_self, if_true, if_false, Bool.not_true, Bool.not_false, reduceIte, Bool.false_eq_true, Nat.add_zero, Nat.zero_add, Nat.reduceAdd, Nat.reduceSub, Nat.reduceLeDiff, Nat.reduceLT, Nat.reduceMul, Nat.reducePow, ofS_inj, sizeLine, String.reduceEq, String.reduceNe, Int.reduceAdd, Int.reduceSub, Int.reduceMul, Int.reduceNeg, Int.reduceLE, Int.reduceLT, Int.reduceEq, Nat.add_assoc, both_ok], fun _ => by
          simp only [ev_rd, ev_addI, ev_subI, ev_ltI, ev_leI, ev_gtI, ev_geI, ev_eqI, ev_neI, ev_eqS, ev_neS, ev_negI, ev_absI, ev_intI, ev_intB, ev_nx, ev_rt, ev_bk, ev_ct, ev_bind, ev_st, ev_seq, ev_next, ev_brk, ev_cnt, ev_kIf1, ev_kIf0, ev_if, ev_kRt, ev_ret, ev_retN, ev_kSet, ev_set, ev_kDrop, ev_drop, ev_kVar, ev_var, ev_c, ev_k2, ev_d2, ev_d1, ev_nil, ev_kCons2, ev_kCons, ev_cons, ev_call, ev_kIsB, ev_isB, ev_kAnd1, ev_kAnd0, ev_and, ev_kOr1, ev_kOr0, ev_or, ev_kNot, ev_not, ev_kAndV1, ev_kAndV0, ev_andV, ev_kOrV1, ev_kOrV0, ev_orV, ev_kNotV, ev_notV, ev_kIfE1, ev_kIfE0, ev_ifE, ev_kCh31, ev_kCh30, ev_kCh2, ev_kCh1, ev_chain, ev_tmp, ev_kFunN, ev_kFunR, ev_fun, ev_env, ev_iter, ev_kFor, ev_for, ev_kLc, ev_lc, ev_rng, ev_no, ev_kPart, ev_part, ev_kSl1, ev_kSl, ev_sl, ev_kMeth0S, ev_meth0, ev_kMethS, ev_meth, ev_rdC, ev_rdP, ev_lvwC, ev_lvw, ev_lvwR, ev_lvwL, ev_tvwR, ev_tvwT, ev_svwR, ev_svwT, ev_svwC, ev_svw, ev_kOk, ev_kOkD, ev_ixC, ev_ix, ev_ixRls, ev_ixTup, ev_at0, ev_at1, ev_at2, ev_at3, ev_lenC, ev_len, ev_lenRls, ev_lenTup, ev_addC, ev_add, ev_appC, ev_app, ev_mthC, ev_mth, ev_mth0C, ev_mth0, ev_itC, ev_it, ev_itR, ev_itT, ev_itS, ev_vals0, ev_vals1, ev_frzV, ev_frzC, ev_frzCf, ev_frz, ev_frzK, ev_frzA0, ev_frzAv, ev_frzAp, ev_kMkT2, ev_kMkT, ev_mkT, ev_rdF, ev_map0, ev_map1, ev_omap, ev_kF2n, ev_kF2c, ev_kF2b, ev_kF2r, ev_kF1, ev_F1, ev_F0, ev_F1c, ev_F0c, ev_gnm, ev_gnil, ev_kGc, ev_gcons, ev_gtup, ev_kC4, ev_kC3, ev_kC21, ev_kC20, ev_kC1, ev_C1, ev_C0, ev_C1c, ev_C0c, ev_yes, ev_wipe0, ev_wipe1, ev_mkLi, ev_lsxC, ev_lsxD, ev_lsx, ev_lsxR, ev_lsxL, ev_lsxT, ev_kOkT, ev_tupC, ev_tup, ev_tupR, ev_tupL, ev_tupT, ev_tvwL, ev_svwL, ev_ixL, ev_lenL, ev_itL, ev_callK, ev_kCK, ev_kCK2, ev_permL, ev_kIsi, ev_isi, ev_tyI, ev_tyB, ev_tyS, ev_tyN, ev_tyT, ev_tyL, ev_tyR, ev_kit1, ev_kit2, ev_kit3, ev_kit4, ev_kit5, ev_kit6, ev_kit7, ev_eqIL, ev_eqPRC, ev_eqPR, ev_eqPL, ev_int0, ev_int1, ev_kSum, ev_sum, ev_kAllB, ev_all, ev_bl0, ev_bl1, ev_kRev, ev_rev, ev_slC, ev_slP, ev_slR, ev_pop, ev_kOrS, ev_kOrSs, ev_orS, ev_kPut2, ev_kPut1, ev_putL, ev_putN, ev_putC, ev_putCd, ev_kPut3, ev_kPut3s, ev_kPd2, ev_kPd1, ev_putD, ev_pdC, ev_kPd3S, ev_kPd3I, ev_kKG1, ev_kget, ev_kKG2, ev_nc0, ev_nc1, ev_ncn, ev_while, ev_niC, ev_inC, ev_signs, ev_itMk, ev_eqB, ev_inC2, ev_inP, ev_kIn, ev_kNi, ev_inPP, ev_niPP, ev_inT, ev_niT, ev_kPc3, ev_kPc2, ev_kPc1, ev_pc, ev_dispC, ev_kDisp, ev_disp, ev_keys0, ev_keysS, ev_merge, ev_g3C, ev_kG3, ev_kG2, ev_g1C, ev_kG1, ev_get2, ev_rng1, str_cW, len_rngW, BEq.rfl, beq_self_eq_true, low_dic, List.any_cons, List.any_nil, Bool.or_false, Bool.false_or, Bool.true_or, Bool.or_true, Sum.inr.injEq, Sum.inl.injEq, low_bW, low_cW, len_bW, len_cW, bls_bW, iW_n, sW_n, List.length_singleton, at_iW, ix_last, set_iW, pop_iW, int_iW, str_sW, List.map_cons, List.map_nil, List.length_cons, List.length_nil, List.cons_append, List.nil_append, List.append_assoc, List.getElem?_cons_zero, List.getElem?_cons_succ, List.set_cons_zero, List.set_cons_succ, List.replicate_zero, List.replicate_succ, List.append_nil, List.filterMap_cons, List.filterMap_nil, and_self, List.length_append, List.length_set, st_at0, st_at, st_set0, st_set, settle_v0, settle_v, cl_nil, cl_cons, cl_self, cl_app, cl_app2, settle_vg, settle_pg, sPC_some, low_lst, low_frz, low_val, low_ptr, take_app, take_app0, lt_f, lt_f1, all_nil, all_cons, low_iW, low_sW, len_iW, len_sW, List.take_succ_cons, List.take_zero, List.take_length, true_or, or_true, Bool.and_true, Bool.true_and, true_and, and_true, Nat.lt_irrefl, Nat.add_lt_add_iff_left, Option.map_some, Option.bind_some, decide_true, decide_false, decide_eq_true_eq, eq_self, if_true, if_false, Bool.not_true, Bool.not_false, reduceIte, Bool.false_eq_true, Nat.add_zero, Nat.zero_add, Nat.reduceAdd, Nat.reduceSub, Nat.reduceLeDiff, Nat.reduceLT, Nat.reduceMul, Nat.reducePow, ofS_inj, sizeLine, String.reduceEq, String.reduceNe, Int.reduceAdd, Int.reduceSub, Int.reduceMul, Int.reduceNeg, Int.reduceLE, Int.reduceLT, Int.reduceEq, Nat.add_assoc]; rfl⟩) [] (by show 0 + (c :: t).length < 16777216; omega)
    rw [show (c :: t).map (fun c : Nat => W.val (.str ⟨#[c]⟩)) = cW (c :: t) from rfl, List.nil_append] at e1
    change _ = R.ok _ (M ++ [Cell.lst (cW _)]) at e1
    rw [List.map_id] at e1
    by_cases h8 : 8 < ((t.length + 1 : Nat) : Int)
    · have h8' : ¬ ((t.length + 1 : Nat) : Int) ≤ 8 := by omega
      simp only [u_Lis_word, d_Lis_word, p_Lis_word_1, e_Lis_word_2, ev_rd, ev_addI, ev_subI, ev_ltI, ev_leI, ev_gtI, ev_geI, ev_eqI, ev_neI, ev_eqS, ev_neS, ev_negI, ev_absI, ev_intI, ev_intB, ev_nx, ev_rt, ev_bk, ev_ct, ev_bind, ev_st, ev_seq, ev_next, ev_brk, ev_cnt, ev_kIf1, ev_kIf0, ev_if, ev_kRt, ev_ret, ev_retN, ev_kSet, ev_set, ev_kDrop, ev_drop, ev_kVar, ev_var, ev_c, ev_k2, ev_d2, ev_d1, ev_nil, ev_kCons2, ev_kCons, ev_cons, ev_call, ev_kIsB, ev_isB, ev_kAnd1, ev_kAnd0, ev_and, ev_kOr1, ev_kOr0, ev_or, ev_kNot, ev_not, ev_kAndV1, ev_kAndV0, ev_andV, ev_kOrV1, ev_kOrV0, ev_orV, ev_kNotV, ev_notV, ev_kIfE1, ev_kIfE0, ev_ifE, ev_kCh31, ev_kCh30, ev_kCh2, ev_kCh1, ev_chain, ev_tmp, ev_kFunN, ev_kFunR, ev_fun, ev_env, ev_iter, ev_kFor, ev_for, ev_kLc, ev_lc, ev_rng, ev_no, ev_kPart, ev_part, ev_kSl1, ev_kSl, ev_sl, ev_kMeth0S, ev_meth0, ev_kMethS, ev_meth, ev_rdC, ev_rdP, ev_lvwC, ev_lvw, ev_lvwR, ev_lvwL, ev_tvwR, ev_tvwT, ev_svwR, ev_svwT, ev_svwC, ev_svw, ev_kOk, ev_kOkD, ev_ixC, ev_ix, ev_ixRls, ev_ixTup, ev_at0, ev_at1, ev_at2, ev_at3, ev_lenC, ev_len, ev_lenRls, ev_lenTup, ev_addC, ev_add, ev_appC, ev_app, ev_mthC, ev_mth, ev_mth0C, ev_mth0, ev_itC, ev_it, ev_itR, ev_itT, ev_itS, ev_vals0, ev_vals1, ev_frzV, ev_frzC, ev_frzCf, ev_frz, ev_frzK, ev_frzA0, ev_frzAv, ev_frzAp, ev_kMkT2, ev_kMkT, ev_mkT, ev_rdF, ev_map0, ev_map1, ev_omap, ev_kF2n, ev_kF2c, ev_kF2b, ev_kF2r, ev_kF1, ev_F1, ev_F0, ev_F1c, ev_F0c, ev_gnm, ev_gnil, ev_kGc, ev_gcons, ev_gtup, ev_kC4, ev_kC3, ev_kC21, ev_kC20, ev_kC1, ev_C1, ev_C0, ev_C1c, ev_C0c, ev_yes, ev_wipe0, ev_wipe1, ev_mkLi, ev_lsxC, ev_lsxD, ev_lsx, ev_lsxR, ev_lsxL, ev_lsxT, ev_kOkT, ev_tupC, ev_tup, ev_tupR, ev_tupL, ev_tupT, ev_tvwL, ev_svwL, ev_ixL, ev_lenL, ev_itL, ev_callK, ev_kCK, ev_kCK2, ev_permL, ev_kIsi, ev_isi, ev_tyI, ev_tyB, ev_tyS, ev_tyN, ev_tyT, ev_tyL, ev_tyR, ev_kit1, ev_kit2, ev_kit3, ev_kit4, ev_kit5, ev_kit6, ev_kit7, ev_eqIL, ev_eqPRC, ev_eqPR, ev_eqPL, ev_int0, ev_int1, ev_kSum, ev_sum, ev_kAllB, ev_all, ev_bl0, ev_bl1, ev_kRev, ev_rev, ev_slC, ev_slP, ev_slR, ev_pop, ev_kOrS, ev_kOrSs, ev_orS, ev_kPut2, ev_kPut1, ev_putL, ev_putN, ev_putC, ev_putCd, ev_kPut3, ev_kPut3s, ev_kPd2, ev_kPd1, ev_putD, ev_pdC, ev_kPd3S, ev_kPd3I, ev_kKG1, ev_kget, ev_kKG2, ev_nc0, ev_nc1, ev_ncn, ev_while, ev_niC, ev_inC, ev_signs, ev_itMk, ev_eqB, ev_inC2, ev_inP, ev_kIn, ev_kNi, ev_inPP, ev_niPP, ev_inT, ev_niT, ev_kPc3, ev_kPc2, ev_kPc1, ev_pc, ev_dispC, ev_kDisp, ev_disp, ev_keys0, ev_keysS, ev_merge, ev_g3C, ev_kG3, ev_kG2, ev_g1C, ev_kG1, ev_get2, ev_rng1, str_cW, len_rngW, BEq.rfl, beq_self_eq_true, low_dic, List.any_cons, List.any_nil, Bool.or_false, Bool.false_or, Bool.true_or, Bool.or_true, Sum.inr.injEq, Sum.inl.injEq, low_bW, low_cW, len_bW, len_cW, bls_bW, iW_n, sW_n, List.length_singleton, at_iW, ix_last, set_iW, pop_iW, int_iW, str_sW, List.map_cons, List.map_nil, List.length_cons, List.length_nil, List.cons_append, List.nil_append, List.append_assoc, List.getElem?_cons_zero, List.getElem?_cons_succ, List.set_cons_zero, List.set_cons_succ, List.replicate_zero, List.replicate_succ, List.append_nil, List.filterMap_cons, List.filterMap_nil, and_self, List.length_append, List.length_set, st_at0, st_at, st_set0, st_set, settle_v0, settle_v, cl_nil, cl_cons, cl_self, cl_app, cl_app2, settle_vg, settle_pg, sPC_some, low_lst, low_frz, low_val, low_ptr, take_app, take_app0, lt_f, lt_f1, all_nil, all_cons, low_iW, low_sW, len_iW, len_sW, List.take_succ_cons, List.take_zero, List.take_length, true_or, or_true, Bool.and_true, Bool.true_and, true_and, and_true, Nat.lt_irrefl, Nat.add_lt_add_iff_left, Option.map_some, Option.bind_some, decide_true, decide_false, decide_eq_true_eq, eq_self, if_true, if_false, Bool.not_true, Bool.not_false, reduceIte, Bool.false_eq_true, Nat.add_zero, Nat.zero_add, Nat.reduceAdd, Nat.reduceSub, Nat.reduceLeDiff, Nat.reduceLT, Nat.reduceMul, Nat.reducePow, ofS_inj, sizeLine, String.reduceEq, String.reduceNe, Int.reduceAdd, Int.reduceSub, Int.reduceMul, Int.reduceNeg, Int.reduceLE, Int.reduceLT, Int.reduceEq, Nat.add_assoc, len_mk hl2, n0, h8]
      simp [isW, h8']
      omega
    · have h8' : ((t.length + 1 : Nat) : Int) ≤ 8 := by omega
      cases hc : memC c LET with
      | true =>
        simp only [u_Lis_word, d_Lis_word, p_Lis_word_1, e_Lis_word_2, ev_rd, ev_addI, ev_subI, ev_ltI, ev_leI, ev_gtI, ev_geI, ev_eqI, ev_neI, ev_eqS, ev_neS, ev_negI, ev_absI, ev_intI, ev_intB, ev_nx, ev_rt, ev_bk, ev_ct, ev_bind, ev_st, ev_seq, ev_next, ev_brk, ev_cnt, ev_kIf1, ev_kIf0, ev_if, ev_kRt, ev_ret, ev_retN, ev_kSet, ev_set, ev_kDrop, ev_drop, ev_kVar, ev_var, ev_c, ev_k2, ev_d2, ev_d1, ev_nil, ev_kCons2, ev_kCons, ev_cons, ev_call, ev_kIsB, ev_isB, ev_kAnd1, ev_kAnd0, ev_and, ev_kOr1, ev_kOr0, ev_or, ev_kNot, ev_not, ev_kAndV1, ev_kAndV0, ev_andV, ev_kOrV1, ev_kOrV0, ev_orV, ev_kNotV, ev_notV, ev_kIfE1, ev_kIfE0, ev_ifE, ev_kCh31, ev_kCh30, ev_kCh2, ev_kCh1, ev_chain, ev_tmp, ev_kFunN, ev_kFunR, ev_fun, ev_env, ev_iter, ev_kFor, ev_for, ev_kLc, ev_lc, ev_rng, ev_no, ev_kPart, ev_part, ev_kSl1, ev_kSl, ev_sl, ev_kMeth0S, ev_meth0, ev_kMethS, ev_meth, ev_rdC, ev_rdP, ev_lvwC, ev_lvw, ev_lvwR, ev_lvwL, ev_tvwR, ev_tvwT, ev_svwR, ev_svwT, ev_svwC, ev_svw, ev_kOk, ev_kOkD, ev_ixC, ev_ix, ev_ixRls, ev_ixTup, ev_at0, ev_at1, ev_at2, ev_at3, ev_lenC, ev_len, ev_lenRls, ev_lenTup, ev_addC, ev_add, ev_appC, ev_app, ev_mthC, ev_mth, ev_mth0C, ev_mth0, ev_itC, ev_it, ev_itR, ev_itT, ev_itS, ev_vals0, ev_vals1, ev_frzV, ev_frzC, ev_frzCf, ev_frz, ev_frzK, ev_frzA0, ev_frzAv, ev_frzAp, ev_kMkT2, ev_kMkT, ev_mkT, ev_rdF, ev_map0, ev_map1, ev_omap, ev_kF2n, ev_kF2c, ev_kF2b, ev_kF2r, ev_kF1, ev_F1, ev_F0, ev_F1c, ev_F0c, ev_gnm, ev_gnil, ev_kGc, ev_gcons, ev_gtup, ev_kC4, ev_kC3, ev_kC21, ev_kC20, ev_kC1, ev_C1, ev_C0, ev_C1c, ev_C0c, ev_yes, ev_wipe0, ev_wipe1, ev_mkLi, ev_lsxC, ev_lsxD, ev_lsx, ev_lsxR, ev_lsxL, ev_lsxT, ev_kOkT, ev_tupC, ev_tup, ev_tupR, ev_tupL, ev_tupT, ev_tvwL, ev_svwL, ev_ixL, ev_lenL, ev_itL, ev_callK, ev_kCK, ev_kCK2, ev_permL, ev_kIsi, ev_isi, ev_tyI, ev_tyB, ev_tyS, ev_tyN, ev_tyT, ev_tyL, ev_tyR, ev_kit1, ev_kit2, ev_kit3, ev_kit4, ev_kit5, ev_kit6, ev_kit7, ev_eqIL, ev_eqPRC, ev_eqPR, ev_eqPL, ev_int0, ev_int1, ev_kSum, ev_sum, ev_kAllB, ev_all, ev_bl0, ev_bl1, ev_kRev, ev_rev, ev_slC, ev_slP, ev_slR, ev_pop, ev_kOrS, ev_kOrSs, ev_orS, ev_kPut2, ev_kPut1, ev_putL, ev_putN, ev_putC, ev_putCd, ev_kPut3, ev_kPut3s, ev_kPd2, ev_kPd1, ev_putD, ev_pdC, ev_kPd3S, ev_kPd3I, ev_kKG1, ev_kget, ev_kKG2, ev_nc0, ev_nc1, ev_ncn, ev_while, ev_niC, ev_inC, ev_signs, ev_itMk, ev_eqB, ev_inC2, ev_inP, ev_kIn, ev_kNi, ev_inPP, ev_niPP, ev_inT, ev_niT, ev_kPc3, ev_kPc2, ev_kPc1, ev_pc, ev_dispC, ev_kDisp, ev_disp, ev_keys0, ev_keysS, ev_merge, ev_g3C, ev_kG3, ev_kG2, ev_g1C, ev_kG1, ev_get2, ev_rng1, str_cW, len_rngW, BEq.rfl, beq_self_eq_true, low_dic, List.any_cons, List.any_nil, Bool.or_false, Bool.false_or, Bool.true_or, Bool.or_true, Sum.inr.injEq, Sum.inl.injEq, low_bW, low_cW, len_bW, len_cW, bls_bW, iW_n, sW_n, List.length_singleton, at_iW, ix_last, set_iW, pop_iW, int_iW, str_sW, List.map_cons, List.map_nil, List.length_cons, List.length_nil, List.cons_append, List.nil_append, List.append_assoc, List.getElem?_cons_zero, List.getElem?_cons_succ, List.set_cons_zero, List.set_cons_succ, List.replicate_zero, List.replicate_succ, List.append_nil, List.filterMap_cons, List.filterMap_nil, and_self, List.length_append, List.length_set, st_at0, st_at, st_set0, st_set, settle_v0, settle_v, cl_nil, cl_cons, cl_self, cl_app, cl_app2, settle_vg, settle_pg, sPC_some, low_lst, low_frz, low_val, low_ptr, take_app, take_app0, lt_f, lt_f1, all_nil, all_cons, low_iW, low_sW, len_iW, len_sW, List.take_succ_cons, List.take_zero, List.take_length, true_or, or_true, Bool.and_true, Bool.true_and, true_and, and_true, Nat.lt_irrefl, Nat.add_lt_add_iff_left, Option.map_some, Option.bind_some, decide_true, decide_false, decide_eq_true_eq, eq_self, if_true, if_false, Bool.not_true, Bool.not_false, reduceIte, Bool.false_eq_true, Nat.add_zero, Nat.zero_add, Nat.reduceAdd, Nat.reduceSub, Nat.reduceLeDiff, Nat.reduceLT, Nat.reduceMul, Nat.reducePow, ofS_inj, sizeLine, String.reduceEq, String.reduceNe, Int.reduceAdd, Int.reduceSub, Int.reduceMul, Int.reduceNeg, Int.reduceLE, Int.reduceLT, Int.reduceEq, Nat.add_assoc, len_mk hl2, ix0_mk hl2, n0, h8, letters_ok, hc, e1, len_cW]
        have e2 : isW (c :: t) = (c :: t).all fun d => memC d BOTH := by
          simp only [isW, h8', hc, BOTH, memC_app, decide_true, Bool.true_and]
        rw [e2, all_filter (fun d => memC d BOTH)]
      | false =>
        simp only [u_Lis_word, d_Lis_word, p_Lis_word_1, e_Lis_word_2, ev_rd, ev_addI, ev_subI, ev_ltI, ev_leI, ev_gtI, ev_geI, ev_eqI, ev_neI, ev_eqS, ev_neS, ev_negI, ev_absI, ev_intI, ev_intB, ev_nx, ev_rt, ev_bk, ev_ct, ev_bind, ev_st, ev_seq, ev_next, ev_brk, ev_cnt, ev_kIf1, ev_kIf0, ev_if, ev_kRt, ev_ret, ev_retN, ev_kSet, ev_set, ev_kDrop, ev_drop, ev_kVar, ev_var, ev_c, ev_k2, ev_d2, ev_d1, ev_nil, ev_kCons2, ev_kCons, ev_cons, ev_call, ev_kIsB, ev_isB, ev_kAnd1, ev_kAnd0, ev_and, ev_kOr1, ev_kOr0, ev_or, ev_kNot, ev_not, ev_kAndV1, ev_kAndV0, ev_andV, ev_kOrV1, ev_kOrV0, ev_orV, ev_kNotV, ev_notV, ev_kIfE1, ev_kIfE0, ev_ifE, ev_kCh31, ev_kCh30, ev_kCh2, ev_kCh1, ev_chain, ev_tmp, ev_kFunN, ev_kFunR, ev_fun, ev_env, ev_iter, ev_kFor, ev_for, ev_kLc, ev_lc, ev_rng, ev_no, ev_kPart, ev_part, ev_kSl1, ev_kSl, ev_sl, ev_kMeth0S, ev_meth0, ev_kMethS, ev_meth, ev_rdC, ev_rdP, ev_lvwC, ev_lvw, ev_lvwR, ev_lvwL, ev_tvwR, ev_tvwT, ev_svwR, ev_svwT, ev_svwC, ev_svw, ev_kOk, ev_kOkD, ev_ixC, ev_ix, ev_ixRls, ev_ixTup, ev_at0, ev_at1, ev_at2, ev_at3, ev_lenC, ev_len, ev_lenRls, ev_lenTup, ev_addC, ev_add, ev_appC, ev_app, ev_mthC, ev_mth, ev_mth0C, ev_mth0, ev_itC, ev_it, ev_itR, ev_itT, ev_itS, ev_vals0, ev_vals1, ev_frzV, ev_frzC, ev_frzCf, ev_frz, ev_frzK, ev_frzA0, ev_frzAv, ev_frzAp, ev_kMkT2, ev_kMkT, ev_mkT, ev_rdF, ev_map0, ev_map1, ev_omap, ev_kF2n, ev_kF2c, ev_kF2b, ev_kF2r, ev_kF1, ev_F1, ev_F0, ev_F1c, ev_F0c, ev_gnm, ev_gnil, ev_kGc, ev_gcons, ev_gtup, ev_kC4, ev_kC3, ev_kC21, ev_kC20, ev_kC1, ev_C1, ev_C0, ev_C1c, ev_C0c, ev_yes, ev_wipe0, ev_wipe1, ev_mkLi, ev_lsxC, ev_lsxD, ev_lsx, ev_lsxR, ev_lsxL, ev_lsxT, ev_kOkT, ev_tupC, ev_tup, ev_tupR, ev_tupL, ev_tupT, ev_tvwL, ev_svwL, ev_ixL, ev_lenL, ev_itL, ev_callK, ev_kCK, ev_kCK2, ev_permL, ev_kIsi, ev_isi, ev_tyI, ev_tyB, ev_tyS, ev_tyN, ev_tyT, ev_tyL, ev_tyR, ev_kit1, ev_kit2, ev_kit3, ev_kit4, ev_kit5, ev_kit6, ev_kit7, ev_eqIL, ev_eqPRC, ev_eqPR, ev_eqPL, ev_int0, ev_int1, ev_kSum, ev_sum, ev_kAllB, ev_all, ev_bl0, ev_bl1, ev_kRev, ev_rev, ev_slC, ev_slP, ev_slR, ev_pop, ev_kOrS, ev_kOrSs, ev_orS, ev_kPut2, ev_kPut1, ev_putL, ev_putN, ev_putC, ev_putCd, ev_kPut3, ev_kPut3s, ev_kPd2, ev_kPd1, ev_putD, ev_pdC, ev_kPd3S, ev_kPd3I, ev_kKG1, ev_kget, ev_kKG2, ev_nc0, ev_nc1, ev_ncn, ev_while, ev_niC, ev_inC, ev_signs, ev_itMk, ev_eqB, ev_inC2, ev_inP, ev_kIn, ev_kNi, ev_inPP, ev_niPP, ev_inT, ev_niT, ev_kPc3, ev_kPc2, ev_kPc1, ev_pc, ev_dispC, ev_kDisp, ev_disp, ev_keys0, ev_keysS, ev_merge, ev_g3C, ev_kG3, ev_kG2, ev_g1C, ev_kG1, ev_get2, ev_rng1, str_cW, len_rngW, BEq.rfl, beq_self_eq_true, low_dic, List.any_cons, List.any_nil, Bool.or_false, Bool.false_or, Bool.true_or, Bool.or_true, Sum.inr.injEq, Sum.inl.injEq, low_bW, low_cW, len_bW, len_cW, bls_bW, iW_n, sW_n, List.length_singleton, at_iW, ix_last, set_iW, pop_iW, int_iW, str_sW, List.map_cons, List.map_nil, List.length_cons, List.length_nil, List.cons_append, List.nil_append, List.append_assoc, List.getElem?_cons_zero, List.getElem?_cons_succ, List.set_cons_zero, List.set_cons_succ, List.replicate_zero, List.replicate_succ, List.append_nil, List.filterMap_cons, List.filterMap_nil, and_self, List.length_append, List.length_set, st_at0, st_at, st_set0, st_set, settle_v0, settle_v, cl_nil, cl_cons, cl_self, cl_app, cl_app2, settle_vg, settle_pg, sPC_some, low_lst, low_frz, low_val, low_ptr, take_app, take_app0, lt_f, lt_f1, all_nil, all_cons, low_iW, low_sW, len_iW, len_sW, List.take_succ_cons, List.take_zero, List.take_length, true_or, or_true, Bool.and_true, Bool.true_and, true_and, and_true, Nat.lt_irrefl, Nat.add_lt_add_iff_left, Option.map_some, Option.bind_some, decide_true, decide_false, decide_eq_true_eq, eq_self, if_true, if_false, Bool.not_true, Bool.not_false, reduceIte, Bool.false_eq_true, Nat.add_zero, Nat.zero_add, Nat.reduceAdd, Nat.reduceSub, Nat.reduceLeDiff, Nat.reduceLT, Nat.reduceMul, Nat.reducePow, ofS_inj, sizeLine, String.reduceEq, String.reduceNe, Int.reduceAdd, Int.reduceSub, Int.reduceMul, Int.reduceNeg, Int.reduceLE, Int.reduceLT, Int.reduceEq, Nat.add_assoc, len_mk hl2, ix0_mk hl2, n0, h8, letters_ok, hc]
        simp [isW, hc]
def RES : List Str := ["values", "array", "var", "loop", "let", "set", "put", "if", "else", "end", "leave", "round", "pick", "old", "unit", "kind"]
theorem reserved_ok : m_Lreserved [] M = .ok (.ptr M.length) (M ++ [.lst (sW RES)]) := by
  have e := split_of (M := M) (x := "values array var loop let set put if else end leave round pick old unit kind") (z := " ") (ys := RES) (by decide +kernel) (by decide +kernel) (by decide +kernel)
  simp only [u_Lreserved, d_Lreserved, ev_rd, ev_addI, ev_subI, ev_ltI, ev_leI, ev_gtI, ev_geI, ev_eqI, ev_neI, ev_eqS, ev_neS, ev_negI, ev_absI, ev_intI, ev_intB, ev_nx, ev_rt, ev_bk, ev_ct, ev_bind, ev_st, ev_seq, ev_next, ev_brk, ev_cnt, ev_kIf1, ev_kIf0, ev_if, ev_kRt, ev_ret, ev_retN, ev_kSet, ev_set, ev_kDrop, ev_drop, ev_kVar, ev_var, ev_c, ev_k2, ev_d2, ev_d1, ev_nil, ev_kCons2, ev_kCons, ev_cons, ev_call, ev_kIsB, ev_isB, ev_kAnd1, ev_kAnd0, ev_and, ev_kOr1, ev_kOr0, ev_or, ev_kNot, ev_not, ev_kAndV1, ev_kAndV0, ev_andV, ev_kOrV1, ev_kOrV0, ev_orV, ev_kNotV, ev_notV, ev_kIfE1, ev_kIfE0, ev_ifE, ev_kCh31, ev_kCh30, ev_kCh2, ev_kCh1, ev_chain, ev_tmp, ev_kFunN, ev_kFunR, ev_fun, ev_env, ev_iter, ev_kFor, ev_for, ev_kLc, ev_lc, ev_rng, ev_no, ev_kPart, ev_part, ev_kSl1, ev_kSl, ev_sl, ev_kMeth0S, ev_meth0, ev_kMethS, ev_meth, ev_rdC, ev_rdP, ev_lvwC, ev_lvw, ev_lvwR, ev_lvwL, ev_tvwR, ev_tvwT, ev_svwR, ev_svwT, ev_svwC, ev_svw, ev_kOk, ev_kOkD, ev_ixC, ev_ix, ev_ixRls, ev_ixTup, ev_at0, ev_at1, ev_at2, ev_at3, ev_lenC, ev_len, ev_lenRls, ev_lenTup, ev_addC, ev_add, ev_appC, ev_app, ev_mthC, ev_mth, ev_mth0C, ev_mth0, ev_itC, ev_it, ev_itR, ev_itT, ev_itS, ev_vals0, ev_vals1, ev_frzV, ev_frzC, ev_frzCf, ev_frz, ev_frzK, ev_frzA0, ev_frzAv, ev_frzAp, ev_kMkT2, ev_kMkT, ev_mkT, ev_rdF, ev_map0, ev_map1, ev_omap, ev_kF2n, ev_kF2c, ev_kF2b, ev_kF2r, ev_kF1, ev_F1, ev_F0, ev_F1c, ev_F0c, ev_gnm, ev_gnil, ev_kGc, ev_gcons, ev_gtup, ev_kC4, ev_kC3, ev_kC21, ev_kC20, ev_kC1, ev_C1, ev_C0, ev_C1c, ev_C0c, ev_yes, ev_wipe0, ev_wipe1, ev_mkLi, ev_lsxC, ev_lsxD, ev_lsx, ev_lsxR, ev_lsxL, ev_lsxT, ev_kOkT, ev_tupC, ev_tup, ev_tupR, ev_tupL, ev_tupT, ev_tvwL, ev_svwL, ev_ixL, ev_lenL, ev_itL, ev_callK, ev_kCK, ev_kCK2, ev_permL, ev_kIsi, ev_isi, ev_tyI, ev_tyB, ev_tyS, ev_tyN, ev_tyT, ev_tyL, ev_tyR, ev_kit1, ev_kit2, ev_kit3, ev_kit4, ev_kit5, ev_kit6, ev_kit7, ev_eqIL, ev_eqPRC, ev_eqPR, ev_eqPL, ev_int0, ev_int1, ev_kSum, ev_sum, ev_kAllB, ev_all, ev_bl0, ev_bl1, ev_kRev, ev_rev, ev_slC, ev_slP, ev_slR, ev_pop, ev_kOrS, ev_kOrSs, ev_orS, ev_kPut2, ev_kPut1, ev_putL, ev_putN, ev_putC, ev_putCd, ev_kPut3, ev_kPut3s, ev_kPd2, ev_kPd1, ev_putD, ev_pdC, ev_kPd3S, ev_kPd3I, ev_kKG1, ev_kget, ev_kKG2, ev_nc0, ev_nc1, ev_ncn, ev_while, ev_niC, ev_inC, ev_signs, ev_itMk, ev_eqB, ev_inC2, ev_inP, ev_kIn, ev_kNi, ev_inPP, ev_niPP, ev_inT, ev_niT, ev_kPc3, ev_kPc2, ev_kPc1, ev_pc, ev_dispC, ev_kDisp, ev_disp, ev_keys0, ev_keysS, ev_merge, ev_g3C, ev_kG3, ev_kG2, ev_g1C, ev_kG1, ev_get2, ev_rng1, str_cW, len_rngW, BEq.rfl, beq_self_eq_true, low_dic, List.any_cons, List.any_nil, Bool.or_false, Bool.false_or, Bool.true_or, Bool.or_true, Sum.inr.injEq, Sum.inl.injEq, low_bW, low_cW, len_bW, len_cW, bls_bW, iW_n, sW_n, List.length_singleton, at_iW, ix_last, set_iW, pop_iW, int_iW, str_sW, List.map_cons, List.map_nil, List.length_cons, List.length_nil, List.cons_append, List.nil_append, List.append_assoc, List.getElem?_cons_zero, List.getElem?_cons_succ, List.set_cons_zero, List.set_cons_succ, List.replicate_zero, List.replicate_succ, List.append_nil, List.filterMap_cons, List.filterMap_nil, and_self, List.length_append, List.length_set, st_at0, st_at, st_set0, st_set, settle_v0, settle_v, cl_nil, cl_cons, cl_self, cl_app, cl_app2, settle_vg, settle_pg, sPC_some, low_lst, low_frz, low_val, low_ptr, take_app, take_app0, lt_f, lt_f1, all_nil, all_cons, low_iW, low_sW, len_iW, len_sW, List.take_succ_cons, List.take_zero, List.take_length, true_or, or_true, Bool.and_true, Bool.true_and, true_and, and_true, Nat.lt_irrefl, Nat.add_lt_add_iff_left, Option.map_some, Option.bind_some, decide_true, decide_false, decide_eq_true_eq, eq_self, if_true, if_false, Bool.not_true, Bool.not_false, reduceIte, Bool.false_eq_true, Nat.add_zero, Nat.zero_add, Nat.reduceAdd, Nat.reduceSub, Nat.reduceLeDiff, Nat.reduceLT, Nat.reduceMul, Nat.reducePow, ofS_inj, sizeLine, String.reduceEq, String.reduceNe, Int.reduceAdd, Int.reduceSub, Int.reduceMul, Int.reduceNeg, Int.reduceLE, Int.reduceLT, Int.reduceEq, Nat.add_assoc, e]
def CNT : List (Key × W) := t_OPERANDS.map fun q => (.inr q.1, .val q.2)
theorem counts_ok : m_Loperand_counts [] M = .ok (.ptr M.length) (M ++ [.dic CNT]) := by
  simp only [u_Loperand_counts, d_Loperand_counts, l_Loperand_counts_1, ev_rd, ev_addI, ev_subI, ev_ltI, ev_leI, ev_gtI, ev_geI, ev_eqI, ev_neI, ev_eqS, ev_neS, ev_negI, ev_absI, ev_intI, ev_intB, ev_nx, ev_rt, ev_bk, ev_ct, ev_bind, ev_st, ev_seq, ev_next, ev_brk, ev_cnt, ev_kIf1, ev_kIf0, ev_if, ev_kRt, ev_ret, ev_retN, ev_kSet, ev_set, ev_kDrop, ev_drop, ev_kVar, ev_var, ev_c, ev_k2, ev_d2, ev_d1, ev_nil, ev_kCons2, ev_kCons, ev_cons, ev_call, ev_kIsB, ev_isB, ev_kAnd1, ev_kAnd0, ev_and, ev_kOr1, ev_kOr0, ev_or, ev_kNot, ev_not, ev_kAndV1, ev_kAndV0, ev_andV, ev_kOrV1, ev_kOrV0, ev_orV, ev_kNotV, ev_notV, ev_kIfE1, ev_kIfE0, ev_ifE, ev_kCh31, ev_kCh30, ev_kCh2, ev_kCh1, ev_chain, ev_tmp, ev_kFunN, ev_kFunR, ev_fun, ev_env, ev_iter, ev_kFor, ev_for, ev_kLc, ev_lc, ev_rng, ev_no, ev_kPart, ev_part, ev_kSl1, ev_kSl, ev_sl, ev_kMeth0S, ev_meth0, ev_kMethS, ev_meth, ev_rdC, ev_rdP, ev_lvwC, ev_lvw, ev_lvwR, ev_lvwL, ev_tvwR, ev_tvwT, ev_svwR, ev_svwT, ev_svwC, ev_svw, ev_kOk, ev_kOkD, ev_ixC, ev_ix, ev_ixRls, ev_ixTup, ev_at0, ev_at1, ev_at2, ev_at3, ev_lenC, ev_len, ev_lenRls, ev_lenTup, ev_addC, ev_add, ev_appC, ev_app, ev_mthC, ev_mth, ev_mth0C, ev_mth0, ev_itC, ev_it, ev_itR, ev_itT, ev_itS, ev_vals0, ev_vals1, ev_frzV, ev_frzC, ev_frzCf, ev_frz, ev_frzK, ev_frzA0, ev_frzAv, ev_frzAp, ev_kMkT2, ev_kMkT, ev_mkT, ev_rdF, ev_map0, ev_map1, ev_omap, ev_kF2n, ev_kF2c, ev_kF2b, ev_kF2r, ev_kF1, ev_F1, ev_F0, ev_F1c, ev_F0c, ev_gnm, ev_gnil, ev_kGc, ev_gcons, ev_gtup, ev_kC4, ev_kC3, ev_kC21, ev_kC20, ev_kC1, ev_C1, ev_C0, ev_C1c, ev_C0c, ev_yes, ev_wipe0, ev_wipe1, ev_mkLi, ev_lsxC, ev_lsxD, ev_lsx, ev_lsxR, ev_lsxL, ev_lsxT, ev_kOkT, ev_tupC, ev_tup, ev_tupR, ev_tupL, ev_tupT, ev_tvwL, ev_svwL, ev_ixL, ev_lenL, ev_itL, ev_callK, ev_kCK, ev_kCK2, ev_permL, ev_kIsi, ev_isi, ev_tyI, ev_tyB, ev_tyS, ev_tyN, ev_tyT, ev_tyL, ev_tyR, ev_kit1, ev_kit2, ev_kit3, ev_kit4, ev_kit5, ev_kit6, ev_kit7, ev_eqIL, ev_eqPRC, ev_eqPR, ev_eqPL, ev_int0, ev_int1, ev_kSum, ev_sum, ev_kAllB, ev_all, ev_bl0, ev_bl1, ev_kRev, ev_rev, ev_slC, ev_slP, ev_slR, ev_pop, ev_kOrS, ev_kOrSs, ev_orS, ev_kPut2, ev_kPut1, ev_putL, ev_putN, ev_putC, ev_putCd, ev_kPut3, ev_kPut3s, ev_kPd2, ev_kPd1, ev_putD, ev_pdC, ev_kPd3S, ev_kPd3I, ev_kKG1, ev_kget, ev_kKG2, ev_nc0, ev_nc1, ev_ncn, ev_while, ev_niC, ev_inC, ev_signs, ev_itMk, ev_eqB, ev_inC2, ev_inP, ev_kIn, ev_kNi, ev_inPP, ev_niPP, ev_inT, ev_niT, ev_kPc3, ev_kPc2, ev_kPc1, ev_pc, ev_dispC, ev_kDisp, ev_disp, ev_keys0, ev_keysS, ev_merge, ev_g3C, ev_kG3, ev_kG2, ev_g1C, ev_kG1, ev_get2, ev_rng1, str_cW, len_rngW, BEq.rfl, beq_self_eq_true, low_dic, List.any_cons, List.any_nil, Bool.or_false, Bool.false_or, Bool.true_or, Bool.or_true, Sum.inr.injEq, Sum.inl.injEq, low_bW, low_cW, len_bW, len_cW, bls_bW, iW_n, sW_n, List.length_singleton, at_iW, ix_last, set_iW, pop_iW, int_iW, str_sW, List.map_cons, List.map_nil, List.length_cons, List.length_nil, List.cons_append, List.nil_append, List.append_assoc, List.getElem?_cons_zero, List.getElem?_cons_succ, List.set_cons_zero, List.set_cons_succ, List.replicate_zero, List.replicate_succ, List.append_nil, List.filterMap_cons, List.filterMap_nil, and_self, List.length_append, List.length_set, st_at0, st_at, st_set0, st_set, settle_v0, settle_v, cl_nil, cl_cons, cl_self, cl_app, cl_app2, settle_vg, settle_pg, sPC_some, low_lst, low_frz, low_val, low_ptr, take_app, take_app0, lt_f, lt_f1, all_nil, all_cons, low_iW, low_sW, len_iW, len_sW, List.take_succ_cons, List.take_zero, List.take_length, true_or, or_true, Bool.and_true, Bool.true_and, true_and, and_true, Nat.lt_irrefl, Nat.add_lt_add_iff_left, Option.map_some, Option.bind_some, decide_true, decide_false, decide_eq_true_eq, eq_self, if_true, if_false, Bool.not_true, Bool.not_false, reduceIte, Bool.false_eq_true, Nat.add_zero, Nat.zero_add, Nat.reduceAdd, Nat.reduceSub, Nat.reduceLeDiff, Nat.reduceLT, Nat.reduceMul, Nat.reducePow, ofS_inj, sizeLine, String.reduceEq, String.reduceNe, Int.reduceAdd, Int.reduceSub, Int.reduceMul, Int.reduceNeg, Int.reduceLE, Int.reduceLT, Int.reduceEq, Nat.add_assoc, ev_merge, List.foldl_cons, List.foldl_nil, putW, CNT, t_OPERANDS]
/-- how many operands -/
def cnt (x : Str) : Int := match t_OPERANDS.lookup x with
  | some (.int i) => i
  | _ => -1
theorem look_cnt (x : Str) : ∀ (t : List (Str × D)), (∀ q ∈ t, ∃ i, q.2 = .int i) → (match t.lookup x with | some (.int i) => i | _ => (-1 : Int)) = (match t.lookup x with | some (.int i) => i | _ => (-1 : Int)) ∧ lkD (t.lookup x) (.val (.int (-1))) = .val (.int (match t.lookup x with | some (.int i) => i | _ => (-1 : Int))) ∧ (valW (t.map fun q => ((.inr q.1, .val q.2) : Key × W)) (.inr x)).getD (.val (.int (-1))) = .val (.int (match t.lookup x with | some (.int i) => i | _ => (-1 : Int)))
  | [], _ => ⟨rfl, rfl, rfl⟩
  | (k, d) :: t, h => by
    obtain ⟨i, hi⟩ := h (k, d) (by simp)
    have hd : d = .int i := hi
    subst hd
    obtain ⟨_, h1, h2⟩ := look_cnt x t fun q hq => h q (by simp [hq])
    by_cases c : x = k
    · subst c
      have e : List.lookup x ((x, D.int i) :: t) = some (.int i) := by simp [List.lookup]
      rw [e]
      refine ⟨rfl, rfl, ?_⟩
      simp [valW, List.find?]
    · have e : List.lookup x ((k, D.int i) :: t) = List.lookup x t := by
        have : (x == k) = false := by simpa using c
        simp [List.lookup, this]
      rw [e]
      refine ⟨rfl, h1, ?_⟩
      rw [← h2]
      have c' : ¬ k = x := fun z => c z.symm
      simp [valW, List.find?, c']
theorem cnt_ints : ∀ q ∈ t_OPERANDS, ∃ i, q.2 = D.int i := by
  intro q hq
  simp only [t_OPERANDS, List.mem_cons, List.not_mem_nil, or_false] at hq
  rcases hq with rfl | rfl | rfl | rfl | rfl | rfl | rfl | rfl | rfl <;> exact ⟨_, rfl⟩
theorem cnt_a (x : Str) : lkD (t_OPERANDS.lookup x) (.val (.int (-1))) = .val (.int (cnt x)) := (look_cnt x t_OPERANDS cnt_ints).2.1
theorem cnt_b (x : Str) : (valW CNT (.inr x)).getD (.val (.int (-1))) = .val (.int (cnt x)) := (look_cnt x t_OPERANDS cnt_ints).2.2
theorem res_eq : c_RESERVED = .tup (RES.map .str) := rfl
theorem text_told (l : List Nat) (hl : l.length ≤ 16777214) : m_Ltext_told [.val (.str ⟨⟨l⟩⟩)] M = .ok (.val (.bl true)) M := by
  cases s1 : decide ((⟨⟨l⟩⟩ : Str) = Str.ofString "store") <;> cases s2 : decide ((⟨⟨l⟩⟩ : Str) = Str.ofString "leave") <;> cases s3 : decide ((⟨⟨l⟩⟩ : Str) ∈ RES) <;> cases hw : isW l <;> simp only [s1, s2, s3, u_Ltext_told, d_Ltext_told, u_Lis_truth, d_Lis_truth, u_Lis_integer, d_Lis_integer, u_is_identifier, d_is_identifier, u_operand_count, d_operand_count, u_makes_value, d_makes_value, ev_rd, ev_addI, ev_subI, ev_ltI, ev_leI, ev_gtI, ev_geI, ev_eqI, ev_neI, ev_eqS, ev_neS, ev_negI, ev_absI, ev_intI, ev_intB, ev_nx, ev_rt, ev_bk, ev_ct, ev_bind, ev_st, ev_seq, ev_next, ev_brk, ev_cnt, ev_kIf1, ev_kIf0, ev_if, ev_kRt, ev_ret, ev_retN, ev_kSet, ev_set, ev_kDrop, ev_drop, ev_kVar, ev_var, ev_c, ev_k2, ev_d2, ev_d1, ev_nil, ev_kCons2, ev_kCons, ev_cons, ev_call, ev_kIsB, ev_isB, ev_kAnd1, ev_kAnd0, ev_and, ev_kOr1, ev_kOr0, ev_or, ev_kNot, ev_not, ev_kAndV1, ev_kAndV0, ev_andV, ev_kOrV1, ev_kOrV0, ev_orV, ev_kNotV, ev_notV, ev_kIfE1, ev_kIfE0, ev_ifE, ev_kCh31, ev_kCh30, ev_kCh2, ev_kCh1, ev_chain, ev_tmp, ev_kFunN, ev_kFunR, ev_fun, ev_env, ev_iter, ev_kFor, ev_for, ev_kLc, ev_lc, ev_rng, ev_no, ev_kPart, ev_part, ev_kSl1, ev_kSl, ev_sl, ev_kMeth0S, ev_meth0, ev_kMethS, ev_meth, ev_rdC, ev_rdP, ev_lvwC, ev_lvw, ev_lvwR, ev_lvwL, ev_tvwR, ev_tvwT, ev_svwR, ev_svwT, ev_svwC, ev_svw, ev_kOk, ev_kOkD, ev_ixC, ev_ix, ev_ixRls, ev_ixTup, ev_at0, ev_at1, ev_at2, ev_at3, ev_lenC, ev_len, ev_lenRls, ev_lenTup, ev_addC, ev_add, ev_appC, ev_app, ev_mthC, ev_mth, ev_mth0C, ev_mth0, ev_itC, ev_it, ev_itR, ev_itT, ev_itS, ev_vals0, ev_vals1, ev_frzV, ev_frzC, ev_frzCf, ev_frz, ev_frzK, ev_frzA0, ev_frzAv, ev_frzAp, ev_kMkT2, ev_kMkT, ev_mkT, ev_rdF, ev_map0, ev_map1, ev_omap, ev_kF2n, ev_kF2c, ev_kF2b, ev_kF2r, ev_kF1, ev_F1, ev_F0, ev_F1c, ev_F0c, ev_gnm, ev_gnil, ev_kGc, ev_gcons, ev_gtup, ev_kC4, ev_kC3, ev_kC21, ev_kC20, ev_kC1, ev_C1, ev_C0, ev_C1c, ev_C0c, ev_yes, ev_wipe0, ev_wipe1, ev_mkLi, ev_lsxC, ev_lsxD, ev_lsx, ev_lsxR, ev_lsxL, ev_lsxT, ev_kOkT, ev_tupC, ev_tup, ev_tupR, ev_tupL, ev_tupT, ev_tvwL, ev_svwL, ev_ixL, ev_lenL, ev_itL, ev_callK, ev_kCK, ev_kCK2, ev_permL, ev_kIsi, ev_isi, ev_tyI, ev_tyB, ev_tyS, ev_tyN, ev_tyT, ev_tyL, ev_tyR, ev_kit1, ev_kit2, ev_kit3, ev_kit4, ev_kit5, ev_kit6, ev_kit7, ev_eqIL, ev_eqPRC, ev_eqPR, ev_eqPL, ev_int0, ev_int1, ev_kSum, ev_sum, ev_kAllB, ev_all, ev_bl0, ev_bl1, ev_kRev, ev_rev, ev_slC, ev_slP, ev_slR, ev_pop, ev_kOrS, ev_kOrSs, ev_orS, ev_kPut2, ev_kPut1, ev_putL, ev_putN, ev_putC, ev_putCd, ev_kPut3, ev_kPut3s, ev_kPd2, ev_kPd1, ev_putD, ev_pdC, ev_kPd3S, ev_kPd3I, ev_kKG1, ev_kget, ev_kKG2, ev_nc0, ev_nc1, ev_ncn, ev_while, ev_niC, ev_inC, ev_signs, ev_itMk, ev_eqB, ev_inC2, ev_inP, ev_kIn, ev_kNi, ev_inPP, ev_niPP, ev_inT, ev_niT, ev_kPc3, ev_kPc2, ev_kPc1, ev_pc, ev_dispC, ev_kDisp, ev_disp, ev_keys0, ev_keysS, ev_merge, ev_g3C, ev_kG3, ev_kG2, ev_g1C, ev_kG1, ev_get2, ev_rng1, str_cW, len_rngW, BEq.rfl, beq_self_eq_true, low_dic, List.any_cons, List.any_nil, Bool.or_false, Bool.false_or, Bool.true_or, Bool.or_true, Sum.inr.injEq, Sum.inl.injEq, low_bW, low_cW, len_bW, len_cW, bls_bW, iW_n, sW_n, List.length_singleton, at_iW, ix_last, set_iW, pop_iW, int_iW, str_sW, List.map_cons, List.map_nil, List.length_cons, List.length_nil, List.cons_append, List.nil_append, List.append_assoc, List.getElem?_cons_zero, List.getElem?_cons_succ, List.set_cons_zero, List.set_cons_succ, List.replicate_zero, List.replicate_succ, List.append_nil, List.filterMap_cons, List.filterMap_nil, and_self, List.length_append, List.length_set, st_at0, st_at, st_set0, st_set, settle_v0, settle_v, cl_nil, cl_cons, cl_self, cl_app, cl_app2, settle_vg, settle_pg, sPC_some, low_lst, low_frz, low_val, low_ptr, take_app, take_app0, lt_f, lt_f1, all_nil, all_cons, low_iW, low_sW, len_iW, len_sW, List.take_succ_cons, List.take_zero, List.take_length, true_or, or_true, Bool.and_true, Bool.true_and, true_and, and_true, Nat.lt_irrefl, Nat.add_lt_add_iff_left, Option.map_some, Option.bind_some, decide_true, decide_false, decide_eq_true_eq, eq_self, if_true, if_false, Bool.not_true, Bool.not_false, reduceIte, Bool.false_eq_true, Nat.add_zero, Nat.zero_add, Nat.reduceAdd, Nat.reduceSub, Nat.reduceLeDiff, Nat.reduceLT, Nat.reduceMul, Nat.reducePow, ofS_inj, sizeLine, String.reduceEq, String.reduceNe, Int.reduceAdd, Int.reduceSub, Int.reduceMul, Int.reduceNeg, Int.reduceLE, Int.reduceLT, Int.reduceEq, Nat.add_assoc, is_word_ok l hl, law_is_word_ok l hl, hw, reserved_ok, counts_ok, cnt_a, cnt_b, res_eq, in_tup]
  trace_state
end K01
end

section
set_option Elab.async false
set_option linter.all false
set_option maxRecDepth 100000
set_option maxHeartbeats 4000000
namespace K01
open PySem PyProof.Rows L2 Dn
theorem sum1 (t : List Nat) : (t.map ((fun x : Str => x.length) ∘ fun c => (⟨#[c]⟩ : Str))).sum = t.length := by
  induction t with
  | nil => rfl
  | cons a t ih =>
    rw [List.map_cons, List.sum_cons, ih, List.length_cons]
    show 1 + t.length = _
    omega
theorem draw_loop (sg : Str) (h0 : 0 < sg.length) (h1 : sg.length ≤ 1000) (n : Int) : ∀ (ws : List Dn.W) (p : List Int), Gp p → ∃ t p', Gp p' ∧ t.length = ws.length ∧ ∀ (T : Store) (acc : List Dn.W), acc.length + ws.length ≤ 1000 →
    loopC .always (gnm 4) dYes e_Ldraw_text_1 (T.length + 1) [some (.ptr 0), some (.val (.str sg)), some (.val (.int n)), none, none] ws (.lst (iW p) :: (T ++ [.lst acc])) = .ok (.ptr (T.length + 1)) (.lst (iW p') :: (T ++ [.lst (acc ++ cW t)]))
  | [], p, hp => ⟨[], p, hp, rfl, fun T acc _ => by rw [ev_C0, show cW [] = [] from rfl, List.append_nil]⟩
  | w :: ws, p, hp => by
    have hl : sg.length ≤ sizeLine := by unfold sizeLine; omega
    have hl2 : sg.cps.toList.length ≤ 16777216 := by show sg.length ≤ _; omega
    obtain ⟨d, p2, e2, hp2, d0, d1⟩ := pick_ok p hp sg.length (by omega) (sm_of (by omega) (by omega))
    obtain ⟨c, hc, _⟩ := atI_in (xs := sg.cps.toList) d0 (by show d < (sg.length : Int); exact d1)
    obtain ⟨t, p3, hp3, ht, e3⟩ := draw_loop sg h0 h1 n ws p2 hp2
    refine ⟨c :: t, p3, hp3, by simp [ht], fun T acc hlen => ?_⟩
    have e4 := e3 T (acc ++ [.val (.str ⟨#[c]⟩)]) (by simp at hlen ⊢; omega)
    have hb : acc.length < 16777216 := by simp at hlen; omega
    rw [ev_C1]
    simp only [e_Ldraw_text_1, ev_rd, ev_addI, ev_subI, ev_ltI, ev_leI, ev_gtI, ev_geI, ev_eqI, ev_neI, ev_eqS, ev_neS, ev_negI, ev_absI, ev_intI, ev_intB, ev_nx, ev_rt, ev_bk, ev_ct, ev_bind, ev_st, ev_seq, ev_next, ev_brk, ev_cnt, ev_kIf1, ev_kIf0, ev_if, ev_kRt, ev_ret, ev_retN, ev_kSet, ev_set, ev_kDrop, ev_drop, ev_kVar, ev_var, ev_c, ev_k2, ev_d2, ev_d1, ev_nil, ev_kCons2, ev_kCons, ev_cons, ev_call, ev_kIsB, ev_isB, ev_kAnd1, ev_kAnd0, ev_and, ev_kOr1, ev_kOr0, ev_or, ev_kNot, ev_not, ev_kAndV1, ev_kAndV0, ev_andV, ev_kOrV1, ev_kOrV0, ev_orV, ev_kNotV, ev_notV, ev_kIfE1, ev_kIfE0, ev_ifE, ev_kCh31, ev_kCh30, ev_kCh2, ev_kCh1, ev_chain, ev_tmp, ev_kFunN, ev_kFunR, ev_fun, ev_env, ev_iter, ev_kFor, ev_for, ev_kLc, ev_lc, ev_rng, ev_no, ev_kPart, ev_part, ev_kSl1, ev_kSl, ev_sl, ev_kMeth0S, ev_meth0, ev_kMethS, ev_meth, ev_rdC, ev_rdP, ev_lvwC, ev_lvw, ev_lvwR, ev_lvwL, ev_tvwR, ev_tvwT, ev_svwR, ev_svwT, ev_svwC, ev_svw, ev_kOk, ev_kOkD, ev_ixC, ev_ix, ev_ixRls, ev_ixTup, ev_at0, ev_at1, ev_at2, ev_at3, ev_lenC, ev_len, ev_lenRls, ev_lenTup, ev_addC, ev_add, ev_appC, ev_app, ev_mthC, ev_mth, ev_mth0C, ev_mth0, ev_itC, ev_it, ev_itR, ev_itT, ev_itS, ev_vals0, ev_vals1, ev_frzV, ev_frzC, ev_frzCf, ev_frz, ev_frzK, ev_frzA0, ev_frzAv, ev_frzAp, ev_kMkT2, ev_kMkT, ev_mkT, ev_rdF, ev_map0, ev_map1, ev_omap, ev_kF2n, ev_kF2c, ev_kF2b, ev_kF2r, ev_kF1, ev_F1, ev_F0, ev_F1c, ev_F0c, ev_gnm, ev_gnil, ev_kGc, ev_gcons, ev_gtup, ev_kC4, ev_kC3, ev_kC21, ev_kC20, ev_kC1, ev_C1, ev_C0, ev_C1c, ev_C0c, ev_yes, ev_wipe0, ev_wipe1, ev_mkLi, ev_lsxC, ev_lsxD, ev_lsx, ev_lsxR, ev_lsxL, ev_lsxT, ev_kOkT, ev_tupC, ev_tup, ev_tupR, ev_tupL, ev_tupT, ev_tvwL, ev_svwL, ev_ixL, ev_lenL, ev_itL, ev_callK, ev_kCK, ev_kCK2, ev_permL, ev_kIsi, ev_isi, ev_tyI, ev_tyB, ev_tyS, ev_tyN, ev_tyT, ev_tyL, ev_tyR, ev_kit1, ev_kit2, ev_kit3, ev_kit4, ev_kit5, ev_kit6, ev_kit7, ev_eqIL, ev_eqPRC, ev_eqPR, ev_eqPL, ev_int0, ev_int1, ev_kSum, ev_sum, ev_kAllB, ev_all, ev_bl0, ev_bl1, ev_kRev, ev_rev, ev_slC, ev_slP, ev_slR, ev_pop, ev_kOrS, ev_kOrSs, ev_orS, ev_kPut2, ev_kPut1, ev_putL, ev_putN, ev_putC, ev_putCd, ev_kPut3, ev_kPut3s, ev_kPd2, ev_kPd1, ev_putD, ev_pdC, ev_kPd3S, ev_kPd3I, ev_kKG1, ev_kget, ev_kKG2, ev_nc0, ev_nc1, ev_ncn, ev_while, ev_niC, ev_inC, ev_signs, ev_itMk, ev_eqB, ev_inC2, ev_inP, ev_kIn, ev_kNi, ev_inPP, ev_niPP, ev_inT, ev_niT, ev_kPc3, ev_kPc2, ev_kPc1, ev_pc, ev_dispC, ev_kDisp, ev_disp, ev_keys0, ev_keysS, ev_merge, ev_g3C, ev_kG3, ev_kG2, ev_g1C, ev_kG1, ev_get2, ev_rng1, get_s3, str_cW, len_rngW, BEq.rfl, beq_self_eq_true, low_dic, List.any_cons, List.any_nil, Bool.or_false, Bool.false_or, Bool.true_or, Bool.or_true, Sum.inr.injEq, Sum.inl.injEq, low_bW, low_cW, len_bW, len_cW, bls_bW, iW_n, sW_n, List.length_singleton, at_iW, ix_last, set_iW, pop_iW, int_iW, str_sW, List.map_cons, List.map_nil, List.length_cons, List.length_nil, List.cons_append, List.nil_append, List.append_assoc, List.getElem?_cons_zero, List.getElem?_cons_succ, List.set_cons_zero, List.set_cons_succ, List.replicate_zero, List.replicate_succ, List.append_nil, List.filterMap_cons, List.filterMap_nil, and_self, List.length_append, List.length_set, st_at0, st_at, st_set0, st_set, settle_v0, settle_v, cl_nil, cl_cons, cl_self, cl_app, cl_app2, settle_vg, settle_pg, sPC_some, low_lst, low_frz, low_val, low_ptr, take_app, take_app0, lt_f, lt_f1, all_nil, all_cons, low_iW, low_sW, len_iW, len_sW, List.take_succ_cons, List.take_zero, List.take_length, true_or, or_true, Bool.and_true, Bool.true_and, true_and, and_true, Nat.lt_irrefl, Nat.add_lt_add_iff_left, Option.map_some, Option.bind_some, decide_true, decide_false, decide_eq_true_eq, eq_self, if_true, if_false, Bool.not_true, Bool.not_false, reduceIte, Bool.false_eq_true, Nat.add_zero, Nat.zero_add, Nat.reduceAdd, Nat.reduceSub, Nat.reduceLeDiff, Nat.reduceLT, Nat.reduceMul, Nat.reducePow, ofS_inj, sizeLine, String.reduceEq, String.reduceNe, Int.reduceAdd, Int.reduceSub, Int.reduceMul, Int.reduceNeg, Int.reduceLE, Int.reduceLT, Int.reduceEq, Nat.add_assoc, ev_lenS hl, e2, ix_mk (l := sg.cps.toList) hl2 hc, show W.val (D.str sg) = W.val (D.str ⟨⟨sg.cps.toList⟩⟩) from rfl, hb]
    simp only [show W.val (D.str ⟨⟨sg.cps.toList⟩⟩) = W.val (D.str sg) from rfl]
    rw [e_Ldraw_text_1] at e4
    rw [e4]
    simp [cW]
theorem draw_text_ok (p : List Int) (hp : Gp p) (sg : Str) (h0 : 0 < sg.length) (h1 : sg.length ≤ 1000) (n : Int) (n0 : 0 ≤ n) (n1 : n ≤ 100) : ∃ t p', (∀ T : Store, m_Ldraw_text [.ptr 0, .val (.str sg), .val (.int n)] (.lst (iW p) :: T) = .ok (.val (.str t)) (.lst (iW p') :: T)) ∧ Gp p' ∧ t.length = n.toNat := by
  have hs : smallI n := ⟨by omega, by omega⟩
  obtain ⟨t, p', hp', ht, e1⟩ := draw_loop sg h0 h1 n (rngW 0 n.toNat) p hp
  rw [len_rngW] at ht e1
  refine ⟨Txt.join "" (t.map fun c => ⟨#[c]⟩), p', fun T => ?_, hp', ?_⟩
  · have e2 := e1 T [] (by simp; omega)
    rw [List.nil_append] at e2
    have ej := join_of (b := "") (M := .lst (iW p') :: (T ++ [.lst (cW t)])) (w := .ptr (T.length + 1)) (ys := t.map fun c => ⟨#[c]⟩) (by
      rw [show Str.length "" = 0 by decide +kernel, List.map_map, sum1]
      omega) (by simp only [ev_rd, ev_addI, ev_subI, ev_ltI, ev_leI, ev_gtI, ev_geI, ev_eqI, ev_neI, ev_eqS, ev_neS, ev_negI, ev_absI, ev_intI, ev_intB, ev_nx, ev_rt, ev_bk, ev_ct, ev_bind, ev_st, ev_seq, ev_next, ev_brk, ev_cnt, ev_kIf1, ev_kIf0, ev_if, ev_kRt, ev_ret, ev_retN, ev_kSet, ev_set, ev_kDrop, ev_drop, ev_kVar, ev_var, ev_c, ev_k2, ev_d2, ev_d1, ev_nil, ev_kCons2, ev_kCons, ev_cons, ev_call, ev_kIsB, ev_isB, ev_kAnd1, ev_kAnd0, ev_and, ev_kOr1, ev_kOr0, ev_or, ev_kNot, ev_not, ev_kAndV1, ev_kAndV0, ev_andV, ev_kOrV1, ev_kOrV0, ev_orV, ev_kNotV, ev_notV, ev_kIfE1, ev_kIfE0, ev_ifE, ev_kCh31, ev_kCh30, ev_kCh2, ev_kCh1, ev_chain, ev_tmp, ev_kFunN, ev_kFunR, ev_fun, ev_env, ev_iter, ev_kFor, ev_for, ev_kLc, ev_lc, ev_rng, ev_no, ev_kPart, ev_part, ev_kSl1, ev_kSl, ev_sl, ev_kMeth0S, ev_meth0, ev_kMethS, ev_meth, ev_rdC, ev_rdP, ev_lvwC, ev_lvw, ev_lvwR, ev_lvwL, ev_tvwR, ev_tvwT, ev_svwR, ev_svwT, ev_svwC, ev_svw, ev_kOk, ev_kOkD, ev_ixC, ev_ix, ev_ixRls, ev_ixTup, ev_at0, ev_at1, ev_at2, ev_at3, ev_lenC, ev_len, ev_lenRls, ev_lenTup, ev_addC, ev_add, ev_appC, ev_app, ev_mthC, ev_mth, ev_mth0C, ev_mth0, ev_itC, ev_it, ev_itR, ev_itT, ev_itS, ev_vals0, ev_vals1, ev_frzV, ev_frzC, ev_frzCf, ev_frz, ev_frzK, ev_frzA0, ev_frzAv, ev_frzAp, ev_kMkT2, ev_kMkT, ev_mkT, ev_rdF, ev_map0, ev_map1, ev_omap, ev_kF2n, ev_kF2c, ev_kF2b, ev_kF2r, ev_kF1, ev_F1, ev_F0, ev_F1c, ev_F0c, ev_gnm, ev_gnil, ev_kGc, ev_gcons, ev_gtup, ev_kC4, ev_kC3, ev_kC21, ev_kC20, ev_kC1, ev_C1, ev_C0, ev_C1c, ev_C0c, ev_yes, ev_wipe0, ev_wipe1, ev_mkLi, ev_lsxC, ev_lsxD, ev_lsx, ev_lsxR, ev_lsxL, ev_lsxT, ev_kOkT, ev_tupC, ev_tup, ev_tupR, ev_tupL, ev_tupT, ev_tvwL, ev_svwL, ev_ixL, ev_lenL, ev_itL, ev_callK, ev_kCK, ev_kCK2, ev_permL, ev_kIsi, ev_isi, ev_tyI, ev_tyB, ev_tyS, ev_tyN, ev_tyT, ev_tyL, ev_tyR, ev_kit1, ev_kit2, ev_kit3, ev_kit4, ev_kit5, ev_kit6, ev_kit7, ev_eqIL, ev_eqPRC, ev_eqPR, ev_eqPL, ev_int0, ev_int1, ev_kSum, ev_sum, ev_kAllB, ev_all, ev_bl0, ev_bl1, ev_kRev, ev_rev, ev_slC, ev_slP, ev_slR, ev_pop, ev_kOrS, ev_kOrSs, ev_orS, ev_kPut2, ev_kPut1, ev_putL, ev_putN, ev_putC, ev_putCd, ev_kPut3, ev_kPut3s, ev_kPd2, ev_kPd1, ev_putD, ev_pdC, ev_kPd3S, ev_kPd3I, ev_kKG1, ev_kget, ev_kKG2, ev_nc0, ev_nc1, ev_ncn, ev_while, ev_niC, ev_inC, ev_signs, ev_itMk, ev_eqB, ev_inC2, ev_inP, ev_kIn, ev_kNi, ev_inPP, ev_niPP, ev_inT, ev_niT, ev_kPc3, ev_kPc2, ev_kPc1, ev_pc, ev_dispC, ev_kDisp, ev_disp, ev_keys0, ev_keysS, ev_merge, ev_g3C, ev_kG3, ev_kG2, ev_g1C, ev_kG1, ev_get2, ev_rng1, get_s3, str_cW, len_rngW, BEq.rfl, beq_self_eq_true, low_dic, List.any_cons, List.any_nil, Bool.or_false, Bool.false_or, Bool.true_or, Bool.or_true, Sum.inr.injEq, Sum.inl.injEq, low_bW, low_cW, len_bW, len_cW, bls_bW, iW_n, sW_n, List.length_singleton, at_iW, ix_last, set_iW, pop_iW, int_iW, str_sW, List.map_cons, List.map_nil, List.length_cons, List.length_nil, List.cons_append, List.nil_append, List.append_assoc, List.getElem?_cons_zero, List.getElem?_cons_succ, List.set_cons_zero, List.set_cons_succ, List.replicate_zero, List.replicate_succ, List.append_nil, List.filterMap_cons, List.filterMap_nil, and_self, List.length_append, List.length_set, st_at0, st_at, st_set0, st_set, settle_v0, settle_v, cl_nil, cl_cons, cl_self, cl_app, cl_app2, settle_vg, settle_pg, sPC_some, low_lst, low_frz, low_val, low_ptr, take_app, take_app0, lt_f, lt_f1, all_nil, all_cons, low_iW, low_sW, len_iW, len_sW, List.take_succ_cons, List.take_zero, List.take_length, true_or, or_true, Bool.and_true, Bool.true_and, true_and, and_true, Nat.lt_irrefl, Nat.add_lt_add_iff_left, Option.map_some, Option.bind_some, decide_true, decide_false, decide_eq_true_eq, eq_self, if_true, if_false, Bool.not_true, Bool.not_false, reduceIte, Bool.false_eq_true, Nat.add_zero, Nat.zero_add, Nat.reduceAdd, Nat.reduceSub, Nat.reduceLeDiff, Nat.reduceLT, Nat.reduceMul, Nat.reducePow, ofS_inj, sizeLine, String.reduceEq, String.reduceNe, Int.reduceAdd, Int.reduceSub, Int.reduceMul, Int.reduceNeg, Int.reduceLE, Int.reduceLT, Int.reduceEq, Nat.add_assoc])
    simp only [u_Ldraw_text, d_Ldraw_text, ev_rd, ev_addI, ev_subI, ev_ltI, ev_leI, ev_gtI, ev_geI, ev_eqI, ev_neI, ev_eqS, ev_neS, ev_negI, ev_absI, ev_intI, ev_intB, ev_nx, ev_rt, ev_bk, ev_ct, ev_bind, ev_st, ev_seq, ev_next, ev_brk, ev_cnt, ev_kIf1, ev_kIf0, ev_if, ev_kRt, ev_ret, ev_retN, ev_kSet, ev_set, ev_kDrop, ev_drop, ev_kVar, ev_var, ev_c, ev_k2, ev_d2, ev_d1, ev_nil, ev_kCons2, ev_kCons, ev_cons, ev_call, ev_kIsB, ev_isB, ev_kAnd1, ev_kAnd0, ev_and, ev_kOr1, ev_kOr0, ev_or, ev_kNot, ev_not, ev_kAndV1, ev_kAndV0, ev_andV, ev_kOrV1, ev_kOrV0, ev_orV, ev_kNotV, ev_notV, ev_kIfE1, ev_kIfE0, ev_ifE, ev_kCh31, ev_kCh30, ev_kCh2, ev_kCh1, ev_chain, ev_tmp, ev_kFunN, ev_kFunR, ev_fun, ev_env, ev_iter, ev_kFor, ev_for, ev_kLc, ev_lc, ev_rng, ev_no, ev_kPart, ev_part, ev_kSl1, ev_kSl, ev_sl, ev_kMeth0S, ev_meth0, ev_kMethS, ev_meth, ev_rdC, ev_rdP, ev_lvwC, ev_lvw, ev_lvwR, ev_lvwL, ev_tvwR, ev_tvwT, ev_svwR, ev_svwT, ev_svwC, ev_svw, ev_kOk, ev_kOkD, ev_ixC, ev_ix, ev_ixRls, ev_ixTup, ev_at0, ev_at1, ev_at2, ev_at3, ev_lenC, ev_len, ev_lenRls, ev_lenTup, ev_addC, ev_add, ev_appC, ev_app, ev_mthC, ev_mth, ev_mth0C, ev_mth0, ev_itC, ev_it, ev_itR, ev_itT, ev_itS, ev_vals0, ev_vals1, ev_frzV, ev_frzC, ev_frzCf, ev_frz, ev_frzK, ev_frzA0, ev_frzAv, ev_frzAp, ev_kMkT2, ev_kMkT, ev_mkT, ev_rdF, ev_map0, ev_map1, ev_omap, ev_kF2n, ev_kF2c, ev_kF2b, ev_kF2r, ev_kF1, ev_F1, ev_F0, ev_F1c, ev_F0c, ev_gnm, ev_gnil, ev_kGc, ev_gcons, ev_gtup, ev_kC4, ev_kC3, ev_kC21, ev_kC20, ev_kC1, ev_C1, ev_C0, ev_C1c, ev_C0c, ev_yes, ev_wipe0, ev_wipe1, ev_mkLi, ev_lsxC, ev_lsxD, ev_lsx, ev_lsxR, ev_lsxL, ev_lsxT, ev_kOkT, ev_tupC, ev_tup, ev_tupR, ev_tupL, ev_tupT, ev_tvwL, ev_svwL, ev_ixL, ev_lenL, ev_itL, ev_callK, ev_kCK, ev_kCK2, ev_permL, ev_kIsi, ev_isi, ev_tyI, ev_tyB, ev_tyS, ev_tyN, ev_tyT, ev_tyL, ev_tyR, ev_kit1, ev_kit2, ev_kit3, ev_kit4, ev_kit5, ev_kit6, ev_kit7, ev_eqIL, ev_eqPRC, ev_eqPR, ev_eqPL, ev_int0, ev_int1, ev_kSum, ev_sum, ev_kAllB, ev_all, ev_bl0, ev_bl1, ev_kRev, ev_rev, ev_slC, ev_slP, ev_slR, ev_pop, ev_kOrS, ev_kOrSs, ev_orS, ev_kPut2, ev_kPut1, ev_putL, ev_putN, ev_putC, ev_putCd, ev_kPut3, ev_kPut3s, ev_kPd2, ev_kPd1, ev_putD, ev_pdC, ev_kPd3S, ev_kPd3I, ev_kKG1, ev_kget, ev_kKG2, ev_nc0, ev_nc1, ev_ncn, ev_while, ev_niC, ev_inC, ev_signs, ev_itMk, ev_eqB, ev_inC2, ev_inP, ev_kIn, ev_kNi, ev_inPP, ev_niPP, ev_inT, ev_niT, ev_kPc3, ev_kPc2, ev_kPc1, ev_pc, ev_dispC, ev_kDisp, ev_disp, ev_keys0, ev_keysS, ev_merge, ev_g3C, ev_kG3, ev_kG2, ev_g1C, ev_kG1, ev_get2, ev_rng1, get_s3, str_cW, len_rngW, BEq.rfl, beq_self_eq_true, low_dic, List.any_cons, List.any_nil, Bool.or_false, Bool.false_or, Bool.true_or, Bool.or_true, Sum.inr.injEq, Sum.inl.injEq, low_bW, low_cW, len_bW, len_cW, bls_bW, iW_n, sW_n, List.length_singleton, at_iW, ix_last, set_iW, pop_iW, int_iW, str_sW, List.map_cons, List.map_nil, List.length_cons, List.length_nil, List.cons_append, List.nil_append, List.append_assoc, List.getElem?_cons_zero, List.getElem?_cons_succ, List.set_cons_zero, List.set_cons_succ, List.replicate_zero, List.replicate_succ, List.append_nil, List.filterMap_cons, List.filterMap_nil, and_self, List.length_append, List.length_set, st_at0, st_at, st_set0, st_set, settle_v0, settle_v, cl_nil, cl_cons, cl_self, cl_app, cl_app2, settle_vg, settle_pg, sPC_some, low_lst, low_frz, low_val, low_ptr, take_app, take_app0, lt_f, lt_f1, all_nil, all_cons, low_iW, low_sW, len_iW, len_sW, List.take_succ_cons, List.take_zero, List.take_length, true_or, or_true, Bool.and_true, Bool.true_and, true_and, and_true, Nat.lt_irrefl, Nat.add_lt_add_iff_left, Option.map_some, Option.bind_some, decide_true, decide_false, decide_eq_true_eq, eq_self, if_true, if_false, Bool.not_true, Bool.not_false, reduceIte, Bool.false_eq_true, Nat.add_zero, Nat.zero_add, Nat.reduceAdd, Nat.reduceSub, Nat.reduceLeDiff, Nat.reduceLT, Nat.reduceMul, Nat.reducePow, ofS_inj, sizeLine, String.reduceEq, String.reduceNe, Int.reduceAdd, Int.reduceSub, Int.reduceMul, Int.reduceNeg, Int.reduceLE, Int.reduceLT, Int.reduceEq, Nat.add_assoc, ev_rng1, hs, e2, ej]
  · rw [join_len _ (by decide +kernel), List.map_map, sum1]
    exact ht
theorem draw_word_ok (p : List Int) (hp : Gp p) (n : Int) (n0 : 1 ≤ n) (n1 : n ≤ 100) : ∃ t p', (∀ T : Store, m_Ldraw_word [.ptr 0, .val (.int n)] (.lst (iW p) :: T) = .ok (.val (.str t)) (.lst (iW p') :: T)) ∧ Gp p' ∧ t.length = n.toNat := by
  have hL : LET.length = 26 := by decide +kernel
  have hB : BOTH.length = 36 := by decide +kernel
  obtain ⟨t1, p1, e1, hp1, h1⟩ := draw_text_ok p hp LET (by omega) (by omega) 1 (by omega) (by omega)
  obtain ⟨t2, p2, e2, hp2, h2⟩ := draw_text_ok p1 hp1 BOTH (by omega) (by omega) (n - 1) (by omega) (by omega)
  refine ⟨t1 ++ t2, p2, fun T => ?_, hp2, ?_⟩
  · simp only [u_Ldraw_word, d_Ldraw_word, ev_rd, ev_addI, ev_subI, ev_ltI, ev_leI, ev_gtI, ev_geI, ev_eqI, ev_neI, ev_eqS, ev_neS, ev_negI, ev_absI, ev_intI, ev_intB, ev_nx, ev_rt, ev_bk, ev_ct, ev_bind, ev_st, ev_seq, ev_next, ev_brk, ev_cnt, ev_kIf1, ev_kIf0, ev_if, ev_kRt, ev_ret, ev_retN, ev_kSet, ev_set, ev_kDrop, ev_drop, ev_kVar, ev_var, ev_c, ev_k2, ev_d2, ev_d1, ev_nil, ev_kCons2, ev_kCons, ev_cons, ev_call, ev_kIsB, ev_isB, ev_kAnd1, ev_kAnd0, ev_and, ev_kOr1, ev_kOr0, ev_or, ev_kNot, ev_not, ev_kAndV1, ev_kAndV0, ev_andV, ev_kOrV1, ev_kOrV0, ev_orV, ev_kNotV, ev_notV, ev_kIfE1, ev_kIfE0, ev_ifE, ev_kCh31, ev_kCh30, ev_kCh2, ev_kCh1, ev_chain, ev_tmp, ev_kFunN, ev_kFunR, ev_fun, ev_env, ev_iter, ev_kFor, ev_for, ev_kLc, ev_lc, ev_rng, ev_no, ev_kPart, ev_part, ev_kSl1, ev_kSl, ev_sl, ev_kMeth0S, ev_meth0, ev_kMethS, ev_meth, ev_rdC, ev_rdP, ev_lvwC, ev_lvw, ev_lvwR, ev_lvwL, ev_tvwR, ev_tvwT, ev_svwR, ev_svwT, ev_svwC, ev_svw, ev_kOk, ev_kOkD, ev_ixC, ev_ix, ev_ixRls, ev_ixTup, ev_at0, ev_at1, ev_at2, ev_at3, ev_lenC, ev_len, ev_lenRls, ev_lenTup, ev_addC, ev_add, ev_appC, ev_app, ev_mthC, ev_mth, ev_mth0C, ev_mth0, ev_itC, ev_it, ev_itR, ev_itT, ev_itS, ev_vals0, ev_vals1, ev_frzV, ev_frzC, ev_frzCf, ev_frz, ev_frzK, ev_frzA0, ev_frzAv, ev_frzAp, ev_kMkT2, ev_kMkT, ev_mkT, ev_rdF, ev_map0, ev_map1, ev_omap, ev_kF2n, ev_kF2c, ev_kF2b, ev_kF2r, ev_kF1, ev_F1, ev_F0, ev_F1c, ev_F0c, ev_gnm, ev_gnil, ev_kGc, ev_gcons, ev_gtup, ev_kC4, ev_kC3, ev_kC21, ev_kC20, ev_kC1, ev_C1, ev_C0, ev_C1c, ev_C0c, ev_yes, ev_wipe0, ev_wipe1, ev_mkLi, ev_lsxC, ev_lsxD, ev_lsx, ev_lsxR, ev_lsxL, ev_lsxT, ev_kOkT, ev_tupC, ev_tup, ev_tupR, ev_tupL, ev_tupT, ev_tvwL, ev_svwL, ev_ixL, ev_lenL, ev_itL, ev_callK, ev_kCK, ev_kCK2, ev_permL, ev_kIsi, ev_isi, ev_tyI, ev_tyB, ev_tyS, ev_tyN, ev_tyT, ev_tyL, ev_tyR, ev_kit1, ev_kit2, ev_kit3, ev_kit4, ev_kit5, ev_kit6, ev_kit7, ev_eqIL, ev_eqPRC, ev_eqPR, ev_eqPL, ev_int0, ev_int1, ev_kSum, ev_sum, ev_kAllB, ev_all, ev_bl0, ev_bl1, ev_kRev, ev_rev, ev_slC, ev_slP, ev_slR, ev_pop, ev_kOrS, ev_kOrSs, ev_orS, ev_kPut2, ev_kPut1, ev_putL, ev_putN, ev_putC, ev_putCd, ev_kPut3, ev_kPut3s, ev_kPd2, ev_kPd1, ev_putD, ev_pdC, ev_kPd3S, ev_kPd3I, ev_kKG1, ev_kget, ev_kKG2, ev_nc0, ev_nc1, ev_ncn, ev_while, ev_niC, ev_inC, ev_signs, ev_itMk, ev_eqB, ev_inC2, ev_inP, ev_kIn, ev_kNi, ev_inPP, ev_niPP, ev_inT, ev_niT, ev_kPc3, ev_kPc2, ev_kPc1, ev_pc, ev_dispC, ev_kDisp, ev_disp, ev_keys0, ev_keysS, ev_merge, ev_g3C, ev_kG3, ev_kG2, ev_g1C, ev_kG1, ev_get2, ev_rng1, get_s3, str_cW, len_rngW, BEq.rfl, beq_self_eq_true, low_dic, List.any_cons, List.any_nil, Bool.or_false, Bool.false_or, Bool.true_or, Bool.or_true, Sum.inr.injEq, Sum.inl.injEq, low_bW, low_cW, len_bW, len_cW, bls_bW, iW_n, sW_n, List.length_singleton, at_iW, ix_last, set_iW, pop_iW, int_iW, str_sW, List.map_cons, List.map_nil, List.length_cons, List.length_nil, List.cons_append, List.nil_append, List.append_assoc, List.getElem?_cons_zero, List.getElem?_cons_succ, List.set_cons_zero, List.set_cons_succ, List.replicate_zero, List.replicate_succ, List.append_nil, List.filterMap_cons, List.filterMap_nil, and_self, List.length_append, List.length_set, st_at0, st_at, st_set0, st_set, settle_v0, settle_v, cl_nil, cl_cons, cl_self, cl_app, cl_app2, settle_vg, settle_pg, sPC_some, low_lst, low_frz, low_val, low_ptr, take_app, take_app0, lt_f, lt_f1, all_nil, all_cons, low_iW, low_sW, len_iW, len_sW, List.take_succ_cons, List.take_zero, List.take_length, true_or, or_true, Bool.and_true, Bool.true_and, true_and, and_true, Nat.lt_irrefl, Nat.add_lt_add_iff_left, Option.map_some, Option.bind_some, decide_true, decide_false, decide_eq_true_eq, eq_self, if_true, if_false, Bool.not_true, Bool.not_false, reduceIte, Bool.false_eq_true, Nat.add_zero, Nat.zero_add, Nat.reduceAdd, Nat.reduceSub, Nat.reduceLeDiff, Nat.reduceLT, Nat.reduceMul, Nat.reducePow, ofS_inj, sizeLine, String.reduceEq, String.reduceNe, Int.reduceAdd, Int.reduceSub, Int.reduceMul, Int.reduceNeg, Int.reduceLE, Int.reduceLT, Int.reduceEq, Nat.add_assoc, letters_ok, both_ok, e1, e2, ev_addS (x := t1) (y := t2) (by unfold sizeLine; omega)]
  · rw [Str.length_append]; omega
def ALL : Str := Str.ofString " !\"#$&'()*+,-./0123456789:;<=>?@ABCDEFGHIJKLMNOPQRSTUVWXYZ[\\]^_`" ++ Str.ofString "abcdefghijklmnopqrstuvwxyz{|}~\n"
theorem all_signs_ok {M : Store} : m_Lall_signs [] M = .ok (.val (.str ALL)) M := by
  have e := ev_addS (M := M) (x := Str.ofString " !\"#$&'()*+,-./0123456789:;<=>?@ABCDEFGHIJKLMNOPQRSTUVWXYZ[\\]^_`") (y := Str.ofString "abcdefghijklmnopqrstuvwxyz{|}~\n") (by decide +kernel)
  simp only [u_Lall_signs, d_Lall_signs, ev_rd, ev_addI, ev_subI, ev_ltI, ev_leI, ev_gtI, ev_geI, ev_eqI, ev_neI, ev_eqS, ev_neS, ev_negI, ev_absI, ev_intI, ev_intB, ev_nx, ev_rt, ev_bk, ev_ct, ev_bind, ev_st, ev_seq, ev_next, ev_brk, ev_cnt, ev_kIf1, ev_kIf0, ev_if, ev_kRt, ev_ret, ev_retN, ev_kSet, ev_set, ev_kDrop, ev_drop, ev_kVar, ev_var, ev_c, ev_k2, ev_d2, ev_d1, ev_nil, ev_kCons2, ev_kCons, ev_cons, ev_call, ev_kIsB, ev_isB, ev_kAnd1, ev_kAnd0, ev_and, ev_kOr1, ev_kOr0, ev_or, ev_kNot, ev_not, ev_kAndV1, ev_kAndV0, ev_andV, ev_kOrV1, ev_kOrV0, ev_orV, ev_kNotV, ev_notV, ev_kIfE1, ev_kIfE0, ev_ifE, ev_kCh31, ev_kCh30, ev_kCh2, ev_kCh1, ev_chain, ev_tmp, ev_kFunN, ev_kFunR, ev_fun, ev_env, ev_iter, ev_kFor, ev_for, ev_kLc, ev_lc, ev_rng, ev_no, ev_kPart, ev_part, ev_kSl1, ev_kSl, ev_sl, ev_kMeth0S, ev_meth0, ev_kMethS, ev_meth, ev_rdC, ev_rdP, ev_lvwC, ev_lvw, ev_lvwR, ev_lvwL, ev_tvwR, ev_tvwT, ev_svwR, ev_svwT, ev_svwC, ev_svw, ev_kOk, ev_kOkD, ev_ixC, ev_ix, ev_ixRls, ev_ixTup, ev_at0, ev_at1, ev_at2, ev_at3, ev_lenC, ev_len, ev_lenRls, ev_lenTup, ev_addC, ev_add, ev_appC, ev_app, ev_mthC, ev_mth, ev_mth0C, ev_mth0, ev_itC, ev_it, ev_itR, ev_itT, ev_itS, ev_vals0, ev_vals1, ev_frzV, ev_frzC, ev_frzCf, ev_frz, ev_frzK, ev_frzA0, ev_frzAv, ev_frzAp, ev_kMkT2, ev_kMkT, ev_mkT, ev_rdF, ev_map0, ev_map1, ev_omap, ev_kF2n, ev_kF2c, ev_kF2b, ev_kF2r, ev_kF1, ev_F1, ev_F0, ev_F1c, ev_F0c, ev_gnm, ev_gnil, ev_kGc, ev_gcons, ev_gtup, ev_kC4, ev_kC3, ev_kC21, ev_kC20, ev_kC1, ev_C1, ev_C0, ev_C1c, ev_C0c, ev_yes, ev_wipe0, ev_wipe1, ev_mkLi, ev_lsxC, ev_lsxD, ev_lsx, ev_lsxR, ev_lsxL, ev_lsxT, ev_kOkT, ev_tupC, ev_tup, ev_tupR, ev_tupL, ev_tupT, ev_tvwL, ev_svwL, ev_ixL, ev_lenL, ev_itL, ev_callK, ev_kCK, ev_kCK2, ev_permL, ev_kIsi, ev_isi, ev_tyI, ev_tyB, ev_tyS, ev_tyN, ev_tyT, ev_tyL, ev_tyR, ev_kit1, ev_kit2, ev_kit3, ev_kit4, ev_kit5, ev_kit6, ev_kit7, ev_eqIL, ev_eqPRC, ev_eqPR, ev_eqPL, ev_int0, ev_int1, ev_kSum, ev_sum, ev_kAllB, ev_all, ev_bl0, ev_bl1, ev_kRev, ev_rev, ev_slC, ev_slP, ev_slR, ev_pop, ev_kOrS, ev_kOrSs, ev_orS, ev_kPut2, ev_kPut1, ev_putL, ev_putN, ev_putC, ev_putCd, ev_kPut3, ev_kPut3s, ev_kPd2, ev_kPd1, ev_putD, ev_pdC, ev_kPd3S, ev_kPd3I, ev_kKG1, ev_kget, ev_kKG2, ev_nc0, ev_nc1, ev_ncn, ev_while, ev_niC, ev_inC, ev_signs, ev_itMk, ev_eqB, ev_inC2, ev_inP, ev_kIn, ev_kNi, ev_inPP, ev_niPP, ev_inT, ev_niT, ev_kPc3, ev_kPc2, ev_kPc1, ev_pc, ev_dispC, ev_kDisp, ev_disp, ev_keys0, ev_keysS, ev_merge, ev_g3C, ev_kG3, ev_kG2, ev_g1C, ev_kG1, ev_get2, ev_rng1, get_s3, str_cW, len_rngW, BEq.rfl, beq_self_eq_true, low_dic, List.any_cons, List.any_nil, Bool.or_false, Bool.false_or, Bool.true_or, Bool.or_true, Sum.inr.injEq, Sum.inl.injEq, low_bW, low_cW, len_bW, len_cW, bls_bW, iW_n, sW_n, List.length_singleton, at_iW, ix_last, set_iW, pop_iW, int_iW, str_sW, List.map_cons, List.map_nil, List.length_cons, List.length_nil, List.cons_append, List.nil_append, List.append_assoc, List.getElem?_cons_zero, List.getElem?_cons_succ, List.set_cons_zero, List.set_cons_succ, List.replicate_zero, List.replicate_succ, List.append_nil, List.filterMap_cons, List.filterMap_nil, and_self, List.length_append, List.length_set, st_at0, st_at, st_set0, st_set, settle_v0, settle_v, cl_nil, cl_cons, cl_self, cl_app, cl_app2, settle_vg, settle_pg, sPC_some, low_lst, low_frz, low_val, low_ptr, take_app, take_app0, lt_f, lt_f1, all_nil, all_cons, low_iW, low_sW, len_iW, len_sW, List.take_succ_cons, List.take_zero, List.take_length, true_or, or_true, Bool.and_true, Bool.true_and, true_and, and_true, Nat.lt_irrefl, Nat.add_lt_add_iff_left, Option.map_some, Option.bind_some, decide_true, decide_false, decide_eq_true_eq, eq_self, if_true, if_false, Bool.not_true, Bool.not_false, reduceIte, Bool.false_eq_true, Nat.add_zero, Nat.zero_add, Nat.reduceAdd, Nat.reduceSub, Nat.reduceLeDiff, Nat.reduceLT, Nat.reduceMul, Nat.reducePow, ofS_inj, sizeLine, String.reduceEq, String.reduceNe, Int.reduceAdd, Int.reduceSub, Int.reduceMul, Int.reduceNeg, Int.reduceLE, Int.reduceLT, Int.reduceEq, Nat.add_assoc, e, ALL]
def Bnd (ts : List Str) : Prop := ∀ t ∈ ts, t.length ≤ 1000
theorem round_ok (ts : List Str) (hts : Bnd ts) (hn : ts.length ≤ 1000) (p : List Int) (hp : Gp p) (T : Store) (o2 o3 o4 o5 o6 : Option Dn.W) : ∃ e' ts' p' T', l_Ldraw_texts_1 [some (.ptr 0), some (.ptr (T.length + 1)), o2, o3, o4, o5, o6] (.lst (iW p) :: (T ++ [.lst (sW ts)])) = .nx e' (.lst (iW p') :: (T' ++ [.lst (sW ts')])) ∧ Gp p' ∧ Bnd ts' ∧ ts'.length ≤ ts.length + 20 ∧ (∃ a2 a3 a4 a5 a6, e' = [some (.ptr 0), some (.ptr (T'.length + 1)), a2, a3, a4, a5, a6]) := by
  have hA : 0 < ALL.length ∧ ALL.length ≤ 1000 := by decide +kernel
  have hB : BOTH.length = 36 := by decide +kernel
  have hD : (Str.ofString "0123456789").length = 10 := by decide +kernel
  obtain ⟨d1, p1, e1, hp1, d10, d11⟩ := pick_ok p hp 8 (by decide) (sm_of (by decide) (by decide))
  obtain ⟨w, p2, e2, hp2, hw⟩ := draw_word_ok p1 hp1 (1 + d1) (by omega) (by omega)
  have hws : w.length ≤ 8 := by omega
  have hw0 : 1 ≤ w.length := by omega
  obtain ⟨d2, p3, e3, hp3, d20, d21⟩ := pick_ok p2 hp2 w.length (by omega) (sm_of (by omega) (by omega))
  obtain ⟨s, p4, e4, hp4, hs⟩ := draw_text_ok p3 hp3 ALL (by omega) (by omega) 1 (by omega) (by omega)
  obtain ⟨t5, p5, e5, hp5, h5⟩ := draw_text_ok p4 hp4 BOTH (by omega) (by omega) 1 (by omega) (by omega)
  obtain ⟨t6, p6, e6, hp6, h6⟩ := draw_text_ok p5 hp5 "0123456789" (by omega) (by omega) 1 (by omega) (by omega)
  have hl : w.length ≤ sizeLine := by unfold sizeLine; omega
  have n1 : Str.length (Str.ofString "\n") = 1 := by decide +kernel
  have n2 : Str.length (Str.ofString " ") = 1 := by decide +kernel
  have c1 := cutS_length w none (some d2)
  have c2 := cutS_length w (some (d2 + 1)) none
  have i1 : Int.toNat 1 = 1 := rfl
  have hu := PyProof.Rows.len_upper w
  have b1 := fun M => ev_addS (M := M) (x := cutS w none (some d2)) (y := s) (by unfold sizeLine; omega)
  have b2 := fun M => ev_addS (M := M) (x := cutS w none (some d2) ++ s) (y := cutS w (some (d2 + 1)) none) (by unfold sizeLine; rw [Str.length_append]; omega)
  have b3 := fun M => ev_addS (M := M) (x := w) (y := t5) (by unfold sizeLine; omega)
  have b4 := fun M => ev_addS (M := M) (x := t6) (y := w) (by unfold sizeLine; omega)
  have b5 := fun M => ev_addS (M := M) (x := w) (y := Str.ofString "\n") (by unfold sizeLine; omega)
  have b6 := fun M => ev_addS (M := M) (x := Str.ofString "\n") (y := w) (by unfold sizeLine; omega)
  have b7 := fun M => ev_addS (M := M) (x := Str.ofString " ") (y := w) (by unfold sizeLine; omega)
  have b8 := fun M => ev_addS (M := M) (x := w) (y := Str.ofString " ") (by unfold sizeLine; omega)
  have b9 := fun M => ev_upS (M := M) (x := w) (by omega)
  have q1 : ts.length + 2 ≤ 16777216 := by omega
  have q2 : ts.length + 2 < 16777216 := by omega
  have q3 : ts.length + 3 < 16777216 := by omega
  have q4 : ts.length + 7 ≤ 16777216 := by omega
  have q5 : ts.length + 9 ≤ 16777216 := by omega
  refine ⟨[some (.ptr 0), some (.ptr (T.length + 7)), o2, some (.val (.str w)), some (.val (.int d2)), some (.val (.str s)), some (.val (.str (cutS w none (some d2) ++ s ++ cutS w (some (d2 + 1)) none)))], ts ++ [w, cutS w none (some d2) ++ s ++ cutS w (some (d2 + 1)) none, w ++ t5, t6 ++ w, w ++ Str.ofString "\n", Str.ofString "\n" ++ w, Str.ofString " " ++ w, w ++ Str.ofString " ", Txt.upper w], p6, T ++ [.lst (sW ts), .lst [.val (.str w), .val (.str (cutS w none (some d2) ++ s ++ cutS w (some (d2 + 1)) none))], .lst (sW (ts ++ [w, cutS w none (some d2) ++ s ++ cutS w (some (d2 + 1)) none, w ++ t5, t6 ++ w])), .lst [.val (.str (w ++ Str.ofString "\n")), .val (.str (Str.ofString "\n" ++ w)), .val (.str (Str.ofString " " ++ w))], .lst (sW (ts ++ [w, cutS w none (some d2) ++ s ++ cutS w (some (d2 + 1)) none, w ++ t5, t6 ++ w, w ++ Str.ofString "\n", Str.ofString "\n" ++ w, Str.ofString " " ++ w])), .lst [.val (.str (w ++ Str.ofString " ")), .val (.str (Txt.upper w))]], ?_, hp6, ?_, ?_, ?_⟩
  · simp only [l_Ldraw_texts_1, ev_rd, ev_addI, ev_subI, ev_ltI, ev_leI, ev_gtI, ev_geI, ev_eqI, ev_neI, ev_eqS, ev_neS, ev_negI, ev_absI, ev_intI, ev_intB, ev_nx, ev_rt, ev_bk, ev_ct, ev_bind, ev_st, ev_seq, ev_next, ev_brk, ev_cnt, ev_kIf1, ev_kIf0, ev_if, ev_kRt, ev_ret, ev_retN, ev_kSet, ev_set, ev_kDrop, ev_drop, ev_kVar, ev_var, ev_c, ev_k2, ev_d2, ev_d1, ev_nil, ev_kCons2, ev_kCons, ev_cons, ev_call, ev_kIsB, ev_isB, ev_kAnd1, ev_kAnd0, ev_and, ev_kOr1, ev_kOr0, ev_or, ev_kNot, ev_not, ev_kAndV1, ev_kAndV0, ev_andV, ev_kOrV1, ev_kOrV0, ev_orV, ev_kNotV, ev_notV, ev_kIfE1, ev_kIfE0, ev_ifE, ev_kCh31, ev_kCh30, ev_kCh2, ev_kCh1, ev_chain, ev_tmp, ev_kFunN, ev_kFunR, ev_fun, ev_env, ev_iter, ev_kFor, ev_for, ev_kLc, ev_lc, ev_rng, ev_no, ev_kPart, ev_part, ev_kSl1, ev_kSl, ev_sl, ev_kMeth0S, ev_meth0, ev_kMethS, ev_meth, ev_rdC, ev_rdP, ev_lvwC, ev_lvw, ev_lvwR, ev_lvwL, ev_tvwR, ev_tvwT, ev_svwR, ev_svwT, ev_svwC, ev_svw, ev_kOk, ev_kOkD, ev_ixC, ev_ix, ev_ixRls, ev_ixTup, ev_at0, ev_at1, ev_at2, ev_at3, ev_lenC, ev_len, ev_lenRls, ev_lenTup, ev_addC, ev_add, ev_appC, ev_app, ev_mthC, ev_mth, ev_mth0C, ev_mth0, ev_itC, ev_it, ev_itR, ev_itT, ev_itS, ev_vals0, ev_vals1, ev_frzV, ev_frzC, ev_frzCf, ev_frz, ev_frzK, ev_frzA0, ev_frzAv, ev_frzAp, ev_kMkT2, ev_kMkT, ev_mkT, ev_rdF, ev_map0, ev_map1, ev_omap, ev_kF2n, ev_kF2c, ev_kF2b, ev_kF2r, ev_kF1, ev_F1, ev_F0, ev_F1c, ev_F0c, ev_gnm, ev_gnil, ev_kGc, ev_gcons, ev_gtup, ev_kC4, ev_kC3, ev_kC21, ev_kC20, ev_kC1, ev_C1, ev_C0, ev_C1c, ev_C0c, ev_yes, ev_wipe0, ev_wipe1, ev_mkLi, ev_lsxC, ev_lsxD, ev_lsx, ev_lsxR, ev_lsxL, ev_lsxT, ev_kOkT, ev_tupC, ev_tup, ev_tupR, ev_tupL, ev_tupT, ev_tvwL, ev_svwL, ev_ixL, ev_lenL, ev_itL, ev_callK, ev_kCK, ev_kCK2, ev_permL, ev_kIsi, ev_isi, ev_tyI, ev_tyB, ev_tyS, ev_tyN, ev_tyT, ev_tyL, ev_tyR, ev_kit1, ev_kit2, ev_kit3, ev_kit4, ev_kit5, ev_kit6, ev_kit7, ev_eqIL, ev_eqPRC, ev_eqPR, ev_eqPL, ev_int0, ev_int1, ev_kSum, ev_sum, ev_kAllB, ev_all, ev_bl0, ev_bl1, ev_kRev, ev_rev, ev_slC, ev_slP, ev_slR, ev_pop, ev_kOrS, ev_kOrSs, ev_orS, ev_kPut2, ev_kPut1, ev_putL, ev_putN, ev_putC, ev_putCd, ev_kPut3, ev_kPut3s, ev_kPd2, ev_kPd1, ev_putD, ev_pdC, ev_kPd3S, ev_kPd3I, ev_kKG1, ev_kget, ev_kKG2, ev_nc0, ev_nc1, ev_ncn, ev_while, ev_niC, ev_inC, ev_signs, ev_itMk, ev_eqB, ev_inC2, ev_inP, ev_kIn, ev_kNi, ev_inPP, ev_niPP, ev_inT, ev_niT, ev_kPc3, ev_kPc2, ev_kPc1, ev_pc, ev_dispC, ev_kDisp, ev_disp, ev_keys0, ev_keysS, ev_merge, ev_g3C, ev_kG3, ev_kG2, ev_g1C, ev_kG1, ev_get2, ev_rng1, get_s3, str_cW, len_rngW, BEq.rfl, beq_self_eq_true, low_dic, List.any_cons, List.any_nil, Bool.or_false, Bool.false_or, Bool.true_or, Bool.or_true, Sum.inr.injEq, Sum.inl.injEq, low_bW, low_cW, len_bW, len_cW, bls_bW, iW_n, sW_n, List.length_singleton, at_iW, ix_last, set_iW, pop_iW, int_iW, str_sW, List.map_cons, List.map_nil, List.length_cons, List.length_nil, List.cons_append, List.nil_append, List.append_assoc, List.getElem?_cons_zero, List.getElem?_cons_succ, List.set_cons_zero, List.set_cons_succ, List.replicate_zero, List.replicate_succ, List.append_nil, List.filterMap_cons, List.filterMap_nil, and_self, List.length_append, List.length_set, st_at0, st_at, st_set0, st_set, settle_v0, settle_v, cl_nil, cl_cons, cl_self, cl_app, cl_app2, settle_vg, settle_pg, sPC_some, low_lst, low_frz, low_val, low_ptr, take_app, take_app0, lt_f, lt_f1, all_nil, all_cons, low_iW, low_sW, len_iW, len_sW, List.take_succ_cons, List.take_zero, List.take_length, true_or, or_true, Bool.and_true, Bool.true_and, true_and, and_true, Nat.lt_irrefl, Nat.add_lt_add_iff_left, Option.map_some, Option.bind_some, decide_true, decide_false, decide_eq_true_eq, eq_self, if_true, if_false, Bool.not_true, Bool.not_false, reduceIte, Bool.false_eq_true, Nat.add_zero, Nat.zero_add, Nat.reduceAdd, Nat.reduceSub, Nat.reduceLeDiff, Nat.reduceLT, Nat.reduceMul, Nat.reducePow, ofS_inj, sizeLine, String.reduceEq, String.reduceNe, Int.reduceAdd, Int.reduceSub, Int.reduceMul, Int.reduceNeg, Int.reduceLE, Int.reduceLT, Int.reduceEq, Nat.add_assoc, e1, e2, e3, ev_lenS hl, all_signs_ok, e4, both_ok, e5, e6, ev_slS hl, b1, b2, b3, b4, b5, b6, b7, b8, b9, sW_push, q1, q2, q3, q4, q5]
  · intro t ht
    simp only [List.mem_append, List.mem_cons, List.not_mem_nil, or_false] at ht
    rcases ht with ht | rfl | rfl | rfl | rfl | rfl | rfl | rfl | rfl | rfl
    · exact hts t ht
    all_goals (try simp only [Str.length_append]) <;> omega
  · simp
  · simp only [List.length_append, List.length_cons, List.length_nil, Nat.zero_add, Nat.reduceAdd, Nat.add_assoc]
    exact ⟨_, _, _, _, _, rfl⟩
/-- the second loop's turn -/
theorem turn_ok (word : Str) (hw1 : word.length ≤ 100) (ts : List Str) (hts : Bnd ts) (hn : ts.length ≤ 1000) (p : List Int) (hp : Gp p) (T U : Store) (o2 o4 o5 o6 : Option Dn.W) : ∃ e' ts' p' T', l_Ldraw_texts_2 [some (.ptr 0), some (.ptr (T.length + 1)), o2, some (.val (.str word)), o4, o5, o6] (.lst (iW p) :: (T ++ .lst (sW ts) :: U)) = .nx e' (.lst (iW p') :: (T' ++ [.lst (sW ts')])) ∧ Gp p' ∧ Bnd ts' ∧ ts'.length = ts.length + 5 ∧ (∃ a2 a3 a4 a5 a6, e' = [some (.ptr 0), some (.ptr (T'.length + 1)), a2, a3, a4, a5, a6]) ∧ (∃ V, T' = T ++ .lst (sW ts) :: (U ++ V)) := by
  have hB : BOTH.length = 36 := by decide +kernel
  obtain ⟨t5, p5, e5, hp5, h5⟩ := draw_text_ok p hp BOTH (by omega) (by omega) 1 (by omega) (by omega)
  have hl : word.length ≤ sizeLine := by unfold sizeLine; omega
  have i1 : Int.toNat 1 = 1 := rfl
  have c1 := cutS_length word none (some (-1))
  have c2 := cutS_length word (some 1) none
  have hu := PyProof.Rows.len_upper word
  have b3 := fun M => ev_addS (M := M) (x := word) (y := t5) (by unfold sizeLine; omega)
  have b9 := fun M => ev_upS (M := M) (x := word) (by omega)
  have q1 : ts.length + 3 ≤ 16777216 := by omega
  have q2 : ts.length + 5 ≤ 16777216 := by omega
  refine ⟨[some (.ptr 0), some (.ptr (T.length + (U.length + 5))), o2, some (.val (.str word)), o4, some (.val (.str t5)), o6], ts ++ [word, word ++ t5, Txt.upper word, cutS word (some 1) none, cutS word none (some (-1))], p5, T ++ .lst (sW ts) :: (U ++ [.lst [.val (.str word), .val (.str (word ++ t5)), .val (.str (Txt.upper word))], .lst (sW (ts ++ [word, word ++ t5, Txt.upper word])), .lst [.val (.str (cutS word (some 1) none)), .val (.str (cutS word none (some (-1))))]]), ?_, hp5, ?_, ?_, ?_, ?_⟩
  · simp only [l_Ldraw_texts_2, ev_rd, ev_addI, ev_subI, ev_ltI, ev_leI, ev_gtI, ev_geI, ev_eqI, ev_neI, ev_eqS, ev_neS, ev_negI, ev_absI, ev_intI, ev_intB, ev_nx, ev_rt, ev_bk, ev_ct, ev_bind, ev_st, ev_seq, ev_next, ev_brk, ev_cnt, ev_kIf1, ev_kIf0, ev_if, ev_kRt, ev_ret, ev_retN, ev_kSet, ev_set, ev_kDrop, ev_drop, ev_kVar, ev_var, ev_c, ev_k2, ev_d2, ev_d1, ev_nil, ev_kCons2, ev_kCons, ev_cons, ev_call, ev_kIsB, ev_isB, ev_kAnd1, ev_kAnd0, ev_and, ev_kOr1, ev_kOr0, ev_or, ev_kNot, ev_not, ev_kAndV1, ev_kAndV0, ev_andV, ev_kOrV1, ev_kOrV0, ev_orV, ev_kNotV, ev_notV, ev_kIfE1, ev_kIfE0, ev_ifE, ev_kCh31, ev_kCh30, ev_kCh2, ev_kCh1, ev_chain, ev_tmp, ev_kFunN, ev_kFunR, ev_fun, ev_env, ev_iter, ev_kFor, ev_for, ev_kLc, ev_lc, ev_rng, ev_no, ev_kPart, ev_part, ev_kSl1, ev_kSl, ev_sl, ev_kMeth0S, ev_meth0, ev_kMethS, ev_meth, ev_rdC, ev_rdP, ev_lvwC, ev_lvw, ev_lvwR, ev_lvwL, ev_tvwR, ev_tvwT, ev_svwR, ev_svwT, ev_svwC, ev_svw, ev_kOk, ev_kOkD, ev_ixC, ev_ix, ev_ixRls, ev_ixTup, ev_at0, ev_at1, ev_at2, ev_at3, ev_lenC, ev_len, ev_lenRls, ev_lenTup, ev_addC, ev_add, ev_appC, ev_app, ev_mthC, ev_mth, ev_mth0C, ev_mth0, ev_itC, ev_it, ev_itR, ev_itT, ev_itS, ev_vals0, ev_vals1, ev_frzV, ev_frzC, ev_frzCf, ev_frz, ev_frzK, ev_frzA0, ev_frzAv, ev_frzAp, ev_kMkT2, ev_kMkT, ev_mkT, ev_rdF, ev_map0, ev_map1, ev_omap, ev_kF2n, ev_kF2c, ev_kF2b, ev_kF2r, ev_kF1, ev_F1, ev_F0, ev_F1c, ev_F0c, ev_gnm, ev_gnil, ev_kGc, ev_gcons, ev_gtup, ev_kC4, ev_kC3, ev_kC21, ev_kC20, ev_kC1, ev_C1, ev_C0, ev_C1c, ev_C0c, ev_yes, ev_wipe0, ev_wipe1, ev_mkLi, ev_lsxC, ev_lsxD, ev_lsx, ev_lsxR, ev_lsxL, ev_lsxT, ev_kOkT, ev_tupC, ev_tup, ev_tupR, ev_tupL, ev_tupT, ev_tvwL, ev_svwL, ev_ixL, ev_lenL, ev_itL, ev_callK, ev_kCK, ev_kCK2, ev_permL, ev_kIsi, ev_isi, ev_tyI, ev_tyB, ev_tyS, ev_tyN, ev_tyT, ev_tyL, ev_tyR, ev_kit1, ev_kit2, ev_kit3, ev_kit4, ev_kit5, ev_kit6, ev_kit7, ev_eqIL, ev_eqPRC, ev_eqPR, ev_eqPL, ev_int0, ev_int1, ev_kSum, ev_sum, ev_kAllB, ev_all, ev_bl0, ev_bl1, ev_kRev, ev_rev, ev_slC, ev_slP, ev_slR, ev_pop, ev_kOrS, ev_kOrSs, ev_orS, ev_kPut2, ev_kPut1, ev_putL, ev_putN, ev_putC, ev_putCd, ev_kPut3, ev_kPut3s, ev_kPd2, ev_kPd1, ev_putD, ev_pdC, ev_kPd3S, ev_kPd3I, ev_kKG1, ev_kget, ev_kKG2, ev_nc0, ev_nc1, ev_ncn, ev_while, ev_niC, ev_inC, ev_signs, ev_itMk, ev_eqB, ev_inC2, ev_inP, ev_kIn, ev_kNi, ev_inPP, ev_niPP, ev_inT, ev_niT, ev_kPc3, ev_kPc2, ev_kPc1, ev_pc, ev_dispC, ev_kDisp, ev_disp, ev_keys0, ev_keysS, ev_merge, ev_g3C, ev_kG3, ev_kG2, ev_g1C, ev_kG1, ev_get2, ev_rng1, get_s3, str_cW, len_rngW, BEq.rfl, beq_self_eq_true, low_dic, List.any_cons, List.any_nil, Bool.or_false, Bool.false_or, Bool.true_or, Bool.or_true, Sum.inr.injEq, Sum.inl.injEq, low_bW, low_cW, len_bW, len_cW, bls_bW, iW_n, sW_n, List.length_singleton, at_iW, ix_last, set_iW, pop_iW, int_iW, str_sW, List.map_cons, List.map_nil, List.length_cons, List.length_nil, List.cons_append, List.nil_append, List.append_assoc, List.getElem?_cons_zero, List.getElem?_cons_succ, List.set_cons_zero, List.set_cons_succ, List.replicate_zero, List.replicate_succ, List.append_nil, List.filterMap_cons, List.filterMap_nil, and_self, List.length_append, List.length_set, st_at0, st_at, st_set0, st_set, settle_v0, settle_v, cl_nil, cl_cons, cl_self, cl_app, cl_app2, settle_vg, settle_pg, sPC_some, low_lst, low_frz, low_val, low_ptr, take_app, take_app0, lt_f, lt_f1, all_nil, all_cons, low_iW, low_sW, len_iW, len_sW, List.take_succ_cons, List.take_zero, List.take_length, true_or, or_true, Bool.and_true, Bool.true_and, true_and, and_true, Nat.lt_irrefl, Nat.add_lt_add_iff_left, Option.map_some, Option.bind_some, decide_true, decide_false, decide_eq_true_eq, eq_self, if_true, if_false, Bool.not_true, Bool.not_false, reduceIte, Bool.false_eq_true, Nat.add_zero, Nat.zero_add, Nat.reduceAdd, Nat.reduceSub, Nat.reduceLeDiff, Nat.reduceLT, Nat.reduceMul, Nat.reducePow, ofS_inj, sizeLine, String.reduceEq, String.reduceNe, Int.reduceAdd, Int.reduceSub, Int.reduceMul, Int.reduceNeg, Int.reduceLE, Int.reduceLT, Int.reduceEq, Nat.add_assoc, both_ok, e5, ev_slS hl, b3, b9, sW_push, q1, q2]
  · intro t ht
    simp only [List.mem_append, List.mem_cons, List.not_mem_nil, or_false] at ht
    rcases ht with ht | rfl | rfl | rfl | rfl | rfl
    · exact hts t ht
    all_goals (try simp only [Str.length_append]) <;> omega
  · simp
  · simp only [List.length_append, List.length_cons, List.length_nil, Nat.zero_add, Nat.reduceAdd, Nat.add_assoc]
    exact ⟨_, _, _, _, _, rfl⟩
  · exact ⟨_, rfl⟩
/-- the first loop -/
theorem loop1 : ∀ (ws : List Dn.W) (ts : List Str), Bnd ts → ts.length + 20 * ws.length ≤ 1000 → ∀ (p : List Int), Gp p → ∀ (T : Store) (o2 o3 o4 o5 o6 : Option Dn.W), ∃ e' ts' p' T', loopF .always (gnm 2) l_Ldraw_texts_1 ws [some (.ptr 0), some (.ptr (T.length + 1)), o2, o3, o4, o5, o6] (.lst (iW p) :: (T ++ [.lst (sW ts)])) = .nx e' (.lst (iW p') :: (T' ++ [.lst (sW ts')])) ∧ Gp p' ∧ Bnd ts' ∧ ts'.length ≤ ts.length + 20 * ws.length ∧ (∃ a2 a3 a4 a5 a6, e' = [some (.ptr 0), some (.ptr (T'.length + 1)), a2, a3, a4, a5, a6])
  | [], ts, hts, hn, p, hp, T, o2, o3, o4, o5, o6 => ⟨_, ts, p, T, ev_F0, hp, hts, by simp, _, _, _, _, _, rfl⟩
  | w :: ws, ts, hts, hn, p, hp, T, o2, o3, o4, o5, o6 => by
    simp only [List.length_cons] at hn
    obtain ⟨e1, t1, p1, T1, h1, hp1, ht1, hn1, a2, a3, a4, a5, a6, he⟩ := round_ok ts hts (by omega) p hp T (some w) o3 o4 o5 o6
    obtain ⟨e2, t2, p2, T2, h2, hp2, ht2, hn2, hx⟩ := loop1 ws t1 ht1 (by omega) p1 hp1 T1 a2 a3 a4 a5 a6
    refine ⟨e2, t2, p2, T2, ?_, hp2, ht2, by simp only [List.length_cons]; omega, hx⟩
    rw [ev_F1]
    simp only [ev_gnm, ev_kF1, List.set_cons_succ, List.set_cons_zero, h1, ev_kF2n]
    rw [he]
    exact h2
/-- the second loop -/
theorem loop2 (words : List Str) (hw : ∀ x ∈ words, x.length ≤ 100) (k : Nat) : ∀ (us : List Str) (hu : ∀ x ∈ us, x.length ≤ 100) (ts : List Str), Bnd ts → ts.length + 5 * us.length ≤ 1000 → ∀ (p : List Int), Gp p → ∀ (T U : Store) (o2 o3 o4 o5 o6 : Option Dn.W), (T ++ .lst (sW ts) :: U)[k]? = some (.lst (sW words)) →
    ∃ e' ts' p' T' U', loopF (.cell (k + 1) (sW words)) (gnm 3) l_Ldraw_texts_2 (sW us) [some (.ptr 0), some (.ptr (T.length + 1)), o2, o3, o4, o5, o6] (.lst (iW p) :: (T ++ .lst (sW ts) :: U)) = .nx e' (.lst (iW p') :: (T' ++ .lst (sW ts') :: U')) ∧ Gp p' ∧ Bnd ts' ∧ ts'.length ≤ ts.length + 5 * us.length ∧ (∃ a2 a3 a4 a5 a6, e' = [some (.ptr 0), some (.ptr (T'.length + 1)), a2, a3, a4, a5, a6])
  | [], hu, ts, hts, hn, p, hp, T, U, o2, o3, o4, o5, o6, hk => ⟨_, ts, p, T, U, loopF_nil (by show (Cell.lst (iW p) :: (T ++ .lst (sW ts) :: U))[k + 1]? = _; rw [List.getElem?_cons_succ]; exact hk), hp, hts, by simp, _, _, _, _, _, rfl⟩
  | w :: us, hu, ts, hts, hn, p, hp, T, U, o2, o3, o4, o5, o6, hk => by
    simp only [List.length_cons] at hn
    obtain ⟨e1, t1, p1, T1, h1, hp1, ht1, hn1, ⟨a2, a3, a4, a5, a6, he⟩, V, hV⟩ := turn_ok w (hu w (by simp)) ts hts (by omega) p hp T U o2 o4 o5 o6
    have hk1 : (T1 ++ [.lst (sW t1)])[k]? = some (.lst (sW words)) := by
      rw [hV, List.append_assoc]
      have hlt := (List.getElem?_eq_some_iff.mp hk).1
      rw [show T ++ (Cell.lst (sW ts) :: (U ++ V) ++ [Cell.lst (sW t1)]) = (T ++ Cell.lst (sW ts) :: U) ++ (V ++ [Cell.lst (sW t1)]) by simp, List.getElem?_append_left hlt]
      exact hk
    obtain ⟨e2, t2, p2, T2, U2, h2, hp2, ht2, hn2, hx⟩ := loop2 words hw k us (fun x hx => hu x (by simp [hx])) t1 ht1 (by omega) p1 hp1 T1 [] a2 a3 a4 a5 a6 hk1
    refine ⟨e2, t2, p2, T2, U2, ?_, hp2, ht2, by simp only [List.length_cons]; omega, hx⟩
    have hk2 : Stay.ok (.lst (iW p) :: (T ++ .lst (sW ts) :: U)) (.cell (k + 1) (sW words)) := by
      show (Cell.lst (iW p) :: (T ++ .lst (sW ts) :: U))[k + 1]? = _
      rw [List.getElem?_cons_succ]; exact hk
    rw [show sW (w :: us) = .val (.str w) :: sW us from rfl, loopF_step hk2]
    simp only [ev_gnm, ev_kF1, List.set_cons_succ, List.set_cons_zero, h1, ev_kF2n]
    rw [he]
    exact h2
def OPS : List Str := ["move", "add", "sub", "mul", "less", "pick", "load", "store", "leave"]
theorem keys_eq : (CNT.map fun kv => W.val (kD kv.1)) = sW OPS := rfl
def T0 : List Str := ["", "a", "z", "0", "-", "\n",
  "abcdefgh", "abcdefghi", "a1b2c3d4", "a1b2c3d45"]
theorem words_ok : ∀ x ∈ RES ++ OPS, x.length ≤ 100 := by decide +kernel
theorem t0_ok : Bnd T0 := by unfold Bnd; decide +kernel
theorem draw_texts_ok (p : List Int) (hp : Gp p) : ∃ ts p', m_Ldraw_texts [.ptr 0] [.lst (iW p)] = .ok (.ptr 1) [.lst (iW p'), .lst (sW ts)] ∧ Bnd ts ∧ ts.length ≤ 1000 := by
  have hA : 0 < ALL.length ∧ ALL.length ≤ 1000 := by decide +kernel
  have hB : BOTH.length = 36 := by decide +kernel
  obtain ⟨e1, t1, p1, T1, h1, hp1, ht1, hn1, a2, a3, a4, a5, a6, he⟩ := loop1 (rngW 0 3) T0 t0_ok (by rw [len_rngW]; decide) p hp [] none none none none none
  subst he
  rw [len_rngW, show T0.length = 10 from rfl] at hn1
  obtain ⟨w, p2, e2, hp2, hw⟩ := draw_word_ok p1 hp1 8 (by omega) (by omega)
  obtain ⟨t3, p3, e3, hp3, h3⟩ := draw_text_ok p2 hp2 BOTH (by omega) (by omega) 1 (by omega) (by omega)
  obtain ⟨d4, p4, e4, hp4, d40, d41⟩ := pick_ok p3 hp3 13 (by decide) (sm_of (by decide) (by decide))
  obtain ⟨t5, p5, e5, hp5, h5⟩ := draw_text_ok p4 hp4 ALL (by omega) (by omega) d4 (by omega) (by omega)
  have i1 : Int.toNat 1 = 1 := rfl
  have i8 : Int.toNat 8 = 8 := rfl
  have b1 := fun M => ev_addS (M := M) (x := w) (y := t3) (by unfold sizeLine; omega)
  have hb : Bnd (t1 ++ [w ++ t3, t5]) := by
    intro t ht
    simp only [List.mem_append, List.mem_cons, List.not_mem_nil, or_false] at ht
    rcases ht with ht | rfl | rfl
    · exact ht1 t ht
    all_goals (try simp only [Str.length_append]) <;> omega
  obtain ⟨e6, t6, p6, T6, U6, h6, hp6, ht6, hn6, z2, z3, z4, z5, z6, he6⟩ := loop2 (RES ++ OPS) words_ok (T1.length + 3) (RES ++ OPS) words_ok (t1 ++ [w ++ t3, t5]) hb (by
    simp only [List.length_append, List.length_cons, List.length_nil, show RES.length = 16 from rfl, show OPS.length = 9 from rfl]; omega) p5 hp5 T1 [.lst (sW RES), .lst (sW OPS), .lst (sW (RES ++ OPS))] a2 a3 a4 a5 a6 (by rw [st_at]; rfl)
  subst he6
  have q1 : t1.length < 16777216 := by omega
  have q2 : t1.length + 1 < 16777216 := by omega
  have hs : smallI 3 := by decide
  have hT0 : [W.val (.str (Str.ofString "")), .val (.str (Str.ofString "a")), .val (.str (Str.ofString "z")), .val (.str (Str.ofString "0")), .val (.str (Str.ofString "-")), .val (.str (Str.ofString "\n")), .val (.str (Str.ofString "abcdefgh")), .val (.str (Str.ofString "abcdefghi")), .val (.str (Str.ofString "a1b2c3d4")), .val (.str (Str.ofString "a1b2c3d45"))] = sW T0 := rfl
  have hn7 : t6.length ≤ 1000 := by
    simp only [List.length_append, List.length_cons, List.length_nil, show RES.length = 16 from rfl, show OPS.length = 9 from rfl] at hn6
    omega
  refine ⟨t6, p6, ?_, ht6, hn7⟩
  simp only [List.nil_append, List.length_nil, Nat.zero_add] at h1
  simp only [Nat.add_assoc, Nat.reduceAdd] at h6
  simp only [u_Ldraw_texts, d_Ldraw_texts, ev_rd, ev_addI, ev_subI, ev_ltI, ev_leI, ev_gtI, ev_geI, ev_eqI, ev_neI, ev_eqS, ev_neS, ev_negI, ev_absI, ev_intI, ev_intB, ev_nx, ev_rt, ev_bk, ev_ct, ev_bind, ev_st, ev_seq, ev_next, ev_brk, ev_cnt, ev_kIf1, ev_kIf0, ev_if, ev_kRt, ev_ret, ev_retN, ev_kSet, ev_set, ev_kDrop, ev_drop, ev_kVar, ev_var, ev_c, ev_k2, ev_d2, ev_d1, ev_nil, ev_kCons2, ev_kCons, ev_cons, ev_call, ev_kIsB, ev_isB, ev_kAnd1, ev_kAnd0, ev_and, ev_kOr1, ev_kOr0, ev_or, ev_kNot, ev_not, ev_kAndV1, ev_kAndV0, ev_andV, ev_kOrV1, ev_kOrV0, ev_orV, ev_kNotV, ev_notV, ev_kIfE1, ev_kIfE0, ev_ifE, ev_kCh31, ev_kCh30, ev_kCh2, ev_kCh1, ev_chain, ev_tmp, ev_kFunN, ev_kFunR, ev_fun, ev_env, ev_iter, ev_kFor, ev_for, ev_kLc, ev_lc, ev_rng, ev_no, ev_kPart, ev_part, ev_kSl1, ev_kSl, ev_sl, ev_kMeth0S, ev_meth0, ev_kMethS, ev_meth, ev_rdC, ev_rdP, ev_lvwC, ev_lvw, ev_lvwR, ev_lvwL, ev_tvwR, ev_tvwT, ev_svwR, ev_svwT, ev_svwC, ev_svw, ev_kOk, ev_kOkD, ev_ixC, ev_ix, ev_ixRls, ev_ixTup, ev_at0, ev_at1, ev_at2, ev_at3, ev_lenC, ev_len, ev_lenRls, ev_lenTup, ev_addC, ev_add, ev_appC, ev_app, ev_mthC, ev_mth, ev_mth0C, ev_mth0, ev_itC, ev_it, ev_itR, ev_itT, ev_itS, ev_vals0, ev_vals1, ev_frzV, ev_frzC, ev_frzCf, ev_frz, ev_frzK, ev_frzA0, ev_frzAv, ev_frzAp, ev_kMkT2, ev_kMkT, ev_mkT, ev_rdF, ev_map0, ev_map1, ev_omap, ev_kF2n, ev_kF2c, ev_kF2b, ev_kF2r, ev_kF1, ev_F1, ev_F0, ev_F1c, ev_F0c, ev_gnm, ev_gnil, ev_kGc, ev_gcons, ev_gtup, ev_kC4, ev_kC3, ev_kC21, ev_kC20, ev_kC1, ev_C1, ev_C0, ev_C1c, ev_C0c, ev_yes, ev_wipe0, ev_wipe1, ev_mkLi, ev_lsxC, ev_lsxD, ev_lsx, ev_lsxR, ev_lsxL, ev_lsxT, ev_kOkT, ev_tupC, ev_tup, ev_tupR, ev_tupL, ev_tupT, ev_tvwL, ev_svwL, ev_ixL, ev_lenL, ev_itL, ev_callK, ev_kCK, ev_kCK2, ev_permL, ev_kIsi, ev_isi, ev_tyI, ev_tyB, ev_tyS, ev_tyN, ev_tyT, ev_tyL, ev_tyR, ev_kit1, ev_kit2, ev_kit3, ev_kit4, ev_kit5, ev_kit6, ev_kit7, ev_eqIL, ev_eqPRC, ev_eqPR, ev_eqPL, ev_int0, ev_int1, ev_kSum, ev_sum, ev_kAllB, ev_all, ev_bl0, ev_bl1, ev_kRev, ev_rev, ev_slC, ev_slP, ev_slR, ev_pop, ev_kOrS, ev_kOrSs, ev_orS, ev_kPut2, ev_kPut1, ev_putL, ev_putN, ev_putC, ev_putCd, ev_kPut3, ev_kPut3s, ev_kPd2, ev_kPd1, ev_putD, ev_pdC, ev_kPd3S, ev_kPd3I, ev_kKG1, ev_kget, ev_kKG2, ev_nc0, ev_nc1, ev_ncn, ev_while, ev_niC, ev_inC, ev_signs, ev_itMk, ev_eqB, ev_inC2, ev_inP, ev_kIn, ev_kNi, ev_inPP, ev_niPP, ev_inT, ev_niT, ev_kPc3, ev_kPc2, ev_kPc1, ev_pc, ev_dispC, ev_kDisp, ev_disp, ev_keys0, ev_keysS, ev_merge, ev_g3C, ev_kG3, ev_kG2, ev_g1C, ev_kG1, ev_get2, ev_rng1, get_s3, str_cW, len_rngW, BEq.rfl, beq_self_eq_true, low_dic, List.any_cons, List.any_nil, Bool.or_false, Bool.false_or, Bool.true_or, Bool.or_true, Sum.inr.injEq, Sum.inl.injEq, low_bW, low_cW, len_bW, len_cW, bls_bW, iW_n, sW_n, List.length_singleton, at_iW, ix_last, set_iW, pop_iW, int_iW, str_sW, List.map_cons, List.map_nil, List.length_cons, List.length_nil, List.cons_append, List.nil_append, List.append_assoc, List.getElem?_cons_zero, List.getElem?_cons_succ, List.set_cons_zero, List.set_cons_succ, List.replicate_zero, List.replicate_succ, List.append_nil, List.filterMap_cons, List.filterMap_nil, and_self, List.length_append, List.length_set, st_at0, st_at, st_set0, st_set, settle_v0, settle_v, cl_nil, cl_cons, cl_self, cl_app, cl_app2, settle_vg, settle_pg, sPC_some, low_lst, low_frz, low_val, low_ptr, take_app, take_app0, lt_f, lt_f1, all_nil, all_cons, low_iW, low_sW, len_iW, len_sW, List.take_succ_cons, List.take_zero, List.take_length, true_or, or_true, Bool.and_true, Bool.true_and, true_and, and_true, Nat.lt_irrefl, Nat.add_lt_add_iff_left, Option.map_some, Option.bind_some, decide_true, decide_false, decide_eq_true_eq, eq_self, if_true, if_false, Bool.not_true, Bool.not_false, reduceIte, Bool.false_eq_true, Nat.add_zero, Nat.zero_add, Nat.reduceAdd, Nat.reduceSub, Nat.reduceLeDiff, Nat.reduceLT, Nat.reduceMul, Nat.reducePow, ofS_inj, sizeLine, String.reduceEq, String.reduceNe, Int.reduceAdd, Int.reduceSub, Int.reduceMul, Int.reduceNeg, Int.reduceLE, Int.reduceLT, Int.reduceEq, Nat.add_assoc, hT0, ev_rng1, hs, show Int.toNat 3 = 3 from rfl, h1, e2, e3, b1, both_ok, all_signs_ok, e4, e5, q1, q2, sW_push, reserved_ok, counts_ok, keys_eq, sW_app, show T0.length = 10 from rfl, show RES.length = 16 from rfl, show OPS.length = 9 from rfl, h6]
  rw [if_neg (by omega)]
theorem min2_ok {i j : Int} {M : Store} : gMin2 [.val (.int i), .val (.int j)] M = .ok (.val (.int (if j < i then j else i))) M := rfl
theorem all_true (ts : List Str) : (ts.map fun _ => true).all id = true := by simp
theorem law_ok (ns : List Int) (h : ns.length ≤ 63) : ∃ M, m_law [scriptD ns] [] = .ok (.val (.bl true)) M := by
  obtain ⟨p0, e0, hp0⟩ := pool_ok ns h
  obtain ⟨m, p1, e1, hp1, m0, m1⟩ := draw_modulus_ok p0 hp0
  obtain ⟨a, p2, e2, hp2, a0, a1⟩ := draw_number_ok p1 hp1 m m0 m1
  obtain ⟨b, p3, e3, hp3, b0, b1⟩ := draw_number_ok p2 hp2 m m0 m1
  obtain ⟨c, p4, e4, hp4, c0, c1⟩ := draw_number_ok p3 hp3 m m0 m1
  obtain ⟨d, p5, e5, hp5, d0, d1⟩ := pick_ok p4 hp4 4 (by decide) (sm_of (by decide) (by decide))
  obtain ⟨ts, p6, e6, hts, hn⟩ := draw_texts_ok p5 hp5
  have g0 := Int.emod_nonneg m (show (999999 : Int) ≠ 0 by decide)
  have g1 := Int.emod_lt_of_pos m (show (0 : Int) < 999999 by decide)
  have v1 := fun (y : Int) (y0 : 0 ≤ y) (y1 : y < m) M => values_told M a y c m (by omega) (sm_of (by omega) (by omega)) (sm_of (by omega) (by omega)) (sm_of (by omega) (by omega)) (sm_of (by omega) (by omega)) (sm_of (by omega) (by omega))
  have mn : ∀ x : Int, 0 ≤ x → Sm (if 1 < x then 1 else x) := fun x hx => by
    split
    · exact sm1
    · exact sm_of (by omega) (by omega)
  have v2 := fun (y : Int) (y0 : 0 ≤ y) M => values_told M (if 1 < y then 1 else y) (if 1 < a then 1 else a) (if 1 < c then 1 else c) (2 + m % 999999) (by omega) (sm_of (by omega) (by omega)) (sm_of (by omega) (by omega)) (mn y y0) (mn a a0) (mn c c0)
  have hmod := fun M => ev_modI (M := M) (i := m) (j := 999999) (by decide)
  have e7 := fun (y : Int) => comp_g (s := .cell 1 (sW ts)) (dg := gnm 7) (ft := dYes) (fe := e_law_1) (e := [some (scriptD ns), some (.ptr 0), some (.val (.int m)), some (.val (.int a)), some (.val (.int y)), some (.val (.int c)), some (.val (.int (2 + m % 999999))), none]) [.lst (iW p6), .lst (sW ts)] (fun x : Str => W.val (.str x)) (fun b : Bool => W.val (.bl b)) (fun _ => true) (fun _ => true) (fun _ => rfl) ts (fun x hx acc => by
    have hb := hts x hx
    have tt : ∀ M, m_Ltext_told [.val (.str x)] M = .ok (.val (.bl true)) M := fun M => text_told x.cps.toList (by show x.length ≤ _; omega)
    refine ⟨_, rfl, rfl, fun _ => ?_⟩
    simp only [e_law_1, ev_rd, ev_addI, ev_subI, ev_ltI, ev_leI, ev_gtI, ev_geI, ev_eqI, ev_neI, ev_eqS, ev_neS, ev_negI, ev_absI, ev_intI, ev_intB, ev_nx, ev_rt, ev_bk, ev_ct, ev_bind, ev_st, ev_seq, ev_next, ev_brk, ev_cnt, ev_kIf1, ev_kIf0, ev_if, ev_kRt, ev_ret, ev_retN, ev_kSet, ev_set, ev_kDrop, ev_drop, ev_kVar, ev_var, ev_c, ev_k2, ev_d2, ev_d1, ev_nil, ev_kCons2, ev_kCons, ev_cons, ev_call, ev_kIsB, ev_isB, ev_kAnd1, ev_kAnd0, ev_and, ev_kOr1, ev_kOr0, ev_or, ev_kNot, ev_not, ev_kAndV1, ev_kAndV0, ev_andV, ev_kOrV1, ev_kOrV0, ev_orV, ev_kNotV, ev_notV, ev_kIfE1, ev_kIfE0, ev_ifE, ev_kCh31, ev_kCh30, ev_kCh2, ev_kCh1, ev_chain, ev_tmp, ev_kFunN, ev_kFunR, ev_fun, ev_env, ev_iter, ev_kFor, ev_for, ev_kLc, ev_lc, ev_rng, ev_no, ev_kPart, ev_part, ev_kSl1, ev_kSl, ev_sl, ev_kMeth0S, ev_meth0, ev_kMethS, ev_meth, ev_rdC, ev_rdP, ev_lvwC, ev_lvw, ev_lvwR, ev_lvwL, ev_tvwR, ev_tvwT, ev_svwR, ev_svwT, ev_svwC, ev_svw, ev_kOk, ev_kOkD, ev_ixC, ev_ix, ev_ixRls, ev_ixTup, ev_at0, ev_at1, ev_at2, ev_at3, ev_lenC, ev_len, ev_lenRls, ev_lenTup, ev_addC, ev_add, ev_appC, ev_app, ev_mthC, ev_mth, ev_mth0C, ev_mth0, ev_itC, ev_it, ev_itR, ev_itT, ev_itS, ev_vals0, ev_vals1, ev_frzV, ev_frzC, ev_frzCf, ev_frz, ev_frzK, ev_frzA0, ev_frzAv, ev_frzAp, ev_kMkT2, ev_kMkT, ev_mkT, ev_rdF, ev_map0, ev_map1, ev_omap, ev_kF2n, ev_kF2c, ev_kF2b, ev_kF2r, ev_kF1, ev_F1, ev_F0, ev_F1c, ev_F0c, ev_gnm, ev_gnil, ev_kGc, ev_gcons, ev_gtup, ev_kC4, ev_kC3, ev_kC21, ev_kC20, ev_kC1, ev_C1, ev_C0, ev_C1c, ev_C0c, ev_yes, ev_wipe0, ev_wipe1, ev_mkLi, ev_lsxC, ev_lsxD, ev_lsx, ev_lsxR, ev_lsxL, ev_lsxT, ev_kOkT, ev_tupC, ev_tup, ev_tupR, ev_tupL, ev_tupT, ev_tvwL, ev_svwL, ev_ixL, ev_lenL, ev_itL, ev_callK, ev_kCK, ev_kCK2, ev_permL, ev_kIsi, ev_isi, ev_tyI, ev_tyB, ev_tyS, ev_tyN, ev_tyT, ev_tyL, ev_tyR, ev_kit1, ev_kit2, ev_kit3, ev_kit4, ev_kit5, ev_kit6, ev_kit7, ev_eqIL, ev_eqPRC, ev_eqPR, ev_eqPL, ev_int0, ev_int1, ev_kSum, ev_sum, ev_kAllB, ev_all, ev_bl0, ev_bl1, ev_kRev, ev_rev, ev_slC, ev_slP, ev_slR, ev_pop, ev_kOrS, ev_kOrSs, ev_orS, ev_kPut2, ev_kPut1, ev_putL, ev_putN, ev_putC, ev_putCd, ev_kPut3, ev_kPut3s, ev_kPd2, ev_kPd1, ev_putD, ev_pdC, ev_kPd3S, ev_kPd3I, ev_kKG1, ev_kget, ev_kKG2, ev_nc0, ev_nc1, ev_ncn, ev_while, ev_niC, ev_inC, ev_signs, ev_itMk, ev_eqB, ev_inC2, ev_inP, ev_kIn, ev_kNi, ev_inPP, ev_niPP, ev_inT, ev_niT, ev_kPc3, ev_kPc2, ev_kPc1, ev_pc, ev_dispC, ev_kDisp, ev_disp, ev_keys0, ev_keysS, ev_merge, ev_g3C, ev_kG3, ev_kG2, ev_g1C, ev_kG1, ev_get2, ev_rng1, get_s3, str_cW, len_rngW, BEq.rfl, beq_self_eq_true, low_dic, List.any_cons, List.any_nil, Bool.or_false, Bool.false_or, Bool.true_or, Bool.or_true, Sum.inr.injEq, Sum.inl.injEq, low_bW, low_cW, len_bW, len_cW, bls_bW, iW_n, sW_n, List.length_singleton, at_iW, ix_last, set_iW, pop_iW, int_iW, str_sW, List.map_cons, List.map_nil, List.length_cons, List.length_nil, List.cons_append, List.nil_append, List.append_assoc, List.getElem?_cons_zero, List.getElem?_cons_succ, List.set_cons_zero, List.set_cons_succ, List.replicate_zero, List.replicate_succ, List.append_nil, List.filterMap_cons, List.filterMap_nil, and_self, List.length_append, List.length_set, st_at0, st_at, st_set0, st_set, settle_v0, settle_v, cl_nil, cl_cons, cl_self, cl_app, cl_app2, settle_vg, settle_pg, sPC_some, low_lst, low_frz, low_val, low_ptr, take_app, take_app0, lt_f, lt_f1, all_nil, all_cons, low_iW, low_sW, len_iW, len_sW, List.take_succ_cons, List.take_zero, List.take_length, true_or, or_true, Bool.and_true, Bool.true_and, true_and, and_true, Nat.lt_irrefl, Nat.add_lt_add_iff_left, Option.map_some, Option.bind_some, decide_true, decide_false, decide_eq_true_eq, eq_self, if_true, if_false, Bool.not_true, Bool.not_false, reduceIte, Bool.false_eq_true, Nat.add_zero, Nat.zero_add, Nat.reduceAdd, Nat.reduceSub, Nat.reduceLeDiff, Nat.reduceLT, Nat.reduceMul, Nat.reducePow, ofS_inj, sizeLine, String.reduceEq, String.reduceNe, Int.reduceAdd, Int.reduceSub, Int.reduceMul, Int.reduceNeg, Int.reduceLE, Int.reduceLT, Int.reduceEq, Nat.add_assoc, tt]) [] (by show 0 + ts.length < 16777216; omega)
  have e8 : ∀ y, loopC (.cell 1 (sW ts)) (gnm 7) dYes e_law_1 2 [some (scriptD ns), some (.ptr 0), some (.val (.int m)), some (.val (.int a)), some (.val (.int y)), some (.val (.int c)), some (.val (.int (2 + m % 999999))), none] (sW ts) [.lst (iW p6), .lst (sW ts), .lst []] = .ok (.ptr 2) [.lst (iW p6), .lst (sW ts), .lst (bW (ts.map fun _ => true))] := by
    intro y
    have := e7 y
    rw [List.filter_eq_self.mpr (fun _ _ => rfl)] at this
    exact this
  by_cases q : d = 0
  · refine ⟨[], ?_⟩
    subst q
    simp only [u_law, d_law, ev_rd, ev_addI, ev_subI, ev_ltI, ev_leI, ev_gtI, ev_geI, ev_eqI, ev_neI, ev_eqS, ev_neS, ev_negI, ev_absI, ev_intI, ev_intB, ev_nx, ev_rt, ev_bk, ev_ct, ev_bind, ev_st, ev_seq, ev_next, ev_brk, ev_cnt, ev_kIf1, ev_kIf0, ev_if, ev_kRt, ev_ret, ev_retN, ev_kSet, ev_set, ev_kDrop, ev_drop, ev_kVar, ev_var, ev_c, ev_k2, ev_d2, ev_d1, ev_nil, ev_kCons2, ev_kCons, ev_cons, ev_call, ev_kIsB, ev_isB, ev_kAnd1, ev_kAnd0, ev_and, ev_kOr1, ev_kOr0, ev_or, ev_kNot, ev_not, ev_kAndV1, ev_kAndV0, ev_andV, ev_kOrV1, ev_kOrV0, ev_orV, ev_kNotV, ev_notV, ev_kIfE1, ev_kIfE0, ev_ifE, ev_kCh31, ev_kCh30, ev_kCh2, ev_kCh1, ev_chain, ev_tmp, ev_kFunN, ev_kFunR, ev_fun, ev_env, ev_iter, ev_kFor, ev_for, ev_kLc, ev_lc, ev_rng, ev_no, ev_kPart, ev_part, ev_kSl1, ev_kSl, ev_sl, ev_kMeth0S, ev_meth0, ev_kMethS, ev_meth, ev_rdC, ev_rdP, ev_lvwC, ev_lvw, ev_lvwR, ev_lvwL, ev_tvwR, ev_tvwT, ev_svwR, ev_svwT, ev_svwC, ev_svw, ev_kOk, ev_kOkD, ev_ixC, ev_ix, ev_ixRls, ev_ixTup, ev_at0, ev_at1, ev_at2, ev_at3, ev_lenC, ev_len, ev_lenRls, ev_lenTup, ev_addC, ev_add, ev_appC, ev_app, ev_mthC, ev_mth, ev_mth0C, ev_mth0, ev_itC, ev_it, ev_itR, ev_itT, ev_itS, ev_vals0, ev_vals1, ev_frzV, ev_frzC, ev_frzCf, ev_frz, ev_frzK, ev_frzA0, ev_frzAv, ev_frzAp, ev_kMkT2, ev_kMkT, ev_mkT, ev_rdF, ev_map0, ev_map1, ev_omap, ev_kF2n, ev_kF2c, ev_kF2b, ev_kF2r, ev_kF1, ev_F1, ev_F0, ev_F1c, ev_F0c, ev_gnm, ev_gnil, ev_kGc, ev_gcons, ev_gtup, ev_kC4, ev_kC3, ev_kC21, ev_kC20, ev_kC1, ev_C1, ev_C0, ev_C1c, ev_C0c, ev_yes, ev_wipe0, ev_wipe1, ev_mkLi, ev_lsxC, ev_lsxD, ev_lsx, ev_lsxR, ev_lsxL, ev_lsxT, ev_kOkT, ev_tupC, ev_tup, ev_tupR, ev_tupL, ev_tupT, ev_tvwL, ev_svwL, ev_ixL, ev_lenL, ev_itL, ev_callK, ev_kCK, ev_kCK2, ev_permL, ev_kIsi, ev_isi, ev_tyI, ev_tyB, ev_tyS, ev_tyN, ev_tyT, ev_tyL, ev_tyR, ev_kit1, ev_kit2, ev_kit3, ev_kit4, ev_kit5, ev_kit6, ev_kit7, ev_eqIL, ev_eqPRC, ev_eqPR, ev_eqPL, ev_int0, ev_int1, ev_kSum, ev_sum, ev_kAllB, ev_all, ev_bl0, ev_bl1, ev_kRev, ev_rev, ev_slC, ev_slP, ev_slR, ev_pop, ev_kOrS, ev_kOrSs, ev_orS, ev_kPut2, ev_kPut1, ev_putL, ev_putN, ev_putC, ev_putCd, ev_kPut3, ev_kPut3s, ev_kPd2, ev_kPd1, ev_putD, ev_pdC, ev_kPd3S, ev_kPd3I, ev_kKG1, ev_kget, ev_kKG2, ev_nc0, ev_nc1, ev_ncn, ev_while, ev_niC, ev_inC, ev_signs, ev_itMk, ev_eqB, ev_inC2, ev_inP, ev_kIn, ev_kNi, ev_inPP, ev_niPP, ev_inT, ev_niT, ev_kPc3, ev_kPc2, ev_kPc1, ev_pc, ev_dispC, ev_kDisp, ev_disp, ev_keys0, ev_keysS, ev_merge, ev_g3C, ev_kG3, ev_kG2, ev_g1C, ev_kG1, ev_get2, ev_rng1, get_s3, str_cW, len_rngW, BEq.rfl, beq_self_eq_true, low_dic, List.any_cons, List.any_nil, Bool.or_false, Bool.false_or, Bool.true_or, Bool.or_true, Sum.inr.injEq, Sum.inl.injEq, low_bW, low_cW, len_bW, len_cW, bls_bW, iW_n, sW_n, List.length_singleton, at_iW, ix_last, set_iW, pop_iW, int_iW, str_sW, List.map_cons, List.map_nil, List.length_cons, List.length_nil, List.cons_append, List.nil_append, List.append_assoc, List.getElem?_cons_zero, List.getElem?_cons_succ, List.set_cons_zero, List.set_cons_succ, List.replicate_zero, List.replicate_succ, List.append_nil, List.filterMap_cons, List.filterMap_nil, and_self, List.length_append, List.length_set, st_at0, st_at, st_set0, st_set, settle_v0, settle_v, cl_nil, cl_cons, cl_self, cl_app, cl_app2, settle_vg, settle_pg, sPC_some, low_lst, low_frz, low_val, low_ptr, take_app, take_app0, lt_f, lt_f1, all_nil, all_cons, low_iW, low_sW, len_iW, len_sW, List.take_succ_cons, List.take_zero, List.take_length, true_or, or_true, Bool.and_true, Bool.true_and, true_and, and_true, Nat.lt_irrefl, Nat.add_lt_add_iff_left, Option.map_some, Option.bind_some, decide_true, decide_false, decide_eq_true_eq, eq_self, if_true, if_false, Bool.not_true, Bool.not_false, reduceIte, Bool.false_eq_true, Nat.add_zero, Nat.zero_add, Nat.reduceAdd, Nat.reduceSub, Nat.reduceLeDiff, Nat.reduceLT, Nat.reduceMul, Nat.reducePow, ofS_inj, sizeLine, String.reduceEq, String.reduceNe, Int.reduceAdd, Int.reduceSub, Int.reduceMul, Int.reduceNeg, Int.reduceLE, Int.reduceLT, Int.reduceEq, Nat.add_assoc, e0, e1, e2, e3, e4, e5, e6, v1 a a0 a1, v2 a a0, min2_ok, hmod, e8, all_true]
    trace_state
  · refine ⟨[], ?_⟩
    simp only [u_law, d_law, ev_rd, ev_addI, ev_subI, ev_ltI, ev_leI, ev_gtI, ev_geI, ev_eqI, ev_neI, ev_eqS, ev_neS, ev_negI, ev_absI, ev_intI, ev_intB, ev_nx, ev_rt, ev_bk, ev_ct, ev_bind, ev_st, ev_seq, ev_next, ev_brk, ev_cnt, ev_kIf1, ev_kIf0, ev_if, ev_kRt, ev_ret, ev_retN, ev_kSet, ev_set, ev_kDrop, ev_drop, ev_kVar, ev_var, ev_c, ev_k2, ev_d2, ev_d1, ev_nil, ev_kCons2, ev_kCons, ev_cons, ev_call, ev_kIsB, ev_isB, ev_kAnd1, ev_kAnd0, ev_and, ev_kOr1, ev_kOr0, ev_or, ev_kNot, ev_not, ev_kAndV1, ev_kAndV0, ev_andV, ev_kOrV1, ev_kOrV0, ev_orV, ev_kNotV, ev_notV, ev_kIfE1, ev_kIfE0, ev_ifE, ev_kCh31, ev_kCh30, ev_kCh2, ev_kCh1, ev_chain, ev_tmp, ev_kFunN, ev_kFunR, ev_fun, ev_env, ev_iter, ev_kFor, ev_for, ev_kLc, ev_lc, ev_rng, ev_no, ev_kPart, ev_part, ev_kSl1, ev_kSl, ev_sl, ev_kMeth0S, ev_meth0, ev_kMethS, ev_meth, ev_rdC, ev_rdP, ev_lvwC, ev_lvw, ev_lvwR, ev_lvwL, ev_tvwR, ev_tvwT, ev_svwR, ev_svwT, ev_svwC, ev_svw, ev_kOk, ev_kOkD, ev_ixC, ev_ix, ev_ixRls, ev_ixTup, ev_at0, ev_at1, ev_at2, ev_at3, ev_lenC, ev_len, ev_lenRls, ev_lenTup, ev_addC, ev_add, ev_appC, ev_app, ev_mthC, ev_mth, ev_mth0C, ev_mth0, ev_itC, ev_it, ev_itR, ev_itT, ev_itS, ev_vals0, ev_vals1, ev_frzV, ev_frzC, ev_frzCf, ev_frz, ev_frzK, ev_frzA0, ev_frzAv, ev_frzAp, ev_kMkT2, ev_kMkT, ev_mkT, ev_rdF, ev_map0, ev_map1, ev_omap, ev_kF2n, ev_kF2c, ev_kF2b, ev_kF2r, ev_kF1, ev_F1, ev_F0, ev_F1c, ev_F0c, ev_gnm, ev_gnil, ev_kGc, ev_gcons, ev_gtup, ev_kC4, ev_kC3, ev_kC21, ev_kC20, ev_kC1, ev_C1, ev_C0, ev_C1c, ev_C0c, ev_yes, ev_wipe0, ev_wipe1, ev_mkLi, ev_lsxC, ev_lsxD, ev_lsx, ev_lsxR, ev_lsxL, ev_lsxT, ev_kOkT, ev_tupC, ev_tup, ev_tupR, ev_tupL, ev_tupT, ev_tvwL, ev_svwL, ev_ixL, ev_lenL, ev_itL, ev_callK, ev_kCK, ev_kCK2, ev_permL, ev_kIsi, ev_isi, ev_tyI, ev_tyB, ev_tyS, ev_tyN, ev_tyT, ev_tyL, ev_tyR, ev_kit1, ev_kit2, ev_kit3, ev_kit4, ev_kit5, ev_kit6, ev_kit7, ev_eqIL, ev_eqPRC, ev_eqPR, ev_eqPL, ev_int0, ev_int1, ev_kSum, ev_sum, ev_kAllB, ev_all, ev_bl0, ev_bl1, ev_kRev, ev_rev, ev_slC, ev_slP, ev_slR, ev_pop, ev_kOrS, ev_kOrSs, ev_orS, ev_kPut2, ev_kPut1, ev_putL, ev_putN, ev_putC, ev_putCd, ev_kPut3, ev_kPut3s, ev_kPd2, ev_kPd1, ev_putD, ev_pdC, ev_kPd3S, ev_kPd3I, ev_kKG1, ev_kget, ev_kKG2, ev_nc0, ev_nc1, ev_ncn, ev_while, ev_niC, ev_inC, ev_signs, ev_itMk, ev_eqB, ev_inC2, ev_inP, ev_kIn, ev_kNi, ev_inPP, ev_niPP, ev_inT, ev_niT, ev_kPc3, ev_kPc2, ev_kPc1, ev_pc, ev_dispC, ev_kDisp, ev_disp, ev_keys0, ev_keysS, ev_merge, ev_g3C, ev_kG3, ev_kG2, ev_g1C, ev_kG1, ev_get2, ev_rng1, get_s3, str_cW, len_rngW, BEq.rfl, beq_self_eq_true, low_dic, List.any_cons, List.any_nil, Bool.or_false, Bool.false_or, Bool.true_or, Bool.or_true, Sum.inr.injEq, Sum.inl.injEq, low_bW, low_cW, len_bW, len_cW, bls_bW, iW_n, sW_n, List.length_singleton, at_iW, ix_last, set_iW, pop_iW, int_iW, str_sW, List.map_cons, List.map_nil, List.length_cons, List.length_nil, List.cons_append, List.nil_append, List.append_assoc, List.getElem?_cons_zero, List.getElem?_cons_succ, List.set_cons_zero, List.set_cons_succ, List.replicate_zero, List.replicate_succ, List.append_nil, List.filterMap_cons, List.filterMap_nil, and_self, List.length_append, List.length_set, st_at0, st_at, st_set0, st_set, settle_v0, settle_v, cl_nil, cl_cons, cl_self, cl_app, cl_app2, settle_vg, settle_pg, sPC_some, low_lst, low_frz, low_val, low_ptr, take_app, take_app0, lt_f, lt_f1, all_nil, all_cons, low_iW, low_sW, len_iW, len_sW, List.take_succ_cons, List.take_zero, List.take_length, true_or, or_true, Bool.and_true, Bool.true_and, true_and, and_true, Nat.lt_irrefl, Nat.add_lt_add_iff_left, Option.map_some, Option.bind_some, decide_true, decide_false, decide_eq_true_eq, eq_self, if_true, if_false, Bool.not_true, Bool.not_false, reduceIte, Bool.false_eq_true, Nat.add_zero, Nat.zero_add, Nat.reduceAdd, Nat.reduceSub, Nat.reduceLeDiff, Nat.reduceLT, Nat.reduceMul, Nat.reducePow, ofS_inj, sizeLine, String.reduceEq, String.reduceNe, Int.reduceAdd, Int.reduceSub, Int.reduceMul, Int.reduceNeg, Int.reduceLE, Int.reduceLT, Int.reduceEq, Nat.add_assoc, e0, e1, e2, e3, e4, e5, e6, q, v1 b b0 b1, v2 b b0, min2_ok, hmod, e8, all_true]
    trace_state
end K01
end

section
set_option Elab.async false
set_option linter.all false
set_option maxRecDepth 100000
set_option maxHeartbeats 4000000
namespace K01
open PySem PySem.Spec PyProof.Rows L2 Dn
def top (i : Nat) : Stmt := PySem.Challenge.pw_overlappedloops_k01_values_of_operations.main.body.getD i (.Pass ⟨0, 0, 0, 0⟩)
abbrev s_value_of : Stmt := top 1
abbrev s_is_word : Stmt := top 8
abbrev s_is_identifier : Stmt := top 9
abbrev s_operand_count : Stmt := top 10
abbrev s_makes_value : Stmt := top 11
abbrev s_Lpool : Stmt := top 13
abbrev s_Lpick : Stmt := top 14
abbrev s_Ldraw_modulus : Stmt := top 15
abbrev s_Ldraw_number : Stmt := top 16
abbrev s_Lis_integer : Stmt := top 17
abbrev s_Lis_truth : Stmt := top 18
abbrev s_Lvalue : Stmt := top 19
abbrev s_Lvalue_told : Stmt := top 20
abbrev s_Lvalues_told : Stmt := top 21
abbrev s_Lall_signs : Stmt := top 22
abbrev s_Lletters : Stmt := top 23
abbrev s_Lboth : Stmt := top 24
abbrev s_Lreserved : Stmt := top 25
abbrev s_Loperand_counts : Stmt := top 26
abbrev s_Ldraw_text : Stmt := top 27
abbrev s_Ldraw_word : Stmt := top 28
abbrev s_Ldraw_texts : Stmt := top 29
abbrev s_Lis_word : Stmt := top 30
abbrev s_Ltext_told : Stmt := top 31
abbrev s_law : Stmt := top 32
theorem sc_value_of : FnScope ["operation", "numbers", "modulus"] ["operation", "numbers", "modulus"] (defScope s_value_of) := ⟨rfl, rfl, rfl, by decide +kernel, rfl, by decide +kernel, by decide +kernel⟩
theorem sc_is_word : FnScope ["text", "char"] ["text"] (defScope s_is_word) := ⟨rfl, rfl, rfl, by decide +kernel, rfl, by decide +kernel, by decide +kernel⟩
theorem sc_is_identifier : FnScope ["text"] ["text"] (defScope s_is_identifier) := ⟨rfl, rfl, rfl, by decide +kernel, rfl, by decide +kernel, by decide +kernel⟩
theorem sc_operand_count : FnScope ["operation"] ["operation"] (defScope s_operand_count) := ⟨rfl, rfl, rfl, by decide +kernel, rfl, by decide +kernel, by decide +kernel⟩
theorem sc_makes_value : FnScope ["operation"] ["operation"] (defScope s_makes_value) := ⟨rfl, rfl, rfl, by decide +kernel, rfl, by decide +kernel, by decide +kernel⟩
theorem sc_Lpool : FnScope ["script", "cells", "many", "tail", "cell"] ["script"] (defScope s_Lpool) := ⟨rfl, rfl, rfl, by decide +kernel, rfl, by decide +kernel, by decide +kernel⟩
theorem sc_Lpick : FnScope ["pool", "many", "digit"] ["pool", "many"] (defScope s_Lpick) := ⟨rfl, rfl, rfl, by decide +kernel, rfl, by decide +kernel, by decide +kernel⟩
theorem sc_Ldraw_modulus : FnScope ["pool", "kind"] ["pool"] (defScope s_Ldraw_modulus) := ⟨rfl, rfl, rfl, by decide +kernel, rfl, by decide +kernel, by decide +kernel⟩
theorem sc_Ldraw_number : FnScope ["pool", "modulus", "kind"] ["pool", "modulus"] (defScope s_Ldraw_number) := ⟨rfl, rfl, rfl, by decide +kernel, rfl, by decide +kernel, by decide +kernel⟩
theorem sc_Lis_integer : FnScope ["told", "due"] ["told", "due"] (defScope s_Lis_integer) := ⟨rfl, rfl, rfl, by decide +kernel, rfl, by decide +kernel, by decide +kernel⟩
theorem sc_Lis_truth : FnScope ["told", "due"] ["told", "due"] (defScope s_Lis_truth) := ⟨rfl, rfl, rfl, by decide +kernel, rfl, by decide +kernel, by decide +kernel⟩
theorem sc_Lvalue : FnScope ["operation", "numbers", "modulus", "amount"] ["operation", "numbers", "modulus"] (defScope s_Lvalue) := ⟨rfl, rfl, rfl, by decide +kernel, rfl, by decide +kernel, by decide +kernel⟩
theorem sc_Lvalue_told : FnScope ["operation", "numbers", "modulus", "due", "handed", "told", "wrong", "x"] ["operation", "numbers", "modulus"] (defScope s_Lvalue_told) := ⟨rfl, rfl, rfl, by decide +kernel, rfl, by decide +kernel, by decide +kernel⟩
theorem sc_Lvalues_told : FnScope ["modulus", "one", "two", "three", "last", "cases", "operation", "numbers"] ["modulus", "one", "two", "three"] (defScope s_Lvalues_told) := ⟨rfl, rfl, rfl, by decide +kernel, rfl, by decide +kernel, by decide +kernel⟩
theorem sc_Lall_signs : FnScope ["signs"] [] (defScope s_Lall_signs) := ⟨rfl, rfl, rfl, by decide +kernel, rfl, by decide +kernel, by decide +kernel⟩
theorem sc_Lletters : FnScope [] [] (defScope s_Lletters) := ⟨rfl, rfl, rfl, by decide +kernel, rfl, by decide +kernel, by decide +kernel⟩
theorem sc_Lboth : FnScope [] [] (defScope s_Lboth) := ⟨rfl, rfl, rfl, by decide +kernel, rfl, by decide +kernel, by decide +kernel⟩
theorem sc_Lreserved : FnScope ["words"] [] (defScope s_Lreserved) := ⟨rfl, rfl, rfl, by decide +kernel, rfl, by decide +kernel, by decide +kernel⟩
theorem sc_Loperand_counts : FnScope ["counts", "operation", "count"] [] (defScope s_Loperand_counts) := ⟨rfl, rfl, rfl, by decide +kernel, rfl, by decide +kernel, by decide +kernel⟩
theorem sc_Ldraw_text : FnScope ["pool", "signs", "size", "picked", "k"] ["pool", "signs", "size"] (defScope s_Ldraw_text) := ⟨rfl, rfl, rfl, by decide +kernel, rfl, by decide +kernel, by decide +kernel⟩
theorem sc_Ldraw_word : FnScope ["pool", "size", "first"] ["pool", "size"] (defScope s_Ldraw_word) := ⟨rfl, rfl, rfl, by decide +kernel, rfl, by decide +kernel, by decide +kernel⟩
theorem sc_Ldraw_texts : FnScope ["pool", "texts", "k", "word", "at", "sign", "spoilt"] ["pool"] (defScope s_Ldraw_texts) := ⟨rfl, rfl, rfl, by decide +kernel, rfl, by decide +kernel, by decide +kernel⟩
theorem sc_Lis_word : FnScope ["text", "sign"] ["text"] (defScope s_Lis_word) := ⟨rfl, rfl, rfl, by decide +kernel, rfl, by decide +kernel, by decide +kernel⟩
theorem sc_Ltext_told : FnScope ["text", "word", "identifier", "makes", "count"] ["text"] (defScope s_Ltext_told) := ⟨rfl, rfl, rfl, by decide +kernel, rfl, by decide +kernel, by decide +kernel⟩
theorem sc_law : FnScope ["script", "pool", "modulus", "one", "two", "three", "other", "text"] ["script"] (defScope s_law) := ⟨rfl, rfl, rfl, by decide +kernel, rfl, by decide +kernel, by decide +kernel⟩
structure Txt (w : World) (K : PySem.W.Frag) (mg : Str → Option Value) (fA : Nat → Addr) (fD : Nat → FuncData) : Prop where
  F_value_of : Fun K "value_of" "value_of" s_value_of (fA 0) (fD 0)
  g_value_of : mg "value_of" = some (.ref (fA 0))
  F_is_word : Fun K "is_word" "is_word" s_is_word (fA 1) (fD 1)
  g_is_word : mg "is_word" = some (.ref (fA 1))
  F_is_identifier : Fun K "is_identifier" "is_identifier" s_is_identifier (fA 2) (fD 2)
  g_is_identifier : mg "is_identifier" = some (.ref (fA 2))
  F_operand_count : Fun K "operand_count" "operand_count" s_operand_count (fA 3) (fD 3)
  g_operand_count : mg "operand_count" = some (.ref (fA 3))
  F_makes_value : Fun K "makes_value" "makes_value" s_makes_value (fA 4) (fD 4)
  g_makes_value : mg "makes_value" = some (.ref (fA 4))
  F_Lpool : Fun K "_law_pool" "_law_pool" s_Lpool (fA 5) (fD 5)
  g_Lpool : mg "_law_pool" = some (.ref (fA 5))
  F_Lpick : Fun K "_law_pick" "_law_pick" s_Lpick (fA 6) (fD 6)
  g_Lpick : mg "_law_pick" = some (.ref (fA 6))
  F_Ldraw_modulus : Fun K "_law_draw_modulus" "_law_draw_modulus" s_Ldraw_modulus (fA 7) (fD 7)
  g_Ldraw_modulus : mg "_law_draw_modulus" = some (.ref (fA 7))
  F_Ldraw_number : Fun K "_law_draw_number" "_law_draw_number" s_Ldraw_number (fA 8) (fD 8)
  g_Ldraw_number : mg "_law_draw_number" = some (.ref (fA 8))
  F_Lis_integer : Fun K "_law_is_integer" "_law_is_integer" s_Lis_integer (fA 9) (fD 9)
  g_Lis_integer : mg "_law_is_integer" = some (.ref (fA 9))
  F_Lis_truth : Fun K "_law_is_truth" "_law_is_truth" s_Lis_truth (fA 10) (fD 10)
  g_Lis_truth : mg "_law_is_truth" = some (.ref (fA 10))
  F_Lvalue : Fun K "_law_value" "_law_value" s_Lvalue (fA 11) (fD 11)
  g_Lvalue : mg "_law_value" = some (.ref (fA 11))
  F_Lvalue_told : Fun K "_law_value_told" "_law_value_told" s_Lvalue_told (fA 12) (fD 12)
  g_Lvalue_told : mg "_law_value_told" = some (.ref (fA 12))
  F_Lvalues_told : Fun K "_law_values_told" "_law_values_told" s_Lvalues_told (fA 13) (fD 13)
  g_Lvalues_told : mg "_law_values_told" = some (.ref (fA 13))
  F_Lall_signs : Fun K "_law_all_signs" "_law_all_signs" s_Lall_signs (fA 14) (fD 14)
  g_Lall_signs : mg "_law_all_signs" = some (.ref (fA 14))
  F_Lletters : Fun K "_law_letters" "_law_letters" s_Lletters (fA 15) (fD 15)
  g_Lletters : mg "_law_letters" = some (.ref (fA 15))
  F_Lboth : Fun K "_law_both" "_law_both" s_Lboth (fA 16) (fD 16)
  g_Lboth : mg "_law_both" = some (.ref (fA 16))
  F_Lreserved : Fun K "_law_reserved" "_law_reserved" s_Lreserved (fA 17) (fD 17)
  g_Lreserved : mg "_law_reserved" = some (.ref (fA 17))
  F_Loperand_counts : Fun K "_law_operand_counts" "_law_operand_counts" s_Loperand_counts (fA 18) (fD 18)
  g_Loperand_counts : mg "_law_operand_counts" = some (.ref (fA 18))
  F_Ldraw_text : Fun K "_law_draw_text" "_law_draw_text" s_Ldraw_text (fA 19) (fD 19)
  g_Ldraw_text : mg "_law_draw_text" = some (.ref (fA 19))
  F_Ldraw_word : Fun K "_law_draw_word" "_law_draw_word" s_Ldraw_word (fA 20) (fD 20)
  g_Ldraw_word : mg "_law_draw_word" = some (.ref (fA 20))
  F_Ldraw_texts : Fun K "_law_draw_texts" "_law_draw_texts" s_Ldraw_texts (fA 21) (fD 21)
  g_Ldraw_texts : mg "_law_draw_texts" = some (.ref (fA 21))
  F_Lis_word : Fun K "_law_is_word" "_law_is_word" s_Lis_word (fA 22) (fD 22)
  g_Lis_word : mg "_law_is_word" = some (.ref (fA 22))
  F_Ltext_told : Fun K "_law_text_told" "_law_text_told" s_Ltext_told (fA 23) (fD 23)
  g_Ltext_told : mg "_law_text_told" = some (.ref (fA 23))
  F_law : Fun K "law" "law" s_law (fA 24) (fD 24)
  g_law : mg "law" = some (.ref (fA 24))
  n_abs : mg "abs" = none
  n_all : mg "all" = none
  n_bool : mg "bool" = none
  n_int : mg "int" = none
  n_isinstance : mg "isinstance" = none
  n_len : mg "len" = none
  n_list : mg "list" = none
  n_min : mg "min" = none
  n_range : mg "range" = none
  n_sum : mg "sum" = none
  n_tuple : mg "tuple" = none
  c_LETTERS : GlC K mg "LETTERS" c_LETTERS
  c_DIGITS : GlC K mg "DIGITS" c_DIGITS
  c_LONGEST_WORD : GlC K mg "LONGEST_WORD" c_LONGEST_WORD
  c_RESERVED : GlC K mg "RESERVED" c_RESERVED
  t_OPERANDS : TbC K w mg "OPERANDS" t_OPERANDS
section
variable {P : Program} {w : World} {K : PySem.W.Frag} {mg : Str → Option Value} {base : Heap} {fA : Nat → Addr} {fD : Nat → FuncData}
theorem ok_value_of (T : Txt w K mg fA fD) : FnG P w K mg base 1 "value_of" (fA 0) (fD 0) ["operation", "numbers", "modulus"] m_value_of := by
  refine ⟨T.F_value_of.okX sc_value_of (fun vs H Q E h => h.1) (fun cdv A outer s H vs Q E hr h => ?_), T.g_value_of, T.F_value_of.kp, T.F_value_of.binds (ps := ["operation", "numbers", "modulus"]) fun _ _ _ _ _ _ us hl => match us, hl with | [_, _, _], _ => rfl⟩
  have tk : Takes (cxOf (L2.CX P w) P w K mg base ["operation", "numbers", "modulus"] "value_of" (defScope s_value_of) (fA 0) cdv A outer s H E) (fun c d _ H => E c d H) := takes_of rfl rfl rfl rfl
  refine ⟨_, (pss_cons (ps_if (pt_cmpR (k_eq K hr.units) (pv 0) pe_str (nomark _)) (pss_one (ps_ret (pe_op op_mod (pe_op (k_add K) (pe_ix (k_ix K) (pv 1) pe_int (fun _ _ => rfl)) (pe_ix (k_ix K) (pv 1) pe_int (fun _ _ => rfl))) (pv 2)))) pss_nil)
    (pss_cons (ps_if (pt_cmpR (k_eq K hr.units) (pv 0) pe_str (nomark _)) (pss_one (ps_ret (pe_op op_mod (pe_op op_sub (pe_ix (k_ix K) (pv 1) pe_int (fun _ _ => rfl)) (pe_ix (k_ix K) (pv 1) pe_int (fun _ _ => rfl))) (pv 2)))) pss_nil)
    (pss_cons (ps_if (pt_cmpR (k_eq K hr.units) (pv 0) pe_str (nomark _)) (pss_one (ps_ret (pe_op op_mod (pe_op op_mulA (pe_ix (k_ix K) (pv 1) pe_int (fun _ _ => rfl)) (pe_ix (k_ix K) (pv 1) pe_int (fun _ _ => rfl))) (pv 2)))) pss_nil)
    (pss_cons (ps_if (pt_cmpR (k_eq K hr.units) (pv 0) pe_str (nomark _)) (pss_one (ps_ret (pe_ifExp (pt_cmpR op_lt (pe_ix (k_ix K) (pv 1) pe_int (fun _ _ => rfl)) (pe_ix (k_ix K) (pv 1) pe_int (fun _ _ => rfl)) (nomark _)) pe_int pe_int))) pss_nil)
    (pss_cons (ps_if (pt_cmpR (k_eq K hr.units) (pv 0) pe_str (nomark _)) (pss_one (ps_ret (pe_ifExp (pt_cmpR (k_ne K hr.units) (pe_ix (k_ix K) (pv 1) pe_int (fun _ _ => rfl)) pe_int (nomark _)) (pe_ix (k_ix K) (pv 1) pe_int (fun _ _ => rfl)) (pe_ix (k_ix K) (pv 1) pe_int (fun _ _ => rfl))))) pss_nil)
    (pss_one (ps_ret (pe_ix (k_ix K) (pv 1) pe_int (fun _ _ => rfl))))))))),
    run_body (N := ["operation", "numbers", "modulus"]) (n := 3) (f := d_value_of) (by decide) ?_ h⟩
  exact (s_seq (s_if (s_tTest (s_op g_eq s_var s_str)) (s_ret (s_op g_mod (s_op g_add (s_op g_ix s_var s_int) (s_op g_ix s_var s_int)) s_var)) s_next)
    (s_seq (s_if (s_tTest (s_op g_eq s_var s_str)) (s_ret (s_op g_mod (s_op g_sub (s_op g_ix s_var s_int) (s_op g_ix s_var s_int)) s_var)) s_next)
    (s_seq (s_if (s_tTest (s_op g_eq s_var s_str)) (s_ret (s_op g_mod (s_op g_mul (s_op g_ix s_var s_int) (s_op g_ix s_var s_int)) s_var)) s_next)
    (s_seq (s_if (s_tTest (s_op g_eq s_var s_str)) (s_ret (s_ifE (s_tTest (s_op g_lt (s_op g_ix s_var s_int) (s_op g_ix s_var s_int))) s_int s_int)) s_next)
    (s_seq (s_if (s_tTest (s_op g_eq s_var s_str)) (s_ret (s_ifE (s_tTest (s_op g_ne (s_op g_ix s_var s_int) s_int)) (s_op g_ix s_var s_int) (s_op g_ix s_var s_int))) s_next)
    (s_ret (s_op g_ix s_var s_int)))))))
theorem ok_is_word (T : Txt w K mg fA fD) : FnG P w K mg base 1 "is_word" (fA 1) (fD 1) ["text"] m_is_word := by
  refine ⟨T.F_is_word.okX sc_is_word (fun vs H Q E h => h.1) (fun cdv A outer s H vs Q E hr h => ?_), T.g_is_word, T.F_is_word.kp, T.F_is_word.binds (ps := ["text"]) fun _ _ _ _ _ _ us hl => match us, hl with | [_], _ => rfl⟩
  have tk : Takes (cxOf (L2.CX P w) P w K mg base ["text", "char"] "is_word" (defScope s_is_word) (fA 1) cdv A outer s H E) (fun c d _ H => E c d H) := takes_of rfl rfl rfl rfl
  refine ⟨_, (pss_cons (ps_if (pt_not (pt_chain op_le op_le pe_int (pe_callB (k_len K) (by rfl) T.n_len (by decide +kernel) (pa_cons (pv 0) pa_nil)) (k_gl T.c_LONGEST_WORD))) (pss_one (ps_ret pe_bl)) pss_nil)
    (pss_cons (ps_if (pt_cmpR (k_ni K (room65 hr)) (pe_ix (k_ix K) (pv 0) pe_int (fun _ _ => rfl)) (k_gl T.c_LETTERS) rfl) (pss_one (ps_ret pe_bl)) pss_nil)
    (pss_one (ps_ret (pe_callB (k_all K) (by rfl) T.n_all (by decide +kernel) (pa_cons (pe_lc (own := [("char", 1)]) rfl sc_is_word.nd (k_seq K (pv 0)) (blkOk_by (N := ["text", "char"]) (sc := defScope s_is_word) (own := [("char", 1)]) (by decide +kernel)) (fun _ _ _ _ _ => by exact (pg_name (i := 1) sc_is_word.nd rfl (Or.inl rfl))) (fun _ _ _ _ _ => by exact pts_nil) (fun _ _ _ _ _ => by exact (pe_or (pe_cmpR (k_in K (room65 hr)) (pv 1) (k_gl T.c_LETTERS) rfl) (pe_one (pe_cmpR (k_in K (room65 hr)) (pv 1) (k_gl T.c_DIGITS) rfl))))) pa_nil)))))),
    run_body (N := ["text", "char"]) (n := 1) (f := d_is_word) (by decide) ?_ h⟩
  exact (s_seq (s_if (s_not (s_tTest (s_chain g_le g_le s_int (s_cb g_len (s_cons s_var s_nil)) s_gl))) (s_ret s_bl) s_next)
    (s_seq (s_if (s_tTest (s_op g_ni (s_op g_ix s_var s_int) s_gl)) (s_ret s_bl) s_next)
    (s_ret (s_tmp (s_cb g_all (s_cons (s_lc (s_iter s_var) s_gnm (by decide) s_yes (s_orV (s_op g_in s_var s_gl) (s_op g_in s_var s_gl))) s_nil))))))
theorem ok_is_identifier (T : Txt w K mg fA fD) : FnG P w K mg base 2 "is_identifier" (fA 2) (fD 2) ["text"] m_is_identifier := by
  have G_is_word : FnG P w K mg base 1 "is_word" (fA 1) (fD 1) ["text"] m_is_word := ok_is_word T
  refine ⟨T.F_is_identifier.okX sc_is_identifier (fun vs H Q E h => h.1) (fun cdv A outer s H vs Q E hr h => ?_), T.g_is_identifier, T.F_is_identifier.kp, T.F_is_identifier.binds (ps := ["text"]) fun _ _ _ _ _ _ us hl => match us, hl with | [_], _ => rfl⟩
  have tk : Takes (cxOf (L2.CX P w) P w K mg base ["text"] "is_identifier" (defScope s_is_identifier) (fA 2) cdv A outer s H E) (fun c d _ H => E c d H) := takes_of rfl rfl rfl rfl
  refine ⟨_, (pss_one (ps_ret (pe_and (k_c G_is_word hr (by decide) tk (pa_cons (pv 0) pa_nil)) (pe_one (pe_cmpR (k_ni K (room65 hr)) (pv 0) (k_gl T.c_RESERVED) rfl))))),
    run_body (N := ["text"]) (n := 1) (f := d_is_identifier) (by decide) ?_ h⟩
  exact (s_ret (s_andV (s_call (s_cons s_var s_nil) (fun _ _ _ _ h => len_cons (fun _ _ _ _ h => len_nil h) h)) (s_op g_ni s_var s_gl)))
theorem ok_operand_count (T : Txt w K mg fA fD) : FnG P w K mg base 1 "operand_count" (fA 3) (fD 3) ["operation"] m_operand_count := by
  refine ⟨T.F_operand_count.okX sc_operand_count (fun vs H Q E h => h.1) (fun cdv A outer s H vs Q E hr h => ?_), T.g_operand_count, T.F_operand_count.kp, T.F_operand_count.binds (ps := ["operation"]) fun _ _ _ _ _ _ us hl => match us, hl with | [_], _ => rfl⟩
  have tk : Takes (cxOf (L2.CX P w) P w K mg base ["operation"] "operand_count" (defScope s_operand_count) (fA 3) cdv A outer s H E) (fun c d _ H => E c d H) := takes_of rfl rfl rfl rfl
  refine ⟨_, (pss_one (ps_ret (k_kget T.t_OPERANDS (pv 0) (pe_un un_neg pe_int) ⟨rfl, rfl, rfl, rfl⟩))),
    run_body (N := ["operation"]) (n := 1) (f := d_operand_count) (by decide) ?_ h⟩
  exact (s_ret (s_kget s_var (s_un g_neg s_int)))
theorem ok_makes_value (T : Txt w K mg fA fD) : FnG P w K mg base 1 "makes_value" (fA 4) (fD 4) ["operation"] m_makes_value := by
  refine ⟨T.F_makes_value.okX sc_makes_value (fun vs H Q E h => h.1) (fun cdv A outer s H vs Q E hr h => ?_), T.g_makes_value, T.F_makes_value.kp, T.F_makes_value.binds (ps := ["operation"]) fun _ _ _ _ _ _ us hl => match us, hl with | [_], _ => rfl⟩
  have tk : Takes (cxOf (L2.CX P w) P w K mg base ["operation"] "makes_value" (defScope s_makes_value) (fA 4) cdv A outer s H E) (fun c d _ H => E c d H) := takes_of rfl rfl rfl rfl
  refine ⟨_, (pss_one (ps_ret (pe_and (pe_cmpR (k_ne K hr.units) (pv 0) pe_str (nomark _)) (pe_one (pe_cmpR (k_ne K hr.units) (pv 0) pe_str (nomark _)))))),
    run_body (N := ["operation"]) (n := 1) (f := d_makes_value) (by decide) ?_ h⟩
  exact (s_ret (s_andV (s_op g_ne s_var s_str) (s_op g_ne s_var s_str)))
theorem ok_Lpool (T : Txt w K mg fA fD) : FnG P w K mg base 1 "_law_pool" (fA 5) (fD 5) ["script"] m_Lpool := by
  refine ⟨T.F_Lpool.okX sc_Lpool (fun vs H Q E h => h.1) (fun cdv A outer s H vs Q E hr h => ?_), T.g_Lpool, T.F_Lpool.kp, T.F_Lpool.binds (ps := ["script"]) fun _ _ _ _ _ _ us hl => match us, hl with | [_], _ => rfl⟩
  have tk : Takes (cxOf (L2.CX P w) P w K mg base ["script", "cells", "many", "tail", "cell"] "_law_pool" (defScope s_Lpool) (fA 5) cdv A outer s H E) (fun c d _ H => E c d H) := takes_of rfl rfl rfl rfl
  refine ⟨_, (pss_cons (ps_setLc (i := 1) (own := [("cell", 4)]) rfl sc_Lpool.nd rfl rfl (sw_true rfl rfl rfl (by decide +kernel)) (k_seq K (pe_slice (k_sl K) (pv 0) po_none (po_some pe_int))) (blkOk_by (N := ["script", "cells", "many", "tail", "cell"]) (sc := defScope s_Lpool) (own := [("cell", 4)]) (by decide +kernel)) (fun _ _ _ _ _ => by exact (pg_name (i := 4) sc_Lpool.nd rfl (Or.inl rfl))) (fun _ _ _ _ _ => by exact pts_nil) (fun _ _ _ _ _ => by exact (pe_callB call_absA (by rfl) T.n_abs (by decide +kernel) (pa_cons (pe_callTy call_intA (by rfl) T.n_int (by decide +kernel) (pa_cons (pv 4) pa_nil)) pa_nil))))
    (pss_cons (ps_set (i := 2) sc_Lpool.nd rfl (Or.inl rfl) (pe_op (k_add K) pe_int (pe_callB (k_sum K) (by rfl) T.n_sum (by decide +kernel) (pa_cons (pe_lc (own := [("cell", 4)]) rfl sc_Lpool.nd (k_seq K (pv 1)) (blkOk_by (N := ["script", "cells", "many", "tail", "cell"]) (sc := defScope s_Lpool) (own := [("cell", 4)]) (by decide +kernel)) (fun _ _ _ _ _ => by exact (pg_name (i := 4) sc_Lpool.nd rfl (Or.inl rfl))) (fun _ _ _ _ _ => by exact pts_nil) (fun _ _ _ _ _ => by exact (pe_op op_mod (pv 4) pe_int))) pa_nil))))
    (pss_cons (ps_set (i := 3) sc_Lpool.nd rfl (Or.inl rfl) (pe_op op_powW pe_int pe_int))
    (pss_one (ps_ret (pe_op (k_add K) (pe_lst (pa_cons (pe_op op_mulA (pv 3) (pv 2)) pa_nil)) (pe_lc (own := [("cell", 4)]) rfl sc_Lpool.nd (k_seq K (k_rev K (pv 1))) (blkOk_by (N := ["script", "cells", "many", "tail", "cell"]) (sc := defScope s_Lpool) (own := [("cell", 4)]) (by decide +kernel)) (fun _ _ _ _ _ => by exact (pg_name (i := 4) sc_Lpool.nd rfl (Or.inl rfl))) (fun _ _ _ _ _ => by exact pts_nil) (fun _ _ _ _ _ => by exact (pe_op op_mod (pv 4) (pe_op op_powW (pe_op op_powW pe_int pe_int) pe_int)))))))))),
    run_body (N := ["script", "cells", "many", "tail", "cell"]) (n := 1) (f := d_Lpool) (by decide) ?_ h⟩
  exact (s_seq (s_set (s_lc (s_iter (s_sl s_var s_no (s_part s_int))) s_gnm (by decide) s_yes (s_tmp (s_cb g_abs (s_cons (s_cb g_int (s_cons s_var s_nil)) s_nil)))))
    (s_seq (s_set (s_op g_add s_int (s_tmp (s_cb g_sum (s_cons (s_lc (s_iter s_var) s_gnm (by decide) s_yes (s_op g_mod s_var s_int)) s_nil)))))
    (s_seq (s_set (s_op g_pow s_int s_int))
    (s_ret (s_op g_add (s_mkL (s_cons (s_op g_mul s_var s_var) s_nil)) (s_lc (s_iter (s_rev s_var)) s_gnm (by decide) s_yes (s_op g_mod s_var (s_op g_pow (s_op g_pow s_int s_int) s_int))))))))
theorem ok_Lpick (T : Txt w K mg fA fD) : FnG P w K mg base 1 "_law_pick" (fA 6) (fD 6) ["pool", "many"] m_Lpick := by
  refine ⟨T.F_Lpick.okX sc_Lpick (fun vs H Q E h => h.1) (fun cdv A outer s H vs Q E hr h => ?_), T.g_Lpick, T.F_Lpick.kp, T.F_Lpick.binds (ps := ["pool", "many"]) fun _ _ _ _ _ _ us hl => match us, hl with | [_, _], _ => rfl⟩
  have tk : Takes (cxOf (L2.CX P w) P w K mg base ["pool", "many", "digit"] "_law_pick" (defScope s_Lpick) (fA 6) cdv A outer s H E) (fun c d _ H => E c d H) := takes_of rfl rfl rfl rfl
  refine ⟨_, (pss_cons (ps_while (passes_of rfl) (PW.pt (pw_and (pt_cmpR op_gt (pe_callB (k_len K) (by rfl) T.n_len (by decide +kernel) (pa_cons (pv 0) pa_nil)) pe_int (nomark _)) (pw_and1 (pt_cmpR (k_eq K hr.units) (pe_ix (k_ix K) (pv 0) (pe_un un_neg pe_int) (fun _ _ => rfl)) pe_int (nomark _))))) (pss_one (ps_expr (k_bm0 K PySem.F.plainAttrs_list PySem.F.slot_list_pop PySem.F.type_list_pop mt_pop (pv 0)))))
    (pss_cons (ps_set (i := 2) sc_Lpick.nd rfl (Or.inl rfl) (pe_op op_mod (pe_callTy call_intA (by rfl) T.n_int (by decide +kernel) (pa_cons (pe_ix (k_ix K) (pv 0) (pe_un un_neg pe_int) (fun _ _ => rfl)) pa_nil)) (pv 1)))
    (pss_cons (ps_or2 (ps_asg (pe_op op_fdivW (pe_callTy call_intA (by rfl) T.n_int (by decide +kernel) (pa_cons (pe_ix (k_ix K) (pv 0) (pe_un un_neg pe_int) (fun _ _ => rfl)) pa_nil)) (pv 1)) (pg_sub (pv 0) (pe_un un_neg pe_int) set_list)) (ps_dput (hu_of hr) (pv 0) (pe_un un_neg pe_int) (pe_op op_fdivW (pe_callTy call_intA (by rfl) T.n_int (by decide +kernel) (pa_cons (pe_ix (k_ix K) (pv 0) (pe_un un_neg pe_int) (fun _ _ => rfl)) pa_nil)) (pv 1)) rfl))
    (pss_one (ps_ret (pv 2)))))),
    run_body (N := ["pool", "many", "digit"]) (n := 2) (f := d_Lpick) (by decide) ?_ h⟩
  exact (s_seq (s_while (n := 100000) (s_and (s_tTest (s_op g_gt (s_cb g_len (s_cons s_var s_nil)) s_int)) (s_tTest (s_op g_eq (s_op g_ix s_var (s_un g_neg s_int)) s_int))) (s_drop (s_meth0 g_pop s_var)))
    (s_seq (s_set (s_op g_mod (s_cb g_int (s_cons (s_op g_ix s_var (s_un g_neg s_int)) s_nil)) s_var))
    (s_seq (s_orS (s_putL (s_op g_div (s_cb g_int (s_cons (s_op g_ix s_var (s_un g_neg s_int)) s_nil)) s_var) s_var (s_un g_neg s_int)) (s_putD (s_op g_div (s_cb g_int (s_cons (s_op g_ix s_var (s_un g_neg s_int)) s_nil)) s_var) s_var (s_un g_neg s_int)))
    (s_ret s_var))))
theorem ok_Ldraw_modulus (T : Txt w K mg fA fD) : FnG P w K mg base 2 "_law_draw_modulus" (fA 7) (fD 7) ["pool"] m_Ldraw_modulus := by
  have G_Lpick : FnG P w K mg base 1 "_law_pick" (fA 6) (fD 6) ["pool", "many"] m_Lpick := ok_Lpick T
  refine ⟨T.F_Ldraw_modulus.okX sc_Ldraw_modulus (fun vs H Q E h => h.1) (fun cdv A outer s H vs Q E hr h => ?_), T.g_Ldraw_modulus, T.F_Ldraw_modulus.kp, T.F_Ldraw_modulus.binds (ps := ["pool"]) fun _ _ _ _ _ _ us hl => match us, hl with | [_], _ => rfl⟩
  have tk : Takes (cxOf (L2.CX P w) P w K mg base ["pool", "kind"] "_law_draw_modulus" (defScope s_Ldraw_modulus) (fA 7) cdv A outer s H E) (fun c d _ H => E c d H) := takes_of rfl rfl rfl rfl
  refine ⟨_, (pss_cons (ps_set (i := 1) sc_Ldraw_modulus.nd rfl (Or.inl rfl) (k_c G_Lpick hr (by decide) tk (pa_cons (pv 0) (pa_cons pe_int pa_nil))))
    (pss_cons (ps_if (pt_cmpR op_lt (pv 1) pe_int (nomark _)) (pss_one (ps_ret (pe_ix (k_ix K) (pe_lst (pa_cons pe_int (pa_cons pe_int (pa_cons pe_int (pa_cons pe_int pa_nil))))) (pv 1) (fun _ _ => rfl)))) pss_nil)
    (pss_one (ps_ret (pe_op (k_add K) pe_int (k_c G_Lpick hr (by decide) tk (pa_cons (pv 0) (pa_cons pe_int pa_nil)))))))),
    run_body (N := ["pool", "kind"]) (n := 1) (f := d_Ldraw_modulus) (by decide) ?_ h⟩
  exact (s_seq (s_set (s_call (s_cons s_var (s_cons s_int s_nil)) (fun _ _ _ _ h => len_cons (fun _ _ _ _ h => len_cons (fun _ _ _ _ h => len_nil h) h) h)))
    (s_seq (s_if (s_tTest (s_op g_lt s_var s_int)) (s_ret (s_op g_ix (s_mkL (s_cons s_int (s_cons s_int (s_cons s_int (s_cons s_int s_nil))))) s_var)) s_next)
    (s_ret (s_op g_add s_int (s_call (s_cons s_var (s_cons s_int s_nil)) (fun _ _ _ _ h => len_cons (fun _ _ _ _ h => len_cons (fun _ _ _ _ h => len_nil h) h) h))))))
theorem ok_Ldraw_number (T : Txt w K mg fA fD) : FnG P w K mg base 2 "_law_draw_number" (fA 8) (fD 8) ["pool", "modulus"] m_Ldraw_number := by
  have G_Lpick : FnG P w K mg base 1 "_law_pick" (fA 6) (fD 6) ["pool", "many"] m_Lpick := ok_Lpick T
  refine ⟨T.F_Ldraw_number.okX sc_Ldraw_number (fun vs H Q E h => h.1) (fun cdv A outer s H vs Q E hr h => ?_), T.g_Ldraw_number, T.F_Ldraw_number.kp, T.F_Ldraw_number.binds (ps := ["pool", "modulus"]) fun _ _ _ _ _ _ us hl => match us, hl with | [_, _], _ => rfl⟩
  have tk : Takes (cxOf (L2.CX P w) P w K mg base ["pool", "modulus", "kind"] "_law_draw_number" (defScope s_Ldraw_number) (fA 8) cdv A outer s H E) (fun c d _ H => E c d H) := takes_of rfl rfl rfl rfl
  refine ⟨_, (pss_cons (ps_set (i := 2) sc_Ldraw_number.nd rfl (Or.inl rfl) (k_c G_Lpick hr (by decide) tk (pa_cons (pv 0) (pa_cons pe_int pa_nil))))
    (pss_cons (ps_if (pt_cmpR op_lt (pv 2) pe_int (nomark _)) (pss_one (ps_ret (pe_ix (k_ix K) (pe_lst (pa_cons pe_int (pa_cons pe_int (pa_cons (pe_op op_sub (pv 1) pe_int) pa_nil)))) (pv 2) (fun _ _ => rfl)))) pss_nil)
    (pss_one (ps_ret (k_c G_Lpick hr (by decide) tk (pa_cons (pv 0) (pa_cons (pv 1) pa_nil))))))),
    run_body (N := ["pool", "modulus", "kind"]) (n := 2) (f := d_Ldraw_number) (by decide) ?_ h⟩
  exact (s_seq (s_set (s_call (s_cons s_var (s_cons s_int s_nil)) (fun _ _ _ _ h => len_cons (fun _ _ _ _ h => len_cons (fun _ _ _ _ h => len_nil h) h) h)))
    (s_seq (s_if (s_tTest (s_op g_lt s_var s_int)) (s_ret (s_op g_ix (s_mkL (s_cons s_int (s_cons s_int (s_cons (s_op g_sub s_var s_int) s_nil)))) s_var)) s_next)
    (s_ret (s_call (s_cons s_var (s_cons s_var s_nil)) (fun _ _ _ _ h => len_cons (fun _ _ _ _ h => len_cons (fun _ _ _ _ h => len_nil h) h) h)))))
theorem ok_Lis_integer (T : Txt w K mg fA fD) : FnG P w K mg base 1 "_law_is_integer" (fA 9) (fD 9) ["told", "due"] m_Lis_integer := by
  refine ⟨T.F_Lis_integer.okX sc_Lis_integer (fun vs H Q E h => h.1) (fun cdv A outer s H vs Q E hr h => ?_), T.g_Lis_integer, T.F_Lis_integer.kp, T.F_Lis_integer.binds (ps := ["told", "due"]) fun _ _ _ _ _ _ us hl => match us, hl with | [_, _], _ => rfl⟩
  have tk : Takes (cxOf (L2.CX P w) P w K mg base ["told", "due"] "_law_is_integer" (defScope s_Lis_integer) (fA 9) cdv A outer s H E) (fun c d _ H => E c d H) := takes_of rfl rfl rfl rfl
  refine ⟨_, (pss_one (ps_ret (pe_and (pe_callB (k_isi K) (by rfl) T.n_isinstance (by decide +kernel) (pa_cons (pv 0) (pa_cons (pe_bltn (v := .ty "int") (by rfl) T.n_int (by decide +kernel) rfl) pa_nil))) (pe_and (pe_not (pe_callB (k_isi K) (by rfl) T.n_isinstance (by decide +kernel) (pa_cons (pv 0) (pa_cons (pe_bltn (v := .ty "bool") (by rfl) T.n_bool (by decide +kernel) rfl) pa_nil)))) (pe_one (pe_cmpR (k_eq K hr.units) (pv 0) (pv 1) (nomark _))))))),
    run_body (N := ["told", "due"]) (n := 2) (f := d_Lis_integer) (by decide) ?_ h⟩
  exact (s_ret (s_andV (s_cb g_isi (s_cons s_var (s_cons (s_con fun _ => .ty _) s_nil))) (s_andV (s_notV (s_cb g_isi (s_cons s_var (s_cons (s_con fun _ => .ty _) s_nil)))) (s_op g_eq s_var s_var))))
theorem ok_Lis_truth (T : Txt w K mg fA fD) : FnG P w K mg base 1 "_law_is_truth" (fA 10) (fD 10) ["told", "due"] m_Lis_truth := by
  refine ⟨T.F_Lis_truth.okX sc_Lis_truth (fun vs H Q E h => h.1) (fun cdv A outer s H vs Q E hr h => ?_), T.g_Lis_truth, T.F_Lis_truth.kp, T.F_Lis_truth.binds (ps := ["told", "due"]) fun _ _ _ _ _ _ us hl => match us, hl with | [_, _], _ => rfl⟩
  have tk : Takes (cxOf (L2.CX P w) P w K mg base ["told", "due"] "_law_is_truth" (defScope s_Lis_truth) (fA 10) cdv A outer s H E) (fun c d _ H => E c d H) := takes_of rfl rfl rfl rfl
  refine ⟨_, (pss_one (ps_ret (pe_and (pe_callB (k_isi K) (by rfl) T.n_isinstance (by decide +kernel) (pa_cons (pv 0) (pa_cons (pe_bltn (v := .ty "bool") (by rfl) T.n_bool (by decide +kernel) rfl) pa_nil))) (pe_one (pe_cmpR (k_eq K hr.units) (pv 0) (pv 1) (nomark _)))))),
    run_body (N := ["told", "due"]) (n := 2) (f := d_Lis_truth) (by decide) ?_ h⟩
  exact (s_ret (s_andV (s_cb g_isi (s_cons s_var (s_cons (s_con fun _ => .ty _) s_nil))) (s_op g_eq s_var s_var)))
theorem ok_Lvalue (T : Txt w K mg fA fD) : FnG P w K mg base 1 "_law_value" (fA 11) (fD 11) ["operation", "numbers", "modulus"] m_Lvalue := by
  refine ⟨T.F_Lvalue.okX sc_Lvalue (fun vs H Q E h => h.1) (fun cdv A outer s H vs Q E hr h => ?_), T.g_Lvalue, T.F_Lvalue.kp, T.F_Lvalue.binds (ps := ["operation", "numbers", "modulus"]) fun _ _ _ _ _ _ us hl => match us, hl with | [_, _, _], _ => rfl⟩
  have tk : Takes (cxOf (L2.CX P w) P w K mg base ["operation", "numbers", "modulus", "amount"] "_law_value" (defScope s_Lvalue) (fA 11) cdv A outer s H E) (fun c d _ H => E c d H) := takes_of rfl rfl rfl rfl
  refine ⟨_, (pss_cons (ps_if (pt_cmpR (k_eq K hr.units) (pv 0) pe_str (nomark _)) (pss_one (ps_ret (pe_ix (k_ix K) (pv 1) pe_int (fun _ _ => rfl)))) pss_nil)
    (pss_cons (ps_if (pt_cmpR (k_eq K hr.units) (pv 0) pe_str (nomark _)) (pss_one (ps_ret (pe_ix (k_ix K) (pv 1) (pe_op op_sub pe_int (pe_callTy call_intA (by rfl) T.n_int (by decide +kernel) (pa_cons (pe_cmpR (k_ne K hr.units) (pe_ix (k_ix K) (pv 1) pe_int (fun _ _ => rfl)) pe_int (nomark _)) pa_nil))) (fun _ _ => rfl)))) pss_nil)
    (pss_cons (ps_if (pt_cmpR (k_eq K hr.units) (pv 0) pe_str (nomark _)) (pss_one (ps_ret (pe_callTy call_intA (by rfl) T.n_int (by decide +kernel) (pa_cons (pe_cmpR op_lt (pe_ix (k_ix K) (pv 1) pe_int (fun _ _ => rfl)) (pe_ix (k_ix K) (pv 1) pe_int (fun _ _ => rfl)) (nomark _)) pa_nil)))) pss_nil)
    (pss_cons (ps_set (i := 3) sc_Lvalue.nd rfl (Or.inl rfl) (pe_op (k_add K) (pe_ix (k_ix K) (pv 1) pe_int (fun _ _ => rfl)) (pe_ix (k_ix K) (pv 1) pe_int (fun _ _ => rfl))))
    (pss_cons (ps_if (pt_cmpR (k_eq K hr.units) (pv 0) pe_str (nomark _)) (pss_one (ps_set (i := 3) sc_Lvalue.nd rfl (Or.inl rfl) (pe_op op_sub (pe_ix (k_ix K) (pv 1) pe_int (fun _ _ => rfl)) (pe_ix (k_ix K) (pv 1) pe_int (fun _ _ => rfl))))) pss_nil)
    (pss_cons (ps_if (pt_cmpR (k_eq K hr.units) (pv 0) pe_str (nomark _)) (pss_one (ps_set (i := 3) sc_Lvalue.nd rfl (Or.inl rfl) (pe_op op_mulA (pe_ix (k_ix K) (pv 1) pe_int (fun _ _ => rfl)) (pe_ix (k_ix K) (pv 1) pe_int (fun _ _ => rfl))))) pss_nil)
    (pss_one (ps_ret (pe_op op_sub (pv 3) (pe_op op_mulA (pe_op op_fdivW (pv 3) (pv 2)) (pv 2))))))))))),
    run_body (N := ["operation", "numbers", "modulus", "amount"]) (n := 3) (f := d_Lvalue) (by decide) ?_ h⟩
  exact (s_seq (s_if (s_tTest (s_op g_eq s_var s_str)) (s_ret (s_op g_ix s_var s_int)) s_next)
    (s_seq (s_if (s_tTest (s_op g_eq s_var s_str)) (s_ret (s_op g_ix s_var (s_op g_sub s_int (s_cb g_int (s_cons (s_op g_ne (s_op g_ix s_var s_int) s_int) s_nil))))) s_next)
    (s_seq (s_if (s_tTest (s_op g_eq s_var s_str)) (s_ret (s_cb g_int (s_cons (s_op g_lt (s_op g_ix s_var s_int) (s_op g_ix s_var s_int)) s_nil))) s_next)
    (s_seq (s_set (s_op g_add (s_op g_ix s_var s_int) (s_op g_ix s_var s_int)))
    (s_seq (s_if (s_tTest (s_op g_eq s_var s_str)) (s_set (s_op g_sub (s_op g_ix s_var s_int) (s_op g_ix s_var s_int))) s_next)
    (s_seq (s_if (s_tTest (s_op g_eq s_var s_str)) (s_set (s_op g_mul (s_op g_ix s_var s_int) (s_op g_ix s_var s_int))) s_next)
    (s_ret (s_op g_sub s_var (s_op g_mul (s_op g_div s_var s_var) s_var)))))))))
theorem ok_Lvalue_told (T : Txt w K mg fA fD) : FnG P w K mg base 2 "_law_value_told" (fA 12) (fD 12) ["operation", "numbers", "modulus"] m_Lvalue_told := by
  have G_value_of : FnG P w K mg base 1 "value_of" (fA 0) (fD 0) ["operation", "numbers", "modulus"] m_value_of := ok_value_of T
  have G_Lis_integer : FnG P w K mg base 1 "_law_is_integer" (fA 9) (fD 9) ["told", "due"] m_Lis_integer := ok_Lis_integer T
  have G_Lvalue : FnG P w K mg base 1 "_law_value" (fA 11) (fD 11) ["operation", "numbers", "modulus"] m_Lvalue := ok_Lvalue T
  refine ⟨T.F_Lvalue_told.okX sc_Lvalue_told (fun vs H Q E h => h.1) (fun cdv A outer s H vs Q E hr h => ?_), T.g_Lvalue_told, T.F_Lvalue_told.kp, T.F_Lvalue_told.binds (ps := ["operation", "numbers", "modulus"]) fun _ _ _ _ _ _ us hl => match us, hl with | [_, _, _], _ => rfl⟩
  have tk : Takes (cxOf (L2.CX P w) P w K mg base ["operation", "numbers", "modulus", "due", "handed", "told", "wrong", "x"] "_law_value_told" (defScope s_Lvalue_told) (fA 12) cdv A outer s H E) (fun c d _ H => E c d H) := takes_of rfl rfl rfl rfl
  refine ⟨_, (pss_cons (ps_set (i := 3) sc_Lvalue_told.nd rfl (Or.inr rfl) (k_c G_Lvalue hr (by decide) tk (pa_cons (pv 0) (pa_cons (pv 1) (pa_cons (pv 2) pa_nil)))))
    (pss_cons (ps_set (i := 4) sc_Lvalue_told.nd rfl (Or.inl rfl) (pe_callTy (k_list K) (by rfl) T.n_list (by decide +kernel) (pa_cons (pv 1) pa_nil)))
    (pss_cons (ps_set (i := 5) sc_Lvalue_told.nd rfl (Or.inl rfl) (pe_lst (pa_cons (k_c G_value_of hr (by decide) tk (pa_cons (pv 0) (pa_cons (pv 4) (pa_cons (pv 2) pa_nil)))) pa_nil)))
    (pss_cons (ps_expr (k_bm K PySem.F.plainAttrs_list PySem.F.slot_list_append PySem.F.type_list_append mt_append (pv 5) (pa_cons (k_c G_value_of hr (by decide) tk (pa_cons (pv 0) (pa_cons (pe_callTy (k_tup K) (by rfl) T.n_tuple (by decide +kernel) (pa_cons (pv 1) pa_nil)) (pa_cons (pv 2) pa_nil)))) pa_nil)))
    (pss_cons (ps_expr (k_bm K PySem.F.plainAttrs_list PySem.F.slot_list_append PySem.F.type_list_append mt_append (pv 5) (pa_cons (k_cK0 G_value_of hr (by decide) tk (kbn_of (ps := ["operation", "numbers", "modulus"]) (ks := ["modulus", "numbers", "operation"]) (n := 0) [2, 1, 0] T.F_value_of fun _ _ _ _ _ _ us ws h1 h2 => match us, ws, h1, h2 with | [], [_, _, _], _, _ => rfl) (pk_cons (pv 2) (pk_cons (pe_callTy (k_list K) (by rfl) T.n_list (by decide +kernel) (pa_cons (pv 1) pa_nil)) (pk_cons (pv 0) pk_nil)))) pa_nil)))
    (pss_cons (ps_expr (k_bm K PySem.F.plainAttrs_list PySem.F.slot_list_append PySem.F.type_list_append mt_append (pv 5) (pa_cons (k_c G_value_of hr (by decide) tk (pa_cons (pv 0) (pa_cons (pv 4) (pa_cons (pv 2) pa_nil)))) pa_nil)))
    (pss_cons (ps_setLc (i := 6) (own := [("x", 7)]) rfl sc_Lvalue_told.nd rfl rfl (sw_true rfl rfl rfl (by decide +kernel)) (k_seq K (pv 5)) (blkOk_by (N := ["operation", "numbers", "modulus", "due", "handed", "told", "wrong", "x"]) (sc := defScope s_Lvalue_told) (own := [("x", 7)]) (by decide +kernel)) (fun _ _ _ _ _ => by exact (pg_name (i := 7) sc_Lvalue_told.nd rfl (Or.inl rfl))) (fun _ _ _ _ _ => by exact (pts_one (pt_not (pt_val (k_c G_Lis_integer hr (by decide) takes0 (pa_cons (pv 7) (pa_cons (pv 3) pa_nil))))))) (fun _ _ _ _ _ => by exact (pv 7)))
    (pss_one (ps_ret (pe_and (pe_cmpR (k_eq K hr.units) (pv 4) (pv 1) (nomark _)) (pe_one (pe_cmpR (k_eq K hr.units) (pe_callB (k_len K) (by rfl) T.n_len (by decide +kernel) (pa_cons (pv 6) pa_nil)) pe_int (nomark _))))))))))))),
    run_body (N := ["operation", "numbers", "modulus", "due", "handed", "told", "wrong", "x"]) (n := 3) (f := d_Lvalue_told) (by decide) ?_ h⟩
  exact (s_seq (s_set (s_call (s_cons s_var (s_cons s_var (s_cons s_var s_nil))) (fun _ _ _ _ h => len_cons (fun _ _ _ _ h => len_cons (fun _ _ _ _ h => len_cons (fun _ _ _ _ h => len_nil h) h) h) h)))
    (s_seq (s_set (s_cb g_listX (s_cons s_var s_nil)))
    (s_seq (s_set (s_mkL (s_cons (s_call (s_cons s_var (s_cons s_var (s_cons s_var s_nil))) (fun _ _ _ _ h => len_cons (fun _ _ _ _ h => len_cons (fun _ _ _ _ h => len_cons (fun _ _ _ _ h => len_nil h) h) h) h)) s_nil)))
    (s_seq (s_drop (s_meth g_append s_var (s_cons (s_call (s_cons s_var (s_cons (s_cb g_tup (s_cons s_var s_nil)) (s_cons s_var s_nil))) (fun _ _ _ _ h => len_cons (fun _ _ _ _ h => len_cons (fun _ _ _ _ h => len_cons (fun _ _ _ _ h => len_nil h) h) h) h)) s_nil)))
    (s_seq (s_drop (s_meth g_append s_var (s_cons (s_tmp (s_callK s_nil (s_cons s_var (s_cons (s_cb g_listX (s_cons s_var s_nil)) (s_cons s_var s_nil))))) s_nil)))
    (s_seq (s_drop (s_meth g_append s_var (s_cons (s_call (s_cons s_var (s_cons s_var (s_cons s_var s_nil))) (fun _ _ _ _ h => len_cons (fun _ _ _ _ h => len_cons (fun _ _ _ _ h => len_cons (fun _ _ _ _ h => len_nil h) h) h) h)) s_nil)))
    (s_seq (s_set (s_lc (s_iter s_var) s_gnm (by decide) (s_not (s_tB (s_call (s_cons s_var (s_cons s_var s_nil)) (fun _ _ _ _ h => len_cons (fun _ _ _ _ h => len_cons (fun _ _ _ _ h => len_nil h) h) h)))) s_var))
    (s_ret (s_andV (s_op g_eq s_var s_var) (s_op g_eq (s_cb g_len (s_cons s_var s_nil)) s_int))))))))))
theorem ok_Lvalues_told (T : Txt w K mg fA fD) : FnG P w K mg base 3 "_law_values_told" (fA 13) (fD 13) ["modulus", "one", "two", "three"] m_Lvalues_told := by
  have G_Lvalue_told : FnG P w K mg base 2 "_law_value_told" (fA 12) (fD 12) ["operation", "numbers", "modulus"] m_Lvalue_told := ok_Lvalue_told T
  refine ⟨T.F_Lvalues_told.okX sc_Lvalues_told (fun vs H Q E h => h.1) (fun cdv A outer s H vs Q E hr h => ?_), T.g_Lvalues_told, T.F_Lvalues_told.kp, T.F_Lvalues_told.binds (ps := ["modulus", "one", "two", "three"]) fun _ _ _ _ _ _ us hl => match us, hl with | [_, _, _, _], _ => rfl⟩
  have tk : Takes (cxOf (L2.CX P w) P w K mg base ["modulus", "one", "two", "three", "last", "cases", "operation", "numbers"] "_law_values_told" (defScope s_Lvalues_told) (fA 13) cdv A outer s H E) (fun c d _ H => E c d H) := takes_of rfl rfl rfl rfl
  refine ⟨_, (pss_cons (ps_set (i := 4) sc_Lvalues_told.nd rfl (Or.inl rfl) (pe_op op_sub (pv 0) pe_int))
    (pss_cons (ps_set (i := 5) sc_Lvalues_told.nd rfl (Or.inl rfl) (pe_lst (pa_cons (pe_tup (pa_cons pe_str (pa_cons (pe_lst (pa_cons (pv 1) pa_nil)) pa_nil))) (pa_cons (pe_tup (pa_cons pe_str (pa_cons (pe_lst (pa_cons (pv 4) pa_nil)) pa_nil))) (pa_cons (pe_tup (pa_cons pe_str (pa_cons (pe_lst (pa_cons (pv 1) (pa_cons (pv 2) pa_nil))) pa_nil))) pa_nil)))))
    (pss_cons (ps_set (i := 5) sc_Lvalues_told.nd rfl (Or.inl rfl) (pe_op (k_add K) (pv 5) (pe_lst (pa_cons (pe_tup (pa_cons pe_str (pa_cons (pe_lst (pa_cons (pv 4) (pa_cons (pv 4) pa_nil))) pa_nil))) (pa_cons (pe_tup (pa_cons pe_str (pa_cons (pe_lst (pa_cons (pv 4) (pa_cons pe_int pa_nil))) pa_nil))) pa_nil)))))
    (pss_cons (ps_set (i := 5) sc_Lvalues_told.nd rfl (Or.inl rfl) (pe_op (k_add K) (pv 5) (pe_lst (pa_cons (pe_tup (pa_cons pe_str (pa_cons (pe_lst (pa_cons (pv 1) (pa_cons (pv 2) pa_nil))) pa_nil))) (pa_cons (pe_tup (pa_cons pe_str (pa_cons (pe_lst (pa_cons (pv 2) (pa_cons (pv 1) pa_nil))) pa_nil))) pa_nil)))))
    (pss_cons (ps_set (i := 5) sc_Lvalues_told.nd rfl (Or.inl rfl) (pe_op (k_add K) (pv 5) (pe_lst (pa_cons (pe_tup (pa_cons pe_str (pa_cons (pe_lst (pa_cons pe_int (pa_cons (pv 4) pa_nil))) pa_nil))) (pa_cons (pe_tup (pa_cons pe_str (pa_cons (pe_lst (pa_cons (pv 1) (pa_cons (pv 1) pa_nil))) pa_nil))) pa_nil)))))
    (pss_cons (ps_set (i := 5) sc_Lvalues_told.nd rfl (Or.inl rfl) (pe_op (k_add K) (pv 5) (pe_lst (pa_cons (pe_tup (pa_cons pe_str (pa_cons (pe_lst (pa_cons (pv 1) (pa_cons (pv 3) pa_nil))) pa_nil))) (pa_cons (pe_tup (pa_cons pe_str (pa_cons (pe_lst (pa_cons (pv 4) (pa_cons (pv 4) pa_nil))) pa_nil))) pa_nil)))))
    (pss_cons (ps_set (i := 5) sc_Lvalues_told.nd rfl (Or.inl rfl) (pe_op (k_add K) (pv 5) (pe_lst (pa_cons (pe_tup (pa_cons pe_str (pa_cons (pe_lst (pa_cons (pv 1) (pa_cons (pv 2) pa_nil))) pa_nil))) (pa_cons (pe_tup (pa_cons pe_str (pa_cons (pe_lst (pa_cons (pv 2) (pa_cons (pv 1) pa_nil))) pa_nil))) pa_nil)))))
    (pss_cons (ps_set (i := 5) sc_Lvalues_told.nd rfl (Or.inl rfl) (pe_op (k_add K) (pv 5) (pe_lst (pa_cons (pe_tup (pa_cons pe_str (pa_cons (pe_lst (pa_cons (pv 1) (pa_cons (pv 1) pa_nil))) pa_nil))) (pa_cons (pe_tup (pa_cons pe_str (pa_cons (pe_lst (pa_cons pe_int (pa_cons (pv 4) pa_nil))) pa_nil))) pa_nil)))))
    (pss_cons (ps_set (i := 5) sc_Lvalues_told.nd rfl (Or.inl rfl) (pe_op (k_add K) (pv 5) (pe_lst (pa_cons (pe_tup (pa_cons pe_str (pa_cons (pe_lst (pa_cons (pv 1) (pa_cons (pv 2) (pa_cons (pv 3) pa_nil)))) pa_nil))) pa_nil))))
    (pss_cons (ps_set (i := 5) sc_Lvalues_told.nd rfl (Or.inl rfl) (pe_op (k_add K) (pv 5) (pe_lst (pa_cons (pe_tup (pa_cons pe_str (pa_cons (pe_lst (pa_cons pe_int (pa_cons (pv 2) (pa_cons (pv 3) pa_nil)))) pa_nil))) (pa_cons (pe_tup (pa_cons pe_str (pa_cons (pe_lst (pa_cons (pv 4) (pa_cons (pv 2) (pa_cons (pv 3) pa_nil)))) pa_nil))) pa_nil)))))
    (pss_cons (ps_for (passes_of rfl) rfl (k_seq K (pv 5)) (k_gtup K rfl (pgs_cons (pg_name (i := 6) sc_Lvalues_told.nd rfl (Or.inl rfl)) (pgs_cons (pg_name (i := 7) sc_Lvalues_told.nd rfl (Or.inl rfl)) pgs_nil))) (pss_one (ps_if (pt_not (pt_val (k_c G_Lvalue_told hr (by decide) tk (pa_cons (pv 6) (pa_cons (pv 7) (pa_cons (pv 0) pa_nil)))))) (pss_one (ps_ret pe_bl)) pss_nil)))
    (pss_one (ps_ret pe_bl))))))))))))),
    run_body (N := ["modulus", "one", "two", "three", "last", "cases", "operation", "numbers"]) (n := 4) (f := d_Lvalues_told) (by decide) ?_ h⟩
  exact (s_seq (s_set (s_op g_sub s_var s_int))
    (s_seq (s_set (s_mkL (s_cons (s_mkT (s_cons s_str (s_cons (s_mkL (s_cons s_var s_nil)) s_nil))) (s_cons (s_mkT (s_cons s_str (s_cons (s_mkL (s_cons s_var s_nil)) s_nil))) (s_cons (s_mkT (s_cons s_str (s_cons (s_mkL (s_cons s_var (s_cons s_var s_nil))) s_nil))) s_nil)))))
    (s_seq (s_set (s_op g_add s_var (s_mkL (s_cons (s_mkT (s_cons s_str (s_cons (s_mkL (s_cons s_var (s_cons s_var s_nil))) s_nil))) (s_cons (s_mkT (s_cons s_str (s_cons (s_mkL (s_cons s_var (s_cons s_int s_nil))) s_nil))) s_nil)))))
    (s_seq (s_set (s_op g_add s_var (s_mkL (s_cons (s_mkT (s_cons s_str (s_cons (s_mkL (s_cons s_var (s_cons s_var s_nil))) s_nil))) (s_cons (s_mkT (s_cons s_str (s_cons (s_mkL (s_cons s_var (s_cons s_var s_nil))) s_nil))) s_nil)))))
    (s_seq (s_set (s_op g_add s_var (s_mkL (s_cons (s_mkT (s_cons s_str (s_cons (s_mkL (s_cons s_int (s_cons s_var s_nil))) s_nil))) (s_cons (s_mkT (s_cons s_str (s_cons (s_mkL (s_cons s_var (s_cons s_var s_nil))) s_nil))) s_nil)))))
    (s_seq (s_set (s_op g_add s_var (s_mkL (s_cons (s_mkT (s_cons s_str (s_cons (s_mkL (s_cons s_var (s_cons s_var s_nil))) s_nil))) (s_cons (s_mkT (s_cons s_str (s_cons (s_mkL (s_cons s_var (s_cons s_var s_nil))) s_nil))) s_nil)))))
    (s_seq (s_set (s_op g_add s_var (s_mkL (s_cons (s_mkT (s_cons s_str (s_cons (s_mkL (s_cons s_var (s_cons s_var s_nil))) s_nil))) (s_cons (s_mkT (s_cons s_str (s_cons (s_mkL (s_cons s_var (s_cons s_var s_nil))) s_nil))) s_nil)))))
    (s_seq (s_set (s_op g_add s_var (s_mkL (s_cons (s_mkT (s_cons s_str (s_cons (s_mkL (s_cons s_var (s_cons s_var s_nil))) s_nil))) (s_cons (s_mkT (s_cons s_str (s_cons (s_mkL (s_cons s_int (s_cons s_var s_nil))) s_nil))) s_nil)))))
    (s_seq (s_set (s_op g_add s_var (s_mkL (s_cons (s_mkT (s_cons s_str (s_cons (s_mkL (s_cons s_var (s_cons s_var (s_cons s_var s_nil)))) s_nil))) s_nil))))
    (s_seq (s_set (s_op g_add s_var (s_mkL (s_cons (s_mkT (s_cons s_str (s_cons (s_mkL (s_cons s_int (s_cons s_var (s_cons s_var s_nil)))) s_nil))) (s_cons (s_mkT (s_cons s_str (s_cons (s_mkL (s_cons s_var (s_cons s_var (s_cons s_var s_nil)))) s_nil))) s_nil)))))
    (s_seq (s_for (s_iter s_var) (s_gtup (s_gcons s_gnm (s_gcons s_gnm s_gnil))) (s_if (s_not (s_tB (s_call (s_cons s_var (s_cons s_var (s_cons s_var s_nil))) (fun _ _ _ _ h => len_cons (fun _ _ _ _ h => len_cons (fun _ _ _ _ h => len_cons (fun _ _ _ _ h => len_nil h) h) h) h)))) (s_ret s_bl) s_next))
    (s_ret s_bl))))))))))))
theorem ok_Lall_signs (T : Txt w K mg fA fD) : FnG P w K mg base 1 "_law_all_signs" (fA 14) (fD 14) [] m_Lall_signs := by
  refine ⟨T.F_Lall_signs.okX sc_Lall_signs (fun vs H Q E h => h.1) (fun cdv A outer s H vs Q E hr h => ?_), T.g_Lall_signs, T.F_Lall_signs.kp, T.F_Lall_signs.binds (ps := []) fun _ _ _ _ _ _ us hl => match us, hl with | [], _ => rfl⟩
  have tk : Takes (cxOf (L2.CX P w) P w K mg base ["signs"] "_law_all_signs" (defScope s_Lall_signs) (fA 14) cdv A outer s H E) (fun c d _ H => E c d H) := takes_of rfl rfl rfl rfl
  refine ⟨_, (pss_cons (ps_set (i := 0) sc_Lall_signs.nd rfl (Or.inl rfl) pe_str)
    (pss_one (ps_ret (pe_op (k_add K) (pv 0) pe_str)))),
    run_body (N := ["signs"]) (n := 0) (f := d_Lall_signs) (by decide) ?_ h⟩
  exact (s_seq (s_set s_str)
    (s_ret (s_op g_add s_var s_str)))
theorem ok_Lletters (T : Txt w K mg fA fD) : FnG P w K mg base 1 "_law_letters" (fA 15) (fD 15) [] m_Lletters := by
  refine ⟨T.F_Lletters.okX sc_Lletters (fun vs H Q E h => h.1) (fun cdv A outer s H vs Q E hr h => ?_), T.g_Lletters, T.F_Lletters.kp, T.F_Lletters.binds (ps := []) fun _ _ _ _ _ _ us hl => match us, hl with | [], _ => rfl⟩
  have tk : Takes (cxOf (L2.CX P w) P w K mg base [] "_law_letters" (defScope s_Lletters) (fA 15) cdv A outer s H E) (fun c d _ H => E c d H) := takes_of rfl rfl rfl rfl
  refine ⟨_, (pss_one (ps_ret pe_str)),
    run_body (N := []) (n := 0) (f := d_Lletters) (by decide) ?_ h⟩
  exact (s_ret s_str)
theorem ok_Lboth (T : Txt w K mg fA fD) : FnG P w K mg base 2 "_law_both" (fA 16) (fD 16) [] m_Lboth := by
  have G_Lletters : FnG P w K mg base 1 "_law_letters" (fA 15) (fD 15) [] m_Lletters := ok_Lletters T
  refine ⟨T.F_Lboth.okX sc_Lboth (fun vs H Q E h => h.1) (fun cdv A outer s H vs Q E hr h => ?_), T.g_Lboth, T.F_Lboth.kp, T.F_Lboth.binds (ps := []) fun _ _ _ _ _ _ us hl => match us, hl with | [], _ => rfl⟩
  have tk : Takes (cxOf (L2.CX P w) P w K mg base [] "_law_both" (defScope s_Lboth) (fA 16) cdv A outer s H E) (fun c d _ H => E c d H) := takes_of rfl rfl rfl rfl
  refine ⟨_, (pss_one (ps_ret (pe_op (k_add K) (k_c0 G_Lletters hr (by decide) tk) pe_str))),
    run_body (N := []) (n := 0) (f := d_Lboth) (by decide) ?_ h⟩
  exact (s_ret (s_op g_add (s_call s_nil (fun _ _ _ _ h => len_nil h)) s_str))
theorem ok_Lreserved (T : Txt w K mg fA fD) : FnG P w K mg base 1 "_law_reserved" (fA 17) (fD 17) [] m_Lreserved := by
  refine ⟨T.F_Lreserved.okX sc_Lreserved (fun vs H Q E h => h.1) (fun cdv A outer s H vs Q E hr h => ?_), T.g_Lreserved, T.F_Lreserved.kp, T.F_Lreserved.binds (ps := []) fun _ _ _ _ _ _ us hl => match us, hl with | [], _ => rfl⟩
  have tk : Takes (cxOf (L2.CX P w) P w K mg base ["words"] "_law_reserved" (defScope s_Lreserved) (fA 17) cdv A outer s H E) (fun c d _ H => E c d H) := takes_of rfl rfl rfl rfl
  refine ⟨_, (pss_cons (ps_set (i := 0) sc_Lreserved.nd rfl (Or.inl rfl) pe_str)
    (pss_one (ps_ret (k_bm K PySem.F.plainAttrs_str PySem.F.slot_str_split PySem.F.type_str_split mt_splitA (pv 0) (pa_cons pe_str pa_nil))))),
    run_body (N := ["words"]) (n := 0) (f := d_Lreserved) (by decide) ?_ h⟩
  exact (s_seq (s_set s_str)
    (s_ret (s_meth g_split s_var (s_cons s_str s_nil))))
theorem ok_Loperand_counts (T : Txt w K mg fA fD) : FnG P w K mg base 1 "_law_operand_counts" (fA 18) (fD 18) [] m_Loperand_counts := by
  refine ⟨T.F_Loperand_counts.okX sc_Loperand_counts (fun vs H Q E h => h.1) (fun cdv A outer s H vs Q E hr h => ?_), T.g_Loperand_counts, T.F_Loperand_counts.kp, T.F_Loperand_counts.binds (ps := []) fun _ _ _ _ _ _ us hl => match us, hl with | [], _ => rfl⟩
  have tk : Takes (cxOf (L2.CX P w) P w K mg base ["counts", "operation", "count"] "_law_operand_counts" (defScope s_Loperand_counts) (fA 18) cdv A outer s H E) (fun c d _ H => E c d H) := takes_of rfl rfl rfl rfl
  refine ⟨_, (pss_cons (ps_set (i := 0) sc_Loperand_counts.nd rfl (Or.inl rfl) (pe_disp (pps_cons pe_str pe_int (pps_cons pe_str pe_int (pps_cons pe_str pe_int (pps_cons pe_str pe_int (pps_cons pe_str pe_int pps_nil))))) (by rfl) (by rfl) (fun z => by cases z) (by decide)))
    (pss_cons (ps_for (passes_of rfl) rfl (k_seq K (pe_lst (pa_cons (pe_tup (pa_cons pe_str (pa_cons pe_int pa_nil))) (pa_cons (pe_tup (pa_cons pe_str (pa_cons pe_int pa_nil))) (pa_cons (pe_tup (pa_cons pe_str (pa_cons pe_int pa_nil))) (pa_cons (pe_tup (pa_cons pe_str (pa_cons pe_int pa_nil))) pa_nil)))))) (k_gtup K rfl (pgs_cons (pg_name (i := 1) sc_Loperand_counts.nd rfl (Or.inl rfl)) (pgs_cons (pg_name (i := 2) sc_Loperand_counts.nd rfl (Or.inl rfl)) pgs_nil))) (pss_one (ps_or2 (ps_asg (pv 2) (pg_sub (pv 0) (pv 1) set_list)) (ps_dput (hu_of hr) (pv 0) (pv 1) (pv 2) rfl))))
    (pss_one (ps_ret (pv 0))))),
    run_body (N := ["counts", "operation", "count"]) (n := 0) (f := d_Loperand_counts) (by decide) ?_ h⟩
  exact (s_seq (s_set (s_disp (s_pc s_str s_int (s_pc s_str s_int (s_pc s_str s_int (s_pc s_str s_int (s_pc s_str s_int s_p0)))))))
    (s_seq (s_for (s_iter (s_mkL (s_cons (s_mkT (s_cons s_str (s_cons s_int s_nil))) (s_cons (s_mkT (s_cons s_str (s_cons s_int s_nil))) (s_cons (s_mkT (s_cons s_str (s_cons s_int s_nil))) (s_cons (s_mkT (s_cons s_str (s_cons s_int s_nil))) s_nil)))))) (s_gtup (s_gcons s_gnm (s_gcons s_gnm s_gnil))) (s_orS (s_putL s_var s_var s_var) (s_putD s_var s_var s_var)))
    (s_ret s_var)))
theorem ok_Ldraw_text (T : Txt w K mg fA fD) : FnG P w K mg base 2 "_law_draw_text" (fA 19) (fD 19) ["pool", "signs", "size"] m_Ldraw_text := by
  have G_Lpick : FnG P w K mg base 1 "_law_pick" (fA 6) (fD 6) ["pool", "many"] m_Lpick := ok_Lpick T
  refine ⟨T.F_Ldraw_text.okX sc_Ldraw_text (fun vs H Q E h => h.1) (fun cdv A outer s H vs Q E hr h => ?_), T.g_Ldraw_text, T.F_Ldraw_text.kp, T.F_Ldraw_text.binds (ps := ["pool", "signs", "size"]) fun _ _ _ _ _ _ us hl => match us, hl with | [_, _, _], _ => rfl⟩
  have tk : Takes (cxOf (L2.CX P w) P w K mg base ["pool", "signs", "size", "picked", "k"] "_law_draw_text" (defScope s_Ldraw_text) (fA 19) cdv A outer s H E) (fun c d _ H => E c d H) := takes_of rfl rfl rfl rfl
  refine ⟨_, (pss_cons (ps_setLc (i := 3) (own := [("k", 4)]) rfl sc_Ldraw_text.nd rfl rfl (sw_true rfl rfl rfl (by decide +kernel)) (pi_range1 rfl T.n_range (pa_cons (pv 2) pa_nil)) (blkOk_by (N := ["pool", "signs", "size", "picked", "k"]) (sc := defScope s_Ldraw_text) (own := [("k", 4)]) (by decide +kernel)) (fun _ _ _ _ _ => by exact (pg_name (i := 4) sc_Ldraw_text.nd rfl (Or.inl rfl))) (fun _ _ _ _ _ => by exact pts_nil) (fun _ _ _ _ _ => by exact (pe_ix (k_ix K) (pv 1) (k_c G_Lpick hr (by decide) takes0 (pa_cons (pv 0) (pa_cons (pe_callB (k_len K) (by rfl) T.n_len (by decide +kernel) (pa_cons (pv 1) pa_nil)) pa_nil))) (fun _ _ => rfl))))
    (pss_one (ps_ret (k_bm K PySem.F.plainAttrs_str PySem.F.slot_str_join PySem.F.type_str_join (k_join K) pe_str (pa_cons (pv 3) pa_nil))))),
    run_body (N := ["pool", "signs", "size", "picked", "k"]) (n := 3) (f := d_Ldraw_text) (by decide) ?_ h⟩
  exact (s_seq (s_set (s_lc (s_rng1 (s_cons s_var s_nil)) s_gnm (by decide) s_yes (s_op g_ix s_var (s_call (s_cons s_var (s_cons (s_cb g_len (s_cons s_var s_nil)) s_nil)) (fun _ _ _ _ h => len_cons (fun _ _ _ _ h => len_cons (fun _ _ _ _ h => len_nil h) h) h)))))
    (s_ret (s_meth g_join s_str (s_cons s_var s_nil))))
theorem ok_Ldraw_word (T : Txt w K mg fA fD) : FnG P w K mg base 3 "_law_draw_word" (fA 20) (fD 20) ["pool", "size"] m_Ldraw_word := by
  have G_Lletters : FnG P w K mg base 1 "_law_letters" (fA 15) (fD 15) [] m_Lletters := ok_Lletters T
  have G_Lboth : FnG P w K mg base 2 "_law_both" (fA 16) (fD 16) [] m_Lboth := ok_Lboth T
  have G_Ldraw_text : FnG P w K mg base 2 "_law_draw_text" (fA 19) (fD 19) ["pool", "signs", "size"] m_Ldraw_text := ok_Ldraw_text T
  refine ⟨T.F_Ldraw_word.okX sc_Ldraw_word (fun vs H Q E h => h.1) (fun cdv A outer s H vs Q E hr h => ?_), T.g_Ldraw_word, T.F_Ldraw_word.kp, T.F_Ldraw_word.binds (ps := ["pool", "size"]) fun _ _ _ _ _ _ us hl => match us, hl with | [_, _], _ => rfl⟩
  have tk : Takes (cxOf (L2.CX P w) P w K mg base ["pool", "size", "first"] "_law_draw_word" (defScope s_Ldraw_word) (fA 20) cdv A outer s H E) (fun c d _ H => E c d H) := takes_of rfl rfl rfl rfl
  refine ⟨_, (pss_cons (ps_set (i := 2) sc_Ldraw_word.nd rfl (Or.inl rfl) (k_c G_Ldraw_text hr (by decide) tk (pa_cons (pv 0) (pa_cons (k_c0 G_Lletters hr (by decide) tk) (pa_cons pe_int pa_nil)))))
    (pss_one (ps_ret (pe_op (k_add K) (pv 2) (k_c G_Ldraw_text hr (by decide) tk (pa_cons (pv 0) (pa_cons (k_c0 G_Lboth hr (by decide) tk) (pa_cons (pe_op op_sub (pv 1) pe_int) pa_nil)))))))),
    run_body (N := ["pool", "size", "first"]) (n := 2) (f := d_Ldraw_word) (by decide) ?_ h⟩
  exact (s_seq (s_set (s_call (s_cons s_var (s_cons (s_call s_nil (fun _ _ _ _ h => len_nil h)) (s_cons s_int s_nil))) (fun _ _ _ _ h => len_cons (fun _ _ _ _ h => len_cons (fun _ _ _ _ h => len_cons (fun _ _ _ _ h => len_nil h) h) h) h)))
    (s_ret (s_op g_add s_var (s_call (s_cons s_var (s_cons (s_call s_nil (fun _ _ _ _ h => len_nil h)) (s_cons (s_op g_sub s_var s_int) s_nil))) (fun _ _ _ _ h => len_cons (fun _ _ _ _ h => len_cons (fun _ _ _ _ h => len_cons (fun _ _ _ _ h => len_nil h) h) h) h)))))
theorem ok_Ldraw_texts (T : Txt w K mg fA fD) : FnG P w K mg base 4 "_law_draw_texts" (fA 21) (fD 21) ["pool"] m_Ldraw_texts := by
  have G_Lpick : FnG P w K mg base 1 "_law_pick" (fA 6) (fD 6) ["pool", "many"] m_Lpick := ok_Lpick T
  have G_Lall_signs : FnG P w K mg base 1 "_law_all_signs" (fA 14) (fD 14) [] m_Lall_signs := ok_Lall_signs T
  have G_Lboth : FnG P w K mg base 2 "_law_both" (fA 16) (fD 16) [] m_Lboth := ok_Lboth T
  have G_Lreserved : FnG P w K mg base 1 "_law_reserved" (fA 17) (fD 17) [] m_Lreserved := ok_Lreserved T
  have G_Loperand_counts : FnG P w K mg base 1 "_law_operand_counts" (fA 18) (fD 18) [] m_Loperand_counts := ok_Loperand_counts T
  have G_Ldraw_text : FnG P w K mg base 2 "_law_draw_text" (fA 19) (fD 19) ["pool", "signs", "size"] m_Ldraw_text := ok_Ldraw_text T
  have G_Ldraw_word : FnG P w K mg base 3 "_law_draw_word" (fA 20) (fD 20) ["pool", "size"] m_Ldraw_word := ok_Ldraw_word T
  refine ⟨T.F_Ldraw_texts.okX sc_Ldraw_texts (fun vs H Q E h => h.1) (fun cdv A outer s H vs Q E hr h => ?_), T.g_Ldraw_texts, T.F_Ldraw_texts.kp, T.F_Ldraw_texts.binds (ps := ["pool"]) fun _ _ _ _ _ _ us hl => match us, hl with | [_], _ => rfl⟩
  have tk : Takes (cxOf (L2.CX P w) P w K mg base ["pool", "texts", "k", "word", "at", "sign", "spoilt"] "_law_draw_texts" (defScope s_Ldraw_texts) (fA 21) cdv A outer s H E) (fun c d _ H => E c d H) := takes_of rfl rfl rfl rfl
  refine ⟨_, (pss_cons (ps_set (i := 1) sc_Ldraw_texts.nd rfl (Or.inl rfl) (pe_lst (pa_cons pe_str (pa_cons pe_str (pa_cons pe_str (pa_cons pe_str (pa_cons pe_str (pa_cons pe_str (pa_cons pe_str (pa_cons pe_str (pa_cons pe_str (pa_cons pe_str pa_nil))))))))))))
    (pss_cons (ps_for (passes_of rfl) rfl (pi_range1 rfl T.n_range (pa_cons pe_int pa_nil)) (pg_name (i := 2) sc_Ldraw_texts.nd rfl (Or.inl rfl)) (pss_cons (ps_set (i := 3) sc_Ldraw_texts.nd rfl (Or.inl rfl) (k_c G_Ldraw_word hr (by decide) tk (pa_cons (pv 0) (pa_cons (pe_op (k_add K) pe_int (k_c G_Lpick hr (by decide) tk (pa_cons (pv 0) (pa_cons pe_int pa_nil)))) pa_nil))))
    (pss_cons (ps_set (i := 4) sc_Ldraw_texts.nd rfl (Or.inl rfl) (k_c G_Lpick hr (by decide) tk (pa_cons (pv 0) (pa_cons (pe_callB (k_len K) (by rfl) T.n_len (by decide +kernel) (pa_cons (pv 3) pa_nil)) pa_nil))))
    (pss_cons (ps_set (i := 5) sc_Ldraw_texts.nd rfl (Or.inl rfl) (k_c G_Ldraw_text hr (by decide) tk (pa_cons (pv 0) (pa_cons (k_c0 G_Lall_signs hr (by decide) tk) (pa_cons pe_int pa_nil)))))
    (pss_cons (ps_set (i := 6) sc_Ldraw_texts.nd rfl (Or.inl rfl) (pe_op (k_add K) (pe_op (k_add K) (pe_slice (k_sl K) (pv 3) po_none (po_some (pv 4))) (pv 5)) (pe_slice (k_sl K) (pv 3) (po_some (pe_op (k_add K) (pv 4) pe_int)) po_none)))
    (pss_cons (ps_set (i := 1) sc_Ldraw_texts.nd rfl (Or.inl rfl) (pe_op (k_add K) (pv 1) (pe_lst (pa_cons (pv 3) (pa_cons (pv 6) pa_nil)))))
    (pss_cons (ps_expr (k_bm K PySem.F.plainAttrs_list PySem.F.slot_list_append PySem.F.type_list_append mt_append (pv 1) (pa_cons (pe_op (k_add K) (pv 3) (k_c G_Ldraw_text hr (by decide) tk (pa_cons (pv 0) (pa_cons (k_c0 G_Lboth hr (by decide) tk) (pa_cons pe_int pa_nil))))) pa_nil)))
    (pss_cons (ps_expr (k_bm K PySem.F.plainAttrs_list PySem.F.slot_list_append PySem.F.type_list_append mt_append (pv 1) (pa_cons (pe_op (k_add K) (k_c G_Ldraw_text hr (by decide) tk (pa_cons (pv 0) (pa_cons pe_str (pa_cons pe_int pa_nil)))) (pv 3)) pa_nil)))
    (pss_cons (ps_set (i := 1) sc_Ldraw_texts.nd rfl (Or.inl rfl) (pe_op (k_add K) (pv 1) (pe_lst (pa_cons (pe_op (k_add K) (pv 3) pe_str) (pa_cons (pe_op (k_add K) pe_str (pv 3)) (pa_cons (pe_op (k_add K) pe_str (pv 3)) pa_nil))))))
    (pss_one (ps_set (i := 1) sc_Ldraw_texts.nd rfl (Or.inl rfl) (pe_op (k_add K) (pv 1) (pe_lst (pa_cons (pe_op (k_add K) (pv 3) pe_str) (pa_cons (k_bm0 K PySem.F.plainAttrs_str PySem.F.slot_str_upper PySem.F.type_str_upper mt_upperA (pv 3)) pa_nil)))))))))))))))
    (pss_cons (ps_expr (k_bm K PySem.F.plainAttrs_list PySem.F.slot_list_append PySem.F.type_list_append mt_append (pv 1) (pa_cons (pe_op (k_add K) (k_c G_Ldraw_word hr (by decide) tk (pa_cons (pv 0) (pa_cons pe_int pa_nil))) (k_c G_Ldraw_text hr (by decide) tk (pa_cons (pv 0) (pa_cons (k_c0 G_Lboth hr (by decide) tk) (pa_cons pe_int pa_nil))))) pa_nil)))
    (pss_cons (ps_expr (k_bm K PySem.F.plainAttrs_list PySem.F.slot_list_append PySem.F.type_list_append mt_append (pv 1) (pa_cons (k_c G_Ldraw_text hr (by decide) tk (pa_cons (pv 0) (pa_cons (k_c0 G_Lall_signs hr (by decide) tk) (pa_cons (k_c G_Lpick hr (by decide) tk (pa_cons (pv 0) (pa_cons pe_int pa_nil))) pa_nil)))) pa_nil)))
    (pss_cons (ps_for (passes_of rfl) rfl (k_seq K (pe_op (k_add K) (k_c0 G_Lreserved hr (by decide) tk) (pe_callTy (k_list K) (by rfl) T.n_list (by decide +kernel) (pa_cons (k_c0 G_Loperand_counts hr (by decide) tk) pa_nil)))) (pg_name (i := 3) sc_Ldraw_texts.nd rfl (Or.inl rfl)) (pss_cons (ps_set (i := 5) sc_Ldraw_texts.nd rfl (Or.inl rfl) (k_c G_Ldraw_text hr (by decide) tk (pa_cons (pv 0) (pa_cons (k_c0 G_Lboth hr (by decide) tk) (pa_cons pe_int pa_nil)))))
    (pss_cons (ps_set (i := 1) sc_Ldraw_texts.nd rfl (Or.inl rfl) (pe_op (k_add K) (pv 1) (pe_lst (pa_cons (pv 3) (pa_cons (pe_op (k_add K) (pv 3) (pv 5)) (pa_cons (k_bm0 K PySem.F.plainAttrs_str PySem.F.slot_str_upper PySem.F.type_str_upper mt_upperA (pv 3)) pa_nil))))))
    (pss_one (ps_set (i := 1) sc_Ldraw_texts.nd rfl (Or.inl rfl) (pe_op (k_add K) (pv 1) (pe_lst (pa_cons (pe_slice (k_sl K) (pv 3) (po_some pe_int) po_none) (pa_cons (pe_slice (k_sl K) (pv 3) po_none (po_some (pe_un un_neg pe_int))) pa_nil)))))))))
    (pss_one (ps_ret (pv 1)))))))),
    run_body (N := ["pool", "texts", "k", "word", "at", "sign", "spoilt"]) (n := 1) (f := d_Ldraw_texts) (by decide) ?_ h⟩
  exact (s_seq (s_set (s_mkL (s_cons s_str (s_cons s_str (s_cons s_str (s_cons s_str (s_cons s_str (s_cons s_str (s_cons s_str (s_cons s_str (s_cons s_str (s_cons s_str s_nil))))))))))))
    (s_seq (s_for (s_rng1 (s_cons s_int s_nil)) s_gnm (s_seq (s_set (s_call (s_cons s_var (s_cons (s_op g_add s_int (s_call (s_cons s_var (s_cons s_int s_nil)) (fun _ _ _ _ h => len_cons (fun _ _ _ _ h => len_cons (fun _ _ _ _ h => len_nil h) h) h))) s_nil)) (fun _ _ _ _ h => len_cons (fun _ _ _ _ h => len_cons (fun _ _ _ _ h => len_nil h) h) h)))
    (s_seq (s_set (s_call (s_cons s_var (s_cons (s_cb g_len (s_cons s_var s_nil)) s_nil)) (fun _ _ _ _ h => len_cons (fun _ _ _ _ h => len_cons (fun _ _ _ _ h => len_nil h) h) h)))
    (s_seq (s_set (s_call (s_cons s_var (s_cons (s_call s_nil (fun _ _ _ _ h => len_nil h)) (s_cons s_int s_nil))) (fun _ _ _ _ h => len_cons (fun _ _ _ _ h => len_cons (fun _ _ _ _ h => len_cons (fun _ _ _ _ h => len_nil h) h) h) h)))
    (s_seq (s_set (s_op g_add (s_op g_add (s_sl s_var s_no (s_part s_var)) s_var) (s_sl s_var (s_part (s_op g_add s_var s_int)) s_no)))
    (s_seq (s_set (s_op g_add s_var (s_mkL (s_cons s_var (s_cons s_var s_nil)))))
    (s_seq (s_drop (s_meth g_append s_var (s_cons (s_op g_add s_var (s_call (s_cons s_var (s_cons (s_call s_nil (fun _ _ _ _ h => len_nil h)) (s_cons s_int s_nil))) (fun _ _ _ _ h => len_cons (fun _ _ _ _ h => len_cons (fun _ _ _ _ h => len_cons (fun _ _ _ _ h => len_nil h) h) h) h))) s_nil)))
    (s_seq (s_drop (s_meth g_append s_var (s_cons (s_op g_add (s_call (s_cons s_var (s_cons s_str (s_cons s_int s_nil))) (fun _ _ _ _ h => len_cons (fun _ _ _ _ h => len_cons (fun _ _ _ _ h => len_cons (fun _ _ _ _ h => len_nil h) h) h) h)) s_var) s_nil)))
    (s_seq (s_set (s_op g_add s_var (s_mkL (s_cons (s_op g_add s_var s_str) (s_cons (s_op g_add s_str s_var) (s_cons (s_op g_add s_str s_var) s_nil))))))
    (s_set (s_op g_add s_var (s_mkL (s_cons (s_op g_add s_var s_str) (s_cons (s_meth0 g_upper s_var) s_nil))))))))))))))
    (s_seq (s_drop (s_meth g_append s_var (s_cons (s_op g_add (s_call (s_cons s_var (s_cons s_int s_nil)) (fun _ _ _ _ h => len_cons (fun _ _ _ _ h => len_cons (fun _ _ _ _ h => len_nil h) h) h)) (s_call (s_cons s_var (s_cons (s_call s_nil (fun _ _ _ _ h => len_nil h)) (s_cons s_int s_nil))) (fun _ _ _ _ h => len_cons (fun _ _ _ _ h => len_cons (fun _ _ _ _ h => len_cons (fun _ _ _ _ h => len_nil h) h) h) h))) s_nil)))
    (s_seq (s_drop (s_meth g_append s_var (s_cons (s_call (s_cons s_var (s_cons (s_call s_nil (fun _ _ _ _ h => len_nil h)) (s_cons (s_call (s_cons s_var (s_cons s_int s_nil)) (fun _ _ _ _ h => len_cons (fun _ _ _ _ h => len_cons (fun _ _ _ _ h => len_nil h) h) h)) s_nil))) (fun _ _ _ _ h => len_cons (fun _ _ _ _ h => len_cons (fun _ _ _ _ h => len_cons (fun _ _ _ _ h => len_nil h) h) h) h)) s_nil)))
    (s_seq (s_for (s_iter (s_op g_add (s_call s_nil (fun _ _ _ _ h => len_nil h)) (s_tmp (s_cb g_listX (s_cons (s_call s_nil (fun _ _ _ _ h => len_nil h)) s_nil))))) s_gnm (s_seq (s_set (s_call (s_cons s_var (s_cons (s_call s_nil (fun _ _ _ _ h => len_nil h)) (s_cons s_int s_nil))) (fun _ _ _ _ h => len_cons (fun _ _ _ _ h => len_cons (fun _ _ _ _ h => len_cons (fun _ _ _ _ h => len_nil h) h) h) h)))
    (s_seq (s_set (s_op g_add s_var (s_mkL (s_cons s_var (s_cons (s_op g_add s_var s_var) (s_cons (s_meth0 g_upper s_var) s_nil))))))
    (s_set (s_op g_add s_var (s_mkL (s_cons (s_sl s_var (s_part s_int) s_no) (s_cons (s_sl s_var s_no (s_part (s_un g_neg s_int))) s_nil))))))))
    (s_ret s_var))))))
theorem ok_Lis_word (T : Txt w K mg fA fD) : FnG P w K mg base 3 "_law_is_word" (fA 22) (fD 22) ["text"] m_Lis_word := by
  have G_Lletters : FnG P w K mg base 1 "_law_letters" (fA 15) (fD 15) [] m_Lletters := ok_Lletters T
  have G_Lboth : FnG P w K mg base 2 "_law_both" (fA 16) (fD 16) [] m_Lboth := ok_Lboth T
  refine ⟨T.F_Lis_word.okX sc_Lis_word (fun vs H Q E h => h.1) (fun cdv A outer s H vs Q E hr h => ?_), T.g_Lis_word, T.F_Lis_word.kp, T.F_Lis_word.binds (ps := ["text"]) fun _ _ _ _ _ _ us hl => match us, hl with | [_], _ => rfl⟩
  have tk : Takes (cxOf (L2.CX P w) P w K mg base ["text", "sign"] "_law_is_word" (defScope s_Lis_word) (fA 22) cdv A outer s H E) (fun c d _ H => E c d H) := takes_of rfl rfl rfl rfl
  refine ⟨_, (pss_cons (ps_if (PW.pt (pw_or (pt_cmpR (k_eq K hr.units) (pe_callB (k_len K) (by rfl) T.n_len (by decide +kernel) (pa_cons (pv 0) pa_nil)) pe_int (nomark _)) (pw_or (pt_cmpR op_gt (pe_callB (k_len K) (by rfl) T.n_len (by decide +kernel) (pa_cons (pv 0) pa_nil)) pe_int (nomark _)) (pw_or1 (pt_cmpR (k_ni K (room65 hr)) (pe_ix (k_ix K) (pv 0) pe_int (fun _ _ => rfl)) (k_c0 G_Lletters hr (by decide) tk) rfl))))) (pss_one (ps_ret pe_bl)) pss_nil)
    (pss_one (ps_ret (pe_cmpR (k_eq K hr.units) (pe_callB (k_len K) (by rfl) T.n_len (by decide +kernel) (pa_cons (pe_lc (own := [("sign", 1)]) rfl sc_Lis_word.nd (k_seq K (pv 0)) (blkOk_by (N := ["text", "sign"]) (sc := defScope s_Lis_word) (own := [("sign", 1)]) (by decide +kernel)) (fun _ _ _ _ _ => by exact (pg_name (i := 1) sc_Lis_word.nd rfl (Or.inl rfl))) (fun _ _ _ _ _ => by exact (pts_one (pt_cmpR (k_ni K (room65 hr)) (pv 1) (k_c0 G_Lboth hr (by decide) takes0) rfl))) (fun _ _ _ _ _ => by exact (pv 1))) pa_nil)) pe_int (nomark _))))),
    run_body (N := ["text", "sign"]) (n := 1) (f := d_Lis_word) (by decide) ?_ h⟩
  exact (s_seq (s_if (s_or (s_tTest (s_op g_eq (s_cb g_len (s_cons s_var s_nil)) s_int)) (s_or (s_tTest (s_op g_gt (s_cb g_len (s_cons s_var s_nil)) s_int)) (s_tTest (s_op g_ni (s_op g_ix s_var s_int) (s_call s_nil (fun _ _ _ _ h => len_nil h)))))) (s_ret s_bl) s_next)
    (s_ret (s_op g_eq (s_tmp (s_cb g_len (s_cons (s_lc (s_iter s_var) s_gnm (by decide) (s_tTest (s_op g_ni s_var (s_call s_nil (fun _ _ _ _ h => len_nil h)))) s_var) s_nil))) s_int)))
theorem ok_Ltext_told (T : Txt w K mg fA fD) : FnG P w K mg base 4 "_law_text_told" (fA 23) (fD 23) ["text"] m_Ltext_told := by
  have G_is_word : FnG P w K mg base 1 "is_word" (fA 1) (fD 1) ["text"] m_is_word := ok_is_word T
  have G_is_identifier : FnG P w K mg base 2 "is_identifier" (fA 2) (fD 2) ["text"] m_is_identifier := ok_is_identifier T
  have G_operand_count : FnG P w K mg base 1 "operand_count" (fA 3) (fD 3) ["operation"] m_operand_count := ok_operand_count T
  have G_makes_value : FnG P w K mg base 1 "makes_value" (fA 4) (fD 4) ["operation"] m_makes_value := ok_makes_value T
  have G_Lis_integer : FnG P w K mg base 1 "_law_is_integer" (fA 9) (fD 9) ["told", "due"] m_Lis_integer := ok_Lis_integer T
  have G_Lis_truth : FnG P w K mg base 1 "_law_is_truth" (fA 10) (fD 10) ["told", "due"] m_Lis_truth := ok_Lis_truth T
  have G_Lreserved : FnG P w K mg base 1 "_law_reserved" (fA 17) (fD 17) [] m_Lreserved := ok_Lreserved T
  have G_Loperand_counts : FnG P w K mg base 1 "_law_operand_counts" (fA 18) (fD 18) [] m_Loperand_counts := ok_Loperand_counts T
  have G_Lis_word : FnG P w K mg base 3 "_law_is_word" (fA 22) (fD 22) ["text"] m_Lis_word := ok_Lis_word T
  refine ⟨T.F_Ltext_told.okX sc_Ltext_told (fun vs H Q E h => h.1) (fun cdv A outer s H vs Q E hr h => ?_), T.g_Ltext_told, T.F_Ltext_told.kp, T.F_Ltext_told.binds (ps := ["text"]) fun _ _ _ _ _ _ us hl => match us, hl with | [_], _ => rfl⟩
  have tk : Takes (cxOf (L2.CX P w) P w K mg base ["text", "word", "identifier", "makes", "count"] "_law_text_told" (defScope s_Ltext_told) (fA 23) cdv A outer s H E) (fun c d _ H => E c d H) := takes_of rfl rfl rfl rfl
  refine ⟨_, (pss_cons (ps_set (i := 1) sc_Ltext_told.nd rfl (Or.inl rfl) (k_c G_Lis_word hr (by decide) tk (pa_cons (pv 0) pa_nil)))
    (pss_cons (ps_set (i := 2) sc_Ltext_told.nd rfl (Or.inl rfl) (pe_and (pv 1) (pe_one (pe_cmpR (k_ni K (room65 hr)) (pv 0) (k_c0 G_Lreserved hr (by decide) tk) rfl))))
    (pss_cons (ps_set (i := 3) sc_Ltext_told.nd rfl (Or.inl rfl) (pe_and (pe_cmpR (k_ne K hr.units) (pv 0) pe_str (nomark _)) (pe_one (pe_cmpR (k_ne K hr.units) (pv 0) pe_str (nomark _)))))
    (pss_cons (ps_set (i := 4) sc_Ltext_told.nd rfl (Or.inl rfl) (pe_dget2 (hu_of hr) (k_c0 G_Loperand_counts hr (by decide) tk) (pv 0) (pe_un un_neg pe_int) ⟨rfl, rfl, rfl, rfl⟩))
    (pss_cons (ps_if (pt_not (pt_val (k_c G_Lis_truth hr (by decide) tk (pa_cons (k_c G_is_word hr (by decide) tk (pa_cons (pv 0) pa_nil)) (pa_cons (pv 1) pa_nil))))) (pss_one (ps_ret pe_bl)) pss_nil)
    (pss_cons (ps_if (pt_not (pt_val (k_c G_Lis_truth hr (by decide) tk (pa_cons (k_cK0 G_is_word hr (by decide) tk (kbn_of (ps := ["text"]) (ks := ["text"]) (n := 0) [0] T.F_is_word fun _ _ _ _ _ _ us ws h1 h2 => match us, ws, h1, h2 with | [], [_], _, _ => rfl) (pk_cons (pv 0) pk_nil)) (pa_cons (pv 1) pa_nil))))) (pss_one (ps_ret pe_bl)) pss_nil)
    (pss_cons (ps_if (pt_not (pt_val (k_c G_Lis_truth hr (by decide) tk (pa_cons (k_c G_is_identifier hr (by decide) tk (pa_cons (pv 0) pa_nil)) (pa_cons (pv 2) pa_nil))))) (pss_one (ps_ret pe_bl)) pss_nil)
    (pss_cons (ps_if (pt_not (pt_val (k_c G_Lis_truth hr (by decide) tk (pa_cons (k_cK0 G_is_identifier hr (by decide) tk (kbn_of (ps := ["text"]) (ks := ["text"]) (n := 0) [0] T.F_is_identifier fun _ _ _ _ _ _ us ws h1 h2 => match us, ws, h1, h2 with | [], [_], _, _ => rfl) (pk_cons (pv 0) pk_nil)) (pa_cons (pv 2) pa_nil))))) (pss_one (ps_ret pe_bl)) pss_nil)
    (pss_cons (ps_if (pt_not (pt_val (k_c G_Lis_integer hr (by decide) tk (pa_cons (k_c G_operand_count hr (by decide) tk (pa_cons (pv 0) pa_nil)) (pa_cons (pv 4) pa_nil))))) (pss_one (ps_ret pe_bl)) pss_nil)
    (pss_cons (ps_if (pt_not (pt_val (k_c G_Lis_integer hr (by decide) tk (pa_cons (k_cK0 G_operand_count hr (by decide) tk (kbn_of (ps := ["operation"]) (ks := ["operation"]) (n := 0) [0] T.F_operand_count fun _ _ _ _ _ _ us ws h1 h2 => match us, ws, h1, h2 with | [], [_], _, _ => rfl) (pk_cons (pv 0) pk_nil)) (pa_cons (pv 4) pa_nil))))) (pss_one (ps_ret pe_bl)) pss_nil)
    (pss_cons (ps_if (pt_not (pt_val (k_c G_Lis_truth hr (by decide) tk (pa_cons (k_c G_makes_value hr (by decide) tk (pa_cons (pv 0) pa_nil)) (pa_cons (pv 3) pa_nil))))) (pss_one (ps_ret pe_bl)) pss_nil)
    (pss_one (ps_ret (k_c G_Lis_truth hr (by decide) tk (pa_cons (k_cK0 G_makes_value hr (by decide) tk (kbn_of (ps := ["operation"]) (ks := ["operation"]) (n := 0) [0] T.F_makes_value fun _ _ _ _ _ _ us ws h1 h2 => match us, ws, h1, h2 with | [], [_], _, _ => rfl) (pk_cons (pv 0) pk_nil)) (pa_cons (pv 3) pa_nil)))))))))))))))),
    run_body (N := ["text", "word", "identifier", "makes", "count"]) (n := 1) (f := d_Ltext_told) (by decide) ?_ h⟩
  exact (s_seq (s_set (s_call (s_cons s_var s_nil) (fun _ _ _ _ h => len_cons (fun _ _ _ _ h => len_nil h) h)))
    (s_seq (s_set (s_andV s_var (s_op g_ni s_var (s_call s_nil (fun _ _ _ _ h => len_nil h)))))
    (s_seq (s_set (s_andV (s_op g_ne s_var s_str) (s_op g_ne s_var s_str)))
    (s_seq (s_set (s_tmp (s_get2 (s_call s_nil (fun _ _ _ _ h => len_nil h)) s_var (s_un g_neg s_int))))
    (s_seq (s_if (s_not (s_tB (s_call (s_cons (s_call (s_cons s_var s_nil) (fun _ _ _ _ h => len_cons (fun _ _ _ _ h => len_nil h) h)) (s_cons s_var s_nil)) (fun _ _ _ _ h => len_cons (fun _ _ _ _ h => len_cons (fun _ _ _ _ h => len_nil h) h) h)))) (s_ret s_bl) s_next)
    (s_seq (s_if (s_not (s_tB (s_call (s_cons (s_tmp (s_callK s_nil (s_cons s_var s_nil))) (s_cons s_var s_nil)) (fun _ _ _ _ h => len_cons (fun _ _ _ _ h => len_cons (fun _ _ _ _ h => len_nil h) h) h)))) (s_ret s_bl) s_next)
    (s_seq (s_if (s_not (s_tB (s_call (s_cons (s_call (s_cons s_var s_nil) (fun _ _ _ _ h => len_cons (fun _ _ _ _ h => len_nil h) h)) (s_cons s_var s_nil)) (fun _ _ _ _ h => len_cons (fun _ _ _ _ h => len_cons (fun _ _ _ _ h => len_nil h) h) h)))) (s_ret s_bl) s_next)
    (s_seq (s_if (s_not (s_tB (s_call (s_cons (s_tmp (s_callK s_nil (s_cons s_var s_nil))) (s_cons s_var s_nil)) (fun _ _ _ _ h => len_cons (fun _ _ _ _ h => len_cons (fun _ _ _ _ h => len_nil h) h) h)))) (s_ret s_bl) s_next)
    (s_seq (s_if (s_not (s_tB (s_call (s_cons (s_call (s_cons s_var s_nil) (fun _ _ _ _ h => len_cons (fun _ _ _ _ h => len_nil h) h)) (s_cons s_var s_nil)) (fun _ _ _ _ h => len_cons (fun _ _ _ _ h => len_cons (fun _ _ _ _ h => len_nil h) h) h)))) (s_ret s_bl) s_next)
    (s_seq (s_if (s_not (s_tB (s_call (s_cons (s_tmp (s_callK s_nil (s_cons s_var s_nil))) (s_cons s_var s_nil)) (fun _ _ _ _ h => len_cons (fun _ _ _ _ h => len_cons (fun _ _ _ _ h => len_nil h) h) h)))) (s_ret s_bl) s_next)
    (s_seq (s_if (s_not (s_tB (s_call (s_cons (s_call (s_cons s_var s_nil) (fun _ _ _ _ h => len_cons (fun _ _ _ _ h => len_nil h) h)) (s_cons s_var s_nil)) (fun _ _ _ _ h => len_cons (fun _ _ _ _ h => len_cons (fun _ _ _ _ h => len_nil h) h) h)))) (s_ret s_bl) s_next)
    (s_ret (s_call (s_cons (s_tmp (s_callK s_nil (s_cons s_var s_nil))) (s_cons s_var s_nil)) (fun _ _ _ _ h => len_cons (fun _ _ _ _ h => len_cons (fun _ _ _ _ h => len_nil h) h) h))))))))))))))
theorem ok_law (T : Txt w K mg fA fD) : FnG P w K mg base 5 "law" (fA 24) (fD 24) ["script"] m_law := by
  have G_Lpool : FnG P w K mg base 1 "_law_pool" (fA 5) (fD 5) ["script"] m_Lpool := ok_Lpool T
  have G_Lpick : FnG P w K mg base 1 "_law_pick" (fA 6) (fD 6) ["pool", "many"] m_Lpick := ok_Lpick T
  have G_Ldraw_modulus : FnG P w K mg base 2 "_law_draw_modulus" (fA 7) (fD 7) ["pool"] m_Ldraw_modulus := ok_Ldraw_modulus T
  have G_Ldraw_number : FnG P w K mg base 2 "_law_draw_number" (fA 8) (fD 8) ["pool", "modulus"] m_Ldraw_number := ok_Ldraw_number T
  have G_Lvalues_told : FnG P w K mg base 3 "_law_values_told" (fA 13) (fD 13) ["modulus", "one", "two", "three"] m_Lvalues_told := ok_Lvalues_told T
  have G_Ldraw_texts : FnG P w K mg base 4 "_law_draw_texts" (fA 21) (fD 21) ["pool"] m_Ldraw_texts := ok_Ldraw_texts T
  have G_Ltext_told : FnG P w K mg base 4 "_law_text_told" (fA 23) (fD 23) ["text"] m_Ltext_told := ok_Ltext_told T
  refine ⟨T.F_law.okX sc_law (fun vs H Q E h => h.1) (fun cdv A outer s H vs Q E hr h => ?_), T.g_law, T.F_law.kp, T.F_law.binds (ps := ["script"]) fun _ _ _ _ _ _ us hl => match us, hl with | [_], _ => rfl⟩
  have tk : Takes (cxOf (L2.CX P w) P w K mg base ["script", "pool", "modulus", "one", "two", "three", "other", "text"] "law" (defScope s_law) (fA 24) cdv A outer s H E) (fun c d _ H => E c d H) := takes_of rfl rfl rfl rfl
  refine ⟨_, (pss_cons (ps_set (i := 1) sc_law.nd rfl (Or.inl rfl) (k_c G_Lpool hr (by decide) tk (pa_cons (pv 0) pa_nil)))
    (pss_cons (ps_set (i := 2) sc_law.nd rfl (Or.inl rfl) (k_c G_Ldraw_modulus hr (by decide) tk (pa_cons (pv 1) pa_nil)))
    (pss_cons (ps_set (i := 3) sc_law.nd rfl (Or.inl rfl) (k_c G_Ldraw_number hr (by decide) tk (pa_cons (pv 1) (pa_cons (pv 2) pa_nil))))
    (pss_cons (ps_set (i := 4) sc_law.nd rfl (Or.inl rfl) (k_c G_Ldraw_number hr (by decide) tk (pa_cons (pv 1) (pa_cons (pv 2) pa_nil))))
    (pss_cons (ps_set (i := 5) sc_law.nd rfl (Or.inl rfl) (k_c G_Ldraw_number hr (by decide) tk (pa_cons (pv 1) (pa_cons (pv 2) pa_nil))))
    (pss_cons (ps_if (pt_cmpR (k_eq K hr.units) (k_c G_Lpick hr (by decide) tk (pa_cons (pv 1) (pa_cons pe_int pa_nil))) pe_int (nomark _)) (pss_one (ps_set (i := 4) sc_law.nd rfl (Or.inl rfl) (pv 3))) pss_nil)
    (pss_cons (ps_if (pt_not (pt_val (k_c G_Lvalues_told hr (by decide) tk (pa_cons (pv 2) (pa_cons (pv 3) (pa_cons (pv 4) (pa_cons (pv 5) pa_nil))))))) (pss_one (ps_ret pe_bl)) pss_nil)
    (pss_cons (ps_set (i := 6) sc_law.nd rfl (Or.inl rfl) (pe_op (k_add K) pe_int (pe_op op_mod (pv 2) pe_int)))
    (pss_cons (ps_if (pt_not (pt_val (k_c G_Lvalues_told hr (by decide) tk (pa_cons (pv 6) (pa_cons (pe_callB (call_min2A rfl) (by rfl) T.n_min (by decide +kernel) (pa_cons (pv 4) (pa_cons pe_int pa_nil))) (pa_cons (pe_callB (call_min2A rfl) (by rfl) T.n_min (by decide +kernel) (pa_cons (pv 3) (pa_cons pe_int pa_nil))) (pa_cons (pe_callB (call_min2A rfl) (by rfl) T.n_min (by decide +kernel) (pa_cons (pv 5) (pa_cons pe_int pa_nil))) pa_nil))))))) (pss_one (ps_ret pe_bl)) pss_nil)
    (pss_one (ps_ret (pe_callB (k_all K) (by rfl) T.n_all (by decide +kernel) (pa_cons (pe_lc (own := [("text", 7)]) rfl sc_law.nd (k_seq K (k_c G_Ldraw_texts hr (by decide) tk (pa_cons (pv 1) pa_nil))) (blkOk_by (N := ["script", "pool", "modulus", "one", "two", "three", "other", "text"]) (sc := defScope s_law) (own := [("text", 7)]) (by decide +kernel)) (fun _ _ _ _ _ => by exact (pg_name (i := 7) sc_law.nd rfl (Or.inl rfl))) (fun _ _ _ _ _ => by exact pts_nil) (fun _ _ _ _ _ => by exact (k_c G_Ltext_told hr (by decide) takes0 (pa_cons (pv 7) pa_nil)))) pa_nil))))))))))))),
    run_body (N := ["script", "pool", "modulus", "one", "two", "three", "other", "text"]) (n := 1) (f := d_law) (by decide) ?_ h⟩
  exact (s_seq (s_set (s_call (s_cons s_var s_nil) (fun _ _ _ _ h => len_cons (fun _ _ _ _ h => len_nil h) h)))
    (s_seq (s_set (s_call (s_cons s_var s_nil) (fun _ _ _ _ h => len_cons (fun _ _ _ _ h => len_nil h) h)))
    (s_seq (s_set (s_call (s_cons s_var (s_cons s_var s_nil)) (fun _ _ _ _ h => len_cons (fun _ _ _ _ h => len_cons (fun _ _ _ _ h => len_nil h) h) h)))
    (s_seq (s_set (s_call (s_cons s_var (s_cons s_var s_nil)) (fun _ _ _ _ h => len_cons (fun _ _ _ _ h => len_cons (fun _ _ _ _ h => len_nil h) h) h)))
    (s_seq (s_set (s_call (s_cons s_var (s_cons s_var s_nil)) (fun _ _ _ _ h => len_cons (fun _ _ _ _ h => len_cons (fun _ _ _ _ h => len_nil h) h) h)))
    (s_seq (s_if (s_tTest (s_op g_eq (s_call (s_cons s_var (s_cons s_int s_nil)) (fun _ _ _ _ h => len_cons (fun _ _ _ _ h => len_cons (fun _ _ _ _ h => len_nil h) h) h)) s_int)) (s_set s_var) s_next)
    (s_seq (s_if (s_not (s_tB (s_call (s_cons s_var (s_cons s_var (s_cons s_var (s_cons s_var s_nil)))) (fun _ _ _ _ h => len_cons (fun _ _ _ _ h => len_cons (fun _ _ _ _ h => len_cons (fun _ _ _ _ h => len_cons (fun _ _ _ _ h => len_nil h) h) h) h) h)))) (s_ret s_bl) s_next)
    (s_seq (s_set (s_op g_add s_int (s_op g_mod s_var s_int)))
    (s_seq (s_if (s_not (s_tB (s_call (s_cons s_var (s_cons (s_cb g_min2 (s_cons s_var (s_cons s_int s_nil))) (s_cons (s_cb g_min2 (s_cons s_var (s_cons s_int s_nil))) (s_cons (s_cb g_min2 (s_cons s_var (s_cons s_int s_nil))) s_nil)))) (fun _ _ _ _ h => len_cons (fun _ _ _ _ h => len_cons (fun _ _ _ _ h => len_cons (fun _ _ _ _ h => len_cons (fun _ _ _ _ h => len_nil h) h) h) h) h)))) (s_ret s_bl) s_next)
    (s_ret (s_tmp (s_cb g_all (s_cons (s_lc (s_iter (s_call (s_cons s_var s_nil) (fun _ _ _ _ h => len_cons (fun _ _ _ _ h => len_nil h) h))) s_gnm (by decide) s_yes (s_call (s_cons s_var s_nil) (fun _ _ _ _ h => len_cons (fun _ _ _ _ h => len_nil h) h))) s_nil)))))))))))))
end
def fn : List He.DefD := [⟨("value_of", none), "value_of", "value_of", defArgs s_value_of, defBody s_value_of, defScope s_value_of, [], []⟩, ⟨("is_word", none), "is_word", "is_word", defArgs s_is_word, defBody s_is_word, defScope s_is_word, [], []⟩, ⟨("is_identifier", none), "is_identifier", "is_identifier", defArgs s_is_identifier, defBody s_is_identifier, defScope s_is_identifier, [], []⟩, ⟨("operand_count", none), "operand_count", "operand_count", defArgs s_operand_count, defBody s_operand_count, defScope s_operand_count, [], []⟩, ⟨("makes_value", none), "makes_value", "makes_value", defArgs s_makes_value, defBody s_makes_value, defScope s_makes_value, [], []⟩, ⟨("_law_pool", none), "_law_pool", "_law_pool", defArgs s_Lpool, defBody s_Lpool, defScope s_Lpool, [], []⟩, ⟨("_law_pick", none), "_law_pick", "_law_pick", defArgs s_Lpick, defBody s_Lpick, defScope s_Lpick, [], []⟩, ⟨("_law_draw_modulus", none), "_law_draw_modulus", "_law_draw_modulus", defArgs s_Ldraw_modulus, defBody s_Ldraw_modulus, defScope s_Ldraw_modulus, [], []⟩, ⟨("_law_draw_number", none), "_law_draw_number", "_law_draw_number", defArgs s_Ldraw_number, defBody s_Ldraw_number, defScope s_Ldraw_number, [], []⟩, ⟨("_law_is_integer", none), "_law_is_integer", "_law_is_integer", defArgs s_Lis_integer, defBody s_Lis_integer, defScope s_Lis_integer, [], []⟩, ⟨("_law_is_truth", none), "_law_is_truth", "_law_is_truth", defArgs s_Lis_truth, defBody s_Lis_truth, defScope s_Lis_truth, [], []⟩, ⟨("_law_value", none), "_law_value", "_law_value", defArgs s_Lvalue, defBody s_Lvalue, defScope s_Lvalue, [], []⟩, ⟨("_law_value_told", none), "_law_value_told", "_law_value_told", defArgs s_Lvalue_told, defBody s_Lvalue_told, defScope s_Lvalue_told, [], []⟩, ⟨("_law_values_told", none), "_law_values_told", "_law_values_told", defArgs s_Lvalues_told, defBody s_Lvalues_told, defScope s_Lvalues_told, [], []⟩, ⟨("_law_all_signs", none), "_law_all_signs", "_law_all_signs", defArgs s_Lall_signs, defBody s_Lall_signs, defScope s_Lall_signs, [], []⟩, ⟨("_law_letters", none), "_law_letters", "_law_letters", defArgs s_Lletters, defBody s_Lletters, defScope s_Lletters, [], []⟩, ⟨("_law_both", none), "_law_both", "_law_both", defArgs s_Lboth, defBody s_Lboth, defScope s_Lboth, [], []⟩, ⟨("_law_reserved", none), "_law_reserved", "_law_reserved", defArgs s_Lreserved, defBody s_Lreserved, defScope s_Lreserved, [], []⟩, ⟨("_law_operand_counts", none), "_law_operand_counts", "_law_operand_counts", defArgs s_Loperand_counts, defBody s_Loperand_counts, defScope s_Loperand_counts, [], []⟩, ⟨("_law_draw_text", none), "_law_draw_text", "_law_draw_text", defArgs s_Ldraw_text, defBody s_Ldraw_text, defScope s_Ldraw_text, [], []⟩, ⟨("_law_draw_word", none), "_law_draw_word", "_law_draw_word", defArgs s_Ldraw_word, defBody s_Ldraw_word, defScope s_Ldraw_word, [], []⟩, ⟨("_law_draw_texts", none), "_law_draw_texts", "_law_draw_texts", defArgs s_Ldraw_texts, defBody s_Ldraw_texts, defScope s_Ldraw_texts, [], []⟩, ⟨("_law_is_word", none), "_law_is_word", "_law_is_word", defArgs s_Lis_word, defBody s_Lis_word, defScope s_Lis_word, [], []⟩, ⟨("_law_text_told", none), "_law_text_told", "_law_text_told", defArgs s_Ltext_told, defBody s_Ltext_told, defScope s_Ltext_told, [], []⟩, ⟨("law", none), "law", "law", defArgs s_law, defBody s_law, defScope s_law, [], []⟩]
def fa : List He.Fa := [.glo "value_of", .glo "is_word", .glo "is_identifier", .glo "operand_count", .glo "makes_value", .glo "_law_pool", .glo "_law_pick", .glo "_law_draw_modulus", .glo "_law_draw_number", .glo "_law_is_integer", .glo "_law_is_truth", .glo "_law_value", .glo "_law_value_told", .glo "_law_values_told", .glo "_law_all_signs", .glo "_law_letters", .glo "_law_both", .glo "_law_reserved", .glo "_law_operand_counts", .glo "_law_draw_text", .glo "_law_draw_word", .glo "_law_draw_texts", .glo "_law_is_word", .glo "_law_text_told", .glo "law", .free "abs", .free "all", .free "bool", .free "int", .free "isinstance", .free "len", .free "list", .free "min", .free "range", .free "sum", .free "tuple"]
def ts : List He.Tab := [((fun K => He.ga K "OPERANDS"), ["move", "add", "sub", "mul", "less", "pick", "load", "store", "leave"])]
def ex (K : PySem.W.Frag) : Bool := glB K "LETTERS" c_LETTERS && (glB K "DIGITS" c_DIGITS && (glB K "LONGEST_WORD" c_LONGEST_WORD && (glB K "RESERVED" c_RESERVED && (tabB K "OPERANDS" t_OPERANDS))))
abbrev R : PySem.W.OpenRow := PySem.W.OpenLaw.row PySem.Challenge.rw_overlappedloops_k01_values_of_operations
abbrev hk : PySem.W.Hook := He.hookX 5 fa fn ts [] ex
def ob (s : PySem.W.SharedT) : He.AlX := He.obsX 5 fa fn ts [] ex (HandSHeadRun.getT s)
theorem ob_eq (s : PySem.W.SharedT) : ob s = hk.obs s.abs := He.obsX_eq (HandSHeadRun.getT_eq s)
def loose0 : List Str := ["value_of", "LETTERS", "DIGITS", "LONGEST_WORD", "RESERVED", "OPERANDS", "is_word", "is_identifier", "operand_count", "makes_value", "_law_pool", "_law_pick", "_law_draw_modulus", "_law_draw_number", "_law_is_integer", "_law_is_truth", "_law_value", "_law_value_told", "_law_values_told", "_law_all_signs", "_law_letters", "_law_both", "_law_reserved", "_law_operand_counts", "_law_draw_text", "_law_draw_word", "_law_draw_texts", "_law_is_word", "_law_text_told"]
def loose : List Str := loose0
theorem run (w : World) : HandSHeadRun.RunEq R (PySem.W.view R.prog [32]) hk ob 13200 loose w := PySem.W.byRow2 "special-get-raises" (P := fun w => HandSHeadRun.RunEq R (PySem.W.view R.prog [32]) hk ob 13200 loose w) (fun w => by
  intro os
  kernel_rfl) (fun w => by
  intro os
  kernel_rfl) w
theorem txt_of {w : World} {K : PySem.W.Frag} {h h0 : Heap} {mg : Str → Option Value} (X : K.In h) (G : h.Ns mainGlobals mg) (c : He.SaysX fa fn ts [] ex w h0 K) : ∃ fA fD, Txt w K mg fA fD ∧ fA 24 = He.ga K "law" := by
  obtain ⟨fd0, F0⟩ := c.t.d.def_ 0
  obtain ⟨fd1, F1⟩ := c.t.d.def_ 1
  obtain ⟨fd2, F2⟩ := c.t.d.def_ 2
  obtain ⟨fd3, F3⟩ := c.t.d.def_ 3
  obtain ⟨fd4, F4⟩ := c.t.d.def_ 4
  obtain ⟨fd5, F5⟩ := c.t.d.def_ 5
  obtain ⟨fd6, F6⟩ := c.t.d.def_ 6
  obtain ⟨fd7, F7⟩ := c.t.d.def_ 7
  obtain ⟨fd8, F8⟩ := c.t.d.def_ 8
  obtain ⟨fd9, F9⟩ := c.t.d.def_ 9
  obtain ⟨fd10, F10⟩ := c.t.d.def_ 10
  obtain ⟨fd11, F11⟩ := c.t.d.def_ 11
  obtain ⟨fd12, F12⟩ := c.t.d.def_ 12
  obtain ⟨fd13, F13⟩ := c.t.d.def_ 13
  obtain ⟨fd14, F14⟩ := c.t.d.def_ 14
  obtain ⟨fd15, F15⟩ := c.t.d.def_ 15
  obtain ⟨fd16, F16⟩ := c.t.d.def_ 16
  obtain ⟨fd17, F17⟩ := c.t.d.def_ 17
  obtain ⟨fd18, F18⟩ := c.t.d.def_ 18
  obtain ⟨fd19, F19⟩ := c.t.d.def_ 19
  obtain ⟨fd20, F20⟩ := c.t.d.def_ 20
  obtain ⟨fd21, F21⟩ := c.t.d.def_ 21
  obtain ⟨fd22, F22⟩ := c.t.d.def_ 22
  obtain ⟨fd23, F23⟩ := c.t.d.def_ 23
  obtain ⟨fd24, F24⟩ := c.t.d.def_ 24
  have hx := c.more
  simp only [ex, Bool.and_eq_true] at hx
  refine ⟨fun i => He.ga K (["value_of", "is_word", "is_identifier", "operand_count", "makes_value", "_law_pool", "_law_pick", "_law_draw_modulus", "_law_draw_number", "_law_is_integer", "_law_is_truth", "_law_value", "_law_value_told", "_law_values_told", "_law_all_signs", "_law_letters", "_law_both", "_law_reserved", "_law_operand_counts", "_law_draw_text", "_law_draw_word", "_law_draw_texts", "_law_is_word", "_law_text_told", "law"].getD i ""), fun i => [fd0, fd1, fd2, fd3, fd4, fd5, fd6, fd7, fd8, fd9, fd10, fd11, fd12, fd13, fd14, fd15, fd16, fd17, fd18, fd19, fd20, fd21, fd22, fd23, fd24].getD i fd0, ?_, rfl⟩
  exact ⟨fun_of F0,
    He.glo_ok X G (c.t.d.fact 0 (f := .glo "value_of") rfl),
    fun_of F1,
    He.glo_ok X G (c.t.d.fact 1 (f := .glo "is_word") rfl),
    fun_of F2,
    He.glo_ok X G (c.t.d.fact 2 (f := .glo "is_identifier") rfl),
    fun_of F3,
    He.glo_ok X G (c.t.d.fact 3 (f := .glo "operand_count") rfl),
    fun_of F4,
    He.glo_ok X G (c.t.d.fact 4 (f := .glo "makes_value") rfl),
    fun_of F5,
    He.glo_ok X G (c.t.d.fact 5 (f := .glo "_law_pool") rfl),
    fun_of F6,
    He.glo_ok X G (c.t.d.fact 6 (f := .glo "_law_pick") rfl),
    fun_of F7,
    He.glo_ok X G (c.t.d.fact 7 (f := .glo "_law_draw_modulus") rfl),
    fun_of F8,
    He.glo_ok X G (c.t.d.fact 8 (f := .glo "_law_draw_number") rfl),
    fun_of F9,
    He.glo_ok X G (c.t.d.fact 9 (f := .glo "_law_is_integer") rfl),
    fun_of F10,
    He.glo_ok X G (c.t.d.fact 10 (f := .glo "_law_is_truth") rfl),
    fun_of F11,
    He.glo_ok X G (c.t.d.fact 11 (f := .glo "_law_value") rfl),
    fun_of F12,
    He.glo_ok X G (c.t.d.fact 12 (f := .glo "_law_value_told") rfl),
    fun_of F13,
    He.glo_ok X G (c.t.d.fact 13 (f := .glo "_law_values_told") rfl),
    fun_of F14,
    He.glo_ok X G (c.t.d.fact 14 (f := .glo "_law_all_signs") rfl),
    fun_of F15,
    He.glo_ok X G (c.t.d.fact 15 (f := .glo "_law_letters") rfl),
    fun_of F16,
    He.glo_ok X G (c.t.d.fact 16 (f := .glo "_law_both") rfl),
    fun_of F17,
    He.glo_ok X G (c.t.d.fact 17 (f := .glo "_law_reserved") rfl),
    fun_of F18,
    He.glo_ok X G (c.t.d.fact 18 (f := .glo "_law_operand_counts") rfl),
    fun_of F19,
    He.glo_ok X G (c.t.d.fact 19 (f := .glo "_law_draw_text") rfl),
    fun_of F20,
    He.glo_ok X G (c.t.d.fact 20 (f := .glo "_law_draw_word") rfl),
    fun_of F21,
    He.glo_ok X G (c.t.d.fact 21 (f := .glo "_law_draw_texts") rfl),
    fun_of F22,
    He.glo_ok X G (c.t.d.fact 22 (f := .glo "_law_is_word") rfl),
    fun_of F23,
    He.glo_ok X G (c.t.d.fact 23 (f := .glo "_law_text_told") rfl),
    fun_of F24,
    He.glo_ok X G (c.t.d.fact 24 (f := .glo "law") rfl),
    He.free_ok X G (c.t.d.fact 25 (f := .free "abs") rfl),
    He.free_ok X G (c.t.d.fact 26 (f := .free "all") rfl),
    He.free_ok X G (c.t.d.fact 27 (f := .free "bool") rfl),
    He.free_ok X G (c.t.d.fact 28 (f := .free "int") rfl),
    He.free_ok X G (c.t.d.fact 29 (f := .free "isinstance") rfl),
    He.free_ok X G (c.t.d.fact 30 (f := .free "len") rfl),
    He.free_ok X G (c.t.d.fact 31 (f := .free "list") rfl),
    He.free_ok X G (c.t.d.fact 32 (f := .free "min") rfl),
    He.free_ok X G (c.t.d.fact 33 (f := .free "range") rfl),
    He.free_ok X G (c.t.d.fact 34 (f := .free "sum") rfl),
    He.free_ok X G (c.t.d.fact 35 (f := .free "tuple") rfl),
    glB_ok X G hx.1,
    glB_ok X G hx.2.1,
    glB_ok X G hx.2.2.1,
    glB_ok X G hx.2.2.2.1,
    tabB_ok X G hx.2.2.2.2 (c.t.tab 0 (t := ((fun K => He.ga K "OPERANDS"), ["move", "add", "sub", "mul", "less", "pick", "load", "store", "leave"])) rfl)⟩
end K01
open PySem PySem.W PySem.Calls PyProof.Rows
set_option maxHeartbeats 0 in
theorem K01.holds (hv : ∀ ns : List Int, ns.length ≤ 63 → ∃ M, K01.m_law [Dn.scriptD ns] [] = .ok (.val (.bl true)) M) : PySem.Challenge.rw_overlappedloops_k01_values_of_operations.Holds := by
  w_on; o_law
  refine HandSHeadRun.head_any (r := OpenLaw.row PySem.Challenge.rw_overlappedloops_k01_values_of_operations) (q := view (OpenLaw.row PySem.Challenge.rw_overlappedloops_k01_values_of_operations).prog [32]) (H := K01.hk) (ob := K01.ob) (M := 13200) (loose := K01.loose) (d := HandSHeadRun.topDef (OpenLaw.row PySem.Challenge.rw_overlappedloops_k01_values_of_operations).prog 32) (kwd := []) K01.ob_eq
    (by kernel_rfl) (fun s => by kernel_rfl) K01.run (by kernel_rfl) (by kernel_rfl) (by kernel_rfl) (by rfl) (by first | assumption | decide +kernel) (by decide +kernel) ⟨rfl, rfl, rfl, rfl, rfl, by decide +kernel⟩ ?hw ?hc
  case hw => w_witness2
  case hc =>
    refine L2.walk_ofE (l := PySem.Challenge.rw_overlappedloops_k01_values_of_operations) (n := 63) (k := 5) (x := "script") (CX := Dn.CXA (PySem.Challenge.rw_overlappedloops_k01_values_of_operations).prog) rfl (by decide) (by kernel_rfl) ⟨rfl, by decide, by decide⟩ ?F (fun _ _ _ _ z => Dn.cxa_none z)
    intro w mg fa h Y G hmg0
    obtain ⟨K, KX, c⟩ := Y
    have hmg : mg ("law" : PySem.Str) = some (.ref fa) := by
      have e : (HandSHeadRun.topDef (OpenLaw.row PySem.Challenge.rw_overlappedloops_k01_values_of_operations).prog 32).name = ("law" : PySem.Str) := by kernel_rfl
      rw [← e]
      exact hmg0
    obtain ⟨fA, fD, T, e⟩ := K01.txt_of KX G c
    have e2 := hmg.symm.trans T.g_law
    cases e2
    refine ⟨K, fD 24, Dn.SpD K 1 K01.m_law, KX, ?_, fun H a ns hl _ hS => Dn.law_sp hv hl hS, fun base hb hB => Dn.FnOk.anyw ((K01.ok_law T).ok)⟩
    intro s u
    obtain ⟨oc, od, kV, doc, pm, an, cdv, ct, osl, e3, _, _⟩ := T.F_law.ex
    rw [e3]
    exact .of_eq rfl
end
theorem PySem.Challenge.cw_overlappedloops_k01_values_of_operations_holds : PySem.Challenge.rw_overlappedloops_k01_values_of_operations.Holds := by
  exact K01.holds K01.law_ok
