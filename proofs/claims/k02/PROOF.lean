import PyProof.Rows.All
import Wide.All
import OpenK.AllK
import Wide.FinOn
import HandS.ForMost
import HandS.Evl
import HandS.Exc
import HandS.WordsExc
import HandS.Defaults
import HandS.CallSlots
import HandS.IsInst
import HandS.Deep
import HandS.Walk
import HandS.Zip
import HandS.ExcOwn
import HandS.More
import KE.KStateDown
import Lean
import HandS.Head0
import HandS.Head1
import HandS.Head2
import HandS.HeadEnd
import HandS.HeadHook1
import HandS.HeadHook2
import HandS.HeadWalk
import HandS.Style
import PySem.Challenge.RW_likeglue_k02_names_rules_and_words
set_option Elab.async false
set_option linter.all false
set_option maxRecDepth 100000
set_option maxHeartbeats 4000000
/-! MPA: data by value, worlds, states, what an expression of the mini interpreter means. -/
namespace MP
open PySem L2 Evl

/-- data by value; cell n: the n-th mutable thing -/
inductive D where
  | non | bl (b : Bool) | int (i : Int) | str (x : Str)
  | tup (ds : List D) | lst (ds : List D)
  | dk (kvs : List (Key × D)) | dt (kvs : List (List Key × D))
  | ins (c : Nat) (fs : List (Str × D))
  | cell (n : Nat)
  | scr (ns : List Int)
  deriving Inhabited

/-- what a mutable thing holds; frz d: it is d for good -/
inductive C where
  | lst (ds : List D) | dk (kvs : List (Key × D)) | dt (kvs : List (List Key × D))
  | ins (c : Nat) (fs : List (Str × D))
  | frz (d : D)
  deriving Inhabited
abbrev MS := List C
abbrev Env := List (Option D)
/-- a raised exception: its class's number, its fields -/
structure Xd where
  cls : Nat
  fs : List (Str × D)
inductive R (α : Type) where
  | ok (a : α) (M : MS)
  | exc (x : Xd) (M : MS)
  | stuck
@[reducible] def R.bind {α β : Type} (r : R α) (f : α → MS → R β) : R β := match r with
  | .ok a M => f a M
  | .exc x M => .exc x M
  | .stuck => .stuck
/-- the program's defs, called with all their arguments -/
abbrev CF := Nat → List D → MS → R D
abbrev Sm := CF → Env → MS → R D
abbrev Smt := CF → Env → MS → R Bool
abbrev Sms := CF → Env → MS → R (List D)

/-- the module's facts -/
structure Gm where
  P : Program
  w : World
  K : PySem.W.Frag
  mg : Str → Option Value
  base : Heap
  cad : Nat → Addr
  fad : Nat → Addr
  fdd : Nat → FuncData
  par : Nat → List Str

structure Wd where
  G : Hp
  io : List Addr
structure Wd.le (w w' : Wd) : Prop where
  G : Ex w.G w'.G
  io : ∀ (n : Nat) (a : Addr), w.io[n]? = some a → w'.io[n]? = some a
theorem Wd.le.refl (w : Wd) : w.le w := ⟨Ex.refl _, fun _ _ h => h⟩
theorem Wd.le.trans {a b c : Wd} (h : a.le b) (k : b.le c) : a.le c := ⟨h.G.trans k.G, fun n x e => k.io n x (h.io n x e)⟩

mutual
inductive Rep (g : Gm) (w : Wd) : V → D → Prop
  | non : Rep g w .non .non
  | bl (b : Bool) : Rep g w (.bl b) (.bl b)
  | int (i : Int) : Rep g w (.int i) (.int i)
  | str (x : Str) : Rep g w (.str x) (.str x)
  | tup {a : Addr} {vs : List V} {ds : List D} : SqT g.K w.G a vs → Reps g w vs ds → Rep g w (.ref a) (.tup ds)
  | lst {a : Addr} {vs : List V} {ds : List D} : w.G a = some (.lst vs) → Reps g w vs ds → Rep g w (.ref a) (.lst ds)
  | scr {a : Addr} {ns : List Int} : SqL g.K w.G a (ns.map V.int) → Rep g w (.ref a) (.scr ns)
  | dk {a : Addr} {kvs : List (Key × V)} {ds : List (Key × D)} : w.G a = some (.dK kvs) → kvs.map (·.1) = ds.map (·.1) → Reps g w (kvs.map (·.2)) (ds.map (·.2)) → Rep g w (.ref a) (.dk ds)
  | dt {a : Addr} {kvs : List (List Key × V)} {ds : List (List Key × D)} : w.G a = some (.dT kvs) → kvs.map (·.1) = ds.map (·.1) → Reps g w (kvs.map (·.2)) (ds.map (·.2)) → Rep g w (.ref a) (.dt ds)
  | ins {a dx : Addr} {c : Nat} {fs : List (Str × V)} {ds : List (Str × D)} : w.G a = some (.ins (g.cad c) dx fs) → fs.map (·.1) = ds.map (·.1) → Reps g w (fs.map (·.2)) (ds.map (·.2)) → Rep g w (.ref a) (.ins c ds)
  | cell {n : Nat} {a : Addr} : w.io[n]? = some a → Rep g w (.ref a) (.cell n)
inductive Reps (g : Gm) (w : Wd) : List V → List D → Prop
  | nil : Reps g w [] []
  | cons {v : V} {vs : List V} {d : D} {ds : List D} : Rep g w v d → Reps g w vs ds → Reps g w (v :: vs) (d :: ds)
end
section
variable {g : Gm} {w w' : Wd}
mutual
theorem Rep.mono (l : w.le w') : ∀ {v : V} {d : D}, Rep g w v d → Rep g w' v d
  | _, _, .non => .non
  | _, _, .bl b => .bl b
  | _, _, .int i => .int i
  | _, _, .str x => .str x
  | _, _, .tup h r => .tup (ex_t l.G h) (Reps.mono l r)
  | _, _, .lst h r => .lst (l.G _ _ h) (Reps.mono l r)
  | _, _, .scr h => .scr (ex_l l.G h)
  | _, _, .dk h e r => .dk (l.G _ _ h) e (Reps.mono l r)
  | _, _, .dt h e r => .dt (l.G _ _ h) e (Reps.mono l r)
  | _, _, .ins h e r => .ins (l.G _ _ h) e (Reps.mono l r)
  | _, _, .cell h => .cell (l.io _ _ h)
theorem Reps.mono (l : w.le w') : ∀ {vs : List V} {ds : List D}, Reps g w vs ds → Reps g w' vs ds
  | _, _, .nil => .nil
  | _, _, .cons h r => .cons (Rep.mono l h) (Reps.mono l r)
end
theorem Reps.length : ∀ {vs : List V} {ds : List D}, Reps g w vs ds → vs.length = ds.length
  | _, _, .nil => rfl
  | _, _, .cons _ r => congrArg (· + 1) r.length
theorem Reps.append : ∀ {vs us : List V} {ds es : List D}, Reps g w vs ds → Reps g w us es → Reps g w (vs ++ us) (ds ++ es)
  | _, _, _, _, .nil, k => k
  | _, _, _, _, .cons h r, k => .cons h (r.append k)
theorem Reps.get : ∀ {vs : List V} {ds : List D} {i : Nat} {d : D}, Reps g w vs ds → ds[i]? = some d → ∃ v, vs[i]? = some v ∧ Rep g w v d
  | _, _, _, _, .nil, e => by simp at e
  | _, _, 0, _, .cons h _, e => by
    have e' := Option.some.inj (show some _ = some _ from e)
    subst e'
    exact ⟨_, rfl, h⟩
  | _, _, i + 1, _, .cons _ r, e => r.get (i := i) (by simpa using e)
theorem Reps.getV : ∀ {vs : List V} {ds : List D} {i : Nat} {v : V}, Reps g w vs ds → vs[i]? = some v → ∃ d, ds[i]? = some d ∧ Rep g w v d
  | _, _, _, _, .nil, e => by simp at e
  | _, _, 0, _, .cons h _, e => by
    have e' := Option.some.inj (show some _ = some _ from e)
    subst e'
    exact ⟨_, rfl, h⟩
  | _, _, i + 1, _, .cons _ r, e => r.getV (i := i) (by simpa using e)
theorem Reps.set : ∀ {vs : List V} {ds : List D} {v : V} {d : D} (i : Nat), Reps g w vs ds → Rep g w v d → Reps g w (vs.set i v) (ds.set i d)
  | _, _, _, _, _, .nil, _ => .nil
  | _, _, _, _, 0, .cons _ r, k => .cons k r
  | _, _, _, _, i + 1, .cons h r, k => .cons h (r.set i k)
theorem Reps.drop : ∀ {vs : List V} {ds : List D} (n : Nat), Reps g w vs ds → Reps g w (vs.drop n) (ds.drop n)
  | _, _, 0, r => r
  | _, _, _ + 1, .nil => .nil
  | _, _, n + 1, .cons _ r => r.drop n
theorem Reps.take : ∀ {vs : List V} {ds : List D} (n : Nat), Reps g w vs ds → Reps g w (vs.take n) (ds.take n)
  | _, _, 0, _ => .nil
  | _, _, _ + 1, .nil => .nil
  | _, _, n + 1, .cons h r => .cons h (r.take n)

/-- the cell at a holds c -/
def CellOk (g : Gm) (w : Wd) (F H : Hp) (a : Addr) : C → Prop
  | .lst ds => w.G a = none ∧ F a = none ∧ ∃ vs, H a = some (.lst vs) ∧ Reps g w vs ds
  | .dk ds => w.G a = none ∧ F a = none ∧ ∃ kvs, H a = some (.dK kvs) ∧ kvs.map (·.1) = ds.map (·.1) ∧ Reps g w (kvs.map (·.2)) (ds.map (·.2))
  | .dt ds => w.G a = none ∧ F a = none ∧ ∃ kvs, H a = some (.dT kvs) ∧ kvs.map (·.1) = ds.map (·.1) ∧ Reps g w (kvs.map (·.2)) (ds.map (·.2))
  | .ins c ds => w.G a = none ∧ F a = none ∧ ∃ dx fs, H a = some (.ins (g.cad c) dx fs) ∧ fs.map (·.1) = ds.map (·.1) ∧ Reps g w (fs.map (·.2)) (ds.map (·.2))
  | .frz d => (w.G a).isSome = true ∧ Rep g w (.ref a) d
/-- the world w, the frame F that stays, the cells M: over the heap H -/
structure Sta (g : Gm) (w : Wd) (F : Hp) (M : MS) (H : Hp) : Prop where
  ext : Ex w.G H
  frm : Ex F H
  len : M.length = w.io.length
  cel : ∀ (n : Nat) (a : Addr) (c : C), w.io[n]? = some a → M[n]? = some c → CellOk g w F H a c
  inj : ∀ (n m : Nat) (a : Addr), w.io[n]? = some a → w.io[m]? = some a → n = m
  sep : ∀ (a : Addr) (o : HO), F a = some o → w.G a = none
/-- the slots -/
structure Slo (g : Gm) (w : Wd) (σ : L2.St) (ds : Env) : Prop where
  len : σ.length = ds.length
  at_ : ∀ (i : Nat) (d : D), ds[i]? = some (some d) → ∃ v, σ[i]? = some (some v) ∧ Rep g w v d
theorem Slo.mono (l : w.le w') {σ : L2.St} {ds : Env} (s : Slo g w σ ds) : Slo g w' σ ds :=
  ⟨s.len, fun i d e => let ⟨v, h, r⟩ := s.at_ i d e; ⟨v, h, r.mono l⟩⟩
theorem Slo.set {σ : L2.St} {ds : Env} {v : V} {d : D} (s : Slo g w σ ds) (i : Nat) (r : Rep g w v d) : Slo g w (σ.set i (some v)) (ds.set i (some d)) := by
  refine ⟨by rw [List.length_set, List.length_set, s.len], fun j e h => ?_⟩
  by_cases hj : i = j
  · subst hj
    by_cases hl : i < ds.length
    · rw [List.getElem?_set_self hl] at h
      obtain rfl := Option.some.inj (Option.some.inj h)
      exact ⟨v, List.getElem?_set_self (by rw [s.len]; exact hl), r⟩
    · rw [List.getElem?_eq_none (by simpa using hl)] at h
      cases h
  · rw [List.getElem?_set_ne hj] at h
    obtain ⟨u, h1, h2⟩ := s.at_ j e h
    exact ⟨u, by rw [List.getElem?_set_ne hj]; exact h1, h2⟩
theorem Slo.setNone {σ : L2.St} {ds : Env} (s : Slo g w σ ds) (i : Nat) (o : Option V) : Slo g w (σ.set i o) (ds.set i none) := by
  refine ⟨by rw [List.length_set, List.length_set, s.len], fun j e h => ?_⟩
  by_cases hj : i = j
  · subst hj
    by_cases hl : i < ds.length
    · rw [List.getElem?_set_self hl] at h
      cases Option.some.inj h
    · rw [List.getElem?_eq_none (by simpa using hl)] at h
      cases h
  · rw [List.getElem?_set_ne hj] at h
    obtain ⟨u, h1, h2⟩ := s.at_ j e h
    exact ⟨u, by rw [List.getElem?_set_ne hj]; exact h1, h2⟩

/-- no cell stands at a free place -/
theorem Sta.noCell {F H : Hp} {M : MS} {p : Addr} (s : Sta g w F M H) (hp : H p = none) : ∀ n : Nat, w.io[n]? ≠ some p := fun n e => by
  have hl : n < M.length := by rw [s.len]; exact (List.getElem?_eq_some_iff.mp e).1
  have h := s.cel n p _ e (List.getElem?_eq_getElem hl)
  cases hc : M[n] with
  | lst ds => rw [hc] at h; obtain ⟨_, _, _, e, _⟩ := h; rw [hp] at e; cases e
  | dk ds => rw [hc] at h; obtain ⟨_, _, _, e, _⟩ := h; rw [hp] at e; cases e
  | dt ds => rw [hc] at h; obtain ⟨_, _, _, e, _⟩ := h; rw [hp] at e; cases e
  | ins c ds => rw [hc] at h; obtain ⟨_, _, _, _, e, _⟩ := h; rw [hp] at e; cases e
  | frz d =>
    rw [hc] at h
    obtain ⟨h1, _⟩ := h
    cases e2 : w.G p with
    | none => rw [e2] at h1; cases h1
    | some o =>
      rw [s.ext _ _ e2] at hp
      cases hp
theorem CellOk.mono {F H H' : Hp} {a : Addr} {c : C} (l : w.le w') (hG : w.G a = none → w'.G a = none) (hH : H' a = H a) (h : CellOk g w F H a c) : CellOk g w' F H' a c := by
  cases c with
  | lst ds => obtain ⟨h1, h2, vs, e, r⟩ := h; exact ⟨hG h1, h2, vs, by rw [hH]; exact e, r.mono l⟩
  | dk ds => obtain ⟨h1, h2, vs, e, k, r⟩ := h; exact ⟨hG h1, h2, vs, by rw [hH]; exact e, k, r.mono l⟩
  | dt ds => obtain ⟨h1, h2, vs, e, k, r⟩ := h; exact ⟨hG h1, h2, vs, by rw [hH]; exact e, k, r.mono l⟩
  | ins c ds => obtain ⟨h1, h2, dx, vs, e, k, r⟩ := h; exact ⟨hG h1, h2, dx, vs, by rw [hH]; exact e, k, r.mono l⟩
  | frz d =>
    obtain ⟨h1, r⟩ := h
    refine ⟨?_, r.mono l⟩
    cases e : w.G a with
    | none => rw [e] at h1; cases h1
    | some o => rw [l.G _ _ e]; rfl
def Wd.addG (w : Wd) (p : Addr) (o : HO) : Wd := ⟨upd w.G p o, w.io⟩
def Wd.addI (w : Wd) (p : Addr) : Wd := ⟨w.G, w.io ++ [p]⟩
theorem Wd.le_addG {p : Addr} {o : HO} (h : w.G p = none) : w.le (w.addG p o) := ⟨Ex.new h, fun _ _ e => e⟩
theorem get_app {l : List Addr} {x a : Addr} {n : Nat} (e : l[n]? = some a) : (l ++ [x])[n]? = some a := by
  rw [List.getElem?_append_left (List.getElem?_eq_some_iff.mp e).1]; exact e
theorem Wd.le_addI {p : Addr} : w.le (w.addI p) := ⟨Ex.refl _, fun _ _ e => get_app e⟩
theorem Sta.freeG {F H : Hp} {M : MS} {p : Addr} (s : Sta g w F M H) (hp : H p = none) : w.G p = none := fresh_back s.ext hp
theorem Sta.freeF {F H : Hp} {M : MS} {p : Addr} (s : Sta g w F M H) (hp : H p = none) : F p = none := fresh_back s.frm hp
/-- a new thing, for good -/
theorem Sta.newG {F H : Hp} {M : MS} {p : Addr} {o : HO} (s : Sta g w F M H) (hp : H p = none) : Sta g (w.addG p o) F M (upd H p o) where
  ext := fun a u e => by
    by_cases ha : a = p
    · subst ha
      have e' : upd w.G a o a = some u := e
      rw [upd_same] at e' ⊢
      exact e'
    · have e' : upd w.G p o a = some u := e
      rw [upd_ne ha] at e' ⊢
      exact s.ext a u e'
  frm := s.frm.trans (Ex.new hp)
  len := s.len
  cel := fun n a c e1 e2 => by
    have ha : a ≠ p := fun z => s.noCell hp n (z ▸ e1)
    exact (s.cel n a c e1 e2).mono (Wd.le_addG (s.freeG hp)) (fun q => (upd_ne ha).trans q) (upd_ne ha)
  inj := s.inj
  sep := fun a u e => (upd_ne (fun z => by rw [z, s.freeF hp] at e; cases e)).trans (s.sep a u e)
/-- a new cell -/
theorem Sta.newI {F H : Hp} {M : MS} {p : Addr} {o : HO} {c : C} (s : Sta g w F M H) (hp : H p = none) (hc : CellOk g (w.addI p) F (upd H p o) p c) : Sta g (w.addI p) F (M ++ [c]) (upd H p o) where
  ext := s.ext.trans (Ex.new hp)
  frm := s.frm.trans (Ex.new hp)
  len := by rw [List.length_append, s.len]; show _ = (w.io ++ [p]).length; rw [List.length_append]; rfl
  cel := fun n a c' e1 e2 => by
    by_cases hn : n < w.io.length
    · have e1' : w.io[n]? = some a := by
        have q : (w.io ++ [p])[n]? = some a := e1
        rwa [List.getElem?_append_left hn] at q
      rw [List.getElem?_append_left (by rw [s.len]; exact hn)] at e2
      have ha : a ≠ p := fun z => s.noCell hp n (z ▸ e1')
      exact (s.cel n a c' e1' e2).mono Wd.le_addI (fun q => q) (upd_ne ha)
    · have q : (w.io ++ [p])[n]? = some a := e1
      have hn2 : n = w.io.length := by
        have := (List.getElem?_eq_some_iff.mp q).1
        rw [List.length_append] at this
        simp at this
        omega
      subst hn2
      rw [List.getElem?_append_right (Nat.le_refl _), Nat.sub_self] at q
      have qa : p = a := Option.some.inj q
      subst qa
      rw [← s.len, List.getElem?_append_right (Nat.le_refl _), Nat.sub_self] at e2
      have qc : c = c' := Option.some.inj e2
      subst qc
      exact hc
  inj := fun n m a e1 e2 => by
    have q1 : (w.io ++ [p])[n]? = some a := e1
    have q2 : (w.io ++ [p])[m]? = some a := e2
    have l1 := (List.getElem?_eq_some_iff.mp q1).1
    have l2 := (List.getElem?_eq_some_iff.mp q2).1
    rw [List.length_append] at l1 l2
    simp at l1 l2
    by_cases hn : n < w.io.length
    · rw [List.getElem?_append_left hn] at q1
      by_cases hm : m < w.io.length
      · rw [List.getElem?_append_left hm] at q2
        exact s.inj n m a q1 q2
      · rw [List.getElem?_append_right (by omega), show m - w.io.length = 0 by omega] at q2
        have qa : p = a := Option.some.inj q2
        subst qa
        exact absurd q1 (s.noCell hp n)
    · by_cases hm : m < w.io.length
      · rw [List.getElem?_append_left hm] at q2
        rw [List.getElem?_append_right (by omega), show n - w.io.length = 0 by omega] at q1
        have qa : p = a := Option.some.inj q1
        subst qa
        exact absurd q2 (s.noCell hp m)
      · omega
  sep := s.sep
/-- a cell is changed -/
theorem Sta.chg {F H : Hp} {M : MS} {n : Nat} {p : Addr} {o : HO} {c' : C} (s : Sta g w F M H) (hn : w.io[n]? = some p) (hG : w.G p = none) (hF : F p = none) (hc : CellOk g w F (upd H p o) p c') : Sta g w F (M.set n c') (upd H p o) where
  ext := s.ext.mut hG
  frm := s.frm.mut hF
  len := by rw [List.length_set]; exact s.len
  cel := fun m a d e1 e2 => by
    by_cases hm : n = m
    · subst hm
      rw [hn] at e1
      cases e1
      rw [List.getElem?_set_self (by rw [s.len]; exact (List.getElem?_eq_some_iff.mp hn).1)] at e2
      cases e2
      exact hc
    · rw [List.getElem?_set_ne hm] at e2
      have ha : a ≠ p := fun z => hm (s.inj n m p hn (z ▸ e1))
      exact (s.cel m a d e1 e2).mono (Wd.le.refl _) (fun q => q) (upd_ne ha)
  inj := s.inj
  sep := s.sep
/-- no cell stands in the frame -/
theorem Sta.notF {F H : Hp} {M : MS} {n : Nat} {a : Addr} {o : HO} (s : Sta g w F M H) (hn : w.io[n]? = some a) : F a ≠ some o := fun e => by
  have hl : n < M.length := by rw [s.len]; exact (List.getElem?_eq_some_iff.mp hn).1
  have h := s.cel n a _ hn (List.getElem?_eq_getElem hl)
  cases hc : M[n] with
  | frz d => rw [hc] at h; obtain ⟨h1, _⟩ := h; rw [s.sep a o e] at h1; cases h1
  | lst ds => rw [hc] at h; rw [h.2.1] at e; cases e
  | dk ds => rw [hc] at h; rw [h.2.1] at e; cases e
  | dt ds => rw [hc] at h; rw [h.2.1] at e; cases e
  | ins c ds => rw [hc] at h; rw [h.2.1] at e; cases e
theorem CellOk.frame {F F' H H' : Hp} {a : Addr} {c : C} (l : w.le w') (hG : w.G a = none → w'.G a = none) (hF : F a = none → F' a = none) (hH : H' a = H a) (h : CellOk g w F H a c) : CellOk g w' F' H' a c := by
  have h2 := h.mono l hG hH
  cases c with
  | lst ds => exact ⟨h2.1, hF h2.2.1, h2.2.2⟩
  | dk ds => exact ⟨h2.1, hF h2.2.1, h2.2.2⟩
  | dt ds => exact ⟨h2.1, hF h2.2.1, h2.2.2⟩
  | ins c ds => exact ⟨h2.1, hF h2.2.1, h2.2.2⟩
  | frz d => exact h2
/-- a new thing of the frame -/
theorem Sta.newF {F H : Hp} {M : MS} {p : Addr} {o : HO} (s : Sta g w F M H) (hp : H p = none) : Sta g w (upd F p o) M (upd H p o) where
  ext := s.ext.trans (Ex.new hp)
  frm := fun a u e => by
    by_cases ha : a = p
    · subst ha
      rw [upd_same] at e ⊢
      exact e
    · rw [upd_ne ha] at e ⊢
      exact s.frm a u e
  len := s.len
  cel := fun n a c e1 e2 => by
    have ha : a ≠ p := fun z => s.noCell hp n (z ▸ e1)
    exact (s.cel n a c e1 e2).frame (.refl _) (fun q => q) (fun q => (upd_ne ha).trans q) (upd_ne ha)
  inj := s.inj
  sep := fun a u e => by
    by_cases ha : a = p
    · subst ha; exact s.freeG hp
    · rw [upd_ne ha] at e; exact s.sep a u e
/-- the frame's thing is changed -/
theorem Sta.setF {F H : Hp} {M : MS} {p : Addr} {o o' : HO} (s : Sta g w (upd F p o) M H) : Sta g w (upd F p o') M (upd H p o') where
  ext := s.ext.mut (s.sep p o upd_same)
  frm := fun a u e => by
    by_cases ha : a = p
    · subst ha
      rw [upd_same] at e ⊢
      exact e
    · rw [upd_ne ha] at e ⊢
      exact s.frm a u (by rw [upd_ne ha]; exact e)
  len := s.len
  cel := fun n a c e1 e2 => by
    have ha : a ≠ p := fun z => s.notF e1 (show upd F p o a = some o by rw [z]; exact upd_same)
    exact (s.cel n a c e1 e2).frame (.refl _) (fun q => q) (fun q => by rw [upd_ne ha] at q ⊢; exact q) (upd_ne ha)
  inj := s.inj
  sep := fun a u e => by
    by_cases ha : a = p
    · subst ha; exact s.sep a o upd_same
    · rw [upd_ne ha] at e; exact s.sep a u (by rw [upd_ne ha]; exact e)
/-- it goes out of the frame, for good -/
theorem Sta.outG {F H : Hp} {M : MS} {p : Addr} {o : HO} (s : Sta g w (upd F p o) M H) (hF : F p = none) : w.le (w.addG p o) ∧ Sta g (w.addG p o) F M H := by
  have hG := s.sep p o upd_same
  refine ⟨Wd.le_addG hG, ?_, ?_, s.len, fun n a c e1 e2 => ?_, s.inj, fun a u e => ?_⟩
  · intro a u e
    by_cases ha : a = p
    · subst ha
      have e' : upd w.G a o a = some u := e
      rw [upd_same] at e'
      cases e'
      exact s.frm a o upd_same
    · have e' : upd w.G p o a = some u := e
      rw [upd_ne ha] at e'
      exact s.ext a u e'
  · intro a u e
    have ha : a ≠ p := fun z => by rw [z, hF] at e; cases e
    exact s.frm a u (by rw [upd_ne ha]; exact e)
  · have ha : a ≠ p := fun z => s.notF e1 (show upd F p o a = some o by rw [z]; exact upd_same)
    exact (s.cel n a c e1 e2).frame (Wd.le_addG hG) (fun q => (upd_ne ha).trans q) (fun q => by rw [upd_ne ha] at q; exact q) rfl
  · have ha : a ≠ p := fun z => by rw [z, hF] at e; cases e
    exact (upd_ne ha).trans (s.sep a u (by rw [upd_ne ha]; exact e))
/-- .. as a cell -/
theorem Sta.outI {F H : Hp} {M : MS} {p : Addr} {o : HO} {c : C} (s : Sta g w (upd F p o) M H) (hF : F p = none) (hc : CellOk g (w.addI p) F H p c) : Sta g (w.addI p) F (M ++ [c]) H where
  ext := s.ext
  frm := fun a u e => by
    have ha : a ≠ p := fun z => by rw [z, hF] at e; cases e
    exact s.frm a u (by rw [upd_ne ha]; exact e)
  len := by rw [List.length_append, s.len]; show _ = (w.io ++ [p]).length; rw [List.length_append]; rfl
  cel := fun n a c' e1 e2 => by
    by_cases hn : n < w.io.length
    · have e1' : w.io[n]? = some a := by
        have q : (w.io ++ [p])[n]? = some a := e1
        rwa [List.getElem?_append_left hn] at q
      rw [List.getElem?_append_left (by rw [s.len]; exact hn)] at e2
      have ha : a ≠ p := fun z => s.notF e1' (show upd F p o a = some o by rw [z]; exact upd_same)
      exact (s.cel n a c' e1' e2).frame Wd.le_addI (fun q => q) (fun q => by rw [upd_ne ha] at q; exact q) rfl
    · have q : (w.io ++ [p])[n]? = some a := e1
      have hn2 : n = w.io.length := by
        have := (List.getElem?_eq_some_iff.mp q).1
        rw [List.length_append] at this
        simp at this
        omega
      subst hn2
      rw [List.getElem?_append_right (Nat.le_refl _), Nat.sub_self] at q
      have qa : p = a := Option.some.inj q
      subst qa
      rw [← s.len, List.getElem?_append_right (Nat.le_refl _), Nat.sub_self] at e2
      have qc : c = c' := Option.some.inj e2
      subst qc
      exact hc
  inj := fun n m a e1 e2 => by
    have nop : ∀ k : Nat, w.io[k]? ≠ some p := fun k e => s.notF e upd_same
    have q1 : (w.io ++ [p])[n]? = some a := e1
    have q2 : (w.io ++ [p])[m]? = some a := e2
    have l1 := (List.getElem?_eq_some_iff.mp q1).1
    have l2 := (List.getElem?_eq_some_iff.mp q2).1
    rw [List.length_append] at l1 l2
    simp at l1 l2
    by_cases hn : n < w.io.length
    · rw [List.getElem?_append_left hn] at q1
      by_cases hm : m < w.io.length
      · rw [List.getElem?_append_left hm] at q2
        exact s.inj n m a q1 q2
      · rw [List.getElem?_append_right (by omega), show m - w.io.length = 0 by omega] at q2
        have qa : p = a := Option.some.inj q2
        subst qa
        exact absurd q1 (nop n)
    · by_cases hm : m < w.io.length
      · rw [List.getElem?_append_left hm] at q2
        rw [List.getElem?_append_right (by omega), show n - w.io.length = 0 by omega] at q1
        have qa : p = a := Option.some.inj q1
        subst qa
        exact absurd q2 (nop m)
      · omega
  sep := fun a u e => by
    have ha : a ≠ p := fun z => by rw [z, hF] at e; cases e
    exact s.sep a u (by rw [upd_ne ha]; exact e)
/-- the object of a live cell -/
theorem Sta.at_ {F H : Hp} {M : MS} {n : Nat} {a : Addr} {c : C} (s : Sta g w F M H) (hn : w.io[n]? = some a) (hm : M[n]? = some c) : CellOk g w F H a c := s.cel n a c hn hm
theorem CellOk.freeG {F H : Hp} {a : Addr} : ∀ {c : C}, (∀ d, c ≠ .frz d) → CellOk g w F H a c → w.G a = none ∧ F a = none
  | .lst _, _, h => ⟨h.1, h.2.1⟩
  | .dk _, _, h => ⟨h.1, h.2.1⟩
  | .dt _, _, h => ⟨h.1, h.2.1⟩
  | .ins _ _, _, h => ⟨h.1, h.2.1⟩
  | .frz d, n, _ => absurd rfl (n d)
end

/-! ### what is wanted of a result -/
/-- the exception's own dict tells its fields -/
def RepX (g : Gm) (w : Wd) (cls : Value) (dx : Option Addr) (x : Xd) : Prop :=
  cls = .ref (g.cad x.cls) ∧ ∃ d fs, dx = some d ∧ w.G d = some (.xd fs) ∧ fs.map (·.1) = x.fs.map (·.1) ∧ Reps g w (fs.map (·.2)) (x.fs.map (·.2))
def Good (g : Gm) {α : Type} {β : Type} (rel : Wd → β → α → Prop) (w : Wd) (F : Hp) (r : R α) (E : XK) (Q : β → Hp → Prop) : Prop := match r with
  | .ok a M => ∀ w' b H, w.le w' → Sta g w' F M H → rel w' b a → Q b H
  | .exc x M => ∀ w' cls dx H, w.le w' → Sta g w' F M H → RepX g w' cls dx x → E cls dx H
  | .stuck => False
abbrev GoodE (g : Gm) := @Good g D V (Rep g)
abbrev GoodB (g : Gm) := @Good g Bool Bool (fun _ b a => b = a)
abbrev GoodL (g : Gm) := @Good g (List D) (List V) (Reps g)
theorem Good.mono {g : Gm} {α β : Type} {rel : Wd → β → α → Prop} {w w' : Wd} {F : Hp} {r : R α} {E : XK} {Q : β → Hp → Prop} (l : w.le w') (h : Good g rel w F r E Q) : Good g rel w' F r E Q := by
  cases r with
  | ok a M => exact fun w2 b H l2 => h w2 b H (l.trans l2)
  | exc x M => exact fun w2 c dx H l2 => h w2 c dx H (l.trans l2)
  | stuck => exact h
theorem Good.bind {g : Gm} {α β α' β' : Type} {rel : Wd → β → α → Prop} {rel' : Wd → β' → α' → Prop} {w : Wd} {F : Hp} {r : R α} {k : α → MS → R α'} {E : XK} {Q : β' → Hp → Prop} {Q1 : β → Hp → Prop}
    (h : Good g rel' w F (r.bind k) E Q) (hk : ∀ w1 a b M H, w.le w1 → Sta g w1 F M H → rel w1 b a → Good g rel' w1 F (k a M) E Q → Q1 b H) : Good g rel w F r E Q1 := by
  cases r with
  | ok a M => exact fun w1 b H l s rb => hk w1 a b M H l s rb (Good.mono l h)
  | exc x M => exact h
  | stuck => exact h
def TEo (g : Gm) (W : WX) (f : Env → MS → R D) : TE := fun σ H Q => ∃ w F M ds, Sta g w F M H ∧ Slo g w σ ds ∧ GoodE g w F (f ds M) (fun c dx H' => W c dx σ H') Q
def TTo (g : Gm) (W : WX) (f : Env → MS → R Bool) : TT := fun σ H Q => ∃ w F M ds, Sta g w F M H ∧ Slo g w σ ds ∧ GoodB g w F (f ds M) (fun c dx H' => W c dx σ H') Q
def TAo (g : Gm) (W : WX) (f : Env → MS → R (List D)) : TA := fun σ H Q => ∃ w F M ds, Sta g w F M H ∧ Slo g w σ ds ∧ GoodL g w F (f ds M) (fun c dx H' => W c dx σ H') Q

/-! ### contexts -/
structure Cxt where
  N : List Str
  sc : Scope
  fn : Str → Bool
/-- a def's promise: what cf says -/
def spC (g : Gm) (cf : CF) (i : Nat) : Sp := fun vs H Q E => vs.length = (g.par i).length ∧ ∃ w F M ds, Sta g w F M H ∧ Reps g w vs ds ∧ GoodE g w F (cf i ds M) E Q
structure CtxOk (g : Gm) (X : Cx) (c : Cxt) (cf : CF) : Prop where
  prog : X.prog = g.P
  w : X.w = g.w
  K : X.K = g.K
  mg : X.mg = g.mg
  base : X.base = g.base
  N : X.N = c.N
  nd : c.N.Nodup
  sc : X.env.scope = c.sc
  fn : ∀ x, c.fn x = true → X.fn x = true
  calm : X.calm = true
  fns : ∃ k, Room (k + 1) X.A ∧ ∀ i, FnOk g.P g.w g.K g.mg g.base (L2.CX g.P g.w) k (g.fad i) (g.fdd i) (g.par i) (spC g cf i)
theorem CtxOk.room {g : Gm} {X : Cx} {c : Cxt} {cf : CF} (ok : CtxOk g X c cf) : Room 1 X.A := let ⟨_, r, _⟩ := ok.fns; r.mono (by omega)
theorem CtxOk.room65 {g : Gm} {X : Cx} {c : Cxt} {cf : CF} (ok : CtxOk g X c cf) : X.A.units + 65 < cLine := by have := ok.room.un; omega
def SE (g : Gm) (c : Cxt) (e : Expr) (f : Sm) : Prop := ∀ X cf, CtxOk g X c cf → ∀ W, Takes X W → PE X e (TEo g W (f cf))
def ST (g : Gm) (c : Cxt) (e : Expr) (f : Smt) : Prop := ∀ X cf, CtxOk g X c cf → ∀ W, Takes X W → PT X e (TTo g W (f cf))
def SA (g : Gm) (c : Cxt) (es : List Expr) (f : Sms) : Prop := ∀ X cf, CtxOk g X c cf → ∀ W, Takes X W → PA X es (TAo g W (f cf))
theorem PE.imp {X : Cx} {e : Expr} {t t' : TE} (h : PE X e t) (k : ∀ σ H Q, t' σ H Q → t σ H Q) : PE X e t' := ⟨fun pins s σ H Q I q => h.run pins s σ H Q I (k σ H Q q)⟩
theorem PT.imp {X : Cx} {e : Expr} {t t' : TT} (h : PT X e t) (k : ∀ σ H Q, t' σ H Q → t σ H Q) : PT X e t' := ⟨fun pins s σ H Q I q => h.run pins s σ H Q I (k σ H Q q)⟩
theorem PA.imp {X : Cx} {e : List Expr} {t t' : TA} (h : PA X e t) (k : ∀ σ H Q, t' σ H Q → t σ H Q) : PA X e t' := ⟨fun pos pins s σ H Q I q => h.run pos pins s σ H Q I (k σ H Q q)⟩
end MP
set_option maxHeartbeats 4000000
/-! MPB: expressions of the mini interpreter: names, numbers, tests, displays, calls of builtins. -/
namespace MP
open PySem L2 Evl

abbrev big : Nat := 1000000
theorem big_le {n : Nat} (h : n ≤ big) : n ≤ sizeLine := Nat.le_trans h (by decide)
theorem big_lt {n : Nat} (h : n < big) : n < sizeLine := Nat.lt_of_lt_of_le h (by decide)

/-- a thing as it stands now -/
def lk (M : MS) : D → Option D
  | .cell n => match M[n]? with
    | some (.lst ds) => some (.lst ds)
    | some (.dk k) => some (.dk k)
    | some (.dt k) => some (.dt k)
    | some (.ins c fs) => some (.ins c fs)
    | some (.frz d) => (match d with
      | .lst ds => some (.lst ds)
      | .dk k => some (.dk k)
      | .dt k => some (.dt k)
      | .ins c fs => some (.ins c fs)
      | _ => none)
    | none => none
  | d => some d
theorem lk_tup {M : MS} {d : D} {ds : List D} (h : lk M d = some (.tup ds)) : d = .tup ds := by
  cases d with
  | cell n =>
    unfold lk at h
    dsimp only at h
    split at h <;> try cases h
    split at h <;> cases h
  | _ => cases h <;> rfl
inductive Vw (g : Gm) (w : Wd) (H : Hp) : V → D → Prop
  | non : Vw g w H .non .non
  | bl (b : Bool) : Vw g w H (.bl b) (.bl b)
  | int (i : Int) : Vw g w H (.int i) (.int i)
  | str (x : Str) : Vw g w H (.str x) (.str x)
  | tup {a : Addr} {vs : List V} {ds : List D} : SqT g.K H a vs → Reps g w vs ds → Vw g w H (.ref a) (.tup ds)
  | lst {a : Addr} {vs : List V} {ds : List D} : H a = some (.lst vs) → Reps g w vs ds → Vw g w H (.ref a) (.lst ds)
  | scr {a : Addr} {ns : List Int} : SqL g.K H a (ns.map V.int) → Vw g w H (.ref a) (.scr ns)
  | dk {a : Addr} {kvs : List (Key × V)} {ds : List (Key × D)} : H a = some (.dK kvs) → kvs.map (·.1) = ds.map (·.1) → Reps g w (kvs.map (·.2)) (ds.map (·.2)) → Vw g w H (.ref a) (.dk ds)
  | dt {a : Addr} {kvs : List (List Key × V)} {ds : List (List Key × D)} : H a = some (.dT kvs) → kvs.map (·.1) = ds.map (·.1) → Reps g w (kvs.map (·.2)) (ds.map (·.2)) → Vw g w H (.ref a) (.dt ds)
  | ins {a dx : Addr} {c : Nat} {fs : List (Str × V)} {ds : List (Str × D)} : H a = some (.ins (g.cad c) dx fs) → fs.map (·.1) = ds.map (·.1) → Reps g w (fs.map (·.2)) (ds.map (·.2)) → Vw g w H (.ref a) (.ins c ds)
section
variable {g : Gm} {w : Wd} {F H : Hp} {M : MS}
theorem Rep.vw0 (s : Sta g w F M H) : ∀ {v : V} {d : D}, (∀ n, d ≠ .cell n) → Rep g w v d → Vw g w H v d
  | _, _, _, .non => .non
  | _, _, _, .bl b => .bl b
  | _, _, _, .int i => .int i
  | _, _, _, .str x => .str x
  | _, _, _, .tup h r => .tup (ex_t s.ext h) r
  | _, _, _, .lst h r => .lst (s.ext _ _ h) r
  | _, _, _, .scr h => .scr (ex_l s.ext h)
  | _, _, _, .dk h e r => .dk (s.ext _ _ h) e r
  | _, _, _, .dt h e r => .dt (s.ext _ _ h) e r
  | _, _, _, .ins h e r => .ins (s.ext _ _ h) e r
  | _, _, n, .cell _ => (n _ rfl).elim
theorem Rep.vw (s : Sta g w F M H) {v : V} {d d' : D} (r : Rep g w v d) (h : lk M d = some d') : Vw g w H v d' := by
  cases d with
  | cell n =>
    cases r with
    | cell hn =>
      have h' : (match M[n]? with
        | some (.lst ds) => some (D.lst ds)
        | some (.dk k) => some (.dk k)
        | some (.dt k) => some (.dt k)
        | some (.ins c fs) => some (.ins c fs)
        | some (.frz d) => (match d with
          | .lst ds => some (D.lst ds)
          | .dk k => some (.dk k)
          | .dt k => some (.dt k)
          | .ins c fs => some (.ins c fs)
          | _ => none)
        | none => none) = some d' := h
      cases hm : M[n]? with
      | none => rw [hm] at h'; cases h'
      | some c =>
        rw [hm] at h'
        have hc := s.at_ hn hm
        cases c with
        | lst ds => obtain ⟨_, _, vs, e, q⟩ := hc; cases h'; exact .lst e q
        | dk ds => obtain ⟨_, _, vs, e, k, q⟩ := hc; cases h'; exact .dk e k q
        | dt ds => obtain ⟨_, _, vs, e, k, q⟩ := hc; cases h'; exact .dt e k q
        | ins c ds => obtain ⟨_, _, dx, vs, e, k, q⟩ := hc; cases h'; exact .ins e k q
        | frz d =>
          obtain ⟨_, q⟩ := hc
          cases d <;> cases h' <;> exact q.vw0 s (fun _ z => nomatch z)
  | _ => cases h; exact r.vw0 s (fun _ z => nomatch z)
end

/-! ### building blocks -/
section
variable {g : Gm} {c : Cxt} {a b e : Expr} {es : List Expr} {pos : Pos}
/-- a new list, a new tuple: for good -/
theorem good_lst {w : Wd} {F H : Hp} {M : MS} {ds : List D} {vs : List V} {E : XK} {Q : VK} (s : Sta g w F M H) (r : Reps g w vs ds) (h : GoodE g w F (.ok (.lst ds) M) E Q) : ∀ p, H p = none → Q (.ref p) (upd H p (.lst vs)) := fun p hp =>
  h _ _ _ (Wd.le_addG (s.freeG hp)) (s.newG hp) (.lst upd_same (r.mono (Wd.le_addG (s.freeG hp))))
theorem good_tup {w : Wd} {F H : Hp} {M : MS} {ds : List D} {vs : List V} {E : XK} {Q : VK} (s : Sta g w F M H) (r : Reps g w vs ds) (h : GoodE g w F (.ok (.tup ds) M) E Q) : ∀ p, H p = none → Q (.ref p) (upd H p (.tup vs)) := fun p hp =>
  h _ _ _ (Wd.le_addG (s.freeG hp)) (s.newG hp) (.tup (.inl (.inl upd_same)) (r.mono (Wd.le_addG (s.freeG hp))))
/-- a new list that may change -/
theorem good_cell {w : Wd} {F H : Hp} {M : MS} {ds : List D} {vs : List V} {E : XK} {Q : VK} (s : Sta g w F M H) (r : Reps g w vs ds) (h : GoodE g w F (.ok (.cell M.length) (M ++ [.lst ds])) E Q) : ∀ p, H p = none → Q (.ref p) (upd H p (.lst vs)) := fun p hp =>
  h _ _ _ Wd.le_addI (s.newI hp ⟨s.freeG hp, s.freeF hp, vs, upd_same, r.mono Wd.le_addI⟩) (.cell (by rw [s.len]; show (w.io ++ [p])[w.io.length]? = some p; rw [List.getElem?_append_right (Nat.le_refl _), Nat.sub_self]; rfl))
theorem good_ret {α β : Type} {rel : Wd → β → α → Prop} {w : Wd} {F H : Hp} {M : MS} {x : α} {y : β} {E : XK} {Q : β → Hp → Prop} (s : Sta g w F M H) (h : Good g rel w F (.ok x M) E Q) (r : rel w y x) : Q y H := h w y H (.refl w) s r

def visB (sc : Scope) (x : Str) : Bool := match sc.names.lookup x with
  | some .local => true
  | some .cell => true
  | some .free => true
  | _ => false
theorem vis_of {sc : Scope} {x : Str} (h : visB sc x = true) : Vis sc x := by
  unfold visB at h
  unfold Vis
  cases e : sc.names.lookup x with
  | none => rw [e] at h; cases h
  | some k =>
    rw [e] at h
    cases k with
    | «local» => exact .inl rfl
    | cell => exact .inr (.inl rfl)
    | free => exact .inr (.inr rfl)
    | _ => cases h
def varS (i : Nat) : Sm := fun _ ds M => match ds[i]? with
  | some (some d) => .ok d M
  | _ => .stuck
theorem se_var (i : Nat) {x : Str} (hN : c.N[i]? = some x := by rfl) (hv : visB c.sc x = true := by decide +kernel) (hd : (x == ("__debug__" : Str)) = false := by decide +kernel) (hcd : (x == ("__classdict__" : Str)) = false := by decide +kernel) : SE g c (.Name x pos) (varS i) := by
  intro X cf ok W tk
  refine PE.imp (pe_var (i := i) (by rw [ok.N]; exact hN) (by rw [ok.sc]; exact vis_of hv) hd hcd) fun σ H Q ⟨w, F, M, ds, st, sl, h⟩ => ?_
  have h' : GoodE g w F (match ds[i]? with
    | some (some d) => .ok d M
    | _ => .stuck) (fun c dx H' => W c dx σ H') Q := h
  cases e : ds[i]? with
  | none => rw [e] at h'; exact h'.elim
  | some o =>
    rw [e] at h'
    cases o with
    | none => exact h'.elim
    | some d =>
      obtain ⟨v, h1, h2⟩ := sl.at_ i d e
      exact ⟨v, h1, good_ret st h' h2⟩
def conS (d : D) : Sm := fun _ _ M => .ok d M
theorem teo_c {W : WX} {v : V} {d : D} (r : ∀ w, Rep g w v d) : ∀ σ H Q, TEo g W (fun _ M => .ok d M) σ H Q → tC v σ H Q := fun σ H Q ⟨w, F, M, ds, st, sl, h⟩ => good_ret st h (r w)
theorem se_int {i : Int} {k : Nat} : SE g c (.Constant (.int i) k pos) (conS (.int i)) := fun X cf ok W tk => PE.imp pe_int (teo_c fun _ => .int i)
theorem se_bl {i : Bool} {k : Nat} : SE g c (.Constant (.bool i) k pos) (conS (.bl i)) := fun X cf ok W tk => PE.imp pe_bl (teo_c fun _ => .bl i)
theorem se_non {k : Nat} : SE g c (.Constant .none k pos) (conS .non) := fun X cf ok W tk => PE.imp pe_non (teo_c fun _ => .non)
theorem se_str {i : Str} {k : Nat} : SE g c (.Constant (.str i) k pos) (conS (.str i)) := fun X cf ok W tk => PE.imp pe_str (teo_c fun _ => .str i)
/-- a module's constant -/
structure GloOk (g : Gm) (x : Str) (d : D) : Prop where
  ex : ∃ v u, g.mg x = some u ∧ RelV v u ∧ ∀ w, Rep g w v d
def glB (sc : Scope) (x : Str) : Bool := match sc.names.lookup x with
  | some .globalImplicit => true
  | _ => false
theorem gl_of {X : Cx} {x : Str} (h : glB X.env.scope x = true) : Gl X x := by
  unfold glB at h
  show X.env.scope.names.lookup x = some .globalImplicit
  cases e : X.env.scope.names.lookup x with
  | none => rw [e] at h; cases h
  | some k =>
    rw [e] at h
    cases k with
    | globalImplicit => rfl
    | _ => cases h
theorem CtxOk.gl {X : Cx} {cf : CF} (ok : CtxOk g X c cf) {x : Str} (h : glB c.sc x = true) : Gl X x := gl_of (by rw [ok.sc]; exact h)
theorem se_glo {x : Str} {d : D} (h : GloOk g x d) (hg : glB c.sc x = true := by decide +kernel) (hd : (x == ("__debug__" : Str)) = false := by decide +kernel) : SE g c (.Name x pos) (conS d) := by
  intro X cf ok W tk
  obtain ⟨v, u, e, r, q⟩ := h.ex
  exact PE.imp (pe_glob (ok.gl hg) (by rw [ok.mg]; exact e) r hd) (teo_c q)

/-! ### two operands -/
def op2 (op : D → D → MS → R D) (f h : Sm) : Sm := fun cf ds M => (f cf ds M).bind fun x M1 => (h cf ds M1).bind fun y M2 => op x y M2
def op1 (op : D → MS → R D) (f : Sm) : Sm := fun cf ds M => (f cf ds M).bind fun x M1 => op x M1
/-- a rule r on values serves the operation op on data -/
def Key2 (g : Gm) (op : D → D → MS → R D) (r : R2) : Prop := ∀ (w : Wd) (F : Hp) (M : MS) (H : Hp) (x y : V) (dx dy : D) (E : XK) (Q : VK), Sta g w F M H → Rep g w x dx → Rep g w y dy → GoodE g w F (op dx dy M) E Q → r x y H Q
def Key1 (g : Gm) (op : D → MS → R D) (r : V → Hp → VK → Prop) : Prop := ∀ (w : Wd) (F : Hp) (M : MS) (H : Hp) (x : V) (dx : D) (E : XK) (Q : VK), Sta g w F M H → Rep g w x dx → GoodE g w F (op dx M) E Q → r x H Q
theorem teo_op2 {W : WX} {op : D → D → MS → R D} {r : R2} {f h : Sm} {cf : CF} (k : Key2 g op r) : ∀ σ H Q, TEo g W (op2 op f h cf) σ H Q → tOp r (TEo g W (f cf)) (TEo g W (h cf)) σ H Q := fun σ H Q ⟨w, F, M, ds, st, sl, h0⟩ =>
  ⟨w, F, M, ds, st, sl, Good.bind h0 fun w1 dx x M1 H1 l1 s1 r1 h1 => ⟨w1, F, M1, ds, s1, sl.mono l1, Good.bind h1 fun w2 dy y M2 H2 l2 s2 r2 h2 => k w2 F M2 H2 x y dx dy _ Q s2 (r1.mono l2) r2 h2⟩⟩
theorem teo_op1 {W : WX} {op : D → MS → R D} {r : V → Hp → VK → Prop} {f : Sm} {cf : CF} (k : Key1 g op r) : ∀ σ H Q, TEo g W (op1 op f cf) σ H Q → tUn r (TEo g W (f cf)) σ H Q := fun σ H Q ⟨w, F, M, ds, st, sl, h0⟩ =>
  ⟨w, F, M, ds, st, sl, Good.bind h0 fun w1 dx x M1 H1 l1 s1 r1 h1 => k w1 F M1 H1 x dx _ Q s1 r1 h1⟩

def addS : D → D → MS → R D
  | .int i, .int j, M => .ok (.int (i + j)) M
  | .str x, .str y, M => if x.length + y.length ≤ big then .ok (.str (x ++ y)) M else .stuck
  | x, y, M => match lk M x, lk M y with
    | some (.lst xs), some (.lst ys) => if xs.length + ys.length ≤ big then .ok (.lst (xs ++ ys)) M else .stuck
    | some (.tup xs), some (.tup ys) => if xs.length + ys.length ≤ big ∧ 0 < xs.length then .ok (.tup (xs ++ ys)) M else .stuck
    | _, _ => .stuck
def rAdd (K : PySem.W.Frag) : R2 := fun x y H Q => rI0 (fun i j => .int (i + j)) x y H Q ∨ (∃ i j, x = .str i ∧ y = .str j ∧ i.length + j.length ≤ sizeLine ∧ Q (.str (i ++ j)) H) ∨ rCat x y H Q ∨ rCatT K x y H Q
theorem op_addAll {X : Cx} : OpR X (binaryOp .Add) (rAdd X.K) := op_add.or (op_add_str.or (op_cat.or op_catT))
theorem key_seqs {w : Wd} {F H : Hp} {M : MS} {x y : V} {dx dy : D} {E : XK} {Q : VK} (st : Sta g w F M H) (rx : Rep g w x dx) (ry : Rep g w y dy)
    (h : GoodE g w F (match lk M dx, lk M dy with
    | some (.lst xs), some (.lst ys) => if xs.length + ys.length ≤ big then .ok (.lst (xs ++ ys)) M else .stuck
    | some (.tup xs), some (.tup ys) => if xs.length + ys.length ≤ big ∧ 0 < xs.length then .ok (.tup (xs ++ ys)) M else .stuck
    | _, _ => .stuck) E Q) : rCat x y H Q ∨ rCatT g.K x y H Q := by
  cases ex : lk M dx with
  | none => rw [ex] at h; exact h.elim
  | some dx' =>
    cases ey : lk M dy with
    | none => rw [ex, ey] at h; cases dx' <;> exact h.elim
    | some dy' =>
      rw [ex, ey] at h
      have vx := rx.vw st ex
      have vy := ry.vw st ey
      cases vx with
      | lst hx qx =>
        cases vy with
        | lst hy qy =>
          refine .inl ⟨_, _, _, _, rfl, rfl, hx, hy, ?_⟩
          dsimp only at h
          rw [← qx.length, ← qy.length] at h
          split at h
          · rename_i z2
            exact ⟨big_le z2, good_lst st (qx.append qy) h⟩
          · exact h.elim
        | _ => exact h.elim
      | tup hx qx =>
        cases vy with
        | tup hy qy =>
          dsimp only at h
          split at h
          · rename_i z2
            refine .inr ⟨_, _, _, _, rfl, rfl, hx, hy, ?_, ?_, ?_, ?_⟩
            · intro z
              rw [z] at qx
              rw [← qx.length] at z2
              exact absurd z2.2 (by simp)
            · rw [qx.length, qy.length]
              exact big_le z2.1
            · intro z
              rw [z] at qy
              cases qy
              rw [List.append_nil] at h
              have e := lk_tup ex
              subst e
              exact good_ret st h rx
            · intro _
              exact good_tup st (qx.append qy) h
          · exact h.elim
        | _ => exact h.elim
      | _ => exact h.elim
theorem key_add : Key2 g addS (rAdd g.K) := fun w F M H x y dx dy E Q st rx ry h => by
  by_cases hi : (∃ i, dx = .int i) ∧ ∃ j, dy = .int j
  · obtain ⟨⟨i, rfl⟩, j, rfl⟩ := hi
    cases rx
    cases ry
    exact .inl ⟨_, _, rfl, rfl, good_ret st h (.int _)⟩
  · by_cases hs : (∃ i, dx = .str i) ∧ ∃ j, dy = .str j
    · obtain ⟨⟨i, rfl⟩, j, rfl⟩ := hs
      cases rx
      cases ry
      have h' : GoodE g w F (if i.length + j.length ≤ big then .ok (.str (i ++ j)) M else .stuck) E Q := h
      split at h'
      · rename_i z
        exact .inr (.inl ⟨_, _, rfl, rfl, big_le z, good_ret st h' (.str _)⟩)
      · exact h'.elim
    · refine .inr (.inr (key_seqs (E := E) st rx ry ?_))
      unfold addS at h
      split at h
      · exact absurd ⟨⟨_, rfl⟩, _, rfl⟩ hi
      · exact absurd ⟨⟨_, rfl⟩, _, rfl⟩ hs
      · exact h
theorem se_add {f h : Sm} (ha : SE g c a f) (hb : SE g c b h) : SE g c (.BinOp a .Add b pos) (op2 addS f h) := fun X cf ok W tk =>
  PE.imp (pe_op op_addAll (ha X cf ok W tk) (hb X cf ok W tk)) fun σ H Q q => teo_op2 (by rw [ok.K]; exact key_add) σ H Q q
end
end MP
set_option maxHeartbeats 4000000
/-! MPC: arithmetic, comparisons, tests. -/
namespace MP
open PySem L2 Evl
instance : DecidableRel CDiv := fun i j => by unfold CDiv; exact inferInstance
instance : DecidableRel CPow := fun i j => by unfold CPow; exact inferInstance
instance : DecidableRel CMul := fun i j => by unfold CMul; exact inferInstance
section
variable {g : Gm} {c : Cxt} {a b e : Expr} {es : List Expr} {pos : Pos}
/-! ### arithmetic -/
theorem se_bin {op : Operator} {o : D → D → MS → R D} {f h : Sm} (r : PySem.W.Frag → R2) (ho : ∀ X : Cx, OpR X (binaryOp op) (r X.K)) (k : Key2 g o (r g.K)) (ha : SE g c a f) (hb : SE g c b h) : SE g c (.BinOp a op b pos) (op2 o f h) := fun X cf ok W tk =>
  PE.imp (pe_op (ho X) (ha X cf ok W tk) (hb X cf ok W tk)) fun σ H Q q => teo_op2 (by rw [ok.K]; exact k) σ H Q q
/-- ints in, under C, an int out -/
theorem key_I {C : Int → Int → Prop} [DecidableRel C] {z : Int → Int → Int} {o : D → D → MS → R D} (h1 : ∀ i j M, o (.int i) (.int j) M = if C i j then .ok (.int (z i j)) M else .stuck)
    (h2 : ∀ x y M, ((∃ i, x = D.int i) ∧ ∃ j, y = D.int j) ∨ o x y M = .stuck) : Key2 g o (rI C fun i j => .int (z i j)) := fun w F M H x y dx dy E Q st rx ry h => by
  rcases h2 dx dy M with ⟨⟨i, rfl⟩, j, rfl⟩ | q
  · cases rx
    cases ry
    rw [h1] at h
    by_cases hc : C i j
    · rw [if_pos hc] at h
      exact ⟨i, j, rfl, rfl, hc, good_ret st h (.int _)⟩
    · rw [if_neg hc] at h
      exact h.elim
  · rw [q] at h
    exact h.elim
def subS : D → D → MS → R D
  | .int i, .int j, M => if True then .ok (.int (i - j)) M else .stuck
  | _, _, _ => .stuck
def divS : D → D → MS → R D
  | .int i, .int j, M => if CDiv i j then .ok (.int (i / j)) M else .stuck
  | _, _, _ => .stuck
def modS : D → D → MS → R D
  | .int i, .int j, M => if 0 < j then .ok (.int (i % j)) M else .stuck
  | _, _, _ => .stuck
def powS : D → D → MS → R D
  | .int i, .int j, M => if CPow i j then .ok (.int (i ^ j.toNat)) M else .stuck
  | _, _, _ => .stuck
theorem only_ints {o : D → D → MS → R D} (h : ∀ x y M, ((∃ i, x = D.int i) ∧ ∃ j, y = D.int j) ∨ o x y M = .stuck) : ∀ x y M, ((∃ i, x = D.int i) ∧ ∃ j, y = D.int j) ∨ o x y M = .stuck := h
theorem op_subT {X : Cx} : OpR X (binaryOp .Sub) (rI (fun _ _ => True) fun i j => .int (i - j)) := fun pins s σ H x y v u Q I rx ry h => by
  obtain ⟨i, j, e1, e2, _, q⟩ := h
  exact op_sub pins s σ H x y v u Q I rx ry ⟨i, j, e1, e2, q⟩
theorem se_sub {f h : Sm} (ha : SE g c a f) (hb : SE g c b h) : SE g c (.BinOp a .Sub b pos) (op2 subS f h) :=
  se_bin (fun _ => _) (fun _ => op_subT) (key_I (C := fun _ _ => True) (z := fun i j => i - j) (fun _ _ _ => rfl) fun x y M => by cases x <;> cases y <;> first | exact .inr rfl | exact .inl ⟨⟨_, rfl⟩, _, rfl⟩) ha hb
theorem se_div {f h : Sm} (ha : SE g c a f) (hb : SE g c b h) : SE g c (.BinOp a .FloorDiv b pos) (op2 divS f h) :=
  se_bin (fun _ => _) (fun _ => op_fdiv) (key_I (C := CDiv) (z := fun i j => i / j) (fun _ _ _ => rfl) fun x y M => by cases x <;> cases y <;> first | exact .inr rfl | exact .inl ⟨⟨_, rfl⟩, _, rfl⟩) ha hb
theorem se_mod {f h : Sm} (ha : SE g c a f) (hb : SE g c b h) : SE g c (.BinOp a .Mod b pos) (op2 modS f h) :=
  se_bin (fun _ => _) (fun _ => op_mod) (key_I (C := fun _ j => 0 < j) (z := fun i j => i % j) (fun _ _ _ => rfl) fun x y M => by cases x <;> cases y <;> first | exact .inr rfl | exact .inl ⟨⟨_, rfl⟩, _, rfl⟩) ha hb
theorem se_pow {f h : Sm} (ha : SE g c a f) (hb : SE g c b h) : SE g c (.BinOp a .Pow b pos) (op2 powS f h) :=
  se_bin (fun _ => _) (fun _ => op_pow) (key_I (C := CPow) (z := fun i j => i ^ j.toNat) (fun _ _ _ => rfl) fun x y M => by cases x <;> cases y <;> first | exact .inr rfl | exact .inl ⟨⟨_, rfl⟩, _, rfl⟩) ha hb
/-- int * int, list * int -/
def mulS : D → D → MS → R D
  | .int i, .int j, M => if CMul i j then .ok (.int (i * j)) M else .stuck
  | x, .int k, M => match lk M x with
    | some (.lst xs) => if 0 ≤ k ∧ k ≤ 1000000 ∧ xs.length * k.toNat ≤ big then .ok (.lst (List.replicate k.toNat xs).flatten) M else .stuck
    | _ => .stuck
  | _, _, _ => .stuck
theorem Reps.rep {w : Wd} {vs : List V} {ds : List D} (h : Reps g w vs ds) : ∀ k : Nat, Reps g w (List.replicate k vs).flatten (List.replicate k ds).flatten
  | 0 => .nil
  | k + 1 => by
    rw [List.replicate_succ, List.replicate_succ, List.flatten_cons, List.flatten_cons]
    exact h.append (Reps.rep h k)
theorem key_mul : Key2 g mulS (fun x y H Q => rI CMul (fun i j => .int (i * j)) x y H Q ∨ rRep x y H Q) := fun w F M H x y dx dy E Q st rx ry h => by
  by_cases hj : ∃ j, dy = .int j
  · obtain ⟨k, rfl⟩ := hj
    by_cases hi : ∃ i, dx = .int i
    · obtain ⟨i, rfl⟩ := hi
      cases rx
      cases ry
      have h' : GoodE g w F (if CMul i k then .ok (.int (i * k)) M else .stuck) E Q := h
      split at h'
      · rename_i z
        exact .inl ⟨_, _, rfl, rfl, z, good_ret st h' (.int _)⟩
      · exact h'.elim
    · have h' : GoodE g w F (match lk M dx with
        | some (.lst xs) => if 0 ≤ k ∧ k ≤ 1000000 ∧ xs.length * k.toNat ≤ big then .ok (.lst (List.replicate k.toNat xs).flatten) M else .stuck
        | _ => .stuck) E Q := by
        cases dx with
        | int i => exact absurd ⟨i, rfl⟩ hi
        | _ => exact h
      cases ry
      cases ex : lk M dx with
      | none => rw [ex] at h'; exact h'.elim
      | some dx' =>
        rw [ex] at h'
        have vx := rx.vw st ex
        cases vx with
        | lst hx qx =>
          dsimp only at h'
          split at h'
          · rename_i z
            refine .inr ⟨_, _, _, rfl, rfl, hx, by omega, by omega, ?_, good_lst st (qx.rep _) h'⟩
            rw [qx.length]
            exact big_le z.2.2
          · exact h'.elim
        | _ => exact h'.elim
  · exfalso
    unfold mulS at h
    split at h
    · exact hj ⟨_, rfl⟩
    · exact hj ⟨_, rfl⟩
    · exact h
theorem se_mul {f h : Sm} (ha : SE g c a f) (hb : SE g c b h) : SE g c (.BinOp a .Mult b pos) (op2 mulS f h) :=
  se_bin (fun _ => fun x y H Q => rI CMul (fun i j => .int (i * j)) x y H Q ∨ rRep x y H Q) (fun X => op_mul.or op_rep) key_mul ha hb
def negS : D → MS → R D
  | .int i, M => .ok (.int (-i)) M
  | _, _ => .stuck
theorem se_neg {f : Sm} (ha : SE g c a f) : SE g c (.UnaryOp .USub a pos) (op1 negS f) := fun X cf ok W tk =>
  PE.imp (pe_un un_neg (ha X cf ok W tk)) fun σ H Q q => teo_op1 (fun w F M H x dx E Q st rx h => by
    cases dx with
    | int i => cases rx; exact ⟨_, rfl, good_ret st h (.int _)⟩
    | _ => exact h.elim) σ H Q q

/-! ### comparisons -/
theorem se_cmp {op : CmpOp} {o : D → D → MS → R D} {f h : Sm} (r : PySem.W.Frag → R2) (ho : ∀ X : Cx, X.A.units + 65 < cLine → OpR X (compareOp op) (r X.K)) (k : Key2 g o (r g.K)) (ha : SE g c a f) (hb : SE g c b h) (hm : behindInMarks op b = false) : SE g c (.Compare a [op] [b] pos) (op2 o f h) := fun X cf ok W tk =>
  PE.imp (pe_cmpR (ho X ok.room65) (ha X cf ok W tk) (hb X cf ok W tk) hm) fun σ H Q q => teo_op2 (by rw [ok.K]; exact k) σ H Q q
theorem key_B {p : Int → Int → Bool} {o : D → D → MS → R D} (h1 : ∀ i j M, o (.int i) (.int j) M = .ok (.bl (p i j)) M)
    (h2 : ∀ x y M, ((∃ i, x = D.int i) ∧ ∃ j, y = D.int j) ∨ o x y M = .stuck) : Key2 g o (rI0 fun i j => .bl (p i j)) := fun w F M H x y dx dy E Q st rx ry h => by
  rcases h2 dx dy M with ⟨⟨i, rfl⟩, j, rfl⟩ | q
  · cases rx
    cases ry
    rw [h1] at h
    exact ⟨i, j, rfl, rfl, good_ret st h (.bl _)⟩
  · rw [q] at h
    exact h.elim
def ltS : D → D → MS → R D
  | .int i, .int j, M => .ok (.bl (decide (i < j))) M
  | _, _, _ => .stuck
def leS : D → D → MS → R D
  | .int i, .int j, M => .ok (.bl (decide (i ≤ j))) M
  | _, _, _ => .stuck
def gtS : D → D → MS → R D
  | .int i, .int j, M => .ok (.bl (decide (j < i))) M
  | _, _, _ => .stuck
def geS : D → D → MS → R D
  | .int i, .int j, M => .ok (.bl (decide (j ≤ i))) M
  | _, _, _ => .stuck
theorem key_lt : Key2 g ltS (rI0 fun i j => .bl (decide (i < j))) := key_B (fun _ _ _ => rfl) fun x y M => by cases x <;> cases y <;> first | exact .inr rfl | exact .inl ⟨⟨_, rfl⟩, _, rfl⟩
theorem key_le : Key2 g leS (rI0 fun i j => .bl (decide (i ≤ j))) := key_B (fun _ _ _ => rfl) fun x y M => by cases x <;> cases y <;> first | exact .inr rfl | exact .inl ⟨⟨_, rfl⟩, _, rfl⟩
theorem key_gt : Key2 g gtS (rI0 fun i j => .bl (decide (j < i))) := key_B (fun _ _ _ => rfl) fun x y M => by cases x <;> cases y <;> first | exact .inr rfl | exact .inl ⟨⟨_, rfl⟩, _, rfl⟩
theorem key_ge : Key2 g geS (rI0 fun i j => .bl (decide (j ≤ i))) := key_B (fun _ _ _ => rfl) fun x y M => by cases x <;> cases y <;> first | exact .inr rfl | exact .inl ⟨⟨_, rfl⟩, _, rfl⟩
theorem se_lt {f h : Sm} (ha : SE g c a f) (hb : SE g c b h) : SE g c (.Compare a [.Lt] [b] pos) (op2 ltS f h) := se_cmp (fun _ => _) (fun _ _ => op_lt) key_lt ha hb (nomark _)
theorem se_le {f h : Sm} (ha : SE g c a f) (hb : SE g c b h) : SE g c (.Compare a [.LtE] [b] pos) (op2 leS f h) := se_cmp (fun _ => _) (fun _ _ => op_le) key_le ha hb (nomark _)
theorem se_gt {f h : Sm} (ha : SE g c a f) (hb : SE g c b h) : SE g c (.Compare a [.Gt] [b] pos) (op2 gtS f h) := se_cmp (fun _ => _) (fun _ _ => op_gt) key_gt ha hb (nomark _)
theorem se_ge {f h : Sm} (ha : SE g c a f) (hb : SE g c b h) : SE g c (.Compare a [.GtE] [b] pos) (op2 geS f h) := se_cmp (fun _ => _) (fun _ _ => op_ge) key_ge ha hb (nomark _)
/-- x <= y <= z of ints -/
def chS (o o' : D → D → MS → R D) (f h k : Sm) : Sm := fun cf ds M => (f cf ds M).bind fun x M1 => (h cf ds M1).bind fun y M2 => (o x y M2).bind fun t M3 => match t with
  | .bl true => (k cf ds M3).bind fun z M4 => o' y z M4
  | .bl false => .ok (.bl false) M3
  | _ => .stuck
theorem teo_chain {o o' : D → D → MS → R D} {r r' : R2} {f h k : Sm} {cf : CF} {W : WX} (key : Key2 g o r) (key' : Key2 g o' r') : ∀ σ H Q, TEo g W (chS o o' f h k cf) σ H Q → tChain r r' (TEo g W (f cf)) (TEo g W (h cf)) (TEo g W (k cf)) σ H Q := fun σ H Q ⟨w, F, M, ds, st, sl, h0⟩ =>
    ⟨w, F, M, ds, st, sl, Good.bind h0 fun w1 dx x M1 H1 l1 s1 r1 h1 => ⟨w1, F, M1, ds, s1, sl.mono l1, Good.bind h1 fun w2 dy y M2 H2 l2 s2 r2 h2 =>
      key w2 F M2 H2 x y dx dy _ _ s2 (r1.mono l2) r2 (Good.bind h2 fun w3 t t' M3 H3 l3 s3 rt q => by
          cases t with
          | bl kk =>
            cases rt
            refine ⟨kk, rfl, ?_⟩
            cases kk with
            | true =>
              show TEo g W (k cf) σ H3 _
              have q' : GoodE g w3 F ((k cf ds M3).bind fun z M4 => o' dy z M4) (fun c dx H' => W c dx σ H') Q := q
              exact ⟨w3, F, M3, ds, s3, (sl.mono (l1.trans l2)).mono l3, Good.bind q' fun w4 dz z M4 H4 l4 s4 r4 h4 => key' w4 F M4 H4 y z dy dz _ Q s4 (r2.mono (l3.trans l4)) r4 h4⟩
            | false =>
              have q' : GoodE g w3 F (.ok (.bl false) M3) (fun c dx H' => W c dx σ H') Q := q
              exact q' w3 _ H3 (.refl _) s3 (.bl _)
          | _ => exact q.elim)⟩⟩
theorem se_chain {op op' : CmpOp} {o o' : D → D → MS → R D} {r r' : R2} {b2 : Expr} {f h k : Sm} (ho : ∀ X : Cx, OpR X (compareOp op) r) (ho' : ∀ X : Cx, OpR X (compareOp op') r') (key : Key2 g o r) (key' : Key2 g o' r') (ha : SE g c a f) (hb : SE g c b h) (hc : SE g c b2 k)
    (hm : lastMarks [op, op'] [b, b2] = false := by with_unfolding_all rfl) : SE g c (.Compare a [op, op'] [b, b2] pos) (chS o o' f h k) := fun X cf ok W tk =>
  PE.imp (pe_chain (ho X) (ho' X) (ha X cf ok W tk) (hb X cf ok W tk) (hc X cf ok W tk) hm) (teo_chain key key')
end
end MP
set_option maxHeartbeats 4000000
/-! MPD: ==, in, is None; tests; and, or, not; displays; places. -/
namespace MP
open PySem L2 Evl
mutual
def D.toP : D → Option PyData
  | .non => some .none
  | .bl b => some (.bool b)
  | .int i => some (.int i)
  | .str x => some (.str x)
  | .tup ds => (D.toPs ds).map .tuple
  | .lst ds => (D.toPs ds).map .list
  | _ => none
def D.toPs : List D → Option (List PyData)
  | [] => some []
  | d :: ds => match D.toP d, D.toPs ds with
    | some p, some ps => some (p :: ps)
    | _, _ => none
end
section
variable {g : Gm} {c : Cxt} {a b e : Expr} {es : List Expr} {pos : Pos}
mutual
theorem Rep.dp {w : Wd} {H : Hp} (s : Ex w.G H) : ∀ (d : D) (v : V) (p : PyData), Rep g w v d → d.toP = some p → Dp g.K H v p
  | .non, v, p, r, h => by cases r; simp only [D.toP] at h; cases h; exact .non
  | .bl b, v, p, r, h => by cases r; simp only [D.toP] at h; cases h; exact .bl b
  | .int i, v, p, r, h => by cases r; simp only [D.toP] at h; cases h; exact .int i
  | .str x, v, p, r, h => by cases r; simp only [D.toP] at h; cases h; exact .str x
  | .tup ds, v, p, r, h => by
    cases r with
    | tup q rs =>
      simp only [D.toP] at h
      cases e : D.toPs ds with
      | none => rw [e] at h; cases h
      | some ps => rw [e] at h; cases h; exact .tup (ex_t s q) (Reps.dp s ds _ ps rs e)
  | .lst ds, v, p, r, h => by
    cases r with
    | lst q rs =>
      simp only [D.toP] at h
      cases e : D.toPs ds with
      | none => rw [e] at h; cases h
      | some ps => rw [e] at h; cases h; exact .lst (SqL.of (s _ _ q)) (Reps.dp s ds _ ps rs e)
  | .dk _, _, _, _, h => by simp only [D.toP] at h; cases h
  | .dt _, _, _, _, h => by simp only [D.toP] at h; cases h
  | .ins _ _, _, _, _, h => by simp only [D.toP] at h; cases h
  | .cell _, _, _, _, h => by simp only [D.toP] at h; cases h
  | .scr _, _, _, _, h => by simp only [D.toP] at h; cases h
theorem Reps.dp {w : Wd} {H : Hp} (s : Ex w.G H) : ∀ (ds : List D) (vs : List V) (ps : List PyData), Reps g w vs ds → D.toPs ds = some ps → DpAll g.K H vs ps
  | [], _, _, r, h => by cases r; simp only [D.toPs] at h; cases h; exact .nil
  | d :: ds, _, _, r, h => by
    cases r with
    | cons q rs =>
      simp only [D.toPs] at h
      cases e1 : D.toP d with
      | none => rw [e1] at h; cases h
      | some p =>
        cases e2 : D.toPs ds with
        | none => rw [e1, e2] at h; cases h
        | some ps => rw [e1, e2] at h; cases h; exact .cons (Rep.dp s d _ p q e1) (Reps.dp s ds _ ps rs e2)
end
theorem Vw.dp {w : Wd} {H : Hp} (s : Ex w.G H) {d : D} {v : V} {p : PyData} (r : Vw g w H v d) (h : d.toP = some p) : Dp g.K H v p := by
  cases r with
  | non => simp only [D.toP] at h; cases h; exact .non
  | bl b => simp only [D.toP] at h; cases h; exact .bl b
  | int i => simp only [D.toP] at h; cases h; exact .int i
  | str x => simp only [D.toP] at h; cases h; exact .str x
  | tup q rs =>
    rename_i ds
    simp only [D.toP] at h
    cases e : D.toPs ds with
    | none => rw [e] at h; cases h
    | some ps => rw [e] at h; cases h; exact .tup q (Reps.dp s ds _ ps rs e)
  | lst q rs =>
    rename_i ds
    simp only [D.toP] at h
    cases e : D.toPs ds with
    | none => rw [e] at h; cases h
    | some ps => rw [e] at h; cases h; exact .lst (SqL.of q) (Reps.dp s ds _ ps rs e)
  | _ => simp only [D.toP] at h; cases h
def vP (M : MS) (d : D) : Option PyData := (lk M d).bind D.toP
theorem Rep.vP {w : Wd} {F H : Hp} {M : MS} {v : V} {d : D} {p : PyData} (st : Sta g w F M H) (r : Rep g w v d) (h : vP M d = some p) : Dp g.K H v p := by
  unfold MP.vP at h
  cases e : lk M d with
  | none => rw [e] at h; cases h
  | some d' => rw [e] at h; exact (r.vw st e).dp st.ext h
def deepS (M : MS) (neg : Bool) (x y : D) : R D := match vP M x, vP M y with
  | some p, some q => if SeqAt.shaped p = true ∧ SeqAt.shaped q = true then .ok (.bl (if neg then !PyData.eqv p q else PyData.eqv p q)) M else .stuck
  | _, _ => .stuck
def eqG (neg : Bool) : D → D → MS → R D
  | .int i, .int j, M => .ok (.bl (if neg then !decide (i = j) else decide (i = j))) M
  | .str i, .str j, M => .ok (.bl (if neg then !decide (i = j) else decide (i = j))) M
  | .bl i, .bl j, M => .ok (.bl (if neg then !decide (i = j) else decide (i = j))) M
  | .non, .non, M => .ok (.bl (!neg)) M
  | .non, .int _, M => .ok (.bl neg) M
  | .int _, .non, M => .ok (.bl neg) M
  | .non, .str _, M => .ok (.bl neg) M
  | .str _, .non, M => .ok (.bl neg) M
  | .int _, .str _, M => .ok (.bl neg) M
  | .str _, .int _, M => .ok (.bl neg) M
  | x, y, M => deepS M neg x y
abbrev eqS := eqG false
abbrev neS := eqG true
theorem deep_eq {w : Wd} {F H : Hp} {M : MS} {x y : V} {dx dy : D} {E : XK} {Q : VK} (st : Sta g w F M H) (rx : Rep g w x dx) (ry : Rep g w y dy) (h : GoodE g w F (deepS M false dx dy) E Q) : rEqD g.K x y H Q := by
  unfold deepS at h
  cases ex : vP M dx with
  | none => rw [ex] at h; exact h.elim
  | some p =>
    cases ey : vP M dy with
    | none => rw [ex, ey] at h; exact h.elim
    | some q =>
      rw [ex, ey] at h
      dsimp only at h
      split at h
      · rename_i z
        exact ⟨p, q, rx.vP st ex, ry.vP st ey, z.1, z.2, good_ret st h (.bl _)⟩
      · exact h.elim
theorem deep_ne {w : Wd} {F H : Hp} {M : MS} {x y : V} {dx dy : D} {E : XK} {Q : VK} (st : Sta g w F M H) (rx : Rep g w x dx) (ry : Rep g w y dy) (h : GoodE g w F (deepS M true dx dy) E Q) : rNeD g.K x y H Q := by
  unfold deepS at h
  cases ex : vP M dx with
  | none => rw [ex] at h; exact h.elim
  | some p =>
    cases ey : vP M dy with
    | none => rw [ex, ey] at h; exact h.elim
    | some q =>
      rw [ex, ey] at h
      dsimp only at h
      split at h
      · rename_i z
        exact ⟨p, q, rx.vP st ex, ry.vP st ey, z.1, z.2, good_ret st h (.bl _)⟩
      · exact h.elim
theorem dec_int' {i j : Int} : decide (V.int i = V.int j) = decide (i = j) := by simp only [V.int.injEq]
theorem dec_str' {i j : Str} : decide (V.str i = V.str j) = decide (i = j) := by simp only [V.str.injEq]
theorem dec_bl' {i j : Bool} : decide (V.bl i = V.bl j) = decide (i = j) := by simp only [V.bl.injEq]
theorem key_eq : Key2 g eqS (fun x y H Q => rEq x y H Q ∨ rEqD g.K x y H Q) := fun w F M H x y dx dy E Q st rx ry h => by
  unfold eqS eqG at h
  split at h
  · cases rx; cases ry
    refine .inl ⟨rfl, ?_⟩
    rw [dec_int']
    exact good_ret st h (.bl _)
  · cases rx; cases ry
    refine .inl ⟨rfl, ?_⟩
    rw [dec_str']
    exact good_ret st h (.bl _)
  · cases rx; cases ry
    refine .inl ⟨rfl, ?_⟩
    rw [dec_bl']
    exact good_ret st h (.bl _)
  · cases rx; cases ry; exact .inl ⟨rfl, good_ret st h (.bl _)⟩
  · cases rx; cases ry; exact .inl ⟨rfl, good_ret st h (.bl _)⟩
  · cases rx; cases ry; exact .inl ⟨rfl, good_ret st h (.bl _)⟩
  · cases rx; cases ry; exact .inl ⟨rfl, good_ret st h (.bl _)⟩
  · cases rx; cases ry; exact .inl ⟨rfl, good_ret st h (.bl _)⟩
  · cases rx; cases ry; exact .inl ⟨rfl, good_ret st h (.bl _)⟩
  · cases rx; cases ry; exact .inl ⟨rfl, good_ret st h (.bl _)⟩
  · exact .inr (deep_eq st rx ry h)
theorem key_ne : Key2 g neS (fun x y H Q => rNe x y H Q ∨ rNeD g.K x y H Q) := fun w F M H x y dx dy E Q st rx ry h => by
  unfold neS eqG at h
  split at h
  · cases rx; cases ry
    refine .inl ⟨rfl, ?_⟩
    rw [dec_int']
    exact good_ret st h (.bl _)
  · cases rx; cases ry
    refine .inl ⟨rfl, ?_⟩
    rw [dec_str']
    exact good_ret st h (.bl _)
  · cases rx; cases ry
    refine .inl ⟨rfl, ?_⟩
    rw [dec_bl']
    exact good_ret st h (.bl _)
  · cases rx; cases ry; exact .inl ⟨rfl, good_ret st h (.bl _)⟩
  · cases rx; cases ry; exact .inl ⟨rfl, good_ret st h (.bl _)⟩
  · cases rx; cases ry; exact .inl ⟨rfl, good_ret st h (.bl _)⟩
  · cases rx; cases ry; exact .inl ⟨rfl, good_ret st h (.bl _)⟩
  · cases rx; cases ry; exact .inl ⟨rfl, good_ret st h (.bl _)⟩
  · cases rx; cases ry; exact .inl ⟨rfl, good_ret st h (.bl _)⟩
  · cases rx; cases ry; exact .inl ⟨rfl, good_ret st h (.bl _)⟩
  · exact .inr (deep_ne st rx ry h)
theorem se_eq {f h : Sm} (ha : SE g c a f) (hb : SE g c b h) : SE g c (.Compare a [.Eq] [b] pos) (op2 eqS f h) := se_cmp (fun K => fun x y H Q => rEq x y H Q ∨ rEqD K x y H Q) (fun X u => op_eq.or (op_eqD (by omega))) key_eq ha hb (nomark _)
theorem se_ne {f h : Sm} (ha : SE g c a f) (hb : SE g c b h) : SE g c (.Compare a [.NotEq] [b] pos) (op2 neS f h) := se_cmp (fun K => fun x y H Q => rNe x y H Q ∨ rNeD K x y H Q) (fun X u => op_ne.or (op_neD (by omega))) key_ne ha hb (nomark _)
/-- x is None -/
def isNS (neg : Bool) : D → MS → R D := fun x M => .ok (.bl (match x with
  | .non => !neg
  | _ => neg)) M
theorem vnon_iff {w : Wd} {x : V} {d : D} (r : Rep g w x d) : decide (x = .non) = (match d with
  | .non => true
  | _ => false) := by cases r <;> rfl
theorem se_isN {f : Sm} {k : Nat} {p2 : Pos} (ha : SE g c a f) : SE g c (.Compare a [.Is] [.Constant .none k p2] pos) (op1 (isNS false) f) := fun X cf ok W tk =>
  PE.imp (pe_cmp (pc_isN (ha X cf ok W tk))) fun σ H Q q => teo_op1 (r := fun x H Q => Q (.bl (decide (x = .non))) H) (fun w F M H x dx E Q st rx h => by
    dsimp only
    rw [vnon_iff rx]
    refine good_ret (rel := Rep g) st h ?_
    cases dx <;> exact .bl _) σ H Q q
theorem se_notN {f : Sm} {k : Nat} {p2 : Pos} (ha : SE g c a f) : SE g c (.Compare a [.IsNot] [.Constant .none k p2] pos) (op1 (isNS true) f) := fun X cf ok W tk =>
  PE.imp (pe_cmp (pc_notN (ha X cf ok W tk))) fun σ H Q q => teo_op1 (r := fun x H Q => Q (.bl (!decide (x = .non))) H) (fun w F M H x dx E Q st rx h => by
    dsimp only
    rw [vnon_iff rx]
    refine good_ret (rel := Rep g) st h ?_
    cases dx <;> exact .bl _) σ H Q q

/-! ### in -/
def flatD : D → Bool
  | .non => true
  | .bl _ => true
  | .int _ => true
  | .str _ => true
  | _ => false
def feq : D → D → Bool
  | .non, .non => true
  | .bl a, .bl b => a == b
  | .bl a, .int b => (if a then 1 else 0) == b
  | .int a, .bl b => a == (if b then 1 else 0)
  | .int a, .int b => a == b
  | .str a, .str b => a == b
  | _, _ => false
theorem flat_of {w : Wd} {x : V} {d : D} (r : Rep g w x d) : flatV x = flatD d := by cases r <;> rfl
theorem feq_of {w : Wd} {x y : V} {d e : D} (r : Rep g w x d) (q : Rep g w y e) : eqV x y = feq d e := by cases r <;> cases q <;> rfl
theorem flats_of {w : Wd} : ∀ {vs : List V} {ds : List D}, Reps g w vs ds → vs.all flatV = ds.all flatD
  | _, _, .nil => rfl
  | _, _, .cons r rs => by rw [List.all_cons, List.all_cons, flat_of r, flats_of rs]
def inD (x : D) (ds : List D) : Bool := ds.any fun y => feq y x
theorem inD_of {w : Wd} {x : V} {d : D} (r : Rep g w x d) : ∀ {vs : List V} {ds : List D}, Reps g w vs ds → inV x vs = inD d ds
  | _, _, .nil => rfl
  | v :: vs, d' :: ds, .cons q rs => by
    show (eqV v x || inV x vs) = (feq d' d || inD d ds)
    rw [feq_of q r, inD_of r rs]
def seqOf (M : MS) (d : D) : Option (List D) := match lk M d with
  | some (.lst ds) => some ds
  | some (.tup ds) => some ds
  | _ => none
def dinS (M : MS) (neg : Bool) (x y : D) : R D := match vP M x, vP M y with
  | some p, some (.list qs) => if SeqAt.shaped p = true ∧ SeqAt.shaped (.list qs) = true then .ok (.bl (if neg then !(qs.any fun z => PyData.eqv z p) else qs.any fun z => PyData.eqv z p)) M else .stuck
  | _, _ => .stuck
def sqS (M : MS) (neg : Bool) (x y : D) : R D := match seqOf M y with
  | some ds => if flatD x = true ∧ ds.all flatD = true then .ok (.bl (if neg then !inD x ds else inD x ds)) M else dinS M neg x y
  | none => .stuck
def inG (neg : Bool) : D → D → MS → R D
  | .str i, .str j, M => match i.cps with
    | ⟨[k]⟩ => .ok (.bl (if neg then !decide (k ∈ j.cps.toList) else decide (k ∈ j.cps.toList))) M
    | _ => .stuck
  | x, y, M => sqS M neg x y
abbrev inS := inG false
abbrev niS := inG true
def rDN (K : PySem.W.Frag) (neg : Bool) : R2 := fun x y H Q => ∃ d ds, Dp K H x d ∧ Dp K H y (.list ds) ∧ SeqAt.shaped d = true ∧ SeqAt.shaped (.list ds) = true ∧ Q (.bl (if neg then !(ds.any fun z => PyData.eqv z d) else ds.any fun z => PyData.eqv z d)) H
theorem din_key {neg : Bool} {w : Wd} {F H : Hp} {M : MS} {x y : V} {dx dy : D} {E : XK} {Q : VK} (st : Sta g w F M H) (rx : Rep g w x dx) (ry : Rep g w y dy) (h : GoodE g w F (dinS M neg dx dy) E Q) : rDN g.K neg x y H Q := by
  unfold dinS at h
  split at h
  · rename_i p qs ep eq
    split at h
    · rename_i z
      exact ⟨p, qs, rx.vP st ep, ry.vP st eq, z.1, z.2, good_ret st h (.bl _)⟩
    · exact h.elim
  · exact h.elim
theorem sq_in {neg : Bool} {w : Wd} {F H : Hp} {M : MS} {x y : V} {dx dy : D} {E : XK} {Q : VK} (st : Sta g w F M H) (rx : Rep g w x dx) (ry : Rep g w y dy) (h : GoodE g w F (sqS M neg dx dy) E Q) : rIn g.K neg x y H Q ∨ rDN g.K neg x y H Q := by
  unfold sqS at h
  cases es : seqOf M dy with
  | none => rw [es] at h; exact h.elim
  | some ds =>
    rw [es] at h
    dsimp only at h
    split at h
    · rename_i z
      refine .inl ?_
      unfold seqOf at es
      cases ey : lk M dy with
      | none => rw [ey] at es; cases es
      | some dy' =>
        rw [ey] at es
        have vy := ry.vw st ey
        cases vy with
        | lst hy qy =>
          cases es
          refine ⟨_, _, rfl, .inl (SqL.of hy), (flat_of rx).trans z.1, (flats_of qy).trans z.2, ?_⟩
          rw [inD_of rx qy]
          exact good_ret st h (.bl _)
        | tup hy qy =>
          cases es
          refine ⟨_, _, rfl, .inr hy, (flat_of rx).trans z.1, (flats_of qy).trans z.2, ?_⟩
          rw [inD_of rx qy]
          exact good_ret st h (.bl _)
        | _ => cases es
    · exact .inr (din_key st rx ry h)
theorem key_in : Key2 g inS (fun x y H Q => (∃ (c : Nat) (z : Str), x = .str ⟨#[c]⟩ ∧ y = .str z ∧ Q (.bl (decide (c ∈ z.cps.toList))) H) ∨ rIn g.K false x y H Q ∨ rDN g.K false x y H Q) := fun w F M H x y dx dy E Q st rx ry h => by
  unfold inS inG at h
  split at h
  · rename_i i j
    cases rx; cases ry
    obtain ⟨cs⟩ := i
    split at h
    · rename_i k e
      have e' : cs = #[k] := e
      subst e'
      exact .inl ⟨_, _, rfl, rfl, good_ret st h (.bl _)⟩
    · exact h.elim
  · exact .inr (sq_in st rx ry h)
theorem key_ni : Key2 g niS (fun x y H Q => (∃ (c : Nat) (z : Str), x = .str ⟨#[c]⟩ ∧ y = .str z ∧ Q (.bl (!decide (c ∈ z.cps.toList))) H) ∨ rIn g.K true x y H Q ∨ rDN g.K true x y H Q) := fun w F M H x y dx dy E Q st rx ry h => by
  unfold niS inG at h
  split at h
  · rename_i i j
    cases rx; cases ry
    obtain ⟨cs⟩ := i
    split at h
    · rename_i k e
      have e' : cs = #[k] := e
      subst e'
      exact .inl ⟨_, _, rfl, rfl, good_ret st h (.bl _)⟩
    · exact h.elim
  · exact .inr (sq_in st rx ry h)
theorem se_in {f h : Sm} (ha : SE g c a f) (hb : SE g c b h) (hm : behindInMarks .In b = false := by rfl) : SE g c (.Compare a [.In] [b] pos) (op2 inS f h) :=
  se_cmp (fun K => fun x y H Q => (∃ (c : Nat) (z : Str), x = .str ⟨#[c]⟩ ∧ y = .str z ∧ Q (.bl (decide (c ∈ z.cps.toList))) H) ∨ rIn K false x y H Q ∨ rDN K false x y H Q) (fun X u => op_in_sign.or (op_in_seq.or (op_inD u))) key_in ha hb hm
theorem se_ni {f h : Sm} (ha : SE g c a f) (hb : SE g c b h) (hm : behindInMarks .NotIn b = false := by rfl) : SE g c (.Compare a [.NotIn] [b] pos) (op2 niS f h) :=
  se_cmp (fun K => fun x y H Q => (∃ (c : Nat) (z : Str), x = .str ⟨#[c]⟩ ∧ y = .str z ∧ Q (.bl (!decide (c ∈ z.cps.toList))) H) ∨ rIn K true x y H Q ∨ rDN K true x y H Q) (fun X u => op_notIn_sign.or (op_notIn_seq.or (op_notInD u))) key_ni ha hb hm
end
end MP
set_option maxHeartbeats 4000000
/-! MPE: tests; and, or, not; displays; places, slices; calls of builtins. -/
namespace MP
open PySem L2 Evl
section
variable {g : Gm} {c : Cxt} {a b e : Expr} {es rest : List Expr} {pos : Pos}
/-! ### tests -/
def truS (x : D) (M : MS) : R Bool := match x with
  | .non => .ok false M
  | .bl b => .ok b M
  | .int i => .ok (i != 0) M
  | .str s => if s.length ≤ big then .ok ((s.length : Int) != 0) M else .stuck
  | d => match lk M d with
    | some (.lst ds) => .ok (!ds.isEmpty) M
    | some (.tup ds) => .ok (!ds.isEmpty) M
    | some (.dk ds) => .ok (!ds.isEmpty) M
    | _ => .stuck
def tstS (f : Sm) : Smt := fun cf ds M => (f cf ds M).bind truS
theorem Reps.isEmpty {w : Wd} {vs : List V} {ds : List D} (r : Reps g w vs ds) : vs.isEmpty = ds.isEmpty := by cases r <;> rfl
theorem map_isEmpty {α β γ : Type} {xs : List (α × β)} {ys : List (α × γ)} (h : xs.map (·.1) = ys.map (·.1)) : xs.isEmpty = ys.isEmpty := by
  cases xs <;> cases ys <;> first | rfl | cases h
theorem tru_key {w : Wd} {F H : Hp} {M : MS} {x : V} {dx : D} {E : XK} {Q : Bool → Hp → Prop} (st : Sta g w F M H) (rx : Rep g w x dx) (h : GoodB g w F (truS dx M) E Q) : ∃ k, TruV g.K x H k ∧ Q k H := by
  unfold truS at h
  split at h
  · cases rx; exact ⟨_, rfl, good_ret st h rfl⟩
  · cases rx; exact ⟨_, rfl, good_ret st h rfl⟩
  · cases rx; exact ⟨_, rfl, good_ret st h rfl⟩
  · cases rx
    split at h
    · rename_i z
      exact ⟨_, ⟨big_le z, rfl⟩, good_ret st h rfl⟩
    · exact h.elim
  · cases ex : lk M dx with
    | none => rw [ex] at h; exact h.elim
    | some d' =>
      rw [ex] at h
      have vx := rx.vw st ex
      cases vx with
      | lst hx qx => exact ⟨_, .inl ⟨_, SqL.of hx, rfl⟩, by rw [qx.isEmpty]; exact good_ret st h rfl⟩
      | tup hx qx => exact ⟨_, .inr (.inl ⟨_, hx, rfl⟩), by rw [qx.isEmpty]; exact good_ret st h rfl⟩
      | dk hx hk qx => exact ⟨_, .inr (.inr ⟨_, hx, rfl⟩), by rw [map_isEmpty hk]; exact good_ret st h rfl⟩
      | _ => exact h.elim
theorem st_of {f : Sm} (h : SE g c e f) (he : ∀ env whole, isTrue e env whole = (do let v ← whole; standAt e.pos; holding [v] (truthy v)) := by intro _ _; rfl) : ST g c e (tstS f) := fun X cf ok W tk =>
  PT.imp (pt_truth (h X cf ok W tk) (he _)) fun σ H Q ⟨w, F, M, ds, st, sl, h0⟩ => ⟨w, F, M, ds, st, sl, Good.bind h0 fun w1 dx x M1 H1 l1 s1 r1 h1 => by
    have q := tru_key s1 r1 h1
    rw [ok.K]
    exact q⟩
/-- a comparison as a test -/
def boolS (x : D) (M : MS) : R Bool := match x with
  | .bl b => .ok b M
  | _ => .stuck
def tcmS (f : Sm) : Smt := fun cf ds M => (f cf ds M).bind boolS
structure Cmp (g : Gm) (op : CmpOp) (o : D → D → MS → R D) : Prop where
  ex : ∃ r : PySem.W.Frag → R2, (∀ X : Cx, X.A.units + 65 < cLine → OpR X (compareOp op) (r X.K)) ∧ Key2 g o (r g.K)
theorem tsts {op : D → D → MS → R D} {r : R2} {W : WX} {f h : Sm} {cf : CF} (k : Key2 g op r) : ∀ σ H Q, TTo g W (tcmS (op2 op f h) cf) σ H Q → tTest (tOp r (TEo g W (f cf)) (TEo g W (h cf))) σ H Q := fun σ H Q ⟨w, F, M, ds, st, sl, h0⟩ => by
  have e : (tcmS (op2 op f h) cf ds M) = ((f cf ds M).bind fun x M1 => (h cf ds M1).bind fun y M2 => (op x y M2).bind boolS) := by
    show ((f cf ds M).bind fun x M1 => (h cf ds M1).bind fun y M2 => op x y M2).bind boolS = _
    cases f cf ds M with
    | ok x M1 =>
      show ((h cf ds M1).bind fun y M2 => op x y M2).bind boolS = ((h cf ds M1).bind fun y M2 => (op x y M2).bind boolS)
      cases h cf ds M1 <;> rfl
    | exc x M1 => rfl
    | stuck => rfl
  have h0' : GoodB g w F (tcmS (op2 op f h) cf ds M) (fun c dx H' => W c dx σ H') Q := h0
  rw [e] at h0'
  exact ⟨w, F, M, ds, st, sl, Good.bind h0' fun w1 dx x M1 H1 l1 s1 r1 h1 => ⟨w1, F, M1, ds, s1, sl.mono l1, Good.bind h1 fun w2 dy y M2 H2 l2 s2 r2 h2 =>
    k w2 F M2 H2 x y dx dy _ _ s2 (r1.mono l2) r2 (Good.bind h2 fun w3 t t' M3 H3 l3 s3 rt q => by
      cases t with
      | bl kk => cases rt; exact ⟨kk, rfl, good_ret s3 q rfl⟩
      | _ => exact q.elim)⟩⟩
theorem st_cmp {op : CmpOp} {o : D → D → MS → R D} {f h : Sm} (k : Cmp g op o) (ha : SE g c a f) (hb : SE g c b h) (hm : behindInMarks op b = false) : ST g c (.Compare a [op] [b] pos) (tcmS (op2 o f h)) := fun X cf ok W tk =>
  let ⟨_, ho, key⟩ := k.ex
  PT.imp (pt_cmpR (ho X ok.room65) (ha X cf ok W tk) (hb X cf ok W tk) hm) fun σ H Q q => tsts (by rw [ok.K]; exact key) σ H Q q
theorem cmp_lt : Cmp g .Lt ltS := ⟨fun _ => _, fun _ _ => op_lt, key_lt⟩
theorem cmp_le : Cmp g .LtE leS := ⟨fun _ => _, fun _ _ => op_le, key_le⟩
theorem cmp_gt : Cmp g .Gt gtS := ⟨fun _ => _, fun _ _ => op_gt, key_gt⟩
theorem cmp_ge : Cmp g .GtE geS := ⟨fun _ => _, fun _ _ => op_ge, key_ge⟩
theorem cmp_eq : Cmp g .Eq eqS := ⟨fun K => fun x y H Q => rEq x y H Q ∨ rEqD K x y H Q, fun X u => op_eq.or (op_eqD (by omega)), key_eq⟩
theorem cmp_ne : Cmp g .NotEq neS := ⟨fun K => fun x y H Q => rNe x y H Q ∨ rNeD K x y H Q, fun X u => op_ne.or (op_neD (by omega)), key_ne⟩
theorem cmp_in : Cmp g .In inS := ⟨fun K => fun x y H Q => (∃ (c : Nat) (z : Str), x = .str ⟨#[c]⟩ ∧ y = .str z ∧ Q (.bl (decide (c ∈ z.cps.toList))) H) ∨ rIn K false x y H Q ∨ rDN K false x y H Q, fun X u => op_in_sign.or (op_in_seq.or (op_inD u)), key_in⟩
theorem cmp_ni : Cmp g .NotIn niS := ⟨fun K => fun x y H Q => (∃ (c : Nat) (z : Str), x = .str ⟨#[c]⟩ ∧ y = .str z ∧ Q (.bl (!decide (c ∈ z.cps.toList))) H) ∨ rIn K true x y H Q ∨ rDN K true x y H Q, fun X u => op_notIn_sign.or (op_notIn_seq.or (op_notInD u)), key_ni⟩
theorem st_lt {f h : Sm} (ha : SE g c a f) (hb : SE g c b h) : ST g c (.Compare a [.Lt] [b] pos) (tcmS (op2 ltS f h)) := st_cmp cmp_lt ha hb (nomark _)
theorem st_le {f h : Sm} (ha : SE g c a f) (hb : SE g c b h) : ST g c (.Compare a [.LtE] [b] pos) (tcmS (op2 leS f h)) := st_cmp cmp_le ha hb (nomark _)
theorem st_gt {f h : Sm} (ha : SE g c a f) (hb : SE g c b h) : ST g c (.Compare a [.Gt] [b] pos) (tcmS (op2 gtS f h)) := st_cmp cmp_gt ha hb (nomark _)
theorem st_ge {f h : Sm} (ha : SE g c a f) (hb : SE g c b h) : ST g c (.Compare a [.GtE] [b] pos) (tcmS (op2 geS f h)) := st_cmp cmp_ge ha hb (nomark _)
theorem st_eq {f h : Sm} (ha : SE g c a f) (hb : SE g c b h) : ST g c (.Compare a [.Eq] [b] pos) (tcmS (op2 eqS f h)) := st_cmp cmp_eq ha hb (nomark _)
theorem st_ne {f h : Sm} (ha : SE g c a f) (hb : SE g c b h) : ST g c (.Compare a [.NotEq] [b] pos) (tcmS (op2 neS f h)) := st_cmp cmp_ne ha hb (nomark _)
theorem st_in {f h : Sm} (ha : SE g c a f) (hb : SE g c b h) (hm : behindInMarks .In b = false := by rfl) : ST g c (.Compare a [.In] [b] pos) (tcmS (op2 inS f h)) := st_cmp cmp_in ha hb hm
theorem st_ni {f h : Sm} (ha : SE g c a f) (hb : SE g c b h) (hm : behindInMarks .NotIn b = false := by rfl) : ST g c (.Compare a [.NotIn] [b] pos) (tcmS (op2 niS f h)) := st_cmp cmp_ni ha hb hm
theorem tst_B {t : TE} {W : WX} {f : Sm} {cf : CF} (h : ∀ σ H Q, TEo g W (f cf) σ H Q → t σ H Q) : ∀ σ H Q, TTo g W (tcmS f cf) σ H Q → tTest t σ H Q := fun σ H Q ⟨w, F, M, ds, st, sl, h0⟩ =>
  h σ H _ ⟨w, F, M, ds, st, sl, Good.bind h0 fun w1 dx x M1 H1 l1 s1 r1 h1 => by
    cases dx with
    | bl k => cases r1; exact ⟨k, rfl, good_ret s1 h1 rfl⟩
    | _ => exact h1.elim⟩
theorem st_chain {op op' : CmpOp} {o o' : D → D → MS → R D} {r r' : R2} {b2 : Expr} {f h k : Sm} (ho : ∀ X : Cx, OpR X (compareOp op) r) (ho' : ∀ X : Cx, OpR X (compareOp op') r') (key : Key2 g o r) (key' : Key2 g o' r') (ha : SE g c a f) (hb : SE g c b h) (hc : SE g c b2 k)
    (hm : lastMarks [op, op'] [b, b2] = false := by with_unfolding_all rfl) : ST g c (.Compare a [op, op'] [b, b2] pos) (tcmS (chS o o' f h k)) := fun X cf ok W tk =>
  PT.imp (pt_chain (ho X) (ho' X) (ha X cf ok W tk) (hb X cf ok W tk) (hc X cf ok W tk) hm) (tst_B (teo_chain key key'))
theorem st_isN {f : Sm} {k : Nat} {p2 : Pos} (ha : SE g c a f) : ST g c (.Compare a [.Is] [.Constant .none k p2] pos) (tcmS (op1 (isNS false) f)) := fun X cf ok W tk =>
  PT.imp (pt_cmp (pc_isN (ha X cf ok W tk))) (tst_B fun σ H Q q => teo_op1 (r := fun x H Q => Q (.bl (decide (x = .non))) H) (fun w F M H x dx E Q st rx h => by
    dsimp only
    rw [vnon_iff rx]
    refine good_ret (rel := Rep g) st h ?_
    cases dx <;> exact .bl _) σ H Q q)
theorem st_notN {f : Sm} {k : Nat} {p2 : Pos} (ha : SE g c a f) : ST g c (.Compare a [.IsNot] [.Constant .none k p2] pos) (tcmS (op1 (isNS true) f)) := fun X cf ok W tk =>
  PT.imp (pt_cmp (pc_notN (ha X cf ok W tk))) (tst_B fun σ H Q q => teo_op1 (r := fun x H Q => Q (.bl (!decide (x = .non))) H) (fun w F M H x dx E Q st rx h => by
    dsimp only
    rw [vnon_iff rx]
    refine good_ret (rel := Rep g) st h ?_
    cases dx <;> exact .bl _) σ H Q q)
/-! ### and, or, not -/
def SW (g : Gm) (c : Cxt) (e : Expr) (f : Smt) : Prop := ∀ X cf, CtxOk g X c cf → ∀ W, Takes X W → PW X e (TTo g W (f cf))
theorem PW.imp {X : Cx} {e : Expr} {t t' : TT} (h : PW X e t) (k : ∀ σ H Q, t' σ H Q → t σ H Q) : PW X e t' := ⟨fun wh pins s σ H Q I q => h.run wh pins s σ H Q I (k σ H Q q)⟩
def andT (f h : Smt) : Smt := fun cf ds M => (f cf ds M).bind fun x M1 => if x = true then h cf ds M1 else .ok false M1
def orT (f h : Smt) : Smt := fun cf ds M => (f cf ds M).bind fun x M1 => if x = true then .ok true M1 else h cf ds M1
def notT (f : Smt) : Smt := fun cf ds M => (f cf ds M).bind fun x M1 => .ok (!x) M1
theorem sw_and1 {f : Smt} (ha : ST g c a f) : SW g c (.BoolOp .And [a] pos) f := fun X cf ok W tk => pw_and1 (ha X cf ok W tk)
theorem sw_or1 {f : Smt} (ha : ST g c a f) : SW g c (.BoolOp .Or [a] pos) f := fun X cf ok W tk => pw_or1 (ha X cf ok W tk)
theorem sw_and {f h : Smt} (ha : ST g c a f) (hb : SW g c (.BoolOp .And (b :: rest) pos) h) : SW g c (.BoolOp .And (a :: b :: rest) pos) (andT f h) := fun X cf ok W tk =>
  PW.imp (pw_and (ha X cf ok W tk) (hb X cf ok W tk)) fun σ H Q ⟨w, F, M, ds, st, sl, h0⟩ => ⟨w, F, M, ds, st, sl, Good.bind h0 fun w1 x x' M1 H1 l1 s1 r1 h1 => by
    subst r1
    cases x' with
    | true => exact ⟨w1, F, M1, ds, s1, sl.mono l1, h1⟩
    | false => exact good_ret s1 h1 rfl⟩
theorem sw_or {f h : Smt} (ha : ST g c a f) (hb : SW g c (.BoolOp .Or (b :: rest) pos) h) : SW g c (.BoolOp .Or (a :: b :: rest) pos) (orT f h) := fun X cf ok W tk =>
  PW.imp (pw_or (ha X cf ok W tk) (hb X cf ok W tk)) fun σ H Q ⟨w, F, M, ds, st, sl, h0⟩ => ⟨w, F, M, ds, st, sl, Good.bind h0 fun w1 x x' M1 H1 l1 s1 r1 h1 => by
    subst r1
    cases x' with
    | true => exact good_ret s1 h1 rfl
    | false => exact ⟨w1, F, M1, ds, s1, sl.mono l1, h1⟩⟩
theorem st_w {f : Smt} (h : SW g c e f) : ST g c e f := fun X cf ok W tk => (h X cf ok W tk).pt
theorem st_not {f : Smt} (ha : ST g c a f) : ST g c (.UnaryOp .Not a pos) (notT f) := fun X cf ok W tk =>
  PT.imp (pt_not (ha X cf ok W tk)) fun σ H Q ⟨w, F, M, ds, st, sl, h0⟩ => ⟨w, F, M, ds, st, sl, Good.bind h0 fun w1 x x' M1 H1 l1 s1 r1 h1 => by
    subst r1
    exact good_ret s1 h1 rfl⟩
/-- as values: all but the last are bools -/
def andV (f h : Sm) : Sm := fun cf ds M => (f cf ds M).bind fun x M1 => match x with
  | .bl true => h cf ds M1
  | .bl false => .ok (.bl false) M1
  | _ => .stuck
def orV (f h : Sm) : Sm := fun cf ds M => (f cf ds M).bind fun x M1 => match x with
  | .bl true => .ok (.bl true) M1
  | .bl false => h cf ds M1
  | _ => .stuck
def notV (f : Sm) : Sm := fun cf ds M => (f cf ds M).bind fun x M1 => match x with
  | .bl k => .ok (.bl (!k)) M1
  | _ => .stuck
theorem se_one {op : BoolOp} {f : Sm} (ha : SE g c a f) : SE g c (.BoolOp op [a] pos) f := fun X cf ok W tk => pe_one (ha X cf ok W tk)
theorem se_and {f h : Sm} (ha : SE g c a f) (hb : SE g c (.BoolOp .And (b :: rest) pos) h) : SE g c (.BoolOp .And (a :: b :: rest) pos) (andV f h) := fun X cf ok W tk =>
  PE.imp (pe_and (ha X cf ok W tk) (hb X cf ok W tk)) fun σ H Q ⟨w, F, M, ds, st, sl, h0⟩ => ⟨w, F, M, ds, st, sl, Good.bind h0 fun w1 x x' M1 H1 l1 s1 r1 h1 => by
    cases x with
    | bl k =>
      cases r1
      refine ⟨k, rfl, ?_⟩
      cases k with
      | true => exact ⟨w1, F, M1, ds, s1, sl.mono l1, h1⟩
      | false => exact good_ret (rel := Rep g) s1 h1 (.bl _)
    | _ => exact h1.elim⟩
theorem se_or {f h : Sm} (ha : SE g c a f) (hb : SE g c (.BoolOp .Or (b :: rest) pos) h) : SE g c (.BoolOp .Or (a :: b :: rest) pos) (orV f h) := fun X cf ok W tk =>
  PE.imp (pe_or (ha X cf ok W tk) (hb X cf ok W tk)) fun σ H Q ⟨w, F, M, ds, st, sl, h0⟩ => ⟨w, F, M, ds, st, sl, Good.bind h0 fun w1 x x' M1 H1 l1 s1 r1 h1 => by
    cases x with
    | bl k =>
      cases r1
      refine ⟨k, rfl, ?_⟩
      cases k with
      | true => exact good_ret (rel := Rep g) s1 h1 (.bl _)
      | false => exact ⟨w1, F, M1, ds, s1, sl.mono l1, h1⟩
    | _ => exact h1.elim⟩
theorem se_not {f : Sm} (ha : SE g c a f) : SE g c (.UnaryOp .Not a pos) (notV f) := fun X cf ok W tk =>
  PE.imp (pe_not (ha X cf ok W tk)) fun σ H Q ⟨w, F, M, ds, st, sl, h0⟩ => ⟨w, F, M, ds, st, sl, Good.bind h0 fun w1 x x' M1 H1 l1 s1 r1 h1 => by
    cases x with
    | bl k =>
      cases r1
      exact ⟨k, rfl, good_ret (rel := Rep g) s1 h1 (.bl _)⟩
    | _ => exact h1.elim⟩
def ifV (t : Smt) (f h : Sm) : Sm := fun cf ds M => (t cf ds M).bind fun x M1 => if x = true then f cf ds M1 else h cf ds M1
theorem se_if {t : Smt} {f h : Sm} (ht : ST g c e t) (ha : SE g c a f) (hb : SE g c b h) : SE g c (.IfExp e a b pos) (ifV t f h) := fun X cf ok W tk =>
  PE.imp (pe_ifExp (ht X cf ok W tk) (ha X cf ok W tk) (hb X cf ok W tk)) fun σ H Q ⟨w, F, M, ds, st, sl, h0⟩ => ⟨w, F, M, ds, st, sl, Good.bind h0 fun w1 x x' M1 H1 l1 s1 r1 h1 => by
    subst r1
    cases x' with
    | true => exact ⟨w1, F, M1, ds, s1, sl.mono l1, h1⟩
    | false => exact ⟨w1, F, M1, ds, s1, sl.mono l1, h1⟩⟩
/-! ### arguments, displays -/
def nilA : Sms := fun _ _ M => .ok [] M
def consA (f : Sm) (h : Sms) : Sms := fun cf ds M => (f cf ds M).bind fun x M1 => (h cf ds M1).bind fun xs M2 => .ok (x :: xs) M2
theorem sa_nil : SA g c [] nilA := fun X cf ok W tk => PA.imp pa_nil fun σ H Q ⟨w, F, M, ds, st, sl, h0⟩ => good_ret (rel := Reps g) st h0 .nil
theorem sa_cons {f : Sm} {h : Sms} (ha : SE g c e f) (hr : SA g c es h) (hs : ∀ env, starEach (e :: es) env = (false, eval e env) :: starEach es env := by intro _; rfl) : SA g c (e :: es) (consA f h) := fun X cf ok W tk =>
  PA.imp (pa_cons (ha X cf ok W tk) (hr X cf ok W tk) (hs _)) fun σ H Q ⟨w, F, M, ds, st, sl, h0⟩ => ⟨w, F, M, ds, st, sl, Good.bind h0 fun w1 x x' M1 H1 l1 s1 r1 h1 =>
    ⟨w1, F, M1, ds, s1, sl.mono l1, Good.bind h1 fun w2 xs xs' M2 H2 l2 s2 r2 h2 => good_ret (rel := Reps g) s2 h2 (.cons (r1.mono l2) r2)⟩⟩
def tupS (f : Sms) : Sm := fun cf ds M => (f cf ds M).bind fun xs M1 => if xs.length ≤ big then .ok (.tup xs) M1 else .stuck
def lstS (f : Sms) : Sm := fun cf ds M => (f cf ds M).bind fun xs M1 => if xs.length ≤ big then .ok (.lst xs) M1 else .stuck
/-- a list that may change -/
def celS (f : Sms) : Sm := fun cf ds M => (f cf ds M).bind fun xs M1 => if xs.length ≤ big then .ok (.cell M1.length) (M1 ++ [.lst xs]) else .stuck
theorem se_tup {f : Sms} {k : Nat} (h : SA g c es f) : SE g c (.Tuple es k pos) (tupS f) := fun X cf ok W tk =>
  PE.imp (pe_tup (h X cf ok W tk)) fun σ H Q ⟨w, F, M, ds, st, sl, h0⟩ => ⟨w, F, M, ds, st, sl, Good.bind h0 fun w1 xs vs M1 H1 l1 s1 r1 h1 => by
    split at h1
    · rename_i z
      exact ⟨by rw [r1.length]; exact big_le z, good_tup s1 r1 h1⟩
    · exact h1.elim⟩
theorem se_lst {f : Sms} (h : SA g c es f) : SE g c (.List es pos) (lstS f) := fun X cf ok W tk =>
  PE.imp (pe_lst (h X cf ok W tk)) fun σ H Q ⟨w, F, M, ds, st, sl, h0⟩ => ⟨w, F, M, ds, st, sl, Good.bind h0 fun w1 xs vs M1 H1 l1 s1 r1 h1 => by
    split at h1
    · rename_i z
      exact ⟨by rw [r1.length]; exact big_le z, good_lst s1 r1 h1⟩
    · exact h1.elim⟩
theorem se_cel {f : Sms} (h : SA g c es f) : SE g c (.List es pos) (celS f) := fun X cf ok W tk =>
  PE.imp (pe_lst (h X cf ok W tk)) fun σ H Q ⟨w, F, M, ds, st, sl, h0⟩ => ⟨w, F, M, ds, st, sl, Good.bind h0 fun w1 xs vs M1 H1 l1 s1 r1 h1 => by
    split at h1
    · rename_i z
      exact ⟨by rw [r1.length]; exact big_le z, good_cell s1 r1 h1⟩
    · exact h1.elim⟩
/-! ### places -/
def ixS : D → D → MS → R D
  | .str s, .int i, M => if s.length ≤ big then (match atI s.cps.toList i with
    | some k => .ok (.str ⟨#[k]⟩) M
    | none => .stuck) else .stuck
  | x, .int i, M => match seqOf M x with
    | some ds => (match atI ds i with
      | some d => .ok d M
      | none => .stuck)
    | none => .stuck
  | _, _, _ => .stuck
theorem Reps.atI {w : Wd} {vs : List V} {ds : List D} (r : Reps g w vs ds) {i : Int} {d : D} (h : L2.atI ds i = some d) : ∃ v, L2.atI vs i = some v ∧ Rep g w v d := by
  unfold L2.atI at h ⊢
  rw [r.length]
  cases e : ixN ds.length i with
  | none => rw [e] at h; cases h
  | some j =>
    rw [e] at h
    exact r.get (i := j) h
theorem key_ix : Key2 g ixS (rIx g.K) := fun w F M H x y dx dy E Q st rx ry h => by
  unfold ixS at h
  split at h
  · cases rx; cases ry
    split at h
    · rename_i z
      split at h
      · rename_i k e
        exact .inr (.inr ⟨_, _, k, rfl, rfl, big_le z, e, good_ret st h (.str _)⟩)
      · exact h.elim
    · exact h.elim
  · cases ry
    unfold seqOf at h
    cases ex : lk M dx with
    | none => rw [ex] at h; exact h.elim
    | some d' =>
      rw [ex] at h
      have vx := rx.vw st ex
      cases vx with
      | lst hx qx =>
        dsimp only at h
        split at h
        · rename_i d e
          obtain ⟨v, e', rv⟩ := qx.atI e
          exact .inl ⟨_, _, _, v, rfl, rfl, SqL.of hx, e', good_ret st h rv⟩
        · exact h.elim
      | tup hx qx =>
        dsimp only at h
        split at h
        · rename_i d e
          obtain ⟨v, e', rv⟩ := qx.atI e
          exact .inr (.inl ⟨_, _, _, v, rfl, rfl, hx, e', good_ret st h rv⟩)
        · exact h.elim
      | _ => exact h.elim
  · exact h.elim
theorem se_ix {f h : Sm} (ha : SE g c a f) (hb : SE g c b h) (hs : ∀ o i, subscripted b false o i = operate [o, i] (getItem o i) := by intro _ _; rfl) : SE g c (.Subscript a b pos) (op2 ixS f h) := fun X cf ok W tk =>
  PE.imp (pe_ix ix_seq (ha X cf ok W tk) (hb X cf ok W tk) hs) fun σ H Q q => teo_op2 (by rw [ok.K]; exact key_ix) σ H Q q
/-! ### slices -/
abbrev Smo := CF → Env → MS → R (Option Int)
abbrev GoodO (g : Gm) := @Good g (Option Int) (Option Int) (fun _ b a => b = a)
def TOo (g : Gm) (W : WX) (f : Env → MS → R (Option Int)) : TO := fun σ H Q => ∃ w F M ds, Sta g w F M H ∧ Slo g w σ ds ∧ GoodO g w F (f ds M) (fun c dx H' => W c dx σ H') Q
def SO (g : Gm) (c : Cxt) (e : Option Expr) (f : Smo) : Prop := ∀ X cf, CtxOk g X c cf → ∀ W, Takes X W → PO X e (TOo g W (f cf))
theorem PO.imp {X : Cx} {e : Option Expr} {t t' : TO} (h : PO X e t) (k : ∀ σ H Q, t' σ H Q → t σ H Q) : PO X e t' := ⟨fun pins s σ H Q I q => h.run pins s σ H Q I (k σ H Q q)⟩
def noO : Smo := fun _ _ M => .ok none M
def someO (f : Sm) : Smo := fun cf ds M => (f cf ds M).bind fun x M1 => match x with
  | .int i => .ok (some i) M1
  | _ => .stuck
theorem so_none : SO g c none noO := fun X cf ok W tk => PO.imp po_none fun σ H Q ⟨w, F, M, ds, st, sl, h0⟩ => good_ret (rel := fun _ b a => b = a) st h0 rfl
theorem so_some {f : Sm} (h : SE g c e f) : SO g c (some e) (someO f) := fun X cf ok W tk => PO.imp (po_some (h X cf ok W tk)) fun σ H Q ⟨w, F, M, ds, st, sl, h0⟩ => ⟨w, F, M, ds, st, sl, Good.bind h0 fun w1 x x' M1 H1 l1 s1 r1 h1 => by
  cases x with
  | int i => cases r1; exact ⟨i, rfl, good_ret (rel := fun _ b a => b = a) s1 h1 rfl⟩
  | _ => exact h1.elim⟩
def cutD (xs : List D) (lo hi : Option Int) : List D := (xs.drop (HT.sIx xs.length 0 lo)).take (HT.sIx xs.length xs.length hi - HT.sIx xs.length 0 lo)
theorem Reps.cut {w : Wd} {vs : List V} {ds : List D} (r : Reps g w vs ds) (lo hi : Option Int) : Reps g w (cutV vs lo hi) (cutD ds lo hi) := by
  unfold cutV cutD
  rw [r.length]
  exact (r.drop _).take _
def slS (lo hi : Option Int) : D → MS → R D
  | .str s, M => if s.length ≤ big then .ok (.str (cutS s lo hi)) M else .stuck
  | x, M => match lk M x with
    | some (.lst ds) => .ok (.lst (cutD ds lo hi)) M
    | some (.scr ns) => .ok (.lst (cutD (ns.map D.int) lo hi)) M
    | some (.tup ds) => if HT.sIx ds.length 0 lo = 0 ∧ HT.sIx ds.length ds.length hi = ds.length then .stuck else .ok (.tup (cutD ds lo hi)) M
    | _ => .stuck
def sliS (f : Sm) (lo hi : Smo) : Sm := fun cf ds M => (f cf ds M).bind fun x M1 => (lo cf ds M1).bind fun l M2 => (hi cf ds M2).bind fun u M3 => slS l u x M3
theorem reps_ints {w : Wd} : ∀ ns : List Int, Reps g w (ns.map V.int) (ns.map D.int)
  | [] => .nil
  | n :: r => .cons (.int n) (reps_ints r)
theorem key_sl {lo hi : Option Int} {w : Wd} {F H : Hp} {M : MS} {x : V} {dx : D} {E : XK} {Q : VK} (st : Sta g w F M H) (rx : Rep g w x dx) (h : GoodE g w F (slS lo hi dx M) E Q) : rSlS x lo hi H Q ∨ rSlL g.K x lo hi H Q ∨ rSlT g.K x lo hi H Q := by
  unfold slS at h
  split at h
  · cases rx
    split at h
    · rename_i z
      exact .inl ⟨_, rfl, big_le z, good_ret st h (.str _)⟩
    · exact h.elim
  · cases ex : lk M dx with
    | none => rw [ex] at h; exact h.elim
    | some d' =>
      rw [ex] at h
      have vx := rx.vw st ex
      cases vx with
      | lst hx qx => exact .inr (.inl ⟨_, _, rfl, SqL.of hx, good_lst st (qx.cut lo hi) h⟩)
      | scr hx => exact .inr (.inl ⟨_, _, rfl, hx, good_lst st ((reps_ints _).cut lo hi) h⟩)
      | tup hx qx =>
        dsimp only at h
        split at h
        · exact h.elim
        · rename_i z
          refine .inr (.inr ⟨_, _, rfl, hx, ?_, good_tup st (qx.cut lo hi) h⟩)
          rw [qx.length]
          exact z
      | _ => exact h.elim
theorem se_sl {f : Sm} {l u : Option Expr} {lo hi : Smo} {p2 : Pos} (ha : SE g c a f) (hl : SO g c l lo) (hu : SO g c u hi) : SE g c (.Subscript a (.Slice l u none p2) pos) (sliS f lo hi) := fun X cf ok W tk =>
  PE.imp (pe_slice (r := fun x lo hi H Q => rSlS x lo hi H Q ∨ rSlL X.K x lo hi H Q ∨ rSlT X.K x lo hi H Q) (sl_str.or (sl_list.or sl_tup)) (ha X cf ok W tk) (hl X cf ok W tk) (hu X cf ok W tk)) fun σ H Q ⟨w, F, M, ds, st, sl, h0⟩ => ⟨w, F, M, ds, st, sl, Good.bind h0 fun w1 x x' M1 H1 l1 s1 r1 h1 =>
    ⟨w1, F, M1, ds, s1, sl.mono l1, Good.bind h1 fun w2 y y' M2 H2 l2 s2 r2 h2 => ⟨w2, F, M2, ds, s2, (sl.mono l1).mono l2, Good.bind h2 fun w3 z z' M3 H3 l3 s3 r3 h3 => by
      subst r2
      subst r3
      rw [ok.K]
      exact key_sl s3 ((r1.mono l2).mono l3) h3⟩⟩⟩
end
end MP
set_option maxHeartbeats 4000000
/-! MPF: what is walked, targets, comprehensions. -/
namespace MP
open PySem L2 Evl
section
variable {g : Gm} {c : Cxt} {a b e tg : Expr} {es rest : List Expr} {pos : Pos}
/-! ### iterators -/
structure ItOk (g : Gm) (w : Wd) (J : It) (items : List D) : Prop where
  ex : ∃ (G : Hp → Prop) (Y : Nat → Hp → V → Hp → Prop), Walk J items.length G Y ∧ (∀ w' F M H, w.le w' → Sta g w' F M H → G H) ∧
    ∀ (i : Nat) H x H' w' F M, i < items.length → w.le w' → Sta g w' F M H → Y i H x H' → ∃ w2 d, w'.le w2 ∧ Sta g w2 F M H' ∧ items[i]? = some d ∧ Rep g w2 x d
def GoodI (g : Gm) (W : WX) (σ : L2.St) (w : Wd) (F : Hp) (r : R (List D)) (Rr : It → Hp → Prop) : Prop := match r with
  | .ok items M' => ∀ w' J H', w.le w' → Sta g w' F M' H' → ItOk g w' J items → Rr J H'
  | .exc x M' => ∀ w' cls dx H', w.le w' → Sta g w' F M' H' → RepX g w' cls dx x → W cls dx σ H'
  | .stuck => False
def TIo (g : Gm) (W : WX) (f : Env → MS → R (List D)) : TI := fun σ H Rr => ∃ w F M ds, Sta g w F M H ∧ Slo g w σ ds ∧ GoodI g W σ w F (f ds M) Rr
def SI (g : Gm) (c : Cxt) (tg iter : Expr) (f : Sms) : Prop := ∀ X cf, CtxOk g X c cf → ∀ W, Takes X W → PI X tg iter (TIo g W (f cf))
theorem PI.imp {X : Cx} {t t' : TI} (h : PI X tg e t) (k : ∀ σ H Q, t' σ H Q → t σ H Q) : PI X tg e t' := ⟨fun pins s σ H Q I q => h.run pins s σ H Q I (k σ H Q q)⟩
theorem tio_bind {W : WX} {α β : Type} {rel : Wd → β → α → Prop} {σ : L2.St} {Rr : It → Hp → Prop} {w : Wd} {F : Hp} {r : R α} {k : α → MS → R (List D)} {Q1 : β → Hp → Prop}
    (h : GoodI g W σ w F (r.bind k) Rr) (hk : ∀ w1 a b M H, w.le w1 → Sta g w1 F M H → rel w1 b a → GoodI g W σ w1 F (k a M) Rr → Q1 b H) : Good g rel w F r (fun c dx H' => W c dx σ H') Q1 := by
  cases r with
  | ok a M =>
    intro w1 b H l s rb
    refine hk w1 a b M H l s rb ?_
    have h' : GoodI g W σ w F (k a M) Rr := h
    cases e : k a M with
    | ok items M' => rw [e] at h'; exact fun w' J H' l' => h' w' J H' (l.trans l')
    | exc x M' => rw [e] at h'; exact fun w' c d H' l' => h' w' c d H' (l.trans l')
    | stuck => rw [e] at h'; exact h'
  | exc x M => exact h
  | stuck => exact h
/-- by what it is: a list, a tuple, a text -/
def iDyn (K : PySem.W.Frag) (tl : TE) : TI := fun σ H Rr => tl σ H fun x H1 => (∃ a, x = .ref a ∧ (∃ xs, SqL K H1 a xs) ∧ Rr (Itl K a) H1) ∨ (∃ a, x = .ref a ∧ (∃ xs, SqT K H1 a xs) ∧ Rr (Itt K a) H1) ∨ ∃ z, x = .str z ∧ Rr (Its z) H1
theorem pi_dyn {X : Cx} {l : Expr} {tl : TE} (hl : PE X l tl) : PI X tg l (iDyn X.K tl) := by
  refine ⟨fun pins s σ H Rr I h => ?_⟩
  refine thn (hl.run pins s σ H _ I h) fun v s1 ⟨x, H1, I1, r1, q1⟩ => ?_
  rcases q1 with ⟨a, e, ⟨xs, hq⟩, q⟩ | ⟨a, e, ⟨xs, hq⟩, q⟩ | ⟨z, ex, q⟩
  · subst e
    cases r1
    obtain ⟨its, rv, p, hz⟩ := I1.list hq
    refine wpAny_pyIter_list p.isList ?_
    refine ⟨s1.heap.objs.size, [s1.heap.objs.size], _, _, H1, rfl, I1.kept (t' := s1.toks) fun b o e => Heap.get?_push_of_some _ e, turn_list a _, ⟨_, Heap.get?_push_size _ rfl, rfl, rfl⟩, fun b hb => ?_, q⟩
    have e : b = s1.heap.objs.size := by simpa using hb
    subst e
    exact I1.fpOk (Nat.le_refl _) (I1.hok.fresh (Nat.le_refl _))
  · subst e
    cases r1
    obtain ⟨its, rv, p, hz⟩ := I1.tuple hq
    refine wpAny_pyIter_tuple (show s1.heap.IsTuple a its.toArray from p) ?_
    refine ⟨s1.heap.objs.size, [s1.heap.objs.size], _, _, H1, rfl, I1.kept (t' := s1.toks) fun b o e => Heap.get?_push_of_some _ e, turn_tuple a _, ⟨_, Heap.get?_push_size _ rfl, rfl, rfl⟩, fun b hb => ?_, q⟩
    have e : b = s1.heap.objs.size := by simpa using hb
    subst e
    exact I1.fpOk (Nat.le_refl _) (I1.hok.fresh (Nat.le_refl _))
  · subst ex
    obtain ⟨t, rfl⟩ := r1
    cases ha : z.cps.all (· < 128)
    · exact wpAny_pyIter_wide ha (pi_one (tk := s1.toks) I1 _ (turn_str _ z t "str_iterator" (.inr rfl)) ⟨_, Heap.get?_push_size _ rfl, rfl, rfl⟩ q)
    · exact wpAny_pyIter_ascii ha (pi_one (tk := s1.toks) I1 _ (turn_str _ z t "str_ascii_iterator" (.inl rfl)) ⟨_, Heap.get?_push_size _ rfl, rfl, rfl⟩ q)
/-- what is walked stands for good -/
def itemsOf (M : MS) : D → Option (List D)
  | .lst ds => some ds
  | .tup ds => some ds
  | .str z => some (z.cps.toList.map fun k => .str ⟨#[k]⟩)
  | .cell n => match M[n]? with
    | some (.frz (.lst ds)) => some ds
    | _ => none
  | _ => none
theorem itemsOf_cell {M : MS} {n : Nat} : itemsOf M (.cell n) = (match M[n]? with
    | some (.frz (.lst ds)) => some ds
    | _ => none) := rfl
def walS (x : D) (M : MS) : R (List D) := match itemsOf M x with
  | some ds => .ok ds M
  | none => .stuck
def itS (f : Sm) : Sms := fun cf ds M => (f cf ds M).bind walS
theorem it_list {w : Wd} {a : Addr} {vs : List V} {ds : List D} (h : w.G a = some (.lst vs)) (r : Reps g w vs ds) : ItOk g w (Itl g.K a) ds := by
  refine ⟨⟨fun H => SqL g.K H a vs, YAt vs, ?_, ?_, ?_⟩⟩
  · have q := walk_list (K := g.K) (a := a) (xs := vs)
    rw [r.length] at q
    exact q
  · exact fun w' F M H l s => SqL.of (s.ext _ _ (l.G _ _ h))
  · rintro i H x H' w' F M hi l s ⟨rfl, e⟩
    obtain ⟨d, e1, e2⟩ := r.getV e
    exact ⟨w', d, .refl _, s, e1, e2.mono l⟩
theorem it_tup {w : Wd} {a : Addr} {vs : List V} {ds : List D} (h : SqT g.K w.G a vs) (r : Reps g w vs ds) : ItOk g w (Itt g.K a) ds := by
  refine ⟨⟨fun H => SqT g.K H a vs, YAt vs, ?_, ?_, ?_⟩⟩
  · have q := walk_tup (K := g.K) (a := a) (xs := vs)
    rw [r.length] at q
    exact q
  · exact fun w' F M H l s => ex_t s.ext (ex_t l.G h)
  · rintro i H x H' w' F M hi l s ⟨rfl, e⟩
    obtain ⟨d, e1, e2⟩ := r.getV e
    exact ⟨w', d, .refl _, s, e1, e2.mono l⟩
theorem it_str {w : Wd} {z : Str} : ItOk g w (Its z) (z.cps.toList.map fun k => .str ⟨#[k]⟩) := by
  refine ⟨⟨fun _ => True, fun i H v H' => H' = H ∧ ∃ c, z.cps[i]? = some c ∧ v = .str ⟨#[c]⟩, ?_, ?_, ?_⟩⟩
  · have q := walk_str (z := z)
    rw [List.length_map, Array.length_toList]
    exact q
  · exact fun w' F M H l s => trivial
  · rintro i H x H' w' F M hi l s ⟨rfl, k, e, rfl⟩
    exact ⟨w', _, .refl _, s, by rw [List.getElem?_map, Array.getElem?_toList, e]; rfl, .str _⟩
theorem si_any {f : Sm} (h : SE g c e f) : SI g c tg e (itS f) := fun X cf ok W tk =>
  PI.imp (pi_dyn (h X cf ok W tk)) fun σ H Rr ⟨w, F, M, ds, st, sl, h0⟩ => ⟨w, F, M, ds, st, sl, tio_bind (rel := Rep g) h0 fun w1 x v M1 H1 l1 s1 r1 h1 => by
    unfold walS at h1
    cases ei : itemsOf M1 x with
    | none => rw [ei] at h1; exact h1.elim
    | some items =>
      rw [ei] at h1
      rw [ok.K]
      cases x with
      | lst ds' =>
        cases ei
        cases r1 with
        | lst q rs => exact .inl ⟨_, rfl, ⟨_, SqL.of (s1.ext _ _ q)⟩, h1 w1 _ H1 (.refl _) s1 (it_list q rs)⟩
      | tup ds' =>
        cases ei
        cases r1 with
        | tup q rs => exact .inr (.inl ⟨_, rfl, ⟨_, ex_t s1.ext q⟩, h1 w1 _ H1 (.refl _) s1 (it_tup q rs)⟩)
      | str z =>
        cases ei
        cases r1
        exact .inr (.inr ⟨_, rfl, h1 w1 _ H1 (.refl _) s1 it_str⟩)
      | cell n =>
        cases r1 with
        | cell hn =>
          have ei' : (match M1[n]? with
            | some (.frz (.lst ds)) => some ds
            | _ => none) = some items := ei
          cases hm : M1[n]? with
          | none => rw [hm] at ei'; cases ei'
          | some cc =>
            rw [hm] at ei'
            have hc := s1.at_ hn hm
            cases cc with
            | frz d =>
              cases d with
              | lst ds' =>
                cases ei'
                obtain ⟨_, rr⟩ := hc
                cases rr with
                | lst q rs => exact .inl ⟨_, rfl, ⟨_, SqL.of (s1.ext _ _ q)⟩, h1 w1 _ H1 (.refl _) s1 (it_list q rs)⟩
              | _ => cases ei'
            | _ => cases ei'
      | _ => cases ei⟩
/-- range -/
def rngD (lo : Int) (n : Nat) : List D := (List.range n).map fun (i : Nat) => D.int (lo + (i : Int))
def rng1 : List D → MS → R (List D)
  | [.int j], M => if -4000000000000000000 ≤ j ∧ j ≤ 4000000000000000000 then .ok (rngD 0 j.toNat) M else .stuck
  | _, _ => .stuck
def rng2 : List D → MS → R (List D)
  | [.int i, .int j], M => if -4000000000000000000 ≤ i ∧ i ≤ 4000000000000000000 ∧ -4000000000000000000 ≤ j ∧ j ≤ 4000000000000000000 then .ok (rngD i (j - i).toNat) M else .stuck
  | _, _ => .stuck
def ranS (r : List D → MS → R (List D)) (f : Sms) : Sms := fun cf ds M => (f cf ds M).bind r
theorem it_rng {w : Wd} {lo : Int} {n : Nat} : ItOk g w (Itr lo n) (rngD lo n) := by
  refine ⟨⟨fun _ => True, YFn fun i => .int (lo + i), ?_, ?_, ?_⟩⟩
  · have q := walk_range (lo := lo) (n := n)
    unfold rngD
    rw [List.length_map, List.length_range]
    exact q
  · exact fun w' F M H l s => trivial
  · rintro i H x H' w' F M hi l s ⟨rfl, rfl⟩
    unfold rngD at hi ⊢
    rw [List.length_map, List.length_range] at hi
    refine ⟨w', _, .refl _, s, ?_, .int _⟩
    rw [List.getElem?_map, List.getElem?_range hi]
    rfl
theorem si_rng1 {f : Sms} {p : Pos} (hm : g.mg "range" = none) (ha : SA g c [a] f) (hg : glB c.sc "range" = true := by decide +kernel) (hs : ∀ env, starEach [a] env = [(false, eval a env)] := by intro _; rfl) :
    SI g c tg (.Call (.Name "range" p) [a] [] pos) (ranS rng1 f) := fun X cf ok W tk =>
  PI.imp (pi_range1 (ok.gl hg) (by rw [ok.mg]; exact hm) (ha X cf ok W tk) (hs _)) fun σ H Rr ⟨w, F, M, ds, st, sl, h0⟩ => ⟨w, F, M, ds, st, sl, tio_bind (rel := Reps g) h0 fun w1 xs vs M1 H1 l1 s1 r1 h1 => by
    unfold rng1 at h1
    split at h1
    · cases r1 with
      | cons q rs =>
        cases rs
        cases q
        split at h1
        · rename_i z
          obtain ⟨z1, z2⟩ := z
          exact ⟨_, rfl, by omega, by omega, h1 w1 _ H1 (.refl _) s1 it_rng⟩
        · exact h1.elim
    · exact h1.elim⟩
theorem si_rng2 {f : Sms} {p : Pos} (hm : g.mg "range" = none) (ha : SA g c [a, b] f) (hg : glB c.sc "range" = true := by decide +kernel) (hs : ∀ env, starEach [a, b] env = [(false, eval a env), (false, eval b env)] := by intro _; rfl) (hs2 : ∀ env, starEach [b] env = [(false, eval b env)] := by intro _; rfl) :
    SI g c tg (.Call (.Name "range" p) [a, b] [] pos) (ranS rng2 f) := fun X cf ok W tk =>
  PI.imp (pi_range2 (ok.gl hg) (by rw [ok.mg]; exact hm) (ha X cf ok W tk) (hs _) (hs2 _)) fun σ H Rr ⟨w, F, M, ds, st, sl, h0⟩ => ⟨w, F, M, ds, st, sl, tio_bind (rel := Reps g) h0 fun w1 xs vs M1 H1 l1 s1 r1 h1 => by
    unfold rng2 at h1
    split at h1
    · cases r1 with
      | cons q rs =>
        cases rs with
        | cons q2 rs =>
          cases rs
          cases q
          cases q2
          split at h1
          · rename_i z
            obtain ⟨z1, z2, z3, z4⟩ := z
            exact ⟨_, _, rfl, ⟨by omega, by omega, by omega, by omega⟩, h1 w1 _ H1 (.refl _) s1 it_rng⟩
          · exact h1.elim
    · exact h1.elim⟩
/-- enumerate of a list -/
def enuD (ds : List D) : List D := (List.range ds.length).map fun (i : Nat) => D.tup [.int (i : Int), ds.getD i .non]
def enuS : List D → MS → R (List D)
  | [x], M => match x, itemsOf M x with
    | .str _, _ => .stuck
    | .tup _, _ => .stuck
    | _, some ds => .ok (enuD ds) M
    | _, none => .stuck
  | _, _ => .stuck
theorem rep_pair {w : Wd} {F H : Hp} {M : MS} {T : Addr} {x y : V} {dx dy : D} (s : Sta g w F M H) (hT : H T = none) (rx : Rep g w x dx) (ry : Rep g w y dy) :
    w.le (w.addG T (.tup [x, y])) ∧ Sta g (w.addG T (.tup [x, y])) F M (upd H T (.tup [x, y])) ∧ Rep g (w.addG T (.tup [x, y])) (.ref T) (.tup [dx, dy]) :=
  have l := Wd.le_addG (s.freeG hT)
  ⟨l, s.newG hT, .tup (.inl (.inl upd_same)) (.cons (rx.mono l) (.cons (ry.mono l) .nil))⟩
theorem it_enum {w : Wd} {a : Addr} {vs : List V} {ds : List D} (h : w.G a = some (.lst vs)) (r : Reps g w vs ds) : ItOk g w (Ite g.K a) (enuD ds) := by
  refine ⟨⟨fun H => SqL g.K H a vs, YPair (fun i => some (.int (i : Nat))) (fun i => vs[i]?), ?_, ?_, ?_⟩⟩
  · have q := walk_enum (K := g.K) (a := a) (xs := vs)
    unfold enuD
    rw [List.length_map, List.length_range, ← r.length]
    exact q
  · exact fun w' F M H l s => SqL.of (s.ext _ _ (l.G _ _ h))
  · rintro i H v H' w' F M hi l s ⟨T, x, y, rfl, hT, rfl, e1, e2⟩
    cases e1
    obtain ⟨d, e3, rd⟩ := r.getV e2
    obtain ⟨l2, s2, r2⟩ := rep_pair s hT (.int i) (rd.mono l)
    refine ⟨_, _, l2, s2, ?_, r2⟩
    unfold enuD
    have hi2 : i < ds.length := (List.getElem?_eq_some_iff.mp e3).1
    rw [List.getElem?_map, List.getElem?_range hi2]
    simp [List.getD, e3]
theorem si_enum {f : Sms} {p p2 : Pos} {k : Nat} (hm : g.mg "enumerate" = none) (ha : SA g c [a] f) (hg : glB c.sc "enumerate" = true := by decide +kernel) (hs : ∀ env, starEach [a] env = [(false, eval a env)] := by intro _; rfl) :
    SI g c (.Tuple es k p2) (.Call (.Name "enumerate" p) [a] [] pos) (ranS enuS f) := fun X cf ok W tk =>
  PI.imp (pi_enum (ok.gl hg) (by rw [ok.mg]; exact hm) (ha X cf ok W tk) (hs _)) fun σ H Rr ⟨w, F, M, ds, st, sl, h0⟩ => ⟨w, F, M, ds, st, sl, tio_bind (rel := Reps g) h0 fun w1 xs vs M1 H1 l1 s1 r1 h1 => by
    rw [ok.K]
    unfold enuS at h1
    split at h1
    · rename_i x
      cases r1 with
      | cons q rs =>
        cases rs
        cases x with
        | lst ds' =>
          cases q with
          | lst q rs => exact ⟨_, _, rfl, SqL.of (s1.ext _ _ q), h1 w1 _ H1 (.refl _) s1 (it_enum q rs)⟩
        | cell n =>
          cases q with
          | cell hn =>
            cases hm : M1[n]? with
            | none =>
              have e : itemsOf M1 (.cell n) = none := by rw [itemsOf_cell, hm]
              rw [e] at h1
              exact h1.elim
            | some cc =>
              have hc := s1.at_ hn hm
              cases cc with
              | frz d =>
                cases d with
                | lst ds' =>
                  have e : itemsOf M1 (.cell n) = some ds' := by rw [itemsOf_cell, hm]
                  rw [e] at h1
                  obtain ⟨_, rr⟩ := hc
                  cases rr with
                  | lst q rs => exact ⟨_, _, rfl, SqL.of (s1.ext _ _ q), h1 w1 _ H1 (.refl _) s1 (it_enum q rs)⟩
                | _ =>
                  have e : itemsOf M1 (.cell n) = none := by rw [itemsOf_cell, hm]
                  rw [e] at h1
                  exact h1.elim
              | _ =>
                have e : itemsOf M1 (.cell n) = none := by rw [itemsOf_cell, hm]
                rw [e] at h1
                exact h1.elim
        | _ => exact h1.elim
    · exact h1.elim⟩
/-- zip of two lists, of two tuples -/
def zipD (xs ys : List D) : List D := List.zipWith (fun x y => .tup [x, y]) xs ys
def zipS : List D → MS → R (List D)
  | [.lst xs, .lst ys], M => .ok (zipD xs ys) M
  | [.tup xs, .tup ys], M => .ok (zipD xs ys) M
  | _, _ => .stuck
theorem getW {α β γ : Type} (f : α → β → γ) : ∀ (xs : List α) (ys : List β) (i : Nat) (x : α) (y : β), xs[i]? = some x → ys[i]? = some y → (List.zipWith f xs ys)[i]? = some (f x y) := fun xs ys i x y h1 h2 => by
  rw [List.getElem?_zipWith, h1, h2]
theorem it_zipL {w : Wd} {a b : Addr} {vs us : List V} {ds es : List D} (h : w.G a = some (.lst vs)) (r : Reps g w vs ds) (h2 : w.G b = some (.lst us)) (r2 : Reps g w us es) : ItOk g w (Itz g.K a b) (zipD ds es) := by
  refine ⟨⟨fun H => SqL g.K H a vs ∧ SqL g.K H b us, YPair (fun i => vs[i]?) (fun i => us[i]?), ?_, ?_, ?_⟩⟩
  · have q := walk_zip (K := g.K) (a := a) (b := b) (xs := vs) (ys := us) (n := (zipD ds es).length) (by unfold zipD; rw [List.length_zipWith, r.length, r2.length])
    exact q
  · exact fun w' F M H l s => ⟨SqL.of (s.ext _ _ (l.G _ _ h)), SqL.of (s.ext _ _ (l.G _ _ h2))⟩
  · rintro i H v H' w' F M hi l s ⟨T, x, y, rfl, hT, rfl, e1, e2⟩
    obtain ⟨d1, f1, rd1⟩ := r.getV e1
    obtain ⟨d2, f2, rd2⟩ := r2.getV e2
    obtain ⟨l2, s2, q⟩ := rep_pair s hT (rd1.mono l) (rd2.mono l)
    exact ⟨_, _, l2, s2, getW _ _ _ _ _ _ f1 f2, q⟩
theorem walk_zipT {K : PySem.W.Frag} {a b : Addr} {xs ys : List V} {n : Nat} (hn : n = min xs.length ys.length) : Walk (RZ.ItzT K a b) n (fun H => SqT K H a xs ∧ SqT K H b ys) (YPair (fun i => xs[i]?) (fun i => ys[i]?)) where
  goes := fun i H hi ⟨h1, h2⟩ => by
    have l1 : i < xs.length := by omega
    have l2 : i < ys.length := by omega
    exact ⟨xs, ys, xs[i], ys[i], h1, h2, List.getElem?_eq_getElem l1, List.getElem?_eq_getElem l2⟩
  stops := fun H ⟨h1, h2⟩ => ⟨xs, ys, h1, h2, by omega⟩
  yields := fun i H v H' hi ⟨h1, h2⟩ ⟨T, x, y, e, hT, e2, k1, k2⟩ => ⟨T, x, y, e, hT, e2, k1 xs h1, k2 ys h2⟩
theorem it_zipT {w : Wd} {a b : Addr} {vs us : List V} {ds es : List D} (h : SqT g.K w.G a vs) (r : Reps g w vs ds) (h2 : SqT g.K w.G b us) (r2 : Reps g w us es) : ItOk g w (RZ.ItzT g.K a b) (zipD ds es) := by
  refine ⟨⟨fun H => SqT g.K H a vs ∧ SqT g.K H b us, YPair (fun i => vs[i]?) (fun i => us[i]?), ?_, ?_, ?_⟩⟩
  · have q := walk_zipT (K := g.K) (a := a) (b := b) (xs := vs) (ys := us) (n := (zipD ds es).length) (by unfold zipD; rw [List.length_zipWith, r.length, r2.length])
    exact q
  · exact fun w' F M H l s => ⟨ex_t s.ext (ex_t l.G h), ex_t s.ext (ex_t l.G h2)⟩
  · rintro i H v H' w' F M hi l s ⟨T, x, y, rfl, hT, rfl, e1, e2⟩
    obtain ⟨d1, f1, rd1⟩ := r.getV e1
    obtain ⟨d2, f2, rd2⟩ := r2.getV e2
    obtain ⟨l2, s2, q⟩ := rep_pair s hT (rd1.mono l) (rd2.mono l)
    exact ⟨_, _, l2, s2, getW _ _ _ _ _ _ f1 f2, q⟩
theorem si_zip {f : Sms} {p p2 : Pos} {k : Nat} (hm : g.mg "zip" = none) (ha : SA g c [a, b] f) (hg : glB c.sc "zip" = true := by decide +kernel) (hs : ∀ env, starEach [a, b] env = (false, eval a env) :: starEach [b] env := by intro _; rfl) (hpl : ∀ env, (backTo pos (starEach [b] env)).any (·.1) = false := by intro _; rfl) :
    SI g c (.Tuple es k p2) (.Call (.Name "zip" p) [a, b] [] pos) (ranS zipS f) := fun X cf ok W tk =>
  PI.imp (RZ.pi_zipA (ok.gl hg) (by rw [ok.mg]; exact hm) (ha X cf ok W tk) (hs _) (hpl _)) fun σ H Rr ⟨w, F, M, ds, st, sl, h0⟩ => ⟨w, F, M, ds, st, sl, tio_bind (rel := Reps g) h0 fun w1 xs vs M1 H1 l1 s1 r1 h1 => by
    rw [ok.K]
    unfold zipS at h1
    split at h1
    · cases r1 with
      | cons q rs =>
        cases rs with
        | cons q2 rs =>
          cases rs
          cases q with
          | lst qa ra =>
            cases q2 with
            | lst qb rb => exact ⟨_, _, _, _, rfl, .inl ⟨SqL.of (s1.ext _ _ qa), SqL.of (s1.ext _ _ qb), h1 w1 _ H1 (.refl _) s1 (it_zipL qa ra qb rb)⟩⟩
    · cases r1 with
      | cons q rs =>
        cases rs with
        | cons q2 rs =>
          cases rs
          cases q with
          | tup qa ra =>
            cases q2 with
            | tup qb rb => exact ⟨_, _, _, _, rfl, .inr ⟨ex_t s1.ext qa, ex_t s1.ext qb, h1 w1 _ H1 (.refl _) s1 (it_zipT qa ra qb rb)⟩⟩
    · exact h1.elim⟩
/-! ### targets -/
abbrev Bnd := D → Env → Option Env
/-- a target binds slots of vs alone -/
def TGo (g : Gm) (vs : List Nat) (b : Bnd) : TG := fun v σ H Q => ∃ w F M ds d, Sta g w F M H ∧ Slo g w σ ds ∧ Rep g w v d ∧ (match b d ds with
  | some ds' => ∀ σ', Slo g w σ' ds' → σ'.length = σ.length → (∀ j, j ∉ vs → σ'[j]? = σ[j]?) → Q σ' H
  | none => False)
def SG (g : Gm) (c : Cxt) (t : Expr) (vs : List Nat) (b : Bnd) : Prop := ∀ X cf, CtxOk g X c cf → PG X t (TGo g vs b)
theorem PG.imp {X : Cx} {t : Expr} {u u' : TG} (h : PG X t u) (k : ∀ v σ H Q, u' v σ H Q → u v σ H Q) : PG X t u' := ⟨fun pins s σ H v x Q I r q => h.run pins s σ H v x Q I r (k v σ H Q q)⟩
def locB (c : Cxt) (x : Str) : Bool := match c.sc.names.lookup x with
  | some .local => true
  | some .cell => c.fn x
  | _ => false
theorem loc_of {X : Cx} {cf : CF} (ok : CtxOk g X c cf) {x : Str} (h : locB c x = true) : L2.Loc X.env.scope x ∧ (X.fn x = true ∨ X.env.scope.names.lookup x = some .local) := by
  rw [ok.sc]
  unfold locB at h
  unfold L2.Loc
  cases e : c.sc.names.lookup x with
  | none => rw [e] at h; cases h
  | some k =>
    rw [e] at h
    cases k with
    | «local» => exact ⟨.inl rfl, .inr rfl⟩
    | cell => exact ⟨.inr rfl, .inl (ok.fn x h)⟩
    | _ => cases h
def nameB (i : Nat) : Bnd := fun d ds => some (ds.set i (some d))
theorem sg_name (i : Nat) {x : Str} (hN : c.N[i]? = some x := by rfl) (hv : locB c x = true := by decide +kernel) : SG g c (.Name x pos) [i] (nameB i) := fun X cf ok =>
  PG.imp (pg_name (i := i) (by rw [ok.N]; exact ok.nd) (by rw [ok.N]; exact hN) (loc_of ok hv).1 (loc_of ok hv).2) fun v σ H Q ⟨w, F, M, ds, d, st, sl, r, h⟩ =>
    h (σ.set i (some v)) (sl.set i r) List.length_set fun j hj => by rw [List.getElem?_set_ne (by simp at hj; omega)]
def TGs' (g : Gm) (vs : List Nat) (b : List D → Env → Option Env) : TGs := fun us σ H Q => ∃ w F M ds d, Sta g w F M H ∧ Slo g w σ ds ∧ Reps g w us d ∧ (match b d ds with
  | some ds' => ∀ σ', Slo g w σ' ds' → σ'.length = σ.length → (∀ j, j ∉ vs → σ'[j]? = σ[j]?) → Q σ' H
  | none => False)
def SGs (g : Gm) (c : Cxt) (t : List Expr) (vs : List Nat) (b : List D → Env → Option Env) : Prop := ∀ X cf, CtxOk g X c cf → PGs X t (TGs' g vs b)
theorem PGs.imp {X : Cx} {t : List Expr} {u u' : TGs} (h : PGs X t u) (k : ∀ v σ H Q, u' v σ H Q → u v σ H Q) : PGs X t u' := ⟨fun pins s σ H v x Q I r q => h.run pins s σ H v x Q I r (k v σ H Q q)⟩
def nilB : List D → Env → Option Env
  | [], ds => some ds
  | _, _ => none
def consB (b : Bnd) (k : List D → Env → Option Env) : List D → Env → Option Env
  | d :: r, ds => (b d ds).bind (k r)
  | _, _ => none
theorem sgs_nil : SGs g c [] [] nilB := fun X cf ok => PGs.imp pgs_nil fun us σ H Q ⟨w, F, M, ds, d, st, sl, r, h⟩ => by
  cases r with
  | nil => exact ⟨rfl, h σ sl rfl fun _ _ => rfl⟩
  | cons _ _ => exact h.elim
theorem sgs_cons {vs us : List Nat} {t : Expr} {ts : List Expr} {bd : Bnd} {k : List D → Env → Option Env} (h1 : SG g c t vs bd) (h2 : SGs g c ts us k) (hs : ∀ env, (assignEach (t :: ts) env).map (·.2) = assign t env :: (assignEach ts env).map (·.2) := by intro _; rfl) : SGs g c (t :: ts) (vs ++ us) (consB bd k) := fun X cf ok =>
  PGs.imp (pgs_cons (h1 X cf ok) (h2 X cf ok) (hs _)) fun us' σ H Q ⟨w, F, M, ds, dd, st, sl, r, h⟩ => by
    cases dd with
    | nil => exact h.elim
    | cons d' ds' =>
     cases r with
     | cons r rs =>
      refine ⟨_, _, rfl, w, F, M, ds, d', st, sl, r, ?_⟩
      have h' : (match (bd d' ds).bind (k ds') with
        | some ds2 => ∀ σ', Slo g w σ' ds2 → σ'.length = σ.length → (∀ j, j ∉ vs ++ us → σ'[j]? = σ[j]?) → Q σ' H
        | none => False) := h
      cases e : bd d' ds with
      | none => rw [e] at h'; exact h'.elim
      | some ds1 =>
        rw [e] at h'
        intro σ1 sl1 n1 k1
        refine ⟨w, F, M, ds1, ds', st, sl1, rs, ?_⟩
        have h2 : (match k ds' ds1 with
          | some ds2 => ∀ σ', Slo g w σ' ds2 → σ'.length = σ.length → (∀ j, j ∉ vs ++ us → σ'[j]? = σ[j]?) → Q σ' H
          | none => False) := h'
        cases e2 : k ds' ds1 with
        | none => rw [e2] at h2; exact h2.elim
        | some ds2 =>
          rw [e2] at h2
          exact fun σ2 sl2 n2 k2 => h2 σ2 sl2 (n2.trans n1) fun j hj => (k2 j (fun z => hj (List.mem_append_right _ z))).trans (k1 j (fun z => hj (List.mem_append_left _ z)))
def tupB (k : List D → Env → Option Env) : Bnd
  | .tup xs, ds => k xs ds
  | _, _ => none
theorem sg_tup {vs : List Nat} {k : List D → Env → Option Env} {n kk : Nat} (h : SGs g c es vs k) (hl : ∀ xs ds ds', k xs ds = some ds' → xs.length = n) (hn : ∀ env, (assignEach es env).length = n := by intro _; rfl) (hst : ∀ env, (assignEach es env).findIdx? (·.1) = none := by intro _; rfl) : SG g c (.Tuple es kk pos) vs (tupB k) := fun X cf ok =>
  PG.imp (pg_tup ok.calm (h X cf ok) (hn _) (hst _)) fun v σ H Q ⟨w, F, M, ds, d, st, sl, r, h⟩ => by
    cases d with
    | tup xs =>
      cases r with
      | tup q rs =>
        have h' : (match k xs ds with
          | some ds' => ∀ σ', Slo g w σ' ds' → σ'.length = σ.length → (∀ j, j ∉ vs → σ'[j]? = σ[j]?) → Q σ' H
          | none => False) := h
        cases e : k xs ds with
        | none => rw [e] at h'; exact h'.elim
        | some ds' =>
          rw [e] at h'
          refine ⟨_, _, rfl, by rw [ok.K]; exact ex_t st.ext q, by rw [rs.length]; exact hl _ _ _ e, w, F, M, ds, xs, st, sl, rs, ?_⟩
          rw [e]
          exact h'
    | _ => exact h.elim
theorem nil_len : ∀ xs ds ds', nilB xs ds = some ds' → xs.length = 0
  | [], _, _, _ => rfl
  | _ :: _, _, _, h => by cases h
theorem cons_len {bd : Bnd} {k : List D → Env → Option Env} {n : Nat} (hk : ∀ xs ds ds', k xs ds = some ds' → xs.length = n) : ∀ xs ds ds', consB bd k xs ds = some ds' → xs.length = n + 1
  | [], _, _, h => by cases h
  | x :: xs, ds, ds', h => by
    have h' : (bd x ds).bind (k xs) = some ds' := h
    cases e : bd x ds with
    | none => rw [e] at h'; cases h'
    | some ds1 => rw [e] at h'; exact congrArg (· + 1) (hk xs ds1 ds' h')
end
end MP
set_option maxHeartbeats 4000000
/-! MPG: comprehensions. -/
namespace MP
open PySem L2 Evl
section
variable {g : Gm} {c : Cxt} {a b e elt tg iter : Expr} {es rest ifs : List Expr} {pos : Pos}
def noX {α : Type} (r : R α) : R α := match r with
  | .ok a M => .ok a M
  | _ => .stuck
theorem noX_bind {α α' β' : Type} {rel' : Wd → β' → α' → Prop} {w : Wd} {F : Hp} {r : R α} {k : α → MS → R α'} {E : XK} {Q : β' → Hp → Prop} (h : Good g rel' w F ((noX r).bind k) E Q) : ∃ a M, r = .ok a M ∧ Good g rel' w F (k a M) E Q := by
  cases r with
  | ok a M => exact ⟨a, M, rfl, h⟩
  | exc x M => exact h.elim
  | stuck => exact h.elim
theorem good_ok {α β : Type} {rel : Wd → β → α → Prop} {w : Wd} {F : Hp} {r : R α} {x : α} {M : MS} {E : XK} {Q : β → Hp → Prop} (e : r = .ok x M) (h : ∀ w' b H, w.le w' → Sta g w' F M H → rel w' b x → Q b H) : Good g rel w F r E Q := by
  rw [e]
  exact h
theorem goodI_of {α β : Type} {rel : Wd → β → α → Prop} {W : WX} {σ : L2.St} {Rr : It → Hp → Prop} {w : Wd} {F : Hp} {r : R (List D)} {k : List D → MS → R α} {Q : β → Hp → Prop}
    (h : Good g rel w F (r.bind k) (fun c dx H' => W c dx σ H') Q) (hk : ∀ w1 items M1 J H1, w.le w1 → Sta g w1 F M1 H1 → ItOk g w1 J items → Good g rel w1 F (k items M1) (fun c dx H' => W c dx σ H') Q → Rr J H1) : GoodI g W σ w F r Rr := by
  cases r with
  | ok items M => exact fun w1 J H1 l s i => hk w1 items M J H1 l s i (Good.mono l h)
  | exc x M => exact h
  | stuck => exact h
def Cxt.blk (c : Cxt) (scope : Scope) : Cxt := ⟨c.N, L2.relS scope c.sc, fun x => scope.names.lookup x == some .cell⟩
theorem CtxOk.blk {X : Cx} {cf : CF} (ok : CtxOk g X c cf) (s : Shared) (H : Hp) (scope : Scope) (C : Addr) (cl : List (Str × Addr)) (fp : List Addr) : CtxOk g (X.blk s H scope (compEnvC scope cl C X.env) fp) (c.blk scope) cf where
  prog := ok.prog
  w := ok.w
  K := ok.K
  mg := ok.mg
  base := ok.base
  N := ok.N
  nd := ok.nd
  sc := by
    show L2.relS scope X.env.scope = L2.relS scope c.sc
    rw [ok.sc]
  fn := fun _ h => h
  calm := ok.calm
  fns := ok.fns
/-- the slots forgotten -/
def wipeD (ds : Env) : List Nat → Env
  | [] => ds
  | v :: vs => (wipeD ds vs).set v none
theorem Slo.wipe {w : Wd} {σ : L2.St} {ds : Env} (s : Slo g w σ ds) : ∀ vs, Slo g w (L2.wipe σ vs) (wipeD ds vs)
  | [] => s
  | v :: vs => (Slo.wipe s vs).setNone v none
theorem wipe_eq {σ τ : L2.St} (hl : σ.length = τ.length) : ∀ {vs : List Nat}, (∀ j, j ∉ vs → σ[j]? = τ[j]?) → L2.wipe σ vs = L2.wipe τ vs := by
  intro vs h
  apply List.ext_getElem?
  intro j
  have key : ∀ (ρ : L2.St) (us : List Nat), j ∈ us → (L2.wipe ρ us)[j]? = if j < ρ.length then some none else none := by
    intro ρ us
    induction us with
    | nil => intro z; cases z
    | cons u us ih =>
      intro z
      show ((L2.wipe ρ us).set u none)[j]? = _
      by_cases hu : u = j
      · subst hu
        by_cases hlt : u < ρ.length
        · rw [if_pos hlt, List.getElem?_set_self (by rw [L2.wipe_length]; exact hlt)]
        · rw [if_neg hlt, List.getElem?_eq_none (by rw [List.length_set, L2.wipe_length]; omega)]
      · rw [List.getElem?_set_ne hu]
        rcases List.mem_cons.mp z with z | z
        · exact absurd z.symm hu
        · exact ih z
  by_cases hj : j ∈ vs
  · rw [key σ vs hj, key τ vs hj, hl]
  · rw [L2.wipe_out hj, L2.wipe_out hj]
    exact h j hj
theorem wipe_wipe {σ : L2.St} {vs : List Nat} : L2.wipe (L2.wipe σ vs) vs = L2.wipe σ vs := wipe_eq (L2.wipe_length _ _) fun j hj => L2.wipe_out hj
/-- the items of a comprehension -/
def compL (bd : Bnd) (t : Env → MS → R Bool) (f : Env → MS → R D) (ds : Env) : List D → MS → R (List D)
  | [], M => .ok [] M
  | x :: xs, M => match bd x ds with
    | none => .stuck
    | some ds1 => (noX (t ds1 M)).bind fun k M1 => if k = true then (noX (f ds1 M1)).bind fun y M2 => (compL bd t f ds xs M2).bind fun ys M3 => .ok (y :: ys) M3 else compL bd t f ds xs M1
def lcS (ws : List Nat) (fin : List D → MS → R D) (it : Sms) (bd : Bnd) (t : Smt) (f : Sm) : Sm := fun cf ds M => (it cf ds M).bind fun items M1 => if items.length ≤ big then (compL bd (t cf) (f cf) (wipeD ds ws) items M1).bind fin else .stuck
/-- how the made list ends up -/
def Fin (g : Gm) (fin : List D → MS → R D) : Prop := ∀ (w : Wd) (F : Hp) (M : MS) (H : Hp) (p : Addr) (vs : List V) (acc : List D) (E : XK) (Q : VK), Sta g w (upd F p (.lst vs)) M H → F p = none → Reps g w vs acc → GoodE g w F (fin acc M) E Q → Q (.ref p) H
def finL : List D → MS → R D := fun ys M => .ok (.lst ys) M
def finC : List D → MS → R D := fun ys M => .ok (.cell M.length) (M ++ [.lst ys])
theorem fin_L : Fin g finL := fun w F M H p vs acc E Q s hF r h => by
  obtain ⟨l, s2⟩ := s.outG hF
  exact h _ _ _ l s2 (.lst upd_same (r.mono l))
theorem fin_C : Fin g finC := fun w F M H p vs acc E Q s hF r h => by
  refine h _ _ _ Wd.le_addI (s.outI hF ⟨s.sep p _ upd_same, hF, vs, s.frm _ _ upd_same, r.mono Wd.le_addI⟩) (.cell ?_)
  rw [s.len]
  show (w.io ++ [p])[w.io.length]? = some p
  rw [List.getElem?_append_right (Nat.le_refl _), Nat.sub_self]
  rfl
abbrev W0 : WX := fun _ _ _ _ => False
theorem bind_assoc {α β γ : Type} (r : R α) (f : α → MS → R β) (h : β → MS → R γ) : (r.bind f).bind h = r.bind fun a M => (f a M).bind h := by cases r <;> rfl
theorem tlc_key {W : WX} {ws vs : List Nat} {fin : List D → MS → R D} {it : Sms} {bd : Bnd} {t : Smt} {f : Sm} {cf : CF} (hvs : ∀ v ∈ vs, v ∈ ws) (hfin : Fin g fin) : ∀ σ H Q, TEo g W (lcS ws fin it bd t f cf) σ H Q → tLc (TIo g W (it cf)) (TGo g vs bd) (TTo g W0 (t cf)) (TEo g W0 (f cf)) ws σ H Q := by
  intro σ H Q ⟨w, F, M, ds, st, sl, h0⟩
  refine ⟨w, F, M, ds, st, sl, goodI_of (rel := Rep g) h0 fun w1 items M1 J H1 l1 s1 i1 h1 => ?_⟩
  intro p hp
  split at h1
  · rename_i hbig
    obtain ⟨G, Y, wk, hG, hY⟩ := i1.ex
    have hF : F p = none := s1.freeF hp
    refine lc_it wk (fun i H => ∃ w2 M2 us acc, w1.le w2 ∧ Sta g w2 (upd F p (.lst us)) M2 H ∧ Reps g w2 us acc ∧ acc.length ≤ i ∧ GoodE g w2 F ((compL bd (t cf) (f cf) (wipeD ds ws) (items.drop i) M2).bind fun ys M3 => fin (acc ++ ys) M3) (fun c dx H' => W c dx σ H') Q) ?_ ?_ ?_ ?_
    · exact ⟨w1, M1, [], [], .refl _, s1.newF hp, .nil, Nat.le_refl _, h1⟩
    · rintro i H _ ⟨w2, M2, us, acc, l2, s2, _⟩
      exact hG w2 _ M2 H l2 s2
    · rintro i x H H' hi ⟨w2, M2, us, acc, l2, s2, r2, hl, h2⟩ hy
      obtain ⟨w3, d, l3, s3, ed, rd⟩ := hY i H x H' w2 _ M2 hi l2 s2 hy
      have edr : items.drop i = d :: items.drop (i + 1) := by
        have hlt := (List.getElem?_eq_some_iff.mp ed).1
        rw [List.drop_eq_getElem_cons hlt]
        congr 1
        exact (List.getElem?_eq_some_iff.mp ed).2
      rw [edr] at h2
      have h3 : GoodE g w2 F ((match bd d (wipeD ds ws) with
        | none => R.stuck
        | some ds1 => (noX (t cf ds1 M2)).bind fun k M1 => if k = true then (noX (f cf ds1 M1)).bind fun y M2 => (compL bd (t cf) (f cf) (wipeD ds ws) (items.drop (i + 1)) M2).bind fun ys M3 => R.ok (y :: ys) M3 else compL bd (t cf) (f cf) (wipeD ds ws) (items.drop (i + 1)) M1).bind fun ys M3 => fin (acc ++ ys) M3) (fun c dx H' => W c dx σ H') Q := h2
      cases eb : bd d (wipeD ds ws) with
      | none => rw [eb] at h3; exact h3.elim
      | some ds1 =>
        rw [eb] at h3
        dsimp only at h3
        rw [bind_assoc] at h3
        have sl0 : Slo g w3 (L2.wipe σ ws) (wipeD ds ws) := (sl.mono ((l1.trans l2).trans l3)).wipe ws
        refine ⟨w3, _, M2, wipeD ds ws, d, s3, sl0, rd, ?_⟩
        rw [eb]
        intro σ2 sl2 n2 k2
        refine ⟨?_, ?_⟩
        · rw [wipe_eq (σ := σ2) (τ := L2.wipe σ ws) n2 fun j hj => k2 j fun z => hj (hvs j z)]
          exact wipe_wipe
        · obtain ⟨k, M3, et, h4⟩ := noX_bind h3
          refine ⟨w3, _, M2, ds1, s3, sl2, good_ok et fun w4 k' H3 l4 s4 ek => ?_⟩
          subst ek
          cases k' with
          | true =>
            rw [if_pos rfl, bind_assoc] at h4
            obtain ⟨y, M4, ef, h5⟩ := noX_bind h4
            rw [if_pos rfl]
            refine ⟨w4, _, M3, ds1, s4, sl2.mono l4, good_ok ef fun w5 v H4 l5 s5 rv => ?_⟩
            refine ⟨us, s5.frm _ _ upd_same, ?_, w5, M4, us ++ [v], acc ++ [y], l2.trans (l3.trans (l4.trans l5)), s5.setF, (r2.mono (l3.trans (l4.trans l5))).append (.cons rv .nil), ?_, ?_⟩
            · rw [r2.length]
              exact big_lt (by omega)
            · rw [List.length_append, List.length_singleton]; omega
            · rw [bind_assoc] at h5
              have h6 : GoodE g w2 F ((compL bd (t cf) (f cf) (wipeD ds ws) (items.drop (i + 1)) M4).bind fun ys M3 => fin (acc ++ y :: ys) M3) (fun c dx H' => W c dx σ H') Q := h5
              simp only [List.append_assoc, List.singleton_append]
              exact Good.mono (l3.trans (l4.trans l5)) h6
          | false =>
            rw [if_neg Bool.false_ne_true] at h4
            rw [if_neg Bool.false_ne_true]
            exact ⟨w4, M3, us, acc, l2.trans (l3.trans l4), s4, r2.mono (l3.trans l4), by omega, Good.mono (l3.trans l4) h4⟩
    · rintro H ⟨w2, M2, us, acc, l2, s2, r2, hl, h2⟩
      rw [List.drop_length] at h2
      have h3 : GoodE g w2 F (fin (acc ++ []) M2) (fun c dx H' => W c dx σ H') Q := h2
      rw [List.append_nil] at h3
      exact hfin w2 F M2 H p us acc _ Q s2 hF r2 h3
  · exact h1.elim
/-- ifs of a comprehension -/
def STs (g : Gm) (c : Cxt) (es : List Expr) (f : Smt) : Prop := ∀ X cf, CtxOk g X c cf → ∀ W, Takes X W → PTs X es (TTo g W (f cf))
theorem PTs.imp {X : Cx} {es : List Expr} {t t' : TT} (h : PTs X es t) (k : ∀ σ H Q, t' σ H Q → t σ H Q) : PTs X es t' := ⟨fun pins s σ H Q I q => h.run pins s σ H Q I (k σ H Q q)⟩
def yesT : Smt := fun _ _ M => .ok true M
theorem sts_nil : STs g c [] yesT := fun X cf ok W tk => PTs.imp pts_nil fun σ H Q ⟨w, F, M, ds, st, sl, h0⟩ => good_ret (rel := fun _ b a => b = a) st h0 rfl
theorem sts_one {t : Smt} (h : ST g c e t) : STs g c [e] t := fun X cf ok W tk => pts_one (h X cf ok W tk)
structure LcOk (g : Gm) (c : Cxt) (elt tg iter : Expr) (ifs : List Expr) (scope : Scope) (own : List (Str × Nat)) (it : Sms) (vs : List Nat) (bd : Bnd) (t : Smt) (f : Sm) : Prop where
  hi : SI g c tg iter it
  hg : SG g (c.blk scope) tg vs bd
  ht : STs g (c.blk scope) ifs t
  he : SE g (c.blk scope) elt f
  hb : blkC c.N c.sc scope own = true
  hv : (vs.all fun v => (own.map (·.2)).contains v) = true
  hs : ∀ env x, foldedSetIterable iter env x = pure x
theorem LcOk.vs {scope : Scope} {own : List (Str × Nat)} {it : Sms} {vs : List Nat} {bd : Bnd} {t : Smt} {f : Sm} (h : LcOk g c elt tg iter ifs scope own it vs bd t f) : ∀ v ∈ vs, v ∈ own.map (·.2) := fun v hv => by
  have q := List.all_eq_true.mp h.hv v hv
  simpa using q
theorem se_lc {scope : Scope} {own : List (Str × Nat)} {it : Sms} {vs : List Nat} {bd : Bnd} {t : Smt} {f : Sm} {fin : List D → MS → R D} (h : LcOk g c elt tg iter ifs scope own it vs bd t f) (hf : Fin g fin) : SE g c (.ListComp elt [⟨tg, iter, ifs, 0⟩] scope pos) (lcS (own.map (·.2)) fin it bd t f) := fun X cf ok W tk =>
  PE.imp (pe_lc ok.calm (by rw [ok.N]; exact ok.nd) (h.hi X cf ok W tk) (by rw [ok.N, ok.sc]; exact blkOk_by h.hb) (fun s H C cl fp => h.hg _ cf (ok.blk s H scope C cl fp)) (fun s H C cl fp => h.ht _ cf (ok.blk s H scope C cl fp) W0 takes0) (fun s H C cl fp => h.he _ cf (ok.blk s H scope C cl fp) W0 takes0) (h.hs _)) (tlc_key h.vs hf)
end
end MP
set_option maxHeartbeats 4000000
/-! MPH: statements. -/
namespace MP
open PySem L2 Evl
inductive Fl where
  | nx (ds : Env) | rt (d : D) | bk (ds : Env) | ct (ds : Env)
abbrev Ss := CF → Env → MS → R Fl
def GoodS (g : Gm) (W : WX) (w : Wd) (F : Hp) (r : R Fl) (T : Ends) : Prop := match r with
  | .ok (.nx ds) M => ∀ w' σ H, w.le w' → Sta g w' F M H → Slo g w' σ ds → T.nx σ H
  | .ok (.rt d) M => ∀ w' v H, w.le w' → Sta g w' F M H → Rep g w' v d → T.rt v H
  | .ok (.bk ds) M => ∀ w' σ H, w.le w' → Sta g w' F M H → Slo g w' σ ds → T.bk σ H
  | .ok (.ct ds) M => ∀ w' σ H, w.le w' → Sta g w' F M H → Slo g w' σ ds → T.ct σ H
  | .exc x M => ∀ w' cls dx H σ, w.le w' → Sta g w' F M H → RepX g w' cls dx x → W cls dx σ H
  | .stuck => False
theorem GoodS.mono {g : Gm} {W : WX} {w w' : Wd} {F : Hp} {r : R Fl} {T : Ends} (l : w.le w') (h : GoodS g W w F r T) : GoodS g W w' F r T := by
  cases r with
  | ok a M => cases a <;> exact fun w2 a b l2 => h w2 a b (l.trans l2)
  | exc x M => exact fun w2 c dx H σ l2 => h w2 c dx H σ (l.trans l2)
  | stuck => exact h
theorem GoodS.bind {g : Gm} {W : WX} {α β : Type} {rel : Wd → β → α → Prop} {σ : L2.St} {w : Wd} {F : Hp} {r : R α} {k : α → MS → R Fl} {T : Ends} {Q1 : β → Hp → Prop}
    (h : GoodS g W w F (r.bind k) T) (hk : ∀ w1 a b M H, w.le w1 → Sta g w1 F M H → rel w1 b a → GoodS g W w1 F (k a M) T → Q1 b H) : Good g rel w F r (fun c dx H' => W c dx σ H') Q1 := by
  cases r with
  | ok a M => exact fun w1 b H l s rb => hk w1 a b M H l s rb (GoodS.mono l h)
  | exc x M => exact fun w1 c dx H l s rx => h w1 c dx H σ l s rx
  | stuck => exact h
def TSo (g : Gm) (W : WX) (f : Env → MS → R Fl) : TS := fun T σ H => ∃ w F M ds, Sta g w F M H ∧ Slo g w σ ds ∧ GoodS g W w F (f ds M) T
def Pas (X : Cx) : Prop := PassesOwn (model X.prog X.w) X.A X.env X.xe
def SS (g : Gm) (c : Cxt) (s : Stmt) (f : Ss) : Prop := ∀ X cf, CtxOk g X c cf → Pas X → ∀ W, Takes X W → PS X s (TSo g W (f cf))
def SSs (g : Gm) (c : Cxt) (s : List Stmt) (f : Ss) : Prop := ∀ X cf, CtxOk g X c cf → Pas X → ∀ W, Takes X W → PSs X s (TSo g W (f cf))
theorem PS.imp {X : Cx} {s : Stmt} {t t' : TS} (h : PS X s t) (k : ∀ T σ H, t' T σ H → t T σ H) : PS X s t' := ⟨fun pins s σ H T I q => h.run pins s σ H T I (k T σ H q)⟩
theorem PSs.imp {X : Cx} {s : List Stmt} {t t' : TS} (h : PSs X s t) (k : ∀ T σ H, t' T σ H → t T σ H) : PSs X s t' := ⟨fun pins s σ H T I q => h.run pins s σ H T I (k T σ H q)⟩
section
variable {g : Gm} {c : Cxt} {a b e elt tg iter : Expr} {es rest ifs : List Expr} {pos : Pos} {s : Stmt} {ss orelse : List Stmt}
def skipS : Ss := fun _ ds M => .ok (.nx ds) M
def seqS (f h : Ss) : Ss := fun cf ds M => (f cf ds M).bind fun fl M1 => match fl with
  | .nx ds1 => h cf ds1 M1
  | o => .ok o M1
theorem tso_skip {W : WX} {cf : CF} : ∀ T σ H, TSo g W (skipS cf) T σ H → tNext T σ H := fun T σ H ⟨w, F, M, ds, st, sl, h⟩ => h w σ H (.refl _) st sl
theorem sss_nil : SSs g c [] skipS := fun X cf ok ps W tk => PSs.imp pss_nil tso_skip
theorem sss_cons {f h : Ss} (h1 : SS g c s f) (h2 : SSs g c ss h) : SSs g c (s :: ss) (seqS f h) := fun X cf ok ps W tk =>
  PSs.imp (pss_cons (h1 X cf ok ps W tk) (h2 X cf ok ps W tk)) fun T σ H ⟨w, F, M, ds, st, sl, h0⟩ => ⟨w, F, M, ds, st, sl, by
    have h0' : GoodS g W w F ((f cf ds M).bind fun fl M1 => match fl with
      | .nx ds1 => h cf ds1 M1
      | o => .ok o M1) T := h0
    cases e : f cf ds M with
    | ok fl M1 =>
      rw [e] at h0'
      cases fl with
      | nx ds1 =>
        have h1' : GoodS g W w F (h cf ds1 M1) T := h0'
        exact fun w' σ' H' l s' sl' => ⟨w', F, M1, ds1, s', sl', h1'.mono l⟩
      | rt d => exact h0'
      | bk d => exact h0'
      | ct d => exact h0'
    | exc x M1 => rw [e] at h0'; exact h0'
    | stuck => rw [e] at h0'; exact h0'⟩
theorem sss_one {f : Ss} (h1 : SS g c s f) : SSs g c [s] f := fun X cf ok ps W tk => pss_one (h1 X cf ok ps W tk)
theorem ss_pass : SS g c (.Pass pos) skipS := fun X cf ok ps W tk => PS.imp ps_pass tso_skip
def brkS : Ss := fun _ ds M => .ok (.bk ds) M
def cntS : Ss := fun _ ds M => .ok (.ct ds) M
theorem ss_break : SS g c (.Break pos) brkS := fun X cf ok ps W tk => PS.imp ps_break fun T σ H ⟨w, F, M, ds, st, sl, h⟩ => h w σ H (.refl _) st sl
theorem ss_continue : SS g c (.Continue pos) cntS := fun X cf ok ps W tk => PS.imp ps_continue fun T σ H ⟨w, F, M, ds, st, sl, h⟩ => h w σ H (.refl _) st sl
theorem ss_doc {x : Str} {j : Nat} {p2 : Pos} : SS g c (.Expr (.Constant (.str x) j p2) pos) skipS := fun X cf ok ps W tk => PS.imp ps_doc tso_skip
def dropS (f : Sm) : Ss := fun cf ds M => (f cf ds M).bind fun _ M1 => .ok (.nx ds) M1
theorem ss_expr {f : Sm} (h : SE g c e f) (hs : ∀ env, swapsWith e none pos.line env = pure false := by intro _; rfl) : SS g c (.Expr e pos) (dropS f) := fun X cf ok ps W tk =>
  PS.imp (ps_expr (h X cf ok W tk) (hs _)) fun T σ H ⟨w, F, M, ds, st, sl, h0⟩ => ⟨w, F, M, ds, st, sl, GoodS.bind h0 fun w1 d v M1 H1 l1 s1 r1 h1 => h1 w1 σ H1 (.refl _) s1 (sl.mono l1)⟩
def retS (f : Sm) : Ss := fun cf ds M => (f cf ds M).bind fun d M1 => .ok (.rt d) M1
theorem ss_ret {f : Sm} (h : SE g c e f) : SS g c (.Return (some e) pos) (retS f) := fun X cf ok ps W tk =>
  PS.imp (ps_ret (h X cf ok W tk)) fun T σ H ⟨w, F, M, ds, st, sl, h0⟩ => ⟨w, F, M, ds, st, sl, GoodS.bind h0 fun w1 d v M1 H1 l1 s1 r1 h1 => h1 w1 v H1 (.refl _) s1 r1⟩
def retN : Ss := fun _ _ M => .ok (.rt .non) M
theorem ss_retN : SS g c (.Return none pos) retN := fun X cf ok ps W tk => PS.imp ps_retN fun T σ H ⟨w, F, M, ds, st, sl, h0⟩ => h0 w .non H (.refl _) st .non
def ifS (t : Smt) (f h : Ss) : Ss := fun cf ds M => (t cf ds M).bind fun k M1 => if k = true then f cf ds M1 else h cf ds M1
theorem ss_if {t : Smt} {f h : Ss} (ht : ST g c e t) (ha : SSs g c ss f) (hb : SSs g c orelse h) : SS g c (.If e ss orelse pos) (ifS t f h) := fun X cf ok ps W tk =>
  PS.imp (ps_if (ht X cf ok W tk) (ha X cf ok ps W tk) (hb X cf ok ps W tk)) fun T σ H ⟨w, F, M, ds, st, sl, h0⟩ => ⟨w, F, M, ds, st, sl, GoodS.bind h0 fun w1 k k' M1 H1 l1 s1 r1 h1 => by
    subst r1
    cases k' with
    | true => exact ⟨w1, F, M1, ds, s1, sl.mono l1, h1⟩
    | false => exact ⟨w1, F, M1, ds, s1, sl.mono l1, h1⟩⟩
/-- a way that is never taken -/
def badS : Ss := fun _ _ _ => .stuck
theorem ss_bad : SS g c s badS := fun X cf ok ps W tk => PS.imp ps_never fun T σ H ⟨w, F, M, ds, st, sl, h0⟩ => h0
theorem sss_bad : SSs g c ss badS := fun X cf ok ps W tk => PSs.imp pss_never fun T σ H ⟨w, F, M, ds, st, sl, h0⟩ => h0
/-! ### assignments -/
def setS (i : Nat) (f : Sm) : Ss := fun cf ds M => (f cf ds M).bind fun d M1 => .ok (.nx (ds.set i (some d))) M1
theorem ss_set (i : Nat) {x : Str} {p2 : Pos} {f : Sm} (h : SE g c e f) (hN : c.N[i]? = some x := by rfl) (hv : locB c x = true := by decide +kernel) (hs : ∀ env, swapsWith e (some (.Name x p2)) pos.line env = pure false := by intro _; rfl) : SS g c (.Assign [.Name x p2] e pos) (setS i f) := fun X cf ok ps W tk =>
  PS.imp (ps_set (i := i) (by rw [ok.N]; exact ok.nd) (by rw [ok.N]; exact hN) (loc_of ok hv).1 (h X cf ok W tk) (hs _) (loc_of ok hv).2) fun T σ H ⟨w, F, M, ds, st, sl, h0⟩ =>
    ⟨w, F, M, ds, st, sl, GoodS.bind h0 fun w1 d v M1 H1 l1 s1 r1 h1 => h1 w1 _ H1 (.refl _) s1 ((sl.mono l1).set i r1)⟩
/-- y = [..], y a local that the comprehension stores itself -/
theorem ss_setLc (i : Nat) {y : Str} {py spos : Pos} {scope : Scope} {own : List (Str × Nat)} {it : Sms} {vs : List Nat} {bd : Bnd} {t : Smt} {f : Sm} {fin : List D → MS → R D} (h : LcOk g c elt tg iter ifs scope own it vs bd t f) (hf : Fin g fin)
    (hN : c.N[i]? = some y := by rfl) (hy : c.sc.names.lookup y = some .local := by decide +kernel) (hk : c.sc.kind = .function := by rfl) (hl : (py.line == pos.line) = true := by rfl) (ha : (scope.names.any fun (n, k) => n == y && (k == .local || k == .cell)) = false := by decide +kernel) :
    SS g c (.Assign [.Name y py] (.ListComp elt [⟨tg, iter, ifs, 0⟩] scope pos) spos) (setS i (lcS (own.map (·.2)) fin it bd t f)) := fun X cf ok ps W tk =>
  PS.imp (ps_setLc (i := i) ok.calm (by rw [ok.N]; exact ok.nd) (by rw [ok.N]; exact hN) (by rw [ok.sc]; exact hy) (sw_true (by rw [ok.sc]; exact hk) (by rw [ok.sc]; exact hy) hl ha) (h.hi X cf ok W tk) (by rw [ok.N, ok.sc]; exact blkOk_by h.hb) (fun s H C cl fp => h.hg _ cf (ok.blk s H scope C cl fp)) (fun s H C cl fp => h.ht _ cf (ok.blk s H scope C cl fp) W0 takes0) (fun s H C cl fp => h.he _ cf (ok.blk s H scope C cl fp) W0 takes0) (h.hs _)) fun T σ H ⟨w, F, M, ds, st, sl, h0⟩ =>
    tlc_key h.vs hf σ H _ ⟨w, F, M, ds, st, sl, GoodS.bind h0 fun w1 d v M1 H1 l1 s1 r1 h1 => h1 w1 _ H1 (.refl _) s1 ((sl.mono l1).set i r1)⟩
/-- targets that may store into things -/
abbrev Bnm := CF → D → Env → MS → R Env
def GoodT (g : Gm) (W : WX) (w : Wd) (F : Hp) (r : R Env) (Q : L2.St → Hp → Prop) : Prop := match r with
  | .ok ds M => ∀ w' σ H, w.le w' → Sta g w' F M H → Slo g w' σ ds → Q σ H
  | .exc x M => ∀ w' cls dx H σ, w.le w' → Sta g w' F M H → RepX g w' cls dx x → W cls dx σ H
  | .stuck => False
theorem GoodT.mono {W : WX} {w w' : Wd} {F : Hp} {r : R Env} {Q : L2.St → Hp → Prop} (l : w.le w') (h : GoodT g W w F r Q) : GoodT g W w' F r Q := by
  cases r with
  | ok a M => exact fun w2 a b l2 => h w2 a b (l.trans l2)
  | exc x M => exact fun w2 c dx H σ l2 => h w2 c dx H σ (l.trans l2)
  | stuck => exact h
theorem GoodT.bind {W : WX} {α β : Type} {rel : Wd → β → α → Prop} {σ : L2.St} {w : Wd} {F : Hp} {r : R α} {k : α → MS → R Env} {Q : L2.St → Hp → Prop} {Q1 : β → Hp → Prop}
    (h : GoodT g W w F (r.bind k) Q) (hk : ∀ w1 a b M H, w.le w1 → Sta g w1 F M H → rel w1 b a → GoodT g W w1 F (k a M) Q → Q1 b H) : Good g rel w F r (fun c dx H' => W c dx σ H') Q1 := by
  cases r with
  | ok a M => exact fun w1 b H l s rb => hk w1 a b M H l s rb (GoodT.mono l h)
  | exc x M => exact fun w1 c dx H l s rx => h w1 c dx H σ l s rx
  | stuck => exact h
def TGm (g : Gm) (W : WX) (b : D → Env → MS → R Env) : TG := fun v σ H Q => ∃ w F M ds d, Sta g w F M H ∧ Slo g w σ ds ∧ Rep g w v d ∧ GoodT g W w F (b d ds M) Q
def SGm (g : Gm) (c : Cxt) (t : Expr) (b : Bnm) : Prop := ∀ X cf, CtxOk g X c cf → ∀ W, Takes X W → PG X t (TGm g W (b cf))
def nameM (i : Nat) : Bnm := fun _ d ds M => .ok (ds.set i (some d)) M
theorem sgm_name (i : Nat) {x : Str} (hN : c.N[i]? = some x := by rfl) (hv : locB c x = true := by decide +kernel) : SGm g c (.Name x pos) (nameM i) := fun X cf ok W tk =>
  PG.imp (pg_name (i := i) (by rw [ok.N]; exact ok.nd) (by rw [ok.N]; exact hN) (loc_of ok hv).1 (loc_of ok hv).2) fun v σ H Q ⟨w, F, M, ds, d, st, sl, r, h⟩ => h w _ H (.refl _) st (sl.set i r)
/-- xs[i] = v -/
def putL (n : Nat) (k : Int) (d : D) (M : MS) : R Unit := match M[n]? with
  | some (.lst ds) => (match ixN ds.length k with
    | some j => .ok () (M.set n (.lst (ds.set j d)))
    | none => .stuck)
  | _ => .stuck
def subM (fo fi : Sm) : Bnm := fun cf d ds M => (fo cf ds M).bind fun o M1 => (fi cf ds M1).bind fun i M2 => match o, i with
  | .cell n, .int k => (putL n k d M2).bind fun _ M3 => .ok ds M3
  | _, _ => .stuck
theorem sgm_sub {fo fi : Sm} (ho : SE g c a fo) (hi : SE g c b fi) (ha : ∀ env v, assign (.Subscript a b pos) env v = (do
        let ov ← holding [v] (eval a env)
        let iv ← holding [v, ov] (eval b env)
        standAt pos
        holding [v, ov, iv] (setItem ov iv v)
        release [v, ov, iv] []) := by intro _ _; rfl) : SGm g c (.Subscript a b pos) (subM fo fi) := fun X cf ok W tk =>
  PG.imp (pg_sub (ho X cf ok W tk) (hi X cf ok W tk) set_list (ha _)) fun v σ H Q ⟨w, F, M, ds, d, st, sl, r, h0⟩ => ⟨w, F, M, ds, st, sl, GoodT.bind h0 fun w1 o ov M1 H1 l1 s1 r1 h1 => ⟨w1, F, M1, ds, s1, sl.mono l1, GoodT.bind h1 fun w2 i iv M2 H2 l2 s2 r2 h2 => by
    cases o with
    | cell n =>
      cases i with
      | int k =>
        cases r1 with
        | cell hn =>
          cases r2
          have hn2 := l2.io _ _ hn
          have h3 : GoodT g W w2 F ((putL n k d M2).bind fun _ M3 => .ok ds M3) Q := h2
          unfold putL at h3
          cases hm : M2[n]? with
          | none => rw [hm] at h3; exact h3.elim
          | some cc =>
            rw [hm] at h3
            cases cc with
            | lst xs =>
              dsimp only at h3
              have hc := s2.at_ hn2 hm
              obtain ⟨hG, hF, vs, hv, rs⟩ := hc
              split at h3
              · rename_i j hj
                refine ⟨_, vs, k, j, rfl, rfl, hv, by rw [rs.length]; exact hj, ?_⟩
                have h4 : GoodT g W w2 F (.ok ds (M2.set n (.lst (xs.set j d)))) Q := h3
                exact h4 w2 σ _ (.refl _) (s2.chg hn2 hG hF ⟨hG, hF, _, upd_same, rs.set j (r.mono (l1.trans l2))⟩) ((sl.mono l1).mono l2)
              · exact h3.elim
            | _ => exact h3.elim
      | _ => exact h2.elim
    | _ => exact h2.elim⟩⟩
def asgM (f : Sm) (b : Bnm) : Ss := fun cf ds M => (f cf ds M).bind fun d M1 => (b cf d ds M1).bind fun ds1 M2 => .ok (.nx ds1) M2
theorem ss_asg {f : Sm} {bd : Bnm} (he : SE g c e f) (hg : SGm g c tg bd) (hs : ∀ env, swapsWithSole [tg] e pos.line env = pure false := by intro _; rfl) (hw : ∀ env : PySem.Env, env.scope = c.sc → swappedStores [tg] e env = pure none := by intro _ _; rfl) (h1 : ∀ env, (assignEach [tg] env).map (·.2) = [assign tg env] := by intro _; rfl) : SS g c (.Assign [tg] e pos) (asgM f bd) := fun X cf ok ps W tk =>
  PS.imp (ps_asg (he X cf ok W tk) (hg X cf ok W tk) (hs _) (hw _ ok.sc) (h1 _)) fun T σ H ⟨w, F, M, ds, st, sl, h0⟩ => ⟨w, F, M, ds, st, sl, GoodS.bind h0 fun w1 d v M1 H1 l1 s1 r1 h1 => ⟨w1, F, M1, ds, d, s1, sl.mono l1, r1, by
    have h1' : GoodS g W w1 F ((bd cf d ds M1).bind fun ds1 M2 => .ok (.nx ds1) M2) T := h1
    cases eb : bd cf d ds M1 with
    | ok ds1 M2 => rw [eb] at h1'; exact h1'
    | exc x M2 => rw [eb] at h1'; exact h1'
    | stuck => rw [eb] at h1'; exact h1'⟩⟩
/-- several targets -/
abbrev Bns := CF → List D → Env → MS → R Env
def TGn (g : Gm) (W : WX) (b : List D → Env → MS → R Env) : TGs := fun us σ H Q => ∃ w F M ds d, Sta g w F M H ∧ Slo g w σ ds ∧ Reps g w us d ∧ GoodT g W w F (b d ds M) Q
def SGn (g : Gm) (c : Cxt) (t : List Expr) (b : Bns) : Prop := ∀ X cf, CtxOk g X c cf → ∀ W, Takes X W → PGs X t (TGn g W (b cf))
def nilM : Bns := fun _ xs ds M => match xs with
  | [] => .ok ds M
  | _ => .stuck
def consM (b : Bnm) (k : Bns) : Bns := fun cf xs ds M => match xs with
  | d :: r => (b cf d ds M).bind fun ds1 M1 => k cf r ds1 M1
  | _ => .stuck
theorem sgn_nil : SGn g c [] nilM := fun X cf ok W tk => PGs.imp pgs_nil fun us σ H Q ⟨w, F, M, ds, d, st, sl, r, h⟩ => by
  cases r with
  | nil => exact ⟨rfl, h w σ H (.refl _) st sl⟩
  | cons _ _ => exact h.elim
theorem sgn_cons {t : Expr} {ts : List Expr} {bd : Bnm} {k : Bns} (h1 : SGm g c t bd) (h2 : SGn g c ts k) (hs : ∀ env, (assignEach (t :: ts) env).map (·.2) = assign t env :: (assignEach ts env).map (·.2) := by intro _; rfl) : SGn g c (t :: ts) (consM bd k) := fun X cf ok W tk =>
  PGs.imp (pgs_cons (h1 X cf ok W tk) (h2 X cf ok W tk) (hs _)) fun us' σ H Q ⟨w, F, M, ds, dd, st, sl, r, h⟩ => by
    cases dd with
    | nil => exact h.elim
    | cons d' ds' =>
      cases r with
      | cons r rs =>
        refine ⟨_, _, rfl, w, F, M, ds, d', st, sl, r, ?_⟩
        have h' : GoodT g W w F ((bd cf d' ds M).bind fun ds1 M1 => k cf ds' ds1 M1) Q := h
        cases eb : bd cf d' ds M with
        | ok ds1 M2 =>
          rw [eb] at h'
          have h2 : GoodT g W w F (k cf ds' ds1 M2) Q := h'
          exact fun w1 σ1 H1 l1 s1 sl1 => ⟨w1, F, M2, ds1, ds', s1, sl1, rs.mono l1, h2.mono l1⟩
        | exc x M2 => rw [eb] at h'; exact h'
        | stuck => rw [eb] at h'; exact h'
def tupM (n : Nat) (k : Bns) : Bnm := fun cf d ds M => match d with
  | .tup xs => if xs.length = n then k cf xs ds M else .stuck
  | _ => .stuck
theorem sgm_tup {k : Bns} {n kk : Nat} (h : SGn g c es k) (hn : ∀ env, (assignEach es env).length = n := by intro _; rfl) (hst : ∀ env, (assignEach es env).findIdx? (·.1) = none := by intro _; rfl) : SGm g c (.Tuple es kk pos) (tupM n k) := fun X cf ok W tk =>
  PG.imp (pg_tup ok.calm (h X cf ok W tk) (hn _) (hst _)) fun v σ H Q ⟨w, F, M, ds, d, st, sl, r, h⟩ => by
    cases d with
    | tup xs =>
      cases r with
      | tup q rs =>
        have h' : GoodT g W w F (if xs.length = n then k cf xs ds M else .stuck) Q := h
        split at h'
        · rename_i hl
          exact ⟨_, _, rfl, by rw [ok.K]; exact ex_t st.ext q, by rw [rs.length]; exact hl, w, F, M, ds, xs, st, sl, rs, h'⟩
        · exact h'.elim
    | _ => exact h.elim
/-- x += e, ints -/
def augS (i : Nat) (z : Int → Int → Int) (f : Sm) : Ss := fun cf ds M => match ds[i]? with
  | some (some (.int x)) => (f cf ds M).bind fun d M1 => (match d with
    | .int y => .ok (.nx (ds.set i (some (.int (z x y))))) M1
    | _ => .stuck)
  | _ => .stuck
theorem ss_aug (i : Nat) {op : Operator} {z : Int → Int → Int} {x : Str} {p2 : Pos} {f : Sm} (ho : ∀ X : Cx, PIp X op (ipI z)) (h : SE g c e f) (hN : c.N[i]? = some x := by rfl) (hv : locB c x = true := by decide +kernel) : SS g c (.AugAssign (.Name x p2) op e pos) (augS i z f) := fun X cf ok ps W tk =>
  PS.imp (ps_aug (i := i) (by rw [ok.N]; exact ok.nd) (by rw [ok.N]; exact hN) (loc_of ok hv).1 (h X cf ok W tk) (ho X) (loc_of ok hv).2) fun T σ H ⟨w, F, M, ds, st, sl, h0⟩ => by
    have h0' : GoodS g W w F (match ds[i]? with
      | some (some (.int x)) => (f cf ds M).bind fun d M1 => (match d with
        | .int y => .ok (.nx (ds.set i (some (.int (z x y))))) M1
        | _ => .stuck)
      | _ => .stuck) T := h0
    cases ed : ds[i]? with
    | none => rw [ed] at h0'; exact h0'.elim
    | some od =>
      rw [ed] at h0'
      cases od with
      | none => exact h0'.elim
      | some d =>
        cases d with
        | int k =>
          obtain ⟨v, hv1, rv⟩ := sl.at_ i _ ed
          cases rv
          refine ⟨_, hv1, w, F, M, ds, st, sl, GoodS.bind h0' fun w1 d v M1 H1 l1 s1 r1 h1 => ?_⟩
          cases d with
          | int j => cases r1; exact ⟨k, j, rfl, rfl, h1 w1 _ H1 (.refl _) s1 ((sl.mono l1).set i (.int _))⟩
          | _ => exact h1.elim
        | _ => exact h0'.elim
end
end MP
set_option maxHeartbeats 4000000
/-! MPI: loops; calls. -/
namespace MP
open PySem L2 Evl
section
variable {g : Gm} {c : Cxt} {a b e elt tg iter : Expr} {es rest ifs : List Expr} {pos : Pos} {s : Stmt} {ss orelse : List Stmt}
/-! ### loops -/
def loopS (bd : Bnd) (body : Env → MS → R Fl) : List D → Env → MS → R Fl
  | [], ds, M => .ok (.nx ds) M
  | x :: xs, ds, M => match bd x ds with
    | none => .stuck
    | some ds1 => (body ds1 M).bind fun fl M1 => match fl with
      | .nx ds2 => loopS bd body xs ds2 M1
      | .ct ds2 => loopS bd body xs ds2 M1
      | .bk ds2 => .ok (.nx ds2) M1
      | .rt d => .ok (.rt d) M1
def forS (it : Sms) (bd : Bnd) (body : Ss) : Ss := fun cf ds M => (it cf ds M).bind fun items M1 => loopS bd (body cf) items ds M1
theorem goodI_ofS {W : WX} {σ : L2.St} {Rr : It → Hp → Prop} {w : Wd} {F : Hp} {r : R (List D)} {k : List D → MS → R Fl} {T : Ends}
    (h : GoodS g W w F (r.bind k) T) (hk : ∀ w1 items M1 J H1, w.le w1 → Sta g w1 F M1 H1 → ItOk g w1 J items → GoodS g W w1 F (k items M1) T → Rr J H1) : GoodI g W σ w F r Rr := by
  cases r with
  | ok items M => exact fun w1 J H1 l s i => hk w1 items M J H1 l s i (GoodS.mono l h)
  | exc x M => exact fun w1 cls dx H1 l s rx => h w1 cls dx H1 σ l s rx
  | stuck => exact h
theorem ss_for {it : Sms} {vs : List Nat} {bd : Bnd} {body : Ss} (hi : SI g c tg iter it) (hg : SG g c tg vs bd) (hb : SSs g c ss body) (hs : ∀ env x, foldedSetIterable iter env x = pure x := by intro _ _; rfl) : SS g c (.For tg iter ss [] pos) (forS it bd body) := fun X cf ok ps W tk =>
  PS.imp (ps_for ps ok.calm (hi X cf ok W tk) (hg X cf ok) (hb X cf ok ps W tk) (hs _)) fun T σ H ⟨w, F, M, ds, st, sl, h0⟩ => ⟨w, F, M, ds, st, sl, goodI_ofS h0 fun w1 items M1 J H1 l1 s1 i1 h1 => by
    obtain ⟨G, Y, wk, hG, hY⟩ := i1.ex
    refine for_it wk (fun i σ H => ∃ w2 M2 ds2, w1.le w2 ∧ Sta g w2 F M2 H ∧ Slo g w2 σ ds2 ∧ GoodS g W w2 F (loopS bd (body cf) (items.drop i) ds2 M2) T) ?_ ?_ ?_ ?_
    · exact ⟨w1, M1, ds, .refl _, s1, sl.mono l1, h1⟩
    · rintro i σ H _ ⟨w2, M2, ds2, l2, s2, _⟩
      exact hG w2 _ M2 H l2 s2
    · rintro i x σ H H' hi ⟨w2, M2, ds2, l2, s2, sl2, h2⟩ hy
      obtain ⟨w3, d, l3, s3, ed, rd⟩ := hY i H x H' w2 _ M2 hi l2 s2 hy
      have edr : items.drop i = d :: items.drop (i + 1) := by
        have hlt := (List.getElem?_eq_some_iff.mp ed).1
        rw [List.drop_eq_getElem_cons hlt]
        congr 1
        exact (List.getElem?_eq_some_iff.mp ed).2
      rw [edr] at h2
      have h3 : GoodS g W w2 F (match bd d ds2 with
        | none => R.stuck
        | some ds1 => (body cf ds1 M2).bind fun fl M1 => match fl with
          | .nx ds2 => loopS bd (body cf) (items.drop (i + 1)) ds2 M1
          | .ct ds2 => loopS bd (body cf) (items.drop (i + 1)) ds2 M1
          | .bk ds2 => .ok (.nx ds2) M1
          | .rt d => .ok (.rt d) M1) T := h2
      refine ⟨w3, F, M2, ds2, d, s3, sl2.mono l3, rd, ?_⟩
      cases eb : bd d ds2 with
      | none => rw [eb] at h3; exact h3.elim
      | some ds1 =>
        rw [eb] at h3
        intro σ2 sl3 _ _
        refine ⟨w3, F, M2, ds1, s3, sl3, ?_⟩
        have h4 : GoodS g W w2 F ((body cf ds1 M2).bind fun fl M1 => match fl with
          | .nx ds2 => loopS bd (body cf) (items.drop (i + 1)) ds2 M1
          | .ct ds2 => loopS bd (body cf) (items.drop (i + 1)) ds2 M1
          | .bk ds2 => .ok (.nx ds2) M1
          | .rt d => .ok (.rt d) M1) T := h3
        cases ef : body cf ds1 M2 with
        | ok fl M3 =>
          rw [ef] at h4
          cases fl with
          | nx ds3 =>
            have h5 : GoodS g W w2 F (loopS bd (body cf) (items.drop (i + 1)) ds3 M3) T := h4
            exact fun w4 σ4 H4 l4 s4 sl4 => ⟨w4, M3, ds3, l2.trans (l3.trans l4), s4, sl4, h5.mono (l3.trans l4)⟩
          | ct ds3 =>
            have h5 : GoodS g W w2 F (loopS bd (body cf) (items.drop (i + 1)) ds3 M3) T := h4
            exact fun w4 σ4 H4 l4 s4 sl4 => ⟨w4, M3, ds3, l2.trans (l3.trans l4), s4, sl4, h5.mono (l3.trans l4)⟩
          | bk ds3 =>
            have h5 : GoodS g W w2 F (.ok (.nx ds3) M3) T := h4
            exact fun w4 σ4 H4 l4 s4 sl4 => h5 w4 σ4 H4 (l3.trans l4) s4 sl4
          | rt d =>
            have h5 : GoodS g W w2 F (.ok (.rt d) M3) T := h4
            exact fun w4 v4 H4 l4 s4 r4 => h5 w4 v4 H4 (l3.trans l4) s4 r4
        | exc x M3 =>
          rw [ef] at h4
          have h5 : GoodS g W w2 F (.exc x M3) T := h4
          exact fun w4 cls dx H4 σ4 l4 s4 r4 => h5 w4 cls dx H4 σ4 (l3.trans l4) s4 r4
        | stuck => rw [ef] at h4; exact h4.elim
    · rintro σ H ⟨w2, M2, ds2, l2, s2, sl2, h2⟩
      rw [List.drop_length] at h2
      have h3 : GoodS g W w2 F (.ok (.nx ds2) M2) T := h2
      exact h3 w2 σ H (.refl _) s2 sl2⟩
def whlS (t : Env → MS → R Bool) (body : Env → MS → R Fl) : Nat → Env → MS → R Fl
  | 0, _, _ => .stuck
  | n + 1, ds, M => (t ds M).bind fun k M1 => if k = true then (body ds M1).bind (fun fl M2 => match fl with
      | .nx ds2 => whlS t body n ds2 M2
      | .ct ds2 => whlS t body n ds2 M2
      | .bk ds2 => .ok (.nx ds2) M2
      | .rt d => .ok (.rt d) M2) else .ok (.nx ds) M1
def whileS (n : Nat) (t : Smt) (body : Ss) : Ss := fun cf ds M => whlS (t cf) (body cf) n ds M
theorem ss_while (n : Nat) {t : Smt} {body : Ss} (ht : ST g c e t) (hb : SSs g c ss body) : SS g c (.While e ss [] pos) (whileS n t body) := fun X cf ok ps W tk =>
  PS.imp (ps_while ps (ht X cf ok W tk) (hb X cf ok ps W tk)) fun T σ H ⟨w, F, M, ds, st, sl, h0⟩ => by
    refine ⟨fun m σ H => ∃ w2 M2 ds2, w.le w2 ∧ Sta g w2 F M2 H ∧ Slo g w2 σ ds2 ∧ GoodS g W w2 F (whlS (t cf) (body cf) m ds2 M2) T, ⟨n, w, M, ds, .refl _, st, sl, h0⟩, ?_⟩
    rintro m σ H ⟨w2, M2, ds2, l2, s2, sl2, h2⟩
    cases m with
    | zero => exact h2.elim
    | succ m =>
      have h3 : GoodS g W w2 F ((t cf ds2 M2).bind fun k M1 => if k = true then (body cf ds2 M1).bind (fun fl M2 => match fl with
        | .nx ds2 => whlS (t cf) (body cf) m ds2 M2
        | .ct ds2 => whlS (t cf) (body cf) m ds2 M2
        | .bk ds2 => .ok (.nx ds2) M2
        | .rt d => .ok (.rt d) M2) else .ok (.nx ds2) M1) T := h2
      refine ⟨w2, F, M2, ds2, s2, sl2, GoodS.bind h3 fun w3 k k' M3 H3 l3 s3 rk h4 => ?_⟩
      subst rk
      cases k' with
      | true =>
        rw [if_pos rfl] at h4
        rw [if_pos rfl]
        refine ⟨fun σ' H' => ∃ w4 M4 ds4, w.le w4 ∧ Sta g w4 F M4 H' ∧ Slo g w4 σ' ds4 ∧ GoodS g W w4 F (whlS (t cf) (body cf) m ds4 M4) T, fun σ' H' q => ⟨m, Nat.lt_succ_self m, q⟩, w3, F, M3, ds2, s3, sl2.mono l3, ?_⟩
        cases ef : body cf ds2 M3 with
        | ok fl M4 =>
          rw [ef] at h4
          cases fl with
          | nx ds3 =>
            have h5 : GoodS g W w3 F (whlS (t cf) (body cf) m ds3 M4) T := h4
            exact fun w4 σ4 H4 l4 s4 sl4 => ⟨w4, M4, ds3, l2.trans (l3.trans l4), s4, sl4, h5.mono l4⟩
          | ct ds3 =>
            have h5 : GoodS g W w3 F (whlS (t cf) (body cf) m ds3 M4) T := h4
            exact fun w4 σ4 H4 l4 s4 sl4 => ⟨w4, M4, ds3, l2.trans (l3.trans l4), s4, sl4, h5.mono l4⟩
          | bk ds3 =>
            have h5 : GoodS g W w3 F (.ok (.nx ds3) M4) T := h4
            exact h5
          | rt d =>
            have h5 : GoodS g W w3 F (.ok (.rt d) M4) T := h4
            exact h5
        | exc x M4 => rw [ef] at h4; exact h4
        | stuck => rw [ef] at h4; exact h4.elim
      | false =>
        rw [if_neg Bool.false_ne_true] at h4
        rw [if_neg Bool.false_ne_true]
        exact h4 w3 σ H3 (.refl _) s3 (sl2.mono l3)
/-! ### calls of builtins -/
def KeyA (g : Gm) (o : List D → MS → R D) (r : List V → Hp → VK → Prop) : Prop := ∀ (w : Wd) (F : Hp) (M : MS) (H : Hp) (xs : List V) (ds : List D) (E : XK) (Q : VK), Sta g w F M H → Reps g w xs ds → GoodE g w F (o ds M) E Q → r xs H Q
def calB (o : List D → MS → R D) (f : Sms) : Sm := fun cf ds M => (f cf ds M).bind o
theorem teo_A {W : WX} {o : List D → MS → R D} {r : List V → Hp → VK → Prop} {f : Sms} {cf : CF} (k : KeyA g o r) : ∀ σ H Q, TEo g W (calB o f cf) σ H Q → tCB r (TAo g W (f cf)) σ H Q := fun σ H Q ⟨w, F, M, ds, st, sl, h0⟩ =>
  ⟨w, F, M, ds, st, sl, Good.bind h0 fun w1 xs vs M1 H1 l1 s1 r1 h1 => k w1 F M1 H1 vs xs _ Q s1 r1 h1⟩
theorem se_callB {id : String} {x : Str} {p : Pos} {o : List D → MS → R D} {f : Sms} (r : PySem.W.Frag → List V → Hp → VK → Prop) (hc : ∀ X : Cx, X.calm = true → CallR X (.builtin id) (r X.K)) (k : KeyA g o (r g.K)) (hm : g.mg x = none) (hv : bootBuiltins x = some (.builtin id)) (ha : SA g c (e :: es) f)
    (hg : glB c.sc x = true := by decide +kernel) (hn : x ≠ "__name__" := by decide +kernel) (hd : (x == ("__debug__" : Str)) = false := by decide +kernel) (he : ∀ env, starEach (e :: es) env = (false, eval e env) :: starEach es env := by intro _; rfl) (hpl : ∀ env, (backTo pos (starEach es env)).any (·.1) = false := by intro _; rfl) :
    SE g c (.Call (.Name x p) (e :: es) [] pos) (calB o f) := fun X cf ok W tk =>
  PE.imp (pe_callB (hc X ok.calm) (ok.gl hg) (by rw [ok.mg]; exact hm) hv (ha X cf ok W tk) hn hd (he _) (hpl _)) fun σ H Q q => teo_A (by rw [ok.K]; exact k) σ H Q q
theorem se_callT {T : String} {x : Str} {p : Pos} {o : List D → MS → R D} {f : Sms} (r : PySem.W.Frag → List V → Hp → VK → Prop) (hc : ∀ X : Cx, X.calm = true → CallR X (.type T) (r X.K)) (k : KeyA g o (r g.K)) (hm : g.mg x = none) (hv : bootBuiltins x = some (.type T)) (ha : SA g c (e :: es) f)
    (hg : glB c.sc x = true := by decide +kernel) (hn : x ≠ "__name__" := by decide +kernel) (hd : (x == ("__debug__" : Str)) = false := by decide +kernel) (he : ∀ env, starEach (e :: es) env = (false, eval e env) :: starEach es env := by intro _; rfl) (hpl : ∀ env, (backTo pos (starEach es env)).any (·.1) = false := by intro _; rfl) :
    SE g c (.Call (.Name x p) (e :: es) [] pos) (calB o f) := fun X cf ok W tk =>
  PE.imp (pe_callTy (hc X ok.calm) (ok.gl hg) (by rw [ok.mg]; exact hm) hv (ha X cf ok W tk) hn hd (he _) (hpl _)) fun σ H Q q => teo_A (by rw [ok.K]; exact k) σ H Q q
def lenS : List D → MS → R D
  | [.str z], M => if z.length ≤ big then .ok (.int (z.length : Int)) M else .stuck
  | [x], M => match seqOf M x with
    | some ds => .ok (.int (ds.length : Int)) M
    | none => .stuck
  | _, _ => .stuck
theorem seq_vw {w : Wd} {F H : Hp} {M : MS} {x : V} {d : D} {ds : List D} (st : Sta g w F M H) (rx : Rep g w x d) (h : seqOf M d = some ds) : ∃ p vs, x = .ref p ∧ (H p = some (.lst vs) ∨ SqT g.K H p vs) ∧ Reps g w vs ds := by
  unfold seqOf at h
  cases ex : lk M d with
  | none => rw [ex] at h; cases h
  | some d' =>
    rw [ex] at h
    have vx := rx.vw st ex
    cases vx with
    | lst hx qx => cases h; exact ⟨_, _, rfl, .inl hx, qx⟩
    | tup hx qx => cases h; exact ⟨_, _, rfl, .inr hx, qx⟩
    | _ => cases h
theorem key_len : KeyA g lenS (fun xs H Q => (∃ z, xs = [.str z] ∧ z.length ≤ sizeLine ∧ Q (.int z.length) H) ∨ ∃ p ys, xs = [.ref p] ∧ (SqL g.K H p ys ∨ SqT g.K H p ys) ∧ Q (.int ys.length) H) := fun w F M H xs ds E Q st rx h => by
  unfold lenS at h
  split at h
  · cases rx with
    | cons q rs =>
      cases rs
      cases q
      split at h
      · rename_i z
        exact .inl ⟨_, rfl, big_le z, good_ret st h (.int _)⟩
      · exact h.elim
  · cases rx with
    | cons q rs =>
      cases rs
      split at h
      · rename_i ds' e
        obtain ⟨p, vs, rfl, hp, rv⟩ := seq_vw st q e
        refine .inr ⟨p, vs, rfl, hp.imp SqL.of id, ?_⟩
        rw [rv.length]
        exact good_ret st h (.int _)
      · exact h.elim
  · exact h.elim
theorem se_len {p : Pos} {f : Sms} (hm : g.mg "len" = none) (ha : SA g c [e] f) (hg : glB c.sc "len" = true := by decide +kernel) (he : ∀ env, starEach [e] env = (false, eval e env) :: starEach [] env := by intro _; rfl) : SE g c (.Call (.Name "len" p) [e] [] pos) (calB lenS f) :=
  se_callB (fun K xs H Q => (∃ z, xs = [.str z] ∧ z.length ≤ sizeLine ∧ Q (.int z.length) H) ∨ ∃ p ys, xs = [.ref p] ∧ (SqL K H p ys ∨ SqT K H p ys) ∧ Q (.int ys.length) H) (fun X hc => call_len_str.or call_len_seq) key_len hm (by decide +kernel) ha hg (by decide +kernel) (by decide +kernel) he
/-- list(xs): a new one (mu: one that may change) -/
def lisS (mu : Bool) : List D → MS → R D
  | [x], M => match seqOf M x with
    | some ds => if mu then .ok (.cell M.length) (M ++ [.lst ds]) else .ok (.lst ds) M
    | none => .stuck
  | _, _ => .stuck
theorem key_list {mu : Bool} : KeyA g (lisS mu) (fun xs H Q => ∃ p ys, xs = [.ref p] ∧ (SqL g.K H p ys ∨ SqT g.K H p ys) ∧ ∀ l, H l = none → Q (.ref l) (upd H l (.lst ys))) := fun w F M H xs ds E Q st rx h => by
  unfold lisS at h
  split at h
  · cases rx with
    | cons q rs =>
      cases rs
      split at h
      · rename_i ds' e
        obtain ⟨p, vs, rfl, hp, rv⟩ := seq_vw st q e
        cases mu with
        | true => exact ⟨p, vs, rfl, hp.imp SqL.of id, good_cell st rv h⟩
        | false => exact ⟨p, vs, rfl, hp.imp SqL.of id, good_lst st rv h⟩
      · exact h.elim
  · exact h.elim
theorem se_list (mu : Bool) {p : Pos} {f : Sms} (hm : g.mg "list" = none) (ha : SA g c [e] f) (hg : glB c.sc "list" = true := by decide +kernel) (he : ∀ env, starEach [e] env = (false, eval e env) :: starEach [] env := by intro _; rfl) : SE g c (.Call (.Name "list" p) [e] [] pos) (calB (lisS mu) f) :=
  se_callT (fun K xs H Q => ∃ p ys, xs = [.ref p] ∧ (SqL K H p ys ∨ SqT K H p ys) ∧ ∀ l, H l = none → Q (.ref l) (upd H l (.lst ys))) (fun X hc => call_list_of) key_list hm (by decide +kernel) ha hg (by decide +kernel) (by decide +kernel) he
/-- int(i), int(b) -/
def intS : List D → MS → R D
  | [.int i], M => .ok (.int i) M
  | [.bl k], M => .ok (.int (if k then 1 else 0)) M
  | _, _ => .stuck
theorem se_intf {p : Pos} {f : Sms} (hm : g.mg "int" = none) (ha : SA g c [e] f) (hg : glB c.sc "int" = true := by decide +kernel) (he : ∀ env, starEach [e] env = (false, eval e env) :: starEach [] env := by intro _; rfl) : SE g c (.Call (.Name "int" p) [e] [] pos) (calB intS f) :=
  se_callT (fun _ xs H Q => (∃ i, xs = [.int i] ∧ Q (.int i) H) ∨ ∃ k, xs = [.bl k] ∧ Q (.int (if k then 1 else 0)) H) (fun X hc => call_int1) (fun w F M H xs ds E Q st rx h => by
    unfold intS at h
    split at h
    · cases rx with
      | cons q rs => cases rs; cases q; exact .inl ⟨_, rfl, good_ret st h (.int _)⟩
    · cases rx with
      | cons q rs => cases rs; cases q; exact .inr ⟨_, rfl, good_ret st h (.int _)⟩
    · exact h.elim) hm (by decide +kernel) ha hg (by decide +kernel) (by decide +kernel) he
/-- all, any of a list of bools -/
def bools : List D → Option (List Bool)
  | [] => some []
  | .bl b :: r => (bools r).map (b :: ·)
  | _ => none
theorem reps_bools {w : Wd} : ∀ {ds : List D} {vs : List V} {bs : List Bool}, Reps g w vs ds → bools ds = some bs → vs = bs.map V.bl
  | [], _, _, r, h => by cases r; cases h; rfl
  | d :: ds, _, bs, r, h => by
    cases r with
    | cons q rs =>
      cases d with
      | bl b =>
        have h' : (bools ds).map (b :: ·) = some bs := h
        cases e : bools ds with
        | none => rw [e] at h'; cases h'
        | some bs' =>
          rw [e] at h'
          cases h'
          cases q
          rw [reps_bools rs e]
          rfl
      | _ => cases h
def allG (k : List Bool → Bool) : List D → MS → R D
  | [x], M => match lk M x with
    | some (.lst ds) => (match bools ds with
      | some bs => .ok (.bl (k bs)) M
      | none => .stuck)
    | _ => .stuck
  | _, _ => .stuck
theorem key_all (k : List Bool → Bool) : KeyA g (allG k) (fun vs H Q => ∃ (a : Addr) (bs : List Bool), vs = [V.ref a] ∧ SqL g.K H a (bs.map V.bl) ∧ Q (.bl (k bs)) H) := fun w F M H xs ds E Q st rx h => by
  unfold allG at h
  split at h
  · rename_i x
    cases rx with
    | cons q rs =>
      cases rs
      cases ex : lk M x with
      | none => rw [ex] at h; exact h.elim
      | some d' =>
        rw [ex] at h
        have vx := q.vw st ex
        cases vx with
        | lst hx qx =>
          dsimp only at h
          split at h
          · rename_i bs eb
            have e := reps_bools qx eb
            subst e
            exact ⟨_, bs, rfl, SqL.of hx, good_ret st h (.bl _)⟩
          · exact h.elim
        | _ => exact h.elim
  · exact h.elim
abbrev allS := allG fun bs => bs.all id
abbrev anyS := allG fun bs => bs.any id
theorem se_all {p : Pos} {f : Sms} (hm : g.mg "all" = none) (ha : SA g c [e] f) (hg : glB c.sc "all" = true := by decide +kernel) (he : ∀ env, starEach [e] env = (false, eval e env) :: starEach [] env := by intro _; rfl) : SE g c (.Call (.Name "all" p) [e] [] pos) (calB allS f) :=
  se_callB rAll (fun X hc => cr_all hc) (key_all _) hm (by decide +kernel) ha hg (by decide +kernel) (by decide +kernel) he
theorem se_any {p : Pos} {f : Sms} (hm : g.mg "any" = none) (ha : SA g c [e] f) (hg : glB c.sc "any" = true := by decide +kernel) (he : ∀ env, starEach [e] env = (false, eval e env) :: starEach [] env := by intro _; rfl) : SE g c (.Call (.Name "any" p) [e] [] pos) (calB anyS f) :=
  se_callB rAny (fun X hc => cr_any hc) (key_all _) hm (by decide +kernel) ha hg (by decide +kernel) (by decide +kernel) he
end
end MP
set_option maxHeartbeats 4000000
/-! MPJ: calls of the program's own defs; a def's body; the whole program. -/
namespace MP
open PySem L2 Evl
section
variable {g : Gm} {c : Cxt} {a b e elt tg iter : Expr} {es rest ifs : List Expr} {pos : Pos} {s : Stmt} {ss orelse : List Stmt} {kws : List Keyword}
/-! ### calls of defs -/
/-- np values and the keywords ks: what the parameters are bound to -/
structure CallOk (g : Gm) (i np : Nat) (ks : List Str) (pl : List D → List D → List D) : Prop where
  ex : ∃ gU : List Value → List Value → List Value, (∀ (s : Shared) (us ws : List Value), g.K.In s.heap → us.length = np → ws.length = ks.length → BindsTo s (g.fdd i) ⟨us, ks.zip ws⟩ ((g.par i).zip (gU us ws))) ∧
    ∀ (w : Wd) (vs zs : List V) (us ws : List Value) (ds es : List D), Vals vs us → Vals zs ws → Reps g w vs ds → Reps g w zs es → vs.length = np → zs.length = ks.length → ∃ xs, Vals xs (gU us ws) ∧ Reps g w xs (pl ds es) ∧ xs.length = (g.par i).length
structure GloFn (g : Gm) (x : Str) (i : Nat) : Prop where
  mg : g.mg x = some (.ref (g.fad i))
  kp : PySem.W.keepIn g.K (.ref (g.fad i)) = true
theorem run_call {X : Cx} {cf : CF} {W : WX} {i np : Nat} {ks : List Str} {pl : List D → List D → List D} {pins : List (Addr × Obj)} {σ : L2.St} {H F : Hp} {M : MS} {w : Wd} {sh : Shared} {us ws : List Value} {vs zs : List V} {ds es : List D} {Q : VK}
    (ok : CtxOk g X c cf) (tk : Takes X W) (k : CallOk g i np ks pl) (I : Inv X pins σ H sh) (r : Vals vs us) (rz : Vals zs ws) (st : Sta g w F M H) (rd : Reps g w vs ds) (re : Reps g w zs es) (hl : ds.length = np) (hk : es.length = ks.length)
    (h : GoodE g w F (cf i (pl ds es) M) (fun c dx H' => W c dx σ H') Q) : wpAny (model X.prog X.w) X.A (call (.ref (g.fad i)) us (ks.zip ws)) (EP X pins σ Q) X.xe sh := by
  obtain ⟨lv, hr, Fs⟩ := ok.fns
  have F' : FnOk X.prog X.w X.K X.mg X.base (L2.CX X.prog X.w) lv (g.fad i) (g.fdd i) (g.par i) (spC g cf i) := by rw [ok.prog, ok.w, ok.K, ok.mg, ok.base]; exact Fs i
  obtain ⟨gU, hb, hv⟩ := k.ex
  obtain ⟨xs, rx, rxd, lx⟩ := hv w vs zs us ws ds es r rz rd re (rd.length.trans hl) (re.length.trans hk)
  refine wpAny_call (codeAny_mono (F'.run X.A X.stack sh H ⟨us, ks.zip ws⟩ (gU us ws) xs Q (WE W σ) (hr.mono (Nat.le_succ _)) I.env0 (hb sh us ws (by rw [← ok.K]; exact I.kIn) (r.length.symm.trans (rd.length.trans hl)) (rz.length.symm.trans (re.length.trans hk))) rx ⟨lx, w, F, M, _, st, rxd, h⟩) fun rr s' hq => ?_)
  cases rr with
  | error e => exact passAt tk σ pins H sh e s' I hq
  | ok fl =>
    cases fl with
    | ret u => exact I.after hq
    | next => exact False.elim hq
    | brk => exact False.elim hq
    | cont => exact False.elim hq
/-- keywords' values -/
def SK (g : Gm) (c : Cxt) (ks : List Keyword) (f : Sms) : Prop := ∀ X cf, CtxOk g X c cf → ∀ W, Takes X W → PK X ks (TAo g W (f cf))
theorem PK.imp {X : Cx} {e : List Keyword} {t t' : TA} (h : PK X e t) (k : ∀ σ H Q, t' σ H Q → t σ H Q) : PK X e t' := ⟨fun pos pins s σ H Q I q => h.run pos pins s σ H Q I (k σ H Q q)⟩
theorem sk_nil : SK g c [] nilA := fun X cf ok W tk => PK.imp pk_nil fun σ H Q ⟨w, F, M, ds, st, sl, h0⟩ => good_ret (rel := Reps g) st h0 .nil
theorem sk_cons {nm : Option Str} {kp : Pos} {f : Sm} {h : Sms} (ha : SE g c e f) (hr : SK g c kws h) : SK g c (⟨nm, e, kp⟩ :: kws) (consA f h) := fun X cf ok W tk =>
  PK.imp (pk_cons (ha X cf ok W tk) (hr X cf ok W tk)) fun σ H Q ⟨w, F, M, ds, st, sl, h0⟩ => ⟨w, F, M, ds, st, sl, Good.bind h0 fun w1 x x' M1 H1 l1 s1 r1 h1 =>
    ⟨w1, F, M1, ds, s1, sl.mono l1, Good.bind h1 fun w2 xs xs' M2 H2 l2 s2 r2 h2 => good_ret (rel := Reps g) s2 h2 (.cons (r1.mono l2) r2)⟩⟩
def calS (i np nk : Nat) (pl : List D → List D → List D) (fa fk : Sms) : Sm := fun cf ds M => (fa cf ds M).bind fun xs M1 => (fk cf ds M1).bind fun zs M2 => if xs.length = np ∧ zs.length = nk then cf i (pl xs zs) M2 else .stuck
theorem zip_nil' {α β : Type} (l : List α) : l.zip ([] : List β) = [] := by cases l <;> rfl
/-- f(e, ..) -/
theorem se_call {i np : Nat} {x : Str} {p : Pos} {pl : List D → List D → List D} {f : Sms} (hx : GloFn g x i) (k : CallOk g i np [] pl) (ha : SA g c (e :: es) f) (hg : glB c.sc x = true := by decide +kernel) (hd : (x == ("__debug__" : Str)) = false := by decide +kernel)
    (he : ∀ env, starEach (e :: es) env = (false, eval e env) :: starEach es env := by intro _; rfl) (hpl : ∀ env, (backTo pos (starEach es env)).any (·.1) = false := by intro _; rfl) : SE g c (.Call (.Name x p) (e :: es) [] pos) (calS i np 0 pl f nilA) := fun X cf ok W tk => by
  refine ⟨fun pins s σ H Q I ⟨w, F, M, ds, st, sl, h0⟩ => ?_⟩
  refine wpAny_Call_Name_kw (ld_glob I (ok.gl hg) (by rw [ok.mg]; exact hx.mg) ?_ hd)
  refine PySem.W.callWith_K (h₀ := X.base) I.ok.mod.kin (by rw [ok.K]; exact hx.kp) (thn ((ha X cf ok W tk).run pos pins s σ H (fun vs H1 => ∃ w1 M1 xs, w.le w1 ∧ Sta g w1 F M1 H1 ∧ Reps g w1 vs xs ∧ GoodE g w1 F (if xs.length = np ∧ ([] : List D).length = 0 then cf i (pl xs []) M1 else .stuck) (fun c dx H' => W c dx σ H') Q) I ⟨w, F, M, ds, st, sl, Good.bind h0 fun w1 xs vs M1 H1 l1 s1 r1 h1 => ⟨w1, M1, xs, l1, s1, r1, h1⟩⟩) fun us s1 ⟨vs, H1, I1, r, w1, M1, xs, l1, s1', r1, h1⟩ => ⟨I1.kIn, ?_⟩) (he _) (hpl _)
  split at h1
  · rename_i hl
    exact run_call (ks := []) ok tk k I1 r .nil s1' r1 .nil hl.1 rfl h1
  · exact h1.elim
/-- f() -/
theorem se_call0 {i : Nat} {x : Str} {p : Pos} {pl : List D → List D → List D} (hx : GloFn g x i) (k : CallOk g i 0 [] pl) (hg : glB c.sc x = true := by decide +kernel) (hd : (x == ("__debug__" : Str)) = false := by decide +kernel) : SE g c (.Call (.Name x p) [] [] pos) (calS i 0 0 pl nilA nilA) := fun X cf ok W tk => by
  refine ⟨fun pins s σ H Q I ⟨w, F, M, ds, st, sl, h0⟩ => ?_⟩
  refine wpAny_Call_Name_kw (ld_glob I (ok.gl hg) (by rw [ok.mg]; exact hx.mg) ?_ hd)
  have h1 : GoodE g w F (cf i (pl [] []) M) (fun c dx H' => W c dx σ H') Q := by
    have q : GoodE g w F (if ([] : List D).length = 0 ∧ ([] : List D).length = 0 then cf i (pl [] []) M else .stuck) (fun c dx H' => W c dx σ H') Q := h0
    rw [if_pos ⟨rfl, rfl⟩] at q
    exact q
  exact PySem.W.callWith_K0 I.kIn (by rw [ok.K]; exact hx.kp) (run_call (us := []) (ks := []) ok tk k I .nil .nil st .nil .nil rfl rfl h1)
/-- f(e, .., k = v, ..) -/
theorem se_callK {i np : Nat} {x : Str} {p : Pos} {ks : List Str} {pl : List D → List D → List D} {f fk : Sms} (hx : GloFn g x i) (k : CallOk g i np ks pl) (ha : SA g c (e :: es) f) (hk : SK g c kws fk) (hg : glB c.sc x = true := by decide +kernel) (hd : (x == ("__debug__" : Str)) = false := by decide +kernel)
    (hall : ∀ env, (backToKw pos (keywordEach kws env)).all (·.1.isSome) = true := by intro _; rfl) (hks : ∀ env, (backToKw pos (keywordEach kws env)).filterMap (·.1) = ks := by intro _; rfl)
    (he : ∀ env, starEach (e :: es) env = (false, eval e env) :: starEach es env := by intro _; rfl) (hpl : ∀ env, ((backTo pos (starEach (e :: es) env)).any (·.1) || (backToKw pos (keywordEach kws env)).any (·.1.isNone)) = false := by intro _; rfl) : SE g c (.Call (.Name x p) (e :: es) kws pos) (calS i np ks.length pl f fk) := fun X cf ok W tk => by
  refine ⟨fun pins s σ H Q I ⟨w, F, M, ds, st, sl, h0⟩ => ?_⟩
  refine wpAny_Call_Name_kw (ld_glob I (ok.gl hg) (by rw [ok.mg]; exact hx.mg) ?_ hd)
  refine PySem.W.callWith_KW (h₀ := X.base) I.ok.mod.kin (by rw [ok.K]; exact hx.kp) (hall _) (thn ((ha X cf ok W tk).run pos pins s σ H (fun vs H1 => ∃ w1 M1 xs, w.le w1 ∧ Sta g w1 F M1 H1 ∧ Reps g w1 vs xs ∧ GoodE g w1 F ((fk cf ds M1).bind fun zs M2 => if xs.length = np ∧ zs.length = ks.length then cf i (pl xs zs) M2 else .stuck) (fun c dx H' => W c dx σ H') Q) I ⟨w, F, M, ds, st, sl, Good.bind h0 fun w1 xs vs M1 H1 l1 s1 r1 h1 => ⟨w1, M1, xs, l1, s1, r1, h1⟩⟩) fun us s1 ⟨vs, H1, I1, r, w1, M1, xs, l1, s1', r1, h1⟩ => ?_) (hpl _) (he _)
  refine thn ((hk X cf ok W tk).run pos pins s1 σ H1 (fun zs' H2 => ∃ w2 M2 zs, w1.le w2 ∧ Sta g w2 F M2 H2 ∧ Reps g w2 zs' zs ∧ GoodE g w2 F (if xs.length = np ∧ zs.length = ks.length then cf i (pl xs zs) M2 else .stuck) (fun c dx H' => W c dx σ H') Q) I1 ⟨w1, F, M1, ds, s1', sl.mono l1, Good.bind h1 fun w2 zs zs' M2 H2 l2 s2 r2 h2 => ⟨w2, M2, zs, l2, s2, r2, h2⟩⟩) fun ws s2 ⟨zs', H2, I2, rz, w2, M2, zs, l2, s2', r2, h2⟩ => ⟨I2.kIn, ?_⟩
  rw [hks]
  split at h2
  · rename_i hl
    exact run_call (ks := ks) ok tk k I2 r rz s2' (r1.mono l2) r2 hl.1 hl.2 h2
  · exact h2.elim
/-- f(k = v, ..) -/
theorem se_callK0 {i : Nat} {x : Str} {p : Pos} {ks : List Str} {pl : List D → List D → List D} {fk : Sms} (hx : GloFn g x i) (k : CallOk g i 0 ks pl) (hk : SK g c kws fk) (hg : glB c.sc x = true := by decide +kernel) (hd : (x == ("__debug__" : Str)) = false := by decide +kernel)
    (hall : ∀ env, (backToKw pos (keywordEach kws env)).all (·.1.isSome) = true := by intro _; rfl) (hks : ∀ env, (backToKw pos (keywordEach kws env)).filterMap (·.1) = ks := by intro _; rfl)
    (hpl : ∀ env, ((backTo pos (starEach [] env)).any (·.1) || (backToKw pos (keywordEach kws env)).any (·.1.isNone)) = false := by intro _; rfl) : SE g c (.Call (.Name x p) [] kws pos) (calS i 0 ks.length pl nilA fk) := fun X cf ok W tk => by
  refine ⟨fun pins s σ H Q I ⟨w, F, M, ds, st, sl, h0⟩ => ?_⟩
  refine wpAny_Call_Name_kw (ld_glob I (ok.gl hg) (by rw [ok.mg]; exact hx.mg) ?_ hd)
  have h1 : GoodE g w F ((fk cf ds M).bind fun zs M2 => if ([] : List D).length = 0 ∧ zs.length = ks.length then cf i (pl [] zs) M2 else .stuck) (fun c dx H' => W c dx σ H') Q := h0
  refine PySem.W.callWith_KW0 (h₀ := X.base) I.ok.mod.kin (by rw [ok.K]; exact hx.kp) (hall _) (thn ((hk X cf ok W tk).run pos pins s σ H (fun zs' H2 => ∃ w2 M2 zs, w.le w2 ∧ Sta g w2 F M2 H2 ∧ Reps g w2 zs' zs ∧ GoodE g w2 F (if ([] : List D).length = 0 ∧ zs.length = ks.length then cf i (pl [] zs) M2 else .stuck) (fun c dx H' => W c dx σ H') Q) I ⟨w, F, M, ds, st, sl, Good.bind h1 fun w2 zs zs' M2 H2 l2 s2 r2 h2 => ⟨w2, M2, zs, l2, s2, r2, h2⟩⟩) fun ws s2 ⟨zs', H2, I2, rz, w2, M2, zs, l2, s2', r2, h2⟩ => ⟨I2.kIn, ?_⟩) (hpl _)
  rw [hks]
  split at h2
  · rename_i hl
    exact run_call (us := []) (ks := ks) ok tk k I2 .nil rz s2' .nil r2 hl.1 hl.2 h2
  · exact h2.elim
/-! ### a def's body; the program -/
def runB (n : Nat) (f : Env → MS → R Fl) (ds : List D) (M : MS) : R D := match f (ds.map some ++ List.replicate (n - ds.length) none) M with
  | .ok (.nx _) M' => .ok .non M'
  | .ok (.rt d) M' => .ok d M'
  | .exc x M' => .exc x M'
  | _ => .stuck
structure Def where
  N : List Str
  f : Ss
def callP (defs : List Def) : Nat → CF
  | 0 => fun _ _ _ => .stuck
  | n + 1 => fun i ds M => match defs[i]? with
    | some d => runB d.N.length (d.f (callP defs n)) ds M
    | none => .stuck
theorem slo_start {w : Wd} {N : List Str} {vs : List V} {ds : List D} (r : Reps g w vs ds) : Slo g w (L2.start N vs) (ds.map some ++ List.replicate (N.length - ds.length) none) := by
  unfold L2.start
  refine ⟨by simp [r.length], fun i d h => ?_⟩
  by_cases hi : i < ds.length
  · rw [List.getElem?_append_left (by simpa using hi), List.getElem?_map] at h
    cases e : ds[i]? with
    | none => rw [e] at h; cases h
    | some d' =>
      rw [e] at h
      cases h
      obtain ⟨v, h1, h2⟩ := r.get e
      exact ⟨v, by rw [List.getElem?_append_left (by simpa [r.length] using hi), List.getElem?_map, h1]; rfl, h2⟩
  · rw [List.getElem?_append_right (by simpa using hi)] at h
    rw [List.getElem?_replicate] at h
    split at h <;> cases h
/-- a def that stands in the program -/
structure DefOk (g : Gm) (i : Nat) (d : Def) : Prop where
  ex : ∃ (x qual : Str) (params : Arguments) (body : List Stmt) (scope : Scope) (dvs : List V) (kws : List (Str × V)), FunD g.K x qual params body scope dvs kws (g.fad i) (g.fdd i) ∧ FnScope d.N (g.par i) scope ∧ SSs g ⟨d.N, scope, fun _ => true⟩ body d.f
theorem def_ok {i k : Nat} {d : Def} {cf : CF} (hd : DefOk g i d) (hf : ∀ i, FnOk g.P g.w g.K g.mg g.base (L2.CX g.P g.w) k (g.fad i) (g.fdd i) (g.par i) (spC g cf i)) :
    FnOk g.P g.w g.K g.mg g.base (L2.CX g.P g.w) (k + 2) (g.fad i) (g.fdd i) (g.par i) (spC g (fun _ => runB d.N.length (d.f cf)) i) := by
  obtain ⟨x, qual, params, body, scope, dvs, kws, F, S, B⟩ := hd.ex
  refine F.ok S (fun vs H Q E h => h.1) (fun cdv A outer s H vs Q E hr h => ?_)
  obtain ⟨hl, w, Fr, M, ds, st, rd, hG⟩ := h
  refine ⟨_, B (cxOf (L2.CX g.P g.w) g.P g.w g.K g.mg g.base d.N qual scope (g.fad i) cdv A outer s H E) cf
    { prog := rfl, w := rfl, K := rfl, mg := rfl, base := rfl, N := rfl, nd := S.nd, sc := rfl, fn := fun _ _ => rfl, calm := rfl, fns := ⟨k, hr, hf⟩ } (passes_of rfl) (fun c dx _ H' => E c dx H') (takes_of rfl rfl rfl rfl), ?_⟩
  refine ⟨w, Fr, M, _, st, slo_start rd, ?_⟩
  have hG : GoodE g w Fr (runB d.N.length (d.f cf) ds M) E Q := hG
  unfold runB at hG
  cases e : d.f cf (ds.map some ++ List.replicate (d.N.length - ds.length) none) M with
  | ok fl M' =>
    rw [e] at hG
    cases fl with
    | nx ds' => exact fun w' σ H' l s' sl => hG w' _ H' l s' .non
    | rt r => exact fun w' v H' l s' rr => hG w' v H' l s' rr
    | bk _ => exact hG.elim
    | ct _ => exact hG.elim
  | exc x M' =>
    rw [e] at hG
    exact fun w' cls dx H' σ l s' rx => hG w' cls dx H' l s' rx
  | stuck => rw [e] at hG; exact hG.elim
theorem prog_ok {defs : List Def} (h : ∀ (i : Nat) (d : Def), defs[i]? = some d → DefOk g i d) : ∀ (n i : Nat), FnOk g.P g.w g.K g.mg g.base (L2.CX g.P g.w) (2 * n) (g.fad i) (g.fdd i) (g.par i) (spC g (callP defs n) i)
  | 0, i => ⟨fun vs H Q E h => h.1, fun A outer s H args us vs Q E hr e0 hb hv hs => by
    obtain ⟨_, w, F, M, ds, st, rd, hG⟩ := hs
    exact hG.elim⟩
  | n + 1, i => by
    cases e : defs[i]? with
    | none =>
      exact ⟨fun vs H Q E h => h.1, fun A outer s H args us vs Q E hr e0 hb hv hs => by
        obtain ⟨_, w, F, M, ds, st, rd, hG⟩ := hs
        have hG' : GoodE g w F (match defs[i]? with
          | some d => runB d.N.length (d.f (callP defs n)) ds M
          | none => .stuck) E Q := hG
        rw [e] at hG'
        exact hG'.elim⟩
    | some d =>
      refine (def_ok (h i d e) (prog_ok h n)).imp fun vs H Q E hs => ?_
      obtain ⟨hl, w, F, M, ds, st, rd, hG⟩ := hs
      refine ⟨hl, w, F, M, ds, st, rd, ?_⟩
      have hG' : GoodE g w F (match defs[i]? with
        | some d => runB d.N.length (d.f (callP defs n)) ds M
        | none => .stuck) E Q := hG
      rw [e] at hG'
      exact hG'
end
end MP
set_option maxHeartbeats 4000000
/-! MPK: isinstance; methods of lists and texts; the law's end. -/
namespace MP
open PySem L2 Evl
section
variable {g : Gm} {c : Cxt} {a b e o : Expr} {es rest ifs : List Expr} {pos : Pos}
/-! ### isinstance -/
def tyN (M : MS) (d : D) : Option String := match lk M d with
  | some .non => some "NoneType"
  | some (.bl _) => some "bool"
  | some (.int _) => some "int"
  | some (.str _) => some "str"
  | some (.lst _) => some "list"
  | some (.tup _) => some "tuple"
  | some (.dk _) => some "dict"
  | some (.dt _) => some "dict"
  | _ => none
theorem SqT.tyx {K : PySem.W.Frag} {H : Hp} {a : Addr} {xs : List V} (h : SqT K H a xs) : TyX K H (.ref a) (.type "tuple") := by
  rcases h with (h | ⟨o, h⟩) | ⟨o, its, n, h, hc, _⟩
  · exact .base (.tup h)
  · exact .fTuple h
  · exact .kTuple h hc
theorem tyx_of {w : Wd} {F H : Hp} {M : MS} {x : V} {d : D} {t : String} (st : Sta g w F M H) (r : Rep g w x d) (h : tyN M d = some t) : TyX g.K H x (.type t) := by
  unfold tyN at h
  cases e : lk M d with
  | none => rw [e] at h; cases h
  | some d' =>
    rw [e] at h
    have v := r.vw st e
    cases v with
    | non => cases h; exact .base .non
    | bl b => cases h; exact .base (.bl _)
    | int i => cases h; exact .base (.int _)
    | str z => cases h; exact .base (.str _)
    | tup q rs => cases h; exact SqT.tyx q
    | lst q rs => cases h; exact .base (.lst q)
    | dk q _ _ => cases h; exact .base (.dK q)
    | dt q _ _ => cases h; exact .base (.dT q)
    | _ => cases h
def tyNames : List String := ["NoneType", "bool", "int", "str", "list", "tuple", "dict"]
theorem tyN_mem {M : MS} {d : D} {t : String} (h : tyN M d = some t) : t ∈ tyNames := by
  unfold tyN at h
  split at h <;> first | (cases h; decide) | cases h
def isB (T t : String) : Bool := t == T || (t == "bool" && T == "int")
def isiS (T : String) : D → MS → R D := fun x M => match tyN M x with
  | some t => .ok (.bl (isB T t)) M
  | none => .stuck
theorem se_isi (T : String) {x : Str} {p p2 : Pos} {f : Sm} (hm : g.mg "isinstance" = none) (hmT : g.mg x = none) (ha : SE g c e f) (hT : bootBuiltins x = some (.type T) := by decide +kernel) (hk : (tyNames.all fun t => decide (kitB t T = some (isB T t))) = true := by decide +kernel)
    (hg : glB c.sc "isinstance" = true := by decide +kernel) (hg2 : glB c.sc x = true := by decide +kernel) (hn : x ≠ "__name__" := by decide +kernel) (hd : (x == ("__debug__" : Str)) = false := by decide +kernel)
    (hs : ∀ env, starEach [e, .Name x p2] env = (false, eval e env) :: starEach [.Name x p2] env := by intro _; rfl) : SE g c (.Call (.Name "isinstance" p) [e, .Name x p2] [] pos) (op1 (isiS T) f) := fun X cf ok W tk =>
  PE.imp (pe_callB (r := rIsi X.K) call_isi (ok.gl hg) (by rw [ok.mg]; exact hm) (by decide +kernel) (pa_cons (ha X cf ok W tk) (pa_cons (pe_bltn (v := .ty T) (ok.gl hg2) (by rw [ok.mg]; exact hmT) hT rfl hn hd) pa_nil) (hs _)) (by decide +kernel) (by decide +kernel) (hs _)) fun σ H Q ⟨w, F, M, ds, st, sl, h0⟩ => ⟨w, F, M, ds, st, sl, Good.bind h0 fun w1 d v M1 H1 l1 s1 r1 h1 => by
    show rIsi X.K [v, .ty T] H1 Q
    unfold isiS at h1
    split at h1
    · rename_i t et
      have q := List.all_eq_true.mp hk t (tyN_mem et)
      rw [ok.K]
      exact ⟨v, .ty T, .type t, .type T, isB T t, rfl, .ty T, tyx_of s1 r1 et, kit_ty (of_decide_eq_true q), good_ret s1 h1 (.bl _)⟩
    · exact h1.elim⟩
theorem kit_any2 {K : PySem.W.Frag} {t T U : String} (h1 : kitB t T = some (isB T t)) (h2 : kitB t U = some (isB U t)) : PySem.W.kitAny K (.type t) [.type T, .type U] = some (isB T t || isB U t) := by
  refine kitAny_cons (b := isB T t) (kit_ty h1) (fun e => ?_) (fun e => by rw [e]; rfl)
  rw [e]
  refine kitAny_cons (b := isB U t) (kit_ty h2) (fun e => ?_) (fun e => by rw [e]; rfl)
  rw [e]
  rfl
def isi2 (T U : String) : D → MS → R D := fun x M => match tyN M x with
  | some t => .ok (.bl (isB T t || isB U t)) M
  | none => .stuck
/-- isinstance(x, (T, U)) -/
theorem se_isi2 (T U : String) {x y : Str} {p p2 p3 p4 : Pos} {kk : Nat} {f : Sm} (hm : g.mg "isinstance" = none) (hmT : g.mg x = none) (hmU : g.mg y = none) (ha : SE g c e f) (hT : bootBuiltins x = some (.type T) := by decide +kernel) (hU : bootBuiltins y = some (.type U) := by decide +kernel) (hk : (tyNames.all fun t => decide (kitB t T = some (isB T t)) && decide (kitB t U = some (isB U t))) = true := by decide +kernel)
    (hg : glB c.sc "isinstance" = true := by decide +kernel) (hg2 : glB c.sc x = true := by decide +kernel) (hg3 : glB c.sc y = true := by decide +kernel) (hn : x ≠ "__name__" := by decide +kernel) (hd : (x == ("__debug__" : Str)) = false := by decide +kernel) (hn3 : y ≠ "__name__" := by decide +kernel) (hd3 : (y == ("__debug__" : Str)) = false := by decide +kernel)
    (hs : ∀ env, starEach [e, .Tuple [.Name x p2, .Name y p3] kk p4] env = (false, eval e env) :: starEach [.Tuple [.Name x p2, .Name y p3] kk p4] env := by intro _; rfl) : SE g c (.Call (.Name "isinstance" p) [e, .Tuple [.Name x p2, .Name y p3] kk p4] [] pos) (op1 (isi2 T U) f) := fun X cf ok W tk =>
  PE.imp (pe_callB (r := rIsiT X.K) call_isiT (ok.gl hg) (by rw [ok.mg]; exact hm) (by decide +kernel) (pa_cons (ha X cf ok W tk) (pa_cons (pe_tup (pa_cons (pe_bltn (v := .ty T) (ok.gl hg2) (by rw [ok.mg]; exact hmT) hT rfl hn hd) (pa_cons (pe_bltn (v := .ty U) (ok.gl hg3) (by rw [ok.mg]; exact hmU) hU rfl hn3 hd3) pa_nil))) pa_nil) (hs _)) (by decide +kernel) (by decide +kernel) (hs _)) fun σ H Q ⟨w, F, M, ds, st, sl, h0⟩ => ⟨w, F, M, ds, st, sl, Good.bind h0 fun w1 d v M1 H1 l1 s1 r1 h1 => by
    refine ⟨by show 2 ≤ sizeLine; decide, fun tp htp => ?_⟩
    show rIsiT X.K [v, .ref tp] _ Q
    unfold isi2 at h1
    split at h1
    · rename_i t et
      have q := List.all_eq_true.mp hk t (tyN_mem et)
      rw [Bool.and_eq_true] at q
      have s2 := s1.newG (o := .tup [.ty T, .ty U]) htp
      have l2 := Wd.le_addG (o := .tup [.ty T, .ty U]) (s1.freeG htp)
      rw [ok.K]
      exact ⟨v, tp, [.ty T, .ty U], .type t, [.type T, .type U], _, rfl, upd_same, .cons (.ty T) (.cons (.ty U) .nil), tyx_of s2 (r1.mono l2) et, kit_any2 (of_decide_eq_true q.1) (of_decide_eq_true q.2), h1 _ _ _ l2 s2 (.bl _)⟩
    · exact h1.elim⟩
/-! ### methods of lists that may change -/
def isLst (M : MS) (x : D) : Bool := match lk M x with
  | some (.lst _) => true
  | _ => false
def mtlS (op : D → List D → MS → R D) (f : Sm) (fa : Sms) : Sm := fun cf ds M => (f cf ds M).bind fun x M1 => if isLst M1 x = true then (fa cf ds M1).bind fun xs M2 => op x xs M2 else .stuck
def KeyM (g : Gm) (op : D → List D → MS → R D) (r : V → List V → Hp → VK → Prop) : Prop := ∀ (w : Wd) (F : Hp) (M : MS) (H : Hp) (x : V) (xs : List V) (d : D) (ds : List D) (E : XK) (Q : VK), Sta g w F M H → Rep g w x d → Reps g w xs ds → GoodE g w F (op d ds M) E Q → r x xs H Q
theorem isLst_ty {w : Wd} {F H : Hp} {M : MS} {x : V} {d : D} (st : Sta g w F M H) (r : Rep g w x d) (h : isLst M d = true) : tyV g.K "list" x H := by
  unfold isLst at h
  cases e : lk M d with
  | none => rw [e] at h; cases h
  | some d' =>
    rw [e] at h
    have v := r.vw st e
    cases v with
    | lst q rs => exact .inl ⟨rfl, _, SqL.of q⟩
    | _ => cases h
theorem se_mtl {id : String} {name : Str} {apos : Pos} {op : D → List D → MS → R D} {f : Sm} {fa : Sms} (r : PySem.W.Frag → V → List V → Hp → VK → Prop) (slot : Slot "list" name id) (hty : typeOf (.builtin id) = pure (.type "method_descriptor")) (hm : ∀ X : Cx, MtR X id (r X.K)) (k : KeyM g op (r g.K)) (ho : SE g c o f) (ha : SA g c (e :: es) fa)
    (hbase : ∀ env, attributeBase o name env (eval o env) = eval o env := by intro _; rfl)
    (hfew : ∀ env, ((backTo pos (starEach (e :: es) env)).all (fun x => !x.1) && (backToKw pos (keywordEach [] env)).all (fun x => x.1.isSome)
      && decide ((e :: es).length + ([] : List Keyword).length + (if ([] : List Keyword).isEmpty then 0 else 1) < 30)) = true := by intro _; rfl)
    (hline : (apos.endLine == pos.line) = true := by rfl) (hs : ∀ env, starEach (e :: es) env = (false, eval e env) :: starEach es env := by intro _; rfl) (hplain : ∀ env, (backTo pos (starEach es env)).any (·.1) = false := by intro _; rfl) :
    SE g c (.Call (.Attribute o name apos) (e :: es) [] pos) (mtlS op f fa) := fun X cf ok W tk =>
  PE.imp (pe_bm PySem.F.plainAttrs_list slot hty (hm X) (ho X cf ok W tk) (ha X cf ok W tk) (hbase _) (hfew _) hline (hs _) (hplain _)) fun σ H Q ⟨w, F, M, ds, st, sl, h0⟩ => ⟨w, F, M, ds, st, sl, Good.bind h0 fun w1 d v M1 H1 l1 s1 r1 h1 => by
    split at h1
    · rename_i hl
      rw [ok.K]
      exact ⟨isLst_ty s1 r1 hl, w1, F, M1, ds, s1, sl.mono l1, Good.bind h1 fun w2 xs vs M2 H2 l2 s2 r2 h2 => k w2 F M2 H2 v vs d xs _ Q s2 (r1.mono l2) r2 h2⟩
    · exact h1.elim⟩
/-- a change of the list in a cell -/
def celM (n : Nat) (M : MS) (k : List D → Option (List D)) : R D := match M[n]? with
  | some (.lst ds) => (match k ds with
    | some ds' => .ok .non (M.set n (.lst ds'))
    | none => .stuck)
  | _ => .stuck
def appS : D → List D → MS → R D
  | .cell n, [d], M => celM n M fun ds => if ds.length < big then some (ds ++ [d]) else none
  | _, _, _ => .stuck
def insS : D → List D → MS → R D
  | .cell n, [.int i, d], M => celM n M fun ds => if ds.length < big ∧ 0 ≤ i ∧ i ≤ 1000000 then some (ds.take i.toNat ++ [d] ++ ds.drop i.toNat) else none
  | _, _, _ => .stuck
def extS : D → List D → MS → R D
  | .cell n, [x], M => match lk M x with
    | some (.lst es) => celM n M fun ds => if ds.length + es.length ≤ big then some (ds ++ es) else none
    | _ => .stuck
  | _, _, _ => .stuck
theorem cel_key {w : Wd} {F H : Hp} {M : MS} {n : Nat} {x : V} {k : List D → Option (List D)} {E : XK} {Q : VK} (st : Sta g w F M H) (rx : Rep g w x (.cell n)) (h : GoodE g w F (celM n M k) E Q) :
    ∃ l vs ds ds', x = .ref l ∧ H l = some (.lst vs) ∧ Reps g w vs ds ∧ k ds = some ds' ∧ ∀ vs', Reps g w vs' ds' → Q .non (upd H l (.lst vs')) := by
  cases rx with
  | cell hn =>
    unfold celM at h
    split at h
    · rename_i ds hm
      obtain ⟨hG, hF, vs, hv, rs⟩ := st.at_ hn hm
      split at h
      · rename_i ds' hk
        exact ⟨_, vs, ds, ds', rfl, hv, rs, hk, fun vs' r' => h w _ _ (.refl _) (st.chg hn hG hF ⟨hG, hF, vs', upd_same, r'⟩) .non⟩
      · exact h.elim
    · exact h.elim
theorem key_app : KeyM g appS rAppend := fun w F M H x xs d ds E Q st rx rs h => by
  unfold appS at h
  split at h
  · obtain ⟨l, vs, dd, ds', rfl, hv, rv, hk, hq⟩ := cel_key st rx h
    cases rs with
    | cons r1 r2 =>
      cases r2
      split at hk
      · rename_i hl
        cases hk
        exact ⟨l, vs, _, rfl, rfl, hv, by rw [rv.length]; exact big_lt hl, hq _ (rv.append (.cons r1 .nil))⟩
      · cases hk
  · exact h.elim
theorem se_append {apos : Pos} {f : Sm} {fa : Sms} (ho : SE g c o f) (ha : SA g c [e] fa) (hbase : ∀ env, attributeBase o "append" env (eval o env) = eval o env := by intro _; rfl) (hline : (apos.endLine == pos.line) = true := by rfl)
    (hs : ∀ env, starEach [e] env = (false, eval e env) :: starEach [] env := by intro _; rfl)
    (hfew : ∀ env, ((backTo pos (starEach [e] env)).all (fun x => !x.1) && (backToKw pos (keywordEach [] env)).all (fun x => x.1.isSome) && decide ([e].length + ([] : List Keyword).length + (if ([] : List Keyword).isEmpty then 0 else 1) < 30)) = true := by intro _; rfl) : SE g c (.Call (.Attribute o "append" apos) [e] [] pos) (mtlS appS f fa) :=
  se_mtl (fun _ => rAppend) PySem.F.slot_list_append PySem.F.type_list_append (fun X => mt_append) key_app ho ha hbase hfew hline hs
theorem key_ins : KeyM g insS (fun x vs H Q => ∃ (l : Addr) (xs : List V) (i : Int) (y : V), x = .ref l ∧ vs = [.int i, y] ∧ H l = some (.lst xs) ∧ xs.length < sizeLine ∧ 0 ≤ i ∧ i < 2 ^ 63 ∧
    Q .non (upd H l (.lst (xs.take i.toNat ++ [y] ++ xs.drop i.toNat)))) := fun w F M H x xs d ds E Q st rx rs h => by
  unfold insS at h
  split at h
  · obtain ⟨l, vs, dd, ds', rfl, hv, rv, hk, hq⟩ := cel_key st rx h
    cases rs with
    | cons r0 rs =>
      cases r0
      cases rs with
      | cons r1 r2 =>
        cases r2
        split at hk
        · rename_i hl
          cases hk
          exact ⟨l, vs, _, _, rfl, rfl, hv, by rw [rv.length]; exact big_lt hl.1, hl.2.1, by omega, hq _ (((rv.take _).append (.cons r1 .nil)).append (rv.drop _))⟩
        · cases hk
  · exact h.elim
theorem se_insert {apos : Pos} {f : Sm} {fa : Sms} (ho : SE g c o f) (ha : SA g c [a, b] fa) (hbase : ∀ env, attributeBase o "insert" env (eval o env) = eval o env := by intro _; rfl) (hline : (apos.endLine == pos.line) = true := by rfl)
    (hs : ∀ env, starEach [a, b] env = (false, eval a env) :: starEach [b] env := by intro _; rfl) (hpl : ∀ env, (backTo pos (starEach [b] env)).any (·.1) = false := by intro _; rfl)
    (hfew : ∀ env, ((backTo pos (starEach [a, b] env)).all (fun x => !x.1) && (backToKw pos (keywordEach [] env)).all (fun x => x.1.isSome) && decide ([a, b].length + ([] : List Keyword).length + (if ([] : List Keyword).isEmpty then 0 else 1) < 30)) = true := by intro _; rfl) : SE g c (.Call (.Attribute o "insert" apos) [a, b] [] pos) (mtlS insS f fa) :=
  se_mtl (fun _ => fun x vs H Q => ∃ (l : Addr) (xs : List V) (i : Int) (y : V), x = .ref l ∧ vs = [.int i, y] ∧ H l = some (.lst xs) ∧ xs.length < sizeLine ∧ 0 ≤ i ∧ i < 2 ^ 63 ∧ Q .non (upd H l (.lst (xs.take i.toNat ++ [y] ++ xs.drop i.toNat))))
    PySem.F.slot_list_insert PySem.F.type_list_insert (fun X => mt_insert) key_ins ho ha hbase hfew hline hs hpl
theorem key_ext : KeyM g extS rExtend := fun w F M H x xs d ds E Q st rx rs h => by
  unfold extS at h
  split at h
  · rename_i n y
    cases rs with
    | cons r1 r2 =>
      cases r2
      cases ey : lk M y with
      | none => rw [ey] at h; exact h.elim
      | some y' =>
        rw [ey] at h
        have vy := r1.vw st ey
        cases vy with
        | lst q ry =>
          obtain ⟨l, vs, dd, ds', rfl, hv, rv, hk, hq⟩ := cel_key st rx h
          split at hk
          · rename_i hl
            cases hk
            exact ⟨l, _, vs, _, rfl, rfl, hv, q, by rw [rv.length, ry.length]; exact big_le hl, hq _ (rv.append ry)⟩
          · cases hk
        | _ => exact h.elim
  · exact h.elim
theorem se_extend {apos : Pos} {f : Sm} {fa : Sms} (ho : SE g c o f) (ha : SA g c [e] fa) (hbase : ∀ env, attributeBase o "extend" env (eval o env) = eval o env := by intro _; rfl) (hline : (apos.endLine == pos.line) = true := by rfl)
    (hs : ∀ env, starEach [e] env = (false, eval e env) :: starEach [] env := by intro _; rfl)
    (hfew : ∀ env, ((backTo pos (starEach [e] env)).all (fun x => !x.1) && (backToKw pos (keywordEach [] env)).all (fun x => x.1.isSome) && decide ([e].length + ([] : List Keyword).length + (if ([] : List Keyword).isEmpty then 0 else 1) < 30)) = true := by intro _; rfl) : SE g c (.Call (.Attribute o "extend" apos) [e] [] pos) (mtlS extS f fa) :=
  se_mtl (fun _ => rExtend) PySem.F.slot_list_extend PySem.F.type_list_extend (fun X => mt_extend) key_ext ho ha hbase hfew hline hs
/-! ### texts -/
def strL : List D → Option (List Str)
  | [] => some []
  | .str b :: r => (strL r).map (b :: ·)
  | _ => none
theorem reps_strL {w : Wd} : ∀ {ds : List D} {vs : List V} {bs : List Str}, Reps g w vs ds → strL ds = some bs → vs = bs.map V.str
  | [], _, _, r, h => by cases r; cases h; rfl
  | d :: ds, _, bs, r, h => by
    cases r with
    | cons q rs =>
      cases d with
      | str b =>
        have h' : (strL ds).map (b :: ·) = some bs := h
        cases e : strL ds with
        | none => rw [e] at h'; cases h'
        | some bs' =>
          rw [e] at h'
          cases h'
          cases q
          rw [reps_strL rs e]
          rfl
      | _ => cases h
def joiS (x y : D) (M : MS) : R D := match x, seqOf M y with
  | .str a, some ds => (match strL ds with
    | some ys => if (ys.map (·.length)).sum + ys.length * a.length ≤ 16777216 then .ok (.str (Txt.join a ys)) M else .stuck
    | none => .stuck)
  | _, _ => .stuck
def sm1S (op : D → D → MS → R D) (f h : Sm) : Sm := fun cf ds M => (f cf ds M).bind fun x M1 => match x with
  | .str _ => (h cf ds M1).bind fun y M2 => op x y M2
  | _ => .stuck
theorem se_join {apos : Pos} {f h : Sm} (ho : SE g c o f) (ha : SE g c e h) (hbase : ∀ env, attributeBase o "join" env (eval o env) = eval o env := by intro _; rfl) (hline : (apos.endLine == pos.line) = true := by rfl) (hs : ∀ env, starEach [e] env = [(false, eval e env)] := by intro _; rfl) :
    SE g c (.Call (.Attribute o "join" apos) [e] [] pos) (sm1S joiS f h) := fun X cf ok W tk =>
  PE.imp (pe_join (ho X cf ok W tk) (ha X cf ok W tk) (hs _) (hbase _) hline) fun σ H Q ⟨w, F, M, ds, st, sl, h0⟩ => ⟨w, F, M, ds, st, sl, Good.bind h0 fun w1 d v M1 H1 l1 s1 r1 h1 => by
    split at h1
    · rename_i z
      cases r1
      refine ⟨⟨z, rfl⟩, w1, F, M1, ds, s1, sl.mono l1, Good.bind h1 fun w2 y u M2 H2 l2 s2 r2 h2 => ?_⟩
      unfold joiS at h2
      split at h2
      · rename_i a ds' hz he
        cases hz
        obtain ⟨p, vs, rfl, hp, rv⟩ := seq_vw s2 r2 he
        split at h2
        · rename_i ys es
          split at h2
          · rename_i hb
            have ev := reps_strL rv es
            subst ev
            refine ⟨z, p, ys, rfl, rfl, ?_, hb, good_ret s2 h2 (.str _)⟩
            rw [ok.K]
            exact hp.imp SqL.of id
          · exact h2.elim
        · exact h2.elim
      · exact h2.elim
    · exact h1.elim⟩
end
/-! ### the law's end -/
def only (H : Hp) (a : Addr) : Hp := fun b => if b = a then H a else none
theorem only_at {H : Hp} {a : Addr} : only H a a = H a := if_pos rfl
theorem only_ex {H : Hp} {a : Addr} : Ex (only H a) H := fun b u q => by
  unfold only at q
  by_cases hb : b = a
  · rw [if_pos hb] at q
    rw [hb]
    exact q
  · rw [if_neg hb] at q
    cases q
theorem law_sp {g : Gm} {cf : CF} {i : Nat} {K : PySem.W.Frag} (hK : g.K = K) (hp : (g.par i).length = 1) (h : ∀ ns : List Int, ns.length ≤ 63 → ∃ M, cf i [.scr ns] [] = .ok (.bl true) M) (H : Hp) (a : Addr) (ns : List Int) (hl : ns.length ≤ 63) (hS : SqL K H a (ns.map V.int)) :
    spC g cf i [.ref a] H (fun v _ => v = .bl true) fun _ _ _ => False := by
  subst hK
  obtain ⟨M, e⟩ := h ns hl
  have hSq : SqL g.K (only H a) a (ns.map V.int) := by
    rcases hS with (q | ⟨o, q⟩) | q
    · exact .inl (.inl (by rw [only_at]; exact q))
    · exact .inl (.inr ⟨o, by rw [only_at]; exact q⟩)
    · exact .inr q
  refine ⟨hp.symm, ⟨only H a, []⟩, fun _ => none, [], [.scr ns], ⟨only_ex, fun _ _ q => (nomatch q), rfl, fun n b c q => ?_, fun n m b q => ?_, fun _ _ q => (nomatch q)⟩, .cons (.scr hSq) .nil, ?_⟩
  · simp at q
  · simp at q
  · rw [e]
    intro w' b H' l s r
    cases r
    rfl
theorem cx_none {P : Program} {w : World} (H : Hp) (s : Shared) (e : Value) (s' : Shared) (h : L2.CX P w [] H s (fun _ _ _ => False) e s') : False := by
  obtain ⟨_, _, _, _, _, _, _, _, _, _, _, _, z⟩ := h
  exact z
end MP
set_option maxHeartbeats 4000000
/-! MPL: the head's facts by any Bool of one's own; the end of a law. -/
namespace MP
open PySem L2 Evl He
/-! ### the Hook -/
def obsX (b : PySem.W.Frag → Bool) (fn : List DefD) (K : PySem.W.Frag) : AlD := (b K && fn.all fun d => d.ok K, fn.map fun d => fnW K d.at_)
def SaysX (b : PySem.W.Frag → Bool) (fn : List DefD) (K : PySem.W.Frag) : Prop := obsX b fn K = valD fn
def obsXG (n : Nat) (b : PySem.W.Frag → Bool) (fn : List DefD) (g : Addr → Option Obj) : AlD := obsX b fn (frG g (asD g n))
def hookX (n : Nat) (b : PySem.W.Frag → Bool) (fn : List DefD) : PySem.W.Hook where
  α := AlD
  obs := fun s => obsXG n b fn s.heap.get?
  val := fun _ => valD fn
  says := fun _ h => ∃ K : PySem.W.Frag, K.In h ∧ SaysX b fn K
  of := fun _ _ e => ⟨_, frG_in, e⟩
  keeps := fun _ _ _ ⟨K, hK, c⟩ k => ⟨K, PySem.W.Frag.In.keeps hK k, c⟩
theorem obsXG_eq {n : Nat} {b : PySem.W.Frag → Bool} {fn : List DefD} {g : Addr → Option Obj} {s : Shared} (h : ∀ a, g a = s.heap.get? a) : obsXG n b fn g = (hookX n b fn).obs s := by
  have e : g = s.heap.get? := funext h
  rw [e] <;> rfl
section
variable {b : PySem.W.Frag → Bool} {fn : List DefD} {K : PySem.W.Frag}
theorem SaysX.bool (c : SaysX b fn K) : b K = true := (ba (show (b K && fn.all fun d => d.ok K) = true from congrArg (fun z : AlD => z.1) c)).1
theorem SaysX.def_ (c : SaysX b fn K) (i : Nat) {d : DefD} (h : fn[i]? = some d) : ∃ fd, FunD K d.name d.qual d.params d.body d.scope (d.dvs K) (d.kws K) (fAd K d.at_) fd := by
  have c2 := (ba (show (b K && fn.all fun d => d.ok K) = true from congrArg (fun z : AlD => z.1) c)).2
  have e : fn.map (fun d => fnW K d.at_) = fn.map DefD.val := congrArg (fun z : AlD => z.2) c
  have e2 : (fn.map fun d => fnW K d.at_)[i]? = (fn.map DefD.val)[i]? := by rw [e]
  rw [List.getElem?_map, List.getElem?_map, h] at e2
  exact DefD.funD (Option.some.inj e2) (List.all_eq_true.mp c2 d (List.mem_of_getElem? h))
end
/-! ### one def of the text -/
/-- st: the def's statement; N its names by slots; f what it means -/
structure Ent where
  at_ : Str × Option Str
  qual : Str
  st : Stmt
  par : List Str
  N : List Str
  f : Ss
  dfl : List Dv := []
  kwd : List (Str × Dv) := []
def Ent.name (e : Ent) : Str := match e.st with
  | .FunctionDef n _ _ _ _ _ _ _ _ _ => n
  | _ => e.qual
def Ent.dd (e : Ent) : DefD := ⟨e.at_, e.name, e.qual, defArgs e.st, defBody e.st, defScope e.st, e.dfl, e.kwd⟩
def Ent.df (e : Ent) : MP.Def := ⟨e.N, e.f⟩
def fadOf (es : List Ent) (K : PySem.W.Frag) (i : Nat) : Addr := match es[i]? with
  | some e => fAd K e.at_
  | none => 0
def parOf (es : List Ent) (i : Nat) : List Str := match es[i]? with
  | some e => e.par
  | none => []
/-- the module's facts by the entries -/
def mkG (P : Program) (w : World) (K : PySem.W.Frag) (mg : Str → Option Value) (base : Heap) (cad : Nat → Addr) (es : List Ent) (fdd : Nat → FuncData) : Gm := ⟨P, w, K, mg, base, cad, fadOf es K, fdd, parOf es⟩
/-- what stands where -/
def Stands (es : List Ent) (K : PySem.W.Frag) (fdd : Nat → FuncData) : Prop := ∀ (i : Nat) (e : Ent), es[i]? = some e → FunD K e.name e.qual (defArgs e.st) (defBody e.st) (defScope e.st) (e.dd.dvs K) (e.dd.kws K) (fAd K e.at_) (fdd i)
theorem stands {b : PySem.W.Frag → Bool} {es : List Ent} {K : PySem.W.Frag} (c : SaysX b (es.map Ent.dd) K) : ∃ fdd : Nat → FuncData, Stands es K fdd := by
  have h : ∀ i : Nat, ∃ fd, ∀ e : Ent, es[i]? = some e → FunD K e.name e.qual (defArgs e.st) (defBody e.st) (defScope e.st) (e.dd.dvs K) (e.dd.kws K) (fAd K e.at_) fd := fun i => by
    cases he : es[i]? with
    | none => exact ⟨default, fun e q => by cases q⟩
    | some e =>
      obtain ⟨fd, F⟩ := c.def_ i (d := e.dd) (by rw [List.getElem?_map, he]; rfl)
      exact ⟨fd, fun e' q => by cases q; exact F⟩
  exact Classical.skolem.mp h |>.imp fun f hf i e q => hf i e q
/-- .. as the mini interpreter wants it -/
theorem defs_ok {P : Program} {w : World} {K : PySem.W.Frag} {mg : Str → Option Value} {base : Heap} {cad : Nat → Addr} {es : List Ent} {fdd : Nat → FuncData} (h : Stands es K fdd)
    (hs : ∀ (i : Nat) (e : Ent), es[i]? = some e → FnScope e.N e.par (defScope e.st)) (hb : ∀ (i : Nat) (e : Ent), es[i]? = some e → SSs (mkG P w K mg base cad es fdd) ⟨e.N, defScope e.st, fun _ => true⟩ (defBody e.st) e.f) :
    ∀ (i : Nat) (d : MP.Def), (es.map Ent.df)[i]? = some d → DefOk (mkG P w K mg base cad es fdd) i d := fun i d hd => by
  rw [List.getElem?_map] at hd
  cases he : es[i]? with
  | none => rw [he] at hd; cases hd
  | some e =>
    rw [he] at hd
    cases hd
    have F := h i e he
    refine ⟨⟨e.name, e.qual, defArgs e.st, defBody e.st, defScope e.st, e.dd.dvs K, e.dd.kws K, ?_, ?_, hb i e he⟩⟩
    · show FunD K e.name e.qual (defArgs e.st) (defBody e.st) (defScope e.st) (e.dd.dvs K) (e.dd.kws K) (fadOf es K i) (fdd i)
      unfold fadOf
      rw [he]
      exact F
    · show FnScope e.N (parOf es i) (defScope e.st)
      unfold parOf
      rw [he]
      exact hs i e he
/-! ### how calls bind -/
/-- the values that the parameters get, by places in: the written ones, the keywords', the defaults -/
def sel {α : Type} (d : α) (is : List Nat) (us ws ds : List α) : List α := is.map fun i => (us ++ ws ++ ds).getD i d
abbrev selD (is : List Nat) (dd : List D) (us ws : List D) : List D := sel .non is us ws dd
theorem getD_vals {vs : List V} {us : List Value} (r : Vals vs us) : ∀ i, RelV (vs.getD i .non) (us.getD i .none) := by
  induction r with
  | nil => intro i; rfl
  | cons h t ih => intro i; cases i with
    | zero => exact h
    | succ i => exact ih i
theorem getD_reps {g : Gm} {w : Wd} : ∀ {vs : List V} {ds : List D}, Reps g w vs ds → ∀ i, Rep g w (vs.getD i .non) (ds.getD i .non)
  | _, _, .nil, i => .non
  | _, _, .cons h t, 0 => h
  | _, _, .cons h t, i + 1 => getD_reps t i
theorem sel_vals {is : List Nat} {vs zs xs : List V} {us ws ds : List Value} (h1 : Vals vs us) (h2 : Vals zs ws) (h3 : Vals xs ds) : Vals (sel .non is vs zs xs) (sel .none is us ws ds) := by
  have h := (h1.append h2).append h3
  unfold sel
  induction is with
  | nil => exact .nil
  | cons i is ih => exact .cons (getD_vals h i) ih
theorem sel_reps {g : Gm} {w : Wd} {is : List Nat} {vs zs xs : List V} {us ws ds : List D} (h1 : Reps g w vs us) (h2 : Reps g w zs ws) (h3 : Reps g w xs ds) : Reps g w (sel .non is vs zs xs) (sel .non is us ws ds) := by
  have h := (h1.append h2).append h3
  unfold sel
  induction is with
  | nil => exact .nil
  | cons i is ih => exact .cons (getD_reps h i) ih
theorem sel_len {α : Type} {d : α} {is : List Nat} {us ws ds : List α} : (sel d is us ws ds).length = is.length := by
  unfold sel
  rw [List.length_map]
/-- a def without defaults: n values, the keywords ks -/
theorem callOk {g : Gm} {i n : Nat} {ks : List Str} {is : List Nat} {x qual : Str} {params : Arguments} {body : List Stmt} {scope : Scope} {kws : List (Str × V)} (F : FunD g.K x qual params body scope [] kws (g.fad i) (g.fdd i)) (hl : is.length = (g.par i).length)
    (h : ∀ (kV doc pm : Value) (an : Option Addr) (cdv ct : Value) (us ws : List Value), us.length = n → ws.length = ks.length → bindArgs (PySem.W.fnOf x qual params body scope .none kV doc pm an cdv ct) ⟨us, ks.zip ws⟩ = pure ((g.par i).zip (sel .none is us ws []))) : CallOk g i n ks (selD is []) := by
  obtain ⟨oc, od, dV, kV, doc, pm, an, cdv, ct, osl, e, lk, hcd, hD, hK⟩ := F.ex
  rcases hD with ⟨_, rfl⟩ | ⟨q, _⟩
  · refine ⟨⟨fun us ws => sel .none is us ws [], fun s us ws _ l1 l2 => ?_, fun w vs zs us ws ds es r1 r2 r3 r4 _ _ => ⟨sel .non is vs zs [], sel_vals r1 r2 .nil, sel_reps r3 r4 .nil, by rw [sel_len, hl]⟩⟩⟩
    rw [e]
    exact .of_eq (h kV doc pm an cdv ct us ws l1 l2)
  · exact absurd rfl q
/-! ### the end -/
theorem walk_ofW {l : PySem.W.OpenLaw} {n k : Nat} {q : Program} {loose : List Str} {XP : (Str → Option Value) → Heap → Prop} {YP : World → Heap → Prop} {d : DefRec} {x : Str}
    (hn : l.most = some n) (hn2 : n ≤ sizeLine) (hdf : d.params.defaults = []) (hr : Room k callerA)
    (F : ∀ (w : World) (mg : Str → Option Value) (fa : Addr) (h : Heap), YP w h → h.Ns mainGlobals mg → mg d.name = some (.ref fa) →
      ∃ (K : PySem.W.Frag) (fd : FuncData) (sp : Sp), K.In h ∧ (∀ (s : Shared) (u : Value), BindsTo s fd ⟨[u], []⟩ [(x, u)]) ∧
        (∀ (H : Hp) (a : Addr) (ns : List Int), ns.length ≤ n → Only H → SqL K H a (ns.map V.int) → sp [.ref a] H (fun v _ => v = .bl true) fun _ _ _ => False) ∧
        ∀ base : Heap, K.In base → base.Ns mainGlobals mg → FnOk l.prog w K mg base (L2.CX l.prog w) k fa fd [x] sp) :
    PySem.W.WalkO q loose XP YP l.row.toRowW d [] (fun f vs => PySem.call f vs) := by
  refine Att.attach_call hn hdf fun w s₀ s₁ mg mb fa o pm cd doc a vs ns G Y ho hd hcd hmg hobj hints hlen hg => ?_
  obtain ⟨K, fd, sp, KX, hb, hsp, hF⟩ := F w mg fa _ Y G.T.g hmg
  exact law_call KX G.T.g G.T.b G.T.builtins G.T.nolimit hg hobj hints (Nat.le_trans hlen hn2) hr hF hb (fun H hO hS => hsp H a ns hlen hO hS) fun H e s' h => cx_none H s₁ e s' h
theorem fin_walk {l : PySem.W.OpenLaw} {k : Nat} {q : Program} {loose : List Str} {d : DefRec} {n : Nat} {b : PySem.W.Frag → Bool} {es : List Ent} {x : Str} {i : Nat} {ent : Ent} {XP : (Str → Option Value) → Heap → Prop} (hn : l.most = some 63) (hdf : d.params.defaults = []) (hr : Room (2 * k) callerA) (hx : d.name = ("law" : Str)) (hent : es[i]? = some ent) (hat : ent.at_ = (("law" : Str), none)) (hpar : ent.par = [x])
    (hglo : ∀ K : PySem.W.Frag, b K = true → (Fa.glo "law").ok K = true)
    (hbind : ∀ (kV doc pm : Value) (an : Option Addr) (cdv ct : Value) (us : List Value), us.length = 1 → bindArgs (PySem.W.fnOf ent.name ent.qual (defArgs ent.st) (defBody ent.st) (defScope ent.st) .none kV doc pm an cdv ct) ⟨us, []⟩ = pure ([x].zip us)) (hdd : ent.dfl = [])
    (main : ∀ (w : World) (K : PySem.W.Frag) (mg : Str → Option Value) (h : Heap) (fdd : Nat → FuncData), K.In h → h.Ns mainGlobals mg → b K = true → Stands es K fdd → ∃ cad : Nat → Addr, ∀ base : Heap, K.In base → base.Ns mainGlobals mg → ∀ (i : Nat) (dd : MP.Def), (es.map Ent.df)[i]? = some dd → DefOk (mkG l.prog w K mg base cad es fdd) i dd)
    (run : ∀ ns : List Int, ns.length ≤ 63 → ∃ M, callP (es.map Ent.df) k i [.scr ns] [] = .ok (.bl true) M) :
    PySem.W.WalkO q loose XP (hookX n b (es.map Ent.dd)).says l.row.toRowW d [] (fun f vs => PySem.call f vs) := by
  refine walk_ofW (l := l) (n := 63) (k := 2 * k) (x := x) hn (by decide) hdf hr fun w mg fa h Y G e => ?_
  obtain ⟨K, KX, c⟩ := Y
  obtain ⟨fdd, S⟩ := stands c
  obtain ⟨cad, hM⟩ := main w K mg h fdd KX G c.bool S
  have hfad : ∀ base, (mkG l.prog w K mg base cad es fdd).fad i = ga K "law" := fun base => by
    show fadOf es K i = _
    unfold fadOf
    rw [hent]
    show fAd K ent.at_ = _
    rw [hat]
    rfl
  have hpar' : ∀ base, (mkG l.prog w K mg base cad es fdd).par i = [x] := fun base => by
    show parOf es i = _
    unfold parOf
    rw [hent]
    exact hpar
  have hfa : fa = ga K "law" := by
    rw [hx] at e
    have e2 := He.glo_ok KX G (hglo K c.bool)
    rw [e2] at e
    exact (Value.ref.inj (Option.some.inj e)).symm
  have FD := S i ent hent
  have hdv : ent.dd.dvs K = [] := by
    show (ent.dfl.map fun d => d.v K) = []
    rw [hdd]
    rfl
  rw [hdv] at FD
  refine ⟨K, fdd i, fun vs H Q E => ∀ base, spC (mkG l.prog w K mg base cad es fdd) (callP (es.map Ent.df) k) i vs H Q E, KX, fun s u => FD.bindsA (ps := [x]) hbind s [u] rfl, fun H a ns hl hO hS base => law_sp rfl (by rw [hpar' base]; rfl) run H a ns hl hS, fun base KB NB => ?_⟩
  have h2 := prog_ok (g := mkG l.prog w K mg base cad es fdd) (defs := es.map Ent.df) (hM base KB NB) k i
  rw [hfad base, hpar' base] at h2
  rw [hfa]
  exact h2.imp fun vs H Q E h => h base
end MP
set_option maxHeartbeats 4000000
/-! MPM: facts by names; a cell that changes no more. -/
namespace MP
open PySem L2 Evl He
/-! ### facts -/
def facB (fs : List Fa) (ts : List (Str × List Dv)) (K : PySem.W.Frag) : Bool := (fs.all fun f => f.ok K) && ts.all fun t => (Fa.glo t.1).ok K && He.tupB K t.1 t.2
theorem fac_fa {fs : List Fa} {ts : List (Str × List Dv)} {K : PySem.W.Frag} (h : facB fs ts K = true) (i : Nat) {f : Fa} (e : fs[i]? = some f) : f.ok K = true := List.all_eq_true.mp (ba h).1 f (List.mem_of_getElem? e)
theorem fac_tu {fs : List Fa} {ts : List (Str × List Dv)} {K : PySem.W.Frag} (h : facB fs ts K = true) (i : Nat) {t : Str × List Dv} (e : ts[i]? = some t) : (Fa.glo t.1).ok K = true ∧ He.tupB K t.1 t.2 = true := ba (List.all_eq_true.mp (ba h).2 t (List.mem_of_getElem? e))
def dvD : Dv → D
  | .bl b => .bl b
  | .int i => .int i
  | .str x => .str x
  | _ => .non
def dvFlat : Dv → Bool
  | .non => true
  | .bl _ => true
  | .int _ => true
  | .str _ => true
  | _ => false
theorem reps_dv {g : Gm} {w : Wd} {K : PySem.W.Frag} : ∀ {vs : List Dv}, vs.all dvFlat = true → Reps g w (vs.map (Dv.v K)) (vs.map dvD)
  | [], _ => .nil
  | v :: vs, h => by
    rw [List.all_cons] at h
    obtain ⟨h1, h2⟩ := ba h
    refine .cons ?_ (reps_dv h2)
    cases v with
    | non => exact .non
    | bl b => exact .bl b
    | int i => exact .int i
    | str x => exact .str x
    | _ => cases h1
section
variable {P : Program} {w : World} {K : PySem.W.Frag} {mg : Str → Option Value} {base h : Heap} {cad : Nat → Addr} {es : List Ent} {fdd : Nat → FuncData}
theorem glo_int (X : K.In h) (G : h.Ns mainGlobals mg) {x : Str} {i : Int} (c : (Fa.int x i).ok K = true) : GloOk (mkG P w K mg base cad es fdd) x (.int i) :=
  let ⟨t, e⟩ := int_ok X G c
  ⟨⟨.int i, .int i t, e, ⟨t, rfl⟩, fun _ => .int i⟩⟩
theorem glo_str (X : K.In h) (G : h.Ns mainGlobals mg) {x z : Str} (c : (Fa.str x z).ok K = true) : GloOk (mkG P w K mg base cad es fdd) x (.str z) :=
  let ⟨t, e⟩ := str_ok X G c
  ⟨⟨.str z, .str z t, e, ⟨t, rfl⟩, fun _ => .str z⟩⟩
theorem glo_tup (X : K.In h) (G : h.Ns mainGlobals mg) {x : Str} {vs : List Dv} (c : (Fa.glo x).ok K = true ∧ He.tupB K x vs = true) (hf : vs.all dvFlat = true) : GloOk (mkG P w K mg base cad es fdd) x (.tup (vs.map dvD)) :=
  ⟨⟨.ref (ga K x), .ref (ga K x), glo_ok X G c.1, rfl, fun w' => .tup (tupB_ok c.2 w'.G) (reps_dv hf)⟩⟩
theorem glo_fn (X : K.In h) (G : h.Ns mainGlobals mg) (S : Stands es K fdd) {x : Str} {i : Nat} {e : Ent} (c : (Fa.glo x).ok K = true) (he : es[i]? = some e) (ha : e.at_ = (x, none)) : GloFn (mkG P w K mg base cad es fdd) x i := by
  have hfad : (mkG P w K mg base cad es fdd).fad i = ga K x := by
    show fadOf es K i = _
    unfold fadOf
    rw [he]
    show fAd K e.at_ = _
    rw [ha]
    rfl
  refine ⟨?_, ?_⟩
  · rw [hfad]
    exact glo_ok X G c
  · have F := S i e he
    have hk := F.kp
    have hk2 : fAd K e.at_ = (mkG P w K mg base cad es fdd).fad i := by
      rw [hfad, ha]
      rfl
    rw [hk2] at hk
    exact hk
theorem call_fn (S : Stands es K fdd) {i n : Nat} {ks : List Str} {is : List Nat} {e : Ent} (he : es[i]? = some e) (hd : e.dfl = []) (hl : is.length = e.par.length)
    (hb : ∀ (kV doc pm : Value) (an : Option Addr) (cdv ct : Value) (us ws : List Value), us.length = n → ws.length = ks.length → bindArgs (PySem.W.fnOf e.name e.qual (defArgs e.st) (defBody e.st) (defScope e.st) .none kV doc pm an cdv ct) ⟨us, ks.zip ws⟩ = pure (e.par.zip (sel .none is us ws []))) : CallOk (mkG P w K mg base cad es fdd) i n ks (selD is []) := by
  have F := S i e he
  have hdv : e.dd.dvs K = [] := by
    show (e.dfl.map fun d => d.v K) = []
    rw [hd]
    rfl
  rw [hdv] at F
  have hfad : fAd K e.at_ = (mkG P w K mg base cad es fdd).fad i := by
    show _ = fadOf es K i
    unfold fadOf
    rw [he]
  have hpar : (mkG P w K mg base cad es fdd).par i = e.par := by
    show parOf es i = _
    unfold parOf
    rw [he]
  rw [hfad] at F
  exact callOk (g := mkG P w K mg base cad es fdd) F (by rw [hpar]; exact hl) (by rw [hpar]; exact hb)
end
/-! ### freezing -/
section
variable {g : Gm} {c : Cxt} {e : Expr}
def frzN (n : Nat) (M : MS) : Option C → R D
  | some (.lst ds) => .ok (.lst ds) (M.set n (.frz (.lst ds)))
  | some (.dk ds) => .ok (.dk ds) (M.set n (.frz (.dk ds)))
  | some (.dt ds) => .ok (.dt ds) (M.set n (.frz (.dt ds)))
  | some (.ins c fs) => .ok (.ins c fs) (M.set n (.frz (.ins c fs)))
  | some (.frz d) => .ok d M
  | none => .stuck
def frzD (x : D) (M : MS) : R D := match x with
  | .cell n => frzN n M M[n]?
  | d => .ok d M
def frzS (f : Sm) : Sm := fun cf ds M => (f cf ds M).bind frzD
theorem Sta.frz {w : Wd} {F H : Hp} {M : MS} {n : Nat} {a : Addr} {o : HO} {d : D} (s : Sta g w F M H) (hn : w.io[n]? = some a) (hG : w.G a = none) (hF : F a = none) (hH : H a = some o) (hr : Rep g (w.addG a o) (.ref a) d) : w.le (w.addG a o) ∧ Sta g (w.addG a o) F (M.set n (.frz d)) H := by
  have l : w.le (w.addG a o) := Wd.le_addG hG
  have hlt : n < M.length := by
    rw [s.len]
    exact (List.getElem?_eq_some_iff.mp hn).1
  refine ⟨l, ⟨fun b o' q => ?_, s.frm, by rw [List.length_set]; exact s.len, fun m b c' q1 q2 => ?_, s.inj, fun b o' q => ?_⟩⟩
  · have q : upd w.G a o b = some o' := q
    unfold upd at q
    by_cases hb : b = a
    · rw [if_pos hb] at q
      rw [hb]
      rw [hH]
      exact q
    · rw [if_neg hb] at q
      exact s.ext _ _ q
  · have q1 : w.io[m]? = some b := q1
    by_cases hm : m = n
    · subst hm
      rw [List.getElem?_set_self hlt] at q2
      cases q2
      rw [hn] at q1
      cases q1
      refine ⟨?_, hr⟩
      show (upd w.G a o a).isSome = true
      unfold upd
      rw [if_pos rfl]
      rfl
    · rw [List.getElem?_set_ne (Ne.symm hm)] at q2
      have hb : b ≠ a := fun q => hm (s.inj m n a (q ▸ q1) hn)
      refine CellOk.mono l (fun q => ?_) rfl (s.cel m b c' q1 q2)
      show upd w.G a o b = none
      unfold upd
      rw [if_neg hb]
      exact q
  · show upd w.G a o b = none
    unfold upd
    by_cases hb : b = a
    · rw [hb, hF] at q
      cases q
    · rw [if_neg hb]
      exact s.sep b o' q
theorem upd_self {G : Hp} {a : Addr} {o : HO} : upd G a o a = some o := by
  unfold upd
  rw [if_pos rfl]
theorem frz_key {w : Wd} {F H : Hp} {M : MS} {x : V} {dx : D} {E : XK} {Q : VK} (st : Sta g w F M H) (rx : Rep g w x dx) (h : GoodE g w F (frzD dx M) E Q) : Q x H := by
  cases rx with
  | cell hn =>
    rename_i n a
    have hn' := hn
    have h : GoodE g w F (frzN n M M[n]?) E Q := h
    cases e : M[n]? with
    | none => rw [e] at h; exact h.elim
    | some c =>
      rw [e] at h
      have C := st.at_ hn e
      cases c with
      | lst ds =>
        obtain ⟨hG, hF, vs, hH, r⟩ := C
        have hr : Rep g (w.addG a (.lst vs)) (.ref a) (.lst ds) := .lst upd_self (Reps.mono (Wd.le_addG hG) r)
        obtain ⟨l, s⟩ := st.frz hn hG hF hH hr
        exact h _ _ _ l s hr
      | dk ds =>
        obtain ⟨hG, hF, vs, hH, q, r⟩ := C
        have hr : Rep g (w.addG a (.dK vs)) (.ref a) (.dk ds) := .dk upd_self q (Reps.mono (Wd.le_addG hG) r)
        obtain ⟨l, s⟩ := st.frz hn hG hF hH hr
        exact h _ _ _ l s hr
      | dt ds =>
        obtain ⟨hG, hF, vs, hH, q, r⟩ := C
        have hr : Rep g (w.addG a (.dT vs)) (.ref a) (.dt ds) := .dt upd_self q (Reps.mono (Wd.le_addG hG) r)
        obtain ⟨l, s⟩ := st.frz hn hG hF hH hr
        exact h _ _ _ l s hr
      | ins k ds =>
        obtain ⟨hG, hF, dx, vs, hH, q, r⟩ := C
        have hr : Rep g (w.addG a (.ins (g.cad k) dx vs)) (.ref a) (.ins k ds) := .ins upd_self q (Reps.mono (Wd.le_addG hG) r)
        obtain ⟨l, s⟩ := st.frz hn hG hF hH hr
        exact h _ _ _ l s hr
      | frz d => exact h w _ H ⟨fun _ _ q => q, fun _ _ q => q⟩ st C.2
  | non => exact good_ret st h .non
  | bl b => exact good_ret st h (.bl b)
  | int i => exact good_ret st h (.int i)
  | str z => exact good_ret st h (.str z)
  | tup q r => exact good_ret st h (.tup q r)
  | lst q r => exact good_ret st h (.lst q r)
  | scr q => exact good_ret st h (.scr q)
  | dk q r s => exact good_ret st h (.dk q r s)
  | dt q r s => exact good_ret st h (.dt q r s)
  | ins q r s => exact good_ret st h (.ins q r s)
theorem se_frz {f : Sm} (h : SE g c e f) : SE g c e (frzS f) := fun X cf ok W tk => PE.imp (h X cf ok W tk) fun σ H Q ⟨w, F, M, ds, st, sl, h0⟩ =>
  ⟨w, F, M, ds, st, sl, Good.bind h0 fun w1 a b M1 H1 l s r h1 => frz_key s r h1⟩
/-- tuple(xs) -/
def tuS : List D → MS → R D
  | [x], M => match seqOf M x with
    | some ds => .ok (.tup ds) M
    | none => .stuck
  | _, _ => .stuck
theorem key_tup1 {w : Wd} {F H : Hp} {M : MS} {v : V} {x : D} {E : XK} {Q : VK} (st : Sta g w F M H) (q : Rep g w v x) (h : GoodE g w F (match seqOf M x with
    | some ds => .ok (.tup ds) M
    | none => .stuck) E Q) : ∃ p ys, v = .ref p ∧ ((SqL g.K H p ys ∧ ∀ l, H l = none → Q (.ref l) (upd H l (.tup ys))) ∨ (SqT g.K H p ys ∧ Q (.ref p) H)) := by
  by_cases ht : ∃ es, x = .tup es
  · obtain ⟨es, rfl⟩ := ht
    cases q with
    | tup q r => exact ⟨_, _, rfl, .inr ⟨ex_t st.ext q, good_ret st h (Rep.tup q r)⟩⟩
  · cases el : lk M x with
    | none => 
      have e : seqOf M x = none := by unfold seqOf; rw [el]
      rw [e] at h
      exact h.elim
    | some y =>
      have V := q.vw st el
      have e : seqOf M x = (match some y with
        | some (.lst ds) => some ds
        | some (.tup ds) => some ds
        | _ => none) := by unfold seqOf; rw [el] <;> rfl
      rw [e] at h
      cases V with
      | lst a b => exact ⟨_, _, rfl, .inl ⟨SqL.of a, good_tup st b h⟩⟩
      | tup a b => exact absurd ⟨_, lk_tup el⟩ ht
      | _ => exact h.elim
theorem key_tuple : KeyA g tuS (fun xs H Q => ∃ p ys, xs = [.ref p] ∧ ((SqL g.K H p ys ∧ ∀ l, H l = none → Q (.ref l) (upd H l (.tup ys))) ∨ (SqT g.K H p ys ∧ Q (.ref p) H))) := fun w F M H xs ds E Q st rx h => by
  unfold tuS at h
  split at h
  · cases rx with
    | cons q rs =>
      cases rs
      obtain ⟨p, ys, rfl, k⟩ := key_tup1 st q h
      exact ⟨p, ys, rfl, k⟩
  · exact h.elim
theorem se_tuple {p pos : Pos} {f : Sms} (hm : g.mg "tuple" = none) (ha : SA g c [e] f) (hg : glB c.sc "tuple" = true := by decide +kernel) (he : ∀ env, starEach [e] env = (false, eval e env) :: starEach [] env := by intro _; rfl) : SE g c (.Call (.Name "tuple" p) [e] [] pos) (calB tuS f) :=
  se_callT (fun K xs H Q => ∃ p ys, xs = [.ref p] ∧ ((SqL K H p ys ∧ ∀ l, H l = none → Q (.ref l) (upd H l (.tup ys))) ∨ (SqT K H p ys ∧ Q (.ref p) H))) (fun X hc => call_tuple_of) key_tuple hm (by decide +kernel) ha hg (by decide +kernel) (by decide +kernel) he
end
end MP
set_option maxHeartbeats 4000000
/-! MPN: a, b = x, y by plain names. -/
namespace MP
open PySem L2 Evl He
section
variable {g : Gm} {c : Cxt} {a b e e2 e3 tg : Expr} {pos : Pos}
theorem sw_of {ts : List Expr} {v : Expr} {sc : Scope} {r : Sem (Option (List Str))} (h : ∀ l gl ce q fu co fr bu, swappedStores ts v ⟨sc, l, gl, ce, q, fu, co, fr, bu⟩ = r) (env : PySem.Env) (he : env.scope = sc) : swappedStores ts v env = r := by
  obtain ⟨s, l, gl, ce, q, fu, co, fr, bu⟩ := env
  cases he
  exact h l gl ce q fu co fr bu
def par2 (i j : Nat) (f : Sms) : Ss := fun cf ds M => (f cf ds M).bind fun xs M1 => match xs with
  | [x, y] => .ok (.nx ((ds.set i (some x)).set j (some y))) M1
  | _ => .stuck
def par3 (i j l : Nat) (f : Sms) : Ss := fun cf ds M => (f cf ds M).bind fun xs M1 => match xs with
  | [x, y, z] => .ok (.nx (((ds.set i (some x)).set j (some y)).set l (some z))) M1
  | _ => .stuck
theorem ss_par2 (i j : Nat) {x y : Str} {px py pt pt2 : Pos} {kt k2 : Nat} {f : Sms} (ha : SA g c [a, b] f) (hi : c.N[i]? = some x := by rfl) (hj : c.N[j]? = some y := by rfl) (hij : i ≠ j := by decide) (hx : c.sc.names.lookup x = some .local := by decide +kernel) (hy : c.sc.names.lookup y = some .local := by decide +kernel)
    (hw : ∀ env : PySem.Env, env.scope = c.sc → swappedStores [.Tuple [.Name x px, .Name y py] kt pt] (.Tuple [a, b] k2 pt2) env = pure (some [x, y]) := by exact sw_of (by intros; kernel_rfl))
    (hs : ∀ env, swapsWithSole [.Tuple [.Name x px, .Name y py] kt pt] (.Tuple [a, b] k2 pt2) pos.line env = pure false := by intro _; rfl) :
    SS g c (.Assign [.Tuple [.Name x px, .Name y py] kt pt] (.Tuple [a, b] k2 pt2) pos) (par2 i j f) := fun X cf ok ps W tk => by
  refine PS.imp (ps_par ok.calm (by rw [ok.N]; exact ok.nd) (by rw [ok.N]; exact hi) (by rw [ok.N]; exact hj) hij (by rw [ok.sc]; exact hx) (by rw [ok.sc]; exact hy) (ha X cf ok W tk) (hw _ ok.sc) (hs _)) fun T σ H ⟨w, F, M, ds, st, sl, h0⟩ => ⟨w, F, M, ds, st, sl, GoodS.bind h0 fun w1 xs vs M1 H1 l1 s1 r1 h1 => ?_⟩
  split at h1
  · cases r1 with
    | cons q1 r1 =>
      cases r1 with
      | cons q2 r2 =>
        cases r2
        exact ⟨_, _, rfl, h1 w1 _ H1 ⟨fun _ _ q => q, fun _ _ q => q⟩ s1 (((sl.mono l1).set i q1).set j q2)⟩
  · exact h1.elim
theorem ss_par3 (i j l : Nat) {x y z : Str} {px py pz pt pt2 : Pos} {kt k2 : Nat} {f : Sms} (ha : SA g c [a, b, e] f) (hi : c.N[i]? = some x := by rfl) (hj : c.N[j]? = some y := by rfl) (hl : c.N[l]? = some z := by rfl) (hij : i ≠ j := by decide) (hil : i ≠ l := by decide) (hjl : j ≠ l := by decide) (hx : c.sc.names.lookup x = some .local := by decide +kernel) (hy : c.sc.names.lookup y = some .local := by decide +kernel) (hz : c.sc.names.lookup z = some .local := by decide +kernel)
    (hw : ∀ env : PySem.Env, env.scope = c.sc → swappedStores [.Tuple [.Name x px, .Name y py, .Name z pz] kt pt] (.Tuple [a, b, e] k2 pt2) env = pure (some [x, y, z]) := by exact sw_of (by intros; kernel_rfl))
    (hs : ∀ env, swapsWithSole [.Tuple [.Name x px, .Name y py, .Name z pz] kt pt] (.Tuple [a, b, e] k2 pt2) pos.line env = pure false := by intro _; rfl) :
    SS g c (.Assign [.Tuple [.Name x px, .Name y py, .Name z pz] kt pt] (.Tuple [a, b, e] k2 pt2) pos) (par3 i j l f) := fun X cf ok ps W tk => by
  refine PS.imp (ps_par3 ok.calm (by rw [ok.N]; exact ok.nd) (by rw [ok.N]; exact hi) (by rw [ok.N]; exact hj) (by rw [ok.N]; exact hl) hij hil hjl (by rw [ok.sc]; exact hx) (by rw [ok.sc]; exact hy) (by rw [ok.sc]; exact hz) (ha X cf ok W tk) (hw _ ok.sc) (hs _)) fun T σ H ⟨w, F, M, ds, st, sl, h0⟩ => ⟨w, F, M, ds, st, sl, GoodS.bind h0 fun w1 xs vs M1 H1 l1 s1 r1 h1 => ?_⟩
  split at h1
  · cases r1 with
    | cons q1 r1 =>
      cases r1 with
      | cons q2 r2 =>
        cases r2 with
        | cons q3 r3 =>
          cases r3
          exact ⟨_, _, _, rfl, h1 w1 _ H1 ⟨fun _ _ q => q, fun _ _ q => q⟩ s1 ((((sl.mono l1).set i q1).set j q2).set l q3)⟩
  · exact h1.elim
end
end MP
set_option maxHeartbeats 4000000
/-! PPA: runs. -/
namespace MP
open PySem L2 Evl He
def Run {α : Type} (r : R α) (p : α → MS → Prop) : Prop := match r with
  | .ok a M => p a M
  | _ => False
theorem r_ok {α : Type} {a : α} {M : MS} {p : α → MS → Prop} : Run (.ok a M) p = p a M := rfl
theorem r_stuck {α : Type} {p : α → MS → Prop} : Run .stuck p = False := rfl
theorem r_exc {α : Type} {x : Xd} {M : MS} {p : α → MS → Prop} : Run (.exc x M) p = False := rfl
theorem r_bind {α β : Type} {r : R α} {k : α → MS → R β} {p : β → MS → Prop} : Run (r.bind k) p = Run r fun a M => Run (k a M) p := by
  cases r <;> rfl
theorem r_ite {α : Type} {c : Prop} [Decidable c] {r r' : R α} {p : α → MS → Prop} : Run (if c then r else r') p = if c then Run r p else Run r' p := by
  split <;> rfl
theorem r_if0 {α : Type} {c : Prop} [Decidable c] {r : R α} {p : α → MS → Prop} : Run (if c then r else .stuck) p = (c ∧ Run r p) := by
  split
  · rename_i h; rw [eq_true h, true_and]
  · rename_i h; rw [eq_false h, false_and]; rfl
theorem Run.imp {α : Type} {r : R α} {p q : α → MS → Prop} (h : Run r p) (k : ∀ a M, p a M → q a M) : Run r q := by
  cases r with
  | ok a M => exact k a M h
  | _ => exact h.elim
theorem Run.mp {α : Type} {r : R α} {p : α → MS → Prop} (h : Run r p) : ∃ a M, r = .ok a M ∧ p a M := by
  cases r with
  | ok a M => exact ⟨a, M, rfl, h⟩
  | _ => exact h.elim
section
variable {cf : CF} {ds : Env} {M : MS} {f h k : Sm} {t u : Smt} {fa fb fk : Sms} {s s' : Ss} {p : D → MS → Prop} {pt : Bool → MS → Prop} {pa : List D → MS → Prop} {pf : Fl → MS → Prop} {pe : Env → MS → Prop} {po : Option Int → MS → Prop} {i j : Nat} {d : D} {o : Option D}
theorem r_v0 : Run (varS 0 cf (some d :: ds) M) p = p d M := rfl
theorem r_vs : Run (varS (i + 1) cf (o :: ds) M) p = Run (varS i cf ds M) p := rfl
theorem r_con : Run (conS d cf ds M) p = p d M := rfl
theorem r_op2 {op : D → D → MS → R D} : Run (op2 op f h cf ds M) p = Run (f cf ds M) fun x M1 => Run (h cf ds M1) fun y M2 => Run (op x y M2) p := by
  simp only [op2, r_bind]
theorem r_op1 {op : D → MS → R D} : Run (op1 op f cf ds M) p = Run (f cf ds M) fun x M1 => Run (op x M1) p := by
  simp only [op1, r_bind]
def andK (h : Sm) (cf : CF) (ds : Env) (p : D → MS → Prop) : D → MS → Prop
  | .bl true, M => Run (h cf ds M) p
  | .bl false, M => p (.bl false) M
  | _, _ => False
def orK (h : Sm) (cf : CF) (ds : Env) (p : D → MS → Prop) : D → MS → Prop
  | .bl true, M => p (.bl true) M
  | .bl false, M => Run (h cf ds M) p
  | _, _ => False
def notK (p : D → MS → Prop) : D → MS → Prop
  | .bl b, M => p (.bl (!b)) M
  | _, _ => False
theorem r_and : Run (andV f h cf ds M) p = Run (f cf ds M) (andK h cf ds p) := by
  simp only [andV, r_bind]
  congr 1
  funext x M1
  cases x with
  | bl b => cases b <;> rfl
  | _ => rfl
theorem r_or : Run (orV f h cf ds M) p = Run (f cf ds M) (orK h cf ds p) := by
  simp only [orV, r_bind]
  congr 1
  funext x M1
  cases x with
  | bl b => cases b <;> rfl
  | _ => rfl
theorem r_not : Run (notV f cf ds M) p = Run (f cf ds M) (notK p) := by
  simp only [notV, r_bind]
  congr 1
  funext x M1
  cases x <;> rfl
theorem k_and1 {b : Bool} : andK h cf ds p (.bl b) M = if b = true then Run (h cf ds M) p else p (.bl false) M := by cases b <;> rfl
theorem k_or1 {b : Bool} : orK h cf ds p (.bl b) M = if b = true then p (.bl true) M else Run (h cf ds M) p := by cases b <;> rfl
theorem k_not1 {b : Bool} : notK p (.bl b) M = p (.bl (!b)) M := rfl
theorem r_if : Run (ifV t f h cf ds M) p = Run (t cf ds M) fun b M1 => if b = true then Run (f cf ds M1) p else Run (h cf ds M1) p := by
  simp only [ifV, r_bind]
  congr 1
  funext x M1
  exact r_ite
theorem r_nil : Run (nilA cf ds M) pa = pa [] M := rfl
theorem r_cons : Run (consA f fa cf ds M) pa = Run (f cf ds M) fun x M1 => Run (fa cf ds M1) fun xs M2 => pa (x :: xs) M2 := by
  simp only [consA, r_bind, r_ok]
theorem r_tup : Run (tupS fa cf ds M) p = Run (fa cf ds M) fun xs M1 => xs.length ≤ big ∧ p (.tup xs) M1 := by
  simp only [tupS, r_bind, r_if0, r_ok]
theorem r_lst : Run (lstS fa cf ds M) p = Run (fa cf ds M) fun xs M1 => xs.length ≤ big ∧ p (.lst xs) M1 := by
  simp only [lstS, r_bind, r_if0, r_ok]
theorem r_cel : Run (celS fa cf ds M) p = Run (fa cf ds M) fun xs M1 => xs.length ≤ big ∧ p (.cell M1.length) (M1 ++ [.lst xs]) := by
  simp only [celS, r_bind, r_if0, r_ok]
theorem r_no : Run (noO cf ds M) po = po none M := rfl
def someK (p : Option Int → MS → Prop) : D → MS → Prop
  | .int i, M => p (some i) M
  | _, _ => False
theorem r_some : Run (someO f cf ds M) po = Run (f cf ds M) (someK po) := by
  simp only [someO, r_bind]
  congr 1
  funext x M1
  cases x <;> rfl
theorem k_some {z : Int} : someK po (.int z) M = po (some z) M := rfl
theorem r_sli {lo hi : Smo} : Run (sliS f lo hi cf ds M) p = Run (f cf ds M) fun x M1 => Run (lo cf ds M1) fun l M2 => Run (hi cf ds M2) fun u M3 => Run (slS l u x M3) p := by
  simp only [sliS, r_bind]
theorem r_calB {op : List D → MS → R D} : Run (calB op fa cf ds M) p = Run (fa cf ds M) fun xs M1 => Run (op xs M1) p := by
  simp only [calB, r_bind]
theorem r_cal {np nk : Nat} {pl : List D → List D → List D} : Run (calS i np nk pl fa fk cf ds M) p = Run (fa cf ds M) fun xs M1 => Run (fk cf ds M1) fun zs M2 => (xs.length = np ∧ zs.length = nk) ∧ Run (cf i (pl xs zs) M2) p := by
  simp only [calS, r_bind, r_if0]
theorem r_mtl {op : D → List D → MS → R D} : Run (mtlS op f fa cf ds M) p = Run (f cf ds M) fun x M1 => isLst M1 x = true ∧ Run (fa cf ds M1) fun xs M2 => Run (op x xs M2) p := by
  simp only [mtlS, r_bind, r_if0]
def sm1K (op : D → D → MS → R D) (h : Sm) (cf : CF) (ds : Env) (p : D → MS → Prop) : D → MS → Prop
  | .str x, M => Run (h cf ds M) fun y M2 => Run (op (.str x) y M2) p
  | _, _ => False
theorem r_sm1 {op : D → D → MS → R D} : Run (sm1S op f h cf ds M) p = Run (f cf ds M) (sm1K op h cf ds p) := by
  simp only [sm1S, r_bind]
  congr 1
  funext x M1
  cases x with
  | str z => exact r_bind
  | _ => rfl
theorem k_sm1 {op : D → D → MS → R D} {z : Str} : sm1K op h cf ds p (.str z) M = Run (h cf ds M) fun y M2 => Run (op (.str z) y M2) p := rfl
theorem r_frz : Run (frzS f cf ds M) p = Run (f cf ds M) fun x M1 => Run (frzD x M1) p := by
  simp only [frzS, r_bind]
def chK (o' : D → D → MS → R D) (k : Sm) (cf : CF) (ds : Env) (y : D) (p : D → MS → Prop) : D → MS → Prop
  | .bl true, M => Run (k cf ds M) fun z M4 => Run (o' y z M4) p
  | .bl false, M => p (.bl false) M
  | _, _ => False
theorem r_ch {o o' : D → D → MS → R D} : Run (chS o o' f h k cf ds M) p = Run (f cf ds M) fun x M1 => Run (h cf ds M1) fun y M2 => Run (o x y M2) (chK o' k cf ds y p) := by
  simp only [chS, r_bind]
  congr 1
  funext x M1
  congr 1
  funext y M2
  congr 1
  funext z M3
  cases z with
  | bl b => cases b with
    | true => exact r_bind
    | false => rfl
  | _ => rfl
theorem k_ch {o' : D → D → MS → R D} {y : D} {b : Bool} : chK o' k cf ds y p (.bl b) M = if b = true then Run (k cf ds M) fun z M4 => Run (o' y z M4) p else p (.bl false) M := by cases b <;> rfl
/-! tests -/
theorem r_tst : Run (tstS f cf ds M) pt = Run (f cf ds M) fun x M1 => Run (truS x M1) pt := by
  simp only [tstS, r_bind]
def boolK (p : Bool → MS → Prop) : D → MS → Prop
  | .bl b, M => p b M
  | _, _ => False
theorem r_tcm : Run (tcmS f cf ds M) pt = Run (f cf ds M) (boolK pt) := by
  simp only [tcmS, r_bind]
  congr 1
  funext x M1
  cases x <;> rfl
theorem k_bool {b : Bool} : boolK pt (.bl b) M = pt b M := rfl
theorem r_andT : Run (andT t u cf ds M) pt = Run (t cf ds M) fun b M1 => if b = true then Run (u cf ds M1) pt else pt false M1 := by
  simp only [andT, r_bind, r_ite, r_ok]
theorem r_orT : Run (orT t u cf ds M) pt = Run (t cf ds M) fun b M1 => if b = true then pt true M1 else Run (u cf ds M1) pt := by
  simp only [orT, r_bind, r_ite, r_ok]
theorem r_notT : Run (notT t cf ds M) pt = Run (t cf ds M) fun b M1 => pt (!b) M1 := by
  simp only [notT, r_bind, r_ok]
theorem r_yes : Run (yesT cf ds M) pt = pt true M := rfl
/-! iterables -/
theorem r_its : Run (itS f cf ds M) pa = Run (f cf ds M) fun x M1 => Run (walS x M1) pa := by
  simp only [itS, r_bind]
theorem r_ran {r : List D → MS → R (List D)} : Run (ranS r fa cf ds M) pa = Run (fa cf ds M) fun xs M1 => Run (r xs M1) pa := by
  simp only [ranS, r_bind]
theorem r_lc {ws : List Nat} {fin : List D → MS → R D} {bd : Bnd} : Run (lcS ws fin fa bd t f cf ds M) p = Run (fa cf ds M) fun items M1 => items.length ≤ big ∧ Run (compL bd (t cf) (f cf) (wipeD ds ws) items M1) fun ys M2 => Run (fin ys M2) p := by
  simp only [lcS, r_bind, r_if0]
/-! statements -/
def seqK (h : Ss) (cf : CF) (p : Fl → MS → Prop) : Fl → MS → Prop
  | .nx ds, M => Run (h cf ds M) p
  | o, M => p o M
theorem r_seq : Run (seqS s s' cf ds M) pf = Run (s cf ds M) (seqK s' cf pf) := by
  simp only [seqS, r_bind]
  congr 1
  funext x M1
  cases x <;> rfl
theorem k_nx : seqK s cf pf (.nx ds) M = Run (s cf ds M) pf := rfl
theorem k_rt : seqK s cf pf (.rt d) M = pf (.rt d) M := rfl
theorem k_bk : seqK s cf pf (.bk ds) M = pf (.bk ds) M := rfl
theorem k_ct : seqK s cf pf (.ct ds) M = pf (.ct ds) M := rfl
/-- one row first; the rest out of sight -/
theorem run_seq (h1 : ∀ P : Fl → MS → Prop, (∀ ds1 M1, Run (s' cf ds1 M1) pf → P (.nx ds1) M1) → (∀ d1 M1, pf (.rt d1) M1 → P (.rt d1) M1) → Run (s cf ds M) P) : Run (seqS s s' cf ds M) pf := by
  rw [r_seq]
  exact h1 _ (fun _ _ q => q) fun _ _ q => q
theorem r_skip : Run (skipS cf ds M) pf = pf (.nx ds) M := rfl
theorem r_set : Run (setS i f cf ds M) pf = Run (f cf ds M) fun d M1 => pf (.nx (ds.set i (some d))) M1 := by
  simp only [setS, r_bind, r_ok]
theorem r_ifS : Run (ifS t s s' cf ds M) pf = Run (t cf ds M) fun b M1 => if b = true then Run (s cf ds M1) pf else Run (s' cf ds M1) pf := by
  simp only [ifS, r_bind, r_ite]
theorem r_ret : Run (retS f cf ds M) pf = Run (f cf ds M) fun d M1 => pf (.rt d) M1 := by
  simp only [retS, r_bind, r_ok]
theorem r_retN : Run (retN cf ds M) pf = pf (.rt .non) M := rfl
theorem r_drop : Run (dropS f cf ds M) pf = Run (f cf ds M) fun _ M1 => pf (.nx ds) M1 := by
  simp only [dropS, r_bind, r_ok]
theorem r_brk : Run (brkS cf ds M) pf = pf (.bk ds) M := rfl
theorem r_cnt : Run (cntS cf ds M) pf = pf (.ct ds) M := rfl
def par2K (i j : Nat) (ds : Env) (p : Fl → MS → Prop) : List D → MS → Prop
  | [x, y], M => p (.nx ((ds.set i (some x)).set j (some y))) M
  | _, _ => False
def par3K (i j l : Nat) (ds : Env) (p : Fl → MS → Prop) : List D → MS → Prop
  | [x, y, z], M => p (.nx (((ds.set i (some x)).set j (some y)).set l (some z))) M
  | _, _ => False
theorem r_par2 : Run (par2 i j fa cf ds M) pf = Run (fa cf ds M) (par2K i j ds pf) := by
  simp only [par2, r_bind]
  congr 1
  funext xs M1
  match xs with
  | [] => rfl
  | [_] => rfl
  | [_, _] => rfl
  | _ :: _ :: _ :: _ => rfl
theorem r_par3 {l : Nat} : Run (par3 i j l fa cf ds M) pf = Run (fa cf ds M) (par3K i j l ds pf) := by
  simp only [par3, r_bind]
  congr 1
  funext xs M1
  match xs with
  | [] => rfl
  | [_] => rfl
  | [_, _] => rfl
  | [_, _, _] => rfl
  | _ :: _ :: _ :: _ :: _ => rfl
theorem k_par2 {x y : D} : par2K i j ds pf [x, y] M = pf (.nx ((ds.set i (some x)).set j (some y))) M := rfl
theorem k_par3 {l : Nat} {x y z : D} : par3K i j l ds pf [x, y, z] M = pf (.nx (((ds.set i (some x)).set j (some y)).set l (some z))) M := rfl
theorem r_asg {b : Bnm} : Run (asgM f b cf ds M) pf = Run (f cf ds M) fun d M1 => Run (b cf d ds M1) fun ds1 M2 => pf (.nx ds1) M2 := by
  simp only [asgM, r_bind, r_ok]
theorem r_nm : Run (nameM i cf d ds M) pe = pe (ds.set i (some d)) M := rfl
def subK (d : D) (ds : Env) (p : Env → MS → Prop) : D → D → MS → Prop
  | .cell n, .int k, M => Run (putL n k d M) fun _ M3 => p ds M3
  | _, _, _ => False
theorem r_sub : Run (subM f h cf d ds M) pe = Run (f cf ds M) fun o M1 => Run (h cf ds M1) fun i M2 => subK d ds pe o i M2 := by
  simp only [subM, r_bind]
  congr 1
  funext o M1
  congr 1
  funext i M2
  cases o with
  | cell n => cases i with
    | int k => exact r_bind
    | _ => rfl
  | _ => rfl
theorem k_sub {n : Nat} {z : Int} : subK d ds pe (.cell n) (.int z) M = Run (putL n z d M) fun _ M3 => pe ds M3 := rfl
def tupK (n : Nat) (k : Bns) (cf : CF) (ds : Env) (p : Env → MS → Prop) : D → MS → Prop
  | .tup xs, M => xs.length = n ∧ Run (k cf xs ds M) p
  | _, _ => False
theorem r_tupM {n : Nat} {kb : Bns} : Run (tupM n kb cf d ds M) pe = tupK n kb cf ds pe d M := by
  cases d with
  | tup xs => exact r_if0
  | _ => rfl
theorem k_tup {n : Nat} {kb : Bns} {xs : List D} : tupK n kb cf ds pe (.tup xs) M = (xs.length = n ∧ Run (kb cf xs ds M) pe) := rfl
theorem r_consM {b : Bnm} {kb : Bns} {xs : List D} : Run (consM b kb cf (d :: xs) ds M) pe = Run (b cf d ds M) fun ds1 M1 => Run (kb cf xs ds1 M1) pe := by
  show Run ((b cf d ds M).bind fun ds1 M1 => kb cf xs ds1 M1) pe = _
  rw [r_bind]
theorem r_nilM : Run (nilM cf [] ds M) pe = pe ds M := rfl
theorem r_for {bd : Bnd} : Run (forS fa bd s cf ds M) pf = Run (fa cf ds M) fun items M1 => Run (loopS bd (s cf) items ds M1) pf := by
  simp only [forS, r_bind]
/-! loops by an invariant -/
theorem loop_inv {bd : Bnd} {body : Env → MS → R Fl} {pf : Fl → MS → Prop} (I : List D → Env → MS → Prop) (hs : ∀ x xs ds M, I (x :: xs) ds M → ∃ ds1, bd x ds = some ds1 ∧ Run (body ds1 M) fun fl M1 => match fl with
    | .nx ds2 => I xs ds2 M1
    | .ct ds2 => I xs ds2 M1
    | .bk ds2 => pf (.nx ds2) M1
    | .rt d => pf (.rt d) M1) (he : ∀ ds M, I [] ds M → pf (.nx ds) M) : ∀ (xs : List D) (ds : Env) (M : MS), I xs ds M → Run (loopS bd body xs ds M) pf
  | [], ds, M, h => he ds M h
  | x :: xs, ds, M, h => by
    obtain ⟨ds1, e, q⟩ := hs x xs ds M h
    unfold loopS
    rw [e]
    show Run ((body ds1 M).bind _) pf
    rw [r_bind]
    refine q.imp fun fl M1 q1 => ?_
    cases fl with
    | nx ds2 => exact loop_inv I hs he xs ds2 M1 q1
    | ct ds2 => exact loop_inv I hs he xs ds2 M1 q1
    | bk ds2 => exact q1
    | rt d => exact q1
theorem noX_run {α : Type} {r : R α} {p : α → MS → Prop} : Run (noX r) p = Run r p := by
  cases r <;> rfl
/-- a comprehension by an invariant over what is made -/
theorem comp_inv {bd : Bnd} {t : Env → MS → R Bool} {f : Env → MS → R D} {ds : Env} {pa : List D → MS → Prop} (I : List D → List D → MS → Prop) (hs : ∀ x xs acc M, I (x :: xs) acc M → ∃ ds1, bd x ds = some ds1 ∧ Run (t ds1 M) fun b M1 => if b = true then Run (f ds1 M1) fun y M2 => I xs (acc ++ [y]) M2 else I xs acc M1)
    (he : ∀ acc M, I [] acc M → pa acc M) : ∀ (xs acc : List D) (M : MS), I xs acc M → Run (compL bd t f ds xs M) fun ys M1 => pa (acc ++ ys) M1
  | [], acc, M, h => by
    show pa (acc ++ []) M
    rw [List.append_nil]
    exact he acc M h
  | x :: xs, acc, M, h => by
    obtain ⟨ds1, e, q⟩ := hs x xs acc M h
    unfold compL
    rw [e]
    show Run ((noX (t ds1 M)).bind _) _
    rw [r_bind, noX_run]
    refine q.imp fun b M1 q1 => ?_
    cases b with
    | true =>
      rw [if_pos rfl] at q1 ⊢
      rw [r_bind, noX_run]
      refine q1.imp fun y M2 q2 => ?_
      rw [r_bind]
      refine (comp_inv I hs he xs (acc ++ [y]) M2 q2).imp fun ys M3 q3 => ?_
      rw [List.append_assoc] at q3
      exact q3
    | false => exact comp_inv I hs he xs acc M1 q1
/-- a comprehension that makes one thing of each, and changes nothing -/
theorem comp_map {bd : Bnd} {t : Env → MS → R Bool} {f : Env → MS → R D} {ds : Env} {pa : List D → MS → Prop} (F : D → D) (M : MS) : ∀ (xs : List D), (∀ x ∈ xs, ∃ ds1, bd x ds = some ds1 ∧ Run (t ds1 M) fun b M1 => b = true ∧ M1 = M ∧ Run (f ds1 M) fun y M2 => y = F x ∧ M2 = M) → pa (xs.map F) M → Run (compL bd t f ds xs M) pa
  | [], _, h => h
  | x :: xs, hx, h => by
    obtain ⟨ds1, e, q⟩ := hx x (List.mem_cons_self ..)
    unfold compL
    rw [e]
    show Run ((noX (t ds1 M)).bind _) _
    rw [r_bind, noX_run]
    refine q.imp fun b M1 q1 => ?_
    obtain ⟨rfl, rfl, q1⟩ := q1
    rw [if_pos rfl, r_bind, noX_run]
    refine q1.imp fun y M2 q2 => ?_
    obtain ⟨rfl, rfl⟩ := q2
    rw [r_bind]
    refine comp_map (pa := fun ys M3 => pa (F x :: ys) M3) F _ xs (fun z hz => hx z (List.mem_cons_of_mem _ hz)) h
end
/-! calls -/
theorem r_call {defs : List MP.Def} {n i : Nat} {d : MP.Def} {xs : List D} {M : MS} {p : D → MS → Prop} (h : defs[i]? = some d) (q : Run (d.f (callP defs n) (xs.map some ++ List.replicate (d.N.length - xs.length) none) M) fun fl M1 => match fl with
    | .nx _ => p .non M1
    | .rt r => p r M1
    | _ => False) : Run (callP defs (n + 1) i xs M) p := by
  unfold callP
  rw [h]
  show Run (runB d.N.length (d.f (callP defs n)) xs M) p
  unfold runB
  cases e : d.f (callP defs n) (xs.map some ++ List.replicate (d.N.length - xs.length) none) M with
  | ok fl M1 =>
    rw [e] at q
    cases fl with
    | nx _ => exact q
    | rt r => exact q
    | bk _ => exact q.elim
    | ct _ => exact q.elim
  | exc x M1 => rw [e] at q; exact q.elim
  | stuck => rw [e] at q; exact q.elim
end MP
set_option maxHeartbeats 4000000
/-! PPB: what operations do on data. -/
namespace MP
open PySem L2 Evl He
section
variable {M : MS} {p : D → MS → Prop} {pt : Bool → MS → Prop} {pa : List D → MS → Prop} {i j : Int} {x y : Str} {ds es : List D} {b : Bool} {n : Nat} {d : D}
theorem o_addI : Run (addS (.int i) (.int j) M) p = p (.int (i + j)) M := rfl
theorem o_addT : Run (addS (.str x) (.str y) M) p = (x.length + y.length ≤ big ∧ p (.str (x ++ y)) M) := r_if0
theorem o_addL : Run (addS (.lst ds) (.lst es) M) p = (ds.length + es.length ≤ big ∧ p (.lst (ds ++ es)) M) := r_if0
theorem o_subI : Run (subS (.int i) (.int j) M) p = p (.int (i - j)) M := rfl
theorem o_mulI : Run (mulS (.int i) (.int j) M) p = (CMul i j ∧ p (.int (i * j)) M) := r_if0
theorem o_mulL : Run (mulS (.lst ds) (.int j) M) p = ((0 ≤ j ∧ j ≤ 1000000 ∧ ds.length * j.toNat ≤ big) ∧ p (.lst (List.replicate j.toNat ds).flatten) M) := r_if0
theorem o_divI : Run (divS (.int i) (.int j) M) p = (CDiv i j ∧ p (.int (i / j)) M) := r_if0
theorem o_modI : Run (modS (.int i) (.int j) M) p = (0 < j ∧ p (.int (i % j)) M) := r_if0
theorem o_powI : Run (powS (.int i) (.int j) M) p = (CPow i j ∧ p (.int (i ^ j.toNat)) M) := r_if0
theorem o_lt : Run (ltS (.int i) (.int j) M) p = p (.bl (decide (i < j))) M := rfl
theorem o_le : Run (leS (.int i) (.int j) M) p = p (.bl (decide (i ≤ j))) M := rfl
theorem o_gt : Run (gtS (.int i) (.int j) M) p = p (.bl (decide (j < i))) M := rfl
theorem o_ge : Run (geS (.int i) (.int j) M) p = p (.bl (decide (j ≤ i))) M := rfl
theorem o_eqI : Run (eqG false (.int i) (.int j) M) p = p (.bl (decide (i = j))) M := rfl
theorem o_eqT : Run (eqG false (.str x) (.str y) M) p = p (.bl (decide (x = y))) M := rfl
theorem o_eqB {c : Bool} : Run (eqG false (.bl b) (.bl c) M) p = p (.bl (decide (b = c))) M := rfl
theorem o_neI : Run (eqG true (.int i) (.int j) M) p = p (.bl (!decide (i = j))) M := rfl
theorem o_neT : Run (eqG true (.str x) (.str y) M) p = p (.bl (!decide (x = y))) M := rfl
theorem o_neB {c : Bool} : Run (eqG true (.bl b) (.bl c) M) p = p (.bl (!decide (b = c))) M := rfl
theorem o_isN {neg : Bool} : Run (isNS neg .non M) p = p (.bl (!neg)) M := rfl
theorem o_isI {neg : Bool} : Run (isNS neg (.int i) M) p = p (.bl neg) M := rfl
theorem o_isB {neg : Bool} : Run (isNS neg (.bl b) M) p = p (.bl neg) M := rfl
theorem o_isT {neg : Bool} : Run (isNS neg (.str x) M) p = p (.bl neg) M := rfl
theorem o_isL {neg : Bool} : Run (isNS neg (.lst ds) M) p = p (.bl neg) M := rfl
theorem o_isU {neg : Bool} : Run (isNS neg (.tup ds) M) p = p (.bl neg) M := rfl
theorem o_ty (T : String) : Run (isiS T d M) p = (match tyN M d with
  | some t => p (.bl (isB T t)) M
  | none => False) := by
  unfold isiS
  cases tyN M d <;> rfl
theorem o_ty2 (T U : String) : Run (isi2 T U d M) p = (match tyN M d with
  | some t => p (.bl (isB T t || isB U t)) M
  | none => False) := by
  unfold isi2
  cases tyN M d <;> rfl
theorem y_non : tyN M .non = some "NoneType" := rfl
theorem y_bl : tyN M (.bl b) = some "bool" := rfl
theorem y_int : tyN M (.int i) = some "int" := rfl
theorem y_str : tyN M (.str x) = some "str" := rfl
theorem y_lst : tyN M (.lst ds) = some "list" := rfl
theorem y_tup : tyN M (.tup ds) = some "tuple" := rfl
def atK (ds : List D) (i : Int) (M : MS) (p : D → MS → Prop) : Prop := match atI ds i with
  | some d => p d M
  | none => False
theorem o_ixL : Run (ixS (.lst ds) (.int i) M) p = atK ds i M p := by
  show Run (match atI ds i with
    | some d => .ok d M
    | none => .stuck) p = _
  unfold atK
  cases atI ds i <;> rfl
theorem o_ixU : Run (ixS (.tup ds) (.int i) M) p = atK ds i M p := by
  show Run (match atI ds i with
    | some d => .ok d M
    | none => .stuck) p = _
  unfold atK
  cases atI ds i <;> rfl
theorem o_ixC (h : M[n]? = some (.lst ds)) : Run (ixS (.cell n) (.int i) M) p = atK ds i M p := by
  have e : seqOf M (.cell n) = some ds := by
    simp only [seqOf, lk, h]
  show Run (match seqOf M (.cell n) with
    | some ds => (match atI ds i with
      | some d => .ok d M
      | none => .stuck)
    | none => .stuck) p = _
  rw [e]
  dsimp only
  unfold atK
  cases atI ds i <;> rfl
theorem o_ixT : Run (ixS (.str x) (.int i) M) p = (x.length ≤ big ∧ match atI x.cps.toList i with
    | some k => p (.str ⟨#[k]⟩) M
    | none => False) := by
  show Run (if x.length ≤ big then (match atI x.cps.toList i with
      | some k => R.ok (.str ⟨#[k]⟩) M
      | none => .stuck) else .stuck) p = _
  rw [r_if0]
  cases h : atI x.cps.toList i with
  | none => rfl
  | some k => rfl
theorem o_len_T : Run (lenS [.str x] M) p = (x.length ≤ big ∧ p (.int x.length) M) := r_if0
theorem o_len_L : Run (lenS [.lst ds] M) p = p (.int ds.length) M := rfl
theorem o_len_U : Run (lenS [.tup ds] M) p = p (.int ds.length) M := rfl
theorem o_lis_L : Run (lisS false [.lst ds] M) p = p (.lst ds) M := rfl
theorem o_lis_U : Run (lisS false [.tup ds] M) p = p (.lst ds) M := rfl
theorem o_lis_LC : Run (lisS true [.lst ds] M) p = p (.cell M.length) (M ++ [.lst ds]) := rfl
theorem o_lis_UC : Run (lisS true [.tup ds] M) p = p (.cell M.length) (M ++ [.lst ds]) := rfl
theorem o_tu_L : Run (tuS [.lst ds] M) p = p (.tup ds) M := rfl
theorem o_tu_U : Run (tuS [.tup ds] M) p = p (.tup ds) M := rfl
theorem o_int_I : Run (intS [.int i] M) p = p (.int i) M := rfl
theorem o_int_B : Run (intS [.bl b] M) p = p (.int (if b then 1 else 0)) M := rfl
theorem o_tru_B : Run (truS (.bl b) M) pt = pt b M := rfl
theorem o_tru_I : Run (truS (.int i) M) pt = pt (i != 0) M := rfl
theorem o_tru_N : Run (truS .non M) pt = pt false M := rfl
theorem o_tru_L : Run (truS (.lst ds) M) pt = pt (!ds.isEmpty) M := rfl
theorem o_tru_U : Run (truS (.tup ds) M) pt = pt (!ds.isEmpty) M := rfl
theorem o_tru_T : Run (truS (.str x) M) pt = (x.length ≤ big ∧ pt ((x.length : Int) != 0) M) := r_if0
theorem o_wal_L : Run (walS (.lst ds) M) pa = pa ds M := rfl
theorem o_wal_U : Run (walS (.tup ds) M) pa = pa ds M := rfl
theorem o_wal_T : Run (walS (.str x) M) pa = pa (x.cps.toList.map fun k => .str ⟨#[k]⟩) M := rfl
theorem o_rng1 : Run (rng1 [.int j] M) pa = ((-4000000000000000000 ≤ j ∧ j ≤ 4000000000000000000) ∧ pa (rngD 0 j.toNat) M) := r_if0
theorem o_rng2 : Run (rng2 [.int i, .int j] M) pa = ((-4000000000000000000 ≤ i ∧ i ≤ 4000000000000000000 ∧ -4000000000000000000 ≤ j ∧ j ≤ 4000000000000000000) ∧ pa (rngD i (j - i).toNat) M) := r_if0
theorem o_zip_L : Run (zipS [.lst ds, .lst es] M) pa = pa (zipD ds es) M := rfl
theorem o_zip_U : Run (zipS [.tup ds, .tup es] M) pa = pa (zipD ds es) M := rfl
theorem o_finL : Run (finL ds M) p = p (.lst ds) M := rfl
theorem o_finC : Run (finC ds M) p = p (.cell M.length) (M ++ [.lst ds]) := rfl
theorem o_all : Run (allS [.lst ds] M) p = (match bools ds with
  | some bs => p (.bl (bs.all id)) M
  | none => False) := by
  show Run (match bools ds with
    | some bs => .ok (.bl (bs.all id)) M
    | none => .stuck) p = _
  cases bools ds <;> rfl
theorem o_any : Run (anyS [.lst ds] M) p = (match bools ds with
  | some bs => p (.bl (bs.any id)) M
  | none => False) := by
  show Run (match bools ds with
    | some bs => .ok (.bl (bs.any id)) M
    | none => .stuck) p = _
  cases bools ds <;> rfl
theorem o_slT {lo hi : Option Int} : Run (slS lo hi (.str x) M) p = (x.length ≤ big ∧ p (.str (cutS x lo hi)) M) := r_if0
theorem o_slL {lo hi : Option Int} : Run (slS lo hi (.lst ds) M) p = p (.lst (cutD ds lo hi)) M := rfl
theorem o_slR {ns : List Int} {lo hi : Option Int} : Run (slS lo hi (.scr ns) M) p = p (.lst (cutD (ns.map D.int) lo hi)) M := rfl
theorem o_putL {k : Int} {m : Nat} {pu : Unit → MS → Prop} (h : M[n]? = some (.lst ds)) (e : ixN ds.length k = some m) : Run (putL n k d M) pu = pu () (M.set n (.lst (ds.set m d))) := by
  unfold putL
  rw [h]
  dsimp only
  rw [e]
  rfl
theorem o_in_L (h1 : flatD d = true) (h2 : ds.all flatD = true) : Run (inG false d (.lst ds) M) p = p (.bl (inD d ds)) M := by
  have e : inG false d (.lst ds) M = sqS M false d (.lst ds) := by
    unfold inG
    split
    · rename_i h; cases h
    · rfl
  rw [e]
  show Run (if flatD d = true ∧ ds.all flatD = true then R.ok (.bl (inD d ds)) M else dinS M false d (.lst ds)) p = _
  rw [if_pos ⟨h1, h2⟩]
  rfl
theorem o_in_U (h1 : flatD d = true) (h2 : ds.all flatD = true) : Run (inG false d (.tup ds) M) p = p (.bl (inD d ds)) M := by
  have e : inG false d (.tup ds) M = sqS M false d (.tup ds) := by
    unfold inG
    split
    · rename_i h; cases h
    · rfl
  rw [e]
  show Run (if flatD d = true ∧ ds.all flatD = true then R.ok (.bl (inD d ds)) M else dinS M false d (.tup ds)) p = _
  rw [if_pos ⟨h1, h2⟩]
  rfl
theorem o_in_T {k : Nat} : Run (inG false (.str ⟨#[k]⟩) (.str y) M) p = p (.bl (decide (k ∈ y.cps.toList))) M := rfl
theorem o_joi {zs : List Str} (h : strL ds = some zs) : Run (joiS (.str x) (.lst ds) M) p = ((zs.map (·.length)).sum + zs.length * x.length ≤ 16777216 ∧ p (.str (Txt.join x zs)) M) := by
  show Run (match strL ds with
    | some ys => if (ys.map (·.length)).sum + ys.length * x.length ≤ 16777216 then R.ok (.str (Txt.join x ys)) M else .stuck
    | none => .stuck) p = _
  rw [h]
  exact r_if0
theorem atK_0 : atK (d :: ds) 0 M p = p d M := by
  have e : atI (d :: ds) 0 = some d := by unfold atI ixN; simp
  unfold atK
  rw [e]
theorem atK_1 {d0 d1 : D} : atK (d0 :: d1 :: ds) 1 M p = p d1 M := by
  have e : atI (d0 :: d1 :: ds) 1 = some d1 := by
    unfold atI ixN
    rw [if_pos (by decide), if_pos (by simp only [List.length_cons]; omega)]
    rfl
  unfold atK
  rw [e]
theorem atK_2 {d0 d1 d2 : D} : atK (d0 :: d1 :: d2 :: ds) 2 M p = p d2 M := by
  have e : atI (d0 :: d1 :: d2 :: ds) 2 = some d2 := by
    unfold atI ixN
    rw [if_pos (by decide), if_pos (by simp only [List.length_cons]; omega)]
    rfl
  unfold atK
  rw [e]
theorem atK_3 {d0 d1 d2 d3 : D} : atK (d0 :: d1 :: d2 :: d3 :: ds) 3 M p = p d3 M := by
  have e : atI (d0 :: d1 :: d2 :: d3 :: ds) 3 = some d3 := by
    unfold atI ixN
    rw [if_pos (by decide), if_pos (by simp only [List.length_cons]; omega)]
    rfl
  unfold atK
  rw [e]
theorem atK_4 {d0 d1 d2 d3 d4 : D} : atK (d0 :: d1 :: d2 :: d3 :: d4 :: ds) 4 M p = p d4 M := by
  have e : atI (d0 :: d1 :: d2 :: d3 :: d4 :: ds) 4 = some d4 := by
    unfold atI ixN
    rw [if_pos (by decide), if_pos (by simp only [List.length_cons]; omega)]
    rfl
  unfold atK
  rw [e]
theorem atK_5 {d0 d1 d2 d3 d4 d5 : D} : atK (d0 :: d1 :: d2 :: d3 :: d4 :: d5 :: ds) 5 M p = p d5 M := by
  have e : atI (d0 :: d1 :: d2 :: d3 :: d4 :: d5 :: ds) 5 = some d5 := by
    unfold atI ixN
    rw [if_pos (by decide), if_pos (by simp only [List.length_cons]; omega)]
    rfl
  unfold atK
  rw [e]
theorem atK_6 {d0 d1 d2 d3 d4 d5 d6 : D} : atK (d0 :: d1 :: d2 :: d3 :: d4 :: d5 :: d6 :: ds) 6 M p = p d6 M := by
  have e : atI (d0 :: d1 :: d2 :: d3 :: d4 :: d5 :: d6 :: ds) 6 = some d6 := by
    unfold atI ixN
    rw [if_pos (by decide), if_pos (by simp only [List.length_cons]; omega)]
    rfl
  unfold atK
  rw [e]
theorem atK_7 {d0 d1 d2 d3 d4 d5 d6 d7 : D} : atK (d0 :: d1 :: d2 :: d3 :: d4 :: d5 :: d6 :: d7 :: ds) 7 M p = p d7 M := by
  have e : atI (d0 :: d1 :: d2 :: d3 :: d4 :: d5 :: d6 :: d7 :: ds) 7 = some d7 := by
    unfold atI ixN
    rw [if_pos (by decide), if_pos (by simp only [List.length_cons]; omega)]
    rfl
  unfold atK
  rw [e]
theorem atK_8 {d0 d1 d2 d3 d4 d5 d6 d7 d8 : D} : atK (d0 :: d1 :: d2 :: d3 :: d4 :: d5 :: d6 :: d7 :: d8 :: ds) 8 M p = p d8 M := by
  have e : atI (d0 :: d1 :: d2 :: d3 :: d4 :: d5 :: d6 :: d7 :: d8 :: ds) 8 = some d8 := by
    unfold atI ixN
    rw [if_pos (by decide), if_pos (by simp only [List.length_cons]; omega)]
    rfl
  unfold atK
  rw [e]
theorem atK_9 {d0 d1 d2 d3 d4 d5 d6 d7 d8 d9 : D} : atK (d0 :: d1 :: d2 :: d3 :: d4 :: d5 :: d6 :: d7 :: d8 :: d9 :: ds) 9 M p = p d9 M := by
  have e : atI (d0 :: d1 :: d2 :: d3 :: d4 :: d5 :: d6 :: d7 :: d8 :: d9 :: ds) 9 = some d9 := by
    unfold atI ixN
    rw [if_pos (by decide), if_pos (by simp only [List.length_cons]; omega)]
    rfl
  unfold atK
  rw [e]
end
theorem isb_list_NoneType : isB "list" "NoneType" = false := by decide
theorem isb_list_bool : isB "list" "bool" = false := by decide
theorem isb_list_int : isB "list" "int" = false := by decide
theorem isb_list_str : isB "list" "str" = false := by decide
theorem isb_list_list : isB "list" "list" = true := by decide
theorem isb_list_tuple : isB "list" "tuple" = false := by decide
theorem isb_list_dict : isB "list" "dict" = false := by decide
theorem isb_tuple_NoneType : isB "tuple" "NoneType" = false := by decide
theorem isb_tuple_bool : isB "tuple" "bool" = false := by decide
theorem isb_tuple_int : isB "tuple" "int" = false := by decide
theorem isb_tuple_str : isB "tuple" "str" = false := by decide
theorem isb_tuple_list : isB "tuple" "list" = false := by decide
theorem isb_tuple_tuple : isB "tuple" "tuple" = true := by decide
theorem isb_tuple_dict : isB "tuple" "dict" = false := by decide
theorem isb_int_NoneType : isB "int" "NoneType" = false := by decide
theorem isb_int_bool : isB "int" "bool" = true := by decide
theorem isb_int_int : isB "int" "int" = true := by decide
theorem isb_int_str : isB "int" "str" = false := by decide
theorem isb_int_list : isB "int" "list" = false := by decide
theorem isb_int_tuple : isB "int" "tuple" = false := by decide
theorem isb_int_dict : isB "int" "dict" = false := by decide
theorem isb_str_NoneType : isB "str" "NoneType" = false := by decide
theorem isb_str_bool : isB "str" "bool" = false := by decide
theorem isb_str_int : isB "str" "int" = false := by decide
theorem isb_str_str : isB "str" "str" = true := by decide
theorem isb_str_list : isB "str" "list" = false := by decide
theorem isb_str_tuple : isB "str" "tuple" = false := by decide
theorem isb_str_dict : isB "str" "dict" = false := by decide
theorem isb_bool_NoneType : isB "bool" "NoneType" = false := by decide
theorem isb_bool_bool : isB "bool" "bool" = true := by decide
theorem isb_bool_int : isB "bool" "int" = false := by decide
theorem isb_bool_str : isB "bool" "str" = false := by decide
theorem isb_bool_list : isB "bool" "list" = false := by decide
theorem isb_bool_tuple : isB "bool" "tuple" = false := by decide
theorem isb_bool_dict : isB "bool" "dict" = false := by decide
theorem isb_dict_NoneType : isB "dict" "NoneType" = false := by decide
theorem isb_dict_bool : isB "dict" "bool" = false := by decide
theorem isb_dict_int : isB "dict" "int" = false := by decide
theorem isb_dict_str : isB "dict" "str" = false := by decide
theorem isb_dict_list : isB "dict" "list" = false := by decide
theorem isb_dict_tuple : isB "dict" "tuple" = false := by decide
theorem isb_dict_dict : isB "dict" "dict" = true := by decide
end MP
set_option maxHeartbeats 4000000
/-! PPC: the laws' own helpers. -/
namespace MP
open PySem L2 Evl He
local macro_rules | `(tactic| walk_at "mp") => `(tactic| try simp only [↓r_ok, ↓r_stuck, ↓r_exc, ↓r_v0, ↓r_vs, ↓r_con, ↓r_op2, ↓r_op1, ↓r_and, ↓r_or, ↓r_not, ↓k_and1, ↓k_or1, ↓k_not1, ↓r_if, ↓r_nil, ↓r_cons, ↓r_tup, ↓r_lst, ↓r_cel, ↓r_no, ↓r_some, ↓k_some, ↓r_sli, ↓r_calB, ↓r_cal, ↓r_mtl, ↓r_sm1, ↓k_sm1, ↓r_frz, ↓r_ch, ↓k_ch, ↓r_tst, ↓r_tcm, ↓k_bool, ↓r_andT, ↓r_orT, ↓r_notT, ↓r_yes, ↓r_its, ↓r_ran, ↓r_lc, ↓r_seq, ↓k_nx, ↓k_rt, ↓k_bk, ↓k_ct, ↓r_skip, ↓r_set, ↓r_ifS, ↓r_ret, ↓r_retN, ↓r_drop, ↓r_brk, ↓r_cnt, ↓r_par2, ↓r_par3, ↓k_par2, ↓k_par3, ↓r_asg, ↓r_nm, ↓r_sub, ↓k_sub, ↓r_tupM, ↓k_tup, ↓r_consM, ↓r_nilM, ↓r_for, ↓o_addI, ↓o_addT, ↓o_addL, ↓o_subI, ↓o_mulI, ↓o_mulL, ↓o_divI, ↓o_modI, ↓o_powI, ↓o_lt, ↓o_le, ↓o_gt, ↓o_ge, ↓o_eqI, ↓o_eqT, ↓o_eqB, ↓o_neI, ↓o_neT, ↓o_neB, ↓o_isN, ↓o_isI, ↓o_isB, ↓o_isT, ↓o_isL, ↓o_isU, ↓o_ty, ↓o_ty2, ↓o_ixL, ↓o_ixU, ↓o_ixT, ↓o_len_T, ↓o_len_L, ↓o_len_U, ↓o_lis_L, ↓o_lis_U, ↓o_lis_LC, ↓o_lis_UC, ↓o_tu_L, ↓o_tu_U, ↓o_int_I, ↓o_int_B, ↓o_tru_B, ↓o_tru_I, ↓o_tru_N, ↓o_tru_L, ↓o_tru_U, ↓o_tru_T, ↓o_wal_L, ↓o_wal_U, ↓o_wal_T, ↓o_rng1, ↓o_rng2, ↓o_zip_L, ↓o_zip_U, ↓o_finL, ↓o_finC, ↓o_all, ↓o_any, ↓o_slT, ↓o_slL, ↓o_slR, ↓o_in_T, y_non, y_bl, y_int, y_str, y_lst, y_tup, ↓atK_0, List.set_cons_zero, List.set_cons_succ, List.length_cons, List.length_nil, isb_list_NoneType, isb_list_bool, isb_list_int, isb_list_str, isb_list_list, isb_list_tuple, isb_list_dict, isb_tuple_NoneType, isb_tuple_bool, isb_tuple_int, isb_tuple_str, isb_tuple_list, isb_tuple_tuple, isb_tuple_dict, isb_int_NoneType, isb_int_bool, isb_int_int, isb_int_str, isb_int_list, isb_int_tuple, isb_int_dict, isb_str_NoneType, isb_str_bool, isb_str_int, isb_str_str, isb_str_list, isb_str_tuple, isb_str_dict, isb_bool_NoneType, isb_bool_bool, isb_bool_int, isb_bool_str, isb_bool_list, isb_bool_tuple, isb_bool_dict, isb_dict_NoneType, isb_dict_bool, isb_dict_int, isb_dict_str, isb_dict_list, isb_dict_tuple, isb_dict_dict, ↓reduceIte, Bool.false_eq_true, Bool.not_true, Bool.not_false, Bool.true_or, Bool.or_true, Bool.false_or, Bool.or_false, Bool.true_and, Bool.and_true, Bool.false_and, Bool.and_false, decide_true, decide_false, eq_self, reduceCtorEq, true_and, and_true, ↓atK_1, ↓atK_2, ↓atK_3, ↓atK_4, ↓atK_5, ↓atK_6, ↓atK_7, ↓atK_8, ↓atK_9, wipeD, r_v0, r_vs])
def N_pull : List Str := ["_law_bag", "_law_sides", "_law_cell", "_law_digit", "_law_seed"]
def L_pull : Ss := (seqS (asgM (op2 addS (op2 ixS (varS 0) (conS (.int 4))) (conS (.int 1))) (subM (varS 0) (conS (.int 4))))
 (seqS (ifS (andT (tcmS (op2 eqS (op2 ixS (varS 0) (conS (.int 2))) (conS (.int 0)))) (tcmS (op2 ltS (op2 ixS (varS 0) (conS (.int 1))) (calB lenS (consA (op2 ixS (varS 0) (conS (.int 0))) nilA))))) (seqS (asgM (tupS (consA (op2 ixS (op2 ixS (varS 0) (conS (.int 0))) (op2 ixS (varS 0) (conS (.int 1)))) (consA (op2 addS (op2 ixS (varS 0) (conS (.int 1))) (conS (.int 1))) nilA))) (tupM 2 (consM (nameM 2) (consM (subM (varS 0) (conS (.int 1))) nilM))))
 (seqS (ifS (tcmS (op2 geS (varS 2) (op2 powS (conS (.int 10)) (conS (.int 18))))) (asgM (varS 2) (subM (varS 0) (conS (.int 2)))) skipS)
 (asgM (op2 modS (calB intS (consA (op2 addS (op2 addS (op2 mulS (op2 ixS (varS 0) (conS (.int 3))) (conS (.int 38603))) (op2 mulS (op2 modS (calB intS (consA (varS 2) nilA)) (conS (.int 2147483399))) (conS (.int 40531)))) (conS (.int 83))) nilA)) (conS (.int 2147483563))) (subM (varS 0) (conS (.int 3)))))) skipS)
 (seqS (ifS (tcmS (op2 gtS (op2 ixS (varS 0) (conS (.int 2))) (conS (.int 0)))) (seqS (asgM (tupS (consA (op2 modS (calB intS (consA (op2 ixS (varS 0) (conS (.int 2))) nilA)) (varS 1)) (consA (op2 divS (op2 ixS (varS 0) (conS (.int 2))) (varS 1)) nilA))) (tupM 2 (consM (nameM 3) (consM (subM (varS 0) (conS (.int 2))) nilM))))
 (retS (varS 3))) skipS)
 (seqS (setS 4 (op2 ixS (varS 0) (conS (.int 3))))
 (seqS (asgM (op2 modS (calB intS (consA (op2 addS (op2 addS (op2 addS (op2 powS (varS 4) (conS (.int 3))) (op2 mulS (varS 4) (conS (.int 37747)))) (op2 mulS (op2 ixS (varS 0) (conS (.int 4))) (conS (.int 1301077)))) (conS (.int 60013))) nilA)) (conS (.int 2147483563))) (subM (varS 0) (conS (.int 3))))
 (retS (op2 modS (calB intS (consA (op2 addS (op2 divS (op2 ixS (varS 0) (conS (.int 3))) (conS (.int 83))) (op2 mulS (op2 modS (calB intS (consA (op2 ixS (varS 0) (conS (.int 3))) nilA)) (conS (.int 7919))) (conS (.int 67)))) nilA)) (varS 1))))))))
/-- the bag in the cell n: the cells, the place, the tank, the seed, the count -/
def bagD (cs : List Int) (a t s k : Int) : List D := [.lst (cs.map D.int), .int a, .int t, .int s, .int k]
structure Bag (M : MS) (n : Nat) : Prop where
  ex : ∃ cs a t s k, M[n]? = some (.lst (bagD cs a t s k)) ∧ 0 ≤ a ∧ 0 ≤ t ∧ 0 ≤ s ∧ s < 2147483563
theorem at0 {a b c d e : D} {M : MS} {p : D → MS → Prop} : atK [a, b, c, d, e] 0 M p = p a M := rfl
theorem at1 {a b c d e : D} {M : MS} {p : D → MS → Prop} : atK [a, b, c, d, e] 1 M p = p b M := rfl
theorem at2 {a b c d e : D} {M : MS} {p : D → MS → Prop} : atK [a, b, c, d, e] 2 M p = p c M := rfl
theorem at3 {a b c d e : D} {M : MS} {p : D → MS → Prop} : atK [a, b, c, d, e] 3 M p = p d M := rfl
theorem at4 {a b c d e : D} {M : MS} {p : D → MS → Prop} : atK [a, b, c, d, e] 4 M p = p e M := rfl
/-- the bag alone is changed -/
def Only (M M' : MS) (n : Nat) : Prop := M'.length = M.length ∧ ∀ m, m ≠ n → M'[m]? = M[m]?
theorem set_at {M : MS} {n : Nat} {c c' : C} (h : M[n]? = some c) : (M.set n c')[n]? = some c' := by
  have hl : n < M.length := (List.getElem?_eq_some_iff.mp h).1
  rw [List.getElem?_set_self hl]
theorem only_set {M : MS} {n : Nat} {c : C} : Only M (M.set n c) n := ⟨List.length_set .., fun m h => List.getElem?_set_ne (Ne.symm h)⟩
theorem Only.trans {M M1 M2 : MS} {n : Nat} (h : Only M M1 n) (k : Only M1 M2 n) : Only M M2 n := ⟨k.1.trans h.1, fun m q => (k.2 m q).trans (h.2 m q)⟩
theorem Only.refl {M : MS} {n : Nat} : Only M M n := ⟨rfl, fun _ _ => rfl⟩
def L_pull3 : Ss := (seqS (ifS (tcmS (op2 gtS (op2 ixS (varS 0) (conS (.int 2))) (conS (.int 0)))) (seqS (asgM (tupS (consA (op2 modS (calB intS (consA (op2 ixS (varS 0) (conS (.int 2))) nilA)) (varS 1)) (consA (op2 divS (op2 ixS (varS 0) (conS (.int 2))) (varS 1)) nilA))) (tupM 2 (consM (nameM 3) (consM (subM (varS 0) (conS (.int 2))) nilM))))
 (retS (varS 3))) skipS)
 (seqS (setS 4 (op2 ixS (varS 0) (conS (.int 3))))
 (seqS (asgM (op2 modS (calB intS (consA (op2 addS (op2 addS (op2 addS (op2 powS (varS 4) (conS (.int 3))) (op2 mulS (varS 4) (conS (.int 37747)))) (op2 mulS (op2 ixS (varS 0) (conS (.int 4))) (conS (.int 1301077)))) (conS (.int 60013))) nilA)) (conS (.int 2147483563))) (subM (varS 0) (conS (.int 3))))
 (retS (op2 modS (calB intS (consA (op2 addS (op2 divS (op2 ixS (varS 0) (conS (.int 3))) (conS (.int 83))) (op2 mulS (op2 modS (calB intS (consA (op2 ixS (varS 0) (conS (.int 3))) nilA)) (conS (.int 7919))) (conS (.int 67)))) nilA)) (varS 1))))))
theorem putL_run {M : MS} {n m : Nat} {k : Int} {d : D} {ds : List D} {pu : Unit → MS → Prop} (h : M[n]? = some (.lst ds)) (e : ixN ds.length k = some m) (q : ∀ M', M'[n]? = some (.lst (ds.set m d)) → Only M M' n → pu () M') : Run (putL n k d M) pu := by
  rw [o_putL h e]
  exact q _ (set_at h) only_set
theorem pull3 {cf : CF} {M M0 : MS} {n : Nat} {m : Int} {o : Option D} {cs : List Int} {a t s k : Int} (hm : 0 < m) (hm2 : m < 1073741824) (hM : M[n]? = some (.lst [.lst (cs.map D.int), .int a, .int t, .int s, .int k])) (ha : 0 ≤ a) (ht : 0 ≤ t) (hs : 0 ≤ s) (hs2 : s < 2147483563) (hO : Only M0 M n) :
    Run (L_pull3 cf [some (.cell n), some (.int m), o, none, none] M) fun fl M' => ∃ r, fl = .rt (.int r) ∧ 0 ≤ r ∧ r < m ∧ Bag M' n ∧ Only M0 M' n := by
  unfold L_pull3
  refine run_seq fun P hP hR => ?_
  try simp only [↓r_ok, ↓r_stuck, ↓r_exc, ↓r_v0, ↓r_vs, ↓r_con, ↓r_op2, ↓r_op1, ↓r_and, ↓r_or, ↓r_not, ↓k_and1, ↓k_or1, ↓k_not1, ↓r_if, ↓r_nil, ↓r_cons, ↓r_tup, ↓r_lst, ↓r_cel, ↓r_no, ↓r_some, ↓k_some, ↓r_sli, ↓r_calB, ↓r_cal, ↓r_mtl, ↓r_sm1, ↓k_sm1, ↓r_frz, ↓r_ch, ↓k_ch, ↓r_tst, ↓r_tcm, ↓k_bool, ↓r_andT, ↓r_orT, ↓r_notT, ↓r_yes, ↓r_its, ↓r_ran, ↓r_lc, ↓r_seq, ↓k_nx, ↓k_rt, ↓k_bk, ↓k_ct, ↓r_skip, ↓r_set, ↓r_ifS, ↓r_ret, ↓r_retN, ↓r_drop, ↓r_brk, ↓r_cnt, ↓r_par2, ↓r_par3, ↓k_par2, ↓k_par3, ↓r_asg, ↓r_nm, ↓r_sub, ↓k_sub, ↓r_tupM, ↓k_tup, ↓r_consM, ↓r_nilM, ↓r_for, ↓o_addI, ↓o_addT, ↓o_addL, ↓o_subI, ↓o_mulI, ↓o_mulL, ↓o_divI, ↓o_modI, ↓o_powI, ↓o_lt, ↓o_le, ↓o_gt, ↓o_ge, ↓o_eqI, ↓o_eqT, ↓o_eqB, ↓o_neI, ↓o_neT, ↓o_neB, ↓o_isN, ↓o_isI, ↓o_isB, ↓o_isT, ↓o_isL, ↓o_isU, ↓o_ty, ↓o_ty2, ↓o_ixL, ↓o_ixU, ↓o_ixT, ↓o_len_T, ↓o_len_L, ↓o_len_U, ↓o_lis_L, ↓o_lis_U, ↓o_lis_LC, ↓o_lis_UC, ↓o_tu_L, ↓o_tu_U, ↓o_int_I, ↓o_int_B, ↓o_tru_B, ↓o_tru_I, ↓o_tru_N, ↓o_tru_L, ↓o_tru_U, ↓o_tru_T, ↓o_wal_L, ↓o_wal_U, ↓o_wal_T, ↓o_rng1, ↓o_rng2, ↓o_zip_L, ↓o_zip_U, ↓o_finL, ↓o_finC, ↓o_all, ↓o_any, ↓o_slT, ↓o_slL, ↓o_slR, ↓o_in_T, y_non, y_bl, y_int, y_str, y_lst, y_tup, ↓atK_0, List.set_cons_zero, List.set_cons_succ, List.length_cons, List.length_nil, isb_list_NoneType, isb_list_bool, isb_list_int, isb_list_str, isb_list_list, isb_list_tuple, isb_list_dict, isb_tuple_NoneType, isb_tuple_bool, isb_tuple_int, isb_tuple_str, isb_tuple_list, isb_tuple_tuple, isb_tuple_dict, isb_int_NoneType, isb_int_bool, isb_int_int, isb_int_str, isb_int_list, isb_int_tuple, isb_int_dict, isb_str_NoneType, isb_str_bool, isb_str_int, isb_str_str, isb_str_list, isb_str_tuple, isb_str_dict, isb_bool_NoneType, isb_bool_bool, isb_bool_int, isb_bool_str, isb_bool_list, isb_bool_tuple, isb_bool_dict, isb_dict_NoneType, isb_dict_bool, isb_dict_int, isb_dict_str, isb_dict_list, isb_dict_tuple, isb_dict_dict, ↓reduceIte, Bool.false_eq_true, Bool.not_true, Bool.not_false, Bool.true_or, Bool.or_true, Bool.false_or, Bool.or_false, Bool.true_and, Bool.and_true, Bool.false_and, Bool.and_false, decide_true, decide_false, eq_self, reduceCtorEq, true_and, and_true, ↓atK_1, ↓atK_2, ↓atK_3, ↓atK_4, ↓atK_5, ↓atK_6, ↓atK_7, ↓atK_8, ↓atK_9, wipeD, r_v0, r_vs, ↓o_ixC hM, ↓at0, ↓at1, ↓at2, ↓at3, ↓at4]
  by_cases h0 : 0 < t
  · rw [if_pos (decide_eq_true h0)]
    try simp only [↓r_ok, ↓r_stuck, ↓r_exc, ↓r_v0, ↓r_vs, ↓r_con, ↓r_op2, ↓r_op1, ↓r_and, ↓r_or, ↓r_not, ↓k_and1, ↓k_or1, ↓k_not1, ↓r_if, ↓r_nil, ↓r_cons, ↓r_tup, ↓r_lst, ↓r_cel, ↓r_no, ↓r_some, ↓k_some, ↓r_sli, ↓r_calB, ↓r_cal, ↓r_mtl, ↓r_sm1, ↓k_sm1, ↓r_frz, ↓r_ch, ↓k_ch, ↓r_tst, ↓r_tcm, ↓k_bool, ↓r_andT, ↓r_orT, ↓r_notT, ↓r_yes, ↓r_its, ↓r_ran, ↓r_lc, ↓r_seq, ↓k_nx, ↓k_rt, ↓k_bk, ↓k_ct, ↓r_skip, ↓r_set, ↓r_ifS, ↓r_ret, ↓r_retN, ↓r_drop, ↓r_brk, ↓r_cnt, ↓r_par2, ↓r_par3, ↓k_par2, ↓k_par3, ↓r_asg, ↓r_nm, ↓r_sub, ↓k_sub, ↓r_tupM, ↓k_tup, ↓r_consM, ↓r_nilM, ↓r_for, ↓o_addI, ↓o_addT, ↓o_addL, ↓o_subI, ↓o_mulI, ↓o_mulL, ↓o_divI, ↓o_modI, ↓o_powI, ↓o_lt, ↓o_le, ↓o_gt, ↓o_ge, ↓o_eqI, ↓o_eqT, ↓o_eqB, ↓o_neI, ↓o_neT, ↓o_neB, ↓o_isN, ↓o_isI, ↓o_isB, ↓o_isT, ↓o_isL, ↓o_isU, ↓o_ty, ↓o_ty2, ↓o_ixL, ↓o_ixU, ↓o_ixT, ↓o_len_T, ↓o_len_L, ↓o_len_U, ↓o_lis_L, ↓o_lis_U, ↓o_lis_LC, ↓o_lis_UC, ↓o_tu_L, ↓o_tu_U, ↓o_int_I, ↓o_int_B, ↓o_tru_B, ↓o_tru_I, ↓o_tru_N, ↓o_tru_L, ↓o_tru_U, ↓o_tru_T, ↓o_wal_L, ↓o_wal_U, ↓o_wal_T, ↓o_rng1, ↓o_rng2, ↓o_zip_L, ↓o_zip_U, ↓o_finL, ↓o_finC, ↓o_all, ↓o_any, ↓o_slT, ↓o_slL, ↓o_slR, ↓o_in_T, y_non, y_bl, y_int, y_str, y_lst, y_tup, ↓atK_0, List.set_cons_zero, List.set_cons_succ, List.length_cons, List.length_nil, isb_list_NoneType, isb_list_bool, isb_list_int, isb_list_str, isb_list_list, isb_list_tuple, isb_list_dict, isb_tuple_NoneType, isb_tuple_bool, isb_tuple_int, isb_tuple_str, isb_tuple_list, isb_tuple_tuple, isb_tuple_dict, isb_int_NoneType, isb_int_bool, isb_int_int, isb_int_str, isb_int_list, isb_int_tuple, isb_int_dict, isb_str_NoneType, isb_str_bool, isb_str_int, isb_str_str, isb_str_list, isb_str_tuple, isb_str_dict, isb_bool_NoneType, isb_bool_bool, isb_bool_int, isb_bool_str, isb_bool_list, isb_bool_tuple, isb_bool_dict, isb_dict_NoneType, isb_dict_bool, isb_dict_int, isb_dict_str, isb_dict_list, isb_dict_tuple, isb_dict_dict, ↓reduceIte, Bool.false_eq_true, Bool.not_true, Bool.not_false, Bool.true_or, Bool.or_true, Bool.false_or, Bool.or_false, Bool.true_and, Bool.and_true, Bool.false_and, Bool.and_false, decide_true, decide_false, eq_self, reduceCtorEq, true_and, and_true, ↓atK_1, ↓atK_2, ↓atK_3, ↓atK_4, ↓atK_5, ↓atK_6, ↓atK_7, ↓atK_8, ↓atK_9, wipeD, r_v0, r_vs, ↓o_ixC hM, ↓at0, ↓at1, ↓at2, ↓at3, ↓at4]
    refine ⟨hm, ⟨hm, hm2⟩, by decide, putL_run hM rfl fun M1 hM1 hO1 => ?_⟩
    exact hR _ _ ⟨_, rfl, Int.emod_nonneg _ (by omega), Int.emod_lt_of_pos _ hm, ⟨⟨_, _, _, _, _, hM1, ha, Int.ediv_nonneg ht (by omega), hs, hs2⟩⟩, hO.trans hO1⟩
  · rw [if_neg (by simpa using h0)]
    walk_at "mp"
    refine hP _ _ ?_
    refine run_seq fun P hP hR => ?_
    try simp only [↓r_ok, ↓r_stuck, ↓r_exc, ↓r_v0, ↓r_vs, ↓r_con, ↓r_op2, ↓r_op1, ↓r_and, ↓r_or, ↓r_not, ↓k_and1, ↓k_or1, ↓k_not1, ↓r_if, ↓r_nil, ↓r_cons, ↓r_tup, ↓r_lst, ↓r_cel, ↓r_no, ↓r_some, ↓k_some, ↓r_sli, ↓r_calB, ↓r_cal, ↓r_mtl, ↓r_sm1, ↓k_sm1, ↓r_frz, ↓r_ch, ↓k_ch, ↓r_tst, ↓r_tcm, ↓k_bool, ↓r_andT, ↓r_orT, ↓r_notT, ↓r_yes, ↓r_its, ↓r_ran, ↓r_lc, ↓r_seq, ↓k_nx, ↓k_rt, ↓k_bk, ↓k_ct, ↓r_skip, ↓r_set, ↓r_ifS, ↓r_ret, ↓r_retN, ↓r_drop, ↓r_brk, ↓r_cnt, ↓r_par2, ↓r_par3, ↓k_par2, ↓k_par3, ↓r_asg, ↓r_nm, ↓r_sub, ↓k_sub, ↓r_tupM, ↓k_tup, ↓r_consM, ↓r_nilM, ↓r_for, ↓o_addI, ↓o_addT, ↓o_addL, ↓o_subI, ↓o_mulI, ↓o_mulL, ↓o_divI, ↓o_modI, ↓o_powI, ↓o_lt, ↓o_le, ↓o_gt, ↓o_ge, ↓o_eqI, ↓o_eqT, ↓o_eqB, ↓o_neI, ↓o_neT, ↓o_neB, ↓o_isN, ↓o_isI, ↓o_isB, ↓o_isT, ↓o_isL, ↓o_isU, ↓o_ty, ↓o_ty2, ↓o_ixL, ↓o_ixU, ↓o_ixT, ↓o_len_T, ↓o_len_L, ↓o_len_U, ↓o_lis_L, ↓o_lis_U, ↓o_lis_LC, ↓o_lis_UC, ↓o_tu_L, ↓o_tu_U, ↓o_int_I, ↓o_int_B, ↓o_tru_B, ↓o_tru_I, ↓o_tru_N, ↓o_tru_L, ↓o_tru_U, ↓o_tru_T, ↓o_wal_L, ↓o_wal_U, ↓o_wal_T, ↓o_rng1, ↓o_rng2, ↓o_zip_L, ↓o_zip_U, ↓o_finL, ↓o_finC, ↓o_all, ↓o_any, ↓o_slT, ↓o_slL, ↓o_slR, ↓o_in_T, y_non, y_bl, y_int, y_str, y_lst, y_tup, ↓atK_0, List.set_cons_zero, List.set_cons_succ, List.length_cons, List.length_nil, isb_list_NoneType, isb_list_bool, isb_list_int, isb_list_str, isb_list_list, isb_list_tuple, isb_list_dict, isb_tuple_NoneType, isb_tuple_bool, isb_tuple_int, isb_tuple_str, isb_tuple_list, isb_tuple_tuple, isb_tuple_dict, isb_int_NoneType, isb_int_bool, isb_int_int, isb_int_str, isb_int_list, isb_int_tuple, isb_int_dict, isb_str_NoneType, isb_str_bool, isb_str_int, isb_str_str, isb_str_list, isb_str_tuple, isb_str_dict, isb_bool_NoneType, isb_bool_bool, isb_bool_int, isb_bool_str, isb_bool_list, isb_bool_tuple, isb_bool_dict, isb_dict_NoneType, isb_dict_bool, isb_dict_int, isb_dict_str, isb_dict_list, isb_dict_tuple, isb_dict_dict, ↓reduceIte, Bool.false_eq_true, Bool.not_true, Bool.not_false, Bool.true_or, Bool.or_true, Bool.false_or, Bool.or_false, Bool.true_and, Bool.and_true, Bool.false_and, Bool.and_false, decide_true, decide_false, eq_self, reduceCtorEq, true_and, and_true, ↓atK_1, ↓atK_2, ↓atK_3, ↓atK_4, ↓atK_5, ↓atK_6, ↓atK_7, ↓atK_8, ↓atK_9, wipeD, r_v0, r_vs, ↓o_ixC hM, ↓at0, ↓at1, ↓at2, ↓at3, ↓at4]
    refine hP _ _ ?_
    refine run_seq fun P hP hR => ?_
    try simp only [↓r_ok, ↓r_stuck, ↓r_exc, ↓r_v0, ↓r_vs, ↓r_con, ↓r_op2, ↓r_op1, ↓r_and, ↓r_or, ↓r_not, ↓k_and1, ↓k_or1, ↓k_not1, ↓r_if, ↓r_nil, ↓r_cons, ↓r_tup, ↓r_lst, ↓r_cel, ↓r_no, ↓r_some, ↓k_some, ↓r_sli, ↓r_calB, ↓r_cal, ↓r_mtl, ↓r_sm1, ↓k_sm1, ↓r_frz, ↓r_ch, ↓k_ch, ↓r_tst, ↓r_tcm, ↓k_bool, ↓r_andT, ↓r_orT, ↓r_notT, ↓r_yes, ↓r_its, ↓r_ran, ↓r_lc, ↓r_seq, ↓k_nx, ↓k_rt, ↓k_bk, ↓k_ct, ↓r_skip, ↓r_set, ↓r_ifS, ↓r_ret, ↓r_retN, ↓r_drop, ↓r_brk, ↓r_cnt, ↓r_par2, ↓r_par3, ↓k_par2, ↓k_par3, ↓r_asg, ↓r_nm, ↓r_sub, ↓k_sub, ↓r_tupM, ↓k_tup, ↓r_consM, ↓r_nilM, ↓r_for, ↓o_addI, ↓o_addT, ↓o_addL, ↓o_subI, ↓o_mulI, ↓o_mulL, ↓o_divI, ↓o_modI, ↓o_powI, ↓o_lt, ↓o_le, ↓o_gt, ↓o_ge, ↓o_eqI, ↓o_eqT, ↓o_eqB, ↓o_neI, ↓o_neT, ↓o_neB, ↓o_isN, ↓o_isI, ↓o_isB, ↓o_isT, ↓o_isL, ↓o_isU, ↓o_ty, ↓o_ty2, ↓o_ixL, ↓o_ixU, ↓o_ixT, ↓o_len_T, ↓o_len_L, ↓o_len_U, ↓o_lis_L, ↓o_lis_U, ↓o_lis_LC, ↓o_lis_UC, ↓o_tu_L, ↓o_tu_U, ↓o_int_I, ↓o_int_B, ↓o_tru_B, ↓o_tru_I, ↓o_tru_N, ↓o_tru_L, ↓o_tru_U, ↓o_tru_T, ↓o_wal_L, ↓o_wal_U, ↓o_wal_T, ↓o_rng1, ↓o_rng2, ↓o_zip_L, ↓o_zip_U, ↓o_finL, ↓o_finC, ↓o_all, ↓o_any, ↓o_slT, ↓o_slL, ↓o_slR, ↓o_in_T, y_non, y_bl, y_int, y_str, y_lst, y_tup, ↓atK_0, List.set_cons_zero, List.set_cons_succ, List.length_cons, List.length_nil, isb_list_NoneType, isb_list_bool, isb_list_int, isb_list_str, isb_list_list, isb_list_tuple, isb_list_dict, isb_tuple_NoneType, isb_tuple_bool, isb_tuple_int, isb_tuple_str, isb_tuple_list, isb_tuple_tuple, isb_tuple_dict, isb_int_NoneType, isb_int_bool, isb_int_int, isb_int_str, isb_int_list, isb_int_tuple, isb_int_dict, isb_str_NoneType, isb_str_bool, isb_str_int, isb_str_str, isb_str_list, isb_str_tuple, isb_str_dict, isb_bool_NoneType, isb_bool_bool, isb_bool_int, isb_bool_str, isb_bool_list, isb_bool_tuple, isb_bool_dict, isb_dict_NoneType, isb_dict_bool, isb_dict_int, isb_dict_str, isb_dict_list, isb_dict_tuple, isb_dict_dict, ↓reduceIte, Bool.false_eq_true, Bool.not_true, Bool.not_false, Bool.true_or, Bool.or_true, Bool.false_or, Bool.or_false, Bool.true_and, Bool.and_true, Bool.false_and, Bool.and_false, decide_true, decide_false, eq_self, reduceCtorEq, true_and, and_true, ↓atK_1, ↓atK_2, ↓atK_3, ↓atK_4, ↓atK_5, ↓atK_6, ↓atK_7, ↓atK_8, ↓atK_9, wipeD, r_v0, r_vs, ↓o_ixC hM, ↓at0, ↓at1, ↓at2, ↓at3, ↓at4]
    refine ⟨⟨by decide, by decide, by omega⟩, .inr ⟨by decide, by decide⟩, .inr ⟨by decide, by decide⟩, by decide, putL_run hM rfl fun M1 hM1 hO1 => hP _ _ ?_⟩
    have hM1 : M1[n]? = some (.lst [.lst (cs.map D.int), .int a, .int t, .int ((s ^ (3 : Int).toNat + s * 37747 + k * 1301077 + 60013) % 2147483563), .int k]) := hM1
    try simp only [↓r_ok, ↓r_stuck, ↓r_exc, ↓r_v0, ↓r_vs, ↓r_con, ↓r_op2, ↓r_op1, ↓r_and, ↓r_or, ↓r_not, ↓k_and1, ↓k_or1, ↓k_not1, ↓r_if, ↓r_nil, ↓r_cons, ↓r_tup, ↓r_lst, ↓r_cel, ↓r_no, ↓r_some, ↓k_some, ↓r_sli, ↓r_calB, ↓r_cal, ↓r_mtl, ↓r_sm1, ↓k_sm1, ↓r_frz, ↓r_ch, ↓k_ch, ↓r_tst, ↓r_tcm, ↓k_bool, ↓r_andT, ↓r_orT, ↓r_notT, ↓r_yes, ↓r_its, ↓r_ran, ↓r_lc, ↓r_seq, ↓k_nx, ↓k_rt, ↓k_bk, ↓k_ct, ↓r_skip, ↓r_set, ↓r_ifS, ↓r_ret, ↓r_retN, ↓r_drop, ↓r_brk, ↓r_cnt, ↓r_par2, ↓r_par3, ↓k_par2, ↓k_par3, ↓r_asg, ↓r_nm, ↓r_sub, ↓k_sub, ↓r_tupM, ↓k_tup, ↓r_consM, ↓r_nilM, ↓r_for, ↓o_addI, ↓o_addT, ↓o_addL, ↓o_subI, ↓o_mulI, ↓o_mulL, ↓o_divI, ↓o_modI, ↓o_powI, ↓o_lt, ↓o_le, ↓o_gt, ↓o_ge, ↓o_eqI, ↓o_eqT, ↓o_eqB, ↓o_neI, ↓o_neT, ↓o_neB, ↓o_isN, ↓o_isI, ↓o_isB, ↓o_isT, ↓o_isL, ↓o_isU, ↓o_ty, ↓o_ty2, ↓o_ixL, ↓o_ixU, ↓o_ixT, ↓o_len_T, ↓o_len_L, ↓o_len_U, ↓o_lis_L, ↓o_lis_U, ↓o_lis_LC, ↓o_lis_UC, ↓o_tu_L, ↓o_tu_U, ↓o_int_I, ↓o_int_B, ↓o_tru_B, ↓o_tru_I, ↓o_tru_N, ↓o_tru_L, ↓o_tru_U, ↓o_tru_T, ↓o_wal_L, ↓o_wal_U, ↓o_wal_T, ↓o_rng1, ↓o_rng2, ↓o_zip_L, ↓o_zip_U, ↓o_finL, ↓o_finC, ↓o_all, ↓o_any, ↓o_slT, ↓o_slL, ↓o_slR, ↓o_in_T, y_non, y_bl, y_int, y_str, y_lst, y_tup, ↓atK_0, List.set_cons_zero, List.set_cons_succ, List.length_cons, List.length_nil, isb_list_NoneType, isb_list_bool, isb_list_int, isb_list_str, isb_list_list, isb_list_tuple, isb_list_dict, isb_tuple_NoneType, isb_tuple_bool, isb_tuple_int, isb_tuple_str, isb_tuple_list, isb_tuple_tuple, isb_tuple_dict, isb_int_NoneType, isb_int_bool, isb_int_int, isb_int_str, isb_int_list, isb_int_tuple, isb_int_dict, isb_str_NoneType, isb_str_bool, isb_str_int, isb_str_str, isb_str_list, isb_str_tuple, isb_str_dict, isb_bool_NoneType, isb_bool_bool, isb_bool_int, isb_bool_str, isb_bool_list, isb_bool_tuple, isb_bool_dict, isb_dict_NoneType, isb_dict_bool, isb_dict_int, isb_dict_str, isb_dict_list, isb_dict_tuple, isb_dict_dict, ↓reduceIte, Bool.false_eq_true, Bool.not_true, Bool.not_false, Bool.true_or, Bool.or_true, Bool.false_or, Bool.or_false, Bool.true_and, Bool.and_true, Bool.false_and, Bool.and_false, decide_true, decide_false, eq_self, reduceCtorEq, true_and, and_true, ↓atK_1, ↓atK_2, ↓atK_3, ↓atK_4, ↓atK_5, ↓atK_6, ↓atK_7, ↓atK_8, ↓atK_9, wipeD, r_v0, r_vs, ↓o_ixC hM1, ↓at0, ↓at1, ↓at2, ↓at3, ↓at4]
    refine ⟨⟨by decide, by decide⟩, by decide, .inr ⟨by decide, by decide⟩, hm, _, rfl, Int.emod_nonneg _ (by omega), Int.emod_lt_of_pos _ hm, ⟨⟨_, _, _, _, _, hM1, ha, ht, Int.emod_nonneg _ (by decide), Int.emod_lt_of_pos _ (by decide)⟩⟩, hO.trans hO1⟩
theorem pull_run {cf : CF} {M : MS} {n : Nat} {m : Int} (hB : Bag M n) (hm : 0 < m) (hm2 : m < 1073741824) : Run (L_pull cf [some (.cell n), some (.int m), none, none, none] M) fun fl M' => ∃ r, fl = .rt (.int r) ∧ 0 ≤ r ∧ r < m ∧ Bag M' n ∧ Only M M' n := by
  obtain ⟨cs, a, t, s, k, hM, ha, ht, hs, hs2⟩ := hB.ex
  unfold bagD at hM
  unfold L_pull
  refine run_seq fun P hP hR => ?_
  try simp only [↓r_ok, ↓r_stuck, ↓r_exc, ↓r_v0, ↓r_vs, ↓r_con, ↓r_op2, ↓r_op1, ↓r_and, ↓r_or, ↓r_not, ↓k_and1, ↓k_or1, ↓k_not1, ↓r_if, ↓r_nil, ↓r_cons, ↓r_tup, ↓r_lst, ↓r_cel, ↓r_no, ↓r_some, ↓k_some, ↓r_sli, ↓r_calB, ↓r_cal, ↓r_mtl, ↓r_sm1, ↓k_sm1, ↓r_frz, ↓r_ch, ↓k_ch, ↓r_tst, ↓r_tcm, ↓k_bool, ↓r_andT, ↓r_orT, ↓r_notT, ↓r_yes, ↓r_its, ↓r_ran, ↓r_lc, ↓r_seq, ↓k_nx, ↓k_rt, ↓k_bk, ↓k_ct, ↓r_skip, ↓r_set, ↓r_ifS, ↓r_ret, ↓r_retN, ↓r_drop, ↓r_brk, ↓r_cnt, ↓r_par2, ↓r_par3, ↓k_par2, ↓k_par3, ↓r_asg, ↓r_nm, ↓r_sub, ↓k_sub, ↓r_tupM, ↓k_tup, ↓r_consM, ↓r_nilM, ↓r_for, ↓o_addI, ↓o_addT, ↓o_addL, ↓o_subI, ↓o_mulI, ↓o_mulL, ↓o_divI, ↓o_modI, ↓o_powI, ↓o_lt, ↓o_le, ↓o_gt, ↓o_ge, ↓o_eqI, ↓o_eqT, ↓o_eqB, ↓o_neI, ↓o_neT, ↓o_neB, ↓o_isN, ↓o_isI, ↓o_isB, ↓o_isT, ↓o_isL, ↓o_isU, ↓o_ty, ↓o_ty2, ↓o_ixL, ↓o_ixU, ↓o_ixT, ↓o_len_T, ↓o_len_L, ↓o_len_U, ↓o_lis_L, ↓o_lis_U, ↓o_lis_LC, ↓o_lis_UC, ↓o_tu_L, ↓o_tu_U, ↓o_int_I, ↓o_int_B, ↓o_tru_B, ↓o_tru_I, ↓o_tru_N, ↓o_tru_L, ↓o_tru_U, ↓o_tru_T, ↓o_wal_L, ↓o_wal_U, ↓o_wal_T, ↓o_rng1, ↓o_rng2, ↓o_zip_L, ↓o_zip_U, ↓o_finL, ↓o_finC, ↓o_all, ↓o_any, ↓o_slT, ↓o_slL, ↓o_slR, ↓o_in_T, y_non, y_bl, y_int, y_str, y_lst, y_tup, ↓atK_0, List.set_cons_zero, List.set_cons_succ, List.length_cons, List.length_nil, isb_list_NoneType, isb_list_bool, isb_list_int, isb_list_str, isb_list_list, isb_list_tuple, isb_list_dict, isb_tuple_NoneType, isb_tuple_bool, isb_tuple_int, isb_tuple_str, isb_tuple_list, isb_tuple_tuple, isb_tuple_dict, isb_int_NoneType, isb_int_bool, isb_int_int, isb_int_str, isb_int_list, isb_int_tuple, isb_int_dict, isb_str_NoneType, isb_str_bool, isb_str_int, isb_str_str, isb_str_list, isb_str_tuple, isb_str_dict, isb_bool_NoneType, isb_bool_bool, isb_bool_int, isb_bool_str, isb_bool_list, isb_bool_tuple, isb_bool_dict, isb_dict_NoneType, isb_dict_bool, isb_dict_int, isb_dict_str, isb_dict_list, isb_dict_tuple, isb_dict_dict, ↓reduceIte, Bool.false_eq_true, Bool.not_true, Bool.not_false, Bool.true_or, Bool.or_true, Bool.false_or, Bool.or_false, Bool.true_and, Bool.and_true, Bool.false_and, Bool.and_false, decide_true, decide_false, eq_self, reduceCtorEq, true_and, and_true, ↓atK_1, ↓atK_2, ↓atK_3, ↓atK_4, ↓atK_5, ↓atK_6, ↓atK_7, ↓atK_8, ↓atK_9, wipeD, r_v0, r_vs, ↓o_ixC hM, ↓at0, ↓at1, ↓at2, ↓at3, ↓at4]
  refine putL_run hM rfl fun M1 hM1 hO1 => hP _ _ ?_
  have hM1 : M1[n]? = some (.lst [.lst (cs.map D.int), .int a, .int t, .int s, .int (k + 1)]) := hM1
  show Run (seqS _ L_pull3 cf _ M1) _
  refine run_seq fun P hP hR => ?_
  try simp only [↓r_ok, ↓r_stuck, ↓r_exc, ↓r_v0, ↓r_vs, ↓r_con, ↓r_op2, ↓r_op1, ↓r_and, ↓r_or, ↓r_not, ↓k_and1, ↓k_or1, ↓k_not1, ↓r_if, ↓r_nil, ↓r_cons, ↓r_tup, ↓r_lst, ↓r_cel, ↓r_no, ↓r_some, ↓k_some, ↓r_sli, ↓r_calB, ↓r_cal, ↓r_mtl, ↓r_sm1, ↓k_sm1, ↓r_frz, ↓r_ch, ↓k_ch, ↓r_tst, ↓r_tcm, ↓k_bool, ↓r_andT, ↓r_orT, ↓r_notT, ↓r_yes, ↓r_its, ↓r_ran, ↓r_lc, ↓r_seq, ↓k_nx, ↓k_rt, ↓k_bk, ↓k_ct, ↓r_skip, ↓r_set, ↓r_ifS, ↓r_ret, ↓r_retN, ↓r_drop, ↓r_brk, ↓r_cnt, ↓r_par2, ↓r_par3, ↓k_par2, ↓k_par3, ↓r_asg, ↓r_nm, ↓r_sub, ↓k_sub, ↓r_tupM, ↓k_tup, ↓r_consM, ↓r_nilM, ↓r_for, ↓o_addI, ↓o_addT, ↓o_addL, ↓o_subI, ↓o_mulI, ↓o_mulL, ↓o_divI, ↓o_modI, ↓o_powI, ↓o_lt, ↓o_le, ↓o_gt, ↓o_ge, ↓o_eqI, ↓o_eqT, ↓o_eqB, ↓o_neI, ↓o_neT, ↓o_neB, ↓o_isN, ↓o_isI, ↓o_isB, ↓o_isT, ↓o_isL, ↓o_isU, ↓o_ty, ↓o_ty2, ↓o_ixL, ↓o_ixU, ↓o_ixT, ↓o_len_T, ↓o_len_L, ↓o_len_U, ↓o_lis_L, ↓o_lis_U, ↓o_lis_LC, ↓o_lis_UC, ↓o_tu_L, ↓o_tu_U, ↓o_int_I, ↓o_int_B, ↓o_tru_B, ↓o_tru_I, ↓o_tru_N, ↓o_tru_L, ↓o_tru_U, ↓o_tru_T, ↓o_wal_L, ↓o_wal_U, ↓o_wal_T, ↓o_rng1, ↓o_rng2, ↓o_zip_L, ↓o_zip_U, ↓o_finL, ↓o_finC, ↓o_all, ↓o_any, ↓o_slT, ↓o_slL, ↓o_slR, ↓o_in_T, y_non, y_bl, y_int, y_str, y_lst, y_tup, ↓atK_0, List.set_cons_zero, List.set_cons_succ, List.length_cons, List.length_nil, isb_list_NoneType, isb_list_bool, isb_list_int, isb_list_str, isb_list_list, isb_list_tuple, isb_list_dict, isb_tuple_NoneType, isb_tuple_bool, isb_tuple_int, isb_tuple_str, isb_tuple_list, isb_tuple_tuple, isb_tuple_dict, isb_int_NoneType, isb_int_bool, isb_int_int, isb_int_str, isb_int_list, isb_int_tuple, isb_int_dict, isb_str_NoneType, isb_str_bool, isb_str_int, isb_str_str, isb_str_list, isb_str_tuple, isb_str_dict, isb_bool_NoneType, isb_bool_bool, isb_bool_int, isb_bool_str, isb_bool_list, isb_bool_tuple, isb_bool_dict, isb_dict_NoneType, isb_dict_bool, isb_dict_int, isb_dict_str, isb_dict_list, isb_dict_tuple, isb_dict_dict, ↓reduceIte, Bool.false_eq_true, Bool.not_true, Bool.not_false, Bool.true_or, Bool.or_true, Bool.false_or, Bool.or_false, Bool.true_and, Bool.and_true, Bool.false_and, Bool.and_false, decide_true, decide_false, eq_self, reduceCtorEq, true_and, and_true, ↓atK_1, ↓atK_2, ↓atK_3, ↓atK_4, ↓atK_5, ↓atK_6, ↓atK_7, ↓atK_8, ↓atK_9, wipeD, r_v0, r_vs, ↓o_ixC hM1, ↓at0, ↓at1, ↓at2, ↓at3, ↓at4]
  by_cases h0 : t = 0
  · rw [if_pos (decide_eq_true h0)]
    try simp only [↓r_ok, ↓r_stuck, ↓r_exc, ↓r_v0, ↓r_vs, ↓r_con, ↓r_op2, ↓r_op1, ↓r_and, ↓r_or, ↓r_not, ↓k_and1, ↓k_or1, ↓k_not1, ↓r_if, ↓r_nil, ↓r_cons, ↓r_tup, ↓r_lst, ↓r_cel, ↓r_no, ↓r_some, ↓k_some, ↓r_sli, ↓r_calB, ↓r_cal, ↓r_mtl, ↓r_sm1, ↓k_sm1, ↓r_frz, ↓r_ch, ↓k_ch, ↓r_tst, ↓r_tcm, ↓k_bool, ↓r_andT, ↓r_orT, ↓r_notT, ↓r_yes, ↓r_its, ↓r_ran, ↓r_lc, ↓r_seq, ↓k_nx, ↓k_rt, ↓k_bk, ↓k_ct, ↓r_skip, ↓r_set, ↓r_ifS, ↓r_ret, ↓r_retN, ↓r_drop, ↓r_brk, ↓r_cnt, ↓r_par2, ↓r_par3, ↓k_par2, ↓k_par3, ↓r_asg, ↓r_nm, ↓r_sub, ↓k_sub, ↓r_tupM, ↓k_tup, ↓r_consM, ↓r_nilM, ↓r_for, ↓o_addI, ↓o_addT, ↓o_addL, ↓o_subI, ↓o_mulI, ↓o_mulL, ↓o_divI, ↓o_modI, ↓o_powI, ↓o_lt, ↓o_le, ↓o_gt, ↓o_ge, ↓o_eqI, ↓o_eqT, ↓o_eqB, ↓o_neI, ↓o_neT, ↓o_neB, ↓o_isN, ↓o_isI, ↓o_isB, ↓o_isT, ↓o_isL, ↓o_isU, ↓o_ty, ↓o_ty2, ↓o_ixL, ↓o_ixU, ↓o_ixT, ↓o_len_T, ↓o_len_L, ↓o_len_U, ↓o_lis_L, ↓o_lis_U, ↓o_lis_LC, ↓o_lis_UC, ↓o_tu_L, ↓o_tu_U, ↓o_int_I, ↓o_int_B, ↓o_tru_B, ↓o_tru_I, ↓o_tru_N, ↓o_tru_L, ↓o_tru_U, ↓o_tru_T, ↓o_wal_L, ↓o_wal_U, ↓o_wal_T, ↓o_rng1, ↓o_rng2, ↓o_zip_L, ↓o_zip_U, ↓o_finL, ↓o_finC, ↓o_all, ↓o_any, ↓o_slT, ↓o_slL, ↓o_slR, ↓o_in_T, y_non, y_bl, y_int, y_str, y_lst, y_tup, ↓atK_0, List.set_cons_zero, List.set_cons_succ, List.length_cons, List.length_nil, isb_list_NoneType, isb_list_bool, isb_list_int, isb_list_str, isb_list_list, isb_list_tuple, isb_list_dict, isb_tuple_NoneType, isb_tuple_bool, isb_tuple_int, isb_tuple_str, isb_tuple_list, isb_tuple_tuple, isb_tuple_dict, isb_int_NoneType, isb_int_bool, isb_int_int, isb_int_str, isb_int_list, isb_int_tuple, isb_int_dict, isb_str_NoneType, isb_str_bool, isb_str_int, isb_str_str, isb_str_list, isb_str_tuple, isb_str_dict, isb_bool_NoneType, isb_bool_bool, isb_bool_int, isb_bool_str, isb_bool_list, isb_bool_tuple, isb_bool_dict, isb_dict_NoneType, isb_dict_bool, isb_dict_int, isb_dict_str, isb_dict_list, isb_dict_tuple, isb_dict_dict, ↓reduceIte, Bool.false_eq_true, Bool.not_true, Bool.not_false, Bool.true_or, Bool.or_true, Bool.false_or, Bool.or_false, Bool.true_and, Bool.and_true, Bool.false_and, Bool.and_false, decide_true, decide_false, eq_self, reduceCtorEq, true_and, and_true, ↓atK_1, ↓atK_2, ↓atK_3, ↓atK_4, ↓atK_5, ↓atK_6, ↓atK_7, ↓atK_8, ↓atK_9, wipeD, r_v0, r_vs, ↓o_ixC hM1, ↓at0, ↓at1, ↓at2, ↓at3, ↓at4]
    by_cases h1 : a < (cs.map D.int).length
    · rw [if_pos (decide_eq_true h1)]
      have h1' : a.toNat < cs.length := by rw [List.length_map] at h1; omega
      have hat : ∀ {M : MS} {p : D → MS → Prop}, atK (cs.map D.int) a M p = p (.int cs[a.toNat]) M := fun {M p} => by
        unfold atK atI ixN
        rw [if_pos ha, if_pos h1]
        show (match (cs.map D.int)[a.toNat]? with
          | some d => p d M
          | none => False) = _
        rw [List.getElem?_map, List.getElem?_eq_getElem h1']
        rfl
      try simp only [o_ixC hM1, at0, at1, at2, at3, at4, hat]
      try simp only [↓r_ok, ↓r_stuck, ↓r_exc, ↓r_v0, ↓r_vs, ↓r_con, ↓r_op2, ↓r_op1, ↓r_and, ↓r_or, ↓r_not, ↓k_and1, ↓k_or1, ↓k_not1, ↓r_if, ↓r_nil, ↓r_cons, ↓r_tup, ↓r_lst, ↓r_cel, ↓r_no, ↓r_some, ↓k_some, ↓r_sli, ↓r_calB, ↓r_cal, ↓r_mtl, ↓r_sm1, ↓k_sm1, ↓r_frz, ↓r_ch, ↓k_ch, ↓r_tst, ↓r_tcm, ↓k_bool, ↓r_andT, ↓r_orT, ↓r_notT, ↓r_yes, ↓r_its, ↓r_ran, ↓r_lc, ↓r_seq, ↓k_nx, ↓k_rt, ↓k_bk, ↓k_ct, ↓r_skip, ↓r_set, ↓r_ifS, ↓r_ret, ↓r_retN, ↓r_drop, ↓r_brk, ↓r_cnt, ↓r_par2, ↓r_par3, ↓k_par2, ↓k_par3, ↓r_asg, ↓r_nm, ↓r_sub, ↓k_sub, ↓r_tupM, ↓k_tup, ↓r_consM, ↓r_nilM, ↓r_for, ↓o_addI, ↓o_addT, ↓o_addL, ↓o_subI, ↓o_mulI, ↓o_mulL, ↓o_divI, ↓o_modI, ↓o_powI, ↓o_lt, ↓o_le, ↓o_gt, ↓o_ge, ↓o_eqI, ↓o_eqT, ↓o_eqB, ↓o_neI, ↓o_neT, ↓o_neB, ↓o_isN, ↓o_isI, ↓o_isB, ↓o_isT, ↓o_isL, ↓o_isU, ↓o_ty, ↓o_ty2, ↓o_ixL, ↓o_ixU, ↓o_ixT, ↓o_len_T, ↓o_len_L, ↓o_len_U, ↓o_lis_L, ↓o_lis_U, ↓o_lis_LC, ↓o_lis_UC, ↓o_tu_L, ↓o_tu_U, ↓o_int_I, ↓o_int_B, ↓o_tru_B, ↓o_tru_I, ↓o_tru_N, ↓o_tru_L, ↓o_tru_U, ↓o_tru_T, ↓o_wal_L, ↓o_wal_U, ↓o_wal_T, ↓o_rng1, ↓o_rng2, ↓o_zip_L, ↓o_zip_U, ↓o_finL, ↓o_finC, ↓o_all, ↓o_any, ↓o_slT, ↓o_slL, ↓o_slR, ↓o_in_T, y_non, y_bl, y_int, y_str, y_lst, y_tup, ↓atK_0, List.set_cons_zero, List.set_cons_succ, List.length_cons, List.length_nil, isb_list_NoneType, isb_list_bool, isb_list_int, isb_list_str, isb_list_list, isb_list_tuple, isb_list_dict, isb_tuple_NoneType, isb_tuple_bool, isb_tuple_int, isb_tuple_str, isb_tuple_list, isb_tuple_tuple, isb_tuple_dict, isb_int_NoneType, isb_int_bool, isb_int_int, isb_int_str, isb_int_list, isb_int_tuple, isb_int_dict, isb_str_NoneType, isb_str_bool, isb_str_int, isb_str_str, isb_str_list, isb_str_tuple, isb_str_dict, isb_bool_NoneType, isb_bool_bool, isb_bool_int, isb_bool_str, isb_bool_list, isb_bool_tuple, isb_bool_dict, isb_dict_NoneType, isb_dict_bool, isb_dict_int, isb_dict_str, isb_dict_list, isb_dict_tuple, isb_dict_dict, ↓reduceIte, Bool.false_eq_true, Bool.not_true, Bool.not_false, Bool.true_or, Bool.or_true, Bool.false_or, Bool.or_false, Bool.true_and, Bool.and_true, Bool.false_and, Bool.and_false, decide_true, decide_false, eq_self, reduceCtorEq, true_and, and_true, ↓atK_1, ↓atK_2, ↓atK_3, ↓atK_4, ↓atK_5, ↓atK_6, ↓atK_7, ↓atK_8, ↓atK_9, wipeD, r_v0, r_vs, ↓o_ixC hM1, ↓at0, ↓at1, ↓at2, ↓at3, ↓at4, hat]
      refine ⟨by decide, putL_run hM1 rfl fun M2 hM2 hO2 => ⟨by decide, ?_⟩⟩
      have hM2 : M2[n]? = some (.lst [.lst (cs.map D.int), .int (a + 1), .int t, .int s, .int (k + 1)]) := hM2
      have hO2 := hO1.trans hO2
      walk_at "mp"
      have fin : ∀ {M3 : MS} {t3 : Int}, 0 ≤ t3 → M3[n]? = some (.lst [.lst (cs.map D.int), .int (a + 1), .int t3, .int s, .int (k + 1)]) → Only M M3 n → Run (asgM (op2 modS (calB intS (consA (op2 addS (op2 addS (op2 mulS (op2 ixS (varS 0) (conS (.int 3))) (conS (.int 38603))) (op2 mulS (op2 modS (calB intS (consA (varS 2) nilA)) (conS (.int 2147483399))) (conS (.int 40531)))) (conS (.int 83))) nilA)) (conS (.int 2147483563))) (subM (varS 0) (conS (.int 3))) cf [some (.cell n), some (.int m), some (.int cs[a.toNat]), none, none] M3) P := fun {M3 t3} ht3 hM3 hO3 => by
        try simp only [↓r_ok, ↓r_stuck, ↓r_exc, ↓r_v0, ↓r_vs, ↓r_con, ↓r_op2, ↓r_op1, ↓r_and, ↓r_or, ↓r_not, ↓k_and1, ↓k_or1, ↓k_not1, ↓r_if, ↓r_nil, ↓r_cons, ↓r_tup, ↓r_lst, ↓r_cel, ↓r_no, ↓r_some, ↓k_some, ↓r_sli, ↓r_calB, ↓r_cal, ↓r_mtl, ↓r_sm1, ↓k_sm1, ↓r_frz, ↓r_ch, ↓k_ch, ↓r_tst, ↓r_tcm, ↓k_bool, ↓r_andT, ↓r_orT, ↓r_notT, ↓r_yes, ↓r_its, ↓r_ran, ↓r_lc, ↓r_seq, ↓k_nx, ↓k_rt, ↓k_bk, ↓k_ct, ↓r_skip, ↓r_set, ↓r_ifS, ↓r_ret, ↓r_retN, ↓r_drop, ↓r_brk, ↓r_cnt, ↓r_par2, ↓r_par3, ↓k_par2, ↓k_par3, ↓r_asg, ↓r_nm, ↓r_sub, ↓k_sub, ↓r_tupM, ↓k_tup, ↓r_consM, ↓r_nilM, ↓r_for, ↓o_addI, ↓o_addT, ↓o_addL, ↓o_subI, ↓o_mulI, ↓o_mulL, ↓o_divI, ↓o_modI, ↓o_powI, ↓o_lt, ↓o_le, ↓o_gt, ↓o_ge, ↓o_eqI, ↓o_eqT, ↓o_eqB, ↓o_neI, ↓o_neT, ↓o_neB, ↓o_isN, ↓o_isI, ↓o_isB, ↓o_isT, ↓o_isL, ↓o_isU, ↓o_ty, ↓o_ty2, ↓o_ixL, ↓o_ixU, ↓o_ixT, ↓o_len_T, ↓o_len_L, ↓o_len_U, ↓o_lis_L, ↓o_lis_U, ↓o_lis_LC, ↓o_lis_UC, ↓o_tu_L, ↓o_tu_U, ↓o_int_I, ↓o_int_B, ↓o_tru_B, ↓o_tru_I, ↓o_tru_N, ↓o_tru_L, ↓o_tru_U, ↓o_tru_T, ↓o_wal_L, ↓o_wal_U, ↓o_wal_T, ↓o_rng1, ↓o_rng2, ↓o_zip_L, ↓o_zip_U, ↓o_finL, ↓o_finC, ↓o_all, ↓o_any, ↓o_slT, ↓o_slL, ↓o_slR, ↓o_in_T, y_non, y_bl, y_int, y_str, y_lst, y_tup, ↓atK_0, List.set_cons_zero, List.set_cons_succ, List.length_cons, List.length_nil, isb_list_NoneType, isb_list_bool, isb_list_int, isb_list_str, isb_list_list, isb_list_tuple, isb_list_dict, isb_tuple_NoneType, isb_tuple_bool, isb_tuple_int, isb_tuple_str, isb_tuple_list, isb_tuple_tuple, isb_tuple_dict, isb_int_NoneType, isb_int_bool, isb_int_int, isb_int_str, isb_int_list, isb_int_tuple, isb_int_dict, isb_str_NoneType, isb_str_bool, isb_str_int, isb_str_str, isb_str_list, isb_str_tuple, isb_str_dict, isb_bool_NoneType, isb_bool_bool, isb_bool_int, isb_bool_str, isb_bool_list, isb_bool_tuple, isb_bool_dict, isb_dict_NoneType, isb_dict_bool, isb_dict_int, isb_dict_str, isb_dict_list, isb_dict_tuple, isb_dict_dict, ↓reduceIte, Bool.false_eq_true, Bool.not_true, Bool.not_false, Bool.true_or, Bool.or_true, Bool.false_or, Bool.or_false, Bool.true_and, Bool.and_true, Bool.false_and, Bool.and_false, decide_true, decide_false, eq_self, reduceCtorEq, true_and, and_true, ↓atK_1, ↓atK_2, ↓atK_3, ↓atK_4, ↓atK_5, ↓atK_6, ↓atK_7, ↓atK_8, ↓atK_9, wipeD, r_v0, r_vs, ↓o_ixC hM3, ↓at0, ↓at1, ↓at2, ↓at3, ↓at4, hat]
        refine ⟨.inr ⟨by decide, by decide⟩, by decide, .inr ⟨by decide, by decide⟩, by decide, putL_run hM3 rfl fun M4 hM4 hO4 => hP _ _ ?_⟩
        exact pull3 hm hm2 hM4 (by omega) ht3 (Int.emod_nonneg _ (by decide)) (Int.emod_lt_of_pos _ (by decide)) (hO3.trans hO4)
      by_cases h2 : (10 : Int) ^ (18 : Int).toNat ≤ cs[a.toNat]
      · rw [if_pos (decide_eq_true h2)]
        refine putL_run hM2 rfl fun M3 hM3 hO3 => ?_
        have hF := fin (t3 := cs[a.toNat]) (Int.le_trans (by decide) h2) hM3 (hO2.trans hO3)
        revert hF
        walk_at "mp"
        exact id
      · rw [if_neg (by simpa using h2)]
        have hF := fin ht hM2 hO2
        revert hF
        walk_at "mp"
        exact id
    · rw [if_neg (by simpa using h1)]
      exact hP _ _ (pull3 hm hm2 hM1 ha ht hs hs2 hO1)
  · rw [if_neg (by simpa using h0)]
    try simp only [Bool.false_eq_true, if_false]
    walk_at "mp"
    exact hP _ _ (pull3 hm hm2 hM1 ha ht hs hs2 hO1)
end MP
set_option maxHeartbeats 4000000
/-! PPD: the laws' own helpers, as calls. -/
namespace MP
open PySem L2 Evl He
local macro_rules | `(tactic| walk_at "mp") => `(tactic| try simp only [↓r_ok, ↓r_stuck, ↓r_exc, ↓r_v0, ↓r_vs, ↓r_con, ↓r_op2, ↓r_op1, ↓r_and, ↓r_or, ↓r_not, ↓k_and1, ↓k_or1, ↓k_not1, ↓r_if, ↓r_nil, ↓r_cons, ↓r_tup, ↓r_lst, ↓r_cel, ↓r_no, ↓r_some, ↓k_some, ↓r_sli, ↓r_calB, ↓r_cal, ↓r_mtl, ↓r_sm1, ↓k_sm1, ↓r_frz, ↓r_ch, ↓k_ch, ↓r_tst, ↓r_tcm, ↓k_bool, ↓r_andT, ↓r_orT, ↓r_notT, ↓r_yes, ↓r_its, ↓r_ran, ↓r_lc, ↓r_seq, ↓k_nx, ↓k_rt, ↓k_bk, ↓k_ct, ↓r_skip, ↓r_set, ↓r_ifS, ↓r_ret, ↓r_retN, ↓r_drop, ↓r_brk, ↓r_cnt, ↓r_par2, ↓r_par3, ↓k_par2, ↓k_par3, ↓r_asg, ↓r_nm, ↓r_sub, ↓k_sub, ↓r_tupM, ↓k_tup, ↓r_consM, ↓r_nilM, ↓r_for, ↓o_addI, ↓o_addT, ↓o_addL, ↓o_subI, ↓o_mulI, ↓o_mulL, ↓o_divI, ↓o_modI, ↓o_powI, ↓o_lt, ↓o_le, ↓o_gt, ↓o_ge, ↓o_eqI, ↓o_eqT, ↓o_eqB, ↓o_neI, ↓o_neT, ↓o_neB, ↓o_isN, ↓o_isI, ↓o_isB, ↓o_isT, ↓o_isL, ↓o_isU, ↓o_ty, ↓o_ty2, ↓o_ixL, ↓o_ixU, ↓o_ixT, ↓o_len_T, ↓o_len_L, ↓o_len_U, ↓o_lis_L, ↓o_lis_U, ↓o_lis_LC, ↓o_lis_UC, ↓o_tu_L, ↓o_tu_U, ↓o_int_I, ↓o_int_B, ↓o_tru_B, ↓o_tru_I, ↓o_tru_N, ↓o_tru_L, ↓o_tru_U, ↓o_tru_T, ↓o_wal_L, ↓o_wal_U, ↓o_wal_T, ↓o_rng1, ↓o_rng2, ↓o_zip_L, ↓o_zip_U, ↓o_finL, ↓o_finC, ↓o_all, ↓o_any, ↓o_slT, ↓o_slL, ↓o_slR, ↓o_in_T, y_non, y_bl, y_int, y_str, y_lst, y_tup, ↓atK_0, List.set_cons_zero, List.set_cons_succ, List.length_cons, List.length_nil, isb_list_NoneType, isb_list_bool, isb_list_int, isb_list_str, isb_list_list, isb_list_tuple, isb_list_dict, isb_tuple_NoneType, isb_tuple_bool, isb_tuple_int, isb_tuple_str, isb_tuple_list, isb_tuple_tuple, isb_tuple_dict, isb_int_NoneType, isb_int_bool, isb_int_int, isb_int_str, isb_int_list, isb_int_tuple, isb_int_dict, isb_str_NoneType, isb_str_bool, isb_str_int, isb_str_str, isb_str_list, isb_str_tuple, isb_str_dict, isb_bool_NoneType, isb_bool_bool, isb_bool_int, isb_bool_str, isb_bool_list, isb_bool_tuple, isb_bool_dict, isb_dict_NoneType, isb_dict_bool, isb_dict_int, isb_dict_str, isb_dict_list, isb_dict_tuple, isb_dict_dict, ↓reduceIte, Bool.false_eq_true, Bool.not_true, Bool.not_false, Bool.true_or, Bool.or_true, Bool.false_or, Bool.or_false, Bool.true_and, Bool.and_true, Bool.false_and, Bool.and_false, decide_true, decide_false, eq_self, reduceCtorEq, true_and, and_true, ↓atK_1, ↓atK_2, ↓atK_3, ↓atK_4, ↓atK_5, ↓atK_6, ↓atK_7, ↓atK_8, ↓atK_9, wipeD, r_v0, r_vs])
section
variable {defs : List MP.Def} {k n ip ia il idr : Nat} {M : MS} {p : D → MS → Prop} {m : Int}
theorem pull_sp (h : defs[ip]? = some ⟨N_pull, L_pull⟩) (hB : Bag M n) (hm : 0 < m) (hm2 : m < 1073741824) (q : ∀ r M', 0 ≤ r → r < m → Bag M' n → Only M M' n → p (.int r) M') : Run (callP defs (k + 1) ip [.cell n, .int m] M) p := by
  refine r_call h ?_
  refine (pull_run (cf := callP defs k) hB hm hm2).imp fun fl M' h => ?_
  obtain ⟨r, rfl, h1, h2, h3, h4⟩ := h
  exact q r M' h1 h2 h3 h4
def N_any : List Str := ["_law_bag", "_law_rows"]
def L_any (ip : Nat) : Ss := (retS (op2 ixS (varS 1) (calS ip 2 0 (selD [0, 1] []) (consA (varS 0) (consA (calB lenS (consA (varS 1) nilA)) nilA)) nilA)))
theorem sel2 {a b : D} : selD [0, 1] [] [a, b] [] = [a, b] := rfl
theorem sel1 {a : D} : selD [0] [] [a] [] = [a] := rfl
theorem sel0 : selD [] [] [] [] = [] := rfl
theorem sel3 {a b c : D} : selD [0, 1, 2] [] [a, b, c] [] = [a, b, c] := rfl
theorem atK_at {ds : List D} {r : Int} (h1 : 0 ≤ r) (h2 : r.toNat < ds.length) : atK ds r M p = p ds[r.toNat] M := by
  unfold atK atI ixN
  rw [if_pos h1, if_pos (by omega)]
  show (match ds[r.toNat]? with
    | some d => p d M
    | none => False) = _
  rw [List.getElem?_eq_getElem h2]
theorem any_L {ds : List D} (h : defs[ip]? = some ⟨N_pull, L_pull⟩) (ha : defs[ia]? = some ⟨N_any, L_any ip⟩) (hB : Bag M n) (hl : 0 < ds.length) (hl2 : ds.length < 1073741824) (q : ∀ d M', d ∈ ds → Bag M' n → Only M M' n → p d M') : Run (callP defs (k + 2) ia [.cell n, .lst ds] M) p := by
  refine r_call ha ?_
  show Run (L_any ip (callP defs (k + 1)) [some (.cell n), some (.lst ds)] M) _
  unfold L_any
  try simp only [↓r_ok, ↓r_stuck, ↓r_exc, ↓r_v0, ↓r_vs, ↓r_con, ↓r_op2, ↓r_op1, ↓r_and, ↓r_or, ↓r_not, ↓k_and1, ↓k_or1, ↓k_not1, ↓r_if, ↓r_nil, ↓r_cons, ↓r_tup, ↓r_lst, ↓r_cel, ↓r_no, ↓r_some, ↓k_some, ↓r_sli, ↓r_calB, ↓r_cal, ↓r_mtl, ↓r_sm1, ↓k_sm1, ↓r_frz, ↓r_ch, ↓k_ch, ↓r_tst, ↓r_tcm, ↓k_bool, ↓r_andT, ↓r_orT, ↓r_notT, ↓r_yes, ↓r_its, ↓r_ran, ↓r_lc, ↓r_seq, ↓k_nx, ↓k_rt, ↓k_bk, ↓k_ct, ↓r_skip, ↓r_set, ↓r_ifS, ↓r_ret, ↓r_retN, ↓r_drop, ↓r_brk, ↓r_cnt, ↓r_par2, ↓r_par3, ↓k_par2, ↓k_par3, ↓r_asg, ↓r_nm, ↓r_sub, ↓k_sub, ↓r_tupM, ↓k_tup, ↓r_consM, ↓r_nilM, ↓r_for, ↓o_addI, ↓o_addT, ↓o_addL, ↓o_subI, ↓o_mulI, ↓o_mulL, ↓o_divI, ↓o_modI, ↓o_powI, ↓o_lt, ↓o_le, ↓o_gt, ↓o_ge, ↓o_eqI, ↓o_eqT, ↓o_eqB, ↓o_neI, ↓o_neT, ↓o_neB, ↓o_isN, ↓o_isI, ↓o_isB, ↓o_isT, ↓o_isL, ↓o_isU, ↓o_ty, ↓o_ty2, ↓o_ixL, ↓o_ixU, ↓o_ixT, ↓o_len_T, ↓o_len_L, ↓o_len_U, ↓o_lis_L, ↓o_lis_U, ↓o_lis_LC, ↓o_lis_UC, ↓o_tu_L, ↓o_tu_U, ↓o_int_I, ↓o_int_B, ↓o_tru_B, ↓o_tru_I, ↓o_tru_N, ↓o_tru_L, ↓o_tru_U, ↓o_tru_T, ↓o_wal_L, ↓o_wal_U, ↓o_wal_T, ↓o_rng1, ↓o_rng2, ↓o_zip_L, ↓o_zip_U, ↓o_finL, ↓o_finC, ↓o_all, ↓o_any, ↓o_slT, ↓o_slL, ↓o_slR, ↓o_in_T, y_non, y_bl, y_int, y_str, y_lst, y_tup, ↓atK_0, List.set_cons_zero, List.set_cons_succ, List.length_cons, List.length_nil, isb_list_NoneType, isb_list_bool, isb_list_int, isb_list_str, isb_list_list, isb_list_tuple, isb_list_dict, isb_tuple_NoneType, isb_tuple_bool, isb_tuple_int, isb_tuple_str, isb_tuple_list, isb_tuple_tuple, isb_tuple_dict, isb_int_NoneType, isb_int_bool, isb_int_int, isb_int_str, isb_int_list, isb_int_tuple, isb_int_dict, isb_str_NoneType, isb_str_bool, isb_str_int, isb_str_str, isb_str_list, isb_str_tuple, isb_str_dict, isb_bool_NoneType, isb_bool_bool, isb_bool_int, isb_bool_str, isb_bool_list, isb_bool_tuple, isb_bool_dict, isb_dict_NoneType, isb_dict_bool, isb_dict_int, isb_dict_str, isb_dict_list, isb_dict_tuple, isb_dict_dict, ↓reduceIte, Bool.false_eq_true, Bool.not_true, Bool.not_false, Bool.true_or, Bool.or_true, Bool.false_or, Bool.or_false, Bool.true_and, Bool.and_true, Bool.false_and, Bool.and_false, decide_true, decide_false, eq_self, reduceCtorEq, true_and, and_true, ↓atK_1, ↓atK_2, ↓atK_3, ↓atK_4, ↓atK_5, ↓atK_6, ↓atK_7, ↓atK_8, ↓atK_9, wipeD, r_v0, r_vs, ↓sel2]
  refine pull_sp h hB (by omega) (by omega) fun r M' h1 h2 h3 h4 => ?_
  have h5 : r.toNat < ds.length := by omega
  try simp only [↓r_ok, ↓r_stuck, ↓r_exc, ↓r_v0, ↓r_vs, ↓r_con, ↓r_op2, ↓r_op1, ↓r_and, ↓r_or, ↓r_not, ↓k_and1, ↓k_or1, ↓k_not1, ↓r_if, ↓r_nil, ↓r_cons, ↓r_tup, ↓r_lst, ↓r_cel, ↓r_no, ↓r_some, ↓k_some, ↓r_sli, ↓r_calB, ↓r_cal, ↓r_mtl, ↓r_sm1, ↓k_sm1, ↓r_frz, ↓r_ch, ↓k_ch, ↓r_tst, ↓r_tcm, ↓k_bool, ↓r_andT, ↓r_orT, ↓r_notT, ↓r_yes, ↓r_its, ↓r_ran, ↓r_lc, ↓r_seq, ↓k_nx, ↓k_rt, ↓k_bk, ↓k_ct, ↓r_skip, ↓r_set, ↓r_ifS, ↓r_ret, ↓r_retN, ↓r_drop, ↓r_brk, ↓r_cnt, ↓r_par2, ↓r_par3, ↓k_par2, ↓k_par3, ↓r_asg, ↓r_nm, ↓r_sub, ↓k_sub, ↓r_tupM, ↓k_tup, ↓r_consM, ↓r_nilM, ↓r_for, ↓o_addI, ↓o_addT, ↓o_addL, ↓o_subI, ↓o_mulI, ↓o_mulL, ↓o_divI, ↓o_modI, ↓o_powI, ↓o_lt, ↓o_le, ↓o_gt, ↓o_ge, ↓o_eqI, ↓o_eqT, ↓o_eqB, ↓o_neI, ↓o_neT, ↓o_neB, ↓o_isN, ↓o_isI, ↓o_isB, ↓o_isT, ↓o_isL, ↓o_isU, ↓o_ty, ↓o_ty2, ↓o_ixL, ↓o_ixU, ↓o_ixT, ↓o_len_T, ↓o_len_L, ↓o_len_U, ↓o_lis_L, ↓o_lis_U, ↓o_lis_LC, ↓o_lis_UC, ↓o_tu_L, ↓o_tu_U, ↓o_int_I, ↓o_int_B, ↓o_tru_B, ↓o_tru_I, ↓o_tru_N, ↓o_tru_L, ↓o_tru_U, ↓o_tru_T, ↓o_wal_L, ↓o_wal_U, ↓o_wal_T, ↓o_rng1, ↓o_rng2, ↓o_zip_L, ↓o_zip_U, ↓o_finL, ↓o_finC, ↓o_all, ↓o_any, ↓o_slT, ↓o_slL, ↓o_slR, ↓o_in_T, y_non, y_bl, y_int, y_str, y_lst, y_tup, ↓atK_0, List.set_cons_zero, List.set_cons_succ, List.length_cons, List.length_nil, isb_list_NoneType, isb_list_bool, isb_list_int, isb_list_str, isb_list_list, isb_list_tuple, isb_list_dict, isb_tuple_NoneType, isb_tuple_bool, isb_tuple_int, isb_tuple_str, isb_tuple_list, isb_tuple_tuple, isb_tuple_dict, isb_int_NoneType, isb_int_bool, isb_int_int, isb_int_str, isb_int_list, isb_int_tuple, isb_int_dict, isb_str_NoneType, isb_str_bool, isb_str_int, isb_str_str, isb_str_list, isb_str_tuple, isb_str_dict, isb_bool_NoneType, isb_bool_bool, isb_bool_int, isb_bool_str, isb_bool_list, isb_bool_tuple, isb_bool_dict, isb_dict_NoneType, isb_dict_bool, isb_dict_int, isb_dict_str, isb_dict_list, isb_dict_tuple, isb_dict_dict, ↓reduceIte, Bool.false_eq_true, Bool.not_true, Bool.not_false, Bool.true_or, Bool.or_true, Bool.false_or, Bool.or_false, Bool.true_and, Bool.and_true, Bool.false_and, Bool.and_false, decide_true, decide_false, eq_self, reduceCtorEq, true_and, and_true, ↓atK_1, ↓atK_2, ↓atK_3, ↓atK_4, ↓atK_5, ↓atK_6, ↓atK_7, ↓atK_8, ↓atK_9, wipeD, r_v0, r_vs, ↓atK_at h1 h5]
  exact q _ _ (List.getElem_mem h5) h3 h4
theorem any_T {x : Str} (h : defs[ip]? = some ⟨N_pull, L_pull⟩) (ha : defs[ia]? = some ⟨N_any, L_any ip⟩) (hB : Bag M n) (hl : 0 < x.cps.toList.length) (hl2 : x.length ≤ big) (hx : x.length = x.cps.toList.length) (q : ∀ c M', c ∈ x.cps.toList → Bag M' n → Only M M' n → p (.str ⟨#[c]⟩) M') : Run (callP defs (k + 2) ia [.cell n, .str x] M) p := by
  refine r_call ha ?_
  show Run (L_any ip (callP defs (k + 1)) [some (.cell n), some (.str x)] M) _
  unfold L_any
  try simp only [↓r_ok, ↓r_stuck, ↓r_exc, ↓r_v0, ↓r_vs, ↓r_con, ↓r_op2, ↓r_op1, ↓r_and, ↓r_or, ↓r_not, ↓k_and1, ↓k_or1, ↓k_not1, ↓r_if, ↓r_nil, ↓r_cons, ↓r_tup, ↓r_lst, ↓r_cel, ↓r_no, ↓r_some, ↓k_some, ↓r_sli, ↓r_calB, ↓r_cal, ↓r_mtl, ↓r_sm1, ↓k_sm1, ↓r_frz, ↓r_ch, ↓k_ch, ↓r_tst, ↓r_tcm, ↓k_bool, ↓r_andT, ↓r_orT, ↓r_notT, ↓r_yes, ↓r_its, ↓r_ran, ↓r_lc, ↓r_seq, ↓k_nx, ↓k_rt, ↓k_bk, ↓k_ct, ↓r_skip, ↓r_set, ↓r_ifS, ↓r_ret, ↓r_retN, ↓r_drop, ↓r_brk, ↓r_cnt, ↓r_par2, ↓r_par3, ↓k_par2, ↓k_par3, ↓r_asg, ↓r_nm, ↓r_sub, ↓k_sub, ↓r_tupM, ↓k_tup, ↓r_consM, ↓r_nilM, ↓r_for, ↓o_addI, ↓o_addT, ↓o_addL, ↓o_subI, ↓o_mulI, ↓o_mulL, ↓o_divI, ↓o_modI, ↓o_powI, ↓o_lt, ↓o_le, ↓o_gt, ↓o_ge, ↓o_eqI, ↓o_eqT, ↓o_eqB, ↓o_neI, ↓o_neT, ↓o_neB, ↓o_isN, ↓o_isI, ↓o_isB, ↓o_isT, ↓o_isL, ↓o_isU, ↓o_ty, ↓o_ty2, ↓o_ixL, ↓o_ixU, ↓o_ixT, ↓o_len_T, ↓o_len_L, ↓o_len_U, ↓o_lis_L, ↓o_lis_U, ↓o_lis_LC, ↓o_lis_UC, ↓o_tu_L, ↓o_tu_U, ↓o_int_I, ↓o_int_B, ↓o_tru_B, ↓o_tru_I, ↓o_tru_N, ↓o_tru_L, ↓o_tru_U, ↓o_tru_T, ↓o_wal_L, ↓o_wal_U, ↓o_wal_T, ↓o_rng1, ↓o_rng2, ↓o_zip_L, ↓o_zip_U, ↓o_finL, ↓o_finC, ↓o_all, ↓o_any, ↓o_slT, ↓o_slL, ↓o_slR, ↓o_in_T, y_non, y_bl, y_int, y_str, y_lst, y_tup, ↓atK_0, List.set_cons_zero, List.set_cons_succ, List.length_cons, List.length_nil, isb_list_NoneType, isb_list_bool, isb_list_int, isb_list_str, isb_list_list, isb_list_tuple, isb_list_dict, isb_tuple_NoneType, isb_tuple_bool, isb_tuple_int, isb_tuple_str, isb_tuple_list, isb_tuple_tuple, isb_tuple_dict, isb_int_NoneType, isb_int_bool, isb_int_int, isb_int_str, isb_int_list, isb_int_tuple, isb_int_dict, isb_str_NoneType, isb_str_bool, isb_str_int, isb_str_str, isb_str_list, isb_str_tuple, isb_str_dict, isb_bool_NoneType, isb_bool_bool, isb_bool_int, isb_bool_str, isb_bool_list, isb_bool_tuple, isb_bool_dict, isb_dict_NoneType, isb_dict_bool, isb_dict_int, isb_dict_str, isb_dict_list, isb_dict_tuple, isb_dict_dict, ↓reduceIte, Bool.false_eq_true, Bool.not_true, Bool.not_false, Bool.true_or, Bool.or_true, Bool.false_or, Bool.or_false, Bool.true_and, Bool.and_true, Bool.false_and, Bool.and_false, decide_true, decide_false, eq_self, reduceCtorEq, true_and, and_true, ↓atK_1, ↓atK_2, ↓atK_3, ↓atK_4, ↓atK_5, ↓atK_6, ↓atK_7, ↓atK_8, ↓atK_9, wipeD, r_v0, r_vs, ↓sel2]
  unfold big at hl2
  refine ⟨hl2, pull_sp h hB (by omega) (by omega) fun r M' h1 h2 h3 h4 => ?_⟩
  have h5 : r.toNat < x.cps.toList.length := by omega
  have hat : atI x.cps.toList r = some x.cps.toList[r.toNat] := by
    unfold atI ixN
    rw [if_pos h1, if_pos (by omega)]
    exact List.getElem?_eq_getElem h5
  try simp only [↓r_ok, ↓r_stuck, ↓r_exc, ↓r_v0, ↓r_vs, ↓r_con, ↓r_op2, ↓r_op1, ↓r_and, ↓r_or, ↓r_not, ↓k_and1, ↓k_or1, ↓k_not1, ↓r_if, ↓r_nil, ↓r_cons, ↓r_tup, ↓r_lst, ↓r_cel, ↓r_no, ↓r_some, ↓k_some, ↓r_sli, ↓r_calB, ↓r_cal, ↓r_mtl, ↓r_sm1, ↓k_sm1, ↓r_frz, ↓r_ch, ↓k_ch, ↓r_tst, ↓r_tcm, ↓k_bool, ↓r_andT, ↓r_orT, ↓r_notT, ↓r_yes, ↓r_its, ↓r_ran, ↓r_lc, ↓r_seq, ↓k_nx, ↓k_rt, ↓k_bk, ↓k_ct, ↓r_skip, ↓r_set, ↓r_ifS, ↓r_ret, ↓r_retN, ↓r_drop, ↓r_brk, ↓r_cnt, ↓r_par2, ↓r_par3, ↓k_par2, ↓k_par3, ↓r_asg, ↓r_nm, ↓r_sub, ↓k_sub, ↓r_tupM, ↓k_tup, ↓r_consM, ↓r_nilM, ↓r_for, ↓o_addI, ↓o_addT, ↓o_addL, ↓o_subI, ↓o_mulI, ↓o_mulL, ↓o_divI, ↓o_modI, ↓o_powI, ↓o_lt, ↓o_le, ↓o_gt, ↓o_ge, ↓o_eqI, ↓o_eqT, ↓o_eqB, ↓o_neI, ↓o_neT, ↓o_neB, ↓o_isN, ↓o_isI, ↓o_isB, ↓o_isT, ↓o_isL, ↓o_isU, ↓o_ty, ↓o_ty2, ↓o_ixL, ↓o_ixU, ↓o_ixT, ↓o_len_T, ↓o_len_L, ↓o_len_U, ↓o_lis_L, ↓o_lis_U, ↓o_lis_LC, ↓o_lis_UC, ↓o_tu_L, ↓o_tu_U, ↓o_int_I, ↓o_int_B, ↓o_tru_B, ↓o_tru_I, ↓o_tru_N, ↓o_tru_L, ↓o_tru_U, ↓o_tru_T, ↓o_wal_L, ↓o_wal_U, ↓o_wal_T, ↓o_rng1, ↓o_rng2, ↓o_zip_L, ↓o_zip_U, ↓o_finL, ↓o_finC, ↓o_all, ↓o_any, ↓o_slT, ↓o_slL, ↓o_slR, ↓o_in_T, y_non, y_bl, y_int, y_str, y_lst, y_tup, ↓atK_0, List.set_cons_zero, List.set_cons_succ, List.length_cons, List.length_nil, isb_list_NoneType, isb_list_bool, isb_list_int, isb_list_str, isb_list_list, isb_list_tuple, isb_list_dict, isb_tuple_NoneType, isb_tuple_bool, isb_tuple_int, isb_tuple_str, isb_tuple_list, isb_tuple_tuple, isb_tuple_dict, isb_int_NoneType, isb_int_bool, isb_int_int, isb_int_str, isb_int_list, isb_int_tuple, isb_int_dict, isb_str_NoneType, isb_str_bool, isb_str_int, isb_str_str, isb_str_list, isb_str_tuple, isb_str_dict, isb_bool_NoneType, isb_bool_bool, isb_bool_int, isb_bool_str, isb_bool_list, isb_bool_tuple, isb_bool_dict, isb_dict_NoneType, isb_dict_bool, isb_dict_int, isb_dict_str, isb_dict_list, isb_dict_tuple, isb_dict_dict, ↓reduceIte, Bool.false_eq_true, Bool.not_true, Bool.not_false, Bool.true_or, Bool.or_true, Bool.false_or, Bool.or_false, Bool.true_and, Bool.and_true, Bool.false_and, Bool.and_false, decide_true, decide_false, eq_self, reduceCtorEq, true_and, and_true, ↓atK_1, ↓atK_2, ↓atK_3, ↓atK_4, ↓atK_5, ↓atK_6, ↓atK_7, ↓atK_8, ↓atK_9, wipeD, r_v0, r_vs, hat]
  exact ⟨hl2, q _ _ (List.getElem_mem h5) h3 h4⟩
/-! like -/
def N_like : List Str := ["_law_a", "_law_b", "_law_same", "_law_c", "_law_d"]
def L_like (il : Nat) : Ss := (seqS (ifS (tstS (op1 (isi2 "list" "tuple") (varS 1))) (seqS (setS 2 (andV (op2 eqS (op1 (isiS "list") (varS 0)) (op1 (isiS "list") (varS 1))) (op2 eqS (op1 (isiS "tuple") (varS 0)) (op1 (isiS "tuple") (varS 1)))))
 (retS (andV (varS 2) (andV (op2 eqS (calB lenS (consA (varS 0) nilA)) (calB lenS (consA (varS 1) nilA))) (calB allS (consA (lcS [3, 4] finL (ranS zipS (consA (varS 0) (consA (varS 1) nilA))) (tupB (consB (nameB 3) (consB (nameB 4) nilB))) yesT (calS il 2 0 (selD [0, 1] []) (consA (varS 3) (consA (varS 4) nilA)) nilA)) nilA)))))) skipS)
 (seqS (ifS (orT (tcmS (op1 (isNS false) (varS 0))) (orT (tcmS (op1 (isNS false) (varS 1))) (tcmS (op2 neS (op1 (isiS "bool") (varS 0)) (op1 (isiS "bool") (varS 1)))))) (retS (andV (op1 (isNS false) (varS 0)) (op1 (isNS false) (varS 1)))) skipS)
 (retS (andV (op2 eqS (op1 (isiS "int") (varS 0)) (op1 (isiS "int") (varS 1))) (andV (op2 eqS (op1 (isiS "str") (varS 0)) (op1 (isiS "str") (varS 1))) (op2 eqS (varS 0) (varS 1)))))))
def LkD : Nat → D → Bool
  | 0, _ => false
  | k + 1, .lst ds => decide (ds.length ≤ big) && ds.all (LkD k)
  | k + 1, .tup ds => decide (ds.length ≤ big) && ds.all (LkD k)
  | _ + 1, .non => true
  | _ + 1, .bl _ => true
  | _ + 1, .int _ => true
  | _ + 1, .str _ => true
  | _ + 1, _ => false
theorem zip_self : ∀ ds : List D, zipD ds ds = ds.map fun x => .tup [x, x]
  | [] => rfl
  | x :: xs => congrArg (D.tup [x, x] :: ·) (zip_self xs)
theorem bools_true : ∀ ds : List D, bools (ds.map fun _ => D.bl true) = some (ds.map fun _ => true)
  | [] => rfl
  | x :: xs => by
    show (bools (xs.map fun _ => D.bl true)).map (true :: ·) = _
    rw [bools_true xs]
    rfl
theorem all_true : ∀ ds : List D, (ds.map fun _ => true).all id = true
  | [] => rfl
  | x :: xs => all_true xs
theorem like_refl (h : defs[il]? = some ⟨N_like, L_like il⟩) : ∀ (k : Nat) (d : D) (M : MS) (p : D → MS → Prop), LkD k d = true → p (.bl true) M → Run (callP defs k il [d, d] M) p
  | 0, d, M, p, hd, q => by simp [LkD] at hd
  | k + 1, d, M, p, hd, q => by
    refine r_call h ?_
    show Run (L_like il (callP defs k) [some d, some d, none, none, none] M) _
    unfold L_like
    have comp : ∀ (ds : List D) (b : D) (pa : List D → MS → Prop), ds.all (LkD k) = true → pa (ds.map fun _ => .bl true) M → Run (compL (tupB (consB (nameB 3) (consB (nameB 4) nilB))) (yesT (callP defs k)) (calS il 2 0 (selD [0, 1] []) (consA (varS 3) (consA (varS 4) nilA)) nilA (callP defs k)) (wipeD [some b, some b, some (.bl true), none, none] [3, 4]) (zipD ds ds) M) pa := fun ds b pa hds hpa => by
      rw [zip_self]
      refine comp_map (fun _ => .bl true) M _ (fun x hx => ?_) (by rw [List.map_map]; exact hpa)
      obtain ⟨y, hy, rfl⟩ := List.mem_map.mp hx
      refine ⟨_, rfl, ?_⟩
      refine ⟨rfl, rfl, ?_⟩
      show Run (calS il 2 0 (selD [0, 1] []) (consA (varS 3) (consA (varS 4) nilA)) nilA (callP defs k) [some b, some b, some (.bl true), some y, some y] M) _
      try simp only [↓r_ok, ↓r_stuck, ↓r_exc, ↓r_v0, ↓r_vs, ↓r_con, ↓r_op2, ↓r_op1, ↓r_and, ↓r_or, ↓r_not, ↓k_and1, ↓k_or1, ↓k_not1, ↓r_if, ↓r_nil, ↓r_cons, ↓r_tup, ↓r_lst, ↓r_cel, ↓r_no, ↓r_some, ↓k_some, ↓r_sli, ↓r_calB, ↓r_cal, ↓r_mtl, ↓r_sm1, ↓k_sm1, ↓r_frz, ↓r_ch, ↓k_ch, ↓r_tst, ↓r_tcm, ↓k_bool, ↓r_andT, ↓r_orT, ↓r_notT, ↓r_yes, ↓r_its, ↓r_ran, ↓r_lc, ↓r_seq, ↓k_nx, ↓k_rt, ↓k_bk, ↓k_ct, ↓r_skip, ↓r_set, ↓r_ifS, ↓r_ret, ↓r_retN, ↓r_drop, ↓r_brk, ↓r_cnt, ↓r_par2, ↓r_par3, ↓k_par2, ↓k_par3, ↓r_asg, ↓r_nm, ↓r_sub, ↓k_sub, ↓r_tupM, ↓k_tup, ↓r_consM, ↓r_nilM, ↓r_for, ↓o_addI, ↓o_addT, ↓o_addL, ↓o_subI, ↓o_mulI, ↓o_mulL, ↓o_divI, ↓o_modI, ↓o_powI, ↓o_lt, ↓o_le, ↓o_gt, ↓o_ge, ↓o_eqI, ↓o_eqT, ↓o_eqB, ↓o_neI, ↓o_neT, ↓o_neB, ↓o_isN, ↓o_isI, ↓o_isB, ↓o_isT, ↓o_isL, ↓o_isU, ↓o_ty, ↓o_ty2, ↓o_ixL, ↓o_ixU, ↓o_ixT, ↓o_len_T, ↓o_len_L, ↓o_len_U, ↓o_lis_L, ↓o_lis_U, ↓o_lis_LC, ↓o_lis_UC, ↓o_tu_L, ↓o_tu_U, ↓o_int_I, ↓o_int_B, ↓o_tru_B, ↓o_tru_I, ↓o_tru_N, ↓o_tru_L, ↓o_tru_U, ↓o_tru_T, ↓o_wal_L, ↓o_wal_U, ↓o_wal_T, ↓o_rng1, ↓o_rng2, ↓o_zip_L, ↓o_zip_U, ↓o_finL, ↓o_finC, ↓o_all, ↓o_any, ↓o_slT, ↓o_slL, ↓o_slR, ↓o_in_T, y_non, y_bl, y_int, y_str, y_lst, y_tup, ↓atK_0, List.set_cons_zero, List.set_cons_succ, List.length_cons, List.length_nil, isb_list_NoneType, isb_list_bool, isb_list_int, isb_list_str, isb_list_list, isb_list_tuple, isb_list_dict, isb_tuple_NoneType, isb_tuple_bool, isb_tuple_int, isb_tuple_str, isb_tuple_list, isb_tuple_tuple, isb_tuple_dict, isb_int_NoneType, isb_int_bool, isb_int_int, isb_int_str, isb_int_list, isb_int_tuple, isb_int_dict, isb_str_NoneType, isb_str_bool, isb_str_int, isb_str_str, isb_str_list, isb_str_tuple, isb_str_dict, isb_bool_NoneType, isb_bool_bool, isb_bool_int, isb_bool_str, isb_bool_list, isb_bool_tuple, isb_bool_dict, isb_dict_NoneType, isb_dict_bool, isb_dict_int, isb_dict_str, isb_dict_list, isb_dict_tuple, isb_dict_dict, ↓reduceIte, Bool.false_eq_true, Bool.not_true, Bool.not_false, Bool.true_or, Bool.or_true, Bool.false_or, Bool.or_false, Bool.true_and, Bool.and_true, Bool.false_and, Bool.and_false, decide_true, decide_false, eq_self, reduceCtorEq, true_and, and_true, ↓atK_1, ↓atK_2, ↓atK_3, ↓atK_4, ↓atK_5, ↓atK_6, ↓atK_7, ↓atK_8, ↓atK_9, wipeD, r_v0, r_vs, ↓sel2]
      exact like_refl h k y M _ (List.all_eq_true.mp hds y hy) ⟨rfl, rfl⟩
    cases d with
    | lst ds =>
      simp only [LkD, Bool.and_eq_true, decide_eq_true_eq] at hd
      walk_at "mp"
      refine ⟨?_, comp ds _ _ hd.2 ?_⟩
      · rw [zip_self, List.length_map]; exact hd.1
      · try simp only [↓r_ok, ↓r_stuck, ↓r_exc, ↓r_v0, ↓r_vs, ↓r_con, ↓r_op2, ↓r_op1, ↓r_and, ↓r_or, ↓r_not, ↓k_and1, ↓k_or1, ↓k_not1, ↓r_if, ↓r_nil, ↓r_cons, ↓r_tup, ↓r_lst, ↓r_cel, ↓r_no, ↓r_some, ↓k_some, ↓r_sli, ↓r_calB, ↓r_cal, ↓r_mtl, ↓r_sm1, ↓k_sm1, ↓r_frz, ↓r_ch, ↓k_ch, ↓r_tst, ↓r_tcm, ↓k_bool, ↓r_andT, ↓r_orT, ↓r_notT, ↓r_yes, ↓r_its, ↓r_ran, ↓r_lc, ↓r_seq, ↓k_nx, ↓k_rt, ↓k_bk, ↓k_ct, ↓r_skip, ↓r_set, ↓r_ifS, ↓r_ret, ↓r_retN, ↓r_drop, ↓r_brk, ↓r_cnt, ↓r_par2, ↓r_par3, ↓k_par2, ↓k_par3, ↓r_asg, ↓r_nm, ↓r_sub, ↓k_sub, ↓r_tupM, ↓k_tup, ↓r_consM, ↓r_nilM, ↓r_for, ↓o_addI, ↓o_addT, ↓o_addL, ↓o_subI, ↓o_mulI, ↓o_mulL, ↓o_divI, ↓o_modI, ↓o_powI, ↓o_lt, ↓o_le, ↓o_gt, ↓o_ge, ↓o_eqI, ↓o_eqT, ↓o_eqB, ↓o_neI, ↓o_neT, ↓o_neB, ↓o_isN, ↓o_isI, ↓o_isB, ↓o_isT, ↓o_isL, ↓o_isU, ↓o_ty, ↓o_ty2, ↓o_ixL, ↓o_ixU, ↓o_ixT, ↓o_len_T, ↓o_len_L, ↓o_len_U, ↓o_lis_L, ↓o_lis_U, ↓o_lis_LC, ↓o_lis_UC, ↓o_tu_L, ↓o_tu_U, ↓o_int_I, ↓o_int_B, ↓o_tru_B, ↓o_tru_I, ↓o_tru_N, ↓o_tru_L, ↓o_tru_U, ↓o_tru_T, ↓o_wal_L, ↓o_wal_U, ↓o_wal_T, ↓o_rng1, ↓o_rng2, ↓o_zip_L, ↓o_zip_U, ↓o_finL, ↓o_finC, ↓o_all, ↓o_any, ↓o_slT, ↓o_slL, ↓o_slR, ↓o_in_T, y_non, y_bl, y_int, y_str, y_lst, y_tup, ↓atK_0, List.set_cons_zero, List.set_cons_succ, List.length_cons, List.length_nil, isb_list_NoneType, isb_list_bool, isb_list_int, isb_list_str, isb_list_list, isb_list_tuple, isb_list_dict, isb_tuple_NoneType, isb_tuple_bool, isb_tuple_int, isb_tuple_str, isb_tuple_list, isb_tuple_tuple, isb_tuple_dict, isb_int_NoneType, isb_int_bool, isb_int_int, isb_int_str, isb_int_list, isb_int_tuple, isb_int_dict, isb_str_NoneType, isb_str_bool, isb_str_int, isb_str_str, isb_str_list, isb_str_tuple, isb_str_dict, isb_bool_NoneType, isb_bool_bool, isb_bool_int, isb_bool_str, isb_bool_list, isb_bool_tuple, isb_bool_dict, isb_dict_NoneType, isb_dict_bool, isb_dict_int, isb_dict_str, isb_dict_list, isb_dict_tuple, isb_dict_dict, ↓reduceIte, Bool.false_eq_true, Bool.not_true, Bool.not_false, Bool.true_or, Bool.or_true, Bool.false_or, Bool.or_false, Bool.true_and, Bool.and_true, Bool.false_and, Bool.and_false, decide_true, decide_false, eq_self, reduceCtorEq, true_and, and_true, ↓atK_1, ↓atK_2, ↓atK_3, ↓atK_4, ↓atK_5, ↓atK_6, ↓atK_7, ↓atK_8, ↓atK_9, wipeD, r_v0, r_vs, bools_true, all_true]
        exact q
    | tup ds =>
      simp only [LkD, Bool.and_eq_true, decide_eq_true_eq] at hd
      walk_at "mp"
      refine ⟨?_, comp ds _ _ hd.2 ?_⟩
      · rw [zip_self, List.length_map]; exact hd.1
      · try simp only [↓r_ok, ↓r_stuck, ↓r_exc, ↓r_v0, ↓r_vs, ↓r_con, ↓r_op2, ↓r_op1, ↓r_and, ↓r_or, ↓r_not, ↓k_and1, ↓k_or1, ↓k_not1, ↓r_if, ↓r_nil, ↓r_cons, ↓r_tup, ↓r_lst, ↓r_cel, ↓r_no, ↓r_some, ↓k_some, ↓r_sli, ↓r_calB, ↓r_cal, ↓r_mtl, ↓r_sm1, ↓k_sm1, ↓r_frz, ↓r_ch, ↓k_ch, ↓r_tst, ↓r_tcm, ↓k_bool, ↓r_andT, ↓r_orT, ↓r_notT, ↓r_yes, ↓r_its, ↓r_ran, ↓r_lc, ↓r_seq, ↓k_nx, ↓k_rt, ↓k_bk, ↓k_ct, ↓r_skip, ↓r_set, ↓r_ifS, ↓r_ret, ↓r_retN, ↓r_drop, ↓r_brk, ↓r_cnt, ↓r_par2, ↓r_par3, ↓k_par2, ↓k_par3, ↓r_asg, ↓r_nm, ↓r_sub, ↓k_sub, ↓r_tupM, ↓k_tup, ↓r_consM, ↓r_nilM, ↓r_for, ↓o_addI, ↓o_addT, ↓o_addL, ↓o_subI, ↓o_mulI, ↓o_mulL, ↓o_divI, ↓o_modI, ↓o_powI, ↓o_lt, ↓o_le, ↓o_gt, ↓o_ge, ↓o_eqI, ↓o_eqT, ↓o_eqB, ↓o_neI, ↓o_neT, ↓o_neB, ↓o_isN, ↓o_isI, ↓o_isB, ↓o_isT, ↓o_isL, ↓o_isU, ↓o_ty, ↓o_ty2, ↓o_ixL, ↓o_ixU, ↓o_ixT, ↓o_len_T, ↓o_len_L, ↓o_len_U, ↓o_lis_L, ↓o_lis_U, ↓o_lis_LC, ↓o_lis_UC, ↓o_tu_L, ↓o_tu_U, ↓o_int_I, ↓o_int_B, ↓o_tru_B, ↓o_tru_I, ↓o_tru_N, ↓o_tru_L, ↓o_tru_U, ↓o_tru_T, ↓o_wal_L, ↓o_wal_U, ↓o_wal_T, ↓o_rng1, ↓o_rng2, ↓o_zip_L, ↓o_zip_U, ↓o_finL, ↓o_finC, ↓o_all, ↓o_any, ↓o_slT, ↓o_slL, ↓o_slR, ↓o_in_T, y_non, y_bl, y_int, y_str, y_lst, y_tup, ↓atK_0, List.set_cons_zero, List.set_cons_succ, List.length_cons, List.length_nil, isb_list_NoneType, isb_list_bool, isb_list_int, isb_list_str, isb_list_list, isb_list_tuple, isb_list_dict, isb_tuple_NoneType, isb_tuple_bool, isb_tuple_int, isb_tuple_str, isb_tuple_list, isb_tuple_tuple, isb_tuple_dict, isb_int_NoneType, isb_int_bool, isb_int_int, isb_int_str, isb_int_list, isb_int_tuple, isb_int_dict, isb_str_NoneType, isb_str_bool, isb_str_int, isb_str_str, isb_str_list, isb_str_tuple, isb_str_dict, isb_bool_NoneType, isb_bool_bool, isb_bool_int, isb_bool_str, isb_bool_list, isb_bool_tuple, isb_bool_dict, isb_dict_NoneType, isb_dict_bool, isb_dict_int, isb_dict_str, isb_dict_list, isb_dict_tuple, isb_dict_dict, ↓reduceIte, Bool.false_eq_true, Bool.not_true, Bool.not_false, Bool.true_or, Bool.or_true, Bool.false_or, Bool.or_false, Bool.true_and, Bool.and_true, Bool.false_and, Bool.and_false, decide_true, decide_false, eq_self, reduceCtorEq, true_and, and_true, ↓atK_1, ↓atK_2, ↓atK_3, ↓atK_4, ↓atK_5, ↓atK_6, ↓atK_7, ↓atK_8, ↓atK_9, wipeD, r_v0, r_vs, bools_true, all_true]
        exact q
    | non => walk_at "mp"; exact q
    | bl b => walk_at "mp"; exact q
    | int i => walk_at "mp"; exact q
    | str x => walk_at "mp"; exact q
    | _ => simp [LkD] at hd
end
end MP
set_option maxHeartbeats 4000000
/-! PPE: texts; draws; new names. -/
namespace MP
open PySem L2 Evl He
local macro_rules | `(tactic| walk_at "mp") => `(tactic| try simp only [↓r_ok, ↓r_stuck, ↓r_exc, ↓r_v0, ↓r_vs, ↓r_con, ↓r_op2, ↓r_op1, ↓r_and, ↓r_or, ↓r_not, ↓k_and1, ↓k_or1, ↓k_not1, ↓r_if, ↓r_nil, ↓r_cons, ↓r_tup, ↓r_lst, ↓r_cel, ↓r_no, ↓r_some, ↓k_some, ↓r_sli, ↓r_calB, ↓r_cal, ↓r_mtl, ↓r_sm1, ↓k_sm1, ↓r_frz, ↓r_ch, ↓k_ch, ↓r_tst, ↓r_tcm, ↓k_bool, ↓r_andT, ↓r_orT, ↓r_notT, ↓r_yes, ↓r_its, ↓r_ran, ↓r_lc, ↓r_seq, ↓k_nx, ↓k_rt, ↓k_bk, ↓k_ct, ↓r_skip, ↓r_set, ↓r_ifS, ↓r_ret, ↓r_retN, ↓r_drop, ↓r_brk, ↓r_cnt, ↓r_par2, ↓r_par3, ↓k_par2, ↓k_par3, ↓r_asg, ↓r_nm, ↓r_sub, ↓k_sub, ↓r_tupM, ↓k_tup, ↓r_consM, ↓r_nilM, ↓r_for, ↓o_addI, ↓o_addT, ↓o_addL, ↓o_subI, ↓o_mulI, ↓o_mulL, ↓o_divI, ↓o_modI, ↓o_powI, ↓o_lt, ↓o_le, ↓o_gt, ↓o_ge, ↓o_eqI, ↓o_eqT, ↓o_eqB, ↓o_neI, ↓o_neT, ↓o_neB, ↓o_isN, ↓o_isI, ↓o_isB, ↓o_isT, ↓o_isL, ↓o_isU, ↓o_ty, ↓o_ty2, ↓o_ixL, ↓o_ixU, ↓o_ixT, ↓o_len_T, ↓o_len_L, ↓o_len_U, ↓o_lis_L, ↓o_lis_U, ↓o_lis_LC, ↓o_lis_UC, ↓o_tu_L, ↓o_tu_U, ↓o_int_I, ↓o_int_B, ↓o_tru_B, ↓o_tru_I, ↓o_tru_N, ↓o_tru_L, ↓o_tru_U, ↓o_tru_T, ↓o_wal_L, ↓o_wal_U, ↓o_wal_T, ↓o_rng1, ↓o_rng2, ↓o_zip_L, ↓o_zip_U, ↓o_finL, ↓o_finC, ↓o_all, ↓o_any, ↓o_slT, ↓o_slL, ↓o_slR, ↓o_in_T, y_non, y_bl, y_int, y_str, y_lst, y_tup, ↓atK_0, List.set_cons_zero, List.set_cons_succ, List.length_cons, List.length_nil, isb_list_NoneType, isb_list_bool, isb_list_int, isb_list_str, isb_list_list, isb_list_tuple, isb_list_dict, isb_tuple_NoneType, isb_tuple_bool, isb_tuple_int, isb_tuple_str, isb_tuple_list, isb_tuple_tuple, isb_tuple_dict, isb_int_NoneType, isb_int_bool, isb_int_int, isb_int_str, isb_int_list, isb_int_tuple, isb_int_dict, isb_str_NoneType, isb_str_bool, isb_str_int, isb_str_str, isb_str_list, isb_str_tuple, isb_str_dict, isb_bool_NoneType, isb_bool_bool, isb_bool_int, isb_bool_str, isb_bool_list, isb_bool_tuple, isb_bool_dict, isb_dict_NoneType, isb_dict_bool, isb_dict_int, isb_dict_str, isb_dict_list, isb_dict_tuple, isb_dict_dict, ↓reduceIte, Bool.false_eq_true, Bool.not_true, Bool.not_false, Bool.true_or, Bool.or_true, Bool.false_or, Bool.or_false, Bool.true_and, Bool.and_true, Bool.false_and, Bool.and_false, decide_true, decide_false, eq_self, reduceCtorEq, true_and, and_true, ↓atK_1, ↓atK_2, ↓atK_3, ↓atK_4, ↓atK_5, ↓atK_6, ↓atK_7, ↓atK_8, ↓atK_9, wipeD, r_v0, r_vs])
/-! ### texts -/
def ch (x : Str) : List Nat := x.cps.toList
theorem ch_len (x : Str) : x.length = (ch x).length := by
  unfold ch Str.length
  rw [Array.length_toList]
theorem ch_app (x y : Str) : ch (x ++ y) = ch x ++ ch y := by
  show (x.cps ++ y.cps).toList = _
  rw [Array.toList_append]
  rfl
theorem ch_ext {x y : Str} (h : ch x = ch y) : x = y := by
  obtain ⟨a⟩ := x
  obtain ⟨b⟩ := y
  have : a = b := Array.toList_inj.mp h
  rw [this]
theorem ch_cut (x : Str) (lo hi : Option Int) : ch (cutS x lo hi) = ((ch x).drop (HT.sIx (ch x).length 0 lo)).take (HT.sIx (ch x).length (ch x).length hi - HT.sIx (ch x).length 0 lo) := by
  unfold cutS
  rw [ch_len]
  rfl
theorem sIx_pos {n d : Nat} {v : Int} (h : 0 ≤ v) : HT.sIx n d (some v) = min v.toNat n := by
  show (if v < 0 then (v + (n : Int)).toNat else min v.toNat n) = _
  rw [if_neg (by omega)]
theorem ch_take {x : Str} {a : Int} (h : 0 ≤ a) : ch (cutS x none (some a)) = (ch x).take a.toNat := by
  rw [ch_cut, sIx_pos h, HT.sIx_none, List.drop_zero, Nat.sub_zero]
  by_cases q : a.toNat ≤ (ch x).length
  · rw [Nat.min_eq_left q]
  · rw [Nat.min_eq_right (by omega), List.take_of_length_le (Nat.le_refl _), List.take_of_length_le (by omega)]
theorem ch_drop {x : Str} {a : Int} (h : 0 ≤ a) : ch (cutS x (some a) none) = (ch x).drop a.toNat := by
  rw [ch_cut, sIx_pos h, HT.sIx_none]
  by_cases q : a.toNat ≤ (ch x).length
  · rw [Nat.min_eq_left q, List.take_of_length_le (by rw [List.length_drop]; omega)]
  · rw [Nat.min_eq_right (by omega), List.drop_of_length_le (Nat.le_refl _), List.drop_of_length_le (by omega)]
    simp
theorem ch_sign (k : Nat) : ch ⟨#[k]⟩ = [k] := rfl
theorem ch_fold (g : Str) : ∀ (ps : List Str) (a : Array Nat), (ps.foldl (fun acc p => acc ++ g.cps ++ p.cps) a).toList = a.toList ++ (ps.map fun p => ch g ++ ch p).flatten
  | [], a => by simp
  | p :: ps, a => by
    rw [List.foldl_cons, ch_fold g ps]
    simp [ch]
theorem ch_join (g x : Str) (ps : List Str) : ch (Txt.join g (x :: ps)) = ch x ++ (ps.map fun p => ch g ++ ch p).flatten := by
  show (ps.foldl (fun acc p => acc ++ g.cps ++ p.cps) x.cps).toList = _
  rw [ch_fold]
  rfl
theorem ch_join0 (xs : List Str) : ch (Txt.join (Str.ofString "") xs) = (xs.map ch).flatten := by
  cases xs with
  | nil => decide +kernel
  | cons x ps =>
    rw [ch_join, show ch (Str.ofString "") = [] from by decide +kernel]
    simp
/-! ### draws -/
def N_draws : List Str := ["_law_script", "_law_seed", "_law_cell"]
def L_draws : Ss := (seqS (setS 1 (conS (.int 10013)))
 (seqS (forS (itS (sliS (varS 0) noO (someO (conS (.int 63))))) (nameB 2) (setS 1 (op2 modS (calB intS (consA (op2 addS (op2 addS (op2 mulS (varS 1) (conS (.int 45083))) (op2 modS (calB intS (consA (varS 2) nilA)) (conS (.int 2147483399)))) (conS (.int 57))) nilA)) (conS (.int 2147483563)))))
 (retS (celS (consA (calB (lisS false) (consA (sliS (varS 0) noO (someO (conS (.int 63)))) nilA)) (consA (conS (.int 0)) (consA (conS (.int 0)) (consA (varS 1) (consA (conS (.int 0)) nilA)))))))))
theorem cut_map (ns : List Int) (lo hi : Option Int) : ∃ cs : List Int, cutD (ns.map D.int) lo hi = cs.map D.int ∧ cs.length ≤ ns.length := by
  refine ⟨(ns.drop (HT.sIx ns.length 0 lo)).take (HT.sIx ns.length ns.length hi - HT.sIx ns.length 0 lo), ?_, ?_⟩
  · unfold cutD
    rw [List.length_map, List.map_take, List.map_drop]
  · rw [List.length_take, List.length_drop]
    omega
theorem draws_sp {defs : List MP.Def} {k i : Nat} {ns : List Int} {M : MS} {p : D → MS → Prop} (h : defs[i]? = some ⟨N_draws, L_draws⟩) (q : ∀ M' : MS, Bag M' M.length → (∃ c, M' = M ++ [c]) → p (.cell M.length) M') : Run (callP defs (k + 1) i [.scr ns] M) p := by
  refine r_call h ?_
  show Run (L_draws (callP defs k) [some (.scr ns), none, none] M) _
  unfold L_draws
  obtain ⟨cs, hcs, hl⟩ := cut_map ns none (some 63)
  refine run_seq fun P hP hR => ?_
  walk_at "mp"
  refine hP _ _ ?_
  refine run_seq fun P hP hR => ?_
  try simp only [↓r_ok, ↓r_stuck, ↓r_exc, ↓r_v0, ↓r_vs, ↓r_con, ↓r_op2, ↓r_op1, ↓r_and, ↓r_or, ↓r_not, ↓k_and1, ↓k_or1, ↓k_not1, ↓r_if, ↓r_nil, ↓r_cons, ↓r_tup, ↓r_lst, ↓r_cel, ↓r_no, ↓r_some, ↓k_some, ↓r_sli, ↓r_calB, ↓r_cal, ↓r_mtl, ↓r_sm1, ↓k_sm1, ↓r_frz, ↓r_ch, ↓k_ch, ↓r_tst, ↓r_tcm, ↓k_bool, ↓r_andT, ↓r_orT, ↓r_notT, ↓r_yes, ↓r_its, ↓r_ran, ↓r_lc, ↓r_seq, ↓k_nx, ↓k_rt, ↓k_bk, ↓k_ct, ↓r_skip, ↓r_set, ↓r_ifS, ↓r_ret, ↓r_retN, ↓r_drop, ↓r_brk, ↓r_cnt, ↓r_par2, ↓r_par3, ↓k_par2, ↓k_par3, ↓r_asg, ↓r_nm, ↓r_sub, ↓k_sub, ↓r_tupM, ↓k_tup, ↓r_consM, ↓r_nilM, ↓r_for, ↓o_addI, ↓o_addT, ↓o_addL, ↓o_subI, ↓o_mulI, ↓o_mulL, ↓o_divI, ↓o_modI, ↓o_powI, ↓o_lt, ↓o_le, ↓o_gt, ↓o_ge, ↓o_eqI, ↓o_eqT, ↓o_eqB, ↓o_neI, ↓o_neT, ↓o_neB, ↓o_isN, ↓o_isI, ↓o_isB, ↓o_isT, ↓o_isL, ↓o_isU, ↓o_ty, ↓o_ty2, ↓o_ixL, ↓o_ixU, ↓o_ixT, ↓o_len_T, ↓o_len_L, ↓o_len_U, ↓o_lis_L, ↓o_lis_U, ↓o_lis_LC, ↓o_lis_UC, ↓o_tu_L, ↓o_tu_U, ↓o_int_I, ↓o_int_B, ↓o_tru_B, ↓o_tru_I, ↓o_tru_N, ↓o_tru_L, ↓o_tru_U, ↓o_tru_T, ↓o_wal_L, ↓o_wal_U, ↓o_wal_T, ↓o_rng1, ↓o_rng2, ↓o_zip_L, ↓o_zip_U, ↓o_finL, ↓o_finC, ↓o_all, ↓o_any, ↓o_slT, ↓o_slL, ↓o_slR, ↓o_in_T, y_non, y_bl, y_int, y_str, y_lst, y_tup, ↓atK_0, List.set_cons_zero, List.set_cons_succ, List.length_cons, List.length_nil, isb_list_NoneType, isb_list_bool, isb_list_int, isb_list_str, isb_list_list, isb_list_tuple, isb_list_dict, isb_tuple_NoneType, isb_tuple_bool, isb_tuple_int, isb_tuple_str, isb_tuple_list, isb_tuple_tuple, isb_tuple_dict, isb_int_NoneType, isb_int_bool, isb_int_int, isb_int_str, isb_int_list, isb_int_tuple, isb_int_dict, isb_str_NoneType, isb_str_bool, isb_str_int, isb_str_str, isb_str_list, isb_str_tuple, isb_str_dict, isb_bool_NoneType, isb_bool_bool, isb_bool_int, isb_bool_str, isb_bool_list, isb_bool_tuple, isb_bool_dict, isb_dict_NoneType, isb_dict_bool, isb_dict_int, isb_dict_str, isb_dict_list, isb_dict_tuple, isb_dict_dict, ↓reduceIte, Bool.false_eq_true, Bool.not_true, Bool.not_false, Bool.true_or, Bool.or_true, Bool.false_or, Bool.or_false, Bool.true_and, Bool.and_true, Bool.false_and, Bool.and_false, decide_true, decide_false, eq_self, reduceCtorEq, true_and, and_true, ↓atK_1, ↓atK_2, ↓atK_3, ↓atK_4, ↓atK_5, ↓atK_6, ↓atK_7, ↓atK_8, ↓atK_9, wipeD, r_v0, r_vs, hcs]
  refine loop_inv (fun xs ds M1 => M1 = M ∧ (∃ o s, ds = [some (.scr ns), some (.int s), o] ∧ 0 ≤ s ∧ s < 2147483563) ∧ ∃ zs : List Int, xs = zs.map D.int) ?_ ?_ _ _ _ ⟨rfl, ⟨none, _, rfl, by decide, by decide⟩, cs, rfl⟩
  · rintro x xs ds M1 ⟨rfl, ⟨o, s, rfl, hs, hs2⟩, zs, hz⟩
    cases zs with
    | nil => cases hz
    | cons z zs =>
      cases hz
      refine ⟨_, rfl, ?_⟩
      show Run (setS 1 _ _ [some (.scr ns), some (.int s), some (.int z)] _) _
      walk_at "mp"
      refine ⟨.inr ⟨by decide, by decide⟩, by decide, by decide, ⟨_, _, rfl, Int.emod_nonneg _ (by decide), Int.emod_lt_of_pos _ (by decide)⟩, zs, rfl⟩
  · rintro ds M1 ⟨rfl, ⟨o, s, rfl, hs, hs2⟩, _⟩
    refine hP _ _ ?_
    try simp only [↓r_ok, ↓r_stuck, ↓r_exc, ↓r_v0, ↓r_vs, ↓r_con, ↓r_op2, ↓r_op1, ↓r_and, ↓r_or, ↓r_not, ↓k_and1, ↓k_or1, ↓k_not1, ↓r_if, ↓r_nil, ↓r_cons, ↓r_tup, ↓r_lst, ↓r_cel, ↓r_no, ↓r_some, ↓k_some, ↓r_sli, ↓r_calB, ↓r_cal, ↓r_mtl, ↓r_sm1, ↓k_sm1, ↓r_frz, ↓r_ch, ↓k_ch, ↓r_tst, ↓r_tcm, ↓k_bool, ↓r_andT, ↓r_orT, ↓r_notT, ↓r_yes, ↓r_its, ↓r_ran, ↓r_lc, ↓r_seq, ↓k_nx, ↓k_rt, ↓k_bk, ↓k_ct, ↓r_skip, ↓r_set, ↓r_ifS, ↓r_ret, ↓r_retN, ↓r_drop, ↓r_brk, ↓r_cnt, ↓r_par2, ↓r_par3, ↓k_par2, ↓k_par3, ↓r_asg, ↓r_nm, ↓r_sub, ↓k_sub, ↓r_tupM, ↓k_tup, ↓r_consM, ↓r_nilM, ↓r_for, ↓o_addI, ↓o_addT, ↓o_addL, ↓o_subI, ↓o_mulI, ↓o_mulL, ↓o_divI, ↓o_modI, ↓o_powI, ↓o_lt, ↓o_le, ↓o_gt, ↓o_ge, ↓o_eqI, ↓o_eqT, ↓o_eqB, ↓o_neI, ↓o_neT, ↓o_neB, ↓o_isN, ↓o_isI, ↓o_isB, ↓o_isT, ↓o_isL, ↓o_isU, ↓o_ty, ↓o_ty2, ↓o_ixL, ↓o_ixU, ↓o_ixT, ↓o_len_T, ↓o_len_L, ↓o_len_U, ↓o_lis_L, ↓o_lis_U, ↓o_lis_LC, ↓o_lis_UC, ↓o_tu_L, ↓o_tu_U, ↓o_int_I, ↓o_int_B, ↓o_tru_B, ↓o_tru_I, ↓o_tru_N, ↓o_tru_L, ↓o_tru_U, ↓o_tru_T, ↓o_wal_L, ↓o_wal_U, ↓o_wal_T, ↓o_rng1, ↓o_rng2, ↓o_zip_L, ↓o_zip_U, ↓o_finL, ↓o_finC, ↓o_all, ↓o_any, ↓o_slT, ↓o_slL, ↓o_slR, ↓o_in_T, y_non, y_bl, y_int, y_str, y_lst, y_tup, ↓atK_0, List.set_cons_zero, List.set_cons_succ, List.length_cons, List.length_nil, isb_list_NoneType, isb_list_bool, isb_list_int, isb_list_str, isb_list_list, isb_list_tuple, isb_list_dict, isb_tuple_NoneType, isb_tuple_bool, isb_tuple_int, isb_tuple_str, isb_tuple_list, isb_tuple_tuple, isb_tuple_dict, isb_int_NoneType, isb_int_bool, isb_int_int, isb_int_str, isb_int_list, isb_int_tuple, isb_int_dict, isb_str_NoneType, isb_str_bool, isb_str_int, isb_str_str, isb_str_list, isb_str_tuple, isb_str_dict, isb_bool_NoneType, isb_bool_bool, isb_bool_int, isb_bool_str, isb_bool_list, isb_bool_tuple, isb_bool_dict, isb_dict_NoneType, isb_dict_bool, isb_dict_int, isb_dict_str, isb_dict_list, isb_dict_tuple, isb_dict_dict, ↓reduceIte, Bool.false_eq_true, Bool.not_true, Bool.not_false, Bool.true_or, Bool.or_true, Bool.false_or, Bool.or_false, Bool.true_and, Bool.and_true, Bool.false_and, Bool.and_false, decide_true, decide_false, eq_self, reduceCtorEq, true_and, and_true, ↓atK_1, ↓atK_2, ↓atK_3, ↓atK_4, ↓atK_5, ↓atK_6, ↓atK_7, ↓atK_8, ↓atK_9, wipeD, r_v0, r_vs, hcs]
    refine ⟨by decide, q _ ⟨⟨cs, 0, 0, s, 0, ?_, by decide, by decide, hs, hs2⟩⟩ ⟨_, rfl⟩⟩
    rw [List.getElem?_append_right (Nat.le_refl _), Nat.sub_self]
    rfl
/-! ### new names -/
def N_new_names : List Str := ["_law_bag", "_law_many", "_law_abc", "_law_stem", "_law_k", "_law_at", "_law_first"]
def L_new_names (ip ia : Nat) : Ss := (seqS (setS 2 (conS (.str "abcdefghijklmnopqrstuvwxyz")))
 (seqS (setS 3 (sm1S joiS (conS (.str "")) (lcS [4] finL (ranS rng1 (consA (calS ip 2 0 (selD [0, 1] []) (consA (varS 0) (consA (conS (.int 8)) nilA)) nilA) nilA)) (nameB 4) yesT (calS ia 2 0 (selD [0, 1] []) (consA (varS 0) (consA (varS 2) nilA)) nilA))))
 (seqS (asgM (tupS (consA (calS ip 2 0 (selD [0, 1] []) (consA (varS 0) (consA (op2 addS (calB lenS (consA (varS 3) nilA)) (conS (.int 1))) nilA)) nilA) (consA (calS ip 2 0 (selD [0, 1] []) (consA (varS 0) (consA (conS (.int 26)) nilA)) nilA) nilA))) (tupM 2 (consM (nameM 5) (consM (nameM 6) nilM))))
 (retS (lcS [4] finL (ranS rng1 (consA (varS 1) nilA)) (nameB 4) yesT (op2 addS (op2 addS (sliS (varS 3) noO (someO (varS 5))) (op2 ixS (varS 2) (op2 subS (op2 addS (varS 6) (varS 4)) (conS (.int 26))))) (sliS (varS 3) (someO (varS 5)) noO)))))))
abbrev abc : Str := "abcdefghijklmnopqrstuvwxyz"
theorem ch_abc : ch abc = (List.range 26).map (97 + ·) := by decide +kernel
def IsName (x : Str) : Prop := 1 ≤ (ch x).length ∧ (ch x).length ≤ 8 ∧ ∀ c ∈ ch x, 97 ≤ c ∧ c ≤ 122
theorem strL_map {α : Type} (f : α → Str) : ∀ cs : List α, strL (cs.map fun c => .str (f c)) = some (cs.map f)
  | [] => rfl
  | c :: cs => by
    show (strL (cs.map fun c => D.str (f c))).map (f c :: ·) = _
    rw [strL_map f cs]
    rfl
theorem rng_len {lo : Int} {n : Nat} : (rngD lo n).length = n := by unfold rngD; rw [List.length_map, List.length_range]
theorem rng_mem {lo : Int} {n : Nat} {d : D} (h : d ∈ rngD lo n) : ∃ i : Nat, i < n ∧ d = .int (lo + i) := by
  unfold rngD at h
  obtain ⟨i, hi, rfl⟩ := List.mem_map.mp h
  exact ⟨i, List.mem_range.mp hi, rfl⟩
theorem flat_single : ∀ cs : List Nat, (cs.map fun c => [c]).flatten = cs
  | [] => rfl
  | c :: cs => by rw [List.map_cons, List.flatten_cons, flat_single cs]; rfl
/-- the letter that stands in the k-th new name -/
def letK (first : Nat) (k : Nat) : Nat := 97 + (first + k) % 26
def newName (st : List Nat) (at_ : Nat) (first k : Nat) : Str := ⟨(st.take at_ ++ [letK first k] ++ st.drop at_).toArray⟩
theorem ch_newName {st : List Nat} {a f k : Nat} : ch (newName st a f k) = st.take a ++ [letK f k] ++ st.drop a := by
  unfold newName ch
  rw [List.toList_toArray]
theorem newName_is {st : List Nat} {a f k : Nat} (h : ∀ c ∈ st, 97 ≤ c ∧ c ≤ 122) (hl : st.length ≤ 7) : IsName (newName st a f k) := by
  unfold IsName
  rw [ch_newName]
  refine ⟨by simp; omega, ?_, fun c hc => ?_⟩
  · simp
    omega
  · rcases List.mem_append.mp hc with q | q
    · rcases List.mem_append.mp q with q | q
      · exact h c (List.mem_of_mem_take q)
      · rw [List.mem_singleton] at q
        rw [q]
        unfold letK
        have := Nat.mod_lt (f + k) (by decide : 0 < 26)
        omega
    · exact h c (List.mem_of_mem_drop q)
theorem newName_inj {st : List Nat} {a f k j : Nat} (hk : k < 26) (hj : j < 26) (h : newName st a f k = newName st a f j) : k = j := by
  have h2 : ch (newName st a f k) = ch (newName st a f j) := by rw [h]
  rw [ch_newName, ch_newName, List.append_assoc, List.append_assoc] at h2
  have h3 := List.append_cancel_left h2
  rw [List.cons_append, List.cons_append] at h3
  have h4 := (List.cons.inj h3).1
  unfold letK at h4
  omega
def newNames (st : List Nat) (a f m : Nat) : List Str := (List.range m).map (newName st a f)
theorem newNames_nodup {st : List Nat} {a f m : Nat} (hm : m ≤ 26) : (newNames st a f m).Nodup := by
  unfold newNames
  refine List.Pairwise.map (R := fun i j => i ≠ j ∧ i < 26 ∧ j < 26) _ (fun i j h q => h.1 (newName_inj h.2.1 h.2.2 q)) ?_
  refine List.Pairwise.imp_of_mem (R := fun i j => i ≠ j) (fun {i j} hi hj h => ⟨h, ?_, ?_⟩) List.nodup_range
  · have := List.mem_range.mp hi; omega
  · have := List.mem_range.mp hj; omega
theorem new_names_sp {defs : List MP.Def} {k i ip ia n : Nat} {m : Nat} {M : MS} {p : D → MS → Prop} (h : defs[i]? = some ⟨N_new_names, L_new_names ip ia⟩) (hp : defs[ip]? = some ⟨N_pull, L_pull⟩) (ha : defs[ia]? = some ⟨N_any, L_any ip⟩) (hB : Bag M n) (hm : m ≤ 26)
    (q : ∀ (xs : List Str) (M' : MS), xs.length = m → xs.Nodup → (∀ x ∈ xs, IsName x) → Bag M' n → Only M M' n → p (.lst (xs.map D.str)) M') : Run (callP defs (k + 3) i [.cell n, .int m] M) p := by
  refine r_call h ?_
  show Run (L_new_names ip ia (callP defs (k + 2)) [some (.cell n), some (.int m), none, none, none, none, none] M) _
  unfold L_new_names
  refine run_seq fun P hP hR => ?_
  walk_at "mp"
  refine hP _ _ ?_
  refine run_seq fun P hP hR => ?_
  try simp only [↓r_ok, ↓r_stuck, ↓r_exc, ↓r_v0, ↓r_vs, ↓r_con, ↓r_op2, ↓r_op1, ↓r_and, ↓r_or, ↓r_not, ↓k_and1, ↓k_or1, ↓k_not1, ↓r_if, ↓r_nil, ↓r_cons, ↓r_tup, ↓r_lst, ↓r_cel, ↓r_no, ↓r_some, ↓k_some, ↓r_sli, ↓r_calB, ↓r_cal, ↓r_mtl, ↓r_sm1, ↓k_sm1, ↓r_frz, ↓r_ch, ↓k_ch, ↓r_tst, ↓r_tcm, ↓k_bool, ↓r_andT, ↓r_orT, ↓r_notT, ↓r_yes, ↓r_its, ↓r_ran, ↓r_lc, ↓r_seq, ↓k_nx, ↓k_rt, ↓k_bk, ↓k_ct, ↓r_skip, ↓r_set, ↓r_ifS, ↓r_ret, ↓r_retN, ↓r_drop, ↓r_brk, ↓r_cnt, ↓r_par2, ↓r_par3, ↓k_par2, ↓k_par3, ↓r_asg, ↓r_nm, ↓r_sub, ↓k_sub, ↓r_tupM, ↓k_tup, ↓r_consM, ↓r_nilM, ↓r_for, ↓o_addI, ↓o_addT, ↓o_addL, ↓o_subI, ↓o_mulI, ↓o_mulL, ↓o_divI, ↓o_modI, ↓o_powI, ↓o_lt, ↓o_le, ↓o_gt, ↓o_ge, ↓o_eqI, ↓o_eqT, ↓o_eqB, ↓o_neI, ↓o_neT, ↓o_neB, ↓o_isN, ↓o_isI, ↓o_isB, ↓o_isT, ↓o_isL, ↓o_isU, ↓o_ty, ↓o_ty2, ↓o_ixL, ↓o_ixU, ↓o_ixT, ↓o_len_T, ↓o_len_L, ↓o_len_U, ↓o_lis_L, ↓o_lis_U, ↓o_lis_LC, ↓o_lis_UC, ↓o_tu_L, ↓o_tu_U, ↓o_int_I, ↓o_int_B, ↓o_tru_B, ↓o_tru_I, ↓o_tru_N, ↓o_tru_L, ↓o_tru_U, ↓o_tru_T, ↓o_wal_L, ↓o_wal_U, ↓o_wal_T, ↓o_rng1, ↓o_rng2, ↓o_zip_L, ↓o_zip_U, ↓o_finL, ↓o_finC, ↓o_all, ↓o_any, ↓o_slT, ↓o_slL, ↓o_slR, ↓o_in_T, y_non, y_bl, y_int, y_str, y_lst, y_tup, ↓atK_0, List.set_cons_zero, List.set_cons_succ, List.length_cons, List.length_nil, isb_list_NoneType, isb_list_bool, isb_list_int, isb_list_str, isb_list_list, isb_list_tuple, isb_list_dict, isb_tuple_NoneType, isb_tuple_bool, isb_tuple_int, isb_tuple_str, isb_tuple_list, isb_tuple_tuple, isb_tuple_dict, isb_int_NoneType, isb_int_bool, isb_int_int, isb_int_str, isb_int_list, isb_int_tuple, isb_int_dict, isb_str_NoneType, isb_str_bool, isb_str_int, isb_str_str, isb_str_list, isb_str_tuple, isb_str_dict, isb_bool_NoneType, isb_bool_bool, isb_bool_int, isb_bool_str, isb_bool_list, isb_bool_tuple, isb_bool_dict, isb_dict_NoneType, isb_dict_bool, isb_dict_int, isb_dict_str, isb_dict_list, isb_dict_tuple, isb_dict_dict, ↓reduceIte, Bool.false_eq_true, Bool.not_true, Bool.not_false, Bool.true_or, Bool.or_true, Bool.false_or, Bool.or_false, Bool.true_and, Bool.and_true, Bool.false_and, Bool.and_false, decide_true, decide_false, eq_self, reduceCtorEq, true_and, and_true, ↓atK_1, ↓atK_2, ↓atK_3, ↓atK_4, ↓atK_5, ↓atK_6, ↓atK_7, ↓atK_8, ↓atK_9, wipeD, r_v0, r_vs, ↓sel2]
  refine pull_sp hp hB (by decide) (by decide) fun r M1 r0 r8 hB1 hO1 => ?_
  try simp only [↓r_ok, ↓r_stuck, ↓r_exc, ↓r_v0, ↓r_vs, ↓r_con, ↓r_op2, ↓r_op1, ↓r_and, ↓r_or, ↓r_not, ↓k_and1, ↓k_or1, ↓k_not1, ↓r_if, ↓r_nil, ↓r_cons, ↓r_tup, ↓r_lst, ↓r_cel, ↓r_no, ↓r_some, ↓k_some, ↓r_sli, ↓r_calB, ↓r_cal, ↓r_mtl, ↓r_sm1, ↓k_sm1, ↓r_frz, ↓r_ch, ↓k_ch, ↓r_tst, ↓r_tcm, ↓k_bool, ↓r_andT, ↓r_orT, ↓r_notT, ↓r_yes, ↓r_its, ↓r_ran, ↓r_lc, ↓r_seq, ↓k_nx, ↓k_rt, ↓k_bk, ↓k_ct, ↓r_skip, ↓r_set, ↓r_ifS, ↓r_ret, ↓r_retN, ↓r_drop, ↓r_brk, ↓r_cnt, ↓r_par2, ↓r_par3, ↓k_par2, ↓k_par3, ↓r_asg, ↓r_nm, ↓r_sub, ↓k_sub, ↓r_tupM, ↓k_tup, ↓r_consM, ↓r_nilM, ↓r_for, ↓o_addI, ↓o_addT, ↓o_addL, ↓o_subI, ↓o_mulI, ↓o_mulL, ↓o_divI, ↓o_modI, ↓o_powI, ↓o_lt, ↓o_le, ↓o_gt, ↓o_ge, ↓o_eqI, ↓o_eqT, ↓o_eqB, ↓o_neI, ↓o_neT, ↓o_neB, ↓o_isN, ↓o_isI, ↓o_isB, ↓o_isT, ↓o_isL, ↓o_isU, ↓o_ty, ↓o_ty2, ↓o_ixL, ↓o_ixU, ↓o_ixT, ↓o_len_T, ↓o_len_L, ↓o_len_U, ↓o_lis_L, ↓o_lis_U, ↓o_lis_LC, ↓o_lis_UC, ↓o_tu_L, ↓o_tu_U, ↓o_int_I, ↓o_int_B, ↓o_tru_B, ↓o_tru_I, ↓o_tru_N, ↓o_tru_L, ↓o_tru_U, ↓o_tru_T, ↓o_wal_L, ↓o_wal_U, ↓o_wal_T, ↓o_rng1, ↓o_rng2, ↓o_zip_L, ↓o_zip_U, ↓o_finL, ↓o_finC, ↓o_all, ↓o_any, ↓o_slT, ↓o_slL, ↓o_slR, ↓o_in_T, y_non, y_bl, y_int, y_str, y_lst, y_tup, ↓atK_0, List.set_cons_zero, List.set_cons_succ, List.length_cons, List.length_nil, isb_list_NoneType, isb_list_bool, isb_list_int, isb_list_str, isb_list_list, isb_list_tuple, isb_list_dict, isb_tuple_NoneType, isb_tuple_bool, isb_tuple_int, isb_tuple_str, isb_tuple_list, isb_tuple_tuple, isb_tuple_dict, isb_int_NoneType, isb_int_bool, isb_int_int, isb_int_str, isb_int_list, isb_int_tuple, isb_int_dict, isb_str_NoneType, isb_str_bool, isb_str_int, isb_str_str, isb_str_list, isb_str_tuple, isb_str_dict, isb_bool_NoneType, isb_bool_bool, isb_bool_int, isb_bool_str, isb_bool_list, isb_bool_tuple, isb_bool_dict, isb_dict_NoneType, isb_dict_bool, isb_dict_int, isb_dict_str, isb_dict_list, isb_dict_tuple, isb_dict_dict, ↓reduceIte, Bool.false_eq_true, Bool.not_true, Bool.not_false, Bool.true_or, Bool.or_true, Bool.false_or, Bool.or_false, Bool.true_and, Bool.and_true, Bool.false_and, Bool.and_false, decide_true, decide_false, eq_self, reduceCtorEq, true_and, and_true, ↓atK_1, ↓atK_2, ↓atK_3, ↓atK_4, ↓atK_5, ↓atK_6, ↓atK_7, ↓atK_8, ↓atK_9, wipeD, r_v0, r_vs, ↓rng_len]
  refine ⟨⟨by omega, by omega⟩, by unfold big; omega, ?_⟩
  refine (comp_inv (pa := fun ys M3 => Bag M3 n ∧ Only M M3 n ∧ ∃ cs : List Nat, ys = cs.map (fun c => .str ⟨#[c]⟩) ∧ (∀ c ∈ cs, c ∈ ch abc) ∧ cs.length = r.toNat) (fun xs acc M3 => Bag M3 n ∧ Only M M3 n ∧ ∃ cs : List Nat, acc = cs.map (fun c => .str ⟨#[c]⟩) ∧ (∀ c ∈ cs, c ∈ ch abc) ∧ cs.length + xs.length = r.toNat) ?_ ?_ _ [] M1 ⟨hB1, hO1, [], rfl, by simp, by rw [rng_len]; simp⟩).imp ?_
  · rintro x xs acc M3 ⟨hB3, hO3, cs, rfl, hcs, hl⟩
    refine ⟨[some (.cell n), some (.int m), some (.str abc), none, some x, none, none], rfl, ?_⟩
    try simp only [↓r_ok, ↓r_stuck, ↓r_exc, ↓r_v0, ↓r_vs, ↓r_con, ↓r_op2, ↓r_op1, ↓r_and, ↓r_or, ↓r_not, ↓k_and1, ↓k_or1, ↓k_not1, ↓r_if, ↓r_nil, ↓r_cons, ↓r_tup, ↓r_lst, ↓r_cel, ↓r_no, ↓r_some, ↓k_some, ↓r_sli, ↓r_calB, ↓r_cal, ↓r_mtl, ↓r_sm1, ↓k_sm1, ↓r_frz, ↓r_ch, ↓k_ch, ↓r_tst, ↓r_tcm, ↓k_bool, ↓r_andT, ↓r_orT, ↓r_notT, ↓r_yes, ↓r_its, ↓r_ran, ↓r_lc, ↓r_seq, ↓k_nx, ↓k_rt, ↓k_bk, ↓k_ct, ↓r_skip, ↓r_set, ↓r_ifS, ↓r_ret, ↓r_retN, ↓r_drop, ↓r_brk, ↓r_cnt, ↓r_par2, ↓r_par3, ↓k_par2, ↓k_par3, ↓r_asg, ↓r_nm, ↓r_sub, ↓k_sub, ↓r_tupM, ↓k_tup, ↓r_consM, ↓r_nilM, ↓r_for, ↓o_addI, ↓o_addT, ↓o_addL, ↓o_subI, ↓o_mulI, ↓o_mulL, ↓o_divI, ↓o_modI, ↓o_powI, ↓o_lt, ↓o_le, ↓o_gt, ↓o_ge, ↓o_eqI, ↓o_eqT, ↓o_eqB, ↓o_neI, ↓o_neT, ↓o_neB, ↓o_isN, ↓o_isI, ↓o_isB, ↓o_isT, ↓o_isL, ↓o_isU, ↓o_ty, ↓o_ty2, ↓o_ixL, ↓o_ixU, ↓o_ixT, ↓o_len_T, ↓o_len_L, ↓o_len_U, ↓o_lis_L, ↓o_lis_U, ↓o_lis_LC, ↓o_lis_UC, ↓o_tu_L, ↓o_tu_U, ↓o_int_I, ↓o_int_B, ↓o_tru_B, ↓o_tru_I, ↓o_tru_N, ↓o_tru_L, ↓o_tru_U, ↓o_tru_T, ↓o_wal_L, ↓o_wal_U, ↓o_wal_T, ↓o_rng1, ↓o_rng2, ↓o_zip_L, ↓o_zip_U, ↓o_finL, ↓o_finC, ↓o_all, ↓o_any, ↓o_slT, ↓o_slL, ↓o_slR, ↓o_in_T, y_non, y_bl, y_int, y_str, y_lst, y_tup, ↓atK_0, List.set_cons_zero, List.set_cons_succ, List.length_cons, List.length_nil, isb_list_NoneType, isb_list_bool, isb_list_int, isb_list_str, isb_list_list, isb_list_tuple, isb_list_dict, isb_tuple_NoneType, isb_tuple_bool, isb_tuple_int, isb_tuple_str, isb_tuple_list, isb_tuple_tuple, isb_tuple_dict, isb_int_NoneType, isb_int_bool, isb_int_int, isb_int_str, isb_int_list, isb_int_tuple, isb_int_dict, isb_str_NoneType, isb_str_bool, isb_str_int, isb_str_str, isb_str_list, isb_str_tuple, isb_str_dict, isb_bool_NoneType, isb_bool_bool, isb_bool_int, isb_bool_str, isb_bool_list, isb_bool_tuple, isb_bool_dict, isb_dict_NoneType, isb_dict_bool, isb_dict_int, isb_dict_str, isb_dict_list, isb_dict_tuple, isb_dict_dict, ↓reduceIte, Bool.false_eq_true, Bool.not_true, Bool.not_false, Bool.true_or, Bool.or_true, Bool.false_or, Bool.or_false, Bool.true_and, Bool.and_true, Bool.false_and, Bool.and_false, decide_true, decide_false, eq_self, reduceCtorEq, true_and, and_true, ↓atK_1, ↓atK_2, ↓atK_3, ↓atK_4, ↓atK_5, ↓atK_6, ↓atK_7, ↓atK_8, ↓atK_9, wipeD, r_v0, r_vs, ↓sel2]
    refine any_T hp ha hB3 (by decide +kernel) (by decide +kernel) (by decide +kernel) fun c M4 hc hB4 hO4 => ⟨hB4, hO3.trans hO4, cs ++ [c], by simp, ?_, ?_⟩
    · intro c' hc'
      rcases List.mem_append.mp hc' with q | q
      · exact hcs c' q
      · rw [List.mem_singleton] at q
        rw [q]
        exact hc
    · simp at hl ⊢
      omega
  · rintro acc M3 ⟨hB3, hO3, cs, rfl, hcs, hl⟩
    exact ⟨hB3, hO3, cs, rfl, hcs, by simpa using hl⟩
  rintro ys M3 ⟨hB3, hO3, cs, hy, hcs, hl⟩
  rw [List.nil_append] at hy
  subst hy
  have hj : strL (cs.map fun c => D.str ⟨#[c]⟩) = some (cs.map fun c => ⟨#[c]⟩) := strL_map _ cs
  try simp only [↓r_ok, ↓r_stuck, ↓r_exc, ↓r_v0, ↓r_vs, ↓r_con, ↓r_op2, ↓r_op1, ↓r_and, ↓r_or, ↓r_not, ↓k_and1, ↓k_or1, ↓k_not1, ↓r_if, ↓r_nil, ↓r_cons, ↓r_tup, ↓r_lst, ↓r_cel, ↓r_no, ↓r_some, ↓k_some, ↓r_sli, ↓r_calB, ↓r_cal, ↓r_mtl, ↓r_sm1, ↓k_sm1, ↓r_frz, ↓r_ch, ↓k_ch, ↓r_tst, ↓r_tcm, ↓k_bool, ↓r_andT, ↓r_orT, ↓r_notT, ↓r_yes, ↓r_its, ↓r_ran, ↓r_lc, ↓r_seq, ↓k_nx, ↓k_rt, ↓k_bk, ↓k_ct, ↓r_skip, ↓r_set, ↓r_ifS, ↓r_ret, ↓r_retN, ↓r_drop, ↓r_brk, ↓r_cnt, ↓r_par2, ↓r_par3, ↓k_par2, ↓k_par3, ↓r_asg, ↓r_nm, ↓r_sub, ↓k_sub, ↓r_tupM, ↓k_tup, ↓r_consM, ↓r_nilM, ↓r_for, ↓o_addI, ↓o_addT, ↓o_addL, ↓o_subI, ↓o_mulI, ↓o_mulL, ↓o_divI, ↓o_modI, ↓o_powI, ↓o_lt, ↓o_le, ↓o_gt, ↓o_ge, ↓o_eqI, ↓o_eqT, ↓o_eqB, ↓o_neI, ↓o_neT, ↓o_neB, ↓o_isN, ↓o_isI, ↓o_isB, ↓o_isT, ↓o_isL, ↓o_isU, ↓o_ty, ↓o_ty2, ↓o_ixL, ↓o_ixU, ↓o_ixT, ↓o_len_T, ↓o_len_L, ↓o_len_U, ↓o_lis_L, ↓o_lis_U, ↓o_lis_LC, ↓o_lis_UC, ↓o_tu_L, ↓o_tu_U, ↓o_int_I, ↓o_int_B, ↓o_tru_B, ↓o_tru_I, ↓o_tru_N, ↓o_tru_L, ↓o_tru_U, ↓o_tru_T, ↓o_wal_L, ↓o_wal_U, ↓o_wal_T, ↓o_rng1, ↓o_rng2, ↓o_zip_L, ↓o_zip_U, ↓o_finL, ↓o_finC, ↓o_all, ↓o_any, ↓o_slT, ↓o_slL, ↓o_slR, ↓o_in_T, y_non, y_bl, y_int, y_str, y_lst, y_tup, ↓atK_0, List.set_cons_zero, List.set_cons_succ, List.length_cons, List.length_nil, isb_list_NoneType, isb_list_bool, isb_list_int, isb_list_str, isb_list_list, isb_list_tuple, isb_list_dict, isb_tuple_NoneType, isb_tuple_bool, isb_tuple_int, isb_tuple_str, isb_tuple_list, isb_tuple_tuple, isb_tuple_dict, isb_int_NoneType, isb_int_bool, isb_int_int, isb_int_str, isb_int_list, isb_int_tuple, isb_int_dict, isb_str_NoneType, isb_str_bool, isb_str_int, isb_str_str, isb_str_list, isb_str_tuple, isb_str_dict, isb_bool_NoneType, isb_bool_bool, isb_bool_int, isb_bool_str, isb_bool_list, isb_bool_tuple, isb_bool_dict, isb_dict_NoneType, isb_dict_bool, isb_dict_int, isb_dict_str, isb_dict_list, isb_dict_tuple, isb_dict_dict, ↓reduceIte, Bool.false_eq_true, Bool.not_true, Bool.not_false, Bool.true_or, Bool.or_true, Bool.false_or, Bool.or_false, Bool.true_and, Bool.and_true, Bool.false_and, Bool.and_false, decide_true, decide_false, eq_self, reduceCtorEq, true_and, and_true, ↓atK_1, ↓atK_2, ↓atK_3, ↓atK_4, ↓atK_5, ↓atK_6, ↓atK_7, ↓atK_8, ↓atK_9, wipeD, r_v0, r_vs, o_joi hj]
  have hsum : ∀ l : List Nat, (l.map fun c => (⟨#[c]⟩ : Str).length).sum = l.length := fun l => by
    induction l with
    | nil => rfl
    | cons a l ih =>
      rw [List.map_cons, List.sum_cons, ih, List.length_cons]
      show 1 + _ = _
      omega
  have hst : ch (Txt.join (Str.ofString "") (cs.map fun c => ⟨#[c]⟩)) = cs := by
    rw [ch_join0, List.map_map]
    exact flat_single cs
  generalize hS : Txt.join (Str.ofString "") (cs.map fun c => ⟨#[c]⟩) = stem at hst ⊢
  have hlen : stem.length = cs.length := by rw [ch_len, hst]
  have habc : ∀ c ∈ cs, 97 ≤ c ∧ c ≤ 122 := fun c hc => by
    have := hcs c hc
    rw [ch_abc] at this
    obtain ⟨i, hi, rfl⟩ := List.mem_map.mp this
    have := List.mem_range.mp hi
    omega
  refine ⟨?_, hP _ _ ?_⟩
  · rw [List.map_map, show ((fun x : Str => x.length) ∘ fun c : Nat => (⟨#[c]⟩ : Str)) = fun c => (⟨#[c]⟩ : Str).length from rfl, hsum, show (Str.ofString "").length = 0 from by decide +kernel]
    omega
  refine run_seq fun P hP hR => ?_
  try simp only [↓r_ok, ↓r_stuck, ↓r_exc, ↓r_v0, ↓r_vs, ↓r_con, ↓r_op2, ↓r_op1, ↓r_and, ↓r_or, ↓r_not, ↓k_and1, ↓k_or1, ↓k_not1, ↓r_if, ↓r_nil, ↓r_cons, ↓r_tup, ↓r_lst, ↓r_cel, ↓r_no, ↓r_some, ↓k_some, ↓r_sli, ↓r_calB, ↓r_cal, ↓r_mtl, ↓r_sm1, ↓k_sm1, ↓r_frz, ↓r_ch, ↓k_ch, ↓r_tst, ↓r_tcm, ↓k_bool, ↓r_andT, ↓r_orT, ↓r_notT, ↓r_yes, ↓r_its, ↓r_ran, ↓r_lc, ↓r_seq, ↓k_nx, ↓k_rt, ↓k_bk, ↓k_ct, ↓r_skip, ↓r_set, ↓r_ifS, ↓r_ret, ↓r_retN, ↓r_drop, ↓r_brk, ↓r_cnt, ↓r_par2, ↓r_par3, ↓k_par2, ↓k_par3, ↓r_asg, ↓r_nm, ↓r_sub, ↓k_sub, ↓r_tupM, ↓k_tup, ↓r_consM, ↓r_nilM, ↓r_for, ↓o_addI, ↓o_addT, ↓o_addL, ↓o_subI, ↓o_mulI, ↓o_mulL, ↓o_divI, ↓o_modI, ↓o_powI, ↓o_lt, ↓o_le, ↓o_gt, ↓o_ge, ↓o_eqI, ↓o_eqT, ↓o_eqB, ↓o_neI, ↓o_neT, ↓o_neB, ↓o_isN, ↓o_isI, ↓o_isB, ↓o_isT, ↓o_isL, ↓o_isU, ↓o_ty, ↓o_ty2, ↓o_ixL, ↓o_ixU, ↓o_ixT, ↓o_len_T, ↓o_len_L, ↓o_len_U, ↓o_lis_L, ↓o_lis_U, ↓o_lis_LC, ↓o_lis_UC, ↓o_tu_L, ↓o_tu_U, ↓o_int_I, ↓o_int_B, ↓o_tru_B, ↓o_tru_I, ↓o_tru_N, ↓o_tru_L, ↓o_tru_U, ↓o_tru_T, ↓o_wal_L, ↓o_wal_U, ↓o_wal_T, ↓o_rng1, ↓o_rng2, ↓o_zip_L, ↓o_zip_U, ↓o_finL, ↓o_finC, ↓o_all, ↓o_any, ↓o_slT, ↓o_slL, ↓o_slR, ↓o_in_T, y_non, y_bl, y_int, y_str, y_lst, y_tup, ↓atK_0, List.set_cons_zero, List.set_cons_succ, List.length_cons, List.length_nil, isb_list_NoneType, isb_list_bool, isb_list_int, isb_list_str, isb_list_list, isb_list_tuple, isb_list_dict, isb_tuple_NoneType, isb_tuple_bool, isb_tuple_int, isb_tuple_str, isb_tuple_list, isb_tuple_tuple, isb_tuple_dict, isb_int_NoneType, isb_int_bool, isb_int_int, isb_int_str, isb_int_list, isb_int_tuple, isb_int_dict, isb_str_NoneType, isb_str_bool, isb_str_int, isb_str_str, isb_str_list, isb_str_tuple, isb_str_dict, isb_bool_NoneType, isb_bool_bool, isb_bool_int, isb_bool_str, isb_bool_list, isb_bool_tuple, isb_bool_dict, isb_dict_NoneType, isb_dict_bool, isb_dict_int, isb_dict_str, isb_dict_list, isb_dict_tuple, isb_dict_dict, ↓reduceIte, Bool.false_eq_true, Bool.not_true, Bool.not_false, Bool.true_or, Bool.or_true, Bool.false_or, Bool.or_false, Bool.true_and, Bool.and_true, Bool.false_and, Bool.and_false, decide_true, decide_false, eq_self, reduceCtorEq, true_and, and_true, ↓atK_1, ↓atK_2, ↓atK_3, ↓atK_4, ↓atK_5, ↓atK_6, ↓atK_7, ↓atK_8, ↓atK_9, wipeD, r_v0, r_vs, ↓sel2]
  refine ⟨by unfold big; omega, pull_sp hp hB3 (by omega) (by omega) fun a M4 a0 a1 hB4 hO4 => ?_⟩
  try simp only [↓r_ok, ↓r_stuck, ↓r_exc, ↓r_v0, ↓r_vs, ↓r_con, ↓r_op2, ↓r_op1, ↓r_and, ↓r_or, ↓r_not, ↓k_and1, ↓k_or1, ↓k_not1, ↓r_if, ↓r_nil, ↓r_cons, ↓r_tup, ↓r_lst, ↓r_cel, ↓r_no, ↓r_some, ↓k_some, ↓r_sli, ↓r_calB, ↓r_cal, ↓r_mtl, ↓r_sm1, ↓k_sm1, ↓r_frz, ↓r_ch, ↓k_ch, ↓r_tst, ↓r_tcm, ↓k_bool, ↓r_andT, ↓r_orT, ↓r_notT, ↓r_yes, ↓r_its, ↓r_ran, ↓r_lc, ↓r_seq, ↓k_nx, ↓k_rt, ↓k_bk, ↓k_ct, ↓r_skip, ↓r_set, ↓r_ifS, ↓r_ret, ↓r_retN, ↓r_drop, ↓r_brk, ↓r_cnt, ↓r_par2, ↓r_par3, ↓k_par2, ↓k_par3, ↓r_asg, ↓r_nm, ↓r_sub, ↓k_sub, ↓r_tupM, ↓k_tup, ↓r_consM, ↓r_nilM, ↓r_for, ↓o_addI, ↓o_addT, ↓o_addL, ↓o_subI, ↓o_mulI, ↓o_mulL, ↓o_divI, ↓o_modI, ↓o_powI, ↓o_lt, ↓o_le, ↓o_gt, ↓o_ge, ↓o_eqI, ↓o_eqT, ↓o_eqB, ↓o_neI, ↓o_neT, ↓o_neB, ↓o_isN, ↓o_isI, ↓o_isB, ↓o_isT, ↓o_isL, ↓o_isU, ↓o_ty, ↓o_ty2, ↓o_ixL, ↓o_ixU, ↓o_ixT, ↓o_len_T, ↓o_len_L, ↓o_len_U, ↓o_lis_L, ↓o_lis_U, ↓o_lis_LC, ↓o_lis_UC, ↓o_tu_L, ↓o_tu_U, ↓o_int_I, ↓o_int_B, ↓o_tru_B, ↓o_tru_I, ↓o_tru_N, ↓o_tru_L, ↓o_tru_U, ↓o_tru_T, ↓o_wal_L, ↓o_wal_U, ↓o_wal_T, ↓o_rng1, ↓o_rng2, ↓o_zip_L, ↓o_zip_U, ↓o_finL, ↓o_finC, ↓o_all, ↓o_any, ↓o_slT, ↓o_slL, ↓o_slR, ↓o_in_T, y_non, y_bl, y_int, y_str, y_lst, y_tup, ↓atK_0, List.set_cons_zero, List.set_cons_succ, List.length_cons, List.length_nil, isb_list_NoneType, isb_list_bool, isb_list_int, isb_list_str, isb_list_list, isb_list_tuple, isb_list_dict, isb_tuple_NoneType, isb_tuple_bool, isb_tuple_int, isb_tuple_str, isb_tuple_list, isb_tuple_tuple, isb_tuple_dict, isb_int_NoneType, isb_int_bool, isb_int_int, isb_int_str, isb_int_list, isb_int_tuple, isb_int_dict, isb_str_NoneType, isb_str_bool, isb_str_int, isb_str_str, isb_str_list, isb_str_tuple, isb_str_dict, isb_bool_NoneType, isb_bool_bool, isb_bool_int, isb_bool_str, isb_bool_list, isb_bool_tuple, isb_bool_dict, isb_dict_NoneType, isb_dict_bool, isb_dict_int, isb_dict_str, isb_dict_list, isb_dict_tuple, isb_dict_dict, ↓reduceIte, Bool.false_eq_true, Bool.not_true, Bool.not_false, Bool.true_or, Bool.or_true, Bool.false_or, Bool.or_false, Bool.true_and, Bool.and_true, Bool.false_and, Bool.and_false, decide_true, decide_false, eq_self, reduceCtorEq, true_and, and_true, ↓atK_1, ↓atK_2, ↓atK_3, ↓atK_4, ↓atK_5, ↓atK_6, ↓atK_7, ↓atK_8, ↓atK_9, wipeD, r_v0, r_vs, ↓sel2]
  refine pull_sp hp hB4 (by decide) (by decide) fun f M5 f0 f1 hB5 hO5 => ?_
  walk_at "mp"
  refine ⟨by decide, hP _ _ ?_⟩
  try simp only [↓r_ok, ↓r_stuck, ↓r_exc, ↓r_v0, ↓r_vs, ↓r_con, ↓r_op2, ↓r_op1, ↓r_and, ↓r_or, ↓r_not, ↓k_and1, ↓k_or1, ↓k_not1, ↓r_if, ↓r_nil, ↓r_cons, ↓r_tup, ↓r_lst, ↓r_cel, ↓r_no, ↓r_some, ↓k_some, ↓r_sli, ↓r_calB, ↓r_cal, ↓r_mtl, ↓r_sm1, ↓k_sm1, ↓r_frz, ↓r_ch, ↓k_ch, ↓r_tst, ↓r_tcm, ↓k_bool, ↓r_andT, ↓r_orT, ↓r_notT, ↓r_yes, ↓r_its, ↓r_ran, ↓r_lc, ↓r_seq, ↓k_nx, ↓k_rt, ↓k_bk, ↓k_ct, ↓r_skip, ↓r_set, ↓r_ifS, ↓r_ret, ↓r_retN, ↓r_drop, ↓r_brk, ↓r_cnt, ↓r_par2, ↓r_par3, ↓k_par2, ↓k_par3, ↓r_asg, ↓r_nm, ↓r_sub, ↓k_sub, ↓r_tupM, ↓k_tup, ↓r_consM, ↓r_nilM, ↓r_for, ↓o_addI, ↓o_addT, ↓o_addL, ↓o_subI, ↓o_mulI, ↓o_mulL, ↓o_divI, ↓o_modI, ↓o_powI, ↓o_lt, ↓o_le, ↓o_gt, ↓o_ge, ↓o_eqI, ↓o_eqT, ↓o_eqB, ↓o_neI, ↓o_neT, ↓o_neB, ↓o_isN, ↓o_isI, ↓o_isB, ↓o_isT, ↓o_isL, ↓o_isU, ↓o_ty, ↓o_ty2, ↓o_ixL, ↓o_ixU, ↓o_ixT, ↓o_len_T, ↓o_len_L, ↓o_len_U, ↓o_lis_L, ↓o_lis_U, ↓o_lis_LC, ↓o_lis_UC, ↓o_tu_L, ↓o_tu_U, ↓o_int_I, ↓o_int_B, ↓o_tru_B, ↓o_tru_I, ↓o_tru_N, ↓o_tru_L, ↓o_tru_U, ↓o_tru_T, ↓o_wal_L, ↓o_wal_U, ↓o_wal_T, ↓o_rng1, ↓o_rng2, ↓o_zip_L, ↓o_zip_U, ↓o_finL, ↓o_finC, ↓o_all, ↓o_any, ↓o_slT, ↓o_slL, ↓o_slR, ↓o_in_T, y_non, y_bl, y_int, y_str, y_lst, y_tup, ↓atK_0, List.set_cons_zero, List.set_cons_succ, List.length_cons, List.length_nil, isb_list_NoneType, isb_list_bool, isb_list_int, isb_list_str, isb_list_list, isb_list_tuple, isb_list_dict, isb_tuple_NoneType, isb_tuple_bool, isb_tuple_int, isb_tuple_str, isb_tuple_list, isb_tuple_tuple, isb_tuple_dict, isb_int_NoneType, isb_int_bool, isb_int_int, isb_int_str, isb_int_list, isb_int_tuple, isb_int_dict, isb_str_NoneType, isb_str_bool, isb_str_int, isb_str_str, isb_str_list, isb_str_tuple, isb_str_dict, isb_bool_NoneType, isb_bool_bool, isb_bool_int, isb_bool_str, isb_bool_list, isb_bool_tuple, isb_bool_dict, isb_dict_NoneType, isb_dict_bool, isb_dict_int, isb_dict_str, isb_dict_list, isb_dict_tuple, isb_dict_dict, ↓reduceIte, Bool.false_eq_true, Bool.not_true, Bool.not_false, Bool.true_or, Bool.or_true, Bool.false_or, Bool.or_false, Bool.true_and, Bool.and_true, Bool.false_and, Bool.and_false, decide_true, decide_false, eq_self, reduceCtorEq, true_and, and_true, ↓atK_1, ↓atK_2, ↓atK_3, ↓atK_4, ↓atK_5, ↓atK_6, ↓atK_7, ↓atK_8, ↓atK_9, wipeD, r_v0, r_vs, ↓rng_len]
  refine ⟨⟨by omega, by omega⟩, by unfold big; omega, ?_⟩
  refine comp_map (fun d => .str (match d with
    | .int z => newName cs a.toNat f.toNat z.toNat
    | _ => stem)) M5 _ (fun x hx => ?_) ?_
  · obtain ⟨z, hz, rfl⟩ := rng_mem hx
    refine ⟨_, rfl, rfl, rfl, ?_⟩
    show Run (op2 addS _ _ (callP defs (k + 2)) [some (.cell n), some (.int m), some (.str abc), some (.str stem), some (.int (0 + (z : Int))), some (.int a), some (.int f)] M5) _
    have hat : atI abc.cps.toList (f + (0 + (z : Int)) - 26) = some (letK f.toNat z) := by
      show atI (ch abc) _ = _
      rw [ch_abc]
      unfold atI ixN letK
      have e : ((List.range 26).map (97 + ·)).length = 26 := rfl
      rw [e]
      by_cases h0 : 0 ≤ f + (0 + (z : Int)) - 26
      · rw [if_pos h0, if_pos (by omega)]
        show ((List.range 26).map (97 + ·))[_]? = _
        rw [List.getElem?_map, List.getElem?_range (by omega)]
        refine congrArg some ?_
        show 97 + _ = 97 + _
        omega
      · rw [if_neg h0, if_pos (by omega)]
        show ((List.range 26).map (97 + ·))[_]? = _
        rw [List.getElem?_map, List.getElem?_range (by omega)]
        refine congrArg some ?_
        show 97 + _ = 97 + _
        omega
    have hcut1 : ch (cutS stem none (some a)) = cs.take a.toNat := by rw [ch_take a0, hst]
    have hcut2 : ch (cutS stem (some a) none) = cs.drop a.toNat := by rw [ch_drop a0, hst]
    have l1 : (cutS stem none (some a)).length ≤ 7 := by rw [ch_len, hcut1, List.length_take]; omega
    have l2 : (cutS stem (some a) none).length ≤ 7 := by rw [ch_len, hcut2, List.length_drop]; omega
    have l3 : (cutS stem none (some a) ++ (⟨#[letK f.toNat z]⟩ : Str)).length ≤ 8 := by
      rw [ch_len, ch_app, List.length_append, ← ch_len]
      show _ + 1 ≤ 8
      omega
    have big0 : big = 1000000 := rfl
    have lA : abc.length ≤ big := by decide +kernel
    have lB : (⟨#[letK f.toNat z]⟩ : Str).length = 1 := rfl
    try simp only [↓r_ok, ↓r_stuck, ↓r_exc, ↓r_v0, ↓r_vs, ↓r_con, ↓r_op2, ↓r_op1, ↓r_and, ↓r_or, ↓r_not, ↓k_and1, ↓k_or1, ↓k_not1, ↓r_if, ↓r_nil, ↓r_cons, ↓r_tup, ↓r_lst, ↓r_cel, ↓r_no, ↓r_some, ↓k_some, ↓r_sli, ↓r_calB, ↓r_cal, ↓r_mtl, ↓r_sm1, ↓k_sm1, ↓r_frz, ↓r_ch, ↓k_ch, ↓r_tst, ↓r_tcm, ↓k_bool, ↓r_andT, ↓r_orT, ↓r_notT, ↓r_yes, ↓r_its, ↓r_ran, ↓r_lc, ↓r_seq, ↓k_nx, ↓k_rt, ↓k_bk, ↓k_ct, ↓r_skip, ↓r_set, ↓r_ifS, ↓r_ret, ↓r_retN, ↓r_drop, ↓r_brk, ↓r_cnt, ↓r_par2, ↓r_par3, ↓k_par2, ↓k_par3, ↓r_asg, ↓r_nm, ↓r_sub, ↓k_sub, ↓r_tupM, ↓k_tup, ↓r_consM, ↓r_nilM, ↓r_for, ↓o_addI, ↓o_addT, ↓o_addL, ↓o_subI, ↓o_mulI, ↓o_mulL, ↓o_divI, ↓o_modI, ↓o_powI, ↓o_lt, ↓o_le, ↓o_gt, ↓o_ge, ↓o_eqI, ↓o_eqT, ↓o_eqB, ↓o_neI, ↓o_neT, ↓o_neB, ↓o_isN, ↓o_isI, ↓o_isB, ↓o_isT, ↓o_isL, ↓o_isU, ↓o_ty, ↓o_ty2, ↓o_ixL, ↓o_ixU, ↓o_ixT, ↓o_len_T, ↓o_len_L, ↓o_len_U, ↓o_lis_L, ↓o_lis_U, ↓o_lis_LC, ↓o_lis_UC, ↓o_tu_L, ↓o_tu_U, ↓o_int_I, ↓o_int_B, ↓o_tru_B, ↓o_tru_I, ↓o_tru_N, ↓o_tru_L, ↓o_tru_U, ↓o_tru_T, ↓o_wal_L, ↓o_wal_U, ↓o_wal_T, ↓o_rng1, ↓o_rng2, ↓o_zip_L, ↓o_zip_U, ↓o_finL, ↓o_finC, ↓o_all, ↓o_any, ↓o_slT, ↓o_slL, ↓o_slR, ↓o_in_T, y_non, y_bl, y_int, y_str, y_lst, y_tup, ↓atK_0, List.set_cons_zero, List.set_cons_succ, List.length_cons, List.length_nil, isb_list_NoneType, isb_list_bool, isb_list_int, isb_list_str, isb_list_list, isb_list_tuple, isb_list_dict, isb_tuple_NoneType, isb_tuple_bool, isb_tuple_int, isb_tuple_str, isb_tuple_list, isb_tuple_tuple, isb_tuple_dict, isb_int_NoneType, isb_int_bool, isb_int_int, isb_int_str, isb_int_list, isb_int_tuple, isb_int_dict, isb_str_NoneType, isb_str_bool, isb_str_int, isb_str_str, isb_str_list, isb_str_tuple, isb_str_dict, isb_bool_NoneType, isb_bool_bool, isb_bool_int, isb_bool_str, isb_bool_list, isb_bool_tuple, isb_bool_dict, isb_dict_NoneType, isb_dict_bool, isb_dict_int, isb_dict_str, isb_dict_list, isb_dict_tuple, isb_dict_dict, ↓reduceIte, Bool.false_eq_true, Bool.not_true, Bool.not_false, Bool.true_or, Bool.or_true, Bool.false_or, Bool.or_false, Bool.true_and, Bool.and_true, Bool.false_and, Bool.and_false, decide_true, decide_false, eq_self, reduceCtorEq, true_and, and_true, ↓atK_1, ↓atK_2, ↓atK_3, ↓atK_4, ↓atK_5, ↓atK_6, ↓atK_7, ↓atK_8, ↓atK_9, wipeD, r_v0, r_vs, hat]
    refine ⟨by omega, lA, by omega, by omega, by omega, ?_⟩
    congr 1
    refine ch_ext ?_
    rw [ch_app, ch_app, hcut1, hcut2, ch_sign]
    show _ = ch (newName cs a.toNat f.toNat (0 + (z : Int)).toNat)
    rw [ch_newName, show (0 + (z : Int)).toNat = z from by omega]
  · walk_at "mp"
    have e : (rngD 0 (m : Int).toNat).map (fun d => D.str (match d with
      | .int z => newName cs a.toNat f.toNat z.toNat
      | _ => stem)) = (newNames cs a.toNat f.toNat m).map D.str := by
      unfold rngD newNames
      rw [List.map_map, List.map_map, Int.toNat_natCast]
      refine List.map_congr_left fun z hz => ?_
      show D.str (newName cs a.toNat f.toNat (0 + (z : Int)).toNat) = _
      rw [show (0 + (z : Int)).toNat = z from by omega]
      rfl
    rw [e]
    refine q _ _ (by unfold newNames; rw [List.length_map, List.length_range]) (newNames_nodup hm) (fun x hx => ?_) hB5 ((hO3.trans hO4).trans hO5)
    unfold newNames at hx
    obtain ⟨z, _, rfl⟩ := List.mem_map.mp hx
    exact newName_is habc (by omega)
end MP
set_option maxHeartbeats 0
namespace LW
open PySem L2 Evl MP
def top (i : Nat) : Stmt := PySem.Challenge.pw_likeglue_k02_names_rules_and_words.main.body.getD i (.Pass ⟨0, 0, 0, 0⟩)
/-- is_name -/
def f_is_name : Ss := (retS (andV (op1 (isiS "str") (varS 0)) (andV (chS leS leS (conS (.int 1)) (calB lenS (consA (varS 0) nilA)) (conS (.int 8))) (calB allS (consA (lcS [1] finL (itS (varS 0)) (nameB 1) yesT (op2 inS (varS 1) (conS (.str "abcdefghijklmnopqrstuvwxyz")))) nilA)))))
def e_is_name : Ent := ⟨("is_name", none), "is_name", top 4, ["value"], ["value", "sign"], f_is_name, [], []⟩
/-- is_rule -/
def f_is_rule : Ss := (retS (andV (op1 (isiS "str") (varS 0)) (op2 inS (varS 0) (conS (.tup [.str "chain", .str "barred", .str "eldest", .str "newest", .str "all", .str "middle"])))))
def e_is_rule : Ent := ⟨("is_rule", none), "is_rule", top 5, ["value"], ["value"], f_is_rule, [], []⟩
/-- is_word -/
def f_is_word : Ss := (retS (andV (op1 (isiS "str") (varS 0)) (op2 inS (varS 0) (conS (.tup [.str "like", .str "unlike", .str "open"])))))
def e_is_word : Ent := ⟨("is_word", none), "is_word", top 6, ["value"], ["value"], f_is_word, [], []⟩
/-- is_number -/
def f_is_number : Ss := (retS (andV (op1 (isiS "int") (varS 0)) (andV (notV (op1 (isiS "bool") (varS 0))) (chS leS leS (varS 1) (varS 0) (varS 2)))))
def e_is_number : Ent := ⟨("is_number", none), "is_number", top 7, ["value", "least", "most"], ["value", "least", "most"], f_is_number, [], []⟩
/-- _law_draws -/
def f__law_draws : Ss := (seqS (setS 1 (conS (.int 10013)))
 (seqS (forS (itS (sliS (varS 0) noO (someO (conS (.int 63))))) (nameB 2) (setS 1 (op2 modS (calB intS (consA (op2 addS (op2 addS (op2 mulS (varS 1) (conS (.int 45083))) (op2 modS (calB intS (consA (varS 2) nilA)) (conS (.int 2147483399)))) (conS (.int 57))) nilA)) (conS (.int 2147483563)))))
 (retS (celS (consA (calB (lisS false) (consA (sliS (varS 0) noO (someO (conS (.int 63)))) nilA)) (consA (conS (.int 0)) (consA (conS (.int 0)) (consA (varS 1) (consA (conS (.int 0)) nilA)))))))))
def e__law_draws : Ent := ⟨("_law_draws", none), "_law_draws", top 9, ["_law_script"], ["_law_script", "_law_seed", "_law_cell"], f__law_draws, [], []⟩
/-- _law_pull -/
def f__law_pull : Ss := (seqS (asgM (op2 addS (op2 ixS (varS 0) (conS (.int 4))) (conS (.int 1))) (subM (varS 0) (conS (.int 4))))
 (seqS (ifS (andT (tcmS (op2 eqS (op2 ixS (varS 0) (conS (.int 2))) (conS (.int 0)))) (tcmS (op2 ltS (op2 ixS (varS 0) (conS (.int 1))) (calB lenS (consA (op2 ixS (varS 0) (conS (.int 0))) nilA))))) (seqS (asgM (tupS (consA (op2 ixS (op2 ixS (varS 0) (conS (.int 0))) (op2 ixS (varS 0) (conS (.int 1)))) (consA (op2 addS (op2 ixS (varS 0) (conS (.int 1))) (conS (.int 1))) nilA))) (tupM 2 (consM (nameM 2) (consM (subM (varS 0) (conS (.int 1))) nilM))))
 (seqS (ifS (tcmS (op2 geS (varS 2) (op2 powS (conS (.int 10)) (conS (.int 18))))) (asgM (varS 2) (subM (varS 0) (conS (.int 2)))) skipS)
 (asgM (op2 modS (calB intS (consA (op2 addS (op2 addS (op2 mulS (op2 ixS (varS 0) (conS (.int 3))) (conS (.int 38603))) (op2 mulS (op2 modS (calB intS (consA (varS 2) nilA)) (conS (.int 2147483399))) (conS (.int 40531)))) (conS (.int 83))) nilA)) (conS (.int 2147483563))) (subM (varS 0) (conS (.int 3)))))) skipS)
 (seqS (ifS (tcmS (op2 gtS (op2 ixS (varS 0) (conS (.int 2))) (conS (.int 0)))) (seqS (asgM (tupS (consA (op2 modS (calB intS (consA (op2 ixS (varS 0) (conS (.int 2))) nilA)) (varS 1)) (consA (op2 divS (op2 ixS (varS 0) (conS (.int 2))) (varS 1)) nilA))) (tupM 2 (consM (nameM 3) (consM (subM (varS 0) (conS (.int 2))) nilM))))
 (retS (varS 3))) skipS)
 (seqS (setS 4 (op2 ixS (varS 0) (conS (.int 3))))
 (seqS (asgM (op2 modS (calB intS (consA (op2 addS (op2 addS (op2 addS (op2 powS (varS 4) (conS (.int 3))) (op2 mulS (varS 4) (conS (.int 37747)))) (op2 mulS (op2 ixS (varS 0) (conS (.int 4))) (conS (.int 1301077)))) (conS (.int 60013))) nilA)) (conS (.int 2147483563))) (subM (varS 0) (conS (.int 3))))
 (retS (op2 modS (calB intS (consA (op2 addS (op2 divS (op2 ixS (varS 0) (conS (.int 3))) (conS (.int 83))) (op2 mulS (op2 modS (calB intS (consA (op2 ixS (varS 0) (conS (.int 3))) nilA)) (conS (.int 7919))) (conS (.int 67)))) nilA)) (varS 1))))))))
def e__law_pull : Ent := ⟨("_law_pull", none), "_law_pull", top 10, ["_law_bag", "_law_sides"], ["_law_bag", "_law_sides", "_law_cell", "_law_digit", "_law_seed"], f__law_pull, [], []⟩
/-- _law_any -/
def f__law_any : Ss := (retS (op2 ixS (varS 1) (calS 5 2 0 (selD [0, 1] []) (consA (varS 0) (consA (calB lenS (consA (varS 1) nilA)) nilA)) nilA)))
def e__law_any : Ent := ⟨("_law_any", none), "_law_any", top 11, ["_law_bag", "_law_rows"], ["_law_bag", "_law_rows"], f__law_any, [], []⟩
/-- _law_like -/
def f__law_like : Ss := (seqS (ifS (tstS (op1 (isi2 "list" "tuple") (varS 1))) (seqS (setS 2 (andV (op2 eqS (op1 (isiS "list") (varS 0)) (op1 (isiS "list") (varS 1))) (op2 eqS (op1 (isiS "tuple") (varS 0)) (op1 (isiS "tuple") (varS 1)))))
 (retS (andV (varS 2) (andV (op2 eqS (calB lenS (consA (varS 0) nilA)) (calB lenS (consA (varS 1) nilA))) (calB allS (consA (lcS [3, 4] finL (ranS zipS (consA (varS 0) (consA (varS 1) nilA))) (tupB (consB (nameB 3) (consB (nameB 4) nilB))) yesT (calS 7 2 0 (selD [0, 1] []) (consA (varS 3) (consA (varS 4) nilA)) nilA)) nilA)))))) skipS)
 (seqS (ifS (orT (tcmS (op1 (isNS false) (varS 0))) (orT (tcmS (op1 (isNS false) (varS 1))) (tcmS (op2 neS (op1 (isiS "bool") (varS 0)) (op1 (isiS "bool") (varS 1)))))) (retS (andV (op1 (isNS false) (varS 0)) (op1 (isNS false) (varS 1)))) skipS)
 (retS (andV (op2 eqS (op1 (isiS "int") (varS 0)) (op1 (isiS "int") (varS 1))) (andV (op2 eqS (op1 (isiS "str") (varS 0)) (op1 (isiS "str") (varS 1))) (op2 eqS (varS 0) (varS 1)))))))
def e__law_like : Ent := ⟨("_law_like", none), "_law_like", top 12, ["_law_a", "_law_b"], ["_law_a", "_law_b", "_law_same", "_law_c", "_law_d"], f__law_like, [], []⟩
/-- _law_new_names -/
def f__law_new_names : Ss := (seqS (setS 2 (conS (.str "abcdefghijklmnopqrstuvwxyz")))
 (seqS (setS 3 (sm1S joiS (conS (.str "")) (lcS [4] finL (ranS rng1 (consA (calS 5 2 0 (selD [0, 1] []) (consA (varS 0) (consA (conS (.int 8)) nilA)) nilA) nilA)) (nameB 4) yesT (calS 6 2 0 (selD [0, 1] []) (consA (varS 0) (consA (varS 2) nilA)) nilA))))
 (seqS (asgM (tupS (consA (calS 5 2 0 (selD [0, 1] []) (consA (varS 0) (consA (op2 addS (calB lenS (consA (varS 3) nilA)) (conS (.int 1))) nilA)) nilA) (consA (calS 5 2 0 (selD [0, 1] []) (consA (varS 0) (consA (conS (.int 26)) nilA)) nilA) nilA))) (tupM 2 (consM (nameM 5) (consM (nameM 6) nilM))))
 (retS (lcS [4] finL (ranS rng1 (consA (varS 1) nilA)) (nameB 4) yesT (op2 addS (op2 addS (sliS (varS 3) noO (someO (varS 5))) (op2 ixS (varS 2) (op2 subS (op2 addS (varS 6) (varS 4)) (conS (.int 26))))) (sliS (varS 3) (someO (varS 5)) noO)))))))
def e__law_new_names : Ent := ⟨("_law_new_names", none), "_law_new_names", top 13, ["_law_bag", "_law_many"], ["_law_bag", "_law_many", "_law_abc", "_law_stem", "_law_k", "_law_at", "_law_first"], f__law_new_names, [], []⟩
/-- law -/
def f_law : Ss := (seqS (setS 1 (calS 4 1 0 (selD [0] []) (consA (varS 0) nilA) nilA))
 (seqS (setS 2 (calS 8 2 0 (selD [0, 1] []) (consA (varS 1) (consA (conS (.int 4)) nilA)) nilA))
 (seqS (setS 3 (calS 5 2 0 (selD [0, 1] []) (consA (varS 1) (consA (op2 addS (calB lenS (consA (op2 ixS (varS 2) (conS (.int 0))) nilA)) (conS (.int 1))) nilA)) nilA))
 (seqS (setS 4 (op2 addS (op2 addS (sliS (op2 ixS (varS 2) (conS (.int 0))) noO (someO (varS 3))) (calS 6 2 0 (selD [0, 1] []) (consA (varS 1) (consA (lstS (consA (conS (.str "A")) (consA (conS (.str "1")) (consA (conS (.str " ")) (consA (conS (.str "-")) (consA (conS (.str "_")) (consA (conS (.str "+")) (consA (conS (.str "Z")) (consA (conS (.str "\n")) nilA))))))))) nilA)) nilA)) (sliS (op2 ixS (varS 2) (conS (.int 0))) (someO (varS 3)) noO)))
 (seqS (setS 5 (op2 addS (op2 ixS (varS 2) (conS (.int 1))) (conS (.str "abcdefgz"))))
 (seqS (setS 6 (lstS (consA (calS 0 1 0 (selD [0] []) (consA (op2 ixS (varS 2) (conS (.int 0))) nilA) nilA) (consA (calS 0 0 1 (selD [0] []) nilA (consA (op2 ixS (varS 2) (conS (.int 3))) nilA)) (consA (calS 0 1 0 (selD [0] []) (consA (sliS (varS 5) noO (someO (conS (.int 8)))) nilA) nilA) (consA (calS 0 1 0 (selD [0] []) (consA (sliS (varS 5) noO (someO (conS (.int 9)))) nilA) nilA) (consA (calS 0 1 0 (selD [0] []) (consA (conS (.str "")) nilA) nilA) (consA (calS 0 1 0 (selD [0] []) (consA (conS (.str "z")) nilA) nilA) nilA))))))))
 (seqS (ifS (notT (tstS (calS 7 2 0 (selD [0, 1] []) (consA (varS 6) (consA (lstS (consA (conS (.bl true)) (consA (conS (.bl true)) (consA (conS (.bl true)) (consA (conS (.bl false)) (consA (conS (.bl false)) (consA (conS (.bl true)) nilA))))))) nilA)) nilA))) (retS (conS (.bl false))) skipS)
 (seqS (setS 7 (lstS (consA (varS 4) (consA (conS .non) (consA (conS (.int 3)) (consA (conS (.bl true)) (consA (tupS (consA (conS (.str "a")) nilA)) (consA (lstS (consA (conS (.str "a")) nilA)) (consA (op2 addS (op2 ixS (varS 2) (conS (.int 2))) (conS (.str " "))) nilA)))))))))
 (seqS (ifS (notT (tstS (calS 7 2 0 (selD [0, 1] []) (consA (lcS [8] finL (itS (varS 7)) (nameB 8) yesT (calS 0 1 0 (selD [0] []) (consA (varS 8) nilA) nilA)) (consA (op2 mulS (lstS (consA (conS (.bl false)) nilA)) (conS (.int 7))) nilA)) nilA))) (retS (conS (.bl false))) skipS)
 (seqS (asgM (tupS (consA (lstS (consA (conS (.str "chain")) (consA (conS (.str "barred")) (consA (conS (.str "eldest")) (consA (conS (.str "newest")) (consA (conS (.str "all")) (consA (conS (.str "middle")) nilA))))))) (consA (lstS (consA (conS (.str "like")) (consA (conS (.str "unlike")) (consA (conS (.str "open")) nilA)))) nilA))) (tupM 2 (consM (nameM 9) (consM (nameM 10) nilM))))
 (seqS (ifS (notT (tstS (calS 7 2 0 (selD [0, 1] []) (consA (lstS (consA (conS (.tup [.str "chain", .str "barred", .str "eldest", .str "newest", .str "all", .str "middle"])) (consA (conS (.tup [.str "like", .str "unlike", .str "open"])) nilA))) (consA (lstS (consA (calB tuS (consA (varS 9) nilA)) (consA (calB tuS (consA (varS 10) nilA)) nilA))) nilA)) nilA))) (retS (conS (.bl false))) skipS)
 (seqS (setS 11 (op2 addS (op2 addS (op2 addS (varS 9) (varS 10)) (varS 7)) (lstS (consA (conS (.str "Chain")) (consA (conS (.str "like ")) (consA (conS (.str "")) (consA (tupS (consA (conS (.str "chain")) nilA)) (consA (lstS (consA (conS (.str "like")) nilA)) (consA (op2 addS (op2 ixS (varS 2) (conS (.int 3))) (conS (.str "zzzzzzz"))) nilA)))))))))
 (seqS (ifS (notT (tstS (calS 7 2 0 (selD [0, 1] []) (consA (op2 addS (lcS [8] finL (itS (varS 11)) (nameB 8) yesT (calS 1 1 0 (selD [0] []) (consA (varS 8) nilA) nilA)) (lstS (consA (calS 1 0 1 (selD [0] []) nilA (consA (conS (.str "all")) nilA)) nilA))) (consA (op2 addS (lcS [8] finL (itS (varS 11)) (nameB 8) yesT (op2 inS (varS 8) (varS 9))) (lstS (consA (conS (.bl true)) nilA))) nilA)) nilA))) (retS (conS (.bl false))) skipS)
 (seqS (ifS (notT (tstS (calS 7 2 0 (selD [0, 1] []) (consA (op2 addS (lcS [8] finL (itS (varS 11)) (nameB 8) yesT (calS 2 1 0 (selD [0] []) (consA (varS 8) nilA) nilA)) (lstS (consA (calS 2 0 1 (selD [0] []) nilA (consA (conS (.str "open")) nilA)) nilA))) (consA (op2 addS (lcS [8] finL (itS (varS 11)) (nameB 8) yesT (op2 inS (varS 8) (varS 10))) (lstS (consA (conS (.bl true)) nilA))) nilA)) nilA))) (retS (conS (.bl false))) skipS)
 (seqS (par2 12 13 (consA (op2 subS (calS 5 2 0 (selD [0, 1] []) (consA (varS 1) (consA (op2 powS (conS (.int 10)) (conS (.int 9))) nilA)) nilA) (conS (.int 5))) (consA (calS 5 2 0 (selD [0, 1] []) (consA (varS 1) (consA (conS (.int 4)) nilA)) nilA) nilA)))
 (seqS (forS (ranS rng2 (consA (op2 subS (varS 12) (conS (.int 2))) (consA (op2 addS (op2 addS (varS 12) (varS 13)) (conS (.int 3))) nilA))) (nameB 14) (seqS (setS 15 (andV (op2 leS (varS 12) (varS 14)) (op2 leS (varS 14) (op2 addS (varS 12) (varS 13)))))
 (ifS (notT (tstS (calS 7 2 0 (selD [0, 1] []) (consA (lstS (consA (calS 3 3 0 (selD [0, 1, 2] []) (consA (varS 14) (consA (varS 12) (consA (op2 addS (varS 12) (varS 13)) nilA))) nilA) (consA (calS 3 0 3 (selD [2, 1, 0] []) nilA (consA (op2 addS (varS 12) (varS 13)) (consA (varS 12) (consA (varS 14) nilA)))) nilA))) (consA (lstS (consA (varS 15) (consA (varS 15) nilA))) nilA)) nilA))) (retS (conS (.bl false))) skipS)))
 (retS (calS 7 2 0 (selD [0, 1] []) (consA (lcS [8] finL (itS (lstS (consA (conS .non) (consA (conS (.bl true)) (consA (conS (.bl false)) (consA (conS (.str "1")) (consA (tupS (consA (conS (.int 0)) nilA)) (consA (lstS (consA (conS (.int 0)) nilA)) (consA (conS (.str "")) nilA))))))))) (nameB 8) yesT (calS 3 3 0 (selD [0, 1, 2] []) (consA (varS 8) (consA (op2 subS (conS (.int 0)) (conS (.int 9))) (consA (conS (.int 9)) nilA))) nilA)) (consA (op2 mulS (lstS (consA (conS (.bl false)) nilA)) (conS (.int 7))) nilA)) nilA))))))))))))))))))
def e_law : Ent := ⟨("law", none), "law", top 14, ["_law_script"], ["_law_script", "_law_bag", "_law_names", "_law_at", "_law_bent", "_law_long", "_law_found", "_law_odd", "_law_value_z", "_law_rules", "_law_words", "_law_some", "_law_low", "_law_size", "_law_number", "_law_due"], f_law, [], []⟩
def es : List Ent := [e_is_name, e_is_rule, e_is_word, e_is_number, e__law_draws, e__law_pull, e__law_any, e__law_like, e__law_new_names, e_law]
structure Facts (g : Gm) : Prop where
  b_all : g.mg "all" = none
  v_LETTERS : GloOk g "LETTERS" (.str "abcdefghijklmnopqrstuvwxyz")
  b_len : g.mg "len" = none
  b_isinstance : g.mg "isinstance" = none
  b_str : g.mg "str" = none
  v_RULES : GloOk g "RULES" (.tup [.str "chain", .str "barred", .str "eldest", .str "newest", .str "all", .str "middle"])
  v_WORDS : GloOk g "WORDS" (.tup [.str "like", .str "unlike", .str "open"])
  b_bool : g.mg "bool" = none
  b_int : g.mg "int" = none
  b_list : g.mg "list" = none
  c__law_pull_2_ : CallOk g 5 2 [] (selD [0, 1] [])
  g__law_pull : GloFn g "_law_pull" 5
  b_tuple : g.mg "tuple" = none
  b_zip : g.mg "zip" = none
  c__law_like_2_ : CallOk g 7 2 [] (selD [0, 1] [])
  g__law_like : GloFn g "_law_like" 7
  b_range : g.mg "range" = none
  c__law_any_2_ : CallOk g 6 2 [] (selD [0, 1] [])
  g__law_any : GloFn g "_law_any" 6
  c_is_number_3_ : CallOk g 3 3 [] (selD [0, 1, 2] [])
  g_is_number : GloFn g "is_number" 3
  c_is_number_0_most_least_value : CallOk g 3 0 ["most", "least", "value"] (selD [2, 1, 0] [])
  c_is_word_1_ : CallOk g 2 1 [] (selD [0] [])
  g_is_word : GloFn g "is_word" 2
  c_is_word_0_value : CallOk g 2 0 ["value"] (selD [0] [])
  c_is_rule_1_ : CallOk g 1 1 [] (selD [0] [])
  g_is_rule : GloFn g "is_rule" 1
  c_is_rule_0_value : CallOk g 1 0 ["value"] (selD [0] [])
  c_is_name_1_ : CallOk g 0 1 [] (selD [0] [])
  g_is_name : GloFn g "is_name" 0
  c_is_name_0_value : CallOk g 0 0 ["value"] (selD [0] [])
  c__law_new_names_2_ : CallOk g 8 2 [] (selD [0, 1] [])
  g__law_new_names : GloFn g "_law_new_names" 8
  c__law_draws_1_ : CallOk g 4 1 [] (selD [0] [])
  g__law_draws : GloFn g "_law_draws" 4
def fas : List He.Fa := [.free "all", .str "LETTERS" "abcdefghijklmnopqrstuvwxyz", .free "len", .free "isinstance", .free "str", .free "bool", .free "int", .free "list", .glo "_law_pull", .free "tuple", .free "zip", .glo "_law_like", .free "range", .glo "_law_any", .glo "is_number", .glo "is_word", .glo "is_rule", .glo "is_name", .glo "_law_new_names", .glo "_law_draws", .glo "law"]
def tus : List (Str × List He.Dv) := [("RULES", [.str "chain", .str "barred", .str "eldest", .str "newest", .str "all", .str "middle"]), ("WORDS", [.str "like", .str "unlike", .str "open"])]
theorem s_is_name : FnScope e_is_name.N e_is_name.par (defScope (top 4)) := ⟨rfl, rfl, rfl, by decide +kernel, rfl, by decide +kernel, by decide +kernel⟩
theorem d_is_name {g : Gm} (F : Facts g) : SSs g ⟨e_is_name.N, defScope (top 4), fun _ => true⟩ (defBody (top 4)) f_is_name := by
  unfold f_is_name
  exact (sss_one (ss_ret (se_and (se_isi "str" F.b_isinstance F.b_str (se_var 0)) (se_and (se_chain (fun _ => op_le) (fun _ => op_le) key_le key_le se_int (se_len F.b_len (sa_cons (se_var 0) sa_nil)) se_int) (se_one (se_all F.b_all (sa_cons (se_lc (LcOk.mk (own := [("sign", 1)]) (si_any (se_var 0)) (sg_name 1) sts_nil (se_in (se_var 1) (se_glo F.v_LETTERS)) (by decide +kernel) (by decide +kernel) (by intro _ _; rfl)) fin_L) sa_nil)))))))
theorem s_is_rule : FnScope e_is_rule.N e_is_rule.par (defScope (top 5)) := ⟨rfl, rfl, rfl, by decide +kernel, rfl, by decide +kernel, by decide +kernel⟩
theorem d_is_rule {g : Gm} (F : Facts g) : SSs g ⟨e_is_rule.N, defScope (top 5), fun _ => true⟩ (defBody (top 5)) f_is_rule := by
  unfold f_is_rule
  exact (sss_one (ss_ret (se_and (se_isi "str" F.b_isinstance F.b_str (se_var 0)) (se_one (se_in (se_var 0) (se_glo F.v_RULES))))))
theorem s_is_word : FnScope e_is_word.N e_is_word.par (defScope (top 6)) := ⟨rfl, rfl, rfl, by decide +kernel, rfl, by decide +kernel, by decide +kernel⟩
theorem d_is_word {g : Gm} (F : Facts g) : SSs g ⟨e_is_word.N, defScope (top 6), fun _ => true⟩ (defBody (top 6)) f_is_word := by
  unfold f_is_word
  exact (sss_one (ss_ret (se_and (se_isi "str" F.b_isinstance F.b_str (se_var 0)) (se_one (se_in (se_var 0) (se_glo F.v_WORDS))))))
theorem s_is_number : FnScope e_is_number.N e_is_number.par (defScope (top 7)) := ⟨rfl, rfl, rfl, by decide +kernel, rfl, by decide +kernel, by decide +kernel⟩
theorem d_is_number {g : Gm} (F : Facts g) : SSs g ⟨e_is_number.N, defScope (top 7), fun _ => true⟩ (defBody (top 7)) f_is_number := by
  unfold f_is_number
  exact (sss_one (ss_ret (se_and (se_isi "int" F.b_isinstance F.b_int (se_var 0)) (se_and (se_not (se_isi "bool" F.b_isinstance F.b_bool (se_var 0))) (se_one (se_chain (fun _ => op_le) (fun _ => op_le) key_le key_le (se_var 1) (se_var 0) (se_var 2)))))))
theorem s__law_draws : FnScope e__law_draws.N e__law_draws.par (defScope (top 9)) := ⟨rfl, rfl, rfl, by decide +kernel, rfl, by decide +kernel, by decide +kernel⟩
theorem d__law_draws {g : Gm} (F : Facts g) : SSs g ⟨e__law_draws.N, defScope (top 9), fun _ => true⟩ (defBody (top 9)) f__law_draws := by
  unfold f__law_draws
  exact (sss_cons (ss_set 1 se_int)
 (sss_cons (ss_for (si_any (se_sl (se_var 0) so_none (so_some se_int))) (sg_name 2) (sss_one (ss_set 1 (se_mod (se_intf F.b_int (sa_cons (se_add (se_add (se_mul (se_var 1) se_int) (se_mod (se_intf F.b_int (sa_cons (se_var 2) sa_nil)) se_int)) se_int) sa_nil)) se_int))))
 (sss_one (ss_ret (se_cel (sa_cons (se_list false F.b_list (sa_cons (se_sl (se_var 0) so_none (so_some se_int)) sa_nil)) (sa_cons se_int (sa_cons se_int (sa_cons (se_var 1) (sa_cons se_int sa_nil))))))))))
theorem s__law_pull : FnScope e__law_pull.N e__law_pull.par (defScope (top 10)) := ⟨rfl, rfl, rfl, by decide +kernel, rfl, by decide +kernel, by decide +kernel⟩
theorem d__law_pull {g : Gm} (F : Facts g) : SSs g ⟨e__law_pull.N, defScope (top 10), fun _ => true⟩ (defBody (top 10)) f__law_pull := by
  unfold f__law_pull
  exact (sss_cons (ss_asg (se_add (se_ix (se_var 0) se_int) se_int) (sgm_sub (se_var 0) se_int (by intro _ _; rfl)))
 (sss_cons (ss_if (st_w (sw_and (st_eq (se_ix (se_var 0) se_int) se_int) (sw_and1 (st_lt (se_ix (se_var 0) se_int) (se_len F.b_len (sa_cons (se_ix (se_var 0) se_int) sa_nil)))))) (sss_cons (ss_asg (hw := sw_of (by intros; kernel_rfl)) (se_tup (sa_cons (se_ix (se_ix (se_var 0) se_int) (se_ix (se_var 0) se_int)) (sa_cons (se_add (se_ix (se_var 0) se_int) se_int) sa_nil))) (sgm_tup (sgn_cons (sgm_name 2) (sgn_cons (sgm_sub (se_var 0) se_int (by intro _ _; rfl)) sgn_nil))))
 (sss_cons (ss_if (st_ge (se_var 2) (se_pow se_int se_int)) (sss_one (ss_asg (se_var 2) (sgm_sub (se_var 0) se_int (by intro _ _; rfl)))) sss_nil)
 (sss_one (ss_asg (se_mod (se_intf F.b_int (sa_cons (se_add (se_add (se_mul (se_ix (se_var 0) se_int) se_int) (se_mul (se_mod (se_intf F.b_int (sa_cons (se_var 2) sa_nil)) se_int) se_int)) se_int) sa_nil)) se_int) (sgm_sub (se_var 0) se_int (by intro _ _; rfl)))))) sss_nil)
 (sss_cons (ss_if (st_gt (se_ix (se_var 0) se_int) se_int) (sss_cons (ss_asg (hw := sw_of (by intros; kernel_rfl)) (se_tup (sa_cons (se_mod (se_intf F.b_int (sa_cons (se_ix (se_var 0) se_int) sa_nil)) (se_var 1)) (sa_cons (se_div (se_ix (se_var 0) se_int) (se_var 1)) sa_nil))) (sgm_tup (sgn_cons (sgm_name 3) (sgn_cons (sgm_sub (se_var 0) se_int (by intro _ _; rfl)) sgn_nil))))
 (sss_one (ss_ret (se_var 3)))) sss_nil)
 (sss_cons (ss_set 4 (se_ix (se_var 0) se_int))
 (sss_cons (ss_asg (se_mod (se_intf F.b_int (sa_cons (se_add (se_add (se_add (se_pow (se_var 4) se_int) (se_mul (se_var 4) se_int)) (se_mul (se_ix (se_var 0) se_int) se_int)) se_int) sa_nil)) se_int) (sgm_sub (se_var 0) se_int (by intro _ _; rfl)))
 (sss_one (ss_ret (se_mod (se_intf F.b_int (sa_cons (se_add (se_div (se_ix (se_var 0) se_int) se_int) (se_mul (se_mod (se_intf F.b_int (sa_cons (se_ix (se_var 0) se_int) sa_nil)) se_int) se_int)) sa_nil)) (se_var 1)))))))))
theorem s__law_any : FnScope e__law_any.N e__law_any.par (defScope (top 11)) := ⟨rfl, rfl, rfl, by decide +kernel, rfl, by decide +kernel, by decide +kernel⟩
theorem d__law_any {g : Gm} (F : Facts g) : SSs g ⟨e__law_any.N, defScope (top 11), fun _ => true⟩ (defBody (top 11)) f__law_any := by
  unfold f__law_any
  exact (sss_one (ss_ret (se_ix (se_var 1) (se_call F.g__law_pull F.c__law_pull_2_ (sa_cons (se_var 0) (sa_cons (se_len F.b_len (sa_cons (se_var 1) sa_nil)) sa_nil))))))
theorem s__law_like : FnScope e__law_like.N e__law_like.par (defScope (top 12)) := ⟨rfl, rfl, rfl, by decide +kernel, rfl, by decide +kernel, by decide +kernel⟩
theorem d__law_like {g : Gm} (F : Facts g) : SSs g ⟨e__law_like.N, defScope (top 12), fun _ => true⟩ (defBody (top 12)) f__law_like := by
  unfold f__law_like
  exact (sss_cons (ss_if (st_of (se_isi2 "list" "tuple" F.b_isinstance F.b_list F.b_tuple (se_var 1))) (sss_cons (ss_set 2 (se_and (se_eq (se_isi "list" F.b_isinstance F.b_list (se_var 0)) (se_isi "list" F.b_isinstance F.b_list (se_var 1))) (se_one (se_eq (se_isi "tuple" F.b_isinstance F.b_tuple (se_var 0)) (se_isi "tuple" F.b_isinstance F.b_tuple (se_var 1))))))
 (sss_one (ss_ret (se_and (se_var 2) (se_and (se_eq (se_len F.b_len (sa_cons (se_var 0) sa_nil)) (se_len F.b_len (sa_cons (se_var 1) sa_nil))) (se_one (se_all F.b_all (sa_cons (se_lc (LcOk.mk (own := [("_law_c", 3), ("_law_d", 4)]) (si_zip F.b_zip (sa_cons (se_var 0) (sa_cons (se_var 1) sa_nil))) (sg_tup (sgs_cons (sg_name 3) (sgs_cons (sg_name 4) sgs_nil)) (cons_len (cons_len nil_len))) sts_nil (se_call F.g__law_like F.c__law_like_2_ (sa_cons (se_var 3) (sa_cons (se_var 4) sa_nil))) (by decide +kernel) (by decide +kernel) (by intro _ _; rfl)) fin_L) sa_nil)))))))) sss_nil)
 (sss_cons (ss_if (st_w (sw_or (st_isN (se_var 0)) (sw_or (st_isN (se_var 1)) (sw_or1 (st_ne (se_isi "bool" F.b_isinstance F.b_bool (se_var 0)) (se_isi "bool" F.b_isinstance F.b_bool (se_var 1))))))) (sss_one (ss_ret (se_and (se_isN (se_var 0)) (se_one (se_isN (se_var 1)))))) sss_nil)
 (sss_one (ss_ret (se_and (se_eq (se_isi "int" F.b_isinstance F.b_int (se_var 0)) (se_isi "int" F.b_isinstance F.b_int (se_var 1))) (se_and (se_eq (se_isi "str" F.b_isinstance F.b_str (se_var 0)) (se_isi "str" F.b_isinstance F.b_str (se_var 1))) (se_one (se_eq (se_var 0) (se_var 1)))))))))
theorem s__law_new_names : FnScope e__law_new_names.N e__law_new_names.par (defScope (top 13)) := ⟨rfl, rfl, rfl, by decide +kernel, rfl, by decide +kernel, by decide +kernel⟩
theorem d__law_new_names {g : Gm} (F : Facts g) : SSs g ⟨e__law_new_names.N, defScope (top 13), fun _ => true⟩ (defBody (top 13)) f__law_new_names := by
  unfold f__law_new_names
  exact (sss_cons (ss_set 2 se_str)
 (sss_cons (ss_set 3 (se_join se_str (se_lc (LcOk.mk (own := [("_law_k", 4)]) (si_rng1 F.b_range (sa_cons (se_call F.g__law_pull F.c__law_pull_2_ (sa_cons (se_var 0) (sa_cons se_int sa_nil))) sa_nil)) (sg_name 4) sts_nil (se_call F.g__law_any F.c__law_any_2_ (sa_cons (se_var 0) (sa_cons (se_var 2) sa_nil))) (by decide +kernel) (by decide +kernel) (by intro _ _; rfl)) fin_L)))
 (sss_cons (ss_asg (hw := sw_of (by intros; kernel_rfl)) (se_tup (sa_cons (se_call F.g__law_pull F.c__law_pull_2_ (sa_cons (se_var 0) (sa_cons (se_add (se_len F.b_len (sa_cons (se_var 3) sa_nil)) se_int) sa_nil))) (sa_cons (se_call F.g__law_pull F.c__law_pull_2_ (sa_cons (se_var 0) (sa_cons se_int sa_nil))) sa_nil))) (sgm_tup (sgn_cons (sgm_name 5) (sgn_cons (sgm_name 6) sgn_nil))))
 (sss_one (ss_ret (se_lc (LcOk.mk (own := [("_law_k", 4)]) (si_rng1 F.b_range (sa_cons (se_var 1) sa_nil)) (sg_name 4) sts_nil (se_add (se_add (se_sl (se_var 3) so_none (so_some (se_var 5))) (se_ix (se_var 2) (se_sub (se_add (se_var 6) (se_var 4)) se_int))) (se_sl (se_var 3) (so_some (se_var 5)) so_none)) (by decide +kernel) (by decide +kernel) (by intro _ _; rfl)) fin_L))))))
theorem s_law : FnScope e_law.N e_law.par (defScope (top 14)) := ⟨rfl, rfl, rfl, by decide +kernel, rfl, by decide +kernel, by decide +kernel⟩
theorem d_law {g : Gm} (F : Facts g) : SSs g ⟨e_law.N, defScope (top 14), fun _ => true⟩ (defBody (top 14)) f_law := by
  unfold f_law
  exact (sss_cons (ss_set 1 (se_call F.g__law_draws F.c__law_draws_1_ (sa_cons (se_var 0) sa_nil)))
 (sss_cons (ss_set 2 (se_call F.g__law_new_names F.c__law_new_names_2_ (sa_cons (se_var 1) (sa_cons se_int sa_nil))))
 (sss_cons (ss_set 3 (se_call F.g__law_pull F.c__law_pull_2_ (sa_cons (se_var 1) (sa_cons (se_add (se_len F.b_len (sa_cons (se_ix (se_var 2) se_int) sa_nil)) se_int) sa_nil))))
 (sss_cons (ss_set 4 (se_add (se_add (se_sl (se_ix (se_var 2) se_int) so_none (so_some (se_var 3))) (se_call F.g__law_any F.c__law_any_2_ (sa_cons (se_var 1) (sa_cons (se_lst (sa_cons se_str (sa_cons se_str (sa_cons se_str (sa_cons se_str (sa_cons se_str (sa_cons se_str (sa_cons se_str (sa_cons se_str sa_nil))))))))) sa_nil)))) (se_sl (se_ix (se_var 2) se_int) (so_some (se_var 3)) so_none)))
 (sss_cons (ss_set 5 (se_add (se_ix (se_var 2) se_int) se_str))
 (sss_cons (ss_set 6 (se_lst (sa_cons (se_call F.g_is_name F.c_is_name_1_ (sa_cons (se_ix (se_var 2) se_int) sa_nil)) (sa_cons (se_callK0 F.g_is_name F.c_is_name_0_value (sk_cons (se_ix (se_var 2) se_int) sk_nil)) (sa_cons (se_call F.g_is_name F.c_is_name_1_ (sa_cons (se_sl (se_var 5) so_none (so_some se_int)) sa_nil)) (sa_cons (se_call F.g_is_name F.c_is_name_1_ (sa_cons (se_sl (se_var 5) so_none (so_some se_int)) sa_nil)) (sa_cons (se_call F.g_is_name F.c_is_name_1_ (sa_cons se_str sa_nil)) (sa_cons (se_call F.g_is_name F.c_is_name_1_ (sa_cons se_str sa_nil)) sa_nil))))))))
 (sss_cons (ss_if (st_not (st_of (se_call F.g__law_like F.c__law_like_2_ (sa_cons (se_var 6) (sa_cons (se_lst (sa_cons se_bl (sa_cons se_bl (sa_cons se_bl (sa_cons se_bl (sa_cons se_bl (sa_cons se_bl sa_nil))))))) sa_nil))))) (sss_one (ss_ret se_bl)) sss_nil)
 (sss_cons (ss_set 7 (se_lst (sa_cons (se_var 4) (sa_cons se_non (sa_cons se_int (sa_cons se_bl (sa_cons (se_tup (sa_cons se_str sa_nil)) (sa_cons (se_lst (sa_cons se_str sa_nil)) (sa_cons (se_add (se_ix (se_var 2) se_int) se_str) sa_nil)))))))))
 (sss_cons (ss_if (st_not (st_of (se_call F.g__law_like F.c__law_like_2_ (sa_cons (se_lc (LcOk.mk (own := [("_law_value_z", 8)]) (si_any (se_var 7)) (sg_name 8) sts_nil (se_call F.g_is_name F.c_is_name_1_ (sa_cons (se_var 8) sa_nil)) (by decide +kernel) (by decide +kernel) (by intro _ _; rfl)) fin_L) (sa_cons (se_mul (se_lst (sa_cons se_bl sa_nil)) se_int) sa_nil))))) (sss_one (ss_ret se_bl)) sss_nil)
 (sss_cons (ss_asg (hw := sw_of (by intros; kernel_rfl)) (se_tup (sa_cons (se_lst (sa_cons se_str (sa_cons se_str (sa_cons se_str (sa_cons se_str (sa_cons se_str (sa_cons se_str sa_nil))))))) (sa_cons (se_lst (sa_cons se_str (sa_cons se_str (sa_cons se_str sa_nil)))) sa_nil))) (sgm_tup (sgn_cons (sgm_name 9) (sgn_cons (sgm_name 10) sgn_nil))))
 (sss_cons (ss_if (st_not (st_of (se_call F.g__law_like F.c__law_like_2_ (sa_cons (se_lst (sa_cons (se_glo F.v_RULES) (sa_cons (se_glo F.v_WORDS) sa_nil))) (sa_cons (se_lst (sa_cons (se_tuple F.b_tuple (sa_cons (se_var 9) sa_nil)) (sa_cons (se_tuple F.b_tuple (sa_cons (se_var 10) sa_nil)) sa_nil))) sa_nil))))) (sss_one (ss_ret se_bl)) sss_nil)
 (sss_cons (ss_set 11 (se_add (se_add (se_add (se_var 9) (se_var 10)) (se_var 7)) (se_lst (sa_cons se_str (sa_cons se_str (sa_cons se_str (sa_cons (se_tup (sa_cons se_str sa_nil)) (sa_cons (se_lst (sa_cons se_str sa_nil)) (sa_cons (se_add (se_ix (se_var 2) se_int) se_str) sa_nil)))))))))
 (sss_cons (ss_if (st_not (st_of (se_call F.g__law_like F.c__law_like_2_ (sa_cons (se_add (se_lc (LcOk.mk (own := [("_law_value_z", 8)]) (si_any (se_var 11)) (sg_name 8) sts_nil (se_call F.g_is_rule F.c_is_rule_1_ (sa_cons (se_var 8) sa_nil)) (by decide +kernel) (by decide +kernel) (by intro _ _; rfl)) fin_L) (se_lst (sa_cons (se_callK0 F.g_is_rule F.c_is_rule_0_value (sk_cons se_str sk_nil)) sa_nil))) (sa_cons (se_add (se_lc (LcOk.mk (own := [("_law_value_z", 8)]) (si_any (se_var 11)) (sg_name 8) sts_nil (se_in (se_var 8) (se_var 9)) (by decide +kernel) (by decide +kernel) (by intro _ _; rfl)) fin_L) (se_lst (sa_cons se_bl sa_nil))) sa_nil))))) (sss_one (ss_ret se_bl)) sss_nil)
 (sss_cons (ss_if (st_not (st_of (se_call F.g__law_like F.c__law_like_2_ (sa_cons (se_add (se_lc (LcOk.mk (own := [("_law_value_z", 8)]) (si_any (se_var 11)) (sg_name 8) sts_nil (se_call F.g_is_word F.c_is_word_1_ (sa_cons (se_var 8) sa_nil)) (by decide +kernel) (by decide +kernel) (by intro _ _; rfl)) fin_L) (se_lst (sa_cons (se_callK0 F.g_is_word F.c_is_word_0_value (sk_cons se_str sk_nil)) sa_nil))) (sa_cons (se_add (se_lc (LcOk.mk (own := [("_law_value_z", 8)]) (si_any (se_var 11)) (sg_name 8) sts_nil (se_in (se_var 8) (se_var 10)) (by decide +kernel) (by decide +kernel) (by intro _ _; rfl)) fin_L) (se_lst (sa_cons se_bl sa_nil))) sa_nil))))) (sss_one (ss_ret se_bl)) sss_nil)
 (sss_cons (ss_par2 12 13 (sa_cons (se_sub (se_call F.g__law_pull F.c__law_pull_2_ (sa_cons (se_var 1) (sa_cons (se_pow se_int se_int) sa_nil))) se_int) (sa_cons (se_call F.g__law_pull F.c__law_pull_2_ (sa_cons (se_var 1) (sa_cons se_int sa_nil))) sa_nil)))
 (sss_cons (ss_for (si_rng2 F.b_range (sa_cons (se_sub (se_var 12) se_int) (sa_cons (se_add (se_add (se_var 12) (se_var 13)) se_int) sa_nil))) (sg_name 14) (sss_cons (ss_set 15 (se_and (se_le (se_var 12) (se_var 14)) (se_one (se_le (se_var 14) (se_add (se_var 12) (se_var 13))))))
 (sss_one (ss_if (st_not (st_of (se_call F.g__law_like F.c__law_like_2_ (sa_cons (se_lst (sa_cons (se_call F.g_is_number F.c_is_number_3_ (sa_cons (se_var 14) (sa_cons (se_var 12) (sa_cons (se_add (se_var 12) (se_var 13)) sa_nil)))) (sa_cons (se_callK0 F.g_is_number F.c_is_number_0_most_least_value (sk_cons (se_add (se_var 12) (se_var 13)) (sk_cons (se_var 12) (sk_cons (se_var 14) sk_nil)))) sa_nil))) (sa_cons (se_lst (sa_cons (se_var 15) (sa_cons (se_var 15) sa_nil))) sa_nil))))) (sss_one (ss_ret se_bl)) sss_nil))))
 (sss_one (ss_ret (se_call F.g__law_like F.c__law_like_2_ (sa_cons (se_lc (LcOk.mk (own := [("_law_value_z", 8)]) (si_any (se_lst (sa_cons se_non (sa_cons se_bl (sa_cons se_bl (sa_cons se_str (sa_cons (se_tup (sa_cons se_int sa_nil)) (sa_cons (se_lst (sa_cons se_int sa_nil)) (sa_cons se_str sa_nil))))))))) (sg_name 8) sts_nil (se_call F.g_is_number F.c_is_number_3_ (sa_cons (se_var 8) (sa_cons (se_sub se_int se_int) (sa_cons se_int sa_nil)))) (by decide +kernel) (by decide +kernel) (by intro _ _; rfl)) fin_L) (sa_cons (se_mul (se_lst (sa_cons se_bl sa_nil)) se_int) sa_nil)))))))))))))))))))))
theorem facts {P : Program} {w : World} {K : PySem.W.Frag} {mg : Str → Option Value} {base h : Heap} {cad : Nat → Addr} {fdd : Nat → FuncData} (X : K.In h) (G : h.Ns mainGlobals mg) (S : Stands es K fdd) (c : facB fas tus K = true) : Facts (mkG P w K mg base cad es fdd) where
  b_all := He.free_ok X G (fac_fa c 0 rfl)
  v_LETTERS := glo_str X G (fac_fa c 1 rfl)
  b_len := He.free_ok X G (fac_fa c 2 rfl)
  b_isinstance := He.free_ok X G (fac_fa c 3 rfl)
  b_str := He.free_ok X G (fac_fa c 4 rfl)
  v_RULES := glo_tup X G (fac_tu c 0 rfl) rfl
  v_WORDS := glo_tup X G (fac_tu c 1 rfl) rfl
  b_bool := He.free_ok X G (fac_fa c 5 rfl)
  b_int := He.free_ok X G (fac_fa c 6 rfl)
  b_list := He.free_ok X G (fac_fa c 7 rfl)
  c__law_pull_2_ := call_fn S (i := 5) rfl rfl rfl (fun _ _ _ _ _ _ us ws hu hw => match us, hu, ws, hw with | [_, _], _, [], _ => rfl)
  g__law_pull := glo_fn X G S (i := 5) (fac_fa c 8 rfl) rfl rfl
  b_tuple := He.free_ok X G (fac_fa c 9 rfl)
  b_zip := He.free_ok X G (fac_fa c 10 rfl)
  c__law_like_2_ := call_fn S (i := 7) rfl rfl rfl (fun _ _ _ _ _ _ us ws hu hw => match us, hu, ws, hw with | [_, _], _, [], _ => rfl)
  g__law_like := glo_fn X G S (i := 7) (fac_fa c 11 rfl) rfl rfl
  b_range := He.free_ok X G (fac_fa c 12 rfl)
  c__law_any_2_ := call_fn S (i := 6) rfl rfl rfl (fun _ _ _ _ _ _ us ws hu hw => match us, hu, ws, hw with | [_, _], _, [], _ => rfl)
  g__law_any := glo_fn X G S (i := 6) (fac_fa c 13 rfl) rfl rfl
  c_is_number_3_ := call_fn S (i := 3) rfl rfl rfl (fun _ _ _ _ _ _ us ws hu hw => match us, hu, ws, hw with | [_, _, _], _, [], _ => rfl)
  g_is_number := glo_fn X G S (i := 3) (fac_fa c 14 rfl) rfl rfl
  c_is_number_0_most_least_value := call_fn S (i := 3) rfl rfl rfl (fun _ _ _ _ _ _ us ws hu hw => match us, hu, ws, hw with | [], _, [_, _, _], _ => rfl)
  c_is_word_1_ := call_fn S (i := 2) rfl rfl rfl (fun _ _ _ _ _ _ us ws hu hw => match us, hu, ws, hw with | [_], _, [], _ => rfl)
  g_is_word := glo_fn X G S (i := 2) (fac_fa c 15 rfl) rfl rfl
  c_is_word_0_value := call_fn S (i := 2) rfl rfl rfl (fun _ _ _ _ _ _ us ws hu hw => match us, hu, ws, hw with | [], _, [_], _ => rfl)
  c_is_rule_1_ := call_fn S (i := 1) rfl rfl rfl (fun _ _ _ _ _ _ us ws hu hw => match us, hu, ws, hw with | [_], _, [], _ => rfl)
  g_is_rule := glo_fn X G S (i := 1) (fac_fa c 16 rfl) rfl rfl
  c_is_rule_0_value := call_fn S (i := 1) rfl rfl rfl (fun _ _ _ _ _ _ us ws hu hw => match us, hu, ws, hw with | [], _, [_], _ => rfl)
  c_is_name_1_ := call_fn S (i := 0) rfl rfl rfl (fun _ _ _ _ _ _ us ws hu hw => match us, hu, ws, hw with | [_], _, [], _ => rfl)
  g_is_name := glo_fn X G S (i := 0) (fac_fa c 17 rfl) rfl rfl
  c_is_name_0_value := call_fn S (i := 0) rfl rfl rfl (fun _ _ _ _ _ _ us ws hu hw => match us, hu, ws, hw with | [], _, [_], _ => rfl)
  c__law_new_names_2_ := call_fn S (i := 8) rfl rfl rfl (fun _ _ _ _ _ _ us ws hu hw => match us, hu, ws, hw with | [_, _], _, [], _ => rfl)
  g__law_new_names := glo_fn X G S (i := 8) (fac_fa c 18 rfl) rfl rfl
  c__law_draws_1_ := call_fn S (i := 4) rfl rfl rfl (fun _ _ _ _ _ _ us ws hu hw => match us, hu, ws, hw with | [_], _, [], _ => rfl)
  g__law_draws := glo_fn X G S (i := 4) (fac_fa c 19 rfl) rfl rfl
theorem d_all {P : Program} {w : World} {K : PySem.W.Frag} {mg : Str → Option Value} {base : Heap} {cad : Nat → Addr} {fdd : Nat → FuncData} (S : Stands es K fdd) (F : Facts (mkG P w K mg base cad es fdd)) : ∀ (i : Nat) (dd : MP.Def), (es.map Ent.df)[i]? = some dd → DefOk (mkG P w K mg base cad es fdd) i dd := by
  refine defs_ok S ?_ ?_
  · intro i e h
    match i, h with
    | 0, h => cases h; exact s_is_name
    | 1, h => cases h; exact s_is_rule
    | 2, h => cases h; exact s_is_word
    | 3, h => cases h; exact s_is_number
    | 4, h => cases h; exact s__law_draws
    | 5, h => cases h; exact s__law_pull
    | 6, h => cases h; exact s__law_any
    | 7, h => cases h; exact s__law_like
    | 8, h => cases h; exact s__law_new_names
    | 9, h => cases h; exact s_law
  · intro i e h
    match i, h with
    | 0, h => cases h; exact d_is_name F
    | 1, h => cases h; exact d_is_rule F
    | 2, h => cases h; exact d_is_word F
    | 3, h => cases h; exact d_is_number F
    | 4, h => cases h; exact d__law_draws F
    | 5, h => cases h; exact d__law_pull F
    | 6, h => cases h; exact d__law_any F
    | 7, h => cases h; exact d__law_like F
    | 8, h => cases h; exact d__law_new_names F
    | 9, h => cases h; exact d_law F
end LW
set_option maxHeartbeats 4000000
namespace LW
open PySem L2 Evl MP
local macro_rules | `(tactic| walk_at "mp") => `(tactic| try simp only [↓r_ok, ↓r_stuck, ↓r_exc, ↓r_v0, ↓r_vs, ↓r_con, ↓r_op2, ↓r_op1, ↓r_and, ↓r_or, ↓r_not, ↓k_and1, ↓k_or1, ↓k_not1, ↓r_if, ↓r_nil, ↓r_cons, ↓r_tup, ↓r_lst, ↓r_cel, ↓r_no, ↓r_some, ↓k_some, ↓r_sli, ↓r_calB, ↓r_cal, ↓r_mtl, ↓r_sm1, ↓k_sm1, ↓r_frz, ↓r_ch, ↓k_ch, ↓r_tst, ↓r_tcm, ↓k_bool, ↓r_andT, ↓r_orT, ↓r_notT, ↓r_yes, ↓r_its, ↓r_ran, ↓r_lc, ↓r_seq, ↓k_nx, ↓k_rt, ↓k_bk, ↓k_ct, ↓r_skip, ↓r_set, ↓r_ifS, ↓r_ret, ↓r_retN, ↓r_drop, ↓r_brk, ↓r_cnt, ↓r_par2, ↓r_par3, ↓k_par2, ↓k_par3, ↓r_asg, ↓r_nm, ↓r_sub, ↓k_sub, ↓r_tupM, ↓k_tup, ↓r_consM, ↓r_nilM, ↓r_for, ↓o_addI, ↓o_addT, ↓o_addL, ↓o_subI, ↓o_mulI, ↓o_mulL, ↓o_divI, ↓o_modI, ↓o_powI, ↓o_lt, ↓o_le, ↓o_gt, ↓o_ge, ↓o_eqI, ↓o_eqT, ↓o_eqB, ↓o_neI, ↓o_neT, ↓o_neB, ↓o_isN, ↓o_isI, ↓o_isB, ↓o_isT, ↓o_isL, ↓o_isU, ↓o_ty, ↓o_ty2, ↓o_ixL, ↓o_ixU, ↓o_ixT, ↓o_len_T, ↓o_len_L, ↓o_len_U, ↓o_lis_L, ↓o_lis_U, ↓o_lis_LC, ↓o_lis_UC, ↓o_tu_L, ↓o_tu_U, ↓o_int_I, ↓o_int_B, ↓o_tru_B, ↓o_tru_I, ↓o_tru_N, ↓o_tru_L, ↓o_tru_U, ↓o_tru_T, ↓o_wal_L, ↓o_wal_U, ↓o_wal_T, ↓o_rng1, ↓o_rng2, ↓o_zip_L, ↓o_zip_U, ↓o_finL, ↓o_finC, ↓o_all, ↓o_any, ↓o_slT, ↓o_slL, ↓o_slR, ↓o_in_T, y_non, y_bl, y_int, y_str, y_lst, y_tup, ↓atK_0, List.set_cons_zero, List.set_cons_succ, List.length_cons, List.length_nil, isb_list_NoneType, isb_list_bool, isb_list_int, isb_list_str, isb_list_list, isb_list_tuple, isb_list_dict, isb_tuple_NoneType, isb_tuple_bool, isb_tuple_int, isb_tuple_str, isb_tuple_list, isb_tuple_tuple, isb_tuple_dict, isb_int_NoneType, isb_int_bool, isb_int_int, isb_int_str, isb_int_list, isb_int_tuple, isb_int_dict, isb_str_NoneType, isb_str_bool, isb_str_int, isb_str_str, isb_str_list, isb_str_tuple, isb_str_dict, isb_bool_NoneType, isb_bool_bool, isb_bool_int, isb_bool_str, isb_bool_list, isb_bool_tuple, isb_bool_dict, isb_dict_NoneType, isb_dict_bool, isb_dict_int, isb_dict_str, isb_dict_list, isb_dict_tuple, isb_dict_dict, ↓reduceIte, Bool.false_eq_true, Bool.not_true, Bool.not_false, Bool.true_or, Bool.or_true, Bool.false_or, Bool.or_false, Bool.true_and, Bool.and_true, Bool.false_and, Bool.and_false, decide_true, decide_false, eq_self, reduceCtorEq, true_and, and_true, ↓atK_1, ↓atK_2, ↓atK_3, ↓atK_4, ↓atK_5, ↓atK_6, ↓atK_7, ↓atK_8, ↓atK_9, wipeD, r_v0, r_vs, big, Nat.reduceAdd, Nat.reduceMul, Nat.reduceLeDiff, Int.reduceLE, Int.reduceLT, Int.reduceToNat, Int.reduceAdd, Int.reduceSub, Int.reduceMul, Int.reduceNeg, Int.reducePow, List.map_cons, List.map_nil, List.cons_append, List.nil_append])
abbrev ds : List MP.Def := es.map Ent.df
theorem h5 : ds[5]? = some ⟨N_pull, L_pull⟩ := rfl
theorem h6 : ds[6]? = some ⟨N_any, L_any 5⟩ := rfl
theorem h7 : ds[7]? = some ⟨N_like, L_like 7⟩ := rfl
theorem h4 : ds[4]? = some ⟨N_draws, L_draws⟩ := rfl
theorem h8 : ds[8]? = some ⟨N_new_names, L_new_names 5 6⟩ := rfl
def letB (x : Str) : Bool := (ch x).all fun c => decide (c ∈ ch abc)
def nmB : D → Bool
  | .str x => decide (1 ≤ (ch x).length) && (decide ((ch x).length ≤ 8) && letB x)
  | _ => false
def small : D → Prop
  | .str x => x.length ≤ big
  | _ => True
def flt : D → Prop
  | .non => True
  | .bl _ => True
  | .int _ => True
  | .str x => x.length ≤ big
  | .tup _ => True
  | .lst _ => True
  | _ => False
theorem bools_map {α : Type} (f : α → Bool) : ∀ l : List α, bools (l.map fun a => .bl (f a)) = some (l.map f)
  | [] => rfl
  | a :: l => by
    show (bools (l.map fun a => .bl (f a))).map (f a :: ·) = _
    rw [bools_map f l]
    rfl
theorem name_sp {k : Nat} {d : D} {M : MS} {p : D → MS → Prop} (hd : flt d) (q : p (.bl (nmB d)) M) : Run (callP ds (k + 1) 0 [d] M) p := by
  refine r_call (d := ⟨["value", "sign"], f_is_name⟩) rfl ?_
  show Run (f_is_name (callP ds k) [some d, none] M) _
  unfold f_is_name
  cases d with
  | str x =>
    walk_at "mp"
    have hx : x.length ≤ big := hd
    refine ⟨hx, ?_⟩
    have e1 : decide ((1 : Int) ≤ (x.length : Int)) = decide (1 ≤ (ch x).length) := by rw [ch_len]; simp; omega
    have e2 : decide ((x.length : Int) ≤ 8) = decide ((ch x).length ≤ 8) := by rw [ch_len]; simp; omega
    rw [e1, e2]
    have q : p (.bl (decide (1 ≤ (ch x).length) && (decide ((ch x).length ≤ 8) && letB x))) M := q
    by_cases h1 : 1 ≤ (ch x).length
    · rw [if_pos (decide_eq_true h1)]
      rw [decide_eq_true h1, Bool.true_and] at q
      by_cases h2 : (ch x).length ≤ 8
      · rw [decide_eq_true h2, Bool.true_and] at q
        rw [decide_eq_true h2]
        walk_at "mp"
        refine ⟨by rw [List.length_map]; unfold ch at h2; omega, ?_⟩
        refine comp_map (fun d => match d with
          | .str s => .bl (decide ((ch s).headD 0 ∈ ch abc))
          | _ => .non) M _ (fun y hy => ?_) ?_
        · obtain ⟨c, hc, rfl⟩ := List.mem_map.mp hy
          refine ⟨[some (.str x), some (.str ⟨#[c]⟩)], rfl, rfl, rfl, ?_⟩
          walk_at "mp"
          try simp only [↓r_ok, ↓r_stuck, ↓r_exc, ↓r_v0, ↓r_vs, ↓r_con, ↓r_op2, ↓r_op1, ↓r_and, ↓r_or, ↓r_not, ↓k_and1, ↓k_or1, ↓k_not1, ↓r_if, ↓r_nil, ↓r_cons, ↓r_tup, ↓r_lst, ↓r_cel, ↓r_no, ↓r_some, ↓k_some, ↓r_sli, ↓r_calB, ↓r_cal, ↓r_mtl, ↓r_sm1, ↓k_sm1, ↓r_frz, ↓r_ch, ↓k_ch, ↓r_tst, ↓r_tcm, ↓k_bool, ↓r_andT, ↓r_orT, ↓r_notT, ↓r_yes, ↓r_its, ↓r_ran, ↓r_lc, ↓r_seq, ↓k_nx, ↓k_rt, ↓k_bk, ↓k_ct, ↓r_skip, ↓r_set, ↓r_ifS, ↓r_ret, ↓r_retN, ↓r_drop, ↓r_brk, ↓r_cnt, ↓r_par2, ↓r_par3, ↓k_par2, ↓k_par3, ↓r_asg, ↓r_nm, ↓r_sub, ↓k_sub, ↓r_tupM, ↓k_tup, ↓r_consM, ↓r_nilM, ↓r_for, ↓o_addI, ↓o_addT, ↓o_addL, ↓o_subI, ↓o_mulI, ↓o_mulL, ↓o_divI, ↓o_modI, ↓o_powI, ↓o_lt, ↓o_le, ↓o_gt, ↓o_ge, ↓o_eqI, ↓o_eqT, ↓o_eqB, ↓o_neI, ↓o_neT, ↓o_neB, ↓o_isN, ↓o_isI, ↓o_isB, ↓o_isT, ↓o_isL, ↓o_isU, ↓o_ty, ↓o_ty2, ↓o_ixL, ↓o_ixU, ↓o_ixT, ↓o_len_T, ↓o_len_L, ↓o_len_U, ↓o_lis_L, ↓o_lis_U, ↓o_lis_LC, ↓o_lis_UC, ↓o_tu_L, ↓o_tu_U, ↓o_int_I, ↓o_int_B, ↓o_tru_B, ↓o_tru_I, ↓o_tru_N, ↓o_tru_L, ↓o_tru_U, ↓o_tru_T, ↓o_wal_L, ↓o_wal_U, ↓o_wal_T, ↓o_rng1, ↓o_rng2, ↓o_zip_L, ↓o_zip_U, ↓o_finL, ↓o_finC, ↓o_all, ↓o_any, ↓o_slT, ↓o_slL, ↓o_slR, ↓o_in_T, y_non, y_bl, y_int, y_str, y_lst, y_tup, ↓atK_0, List.set_cons_zero, List.set_cons_succ, List.length_cons, List.length_nil, isb_list_NoneType, isb_list_bool, isb_list_int, isb_list_str, isb_list_list, isb_list_tuple, isb_list_dict, isb_tuple_NoneType, isb_tuple_bool, isb_tuple_int, isb_tuple_str, isb_tuple_list, isb_tuple_tuple, isb_tuple_dict, isb_int_NoneType, isb_int_bool, isb_int_int, isb_int_str, isb_int_list, isb_int_tuple, isb_int_dict, isb_str_NoneType, isb_str_bool, isb_str_int, isb_str_str, isb_str_list, isb_str_tuple, isb_str_dict, isb_bool_NoneType, isb_bool_bool, isb_bool_int, isb_bool_str, isb_bool_list, isb_bool_tuple, isb_bool_dict, isb_dict_NoneType, isb_dict_bool, isb_dict_int, isb_dict_str, isb_dict_list, isb_dict_tuple, isb_dict_dict, ↓reduceIte, Bool.false_eq_true, Bool.not_true, Bool.not_false, Bool.true_or, Bool.or_true, Bool.false_or, Bool.or_false, Bool.true_and, Bool.and_true, Bool.false_and, Bool.and_false, decide_true, decide_false, eq_self, reduceCtorEq, true_and, and_true, ↓atK_1, ↓atK_2, ↓atK_3, ↓atK_4, ↓atK_5, ↓atK_6, ↓atK_7, ↓atK_8, ↓atK_9, wipeD, r_v0, r_vs, big, Nat.reduceAdd, Nat.reduceMul, Nat.reduceLeDiff, Int.reduceLE, Int.reduceLT, Int.reduceToNat, Int.reduceAdd, Int.reduceSub, Int.reduceMul, Int.reduceNeg, Int.reducePow, List.map_cons, List.map_nil, List.cons_append, List.nil_append, o_in_T]
          rfl
        · rw [List.map_map]
          have e : (x.cps.toList.map ((fun d : D => match d with
            | .str s => D.bl (decide ((ch s).headD 0 ∈ ch abc))
            | _ => .non) ∘ fun k => D.str ⟨#[k]⟩)) = (ch x).map fun c => .bl (decide (c ∈ ch abc)) := rfl
          rw [e]
          try simp only [↓r_ok, ↓r_stuck, ↓r_exc, ↓r_v0, ↓r_vs, ↓r_con, ↓r_op2, ↓r_op1, ↓r_and, ↓r_or, ↓r_not, ↓k_and1, ↓k_or1, ↓k_not1, ↓r_if, ↓r_nil, ↓r_cons, ↓r_tup, ↓r_lst, ↓r_cel, ↓r_no, ↓r_some, ↓k_some, ↓r_sli, ↓r_calB, ↓r_cal, ↓r_mtl, ↓r_sm1, ↓k_sm1, ↓r_frz, ↓r_ch, ↓k_ch, ↓r_tst, ↓r_tcm, ↓k_bool, ↓r_andT, ↓r_orT, ↓r_notT, ↓r_yes, ↓r_its, ↓r_ran, ↓r_lc, ↓r_seq, ↓k_nx, ↓k_rt, ↓k_bk, ↓k_ct, ↓r_skip, ↓r_set, ↓r_ifS, ↓r_ret, ↓r_retN, ↓r_drop, ↓r_brk, ↓r_cnt, ↓r_par2, ↓r_par3, ↓k_par2, ↓k_par3, ↓r_asg, ↓r_nm, ↓r_sub, ↓k_sub, ↓r_tupM, ↓k_tup, ↓r_consM, ↓r_nilM, ↓r_for, ↓o_addI, ↓o_addT, ↓o_addL, ↓o_subI, ↓o_mulI, ↓o_mulL, ↓o_divI, ↓o_modI, ↓o_powI, ↓o_lt, ↓o_le, ↓o_gt, ↓o_ge, ↓o_eqI, ↓o_eqT, ↓o_eqB, ↓o_neI, ↓o_neT, ↓o_neB, ↓o_isN, ↓o_isI, ↓o_isB, ↓o_isT, ↓o_isL, ↓o_isU, ↓o_ty, ↓o_ty2, ↓o_ixL, ↓o_ixU, ↓o_ixT, ↓o_len_T, ↓o_len_L, ↓o_len_U, ↓o_lis_L, ↓o_lis_U, ↓o_lis_LC, ↓o_lis_UC, ↓o_tu_L, ↓o_tu_U, ↓o_int_I, ↓o_int_B, ↓o_tru_B, ↓o_tru_I, ↓o_tru_N, ↓o_tru_L, ↓o_tru_U, ↓o_tru_T, ↓o_wal_L, ↓o_wal_U, ↓o_wal_T, ↓o_rng1, ↓o_rng2, ↓o_zip_L, ↓o_zip_U, ↓o_finL, ↓o_finC, ↓o_all, ↓o_any, ↓o_slT, ↓o_slL, ↓o_slR, ↓o_in_T, y_non, y_bl, y_int, y_str, y_lst, y_tup, ↓atK_0, List.set_cons_zero, List.set_cons_succ, List.length_cons, List.length_nil, isb_list_NoneType, isb_list_bool, isb_list_int, isb_list_str, isb_list_list, isb_list_tuple, isb_list_dict, isb_tuple_NoneType, isb_tuple_bool, isb_tuple_int, isb_tuple_str, isb_tuple_list, isb_tuple_tuple, isb_tuple_dict, isb_int_NoneType, isb_int_bool, isb_int_int, isb_int_str, isb_int_list, isb_int_tuple, isb_int_dict, isb_str_NoneType, isb_str_bool, isb_str_int, isb_str_str, isb_str_list, isb_str_tuple, isb_str_dict, isb_bool_NoneType, isb_bool_bool, isb_bool_int, isb_bool_str, isb_bool_list, isb_bool_tuple, isb_bool_dict, isb_dict_NoneType, isb_dict_bool, isb_dict_int, isb_dict_str, isb_dict_list, isb_dict_tuple, isb_dict_dict, ↓reduceIte, Bool.false_eq_true, Bool.not_true, Bool.not_false, Bool.true_or, Bool.or_true, Bool.false_or, Bool.or_false, Bool.true_and, Bool.and_true, Bool.false_and, Bool.and_false, decide_true, decide_false, eq_self, reduceCtorEq, true_and, and_true, ↓atK_1, ↓atK_2, ↓atK_3, ↓atK_4, ↓atK_5, ↓atK_6, ↓atK_7, ↓atK_8, ↓atK_9, wipeD, r_v0, r_vs, big, Nat.reduceAdd, Nat.reduceMul, Nat.reduceLeDiff, Int.reduceLE, Int.reduceLT, Int.reduceToNat, Int.reduceAdd, Int.reduceSub, Int.reduceMul, Int.reduceNeg, Int.reducePow, List.map_cons, List.map_nil, List.cons_append, List.nil_append, bools_map]
          rw [List.all_map]
          exact q
      · rw [decide_eq_false h2, Bool.false_and] at q
        rw [decide_eq_false h2]
        walk_at "mp"
        exact q
    · rw [if_neg (by simpa using h1)]
      rw [decide_eq_false h1, Bool.false_and] at q
      walk_at "mp"
      exact q
  | non => walk_at "mp"; exact q
  | bl b => walk_at "mp"; exact q
  | int i => walk_at "mp"; exact q
  | tup es => walk_at "mp"; exact q
  | lst es => walk_at "mp"; exact q
  | _ => exact hd.elim
/-- is_rule, is_word -/
def inB (ts : List Str) : D → Bool
  | .str x => decide (x ∈ ts)
  | _ => false
theorem inD_str (x : Str) : ∀ ts : List Str, inD (.str x) (ts.map D.str) = decide (x ∈ ts)
  | [] => by simp [inD]
  | t :: ts => by
    show (decide _ || inD (.str x) (ts.map D.str)) = _
    rw [inD_str x ts]
    show ((t == x) || _) = _
    by_cases h : x = t
    · subst h; simp
    · have h2 : ¬ t = x := fun q => h q.symm
      simp [h, h2]
theorem flat_strs (ts : List Str) : (ts.map D.str).all flatD = true := by
  rw [List.all_map]
  exact List.all_eq_true.mpr fun _ _ => rfl
def rules : List Str := ["chain", "barred", "eldest", "newest", "all", "middle"]
def words : List Str := ["like", "unlike", "open"]
theorem rule_sp {k : Nat} {d : D} {M : MS} {p : D → MS → Prop} (hd : flt d) (q : p (.bl (inB rules d)) M) : Run (callP ds (k + 1) 1 [d] M) p := by
  refine r_call (d := ⟨["value"], f_is_rule⟩) rfl ?_
  show Run (f_is_rule (callP ds k) [some d] M) _
  unfold f_is_rule
  cases d with
  | str x =>
    have h := o_in_U (d := .str x) (ds := rules.map D.str) (M := M) (p := p) rfl (flat_strs rules)
    walk_at "mp"
    refine Eq.mpr h ?_
    rw [inD_str]
    exact q
  | non => walk_at "mp"; exact q
  | bl b => walk_at "mp"; exact q
  | int i => walk_at "mp"; exact q
  | tup es => walk_at "mp"; exact q
  | lst es => walk_at "mp"; exact q
  | _ => exact hd.elim
theorem word_sp {k : Nat} {d : D} {M : MS} {p : D → MS → Prop} (hd : flt d) (q : p (.bl (inB words d)) M) : Run (callP ds (k + 1) 2 [d] M) p := by
  refine r_call (d := ⟨["value"], f_is_word⟩) rfl ?_
  show Run (f_is_word (callP ds k) [some d] M) _
  unfold f_is_word
  cases d with
  | str x =>
    have h := o_in_U (d := .str x) (ds := words.map D.str) (M := M) (p := p) rfl (flat_strs words)
    walk_at "mp"
    refine Eq.mpr h ?_
    rw [inD_str]
    exact q
  | non => walk_at "mp"; exact q
  | bl b => walk_at "mp"; exact q
  | int i => walk_at "mp"; exact q
  | tup es => walk_at "mp"; exact q
  | lst es => walk_at "mp"; exact q
  | _ => exact hd.elim
def numB (l m : Int) : D → Bool
  | .int i => decide (l ≤ i) && decide (i ≤ m)
  | _ => false
theorem num_sp {k : Nat} {d : D} {l m : Int} {M : MS} {p : D → MS → Prop} (hd : flt d) (q : p (.bl (numB l m d)) M) : Run (callP ds (k + 1) 3 [d, .int l, .int m] M) p := by
  refine r_call (d := ⟨["value", "least", "most"], f_is_number⟩) rfl ?_
  show Run (f_is_number (callP ds k) [some d, some (.int l), some (.int m)] M) _
  unfold f_is_number
  cases d with
  | int i =>
    walk_at "mp"
    have q : p (.bl (decide (l ≤ i) && decide (i ≤ m))) M := q
    by_cases h : l ≤ i
    · rw [if_pos (decide_eq_true h)]
      rw [decide_eq_true h, Bool.true_and] at q
      exact q
    · rw [if_neg (by simpa using h)]
      rw [decide_eq_false h, Bool.false_and] at q
      exact q
  | non => walk_at "mp"; exact q
  | bl b => walk_at "mp"; exact q
  | str x => walk_at "mp"; exact q
  | tup es => walk_at "mp"; exact q
  | lst es => walk_at "mp"; exact q
  | _ => exact hd.elim

def odds (bent : Str) (x2 : Str) : List D := [.str bent, .non, .int 3, .bl true, .tup [.str "a"], .lst [.str "a"], .str (x2 ++ (" " : Str))]
theorem IsName.len {x : Str} (h : IsName x) : x.length ≤ 8 := by rw [ch_len]; exact h.2.1
theorem IsName.low {x : Str} (h : IsName x) : 1 ≤ x.length := by rw [ch_len]; exact h.1
theorem mem_abc {c : Nat} : c ∈ ch abc ↔ 97 ≤ c ∧ c ≤ 122 := by
  rw [ch_abc]
  constructor
  · intro h
    obtain ⟨i, hi, rfl⟩ := List.mem_map.mp h
    have := List.mem_range.mp hi
    omega
  · intro h
    exact List.mem_map.mpr ⟨c - 97, List.mem_range.mpr (by omega), by omega⟩
theorem IsName.nm {x : Str} (h : IsName x) : nmB (.str x) = true := by
  show (decide (1 ≤ (ch x).length) && (decide ((ch x).length ≤ 8) && (ch x).all fun c => decide (c ∈ ch abc))) = true
  rw [decide_eq_true h.1, decide_eq_true h.2.1, Bool.true_and, Bool.true_and]
  exact List.all_eq_true.mpr fun c hc => decide_eq_true (mem_abc.mpr (h.2.2 c hc))
theorem nm_bad {x : Str} {c : Nat} (hc : c ∈ ch x) (h : c ∉ ch abc) : nmB (.str x) = false := by
  have : letB x = false := by
    unfold letB
    refine Bool.eq_false_iff.mpr fun q => ?_
    exact h (of_decide_eq_true (List.all_eq_true.mp q c hc))
  show (decide (1 ≤ (ch x).length) && (decide ((ch x).length ≤ 8) && letB x)) = false
  rw [this, Bool.and_false, Bool.and_false]
theorem nm_long {x : Str} (h : 8 < (ch x).length) : nmB (.str x) = false := by
  show (decide (1 ≤ (ch x).length) && (decide ((ch x).length ≤ 8) && letB x)) = false
  rw [decide_eq_false (p := (ch x).length ≤ 8) (by omega), Bool.false_and, Bool.and_false]
theorem odd_sign {d : D} (h : d ∈ [D.str "A", .str "1", .str " ", .str "-", .str "_", .str "+", .str "Z", .str "\n"]) : ∃ (z : Str) (c : Nat), d = .str z ∧ ch z = [c] ∧ c ∉ ch abc := by
  simp only [List.mem_cons, List.not_mem_nil, or_false] at h
  rcases h with rfl | rfl | rfl | rfl | rfl | rfl | rfl | rfl
  · exact ⟨_, 65, rfl, by decide +kernel, by decide +kernel⟩
  · exact ⟨_, 49, rfl, by decide +kernel, by decide +kernel⟩
  · exact ⟨_, 32, rfl, by decide +kernel, by decide +kernel⟩
  · exact ⟨_, 45, rfl, by decide +kernel, by decide +kernel⟩
  · exact ⟨_, 95, rfl, by decide +kernel, by decide +kernel⟩
  · exact ⟨_, 43, rfl, by decide +kernel, by decide +kernel⟩
  · exact ⟨_, 90, rfl, by decide +kernel, by decide +kernel⟩
  · exact ⟨_, 10, rfl, by decide +kernel, by decide +kernel⟩
theorem tk_len {x : Str} {a : Int} (h : 0 ≤ a) : (cutS x none (some a)).length ≤ x.length := by
  rw [ch_len, ch_take h, List.length_take, ch_len]
  omega
theorem dr_len {x : Str} {a : Int} (h : 0 ≤ a) : (cutS x (some a) none).length ≤ x.length := by
  rw [ch_len, ch_drop h, List.length_drop, ch_len]
  omega
theorem app_len (x y : Str) : (x ++ y).length = x.length + y.length := by
  rw [ch_len, ch_app, List.length_append, ← ch_len, ← ch_len]
theorem ok_app {x y : Str} (h : IsName x) (hy : ∀ c ∈ ch y, 97 ≤ c ∧ c ≤ 122) (n : Int) (hn : 1 ≤ n) (hn2 : n ≤ 8) : IsName (cutS (x ++ y) none (some n)) := by
  refine ⟨?_, ?_, fun c hc => ?_⟩
  · rw [ch_take (by omega), ch_app, List.length_take, List.length_append]
    have := h.1
    omega
  · rw [ch_take (by omega), List.length_take]
    omega
  · rw [ch_take (by omega), ch_app] at hc
    rcases List.mem_append.mp (List.mem_of_mem_take hc) with q | q
    · exact h.2.2 c q
    · exact hy c q
theorem selK {a : D} : selD [0] [] [] [a] = [a] := rfl
theorem selK3 {a b c : D} : selD [2, 1, 0] [] [] [a, b, c] = [c, b, a] := rfl
theorem like_eq {a b d : D} {k : Nat} {M : MS} {p : D → MS → Prop} (ha : a = d) (hb : b = d) (h : LkD k d = true) (q : p (.bl true) M) : Run (callP ds k 7 [a, b] M) p := by
  rw [ha, hb]
  exact like_refl h7 k d M p h q
/-- a comprehension of a test over rows -/
theorem comp_F {bd : Bnd} {f : MP.Env → MS → R D} {cf : CF} {ds : MP.Env} {pa : List D → MS → Prop} (F : D → D) (M : MS) (xs : List D) (hx : ∀ x ∈ xs, ∃ ds1, bd x ds = some ds1 ∧ ∀ p : D → MS → Prop, p (F x) M → Run (f ds1 M) p) (h : pa (xs.map F) M) : Run (compL bd (yesT cf) f ds xs M) pa :=
  comp_map F M xs (fun x hx' => let ⟨ds1, e, q⟩ := hx x hx'
    ⟨ds1, e, rfl, rfl, q _ ⟨rfl, rfl⟩⟩) h
theorem inR_ta {M : MS} {p : D → MS → Prop} : Run (inG false (.tup [.str "a"]) (.lst (rules.map D.str)) M) p = p (.bl false) M := by kernel_rfl
theorem inR_la {M : MS} {p : D → MS → Prop} : Run (inG false (.lst [.str "a"]) (.lst (rules.map D.str)) M) p = p (.bl false) M := by kernel_rfl
theorem inR_tc {M : MS} {p : D → MS → Prop} : Run (inG false (.tup [.str "chain"]) (.lst (rules.map D.str)) M) p = p (.bl false) M := by kernel_rfl
theorem inR_ll {M : MS} {p : D → MS → Prop} : Run (inG false (.lst [.str "like"]) (.lst (rules.map D.str)) M) p = p (.bl false) M := by kernel_rfl
theorem inW_ta {M : MS} {p : D → MS → Prop} : Run (inG false (.tup [.str "a"]) (.lst (words.map D.str)) M) p = p (.bl false) M := by kernel_rfl
theorem inW_la {M : MS} {p : D → MS → Prop} : Run (inG false (.lst [.str "a"]) (.lst (words.map D.str)) M) p = p (.bl false) M := by kernel_rfl
theorem inW_tc {M : MS} {p : D → MS → Prop} : Run (inG false (.tup [.str "chain"]) (.lst (words.map D.str)) M) p = p (.bl false) M := by kernel_rfl
theorem inW_ll {M : MS} {p : D → MS → Prop} : Run (inG false (.lst [.str "like"]) (.lst (words.map D.str)) M) p = p (.bl false) M := by kernel_rfl
def somel (bent spaced zed : Str) : List D := [.str "chain", .str "barred", .str "eldest", .str "newest", .str "all", .str "middle", .str "like", .str "unlike", .str "open", .str bent, .non, .int 3, .bl true, .tup [.str "a"], .lst [.str "a"], .str spaced, .str "Chain", .str "like ", .str "", .tup [.str "chain"], .lst [.str "like"], .str zed]
theorem in_flat {ts : List Str} {d : D} {M : MS} {p : D → MS → Prop} (hd : (∃ x, d = .str x) ∨ d = .non ∨ d = .int 3 ∨ d = .bl true) (q : p (.bl (inB ts d)) M) : Run (inG false d (.lst (ts.map D.str)) M) p := by
  have hno : ∀ d : D, (d = .non ∨ d = .int 3 ∨ d = .bl true) → inD d (ts.map D.str) = false := by
    intro d h
    unfold inD
    rw [List.any_map]
    refine Bool.eq_false_iff.mpr fun h2 => ?_
    obtain ⟨t, _, h3⟩ := List.any_eq_true.mp h2
    rcases h with rfl | rfl | rfl <;> exact Bool.noConfusion h3
  rcases hd with ⟨x, rfl⟩ | rfl | rfl | rfl
  · rw [o_in_L rfl (flat_strs ts), inD_str]; exact q
  · rw [o_in_L rfl (flat_strs ts), hno _ (.inl rfl)]; exact q
  · rw [o_in_L rfl (flat_strs ts), hno _ (.inr (.inl rfl))]; exact q
  · rw [o_in_L rfl (flat_strs ts), hno _ (.inr (.inr rfl))]; exact q
theorem some_sp {bent spaced zed : Str} (hb : bent.length ≤ 20) (hs : spaced.length ≤ 20) (hz : zed.length ≤ 20) {x : D} (hx : x ∈ somel bent spaced zed) : flt x ∧ ∀ (M : MS) (p : D → MS → Prop), (p (.bl (inB rules x)) M → Run (inG false x (.lst (rules.map D.str)) M) p) ∧ (p (.bl (inB words x)) M → Run (inG false x (.lst (words.map D.str)) M) p) := by
  have big0 : big = 1000000 := rfl
  unfold somel at hx
  simp only [List.mem_cons, List.not_mem_nil, or_false] at hx
  have fs : ∀ z : Str, z.length ≤ big → flt (.str z) ∧ ∀ (M : MS) (p : D → MS → Prop), (p (.bl (inB rules (.str z))) M → Run (inG false (.str z) (.lst (rules.map D.str)) M) p) ∧ (p (.bl (inB words (.str z))) M → Run (inG false (.str z) (.lst (words.map D.str)) M) p) := fun z hz =>
    ⟨hz, fun M p => ⟨in_flat (.inl ⟨z, rfl⟩), in_flat (.inl ⟨z, rfl⟩)⟩⟩
  rcases hx with rfl | rfl | rfl | rfl | rfl | rfl | rfl | rfl | rfl | rfl | rfl | rfl | rfl | rfl | rfl | rfl | rfl | rfl | rfl | rfl | rfl | rfl
  all_goals first
    | exact ⟨trivial, fun M p => ⟨in_flat (.inr (.inl rfl)), in_flat (.inr (.inl rfl))⟩⟩
    | (refine fs _ ?_; omega)
    | (refine fs _ ?_; decide +kernel)
    | exact ⟨trivial, fun M p => ⟨in_flat (.inr (.inl rfl)), in_flat (.inr (.inl rfl))⟩⟩
    | exact ⟨trivial, fun M p => ⟨in_flat (.inr (.inr (.inl rfl))), in_flat (.inr (.inr (.inl rfl)))⟩⟩
    | exact ⟨trivial, fun M p => ⟨in_flat (.inr (.inr (.inr rfl))), in_flat (.inr (.inr (.inr rfl)))⟩⟩
    | exact ⟨trivial, fun M p => ⟨fun q => Eq.mpr inR_ta q, fun q => Eq.mpr inW_ta q⟩⟩
    | exact ⟨trivial, fun M p => ⟨fun q => Eq.mpr inR_la q, fun q => Eq.mpr inW_la q⟩⟩
    | exact ⟨trivial, fun M p => ⟨fun q => Eq.mpr inR_tc q, fun q => Eq.mpr inW_tc q⟩⟩
    | exact ⟨trivial, fun M p => ⟨fun q => Eq.mpr inR_ll q, fun q => Eq.mpr inW_ll q⟩⟩
theorem LkD_bls {k : Nat} {l : List D} (h : ∀ x ∈ l, ∃ b, x = .bl b) (hl : l.length ≤ big) : LkD (k + 2) (.lst l) = true := by
  show (decide (l.length ≤ big) && l.all (LkD (k + 1))) = true
  rw [decide_eq_true hl, Bool.true_and]
  refine List.all_eq_true.mpr fun x hx => ?_
  obtain ⟨b, rfl⟩ := h x hx
  rfl
theorem bls_of {f : D → Bool} {sl : List D} : ∀ x ∈ (sl.map fun d => D.bl (f d)) ++ [D.bl true], ∃ b, x = .bl b := by
  intro x hx
  rcases List.mem_append.mp hx with q | q
  · obtain ⟨d, _, rfl⟩ := List.mem_map.mp q
    exact ⟨_, rfl⟩
  · exact ⟨true, List.mem_singleton.mp q⟩
theorem run (ns : List Int) (hl : ns.length ≤ 63) : ∃ M, callP (es.map Ent.df) 100 9 [.scr ns] [] = .ok (.bl true) M := by
  suffices h : Run (callP ds 100 9 [.scr ns] []) fun d _ => d = .bl true by
    obtain ⟨d, M, e, rfl⟩ := h.mp
    exact ⟨M, e⟩
  refine r_call (d := ⟨e_law.N, f_law⟩) rfl ?_
  show Run (f_law (callP ds 99) [some (.scr ns), none, none, none, none, none, none, none, none, none, none, none, none, none, none, none] []) _
  unfold f_law
  refine run_seq fun P hP hR => ?_
  try simp only [↓r_ok, ↓r_stuck, ↓r_exc, ↓r_v0, ↓r_vs, ↓r_con, ↓r_op2, ↓r_op1, ↓r_and, ↓r_or, ↓r_not, ↓k_and1, ↓k_or1, ↓k_not1, ↓r_if, ↓r_nil, ↓r_cons, ↓r_tup, ↓r_lst, ↓r_cel, ↓r_no, ↓r_some, ↓k_some, ↓r_sli, ↓r_calB, ↓r_cal, ↓r_mtl, ↓r_sm1, ↓k_sm1, ↓r_frz, ↓r_ch, ↓k_ch, ↓r_tst, ↓r_tcm, ↓k_bool, ↓r_andT, ↓r_orT, ↓r_notT, ↓r_yes, ↓r_its, ↓r_ran, ↓r_lc, ↓r_seq, ↓k_nx, ↓k_rt, ↓k_bk, ↓k_ct, ↓r_skip, ↓r_set, ↓r_ifS, ↓r_ret, ↓r_retN, ↓r_drop, ↓r_brk, ↓r_cnt, ↓r_par2, ↓r_par3, ↓k_par2, ↓k_par3, ↓r_asg, ↓r_nm, ↓r_sub, ↓k_sub, ↓r_tupM, ↓k_tup, ↓r_consM, ↓r_nilM, ↓r_for, ↓o_addI, ↓o_addT, ↓o_addL, ↓o_subI, ↓o_mulI, ↓o_mulL, ↓o_divI, ↓o_modI, ↓o_powI, ↓o_lt, ↓o_le, ↓o_gt, ↓o_ge, ↓o_eqI, ↓o_eqT, ↓o_eqB, ↓o_neI, ↓o_neT, ↓o_neB, ↓o_isN, ↓o_isI, ↓o_isB, ↓o_isT, ↓o_isL, ↓o_isU, ↓o_ty, ↓o_ty2, ↓o_ixL, ↓o_ixU, ↓o_ixT, ↓o_len_T, ↓o_len_L, ↓o_len_U, ↓o_lis_L, ↓o_lis_U, ↓o_lis_LC, ↓o_lis_UC, ↓o_tu_L, ↓o_tu_U, ↓o_int_I, ↓o_int_B, ↓o_tru_B, ↓o_tru_I, ↓o_tru_N, ↓o_tru_L, ↓o_tru_U, ↓o_tru_T, ↓o_wal_L, ↓o_wal_U, ↓o_wal_T, ↓o_rng1, ↓o_rng2, ↓o_zip_L, ↓o_zip_U, ↓o_finL, ↓o_finC, ↓o_all, ↓o_any, ↓o_slT, ↓o_slL, ↓o_slR, ↓o_in_T, y_non, y_bl, y_int, y_str, y_lst, y_tup, ↓atK_0, List.set_cons_zero, List.set_cons_succ, List.length_cons, List.length_nil, isb_list_NoneType, isb_list_bool, isb_list_int, isb_list_str, isb_list_list, isb_list_tuple, isb_list_dict, isb_tuple_NoneType, isb_tuple_bool, isb_tuple_int, isb_tuple_str, isb_tuple_list, isb_tuple_tuple, isb_tuple_dict, isb_int_NoneType, isb_int_bool, isb_int_int, isb_int_str, isb_int_list, isb_int_tuple, isb_int_dict, isb_str_NoneType, isb_str_bool, isb_str_int, isb_str_str, isb_str_list, isb_str_tuple, isb_str_dict, isb_bool_NoneType, isb_bool_bool, isb_bool_int, isb_bool_str, isb_bool_list, isb_bool_tuple, isb_bool_dict, isb_dict_NoneType, isb_dict_bool, isb_dict_int, isb_dict_str, isb_dict_list, isb_dict_tuple, isb_dict_dict, ↓reduceIte, Bool.false_eq_true, Bool.not_true, Bool.not_false, Bool.true_or, Bool.or_true, Bool.false_or, Bool.or_false, Bool.true_and, Bool.and_true, Bool.false_and, Bool.and_false, decide_true, decide_false, eq_self, reduceCtorEq, true_and, and_true, ↓atK_1, ↓atK_2, ↓atK_3, ↓atK_4, ↓atK_5, ↓atK_6, ↓atK_7, ↓atK_8, ↓atK_9, wipeD, r_v0, r_vs, big, Nat.reduceAdd, Nat.reduceMul, Nat.reduceLeDiff, Int.reduceLE, Int.reduceLT, Int.reduceToNat, Int.reduceAdd, Int.reduceSub, Int.reduceMul, Int.reduceNeg, Int.reducePow, List.map_cons, List.map_nil, List.cons_append, List.nil_append, ↓sel1]
  refine draws_sp h4 fun M1 hB1 hc => hP _ _ ?_
  clear hP hR
  refine run_seq fun P hP hR => ?_
  try simp only [↓r_ok, ↓r_stuck, ↓r_exc, ↓r_v0, ↓r_vs, ↓r_con, ↓r_op2, ↓r_op1, ↓r_and, ↓r_or, ↓r_not, ↓k_and1, ↓k_or1, ↓k_not1, ↓r_if, ↓r_nil, ↓r_cons, ↓r_tup, ↓r_lst, ↓r_cel, ↓r_no, ↓r_some, ↓k_some, ↓r_sli, ↓r_calB, ↓r_cal, ↓r_mtl, ↓r_sm1, ↓k_sm1, ↓r_frz, ↓r_ch, ↓k_ch, ↓r_tst, ↓r_tcm, ↓k_bool, ↓r_andT, ↓r_orT, ↓r_notT, ↓r_yes, ↓r_its, ↓r_ran, ↓r_lc, ↓r_seq, ↓k_nx, ↓k_rt, ↓k_bk, ↓k_ct, ↓r_skip, ↓r_set, ↓r_ifS, ↓r_ret, ↓r_retN, ↓r_drop, ↓r_brk, ↓r_cnt, ↓r_par2, ↓r_par3, ↓k_par2, ↓k_par3, ↓r_asg, ↓r_nm, ↓r_sub, ↓k_sub, ↓r_tupM, ↓k_tup, ↓r_consM, ↓r_nilM, ↓r_for, ↓o_addI, ↓o_addT, ↓o_addL, ↓o_subI, ↓o_mulI, ↓o_mulL, ↓o_divI, ↓o_modI, ↓o_powI, ↓o_lt, ↓o_le, ↓o_gt, ↓o_ge, ↓o_eqI, ↓o_eqT, ↓o_eqB, ↓o_neI, ↓o_neT, ↓o_neB, ↓o_isN, ↓o_isI, ↓o_isB, ↓o_isT, ↓o_isL, ↓o_isU, ↓o_ty, ↓o_ty2, ↓o_ixL, ↓o_ixU, ↓o_ixT, ↓o_len_T, ↓o_len_L, ↓o_len_U, ↓o_lis_L, ↓o_lis_U, ↓o_lis_LC, ↓o_lis_UC, ↓o_tu_L, ↓o_tu_U, ↓o_int_I, ↓o_int_B, ↓o_tru_B, ↓o_tru_I, ↓o_tru_N, ↓o_tru_L, ↓o_tru_U, ↓o_tru_T, ↓o_wal_L, ↓o_wal_U, ↓o_wal_T, ↓o_rng1, ↓o_rng2, ↓o_zip_L, ↓o_zip_U, ↓o_finL, ↓o_finC, ↓o_all, ↓o_any, ↓o_slT, ↓o_slL, ↓o_slR, ↓o_in_T, y_non, y_bl, y_int, y_str, y_lst, y_tup, ↓atK_0, List.set_cons_zero, List.set_cons_succ, List.length_cons, List.length_nil, isb_list_NoneType, isb_list_bool, isb_list_int, isb_list_str, isb_list_list, isb_list_tuple, isb_list_dict, isb_tuple_NoneType, isb_tuple_bool, isb_tuple_int, isb_tuple_str, isb_tuple_list, isb_tuple_tuple, isb_tuple_dict, isb_int_NoneType, isb_int_bool, isb_int_int, isb_int_str, isb_int_list, isb_int_tuple, isb_int_dict, isb_str_NoneType, isb_str_bool, isb_str_int, isb_str_str, isb_str_list, isb_str_tuple, isb_str_dict, isb_bool_NoneType, isb_bool_bool, isb_bool_int, isb_bool_str, isb_bool_list, isb_bool_tuple, isb_bool_dict, isb_dict_NoneType, isb_dict_bool, isb_dict_int, isb_dict_str, isb_dict_list, isb_dict_tuple, isb_dict_dict, ↓reduceIte, Bool.false_eq_true, Bool.not_true, Bool.not_false, Bool.true_or, Bool.or_true, Bool.false_or, Bool.or_false, Bool.true_and, Bool.and_true, Bool.false_and, Bool.and_false, decide_true, decide_false, eq_self, reduceCtorEq, true_and, and_true, ↓atK_1, ↓atK_2, ↓atK_3, ↓atK_4, ↓atK_5, ↓atK_6, ↓atK_7, ↓atK_8, ↓atK_9, wipeD, r_v0, r_vs, big, Nat.reduceAdd, Nat.reduceMul, Nat.reduceLeDiff, Int.reduceLE, Int.reduceLT, Int.reduceToNat, Int.reduceAdd, Int.reduceSub, Int.reduceMul, Int.reduceNeg, Int.reducePow, List.map_cons, List.map_nil, List.cons_append, List.nil_append, ↓sel2]
  refine new_names_sp (m := 4) h8 h5 h6 hB1 (by decide) fun xs M2 hxl hnd hxs hB2 hO2 => hP _ _ ?_
  clear hP hR
  obtain ⟨x0, x1, x2, x3, rfl⟩ : ∃ a b c d, xs = [a, b, c, d] := by
    match xs, hxl with
    | [a, b, c, d], _ => exact ⟨a, b, c, d, rfl⟩
  have n0 := hxs x0 (by simp)
  have n1 := hxs x1 (by simp)
  have n2 := hxs x2 (by simp)
  have n3 := hxs x3 (by simp)
  have l0 := IsName.len n0
  have l1 := IsName.len n1
  have l2 := IsName.len n2
  have l3 := IsName.len n3
  have big0 : big = 1000000 := rfl
  refine run_seq fun P hP hR => ?_
  try simp only [↓r_ok, ↓r_stuck, ↓r_exc, ↓r_v0, ↓r_vs, ↓r_con, ↓r_op2, ↓r_op1, ↓r_and, ↓r_or, ↓r_not, ↓k_and1, ↓k_or1, ↓k_not1, ↓r_if, ↓r_nil, ↓r_cons, ↓r_tup, ↓r_lst, ↓r_cel, ↓r_no, ↓r_some, ↓k_some, ↓r_sli, ↓r_calB, ↓r_cal, ↓r_mtl, ↓r_sm1, ↓k_sm1, ↓r_frz, ↓r_ch, ↓k_ch, ↓r_tst, ↓r_tcm, ↓k_bool, ↓r_andT, ↓r_orT, ↓r_notT, ↓r_yes, ↓r_its, ↓r_ran, ↓r_lc, ↓r_seq, ↓k_nx, ↓k_rt, ↓k_bk, ↓k_ct, ↓r_skip, ↓r_set, ↓r_ifS, ↓r_ret, ↓r_retN, ↓r_drop, ↓r_brk, ↓r_cnt, ↓r_par2, ↓r_par3, ↓k_par2, ↓k_par3, ↓r_asg, ↓r_nm, ↓r_sub, ↓k_sub, ↓r_tupM, ↓k_tup, ↓r_consM, ↓r_nilM, ↓r_for, ↓o_addI, ↓o_addT, ↓o_addL, ↓o_subI, ↓o_mulI, ↓o_mulL, ↓o_divI, ↓o_modI, ↓o_powI, ↓o_lt, ↓o_le, ↓o_gt, ↓o_ge, ↓o_eqI, ↓o_eqT, ↓o_eqB, ↓o_neI, ↓o_neT, ↓o_neB, ↓o_isN, ↓o_isI, ↓o_isB, ↓o_isT, ↓o_isL, ↓o_isU, ↓o_ty, ↓o_ty2, ↓o_ixL, ↓o_ixU, ↓o_ixT, ↓o_len_T, ↓o_len_L, ↓o_len_U, ↓o_lis_L, ↓o_lis_U, ↓o_lis_LC, ↓o_lis_UC, ↓o_tu_L, ↓o_tu_U, ↓o_int_I, ↓o_int_B, ↓o_tru_B, ↓o_tru_I, ↓o_tru_N, ↓o_tru_L, ↓o_tru_U, ↓o_tru_T, ↓o_wal_L, ↓o_wal_U, ↓o_wal_T, ↓o_rng1, ↓o_rng2, ↓o_zip_L, ↓o_zip_U, ↓o_finL, ↓o_finC, ↓o_all, ↓o_any, ↓o_slT, ↓o_slL, ↓o_slR, ↓o_in_T, y_non, y_bl, y_int, y_str, y_lst, y_tup, ↓atK_0, List.set_cons_zero, List.set_cons_succ, List.length_cons, List.length_nil, isb_list_NoneType, isb_list_bool, isb_list_int, isb_list_str, isb_list_list, isb_list_tuple, isb_list_dict, isb_tuple_NoneType, isb_tuple_bool, isb_tuple_int, isb_tuple_str, isb_tuple_list, isb_tuple_tuple, isb_tuple_dict, isb_int_NoneType, isb_int_bool, isb_int_int, isb_int_str, isb_int_list, isb_int_tuple, isb_int_dict, isb_str_NoneType, isb_str_bool, isb_str_int, isb_str_str, isb_str_list, isb_str_tuple, isb_str_dict, isb_bool_NoneType, isb_bool_bool, isb_bool_int, isb_bool_str, isb_bool_list, isb_bool_tuple, isb_bool_dict, isb_dict_NoneType, isb_dict_bool, isb_dict_int, isb_dict_str, isb_dict_list, isb_dict_tuple, isb_dict_dict, ↓reduceIte, Bool.false_eq_true, Bool.not_true, Bool.not_false, Bool.true_or, Bool.or_true, Bool.false_or, Bool.or_false, Bool.true_and, Bool.and_true, Bool.false_and, Bool.and_false, decide_true, decide_false, eq_self, reduceCtorEq, true_and, and_true, ↓atK_1, ↓atK_2, ↓atK_3, ↓atK_4, ↓atK_5, ↓atK_6, ↓atK_7, ↓atK_8, ↓atK_9, wipeD, r_v0, r_vs, big, Nat.reduceAdd, Nat.reduceMul, Nat.reduceLeDiff, Int.reduceLE, Int.reduceLT, Int.reduceToNat, Int.reduceAdd, Int.reduceSub, Int.reduceMul, Int.reduceNeg, Int.reducePow, List.map_cons, List.map_nil, List.cons_append, List.nil_append, ↓sel2, List.map]
  refine ⟨by omega, pull_sp h5 hB2 (by omega) (by omega) fun at_ M3 a0 a1 hB3 hO3 => hP _ _ ?_⟩
  clear hP hR
  refine run_seq fun P hP hR => ?_
  try simp only [↓r_ok, ↓r_stuck, ↓r_exc, ↓r_v0, ↓r_vs, ↓r_con, ↓r_op2, ↓r_op1, ↓r_and, ↓r_or, ↓r_not, ↓k_and1, ↓k_or1, ↓k_not1, ↓r_if, ↓r_nil, ↓r_cons, ↓r_tup, ↓r_lst, ↓r_cel, ↓r_no, ↓r_some, ↓k_some, ↓r_sli, ↓r_calB, ↓r_cal, ↓r_mtl, ↓r_sm1, ↓k_sm1, ↓r_frz, ↓r_ch, ↓k_ch, ↓r_tst, ↓r_tcm, ↓k_bool, ↓r_andT, ↓r_orT, ↓r_notT, ↓r_yes, ↓r_its, ↓r_ran, ↓r_lc, ↓r_seq, ↓k_nx, ↓k_rt, ↓k_bk, ↓k_ct, ↓r_skip, ↓r_set, ↓r_ifS, ↓r_ret, ↓r_retN, ↓r_drop, ↓r_brk, ↓r_cnt, ↓r_par2, ↓r_par3, ↓k_par2, ↓k_par3, ↓r_asg, ↓r_nm, ↓r_sub, ↓k_sub, ↓r_tupM, ↓k_tup, ↓r_consM, ↓r_nilM, ↓r_for, ↓o_addI, ↓o_addT, ↓o_addL, ↓o_subI, ↓o_mulI, ↓o_mulL, ↓o_divI, ↓o_modI, ↓o_powI, ↓o_lt, ↓o_le, ↓o_gt, ↓o_ge, ↓o_eqI, ↓o_eqT, ↓o_eqB, ↓o_neI, ↓o_neT, ↓o_neB, ↓o_isN, ↓o_isI, ↓o_isB, ↓o_isT, ↓o_isL, ↓o_isU, ↓o_ty, ↓o_ty2, ↓o_ixL, ↓o_ixU, ↓o_ixT, ↓o_len_T, ↓o_len_L, ↓o_len_U, ↓o_lis_L, ↓o_lis_U, ↓o_lis_LC, ↓o_lis_UC, ↓o_tu_L, ↓o_tu_U, ↓o_int_I, ↓o_int_B, ↓o_tru_B, ↓o_tru_I, ↓o_tru_N, ↓o_tru_L, ↓o_tru_U, ↓o_tru_T, ↓o_wal_L, ↓o_wal_U, ↓o_wal_T, ↓o_rng1, ↓o_rng2, ↓o_zip_L, ↓o_zip_U, ↓o_finL, ↓o_finC, ↓o_all, ↓o_any, ↓o_slT, ↓o_slL, ↓o_slR, ↓o_in_T, y_non, y_bl, y_int, y_str, y_lst, y_tup, ↓atK_0, List.set_cons_zero, List.set_cons_succ, List.length_cons, List.length_nil, isb_list_NoneType, isb_list_bool, isb_list_int, isb_list_str, isb_list_list, isb_list_tuple, isb_list_dict, isb_tuple_NoneType, isb_tuple_bool, isb_tuple_int, isb_tuple_str, isb_tuple_list, isb_tuple_tuple, isb_tuple_dict, isb_int_NoneType, isb_int_bool, isb_int_int, isb_int_str, isb_int_list, isb_int_tuple, isb_int_dict, isb_str_NoneType, isb_str_bool, isb_str_int, isb_str_str, isb_str_list, isb_str_tuple, isb_str_dict, isb_bool_NoneType, isb_bool_bool, isb_bool_int, isb_bool_str, isb_bool_list, isb_bool_tuple, isb_bool_dict, isb_dict_NoneType, isb_dict_bool, isb_dict_int, isb_dict_str, isb_dict_list, isb_dict_tuple, isb_dict_dict, ↓reduceIte, Bool.false_eq_true, Bool.not_true, Bool.not_false, Bool.true_or, Bool.or_true, Bool.false_or, Bool.or_false, Bool.true_and, Bool.and_true, Bool.false_and, Bool.and_false, decide_true, decide_false, eq_self, reduceCtorEq, true_and, and_true, ↓atK_1, ↓atK_2, ↓atK_3, ↓atK_4, ↓atK_5, ↓atK_6, ↓atK_7, ↓atK_8, ↓atK_9, wipeD, r_v0, r_vs, big, Nat.reduceAdd, Nat.reduceMul, Nat.reduceLeDiff, Int.reduceLE, Int.reduceLT, Int.reduceToNat, Int.reduceAdd, Int.reduceSub, Int.reduceMul, Int.reduceNeg, Int.reducePow, List.map_cons, List.map_nil, List.cons_append, List.nil_append, ↓sel2, List.map]
  refine ⟨by omega, any_L h5 h6 hB3 (by decide) (by decide) fun d M4 hd hB4 hO4 => ?_⟩
  obtain ⟨z, c, rfl, hz, hzc⟩ := odd_sign hd
  have lz : z.length = 1 := by rw [ch_len, hz]; rfl
  have k1 := tk_len (x := x0) a0
  have k2 := dr_len (x := x0) a0
  try simp only [↓r_ok, ↓r_stuck, ↓r_exc, ↓r_v0, ↓r_vs, ↓r_con, ↓r_op2, ↓r_op1, ↓r_and, ↓r_or, ↓r_not, ↓k_and1, ↓k_or1, ↓k_not1, ↓r_if, ↓r_nil, ↓r_cons, ↓r_tup, ↓r_lst, ↓r_cel, ↓r_no, ↓r_some, ↓k_some, ↓r_sli, ↓r_calB, ↓r_cal, ↓r_mtl, ↓r_sm1, ↓k_sm1, ↓r_frz, ↓r_ch, ↓k_ch, ↓r_tst, ↓r_tcm, ↓k_bool, ↓r_andT, ↓r_orT, ↓r_notT, ↓r_yes, ↓r_its, ↓r_ran, ↓r_lc, ↓r_seq, ↓k_nx, ↓k_rt, ↓k_bk, ↓k_ct, ↓r_skip, ↓r_set, ↓r_ifS, ↓r_ret, ↓r_retN, ↓r_drop, ↓r_brk, ↓r_cnt, ↓r_par2, ↓r_par3, ↓k_par2, ↓k_par3, ↓r_asg, ↓r_nm, ↓r_sub, ↓k_sub, ↓r_tupM, ↓k_tup, ↓r_consM, ↓r_nilM, ↓r_for, ↓o_addI, ↓o_addT, ↓o_addL, ↓o_subI, ↓o_mulI, ↓o_mulL, ↓o_divI, ↓o_modI, ↓o_powI, ↓o_lt, ↓o_le, ↓o_gt, ↓o_ge, ↓o_eqI, ↓o_eqT, ↓o_eqB, ↓o_neI, ↓o_neT, ↓o_neB, ↓o_isN, ↓o_isI, ↓o_isB, ↓o_isT, ↓o_isL, ↓o_isU, ↓o_ty, ↓o_ty2, ↓o_ixL, ↓o_ixU, ↓o_ixT, ↓o_len_T, ↓o_len_L, ↓o_len_U, ↓o_lis_L, ↓o_lis_U, ↓o_lis_LC, ↓o_lis_UC, ↓o_tu_L, ↓o_tu_U, ↓o_int_I, ↓o_int_B, ↓o_tru_B, ↓o_tru_I, ↓o_tru_N, ↓o_tru_L, ↓o_tru_U, ↓o_tru_T, ↓o_wal_L, ↓o_wal_U, ↓o_wal_T, ↓o_rng1, ↓o_rng2, ↓o_zip_L, ↓o_zip_U, ↓o_finL, ↓o_finC, ↓o_all, ↓o_any, ↓o_slT, ↓o_slL, ↓o_slR, ↓o_in_T, y_non, y_bl, y_int, y_str, y_lst, y_tup, ↓atK_0, List.set_cons_zero, List.set_cons_succ, List.length_cons, List.length_nil, isb_list_NoneType, isb_list_bool, isb_list_int, isb_list_str, isb_list_list, isb_list_tuple, isb_list_dict, isb_tuple_NoneType, isb_tuple_bool, isb_tuple_int, isb_tuple_str, isb_tuple_list, isb_tuple_tuple, isb_tuple_dict, isb_int_NoneType, isb_int_bool, isb_int_int, isb_int_str, isb_int_list, isb_int_tuple, isb_int_dict, isb_str_NoneType, isb_str_bool, isb_str_int, isb_str_str, isb_str_list, isb_str_tuple, isb_str_dict, isb_bool_NoneType, isb_bool_bool, isb_bool_int, isb_bool_str, isb_bool_list, isb_bool_tuple, isb_bool_dict, isb_dict_NoneType, isb_dict_bool, isb_dict_int, isb_dict_str, isb_dict_list, isb_dict_tuple, isb_dict_dict, ↓reduceIte, Bool.false_eq_true, Bool.not_true, Bool.not_false, Bool.true_or, Bool.or_true, Bool.false_or, Bool.or_false, Bool.true_and, Bool.and_true, Bool.false_and, Bool.and_false, decide_true, decide_false, eq_self, reduceCtorEq, true_and, and_true, ↓atK_1, ↓atK_2, ↓atK_3, ↓atK_4, ↓atK_5, ↓atK_6, ↓atK_7, ↓atK_8, ↓atK_9, wipeD, r_v0, r_vs, big, Nat.reduceAdd, Nat.reduceMul, Nat.reduceLeDiff, Int.reduceLE, Int.reduceLT, Int.reduceToNat, Int.reduceAdd, Int.reduceSub, Int.reduceMul, Int.reduceNeg, Int.reducePow, List.map_cons, List.map_nil, List.cons_append, List.nil_append, List.map, app_len]
  refine ⟨by omega, by omega, by omega, hP _ _ ?_⟩
  clear hP hR
  have hbent : nmB (.str (cutS x0 none (some at_) ++ z ++ cutS x0 (some at_) none)) = false := by
    refine nm_bad (c := c) ?_ hzc
    rw [ch_app, ch_app, hz]
    simp
  have lbent : (cutS x0 none (some at_) ++ z ++ cutS x0 (some at_) none).length ≤ 17 := by rw [app_len, app_len]; omega
  generalize cutS x0 none (some at_) ++ z ++ cutS x0 (some at_) none = bent at hbent lbent ⊢
  have lg : (Str.ofString "abcdefgz").length = 8 := by decide +kernel
  refine run_seq fun P hP hR => ?_
  try simp only [↓r_ok, ↓r_stuck, ↓r_exc, ↓r_v0, ↓r_vs, ↓r_con, ↓r_op2, ↓r_op1, ↓r_and, ↓r_or, ↓r_not, ↓k_and1, ↓k_or1, ↓k_not1, ↓r_if, ↓r_nil, ↓r_cons, ↓r_tup, ↓r_lst, ↓r_cel, ↓r_no, ↓r_some, ↓k_some, ↓r_sli, ↓r_calB, ↓r_cal, ↓r_mtl, ↓r_sm1, ↓k_sm1, ↓r_frz, ↓r_ch, ↓k_ch, ↓r_tst, ↓r_tcm, ↓k_bool, ↓r_andT, ↓r_orT, ↓r_notT, ↓r_yes, ↓r_its, ↓r_ran, ↓r_lc, ↓r_seq, ↓k_nx, ↓k_rt, ↓k_bk, ↓k_ct, ↓r_skip, ↓r_set, ↓r_ifS, ↓r_ret, ↓r_retN, ↓r_drop, ↓r_brk, ↓r_cnt, ↓r_par2, ↓r_par3, ↓k_par2, ↓k_par3, ↓r_asg, ↓r_nm, ↓r_sub, ↓k_sub, ↓r_tupM, ↓k_tup, ↓r_consM, ↓r_nilM, ↓r_for, ↓o_addI, ↓o_addT, ↓o_addL, ↓o_subI, ↓o_mulI, ↓o_mulL, ↓o_divI, ↓o_modI, ↓o_powI, ↓o_lt, ↓o_le, ↓o_gt, ↓o_ge, ↓o_eqI, ↓o_eqT, ↓o_eqB, ↓o_neI, ↓o_neT, ↓o_neB, ↓o_isN, ↓o_isI, ↓o_isB, ↓o_isT, ↓o_isL, ↓o_isU, ↓o_ty, ↓o_ty2, ↓o_ixL, ↓o_ixU, ↓o_ixT, ↓o_len_T, ↓o_len_L, ↓o_len_U, ↓o_lis_L, ↓o_lis_U, ↓o_lis_LC, ↓o_lis_UC, ↓o_tu_L, ↓o_tu_U, ↓o_int_I, ↓o_int_B, ↓o_tru_B, ↓o_tru_I, ↓o_tru_N, ↓o_tru_L, ↓o_tru_U, ↓o_tru_T, ↓o_wal_L, ↓o_wal_U, ↓o_wal_T, ↓o_rng1, ↓o_rng2, ↓o_zip_L, ↓o_zip_U, ↓o_finL, ↓o_finC, ↓o_all, ↓o_any, ↓o_slT, ↓o_slL, ↓o_slR, ↓o_in_T, y_non, y_bl, y_int, y_str, y_lst, y_tup, ↓atK_0, List.set_cons_zero, List.set_cons_succ, List.length_cons, List.length_nil, isb_list_NoneType, isb_list_bool, isb_list_int, isb_list_str, isb_list_list, isb_list_tuple, isb_list_dict, isb_tuple_NoneType, isb_tuple_bool, isb_tuple_int, isb_tuple_str, isb_tuple_list, isb_tuple_tuple, isb_tuple_dict, isb_int_NoneType, isb_int_bool, isb_int_int, isb_int_str, isb_int_list, isb_int_tuple, isb_int_dict, isb_str_NoneType, isb_str_bool, isb_str_int, isb_str_str, isb_str_list, isb_str_tuple, isb_str_dict, isb_bool_NoneType, isb_bool_bool, isb_bool_int, isb_bool_str, isb_bool_list, isb_bool_tuple, isb_bool_dict, isb_dict_NoneType, isb_dict_bool, isb_dict_int, isb_dict_str, isb_dict_list, isb_dict_tuple, isb_dict_dict, ↓reduceIte, Bool.false_eq_true, Bool.not_true, Bool.not_false, Bool.true_or, Bool.or_true, Bool.false_or, Bool.or_false, Bool.true_and, Bool.and_true, Bool.false_and, Bool.and_false, decide_true, decide_false, eq_self, reduceCtorEq, true_and, and_true, ↓atK_1, ↓atK_2, ↓atK_3, ↓atK_4, ↓atK_5, ↓atK_6, ↓atK_7, ↓atK_8, ↓atK_9, wipeD, r_v0, r_vs, big, Nat.reduceAdd, Nat.reduceMul, Nat.reduceLeDiff, Int.reduceLE, Int.reduceLT, Int.reduceToNat, Int.reduceAdd, Int.reduceSub, Int.reduceMul, Int.reduceNeg, Int.reducePow, List.map_cons, List.map_nil, List.cons_append, List.nil_append, List.map]
  refine ⟨by omega, hP _ _ ?_⟩
  clear hP hR
  have hgz : ∀ c ∈ ch (Str.ofString "abcdefgz"), 97 ≤ c ∧ c ≤ 122 := by decide +kernel
  have nlong := ok_app n1 hgz 8 (by decide) (by decide)
  have blong : nmB (.str (cutS (x1 ++ Str.ofString "abcdefgz") none (some 9))) = false := by
    refine nm_long ?_
    rw [ch_take (by decide), List.length_take, ch_app, List.length_append, ← ch_len, ← ch_len, lg]
    have := IsName.low n1
    omega
  have llong : (x1 ++ Str.ofString "abcdefgz").length ≤ 16 := by rw [app_len]; omega
  generalize x1 ++ Str.ofString "abcdefgz" = long at nlong blong llong ⊢
  refine run_seq fun P hP hR => ?_
  try simp only [↓r_ok, ↓r_stuck, ↓r_exc, ↓r_v0, ↓r_vs, ↓r_con, ↓r_op2, ↓r_op1, ↓r_and, ↓r_or, ↓r_not, ↓k_and1, ↓k_or1, ↓k_not1, ↓r_if, ↓r_nil, ↓r_cons, ↓r_tup, ↓r_lst, ↓r_cel, ↓r_no, ↓r_some, ↓k_some, ↓r_sli, ↓r_calB, ↓r_cal, ↓r_mtl, ↓r_sm1, ↓k_sm1, ↓r_frz, ↓r_ch, ↓k_ch, ↓r_tst, ↓r_tcm, ↓k_bool, ↓r_andT, ↓r_orT, ↓r_notT, ↓r_yes, ↓r_its, ↓r_ran, ↓r_lc, ↓r_seq, ↓k_nx, ↓k_rt, ↓k_bk, ↓k_ct, ↓r_skip, ↓r_set, ↓r_ifS, ↓r_ret, ↓r_retN, ↓r_drop, ↓r_brk, ↓r_cnt, ↓r_par2, ↓r_par3, ↓k_par2, ↓k_par3, ↓r_asg, ↓r_nm, ↓r_sub, ↓k_sub, ↓r_tupM, ↓k_tup, ↓r_consM, ↓r_nilM, ↓r_for, ↓o_addI, ↓o_addT, ↓o_addL, ↓o_subI, ↓o_mulI, ↓o_mulL, ↓o_divI, ↓o_modI, ↓o_powI, ↓o_lt, ↓o_le, ↓o_gt, ↓o_ge, ↓o_eqI, ↓o_eqT, ↓o_eqB, ↓o_neI, ↓o_neT, ↓o_neB, ↓o_isN, ↓o_isI, ↓o_isB, ↓o_isT, ↓o_isL, ↓o_isU, ↓o_ty, ↓o_ty2, ↓o_ixL, ↓o_ixU, ↓o_ixT, ↓o_len_T, ↓o_len_L, ↓o_len_U, ↓o_lis_L, ↓o_lis_U, ↓o_lis_LC, ↓o_lis_UC, ↓o_tu_L, ↓o_tu_U, ↓o_int_I, ↓o_int_B, ↓o_tru_B, ↓o_tru_I, ↓o_tru_N, ↓o_tru_L, ↓o_tru_U, ↓o_tru_T, ↓o_wal_L, ↓o_wal_U, ↓o_wal_T, ↓o_rng1, ↓o_rng2, ↓o_zip_L, ↓o_zip_U, ↓o_finL, ↓o_finC, ↓o_all, ↓o_any, ↓o_slT, ↓o_slL, ↓o_slR, ↓o_in_T, y_non, y_bl, y_int, y_str, y_lst, y_tup, ↓atK_0, List.set_cons_zero, List.set_cons_succ, List.length_cons, List.length_nil, isb_list_NoneType, isb_list_bool, isb_list_int, isb_list_str, isb_list_list, isb_list_tuple, isb_list_dict, isb_tuple_NoneType, isb_tuple_bool, isb_tuple_int, isb_tuple_str, isb_tuple_list, isb_tuple_tuple, isb_tuple_dict, isb_int_NoneType, isb_int_bool, isb_int_int, isb_int_str, isb_int_list, isb_int_tuple, isb_int_dict, isb_str_NoneType, isb_str_bool, isb_str_int, isb_str_str, isb_str_list, isb_str_tuple, isb_str_dict, isb_bool_NoneType, isb_bool_bool, isb_bool_int, isb_bool_str, isb_bool_list, isb_bool_tuple, isb_bool_dict, isb_dict_NoneType, isb_dict_bool, isb_dict_int, isb_dict_str, isb_dict_list, isb_dict_tuple, isb_dict_dict, ↓reduceIte, Bool.false_eq_true, Bool.not_true, Bool.not_false, Bool.true_or, Bool.or_true, Bool.false_or, Bool.or_false, Bool.true_and, Bool.and_true, Bool.false_and, Bool.and_false, decide_true, decide_false, eq_self, reduceCtorEq, true_and, and_true, ↓atK_1, ↓atK_2, ↓atK_3, ↓atK_4, ↓atK_5, ↓atK_6, ↓atK_7, ↓atK_8, ↓atK_9, wipeD, r_v0, r_vs, big, Nat.reduceAdd, Nat.reduceMul, Nat.reduceLeDiff, Int.reduceLE, Int.reduceLT, Int.reduceToNat, Int.reduceAdd, Int.reduceSub, Int.reduceMul, Int.reduceNeg, Int.reducePow, List.map_cons, List.map_nil, List.cons_append, List.nil_append, ↓sel1, List.map]
  refine name_sp (show x0.length ≤ big by omega) ?_
  rw [IsName.nm n0]
  try simp only [↓r_ok, ↓r_stuck, ↓r_exc, ↓r_v0, ↓r_vs, ↓r_con, ↓r_op2, ↓r_op1, ↓r_and, ↓r_or, ↓r_not, ↓k_and1, ↓k_or1, ↓k_not1, ↓r_if, ↓r_nil, ↓r_cons, ↓r_tup, ↓r_lst, ↓r_cel, ↓r_no, ↓r_some, ↓k_some, ↓r_sli, ↓r_calB, ↓r_cal, ↓r_mtl, ↓r_sm1, ↓k_sm1, ↓r_frz, ↓r_ch, ↓k_ch, ↓r_tst, ↓r_tcm, ↓k_bool, ↓r_andT, ↓r_orT, ↓r_notT, ↓r_yes, ↓r_its, ↓r_ran, ↓r_lc, ↓r_seq, ↓k_nx, ↓k_rt, ↓k_bk, ↓k_ct, ↓r_skip, ↓r_set, ↓r_ifS, ↓r_ret, ↓r_retN, ↓r_drop, ↓r_brk, ↓r_cnt, ↓r_par2, ↓r_par3, ↓k_par2, ↓k_par3, ↓r_asg, ↓r_nm, ↓r_sub, ↓k_sub, ↓r_tupM, ↓k_tup, ↓r_consM, ↓r_nilM, ↓r_for, ↓o_addI, ↓o_addT, ↓o_addL, ↓o_subI, ↓o_mulI, ↓o_mulL, ↓o_divI, ↓o_modI, ↓o_powI, ↓o_lt, ↓o_le, ↓o_gt, ↓o_ge, ↓o_eqI, ↓o_eqT, ↓o_eqB, ↓o_neI, ↓o_neT, ↓o_neB, ↓o_isN, ↓o_isI, ↓o_isB, ↓o_isT, ↓o_isL, ↓o_isU, ↓o_ty, ↓o_ty2, ↓o_ixL, ↓o_ixU, ↓o_ixT, ↓o_len_T, ↓o_len_L, ↓o_len_U, ↓o_lis_L, ↓o_lis_U, ↓o_lis_LC, ↓o_lis_UC, ↓o_tu_L, ↓o_tu_U, ↓o_int_I, ↓o_int_B, ↓o_tru_B, ↓o_tru_I, ↓o_tru_N, ↓o_tru_L, ↓o_tru_U, ↓o_tru_T, ↓o_wal_L, ↓o_wal_U, ↓o_wal_T, ↓o_rng1, ↓o_rng2, ↓o_zip_L, ↓o_zip_U, ↓o_finL, ↓o_finC, ↓o_all, ↓o_any, ↓o_slT, ↓o_slL, ↓o_slR, ↓o_in_T, y_non, y_bl, y_int, y_str, y_lst, y_tup, ↓atK_0, List.set_cons_zero, List.set_cons_succ, List.length_cons, List.length_nil, isb_list_NoneType, isb_list_bool, isb_list_int, isb_list_str, isb_list_list, isb_list_tuple, isb_list_dict, isb_tuple_NoneType, isb_tuple_bool, isb_tuple_int, isb_tuple_str, isb_tuple_list, isb_tuple_tuple, isb_tuple_dict, isb_int_NoneType, isb_int_bool, isb_int_int, isb_int_str, isb_int_list, isb_int_tuple, isb_int_dict, isb_str_NoneType, isb_str_bool, isb_str_int, isb_str_str, isb_str_list, isb_str_tuple, isb_str_dict, isb_bool_NoneType, isb_bool_bool, isb_bool_int, isb_bool_str, isb_bool_list, isb_bool_tuple, isb_bool_dict, isb_dict_NoneType, isb_dict_bool, isb_dict_int, isb_dict_str, isb_dict_list, isb_dict_tuple, isb_dict_dict, ↓reduceIte, Bool.false_eq_true, Bool.not_true, Bool.not_false, Bool.true_or, Bool.or_true, Bool.false_or, Bool.or_false, Bool.true_and, Bool.and_true, Bool.false_and, Bool.and_false, decide_true, decide_false, eq_self, reduceCtorEq, true_and, and_true, ↓atK_1, ↓atK_2, ↓atK_3, ↓atK_4, ↓atK_5, ↓atK_6, ↓atK_7, ↓atK_8, ↓atK_9, wipeD, r_v0, r_vs, big, Nat.reduceAdd, Nat.reduceMul, Nat.reduceLeDiff, Int.reduceLE, Int.reduceLT, Int.reduceToNat, Int.reduceAdd, Int.reduceSub, Int.reduceMul, Int.reduceNeg, Int.reducePow, List.map_cons, List.map_nil, List.cons_append, List.nil_append, ↓sel1, ↓selK, List.map]
  refine name_sp (show x3.length ≤ big by omega) ?_
  rw [IsName.nm n3]
  try simp only [↓r_ok, ↓r_stuck, ↓r_exc, ↓r_v0, ↓r_vs, ↓r_con, ↓r_op2, ↓r_op1, ↓r_and, ↓r_or, ↓r_not, ↓k_and1, ↓k_or1, ↓k_not1, ↓r_if, ↓r_nil, ↓r_cons, ↓r_tup, ↓r_lst, ↓r_cel, ↓r_no, ↓r_some, ↓k_some, ↓r_sli, ↓r_calB, ↓r_cal, ↓r_mtl, ↓r_sm1, ↓k_sm1, ↓r_frz, ↓r_ch, ↓k_ch, ↓r_tst, ↓r_tcm, ↓k_bool, ↓r_andT, ↓r_orT, ↓r_notT, ↓r_yes, ↓r_its, ↓r_ran, ↓r_lc, ↓r_seq, ↓k_nx, ↓k_rt, ↓k_bk, ↓k_ct, ↓r_skip, ↓r_set, ↓r_ifS, ↓r_ret, ↓r_retN, ↓r_drop, ↓r_brk, ↓r_cnt, ↓r_par2, ↓r_par3, ↓k_par2, ↓k_par3, ↓r_asg, ↓r_nm, ↓r_sub, ↓k_sub, ↓r_tupM, ↓k_tup, ↓r_consM, ↓r_nilM, ↓r_for, ↓o_addI, ↓o_addT, ↓o_addL, ↓o_subI, ↓o_mulI, ↓o_mulL, ↓o_divI, ↓o_modI, ↓o_powI, ↓o_lt, ↓o_le, ↓o_gt, ↓o_ge, ↓o_eqI, ↓o_eqT, ↓o_eqB, ↓o_neI, ↓o_neT, ↓o_neB, ↓o_isN, ↓o_isI, ↓o_isB, ↓o_isT, ↓o_isL, ↓o_isU, ↓o_ty, ↓o_ty2, ↓o_ixL, ↓o_ixU, ↓o_ixT, ↓o_len_T, ↓o_len_L, ↓o_len_U, ↓o_lis_L, ↓o_lis_U, ↓o_lis_LC, ↓o_lis_UC, ↓o_tu_L, ↓o_tu_U, ↓o_int_I, ↓o_int_B, ↓o_tru_B, ↓o_tru_I, ↓o_tru_N, ↓o_tru_L, ↓o_tru_U, ↓o_tru_T, ↓o_wal_L, ↓o_wal_U, ↓o_wal_T, ↓o_rng1, ↓o_rng2, ↓o_zip_L, ↓o_zip_U, ↓o_finL, ↓o_finC, ↓o_all, ↓o_any, ↓o_slT, ↓o_slL, ↓o_slR, ↓o_in_T, y_non, y_bl, y_int, y_str, y_lst, y_tup, ↓atK_0, List.set_cons_zero, List.set_cons_succ, List.length_cons, List.length_nil, isb_list_NoneType, isb_list_bool, isb_list_int, isb_list_str, isb_list_list, isb_list_tuple, isb_list_dict, isb_tuple_NoneType, isb_tuple_bool, isb_tuple_int, isb_tuple_str, isb_tuple_list, isb_tuple_tuple, isb_tuple_dict, isb_int_NoneType, isb_int_bool, isb_int_int, isb_int_str, isb_int_list, isb_int_tuple, isb_int_dict, isb_str_NoneType, isb_str_bool, isb_str_int, isb_str_str, isb_str_list, isb_str_tuple, isb_str_dict, isb_bool_NoneType, isb_bool_bool, isb_bool_int, isb_bool_str, isb_bool_list, isb_bool_tuple, isb_bool_dict, isb_dict_NoneType, isb_dict_bool, isb_dict_int, isb_dict_str, isb_dict_list, isb_dict_tuple, isb_dict_dict, ↓reduceIte, Bool.false_eq_true, Bool.not_true, Bool.not_false, Bool.true_or, Bool.or_true, Bool.false_or, Bool.or_false, Bool.true_and, Bool.and_true, Bool.false_and, Bool.and_false, decide_true, decide_false, eq_self, reduceCtorEq, true_and, and_true, ↓atK_1, ↓atK_2, ↓atK_3, ↓atK_4, ↓atK_5, ↓atK_6, ↓atK_7, ↓atK_8, ↓atK_9, wipeD, r_v0, r_vs, big, Nat.reduceAdd, Nat.reduceMul, Nat.reduceLeDiff, Int.reduceLE, Int.reduceLT, Int.reduceToNat, Int.reduceAdd, Int.reduceSub, Int.reduceMul, Int.reduceNeg, Int.reducePow, List.map_cons, List.map_nil, List.cons_append, List.nil_append, ↓sel1, ↓selK, List.map]
  refine ⟨by omega, name_sp (show (cutS long none (some 8)).length ≤ big by have := tk_len (x := long) (a := 8) (by decide); omega) ?_⟩
  rw [IsName.nm nlong]
  try simp only [↓r_ok, ↓r_stuck, ↓r_exc, ↓r_v0, ↓r_vs, ↓r_con, ↓r_op2, ↓r_op1, ↓r_and, ↓r_or, ↓r_not, ↓k_and1, ↓k_or1, ↓k_not1, ↓r_if, ↓r_nil, ↓r_cons, ↓r_tup, ↓r_lst, ↓r_cel, ↓r_no, ↓r_some, ↓k_some, ↓r_sli, ↓r_calB, ↓r_cal, ↓r_mtl, ↓r_sm1, ↓k_sm1, ↓r_frz, ↓r_ch, ↓k_ch, ↓r_tst, ↓r_tcm, ↓k_bool, ↓r_andT, ↓r_orT, ↓r_notT, ↓r_yes, ↓r_its, ↓r_ran, ↓r_lc, ↓r_seq, ↓k_nx, ↓k_rt, ↓k_bk, ↓k_ct, ↓r_skip, ↓r_set, ↓r_ifS, ↓r_ret, ↓r_retN, ↓r_drop, ↓r_brk, ↓r_cnt, ↓r_par2, ↓r_par3, ↓k_par2, ↓k_par3, ↓r_asg, ↓r_nm, ↓r_sub, ↓k_sub, ↓r_tupM, ↓k_tup, ↓r_consM, ↓r_nilM, ↓r_for, ↓o_addI, ↓o_addT, ↓o_addL, ↓o_subI, ↓o_mulI, ↓o_mulL, ↓o_divI, ↓o_modI, ↓o_powI, ↓o_lt, ↓o_le, ↓o_gt, ↓o_ge, ↓o_eqI, ↓o_eqT, ↓o_eqB, ↓o_neI, ↓o_neT, ↓o_neB, ↓o_isN, ↓o_isI, ↓o_isB, ↓o_isT, ↓o_isL, ↓o_isU, ↓o_ty, ↓o_ty2, ↓o_ixL, ↓o_ixU, ↓o_ixT, ↓o_len_T, ↓o_len_L, ↓o_len_U, ↓o_lis_L, ↓o_lis_U, ↓o_lis_LC, ↓o_lis_UC, ↓o_tu_L, ↓o_tu_U, ↓o_int_I, ↓o_int_B, ↓o_tru_B, ↓o_tru_I, ↓o_tru_N, ↓o_tru_L, ↓o_tru_U, ↓o_tru_T, ↓o_wal_L, ↓o_wal_U, ↓o_wal_T, ↓o_rng1, ↓o_rng2, ↓o_zip_L, ↓o_zip_U, ↓o_finL, ↓o_finC, ↓o_all, ↓o_any, ↓o_slT, ↓o_slL, ↓o_slR, ↓o_in_T, y_non, y_bl, y_int, y_str, y_lst, y_tup, ↓atK_0, List.set_cons_zero, List.set_cons_succ, List.length_cons, List.length_nil, isb_list_NoneType, isb_list_bool, isb_list_int, isb_list_str, isb_list_list, isb_list_tuple, isb_list_dict, isb_tuple_NoneType, isb_tuple_bool, isb_tuple_int, isb_tuple_str, isb_tuple_list, isb_tuple_tuple, isb_tuple_dict, isb_int_NoneType, isb_int_bool, isb_int_int, isb_int_str, isb_int_list, isb_int_tuple, isb_int_dict, isb_str_NoneType, isb_str_bool, isb_str_int, isb_str_str, isb_str_list, isb_str_tuple, isb_str_dict, isb_bool_NoneType, isb_bool_bool, isb_bool_int, isb_bool_str, isb_bool_list, isb_bool_tuple, isb_bool_dict, isb_dict_NoneType, isb_dict_bool, isb_dict_int, isb_dict_str, isb_dict_list, isb_dict_tuple, isb_dict_dict, ↓reduceIte, Bool.false_eq_true, Bool.not_true, Bool.not_false, Bool.true_or, Bool.or_true, Bool.false_or, Bool.or_false, Bool.true_and, Bool.and_true, Bool.false_and, Bool.and_false, decide_true, decide_false, eq_self, reduceCtorEq, true_and, and_true, ↓atK_1, ↓atK_2, ↓atK_3, ↓atK_4, ↓atK_5, ↓atK_6, ↓atK_7, ↓atK_8, ↓atK_9, wipeD, r_v0, r_vs, big, Nat.reduceAdd, Nat.reduceMul, Nat.reduceLeDiff, Int.reduceLE, Int.reduceLT, Int.reduceToNat, Int.reduceAdd, Int.reduceSub, Int.reduceMul, Int.reduceNeg, Int.reducePow, List.map_cons, List.map_nil, List.cons_append, List.nil_append, ↓sel1, ↓selK, List.map]
  refine ⟨by omega, name_sp (show (cutS long none (some 9)).length ≤ big by have := tk_len (x := long) (a := 9) (by decide); omega) ?_⟩
  rw [blong]
  try simp only [↓r_ok, ↓r_stuck, ↓r_exc, ↓r_v0, ↓r_vs, ↓r_con, ↓r_op2, ↓r_op1, ↓r_and, ↓r_or, ↓r_not, ↓k_and1, ↓k_or1, ↓k_not1, ↓r_if, ↓r_nil, ↓r_cons, ↓r_tup, ↓r_lst, ↓r_cel, ↓r_no, ↓r_some, ↓k_some, ↓r_sli, ↓r_calB, ↓r_cal, ↓r_mtl, ↓r_sm1, ↓k_sm1, ↓r_frz, ↓r_ch, ↓k_ch, ↓r_tst, ↓r_tcm, ↓k_bool, ↓r_andT, ↓r_orT, ↓r_notT, ↓r_yes, ↓r_its, ↓r_ran, ↓r_lc, ↓r_seq, ↓k_nx, ↓k_rt, ↓k_bk, ↓k_ct, ↓r_skip, ↓r_set, ↓r_ifS, ↓r_ret, ↓r_retN, ↓r_drop, ↓r_brk, ↓r_cnt, ↓r_par2, ↓r_par3, ↓k_par2, ↓k_par3, ↓r_asg, ↓r_nm, ↓r_sub, ↓k_sub, ↓r_tupM, ↓k_tup, ↓r_consM, ↓r_nilM, ↓r_for, ↓o_addI, ↓o_addT, ↓o_addL, ↓o_subI, ↓o_mulI, ↓o_mulL, ↓o_divI, ↓o_modI, ↓o_powI, ↓o_lt, ↓o_le, ↓o_gt, ↓o_ge, ↓o_eqI, ↓o_eqT, ↓o_eqB, ↓o_neI, ↓o_neT, ↓o_neB, ↓o_isN, ↓o_isI, ↓o_isB, ↓o_isT, ↓o_isL, ↓o_isU, ↓o_ty, ↓o_ty2, ↓o_ixL, ↓o_ixU, ↓o_ixT, ↓o_len_T, ↓o_len_L, ↓o_len_U, ↓o_lis_L, ↓o_lis_U, ↓o_lis_LC, ↓o_lis_UC, ↓o_tu_L, ↓o_tu_U, ↓o_int_I, ↓o_int_B, ↓o_tru_B, ↓o_tru_I, ↓o_tru_N, ↓o_tru_L, ↓o_tru_U, ↓o_tru_T, ↓o_wal_L, ↓o_wal_U, ↓o_wal_T, ↓o_rng1, ↓o_rng2, ↓o_zip_L, ↓o_zip_U, ↓o_finL, ↓o_finC, ↓o_all, ↓o_any, ↓o_slT, ↓o_slL, ↓o_slR, ↓o_in_T, y_non, y_bl, y_int, y_str, y_lst, y_tup, ↓atK_0, List.set_cons_zero, List.set_cons_succ, List.length_cons, List.length_nil, isb_list_NoneType, isb_list_bool, isb_list_int, isb_list_str, isb_list_list, isb_list_tuple, isb_list_dict, isb_tuple_NoneType, isb_tuple_bool, isb_tuple_int, isb_tuple_str, isb_tuple_list, isb_tuple_tuple, isb_tuple_dict, isb_int_NoneType, isb_int_bool, isb_int_int, isb_int_str, isb_int_list, isb_int_tuple, isb_int_dict, isb_str_NoneType, isb_str_bool, isb_str_int, isb_str_str, isb_str_list, isb_str_tuple, isb_str_dict, isb_bool_NoneType, isb_bool_bool, isb_bool_int, isb_bool_str, isb_bool_list, isb_bool_tuple, isb_bool_dict, isb_dict_NoneType, isb_dict_bool, isb_dict_int, isb_dict_str, isb_dict_list, isb_dict_tuple, isb_dict_dict, ↓reduceIte, Bool.false_eq_true, Bool.not_true, Bool.not_false, Bool.true_or, Bool.or_true, Bool.false_or, Bool.or_false, Bool.true_and, Bool.and_true, Bool.false_and, Bool.and_false, decide_true, decide_false, eq_self, reduceCtorEq, true_and, and_true, ↓atK_1, ↓atK_2, ↓atK_3, ↓atK_4, ↓atK_5, ↓atK_6, ↓atK_7, ↓atK_8, ↓atK_9, wipeD, r_v0, r_vs, big, Nat.reduceAdd, Nat.reduceMul, Nat.reduceLeDiff, Int.reduceLE, Int.reduceLT, Int.reduceToNat, Int.reduceAdd, Int.reduceSub, Int.reduceMul, Int.reduceNeg, Int.reducePow, List.map_cons, List.map_nil, List.cons_append, List.nil_append, ↓sel1, ↓selK, List.map]
  refine name_sp (show (Str.ofString "").length ≤ big by decide +kernel) ?_
  rw [show nmB (.str (Str.ofString "")) = false from by decide +kernel]
  try simp only [↓r_ok, ↓r_stuck, ↓r_exc, ↓r_v0, ↓r_vs, ↓r_con, ↓r_op2, ↓r_op1, ↓r_and, ↓r_or, ↓r_not, ↓k_and1, ↓k_or1, ↓k_not1, ↓r_if, ↓r_nil, ↓r_cons, ↓r_tup, ↓r_lst, ↓r_cel, ↓r_no, ↓r_some, ↓k_some, ↓r_sli, ↓r_calB, ↓r_cal, ↓r_mtl, ↓r_sm1, ↓k_sm1, ↓r_frz, ↓r_ch, ↓k_ch, ↓r_tst, ↓r_tcm, ↓k_bool, ↓r_andT, ↓r_orT, ↓r_notT, ↓r_yes, ↓r_its, ↓r_ran, ↓r_lc, ↓r_seq, ↓k_nx, ↓k_rt, ↓k_bk, ↓k_ct, ↓r_skip, ↓r_set, ↓r_ifS, ↓r_ret, ↓r_retN, ↓r_drop, ↓r_brk, ↓r_cnt, ↓r_par2, ↓r_par3, ↓k_par2, ↓k_par3, ↓r_asg, ↓r_nm, ↓r_sub, ↓k_sub, ↓r_tupM, ↓k_tup, ↓r_consM, ↓r_nilM, ↓r_for, ↓o_addI, ↓o_addT, ↓o_addL, ↓o_subI, ↓o_mulI, ↓o_mulL, ↓o_divI, ↓o_modI, ↓o_powI, ↓o_lt, ↓o_le, ↓o_gt, ↓o_ge, ↓o_eqI, ↓o_eqT, ↓o_eqB, ↓o_neI, ↓o_neT, ↓o_neB, ↓o_isN, ↓o_isI, ↓o_isB, ↓o_isT, ↓o_isL, ↓o_isU, ↓o_ty, ↓o_ty2, ↓o_ixL, ↓o_ixU, ↓o_ixT, ↓o_len_T, ↓o_len_L, ↓o_len_U, ↓o_lis_L, ↓o_lis_U, ↓o_lis_LC, ↓o_lis_UC, ↓o_tu_L, ↓o_tu_U, ↓o_int_I, ↓o_int_B, ↓o_tru_B, ↓o_tru_I, ↓o_tru_N, ↓o_tru_L, ↓o_tru_U, ↓o_tru_T, ↓o_wal_L, ↓o_wal_U, ↓o_wal_T, ↓o_rng1, ↓o_rng2, ↓o_zip_L, ↓o_zip_U, ↓o_finL, ↓o_finC, ↓o_all, ↓o_any, ↓o_slT, ↓o_slL, ↓o_slR, ↓o_in_T, y_non, y_bl, y_int, y_str, y_lst, y_tup, ↓atK_0, List.set_cons_zero, List.set_cons_succ, List.length_cons, List.length_nil, isb_list_NoneType, isb_list_bool, isb_list_int, isb_list_str, isb_list_list, isb_list_tuple, isb_list_dict, isb_tuple_NoneType, isb_tuple_bool, isb_tuple_int, isb_tuple_str, isb_tuple_list, isb_tuple_tuple, isb_tuple_dict, isb_int_NoneType, isb_int_bool, isb_int_int, isb_int_str, isb_int_list, isb_int_tuple, isb_int_dict, isb_str_NoneType, isb_str_bool, isb_str_int, isb_str_str, isb_str_list, isb_str_tuple, isb_str_dict, isb_bool_NoneType, isb_bool_bool, isb_bool_int, isb_bool_str, isb_bool_list, isb_bool_tuple, isb_bool_dict, isb_dict_NoneType, isb_dict_bool, isb_dict_int, isb_dict_str, isb_dict_list, isb_dict_tuple, isb_dict_dict, ↓reduceIte, Bool.false_eq_true, Bool.not_true, Bool.not_false, Bool.true_or, Bool.or_true, Bool.false_or, Bool.or_false, Bool.true_and, Bool.and_true, Bool.false_and, Bool.and_false, decide_true, decide_false, eq_self, reduceCtorEq, true_and, and_true, ↓atK_1, ↓atK_2, ↓atK_3, ↓atK_4, ↓atK_5, ↓atK_6, ↓atK_7, ↓atK_8, ↓atK_9, wipeD, r_v0, r_vs, big, Nat.reduceAdd, Nat.reduceMul, Nat.reduceLeDiff, Int.reduceLE, Int.reduceLT, Int.reduceToNat, Int.reduceAdd, Int.reduceSub, Int.reduceMul, Int.reduceNeg, Int.reducePow, List.map_cons, List.map_nil, List.cons_append, List.nil_append, ↓sel1, ↓selK, List.map]
  refine name_sp (show (Str.ofString "z").length ≤ big by decide +kernel) ?_
  rw [show nmB (.str (Str.ofString "z")) = true from by decide +kernel]
  try simp only [↓r_ok, ↓r_stuck, ↓r_exc, ↓r_v0, ↓r_vs, ↓r_con, ↓r_op2, ↓r_op1, ↓r_and, ↓r_or, ↓r_not, ↓k_and1, ↓k_or1, ↓k_not1, ↓r_if, ↓r_nil, ↓r_cons, ↓r_tup, ↓r_lst, ↓r_cel, ↓r_no, ↓r_some, ↓k_some, ↓r_sli, ↓r_calB, ↓r_cal, ↓r_mtl, ↓r_sm1, ↓k_sm1, ↓r_frz, ↓r_ch, ↓k_ch, ↓r_tst, ↓r_tcm, ↓k_bool, ↓r_andT, ↓r_orT, ↓r_notT, ↓r_yes, ↓r_its, ↓r_ran, ↓r_lc, ↓r_seq, ↓k_nx, ↓k_rt, ↓k_bk, ↓k_ct, ↓r_skip, ↓r_set, ↓r_ifS, ↓r_ret, ↓r_retN, ↓r_drop, ↓r_brk, ↓r_cnt, ↓r_par2, ↓r_par3, ↓k_par2, ↓k_par3, ↓r_asg, ↓r_nm, ↓r_sub, ↓k_sub, ↓r_tupM, ↓k_tup, ↓r_consM, ↓r_nilM, ↓r_for, ↓o_addI, ↓o_addT, ↓o_addL, ↓o_subI, ↓o_mulI, ↓o_mulL, ↓o_divI, ↓o_modI, ↓o_powI, ↓o_lt, ↓o_le, ↓o_gt, ↓o_ge, ↓o_eqI, ↓o_eqT, ↓o_eqB, ↓o_neI, ↓o_neT, ↓o_neB, ↓o_isN, ↓o_isI, ↓o_isB, ↓o_isT, ↓o_isL, ↓o_isU, ↓o_ty, ↓o_ty2, ↓o_ixL, ↓o_ixU, ↓o_ixT, ↓o_len_T, ↓o_len_L, ↓o_len_U, ↓o_lis_L, ↓o_lis_U, ↓o_lis_LC, ↓o_lis_UC, ↓o_tu_L, ↓o_tu_U, ↓o_int_I, ↓o_int_B, ↓o_tru_B, ↓o_tru_I, ↓o_tru_N, ↓o_tru_L, ↓o_tru_U, ↓o_tru_T, ↓o_wal_L, ↓o_wal_U, ↓o_wal_T, ↓o_rng1, ↓o_rng2, ↓o_zip_L, ↓o_zip_U, ↓o_finL, ↓o_finC, ↓o_all, ↓o_any, ↓o_slT, ↓o_slL, ↓o_slR, ↓o_in_T, y_non, y_bl, y_int, y_str, y_lst, y_tup, ↓atK_0, List.set_cons_zero, List.set_cons_succ, List.length_cons, List.length_nil, isb_list_NoneType, isb_list_bool, isb_list_int, isb_list_str, isb_list_list, isb_list_tuple, isb_list_dict, isb_tuple_NoneType, isb_tuple_bool, isb_tuple_int, isb_tuple_str, isb_tuple_list, isb_tuple_tuple, isb_tuple_dict, isb_int_NoneType, isb_int_bool, isb_int_int, isb_int_str, isb_int_list, isb_int_tuple, isb_int_dict, isb_str_NoneType, isb_str_bool, isb_str_int, isb_str_str, isb_str_list, isb_str_tuple, isb_str_dict, isb_bool_NoneType, isb_bool_bool, isb_bool_int, isb_bool_str, isb_bool_list, isb_bool_tuple, isb_bool_dict, isb_dict_NoneType, isb_dict_bool, isb_dict_int, isb_dict_str, isb_dict_list, isb_dict_tuple, isb_dict_dict, ↓reduceIte, Bool.false_eq_true, Bool.not_true, Bool.not_false, Bool.true_or, Bool.or_true, Bool.false_or, Bool.or_false, Bool.true_and, Bool.and_true, Bool.false_and, Bool.and_false, decide_true, decide_false, eq_self, reduceCtorEq, true_and, and_true, ↓atK_1, ↓atK_2, ↓atK_3, ↓atK_4, ↓atK_5, ↓atK_6, ↓atK_7, ↓atK_8, ↓atK_9, wipeD, r_v0, r_vs, big, Nat.reduceAdd, Nat.reduceMul, Nat.reduceLeDiff, Int.reduceLE, Int.reduceLT, Int.reduceToNat, Int.reduceAdd, Int.reduceSub, Int.reduceMul, Int.reduceNeg, Int.reducePow, List.map_cons, List.map_nil, List.cons_append, List.nil_append, ↓sel1, ↓selK, List.map]
  refine hP _ _ ?_
  clear hP hR
  refine run_seq fun P hP hR => ?_
  try simp only [↓r_ok, ↓r_stuck, ↓r_exc, ↓r_v0, ↓r_vs, ↓r_con, ↓r_op2, ↓r_op1, ↓r_and, ↓r_or, ↓r_not, ↓k_and1, ↓k_or1, ↓k_not1, ↓r_if, ↓r_nil, ↓r_cons, ↓r_tup, ↓r_lst, ↓r_cel, ↓r_no, ↓r_some, ↓k_some, ↓r_sli, ↓r_calB, ↓r_cal, ↓r_mtl, ↓r_sm1, ↓k_sm1, ↓r_frz, ↓r_ch, ↓k_ch, ↓r_tst, ↓r_tcm, ↓k_bool, ↓r_andT, ↓r_orT, ↓r_notT, ↓r_yes, ↓r_its, ↓r_ran, ↓r_lc, ↓r_seq, ↓k_nx, ↓k_rt, ↓k_bk, ↓k_ct, ↓r_skip, ↓r_set, ↓r_ifS, ↓r_ret, ↓r_retN, ↓r_drop, ↓r_brk, ↓r_cnt, ↓r_par2, ↓r_par3, ↓k_par2, ↓k_par3, ↓r_asg, ↓r_nm, ↓r_sub, ↓k_sub, ↓r_tupM, ↓k_tup, ↓r_consM, ↓r_nilM, ↓r_for, ↓o_addI, ↓o_addT, ↓o_addL, ↓o_subI, ↓o_mulI, ↓o_mulL, ↓o_divI, ↓o_modI, ↓o_powI, ↓o_lt, ↓o_le, ↓o_gt, ↓o_ge, ↓o_eqI, ↓o_eqT, ↓o_eqB, ↓o_neI, ↓o_neT, ↓o_neB, ↓o_isN, ↓o_isI, ↓o_isB, ↓o_isT, ↓o_isL, ↓o_isU, ↓o_ty, ↓o_ty2, ↓o_ixL, ↓o_ixU, ↓o_ixT, ↓o_len_T, ↓o_len_L, ↓o_len_U, ↓o_lis_L, ↓o_lis_U, ↓o_lis_LC, ↓o_lis_UC, ↓o_tu_L, ↓o_tu_U, ↓o_int_I, ↓o_int_B, ↓o_tru_B, ↓o_tru_I, ↓o_tru_N, ↓o_tru_L, ↓o_tru_U, ↓o_tru_T, ↓o_wal_L, ↓o_wal_U, ↓o_wal_T, ↓o_rng1, ↓o_rng2, ↓o_zip_L, ↓o_zip_U, ↓o_finL, ↓o_finC, ↓o_all, ↓o_any, ↓o_slT, ↓o_slL, ↓o_slR, ↓o_in_T, y_non, y_bl, y_int, y_str, y_lst, y_tup, ↓atK_0, List.set_cons_zero, List.set_cons_succ, List.length_cons, List.length_nil, isb_list_NoneType, isb_list_bool, isb_list_int, isb_list_str, isb_list_list, isb_list_tuple, isb_list_dict, isb_tuple_NoneType, isb_tuple_bool, isb_tuple_int, isb_tuple_str, isb_tuple_list, isb_tuple_tuple, isb_tuple_dict, isb_int_NoneType, isb_int_bool, isb_int_int, isb_int_str, isb_int_list, isb_int_tuple, isb_int_dict, isb_str_NoneType, isb_str_bool, isb_str_int, isb_str_str, isb_str_list, isb_str_tuple, isb_str_dict, isb_bool_NoneType, isb_bool_bool, isb_bool_int, isb_bool_str, isb_bool_list, isb_bool_tuple, isb_bool_dict, isb_dict_NoneType, isb_dict_bool, isb_dict_int, isb_dict_str, isb_dict_list, isb_dict_tuple, isb_dict_dict, ↓reduceIte, Bool.false_eq_true, Bool.not_true, Bool.not_false, Bool.true_or, Bool.or_true, Bool.false_or, Bool.or_false, Bool.true_and, Bool.and_true, Bool.false_and, Bool.and_false, decide_true, decide_false, eq_self, reduceCtorEq, true_and, and_true, ↓atK_1, ↓atK_2, ↓atK_3, ↓atK_4, ↓atK_5, ↓atK_6, ↓atK_7, ↓atK_8, ↓atK_9, wipeD, r_v0, r_vs, big, Nat.reduceAdd, Nat.reduceMul, Nat.reduceLeDiff, Int.reduceLE, Int.reduceLT, Int.reduceToNat, Int.reduceAdd, Int.reduceSub, Int.reduceMul, Int.reduceNeg, Int.reducePow, List.map_cons, List.map_nil, List.cons_append, List.nil_append, ↓sel2, List.map]
  refine like_eq rfl rfl (by decide +kernel) ?_
  try simp only [↓r_ok, ↓r_stuck, ↓r_exc, ↓r_v0, ↓r_vs, ↓r_con, ↓r_op2, ↓r_op1, ↓r_and, ↓r_or, ↓r_not, ↓k_and1, ↓k_or1, ↓k_not1, ↓r_if, ↓r_nil, ↓r_cons, ↓r_tup, ↓r_lst, ↓r_cel, ↓r_no, ↓r_some, ↓k_some, ↓r_sli, ↓r_calB, ↓r_cal, ↓r_mtl, ↓r_sm1, ↓k_sm1, ↓r_frz, ↓r_ch, ↓k_ch, ↓r_tst, ↓r_tcm, ↓k_bool, ↓r_andT, ↓r_orT, ↓r_notT, ↓r_yes, ↓r_its, ↓r_ran, ↓r_lc, ↓r_seq, ↓k_nx, ↓k_rt, ↓k_bk, ↓k_ct, ↓r_skip, ↓r_set, ↓r_ifS, ↓r_ret, ↓r_retN, ↓r_drop, ↓r_brk, ↓r_cnt, ↓r_par2, ↓r_par3, ↓k_par2, ↓k_par3, ↓r_asg, ↓r_nm, ↓r_sub, ↓k_sub, ↓r_tupM, ↓k_tup, ↓r_consM, ↓r_nilM, ↓r_for, ↓o_addI, ↓o_addT, ↓o_addL, ↓o_subI, ↓o_mulI, ↓o_mulL, ↓o_divI, ↓o_modI, ↓o_powI, ↓o_lt, ↓o_le, ↓o_gt, ↓o_ge, ↓o_eqI, ↓o_eqT, ↓o_eqB, ↓o_neI, ↓o_neT, ↓o_neB, ↓o_isN, ↓o_isI, ↓o_isB, ↓o_isT, ↓o_isL, ↓o_isU, ↓o_ty, ↓o_ty2, ↓o_ixL, ↓o_ixU, ↓o_ixT, ↓o_len_T, ↓o_len_L, ↓o_len_U, ↓o_lis_L, ↓o_lis_U, ↓o_lis_LC, ↓o_lis_UC, ↓o_tu_L, ↓o_tu_U, ↓o_int_I, ↓o_int_B, ↓o_tru_B, ↓o_tru_I, ↓o_tru_N, ↓o_tru_L, ↓o_tru_U, ↓o_tru_T, ↓o_wal_L, ↓o_wal_U, ↓o_wal_T, ↓o_rng1, ↓o_rng2, ↓o_zip_L, ↓o_zip_U, ↓o_finL, ↓o_finC, ↓o_all, ↓o_any, ↓o_slT, ↓o_slL, ↓o_slR, ↓o_in_T, y_non, y_bl, y_int, y_str, y_lst, y_tup, ↓atK_0, List.set_cons_zero, List.set_cons_succ, List.length_cons, List.length_nil, isb_list_NoneType, isb_list_bool, isb_list_int, isb_list_str, isb_list_list, isb_list_tuple, isb_list_dict, isb_tuple_NoneType, isb_tuple_bool, isb_tuple_int, isb_tuple_str, isb_tuple_list, isb_tuple_tuple, isb_tuple_dict, isb_int_NoneType, isb_int_bool, isb_int_int, isb_int_str, isb_int_list, isb_int_tuple, isb_int_dict, isb_str_NoneType, isb_str_bool, isb_str_int, isb_str_str, isb_str_list, isb_str_tuple, isb_str_dict, isb_bool_NoneType, isb_bool_bool, isb_bool_int, isb_bool_str, isb_bool_list, isb_bool_tuple, isb_bool_dict, isb_dict_NoneType, isb_dict_bool, isb_dict_int, isb_dict_str, isb_dict_list, isb_dict_tuple, isb_dict_dict, ↓reduceIte, Bool.false_eq_true, Bool.not_true, Bool.not_false, Bool.true_or, Bool.or_true, Bool.false_or, Bool.or_false, Bool.true_and, Bool.and_true, Bool.false_and, Bool.and_false, decide_true, decide_false, eq_self, reduceCtorEq, true_and, and_true, ↓atK_1, ↓atK_2, ↓atK_3, ↓atK_4, ↓atK_5, ↓atK_6, ↓atK_7, ↓atK_8, ↓atK_9, wipeD, r_v0, r_vs, big, Nat.reduceAdd, Nat.reduceMul, Nat.reduceLeDiff, Int.reduceLE, Int.reduceLT, Int.reduceToNat, Int.reduceAdd, Int.reduceSub, Int.reduceMul, Int.reduceNeg, Int.reducePow, List.map_cons, List.map_nil, List.cons_append, List.nil_append, ↓sel2, List.map]
  refine hP _ _ ?_
  clear hP hR
  have lsp : (Str.ofString " ").length = 1 := by decide +kernel
  refine run_seq fun P hP hR => ?_
  try simp only [↓r_ok, ↓r_stuck, ↓r_exc, ↓r_v0, ↓r_vs, ↓r_con, ↓r_op2, ↓r_op1, ↓r_and, ↓r_or, ↓r_not, ↓k_and1, ↓k_or1, ↓k_not1, ↓r_if, ↓r_nil, ↓r_cons, ↓r_tup, ↓r_lst, ↓r_cel, ↓r_no, ↓r_some, ↓k_some, ↓r_sli, ↓r_calB, ↓r_cal, ↓r_mtl, ↓r_sm1, ↓k_sm1, ↓r_frz, ↓r_ch, ↓k_ch, ↓r_tst, ↓r_tcm, ↓k_bool, ↓r_andT, ↓r_orT, ↓r_notT, ↓r_yes, ↓r_its, ↓r_ran, ↓r_lc, ↓r_seq, ↓k_nx, ↓k_rt, ↓k_bk, ↓k_ct, ↓r_skip, ↓r_set, ↓r_ifS, ↓r_ret, ↓r_retN, ↓r_drop, ↓r_brk, ↓r_cnt, ↓r_par2, ↓r_par3, ↓k_par2, ↓k_par3, ↓r_asg, ↓r_nm, ↓r_sub, ↓k_sub, ↓r_tupM, ↓k_tup, ↓r_consM, ↓r_nilM, ↓r_for, ↓o_addI, ↓o_addT, ↓o_addL, ↓o_subI, ↓o_mulI, ↓o_mulL, ↓o_divI, ↓o_modI, ↓o_powI, ↓o_lt, ↓o_le, ↓o_gt, ↓o_ge, ↓o_eqI, ↓o_eqT, ↓o_eqB, ↓o_neI, ↓o_neT, ↓o_neB, ↓o_isN, ↓o_isI, ↓o_isB, ↓o_isT, ↓o_isL, ↓o_isU, ↓o_ty, ↓o_ty2, ↓o_ixL, ↓o_ixU, ↓o_ixT, ↓o_len_T, ↓o_len_L, ↓o_len_U, ↓o_lis_L, ↓o_lis_U, ↓o_lis_LC, ↓o_lis_UC, ↓o_tu_L, ↓o_tu_U, ↓o_int_I, ↓o_int_B, ↓o_tru_B, ↓o_tru_I, ↓o_tru_N, ↓o_tru_L, ↓o_tru_U, ↓o_tru_T, ↓o_wal_L, ↓o_wal_U, ↓o_wal_T, ↓o_rng1, ↓o_rng2, ↓o_zip_L, ↓o_zip_U, ↓o_finL, ↓o_finC, ↓o_all, ↓o_any, ↓o_slT, ↓o_slL, ↓o_slR, ↓o_in_T, y_non, y_bl, y_int, y_str, y_lst, y_tup, ↓atK_0, List.set_cons_zero, List.set_cons_succ, List.length_cons, List.length_nil, isb_list_NoneType, isb_list_bool, isb_list_int, isb_list_str, isb_list_list, isb_list_tuple, isb_list_dict, isb_tuple_NoneType, isb_tuple_bool, isb_tuple_int, isb_tuple_str, isb_tuple_list, isb_tuple_tuple, isb_tuple_dict, isb_int_NoneType, isb_int_bool, isb_int_int, isb_int_str, isb_int_list, isb_int_tuple, isb_int_dict, isb_str_NoneType, isb_str_bool, isb_str_int, isb_str_str, isb_str_list, isb_str_tuple, isb_str_dict, isb_bool_NoneType, isb_bool_bool, isb_bool_int, isb_bool_str, isb_bool_list, isb_bool_tuple, isb_bool_dict, isb_dict_NoneType, isb_dict_bool, isb_dict_int, isb_dict_str, isb_dict_list, isb_dict_tuple, isb_dict_dict, ↓reduceIte, Bool.false_eq_true, Bool.not_true, Bool.not_false, Bool.true_or, Bool.or_true, Bool.false_or, Bool.or_false, Bool.true_and, Bool.and_true, Bool.false_and, Bool.and_false, decide_true, decide_false, eq_self, reduceCtorEq, true_and, and_true, ↓atK_1, ↓atK_2, ↓atK_3, ↓atK_4, ↓atK_5, ↓atK_6, ↓atK_7, ↓atK_8, ↓atK_9, wipeD, r_v0, r_vs, big, Nat.reduceAdd, Nat.reduceMul, Nat.reduceLeDiff, Int.reduceLE, Int.reduceLT, Int.reduceToNat, Int.reduceAdd, Int.reduceSub, Int.reduceMul, Int.reduceNeg, Int.reducePow, List.map_cons, List.map_nil, List.cons_append, List.nil_append, ↓sel2, List.map]
  refine ⟨by omega, hP _ _ ?_⟩
  clear hP hR
  have hsp : nmB (.str (x2 ++ Str.ofString " ")) = false := nm_bad (c := 32) (by rw [ch_app]; exact List.mem_append_right _ (by decide +kernel)) (by decide +kernel)
  have lsp2 : (x2 ++ Str.ofString " ").length ≤ 9 := by rw [app_len]; omega
  generalize x2 ++ Str.ofString " " = spaced at hsp lsp2 ⊢
  have hodd : ∀ x ∈ [D.str bent, .non, .int 3, .bl true, .tup [.str "a"], .lst [.str "a"], .str spaced], flt x := by
    intro x hx
    simp only [List.mem_cons, List.not_mem_nil, or_false] at hx
    rcases hx with rfl | rfl | rfl | rfl | rfl | rfl | rfl
    all_goals first
      | trivial
      | (show _ ≤ big; omega)
  refine run_seq fun P hP hR => ?_
  try simp only [↓r_ok, ↓r_stuck, ↓r_exc, ↓r_v0, ↓r_vs, ↓r_con, ↓r_op2, ↓r_op1, ↓r_and, ↓r_or, ↓r_not, ↓k_and1, ↓k_or1, ↓k_not1, ↓r_if, ↓r_nil, ↓r_cons, ↓r_tup, ↓r_lst, ↓r_cel, ↓r_no, ↓r_some, ↓k_some, ↓r_sli, ↓r_calB, ↓r_cal, ↓r_mtl, ↓r_sm1, ↓k_sm1, ↓r_frz, ↓r_ch, ↓k_ch, ↓r_tst, ↓r_tcm, ↓k_bool, ↓r_andT, ↓r_orT, ↓r_notT, ↓r_yes, ↓r_its, ↓r_ran, ↓r_lc, ↓r_seq, ↓k_nx, ↓k_rt, ↓k_bk, ↓k_ct, ↓r_skip, ↓r_set, ↓r_ifS, ↓r_ret, ↓r_retN, ↓r_drop, ↓r_brk, ↓r_cnt, ↓r_par2, ↓r_par3, ↓k_par2, ↓k_par3, ↓r_asg, ↓r_nm, ↓r_sub, ↓k_sub, ↓r_tupM, ↓k_tup, ↓r_consM, ↓r_nilM, ↓r_for, ↓o_addI, ↓o_addT, ↓o_addL, ↓o_subI, ↓o_mulI, ↓o_mulL, ↓o_divI, ↓o_modI, ↓o_powI, ↓o_lt, ↓o_le, ↓o_gt, ↓o_ge, ↓o_eqI, ↓o_eqT, ↓o_eqB, ↓o_neI, ↓o_neT, ↓o_neB, ↓o_isN, ↓o_isI, ↓o_isB, ↓o_isT, ↓o_isL, ↓o_isU, ↓o_ty, ↓o_ty2, ↓o_ixL, ↓o_ixU, ↓o_ixT, ↓o_len_T, ↓o_len_L, ↓o_len_U, ↓o_lis_L, ↓o_lis_U, ↓o_lis_LC, ↓o_lis_UC, ↓o_tu_L, ↓o_tu_U, ↓o_int_I, ↓o_int_B, ↓o_tru_B, ↓o_tru_I, ↓o_tru_N, ↓o_tru_L, ↓o_tru_U, ↓o_tru_T, ↓o_wal_L, ↓o_wal_U, ↓o_wal_T, ↓o_rng1, ↓o_rng2, ↓o_zip_L, ↓o_zip_U, ↓o_finL, ↓o_finC, ↓o_all, ↓o_any, ↓o_slT, ↓o_slL, ↓o_slR, ↓o_in_T, y_non, y_bl, y_int, y_str, y_lst, y_tup, ↓atK_0, List.set_cons_zero, List.set_cons_succ, List.length_cons, List.length_nil, isb_list_NoneType, isb_list_bool, isb_list_int, isb_list_str, isb_list_list, isb_list_tuple, isb_list_dict, isb_tuple_NoneType, isb_tuple_bool, isb_tuple_int, isb_tuple_str, isb_tuple_list, isb_tuple_tuple, isb_tuple_dict, isb_int_NoneType, isb_int_bool, isb_int_int, isb_int_str, isb_int_list, isb_int_tuple, isb_int_dict, isb_str_NoneType, isb_str_bool, isb_str_int, isb_str_str, isb_str_list, isb_str_tuple, isb_str_dict, isb_bool_NoneType, isb_bool_bool, isb_bool_int, isb_bool_str, isb_bool_list, isb_bool_tuple, isb_bool_dict, isb_dict_NoneType, isb_dict_bool, isb_dict_int, isb_dict_str, isb_dict_list, isb_dict_tuple, isb_dict_dict, ↓reduceIte, Bool.false_eq_true, Bool.not_true, Bool.not_false, Bool.true_or, Bool.or_true, Bool.false_or, Bool.or_false, Bool.true_and, Bool.and_true, Bool.false_and, Bool.and_false, decide_true, decide_false, eq_self, reduceCtorEq, true_and, and_true, ↓atK_1, ↓atK_2, ↓atK_3, ↓atK_4, ↓atK_5, ↓atK_6, ↓atK_7, ↓atK_8, ↓atK_9, wipeD, r_v0, r_vs, big, Nat.reduceAdd, Nat.reduceMul, Nat.reduceLeDiff, Int.reduceLE, Int.reduceLT, Int.reduceToNat, Int.reduceAdd, Int.reduceSub, Int.reduceMul, Int.reduceNeg, Int.reducePow, List.map_cons, List.map_nil, List.cons_append, List.nil_append, ↓sel2, List.map]
  refine (comp_F (fun d => .bl (nmB d)) M4 _ (fun x hx => ?_) ?_)
  · refine ⟨_, rfl, fun p q => ?_⟩
    try simp only [↓r_ok, ↓r_stuck, ↓r_exc, ↓r_v0, ↓r_vs, ↓r_con, ↓r_op2, ↓r_op1, ↓r_and, ↓r_or, ↓r_not, ↓k_and1, ↓k_or1, ↓k_not1, ↓r_if, ↓r_nil, ↓r_cons, ↓r_tup, ↓r_lst, ↓r_cel, ↓r_no, ↓r_some, ↓k_some, ↓r_sli, ↓r_calB, ↓r_cal, ↓r_mtl, ↓r_sm1, ↓k_sm1, ↓r_frz, ↓r_ch, ↓k_ch, ↓r_tst, ↓r_tcm, ↓k_bool, ↓r_andT, ↓r_orT, ↓r_notT, ↓r_yes, ↓r_its, ↓r_ran, ↓r_lc, ↓r_seq, ↓k_nx, ↓k_rt, ↓k_bk, ↓k_ct, ↓r_skip, ↓r_set, ↓r_ifS, ↓r_ret, ↓r_retN, ↓r_drop, ↓r_brk, ↓r_cnt, ↓r_par2, ↓r_par3, ↓k_par2, ↓k_par3, ↓r_asg, ↓r_nm, ↓r_sub, ↓k_sub, ↓r_tupM, ↓k_tup, ↓r_consM, ↓r_nilM, ↓r_for, ↓o_addI, ↓o_addT, ↓o_addL, ↓o_subI, ↓o_mulI, ↓o_mulL, ↓o_divI, ↓o_modI, ↓o_powI, ↓o_lt, ↓o_le, ↓o_gt, ↓o_ge, ↓o_eqI, ↓o_eqT, ↓o_eqB, ↓o_neI, ↓o_neT, ↓o_neB, ↓o_isN, ↓o_isI, ↓o_isB, ↓o_isT, ↓o_isL, ↓o_isU, ↓o_ty, ↓o_ty2, ↓o_ixL, ↓o_ixU, ↓o_ixT, ↓o_len_T, ↓o_len_L, ↓o_len_U, ↓o_lis_L, ↓o_lis_U, ↓o_lis_LC, ↓o_lis_UC, ↓o_tu_L, ↓o_tu_U, ↓o_int_I, ↓o_int_B, ↓o_tru_B, ↓o_tru_I, ↓o_tru_N, ↓o_tru_L, ↓o_tru_U, ↓o_tru_T, ↓o_wal_L, ↓o_wal_U, ↓o_wal_T, ↓o_rng1, ↓o_rng2, ↓o_zip_L, ↓o_zip_U, ↓o_finL, ↓o_finC, ↓o_all, ↓o_any, ↓o_slT, ↓o_slL, ↓o_slR, ↓o_in_T, y_non, y_bl, y_int, y_str, y_lst, y_tup, ↓atK_0, List.set_cons_zero, List.set_cons_succ, List.length_cons, List.length_nil, isb_list_NoneType, isb_list_bool, isb_list_int, isb_list_str, isb_list_list, isb_list_tuple, isb_list_dict, isb_tuple_NoneType, isb_tuple_bool, isb_tuple_int, isb_tuple_str, isb_tuple_list, isb_tuple_tuple, isb_tuple_dict, isb_int_NoneType, isb_int_bool, isb_int_int, isb_int_str, isb_int_list, isb_int_tuple, isb_int_dict, isb_str_NoneType, isb_str_bool, isb_str_int, isb_str_str, isb_str_list, isb_str_tuple, isb_str_dict, isb_bool_NoneType, isb_bool_bool, isb_bool_int, isb_bool_str, isb_bool_list, isb_bool_tuple, isb_bool_dict, isb_dict_NoneType, isb_dict_bool, isb_dict_int, isb_dict_str, isb_dict_list, isb_dict_tuple, isb_dict_dict, ↓reduceIte, Bool.false_eq_true, Bool.not_true, Bool.not_false, Bool.true_or, Bool.or_true, Bool.false_or, Bool.or_false, Bool.true_and, Bool.and_true, Bool.false_and, Bool.and_false, decide_true, decide_false, eq_self, reduceCtorEq, true_and, and_true, ↓atK_1, ↓atK_2, ↓atK_3, ↓atK_4, ↓atK_5, ↓atK_6, ↓atK_7, ↓atK_8, ↓atK_9, wipeD, r_v0, r_vs, big, Nat.reduceAdd, Nat.reduceMul, Nat.reduceLeDiff, Int.reduceLE, Int.reduceLT, Int.reduceToNat, Int.reduceAdd, Int.reduceSub, Int.reduceMul, Int.reduceNeg, Int.reducePow, List.map_cons, List.map_nil, List.cons_append, List.nil_append, ↓sel1]
    exact name_sp (hodd x hx) q
  try simp only [↓r_ok, ↓r_stuck, ↓r_exc, ↓r_v0, ↓r_vs, ↓r_con, ↓r_op2, ↓r_op1, ↓r_and, ↓r_or, ↓r_not, ↓k_and1, ↓k_or1, ↓k_not1, ↓r_if, ↓r_nil, ↓r_cons, ↓r_tup, ↓r_lst, ↓r_cel, ↓r_no, ↓r_some, ↓k_some, ↓r_sli, ↓r_calB, ↓r_cal, ↓r_mtl, ↓r_sm1, ↓k_sm1, ↓r_frz, ↓r_ch, ↓k_ch, ↓r_tst, ↓r_tcm, ↓k_bool, ↓r_andT, ↓r_orT, ↓r_notT, ↓r_yes, ↓r_its, ↓r_ran, ↓r_lc, ↓r_seq, ↓k_nx, ↓k_rt, ↓k_bk, ↓k_ct, ↓r_skip, ↓r_set, ↓r_ifS, ↓r_ret, ↓r_retN, ↓r_drop, ↓r_brk, ↓r_cnt, ↓r_par2, ↓r_par3, ↓k_par2, ↓k_par3, ↓r_asg, ↓r_nm, ↓r_sub, ↓k_sub, ↓r_tupM, ↓k_tup, ↓r_consM, ↓r_nilM, ↓r_for, ↓o_addI, ↓o_addT, ↓o_addL, ↓o_subI, ↓o_mulI, ↓o_mulL, ↓o_divI, ↓o_modI, ↓o_powI, ↓o_lt, ↓o_le, ↓o_gt, ↓o_ge, ↓o_eqI, ↓o_eqT, ↓o_eqB, ↓o_neI, ↓o_neT, ↓o_neB, ↓o_isN, ↓o_isI, ↓o_isB, ↓o_isT, ↓o_isL, ↓o_isU, ↓o_ty, ↓o_ty2, ↓o_ixL, ↓o_ixU, ↓o_ixT, ↓o_len_T, ↓o_len_L, ↓o_len_U, ↓o_lis_L, ↓o_lis_U, ↓o_lis_LC, ↓o_lis_UC, ↓o_tu_L, ↓o_tu_U, ↓o_int_I, ↓o_int_B, ↓o_tru_B, ↓o_tru_I, ↓o_tru_N, ↓o_tru_L, ↓o_tru_U, ↓o_tru_T, ↓o_wal_L, ↓o_wal_U, ↓o_wal_T, ↓o_rng1, ↓o_rng2, ↓o_zip_L, ↓o_zip_U, ↓o_finL, ↓o_finC, ↓o_all, ↓o_any, ↓o_slT, ↓o_slL, ↓o_slR, ↓o_in_T, y_non, y_bl, y_int, y_str, y_lst, y_tup, ↓atK_0, List.set_cons_zero, List.set_cons_succ, List.length_cons, List.length_nil, isb_list_NoneType, isb_list_bool, isb_list_int, isb_list_str, isb_list_list, isb_list_tuple, isb_list_dict, isb_tuple_NoneType, isb_tuple_bool, isb_tuple_int, isb_tuple_str, isb_tuple_list, isb_tuple_tuple, isb_tuple_dict, isb_int_NoneType, isb_int_bool, isb_int_int, isb_int_str, isb_int_list, isb_int_tuple, isb_int_dict, isb_str_NoneType, isb_str_bool, isb_str_int, isb_str_str, isb_str_list, isb_str_tuple, isb_str_dict, isb_bool_NoneType, isb_bool_bool, isb_bool_int, isb_bool_str, isb_bool_list, isb_bool_tuple, isb_bool_dict, isb_dict_NoneType, isb_dict_bool, isb_dict_int, isb_dict_str, isb_dict_list, isb_dict_tuple, isb_dict_dict, ↓reduceIte, Bool.false_eq_true, Bool.not_true, Bool.not_false, Bool.true_or, Bool.or_true, Bool.false_or, Bool.or_false, Bool.true_and, Bool.and_true, Bool.false_and, Bool.and_false, decide_true, decide_false, eq_self, reduceCtorEq, true_and, and_true, ↓atK_1, ↓atK_2, ↓atK_3, ↓atK_4, ↓atK_5, ↓atK_6, ↓atK_7, ↓atK_8, ↓atK_9, wipeD, r_v0, r_vs, big, Nat.reduceAdd, Nat.reduceMul, Nat.reduceLeDiff, Int.reduceLE, Int.reduceLT, Int.reduceToNat, Int.reduceAdd, Int.reduceSub, Int.reduceMul, Int.reduceNeg, Int.reducePow, List.map_cons, List.map_nil, List.cons_append, List.nil_append, List.map]
  refine (like_eq (d := .lst [.bl false, .bl false, .bl false, .bl false, .bl false, .bl false, .bl false]) ?_ rfl (by decide +kernel) ?_)
  · rw [hbent, hsp]
    rfl
  try simp only [↓r_ok, ↓r_stuck, ↓r_exc, ↓r_v0, ↓r_vs, ↓r_con, ↓r_op2, ↓r_op1, ↓r_and, ↓r_or, ↓r_not, ↓k_and1, ↓k_or1, ↓k_not1, ↓r_if, ↓r_nil, ↓r_cons, ↓r_tup, ↓r_lst, ↓r_cel, ↓r_no, ↓r_some, ↓k_some, ↓r_sli, ↓r_calB, ↓r_cal, ↓r_mtl, ↓r_sm1, ↓k_sm1, ↓r_frz, ↓r_ch, ↓k_ch, ↓r_tst, ↓r_tcm, ↓k_bool, ↓r_andT, ↓r_orT, ↓r_notT, ↓r_yes, ↓r_its, ↓r_ran, ↓r_lc, ↓r_seq, ↓k_nx, ↓k_rt, ↓k_bk, ↓k_ct, ↓r_skip, ↓r_set, ↓r_ifS, ↓r_ret, ↓r_retN, ↓r_drop, ↓r_brk, ↓r_cnt, ↓r_par2, ↓r_par3, ↓k_par2, ↓k_par3, ↓r_asg, ↓r_nm, ↓r_sub, ↓k_sub, ↓r_tupM, ↓k_tup, ↓r_consM, ↓r_nilM, ↓r_for, ↓o_addI, ↓o_addT, ↓o_addL, ↓o_subI, ↓o_mulI, ↓o_mulL, ↓o_divI, ↓o_modI, ↓o_powI, ↓o_lt, ↓o_le, ↓o_gt, ↓o_ge, ↓o_eqI, ↓o_eqT, ↓o_eqB, ↓o_neI, ↓o_neT, ↓o_neB, ↓o_isN, ↓o_isI, ↓o_isB, ↓o_isT, ↓o_isL, ↓o_isU, ↓o_ty, ↓o_ty2, ↓o_ixL, ↓o_ixU, ↓o_ixT, ↓o_len_T, ↓o_len_L, ↓o_len_U, ↓o_lis_L, ↓o_lis_U, ↓o_lis_LC, ↓o_lis_UC, ↓o_tu_L, ↓o_tu_U, ↓o_int_I, ↓o_int_B, ↓o_tru_B, ↓o_tru_I, ↓o_tru_N, ↓o_tru_L, ↓o_tru_U, ↓o_tru_T, ↓o_wal_L, ↓o_wal_U, ↓o_wal_T, ↓o_rng1, ↓o_rng2, ↓o_zip_L, ↓o_zip_U, ↓o_finL, ↓o_finC, ↓o_all, ↓o_any, ↓o_slT, ↓o_slL, ↓o_slR, ↓o_in_T, y_non, y_bl, y_int, y_str, y_lst, y_tup, ↓atK_0, List.set_cons_zero, List.set_cons_succ, List.length_cons, List.length_nil, isb_list_NoneType, isb_list_bool, isb_list_int, isb_list_str, isb_list_list, isb_list_tuple, isb_list_dict, isb_tuple_NoneType, isb_tuple_bool, isb_tuple_int, isb_tuple_str, isb_tuple_list, isb_tuple_tuple, isb_tuple_dict, isb_int_NoneType, isb_int_bool, isb_int_int, isb_int_str, isb_int_list, isb_int_tuple, isb_int_dict, isb_str_NoneType, isb_str_bool, isb_str_int, isb_str_str, isb_str_list, isb_str_tuple, isb_str_dict, isb_bool_NoneType, isb_bool_bool, isb_bool_int, isb_bool_str, isb_bool_list, isb_bool_tuple, isb_bool_dict, isb_dict_NoneType, isb_dict_bool, isb_dict_int, isb_dict_str, isb_dict_list, isb_dict_tuple, isb_dict_dict, ↓reduceIte, Bool.false_eq_true, Bool.not_true, Bool.not_false, Bool.true_or, Bool.or_true, Bool.false_or, Bool.or_false, Bool.true_and, Bool.and_true, Bool.false_and, Bool.and_false, decide_true, decide_false, eq_self, reduceCtorEq, true_and, and_true, ↓atK_1, ↓atK_2, ↓atK_3, ↓atK_4, ↓atK_5, ↓atK_6, ↓atK_7, ↓atK_8, ↓atK_9, wipeD, r_v0, r_vs, big, Nat.reduceAdd, Nat.reduceMul, Nat.reduceLeDiff, Int.reduceLE, Int.reduceLT, Int.reduceToNat, Int.reduceAdd, Int.reduceSub, Int.reduceMul, Int.reduceNeg, Int.reducePow, List.map_cons, List.map_nil, List.cons_append, List.nil_append, List.map]
  refine hP _ _ ?_
  clear hP hR
  refine run_seq fun P hP hR => ?_
  try simp only [↓r_ok, ↓r_stuck, ↓r_exc, ↓r_v0, ↓r_vs, ↓r_con, ↓r_op2, ↓r_op1, ↓r_and, ↓r_or, ↓r_not, ↓k_and1, ↓k_or1, ↓k_not1, ↓r_if, ↓r_nil, ↓r_cons, ↓r_tup, ↓r_lst, ↓r_cel, ↓r_no, ↓r_some, ↓k_some, ↓r_sli, ↓r_calB, ↓r_cal, ↓r_mtl, ↓r_sm1, ↓k_sm1, ↓r_frz, ↓r_ch, ↓k_ch, ↓r_tst, ↓r_tcm, ↓k_bool, ↓r_andT, ↓r_orT, ↓r_notT, ↓r_yes, ↓r_its, ↓r_ran, ↓r_lc, ↓r_seq, ↓k_nx, ↓k_rt, ↓k_bk, ↓k_ct, ↓r_skip, ↓r_set, ↓r_ifS, ↓r_ret, ↓r_retN, ↓r_drop, ↓r_brk, ↓r_cnt, ↓r_par2, ↓r_par3, ↓k_par2, ↓k_par3, ↓r_asg, ↓r_nm, ↓r_sub, ↓k_sub, ↓r_tupM, ↓k_tup, ↓r_consM, ↓r_nilM, ↓r_for, ↓o_addI, ↓o_addT, ↓o_addL, ↓o_subI, ↓o_mulI, ↓o_mulL, ↓o_divI, ↓o_modI, ↓o_powI, ↓o_lt, ↓o_le, ↓o_gt, ↓o_ge, ↓o_eqI, ↓o_eqT, ↓o_eqB, ↓o_neI, ↓o_neT, ↓o_neB, ↓o_isN, ↓o_isI, ↓o_isB, ↓o_isT, ↓o_isL, ↓o_isU, ↓o_ty, ↓o_ty2, ↓o_ixL, ↓o_ixU, ↓o_ixT, ↓o_len_T, ↓o_len_L, ↓o_len_U, ↓o_lis_L, ↓o_lis_U, ↓o_lis_LC, ↓o_lis_UC, ↓o_tu_L, ↓o_tu_U, ↓o_int_I, ↓o_int_B, ↓o_tru_B, ↓o_tru_I, ↓o_tru_N, ↓o_tru_L, ↓o_tru_U, ↓o_tru_T, ↓o_wal_L, ↓o_wal_U, ↓o_wal_T, ↓o_rng1, ↓o_rng2, ↓o_zip_L, ↓o_zip_U, ↓o_finL, ↓o_finC, ↓o_all, ↓o_any, ↓o_slT, ↓o_slL, ↓o_slR, ↓o_in_T, y_non, y_bl, y_int, y_str, y_lst, y_tup, ↓atK_0, List.set_cons_zero, List.set_cons_succ, List.length_cons, List.length_nil, isb_list_NoneType, isb_list_bool, isb_list_int, isb_list_str, isb_list_list, isb_list_tuple, isb_list_dict, isb_tuple_NoneType, isb_tuple_bool, isb_tuple_int, isb_tuple_str, isb_tuple_list, isb_tuple_tuple, isb_tuple_dict, isb_int_NoneType, isb_int_bool, isb_int_int, isb_int_str, isb_int_list, isb_int_tuple, isb_int_dict, isb_str_NoneType, isb_str_bool, isb_str_int, isb_str_str, isb_str_list, isb_str_tuple, isb_str_dict, isb_bool_NoneType, isb_bool_bool, isb_bool_int, isb_bool_str, isb_bool_list, isb_bool_tuple, isb_bool_dict, isb_dict_NoneType, isb_dict_bool, isb_dict_int, isb_dict_str, isb_dict_list, isb_dict_tuple, isb_dict_dict, ↓reduceIte, Bool.false_eq_true, Bool.not_true, Bool.not_false, Bool.true_or, Bool.or_true, Bool.false_or, Bool.or_false, Bool.true_and, Bool.and_true, Bool.false_and, Bool.and_false, decide_true, decide_false, eq_self, reduceCtorEq, true_and, and_true, ↓atK_1, ↓atK_2, ↓atK_3, ↓atK_4, ↓atK_5, ↓atK_6, ↓atK_7, ↓atK_8, ↓atK_9, wipeD, r_v0, r_vs, big, Nat.reduceAdd, Nat.reduceMul, Nat.reduceLeDiff, Int.reduceLE, Int.reduceLT, Int.reduceToNat, Int.reduceAdd, Int.reduceSub, Int.reduceMul, Int.reduceNeg, Int.reducePow, List.map_cons, List.map_nil, List.cons_append, List.nil_append, List.map]
  refine hP _ _ ?_
  clear hP hR
  refine run_seq fun P hP hR => ?_
  try simp only [↓r_ok, ↓r_stuck, ↓r_exc, ↓r_v0, ↓r_vs, ↓r_con, ↓r_op2, ↓r_op1, ↓r_and, ↓r_or, ↓r_not, ↓k_and1, ↓k_or1, ↓k_not1, ↓r_if, ↓r_nil, ↓r_cons, ↓r_tup, ↓r_lst, ↓r_cel, ↓r_no, ↓r_some, ↓k_some, ↓r_sli, ↓r_calB, ↓r_cal, ↓r_mtl, ↓r_sm1, ↓k_sm1, ↓r_frz, ↓r_ch, ↓k_ch, ↓r_tst, ↓r_tcm, ↓k_bool, ↓r_andT, ↓r_orT, ↓r_notT, ↓r_yes, ↓r_its, ↓r_ran, ↓r_lc, ↓r_seq, ↓k_nx, ↓k_rt, ↓k_bk, ↓k_ct, ↓r_skip, ↓r_set, ↓r_ifS, ↓r_ret, ↓r_retN, ↓r_drop, ↓r_brk, ↓r_cnt, ↓r_par2, ↓r_par3, ↓k_par2, ↓k_par3, ↓r_asg, ↓r_nm, ↓r_sub, ↓k_sub, ↓r_tupM, ↓k_tup, ↓r_consM, ↓r_nilM, ↓r_for, ↓o_addI, ↓o_addT, ↓o_addL, ↓o_subI, ↓o_mulI, ↓o_mulL, ↓o_divI, ↓o_modI, ↓o_powI, ↓o_lt, ↓o_le, ↓o_gt, ↓o_ge, ↓o_eqI, ↓o_eqT, ↓o_eqB, ↓o_neI, ↓o_neT, ↓o_neB, ↓o_isN, ↓o_isI, ↓o_isB, ↓o_isT, ↓o_isL, ↓o_isU, ↓o_ty, ↓o_ty2, ↓o_ixL, ↓o_ixU, ↓o_ixT, ↓o_len_T, ↓o_len_L, ↓o_len_U, ↓o_lis_L, ↓o_lis_U, ↓o_lis_LC, ↓o_lis_UC, ↓o_tu_L, ↓o_tu_U, ↓o_int_I, ↓o_int_B, ↓o_tru_B, ↓o_tru_I, ↓o_tru_N, ↓o_tru_L, ↓o_tru_U, ↓o_tru_T, ↓o_wal_L, ↓o_wal_U, ↓o_wal_T, ↓o_rng1, ↓o_rng2, ↓o_zip_L, ↓o_zip_U, ↓o_finL, ↓o_finC, ↓o_all, ↓o_any, ↓o_slT, ↓o_slL, ↓o_slR, ↓o_in_T, y_non, y_bl, y_int, y_str, y_lst, y_tup, ↓atK_0, List.set_cons_zero, List.set_cons_succ, List.length_cons, List.length_nil, isb_list_NoneType, isb_list_bool, isb_list_int, isb_list_str, isb_list_list, isb_list_tuple, isb_list_dict, isb_tuple_NoneType, isb_tuple_bool, isb_tuple_int, isb_tuple_str, isb_tuple_list, isb_tuple_tuple, isb_tuple_dict, isb_int_NoneType, isb_int_bool, isb_int_int, isb_int_str, isb_int_list, isb_int_tuple, isb_int_dict, isb_str_NoneType, isb_str_bool, isb_str_int, isb_str_str, isb_str_list, isb_str_tuple, isb_str_dict, isb_bool_NoneType, isb_bool_bool, isb_bool_int, isb_bool_str, isb_bool_list, isb_bool_tuple, isb_bool_dict, isb_dict_NoneType, isb_dict_bool, isb_dict_int, isb_dict_str, isb_dict_list, isb_dict_tuple, isb_dict_dict, ↓reduceIte, Bool.false_eq_true, Bool.not_true, Bool.not_false, Bool.true_or, Bool.or_true, Bool.false_or, Bool.or_false, Bool.true_and, Bool.and_true, Bool.false_and, Bool.and_false, decide_true, decide_false, eq_self, reduceCtorEq, true_and, and_true, ↓atK_1, ↓atK_2, ↓atK_3, ↓atK_4, ↓atK_5, ↓atK_6, ↓atK_7, ↓atK_8, ↓atK_9, wipeD, r_v0, r_vs, big, Nat.reduceAdd, Nat.reduceMul, Nat.reduceLeDiff, Int.reduceLE, Int.reduceLT, Int.reduceToNat, Int.reduceAdd, Int.reduceSub, Int.reduceMul, Int.reduceNeg, Int.reducePow, List.map_cons, List.map_nil, List.cons_append, List.nil_append, ↓sel2, List.map]
  refine like_eq rfl rfl (by decide +kernel) ?_
  try simp only [↓r_ok, ↓r_stuck, ↓r_exc, ↓r_v0, ↓r_vs, ↓r_con, ↓r_op2, ↓r_op1, ↓r_and, ↓r_or, ↓r_not, ↓k_and1, ↓k_or1, ↓k_not1, ↓r_if, ↓r_nil, ↓r_cons, ↓r_tup, ↓r_lst, ↓r_cel, ↓r_no, ↓r_some, ↓k_some, ↓r_sli, ↓r_calB, ↓r_cal, ↓r_mtl, ↓r_sm1, ↓k_sm1, ↓r_frz, ↓r_ch, ↓k_ch, ↓r_tst, ↓r_tcm, ↓k_bool, ↓r_andT, ↓r_orT, ↓r_notT, ↓r_yes, ↓r_its, ↓r_ran, ↓r_lc, ↓r_seq, ↓k_nx, ↓k_rt, ↓k_bk, ↓k_ct, ↓r_skip, ↓r_set, ↓r_ifS, ↓r_ret, ↓r_retN, ↓r_drop, ↓r_brk, ↓r_cnt, ↓r_par2, ↓r_par3, ↓k_par2, ↓k_par3, ↓r_asg, ↓r_nm, ↓r_sub, ↓k_sub, ↓r_tupM, ↓k_tup, ↓r_consM, ↓r_nilM, ↓r_for, ↓o_addI, ↓o_addT, ↓o_addL, ↓o_subI, ↓o_mulI, ↓o_mulL, ↓o_divI, ↓o_modI, ↓o_powI, ↓o_lt, ↓o_le, ↓o_gt, ↓o_ge, ↓o_eqI, ↓o_eqT, ↓o_eqB, ↓o_neI, ↓o_neT, ↓o_neB, ↓o_isN, ↓o_isI, ↓o_isB, ↓o_isT, ↓o_isL, ↓o_isU, ↓o_ty, ↓o_ty2, ↓o_ixL, ↓o_ixU, ↓o_ixT, ↓o_len_T, ↓o_len_L, ↓o_len_U, ↓o_lis_L, ↓o_lis_U, ↓o_lis_LC, ↓o_lis_UC, ↓o_tu_L, ↓o_tu_U, ↓o_int_I, ↓o_int_B, ↓o_tru_B, ↓o_tru_I, ↓o_tru_N, ↓o_tru_L, ↓o_tru_U, ↓o_tru_T, ↓o_wal_L, ↓o_wal_U, ↓o_wal_T, ↓o_rng1, ↓o_rng2, ↓o_zip_L, ↓o_zip_U, ↓o_finL, ↓o_finC, ↓o_all, ↓o_any, ↓o_slT, ↓o_slL, ↓o_slR, ↓o_in_T, y_non, y_bl, y_int, y_str, y_lst, y_tup, ↓atK_0, List.set_cons_zero, List.set_cons_succ, List.length_cons, List.length_nil, isb_list_NoneType, isb_list_bool, isb_list_int, isb_list_str, isb_list_list, isb_list_tuple, isb_list_dict, isb_tuple_NoneType, isb_tuple_bool, isb_tuple_int, isb_tuple_str, isb_tuple_list, isb_tuple_tuple, isb_tuple_dict, isb_int_NoneType, isb_int_bool, isb_int_int, isb_int_str, isb_int_list, isb_int_tuple, isb_int_dict, isb_str_NoneType, isb_str_bool, isb_str_int, isb_str_str, isb_str_list, isb_str_tuple, isb_str_dict, isb_bool_NoneType, isb_bool_bool, isb_bool_int, isb_bool_str, isb_bool_list, isb_bool_tuple, isb_bool_dict, isb_dict_NoneType, isb_dict_bool, isb_dict_int, isb_dict_str, isb_dict_list, isb_dict_tuple, isb_dict_dict, ↓reduceIte, Bool.false_eq_true, Bool.not_true, Bool.not_false, Bool.true_or, Bool.or_true, Bool.false_or, Bool.or_false, Bool.true_and, Bool.and_true, Bool.false_and, Bool.and_false, decide_true, decide_false, eq_self, reduceCtorEq, true_and, and_true, ↓atK_1, ↓atK_2, ↓atK_3, ↓atK_4, ↓atK_5, ↓atK_6, ↓atK_7, ↓atK_8, ↓atK_9, wipeD, r_v0, r_vs, big, Nat.reduceAdd, Nat.reduceMul, Nat.reduceLeDiff, Int.reduceLE, Int.reduceLT, Int.reduceToNat, Int.reduceAdd, Int.reduceSub, Int.reduceMul, Int.reduceNeg, Int.reducePow, List.map_cons, List.map_nil, List.cons_append, List.nil_append, List.map]
  refine hP _ _ ?_
  clear hP hR
  have lz7 : (Str.ofString "zzzzzzz").length = 7 := by decide +kernel
  refine run_seq fun P hP hR => ?_
  try simp only [↓r_ok, ↓r_stuck, ↓r_exc, ↓r_v0, ↓r_vs, ↓r_con, ↓r_op2, ↓r_op1, ↓r_and, ↓r_or, ↓r_not, ↓k_and1, ↓k_or1, ↓k_not1, ↓r_if, ↓r_nil, ↓r_cons, ↓r_tup, ↓r_lst, ↓r_cel, ↓r_no, ↓r_some, ↓k_some, ↓r_sli, ↓r_calB, ↓r_cal, ↓r_mtl, ↓r_sm1, ↓k_sm1, ↓r_frz, ↓r_ch, ↓k_ch, ↓r_tst, ↓r_tcm, ↓k_bool, ↓r_andT, ↓r_orT, ↓r_notT, ↓r_yes, ↓r_its, ↓r_ran, ↓r_lc, ↓r_seq, ↓k_nx, ↓k_rt, ↓k_bk, ↓k_ct, ↓r_skip, ↓r_set, ↓r_ifS, ↓r_ret, ↓r_retN, ↓r_drop, ↓r_brk, ↓r_cnt, ↓r_par2, ↓r_par3, ↓k_par2, ↓k_par3, ↓r_asg, ↓r_nm, ↓r_sub, ↓k_sub, ↓r_tupM, ↓k_tup, ↓r_consM, ↓r_nilM, ↓r_for, ↓o_addI, ↓o_addT, ↓o_addL, ↓o_subI, ↓o_mulI, ↓o_mulL, ↓o_divI, ↓o_modI, ↓o_powI, ↓o_lt, ↓o_le, ↓o_gt, ↓o_ge, ↓o_eqI, ↓o_eqT, ↓o_eqB, ↓o_neI, ↓o_neT, ↓o_neB, ↓o_isN, ↓o_isI, ↓o_isB, ↓o_isT, ↓o_isL, ↓o_isU, ↓o_ty, ↓o_ty2, ↓o_ixL, ↓o_ixU, ↓o_ixT, ↓o_len_T, ↓o_len_L, ↓o_len_U, ↓o_lis_L, ↓o_lis_U, ↓o_lis_LC, ↓o_lis_UC, ↓o_tu_L, ↓o_tu_U, ↓o_int_I, ↓o_int_B, ↓o_tru_B, ↓o_tru_I, ↓o_tru_N, ↓o_tru_L, ↓o_tru_U, ↓o_tru_T, ↓o_wal_L, ↓o_wal_U, ↓o_wal_T, ↓o_rng1, ↓o_rng2, ↓o_zip_L, ↓o_zip_U, ↓o_finL, ↓o_finC, ↓o_all, ↓o_any, ↓o_slT, ↓o_slL, ↓o_slR, ↓o_in_T, y_non, y_bl, y_int, y_str, y_lst, y_tup, ↓atK_0, List.set_cons_zero, List.set_cons_succ, List.length_cons, List.length_nil, isb_list_NoneType, isb_list_bool, isb_list_int, isb_list_str, isb_list_list, isb_list_tuple, isb_list_dict, isb_tuple_NoneType, isb_tuple_bool, isb_tuple_int, isb_tuple_str, isb_tuple_list, isb_tuple_tuple, isb_tuple_dict, isb_int_NoneType, isb_int_bool, isb_int_int, isb_int_str, isb_int_list, isb_int_tuple, isb_int_dict, isb_str_NoneType, isb_str_bool, isb_str_int, isb_str_str, isb_str_list, isb_str_tuple, isb_str_dict, isb_bool_NoneType, isb_bool_bool, isb_bool_int, isb_bool_str, isb_bool_list, isb_bool_tuple, isb_bool_dict, isb_dict_NoneType, isb_dict_bool, isb_dict_int, isb_dict_str, isb_dict_list, isb_dict_tuple, isb_dict_dict, ↓reduceIte, Bool.false_eq_true, Bool.not_true, Bool.not_false, Bool.true_or, Bool.or_true, Bool.false_or, Bool.or_false, Bool.true_and, Bool.and_true, Bool.false_and, Bool.and_false, decide_true, decide_false, eq_self, reduceCtorEq, true_and, and_true, ↓atK_1, ↓atK_2, ↓atK_3, ↓atK_4, ↓atK_5, ↓atK_6, ↓atK_7, ↓atK_8, ↓atK_9, wipeD, r_v0, r_vs, big, Nat.reduceAdd, Nat.reduceMul, Nat.reduceLeDiff, Int.reduceLE, Int.reduceLT, Int.reduceToNat, Int.reduceAdd, Int.reduceSub, Int.reduceMul, Int.reduceNeg, Int.reducePow, List.map_cons, List.map_nil, List.cons_append, List.nil_append, ↓sel2, List.map, List.cons_append, List.nil_append]
  refine ⟨by omega, hP _ _ ?_⟩
  clear hP hR
  have lzed : (x3 ++ Str.ofString "zzzzzzz").length ≤ 20 := by rw [app_len]; omega
  generalize x3 ++ Str.ofString "zzzzzzz" = zed at lzed ⊢
  have hsome := fun (x : D) (hx : x ∈ somel bent spaced zed) => some_sp (by omega) (by omega) lzed hx
  have lsome : (somel bent spaced zed).length = 22 := rfl
  show Run (seqS _ _ _ [some (.scr ns), some (.cell 0), some (.lst [.str x0, .str x1, .str x2, .str x3]), some (.int at_), some (.str bent), some (.str long), some (.lst [.bl true, .bl true, .bl true, .bl false, .bl false, .bl true]), some (.lst [.str bent, .non, .int 3, .bl true, .tup [.str "a"], .lst [.str "a"], .str spaced]), none, some (.lst (rules.map D.str)), some (.lst (words.map D.str)), some (.lst (somel bent spaced zed)), none, none, none, none] M4) _
  generalize somel bent spaced zed = sl at hsome lsome ⊢
  have ssl : (sl.map fun d => D.bl (inB rules d)).length = 22 := by rw [List.length_map, lsome]
  refine run_seq fun P hP hR => ?_
  try simp only [↓r_ok, ↓r_stuck, ↓r_exc, ↓r_v0, ↓r_vs, ↓r_con, ↓r_op2, ↓r_op1, ↓r_and, ↓r_or, ↓r_not, ↓k_and1, ↓k_or1, ↓k_not1, ↓r_if, ↓r_nil, ↓r_cons, ↓r_tup, ↓r_lst, ↓r_cel, ↓r_no, ↓r_some, ↓k_some, ↓r_sli, ↓r_calB, ↓r_cal, ↓r_mtl, ↓r_sm1, ↓k_sm1, ↓r_frz, ↓r_ch, ↓k_ch, ↓r_tst, ↓r_tcm, ↓k_bool, ↓r_andT, ↓r_orT, ↓r_notT, ↓r_yes, ↓r_its, ↓r_ran, ↓r_lc, ↓r_seq, ↓k_nx, ↓k_rt, ↓k_bk, ↓k_ct, ↓r_skip, ↓r_set, ↓r_ifS, ↓r_ret, ↓r_retN, ↓r_drop, ↓r_brk, ↓r_cnt, ↓r_par2, ↓r_par3, ↓k_par2, ↓k_par3, ↓r_asg, ↓r_nm, ↓r_sub, ↓k_sub, ↓r_tupM, ↓k_tup, ↓r_consM, ↓r_nilM, ↓r_for, ↓o_addI, ↓o_addT, ↓o_addL, ↓o_subI, ↓o_mulI, ↓o_mulL, ↓o_divI, ↓o_modI, ↓o_powI, ↓o_lt, ↓o_le, ↓o_gt, ↓o_ge, ↓o_eqI, ↓o_eqT, ↓o_eqB, ↓o_neI, ↓o_neT, ↓o_neB, ↓o_isN, ↓o_isI, ↓o_isB, ↓o_isT, ↓o_isL, ↓o_isU, ↓o_ty, ↓o_ty2, ↓o_ixL, ↓o_ixU, ↓o_ixT, ↓o_len_T, ↓o_len_L, ↓o_len_U, ↓o_lis_L, ↓o_lis_U, ↓o_lis_LC, ↓o_lis_UC, ↓o_tu_L, ↓o_tu_U, ↓o_int_I, ↓o_int_B, ↓o_tru_B, ↓o_tru_I, ↓o_tru_N, ↓o_tru_L, ↓o_tru_U, ↓o_tru_T, ↓o_wal_L, ↓o_wal_U, ↓o_wal_T, ↓o_rng1, ↓o_rng2, ↓o_zip_L, ↓o_zip_U, ↓o_finL, ↓o_finC, ↓o_all, ↓o_any, ↓o_slT, ↓o_slL, ↓o_slR, ↓o_in_T, y_non, y_bl, y_int, y_str, y_lst, y_tup, ↓atK_0, List.set_cons_zero, List.set_cons_succ, List.length_cons, List.length_nil, isb_list_NoneType, isb_list_bool, isb_list_int, isb_list_str, isb_list_list, isb_list_tuple, isb_list_dict, isb_tuple_NoneType, isb_tuple_bool, isb_tuple_int, isb_tuple_str, isb_tuple_list, isb_tuple_tuple, isb_tuple_dict, isb_int_NoneType, isb_int_bool, isb_int_int, isb_int_str, isb_int_list, isb_int_tuple, isb_int_dict, isb_str_NoneType, isb_str_bool, isb_str_int, isb_str_str, isb_str_list, isb_str_tuple, isb_str_dict, isb_bool_NoneType, isb_bool_bool, isb_bool_int, isb_bool_str, isb_bool_list, isb_bool_tuple, isb_bool_dict, isb_dict_NoneType, isb_dict_bool, isb_dict_int, isb_dict_str, isb_dict_list, isb_dict_tuple, isb_dict_dict, ↓reduceIte, Bool.false_eq_true, Bool.not_true, Bool.not_false, Bool.true_or, Bool.or_true, Bool.false_or, Bool.or_false, Bool.true_and, Bool.and_true, Bool.false_and, Bool.and_false, decide_true, decide_false, eq_self, reduceCtorEq, true_and, and_true, ↓atK_1, ↓atK_2, ↓atK_3, ↓atK_4, ↓atK_5, ↓atK_6, ↓atK_7, ↓atK_8, ↓atK_9, wipeD, r_v0, r_vs, big, Nat.reduceAdd, Nat.reduceMul, Nat.reduceLeDiff, Int.reduceLE, Int.reduceLT, Int.reduceToNat, Int.reduceAdd, Int.reduceSub, Int.reduceMul, Int.reduceNeg, Int.reducePow, List.map_cons, List.map_nil, List.cons_append, List.nil_append, ↓sel2]
  refine ⟨by omega, comp_F (fun d => .bl (inB rules d)) M4 _ (fun x hx => ?_) ?_⟩
  · refine ⟨_, rfl, fun p q => ?_⟩
    try simp only [↓r_ok, ↓r_stuck, ↓r_exc, ↓r_v0, ↓r_vs, ↓r_con, ↓r_op2, ↓r_op1, ↓r_and, ↓r_or, ↓r_not, ↓k_and1, ↓k_or1, ↓k_not1, ↓r_if, ↓r_nil, ↓r_cons, ↓r_tup, ↓r_lst, ↓r_cel, ↓r_no, ↓r_some, ↓k_some, ↓r_sli, ↓r_calB, ↓r_cal, ↓r_mtl, ↓r_sm1, ↓k_sm1, ↓r_frz, ↓r_ch, ↓k_ch, ↓r_tst, ↓r_tcm, ↓k_bool, ↓r_andT, ↓r_orT, ↓r_notT, ↓r_yes, ↓r_its, ↓r_ran, ↓r_lc, ↓r_seq, ↓k_nx, ↓k_rt, ↓k_bk, ↓k_ct, ↓r_skip, ↓r_set, ↓r_ifS, ↓r_ret, ↓r_retN, ↓r_drop, ↓r_brk, ↓r_cnt, ↓r_par2, ↓r_par3, ↓k_par2, ↓k_par3, ↓r_asg, ↓r_nm, ↓r_sub, ↓k_sub, ↓r_tupM, ↓k_tup, ↓r_consM, ↓r_nilM, ↓r_for, ↓o_addI, ↓o_addT, ↓o_addL, ↓o_subI, ↓o_mulI, ↓o_mulL, ↓o_divI, ↓o_modI, ↓o_powI, ↓o_lt, ↓o_le, ↓o_gt, ↓o_ge, ↓o_eqI, ↓o_eqT, ↓o_eqB, ↓o_neI, ↓o_neT, ↓o_neB, ↓o_isN, ↓o_isI, ↓o_isB, ↓o_isT, ↓o_isL, ↓o_isU, ↓o_ty, ↓o_ty2, ↓o_ixL, ↓o_ixU, ↓o_ixT, ↓o_len_T, ↓o_len_L, ↓o_len_U, ↓o_lis_L, ↓o_lis_U, ↓o_lis_LC, ↓o_lis_UC, ↓o_tu_L, ↓o_tu_U, ↓o_int_I, ↓o_int_B, ↓o_tru_B, ↓o_tru_I, ↓o_tru_N, ↓o_tru_L, ↓o_tru_U, ↓o_tru_T, ↓o_wal_L, ↓o_wal_U, ↓o_wal_T, ↓o_rng1, ↓o_rng2, ↓o_zip_L, ↓o_zip_U, ↓o_finL, ↓o_finC, ↓o_all, ↓o_any, ↓o_slT, ↓o_slL, ↓o_slR, ↓o_in_T, y_non, y_bl, y_int, y_str, y_lst, y_tup, ↓atK_0, List.set_cons_zero, List.set_cons_succ, List.length_cons, List.length_nil, isb_list_NoneType, isb_list_bool, isb_list_int, isb_list_str, isb_list_list, isb_list_tuple, isb_list_dict, isb_tuple_NoneType, isb_tuple_bool, isb_tuple_int, isb_tuple_str, isb_tuple_list, isb_tuple_tuple, isb_tuple_dict, isb_int_NoneType, isb_int_bool, isb_int_int, isb_int_str, isb_int_list, isb_int_tuple, isb_int_dict, isb_str_NoneType, isb_str_bool, isb_str_int, isb_str_str, isb_str_list, isb_str_tuple, isb_str_dict, isb_bool_NoneType, isb_bool_bool, isb_bool_int, isb_bool_str, isb_bool_list, isb_bool_tuple, isb_bool_dict, isb_dict_NoneType, isb_dict_bool, isb_dict_int, isb_dict_str, isb_dict_list, isb_dict_tuple, isb_dict_dict, ↓reduceIte, Bool.false_eq_true, Bool.not_true, Bool.not_false, Bool.true_or, Bool.or_true, Bool.false_or, Bool.or_false, Bool.true_and, Bool.and_true, Bool.false_and, Bool.and_false, decide_true, decide_false, eq_self, reduceCtorEq, true_and, and_true, ↓atK_1, ↓atK_2, ↓atK_3, ↓atK_4, ↓atK_5, ↓atK_6, ↓atK_7, ↓atK_8, ↓atK_9, wipeD, r_v0, r_vs, big, Nat.reduceAdd, Nat.reduceMul, Nat.reduceLeDiff, Int.reduceLE, Int.reduceLT, Int.reduceToNat, Int.reduceAdd, Int.reduceSub, Int.reduceMul, Int.reduceNeg, Int.reducePow, List.map_cons, List.map_nil, List.cons_append, List.nil_append, ↓sel1]
    exact rule_sp (hsome x hx).1 q
  try simp only [↓r_ok, ↓r_stuck, ↓r_exc, ↓r_v0, ↓r_vs, ↓r_con, ↓r_op2, ↓r_op1, ↓r_and, ↓r_or, ↓r_not, ↓k_and1, ↓k_or1, ↓k_not1, ↓r_if, ↓r_nil, ↓r_cons, ↓r_tup, ↓r_lst, ↓r_cel, ↓r_no, ↓r_some, ↓k_some, ↓r_sli, ↓r_calB, ↓r_cal, ↓r_mtl, ↓r_sm1, ↓k_sm1, ↓r_frz, ↓r_ch, ↓k_ch, ↓r_tst, ↓r_tcm, ↓k_bool, ↓r_andT, ↓r_orT, ↓r_notT, ↓r_yes, ↓r_its, ↓r_ran, ↓r_lc, ↓r_seq, ↓k_nx, ↓k_rt, ↓k_bk, ↓k_ct, ↓r_skip, ↓r_set, ↓r_ifS, ↓r_ret, ↓r_retN, ↓r_drop, ↓r_brk, ↓r_cnt, ↓r_par2, ↓r_par3, ↓k_par2, ↓k_par3, ↓r_asg, ↓r_nm, ↓r_sub, ↓k_sub, ↓r_tupM, ↓k_tup, ↓r_consM, ↓r_nilM, ↓r_for, ↓o_addI, ↓o_addT, ↓o_addL, ↓o_subI, ↓o_mulI, ↓o_mulL, ↓o_divI, ↓o_modI, ↓o_powI, ↓o_lt, ↓o_le, ↓o_gt, ↓o_ge, ↓o_eqI, ↓o_eqT, ↓o_eqB, ↓o_neI, ↓o_neT, ↓o_neB, ↓o_isN, ↓o_isI, ↓o_isB, ↓o_isT, ↓o_isL, ↓o_isU, ↓o_ty, ↓o_ty2, ↓o_ixL, ↓o_ixU, ↓o_ixT, ↓o_len_T, ↓o_len_L, ↓o_len_U, ↓o_lis_L, ↓o_lis_U, ↓o_lis_LC, ↓o_lis_UC, ↓o_tu_L, ↓o_tu_U, ↓o_int_I, ↓o_int_B, ↓o_tru_B, ↓o_tru_I, ↓o_tru_N, ↓o_tru_L, ↓o_tru_U, ↓o_tru_T, ↓o_wal_L, ↓o_wal_U, ↓o_wal_T, ↓o_rng1, ↓o_rng2, ↓o_zip_L, ↓o_zip_U, ↓o_finL, ↓o_finC, ↓o_all, ↓o_any, ↓o_slT, ↓o_slL, ↓o_slR, ↓o_in_T, y_non, y_bl, y_int, y_str, y_lst, y_tup, ↓atK_0, List.set_cons_zero, List.set_cons_succ, List.length_cons, List.length_nil, isb_list_NoneType, isb_list_bool, isb_list_int, isb_list_str, isb_list_list, isb_list_tuple, isb_list_dict, isb_tuple_NoneType, isb_tuple_bool, isb_tuple_int, isb_tuple_str, isb_tuple_list, isb_tuple_tuple, isb_tuple_dict, isb_int_NoneType, isb_int_bool, isb_int_int, isb_int_str, isb_int_list, isb_int_tuple, isb_int_dict, isb_str_NoneType, isb_str_bool, isb_str_int, isb_str_str, isb_str_list, isb_str_tuple, isb_str_dict, isb_bool_NoneType, isb_bool_bool, isb_bool_int, isb_bool_str, isb_bool_list, isb_bool_tuple, isb_bool_dict, isb_dict_NoneType, isb_dict_bool, isb_dict_int, isb_dict_str, isb_dict_list, isb_dict_tuple, isb_dict_dict, ↓reduceIte, Bool.false_eq_true, Bool.not_true, Bool.not_false, Bool.true_or, Bool.or_true, Bool.false_or, Bool.or_false, Bool.true_and, Bool.and_true, Bool.false_and, Bool.and_false, decide_true, decide_false, eq_self, reduceCtorEq, true_and, and_true, ↓atK_1, ↓atK_2, ↓atK_3, ↓atK_4, ↓atK_5, ↓atK_6, ↓atK_7, ↓atK_8, ↓atK_9, wipeD, r_v0, r_vs, big, Nat.reduceAdd, Nat.reduceMul, Nat.reduceLeDiff, Int.reduceLE, Int.reduceLT, Int.reduceToNat, Int.reduceAdd, Int.reduceSub, Int.reduceMul, Int.reduceNeg, Int.reducePow, List.map_cons, List.map_nil, List.cons_append, List.nil_append, ↓selK]
  refine rule_sp (show (Str.ofString "all").length ≤ big by decide +kernel) ?_
  rw [show inB rules (.str (Str.ofString "all")) = true from by decide +kernel]
  refine ⟨by omega, by omega, comp_F (fun d => .bl (inB rules d)) M4 _ (fun x hx => ?_) ?_⟩
  · refine ⟨_, rfl, fun p q => ?_⟩
    try simp only [↓r_ok, ↓r_stuck, ↓r_exc, ↓r_v0, ↓r_vs, ↓r_con, ↓r_op2, ↓r_op1, ↓r_and, ↓r_or, ↓r_not, ↓k_and1, ↓k_or1, ↓k_not1, ↓r_if, ↓r_nil, ↓r_cons, ↓r_tup, ↓r_lst, ↓r_cel, ↓r_no, ↓r_some, ↓k_some, ↓r_sli, ↓r_calB, ↓r_cal, ↓r_mtl, ↓r_sm1, ↓k_sm1, ↓r_frz, ↓r_ch, ↓k_ch, ↓r_tst, ↓r_tcm, ↓k_bool, ↓r_andT, ↓r_orT, ↓r_notT, ↓r_yes, ↓r_its, ↓r_ran, ↓r_lc, ↓r_seq, ↓k_nx, ↓k_rt, ↓k_bk, ↓k_ct, ↓r_skip, ↓r_set, ↓r_ifS, ↓r_ret, ↓r_retN, ↓r_drop, ↓r_brk, ↓r_cnt, ↓r_par2, ↓r_par3, ↓k_par2, ↓k_par3, ↓r_asg, ↓r_nm, ↓r_sub, ↓k_sub, ↓r_tupM, ↓k_tup, ↓r_consM, ↓r_nilM, ↓r_for, ↓o_addI, ↓o_addT, ↓o_addL, ↓o_subI, ↓o_mulI, ↓o_mulL, ↓o_divI, ↓o_modI, ↓o_powI, ↓o_lt, ↓o_le, ↓o_gt, ↓o_ge, ↓o_eqI, ↓o_eqT, ↓o_eqB, ↓o_neI, ↓o_neT, ↓o_neB, ↓o_isN, ↓o_isI, ↓o_isB, ↓o_isT, ↓o_isL, ↓o_isU, ↓o_ty, ↓o_ty2, ↓o_ixL, ↓o_ixU, ↓o_ixT, ↓o_len_T, ↓o_len_L, ↓o_len_U, ↓o_lis_L, ↓o_lis_U, ↓o_lis_LC, ↓o_lis_UC, ↓o_tu_L, ↓o_tu_U, ↓o_int_I, ↓o_int_B, ↓o_tru_B, ↓o_tru_I, ↓o_tru_N, ↓o_tru_L, ↓o_tru_U, ↓o_tru_T, ↓o_wal_L, ↓o_wal_U, ↓o_wal_T, ↓o_rng1, ↓o_rng2, ↓o_zip_L, ↓o_zip_U, ↓o_finL, ↓o_finC, ↓o_all, ↓o_any, ↓o_slT, ↓o_slL, ↓o_slR, ↓o_in_T, y_non, y_bl, y_int, y_str, y_lst, y_tup, ↓atK_0, List.set_cons_zero, List.set_cons_succ, List.length_cons, List.length_nil, isb_list_NoneType, isb_list_bool, isb_list_int, isb_list_str, isb_list_list, isb_list_tuple, isb_list_dict, isb_tuple_NoneType, isb_tuple_bool, isb_tuple_int, isb_tuple_str, isb_tuple_list, isb_tuple_tuple, isb_tuple_dict, isb_int_NoneType, isb_int_bool, isb_int_int, isb_int_str, isb_int_list, isb_int_tuple, isb_int_dict, isb_str_NoneType, isb_str_bool, isb_str_int, isb_str_str, isb_str_list, isb_str_tuple, isb_str_dict, isb_bool_NoneType, isb_bool_bool, isb_bool_int, isb_bool_str, isb_bool_list, isb_bool_tuple, isb_bool_dict, isb_dict_NoneType, isb_dict_bool, isb_dict_int, isb_dict_str, isb_dict_list, isb_dict_tuple, isb_dict_dict, ↓reduceIte, Bool.false_eq_true, Bool.not_true, Bool.not_false, Bool.true_or, Bool.or_true, Bool.false_or, Bool.or_false, Bool.true_and, Bool.and_true, Bool.false_and, Bool.and_false, decide_true, decide_false, eq_self, reduceCtorEq, true_and, and_true, ↓atK_1, ↓atK_2, ↓atK_3, ↓atK_4, ↓atK_5, ↓atK_6, ↓atK_7, ↓atK_8, ↓atK_9, wipeD, r_v0, r_vs, big, Nat.reduceAdd, Nat.reduceMul, Nat.reduceLeDiff, Int.reduceLE, Int.reduceLT, Int.reduceToNat, Int.reduceAdd, Int.reduceSub, Int.reduceMul, Int.reduceNeg, Int.reducePow, List.map_cons, List.map_nil, List.cons_append, List.nil_append, ↓sel1]
    exact ((hsome x hx).2 M4 p).1 q
  refine ⟨by omega, like_eq rfl rfl (LkD_bls bls_of (by rw [List.length_append, ssl]; decide)) ?_⟩
  try simp only [↓r_ok, ↓r_stuck, ↓r_exc, ↓r_v0, ↓r_vs, ↓r_con, ↓r_op2, ↓r_op1, ↓r_and, ↓r_or, ↓r_not, ↓k_and1, ↓k_or1, ↓k_not1, ↓r_if, ↓r_nil, ↓r_cons, ↓r_tup, ↓r_lst, ↓r_cel, ↓r_no, ↓r_some, ↓k_some, ↓r_sli, ↓r_calB, ↓r_cal, ↓r_mtl, ↓r_sm1, ↓k_sm1, ↓r_frz, ↓r_ch, ↓k_ch, ↓r_tst, ↓r_tcm, ↓k_bool, ↓r_andT, ↓r_orT, ↓r_notT, ↓r_yes, ↓r_its, ↓r_ran, ↓r_lc, ↓r_seq, ↓k_nx, ↓k_rt, ↓k_bk, ↓k_ct, ↓r_skip, ↓r_set, ↓r_ifS, ↓r_ret, ↓r_retN, ↓r_drop, ↓r_brk, ↓r_cnt, ↓r_par2, ↓r_par3, ↓k_par2, ↓k_par3, ↓r_asg, ↓r_nm, ↓r_sub, ↓k_sub, ↓r_tupM, ↓k_tup, ↓r_consM, ↓r_nilM, ↓r_for, ↓o_addI, ↓o_addT, ↓o_addL, ↓o_subI, ↓o_mulI, ↓o_mulL, ↓o_divI, ↓o_modI, ↓o_powI, ↓o_lt, ↓o_le, ↓o_gt, ↓o_ge, ↓o_eqI, ↓o_eqT, ↓o_eqB, ↓o_neI, ↓o_neT, ↓o_neB, ↓o_isN, ↓o_isI, ↓o_isB, ↓o_isT, ↓o_isL, ↓o_isU, ↓o_ty, ↓o_ty2, ↓o_ixL, ↓o_ixU, ↓o_ixT, ↓o_len_T, ↓o_len_L, ↓o_len_U, ↓o_lis_L, ↓o_lis_U, ↓o_lis_LC, ↓o_lis_UC, ↓o_tu_L, ↓o_tu_U, ↓o_int_I, ↓o_int_B, ↓o_tru_B, ↓o_tru_I, ↓o_tru_N, ↓o_tru_L, ↓o_tru_U, ↓o_tru_T, ↓o_wal_L, ↓o_wal_U, ↓o_wal_T, ↓o_rng1, ↓o_rng2, ↓o_zip_L, ↓o_zip_U, ↓o_finL, ↓o_finC, ↓o_all, ↓o_any, ↓o_slT, ↓o_slL, ↓o_slR, ↓o_in_T, y_non, y_bl, y_int, y_str, y_lst, y_tup, ↓atK_0, List.set_cons_zero, List.set_cons_succ, List.length_cons, List.length_nil, isb_list_NoneType, isb_list_bool, isb_list_int, isb_list_str, isb_list_list, isb_list_tuple, isb_list_dict, isb_tuple_NoneType, isb_tuple_bool, isb_tuple_int, isb_tuple_str, isb_tuple_list, isb_tuple_tuple, isb_tuple_dict, isb_int_NoneType, isb_int_bool, isb_int_int, isb_int_str, isb_int_list, isb_int_tuple, isb_int_dict, isb_str_NoneType, isb_str_bool, isb_str_int, isb_str_str, isb_str_list, isb_str_tuple, isb_str_dict, isb_bool_NoneType, isb_bool_bool, isb_bool_int, isb_bool_str, isb_bool_list, isb_bool_tuple, isb_bool_dict, isb_dict_NoneType, isb_dict_bool, isb_dict_int, isb_dict_str, isb_dict_list, isb_dict_tuple, isb_dict_dict, ↓reduceIte, Bool.false_eq_true, Bool.not_true, Bool.not_false, Bool.true_or, Bool.or_true, Bool.false_or, Bool.or_false, Bool.true_and, Bool.and_true, Bool.false_and, Bool.and_false, decide_true, decide_false, eq_self, reduceCtorEq, true_and, and_true, ↓atK_1, ↓atK_2, ↓atK_3, ↓atK_4, ↓atK_5, ↓atK_6, ↓atK_7, ↓atK_8, ↓atK_9, wipeD, r_v0, r_vs, big, Nat.reduceAdd, Nat.reduceMul, Nat.reduceLeDiff, Int.reduceLE, Int.reduceLT, Int.reduceToNat, Int.reduceAdd, Int.reduceSub, Int.reduceMul, Int.reduceNeg, Int.reducePow, List.map_cons, List.map_nil, List.cons_append, List.nil_append, List.map]
  refine hP _ _ ?_
  clear hP hR
  have ssw : (sl.map fun d => D.bl (inB words d)).length = 22 := by rw [List.length_map, lsome]
  refine run_seq fun P hP hR => ?_
  try simp only [↓r_ok, ↓r_stuck, ↓r_exc, ↓r_v0, ↓r_vs, ↓r_con, ↓r_op2, ↓r_op1, ↓r_and, ↓r_or, ↓r_not, ↓k_and1, ↓k_or1, ↓k_not1, ↓r_if, ↓r_nil, ↓r_cons, ↓r_tup, ↓r_lst, ↓r_cel, ↓r_no, ↓r_some, ↓k_some, ↓r_sli, ↓r_calB, ↓r_cal, ↓r_mtl, ↓r_sm1, ↓k_sm1, ↓r_frz, ↓r_ch, ↓k_ch, ↓r_tst, ↓r_tcm, ↓k_bool, ↓r_andT, ↓r_orT, ↓r_notT, ↓r_yes, ↓r_its, ↓r_ran, ↓r_lc, ↓r_seq, ↓k_nx, ↓k_rt, ↓k_bk, ↓k_ct, ↓r_skip, ↓r_set, ↓r_ifS, ↓r_ret, ↓r_retN, ↓r_drop, ↓r_brk, ↓r_cnt, ↓r_par2, ↓r_par3, ↓k_par2, ↓k_par3, ↓r_asg, ↓r_nm, ↓r_sub, ↓k_sub, ↓r_tupM, ↓k_tup, ↓r_consM, ↓r_nilM, ↓r_for, ↓o_addI, ↓o_addT, ↓o_addL, ↓o_subI, ↓o_mulI, ↓o_mulL, ↓o_divI, ↓o_modI, ↓o_powI, ↓o_lt, ↓o_le, ↓o_gt, ↓o_ge, ↓o_eqI, ↓o_eqT, ↓o_eqB, ↓o_neI, ↓o_neT, ↓o_neB, ↓o_isN, ↓o_isI, ↓o_isB, ↓o_isT, ↓o_isL, ↓o_isU, ↓o_ty, ↓o_ty2, ↓o_ixL, ↓o_ixU, ↓o_ixT, ↓o_len_T, ↓o_len_L, ↓o_len_U, ↓o_lis_L, ↓o_lis_U, ↓o_lis_LC, ↓o_lis_UC, ↓o_tu_L, ↓o_tu_U, ↓o_int_I, ↓o_int_B, ↓o_tru_B, ↓o_tru_I, ↓o_tru_N, ↓o_tru_L, ↓o_tru_U, ↓o_tru_T, ↓o_wal_L, ↓o_wal_U, ↓o_wal_T, ↓o_rng1, ↓o_rng2, ↓o_zip_L, ↓o_zip_U, ↓o_finL, ↓o_finC, ↓o_all, ↓o_any, ↓o_slT, ↓o_slL, ↓o_slR, ↓o_in_T, y_non, y_bl, y_int, y_str, y_lst, y_tup, ↓atK_0, List.set_cons_zero, List.set_cons_succ, List.length_cons, List.length_nil, isb_list_NoneType, isb_list_bool, isb_list_int, isb_list_str, isb_list_list, isb_list_tuple, isb_list_dict, isb_tuple_NoneType, isb_tuple_bool, isb_tuple_int, isb_tuple_str, isb_tuple_list, isb_tuple_tuple, isb_tuple_dict, isb_int_NoneType, isb_int_bool, isb_int_int, isb_int_str, isb_int_list, isb_int_tuple, isb_int_dict, isb_str_NoneType, isb_str_bool, isb_str_int, isb_str_str, isb_str_list, isb_str_tuple, isb_str_dict, isb_bool_NoneType, isb_bool_bool, isb_bool_int, isb_bool_str, isb_bool_list, isb_bool_tuple, isb_bool_dict, isb_dict_NoneType, isb_dict_bool, isb_dict_int, isb_dict_str, isb_dict_list, isb_dict_tuple, isb_dict_dict, ↓reduceIte, Bool.false_eq_true, Bool.not_true, Bool.not_false, Bool.true_or, Bool.or_true, Bool.false_or, Bool.or_false, Bool.true_and, Bool.and_true, Bool.false_and, Bool.and_false, decide_true, decide_false, eq_self, reduceCtorEq, true_and, and_true, ↓atK_1, ↓atK_2, ↓atK_3, ↓atK_4, ↓atK_5, ↓atK_6, ↓atK_7, ↓atK_8, ↓atK_9, wipeD, r_v0, r_vs, big, Nat.reduceAdd, Nat.reduceMul, Nat.reduceLeDiff, Int.reduceLE, Int.reduceLT, Int.reduceToNat, Int.reduceAdd, Int.reduceSub, Int.reduceMul, Int.reduceNeg, Int.reducePow, List.map_cons, List.map_nil, List.cons_append, List.nil_append, ↓sel2]
  refine ⟨by omega, comp_F (fun d => .bl (inB words d)) M4 _ (fun x hx => ?_) ?_⟩
  · refine ⟨_, rfl, fun p q => ?_⟩
    try simp only [↓r_ok, ↓r_stuck, ↓r_exc, ↓r_v0, ↓r_vs, ↓r_con, ↓r_op2, ↓r_op1, ↓r_and, ↓r_or, ↓r_not, ↓k_and1, ↓k_or1, ↓k_not1, ↓r_if, ↓r_nil, ↓r_cons, ↓r_tup, ↓r_lst, ↓r_cel, ↓r_no, ↓r_some, ↓k_some, ↓r_sli, ↓r_calB, ↓r_cal, ↓r_mtl, ↓r_sm1, ↓k_sm1, ↓r_frz, ↓r_ch, ↓k_ch, ↓r_tst, ↓r_tcm, ↓k_bool, ↓r_andT, ↓r_orT, ↓r_notT, ↓r_yes, ↓r_its, ↓r_ran, ↓r_lc, ↓r_seq, ↓k_nx, ↓k_rt, ↓k_bk, ↓k_ct, ↓r_skip, ↓r_set, ↓r_ifS, ↓r_ret, ↓r_retN, ↓r_drop, ↓r_brk, ↓r_cnt, ↓r_par2, ↓r_par3, ↓k_par2, ↓k_par3, ↓r_asg, ↓r_nm, ↓r_sub, ↓k_sub, ↓r_tupM, ↓k_tup, ↓r_consM, ↓r_nilM, ↓r_for, ↓o_addI, ↓o_addT, ↓o_addL, ↓o_subI, ↓o_mulI, ↓o_mulL, ↓o_divI, ↓o_modI, ↓o_powI, ↓o_lt, ↓o_le, ↓o_gt, ↓o_ge, ↓o_eqI, ↓o_eqT, ↓o_eqB, ↓o_neI, ↓o_neT, ↓o_neB, ↓o_isN, ↓o_isI, ↓o_isB, ↓o_isT, ↓o_isL, ↓o_isU, ↓o_ty, ↓o_ty2, ↓o_ixL, ↓o_ixU, ↓o_ixT, ↓o_len_T, ↓o_len_L, ↓o_len_U, ↓o_lis_L, ↓o_lis_U, ↓o_lis_LC, ↓o_lis_UC, ↓o_tu_L, ↓o_tu_U, ↓o_int_I, ↓o_int_B, ↓o_tru_B, ↓o_tru_I, ↓o_tru_N, ↓o_tru_L, ↓o_tru_U, ↓o_tru_T, ↓o_wal_L, ↓o_wal_U, ↓o_wal_T, ↓o_rng1, ↓o_rng2, ↓o_zip_L, ↓o_zip_U, ↓o_finL, ↓o_finC, ↓o_all, ↓o_any, ↓o_slT, ↓o_slL, ↓o_slR, ↓o_in_T, y_non, y_bl, y_int, y_str, y_lst, y_tup, ↓atK_0, List.set_cons_zero, List.set_cons_succ, List.length_cons, List.length_nil, isb_list_NoneType, isb_list_bool, isb_list_int, isb_list_str, isb_list_list, isb_list_tuple, isb_list_dict, isb_tuple_NoneType, isb_tuple_bool, isb_tuple_int, isb_tuple_str, isb_tuple_list, isb_tuple_tuple, isb_tuple_dict, isb_int_NoneType, isb_int_bool, isb_int_int, isb_int_str, isb_int_list, isb_int_tuple, isb_int_dict, isb_str_NoneType, isb_str_bool, isb_str_int, isb_str_str, isb_str_list, isb_str_tuple, isb_str_dict, isb_bool_NoneType, isb_bool_bool, isb_bool_int, isb_bool_str, isb_bool_list, isb_bool_tuple, isb_bool_dict, isb_dict_NoneType, isb_dict_bool, isb_dict_int, isb_dict_str, isb_dict_list, isb_dict_tuple, isb_dict_dict, ↓reduceIte, Bool.false_eq_true, Bool.not_true, Bool.not_false, Bool.true_or, Bool.or_true, Bool.false_or, Bool.or_false, Bool.true_and, Bool.and_true, Bool.false_and, Bool.and_false, decide_true, decide_false, eq_self, reduceCtorEq, true_and, and_true, ↓atK_1, ↓atK_2, ↓atK_3, ↓atK_4, ↓atK_5, ↓atK_6, ↓atK_7, ↓atK_8, ↓atK_9, wipeD, r_v0, r_vs, big, Nat.reduceAdd, Nat.reduceMul, Nat.reduceLeDiff, Int.reduceLE, Int.reduceLT, Int.reduceToNat, Int.reduceAdd, Int.reduceSub, Int.reduceMul, Int.reduceNeg, Int.reducePow, List.map_cons, List.map_nil, List.cons_append, List.nil_append, ↓sel1]
    exact word_sp (hsome x hx).1 q
  try simp only [↓r_ok, ↓r_stuck, ↓r_exc, ↓r_v0, ↓r_vs, ↓r_con, ↓r_op2, ↓r_op1, ↓r_and, ↓r_or, ↓r_not, ↓k_and1, ↓k_or1, ↓k_not1, ↓r_if, ↓r_nil, ↓r_cons, ↓r_tup, ↓r_lst, ↓r_cel, ↓r_no, ↓r_some, ↓k_some, ↓r_sli, ↓r_calB, ↓r_cal, ↓r_mtl, ↓r_sm1, ↓k_sm1, ↓r_frz, ↓r_ch, ↓k_ch, ↓r_tst, ↓r_tcm, ↓k_bool, ↓r_andT, ↓r_orT, ↓r_notT, ↓r_yes, ↓r_its, ↓r_ran, ↓r_lc, ↓r_seq, ↓k_nx, ↓k_rt, ↓k_bk, ↓k_ct, ↓r_skip, ↓r_set, ↓r_ifS, ↓r_ret, ↓r_retN, ↓r_drop, ↓r_brk, ↓r_cnt, ↓r_par2, ↓r_par3, ↓k_par2, ↓k_par3, ↓r_asg, ↓r_nm, ↓r_sub, ↓k_sub, ↓r_tupM, ↓k_tup, ↓r_consM, ↓r_nilM, ↓r_for, ↓o_addI, ↓o_addT, ↓o_addL, ↓o_subI, ↓o_mulI, ↓o_mulL, ↓o_divI, ↓o_modI, ↓o_powI, ↓o_lt, ↓o_le, ↓o_gt, ↓o_ge, ↓o_eqI, ↓o_eqT, ↓o_eqB, ↓o_neI, ↓o_neT, ↓o_neB, ↓o_isN, ↓o_isI, ↓o_isB, ↓o_isT, ↓o_isL, ↓o_isU, ↓o_ty, ↓o_ty2, ↓o_ixL, ↓o_ixU, ↓o_ixT, ↓o_len_T, ↓o_len_L, ↓o_len_U, ↓o_lis_L, ↓o_lis_U, ↓o_lis_LC, ↓o_lis_UC, ↓o_tu_L, ↓o_tu_U, ↓o_int_I, ↓o_int_B, ↓o_tru_B, ↓o_tru_I, ↓o_tru_N, ↓o_tru_L, ↓o_tru_U, ↓o_tru_T, ↓o_wal_L, ↓o_wal_U, ↓o_wal_T, ↓o_rng1, ↓o_rng2, ↓o_zip_L, ↓o_zip_U, ↓o_finL, ↓o_finC, ↓o_all, ↓o_any, ↓o_slT, ↓o_slL, ↓o_slR, ↓o_in_T, y_non, y_bl, y_int, y_str, y_lst, y_tup, ↓atK_0, List.set_cons_zero, List.set_cons_succ, List.length_cons, List.length_nil, isb_list_NoneType, isb_list_bool, isb_list_int, isb_list_str, isb_list_list, isb_list_tuple, isb_list_dict, isb_tuple_NoneType, isb_tuple_bool, isb_tuple_int, isb_tuple_str, isb_tuple_list, isb_tuple_tuple, isb_tuple_dict, isb_int_NoneType, isb_int_bool, isb_int_int, isb_int_str, isb_int_list, isb_int_tuple, isb_int_dict, isb_str_NoneType, isb_str_bool, isb_str_int, isb_str_str, isb_str_list, isb_str_tuple, isb_str_dict, isb_bool_NoneType, isb_bool_bool, isb_bool_int, isb_bool_str, isb_bool_list, isb_bool_tuple, isb_bool_dict, isb_dict_NoneType, isb_dict_bool, isb_dict_int, isb_dict_str, isb_dict_list, isb_dict_tuple, isb_dict_dict, ↓reduceIte, Bool.false_eq_true, Bool.not_true, Bool.not_false, Bool.true_or, Bool.or_true, Bool.false_or, Bool.or_false, Bool.true_and, Bool.and_true, Bool.false_and, Bool.and_false, decide_true, decide_false, eq_self, reduceCtorEq, true_and, and_true, ↓atK_1, ↓atK_2, ↓atK_3, ↓atK_4, ↓atK_5, ↓atK_6, ↓atK_7, ↓atK_8, ↓atK_9, wipeD, r_v0, r_vs, big, Nat.reduceAdd, Nat.reduceMul, Nat.reduceLeDiff, Int.reduceLE, Int.reduceLT, Int.reduceToNat, Int.reduceAdd, Int.reduceSub, Int.reduceMul, Int.reduceNeg, Int.reducePow, List.map_cons, List.map_nil, List.cons_append, List.nil_append, ↓selK]
  refine word_sp (show (Str.ofString "open").length ≤ big by decide +kernel) ?_
  rw [show inB words (.str (Str.ofString "open")) = true from by decide +kernel]
  try simp only [↓r_ok, ↓r_stuck, ↓r_exc, ↓r_v0, ↓r_vs, ↓r_con, ↓r_op2, ↓r_op1, ↓r_and, ↓r_or, ↓r_not, ↓k_and1, ↓k_or1, ↓k_not1, ↓r_if, ↓r_nil, ↓r_cons, ↓r_tup, ↓r_lst, ↓r_cel, ↓r_no, ↓r_some, ↓k_some, ↓r_sli, ↓r_calB, ↓r_cal, ↓r_mtl, ↓r_sm1, ↓k_sm1, ↓r_frz, ↓r_ch, ↓k_ch, ↓r_tst, ↓r_tcm, ↓k_bool, ↓r_andT, ↓r_orT, ↓r_notT, ↓r_yes, ↓r_its, ↓r_ran, ↓r_lc, ↓r_seq, ↓k_nx, ↓k_rt, ↓k_bk, ↓k_ct, ↓r_skip, ↓r_set, ↓r_ifS, ↓r_ret, ↓r_retN, ↓r_drop, ↓r_brk, ↓r_cnt, ↓r_par2, ↓r_par3, ↓k_par2, ↓k_par3, ↓r_asg, ↓r_nm, ↓r_sub, ↓k_sub, ↓r_tupM, ↓k_tup, ↓r_consM, ↓r_nilM, ↓r_for, ↓o_addI, ↓o_addT, ↓o_addL, ↓o_subI, ↓o_mulI, ↓o_mulL, ↓o_divI, ↓o_modI, ↓o_powI, ↓o_lt, ↓o_le, ↓o_gt, ↓o_ge, ↓o_eqI, ↓o_eqT, ↓o_eqB, ↓o_neI, ↓o_neT, ↓o_neB, ↓o_isN, ↓o_isI, ↓o_isB, ↓o_isT, ↓o_isL, ↓o_isU, ↓o_ty, ↓o_ty2, ↓o_ixL, ↓o_ixU, ↓o_ixT, ↓o_len_T, ↓o_len_L, ↓o_len_U, ↓o_lis_L, ↓o_lis_U, ↓o_lis_LC, ↓o_lis_UC, ↓o_tu_L, ↓o_tu_U, ↓o_int_I, ↓o_int_B, ↓o_tru_B, ↓o_tru_I, ↓o_tru_N, ↓o_tru_L, ↓o_tru_U, ↓o_tru_T, ↓o_wal_L, ↓o_wal_U, ↓o_wal_T, ↓o_rng1, ↓o_rng2, ↓o_zip_L, ↓o_zip_U, ↓o_finL, ↓o_finC, ↓o_all, ↓o_any, ↓o_slT, ↓o_slL, ↓o_slR, ↓o_in_T, y_non, y_bl, y_int, y_str, y_lst, y_tup, ↓atK_0, List.set_cons_zero, List.set_cons_succ, List.length_cons, List.length_nil, isb_list_NoneType, isb_list_bool, isb_list_int, isb_list_str, isb_list_list, isb_list_tuple, isb_list_dict, isb_tuple_NoneType, isb_tuple_bool, isb_tuple_int, isb_tuple_str, isb_tuple_list, isb_tuple_tuple, isb_tuple_dict, isb_int_NoneType, isb_int_bool, isb_int_int, isb_int_str, isb_int_list, isb_int_tuple, isb_int_dict, isb_str_NoneType, isb_str_bool, isb_str_int, isb_str_str, isb_str_list, isb_str_tuple, isb_str_dict, isb_bool_NoneType, isb_bool_bool, isb_bool_int, isb_bool_str, isb_bool_list, isb_bool_tuple, isb_bool_dict, isb_dict_NoneType, isb_dict_bool, isb_dict_int, isb_dict_str, isb_dict_list, isb_dict_tuple, isb_dict_dict, ↓reduceIte, Bool.false_eq_true, Bool.not_true, Bool.not_false, Bool.true_or, Bool.or_true, Bool.false_or, Bool.or_false, Bool.true_and, Bool.and_true, Bool.false_and, Bool.and_false, decide_true, decide_false, eq_self, reduceCtorEq, true_and, and_true, ↓atK_1, ↓atK_2, ↓atK_3, ↓atK_4, ↓atK_5, ↓atK_6, ↓atK_7, ↓atK_8, ↓atK_9, wipeD, r_v0, r_vs, big, Nat.reduceAdd, Nat.reduceMul, Nat.reduceLeDiff, Int.reduceLE, Int.reduceLT, Int.reduceToNat, Int.reduceAdd, Int.reduceSub, Int.reduceMul, Int.reduceNeg, Int.reducePow, List.map_cons, List.map_nil, List.cons_append, List.nil_append, ↓selK]
  refine ⟨by omega, by omega, comp_F (fun d => .bl (inB words d)) M4 _ (fun x hx => ?_) ?_⟩
  · refine ⟨_, rfl, fun p q => ?_⟩
    try simp only [↓r_ok, ↓r_stuck, ↓r_exc, ↓r_v0, ↓r_vs, ↓r_con, ↓r_op2, ↓r_op1, ↓r_and, ↓r_or, ↓r_not, ↓k_and1, ↓k_or1, ↓k_not1, ↓r_if, ↓r_nil, ↓r_cons, ↓r_tup, ↓r_lst, ↓r_cel, ↓r_no, ↓r_some, ↓k_some, ↓r_sli, ↓r_calB, ↓r_cal, ↓r_mtl, ↓r_sm1, ↓k_sm1, ↓r_frz, ↓r_ch, ↓k_ch, ↓r_tst, ↓r_tcm, ↓k_bool, ↓r_andT, ↓r_orT, ↓r_notT, ↓r_yes, ↓r_its, ↓r_ran, ↓r_lc, ↓r_seq, ↓k_nx, ↓k_rt, ↓k_bk, ↓k_ct, ↓r_skip, ↓r_set, ↓r_ifS, ↓r_ret, ↓r_retN, ↓r_drop, ↓r_brk, ↓r_cnt, ↓r_par2, ↓r_par3, ↓k_par2, ↓k_par3, ↓r_asg, ↓r_nm, ↓r_sub, ↓k_sub, ↓r_tupM, ↓k_tup, ↓r_consM, ↓r_nilM, ↓r_for, ↓o_addI, ↓o_addT, ↓o_addL, ↓o_subI, ↓o_mulI, ↓o_mulL, ↓o_divI, ↓o_modI, ↓o_powI, ↓o_lt, ↓o_le, ↓o_gt, ↓o_ge, ↓o_eqI, ↓o_eqT, ↓o_eqB, ↓o_neI, ↓o_neT, ↓o_neB, ↓o_isN, ↓o_isI, ↓o_isB, ↓o_isT, ↓o_isL, ↓o_isU, ↓o_ty, ↓o_ty2, ↓o_ixL, ↓o_ixU, ↓o_ixT, ↓o_len_T, ↓o_len_L, ↓o_len_U, ↓o_lis_L, ↓o_lis_U, ↓o_lis_LC, ↓o_lis_UC, ↓o_tu_L, ↓o_tu_U, ↓o_int_I, ↓o_int_B, ↓o_tru_B, ↓o_tru_I, ↓o_tru_N, ↓o_tru_L, ↓o_tru_U, ↓o_tru_T, ↓o_wal_L, ↓o_wal_U, ↓o_wal_T, ↓o_rng1, ↓o_rng2, ↓o_zip_L, ↓o_zip_U, ↓o_finL, ↓o_finC, ↓o_all, ↓o_any, ↓o_slT, ↓o_slL, ↓o_slR, ↓o_in_T, y_non, y_bl, y_int, y_str, y_lst, y_tup, ↓atK_0, List.set_cons_zero, List.set_cons_succ, List.length_cons, List.length_nil, isb_list_NoneType, isb_list_bool, isb_list_int, isb_list_str, isb_list_list, isb_list_tuple, isb_list_dict, isb_tuple_NoneType, isb_tuple_bool, isb_tuple_int, isb_tuple_str, isb_tuple_list, isb_tuple_tuple, isb_tuple_dict, isb_int_NoneType, isb_int_bool, isb_int_int, isb_int_str, isb_int_list, isb_int_tuple, isb_int_dict, isb_str_NoneType, isb_str_bool, isb_str_int, isb_str_str, isb_str_list, isb_str_tuple, isb_str_dict, isb_bool_NoneType, isb_bool_bool, isb_bool_int, isb_bool_str, isb_bool_list, isb_bool_tuple, isb_bool_dict, isb_dict_NoneType, isb_dict_bool, isb_dict_int, isb_dict_str, isb_dict_list, isb_dict_tuple, isb_dict_dict, ↓reduceIte, Bool.false_eq_true, Bool.not_true, Bool.not_false, Bool.true_or, Bool.or_true, Bool.false_or, Bool.or_false, Bool.true_and, Bool.and_true, Bool.false_and, Bool.and_false, decide_true, decide_false, eq_self, reduceCtorEq, true_and, and_true, ↓atK_1, ↓atK_2, ↓atK_3, ↓atK_4, ↓atK_5, ↓atK_6, ↓atK_7, ↓atK_8, ↓atK_9, wipeD, r_v0, r_vs, big, Nat.reduceAdd, Nat.reduceMul, Nat.reduceLeDiff, Int.reduceLE, Int.reduceLT, Int.reduceToNat, Int.reduceAdd, Int.reduceSub, Int.reduceMul, Int.reduceNeg, Int.reducePow, List.map_cons, List.map_nil, List.cons_append, List.nil_append, ↓sel1]
    exact ((hsome x hx).2 M4 p).2 q
  refine ⟨by omega, like_eq rfl rfl (LkD_bls bls_of (by rw [List.length_append, ssw]; decide)) ?_⟩
  try simp only [↓r_ok, ↓r_stuck, ↓r_exc, ↓r_v0, ↓r_vs, ↓r_con, ↓r_op2, ↓r_op1, ↓r_and, ↓r_or, ↓r_not, ↓k_and1, ↓k_or1, ↓k_not1, ↓r_if, ↓r_nil, ↓r_cons, ↓r_tup, ↓r_lst, ↓r_cel, ↓r_no, ↓r_some, ↓k_some, ↓r_sli, ↓r_calB, ↓r_cal, ↓r_mtl, ↓r_sm1, ↓k_sm1, ↓r_frz, ↓r_ch, ↓k_ch, ↓r_tst, ↓r_tcm, ↓k_bool, ↓r_andT, ↓r_orT, ↓r_notT, ↓r_yes, ↓r_its, ↓r_ran, ↓r_lc, ↓r_seq, ↓k_nx, ↓k_rt, ↓k_bk, ↓k_ct, ↓r_skip, ↓r_set, ↓r_ifS, ↓r_ret, ↓r_retN, ↓r_drop, ↓r_brk, ↓r_cnt, ↓r_par2, ↓r_par3, ↓k_par2, ↓k_par3, ↓r_asg, ↓r_nm, ↓r_sub, ↓k_sub, ↓r_tupM, ↓k_tup, ↓r_consM, ↓r_nilM, ↓r_for, ↓o_addI, ↓o_addT, ↓o_addL, ↓o_subI, ↓o_mulI, ↓o_mulL, ↓o_divI, ↓o_modI, ↓o_powI, ↓o_lt, ↓o_le, ↓o_gt, ↓o_ge, ↓o_eqI, ↓o_eqT, ↓o_eqB, ↓o_neI, ↓o_neT, ↓o_neB, ↓o_isN, ↓o_isI, ↓o_isB, ↓o_isT, ↓o_isL, ↓o_isU, ↓o_ty, ↓o_ty2, ↓o_ixL, ↓o_ixU, ↓o_ixT, ↓o_len_T, ↓o_len_L, ↓o_len_U, ↓o_lis_L, ↓o_lis_U, ↓o_lis_LC, ↓o_lis_UC, ↓o_tu_L, ↓o_tu_U, ↓o_int_I, ↓o_int_B, ↓o_tru_B, ↓o_tru_I, ↓o_tru_N, ↓o_tru_L, ↓o_tru_U, ↓o_tru_T, ↓o_wal_L, ↓o_wal_U, ↓o_wal_T, ↓o_rng1, ↓o_rng2, ↓o_zip_L, ↓o_zip_U, ↓o_finL, ↓o_finC, ↓o_all, ↓o_any, ↓o_slT, ↓o_slL, ↓o_slR, ↓o_in_T, y_non, y_bl, y_int, y_str, y_lst, y_tup, ↓atK_0, List.set_cons_zero, List.set_cons_succ, List.length_cons, List.length_nil, isb_list_NoneType, isb_list_bool, isb_list_int, isb_list_str, isb_list_list, isb_list_tuple, isb_list_dict, isb_tuple_NoneType, isb_tuple_bool, isb_tuple_int, isb_tuple_str, isb_tuple_list, isb_tuple_tuple, isb_tuple_dict, isb_int_NoneType, isb_int_bool, isb_int_int, isb_int_str, isb_int_list, isb_int_tuple, isb_int_dict, isb_str_NoneType, isb_str_bool, isb_str_int, isb_str_str, isb_str_list, isb_str_tuple, isb_str_dict, isb_bool_NoneType, isb_bool_bool, isb_bool_int, isb_bool_str, isb_bool_list, isb_bool_tuple, isb_bool_dict, isb_dict_NoneType, isb_dict_bool, isb_dict_int, isb_dict_str, isb_dict_list, isb_dict_tuple, isb_dict_dict, ↓reduceIte, Bool.false_eq_true, Bool.not_true, Bool.not_false, Bool.true_or, Bool.or_true, Bool.false_or, Bool.or_false, Bool.true_and, Bool.and_true, Bool.false_and, Bool.and_false, decide_true, decide_false, eq_self, reduceCtorEq, true_and, and_true, ↓atK_1, ↓atK_2, ↓atK_3, ↓atK_4, ↓atK_5, ↓atK_6, ↓atK_7, ↓atK_8, ↓atK_9, wipeD, r_v0, r_vs, big, Nat.reduceAdd, Nat.reduceMul, Nat.reduceLeDiff, Int.reduceLE, Int.reduceLT, Int.reduceToNat, Int.reduceAdd, Int.reduceSub, Int.reduceMul, Int.reduceNeg, Int.reducePow, List.map_cons, List.map_nil, List.cons_append, List.nil_append, List.map]
  refine hP _ _ ?_
  clear hP hR
  refine run_seq fun P hP hR => ?_
  try simp only [↓r_ok, ↓r_stuck, ↓r_exc, ↓r_v0, ↓r_vs, ↓r_con, ↓r_op2, ↓r_op1, ↓r_and, ↓r_or, ↓r_not, ↓k_and1, ↓k_or1, ↓k_not1, ↓r_if, ↓r_nil, ↓r_cons, ↓r_tup, ↓r_lst, ↓r_cel, ↓r_no, ↓r_some, ↓k_some, ↓r_sli, ↓r_calB, ↓r_cal, ↓r_mtl, ↓r_sm1, ↓k_sm1, ↓r_frz, ↓r_ch, ↓k_ch, ↓r_tst, ↓r_tcm, ↓k_bool, ↓r_andT, ↓r_orT, ↓r_notT, ↓r_yes, ↓r_its, ↓r_ran, ↓r_lc, ↓r_seq, ↓k_nx, ↓k_rt, ↓k_bk, ↓k_ct, ↓r_skip, ↓r_set, ↓r_ifS, ↓r_ret, ↓r_retN, ↓r_drop, ↓r_brk, ↓r_cnt, ↓r_par2, ↓r_par3, ↓k_par2, ↓k_par3, ↓r_asg, ↓r_nm, ↓r_sub, ↓k_sub, ↓r_tupM, ↓k_tup, ↓r_consM, ↓r_nilM, ↓r_for, ↓o_addI, ↓o_addT, ↓o_addL, ↓o_subI, ↓o_mulI, ↓o_mulL, ↓o_divI, ↓o_modI, ↓o_powI, ↓o_lt, ↓o_le, ↓o_gt, ↓o_ge, ↓o_eqI, ↓o_eqT, ↓o_eqB, ↓o_neI, ↓o_neT, ↓o_neB, ↓o_isN, ↓o_isI, ↓o_isB, ↓o_isT, ↓o_isL, ↓o_isU, ↓o_ty, ↓o_ty2, ↓o_ixL, ↓o_ixU, ↓o_ixT, ↓o_len_T, ↓o_len_L, ↓o_len_U, ↓o_lis_L, ↓o_lis_U, ↓o_lis_LC, ↓o_lis_UC, ↓o_tu_L, ↓o_tu_U, ↓o_int_I, ↓o_int_B, ↓o_tru_B, ↓o_tru_I, ↓o_tru_N, ↓o_tru_L, ↓o_tru_U, ↓o_tru_T, ↓o_wal_L, ↓o_wal_U, ↓o_wal_T, ↓o_rng1, ↓o_rng2, ↓o_zip_L, ↓o_zip_U, ↓o_finL, ↓o_finC, ↓o_all, ↓o_any, ↓o_slT, ↓o_slL, ↓o_slR, ↓o_in_T, y_non, y_bl, y_int, y_str, y_lst, y_tup, ↓atK_0, List.set_cons_zero, List.set_cons_succ, List.length_cons, List.length_nil, isb_list_NoneType, isb_list_bool, isb_list_int, isb_list_str, isb_list_list, isb_list_tuple, isb_list_dict, isb_tuple_NoneType, isb_tuple_bool, isb_tuple_int, isb_tuple_str, isb_tuple_list, isb_tuple_tuple, isb_tuple_dict, isb_int_NoneType, isb_int_bool, isb_int_int, isb_int_str, isb_int_list, isb_int_tuple, isb_int_dict, isb_str_NoneType, isb_str_bool, isb_str_int, isb_str_str, isb_str_list, isb_str_tuple, isb_str_dict, isb_bool_NoneType, isb_bool_bool, isb_bool_int, isb_bool_str, isb_bool_list, isb_bool_tuple, isb_bool_dict, isb_dict_NoneType, isb_dict_bool, isb_dict_int, isb_dict_str, isb_dict_list, isb_dict_tuple, isb_dict_dict, ↓reduceIte, Bool.false_eq_true, Bool.not_true, Bool.not_false, Bool.true_or, Bool.or_true, Bool.false_or, Bool.or_false, Bool.true_and, Bool.and_true, Bool.false_and, Bool.and_false, decide_true, decide_false, eq_self, reduceCtorEq, true_and, and_true, ↓atK_1, ↓atK_2, ↓atK_3, ↓atK_4, ↓atK_5, ↓atK_6, ↓atK_7, ↓atK_8, ↓atK_9, wipeD, r_v0, r_vs, big, Nat.reduceAdd, Nat.reduceMul, Nat.reduceLeDiff, Int.reduceLE, Int.reduceLT, Int.reduceToNat, Int.reduceAdd, Int.reduceSub, Int.reduceMul, Int.reduceNeg, Int.reducePow, List.map_cons, List.map_nil, List.cons_append, List.nil_append, ↓sel2]
  refine ⟨by decide, pull_sp h5 hB4 (by decide) (by decide) fun r M5 r0 r1 hB5 hO5 => ?_⟩
  try simp only [↓r_ok, ↓r_stuck, ↓r_exc, ↓r_v0, ↓r_vs, ↓r_con, ↓r_op2, ↓r_op1, ↓r_and, ↓r_or, ↓r_not, ↓k_and1, ↓k_or1, ↓k_not1, ↓r_if, ↓r_nil, ↓r_cons, ↓r_tup, ↓r_lst, ↓r_cel, ↓r_no, ↓r_some, ↓k_some, ↓r_sli, ↓r_calB, ↓r_cal, ↓r_mtl, ↓r_sm1, ↓k_sm1, ↓r_frz, ↓r_ch, ↓k_ch, ↓r_tst, ↓r_tcm, ↓k_bool, ↓r_andT, ↓r_orT, ↓r_notT, ↓r_yes, ↓r_its, ↓r_ran, ↓r_lc, ↓r_seq, ↓k_nx, ↓k_rt, ↓k_bk, ↓k_ct, ↓r_skip, ↓r_set, ↓r_ifS, ↓r_ret, ↓r_retN, ↓r_drop, ↓r_brk, ↓r_cnt, ↓r_par2, ↓r_par3, ↓k_par2, ↓k_par3, ↓r_asg, ↓r_nm, ↓r_sub, ↓k_sub, ↓r_tupM, ↓k_tup, ↓r_consM, ↓r_nilM, ↓r_for, ↓o_addI, ↓o_addT, ↓o_addL, ↓o_subI, ↓o_mulI, ↓o_mulL, ↓o_divI, ↓o_modI, ↓o_powI, ↓o_lt, ↓o_le, ↓o_gt, ↓o_ge, ↓o_eqI, ↓o_eqT, ↓o_eqB, ↓o_neI, ↓o_neT, ↓o_neB, ↓o_isN, ↓o_isI, ↓o_isB, ↓o_isT, ↓o_isL, ↓o_isU, ↓o_ty, ↓o_ty2, ↓o_ixL, ↓o_ixU, ↓o_ixT, ↓o_len_T, ↓o_len_L, ↓o_len_U, ↓o_lis_L, ↓o_lis_U, ↓o_lis_LC, ↓o_lis_UC, ↓o_tu_L, ↓o_tu_U, ↓o_int_I, ↓o_int_B, ↓o_tru_B, ↓o_tru_I, ↓o_tru_N, ↓o_tru_L, ↓o_tru_U, ↓o_tru_T, ↓o_wal_L, ↓o_wal_U, ↓o_wal_T, ↓o_rng1, ↓o_rng2, ↓o_zip_L, ↓o_zip_U, ↓o_finL, ↓o_finC, ↓o_all, ↓o_any, ↓o_slT, ↓o_slL, ↓o_slR, ↓o_in_T, y_non, y_bl, y_int, y_str, y_lst, y_tup, ↓atK_0, List.set_cons_zero, List.set_cons_succ, List.length_cons, List.length_nil, isb_list_NoneType, isb_list_bool, isb_list_int, isb_list_str, isb_list_list, isb_list_tuple, isb_list_dict, isb_tuple_NoneType, isb_tuple_bool, isb_tuple_int, isb_tuple_str, isb_tuple_list, isb_tuple_tuple, isb_tuple_dict, isb_int_NoneType, isb_int_bool, isb_int_int, isb_int_str, isb_int_list, isb_int_tuple, isb_int_dict, isb_str_NoneType, isb_str_bool, isb_str_int, isb_str_str, isb_str_list, isb_str_tuple, isb_str_dict, isb_bool_NoneType, isb_bool_bool, isb_bool_int, isb_bool_str, isb_bool_list, isb_bool_tuple, isb_bool_dict, isb_dict_NoneType, isb_dict_bool, isb_dict_int, isb_dict_str, isb_dict_list, isb_dict_tuple, isb_dict_dict, ↓reduceIte, Bool.false_eq_true, Bool.not_true, Bool.not_false, Bool.true_or, Bool.or_true, Bool.false_or, Bool.or_false, Bool.true_and, Bool.and_true, Bool.false_and, Bool.and_false, decide_true, decide_false, eq_self, reduceCtorEq, true_and, and_true, ↓atK_1, ↓atK_2, ↓atK_3, ↓atK_4, ↓atK_5, ↓atK_6, ↓atK_7, ↓atK_8, ↓atK_9, wipeD, r_v0, r_vs, big, Nat.reduceAdd, Nat.reduceMul, Nat.reduceLeDiff, Int.reduceLE, Int.reduceLT, Int.reduceToNat, Int.reduceAdd, Int.reduceSub, Int.reduceMul, Int.reduceNeg, Int.reducePow, List.map_cons, List.map_nil, List.cons_append, List.nil_append, ↓sel2]
  refine pull_sp h5 hB5 (by decide) (by decide) fun sz M6 s0 s1 hB6 hO6 => ?_
  try simp only [↓r_ok, ↓r_stuck, ↓r_exc, ↓r_v0, ↓r_vs, ↓r_con, ↓r_op2, ↓r_op1, ↓r_and, ↓r_or, ↓r_not, ↓k_and1, ↓k_or1, ↓k_not1, ↓r_if, ↓r_nil, ↓r_cons, ↓r_tup, ↓r_lst, ↓r_cel, ↓r_no, ↓r_some, ↓k_some, ↓r_sli, ↓r_calB, ↓r_cal, ↓r_mtl, ↓r_sm1, ↓k_sm1, ↓r_frz, ↓r_ch, ↓k_ch, ↓r_tst, ↓r_tcm, ↓k_bool, ↓r_andT, ↓r_orT, ↓r_notT, ↓r_yes, ↓r_its, ↓r_ran, ↓r_lc, ↓r_seq, ↓k_nx, ↓k_rt, ↓k_bk, ↓k_ct, ↓r_skip, ↓r_set, ↓r_ifS, ↓r_ret, ↓r_retN, ↓r_drop, ↓r_brk, ↓r_cnt, ↓r_par2, ↓r_par3, ↓k_par2, ↓k_par3, ↓r_asg, ↓r_nm, ↓r_sub, ↓k_sub, ↓r_tupM, ↓k_tup, ↓r_consM, ↓r_nilM, ↓r_for, ↓o_addI, ↓o_addT, ↓o_addL, ↓o_subI, ↓o_mulI, ↓o_mulL, ↓o_divI, ↓o_modI, ↓o_powI, ↓o_lt, ↓o_le, ↓o_gt, ↓o_ge, ↓o_eqI, ↓o_eqT, ↓o_eqB, ↓o_neI, ↓o_neT, ↓o_neB, ↓o_isN, ↓o_isI, ↓o_isB, ↓o_isT, ↓o_isL, ↓o_isU, ↓o_ty, ↓o_ty2, ↓o_ixL, ↓o_ixU, ↓o_ixT, ↓o_len_T, ↓o_len_L, ↓o_len_U, ↓o_lis_L, ↓o_lis_U, ↓o_lis_LC, ↓o_lis_UC, ↓o_tu_L, ↓o_tu_U, ↓o_int_I, ↓o_int_B, ↓o_tru_B, ↓o_tru_I, ↓o_tru_N, ↓o_tru_L, ↓o_tru_U, ↓o_tru_T, ↓o_wal_L, ↓o_wal_U, ↓o_wal_T, ↓o_rng1, ↓o_rng2, ↓o_zip_L, ↓o_zip_U, ↓o_finL, ↓o_finC, ↓o_all, ↓o_any, ↓o_slT, ↓o_slL, ↓o_slR, ↓o_in_T, y_non, y_bl, y_int, y_str, y_lst, y_tup, ↓atK_0, List.set_cons_zero, List.set_cons_succ, List.length_cons, List.length_nil, isb_list_NoneType, isb_list_bool, isb_list_int, isb_list_str, isb_list_list, isb_list_tuple, isb_list_dict, isb_tuple_NoneType, isb_tuple_bool, isb_tuple_int, isb_tuple_str, isb_tuple_list, isb_tuple_tuple, isb_tuple_dict, isb_int_NoneType, isb_int_bool, isb_int_int, isb_int_str, isb_int_list, isb_int_tuple, isb_int_dict, isb_str_NoneType, isb_str_bool, isb_str_int, isb_str_str, isb_str_list, isb_str_tuple, isb_str_dict, isb_bool_NoneType, isb_bool_bool, isb_bool_int, isb_bool_str, isb_bool_list, isb_bool_tuple, isb_bool_dict, isb_dict_NoneType, isb_dict_bool, isb_dict_int, isb_dict_str, isb_dict_list, isb_dict_tuple, isb_dict_dict, ↓reduceIte, Bool.false_eq_true, Bool.not_true, Bool.not_false, Bool.true_or, Bool.or_true, Bool.false_or, Bool.or_false, Bool.true_and, Bool.and_true, Bool.false_and, Bool.and_false, decide_true, decide_false, eq_self, reduceCtorEq, true_and, and_true, ↓atK_1, ↓atK_2, ↓atK_3, ↓atK_4, ↓atK_5, ↓atK_6, ↓atK_7, ↓atK_8, ↓atK_9, wipeD, r_v0, r_vs, big, Nat.reduceAdd, Nat.reduceMul, Nat.reduceLeDiff, Int.reduceLE, Int.reduceLT, Int.reduceToNat, Int.reduceAdd, Int.reduceSub, Int.reduceMul, Int.reduceNeg, Int.reducePow, List.map_cons, List.map_nil, List.cons_append, List.nil_append, ↓sel2]
  refine hP _ _ ?_
  clear hP hR
  refine run_seq fun P hP hR => ?_
  try simp only [↓r_ok, ↓r_stuck, ↓r_exc, ↓r_v0, ↓r_vs, ↓r_con, ↓r_op2, ↓r_op1, ↓r_and, ↓r_or, ↓r_not, ↓k_and1, ↓k_or1, ↓k_not1, ↓r_if, ↓r_nil, ↓r_cons, ↓r_tup, ↓r_lst, ↓r_cel, ↓r_no, ↓r_some, ↓k_some, ↓r_sli, ↓r_calB, ↓r_cal, ↓r_mtl, ↓r_sm1, ↓k_sm1, ↓r_frz, ↓r_ch, ↓k_ch, ↓r_tst, ↓r_tcm, ↓k_bool, ↓r_andT, ↓r_orT, ↓r_notT, ↓r_yes, ↓r_its, ↓r_ran, ↓r_lc, ↓r_seq, ↓k_nx, ↓k_rt, ↓k_bk, ↓k_ct, ↓r_skip, ↓r_set, ↓r_ifS, ↓r_ret, ↓r_retN, ↓r_drop, ↓r_brk, ↓r_cnt, ↓r_par2, ↓r_par3, ↓k_par2, ↓k_par3, ↓r_asg, ↓r_nm, ↓r_sub, ↓k_sub, ↓r_tupM, ↓k_tup, ↓r_consM, ↓r_nilM, ↓r_for, ↓o_addI, ↓o_addT, ↓o_addL, ↓o_subI, ↓o_mulI, ↓o_mulL, ↓o_divI, ↓o_modI, ↓o_powI, ↓o_lt, ↓o_le, ↓o_gt, ↓o_ge, ↓o_eqI, ↓o_eqT, ↓o_eqB, ↓o_neI, ↓o_neT, ↓o_neB, ↓o_isN, ↓o_isI, ↓o_isB, ↓o_isT, ↓o_isL, ↓o_isU, ↓o_ty, ↓o_ty2, ↓o_ixL, ↓o_ixU, ↓o_ixT, ↓o_len_T, ↓o_len_L, ↓o_len_U, ↓o_lis_L, ↓o_lis_U, ↓o_lis_LC, ↓o_lis_UC, ↓o_tu_L, ↓o_tu_U, ↓o_int_I, ↓o_int_B, ↓o_tru_B, ↓o_tru_I, ↓o_tru_N, ↓o_tru_L, ↓o_tru_U, ↓o_tru_T, ↓o_wal_L, ↓o_wal_U, ↓o_wal_T, ↓o_rng1, ↓o_rng2, ↓o_zip_L, ↓o_zip_U, ↓o_finL, ↓o_finC, ↓o_all, ↓o_any, ↓o_slT, ↓o_slL, ↓o_slR, ↓o_in_T, y_non, y_bl, y_int, y_str, y_lst, y_tup, ↓atK_0, List.set_cons_zero, List.set_cons_succ, List.length_cons, List.length_nil, isb_list_NoneType, isb_list_bool, isb_list_int, isb_list_str, isb_list_list, isb_list_tuple, isb_list_dict, isb_tuple_NoneType, isb_tuple_bool, isb_tuple_int, isb_tuple_str, isb_tuple_list, isb_tuple_tuple, isb_tuple_dict, isb_int_NoneType, isb_int_bool, isb_int_int, isb_int_str, isb_int_list, isb_int_tuple, isb_int_dict, isb_str_NoneType, isb_str_bool, isb_str_int, isb_str_str, isb_str_list, isb_str_tuple, isb_str_dict, isb_bool_NoneType, isb_bool_bool, isb_bool_int, isb_bool_str, isb_bool_list, isb_bool_tuple, isb_bool_dict, isb_dict_NoneType, isb_dict_bool, isb_dict_int, isb_dict_str, isb_dict_list, isb_dict_tuple, isb_dict_dict, ↓reduceIte, Bool.false_eq_true, Bool.not_true, Bool.not_false, Bool.true_or, Bool.or_true, Bool.false_or, Bool.or_false, Bool.true_and, Bool.and_true, Bool.false_and, Bool.and_false, decide_true, decide_false, eq_self, reduceCtorEq, true_and, and_true, ↓atK_1, ↓atK_2, ↓atK_3, ↓atK_4, ↓atK_5, ↓atK_6, ↓atK_7, ↓atK_8, ↓atK_9, wipeD, r_v0, r_vs, big, Nat.reduceAdd, Nat.reduceMul, Nat.reduceLeDiff, Int.reduceLE, Int.reduceLT, Int.reduceToNat, Int.reduceAdd, Int.reduceSub, Int.reduceMul, Int.reduceNeg, Int.reducePow, List.map_cons, List.map_nil, List.cons_append, List.nil_append, ↓sel2]
  refine ⟨by omega, ?_⟩
  generalize hlow : r - 5 = low
  refine loop_inv (fun xs env M => M = M6 ∧ (∃ o1 o2, env = [some (.scr ns), some (.cell 0), some (.lst [.str x0, .str x1, .str x2, .str x3]), some (.int at_), some (.str bent), some (.str long), some (.lst [.bl true, .bl true, .bl true, .bl false, .bl false, .bl true]), some (.lst [.str bent, .non, .int 3, .bl true, .tup [.str "a"], .lst [.str "a"], .str spaced]), none, some (.lst (rules.map D.str)), some (.lst (words.map D.str)), some (.lst sl), some (.int low), some (.int sz), o1, o2]) ∧ ∀ x ∈ xs, ∃ i : Int, x = .int i) ?_ ?_ _ _ _ ⟨rfl, ⟨none, none, rfl⟩, ?_⟩
  · rintro x xs env M ⟨rfl, ⟨o1, o2, rfl⟩, hxs'⟩
    obtain ⟨i, rfl⟩ := hxs' x (List.mem_cons_self ..)
    have htl : ∀ x ∈ xs, ∃ i : Int, x = .int i := fun x h => hxs' x (List.mem_cons_of_mem _ h)
    refine ⟨_, rfl, ?_⟩
    have key : ∀ (b : Bool) (pf : Fl → MS → Prop), b = numB low (low + sz) (.int i) → pf (.nx [some (.scr ns), some (.cell 0), some (.lst [.str x0, .str x1, .str x2, .str x3]), some (.int at_), some (.str bent), some (.str long), some (.lst [.bl true, .bl true, .bl true, .bl false, .bl false, .bl true]), some (.lst [.str bent, .non, .int 3, .bl true, .tup [.str "a"], .lst [.str "a"], .str spaced]), none, some (.lst (rules.map D.str)), some (.lst (words.map D.str)), some (.lst sl), some (.int low), some (.int sz), some (.int i), some (.bl b)]) M → Run (ifS (notT (tstS (calS 7 2 0 (selD [0, 1] []) (consA (lstS (consA (calS 3 3 0 (selD [0, 1, 2] []) (consA (varS 14) (consA (varS 12) (consA (op2 addS (varS 12) (varS 13)) nilA))) nilA) (consA (calS 3 0 3 (selD [2, 1, 0] []) nilA (consA (op2 addS (varS 12) (varS 13)) (consA (varS 12) (consA (varS 14) nilA)))) nilA))) (consA (lstS (consA (varS 15) (consA (varS 15) nilA))) nilA)) nilA))) (retS (conS (.bl false))) skipS (callP ds 99) [some (.scr ns), some (.cell 0), some (.lst [.str x0, .str x1, .str x2, .str x3]), some (.int at_), some (.str bent), some (.str long), some (.lst [.bl true, .bl true, .bl true, .bl false, .bl false, .bl true]), some (.lst [.str bent, .non, .int 3, .bl true, .tup [.str "a"], .lst [.str "a"], .str spaced]), none, some (.lst (rules.map D.str)), some (.lst (words.map D.str)), some (.lst sl), some (.int low), some (.int sz), some (.int i), some (.bl b)] M) pf := by
      intro b pf hb hpf
      try simp only [↓r_ok, ↓r_stuck, ↓r_exc, ↓r_v0, ↓r_vs, ↓r_con, ↓r_op2, ↓r_op1, ↓r_and, ↓r_or, ↓r_not, ↓k_and1, ↓k_or1, ↓k_not1, ↓r_if, ↓r_nil, ↓r_cons, ↓r_tup, ↓r_lst, ↓r_cel, ↓r_no, ↓r_some, ↓k_some, ↓r_sli, ↓r_calB, ↓r_cal, ↓r_mtl, ↓r_sm1, ↓k_sm1, ↓r_frz, ↓r_ch, ↓k_ch, ↓r_tst, ↓r_tcm, ↓k_bool, ↓r_andT, ↓r_orT, ↓r_notT, ↓r_yes, ↓r_its, ↓r_ran, ↓r_lc, ↓r_seq, ↓k_nx, ↓k_rt, ↓k_bk, ↓k_ct, ↓r_skip, ↓r_set, ↓r_ifS, ↓r_ret, ↓r_retN, ↓r_drop, ↓r_brk, ↓r_cnt, ↓r_par2, ↓r_par3, ↓k_par2, ↓k_par3, ↓r_asg, ↓r_nm, ↓r_sub, ↓k_sub, ↓r_tupM, ↓k_tup, ↓r_consM, ↓r_nilM, ↓r_for, ↓o_addI, ↓o_addT, ↓o_addL, ↓o_subI, ↓o_mulI, ↓o_mulL, ↓o_divI, ↓o_modI, ↓o_powI, ↓o_lt, ↓o_le, ↓o_gt, ↓o_ge, ↓o_eqI, ↓o_eqT, ↓o_eqB, ↓o_neI, ↓o_neT, ↓o_neB, ↓o_isN, ↓o_isI, ↓o_isB, ↓o_isT, ↓o_isL, ↓o_isU, ↓o_ty, ↓o_ty2, ↓o_ixL, ↓o_ixU, ↓o_ixT, ↓o_len_T, ↓o_len_L, ↓o_len_U, ↓o_lis_L, ↓o_lis_U, ↓o_lis_LC, ↓o_lis_UC, ↓o_tu_L, ↓o_tu_U, ↓o_int_I, ↓o_int_B, ↓o_tru_B, ↓o_tru_I, ↓o_tru_N, ↓o_tru_L, ↓o_tru_U, ↓o_tru_T, ↓o_wal_L, ↓o_wal_U, ↓o_wal_T, ↓o_rng1, ↓o_rng2, ↓o_zip_L, ↓o_zip_U, ↓o_finL, ↓o_finC, ↓o_all, ↓o_any, ↓o_slT, ↓o_slL, ↓o_slR, ↓o_in_T, y_non, y_bl, y_int, y_str, y_lst, y_tup, ↓atK_0, List.set_cons_zero, List.set_cons_succ, List.length_cons, List.length_nil, isb_list_NoneType, isb_list_bool, isb_list_int, isb_list_str, isb_list_list, isb_list_tuple, isb_list_dict, isb_tuple_NoneType, isb_tuple_bool, isb_tuple_int, isb_tuple_str, isb_tuple_list, isb_tuple_tuple, isb_tuple_dict, isb_int_NoneType, isb_int_bool, isb_int_int, isb_int_str, isb_int_list, isb_int_tuple, isb_int_dict, isb_str_NoneType, isb_str_bool, isb_str_int, isb_str_str, isb_str_list, isb_str_tuple, isb_str_dict, isb_bool_NoneType, isb_bool_bool, isb_bool_int, isb_bool_str, isb_bool_list, isb_bool_tuple, isb_bool_dict, isb_dict_NoneType, isb_dict_bool, isb_dict_int, isb_dict_str, isb_dict_list, isb_dict_tuple, isb_dict_dict, ↓reduceIte, Bool.false_eq_true, Bool.not_true, Bool.not_false, Bool.true_or, Bool.or_true, Bool.false_or, Bool.or_false, Bool.true_and, Bool.and_true, Bool.false_and, Bool.and_false, decide_true, decide_false, eq_self, reduceCtorEq, true_and, and_true, ↓atK_1, ↓atK_2, ↓atK_3, ↓atK_4, ↓atK_5, ↓atK_6, ↓atK_7, ↓atK_8, ↓atK_9, wipeD, r_v0, r_vs, big, Nat.reduceAdd, Nat.reduceMul, Nat.reduceLeDiff, Int.reduceLE, Int.reduceLT, Int.reduceToNat, Int.reduceAdd, Int.reduceSub, Int.reduceMul, Int.reduceNeg, Int.reducePow, List.map_cons, List.map_nil, List.cons_append, List.nil_append, ↓sel2, ↓sel3, ↓selK3]
      refine num_sp trivial ?_
      try simp only [↓r_ok, ↓r_stuck, ↓r_exc, ↓r_v0, ↓r_vs, ↓r_con, ↓r_op2, ↓r_op1, ↓r_and, ↓r_or, ↓r_not, ↓k_and1, ↓k_or1, ↓k_not1, ↓r_if, ↓r_nil, ↓r_cons, ↓r_tup, ↓r_lst, ↓r_cel, ↓r_no, ↓r_some, ↓k_some, ↓r_sli, ↓r_calB, ↓r_cal, ↓r_mtl, ↓r_sm1, ↓k_sm1, ↓r_frz, ↓r_ch, ↓k_ch, ↓r_tst, ↓r_tcm, ↓k_bool, ↓r_andT, ↓r_orT, ↓r_notT, ↓r_yes, ↓r_its, ↓r_ran, ↓r_lc, ↓r_seq, ↓k_nx, ↓k_rt, ↓k_bk, ↓k_ct, ↓r_skip, ↓r_set, ↓r_ifS, ↓r_ret, ↓r_retN, ↓r_drop, ↓r_brk, ↓r_cnt, ↓r_par2, ↓r_par3, ↓k_par2, ↓k_par3, ↓r_asg, ↓r_nm, ↓r_sub, ↓k_sub, ↓r_tupM, ↓k_tup, ↓r_consM, ↓r_nilM, ↓r_for, ↓o_addI, ↓o_addT, ↓o_addL, ↓o_subI, ↓o_mulI, ↓o_mulL, ↓o_divI, ↓o_modI, ↓o_powI, ↓o_lt, ↓o_le, ↓o_gt, ↓o_ge, ↓o_eqI, ↓o_eqT, ↓o_eqB, ↓o_neI, ↓o_neT, ↓o_neB, ↓o_isN, ↓o_isI, ↓o_isB, ↓o_isT, ↓o_isL, ↓o_isU, ↓o_ty, ↓o_ty2, ↓o_ixL, ↓o_ixU, ↓o_ixT, ↓o_len_T, ↓o_len_L, ↓o_len_U, ↓o_lis_L, ↓o_lis_U, ↓o_lis_LC, ↓o_lis_UC, ↓o_tu_L, ↓o_tu_U, ↓o_int_I, ↓o_int_B, ↓o_tru_B, ↓o_tru_I, ↓o_tru_N, ↓o_tru_L, ↓o_tru_U, ↓o_tru_T, ↓o_wal_L, ↓o_wal_U, ↓o_wal_T, ↓o_rng1, ↓o_rng2, ↓o_zip_L, ↓o_zip_U, ↓o_finL, ↓o_finC, ↓o_all, ↓o_any, ↓o_slT, ↓o_slL, ↓o_slR, ↓o_in_T, y_non, y_bl, y_int, y_str, y_lst, y_tup, ↓atK_0, List.set_cons_zero, List.set_cons_succ, List.length_cons, List.length_nil, isb_list_NoneType, isb_list_bool, isb_list_int, isb_list_str, isb_list_list, isb_list_tuple, isb_list_dict, isb_tuple_NoneType, isb_tuple_bool, isb_tuple_int, isb_tuple_str, isb_tuple_list, isb_tuple_tuple, isb_tuple_dict, isb_int_NoneType, isb_int_bool, isb_int_int, isb_int_str, isb_int_list, isb_int_tuple, isb_int_dict, isb_str_NoneType, isb_str_bool, isb_str_int, isb_str_str, isb_str_list, isb_str_tuple, isb_str_dict, isb_bool_NoneType, isb_bool_bool, isb_bool_int, isb_bool_str, isb_bool_list, isb_bool_tuple, isb_bool_dict, isb_dict_NoneType, isb_dict_bool, isb_dict_int, isb_dict_str, isb_dict_list, isb_dict_tuple, isb_dict_dict, ↓reduceIte, Bool.false_eq_true, Bool.not_true, Bool.not_false, Bool.true_or, Bool.or_true, Bool.false_or, Bool.or_false, Bool.true_and, Bool.and_true, Bool.false_and, Bool.and_false, decide_true, decide_false, eq_self, reduceCtorEq, true_and, and_true, ↓atK_1, ↓atK_2, ↓atK_3, ↓atK_4, ↓atK_5, ↓atK_6, ↓atK_7, ↓atK_8, ↓atK_9, wipeD, r_v0, r_vs, big, Nat.reduceAdd, Nat.reduceMul, Nat.reduceLeDiff, Int.reduceLE, Int.reduceLT, Int.reduceToNat, Int.reduceAdd, Int.reduceSub, Int.reduceMul, Int.reduceNeg, Int.reducePow, List.map_cons, List.map_nil, List.cons_append, List.nil_append, ↓sel2, ↓sel3, ↓selK3]
      refine num_sp trivial ?_
      try simp only [↓r_ok, ↓r_stuck, ↓r_exc, ↓r_v0, ↓r_vs, ↓r_con, ↓r_op2, ↓r_op1, ↓r_and, ↓r_or, ↓r_not, ↓k_and1, ↓k_or1, ↓k_not1, ↓r_if, ↓r_nil, ↓r_cons, ↓r_tup, ↓r_lst, ↓r_cel, ↓r_no, ↓r_some, ↓k_some, ↓r_sli, ↓r_calB, ↓r_cal, ↓r_mtl, ↓r_sm1, ↓k_sm1, ↓r_frz, ↓r_ch, ↓k_ch, ↓r_tst, ↓r_tcm, ↓k_bool, ↓r_andT, ↓r_orT, ↓r_notT, ↓r_yes, ↓r_its, ↓r_ran, ↓r_lc, ↓r_seq, ↓k_nx, ↓k_rt, ↓k_bk, ↓k_ct, ↓r_skip, ↓r_set, ↓r_ifS, ↓r_ret, ↓r_retN, ↓r_drop, ↓r_brk, ↓r_cnt, ↓r_par2, ↓r_par3, ↓k_par2, ↓k_par3, ↓r_asg, ↓r_nm, ↓r_sub, ↓k_sub, ↓r_tupM, ↓k_tup, ↓r_consM, ↓r_nilM, ↓r_for, ↓o_addI, ↓o_addT, ↓o_addL, ↓o_subI, ↓o_mulI, ↓o_mulL, ↓o_divI, ↓o_modI, ↓o_powI, ↓o_lt, ↓o_le, ↓o_gt, ↓o_ge, ↓o_eqI, ↓o_eqT, ↓o_eqB, ↓o_neI, ↓o_neT, ↓o_neB, ↓o_isN, ↓o_isI, ↓o_isB, ↓o_isT, ↓o_isL, ↓o_isU, ↓o_ty, ↓o_ty2, ↓o_ixL, ↓o_ixU, ↓o_ixT, ↓o_len_T, ↓o_len_L, ↓o_len_U, ↓o_lis_L, ↓o_lis_U, ↓o_lis_LC, ↓o_lis_UC, ↓o_tu_L, ↓o_tu_U, ↓o_int_I, ↓o_int_B, ↓o_tru_B, ↓o_tru_I, ↓o_tru_N, ↓o_tru_L, ↓o_tru_U, ↓o_tru_T, ↓o_wal_L, ↓o_wal_U, ↓o_wal_T, ↓o_rng1, ↓o_rng2, ↓o_zip_L, ↓o_zip_U, ↓o_finL, ↓o_finC, ↓o_all, ↓o_any, ↓o_slT, ↓o_slL, ↓o_slR, ↓o_in_T, y_non, y_bl, y_int, y_str, y_lst, y_tup, ↓atK_0, List.set_cons_zero, List.set_cons_succ, List.length_cons, List.length_nil, isb_list_NoneType, isb_list_bool, isb_list_int, isb_list_str, isb_list_list, isb_list_tuple, isb_list_dict, isb_tuple_NoneType, isb_tuple_bool, isb_tuple_int, isb_tuple_str, isb_tuple_list, isb_tuple_tuple, isb_tuple_dict, isb_int_NoneType, isb_int_bool, isb_int_int, isb_int_str, isb_int_list, isb_int_tuple, isb_int_dict, isb_str_NoneType, isb_str_bool, isb_str_int, isb_str_str, isb_str_list, isb_str_tuple, isb_str_dict, isb_bool_NoneType, isb_bool_bool, isb_bool_int, isb_bool_str, isb_bool_list, isb_bool_tuple, isb_bool_dict, isb_dict_NoneType, isb_dict_bool, isb_dict_int, isb_dict_str, isb_dict_list, isb_dict_tuple, isb_dict_dict, ↓reduceIte, Bool.false_eq_true, Bool.not_true, Bool.not_false, Bool.true_or, Bool.or_true, Bool.false_or, Bool.or_false, Bool.true_and, Bool.and_true, Bool.false_and, Bool.and_false, decide_true, decide_false, eq_self, reduceCtorEq, true_and, and_true, ↓atK_1, ↓atK_2, ↓atK_3, ↓atK_4, ↓atK_5, ↓atK_6, ↓atK_7, ↓atK_8, ↓atK_9, wipeD, r_v0, r_vs, big, Nat.reduceAdd, Nat.reduceMul, Nat.reduceLeDiff, Int.reduceLE, Int.reduceLT, Int.reduceToNat, Int.reduceAdd, Int.reduceSub, Int.reduceMul, Int.reduceNeg, Int.reducePow, List.map_cons, List.map_nil, List.cons_append, List.nil_append, ↓sel2, ↓sel3, ↓selK3]
      rw [← hb]
      refine like_eq rfl rfl rfl ?_
      try simp only [↓r_ok, ↓r_stuck, ↓r_exc, ↓r_v0, ↓r_vs, ↓r_con, ↓r_op2, ↓r_op1, ↓r_and, ↓r_or, ↓r_not, ↓k_and1, ↓k_or1, ↓k_not1, ↓r_if, ↓r_nil, ↓r_cons, ↓r_tup, ↓r_lst, ↓r_cel, ↓r_no, ↓r_some, ↓k_some, ↓r_sli, ↓r_calB, ↓r_cal, ↓r_mtl, ↓r_sm1, ↓k_sm1, ↓r_frz, ↓r_ch, ↓k_ch, ↓r_tst, ↓r_tcm, ↓k_bool, ↓r_andT, ↓r_orT, ↓r_notT, ↓r_yes, ↓r_its, ↓r_ran, ↓r_lc, ↓r_seq, ↓k_nx, ↓k_rt, ↓k_bk, ↓k_ct, ↓r_skip, ↓r_set, ↓r_ifS, ↓r_ret, ↓r_retN, ↓r_drop, ↓r_brk, ↓r_cnt, ↓r_par2, ↓r_par3, ↓k_par2, ↓k_par3, ↓r_asg, ↓r_nm, ↓r_sub, ↓k_sub, ↓r_tupM, ↓k_tup, ↓r_consM, ↓r_nilM, ↓r_for, ↓o_addI, ↓o_addT, ↓o_addL, ↓o_subI, ↓o_mulI, ↓o_mulL, ↓o_divI, ↓o_modI, ↓o_powI, ↓o_lt, ↓o_le, ↓o_gt, ↓o_ge, ↓o_eqI, ↓o_eqT, ↓o_eqB, ↓o_neI, ↓o_neT, ↓o_neB, ↓o_isN, ↓o_isI, ↓o_isB, ↓o_isT, ↓o_isL, ↓o_isU, ↓o_ty, ↓o_ty2, ↓o_ixL, ↓o_ixU, ↓o_ixT, ↓o_len_T, ↓o_len_L, ↓o_len_U, ↓o_lis_L, ↓o_lis_U, ↓o_lis_LC, ↓o_lis_UC, ↓o_tu_L, ↓o_tu_U, ↓o_int_I, ↓o_int_B, ↓o_tru_B, ↓o_tru_I, ↓o_tru_N, ↓o_tru_L, ↓o_tru_U, ↓o_tru_T, ↓o_wal_L, ↓o_wal_U, ↓o_wal_T, ↓o_rng1, ↓o_rng2, ↓o_zip_L, ↓o_zip_U, ↓o_finL, ↓o_finC, ↓o_all, ↓o_any, ↓o_slT, ↓o_slL, ↓o_slR, ↓o_in_T, y_non, y_bl, y_int, y_str, y_lst, y_tup, ↓atK_0, List.set_cons_zero, List.set_cons_succ, List.length_cons, List.length_nil, isb_list_NoneType, isb_list_bool, isb_list_int, isb_list_str, isb_list_list, isb_list_tuple, isb_list_dict, isb_tuple_NoneType, isb_tuple_bool, isb_tuple_int, isb_tuple_str, isb_tuple_list, isb_tuple_tuple, isb_tuple_dict, isb_int_NoneType, isb_int_bool, isb_int_int, isb_int_str, isb_int_list, isb_int_tuple, isb_int_dict, isb_str_NoneType, isb_str_bool, isb_str_int, isb_str_str, isb_str_list, isb_str_tuple, isb_str_dict, isb_bool_NoneType, isb_bool_bool, isb_bool_int, isb_bool_str, isb_bool_list, isb_bool_tuple, isb_bool_dict, isb_dict_NoneType, isb_dict_bool, isb_dict_int, isb_dict_str, isb_dict_list, isb_dict_tuple, isb_dict_dict, ↓reduceIte, Bool.false_eq_true, Bool.not_true, Bool.not_false, Bool.true_or, Bool.or_true, Bool.false_or, Bool.or_false, Bool.true_and, Bool.and_true, Bool.false_and, Bool.and_false, decide_true, decide_false, eq_self, reduceCtorEq, true_and, and_true, ↓atK_1, ↓atK_2, ↓atK_3, ↓atK_4, ↓atK_5, ↓atK_6, ↓atK_7, ↓atK_8, ↓atK_9, wipeD, r_v0, r_vs, big, Nat.reduceAdd, Nat.reduceMul, Nat.reduceLeDiff, Int.reduceLE, Int.reduceLT, Int.reduceToNat, Int.reduceAdd, Int.reduceSub, Int.reduceMul, Int.reduceNeg, Int.reducePow, List.map_cons, List.map_nil, List.cons_append, List.nil_append, ↓sel2]
      exact hpf
    refine run_seq fun P hP hR => ?_
    try simp only [↓r_ok, ↓r_stuck, ↓r_exc, ↓r_v0, ↓r_vs, ↓r_con, ↓r_op2, ↓r_op1, ↓r_and, ↓r_or, ↓r_not, ↓k_and1, ↓k_or1, ↓k_not1, ↓r_if, ↓r_nil, ↓r_cons, ↓r_tup, ↓r_lst, ↓r_cel, ↓r_no, ↓r_some, ↓k_some, ↓r_sli, ↓r_calB, ↓r_cal, ↓r_mtl, ↓r_sm1, ↓k_sm1, ↓r_frz, ↓r_ch, ↓k_ch, ↓r_tst, ↓r_tcm, ↓k_bool, ↓r_andT, ↓r_orT, ↓r_notT, ↓r_yes, ↓r_its, ↓r_ran, ↓r_lc, ↓r_seq, ↓k_nx, ↓k_rt, ↓k_bk, ↓k_ct, ↓r_skip, ↓r_set, ↓r_ifS, ↓r_ret, ↓r_retN, ↓r_drop, ↓r_brk, ↓r_cnt, ↓r_par2, ↓r_par3, ↓k_par2, ↓k_par3, ↓r_asg, ↓r_nm, ↓r_sub, ↓k_sub, ↓r_tupM, ↓k_tup, ↓r_consM, ↓r_nilM, ↓r_for, ↓o_addI, ↓o_addT, ↓o_addL, ↓o_subI, ↓o_mulI, ↓o_mulL, ↓o_divI, ↓o_modI, ↓o_powI, ↓o_lt, ↓o_le, ↓o_gt, ↓o_ge, ↓o_eqI, ↓o_eqT, ↓o_eqB, ↓o_neI, ↓o_neT, ↓o_neB, ↓o_isN, ↓o_isI, ↓o_isB, ↓o_isT, ↓o_isL, ↓o_isU, ↓o_ty, ↓o_ty2, ↓o_ixL, ↓o_ixU, ↓o_ixT, ↓o_len_T, ↓o_len_L, ↓o_len_U, ↓o_lis_L, ↓o_lis_U, ↓o_lis_LC, ↓o_lis_UC, ↓o_tu_L, ↓o_tu_U, ↓o_int_I, ↓o_int_B, ↓o_tru_B, ↓o_tru_I, ↓o_tru_N, ↓o_tru_L, ↓o_tru_U, ↓o_tru_T, ↓o_wal_L, ↓o_wal_U, ↓o_wal_T, ↓o_rng1, ↓o_rng2, ↓o_zip_L, ↓o_zip_U, ↓o_finL, ↓o_finC, ↓o_all, ↓o_any, ↓o_slT, ↓o_slL, ↓o_slR, ↓o_in_T, y_non, y_bl, y_int, y_str, y_lst, y_tup, ↓atK_0, List.set_cons_zero, List.set_cons_succ, List.length_cons, List.length_nil, isb_list_NoneType, isb_list_bool, isb_list_int, isb_list_str, isb_list_list, isb_list_tuple, isb_list_dict, isb_tuple_NoneType, isb_tuple_bool, isb_tuple_int, isb_tuple_str, isb_tuple_list, isb_tuple_tuple, isb_tuple_dict, isb_int_NoneType, isb_int_bool, isb_int_int, isb_int_str, isb_int_list, isb_int_tuple, isb_int_dict, isb_str_NoneType, isb_str_bool, isb_str_int, isb_str_str, isb_str_list, isb_str_tuple, isb_str_dict, isb_bool_NoneType, isb_bool_bool, isb_bool_int, isb_bool_str, isb_bool_list, isb_bool_tuple, isb_bool_dict, isb_dict_NoneType, isb_dict_bool, isb_dict_int, isb_dict_str, isb_dict_list, isb_dict_tuple, isb_dict_dict, ↓reduceIte, Bool.false_eq_true, Bool.not_true, Bool.not_false, Bool.true_or, Bool.or_true, Bool.false_or, Bool.or_false, Bool.true_and, Bool.and_true, Bool.false_and, Bool.and_false, decide_true, decide_false, eq_self, reduceCtorEq, true_and, and_true, ↓atK_1, ↓atK_2, ↓atK_3, ↓atK_4, ↓atK_5, ↓atK_6, ↓atK_7, ↓atK_8, ↓atK_9, wipeD, r_v0, r_vs, big, Nat.reduceAdd, Nat.reduceMul, Nat.reduceLeDiff, Int.reduceLE, Int.reduceLT, Int.reduceToNat, Int.reduceAdd, Int.reduceSub, Int.reduceMul, Int.reduceNeg, Int.reducePow, List.map_cons, List.map_nil, List.cons_append, List.nil_append, ↓sel2]
    by_cases hc : low ≤ i
    · rw [if_pos (decide_eq_true hc)]
      refine hP _ _ (key _ _ ?_ ⟨rfl, ⟨_, _, rfl⟩, htl⟩)
      show _ = (decide (low ≤ i) && decide (i ≤ low + sz))
      rw [decide_eq_true hc, Bool.true_and]
    · rw [if_neg (by simpa using hc)]
      refine hP _ _ (key _ _ ?_ ⟨rfl, ⟨_, _, rfl⟩, htl⟩)
      show _ = (decide (low ≤ i) && decide (i ≤ low + sz))
      rw [decide_eq_false hc, Bool.false_and]
  · rintro env M ⟨rfl, ⟨o1, o2, rfl⟩, _⟩
    refine hP _ _ ?_
    clear hP hR
    try simp only [↓r_ok, ↓r_stuck, ↓r_exc, ↓r_v0, ↓r_vs, ↓r_con, ↓r_op2, ↓r_op1, ↓r_and, ↓r_or, ↓r_not, ↓k_and1, ↓k_or1, ↓k_not1, ↓r_if, ↓r_nil, ↓r_cons, ↓r_tup, ↓r_lst, ↓r_cel, ↓r_no, ↓r_some, ↓k_some, ↓r_sli, ↓r_calB, ↓r_cal, ↓r_mtl, ↓r_sm1, ↓k_sm1, ↓r_frz, ↓r_ch, ↓k_ch, ↓r_tst, ↓r_tcm, ↓k_bool, ↓r_andT, ↓r_orT, ↓r_notT, ↓r_yes, ↓r_its, ↓r_ran, ↓r_lc, ↓r_seq, ↓k_nx, ↓k_rt, ↓k_bk, ↓k_ct, ↓r_skip, ↓r_set, ↓r_ifS, ↓r_ret, ↓r_retN, ↓r_drop, ↓r_brk, ↓r_cnt, ↓r_par2, ↓r_par3, ↓k_par2, ↓k_par3, ↓r_asg, ↓r_nm, ↓r_sub, ↓k_sub, ↓r_tupM, ↓k_tup, ↓r_consM, ↓r_nilM, ↓r_for, ↓o_addI, ↓o_addT, ↓o_addL, ↓o_subI, ↓o_mulI, ↓o_mulL, ↓o_divI, ↓o_modI, ↓o_powI, ↓o_lt, ↓o_le, ↓o_gt, ↓o_ge, ↓o_eqI, ↓o_eqT, ↓o_eqB, ↓o_neI, ↓o_neT, ↓o_neB, ↓o_isN, ↓o_isI, ↓o_isB, ↓o_isT, ↓o_isL, ↓o_isU, ↓o_ty, ↓o_ty2, ↓o_ixL, ↓o_ixU, ↓o_ixT, ↓o_len_T, ↓o_len_L, ↓o_len_U, ↓o_lis_L, ↓o_lis_U, ↓o_lis_LC, ↓o_lis_UC, ↓o_tu_L, ↓o_tu_U, ↓o_int_I, ↓o_int_B, ↓o_tru_B, ↓o_tru_I, ↓o_tru_N, ↓o_tru_L, ↓o_tru_U, ↓o_tru_T, ↓o_wal_L, ↓o_wal_U, ↓o_wal_T, ↓o_rng1, ↓o_rng2, ↓o_zip_L, ↓o_zip_U, ↓o_finL, ↓o_finC, ↓o_all, ↓o_any, ↓o_slT, ↓o_slL, ↓o_slR, ↓o_in_T, y_non, y_bl, y_int, y_str, y_lst, y_tup, ↓atK_0, List.set_cons_zero, List.set_cons_succ, List.length_cons, List.length_nil, isb_list_NoneType, isb_list_bool, isb_list_int, isb_list_str, isb_list_list, isb_list_tuple, isb_list_dict, isb_tuple_NoneType, isb_tuple_bool, isb_tuple_int, isb_tuple_str, isb_tuple_list, isb_tuple_tuple, isb_tuple_dict, isb_int_NoneType, isb_int_bool, isb_int_int, isb_int_str, isb_int_list, isb_int_tuple, isb_int_dict, isb_str_NoneType, isb_str_bool, isb_str_int, isb_str_str, isb_str_list, isb_str_tuple, isb_str_dict, isb_bool_NoneType, isb_bool_bool, isb_bool_int, isb_bool_str, isb_bool_list, isb_bool_tuple, isb_bool_dict, isb_dict_NoneType, isb_dict_bool, isb_dict_int, isb_dict_str, isb_dict_list, isb_dict_tuple, isb_dict_dict, ↓reduceIte, Bool.false_eq_true, Bool.not_true, Bool.not_false, Bool.true_or, Bool.or_true, Bool.false_or, Bool.or_false, Bool.true_and, Bool.and_true, Bool.false_and, Bool.and_false, decide_true, decide_false, eq_self, reduceCtorEq, true_and, and_true, ↓atK_1, ↓atK_2, ↓atK_3, ↓atK_4, ↓atK_5, ↓atK_6, ↓atK_7, ↓atK_8, ↓atK_9, wipeD, r_v0, r_vs, big, Nat.reduceAdd, Nat.reduceMul, Nat.reduceLeDiff, Int.reduceLE, Int.reduceLT, Int.reduceToNat, Int.reduceAdd, Int.reduceSub, Int.reduceMul, Int.reduceNeg, Int.reducePow, List.map_cons, List.map_nil, List.cons_append, List.nil_append, ↓sel2]
    have hfl : ∀ x ∈ [D.non, .bl true, .bl false, .str "1", .tup [.int 0], .lst [.int 0], .str ""], flt x := by
      intro x hx
      simp only [List.mem_cons, List.not_mem_nil, or_false] at hx
      rcases hx with rfl | rfl | rfl | rfl | rfl | rfl | rfl
      all_goals first
        | trivial
        | (show Str.length _ ≤ big; decide +kernel)
    refine comp_F (fun d => .bl (numB (-9) 9 d)) _ _ (fun x hx => ?_) ?_
    · refine ⟨_, rfl, fun p q => ?_⟩
      try simp only [↓r_ok, ↓r_stuck, ↓r_exc, ↓r_v0, ↓r_vs, ↓r_con, ↓r_op2, ↓r_op1, ↓r_and, ↓r_or, ↓r_not, ↓k_and1, ↓k_or1, ↓k_not1, ↓r_if, ↓r_nil, ↓r_cons, ↓r_tup, ↓r_lst, ↓r_cel, ↓r_no, ↓r_some, ↓k_some, ↓r_sli, ↓r_calB, ↓r_cal, ↓r_mtl, ↓r_sm1, ↓k_sm1, ↓r_frz, ↓r_ch, ↓k_ch, ↓r_tst, ↓r_tcm, ↓k_bool, ↓r_andT, ↓r_orT, ↓r_notT, ↓r_yes, ↓r_its, ↓r_ran, ↓r_lc, ↓r_seq, ↓k_nx, ↓k_rt, ↓k_bk, ↓k_ct, ↓r_skip, ↓r_set, ↓r_ifS, ↓r_ret, ↓r_retN, ↓r_drop, ↓r_brk, ↓r_cnt, ↓r_par2, ↓r_par3, ↓k_par2, ↓k_par3, ↓r_asg, ↓r_nm, ↓r_sub, ↓k_sub, ↓r_tupM, ↓k_tup, ↓r_consM, ↓r_nilM, ↓r_for, ↓o_addI, ↓o_addT, ↓o_addL, ↓o_subI, ↓o_mulI, ↓o_mulL, ↓o_divI, ↓o_modI, ↓o_powI, ↓o_lt, ↓o_le, ↓o_gt, ↓o_ge, ↓o_eqI, ↓o_eqT, ↓o_eqB, ↓o_neI, ↓o_neT, ↓o_neB, ↓o_isN, ↓o_isI, ↓o_isB, ↓o_isT, ↓o_isL, ↓o_isU, ↓o_ty, ↓o_ty2, ↓o_ixL, ↓o_ixU, ↓o_ixT, ↓o_len_T, ↓o_len_L, ↓o_len_U, ↓o_lis_L, ↓o_lis_U, ↓o_lis_LC, ↓o_lis_UC, ↓o_tu_L, ↓o_tu_U, ↓o_int_I, ↓o_int_B, ↓o_tru_B, ↓o_tru_I, ↓o_tru_N, ↓o_tru_L, ↓o_tru_U, ↓o_tru_T, ↓o_wal_L, ↓o_wal_U, ↓o_wal_T, ↓o_rng1, ↓o_rng2, ↓o_zip_L, ↓o_zip_U, ↓o_finL, ↓o_finC, ↓o_all, ↓o_any, ↓o_slT, ↓o_slL, ↓o_slR, ↓o_in_T, y_non, y_bl, y_int, y_str, y_lst, y_tup, ↓atK_0, List.set_cons_zero, List.set_cons_succ, List.length_cons, List.length_nil, isb_list_NoneType, isb_list_bool, isb_list_int, isb_list_str, isb_list_list, isb_list_tuple, isb_list_dict, isb_tuple_NoneType, isb_tuple_bool, isb_tuple_int, isb_tuple_str, isb_tuple_list, isb_tuple_tuple, isb_tuple_dict, isb_int_NoneType, isb_int_bool, isb_int_int, isb_int_str, isb_int_list, isb_int_tuple, isb_int_dict, isb_str_NoneType, isb_str_bool, isb_str_int, isb_str_str, isb_str_list, isb_str_tuple, isb_str_dict, isb_bool_NoneType, isb_bool_bool, isb_bool_int, isb_bool_str, isb_bool_list, isb_bool_tuple, isb_bool_dict, isb_dict_NoneType, isb_dict_bool, isb_dict_int, isb_dict_str, isb_dict_list, isb_dict_tuple, isb_dict_dict, ↓reduceIte, Bool.false_eq_true, Bool.not_true, Bool.not_false, Bool.true_or, Bool.or_true, Bool.false_or, Bool.or_false, Bool.true_and, Bool.and_true, Bool.false_and, Bool.and_false, decide_true, decide_false, eq_self, reduceCtorEq, true_and, and_true, ↓atK_1, ↓atK_2, ↓atK_3, ↓atK_4, ↓atK_5, ↓atK_6, ↓atK_7, ↓atK_8, ↓atK_9, wipeD, r_v0, r_vs, big, Nat.reduceAdd, Nat.reduceMul, Nat.reduceLeDiff, Int.reduceLE, Int.reduceLT, Int.reduceToNat, Int.reduceAdd, Int.reduceSub, Int.reduceMul, Int.reduceNeg, Int.reducePow, List.map_cons, List.map_nil, List.cons_append, List.nil_append, ↓sel3]
      exact num_sp (hfl x hx) q
    · exact like_eq (d := .lst [.bl false, .bl false, .bl false, .bl false, .bl false, .bl false, .bl false]) rfl rfl (by decide +kernel) rfl
  · intro x hx
    obtain ⟨i, _, rfl⟩ := rng_mem hx
    exact ⟨_, rfl⟩
end LW
set_option maxHeartbeats 0
namespace LW
open PySem PySem.Spec PyProof.Rows L2 Evl MP
abbrev Rw : PySem.W.OpenRow := PySem.W.OpenLaw.row PySem.Challenge.rw_likeglue_k02_names_rules_and_words
abbrev hk : PySem.W.Hook := hookX 5 (facB fas tus) (es.map Ent.dd)
def ob (s : PySem.W.SharedT) : He.AlD := obsXG 5 (facB fas tus) (es.map Ent.dd) (HandSHeadRun.getT s)
theorem ob_eq (s : PySem.W.SharedT) : ob s = hk.obs s.abs := obsXG_eq (HandSHeadRun.getT_eq s)
theorem hrun (w : World) : HandSHeadRun.RunEq Rw (PySem.W.view Rw.prog [14]) hk ob 4000 ["RULES", "WORDS", "LETTERS", "is_name", "is_rule", "is_word", "is_number", "_law_draws", "_law_pull", "_law_any", "_law_like", "_law_new_names"] w := by
  intro os
  kernel_rfl
end LW
open PySem PySem.W PySem.Calls PyProof.Rows
theorem PySem.Challenge.cw_likeglue_k02_names_rules_and_words_holds : PySem.Challenge.rw_likeglue_k02_names_rules_and_words.Holds := by
  w_on; o_law
  refine HandSHeadRun.head_any (r := OpenLaw.row PySem.Challenge.rw_likeglue_k02_names_rules_and_words) (q := view (OpenLaw.row PySem.Challenge.rw_likeglue_k02_names_rules_and_words).prog [14]) (H := LW.hk) (ob := LW.ob) (M := 4000) (loose := ["RULES", "WORDS", "LETTERS", "is_name", "is_rule", "is_word", "is_number", "_law_draws", "_law_pull", "_law_any", "_law_like", "_law_new_names"]) (d := HandSHeadRun.topDef (OpenLaw.row PySem.Challenge.rw_likeglue_k02_names_rules_and_words).prog 14) (kwd := []) LW.ob_eq
    (by kernel_rfl) (fun s => by kernel_rfl) LW.hrun (by kernel_rfl) (by kernel_rfl) (by kernel_rfl) (by rfl) (by first | assumption | decide +kernel) (by decide +kernel) ⟨rfl, rfl, rfl, rfl, rfl, by decide +kernel⟩ ?hw ?hc
  case hw => w_witness2
  case hc =>
    refine MP.fin_walk (l := PySem.Challenge.rw_likeglue_k02_names_rules_and_words) (k := 100) (x := "_law_script") (i := 9) (ent := LW.e_law) (es := LW.es) rfl (by kernel_rfl) ⟨rfl, by decide, by decide⟩ (by kernel_rfl) rfl rfl rfl (fun K c => MP.fac_fa c 20 rfl) (fun _ _ _ _ _ _ us hl => match us, hl with | [_], _ => rfl) rfl ?main LW.run
    intro w K mg h fdd X G c S
    exact ⟨fun _ => 0, fun base KB NB => LW.d_all S (LW.facts X G S c)⟩
