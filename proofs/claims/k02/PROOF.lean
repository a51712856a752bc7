import PyProof.Rows.All
import Wide.All
import OpenK.AllK
import Wide.FinOn
import PyProof.EqAt
import PyProof.EqKinds
import PyProof.TupleCall
import HandS.ForMost
import HandS.TupAny
import HandS.IsInst
import HandS.Style
import HandS.Walk
import KE.GoesEnum
import HandS.EndBits
import PySem.Challenge.RW_pagemold_k02_shift_a_lag
set_option Elab.async false
set_option linter.all false
set_option maxRecDepth 100000
set_option maxHeartbeats 2000000
/-! D: functions of plain data. A def's body is told as a function on data (None, bools, ints, texts, tuples, lists), with the lists and dicts it changes as cells. -/
namespace Dd
open PySem PySem.Spec PyProof.Rows L2

abbrev PD := PyData
/-- an answer; an own error with its fields; or: not told -/
inductive Out (α : Type) where
  | ok (a : α) | err (c : Str) (fs : List (Str × PD)) | bad
def Out.bind {α β : Type} (m : Out α) (k : α → Out β) : Out β := match m with
  | .ok a => k a
  | .err c fs => .err c fs
  | .bad => .bad
instance : Monad Out where
  pure := Out.ok
  bind := Out.bind
section
variable {α β γ : Type}
@[simp] theorem ok_bind {a : α} {k : α → Out β} : (Out.ok a >>= k) = k a := rfl
@[simp] theorem err_bind {c : Str} {fs : List (Str × PD)} {k : α → Out β} : (Out.err c fs >>= k) = .err c fs := rfl
@[simp] theorem bad_bind {k : α → Out β} : ((Out.bad : Out α) >>= k) = .bad := rfl
@[simp] theorem out_pure {a : α} : (pure a : Out α) = .ok a := rfl
theorem bind_bind (m : Out α) (k : α → Out β) (l : β → Out γ) : ((m >>= k) >>= l) = (m >>= fun a => k a >>= l) := by cases m <;> rfl
theorem bind_ok' (m : Out α) : (m >>= fun a => Out.ok a) = m := by cases m <;> rfl
end
abbrev WE := Str → List (Str × PD) → Prop
def Res {α : Type} (We : WE) (m : Out α) (P : α → Prop) : Prop := match m with
  | .ok a => P a
  | .err c fs => We c fs
  | .bad => False
section
variable {α β : Type} {We : WE}
theorem Res.bind {m : Out α} {k : α → Out β} {P : β → Prop} (h : Res We (m >>= k) P) : Res We m (fun a => Res We (k a) P) := by
  cases m with
  | ok a => exact h
  | err c fs => exact h
  | bad => exact h
theorem Res.mono {m : Out α} {P Q : α → Prop} (h : Res We m P) (f : ∀ a, P a → Q a) : Res We m Q := by
  cases m with
  | ok a => exact f a h
  | err c fs => exact h
  | bad => exact h
theorem Res.bad {P : α → Prop} (h : Res We .bad P) : False := h
end

/-! ### data and heaps -/
theorem sqt_mono {K : PySem.W.Frag} {H H' : Hp} {a : Addr} {xs : List V} (e : Same H H') (h : SqT K H a xs) : SqT K H' a xs := by
  rcases h with (h | ⟨o, h⟩) | h
  · exact .inl (.inl (e _ _ h))
  · exact .inl (.inr ⟨o, e _ _ h⟩)
  · exact .inr h
mutual
theorem dp_mono {K : PySem.W.Frag} {H H' : Hp} (e : Same H H') : ∀ {v : V} {d : PD}, Dp K H v d → Dp K H' v d
  | _, _, .non => .non
  | _, _, .bl b => .bl b
  | _, _, .int i => .int i
  | _, _, .str x => .str x
  | _, _, .lst h t => .lst (e.seq h) (dpa_mono e t)
  | _, _, .tup h t => .tup (sqt_mono e h) (dpa_mono e t)
theorem dpa_mono {K : PySem.W.Frag} {H H' : Hp} (e : Same H H') : ∀ {vs : List V} {ds : List PD}, DpAll K H vs ds → DpAll K H' vs ds
  | _, _, .nil => .nil
  | _, _, .cons h t => .cons (dp_mono e h) (dpa_mono e t)
end
section
variable {K : PySem.W.Frag} {G : Hp}
theorem dpa_len : ∀ {vs : List V} {ds : List PD}, DpAll K G vs ds → vs.length = ds.length
  | _, _, .nil => rfl
  | _, _, .cons _ t => by rw [List.length_cons, List.length_cons, dpa_len t]
theorem dpa_get : ∀ {vs : List V} {ds : List PD} {i : Nat} {d : PD}, DpAll K G vs ds → ds[i]? = some d → ∃ v, vs[i]? = some v ∧ Dp K G v d
  | _, _, _, _, .nil, e => by simp at e
  | _, _, 0, _, .cons h _, e => by simp at e; subst e; exact ⟨_, rfl, h⟩
  | _, _, i + 1, _, .cons _ t, e => by
    obtain ⟨v, h1, h2⟩ := dpa_get (i := i) t (by simpa using e)
    exact ⟨v, by simpa using h1, h2⟩
theorem dpa_get' : ∀ {vs : List V} {ds : List PD} {i : Nat} {v : V}, DpAll K G vs ds → vs[i]? = some v → ∃ d, ds[i]? = some d ∧ Dp K G v d
  | _, _, _, _, .nil, e => by simp at e
  | _, _, 0, _, .cons h _, e => by simp at e; subst e; exact ⟨_, rfl, h⟩
  | _, _, i + 1, _, .cons _ t, e => by
    obtain ⟨v, h1, h2⟩ := dpa_get' (i := i) t (by simpa using e)
    exact ⟨v, by simpa using h1, h2⟩
theorem dpa_append : ∀ {vs ws : List V} {ds es : List PD}, DpAll K G vs ds → DpAll K G ws es → DpAll K G (vs ++ ws) (ds ++ es)
  | _, _, _, _, .nil, s => s
  | _, _, _, _, .cons h t, s => .cons h (dpa_append t s)
theorem dpa_take : ∀ {vs : List V} {ds : List PD} (n : Nat), DpAll K G vs ds → DpAll K G (vs.take n) (ds.take n)
  | _, _, 0, _ => .nil
  | _, _, _ + 1, .nil => .nil
  | _, _, n + 1, .cons h t => .cons h (dpa_take n t)
theorem dpa_drop : ∀ {vs : List V} {ds : List PD} (n : Nat), DpAll K G vs ds → DpAll K G (vs.drop n) (ds.drop n)
  | _, _, 0, h => h
  | _, _, _ + 1, .nil => .nil
  | _, _, n + 1, .cons _ t => dpa_drop n t
theorem dpa_set : ∀ {vs : List V} {ds : List PD} {v : V} {d : PD} (n : Nat), DpAll K G vs ds → Dp K G v d → DpAll K G (vs.set n v) (ds.set n d)
  | _, _, _, _, _, .nil, _ => .nil
  | _, _, _, _, 0, .cons _ t, h => .cons h t
  | _, _, _, _, n + 1, .cons q t, h => .cons q (dpa_set n t h)
theorem dpa_dropLast {vs : List V} {ds : List PD} (h : DpAll K G vs ds) : DpAll K G vs.dropLast ds.dropLast := by
  rw [List.dropLast_eq_take, List.dropLast_eq_take, dpa_len h]
  exact dpa_take _ h
theorem dpa_reverse : ∀ {vs : List V} {ds : List PD}, DpAll K G vs ds → DpAll K G vs.reverse ds.reverse
  | _, _, .nil => .nil
  | _, _, .cons h t => by
    rw [List.reverse_cons, List.reverse_cons]
    exact dpa_append (dpa_reverse t) (.cons h .nil)
theorem dpa_strs : ∀ {vs : List V} {xs : List Str}, DpAll K G vs (xs.map PyData.str) → vs = xs.map V.str
  | _, [], .nil => rfl
  | _, x :: xs, .cons h t => by
    cases h
    rw [List.map_cons, dpa_strs t]
theorem dpa_ints : ∀ {vs : List V} {xs : List Int}, DpAll K G vs (xs.map PyData.int) → vs = xs.map V.int
  | _, [], .nil => rfl
  | _, x :: xs, .cons h t => by
    cases h
    rw [List.map_cons, dpa_ints t]
theorem dpa_of_ints : ∀ (xs : List Int), DpAll K G (xs.map V.int) (xs.map PyData.int)
  | [] => .nil
  | _ :: xs => .cons (.int _) (dpa_of_ints xs)
theorem dpa_of_strs : ∀ (xs : List Str), DpAll K G (xs.map V.str) (xs.map PyData.str)
  | [] => .nil
  | _ :: xs => .cons (.str _) (dpa_of_strs xs)
end

/-! ### cells, slots, configurations -/
/-- a cell's contents: a list, a dict -/
inductive CO where
  | l (xs : List PD) | k (kvs : List (Key × PD))
/-- a slot's contents: data, a cell's address, a value as it is -/
inductive AV where
  | d (x : PD) | c (a : Addr) | r (v : V)
abbrev Rho := List (Option AV)
def AvOk (K : PySem.W.Frag) (G : Hp) (v : V) : AV → Prop
  | .d x => Dp K G v x
  | .c a => v = .ref a
  | .r u => v = u
def KvAll (K : PySem.W.Frag) (G : Hp) (ws : List (Key × V)) (kvs : List (Key × PD)) : Prop := Paired (fun (p : Key × V) (q : Key × PD) => p.1 = q.1 ∧ Dp K G p.2 q.2) ws kvs
def CellOk (K : PySem.W.Frag) (G H : Hp) (a : Addr) : CO → Prop
  | .l ds => ∃ vs, H a = some (.lst vs) ∧ DpAll K G vs ds
  | .k kvs => ∃ ws, H a = some (.dK ws) ∧ KvAll K G ws kvs
inductive CellsOk (K : PySem.W.Frag) (G H : Hp) : List Addr → List CO → Prop where
  | nil : CellsOk K G H [] []
  | cons {a : Addr} {c : CO} {ms : List Addr} {cs : List CO} : G a = none → CellOk K G H a c → a ∉ ms → CellsOk K G H ms cs → CellsOk K G H (a :: ms) (c :: cs)
inductive EnvOk (K : PySem.W.Frag) (G : Hp) : Rho → L2.St → Prop where
  | nil : EnvOk K G [] []
  | non {o : Option V} {ρ : Rho} {σ : L2.St} : EnvOk K G ρ σ → EnvOk K G (none :: ρ) (o :: σ)
  | som {av : AV} {v : V} {ρ : Rho} {σ : L2.St} : AvOk K G v av → EnvOk K G ρ σ → EnvOk K G (some av :: ρ) (some v :: σ)
section
variable {K : PySem.W.Frag} {G G' H H' : Hp} {a : Addr} {c : CO} {ms : List Addr} {cs : List CO} {ρ : Rho} {σ : L2.St}
theorem av_mono {v : V} {av : AV} (e : Same G G') (h : AvOk K G v av) : AvOk K G' v av := by
  cases av with
  | d x => exact dp_mono e h
  | c a => exact h
  | r u => exact h
theorem kv_mono {ws : List (Key × V)} {kvs : List (Key × PD)} (e : Same G G') (h : KvAll K G ws kvs) : KvAll K G' ws kvs := Paired.mapP h fun _ _ q => ⟨q.1, dp_mono e q.2⟩
theorem env_mono (e : Same G G') (h : EnvOk K G ρ σ) : EnvOk K G' ρ σ := by
  induction h with
  | nil => exact .nil
  | non _ ih => exact .non ih
  | som q _ ih => exact .som (av_mono e q) ih
theorem env_get (h : EnvOk K G ρ σ) : ∀ {i : Nat} {av : AV}, ρ[i]? = some (some av) → ∃ v, σ[i]? = some (some v) ∧ AvOk K G v av := by
  induction h with
  | nil => intro i av e; simp at e
  | non _ ih =>
    intro i av e
    cases i with
    | zero => simp at e
    | succ i => simpa using ih (by simpa using e)
  | som q _ ih =>
    intro i av e
    cases i with
    | zero => simp at e; subst e; exact ⟨_, rfl, q⟩
    | succ i => simpa using ih (by simpa using e)
theorem env_set (h : EnvOk K G ρ σ) {v : V} {av : AV} (q : AvOk K G v av) : ∀ (i : Nat), EnvOk K G (ρ.set i (some av)) (σ.set i (some v)) := by
  induction h with
  | nil => intro i; exact .nil
  | non h ih =>
    intro i
    cases i with
    | zero => exact .som q h
    | succ i => exact .non (ih i)
  | som p h ih =>
    intro i
    cases i with
    | zero => exact .som q h
    | succ i => exact .som p (ih i)
theorem env_none (h : EnvOk K G ρ σ) {o : Option V} : ∀ (i : Nat), EnvOk K G (ρ.set i none) (σ.set i o) := by
  induction h with
  | nil => intro i; exact .nil
  | non h ih =>
    intro i
    cases i with
    | zero => exact .non h
    | succ i => exact .non (ih i)
  | som p h ih =>
    intro i
    cases i with
    | zero => exact .non h
    | succ i => exact .som p (ih i)
def wipeR (ρ : Rho) : List Nat → Rho
  | [] => ρ
  | v :: vs => (wipeR ρ vs).set v none
theorem env_wipe (h : EnvOk K G ρ σ) : ∀ vs : List Nat, EnvOk K G (wipeR ρ vs) (wipe σ vs)
  | [] => h
  | v :: vs => by
    have q := env_wipe h vs
    show EnvOk K G ((wipeR ρ vs).set v none) ((wipe σ vs).set v none)
    exact env_none q v
/-- fewer slots told -/
inductive RLe : Rho → Rho → Prop where
  | nil : RLe [] []
  | keep {a : Option AV} {r s : Rho} : RLe r s → RLe (a :: r) (a :: s)
  | drop {a : Option AV} {r s : Rho} : RLe r s → RLe (none :: r) (a :: s)
theorem RLe.refl : ∀ r : Rho, RLe r r
  | [] => .nil
  | _ :: r => .keep (RLe.refl r)
theorem env_le {r s : Rho} (e : RLe r s) : ∀ {σ : L2.St}, EnvOk K G s σ → EnvOk K G r σ := by
  induction e with
  | nil => intro σ h; exact h
  | keep _ ih =>
    intro σ h
    cases h with
    | non h => exact .non (ih h)
    | som q h => exact .som q (ih h)
  | drop _ ih =>
    intro σ h
    cases h with
    | non h => exact .non (ih h)
    | som q h => exact .non (ih h)
theorem cells_len (h : CellsOk K G H ms cs) : ms.length = cs.length := by
  induction h with
  | nil => rfl
  | cons _ _ _ _ ih => rw [List.length_cons, List.length_cons, ih]
theorem cells_get (h : CellsOk K G H ms cs) : ∀ {j : Nat} {a : Addr} {c : CO}, ms[j]? = some a → cs[j]? = some c → G a = none ∧ CellOk K G H a c := by
  induction h with
  | nil => intro j a c e; simp at e
  | cons g q n _ ih =>
    intro j a c e1 e2
    cases j with
    | zero => simp at e1 e2; subst e1 e2; exact ⟨g, q⟩
    | succ j => exact ih (by simpa using e1) (by simpa using e2)
theorem cells_mem (h : CellsOk K G H ms cs) : ∀ {a : Addr}, a ∈ ms → G a = none ∧ ∃ o, H a = some o := by
  induction h with
  | nil => intro a e; simp at e
  | cons g q n _ ih =>
    intro a e
    rcases List.mem_cons.mp e with e | e
    · subst e
      refine ⟨g, ?_⟩
      rename_i c ms cs _
      cases c with
      | l ds => obtain ⟨vs, h1, _⟩ := q; exact ⟨_, h1⟩
      | k kvs => obtain ⟨vs, h1, _⟩ := q; exact ⟨_, h1⟩
    · exact ih e
theorem cell_to (h : CellOk K G H a c) (e : Same G G') (x : ∀ o, H a = some o → H' a = some o) : CellOk K G' H' a c := by
  cases c with
  | l ds => obtain ⟨vs, h1, h2⟩ := h; exact ⟨vs, x _ h1, dpa_mono e h2⟩
  | k kvs => obtain ⟨vs, h1, h2⟩ := h; exact ⟨vs, x _ h1, kv_mono e h2⟩
/-- the cells stay -/
theorem cells_to (h : CellsOk K G H ms cs) (e : Same G G') (f : ∀ a ∈ ms, G' a = none) (x : ∀ a ∈ ms, ∀ o, H a = some o → H' a = some o) : CellsOk K G' H' ms cs := by
  induction h with
  | nil => exact .nil
  | cons g q n t ih => exact .cons (f _ List.mem_cons_self) (cell_to q e (x _ List.mem_cons_self)) n (ih (fun a m => f a (List.mem_cons_of_mem _ m)) fun a m => x a (List.mem_cons_of_mem _ m))
end

/-- from (G, H) to (G', H'): what is known stays, all but ms stays, what was there and not known is not known -/
structure Grow (ms : List Addr) (G H G' H' : Hp) : Prop where
  gg : Same G G'
  hh : ∀ b o, b ∉ ms → H b = some o → H' b = some o
  th : ∀ b o, H b = some o → ∃ o', H' b = some o'
  nw : ∀ b o, H b = some o → G b = none → G' b = none
theorem Grow.refl {ms : List Addr} {G H : Hp} : Grow ms G H G H := ⟨Same.refl _, fun _ _ _ h => h, fun _ o h => ⟨o, h⟩, fun _ _ _ h => h⟩
theorem Grow.trans {ms : List Addr} {G H G1 H1 G2 H2 : Hp} (a : Grow ms G H G1 H1) (b : Grow ms G1 H1 G2 H2) : Grow ms G H G2 H2 :=
  ⟨a.gg.trans b.gg, fun c o n h => b.hh c o n (a.hh c o n h), fun c o h => by obtain ⟨o', h'⟩ := a.th c o h; exact b.th c o' h', fun c o h n => by
    obtain ⟨o', h'⟩ := a.th c o h
    exact b.nw c o' h' (a.nw c o h n)⟩
theorem Grow.sub {ms ns : List Addr} {G H G1 H1 : Hp} (a : Grow ms G H G1 H1) (s : ∀ b ∈ ms, b ∈ ns) : Grow ns G H G1 H1 := ⟨a.gg, fun c o n h => a.hh c o (fun z => n (s c z)) h, a.th, a.nw⟩
/-- an exception of the class named c with the fields fs -/
def XR (K : PySem.W.Frag) (mg : Str → Option Value) (c : Str) (fs : List (Str × PD)) (cls : Value) (d : Option Addr) (G H : Hp) : Prop :=
  ∃ C : Addr, mg c = some (.ref C) ∧ cls = .ref C ∧ ((fs = [] ∧ d = none) ∨ ∃ (dd : Addr) (ws : List (Str × V)), d = some dd ∧ H dd = some (.xd ws) ∧ Paired (fun (p : Str × V) (q : Str × PD) => p.1 = q.1 ∧ Dp K G p.2 q.2) ws fs)
/-- what a body stands in: the entry, its cells, what is wanted of errors -/
structure Gam (K : PySem.W.Frag) (mg : Str → Option Value) where
  G : Hp
  H : Hp
  ms : List Addr
  We : WE
  W : XK
  ok : ∀ c fs cls d G' H', We c fs → Grow ms G H G' H' → Same G' H' → XR K mg c fs cls d G' H' → W cls d H'
structure Cfg {K : PySem.W.Frag} {mg : Str → Option Value} (Γ : Gam K mg) (G : Hp) (ρ : Rho) (ms : List Addr) (cs : List CO) (σ : L2.St) (H : Hp) : Prop where
  ex : Same G H
  cells : CellsOk K G H ms cs
  env : EnvOk K G ρ σ
  grow : Grow Γ.ms Γ.G Γ.H G H
  loc : ∀ a ∈ ms, a ∈ Γ.ms ∨ Γ.H a = none
section
variable {K : PySem.W.Frag} {mg : Str → Option Value} {Γ : Gam K mg} {G G' H H' : Hp} {ρ : Rho} {ms : List Addr} {cs cs' : List CO} {σ : L2.St}
theorem same_new {H : Hp} {p : Addr} {o : HO} (h : H p = none) : Same H (upd H p o) := fun b x e => by
  rw [upd_ne (ne_of_none e h)]
  exact e
/-- a step that keeps the cells -/
theorem Cfg.keep (c : Cfg Γ G ρ ms cs σ H) (gg : Same G G') (hh : Same H H') (ex : Same G' H') (nw : ∀ b o, H b = some o → G b = none → G' b = none) : Cfg Γ G' ρ ms cs σ H' where
  ex := ex
  cells := cells_to c.cells gg (fun a m => by
    obtain ⟨g, o, h⟩ := cells_mem c.cells m
    exact nw a o h g) fun a _ o h => hh a o h
  env := env_mono gg c.env
  grow := c.grow.trans ⟨gg, fun b o _ h => hh b o h, fun b o h => ⟨o, hh b o h⟩, nw⟩
  loc := c.loc
/-- a new thing that is known -/
theorem Cfg.new (c : Cfg Γ G ρ ms cs σ H) {p : Addr} {o : HO} (hp : H p = none) : Same G (upd G p o) ∧ Cfg Γ (upd G p o) ρ ms cs σ (upd H p o) := by
  have gp : G p = none := by
    cases e : G p with
    | none => rfl
    | some x => rw [c.ex p x e] at hp; cases hp
  refine ⟨same_new gp, c.keep (same_new gp) (same_new hp) (fun b x e => ?_) fun b x h n => ?_⟩
  · by_cases hb : b = p
    · subst hb
      rw [upd_same] at e ⊢
      exact e
    · rw [upd_ne hb] at e ⊢
      exact c.ex b x e
  · rw [upd_ne (ne_of_none h hp)]
    exact n
end

/-! ### judgements -/
/-- of a value: the heap ahead, what is known and the heap behind -/
abbrev VR (β : Type) := Hp → Hp → Hp → V → β → Prop
/-- the value is the data -/
def RD (K : PySem.W.Frag) : VR PD := fun _ G _ v d => Dp K G v d
/-- a list or tuple that can be read now -/
def RS (K : PySem.W.Frag) : VR PD := fun _ G H v d => Dp K G v d ∨ ∃ a vs ds, v = .ref a ∧ d = .list ds ∧ H a = some (.lst vs) ∧ DpAll K G vs ds
/-- a new list -/
def RL (K : PySem.W.Frag) : VR (List PD) := fun H0 G H v ds => ∃ p vs, v = .ref p ∧ H0 p = none ∧ G p = none ∧ H p = some (.lst vs) ∧ DpAll K G vs ds
/-- what was known stays -/
abbrev Kept (H H' : Hp) : Prop := Same H H'
/-- what was there is there -/
def There (H H' : Hp) : Prop := ∀ a o, H a = some o → ∃ o', H' a = some o'
theorem Kept.there {H H' : Hp} (k : Kept H H') : There H H' := fun a o h => ⟨o, k a o h⟩
theorem There.trans {H H1 H2 : Hp} (a : There H H1) (b : There H1 H2) : There H H2 := fun c o h => by
  obtain ⟨o', h'⟩ := a c o h
  exact b c o' h'
theorem There.free {H H1 : Hp} (a : There H H1) {p : Addr} (h : H1 p = none) : H p = none := by
  cases e : H p with
  | none => rfl
  | some o =>
    obtain ⟨o', h'⟩ := a p o e
    rw [h] at h'
    cases h'
section
variable (K : PySem.W.Frag) (mg : Str → Option Value) (W : XK)
def SemP {β : Type} (te : TE) (R : VR β) (ρ : Rho) (ms : List Addr) (cs : List CO) (m : Out β) : Prop :=
  ∀ (Γ : Gam K mg) (G : Hp) (σ : L2.St) (H : Hp) (Q : VK), Γ.W = W → Cfg Γ G ρ ms cs σ H → Res Γ.We m (fun b => ∀ v G' H', Same G G' → Cfg Γ G' ρ ms cs σ H' → Kept H H' → R H G' H' v b → Q v H') → te σ H Q
def SemX {β : Type} (te : TE) (R : VR β) (ρ : Rho) (ms : List Addr) (cs : List CO) (m : Out (β × List CO)) : Prop :=
  ∀ (Γ : Gam K mg) (G : Hp) (σ : L2.St) (H : Hp) (Q : VK), Γ.W = W → Cfg Γ G ρ ms cs σ H → Res Γ.We m (fun b => ∀ v G' H', Same G G' → Cfg Γ G' ρ ms b.2 σ H' → There H H' → R H G' H' v b.1 → Q v H') → te σ H Q
def SemT (tt : TT) (ρ : Rho) (ms : List Addr) (cs : List CO) (m : Out Bool) : Prop :=
  ∀ (Γ : Gam K mg) (G : Hp) (σ : L2.St) (H : Hp) (Q : Bool → Hp → Prop), Γ.W = W → Cfg Γ G ρ ms cs σ H → Res Γ.We m (fun b => ∀ G' H', Same G G' → Cfg Γ G' ρ ms cs σ H' → Kept H H' → Q b H') → tt σ H Q
def SemTX (tt : TT) (ρ : Rho) (ms : List Addr) (cs : List CO) (m : Out (Bool × List CO)) : Prop :=
  ∀ (Γ : Gam K mg) (G : Hp) (σ : L2.St) (H : Hp) (Q : Bool → Hp → Prop), Γ.W = W → Cfg Γ G ρ ms cs σ H → Res Γ.We m (fun b => ∀ G' H', Same G G' → Cfg Γ G' ρ ms b.2 σ H' → There H H' → Q b.1 H') → tt σ H Q
/-- an argument list of data -/
def SemA (n : Nat) (ta : TA) (ρ : Rho) (ms : List Addr) (cs : List CO) (m : Out (List PD)) : Prop :=
  ∀ (Γ : Gam K mg) (G : Hp) (σ : L2.St) (H : Hp) (Q : List V → Hp → Prop), Γ.W = W → Cfg Γ G ρ ms cs σ H → Res Γ.We m (fun b => ∀ vs G' H', Same G G' → Cfg Γ G' ρ ms cs σ H' → Kept H H' → DpAll K G' vs b → b.length = n → Q vs H') → ta σ H Q
def SemAX (n : Nat) (ta : TA) (ρ : Rho) (ms : List Addr) (cs : List CO) (m : Out (List PD × List CO)) : Prop :=
  ∀ (Γ : Gam K mg) (G : Hp) (σ : L2.St) (H : Hp) (Q : List V → Hp → Prop), Γ.W = W → Cfg Γ G ρ ms cs σ H → Res Γ.We m (fun b => ∀ vs G' H', Same G G' → Cfg Γ G' ρ ms b.2 σ H' → There H H' → DpAll K G' vs b.1 → b.1.length = n → Q vs H') → ta σ H Q
end
def EP {β : Type} (X : Cx) (W : XK) (R : VR β) (e : Expr) (ρ : Rho) (ms : List Addr) (cs : List CO) (m : Out β) : Prop := ∃ te, PE X e te ∧ SemP X.K X.mg W te R ρ ms cs m
def EX {β : Type} (X : Cx) (W : XK) (R : VR β) (e : Expr) (ρ : Rho) (ms : List Addr) (cs : List CO) (m : Out (β × List CO)) : Prop := ∃ te, PE X e te ∧ SemX X.K X.mg W te R ρ ms cs m
def TP (X : Cx) (W : XK) (e : Expr) (ρ : Rho) (ms : List Addr) (cs : List CO) (m : Out Bool) : Prop := ∃ tt, PT X e tt ∧ SemT X.K X.mg W tt ρ ms cs m
def TX (X : Cx) (W : XK) (e : Expr) (ρ : Rho) (ms : List Addr) (cs : List CO) (m : Out (Bool × List CO)) : Prop := ∃ tt, PT X e tt ∧ SemTX X.K X.mg W tt ρ ms cs m
def AP (X : Cx) (W : XK) (es : List Expr) (ρ : Rho) (ms : List Addr) (cs : List CO) (m : Out (List PD)) : Prop := ∃ ta, PA X es ta ∧ SemA X.K X.mg W es.length ta ρ ms cs m
def AX (X : Cx) (W : XK) (es : List Expr) (ρ : Rho) (ms : List Addr) (cs : List CO) (m : Out (List PD × List CO)) : Prop := ∃ ta, PA X es ta ∧ SemAX X.K X.mg W es.length ta ρ ms cs m
section
variable {β : Type} {X : Cx} {W : XK} {R : VR β} {e : Expr} {ρ : Rho} {ms : List Addr} {cs : List CO}
theorem EP.x {m : Out β} (h : EP X W R e ρ ms cs m) : EX X W R e ρ ms cs (m >>= fun b => .ok (b, cs)) := by
  obtain ⟨te, h1, h2⟩ := h
  refine ⟨te, h1, fun Γ G σ H Q hw c hr => h2 Γ G σ H Q hw c (hr.bind.mono fun b k v G' H' g c' kp r => ?_)⟩
  exact k v G' H' g c' kp.there r
theorem TP.x {m : Out Bool} (h : TP X W e ρ ms cs m) : TX X W e ρ ms cs (m >>= fun b => .ok (b, cs)) := by
  obtain ⟨te, h1, h2⟩ := h
  refine ⟨te, h1, fun Γ G σ H Q hw c hr => h2 Γ G σ H Q hw c (hr.bind.mono fun b k G' H' g c' kp => ?_)⟩
  exact k G' H' g c' kp.there
theorem AP.x {es : List Expr} {m : Out (List PD)} (h : AP X W es ρ ms cs m) : AX X W es ρ ms cs (m >>= fun b => .ok (b, cs)) := by
  obtain ⟨te, h1, h2⟩ := h
  refine ⟨te, h1, fun Γ G σ H Q hw c hr => h2 Γ G σ H Q hw c (hr.bind.mono fun b k v G' H' g c' kp r n => ?_)⟩
  exact k v G' H' g c' kp.there r n
/-- the value is told otherwise -/
theorem EP.to {γ : Type} {S : VR γ} {m : Out β} (f : β → γ) (h : EP X W R e ρ ms cs m) (k : ∀ H G H' v b, Same G H' → R H G H' v b → S H G H' v (f b)) : EP X W S e ρ ms cs (m >>= fun b => .ok (f b)) := by
  obtain ⟨te, h1, h2⟩ := h
  refine ⟨te, h1, fun Γ G σ H Q hw c hr => h2 Γ G σ H Q hw c (hr.bind.mono fun b q v G' H' g c' kp r => ?_)⟩
  exact q v G' H' g c' kp (k _ _ _ _ _ c'.ex r)
theorem EP.s {m : Out PD} (h : EP X W (RD X.K) e ρ ms cs m) : EP X W (RS X.K) e ρ ms cs m := by
  obtain ⟨te, h1, h2⟩ := h
  exact ⟨te, h1, fun Γ G σ H Q hw c hr => h2 Γ G σ H Q hw c (hr.mono fun b q v G' H' g c' kp r => q v G' H' g c' kp (.inl r))⟩
theorem EX.s {m : Out (PD × List CO)} (h : EX X W (RD X.K) e ρ ms cs m) : EX X W (RS X.K) e ρ ms cs m := by
  obtain ⟨te, h1, h2⟩ := h
  exact ⟨te, h1, fun Γ G σ H Q hw c hr => h2 Γ G σ H Q hw c (hr.mono fun b q v G' H' g c' kp r => q v G' H' g c' kp (.inl r))⟩
/-- a new list as data -/
theorem upd_known {K : PySem.W.Frag} {mg : Str → Option Value} {Γ : Gam K mg} {G H : Hp} {σ : L2.St} (c : Cfg Γ G ρ ms cs σ H) {p : Addr} {o : HO} (gp : G p = none) (hp : H p = some o) (np : p ∉ ms) (nn : Γ.H p = none) : Same G (upd G p o) ∧ Cfg Γ (upd G p o) ρ ms cs σ H := by
  refine ⟨same_new gp, fun b x e => ?_, cells_to c.cells (same_new gp) (fun a m => ?_) (fun _ _ _ h => h), env_mono (same_new gp) c.env, ⟨c.grow.gg.trans (same_new gp), c.grow.hh, c.grow.th, fun b x h n => ?_⟩, c.loc⟩
  · by_cases hb : b = p
    · subst hb
      rw [upd_same] at e
      rw [hp]
      exact e
    · rw [upd_ne hb] at e
      exact c.ex b x e
  · rw [upd_ne (fun z => np (by rw [← z]; exact m))]
    exact (cells_mem c.cells m).1
  · rw [upd_ne (ne_of_none h nn)]
    exact c.grow.nw b x h n
theorem fresh_ok {K : PySem.W.Frag} {mg : Str → Option Value} {Γ : Gam K mg} {G H : Hp} {σ : L2.St} (c : Cfg Γ G ρ ms cs σ H) {p : Addr} (hp : H p = none) : p ∉ ms ∧ Γ.H p = none := by
  refine ⟨fun m => ?_, There.free (fun a o h => c.grow.th a o h) hp⟩
  obtain ⟨_, o, h⟩ := cells_mem c.cells m
  rw [hp] at h
  cases h
theorem EX.l {m : Out (List PD × List CO)} (h : EX X W (RL X.K) e ρ ms cs m) : EX X W (RD X.K) e ρ ms cs (m >>= fun p => .ok (.list p.1, p.2)) := by
  obtain ⟨te, h1, h2⟩ := h
  refine ⟨te, h1, fun Γ G σ H Q hw c hr => h2 Γ G σ H Q hw c (hr.bind.mono fun b q v G' H' g c' kp r => ?_)⟩
  obtain ⟨p, vs, rfl, h0, gp, hp, hd⟩ := r
  obtain ⟨n1, n2⟩ := fresh_ok c h0
  obtain ⟨s1, c2⟩ := upd_known c' gp hp n1 n2
  exact q _ _ _ (g.trans s1) c2 kp (.lst (.inl (.inl upd_same)) (dpa_mono s1 hd))
theorem EP.l {m : Out (List PD)} (h : EP X W (RL X.K) e ρ ms cs m) : EP X W (RD X.K) e ρ ms cs (m >>= fun p => .ok (.list p)) := by
  obtain ⟨te, h1, h2⟩ := h
  refine ⟨te, h1, fun Γ G σ H Q hw c hr => h2 Γ G σ H Q hw c (hr.bind.mono fun b q v G' H' g c' kp r => ?_)⟩
  obtain ⟨p, vs, rfl, h0, gp, hp, hd⟩ := r
  obtain ⟨n1, n2⟩ := fresh_ok c h0
  obtain ⟨s1, c2⟩ := upd_known c' gp hp n1 n2
  exact q _ _ _ (g.trans s1) c2 kp (.lst (.inl (.inl upd_same)) (dpa_mono s1 hd))
end
end Dd
set_option Elab.async false
set_option linter.all false
set_option maxRecDepth 100000
set_option maxHeartbeats 2000000
namespace Dd
open PySem PySem.Spec PyProof.Rows L2

/-! ### operations on data -/
def addD : PD → PD → Out PD
  | .int a, .int b => .ok (.int (a + b))
  | .str a, .str b => if a.length + b.length ≤ sizeLine then .ok (.str (a ++ b)) else .bad
  | .tuple a, .tuple b => if a.length + b.length ≤ sizeLine then .ok (.tuple (a ++ b)) else .bad
  | .list a, .list b => if a.length + b.length ≤ sizeLine then .ok (.list (a ++ b)) else .bad
  | _, _ => .bad
def catL : PD → PD → Out (List PD)
  | .list a, .list b => if a.length + b.length ≤ sizeLine then .ok (a ++ b) else .bad
  | _, _ => .bad
def subD : PD → PD → Out PD
  | .int a, .int b => .ok (.int (a - b))
  | _, _ => .bad
instance {i j : Int} : Decidable (CMul i j) := by unfold CMul; exact inferInstance
instance {i j : Int} : Decidable (CDivN i j) := by unfold CDivN; exact inferInstance
instance {i j : Int} : Decidable (CPow i j) := by unfold CPow; exact inferInstance
def mulD : PD → PD → Out PD
  | .int a, .int b => if CMul a b then .ok (.int (a * b)) else .bad
  | _, _ => .bad
def fdivD : PD → PD → Out PD
  | .int a, .int b => if CDivN a b then .ok (.int (a.fdiv b)) else .bad
  | _, _ => .bad
def modD : PD → PD → Out PD
  | .int a, .int b => if b ≠ 0 then .ok (.int (a.fmod b)) else .bad
  | _, _ => .bad
def powD : PD → PD → Out PD
  | .int a, .int b => if CPow a b then .ok (.int (a ^ b.toNat)) else .bad
  | _, _ => .bad
def negD : PD → Out PD
  | .int a => .ok (.int (-a))
  | _ => .bad
def ltD : PD → PD → Out Bool
  | .int a, .int b => .ok (decide (a < b))
  | .str a, .str b => .ok (decide (a.cps.toList < b.cps.toList))
  | _, _ => .bad
def leD : PD → PD → Out Bool
  | .int a, .int b => .ok (decide (a ≤ b))
  | .str a, .str b => .ok (!decide (b.cps.toList < a.cps.toList))
  | _, _ => .bad
def gtD (a b : PD) : Out Bool := ltD b a
def geD (a b : PD) : Out Bool := leD b a
def eqD (a b : PD) : Out Bool := if SeqAt.shaped a && SeqAt.shaped b then .ok (PyData.eqv a b) else .bad
def neD (a b : PD) : Out Bool := if SeqAt.shaped a && SeqAt.shaped b then .ok (!PyData.eqv a b) else .bad
def isND : PD → Bool
  | .none => true
  | _ => false
def isBD (b : Bool) : PD → Bool
  | .bool c => c == b
  | _ => false
def idxD : PD → PD → Out PD
  | .tuple xs, .int i => match atI xs i with | some d => .ok d | none => .bad
  | .list xs, .int i => match atI xs i with | some d => .ok d | none => .bad
  | .str z, .int i => if z.length ≤ sizeLine then (match atI z.cps.toList i with | some c => .ok (.str ⟨#[c]⟩) | none => .bad) else .bad
  | _, _ => .bad
def cutL {α : Type} (xs : List α) (lo hi : Option Int) : List α := (xs.drop (HT.sIx xs.length 0 lo)).take (HT.sIx xs.length xs.length hi - HT.sIx xs.length 0 lo)
def cutD (x : PD) (lo hi : Option Int) : Out PD := match x with
  | .str z => if z.length ≤ sizeLine then .ok (.str (cutS z lo hi)) else .bad
  | .tuple xs => .ok (.tuple (cutL xs lo hi))
  | .list xs => .ok (.list (cutL xs lo hi))
  | _ => .bad
def cutLL (x : PD) (lo hi : Option Int) : Out (List PD) := match x with
  | .list xs => .ok (cutL xs lo hi)
  | _ => .bad
def lenD : PD → Out PD
  | .str z => if z.length ≤ sizeLine then .ok (.int z.length) else .bad
  | .tuple xs => .ok (.int xs.length)
  | .list xs => .ok (.int xs.length)
  | _ => .bad
def truthD : PD → Out Bool
  | .none => .ok false
  | .bool b => .ok b
  | .int i => .ok (i != 0)
  | .str z => if z.length ≤ sizeLine then .ok ((z.length : Int) != 0) else .bad
  | .tuple xs => .ok (!xs.isEmpty)
  | .list xs => .ok (!xs.isEmpty)
  | _ => .bad
def intD : PD → Out PD
  | .int i => .ok (.int i)
  | .bool b => .ok (.int (if b then 1 else 0))
  | _ => .bad
def boolD : PD → Out Bool
  | .bool b => .ok b
  | _ => .bad
def partD : PD → Out (Option Int)
  | .int i => .ok (some i)
  | _ => .bad
def itemsD : PD → Out (List PD)
  | .tuple xs => .ok xs
  | .list xs => .ok xs
  | .str z => .ok (z.cps.toList.map fun c => .str ⟨#[c]⟩)
  | _ => .bad
def seqD : PD → Out (List PD)
  | .tuple xs => .ok xs
  | .list xs => .ok xs
  | _ => .bad
def rangeD : PD → PD → Out (List PD)
  | .int a, .int b => if -(2 ^ 62) ≤ a ∧ a < 2 ^ 62 ∧ -(2 ^ 62) ≤ b ∧ b < 2 ^ 62 then .ok ((List.range (b - a).toNat).map fun i => .int (a + (i : Nat))) else .bad
  | _, _ => .bad
def strsD : List PD → Option (List Str)
  | [] => some []
  | .str z :: r => (strsD r).map (z :: ·)
  | _ :: _ => none
theorem strsD_eq : ∀ {ds : List PD} {zs : List Str}, strsD ds = some zs → ds = zs.map PyData.str
  | [], zs, h => by cases h; rfl
  | .str z :: r, zs, h => by
    unfold strsD at h
    cases e : strsD r with
    | none => rw [e] at h; cases h
    | some ys =>
      rw [e] at h
      cases h
      rw [List.map_cons, strsD_eq e]
  | .none :: _, _, h => by cases h
  | .bool _ :: _, _, h => by cases h
  | .int _ :: _, _, h => by cases h
  | .list _ :: _, _, h => by cases h
  | .tuple _ :: _, _, h => by cases h
  | .dict _ :: _, _, h => by cases h
theorem strsD_map : ∀ (zs : List Str), strsD (zs.map PyData.str) = some zs
  | [] => rfl
  | z :: r => by rw [List.map_cons, strsD, strsD_map r]; rfl
def joinD : PD → PD → Out PD
  | .str a, .list ds => match strsD ds with
    | some zs => if (zs.map (·.length)).sum + zs.length * a.length ≤ 16777216 then .ok (.str (Txt.join a zs)) else .bad
    | none => .bad
  | .str a, .tuple ds => match strsD ds with
    | some zs => if (zs.map (·.length)).sum + zs.length * a.length ≤ 16777216 then .ok (.str (Txt.join a zs)) else .bad
    | none => .bad
  | _, _ => .bad
def startsD : PD → PD → Out PD
  | .str a, .str b => .ok (.bool (Txt.startswith a b))
  | _, _ => .bad
/-- flat data -/
def flatD : PD → Bool
  | .none => true | .bool _ => true | .int _ => true | .str _ => true | _ => false
def inD (x s : PD) : Out Bool := match s with
  | .str z => match x with
    | .str y => .ok (!(Builtin.Str.occurrences z y 0 z.length 1).isEmpty)
    | _ => .bad
  | .list ys => if flatD x && ys.all flatD then .ok (ys.any fun y => PyData.eqv y x) else .bad
  | .tuple ys => if flatD x && ys.all flatD then .ok (ys.any fun y => PyData.eqv y x) else .bad
  | _ => .bad
def notInD (x s : PD) : Out Bool := inD x s >>= fun b => .ok (!b)

/-! ### what they rest on -/
section
variable {K : PySem.W.Frag} {mg : Str → Option Value} {Γ : Gam K mg} {G H : Hp} {ρ : Rho} {ms : List Addr} {cs : List CO} {σ : L2.St}
/-- readable at H -/
def Rdb (K : PySem.W.Frag) (H : Hp) (v : V) (d : PD) : Prop := Dp K H v d
theorem rs_dp (ex : Same G H) {H0 : Hp} {v : V} {d : PD} (h : RS K H0 G H v d) : Dp K H v d := by
  rcases h with h | ⟨a, vs, ds, rfl, rfl, h1, h2⟩
  · exact dp_mono ex h
  · exact .lst (.inl (.inl h1)) (dpa_mono ex h2)
theorem rs_stab {H0 G1 H1 G2 H2 : Hp} {v : V} {d : PD} (h : RS K H0 G1 H1 v d) (g : Same G1 G2) (k : Kept H1 H2) : RS K H0 G2 H2 v d := by
  rcases h with h | ⟨a, vs, ds, e1, e2, h1, h2⟩
  · exact .inl (dp_mono g h)
  · exact .inr ⟨a, vs, ds, e1, e2, k _ _ h1, dpa_mono g h2⟩
theorem rs_back {H0 H1 G H : Hp} {v : V} {d : PD} (h : RS K H1 G H v d) : RS K H0 G H v d := h
/-- its items are known -/
theorem rs_list {H0 : Hp} {v : V} {ds : List PD} (h : RS K H0 G H v (.list ds)) (ex : Same G H) : ∃ a vs, v = .ref a ∧ SqL K H a vs ∧ DpAll K G vs ds := by
  rcases h with h | ⟨a, vs, ds, rfl, e2, h1, h2⟩
  · cases h with
    | lst q t => exact ⟨_, _, rfl, ex.seq q, t⟩
  · cases e2
    exact ⟨a, vs, rfl, .inl (.inl h1), h2⟩
theorem rs_tup {H0 : Hp} {v : V} {ds : List PD} (h : RS K H0 G H v (.tuple ds)) (ex : Same G H) : ∃ a vs, v = .ref a ∧ SqT K H a vs ∧ DpAll K G vs ds ∧ Dp K G v (.tuple ds) := by
  rcases h with h | ⟨a, vs, ds, rfl, e2, h1, h2⟩
  · cases h with
    | tup q t => exact ⟨_, _, rfl, sqt_mono ex q, t, .tup q t⟩
  · cases e2
theorem rs_int {H0 : Hp} {v : V} {i : Int} (h : RS K H0 G H v (.int i)) : v = .int i := by
  rcases h with h | ⟨a, vs, ds, rfl, e2, h1, h2⟩
  · cases h; rfl
  · cases e2
theorem rs_str {H0 : Hp} {v : V} {i : Str} (h : RS K H0 G H v (.str i)) : v = .str i := by
  rcases h with h | ⟨a, vs, ds, rfl, e2, h1, h2⟩
  · cases h; rfl
  · cases e2
theorem rs_bool {H0 : Hp} {v : V} {i : Bool} (h : RS K H0 G H v (.bool i)) : v = .bl i := by
  rcases h with h | ⟨a, vs, ds, rfl, e2, h1, h2⟩
  · cases h; rfl
  · cases e2
theorem rs_none {H0 : Hp} {v : V} (h : RS K H0 G H v .none) : v = .non := by
  rcases h with h | ⟨a, vs, ds, rfl, e2, h1, h2⟩
  · cases h; rfl
  · cases e2
end

/-! ### a two-place operation -/
/-- r does f -/
def OpS {γ : Type} (X : Cx) (r : R2) (R : VR γ) (f : PD → PD → Out γ) : Prop :=
  ∀ (Γ : Gam X.K X.mg) (G : Hp) (ρ : Rho) (ms : List Addr) (cs : List CO) (σ : L2.St) (H H0 : Hp) (x y : V) (dx dy : PD) (Q : VK), Cfg Γ G ρ ms cs σ H → There H0 H → RS X.K H0 G H x dx → RS X.K H0 G H y dy →
    Res Γ.We (f dx dy) (fun c => ∀ v G' H', Same G G' → Cfg Γ G' ρ ms cs σ H' → Kept H H' → R H0 G' H' v c → Q v H') → r x y H Q
section
variable {X : Cx} {W : XK} {a b c : Expr} {ρ : Rho} {ms : List Addr} {cs : List CO} {pos : Pos}
theorem sem_op {γ : Type} {r : R2} {R : VR γ} {f : PD → PD → Out γ} {ta tb : TE} {ma mb : Out PD} (hf : OpS X r R f) (ha : SemP X.K X.mg W ta (RS X.K) ρ ms cs ma) (hb : SemP X.K X.mg W tb (RS X.K) ρ ms cs mb) :
    SemP X.K X.mg W (tOp r ta tb) R ρ ms cs (ma >>= fun x => mb >>= fun y => f x y) := fun Γ G σ H Q hw c hr =>
  ha Γ G σ H _ hw c (hr.bind.mono fun x k v G1 H1 g1 c1 k1 r1 => hb Γ G1 σ H1 _ hw c1 (k.bind.mono fun y k2 u G2 H2 g2 c2 k2' r2 =>
    hf Γ G2 ρ ms cs σ H2 H v u x y Q c2 (Kept.there (k1.trans k2')) (rs_stab r1 g2 k2') r2 (k2.mono fun z q w G3 H3 g3 c3 k3 r3 => q w G3 H3 (g1.trans (g2.trans g3)) c3 (k1.trans (k2'.trans k3)) r3)))
theorem sem_opX {γ : Type} {r : R2} {R : VR γ} {f : PD → PD → Out γ} {ta tb : TE} {ma : Out (PD × List CO)} {mb : List CO → Out (PD × List CO)} (hf : OpS X r R f) (ha : SemX X.K X.mg W ta (RD X.K) ρ ms cs ma) (hb : ∀ cs1, SemX X.K X.mg W tb (RS X.K) ρ ms cs1 (mb cs1)) :
    SemX X.K X.mg W (tOp r ta tb) R ρ ms cs (ma >>= fun x => mb x.2 >>= fun y => f x.1 y.1 >>= fun z => .ok (z, y.2)) := fun Γ G σ H Q hw c hr =>
  ha Γ G σ H _ hw c (hr.bind.mono fun x k v G1 H1 g1 c1 k1 r1 => hb x.2 Γ G1 σ H1 _ hw c1 (k.bind.mono fun y k2 u G2 H2 g2 c2 k2' r2 =>
    hf Γ G2 ρ ms y.2 σ H2 H v u x.1 y.1 Q c2 (k1.trans k2') (.inl (dp_mono g2 r1)) r2 (k2.bind.mono fun z q w G3 H3 g3 c3 k3 r3 => q w G3 H3 (g1.trans (g2.trans g3)) c3 (k1.trans (k2'.trans k3.there)) r3)))
theorem ep_op {γ : Type} {op : Operator} {r : R2} {R : VR γ} {f : PD → PD → Out γ} {ma mb : Out PD} (ho : OpR X (binaryOp op) r ∧ OpS X r R f) (ha : EP X W (RS X.K) a ρ ms cs ma) (hb : EP X W (RS X.K) b ρ ms cs mb) :
    EP X W R (.BinOp a op b pos) ρ ms cs (ma >>= fun x => mb >>= fun y => f x y) := by
  obtain ⟨ta, a1, a2⟩ := ha
  obtain ⟨tb, b1, b2⟩ := hb
  exact ⟨_, pe_op ho.1 a1 b1, sem_op ho.2 a2 b2⟩
theorem pick_te {ι : Type} {P : ι → TE → Prop} {Ps : ι → TE → Prop} (h : ∀ i, ∃ te, P i te ∧ Ps i te) : ∃ t : ι → TE, (∀ i, P i (t i)) ∧ ∀ i, Ps i (t i) := ⟨fun i => (h i).choose, fun i => (h i).choose_spec.1, fun i => (h i).choose_spec.2⟩
theorem pe_all {e : Expr} {ι : Type} {t : ι → TE} (i0 : ι) (h : ∀ i, PE X e (t i)) : PE X e (fun σ H Q => ∃ i, t i σ H Q) := ⟨fun pins s σ H Q I hw => by
  obtain ⟨i, hw⟩ := hw
  exact (h i).run pins s σ H Q I hw⟩
/-- an expression told for each contents of the cells -/
theorem ex_all {β : Type} {R : VR β} {e : Expr} {m : List CO → Out (β × List CO)} (h : ∀ cs, EX X W R e ρ ms cs (m cs)) : ∃ te, PE X e te ∧ ∀ cs, SemX X.K X.mg W te R ρ ms cs (m cs) := by
  obtain ⟨t, h1, h2⟩ := pick_te h
  exact ⟨_, pe_all [] h1, fun cs Γ G σ H Q hw c hr => ⟨cs, h2 cs Γ G σ H Q hw c hr⟩⟩
theorem ex_op {γ : Type} {op : Operator} {r : R2} {R : VR γ} {f : PD → PD → Out γ} {ma : Out (PD × List CO)} {mb : List CO → Out (PD × List CO)} (ho : OpR X (binaryOp op) r ∧ OpS X r R f) (ha : EX X W (RD X.K) a ρ ms cs ma) (hb : ∀ cs1, EX X W (RS X.K) b ρ ms cs1 (mb cs1)) :
    EX X W R (.BinOp a op b pos) ρ ms cs (ma >>= fun x => mb x.2 >>= fun y => f x.1 y.1 >>= fun z => .ok (z, y.2)) := by
  obtain ⟨ta, a1, a2⟩ := ha
  obtain ⟨tb, b1, b2⟩ := ex_all hb
  exact ⟨_, pe_op ho.1 a1 b1, sem_opX ho.2 a2 b2⟩
end
section
variable {X : Cx}
theorem ops_or {γ : Type} {r r' : R2} {R : VR γ} {f f' : PD → PD → Out γ} (g : PD → PD → Out γ) (h : OpS X r R f) (h' : OpS X r' R f') (hg : ∀ x y, g x y = f x y ∨ g x y = f' x y) : OpS X (fun x y H Q => r x y H Q ∨ r' x y H Q) R g := by
  intro Γ G ρ ms cs σ H H0 x y dx dy Q c t rx ry hr
  rcases hg dx dy with e | e
  · rw [e] at hr; exact .inl (h Γ G ρ ms cs σ H H0 x y dx dy Q c t rx ry hr)
  · rw [e] at hr; exact .inr (h' Γ G ρ ms cs σ H H0 x y dx dy Q c t rx ry hr)
/-- ints to an int -/
theorem ops_int {C : Int → Int → Prop} {g : Int → Int → Int} {f : PD → PD → Out PD} (h1 : ∀ x y, f x y ≠ .bad → ∃ i j, x = .int i ∧ y = .int j ∧ C i j ∧ f x y = .ok (.int (g i j))) : OpS X (rI C fun i j => .int (g i j)) (RD X.K) f := by
  intro Γ G ρ ms cs σ H H0 x y dx dy Q c t rx ry hr
  by_cases hb : f dx dy = .bad
  · rw [hb] at hr; exact hr.elim
  obtain ⟨i, j, rfl, rfl, hc, e⟩ := h1 dx dy hb
  rw [e] at hr
  cases rs_int rx
  cases rs_int ry
  exact ⟨i, j, rfl, rfl, hc, hr _ G H (Same.refl _) c (Same.refl _) (.int _)⟩
theorem ops_int0 {g : Int → Int → Int} {f : PD → PD → Out PD} (h1 : ∀ x y, f x y ≠ .bad → ∃ i j, x = .int i ∧ y = .int j ∧ f x y = .ok (.int (g i j))) : OpS X (rI0 fun i j => .int (g i j)) (RD X.K) f := by
  intro Γ G ρ ms cs σ H H0 x y dx dy Q c t rx ry hr
  by_cases hb : f dx dy = .bad
  · rw [hb] at hr; exact hr.elim
  obtain ⟨i, j, rfl, rfl, e⟩ := h1 dx dy hb
  rw [e] at hr
  cases rs_int rx
  cases rs_int ry
  exact ⟨i, j, rfl, rfl, hr _ G H (Same.refl _) c (Same.refl _) (.int _)⟩
theorem o_sub : OpR X (binaryOp .Sub) (rI0 fun i j => .int (i - j)) ∧ OpS X (rI0 fun i j => .int (i - j)) (RD X.K) subD :=
  ⟨op_sub, ops_int0 fun x y h => by cases x <;> cases y <;> first | exact ⟨_, _, rfl, rfl, rfl⟩ | exact (h rfl).elim⟩
theorem o_mul : OpR X (binaryOp .Mult) (rI CMul fun i j => .int (i * j)) ∧ OpS X (rI CMul fun i j => .int (i * j)) (RD X.K) mulD :=
  ⟨op_mul, ops_int fun x y h => by
    cases x <;> cases y <;> first
      | exact (h rfl).elim
      | (rename_i i j
         by_cases hc : CMul i j
         · exact ⟨_, _, rfl, rfl, hc, if_pos hc⟩
         · exact (h (if_neg hc)).elim)⟩
theorem o_fdiv : OpR X (binaryOp .FloorDiv) (rI CDivN fun i j => .int (i.fdiv j)) ∧ OpS X (rI CDivN fun i j => .int (i.fdiv j)) (RD X.K) fdivD :=
  ⟨op_fdivN, ops_int fun x y h => by
    cases x <;> cases y <;> first
      | exact (h rfl).elim
      | (rename_i i j
         by_cases hc : CDivN i j
         · exact ⟨_, _, rfl, rfl, hc, if_pos hc⟩
         · exact (h (if_neg hc)).elim)⟩
theorem o_mod : OpR X (binaryOp .Mod) (rI (fun _ j => j ≠ 0) fun i j => .int (i.fmod j)) ∧ OpS X (rI (fun _ j => j ≠ 0) fun i j => .int (i.fmod j)) (RD X.K) modD :=
  ⟨op_modN, ops_int fun x y h => by
    cases x <;> cases y <;> first
      | exact (h rfl).elim
      | (rename_i i j
         by_cases hc : j ≠ 0
         · exact ⟨_, _, rfl, rfl, hc, if_pos hc⟩
         · exact (h (if_neg hc)).elim)⟩
theorem o_pow : OpR X (binaryOp .Pow) (rI CPow fun i j => .int (i ^ j.toNat)) ∧ OpS X (rI CPow fun i j => .int (i ^ j.toNat)) (RD X.K) powD :=
  ⟨op_pow, ops_int fun x y h => by
    cases x <;> cases y <;> first
      | exact (h rfl).elim
      | (rename_i i j
         by_cases hc : CPow i j
         · exact ⟨_, _, rfl, rfl, hc, if_pos hc⟩
         · exact (h (if_neg hc)).elim)⟩
/-- list + list, any two lists that can be read -/
def rCatS (K : PySem.W.Frag) : R2 := fun x y H Q => ∃ l b xs zs, x = .ref l ∧ y = .ref b ∧ SqL K H l xs ∧ SqL K H b zs ∧ xs.length + zs.length ≤ sizeLine ∧ ∀ p, H p = none → Q (.ref p) (upd H p (.lst (xs ++ zs)))
theorem op_catS : OpR X (binaryOp .Add) (rCatS X.K) := by
  intro pins s σ H x y v u Q I rx ry h
  obtain ⟨l, b, xs, zs, rfl, rfl, hH, hB, hz, q⟩ := h
  cases rx
  cases ry
  obtain ⟨its, r, hl, _⟩ := I.list hH
  obtain ⟨its2, r2, hl2, _⟩ := I.list hB
  have n1 := r.length
  have n2 := r2.length
  obtain ⟨⟨cls, dd, data, sl⟩, ho, hc, n, hd⟩ := id hl.isList
  obtain ⟨⟨cls2, dd2, data2, sl2⟩, ho2, hc2, n2', hd2⟩ := id hl2.isList
  simp only at hc hd hc2 hd2
  subst hc hd hc2 hd2
  refine concat_meets ⟨_, ho, rfl⟩ ⟨_, ho2, rfl⟩ noFill_list_add seq_list_add PySem.F.slot_list_add PySem.F.entry_list_add (PySem.F.args_list_add_2 _ _) (list_addW l b its.toArray its2.toArray n n2' dd dd2 sl sl2 (by simp only [List.size_toArray]; omega)) ⟨ho, ho2, ?_⟩
  have ea : its.toArray ++ its2.toArray = (its ++ its2).toArray := by simp
  rw [ea]
  exact ⟨.ref _, _, I.lnew (t' := s.toks) (r.append r2) (by rw [List.length_append]; omega), rfl, q _ I.fresh⟩
theorem ops_catL : OpS X (rCatS X.K) (RL X.K) catL := by
  intro Γ G ρ ms cs σ H H0 x y dx dy Q c t rx ry hr
  cases dx <;> cases dy <;> first
    | exact hr.elim
    | skip
  rename_i xs ys
  obtain ⟨a, vs, rfl, h1, d1⟩ := rs_list rx c.ex
  obtain ⟨b, ws, rfl, h2, d2⟩ := rs_list ry c.ex
  by_cases hz : xs.length + ys.length ≤ sizeLine
  · have e : catL (.list xs) (.list ys) = .ok (xs ++ ys) := if_pos hz
    rw [e] at hr
    refine ⟨a, b, vs, ws, rfl, rfl, h1, h2, by rw [dpa_len d1, dpa_len d2]; exact hz, fun p hp => ?_⟩
    obtain ⟨n1, n2⟩ := fresh_ok c hp
    have gp : G p = none := There.free (Kept.there c.ex) hp
    refine hr _ G _ (Same.refl _) (c.keep (Same.refl _) (same_new hp) (c.ex.trans (same_new hp)) fun _ _ _ n => n) (same_new hp) ⟨p, _, rfl, t.free hp, gp, upd_same, dpa_append d1 d2⟩
  · have e : catL (.list xs) (.list ys) = .bad := if_neg hz
    rw [e] at hr
    exact hr.elim
theorem o_catL : OpR X (binaryOp .Add) (rCatS X.K) ∧ OpS X (rCatS X.K) (RL X.K) catL := ⟨op_catS, ops_catL⟩
theorem ops_addS : OpS X (fun x y H Q => ∃ i j, x = .str i ∧ y = .str j ∧ i.length + j.length ≤ sizeLine ∧ Q (.str (i ++ j)) H) (RD X.K) (fun x y => match x, y with | .str a, .str b => addD (.str a) (.str b) | _, _ => .bad) := by
  intro Γ G ρ ms cs σ H H0 x y dx dy Q c t rx ry hr
  cases dx <;> cases dy <;> first
    | exact hr.elim
    | skip
  rename_i xs ys
  dsimp only at hr
  cases rs_str rx
  cases rs_str ry
  by_cases hz : xs.length + ys.length ≤ sizeLine
  · have e : addD (.str xs) (.str ys) = .ok (.str (xs ++ ys)) := if_pos hz
    rw [e] at hr
    exact ⟨_, _, rfl, rfl, hz, hr _ G H (Same.refl _) c (Same.refl _) (.str _)⟩
  · have e : addD (.str xs) (.str ys) = .bad := if_neg hz
    rw [e] at hr
    exact hr.elim
theorem ops_addT : OpS X (rCatA X.K) (RD X.K) (fun x y => match x, y with | .tuple a, .tuple b => addD (.tuple a) (.tuple b) | _, _ => .bad) := by
  intro Γ G ρ ms cs σ H H0 x y dx dy Q c t rx ry hr
  cases dx <;> cases dy <;> first
    | exact hr.elim
    | skip
  rename_i xs ys
  dsimp only at hr
  obtain ⟨a, vs, rfl, h1, d1, e1⟩ := rs_tup rx c.ex
  obtain ⟨b, ws, rfl, h2, d2, e2⟩ := rs_tup ry c.ex
  by_cases hz : xs.length + ys.length ≤ sizeLine
  · have e : addD (.tuple xs) (.tuple ys) = .ok (.tuple (xs ++ ys)) := if_pos hz
    rw [e] at hr
    refine ⟨a, b, vs, ws, rfl, rfl, h1, h2, by rw [dpa_len d1, dpa_len d2]; exact hz, fun z => ?_, fun z z2 => ?_, fun z z2 p hp => ?_⟩
    · subst z
      cases d1
      exact hr _ G H (Same.refl _) c (Same.refl _) e2
    · subst z2
      cases d2
      have q := hr _ G H (Same.refl _) c (Same.refl _) (by rw [List.append_nil]; exact e1)
      exact q
    · obtain ⟨s1, c1⟩ := c.new (o := .tup (vs ++ ws)) hp
      exact hr _ _ _ s1 c1 (same_new hp) (.tup (.inl (.inl upd_same)) (dpa_mono s1 (dpa_append d1 d2)))
  · have e : addD (.tuple xs) (.tuple ys) = .bad := if_neg hz
    rw [e] at hr
    exact hr.elim
theorem ops_catD : OpS X (rCatS X.K) (RD X.K) (fun x y => match x, y with | .list a, .list b => addD (.list a) (.list b) | _, _ => .bad) := by
  intro Γ G ρ ms cs σ H H0 x y dx dy Q c t rx ry hr
  cases dx <;> cases dy <;> first
    | exact hr.elim
    | skip
  rename_i xs ys
  dsimp only at hr
  refine ops_catL Γ G ρ ms cs σ H H _ _ _ _ Q c (Kept.there (Same.refl _)) (rs_back rx) (rs_back ry) ?_
  by_cases hz : xs.length + ys.length ≤ sizeLine
  · have e : addD (.list xs) (.list ys) = .ok (.list (xs ++ ys)) := if_pos hz
    have e' : catL (.list xs) (.list ys) = .ok (xs ++ ys) := if_pos hz
    rw [e']
    rw [e] at hr
    intro v G' H' g c' k r
    obtain ⟨p, vs, rfl, h0, gp, hp, hd⟩ := r
    obtain ⟨n1, n2⟩ := fresh_ok c h0
    obtain ⟨s1, c2⟩ := upd_known c' gp hp n1 n2
    exact hr _ _ _ (g.trans s1) c2 k (.lst (.inl (.inl upd_same)) (dpa_mono s1 hd))
  · have e : addD (.list xs) (.list ys) = .bad := if_neg hz
    rw [e] at hr
    exact hr.elim
theorem ops_addI : OpS X (rI0 fun i j => .int (i + j)) (RD X.K) (fun x y => match x, y with | .int a, .int b => addD (.int a) (.int b) | _, _ => .bad) :=
  ops_int0 fun x y h => by cases x <;> cases y <;> first | exact ⟨_, _, rfl, rfl, rfl⟩ | exact (h rfl).elim
theorem o_add : OpR X (binaryOp .Add) (fun x y H Q => (rI0 (fun i j => .int (i + j)) x y H Q ∨ ∃ i j, x = .str i ∧ y = .str j ∧ i.length + j.length ≤ sizeLine ∧ Q (.str (i ++ j)) H) ∨ (rCatA X.K x y H Q ∨ rCatS X.K x y H Q)) ∧
    OpS X (fun x y H Q => (rI0 (fun i j => .int (i + j)) x y H Q ∨ ∃ i j, x = .str i ∧ y = .str j ∧ i.length + j.length ≤ sizeLine ∧ Q (.str (i ++ j)) H) ∨ (rCatA X.K x y H Q ∨ rCatS X.K x y H Q)) (RD X.K) addD :=
  ⟨(op_add.or op_add_str).or (op_catA.or op_catS),
    ops_or _ (ops_or (fun x y => match x, y with | .int a, .int b => addD (.int a) (.int b) | .str a, .str b => addD (.str a) (.str b) | _, _ => .bad) ops_addI ops_addS fun x y => by cases x <;> cases y <;> first | exact .inl rfl | exact .inr rfl)
      (ops_or (fun x y => match x, y with | .tuple a, .tuple b => addD (.tuple a) (.tuple b) | .list a, .list b => addD (.list a) (.list b) | _, _ => .bad) ops_addT ops_catD fun x y => by cases x <;> cases y <;> first | exact .inl rfl | exact .inr rfl)
      fun x y => by cases x <;> cases y <;> first | exact .inl rfl | exact .inr rfl⟩
end
end Dd
set_option Elab.async false
set_option linter.all false
set_option maxRecDepth 100000
set_option maxHeartbeats 2000000
namespace Dd
open PySem PySem.Spec PyProof.Rows L2
section
variable {X : Cx} {W : XK} {a b c e : Expr} {ρ : Rho} {ms : List Addr} {cs : List CO} {pos : Pos}

/-! ### names, constants -/
theorem ed_var (i : Nat) {x : Str} {d : PD} (h : ρ[i]? = some (some (.d d)) := by rfl) (hN : X.N[i]? = some x := by rfl) (hv : Vis X.env.scope x := by first | exact Or.inl rfl | exact Or.inr (Or.inl rfl) | exact Or.inr (Or.inr rfl))
    (hd : (x == ("__debug__" : Str)) = false := by decide) (hcd : (x == ("__classdict__" : Str)) = false := by decide) : EP X W (RD X.K) (.Name x pos) ρ ms cs (.ok d) :=
  ⟨_, pe_var hN hv hd hcd, fun Γ G σ H Q hw c hr => by
    obtain ⟨v, h1, h2⟩ := env_get c.env h
    exact ⟨v, h1, hr v G H (Same.refl _) c (Same.refl _) h2⟩⟩
/-- a cell's list, read -/
theorem es_cell (i j : Nat) {x : Str} {a : Addr} {ds : List PD} (h : ρ[i]? = some (some (.c a)) := by rfl) (h1 : ms[j]? = some a := by rfl) (h2 : cs[j]? = some (.l ds) := by rfl) (hN : X.N[i]? = some x := by rfl)
    (hv : Vis X.env.scope x := by first | exact Or.inl rfl | exact Or.inr (Or.inl rfl) | exact Or.inr (Or.inr rfl)) (hd : (x == ("__debug__" : Str)) = false := by decide) (hcd : (x == ("__classdict__" : Str)) = false := by decide) :
    EP X W (RS X.K) (.Name x pos) ρ ms cs (.ok (.list ds)) :=
  ⟨_, pe_var hN hv hd hcd, fun Γ G σ H Q hw c hr => by
    obtain ⟨v, h3, h4⟩ := env_get c.env h
    obtain ⟨g, vs, h5, h6⟩ := cells_get c.cells h1 h2
    refine ⟨v, h3, hr v G H (Same.refl _) c (Same.refl _) (.inr ⟨a, vs, ds, h4, rfl, h5, h6⟩)⟩⟩
theorem ed_int {i : Int} {k : Nat} : EP X W (RD X.K) (.Constant (.int i) k pos) ρ ms cs (.ok (.int i)) := ⟨_, pe_int, fun Γ G σ H Q hw c hr => hr _ G H (Same.refl _) c (Same.refl _) (.int _)⟩
theorem ed_str {i : Str} {k : Nat} : EP X W (RD X.K) (.Constant (.str i) k pos) ρ ms cs (.ok (.str i)) := ⟨_, pe_str, fun Γ G σ H Q hw c hr => hr _ G H (Same.refl _) c (Same.refl _) (.str _)⟩
theorem ed_bool {i : Bool} {k : Nat} : EP X W (RD X.K) (.Constant (.bool i) k pos) ρ ms cs (.ok (.bool i)) := ⟨_, pe_bl, fun Γ G σ H Q hw c hr => hr _ G H (Same.refl _) c (Same.refl _) (.bl _)⟩
theorem ed_none {k : Nat} : EP X W (RD X.K) (.Constant .none k pos) ρ ms cs (.ok .none) := ⟨_, pe_non, fun Γ G σ H Q hw c hr => hr _ G H (Same.refl _) c (Same.refl _) .non⟩
/-- a constant of the module: a text or an int, or a tuple that stands in the written part -/
theorem ed_glob {x : Str} {v : V} {u : Value} {d : PD} (hm : X.mg x = some u) (r : RelV v u) (hd : Dp X.K (fun _ => none) v d) (hg : Gl X x := by rfl) (hdb : (x == ("__debug__" : Str)) = false := by decide) : EP X W (RD X.K) (.Name x pos) ρ ms cs (.ok d) :=
  ⟨_, pe_glob hg hm r hdb, fun Γ G σ H Q hw c hr => hr _ G H (Same.refl _) c (Same.refl _) (dp_mono (fun _ _ z => by cases z) hd)⟩

/-! ### one-place operations -/
theorem ed_neg {ma : Out PD} (ha : EP X W (RS X.K) a ρ ms cs ma) : EP X W (RD X.K) (.UnaryOp .USub a pos) ρ ms cs (ma >>= fun x => negD x) := by
  obtain ⟨ta, a1, a2⟩ := ha
  refine ⟨_, pe_un un_neg a1, fun Γ G σ H Q hw c hr => a2 Γ G σ H _ hw c (hr.bind.mono fun x k v G1 H1 g1 c1 k1 r1 => ?_)⟩
  cases x <;> first
    | exact k.elim
    | skip
  cases rs_int r1
  exact ⟨_, rfl, k _ G1 H1 g1 c1 k1 (.int _)⟩

/-! ### tests -/
/-- a comparison by values, that leaves the heap -/
def OpB (X : Cx) (r : R2) (f : PD → PD → Out Bool) : Prop :=
  ∀ (Γ : Gam X.K X.mg) (G : Hp) (ρ : Rho) (ms : List Addr) (cs : List CO) (σ : L2.St) (H H0 : Hp) (x y : V) (dx dy : PD) (Q : VK), Cfg Γ G ρ ms cs σ H → RS X.K H0 G H x dx → RS X.K H0 G H y dy → Res Γ.We (f dx dy) (fun b => Q (.bl b) H) → r x y H Q
theorem OpB.s {r : R2} {f : PD → PD → Out Bool} (h : OpB X r f) : OpS X r (RD X.K) (fun x y => f x y >>= fun b => .ok (.bool b)) := fun Γ G ρ ms cs σ H H0 x y dx dy Q c t rx ry hr =>
  h Γ G ρ ms cs σ H H0 x y dx dy Q c rx ry (hr.bind.mono fun b k => k _ G H (Same.refl _) c (Same.refl _) (.bl _))
theorem opb_or {r r' : R2} {f f' : PD → PD → Out Bool} (g : PD → PD → Out Bool) (h : OpB X r f) (h' : OpB X r' f') (hg : ∀ x y, g x y = f x y ∨ g x y = f' x y) : OpB X (fun x y H Q => r x y H Q ∨ r' x y H Q) g := by
  intro Γ G ρ ms cs σ H H0 x y dx dy Q c rx ry hr
  rcases hg dx dy with e | e
  · rw [e] at hr; exact .inl (h Γ G ρ ms cs σ H H0 x y dx dy Q c rx ry hr)
  · rw [e] at hr; exact .inr (h' Γ G ρ ms cs σ H H0 x y dx dy Q c rx ry hr)
theorem tp_cmp {op : CmpOp} {r : R2} {f : PD → PD → Out Bool} {ma mb : Out PD} (ho : OpR X (compareOp op) r ∧ OpB X r f) (ha : EP X W (RS X.K) a ρ ms cs ma) (hb : EP X W (RS X.K) b ρ ms cs mb) (hm : behindInMarks op b = false := by first | exact nomark _ | rfl) :
    TP X W (.Compare a [op] [b] pos) ρ ms cs (ma >>= fun x => mb >>= fun y => f x y) := by
  obtain ⟨ta, a1, a2⟩ := ha
  obtain ⟨tb, b1, b2⟩ := hb
  refine ⟨_, pt_cmpR ho.1 a1 b1 hm, fun Γ G σ H Q hw c hr => a2 Γ G σ H _ hw c (hr.bind.mono fun x k v G1 H1 g1 c1 k1 r1 => b2 Γ G1 σ H1 _ hw c1 (k.bind.mono fun y k2 u G2 H2 g2 c2 k2' r2 => ?_))⟩
  exact ho.2 Γ G2 ρ ms cs σ H2 H v u x y _ c2 (rs_stab r1 g2 k2') r2 (k2.mono fun z q => ⟨z, rfl, q G2 H2 (g1.trans g2) c2 (k1.trans k2')⟩)
theorem tx_cmp {op : CmpOp} {r : R2} {f : PD → PD → Out Bool} {ma : Out (PD × List CO)} {mb : List CO → Out (PD × List CO)} (ho : OpR X (compareOp op) r ∧ OpB X r f) (ha : EX X W (RD X.K) a ρ ms cs ma) (hb : ∀ cs1, EX X W (RS X.K) b ρ ms cs1 (mb cs1)) (hm : behindInMarks op b = false := by first | exact nomark _ | rfl) :
    TX X W (.Compare a [op] [b] pos) ρ ms cs (ma >>= fun x => mb x.2 >>= fun y => f x.1 y.1 >>= fun z => .ok (z, y.2)) := by
  obtain ⟨ta, a1, a2⟩ := ha
  obtain ⟨tb, b1, b2⟩ := ex_all hb
  refine ⟨_, pt_cmpR ho.1 a1 b1 hm, fun Γ G σ H Q hw c hr => a2 Γ G σ H _ hw c (hr.bind.mono fun x k v G1 H1 g1 c1 k1 r1 => b2 x.2 Γ G1 σ H1 _ hw c1 (k.bind.mono fun y k2 u G2 H2 g2 c2 k2' r2 => ?_))⟩
  exact ho.2 Γ G2 ρ ms y.2 σ H2 H v u x.1 y.1 _ c2 (.inl (dp_mono g2 r1)) r2 (k2.bind.mono fun z q => ⟨z, rfl, q G2 H2 (g1.trans g2) c2 (k1.trans k2')⟩)
theorem ed_cmp {op : CmpOp} {r : R2} {f : PD → PD → Out Bool} {ma mb : Out PD} (ho : OpR X (compareOp op) r ∧ OpB X r f) (ha : EP X W (RS X.K) a ρ ms cs ma) (hb : EP X W (RS X.K) b ρ ms cs mb) (hm : behindInMarks op b = false := by first | exact nomark _ | rfl) :
    EP X W (RD X.K) (.Compare a [op] [b] pos) ρ ms cs (ma >>= fun x => mb >>= fun y => f x y >>= fun z => .ok (.bool z)) := by
  obtain ⟨ta, a1, a2⟩ := ha
  obtain ⟨tb, b1, b2⟩ := hb
  exact ⟨_, pe_cmpR ho.1 a1 b1 hm, sem_op ho.2.s a2 b2⟩
/-- a < b < c -/
theorem tp_chain {op op' : CmpOp} {r r' : R2} {f f' : PD → PD → Out Bool} {ma mb mc : Out PD} (ho : OpR X (compareOp op) r ∧ OpB X r f) (ho' : OpR X (compareOp op') r' ∧ OpB X r' f') (ha : EP X W (RS X.K) a ρ ms cs ma) (hb : EP X W (RS X.K) b ρ ms cs mb) (hc : EP X W (RS X.K) c ρ ms cs mc)
    (hm : lastMarks [op, op'] [b, c] = false := by rfl) :
    TP X W (.Compare a [op, op'] [b, c] pos) ρ ms cs (ma >>= fun x => mb >>= fun y => f x y >>= fun k => if k then mc >>= fun z => f' y z else .ok false) := by
  obtain ⟨ta, a1, a2⟩ := ha
  obtain ⟨tb, b1, b2⟩ := hb
  obtain ⟨tc, c1, c2⟩ := hc
  refine ⟨_, pt_chain ho.1 ho'.1 a1 b1 c1 hm, fun Γ G σ H Q hw c hr => a2 Γ G σ H _ hw c (hr.bind.mono fun x k v G1 H1 g1 c1 k1 r1 => b2 Γ G1 σ H1 _ hw c1 (k.bind.mono fun y k2 u G2 H2 g2 cc2 k2' r2 => ?_))⟩
  refine ho.2 Γ G2 ρ ms cs σ H2 H v u x y _ cc2 (rs_stab r1 g2 k2') r2 (k2.bind.mono fun z q => ⟨z, rfl, ?_⟩)
  cases z with
  | true =>
    refine c2 Γ G2 σ H2 _ hw cc2 (Res.mono (Res.bind q) fun w kw t G3 H3 g3 c3 k3 r3 => ?_)
    exact ho'.2 Γ G3 ρ ms cs σ H3 H u t y w _ c3 (rs_stab r2 g3 k3) r3 (kw.mono fun z q => ⟨z, rfl, q G3 H3 (g1.trans (g2.trans g3)) c3 (k1.trans (k2'.trans k3))⟩)
  | false => exact ⟨false, rfl, q G2 H2 (g1.trans g2) cc2 (k1.trans k2')⟩
section
variable {ma mb : Out Bool}
theorem tp_not (ha : TP X W a ρ ms cs ma) : TP X W (.UnaryOp .Not a pos) ρ ms cs (ma >>= fun x => .ok (!x)) := by
  obtain ⟨ta, a1, a2⟩ := ha
  exact ⟨_, pt_not a1, fun Γ G σ H Q hw c hr => a2 Γ G σ H _ hw c (hr.bind.mono fun x k => k)⟩
theorem tx_not {ma : Out (Bool × List CO)} (ha : TX X W a ρ ms cs ma) : TX X W (.UnaryOp .Not a pos) ρ ms cs (ma >>= fun x => .ok (!x.1, x.2)) := by
  obtain ⟨ta, a1, a2⟩ := ha
  exact ⟨_, pt_not a1, fun Γ G σ H Q hw c hr => a2 Γ G σ H _ hw c (hr.bind.mono fun x k => k)⟩
/-- tests joined by and, or (whatever stands around) -/
def WP (X : Cx) (W : XK) (e : Expr) (ρ : Rho) (ms : List Addr) (cs : List CO) (m : Out Bool) : Prop := ∃ tt, PW X e tt ∧ SemT X.K X.mg W tt ρ ms cs m
def WX (X : Cx) (W : XK) (e : Expr) (ρ : Rho) (ms : List Addr) (cs : List CO) (m : Out (Bool × List CO)) : Prop := ∃ tt, PW X e tt ∧ SemTX X.K X.mg W tt ρ ms cs m
theorem WP.t {m : Out Bool} (h : WP X W e ρ ms cs m) : TP X W e ρ ms cs m := by
  obtain ⟨t, h1, h2⟩ := h
  exact ⟨t, h1.pt, h2⟩
theorem WX.t {m : Out (Bool × List CO)} (h : WX X W e ρ ms cs m) : TX X W e ρ ms cs m := by
  obtain ⟨t, h1, h2⟩ := h
  exact ⟨t, h1.pt, h2⟩
theorem wp_and1 (ha : TP X W a ρ ms cs ma) : WP X W (.BoolOp .And [a] pos) ρ ms cs ma := by
  obtain ⟨t, h1, h2⟩ := ha
  exact ⟨t, pw_and1 h1, h2⟩
theorem wp_or1 (ha : TP X W a ρ ms cs ma) : WP X W (.BoolOp .Or [a] pos) ρ ms cs ma := by
  obtain ⟨t, h1, h2⟩ := ha
  exact ⟨t, pw_or1 h1, h2⟩
theorem wx_and1 {ma : Out (Bool × List CO)} (ha : TX X W a ρ ms cs ma) : WX X W (.BoolOp .And [a] pos) ρ ms cs ma := by
  obtain ⟨t, h1, h2⟩ := ha
  exact ⟨t, pw_and1 h1, h2⟩
theorem wx_or1 {ma : Out (Bool × List CO)} (ha : TX X W a ρ ms cs ma) : WX X W (.BoolOp .Or [a] pos) ρ ms cs ma := by
  obtain ⟨t, h1, h2⟩ := ha
  exact ⟨t, pw_or1 h1, h2⟩
theorem wp_and {r : List Expr} (ha : TP X W a ρ ms cs ma) (hb : WP X W (.BoolOp .And (b :: r) pos) ρ ms cs mb) : WP X W (.BoolOp .And (a :: b :: r) pos) ρ ms cs (ma >>= fun x => if x then mb else .ok false) := by
  obtain ⟨ta, a1, a2⟩ := ha
  obtain ⟨tb, b1, b2⟩ := hb
  refine ⟨_, pw_and a1 b1, fun Γ G σ H Q hw c hr => a2 Γ G σ H _ hw c (hr.bind.mono fun x k G1 H1 g1 c1 k1 => ?_)⟩
  cases x with
  | true => exact b2 Γ G1 σ H1 _ hw c1 (Res.mono k fun y q G2 H2 g2 c2 k2 => q G2 H2 (g1.trans g2) c2 (k1.trans k2))
  | false => exact k G1 H1 g1 c1 k1
theorem wp_or {r : List Expr} (ha : TP X W a ρ ms cs ma) (hb : WP X W (.BoolOp .Or (b :: r) pos) ρ ms cs mb) : WP X W (.BoolOp .Or (a :: b :: r) pos) ρ ms cs (ma >>= fun x => if x then .ok true else mb) := by
  obtain ⟨ta, a1, a2⟩ := ha
  obtain ⟨tb, b1, b2⟩ := hb
  refine ⟨_, pw_or a1 b1, fun Γ G σ H Q hw c hr => a2 Γ G σ H _ hw c (hr.bind.mono fun x k G1 H1 g1 c1 k1 => ?_)⟩
  cases x with
  | false => exact b2 Γ G1 σ H1 _ hw c1 (Res.mono k fun y q G2 H2 g2 c2 k2 => q G2 H2 (g1.trans g2) c2 (k1.trans k2))
  | true => exact k G1 H1 g1 c1 k1
theorem pw_all {ι : Type} {t : ι → TT} (h : ∀ i, PW X e (t i)) : PW X e (fun σ H Q => ∃ i, t i σ H Q) := ⟨fun whole pins s σ H Q I hw => by
  obtain ⟨i, hw⟩ := hw
  exact (h i).run whole pins s σ H Q I hw⟩
theorem pt_all {ι : Type} {t : ι → TT} (h : ∀ i, PT X e (t i)) : PT X e (fun σ H Q => ∃ i, t i σ H Q) := ⟨fun pins s σ H Q I hw => by
  obtain ⟨i, hw⟩ := hw
  exact (h i).run pins s σ H Q I hw⟩
theorem wx_all {m : List CO → Out (Bool × List CO)} (h : ∀ cs, WX X W e ρ ms cs (m cs)) : ∃ tt, PW X e tt ∧ ∀ cs, SemTX X.K X.mg W tt ρ ms cs (m cs) := by
  refine ⟨_, pw_all (t := fun cs => (h cs).choose) fun cs => (h cs).choose_spec.1, fun cs Γ G σ H Q hw c hr => ⟨cs, (h cs).choose_spec.2 Γ G σ H Q hw c hr⟩⟩
theorem tx_all {m : List CO → Out (Bool × List CO)} (h : ∀ cs, TX X W e ρ ms cs (m cs)) : ∃ tt, PT X e tt ∧ ∀ cs, SemTX X.K X.mg W tt ρ ms cs (m cs) := by
  refine ⟨_, pt_all (t := fun cs => (h cs).choose) fun cs => (h cs).choose_spec.1, fun cs Γ G σ H Q hw c hr => ⟨cs, (h cs).choose_spec.2 Γ G σ H Q hw c hr⟩⟩
theorem wx_and {r : List Expr} {ma : Out (Bool × List CO)} {mb : List CO → Out (Bool × List CO)} (ha : TX X W a ρ ms cs ma) (hb : ∀ cs1, WX X W (.BoolOp .And (b :: r) pos) ρ ms cs1 (mb cs1)) : WX X W (.BoolOp .And (a :: b :: r) pos) ρ ms cs (ma >>= fun x => if x.1 then mb x.2 else .ok (false, x.2)) := by
  obtain ⟨ta, a1, a2⟩ := ha
  obtain ⟨tb, b1, b2⟩ := wx_all hb
  refine ⟨_, pw_and a1 b1, fun Γ G σ H Q hw c hr => a2 Γ G σ H _ hw c (hr.bind.mono fun x k G1 H1 g1 c1 k1 => ?_)⟩
  obtain ⟨x, cs1⟩ := x
  cases x with
  | true => exact b2 cs1 Γ G1 σ H1 _ hw c1 (Res.mono k fun y q G2 H2 g2 c2 k2 => q G2 H2 (g1.trans g2) c2 (k1.trans k2))
  | false => exact k G1 H1 g1 c1 k1
theorem wx_or {r : List Expr} {ma : Out (Bool × List CO)} {mb : List CO → Out (Bool × List CO)} (ha : TX X W a ρ ms cs ma) (hb : ∀ cs1, WX X W (.BoolOp .Or (b :: r) pos) ρ ms cs1 (mb cs1)) : WX X W (.BoolOp .Or (a :: b :: r) pos) ρ ms cs (ma >>= fun x => if x.1 then .ok (true, x.2) else mb x.2) := by
  obtain ⟨ta, a1, a2⟩ := ha
  obtain ⟨tb, b1, b2⟩ := wx_all hb
  refine ⟨_, pw_or a1 b1, fun Γ G σ H Q hw c hr => a2 Γ G σ H _ hw c (hr.bind.mono fun x k G1 H1 g1 c1 k1 => ?_)⟩
  obtain ⟨x, cs1⟩ := x
  cases x with
  | false => exact b2 cs1 Γ G1 σ H1 _ hw c1 (Res.mono k fun y q G2 H2 g2 c2 k2 => q G2 H2 (g1.trans g2) c2 (k1.trans k2))
  | true => exact k G1 H1 g1 c1 k1
end
/-- a value's truth -/
theorem tru_of {mg : Str → Option Value} {K : PySem.W.Frag} {Γ : Gam K mg} {G H H0 : Hp} {σ : L2.St} {We : WE} (c : Cfg Γ G ρ ms cs σ H) {v : V} {d : PD} (r : RS K H0 G H v d) {P : Bool → Prop} (h : Res We (truthD d) P) (hw : Γ.We = We) : Res We (truthD d) (fun b => TruV K v H b ∧ P b) := by
  cases d with
  | none => exact ⟨by cases rs_none r; rfl, h⟩
  | bool b => exact ⟨by cases rs_bool r; rfl, h⟩
  | int i => exact ⟨by cases rs_int r; rfl, h⟩
  | str z =>
    by_cases hz : z.length ≤ sizeLine
    · have e : truthD (.str z) = .ok ((z.length : Int) != 0) := if_pos hz
      rw [e] at h ⊢
      exact ⟨by cases rs_str r; exact ⟨hz, rfl⟩, h⟩
    · have e : truthD (.str z) = .bad := if_neg hz
      rw [e] at h
      exact h.elim
  | list xs =>
    obtain ⟨a, vs, rfl, h1, h2⟩ := rs_list r c.ex
    refine ⟨.inl ⟨vs, h1, ?_⟩, h⟩
    cases h2 <;> rfl
  | tuple xs =>
    obtain ⟨a, vs, rfl, h1, h2, _⟩ := rs_tup r c.ex
    refine ⟨.inr (.inl ⟨vs, h1, ?_⟩), h⟩
    cases h2 <;> rfl
  | dict kvs => exact h.elim
theorem tp_truth {ma : Out PD} (ha : EP X W (RS X.K) a ρ ms cs ma) (he : ∀ whole, isTrue a X.env whole = (do let v ← whole; standAt a.pos; holding [v] (truthy v)) := by intro _; rfl) : TP X W a ρ ms cs (ma >>= fun x => truthD x) := by
  obtain ⟨ta, a1, a2⟩ := ha
  refine ⟨_, pt_truth a1 he, fun Γ G σ H Q hw c hr => a2 Γ G σ H _ hw c (hr.bind.mono fun x k v G1 H1 g1 c1 k1 r1 => ?_)⟩
  have q := tru_of c1 r1 k rfl
  cases e : truthD x with
  | ok b => rw [e] at q; exact ⟨b, q.1, q.2 G1 H1 g1 c1 k1⟩
  | err z fs => exfalso; revert e; cases x <;> simp [truthD] <;> (intros; split at * <;> simp_all)
  | bad => rw [e] at q; exact q.elim
theorem tx_truth {ma : Out (PD × List CO)} (ha : EX X W (RS X.K) a ρ ms cs ma) (he : ∀ whole, isTrue a X.env whole = (do let v ← whole; standAt a.pos; holding [v] (truthy v)) := by intro _; rfl) : TX X W a ρ ms cs (ma >>= fun x => truthD x.1 >>= fun b => .ok (b, x.2)) := by
  obtain ⟨ta, a1, a2⟩ := ha
  refine ⟨_, pt_truth a1 he, fun Γ G σ H Q hw c hr => a2 Γ G σ H _ hw c (hr.bind.mono fun x k v G1 H1 g1 c1 k1 r1 => ?_)⟩
  have q := tru_of c1 r1 k.bind rfl
  cases e : truthD x.1 with
  | ok b => rw [e] at q; exact ⟨b, q.1, q.2 G1 H1 g1 c1 k1⟩
  | err z fs => exfalso; revert e; cases x.1 <;> simp [truthD] <;> (intros; split at * <;> simp_all)
  | bad => rw [e] at q; exact q.elim
/-- and, or, not of tests, as values -/
theorem ed_and {r : List Expr} {ma mb : Out PD} (ha : EP X W (RD X.K) a ρ ms cs ma) (hb : EP X W (RD X.K) (.BoolOp .And (b :: r) pos) ρ ms cs mb) : EP X W (RD X.K) (.BoolOp .And (a :: b :: r) pos) ρ ms cs (ma >>= fun x => boolD x >>= fun t => if t then mb else .ok (.bool false)) := by
  obtain ⟨ta, a1, a2⟩ := ha
  obtain ⟨tb, b1, b2⟩ := hb
  refine ⟨_, pe_and a1 b1, fun Γ G σ H Q hw c hr => a2 Γ G σ H _ hw c (hr.bind.mono fun x k v G1 H1 g1 c1 k1 r1 => ?_)⟩
  cases x <;> first
    | exact k.elim
    | skip
  rename_i t
  cases r1
  refine ⟨t, rfl, ?_⟩
  cases t with
  | true => exact b2 Γ G1 σ H1 _ hw c1 (Res.mono k fun y q v2 G2 H2 g2 c2 k2 r2 => q v2 G2 H2 (g1.trans g2) c2 (k1.trans k2) r2)
  | false => exact k _ G1 H1 g1 c1 k1 (.bl _)
theorem ed_or {r : List Expr} {ma mb : Out PD} (ha : EP X W (RD X.K) a ρ ms cs ma) (hb : EP X W (RD X.K) (.BoolOp .Or (b :: r) pos) ρ ms cs mb) : EP X W (RD X.K) (.BoolOp .Or (a :: b :: r) pos) ρ ms cs (ma >>= fun x => boolD x >>= fun t => if t then .ok (.bool true) else mb) := by
  obtain ⟨ta, a1, a2⟩ := ha
  obtain ⟨tb, b1, b2⟩ := hb
  refine ⟨_, pe_or a1 b1, fun Γ G σ H Q hw c hr => a2 Γ G σ H _ hw c (hr.bind.mono fun x k v G1 H1 g1 c1 k1 r1 => ?_)⟩
  cases x <;> first
    | exact k.elim
    | skip
  rename_i t
  cases r1
  refine ⟨t, rfl, ?_⟩
  cases t with
  | false => exact b2 Γ G1 σ H1 _ hw c1 (Res.mono k fun y q v2 G2 H2 g2 c2 k2 r2 => q v2 G2 H2 (g1.trans g2) c2 (k1.trans k2) r2)
  | true => exact k _ G1 H1 g1 c1 k1 (.bl _)
theorem ed_one {op : BoolOp} {ma : Out PD} (ha : EP X W (RD X.K) a ρ ms cs ma) : EP X W (RD X.K) (.BoolOp op [a] pos) ρ ms cs ma := by
  obtain ⟨ta, a1, a2⟩ := ha
  exact ⟨_, pe_one a1, a2⟩
theorem ed_not {ma : Out PD} (ha : EP X W (RD X.K) a ρ ms cs ma) : EP X W (RD X.K) (.UnaryOp .Not a pos) ρ ms cs (ma >>= fun x => boolD x >>= fun t => .ok (.bool (!t))) := by
  obtain ⟨ta, a1, a2⟩ := ha
  refine ⟨_, pe_not a1, fun Γ G σ H Q hw c hr => a2 Γ G σ H _ hw c (hr.bind.mono fun x k v G1 H1 g1 c1 k1 r1 => ?_)⟩
  cases x <;> first
    | exact k.elim
    | skip
  cases r1
  exact ⟨_, rfl, k _ G1 H1 g1 c1 k1 (.bl _)⟩
theorem ed_ifExp {ma mb : Out PD} {mc : Out Bool} (hc : TP X W c ρ ms cs mc) (ha : EP X W (RD X.K) a ρ ms cs ma) (hb : EP X W (RD X.K) b ρ ms cs mb) : EP X W (RD X.K) (.IfExp c a b pos) ρ ms cs (mc >>= fun t => if t then ma else mb) := by
  obtain ⟨ta, a1, a2⟩ := ha
  obtain ⟨tb, b1, b2⟩ := hb
  obtain ⟨tc, c1, c2⟩ := hc
  refine ⟨_, pe_ifExp c1 a1 b1, fun Γ G σ H Q hw c hr => c2 Γ G σ H _ hw c (hr.bind.mono fun t k G1 H1 g1 cc1 k1 => ?_)⟩
  cases t with
  | true => exact a2 Γ G1 σ H1 _ hw cc1 (Res.mono k fun y q v2 G2 H2 g2 c2 k2 r2 => q v2 G2 H2 (g1.trans g2) c2 (k1.trans k2) r2)
  | false => exact b2 Γ G1 σ H1 _ hw cc1 (Res.mono k fun y q v2 G2 H2 g2 c2 k2 r2 => q v2 G2 H2 (g1.trans g2) c2 (k1.trans k2) r2)
end
/-! ### comparisons -/
section
variable {X : Cx}
theorem opb_int {g : Int → Int → Bool} {f : PD → PD → Out Bool} (h1 : ∀ x y, f x y ≠ .bad → ∃ i j, x = .int i ∧ y = .int j ∧ f x y = .ok (g i j)) : OpB X (rI0 fun i j => .bl (g i j)) f := by
  intro Γ G ρ ms cs σ H H0 x y dx dy Q c rx ry hr
  by_cases hb : f dx dy = .bad
  · rw [hb] at hr; exact hr.elim
  obtain ⟨i, j, rfl, rfl, e⟩ := h1 dx dy hb
  rw [e] at hr
  cases rs_int rx
  cases rs_int ry
  exact ⟨i, j, rfl, rfl, hr⟩
theorem opb_str {g : Str → Str → Bool} {f : PD → PD → Out Bool} (h1 : ∀ x y, f x y ≠ .bad → ∃ i j, x = .str i ∧ y = .str j ∧ f x y = .ok (g i j)) : OpB X (fun x y H Q => ∃ i j, x = .str i ∧ y = .str j ∧ Q (.bl (g i j)) H) f := by
  intro Γ G ρ ms cs σ H H0 x y dx dy Q c rx ry hr
  by_cases hb : f dx dy = .bad
  · rw [hb] at hr; exact hr.elim
  obtain ⟨i, j, rfl, rfl, e⟩ := h1 dx dy hb
  rw [e] at hr
  cases rs_str rx
  cases rs_str ry
  exact ⟨i, j, rfl, rfl, hr⟩
def onI (f : PD → PD → Out Bool) (x y : PD) : Out Bool := match x, y with | .int _, .int _ => f x y | _, _ => .bad
def onS (f : PD → PD → Out Bool) (x y : PD) : Out Bool := match x, y with | .str _, .str _ => f x y | _, _ => .bad
abbrev ISR (gi : Int → Int → Bool) (gs : Str → Str → Bool) : R2 := fun x y H Q => rI0 (fun i j => .bl (gi i j)) x y H Q ∨ ∃ i j, x = .str i ∧ y = .str j ∧ Q (.bl (gs i j)) H
theorem opb_is {gi : Int → Int → Bool} {gs : Str → Str → Bool} {f : PD → PD → Out Bool} (h1 : ∀ x y, onI f x y ≠ .bad → ∃ i j, x = .int i ∧ y = .int j ∧ onI f x y = .ok (gi i j)) (h2 : ∀ x y, onS f x y ≠ .bad → ∃ i j, x = .str i ∧ y = .str j ∧ onS f x y = .ok (gs i j))
    (h : ∀ x y, f x y = onI f x y ∨ f x y = onS f x y) : OpB X (ISR gi gs) f := opb_or f (opb_int h1) (opb_str h2) h
theorem o_lt : OpR X (compareOp .Lt) (ISR (fun i j => decide (i < j)) fun i j => decide (i.cps.toList < j.cps.toList)) ∧ OpB X (ISR (fun i j => decide (i < j)) fun i j => decide (i.cps.toList < j.cps.toList)) ltD :=
  ⟨op_lt.or op_lt_str, opb_is (fun x y h => by cases x <;> cases y <;> first | exact ⟨_, _, rfl, rfl, rfl⟩ | exact (h rfl).elim) (fun x y h => by cases x <;> cases y <;> first | exact ⟨_, _, rfl, rfl, rfl⟩ | exact (h rfl).elim) fun x y => by cases x <;> cases y <;> first | exact .inl rfl | exact .inr rfl⟩
theorem o_le : OpR X (compareOp .LtE) (ISR (fun i j => decide (i ≤ j)) fun i j => !decide (j.cps.toList < i.cps.toList)) ∧ OpB X (ISR (fun i j => decide (i ≤ j)) fun i j => !decide (j.cps.toList < i.cps.toList)) leD :=
  ⟨op_le.or op_le_str, opb_is (fun x y h => by cases x <;> cases y <;> first | exact ⟨_, _, rfl, rfl, rfl⟩ | exact (h rfl).elim) (fun x y h => by cases x <;> cases y <;> first | exact ⟨_, _, rfl, rfl, rfl⟩ | exact (h rfl).elim) fun x y => by cases x <;> cases y <;> first | exact .inl rfl | exact .inr rfl⟩
theorem o_gt : OpR X (compareOp .Gt) (ISR (fun i j => decide (j < i)) fun i j => decide (j.cps.toList < i.cps.toList)) ∧ OpB X (ISR (fun i j => decide (j < i)) fun i j => decide (j.cps.toList < i.cps.toList)) gtD :=
  ⟨op_gt.or op_gt_str, opb_is (fun x y h => by cases x <;> cases y <;> first | exact ⟨_, _, rfl, rfl, rfl⟩ | exact (h rfl).elim) (fun x y h => by cases x <;> cases y <;> first | exact ⟨_, _, rfl, rfl, rfl⟩ | exact (h rfl).elim) fun x y => by cases x <;> cases y <;> first | exact .inl rfl | exact .inr rfl⟩
theorem o_ge : OpR X (compareOp .GtE) (ISR (fun i j => decide (j ≤ i)) fun i j => !decide (i.cps.toList < j.cps.toList)) ∧ OpB X (ISR (fun i j => decide (j ≤ i)) fun i j => !decide (i.cps.toList < j.cps.toList)) geD :=
  ⟨op_ge.or op_ge_str, opb_is (fun x y h => by cases x <;> cases y <;> first | exact ⟨_, _, rfl, rfl, rfl⟩ | exact (h rfl).elim) (fun x y h => by cases x <;> cases y <;> first | exact ⟨_, _, rfl, rfl, rfl⟩ | exact (h rfl).elim) fun x y => by cases x <;> cases y <;> first | exact .inl rfl | exact .inr rfl⟩
theorem o_eq (hu : X.A.units + 64 < cLine) : OpR X (compareOp .Eq) (rEqD X.K) ∧ OpB X (rEqD X.K) eqD := by
  refine ⟨op_eqD hu, fun Γ G ρ ms cs σ H H0 x y dx dy Q c rx ry hr => ?_⟩
  by_cases h : (SeqAt.shaped dx && SeqAt.shaped dy) = true
  · have e : eqD dx dy = .ok (PyData.eqv dx dy) := if_pos h
    rw [e] at hr
    exact ⟨dx, dy, rs_dp c.ex rx, rs_dp c.ex ry, (Bool.and_eq_true_iff.mp h).1, (Bool.and_eq_true_iff.mp h).2, hr⟩
  · have e : eqD dx dy = .bad := if_neg h
    rw [e] at hr
    exact hr.elim
theorem o_ne (hu : X.A.units + 64 < cLine) : OpR X (compareOp .NotEq) (rNeD X.K) ∧ OpB X (rNeD X.K) neD := by
  refine ⟨op_neD hu, fun Γ G ρ ms cs σ H H0 x y dx dy Q c rx ry hr => ?_⟩
  by_cases h : (SeqAt.shaped dx && SeqAt.shaped dy) = true
  · have e : neD dx dy = .ok (!PyData.eqv dx dy) := if_pos h
    rw [e] at hr
    exact ⟨dx, dy, rs_dp c.ex rx, rs_dp c.ex ry, (Bool.and_eq_true_iff.mp h).1, (Bool.and_eq_true_iff.mp h).2, hr⟩
  · have e : neD dx dy = .bad := if_neg h
    rw [e] at hr
    exact hr.elim
/-- is None, is True, is False -/
theorem op_isBV : OpR X (compareOp .Is) (fun x y H Q => ∃ b, y = .bl b ∧ Q (.bl (decide (x = .bl b))) H) := by
  intro pins s σ H x y v u Q I rx ry h
  obtain ⟨b, rfl, q⟩ := h
  cases (show u = Value.bool b from ry)
  by_cases e : x = .bl b
  · subst e
    cases (show v = Value.bool b from rx)
    exact wpAny_is_self rfl ⟨.bl true, H, I, rfl, by simpa using q⟩
  · have q' : Q (.bl false) H := by simpa [e] using q
    have hp : plainIs v (.bool b) = true ∧ v ≠ .bool b := by
      cases x with
      | non => cases (show v = Value.none from rx); exact ⟨rfl, fun z => nomatch z⟩
      | bl c => cases (show v = Value.bool c from rx); exact ⟨rfl, fun z => e (by rw [Value.bool.inj z])⟩
      | int i => obtain ⟨t, rfl⟩ := rx; exact ⟨rfl, fun z => nomatch z⟩
      | str i => obtain ⟨t, rfl⟩ := rx; exact ⟨rfl, fun z => nomatch z⟩
      | byt i => obtain ⟨t, rfl⟩ := rx; exact ⟨rfl, fun z => nomatch z⟩
      | flt i => obtain ⟨t, rfl⟩ := rx; exact ⟨rfl, fun z => nomatch z⟩
      | ref i => cases (show v = Value.ref i from rx); exact ⟨rfl, fun z => nomatch z⟩
      | ty i => cases (show v = Value.type i from rx); exact ⟨rfl, fun z => nomatch z⟩
    exact wpAny_is_other hp.1 hp.2 ⟨.bl false, H, I, rfl, q'⟩
theorem op_notBV : OpR X (compareOp .IsNot) (fun x y H Q => ∃ b, y = .bl b ∧ Q (.bl (!decide (x = .bl b))) H) := by
  intro pins s σ H x y v u Q I rx ry h
  obtain ⟨b, rfl, q⟩ := h
  cases (show u = Value.bool b from ry)
  by_cases e : x = .bl b
  · subst e
    cases (show v = Value.bool b from rx)
    exact wpAny_isNot_self rfl ⟨.bl false, H, I, rfl, by simpa using q⟩
  · have q' : Q (.bl true) H := by simpa [e] using q
    have hp : plainIs v (.bool b) = true ∧ v ≠ .bool b := by
      cases x with
      | non => cases (show v = Value.none from rx); exact ⟨rfl, fun z => nomatch z⟩
      | bl c => cases (show v = Value.bool c from rx); exact ⟨rfl, fun z => e (by rw [Value.bool.inj z])⟩
      | int i => obtain ⟨t, rfl⟩ := rx; exact ⟨rfl, fun z => nomatch z⟩
      | str i => obtain ⟨t, rfl⟩ := rx; exact ⟨rfl, fun z => nomatch z⟩
      | byt i => obtain ⟨t, rfl⟩ := rx; exact ⟨rfl, fun z => nomatch z⟩
      | flt i => obtain ⟨t, rfl⟩ := rx; exact ⟨rfl, fun z => nomatch z⟩
      | ref i => cases (show v = Value.ref i from rx); exact ⟨rfl, fun z => nomatch z⟩
      | ty i => cases (show v = Value.type i from rx); exact ⟨rfl, fun z => nomatch z⟩
    exact wpAny_isNot_other hp.1 hp.2 ⟨.bl true, H, I, rfl, q'⟩
def isD : PD → PD → Out Bool
  | x, .none => .ok (isND x)
  | x, .bool b => .ok (isBD b x)
  | _, _ => .bad
def isNotD (x y : PD) : Out Bool := isD x y >>= fun b => .ok (!b)
theorem isND_of {K : PySem.W.Frag} {H0 G H : Hp} {v : V} {d : PD} (r : RS K H0 G H v d) : decide (v = .non) = isND d := by
  rcases r with h | ⟨a, vs, ds, rfl, rfl, _⟩
  · cases h <;> rfl
  · rfl
theorem isBD_of {K : PySem.W.Frag} {H0 G H : Hp} {v : V} {d : PD} (b : Bool) (r : RS K H0 G H v d) : decide (v = .bl b) = isBD b d := by
  rcases r with h | ⟨a, vs, ds, rfl, rfl, _⟩
  · cases h with
    | bl c => cases b <;> cases c <;> rfl
    | non => rfl
    | int i => rfl
    | str i => rfl
    | lst _ _ => rfl
    | tup _ _ => rfl
  · rfl
theorem o_is : OpR X (compareOp .Is) (fun x y H Q => (y = .non ∧ Q (.bl (decide (x = .non))) H) ∨ ∃ b, y = .bl b ∧ Q (.bl (decide (x = .bl b))) H) ∧ OpB X (fun x y H Q => (y = .non ∧ Q (.bl (decide (x = .non))) H) ∨ ∃ b, y = .bl b ∧ Q (.bl (decide (x = .bl b))) H) isD := by
  refine ⟨op_isN.or op_isBV, fun Γ G ρ ms cs σ H H0 x y dx dy Q c rx ry hr => ?_⟩
  cases dy <;> first
    | exact hr.elim
    | skip
  · cases rs_none ry
    refine .inl ⟨rfl, ?_⟩
    rw [isND_of rx]
    exact hr
  · rename_i b
    cases rs_bool ry
    refine .inr ⟨b, rfl, ?_⟩
    rw [isBD_of b rx]
    exact hr
theorem o_isNot : OpR X (compareOp .IsNot) (fun x y H Q => (y = .non ∧ Q (.bl (!decide (x = .non))) H) ∨ ∃ b, y = .bl b ∧ Q (.bl (!decide (x = .bl b))) H) ∧ OpB X (fun x y H Q => (y = .non ∧ Q (.bl (!decide (x = .non))) H) ∨ ∃ b, y = .bl b ∧ Q (.bl (!decide (x = .bl b))) H) isNotD := by
  refine ⟨op_notN.or op_notBV, fun Γ G ρ ms cs σ H H0 x y dx dy Q c rx ry hr => ?_⟩
  cases dy <;> first
    | exact hr.elim
    | skip
  · cases rs_none ry
    refine .inl ⟨rfl, ?_⟩
    rw [isND_of rx]
    exact hr
  · rename_i b
    cases rs_bool ry
    refine .inr ⟨b, rfl, ?_⟩
    rw [isBD_of b rx]
    exact hr
end
end Dd
set_option Elab.async false
set_option linter.all false
set_option maxRecDepth 100000
set_option maxHeartbeats 2000000
namespace Dd
open PySem PySem.Spec PyProof.Rows L2
section
variable {X : Cx} {W : XK} {a b c e : Expr} {es : List Expr} {ρ : Rho} {ms : List Addr} {cs : List CO} {pos p2 : Pos}
/-! ### argument lists, displays -/
theorem ap_nil : AP X W [] ρ ms cs (.ok []) := ⟨_, pa_nil, fun Γ G σ H Q hw c hr => hr [] G H (Same.refl _) c (Same.refl _) .nil rfl⟩
theorem ap_cons {ma : Out PD} {mr : Out (List PD)} (ha : EP X W (RD X.K) e ρ ms cs ma) (hr : AP X W es ρ ms cs mr) (hs : starEach (e :: es) X.env = (false, eval e X.env) :: starEach es X.env := by rfl) : AP X W (e :: es) ρ ms cs (ma >>= fun x => mr >>= fun xs => .ok (x :: xs)) := by
  obtain ⟨ta, a1, a2⟩ := ha
  obtain ⟨tr, b1, b2⟩ := hr
  refine ⟨_, pa_cons a1 b1 hs, fun Γ G σ H Q hw c hr => a2 Γ G σ H _ hw c (hr.bind.mono fun x k v G1 H1 g1 c1 k1 r1 => b2 Γ G1 σ H1 _ hw c1 (k.bind.mono fun xs k2 vs G2 H2 g2 c2 k2' r2 n2 => ?_))⟩
  exact k2 (v :: vs) G2 H2 (g1.trans g2) c2 (k1.trans k2') (.cons (dp_mono g2 r1) r2) (by rw [List.length_cons, List.length_cons, n2])
theorem pa_all {ι : Type} {t : ι → TA} (h : ∀ i, PA X es (t i)) : PA X es (fun σ H Q => ∃ i, t i σ H Q) := ⟨fun pos pins s σ H Q I hw => by
  obtain ⟨i, hw⟩ := hw
  exact (h i).run pos pins s σ H Q I hw⟩
theorem ax_all {m : List CO → Out (List PD × List CO)} (h : ∀ cs, AX X W es ρ ms cs (m cs)) : ∃ ta, PA X es ta ∧ ∀ cs, SemAX X.K X.mg W es.length ta ρ ms cs (m cs) := by
  refine ⟨_, pa_all (t := fun cs => (h cs).choose) fun cs => (h cs).choose_spec.1, fun cs Γ G σ H Q hw c hr => ⟨cs, (h cs).choose_spec.2 Γ G σ H Q hw c hr⟩⟩
theorem ax_cons {ma : Out (PD × List CO)} {mr : List CO → Out (List PD × List CO)} (ha : EX X W (RD X.K) e ρ ms cs ma) (hr : ∀ cs1, AX X W es ρ ms cs1 (mr cs1)) (hs : starEach (e :: es) X.env = (false, eval e X.env) :: starEach es X.env := by rfl) : AX X W (e :: es) ρ ms cs (ma >>= fun x => mr x.2 >>= fun xs => .ok (x.1 :: xs.1, xs.2)) := by
  obtain ⟨ta, a1, a2⟩ := ha
  obtain ⟨tr, b1, b2⟩ := ax_all hr
  refine ⟨_, pa_cons a1 b1 hs, fun Γ G σ H Q hw c hr => a2 Γ G σ H _ hw c (hr.bind.mono fun x k v G1 H1 g1 c1 k1 r1 => b2 x.2 Γ G1 σ H1 _ hw c1 (k.bind.mono fun xs k2 vs G2 H2 g2 c2 k2' r2 n2 => ?_))⟩
  exact k2 (v :: vs) G2 H2 (g1.trans g2) c2 (k1.trans k2') (.cons (dp_mono g2 r1) r2) (by rw [List.length_cons, List.length_cons, n2])
theorem ap_of {ma : Out (List PD × List CO)} (h : AX X W es ρ ms cs ma) : AX X W es ρ ms cs ma := h
theorem line_of {n : Nat} (h : n ≤ 1000) : n ≤ sizeLine := Nat.le_of_lt (small1000 h)
theorem ed_tup {k : Nat} {m : Out (List PD)} (h : AP X W es ρ ms cs m) (hl : es.length ≤ 1000 := by decide) : EP X W (RD X.K) (.Tuple es k pos) ρ ms cs (m >>= fun xs => .ok (.tuple xs)) := by
  obtain ⟨ta, a1, a2⟩ := h
  refine ⟨_, pe_tup a1, fun Γ G σ H Q hw c hr => a2 Γ G σ H _ hw c (hr.bind.mono fun xs k vs G1 H1 g1 c1 k1 r1 n1 => ⟨by rw [dpa_len r1, n1]; exact line_of hl, fun p hp => ?_⟩)⟩
  obtain ⟨s1, c2⟩ := c1.new (o := .tup vs) hp
  exact k _ _ _ (g1.trans s1) c2 (k1.trans (same_new hp)) (.tup (.inl (.inl upd_same)) (dpa_mono s1 r1))
theorem ex_tup {k : Nat} {m : Out (List PD × List CO)} (h : AX X W es ρ ms cs m) (hl : es.length ≤ 1000 := by decide) : EX X W (RD X.K) (.Tuple es k pos) ρ ms cs (m >>= fun xs => .ok (.tuple xs.1, xs.2)) := by
  obtain ⟨ta, a1, a2⟩ := h
  refine ⟨_, pe_tup a1, fun Γ G σ H Q hw c hr => a2 Γ G σ H _ hw c (hr.bind.mono fun xs k vs G1 H1 g1 c1 k1 r1 n1 => ⟨by rw [dpa_len r1, n1]; exact line_of hl, fun p hp => ?_⟩)⟩
  obtain ⟨s1, c2⟩ := c1.new (o := .tup vs) hp
  exact k _ _ _ (g1.trans s1) c2 (k1.trans (Kept.there (same_new hp))) (.tup (.inl (.inl upd_same)) (dpa_mono s1 r1))
theorem new_list {K : PySem.W.Frag} {mg : Str → Option Value} {Γ : Gam K mg} {G H H0 : Hp} {σ : L2.St} (c : Cfg Γ G ρ ms cs σ H) {p : Addr} {vs : List V} {ds : List PD} (hp : H p = none) (t : There H0 H) (r : DpAll K G vs ds) : Cfg Γ G ρ ms cs σ (upd H p (.lst vs)) ∧ RL K H0 G (upd H p (.lst vs)) (.ref p) ds :=
  ⟨c.keep (Same.refl _) (same_new hp) (c.ex.trans (same_new hp)) fun _ _ _ n => n, p, vs, rfl, t.free hp, There.free (Kept.there c.ex) hp, upd_same, r⟩
theorem el_lst {m : Out (List PD)} (h : AP X W es ρ ms cs m) (hl : es.length ≤ 1000 := by decide) : EP X W (RL X.K) (.List es pos) ρ ms cs m := by
  obtain ⟨ta, a1, a2⟩ := h
  refine ⟨_, pe_lst a1, fun Γ G σ H Q hw c hr => a2 Γ G σ H _ hw c (hr.mono fun xs k vs G1 H1 g1 c1 k1 r1 n1 => ⟨by rw [dpa_len r1, n1]; exact line_of hl, fun p hp => ?_⟩)⟩
  obtain ⟨c2, r2⟩ := new_list c1 hp k1.there r1
  exact k _ _ _ g1 c2 (k1.trans (same_new hp)) r2
theorem xl_lst {m : Out (List PD × List CO)} (h : AX X W es ρ ms cs m) (hl : es.length ≤ 1000 := by decide) : EX X W (RL X.K) (.List es pos) ρ ms cs m := by
  obtain ⟨ta, a1, a2⟩ := h
  refine ⟨_, pe_lst a1, fun Γ G σ H Q hw c hr => a2 Γ G σ H _ hw c (hr.mono fun xs k vs G1 H1 g1 c1 k1 r1 n1 => ⟨by rw [dpa_len r1, n1]; exact line_of hl, fun p hp => ?_⟩)⟩
  obtain ⟨c2, r2⟩ := new_list c1 hp k1 r1
  exact k _ _ _ g1 c2 (k1.trans (Kept.there (same_new hp))) r2

/-! ### subscripts -/
theorem atI_dpa {K : PySem.W.Frag} {G : Hp} {vs : List V} {ds : List PD} {i : Int} {d : PD} (r : DpAll K G vs ds) (h : atI ds i = some d) : ∃ v, atI vs i = some v ∧ Dp K G v d := by
  unfold atI at h ⊢
  rw [dpa_len r]
  cases e : ixN ds.length i with
  | none => rw [e] at h; cases h
  | some j =>
    rw [e] at h
    exact dpa_get r h
theorem ops_ix : OpS X (rIx X.K) (RD X.K) idxD := by
  intro Γ G ρ ms cs σ H H0 x y dx dy Q c t rx ry hr
  cases dy <;> first
    | (exfalso; cases dx <;> exact hr)
    | skip
  rename_i i
  cases rs_int ry
  cases dx <;> first
    | exact hr.elim
    | skip
  · rename_i z
    cases rs_str rx
    by_cases hz : z.length ≤ sizeLine
    · have e : idxD (.str z) (.int i) = (match atI z.cps.toList i with | some c => .ok (.str ⟨#[c]⟩) | none => .bad) := if_pos hz
      rw [e] at hr
      cases q : atI z.cps.toList i with
      | none => rw [q] at hr; exact hr.elim
      | some c' =>
        rw [q] at hr
        exact .inr (.inr ⟨z, i, c', rfl, rfl, hz, q, hr _ G H (Same.refl _) c (Same.refl _) (.str _)⟩)
    · have e : idxD (.str z) (.int i) = .bad := if_neg hz
      rw [e] at hr
      exact hr.elim
  · rename_i xs
    obtain ⟨a, vs, rfl, h1, d1⟩ := rs_list rx c.ex
    have e : idxD (.list xs) (.int i) = (match atI xs i with | some d => .ok d | none => .bad) := rfl
    rw [e] at hr
    cases q : atI xs i with
    | none => rw [q] at hr; exact hr.elim
    | some d =>
      rw [q] at hr
      obtain ⟨v, h2, h3⟩ := atI_dpa d1 q
      exact .inl ⟨a, vs, i, v, rfl, rfl, h1, h2, hr v G H (Same.refl _) c (Same.refl _) h3⟩
  · rename_i xs
    obtain ⟨a, vs, rfl, h1, d1, _⟩ := rs_tup rx c.ex
    have e : idxD (.tuple xs) (.int i) = (match atI xs i with | some d => .ok d | none => .bad) := rfl
    rw [e] at hr
    cases q : atI xs i with
    | none => rw [q] at hr; exact hr.elim
    | some d =>
      rw [q] at hr
      obtain ⟨v, h2, h3⟩ := atI_dpa d1 q
      exact .inr (.inl ⟨a, vs, i, v, rfl, rfl, h1, h2, hr v G H (Same.refl _) c (Same.refl _) h3⟩)
theorem ed_ix {ma mb : Out PD} (ha : EP X W (RS X.K) a ρ ms cs ma) (hb : EP X W (RS X.K) b ρ ms cs mb) (hs : PlainIx b := by exact fun _ _ => rfl) : EP X W (RD X.K) (.Subscript a b pos) ρ ms cs (ma >>= fun x => mb >>= fun y => idxD x y) := by
  obtain ⟨ta, a1, a2⟩ := ha
  obtain ⟨tb, b1, b2⟩ := hb
  exact ⟨_, pe_ix ix_seq a1 b1 hs, sem_op ops_ix a2 b2⟩
theorem ex_ix {ma : Out (PD × List CO)} {mb : List CO → Out (PD × List CO)} (ha : EX X W (RD X.K) a ρ ms cs ma) (hb : ∀ cs1, EX X W (RS X.K) b ρ ms cs1 (mb cs1)) (hs : PlainIx b := by exact fun _ _ => rfl) :
    EX X W (RD X.K) (.Subscript a b pos) ρ ms cs (ma >>= fun x => mb x.2 >>= fun y => idxD x.1 y.1 >>= fun z => .ok (z, y.2)) := by
  obtain ⟨ta, a1, a2⟩ := ha
  obtain ⟨tb, b1, b2⟩ := ex_all hb
  exact ⟨_, pe_ix ix_seq a1 b1 hs, sem_opX ops_ix a2 b2⟩
/-- the contents of the j-th cell -/
def cellL (j : Nat) (cs : List CO) : Out (List PD) := match cs[j]? with
  | some (.l ds) => .ok ds
  | _ => .bad
/-- a cell's item, the index's reckoning may change cells -/
theorem ex_ixc (i j : Nat) {x : Str} {ad : Addr} {pa : Pos} {mb : Out (PD × List CO)} (hb : EX X W (RS X.K) b ρ ms cs mb) (h : ρ[i]? = some (some (.c ad)) := by rfl) (h1 : ms[j]? = some ad := by rfl) (hN : X.N[i]? = some x := by rfl)
    (hv : Vis X.env.scope x := by first | exact Or.inl rfl | exact Or.inr (Or.inl rfl) | exact Or.inr (Or.inr rfl)) (hd : (x == ("__debug__" : Str)) = false := by decide) (hcd : (x == ("__classdict__" : Str)) = false := by decide) (hs : PlainIx b := by exact fun _ _ => rfl) :
    EX X W (RD X.K) (.Subscript (.Name x pa) b pos) ρ ms cs (mb >>= fun y => cellL j y.2 >>= fun ds => idxD (.list ds) y.1 >>= fun z => .ok (z, y.2)) := by
  obtain ⟨tb, b1, b2⟩ := hb
  refine ⟨_, pe_ix ix_seq (pe_var hN hv hd hcd) b1 hs, fun Γ G σ H Q hw c hr => ?_⟩
  obtain ⟨v, h3, h4⟩ := env_get c.env h
  refine ⟨v, h3, b2 Γ G σ H _ hw c (hr.bind.mono fun y k u G1 H1 g1 c1 k1 r1 => ?_)⟩
  unfold cellL at k
  cases e : y.2[j]? with
  | none => rw [e] at k; exact k.elim
  | some co =>
    rw [e] at k
    cases co with
    | k kvs => exact k.elim
    | l ds =>
      obtain ⟨g, vs, h5, h6⟩ := cells_get c1.cells h1 e
      exact ops_ix Γ G1 ρ ms y.2 σ H1 H v u (.list ds) y.1 Q c1 k1 (.inr ⟨ad, vs, ds, h4, rfl, h5, h6⟩) r1 (Res.mono (Res.bind k) fun z q w G3 H3 g3 c3 k3 r3 => q w G3 H3 (g1.trans g3) c3 (k1.trans k3.there) r3)

/-! ### slices -/
def SemO (K : PySem.W.Frag) (mg : Str → Option Value) (W : XK) (to : TO) (ρ : Rho) (ms : List Addr) (cs : List CO) (m : Out (Option Int)) : Prop :=
  ∀ (Γ : Gam K mg) (G : Hp) (σ : L2.St) (H : Hp) (Q : Option Int → Hp → Prop), Γ.W = W → Cfg Γ G ρ ms cs σ H → Res Γ.We m (fun b => ∀ G' H', Same G G' → Cfg Γ G' ρ ms cs σ H' → Kept H H' → Q b H') → to σ H Q
def SemOX (K : PySem.W.Frag) (mg : Str → Option Value) (W : XK) (to : TO) (ρ : Rho) (ms : List Addr) (cs : List CO) (m : Out (Option Int × List CO)) : Prop :=
  ∀ (Γ : Gam K mg) (G : Hp) (σ : L2.St) (H : Hp) (Q : Option Int → Hp → Prop), Γ.W = W → Cfg Γ G ρ ms cs σ H → Res Γ.We m (fun b => ∀ G' H', Same G G' → Cfg Γ G' ρ ms b.2 σ H' → There H H' → Q b.1 H') → to σ H Q
def OP (X : Cx) (W : XK) (e : Option Expr) (ρ : Rho) (ms : List Addr) (cs : List CO) (m : Out (Option Int)) : Prop := ∃ to, PO X e to ∧ SemO X.K X.mg W to ρ ms cs m
def OX (X : Cx) (W : XK) (e : Option Expr) (ρ : Rho) (ms : List Addr) (cs : List CO) (m : Out (Option Int × List CO)) : Prop := ∃ to, PO X e to ∧ SemOX X.K X.mg W to ρ ms cs m
theorem op_no : OP X W none ρ ms cs (.ok none) := ⟨_, po_none, fun Γ G σ H Q hw c hr => hr G H (Same.refl _) c (Same.refl _)⟩
theorem op_yes {m : Out PD} (h : EP X W (RS X.K) e ρ ms cs m) : OP X W (some e) ρ ms cs (m >>= fun x => partD x) := by
  obtain ⟨te, h1, h2⟩ := h
  refine ⟨_, po_some h1, fun Γ G σ H Q hw c hr => h2 Γ G σ H _ hw c (hr.bind.mono fun x k v G1 H1 g1 c1 k1 r1 => ?_)⟩
  cases x <;> first
    | exact k.elim
    | skip
  cases rs_int r1
  exact ⟨_, rfl, k G1 H1 g1 c1 k1⟩
theorem ox_yes {m : Out (PD × List CO)} (h : EX X W (RS X.K) e ρ ms cs m) : OX X W (some e) ρ ms cs (m >>= fun x => partD x.1 >>= fun o => .ok (o, x.2)) := by
  obtain ⟨te, h1, h2⟩ := h
  refine ⟨_, po_some h1, fun Γ G σ H Q hw c hr => h2 Γ G σ H _ hw c (hr.bind.mono fun x k v G1 H1 g1 c1 k1 r1 => ?_)⟩
  obtain ⟨x, cs1⟩ := x
  cases x <;> first
    | exact k.elim
    | skip
  cases rs_int r1
  exact ⟨_, rfl, k G1 H1 g1 c1 k1⟩
theorem OP.x {o : Option Expr} {m : Out (Option Int)} (h : OP X W o ρ ms cs m) : OX X W o ρ ms cs (m >>= fun b => .ok (b, cs)) := by
  obtain ⟨te, h1, h2⟩ := h
  exact ⟨te, h1, fun Γ G σ H Q hw c hr => h2 Γ G σ H Q hw c (hr.bind.mono fun b k G' H' g c' kp => k G' H' g c' kp.there)⟩
theorem po_all {o : Option Expr} {ι : Type} {t : ι → TO} (h : ∀ i, PO X o (t i)) : PO X o (fun σ H Q => ∃ i, t i σ H Q) := ⟨fun pins s σ H Q I hw => by
  obtain ⟨i, hw⟩ := hw
  exact (h i).run pins s σ H Q I hw⟩
theorem ox_all {o : Option Expr} {m : List CO → Out (Option Int × List CO)} (h : ∀ cs, OX X W o ρ ms cs (m cs)) : ∃ to, PO X o to ∧ ∀ cs, SemOX X.K X.mg W to ρ ms cs (m cs) := by
  refine ⟨_, po_all (t := fun cs => (h cs).choose) fun cs => (h cs).choose_spec.1, fun cs Γ G σ H Q hw c hr => ⟨cs, (h cs).choose_spec.2 Γ G σ H Q hw c hr⟩⟩
/-- a slice by values -/
def SlS {γ : Type} (X : Cx) (r : V → Option Int → Option Int → Hp → VK → Prop) (R : VR γ) (f : PD → Option Int → Option Int → Out γ) : Prop :=
  ∀ (Γ : Gam X.K X.mg) (G : Hp) (ρ : Rho) (ms : List Addr) (cs : List CO) (σ : L2.St) (H H0 : Hp) (x : V) (dx : PD) (lo hi : Option Int) (Q : VK), Cfg Γ G ρ ms cs σ H → There H0 H → RS X.K H0 G H x dx →
    Res Γ.We (f dx lo hi) (fun c => ∀ v G' H', Same G G' → Cfg Γ G' ρ ms cs σ H' → Kept H H' → R H0 G' H' v c → Q v H') → r x lo hi H Q
theorem dpa_cut {K : PySem.W.Frag} {G : Hp} {vs : List V} {ds : List PD} (r : DpAll K G vs ds) (lo hi : Option Int) : DpAll K G (cutV vs lo hi) (cutL ds lo hi) := by
  unfold cutV cutL
  rw [dpa_len r]
  exact dpa_take _ (dpa_drop _ r)
theorem sls_all : SlS X (fun x lo hi H Q => rSlS x lo hi H Q ∨ rSlA X.K x lo hi H Q ∨ rSlL X.K x lo hi H Q) (RD X.K) cutD := by
  intro Γ G ρ ms cs σ H H0 x dx lo hi Q c t rx hr
  cases dx <;> first
    | exact hr.elim
    | skip
  · rename_i z
    cases rs_str rx
    by_cases hz : z.length ≤ sizeLine
    · have e : cutD (.str z) lo hi = .ok (.str (cutS z lo hi)) := if_pos hz
      rw [e] at hr
      exact .inl ⟨z, rfl, hz, hr _ G H (Same.refl _) c (Same.refl _) (.str _)⟩
    · have e : cutD (.str z) lo hi = .bad := if_neg hz
      rw [e] at hr
      exact hr.elim
  · rename_i xs
    obtain ⟨a, vs, rfl, h1, d1⟩ := rs_list rx c.ex
    refine .inr (.inr ⟨a, vs, rfl, h1, fun p hp => ?_⟩)
    obtain ⟨c2, p', vs', e1, h0, gp, hp', hd⟩ := new_list c hp t (dpa_cut d1 lo hi)
    obtain ⟨n1, n2⟩ := fresh_ok c hp
    obtain ⟨s1, c3⟩ := upd_known (o := .lst (cutV vs lo hi)) c2 (There.free (Kept.there c.ex) hp) upd_same n1 n2
    exact hr _ _ _ s1 c3 (same_new hp) (.lst (.inl (.inl upd_same)) (dpa_mono s1 (dpa_cut d1 lo hi)))
  · rename_i xs
    obtain ⟨a, vs, rfl, h1, d1, e1⟩ := rs_tup rx c.ex
    refine .inr (.inl ⟨a, vs, rfl, h1, fun z => ?_, fun z p hp => ?_⟩)
    · have e : cutL xs lo hi = xs := by
        unfold cutL
        rw [← dpa_len d1, z.1, z.2, List.drop_zero, Nat.sub_zero, dpa_len d1, List.take_length]
      have q := hr (.ref a) G H (Same.refl _) c (Same.refl _) (by rw [e]; exact e1)
      exact q
    · obtain ⟨s1, c1⟩ := c.new (o := .tup (cutV vs lo hi)) hp
      exact hr _ _ _ s1 c1 (same_new hp) (.tup (.inl (.inl upd_same)) (dpa_mono s1 (dpa_cut d1 lo hi)))
theorem sls_l : SlS X (rSlL X.K) (RL X.K) cutLL := by
  intro Γ G ρ ms cs σ H H0 x dx lo hi Q c t rx hr
  cases dx <;> first
    | exact hr.elim
    | skip
  rename_i xs
  obtain ⟨a, vs, rfl, h1, d1⟩ := rs_list rx c.ex
  refine ⟨a, vs, rfl, h1, fun p hp => ?_⟩
  obtain ⟨c2, r2⟩ := new_list c hp t (dpa_cut d1 lo hi)
  exact hr _ G _ (Same.refl _) c2 (same_new hp) r2
theorem slr_all : SlR X (fun x lo hi H Q => rSlS x lo hi H Q ∨ rSlA X.K x lo hi H Q ∨ rSlL X.K x lo hi H Q) := sl_str.or (sl_tupA.or sl_list)
theorem ep_slice {γ : Type} {r : V → Option Int → Option Int → Hp → VK → Prop} {R : VR γ} {f : PD → Option Int → Option Int → Out γ} {lo hi : Option Expr} {ma : Out PD} {ml mh : Out (Option Int)} (h0 : SlR X r) (hf : SlS X r R f) (ha : EP X W (RS X.K) a ρ ms cs ma) (hl : OP X W lo ρ ms cs ml) (hh : OP X W hi ρ ms cs mh) :
    EP X W R (.Subscript a (.Slice lo hi none p2) pos) ρ ms cs (ma >>= fun x => ml >>= fun l => mh >>= fun h => f x l h) := by
  obtain ⟨ta, a1, a2⟩ := ha
  obtain ⟨tl, l1, l2⟩ := hl
  obtain ⟨th, u1, u2⟩ := hh
  refine ⟨_, pe_slice h0 a1 l1 u1, fun Γ G σ H Q hw c hr => a2 Γ G σ H _ hw c (hr.bind.mono fun x k v G1 H1 g1 c1 k1 r1 => l2 Γ G1 σ H1 _ hw c1 (k.bind.mono fun l k2 G2 H2 g2 c2 k2' => u2 Γ G2 σ H2 _ hw c2 (k2.bind.mono fun h k3 G3 H3 g3 c3 k3' => ?_)))⟩
  exact hf Γ G3 ρ ms cs σ H3 H v x l h Q c3 (Kept.there (k1.trans (k2'.trans k3'))) (rs_stab (rs_stab r1 g2 k2') g3 k3') (k3.mono fun z q w G4 H4 g4 c4 k4 r4 => q w G4 H4 (g1.trans (g2.trans (g3.trans g4))) c4 (k1.trans (k2'.trans (k3'.trans k4))) r4)
theorem ex_slice {γ : Type} {r : V → Option Int → Option Int → Hp → VK → Prop} {R : VR γ} {f : PD → Option Int → Option Int → Out γ} {lo hi : Option Expr} {ma : Out (PD × List CO)} {ml mh : List CO → Out (Option Int × List CO)} (h0 : SlR X r) (hf : SlS X r R f) (ha : EX X W (RD X.K) a ρ ms cs ma) (hl : ∀ cs1, OX X W lo ρ ms cs1 (ml cs1)) (hh : ∀ cs1, OX X W hi ρ ms cs1 (mh cs1)) :
    EX X W R (.Subscript a (.Slice lo hi none p2) pos) ρ ms cs (ma >>= fun x => ml x.2 >>= fun l => mh l.2 >>= fun h => f x.1 l.1 h.1 >>= fun z => .ok (z, h.2)) := by
  obtain ⟨ta, a1, a2⟩ := ha
  obtain ⟨tl, l1, l2⟩ := ox_all hl
  obtain ⟨th, u1, u2⟩ := ox_all hh
  refine ⟨_, pe_slice h0 a1 l1 u1, fun Γ G σ H Q hw c hr => a2 Γ G σ H _ hw c (hr.bind.mono fun x k v G1 H1 g1 c1 k1 r1 => l2 x.2 Γ G1 σ H1 _ hw c1 (k.bind.mono fun l k2 G2 H2 g2 c2 k2' => u2 l.2 Γ G2 σ H2 _ hw c2 (k2.bind.mono fun h k3 G3 H3 g3 c3 k3' => ?_)))⟩
  exact hf Γ G3 ρ ms h.2 σ H3 H v x.1 l.1 h.1 Q c3 (k1.trans (k2'.trans k3')) (.inl (dp_mono (g2.trans g3) r1)) (k3.bind.mono fun z q w G4 H4 g4 c4 k4 r4 => q w G4 H4 (g1.trans (g2.trans (g3.trans g4))) c4 (k1.trans (k2'.trans (k3'.trans k4.there))) r4)
theorem ed_slice {lo hi : Option Expr} {ma : Out PD} {ml mh : Out (Option Int)} (ha : EP X W (RS X.K) a ρ ms cs ma) (hl : OP X W lo ρ ms cs ml) (hh : OP X W hi ρ ms cs mh) : EP X W (RD X.K) (.Subscript a (.Slice lo hi none p2) pos) ρ ms cs (ma >>= fun x => ml >>= fun l => mh >>= fun h => cutD x l h) := ep_slice slr_all sls_all ha hl hh
theorem el_slice {lo hi : Option Expr} {ma : Out PD} {ml mh : Out (Option Int)} (ha : EP X W (RS X.K) a ρ ms cs ma) (hl : OP X W lo ρ ms cs ml) (hh : OP X W hi ρ ms cs mh) : EP X W (RL X.K) (.Subscript a (.Slice lo hi none p2) pos) ρ ms cs (ma >>= fun x => ml >>= fun l => mh >>= fun h => cutLL x l h) := ep_slice sl_list sls_l ha hl hh
theorem xd_slice {lo hi : Option Expr} {ma : Out (PD × List CO)} {ml mh : List CO → Out (Option Int × List CO)} (ha : EX X W (RD X.K) a ρ ms cs ma) (hl : ∀ cs1, OX X W lo ρ ms cs1 (ml cs1)) (hh : ∀ cs1, OX X W hi ρ ms cs1 (mh cs1)) :
    EX X W (RD X.K) (.Subscript a (.Slice lo hi none p2) pos) ρ ms cs (ma >>= fun x => ml x.2 >>= fun l => mh l.2 >>= fun h => cutD x.1 l.1 h.1 >>= fun z => .ok (z, h.2)) := ex_slice slr_all sls_all ha hl hh
end
end Dd
set_option Elab.async false
set_option linter.all false
set_option maxRecDepth 100000
set_option maxHeartbeats 2000000
namespace Dd
open PySem PySem.Spec PyProof.Rows L2
section
variable {X : Cx} {W : XK} {a b c e : Expr} {es : List Expr} {ρ : Rho} {ms : List Addr} {cs : List CO} {pos p2 p : Pos}
/-! ### built-ins of one argument, by values -/
def CallS {γ : Type} (X : Cx) (r : List V → Hp → VK → Prop) (R : VR γ) (f : PD → Out γ) : Prop :=
  ∀ (Γ : Gam X.K X.mg) (G : Hp) (ρ : Rho) (ms : List Addr) (cs : List CO) (σ : L2.St) (H H0 : Hp) (x : V) (dx : PD) (Q : VK), Cfg Γ G ρ ms cs σ H → There H0 H → RS X.K H0 G H x dx →
    Res Γ.We (f dx) (fun c => ∀ v G' H', Same G G' → Cfg Γ G' ρ ms cs σ H' → Kept H H' → R H0 G' H' v c → Q v H') → r [x] H Q
theorem one_pa {m : Out PD} {ta : TE} {r : List V → Hp → VK → Prop} {γ : Type} {R : VR γ} {f : PD → Out γ} (hf : CallS X r R f) (a2 : SemP X.K X.mg W ta (RS X.K) ρ ms cs m) : SemP X.K X.mg W (tCB r (tCons ta tNil)) R ρ ms cs (m >>= fun x => f x) := fun Γ G σ H Q hw c hr =>
  a2 Γ G σ H _ hw c (hr.bind.mono fun x k v G1 H1 g1 c1 k1 r1 => hf Γ G1 ρ ms cs σ H1 H v x Q c1 k1.there r1 (k.mono fun z q w G2 H2 g2 c2 k2 r2 => q w G2 H2 (g1.trans g2) c2 (k1.trans k2) r2))
theorem one_paX {m : Out (PD × List CO)} {ta : TE} {r : List V → Hp → VK → Prop} {γ : Type} {R : VR γ} {f : PD → Out γ} (hf : CallS X r R f) (a2 : SemX X.K X.mg W ta (RS X.K) ρ ms cs m) : SemX X.K X.mg W (tCB r (tCons ta tNil)) R ρ ms cs (m >>= fun x => f x.1 >>= fun z => .ok (z, x.2)) := fun Γ G σ H Q hw c hr =>
  a2 Γ G σ H _ hw c (hr.bind.mono fun x k v G1 H1 g1 c1 k1 r1 => hf Γ G1 ρ ms x.2 σ H1 H v x.1 Q c1 k1 r1 (k.bind.mono fun z q w G2 H2 g2 c2 k2 r2 => q w G2 H2 (g1.trans g2) c2 (k1.trans k2.there) r2))
theorem ep_callB {γ : Type} {R : VR γ} {f : PD → Out γ} {m : Out PD} {id : String} {x : Str} {r : List V → Hp → VK → Prop} (hc : CallR X (.builtin id) r ∧ CallS X r R f) (hm : X.mg x = none) (ha : EP X W (RS X.K) a ρ ms cs m) (hg : Gl X x := by rfl) (hv : bootBuiltins x = some (.builtin id) := by decide +kernel) (hn : x ≠ "__name__" := by decide)
    (hdb : (x == ("__debug__" : Str)) = false := by decide) (h1 : starEach (a :: []) X.env = (false, eval a X.env) :: starEach [] X.env := by rfl) : EP X W R (.Call (.Name x p) [a] [] pos) ρ ms cs (m >>= fun x => f x) := by
  obtain ⟨ta, a1, a2⟩ := ha
  exact ⟨_, pe_callB hc.1 hg hm hv (pa_cons a1 pa_nil h1) hn hdb h1 rfl, one_pa hc.2 a2⟩
theorem ep_callTy {γ : Type} {R : VR γ} {f : PD → Out γ} {m : Out PD} {T : String} {x : Str} {r : List V → Hp → VK → Prop} (hc : CallR X (.type T) r ∧ CallS X r R f) (hm : X.mg x = none) (ha : EP X W (RS X.K) a ρ ms cs m) (hg : Gl X x := by rfl) (hv : bootBuiltins x = some (.type T) := by decide +kernel) (hn : x ≠ "__name__" := by decide)
    (hdb : (x == ("__debug__" : Str)) = false := by decide) (h1 : starEach (a :: []) X.env = (false, eval a X.env) :: starEach [] X.env := by rfl) : EP X W R (.Call (.Name x p) [a] [] pos) ρ ms cs (m >>= fun x => f x) := by
  obtain ⟨ta, a1, a2⟩ := ha
  exact ⟨_, pe_callTy hc.1 hg hm hv (pa_cons a1 pa_nil h1) hn hdb h1 rfl, one_pa hc.2 a2⟩
theorem ex_callB {γ : Type} {R : VR γ} {f : PD → Out γ} {m : Out (PD × List CO)} {id : String} {x : Str} {r : List V → Hp → VK → Prop} (hc : CallR X (.builtin id) r ∧ CallS X r R f) (hm : X.mg x = none) (ha : EX X W (RS X.K) a ρ ms cs m) (hg : Gl X x := by rfl) (hv : bootBuiltins x = some (.builtin id) := by decide +kernel) (hn : x ≠ "__name__" := by decide)
    (hdb : (x == ("__debug__" : Str)) = false := by decide) (h1 : starEach (a :: []) X.env = (false, eval a X.env) :: starEach [] X.env := by rfl) : EX X W R (.Call (.Name x p) [a] [] pos) ρ ms cs (m >>= fun x => f x.1 >>= fun z => .ok (z, x.2)) := by
  obtain ⟨ta, a1, a2⟩ := ha
  exact ⟨_, pe_callB hc.1 hg hm hv (pa_cons a1 pa_nil h1) hn hdb h1 rfl, one_paX hc.2 a2⟩
theorem ex_callTy {γ : Type} {R : VR γ} {f : PD → Out γ} {m : Out (PD × List CO)} {T : String} {x : Str} {r : List V → Hp → VK → Prop} (hc : CallR X (.type T) r ∧ CallS X r R f) (hm : X.mg x = none) (ha : EX X W (RS X.K) a ρ ms cs m) (hg : Gl X x := by rfl) (hv : bootBuiltins x = some (.type T) := by decide +kernel) (hn : x ≠ "__name__" := by decide)
    (hdb : (x == ("__debug__" : Str)) = false := by decide) (h1 : starEach (a :: []) X.env = (false, eval a X.env) :: starEach [] X.env := by rfl) : EX X W R (.Call (.Name x p) [a] [] pos) ρ ms cs (m >>= fun x => f x.1 >>= fun z => .ok (z, x.2)) := by
  obtain ⟨ta, a1, a2⟩ := ha
  exact ⟨_, pe_callTy hc.1 hg hm hv (pa_cons a1 pa_nil h1) hn hdb h1 rfl, one_paX hc.2 a2⟩
theorem cs_len : CallS X (fun xs H Q => (∃ p ys, xs = [.ref p] ∧ (SqL X.K H p ys ∨ SqT X.K H p ys) ∧ Q (.int ys.length) H) ∨ ∃ z, xs = [.str z] ∧ z.length ≤ sizeLine ∧ Q (.int z.length) H) (RD X.K) lenD := by
  intro Γ G ρ ms cs σ H H0 x dx Q c t rx hr
  cases dx <;> first
    | exact hr.elim
    | skip
  · rename_i z
    cases rs_str rx
    by_cases hz : z.length ≤ sizeLine
    · have e : lenD (.str z) = .ok (.int z.length) := if_pos hz
      rw [e] at hr
      exact .inr ⟨z, rfl, hz, hr _ G H (Same.refl _) c (Same.refl _) (.int _)⟩
    · have e : lenD (.str z) = .bad := if_neg hz
      rw [e] at hr
      exact hr.elim
  · obtain ⟨a, vs, rfl, h1, d1⟩ := rs_list rx c.ex
    exact .inl ⟨a, vs, rfl, .inl h1, by rw [dpa_len d1]; exact hr _ G H (Same.refl _) c (Same.refl _) (.int _)⟩
  · obtain ⟨a, vs, rfl, h1, d1, _⟩ := rs_tup rx c.ex
    exact .inl ⟨a, vs, rfl, .inr h1, by rw [dpa_len d1]; exact hr _ G H (Same.refl _) c (Same.refl _) (.int _)⟩
theorem c_len : CallR X (.builtin "len") (fun xs H Q => (∃ p ys, xs = [.ref p] ∧ (SqL X.K H p ys ∨ SqT X.K H p ys) ∧ Q (.int ys.length) H) ∨ ∃ z, xs = [.str z] ∧ z.length ≤ sizeLine ∧ Q (.int z.length) H) ∧ CallS X (fun xs H Q => (∃ p ys, xs = [.ref p] ∧ (SqL X.K H p ys ∨ SqT X.K H p ys) ∧ Q (.int ys.length) H) ∨ ∃ z, xs = [.str z] ∧ z.length ≤ sizeLine ∧ Q (.int z.length) H) (RD X.K) lenD :=
  ⟨call_len_seq.or call_len_str, cs_len⟩
theorem c_int : CallR X (.type "int") (fun xs H Q => (∃ i, xs = [.int i] ∧ Q (.int i) H) ∨ ∃ k, xs = [.bl k] ∧ Q (.int (if k then 1 else 0)) H) ∧ CallS X (fun xs H Q => (∃ i, xs = [.int i] ∧ Q (.int i) H) ∨ ∃ k, xs = [.bl k] ∧ Q (.int (if k then 1 else 0)) H) (RD X.K) intD := by
  refine ⟨call_int1, fun Γ G ρ ms cs σ H H0 x dx Q c t rx hr => ?_⟩
  cases dx <;> first
    | exact hr.elim
    | skip
  · cases rs_bool rx
    exact .inr ⟨_, rfl, hr _ G H (Same.refl _) c (Same.refl _) (.int _)⟩
  · cases rs_int rx
    exact .inl ⟨_, rfl, hr _ G H (Same.refl _) c (Same.refl _) (.int _)⟩
/-- tuple(x) of a list or a tuple -/
def tupleD (x : PD) : Out PD := seqD x >>= fun xs => .ok (.tuple xs)
theorem c_tuple : CallR X (.type "tuple") (fun xs H Q => ∃ p ys, xs = [.ref p] ∧ ((SqL X.K H p ys ∧ ∀ l, H l = none → Q (.ref l) (upd H l (.tup ys))) ∨ (SqT X.K H p ys ∧ Q (.ref p) H))) ∧
    CallS X (fun xs H Q => ∃ p ys, xs = [.ref p] ∧ ((SqL X.K H p ys ∧ ∀ l, H l = none → Q (.ref l) (upd H l (.tup ys))) ∨ (SqT X.K H p ys ∧ Q (.ref p) H))) (RD X.K) tupleD := by
  refine ⟨call_tuple_of, fun Γ G ρ ms cs σ H H0 x dx Q c t rx hr => ?_⟩
  cases dx <;> first
    | exact hr.elim
    | skip
  · obtain ⟨a, vs, rfl, h1, d1⟩ := rs_list rx c.ex
    refine ⟨a, vs, rfl, .inl ⟨h1, fun p hp => ?_⟩⟩
    obtain ⟨s1, c1⟩ := c.new (o := .tup vs) hp
    exact hr _ _ _ s1 c1 (same_new hp) (.tup (.inl (.inl upd_same)) (dpa_mono s1 d1))
  · obtain ⟨a, vs, rfl, h1, d1, e1⟩ := rs_tup rx c.ex
    exact ⟨a, vs, rfl, .inr ⟨h1, hr _ G H (Same.refl _) c (Same.refl _) e1⟩⟩
/-- list(x) of a list or a tuple: a new list -/
theorem c_list : CallR X (.type "list") (fun xs H Q => ∃ p ys, xs = [.ref p] ∧ (SqL X.K H p ys ∨ SqT X.K H p ys) ∧ ∀ l, H l = none → Q (.ref l) (upd H l (.lst ys))) ∧
    CallS X (fun xs H Q => ∃ p ys, xs = [.ref p] ∧ (SqL X.K H p ys ∨ SqT X.K H p ys) ∧ ∀ l, H l = none → Q (.ref l) (upd H l (.lst ys))) (RL X.K) seqD := by
  refine ⟨call_list_of, fun Γ G ρ ms cs σ H H0 x dx Q c t rx hr => ?_⟩
  cases dx <;> first
    | exact hr.elim
    | skip
  · obtain ⟨a, vs, rfl, h1, d1⟩ := rs_list rx c.ex
    refine ⟨a, vs, rfl, .inl h1, fun p hp => ?_⟩
    obtain ⟨c2, r2⟩ := new_list c hp t d1
    exact hr _ G _ (Same.refl _) c2 (same_new hp) r2
  · obtain ⟨a, vs, rfl, h1, d1, e1⟩ := rs_tup rx c.ex
    refine ⟨a, vs, rfl, .inr h1, fun p hp => ?_⟩
    obtain ⟨c2, r2⟩ := new_list c hp t d1
    exact hr _ G _ (Same.refl _) c2 (same_new hp) r2

/-! ### isinstance with a built-in type -/
def tyName : PD → String
  | .none => "NoneType" | .bool _ => "bool" | .int _ => "int" | .str _ => "str" | .list _ => "list" | .tuple _ => "tuple" | .dict _ => "dict"
def isiD (T : String) (d : PD) : Out PD := match d with
  | .dict _ => .bad
  | _ => match kitB (tyName d) T with
    | some b => .ok (.bool b)
    | none => .bad
theorem dp_ty {K : PySem.W.Frag} {H0 G H : Hp} {v : V} {d : PD} (ex : Same G H) (r : RS K H0 G H v d) : TyX K H v (.type (tyName d)) := by
  have q := rs_dp ex r
  cases q with
  | non => exact .base .non
  | bl b => exact .base (.bl b)
  | int i => exact .base (.int i)
  | str i => exact .base (.str i)
  | lst h t =>
    rcases h with (h | ⟨o, h⟩) | ⟨o, its, n, h, hc, _⟩
    · exact .base (.lst h)
    · exact .base (.frz h)
    · exact .kList h hc
  | tup h t =>
    rcases h with (h | ⟨o, h⟩) | ⟨o, its, n, h, hc, _⟩
    · exact .base (.tup h)
    · exact .fTuple h
    · exact .kTuple h hc
theorem ed_isi {m : Out PD} {T : String} {t : Str} (hm : X.mg "isinstance" = none) (hm2 : X.mg t = none) (ha : EP X W (RS X.K) a ρ ms cs m) (hg : Gl X "isinstance" := by rfl) (hg2 : Gl X t := by rfl) (hv : bootBuiltins t = some (.type T) := by decide +kernel)
    (hn : t ≠ "__name__" := by decide) (hdb : (t == ("__debug__" : Str)) = false := by decide) (h1 : starEach (a :: [.Name t p2]) X.env = (false, eval a X.env) :: starEach [.Name t p2] X.env := by rfl) :
    EP X W (RD X.K) (.Call (.Name "isinstance" p) [a, .Name t p2] [] pos) ρ ms cs (m >>= fun x => isiD T x) := by
  obtain ⟨ta, a1, a2⟩ := ha
  refine ⟨_, pe_callB call_isi hg hm (by decide +kernel) (pa_cons a1 (pa_cons (pe_bltn (v := .ty T) hg2 hm2 hv rfl hn hdb) pa_nil rfl) h1) (by decide) (by decide) h1 rfl, fun Γ G σ H Q hw c hr => a2 Γ G σ H _ hw c (hr.bind.mono fun x k v G1 H1 g1 c1 k1 r1 => ?_)⟩
  have ty := dp_ty c1.ex r1
  have key : ∀ b, kitB (tyName x) T = some b → Q (.bl b) H1 → rIsi X.K [v, .ty T] H1 Q := fun b e q => ⟨v, .ty T, .type (tyName x), .type T, b, rfl, .ty T, ty, kit_ty e, q⟩
  unfold isiD at k
  cases e : kitB (tyName x) T with
  | none => cases x <;> simp only [e] at k <;> exact k.elim
  | some b =>
    refine key b e ?_
    cases x <;> simp only [e] at k <;> first
      | exact k.elim
      | exact k _ G1 H1 g1 c1 k1 (.bl _)

/-! ### methods of texts -/
def asStr : PD → Out Str
  | .str z => .ok z
  | _ => .bad
/-- a method of a text by values -/
def MtS {γ : Type} (X : Cx) (r : V → List V → Hp → VK → Prop) (R : VR γ) (f : Str → PD → Out γ) : Prop :=
  ∀ (Γ : Gam X.K X.mg) (G : Hp) (ρ : Rho) (ms : List Addr) (cs : List CO) (σ : L2.St) (H H0 : Hp) (z : Str) (y : V) (dy : PD) (Q : VK), Cfg Γ G ρ ms cs σ H → There H0 H → RS X.K H0 G H y dy →
    Res Γ.We (f z dy) (fun c => ∀ v G' H', Same G G' → Cfg Γ G' ρ ms cs σ H' → Kept H H' → R H0 G' H' v c → Q v H') → r (.str z) [y] H Q
theorem ep_m1 {γ : Type} {R : VR γ} {f : Str → PD → Out γ} {ma mb : Out PD} {apos : Pos} {id : String} {name : Str} {r : V → List V → Hp → VK → Prop} (hm : MtR X id r ∧ MtS X r R f) (slot : Slot "str" name id) (ty : typeOf (.builtin id) = pure (.type "method_descriptor"))
    (ha : EP X W (RS X.K) a ρ ms cs ma) (hb : EP X W (RS X.K) b ρ ms cs mb) (hs : starEach [b] X.env = [(false, eval b X.env)] := by rfl) (hbase : attributeBase a name X.env (eval a X.env) = eval a X.env := by rfl) (hline : (apos.endLine == pos.line) = true := by rfl) :
    EP X W R (.Call (.Attribute a name apos) [b] [] pos) ρ ms cs (ma >>= fun x => asStr x >>= fun z => mb >>= fun y => f z y) := by
  obtain ⟨ta, a1, a2⟩ := ha
  obtain ⟨tb, b1, b2⟩ := hb
  refine ⟨_, pe_m1 slot ty hm.1 a1 b1 hs hbase hline, fun Γ G σ H Q hw c hr => a2 Γ G σ H _ hw c (hr.bind.mono fun x k v G1 H1 g1 c1 k1 r1 => ?_)⟩
  cases x <;> first
    | exact k.elim
    | skip
  rename_i z
  cases rs_str r1
  exact ⟨⟨_, rfl⟩, b2 Γ G1 σ H1 _ hw c1 (Res.mono (Res.bind (show Res Γ.We (mb >>= fun y => f z y) _ from k)) fun y k2 u G2 H2 g2 c2 k2' r2 => hm.2 Γ G2 ρ ms cs σ H2 H z u y Q c2 (Kept.there (k1.trans k2')) r2 (k2.mono fun w q v3 G3 H3 g3 c3 k3 r3 => q v3 G3 H3 (g1.trans (g2.trans g3)) c3 (k1.trans (k2'.trans k3)) r3))⟩
theorem ex_m1 {γ : Type} {R : VR γ} {f : Str → PD → Out γ} {ma : Out (PD × List CO)} {mb : List CO → Out (PD × List CO)} {apos : Pos} {id : String} {name : Str} {r : V → List V → Hp → VK → Prop} (hm : MtR X id r ∧ MtS X r R f) (slot : Slot "str" name id) (ty : typeOf (.builtin id) = pure (.type "method_descriptor"))
    (ha : EX X W (RS X.K) a ρ ms cs ma) (hb : ∀ cs1, EX X W (RS X.K) b ρ ms cs1 (mb cs1)) (hs : starEach [b] X.env = [(false, eval b X.env)] := by rfl) (hbase : attributeBase a name X.env (eval a X.env) = eval a X.env := by rfl) (hline : (apos.endLine == pos.line) = true := by rfl) :
    EX X W R (.Call (.Attribute a name apos) [b] [] pos) ρ ms cs (ma >>= fun x => asStr x.1 >>= fun z => mb x.2 >>= fun y => f z y.1 >>= fun w => .ok (w, y.2)) := by
  obtain ⟨ta, a1, a2⟩ := ha
  obtain ⟨tb, b1, b2⟩ := ex_all hb
  refine ⟨_, pe_m1 slot ty hm.1 a1 b1 hs hbase hline, fun Γ G σ H Q hw c hr => a2 Γ G σ H _ hw c (hr.bind.mono fun x k v G1 H1 g1 c1 k1 r1 => ?_)⟩
  obtain ⟨x, cs1⟩ := x
  cases x <;> first
    | exact k.elim
    | skip
  rename_i z
  cases rs_str r1
  exact ⟨⟨_, rfl⟩, b2 cs1 Γ G1 σ H1 _ hw c1 (Res.mono (Res.bind (show Res Γ.We (mb cs1 >>= fun y => f z y.1 >>= fun w => .ok (w, y.2)) _ from k)) fun y k2 u G2 H2 g2 c2 k2' r2 => hm.2 Γ G2 ρ ms y.2 σ H2 H z u y.1 Q c2 (k1.trans k2') r2 (k2.bind.mono fun w q v3 G3 H3 g3 c3 k3 r3 => q v3 G3 H3 (g1.trans (g2.trans g3)) c3 (k1.trans (k2'.trans k3.there)) r3))⟩
abbrev rJoin (K : PySem.W.Frag) : V → List V → Hp → VK → Prop := fun x xs H Q => ∃ a p, ∃ ys : List Str, x = .str a ∧ xs = [.ref p] ∧ (SqL K H p (ys.map V.str) ∨ SqT K H p (ys.map V.str)) ∧
    (ys.map (·.length)).sum + ys.length * a.length ≤ 16777216 ∧ Q (.str (Txt.join a ys)) H
theorem m_join : MtR X "str.join" (rJoin X.K) ∧ MtS X (rJoin X.K) (RD X.K) (fun z y => joinD (.str z) y) := by
  refine ⟨mt_join, fun Γ G ρ ms cs σ H H0 z u y Q c t r2 k2 => ?_⟩
  cases y <;> first
    | exact k2.elim
    | skip
  · rename_i ds
    obtain ⟨a, vs, rfl, h1, d1⟩ := rs_list r2 c.ex
    cases e : strsD ds with
    | none => simp only [joinD, e] at k2; exact k2.elim
    | some zs =>
      simp only [joinD, e] at k2
      have e2 := strsD_eq e
      subst e2
      rw [dpa_strs d1] at h1
      split at k2
      · rename_i hz
        exact ⟨z, a, zs, rfl, rfl, .inl h1, hz, k2 _ G H (Same.refl _) c (Same.refl _) (.str _)⟩
      · exact k2.elim
  · rename_i ds
    obtain ⟨a, vs, rfl, h1, d1, _⟩ := rs_tup r2 c.ex
    cases e : strsD ds with
    | none => simp only [joinD, e] at k2; exact k2.elim
    | some zs =>
      simp only [joinD, e] at k2
      have e2 := strsD_eq e
      subst e2
      rw [dpa_strs d1] at h1
      split at k2
      · rename_i hz
        exact ⟨z, a, zs, rfl, rfl, .inr h1, hz, k2 _ G H (Same.refl _) c (Same.refl _) (.str _)⟩
      · exact k2.elim
theorem m_str1 {id : String} {g : Str → Str → PD} {gv : Str → Str → V} (h : MtR X id (fun x xs H Q => ∃ a b, x = .str a ∧ xs = [.str b] ∧ Q (gv a b) H)) (hg : ∀ a b G, Dp X.K G (gv a b) (g a b)) {f : Str → PD → Out PD} (hf : ∀ z y, f z y ≠ .bad → ∃ b, y = .str b ∧ f z y = .ok (g z b)) :
    MtR X id (fun x xs H Q => ∃ a b, x = .str a ∧ xs = [.str b] ∧ Q (gv a b) H) ∧ MtS X (fun x xs H Q => ∃ a b, x = .str a ∧ xs = [.str b] ∧ Q (gv a b) H) (RD X.K) f := by
  refine ⟨h, fun Γ G ρ ms cs σ H H0 z u y Q c t r2 k2 => ?_⟩
  by_cases e : f z y = .bad
  · rw [e] at k2; exact k2.elim
  · obtain ⟨b, rfl, e2⟩ := hf z y e
    rw [e2] at k2
    cases rs_str r2
    exact ⟨z, b, rfl, rfl, k2 _ G H (Same.refl _) c (Same.refl _) (hg _ _ _)⟩
theorem m_starts : MtR X "str.startswith" (fun x xs H Q => ∃ a b, x = .str a ∧ xs = [.str b] ∧ Q (.bl (Txt.startswith a b)) H) ∧ MtS X (fun x xs H Q => ∃ a b, x = .str a ∧ xs = [.str b] ∧ Q (.bl (Txt.startswith a b)) H) (RD X.K) (fun z y => startsD (.str z) y) :=
  m_str1 (g := fun a b => .bool (Txt.startswith a b)) mt_startswith (fun _ _ _ => .bl _) fun z y h => by cases y <;> first | exact ⟨_, rfl, rfl⟩ | exact (h rfl).elim
theorem ed_join {ma mb : Out PD} {apos : Pos} (ha : EP X W (RS X.K) a ρ ms cs ma) (hb : EP X W (RS X.K) b ρ ms cs mb) (hs : starEach [b] X.env = [(false, eval b X.env)] := by rfl) (hbase : attributeBase a "join" X.env (eval a X.env) = eval a X.env := by rfl) (hline : (apos.endLine == pos.line) = true := by rfl) :
    EP X W (RD X.K) (.Call (.Attribute a "join" apos) [b] [] pos) ρ ms cs (ma >>= fun x => asStr x >>= fun z => mb >>= fun y => joinD (.str z) y) := ep_m1 m_join PySem.F.slot_str_join PySem.F.type_str_join ha hb hs hbase hline
theorem xd_join {ma : Out (PD × List CO)} {mb : List CO → Out (PD × List CO)} {apos : Pos} (ha : EX X W (RS X.K) a ρ ms cs ma) (hb : ∀ cs1, EX X W (RS X.K) b ρ ms cs1 (mb cs1)) (hs : starEach [b] X.env = [(false, eval b X.env)] := by rfl) (hbase : attributeBase a "join" X.env (eval a X.env) = eval a X.env := by rfl) (hline : (apos.endLine == pos.line) = true := by rfl) :
    EX X W (RD X.K) (.Call (.Attribute a "join" apos) [b] [] pos) ρ ms cs (ma >>= fun x => asStr x.1 >>= fun z => mb x.2 >>= fun y => joinD (.str z) y.1 >>= fun w => .ok (w, y.2)) := ex_m1 m_join PySem.F.slot_str_join PySem.F.type_str_join ha hb hs hbase hline
theorem ed_starts {ma mb : Out PD} {apos : Pos} (ha : EP X W (RS X.K) a ρ ms cs ma) (hb : EP X W (RS X.K) b ρ ms cs mb) (hs : starEach [b] X.env = [(false, eval b X.env)] := by rfl) (hbase : attributeBase a "startswith" X.env (eval a X.env) = eval a X.env := by rfl) (hline : (apos.endLine == pos.line) = true := by rfl) :
    EP X W (RD X.K) (.Call (.Attribute a "startswith" apos) [b] [] pos) ρ ms cs (ma >>= fun x => asStr x >>= fun z => mb >>= fun y => startsD (.str z) y) := ep_m1 m_starts PySem.F.slot_str_startswith PySem.F.type_str_startswith ha hb hs hbase hline
end
end Dd
set_option Elab.async false
set_option linter.all false
set_option maxRecDepth 100000
set_option maxHeartbeats 2000000
namespace Dd
open PySem PySem.Spec PyProof.Rows L2

/-! ### what is walked -/
/-- the items ds are walked while the cells keep what Keep says -/
def ItOk (K : PySem.W.Frag) (ms : List Addr) (Keep : List CO → Prop) (G : Hp) (J : It) (ds : List PD) : Prop :=
  ∃ (Gp : Hp → Prop) (Y : Nat → Hp → V → Hp → Prop), Walk J ds.length Gp Y ∧
    (∀ G1 H1 cs1, Same G G1 → Same G1 H1 → CellsOk K G1 H1 ms cs1 → Keep cs1 → Gp H1) ∧
    ∀ i x H1 H2 G1 cs1, i < ds.length → Same G G1 → Same G1 H1 → CellsOk K G1 H1 ms cs1 → Keep cs1 → Y i H1 x H2 →
      Kept H1 H2 ∧ ∃ d G2, ds[i]? = some d ∧ Same G1 G2 ∧ Same G2 H2 ∧ (∀ b o, H1 b = some o → G1 b = none → G2 b = none) ∧ Dp K G2 x d
/-- what was known stays (pure), or is there -/
def Stay : Bool → Hp → Hp → Prop
  | true => Kept
  | false => There
theorem Stay.there {pu : Bool} {H H' : Hp} (s : Stay pu H H') : There H H' := by
  cases pu with
  | true => exact Kept.there s
  | false => exact s
theorem Stay.keep {pu : Bool} {H H1 H2 : Hp} (s : Stay pu H H1) (k : Kept H1 H2) : Stay pu H H2 := by
  cases pu with
  | true => exact Same.trans s k
  | false => exact There.trans s k.there
theorem Stay.refl {pu : Bool} {H : Hp} : Stay pu H H := by
  cases pu with
  | true => exact Same.refl _
  | false => exact Kept.there (Same.refl _)
def SemI (K : PySem.W.Frag) (mg : Str → Option Value) (W : XK) (pu : Bool) (wi : TI) (ρ : Rho) (ms : List Addr) (cs : List CO) (Keep : List PD → List CO → Prop) (m : Out (List PD × List CO)) : Prop :=
  ∀ (Γ : Gam K mg) (G : Hp) (σ : L2.St) (H : Hp) (R : It → Hp → Prop), Γ.W = W → Cfg Γ G ρ ms cs σ H → Res Γ.We m (fun b => ∀ J G' H', Same G G' → Cfg Γ G' ρ ms b.2 σ H' → Stay pu H H' → ItOk K ms (Keep b.1) G' J b.1 → R J H') → wi σ H R
def IX (X : Cx) (W : XK) (pu : Bool) (tg iter : Expr) (ρ : Rho) (ms : List Addr) (cs : List CO) (Keep : List PD → List CO → Prop) (m : Out (List PD × List CO)) : Prop := ∃ wi, PI X tg iter wi ∧ SemI X.K X.mg W pu wi ρ ms cs Keep m
abbrev KeepAll : List PD → List CO → Prop := fun _ _ => True
/-- the j-th cell stays -/
abbrev KeepAt (j : Nat) : List PD → List CO → Prop := fun ds cs => cs[j]? = some (.l ds)
section
variable {X : Cx} {W : XK} {tg iter e a b : Expr} {ρ : Rho} {ms : List Addr} {cs : List CO} {pos p : Pos}
theorem it_list {K : PySem.W.Frag} {G : Hp} {ad : Addr} {vs : List V} {ds : List PD} (h : SqL K G ad vs) (r : DpAll K G vs ds) : ItOk K ms (KeepAll ds) G (Itl K ad) ds := by
  refine ⟨fun H => SqL K H ad vs, YAt vs, by rw [← dpa_len r]; exact walk_list, fun G1 H1 cs1 g x _ _ => (g.trans x).seq h, fun i x H1 H2 G1 cs1 hi g ex _ _ y => ?_⟩
  obtain ⟨rfl, y⟩ := y
  obtain ⟨d, h1, h2⟩ := dpa_get' r y
  exact ⟨Same.refl _, d, G1, h1, Same.refl _, ex, fun _ _ _ n => n, dp_mono g h2⟩
theorem it_tup {K : PySem.W.Frag} {G : Hp} {ad : Addr} {vs : List V} {ds : List PD} (h : SqT K G ad vs) (r : DpAll K G vs ds) : ItOk K ms (KeepAll ds) G (Itt K ad) ds := by
  refine ⟨fun H => SqT K H ad vs, YAt vs, by rw [← dpa_len r]; exact walk_tup, fun G1 H1 cs1 g x _ _ => sqt_mono (g.trans x) h, fun i x H1 H2 G1 cs1 hi g ex _ _ y => ?_⟩
  obtain ⟨rfl, y⟩ := y
  obtain ⟨d, h1, h2⟩ := dpa_get' r y
  exact ⟨Same.refl _, d, G1, h1, Same.refl _, ex, fun _ _ _ n => n, dp_mono g h2⟩
theorem it_str {K : PySem.W.Frag} {G : Hp} {z : Str} : ItOk K ms (KeepAll (z.cps.toList.map fun c => .str ⟨#[c]⟩)) G (Its z) (z.cps.toList.map fun c => .str ⟨#[c]⟩) := by
  refine ⟨fun _ => True, _, by rw [List.length_map, Array.length_toList]; exact walk_str, fun _ _ _ _ _ _ _ => trivial, fun i x H1 H2 G1 cs1 hi g ex _ _ y => ?_⟩
  obtain ⟨rfl, c, y, rfl⟩ := y
  refine ⟨Same.refl _, .str ⟨#[c]⟩, G1, ?_, Same.refl _, ex, fun _ _ _ n => n, .str _⟩
  rw [List.getElem?_map, Array.getElem?_toList, y]
  rfl
theorem it_range {K : PySem.W.Frag} {G : Hp} {lo : Int} {n : Nat} : ItOk K ms (KeepAll ((List.range n).map fun i => .int (lo + (i : Nat)))) G (Itr lo n) ((List.range n).map fun i => .int (lo + (i : Nat))) := by
  refine ⟨fun _ => True, _, by rw [List.length_map, List.length_range]; exact walk_range, fun _ _ _ _ _ _ _ => trivial, fun i x H1 H2 G1 cs1 hi g ex _ _ y => ?_⟩
  obtain ⟨rfl, rfl⟩ := y
  rw [List.length_map, List.length_range] at hi
  refine ⟨Same.refl _, .int (lo + (i : Nat)), G1, ?_, Same.refl _, ex, fun _ _ _ n => n, .int _⟩
  rw [List.getElem?_map, List.getElem?_range hi]
  rfl
/-- the list of a cell -/
theorem it_cell {K : PySem.W.Frag} {G : Hp} {ad : Addr} {j : Nat} {ds : List PD} (h : ms[j]? = some ad) : ItOk K ms (KeepAt j ds) G (Itl K ad) ds := by
  refine ⟨fun H => ∃ vs, SqL K H ad vs ∧ vs.length = ds.length, fun i H x H' => H' = H ∧ ∀ xs, SqL K H ad xs → xs[i]? = some x,
    ⟨fun i H hi ⟨vs, q, n⟩ => ⟨vs, vs[i], q, by simp [n, hi]⟩, fun H ⟨vs, q, n⟩ => ⟨vs, q, by omega⟩, fun i H x H' _ _ y => y⟩, fun G1 H1 cs1 g x c k => ?_, fun i x H1 H2 G1 cs1 hi g ex c k y => ?_⟩
  · obtain ⟨_, vs, h1, h2⟩ := cells_get c h k
    exact ⟨vs, .inl (.inl h1), dpa_len h2⟩
  · obtain ⟨rfl, y⟩ := y
    obtain ⟨_, vs, h1, h2⟩ := cells_get c h k
    obtain ⟨d, h3, h4⟩ := dpa_get' h2 (y vs (.inl (.inl h1)))
    exact ⟨Same.refl _, d, G1, h3, Same.refl _, ex, fun _ _ _ n => n, h4⟩
/-- data of any kind that can be walked -/
def iData (K : PySem.W.Frag) (te : TE) (n : Nat) : TI := match n with
  | 0 => iList K te
  | 1 => iTup K te
  | _ => iStr te
def range2D : List PD → Out (List PD)
  | [u, v] => rangeD u v
  | _ => .bad
theorem ix_data {m : Out PD} (h : EP X W (RD X.K) iter ρ ms cs m) : IX X W true tg iter ρ ms cs KeepAll ((m >>= fun x => itemsD x) >>= fun ds => .ok (ds, cs)) := by
  rw [bind_bind]
  obtain ⟨te, h1, h2⟩ := h
  have run : PI X tg iter (fun σ H R => ∃ n, iData X.K te n σ H R) := ⟨fun pins s σ H R I hw => by
    obtain ⟨n, hw⟩ := hw
    match n, hw with
    | 0, hw => exact (pi_list h1).run pins s σ H R I hw
    | 1, hw => exact (pi_tup h1).run pins s σ H R I hw
    | n + 2, hw => exact (pi_str h1).run pins s σ H R I hw⟩
  refine ⟨_, run, fun Γ G σ H R hw c hr => ?_⟩
  have hb := hr.bind
  cases e : m with
  | bad => rw [e] at hb; exact hb.elim
  | err z fs =>
    refine ⟨0, h2 Γ G σ H _ hw c ?_⟩
    rw [e] at hb ⊢
    exact hb
  | ok x =>
    rw [e] at hb
    skip
    cases x <;> first
      | exact hb.elim
      | skip
    · rename_i z
      refine ⟨2, h2 Γ G σ H _ hw c ?_⟩
      rw [e]
      intro v G1 H1 g1 c1 k1 r1
      cases r1
      exact ⟨z, rfl, hb _ G1 H1 g1 c1 k1 it_str⟩
    · rename_i ds
      refine ⟨0, h2 Γ G σ H _ hw c ?_⟩
      rw [e]
      intro v G1 H1 g1 c1 k1 r1
      cases r1 with
      | lst q t => exact ⟨_, rfl, ⟨_, c1.ex.seq q⟩, hb _ G1 H1 g1 c1 k1 (it_list q t)⟩
    · rename_i ds
      refine ⟨1, h2 Γ G σ H _ hw c ?_⟩
      rw [e]
      intro v G1 H1 g1 c1 k1 r1
      cases r1 with
      | tup q t => exact ⟨_, rfl, ⟨_, sqt_mono c1.ex q⟩, hb _ G1 H1 g1 c1 k1 (it_tup q t)⟩
theorem ix_range1 {m : Out PD} (hm : X.mg "range" = none) (h : EP X W (RD X.K) a ρ ms cs m) (hg : Gl X "range" := by rfl) (hs : starEach [a] X.env = [(false, eval a X.env)] := by rfl) :
    IX X W true tg (.Call (.Name "range" p) [a] [] pos) ρ ms cs KeepAll ((m >>= fun x => rangeD (.int 0) x) >>= fun ds => .ok (ds, cs)) := by
  rw [bind_bind]
  obtain ⟨te, h1, h2⟩ := h
  refine ⟨_, pi_range1 hg hm (pa_cons h1 pa_nil hs) hs, fun Γ G σ H R hw c hr => h2 Γ G σ H _ hw c (hr.bind.mono fun x k v G1 H1 g1 c1 k1 r1 => ?_)⟩
  skip
  cases x <;> first
    | exact k.elim
    | skip
  rename_i n
  cases r1
  by_cases hn : -(2 ^ 62) ≤ (0 : Int) ∧ (0 : Int) < 2 ^ 62 ∧ -(2 ^ 62) ≤ n ∧ n < 2 ^ 62
  · have e : rangeD (.int 0) (.int n) = .ok ((List.range (n - 0).toNat).map fun i => .int (0 + (i : Nat))) := if_pos hn
    have k := k.bind
    rw [e] at k
    have e2 : (n - 0).toNat = n.toNat := by rw [Int.sub_zero]
    rw [e2] at k
    exact ⟨n, rfl, hn.2.2.1, hn.2.2.2, k _ G1 H1 g1 c1 k1 it_range⟩
  · have e : rangeD (.int 0) (.int n) = .bad := if_neg hn
    have k := k.bind
    rw [e] at k
    exact k.elim
theorem ix_range2 {m : Out (List PD)} (hm : X.mg "range" = none) (h : AP X W [a, b] ρ ms cs m) (hg : Gl X "range" := by rfl) (hs : starEach [a, b] X.env = [(false, eval a X.env), (false, eval b X.env)] := by rfl) (hs2 : starEach [b] X.env = [(false, eval b X.env)] := by rfl) :
    IX X W true tg (.Call (.Name "range" p) [a, b] [] pos) ρ ms cs KeepAll ((m >>= fun x => range2D x) >>= fun ds => .ok (ds, cs)) := by
  rw [bind_bind]
  obtain ⟨te, h1, h2⟩ := h
  refine ⟨_, pi_range2 hg hm h1 hs hs2, fun Γ G σ H R hw c hr => h2 Γ G σ H _ hw c (hr.bind.mono fun x k vs G1 H1 g1 c1 k1 r1 n1 => ?_)⟩
  skip
  match x, r1, k with
  | [u, v], .cons q1 (.cons q2 .nil), k =>
    cases u <;> first
      | exact k.elim
      | skip
    cases v <;> first
      | exact k.elim
      | skip
    rename_i i j
    cases q1
    cases q2
    by_cases hn : -(2 ^ 62) ≤ i ∧ i < 2 ^ 62 ∧ -(2 ^ 62) ≤ j ∧ j < 2 ^ 62
    · have e : range2D [.int i, .int j] = .ok ((List.range (j - i).toNat).map fun t => .int (i + (t : Nat))) := if_pos hn
      have k := k.bind
      rw [e] at k
      exact ⟨i, j, rfl, hn, k _ G1 H1 g1 c1 k1 it_range⟩
    · have e : range2D [.int i, .int j] = .bad := if_neg hn
      have k := k.bind
      rw [e] at k
      exact k.elim
  | [], _, k => exact k.elim
  | [_], _, k => exact k.elim
  | _ :: _ :: _ :: _, _, k => exact k.elim
theorem ix_dataX {m : Out (PD × List CO)} (h : EX X W (RD X.K) iter ρ ms cs m) : IX X W false tg iter ρ ms cs KeepAll (m >>= fun x => itemsD x.1 >>= fun ds => .ok (ds, x.2)) := by
  obtain ⟨te, h1, h2⟩ := h
  have run : PI X tg iter (fun σ H R => ∃ n, iData X.K te n σ H R) := ⟨fun pins s σ H R I hw => by
    obtain ⟨n, hw⟩ := hw
    match n, hw with
    | 0, hw => exact (pi_list h1).run pins s σ H R I hw
    | 1, hw => exact (pi_tup h1).run pins s σ H R I hw
    | n + 2, hw => exact (pi_str h1).run pins s σ H R I hw⟩
  refine ⟨_, run, fun Γ G σ H R hw c hr => ?_⟩
  have hb := hr.bind
  cases e : m with
  | bad => rw [e] at hb; exact hb.elim
  | err z fs =>
    refine ⟨0, h2 Γ G σ H _ hw c ?_⟩
    rw [e] at hb ⊢
    exact hb
  | ok x =>
    rw [e] at hb
    obtain ⟨x, cs1⟩ := x
    cases x <;> first
      | exact hb.elim
      | skip
    · rename_i z
      refine ⟨2, h2 Γ G σ H _ hw c ?_⟩
      rw [e]
      intro v G1 H1 g1 c1 k1 r1
      cases r1
      exact ⟨z, rfl, hb _ G1 H1 g1 c1 k1 it_str⟩
    · rename_i ds
      refine ⟨0, h2 Γ G σ H _ hw c ?_⟩
      rw [e]
      intro v G1 H1 g1 c1 k1 r1
      cases r1 with
      | lst q t => exact ⟨_, rfl, ⟨_, c1.ex.seq q⟩, hb _ G1 H1 g1 c1 k1 (it_list q t)⟩
    · rename_i ds
      refine ⟨1, h2 Γ G σ H _ hw c ?_⟩
      rw [e]
      intro v G1 H1 g1 c1 k1 r1
      cases r1 with
      | tup q t => exact ⟨_, rfl, ⟨_, sqt_mono c1.ex q⟩, hb _ G1 H1 g1 c1 k1 (it_tup q t)⟩
theorem ix_range1X {m : Out (PD × List CO)} (hm : X.mg "range" = none) (h : EX X W (RD X.K) a ρ ms cs m) (hg : Gl X "range" := by rfl) (hs : starEach [a] X.env = [(false, eval a X.env)] := by rfl) :
    IX X W false tg (.Call (.Name "range" p) [a] [] pos) ρ ms cs KeepAll (m >>= fun x => rangeD (.int 0) x.1 >>= fun ds => .ok (ds, x.2)) := by
  obtain ⟨te, h1, h2⟩ := h
  refine ⟨_, pi_range1 hg hm (pa_cons h1 pa_nil hs) hs, fun Γ G σ H R hw c hr => h2 Γ G σ H _ hw c (hr.bind.mono fun x k v G1 H1 g1 c1 k1 r1 => ?_)⟩
  obtain ⟨x, cs1⟩ := x
  cases x <;> first
    | exact k.elim
    | skip
  rename_i n
  cases r1
  by_cases hn : -(2 ^ 62) ≤ (0 : Int) ∧ (0 : Int) < 2 ^ 62 ∧ -(2 ^ 62) ≤ n ∧ n < 2 ^ 62
  · have e : rangeD (.int 0) (.int n) = .ok ((List.range (n - 0).toNat).map fun i => .int (0 + (i : Nat))) := if_pos hn
    have k := k.bind
    rw [e] at k
    have e2 : (n - 0).toNat = n.toNat := by rw [Int.sub_zero]
    rw [e2] at k
    exact ⟨n, rfl, hn.2.2.1, hn.2.2.2, k _ G1 H1 g1 c1 k1 it_range⟩
  · have e : rangeD (.int 0) (.int n) = .bad := if_neg hn
    have k := k.bind
    rw [e] at k
    exact k.elim
theorem ix_range2X {m : Out (List PD × List CO)} (hm : X.mg "range" = none) (h : AX X W [a, b] ρ ms cs m) (hg : Gl X "range" := by rfl) (hs : starEach [a, b] X.env = [(false, eval a X.env), (false, eval b X.env)] := by rfl) (hs2 : starEach [b] X.env = [(false, eval b X.env)] := by rfl) :
    IX X W false tg (.Call (.Name "range" p) [a, b] [] pos) ρ ms cs KeepAll (m >>= fun x => range2D x.1 >>= fun ds => .ok (ds, x.2)) := by
  obtain ⟨te, h1, h2⟩ := h
  refine ⟨_, pi_range2 hg hm h1 hs hs2, fun Γ G σ H R hw c hr => h2 Γ G σ H _ hw c (hr.bind.mono fun x k vs G1 H1 g1 c1 k1 r1 n1 => ?_)⟩
  obtain ⟨x, cs1⟩ := x
  match x, r1, k with
  | [u, v], .cons q1 (.cons q2 .nil), k =>
    cases u <;> first
      | exact k.elim
      | skip
    cases v <;> first
      | exact k.elim
      | skip
    rename_i i j
    cases q1
    cases q2
    by_cases hn : -(2 ^ 62) ≤ i ∧ i < 2 ^ 62 ∧ -(2 ^ 62) ≤ j ∧ j < 2 ^ 62
    · have e : range2D [.int i, .int j] = .ok ((List.range (j - i).toNat).map fun t => .int (i + (t : Nat))) := if_pos hn
      have k := k.bind
      rw [e] at k
      exact ⟨i, j, rfl, hn, k _ G1 H1 g1 c1 k1 it_range⟩
    · have e : range2D [.int i, .int j] = .bad := if_neg hn
      have k := k.bind
      rw [e] at k
      exact k.elim
  | [], _, k => exact k.elim
  | [_], _, k => exact k.elim
  | _ :: _ :: _ :: _, _, k => exact k.elim
theorem ix_cell (i j : Nat) {x : Str} {ad : Addr} {ds : List PD} (h : ρ[i]? = some (some (.c ad)) := by rfl) (h1 : ms[j]? = some ad := by rfl) (h2 : cs[j]? = some (.l ds) := by rfl) (hN : X.N[i]? = some x := by rfl)
    (hv : Vis X.env.scope x := by first | exact Or.inl rfl | exact Or.inr (Or.inl rfl) | exact Or.inr (Or.inr rfl)) (hd : (x == ("__debug__" : Str)) = false := by decide) (hcd : (x == ("__classdict__" : Str)) = false := by decide) :
    IX X W true tg (.Name x p) ρ ms cs (KeepAt j) ((.ok ds : Out (List PD)) >>= fun ds => .ok (ds, cs)) := by
  refine ⟨_, pi_list (pe_var hN hv hd hcd), fun Γ G σ H R hw c hr => ?_⟩
  obtain ⟨v, h3, h4⟩ := env_get c.env h
  obtain ⟨g, vs, h5, h6⟩ := cells_get c.cells h1 h2
  exact ⟨v, h3, ad, h4, ⟨vs, .inl (.inl h5)⟩, hr _ G H (Same.refl _) c (Same.refl _) (it_cell h1)⟩
theorem IX.x {Keep : List PD → List CO → Prop} {m : Out (List PD × List CO)} (h : IX X W true tg iter ρ ms cs Keep m) : IX X W false tg iter ρ ms cs Keep m := by
  obtain ⟨wi, h1, h2⟩ := h
  exact ⟨wi, h1, fun Γ G σ H R hw c hr => h2 Γ G σ H R hw c (hr.mono fun b k J G' H' g c' st i => k J G' H' g c' (Kept.there st) i)⟩
/-! ### targets -/
/-- storing d: the slots behind it -/
def TgOk (X : Cx) (tg : Expr) (vs : List Nat) (u : PD → Rho → Out Rho) : Prop := ∃ g, PG X tg g ∧ ∀ (Γ : Gam X.K X.mg) (G : Hp) (ρ : Rho) (ms : List Addr) (cs : List CO) (σ : L2.St) (H : Hp) (v : V) (d : PD) (Q : L2.St → Hp → Prop), Cfg Γ G ρ ms cs σ H → Dp X.K G v d →
  Res (fun _ _ => False) (u d ρ) (fun ρ' => ∀ σ', Cfg Γ G ρ' ms cs σ' H → (∀ j, j ∉ vs → σ'[j]? = σ[j]?) → σ'.length = σ.length → Q σ' H) → g v σ H Q
theorem Cfg.env' {K : PySem.W.Frag} {mg : Str → Option Value} {Γ : Gam K mg} {G H : Hp} {σ σ' : L2.St} {ρ' : Rho} (c : Cfg Γ G ρ ms cs σ H) (e : EnvOk K G ρ' σ') : Cfg Γ G ρ' ms cs σ' H := ⟨c.ex, c.cells, e, c.grow, c.loc⟩
theorem tg_name (i : Nat) {x : Str} (hN : X.N.Nodup) (hi : X.N[i]? = some x := by rfl) (hx : Loc X.env.scope x := by first | exact Or.inl rfl | exact Or.inr rfl) (hf : X.fn x = true ∨ X.env.scope.names.lookup x = some .local := by first | exact .inl rfl | exact .inr rfl) : TgOk X (.Name x pos) [i] (fun d ρ => .ok (ρ.set i (some (.d d)))) := by
  refine ⟨_, pg_name hN hi hx hf, fun Γ G ρ ms cs σ H v d Q c hd hr => ?_⟩
  refine hr _ (c.env' (env_set c.env (av := .d d) hd i)) (fun j hj => ?_) (by rw [List.length_set])
  rw [List.getElem?_set_ne (fun z => hj (by simp [z]))]

/-! ### comprehensions -/
def noErr {α : Type} (m : Out α) : Out α := match m with
  | .err _ _ => .bad
  | .ok a => .ok a
  | .bad => .bad
@[simp] theorem noErr_ok {α : Type} (a : α) : noErr (.ok a) = .ok a := rfl
theorem noErr_res {α : Type} {We We' : WE} {m : Out α} {P : α → Prop} (h : Res We (noErr m) P) : Res We' m P := by
  cases m with
  | ok a => exact h
  | err c fs => exact h.elim
  | bad => exact h.elim
theorem noErr_res2 {α : Type} {We We' : WE} {m : Out α} {P : α → Prop} (h : Res We (noErr m) P) : Res We' (noErr m) P := by
  cases m with
  | ok a => exact h
  | err c fs => exact h.elim
  | bad => exact h.elim
def optC (r : Option PD) (t : List PD) : List PD := match r with
  | some x => x :: t
  | none => t
def compP (f : PD → Out (Option PD)) : List PD → Out (List PD)
  | [] => .ok []
  | d :: ds => noErr (f d) >>= fun r => compP f ds >>= fun t => .ok (optC r t)
def compX (f : PD → List CO → Out (Option PD × List CO)) : List PD → List CO → Out (List PD × List CO)
  | [], cs => .ok ([], cs)
  | d :: ds, cs => noErr (f d cs) >>= fun r => compX f ds r.2 >>= fun t => .ok (optC r.1 t.1, t.2)
def lineD (ds : List PD) : Out (List PD) := if ds.length ≤ sizeLine then .ok ds else .bad
theorem lineD_ok {ds : List PD} (h : ds.length ≤ sizeLine) : lineD ds = .ok ds := if_pos h
abbrev Blk (X : Cx) (scope : Scope) (s : Shared) (H : Hp) (C : Addr) (cl : List (Str × Addr)) (fp : List Addr) : Cx := X.blk s H scope (compEnvC scope cl C X.env) fp
def TsP (X : Cx) (W : XK) (ifs : List Expr) (ρ : Rho) (ms : List Addr) (cs : List CO) (m : Out Bool) : Prop := ∃ tt, PTs X ifs tt ∧ SemT X.K X.mg W tt ρ ms cs m
def TsX (X : Cx) (W : XK) (ifs : List Expr) (ρ : Rho) (ms : List Addr) (cs : List CO) (m : Out (Bool × List CO)) : Prop := ∃ tt, PTs X ifs tt ∧ SemTX X.K X.mg W tt ρ ms cs m
theorem ts_nil : TsP X W [] ρ ms cs (.ok true) := ⟨_, pts_nil, fun Γ G σ H Q hw c hr => hr G H (Same.refl _) c (Same.refl _)⟩
theorem ts_one {m : Out Bool} (h : TP X W e ρ ms cs m) : TsP X W [e] ρ ms cs m := by
  obtain ⟨t, h1, h2⟩ := h
  exact ⟨t, pts_one h1, h2⟩
theorem TsP.x {ifs : List Expr} {m : Out Bool} (h : TsP X W ifs ρ ms cs m) : TsX X W ifs ρ ms cs (m >>= fun b => .ok (b, cs)) := by
  obtain ⟨te, h1, h2⟩ := h
  exact ⟨te, h1, fun Γ G σ H Q hw c hr => h2 Γ G σ H Q hw c (hr.bind.mono fun b k G' H' g c' kp => k G' H' g c' kp.there)⟩
theorem tsx_nil : TsX X W [] ρ ms cs (.ok (true, cs)) := ⟨_, pts_nil, fun Γ G σ H Q hw c hr => hr G H (Same.refl _) c (Kept.there (Same.refl _))⟩
theorem tsx_one {m : Out (Bool × List CO)} (h : TX X W e ρ ms cs m) : TsX X W [e] ρ ms cs m := by
  obtain ⟨t, h1, h2⟩ := h
  exact ⟨t, pts_one h1, h2⟩
structure BC where
  s : Shared
  H : Hp
  C : Addr
  cl : List (Str × Addr)
  fp : List Addr
section
variable {scope : Scope} {ι : Type} {ρf : ι → Rho}
theorem blk_te {R : VR PD} {m : ι → Out PD} (h : ∀ s H C cl fp t, EP (Blk X scope s H C cl fp) W R e (ρf t) ms cs (m t)) : ∃ te, (∀ s H C cl fp, PE (Blk X scope s H C cl fp) e te) ∧ ∀ t, SemP X.K X.mg W te R (ρf t) ms cs (m t) := by
  have q : ∀ (c : BC × ι), ∃ te, PE (Blk X scope c.1.s c.1.H c.1.C c.1.cl c.1.fp) e te ∧ SemP X.K X.mg W te R (ρf c.2) ms cs (m c.2) := fun c => h c.1.s c.1.H c.1.C c.1.cl c.1.fp c.2
  refine ⟨fun σ H Q => ∀ c, ∃ t, (q (c, t)).choose σ H Q, fun s H C cl fp => ⟨fun pins s' σ H' Q I hw => ?_⟩, fun t Γ G σ H Q hw c hr bc => ⟨t, (q (bc, t)).choose_spec.2 Γ G σ H Q hw c hr⟩⟩
  obtain ⟨t, hw⟩ := hw ⟨s, H, C, cl, fp⟩
  exact (q (⟨s, H, C, cl, fp⟩, t)).choose_spec.1.run pins s' σ H' Q I hw
theorem blk_tt {ifs : List Expr} {m : ι → Out Bool} (h : ∀ s H C cl fp t, TsP (Blk X scope s H C cl fp) W ifs (ρf t) ms cs (m t)) : ∃ tt, (∀ s H C cl fp, PTs (Blk X scope s H C cl fp) ifs tt) ∧ ∀ t, SemT X.K X.mg W tt (ρf t) ms cs (m t) := by
  have q : ∀ (c : BC × ι), ∃ tt, PTs (Blk X scope c.1.s c.1.H c.1.C c.1.cl c.1.fp) ifs tt ∧ SemT X.K X.mg W tt (ρf c.2) ms cs (m c.2) := fun c => h c.1.s c.1.H c.1.C c.1.cl c.1.fp c.2
  refine ⟨fun σ H Q => ∀ c, ∃ t, (q (c, t)).choose σ H Q, fun s H C cl fp => ⟨fun pins s' σ H' Q I hw => ?_⟩, fun t Γ G σ H Q hw c hr bc => ⟨t, (q (bc, t)).choose_spec.2 Γ G σ H Q hw c hr⟩⟩
  obtain ⟨t, hw⟩ := hw ⟨s, H, C, cl, fp⟩
  exact (q (⟨s, H, C, cl, fp⟩, t)).choose_spec.1.run pins s' σ H' Q I hw
theorem blk_teX {R : VR PD} {m : ι → List CO → Out (PD × List CO)} (h : ∀ s H C cl fp t cs, EX (Blk X scope s H C cl fp) W R e (ρf t) ms cs (m t cs)) : ∃ te, (∀ s H C cl fp, PE (Blk X scope s H C cl fp) e te) ∧ ∀ t cs, SemX X.K X.mg W te R (ρf t) ms cs (m t cs) := by
  have q : ∀ (c : BC × ι × List CO), ∃ te, PE (Blk X scope c.1.s c.1.H c.1.C c.1.cl c.1.fp) e te ∧ SemX X.K X.mg W te R (ρf c.2.1) ms c.2.2 (m c.2.1 c.2.2) := fun c => h c.1.s c.1.H c.1.C c.1.cl c.1.fp c.2.1 c.2.2
  refine ⟨fun σ H Q => ∀ c, ∃ t, (q (c, t)).choose σ H Q, fun s H C cl fp => ⟨fun pins s' σ H' Q I hw => ?_⟩, fun t cs Γ G σ H Q hw c hr bc => ⟨(t, cs), (q (bc, t, cs)).choose_spec.2 Γ G σ H Q hw c hr⟩⟩
  obtain ⟨t, hw⟩ := hw ⟨s, H, C, cl, fp⟩
  exact (q (⟨s, H, C, cl, fp⟩, t)).choose_spec.1.run pins s' σ H' Q I hw
theorem blk_ttX {ifs : List Expr} {m : ι → List CO → Out (Bool × List CO)} (h : ∀ s H C cl fp t cs, TsX (Blk X scope s H C cl fp) W ifs (ρf t) ms cs (m t cs)) : ∃ tt, (∀ s H C cl fp, PTs (Blk X scope s H C cl fp) ifs tt) ∧ ∀ t cs, SemTX X.K X.mg W tt (ρf t) ms cs (m t cs) := by
  have q : ∀ (c : BC × ι × List CO), ∃ tt, PTs (Blk X scope c.1.s c.1.H c.1.C c.1.cl c.1.fp) ifs tt ∧ SemTX X.K X.mg W tt (ρf c.2.1) ms c.2.2 (m c.2.1 c.2.2) := fun c => h c.1.s c.1.H c.1.C c.1.cl c.1.fp c.2.1 c.2.2
  refine ⟨fun σ H Q => ∀ c, ∃ t, (q (c, t)).choose σ H Q, fun s H C cl fp => ⟨fun pins s' σ H' Q I hw => ?_⟩, fun t cs Γ G σ H Q hw c hr bc => ⟨(t, cs), (q (bc, t, cs)).choose_spec.2 Γ G σ H Q hw c hr⟩⟩
  obtain ⟨t, hw⟩ := hw ⟨s, H, C, cl, fp⟩
  exact (q (⟨s, H, C, cl, fp⟩, t)).choose_spec.1.run pins s' σ H' Q I hw
theorem blk_tg {tg : Expr} {vs : List Nat} {u : PD → Rho → Out Rho} (h : ∀ s H C cl fp, TgOk (Blk X scope s H C cl fp) tg vs u) : ∃ g, (∀ s H C cl fp, PG (Blk X scope s H C cl fp) tg g) ∧ ∀ (Γ : Gam X.K X.mg) (G : Hp) (ρ : Rho) (ms : List Addr) (cs : List CO) (σ : L2.St) (H : Hp) (v : V) (d : PD) (Q : L2.St → Hp → Prop), Cfg Γ G ρ ms cs σ H → Dp X.K G v d →
  Res (fun _ _ => False) (u d ρ) (fun ρ' => ∀ σ', Cfg Γ G ρ' ms cs σ' H → (∀ j, j ∉ vs → σ'[j]? = σ[j]?) → σ'.length = σ.length → Q σ' H) → g v σ H Q := by
  have q : ∀ (c : BC), TgOk (Blk X scope c.s c.H c.C c.cl c.fp) tg vs u := fun c => h c.s c.H c.C c.cl c.fp
  refine ⟨fun v σ H Q => ∀ c, (q c).choose v σ H Q, fun s H C cl fp => ⟨fun pins s' σ H' v u' Q I r hw => ?_⟩, fun Γ G ρ ms cs σ H v d Q c hd hr bc => (q bc).choose_spec.2 Γ G ρ ms cs σ H v d Q c hd hr⟩
  exact (q ⟨s, H, C, cl, fp⟩).choose_spec.1.run pins s' σ H' v u' Q I r (hw ⟨s, H, C, cl, fp⟩)
end
/-- a list of ours that is not known yet is changed -/
theorem Cfg.mut {K : PySem.W.Frag} {mg : Str → Option Value} {Γ : Gam K mg} {G H : Hp} {σ : L2.St} {ρ : Rho} (c : Cfg Γ G ρ ms cs σ H) {D : Addr} {o : HO} (g : G D = none) (n : D ∉ ms) (h0 : Γ.H D = none) : Cfg Γ G ρ ms cs σ (upd H D o) where
  ex := fun b x e => by
    rw [upd_ne (ne_of_none e g)]
    exact c.ex b x e
  cells := cells_to c.cells (Same.refl _) (fun a m => (cells_mem c.cells m).1) fun a m o' h => by
    rw [upd_ne (fun z => n (by rw [← z]; exact m))]
    exact h
  env := c.env
  grow := ⟨c.grow.gg, fun b x nb h => by
    rw [upd_ne (ne_of_none h h0)]
    exact c.grow.hh b x nb h, fun b x h => by
    rw [upd_ne (ne_of_none h h0)]
    exact c.grow.th b x h, c.grow.nw⟩
  loc := c.loc
theorem wipe_same {σ σ' : L2.St} : ∀ (vs : List Nat), (∀ j, j ∉ vs → σ'[j]? = σ[j]?) → σ'.length = σ.length → wipe σ' vs = wipe σ vs := by
  intro vs h hl
  apply List.ext_getElem?
  intro i
  have len : ∀ (τ : L2.St) (ws : List Nat), (wipe τ ws).length = τ.length := fun τ ws => wipe_length τ ws
  by_cases hi : i ∈ vs
  · have q : ∀ (τ : L2.St) (ws : List Nat), i ∈ ws → (wipe τ ws)[i]? = if i < τ.length then some none else none := by
      intro τ ws
      induction ws with
      | nil => intro h; simp at h
      | cons v ws ih =>
        intro h
        show ((wipe τ ws).set v none)[i]? = _
        by_cases hv : v = i
        · subst hv
          by_cases hl : v < τ.length
          · rw [List.getElem?_set_self (by rw [len]; exact hl), if_pos hl]
          · rw [List.getElem?_eq_none (by rw [List.length_set, len]; omega), if_neg hl]
        · rw [List.getElem?_set_ne hv]
          exact ih (by simpa [Ne.symm hv] using h)
    rw [q _ _ hi, q _ _ hi, hl]
  · have q : ∀ (τ : L2.St) (ws : List Nat), i ∉ ws → (wipe τ ws)[i]? = τ[i]? := fun τ ws hn => wipe_out hn
    rw [q _ _ hi, q _ _ hi, h i hi]
end
end Dd
set_option Elab.async false
set_option linter.all false
set_option maxRecDepth 100000
set_option maxHeartbeats 2000000
namespace Dd
open PySem PySem.Spec PyProof.Rows L2
section
variable {X : Cx} {W : XK} {tg iter elt e : Expr} {ifs : List Expr} {ρ : Rho} {ms : List Addr} {cs : List CO} {pos p : Pos} {scope : Scope} {own : List (Str × Nat)}
/-- the wish within: no error; reckoned from here -/
def Gam.at {K : PySem.W.Frag} {mg : Str → Option Value} (G H : Hp) (ms : List Addr) : Gam K mg := ⟨G, H, ms, fun _ _ => False, E0, fun _ _ _ _ _ _ h => h.elim⟩
theorem Cfg.here {K : PySem.W.Frag} {mg : Str → Option Value} {Γ : Gam K mg} {G H : Hp} {σ : L2.St} (c : Cfg Γ G ρ ms cs σ H) : Cfg (Gam.at (K := K) (mg := mg) G H ms) G ρ ms cs σ H := ⟨c.ex, c.cells, c.env, Grow.refl, fun _ m => .inl m⟩
theorem Cfg.rejoin {K : PySem.W.Frag} {mg : Str → Option Value} {Γ Γ' : Gam K mg} {G H G' H' : Hp} {σ σ' : L2.St} {ρ' : Rho} {cs' : List CO} (c : Cfg Γ G ρ ms cs σ H) (e1 : Γ'.G = G) (e2 : Γ'.H = H) (e3 : Γ'.ms = ms) (c' : Cfg Γ' G' ρ' ms cs' σ' H') : Cfg Γ G' ρ ms cs' σ H' := by
  obtain ⟨x, cl, en, ⟨gg, hh, th, nw⟩, _⟩ := c'
  rw [e1, e2] at *
  rw [e3] at hh
  refine ⟨x, cl, env_mono gg c.env, ⟨c.grow.gg.trans gg, fun b o n h => hh b o (fun m => ?_) (c.grow.hh b o n h), fun b o h => ?_, fun b o h n => ?_⟩, c.loc⟩
  · rcases c.loc b m with z | z
    · exact n z
    · rw [z] at h; cases h
  · obtain ⟨o', h'⟩ := c.grow.th b o h
    exact th b o' h'
  · obtain ⟨o', h'⟩ := c.grow.th b o h
    exact nw b o' h' (c.grow.nw b o h n)
theorem wipe_wipe (σ : L2.St) (ws : List Nat) : wipe (wipe σ ws) ws = wipe σ ws := by
  refine List.ext_getElem? fun q => ?_
  by_cases hq : q ∈ ws
  · have z : ∀ (τ : L2.St) (us : List Nat), q ∈ us → (wipe τ us)[q]? = if q < τ.length then some none else none := by
      intro τ us
      induction us with
      | nil => intro h; simp at h
      | cons v us ih =>
        intro h
        show ((wipe τ us).set v none)[q]? = _
        by_cases hv : v = q
        · subst hv
          by_cases hl : v < τ.length
          · rw [List.getElem?_set_self (by rw [wipe_length]; exact hl), if_pos hl]
          · rw [List.getElem?_eq_none (by rw [List.length_set, wipe_length]; omega), if_neg hl]
        · rw [List.getElem?_set_ne hv]
          exact ih (by simpa [Ne.symm hv] using h)
    rw [z _ _ hq, z _ _ hq, wipe_length]
  · rw [wipe_out hq]
theorem drop_at {ds : List PD} {i : Nat} {d : PD} (h : ds[i]? = some d) : ds.drop i = d :: ds.drop (i + 1) := by
  obtain ⟨hi, e⟩ := List.getElem?_eq_some_iff.mp h
  rw [List.drop_eq_getElem_cons hi, e]
/-- the parts of a comprehension, told together -/
def LCP (X : Cx) (W : XK) (scope : Scope) (own : List (Str × Nat)) (tg iter : Expr) (ifs : List Expr) (elt : Expr) (ρ : Rho) (ms : List Addr) (cs : List CO) (m : Out (List PD)) : Prop :=
  ∃ wi g tt te, PI X tg iter wi ∧ (∀ s H C cl fp, PG (Blk X scope s H C cl fp) tg g) ∧ (∀ s H C cl fp, PTs (Blk X scope s H C cl fp) ifs tt) ∧ (∀ s H C cl fp, PE (Blk X scope s H C cl fp) elt te) ∧ SemP X.K X.mg W (tLc wi g tt te (own.map (·.2))) (RL X.K) ρ ms cs m
theorem lc_ofP {ι : Type} {un : PD → Out ι} {ρf : ι → Rho} {u : PD → Rho → Out Rho} {Keep : List PD → List CO → Prop} {mi : Out (List PD)} {mt : ι →  Out Bool} {me : ι →  Out PD}
    (hi : IX X W true tg iter ρ ms cs Keep (mi >>= fun ds => .ok (ds, cs))) (hg : ∀ s H C cl fp, TgOk (Blk X scope s H C cl fp) tg (own.map (·.2)) u) (hu : ∀ d, u d (wipeR ρ (own.map (·.2))) = (un d >>= fun t => .ok (ρf t)))
    (ht : ∀ s H C cl fp t , TsP (Blk X scope s H C cl fp) E0 ifs (ρf t) ms cs (mt t )) (he : ∀ s H C cl fp t , EP (Blk X scope s H C cl fp) E0 (RD X.K) elt (ρf t) ms cs (me t )) (hk : ∀ ds, mi = .ok ds → Keep ds cs) :
    LCP X W scope own tg iter ifs elt ρ ms cs (mi >>= fun ds => lineD ds >>= fun ds => compP (fun d => un d >>= fun t => mt t >>= fun b => if b then me t >>= fun x => .ok (some x) else .ok none) ds) := by
  obtain ⟨wi, i1, i2⟩ := hi
  obtain ⟨g, g1, g2⟩ := blk_tg hg
  obtain ⟨tt, t1, t2⟩ := blk_tt ht
  obtain ⟨te, e1, e2⟩ := blk_te he
  refine ⟨wi, g, tt, te, i1, g1, t1, e1, fun Γ G σ H Q hw c hr => i2 Γ G σ H _ hw c ?_⟩
  cases emi : mi with
  | bad => rw [emi] at hr; exact hr.elim
  | err z fs => rw [emi] at hr; exact hr
  | ok ds =>
  rw [emi] at hr
  have hr : Res Γ.We (lineD ds >>= fun ds => compP (fun d => un d >>= fun t => mt t >>= fun b => if b then me t >>= fun x => .ok (some x) else .ok none) ds) _ := hr
  intro J G1 H1 gg1 c1 st it D hD
  obtain ⟨Gp, Y, w, w1, w2⟩ := it
  by_cases hz : ds.length ≤ sizeLine
  case neg => rw [lineD, if_neg hz] at hr; exact hr.elim
  rw [lineD_ok hz] at hr
  have gD : G1 D = none := There.free (Kept.there c1.ex) hD
  obtain ⟨nD, oD⟩ := fresh_ok c1 hD
  have hH : H D = none := There.free (Stay.there (pu := true) st) hD
  refine lc_it w (Qd := fun H' => Q (.ref D) H') (fun i H' => ∃ G2 vs acc , Same G1 G2 ∧ Cfg Γ G2 ρ ms cs σ H' ∧ Kept H1 H' ∧ H' D = some (.lst vs) ∧ DpAll X.K G2 vs acc ∧ G2 D = none ∧ acc.length ≤ i ∧  Res Γ.We (compP (fun d => un d >>= fun t => mt t >>= fun b => if b then me t >>= fun x => .ok (some x) else .ok none) (ds.drop i) ) (fun t => ∀ v G' H', Same G G' → Cfg Γ G' ρ ms cs σ H' → Kept H H' → RL X.K H G' H' v (acc ++ t) → Q v H'))
    ?h0 ?hG ?hs ?hd
  case h0 =>
    refine ⟨G1, [], [],  Same.refl _, c1.mut gD nD oD,  (same_new hD), upd_same, .nil, gD, Nat.le_refl _,  ?_⟩
    exact hr
  case hG =>
    rintro i H' hi' ⟨G2, vs, acc,  s2, c2, k2, hl, hd, gd, ln, r2⟩
    exact w1 G2 H' _ s2 c2.ex c2.cells (hk ds emi)
  case hd =>
    rintro H' ⟨G2, vs, acc,  s2, c2, k2, hl, hd, gd, ln, r2⟩
    rw [List.drop_length] at r2
    exact r2 (.ref D) G2 H' (gg1.trans s2) c2 (Same.trans st k2) ⟨D, vs, rfl, hH, gd, hl, by rw [List.append_nil]; exact hd⟩
  case hs =>
    rintro i x H2 H3 hi' ⟨G2, vs, acc,  s2, c2, k2, hl, hd, gd, ln, r2⟩ y
    obtain ⟨k3, d, G3, ed, s3, x3, n3, dx⟩ := w2 i x H2 H3 G2 _ hi' s2 c2.ex c2.cells (hk ds emi) y
    have c3 := c2.keep s3 k3 x3 n3
    have gd3 : G3 D = none := n3 D _ hl gd
    have hl3 := k3 _ _ hl
    rw [drop_at ed] at r2
    have r3 := noErr_res (We' := fun _ _ => False) (Res.bind r2)
    have r4 := Res.bind r3
    have cw : Cfg (Gam.at (K := X.K) (mg := X.mg) G3 H3 ms) G3 (wipeR ρ (own.map (·.2))) ms cs (wipe σ (own.map (·.2))) H3 := c3.here.env' (env_wipe c3.env _)
    refine g2 (Gam.at G3 H3 ms) G3 _ ms cs _ H3 x d _ cw dx ?_
    rw [hu d]
    cases eu : un d with
    | bad => rw [eu] at r4; exact r4.elim
    | err z fs => rw [eu] at r4; exact r4
    | ok t =>
      rw [eu] at r4
      intro σ2 c4 hj hl2
      refine ⟨?_, ?_⟩
      · rw [wipe_same _ hj hl2]
        exact wipe_wipe _ _
      · have r5 := Res.bind (show Res (fun _ _ => False) (mt t  >>= fun b => if b then me t >>= fun x => .ok (some x) else .ok none) _ from r4)
        refine t2 t  (Gam.at G3 H3 ms) G3 σ2 H3 _ rfl c4 (r5.mono fun b r6 G4 H4 g4 c5 k4 => ?_)
        skip
        cases b with
        | false =>
          have hl4 := c5.grow.hh D _ nD hl3
          have gd4 := c5.grow.nw D _ hl3 gd3
          exact ⟨G4, vs, acc,  s2.trans (s3.trans g4), c3.rejoin rfl rfl rfl c5, k2.trans (k3.trans k4), hl4, dpa_mono (s3.trans g4) hd, gd4, Nat.le_succ_of_le ln, Res.bind r6⟩
        | true =>
          have r7 := Res.bind (show Res (fun _ _ => False) (me t  >>= fun x => .ok (some x)) _ from r6)
          refine e2 t  (Gam.at G3 H3 ms) G4 σ2 H4 _ rfl c5 (r7.mono fun z r8 v5 G5 H5 g5 c6 k5 dv => ?_)
          skip
          have hl5 := c6.grow.hh D _ nD hl3
          have gd5 := c6.grow.nw D _ hl3 gd3
          have hlen : vs.length < sizeLine := by
            have hi2 : i < ds.length := hi'
            rw [dpa_len hd]
            omega
          refine ⟨vs, hl5, hlen, G5, vs ++ [v5], acc ++ [z],  s2.trans (s3.trans (g4.trans g5)), (c3.rejoin rfl rfl rfl c6).mut gd5 nD oD, fun b o hb => by rw [upd_ne (ne_of_none hb hD)]; exact k5 _ _ (k4 _ _ (k3 _ _ (k2 _ _ hb))), upd_same, dpa_append (dpa_mono (s3.trans (g4.trans g5)) hd) (.cons dv .nil), gd5, by rw [List.length_append]; show acc.length + 1 ≤ i + 1; omega, ?_⟩
          have r9 := Res.bind (show Res Γ.We (compP (fun d => un d >>= fun t => mt t >>= fun b => if b then me t >>= fun x => .ok (some x) else .ok none) (ds.drop (i + 1))  >>= fun t => .ok (optC (some z) t)) _ from r8)
          refine r9.mono fun t h v G' H' a1 a2 a3 a4 => h v G' H' a1 a2 a3 ?_
          rw [List.append_assoc] at a4
          exact a4
/-- the parts of a comprehension, told together -/
def LCX (X : Cx) (W : XK) (scope : Scope) (own : List (Str × Nat)) (tg iter : Expr) (ifs : List Expr) (elt : Expr) (ρ : Rho) (ms : List Addr) (cs : List CO) (m : Out (List PD × List CO)) : Prop :=
  ∃ wi g tt te, PI X tg iter wi ∧ (∀ s H C cl fp, PG (Blk X scope s H C cl fp) tg g) ∧ (∀ s H C cl fp, PTs (Blk X scope s H C cl fp) ifs tt) ∧ (∀ s H C cl fp, PE (Blk X scope s H C cl fp) elt te) ∧ SemX X.K X.mg W (tLc wi g tt te (own.map (·.2))) (RL X.K) ρ ms cs m
theorem lc_ofX {ι : Type} {un : PD → Out ι} {ρf : ι → Rho} {u : PD → Rho → Out Rho} {Keep : List PD → List CO → Prop} {mi : Out (List PD × List CO)} {mt : ι → List CO → Out (Bool × List CO)} {me : ι → List CO → Out (PD × List CO)}
    (hi : IX X W false tg iter ρ ms cs Keep mi) (hg : ∀ s H C cl fp, TgOk (Blk X scope s H C cl fp) tg (own.map (·.2)) u) (hu : ∀ d, u d (wipeR ρ (own.map (·.2))) = (un d >>= fun t => .ok (ρf t)))
    (ht : ∀ s H C cl fp t cs1, TsX (Blk X scope s H C cl fp) E0 ifs (ρf t) ms cs1 (mt t cs1)) (he : ∀ s H C cl fp t cs1, EX (Blk X scope s H C cl fp) E0 (RD X.K) elt (ρf t) ms cs1 (me t cs1)) (hk : ∀ ds cs1, Keep ds cs1) :
    LCX X W scope own tg iter ifs elt ρ ms cs (mi >>= fun ds => lineD ds.1 >>= fun dd => compX (fun d cs1 => un d >>= fun t => mt t cs1 >>= fun b => if b.1 then me t b.2 >>= fun x => .ok (some x.1, x.2) else .ok (none, b.2)) dd ds.2) := by
  obtain ⟨wi, i1, i2⟩ := hi
  obtain ⟨g, g1, g2⟩ := blk_tg hg
  obtain ⟨tt, t1, t2⟩ := blk_ttX ht
  obtain ⟨te, e1, e2⟩ := blk_teX he
  refine ⟨wi, g, tt, te, i1, g1, t1, e1, fun Γ G σ H Q hw c hr => i2 Γ G σ H _ hw c ?_⟩
  cases emi : mi with
  | bad => rw [emi] at hr; exact hr.elim
  | err z fs => rw [emi] at hr; exact hr
  | ok dsc =>
  obtain ⟨ds, cs1⟩ := dsc
  rw [emi] at hr
  have hr : Res Γ.We (lineD ds >>= fun dd => compX (fun d cs1 => un d >>= fun t => mt t cs1 >>= fun b => if b.1 then me t b.2 >>= fun x => .ok (some x.1, x.2) else .ok (none, b.2)) dd cs1) _ := hr
  intro J G1 H1 gg1 c1 st it D hD
  obtain ⟨Gp, Y, w, w1, w2⟩ := it
  by_cases hz : ds.length ≤ sizeLine
  case neg => rw [lineD, if_neg hz] at hr; exact hr.elim
  rw [lineD_ok hz] at hr
  have gD : G1 D = none := There.free (Kept.there c1.ex) hD
  obtain ⟨nD, oD⟩ := fresh_ok c1 hD
  have hH : H D = none := There.free (Stay.there (pu := false) st) hD
  refine lc_it w (Qd := fun H' => Q (.ref D) H') (fun i H' => ∃ G2 vs acc cs2, Same G1 G2 ∧ Cfg Γ G2 ρ ms cs2 σ H' ∧ There H1 H' ∧ H' D = some (.lst vs) ∧ DpAll X.K G2 vs acc ∧ G2 D = none ∧ acc.length ≤ i ∧  Res Γ.We (compX (fun d cs1 => un d >>= fun t => mt t cs1 >>= fun b => if b.1 then me t b.2 >>= fun x => .ok (some x.1, x.2) else .ok (none, b.2)) (ds.drop i) cs2) (fun t => ∀ v G' H', Same G G' → Cfg Γ G' ρ ms t.2 σ H' → There H H' → RL X.K H G' H' v (acc ++ t.1) → Q v H'))
    ?h0 ?hG ?hs ?hd
  case h0 =>
    refine ⟨G1, [], [], cs1,  Same.refl _, c1.mut gD nD oD, Kept.there (same_new hD), upd_same, .nil, gD, Nat.le_refl _,  ?_⟩
    exact hr
  case hG =>
    rintro i H' hi' ⟨G2, vs, acc, cs2, s2, c2, k2, hl, hd, gd, ln, r2⟩
    exact w1 G2 H' _ s2 c2.ex c2.cells (hk ds _)
  case hd =>
    rintro H' ⟨G2, vs, acc, cs2, s2, c2, k2, hl, hd, gd, ln, r2⟩
    rw [List.drop_length] at r2
    exact r2 (.ref D) G2 H' (gg1.trans s2) c2 (There.trans st k2) ⟨D, vs, rfl, hH, gd, hl, by rw [List.append_nil]; exact hd⟩
  case hs =>
    rintro i x H2 H3 hi' ⟨G2, vs, acc, cs2, s2, c2, k2, hl, hd, gd, ln, r2⟩ y
    obtain ⟨k3, d, G3, ed, s3, x3, n3, dx⟩ := w2 i x H2 H3 G2 _ hi' s2 c2.ex c2.cells (hk ds _) y
    have c3 := c2.keep s3 k3 x3 n3
    have gd3 : G3 D = none := n3 D _ hl gd
    have hl3 := k3 _ _ hl
    rw [drop_at ed] at r2
    have r3 := noErr_res (We' := fun _ _ => False) (Res.bind r2)
    have r4 := Res.bind r3
    have cw : Cfg (Gam.at (K := X.K) (mg := X.mg) G3 H3 ms) G3 (wipeR ρ (own.map (·.2))) ms cs2 (wipe σ (own.map (·.2))) H3 := c3.here.env' (env_wipe c3.env _)
    refine g2 (Gam.at G3 H3 ms) G3 _ ms cs2 _ H3 x d _ cw dx ?_
    rw [hu d]
    cases eu : un d with
    | bad => rw [eu] at r4; exact r4.elim
    | err z fs => rw [eu] at r4; exact r4
    | ok t =>
      rw [eu] at r4
      intro σ2 c4 hj hl2
      refine ⟨?_, ?_⟩
      · rw [wipe_same _ hj hl2]
        exact wipe_wipe _ _
      · have r5 := Res.bind (show Res (fun _ _ => False) (mt t cs2 >>= fun b => if b.1 then me t b.2 >>= fun x => .ok (some x.1, x.2) else .ok (none, b.2)) _ from r4)
        refine t2 t cs2 (Gam.at G3 H3 ms) G3 σ2 H3 _ rfl c4 (r5.mono fun b r6 G4 H4 g4 c5 k4 => ?_)
        obtain ⟨b, cs5⟩ := b
        cases b with
        | false =>
          have hl4 := c5.grow.hh D _ nD hl3
          have gd4 := c5.grow.nw D _ hl3 gd3
          exact ⟨G4, vs, acc, cs5,  s2.trans (s3.trans g4), c3.rejoin rfl rfl rfl c5, k2.trans (There.trans (Kept.there k3) k4), hl4, dpa_mono (s3.trans g4) hd, gd4, Nat.le_succ_of_le ln, Res.bind r6⟩
        | true =>
          have r7 := Res.bind (show Res (fun _ _ => False) (me t cs5 >>= fun x => .ok (some x.1, x.2)) _ from r6)
          refine e2 t cs5 (Gam.at G3 H3 ms) G4 σ2 H4 _ rfl c5 (r7.mono fun z r8 v5 G5 H5 g5 c6 k5 dv => ?_)
          obtain ⟨z1, cs6⟩ := z
          have hl5 := c6.grow.hh D _ nD hl3
          have gd5 := c6.grow.nw D _ hl3 gd3
          have hlen : vs.length < sizeLine := by
            have hi2 : i < ds.length := hi'
            rw [dpa_len hd]
            omega
          refine ⟨vs, hl5, hlen, G5, vs ++ [v5], acc ++ [z1], cs6,  s2.trans (s3.trans (g4.trans g5)), (c3.rejoin rfl rfl rfl c6).mut gd5 nD oD, fun b o hb => by rw [upd_ne (ne_of_none hb hD)]; exact k2.trans (There.trans (Kept.there k3) (k4.trans k5)) b o hb, upd_same, dpa_append (dpa_mono (s3.trans (g4.trans g5)) hd) (.cons dv .nil), gd5, by rw [List.length_append]; show acc.length + 1 ≤ i + 1; omega, ?_⟩
          have r9 := Res.bind (show Res Γ.We (compX (fun d cs1 => un d >>= fun t => mt t cs1 >>= fun b => if b.1 then me t b.2 >>= fun x => .ok (some x.1, x.2) else .ok (none, b.2)) (ds.drop (i + 1)) cs6 >>= fun t => .ok (optC (some z1) t.1, t.2)) _ from r8)
          refine r9.mono fun t h v G' H' a1 a2 a3 a4 => h v G' H' a1 a2 a3 ?_
          rw [List.append_assoc] at a4
          exact a4
theorem el_lc {m : Out (List PD)} (hc : X.calm = true) (hN : X.N.Nodup) (ok : BlkOk X.N X.env.scope scope own) (h : LCP X W scope own tg iter ifs elt ρ ms cs m) (hs : ∀ x, foldedSetIterable iter X.env x = pure x := by intro _; rfl) :
    EP X W (RL X.K) (.ListComp elt [⟨tg, iter, ifs, 0⟩] scope pos) ρ ms cs m := by
  obtain ⟨wi, g, tt, te, h1, h2, h3, h4, h5⟩ := h
  exact ⟨_, pe_lc hc hN h1 ok (fun s H C cl fp => h2 s H C cl fp) (fun s H C cl fp => h3 s H C cl fp) (fun s H C cl fp => h4 s H C cl fp) hs, h5⟩
theorem xl_lc {m : Out (List PD × List CO)} (hc : X.calm = true) (hN : X.N.Nodup) (ok : BlkOk X.N X.env.scope scope own) (h : LCX X W scope own tg iter ifs elt ρ ms cs m) (hs : ∀ x, foldedSetIterable iter X.env x = pure x := by intro _; rfl) :
    EX X W (RL X.K) (.ListComp elt [⟨tg, iter, ifs, 0⟩] scope pos) ρ ms cs m := by
  obtain ⟨wi, g, tt, te, h1, h2, h3, h4, h5⟩ := h
  exact ⟨_, pe_lc hc hN h1 ok (fun s H C cl fp => h2 s H C cl fp) (fun s H C cl fp => h3 s H C cl fp) (fun s H C cl fp => h4 s H C cl fp) hs, h5⟩
end
end Dd
set_option Elab.async false
set_option linter.all false
set_option maxRecDepth 100000
set_option maxHeartbeats 2000000
namespace Dd
open PySem PySem.Spec PyProof.Rows L2
/-- how a block ends: behind it, with a return, a break, a continue -/
inductive Ctl (N R L : Type) where
  | nx (n : N) | rt (r : R) | bk (l : L) | ct (l : L)
abbrev Sta := Rho × List Addr × List CO
/-- what follows, by the end -/
def After {K : PySem.W.Frag} {mg : Str → Option Value} (Γ : Gam K mg) {N R L : Type} (nf : N → Sta) (lf : L → Sta) (RR : VR R) (rf : R → List CO) (D : Ends) (G H : Hp) : Ctl N R L → Prop
  | .nx n => ∀ σ' G' H', Same G G' → There H H' → Cfg Γ G' (nf n).1 (nf n).2.1 (nf n).2.2 σ' H' → D.nx σ' H'
  | .bk n => ∀ σ' G' H', Same G G' → There H H' → Cfg Γ G' (lf n).1 (lf n).2.1 (lf n).2.2 σ' H' → D.bk σ' H'
  | .ct n => ∀ σ' G' H', Same G G' → There H H' → Cfg Γ G' (lf n).1 (lf n).2.1 (lf n).2.2 σ' H' → D.ct σ' H'
  | .rt r => ∀ v G' H', Same G G' → There H H' → Same G' H' → CellsOk K G' H' Γ.ms (rf r) → Grow Γ.ms Γ.G Γ.H G' H' → RR Γ.H G' H' v r → D.rt v H'
section
variable {K : PySem.W.Frag} {mg : Str → Option Value} {Γ : Gam K mg} {N R L : Type} {nf : N → Sta} {lf : L → Sta} {RR : VR R} {rf : R → List CO} {D : Ends} {G H G1 H1 : Hp}
theorem After.fwd {x : Ctl N R L} (h : After Γ nf lf RR rf D G H x) (g : Same G G1) (t : There H H1) : After Γ nf lf RR rf D G1 H1 x := by
  cases x with
  | nx n => exact fun σ' G' H' a b c => h σ' G' H' (g.trans a) (t.trans b) c
  | bk n => exact fun σ' G' H' a b c => h σ' G' H' (g.trans a) (t.trans b) c
  | ct n => exact fun σ' G' H' a b c => h σ' G' H' (g.trans a) (t.trans b) c
  | rt n => exact fun v G' H' a b => h v G' H' (g.trans a) (t.trans b)
end
/-- a block, told: from the slots ρ and the cells ms, cs it ends as m says -/
def SS {N R L : Type} (X : Cx) (W : XK) (m0 : List Addr) (RR : VR R) (rf : R → List CO) (nf : N → Sta) (lf : L → Sta) (st : List Stmt) (ρ : Rho) (ms : List Addr) (cs : List CO) (m : Out (Ctl N R L)) : Prop :=
  ∃ ts, PSs X st ts ∧ ∀ (Γ : Gam X.K X.mg) (G : Hp) (σ : L2.St) (H : Hp) (D : Ends), Γ.W = W → Γ.ms = m0 → Cfg Γ G ρ ms cs σ H → Res Γ.We m (fun c => After Γ nf lf RR rf D G H c) → ts D σ H
/-- one statement -/
def S1 {N R L : Type} (X : Cx) (W : XK) (m0 : List Addr) (RR : VR R) (rf : R → List CO) (nf : N → Sta) (lf : L → Sta) (st : Stmt) (ρ : Rho) (ms : List Addr) (cs : List CO) (m : Out (Ctl N R L)) : Prop :=
  ∃ ts, PS X st ts ∧ ∀ (Γ : Gam X.K X.mg) (G : Hp) (σ : L2.St) (H : Hp) (D : Ends), Γ.W = W → Γ.ms = m0 → Cfg Γ G ρ ms cs σ H → Res Γ.We m (fun c => After Γ nf lf RR rf D G H c) → ts D σ H
/-- cells forgotten -/
inductive CDrop : List Addr → List CO → List Addr → List CO → Prop where
  | refl {ms : List Addr} {cs : List CO} : CDrop ms cs ms cs
  | drop {a : Addr} {c : CO} {ms ms' : List Addr} {cs cs' : List CO} : CDrop ms cs ms' cs' → CDrop (a :: ms) (c :: cs) ms' cs'
section
variable {K : PySem.W.Frag} {mg : Str → Option Value} {Γ : Gam K mg} {G H : Hp} {ρ ρ' : Rho} {σ : L2.St} {ms ms' : List Addr} {cs cs' : List CO}
theorem CDrop.ok (d : CDrop ms cs ms' cs') (h : CellsOk K G H ms cs) : CellsOk K G H ms' cs' ∧ ∀ a ∈ ms', a ∈ ms := by
  induction d with
  | refl => exact ⟨h, fun _ m => m⟩
  | drop _ ih =>
    cases h with
    | cons _ _ _ t =>
      obtain ⟨h1, h2⟩ := ih t
      exact ⟨h1, fun a m => List.mem_cons_of_mem _ (h2 a m)⟩
theorem Cfg.drop (c : Cfg Γ G ρ ms cs σ H) (d : CDrop ms cs ms' cs') (r : RLe ρ' ρ) : Cfg Γ G ρ' ms' cs' σ H := by
  obtain ⟨h1, h2⟩ := d.ok c.cells
  exact ⟨c.ex, h1, env_le r c.env, c.grow, fun a m => c.loc a (h2 a m)⟩
theorem cells_set (h : CellsOk K G H ms cs) : ∀ {j : Nat} {a : Addr} {c' : CO} {o : HO}, ms[j]? = some a → CellOk K G (upd H a o) a c' → CellsOk K G (upd H a o) ms (cs.set j c') := by
  induction h with
  | nil => intro j a c' o e; simp at e
  | @cons a0 c0 ms cs g q n t ih =>
    intro j a c' o e k
    cases j with
    | zero =>
      simp at e
      subst e
      refine .cons g k n (cells_to t (Same.refl _) (fun b m => (cells_mem t m).1) fun b m o' h => ?_)
      rw [upd_ne (fun z => n (by rw [← z]; exact m))]
      exact h
    | succ j =>
      have e' : ms[j]? = some a := by simpa using e
      have ne : a0 ≠ a := fun z => n (by rw [z]; exact List.mem_of_getElem? e')
      refine .cons g (cell_to q (Same.refl _) fun o' h => by rw [upd_ne ne]; exact h) n (ih e' k)
/-- a cell is written -/
theorem Cfg.write (c : Cfg Γ G ρ ms cs σ H) {j : Nat} {a : Addr} {c' : CO} {o : HO} (h1 : ms[j]? = some a) (h : CellOk K G (upd H a o) a c') : Cfg Γ G ρ ms (cs.set j c') σ (upd H a o) := by
  have m := List.mem_of_getElem? h1
  obtain ⟨g, oo, hh⟩ := cells_mem c.cells m
  refine ⟨fun b x e => ?_, cells_set c.cells h1 h, c.env, ⟨c.grow.gg, fun b x nb hb => ?_, fun b x hb => ?_, c.grow.nw⟩, c.loc⟩
  · rw [upd_ne (ne_of_none e g)]
    exact c.ex b x e
  · have q := c.grow.hh b x nb hb
    by_cases hba : b = a
    · subst hba
      rcases c.loc b m with z | z
      · exact (nb z).elim
      · rw [z] at hb; cases hb
    · rw [upd_ne hba]
      exact q
  · by_cases hba : b = a
    · subst hba
      exact ⟨o, upd_same⟩
    · rw [upd_ne hba]
      exact c.grow.th b x hb
theorem there_upd {H : Hp} {a : Addr} {o : HO} : There H (upd H a o) := fun b x hb => by
  by_cases hba : b = a
  · subst hba
    exact ⟨o, upd_same⟩
  · rw [upd_ne hba]
    exact ⟨x, hb⟩
/-- a new list becomes a cell -/
theorem Cfg.cell (c : Cfg Γ G ρ ms cs σ H) {p : Addr} {vs : List V} {ds : List PD} (g : G p = none) (n : p ∉ ms) (n0 : Γ.H p = none) (hp : H p = some (.lst vs)) (hd : DpAll K G vs ds) : Cfg Γ G ρ (p :: ms) (.l ds :: cs) σ H :=
  ⟨c.ex, .cons g ⟨vs, hp, hd⟩ n c.cells, c.env, c.grow, fun a m => by
    rcases List.mem_cons.mp m with z | z
    · subst z; exact .inr n0
    · exact c.loc a z⟩
end
section
variable {X : Cx} {W : XK} {m0 : List Addr} {N R L N1 : Type} {RR : VR R} {rf : R → List CO} {nf : N → Sta} {nf1 : N1 → Sta} {lf : L → Sta} {st : Stmt} {rest body sa sb : List Stmt} {e c tg iter : Expr} {ρ ρ' : Rho} {ms ms' : List Addr} {cs cs' : List CO} {pos p p2 : Pos}
theorem ss_one {m : Out (Ctl N R L)} (h : S1 X W m0 RR rf nf lf st ρ ms cs m) : SS X W m0 RR rf nf lf [st] ρ ms cs m := by
  obtain ⟨t, h1, h2⟩ := h
  exact ⟨t, pss_one h1, h2⟩
def seqC (k : N1 → Out (Ctl N R L)) : Ctl N1 R L → Out (Ctl N R L)
  | .nx n => k n
  | .rt r => .ok (.rt r)
  | .bk l => .ok (.bk l)
  | .ct l => .ok (.ct l)
theorem pss_all {ι : Type} {t : ι → TS} (h : ∀ i, PSs X rest (t i)) : PSs X rest (fun D σ H => ∃ i, t i D σ H) := ⟨fun pins s σ H D I hw => by
  obtain ⟨i, hw⟩ := hw
  exact (h i).run pins s σ H D I hw⟩
theorem ss_seq {m : Out (Ctl N1 R L)} {k : N1 → Out (Ctl N R L)} (h : S1 X W m0 RR rf nf1 lf st ρ ms cs m) (hk : ∀ n, SS X W m0 RR rf nf lf rest (nf1 n).1 (nf1 n).2.1 (nf1 n).2.2 (k n)) : SS X W m0 RR rf nf lf (st :: rest) ρ ms cs (m >>= seqC k) := by
  obtain ⟨t, h1, h2⟩ := h
  refine ⟨_, pss_cons h1 (pss_all (t := fun n => (hk n).choose) fun n => (hk n).choose_spec.1), fun Γ G σ H D hw hm c hr => h2 Γ G σ H _ hw hm c (hr.bind.mono fun x r => ?_)⟩
  cases x with
  | nx n => exact fun σ' G' H' a b c' => ⟨n, (hk n).choose_spec.2 Γ G' σ' H' D hw hm c' (Res.mono (show Res Γ.We (k n) _ from r) fun y q => q.fwd a b)⟩
  | rt z => exact r
  | bk l => exact r
  | ct l => exact r
theorem ss_nil {n : N} (h : nf n = (ρ', ms', cs')) (d : CDrop ms cs ms' cs') (r : RLe ρ' ρ) : SS X W m0 RR rf nf lf [] ρ ms cs (.ok (.nx n)) := by
  refine ⟨_, pss_nil, fun Γ G σ H D hw hm c hr => ?_⟩
  have q : ∀ σ' G' H', Same G G' → There H H' → Cfg Γ G' (nf n).1 (nf n).2.1 (nf n).2.2 σ' H' → D.nx σ' H' := hr
  rw [h] at q
  exact q σ G H (Same.refl _) (Kept.there (Same.refl _)) (c.drop d r)
theorem ss_brk {n : L} (h : lf n = (ρ', ms', cs')) (d : CDrop ms cs ms' cs') (r : RLe ρ' ρ) : SS X W m0 RR rf nf lf (.Break pos :: rest) ρ ms cs (.ok (.bk n)) := by
  refine ⟨_, pss_cons ps_break pss_never, fun Γ G σ H D hw hm c hr => ?_⟩
  have q : ∀ σ' G' H', Same G G' → There H H' → Cfg Γ G' (lf n).1 (lf n).2.1 (lf n).2.2 σ' H' → D.bk σ' H' := hr
  rw [h] at q
  exact q σ G H (Same.refl _) (Kept.there (Same.refl _)) (c.drop d r)
theorem ss_cont {n : L} (h : lf n = (ρ', ms', cs')) (d : CDrop ms cs ms' cs') (r : RLe ρ' ρ) : SS X W m0 RR rf nf lf (.Continue pos :: rest) ρ ms cs (.ok (.ct n)) := by
  refine ⟨_, pss_cons ps_continue pss_never, fun Γ G σ H D hw hm c hr => ?_⟩
  have q : ∀ σ' G' H', Same G G' → There H H' → Cfg Γ G' (lf n).1 (lf n).2.1 (lf n).2.2 σ' H' → D.ct σ' H' := hr
  rw [h] at q
  exact q σ G H (Same.refl _) (Kept.there (Same.refl _)) (c.drop d r)
theorem ss_pass {m : Out (Ctl N R L)} (h : SS X W m0 RR rf nf lf rest ρ ms cs m) : SS X W m0 RR rf nf lf (.Pass pos :: rest) ρ ms cs m := by
  obtain ⟨t, h1, h2⟩ := h
  exact ⟨_, pss_cons ps_pass h1, fun Γ G σ H D hw hm c hr => h2 Γ G σ H D hw hm c hr⟩
/-! ### return -/
theorem ss_retX {β : Type} {R0 : VR β} {m : Out (β × List CO)} {mk : β → List CO → R} (h : EX X W R0 e ρ ms cs m) (hr1 : ∀ d cs1, CDrop ms cs1 m0 (rf (mk d cs1))) (hr2 : ∀ H0 H1 G H v d cs1, There H0 H1 → R0 H1 G H v d → RR H0 G H v (mk d cs1)) :
    SS X W m0 RR rf nf lf (.Return (some e) pos :: rest) ρ ms cs (m >>= fun x => .ok (.rt (mk x.1 x.2))) := by
  obtain ⟨t, h1, h2⟩ := h
  refine ⟨_, pss_cons (ps_ret h1) pss_never, fun Γ G σ H D hw hm c hr => h2 Γ G σ H _ hw c (hr.bind.mono fun x k v G1 H1 g1 c1 t1 r1 => ?_)⟩
  refine k v G1 H1 g1 t1 c1.ex ?_ c1.grow (hr2 _ _ _ _ _ _ _ (fun a o z => c.grow.th a o z) r1)
  rw [hm]
  exact ((hr1 x.1 x.2).ok c1.cells).1
theorem ss_ret {β : Type} {R0 : VR β} {m : Out β} {mk : β → R} (h : EP X W R0 e ρ ms cs m) (hr1 : ∀ d, CDrop ms cs m0 (rf (mk d))) (hr2 : ∀ H0 H1 G H v d, There H0 H1 → R0 H1 G H v d → RR H0 G H v (mk d)) :
    SS X W m0 RR rf nf lf (.Return (some e) pos :: rest) ρ ms cs (m >>= fun x => .ok (.rt (mk x))) := by
  obtain ⟨t, h1, h2⟩ := h
  refine ⟨_, pss_cons (ps_ret h1) pss_never, fun Γ G σ H D hw hm c hr => h2 Γ G σ H _ hw c (hr.bind.mono fun x k v G1 H1 g1 c1 t1 r1 => ?_)⟩
  refine k v G1 H1 g1 t1.there c1.ex ?_ c1.grow (hr2 _ _ _ _ _ _ (fun a o z => c.grow.th a o z) r1)
  rw [hm]
  exact ((hr1 x).ok c1.cells).1
theorem ss_retN {r : R} (hr1 : CDrop ms cs m0 (rf r)) (hr2 : ∀ H0 G H, RR H0 G H .non r) : SS X W m0 RR rf nf lf (.Return none pos :: rest) ρ ms cs (.ok (.rt r)) := by
  refine ⟨_, pss_cons ps_retN pss_never, fun Γ G σ H D hw hm c hr => ?_⟩
  refine hr .non G H (Same.refl _) (Kept.there (Same.refl _)) c.ex ?_ c.grow (hr2 _ _ _)
  rw [hm]
  exact (hr1.ok c.cells).1
/-- a local list is handed back: as a new list -/
theorem ss_retC (i j : Nat) {x : Str} {ad : Addr} {ds : List PD} {r : R} (hr1 : CDrop ms cs m0 (rf r)) (hr2 : ∀ H0 G H v, RL X.K H0 G H v ds → RR H0 G H v r) (hn : ∀ a ∈ m0, a ≠ ad) (h : ρ[i]? = some (some (.c ad)) := by rfl) (h1 : ms[j]? = some ad := by rfl) (h2 : cs[j]? = some (.l ds) := by rfl) (hN : X.N[i]? = some x := by rfl)
    (hv : Vis X.env.scope x := by first | exact Or.inl rfl | exact Or.inr (Or.inl rfl) | exact Or.inr (Or.inr rfl)) (hd : (x == ("__debug__" : Str)) = false := by decide) (hcd : (x == ("__classdict__" : Str)) = false := by decide) :
    SS X W m0 RR rf nf lf (.Return (some (.Name x p)) pos :: rest) ρ ms cs (.ok (.rt r)) := by
  refine ⟨_, pss_cons (ps_ret (pe_var hN hv hd hcd)) pss_never, fun Γ G σ H D hw hm c hr => ?_⟩
  obtain ⟨v, h3, h4⟩ := env_get c.env h
  obtain ⟨g, vs, h5, h6⟩ := cells_get c.cells h1 h2
  have n0 : Γ.H ad = none := by
    rcases c.loc ad (List.mem_of_getElem? h1) with z | z
    · rw [hm] at z; exact (hn ad z rfl).elim
    · exact z
  refine ⟨v, h3, hr v G H (Same.refl _) (Kept.there (Same.refl _)) c.ex ?_ c.grow (hr2 _ _ _ _ ⟨ad, vs, h4, n0, g, h5, h6⟩)⟩
  rw [hm]
  exact (hr1.ok c.cells).1
/-! ### assignments -/
theorem ss_asg (i : Nat) {x : Str} {m : Out PD} {k : PD → Out (Ctl N R L)} (hN : X.N.Nodup) (h : EP X W (RD X.K) e ρ ms cs m) (hk : ∀ d, SS X W m0 RR rf nf lf rest (ρ.set i (some (.d d))) ms cs (k d)) (hi : X.N[i]? = some x := by rfl) (hx : Loc X.env.scope x := by first | exact Or.inl rfl | exact Or.inr rfl)
    (hs : swapsWith e (some (.Name x p)) pos.line X.env = pure false := by rfl) (hf : X.fn x = true ∨ X.env.scope.names.lookup x = some .local := by first | exact .inl rfl | exact .inr rfl) :
    SS X W m0 RR rf nf lf (.Assign [.Name x p] e pos :: rest) ρ ms cs (m >>= fun d => k d) := by
  obtain ⟨t, h1, h2⟩ := h
  refine ⟨_, pss_cons (ps_set hN hi hx h1 hs hf) (pss_all (t := fun n => (hk n).choose) fun n => (hk n).choose_spec.1), fun Γ G σ H D hw hm c hr => h2 Γ G σ H _ hw c (hr.bind.mono fun d q v G1 H1 g1 c1 k1 r1 => ?_)⟩
  exact ⟨d, (hk d).choose_spec.2 Γ G1 _ H1 D hw hm (c1.env' (env_set c1.env (av := .d d) r1 i)) (q.mono fun y z => z.fwd g1 k1.there)⟩
theorem ss_asgX (i : Nat) {x : Str} {m : Out (PD × List CO)} {k : PD → List CO → Out (Ctl N R L)} (hN : X.N.Nodup) (h : EX X W (RD X.K) e ρ ms cs m) (hk : ∀ d cs1, SS X W m0 RR rf nf lf rest (ρ.set i (some (.d d))) ms cs1 (k d cs1)) (hi : X.N[i]? = some x := by rfl) (hx : Loc X.env.scope x := by first | exact Or.inl rfl | exact Or.inr rfl)
    (hs : swapsWith e (some (.Name x p)) pos.line X.env = pure false := by rfl) (hf : X.fn x = true ∨ X.env.scope.names.lookup x = some .local := by first | exact .inl rfl | exact .inr rfl) :
    SS X W m0 RR rf nf lf (.Assign [.Name x p] e pos :: rest) ρ ms cs (m >>= fun d => k d.1 d.2) := by
  obtain ⟨t, h1, h2⟩ := h
  refine ⟨_, pss_cons (ps_set hN hi hx h1 hs hf) (pss_all (t := fun (n : PD × List CO) => (hk n.1 n.2).choose) fun n => (hk n.1 n.2).choose_spec.1), fun Γ G σ H D hw hm c hr => h2 Γ G σ H _ hw c (hr.bind.mono fun d q v G1 H1 g1 c1 k1 r1 => ?_)⟩
  exact ⟨d, (hk d.1 d.2).choose_spec.2 Γ G1 _ H1 D hw hm (c1.env' (env_set c1.env (av := .d d.1) r1 i)) (q.mono fun y z => z.fwd g1 k1)⟩
/-- a new list becomes a cell -/
theorem ss_asgC (i : Nat) {x : Str} {m : Out (List PD)} {k : List PD → Out (Ctl N R L)} (hN : X.N.Nodup) (h : EP X W (RL X.K) e ρ ms cs m) (hk : ∀ a ds, (∀ b ∈ m0, b ≠ a) → SS X W m0 RR rf nf lf rest (ρ.set i (some (.c a))) (a :: ms) (.l ds :: cs) (k ds)) (hi : X.N[i]? = some x := by rfl) (hx : Loc X.env.scope x := by first | exact Or.inl rfl | exact Or.inr rfl)
    (hs : swapsWith e (some (.Name x p)) pos.line X.env = pure false := by rfl) (hf : X.fn x = true ∨ X.env.scope.names.lookup x = some .local := by first | exact .inl rfl | exact .inr rfl) (hm0 : ∀ b ∈ m0, b ∈ ms := by simp) :
    SS X W m0 RR rf nf lf (.Assign [.Name x p] e pos :: rest) ρ ms cs (m >>= fun d => k d) := by
  obtain ⟨t, h1, h2⟩ := h
  refine ⟨_, pss_cons (ps_set hN hi hx h1 hs hf) (pss_all (t := fun (n : { a : Addr // ∀ b ∈ m0, b ≠ a } × List PD) => (hk n.1.1 n.2 n.1.2).choose) fun n => (hk n.1.1 n.2 n.1.2).choose_spec.1), fun Γ G σ H D hw hm c hr => h2 Γ G σ H _ hw c (hr.bind.mono fun d q v G1 H1 g1 c1 k1 r1 => ?_)⟩
  obtain ⟨a, vs, rfl, h0, ga, ha, hd⟩ := r1
  obtain ⟨n1, n2⟩ := fresh_ok c h0
  have nm : ∀ b ∈ m0, b ≠ a := fun b hb z => n1 (by rw [← z]; exact hm0 b hb)
  exact ⟨(⟨a, nm⟩, d), (hk a d nm).choose_spec.2 Γ G1 _ H1 D hw hm ((c1.cell ga n1 n2 ha hd).env' (env_set c1.env (av := .c a) rfl i)) (q.mono fun y z => z.fwd g1 k1.there)⟩
theorem ss_asgCX (i : Nat) {x : Str} {m : Out (List PD × List CO)} {k : List PD → List CO → Out (Ctl N R L)} (hN : X.N.Nodup) (h : EX X W (RL X.K) e ρ ms cs m) (hk : ∀ a ds cs1, (∀ b ∈ m0, b ≠ a) → SS X W m0 RR rf nf lf rest (ρ.set i (some (.c a))) (a :: ms) (.l ds :: cs1) (k ds cs1)) (hi : X.N[i]? = some x := by rfl) (hx : Loc X.env.scope x := by first | exact Or.inl rfl | exact Or.inr rfl)
    (hs : swapsWith e (some (.Name x p)) pos.line X.env = pure false := by rfl) (hf : X.fn x = true ∨ X.env.scope.names.lookup x = some .local := by first | exact .inl rfl | exact .inr rfl) (hm0 : ∀ b ∈ m0, b ∈ ms := by simp) :
    SS X W m0 RR rf nf lf (.Assign [.Name x p] e pos :: rest) ρ ms cs (m >>= fun d => k d.1 d.2) := by
  obtain ⟨t, h1, h2⟩ := h
  refine ⟨_, pss_cons (ps_set hN hi hx h1 hs hf) (pss_all (t := fun (n : { a : Addr // ∀ b ∈ m0, b ≠ a } × List PD × List CO) => (hk n.1.1 n.2.1 n.2.2 n.1.2).choose) fun n => (hk n.1.1 n.2.1 n.2.2 n.1.2).choose_spec.1), fun Γ G σ H D hw hm c hr => h2 Γ G σ H _ hw c (hr.bind.mono fun d q v G1 H1 g1 c1 k1 r1 => ?_)⟩
  obtain ⟨a, vs, rfl, h0, ga, ha, hd⟩ := r1
  obtain ⟨n1, n2⟩ := fresh_ok c h0
  have nm : ∀ b ∈ m0, b ≠ a := fun b hb z => n1 (by rw [← z]; exact hm0 b hb)
  exact ⟨(⟨a, nm⟩, d.1, d.2), (hk a d.1 d.2 nm).choose_spec.2 Γ G1 _ H1 D hw hm ((c1.cell ga n1 n2 ha hd).env' (env_set c1.env (av := .c a) rfl i)) (q.mono fun y z => z.fwd g1 k1)⟩
/-- a cell is known from here on: its list is data -/
def frzR (a : Addr) (ds : List PD) (ρ : Rho) : Rho := ρ.map fun o => match o with
  | some (.c b) => if b = a then some (.d (.list ds)) else some (.c b)
  | o => o
/-! ### an expression alone; if -/
theorem ss_dropX {β : Type} {R0 : VR β} {m : Out (β × List CO)} {k : List CO → Out (Ctl N R L)} (h : EX X W R0 e ρ ms cs m) (hk : ∀ cs1, SS X W m0 RR rf nf lf rest ρ ms cs1 (k cs1)) (hs : swapsWith e none pos.line X.env = pure false := by rfl) : SS X W m0 RR rf nf lf (.Expr e pos :: rest) ρ ms cs (m >>= fun d => k d.2) := by
  obtain ⟨t, h1, h2⟩ := h
  refine ⟨_, pss_cons (ps_expr h1 hs) (pss_all (t := fun n => (hk n).choose) fun n => (hk n).choose_spec.1), fun Γ G σ H D hw hm c hr => h2 Γ G σ H _ hw c (hr.bind.mono fun d q v G1 H1 g1 c1 k1 r1 => ?_)⟩
  exact ⟨d.2, (hk d.2).choose_spec.2 Γ G1 _ H1 D hw hm c1 (q.mono fun y z => z.fwd g1 k1)⟩
/-- xs.append(e) -/
def appD (ds : List PD) (d : PD) : Out (List PD) := if ds.length < sizeLine then .ok (ds ++ [d]) else .bad
theorem ss_app (i j : Nat) {x : Str} {ad : Addr} {apos : Pos} {m : Out (PD × List CO)} {k : List CO → Out (Ctl N R L)} (h : EX X W (RD X.K) e ρ ms cs m) (hk : ∀ cs1, SS X W m0 RR rf nf lf rest ρ ms cs1 (k cs1)) (h3 : ρ[i]? = some (some (.c ad)) := by rfl) (h1 : ms[j]? = some ad := by rfl) (hN : X.N[i]? = some x := by rfl)
    (hv : Vis X.env.scope x := by first | exact Or.inl rfl | exact Or.inr (Or.inl rfl) | exact Or.inr (Or.inr rfl)) (hd : (x == ("__debug__" : Str)) = false := by decide) (hcd : (x == ("__classdict__" : Str)) = false := by decide)
    (hbase : attributeBase (.Name x p) "append" X.env (eval (.Name x p) X.env) = eval (.Name x p) X.env := by rfl)
    (hfew : ((backTo p2 (starEach (e :: []) X.env)).all (fun x => !x.1) && (backToKw p2 (keywordEach [] X.env)).all (fun x => x.1.isSome) && decide ((e :: []).length + ([] : List Keyword).length + (if ([] : List Keyword).isEmpty then 0 else 1) < 30)) = true := by rfl)
    (hline : (apos.endLine == p2.line) = true := by rfl) (hs : starEach (e :: []) X.env = (false, eval e X.env) :: starEach [] X.env := by rfl) (hplain : (backTo p2 (starEach [] X.env)).any (·.1) = false := by rfl)
    (hsw : swapsWith (.Call (.Attribute (.Name x p) "append" apos) [e] [] p2) none pos.line X.env = pure false := by rfl) (hex : ∃ ds, cs[j]? = some (.l ds) := by exact ⟨_, rfl⟩) :
    SS X W m0 RR rf nf lf (.Expr (.Call (.Attribute (.Name x p) "append" apos) [e] [] p2) pos :: rest) ρ ms cs (m >>= fun d => cellL j d.2 >>= fun ds => appD ds d.1 >>= fun ds' => k (d.2.set j (.l ds'))) := by
  obtain ⟨t, t1, t2⟩ := h
  refine ⟨_, pss_cons (ps_expr (pe_bm PySem.F.plainAttrs_list PySem.F.slot_list_append PySem.F.type_list_append mt_append (pe_var hN hv hd hcd) (pa_cons t1 pa_nil hs) hbase hfew hline hs hplain) hsw) (pss_all (t := fun n => (hk n).choose) fun n => (hk n).choose_spec.1), fun Γ G σ H D hw hm c hr => ?_⟩
  obtain ⟨v, e3, e4⟩ := env_get c.env h3
  obtain ⟨ds0, e5⟩ := hex
  obtain ⟨g, vs0, e6, e7⟩ := cells_get c.cells h1 e5
  subst e4
  refine ⟨_, e3, .inl ⟨rfl, vs0, .inl (.inl e6)⟩, t2 Γ G σ H _ hw c (hr.bind.mono fun d q u G1 H1 g1 c1 k1 r1 => ?_)⟩
  unfold cellL at q
  cases e8 : d.2[j]? with
  | none => rw [e8] at q; exact q.elim
  | some co =>
    rw [e8] at q
    cases co with
    | k kvs => exact q.elim
    | l ds =>
      obtain ⟨g2, vs, h5, h6⟩ := cells_get c1.cells h1 e8
      by_cases hz : ds.length < sizeLine
      · have q2 : Res Γ.We (appD ds d.1 >>= fun ds' => k (d.2.set j (.l ds'))) (fun c => After Γ nf lf RR rf D G H c) := q
        rw [appD, if_pos hz] at q2
        have q' : Res Γ.We (k (d.2.set j (.l (ds ++ [d.1])))) (fun c => After Γ nf lf RR rf D G H c) := q2
        refine ⟨ad, vs, u, rfl, rfl, h5, by rw [dpa_len h6]; exact hz, ?_⟩
        exact ⟨d.2.set j (.l (ds ++ [d.1])), (hk _).choose_spec.2 Γ G1 _ _ D hw hm (c1.write h1 ⟨vs ++ [u], upd_same, dpa_append h6 (.cons r1 .nil)⟩) (q'.mono fun y z => z.fwd g1 (k1.trans there_upd))⟩
      · have q2 : Res Γ.We (appD ds d.1 >>= fun ds' => k (d.2.set j (.l ds'))) (fun c => After Γ nf lf RR rf D G H c) := q
        rw [appD, if_neg hz] at q2
        exact q2.elim
theorem s1_ifX {mc : Out (Bool × List CO)} {ma mb : List CO → Out (Ctl N R L)} (h : TX X W c ρ ms cs mc) (ha : ∀ cs1, SS X W m0 RR rf nf lf sa ρ ms cs1 (ma cs1)) (hb : ∀ cs1, SS X W m0 RR rf nf lf sb ρ ms cs1 (mb cs1)) : S1 X W m0 RR rf nf lf (.If c sa sb pos) ρ ms cs (mc >>= fun t => if t.1 then ma t.2 else mb t.2) := by
  obtain ⟨t, h1, h2⟩ := h
  refine ⟨_, ps_if h1 (pss_all (t := fun n => (ha n).choose) fun n => (ha n).choose_spec.1) (pss_all (t := fun n => (hb n).choose) fun n => (hb n).choose_spec.1), fun Γ G σ H D hw hm c hr => h2 Γ G σ H _ hw c (hr.bind.mono fun d q G1 H1 g1 c1 k1 => ?_)⟩
  obtain ⟨b, cs1⟩ := d
  cases b with
  | true => exact ⟨cs1, (ha cs1).choose_spec.2 Γ G1 σ H1 D hw hm c1 (Res.mono (show Res Γ.We (ma cs1) _ from q) fun y z => z.fwd g1 k1)⟩
  | false => exact ⟨cs1, (hb cs1).choose_spec.2 Γ G1 σ H1 D hw hm c1 (Res.mono (show Res Γ.We (mb cs1) _ from q) fun y z => z.fwd g1 k1)⟩
theorem s1_if {mc : Out Bool} {ma mb : Out (Ctl N R L)} (h : TP X W c ρ ms cs mc) (ha : SS X W m0 RR rf nf lf sa ρ ms cs ma) (hb : SS X W m0 RR rf nf lf sb ρ ms cs mb) : S1 X W m0 RR rf nf lf (.If c sa sb pos) ρ ms cs (mc >>= fun t => if t then ma else mb) := by
  obtain ⟨t, h1, h2⟩ := h
  obtain ⟨ta, a1, a2⟩ := ha
  obtain ⟨tb, b1, b2⟩ := hb
  refine ⟨_, ps_if h1 a1 b1, fun Γ G σ H D hw hm c hr => h2 Γ G σ H _ hw c (hr.bind.mono fun d q G1 H1 g1 c1 k1 => ?_)⟩
  cases d with
  | true => exact a2 Γ G1 σ H1 D hw hm c1 (Res.mono (show Res Γ.We ma _ from q) fun y z => z.fwd g1 k1.there)
  | false => exact b2 Γ G1 σ H1 D hw hm c1 (Res.mono (show Res Γ.We mb _ from q) fun y z => z.fwd g1 k1.there)
/-- an if whose branch is left by return, break, continue -/
def upC : Ctl Empty R L → Ctl N R L
  | .nx n => n.elim
  | .rt r => .rt r
  | .bk l => .bk l
  | .ct l => .ct l
abbrev noF : Empty → Sta := fun n => n.elim
theorem ss_ifE {mc : Out Bool} {ma : Out (Ctl Empty R L)} {k : Out (Ctl N R L)} (h : TP X W c ρ ms cs mc) (ha : SS X W m0 RR rf noF lf sa ρ ms cs ma) (hb : SS X W m0 RR rf nf lf rest ρ ms cs k) : SS X W m0 RR rf nf lf (.If c sa [] pos :: rest) ρ ms cs (mc >>= fun t => if t then ma >>= fun x => .ok (upC x) else k) := by
  obtain ⟨t, h1, h2⟩ := h
  obtain ⟨ta, a1, a2⟩ := ha
  obtain ⟨tb, b1, b2⟩ := hb
  refine ⟨_, pss_cons (ps_if h1 a1 pss_nil) b1, fun Γ G σ H D hw hm c hr => h2 Γ G σ H _ hw c (hr.bind.mono fun d q G1 H1 g1 c1 k1 => ?_)⟩
  cases d with
  | true =>
    refine a2 Γ G1 σ H1 _ hw hm c1 (Res.mono (Res.bind (show Res Γ.We (ma >>= fun x => .ok (upC x)) _ from q)) fun y z => ?_)
    have z' := After.fwd (show After Γ nf lf RR rf D G H (upC y) from z) g1 k1.there
    cases y with
    | nx n => exact n.elim
    | rt r => exact z'
    | bk l => exact z'
    | ct l => exact z'
  | false => exact b2 Γ G1 σ H1 D hw hm c1 (Res.mono (show Res Γ.We k _ from q) fun y z => z.fwd g1 k1.there)
theorem ss_ifEX {mc : Out (Bool × List CO)} {ma : List CO → Out (Ctl Empty R L)} {k : List CO → Out (Ctl N R L)} (h : TX X W c ρ ms cs mc) (ha : ∀ cs1, SS X W m0 RR rf noF lf sa ρ ms cs1 (ma cs1)) (hb : ∀ cs1, SS X W m0 RR rf nf lf rest ρ ms cs1 (k cs1)) : SS X W m0 RR rf nf lf (.If c sa [] pos :: rest) ρ ms cs (mc >>= fun t => if t.1 then ma t.2 >>= fun x => .ok (upC x) else k t.2) := by
  obtain ⟨t, h1, h2⟩ := h
  refine ⟨_, pss_cons (ps_if h1 (pss_all (t := fun n => (ha n).choose) fun n => (ha n).choose_spec.1) pss_nil) (pss_all (t := fun n => (hb n).choose) fun n => (hb n).choose_spec.1), fun Γ G σ H D hw hm c hr => h2 Γ G σ H _ hw c (hr.bind.mono fun d q G1 H1 g1 c1 k1 => ?_)⟩
  obtain ⟨b, cs1⟩ := d
  cases b with
  | true =>
    refine ⟨cs1, (ha cs1).choose_spec.2 Γ G1 σ H1 _ hw hm c1 (Res.mono (Res.bind (show Res Γ.We (ma cs1 >>= fun x => .ok (upC x)) _ from q)) fun y z => ?_)⟩
    have z' := After.fwd (show After Γ nf lf RR rf D G H (upC y) from z) g1 k1
    cases y with
    | nx n => exact n.elim
    | rt r => exact z'
    | bk l => exact z'
    | ct l => exact z'
  | false =>
    show ∃ n, (hb n).choose D σ H1
    exact ⟨cs1, (hb cs1).choose_spec.2 Γ G1 σ H1 D hw hm c1 (Res.mono (show Res Γ.We (k cs1) _ from q) fun y z => z.fwd g1 k1)⟩
/-! ### for -/
def forM (b : PD → L → Out (Ctl L R L)) : List PD → L → Out (Ctl L R Empty)
  | [], l => .ok (.nx l)
  | d :: ds, l => b d l >>= fun x => match x with
    | .nx l' => forM b ds l'
    | .ct l' => forM b ds l'
    | .bk l' => .ok (.nx l')
    | .rt r => .ok (.rt r)
def dnC {L' : Type} : Ctl L R Empty → Ctl L R L'
  | .nx n => .nx n
  | .rt r => .rt r
  | .bk l => l.elim
  | .ct l => l.elim
theorem s1_forX {L1 ι : Type} {lf1 : L1 → Sta} {pu : Bool} {Keep : List PD → List CO → Prop} {u : PD → Rho → Out Rho} {vs : List Nat} {un : PD → Out ι} {ρf : L1 → ι → Rho} {mi : Out (List PD × List CO)} {l0 : List CO → L1} {b : ι → L1 → Out (Ctl L1 R L1)}
    (hc : X.calm = true) (hp : PassesOwn (model X.prog X.w) X.A X.env X.xe) (hi : IX X W pu tg iter ρ ms cs Keep mi) (hg : TgOk X tg vs u) (h0 : ∀ cs1, lf1 (l0 cs1) = (ρ', ms, cs1)) (hle : RLe ρ' ρ) (hms : ∀ l, (lf1 l).2.1 = ms)
    (hu : ∀ d l, u d (lf1 l).1 = (un d >>= fun t => .ok (ρf l t))) (hue : ∀ d z fs, un d ≠ .err z fs) (hk : ∀ ds cs1, mi = .ok (ds, cs1) → ∀ l, Keep ds (lf1 l).2.2) (hb : ∀ t l, SS X W m0 RR rf lf1 lf1 body (ρf l t) ms (lf1 l).2.2 (b t l)) (hs : ∀ x, foldedSetIterable iter X.env x = pure x := by intro _; rfl) :
    S1 X W m0 RR rf lf1 lf (.For tg iter body [] pos) ρ ms cs (mi >>= fun x => forM (fun d l => un d >>= fun t => b t l) x.1 (l0 x.2) >>= fun y => .ok (dnC y)) := by
  obtain ⟨wi, i1, i2⟩ := hi
  obtain ⟨g, g1, g2⟩ := hg
  refine ⟨_, ps_for hp hc i1 g1 (pss_all (t := fun (n : ι × L1) => (hb n.1 n.2).choose) fun n => (hb n.1 n.2).choose_spec.1) hs, fun Γ G σ H D hw hm c hr => i2 Γ G σ H _ hw c ?_⟩
  cases emi : mi with
  | bad => rw [emi] at hr; exact hr.elim
  | err z fs => rw [emi] at hr; exact hr
  | ok x =>
  obtain ⟨ds, cs1⟩ := x
  rw [emi] at hr
  have hr : Res Γ.We (forM (fun d l => un d >>= fun t => b t l) ds (l0 cs1)) (fun y => After Γ lf1 lf RR rf D G H (dnC y)) := Res.bind (show Res Γ.We (forM (fun d l => un d >>= fun t => b t l) ds (l0 cs1) >>= fun y => .ok (dnC y)) _ from hr)
  intro J G1 H1 gg1 c1 st it
  obtain ⟨Gp, Y, w, w1, w2⟩ := it
  refine for_it w (g := g) (tb := fun D σ H => ∃ n : ι × L1, (hb n.1 n.2).choose D σ H) (D := D) (fun i σ' H' => ∃ G2 l, Same G1 G2 ∧ There H1 H' ∧ Cfg Γ G2 (lf1 l).1 (lf1 l).2.1 (lf1 l).2.2 σ' H' ∧ Res Γ.We (forM (fun d l => un d >>= fun t => b t l) (ds.drop i) l) (fun y => After Γ lf1 lf RR rf D G1 H1 (dnC y))) ?h0 ?hG ?hs ?hd
  case h0 =>
    refine ⟨G1, l0 cs1, Same.refl _, Kept.there (Same.refl _), ?_, Res.mono hr fun y z => z.fwd gg1 st.there⟩
    rw [h0 cs1]
    exact c1.drop .refl hle
  case hG =>
    rintro i σ' H' hi' ⟨G2, l, s2, t2, c2, r2⟩
    refine w1 G2 H' (lf1 l).2.2 s2 c2.ex ?_ (hk ds cs1 emi l)
    have q := c2.cells
    rw [hms l] at q
    exact q
  case hd =>
    rintro σ' H' ⟨G2, l, s2, t2, c2, r2⟩
    rw [List.drop_length] at r2
    have r3 : After Γ lf1 lf RR rf D G1 H1 (.nx l) := r2
    exact r3 σ' G2 H' s2 t2 c2
  case hs =>
    rintro i x σ' H2 H3 hi' ⟨G2, l, s2, t2, c2, r2⟩ y
    have cq := c2.cells
    rw [hms l] at cq
    obtain ⟨k3, d, G3, ed, s3, x3, n3, dx⟩ := w2 i x H2 H3 G2 (lf1 l).2.2 hi' s2 c2.ex cq (hk ds cs1 emi l) y
    have c3 := c2.keep s3 k3 x3 n3
    rw [drop_at ed] at r2
    have r3 : Res Γ.We ((un d >>= fun t => b t l) >>= fun x => match x with
      | .nx l' => forM (fun d l => un d >>= fun t => b t l) (ds.drop (i + 1)) l'
      | .ct l' => forM (fun d l => un d >>= fun t => b t l) (ds.drop (i + 1)) l'
      | .bk l' => .ok (.nx l')
      | .rt r => .ok (.rt r)) _ := r2
    have r4 := Res.bind r3
    refine g2 Γ G3 _ _ _ _ H3 x d _ c3 dx ?_
    rw [hu d l]
    cases eu : un d with
    | bad => rw [eu] at r4; exact r4.elim
    | err z fs => exact (hue d z fs eu).elim
    | ok t =>
      rw [eu] at r4
      intro σ2 c4 hj hl2
      rw [hms l] at c4
      refine ⟨(t, l), (hb t l).choose_spec.2 Γ G3 σ2 H3 _ hw hm c4 (Res.mono (show Res Γ.We (b t l) _ from r4) fun z q => ?_)⟩
      cases z with
      | nx l' => exact fun σ3 G4 H4 a1 a2 a3 => ⟨G4, l', s2.trans (s3.trans a1), t2.trans (k3.there.trans a2), a3, q⟩
      | ct l' => exact fun σ3 G4 H4 a1 a2 a3 => ⟨G4, l', s2.trans (s3.trans a1), t2.trans (k3.there.trans a2), a3, q⟩
      | bk l' => exact fun σ3 G4 H4 a1 a2 a3 => (show After Γ lf1 lf RR rf D G1 H1 (.nx l') from q) σ3 G4 H4 (s2.trans (s3.trans a1)) (t2.trans (k3.there.trans a2)) a3
      | rt r => exact After.fwd (show After Γ lf1 lf RR rf D G1 H1 (.rt r) from q) (s2.trans s3) (t2.trans k3.there)
end
end Dd
set_option Elab.async false
set_option linter.all false
set_option maxRecDepth 100000
set_option maxHeartbeats 2000000
namespace Dd
open PySem PySem.Spec PyProof.Rows L2
/-- a parameter: data, a list that may be changed, a dict that may be changed -/
inductive AK where
  | d | c | k
def FTy (τ : Type) : List AK → Type
  | [] => τ
  | .d :: ks => PD → FTy τ ks
  | .c :: ks => List PD → FTy τ ks
  | .k :: ks => List (Key × PD) → FTy τ ks
/-- a function on data, applied -/
def app {τ : Type} : (ks : List AK) → FTy (Out τ) ks → List PD → List CO → Out τ
  | [], f, [], [] => f
  | .d :: ks, f, d :: ds, cs => app ks (f d) ds cs
  | .c :: ks, f, ds, .l l :: cs => app ks (f l) ds cs
  | .k :: ks, f, ds, .k l :: cs => app ks (f l) ds cs
  | _, _, _, _ => .bad
inductive ArgsA (K : PySem.W.Frag) (G : Hp) : List AK → List V → List PD → List Addr → Prop where
  | nil : ArgsA K G [] [] [] []
  | d {ks : List AK} {v : V} {vs : List V} {x : PD} {ds : List PD} {as : List Addr} : Dp K G v x → ArgsA K G ks vs ds as → ArgsA K G (.d :: ks) (v :: vs) (x :: ds) as
  | c {ks : List AK} {a : Addr} {vs : List V} {ds : List PD} {as : List Addr} : ArgsA K G ks vs ds as → ArgsA K G (.c :: ks) (.ref a :: vs) ds (a :: as)
  | k {ks : List AK} {a : Addr} {vs : List V} {ds : List PD} {as : List Addr} : ArgsA K G ks vs ds as → ArgsA K G (.k :: ks) (.ref a :: vs) ds (a :: as)
theorem ArgsA.len {K : PySem.W.Frag} {G : Hp} {ks : List AK} {vs : List V} {ds : List PD} {as : List Addr} (h : ArgsA K G ks vs ds as) : vs.length = ks.length := by
  induction h with
  | nil => rfl
  | d _ _ ih => simp [ih]
  | c _ ih => simp [ih]
  | k _ ih => simp [ih]
theorem ArgsA.mono {K : PySem.W.Frag} {G G' : Hp} {ks : List AK} {vs : List V} {ds : List PD} {as : List Addr} (e : Same G G') (h : ArgsA K G ks vs ds as) : ArgsA K G' ks vs ds as := by
  induction h with
  | nil => exact .nil
  | d h _ ih => exact .d (dp_mono e h) ih
  | c _ ih => exact .c ih
  | k _ ih => exact .k ih
/-- what a def promises: it does what F says -/
def prm {β : Type} (K : PySem.W.Frag) (mg : Str → Option Value) (ks : List AK) (RR : VR β) (F : FTy (Out (β × List CO)) ks) : Sp := fun vs H Q E => ∃ ds as cs G We, ArgsA K G ks vs ds as ∧ Same G H ∧ CellsOk K G H as cs ∧
  (∀ c fs cls d G' H', We c fs → Grow as G H G' H' → Same G' H' → XR K mg c fs cls d G' H' → E cls d H') ∧
  Res We (app ks F ds cs) (fun r => ∀ v G' H', Grow as G H G' H' → Same G' H' → CellsOk K G' H' as r.2 → RR H G' H' v r.1 → Q v H')
/-- the slots at the entry -/
def rho0 : List AK → List PD → List Addr → Rho
  | .d :: ks, x :: ds, as => some (.d x) :: rho0 ks ds as
  | .c :: ks, ds, a :: as => some (.c a) :: rho0 ks ds as
  | .k :: ks, ds, a :: as => some (.c a) :: rho0 ks ds as
  | _, _, _ => []
theorem env0 {K : PySem.W.Frag} {G : Hp} {ks : List AK} {vs : List V} {ds : List PD} {as : List Addr} (h : ArgsA K G ks vs ds as) (n : Nat) : EnvOk K G (rho0 ks ds as ++ List.replicate n none) (vs.map some ++ List.replicate n none) := by
  induction h with
  | nil =>
    show EnvOk K G (List.replicate n none) (List.replicate n none)
    induction n with
    | zero => exact .nil
    | succ n ih => exact .non ih
  | d h _ ih => exact .som h ih
  | c _ ih => exact .som rfl ih
  | k _ ih => exact .som rfl ih
abbrev RF {β : Type} (RR : VR β) : VR (β × List CO) := fun H0 G H v r => RR H0 G H v r.1
def finE {R : Type} : Ctl Empty R Empty → Out R
  | .rt r => .ok r
  | .nx n => n.elim
  | .bk n => n.elim
  | .ct n => n.elim
/-- a def that falls through hands back None -/
def finN : Ctl (List CO) (PD × List CO) Empty → Out (PD × List CO)
  | .rt r => .ok r
  | .nx n => .ok (.none, n)
  | .bk n => n.elim
  | .ct n => n.elim
/-- the body, told for all arguments -/
def BodyE {β : Type} (X : Cx) (W : XK) (RR : VR β) (body : List Stmt) (n : Nat) : (ks : List AK) → Rho → List Addr → List CO → FTy (Out (β × List CO)) ks → Prop
  | [], ρ, ms, cs, f => ∃ m, SS X W ms (RF RR) Prod.snd noF noF body (ρ ++ List.replicate n none) ms cs m ∧ f = (m >>= finE)
  | .d :: ks, ρ, ms, cs, f => ∀ x, BodyE X W RR body n ks (ρ ++ [some (.d x)]) ms cs (f x)
  | .c :: ks, ρ, ms, cs, f => ∀ a l, BodyE X W RR body n ks (ρ ++ [some (.c a)]) (ms ++ [a]) (cs ++ [.l l]) (f l)
  | .k :: ks, ρ, ms, cs, f => ∀ a l, BodyE X W RR body n ks (ρ ++ [some (.c a)]) (ms ++ [a]) (cs ++ [.k l]) (f l)
def BodyN (X : Cx) (W : XK) (body : List Stmt) (n : Nat) : (ks : List AK) → Rho → List Addr → List CO → FTy (Out (PD × List CO)) ks → Prop
  | [], ρ, ms, cs, f => ∃ m, SS X W ms (RF (RD X.K)) Prod.snd (fun c => (List.replicate (ρ.length + n) none, ms, c)) noF body (ρ ++ List.replicate n none) ms cs m ∧ f = (m >>= finN)
  | .d :: ks, ρ, ms, cs, f => ∀ x, BodyN X W body n ks (ρ ++ [some (.d x)]) ms cs (f x)
  | .c :: ks, ρ, ms, cs, f => ∀ a l, BodyN X W body n ks (ρ ++ [some (.c a)]) (ms ++ [a]) (cs ++ [.l l]) (f l)
  | .k :: ks, ρ, ms, cs, f => ∀ a l, BodyN X W body n ks (ρ ++ [some (.c a)]) (ms ++ [a]) (cs ++ [.k l]) (f l)
section
variable {P : Program} {w : World} {K : PySem.W.Frag} {mg : Str → Option Value} {base : Heap} {β : Type} {RR : VR β} {body : List Stmt} {X : Cx} {W : XK}
theorem bodyE_run : ∀ {ks : List AK} {ρ : Rho} {ms : List Addr} {cs : List CO} {f : FTy (Out (β × List CO)) ks} {n : Nat} {G : Hp} {vs : List V} {ds : List PD} {as : List Addr} {bs : List CO} {We : WE} {Pp : β × List CO → Prop},
    BodyE X W RR body n ks ρ ms cs f → ArgsA X.K G ks vs ds as → Res We (app ks f ds bs) Pp → ∃ m, SS X W (ms ++ as) (RF RR) Prod.snd noF noF body (ρ ++ rho0 ks ds as ++ List.replicate n none) (ms ++ as) (cs ++ bs) m ∧ Res We (m >>= finE) Pp := by
  intro ks
  induction ks with
  | nil =>
    intro ρ ms cs f n G vs ds as bs We Pp h ha hr
    cases ha
    cases bs with
    | cons b bs => exact hr.elim
    | nil =>
      obtain ⟨m, h1, h2⟩ := h
      refine ⟨m, by simpa [rho0] using h1, ?_⟩
      rw [← h2]
      exact hr
  | cons k ks ih =>
    intro ρ ms cs f n G vs ds as bs We Pp h ha hr
    cases ha with
    | @d _ v vs x ds as hd ht =>
      obtain ⟨m, h1, h2⟩ := ih (h x) ht (show Res We (app ks (f x) ds bs) Pp from hr)
      exact ⟨m, by simpa [rho0] using h1, h2⟩
    | @c _ a vs ds as ht =>
      cases bs with
      | nil => exact hr.elim
      | cons b bs =>
        cases b with
        | k l => exact hr.elim
        | l l =>
          obtain ⟨m, h1, h2⟩ := ih (h a l) ht (show Res We (app ks (f l) ds bs) Pp from hr)
          exact ⟨m, by simpa [rho0] using h1, h2⟩
    | @k _ a vs ds as ht =>
      cases bs with
      | nil => exact hr.elim
      | cons b bs =>
        cases b with
        | l l => exact hr.elim
        | k l =>
          obtain ⟨m, h1, h2⟩ := ih (h a l) ht (show Res We (app ks (f l) ds bs) Pp from hr)
          exact ⟨m, by simpa [rho0] using h1, h2⟩
theorem bodyN_run : ∀ {ks : List AK} {ρ : Rho} {ms : List Addr} {cs : List CO} {f : FTy (Out (PD × List CO)) ks} {n : Nat} {G : Hp} {vs : List V} {ds : List PD} {as : List Addr} {bs : List CO} {We : WE} {Pp : PD × List CO → Prop},
    BodyN X W body n ks ρ ms cs f → ArgsA X.K G ks vs ds as → Res We (app ks f ds bs) Pp → ∃ m, SS X W (ms ++ as) (RF (RD X.K)) Prod.snd (fun c => (List.replicate (ρ.length + ks.length + n) none, ms ++ as, c)) noF body (ρ ++ rho0 ks ds as ++ List.replicate n none) (ms ++ as) (cs ++ bs) m ∧ Res We (m >>= finN) Pp := by
  intro ks
  induction ks with
  | nil =>
    intro ρ ms cs f n G vs ds as bs We Pp h ha hr
    cases ha
    cases bs with
    | cons b bs => exact hr.elim
    | nil =>
      obtain ⟨m, h1, h2⟩ := h
      refine ⟨m, by simpa [rho0] using h1, ?_⟩
      rw [← h2]
      exact hr
  | cons k ks ih =>
    intro ρ ms cs f n G vs ds as bs We Pp h ha hr
    cases ha with
    | @d _ v vs x ds as hd ht =>
      obtain ⟨m, h1, h2⟩ := ih (h x) ht (show Res We (app ks (f x) ds bs) Pp from hr)
      exact ⟨m, by simpa [rho0, Nat.add_comm, Nat.add_left_comm, Nat.add_assoc] using h1, h2⟩
    | @c _ a vs ds as ht =>
      cases bs with
      | nil => exact hr.elim
      | cons b bs =>
        cases b with
        | k l => exact hr.elim
        | l l =>
          obtain ⟨m, h1, h2⟩ := ih (h a l) ht (show Res We (app ks (f l) ds bs) Pp from hr)
          exact ⟨m, by simpa [rho0, Nat.add_comm, Nat.add_left_comm, Nat.add_assoc] using h1, h2⟩
    | @k _ a vs ds as ht =>
      cases bs with
      | nil => exact hr.elim
      | cons b bs =>
        cases b with
        | l l => exact hr.elim
        | k l =>
          obtain ⟨m, h1, h2⟩ := ih (h a l) ht (show Res We (app ks (f l) ds bs) Pp from hr)
          exact ⟨m, by simpa [rho0, Nat.add_comm, Nat.add_left_comm, Nat.add_assoc] using h1, h2⟩
/-- the body's context -/
abbrev Bx (P : Program) (w : World) (K : PySem.W.Frag) (mg : Str → Option Value) (base : Heap) (N : List Str) (qual : Str) (st : Stmt) (f : Addr) (cdv : Value) (A : Around) (outer : List Env) (s : Shared) (H : Hp) (E : XK) : Cx :=
  (cxOf CX0 P w K mg base N qual (defScope st) f cdv A outer s H E).nox
theorem fnE {x qual : Str} {st : Stmt} {f : Addr} {fd : FuncData} {N ps : List Str} {k : Nat} {ks : List AK} {fm : FTy (Out (β × List CO)) ks} (F : Fun K x qual st f fd) (S : FnScope N ps (defScope st)) (hl : ks.length = ps.length) (hN : ps.length ≤ N.length)
    (hb : ∀ (cdv : Value) (A : Around) (outer : List Env) (s : Shared) (H : Hp) (E : XK), Room k (A.deeper (envOfC qual (defScope st) s.heap.objs.size f cdv)) → BodyE (Bx P w K mg base N qual st f cdv A outer s H E) E RR (defBody st) (N.length - ps.length) ks [] [] [] fm) :
    FnOk P w K mg base CX0 (k + 1) f fd ps (prm K mg ks RR fm) := by
  refine F.ok S (fun vs H Q E h => ?_) (fun cdv A outer s H vs Q E hr h => ?_)
  · obtain ⟨ds, as, cs, G, We, ha, _⟩ := h
    rw [ha.len, hl]
  · obtain ⟨ds, as, cs, G, We, ha, ex, hc, hE, hres⟩ := h
    obtain ⟨m, ⟨ts, t1, t2⟩, h2⟩ := bodyE_run (hb cdv A outer s H E hr) ha hres
    refine ⟨ts, t1, ?_⟩
    refine t2 ⟨G, H, as, We, E, hE⟩ G _ H _ rfl rfl ⟨ex, hc, ?_, Grow.refl, fun _ m => .inl m⟩ (h2.bind.mono fun c q => ?_)
    · have e := env0 ha (N.length - ps.length)
      show EnvOk K G ([] ++ rho0 ks ds as ++ List.replicate (N.length - ps.length) none) (L2.start N vs)
      unfold L2.start
      rw [ha.len, hl, List.nil_append]
      exact e
    · cases c with
      | rt r => exact fun v G' H' g t x cc gr rr => q v G' H' gr x cc rr
      | nx n => exact n.elim
      | bk n => exact n.elim
      | ct n => exact n.elim
theorem fnN {x qual : Str} {st : Stmt} {f : Addr} {fd : FuncData} {N ps : List Str} {k : Nat} {ks : List AK} {fm : FTy (Out (PD × List CO)) ks} (F : Fun K x qual st f fd) (S : FnScope N ps (defScope st)) (hl : ks.length = ps.length) (hN : ps.length ≤ N.length)
    (hb : ∀ (cdv : Value) (A : Around) (outer : List Env) (s : Shared) (H : Hp) (E : XK), Room k (A.deeper (envOfC qual (defScope st) s.heap.objs.size f cdv)) → BodyN (Bx P w K mg base N qual st f cdv A outer s H E) E (defBody st) (N.length - ps.length) ks [] [] [] fm) :
    FnOk P w K mg base CX0 (k + 1) f fd ps (prm K mg ks (RD K) fm) := by
  refine F.ok S (fun vs H Q E h => ?_) (fun cdv A outer s H vs Q E hr h => ?_)
  · obtain ⟨ds, as, cs, G, We, ha, _⟩ := h
    rw [ha.len, hl]
  · obtain ⟨ds, as, cs, G, We, ha, ex, hc, hE, hres⟩ := h
    obtain ⟨m, ⟨ts, t1, t2⟩, h2⟩ := bodyN_run (hb cdv A outer s H E hr) ha hres
    refine ⟨ts, t1, ?_⟩
    refine t2 ⟨G, H, as, We, E, hE⟩ G _ H _ rfl rfl ⟨ex, hc, ?_, Grow.refl, fun _ m => .inl m⟩ (h2.bind.mono fun c q => ?_)
    · have e := env0 ha (N.length - ps.length)
      show EnvOk K G ([] ++ rho0 ks ds as ++ List.replicate (N.length - ps.length) none) (L2.start N vs)
      unfold L2.start
      rw [ha.len, hl, List.nil_append]
      exact e
    · cases c with
      | rt r => exact fun v G' H' g t x cc gr rr => q v G' H' gr x cc rr
      | nx n => exact fun σ' G' H' g t c => q .non G' H' c.grow c.ex c.cells .non
      | bk n => exact n.elim
      | ct n => exact n.elim
end

/-! ### calls -/
theorem cells_mk {K : PySem.W.Frag} {G H : Hp} : ∀ {ms : List Addr} {cs : List CO}, ms.length = cs.length → ms.Nodup → (∀ (j : Nat) (a : Addr) (c : CO), ms[j]? = some a → cs[j]? = some c → G a = none ∧ CellOk K G H a c) → CellsOk K G H ms cs
  | [], [], _, _, _ => .nil
  | [], _ :: _, h, _, _ => by simp at h
  | _ :: _, [], h, _, _ => by simp at h
  | a :: ms, c :: cs, hl, hn, h => by
    obtain ⟨h1, h2⟩ := List.nodup_cons.mp hn
    obtain ⟨q1, q2⟩ := h 0 a c rfl rfl
    exact .cons q1 q2 h1 (cells_mk (by simpa using hl) h2 fun j b d e1 e2 => h (j + 1) b d (by simpa using e1) (by simpa using e2))
theorem cells_nd {K : PySem.W.Frag} {G H : Hp} {ms : List Addr} {cs : List CO} (h : CellsOk K G H ms cs) : ms.Nodup := by
  induction h with
  | nil => exact List.nodup_nil
  | cons _ _ n _ ih => exact List.nodup_cons.mpr ⟨n, ih⟩
def pickC : List Nat → List CO → Option (List CO)
  | [], _ => some []
  | j :: js, cs => match cs[j]? with
    | some c => (pickC js cs).map (c :: ·)
    | none => none
def putC : List Nat → List CO → List CO → List CO
  | j :: js, c :: ls, cs => putC js ls (cs.set j c)
  | _, _, cs => cs
def pickA : List Nat → List Addr → List Addr
  | [], _ => []
  | j :: js, ms => match ms[j]? with
    | some a => a :: pickA js ms
    | none => pickA js ms
theorem putC_len : ∀ (js : List Nat) (ls cs : List CO), (putC js ls cs).length = cs.length
  | [], _, _ => rfl
  | _ :: _, [], _ => rfl
  | j :: js, c :: ls, cs => by
    show (putC js ls (cs.set j c)).length = _
    rw [putC_len js ls, List.length_set]
theorem putC_out : ∀ (js : List Nat) (ls cs : List CO) {i : Nat}, i ∉ js → (putC js ls cs)[i]? = cs[i]?
  | [], _, _, _, _ => rfl
  | _ :: _, [], _, _, _ => rfl
  | j :: js, c :: ls, cs, i, h => by
    show (putC js ls (cs.set j c))[i]? = _
    rw [putC_out js ls _ (fun z => h (List.mem_cons_of_mem _ z)), List.getElem?_set_ne (fun z => h (by simp [z]))]
theorem putC_in : ∀ (js : List Nat) (ls cs : List CO) {t i : Nat} {c : CO}, js.Nodup → js[t]? = some i → ls[t]? = some c → i < cs.length → (putC js ls cs)[i]? = some c
  | [], _, _, _, _, _, _, h, _, _ => by simp at h
  | _ :: _, [], _, _, _, _, _, _, h, _ => by simp at h
  | j :: js, c0 :: ls, cs, 0, i, c, hn, h1, h2, hl => by
    simp at h1 h2
    subst h1 h2
    show (putC js ls (cs.set j c0))[j]? = _
    rw [putC_out js ls _ (List.nodup_cons.mp hn).1, List.getElem?_set_self hl]
  | j :: js, c0 :: ls, cs, t + 1, i, c, hn, h1, h2, hl => by
    show (putC js ls (cs.set j c0))[i]? = _
    exact putC_in js ls _ (List.nodup_cons.mp hn).2 (by simpa using h1) (by simpa using h2) (by rw [List.length_set]; exact hl)
theorem pickC_get : ∀ {js : List Nat} {cs ls : List CO}, pickC js cs = some ls → ls.length = js.length ∧ ∀ (t : Nat) (c : CO), ls[t]? = some c → ∃ j, js[t]? = some j ∧ cs[j]? = some c
  | [], _, _, h => by
    cases h
    exact ⟨rfl, fun t c h => by simp at h⟩
  | j :: js, cs, ls, h => by
    unfold pickC at h
    cases e : cs[j]? with
    | none => rw [e] at h; cases h
    | some c0 =>
      rw [e] at h
      cases e2 : pickC js cs with
      | none => rw [e2] at h; cases h
      | some l2 =>
        rw [e2] at h
        cases h
        obtain ⟨h1, h2⟩ := pickC_get e2
        refine ⟨by simp [h1], fun t c q => ?_⟩
        cases t with
        | zero => simp at q; subst q; exact ⟨j, rfl, e⟩
        | succ t =>
          obtain ⟨j', a, b⟩ := h2 t c (by simpa using q)
          exact ⟨j', by simpa using a, b⟩
def okJ (js : List Nat) (n : Nat) : Bool := js.all fun j => decide (j < n)
theorem pickA_get {ms : List Addr} : ∀ {js : List Nat}, okJ js ms.length = true → (pickA js ms).length = js.length ∧ ∀ (t : Nat) (j : Nat), js[t]? = some j → (pickA js ms)[t]? = ms[j]? ∧ j < ms.length
  | [], _ => ⟨rfl, fun t j h => by simp at h⟩
  | j :: js, h => by
    have h' : (decide (j < ms.length) && okJ js ms.length) = true := h
    rw [Bool.and_eq_true] at h'
    have hj := of_decide_eq_true h'.1
    obtain ⟨h1, h2⟩ := pickA_get h'.2
    have e : ms[j]? = some ms[j] := by simp [hj]
    have e2 : pickA (j :: js) ms = ms[j] :: pickA js ms := by
      show (match ms[j]? with | some a => a :: pickA js ms | none => pickA js ms) = _
      rw [e]
    rw [e2]
    refine ⟨by simp [h1], fun t i q => ?_⟩
    cases t with
    | zero => simp at q; subst q; exact ⟨e.symm, hj⟩
    | succ t => simpa using h2 t i (by simpa using q)
section
variable {K : PySem.W.Frag} {mg : Str → Option Value} {Γ : Gam K mg} {G H G' H' : Hp} {ρ : Rho} {σ : L2.St} {ms : List Addr} {cs ls : List CO} {js : List Nat}
/-- the cells that go into a call -/
theorem cells_pick (h : CellsOk K G H ms cs) (hj : okJ js ms.length = true) (nj : js.Nodup) (hp : pickC js cs = some ls) : CellsOk K G H (pickA js ms) ls := by
  obtain ⟨p1, p2⟩ := pickC_get hp
  obtain ⟨a1, a2⟩ := pickA_get hj
  have nd := cells_nd h
  refine cells_mk (by rw [p1, a1]) ?_ fun t a c e1 e2 => ?_
  · refine List.pairwise_iff_getElem.mpr fun i j hi' hj' hij e0 => ?_
    have hjl : j < js.length := by omega
    have hi : i < js.length := by omega
    have e : (pickA js ms)[i]? = (pickA js ms)[j]? := by
      rw [List.getElem?_eq_getElem hi', List.getElem?_eq_getElem hj', e0]
    obtain ⟨b1, b2⟩ := a2 i js[i] (by simp [hi])
    obtain ⟨c1, c2⟩ := a2 j js[j] (by simp [hjl])
    rw [b1, c1] at e
    have e3 : ms[js[i]] = ms[js[j]] := by simpa [b2, c2] using e
    have e4 := (List.getElem_inj nd).mp e3
    have e5 := (List.getElem_inj nj).mp e4
    omega
  · obtain ⟨j, q1, q2⟩ := p2 t c e2
    obtain ⟨b1, b2⟩ := a2 t j q1
    rw [b1] at e1
    exact cells_get h e1 q2
/-- behind the call -/
theorem Cfg.called (c : Cfg Γ G ρ ms cs σ H) (hj : okJ js ms.length = true) (nj : js.Nodup) (gr : Grow (pickA js ms) G H G' H') (ex : Same G' H') (hc : CellsOk K G' H' (pickA js ms) ls) : Cfg Γ G' ρ ms (putC js ls cs) σ H' := by
  obtain ⟨a1, a2⟩ := pickA_get hj
  have nd := cells_nd c.cells
  have inj : ∀ {t j a}, js[t]? = some j → ms[j]? = some a → (pickA js ms)[t]? = some a := fun h1 h2 => by rw [(a2 _ _ h1).1]; exact h2
  refine ⟨ex, cells_mk (by rw [putC_len]; exact cells_len c.cells) nd fun j a co e1 e2 => ?_, env_mono gr.gg c.env, ⟨c.grow.gg.trans gr.gg, fun b o n h => gr.hh b o (fun m => ?_) (c.grow.hh b o n h), fun b o h => ?_, fun b o h n => ?_⟩, c.loc⟩
  · by_cases hm : j ∈ js
    · obtain ⟨t, ht⟩ := List.mem_iff_getElem?.mp hm
      have hl : t < ls.length := by
        have := cells_len hc
        rw [a1] at this
        have := (List.getElem?_eq_some_iff.mp ht).1
        omega
      have e3 := putC_in js ls cs nj ht (c := ls[t]) (by simp [hl]) (by
        have := (List.getElem?_eq_some_iff.mp e1).1
        have := cells_len c.cells
        omega)
      rw [e3] at e2
      cases e2
      exact cells_get hc (inj ht e1) (by simp [hl])
    · rw [putC_out js ls cs hm] at e2
      obtain ⟨g1, g2⟩ := cells_get c.cells e1 e2
      have na : a ∉ pickA js ms := fun z => by
        obtain ⟨t, ht⟩ := List.mem_iff_getElem?.mp z
        have hl : t < js.length := by
          have := (List.getElem?_eq_some_iff.mp ht).1
          omega
        obtain ⟨b1, b2⟩ := a2 t js[t] (by simp [hl])
        rw [b1] at ht
        have e4 : ms[js[t]]? = ms[j]? := ht.trans e1.symm
        have hjl := (List.getElem?_eq_some_iff.mp e1).1
        have e5 : ms[js[t]] = ms[j] := by simpa [b2, hjl] using e4
        have e6 := (List.getElem_inj nd).mp e5
        exact hm (by rw [← e6]; exact List.getElem_mem hl)
      obtain ⟨_, o, ho⟩ := cells_mem c.cells (List.mem_of_getElem? e1)
      exact ⟨gr.nw a o ho g1, cell_to g2 gr.gg fun o' h => gr.hh a o' na h⟩
  · have hb : b ∈ ms := by
      obtain ⟨t, ht⟩ := List.mem_iff_getElem?.mp m
      have hl : t < js.length := by
        have := (List.getElem?_eq_some_iff.mp ht).1
        omega
      obtain ⟨b1, b2⟩ := a2 t js[t] (by simp [hl])
      rw [b1] at ht
      exact List.mem_of_getElem? ht
    rcases c.loc b hb with z | z
    · exact n z
    · rw [z] at h; cases h
  · obtain ⟨o', h'⟩ := c.grow.th b o h
    exact gr.th b o' h'
  · obtain ⟨o', h'⟩ := c.grow.th b o h
    exact gr.nw b o' h' (c.grow.nw b o h n)
end
/-- an argument list with cells -/
def SemArg (K : PySem.W.Frag) (mg : Str → Option Value) (W : XK) (ks : List AK) (js : List Nat) (ta : TA) (ρ : Rho) (ms : List Addr) (cs : List CO) (m : Out (List PD × List CO)) : Prop :=
  ∀ (Γ : Gam K mg) (G : Hp) (σ : L2.St) (H : Hp) (Q : List V → Hp → Prop), Γ.W = W → Cfg Γ G ρ ms cs σ H → Res Γ.We m (fun b => ∀ vs G' H', Same G G' → Cfg Γ G' ρ ms b.2 σ H' → There H H' → ArgsA K G' ks vs b.1 (pickA js ms) → Q vs H') → ta σ H Q
def GX (X : Cx) (W : XK) (ks : List AK) (js : List Nat) (es : List Expr) (ρ : Rho) (ms : List Addr) (cs : List CO) (m : Out (List PD × List CO)) : Prop := ∃ ta, PA X es ta ∧ SemArg X.K X.mg W ks js ta ρ ms cs m
section
variable {X : Cx} {W : XK} {e : Expr} {es : List Expr} {ρ : Rho} {ms : List Addr} {cs : List CO} {pos p : Pos} {ks : List AK} {js : List Nat}
theorem gx_nil : GX X W [] [] [] ρ ms cs (.ok ([], cs)) := ⟨_, pa_nil, fun Γ G σ H Q hw c hr => hr [] G H (Same.refl _) c (Kept.there (Same.refl _)) .nil⟩
theorem gx_all {m : List CO → Out (List PD × List CO)} (h : ∀ cs, GX X W ks js es ρ ms cs (m cs)) : ∃ ta, PA X es ta ∧ ∀ cs, SemArg X.K X.mg W ks js ta ρ ms cs (m cs) := by
  refine ⟨_, pa_all (t := fun cs => (h cs).choose) fun cs => (h cs).choose_spec.1, fun cs Γ G σ H Q hw c hr => ⟨cs, (h cs).choose_spec.2 Γ G σ H Q hw c hr⟩⟩
theorem gx_d {ma : Out PD} {mr : Out (List PD × List CO)} (ha : EP X W (RD X.K) e ρ ms cs ma) (hr : GX X W ks js es ρ ms cs mr) (hs : starEach (e :: es) X.env = (false, eval e X.env) :: starEach es X.env := by rfl) : GX X W (.d :: ks) js (e :: es) ρ ms cs (ma >>= fun x => mr >>= fun xs => .ok (x :: xs.1, xs.2)) := by
  obtain ⟨ta, a1, a2⟩ := ha
  obtain ⟨tr, b1, b2⟩ := hr
  refine ⟨_, pa_cons a1 b1 hs, fun Γ G σ H Q hw c hr => a2 Γ G σ H _ hw c (hr.bind.mono fun x k v G1 H1 g1 c1 k1 r1 => b2 Γ G1 σ H1 _ hw c1 (k.bind.mono fun xs k2 vs G2 H2 g2 c2 k2' r2 => ?_))⟩
  exact k2 (v :: vs) G2 H2 (g1.trans g2) c2 (k1.there.trans k2') (.d (dp_mono g2 r1) r2)
theorem gx_x {ma : Out (PD × List CO)} {mr : List CO → Out (List PD × List CO)} (ha : EX X W (RD X.K) e ρ ms cs ma) (hr : ∀ cs1, GX X W ks js es ρ ms cs1 (mr cs1)) (hs : starEach (e :: es) X.env = (false, eval e X.env) :: starEach es X.env := by rfl) : GX X W (.d :: ks) js (e :: es) ρ ms cs (ma >>= fun x => mr x.2 >>= fun xs => .ok (x.1 :: xs.1, xs.2)) := by
  obtain ⟨ta, a1, a2⟩ := ha
  obtain ⟨tr, b1, b2⟩ := gx_all hr
  refine ⟨_, pa_cons a1 b1 hs, fun Γ G σ H Q hw c hr => a2 Γ G σ H _ hw c (hr.bind.mono fun x k v G1 H1 g1 c1 k1 r1 => b2 x.2 Γ G1 σ H1 _ hw c1 (k.bind.mono fun xs k2 vs G2 H2 g2 c2 k2' r2 => ?_))⟩
  exact k2 (v :: vs) G2 H2 (g1.trans g2) c2 (k1.trans k2') (.d (dp_mono g2 r1) r2)
theorem gx_c (i j : Nat) {x : Str} {ad : Addr} {mr : Out (List PD × List CO)} (hr : GX X W ks js es ρ ms cs mr) (h : ρ[i]? = some (some (.c ad)) := by rfl) (h1 : ms[j]? = some ad := by rfl) (hN : X.N[i]? = some x := by rfl)
    (hv : Vis X.env.scope x := by first | exact Or.inl rfl | exact Or.inr (Or.inl rfl) | exact Or.inr (Or.inr rfl)) (hd : (x == ("__debug__" : Str)) = false := by decide) (hcd : (x == ("__classdict__" : Str)) = false := by decide) (hs : starEach (.Name x p :: es) X.env = (false, eval (.Name x p) X.env) :: starEach es X.env := by rfl) :
    GX X W (.c :: ks) (j :: js) (.Name x p :: es) ρ ms cs mr := by
  obtain ⟨tr, b1, b2⟩ := hr
  refine ⟨_, pa_cons (pe_var hN hv hd hcd) b1 hs, fun Γ G σ H Q hw c hr => ?_⟩
  obtain ⟨v, h3, h4⟩ := env_get c.env h
  subst h4
  refine ⟨_, h3, b2 Γ G σ H _ hw c (hr.mono fun xs k2 vs G2 H2 g2 c2 k2' r2 => k2 _ G2 H2 g2 c2 k2' ?_)⟩
  show ArgsA X.K G2 (.c :: ks) (.ref ad :: vs) xs.1 (match ms[j]? with | some a => a :: pickA js ms | none => pickA js ms)
  rw [h1]
  exact .c r2
theorem gx_k (i j : Nat) {x : Str} {ad : Addr} {mr : Out (List PD × List CO)} (hr : GX X W ks js es ρ ms cs mr) (h : ρ[i]? = some (some (.c ad)) := by rfl) (h1 : ms[j]? = some ad := by rfl) (hN : X.N[i]? = some x := by rfl)
    (hv : Vis X.env.scope x := by first | exact Or.inl rfl | exact Or.inr (Or.inl rfl) | exact Or.inr (Or.inr rfl)) (hd : (x == ("__debug__" : Str)) = false := by decide) (hcd : (x == ("__classdict__" : Str)) = false := by decide) (hs : starEach (.Name x p :: es) X.env = (false, eval (.Name x p) X.env) :: starEach es X.env := by rfl) :
    GX X W (.k :: ks) (j :: js) (.Name x p :: es) ρ ms cs mr := by
  obtain ⟨tr, b1, b2⟩ := hr
  refine ⟨_, pa_cons (pe_var hN hv hd hcd) b1 hs, fun Γ G σ H Q hw c hr => ?_⟩
  obtain ⟨v, h3, h4⟩ := env_get c.env h
  subst h4
  refine ⟨_, h3, b2 Γ G σ H _ hw c (hr.mono fun xs k2 vs G2 H2 g2 c2 k2' r2 => k2 _ G2 H2 g2 c2 k2' ?_)⟩
  show ArgsA X.K G2 (.k :: ks) (.ref ad :: vs) xs.1 (match ms[j]? with | some a => a :: pickA js ms | none => pickA js ms)
  rw [h1]
  exact .k r2
/-- back to an earlier heap -/
def Back {β : Type} (R : VR β) : Prop := ∀ H0 H1 G H v b, There H0 H1 → R H1 G H v b → R H0 G H v b
theorem back_d {K : PySem.W.Frag} : Back (RD K) := fun _ _ _ _ _ _ _ h => h
theorem back_l {K : PySem.W.Frag} : Back (RL K) := fun _ _ _ _ _ _ t ⟨p, vs, e, h0, r⟩ => ⟨p, vs, e, t.free h0, r⟩
def callC {β : Type} (js : List Nat) (cs : List CO) (f : List CO → Out (β × List CO)) : Out (β × List CO) := match pickC js cs with
  | some ls => f ls >>= fun r => .ok (r.1, putC js r.2 cs)
  | none => .bad
/-- f(..) with cells -/
theorem ex_call {β : Type} {RR : VR β} {fm : FTy (Out (β × List CO)) ks} {m : Out (List PD × List CO)} {CX : CXT} {k : Nat} {f : Addr} {fd : FuncData} {ps : List Str} {x : Str} (Fk : FnOk X.prog X.w X.K X.mg X.base CX k f fd ps (prm X.K X.mg ks RR fm)) (hB : Back RR) (hr : Room k X.A) (hm : X.mg x = some (.ref f)) (hk : PySem.W.keepIn X.K (.ref f) = true) (hb : Binds X.K fd ps [])
    (hx : Passes CX X W) (ha : GX X W ks js (e :: es) ρ ms cs m) (hj : okJ js ms.length = true := by rfl) (nj : js.Nodup := by decide) (hg : Gl X x := by rfl) (hdb : (x == ("__debug__" : Str)) = false := by decide) (he : starEach (e :: es) X.env = (false, eval e X.env) :: starEach es X.env := by rfl) (hpl : (backTo pos (starEach es X.env)).any (·.1) = false := by rfl) :
    EX X W RR (.Call (.Name x p) (e :: es) [] pos) ρ ms cs (m >>= fun a => callC js a.2 (app ks fm a.1)) := by
  obtain ⟨ta, a1, a2⟩ := ha
  refine ⟨_, pe_call Fk hr hg hm hk hb .nil hx a1 hdb he hpl, fun Γ G σ H Q hw c hres => a2 Γ G σ H _ hw c (hres.bind.mono fun a q vs G1 H1 g1 c1 t1 r1 => ?_)⟩
  rw [List.append_nil]
  unfold callC at q
  cases ep : pickC js a.2 with
  | none => rw [ep] at q; exact q.elim
  | some ls =>
    rw [ep] at q
    refine ⟨a.1, pickA js ms, ls, G1, Γ.We, r1, c1.ex, cells_pick c1.cells hj nj ep, fun z fs cls d G' H' we gr ex xr => ?_, (Res.bind q).mono fun r q2 v G' H' gr ex cc rr => ?_⟩
    · rw [← hw]
      refine Γ.ok z fs cls d G' H' we ⟨c1.grow.gg.trans gr.gg, fun b o n h => gr.hh b o (fun mm => ?_) (c1.grow.hh b o n h), fun b o h => ?_, fun b o h n => ?_⟩ ex xr
      · obtain ⟨a1', a2'⟩ := pickA_get hj
        obtain ⟨t, ht⟩ := List.mem_iff_getElem?.mp mm
        have hl : t < js.length := by
          have := (List.getElem?_eq_some_iff.mp ht).1
          omega
        obtain ⟨b1, b2⟩ := a2' t js[t] (by simp [hl])
        rw [b1] at ht
        rcases c1.loc b (List.mem_of_getElem? ht) with z | z
        · exact n z
        · rw [z] at h; cases h
      · obtain ⟨o', h'⟩ := c1.grow.th b o h
        exact gr.th b o' h'
      · obtain ⟨o', h'⟩ := c1.grow.th b o h
        exact gr.nw b o' h' (c1.grow.nw b o h n)
    · have q3 : ∀ v G' H', Same G G' → Cfg Γ G' ρ ms (putC js r.2 a.2) σ H' → There H H' → RR H G' H' v r.1 → Q v H' := q2
      exact q3 v G' H' (g1.trans gr.gg) (c1.called hj nj gr ex cc) (t1.trans gr.th) (hB _ _ _ _ _ _ t1 rr)
def dOnly {β : Type} (f : Out (β × List CO)) : Out β := f >>= fun r => .ok r.1
/-- f(..), data alone -/
theorem ep_call {β : Type} {RR : VR β} {fm : FTy (Out (β × List CO)) ks} {m : Out (List PD)} {CX : CXT} {k : Nat} {f : Addr} {fd : FuncData} {ps : List Str} {x : Str} (Fk : FnOk X.prog X.w X.K X.mg X.base CX k f fd ps (prm X.K X.mg ks RR fm)) (hB : Back RR) (hr : Room k X.A) (hm : X.mg x = some (.ref f)) (hk : PySem.W.keepIn X.K (.ref f) = true) (hb : Binds X.K fd ps [])
    (hx : Passes CX X W) (ha : AP X W (e :: es) ρ ms cs m) (hks : ks = (e :: es).map fun _ => AK.d := by rfl) (hg : Gl X x := by rfl) (hdb : (x == ("__debug__" : Str)) = false := by decide) (he : starEach (e :: es) X.env = (false, eval e X.env) :: starEach es X.env := by rfl) (hpl : (backTo pos (starEach es X.env)).any (·.1) = false := by rfl) :
    EP X W RR (.Call (.Name x p) (e :: es) [] pos) ρ ms cs (m >>= fun a => dOnly (app ks fm a [])) := by
  obtain ⟨ta, a1, a2⟩ := ha
  refine ⟨_, pe_call Fk hr hg hm hk hb .nil hx a1 hdb he hpl, fun Γ G σ H Q hw c hres => a2 Γ G σ H _ hw c (hres.bind.mono fun a q vs G1 H1 g1 c1 t1 r1 n1 => ?_)⟩
  rw [List.append_nil]
  have args : ∀ {l : List Expr} {vs : List V} {ds : List PD}, DpAll X.K G1 vs ds → ds.length = l.length → ArgsA X.K G1 (l.map fun _ => AK.d) vs ds [] := by
    intro l
    induction l with
    | nil =>
      intro vs ds r n
      cases r with
      | nil => exact .nil
      | cons _ _ => simp at n
    | cons e l ih =>
      intro vs ds r n
      cases r with
      | nil => simp at n
      | cons h t => exact .d h (ih t (by simpa using n))
  have ra := args r1 n1
  rw [← hks] at ra
  refine ⟨a, [], [], G1, Γ.We, ra, c1.ex, .nil, fun z fs cls d G' H' we gr ex xr => ?_, (Res.bind q).mono fun r q2 v G' H' gr ex cc rr => ?_⟩
  · rw [← hw]
    refine Γ.ok z fs cls d G' H' we ⟨c1.grow.gg.trans gr.gg, fun b o n h => gr.hh b o (by simp) (c1.grow.hh b o n h), fun b o h => ?_, fun b o h n => ?_⟩ ex xr
    · obtain ⟨o', h'⟩ := c1.grow.th b o h
      exact gr.th b o' h'
    · obtain ⟨o', h'⟩ := c1.grow.th b o h
      exact gr.nw b o' h' (c1.grow.nw b o h n)
  · have q3 : ∀ v G' H', Same G G' → Cfg Γ G' ρ ms cs σ H' → Kept H H' → RR H G' H' v r.1 → Q v H' := q2
    have kp : Kept H1 H' := fun b o h => gr.hh b o (by simp) h
    exact q3 v G' H' (g1.trans gr.gg) (c1.keep gr.gg kp ex gr.nw) (t1.trans kp) (hB _ _ _ _ _ _ t1.there rr)
theorem ep_call0 {β : Type} {RR : VR β} {fm : FTy (Out (β × List CO)) []} {CX : CXT} {k : Nat} {f : Addr} {fd : FuncData} {x : Str} (Fk : FnOk X.prog X.w X.K X.mg X.base CX k f fd [] (prm X.K X.mg [] RR fm)) (hr : Room k X.A) (hm : X.mg x = some (.ref f)) (hk : PySem.W.keepIn X.K (.ref f) = true) (hb : Binds X.K fd [] [])
    (hx : Passes CX X W) (hg : Gl X x := by rfl) (hdb : (x == ("__debug__" : Str)) = false := by decide) :
    EP X W RR (.Call (.Name x p) [] [] pos) ρ ms cs (dOnly fm) := by
  refine ⟨_, pe_call0 Fk hr hg hm hk hb .nil hx hdb, fun Γ G σ H Q hw c hres => ?_⟩
  refine ⟨[], [], [], G, Γ.We, .nil, c.ex, .nil, fun z fs cls d G' H' we gr ex xr => ?_, (Res.bind hres).mono fun r q2 v G' H' gr ex cc rr => ?_⟩
  · rw [← hw]
    refine Γ.ok z fs cls d G' H' we ⟨c.grow.gg.trans gr.gg, fun b o n h => gr.hh b o (by simp) (c.grow.hh b o n h), fun b o h => ?_, fun b o h n => ?_⟩ ex xr
    · obtain ⟨o', h'⟩ := c.grow.th b o h
      exact gr.th b o' h'
    · obtain ⟨o', h'⟩ := c.grow.th b o h
      exact gr.nw b o' h' (c.grow.nw b o h n)
  · have q3 : ∀ v G' H', Same G G' → Cfg Γ G' ρ ms cs σ H' → Kept H H' → RR H G' H' v r.1 → Q v H' := q2
    have kp : Kept H H' := fun b o h => gr.hh b o (by simp) h
    exact q3 v G' H' gr.gg (c.keep gr.gg kp ex gr.nw) kp rr
/-- f(new list, data ..) -/
theorem ex_callF {β : Type} {RR : VR β} {fm : FTy (Out (β × List CO)) (.c :: ks)} {m0 : Out (List PD × List CO)} {m : List CO → Out (List PD × List CO)} {CX : CXT} {k : Nat} {f : Addr} {fd : FuncData} {ps : List Str} {x : Str} (Fk : FnOk X.prog X.w X.K X.mg X.base CX k f fd ps (prm X.K X.mg (.c :: ks) RR fm)) (hB : Back RR) (hr : Room k X.A) (hm : X.mg x = some (.ref f)) (hk : PySem.W.keepIn X.K (.ref f) = true) (hb : Binds X.K fd ps [])
    (hx : Passes CX X W) (h0 : EX X W (RL X.K) e ρ ms cs m0) (ha : ∀ cs1, GX X W ks js es ρ ms cs1 (m cs1)) (hj : okJ js ms.length = true := by rfl) (nj : js.Nodup := by decide) (hg : Gl X x := by rfl) (hdb : (x == ("__debug__" : Str)) = false := by decide) (he : starEach (e :: es) X.env = (false, eval e X.env) :: starEach es X.env := by rfl) (hpl : (backTo pos (starEach es X.env)).any (·.1) = false := by rfl) :
    EX X W RR (.Call (.Name x p) (e :: es) [] pos) ρ ms cs (m0 >>= fun l => m l.2 >>= fun a => callC js a.2 fun ls => app (.c :: ks) fm a.1 (.l l.1 :: ls) >>= fun r => .ok (r.1, r.2.tail)) := by
  obtain ⟨te, e1, e2⟩ := h0
  obtain ⟨ta, a1, a2⟩ := gx_all ha
  refine ⟨_, pe_call Fk hr hg hm hk hb .nil hx (pa_cons e1 a1 he) hdb he hpl, fun Γ G σ H Q hw c hres => e2 Γ G σ H _ hw c (hres.bind.mono fun l q v0 G0 H0 g0 c0 t0 r0 => ?_)⟩
  obtain ⟨pa, vs0, rfl, h0, gp, hp, hd⟩ := r0
  obtain ⟨n1, n2⟩ := fresh_ok c h0
  have cc0 : Cfg (⟨G0, H0, ms, Γ.We, W, fun z fs cls d G' H' we gr ex xr => by
      rw [← hw]
      refine Γ.ok z fs cls d G' H' we ⟨c0.grow.gg.trans gr.gg, fun b o n h => gr.hh b o (fun mm => ?_) (c0.grow.hh b o n h), fun b o h => ?_, fun b o h n => ?_⟩ ex xr
      · rcases c0.loc b mm with z | z
        · exact n z
        · rw [z] at h; cases h
      · obtain ⟨o', h'⟩ := c0.grow.th b o h
        exact gr.th b o' h'
      · obtain ⟨o', h'⟩ := c0.grow.th b o h
        exact gr.nw b o' h' (c0.grow.nw b o h n)⟩ : Gam X.K X.mg) G0 ρ ms l.2 σ H0 := ⟨c0.ex, c0.cells, c0.env, Grow.refl, fun _ m => .inl m⟩
  refine a2 l.2 _ G0 σ H0 _ rfl cc0 (Res.mono (Res.bind (show Res Γ.We (m l.2 >>= fun a => callC js a.2 fun ls => app (.c :: ks) fm a.1 (.l l.1 :: ls) >>= fun r => .ok (r.1, r.2.tail)) _ from q)) fun a q vs G1 H1 g1 c1 t1 r1 => ?_)
  have hp1 : H1 pa = some (.lst vs0) := c1.grow.hh pa _ n1 hp
  have gp1 : G1 pa = none := c1.grow.nw pa _ hp gp
  have cΓ : Cfg Γ G1 ρ ms a.2 σ H1 := c0.rejoin rfl rfl rfl c1
  show prm X.K X.mg (.c :: ks) RR fm (V.ref pa :: (vs ++ [])) H1 Q W
  rw [List.append_nil]
  unfold callC at q
  cases ep : pickC js a.2 with
  | none => rw [ep] at q; exact q.elim
  | some ls =>
    rw [ep] at q
    have q1 : Res Γ.We ((app (.c :: ks) fm a.1 (.l l.1 :: ls) >>= fun r => .ok (r.1, r.2.tail)) >>= fun r => .ok (r.1, putC js r.2 a.2)) _ := q
    have np : pa ∉ pickA js ms := fun z => by
      obtain ⟨a1', a2'⟩ := pickA_get hj
      obtain ⟨t, ht⟩ := List.mem_iff_getElem?.mp z
      have hl : t < js.length := by
        have := (List.getElem?_eq_some_iff.mp ht).1
        omega
      obtain ⟨b1, b2⟩ := a2' t js[t] (by simp [hl])
      rw [b1] at ht
      exact n1 (List.mem_of_getElem? ht)
    refine ⟨a.1, pa :: pickA js ms, .l l.1 :: ls, G1, Γ.We, .c r1, c1.ex, .cons gp1 ⟨vs0, hp1, dpa_mono g1 hd⟩ np (cells_pick c1.cells hj nj ep), fun z fs cls d G' H' we gr ex xr => ?_, (Res.bind (Res.bind q1)).mono fun r q2 v G' H' gr ex cc rr => ?_⟩
    · rw [← hw]
      refine Γ.ok z fs cls d G' H' we ⟨cΓ.grow.gg.trans gr.gg, fun b o n h => gr.hh b o (fun mm => ?_) (cΓ.grow.hh b o n h), fun b o h => ?_, fun b o h n => ?_⟩ ex xr
      · rcases List.mem_cons.mp mm with e | mm
        · subst e; rw [n2] at h; cases h
        · obtain ⟨a1', a2'⟩ := pickA_get hj
          obtain ⟨t, ht⟩ := List.mem_iff_getElem?.mp mm
          have hl : t < js.length := by
            have := (List.getElem?_eq_some_iff.mp ht).1
            omega
          obtain ⟨b1, b2⟩ := a2' t js[t] (by simp [hl])
          rw [b1] at ht
          rcases c1.loc b (List.mem_of_getElem? ht) with z | z
          · rcases cΓ.loc b z with z | z
            · exact n z
            · rw [z] at h; cases h
          · have := c0.grow.th b o h
            obtain ⟨o', h'⟩ := this
            rw [show H0 b = none from z] at h'; cases h'
      · obtain ⟨o', h'⟩ := cΓ.grow.th b o h
        exact gr.th b o' h'
      · obtain ⟨o', h'⟩ := cΓ.grow.th b o h
        exact gr.nw b o' h' (cΓ.grow.nw b o h n)
    · have q3 : ∀ v G' H', Same G G' → Cfg Γ G' ρ ms (putC js r.2.tail a.2) σ H' → There H H' → RR H G' H' v r.1 → Q v H' := q2
      obtain ⟨rb, rl⟩ := r
      cases cc with
      | @cons _ cx _ cxs k1 k2 k3 k4 =>
        refine q3 v G' H' (g0.trans (g1.trans gr.gg)) ?_ (t0.trans (t1.trans gr.th)) (hB _ _ _ _ _ _ (t0.trans t1) rr)
        -- the temporary list is forgotten
        have c2 : Cfg Γ G1 ρ (pa :: ms) (.l l.1 :: a.2) σ H1 := cΓ.cell gp1 n1 n2 hp1 (dpa_mono g1 hd)
        have pj : pickA (0 :: js.map (· + 1)) (pa :: ms) = pa :: pickA js ms := by
          have sh : ∀ js : List Nat, pickA (js.map (· + 1)) (pa :: ms) = pickA js ms := by
            intro js
            induction js with
            | nil => rfl
            | cons j js ih =>
              show (match (pa :: ms)[j + 1]? with | some a => a :: pickA (js.map (· + 1)) (pa :: ms) | none => pickA (js.map (· + 1)) (pa :: ms)) = (match ms[j]? with | some a => a :: pickA js ms | none => pickA js ms)
              rw [ih, List.getElem?_cons_succ]
          show pa :: pickA (js.map (· + 1)) (pa :: ms) = _
          rw [sh]
        have okj : okJ (0 :: js.map (· + 1)) (pa :: ms).length = true := by
          have h : (decide (0 < (pa :: ms).length) && (js.map (· + 1)).all fun j => decide (j < (pa :: ms).length)) = true := by
            rw [Bool.and_eq_true]
            refine ⟨by simp, ?_⟩
            rw [List.all_map, List.all_eq_true]
            intro j hm'
            have := List.all_eq_true.mp hj j hm'
            simpa using this
          exact h
        have ndj : (0 :: js.map (· + 1)).Nodup := by
          refine List.nodup_cons.mpr ⟨by simp, ?_⟩
          rw [List.Nodup, List.pairwise_map]
          exact List.Pairwise.imp (fun h => by omega) nj
        have c3 := c2.called (ls := cx :: cxs) okj ndj (by rw [pj]; exact gr) ex (by rw [pj]; exact .cons k1 k2 k3 k4)
        have pp : ∀ (js : List Nat) (ls : List CO) (x : CO) (cs : List CO), putC (js.map (· + 1)) ls (x :: cs) = x :: putC js ls cs := by
          intro js
          induction js with
          | nil => intro ls x cs; rfl
          | cons j js ih =>
            intro ls x cs
            cases ls with
            | nil => rfl
            | cons l ls =>
              show putC (js.map (· + 1)) ls ((x :: cs).set (j + 1) l) = _
              rw [List.set_cons_succ, ih]
              rfl
        have e3 : putC (0 :: js.map (· + 1)) (cx :: cxs) (.l l.1 :: a.2) = cx :: putC js cxs a.2 := pp js cxs cx a.2
        rw [e3] at c3
        exact c3.drop (.drop .refl) (RLe.refl _)
end
end Dd
set_option Elab.async false
set_option linter.all false
set_option maxRecDepth 100000
set_option maxHeartbeats 2000000
namespace Dd
open PySem PySem.Spec PyProof.Rows L2
def unl {γ : Type} (k : List PD → List CO → Out γ) : List CO → Out γ
  | .l p :: r => k p r
  | _ => .bad
def unk {γ : Type} (k : List (Key × PD) → List CO → Out γ) : List CO → Out γ
  | .k p :: r => k p r
  | _ => .bad
def unn {γ : Type} (x : Out γ) : List CO → Out γ
  | [] => x
  | _ => .bad
@[simp] theorem unl_l {γ : Type} (k : List PD → List CO → Out γ) (p : List PD) (r : List CO) : unl k (.l p :: r) = k p r := rfl
@[simp] theorem unk_k {γ : Type} (k : List (Key × PD) → List CO → Out γ) (p : List (Key × PD)) (r : List CO) : unk k (.k p :: r) = k p r := rfl
@[simp] theorem unn_n {γ : Type} (x : Out γ) : unn x [] = x := rfl
theorem pe_bad {X : Cx} {e : Expr} : PE X e (fun _ _ _ => False) := ⟨fun _ _ _ _ _ _ h => h.elim⟩
theorem pt_bad {X : Cx} {e : Expr} : PT X e (fun _ _ _ => False) := ⟨fun _ _ _ _ _ _ h => h.elim⟩
theorem pw_bad {X : Cx} {e : Expr} : PW X e (fun _ _ _ => False) := ⟨fun _ _ _ _ _ _ _ h => h.elim⟩
theorem pa_bad {X : Cx} {es : List Expr} : PA X es (fun _ _ _ => False) := ⟨fun _ _ _ _ _ _ _ h => h.elim⟩
theorem po_bad {X : Cx} {e : Option Expr} : PO X e (fun _ _ _ => False) := ⟨fun _ _ _ _ _ _ h => h.elim⟩
theorem pts_bad {X : Cx} {es : List Expr} : PTs X es (fun _ _ _ => False) := ⟨fun _ _ _ _ _ _ h => h.elim⟩
theorem pi_bad {X : Cx} {t e : Expr} : PI X t e (fun _ _ _ => False) := ⟨fun _ _ _ _ _ _ h => h.elim⟩
section
variable {X : Cx} {W : XK} {m0 : List Addr} {N R L β : Type} {RR : VR R} {Rb : VR β} {rf : R → List CO} {nf : N → Sta} {lf : L → Sta} {st : List Stmt} {e tg : Expr} {es : List Expr} {eo : Option Expr} {ρ : Rho} {ms : List Addr} {ks : List AK} {js : List Nat} {pu : Bool} {Keep : List PD → List CO → Prop}
theorem ss_bad {cs : List CO} : SS X W m0 RR rf nf lf st ρ ms cs (.bad : Out (Ctl N R L)) := ⟨_, pss_never, fun Γ G σ H D hw hm c hr => hr.elim⟩
theorem ss_ul {f : List CO → List CO} {k : List PD → List CO → Out (Ctl N R L)} (h : ∀ p cs, SS X W m0 RR rf nf lf st ρ ms (f (.l p :: cs)) (k p cs)) : ∀ cs, SS X W m0 RR rf nf lf st ρ ms (f cs) (unl k cs)
  | [] => ss_bad
  | .l p :: r => h p r
  | .k p :: r => ss_bad
theorem ss_uk {f : List CO → List CO} {k : List (Key × PD) → List CO → Out (Ctl N R L)} (h : ∀ p cs, SS X W m0 RR rf nf lf st ρ ms (f (.k p :: cs)) (k p cs)) : ∀ cs, SS X W m0 RR rf nf lf st ρ ms (f cs) (unk k cs)
  | [] => ss_bad
  | .k p :: r => h p r
  | .l p :: r => ss_bad
theorem ss_un {f : List CO → List CO} {x : Out (Ctl N R L)} (h : SS X W m0 RR rf nf lf st ρ ms (f []) x) : ∀ cs, SS X W m0 RR rf nf lf st ρ ms (f cs) (unn x cs)
  | [] => h
  | _ :: _ => ss_bad
theorem ss_at {f : List CO → List CO} {cs : List CO} {k : List CO → Out (Ctl N R L)} (h : ∀ cs, SS X W m0 RR rf nf lf st ρ ms (f cs) (k cs)) : SS X W m0 RR rf nf lf st ρ ms (f cs) (k cs) := h cs
theorem ex_bad {cs : List CO} : EX X W Rb e ρ ms cs (.bad : Out (β × List CO)) := ⟨_, pe_bad, fun Γ G σ H Q hw c hr => hr.elim⟩
theorem ex_ul {f : List CO → List CO} {k : List PD → List CO → Out (β × List CO)} (h : ∀ p cs, EX X W Rb e ρ ms (f (.l p :: cs)) (k p cs)) : ∀ cs, EX X W Rb e ρ ms (f cs) (unl k cs)
  | [] => ex_bad
  | .l p :: r => h p r
  | .k p :: r => ex_bad
theorem ex_uk {f : List CO → List CO} {k : List (Key × PD) → List CO → Out (β × List CO)} (h : ∀ p cs, EX X W Rb e ρ ms (f (.k p :: cs)) (k p cs)) : ∀ cs, EX X W Rb e ρ ms (f cs) (unk k cs)
  | [] => ex_bad
  | .k p :: r => h p r
  | .l p :: r => ex_bad
theorem ex_un {f : List CO → List CO} {x : Out (β × List CO)} (h : EX X W Rb e ρ ms (f []) x) : ∀ cs, EX X W Rb e ρ ms (f cs) (unn x cs)
  | [] => h
  | _ :: _ => ex_bad
theorem tx_bad {cs : List CO} : TX X W e ρ ms cs (.bad : Out (Bool × List CO)) := ⟨_, pt_bad, fun Γ G σ H Q hw c hr => hr.elim⟩
theorem tx_ul {f : List CO → List CO} {k : List PD → List CO → Out (Bool × List CO)} (h : ∀ p cs, TX X W e ρ ms (f (.l p :: cs)) (k p cs)) : ∀ cs, TX X W e ρ ms (f cs) (unl k cs)
  | [] => tx_bad
  | .l p :: r => h p r
  | .k p :: r => tx_bad
theorem tx_uk {f : List CO → List CO} {k : List (Key × PD) → List CO → Out (Bool × List CO)} (h : ∀ p cs, TX X W e ρ ms (f (.k p :: cs)) (k p cs)) : ∀ cs, TX X W e ρ ms (f cs) (unk k cs)
  | [] => tx_bad
  | .k p :: r => h p r
  | .l p :: r => tx_bad
theorem tx_un {f : List CO → List CO} {x : Out (Bool × List CO)} (h : TX X W e ρ ms (f []) x) : ∀ cs, TX X W e ρ ms (f cs) (unn x cs)
  | [] => h
  | _ :: _ => tx_bad
theorem wx_bad {cs : List CO} : WX X W e ρ ms cs (.bad : Out (Bool × List CO)) := ⟨_, pw_bad, fun Γ G σ H Q hw c hr => hr.elim⟩
theorem wx_ul {f : List CO → List CO} {k : List PD → List CO → Out (Bool × List CO)} (h : ∀ p cs, WX X W e ρ ms (f (.l p :: cs)) (k p cs)) : ∀ cs, WX X W e ρ ms (f cs) (unl k cs)
  | [] => wx_bad
  | .l p :: r => h p r
  | .k p :: r => wx_bad
theorem wx_uk {f : List CO → List CO} {k : List (Key × PD) → List CO → Out (Bool × List CO)} (h : ∀ p cs, WX X W e ρ ms (f (.k p :: cs)) (k p cs)) : ∀ cs, WX X W e ρ ms (f cs) (unk k cs)
  | [] => wx_bad
  | .k p :: r => h p r
  | .l p :: r => wx_bad
theorem wx_un {f : List CO → List CO} {x : Out (Bool × List CO)} (h : WX X W e ρ ms (f []) x) : ∀ cs, WX X W e ρ ms (f cs) (unn x cs)
  | [] => h
  | _ :: _ => wx_bad
theorem ax_bad {cs : List CO} : AX X W es ρ ms cs (.bad : Out (List PD × List CO)) := ⟨_, pa_bad, fun Γ G σ H Q hw c hr => hr.elim⟩
theorem ax_ul {f : List CO → List CO} {k : List PD → List CO → Out (List PD × List CO)} (h : ∀ p cs, AX X W es ρ ms (f (.l p :: cs)) (k p cs)) : ∀ cs, AX X W es ρ ms (f cs) (unl k cs)
  | [] => ax_bad
  | .l p :: r => h p r
  | .k p :: r => ax_bad
theorem ax_uk {f : List CO → List CO} {k : List (Key × PD) → List CO → Out (List PD × List CO)} (h : ∀ p cs, AX X W es ρ ms (f (.k p :: cs)) (k p cs)) : ∀ cs, AX X W es ρ ms (f cs) (unk k cs)
  | [] => ax_bad
  | .k p :: r => h p r
  | .l p :: r => ax_bad
theorem ax_un {f : List CO → List CO} {x : Out (List PD × List CO)} (h : AX X W es ρ ms (f []) x) : ∀ cs, AX X W es ρ ms (f cs) (unn x cs)
  | [] => h
  | _ :: _ => ax_bad
theorem gx_bad {cs : List CO} : GX X W ks js es ρ ms cs (.bad : Out (List PD × List CO)) := ⟨_, pa_bad, fun Γ G σ H Q hw c hr => hr.elim⟩
theorem gx_ul {f : List CO → List CO} {k : List PD → List CO → Out (List PD × List CO)} (h : ∀ p cs, GX X W ks js es ρ ms (f (.l p :: cs)) (k p cs)) : ∀ cs, GX X W ks js es ρ ms (f cs) (unl k cs)
  | [] => gx_bad
  | .l p :: r => h p r
  | .k p :: r => gx_bad
theorem gx_uk {f : List CO → List CO} {k : List (Key × PD) → List CO → Out (List PD × List CO)} (h : ∀ p cs, GX X W ks js es ρ ms (f (.k p :: cs)) (k p cs)) : ∀ cs, GX X W ks js es ρ ms (f cs) (unk k cs)
  | [] => gx_bad
  | .k p :: r => h p r
  | .l p :: r => gx_bad
theorem gx_un {f : List CO → List CO} {x : Out (List PD × List CO)} (h : GX X W ks js es ρ ms (f []) x) : ∀ cs, GX X W ks js es ρ ms (f cs) (unn x cs)
  | [] => h
  | _ :: _ => gx_bad
theorem ox_bad {cs : List CO} : OX X W eo ρ ms cs (.bad : Out (Option Int × List CO)) := ⟨_, po_bad, fun Γ G σ H Q hw c hr => hr.elim⟩
theorem ox_ul {f : List CO → List CO} {k : List PD → List CO → Out (Option Int × List CO)} (h : ∀ p cs, OX X W eo ρ ms (f (.l p :: cs)) (k p cs)) : ∀ cs, OX X W eo ρ ms (f cs) (unl k cs)
  | [] => ox_bad
  | .l p :: r => h p r
  | .k p :: r => ox_bad
theorem ox_uk {f : List CO → List CO} {k : List (Key × PD) → List CO → Out (Option Int × List CO)} (h : ∀ p cs, OX X W eo ρ ms (f (.k p :: cs)) (k p cs)) : ∀ cs, OX X W eo ρ ms (f cs) (unk k cs)
  | [] => ox_bad
  | .k p :: r => h p r
  | .l p :: r => ox_bad
theorem ox_un {f : List CO → List CO} {x : Out (Option Int × List CO)} (h : OX X W eo ρ ms (f []) x) : ∀ cs, OX X W eo ρ ms (f cs) (unn x cs)
  | [] => h
  | _ :: _ => ox_bad
theorem ts_bad {cs : List CO} : TsX X W es ρ ms cs (.bad : Out (Bool × List CO)) := ⟨_, pts_bad, fun Γ G σ H Q hw c hr => hr.elim⟩
theorem ts_ul {f : List CO → List CO} {k : List PD → List CO → Out (Bool × List CO)} (h : ∀ p cs, TsX X W es ρ ms (f (.l p :: cs)) (k p cs)) : ∀ cs, TsX X W es ρ ms (f cs) (unl k cs)
  | [] => ts_bad
  | .l p :: r => h p r
  | .k p :: r => ts_bad
theorem ts_uk {f : List CO → List CO} {k : List (Key × PD) → List CO → Out (Bool × List CO)} (h : ∀ p cs, TsX X W es ρ ms (f (.k p :: cs)) (k p cs)) : ∀ cs, TsX X W es ρ ms (f cs) (unk k cs)
  | [] => ts_bad
  | .k p :: r => h p r
  | .l p :: r => ts_bad
theorem ts_un {f : List CO → List CO} {x : Out (Bool × List CO)} (h : TsX X W es ρ ms (f []) x) : ∀ cs, TsX X W es ρ ms (f cs) (unn x cs)
  | [] => h
  | _ :: _ => ts_bad
end
section
variable {X : Cx} {W : XK} {m0 : List Addr} {N R L N1 : Type} {RR : VR R} {rf : R → List CO} {nf : N → Sta} {nf1 : N1 → Sta} {lf : L → Sta} {st : Stmt} {rest body sa sb : List Stmt} {e c tg iter a b elt : Expr} {ρ ρ' : Rho} {ms ms' : List Addr} {cs cs' : List CO} {pos p p2 : Pos} {scope : Scope} {own : List (Str × Nat)} {ifs : List Expr}
theorem passN {E : XK} : Passes CX0 X E := fun _ _ _ _ _ _ _ h => h.elim
/-! ### xs[i] = e -/
def setD (ds : List PD) (i d : PD) : Out (List PD) := match i with
  | .int i => match ixN ds.length i with
    | some j => .ok (ds.set j d)
    | none => .bad
  | _ => .bad
theorem ss_setX (i j : Nat) {x : Str} {ad : Addr} {m : Out (PD × List CO)} {mi : List CO → Out (PD × List CO)} {k : List CO → Out (Ctl N R L)} (h : EX X W (RD X.K) e ρ ms cs m) (hi : ∀ cs1, EX X W (RD X.K) a ρ ms cs1 (mi cs1)) (hk : ∀ cs1, SS X W m0 RR rf nf lf rest ρ ms cs1 (k cs1)) (h3 : ρ[i]? = some (some (.c ad)) := by rfl) (h1 : ms[j]? = some ad := by rfl) (hN : X.N[i]? = some x := by rfl)
    (hv : Vis X.env.scope x := by first | exact Or.inl rfl | exact Or.inr (Or.inl rfl) | exact Or.inr (Or.inr rfl)) (hd : (x == ("__debug__" : Str)) = false := by decide) (hcd : (x == ("__classdict__" : Str)) = false := by decide)
    (hs : swapsWithSole [.Subscript (.Name x p) a p2] e pos.line X.env = pure false := by rfl) (hw : swappedStores [.Subscript (.Name x p) a p2] e X.env = pure none := by rfl) (ha1 : (assignEach [.Subscript (.Name x p) a p2] X.env).map (·.2) = [assign (.Subscript (.Name x p) a p2) X.env] := by rfl)
    (hsub : ∀ v, assign (.Subscript (.Name x p) a p2) X.env v = (do
      let ov ← holding [v] (eval (.Name x p) X.env)
      let iv ← holding [v, ov] (eval a X.env)
      standAt p2
      holding [v, ov, iv] (setItem ov iv v)
      release [v, ov, iv] []) := by intro _; rfl) :
    SS X W m0 RR rf nf lf (.Assign [.Subscript (.Name x p) a p2] e pos :: rest) ρ ms cs (m >>= fun d => mi d.2 >>= fun y => cellL j y.2 >>= fun ds => setD ds y.1 d.1 >>= fun ds' => k (y.2.set j (.l ds'))) := by
  obtain ⟨t, t1, t2⟩ := h
  obtain ⟨ti, i1, i2⟩ := ex_all hi
  refine ⟨_, pss_cons (ps_asg t1 (pg_sub (pe_var hN hv hd hcd) i1 set_list hsub) hs hw ha1) (pss_all (t := fun n => (hk n).choose) fun n => (hk n).choose_spec.1), fun Γ G σ H D hw hm c hr => t2 Γ G σ H _ hw c (hr.bind.mono fun d q v G1 H1 g1 c1 k1 r1 => ?_)⟩
  obtain ⟨vo, e3, e4⟩ := env_get c.env h3
  subst e4
  refine ⟨_, e3, i2 d.2 Γ G1 σ H1 _ hw c1 (q.bind.mono fun y q u G2 H2 g2 c2 k2 r2 => ?_)⟩
  obtain ⟨y, cs2⟩ := y
  unfold cellL at q
  cases e8 : cs2[j]? with
  | none => rw [e8] at q; exact q.elim
  | some co =>
    rw [e8] at q
    cases co with
    | k kvs => exact q.elim
    | l ds =>
      have q2 : Res Γ.We (setD ds y d.1 >>= fun ds' => k (cs2.set j (.l ds'))) (fun c => After Γ nf lf RR rf D G H c) := q
      cases y <;> first
        | exact q2.elim
        | skip
      rename_i n
      cases r2
      unfold setD at q2
      dsimp only at q2
      cases e9 : ixN ds.length n with
      | none => rw [e9] at q2; exact q2.elim
      | some jj =>
        rw [e9] at q2
        have q3 : Res Γ.We (k (cs2.set j (.l (ds.set jj d.1)))) (fun c => After Γ nf lf RR rf D G H c) := q2
        obtain ⟨g3, vs, h5, h6⟩ := cells_get c2.cells h1 e8
        refine ⟨ad, vs, n, jj, rfl, rfl, h5, by rw [dpa_len h6]; exact e9, ?_⟩
        exact ⟨cs2.set j (.l (ds.set jj d.1)), (hk _).choose_spec.2 Γ G2 _ _ D hw hm (c2.write h1 ⟨vs.set jj v, upd_same, dpa_set jj h6 (dp_mono g2 r1)⟩) (q3.mono fun y z => z.fwd (g1.trans g2) (k1.trans (k2.trans there_upd)))⟩
/-! ### x += e -/
/-- x op= e by values: as x op e, the operator's own in-place form -/
theorem ss_aug (i : Nat) {x : Str} {d0 : PD} {op : Operator} {r : R2} {f : PD → PD → Out PD} {m : Out PD} {k : PD → Out (Ctl N R L)} (ho : OpR X (inplaceOp op) r ∧ OpS X r (RD X.K) f) (hN : X.N.Nodup) (h : EP X W (RD X.K) e ρ ms cs m) (hk : ∀ d, SS X W m0 RR rf nf lf rest (ρ.set i (some (.d d))) ms cs (k d)) (h0 : ρ[i]? = some (some (.d d0)) := by rfl) (hi : X.N[i]? = some x := by rfl) (hx : Loc X.env.scope x := by first | exact Or.inl rfl | exact Or.inr rfl)
    (hf : X.fn x = true ∨ X.env.scope.names.lookup x = some .local := by first | exact .inl rfl | exact .inr rfl) :
    SS X W m0 RR rf nf lf (.AugAssign (.Name x p) op e pos :: rest) ρ ms cs (m >>= fun y => f d0 y >>= fun d => k d) := by
  obtain ⟨t, h1, h2⟩ := h
  have hp : PIp X op r := fun pins s σ H x y v u Q I rx ry q => augR ho.1 I rx ry q
  refine ⟨_, pss_cons (ps_aug hN hi hx h1 hp hf) (pss_all (t := fun n => (hk n).choose) fun n => (hk n).choose_spec.1), fun Γ G σ H D hw hm c hr => ?_⟩
  obtain ⟨v0, e3, e4⟩ := env_get c.env h0
  refine ⟨v0, e3, h2 Γ G σ H _ hw c (hr.bind.mono fun y q v G1 H1 g1 c1 k1 r1 => ?_)⟩
  refine ho.2 Γ G1 ρ ms cs σ H1 H v0 v d0 y _ c1 k1.there (.inl (dp_mono g1 e4)) (.inl r1) (q.bind.mono fun d q v2 G2 H2 g2 c2 k2 r2 => ?_)
  exact ⟨d, (hk d).choose_spec.2 Γ G2 _ H2 D hw hm (c2.env' (env_set c2.env (av := .d d) r2 i)) (q.mono fun y z => z.fwd (g1.trans g2) (Kept.there (k1.trans k2)))⟩
theorem oi_add : OpR X (inplaceOp .Add) (fun x y H Q => rI0 (fun i j => .int (i + j)) x y H Q ∨ ∃ i j, x = .str i ∧ y = .str j ∧ i.length + j.length ≤ sizeLine ∧ Q (.str (i ++ j)) H) ∧
    OpS X (fun x y H Q => rI0 (fun i j => .int (i + j)) x y H Q ∨ ∃ i j, x = .str i ∧ y = .str j ∧ i.length + j.length ≤ sizeLine ∧ Q (.str (i ++ j)) H) (RD X.K) (fun x y => match x, y with | .int a, .int b => addD (.int a) (.int b) | .str a, .str b => addD (.str a) (.str b) | _, _ => .bad) :=
  ⟨iop_add.or iop_add_str, ops_or _ ops_addI ops_addS fun x y => by cases x <;> cases y <;> first | exact .inl rfl | exact .inr rfl⟩
def iaddD (x y : PD) : Out PD := match x, y with
  | .int a, .int b => addD (.int a) (.int b)
  | .str a, .str b => addD (.str a) (.str b)
  | _, _ => .bad
theorem oi_add' : OpR X (inplaceOp .Add) (fun x y H Q => rI0 (fun i j => .int (i + j)) x y H Q ∨ ∃ i j, x = .str i ∧ y = .str j ∧ i.length + j.length ≤ sizeLine ∧ Q (.str (i ++ j)) H) ∧
    OpS X (fun x y H Q => rI0 (fun i j => .int (i + j)) x y H Q ∨ ∃ i j, x = .str i ∧ y = .str j ∧ i.length + j.length ≤ sizeLine ∧ Q (.str (i ++ j)) H) (RD X.K) iaddD := by
  refine ⟨oi_add.1, ?_⟩
  have e : iaddD = fun x y => match x, y with | .int a, .int b => addD (.int a) (.int b) | .str a, .str b => addD (.str a) (.str b) | _, _ => .bad := by
    funext x y; cases x <;> cases y <;> rfl
  rw [e]
  exact oi_add.2
theorem oi_sub : OpR X (inplaceOp .Sub) (rI0 fun i j => .int (i - j)) ∧ OpS X (rI0 fun i j => .int (i - j)) (RD X.K) subD := ⟨iop_sub, o_sub.2⟩
/-! ### a cell is known from here on -/
theorem env_frz {K : PySem.W.Frag} {G : Hp} {ad : Addr} {ds : List PD} (h : Dp K G (.ref ad) (.list ds)) : ∀ {ρ : Rho} {σ : L2.St}, EnvOk K G ρ σ → EnvOk K G (frzR ad ds ρ) σ := by
  intro ρ σ e
  induction e with
  | nil => exact .nil
  | non _ ih => exact .non ih
  | @som av v ρ σ q _ ih =>
    cases av with
    | d x => exact .som q ih
    | r x => exact .som q ih
    | c b =>
      show EnvOk K G ((if b = ad then some (.d (.list ds)) else some (.c b)) :: frzR ad ds ρ) _
      by_cases hb : b = ad
      · rw [if_pos hb]
        refine .som ?_ ih
        show Dp K G v (.list ds)
        rw [show v = V.ref b from q, hb]
        exact h
      · rw [if_neg hb]
        exact .som q ih
theorem cells_erase {K : PySem.W.Frag} {G G' H : Hp} {ms : List Addr} {cs : List CO} (h : CellsOk K G H ms cs) (e : Same G G') : ∀ {j : Nat} {ad : Addr}, ms[j]? = some ad → (∀ a ∈ ms, a ≠ ad → G' a = none) → CellsOk K G' H (ms.eraseIdx j) (cs.eraseIdx j) := by
  induction h with
  | nil => intro j ad h; simp at h
  | @cons a0 c0 ms cs g q n t ih =>
    intro j ad h f
    cases j with
    | zero =>
      simp at h
      subst h
      exact cells_to t e (fun a m => f a (List.mem_cons_of_mem _ m) fun z => n (by rw [← z]; exact m)) fun _ _ _ h => h
    | succ j =>
      have h' : ms[j]? = some ad := by simpa using h
      have ne : a0 ≠ ad := fun z => n (by rw [z]; exact List.mem_of_getElem? h')
      exact .cons (f a0 List.mem_cons_self ne) (cell_to q e fun _ h => h) (fun z => n (List.mem_of_mem_eraseIdx z)) (ih h' fun a m => f a (List.mem_cons_of_mem _ m))
theorem ss_frz (j : Nat) {ad : Addr} {ds : List PD} {m : Out (Ctl N R L)} (h1 : ms[j]? = some ad) (h2 : cs[j]? = some (.l ds)) (hn : ∀ a ∈ m0, a ≠ ad) (h : SS X W m0 RR rf nf lf rest (frzR ad ds ρ) (ms.eraseIdx j) (cs.eraseIdx j) m) : SS X W m0 RR rf nf lf rest ρ ms cs m := by
  obtain ⟨t, t1, t2⟩ := h
  refine ⟨t, t1, fun Γ G σ H D hw hm c hr => ?_⟩
  obtain ⟨g, vs, h5, h6⟩ := cells_get c.cells h1 h2
  have s1 : Same G (upd G ad (.lst vs)) := same_new g
  have n0 : Γ.H ad = none := by
    rcases c.loc ad (List.mem_of_getElem? h1) with z | z
    · rw [hm] at z; exact (hn ad z rfl).elim
    · exact z
  refine t2 Γ (upd G ad (.lst vs)) σ H D hw hm ⟨fun b x e => ?_, ?_, ?_, ⟨c.grow.gg.trans s1, c.grow.hh, c.grow.th, fun b x h n => ?_⟩, fun a m => c.loc a (List.mem_of_mem_eraseIdx m)⟩ (hr.mono fun y z => z.fwd s1 (Kept.there (Same.refl _)))
  · by_cases hb : b = ad
    · subst hb
      rw [upd_same] at e
      rw [h5]
      exact e
    · rw [upd_ne hb] at e
      exact c.ex b x e
  · refine cells_erase c.cells s1 h1 fun a m ne => ?_
    rw [upd_ne ne]
    exact (cells_mem c.cells m).1
  · exact env_frz (.lst (.inl (.inl upd_same)) (dpa_mono s1 h6)) (env_mono s1 c.env)
  · rw [upd_ne (ne_of_none h n0)]
    exact c.grow.nw b x h n
/-! ### y = [..] on one line -/
theorem ss_asgLcP (i : Nat) {x : Str} {m : Out (List PD)} {k : PD → Out (Ctl N R L)} (hc : X.calm = true) (hN : X.N.Nodup) (ok : BlkOk X.N X.env.scope scope own) (h : LCP X W scope own tg iter ifs elt ρ ms cs m) (hk : ∀ d, SS X W m0 RR rf nf lf rest (ρ.set i (some (.d d))) ms cs (k d)) (hl : (p.line == p2.line) = true := by rfl) (hi : X.N[i]? = some x := by rfl) (hx : X.env.scope.names.lookup x = some .local := by rfl)
    (hkd : X.env.scope.kind = .function := by rfl) (hq : (scope.names.any fun (n, k) => n == x && (k == .local || k == .cell)) = false := by decide +kernel) (hs : ∀ x, foldedSetIterable iter X.env x = pure x := by intro _; rfl) :
    SS X W m0 RR rf nf lf (.Assign [.Name x p] (.ListComp elt [⟨tg, iter, ifs, 0⟩] scope p2) pos :: rest) ρ ms cs (m >>= fun l => k (.list l)) := by
  obtain ⟨wi, g, tt, te, h1, h2, h3, h4, h5⟩ := h
  refine ⟨_, pss_cons (ps_setLc hc hN hi hx (sw_true hkd hx hl hq) h1 ok (fun s H C cl fp => h2 s H C cl fp) (fun s H C cl fp => h3 s H C cl fp) (fun s H C cl fp => h4 s H C cl fp) hs) (pss_all (t := fun n => (hk n).choose) fun n => (hk n).choose_spec.1), ?_⟩
  generalize tLc wi g tt te (own.map (·.2)) = tl at h5 ⊢
  refine fun Γ G σ H D hw hm c hr => h5 Γ G σ H _ hw c (hr.bind.mono fun d q v G1 H1 g1 c1 k1 r1 => ?_)
  obtain ⟨p, vs, rfl, h0, gp, hp, hd⟩ := r1
  obtain ⟨n1, n2⟩ := fresh_ok c h0
  obtain ⟨s1, c2⟩ := upd_known c1 gp hp n1 n2
  exact ⟨.list d, (hk _).choose_spec.2 Γ _ _ H1 D hw hm (c2.env' (env_set c2.env (av := .d (.list d)) (.lst (.inl (.inl upd_same)) (dpa_mono s1 hd)) i)) (q.mono fun y z => z.fwd (g1.trans s1) k1.there)⟩
theorem ss_asgLcX (i : Nat) {x : Str} {m : Out (List PD × List CO)} {k : PD → List CO → Out (Ctl N R L)} (hc : X.calm = true) (hN : X.N.Nodup) (ok : BlkOk X.N X.env.scope scope own) (h : LCX X W scope own tg iter ifs elt ρ ms cs m) (hk : ∀ d cs1, SS X W m0 RR rf nf lf rest (ρ.set i (some (.d d))) ms cs1 (k d cs1)) (hl : (p.line == p2.line) = true := by rfl) (hi : X.N[i]? = some x := by rfl) (hx : X.env.scope.names.lookup x = some .local := by rfl)
    (hkd : X.env.scope.kind = .function := by rfl) (hq : (scope.names.any fun (n, k) => n == x && (k == .local || k == .cell)) = false := by decide +kernel) (hs : ∀ x, foldedSetIterable iter X.env x = pure x := by intro _; rfl) :
    SS X W m0 RR rf nf lf (.Assign [.Name x p] (.ListComp elt [⟨tg, iter, ifs, 0⟩] scope p2) pos :: rest) ρ ms cs (m >>= fun l => k (.list l.1) l.2) := by
  obtain ⟨wi, g, tt, te, h1, h2, h3, h4, h5⟩ := h
  refine ⟨_, pss_cons (ps_setLc hc hN hi hx (sw_true hkd hx hl hq) h1 ok (fun s H C cl fp => h2 s H C cl fp) (fun s H C cl fp => h3 s H C cl fp) (fun s H C cl fp => h4 s H C cl fp) hs) (pss_all (t := fun (n : PD × List CO) => (hk n.1 n.2).choose) fun n => (hk n.1 n.2).choose_spec.1), ?_⟩
  generalize tLc wi g tt te (own.map (·.2)) = tl at h5 ⊢
  refine fun Γ G σ H D hw hm c hr => h5 Γ G σ H _ hw c (hr.bind.mono fun d q v G1 H1 g1 c1 k1 r1 => ?_)
  obtain ⟨p, vs, rfl, h0, gp, hp, hd⟩ := r1
  obtain ⟨n1, n2⟩ := fresh_ok c h0
  obtain ⟨s1, c2⟩ := upd_known c1 gp hp n1 n2
  exact ⟨(.list d.1, d.2), (hk _ _).choose_spec.2 Γ _ _ H1 D hw hm (c2.env' (env_set c2.env (av := .d (.list d.1)) (.lst (.inl (.inl upd_same)) (dpa_mono s1 hd)) i)) (q.mono fun y z => z.fwd (g1.trans s1) k1)⟩
/-- .. as a cell -/
theorem ss_asgLcC (i : Nat) {x : Str} {m : Out (List PD)} {k : List PD → Out (Ctl N R L)} (hc : X.calm = true) (hN : X.N.Nodup) (ok : BlkOk X.N X.env.scope scope own) (h : LCP X W scope own tg iter ifs elt ρ ms cs m) (hk : ∀ a ds, (∀ b ∈ m0, b ≠ a) → SS X W m0 RR rf nf lf rest (ρ.set i (some (.c a))) (a :: ms) (.l ds :: cs) (k ds)) (hl : (p.line == p2.line) = true := by rfl) (hi : X.N[i]? = some x := by rfl) (hx : X.env.scope.names.lookup x = some .local := by rfl)
    (hkd : X.env.scope.kind = .function := by rfl) (hq : (scope.names.any fun (n, k) => n == x && (k == .local || k == .cell)) = false := by decide +kernel) (hs : ∀ x, foldedSetIterable iter X.env x = pure x := by intro _; rfl) (hm0 : ∀ b ∈ m0, b ∈ ms := by simp) :
    SS X W m0 RR rf nf lf (.Assign [.Name x p] (.ListComp elt [⟨tg, iter, ifs, 0⟩] scope p2) pos :: rest) ρ ms cs (m >>= fun l => k l) := by
  obtain ⟨wi, g, tt, te, h1, h2, h3, h4, h5⟩ := h
  refine ⟨_, pss_cons (ps_setLc hc hN hi hx (sw_true hkd hx hl hq) h1 ok (fun s H C cl fp => h2 s H C cl fp) (fun s H C cl fp => h3 s H C cl fp) (fun s H C cl fp => h4 s H C cl fp) hs) (pss_all (t := fun (n : { a : Addr // ∀ b ∈ m0, b ≠ a } × List PD) => (hk n.1.1 n.2 n.1.2).choose) fun n => (hk n.1.1 n.2 n.1.2).choose_spec.1), ?_⟩
  generalize tLc wi g tt te (own.map (·.2)) = tl at h5 ⊢
  refine fun Γ G σ H D hw hm c hr => h5 Γ G σ H _ hw c (hr.bind.mono fun d q v G1 H1 g1 c1 k1 r1 => ?_)
  obtain ⟨pp, vs, rfl, h0, gp, hp, hd⟩ := r1
  obtain ⟨n1, n2⟩ := fresh_ok c h0
  have nm : ∀ b ∈ m0, b ≠ pp := fun b hb z => n1 (by rw [← z]; exact hm0 b hb)
  exact ⟨(⟨pp, nm⟩, d), (hk pp d nm).choose_spec.2 Γ G1 _ H1 D hw hm ((c1.cell gp n1 n2 hp hd).env' (env_set c1.env (av := .c pp) rfl i)) (q.mono fun y z => z.fwd g1 k1.there)⟩
/-! ### while -/
def whileM (t : L → Out Bool) (b : L → Out (Ctl L R L)) : Nat → L → Out (Ctl L R Empty)
  | 0, _ => .bad
  | n + 1, l => t l >>= fun c => if c then b l >>= fun x => match x with
    | .nx l' => whileM t b n l'
    | .ct l' => whileM t b n l'
    | .bk l' => .ok (.nx l')
    | .rt r => .ok (.rt r)
  else .ok (.nx l)
theorem s1_while {L1 : Type} {lf1 : L1 → Sta} {t : L1 → Out Bool} {b : L1 → Out (Ctl L1 R L1)} (n : Nat) (l0 : L1) (hp : PassesOwn (model X.prog X.w) X.A X.env X.xe) (h0 : lf1 l0 = (ρ', ms, cs)) (hle : RLe ρ' ρ)
    (ht : ∀ l, TP X W c (lf1 l).1 (lf1 l).2.1 (lf1 l).2.2 (t l)) (hb : ∀ l, SS X W m0 RR rf lf1 lf1 body (lf1 l).1 (lf1 l).2.1 (lf1 l).2.2 (b l)) :
    S1 X W m0 RR rf lf1 lf (.While c body [] pos) ρ ms cs (whileM t b n l0 >>= fun y => .ok (dnC y)) := by
  refine ⟨_, ps_while hp (pt_all (t := fun l => (ht l).choose) fun l => (ht l).choose_spec.1) (pss_all (t := fun l => (hb l).choose) fun l => (hb l).choose_spec.1), fun Γ G σ H D hw hm cf hr => ?_⟩
  have hr : Res Γ.We (whileM t b n l0) (fun y => After Γ lf1 lf RR rf D G H (dnC y)) := Res.bind hr
  refine ⟨fun k σ' H' => ∃ G2 l, Same G G2 ∧ There H H' ∧ Cfg Γ G2 (lf1 l).1 (lf1 l).2.1 (lf1 l).2.2 σ' H' ∧ Res Γ.We (whileM t b k l) (fun y => After Γ lf1 lf RR rf D G H (dnC y)), ⟨n, G, l0, Same.refl _, Kept.there (Same.refl _), by rw [h0]; exact cf.drop .refl hle, hr⟩, ?_⟩
  rintro k σ' H' ⟨G2, l, s2, t2, c2, r2⟩
  cases k with
  | zero => exact r2.elim
  | succ k =>
    have r3 := Res.bind (show Res Γ.We (t l >>= fun c => if c then b l >>= fun x => match x with
      | .nx l' => whileM t b k l'
      | .ct l' => whileM t b k l'
      | .bk l' => .ok (.nx l')
      | .rt r => .ok (.rt r)
      else .ok (.nx l)) _ from r2)
    refine ⟨l, (ht l).choose_spec.2 Γ G2 σ' H' _ hw c2 (r3.mono fun z q G3 H3 g3 c3 k3 => ?_)⟩
    cases z with
    | false =>
      show D.nx σ' H3
      have q' : After Γ lf1 lf RR rf D G H (.nx l) := q
      exact q' σ' G3 H3 (s2.trans g3) (t2.trans k3.there) c3
    | true =>
      refine ⟨fun σ3 H4 => ∃ G4 l', Same G G4 ∧ There H H4 ∧ Cfg Γ G4 (lf1 l').1 (lf1 l').2.1 (lf1 l').2.2 σ3 H4 ∧ Res Γ.We (whileM t b k l') (fun y => After Γ lf1 lf RR rf D G H (dnC y)), fun σ3 H4 w => ⟨k, Nat.lt_succ_self k, w⟩, ?_⟩
      refine ⟨l, (hb l).choose_spec.2 Γ G3 σ' H3 _ hw hm c3 (Res.mono (Res.bind (show Res Γ.We (b l >>= fun x => match x with
        | .nx l' => whileM t b k l'
        | .ct l' => whileM t b k l'
        | .bk l' => .ok (.nx l')
        | .rt r => .ok (.rt r)) _ from q)) fun z q => ?_)⟩
      cases z with
      | nx l' => exact fun σ3 G4 H4 a1 a2 a3 => ⟨G4, l', s2.trans (g3.trans a1), t2.trans (k3.there.trans a2), a3, q⟩
      | ct l' => exact fun σ3 G4 H4 a1 a2 a3 => ⟨G4, l', s2.trans (g3.trans a1), t2.trans (k3.there.trans a2), a3, q⟩
      | bk l' => exact fun σ3 G4 H4 a1 a2 a3 => (show After Γ lf1 lf RR rf D G H (.nx l') from q) σ3 G4 H4 (s2.trans (g3.trans a1)) (t2.trans (k3.there.trans a2)) a3
      | rt r => exact After.fwd (show After Γ lf1 lf RR rf D G H (.rt r) from q) (s2.trans g3) (t2.trans k3.there)
end
end Dd
set_option Elab.async false
set_option linter.all false
set_option maxRecDepth 100000
set_option maxHeartbeats 2000000
namespace Dd
open PySem PySem.Spec PyProof.Rows L2
/-- the cell at ad told as data -/
inductive FrzR (ad : Addr) (ds : List PD) : Rho → Rho → Prop where
  | nil : FrzR ad ds [] []
  | keep {x : Option AV} {r s : Rho} : FrzR ad ds r s → FrzR ad ds (x :: r) (x :: s)
  | frz {r s : Rho} : FrzR ad ds r s → FrzR ad ds (some (.c ad) :: r) (some (.d (.list ds)) :: s)
theorem env_frz' {K : PySem.W.Frag} {G : Hp} {ad : Addr} {ds : List PD} (h : Dp K G (.ref ad) (.list ds)) {r s : Rho} (f : FrzR ad ds r s) : ∀ {σ : L2.St}, EnvOk K G r σ → EnvOk K G s σ := by
  induction f with
  | nil => exact fun e => e
  | keep _ ih =>
    intro σ e
    cases e with
    | non e => exact .non (ih e)
    | som q e => exact .som q (ih e)
  | frz _ ih =>
    intro σ e
    cases e with
    | som q e =>
      refine .som ?_ (ih e)
      rename_i v _
      show Dp K G v (.list ds)
      rw [show v = V.ref ad from q]
      exact h
def dropC : Nat → List CO → Out (List CO)
  | 0, cs => .ok cs
  | n + 1, _ :: cs => dropC n cs
  | _ + 1, [] => .bad
theorem dropC_err : ∀ (n : Nat) (cs : List CO) (z : Str) (fs : List (Str × PD)), dropC n cs ≠ .err z fs
  | 0, cs, z, fs, h => nomatch h
  | n + 1, _ :: cs, z, fs, h => dropC_err n cs z fs h
  | _ + 1, [], z, fs, h => nomatch h
theorem cdrop_of {m0 : List Addr} {p : List CO} : ∀ (pre : List Addr) {cs : List CO}, dropC pre.length cs = .ok p → CDrop (pre ++ m0) cs m0 p
  | [], cs, h => by cases h; exact .refl
  | a :: pre, [], h => by cases h
  | a :: pre, c :: cs, h => .drop (cdrop_of pre h)
section
variable {X : Cx} {W : XK} {m0 : List Addr} {N R L N1 : Type} {RR : VR R} {rf : R → List CO} {nf : N → Sta} {nf1 : N1 → Sta} {lf : L → Sta} {st : Stmt} {rest body sa sb : List Stmt} {e c tg iter a b elt : Expr} {ρ ρ' : Rho} {ms ms' : List Addr} {cs cs' : List CO} {pos p p2 : Pos} {scope : Scope} {own : List (Str × Nat)} {ifs : List Expr}
theorem ss_frz' (j : Nat) {ad : Addr} {ds : List PD} {m : Out (Ctl N R L)} (h1 : ms[j]? = some ad) (h2 : cs[j]? = some (.l ds)) (hn : ∀ a ∈ m0, a ≠ ad) (hf : FrzR ad ds ρ ρ') (h : SS X W m0 RR rf nf lf rest ρ' (ms.eraseIdx j) (cs.eraseIdx j) m) : SS X W m0 RR rf nf lf rest ρ ms cs m := by
  obtain ⟨t, t1, t2⟩ := h
  refine ⟨t, t1, fun Γ G σ H D hw hm c hr => ?_⟩
  obtain ⟨g, vs, h5, h6⟩ := cells_get c.cells h1 h2
  have s1 : Same G (upd G ad (.lst vs)) := same_new g
  have n0 : Γ.H ad = none := by
    rcases c.loc ad (List.mem_of_getElem? h1) with z | z
    · rw [hm] at z; exact (hn ad z rfl).elim
    · exact z
  refine t2 Γ (upd G ad (.lst vs)) σ H D hw hm ⟨fun b x e => ?_, ?_, ?_, ⟨c.grow.gg.trans s1, c.grow.hh, c.grow.th, fun b x h n => ?_⟩, fun a m => c.loc a (List.mem_of_mem_eraseIdx m)⟩ (hr.mono fun y z => z.fwd s1 (Kept.there (Same.refl _)))
  · by_cases hb : b = ad
    · subst hb
      rw [upd_same] at e
      rw [h5]
      exact e
    · rw [upd_ne hb] at e
      exact c.ex b x e
  · refine cells_erase c.cells s1 h1 fun a m ne => ?_
    rw [upd_ne ne]
    exact (cells_mem c.cells m).1
  · exact env_frz' (.lst (.inl (.inl upd_same)) (dpa_mono s1 h6)) hf (env_mono s1 c.env)
  · rw [upd_ne (ne_of_none h n0)]
    exact c.grow.nw b x h n
theorem ss_retXg {β : Type} {R0 : VR β} {m : Out (β × List CO)} {mk : β → List CO → R} {g : List CO → Out (List CO)} (h : EX X W R0 e ρ ms cs m) (hr1 : ∀ d cs1 p, g cs1 = .ok p → CDrop ms cs1 m0 (rf (mk d p))) (hr2 : ∀ H0 H1 G H v d p, There H0 H1 → R0 H1 G H v d → RR H0 G H v (mk d p)) (hge : ∀ cs z fs, g cs ≠ .err z fs) :
    SS X W m0 RR rf nf lf (.Return (some e) pos :: rest) ρ ms cs (m >>= fun x => g x.2 >>= fun p => .ok (.rt (mk x.1 p))) := by
  obtain ⟨t, h1, h2⟩ := h
  refine ⟨_, pss_cons (ps_ret h1) pss_never, fun Γ G σ H D hw hm c hr => h2 Γ G σ H _ hw c (hr.bind.mono fun x k v G1 H1 g1 c1 t1 r1 => ?_)⟩
  have k1 := k.bind
  cases eg : g x.2 with
  | bad => rw [eg] at k1; exact k1.elim
  | err z fs => exact (hge _ _ _ eg).elim
  | ok p =>
    rw [eg] at k1
    refine k1 v G1 H1 g1 t1 c1.ex ?_ c1.grow (hr2 _ _ _ _ _ _ _ (fun a o z => c.grow.th a o z) r1)
    rw [hm]
    exact ((hr1 x.1 x.2 p eg).ok c1.cells).1
/-- xs.append(e), nothing changed on the way -/
theorem ss_appP (i j : Nat) {x : Str} {ad : Addr} {ds : List PD} {apos : Pos} {m : Out PD} {k : List PD → Out (Ctl N R L)} (h : EP X W (RD X.K) e ρ ms cs m) (hk : ∀ ds', SS X W m0 RR rf nf lf rest ρ ms (cs.set j (.l ds')) (k ds')) (h3 : ρ[i]? = some (some (.c ad)) := by rfl) (h1 : ms[j]? = some ad := by rfl) (h2 : cs[j]? = some (.l ds) := by rfl) (hN : X.N[i]? = some x := by rfl)
    (hv : Vis X.env.scope x := by first | exact Or.inl rfl | exact Or.inr (Or.inl rfl) | exact Or.inr (Or.inr rfl)) (hd : (x == ("__debug__" : Str)) = false := by decide) (hcd : (x == ("__classdict__" : Str)) = false := by decide)
    (hbase : attributeBase (.Name x p) "append" X.env (eval (.Name x p) X.env) = eval (.Name x p) X.env := by rfl)
    (hfew : ((backTo p2 (starEach (e :: []) X.env)).all (fun x => !x.1) && (backToKw p2 (keywordEach [] X.env)).all (fun x => x.1.isSome) && decide ((e :: []).length + ([] : List Keyword).length + (if ([] : List Keyword).isEmpty then 0 else 1) < 30)) = true := by rfl)
    (hline : (apos.endLine == p2.line) = true := by rfl) (hs : starEach (e :: []) X.env = (false, eval e X.env) :: starEach [] X.env := by rfl) (hplain : (backTo p2 (starEach [] X.env)).any (·.1) = false := by rfl)
    (hsw : swapsWith (.Call (.Attribute (.Name x p) "append" apos) [e] [] p2) none pos.line X.env = pure false := by rfl) :
    SS X W m0 RR rf nf lf (.Expr (.Call (.Attribute (.Name x p) "append" apos) [e] [] p2) pos :: rest) ρ ms cs (m >>= fun d => appD ds d >>= fun ds' => k ds') := by
  obtain ⟨t, t1, t2⟩ := h
  refine ⟨_, pss_cons (ps_expr (pe_bm PySem.F.plainAttrs_list PySem.F.slot_list_append PySem.F.type_list_append mt_append (pe_var hN hv hd hcd) (pa_cons t1 pa_nil hs) hbase hfew hline hs hplain) hsw) (pss_all (t := fun n => (hk n).choose) fun n => (hk n).choose_spec.1), fun Γ G σ H D hw hm c hr => ?_⟩
  obtain ⟨v, e3, e4⟩ := env_get c.env h3
  obtain ⟨g, vs0, e6, e7⟩ := cells_get c.cells h1 h2
  subst e4
  refine ⟨_, e3, .inl ⟨rfl, vs0, .inl (.inl e6)⟩, t2 Γ G σ H _ hw c (hr.bind.mono fun d q u G1 H1 g1 c1 k1 r1 => ?_)⟩
  obtain ⟨g2, vs, h5, h6⟩ := cells_get c1.cells h1 h2
  by_cases hz : ds.length < sizeLine
  · have q2 : Res Γ.We (appD ds d >>= fun ds' => k ds') (fun c => After Γ nf lf RR rf D G H c) := q
    rw [appD, if_pos hz] at q2
    have q' : Res Γ.We (k (ds ++ [d])) (fun c => After Γ nf lf RR rf D G H c) := q2
    refine ⟨ad, vs, u, rfl, rfl, h5, by rw [dpa_len h6]; exact hz, ?_⟩
    exact ⟨ds ++ [d], (hk _).choose_spec.2 Γ G1 _ _ D hw hm (c1.write h1 ⟨vs ++ [u], upd_same, dpa_append h6 (.cons r1 .nil)⟩) (q'.mono fun y z => z.fwd g1 (k1.there.trans there_upd))⟩
  · have q2 : Res Γ.We (appD ds d >>= fun ds' => k ds') (fun c => After Γ nf lf RR rf D G H c) := q
    rw [appD, if_neg hz] at q2
    exact q2.elim
theorem ss_setP (i j : Nat) {x : Str} {ad : Addr} {ds : List PD} {m mi : Out PD} {k : List PD → Out (Ctl N R L)} (h : EP X W (RD X.K) e ρ ms cs m) (hi : EP X W (RD X.K) a ρ ms cs mi) (hk : ∀ ds', SS X W m0 RR rf nf lf rest ρ ms (cs.set j (.l ds')) (k ds')) (h3 : ρ[i]? = some (some (.c ad)) := by rfl) (h1 : ms[j]? = some ad := by rfl) (h2 : cs[j]? = some (.l ds) := by rfl) (hN : X.N[i]? = some x := by rfl)
    (hv : Vis X.env.scope x := by first | exact Or.inl rfl | exact Or.inr (Or.inl rfl) | exact Or.inr (Or.inr rfl)) (hd : (x == ("__debug__" : Str)) = false := by decide) (hcd : (x == ("__classdict__" : Str)) = false := by decide)
    (hs : swapsWithSole [.Subscript (.Name x p) a p2] e pos.line X.env = pure false := by rfl) (hw : swappedStores [.Subscript (.Name x p) a p2] e X.env = pure none := by rfl) (ha1 : (assignEach [.Subscript (.Name x p) a p2] X.env).map (·.2) = [assign (.Subscript (.Name x p) a p2) X.env] := by rfl)
    (hsub : ∀ v, assign (.Subscript (.Name x p) a p2) X.env v = (do
      let ov ← holding [v] (eval (.Name x p) X.env)
      let iv ← holding [v, ov] (eval a X.env)
      standAt p2
      holding [v, ov, iv] (setItem ov iv v)
      release [v, ov, iv] []) := by intro _; rfl) :
    SS X W m0 RR rf nf lf (.Assign [.Subscript (.Name x p) a p2] e pos :: rest) ρ ms cs (m >>= fun d => mi >>= fun y => setD ds y d >>= fun ds' => k ds') := by
  obtain ⟨t, t1, t2⟩ := h
  obtain ⟨ti, i1, i2⟩ := hi
  refine ⟨_, pss_cons (ps_asg t1 (pg_sub (pe_var hN hv hd hcd) i1 set_list hsub) hs hw ha1) (pss_all (t := fun n => (hk n).choose) fun n => (hk n).choose_spec.1), fun Γ G σ H D hw hm c hr => t2 Γ G σ H _ hw c (hr.bind.mono fun d q v G1 H1 g1 c1 k1 r1 => ?_)⟩
  obtain ⟨vo, e3, e4⟩ := env_get c.env h3
  subst e4
  refine ⟨_, e3, i2 Γ G1 σ H1 _ hw c1 (q.bind.mono fun y q u G2 H2 g2 c2 k2 r2 => ?_)⟩
  have q2 : Res Γ.We (setD ds y d >>= fun ds' => k ds') (fun c => After Γ nf lf RR rf D G H c) := q
  cases y <;> first
    | exact q2.elim
    | skip
  rename_i n
  cases r2
  unfold setD at q2
  dsimp only at q2
  cases e9 : ixN ds.length n with
  | none => rw [e9] at q2; exact q2.elim
  | some jj =>
    rw [e9] at q2
    have q3 : Res Γ.We (k (ds.set jj d)) (fun c => After Γ nf lf RR rf D G H c) := q2
    obtain ⟨g3, vs, h5, h6⟩ := cells_get c2.cells h1 h2
    refine ⟨ad, vs, n, jj, rfl, rfl, h5, by rw [dpa_len h6]; exact e9, ?_⟩
    exact ⟨ds.set jj d, (hk _).choose_spec.2 Γ G2 _ _ D hw hm (c2.write h1 ⟨vs.set jj v, upd_same, dpa_set jj h6 (dp_mono g2 r1)⟩) (q3.mono fun y z => z.fwd (g1.trans g2) (k1.there.trans (k2.there.trans there_upd)))⟩
/-- for, what is walked changes nothing -/
theorem s1_for {L1 ι : Type} {lf1 : L1 → Sta} {Keep : List PD → List CO → Prop} {u : PD → Rho → Out Rho} {vs : List Nat} {un : PD → Out ι} {ρf : L1 → ι → Rho} {mi : Out (List PD)} {b : ι → L1 → Out (Ctl L1 R L1)} (l0 : L1)
    (hc : X.calm = true) (hp : PassesOwn (model X.prog X.w) X.A X.env X.xe) (hi : IX X W true tg iter ρ ms cs Keep (mi >>= fun ds => .ok (ds, cs))) (hg : TgOk X tg vs u) (h0 : lf1 l0 = (ρ', ms, cs)) (hle : RLe ρ' ρ) (hms : ∀ l, (lf1 l).2.1 = ms)
    (hu : ∀ d l, u d (lf1 l).1 = (un d >>= fun t => .ok (ρf l t))) (hue : ∀ d z fs, un d ≠ .err z fs) (hk : ∀ ds, mi = .ok ds → ∀ l, Keep ds (lf1 l).2.2) (hb : ∀ t l, SS X W m0 RR rf lf1 lf1 body (ρf l t) ms (lf1 l).2.2 (b t l)) (hs : ∀ x, foldedSetIterable iter X.env x = pure x := by intro _; rfl) :
    S1 X W m0 RR rf lf1 lf (.For tg iter body [] pos) ρ ms cs (mi >>= fun ds => forM (fun d l => un d >>= fun t => b t l) ds l0 >>= fun y => .ok (dnC y)) := by
  obtain ⟨wi, i1, i2⟩ := hi
  obtain ⟨g, g1, g2⟩ := hg
  refine ⟨_, ps_for hp hc i1 g1 (pss_all (t := fun (n : ι × L1) => (hb n.1 n.2).choose) fun n => (hb n.1 n.2).choose_spec.1) hs, fun Γ G σ H D hw hm c hr => i2 Γ G σ H _ hw c ?_⟩
  cases emi : mi with
  | bad => rw [emi] at hr; exact hr.elim
  | err z fs => rw [emi] at hr; exact hr
  | ok ds =>
  rw [emi] at hr
  have hr : Res Γ.We (forM (fun d l => un d >>= fun t => b t l) ds l0) (fun y => After Γ lf1 lf RR rf D G H (dnC y)) := Res.bind (show Res Γ.We (forM (fun d l => un d >>= fun t => b t l) ds l0 >>= fun y => .ok (dnC y)) _ from hr)
  intro J G1 H1 gg1 c1 st it
  obtain ⟨Gp, Y, w, w1, w2⟩ := it
  refine for_it w (g := g) (tb := fun D σ H => ∃ n : ι × L1, (hb n.1 n.2).choose D σ H) (D := D) (fun i σ' H' => ∃ G2 l, Same G1 G2 ∧ There H1 H' ∧ Cfg Γ G2 (lf1 l).1 (lf1 l).2.1 (lf1 l).2.2 σ' H' ∧ Res Γ.We (forM (fun d l => un d >>= fun t => b t l) (ds.drop i) l) (fun y => After Γ lf1 lf RR rf D G1 H1 (dnC y))) ?h0 ?hG ?hs ?hd
  case h0 =>
    refine ⟨G1, l0, Same.refl _, Kept.there (Same.refl _), ?_, Res.mono hr fun y z => z.fwd gg1 st.there⟩
    rw [h0]
    exact c1.drop .refl hle
  case hG =>
    rintro i σ' H' hi' ⟨G2, l, s2, t2, c2, r2⟩
    refine w1 G2 H' (lf1 l).2.2 s2 c2.ex ?_ (hk ds emi l)
    have q := c2.cells
    rw [hms l] at q
    exact q
  case hd =>
    rintro σ' H' ⟨G2, l, s2, t2, c2, r2⟩
    rw [List.drop_length] at r2
    have r3 : After Γ lf1 lf RR rf D G1 H1 (.nx l) := r2
    exact r3 σ' G2 H' s2 t2 c2
  case hs =>
    rintro i x σ' H2 H3 hi' ⟨G2, l, s2, t2, c2, r2⟩ y
    have cq := c2.cells
    rw [hms l] at cq
    obtain ⟨k3, d, G3, ed, s3, x3, n3, dx⟩ := w2 i x H2 H3 G2 (lf1 l).2.2 hi' s2 c2.ex cq (hk ds emi l) y
    have c3 := c2.keep s3 k3 x3 n3
    rw [drop_at ed] at r2
    have r3 : Res Γ.We ((un d >>= fun t => b t l) >>= fun x => match x with
      | .nx l' => forM (fun d l => un d >>= fun t => b t l) (ds.drop (i + 1)) l'
      | .ct l' => forM (fun d l => un d >>= fun t => b t l) (ds.drop (i + 1)) l'
      | .bk l' => .ok (.nx l')
      | .rt r => .ok (.rt r)) _ := r2
    have r4 := Res.bind r3
    refine g2 Γ G3 _ _ _ _ H3 x d _ c3 dx ?_
    rw [hu d l]
    cases eu : un d with
    | bad => rw [eu] at r4; exact r4.elim
    | err z fs => exact (hue d z fs eu).elim
    | ok t =>
      rw [eu] at r4
      intro σ2 c4 hj hl2
      rw [hms l] at c4
      refine ⟨(t, l), (hb t l).choose_spec.2 Γ G3 σ2 H3 _ hw hm c4 (Res.mono (show Res Γ.We (b t l) _ from r4) fun z q => ?_)⟩
      cases z with
      | nx l' => exact fun σ3 G4 H4 a1 a2 a3 => ⟨G4, l', s2.trans (s3.trans a1), t2.trans (k3.there.trans a2), a3, q⟩
      | ct l' => exact fun σ3 G4 H4 a1 a2 a3 => ⟨G4, l', s2.trans (s3.trans a1), t2.trans (k3.there.trans a2), a3, q⟩
      | bk l' => exact fun σ3 G4 H4 a1 a2 a3 => (show After Γ lf1 lf RR rf D G1 H1 (.nx l') from q) σ3 G4 H4 (s2.trans (s3.trans a1)) (t2.trans (k3.there.trans a2)) a3
      | rt r => exact After.fwd (show After Γ lf1 lf RR rf D G1 H1 (.rt r) from q) (s2.trans s3) (t2.trans k3.there)
end
end Dd
set_option Elab.async false
set_option linter.all false
set_option maxRecDepth 100000
set_option maxHeartbeats 2000000
namespace Dd
open PySem PySem.Spec PyProof.Rows L2
/-- what zip goes over: a list, a tuple, a text -/
inductive Src where
  | l (a : Addr) | t (a : Addr) | s (x : Str)
def chV (x : Str) : List V := x.cps.toList.map fun c => .str ⟨#[c]⟩
def Src.v : Src → V
  | .l a => .ref a
  | .t a => .ref a
  | .s x => .str x
def Src.ads : Src → List Addr
  | .l a => [a]
  | .t a => [a]
  | .s _ => []
def SrcAt (K : PySem.W.Frag) (H : Hp) : Src → List V → Prop
  | .l a, xs => SqL K H a xs
  | .t a, xs => SqT K H a xs
  | .s x, xs => xs = chV x
def SrcIt (p : Src) (it : Addr) (i : Nat) (h : Heap) : Prop := match p with
  | .l a => h.IsListIter it a i
  | .t a => h.IsTupleIter it a i
  | .s x => ∃ t, h.IsStrIter it (strIterType x) x t i
theorem SrcIt.keep {p : Src} {it : Addr} {i : Nat} {h h' : Heap} (st : SrcIt p it i h) (k : ∀ o, h.get? it = some o → h'.get? it = some o) : SrcIt p it i h' := by
  cases p with
  | l a => exact Heap.IsListIter.at st k
  | t a => exact Heap.IsTupleIter.at st k
  | s x =>
    obtain ⟨t, o, ho, r⟩ := st
    exact ⟨t, o, k o ho, r⟩
theorem SrcIt.obj {p : Src} {it : Addr} {i : Nat} {h : Heap} (st : SrcIt p it i h) : ∃ o, h.get? it = some o ∧ ∀ v, o.data ≠ .cell v := by
  cases p with
  | l a =>
    obtain ⟨o, e, _, d⟩ := st
    exact ⟨o, e, fun v q => by rw [d] at q; cases q⟩
  | t a =>
    obtain ⟨o, e, _, d⟩ := st
    exact ⟨o, e, fun v q => by rw [d] at q; cases q⟩
  | s x =>
    obtain ⟨t, o, e, _, d⟩ := st
    exact ⟨o, e, fun v q => by rw [d] at q; cases q⟩
theorem src_inj {X : Cx} {pins : List (Addr × Obj)} {σ : L2.St} {H : Hp} {s : Shared} (I : Inv X pins σ H s) {p : Src} {xs ys : List V} (h : SrcAt X.K H p xs) (h' : SrcAt X.K H p ys) : xs = ys := by
  cases p with
  | l a => exact I.list_inj h h'
  | t a => exact I.tuple_inj h h'
  | s x => exact Eq.trans h (Eq.symm h')
theorem vals_rev : ∀ {xs : List V} {us : List Value} {i : Nat} {u : Value}, Vals xs us → us[i]? = some u → ∃ x, xs[i]? = some x ∧ RelV x u
  | _, _, _, _, .nil, e => by simp at e
  | _, _, 0, _, .cons h _, e => by simp at e; subst e; exact ⟨_, rfl, h⟩
  | _, _, i + 1, _, .cons _ t, e => by
    obtain ⟨v, h1, h2⟩ := vals_rev (i := i) t (by simpa using e)
    exact ⟨v, by simpa using h1, h2⟩
theorem src_draws {X : Cx} {pins : List (Addr × Obj)} {σ : L2.St} {H : Hp} {s : Shared} (I : Inv X pins σ H s) {A : Around} (hh : A.handled = none) {p : Src} {xs : List V} (h : SrcAt X.K H p xs) {it : Addr} (hne : it ∉ p.ads) {i : Nat} (st : SrcIt p it i s.heap) :
    ∃ (n : Nat) (P : Nat → Value → Prop) (St : Nat → Heap → Prop), Draws X.prog X.w A it (it :: p.ads) n P St ∧ n = xs.length ∧ (∀ i v, P i v → ∃ x, xs[i]? = some x ∧ RelV x v) ∧ St i s.heap ∧ ∀ j h, St j h → SrcIt p it j h := by
  cases p with
  | l a =>
    obtain ⟨its, rv, pl, _⟩ := I.list h
    refine ⟨_, _, _, Draws.list hh it a (fun e => hne (by simp [Src.ads, e])) its.toArray, ?_, fun i v hv => ?_, ⟨st, pl.isList⟩, fun j h q => q.1⟩
    · rw [rv.length]; simp
    · obtain ⟨x, h1, h2⟩ := vals_rev rv (by simpa using hv)
      exact ⟨x, h1, h2⟩
  | t a =>
    obtain ⟨its, rv, pl, _⟩ := I.tuple h
    refine ⟨_, _, _, Draws.tuple hh it a (fun e => hne (by simp [Src.ads, e])) its.toArray, ?_, fun i v hv => ?_, ⟨st, pl⟩, fun j h q => q.1⟩
    · rw [rv.length]; simp
    · obtain ⟨x, h1, h2⟩ := vals_rev rv (by simpa using hv)
      exact ⟨x, h1, h2⟩
  | s x =>
    obtain ⟨t, st⟩ := st
    have h : xs = chV x := h
    subst h
    refine ⟨_, _, _, Draws.text hh it x t, ?_, fun i v hv => ?_, st, fun j h q => ⟨t, q⟩⟩
    · simp [chV]
    · obtain ⟨c, u, h1, h2⟩ := hv
      subst h2
      refine ⟨.str ⟨#[c]⟩, ?_, ⟨u, rfl⟩⟩
      simp [chV, h1]
/-- zip of two of them, the pairs new -/
def ItzG (K : PySem.W.Frag) (p q : Src) : It :=
  ⟨fun i H => ∃ xs ys, SrcAt K H p xs ∧ SrcAt K H q ys ∧ i < xs.length ∧ i < ys.length,
    fun i H v H' => ∃ T x y, v = .ref T ∧ H T = none ∧ H' = upd H T (.tup [x, y]) ∧ (∀ xs, SrcAt K H p xs → xs[i]? = some x) ∧ ∀ ys, SrcAt K H q ys → ys[i]? = some y,
    fun i H => ∃ xs ys, SrcAt K H p xs ∧ SrcAt K H q ys ∧ i ≤ xs.length ∧ i ≤ ys.length ∧ (i = xs.length ∨ i = ys.length)⟩
def zTn (p q : Src) (N : Nat) (i : Nat) (h : Heap) : Prop := IsZip h (N + 4) (N + 2) (N + 3) .none ∧ IsTupOf2 h (N + 2) (.ref N) (.ref (N + 1)) ∧ (∃ x y, IsTupOf2 h (N + 3) x y) ∧ SrcIt p N i h ∧ SrcIt q (N + 1) i h
theorem turn_zipG {P : Program} {w : World} {K : PySem.W.Frag} {elts : List Expr} {kk : Nat} {tpos : Pos} {p q : Src} {N : Nat} (hp : ∀ b ∈ p.ads, b < N) (hq : ∀ b ∈ q.ads, b < N) :
    Turn P w K (.Tuple elts kk tpos) (ItzG K p q) [N + 4, N + 2, N + 3, N, N + 1] (N + 4) (zTn p q N) where
  mem := by simp
  obj := fun i h st c hc => by
    obtain ⟨hz, hTI, ⟨x, y, hTO⟩, s1, s2⟩ := st
    have e' : c = N + 4 ∨ c = N + 2 ∨ c = N + 3 ∨ c = N ∨ c = N + 1 := by simpa using hc
    rcases e' with q | q | q | q | q
    · rw [q]; exact ⟨_, hz, fun v q => nomatch q⟩
    · rw [q]; exact ⟨_, hTI, fun v q => nomatch q⟩
    · rw [q]; exact ⟨_, hTO, fun v q => nomatch q⟩
    · rw [q]; exact s1.obj
    · rw [q]; exact s2.obj
  keep := fun i h h' st k => by
    obtain ⟨hz, hTI, ⟨x, y, hTO⟩, h1, h2⟩ := st
    exact ⟨k _ (by simp) _ hz, k _ (by simp) _ hTI, ⟨x, y, k _ (by simp) _ hTO⟩, h1.keep fun o q => k _ (by simp) o q, h2.keep fun o q => k _ (by simp) o q⟩
  item := by
    intro X hP hw hK hc i pins s σ H E I hf st hg
    subst hP hw hK
    obtain ⟨hz, hTI, ⟨x0, y0, hTO⟩, h1, h2⟩ := st
    obtain ⟨xs, ys, hqx, hqy, hx, hy⟩ := hg
    have hA : X.A.in1.handled = none := I.ok.hd hc
    obtain ⟨n1, P1, St1, D1, e1, r1, z1, w1⟩ := src_draws I hA hqx (it := N) (fun m => Nat.lt_irrefl _ (hp _ m)) h1
    obtain ⟨n2, P2, St2, D2, e2, r2, z2, w2⟩ := src_draws I hA hqy (it := N + 1) (fun m => absurd (hq _ m) (Nat.not_lt.mpr (Nat.le_succ _))) h2
    subst e1 e2
    have hzl : N + 4 < s.heap.objs.size := Heap.lt_size hz
    refine wpAny_pyNext_zipD2_item (zip_sep2 hp hq) D1 D2 hz hTI hTO z1 z2 hx hy fun u u2 h' tk y1 y2 z' TO' d1 d2 hT hsz hk => ?_
    obtain ⟨x, hx', ru⟩ := r1 _ _ y1
    obtain ⟨y, hy', ru2⟩ := r2 _ _ y2
    refine ⟨_, rfl, wpAny_letOwnedTupleGo_zip (s := { s with heap := h', toks := tk }) z' fun h'' z'' sb => ?_⟩
    have hT2 : h''.get? s.heap.objs.size = some { cls := .type "tuple", data := .seq #[u, u2] } := (sb.2 _ (Nat.ne_of_gt hzl)).trans hT
    have new : ObjOk X.prog X.w (upd H s.heap.objs.size (.tup [x, y])) h'' s.heap.objs.size (.tup [x, y]) :=
      ⟨by show 2 ≤ sizeLine; decide, [u, u2], .cons ru (.cons ru2 .nil), ⟨_, hT2, rfl, _, rfl⟩⟩
    have I1 : Inv X pins σ (upd H s.heap.objs.size (.tup [x, y])) { s with heap := h'', toks := tk } :=
      I.turnedNew (t' := tk) (ch := [N + 4, N + 2, N + 3, N, N + 1]) (fun c o hb q => (sb.2 c (fun q' => hb (by simp [q']))).trans (hk c o (fun q' => hb (by simp [q'])) (fun q' => hb (by simp [q'])) (fun q' => hb (by simp [q'])) (fun q' => hb (by simp [q'])) q)) hf (Nat.le_refl _) new
    refine ⟨.ref s.heap.objs.size, _, I1, rfl, ⟨_, x, y, rfl, I.hok.fresh (Nat.le_refl _), rfl, fun l hl => by rw [src_inj I hl hqx]; exact hx', fun l hl => by rw [src_inj I hl hqy]; exact hy'⟩, ⟨z'', ?_, ⟨u, u2, ?_⟩, ?_, ?_⟩, fun c hcm => ?_⟩
    · exact (sb.2 _ (show (N + 2 : Nat) ≠ N + 4 by omega)).trans (hk _ _ (show (N + 2 : Nat) ≠ N + 4 by omega) (show (N + 2 : Nat) ≠ N + 3 by omega) (show (N + 2 : Nat) ≠ N by omega) (show (N + 2 : Nat) ≠ N + 1 by omega) hTI)
    · exact (sb.2 _ (show (N + 3 : Nat) ≠ N + 4 by omega)).trans TO'
    · exact (w1 _ _ d1).keep fun o q => (sb.2 _ (show (N : Nat) ≠ N + 4 by omega)).trans q
    · exact (w2 _ _ d2).keep fun o q => (sb.2 _ (show (N + 1 : Nat) ≠ N + 4 by omega)).trans q
    · have hlt : c < s.heap.objs.size := by
        have e' : c = N + 4 ∨ c = N + 2 ∨ c = N + 3 ∨ c = N ∨ c = N + 1 := by simpa using hcm
        have : (c : Nat) ≤ N + 4 := by
          rcases e' with q | q | q | q | q <;> (rw [q]; first | exact Nat.le_refl _ | (show (_ : Nat) ≤ N + 4; omega))
        exact Nat.lt_of_le_of_lt this hzl
      rw [upd_ne (Nat.ne_of_lt hlt)]
      exact (hf c hcm).1
  done := by
    intro X hP hw hK hc i pins s σ H E I hf st hg
    subst hP hw hK
    obtain ⟨hz, hTI, ⟨x0, y0, hTO⟩, h1, h2⟩ := st
    obtain ⟨xs, ys, hqx, hqy, l1, l2, hend⟩ := hg
    have hA : X.A.in1.handled = none := I.ok.hd hc
    obtain ⟨n1, P1, St1, D1, e1, r1, z1, w1⟩ := src_draws I hA hqx (it := N) (fun m => Nat.lt_irrefl _ (hp _ m)) h1
    obtain ⟨n2, P2, St2, D2, e2, r2, z2, w2⟩ := src_draws I hA hqy (it := N + 1) (fun m => absurd (hq _ m) (Nat.not_lt.mpr (Nat.le_succ _))) h2
    subst e1 e2
    exact wpAny_pyNext_zipD2_end (zip_sep2 hp hq) D1 D2 hz hTI hTO z1 z2 l1 l2 hend fun h' tk hk => ⟨rfl, I.turnedL (t' := tk) (ch := [N + 4, N + 2, N + 3, N, N + 1]) (fun c o hb q =>
      hk c o (fun q' => hb (by simp [q'])) (fun q' => hb (by simp [q'])) (fun q' => hb (by simp [q'])) (fun q' => hb (by simp [q'])) q) hf⟩
  self := fun A i s Q E st h => wpAny_pyIter_zip st.1 h
def iZipG (K : PySem.W.Frag) (ta : TA) : TI := fun σ H R => ta σ H fun vs H1 => ∃ p q xs ys, vs = [p.v, q.v] ∧ SrcAt K H1 p xs ∧ SrcAt K H1 q ys ∧ R (ItzG K p q) H1
theorem src_begins {X : Cx} {pins : List (Addr × Obj)} {σ : L2.St} {H : Hp} {s : Shared} (I : Inv X pins σ H s) {p : Src} {xs : List V} (h : SrcAt X.K H p xs) {u : Value} (r : RelV p.v u) :
    ∃ (o : Obj) (Hh : Heap → Prop), Begins u o Hh ∧ Hh s.heap ∧ (∀ b ∈ p.ads, b < s.heap.objs.size) ∧ ∀ it h', h'.get? it = some o → SrcIt p it 0 h' := by
  cases p with
  | l a =>
    cases r
    obtain ⟨its, rv, pl, _⟩ := I.list h
    refine ⟨_, _, begins_list a its.toArray, pl.isList, fun b hb => ?_, fun it h' e => ⟨_, e, rfl, rfl⟩⟩
    have : b = a := by simpa [Src.ads] using hb
    rw [this]; exact pl.lt
  | t a =>
    cases r
    obtain ⟨its, rv, pl, _⟩ := I.tuple h
    refine ⟨_, _, begins_tuple a its.toArray, pl, fun b hb => ?_, fun it h' e => ⟨_, e, rfl, rfl⟩⟩
    have : b = a := by simpa [Src.ads] using hb
    obtain ⟨o, ho, _⟩ := id pl
    rw [this]; exact Heap.lt_size ho
  | s x =>
    obtain ⟨k, rfl⟩ := r
    exact ⟨_, _, begins_text x k, trivial, fun b hb => by simp [Src.ads] at hb, fun it h' e => ⟨k, _, e, rfl, rfl⟩⟩
theorem pi_zipG {X : Cx} {e e2 : Expr} {ta : TA} {p pos tpos : Pos} {elts : List Expr} {kk : Nat} (hg : Gl X "zip") (hm : X.mg "zip" = none) (ha : PA X [e, e2] ta)
    (hs : starEach [e, e2] X.env = (false, eval e X.env) :: starEach [e2] X.env := by rfl) (hpl : (backTo pos (starEach [e2] X.env)).any (·.1) = false := by rfl) :
    PI X (.Tuple elts kk tpos) (.Call (.Name "zip" p) [e, e2] [] pos) (iZipG X.K ta) := by
  refine ⟨fun pins s σ H R I h => ?_⟩
  refine Call_ (ld_blt I hg hm PyProof.Rows.boot_zip (PyProof.Rows.callWith_type1 (thn (ha.run pos pins s σ H _ I h) fun us s1 ⟨vs, H1, I1, r1, q1⟩ => ?_) hs hpl))
  obtain ⟨a, b, xs, ys, ex, hqx, hqy, q⟩ := q1
  subst ex
  cases r1 with
  | cons r rr =>
    cases rr with
    | cons r' rr =>
      cases rr
      obtain ⟨o1, H1', B1, b1, lt1, i1⟩ := src_begins I1 hqx r
      obtain ⟨o2, H2', B2, b2, lt2, i2⟩ := src_begins I1 hqy r'
      refine zip_begins2 B1 B2 b1 b2 fun h' hz hTI hTO h1 h2 hsz hk => wpAny_pyIter_zip hz ?_
      have I2 : Inv X pins σ H1 { s1 with heap := h' } := I1.kept (t' := s1.toks) hk
      refine ⟨s1.heap.objs.size + 4, _, _, _, H1, rfl, I2, turn_zipG (p := a) (q := b) (N := s1.heap.objs.size) lt1 lt2, ⟨hz, hTI, ⟨_, _, hTO⟩, i1 _ _ h1, i2 _ _ h2⟩, fun c hcm => ?_, q⟩
      have e' : c = s1.heap.objs.size + 4 ∨ c = s1.heap.objs.size + 2 ∨ c = s1.heap.objs.size + 3 ∨ c = s1.heap.objs.size ∨ c = s1.heap.objs.size + 1 := by simpa using hcm
      have hle : s1.heap.objs.size ≤ c := by
        rcases e' with z | z | z | z | z
        · rw [z]; exact Nat.le_add_right _ _
        · rw [z]; exact Nat.le_add_right _ _
        · rw [z]; exact Nat.le_add_right _ _
        · rw [z]; exact Nat.le_refl _
        · rw [z]; exact Nat.le_add_right _ _
      exact I1.fpOk hle (I1.hok.fresh hle)

theorem walk_zipG {K : PySem.W.Frag} {p q : Src} {xs ys : List V} : Walk (ItzG K p q) (min xs.length ys.length) (fun H => SrcAt K H p xs ∧ SrcAt K H q ys)
    (fun i H v H' => ∃ T x y, v = .ref T ∧ H T = none ∧ H' = upd H T (.tup [x, y]) ∧ xs[i]? = some x ∧ ys[i]? = some y) :=
  ⟨fun i _ hi g => ⟨xs, ys, g.1, g.2, by omega, by omega⟩, fun _ g => ⟨xs, ys, g.1, g.2, by omega, by omega, by omega⟩, fun i H v H' hi g y => by
    obtain ⟨T, x, z, e, h, e2, f1, f2⟩ := y
    exact ⟨T, x, z, e, h, e2, f1 xs g.1, f2 ys g.2⟩⟩
/-- d's items as a source -/
theorem src_of {K : PySem.W.Frag} {G : Hp} {v : V} {d : PD} (r : Dp K G v d) {ds : List PD} (e : itemsD d = .ok ds) : ∃ (p : Src) (xs : List V), v = p.v ∧ SrcAt K G p xs ∧ DpAll K G xs ds := by
  cases r with
  | non => cases e
  | bl b => cases e
  | int i => cases e
  | str x =>
    cases e
    refine ⟨.s x, chV x, rfl, rfl, ?_⟩
    unfold chV
    generalize x.cps.toList = l
    induction l with
    | nil => exact .nil
    | cons c l ih => exact .cons (.str _) ih
  | lst h t =>
    cases e
    exact ⟨.l _, _, rfl, h, t⟩
  | tup h t =>
    cases e
    exact ⟨.t _, _, rfl, h, t⟩
theorem src_mono {K : PySem.W.Frag} {G H : Hp} (e : Same G H) {p : Src} {xs : List V} (h : SrcAt K G p xs) : SrcAt K H p xs := by
  cases p with
  | l a => exact e.seq h
  | t a => exact sqt_mono e h
  | s x => exact h
def zipD : List PD → Out (List PD)
  | [x, y] => itemsD x >>= fun xs => itemsD y >>= fun ys => .ok (List.zipWith (fun a b => .tuple [a, b]) xs ys)
  | _ => .bad
theorem it_zip {K : PySem.W.Frag} {ms : List Addr} {G : Hp} {p q : Src} {xs ys : List V} {ds es : List PD} (h1 : SrcAt K G p xs) (h2 : SrcAt K G q ys) (r1 : DpAll K G xs ds) (r2 : DpAll K G ys es) :
    ItOk K ms (KeepAll (List.zipWith (fun a b => .tuple [a, b]) ds es)) G (ItzG K p q) (List.zipWith (fun a b => .tuple [a, b]) ds es) := by
  refine ⟨fun H => SrcAt K H p xs ∧ SrcAt K H q ys, fun i H v H' => ∃ T x y, v = .ref T ∧ H T = none ∧ H' = upd H T (.tup [x, y]) ∧ xs[i]? = some x ∧ ys[i]? = some y, by rw [List.length_zipWith, ← dpa_len r1, ← dpa_len r2]; exact walk_zipG, fun G1 H1 cs1 g x _ _ => ⟨src_mono (g.trans x) h1, src_mono (g.trans x) h2⟩, fun i x H1 H2 G1 cs1 hi g ex _ _ y => ?_⟩
  obtain ⟨T, x, y, rfl, hT, rfl, e1, e2⟩ := y
  obtain ⟨d1, f1, g1⟩ := dpa_get' r1 e1
  obtain ⟨d2, f2, g2⟩ := dpa_get' r2 e2
  have gT : G1 T = none := There.free (Kept.there ex) hT
  have s1 : Same G1 (upd G1 T (.tup [x, y])) := same_new gT
  refine ⟨same_new hT, .tuple [d1, d2], upd G1 T (.tup [x, y]), ?_, s1, fun b o e => ?_, fun b o e n => ?_, .tup (.inl (.inl upd_same)) (.cons (dp_mono (g.trans s1) g1) (.cons (dp_mono (g.trans s1) g2) .nil))⟩
  · rw [List.getElem?_zipWith, f1, f2]
  · by_cases hb : b = T
    · subst hb
      rw [upd_same] at e ⊢
      exact e
    · rw [upd_ne hb] at e ⊢
      exact ex b o e
  · rw [upd_ne (ne_of_none e hT)]
    exact n
section
variable {X : Cx} {W : XK} {a b : Expr} {ρ : Rho} {ms : List Addr} {cs : List CO} {pos p tpos : Pos} {elts : List Expr} {kk : Nat}
theorem ix_zip {m : Out (List PD)} (hm : X.mg "zip" = none) (h : AP X W [a, b] ρ ms cs m) (hg : Gl X "zip" := by rfl) (hs : starEach [a, b] X.env = (false, eval a X.env) :: starEach [b] X.env := by rfl) (hpl : (backTo pos (starEach [b] X.env)).any (·.1) = false := by rfl) :
    IX X W true (.Tuple elts kk tpos) (.Call (.Name "zip" p) [a, b] [] pos) ρ ms cs KeepAll ((m >>= fun x => zipD x) >>= fun ds => .ok (ds, cs)) := by
  rw [bind_bind]
  obtain ⟨te, h1, h2⟩ := h
  refine ⟨_, pi_zipG hg hm h1 hs hpl, fun Γ G σ H R hw c hr => h2 Γ G σ H _ hw c (hr.bind.mono fun x k vs G1 H1 g1 c1 k1 r1 n1 => ?_)⟩
  match x, r1, k with
  | [u, v], .cons q1 (.cons q2 .nil), k =>
    have k := k.bind
    have k' : Res Γ.We (itemsD u >>= fun xs => itemsD v >>= fun ys => .ok (List.zipWith (fun a b => PyData.tuple [a, b]) xs ys)) _ := k
    cases e1 : itemsD u with
    | bad => rw [e1] at k'; exact k'.elim
    | err z fs => exfalso; revert e1; cases u <;> (intro e; cases e)
    | ok xs =>
      cases e2 : itemsD v with
      | bad => rw [e1, e2] at k'; exact k'.elim
      | err z fs => exfalso; revert e2; cases v <;> (intro e; cases e)
      | ok ys =>
        rw [e1, e2] at k'
        obtain ⟨p1, vs1, rfl, s1, t1⟩ := src_of q1 e1
        obtain ⟨p2, vs2, rfl, s2, t2⟩ := src_of q2 e2
        exact ⟨p1, p2, vs1, vs2, rfl, src_mono c1.ex s1, src_mono c1.ex s2, k' _ G1 H1 g1 c1 k1 (it_zip s1 s2 t1 t2)⟩
  | [], _, k => exact k.elim
  | [_], _, k => exact k.elim
  | _ :: _ :: _ :: _, _, k => exact k.elim
end
/-! ### targets of names -/
def un2 : PD → Out (PD × PD)
  | .tuple [a, b] => .ok (a, b)
  | _ => .bad
def un3 : PD → Out (PD × PD × PD)
  | .tuple [a, b, c] => .ok (a, b, c)
  | _ => .bad
theorem un2_err {d : PD} {z : Str} {fs : List (Str × PD)} : un2 d ≠ .err z fs := by
  unfold un2; split <;> (intro h; cases h)
theorem un3_err {d : PD} {z : Str} {fs : List (Str × PD)} : un3 d ≠ .err z fs := by
  unfold un3; split <;> (intro h; cases h)
theorem un2_ok {d : PD} {t : PD × PD} (h : un2 d = .ok t) : d = .tuple [t.1, t.2] := by
  unfold un2 at h; split at h <;> cases h; rfl
theorem un3_ok {d : PD} {t : PD × PD × PD} (h : un3 d = .ok t) : d = .tuple [t.1, t.2.1, t.2.2] := by
  unfold un3 at h; split at h <;> cases h; rfl
section
variable {X : Cx} {pos p1 p2 p3 : Pos} {kk : Nat}
theorem tg_tup2 (i j : Nat) {x y : Str} (hc : X.calm = true) (hN : X.N.Nodup) (hi : X.N[i]? = some x := by rfl) (hj : X.N[j]? = some y := by rfl) (hx : Loc X.env.scope x := by first | exact Or.inl rfl | exact Or.inr rfl) (hy : Loc X.env.scope y := by first | exact Or.inl rfl | exact Or.inr rfl)
    (hf : X.fn x = true ∨ X.env.scope.names.lookup x = some .local := by first | exact .inl rfl | exact .inr rfl) (hf2 : X.fn y = true ∨ X.env.scope.names.lookup y = some .local := by first | exact .inl rfl | exact .inr rfl)
    (hn : (assignEach [.Name x p1, .Name y p2] X.env).length = 2 := by rfl) (hst : (assignEach [.Name x p1, .Name y p2] X.env).findIdx? (·.1) = none := by rfl)
    (hs1 : (assignEach [.Name x p1, .Name y p2] X.env).map (·.2) = assign (.Name x p1) X.env :: (assignEach [.Name y p2] X.env).map (·.2) := by rfl) (hs2 : (assignEach [.Name y p2] X.env).map (·.2) = assign (.Name y p2) X.env :: (assignEach [] X.env).map (·.2) := by rfl) :
    TgOk X (.Tuple [.Name x p1, .Name y p2] kk pos) [i, j] (fun d ρ => un2 d >>= fun t => .ok ((ρ.set i (some (.d t.1))).set j (some (.d t.2)))) := by
  refine ⟨_, pg_tup hc (pgs_cons (pg_name hN hi hx hf) (pgs_cons (pg_name hN hj hy hf2) pgs_nil hs2) hs1) hn hst, fun Γ G ρ ms cs σ H v d Q c hd hr => ?_⟩
  dsimp only at hr
  cases eu : un2 d with
  | bad => rw [eu] at hr; exact hr.elim
  | err z fs => exact (un2_err eu).elim
  | ok t =>
    have ed := un2_ok eu
    subst ed
    cases hd with
    | @tup ad vs _ hs r =>
      cases r with
      | @cons v1 _ _ _ q1 r =>
        cases r with
        | @cons v2 _ _ _ q2 r =>
          cases r
          rw [eu] at hr
          have hq := sqt_mono c.ex hs
          refine ⟨ad, [v1, v2], rfl, hq, rfl, v1, [v2], rfl, v2, [], rfl, rfl, ?_⟩
          refine hr ((σ.set i (some v1)).set j (some v2)) (c.env' (env_set (env_set c.env (av := .d t.1) q1 i) (av := .d t.2) q2 j)) (fun q hq => ?_) ?_
          · rw [List.getElem?_set_ne (fun z => hq (by simp [z])), List.getElem?_set_ne (fun z => hq (by simp [z]))]
          · rw [List.length_set, List.length_set]
theorem tg_tup3 (i j k : Nat) {x y w : Str} (hc : X.calm = true) (hN : X.N.Nodup) (hi : X.N[i]? = some x := by rfl) (hj : X.N[j]? = some y := by rfl) (hk : X.N[k]? = some w := by rfl) (hx : Loc X.env.scope x := by first | exact Or.inl rfl | exact Or.inr rfl) (hy : Loc X.env.scope y := by first | exact Or.inl rfl | exact Or.inr rfl) (hw : Loc X.env.scope w := by first | exact Or.inl rfl | exact Or.inr rfl)
    (hf : X.fn x = true ∨ X.env.scope.names.lookup x = some .local := by first | exact .inl rfl | exact .inr rfl) (hf2 : X.fn y = true ∨ X.env.scope.names.lookup y = some .local := by first | exact .inl rfl | exact .inr rfl) (hf3 : X.fn w = true ∨ X.env.scope.names.lookup w = some .local := by first | exact .inl rfl | exact .inr rfl)
    (hn : (assignEach [.Name x p1, .Name y p2, .Name w p3] X.env).length = 3 := by rfl) (hst : (assignEach [.Name x p1, .Name y p2, .Name w p3] X.env).findIdx? (·.1) = none := by rfl)
    (hs1 : (assignEach [.Name x p1, .Name y p2, .Name w p3] X.env).map (·.2) = assign (.Name x p1) X.env :: (assignEach [.Name y p2, .Name w p3] X.env).map (·.2) := by rfl) (hs2 : (assignEach [.Name y p2, .Name w p3] X.env).map (·.2) = assign (.Name y p2) X.env :: (assignEach [.Name w p3] X.env).map (·.2) := by rfl)
    (hs3 : (assignEach [.Name w p3] X.env).map (·.2) = assign (.Name w p3) X.env :: (assignEach [] X.env).map (·.2) := by rfl) :
    TgOk X (.Tuple [.Name x p1, .Name y p2, .Name w p3] kk pos) [i, j, k] (fun d ρ => un3 d >>= fun t => .ok (((ρ.set i (some (.d t.1))).set j (some (.d t.2.1))).set k (some (.d t.2.2)))) := by
  refine ⟨_, pg_tup hc (pgs_cons (pg_name hN hi hx hf) (pgs_cons (pg_name hN hj hy hf2) (pgs_cons (pg_name hN hk hw hf3) pgs_nil hs3) hs2) hs1) hn hst, fun Γ G ρ ms cs σ H v d Q c hd hr => ?_⟩
  dsimp only at hr
  cases eu : un3 d with
  | bad => rw [eu] at hr; exact hr.elim
  | err z fs => exact (un3_err eu).elim
  | ok t =>
    have ed := un3_ok eu
    subst ed
    cases hd with
    | @tup ad vs _ hs r =>
      cases r with
      | @cons v1 _ _ _ q1 r =>
        cases r with
        | @cons v2 _ _ _ q2 r =>
          cases r with
          | @cons v3 _ _ _ q3 r =>
            cases r
            rw [eu] at hr
            have hq := sqt_mono c.ex hs
            refine ⟨ad, [v1, v2, v3], rfl, hq, rfl, v1, [v2, v3], rfl, v2, [v3], rfl, v3, [], rfl, rfl, ?_⟩
            refine hr (((σ.set i (some v1)).set j (some v2)).set k (some v3)) (c.env' (env_set (env_set (env_set c.env (av := .d t.1) q1 i) (av := .d t.2.1) q2 j) (av := .d t.2.2) q3 k)) (fun q hq => ?_) ?_
            · rw [List.getElem?_set_ne (fun z => hq (by simp [z])), List.getElem?_set_ne (fun z => hq (by simp [z])), List.getElem?_set_ne (fun z => hq (by simp [z]))]
            · rw [List.length_set, List.length_set, List.length_set]
end
end Dd
set_option Elab.async false
set_option linter.all false
set_option maxRecDepth 100000
set_option maxHeartbeats 1000000
namespace Dd
open PySem PySem.Spec PyProof.Rows L2
/-! ### the plain part: what the operations do on told data -/
/-- a text of the letters l -/
def S (l : List Nat) : PD := .str ⟨l.toArray⟩
theorem str_S (z : Str) : PyData.str z = S z.cps.toList := rfl
theorem lit_S (s : String) : PyData.str (Str.ofString s) = S (s.toList.map Char.toNat) := by rw [Str.ofString_eq_toList]; rfl
@[simp] theorem S_inj {a b : List Nat} : (S a = S b) ↔ a = b := by simp [S]
inductive F2 {α β : Type} (P : α → β → Prop) : List α → List β → Prop where
  | nil : F2 P [] []
  | cons {a : α} {b : β} {as : List α} {bs : List β} : P a b → F2 P as bs → F2 P (a :: as) (b :: bs)
section
variable {α β γ : Type}
/-- m goes well, with P -/
def Ok (m : Out α) (P : α → Prop) : Prop := ∃ a, m = .ok a ∧ P a
theorem Ok.bind {m : Out α} {k : α → Out β} {P : α → Prop} {Q : β → Prop} (h : Ok m P) (hk : ∀ a, P a → Ok (k a) Q) : Ok (m >>= k) Q := by
  obtain ⟨a, rfl, h⟩ := h
  exact hk a h
theorem Ok.mono {m : Out α} {P Q : α → Prop} (h : Ok m P) (f : ∀ a, P a → Q a) : Ok m Q := by
  obtain ⟨a, e, h⟩ := h
  exact ⟨a, e, f a h⟩
theorem Ok.ret {a : α} {P : α → Prop} (h : P a) : Ok (.ok a) P := ⟨a, rfl, h⟩
/-- a loop with an invariant -/
theorem forM_ok {L R : Type} {b : PD → L → Out (Ctl L R L)} (I : List PD → L → Prop) : ∀ {ds : List PD} {l : L}, I ds l → (∀ d r l, I (d :: r) l → ∃ l', (b d l = .ok (.nx l') ∨ b d l = .ok (.ct l')) ∧ I r l') → ∃ l', forM b ds l = .ok (.nx l') ∧ I [] l'
  | [], l, h, _ => ⟨l, rfl, h⟩
  | d :: ds, l, h, hs => by
    obtain ⟨l', e, h'⟩ := hs d ds l h
    obtain ⟨l2, e2, h2⟩ := forM_ok I h' hs
    refine ⟨l2, ?_, h2⟩
    unfold forM
    rcases e with e | e <;> (rw [e]; exact e2)
theorem compP_map {f : PD → Out (Option PD)} {g : PD → Option PD} : ∀ {ds : List PD}, (∀ d ∈ ds, f d = .ok (g d)) → compP f ds = .ok (ds.filterMap g)
  | [], _ => rfl
  | d :: ds, h => by
    have e := compP_map (ds := ds) fun x hx => h x (List.mem_cons_of_mem _ hx)
    unfold compP
    rw [h d List.mem_cons_self, e]
    cases hg : g d with
    | none => simp [optC, hg]
    | some y => simp [optC, hg]
/-- a comprehension that draws: the values are as P says, the cells as I says -/
theorem compX_ok {f : PD → List CO → Out (Option PD × List CO)} (I : List CO → Prop) (P : PD → PD → Prop) : ∀ {ds : List PD} {cs : List CO}, I cs → (∀ d ∈ ds, ∀ cs, I cs → ∃ y cs', f d cs = .ok (some y, cs') ∧ P d y ∧ I cs') →
    ∃ ys cs', compX f ds cs = .ok (ys, cs') ∧ F2 P ds ys ∧ I cs'
  | [], cs, h, _ => ⟨[], cs, rfl, .nil, h⟩
  | d :: ds, cs, h, hs => by
    obtain ⟨y, c1, e, hp, h1⟩ := hs d List.mem_cons_self cs h
    obtain ⟨ys, c2, e2, hp2, h2⟩ := compX_ok (ds := ds) I P h1 fun x hx => hs x (List.mem_cons_of_mem _ hx)
    refine ⟨y :: ys, c2, ?_, .cons hp hp2, h2⟩
    unfold compX
    rw [e, noErr_ok, ok_bind]
    dsimp only
    rw [e2]
    rfl
end

theorem F2.len {α β : Type} {P : α → β → Prop} {as : List α} {bs : List β} (h : F2 P as bs) : as.length = bs.length := by
  induction h with
  | nil => rfl
  | cons _ _ ih => simp [ih]
/-! calls -/
section
variable {τ β : Type}
@[simp] theorem app_n {f : Out τ} : app [] f [] [] = f := rfl
@[simp] theorem app_d {ks : List AK} {f : FTy (Out τ) (.d :: ks)} {x : PD} {ds : List PD} {cs : List CO} : app (.d :: ks) f (x :: ds) cs = app ks (f x) ds cs := rfl
@[simp] theorem app_c {ks : List AK} {f : FTy (Out τ) (.c :: ks)} {x : List PD} {ds : List PD} {cs : List CO} : app (.c :: ks) f ds (.l x :: cs) = app ks (f x) ds cs := by cases ds <;> rfl
@[simp] theorem dOnly_ok {r : β × List CO} : dOnly (.ok r) = .ok r.1 := rfl
@[simp] theorem callC_0 {c : CO} {cs : List CO} {f : List CO → Out (β × List CO)} : callC [0] (c :: cs) f = (f [c] >>= fun r => .ok (r.1, putC [0] r.2 (c :: cs))) := rfl
@[simp] theorem callC_1 {c d : CO} {cs : List CO} {f : List CO → Out (β × List CO)} : callC [1] (c :: d :: cs) f = (f [d] >>= fun r => .ok (r.1, putC [1] r.2 (c :: d :: cs))) := rfl
@[simp] theorem callC_2 {c d e : CO} {cs : List CO} {f : List CO → Out (β × List CO)} : callC [2] (c :: d :: e :: cs) f = (f [e] >>= fun r => .ok (r.1, putC [2] r.2 (c :: d :: e :: cs))) := rfl
@[simp] theorem callC_3 {c d e g : CO} {cs : List CO} {f : List CO → Out (β × List CO)} : callC [3] (c :: d :: e :: g :: cs) f = (f [g] >>= fun r => .ok (r.1, putC [3] r.2 (c :: d :: e :: g :: cs))) := rfl
@[simp] theorem putC_0 {c c' : CO} {cs : List CO} : putC [0] [c'] (c :: cs) = c' :: cs := rfl
@[simp] theorem putC_1 {c d c' : CO} {cs : List CO} : putC [1] [c'] (c :: d :: cs) = c :: c' :: cs := rfl
@[simp] theorem putC_2 {c d e c' : CO} {cs : List CO} : putC [2] [c'] (c :: d :: e :: cs) = c :: d :: c' :: cs := rfl
@[simp] theorem putC_3 {c d e g c' : CO} {cs : List CO} : putC [3] [c'] (c :: d :: e :: g :: cs) = c :: d :: e :: c' :: cs := rfl
@[simp] theorem putC_n {cs : List CO} : putC [] [] cs = cs := rfl
@[simp] theorem callC_n {cs : List CO} {f : List CO → Out (β × List CO)} : callC [] cs f = (f [] >>= fun r => .ok (r.1, putC [] r.2 cs)) := rfl
variable {N R L : Type}
@[simp] theorem finE_rt {r : R} : finE (.rt r) = .ok r := rfl
@[simp] theorem finN_rt {r : PD × List CO} : finN (.rt r) = .ok r := rfl
@[simp] theorem finN_nx {n : List CO} : finN (.nx n) = .ok (.none, n) := rfl
@[simp] theorem upC_rt {r : R} : (upC (.rt r) : Ctl N R L) = .rt r := rfl
@[simp] theorem upC_bk {l : L} : (upC (.bk l) : Ctl N R L) = .bk l := rfl
@[simp] theorem upC_ct {l : L} : (upC (.ct l) : Ctl N R L) = .ct l := rfl
@[simp] theorem dnC_nx {n : N} : (dnC (.nx n : Ctl N R Empty) : Ctl N R L) = .nx n := rfl
@[simp] theorem dnC_rt {r : R} : (dnC (.rt r : Ctl N R Empty) : Ctl N R L) = .rt r := rfl
variable {N1 : Type}
@[simp] theorem seqC_nx {k : N1 → Out (Ctl N R L)} {n : N1} : seqC k (.nx n) = k n := rfl
@[simp] theorem seqC_rt {k : N1 → Out (Ctl N R L)} {r : R} : seqC k (.rt r) = .ok (.rt r) := rfl
@[simp] theorem seqC_bk {k : N1 → Out (Ctl N R L)} {r : L} : seqC k (.bk r) = .ok (.bk r) := rfl
@[simp] theorem seqC_ct {k : N1 → Out (Ctl N R L)} {r : L} : seqC k (.ct r) = .ok (.ct r) := rfl
@[simp] theorem dropC_0 {cs : List CO} : dropC 0 cs = .ok cs := rfl
@[simp] theorem dropC_s {n : Nat} {c : CO} {cs : List CO} : dropC (n + 1) (c :: cs) = dropC n cs := rfl
@[simp] theorem dropC_1 {c : CO} {cs : List CO} : dropC 1 (c :: cs) = .ok cs := rfl
@[simp] theorem dropC_2 {c d : CO} {cs : List CO} : dropC 2 (c :: d :: cs) = .ok cs := rfl
@[simp] theorem dropC_3 {c d e : CO} {cs : List CO} : dropC 3 (c :: d :: e :: cs) = .ok cs := rfl
@[simp] theorem cellL_0 {l : List PD} {cs : List CO} : cellL 0 (.l l :: cs) = .ok l := rfl
@[simp] theorem cellL_1 {c : CO} {l : List PD} {cs : List CO} : cellL 1 (c :: .l l :: cs) = .ok l := rfl
@[simp] theorem cellL_2 {c d : CO} {l : List PD} {cs : List CO} : cellL 2 (c :: d :: .l l :: cs) = .ok l := rfl
end
/-! ints -/
@[simp] theorem addD_i {a b : Int} : addD (.int a) (.int b) = .ok (.int (a + b)) := rfl
@[simp] theorem iaddD_i {a b : Int} : iaddD (.int a) (.int b) = .ok (.int (a + b)) := rfl
@[simp] theorem subD_i {a b : Int} : subD (.int a) (.int b) = .ok (.int (a - b)) := rfl
@[simp] theorem negD_i {a : Int} : negD (.int a) = .ok (.int (-a)) := rfl
@[simp] theorem intD_i {a : Int} : intD (.int a) = .ok (.int a) := rfl
theorem mulD_i {a b : Int} (h : CMul a b) : mulD (.int a) (.int b) = .ok (.int (a * b)) := if_pos h
theorem fdivD_i {a b : Int} (h : CDivN a b) : fdivD (.int a) (.int b) = .ok (.int (a.fdiv b)) := if_pos h
theorem modD_i {a b : Int} (h : b ≠ 0) : modD (.int a) (.int b) = .ok (.int (a.fmod b)) := if_pos h
theorem powD_i {a b : Int} (h : CPow a b) : powD (.int a) (.int b) = .ok (.int (a ^ b.toNat)) := if_pos h
@[simp] theorem ltD_i {a b : Int} : ltD (.int a) (.int b) = .ok (decide (a < b)) := rfl
@[simp] theorem leD_i {a b : Int} : leD (.int a) (.int b) = .ok (decide (a ≤ b)) := rfl
@[simp] theorem gtD_i {a b : Int} : gtD (.int a) (.int b) = .ok (decide (b < a)) := rfl
@[simp] theorem geD_i {a b : Int} : geD (.int a) (.int b) = .ok (decide (b ≤ a)) := rfl
@[simp] theorem eqD_i {a b : Int} : eqD (.int a) (.int b) = .ok (decide (a = b)) := by
  show (if _ then Out.ok (a == b) else .bad) = _
  rw [if_pos (show (SeqAt.shaped (.int a) && SeqAt.shaped (.int b)) = true from rfl)]; congr 1
@[simp] theorem neD_i {a b : Int} : neD (.int a) (.int b) = .ok (!decide (a = b)) := by
  show (if _ then Out.ok (!(a == b)) else .bad) = _
  rw [if_pos (show (SeqAt.shaped (.int a) && SeqAt.shaped (.int b)) = true from rfl)]; congr 1
@[simp] theorem eqD_b {a b : Bool} : eqD (.bool a) (.bool b) = .ok (a == b) := by cases a <;> cases b <;> rfl
@[simp] theorem neD_b {a b : Bool} : neD (.bool a) (.bool b) = .ok (!(a == b)) := by cases a <;> cases b <;> rfl
@[simp] theorem partD_i {a : Int} : partD (.int a) = .ok (some a) := rfl
@[simp] theorem boolD_b {a : Bool} : boolD (.bool a) = .ok a := rfl
@[simp] theorem truthD_b {a : Bool} : truthD (.bool a) = .ok a := rfl
@[simp] theorem truthD_l {a : List PD} : truthD (.list a) = .ok (!a.isEmpty) := rfl
theorem rangeD_n {n : Nat} (h : n < 2 ^ 62) : rangeD (.int 0) (.int (n : Int)) = .ok ((List.range n).map fun i => .int ((i : Nat) : Int)) := by
  unfold rangeD
  dsimp only
  rw [if_pos (by refine ⟨?_, ?_, ?_, ?_⟩ <;> omega)]
  simp
/-! lists -/
@[simp] theorem lenD_l {xs : List PD} : lenD (.list xs) = .ok (.int xs.length) := rfl
@[simp] theorem lenD_t {xs : List PD} : lenD (.tuple xs) = .ok (.int xs.length) := rfl
@[simp] theorem itemsD_l {xs : List PD} : itemsD (.list xs) = .ok xs := rfl
@[simp] theorem itemsD_t {xs : List PD} : itemsD (.tuple xs) = .ok xs := rfl
@[simp] theorem seqD_l {xs : List PD} : seqD (.list xs) = .ok xs := rfl
@[simp] theorem seqD_t {xs : List PD} : seqD (.tuple xs) = .ok xs := rfl
@[simp] theorem tupleD_l {xs : List PD} : tupleD (.list xs) = .ok (.tuple xs) := rfl
@[simp] theorem tupleD_t {xs : List PD} : tupleD (.tuple xs) = .ok (.tuple xs) := rfl
theorem atI_n {α : Type} {xs : List α} {n : Nat} : atI xs (n : Int) = xs[n]? := by
  unfold atI ixN
  rw [if_pos (by omega)]
  by_cases h : n < xs.length
  · rw [if_pos (by omega)]; simp
  · rw [if_neg (by omega)]; simp at h ⊢; exact h
theorem idxD_l {xs : List PD} {n : Nat} {d : PD} (h : xs[n]? = some d) : idxD (.list xs) (.int (n : Int)) = .ok d := by
  show (match atI xs (n : Int) with | some d => Out.ok d | none => .bad) = _
  rw [atI_n, h]
theorem idxD_t {xs : List PD} {n : Nat} {d : PD} (h : xs[n]? = some d) : idxD (.tuple xs) (.int (n : Int)) = .ok d := by
  show (match atI xs (n : Int) with | some d => Out.ok d | none => .bad) = _
  rw [atI_n, h]
@[simp] theorem idxD_l0 {x : PD} {xs : List PD} : idxD (.list (x :: xs)) (.int 0) = .ok x := idxD_l (n := 0) rfl
@[simp] theorem idxD_l1 {x y : PD} {xs : List PD} : idxD (.list (x :: y :: xs)) (.int 1) = .ok y := idxD_l (n := 1) rfl
@[simp] theorem idxD_l2 {x y z : PD} {xs : List PD} : idxD (.list (x :: y :: z :: xs)) (.int 2) = .ok z := idxD_l (n := 2) rfl
@[simp] theorem idxD_t0 {x : PD} {xs : List PD} : idxD (.tuple (x :: xs)) (.int 0) = .ok x := idxD_t (n := 0) rfl
@[simp] theorem idxD_t1 {x y : PD} {xs : List PD} : idxD (.tuple (x :: y :: xs)) (.int 1) = .ok y := idxD_t (n := 1) rfl
@[simp] theorem idxD_t2 {x y z : PD} {xs : List PD} : idxD (.tuple (x :: y :: z :: xs)) (.int 2) = .ok z := idxD_t (n := 2) rfl
@[simp] theorem setD_0 {x d : PD} {xs : List PD} : setD (x :: xs) (.int 0) d = .ok (d :: xs) := by
  show (match ixN (x :: xs).length 0 with | some j => Out.ok ((x :: xs).set j d) | none => .bad) = _
  have : ixN (x :: xs).length 0 = some 0 := by unfold ixN; rw [if_pos (by omega), if_pos (by simp <;> omega)]; rfl
  rw [this]; rfl
@[simp] theorem setD_1 {x y d : PD} {xs : List PD} : setD (x :: y :: xs) (.int 1) d = .ok (x :: d :: xs) := by
  show (match ixN (x :: y :: xs).length 1 with | some j => Out.ok ((x :: y :: xs).set j d) | none => .bad) = _
  have : ixN (x :: y :: xs).length 1 = some 1 := by unfold ixN; rw [if_pos (by omega), if_pos (by simp <;> omega)]; rfl
  rw [this]; rfl
theorem appD_ok {ds : List PD} {d : PD} (h : ds.length < sizeLine) : appD ds d = .ok (ds ++ [d]) := if_pos h
theorem sizeLine_eq : sizeLine = 16777216 := by decide
/-! texts -/
theorem S_len {l : List Nat} : (⟨l.toArray⟩ : Str).length = l.length := by simp [Str.length]
theorem addD_S {a b : List Nat} (h : a.length + b.length ≤ sizeLine) : addD (S a) (S b) = .ok (S (a ++ b)) := by
  show (if (⟨a.toArray⟩ : Str).length + (⟨b.toArray⟩ : Str).length ≤ sizeLine then Out.ok (PyData.str (⟨a.toArray⟩ ++ ⟨b.toArray⟩)) else .bad) = _
  rw [S_len, S_len, if_pos h]
  show Out.ok (PyData.str ⟨a.toArray ++ b.toArray⟩) = _
  simp [S]
theorem lenD_S {a : List Nat} (h : a.length ≤ sizeLine) : lenD (S a) = .ok (.int a.length) := by
  show (if (⟨a.toArray⟩ : Str).length ≤ sizeLine then Out.ok (PyData.int (⟨a.toArray⟩ : Str).length) else .bad) = _
  rw [S_len, if_pos h]
theorem idxD_S {a : List Nat} {n : Nat} {c : Nat} (h : a.length ≤ sizeLine) (hc : a[n]? = some c) : idxD (S a) (.int (n : Int)) = .ok (S [c]) := by
  show (if (⟨a.toArray⟩ : Str).length ≤ sizeLine then (match atI (⟨a.toArray⟩ : Str).cps.toList (n : Int) with | some c => Out.ok (PyData.str ⟨#[c]⟩) | none => .bad) else .bad) = _
  rw [S_len, if_pos h, atI_n]
  simp [hc, S]
theorem itemsD_S {a : List Nat} : itemsD (S a) = .ok (a.map fun c => S [c]) := by simp [itemsD, S]
@[simp] theorem asStr_S {a : List Nat} : asStr (S a) = .ok ⟨a.toArray⟩ := rfl
theorem strOk_S {a : List Nat} : PyData.strOk ⟨a.toArray⟩ = a.all (· < 0x110000) := by
  simp [PyData.strOk]

/-- letters that can be -/
def Tx (a : List Nat) : Prop := ∀ c ∈ a, c < 0x110000
theorem Tx.app {a b : List Nat} (h : Tx a) (h' : Tx b) : Tx (a ++ b) := fun c m => (List.mem_append.mp m).elim (h c) (h' c)
theorem Tx.sub {a b : List Nat} (h : Tx a) (s : ∀ c ∈ b, c ∈ a) : Tx b := fun c m => h c (s c m)
theorem Tx.take {a : List Nat} (h : Tx a) (n : Nat) : Tx (a.take n) := h.sub fun _ m => List.mem_of_mem_take m
theorem Tx.drop {a : List Nat} (h : Tx a) (n : Nat) : Tx (a.drop n) := h.sub fun _ m => List.mem_of_mem_drop m
@[simp] theorem Tx.nil : Tx [] := fun _ m => by cases m
theorem shaped_S {a : List Nat} (h : Tx a) : SeqAt.shaped (S a) = true := by
  show (PyData.canLay0 (S a) && decide (PyData.depth (S a) ≤ 64)) = true
  have e1 : PyData.canLay0 (S a) = PyData.strOk ⟨a.toArray⟩ := by simp [S, PyData.canLay0]
  have e2 : PyData.depth (S a) = 0 := by simp [S, PyData.depth]
  rw [e1, e2, strOk_S]
  simpa using show ∀ c ∈ a, c < 0x110000 from h
theorem shaped_iff {d : PD} : SeqAt.shaped d = true ↔ PyData.canLay0 d = true ∧ PyData.depth d ≤ 64 := by
  show (PyData.canLay0 d && decide (PyData.depth d ≤ 64)) = true ↔ _
  simp
theorem lay_all {k : Nat} : ∀ {ds : List PD}, (∀ d ∈ ds, PyData.canLay0 d = true ∧ PyData.depth d ≤ k) → PyData.canLayAll0 ds = true ∧ PyData.depthAll ds ≤ k
  | [], _ => ⟨by simp [PyData.canLayAll0], by simp [PyData.depthAll]⟩
  | d :: ds, h => by
    obtain ⟨h1, h2⟩ := lay_all (ds := ds) fun x hx => h x (List.mem_cons_of_mem _ hx)
    obtain ⟨g1, g2⟩ := h d List.mem_cons_self
    refine ⟨by simp [PyData.canLayAll0, g1, h1], ?_⟩
    rw [PyData.depthAll]
    omega
theorem lay_S {a : List Nat} (h : Tx a) : PyData.canLay0 (S a) = true ∧ PyData.depth (S a) = 0 := by
  have e1 : PyData.canLay0 (S a) = PyData.strOk ⟨a.toArray⟩ := by simp [S, PyData.canLay0]
  have e2 : PyData.depth (S a) = 0 := by simp [S, PyData.depth]
  rw [e1, e2, strOk_S]
  exact ⟨by simpa using show ∀ c ∈ a, c < 0x110000 from h, rfl⟩
theorem shaped_l {k : Nat} {ds : List PD} (h : ∀ d ∈ ds, PyData.canLay0 d = true ∧ PyData.depth d ≤ k) (hk : k ≤ 63) : SeqAt.shaped (.list ds) = true := by
  obtain ⟨h1, h2⟩ := lay_all h
  rw [shaped_iff]
  exact ⟨by simp [PyData.canLay0, h1], by simp [PyData.depth]; omega⟩
theorem shaped_t {k : Nat} {ds : List PD} (h : ∀ d ∈ ds, PyData.canLay0 d = true ∧ PyData.depth d ≤ k) (hk : k ≤ 63) : SeqAt.shaped (.tuple ds) = true := by
  obtain ⟨h1, h2⟩ := lay_all h
  rw [shaped_iff]
  exact ⟨by simp [PyData.canLay0, h1], by simp [PyData.depth]; omega⟩
theorem eq_list_nil {ds : List PD} (h : SeqAt.shaped (.list ds) = true) : eqD (.list ds) (.list []) = .ok (decide (ds = [])) := by
  unfold eqD
  rw [h, show SeqAt.shaped (.list []) = true from rfl]
  cases ds <;> simp [PyData.eqv, PyData.eqvAll]
theorem eqv_S {a b : List Nat} : PyData.eqv (S a) (S b) = decide (a = b) := by
  show ((⟨a.toArray⟩ : Str) == ⟨b.toArray⟩) = _
  rw [Bool.eq_iff_iff]
  simp
theorem eqD_S {a b : List Nat} (h : Tx a) (h' : Tx b) : eqD (S a) (S b) = .ok (decide (a = b)) := by
  unfold eqD
  rw [shaped_S h, shaped_S h', eqv_S]; rfl
theorem neD_S {a b : List Nat} (h : Tx a) (h' : Tx b) : neD (S a) (S b) = .ok (!decide (a = b)) := by
  unfold neD
  rw [shaped_S h, shaped_S h', eqv_S]; rfl
theorem cutL_hi {α : Type} {a : List α} {n : Nat} : cutL a none (some (n : Int)) = a.take n := by
  unfold cutL
  rw [HT.sIx_nat, HT.sIx_none, List.drop_zero, Nat.sub_zero]
  by_cases h : n ≤ a.length
  · rw [Nat.min_eq_left h]
  · rw [Nat.min_eq_right (by omega), List.take_length, List.take_of_length_le (by omega)]
theorem cutL_lo {α : Type} {a : List α} {n : Nat} : cutL a (some (n : Int)) none = a.drop n := by
  unfold cutL
  rw [HT.sIx_nat, HT.sIx_none]
  by_cases h : n ≤ a.length
  · rw [Nat.min_eq_left h, List.take_of_length_le (by rw [List.length_drop]; omega)]
  · rw [Nat.min_eq_right (by omega), List.drop_length, List.take_nil, List.drop_eq_nil_of_le (by omega)]
theorem cutL_lh {α : Type} {a : List α} {m n : Nat} : cutL a (some (m : Int)) (some (n : Int)) = (a.drop m).take (n - m) := by
  unfold cutL
  rw [HT.sIx_nat, HT.sIx_nat]
  by_cases h : m ≤ a.length
  · rw [Nat.min_eq_left (a := m) h]
    by_cases h2 : n ≤ a.length
    · rw [Nat.min_eq_left (a := n) h2]
    · rw [Nat.min_eq_right (a := n) (by omega), List.take_of_length_le (by rw [List.length_drop]; omega), List.take_of_length_le (by rw [List.length_drop]; omega)]
  · rw [Nat.min_eq_right (a := m) (by omega), List.drop_length, List.take_nil, List.drop_eq_nil_of_le (as := a) (i := m) (by omega), List.take_nil]
theorem cutD_S {a : List Nat} {lo hi : Option Int} (h : a.length ≤ sizeLine) : cutD (S a) lo hi = .ok (S (cutL a lo hi)) := by
  show (if (⟨a.toArray⟩ : Str).length ≤ sizeLine then Out.ok (PyData.str (cutS ⟨a.toArray⟩ lo hi)) else .bad) = _
  rw [S_len, if_pos h]
  rw [str_S]
  unfold cutS cutL
  rw [S_len]
@[simp] theorem cutD_l {a : List PD} {lo hi : Option Int} : cutD (.list a) lo hi = .ok (.list (cutL a lo hi)) := rfl
@[simp] theorem cutD_t {a : List PD} {lo hi : Option Int} : cutD (.tuple a) lo hi = .ok (.tuple (cutL a lo hi)) := rfl
@[simp] theorem cutLL_l {a : List PD} {lo hi : Option Int} : cutLL (.list a) lo hi = .ok (cutL a lo hi) := rfl
theorem startsD_S {a b : List Nat} : startsD (S a) (S b) = .ok (.bool (decide (a.take b.length = b))) := by
  show Out.ok (PyData.bool (Txt.startswith ⟨a.toArray⟩ ⟨b.toArray⟩)) = _
  congr 2
  unfold Txt.startswith Builtin.Str.subAt
  rw [S_len, S_len, Bool.eq_iff_iff]
  simp only [Bool.and_eq_true, decide_eq_true_eq, Nat.zero_add, beq_iff_eq]
  constructor
  · rintro ⟨h1, h2⟩
    have := congrArg Array.toList h2
    simpa using this
  · intro h
    refine ⟨?_, ?_⟩
    · have := congrArg List.length h
      rw [List.length_take] at this
      omega
    · apply Array.ext'
      simpa using h
theorem glued_nil : ∀ (parts : List (List Nat)), Builtin.Str.glued ⟨#[]⟩ (parts.map fun l => (⟨l.toArray⟩ : Str)) = ⟨parts.flatten.toArray⟩ := by
  intro parts
  cases parts with
  | nil => rfl
  | cons p ps =>
    have key : ∀ (ps : List (List Nat)) (acc : Array Nat), (ps.map fun l => (⟨l.toArray⟩ : Str)).foldl (fun (acc : Array Nat) (p : Str) => acc ++ (⟨#[]⟩ : Str).cps ++ p.cps) acc = acc ++ ps.flatten.toArray := by
      intro ps
      induction ps with
      | nil => intro acc; simp
      | cons q ps ih =>
        intro acc
        rw [List.map_cons, List.foldl_cons, ih]
        simp
    unfold Builtin.Str.glued
    rw [List.map_cons, List.drop_succ_cons, List.drop_zero, key]
    simp
theorem joinD_S0 {ls : List (List Nat)} (h : ls.flatten.length ≤ 16777216) : joinD (S []) (.list (ls.map S)) = .ok (S ls.flatten) := by
  have e : (ls.map S) = (ls.map fun l => (⟨l.toArray⟩ : Str)).map PyData.str := by rw [List.map_map]; rfl
  show (match strsD (ls.map S) with
    | some zs => if (zs.map fun (z : Str) => z.length).sum + zs.length * (⟨([] : List Nat).toArray⟩ : Str).length ≤ 16777216 then Out.ok (PyData.str (Txt.join ⟨([] : List Nat).toArray⟩ zs)) else .bad
    | none => .bad) = _
  rw [e, strsD_map]
  dsimp only
  rw [if_pos]
  · show Out.ok (PyData.str (Builtin.Str.glued ⟨#[]⟩ _)) = _
    rw [glued_nil]; rfl
  · rw [S_len]
    simp only [List.length_nil, Nat.mul_zero, Nat.add_zero, List.map_map]
    rw [List.length_flatten] at h
    have e3 : List.map ((fun (x : Str) => x.length) ∘ fun l => (⟨l.toArray⟩ : Str)) ls = List.map List.length ls := by
      apply List.map_congr_left
      intro l _
      exact S_len
    rw [e3]
    exact h
/-! types -/
@[simp] theorem isi_S {T : String} {a : List Nat} : isiD T (S a) = isiD T (.str ⟨#[]⟩) := rfl
theorem isi_i {T : String} {a : Int} : isiD T (.int a) = isiD T (.int 0) := rfl
theorem isi_b {T : String} {a : Bool} : isiD T (.bool a) = isiD T (.bool true) := rfl
theorem isi_l {T : String} {a : List PD} : isiD T (.list a) = isiD T (.list []) := rfl
theorem isi_t {T : String} {a : List PD} : isiD T (.tuple a) = isiD T (.tuple []) := rfl

section
variable {α β : Type}
theorem Ok.of {m : Out α} {P : α → Prop} {a : α} (h : m = .ok a) (p : P a) : Ok m P := ⟨a, h, p⟩
theorem Ok.then' {m : Out α} {k : α → Out β} {P : α → Prop} {Q : β → Prop} (h : Ok m P) (hk : ∀ a, P a → Ok (k a) Q) : Ok (m >>= k) Q := h.bind hk
theorem compX_Ok {f : PD → List CO → Out (Option PD × List CO)} (I : List CO → Prop) (P : PD → PD → Prop) {ds : List PD} {cs : List CO} (h : I cs) (hs : ∀ d ∈ ds, ∀ cs, I cs → Ok (f d cs) fun r => ∃ y, r.1 = some y ∧ P d y ∧ I r.2) : Ok (compX f ds cs) fun r => F2 P ds r.1 ∧ I r.2 := by
  obtain ⟨ys, cs', e, h1, h2⟩ := compX_ok (f := f) I P h fun d hd cs hc => by
    obtain ⟨⟨y', cs'⟩, e, y, e2, p, i⟩ := hs d hd cs hc
    exact ⟨y, cs', by rw [e]; congr 2, p, i⟩
  exact ⟨(ys, cs'), e, h1, h2⟩
theorem forM_Ok {L R : Type} {b : PD → L → Out (Ctl L R L)} (I : List PD → L → Prop) {ds : List PD} {l : L} (h : I ds l) (hs : ∀ d r l, I (d :: r) l → Ok (b d l) fun c => ∃ l', (c = .nx l' ∨ c = .ct l') ∧ I r l') : Ok (forM b ds l) fun c => ∃ l', c = .nx l' ∧ I [] l' := by
  obtain ⟨l', e, h'⟩ := forM_ok (b := b) I h fun d r l hi => by
    obtain ⟨c, e, l', e2, h'⟩ := hs d r l hi
    refine ⟨l', ?_, h'⟩
    rcases e2 with e2 | e2
    · exact .inl (by rw [e, e2])
    · exact .inr (by rw [e, e2])
  exact ⟨_, e, l', rfl, h'⟩
theorem forM_OkR {L R : Type} {b : PD → L → Out (Ctl L R L)} (I : List PD → L → Prop) (Q : R → Prop) : ∀ {ds : List PD} {l : L}, I ds l → (∀ d r l, I (d :: r) l → Ok (b d l) fun c => (∃ l', (c = .nx l' ∨ c = .ct l') ∧ I r l') ∨ ∃ x, c = .rt x ∧ Q x) → Ok (forM b ds l) fun c => (∃ l', c = .nx l' ∧ I [] l') ∨ ∃ x, c = .rt x ∧ Q x
  | [], l, h, _ => ⟨_, rfl, .inl ⟨l, rfl, h⟩⟩
  | d :: ds, l, h, hs => by
    obtain ⟨c, e, q⟩ := hs d ds l h
    unfold forM
    rw [e]
    rcases q with ⟨l', q, h'⟩ | ⟨x, rfl, hq⟩
    · have ih := forM_OkR I Q h' hs
      rcases q with rfl | rfl <;> exact ih
    · exact ⟨_, rfl, .inr ⟨x, rfl, hq⟩⟩
theorem forM_range {L R : Type} {b : PD → L → Out (Ctl L R L)} (I : Nat → L → Prop) {n : Nat} {l : L} (h : I 0 l) (hs : ∀ k l, k < n → I k l → Ok (b (.int ((k : Nat) : Int)) l) fun c => ∃ l', (c = .nx l' ∨ c = .ct l') ∧ I (k + 1) l') :
    Ok (forM b ((List.range n).map fun i => PyData.int ((i : Nat) : Int)) l) fun c => ∃ l', c = .nx l' ∧ I n l' := by
  refine (forM_Ok (fun r l => ∃ k, r = ((List.range n).drop k).map (fun i => PyData.int ((i : Nat) : Int)) ∧ k ≤ n ∧ I k l) ⟨0, by simp, Nat.zero_le _, h⟩ ?_).mono ?_
  · rintro d r l ⟨k, e, hk, hi⟩
    by_cases hn : k < n
    · rw [List.drop_eq_getElem_cons (by simpa using hn), List.map_cons, List.getElem_range] at e
      cases e
      obtain ⟨c, e, l', q, h'⟩ := hs k l hn hi
      exact ⟨c, e, l', q, k + 1, rfl, hn, h'⟩
    · rw [List.drop_eq_nil_of_le (by simp; omega)] at e
      cases e
  · rintro c ⟨l', rfl, k, e, hk, hi⟩
    have : k = n := by
      have := congrArg List.length e
      simp at this
      omega
    subst this
    exact ⟨l', rfl, hi⟩
theorem F2.imp {P Q : α → β → Prop} {as : List α} {bs : List β} (h : F2 P as bs) (f : ∀ a b, P a b → Q a b) : F2 Q as bs := by
  induction h with
  | nil => exact .nil
  | cons p _ ih => exact .cons (f _ _ p) ih
theorem F2.map_of {γ : Type} {P : γ → Prop} {g : γ → β} {as : List α} {bs : List β} (h : F2 (fun _ y => ∃ c, y = g c ∧ P c) as bs) : ∃ cs : List γ, bs = cs.map g ∧ ∀ c ∈ cs, P c := by
  induction h with
  | nil => exact ⟨[], rfl, fun _ m => by cases m⟩
  | cons q _ ih =>
    obtain ⟨c, rfl, hc⟩ := q
    obtain ⟨cs, rfl, hcs⟩ := ih
    refine ⟨c :: cs, rfl, fun x m => ?_⟩
    rcases List.mem_cons.mp m with e | m
    · rw [e]; exact hc
    · exact hcs x m
end
theorem flat1 : ∀ cs : List Nat, (cs.map fun c => [c]).flatten = cs
  | [] => rfl
  | c :: cs => by rw [List.map_cons, List.flatten_cons, flat1 cs]; rfl
theorem joinD_1 {cs : List Nat} (h : cs.length ≤ 16777216) : joinD (S []) (.list (cs.map fun c => S [c])) = .ok (S cs) := by
  have := joinD_S0 (ls := cs.map fun c => [c]) (by rw [flat1]; exact h)
  rw [List.map_map, flat1] at this
  exact this
theorem S_nil : PyData.str "" = S [] := by kernel_rfl
theorem is_str_n : isiD "str" .none = .ok (.bool false) := by kernel_rfl
theorem is_str_b {b : Bool} : isiD "str" (.bool b) = .ok (.bool false) := by kernel_rfl
theorem is_str_i {i : Int} : isiD "str" (.int i) = .ok (.bool false) := by kernel_rfl
theorem is_str_s {a : List Nat} : isiD "str" (S a) = .ok (.bool true) := by kernel_rfl
theorem is_str_l {xs : List PD} : isiD "str" (.list xs) = .ok (.bool false) := by kernel_rfl
theorem is_str_t {xs : List PD} : isiD "str" (.tuple xs) = .ok (.bool false) := by kernel_rfl
theorem is_int_n : isiD "int" .none = .ok (.bool false) := by kernel_rfl
theorem is_int_b {b : Bool} : isiD "int" (.bool b) = .ok (.bool true) := by kernel_rfl
theorem is_int_i {i : Int} : isiD "int" (.int i) = .ok (.bool true) := by kernel_rfl
theorem is_int_s {a : List Nat} : isiD "int" (S a) = .ok (.bool false) := by kernel_rfl
theorem is_int_l {xs : List PD} : isiD "int" (.list xs) = .ok (.bool false) := by kernel_rfl
theorem is_int_t {xs : List PD} : isiD "int" (.tuple xs) = .ok (.bool false) := by kernel_rfl
theorem is_bool_n : isiD "bool" .none = .ok (.bool false) := by kernel_rfl
theorem is_bool_b {b : Bool} : isiD "bool" (.bool b) = .ok (.bool true) := by kernel_rfl
theorem is_bool_i {i : Int} : isiD "bool" (.int i) = .ok (.bool false) := by kernel_rfl
theorem is_bool_s {a : List Nat} : isiD "bool" (S a) = .ok (.bool false) := by kernel_rfl
theorem is_bool_l {xs : List PD} : isiD "bool" (.list xs) = .ok (.bool false) := by kernel_rfl
theorem is_bool_t {xs : List PD} : isiD "bool" (.tuple xs) = .ok (.bool false) := by kernel_rfl
theorem is_tuple_n : isiD "tuple" .none = .ok (.bool false) := by kernel_rfl
theorem is_tuple_b {b : Bool} : isiD "tuple" (.bool b) = .ok (.bool false) := by kernel_rfl
theorem is_tuple_i {i : Int} : isiD "tuple" (.int i) = .ok (.bool false) := by kernel_rfl
theorem is_tuple_s {a : List Nat} : isiD "tuple" (S a) = .ok (.bool false) := by kernel_rfl
theorem is_tuple_l {xs : List PD} : isiD "tuple" (.list xs) = .ok (.bool false) := by kernel_rfl
theorem is_tuple_t {xs : List PD} : isiD "tuple" (.tuple xs) = .ok (.bool true) := by kernel_rfl
theorem is_list_n : isiD "list" .none = .ok (.bool false) := by kernel_rfl
theorem is_list_b {b : Bool} : isiD "list" (.bool b) = .ok (.bool false) := by kernel_rfl
theorem is_list_i {i : Int} : isiD "list" (.int i) = .ok (.bool false) := by kernel_rfl
theorem is_list_s {a : List Nat} : isiD "list" (S a) = .ok (.bool false) := by kernel_rfl
theorem is_list_l {xs : List PD} : isiD "list" (.list xs) = .ok (.bool true) := by kernel_rfl
theorem is_list_t {xs : List PD} : isiD "list" (.tuple xs) = .ok (.bool false) := by kernel_rfl
theorem isD_n_n : isD .none .none = .ok true := rfl
theorem isNotD_n_n : isNotD .none .none = .ok false := rfl
theorem isD_true_n : isD .none (.bool true) = .ok false := rfl
theorem isNotD_true_n : isNotD .none (.bool true) = .ok true := rfl
theorem isD_false_n : isD .none (.bool false) = .ok false := rfl
theorem isNotD_false_n : isNotD .none (.bool false) = .ok true := rfl
theorem isD_n_b {b : Bool} : isD (.bool b) .none = .ok false := rfl
theorem isNotD_n_b {b : Bool} : isNotD (.bool b) .none = .ok true := rfl
theorem isD_n_i {i : Int} : isD (.int i) .none = .ok false := rfl
theorem isNotD_n_i {i : Int} : isNotD (.int i) .none = .ok true := rfl
theorem isD_true_i {i : Int} : isD (.int i) (.bool true) = .ok false := rfl
theorem isNotD_true_i {i : Int} : isNotD (.int i) (.bool true) = .ok true := rfl
theorem isD_false_i {i : Int} : isD (.int i) (.bool false) = .ok false := rfl
theorem isNotD_false_i {i : Int} : isNotD (.int i) (.bool false) = .ok true := rfl
theorem isD_n_s {a : List Nat} : isD (S a) .none = .ok false := rfl
theorem isNotD_n_s {a : List Nat} : isNotD (S a) .none = .ok true := rfl
theorem isD_true_s {a : List Nat} : isD (S a) (.bool true) = .ok false := rfl
theorem isNotD_true_s {a : List Nat} : isNotD (S a) (.bool true) = .ok true := rfl
theorem isD_false_s {a : List Nat} : isD (S a) (.bool false) = .ok false := rfl
theorem isNotD_false_s {a : List Nat} : isNotD (S a) (.bool false) = .ok true := rfl
theorem isD_n_l {xs : List PD} : isD (.list xs) .none = .ok false := rfl
theorem isNotD_n_l {xs : List PD} : isNotD (.list xs) .none = .ok true := rfl
theorem isD_true_l {xs : List PD} : isD (.list xs) (.bool true) = .ok false := rfl
theorem isNotD_true_l {xs : List PD} : isNotD (.list xs) (.bool true) = .ok true := rfl
theorem isD_false_l {xs : List PD} : isD (.list xs) (.bool false) = .ok false := rfl
theorem isNotD_false_l {xs : List PD} : isNotD (.list xs) (.bool false) = .ok true := rfl
theorem isD_n_t {xs : List PD} : isD (.tuple xs) .none = .ok false := rfl
theorem isNotD_n_t {xs : List PD} : isNotD (.tuple xs) .none = .ok true := rfl
theorem isD_true_t {xs : List PD} : isD (.tuple xs) (.bool true) = .ok false := rfl
theorem isNotD_true_t {xs : List PD} : isNotD (.tuple xs) (.bool true) = .ok true := rfl
theorem isD_false_t {xs : List PD} : isD (.tuple xs) (.bool false) = .ok false := rfl
theorem isNotD_false_t {xs : List PD} : isNotD (.tuple xs) (.bool false) = .ok true := rfl
theorem isD_true_true : isD (.bool true) (.bool true) = .ok true := rfl
theorem isNotD_true_true : isNotD (.bool true) (.bool true) = .ok false := rfl
theorem isD_true_false : isD (.bool false) (.bool true) = .ok false := rfl
theorem isNotD_true_false : isNotD (.bool false) (.bool true) = .ok true := rfl
theorem isD_false_true : isD (.bool true) (.bool false) = .ok false := rfl
theorem isNotD_false_true : isNotD (.bool true) (.bool false) = .ok true := rfl
theorem isD_false_false : isD (.bool false) (.bool false) = .ok true := rfl
theorem isNotD_false_false : isNotD (.bool false) (.bool false) = .ok false := rfl
theorem IS : (isiD "str" .none = .ok (.bool false)) ∧ (∀ {b : Bool}, isiD "str" (.bool b) = .ok (.bool false)) ∧ (∀ {i : Int}, isiD "str" (.int i) = .ok (.bool false)) ∧ (∀ {a : List Nat}, isiD "str" (S a) = .ok (.bool true)) ∧ (∀ {xs : List PD}, isiD "str" (.list xs) = .ok (.bool false)) ∧ (∀ {xs : List PD}, isiD "str" (.tuple xs) = .ok (.bool false)) ∧ (isiD "int" .none = .ok (.bool false)) ∧ (∀ {b : Bool}, isiD "int" (.bool b) = .ok (.bool true)) ∧ (∀ {i : Int}, isiD "int" (.int i) = .ok (.bool true)) ∧ (∀ {a : List Nat}, isiD "int" (S a) = .ok (.bool false)) ∧ (∀ {xs : List PD}, isiD "int" (.list xs) = .ok (.bool false)) ∧ (∀ {xs : List PD}, isiD "int" (.tuple xs) = .ok (.bool false)) ∧ (isiD "bool" .none = .ok (.bool false)) ∧ (∀ {b : Bool}, isiD "bool" (.bool b) = .ok (.bool true)) ∧ (∀ {i : Int}, isiD "bool" (.int i) = .ok (.bool false)) ∧ (∀ {a : List Nat}, isiD "bool" (S a) = .ok (.bool false)) ∧ (∀ {xs : List PD}, isiD "bool" (.list xs) = .ok (.bool false)) ∧ (∀ {xs : List PD}, isiD "bool" (.tuple xs) = .ok (.bool false)) ∧ (isiD "tuple" .none = .ok (.bool false)) ∧ (∀ {b : Bool}, isiD "tuple" (.bool b) = .ok (.bool false)) ∧ (∀ {i : Int}, isiD "tuple" (.int i) = .ok (.bool false)) ∧ (∀ {a : List Nat}, isiD "tuple" (S a) = .ok (.bool false)) ∧ (∀ {xs : List PD}, isiD "tuple" (.list xs) = .ok (.bool false)) ∧ (∀ {xs : List PD}, isiD "tuple" (.tuple xs) = .ok (.bool true)) ∧ (isiD "list" .none = .ok (.bool false)) ∧ (∀ {b : Bool}, isiD "list" (.bool b) = .ok (.bool false)) ∧ (∀ {i : Int}, isiD "list" (.int i) = .ok (.bool false)) ∧ (∀ {a : List Nat}, isiD "list" (S a) = .ok (.bool false)) ∧ (∀ {xs : List PD}, isiD "list" (.list xs) = .ok (.bool true)) ∧ (∀ {xs : List PD}, isiD "list" (.tuple xs) = .ok (.bool false)) ∧ (isD .none .none = .ok true) ∧ (isNotD .none .none = .ok false) ∧ (isD .none (.bool true) = .ok false) ∧ (isNotD .none (.bool true) = .ok true) ∧ (isD .none (.bool false) = .ok false) ∧ (isNotD .none (.bool false) = .ok true) ∧ (∀ {b : Bool}, isD (.bool b) .none = .ok false) ∧ (∀ {b : Bool}, isNotD (.bool b) .none = .ok true) ∧ (∀ {i : Int}, isD (.int i) .none = .ok false) ∧ (∀ {i : Int}, isNotD (.int i) .none = .ok true) ∧ (∀ {i : Int}, isD (.int i) (.bool true) = .ok false) ∧ (∀ {i : Int}, isNotD (.int i) (.bool true) = .ok true) ∧ (∀ {i : Int}, isD (.int i) (.bool false) = .ok false) ∧ (∀ {i : Int}, isNotD (.int i) (.bool false) = .ok true) ∧ (∀ {a : List Nat}, isD (S a) .none = .ok false) ∧ (∀ {a : List Nat}, isNotD (S a) .none = .ok true) ∧ (∀ {a : List Nat}, isD (S a) (.bool true) = .ok false) ∧ (∀ {a : List Nat}, isNotD (S a) (.bool true) = .ok true) ∧ (∀ {a : List Nat}, isD (S a) (.bool false) = .ok false) ∧ (∀ {a : List Nat}, isNotD (S a) (.bool false) = .ok true) ∧ (∀ {xs : List PD}, isD (.list xs) .none = .ok false) ∧ (∀ {xs : List PD}, isNotD (.list xs) .none = .ok true) ∧ (∀ {xs : List PD}, isD (.list xs) (.bool true) = .ok false) ∧ (∀ {xs : List PD}, isNotD (.list xs) (.bool true) = .ok true) ∧ (∀ {xs : List PD}, isD (.list xs) (.bool false) = .ok false) ∧ (∀ {xs : List PD}, isNotD (.list xs) (.bool false) = .ok true) ∧ (∀ {xs : List PD}, isD (.tuple xs) .none = .ok false) ∧ (∀ {xs : List PD}, isNotD (.tuple xs) .none = .ok true) ∧ (∀ {xs : List PD}, isD (.tuple xs) (.bool true) = .ok false) ∧ (∀ {xs : List PD}, isNotD (.tuple xs) (.bool true) = .ok true) ∧ (∀ {xs : List PD}, isD (.tuple xs) (.bool false) = .ok false) ∧ (∀ {xs : List PD}, isNotD (.tuple xs) (.bool false) = .ok true) ∧ (isD (.bool true) (.bool true) = .ok true) ∧ (isNotD (.bool true) (.bool true) = .ok false) ∧ (isD (.bool false) (.bool true) = .ok false) ∧ (isNotD (.bool false) (.bool true) = .ok true) ∧ (isD (.bool true) (.bool false) = .ok false) ∧ (isNotD (.bool true) (.bool false) = .ok true) ∧ (isD (.bool false) (.bool false) = .ok true) ∧ (isNotD (.bool false) (.bool false) = .ok false) :=
  ⟨is_str_n, is_str_b, is_str_i, is_str_s, is_str_l, is_str_t, is_int_n, is_int_b, is_int_i, is_int_s, is_int_l, is_int_t, is_bool_n, is_bool_b, is_bool_i, is_bool_s, is_bool_l, is_bool_t, is_tuple_n, is_tuple_b, is_tuple_i, is_tuple_s, is_tuple_l, is_tuple_t, is_list_n, is_list_b, is_list_i, is_list_s, is_list_l, is_list_t, isD_n_n, isNotD_n_n, isD_true_n, isNotD_true_n, isD_false_n, isNotD_false_n, isD_n_b, isNotD_n_b, isD_n_i, isNotD_n_i, isD_true_i, isNotD_true_i, isD_false_i, isNotD_false_i, isD_n_s, isNotD_n_s, isD_true_s, isNotD_true_s, isD_false_s, isNotD_false_s, isD_n_l, isNotD_n_l, isD_true_l, isNotD_true_l, isD_false_l, isNotD_false_l, isD_n_t, isNotD_n_t, isD_true_t, isNotD_true_t, isD_false_t, isNotD_false_t, isD_true_true, isNotD_true_true, isD_true_false, isNotD_true_false, isD_false_true, isNotD_false_true, isD_false_false, isNotD_false_false⟩
theorem EI : (∀ {a b : Int}, addD (.int a) (.int b) = .ok (.int (a + b))) ∧ (∀ {a b : Int}, iaddD (.int a) (.int b) = .ok (.int (a + b))) ∧ (∀ {a b : Int}, subD (.int a) (.int b) = .ok (.int (a - b))) ∧ (∀ {a : Int}, negD (.int a) = .ok (.int (-a))) ∧ (∀ {a : Int}, intD (.int a) = .ok (.int a)) ∧ (∀ {a b : Int}, ltD (.int a) (.int b) = .ok (decide (a < b))) ∧ (∀ {a b : Int}, leD (.int a) (.int b) = .ok (decide (a ≤ b))) ∧ (∀ {a b : Int}, gtD (.int a) (.int b) = .ok (decide (b < a))) ∧ (∀ {a b : Int}, geD (.int a) (.int b) = .ok (decide (b ≤ a))) ∧ (∀ {a b : Int}, eqD (.int a) (.int b) = .ok (decide (a = b))) ∧ (∀ {a b : Int}, neD (.int a) (.int b) = .ok (!decide (a = b))) ∧ (∀ {a b : Bool}, eqD (.bool a) (.bool b) = .ok (a == b)) ∧ (∀ {a b : Bool}, neD (.bool a) (.bool b) = .ok (!(a == b))) ∧ (∀ {a : Int}, partD (.int a) = .ok (some a)) ∧ (∀ {a : Bool}, boolD (.bool a) = .ok a) ∧ (∀ {a : Bool}, truthD (.bool a) = .ok a) ∧ (∀ {a : List PD}, truthD (.list a) = .ok (!a.isEmpty)) ∧ (∀ {xs : List PD}, lenD (.list xs) = .ok (.int xs.length)) ∧ (∀ {xs : List PD}, lenD (.tuple xs) = .ok (.int xs.length)) ∧ (∀ {xs : List PD}, itemsD (.list xs) = .ok xs) ∧ (∀ {xs : List PD}, itemsD (.tuple xs) = .ok xs) ∧ (∀ {xs : List PD}, seqD (.list xs) = .ok xs) ∧ (∀ {xs : List PD}, seqD (.tuple xs) = .ok xs) ∧ (∀ {xs : List PD}, tupleD (.list xs) = .ok (.tuple xs)) ∧ (∀ {xs : List PD}, tupleD (.tuple xs) = .ok (.tuple xs)) ∧ (∀ {x : PD} {xs : List PD}, idxD (.list (x :: xs)) (.int 0) = .ok x) ∧ (∀ {x y : PD} {xs : List PD}, idxD (.list (x :: y :: xs)) (.int 1) = .ok y) ∧ (∀ {x y z : PD} {xs : List PD}, idxD (.list (x :: y :: z :: xs)) (.int 2) = .ok z) ∧ (∀ {x : PD} {xs : List PD}, idxD (.tuple (x :: xs)) (.int 0) = .ok x) ∧ (∀ {x y : PD} {xs : List PD}, idxD (.tuple (x :: y :: xs)) (.int 1) = .ok y) ∧ (∀ {x y z : PD} {xs : List PD}, idxD (.tuple (x :: y :: z :: xs)) (.int 2) = .ok z) ∧ (∀ {x d : PD} {xs : List PD}, setD (x :: xs) (.int 0) d = .ok (d :: xs)) ∧ (∀ {x y d : PD} {xs : List PD}, setD (x :: y :: xs) (.int 1) d = .ok (x :: d :: xs)) ∧ (∀ {a : List Nat}, asStr (S a) = .ok ⟨a.toArray⟩) ∧ (∀ {a : List PD} {lo hi : Option Int}, cutD (.list a) lo hi = .ok (.list (cutL a lo hi))) ∧ (∀ {a : List PD} {lo hi : Option Int}, cutD (.tuple a) lo hi = .ok (.tuple (cutL a lo hi))) ∧ (∀ {a : List PD} {lo hi : Option Int}, cutLL (.list a) lo hi = .ok (cutL a lo hi)) :=
  ⟨addD_i, iaddD_i, subD_i, negD_i, intD_i, ltD_i, leD_i, gtD_i, geD_i, eqD_i, neD_i, eqD_b, neD_b, partD_i, boolD_b, truthD_b, truthD_l, lenD_l, lenD_t, itemsD_l, itemsD_t, seqD_l, seqD_t, tupleD_l, tupleD_t, idxD_l0, idxD_l1, idxD_l2, idxD_t0, idxD_t1, idxD_t2, setD_0, setD_1, asStr_S, cutD_l, cutD_t, cutLL_l⟩
end Dd
set_option Elab.async false
set_option linter.all false
set_option maxRecDepth 100000
set_option maxHeartbeats 4000000
namespace Dd
open PySem PySem.Spec PyProof.Rows L2
def c_NO_LAG : PD := (.tuple [(.str ""), (.str "")])
def m__law_pool : PD → PD → Out (List PD × List CO) := fun x_script x_k => (((Out.ok (PyData.int 0) >>= fun v1 => (((Out.ok x_k >>= fun t5 => (Out.ok x_script >>= fun t4 => lenD t4) >>= fun t6 => ltD t5 t6) >>= fun t2 => if t2 then (((Out.ok x_script >>= fun t9 => Out.ok x_k >>= fun t10 => idxD t9 t10) >>= fun t8 => intD t8) >>= fun v7 => Out.ok (Ctl.nx (v7))) else Out.ok (Ctl.nx (v1))) >>= seqC (N1 := PD) (fun n11 => (((Out.ok n11 >>= fun t14 => Out.ok (PyData.int 0) >>= fun t15 => ltD t14 t15) >>= fun t12 => if t12 then ((Out.ok n11 >>= fun t17 => negD t17) >>= fun v16 => Out.ok (Ctl.nx (v16))) else Out.ok (Ctl.nx (n11))) >>= seqC (N1 := PD) (fun n18 => ((Out.ok n18 >>= fun t24 => ((Out.ok (PyData.int 1000) >>= fun t20 => Out.ok x_k >>= fun t21 => mulD t20 t21) >>= fun t22 => Out.ok [] >>= fun t23 => Out.ok (t22 :: t23)) >>= fun t25 => Out.ok (t24 :: t25)) >>= fun t19 => Out.ok (Ctl.rt (t19, [])))))))) : Out (Ctl Empty (List PD × List CO) Empty)) >>= finE)
def m__law_letters : Out (PD × List CO) := (((Out.ok (PyData.str " !\"#$&'()*+,-./0123456789:;<=>?@ABCDEFGHIJKLMNOPQRSTUVWXYZ") >>= fun v1 => ((Out.ok v1 >>= fun t3 => Out.ok (PyData.str "\\^_`abcdefghijklmnopqrstuvwxyz{|}~") >>= fun t4 => addD t3 t4) >>= fun t2 => Out.ok (Ctl.rt (t2, [])))) : Out (Ctl Empty (PD × List CO) Empty)) >>= finE)
def m__law_draw : List PD → PD → Out (PD × List CO) := fun l_pool x_size => (((((Out.ok (PyData.list l_pool) >>= fun t3 => Out.ok (PyData.int 0) >>= fun t4 => idxD t3 t4) >>= fun t7 => (Out.ok (PyData.int 10) >>= fun t5 => Out.ok (PyData.int 18) >>= fun t6 => powD t5 t6) >>= fun t8 => geD t7 t8) >>= fun t1 => if t1 then (((Out.ok (PyData.list l_pool) >>= fun t10 => Out.ok (PyData.int 0) >>= fun t11 => idxD t10 t11) >>= fun t14 => (Out.ok (PyData.int 10) >>= fun t12 => Out.ok (PyData.int 18) >>= fun t13 => powD t12 t13) >>= fun t15 => subD t14 t15) >>= fun v9 => (((Out.ok (PyData.int 10) >>= fun t19 => Out.ok (PyData.int 18) >>= fun t20 => powD t19 t20) >>= fun t23 => (Out.ok v9 >>= fun t21 => Out.ok x_size >>= fun t22 => fdivD t21 t22) >>= fun t24 => addD t23 t24) >>= fun t16 => Out.ok (PyData.int 0) >>= fun t17 => setD l_pool t17 t16 >>= fun l18 => (((Out.ok v9 >>= fun t26 => intD t26) >>= fun t27 => Out.ok x_size >>= fun t28 => modD t27 t28) >>= fun t25 => Out.ok (Ctl.rt (t25, [CO.l l18]))))) >>= fun t2 => Out.ok (upC t2) else (((Out.ok (PyData.list l_pool) >>= fun t33 => Out.ok (PyData.int 1) >>= fun t34 => idxD t33 t34) >>= fun t35 => Out.ok (PyData.int 1) >>= fun t36 => addD t35 t36) >>= fun t30 => Out.ok (PyData.int 1) >>= fun t31 => setD l_pool t31 t30 >>= fun l32 => ((((((Out.ok (PyData.list l32) >>= fun t39 => Out.ok (PyData.int 0) >>= fun t40 => idxD t39 t40) >>= fun t41 => Out.ok (PyData.int 48271) >>= fun t42 => mulD t41 t42) >>= fun t47 => ((Out.ok (PyData.list l32) >>= fun t43 => Out.ok (PyData.int 1) >>= fun t44 => idxD t43 t44) >>= fun t45 => Out.ok (PyData.int 69621) >>= fun t46 => mulD t45 t46) >>= fun t48 => addD t47 t48) >>= fun t38 => intD t38) >>= fun t49 => Out.ok (PyData.int 2147483647) >>= fun t50 => modD t49 t50) >>= fun v37 => (((((Out.ok v37 >>= fun t53 => Out.ok v37 >>= fun t54 => mulD t53 t54) >>= fun t59 => ((Out.ok (PyData.list l32) >>= fun t55 => Out.ok (PyData.int 1) >>= fun t56 => idxD t55 t56) >>= fun t57 => Out.ok (PyData.int 40692) >>= fun t58 => mulD t57 t58) >>= fun t60 => addD t59 t60) >>= fun t52 => intD t52) >>= fun t61 => Out.ok (PyData.int 2147483399) >>= fun t62 => modD t61 t62) >>= fun v51 => (((((Out.ok v51 >>= fun t65 => Out.ok v51 >>= fun t66 => mulD t65 t66) >>= fun t69 => (Out.ok (PyData.list l32) >>= fun t67 => Out.ok (PyData.int 0) >>= fun t68 => idxD t67 t68) >>= fun t70 => addD t69 t70) >>= fun t64 => intD t64) >>= fun t71 => Out.ok (PyData.int 2147483629) >>= fun t72 => modD t71 t72) >>= fun v63 => ((((Out.ok v63 >>= fun t75 => Out.ok (PyData.int 16) >>= fun t76 => fdivD t75 t76) >>= fun t74 => intD t74) >>= fun t77 => Out.ok x_size >>= fun t78 => modD t77 t78) >>= fun t73 => Out.ok (Ctl.rt (t73, [CO.l l32])))))))) : Out (Ctl Empty (PD × List CO) Empty)) >>= finE)
def m__law_alphabet : List PD → Out (PD × List CO) := fun l_pool => ((((dOnly m__law_letters) >>= fun v1 => ((((Out.ok (PyData.int 2) >>= fun t7 => Out.ok ([], [CO.l l_pool]) >>= fun t8 => Out.ok (t7 :: t8.1, t8.2)) >>= fun t4 => callC [0] t4.2 (app [.c, .d] m__law_draw t4.1)) >>= fun t11 => (unl fun p9 => (unn ((Out.ok (PyData.int 0) >>= fun t10 => Out.ok (t10, [CO.l p9]))))) t11.2 >>= fun t12 => eqD t11.1 t12.1 >>= fun t13 => Out.ok (t13, t12.2)) >>= fun t2 => if t2.1 then (unl fun p14 => (unn (((((Out.ok v1 >>= fun t16 => Out.ok (t16, [CO.l p14])) >>= fun t23 => (unl fun p17 => (unn (((Out.ok (PyData.int 92) >>= fun t21 => Out.ok ([], [CO.l p17]) >>= fun t22 => Out.ok (t21 :: t22.1, t22.2)) >>= fun t18 => callC [0] t18.2 (app [.c, .d] m__law_draw t18.1))))) t23.2 >>= fun t24 => idxD t23.1 t24.1 >>= fun t25 => Out.ok (t25, t24.2)) >>= fun t37 => (unl fun p26 => (unn (((Out.ok v1 >>= fun t27 => Out.ok (t27, [CO.l p26])) >>= fun t34 => (unl fun p28 => (unn (((Out.ok (PyData.int 92) >>= fun t32 => Out.ok ([], [CO.l p28]) >>= fun t33 => Out.ok (t32 :: t33.1, t33.2)) >>= fun t29 => callC [0] t29.2 (app [.c, .d] m__law_draw t29.1))))) t34.2 >>= fun t35 => idxD t34.1 t35.1 >>= fun t36 => Out.ok (t36, t35.2))))) t37.2 >>= fun t38 => addD t37.1 t38.1 >>= fun t39 => Out.ok (t39, t38.2)) >>= fun t15 => Out.ok (Ctl.rt (t15.1, t15.2)))))) t2.2 >>= fun t3 => Out.ok (upC t3) else (unl fun p40 => (unn ((Out.ok v1 >>= fun t41 => Out.ok (Ctl.rt (t41, [CO.l p40])))))) t2.2)) : Out (Ctl Empty (PD × List CO) Empty)) >>= finE)
def m__law_text : List PD → PD → PD → Out (PD × List CO) := fun l_pool x_letters x_size => (((((Out.ok (PyData.str "") >>= fun t2 => Out.ok (t2, [CO.l l_pool])) >>= fun t26 => asStr t26.1 >>= fun t27 => (unl fun p3 => (unn (((((Out.ok x_size >>= fun t4 => rangeD (PyData.int 0) t4) >>= fun t5 => Out.ok (t5, [CO.l p3])) >>= fun t22 => lineD t22.1 >>= fun t24 => compX (fun t19 t23 => Out.ok t19 >>= fun k6 => (fun cs => Out.ok (true, cs)) t23 >>= fun t20 => if t20.1 then (unl fun p7 => (unn (((Out.ok x_letters >>= fun t8 => Out.ok (t8, [CO.l p7])) >>= fun t16 => (unl fun p9 => (unn ((((Out.ok x_letters >>= fun t15 => lenD t15) >>= fun t13 => Out.ok ([], [CO.l p9]) >>= fun t14 => Out.ok (t13 :: t14.1, t14.2)) >>= fun t10 => callC [0] t10.2 (app [.c, .d] m__law_draw t10.1))))) t16.2 >>= fun t17 => idxD t16.1 t17.1 >>= fun t18 => Out.ok (t18, t17.2))))) t20.2 >>= fun t21 => Out.ok (some t21.1, t21.2) else Out.ok (none, t20.2)) t24 t22.2) >>= fun t25 => Out.ok (PyData.list t25.1, t25.2))))) t26.2 >>= fun t28 => joinD (PyData.str t27) t28.1 >>= fun t29 => Out.ok (t29, t28.2)) >>= fun t1 => Out.ok (Ctl.rt (t1.1, t1.2))) : Out (Ctl Empty (PD × List CO) Empty)) >>= finE)
def m__law_same : Nat → PD → PD → Out (PD × List CO)
  | 0, _, _ => .bad
  | n + 1, x_told, x_due => ((((Out.ok x_due >>= fun t3 => Out.ok PyData.none >>= fun t4 => isD t3 t4) >>= fun t1 => if t1 then ((Out.ok x_told >>= fun t6 => Out.ok PyData.none >>= fun t7 => isD t6 t7 >>= fun t8 => Out.ok (PyData.bool t8)) >>= fun t5 => Out.ok (Ctl.rt (t5, []))) >>= fun t2 => Out.ok (upC t2) else ((Out.ok x_due >>= fun t12 => Out.ok (PyData.bool true) >>= fun t13 => isD t12 t13) >>= fun t10 => if t10 then ((Out.ok x_told >>= fun t15 => Out.ok (PyData.bool true) >>= fun t16 => isD t15 t16 >>= fun t17 => Out.ok (PyData.bool t17)) >>= fun t14 => Out.ok (Ctl.rt (t14, []))) >>= fun t11 => Out.ok (upC t11) else ((Out.ok x_due >>= fun t21 => Out.ok (PyData.bool false) >>= fun t22 => isD t21 t22) >>= fun t19 => if t19 then ((Out.ok x_told >>= fun t24 => Out.ok (PyData.bool false) >>= fun t25 => isD t24 t25 >>= fun t26 => Out.ok (PyData.bool t26)) >>= fun t23 => Out.ok (Ctl.rt (t23, []))) >>= fun t20 => Out.ok (upC t20) else (((Out.ok x_due >>= fun t30 => isiD "str" t30) >>= fun t31 => truthD t31) >>= fun t28 => if t28 then (((Out.ok x_told >>= fun t33 => isiD "str" t33) >>= fun t37 => boolD t37 >>= fun t38 => if t38 then (Out.ok x_told >>= fun t34 => Out.ok x_due >>= fun t35 => eqD t34 t35 >>= fun t36 => Out.ok (PyData.bool t36)) else Out.ok (PyData.bool false)) >>= fun t32 => Out.ok (Ctl.rt (t32, []))) >>= fun t29 => Out.ok (upC t29) else (((Out.ok x_due >>= fun t42 => isiD "int" t42) >>= fun t43 => truthD t43) >>= fun t40 => if t40 then (((Out.ok x_told >>= fun t45 => isiD "int" t45) >>= fun t54 => boolD t54 >>= fun t55 => if t55 then (((Out.ok x_told >>= fun t46 => isiD "bool" t46) >>= fun t47 => boolD t47 >>= fun t48 => Out.ok (PyData.bool (!t48))) >>= fun t52 => boolD t52 >>= fun t53 => if t53 then (Out.ok x_told >>= fun t49 => Out.ok x_due >>= fun t50 => eqD t49 t50 >>= fun t51 => Out.ok (PyData.bool t51)) else Out.ok (PyData.bool false)) else Out.ok (PyData.bool false)) >>= fun t44 => Out.ok (Ctl.rt (t44, []))) >>= fun t41 => Out.ok (upC t41) else ((((Out.ok x_due >>= fun t59 => isiD "tuple" t59) >>= fun t61 => (Out.ok x_told >>= fun t60 => isiD "tuple" t60) >>= fun t62 => neD t61 t62) >>= fun t67 => if t67 then Out.ok true else ((Out.ok x_due >>= fun t63 => isiD "list" t63) >>= fun t65 => (Out.ok x_told >>= fun t64 => isiD "list" t64) >>= fun t66 => neD t65 t66)) >>= fun t57 => if t57 then (Out.ok (PyData.bool false) >>= fun t68 => Out.ok (Ctl.rt (t68, []))) >>= fun t58 => Out.ok (upC t58) else (((Out.ok x_told >>= fun t72 => lenD t72) >>= fun t74 => (Out.ok x_due >>= fun t73 => lenD t73) >>= fun t75 => neD t74 t75) >>= fun t70 => if t70 then (Out.ok (PyData.bool false) >>= fun t76 => Out.ok (Ctl.rt (t76, []))) >>= fun t71 => Out.ok (upC t71) else ((((((Out.ok x_due >>= fun t79 => lenD t79) >>= fun t80 => rangeD (PyData.int 0) t80) >>= fun t96 => lineD t96 >>= fun t96 => compP (fun t93 => Out.ok t93 >>= fun k81 => (((((Out.ok x_told >>= fun t82 => Out.ok k81 >>= fun t83 => idxD t82 t83) >>= fun t88 => ((Out.ok x_due >>= fun t84 => Out.ok k81 >>= fun t85 => idxD t84 t85) >>= fun t86 => Out.ok [] >>= fun t87 => Out.ok (t86 :: t87)) >>= fun t89 => Out.ok (t88 :: t89)) >>= fun t90 => dOnly (app [.d, .d] (m__law_same n) t90 [])) >>= fun t91 => truthD t91) >>= fun t92 => Out.ok (!t92)) >>= fun t94 => if t94 then Out.ok k81 >>= fun t95 => Out.ok (some t95) else Out.ok none) t96) >>= fun t97 => Out.ok (PyData.list t97)) >>= fun t99 => (Out.ok [] >>= fun t98 => Out.ok (PyData.list t98)) >>= fun t100 => eqD t99 t100 >>= fun t101 => Out.ok (PyData.bool t101)) >>= fun t78 => Out.ok (Ctl.rt (t78, [])))))))))) : Out (Ctl Empty (PD × List CO) Empty)) >>= finE)
def m_is_lag : PD → Out (PD × List CO) := fun x_value => (((((((Out.ok x_value >>= fun t3 => isiD "tuple" t3) >>= fun t4 => truthD t4) >>= fun t5 => Out.ok (!t5)) >>= fun t9 => if t9 then Out.ok true else ((Out.ok x_value >>= fun t6 => lenD t6) >>= fun t7 => Out.ok (PyData.int 2) >>= fun t8 => neD t7 t8)) >>= fun t1 => if t1 then (Out.ok (PyData.bool false) >>= fun t10 => Out.ok (Ctl.rt (t10, []))) >>= fun t2 => Out.ok (upC t2) else ((((((Out.ok x_value >>= fun t15 => Out.ok (PyData.int 0) >>= fun t16 => idxD t15 t16) >>= fun t14 => isiD "str" t14) >>= fun t17 => truthD t17) >>= fun t18 => Out.ok (!t18)) >>= fun t24 => if t24 then Out.ok true else ((((Out.ok x_value >>= fun t20 => Out.ok (PyData.int 1) >>= fun t21 => idxD t20 t21) >>= fun t19 => isiD "str" t19) >>= fun t22 => truthD t22) >>= fun t23 => Out.ok (!t23))) >>= fun t12 => if t12 then (Out.ok (PyData.bool false) >>= fun t25 => Out.ok (Ctl.rt (t25, []))) >>= fun t13 => Out.ok (upC t13) else ((((Out.ok x_value >>= fun t28 => Out.ok (PyData.int 0) >>= fun t29 => idxD t28 t29) >>= fun t30 => Out.ok (PyData.str "") >>= fun t31 => eqD t30 t31 >>= fun t32 => Out.ok (PyData.bool t32)) >>= fun t38 => boolD t38 >>= fun t39 => if t39 then Out.ok (PyData.bool true) else ((Out.ok x_value >>= fun t33 => Out.ok (PyData.int 1) >>= fun t34 => idxD t33 t34) >>= fun t35 => Out.ok (PyData.str "") >>= fun t36 => eqD t35 t36 >>= fun t37 => Out.ok (PyData.bool t37))) >>= fun t27 => Out.ok (Ctl.rt (t27, []))))) : Out (Ctl Empty (PD × List CO) Empty)) >>= finE)
def m__law_judges : PD → PD → Out (PD × List CO) := fun x_left x_right => (((((Out.ok x_left >>= fun t2 => Out.ok (PyData.str "") >>= fun t3 => eqD t2 t3 >>= fun t4 => Out.ok (PyData.bool t4)) >>= fun t8 => boolD t8 >>= fun t9 => if t9 then Out.ok (PyData.bool true) else (Out.ok x_right >>= fun t5 => Out.ok (PyData.str "") >>= fun t6 => eqD t5 t6 >>= fun t7 => Out.ok (PyData.bool t7))) >>= fun v1 => (((((((((((Out.ok x_left >>= fun t14 => (Out.ok (PyData.str "") >>= fun t12 => Out.ok [] >>= fun t13 => Out.ok (t12 :: t13)) >>= fun t15 => Out.ok (t14 :: t15)) >>= fun t16 => Out.ok (PyData.tuple t16)) >>= fun t17 => Out.ok [] >>= fun t18 => Out.ok (t17 :: t18)) >>= fun t19 => dOnly (app [.d] m_is_lag t19 [])) >>= fun t40 => (((((Out.ok (PyData.str "") >>= fun t22 => (Out.ok x_right >>= fun t20 => Out.ok [] >>= fun t21 => Out.ok (t20 :: t21)) >>= fun t23 => Out.ok (t22 :: t23)) >>= fun t24 => Out.ok (PyData.tuple t24)) >>= fun t25 => Out.ok [] >>= fun t26 => Out.ok (t25 :: t26)) >>= fun t27 => dOnly (app [.d] m_is_lag t27 [])) >>= fun t38 => (((((Out.ok x_left >>= fun t30 => (Out.ok x_right >>= fun t28 => Out.ok [] >>= fun t29 => Out.ok (t28 :: t29)) >>= fun t31 => Out.ok (t30 :: t31)) >>= fun t32 => Out.ok (PyData.tuple t32)) >>= fun t33 => Out.ok [] >>= fun t34 => Out.ok (t33 :: t34)) >>= fun t35 => dOnly (app [.d] m_is_lag t35 [])) >>= fun t36 => Out.ok [] >>= fun t37 => Out.ok (t36 :: t37)) >>= fun t39 => Out.ok (t38 :: t39)) >>= fun t41 => Out.ok (t40 :: t41)) >>= fun t42 => Out.ok (PyData.list t42)) >>= fun t52 => (((Out.ok (PyData.bool true) >>= fun t47 => (Out.ok (PyData.bool true) >>= fun t45 => (Out.ok v1 >>= fun t43 => Out.ok [] >>= fun t44 => Out.ok (t43 :: t44)) >>= fun t46 => Out.ok (t45 :: t46)) >>= fun t48 => Out.ok (t47 :: t48)) >>= fun t49 => Out.ok (PyData.list t49)) >>= fun t50 => Out.ok [] >>= fun t51 => Out.ok (t50 :: t51)) >>= fun t53 => Out.ok (t52 :: t53)) >>= fun t54 => dOnly (app [.d, .d] (m__law_same 40) t54 [])) >>= fun t55 => truthD t55) >>= fun t56 => Out.ok (!t56)) >>= fun t10 => if t10 then (Out.ok (PyData.bool false) >>= fun t57 => Out.ok (Ctl.rt (t57, []))) >>= fun t11 => Out.ok (upC t11) else (((((Out.ok x_left >>= fun t62 => (Out.ok (PyData.str "") >>= fun t60 => Out.ok [] >>= fun t61 => Out.ok (t60 :: t61)) >>= fun t63 => Out.ok (t62 :: t63)) >>= fun t64 => Out.ok (PyData.list t64)) >>= fun t123 => (((Out.ok x_left >>= fun t65 => Out.ok [] >>= fun t66 => Out.ok (t65 :: t66)) >>= fun t67 => Out.ok (PyData.tuple t67)) >>= fun t121 => (((Out.ok x_left >>= fun t72 => (Out.ok (PyData.str "") >>= fun t70 => (Out.ok (PyData.str "") >>= fun t68 => Out.ok [] >>= fun t69 => Out.ok (t68 :: t69)) >>= fun t71 => Out.ok (t70 :: t71)) >>= fun t73 => Out.ok (t72 :: t73)) >>= fun t74 => Out.ok (PyData.tuple t74)) >>= fun t119 => ((Out.ok [] >>= fun t75 => Out.ok (PyData.tuple t75)) >>= fun t117 => (Out.ok PyData.none >>= fun t115 => (Out.ok (PyData.str "") >>= fun t113 => (Out.ok (PyData.int 0) >>= fun t111 => (Out.ok (PyData.bool true) >>= fun t109 => (((Out.ok (PyData.str "") >>= fun t78 => (Out.ok (PyData.int 0) >>= fun t76 => Out.ok [] >>= fun t77 => Out.ok (t76 :: t77)) >>= fun t79 => Out.ok (t78 :: t79)) >>= fun t80 => Out.ok (PyData.tuple t80)) >>= fun t107 => (((Out.ok PyData.none >>= fun t83 => (Out.ok (PyData.str "") >>= fun t81 => Out.ok [] >>= fun t82 => Out.ok (t81 :: t82)) >>= fun t84 => Out.ok (t83 :: t84)) >>= fun t85 => Out.ok (PyData.tuple t85)) >>= fun t105 => (((((Out.ok (PyData.str "") >>= fun t88 => (Out.ok (PyData.str "") >>= fun t86 => Out.ok [] >>= fun t87 => Out.ok (t86 :: t87)) >>= fun t89 => Out.ok (t88 :: t89)) >>= fun t90 => Out.ok (PyData.tuple t90)) >>= fun t93 => (Out.ok (PyData.str "") >>= fun t91 => Out.ok [] >>= fun t92 => Out.ok (t91 :: t92)) >>= fun t94 => Out.ok (t93 :: t94)) >>= fun t95 => Out.ok (PyData.tuple t95)) >>= fun t103 => (((Out.ok (PyData.str "") >>= fun t98 => (Out.ok (PyData.str "") >>= fun t96 => Out.ok [] >>= fun t97 => Out.ok (t96 :: t97)) >>= fun t99 => Out.ok (t98 :: t99)) >>= fun t100 => Out.ok (PyData.list t100)) >>= fun t101 => Out.ok [] >>= fun t102 => Out.ok (t101 :: t102)) >>= fun t104 => Out.ok (t103 :: t104)) >>= fun t106 => Out.ok (t105 :: t106)) >>= fun t108 => Out.ok (t107 :: t108)) >>= fun t110 => Out.ok (t109 :: t110)) >>= fun t112 => Out.ok (t111 :: t112)) >>= fun t114 => Out.ok (t113 :: t114)) >>= fun t116 => Out.ok (t115 :: t116)) >>= fun t118 => Out.ok (t117 :: t118)) >>= fun t120 => Out.ok (t119 :: t120)) >>= fun t122 => Out.ok (t121 :: t122)) >>= fun t124 => Out.ok (t123 :: t124)) >>= fun t125 => Out.ok (PyData.list t125)) >>= fun v59 => (((((Out.ok v59 >>= fun t127 => itemsD t127) >>= fun t137 => lineD t137 >>= fun t137 => compP (fun t134 => Out.ok t134 >>= fun k128 => (((Out.ok k128 >>= fun t129 => Out.ok [] >>= fun t130 => Out.ok (t129 :: t130)) >>= fun t131 => dOnly (app [.d] m_is_lag t131 [])) >>= fun t132 => Out.ok (PyData.bool false) >>= fun t133 => isNotD t132 t133) >>= fun t135 => if t135 then Out.ok k128 >>= fun t136 => Out.ok (some t136) else Out.ok none) t137) >>= fun t138 => Out.ok (PyData.list t138)) >>= fun t140 => (Out.ok [] >>= fun t139 => Out.ok (PyData.list t139)) >>= fun t141 => eqD t140 t141 >>= fun t142 => Out.ok (PyData.bool t142)) >>= fun t126 => Out.ok (Ctl.rt (t126, [])))))) : Out (Ctl Empty (PD × List CO) Empty)) >>= finE)
def m__law_lag : PD → PD → Out (PD × List CO) := fun x_left x_right => (((((Out.ok x_left >>= fun t5 => Out.ok none >>= fun t6 => ((Out.ok x_right >>= fun t3 => lenD t3) >>= fun t4 => partD t4) >>= fun t7 => cutD t5 t6 t7) >>= fun t8 => Out.ok x_right >>= fun t9 => eqD t8 t9) >>= fun t1 => if t1 then ((((Out.ok x_left >>= fun t13 => ((Out.ok x_right >>= fun t11 => lenD t11) >>= fun t12 => partD t12) >>= fun t14 => Out.ok none >>= fun t15 => cutD t13 t14 t15) >>= fun t18 => (Out.ok (PyData.str "") >>= fun t16 => Out.ok [] >>= fun t17 => Out.ok (t16 :: t17)) >>= fun t19 => Out.ok (t18 :: t19)) >>= fun t20 => Out.ok (PyData.tuple t20)) >>= fun t10 => Out.ok (Ctl.rt (t10, []))) >>= fun t2 => Out.ok (upC t2) else (((Out.ok x_right >>= fun t26 => Out.ok none >>= fun t27 => ((Out.ok x_left >>= fun t24 => lenD t24) >>= fun t25 => partD t25) >>= fun t28 => cutD t26 t27 t28) >>= fun t29 => Out.ok x_left >>= fun t30 => eqD t29 t30) >>= fun t22 => if t22 then (((Out.ok (PyData.str "") >>= fun t39 => ((Out.ok x_right >>= fun t34 => ((Out.ok x_left >>= fun t32 => lenD t32) >>= fun t33 => partD t33) >>= fun t35 => Out.ok none >>= fun t36 => cutD t34 t35 t36) >>= fun t37 => Out.ok [] >>= fun t38 => Out.ok (t37 :: t38)) >>= fun t40 => Out.ok (t39 :: t40)) >>= fun t41 => Out.ok (PyData.tuple t41)) >>= fun t31 => Out.ok (Ctl.rt (t31, []))) >>= fun t23 => Out.ok (upC t23) else (Out.ok PyData.none >>= fun t43 => Out.ok (Ctl.rt (t43, []))))) : Out (Ctl Empty (PD × List CO) Empty)) >>= finE)
def m_shift : PD → PD → PD → Out (PD × List CO) := fun x_lag x_left x_right => (((((Out.ok x_lag >>= fun t2 => Out.ok (PyData.int 0) >>= fun t3 => idxD t2 t3) >>= fun t4 => Out.ok x_left >>= fun t5 => addD t4 t5) >>= fun v1 => (((Out.ok x_lag >>= fun t7 => Out.ok (PyData.int 1) >>= fun t8 => idxD t7 t8) >>= fun t9 => Out.ok x_right >>= fun t10 => addD t9 t10) >>= fun v6 => (((Out.ok v1 >>= fun t13 => asStr t13 >>= fun t14 => Out.ok v6 >>= fun t15 => startsD (PyData.str t14) t15) >>= fun t16 => truthD t16) >>= fun t11 => if t11 then ((((Out.ok v1 >>= fun t20 => ((Out.ok v6 >>= fun t18 => lenD t18) >>= fun t19 => partD t19) >>= fun t21 => Out.ok none >>= fun t22 => cutD t20 t21 t22) >>= fun t25 => (Out.ok (PyData.str "") >>= fun t23 => Out.ok [] >>= fun t24 => Out.ok (t23 :: t24)) >>= fun t26 => Out.ok (t25 :: t26)) >>= fun t27 => Out.ok (PyData.tuple t27)) >>= fun t17 => Out.ok (Ctl.rt (t17, []))) >>= fun t12 => Out.ok (upC t12) else (((Out.ok v6 >>= fun t31 => asStr t31 >>= fun t32 => Out.ok v1 >>= fun t33 => startsD (PyData.str t32) t33) >>= fun t34 => truthD t34) >>= fun t29 => if t29 then (((Out.ok (PyData.str "") >>= fun t43 => ((Out.ok v6 >>= fun t38 => ((Out.ok v1 >>= fun t36 => lenD t36) >>= fun t37 => partD t37) >>= fun t39 => Out.ok none >>= fun t40 => cutD t38 t39 t40) >>= fun t41 => Out.ok [] >>= fun t42 => Out.ok (t41 :: t42)) >>= fun t44 => Out.ok (t43 :: t44)) >>= fun t45 => Out.ok (PyData.tuple t45)) >>= fun t35 => Out.ok (Ctl.rt (t35, []))) >>= fun t30 => Out.ok (upC t30) else (Out.ok PyData.none >>= fun t47 => Out.ok (Ctl.rt (t47, []))))))) : Out (Ctl Empty (PD × List CO) Empty)) >>= finE)
def m__law_follows : PD → Out (PD × List CO) := fun x_steps => (((((Out.ok (PyData.str "") >>= fun t4 => (Out.ok (PyData.str "") >>= fun t2 => Out.ok [] >>= fun t3 => Out.ok (t2 :: t3)) >>= fun t5 => Out.ok (t4 :: t5)) >>= fun t6 => Out.ok (PyData.tuple t6)) >>= fun v1 => (Out.ok (PyData.str "") >>= fun v7 => (Out.ok (PyData.str "") >>= fun v8 => (((Out.ok x_steps >>= fun t140 => itemsD t140) >>= fun t11 => forM (fun t13 (n10 : PD × PD × PD) => Out.ok t13 >>= fun k9 => ((Out.ok n10.1 >>= fun t17 => (Out.ok k9 >>= fun t15 => Out.ok (PyData.int 0) >>= fun t16 => idxD t15 t16) >>= fun t18 => addD t17 t18) >>= fun v14 => ((Out.ok n10.2.1 >>= fun t22 => (Out.ok k9 >>= fun t20 => Out.ok (PyData.int 1) >>= fun t21 => idxD t20 t21) >>= fun t23 => addD t22 t23) >>= fun v19 => (((Out.ok v14 >>= fun t27 => (Out.ok v19 >>= fun t25 => Out.ok [] >>= fun t26 => Out.ok (t25 :: t26)) >>= fun t28 => Out.ok (t27 :: t28)) >>= fun t29 => dOnly (app [.d, .d] m__law_lag t29 [])) >>= fun v24 => ((((((((Out.ok n10.2.2 >>= fun t40 => ((Out.ok k9 >>= fun t32 => Out.ok (PyData.int 0) >>= fun t33 => idxD t32 t33) >>= fun t38 => ((Out.ok k9 >>= fun t34 => Out.ok (PyData.int 1) >>= fun t35 => idxD t34 t35) >>= fun t36 => Out.ok [] >>= fun t37 => Out.ok (t36 :: t37)) >>= fun t39 => Out.ok (t38 :: t39)) >>= fun t41 => Out.ok (t40 :: t41)) >>= fun t42 => dOnly (app [.d, .d, .d] m_shift t42 [])) >>= fun t45 => (Out.ok v24 >>= fun t43 => Out.ok [] >>= fun t44 => Out.ok (t43 :: t44)) >>= fun t46 => Out.ok (t45 :: t46)) >>= fun t47 => dOnly (app [.d, .d] (m__law_same 40) t47 [])) >>= fun t48 => truthD t48) >>= fun t49 => Out.ok (!t49)) >>= fun t64 => if t64 then Out.ok true else ((((((Out.ok c_NO_LAG >>= fun t54 => (Out.ok v14 >>= fun t52 => (Out.ok v19 >>= fun t50 => Out.ok [] >>= fun t51 => Out.ok (t50 :: t51)) >>= fun t53 => Out.ok (t52 :: t53)) >>= fun t55 => Out.ok (t54 :: t55)) >>= fun t56 => dOnly (app [.d, .d, .d] m_shift t56 [])) >>= fun t59 => (Out.ok v24 >>= fun t57 => Out.ok [] >>= fun t58 => Out.ok (t57 :: t58)) >>= fun t60 => Out.ok (t59 :: t60)) >>= fun t61 => dOnly (app [.d, .d] (m__law_same 40) t61 [])) >>= fun t62 => truthD t62) >>= fun t63 => Out.ok (!t63))) >>= fun t30 => if t30 then (Out.ok (PyData.bool false) >>= fun t65 => Out.ok (Ctl.rt (t65, []))) >>= fun t31 => Out.ok (upC t31) else ((Out.ok v24 >>= fun t69 => Out.ok PyData.none >>= fun t70 => isD t69 t70) >>= fun t67 => if t67 then (((((((Out.ok (PyData.str "") >>= fun t74 => (Out.ok (PyData.str "") >>= fun t72 => Out.ok [] >>= fun t73 => Out.ok (t72 :: t73)) >>= fun t75 => Out.ok (t74 :: t75)) >>= fun t76 => Out.ok (PyData.tuple t76)) >>= fun t85 => ((Out.ok v14 >>= fun t77 => Out.ok (PyData.str "a") >>= fun t78 => addD t77 t78) >>= fun t83 => ((Out.ok v19 >>= fun t79 => Out.ok (PyData.str "b") >>= fun t80 => addD t79 t80) >>= fun t81 => Out.ok [] >>= fun t82 => Out.ok (t81 :: t82)) >>= fun t84 => Out.ok (t83 :: t84)) >>= fun t86 => Out.ok (t85 :: t86)) >>= fun t87 => dOnly (app [.d, .d, .d] m_shift t87 [])) >>= fun t88 => Out.ok PyData.none >>= fun t89 => isD t88 t89 >>= fun t90 => Out.ok (PyData.bool t90)) >>= fun t108 => boolD t108 >>= fun t109 => if t109 then (((((Out.ok (PyData.str "") >>= fun t93 => (Out.ok (PyData.str "") >>= fun t91 => Out.ok [] >>= fun t92 => Out.ok (t91 :: t92)) >>= fun t94 => Out.ok (t93 :: t94)) >>= fun t95 => Out.ok (PyData.tuple t95)) >>= fun t102 => ((Out.ok v14 >>= fun t96 => Out.ok v19 >>= fun t97 => addD t96 t97) >>= fun t100 => (Out.ok v19 >>= fun t98 => Out.ok [] >>= fun t99 => Out.ok (t98 :: t99)) >>= fun t101 => Out.ok (t100 :: t101)) >>= fun t103 => Out.ok (t102 :: t103)) >>= fun t104 => dOnly (app [.d, .d, .d] m_shift t104 [])) >>= fun t105 => Out.ok PyData.none >>= fun t106 => isD t105 t106 >>= fun t107 => Out.ok (PyData.bool t107)) else Out.ok (PyData.bool false)) >>= fun t71 => Out.ok (Ctl.rt (t71, []))) >>= fun t68 => Out.ok (upC t68) else (((((Out.ok v24 >>= fun t113 => Out.ok [] >>= fun t114 => Out.ok (t113 :: t114)) >>= fun t115 => dOnly (app [.d] m_is_lag t115 [])) >>= fun t116 => Out.ok (PyData.bool true) >>= fun t117 => isNotD t116 t117) >>= fun t132 => if t132 then Out.ok true else ((((((Out.ok v24 >>= fun t122 => (Out.ok (PyData.str "") >>= fun t120 => (Out.ok (PyData.str "") >>= fun t118 => Out.ok [] >>= fun t119 => Out.ok (t118 :: t119)) >>= fun t121 => Out.ok (t120 :: t121)) >>= fun t123 => Out.ok (t122 :: t123)) >>= fun t124 => dOnly (app [.d, .d, .d] m_shift t124 [])) >>= fun t127 => (Out.ok v24 >>= fun t125 => Out.ok [] >>= fun t126 => Out.ok (t125 :: t126)) >>= fun t128 => Out.ok (t127 :: t128)) >>= fun t129 => dOnly (app [.d, .d] (m__law_same 40) t129 [])) >>= fun t130 => truthD t130) >>= fun t131 => Out.ok (!t131))) >>= fun t111 => if t111 then (Out.ok (PyData.bool false) >>= fun t133 => Out.ok (Ctl.rt (t133, []))) >>= fun t112 => Out.ok (upC t112) else (Out.ok v24 >>= fun v135 => Out.ok (Ctl.nx (v14, v19, v135)))))))))) t11 (v7, v8, v1) >>= fun t12 => Out.ok (dnC t12)) >>= seqC (N1 := PD × PD × PD) (fun n136 => (Out.ok (PyData.bool true) >>= fun t137 => Out.ok (Ctl.rt (t137, [])))))))) : Out (Ctl Empty (PD × List CO) Empty)) >>= finE)
def m_shared_start : PD → PD → Out (PD × List CO) := fun x_first x_second => (((Out.ok (PyData.int 0) >>= fun v1 => ((((Out.ok x_first >>= fun t23 => (Out.ok x_second >>= fun t21 => Out.ok [] >>= fun t22 => Out.ok (t21 :: t22)) >>= fun t24 => Out.ok (t23 :: t24)) >>= fun t25 => zipD t25) >>= fun t4 => forM (fun t6 (n3 : PD) => un2 t6 >>= fun k2 => ((Out.ok k2.1 >>= fun t9 => Out.ok k2.2 >>= fun t10 => neD t9 t10) >>= fun t7 => if t7 then Out.ok (Ctl.bk (n3)) >>= fun t8 => Out.ok (upC t8) else (Out.ok (PyData.int 1) >>= fun t11 => iaddD n3 t11 >>= fun v12 => Out.ok (Ctl.nx (v12))))) t4 (v1) >>= fun t5 => Out.ok (dnC t5)) >>= seqC (N1 := PD) (fun n13 => ((Out.ok x_first >>= fun t16 => Out.ok none >>= fun t17 => (Out.ok n13 >>= fun t15 => partD t15) >>= fun t18 => cutD t16 t17 t18) >>= fun t14 => Out.ok (Ctl.rt (t14, [])))))) : Out (Ctl Empty (PD × List CO) Empty)) >>= finE)
def m_common_start : PD → Out (PD × List CO) := fun x_words => ((((Out.ok x_words >>= fun t2 => Out.ok (PyData.int 0) >>= fun t3 => idxD t2 t3) >>= fun v1 => ((((Out.ok x_words >>= fun t20 => (Out.ok (PyData.int 1) >>= fun t19 => partD t19) >>= fun t21 => Out.ok none >>= fun t22 => cutD t20 t21 t22) >>= fun t23 => itemsD t23) >>= fun t6 => forM (fun t8 (n5 : PD) => Out.ok t8 >>= fun k4 => (((Out.ok n5 >>= fun t12 => (Out.ok k4 >>= fun t10 => Out.ok [] >>= fun t11 => Out.ok (t10 :: t11)) >>= fun t13 => Out.ok (t12 :: t13)) >>= fun t14 => dOnly (app [.d, .d] m_shared_start t14 [])) >>= fun v9 => Out.ok (Ctl.nx (v9)))) t6 (v1) >>= fun t7 => Out.ok (dnC t7)) >>= seqC (N1 := PD) (fun n15 => (Out.ok n15 >>= fun t16 => Out.ok (Ctl.rt (t16, [])))))) : Out (Ctl Empty (PD × List CO) Empty)) >>= finE)
def m__law_start : PD → Out (PD × List CO) := fun x_words => (((Out.ok (PyData.int 0) >>= fun v1 => (((((Out.ok x_words >>= fun t49 => Out.ok (PyData.int 0) >>= fun t50 => idxD t49 t50) >>= fun t48 => lenD t48) >>= fun t51 => rangeD (PyData.int 0) t51) >>= fun t4 => forM (fun t6 (n3 : PD) => Out.ok t6 >>= fun k2 => (((((Out.ok x_words >>= fun t9 => itemsD t9) >>= fun t30 => lineD t30 >>= fun t30 => compP (fun t27 => Out.ok t27 >>= fun k10 => ((Out.ok k10 >>= fun t14 => Out.ok none >>= fun t15 => ((Out.ok k2 >>= fun t11 => Out.ok (PyData.int 1) >>= fun t12 => addD t11 t12) >>= fun t13 => partD t13) >>= fun t16 => cutD t14 t15 t16) >>= fun t25 => ((Out.ok x_words >>= fun t17 => Out.ok (PyData.int 0) >>= fun t18 => idxD t17 t18) >>= fun t22 => Out.ok none >>= fun t23 => ((Out.ok k2 >>= fun t19 => Out.ok (PyData.int 1) >>= fun t20 => addD t19 t20) >>= fun t21 => partD t21) >>= fun t24 => cutD t22 t23 t24) >>= fun t26 => neD t25 t26) >>= fun t28 => if t28 then Out.ok k10 >>= fun t29 => Out.ok (some t29) else Out.ok none) t30) >>= fun t31 => Out.ok (PyData.list t31)) >>= fun t33 => (Out.ok [] >>= fun t32 => Out.ok (PyData.list t32)) >>= fun t34 => eqD t33 t34) >>= fun t7 => if t7 then ((Out.ok k2 >>= fun t36 => Out.ok (PyData.int 1) >>= fun t37 => addD t36 t37) >>= fun v35 => Out.ok (Ctl.nx (v35))) else Out.ok (Ctl.nx (n3)))) t4 (v1) >>= fun t5 => Out.ok (dnC t5)) >>= seqC (N1 := PD) (fun n38 => (((Out.ok x_words >>= fun t40 => Out.ok (PyData.int 0) >>= fun t41 => idxD t40 t41) >>= fun t43 => Out.ok none >>= fun t44 => (Out.ok n38 >>= fun t42 => partD t42) >>= fun t45 => cutD t43 t44 t45) >>= fun t39 => Out.ok (Ctl.rt (t39, [])))))) : Out (Ctl Empty (PD × List CO) Empty)) >>= finE)
def m__law_steps_of : List PD → PD → PD → Out (PD × List CO) := fun l_pool x_text x_other => (((Out.ok [] >>= fun l2 => (Out.ok (PyData.int 0) >>= fun v3 => (Out.ok (PyData.int 0) >>= fun v4 => (((((Out.ok (PyData.int 13) >>= fun t80 => Out.ok ([], [CO.l l2, CO.l l_pool]) >>= fun t81 => Out.ok (t80 :: t81.1, t81.2)) >>= fun t77 => callC [1] t77.2 (app [.c, .d] m__law_draw t77.1)) >>= fun t82 => rangeD (PyData.int 0) t82.1 >>= fun t83 => Out.ok (t83, t82.2)) >>= fun t7 => forM (fun t9 (n6 : PD × PD × List CO) => Out.ok t9 >>= fun k5 => ((unl fun p10 => (unl fun p11 => (unn ((((((Out.ok (PyData.int 6) >>= fun t17 => Out.ok ([], [CO.l p10, CO.l p11]) >>= fun t18 => Out.ok (t17 :: t18.1, t18.2)) >>= fun t14 => callC [1] t14.2 (app [.c, .d] m__law_draw t14.1)) >>= fun t31 => (unl fun p19 => (unl fun p20 => (unn ((((Out.ok (PyData.int 6) >>= fun t24 => Out.ok ([], [CO.l p19, CO.l p20]) >>= fun t25 => Out.ok (t24 :: t25.1, t25.2)) >>= fun t21 => callC [1] t21.2 (app [.c, .d] m__law_draw t21.1)) >>= fun t29 => (unl fun p26 => (unl fun p27 => (unn ((Out.ok [] >>= fun t28 => Out.ok (t28, [CO.l p26, CO.l p27])))))) t29.2 >>= fun t30 => Out.ok (t29.1 :: t30.1, t30.2)))))) t31.2 >>= fun t32 => Out.ok (t31.1 :: t32.1, t32.2)) >>= fun t33 => Out.ok (PyData.list t33.1, t33.2)) >>= fun t13 => (fun v12 => (unl fun p34 => (unl fun p35 => (unn (((((Out.ok x_text >>= fun t44 => (Out.ok n6.1 >>= fun t38 => partD t38) >>= fun t45 => ((Out.ok n6.1 >>= fun t41 => (Out.ok v12 >>= fun t39 => Out.ok (PyData.int 0) >>= fun t40 => idxD t39 t40) >>= fun t42 => addD t41 t42) >>= fun t43 => partD t43) >>= fun t46 => cutD t44 t45 t46) >>= fun t58 => ((Out.ok x_other >>= fun t53 => (Out.ok n6.2.1 >>= fun t47 => partD t47) >>= fun t54 => ((Out.ok n6.2.1 >>= fun t50 => (Out.ok v12 >>= fun t48 => Out.ok (PyData.int 1) >>= fun t49 => idxD t48 t49) >>= fun t51 => addD t50 t51) >>= fun t52 => partD t52) >>= fun t55 => cutD t53 t54 t55) >>= fun t56 => Out.ok [] >>= fun t57 => Out.ok (t56 :: t57)) >>= fun t59 => Out.ok (t58 :: t59)) >>= fun t60 => Out.ok (PyData.tuple t60)) >>= fun t36 => appD p34 t36 >>= fun l37 => ((Out.ok n6.1 >>= fun t64 => (Out.ok v12 >>= fun t62 => Out.ok (PyData.int 0) >>= fun t63 => idxD t62 t63) >>= fun t65 => addD t64 t65) >>= fun v61 => ((Out.ok n6.2.1 >>= fun t69 => (Out.ok v12 >>= fun t67 => Out.ok (PyData.int 1) >>= fun t68 => idxD t67 t68) >>= fun t70 => addD t69 t70) >>= fun v66 => Out.ok (Ctl.nx (v61, v66, [CO.l l37, CO.l p35])))))))))) t13.1 t13.2))))) n6.2.2)) t7.1 ((fun cs1 => (v3, v4, cs1)) t7.2) >>= fun t8 => Out.ok (dnC t8)) >>= seqC (N1 := PD × PD × List CO) (fun n71 => ((unl fun p72 => (unl fun p73 => (unn ((Out.ok (PyData.list p72) >>= fun t74 => Out.ok (Ctl.rt (t74, [CO.l p73]))))))) n71.2.2)))))) : Out (Ctl Empty (PD × List CO) Empty)) >>= finE)
def m_law : PD → Out (PD × List CO) := fun x_script => (((((Out.ok x_script >>= fun t5 => (Out.ok (PyData.int 0) >>= fun t3 => Out.ok [] >>= fun t4 => Out.ok (t3 :: t4)) >>= fun t6 => Out.ok (t5 :: t6)) >>= fun t7 => dOnly (app [.d, .d] m__law_pool t7 [])) >>= fun l2 => ((Out.ok ([], [CO.l l2]) >>= fun t10 => callC [0] t10.2 (app [.c] m__law_alphabet t10.1)) >>= fun t9 => (fun v8 => (unl fun p13 => (unn ((((Out.ok v8 >>= fun t19 => (((Out.ok (PyData.int 61) >>= fun t26 => Out.ok ([], [CO.l p13]) >>= fun t27 => Out.ok (t26 :: t27.1, t27.2)) >>= fun t23 => callC [0] t23.2 (app [.c, .d] m__law_draw t23.1)) >>= fun t21 => (unl fun p28 => (unn (Out.ok ([], [CO.l p28])))) t21.2 >>= fun t22 => Out.ok (t21.1 :: t22.1, t22.2)) >>= fun t20 => Out.ok (t19 :: t20.1, t20.2)) >>= fun t16 => callC [0] t16.2 (app [.c, .d, .d] m__law_text t16.1)) >>= fun t15 => (fun v14 => (unl fun p29 => (unn ((Out.ok v14 >>= fun v30 => ((((((Out.ok v14 >>= fun t33 => lenD t33) >>= fun t34 => Out.ok (PyData.int 0) >>= fun t35 => gtD t34 t35) >>= fun t36 => Out.ok (t36, [CO.l p29])) >>= fun t48 => if t48.1 then (unl fun p37 => (unn ((((Out.ok (PyData.int 2) >>= fun t41 => Out.ok ([], [CO.l p37]) >>= fun t42 => Out.ok (t41 :: t42.1, t42.2)) >>= fun t38 => callC [0] t38.2 (app [.c, .d] m__law_draw t38.1)) >>= fun t45 => (unl fun p43 => (unn ((Out.ok (PyData.int 1) >>= fun t44 => Out.ok (t44, [CO.l p43]))))) t45.2 >>= fun t46 => eqD t45.1 t46.1 >>= fun t47 => Out.ok (t47, t46.2))))) t48.2 else Out.ok (false, t48.2)) >>= fun t31 => if t31.1 then (unl fun p49 => (unn (((((Out.ok v14 >>= fun t57 => lenD t57) >>= fun t55 => Out.ok ([], [CO.l p49]) >>= fun t56 => Out.ok (t55 :: t56.1, t56.2)) >>= fun t52 => callC [0] t52.2 (app [.c, .d] m__law_draw t52.1)) >>= fun t51 => (fun v50 => (unl fun p58 => (unn ((((((Out.ok v14 >>= fun t62 => Out.ok none >>= fun t63 => (Out.ok v50 >>= fun t61 => partD t61) >>= fun t64 => cutD t62 t63 t64) >>= fun t65 => Out.ok (t65, [CO.l p58])) >>= fun t78 => (unl fun p66 => (unn (((Out.ok v8 >>= fun t67 => Out.ok (t67, [CO.l p66])) >>= fun t75 => (unl fun p68 => (unn ((((Out.ok v8 >>= fun t74 => lenD t74) >>= fun t72 => Out.ok ([], [CO.l p68]) >>= fun t73 => Out.ok (t72 :: t73.1, t73.2)) >>= fun t69 => callC [0] t69.2 (app [.c, .d] m__law_draw t69.1))))) t75.2 >>= fun t76 => idxD t75.1 t76.1 >>= fun t77 => Out.ok (t77, t76.2))))) t78.2 >>= fun t79 => addD t78.1 t79.1 >>= fun t80 => Out.ok (t80, t79.2)) >>= fun t89 => (unl fun p81 => (unn (((Out.ok v14 >>= fun t85 => ((Out.ok v50 >>= fun t82 => Out.ok (PyData.int 1) >>= fun t83 => addD t82 t83) >>= fun t84 => partD t84) >>= fun t86 => Out.ok none >>= fun t87 => cutD t85 t86 t87) >>= fun t88 => Out.ok (t88, [CO.l p81]))))) t89.2 >>= fun t90 => addD t89.1 t90.1 >>= fun t91 => Out.ok (t91, t90.2)) >>= fun t60 => (fun v59 => (unl fun p92 => (unn (Out.ok (Ctl.nx (v59, [CO.l p92])))))) t60.1 t60.2))))) t51.1 t51.2)))) t31.2 else (unl fun p93 => (unn (Out.ok (Ctl.nx (v30, [CO.l p93]))))) t31.2) >>= seqC (N1 := PD × List CO) (fun n94 => ((unl fun p95 => (unn ((((((((Out.ok c_NO_LAG >>= fun t105 => (((Out.ok (PyData.str "") >>= fun t100 => (Out.ok (PyData.str "") >>= fun t98 => Out.ok [] >>= fun t99 => Out.ok (t98 :: t99)) >>= fun t101 => Out.ok (t100 :: t101)) >>= fun t102 => Out.ok (PyData.tuple t102)) >>= fun t103 => Out.ok [] >>= fun t104 => Out.ok (t103 :: t104)) >>= fun t106 => Out.ok (t105 :: t106)) >>= fun t107 => dOnly (app [.d, .d] (m__law_same 40) t107 [])) >>= fun t108 => truthD t108) >>= fun t109 => Out.ok (!t109)) >>= fun t110 => Out.ok (t110, [CO.l p95])) >>= fun t134 => if t134.1 then Out.ok (true, t134.2) else (unl fun p111 => (unn (((((((((Out.ok x_script >>= fun t118 => (Out.ok (PyData.int 1) >>= fun t116 => Out.ok [] >>= fun t117 => Out.ok (t116 :: t117)) >>= fun t119 => Out.ok (t118 :: t119)) >>= fun t120 => dOnly (app [.d, .d] m__law_pool t120 [])) >>= fun t121 => Out.ok (t121, [CO.l p111])) >>= fun t127 => (unl fun p122 => (unn ((Out.ok v14 >>= fun t123 => (Out.ok n94.1 >>= fun t125 => Out.ok ([], [CO.l p122]) >>= fun t126 => Out.ok (t125 :: t126.1, t126.2)) >>= fun t124 => Out.ok (t123 :: t124.1, t124.2))))) t127.2 >>= fun t115 => callC [] t115.2 fun t128 => app [.c, .d, .d] m__law_steps_of t115.1 (CO.l t127.1 :: t128) >>= fun t129 => Out.ok (t129.1, t129.2.tail)) >>= fun t113 => (unl fun p130 => (unn (Out.ok ([], [CO.l p130])))) t113.2 >>= fun t114 => Out.ok (t113.1 :: t114.1, t114.2)) >>= fun t112 => callC [] t112.2 (app [.d] m__law_follows t112.1)) >>= fun t131 => truthD t131.1 >>= fun t132 => Out.ok (t132, t131.2)) >>= fun t133 => Out.ok (!t133.1, t133.2))))) t134.2) >>= fun t96 => if t96.1 then (unl fun p135 => (unn ((Out.ok (PyData.bool false) >>= fun t136 => Out.ok (Ctl.rt (t136, [])))))) t96.2 >>= fun t97 => Out.ok (upC t97) else (unl fun p138 => (unn ((((Out.ok x_script >>= fun t143 => (Out.ok (PyData.int 2) >>= fun t141 => Out.ok [] >>= fun t142 => Out.ok (t141 :: t142)) >>= fun t144 => Out.ok (t143 :: t144)) >>= fun t145 => dOnly (app [.d, .d] m__law_pool t145 [])) >>= fun l140 => (((((((Out.ok v14 >>= fun t151 => Out.ok (t151, [CO.l l140, CO.l p138])) >>= fun t165 => (unl fun p152 => (unl fun p153 => (unn ((Out.ok none >>= fun t154 => Out.ok (t154, [CO.l p152, CO.l p153])))))) t165.2 >>= fun t166 => (unl fun p155 => (unl fun p156 => (unn ((((Out.ok (PyData.int 3) >>= fun t161 => Out.ok ([], [CO.l p155, CO.l p156]) >>= fun t162 => Out.ok (t161 :: t162.1, t162.2)) >>= fun t158 => callC [0] t158.2 (app [.c, .d] m__law_draw t158.1)) >>= fun t163 => partD t163.1 >>= fun t164 => Out.ok (t164, t163.2)))))) t166.2 >>= fun t167 => cutD t165.1 t166.1 t167.1 >>= fun t168 => Out.ok (t168, t167.2)) >>= fun t149 => (unl fun p169 => (unl fun p170 => (unn ((((Out.ok n94.1 >>= fun t173 => Out.ok (t173, [CO.l p169, CO.l p170])) >>= fun t187 => (unl fun p174 => (unl fun p175 => (unn ((Out.ok none >>= fun t176 => Out.ok (t176, [CO.l p174, CO.l p175])))))) t187.2 >>= fun t188 => (unl fun p177 => (unl fun p178 => (unn ((((Out.ok (PyData.int 3) >>= fun t183 => Out.ok ([], [CO.l p177, CO.l p178]) >>= fun t184 => Out.ok (t183 :: t184.1, t184.2)) >>= fun t180 => callC [0] t180.2 (app [.c, .d] m__law_draw t180.1)) >>= fun t185 => partD t185.1 >>= fun t186 => Out.ok (t186, t185.2)))))) t188.2 >>= fun t189 => cutD t187.1 t188.1 t189.1 >>= fun t190 => Out.ok (t190, t189.2)) >>= fun t171 => (unl fun p191 => (unl fun p192 => (unn (Out.ok ([], [CO.l p191, CO.l p192]))))) t171.2 >>= fun t172 => Out.ok (t171.1 :: t172.1, t172.2)))))) t149.2 >>= fun t150 => Out.ok (t149.1 :: t150.1, t150.2)) >>= fun t148 => callC [] t148.2 (app [.d, .d] m__law_judges t148.1)) >>= fun t193 => truthD t193.1 >>= fun t194 => Out.ok (t194, t193.2)) >>= fun t195 => Out.ok (!t195.1, t195.2)) >>= fun t146 => if t146.1 then (unl fun p196 => (unl fun p197 => (unn ((Out.ok (PyData.bool false) >>= fun t198 => Out.ok (Ctl.rt (t198, []))))))) t146.2 >>= fun t147 => Out.ok (upC t147) else (unl fun p200 => (unl fun p201 => (unn ((Out.ok [] >>= fun l203 => (((((Out.ok (PyData.int 1) >>= fun t291 => Out.ok (t291, [CO.l l203, CO.l p200, CO.l p201])) >>= fun t300 => (unl fun p292 => (unl fun p293 => (unl fun p294 => (unn (((Out.ok (PyData.int 8) >>= fun t298 => Out.ok ([], [CO.l p292, CO.l p293, CO.l p294]) >>= fun t299 => Out.ok (t298 :: t299.1, t299.2)) >>= fun t295 => callC [1] t295.2 (app [.c, .d] m__law_draw t295.1))))))) t300.2 >>= fun t301 => addD t300.1 t301.1 >>= fun t302 => Out.ok (t302, t301.2)) >>= fun t303 => rangeD (PyData.int 0) t303.1 >>= fun t304 => Out.ok (t304, t303.2)) >>= fun t206 => forM (fun t208 (n205 : List CO) => Out.ok t208 >>= fun k204 => ((unl fun p209 => (unl fun p210 => (unl fun p211 => (unn (((((Out.ok v14 >>= fun t214 => Out.ok (t214, [CO.l p209, CO.l p210, CO.l p211])) >>= fun t233 => (unl fun p215 => (unl fun p216 => (unl fun p217 => (unn ((Out.ok none >>= fun t218 => Out.ok (t218, [CO.l p215, CO.l p216, CO.l p217]))))))) t233.2 >>= fun t234 => (unl fun p219 => (unl fun p220 => (unl fun p221 => (unn ((((((Out.ok v14 >>= fun t228 => lenD t228) >>= fun t229 => Out.ok (PyData.int 1) >>= fun t230 => addD t229 t230) >>= fun t226 => Out.ok ([], [CO.l p219, CO.l p220, CO.l p221]) >>= fun t227 => Out.ok (t226 :: t227.1, t227.2)) >>= fun t223 => callC [1] t223.2 (app [.c, .d] m__law_draw t223.1)) >>= fun t231 => partD t231.1 >>= fun t232 => Out.ok (t232, t231.2))))))) t234.2 >>= fun t235 => cutD t233.1 t234.1 t235.1 >>= fun t236 => Out.ok (t236, t235.2)) >>= fun t255 => (unl fun p237 => (unl fun p238 => (unl fun p239 => (unn (((Out.ok v8 >>= fun t243 => (((Out.ok (PyData.int 4) >>= fun t250 => Out.ok ([], [CO.l p237, CO.l p238, CO.l p239]) >>= fun t251 => Out.ok (t250 :: t251.1, t251.2)) >>= fun t247 => callC [1] t247.2 (app [.c, .d] m__law_draw t247.1)) >>= fun t245 => (unl fun p252 => (unl fun p253 => (unl fun p254 => (unn (Out.ok ([], [CO.l p252, CO.l p253, CO.l p254])))))) t245.2 >>= fun t246 => Out.ok (t245.1 :: t246.1, t246.2)) >>= fun t244 => Out.ok (t243 :: t244.1, t244.2)) >>= fun t240 => callC [1] t240.2 (app [.c, .d, .d] m__law_text t240.1))))))) t255.2 >>= fun t256 => addD t255.1 t256.1 >>= fun t257 => Out.ok (t257, t256.2)) >>= fun t212 => cellL 0 t212.2 >>= fun t261 => appD t261 t212.1 >>= fun l213 => (unl fun p258 => (unl fun p259 => (unl fun p260 => (unn (Out.ok (Ctl.nx ([CO.l p258, CO.l p259, CO.l p260]))))))) (t212.2.set 0 (CO.l l213)))))))) n205)) t206.1 ((fun cs1 => (cs1)) t206.2) >>= fun t207 => Out.ok (dnC t207)) >>= seqC (N1 := List CO) (fun n262 => ((unl fun p263 => (unl fun p264 => (unl fun p265 => (unn ((((Out.ok (PyData.list p263) >>= fun t268 => seqD t268) >>= fun t269 => Out.ok (PyData.list t269)) >>= fun v266 => ((((((Out.ok v266 >>= fun t271 => Out.ok [] >>= fun t272 => Out.ok (t271 :: t272)) >>= fun t273 => dOnly (app [.d] m_common_start t273 [])) >>= fun t279 => (((Out.ok (PyData.list p263) >>= fun t274 => Out.ok [] >>= fun t275 => Out.ok (t274 :: t275)) >>= fun t276 => dOnly (app [.d] m__law_start t276 [])) >>= fun t277 => Out.ok [] >>= fun t278 => Out.ok (t277 :: t278)) >>= fun t280 => Out.ok (t279 :: t280)) >>= fun t281 => dOnly (app [.d, .d] (m__law_same 40) t281 [])) >>= fun t287 => boolD t287 >>= fun t288 => if t288 then ((Out.ok v266 >>= fun t284 => (Out.ok (PyData.list p263) >>= fun t282 => Out.ok [] >>= fun t283 => Out.ok (t282 :: t283)) >>= fun t285 => Out.ok (t284 :: t285)) >>= fun t286 => dOnly (app [.d, .d] (m__law_same 40) t286 [])) else Out.ok (PyData.bool false)) >>= fun t270 => Out.ok (Ctl.rt (t270, []))))))))) n262)))))))) t146.2))))) t96.2)))) n94.2)))))))) t15.1 t15.2))))) t9.1 t9.2)) : Out (Ctl Empty (PD × List CO) Empty)) >>= finE)
@[simp] theorem ap_n {τ : Type} {f : Out τ}  : app (τ := τ) [] f [] [] = f  := rfl
@[simp] theorem ap_c {τ : Type} {f : List PD → Out τ} {x0 : List PD} : app (τ := τ) [AK.c] f [] [CO.l x0] = f x0 := rfl
@[simp] theorem ap_cd {τ : Type} {f : List PD → PD → Out τ} {x0 : List PD} {x1 : PD} : app (τ := τ) [AK.c, AK.d] f [x1] [CO.l x0] = f x0 x1 := rfl
@[simp] theorem ap_cdd {τ : Type} {f : List PD → PD → PD → Out τ} {x0 : List PD} {x1 : PD} {x2 : PD} : app (τ := τ) [AK.c, AK.d, AK.d] f [x1, x2] [CO.l x0] = f x0 x1 x2 := rfl
@[simp] theorem ap_d {τ : Type} {f : PD → Out τ} {x0 : PD} : app (τ := τ) [AK.d] f [x0] [] = f x0 := rfl
@[simp] theorem ap_dd {τ : Type} {f : PD → PD → Out τ} {x0 : PD} {x1 : PD} : app (τ := τ) [AK.d, AK.d] f [x0, x1] [] = f x0 x1 := rfl
@[simp] theorem ap_ddd {τ : Type} {f : PD → PD → PD → Out τ} {x0 : PD} {x1 : PD} {x2 : PD} : app (τ := τ) [AK.d, AK.d, AK.d] f [x0, x1, x2] [] = f x0 x1 x2 := rfl
end Dd
set_option Elab.async false
set_option linter.all false
set_option maxRecDepth 100000
set_option maxHeartbeats 4000000
namespace Dd
open PySem PySem.Spec PyProof.Rows L2
/-- a drawer -/
def Pool (l : List PD) : Prop := ∃ a b : Int, l = [.int a, .int b] ∧ 0 ≤ a
theorem e18 : powD (.int 10) (.int 18) = .ok (.int 1000000000000000000) := by
  rw [powD_i (by decide)]; rfl
theorem draw_ok {l : List PD} (h : Pool l) {n : Nat} (h0 : 0 < n) (h1 : n < 1073741824) : ∃ (r : Nat) (l' : List PD), m__law_draw l (.int (n : Int)) = .ok (.int (r : Int), [.l l']) ∧ r < n ∧ Pool l' := by
  obtain ⟨a, b, rfl, ha⟩ := h
  have fm : ∀ x : Int, ∃ r : Nat, x.fmod (n : Int) = (r : Int) ∧ r < n := fun x => by
    have h2 : 0 ≤ x.fmod (n : Int) := Int.fmod_nonneg_of_pos _ (by omega)
    have h3 : x.fmod (n : Int) < n := Int.fmod_lt_of_pos _ (by omega)
    exact ⟨(x.fmod n).toNat, by omega, by omega⟩
  have mm : ∀ (x y : Int), -(2 ^ 64) < y → y < 2 ^ 64 → mulD (.int x) (.int y) = .ok (.int (x * y)) := fun x y h1 h2 => mulD_i (.inr ⟨h1, h2⟩)
  by_cases hc : 1000000000000000000 ≤ a
  · have hd : ∀ x : Int, fdivD (.int x) (.int (n : Int)) = .ok (.int (x.fdiv n)) := fun x => fdivD_i ⟨by omega, by omega⟩
    have hm : ∀ x : Int, modD (.int x) (.int (n : Int)) = .ok (.int (x.fmod n)) := fun x => modD_i (by omega)
    obtain ⟨r, e1, e2⟩ := fm (a - 1000000000000000000)
    refine ⟨r, _, ?_, e2, 1000000000000000000 + (a - 1000000000000000000).fdiv n, b, rfl, ?_⟩
    · simp only [m__law_draw, ok_bind, idxD_l0, idxD_l1, e18, geD_i, hc, decide_true, if_true, subD_i, hd, addD_i, setD_0, intD_i, hm, upC_rt, finE_rt, e1]
    · have : 0 ≤ (a - 1000000000000000000).fdiv n := Int.fdiv_nonneg (by omega) (by omega)
      omega
  · have m1 : ∀ (x : Int) (k : Int), 0 < k → k < 2147483648 → ∃ y : Int, modD (.int x) (.int k) = .ok (.int y) ∧ 0 ≤ y ∧ y < k := fun x k h1 h2 => ⟨_, modD_i (by omega), Int.fmod_nonneg_of_pos _ h1, Int.fmod_lt_of_pos _ h1⟩
    have hm : ∀ x : Int, modD (.int x) (.int (n : Int)) = .ok (.int (x.fmod n)) := fun x => modD_i (by omega)
    obtain ⟨y1, f1, g1, g1'⟩ := m1 (a * 48271 + (b + 1) * 69621) 2147483647 (by decide) (by decide)
    obtain ⟨y2, f2, g2, g2'⟩ := m1 (y1 * y1 + (b + 1) * 40692) 2147483399 (by decide) (by decide)
    obtain ⟨y3, f3, g3, g3'⟩ := m1 (y2 * y2 + a) 2147483629 (by decide) (by decide)
    have hd : fdivD (.int y3) (.int 16) = .ok (.int (y3.fdiv 16)) := fdivD_i ⟨by decide, by decide⟩
    obtain ⟨r, e1, e2⟩ := fm (y3.fdiv 16)
    refine ⟨r, _, ?_, e2, a, b + 1, rfl, ha⟩
    simp only [m__law_draw, ok_bind, idxD_l0, idxD_l1, e18, geD_i, hc, decide_false, if_false, subD_i, addD_i, setD_0, setD_1, intD_i, hm, upC_rt, finE_rt, mm a 48271 (by decide) (by decide), mm (b + 1) 69621 (by decide) (by decide), mm (b + 1) 40692 (by decide) (by decide), f1, mm y1 y1 (by omega) (by omega), f2, mm y2 y2 (by omega) (by omega), f3, hd, e1, Bool.false_eq_true]

def LET : List Nat := ((List.range 95).map (· + 32)).filter fun c => c != 37 && c != 91 && c != 93
theorem LET_len : LET.length = 92 := by decide
theorem LET_tx : Tx LET := by unfold Tx; decide
theorem letters_ok : m__law_letters = .ok (S LET, []) := by kernel_rfl
theorem pool_ok (ns : List Int) (hl : ns.length ≤ 63) (k : Nat) : ∃ l, m__law_pool (.list (ns.map PyData.int)) (.int (k : Int)) = .ok (l, []) ∧ Pool l := by
  have mm : ∀ x y : Int, -(2 ^ 64) < x → x < 2 ^ 64 → mulD (.int x) (.int y) = .ok (.int (x * y)) := fun x y h1 h2 => mulD_i (.inl ⟨h1, h2⟩)
  by_cases hk : k < ns.length
  · have hg : idxD (.list (ns.map PyData.int)) (.int (k : Int)) = .ok (.int ns[k]) := idxD_l (by simp [hk])
    have e : ((k : Int) < ((ns.map PyData.int).length : Int)) := by simp; omega
    by_cases hn : ns[k] < 0
    · refine ⟨[.int (-ns[k]), .int (1000 * k)], ?_, _, _, rfl, by omega⟩
      simp only [m__law_pool, ok_bind, lenD_l, ltD_i, e, decide_true, if_true, hg, intD_i, seqC_nx, hn, negD_i, mm 1000 (k : Int) (by decide) (by decide), finE_rt]
    · refine ⟨[.int (ns[k]), .int (1000 * k)], ?_, _, _, rfl, by omega⟩
      simp only [m__law_pool, ok_bind, lenD_l, ltD_i, e, decide_true, if_true, hg, intD_i, seqC_nx, hn, decide_false, negD_i, mm 1000 (k : Int) (by decide) (by decide), finE_rt, Bool.false_eq_true, if_false]
  · have e : ¬ ((k : Int) < ((ns.map PyData.int).length : Int)) := by simp; omega
    refine ⟨[.int 0, .int (1000 * k)], ?_, _, _, rfl, by omega⟩
    simp only [m__law_pool, ok_bind, lenD_l, ltD_i, e, decide_false, if_false, Bool.false_eq_true, intD_i, seqC_nx, (by decide : ¬ (0 : Int) < 0), negD_i, mm 1000 (k : Int) (by decide) (by decide), finE_rt]
theorem alphabet_ok {l : List PD} (h : Pool l) : ∃ (a : List Nat) (l' : List PD), m__law_alphabet l = .ok (S a, [.l l']) ∧ 0 < a.length ∧ a.length ≤ 92 ∧ Tx a ∧ Pool l' := by
  obtain ⟨r1, l1, e1, _, h1⟩ := draw_ok h (n := 2) (by decide) (by decide)
  obtain ⟨r2, l2, e2, b2, h2⟩ := draw_ok h1 (n := 92) (by decide) (by decide)
  obtain ⟨r3, l3, e3, b3, h3⟩ := draw_ok h2 (n := 92) (by decide) (by decide)
  have c2 : LET[r2]? = some LET[r2] := List.getElem?_eq_getElem (by rw [LET_len]; exact b2)
  have c3 : LET[r3]? = some LET[r3] := List.getElem?_eq_getElem (by rw [LET_len]; exact b3)
  have i2 := idxD_S (a := LET) (n := r2) (by decide) c2
  have i3 := idxD_S (a := LET) (n := r3) (by decide) c3
  have ad : addD (S [LET[r2]]) (S [LET[r3]]) = .ok (S [LET[r2], LET[r3]]) := addD_S (by rw [sizeLine_eq]; simp)
  by_cases hr : (r1 : Int) = 0
  · refine ⟨[LET[r2], LET[r3]], l3, ?_, by simp, by simp, fun c m => ?_, h3⟩
    · simp only [m__law_alphabet, letters_ok, dOnly_ok, ok_bind, callC_0, ap_c, ap_d, ap_cd, ap_cdd, show ((2 : Nat) : Int) = 2 from rfl, show ((92 : Nat) : Int) = 92 from rfl] at e1 e2 e3 ⊢
      simp only [e1, e2, e3, ok_bind, putC_0, unl_l, unn_n, eqD_i, hr, decide_true, if_true, i2, i3, ad, upC_rt, finE_rt]
    · have : c = LET[r2] ∨ c = LET[r3] := by simpa using m
      rcases this with q | q <;> (rw [q]; exact LET_tx _ (List.getElem_mem _))
  · refine ⟨LET, l1, ?_, by decide, by decide, LET_tx, h1⟩
    simp only [m__law_alphabet, letters_ok, dOnly_ok, ok_bind, callC_0, ap_c, ap_d, ap_cd, ap_cdd, show ((2 : Nat) : Int) = 2 from rfl, show ((92 : Nat) : Int) = 92 from rfl] at e1 e2 e3 ⊢
    simp only [e1, e2, e3, ok_bind, putC_0, unl_l, unn_n, eqD_i, hr, decide_false, if_false, Bool.false_eq_true, finE_rt]
theorem draw_Ok {l : List PD} (h : Pool l) {n : Nat} (h0 : 0 < n) (h1 : n < 1073741824) : Ok (m__law_draw l (.int (n : Int))) fun r => ∃ (k : Nat) (l' : List PD), r = (.int (k : Int), [.l l']) ∧ k < n ∧ Pool l' := by
  obtain ⟨r, l', e, hb, hp⟩ := draw_ok h h0 h1
  exact ⟨_, e, r, l', rfl, hb, hp⟩
theorem text_Ok {l : List PD} (h : Pool l) {a : List Nat} (ha : 0 < a.length) (ha2 : a.length ≤ 92) (hx : Tx a) {n : Nat} (hn : n ≤ 100000) : Ok (m__law_text l (S a) (.int (n : Int))) fun r => ∃ (t : List Nat) (l' : List PD), r = (S t, [.l l']) ∧ t.length = n ∧ Tx t ∧ Pool l' := by
  have hz : a.length ≤ sizeLine := by rw [sizeLine_eq]; omega
  have er := rangeD_n (n := n) (by omega)
  have hl : ((List.range n).map fun i => PyData.int ((i : Nat) : Int)).length ≤ sizeLine := by rw [sizeLine_eq, List.length_map, List.length_range]; omega
  simp -implicitDefEqProofs only [bind_bind, ok_bind, dOnly_ok, callC_0, callC_1, callC_2, callC_3, callC_n, putC_0, putC_1, putC_2, putC_3, putC_n, unl_l, unn_n, finE_rt, finN_rt, finN_nx, upC_rt, upC_bk, upC_ct, dnC_nx, dnC_rt, seqC_nx, seqC_rt, seqC_bk, seqC_ct, dropC_0, dropC_1, dropC_2, dropC_3, cellL_0, cellL_1, cellL_2, EI, if_true, if_false, Bool.false_eq_true, decide_true, decide_false, Bool.not_true, Bool.not_false, S_nil, reduceIte, List.map_cons, List.map_nil, List.tail_cons, IS, m__law_text, er, lineD_ok hl]
  refine Ok.bind (compX_Ok (fun cs => ∃ l, cs = [.l l] ∧ Pool l) (fun _ y => ∃ c, y = S [c] ∧ c ∈ a) ⟨l, rfl, h⟩ ?_) ?_
  · rintro d _ _ ⟨l, rfl, h⟩
    simp -implicitDefEqProofs only [bind_bind, ok_bind, dOnly_ok, callC_0, callC_1, callC_2, callC_3, callC_n, putC_0, putC_1, putC_2, putC_3, putC_n, unl_l, unn_n, finE_rt, finN_rt, finN_nx, upC_rt, upC_bk, upC_ct, dnC_nx, dnC_rt, seqC_nx, seqC_rt, seqC_bk, seqC_ct, dropC_0, dropC_1, dropC_2, dropC_3, cellL_0, cellL_1, cellL_2, EI, if_true, if_false, Bool.false_eq_true, decide_true, decide_false, Bool.not_true, Bool.not_false, S_nil, reduceIte, List.map_cons, List.map_nil, List.tail_cons, IS, lenD_S hz, ap_cd]
    refine Ok.bind (draw_Ok h ha (by omega)) ?_
    rintro _ ⟨k, l', rfl, hk, hp⟩
    simp -implicitDefEqProofs only [bind_bind, ok_bind, dOnly_ok, callC_0, callC_1, callC_2, callC_3, callC_n, putC_0, putC_1, putC_2, putC_3, putC_n, unl_l, unn_n, finE_rt, finN_rt, finN_nx, upC_rt, upC_bk, upC_ct, dnC_nx, dnC_rt, seqC_nx, seqC_rt, seqC_bk, seqC_ct, dropC_0, dropC_1, dropC_2, dropC_3, cellL_0, cellL_1, cellL_2, EI, if_true, if_false, Bool.false_eq_true, decide_true, decide_false, Bool.not_true, Bool.not_false, S_nil, reduceIte, List.map_cons, List.map_nil, List.tail_cons, IS, idxD_S hz (List.getElem?_eq_getElem hk)]
    exact .ret ⟨_, rfl, ⟨_, rfl, List.getElem_mem _⟩, _, rfl, hp⟩
  · rintro ⟨ys, cs'⟩ ⟨hf, l', rfl, hp⟩
    have hlen := hf.len
    rw [List.length_map, List.length_range] at hlen
    obtain ⟨cs, rfl, hm⟩ := hf.map_of
    rw [List.length_map] at hlen
    have ej := joinD_1 (cs := cs) (by omega)
    have e1 : PyData.str ⟨[].toArray⟩ = S [] := rfl
    simp -implicitDefEqProofs only [bind_bind, ok_bind, dOnly_ok, callC_0, callC_1, callC_2, callC_3, callC_n, putC_0, putC_1, putC_2, putC_3, putC_n, unl_l, unn_n, finE_rt, finN_rt, finN_nx, upC_rt, upC_bk, upC_ct, dnC_nx, dnC_rt, seqC_nx, seqC_rt, seqC_bk, seqC_ct, dropC_0, dropC_1, dropC_2, dropC_3, cellL_0, cellL_1, cellL_2, EI, if_true, if_false, Bool.false_eq_true, decide_true, decide_false, Bool.not_true, Bool.not_false, S_nil, reduceIte, List.map_cons, List.map_nil, List.tail_cons, IS, e1, ej]
    exact .ret ⟨cs, l', rfl, hlen.symm, fun c m => hx c (hm c m), hp⟩

/-- data that _law_same tells alike to itself -/
def Good : Nat → PD → Prop
  | 0, _ => False
  | n + 1, d => match d with
    | .none => True
    | .bool _ => True
    | .int _ => True
    | .str z => Tx z.cps.toList
    | .tuple xs => xs.length ≤ 1000 ∧ ∀ x ∈ xs, Good n x
    | .list xs => xs.length ≤ 1000 ∧ ∀ x ∈ xs, Good n x
    | .dict _ => False
theorem Good.mono : ∀ {n m : Nat} {d : PD}, Good n d → n ≤ m → Good m d
  | 0, _, _, h, _ => h.elim
  | n + 1, 0, _, _, hm => by omega
  | n + 1, m + 1, d, h, hm => by
    cases d with
    | none => trivial
    | bool _ => trivial
    | int _ => trivial
    | str z => exact h
    | tuple xs => exact ⟨h.1, fun x hx => (h.2 x hx).mono (by omega)⟩
    | list xs => exact ⟨h.1, fun x hx => (h.2 x hx).mono (by omega)⟩
    | dict _ => exact h.elim
theorem same_items {n : Nat} {xs : List PD} (h : ∀ x ∈ xs, m__law_same n x x = .ok (.bool true, [])) {f : PD → Out (Option PD)} (hf : ∀ i : Nat, ∀ x, xs[i]? = some x → f (.int (i : Int)) = (m__law_same n x x >>= fun r => truthD r.1 >>= fun b => if (!b) = true then .ok (some (.int (i : Int))) else .ok none)) :
    compP f ((List.range xs.length).map fun i => .int ((i : Nat) : Int)) = .ok [] := by
  have e := compP_map (f := f) (g := fun _ => none) (ds := (List.range xs.length).map fun i => .int ((i : Nat) : Int)) fun d hd => by
    obtain ⟨i, hi, rfl⟩ := List.mem_map.mp hd
    have hi := List.mem_range.mp hi
    have hx := List.getElem?_eq_getElem hi
    rw [hf i _ hx, h _ (List.getElem_mem hi)]
    rfl
  rw [e]
  congr 1
  rw [List.filterMap_eq_nil_iff]
  intro a _
  rfl
theorem eq_nil : eqD (.list []) (.list []) = .ok true := by kernel_rfl
theorem same_ok : ∀ (n : Nat) (d : PD), Good n d → m__law_same n d d = .ok (.bool true, [])
  | 0, d, h => h.elim
  | n + 1, .none, _ => by simp -implicitDefEqProofs only [bind_bind, ok_bind, dOnly_ok, callC_0, callC_1, callC_2, callC_3, callC_n, putC_0, putC_1, putC_2, putC_3, putC_n, unl_l, unn_n, finE_rt, finN_rt, finN_nx, upC_rt, upC_bk, upC_ct, dnC_nx, dnC_rt, seqC_nx, seqC_rt, seqC_bk, seqC_ct, dropC_0, dropC_1, dropC_2, dropC_3, cellL_0, cellL_1, cellL_2, EI, if_true, if_false, Bool.false_eq_true, decide_true, decide_false, Bool.not_true, Bool.not_false, S_nil, reduceIte, List.map_cons, List.map_nil, List.tail_cons, IS, m__law_same]
  | n + 1, .bool true, _ => by simp -implicitDefEqProofs only [bind_bind, ok_bind, dOnly_ok, callC_0, callC_1, callC_2, callC_3, callC_n, putC_0, putC_1, putC_2, putC_3, putC_n, unl_l, unn_n, finE_rt, finN_rt, finN_nx, upC_rt, upC_bk, upC_ct, dnC_nx, dnC_rt, seqC_nx, seqC_rt, seqC_bk, seqC_ct, dropC_0, dropC_1, dropC_2, dropC_3, cellL_0, cellL_1, cellL_2, EI, if_true, if_false, Bool.false_eq_true, decide_true, decide_false, Bool.not_true, Bool.not_false, S_nil, reduceIte, List.map_cons, List.map_nil, List.tail_cons, IS, m__law_same]
  | n + 1, .bool false, _ => by simp -implicitDefEqProofs only [bind_bind, ok_bind, dOnly_ok, callC_0, callC_1, callC_2, callC_3, callC_n, putC_0, putC_1, putC_2, putC_3, putC_n, unl_l, unn_n, finE_rt, finN_rt, finN_nx, upC_rt, upC_bk, upC_ct, dnC_nx, dnC_rt, seqC_nx, seqC_rt, seqC_bk, seqC_ct, dropC_0, dropC_1, dropC_2, dropC_3, cellL_0, cellL_1, cellL_2, EI, if_true, if_false, Bool.false_eq_true, decide_true, decide_false, Bool.not_true, Bool.not_false, S_nil, reduceIte, List.map_cons, List.map_nil, List.tail_cons, IS, m__law_same]
  | n + 1, .int i, _ => by simp -implicitDefEqProofs only [bind_bind, ok_bind, dOnly_ok, callC_0, callC_1, callC_2, callC_3, callC_n, putC_0, putC_1, putC_2, putC_3, putC_n, unl_l, unn_n, finE_rt, finN_rt, finN_nx, upC_rt, upC_bk, upC_ct, dnC_nx, dnC_rt, seqC_nx, seqC_rt, seqC_bk, seqC_ct, dropC_0, dropC_1, dropC_2, dropC_3, cellL_0, cellL_1, cellL_2, EI, if_true, if_false, Bool.false_eq_true, decide_true, decide_false, Bool.not_true, Bool.not_false, S_nil, reduceIte, List.map_cons, List.map_nil, List.tail_cons, IS, m__law_same]
  | n + 1, .str z, h => by
    have hx : Tx z.cps.toList := h
    rw [str_S z]
    simp -implicitDefEqProofs only [bind_bind, ok_bind, dOnly_ok, callC_0, callC_1, callC_2, callC_3, callC_n, putC_0, putC_1, putC_2, putC_3, putC_n, unl_l, unn_n, finE_rt, finN_rt, finN_nx, upC_rt, upC_bk, upC_ct, dnC_nx, dnC_rt, seqC_nx, seqC_rt, seqC_bk, seqC_ct, dropC_0, dropC_1, dropC_2, dropC_3, cellL_0, cellL_1, cellL_2, EI, if_true, if_false, Bool.false_eq_true, decide_true, decide_false, Bool.not_true, Bool.not_false, S_nil, reduceIte, List.map_cons, List.map_nil, List.tail_cons, IS, m__law_same, eqD_S hx hx]
  | n + 1, .tuple xs, h => by
    have ih := fun x hx => same_ok n x (h.2 x hx)
    have hl : xs.length ≤ 1000 := h.1
    have hz : ((List.range xs.length).map fun i => PyData.int ((i : Nat) : Int)).length ≤ sizeLine := by rw [sizeLine_eq, List.length_map, List.length_range]; omega
    simp -implicitDefEqProofs only [bind_bind, ok_bind, dOnly_ok, callC_0, callC_1, callC_2, callC_3, callC_n, putC_0, putC_1, putC_2, putC_3, putC_n, unl_l, unn_n, finE_rt, finN_rt, finN_nx, upC_rt, upC_bk, upC_ct, dnC_nx, dnC_rt, seqC_nx, seqC_rt, seqC_bk, seqC_ct, dropC_0, dropC_1, dropC_2, dropC_3, cellL_0, cellL_1, cellL_2, EI, if_true, if_false, Bool.false_eq_true, decide_true, decide_false, Bool.not_true, Bool.not_false, S_nil, reduceIte, List.map_cons, List.map_nil, List.tail_cons, IS, m__law_same, rangeD_n (n := xs.length) (by omega), lineD_ok hz]
    rw [same_items ih (fun i x hx => by simp -implicitDefEqProofs only [bind_bind, ok_bind, dOnly_ok, callC_0, callC_1, callC_2, callC_3, callC_n, putC_0, putC_1, putC_2, putC_3, putC_n, unl_l, unn_n, finE_rt, finN_rt, finN_nx, upC_rt, upC_bk, upC_ct, dnC_nx, dnC_rt, seqC_nx, seqC_rt, seqC_bk, seqC_ct, dropC_0, dropC_1, dropC_2, dropC_3, cellL_0, cellL_1, cellL_2, EI, if_true, if_false, Bool.false_eq_true, decide_true, decide_false, Bool.not_true, Bool.not_false, S_nil, reduceIte, List.map_cons, List.map_nil, List.tail_cons, IS, idxD_t hx, ap_dd]; rw [ih x (List.mem_of_getElem? hx)]; rfl)]
    simp -implicitDefEqProofs only [bind_bind, ok_bind, dOnly_ok, callC_0, callC_1, callC_2, callC_3, callC_n, putC_0, putC_1, putC_2, putC_3, putC_n, unl_l, unn_n, finE_rt, finN_rt, finN_nx, upC_rt, upC_bk, upC_ct, dnC_nx, dnC_rt, seqC_nx, seqC_rt, seqC_bk, seqC_ct, dropC_0, dropC_1, dropC_2, dropC_3, cellL_0, cellL_1, cellL_2, EI, if_true, if_false, Bool.false_eq_true, decide_true, decide_false, Bool.not_true, Bool.not_false, S_nil, reduceIte, List.map_cons, List.map_nil, List.tail_cons, IS, eq_nil]
    rfl
  | n + 1, .list xs, h => by
    have ih := fun x hx => same_ok n x (h.2 x hx)
    have hl : xs.length ≤ 1000 := h.1
    have hz : ((List.range xs.length).map fun i => PyData.int ((i : Nat) : Int)).length ≤ sizeLine := by rw [sizeLine_eq, List.length_map, List.length_range]; omega
    simp -implicitDefEqProofs only [bind_bind, ok_bind, dOnly_ok, callC_0, callC_1, callC_2, callC_3, callC_n, putC_0, putC_1, putC_2, putC_3, putC_n, unl_l, unn_n, finE_rt, finN_rt, finN_nx, upC_rt, upC_bk, upC_ct, dnC_nx, dnC_rt, seqC_nx, seqC_rt, seqC_bk, seqC_ct, dropC_0, dropC_1, dropC_2, dropC_3, cellL_0, cellL_1, cellL_2, EI, if_true, if_false, Bool.false_eq_true, decide_true, decide_false, Bool.not_true, Bool.not_false, S_nil, reduceIte, List.map_cons, List.map_nil, List.tail_cons, IS, m__law_same, rangeD_n (n := xs.length) (by omega), lineD_ok hz]
    rw [same_items ih (fun i x hx => by simp -implicitDefEqProofs only [bind_bind, ok_bind, dOnly_ok, callC_0, callC_1, callC_2, callC_3, callC_n, putC_0, putC_1, putC_2, putC_3, putC_n, unl_l, unn_n, finE_rt, finN_rt, finN_nx, upC_rt, upC_bk, upC_ct, dnC_nx, dnC_rt, seqC_nx, seqC_rt, seqC_bk, seqC_ct, dropC_0, dropC_1, dropC_2, dropC_3, cellL_0, cellL_1, cellL_2, EI, if_true, if_false, Bool.false_eq_true, decide_true, decide_false, Bool.not_true, Bool.not_false, S_nil, reduceIte, List.map_cons, List.map_nil, List.tail_cons, IS, idxD_l hx, ap_dd]; rw [ih x (List.mem_of_getElem? hx)]; rfl)]
    simp -implicitDefEqProofs only [bind_bind, ok_bind, dOnly_ok, callC_0, callC_1, callC_2, callC_3, callC_n, putC_0, putC_1, putC_2, putC_3, putC_n, unl_l, unn_n, finE_rt, finN_rt, finN_nx, upC_rt, upC_bk, upC_ct, dnC_nx, dnC_rt, seqC_nx, seqC_rt, seqC_bk, seqC_ct, dropC_0, dropC_1, dropC_2, dropC_3, cellL_0, cellL_1, cellL_2, EI, if_true, if_false, Bool.false_eq_true, decide_true, decide_false, Bool.not_true, Bool.not_false, S_nil, reduceIte, List.map_cons, List.map_nil, List.tail_cons, IS, eq_nil]
    rfl
  | n + 1, .dict _, h => h.elim

/-! ### lags -/
def lagL (L R : List Nat) : PD := if L.take R.length = R then .tuple [S (L.drop R.length), S []] else if R.take L.length = L then .tuple [S [], S (R.drop L.length)] else .none
theorem pre_take {A B : List Nat} : A.take B.length = B ↔ B <+: A := by
  rw [List.prefix_iff_eq_take]
  exact ⟨fun h => h.symm, fun h => h.symm⟩
theorem lag_cancel (P A B : List Nat) : lagL (P ++ A) (P ++ B) = lagL A B := by
  unfold lagL
  have e1 : ((P ++ A).take (P ++ B).length = P ++ B) ↔ (A.take B.length = B) := by
    rw [pre_take, pre_take, List.prefix_append_right_inj]
  have e2 : ((P ++ B).take (P ++ A).length = P ++ A) ↔ (B.take A.length = A) := by
    rw [pre_take, pre_take, List.prefix_append_right_inj]
  have d1 : (P ++ A).drop (P ++ B).length = A.drop B.length := by
    rw [List.length_append, List.drop_append, List.drop_eq_nil_of_le (by omega), List.nil_append]; congr 1; omega
  have d2 : (P ++ B).drop (P ++ A).length = B.drop A.length := by
    rw [List.length_append, List.drop_append, List.drop_eq_nil_of_le (by omega), List.nil_append]; congr 1; omega
  simp only [e1, e2, d1, d2]
/-- what a lag is -/
inductive Lag (L R : List Nat) : PD → Prop where
  | left (x : List Nat) : L = R ++ x → Lag L R (.tuple [S x, S []])
  | right (y : List Nat) : R = L ++ y → Lag L R (.tuple [S [], S y])
theorem lag_of {L R : List Nat} (h : lagL L R ≠ .none) : Lag L R (lagL L R) := by
  unfold lagL at h ⊢
  by_cases h1 : L.take R.length = R
  · rw [if_pos h1]
    refine .left _ ?_
    have := List.take_append_drop R.length L
    rw [h1] at this
    exact this.symm
  · rw [if_neg h1] at h ⊢
    by_cases h2 : R.take L.length = L
    · rw [if_pos h2]
      refine .right _ ?_
      have := List.take_append_drop L.length R
      rw [h2] at this
      exact this.symm
    · rw [if_neg h2] at h
      exact (h rfl).elim
theorem lag_step {L R l r x y : List Nat} (h : Lag L R (.tuple [S x, S y])) : lagL (x ++ l) (y ++ r) = lagL (L ++ l) (R ++ r) := by
  generalize e : PyData.tuple [S x, S y] = d at h
  cases h with
  | left z hz =>
    simp only [PyData.tuple.injEq, List.cons.injEq, S_inj, and_true] at e
    obtain ⟨rfl, rfl⟩ := e
    rw [hz, List.append_assoc, lag_cancel, List.nil_append]
  | right z hz =>
    simp only [PyData.tuple.injEq, List.cons.injEq, S_inj, and_true] at e
    obtain ⟨rfl, rfl⟩ := e
    rw [hz, List.append_assoc, lag_cancel, List.nil_append]
theorem lag_none {L R : List Nat} : lagL L R = .none ↔ ¬ (R <+: L) ∧ ¬ (L <+: R) := by
  unfold lagL
  by_cases h1 : L.take R.length = R
  · rw [if_pos h1]
    exact ⟨fun h => (by cases h), fun h => (h.1 (pre_take.mp h1)).elim⟩
  · rw [if_neg h1]
    by_cases h2 : R.take L.length = L
    · rw [if_pos h2]
      exact ⟨fun h => (by cases h), fun h => (h.2 (pre_take.mp h2)).elim⟩
    · rw [if_neg h2]
      exact ⟨fun _ => ⟨fun h => h1 (pre_take.mpr h), fun h => h2 (pre_take.mpr h)⟩, fun _ => rfl⟩
theorem unlike_more {L R : List Nat} (h : lagL L R = .none) (a b : List Nat) : lagL (L ++ a) (R ++ b) = .none := by
  rw [lag_none] at h ⊢
  have key : ∀ {T : List Nat}, L <+: T → R <+: T → False := fun {T} h1 h2 => by
    rcases Nat.le_total L.length R.length with hl | hl
    · exact h.2 (List.prefix_of_prefix_length_le h1 h2 hl)
    · exact h.1 (List.prefix_of_prefix_length_le h2 h1 hl)
  exact ⟨fun q => key (List.prefix_append _ _) ((List.prefix_append _ _).trans q), fun q => key ((List.prefix_append _ _).trans q) (List.prefix_append _ _)⟩
theorem shift_ok {a b l r : List Nat} (h1 : (a ++ l).length ≤ sizeLine) (h2 : (b ++ r).length ≤ sizeLine) (hx : Tx (a ++ l)) (hy : Tx (b ++ r)) : m_shift (.tuple [S a, S b]) (S l) (S r) = .ok (lagL (a ++ l) (b ++ r), []) := by
  have e1 : PyData.str ⟨(a ++ l).toArray⟩ = S (a ++ l) := rfl
  have e2 : PyData.str ⟨(b ++ r).toArray⟩ = S (b ++ r) := rfl
  simp -implicitDefEqProofs only [bind_bind, ok_bind, dOnly_ok, callC_0, callC_1, callC_2, callC_3, callC_n, putC_0, putC_1, putC_2, putC_3, putC_n, unl_l, unn_n, finE_rt, finN_rt, finN_nx, upC_rt, upC_bk, upC_ct, dnC_nx, dnC_rt, seqC_nx, seqC_rt, seqC_bk, seqC_ct, dropC_0, dropC_1, dropC_2, dropC_3, cellL_0, cellL_1, cellL_2, EI, if_true, if_false, Bool.false_eq_true, decide_true, decide_false, Bool.not_true, Bool.not_false, S_nil, reduceIte, List.map_cons, List.map_nil, List.tail_cons, IS, m_shift, addD_S (a := a) (b := l) (by rw [← List.length_append]; exact h1), addD_S (a := b) (b := r) (by rw [← List.length_append]; exact h2), e1, e2, startsD_S]
  unfold lagL
  by_cases q1 : (a ++ l).take (b ++ r).length = b ++ r
  · simp -implicitDefEqProofs only [bind_bind, ok_bind, dOnly_ok, callC_0, callC_1, callC_2, callC_3, callC_n, putC_0, putC_1, putC_2, putC_3, putC_n, unl_l, unn_n, finE_rt, finN_rt, finN_nx, upC_rt, upC_bk, upC_ct, dnC_nx, dnC_rt, seqC_nx, seqC_rt, seqC_bk, seqC_ct, dropC_0, dropC_1, dropC_2, dropC_3, cellL_0, cellL_1, cellL_2, EI, if_true, if_false, Bool.false_eq_true, decide_true, decide_false, Bool.not_true, Bool.not_false, S_nil, reduceIte, List.map_cons, List.map_nil, List.tail_cons, IS, q1, lenD_S h2, cutD_S h1, cutL_lo]
  · by_cases q2 : (b ++ r).take (a ++ l).length = a ++ l
    · simp -implicitDefEqProofs only [bind_bind, ok_bind, dOnly_ok, callC_0, callC_1, callC_2, callC_3, callC_n, putC_0, putC_1, putC_2, putC_3, putC_n, unl_l, unn_n, finE_rt, finN_rt, finN_nx, upC_rt, upC_bk, upC_ct, dnC_nx, dnC_rt, seqC_nx, seqC_rt, seqC_bk, seqC_ct, dropC_0, dropC_1, dropC_2, dropC_3, cellL_0, cellL_1, cellL_2, EI, if_true, if_false, Bool.false_eq_true, decide_true, decide_false, Bool.not_true, Bool.not_false, S_nil, reduceIte, List.map_cons, List.map_nil, List.tail_cons, IS, q1, q2, lenD_S h1, cutD_S h2, cutL_lo]
    · simp -implicitDefEqProofs only [bind_bind, ok_bind, dOnly_ok, callC_0, callC_1, callC_2, callC_3, callC_n, putC_0, putC_1, putC_2, putC_3, putC_n, unl_l, unn_n, finE_rt, finN_rt, finN_nx, upC_rt, upC_bk, upC_ct, dnC_nx, dnC_rt, seqC_nx, seqC_rt, seqC_bk, seqC_ct, dropC_0, dropC_1, dropC_2, dropC_3, cellL_0, cellL_1, cellL_2, EI, if_true, if_false, Bool.false_eq_true, decide_true, decide_false, Bool.not_true, Bool.not_false, S_nil, reduceIte, List.map_cons, List.map_nil, List.tail_cons, IS, q1, q2]
theorem law_lag_ok {l r : List Nat} (h1 : l.length ≤ sizeLine) (h2 : r.length ≤ sizeLine) (hx : Tx l) (hy : Tx r) : m__law_lag (S l) (S r) = .ok (lagL l r, []) := by
  simp -implicitDefEqProofs only [bind_bind, ok_bind, dOnly_ok, callC_0, callC_1, callC_2, callC_3, callC_n, putC_0, putC_1, putC_2, putC_3, putC_n, unl_l, unn_n, finE_rt, finN_rt, finN_nx, upC_rt, upC_bk, upC_ct, dnC_nx, dnC_rt, seqC_nx, seqC_rt, seqC_bk, seqC_ct, dropC_0, dropC_1, dropC_2, dropC_3, cellL_0, cellL_1, cellL_2, EI, if_true, if_false, Bool.false_eq_true, decide_true, decide_false, Bool.not_true, Bool.not_false, S_nil, reduceIte, List.map_cons, List.map_nil, List.tail_cons, IS, m__law_lag, lenD_S h1, lenD_S h2, cutD_S h1, cutD_S h2, cutL_lo, cutL_hi, eqD_S (hx.take r.length) hy, eqD_S (hy.take l.length) hx]
  unfold lagL
  by_cases q1 : l.take r.length = r
  · simp -implicitDefEqProofs only [bind_bind, ok_bind, dOnly_ok, callC_0, callC_1, callC_2, callC_3, callC_n, putC_0, putC_1, putC_2, putC_3, putC_n, unl_l, unn_n, finE_rt, finN_rt, finN_nx, upC_rt, upC_bk, upC_ct, dnC_nx, dnC_rt, seqC_nx, seqC_rt, seqC_bk, seqC_ct, dropC_0, dropC_1, dropC_2, dropC_3, cellL_0, cellL_1, cellL_2, EI, if_true, if_false, Bool.false_eq_true, decide_true, decide_false, Bool.not_true, Bool.not_false, S_nil, reduceIte, List.map_cons, List.map_nil, List.tail_cons, IS, q1, eqD_S (hx.take r.length) hy]
  · by_cases q2 : r.take l.length = l
    · simp -implicitDefEqProofs only [bind_bind, ok_bind, dOnly_ok, callC_0, callC_1, callC_2, callC_3, callC_n, putC_0, putC_1, putC_2, putC_3, putC_n, unl_l, unn_n, finE_rt, finN_rt, finN_nx, upC_rt, upC_bk, upC_ct, dnC_nx, dnC_rt, seqC_nx, seqC_rt, seqC_bk, seqC_ct, dropC_0, dropC_1, dropC_2, dropC_3, cellL_0, cellL_1, cellL_2, EI, if_true, if_false, Bool.false_eq_true, decide_true, decide_false, Bool.not_true, Bool.not_false, S_nil, reduceIte, List.map_cons, List.map_nil, List.tail_cons, IS, q1, q2, eqD_S (hx.take r.length) hy]
    · simp -implicitDefEqProofs only [bind_bind, ok_bind, dOnly_ok, callC_0, callC_1, callC_2, callC_3, callC_n, putC_0, putC_1, putC_2, putC_3, putC_n, unl_l, unn_n, finE_rt, finN_rt, finN_nx, upC_rt, upC_bk, upC_ct, dnC_nx, dnC_rt, seqC_nx, seqC_rt, seqC_bk, seqC_ct, dropC_0, dropC_1, dropC_2, dropC_3, cellL_0, cellL_1, cellL_2, EI, if_true, if_false, Bool.false_eq_true, decide_true, decide_false, Bool.not_true, Bool.not_false, S_nil, reduceIte, List.map_cons, List.map_nil, List.tail_cons, IS, q1, q2]
theorem lag_good {L R : List Nat} (hx : Tx L) (hy : Tx R) : Good 40 (lagL L R) := by
  have key : ∀ x y : List Nat, Tx x → Tx y → Good 40 (.tuple [S x, S y]) := fun x y h1 h2 => by
    refine ⟨by simp, fun z hz => ?_⟩
    have : z = S x ∨ z = S y := by simpa using hz
    rcases this with q | q <;> (rw [q]; show Tx _; simpa [S])
  unfold lagL
  split
  · exact key _ _ (hx.drop _) Tx.nil
  · split
    · exact key _ _ Tx.nil (hy.drop _)
    · trivial
theorem is_lag_ok {x y : List Nat} (hx : Tx x) (hy : Tx y) : m_is_lag (.tuple [S x, S y]) = .ok (.bool (decide (x = [] ∨ y = [])), []) := by
  simp -implicitDefEqProofs only [bind_bind, ok_bind, dOnly_ok, callC_0, callC_1, callC_2, callC_3, callC_n, putC_0, putC_1, putC_2, putC_3, putC_n, unl_l, unn_n, finE_rt, finN_rt, finN_nx, upC_rt, upC_bk, upC_ct, dnC_nx, dnC_rt, seqC_nx, seqC_rt, seqC_bk, seqC_ct, dropC_0, dropC_1, dropC_2, dropC_3, cellL_0, cellL_1, cellL_2, EI, if_true, if_false, Bool.false_eq_true, decide_true, decide_false, Bool.not_true, Bool.not_false, S_nil, reduceIte, List.map_cons, List.map_nil, List.tail_cons, IS, m_is_lag, List.length_cons, List.length_nil, eqD_S hx Tx.nil, eqD_S hy Tx.nil]
  by_cases h1 : x = []
  · simp [h1]
  · by_cases h2 : y = []
    · simp [h1, h2]
    · simp [h1, h2]
theorem S_a : PyData.str "a" = S [97] := by kernel_rfl
theorem S_b : PyData.str "b" = S [98] := by kernel_rfl
def Step (k : Nat) (d : PD) : Prop := ∃ a b : List Nat, d = .tuple [S a, S b] ∧ a.length ≤ k ∧ b.length ≤ k ∧ Tx a ∧ Tx b
theorem follows_ok {steps : List PD} (hs : ∀ d ∈ steps, Step 5 d) (hl : steps.length ≤ 12) : Ok (m__law_follows (.list steps)) fun r => r = (.bool true, []) := by
  simp -implicitDefEqProofs only [bind_bind, ok_bind, dOnly_ok, callC_0, callC_1, callC_2, callC_3, callC_n, putC_0, putC_1, putC_2, putC_3, putC_n, unl_l, unn_n, finE_rt, finN_rt, finN_nx, upC_rt, upC_bk, upC_ct, dnC_nx, dnC_rt, seqC_nx, seqC_rt, seqC_bk, seqC_ct, dropC_0, dropC_1, dropC_2, dropC_3, cellL_0, cellL_1, cellL_2, EI, if_true, if_false, Bool.false_eq_true, decide_true, decide_false, Bool.not_true, Bool.not_false, S_nil, reduceIte, List.map_cons, List.map_nil, List.tail_cons, IS, m__law_follows]
  refine Ok.bind (forM_OkR (fun r (l : PD × PD × PD) => ∃ L R x y, l = (S L, S R, .tuple [S x, S y]) ∧ Lag L R (.tuple [S x, S y]) ∧ Tx L ∧ Tx R ∧ L.length + 5 * r.length ≤ 60 ∧ R.length + 5 * r.length ≤ 60 ∧ ∀ d ∈ r, Step 5 d) (fun x => x = (.bool true, [])) ?_ ?_) ?_
  · exact ⟨[], [], [], [], rfl, .left [] rfl, Tx.nil, Tx.nil, by simp; omega, by simp; omega, hs⟩
  · rintro d r _ ⟨L, R, x, y, rfl, hg, hL, hR, nL, nR, hd⟩
    obtain ⟨a, b, rfl, na, nb, ta, tb⟩ := hd d List.mem_cons_self
    rw [List.length_cons] at nL nR
    obtain ⟨nx, ny, tx, ty⟩ : x.length ≤ L.length ∧ y.length ≤ R.length ∧ Tx x ∧ Tx y := by
      generalize e : PyData.tuple [S x, S y] = d at hg
      cases hg with
      | left z hz =>
        simp only [PyData.tuple.injEq, List.cons.injEq, S_inj, and_true] at e
        obtain ⟨rfl, rfl⟩ := e
        exact ⟨by rw [hz]; simp, by simp, hL.sub fun c m => by rw [hz]; simp [m], Tx.nil⟩
      | right z hz =>
        simp only [PyData.tuple.injEq, List.cons.injEq, S_inj, and_true] at e
        obtain ⟨rfl, rfl⟩ := e
        exact ⟨by simp, by rw [hz]; simp, Tx.nil, hR.sub fun c m => by rw [hz]; simp [m]⟩
    have sz : ∀ z : List Nat, z.length ≤ 1000 → z.length ≤ sizeLine := fun z h => by rw [sizeLine_eq]; omega
    have lLa : (L ++ a).length ≤ 1000 := by rw [List.length_append]; omega
    have lRb : (R ++ b).length ≤ 1000 := by rw [List.length_append]; omega
    have lxa : (x ++ a).length ≤ 1000 := by rw [List.length_append]; omega
    have lyb : (y ++ b).length ≤ 1000 := by rw [List.length_append]; omega
    have tLa := hL.app ta
    have tRb := hR.app tb
    have hlag := law_lag_ok (sz _ lLa) (sz _ lRb) tLa tRb
    have hs1 := shift_ok (a := x) (l := a) (b := y) (r := b) (sz _ lxa) (sz _ lyb) (tx.app ta) (ty.app tb)
    rw [lag_step hg] at hs1
    have hs2 := shift_ok (a := []) (l := L ++ a) (b := []) (r := R ++ b) (sz _ lLa) (sz _ lRb) tLa tRb
    rw [List.nil_append, List.nil_append] at hs2
    have hsame := same_ok 40 _ (lag_good tLa tRb)
    have hN : c_NO_LAG = .tuple [S [], S []] := by rw [← S_nil]; rfl
    simp -implicitDefEqProofs only [bind_bind, ok_bind, dOnly_ok, callC_0, callC_1, callC_2, callC_3, callC_n, putC_0, putC_1, putC_2, putC_3, putC_n, unl_l, unn_n, finE_rt, finN_rt, finN_nx, upC_rt, upC_bk, upC_ct, dnC_nx, dnC_rt, seqC_nx, seqC_rt, seqC_bk, seqC_ct, dropC_0, dropC_1, dropC_2, dropC_3, cellL_0, cellL_1, cellL_2, EI, if_true, if_false, Bool.false_eq_true, decide_true, decide_false, Bool.not_true, Bool.not_false, S_nil, reduceIte, List.map_cons, List.map_nil, List.tail_cons, IS, addD_S (a := L) (b := a) (by rw [sizeLine_eq]; omega), addD_S (a := R) (b := b) (by rw [sizeLine_eq]; omega), ap_d, ap_dd, ap_ddd, hlag, hs1, hs2, hsame, hN]
    by_cases hn : lagL (L ++ a) (R ++ b) = .none
    · -- unlike
      have ls1 : (L ++ a ++ [97]).length ≤ 1000 := by simp; omega
      have ls2 : (R ++ b ++ [98]).length ≤ 1000 := by simp; omega
      have ls3 : (L ++ a ++ (R ++ b)).length ≤ 1000 := by simp; omega
      have u1 := unlike_more hn [97] [98]
      have u2 := unlike_more hn (R ++ b) []
      rw [List.append_nil] at u2
      have tx97 : Tx (L ++ a ++ [97]) := tLa.app (by unfold Tx; decide)
      have tx98 : Tx (R ++ b ++ [98]) := tRb.app (by unfold Tx; decide)
      have hs3 := shift_ok (a := []) (l := L ++ a ++ [97]) (b := []) (r := R ++ b ++ [98]) (sz _ ls1) (sz _ ls2) tx97 tx98
      have hs4 := shift_ok (a := []) (l := L ++ a ++ (R ++ b)) (b := []) (r := R ++ b) (sz _ ls3) (sz _ lRb) (tLa.app tRb) tRb
      rw [List.nil_append, List.nil_append, u1] at hs3
      rw [List.nil_append, List.nil_append, u2] at hs4
      have a1 := addD_S (a := L ++ a) (b := [97]) (by rw [← List.length_append]; exact sz _ ls1)
      have a2 := addD_S (a := R ++ b) (b := [98]) (by rw [← List.length_append]; exact sz _ ls2)
      have a3 := addD_S (a := L ++ a) (b := R ++ b) (by rw [← List.length_append]; exact sz _ ls3)
      simp -implicitDefEqProofs only [bind_bind, ok_bind, dOnly_ok, callC_0, callC_1, callC_2, callC_3, callC_n, putC_0, putC_1, putC_2, putC_3, putC_n, unl_l, unn_n, finE_rt, finN_rt, finN_nx, upC_rt, upC_bk, upC_ct, dnC_nx, dnC_rt, seqC_nx, seqC_rt, seqC_bk, seqC_ct, dropC_0, dropC_1, dropC_2, dropC_3, cellL_0, cellL_1, cellL_2, EI, if_true, if_false, Bool.false_eq_true, decide_true, decide_false, Bool.not_true, Bool.not_false, S_nil, reduceIte, List.map_cons, List.map_nil, List.tail_cons, IS, hn, S_a, S_b, a1, a2, a3, ap_ddd, hs3, hs4]
      exact .ret (.inr ⟨_, rfl, rfl⟩)
    · have hg2 := lag_of hn
      have hx2 : ∃ x' y', lagL (L ++ a) (R ++ b) = .tuple [S x', S y'] ∧ (x' = [] ∨ y' = []) ∧ Tx x' ∧ Tx y' ∧ x'.length ≤ 1000 ∧ y'.length ≤ 1000 ∧ lagL x' y' = .tuple [S x', S y'] := by
        generalize lagL (L ++ a) (R ++ b) = d at hg2
        cases hg2 with
        | left z hz =>
          refine ⟨z, [], rfl, .inr rfl, tLa.sub fun c m => by rw [hz]; simp [m], Tx.nil, ?_, by simp, ?_⟩
          · have := congrArg List.length hz
            rw [List.length_append (as := R ++ b)] at this
            omega
          · unfold lagL
            rw [if_pos (by simp)]
            simp
        | right z hz =>
          refine ⟨[], z, rfl, .inl rfl, Tx.nil, tRb.sub fun c m => by rw [hz]; simp [m], by simp, ?_, ?_⟩
          · have := congrArg List.length hz
            rw [List.length_append (as := L ++ a)] at this
            omega
          · unfold lagL
            by_cases hz0 : z = []
            · subst hz0; simp
            · rw [if_neg (by simpa using Ne.symm hz0), if_pos (by simp)]
              simp
      obtain ⟨x', y', e, hor, tx', ty', lx', ly', hself⟩ := hx2
      have hs3 := shift_ok (a := x') (l := []) (b := y') (r := []) (sz _ (by simpa using lx')) (sz _ (by simpa using ly')) (by simpa using tx') (by simpa using ty')
      rw [List.append_nil, List.append_nil, hself] at hs3
      have hil := is_lag_ok tx' ty'
      rw [decide_eq_true hor] at hil
      rw [e] at hsame hg2 ⊢
      simp -implicitDefEqProofs only [bind_bind, ok_bind, dOnly_ok, callC_0, callC_1, callC_2, callC_3, callC_n, putC_0, putC_1, putC_2, putC_3, putC_n, unl_l, unn_n, finE_rt, finN_rt, finN_nx, upC_rt, upC_bk, upC_ct, dnC_nx, dnC_rt, seqC_nx, seqC_rt, seqC_bk, seqC_ct, dropC_0, dropC_1, dropC_2, dropC_3, cellL_0, cellL_1, cellL_2, EI, if_true, if_false, Bool.false_eq_true, decide_true, decide_false, Bool.not_true, Bool.not_false, S_nil, reduceIte, List.map_cons, List.map_nil, List.tail_cons, IS, ap_d, ap_dd, ap_ddd, hil, hs3, hsame]
      exact .ret (.inl ⟨_, .inl rfl, L ++ a, R ++ b, x', y', rfl, hg2, tLa, tRb, by rw [List.length_append]; omega, by rw [List.length_append]; omega, fun d m => hd d (List.mem_cons_of_mem _ m)⟩)
  · rintro c (⟨l', rfl, L, R, x, y, rfl, _⟩ | ⟨r, rfl, rfl⟩)
    · simp -implicitDefEqProofs only [bind_bind, ok_bind, dOnly_ok, callC_0, callC_1, callC_2, callC_3, callC_n, putC_0, putC_1, putC_2, putC_3, putC_n, unl_l, unn_n, finE_rt, finN_rt, finN_nx, upC_rt, upC_bk, upC_ct, dnC_nx, dnC_rt, seqC_nx, seqC_rt, seqC_bk, seqC_ct, dropC_0, dropC_1, dropC_2, dropC_3, cellL_0, cellL_1, cellL_2, EI, if_true, if_false, Bool.false_eq_true, decide_true, decide_false, Bool.not_true, Bool.not_false, S_nil, reduceIte, List.map_cons, List.map_nil, List.tail_cons, IS]
      exact .ret rfl
    · simp -implicitDefEqProofs only [bind_bind, ok_bind, dOnly_ok, callC_0, callC_1, callC_2, callC_3, callC_n, putC_0, putC_1, putC_2, putC_3, putC_n, unl_l, unn_n, finE_rt, finN_rt, finN_nx, upC_rt, upC_bk, upC_ct, dnC_nx, dnC_rt, seqC_nx, seqC_rt, seqC_bk, seqC_ct, dropC_0, dropC_1, dropC_2, dropC_3, cellL_0, cellL_1, cellL_2, EI, if_true, if_false, Bool.false_eq_true, decide_true, decide_false, Bool.not_true, Bool.not_false, S_nil, reduceIte, List.map_cons, List.map_nil, List.tail_cons, IS]
      exact .ret rfl
theorem steps_ok {l : List PD} (h : Pool l) {t o : List Nat} (ht : Tx t) (ho : Tx o) (nt : t.length ≤ 60) (no : o.length ≤ 60) : Ok (m__law_steps_of l (S t) (S o)) fun r => ∃ steps l', r = (.list steps, [.l l']) ∧ (∀ d ∈ steps, Step 5 d) ∧ steps.length ≤ 12 ∧ Pool l' := by
  have zt : t.length ≤ sizeLine := by rw [sizeLine_eq]; omega
  have zo : o.length ≤ sizeLine := by rw [sizeLine_eq]; omega
  simp -implicitDefEqProofs only [bind_bind, ok_bind, dOnly_ok, callC_0, callC_1, callC_2, callC_3, callC_n, putC_0, putC_1, putC_2, putC_3, putC_n, unl_l, unn_n, finE_rt, finN_rt, finN_nx, upC_rt, upC_bk, upC_ct, dnC_nx, dnC_rt, seqC_nx, seqC_rt, seqC_bk, seqC_ct, dropC_0, dropC_1, dropC_2, dropC_3, cellL_0, cellL_1, cellL_2, EI, if_true, if_false, Bool.false_eq_true, decide_true, decide_false, Bool.not_true, Bool.not_false, S_nil, reduceIte, List.map_cons, List.map_nil, List.tail_cons, IS, m__law_steps_of, ap_cd]
  refine Ok.bind (draw_Ok h (n := 13) (by decide) (by decide)) ?_
  rintro _ ⟨k, l1, rfl, hk, h1⟩
  simp -implicitDefEqProofs only [bind_bind, ok_bind, dOnly_ok, callC_0, callC_1, callC_2, callC_3, callC_n, putC_0, putC_1, putC_2, putC_3, putC_n, unl_l, unn_n, finE_rt, finN_rt, finN_nx, upC_rt, upC_bk, upC_ct, dnC_nx, dnC_rt, seqC_nx, seqC_rt, seqC_bk, seqC_ct, dropC_0, dropC_1, dropC_2, dropC_3, cellL_0, cellL_1, cellL_2, EI, if_true, if_false, Bool.false_eq_true, decide_true, decide_false, Bool.not_true, Bool.not_false, S_nil, reduceIte, List.map_cons, List.map_nil, List.tail_cons, IS, rangeD_n (n := k) (by omega)]
  refine Ok.bind (forM_Ok (fun r (x : PD × PD × List CO) => ∃ (i j : Nat) (st lp : List PD), x = (.int i, .int j, [.l st, .l lp]) ∧ (∀ d ∈ st, Step 5 d) ∧ st.length + r.length ≤ 12 ∧ Pool lp) ?_ ?_) ?_
  · exact ⟨0, 0, [], l1, rfl, fun d m => (by cases m), by simp; omega, h1⟩
  · rintro d r _ ⟨i, j, st, lp, rfl, hst, hn, hp⟩
    rw [List.length_cons] at hn
    simp -implicitDefEqProofs only [bind_bind, ok_bind, dOnly_ok, callC_0, callC_1, callC_2, callC_3, callC_n, putC_0, putC_1, putC_2, putC_3, putC_n, unl_l, unn_n, finE_rt, finN_rt, finN_nx, upC_rt, upC_bk, upC_ct, dnC_nx, dnC_rt, seqC_nx, seqC_rt, seqC_bk, seqC_ct, dropC_0, dropC_1, dropC_2, dropC_3, cellL_0, cellL_1, cellL_2, EI, if_true, if_false, Bool.false_eq_true, decide_true, decide_false, Bool.not_true, Bool.not_false, S_nil, reduceIte, List.map_cons, List.map_nil, List.tail_cons, IS, ap_cd]
    refine Ok.bind (draw_Ok hp (n := 6) (by decide) (by decide)) ?_
    rintro _ ⟨k1, l2, rfl, hk1, h2⟩
    simp -implicitDefEqProofs only [bind_bind, ok_bind, dOnly_ok, callC_0, callC_1, callC_2, callC_3, callC_n, putC_0, putC_1, putC_2, putC_3, putC_n, unl_l, unn_n, finE_rt, finN_rt, finN_nx, upC_rt, upC_bk, upC_ct, dnC_nx, dnC_rt, seqC_nx, seqC_rt, seqC_bk, seqC_ct, dropC_0, dropC_1, dropC_2, dropC_3, cellL_0, cellL_1, cellL_2, EI, if_true, if_false, Bool.false_eq_true, decide_true, decide_false, Bool.not_true, Bool.not_false, S_nil, reduceIte, List.map_cons, List.map_nil, List.tail_cons, IS, ap_cd]
    refine Ok.bind (draw_Ok h2 (n := 6) (by decide) (by decide)) ?_
    rintro _ ⟨k2, l3, rfl, hk2, h3⟩
    have e1 : ((i : Int) + (k1 : Int)) = ((i + k1 : Nat) : Int) := by omega
    have e2 : ((j : Int) + (k2 : Int)) = ((j + k2 : Nat) : Int) := by omega
    simp -implicitDefEqProofs only [bind_bind, ok_bind, dOnly_ok, callC_0, callC_1, callC_2, callC_3, callC_n, putC_0, putC_1, putC_2, putC_3, putC_n, unl_l, unn_n, finE_rt, finN_rt, finN_nx, upC_rt, upC_bk, upC_ct, dnC_nx, dnC_rt, seqC_nx, seqC_rt, seqC_bk, seqC_ct, dropC_0, dropC_1, dropC_2, dropC_3, cellL_0, cellL_1, cellL_2, EI, if_true, if_false, Bool.false_eq_true, decide_true, decide_false, Bool.not_true, Bool.not_false, S_nil, reduceIte, List.map_cons, List.map_nil, List.tail_cons, IS, ap_cd, cutD_S zt, cutD_S zo, e1, e2, cutL_lh, appD_ok (ds := st) (by rw [sizeLine_eq]; omega)]
    refine .ret ⟨_, .inl rfl, i + k1, j + k2, _, l3, rfl, fun d m => ?_, by simp; omega, h3⟩
    rcases List.mem_append.mp m with m | m
    · exact hst d m
    · rw [List.mem_singleton.mp m]
      exact ⟨_, _, rfl, by rw [List.length_take]; omega, by rw [List.length_take]; omega, (ht.drop _).take _, (ho.drop _).take _⟩
  · rintro _ ⟨_, rfl, i, j, st, lp, rfl, hst, hn, hp⟩
    simp -implicitDefEqProofs only [bind_bind, ok_bind, dOnly_ok, callC_0, callC_1, callC_2, callC_3, callC_n, putC_0, putC_1, putC_2, putC_3, putC_n, unl_l, unn_n, finE_rt, finN_rt, finN_nx, upC_rt, upC_bk, upC_ct, dnC_nx, dnC_rt, seqC_nx, seqC_rt, seqC_bk, seqC_ct, dropC_0, dropC_1, dropC_2, dropC_3, cellL_0, cellL_1, cellL_2, EI, if_true, if_false, Bool.false_eq_true, decide_true, decide_false, Bool.not_true, Bool.not_false, S_nil, reduceIte, List.map_cons, List.map_nil, List.tail_cons, IS]
    exact .ret ⟨st, lp, rfl, hst, by simpa using hn, hp⟩
theorem both_eq {x y : List Nat} (hy : Tx y) : (if decide (x = []) = true then Out.ok (PyData.bool true) else eqD (S y) (S []) >>= fun t4 => Out.ok (PyData.bool t4)) = .ok (.bool (decide (x = [] ∨ y = []))) := by
  rw [eqD_S hy Tx.nil]
  by_cases h1 : x = []
  · simp [h1]
  · by_cases h2 : y = []
    · simp [h1, h2]
    · simp [h1, h2]
theorem isl_l {xs : List PD} : m_is_lag (.list xs) = .ok (.bool false, []) := by simp -implicitDefEqProofs only [bind_bind, ok_bind, dOnly_ok, callC_0, callC_1, callC_2, callC_3, callC_n, putC_0, putC_1, putC_2, putC_3, putC_n, unl_l, unn_n, finE_rt, finN_rt, finN_nx, upC_rt, upC_bk, upC_ct, dnC_nx, dnC_rt, seqC_nx, seqC_rt, seqC_bk, seqC_ct, dropC_0, dropC_1, dropC_2, dropC_3, cellL_0, cellL_1, cellL_2, EI, if_true, if_false, Bool.false_eq_true, decide_true, decide_false, Bool.not_true, Bool.not_false, S_nil, reduceIte, List.map_cons, List.map_nil, List.tail_cons, IS, m_is_lag]
theorem isl_n : m_is_lag .none = .ok (.bool false, []) := by simp -implicitDefEqProofs only [bind_bind, ok_bind, dOnly_ok, callC_0, callC_1, callC_2, callC_3, callC_n, putC_0, putC_1, putC_2, putC_3, putC_n, unl_l, unn_n, finE_rt, finN_rt, finN_nx, upC_rt, upC_bk, upC_ct, dnC_nx, dnC_rt, seqC_nx, seqC_rt, seqC_bk, seqC_ct, dropC_0, dropC_1, dropC_2, dropC_3, cellL_0, cellL_1, cellL_2, EI, if_true, if_false, Bool.false_eq_true, decide_true, decide_false, Bool.not_true, Bool.not_false, S_nil, reduceIte, List.map_cons, List.map_nil, List.tail_cons, IS, m_is_lag]
theorem isl_S {a : List Nat} : m_is_lag (S a) = .ok (.bool false, []) := by simp -implicitDefEqProofs only [bind_bind, ok_bind, dOnly_ok, callC_0, callC_1, callC_2, callC_3, callC_n, putC_0, putC_1, putC_2, putC_3, putC_n, unl_l, unn_n, finE_rt, finN_rt, finN_nx, upC_rt, upC_bk, upC_ct, dnC_nx, dnC_rt, seqC_nx, seqC_rt, seqC_bk, seqC_ct, dropC_0, dropC_1, dropC_2, dropC_3, cellL_0, cellL_1, cellL_2, EI, if_true, if_false, Bool.false_eq_true, decide_true, decide_false, Bool.not_true, Bool.not_false, S_nil, reduceIte, List.map_cons, List.map_nil, List.tail_cons, IS, m_is_lag]
theorem isl_i {a : Int} : m_is_lag (.int a) = .ok (.bool false, []) := by simp -implicitDefEqProofs only [bind_bind, ok_bind, dOnly_ok, callC_0, callC_1, callC_2, callC_3, callC_n, putC_0, putC_1, putC_2, putC_3, putC_n, unl_l, unn_n, finE_rt, finN_rt, finN_nx, upC_rt, upC_bk, upC_ct, dnC_nx, dnC_rt, seqC_nx, seqC_rt, seqC_bk, seqC_ct, dropC_0, dropC_1, dropC_2, dropC_3, cellL_0, cellL_1, cellL_2, EI, if_true, if_false, Bool.false_eq_true, decide_true, decide_false, Bool.not_true, Bool.not_false, S_nil, reduceIte, List.map_cons, List.map_nil, List.tail_cons, IS, m_is_lag]
theorem isl_b {a : Bool} : m_is_lag (.bool a) = .ok (.bool false, []) := by simp -implicitDefEqProofs only [bind_bind, ok_bind, dOnly_ok, callC_0, callC_1, callC_2, callC_3, callC_n, putC_0, putC_1, putC_2, putC_3, putC_n, unl_l, unn_n, finE_rt, finN_rt, finN_nx, upC_rt, upC_bk, upC_ct, dnC_nx, dnC_rt, seqC_nx, seqC_rt, seqC_bk, seqC_ct, dropC_0, dropC_1, dropC_2, dropC_3, cellL_0, cellL_1, cellL_2, EI, if_true, if_false, Bool.false_eq_true, decide_true, decide_false, Bool.not_true, Bool.not_false, S_nil, reduceIte, List.map_cons, List.map_nil, List.tail_cons, IS, m_is_lag]
theorem isl_t0 : m_is_lag (.tuple []) = .ok (.bool false, []) := by simp -implicitDefEqProofs only [bind_bind, ok_bind, dOnly_ok, callC_0, callC_1, callC_2, callC_3, callC_n, putC_0, putC_1, putC_2, putC_3, putC_n, unl_l, unn_n, finE_rt, finN_rt, finN_nx, upC_rt, upC_bk, upC_ct, dnC_nx, dnC_rt, seqC_nx, seqC_rt, seqC_bk, seqC_ct, dropC_0, dropC_1, dropC_2, dropC_3, cellL_0, cellL_1, cellL_2, EI, if_true, if_false, Bool.false_eq_true, decide_true, decide_false, Bool.not_true, Bool.not_false, S_nil, reduceIte, List.map_cons, List.map_nil, List.tail_cons, IS, m_is_lag, List.length_nil]; rfl
theorem isl_t1 {a : PD} : m_is_lag (.tuple [a]) = .ok (.bool false, []) := by simp -implicitDefEqProofs only [bind_bind, ok_bind, dOnly_ok, callC_0, callC_1, callC_2, callC_3, callC_n, putC_0, putC_1, putC_2, putC_3, putC_n, unl_l, unn_n, finE_rt, finN_rt, finN_nx, upC_rt, upC_bk, upC_ct, dnC_nx, dnC_rt, seqC_nx, seqC_rt, seqC_bk, seqC_ct, dropC_0, dropC_1, dropC_2, dropC_3, cellL_0, cellL_1, cellL_2, EI, if_true, if_false, Bool.false_eq_true, decide_true, decide_false, Bool.not_true, Bool.not_false, S_nil, reduceIte, List.map_cons, List.map_nil, List.tail_cons, IS, m_is_lag, List.length_nil, List.length_cons]; rfl
theorem isl_t3 {a b c : PD} : m_is_lag (.tuple [a, b, c]) = .ok (.bool false, []) := by simp -implicitDefEqProofs only [bind_bind, ok_bind, dOnly_ok, callC_0, callC_1, callC_2, callC_3, callC_n, putC_0, putC_1, putC_2, putC_3, putC_n, unl_l, unn_n, finE_rt, finN_rt, finN_nx, upC_rt, upC_bk, upC_ct, dnC_nx, dnC_rt, seqC_nx, seqC_rt, seqC_bk, seqC_ct, dropC_0, dropC_1, dropC_2, dropC_3, cellL_0, cellL_1, cellL_2, EI, if_true, if_false, Bool.false_eq_true, decide_true, decide_false, Bool.not_true, Bool.not_false, S_nil, reduceIte, List.map_cons, List.map_nil, List.tail_cons, IS, m_is_lag, List.length_nil, List.length_cons]; rfl
theorem isl_si {a : List Nat} {i : Int} : m_is_lag (.tuple [S a, .int i]) = .ok (.bool false, []) := by simp -implicitDefEqProofs only [bind_bind, ok_bind, dOnly_ok, callC_0, callC_1, callC_2, callC_3, callC_n, putC_0, putC_1, putC_2, putC_3, putC_n, unl_l, unn_n, finE_rt, finN_rt, finN_nx, upC_rt, upC_bk, upC_ct, dnC_nx, dnC_rt, seqC_nx, seqC_rt, seqC_bk, seqC_ct, dropC_0, dropC_1, dropC_2, dropC_3, cellL_0, cellL_1, cellL_2, EI, if_true, if_false, Bool.false_eq_true, decide_true, decide_false, Bool.not_true, Bool.not_false, S_nil, reduceIte, List.map_cons, List.map_nil, List.tail_cons, IS, m_is_lag, List.length_nil, List.length_cons]; rfl
theorem isl_ns {a : List Nat} : m_is_lag (.tuple [.none, S a]) = .ok (.bool false, []) := by simp -implicitDefEqProofs only [bind_bind, ok_bind, dOnly_ok, callC_0, callC_1, callC_2, callC_3, callC_n, putC_0, putC_1, putC_2, putC_3, putC_n, unl_l, unn_n, finE_rt, finN_rt, finN_nx, upC_rt, upC_bk, upC_ct, dnC_nx, dnC_rt, seqC_nx, seqC_rt, seqC_bk, seqC_ct, dropC_0, dropC_1, dropC_2, dropC_3, cellL_0, cellL_1, cellL_2, EI, if_true, if_false, Bool.false_eq_true, decide_true, decide_false, Bool.not_true, Bool.not_false, S_nil, reduceIte, List.map_cons, List.map_nil, List.tail_cons, IS, m_is_lag, List.length_nil, List.length_cons]; rfl
theorem isl_ts {a : List Nat} {xs : List PD} : m_is_lag (.tuple [.tuple xs, S a]) = .ok (.bool false, []) := by simp -implicitDefEqProofs only [bind_bind, ok_bind, dOnly_ok, callC_0, callC_1, callC_2, callC_3, callC_n, putC_0, putC_1, putC_2, putC_3, putC_n, unl_l, unn_n, finE_rt, finN_rt, finN_nx, upC_rt, upC_bk, upC_ct, dnC_nx, dnC_rt, seqC_nx, seqC_rt, seqC_bk, seqC_ct, dropC_0, dropC_1, dropC_2, dropC_3, cellL_0, cellL_1, cellL_2, EI, if_true, if_false, Bool.false_eq_true, decide_true, decide_false, Bool.not_true, Bool.not_false, S_nil, reduceIte, List.map_cons, List.map_nil, List.tail_cons, IS, m_is_lag, List.length_nil, List.length_cons]; rfl
theorem judges_ok {x y : List Nat} (hx : Tx x) (hy : Tx y) : Ok (m__law_judges (S x) (S y)) fun r => r = (.bool true, []) := by
  have hs := same_ok 40 (.list [.bool true, .bool true, .bool (decide (x = [] ∨ y = []))]) ⟨by simp, fun z hz => by
    have : z = .bool true ∨ z = .bool (decide (x = [] ∨ y = [])) := by simpa using hz
    rcases this with q | q <;> (rw [q]; trivial)⟩
  have i1 := is_lag_ok hx Tx.nil
  have i2 := is_lag_ok Tx.nil hy
  have i3 := is_lag_ok hx hy
  rw [decide_eq_true (.inr rfl)] at i1
  rw [decide_eq_true (.inl rfl)] at i2
  simp -implicitDefEqProofs only [bind_bind, ok_bind, dOnly_ok, callC_0, callC_1, callC_2, callC_3, callC_n, putC_0, putC_1, putC_2, putC_3, putC_n, unl_l, unn_n, finE_rt, finN_rt, finN_nx, upC_rt, upC_bk, upC_ct, dnC_nx, dnC_rt, seqC_nx, seqC_rt, seqC_bk, seqC_ct, dropC_0, dropC_1, dropC_2, dropC_3, cellL_0, cellL_1, cellL_2, EI, if_true, if_false, Bool.false_eq_true, decide_true, decide_false, Bool.not_true, Bool.not_false, S_nil, reduceIte, List.map_cons, List.map_nil, List.tail_cons, IS, m__law_judges, ap_d, ap_dd, eqD_S hx Tx.nil]
  rw [both_eq hy]
  have hl : ∀ xs : List PD, xs.length ≤ 1000 → lineD xs = .ok xs := fun xs h => lineD_ok (by rw [sizeLine_eq]; omega)
  simp -implicitDefEqProofs only [bind_bind, ok_bind, dOnly_ok, callC_0, callC_1, callC_2, callC_3, callC_n, putC_0, putC_1, putC_2, putC_3, putC_n, unl_l, unn_n, finE_rt, finN_rt, finN_nx, upC_rt, upC_bk, upC_ct, dnC_nx, dnC_rt, seqC_nx, seqC_rt, seqC_bk, seqC_ct, dropC_0, dropC_1, dropC_2, dropC_3, cellL_0, cellL_1, cellL_2, EI, if_true, if_false, Bool.false_eq_true, decide_true, decide_false, Bool.not_true, Bool.not_false, S_nil, reduceIte, List.map_cons, List.map_nil, List.tail_cons, IS, i1, i2, i3, hs]
  rw [hl _ (by simp)]
  simp -implicitDefEqProofs only [bind_bind, ok_bind, dOnly_ok, callC_0, callC_1, callC_2, callC_3, callC_n, putC_0, putC_1, putC_2, putC_3, putC_n, unl_l, unn_n, finE_rt, finN_rt, finN_nx, upC_rt, upC_bk, upC_ct, dnC_nx, dnC_rt, seqC_nx, seqC_rt, seqC_bk, seqC_ct, dropC_0, dropC_1, dropC_2, dropC_3, cellL_0, cellL_1, cellL_2, EI, if_true, if_false, Bool.false_eq_true, decide_true, decide_false, Bool.not_true, Bool.not_false, S_nil, reduceIte, List.map_cons, List.map_nil, List.tail_cons, IS]
  rw [compP_map (g := fun _ => none) (fun d hd => ?_)]
  · simp -implicitDefEqProofs only [bind_bind, ok_bind, dOnly_ok, callC_0, callC_1, callC_2, callC_3, callC_n, putC_0, putC_1, putC_2, putC_3, putC_n, unl_l, unn_n, finE_rt, finN_rt, finN_nx, upC_rt, upC_bk, upC_ct, dnC_nx, dnC_rt, seqC_nx, seqC_rt, seqC_bk, seqC_ct, dropC_0, dropC_1, dropC_2, dropC_3, cellL_0, cellL_1, cellL_2, EI, if_true, if_false, Bool.false_eq_true, decide_true, decide_false, Bool.not_true, Bool.not_false, S_nil, reduceIte, List.map_cons, List.map_nil, List.tail_cons, IS, List.filterMap_cons, List.filterMap_nil, eq_nil]
    exact .ret rfl
  · have e : m_is_lag d = .ok (.bool false, []) := by
      simp only [List.mem_cons, List.not_mem_nil, or_false] at hd
      rcases hd with q | q | q | q | q | q | q | q | q | q | q | q <;> (rw [q]; first | exact isl_l | exact isl_n | exact isl_S | exact isl_i | exact isl_b | exact isl_t0 | exact isl_t1 | exact isl_t3 | exact isl_si | exact isl_ns | exact isl_ts)
    simp -implicitDefEqProofs only [bind_bind, ok_bind, dOnly_ok, callC_0, callC_1, callC_2, callC_3, callC_n, putC_0, putC_1, putC_2, putC_3, putC_n, unl_l, unn_n, finE_rt, finN_rt, finN_nx, upC_rt, upC_bk, upC_ct, dnC_nx, dnC_rt, seqC_nx, seqC_rt, seqC_bk, seqC_ct, dropC_0, dropC_1, dropC_2, dropC_3, cellL_0, cellL_1, cellL_2, EI, if_true, if_false, Bool.false_eq_true, decide_true, decide_false, Bool.not_true, Bool.not_false, S_nil, reduceIte, List.map_cons, List.map_nil, List.tail_cons, IS, e]
def lcp : List Nat → List Nat → Nat
  | a :: as, b :: bs => if a = b then lcp as bs + 1 else 0
  | _, _ => 0
theorem lcp_le : ∀ a b, lcp a b ≤ a.length
  | [], _ => by simp [lcp]
  | _ :: _, [] => by simp [lcp]
  | a :: as, b :: bs => by
    unfold lcp
    have := lcp_le as bs
    split <;> simp <;> omega
theorem lcp_iff : ∀ (a b : List Nat) (j : Nat), j ≤ a.length → (b.take j = a.take j ↔ j ≤ lcp a b)
  | _, _, 0, _ => by simp
  | [], _, j + 1, h => by simp at h
  | _ :: _, [], j + 1, h => by simp [lcp]
  | a :: as, b :: bs, j + 1, h => by
    have ih := lcp_iff as bs j (by simpa using h)
    unfold lcp
    by_cases e : a = b
    · rw [if_pos e]
      simp [e, ih]
    · rw [if_neg e]
      simp [Ne.symm e]
theorem shared_loop {β : Type} {f : PD → PD → Out (Ctl PD β PD)} (hf : ∀ (x y : Nat) (c : Int), x < 0x110000 → y < 0x110000 → f (.tuple [S [x], S [y]]) (.int c) = if x = y then .ok (.nx (.int (c + 1))) else .ok (.bk (.int c))) :
    ∀ (a b : List Nat) (c : Int), Tx a → Tx b → forM f (List.zipWith (fun a b => PyData.tuple [a, b]) (a.map fun c => S [c]) (b.map fun c => S [c])) (.int c) = .ok (.nx (.int (c + (lcp a b : Nat))))
  | [], _, c, _, _ => by simp [lcp, forM]
  | _ :: _, [], c, _, _ => by simp [lcp, forM]
  | x :: as, y :: bs, c, ha, hb => by
    have ih := shared_loop hf as bs (c + 1) (fun z m => ha z (List.mem_cons_of_mem _ m)) (fun z m => hb z (List.mem_cons_of_mem _ m))
    rw [List.map_cons, List.map_cons, List.zipWith_cons_cons]
    unfold forM
    rw [hf x y c (ha x List.mem_cons_self) (hb y List.mem_cons_self)]
    unfold lcp
    by_cases e : x = y
    · rw [if_pos e, if_pos e, ok_bind]
      dsimp only
      rw [ih]
      congr 3
      omega
    · rw [if_neg e, if_neg e, ok_bind]
      dsimp only
      congr 3
      omega
theorem zipD_S {a b : List Nat} : zipD [S a, S b] = .ok (List.zipWith (fun a b => PyData.tuple [a, b]) (a.map fun c => S [c]) (b.map fun c => S [c])) := by
  show (itemsD (S a) >>= fun xs => itemsD (S b) >>= fun ys => .ok (List.zipWith (fun a b => PyData.tuple [a, b]) xs ys)) = _
  rw [itemsD_S, itemsD_S]; rfl
theorem Tx1 {x : Nat} (h : x < 0x110000) : Tx [x] := fun c m => by rw [List.mem_singleton.mp m]; exact h
theorem shared_ok {a b : List Nat} (ha : Tx a) (hb : Tx b) (na : a.length ≤ sizeLine) : m_shared_start (S a) (S b) = .ok (S (a.take (lcp a b)), []) := by
  simp -implicitDefEqProofs only [bind_bind, ok_bind, dOnly_ok, callC_0, callC_1, callC_2, callC_3, callC_n, putC_0, putC_1, putC_2, putC_3, putC_n, unl_l, unn_n, finE_rt, finN_rt, finN_nx, upC_rt, upC_bk, upC_ct, dnC_nx, dnC_rt, seqC_nx, seqC_rt, seqC_bk, seqC_ct, dropC_0, dropC_1, dropC_2, dropC_3, cellL_0, cellL_1, cellL_2, EI, if_true, if_false, Bool.false_eq_true, decide_true, decide_false, Bool.not_true, Bool.not_false, S_nil, reduceIte, List.map_cons, List.map_nil, List.tail_cons, IS, m_shared_start, zipD_S]
  rw [shared_loop (fun x y c hx hy => ?_) a b 0 ha hb]
  · simp -implicitDefEqProofs only [bind_bind, ok_bind, dOnly_ok, callC_0, callC_1, callC_2, callC_3, callC_n, putC_0, putC_1, putC_2, putC_3, putC_n, unl_l, unn_n, finE_rt, finN_rt, finN_nx, upC_rt, upC_bk, upC_ct, dnC_nx, dnC_rt, seqC_nx, seqC_rt, seqC_bk, seqC_ct, dropC_0, dropC_1, dropC_2, dropC_3, cellL_0, cellL_1, cellL_2, EI, if_true, if_false, Bool.false_eq_true, decide_true, decide_false, Bool.not_true, Bool.not_false, S_nil, reduceIte, List.map_cons, List.map_nil, List.tail_cons, IS, Int.zero_add, cutD_S na, cutL_hi]
  · show (un2 (.tuple [S [x], S [y]]) >>= _) = _
    simp -implicitDefEqProofs only [bind_bind, ok_bind, dOnly_ok, callC_0, callC_1, callC_2, callC_3, callC_n, putC_0, putC_1, putC_2, putC_3, putC_n, unl_l, unn_n, finE_rt, finN_rt, finN_nx, upC_rt, upC_bk, upC_ct, dnC_nx, dnC_rt, seqC_nx, seqC_rt, seqC_bk, seqC_ct, dropC_0, dropC_1, dropC_2, dropC_3, cellL_0, cellL_1, cellL_2, EI, if_true, if_false, Bool.false_eq_true, decide_true, decide_false, Bool.not_true, Bool.not_false, S_nil, reduceIte, List.map_cons, List.map_nil, List.tail_cons, IS, show un2 (.tuple [S [x], S [y]]) = .ok (S [x], S [y]) from rfl, neD_S (Tx1 hx) (Tx1 hy), List.cons.injEq, and_true]
    by_cases e : x = y
    · simp -implicitDefEqProofs only [bind_bind, ok_bind, dOnly_ok, callC_0, callC_1, callC_2, callC_3, callC_n, putC_0, putC_1, putC_2, putC_3, putC_n, unl_l, unn_n, finE_rt, finN_rt, finN_nx, upC_rt, upC_bk, upC_ct, dnC_nx, dnC_rt, seqC_nx, seqC_rt, seqC_bk, seqC_ct, dropC_0, dropC_1, dropC_2, dropC_3, cellL_0, cellL_1, cellL_2, EI, if_true, if_false, Bool.false_eq_true, decide_true, decide_false, Bool.not_true, Bool.not_false, S_nil, reduceIte, List.map_cons, List.map_nil, List.tail_cons, IS, e]
    · simp -implicitDefEqProofs only [bind_bind, ok_bind, dOnly_ok, callC_0, callC_1, callC_2, callC_3, callC_n, putC_0, putC_1, putC_2, putC_3, putC_n, unl_l, unn_n, finE_rt, finN_rt, finN_nx, upC_rt, upC_bk, upC_ct, dnC_nx, dnC_rt, seqC_nx, seqC_rt, seqC_bk, seqC_ct, dropC_0, dropC_1, dropC_2, dropC_3, cellL_0, cellL_1, cellL_2, EI, if_true, if_false, Bool.false_eq_true, decide_true, decide_false, Bool.not_true, Bool.not_false, S_nil, reduceIte, List.map_cons, List.map_nil, List.tail_cons, IS, e]
def foldS (w0 : List Nat) (ws : List (List Nat)) : List Nat := ws.foldl (fun s w => s.take (lcp s w)) w0
theorem foldS_spec (w0 : List Nat) : ∀ (ws : List (List Nat)) (m : Nat), m ≤ w0.length → ∃ M, foldS (w0.take m) ws = w0.take M ∧ M ≤ m ∧ ∀ j, j ≤ m → ((∀ w ∈ ws, w.take j = w0.take j) ↔ j ≤ M)
  | [], m, h => ⟨m, rfl, Nat.le_refl _, fun j hj => by simp [hj]⟩
  | w :: ws, m, h => by
    have hl : (w0.take m).length = m := by rw [List.length_take]; omega
    have hle := lcp_le (w0.take m) w
    rw [hl] at hle
    obtain ⟨M, e, hM, hi⟩ := foldS_spec w0 ws (lcp (w0.take m) w) (by omega)
    refine ⟨M, ?_, by omega, fun j hj => ?_⟩
    · show foldS ((w0.take m).take (lcp (w0.take m) w)) ws = _
      rw [List.take_take, Nat.min_eq_left hle, e]
    · have q := lcp_iff (w0.take m) w j (by omega)
      rw [List.take_take, Nat.min_eq_left hj] at q
      simp only [List.mem_cons, forall_eq_or_imp]
      rw [q]
      constructor
      · rintro ⟨h1, h2⟩
        exact (hi j h1).mp h2
      · intro h1
        have : j ≤ lcp (w0.take m) w := by omega
        exact ⟨this, (hi j this).mpr h1⟩
theorem foldS_len : ∀ (ws : List (List Nat)) (w0 : List Nat), (foldS w0 ws).length ≤ w0.length ∧ ∀ c ∈ foldS w0 ws, c ∈ w0
  | [], w0 => ⟨Nat.le_refl _, fun _ h => h⟩
  | w :: ws, w0 => by
    obtain ⟨h1, h2⟩ := foldS_len ws (w0.take (lcp w0 w))
    refine ⟨Nat.le_trans h1 (by rw [List.length_take]; omega), fun c hc => List.mem_of_mem_take (h2 c hc)⟩
theorem common_ok {w0 : List Nat} {ws : List (List Nat)} (h0 : Tx w0) (hs : ∀ w ∈ ws, Tx w) (n0 : w0.length ≤ sizeLine) : Ok (m_common_start (.list ((w0 :: ws).map S))) fun r => r = (S (foldS w0 ws), []) := by
  have e : cutL (S w0 :: ws.map S) (some 1) none = ws.map S := cutL_lo (n := 1)
  simp -implicitDefEqProofs only [bind_bind, ok_bind, dOnly_ok, callC_0, callC_1, callC_2, callC_3, callC_n, putC_0, putC_1, putC_2, putC_3, putC_n, unl_l, unn_n, finE_rt, finN_rt, finN_nx, upC_rt, upC_bk, upC_ct, dnC_nx, dnC_rt, seqC_nx, seqC_rt, seqC_bk, seqC_ct, dropC_0, dropC_1, dropC_2, dropC_3, cellL_0, cellL_1, cellL_2, EI, if_true, if_false, Bool.false_eq_true, decide_true, decide_false, Bool.not_true, Bool.not_false, S_nil, reduceIte, List.map_cons, List.map_nil, List.tail_cons, IS, m_common_start, e]
  refine Ok.bind (forM_Ok (fun r (l : PD) => ∃ (pre post : List (List Nat)), r = post.map S ∧ ws = pre ++ post ∧ l = S (foldS w0 pre)) ⟨[], ws, rfl, rfl, rfl⟩ ?_) ?_
  · rintro d r l ⟨pre, post, e1, e2, rfl⟩
    cases post with
    | nil => cases e1
    | cons w post =>
      rw [List.map_cons] at e1
      cases e1
      obtain ⟨l1, l2⟩ := foldS_len pre w0
      have hw : Tx w := hs w (by rw [e2]; simp)
      simp -implicitDefEqProofs only [bind_bind, ok_bind, dOnly_ok, callC_0, callC_1, callC_2, callC_3, callC_n, putC_0, putC_1, putC_2, putC_3, putC_n, unl_l, unn_n, finE_rt, finN_rt, finN_nx, upC_rt, upC_bk, upC_ct, dnC_nx, dnC_rt, seqC_nx, seqC_rt, seqC_bk, seqC_ct, dropC_0, dropC_1, dropC_2, dropC_3, cellL_0, cellL_1, cellL_2, EI, if_true, if_false, Bool.false_eq_true, decide_true, decide_false, Bool.not_true, Bool.not_false, S_nil, reduceIte, List.map_cons, List.map_nil, List.tail_cons, IS, ap_dd, shared_ok (a := foldS w0 pre) (b := w) (h0.sub l2) hw (by omega)]
      refine .ret ⟨_, .inl rfl, pre ++ [w], post, rfl, by rw [e2]; simp, ?_⟩
      unfold foldS
      rw [List.foldl_append]
      rfl
  · rintro _ ⟨l, rfl, pre, post, e1, e2, rfl⟩
    have : post = [] := by
      cases post with
      | nil => rfl
      | cons _ _ => cases e1
    subst this
    rw [List.append_nil] at e2
    subst e2
    simp -implicitDefEqProofs only [bind_bind, ok_bind, dOnly_ok, callC_0, callC_1, callC_2, callC_3, callC_n, putC_0, putC_1, putC_2, putC_3, putC_n, unl_l, unn_n, finE_rt, finN_rt, finN_nx, upC_rt, upC_bk, upC_ct, dnC_nx, dnC_rt, seqC_nx, seqC_rt, seqC_bk, seqC_ct, dropC_0, dropC_1, dropC_2, dropC_3, cellL_0, cellL_1, cellL_2, EI, if_true, if_false, Bool.false_eq_true, decide_true, decide_false, Bool.not_true, Bool.not_false, S_nil, reduceIte, List.map_cons, List.map_nil, List.tail_cons, IS]
    exact .ret rfl
theorem start_ok {w0 : List Nat} {ws : List (List Nat)} (h0 : Tx w0) (hs : ∀ w ∈ ws, Tx w) (n0 : w0.length ≤ 1000) (ns : ∀ w ∈ ws, w.length ≤ 1000) (nw : ws.length ≤ 1000) : Ok (m__law_start (.list ((w0 :: ws).map S))) fun r => r = (S (foldS w0 ws), []) := by
  have z0 : w0.length ≤ sizeLine := by rw [sizeLine_eq]; omega
  obtain ⟨M, eM, hM, hi⟩ := foldS_spec w0 ws w0.length (Nat.le_refl _)
  rw [List.take_length] at eM
  simp -implicitDefEqProofs only [bind_bind, ok_bind, dOnly_ok, callC_0, callC_1, callC_2, callC_3, callC_n, putC_0, putC_1, putC_2, putC_3, putC_n, unl_l, unn_n, finE_rt, finN_rt, finN_nx, upC_rt, upC_bk, upC_ct, dnC_nx, dnC_rt, seqC_nx, seqC_rt, seqC_bk, seqC_ct, dropC_0, dropC_1, dropC_2, dropC_3, cellL_0, cellL_1, cellL_2, EI, if_true, if_false, Bool.false_eq_true, decide_true, decide_false, Bool.not_true, Bool.not_false, S_nil, reduceIte, List.map_cons, List.map_nil, List.tail_cons, IS, m__law_start, lenD_S z0, rangeD_n (n := w0.length) (by omega)]
  have hline : lineD (S w0 :: ws.map S) = .ok (S w0 :: ws.map S) := lineD_ok (by rw [sizeLine_eq, List.length_cons, List.length_map]; omega)
  refine Ok.bind (forM_range (fun k (l : PD) => l = .int ((min k M : Nat) : Int)) (by simp) ?_) ?_
  · rintro k _ hk rfl
    have e1 : ((k : Int) + 1) = ((k + 1 : Nat) : Int) := by omega
    simp -implicitDefEqProofs only [bind_bind, ok_bind, dOnly_ok, callC_0, callC_1, callC_2, callC_3, callC_n, putC_0, putC_1, putC_2, putC_3, putC_n, unl_l, unn_n, finE_rt, finN_rt, finN_nx, upC_rt, upC_bk, upC_ct, dnC_nx, dnC_rt, seqC_nx, seqC_rt, seqC_bk, seqC_ct, dropC_0, dropC_1, dropC_2, dropC_3, cellL_0, cellL_1, cellL_2, EI, if_true, if_false, Bool.false_eq_true, decide_true, decide_false, Bool.not_true, Bool.not_false, S_nil, reduceIte, List.map_cons, List.map_nil, List.tail_cons, IS, hline, e1]
    have key : ∀ w : List Nat, w ∈ w0 :: ws → Tx w ∧ w.length ≤ sizeLine := fun w hw => by
      rcases List.mem_cons.mp hw with e | e
      · rw [e]; exact ⟨h0, z0⟩
      · exact ⟨hs w e, by have := ns w e; rw [sizeLine_eq]; omega⟩
    rw [show (S w0 :: ws.map S) = (w0 :: ws).map S from rfl, compP_map (g := fun d => match d with | .str z => if z.cps.toList.take (k + 1) = w0.take (k + 1) then none else some d | _ => none) (fun d hd => ?_)]
    · have e2 : (((w0 :: ws).map S).filterMap fun d => match d with | .str z => if z.cps.toList.take (k + 1) = w0.take (k + 1) then none else some d | _ => none) = [] ↔ ∀ w ∈ ws, w.take (k + 1) = w0.take (k + 1) := by
        rw [List.filterMap_eq_nil_iff]
        constructor
        · intro h w hw
          have := h (S w) (List.mem_map_of_mem (List.mem_cons_of_mem _ hw))
          simp only [S] at this
          by_cases e : w.take (k + 1) = w0.take (k + 1)
          · exact e
          · simp [e] at this
        · intro h d hd
          obtain ⟨w, hw, rfl⟩ := List.mem_map.mp hd
          simp only [S]
          rcases List.mem_cons.mp hw with e | e
          · simp [e]
          · simp [h w e]
      have hi' := hi (k + 1) hk
      rw [← e2] at hi'
      have hsh : SeqAt.shaped (.list (((w0 :: ws).map S).filterMap fun d => match d with | .str z => if z.cps.toList.take (k + 1) = w0.take (k + 1) then none else some d | _ => none)) = true := shaped_l (k := 0) (fun d hd => by
        obtain ⟨d', hd', e⟩ := List.mem_filterMap.mp hd
        obtain ⟨w, hw, rfl⟩ := List.mem_map.mp hd'
        simp only [S] at e
        split at e
        · cases e
        · cases e
          have q := lay_S (key w hw).1
          exact ⟨q.1, by rw [show PyData.str ⟨w.toArray⟩ = S w from rfl, q.2]; exact Nat.le_refl _⟩) (by decide)
      generalize (((w0 :: ws).map S).filterMap fun d => match d with | .str z => if z.cps.toList.take (k + 1) = w0.take (k + 1) then none else some d | _ => none) = fl at hi' hsh ⊢
      by_cases hf : fl = []
      · have h1 := hi'.mp hf
        simp -implicitDefEqProofs only [bind_bind, ok_bind, dOnly_ok, callC_0, callC_1, callC_2, callC_3, callC_n, putC_0, putC_1, putC_2, putC_3, putC_n, unl_l, unn_n, finE_rt, finN_rt, finN_nx, upC_rt, upC_bk, upC_ct, dnC_nx, dnC_rt, seqC_nx, seqC_rt, seqC_bk, seqC_ct, dropC_0, dropC_1, dropC_2, dropC_3, cellL_0, cellL_1, cellL_2, EI, if_true, if_false, Bool.false_eq_true, decide_true, decide_false, Bool.not_true, Bool.not_false, S_nil, reduceIte, List.map_cons, List.map_nil, List.tail_cons, IS, hf, eq_nil]
        exact .ret ⟨_, .inl rfl, by rw [Nat.min_eq_left h1]⟩
      · have h1 : ¬ (k + 1 ≤ M) := fun q => hf (hi'.mpr q)
        have e3 : min k M = min (k + 1) M := by omega
        simp -implicitDefEqProofs only [bind_bind, ok_bind, dOnly_ok, callC_0, callC_1, callC_2, callC_3, callC_n, putC_0, putC_1, putC_2, putC_3, putC_n, unl_l, unn_n, finE_rt, finN_rt, finN_nx, upC_rt, upC_bk, upC_ct, dnC_nx, dnC_rt, seqC_nx, seqC_rt, seqC_bk, seqC_ct, dropC_0, dropC_1, dropC_2, dropC_3, cellL_0, cellL_1, cellL_2, EI, if_true, if_false, Bool.false_eq_true, decide_true, decide_false, Bool.not_true, Bool.not_false, S_nil, reduceIte, List.map_cons, List.map_nil, List.tail_cons, IS, eq_list_nil hsh, hf]
        exact .ret ⟨_, .inl rfl, by rw [e3]⟩
    · obtain ⟨w, hw, rfl⟩ := List.mem_map.mp hd
      obtain ⟨tw, zw⟩ := key w hw
      simp -implicitDefEqProofs only [bind_bind, ok_bind, dOnly_ok, callC_0, callC_1, callC_2, callC_3, callC_n, putC_0, putC_1, putC_2, putC_3, putC_n, unl_l, unn_n, finE_rt, finN_rt, finN_nx, upC_rt, upC_bk, upC_ct, dnC_nx, dnC_rt, seqC_nx, seqC_rt, seqC_bk, seqC_ct, dropC_0, dropC_1, dropC_2, dropC_3, cellL_0, cellL_1, cellL_2, EI, if_true, if_false, Bool.false_eq_true, decide_true, decide_false, Bool.not_true, Bool.not_false, S_nil, reduceIte, List.map_cons, List.map_nil, List.tail_cons, IS, cutD_S zw, cutD_S z0, cutL_hi, neD_S (tw.take _) (h0.take _)]
      simp only [S]
      by_cases e : w.take (k + 1) = w0.take (k + 1)
      · simp [e]
      · simp [e]
  · rintro _ ⟨l, rfl, rfl⟩
    rw [Nat.min_eq_right hM]
    simp -implicitDefEqProofs only [bind_bind, ok_bind, dOnly_ok, callC_0, callC_1, callC_2, callC_3, callC_n, putC_0, putC_1, putC_2, putC_3, putC_n, unl_l, unn_n, finE_rt, finN_rt, finN_nx, upC_rt, upC_bk, upC_ct, dnC_nx, dnC_rt, seqC_nx, seqC_rt, seqC_bk, seqC_ct, dropC_0, dropC_1, dropC_2, dropC_3, cellL_0, cellL_1, cellL_2, EI, if_true, if_false, Bool.false_eq_true, decide_true, decide_false, Bool.not_true, Bool.not_false, S_nil, reduceIte, List.map_cons, List.map_nil, List.tail_cons, IS, cutD_S z0, cutL_hi]
    exact .ret (by rw [eM])
theorem alphabet_Ok {l : List PD} (h : Pool l) : Ok (m__law_alphabet l) fun r => ∃ (a : List Nat) (l' : List PD), r = (S a, [.l l']) ∧ 0 < a.length ∧ a.length ≤ 92 ∧ Tx a ∧ Pool l' := by
  obtain ⟨a, l', e, h⟩ := alphabet_ok h
  exact ⟨_, e, a, l', rfl, h⟩
theorem law_main (ns : List Int) (hl : ns.length ≤ 63) : Ok (m_law (.list (ns.map PyData.int))) fun r => r = (.bool true, []) := by
  obtain ⟨p0, e0, h0⟩ := pool_ok ns hl 0
  obtain ⟨p1, e1, h1⟩ := pool_ok ns hl 1
  obtain ⟨p2, e2, h2⟩ := pool_ok ns hl 2
  simp only [Int.ofNat_eq_natCast, Int.natCast_zero, Int.natCast_one, show ((2 : Nat) : Int) = 2 from rfl, show ((1 : Nat) : Int) = 1 from rfl, show ((0 : Nat) : Int) = 0 from rfl] at e0 e1 e2
  simp -implicitDefEqProofs only [bind_bind, ok_bind, dOnly_ok, callC_0, callC_1, callC_2, callC_3, callC_n, putC_0, putC_1, putC_2, putC_3, putC_n, unl_l, unn_n, finE_rt, finN_rt, finN_nx, upC_rt, upC_bk, upC_ct, dnC_nx, dnC_rt, seqC_nx, seqC_rt, seqC_bk, seqC_ct, dropC_0, dropC_1, dropC_2, dropC_3, cellL_0, cellL_1, cellL_2, EI, if_true, if_false, Bool.false_eq_true, decide_true, decide_false, Bool.not_true, Bool.not_false, S_nil, reduceIte, List.map_cons, List.map_nil, List.tail_cons, IS, m_law, ap_c, ap_cd, ap_cdd, ap_d, ap_dd, e0, e1, e2]
  refine Ok.bind (alphabet_Ok h0) ?_
  rintro _ ⟨a, l1, rfl, ha, ha2, hta, h1'⟩
  simp -implicitDefEqProofs only [bind_bind, ok_bind, dOnly_ok, callC_0, callC_1, callC_2, callC_3, callC_n, putC_0, putC_1, putC_2, putC_3, putC_n, unl_l, unn_n, finE_rt, finN_rt, finN_nx, upC_rt, upC_bk, upC_ct, dnC_nx, dnC_rt, seqC_nx, seqC_rt, seqC_bk, seqC_ct, dropC_0, dropC_1, dropC_2, dropC_3, cellL_0, cellL_1, cellL_2, EI, if_true, if_false, Bool.false_eq_true, decide_true, decide_false, Bool.not_true, Bool.not_false, S_nil, reduceIte, List.map_cons, List.map_nil, List.tail_cons, IS, ap_cd, ap_cdd]
  refine Ok.bind (draw_Ok h1' (n := 61) (by decide) (by decide)) ?_
  rintro _ ⟨n, l2, rfl, hn, h2'⟩
  simp -implicitDefEqProofs only [bind_bind, ok_bind, dOnly_ok, callC_0, callC_1, callC_2, callC_3, callC_n, putC_0, putC_1, putC_2, putC_3, putC_n, unl_l, unn_n, finE_rt, finN_rt, finN_nx, upC_rt, upC_bk, upC_ct, dnC_nx, dnC_rt, seqC_nx, seqC_rt, seqC_bk, seqC_ct, dropC_0, dropC_1, dropC_2, dropC_3, cellL_0, cellL_1, cellL_2, EI, if_true, if_false, Bool.false_eq_true, decide_true, decide_false, Bool.not_true, Bool.not_false, S_nil, reduceIte, List.map_cons, List.map_nil, List.tail_cons, IS, ap_cdd]
  refine Ok.bind (text_Ok h2' ha ha2 hta (by omega)) ?_
  rintro _ ⟨t, l3, rfl, ht, htt, h3'⟩
  have zt : t.length ≤ sizeLine := by rw [sizeLine_eq]; omega
  simp -implicitDefEqProofs only [bind_bind, ok_bind, dOnly_ok, callC_0, callC_1, callC_2, callC_3, callC_n, putC_0, putC_1, putC_2, putC_3, putC_n, unl_l, unn_n, finE_rt, finN_rt, finN_nx, upC_rt, upC_bk, upC_ct, dnC_nx, dnC_rt, seqC_nx, seqC_rt, seqC_bk, seqC_ct, dropC_0, dropC_1, dropC_2, dropC_3, cellL_0, cellL_1, cellL_2, EI, if_true, if_false, Bool.false_eq_true, decide_true, decide_false, Bool.not_true, Bool.not_false, S_nil, reduceIte, List.map_cons, List.map_nil, List.tail_cons, IS, lenD_S zt, ap_cd]
  refine Ok.bind (P := fun r => ∃ (b : Bool) (l4 : List PD), r = (b, [.l l4]) ∧ Pool l4 ∧ (b = true → 0 < t.length)) ?_ ?_
  · by_cases hz : 0 < (t.length : Int)
    · simp -implicitDefEqProofs only [bind_bind, ok_bind, dOnly_ok, callC_0, callC_1, callC_2, callC_3, callC_n, putC_0, putC_1, putC_2, putC_3, putC_n, unl_l, unn_n, finE_rt, finN_rt, finN_nx, upC_rt, upC_bk, upC_ct, dnC_nx, dnC_rt, seqC_nx, seqC_rt, seqC_bk, seqC_ct, dropC_0, dropC_1, dropC_2, dropC_3, cellL_0, cellL_1, cellL_2, EI, if_true, if_false, Bool.false_eq_true, decide_true, decide_false, Bool.not_true, Bool.not_false, S_nil, reduceIte, List.map_cons, List.map_nil, List.tail_cons, IS, hz]
      refine Ok.bind (draw_Ok h3' (n := 2) (by decide) (by decide)) ?_
      rintro _ ⟨k, l4, rfl, hk, h4⟩
      simp -implicitDefEqProofs only [bind_bind, ok_bind, dOnly_ok, callC_0, callC_1, callC_2, callC_3, callC_n, putC_0, putC_1, putC_2, putC_3, putC_n, unl_l, unn_n, finE_rt, finN_rt, finN_nx, upC_rt, upC_bk, upC_ct, dnC_nx, dnC_rt, seqC_nx, seqC_rt, seqC_bk, seqC_ct, dropC_0, dropC_1, dropC_2, dropC_3, cellL_0, cellL_1, cellL_2, EI, if_true, if_false, Bool.false_eq_true, decide_true, decide_false, Bool.not_true, Bool.not_false, S_nil, reduceIte, List.map_cons, List.map_nil, List.tail_cons, IS]
      exact .ret ⟨_, l4, rfl, h4, fun _ => by omega⟩
    · simp -implicitDefEqProofs only [bind_bind, ok_bind, dOnly_ok, callC_0, callC_1, callC_2, callC_3, callC_n, putC_0, putC_1, putC_2, putC_3, putC_n, unl_l, unn_n, finE_rt, finN_rt, finN_nx, upC_rt, upC_bk, upC_ct, dnC_nx, dnC_rt, seqC_nx, seqC_rt, seqC_bk, seqC_ct, dropC_0, dropC_1, dropC_2, dropC_3, cellL_0, cellL_1, cellL_2, EI, if_true, if_false, Bool.false_eq_true, decide_true, decide_false, Bool.not_true, Bool.not_false, S_nil, reduceIte, List.map_cons, List.map_nil, List.tail_cons, IS, hz]
      exact .ret ⟨_, l3, rfl, h3', fun e => (by cases e)⟩
  rintro _ ⟨b, l4, rfl, h4, hb⟩
  refine Ok.bind (P := fun r => ∃ (o : List Nat) (l5 : List PD), r = .nx (S o, [.l l5]) ∧ Tx o ∧ o.length ≤ 60 ∧ Pool l5) ?_ ?_
  · cases b with
    | false =>
      simp -implicitDefEqProofs only [bind_bind, ok_bind, dOnly_ok, callC_0, callC_1, callC_2, callC_3, callC_n, putC_0, putC_1, putC_2, putC_3, putC_n, unl_l, unn_n, finE_rt, finN_rt, finN_nx, upC_rt, upC_bk, upC_ct, dnC_nx, dnC_rt, seqC_nx, seqC_rt, seqC_bk, seqC_ct, dropC_0, dropC_1, dropC_2, dropC_3, cellL_0, cellL_1, cellL_2, EI, if_true, if_false, Bool.false_eq_true, decide_true, decide_false, Bool.not_true, Bool.not_false, S_nil, reduceIte, List.map_cons, List.map_nil, List.tail_cons, IS]
      exact .ret ⟨t, l4, rfl, htt, by omega, h4⟩
    | true =>
      have hpos := hb rfl
      simp -implicitDefEqProofs only [bind_bind, ok_bind, dOnly_ok, callC_0, callC_1, callC_2, callC_3, callC_n, putC_0, putC_1, putC_2, putC_3, putC_n, unl_l, unn_n, finE_rt, finN_rt, finN_nx, upC_rt, upC_bk, upC_ct, dnC_nx, dnC_rt, seqC_nx, seqC_rt, seqC_bk, seqC_ct, dropC_0, dropC_1, dropC_2, dropC_3, cellL_0, cellL_1, cellL_2, EI, if_true, if_false, Bool.false_eq_true, decide_true, decide_false, Bool.not_true, Bool.not_false, S_nil, reduceIte, List.map_cons, List.map_nil, List.tail_cons, IS]
      refine Ok.bind (draw_Ok h4 (n := t.length) hpos (by omega)) ?_
      rintro _ ⟨i, l5, rfl, hi, h5⟩
      have za : a.length ≤ sizeLine := by rw [sizeLine_eq]; omega
      simp -implicitDefEqProofs only [bind_bind, ok_bind, dOnly_ok, callC_0, callC_1, callC_2, callC_3, callC_n, putC_0, putC_1, putC_2, putC_3, putC_n, unl_l, unn_n, finE_rt, finN_rt, finN_nx, upC_rt, upC_bk, upC_ct, dnC_nx, dnC_rt, seqC_nx, seqC_rt, seqC_bk, seqC_ct, dropC_0, dropC_1, dropC_2, dropC_3, cellL_0, cellL_1, cellL_2, EI, if_true, if_false, Bool.false_eq_true, decide_true, decide_false, Bool.not_true, Bool.not_false, S_nil, reduceIte, List.map_cons, List.map_nil, List.tail_cons, IS, cutD_S zt, cutL_hi, lenD_S za]
      refine Ok.bind (draw_Ok h5 (n := a.length) ha (by omega)) ?_
      rintro _ ⟨j, l6, rfl, hj, h6⟩
      have e1 : ((i : Int) + 1) = ((i + 1 : Nat) : Int) := by omega
      have b1 : (t.take i).length + [a[j]].length ≤ sizeLine := by rw [sizeLine_eq, List.length_take]; simp; omega
      have b2 : (t.take i ++ [a[j]]).length + (t.drop (i + 1)).length ≤ sizeLine := by rw [sizeLine_eq]; simp; omega
      simp -implicitDefEqProofs only [bind_bind, ok_bind, dOnly_ok, callC_0, callC_1, callC_2, callC_3, callC_n, putC_0, putC_1, putC_2, putC_3, putC_n, unl_l, unn_n, finE_rt, finN_rt, finN_nx, upC_rt, upC_bk, upC_ct, dnC_nx, dnC_rt, seqC_nx, seqC_rt, seqC_bk, seqC_ct, dropC_0, dropC_1, dropC_2, dropC_3, cellL_0, cellL_1, cellL_2, EI, if_true, if_false, Bool.false_eq_true, decide_true, decide_false, Bool.not_true, Bool.not_false, S_nil, reduceIte, List.map_cons, List.map_nil, List.tail_cons, IS, idxD_S za (List.getElem?_eq_getElem hj), addD_S b1, e1, cutD_S zt, cutL_lo, addD_S b2]
      refine .ret ⟨_, l6, rfl, ((htt.take _).app (Tx1 (hta _ (List.getElem_mem _)))).app (htt.drop _), ?_, h6⟩
      simp
      omega
  rintro _ ⟨o, l5, rfl, hto, ho, h5⟩
  have zo : o.length ≤ sizeLine := by rw [sizeLine_eq]; omega
  have hN : c_NO_LAG = .tuple [S [], S []] := by rw [← S_nil]; rfl
  have hlg := same_ok 40 (.tuple [S [], S []]) ⟨by simp, fun z hz => by
    have : z = S [] := by simpa using hz
    rw [this]; exact Tx.nil⟩
  simp -implicitDefEqProofs only [bind_bind, ok_bind, dOnly_ok, callC_0, callC_1, callC_2, callC_3, callC_n, putC_0, putC_1, putC_2, putC_3, putC_n, unl_l, unn_n, finE_rt, finN_rt, finN_nx, upC_rt, upC_bk, upC_ct, dnC_nx, dnC_rt, seqC_nx, seqC_rt, seqC_bk, seqC_ct, dropC_0, dropC_1, dropC_2, dropC_3, cellL_0, cellL_1, cellL_2, EI, if_true, if_false, Bool.false_eq_true, decide_true, decide_false, Bool.not_true, Bool.not_false, S_nil, reduceIte, List.map_cons, List.map_nil, List.tail_cons, IS, hN, hlg]
  refine Ok.bind (steps_ok h1 htt hto (by omega) ho) ?_
  rintro _ ⟨st, l6, rfl, hst, nst, h6⟩
  simp -implicitDefEqProofs only [bind_bind, ok_bind, dOnly_ok, callC_0, callC_1, callC_2, callC_3, callC_n, putC_0, putC_1, putC_2, putC_3, putC_n, unl_l, unn_n, finE_rt, finN_rt, finN_nx, upC_rt, upC_bk, upC_ct, dnC_nx, dnC_rt, seqC_nx, seqC_rt, seqC_bk, seqC_ct, dropC_0, dropC_1, dropC_2, dropC_3, cellL_0, cellL_1, cellL_2, EI, if_true, if_false, Bool.false_eq_true, decide_true, decide_false, Bool.not_true, Bool.not_false, S_nil, reduceIte, List.map_cons, List.map_nil, List.tail_cons, IS, ap_d]
  refine Ok.bind (follows_ok hst nst) ?_
  rintro _ rfl
  simp -implicitDefEqProofs only [bind_bind, ok_bind, dOnly_ok, callC_0, callC_1, callC_2, callC_3, callC_n, putC_0, putC_1, putC_2, putC_3, putC_n, unl_l, unn_n, finE_rt, finN_rt, finN_nx, upC_rt, upC_bk, upC_ct, dnC_nx, dnC_rt, seqC_nx, seqC_rt, seqC_bk, seqC_ct, dropC_0, dropC_1, dropC_2, dropC_3, cellL_0, cellL_1, cellL_2, EI, if_true, if_false, Bool.false_eq_true, decide_true, decide_false, Bool.not_true, Bool.not_false, S_nil, reduceIte, List.map_cons, List.map_nil, List.tail_cons, IS]
  refine Ok.bind (draw_Ok h2 (n := 3) (by decide) (by decide)) ?_
  rintro _ ⟨k1, l6, rfl, hk1, h6⟩
  simp -implicitDefEqProofs only [bind_bind, ok_bind, dOnly_ok, callC_0, callC_1, callC_2, callC_3, callC_n, putC_0, putC_1, putC_2, putC_3, putC_n, unl_l, unn_n, finE_rt, finN_rt, finN_nx, upC_rt, upC_bk, upC_ct, dnC_nx, dnC_rt, seqC_nx, seqC_rt, seqC_bk, seqC_ct, dropC_0, dropC_1, dropC_2, dropC_3, cellL_0, cellL_1, cellL_2, EI, if_true, if_false, Bool.false_eq_true, decide_true, decide_false, Bool.not_true, Bool.not_false, S_nil, reduceIte, List.map_cons, List.map_nil, List.tail_cons, IS, cutD_S zt, cutL_hi]
  refine Ok.bind (draw_Ok h6 (n := 3) (by decide) (by decide)) ?_
  rintro _ ⟨k2, l7, rfl, hk2, h7⟩
  simp -implicitDefEqProofs only [bind_bind, ok_bind, dOnly_ok, callC_0, callC_1, callC_2, callC_3, callC_n, putC_0, putC_1, putC_2, putC_3, putC_n, unl_l, unn_n, finE_rt, finN_rt, finN_nx, upC_rt, upC_bk, upC_ct, dnC_nx, dnC_rt, seqC_nx, seqC_rt, seqC_bk, seqC_ct, dropC_0, dropC_1, dropC_2, dropC_3, cellL_0, cellL_1, cellL_2, EI, if_true, if_false, Bool.false_eq_true, decide_true, decide_false, Bool.not_true, Bool.not_false, S_nil, reduceIte, List.map_cons, List.map_nil, List.tail_cons, IS, cutD_S zo, cutL_hi, ap_dd]
  refine Ok.bind (judges_ok (htt.take _) (hto.take _)) ?_
  rintro _ rfl
  simp -implicitDefEqProofs only [bind_bind, ok_bind, dOnly_ok, callC_0, callC_1, callC_2, callC_3, callC_n, putC_0, putC_1, putC_2, putC_3, putC_n, unl_l, unn_n, finE_rt, finN_rt, finN_nx, upC_rt, upC_bk, upC_ct, dnC_nx, dnC_rt, seqC_nx, seqC_rt, seqC_bk, seqC_ct, dropC_0, dropC_1, dropC_2, dropC_3, cellL_0, cellL_1, cellL_2, EI, if_true, if_false, Bool.false_eq_true, decide_true, decide_false, Bool.not_true, Bool.not_false, S_nil, reduceIte, List.map_cons, List.map_nil, List.tail_cons, IS]
  refine Ok.bind (draw_Ok h7 (n := 8) (by decide) (by decide)) ?_
  rintro _ ⟨k3, l8, rfl, hk3, h8⟩
  have e3 : (1 + (k3 : Int)) = ((k3 + 1 : Nat) : Int) := by omega
  simp -implicitDefEqProofs only [bind_bind, ok_bind, dOnly_ok, callC_0, callC_1, callC_2, callC_3, callC_n, putC_0, putC_1, putC_2, putC_3, putC_n, unl_l, unn_n, finE_rt, finN_rt, finN_nx, upC_rt, upC_bk, upC_ct, dnC_nx, dnC_rt, seqC_nx, seqC_rt, seqC_bk, seqC_ct, dropC_0, dropC_1, dropC_2, dropC_3, cellL_0, cellL_1, cellL_2, EI, if_true, if_false, Bool.false_eq_true, decide_true, decide_false, Bool.not_true, Bool.not_false, S_nil, reduceIte, List.map_cons, List.map_nil, List.tail_cons, IS, e3, rangeD_n (n := k3 + 1) (by omega)]
  refine Ok.bind (forM_range (fun k (x : List CO) => ∃ (ws : List (List Nat)) (lp lq : List PD), x = [.l (ws.map S), .l lp, .l lq] ∧ ws.length = k ∧ (∀ w ∈ ws, Tx w ∧ w.length ≤ 100) ∧ Pool lp) ⟨[], l8, l5, rfl, rfl, fun _ m => (by cases m), h8⟩ ?_) ?_
  · rintro k _ hk ⟨ws, lp, lq, rfl, hw, hws, hp⟩
    have e4 : ((t.length : Int) + 1) = ((t.length + 1 : Nat) : Int) := by omega
    simp -implicitDefEqProofs only [bind_bind, ok_bind, dOnly_ok, callC_0, callC_1, callC_2, callC_3, callC_n, putC_0, putC_1, putC_2, putC_3, putC_n, unl_l, unn_n, finE_rt, finN_rt, finN_nx, upC_rt, upC_bk, upC_ct, dnC_nx, dnC_rt, seqC_nx, seqC_rt, seqC_bk, seqC_ct, dropC_0, dropC_1, dropC_2, dropC_3, cellL_0, cellL_1, cellL_2, EI, if_true, if_false, Bool.false_eq_true, decide_true, decide_false, Bool.not_true, Bool.not_false, S_nil, reduceIte, List.map_cons, List.map_nil, List.tail_cons, IS, e4]
    refine Ok.bind (draw_Ok hp (n := t.length + 1) (by omega) (by omega)) ?_
    rintro _ ⟨i, l9, rfl, hi, h9⟩
    simp -implicitDefEqProofs only [bind_bind, ok_bind, dOnly_ok, callC_0, callC_1, callC_2, callC_3, callC_n, putC_0, putC_1, putC_2, putC_3, putC_n, unl_l, unn_n, finE_rt, finN_rt, finN_nx, upC_rt, upC_bk, upC_ct, dnC_nx, dnC_rt, seqC_nx, seqC_rt, seqC_bk, seqC_ct, dropC_0, dropC_1, dropC_2, dropC_3, cellL_0, cellL_1, cellL_2, EI, if_true, if_false, Bool.false_eq_true, decide_true, decide_false, Bool.not_true, Bool.not_false, S_nil, reduceIte, List.map_cons, List.map_nil, List.tail_cons, IS, cutD_S zt, cutL_hi]
    refine Ok.bind (draw_Ok h9 (n := 4) (by decide) (by decide)) ?_
    rintro _ ⟨j, l10, rfl, hj, h10⟩
    simp -implicitDefEqProofs only [bind_bind, ok_bind, dOnly_ok, callC_0, callC_1, callC_2, callC_3, callC_n, putC_0, putC_1, putC_2, putC_3, putC_n, unl_l, unn_n, finE_rt, finN_rt, finN_nx, upC_rt, upC_bk, upC_ct, dnC_nx, dnC_rt, seqC_nx, seqC_rt, seqC_bk, seqC_ct, dropC_0, dropC_1, dropC_2, dropC_3, cellL_0, cellL_1, cellL_2, EI, if_true, if_false, Bool.false_eq_true, decide_true, decide_false, Bool.not_true, Bool.not_false, S_nil, reduceIte, List.map_cons, List.map_nil, List.tail_cons, IS, ap_cdd]
    refine Ok.bind (text_Ok h10 ha ha2 hta (by omega)) ?_
    rintro _ ⟨u, l11, rfl, hu, htu, h11⟩
    have b1 : (t.take i).length + u.length ≤ sizeLine := by rw [sizeLine_eq, List.length_take]; omega
    simp -implicitDefEqProofs only [bind_bind, ok_bind, dOnly_ok, callC_0, callC_1, callC_2, callC_3, callC_n, putC_0, putC_1, putC_2, putC_3, putC_n, unl_l, unn_n, finE_rt, finN_rt, finN_nx, upC_rt, upC_bk, upC_ct, dnC_nx, dnC_rt, seqC_nx, seqC_rt, seqC_bk, seqC_ct, dropC_0, dropC_1, dropC_2, dropC_3, cellL_0, cellL_1, cellL_2, EI, if_true, if_false, Bool.false_eq_true, decide_true, decide_false, Bool.not_true, Bool.not_false, S_nil, reduceIte, List.map_cons, List.map_nil, List.tail_cons, IS, addD_S b1, appD_ok (ds := ws.map S) (by rw [List.length_map, sizeLine_eq]; omega), List.set_cons_zero]
    refine .ret ⟨_, .inl rfl, ws ++ [t.take i ++ u], l11, lq, by simp, by simp [hw], fun w m => ?_, h11⟩
    rcases List.mem_append.mp m with m | m
    · exact hws w m
    · rw [List.mem_singleton.mp m]
      exact ⟨(htt.take _).app htu, by simp; omega⟩
  rintro _ ⟨_, rfl, ws, lp, lq, rfl, hw, hws, hp⟩
  cases ws with
  | nil => simp at hw
  | cons w0 ws =>
    have hc := common_ok (w0 := w0) (ws := ws) (hws w0 List.mem_cons_self).1 (fun w m => (hws w (List.mem_cons_of_mem _ m)).1) (by have := (hws w0 List.mem_cons_self).2; rw [sizeLine_eq]; omega)
    have hst := start_ok (w0 := w0) (ws := ws) (hws w0 List.mem_cons_self).1 (fun w m => (hws w (List.mem_cons_of_mem _ m)).1) (by have := (hws w0 List.mem_cons_self).2; omega) (fun w m => by have := (hws w (List.mem_cons_of_mem _ m)).2; omega) (by simp at hw; omega)
    obtain ⟨_, ec, rfl⟩ := hc
    obtain ⟨_, es, rfl⟩ := hst
    rw [List.map_cons] at ec es
    have ht0 : Tx (foldS w0 ws) := (hws w0 List.mem_cons_self).1.sub (foldS_len ws w0).2
    have g1 := same_ok 40 (S (foldS w0 ws)) ht0
    have g2 := same_ok 40 (.list (S w0 :: ws.map S)) ⟨by simp at hw ⊢; omega, fun z hz => by
      rw [← List.map_cons] at hz
      obtain ⟨w, m, rfl⟩ := List.mem_map.mp hz
      exact (hws w m).1⟩
    simp -implicitDefEqProofs only [bind_bind, ok_bind, dOnly_ok, callC_0, callC_1, callC_2, callC_3, callC_n, putC_0, putC_1, putC_2, putC_3, putC_n, unl_l, unn_n, finE_rt, finN_rt, finN_nx, upC_rt, upC_bk, upC_ct, dnC_nx, dnC_rt, seqC_nx, seqC_rt, seqC_bk, seqC_ct, dropC_0, dropC_1, dropC_2, dropC_3, cellL_0, cellL_1, cellL_2, EI, if_true, if_false, Bool.false_eq_true, decide_true, decide_false, Bool.not_true, Bool.not_false, S_nil, reduceIte, List.map_cons, List.map_nil, List.tail_cons, IS, ec, es, g1, g2]
    exact .ret rfl
theorem law_true : ∀ ns : List Int, ns.length ≤ 63 → (∀ z ∈ ns, Builtin.Int.intBits z ≤ 1048576) → m_law (.list (ns.map PyData.int)) = .ok (.bool true, []) := fun ns hl _ => by
  obtain ⟨_, e, rfl⟩ := law_main ns hl
  exact e
end Dd
set_option Elab.async false
set_option linter.all false
set_option maxRecDepth 100000
set_option maxHeartbeats 4000000
namespace Dd
open PySem PySem.Spec PyProof.Rows L2
def topS (i : Nat) : Stmt := PySem.Challenge.pw_pagemold_k02_shift_a_lag.main.body.getD i (.Pass ⟨0, 0, 0, 0⟩)
abbrev s__law_pool : Stmt := topS 7
abbrev n__law_pool : List Str := ["script", "k", "cell"]
theorem sc__law_pool : FnScope n__law_pool ["script", "k"] (defScope s__law_pool) := ⟨rfl, rfl, rfl, by decide +kernel, rfl, by decide +kernel, by decide +kernel⟩
abbrev s__law_letters : Stmt := topS 10
abbrev n__law_letters : List Str := ["letters"]
theorem sc__law_letters : FnScope n__law_letters [] (defScope s__law_letters) := ⟨rfl, rfl, rfl, by decide +kernel, rfl, by decide +kernel, by decide +kernel⟩
abbrev s__law_draw : Stmt := topS 8
abbrev n__law_draw : List Str := ["pool", "size", "rest", "mixed"]
theorem sc__law_draw : FnScope n__law_draw ["pool", "size"] (defScope s__law_draw) := ⟨rfl, rfl, rfl, by decide +kernel, rfl, by decide +kernel, by decide +kernel⟩
abbrev s__law_alphabet : Stmt := topS 11
abbrev n__law_alphabet : List Str := ["pool", "letters"]
theorem sc__law_alphabet : FnScope n__law_alphabet ["pool"] (defScope s__law_alphabet) := ⟨rfl, rfl, rfl, by decide +kernel, rfl, by decide +kernel, by decide +kernel⟩
abbrev s__law_text : Stmt := topS 9
abbrev n__law_text : List Str := ["pool", "letters", "size", "k"]
theorem sc__law_text : FnScope n__law_text ["pool", "letters", "size"] (defScope s__law_text) := ⟨rfl, rfl, rfl, by decide +kernel, rfl, by decide +kernel, by decide +kernel⟩
abbrev s__law_same : Stmt := topS 12
abbrev n__law_same : List Str := ["told", "due", "k"]
theorem sc__law_same : FnScope n__law_same ["told", "due"] (defScope s__law_same) := ⟨rfl, rfl, rfl, by decide +kernel, rfl, by decide +kernel, by decide +kernel⟩
abbrev s_is_lag : Stmt := topS 2
abbrev n_is_lag : List Str := ["value"]
theorem sc_is_lag : FnScope n_is_lag ["value"] (defScope s_is_lag) := ⟨rfl, rfl, rfl, by decide +kernel, rfl, by decide +kernel, by decide +kernel⟩
abbrev s__law_judges : Stmt := topS 17
abbrev n__law_judges : List Str := ["left", "right", "both", "odd", "value"]
theorem sc__law_judges : FnScope n__law_judges ["left", "right"] (defScope s__law_judges) := ⟨rfl, rfl, rfl, by decide +kernel, rfl, by decide +kernel, by decide +kernel⟩
abbrev s__law_lag : Stmt := topS 13
abbrev n__law_lag : List Str := ["left", "right"]
theorem sc__law_lag : FnScope n__law_lag ["left", "right"] (defScope s__law_lag) := ⟨rfl, rfl, rfl, by decide +kernel, rfl, by decide +kernel, by decide +kernel⟩
abbrev s_shift : Stmt := topS 3
abbrev n_shift : List Str := ["lag", "left", "right", "left_text", "right_text"]
theorem sc_shift : FnScope n_shift ["lag", "left", "right"] (defScope s_shift) := ⟨rfl, rfl, rfl, by decide +kernel, rfl, by decide +kernel, by decide +kernel⟩
abbrev s__law_follows : Stmt := topS 16
abbrev n__law_follows : List Str := ["steps", "lag", "left", "right", "step", "due"]
theorem sc__law_follows : FnScope n__law_follows ["steps"] (defScope s__law_follows) := ⟨rfl, rfl, rfl, by decide +kernel, rfl, by decide +kernel, by decide +kernel⟩
abbrev s_shared_start : Stmt := topS 4
abbrev n_shared_start : List Str := ["first", "second", "count", "one", "other"]
theorem sc_shared_start : FnScope n_shared_start ["first", "second"] (defScope s_shared_start) := ⟨rfl, rfl, rfl, by decide +kernel, rfl, by decide +kernel, by decide +kernel⟩
abbrev s_common_start : Stmt := topS 5
abbrev n_common_start : List Str := ["words", "start", "word"]
theorem sc_common_start : FnScope n_common_start ["words"] (defScope s_common_start) := ⟨rfl, rfl, rfl, by decide +kernel, rfl, by decide +kernel, by decide +kernel⟩
abbrev s__law_start : Stmt := topS 14
abbrev n__law_start : List Str := ["words", "size", "k", "text"]
theorem sc__law_start : FnScope n__law_start ["words"] (defScope s__law_start) := ⟨rfl, rfl, rfl, by decide +kernel, rfl, by decide +kernel, by decide +kernel⟩
abbrev s__law_steps_of : Stmt := topS 15
abbrev n__law_steps_of : List Str := ["pool", "text", "other", "steps", "left", "right", "k", "sizes"]
theorem sc__law_steps_of : FnScope n__law_steps_of ["pool", "text", "other"] (defScope s__law_steps_of) := ⟨rfl, rfl, rfl, by decide +kernel, rfl, by decide +kernel, by decide +kernel⟩
abbrev s_law : Stmt := topS 18
abbrev n_law : List Str := ["script", "pool", "letters", "text", "other", "at", "words", "k", "given"]
theorem sc_law : FnScope n_law ["script"] (defScope s_law) := ⟨rfl, rfl, rfl, by decide +kernel, rfl, by decide +kernel, by decide +kernel⟩
structure Txt (K : PySem.W.Frag) (mg : Str → Option Value) where
  a__law_pool : Addr
  d__law_pool : FuncData
  F__law_pool : Fun K "_law_pool" "_law_pool" s__law_pool a__law_pool d__law_pool
  m__law_pool : mg "_law_pool" = some (.ref a__law_pool)
  a__law_letters : Addr
  d__law_letters : FuncData
  F__law_letters : Fun K "_law_letters" "_law_letters" s__law_letters a__law_letters d__law_letters
  m__law_letters : mg "_law_letters" = some (.ref a__law_letters)
  a__law_draw : Addr
  d__law_draw : FuncData
  F__law_draw : Fun K "_law_draw" "_law_draw" s__law_draw a__law_draw d__law_draw
  m__law_draw : mg "_law_draw" = some (.ref a__law_draw)
  a__law_alphabet : Addr
  d__law_alphabet : FuncData
  F__law_alphabet : Fun K "_law_alphabet" "_law_alphabet" s__law_alphabet a__law_alphabet d__law_alphabet
  m__law_alphabet : mg "_law_alphabet" = some (.ref a__law_alphabet)
  a__law_text : Addr
  d__law_text : FuncData
  F__law_text : Fun K "_law_text" "_law_text" s__law_text a__law_text d__law_text
  m__law_text : mg "_law_text" = some (.ref a__law_text)
  a__law_same : Addr
  d__law_same : FuncData
  F__law_same : Fun K "_law_same" "_law_same" s__law_same a__law_same d__law_same
  m__law_same : mg "_law_same" = some (.ref a__law_same)
  a_is_lag : Addr
  d_is_lag : FuncData
  F_is_lag : Fun K "is_lag" "is_lag" s_is_lag a_is_lag d_is_lag
  m_is_lag : mg "is_lag" = some (.ref a_is_lag)
  a__law_judges : Addr
  d__law_judges : FuncData
  F__law_judges : Fun K "_law_judges" "_law_judges" s__law_judges a__law_judges d__law_judges
  m__law_judges : mg "_law_judges" = some (.ref a__law_judges)
  a__law_lag : Addr
  d__law_lag : FuncData
  F__law_lag : Fun K "_law_lag" "_law_lag" s__law_lag a__law_lag d__law_lag
  m__law_lag : mg "_law_lag" = some (.ref a__law_lag)
  a_shift : Addr
  d_shift : FuncData
  F_shift : Fun K "shift" "shift" s_shift a_shift d_shift
  m_shift : mg "shift" = some (.ref a_shift)
  a__law_follows : Addr
  d__law_follows : FuncData
  F__law_follows : Fun K "_law_follows" "_law_follows" s__law_follows a__law_follows d__law_follows
  m__law_follows : mg "_law_follows" = some (.ref a__law_follows)
  a_shared_start : Addr
  d_shared_start : FuncData
  F_shared_start : Fun K "shared_start" "shared_start" s_shared_start a_shared_start d_shared_start
  m_shared_start : mg "shared_start" = some (.ref a_shared_start)
  a_common_start : Addr
  d_common_start : FuncData
  F_common_start : Fun K "common_start" "common_start" s_common_start a_common_start d_common_start
  m_common_start : mg "common_start" = some (.ref a_common_start)
  a__law_start : Addr
  d__law_start : FuncData
  F__law_start : Fun K "_law_start" "_law_start" s__law_start a__law_start d__law_start
  m__law_start : mg "_law_start" = some (.ref a__law_start)
  a__law_steps_of : Addr
  d__law_steps_of : FuncData
  F__law_steps_of : Fun K "_law_steps_of" "_law_steps_of" s__law_steps_of a__law_steps_of d__law_steps_of
  m__law_steps_of : mg "_law_steps_of" = some (.ref a__law_steps_of)
  a_law : Addr
  d_law : FuncData
  F_law : Fun K "law" "law" s_law a_law d_law
  m_law : mg "law" = some (.ref a_law)
  z_bool : mg "bool" = none
  z_int : mg "int" = none
  z_isinstance : mg "isinstance" = none
  z_len : mg "len" = none
  z_list : mg "list" = none
  z_range : mg "range" = none
  z_str : mg "str" = none
  z_tuple : mg "tuple" = none
  z_zip : mg "zip" = none
  v_NO_LAG : V
  u_NO_LAG : Value
  hm_NO_LAG : mg "NO_LAG" = some u_NO_LAG
  hr_NO_LAG : RelV v_NO_LAG u_NO_LAG
  hd_NO_LAG : Dp K (fun _ => none) v_NO_LAG c_NO_LAG
section
variable {P : Program} {w : World} {K : PySem.W.Frag} {mg : Str → Option Value} {base : Heap}
theorem b__law_pool (T : Txt K mg) : Binds K T.d__law_pool ["script", "k"] [] := T.F__law_pool.binds (ps := ["script", "k"]) fun _ _ _ _ _ _ us hl => match us, hl with | [_, _], _ => rfl
theorem b__law_letters (T : Txt K mg) : Binds K T.d__law_letters [] [] := T.F__law_letters.binds (ps := []) fun _ _ _ _ _ _ us hl => match us, hl with | [], _ => rfl
theorem b__law_draw (T : Txt K mg) : Binds K T.d__law_draw ["pool", "size"] [] := T.F__law_draw.binds (ps := ["pool", "size"]) fun _ _ _ _ _ _ us hl => match us, hl with | [_, _], _ => rfl
theorem b__law_alphabet (T : Txt K mg) : Binds K T.d__law_alphabet ["pool"] [] := T.F__law_alphabet.binds (ps := ["pool"]) fun _ _ _ _ _ _ us hl => match us, hl with | [_], _ => rfl
theorem b__law_text (T : Txt K mg) : Binds K T.d__law_text ["pool", "letters", "size"] [] := T.F__law_text.binds (ps := ["pool", "letters", "size"]) fun _ _ _ _ _ _ us hl => match us, hl with | [_, _, _], _ => rfl
theorem b__law_same (T : Txt K mg) : Binds K T.d__law_same ["told", "due"] [] := T.F__law_same.binds (ps := ["told", "due"]) fun _ _ _ _ _ _ us hl => match us, hl with | [_, _], _ => rfl
theorem b_is_lag (T : Txt K mg) : Binds K T.d_is_lag ["value"] [] := T.F_is_lag.binds (ps := ["value"]) fun _ _ _ _ _ _ us hl => match us, hl with | [_], _ => rfl
theorem b__law_judges (T : Txt K mg) : Binds K T.d__law_judges ["left", "right"] [] := T.F__law_judges.binds (ps := ["left", "right"]) fun _ _ _ _ _ _ us hl => match us, hl with | [_, _], _ => rfl
theorem b__law_lag (T : Txt K mg) : Binds K T.d__law_lag ["left", "right"] [] := T.F__law_lag.binds (ps := ["left", "right"]) fun _ _ _ _ _ _ us hl => match us, hl with | [_, _], _ => rfl
theorem b_shift (T : Txt K mg) : Binds K T.d_shift ["lag", "left", "right"] [] := T.F_shift.binds (ps := ["lag", "left", "right"]) fun _ _ _ _ _ _ us hl => match us, hl with | [_, _, _], _ => rfl
theorem b__law_follows (T : Txt K mg) : Binds K T.d__law_follows ["steps"] [] := T.F__law_follows.binds (ps := ["steps"]) fun _ _ _ _ _ _ us hl => match us, hl with | [_], _ => rfl
theorem b_shared_start (T : Txt K mg) : Binds K T.d_shared_start ["first", "second"] [] := T.F_shared_start.binds (ps := ["first", "second"]) fun _ _ _ _ _ _ us hl => match us, hl with | [_, _], _ => rfl
theorem b_common_start (T : Txt K mg) : Binds K T.d_common_start ["words"] [] := T.F_common_start.binds (ps := ["words"]) fun _ _ _ _ _ _ us hl => match us, hl with | [_], _ => rfl
theorem b__law_start (T : Txt K mg) : Binds K T.d__law_start ["words"] [] := T.F__law_start.binds (ps := ["words"]) fun _ _ _ _ _ _ us hl => match us, hl with | [_], _ => rfl
theorem b__law_steps_of (T : Txt K mg) : Binds K T.d__law_steps_of ["pool", "text", "other"] [] := T.F__law_steps_of.binds (ps := ["pool", "text", "other"]) fun _ _ _ _ _ _ us hl => match us, hl with | [_, _, _], _ => rfl
theorem b_law (T : Txt K mg) : Binds K T.d_law ["script"] [] := T.F_law.binds (ps := ["script"]) fun _ _ _ _ _ _ us hl => match us, hl with | [_], _ => rfl
theorem ok__law_pool (T : Txt K mg) : FnOk P w K mg base CX0 1 T.a__law_pool T.d__law_pool ["script", "k"] (prm K mg [.d, .d] (RL K) m__law_pool) := by
  refine fnE (k := 0) T.F__law_pool sc__law_pool rfl (by decide) fun cdv A outer s H E hr => fun x_script x_k => ⟨_, (ss_asg 2 sc__law_pool.nd ed_int (fun v1 => (ss_seq (nf1 := (fun (n : PD) => ([some (.d x_script), some (.d x_k), some (.d n)], [], []))) (s1_if (tp_cmp o_lt (EP.s (ed_var 1)) (EP.s (ep_callB c_len T.z_len (EP.s (ed_var 0))))) (ss_asg 2 sc__law_pool.nd (ep_callTy c_int T.z_int (EP.s (ed_ix (EP.s (ed_var 0)) (EP.s (ed_var 1))))) (fun v7 => (ss_nil (n := (v7)) rfl .refl (.keep (.keep (.keep .nil)))))) (ss_nil (n := (v1)) rfl .refl (.keep (.keep (.keep .nil))))) (fun n11 => (ss_seq (nf1 := (fun (n : PD) => ([some (.d x_script), some (.d x_k), some (.d n)], [], []))) (s1_if (tp_cmp o_lt (EP.s (ed_var 2)) (EP.s ed_int)) (ss_asg 2 sc__law_pool.nd (ed_neg (EP.s (ed_var 2))) (fun v16 => (ss_nil (n := (v16)) rfl .refl (.keep (.keep (.keep .nil)))))) (ss_nil (n := (n11)) rfl .refl (.keep (.keep (.keep .nil))))) (fun n18 => (ss_ret (mk := fun t26 => (t26, [])) (el_lst (ap_cons (ed_var 2) (ap_cons (ep_op o_mul (EP.s ed_int) (EP.s (ed_var 1))) ap_nil))) (fun _ => .refl) (fun _ _ _ _ _ _ t r => back_l _ _ _ _ _ _ t r)))))))), ?_⟩
  rfl
theorem ok__law_letters (T : Txt K mg) : FnOk P w K mg base CX0 1 T.a__law_letters T.d__law_letters [] (prm K mg [] (RD K) m__law_letters) := by
  refine fnE (k := 0) T.F__law_letters sc__law_letters rfl (by decide) fun cdv A outer s H E hr => ⟨_, (ss_asg 0 sc__law_letters.nd ed_str (fun v1 => (ss_ret (mk := fun t5 => (t5, [])) (ep_op o_add (EP.s (ed_var 0)) (EP.s ed_str)) (fun _ => .refl) (fun _ _ _ _ _ _ t r => back_d _ _ _ _ _ _ t r)))), ?_⟩
  rfl
theorem ok__law_draw (T : Txt K mg) : FnOk P w K mg base CX0 1 T.a__law_draw T.d__law_draw ["pool", "size"] (prm K mg [.c, .d] (RD K) m__law_draw) := by
  refine fnE (k := 0) T.F__law_draw sc__law_draw rfl (by decide) fun cdv A outer s H E hr => fun a_pool l_pool x_size => ⟨_, (ss_ifE (tp_cmp o_ge (EP.s (ed_ix (es_cell 0 0) (EP.s ed_int))) (EP.s (ep_op o_pow (EP.s ed_int) (EP.s ed_int)))) (ss_asg 2 sc__law_draw.nd (ep_op o_sub (EP.s (ed_ix (es_cell 0 0) (EP.s ed_int))) (EP.s (ep_op o_pow (EP.s ed_int) (EP.s ed_int)))) (fun v9 => (ss_setP 0 0 (ep_op o_add (EP.s (ep_op o_pow (EP.s ed_int) (EP.s ed_int))) (EP.s (ep_op o_fdiv (EP.s (ed_var 2)) (EP.s (ed_var 1))))) ed_int (fun l18 => (ss_ret (mk := fun t29 => (t29, [CO.l l18])) (ep_op o_mod (EP.s (ep_callTy c_int T.z_int (EP.s (ed_var 2)))) (EP.s (ed_var 1))) (fun _ => .refl) (fun _ _ _ _ _ _ t r => back_d _ _ _ _ _ _ t r)))))) (ss_setP 0 0 (ep_op o_add (EP.s (ed_ix (es_cell 0 0) (EP.s ed_int))) (EP.s ed_int)) ed_int (fun l32 => (ss_asg 3 sc__law_draw.nd (ep_op o_mod (EP.s (ep_callTy c_int T.z_int (EP.s (ep_op o_add (EP.s (ep_op o_mul (EP.s (ed_ix (es_cell 0 0) (EP.s ed_int))) (EP.s ed_int))) (EP.s (ep_op o_mul (EP.s (ed_ix (es_cell 0 0) (EP.s ed_int))) (EP.s ed_int))))))) (EP.s ed_int)) (fun v37 => (ss_asg 3 sc__law_draw.nd (ep_op o_mod (EP.s (ep_callTy c_int T.z_int (EP.s (ep_op o_add (EP.s (ep_op o_mul (EP.s (ed_var 3)) (EP.s (ed_var 3)))) (EP.s (ep_op o_mul (EP.s (ed_ix (es_cell 0 0) (EP.s ed_int))) (EP.s ed_int))))))) (EP.s ed_int)) (fun v51 => (ss_asg 3 sc__law_draw.nd (ep_op o_mod (EP.s (ep_callTy c_int T.z_int (EP.s (ep_op o_add (EP.s (ep_op o_mul (EP.s (ed_var 3)) (EP.s (ed_var 3)))) (EP.s (ed_ix (es_cell 0 0) (EP.s ed_int))))))) (EP.s ed_int)) (fun v63 => (ss_ret (mk := fun t79 => (t79, [CO.l l32])) (ep_op o_mod (EP.s (ep_callTy c_int T.z_int (EP.s (ep_op o_fdiv (EP.s (ed_var 3)) (EP.s ed_int))))) (EP.s (ed_var 1))) (fun _ => .refl) (fun _ _ _ _ _ _ t r => back_d _ _ _ _ _ _ t r))))))))))), ?_⟩
  rfl
theorem ok__law_alphabet (T : Txt K mg) : FnOk P w K mg base CX0 2 T.a__law_alphabet T.d__law_alphabet ["pool"] (prm K mg [.c] (RD K) m__law_alphabet) := by
  refine fnE (k := 1) T.F__law_alphabet sc__law_alphabet rfl (by decide) fun cdv A outer s H E hr => fun a_pool l_pool => ⟨_, (ss_asg 1 sc__law_alphabet.nd (ep_call0 (ok__law_letters T) (hr.mono (by omega)) T.m__law_letters T.F__law_letters.kp (b__law_letters T) passN) (fun v1 => (ss_ifEX (tx_cmp (o_eq hr.units) (ex_call (ok__law_draw T) back_d (hr.mono (by omega)) T.m__law_draw T.F__law_draw.kp (b__law_draw T) passN (gx_c 0 0 (gx_d ed_int gx_nil))) (ex_ul (f := fun cs => cs) fun p9 => (ex_un (f := fun cs => CO.l p9 :: cs) (EP.x (EP.s ed_int))))) (ss_ul (f := fun cs => cs) fun p14 => (ss_un (f := fun cs => CO.l p14 :: cs) (ss_retX (mk := fun d cs => (d, cs)) (ex_op o_add (ex_ix (EP.x (ed_var 1)) (ex_ul (f := fun cs => cs) fun p17 => (ex_un (f := fun cs => CO.l p17 :: cs) (EX.s (ex_call (ok__law_draw T) back_d (hr.mono (by omega)) T.m__law_draw T.F__law_draw.kp (b__law_draw T) passN (gx_c 0 0 (gx_d ed_int gx_nil))))))) (ex_ul (f := fun cs => cs) fun p26 => (ex_un (f := fun cs => CO.l p26 :: cs) (EX.s (ex_ix (EP.x (ed_var 1)) (ex_ul (f := fun cs => cs) fun p28 => (ex_un (f := fun cs => CO.l p28 :: cs) (EX.s (ex_call (ok__law_draw T) back_d (hr.mono (by omega)) T.m__law_draw T.F__law_draw.kp (b__law_draw T) passN (gx_c 0 0 (gx_d ed_int gx_nil))))))))))) (fun _ _ => .refl) (fun _ _ _ _ _ _ _ t r => back_d _ _ _ _ _ _ t r)))) (ss_ul (f := fun cs => cs) fun p40 => (ss_un (f := fun cs => CO.l p40 :: cs) (ss_ret (mk := fun t42 => (t42, [CO.l p40])) (ed_var 1) (fun _ => .refl) (fun _ _ _ _ _ _ t r => back_d _ _ _ _ _ _ t r))))))), ?_⟩
  rfl
theorem ok__law_text (T : Txt K mg) : FnOk P w K mg base CX0 2 T.a__law_text T.d__law_text ["pool", "letters", "size"] (prm K mg [.c, .d, .d] (RD K) m__law_text) := by
  refine fnE (k := 1) T.F__law_text sc__law_text rfl (by decide) fun cdv A outer s H E hr => fun a_pool l_pool x_letters x_size => ⟨_, (ss_retX (mk := fun d cs => (d, cs)) (xd_join (EP.x (EP.s ed_str)) (ex_ul (f := fun cs => cs) fun p3 => (ex_un (f := fun cs => CO.l p3 :: cs) (EX.s (EX.l (xl_lc (own := [("k", 3)]) rfl sc__law_text.nd (blkOk_by (own := [("k", 3)]) (N := n__law_text) (sc := defScope s__law_text) (by decide +kernel)) (lc_ofX (un := Out.ok) (ρf := fun k6 => [some (.c a_pool), some (.d x_letters), some (.d x_size), some (.d k6)]) (IX.x (ix_range1 T.z_range (ed_var 2))) (fun _ _ _ _ _ => tg_name 3 sc__law_text.nd) (fun _ => rfl) (fun _ _ _ _ _ k6 => (fun _ => tsx_nil)) (fun _ _ _ _ _ k6 => (ex_ul (f := fun cs => cs) fun p7 => (ex_un (f := fun cs => CO.l p7 :: cs) (ex_ix (EP.x (ed_var 1)) (ex_ul (f := fun cs => cs) fun p9 => (ex_un (f := fun cs => CO.l p9 :: cs) (EX.s (ex_call (ok__law_draw T) back_d (hr.mono (by omega)) T.m__law_draw T.F__law_draw.kp (b__law_draw T) passN (gx_c 0 0 (gx_d (ep_callB c_len T.z_len (EP.s (ed_var 1))) gx_nil)))))))))) (fun _ _ => trivial)))))))) (fun _ _ => .refl) (fun _ _ _ _ _ _ _ t r => back_d _ _ _ _ _ _ t r)), ?_⟩
  rfl
theorem ok__law_same (T : Txt K mg) : ∀ n : Nat, FnOk P w K mg base CX0 (1 + n) T.a__law_same T.d__law_same ["told", "due"] (prm K mg [.d, .d] (RD K) (m__law_same n))
  | 0 => fnE T.F__law_same sc__law_same rfl (by decide) fun cdv A outer s H E hr => fun x_told x_due => ⟨.bad, ss_bad, rfl⟩
  | n + 1 => by
    have ih := ok__law_same T n
    refine fnE (k := 1 + n) T.F__law_same sc__law_same rfl (by decide) fun cdv A outer s H E hr => fun x_told x_due => ⟨_, (ss_ifE (tp_cmp o_is (EP.s (ed_var 1)) (EP.s ed_none)) (ss_ret (mk := fun t9 => (t9, [])) (ed_cmp o_is (EP.s (ed_var 0)) (EP.s ed_none)) (fun _ => .refl) (fun _ _ _ _ _ _ t r => back_d _ _ _ _ _ _ t r)) (ss_ifE (tp_cmp o_is (EP.s (ed_var 1)) (EP.s ed_bool)) (ss_ret (mk := fun t18 => (t18, [])) (ed_cmp o_is (EP.s (ed_var 0)) (EP.s ed_bool)) (fun _ => .refl) (fun _ _ _ _ _ _ t r => back_d _ _ _ _ _ _ t r)) (ss_ifE (tp_cmp o_is (EP.s (ed_var 1)) (EP.s ed_bool)) (ss_ret (mk := fun t27 => (t27, [])) (ed_cmp o_is (EP.s (ed_var 0)) (EP.s ed_bool)) (fun _ => .refl) (fun _ _ _ _ _ _ t r => back_d _ _ _ _ _ _ t r)) (ss_ifE (tp_truth (EP.s (ed_isi (T := "str") T.z_isinstance T.z_str (EP.s (ed_var 1))))) (ss_ret (mk := fun t39 => (t39, [])) (ed_and (ed_isi (T := "str") T.z_isinstance T.z_str (EP.s (ed_var 0))) (ed_one (ed_cmp (o_eq hr.units) (EP.s (ed_var 0)) (EP.s (ed_var 1))))) (fun _ => .refl) (fun _ _ _ _ _ _ t r => back_d _ _ _ _ _ _ t r)) (ss_ifE (tp_truth (EP.s (ed_isi (T := "int") T.z_isinstance T.z_int (EP.s (ed_var 1))))) (ss_ret (mk := fun t56 => (t56, [])) (ed_and (ed_isi (T := "int") T.z_isinstance T.z_int (EP.s (ed_var 0))) (ed_and (ed_not (ed_isi (T := "bool") T.z_isinstance T.z_bool (EP.s (ed_var 0)))) (ed_one (ed_cmp (o_eq hr.units) (EP.s (ed_var 0)) (EP.s (ed_var 1)))))) (fun _ => .refl) (fun _ _ _ _ _ _ t r => back_d _ _ _ _ _ _ t r)) (ss_ifE (WP.t (wp_or (tp_cmp (o_ne hr.units) (EP.s (ed_isi (T := "tuple") T.z_isinstance T.z_tuple (EP.s (ed_var 1)))) (EP.s (ed_isi (T := "tuple") T.z_isinstance T.z_tuple (EP.s (ed_var 0))))) (wp_or1 (tp_cmp (o_ne hr.units) (EP.s (ed_isi (T := "list") T.z_isinstance T.z_list (EP.s (ed_var 1)))) (EP.s (ed_isi (T := "list") T.z_isinstance T.z_list (EP.s (ed_var 0)))))))) (ss_ret (mk := fun t69 => (t69, [])) ed_bool (fun _ => .refl) (fun _ _ _ _ _ _ t r => back_d _ _ _ _ _ _ t r)) (ss_ifE (tp_cmp (o_ne hr.units) (EP.s (ep_callB c_len T.z_len (EP.s (ed_var 0)))) (EP.s (ep_callB c_len T.z_len (EP.s (ed_var 1))))) (ss_ret (mk := fun t77 => (t77, [])) ed_bool (fun _ => .refl) (fun _ _ _ _ _ _ t r => back_d _ _ _ _ _ _ t r)) (ss_ret (mk := fun t102 => (t102, [])) (ed_cmp (o_eq hr.units) (EP.s (EP.l (el_lc (own := [("k", 2)]) rfl sc__law_same.nd (blkOk_by (own := [("k", 2)]) (N := n__law_same) (sc := defScope s__law_same) (by decide +kernel)) (lc_ofP (un := Out.ok) (ρf := fun k81 => [some (.d x_told), some (.d x_due), some (.d k81)]) (ix_range1 T.z_range (ep_callB c_len T.z_len (EP.s (ed_var 1)))) (fun _ _ _ _ _ => tg_name 2 sc__law_same.nd) (fun _ => rfl) (fun _ _ _ _ _ k81 => (ts_one (tp_not (tp_truth (EP.s (ep_call ih back_d (hr.mono (by omega)) T.m__law_same T.F__law_same.kp (b__law_same T) passN (ap_cons (ed_ix (EP.s (ed_var 0)) (EP.s (ed_var 2))) (ap_cons (ed_ix (EP.s (ed_var 1)) (EP.s (ed_var 2))) ap_nil)))))))) (fun _ _ _ _ _ k81 => (ed_var 2)) (fun _ _ => trivial))))) (EP.s (EP.l (el_lst ap_nil)))) (fun _ => .refl) (fun _ _ _ _ _ _ t r => back_d _ _ _ _ _ _ t r))))))))), ?_⟩
    rfl
theorem ok_is_lag (T : Txt K mg) : FnOk P w K mg base CX0 1 T.a_is_lag T.d_is_lag ["value"] (prm K mg [.d] (RD K) m_is_lag) := by
  refine fnE (k := 0) T.F_is_lag sc_is_lag rfl (by decide) fun cdv A outer s H E hr => fun x_value => ⟨_, (ss_ifE (WP.t (wp_or (tp_not (tp_truth (EP.s (ed_isi (T := "tuple") T.z_isinstance T.z_tuple (EP.s (ed_var 0)))))) (wp_or1 (tp_cmp (o_ne hr.units) (EP.s (ep_callB c_len T.z_len (EP.s (ed_var 0)))) (EP.s ed_int))))) (ss_ret (mk := fun t11 => (t11, [])) ed_bool (fun _ => .refl) (fun _ _ _ _ _ _ t r => back_d _ _ _ _ _ _ t r)) (ss_ifE (WP.t (wp_or (tp_not (tp_truth (EP.s (ed_isi (T := "str") T.z_isinstance T.z_str (EP.s (ed_ix (EP.s (ed_var 0)) (EP.s ed_int))))))) (wp_or1 (tp_not (tp_truth (EP.s (ed_isi (T := "str") T.z_isinstance T.z_str (EP.s (ed_ix (EP.s (ed_var 0)) (EP.s ed_int)))))))))) (ss_ret (mk := fun t26 => (t26, [])) ed_bool (fun _ => .refl) (fun _ _ _ _ _ _ t r => back_d _ _ _ _ _ _ t r)) (ss_ret (mk := fun t40 => (t40, [])) (ed_or (ed_cmp (o_eq hr.units) (EP.s (ed_ix (EP.s (ed_var 0)) (EP.s ed_int))) (EP.s ed_str)) (ed_one (ed_cmp (o_eq hr.units) (EP.s (ed_ix (EP.s (ed_var 0)) (EP.s ed_int))) (EP.s ed_str)))) (fun _ => .refl) (fun _ _ _ _ _ _ t r => back_d _ _ _ _ _ _ t r)))), ?_⟩
  rfl
theorem ok__law_judges (T : Txt K mg) : FnOk P w K mg base CX0 42 T.a__law_judges T.d__law_judges ["left", "right"] (prm K mg [.d, .d] (RD K) m__law_judges) := by
  refine fnE (k := 41) T.F__law_judges sc__law_judges rfl (by decide) fun cdv A outer s H E hr => fun x_left x_right => ⟨_, (ss_asg 2 sc__law_judges.nd (ed_or (ed_cmp (o_eq hr.units) (EP.s (ed_var 0)) (EP.s ed_str)) (ed_one (ed_cmp (o_eq hr.units) (EP.s (ed_var 1)) (EP.s ed_str)))) (fun v1 => (ss_ifE (tp_not (tp_truth (EP.s (ep_call (ok__law_same T 40) back_d (hr.mono (by omega)) T.m__law_same T.F__law_same.kp (b__law_same T) passN (ap_cons (EP.l (el_lst (ap_cons (ep_call (ok_is_lag T) back_d (hr.mono (by omega)) T.m_is_lag T.F_is_lag.kp (b_is_lag T) passN (ap_cons (ed_tup (ap_cons (ed_var 0) (ap_cons ed_str ap_nil))) ap_nil)) (ap_cons (ep_call (ok_is_lag T) back_d (hr.mono (by omega)) T.m_is_lag T.F_is_lag.kp (b_is_lag T) passN (ap_cons (ed_tup (ap_cons ed_str (ap_cons (ed_var 1) ap_nil))) ap_nil)) (ap_cons (ep_call (ok_is_lag T) back_d (hr.mono (by omega)) T.m_is_lag T.F_is_lag.kp (b_is_lag T) passN (ap_cons (ed_tup (ap_cons (ed_var 0) (ap_cons (ed_var 1) ap_nil))) ap_nil)) ap_nil))))) (ap_cons (EP.l (el_lst (ap_cons ed_bool (ap_cons ed_bool (ap_cons (ed_var 2) ap_nil))))) ap_nil)))))) (ss_ret (mk := fun t58 => (t58, [])) ed_bool (fun _ => .refl) (fun _ _ _ _ _ _ t r => back_d _ _ _ _ _ _ t r)) (ss_asg 3 sc__law_judges.nd (EP.l (el_lst (ap_cons (EP.l (el_lst (ap_cons (ed_var 0) (ap_cons ed_str ap_nil)))) (ap_cons (ed_tup (ap_cons (ed_var 0) ap_nil)) (ap_cons (ed_tup (ap_cons (ed_var 0) (ap_cons ed_str (ap_cons ed_str ap_nil)))) (ap_cons (ed_tup ap_nil) (ap_cons ed_none (ap_cons ed_str (ap_cons ed_int (ap_cons ed_bool (ap_cons (ed_tup (ap_cons ed_str (ap_cons ed_int ap_nil))) (ap_cons (ed_tup (ap_cons ed_none (ap_cons ed_str ap_nil))) (ap_cons (ed_tup (ap_cons (ed_tup (ap_cons ed_str (ap_cons ed_str ap_nil))) (ap_cons ed_str ap_nil))) (ap_cons (EP.l (el_lst (ap_cons ed_str (ap_cons ed_str ap_nil)))) ap_nil)))))))))))))) (fun v59 => (ss_ret (mk := fun t143 => (t143, [])) (ed_cmp (o_eq hr.units) (EP.s (EP.l (el_lc (own := [("value", 4)]) rfl sc__law_judges.nd (blkOk_by (own := [("value", 4)]) (N := n__law_judges) (sc := defScope s__law_judges) (by decide +kernel)) (lc_ofP (un := Out.ok) (ρf := fun k128 => [some (.d x_left), some (.d x_right), some (.d v1), some (.d v59), some (.d k128)]) (ix_data (ed_var 3)) (fun _ _ _ _ _ => tg_name 4 sc__law_judges.nd) (fun _ => rfl) (fun _ _ _ _ _ k128 => (ts_one (tp_cmp o_isNot (EP.s (ep_call (ok_is_lag T) back_d (hr.mono (by omega)) T.m_is_lag T.F_is_lag.kp (b_is_lag T) passN (ap_cons (ed_var 4) ap_nil))) (EP.s ed_bool)))) (fun _ _ _ _ _ k128 => (ed_var 4)) (fun _ _ => trivial))))) (EP.s (EP.l (el_lst ap_nil)))) (fun _ => .refl) (fun _ _ _ _ _ _ t r => back_d _ _ _ _ _ _ t r))))))), ?_⟩
  rfl
theorem ok__law_lag (T : Txt K mg) : FnOk P w K mg base CX0 1 T.a__law_lag T.d__law_lag ["left", "right"] (prm K mg [.d, .d] (RD K) m__law_lag) := by
  refine fnE (k := 0) T.F__law_lag sc__law_lag rfl (by decide) fun cdv A outer s H E hr => fun x_left x_right => ⟨_, (ss_ifE (tp_cmp (o_eq hr.units) (EP.s (ed_slice (EP.s (ed_var 0)) op_no (op_yes (EP.s (ep_callB c_len T.z_len (EP.s (ed_var 1))))))) (EP.s (ed_var 1))) (ss_ret (mk := fun t21 => (t21, [])) (ed_tup (ap_cons (ed_slice (EP.s (ed_var 0)) (op_yes (EP.s (ep_callB c_len T.z_len (EP.s (ed_var 1))))) op_no) (ap_cons ed_str ap_nil))) (fun _ => .refl) (fun _ _ _ _ _ _ t r => back_d _ _ _ _ _ _ t r)) (ss_ifE (tp_cmp (o_eq hr.units) (EP.s (ed_slice (EP.s (ed_var 1)) op_no (op_yes (EP.s (ep_callB c_len T.z_len (EP.s (ed_var 0))))))) (EP.s (ed_var 0))) (ss_ret (mk := fun t42 => (t42, [])) (ed_tup (ap_cons ed_str (ap_cons (ed_slice (EP.s (ed_var 1)) (op_yes (EP.s (ep_callB c_len T.z_len (EP.s (ed_var 0))))) op_no) ap_nil))) (fun _ => .refl) (fun _ _ _ _ _ _ t r => back_d _ _ _ _ _ _ t r)) (ss_ret (mk := fun t44 => (t44, [])) ed_none (fun _ => .refl) (fun _ _ _ _ _ _ t r => back_d _ _ _ _ _ _ t r)))), ?_⟩
  rfl
theorem ok_shift (T : Txt K mg) : FnOk P w K mg base CX0 1 T.a_shift T.d_shift ["lag", "left", "right"] (prm K mg [.d, .d, .d] (RD K) m_shift) := by
  refine fnE (k := 0) T.F_shift sc_shift rfl (by decide) fun cdv A outer s H E hr => fun x_lag x_left x_right => ⟨_, (ss_asg 3 sc_shift.nd (ep_op o_add (EP.s (ed_ix (EP.s (ed_var 0)) (EP.s ed_int))) (EP.s (ed_var 1))) (fun v1 => (ss_asg 4 sc_shift.nd (ep_op o_add (EP.s (ed_ix (EP.s (ed_var 0)) (EP.s ed_int))) (EP.s (ed_var 2))) (fun v6 => (ss_ifE (tp_truth (EP.s (ed_starts (EP.s (ed_var 3)) (EP.s (ed_var 4))))) (ss_ret (mk := fun t28 => (t28, [])) (ed_tup (ap_cons (ed_slice (EP.s (ed_var 3)) (op_yes (EP.s (ep_callB c_len T.z_len (EP.s (ed_var 4))))) op_no) (ap_cons ed_str ap_nil))) (fun _ => .refl) (fun _ _ _ _ _ _ t r => back_d _ _ _ _ _ _ t r)) (ss_ifE (tp_truth (EP.s (ed_starts (EP.s (ed_var 4)) (EP.s (ed_var 3))))) (ss_ret (mk := fun t46 => (t46, [])) (ed_tup (ap_cons ed_str (ap_cons (ed_slice (EP.s (ed_var 4)) (op_yes (EP.s (ep_callB c_len T.z_len (EP.s (ed_var 3))))) op_no) ap_nil))) (fun _ => .refl) (fun _ _ _ _ _ _ t r => back_d _ _ _ _ _ _ t r)) (ss_ret (mk := fun t48 => (t48, [])) ed_none (fun _ => .refl) (fun _ _ _ _ _ _ t r => back_d _ _ _ _ _ _ t r)))))))), ?_⟩
  rfl
theorem ok__law_follows (T : Txt K mg) : FnOk P w K mg base CX0 42 T.a__law_follows T.d__law_follows ["steps"] (prm K mg [.d] (RD K) m__law_follows) := by
  refine fnE (k := 41) T.F__law_follows sc__law_follows rfl (by decide) fun cdv A outer s H E hr => fun x_steps => ⟨_, (ss_asg 1 sc__law_follows.nd (ed_tup (ap_cons ed_str (ap_cons ed_str ap_nil))) (fun v1 => (ss_asg 2 sc__law_follows.nd ed_str (fun v7 => (ss_asg 3 sc__law_follows.nd ed_str (fun v8 => (ss_seq (nf1 := (fun (n : PD × PD × PD) => ([some (.d x_steps), some (.d n.2.2), some (.d n.1), some (.d n.2.1), none, none], [], []))) (s1_for (lf1 := (fun (n : PD × PD × PD) => ([some (.d x_steps), some (.d n.2.2), some (.d n.1), some (.d n.2.1), none, none], [], []))) (un := Out.ok) (ρf := fun (n10 : PD × PD × PD) (k9 : PD) => [some (.d x_steps), some (.d n10.2.2), some (.d n10.1), some (.d n10.2.1), some (.d k9), none]) (v7, v8, v1) rfl (PassesOwn.never) (ix_data (ed_var 0)) (tg_name 4 sc__law_follows.nd) rfl (.keep (.keep (.keep (.keep (.keep (.keep .nil)))))) (fun _ => rfl) (fun _ _ => rfl) (fun _ _ _ h => nomatch h) (fun _ _ _ => trivial) (fun k9 n10 => (ss_asg 2 sc__law_follows.nd (ep_op o_add (EP.s (ed_var 2)) (EP.s (ed_ix (EP.s (ed_var 4)) (EP.s ed_int)))) (fun v14 => (ss_asg 3 sc__law_follows.nd (ep_op o_add (EP.s (ed_var 3)) (EP.s (ed_ix (EP.s (ed_var 4)) (EP.s ed_int)))) (fun v19 => (ss_asg 5 sc__law_follows.nd (ep_call (ok__law_lag T) back_d (hr.mono (by omega)) T.m__law_lag T.F__law_lag.kp (b__law_lag T) passN (ap_cons (ed_var 2) (ap_cons (ed_var 3) ap_nil))) (fun v24 => (ss_ifE (WP.t (wp_or (tp_not (tp_truth (EP.s (ep_call (ok__law_same T 40) back_d (hr.mono (by omega)) T.m__law_same T.F__law_same.kp (b__law_same T) passN (ap_cons (ep_call (ok_shift T) back_d (hr.mono (by omega)) T.m_shift T.F_shift.kp (b_shift T) passN (ap_cons (ed_var 1) (ap_cons (ed_ix (EP.s (ed_var 4)) (EP.s ed_int)) (ap_cons (ed_ix (EP.s (ed_var 4)) (EP.s ed_int)) ap_nil)))) (ap_cons (ed_var 5) ap_nil)))))) (wp_or1 (tp_not (tp_truth (EP.s (ep_call (ok__law_same T 40) back_d (hr.mono (by omega)) T.m__law_same T.F__law_same.kp (b__law_same T) passN (ap_cons (ep_call (ok_shift T) back_d (hr.mono (by omega)) T.m_shift T.F_shift.kp (b_shift T) passN (ap_cons (ed_glob T.hm_NO_LAG T.hr_NO_LAG T.hd_NO_LAG) (ap_cons (ed_var 2) (ap_cons (ed_var 3) ap_nil)))) (ap_cons (ed_var 5) ap_nil))))))))) (ss_ret (mk := fun t66 => (t66, [])) ed_bool (fun _ => .refl) (fun _ _ _ _ _ _ t r => back_d _ _ _ _ _ _ t r)) (ss_ifE (tp_cmp o_is (EP.s (ed_var 5)) (EP.s ed_none)) (ss_ret (mk := fun t110 => (t110, [])) (ed_and (ed_cmp o_is (EP.s (ep_call (ok_shift T) back_d (hr.mono (by omega)) T.m_shift T.F_shift.kp (b_shift T) passN (ap_cons (ed_tup (ap_cons ed_str (ap_cons ed_str ap_nil))) (ap_cons (ep_op o_add (EP.s (ed_var 2)) (EP.s ed_str)) (ap_cons (ep_op o_add (EP.s (ed_var 3)) (EP.s ed_str)) ap_nil))))) (EP.s ed_none)) (ed_one (ed_cmp o_is (EP.s (ep_call (ok_shift T) back_d (hr.mono (by omega)) T.m_shift T.F_shift.kp (b_shift T) passN (ap_cons (ed_tup (ap_cons ed_str (ap_cons ed_str ap_nil))) (ap_cons (ep_op o_add (EP.s (ed_var 2)) (EP.s (ed_var 3))) (ap_cons (ed_var 3) ap_nil))))) (EP.s ed_none)))) (fun _ => .refl) (fun _ _ _ _ _ _ t r => back_d _ _ _ _ _ _ t r)) (ss_ifE (WP.t (wp_or (tp_cmp o_isNot (EP.s (ep_call (ok_is_lag T) back_d (hr.mono (by omega)) T.m_is_lag T.F_is_lag.kp (b_is_lag T) passN (ap_cons (ed_var 5) ap_nil))) (EP.s ed_bool)) (wp_or1 (tp_not (tp_truth (EP.s (ep_call (ok__law_same T 40) back_d (hr.mono (by omega)) T.m__law_same T.F__law_same.kp (b__law_same T) passN (ap_cons (ep_call (ok_shift T) back_d (hr.mono (by omega)) T.m_shift T.F_shift.kp (b_shift T) passN (ap_cons (ed_var 5) (ap_cons ed_str (ap_cons ed_str ap_nil)))) (ap_cons (ed_var 5) ap_nil))))))))) (ss_ret (mk := fun t134 => (t134, [])) ed_bool (fun _ => .refl) (fun _ _ _ _ _ _ t r => back_d _ _ _ _ _ _ t r)) (ss_asg 1 sc__law_follows.nd (ed_var 5) (fun v135 => (ss_nil (n := (v14, v19, v135)) rfl .refl (.keep (.keep (.keep (.keep (.drop (.drop .nil)))))))))))))))))))) (fun n136 => (ss_ret (mk := fun t138 => (t138, [])) ed_bool (fun _ => .refl) (fun _ _ _ _ _ _ t r => back_d _ _ _ _ _ _ t r)))))))))), ?_⟩
  rfl
theorem ok_shared_start (T : Txt K mg) : FnOk P w K mg base CX0 1 T.a_shared_start T.d_shared_start ["first", "second"] (prm K mg [.d, .d] (RD K) m_shared_start) := by
  refine fnE (k := 0) T.F_shared_start sc_shared_start rfl (by decide) fun cdv A outer s H E hr => fun x_first x_second => ⟨_, (ss_asg 2 sc_shared_start.nd ed_int (fun v1 => (ss_seq (nf1 := (fun (n : PD) => ([some (.d x_first), some (.d x_second), some (.d n), none, none], [], []))) (s1_for (lf1 := (fun (n : PD) => ([some (.d x_first), some (.d x_second), some (.d n), none, none], [], []))) (un := un2) (ρf := fun (n3 : PD) (k2 : PD × PD) => [some (.d x_first), some (.d x_second), some (.d n3), some (.d k2.1), some (.d k2.2)]) (v1) rfl (PassesOwn.never) (ix_zip T.z_zip (ap_cons (ed_var 0) (ap_cons (ed_var 1) ap_nil))) (tg_tup2 3 4 rfl sc_shared_start.nd) rfl (.keep (.keep (.keep (.keep (.keep .nil))))) (fun _ => rfl) (fun _ _ => rfl) (fun _ _ _ => un2_err) (fun _ _ _ => trivial) (fun k2 n3 => (ss_ifE (tp_cmp (o_ne hr.units) (EP.s (ed_var 3)) (EP.s (ed_var 4))) (ss_brk (n := (n3)) rfl .refl (.keep (.keep (.keep (.drop (.drop .nil)))))) (ss_aug 2 oi_add' sc_shared_start.nd ed_int (fun v12 => (ss_nil (n := (v12)) rfl .refl (.keep (.keep (.keep (.drop (.drop .nil))))))))))) (fun n13 => (ss_ret (mk := fun t19 => (t19, [])) (ed_slice (EP.s (ed_var 0)) op_no (op_yes (EP.s (ed_var 2)))) (fun _ => .refl) (fun _ _ _ _ _ _ t r => back_d _ _ _ _ _ _ t r)))))), ?_⟩
  rfl
theorem ok_common_start (T : Txt K mg) : FnOk P w K mg base CX0 2 T.a_common_start T.d_common_start ["words"] (prm K mg [.d] (RD K) m_common_start) := by
  refine fnE (k := 1) T.F_common_start sc_common_start rfl (by decide) fun cdv A outer s H E hr => fun x_words => ⟨_, (ss_asg 1 sc_common_start.nd (ed_ix (EP.s (ed_var 0)) (EP.s ed_int)) (fun v1 => (ss_seq (nf1 := (fun (n : PD) => ([some (.d x_words), some (.d n), none], [], []))) (s1_for (lf1 := (fun (n : PD) => ([some (.d x_words), some (.d n), none], [], []))) (un := Out.ok) (ρf := fun (n5 : PD) (k4 : PD) => [some (.d x_words), some (.d n5), some (.d k4)]) (v1) rfl (PassesOwn.never) (ix_data (ed_slice (EP.s (ed_var 0)) (op_yes (EP.s ed_int)) op_no)) (tg_name 2 sc_common_start.nd) rfl (.keep (.keep (.keep .nil))) (fun _ => rfl) (fun _ _ => rfl) (fun _ _ _ h => nomatch h) (fun _ _ _ => trivial) (fun k4 n5 => (ss_asg 1 sc_common_start.nd (ep_call (ok_shared_start T) back_d (hr.mono (by omega)) T.m_shared_start T.F_shared_start.kp (b_shared_start T) passN (ap_cons (ed_var 1) (ap_cons (ed_var 2) ap_nil))) (fun v9 => (ss_nil (n := (v9)) rfl .refl (.keep (.keep (.drop .nil)))))))) (fun n15 => (ss_ret (mk := fun t17 => (t17, [])) (ed_var 1) (fun _ => .refl) (fun _ _ _ _ _ _ t r => back_d _ _ _ _ _ _ t r)))))), ?_⟩
  rfl
theorem ok__law_start (T : Txt K mg) : FnOk P w K mg base CX0 1 T.a__law_start T.d__law_start ["words"] (prm K mg [.d] (RD K) m__law_start) := by
  refine fnE (k := 0) T.F__law_start sc__law_start rfl (by decide) fun cdv A outer s H E hr => fun x_words => ⟨_, (ss_asg 1 sc__law_start.nd ed_int (fun v1 => (ss_seq (nf1 := (fun (n : PD) => ([some (.d x_words), some (.d n), none, none], [], []))) (s1_for (lf1 := (fun (n : PD) => ([some (.d x_words), some (.d n), none, none], [], []))) (un := Out.ok) (ρf := fun (n3 : PD) (k2 : PD) => [some (.d x_words), some (.d n3), some (.d k2), none]) (v1) rfl (PassesOwn.never) (ix_range1 T.z_range (ep_callB c_len T.z_len (EP.s (ed_ix (EP.s (ed_var 0)) (EP.s ed_int))))) (tg_name 2 sc__law_start.nd) rfl (.keep (.keep (.keep (.keep .nil)))) (fun _ => rfl) (fun _ _ => rfl) (fun _ _ _ h => nomatch h) (fun _ _ _ => trivial) (fun k2 n3 => (ss_one (s1_if (tp_cmp (o_eq hr.units) (EP.s (EP.l (el_lc (own := [("text", 3)]) rfl sc__law_start.nd (blkOk_by (own := [("text", 3)]) (N := n__law_start) (sc := defScope s__law_start) (by decide +kernel)) (lc_ofP (un := Out.ok) (ρf := fun k10 => [some (.d x_words), some (.d n3), some (.d k2), some (.d k10)]) (ix_data (ed_var 0)) (fun _ _ _ _ _ => tg_name 3 sc__law_start.nd) (fun _ => rfl) (fun _ _ _ _ _ k10 => (ts_one (tp_cmp (o_ne hr.units) (EP.s (ed_slice (EP.s (ed_var 3)) op_no (op_yes (EP.s (ep_op o_add (EP.s (ed_var 2)) (EP.s ed_int)))))) (EP.s (ed_slice (EP.s (ed_ix (EP.s (ed_var 0)) (EP.s ed_int))) op_no (op_yes (EP.s (ep_op o_add (EP.s (ed_var 2)) (EP.s ed_int))))))))) (fun _ _ _ _ _ k10 => (ed_var 3)) (fun _ _ => trivial))))) (EP.s (EP.l (el_lst ap_nil)))) (ss_asg 1 sc__law_start.nd (ep_op o_add (EP.s (ed_var 2)) (EP.s ed_int)) (fun v35 => (ss_nil (n := (v35)) rfl .refl (.keep (.keep (.drop (.keep .nil))))))) (ss_nil (n := (n3)) rfl .refl (.keep (.keep (.drop (.keep .nil))))))))) (fun n38 => (ss_ret (mk := fun t46 => (t46, [])) (ed_slice (EP.s (ed_ix (EP.s (ed_var 0)) (EP.s ed_int))) op_no (op_yes (EP.s (ed_var 1)))) (fun _ => .refl) (fun _ _ _ _ _ _ t r => back_d _ _ _ _ _ _ t r)))))), ?_⟩
  rfl
theorem ok__law_steps_of (T : Txt K mg) : FnOk P w K mg base CX0 2 T.a__law_steps_of T.d__law_steps_of ["pool", "text", "other"] (prm K mg [.c, .d, .d] (RD K) m__law_steps_of) := by
  refine fnE (k := 1) T.F__law_steps_of sc__law_steps_of rfl (by decide) fun cdv A outer s H E hr => fun a_pool l_pool x_text x_other => ⟨_, (ss_asgC 3 sc__law_steps_of.nd (el_lst ap_nil) (fun a1 l2 nm_a1 => (ss_asg 4 sc__law_steps_of.nd ed_int (fun v3 => (ss_asg 5 sc__law_steps_of.nd ed_int (fun v4 => (ss_seq (nf1 := (fun (n : PD × PD × List CO) => ([some (.c a_pool), some (.d x_text), some (.d x_other), some (.c a1), some (.d n.1), some (.d n.2.1), none, none], [a1, a_pool], n.2.2))) (s1_forX (lf1 := (fun (n : PD × PD × List CO) => ([some (.c a_pool), some (.d x_text), some (.d x_other), some (.c a1), some (.d n.1), some (.d n.2.1), none, none], [a1, a_pool], n.2.2))) (un := Out.ok) (ρf := fun (n6 : PD × PD × List CO) (k5 : PD) => [some (.c a_pool), some (.d x_text), some (.d x_other), some (.c a1), some (.d n6.1), some (.d n6.2.1), some (.d k5), none]) (l0 := (fun cs1 => (v3, v4, cs1))) rfl (PassesOwn.never) (ix_range1X T.z_range (ex_call (ok__law_draw T) back_d (hr.mono (by omega)) T.m__law_draw T.F__law_draw.kp (b__law_draw T) passN (gx_c 0 1 (gx_d ed_int gx_nil)))) (tg_name 6 sc__law_steps_of.nd) (fun _ => rfl) (.keep (.keep (.keep (.keep (.keep (.keep (.keep (.keep .nil)))))))) (fun _ => rfl) (fun _ _ => rfl) (fun _ _ _ h => nomatch h) (fun _ _ _ _ => trivial) (fun k5 n6 => (ss_at (f := fun cs => cs) (cs := n6.2.2) (ss_ul (f := fun cs => cs) fun p10 => (ss_ul (f := fun cs => CO.l p10 :: cs) fun p11 => (ss_un (f := fun cs => CO.l p10 :: CO.l p11 :: cs) (ss_asgX 7 sc__law_steps_of.nd (EX.l (xl_lst (ax_cons (ex_call (ok__law_draw T) back_d (hr.mono (by omega)) T.m__law_draw T.F__law_draw.kp (b__law_draw T) passN (gx_c 0 1 (gx_d ed_int gx_nil))) (ax_ul (f := fun cs => cs) fun p19 => (ax_ul (f := fun cs => CO.l p19 :: cs) fun p20 => (ax_un (f := fun cs => CO.l p19 :: CO.l p20 :: cs) (ax_cons (ex_call (ok__law_draw T) back_d (hr.mono (by omega)) T.m__law_draw T.F__law_draw.kp (b__law_draw T) passN (gx_c 0 1 (gx_d ed_int gx_nil))) (ax_ul (f := fun cs => cs) fun p26 => (ax_ul (f := fun cs => CO.l p26 :: cs) fun p27 => (ax_un (f := fun cs => CO.l p26 :: CO.l p27 :: cs) (AP.x ap_nil))))))))))) (fun v12 => (ss_ul (f := fun cs => cs) fun p34 => (ss_ul (f := fun cs => CO.l p34 :: cs) fun p35 => (ss_un (f := fun cs => CO.l p34 :: CO.l p35 :: cs) (ss_appP 3 0 (ed_tup (ap_cons (ed_slice (EP.s (ed_var 1)) (op_yes (EP.s (ed_var 4))) (op_yes (EP.s (ep_op o_add (EP.s (ed_var 4)) (EP.s (ed_ix (EP.s (ed_var 7)) (EP.s ed_int))))))) (ap_cons (ed_slice (EP.s (ed_var 2)) (op_yes (EP.s (ed_var 5))) (op_yes (EP.s (ep_op o_add (EP.s (ed_var 5)) (EP.s (ed_ix (EP.s (ed_var 7)) (EP.s ed_int))))))) ap_nil))) (fun l37 => (ss_asg 4 sc__law_steps_of.nd (ep_op o_add (EP.s (ed_var 4)) (EP.s (ed_ix (EP.s (ed_var 7)) (EP.s ed_int)))) (fun v61 => (ss_asg 5 sc__law_steps_of.nd (ep_op o_add (EP.s (ed_var 5)) (EP.s (ed_ix (EP.s (ed_var 7)) (EP.s ed_int)))) (fun v66 => (ss_nil (n := (v61, v66, [CO.l l37, CO.l p35])) rfl .refl (.keep (.keep (.keep (.keep (.keep (.keep (.drop (.drop .nil)))))))))))))))))))))))))) (fun n71 => (ss_at (f := fun cs => cs) (cs := n71.2.2) (ss_ul (f := fun cs => cs) fun p72 => (ss_ul (f := fun cs => CO.l p72 :: cs) fun p73 => (ss_un (f := fun cs => CO.l p72 :: CO.l p73 :: cs) (ss_frz' 0 (ds := p72) rfl rfl nm_a1 (.keep (.keep (.keep (.frz (.keep (.keep (.keep (.keep .nil)))))))) (ss_ret (mk := fun t75 => (t75, [CO.l p73])) (ed_var 3) (fun _ => .refl) (fun _ _ _ _ _ _ t r => back_d _ _ _ _ _ _ t r))))))))))))))), ?_⟩
  rfl
theorem ok_law (T : Txt K mg) : FnOk P w K mg base CX0 43 T.a_law T.d_law ["script"] (prm K mg [.d] (RD K) m_law) := by
  refine fnE (k := 42) T.F_law sc_law rfl (by decide) fun cdv A outer s H E hr => fun x_script => ⟨_, (ss_asgC 1 sc_law.nd (ep_call (ok__law_pool T) back_l (hr.mono (by omega)) T.m__law_pool T.F__law_pool.kp (b__law_pool T) passN (ap_cons (ed_var 0) (ap_cons ed_int ap_nil))) (fun a1 l2 nm_a1 => (ss_asgX 2 sc_law.nd (ex_call (ok__law_alphabet T) back_d (hr.mono (by omega)) T.m__law_alphabet T.F__law_alphabet.kp (b__law_alphabet T) passN (gx_c 1 0 gx_nil)) (fun v8 => (ss_ul (f := fun cs => cs) fun p13 => (ss_un (f := fun cs => CO.l p13 :: cs) (ss_asgX 3 sc_law.nd (ex_call (ok__law_text T) back_d (hr.mono (by omega)) T.m__law_text T.F__law_text.kp (b__law_text T) passN (gx_c 1 0 (gx_d (ed_var 2) (gx_x (ex_call (ok__law_draw T) back_d (hr.mono (by omega)) T.m__law_draw T.F__law_draw.kp (b__law_draw T) passN (gx_c 1 0 (gx_d ed_int gx_nil))) (gx_ul (f := fun cs => cs) fun p28 => (gx_un (f := fun cs => CO.l p28 :: cs) gx_nil)))))) (fun v14 => (ss_ul (f := fun cs => cs) fun p29 => (ss_un (f := fun cs => CO.l p29 :: cs) (ss_asg 4 sc_law.nd (ed_var 3) (fun v30 => (ss_seq (nf1 := (fun (n : PD × List CO) => ([some (.d x_script), some (.c a1), some (.d v8), some (.d v14), some (.d n.1), none, none, none, none], [a1], n.2))) (s1_ifX (WX.t (wx_and (TP.x (tp_cmp o_gt (EP.s (ep_callB c_len T.z_len (EP.s (ed_var 3)))) (EP.s ed_int))) (wx_ul (f := fun cs => cs) fun p37 => (wx_un (f := fun cs => CO.l p37 :: cs) (wx_and1 (tx_cmp (o_eq hr.units) (ex_call (ok__law_draw T) back_d (hr.mono (by omega)) T.m__law_draw T.F__law_draw.kp (b__law_draw T) passN (gx_c 1 0 (gx_d ed_int gx_nil))) (ex_ul (f := fun cs => cs) fun p43 => (ex_un (f := fun cs => CO.l p43 :: cs) (EP.x (EP.s ed_int)))))))))) (ss_ul (f := fun cs => cs) fun p49 => (ss_un (f := fun cs => CO.l p49 :: cs) (ss_asgX 5 sc_law.nd (ex_call (ok__law_draw T) back_d (hr.mono (by omega)) T.m__law_draw T.F__law_draw.kp (b__law_draw T) passN (gx_c 1 0 (gx_d (ep_callB c_len T.z_len (EP.s (ed_var 3))) gx_nil))) (fun v50 => (ss_ul (f := fun cs => cs) fun p58 => (ss_un (f := fun cs => CO.l p58 :: cs) (ss_asgX 4 sc_law.nd (ex_op o_add (ex_op o_add (EP.x (ed_slice (EP.s (ed_var 3)) op_no (op_yes (EP.s (ed_var 5))))) (ex_ul (f := fun cs => cs) fun p66 => (ex_un (f := fun cs => CO.l p66 :: cs) (EX.s (ex_ix (EP.x (ed_var 2)) (ex_ul (f := fun cs => cs) fun p68 => (ex_un (f := fun cs => CO.l p68 :: cs) (EX.s (ex_call (ok__law_draw T) back_d (hr.mono (by omega)) T.m__law_draw T.F__law_draw.kp (b__law_draw T) passN (gx_c 1 0 (gx_d (ep_callB c_len T.z_len (EP.s (ed_var 2))) gx_nil))))))))))) (ex_ul (f := fun cs => cs) fun p81 => (ex_un (f := fun cs => CO.l p81 :: cs) (EP.x (EP.s (ed_slice (EP.s (ed_var 3)) (op_yes (EP.s (ep_op o_add (EP.s (ed_var 5)) (EP.s ed_int)))) op_no)))))) (fun v59 => (ss_ul (f := fun cs => cs) fun p92 => (ss_un (f := fun cs => CO.l p92 :: cs) (ss_nil (n := (v59, [CO.l p92])) rfl .refl (.keep (.keep (.keep (.keep (.keep (.drop (.keep (.keep (.keep .nil)))))))))))))))))))) (ss_ul (f := fun cs => cs) fun p93 => (ss_un (f := fun cs => CO.l p93 :: cs) (ss_nil (n := (v30, [CO.l p93])) rfl .refl (.keep (.keep (.keep (.keep (.keep (.keep (.keep (.keep (.keep .nil))))))))))))) (fun n94 => (ss_at (f := fun cs => cs) (cs := n94.2) (ss_ul (f := fun cs => cs) fun p95 => (ss_un (f := fun cs => CO.l p95 :: cs) (ss_ifEX (WX.t (wx_or (TP.x (tp_not (tp_truth (EP.s (ep_call (ok__law_same T 40) back_d (hr.mono (by omega)) T.m__law_same T.F__law_same.kp (b__law_same T) passN (ap_cons (ed_glob T.hm_NO_LAG T.hr_NO_LAG T.hd_NO_LAG) (ap_cons (ed_tup (ap_cons ed_str (ap_cons ed_str ap_nil))) ap_nil))))))) (wx_ul (f := fun cs => cs) fun p111 => (wx_un (f := fun cs => CO.l p111 :: cs) (wx_or1 (tx_not (tx_truth (EX.s (ex_call (ok__law_follows T) back_d (hr.mono (by omega)) T.m__law_follows T.F__law_follows.kp (b__law_follows T) passN (gx_x (ex_callF (ok__law_steps_of T) back_d (hr.mono (by omega)) T.m__law_steps_of T.F__law_steps_of.kp (b__law_steps_of T) passN (EP.x (ep_call (ok__law_pool T) back_l (hr.mono (by omega)) T.m__law_pool T.F__law_pool.kp (b__law_pool T) passN (ap_cons (ed_var 0) (ap_cons ed_int ap_nil)))) (gx_ul (f := fun cs => cs) fun p122 => (gx_un (f := fun cs => CO.l p122 :: cs) (gx_d (ed_var 3) (gx_d (ed_var 4) gx_nil))))) (gx_ul (f := fun cs => cs) fun p130 => (gx_un (f := fun cs => CO.l p130 :: cs) gx_nil)))))))))))) (ss_ul (f := fun cs => cs) fun p135 => (ss_un (f := fun cs => CO.l p135 :: cs) (ss_ret (mk := fun t137 => (t137, [])) ed_bool (fun _ => (.drop .refl)) (fun _ _ _ _ _ _ t r => back_d _ _ _ _ _ _ t r)))) (ss_ul (f := fun cs => cs) fun p138 => (ss_un (f := fun cs => CO.l p138 :: cs) (ss_asgC 1 sc_law.nd (ep_call (ok__law_pool T) back_l (hr.mono (by omega)) T.m__law_pool T.F__law_pool.kp (b__law_pool T) passN (ap_cons (ed_var 0) (ap_cons ed_int ap_nil))) (fun a139 l140 nm_a139 => (ss_ifEX (tx_not (tx_truth (EX.s (ex_call (ok__law_judges T) back_d (hr.mono (by omega)) T.m__law_judges T.F__law_judges.kp (b__law_judges T) passN (gx_x (xd_slice (EP.x (ed_var 3)) (ox_ul (f := fun cs => cs) fun p152 => (ox_ul (f := fun cs => CO.l p152 :: cs) fun p153 => (ox_un (f := fun cs => CO.l p152 :: CO.l p153 :: cs) (OP.x op_no)))) (ox_ul (f := fun cs => cs) fun p155 => (ox_ul (f := fun cs => CO.l p155 :: cs) fun p156 => (ox_un (f := fun cs => CO.l p155 :: CO.l p156 :: cs) (ox_yes (EX.s (ex_call (ok__law_draw T) back_d (hr.mono (by omega)) T.m__law_draw T.F__law_draw.kp (b__law_draw T) passN (gx_c 1 0 (gx_d ed_int gx_nil))))))))) (gx_ul (f := fun cs => cs) fun p169 => (gx_ul (f := fun cs => CO.l p169 :: cs) fun p170 => (gx_un (f := fun cs => CO.l p169 :: CO.l p170 :: cs) (gx_x (xd_slice (EP.x (ed_var 4)) (ox_ul (f := fun cs => cs) fun p174 => (ox_ul (f := fun cs => CO.l p174 :: cs) fun p175 => (ox_un (f := fun cs => CO.l p174 :: CO.l p175 :: cs) (OP.x op_no)))) (ox_ul (f := fun cs => cs) fun p177 => (ox_ul (f := fun cs => CO.l p177 :: cs) fun p178 => (ox_un (f := fun cs => CO.l p177 :: CO.l p178 :: cs) (ox_yes (EX.s (ex_call (ok__law_draw T) back_d (hr.mono (by omega)) T.m__law_draw T.F__law_draw.kp (b__law_draw T) passN (gx_c 1 0 (gx_d ed_int gx_nil))))))))) (gx_ul (f := fun cs => cs) fun p191 => (gx_ul (f := fun cs => CO.l p191 :: cs) fun p192 => (gx_un (f := fun cs => CO.l p191 :: CO.l p192 :: cs) gx_nil)))))))))))) (ss_ul (f := fun cs => cs) fun p196 => (ss_ul (f := fun cs => CO.l p196 :: cs) fun p197 => (ss_un (f := fun cs => CO.l p196 :: CO.l p197 :: cs) (ss_ret (mk := fun t199 => (t199, [])) ed_bool (fun _ => (.drop (.drop .refl))) (fun _ _ _ _ _ _ t r => back_d _ _ _ _ _ _ t r))))) (ss_ul (f := fun cs => cs) fun p200 => (ss_ul (f := fun cs => CO.l p200 :: cs) fun p201 => (ss_un (f := fun cs => CO.l p200 :: CO.l p201 :: cs) (ss_asgC 6 sc_law.nd (el_lst ap_nil) (fun a202 l203 nm_a202 => (ss_seq (nf1 := (fun (n : List CO) => ([some (.d x_script), some (.c a139), some (.d v8), some (.d v14), some (.d n94.1), none, some (.c a202), none, none], [a202, a139, a1], n))) (s1_forX (lf1 := (fun (n : List CO) => ([some (.d x_script), some (.c a139), some (.d v8), some (.d v14), some (.d n94.1), none, some (.c a202), none, none], [a202, a139, a1], n))) (un := Out.ok) (ρf := fun (n205 : List CO) (k204 : PD) => [some (.d x_script), some (.c a139), some (.d v8), some (.d v14), some (.d n94.1), none, some (.c a202), some (.d k204), none]) (l0 := (fun cs1 => (cs1))) rfl (PassesOwn.never) (ix_range1X T.z_range (ex_op o_add (EP.x ed_int) (ex_ul (f := fun cs => cs) fun p292 => (ex_ul (f := fun cs => CO.l p292 :: cs) fun p293 => (ex_ul (f := fun cs => CO.l p292 :: CO.l p293 :: cs) fun p294 => (ex_un (f := fun cs => CO.l p292 :: CO.l p293 :: CO.l p294 :: cs) (EX.s (ex_call (ok__law_draw T) back_d (hr.mono (by omega)) T.m__law_draw T.F__law_draw.kp (b__law_draw T) passN (gx_c 1 1 (gx_d ed_int gx_nil)))))))))) (tg_name 7 sc_law.nd) (fun _ => rfl) (.keep (.keep (.keep (.keep (.keep (.keep (.keep (.keep (.keep .nil))))))))) (fun _ => rfl) (fun _ _ => rfl) (fun _ _ _ h => nomatch h) (fun _ _ _ _ => trivial) (fun k204 n205 => (ss_at (f := fun cs => cs) (cs := n205) (ss_ul (f := fun cs => cs) fun p209 => (ss_ul (f := fun cs => CO.l p209 :: cs) fun p210 => (ss_ul (f := fun cs => CO.l p209 :: CO.l p210 :: cs) fun p211 => (ss_un (f := fun cs => CO.l p209 :: CO.l p210 :: CO.l p211 :: cs) (ss_app 6 0 (ex_op o_add (xd_slice (EP.x (ed_var 3)) (ox_ul (f := fun cs => cs) fun p215 => (ox_ul (f := fun cs => CO.l p215 :: cs) fun p216 => (ox_ul (f := fun cs => CO.l p215 :: CO.l p216 :: cs) fun p217 => (ox_un (f := fun cs => CO.l p215 :: CO.l p216 :: CO.l p217 :: cs) (OP.x op_no))))) (ox_ul (f := fun cs => cs) fun p219 => (ox_ul (f := fun cs => CO.l p219 :: cs) fun p220 => (ox_ul (f := fun cs => CO.l p219 :: CO.l p220 :: cs) fun p221 => (ox_un (f := fun cs => CO.l p219 :: CO.l p220 :: CO.l p221 :: cs) (ox_yes (EX.s (ex_call (ok__law_draw T) back_d (hr.mono (by omega)) T.m__law_draw T.F__law_draw.kp (b__law_draw T) passN (gx_c 1 1 (gx_d (ep_op o_add (EP.s (ep_callB c_len T.z_len (EP.s (ed_var 3)))) (EP.s ed_int)) gx_nil)))))))))) (ex_ul (f := fun cs => cs) fun p237 => (ex_ul (f := fun cs => CO.l p237 :: cs) fun p238 => (ex_ul (f := fun cs => CO.l p237 :: CO.l p238 :: cs) fun p239 => (ex_un (f := fun cs => CO.l p237 :: CO.l p238 :: CO.l p239 :: cs) (EX.s (ex_call (ok__law_text T) back_d (hr.mono (by omega)) T.m__law_text T.F__law_text.kp (b__law_text T) passN (gx_c 1 1 (gx_d (ed_var 2) (gx_x (ex_call (ok__law_draw T) back_d (hr.mono (by omega)) T.m__law_draw T.F__law_draw.kp (b__law_draw T) passN (gx_c 1 1 (gx_d ed_int gx_nil))) (gx_ul (f := fun cs => cs) fun p252 => (gx_ul (f := fun cs => CO.l p252 :: cs) fun p253 => (gx_ul (f := fun cs => CO.l p252 :: CO.l p253 :: cs) fun p254 => (gx_un (f := fun cs => CO.l p252 :: CO.l p253 :: CO.l p254 :: cs) gx_nil)))))))))))))) (ss_ul (f := fun cs => cs) fun p258 => (ss_ul (f := fun cs => CO.l p258 :: cs) fun p259 => (ss_ul (f := fun cs => CO.l p258 :: CO.l p259 :: cs) fun p260 => (ss_un (f := fun cs => CO.l p258 :: CO.l p259 :: CO.l p260 :: cs) (ss_nil (n := ([CO.l p258, CO.l p259, CO.l p260])) rfl .refl (.keep (.keep (.keep (.keep (.keep (.keep (.keep (.drop (.keep .nil)))))))))))))))))))))) (fun n262 => (ss_at (f := fun cs => cs) (cs := n262) (ss_ul (f := fun cs => cs) fun p263 => (ss_ul (f := fun cs => CO.l p263 :: cs) fun p264 => (ss_ul (f := fun cs => CO.l p263 :: CO.l p264 :: cs) fun p265 => (ss_un (f := fun cs => CO.l p263 :: CO.l p264 :: CO.l p265 :: cs) (ss_asg 8 sc_law.nd (EP.l (ep_callTy c_list T.z_list (es_cell 6 0))) (fun v266 => (ss_frz' 0 (ds := p263) rfl rfl (by simp) (.keep (.keep (.keep (.keep (.keep (.keep (.frz (.keep (.keep .nil))))))))) (ss_ret (mk := fun t289 => (t289, [])) (ed_and (ep_call (ok__law_same T 40) back_d (hr.mono (by omega)) T.m__law_same T.F__law_same.kp (b__law_same T) passN (ap_cons (ep_call (ok_common_start T) back_d (hr.mono (by omega)) T.m_common_start T.F_common_start.kp (b_common_start T) passN (ap_cons (ed_var 8) ap_nil)) (ap_cons (ep_call (ok__law_start T) back_d (hr.mono (by omega)) T.m__law_start T.F__law_start.kp (b__law_start T) passN (ap_cons (ed_var 6) ap_nil)) ap_nil))) (ed_one (ep_call (ok__law_same T 40) back_d (hr.mono (by omega)) T.m__law_same T.F__law_same.kp (b__law_same T) passN (ap_cons (ed_var 8) (ap_cons (ed_var 6) ap_nil))))) (fun _ => (.drop (.drop .refl))) (fun _ _ _ _ _ _ t r => back_d _ _ _ _ _ _ t r)))))))))))))))))))))))))))))))))))))))), ?_⟩
  rfl
end
end Dd
set_option Elab.async false
set_option linter.all false
set_option maxRecDepth 100000
set_option maxHeartbeats 4000000
namespace Dd
open PySem PySem.Spec PyProof.Rows L2
/-- a def of the top, found -/
def FnK (K : PySem.W.Frag) (mg : Str → Option Value) (x : Str) (st : Stmt) : Prop := ∃ (f : Addr) (fd : FuncData), Fun K x x st f fd ∧ mg x = some (.ref f)
theorem fnK_mk {K : PySem.W.Frag} {h : Heap} {mg : Str → Option Value} (X : K.In h) (G : h.Ns mainGlobals mg) {x : Str} {st : Stmt} {f : Addr} {od an : Option Addr} {sl : Array (Option Value)} {oc kV dc pm cd ct : Value}
    (a : PySem.W.nsIn K mainGlobals x = some (some (.ref f))) (l : K.lookup f = some ⟨oc, od, .func (PySem.W.fnOf x x (defArgs st) (defBody st) (defScope st) .none kV dc pm an cd ct), sl⟩) (c : PySem.W.codeIn K cd x = true) (k : PySem.W.keepIn K (.ref f) = true) : FnK K mg x st :=
  ⟨f, _, fun_mk l c k, PySem.W.mg_of X G a⟩
theorem rv_str (x : Str) (t : Tok) : RelV (.str x) (.str x t) := ⟨t, rfl⟩
theorem rv_int (x : Int) (t : Tok) : RelV (.int x) (.int x t) := ⟨t, rfl⟩
def CoK (K : PySem.W.Frag) (mg : Str → Option Value) (x : Str) (d : PD) : Prop := ∃ (v : V) (u : Value), mg x = some u ∧ RelV v u ∧ Dp K (fun _ => none) v d
theorem coK_NO_LAG {K : PySem.W.Frag} {h : Heap} {mg : Str → Option Value} (X : K.In h) (G : h.Ns mainGlobals mg) {t2 : Tok} {t3 : Tok} {q1 : Addr} {od1 : Option Addr} {n1 : Nat} {sl1 : Array (Option Value)} (a : PySem.W.nsIn K mainGlobals "NO_LAG" = some (some (.ref q1))) (l1 : K.lookup q1 = some ⟨.type "tuple", od1, .seq #[(.str "" t2), (.str "" t3)] n1, sl1⟩) : CoK K mg "NO_LAG" c_NO_LAG := ⟨(.ref q1), (.ref q1), PySem.W.mg_of X G a, rfl, (.tup (.inr ⟨_, _, _, l1, rfl, rfl, line_of (n := 2) (by decide), (.cons (rv_str _ _) (.cons (rv_str _ _) .nil))⟩) (.cons (.str _) (.cons (.str _) .nil)))⟩
theorem txt_mk {K : PySem.W.Frag} {mg : Str → Option Value} (h__law_pool : FnK K mg "_law_pool" s__law_pool) (h__law_letters : FnK K mg "_law_letters" s__law_letters) (h__law_draw : FnK K mg "_law_draw" s__law_draw) (h__law_alphabet : FnK K mg "_law_alphabet" s__law_alphabet) (h__law_text : FnK K mg "_law_text" s__law_text) (h__law_same : FnK K mg "_law_same" s__law_same) (h_is_lag : FnK K mg "is_lag" s_is_lag) (h__law_judges : FnK K mg "_law_judges" s__law_judges) (h__law_lag : FnK K mg "_law_lag" s__law_lag) (h_shift : FnK K mg "shift" s_shift) (h__law_follows : FnK K mg "_law_follows" s__law_follows) (h_shared_start : FnK K mg "shared_start" s_shared_start) (h_common_start : FnK K mg "common_start" s_common_start) (h__law_start : FnK K mg "_law_start" s__law_start) (h__law_steps_of : FnK K mg "_law_steps_of" s__law_steps_of) (h_law : FnK K mg "law" s_law) (g_bool : mg "bool" = none) (g_int : mg "int" = none) (g_isinstance : mg "isinstance" = none) (g_len : mg "len" = none) (g_list : mg "list" = none) (g_range : mg "range" = none) (g_str : mg "str" = none) (g_tuple : mg "tuple" = none) (g_zip : mg "zip" = none) (j_NO_LAG : CoK K mg "NO_LAG" c_NO_LAG) : Nonempty (Txt K mg) := by
  obtain ⟨a__law_pool, d__law_pool, F__law_pool, m__law_pool⟩ := h__law_pool
  obtain ⟨a__law_letters, d__law_letters, F__law_letters, m__law_letters⟩ := h__law_letters
  obtain ⟨a__law_draw, d__law_draw, F__law_draw, m__law_draw⟩ := h__law_draw
  obtain ⟨a__law_alphabet, d__law_alphabet, F__law_alphabet, m__law_alphabet⟩ := h__law_alphabet
  obtain ⟨a__law_text, d__law_text, F__law_text, m__law_text⟩ := h__law_text
  obtain ⟨a__law_same, d__law_same, F__law_same, m__law_same⟩ := h__law_same
  obtain ⟨a_is_lag, d_is_lag, F_is_lag, m_is_lag⟩ := h_is_lag
  obtain ⟨a__law_judges, d__law_judges, F__law_judges, m__law_judges⟩ := h__law_judges
  obtain ⟨a__law_lag, d__law_lag, F__law_lag, m__law_lag⟩ := h__law_lag
  obtain ⟨a_shift, d_shift, F_shift, m_shift⟩ := h_shift
  obtain ⟨a__law_follows, d__law_follows, F__law_follows, m__law_follows⟩ := h__law_follows
  obtain ⟨a_shared_start, d_shared_start, F_shared_start, m_shared_start⟩ := h_shared_start
  obtain ⟨a_common_start, d_common_start, F_common_start, m_common_start⟩ := h_common_start
  obtain ⟨a__law_start, d__law_start, F__law_start, m__law_start⟩ := h__law_start
  obtain ⟨a__law_steps_of, d__law_steps_of, F__law_steps_of, m__law_steps_of⟩ := h__law_steps_of
  obtain ⟨a_law, d_law, F_law, m_law⟩ := h_law
  obtain ⟨v_NO_LAG, u_NO_LAG, hm_NO_LAG, hr_NO_LAG, hd_NO_LAG⟩ := j_NO_LAG
  exact ⟨⟨a__law_pool, d__law_pool, F__law_pool, m__law_pool, a__law_letters, d__law_letters, F__law_letters, m__law_letters, a__law_draw, d__law_draw, F__law_draw, m__law_draw, a__law_alphabet, d__law_alphabet, F__law_alphabet, m__law_alphabet, a__law_text, d__law_text, F__law_text, m__law_text, a__law_same, d__law_same, F__law_same, m__law_same, a_is_lag, d_is_lag, F_is_lag, m_is_lag, a__law_judges, d__law_judges, F__law_judges, m__law_judges, a__law_lag, d__law_lag, F__law_lag, m__law_lag, a_shift, d_shift, F_shift, m_shift, a__law_follows, d__law_follows, F__law_follows, m__law_follows, a_shared_start, d_shared_start, F_shared_start, m_shared_start, a_common_start, d_common_start, F_common_start, m_common_start, a__law_start, d__law_start, F__law_start, m__law_start, a__law_steps_of, d__law_steps_of, F__law_steps_of, m__law_steps_of, a_law, d_law, F_law, m_law, g_bool, g_int, g_isinstance, g_len, g_list, g_range, g_str, g_tuple, g_zip, v_NO_LAG, u_NO_LAG, hm_NO_LAG, hr_NO_LAG, hd_NO_LAG⟩⟩
/-- what is asked of the law -/
def spLaw (K : PySem.W.Frag) : Sp := fun vs H Q _ => ∃ (a : Addr) (ns : List Int), vs = [.ref a] ∧ SqL K H a (ns.map V.int) ∧ ns.length ≤ 63 ∧ (∀ z ∈ ns, Builtin.Int.intBits z ≤ 1048576) ∧ ∀ H', Q (.bl true) H'
theorem law_fin (hlaw : ∀ ns : List Int, ns.length ≤ 63 → (∀ z ∈ ns, Builtin.Int.intBits z ≤ 1048576) → m_law (.list (ns.map PyData.int)) = .ok (.bool true, [])) {P : Program} {w : World} {K : PySem.W.Frag} {mg : Str → Option Value} (N : Nonempty (Txt K mg)) {fa : Addr} (hfa : mg "law" = some (.ref fa)) :
    ∃ fd : FuncData, (∀ (s : Shared) (v : Value), BindsTo s fd ⟨[v], []⟩ [("script", v)]) ∧ ∀ base : Heap, K.In base → base.Ns mainGlobals mg → FnOk P w K mg base CX0 43 fa fd ["script"] (spLaw K) := by
  obtain ⟨T⟩ := N
  have e := hfa.symm.trans T.m_law
  have e2 : fa = T.a_law := by injection e with e; injection e
  subst e2
  refine ⟨T.d_law, fun s v => ?_, fun base _ _ => (ok_law T).imp fun vs H Q E h => ?_⟩
  · obtain ⟨oc, od, kV, doc, pm, an, cdv, ct, osl, e3, _⟩ := T.F_law.ex
    rw [e3]
    exact .of_eq rfl
  · obtain ⟨a, ns, rfl, hS, hl, hb, q⟩ := h
    refine ⟨[.list (ns.map PyData.int)], [], [], H, fun _ _ => False, .d (.lst hS (dpa_of_ints ns)) .nil, Same.refl _, .nil, fun _ _ _ _ _ _ h => h.elim, ?_⟩
    show Res _ (m_law (.list (ns.map PyData.int))) _
    rw [hlaw ns hl hb]
    intro v G' H' gr ex cc rr
    cases rr
    exact q H'
end Dd
open PySem PySem.W PyProof.Rows
set_option maxHeartbeats 0 in
theorem PySem.Challenge.cw_pagemold_k02_shift_a_lag_holds : PySem.Challenge.rw_pagemold_k02_shift_a_lag.Holds := by
  w_on; o_law; k_head; (case hw => w_witness2)
  k_fill
  refine L2.walk_ofB (l := PySem.Challenge.rw_pagemold_k02_shift_a_lag) (n := 63) (k := 43) (x := "script") (CX := fun _ => L2.CX0) (sp := fun w => Dd.spLaw _) rfl (by decide) rfl ⟨rfl, by decide, by decide⟩ (fun w h Y => PySem.W.kIn_of Y) ?F (fun _ _ a ns hl hb _ hS => ⟨a, ns, rfl, hS, hl, hb, fun _ => rfl⟩) (fun _ _ _ _ _ h => h)
  case F =>
    intro w mg fa h KX G hmg
    refine Dd.law_fin Dd.law_true (Dd.txt_mk ?h__law_pool ?h__law_letters ?h__law_draw ?h__law_alphabet ?h__law_text ?h__law_same ?h_is_lag ?h__law_judges ?h__law_lag ?h_shift ?h__law_follows ?h_shared_start ?h_common_start ?h__law_start ?h__law_steps_of ?h_law ?g_bool ?g_int ?g_isinstance ?g_len ?g_list ?g_range ?g_str ?g_tuple ?g_zip ?j_NO_LAG) hmg
    (case h__law_pool => (refine' Dd.fnK_mk KX G ?a ?l ?c ?k; (case a => k_is); (case l => k_is); (case c => k_is); (case k => k_is)))
    (case h__law_letters => (refine' Dd.fnK_mk KX G ?a ?l ?c ?k; (case a => k_is); (case l => k_is); (case c => k_is); (case k => k_is)))
    (case h__law_draw => (refine' Dd.fnK_mk KX G ?a ?l ?c ?k; (case a => k_is); (case l => k_is); (case c => k_is); (case k => k_is)))
    (case h__law_alphabet => (refine' Dd.fnK_mk KX G ?a ?l ?c ?k; (case a => k_is); (case l => k_is); (case c => k_is); (case k => k_is)))
    (case h__law_text => (refine' Dd.fnK_mk KX G ?a ?l ?c ?k; (case a => k_is); (case l => k_is); (case c => k_is); (case k => k_is)))
    (case h__law_same => (refine' Dd.fnK_mk KX G ?a ?l ?c ?k; (case a => k_is); (case l => k_is); (case c => k_is); (case k => k_is)))
    (case h_is_lag => (refine' Dd.fnK_mk KX G ?a ?l ?c ?k; (case a => k_is); (case l => k_is); (case c => k_is); (case k => k_is)))
    (case h__law_judges => (refine' Dd.fnK_mk KX G ?a ?l ?c ?k; (case a => k_is); (case l => k_is); (case c => k_is); (case k => k_is)))
    (case h__law_lag => (refine' Dd.fnK_mk KX G ?a ?l ?c ?k; (case a => k_is); (case l => k_is); (case c => k_is); (case k => k_is)))
    (case h_shift => (refine' Dd.fnK_mk KX G ?a ?l ?c ?k; (case a => k_is); (case l => k_is); (case c => k_is); (case k => k_is)))
    (case h__law_follows => (refine' Dd.fnK_mk KX G ?a ?l ?c ?k; (case a => k_is); (case l => k_is); (case c => k_is); (case k => k_is)))
    (case h_shared_start => (refine' Dd.fnK_mk KX G ?a ?l ?c ?k; (case a => k_is); (case l => k_is); (case c => k_is); (case k => k_is)))
    (case h_common_start => (refine' Dd.fnK_mk KX G ?a ?l ?c ?k; (case a => k_is); (case l => k_is); (case c => k_is); (case k => k_is)))
    (case h__law_start => (refine' Dd.fnK_mk KX G ?a ?l ?c ?k; (case a => k_is); (case l => k_is); (case c => k_is); (case k => k_is)))
    (case h__law_steps_of => (refine' Dd.fnK_mk KX G ?a ?l ?c ?k; (case a => k_is); (case l => k_is); (case c => k_is); (case k => k_is)))
    (case h_law => (refine' Dd.fnK_mk KX G ?a ?l ?c ?k; (case a => k_is); (case l => k_is); (case c => k_is); (case k => k_is)))
    (case g_bool => (refine' PySem.W.mg_none_of KX G ?z; (case z => k_is)))
    (case g_int => (refine' PySem.W.mg_none_of KX G ?z; (case z => k_is)))
    (case g_isinstance => (refine' PySem.W.mg_none_of KX G ?z; (case z => k_is)))
    (case g_len => (refine' PySem.W.mg_none_of KX G ?z; (case z => k_is)))
    (case g_list => (refine' PySem.W.mg_none_of KX G ?z; (case z => k_is)))
    (case g_range => (refine' PySem.W.mg_none_of KX G ?z; (case z => k_is)))
    (case g_str => (refine' PySem.W.mg_none_of KX G ?z; (case z => k_is)))
    (case g_tuple => (refine' PySem.W.mg_none_of KX G ?z; (case z => k_is)))
    (case g_zip => (refine' PySem.W.mg_none_of KX G ?z; (case z => k_is)))
    (case j_NO_LAG => (refine' Dd.coK_NO_LAG KX G ?a ?l1; (case a => k_is); (case l1 => k_is)))
