import PyProof.Rows.All
import Wide.All
import OpenK.AllK
import Wide.FinOn
import PyProof.EqAt
import PyProof.EqKinds
import PyProof.TupleCall
import HandS.ForMost
import HandS.TupAny
import HandS.IsInst
import HandS.Style
import HandS.Walk
import KE.GoesEnum
import HandS.Deep
import HandS.SortInts
import PyProof.P3In
import PyProof.MaxThree
import HandS.Small
import HandS.More
import HandS.DictComp
import HandS.MakeKwOnly
import HandS.EndBits
import PySem.Challenge.RW_pagemold_k09_measure_pieces
set_option Elab.async false
set_option linter.all false
set_option maxRecDepth 100000
set_option maxHeartbeats 2000000
/-! D: functions of plain data. A def's body is told as a function on data (None, bools, ints, texts, tuples, lists), with the lists and dicts it changes as cells. -/
namespace Dd
open PySem PySem.Spec PyProof.Rows L2

abbrev PD := PyData
/-- an answer; an own error with its fields; or: not told -/
inductive Out (α : Type) where
  | ok (a : α) | err (c : Str) (fs : List (Str × PD)) | bad
def Out.bind {α β : Type} (m : Out α) (k : α → Out β) : Out β := match m with
  | .ok a => k a
  | .err c fs => .err c fs
  | .bad => .bad
instance : Monad Out where
  pure := Out.ok
  bind := Out.bind
section
variable {α β γ : Type}
@[simp] theorem ok_bind {a : α} {k : α → Out β} : (Out.ok a >>= k) = k a := rfl
@[simp] theorem err_bind {c : Str} {fs : List (Str × PD)} {k : α → Out β} : (Out.err c fs >>= k) = .err c fs := rfl
@[simp] theorem bad_bind {k : α → Out β} : ((Out.bad : Out α) >>= k) = .bad := rfl
@[simp] theorem out_pure {a : α} : (pure a : Out α) = .ok a := rfl
theorem bind_bind (m : Out α) (k : α → Out β) (l : β → Out γ) : ((m >>= k) >>= l) = (m >>= fun a => k a >>= l) := by cases m <;> rfl
theorem bind_ok' (m : Out α) : (m >>= fun a => Out.ok a) = m := by cases m <;> rfl
end
abbrev WE := Str → List (Str × PD) → Prop
def Res {α : Type} (We : WE) (m : Out α) (P : α → Prop) : Prop := match m with
  | .ok a => P a
  | .err c fs => We c fs
  | .bad => False
section
variable {α β : Type} {We : WE}
theorem Res.bind {m : Out α} {k : α → Out β} {P : β → Prop} (h : Res We (m >>= k) P) : Res We m (fun a => Res We (k a) P) := by
  cases m with
  | ok a => exact h
  | err c fs => exact h
  | bad => exact h
theorem Res.mono {m : Out α} {P Q : α → Prop} (h : Res We m P) (f : ∀ a, P a → Q a) : Res We m Q := by
  cases m with
  | ok a => exact f a h
  | err c fs => exact h
  | bad => exact h
theorem Res.bad {P : α → Prop} (h : Res We .bad P) : False := h
end

/-! ### data and heaps -/
theorem sqt_mono {K : PySem.W.Frag} {H H' : Hp} {a : Addr} {xs : List V} (e : Same H H') (h : SqT K H a xs) : SqT K H' a xs := by
  rcases h with (h | ⟨o, h⟩) | h
  · exact .inl (.inl (e _ _ h))
  · exact .inl (.inr ⟨o, e _ _ h⟩)
  · exact .inr h
mutual
theorem dp_mono {K : PySem.W.Frag} {H H' : Hp} (e : Same H H') : ∀ {v : V} {d : PD}, Dp K H v d → Dp K H' v d
  | _, _, .non => .non
  | _, _, .bl b => .bl b
  | _, _, .int i => .int i
  | _, _, .str x => .str x
  | _, _, .lst h t => .lst (e.seq h) (dpa_mono e t)
  | _, _, .tup h t => .tup (sqt_mono e h) (dpa_mono e t)
theorem dpa_mono {K : PySem.W.Frag} {H H' : Hp} (e : Same H H') : ∀ {vs : List V} {ds : List PD}, DpAll K H vs ds → DpAll K H' vs ds
  | _, _, .nil => .nil
  | _, _, .cons h t => .cons (dp_mono e h) (dpa_mono e t)
end
section
variable {K : PySem.W.Frag} {G : Hp}
theorem dpa_len : ∀ {vs : List V} {ds : List PD}, DpAll K G vs ds → vs.length = ds.length
  | _, _, .nil => rfl
  | _, _, .cons _ t => by rw [List.length_cons, List.length_cons, dpa_len t]
theorem dpa_get : ∀ {vs : List V} {ds : List PD} {i : Nat} {d : PD}, DpAll K G vs ds → ds[i]? = some d → ∃ v, vs[i]? = some v ∧ Dp K G v d
  | _, _, _, _, .nil, e => by simp at e
  | _, _, 0, _, .cons h _, e => by simp at e; subst e; exact ⟨_, rfl, h⟩
  | _, _, i + 1, _, .cons _ t, e => by
    obtain ⟨v, h1, h2⟩ := dpa_get (i := i) t (by simpa using e)
    exact ⟨v, by simpa using h1, h2⟩
theorem dpa_get' : ∀ {vs : List V} {ds : List PD} {i : Nat} {v : V}, DpAll K G vs ds → vs[i]? = some v → ∃ d, ds[i]? = some d ∧ Dp K G v d
  | _, _, _, _, .nil, e => by simp at e
  | _, _, 0, _, .cons h _, e => by simp at e; subst e; exact ⟨_, rfl, h⟩
  | _, _, i + 1, _, .cons _ t, e => by
    obtain ⟨v, h1, h2⟩ := dpa_get' (i := i) t (by simpa using e)
    exact ⟨v, by simpa using h1, h2⟩
theorem dpa_append : ∀ {vs ws : List V} {ds es : List PD}, DpAll K G vs ds → DpAll K G ws es → DpAll K G (vs ++ ws) (ds ++ es)
  | _, _, _, _, .nil, s => s
  | _, _, _, _, .cons h t, s => .cons h (dpa_append t s)
theorem dpa_take : ∀ {vs : List V} {ds : List PD} (n : Nat), DpAll K G vs ds → DpAll K G (vs.take n) (ds.take n)
  | _, _, 0, _ => .nil
  | _, _, _ + 1, .nil => .nil
  | _, _, n + 1, .cons h t => .cons h (dpa_take n t)
theorem dpa_drop : ∀ {vs : List V} {ds : List PD} (n : Nat), DpAll K G vs ds → DpAll K G (vs.drop n) (ds.drop n)
  | _, _, 0, h => h
  | _, _, _ + 1, .nil => .nil
  | _, _, n + 1, .cons _ t => dpa_drop n t
theorem dpa_set : ∀ {vs : List V} {ds : List PD} {v : V} {d : PD} (n : Nat), DpAll K G vs ds → Dp K G v d → DpAll K G (vs.set n v) (ds.set n d)
  | _, _, _, _, _, .nil, _ => .nil
  | _, _, _, _, 0, .cons _ t, h => .cons h t
  | _, _, _, _, n + 1, .cons q t, h => .cons q (dpa_set n t h)
theorem dpa_dropLast {vs : List V} {ds : List PD} (h : DpAll K G vs ds) : DpAll K G vs.dropLast ds.dropLast := by
  rw [List.dropLast_eq_take, List.dropLast_eq_take, dpa_len h]
  exact dpa_take _ h
theorem dpa_reverse : ∀ {vs : List V} {ds : List PD}, DpAll K G vs ds → DpAll K G vs.reverse ds.reverse
  | _, _, .nil => .nil
  | _, _, .cons h t => by
    rw [List.reverse_cons, List.reverse_cons]
    exact dpa_append (dpa_reverse t) (.cons h .nil)
theorem dpa_strs : ∀ {vs : List V} {xs : List Str}, DpAll K G vs (xs.map PyData.str) → vs = xs.map V.str
  | _, [], .nil => rfl
  | _, x :: xs, .cons h t => by
    cases h
    rw [List.map_cons, dpa_strs t]
theorem dpa_ints : ∀ {vs : List V} {xs : List Int}, DpAll K G vs (xs.map PyData.int) → vs = xs.map V.int
  | _, [], .nil => rfl
  | _, x :: xs, .cons h t => by
    cases h
    rw [List.map_cons, dpa_ints t]
theorem dpa_of_ints : ∀ (xs : List Int), DpAll K G (xs.map V.int) (xs.map PyData.int)
  | [] => .nil
  | _ :: xs => .cons (.int _) (dpa_of_ints xs)
theorem dpa_of_strs : ∀ (xs : List Str), DpAll K G (xs.map V.str) (xs.map PyData.str)
  | [] => .nil
  | _ :: xs => .cons (.str _) (dpa_of_strs xs)
end

/-! ### cells, slots, configurations -/
/-- a cell's contents: a list, a dict -/
inductive CO where
  | l (xs : List PD) | k (kvs : List (Key × PD))
/-- a slot's contents: data, a cell's address, a value as it is -/
inductive AV where
  | d (x : PD) | c (a : Addr) | r (v : V)
abbrev Rho := List (Option AV)
def AvOk (K : PySem.W.Frag) (G : Hp) (v : V) : AV → Prop
  | .d x => Dp K G v x
  | .c a => v = .ref a
  | .r u => v = u
def KvAll (K : PySem.W.Frag) (G : Hp) (ws : List (Key × V)) (kvs : List (Key × PD)) : Prop := Paired (fun (p : Key × V) (q : Key × PD) => p.1 = q.1 ∧ Dp K G p.2 q.2) ws kvs
def CellOk (K : PySem.W.Frag) (G H : Hp) (a : Addr) : CO → Prop
  | .l ds => ∃ vs, H a = some (.lst vs) ∧ DpAll K G vs ds
  | .k kvs => ∃ ws, H a = some (.dK ws) ∧ KvAll K G ws kvs
inductive CellsOk (K : PySem.W.Frag) (G H : Hp) : List Addr → List CO → Prop where
  | nil : CellsOk K G H [] []
  | cons {a : Addr} {c : CO} {ms : List Addr} {cs : List CO} : G a = none → CellOk K G H a c → a ∉ ms → CellsOk K G H ms cs → CellsOk K G H (a :: ms) (c :: cs)
inductive EnvOk (K : PySem.W.Frag) (G : Hp) : Rho → L2.St → Prop where
  | nil : EnvOk K G [] []
  | non {o : Option V} {ρ : Rho} {σ : L2.St} : EnvOk K G ρ σ → EnvOk K G (none :: ρ) (o :: σ)
  | som {av : AV} {v : V} {ρ : Rho} {σ : L2.St} : AvOk K G v av → EnvOk K G ρ σ → EnvOk K G (some av :: ρ) (some v :: σ)
section
variable {K : PySem.W.Frag} {G G' H H' : Hp} {a : Addr} {c : CO} {ms : List Addr} {cs : List CO} {ρ : Rho} {σ : L2.St}
theorem av_mono {v : V} {av : AV} (e : Same G G') (h : AvOk K G v av) : AvOk K G' v av := by
  cases av with
  | d x => exact dp_mono e h
  | c a => exact h
  | r u => exact h
theorem kv_mono {ws : List (Key × V)} {kvs : List (Key × PD)} (e : Same G G') (h : KvAll K G ws kvs) : KvAll K G' ws kvs := Paired.mapP h fun _ _ q => ⟨q.1, dp_mono e q.2⟩
theorem env_mono (e : Same G G') (h : EnvOk K G ρ σ) : EnvOk K G' ρ σ := by
  induction h with
  | nil => exact .nil
  | non _ ih => exact .non ih
  | som q _ ih => exact .som (av_mono e q) ih
theorem env_get (h : EnvOk K G ρ σ) : ∀ {i : Nat} {av : AV}, ρ[i]? = some (some av) → ∃ v, σ[i]? = some (some v) ∧ AvOk K G v av := by
  induction h with
  | nil => intro i av e; simp at e
  | non _ ih =>
    intro i av e
    cases i with
    | zero => simp at e
    | succ i => simpa using ih (by simpa using e)
  | som q _ ih =>
    intro i av e
    cases i with
    | zero => simp at e; subst e; exact ⟨_, rfl, q⟩
    | succ i => simpa using ih (by simpa using e)
theorem env_set (h : EnvOk K G ρ σ) {v : V} {av : AV} (q : AvOk K G v av) : ∀ (i : Nat), EnvOk K G (ρ.set i (some av)) (σ.set i (some v)) := by
  induction h with
  | nil => intro i; exact .nil
  | non h ih =>
    intro i
    cases i with
    | zero => exact .som q h
    | succ i => exact .non (ih i)
  | som p h ih =>
    intro i
    cases i with
    | zero => exact .som q h
    | succ i => exact .som p (ih i)
theorem env_none (h : EnvOk K G ρ σ) {o : Option V} : ∀ (i : Nat), EnvOk K G (ρ.set i none) (σ.set i o) := by
  induction h with
  | nil => intro i; exact .nil
  | non h ih =>
    intro i
    cases i with
    | zero => exact .non h
    | succ i => exact .non (ih i)
  | som p h ih =>
    intro i
    cases i with
    | zero => exact .non h
    | succ i => exact .som p (ih i)
def wipeR (ρ : Rho) : List Nat → Rho
  | [] => ρ
  | v :: vs => (wipeR ρ vs).set v none
theorem env_wipe (h : EnvOk K G ρ σ) : ∀ vs : List Nat, EnvOk K G (wipeR ρ vs) (wipe σ vs)
  | [] => h
  | v :: vs => by
    have q := env_wipe h vs
    show EnvOk K G ((wipeR ρ vs).set v none) ((wipe σ vs).set v none)
    exact env_none q v
/-- fewer slots told -/
inductive RLe : Rho → Rho → Prop where
  | nil : RLe [] []
  | keep {a : Option AV} {r s : Rho} : RLe r s → RLe (a :: r) (a :: s)
  | drop {a : Option AV} {r s : Rho} : RLe r s → RLe (none :: r) (a :: s)
theorem RLe.refl : ∀ r : Rho, RLe r r
  | [] => .nil
  | _ :: r => .keep (RLe.refl r)
theorem env_le {r s : Rho} (e : RLe r s) : ∀ {σ : L2.St}, EnvOk K G s σ → EnvOk K G r σ := by
  induction e with
  | nil => intro σ h; exact h
  | keep _ ih =>
    intro σ h
    cases h with
    | non h => exact .non (ih h)
    | som q h => exact .som q (ih h)
  | drop _ ih =>
    intro σ h
    cases h with
    | non h => exact .non (ih h)
    | som q h => exact .non (ih h)
theorem cells_len (h : CellsOk K G H ms cs) : ms.length = cs.length := by
  induction h with
  | nil => rfl
  | cons _ _ _ _ ih => rw [List.length_cons, List.length_cons, ih]
theorem cells_get (h : CellsOk K G H ms cs) : ∀ {j : Nat} {a : Addr} {c : CO}, ms[j]? = some a → cs[j]? = some c → G a = none ∧ CellOk K G H a c := by
  induction h with
  | nil => intro j a c e; simp at e
  | cons g q n _ ih =>
    intro j a c e1 e2
    cases j with
    | zero => simp at e1 e2; subst e1 e2; exact ⟨g, q⟩
    | succ j => exact ih (by simpa using e1) (by simpa using e2)
theorem cells_mem (h : CellsOk K G H ms cs) : ∀ {a : Addr}, a ∈ ms → G a = none ∧ ∃ o, H a = some o := by
  induction h with
  | nil => intro a e; simp at e
  | cons g q n _ ih =>
    intro a e
    rcases List.mem_cons.mp e with e | e
    · subst e
      refine ⟨g, ?_⟩
      rename_i c ms cs _
      cases c with
      | l ds => obtain ⟨vs, h1, _⟩ := q; exact ⟨_, h1⟩
      | k kvs => obtain ⟨vs, h1, _⟩ := q; exact ⟨_, h1⟩
    · exact ih e
theorem cell_to (h : CellOk K G H a c) (e : Same G G') (x : ∀ o, H a = some o → H' a = some o) : CellOk K G' H' a c := by
  cases c with
  | l ds => obtain ⟨vs, h1, h2⟩ := h; exact ⟨vs, x _ h1, dpa_mono e h2⟩
  | k kvs => obtain ⟨vs, h1, h2⟩ := h; exact ⟨vs, x _ h1, kv_mono e h2⟩
/-- the cells stay -/
theorem cells_to (h : CellsOk K G H ms cs) (e : Same G G') (f : ∀ a ∈ ms, G' a = none) (x : ∀ a ∈ ms, ∀ o, H a = some o → H' a = some o) : CellsOk K G' H' ms cs := by
  induction h with
  | nil => exact .nil
  | cons g q n t ih => exact .cons (f _ List.mem_cons_self) (cell_to q e (x _ List.mem_cons_self)) n (ih (fun a m => f a (List.mem_cons_of_mem _ m)) fun a m => x a (List.mem_cons_of_mem _ m))
end

/-- from (G, H) to (G', H'): what is known stays, all but ms stays, what was there and not known is not known -/
structure Grow (ms : List Addr) (G H G' H' : Hp) : Prop where
  gg : Same G G'
  hh : ∀ b o, b ∉ ms → H b = some o → H' b = some o
  th : ∀ b o, H b = some o → ∃ o', H' b = some o'
  nw : ∀ b o, H b = some o → G b = none → G' b = none
theorem Grow.refl {ms : List Addr} {G H : Hp} : Grow ms G H G H := ⟨Same.refl _, fun _ _ _ h => h, fun _ o h => ⟨o, h⟩, fun _ _ _ h => h⟩
theorem Grow.trans {ms : List Addr} {G H G1 H1 G2 H2 : Hp} (a : Grow ms G H G1 H1) (b : Grow ms G1 H1 G2 H2) : Grow ms G H G2 H2 :=
  ⟨a.gg.trans b.gg, fun c o n h => b.hh c o n (a.hh c o n h), fun c o h => by obtain ⟨o', h'⟩ := a.th c o h; exact b.th c o' h', fun c o h n => by
    obtain ⟨o', h'⟩ := a.th c o h
    exact b.nw c o' h' (a.nw c o h n)⟩
theorem Grow.sub {ms ns : List Addr} {G H G1 H1 : Hp} (a : Grow ms G H G1 H1) (s : ∀ b ∈ ms, b ∈ ns) : Grow ns G H G1 H1 := ⟨a.gg, fun c o n h => a.hh c o (fun z => n (s c z)) h, a.th, a.nw⟩
/-- an exception of the class named c with the fields fs -/
def XR (K : PySem.W.Frag) (mg : Str → Option Value) (c : Str) (fs : List (Str × PD)) (cls : Value) (d : Option Addr) (G H : Hp) : Prop :=
  ∃ C : Addr, mg c = some (.ref C) ∧ cls = .ref C ∧ ((fs = [] ∧ d = none) ∨ ∃ (dd : Addr) (ws : List (Str × V)), d = some dd ∧ H dd = some (.xd ws) ∧ Paired (fun (p : Str × V) (q : Str × PD) => p.1 = q.1 ∧ Dp K G p.2 q.2) ws fs)
/-- what a body stands in: the entry, its cells, what is wanted of errors -/
structure Gam (K : PySem.W.Frag) (mg : Str → Option Value) where
  G : Hp
  H : Hp
  ms : List Addr
  We : WE
  W : XK
  ok : ∀ c fs cls d G' H', We c fs → Grow ms G H G' H' → Same G' H' → XR K mg c fs cls d G' H' → W cls d H'
structure Cfg {K : PySem.W.Frag} {mg : Str → Option Value} (Γ : Gam K mg) (G : Hp) (ρ : Rho) (ms : List Addr) (cs : List CO) (σ : L2.St) (H : Hp) : Prop where
  ex : Same G H
  cells : CellsOk K G H ms cs
  env : EnvOk K G ρ σ
  grow : Grow Γ.ms Γ.G Γ.H G H
  loc : ∀ a ∈ ms, a ∈ Γ.ms ∨ Γ.H a = none
section
variable {K : PySem.W.Frag} {mg : Str → Option Value} {Γ : Gam K mg} {G G' H H' : Hp} {ρ : Rho} {ms : List Addr} {cs cs' : List CO} {σ : L2.St}
theorem same_new {H : Hp} {p : Addr} {o : HO} (h : H p = none) : Same H (upd H p o) := fun b x e => by
  rw [upd_ne (ne_of_none e h)]
  exact e
/-- a step that keeps the cells -/
theorem Cfg.keep (c : Cfg Γ G ρ ms cs σ H) (gg : Same G G') (hh : Same H H') (ex : Same G' H') (nw : ∀ b o, H b = some o → G b = none → G' b = none) : Cfg Γ G' ρ ms cs σ H' where
  ex := ex
  cells := cells_to c.cells gg (fun a m => by
    obtain ⟨g, o, h⟩ := cells_mem c.cells m
    exact nw a o h g) fun a _ o h => hh a o h
  env := env_mono gg c.env
  grow := c.grow.trans ⟨gg, fun b o _ h => hh b o h, fun b o h => ⟨o, hh b o h⟩, nw⟩
  loc := c.loc
/-- a new thing that is known -/
theorem Cfg.new (c : Cfg Γ G ρ ms cs σ H) {p : Addr} {o : HO} (hp : H p = none) : Same G (upd G p o) ∧ Cfg Γ (upd G p o) ρ ms cs σ (upd H p o) := by
  have gp : G p = none := by
    cases e : G p with
    | none => rfl
    | some x => rw [c.ex p x e] at hp; cases hp
  refine ⟨same_new gp, c.keep (same_new gp) (same_new hp) (fun b x e => ?_) fun b x h n => ?_⟩
  · by_cases hb : b = p
    · subst hb
      rw [upd_same] at e ⊢
      exact e
    · rw [upd_ne hb] at e ⊢
      exact c.ex b x e
  · rw [upd_ne (ne_of_none h hp)]
    exact n
end

/-! ### judgements -/
/-- of a value: the heap ahead, what is known and the heap behind -/
abbrev VR (β : Type) := Hp → Hp → Hp → V → β → Prop
/-- the value is the data -/
def RD (K : PySem.W.Frag) : VR PD := fun _ G _ v d => Dp K G v d
/-- a list or tuple that can be read now -/
def RS (K : PySem.W.Frag) : VR PD := fun _ G H v d => Dp K G v d ∨ ∃ a vs ds, v = .ref a ∧ d = .list ds ∧ H a = some (.lst vs) ∧ DpAll K G vs ds
/-- a new list -/
def RL (K : PySem.W.Frag) : VR (List PD) := fun H0 G H v ds => ∃ p vs, v = .ref p ∧ H0 p = none ∧ G p = none ∧ H p = some (.lst vs) ∧ DpAll K G vs ds
/-- what was known stays -/
abbrev Kept (H H' : Hp) : Prop := Same H H'
/-- what was there is there -/
def There (H H' : Hp) : Prop := ∀ a o, H a = some o → ∃ o', H' a = some o'
theorem Kept.there {H H' : Hp} (k : Kept H H') : There H H' := fun a o h => ⟨o, k a o h⟩
theorem There.trans {H H1 H2 : Hp} (a : There H H1) (b : There H1 H2) : There H H2 := fun c o h => by
  obtain ⟨o', h'⟩ := a c o h
  exact b c o' h'
theorem There.free {H H1 : Hp} (a : There H H1) {p : Addr} (h : H1 p = none) : H p = none := by
  cases e : H p with
  | none => rfl
  | some o =>
    obtain ⟨o', h'⟩ := a p o e
    rw [h] at h'
    cases h'
section
variable (K : PySem.W.Frag) (mg : Str → Option Value) (W : XK)
def SemP {β : Type} (te : TE) (R : VR β) (ρ : Rho) (ms : List Addr) (cs : List CO) (m : Out β) : Prop :=
  ∀ (Γ : Gam K mg) (G : Hp) (σ : L2.St) (H : Hp) (Q : VK), Γ.W = W → Cfg Γ G ρ ms cs σ H → Res Γ.We m (fun b => ∀ v G' H', Same G G' → Cfg Γ G' ρ ms cs σ H' → Kept H H' → R H G' H' v b → Q v H') → te σ H Q
def SemX {β : Type} (te : TE) (R : VR β) (ρ : Rho) (ms : List Addr) (cs : List CO) (m : Out (β × List CO)) : Prop :=
  ∀ (Γ : Gam K mg) (G : Hp) (σ : L2.St) (H : Hp) (Q : VK), Γ.W = W → Cfg Γ G ρ ms cs σ H → Res Γ.We m (fun b => ∀ v G' H', Same G G' → Cfg Γ G' ρ ms b.2 σ H' → There H H' → R H G' H' v b.1 → Q v H') → te σ H Q
def SemT (tt : TT) (ρ : Rho) (ms : List Addr) (cs : List CO) (m : Out Bool) : Prop :=
  ∀ (Γ : Gam K mg) (G : Hp) (σ : L2.St) (H : Hp) (Q : Bool → Hp → Prop), Γ.W = W → Cfg Γ G ρ ms cs σ H → Res Γ.We m (fun b => ∀ G' H', Same G G' → Cfg Γ G' ρ ms cs σ H' → Kept H H' → Q b H') → tt σ H Q
def SemTX (tt : TT) (ρ : Rho) (ms : List Addr) (cs : List CO) (m : Out (Bool × List CO)) : Prop :=
  ∀ (Γ : Gam K mg) (G : Hp) (σ : L2.St) (H : Hp) (Q : Bool → Hp → Prop), Γ.W = W → Cfg Γ G ρ ms cs σ H → Res Γ.We m (fun b => ∀ G' H', Same G G' → Cfg Γ G' ρ ms b.2 σ H' → There H H' → Q b.1 H') → tt σ H Q
/-- an argument list of data -/
def SemA (n : Nat) (ta : TA) (ρ : Rho) (ms : List Addr) (cs : List CO) (m : Out (List PD)) : Prop :=
  ∀ (Γ : Gam K mg) (G : Hp) (σ : L2.St) (H : Hp) (Q : List V → Hp → Prop), Γ.W = W → Cfg Γ G ρ ms cs σ H → Res Γ.We m (fun b => ∀ vs G' H', Same G G' → Cfg Γ G' ρ ms cs σ H' → Kept H H' → DpAll K G' vs b → b.length = n → Q vs H') → ta σ H Q
def SemAX (n : Nat) (ta : TA) (ρ : Rho) (ms : List Addr) (cs : List CO) (m : Out (List PD × List CO)) : Prop :=
  ∀ (Γ : Gam K mg) (G : Hp) (σ : L2.St) (H : Hp) (Q : List V → Hp → Prop), Γ.W = W → Cfg Γ G ρ ms cs σ H → Res Γ.We m (fun b => ∀ vs G' H', Same G G' → Cfg Γ G' ρ ms b.2 σ H' → There H H' → DpAll K G' vs b.1 → b.1.length = n → Q vs H') → ta σ H Q
end
def EP {β : Type} (X : Cx) (W : XK) (R : VR β) (e : Expr) (ρ : Rho) (ms : List Addr) (cs : List CO) (m : Out β) : Prop := ∃ te, PE X e te ∧ SemP X.K X.mg W te R ρ ms cs m
def EX {β : Type} (X : Cx) (W : XK) (R : VR β) (e : Expr) (ρ : Rho) (ms : List Addr) (cs : List CO) (m : Out (β × List CO)) : Prop := ∃ te, PE X e te ∧ SemX X.K X.mg W te R ρ ms cs m
def TP (X : Cx) (W : XK) (e : Expr) (ρ : Rho) (ms : List Addr) (cs : List CO) (m : Out Bool) : Prop := ∃ tt, PT X e tt ∧ SemT X.K X.mg W tt ρ ms cs m
def TX (X : Cx) (W : XK) (e : Expr) (ρ : Rho) (ms : List Addr) (cs : List CO) (m : Out (Bool × List CO)) : Prop := ∃ tt, PT X e tt ∧ SemTX X.K X.mg W tt ρ ms cs m
def AP (X : Cx) (W : XK) (es : List Expr) (ρ : Rho) (ms : List Addr) (cs : List CO) (m : Out (List PD)) : Prop := ∃ ta, PA X es ta ∧ SemA X.K X.mg W es.length ta ρ ms cs m
def AX (X : Cx) (W : XK) (es : List Expr) (ρ : Rho) (ms : List Addr) (cs : List CO) (m : Out (List PD × List CO)) : Prop := ∃ ta, PA X es ta ∧ SemAX X.K X.mg W es.length ta ρ ms cs m
section
variable {β : Type} {X : Cx} {W : XK} {R : VR β} {e : Expr} {ρ : Rho} {ms : List Addr} {cs : List CO}
theorem EP.x {m : Out β} (h : EP X W R e ρ ms cs m) : EX X W R e ρ ms cs (m >>= fun b => .ok (b, cs)) := by
  obtain ⟨te, h1, h2⟩ := h
  refine ⟨te, h1, fun Γ G σ H Q hw c hr => h2 Γ G σ H Q hw c (hr.bind.mono fun b k v G' H' g c' kp r => ?_)⟩
  exact k v G' H' g c' kp.there r
theorem TP.x {m : Out Bool} (h : TP X W e ρ ms cs m) : TX X W e ρ ms cs (m >>= fun b => .ok (b, cs)) := by
  obtain ⟨te, h1, h2⟩ := h
  refine ⟨te, h1, fun Γ G σ H Q hw c hr => h2 Γ G σ H Q hw c (hr.bind.mono fun b k G' H' g c' kp => ?_)⟩
  exact k G' H' g c' kp.there
theorem AP.x {es : List Expr} {m : Out (List PD)} (h : AP X W es ρ ms cs m) : AX X W es ρ ms cs (m >>= fun b => .ok (b, cs)) := by
  obtain ⟨te, h1, h2⟩ := h
  refine ⟨te, h1, fun Γ G σ H Q hw c hr => h2 Γ G σ H Q hw c (hr.bind.mono fun b k v G' H' g c' kp r n => ?_)⟩
  exact k v G' H' g c' kp.there r n
/-- the value is told otherwise -/
theorem EP.to {γ : Type} {S : VR γ} {m : Out β} (f : β → γ) (h : EP X W R e ρ ms cs m) (k : ∀ H G H' v b, Same G H' → R H G H' v b → S H G H' v (f b)) : EP X W S e ρ ms cs (m >>= fun b => .ok (f b)) := by
  obtain ⟨te, h1, h2⟩ := h
  refine ⟨te, h1, fun Γ G σ H Q hw c hr => h2 Γ G σ H Q hw c (hr.bind.mono fun b q v G' H' g c' kp r => ?_)⟩
  exact q v G' H' g c' kp (k _ _ _ _ _ c'.ex r)
theorem EP.s {m : Out PD} (h : EP X W (RD X.K) e ρ ms cs m) : EP X W (RS X.K) e ρ ms cs m := by
  obtain ⟨te, h1, h2⟩ := h
  exact ⟨te, h1, fun Γ G σ H Q hw c hr => h2 Γ G σ H Q hw c (hr.mono fun b q v G' H' g c' kp r => q v G' H' g c' kp (.inl r))⟩
theorem EX.s {m : Out (PD × List CO)} (h : EX X W (RD X.K) e ρ ms cs m) : EX X W (RS X.K) e ρ ms cs m := by
  obtain ⟨te, h1, h2⟩ := h
  exact ⟨te, h1, fun Γ G σ H Q hw c hr => h2 Γ G σ H Q hw c (hr.mono fun b q v G' H' g c' kp r => q v G' H' g c' kp (.inl r))⟩
/-- a new list as data -/
theorem upd_known {K : PySem.W.Frag} {mg : Str → Option Value} {Γ : Gam K mg} {G H : Hp} {σ : L2.St} (c : Cfg Γ G ρ ms cs σ H) {p : Addr} {o : HO} (gp : G p = none) (hp : H p = some o) (np : p ∉ ms) (nn : Γ.H p = none) : Same G (upd G p o) ∧ Cfg Γ (upd G p o) ρ ms cs σ H := by
  refine ⟨same_new gp, fun b x e => ?_, cells_to c.cells (same_new gp) (fun a m => ?_) (fun _ _ _ h => h), env_mono (same_new gp) c.env, ⟨c.grow.gg.trans (same_new gp), c.grow.hh, c.grow.th, fun b x h n => ?_⟩, c.loc⟩
  · by_cases hb : b = p
    · subst hb
      rw [upd_same] at e
      rw [hp]
      exact e
    · rw [upd_ne hb] at e
      exact c.ex b x e
  · rw [upd_ne (fun z => np (by rw [← z]; exact m))]
    exact (cells_mem c.cells m).1
  · rw [upd_ne (ne_of_none h nn)]
    exact c.grow.nw b x h n
theorem fresh_ok {K : PySem.W.Frag} {mg : Str → Option Value} {Γ : Gam K mg} {G H : Hp} {σ : L2.St} (c : Cfg Γ G ρ ms cs σ H) {p : Addr} (hp : H p = none) : p ∉ ms ∧ Γ.H p = none := by
  refine ⟨fun m => ?_, There.free (fun a o h => c.grow.th a o h) hp⟩
  obtain ⟨_, o, h⟩ := cells_mem c.cells m
  rw [hp] at h
  cases h
theorem EX.l {m : Out (List PD × List CO)} (h : EX X W (RL X.K) e ρ ms cs m) : EX X W (RD X.K) e ρ ms cs (m >>= fun p => .ok (.list p.1, p.2)) := by
  obtain ⟨te, h1, h2⟩ := h
  refine ⟨te, h1, fun Γ G σ H Q hw c hr => h2 Γ G σ H Q hw c (hr.bind.mono fun b q v G' H' g c' kp r => ?_)⟩
  obtain ⟨p, vs, rfl, h0, gp, hp, hd⟩ := r
  obtain ⟨n1, n2⟩ := fresh_ok c h0
  obtain ⟨s1, c2⟩ := upd_known c' gp hp n1 n2
  exact q _ _ _ (g.trans s1) c2 kp (.lst (.inl (.inl upd_same)) (dpa_mono s1 hd))
theorem EP.l {m : Out (List PD)} (h : EP X W (RL X.K) e ρ ms cs m) : EP X W (RD X.K) e ρ ms cs (m >>= fun p => .ok (.list p)) := by
  obtain ⟨te, h1, h2⟩ := h
  refine ⟨te, h1, fun Γ G σ H Q hw c hr => h2 Γ G σ H Q hw c (hr.bind.mono fun b q v G' H' g c' kp r => ?_)⟩
  obtain ⟨p, vs, rfl, h0, gp, hp, hd⟩ := r
  obtain ⟨n1, n2⟩ := fresh_ok c h0
  obtain ⟨s1, c2⟩ := upd_known c' gp hp n1 n2
  exact q _ _ _ (g.trans s1) c2 kp (.lst (.inl (.inl upd_same)) (dpa_mono s1 hd))
end
end Dd
set_option Elab.async false
set_option linter.all false
set_option maxRecDepth 100000
set_option maxHeartbeats 2000000
namespace Dd
open PySem PySem.Spec PyProof.Rows L2

/-! ### operations on data -/
def addD : PD → PD → Out PD
  | .int a, .int b => .ok (.int (a + b))
  | .str a, .str b => if a.length + b.length ≤ sizeLine then .ok (.str (a ++ b)) else .bad
  | .tuple a, .tuple b => if a.length + b.length ≤ sizeLine then .ok (.tuple (a ++ b)) else .bad
  | .list a, .list b => if a.length + b.length ≤ sizeLine then .ok (.list (a ++ b)) else .bad
  | _, _ => .bad
def catL : PD → PD → Out (List PD)
  | .list a, .list b => if a.length + b.length ≤ sizeLine then .ok (a ++ b) else .bad
  | _, _ => .bad
def subD : PD → PD → Out PD
  | .int a, .int b => .ok (.int (a - b))
  | _, _ => .bad
instance {i j : Int} : Decidable (CMul i j) := by unfold CMul; exact inferInstance
instance {i j : Int} : Decidable (CDivN i j) := by unfold CDivN; exact inferInstance
instance {i j : Int} : Decidable (CPow i j) := by unfold CPow; exact inferInstance
def mulD : PD → PD → Out PD
  | .int a, .int b => if CMul a b then .ok (.int (a * b)) else .bad
  | _, _ => .bad
def fdivD : PD → PD → Out PD
  | .int a, .int b => if CDivN a b then .ok (.int (a.fdiv b)) else .bad
  | _, _ => .bad
def modD : PD → PD → Out PD
  | .int a, .int b => if b ≠ 0 then .ok (.int (a.fmod b)) else .bad
  | _, _ => .bad
def powD : PD → PD → Out PD
  | .int a, .int b => if CPow a b then .ok (.int (a ^ b.toNat)) else .bad
  | _, _ => .bad
def negD : PD → Out PD
  | .int a => .ok (.int (-a))
  | _ => .bad
def ltD : PD → PD → Out Bool
  | .int a, .int b => .ok (decide (a < b))
  | .str a, .str b => .ok (decide (a.cps.toList < b.cps.toList))
  | _, _ => .bad
def leD : PD → PD → Out Bool
  | .int a, .int b => .ok (decide (a ≤ b))
  | .str a, .str b => .ok (!decide (b.cps.toList < a.cps.toList))
  | _, _ => .bad
def gtD (a b : PD) : Out Bool := ltD b a
def geD (a b : PD) : Out Bool := leD b a
def eqD (a b : PD) : Out Bool := if SeqAt.shaped a && SeqAt.shaped b then .ok (PyData.eqv a b) else .bad
def neD (a b : PD) : Out Bool := if SeqAt.shaped a && SeqAt.shaped b then .ok (!PyData.eqv a b) else .bad
def isND : PD → Bool
  | .none => true
  | _ => false
def isBD (b : Bool) : PD → Bool
  | .bool c => c == b
  | _ => false
def idxD : PD → PD → Out PD
  | .tuple xs, .int i => match atI xs i with | some d => .ok d | none => .bad
  | .list xs, .int i => match atI xs i with | some d => .ok d | none => .bad
  | .str z, .int i => if z.length ≤ sizeLine then (match atI z.cps.toList i with | some c => .ok (.str ⟨#[c]⟩) | none => .bad) else .bad
  | _, _ => .bad
def cutL {α : Type} (xs : List α) (lo hi : Option Int) : List α := (xs.drop (HT.sIx xs.length 0 lo)).take (HT.sIx xs.length xs.length hi - HT.sIx xs.length 0 lo)
def cutD (x : PD) (lo hi : Option Int) : Out PD := match x with
  | .str z => if z.length ≤ sizeLine then .ok (.str (cutS z lo hi)) else .bad
  | .tuple xs => .ok (.tuple (cutL xs lo hi))
  | .list xs => .ok (.list (cutL xs lo hi))
  | _ => .bad
def cutLL (x : PD) (lo hi : Option Int) : Out (List PD) := match x with
  | .list xs => .ok (cutL xs lo hi)
  | _ => .bad
def lenD : PD → Out PD
  | .str z => if z.length ≤ sizeLine then .ok (.int z.length) else .bad
  | .tuple xs => .ok (.int xs.length)
  | .list xs => .ok (.int xs.length)
  | _ => .bad
def truthD : PD → Out Bool
  | .none => .ok false
  | .bool b => .ok b
  | .int i => .ok (i != 0)
  | .str z => if z.length ≤ sizeLine then .ok ((z.length : Int) != 0) else .bad
  | .tuple xs => .ok (!xs.isEmpty)
  | .list xs => .ok (!xs.isEmpty)
  | _ => .bad
def intD : PD → Out PD
  | .int i => .ok (.int i)
  | .bool b => .ok (.int (if b then 1 else 0))
  | _ => .bad
def boolD : PD → Out Bool
  | .bool b => .ok b
  | _ => .bad
def partD : PD → Out (Option Int)
  | .int i => .ok (some i)
  | _ => .bad
def itemsD : PD → Out (List PD)
  | .tuple xs => .ok xs
  | .list xs => .ok xs
  | .str z => .ok (z.cps.toList.map fun c => .str ⟨#[c]⟩)
  | _ => .bad
def seqD : PD → Out (List PD)
  | .tuple xs => .ok xs
  | .list xs => .ok xs
  | _ => .bad
def rangeD : PD → PD → Out (List PD)
  | .int a, .int b => if -(2 ^ 62) ≤ a ∧ a < 2 ^ 62 ∧ -(2 ^ 62) ≤ b ∧ b < 2 ^ 62 then .ok ((List.range (b - a).toNat).map fun i => .int (a + (i : Nat))) else .bad
  | _, _ => .bad
def strsD : List PD → Option (List Str)
  | [] => some []
  | .str z :: r => (strsD r).map (z :: ·)
  | _ :: _ => none
theorem strsD_eq : ∀ {ds : List PD} {zs : List Str}, strsD ds = some zs → ds = zs.map PyData.str
  | [], zs, h => by cases h; rfl
  | .str z :: r, zs, h => by
    unfold strsD at h
    cases e : strsD r with
    | none => rw [e] at h; cases h
    | some ys =>
      rw [e] at h
      cases h
      rw [List.map_cons, strsD_eq e]
  | .none :: _, _, h => by cases h
  | .bool _ :: _, _, h => by cases h
  | .int _ :: _, _, h => by cases h
  | .list _ :: _, _, h => by cases h
  | .tuple _ :: _, _, h => by cases h
  | .dict _ :: _, _, h => by cases h
theorem strsD_map : ∀ (zs : List Str), strsD (zs.map PyData.str) = some zs
  | [] => rfl
  | z :: r => by rw [List.map_cons, strsD, strsD_map r]; rfl
def joinD : PD → PD → Out PD
  | .str a, .list ds => match strsD ds with
    | some zs => if (zs.map (·.length)).sum + zs.length * a.length ≤ 16777216 then .ok (.str (Txt.join a zs)) else .bad
    | none => .bad
  | .str a, .tuple ds => match strsD ds with
    | some zs => if (zs.map (·.length)).sum + zs.length * a.length ≤ 16777216 then .ok (.str (Txt.join a zs)) else .bad
    | none => .bad
  | _, _ => .bad
def startsD : PD → PD → Out PD
  | .str a, .str b => .ok (.bool (Txt.startswith a b))
  | _, _ => .bad
/-- flat data -/
def flatD : PD → Bool
  | .none => true | .bool _ => true | .int _ => true | .str _ => true | _ => false
def inD (x s : PD) : Out Bool := match s with
  | .str z => match x with
    | .str y => .ok (!(Builtin.Str.occurrences z y 0 z.length 1).isEmpty)
    | _ => .bad
  | .list ys => if flatD x && ys.all flatD then .ok (ys.any fun y => PyData.eqv y x) else .bad
  | .tuple ys => if flatD x && ys.all flatD then .ok (ys.any fun y => PyData.eqv y x) else .bad
  | _ => .bad
def notInD (x s : PD) : Out Bool := inD x s >>= fun b => .ok (!b)

/-! ### what they rest on -/
section
variable {K : PySem.W.Frag} {mg : Str → Option Value} {Γ : Gam K mg} {G H : Hp} {ρ : Rho} {ms : List Addr} {cs : List CO} {σ : L2.St}
/-- readable at H -/
def Rdb (K : PySem.W.Frag) (H : Hp) (v : V) (d : PD) : Prop := Dp K H v d
theorem rs_dp (ex : Same G H) {H0 : Hp} {v : V} {d : PD} (h : RS K H0 G H v d) : Dp K H v d := by
  rcases h with h | ⟨a, vs, ds, rfl, rfl, h1, h2⟩
  · exact dp_mono ex h
  · exact .lst (.inl (.inl h1)) (dpa_mono ex h2)
theorem rs_stab {H0 G1 H1 G2 H2 : Hp} {v : V} {d : PD} (h : RS K H0 G1 H1 v d) (g : Same G1 G2) (k : Kept H1 H2) : RS K H0 G2 H2 v d := by
  rcases h with h | ⟨a, vs, ds, e1, e2, h1, h2⟩
  · exact .inl (dp_mono g h)
  · exact .inr ⟨a, vs, ds, e1, e2, k _ _ h1, dpa_mono g h2⟩
theorem rs_back {H0 H1 G H : Hp} {v : V} {d : PD} (h : RS K H1 G H v d) : RS K H0 G H v d := h
/-- its items are known -/
theorem rs_list {H0 : Hp} {v : V} {ds : List PD} (h : RS K H0 G H v (.list ds)) (ex : Same G H) : ∃ a vs, v = .ref a ∧ SqL K H a vs ∧ DpAll K G vs ds := by
  rcases h with h | ⟨a, vs, ds, rfl, e2, h1, h2⟩
  · cases h with
    | lst q t => exact ⟨_, _, rfl, ex.seq q, t⟩
  · cases e2
    exact ⟨a, vs, rfl, .inl (.inl h1), h2⟩
theorem rs_tup {H0 : Hp} {v : V} {ds : List PD} (h : RS K H0 G H v (.tuple ds)) (ex : Same G H) : ∃ a vs, v = .ref a ∧ SqT K H a vs ∧ DpAll K G vs ds ∧ Dp K G v (.tuple ds) := by
  rcases h with h | ⟨a, vs, ds, rfl, e2, h1, h2⟩
  · cases h with
    | tup q t => exact ⟨_, _, rfl, sqt_mono ex q, t, .tup q t⟩
  · cases e2
theorem rs_int {H0 : Hp} {v : V} {i : Int} (h : RS K H0 G H v (.int i)) : v = .int i := by
  rcases h with h | ⟨a, vs, ds, rfl, e2, h1, h2⟩
  · cases h; rfl
  · cases e2
theorem rs_str {H0 : Hp} {v : V} {i : Str} (h : RS K H0 G H v (.str i)) : v = .str i := by
  rcases h with h | ⟨a, vs, ds, rfl, e2, h1, h2⟩
  · cases h; rfl
  · cases e2
theorem rs_bool {H0 : Hp} {v : V} {i : Bool} (h : RS K H0 G H v (.bool i)) : v = .bl i := by
  rcases h with h | ⟨a, vs, ds, rfl, e2, h1, h2⟩
  · cases h; rfl
  · cases e2
theorem rs_none {H0 : Hp} {v : V} (h : RS K H0 G H v .none) : v = .non := by
  rcases h with h | ⟨a, vs, ds, rfl, e2, h1, h2⟩
  · cases h; rfl
  · cases e2
end

/-! ### a two-place operation -/
/-- r does f -/
def OpS {γ : Type} (X : Cx) (r : R2) (R : VR γ) (f : PD → PD → Out γ) : Prop :=
  ∀ (Γ : Gam X.K X.mg) (G : Hp) (ρ : Rho) (ms : List Addr) (cs : List CO) (σ : L2.St) (H H0 : Hp) (x y : V) (dx dy : PD) (Q : VK), Cfg Γ G ρ ms cs σ H → There H0 H → RS X.K H0 G H x dx → RS X.K H0 G H y dy →
    Res Γ.We (f dx dy) (fun c => ∀ v G' H', Same G G' → Cfg Γ G' ρ ms cs σ H' → Kept H H' → R H0 G' H' v c → Q v H') → r x y H Q
section
variable {X : Cx} {W : XK} {a b c : Expr} {ρ : Rho} {ms : List Addr} {cs : List CO} {pos : Pos}
theorem sem_op {γ : Type} {r : R2} {R : VR γ} {f : PD → PD → Out γ} {ta tb : TE} {ma mb : Out PD} (hf : OpS X r R f) (ha : SemP X.K X.mg W ta (RS X.K) ρ ms cs ma) (hb : SemP X.K X.mg W tb (RS X.K) ρ ms cs mb) :
    SemP X.K X.mg W (tOp r ta tb) R ρ ms cs (ma >>= fun x => mb >>= fun y => f x y) := fun Γ G σ H Q hw c hr =>
  ha Γ G σ H _ hw c (hr.bind.mono fun x k v G1 H1 g1 c1 k1 r1 => hb Γ G1 σ H1 _ hw c1 (k.bind.mono fun y k2 u G2 H2 g2 c2 k2' r2 =>
    hf Γ G2 ρ ms cs σ H2 H v u x y Q c2 (Kept.there (k1.trans k2')) (rs_stab r1 g2 k2') r2 (k2.mono fun z q w G3 H3 g3 c3 k3 r3 => q w G3 H3 (g1.trans (g2.trans g3)) c3 (k1.trans (k2'.trans k3)) r3)))
theorem sem_opX {γ : Type} {r : R2} {R : VR γ} {f : PD → PD → Out γ} {ta tb : TE} {ma : Out (PD × List CO)} {mb : List CO → Out (PD × List CO)} (hf : OpS X r R f) (ha : SemX X.K X.mg W ta (RD X.K) ρ ms cs ma) (hb : ∀ cs1, SemX X.K X.mg W tb (RS X.K) ρ ms cs1 (mb cs1)) :
    SemX X.K X.mg W (tOp r ta tb) R ρ ms cs (ma >>= fun x => mb x.2 >>= fun y => f x.1 y.1 >>= fun z => .ok (z, y.2)) := fun Γ G σ H Q hw c hr =>
  ha Γ G σ H _ hw c (hr.bind.mono fun x k v G1 H1 g1 c1 k1 r1 => hb x.2 Γ G1 σ H1 _ hw c1 (k.bind.mono fun y k2 u G2 H2 g2 c2 k2' r2 =>
    hf Γ G2 ρ ms y.2 σ H2 H v u x.1 y.1 Q c2 (k1.trans k2') (.inl (dp_mono g2 r1)) r2 (k2.bind.mono fun z q w G3 H3 g3 c3 k3 r3 => q w G3 H3 (g1.trans (g2.trans g3)) c3 (k1.trans (k2'.trans k3.there)) r3)))
theorem ep_op {γ : Type} {op : Operator} {r : R2} {R : VR γ} {f : PD → PD → Out γ} {ma mb : Out PD} (ho : OpR X (binaryOp op) r ∧ OpS X r R f) (ha : EP X W (RS X.K) a ρ ms cs ma) (hb : EP X W (RS X.K) b ρ ms cs mb) :
    EP X W R (.BinOp a op b pos) ρ ms cs (ma >>= fun x => mb >>= fun y => f x y) := by
  obtain ⟨ta, a1, a2⟩ := ha
  obtain ⟨tb, b1, b2⟩ := hb
  exact ⟨_, pe_op ho.1 a1 b1, sem_op ho.2 a2 b2⟩
theorem pick_te {ι : Type} {P : ι → TE → Prop} {Ps : ι → TE → Prop} (h : ∀ i, ∃ te, P i te ∧ Ps i te) : ∃ t : ι → TE, (∀ i, P i (t i)) ∧ ∀ i, Ps i (t i) := ⟨fun i => (h i).choose, fun i => (h i).choose_spec.1, fun i => (h i).choose_spec.2⟩
theorem pe_all {e : Expr} {ι : Type} {t : ι → TE} (i0 : ι) (h : ∀ i, PE X e (t i)) : PE X e (fun σ H Q => ∃ i, t i σ H Q) := ⟨fun pins s σ H Q I hw => by
  obtain ⟨i, hw⟩ := hw
  exact (h i).run pins s σ H Q I hw⟩
/-- an expression told for each contents of the cells -/
theorem ex_all {β : Type} {R : VR β} {e : Expr} {m : List CO → Out (β × List CO)} (h : ∀ cs, EX X W R e ρ ms cs (m cs)) : ∃ te, PE X e te ∧ ∀ cs, SemX X.K X.mg W te R ρ ms cs (m cs) := by
  obtain ⟨t, h1, h2⟩ := pick_te h
  exact ⟨_, pe_all [] h1, fun cs Γ G σ H Q hw c hr => ⟨cs, h2 cs Γ G σ H Q hw c hr⟩⟩
theorem ex_op {γ : Type} {op : Operator} {r : R2} {R : VR γ} {f : PD → PD → Out γ} {ma : Out (PD × List CO)} {mb : List CO → Out (PD × List CO)} (ho : OpR X (binaryOp op) r ∧ OpS X r R f) (ha : EX X W (RD X.K) a ρ ms cs ma) (hb : ∀ cs1, EX X W (RS X.K) b ρ ms cs1 (mb cs1)) :
    EX X W R (.BinOp a op b pos) ρ ms cs (ma >>= fun x => mb x.2 >>= fun y => f x.1 y.1 >>= fun z => .ok (z, y.2)) := by
  obtain ⟨ta, a1, a2⟩ := ha
  obtain ⟨tb, b1, b2⟩ := ex_all hb
  exact ⟨_, pe_op ho.1 a1 b1, sem_opX ho.2 a2 b2⟩
end
section
variable {X : Cx}
theorem ops_or {γ : Type} {r r' : R2} {R : VR γ} {f f' : PD → PD → Out γ} (g : PD → PD → Out γ) (h : OpS X r R f) (h' : OpS X r' R f') (hg : ∀ x y, g x y = f x y ∨ g x y = f' x y) : OpS X (fun x y H Q => r x y H Q ∨ r' x y H Q) R g := by
  intro Γ G ρ ms cs σ H H0 x y dx dy Q c t rx ry hr
  rcases hg dx dy with e | e
  · rw [e] at hr; exact .inl (h Γ G ρ ms cs σ H H0 x y dx dy Q c t rx ry hr)
  · rw [e] at hr; exact .inr (h' Γ G ρ ms cs σ H H0 x y dx dy Q c t rx ry hr)
/-- ints to an int -/
theorem ops_int {C : Int → Int → Prop} {g : Int → Int → Int} {f : PD → PD → Out PD} (h1 : ∀ x y, f x y ≠ .bad → ∃ i j, x = .int i ∧ y = .int j ∧ C i j ∧ f x y = .ok (.int (g i j))) : OpS X (rI C fun i j => .int (g i j)) (RD X.K) f := by
  intro Γ G ρ ms cs σ H H0 x y dx dy Q c t rx ry hr
  by_cases hb : f dx dy = .bad
  · rw [hb] at hr; exact hr.elim
  obtain ⟨i, j, rfl, rfl, hc, e⟩ := h1 dx dy hb
  rw [e] at hr
  cases rs_int rx
  cases rs_int ry
  exact ⟨i, j, rfl, rfl, hc, hr _ G H (Same.refl _) c (Same.refl _) (.int _)⟩
theorem ops_int0 {g : Int → Int → Int} {f : PD → PD → Out PD} (h1 : ∀ x y, f x y ≠ .bad → ∃ i j, x = .int i ∧ y = .int j ∧ f x y = .ok (.int (g i j))) : OpS X (rI0 fun i j => .int (g i j)) (RD X.K) f := by
  intro Γ G ρ ms cs σ H H0 x y dx dy Q c t rx ry hr
  by_cases hb : f dx dy = .bad
  · rw [hb] at hr; exact hr.elim
  obtain ⟨i, j, rfl, rfl, e⟩ := h1 dx dy hb
  rw [e] at hr
  cases rs_int rx
  cases rs_int ry
  exact ⟨i, j, rfl, rfl, hr _ G H (Same.refl _) c (Same.refl _) (.int _)⟩
theorem o_sub : OpR X (binaryOp .Sub) (rI0 fun i j => .int (i - j)) ∧ OpS X (rI0 fun i j => .int (i - j)) (RD X.K) subD :=
  ⟨op_sub, ops_int0 fun x y h => by cases x <;> cases y <;> first | exact ⟨_, _, rfl, rfl, rfl⟩ | exact (h rfl).elim⟩
theorem o_mul : OpR X (binaryOp .Mult) (rI CMul fun i j => .int (i * j)) ∧ OpS X (rI CMul fun i j => .int (i * j)) (RD X.K) mulD :=
  ⟨op_mul, ops_int fun x y h => by
    cases x <;> cases y <;> first
      | exact (h rfl).elim
      | (rename_i i j
         by_cases hc : CMul i j
         · exact ⟨_, _, rfl, rfl, hc, if_pos hc⟩
         · exact (h (if_neg hc)).elim)⟩
theorem o_fdiv : OpR X (binaryOp .FloorDiv) (rI CDivN fun i j => .int (i.fdiv j)) ∧ OpS X (rI CDivN fun i j => .int (i.fdiv j)) (RD X.K) fdivD :=
  ⟨op_fdivN, ops_int fun x y h => by
    cases x <;> cases y <;> first
      | exact (h rfl).elim
      | (rename_i i j
         by_cases hc : CDivN i j
         · exact ⟨_, _, rfl, rfl, hc, if_pos hc⟩
         · exact (h (if_neg hc)).elim)⟩
theorem o_mod : OpR X (binaryOp .Mod) (rI (fun _ j => j ≠ 0) fun i j => .int (i.fmod j)) ∧ OpS X (rI (fun _ j => j ≠ 0) fun i j => .int (i.fmod j)) (RD X.K) modD :=
  ⟨op_modN, ops_int fun x y h => by
    cases x <;> cases y <;> first
      | exact (h rfl).elim
      | (rename_i i j
         by_cases hc : j ≠ 0
         · exact ⟨_, _, rfl, rfl, hc, if_pos hc⟩
         · exact (h (if_neg hc)).elim)⟩
theorem o_pow : OpR X (binaryOp .Pow) (rI CPow fun i j => .int (i ^ j.toNat)) ∧ OpS X (rI CPow fun i j => .int (i ^ j.toNat)) (RD X.K) powD :=
  ⟨op_pow, ops_int fun x y h => by
    cases x <;> cases y <;> first
      | exact (h rfl).elim
      | (rename_i i j
         by_cases hc : CPow i j
         · exact ⟨_, _, rfl, rfl, hc, if_pos hc⟩
         · exact (h (if_neg hc)).elim)⟩
/-- list + list, any two lists that can be read -/
def rCatS (K : PySem.W.Frag) : R2 := fun x y H Q => ∃ l b xs zs, x = .ref l ∧ y = .ref b ∧ SqL K H l xs ∧ SqL K H b zs ∧ xs.length + zs.length ≤ sizeLine ∧ ∀ p, H p = none → Q (.ref p) (upd H p (.lst (xs ++ zs)))
theorem op_catS : OpR X (binaryOp .Add) (rCatS X.K) := by
  intro pins s σ H x y v u Q I rx ry h
  obtain ⟨l, b, xs, zs, rfl, rfl, hH, hB, hz, q⟩ := h
  cases rx
  cases ry
  obtain ⟨its, r, hl, _⟩ := I.list hH
  obtain ⟨its2, r2, hl2, _⟩ := I.list hB
  have n1 := r.length
  have n2 := r2.length
  obtain ⟨⟨cls, dd, data, sl⟩, ho, hc, n, hd⟩ := id hl.isList
  obtain ⟨⟨cls2, dd2, data2, sl2⟩, ho2, hc2, n2', hd2⟩ := id hl2.isList
  simp only at hc hd hc2 hd2
  subst hc hd hc2 hd2
  refine concat_meets ⟨_, ho, rfl⟩ ⟨_, ho2, rfl⟩ noFill_list_add seq_list_add PySem.F.slot_list_add PySem.F.entry_list_add (PySem.F.args_list_add_2 _ _) (list_addW l b its.toArray its2.toArray n n2' dd dd2 sl sl2 (by simp only [List.size_toArray]; omega)) ⟨ho, ho2, ?_⟩
  have ea : its.toArray ++ its2.toArray = (its ++ its2).toArray := by simp
  rw [ea]
  exact ⟨.ref _, _, I.lnew (t' := s.toks) (r.append r2) (by rw [List.length_append]; omega), rfl, q _ I.fresh⟩
theorem ops_catL : OpS X (rCatS X.K) (RL X.K) catL := by
  intro Γ G ρ ms cs σ H H0 x y dx dy Q c t rx ry hr
  cases dx <;> cases dy <;> first
    | exact hr.elim
    | skip
  rename_i xs ys
  obtain ⟨a, vs, rfl, h1, d1⟩ := rs_list rx c.ex
  obtain ⟨b, ws, rfl, h2, d2⟩ := rs_list ry c.ex
  by_cases hz : xs.length + ys.length ≤ sizeLine
  · have e : catL (.list xs) (.list ys) = .ok (xs ++ ys) := if_pos hz
    rw [e] at hr
    refine ⟨a, b, vs, ws, rfl, rfl, h1, h2, by rw [dpa_len d1, dpa_len d2]; exact hz, fun p hp => ?_⟩
    obtain ⟨n1, n2⟩ := fresh_ok c hp
    have gp : G p = none := There.free (Kept.there c.ex) hp
    refine hr _ G _ (Same.refl _) (c.keep (Same.refl _) (same_new hp) (c.ex.trans (same_new hp)) fun _ _ _ n => n) (same_new hp) ⟨p, _, rfl, t.free hp, gp, upd_same, dpa_append d1 d2⟩
  · have e : catL (.list xs) (.list ys) = .bad := if_neg hz
    rw [e] at hr
    exact hr.elim
theorem o_catL : OpR X (binaryOp .Add) (rCatS X.K) ∧ OpS X (rCatS X.K) (RL X.K) catL := ⟨op_catS, ops_catL⟩
theorem ops_addS : OpS X (fun x y H Q => ∃ i j, x = .str i ∧ y = .str j ∧ i.length + j.length ≤ sizeLine ∧ Q (.str (i ++ j)) H) (RD X.K) (fun x y => match x, y with | .str a, .str b => addD (.str a) (.str b) | _, _ => .bad) := by
  intro Γ G ρ ms cs σ H H0 x y dx dy Q c t rx ry hr
  cases dx <;> cases dy <;> first
    | exact hr.elim
    | skip
  rename_i xs ys
  dsimp only at hr
  cases rs_str rx
  cases rs_str ry
  by_cases hz : xs.length + ys.length ≤ sizeLine
  · have e : addD (.str xs) (.str ys) = .ok (.str (xs ++ ys)) := if_pos hz
    rw [e] at hr
    exact ⟨_, _, rfl, rfl, hz, hr _ G H (Same.refl _) c (Same.refl _) (.str _)⟩
  · have e : addD (.str xs) (.str ys) = .bad := if_neg hz
    rw [e] at hr
    exact hr.elim
theorem ops_addT : OpS X (rCatA X.K) (RD X.K) (fun x y => match x, y with | .tuple a, .tuple b => addD (.tuple a) (.tuple b) | _, _ => .bad) := by
  intro Γ G ρ ms cs σ H H0 x y dx dy Q c t rx ry hr
  cases dx <;> cases dy <;> first
    | exact hr.elim
    | skip
  rename_i xs ys
  dsimp only at hr
  obtain ⟨a, vs, rfl, h1, d1, e1⟩ := rs_tup rx c.ex
  obtain ⟨b, ws, rfl, h2, d2, e2⟩ := rs_tup ry c.ex
  by_cases hz : xs.length + ys.length ≤ sizeLine
  · have e : addD (.tuple xs) (.tuple ys) = .ok (.tuple (xs ++ ys)) := if_pos hz
    rw [e] at hr
    refine ⟨a, b, vs, ws, rfl, rfl, h1, h2, by rw [dpa_len d1, dpa_len d2]; exact hz, fun z => ?_, fun z z2 => ?_, fun z z2 p hp => ?_⟩
    · subst z
      cases d1
      exact hr _ G H (Same.refl _) c (Same.refl _) e2
    · subst z2
      cases d2
      have q := hr _ G H (Same.refl _) c (Same.refl _) (by rw [List.append_nil]; exact e1)
      exact q
    · obtain ⟨s1, c1⟩ := c.new (o := .tup (vs ++ ws)) hp
      exact hr _ _ _ s1 c1 (same_new hp) (.tup (.inl (.inl upd_same)) (dpa_mono s1 (dpa_append d1 d2)))
  · have e : addD (.tuple xs) (.tuple ys) = .bad := if_neg hz
    rw [e] at hr
    exact hr.elim
theorem ops_catD : OpS X (rCatS X.K) (RD X.K) (fun x y => match x, y with | .list a, .list b => addD (.list a) (.list b) | _, _ => .bad) := by
  intro Γ G ρ ms cs σ H H0 x y dx dy Q c t rx ry hr
  cases dx <;> cases dy <;> first
    | exact hr.elim
    | skip
  rename_i xs ys
  dsimp only at hr
  refine ops_catL Γ G ρ ms cs σ H H _ _ _ _ Q c (Kept.there (Same.refl _)) (rs_back rx) (rs_back ry) ?_
  by_cases hz : xs.length + ys.length ≤ sizeLine
  · have e : addD (.list xs) (.list ys) = .ok (.list (xs ++ ys)) := if_pos hz
    have e' : catL (.list xs) (.list ys) = .ok (xs ++ ys) := if_pos hz
    rw [e']
    rw [e] at hr
    intro v G' H' g c' k r
    obtain ⟨p, vs, rfl, h0, gp, hp, hd⟩ := r
    obtain ⟨n1, n2⟩ := fresh_ok c h0
    obtain ⟨s1, c2⟩ := upd_known c' gp hp n1 n2
    exact hr _ _ _ (g.trans s1) c2 k (.lst (.inl (.inl upd_same)) (dpa_mono s1 hd))
  · have e : addD (.list xs) (.list ys) = .bad := if_neg hz
    rw [e] at hr
    exact hr.elim
theorem ops_addI : OpS X (rI0 fun i j => .int (i + j)) (RD X.K) (fun x y => match x, y with | .int a, .int b => addD (.int a) (.int b) | _, _ => .bad) :=
  ops_int0 fun x y h => by cases x <;> cases y <;> first | exact ⟨_, _, rfl, rfl, rfl⟩ | exact (h rfl).elim
theorem o_add : OpR X (binaryOp .Add) (fun x y H Q => (rI0 (fun i j => .int (i + j)) x y H Q ∨ ∃ i j, x = .str i ∧ y = .str j ∧ i.length + j.length ≤ sizeLine ∧ Q (.str (i ++ j)) H) ∨ (rCatA X.K x y H Q ∨ rCatS X.K x y H Q)) ∧
    OpS X (fun x y H Q => (rI0 (fun i j => .int (i + j)) x y H Q ∨ ∃ i j, x = .str i ∧ y = .str j ∧ i.length + j.length ≤ sizeLine ∧ Q (.str (i ++ j)) H) ∨ (rCatA X.K x y H Q ∨ rCatS X.K x y H Q)) (RD X.K) addD :=
  ⟨(op_add.or op_add_str).or (op_catA.or op_catS),
    ops_or _ (ops_or (fun x y => match x, y with | .int a, .int b => addD (.int a) (.int b) | .str a, .str b => addD (.str a) (.str b) | _, _ => .bad) ops_addI ops_addS fun x y => by cases x <;> cases y <;> first | exact .inl rfl | exact .inr rfl)
      (ops_or (fun x y => match x, y with | .tuple a, .tuple b => addD (.tuple a) (.tuple b) | .list a, .list b => addD (.list a) (.list b) | _, _ => .bad) ops_addT ops_catD fun x y => by cases x <;> cases y <;> first | exact .inl rfl | exact .inr rfl)
      fun x y => by cases x <;> cases y <;> first | exact .inl rfl | exact .inr rfl⟩
end
end Dd
set_option Elab.async false
set_option linter.all false
set_option maxRecDepth 100000
set_option maxHeartbeats 2000000
namespace Dd
open PySem PySem.Spec PyProof.Rows L2
section
variable {X : Cx} {W : XK} {a b c e : Expr} {ρ : Rho} {ms : List Addr} {cs : List CO} {pos : Pos}

/-! ### names, constants -/
theorem ed_var (i : Nat) {x : Str} {d : PD} (h : ρ[i]? = some (some (.d d)) := by rfl) (hN : X.N[i]? = some x := by rfl) (hv : Vis X.env.scope x := by first | exact Or.inl rfl | exact Or.inr (Or.inl rfl) | exact Or.inr (Or.inr rfl))
    (hd : (x == ("__debug__" : Str)) = false := by decide) (hcd : (x == ("__classdict__" : Str)) = false := by decide) : EP X W (RD X.K) (.Name x pos) ρ ms cs (.ok d) :=
  ⟨_, pe_var hN hv hd hcd, fun Γ G σ H Q hw c hr => by
    obtain ⟨v, h1, h2⟩ := env_get c.env h
    exact ⟨v, h1, hr v G H (Same.refl _) c (Same.refl _) h2⟩⟩
/-- a cell's list, read -/
theorem es_cell (i j : Nat) {x : Str} {a : Addr} {ds : List PD} (h : ρ[i]? = some (some (.c a)) := by rfl) (h1 : ms[j]? = some a := by rfl) (h2 : cs[j]? = some (.l ds) := by rfl) (hN : X.N[i]? = some x := by rfl)
    (hv : Vis X.env.scope x := by first | exact Or.inl rfl | exact Or.inr (Or.inl rfl) | exact Or.inr (Or.inr rfl)) (hd : (x == ("__debug__" : Str)) = false := by decide) (hcd : (x == ("__classdict__" : Str)) = false := by decide) :
    EP X W (RS X.K) (.Name x pos) ρ ms cs (.ok (.list ds)) :=
  ⟨_, pe_var hN hv hd hcd, fun Γ G σ H Q hw c hr => by
    obtain ⟨v, h3, h4⟩ := env_get c.env h
    obtain ⟨g, vs, h5, h6⟩ := cells_get c.cells h1 h2
    refine ⟨v, h3, hr v G H (Same.refl _) c (Same.refl _) (.inr ⟨a, vs, ds, h4, rfl, h5, h6⟩)⟩⟩
theorem ed_int {i : Int} {k : Nat} : EP X W (RD X.K) (.Constant (.int i) k pos) ρ ms cs (.ok (.int i)) := ⟨_, pe_int, fun Γ G σ H Q hw c hr => hr _ G H (Same.refl _) c (Same.refl _) (.int _)⟩
theorem ed_str {i : Str} {k : Nat} : EP X W (RD X.K) (.Constant (.str i) k pos) ρ ms cs (.ok (.str i)) := ⟨_, pe_str, fun Γ G σ H Q hw c hr => hr _ G H (Same.refl _) c (Same.refl _) (.str _)⟩
theorem ed_bool {i : Bool} {k : Nat} : EP X W (RD X.K) (.Constant (.bool i) k pos) ρ ms cs (.ok (.bool i)) := ⟨_, pe_bl, fun Γ G σ H Q hw c hr => hr _ G H (Same.refl _) c (Same.refl _) (.bl _)⟩
theorem ed_none {k : Nat} : EP X W (RD X.K) (.Constant .none k pos) ρ ms cs (.ok .none) := ⟨_, pe_non, fun Γ G σ H Q hw c hr => hr _ G H (Same.refl _) c (Same.refl _) .non⟩
/-- a constant of the module: a text or an int, or a tuple that stands in the written part -/
theorem ed_glob {x : Str} {v : V} {u : Value} {d : PD} (hm : X.mg x = some u) (r : RelV v u) (hd : Dp X.K (fun _ => none) v d) (hg : Gl X x := by rfl) (hdb : (x == ("__debug__" : Str)) = false := by decide) : EP X W (RD X.K) (.Name x pos) ρ ms cs (.ok d) :=
  ⟨_, pe_glob hg hm r hdb, fun Γ G σ H Q hw c hr => hr _ G H (Same.refl _) c (Same.refl _) (dp_mono (fun _ _ z => by cases z) hd)⟩

/-! ### one-place operations -/
theorem ed_neg {ma : Out PD} (ha : EP X W (RS X.K) a ρ ms cs ma) : EP X W (RD X.K) (.UnaryOp .USub a pos) ρ ms cs (ma >>= fun x => negD x) := by
  obtain ⟨ta, a1, a2⟩ := ha
  refine ⟨_, pe_un un_neg a1, fun Γ G σ H Q hw c hr => a2 Γ G σ H _ hw c (hr.bind.mono fun x k v G1 H1 g1 c1 k1 r1 => ?_)⟩
  cases x <;> first
    | exact k.elim
    | skip
  cases rs_int r1
  exact ⟨_, rfl, k _ G1 H1 g1 c1 k1 (.int _)⟩

/-! ### tests -/
/-- a comparison by values, that leaves the heap -/
def OpB (X : Cx) (r : R2) (f : PD → PD → Out Bool) : Prop :=
  ∀ (Γ : Gam X.K X.mg) (G : Hp) (ρ : Rho) (ms : List Addr) (cs : List CO) (σ : L2.St) (H H0 : Hp) (x y : V) (dx dy : PD) (Q : VK), Cfg Γ G ρ ms cs σ H → RS X.K H0 G H x dx → RS X.K H0 G H y dy → Res Γ.We (f dx dy) (fun b => Q (.bl b) H) → r x y H Q
theorem OpB.s {r : R2} {f : PD → PD → Out Bool} (h : OpB X r f) : OpS X r (RD X.K) (fun x y => f x y >>= fun b => .ok (.bool b)) := fun Γ G ρ ms cs σ H H0 x y dx dy Q c t rx ry hr =>
  h Γ G ρ ms cs σ H H0 x y dx dy Q c rx ry (hr.bind.mono fun b k => k _ G H (Same.refl _) c (Same.refl _) (.bl _))
theorem opb_or {r r' : R2} {f f' : PD → PD → Out Bool} (g : PD → PD → Out Bool) (h : OpB X r f) (h' : OpB X r' f') (hg : ∀ x y, g x y = f x y ∨ g x y = f' x y) : OpB X (fun x y H Q => r x y H Q ∨ r' x y H Q) g := by
  intro Γ G ρ ms cs σ H H0 x y dx dy Q c rx ry hr
  rcases hg dx dy with e | e
  · rw [e] at hr; exact .inl (h Γ G ρ ms cs σ H H0 x y dx dy Q c rx ry hr)
  · rw [e] at hr; exact .inr (h' Γ G ρ ms cs σ H H0 x y dx dy Q c rx ry hr)
theorem tp_cmp {op : CmpOp} {r : R2} {f : PD → PD → Out Bool} {ma mb : Out PD} (ho : OpR X (compareOp op) r ∧ OpB X r f) (ha : EP X W (RS X.K) a ρ ms cs ma) (hb : EP X W (RS X.K) b ρ ms cs mb) (hm : behindInMarks op b = false := by first | exact nomark _ | rfl) :
    TP X W (.Compare a [op] [b] pos) ρ ms cs (ma >>= fun x => mb >>= fun y => f x y) := by
  obtain ⟨ta, a1, a2⟩ := ha
  obtain ⟨tb, b1, b2⟩ := hb
  refine ⟨_, pt_cmpR ho.1 a1 b1 hm, fun Γ G σ H Q hw c hr => a2 Γ G σ H _ hw c (hr.bind.mono fun x k v G1 H1 g1 c1 k1 r1 => b2 Γ G1 σ H1 _ hw c1 (k.bind.mono fun y k2 u G2 H2 g2 c2 k2' r2 => ?_))⟩
  exact ho.2 Γ G2 ρ ms cs σ H2 H v u x y _ c2 (rs_stab r1 g2 k2') r2 (k2.mono fun z q => ⟨z, rfl, q G2 H2 (g1.trans g2) c2 (k1.trans k2')⟩)
theorem tx_cmp {op : CmpOp} {r : R2} {f : PD → PD → Out Bool} {ma : Out (PD × List CO)} {mb : List CO → Out (PD × List CO)} (ho : OpR X (compareOp op) r ∧ OpB X r f) (ha : EX X W (RD X.K) a ρ ms cs ma) (hb : ∀ cs1, EX X W (RS X.K) b ρ ms cs1 (mb cs1)) (hm : behindInMarks op b = false := by first | exact nomark _ | rfl) :
    TX X W (.Compare a [op] [b] pos) ρ ms cs (ma >>= fun x => mb x.2 >>= fun y => f x.1 y.1 >>= fun z => .ok (z, y.2)) := by
  obtain ⟨ta, a1, a2⟩ := ha
  obtain ⟨tb, b1, b2⟩ := ex_all hb
  refine ⟨_, pt_cmpR ho.1 a1 b1 hm, fun Γ G σ H Q hw c hr => a2 Γ G σ H _ hw c (hr.bind.mono fun x k v G1 H1 g1 c1 k1 r1 => b2 x.2 Γ G1 σ H1 _ hw c1 (k.bind.mono fun y k2 u G2 H2 g2 c2 k2' r2 => ?_))⟩
  exact ho.2 Γ G2 ρ ms y.2 σ H2 H v u x.1 y.1 _ c2 (.inl (dp_mono g2 r1)) r2 (k2.bind.mono fun z q => ⟨z, rfl, q G2 H2 (g1.trans g2) c2 (k1.trans k2')⟩)
theorem ed_cmp {op : CmpOp} {r : R2} {f : PD → PD → Out Bool} {ma mb : Out PD} (ho : OpR X (compareOp op) r ∧ OpB X r f) (ha : EP X W (RS X.K) a ρ ms cs ma) (hb : EP X W (RS X.K) b ρ ms cs mb) (hm : behindInMarks op b = false := by first | exact nomark _ | rfl) :
    EP X W (RD X.K) (.Compare a [op] [b] pos) ρ ms cs (ma >>= fun x => mb >>= fun y => f x y >>= fun z => .ok (.bool z)) := by
  obtain ⟨ta, a1, a2⟩ := ha
  obtain ⟨tb, b1, b2⟩ := hb
  exact ⟨_, pe_cmpR ho.1 a1 b1 hm, sem_op ho.2.s a2 b2⟩
/-- a < b < c -/
theorem tp_chain {op op' : CmpOp} {r r' : R2} {f f' : PD → PD → Out Bool} {ma mb mc : Out PD} (ho : OpR X (compareOp op) r ∧ OpB X r f) (ho' : OpR X (compareOp op') r' ∧ OpB X r' f') (ha : EP X W (RS X.K) a ρ ms cs ma) (hb : EP X W (RS X.K) b ρ ms cs mb) (hc : EP X W (RS X.K) c ρ ms cs mc)
    (hm : lastMarks [op, op'] [b, c] = false := by rfl) :
    TP X W (.Compare a [op, op'] [b, c] pos) ρ ms cs (ma >>= fun x => mb >>= fun y => f x y >>= fun k => if k then mc >>= fun z => f' y z else .ok false) := by
  obtain ⟨ta, a1, a2⟩ := ha
  obtain ⟨tb, b1, b2⟩ := hb
  obtain ⟨tc, c1, c2⟩ := hc
  refine ⟨_, pt_chain ho.1 ho'.1 a1 b1 c1 hm, fun Γ G σ H Q hw c hr => a2 Γ G σ H _ hw c (hr.bind.mono fun x k v G1 H1 g1 c1 k1 r1 => b2 Γ G1 σ H1 _ hw c1 (k.bind.mono fun y k2 u G2 H2 g2 cc2 k2' r2 => ?_))⟩
  refine ho.2 Γ G2 ρ ms cs σ H2 H v u x y _ cc2 (rs_stab r1 g2 k2') r2 (k2.bind.mono fun z q => ⟨z, rfl, ?_⟩)
  cases z with
  | true =>
    refine c2 Γ G2 σ H2 _ hw cc2 (Res.mono (Res.bind q) fun w kw t G3 H3 g3 c3 k3 r3 => ?_)
    exact ho'.2 Γ G3 ρ ms cs σ H3 H u t y w _ c3 (rs_stab r2 g3 k3) r3 (kw.mono fun z q => ⟨z, rfl, q G3 H3 (g1.trans (g2.trans g3)) c3 (k1.trans (k2'.trans k3))⟩)
  | false => exact ⟨false, rfl, q G2 H2 (g1.trans g2) cc2 (k1.trans k2')⟩
section
variable {ma mb : Out Bool}
theorem tp_not (ha : TP X W a ρ ms cs ma) : TP X W (.UnaryOp .Not a pos) ρ ms cs (ma >>= fun x => .ok (!x)) := by
  obtain ⟨ta, a1, a2⟩ := ha
  exact ⟨_, pt_not a1, fun Γ G σ H Q hw c hr => a2 Γ G σ H _ hw c (hr.bind.mono fun x k => k)⟩
theorem tx_not {ma : Out (Bool × List CO)} (ha : TX X W a ρ ms cs ma) : TX X W (.UnaryOp .Not a pos) ρ ms cs (ma >>= fun x => .ok (!x.1, x.2)) := by
  obtain ⟨ta, a1, a2⟩ := ha
  exact ⟨_, pt_not a1, fun Γ G σ H Q hw c hr => a2 Γ G σ H _ hw c (hr.bind.mono fun x k => k)⟩
/-- tests joined by and, or (whatever stands around) -/
def WP (X : Cx) (W : XK) (e : Expr) (ρ : Rho) (ms : List Addr) (cs : List CO) (m : Out Bool) : Prop := ∃ tt, PW X e tt ∧ SemT X.K X.mg W tt ρ ms cs m
def WX (X : Cx) (W : XK) (e : Expr) (ρ : Rho) (ms : List Addr) (cs : List CO) (m : Out (Bool × List CO)) : Prop := ∃ tt, PW X e tt ∧ SemTX X.K X.mg W tt ρ ms cs m
theorem WP.t {m : Out Bool} (h : WP X W e ρ ms cs m) : TP X W e ρ ms cs m := by
  obtain ⟨t, h1, h2⟩ := h
  exact ⟨t, h1.pt, h2⟩
theorem WX.t {m : Out (Bool × List CO)} (h : WX X W e ρ ms cs m) : TX X W e ρ ms cs m := by
  obtain ⟨t, h1, h2⟩ := h
  exact ⟨t, h1.pt, h2⟩
theorem wp_and1 (ha : TP X W a ρ ms cs ma) : WP X W (.BoolOp .And [a] pos) ρ ms cs ma := by
  obtain ⟨t, h1, h2⟩ := ha
  exact ⟨t, pw_and1 h1, h2⟩
theorem wp_or1 (ha : TP X W a ρ ms cs ma) : WP X W (.BoolOp .Or [a] pos) ρ ms cs ma := by
  obtain ⟨t, h1, h2⟩ := ha
  exact ⟨t, pw_or1 h1, h2⟩
theorem wx_and1 {ma : Out (Bool × List CO)} (ha : TX X W a ρ ms cs ma) : WX X W (.BoolOp .And [a] pos) ρ ms cs ma := by
  obtain ⟨t, h1, h2⟩ := ha
  exact ⟨t, pw_and1 h1, h2⟩
theorem wx_or1 {ma : Out (Bool × List CO)} (ha : TX X W a ρ ms cs ma) : WX X W (.BoolOp .Or [a] pos) ρ ms cs ma := by
  obtain ⟨t, h1, h2⟩ := ha
  exact ⟨t, pw_or1 h1, h2⟩
theorem wp_and {r : List Expr} (ha : TP X W a ρ ms cs ma) (hb : WP X W (.BoolOp .And (b :: r) pos) ρ ms cs mb) : WP X W (.BoolOp .And (a :: b :: r) pos) ρ ms cs (ma >>= fun x => if x then mb else .ok false) := by
  obtain ⟨ta, a1, a2⟩ := ha
  obtain ⟨tb, b1, b2⟩ := hb
  refine ⟨_, pw_and a1 b1, fun Γ G σ H Q hw c hr => a2 Γ G σ H _ hw c (hr.bind.mono fun x k G1 H1 g1 c1 k1 => ?_)⟩
  cases x with
  | true => exact b2 Γ G1 σ H1 _ hw c1 (Res.mono k fun y q G2 H2 g2 c2 k2 => q G2 H2 (g1.trans g2) c2 (k1.trans k2))
  | false => exact k G1 H1 g1 c1 k1
theorem wp_or {r : List Expr} (ha : TP X W a ρ ms cs ma) (hb : WP X W (.BoolOp .Or (b :: r) pos) ρ ms cs mb) : WP X W (.BoolOp .Or (a :: b :: r) pos) ρ ms cs (ma >>= fun x => if x then .ok true else mb) := by
  obtain ⟨ta, a1, a2⟩ := ha
  obtain ⟨tb, b1, b2⟩ := hb
  refine ⟨_, pw_or a1 b1, fun Γ G σ H Q hw c hr => a2 Γ G σ H _ hw c (hr.bind.mono fun x k G1 H1 g1 c1 k1 => ?_)⟩
  cases x with
  | false => exact b2 Γ G1 σ H1 _ hw c1 (Res.mono k fun y q G2 H2 g2 c2 k2 => q G2 H2 (g1.trans g2) c2 (k1.trans k2))
  | true => exact k G1 H1 g1 c1 k1
theorem pw_all {ι : Type} {t : ι → TT} (h : ∀ i, PW X e (t i)) : PW X e (fun σ H Q => ∃ i, t i σ H Q) := ⟨fun whole pins s σ H Q I hw => by
  obtain ⟨i, hw⟩ := hw
  exact (h i).run whole pins s σ H Q I hw⟩
theorem pt_all {ι : Type} {t : ι → TT} (h : ∀ i, PT X e (t i)) : PT X e (fun σ H Q => ∃ i, t i σ H Q) := ⟨fun pins s σ H Q I hw => by
  obtain ⟨i, hw⟩ := hw
  exact (h i).run pins s σ H Q I hw⟩
theorem wx_all {m : List CO → Out (Bool × List CO)} (h : ∀ cs, WX X W e ρ ms cs (m cs)) : ∃ tt, PW X e tt ∧ ∀ cs, SemTX X.K X.mg W tt ρ ms cs (m cs) := by
  refine ⟨_, pw_all (t := fun cs => (h cs).choose) fun cs => (h cs).choose_spec.1, fun cs Γ G σ H Q hw c hr => ⟨cs, (h cs).choose_spec.2 Γ G σ H Q hw c hr⟩⟩
theorem tx_all {m : List CO → Out (Bool × List CO)} (h : ∀ cs, TX X W e ρ ms cs (m cs)) : ∃ tt, PT X e tt ∧ ∀ cs, SemTX X.K X.mg W tt ρ ms cs (m cs) := by
  refine ⟨_, pt_all (t := fun cs => (h cs).choose) fun cs => (h cs).choose_spec.1, fun cs Γ G σ H Q hw c hr => ⟨cs, (h cs).choose_spec.2 Γ G σ H Q hw c hr⟩⟩
theorem wx_and {r : List Expr} {ma : Out (Bool × List CO)} {mb : List CO → Out (Bool × List CO)} (ha : TX X W a ρ ms cs ma) (hb : ∀ cs1, WX X W (.BoolOp .And (b :: r) pos) ρ ms cs1 (mb cs1)) : WX X W (.BoolOp .And (a :: b :: r) pos) ρ ms cs (ma >>= fun x => if x.1 then mb x.2 else .ok (false, x.2)) := by
  obtain ⟨ta, a1, a2⟩ := ha
  obtain ⟨tb, b1, b2⟩ := wx_all hb
  refine ⟨_, pw_and a1 b1, fun Γ G σ H Q hw c hr => a2 Γ G σ H _ hw c (hr.bind.mono fun x k G1 H1 g1 c1 k1 => ?_)⟩
  obtain ⟨x, cs1⟩ := x
  cases x with
  | true => exact b2 cs1 Γ G1 σ H1 _ hw c1 (Res.mono k fun y q G2 H2 g2 c2 k2 => q G2 H2 (g1.trans g2) c2 (k1.trans k2))
  | false => exact k G1 H1 g1 c1 k1
theorem wx_or {r : List Expr} {ma : Out (Bool × List CO)} {mb : List CO → Out (Bool × List CO)} (ha : TX X W a ρ ms cs ma) (hb : ∀ cs1, WX X W (.BoolOp .Or (b :: r) pos) ρ ms cs1 (mb cs1)) : WX X W (.BoolOp .Or (a :: b :: r) pos) ρ ms cs (ma >>= fun x => if x.1 then .ok (true, x.2) else mb x.2) := by
  obtain ⟨ta, a1, a2⟩ := ha
  obtain ⟨tb, b1, b2⟩ := wx_all hb
  refine ⟨_, pw_or a1 b1, fun Γ G σ H Q hw c hr => a2 Γ G σ H _ hw c (hr.bind.mono fun x k G1 H1 g1 c1 k1 => ?_)⟩
  obtain ⟨x, cs1⟩ := x
  cases x with
  | false => exact b2 cs1 Γ G1 σ H1 _ hw c1 (Res.mono k fun y q G2 H2 g2 c2 k2 => q G2 H2 (g1.trans g2) c2 (k1.trans k2))
  | true => exact k G1 H1 g1 c1 k1
end
/-- a value's truth -/
theorem tru_of {mg : Str → Option Value} {K : PySem.W.Frag} {Γ : Gam K mg} {G H H0 : Hp} {σ : L2.St} {We : WE} (c : Cfg Γ G ρ ms cs σ H) {v : V} {d : PD} (r : RS K H0 G H v d) {P : Bool → Prop} (h : Res We (truthD d) P) (hw : Γ.We = We) : Res We (truthD d) (fun b => TruV K v H b ∧ P b) := by
  cases d with
  | none => exact ⟨by cases rs_none r; rfl, h⟩
  | bool b => exact ⟨by cases rs_bool r; rfl, h⟩
  | int i => exact ⟨by cases rs_int r; rfl, h⟩
  | str z =>
    by_cases hz : z.length ≤ sizeLine
    · have e : truthD (.str z) = .ok ((z.length : Int) != 0) := if_pos hz
      rw [e] at h ⊢
      exact ⟨by cases rs_str r; exact ⟨hz, rfl⟩, h⟩
    · have e : truthD (.str z) = .bad := if_neg hz
      rw [e] at h
      exact h.elim
  | list xs =>
    obtain ⟨a, vs, rfl, h1, h2⟩ := rs_list r c.ex
    refine ⟨.inl ⟨vs, h1, ?_⟩, h⟩
    cases h2 <;> rfl
  | tuple xs =>
    obtain ⟨a, vs, rfl, h1, h2, _⟩ := rs_tup r c.ex
    refine ⟨.inr (.inl ⟨vs, h1, ?_⟩), h⟩
    cases h2 <;> rfl
  | dict kvs => exact h.elim
theorem tp_truth {ma : Out PD} (ha : EP X W (RS X.K) a ρ ms cs ma) (he : ∀ whole, isTrue a X.env whole = (do let v ← whole; standAt a.pos; holding [v] (truthy v)) := by intro _; rfl) : TP X W a ρ ms cs (ma >>= fun x => truthD x) := by
  obtain ⟨ta, a1, a2⟩ := ha
  refine ⟨_, pt_truth a1 he, fun Γ G σ H Q hw c hr => a2 Γ G σ H _ hw c (hr.bind.mono fun x k v G1 H1 g1 c1 k1 r1 => ?_)⟩
  have q := tru_of c1 r1 k rfl
  cases e : truthD x with
  | ok b => rw [e] at q; exact ⟨b, q.1, q.2 G1 H1 g1 c1 k1⟩
  | err z fs => exfalso; revert e; cases x <;> simp [truthD] <;> (intros; split at * <;> simp_all)
  | bad => rw [e] at q; exact q.elim
theorem tx_truth {ma : Out (PD × List CO)} (ha : EX X W (RS X.K) a ρ ms cs ma) (he : ∀ whole, isTrue a X.env whole = (do let v ← whole; standAt a.pos; holding [v] (truthy v)) := by intro _; rfl) : TX X W a ρ ms cs (ma >>= fun x => truthD x.1 >>= fun b => .ok (b, x.2)) := by
  obtain ⟨ta, a1, a2⟩ := ha
  refine ⟨_, pt_truth a1 he, fun Γ G σ H Q hw c hr => a2 Γ G σ H _ hw c (hr.bind.mono fun x k v G1 H1 g1 c1 k1 r1 => ?_)⟩
  have q := tru_of c1 r1 k.bind rfl
  cases e : truthD x.1 with
  | ok b => rw [e] at q; exact ⟨b, q.1, q.2 G1 H1 g1 c1 k1⟩
  | err z fs => exfalso; revert e; cases x.1 <;> simp [truthD] <;> (intros; split at * <;> simp_all)
  | bad => rw [e] at q; exact q.elim
/-- and, or, not of tests, as values -/
theorem ed_and {r : List Expr} {ma mb : Out PD} (ha : EP X W (RD X.K) a ρ ms cs ma) (hb : EP X W (RD X.K) (.BoolOp .And (b :: r) pos) ρ ms cs mb) : EP X W (RD X.K) (.BoolOp .And (a :: b :: r) pos) ρ ms cs (ma >>= fun x => boolD x >>= fun t => if t then mb else .ok (.bool false)) := by
  obtain ⟨ta, a1, a2⟩ := ha
  obtain ⟨tb, b1, b2⟩ := hb
  refine ⟨_, pe_and a1 b1, fun Γ G σ H Q hw c hr => a2 Γ G σ H _ hw c (hr.bind.mono fun x k v G1 H1 g1 c1 k1 r1 => ?_)⟩
  cases x <;> first
    | exact k.elim
    | skip
  rename_i t
  cases r1
  refine ⟨t, rfl, ?_⟩
  cases t with
  | true => exact b2 Γ G1 σ H1 _ hw c1 (Res.mono k fun y q v2 G2 H2 g2 c2 k2 r2 => q v2 G2 H2 (g1.trans g2) c2 (k1.trans k2) r2)
  | false => exact k _ G1 H1 g1 c1 k1 (.bl _)
theorem ed_or {r : List Expr} {ma mb : Out PD} (ha : EP X W (RD X.K) a ρ ms cs ma) (hb : EP X W (RD X.K) (.BoolOp .Or (b :: r) pos) ρ ms cs mb) : EP X W (RD X.K) (.BoolOp .Or (a :: b :: r) pos) ρ ms cs (ma >>= fun x => boolD x >>= fun t => if t then .ok (.bool true) else mb) := by
  obtain ⟨ta, a1, a2⟩ := ha
  obtain ⟨tb, b1, b2⟩ := hb
  refine ⟨_, pe_or a1 b1, fun Γ G σ H Q hw c hr => a2 Γ G σ H _ hw c (hr.bind.mono fun x k v G1 H1 g1 c1 k1 r1 => ?_)⟩
  cases x <;> first
    | exact k.elim
    | skip
  rename_i t
  cases r1
  refine ⟨t, rfl, ?_⟩
  cases t with
  | false => exact b2 Γ G1 σ H1 _ hw c1 (Res.mono k fun y q v2 G2 H2 g2 c2 k2 r2 => q v2 G2 H2 (g1.trans g2) c2 (k1.trans k2) r2)
  | true => exact k _ G1 H1 g1 c1 k1 (.bl _)
theorem ed_one {op : BoolOp} {ma : Out PD} (ha : EP X W (RD X.K) a ρ ms cs ma) : EP X W (RD X.K) (.BoolOp op [a] pos) ρ ms cs ma := by
  obtain ⟨ta, a1, a2⟩ := ha
  exact ⟨_, pe_one a1, a2⟩
theorem ed_not {ma : Out PD} (ha : EP X W (RD X.K) a ρ ms cs ma) : EP X W (RD X.K) (.UnaryOp .Not a pos) ρ ms cs (ma >>= fun x => boolD x >>= fun t => .ok (.bool (!t))) := by
  obtain ⟨ta, a1, a2⟩ := ha
  refine ⟨_, pe_not a1, fun Γ G σ H Q hw c hr => a2 Γ G σ H _ hw c (hr.bind.mono fun x k v G1 H1 g1 c1 k1 r1 => ?_)⟩
  cases x <;> first
    | exact k.elim
    | skip
  cases r1
  exact ⟨_, rfl, k _ G1 H1 g1 c1 k1 (.bl _)⟩
theorem ed_ifExp {ma mb : Out PD} {mc : Out Bool} (hc : TP X W c ρ ms cs mc) (ha : EP X W (RD X.K) a ρ ms cs ma) (hb : EP X W (RD X.K) b ρ ms cs mb) : EP X W (RD X.K) (.IfExp c a b pos) ρ ms cs (mc >>= fun t => if t then ma else mb) := by
  obtain ⟨ta, a1, a2⟩ := ha
  obtain ⟨tb, b1, b2⟩ := hb
  obtain ⟨tc, c1, c2⟩ := hc
  refine ⟨_, pe_ifExp c1 a1 b1, fun Γ G σ H Q hw c hr => c2 Γ G σ H _ hw c (hr.bind.mono fun t k G1 H1 g1 cc1 k1 => ?_)⟩
  cases t with
  | true => exact a2 Γ G1 σ H1 _ hw cc1 (Res.mono k fun y q v2 G2 H2 g2 c2 k2 r2 => q v2 G2 H2 (g1.trans g2) c2 (k1.trans k2) r2)
  | false => exact b2 Γ G1 σ H1 _ hw cc1 (Res.mono k fun y q v2 G2 H2 g2 c2 k2 r2 => q v2 G2 H2 (g1.trans g2) c2 (k1.trans k2) r2)
end
/-! ### comparisons -/
section
variable {X : Cx}
theorem opb_int {g : Int → Int → Bool} {f : PD → PD → Out Bool} (h1 : ∀ x y, f x y ≠ .bad → ∃ i j, x = .int i ∧ y = .int j ∧ f x y = .ok (g i j)) : OpB X (rI0 fun i j => .bl (g i j)) f := by
  intro Γ G ρ ms cs σ H H0 x y dx dy Q c rx ry hr
  by_cases hb : f dx dy = .bad
  · rw [hb] at hr; exact hr.elim
  obtain ⟨i, j, rfl, rfl, e⟩ := h1 dx dy hb
  rw [e] at hr
  cases rs_int rx
  cases rs_int ry
  exact ⟨i, j, rfl, rfl, hr⟩
theorem opb_str {g : Str → Str → Bool} {f : PD → PD → Out Bool} (h1 : ∀ x y, f x y ≠ .bad → ∃ i j, x = .str i ∧ y = .str j ∧ f x y = .ok (g i j)) : OpB X (fun x y H Q => ∃ i j, x = .str i ∧ y = .str j ∧ Q (.bl (g i j)) H) f := by
  intro Γ G ρ ms cs σ H H0 x y dx dy Q c rx ry hr
  by_cases hb : f dx dy = .bad
  · rw [hb] at hr; exact hr.elim
  obtain ⟨i, j, rfl, rfl, e⟩ := h1 dx dy hb
  rw [e] at hr
  cases rs_str rx
  cases rs_str ry
  exact ⟨i, j, rfl, rfl, hr⟩
def onI (f : PD → PD → Out Bool) (x y : PD) : Out Bool := match x, y with | .int _, .int _ => f x y | _, _ => .bad
def onS (f : PD → PD → Out Bool) (x y : PD) : Out Bool := match x, y with | .str _, .str _ => f x y | _, _ => .bad
abbrev ISR (gi : Int → Int → Bool) (gs : Str → Str → Bool) : R2 := fun x y H Q => rI0 (fun i j => .bl (gi i j)) x y H Q ∨ ∃ i j, x = .str i ∧ y = .str j ∧ Q (.bl (gs i j)) H
theorem opb_is {gi : Int → Int → Bool} {gs : Str → Str → Bool} {f : PD → PD → Out Bool} (h1 : ∀ x y, onI f x y ≠ .bad → ∃ i j, x = .int i ∧ y = .int j ∧ onI f x y = .ok (gi i j)) (h2 : ∀ x y, onS f x y ≠ .bad → ∃ i j, x = .str i ∧ y = .str j ∧ onS f x y = .ok (gs i j))
    (h : ∀ x y, f x y = onI f x y ∨ f x y = onS f x y) : OpB X (ISR gi gs) f := opb_or f (opb_int h1) (opb_str h2) h
theorem o_lt : OpR X (compareOp .Lt) (ISR (fun i j => decide (i < j)) fun i j => decide (i.cps.toList < j.cps.toList)) ∧ OpB X (ISR (fun i j => decide (i < j)) fun i j => decide (i.cps.toList < j.cps.toList)) ltD :=
  ⟨op_lt.or op_lt_str, opb_is (fun x y h => by cases x <;> cases y <;> first | exact ⟨_, _, rfl, rfl, rfl⟩ | exact (h rfl).elim) (fun x y h => by cases x <;> cases y <;> first | exact ⟨_, _, rfl, rfl, rfl⟩ | exact (h rfl).elim) fun x y => by cases x <;> cases y <;> first | exact .inl rfl | exact .inr rfl⟩
theorem o_le : OpR X (compareOp .LtE) (ISR (fun i j => decide (i ≤ j)) fun i j => !decide (j.cps.toList < i.cps.toList)) ∧ OpB X (ISR (fun i j => decide (i ≤ j)) fun i j => !decide (j.cps.toList < i.cps.toList)) leD :=
  ⟨op_le.or op_le_str, opb_is (fun x y h => by cases x <;> cases y <;> first | exact ⟨_, _, rfl, rfl, rfl⟩ | exact (h rfl).elim) (fun x y h => by cases x <;> cases y <;> first | exact ⟨_, _, rfl, rfl, rfl⟩ | exact (h rfl).elim) fun x y => by cases x <;> cases y <;> first | exact .inl rfl | exact .inr rfl⟩
theorem o_gt : OpR X (compareOp .Gt) (ISR (fun i j => decide (j < i)) fun i j => decide (j.cps.toList < i.cps.toList)) ∧ OpB X (ISR (fun i j => decide (j < i)) fun i j => decide (j.cps.toList < i.cps.toList)) gtD :=
  ⟨op_gt.or op_gt_str, opb_is (fun x y h => by cases x <;> cases y <;> first | exact ⟨_, _, rfl, rfl, rfl⟩ | exact (h rfl).elim) (fun x y h => by cases x <;> cases y <;> first | exact ⟨_, _, rfl, rfl, rfl⟩ | exact (h rfl).elim) fun x y => by cases x <;> cases y <;> first | exact .inl rfl | exact .inr rfl⟩
theorem o_ge : OpR X (compareOp .GtE) (ISR (fun i j => decide (j ≤ i)) fun i j => !decide (i.cps.toList < j.cps.toList)) ∧ OpB X (ISR (fun i j => decide (j ≤ i)) fun i j => !decide (i.cps.toList < j.cps.toList)) geD :=
  ⟨op_ge.or op_ge_str, opb_is (fun x y h => by cases x <;> cases y <;> first | exact ⟨_, _, rfl, rfl, rfl⟩ | exact (h rfl).elim) (fun x y h => by cases x <;> cases y <;> first | exact ⟨_, _, rfl, rfl, rfl⟩ | exact (h rfl).elim) fun x y => by cases x <;> cases y <;> first | exact .inl rfl | exact .inr rfl⟩
theorem o_eq (hu : X.A.units + 64 < cLine) : OpR X (compareOp .Eq) (rEqD X.K) ∧ OpB X (rEqD X.K) eqD := by
  refine ⟨op_eqD hu, fun Γ G ρ ms cs σ H H0 x y dx dy Q c rx ry hr => ?_⟩
  by_cases h : (SeqAt.shaped dx && SeqAt.shaped dy) = true
  · have e : eqD dx dy = .ok (PyData.eqv dx dy) := if_pos h
    rw [e] at hr
    exact ⟨dx, dy, rs_dp c.ex rx, rs_dp c.ex ry, (Bool.and_eq_true_iff.mp h).1, (Bool.and_eq_true_iff.mp h).2, hr⟩
  · have e : eqD dx dy = .bad := if_neg h
    rw [e] at hr
    exact hr.elim
theorem o_ne (hu : X.A.units + 64 < cLine) : OpR X (compareOp .NotEq) (rNeD X.K) ∧ OpB X (rNeD X.K) neD := by
  refine ⟨op_neD hu, fun Γ G ρ ms cs σ H H0 x y dx dy Q c rx ry hr => ?_⟩
  by_cases h : (SeqAt.shaped dx && SeqAt.shaped dy) = true
  · have e : neD dx dy = .ok (!PyData.eqv dx dy) := if_pos h
    rw [e] at hr
    exact ⟨dx, dy, rs_dp c.ex rx, rs_dp c.ex ry, (Bool.and_eq_true_iff.mp h).1, (Bool.and_eq_true_iff.mp h).2, hr⟩
  · have e : neD dx dy = .bad := if_neg h
    rw [e] at hr
    exact hr.elim
/-- is None, is True, is False -/
theorem op_isBV : OpR X (compareOp .Is) (fun x y H Q => ∃ b, y = .bl b ∧ Q (.bl (decide (x = .bl b))) H) := by
  intro pins s σ H x y v u Q I rx ry h
  obtain ⟨b, rfl, q⟩ := h
  cases (show u = Value.bool b from ry)
  by_cases e : x = .bl b
  · subst e
    cases (show v = Value.bool b from rx)
    exact wpAny_is_self rfl ⟨.bl true, H, I, rfl, by simpa using q⟩
  · have q' : Q (.bl false) H := by simpa [e] using q
    have hp : plainIs v (.bool b) = true ∧ v ≠ .bool b := by
      cases x with
      | non => cases (show v = Value.none from rx); exact ⟨rfl, fun z => nomatch z⟩
      | bl c => cases (show v = Value.bool c from rx); exact ⟨rfl, fun z => e (by rw [Value.bool.inj z])⟩
      | int i => obtain ⟨t, rfl⟩ := rx; exact ⟨rfl, fun z => nomatch z⟩
      | str i => obtain ⟨t, rfl⟩ := rx; exact ⟨rfl, fun z => nomatch z⟩
      | byt i => obtain ⟨t, rfl⟩ := rx; exact ⟨rfl, fun z => nomatch z⟩
      | flt i => obtain ⟨t, rfl⟩ := rx; exact ⟨rfl, fun z => nomatch z⟩
      | ref i => cases (show v = Value.ref i from rx); exact ⟨rfl, fun z => nomatch z⟩
      | ty i => cases (show v = Value.type i from rx); exact ⟨rfl, fun z => nomatch z⟩
    exact wpAny_is_other hp.1 hp.2 ⟨.bl false, H, I, rfl, q'⟩
theorem op_notBV : OpR X (compareOp .IsNot) (fun x y H Q => ∃ b, y = .bl b ∧ Q (.bl (!decide (x = .bl b))) H) := by
  intro pins s σ H x y v u Q I rx ry h
  obtain ⟨b, rfl, q⟩ := h
  cases (show u = Value.bool b from ry)
  by_cases e : x = .bl b
  · subst e
    cases (show v = Value.bool b from rx)
    exact wpAny_isNot_self rfl ⟨.bl false, H, I, rfl, by simpa using q⟩
  · have q' : Q (.bl true) H := by simpa [e] using q
    have hp : plainIs v (.bool b) = true ∧ v ≠ .bool b := by
      cases x with
      | non => cases (show v = Value.none from rx); exact ⟨rfl, fun z => nomatch z⟩
      | bl c => cases (show v = Value.bool c from rx); exact ⟨rfl, fun z => e (by rw [Value.bool.inj z])⟩
      | int i => obtain ⟨t, rfl⟩ := rx; exact ⟨rfl, fun z => nomatch z⟩
      | str i => obtain ⟨t, rfl⟩ := rx; exact ⟨rfl, fun z => nomatch z⟩
      | byt i => obtain ⟨t, rfl⟩ := rx; exact ⟨rfl, fun z => nomatch z⟩
      | flt i => obtain ⟨t, rfl⟩ := rx; exact ⟨rfl, fun z => nomatch z⟩
      | ref i => cases (show v = Value.ref i from rx); exact ⟨rfl, fun z => nomatch z⟩
      | ty i => cases (show v = Value.type i from rx); exact ⟨rfl, fun z => nomatch z⟩
    exact wpAny_isNot_other hp.1 hp.2 ⟨.bl true, H, I, rfl, q'⟩
def isD : PD → PD → Out Bool
  | x, .none => .ok (isND x)
  | x, .bool b => .ok (isBD b x)
  | _, _ => .bad
def isNotD (x y : PD) : Out Bool := isD x y >>= fun b => .ok (!b)
theorem isND_of {K : PySem.W.Frag} {H0 G H : Hp} {v : V} {d : PD} (r : RS K H0 G H v d) : decide (v = .non) = isND d := by
  rcases r with h | ⟨a, vs, ds, rfl, rfl, _⟩
  · cases h <;> rfl
  · rfl
theorem isBD_of {K : PySem.W.Frag} {H0 G H : Hp} {v : V} {d : PD} (b : Bool) (r : RS K H0 G H v d) : decide (v = .bl b) = isBD b d := by
  rcases r with h | ⟨a, vs, ds, rfl, rfl, _⟩
  · cases h with
    | bl c => cases b <;> cases c <;> rfl
    | non => rfl
    | int i => rfl
    | str i => rfl
    | lst _ _ => rfl
    | tup _ _ => rfl
  · rfl
theorem o_is : OpR X (compareOp .Is) (fun x y H Q => (y = .non ∧ Q (.bl (decide (x = .non))) H) ∨ ∃ b, y = .bl b ∧ Q (.bl (decide (x = .bl b))) H) ∧ OpB X (fun x y H Q => (y = .non ∧ Q (.bl (decide (x = .non))) H) ∨ ∃ b, y = .bl b ∧ Q (.bl (decide (x = .bl b))) H) isD := by
  refine ⟨op_isN.or op_isBV, fun Γ G ρ ms cs σ H H0 x y dx dy Q c rx ry hr => ?_⟩
  cases dy <;> first
    | exact hr.elim
    | skip
  · cases rs_none ry
    refine .inl ⟨rfl, ?_⟩
    rw [isND_of rx]
    exact hr
  · rename_i b
    cases rs_bool ry
    refine .inr ⟨b, rfl, ?_⟩
    rw [isBD_of b rx]
    exact hr
theorem o_isNot : OpR X (compareOp .IsNot) (fun x y H Q => (y = .non ∧ Q (.bl (!decide (x = .non))) H) ∨ ∃ b, y = .bl b ∧ Q (.bl (!decide (x = .bl b))) H) ∧ OpB X (fun x y H Q => (y = .non ∧ Q (.bl (!decide (x = .non))) H) ∨ ∃ b, y = .bl b ∧ Q (.bl (!decide (x = .bl b))) H) isNotD := by
  refine ⟨op_notN.or op_notBV, fun Γ G ρ ms cs σ H H0 x y dx dy Q c rx ry hr => ?_⟩
  cases dy <;> first
    | exact hr.elim
    | skip
  · cases rs_none ry
    refine .inl ⟨rfl, ?_⟩
    rw [isND_of rx]
    exact hr
  · rename_i b
    cases rs_bool ry
    refine .inr ⟨b, rfl, ?_⟩
    rw [isBD_of b rx]
    exact hr
end
end Dd
set_option Elab.async false
set_option linter.all false
set_option maxRecDepth 100000
set_option maxHeartbeats 2000000
namespace Dd
open PySem PySem.Spec PyProof.Rows L2
section
variable {X : Cx} {W : XK} {a b c e : Expr} {es : List Expr} {ρ : Rho} {ms : List Addr} {cs : List CO} {pos p2 : Pos}
/-! ### argument lists, displays -/
theorem ap_nil : AP X W [] ρ ms cs (.ok []) := ⟨_, pa_nil, fun Γ G σ H Q hw c hr => hr [] G H (Same.refl _) c (Same.refl _) .nil rfl⟩
theorem ap_cons {ma : Out PD} {mr : Out (List PD)} (ha : EP X W (RD X.K) e ρ ms cs ma) (hr : AP X W es ρ ms cs mr) (hs : starEach (e :: es) X.env = (false, eval e X.env) :: starEach es X.env := by rfl) : AP X W (e :: es) ρ ms cs (ma >>= fun x => mr >>= fun xs => .ok (x :: xs)) := by
  obtain ⟨ta, a1, a2⟩ := ha
  obtain ⟨tr, b1, b2⟩ := hr
  refine ⟨_, pa_cons a1 b1 hs, fun Γ G σ H Q hw c hr => a2 Γ G σ H _ hw c (hr.bind.mono fun x k v G1 H1 g1 c1 k1 r1 => b2 Γ G1 σ H1 _ hw c1 (k.bind.mono fun xs k2 vs G2 H2 g2 c2 k2' r2 n2 => ?_))⟩
  exact k2 (v :: vs) G2 H2 (g1.trans g2) c2 (k1.trans k2') (.cons (dp_mono g2 r1) r2) (by rw [List.length_cons, List.length_cons, n2])
theorem pa_all {ι : Type} {t : ι → TA} (h : ∀ i, PA X es (t i)) : PA X es (fun σ H Q => ∃ i, t i σ H Q) := ⟨fun pos pins s σ H Q I hw => by
  obtain ⟨i, hw⟩ := hw
  exact (h i).run pos pins s σ H Q I hw⟩
theorem ax_all {m : List CO → Out (List PD × List CO)} (h : ∀ cs, AX X W es ρ ms cs (m cs)) : ∃ ta, PA X es ta ∧ ∀ cs, SemAX X.K X.mg W es.length ta ρ ms cs (m cs) := by
  refine ⟨_, pa_all (t := fun cs => (h cs).choose) fun cs => (h cs).choose_spec.1, fun cs Γ G σ H Q hw c hr => ⟨cs, (h cs).choose_spec.2 Γ G σ H Q hw c hr⟩⟩
theorem ax_cons {ma : Out (PD × List CO)} {mr : List CO → Out (List PD × List CO)} (ha : EX X W (RD X.K) e ρ ms cs ma) (hr : ∀ cs1, AX X W es ρ ms cs1 (mr cs1)) (hs : starEach (e :: es) X.env = (false, eval e X.env) :: starEach es X.env := by rfl) : AX X W (e :: es) ρ ms cs (ma >>= fun x => mr x.2 >>= fun xs => .ok (x.1 :: xs.1, xs.2)) := by
  obtain ⟨ta, a1, a2⟩ := ha
  obtain ⟨tr, b1, b2⟩ := ax_all hr
  refine ⟨_, pa_cons a1 b1 hs, fun Γ G σ H Q hw c hr => a2 Γ G σ H _ hw c (hr.bind.mono fun x k v G1 H1 g1 c1 k1 r1 => b2 x.2 Γ G1 σ H1 _ hw c1 (k.bind.mono fun xs k2 vs G2 H2 g2 c2 k2' r2 n2 => ?_))⟩
  exact k2 (v :: vs) G2 H2 (g1.trans g2) c2 (k1.trans k2') (.cons (dp_mono g2 r1) r2) (by rw [List.length_cons, List.length_cons, n2])
theorem ap_of {ma : Out (List PD × List CO)} (h : AX X W es ρ ms cs ma) : AX X W es ρ ms cs ma := h
theorem line_of {n : Nat} (h : n ≤ 1000) : n ≤ sizeLine := Nat.le_of_lt (small1000 h)
theorem ed_tup {k : Nat} {m : Out (List PD)} (h : AP X W es ρ ms cs m) (hl : es.length ≤ 1000 := by decide) : EP X W (RD X.K) (.Tuple es k pos) ρ ms cs (m >>= fun xs => .ok (.tuple xs)) := by
  obtain ⟨ta, a1, a2⟩ := h
  refine ⟨_, pe_tup a1, fun Γ G σ H Q hw c hr => a2 Γ G σ H _ hw c (hr.bind.mono fun xs k vs G1 H1 g1 c1 k1 r1 n1 => ⟨by rw [dpa_len r1, n1]; exact line_of hl, fun p hp => ?_⟩)⟩
  obtain ⟨s1, c2⟩ := c1.new (o := .tup vs) hp
  exact k _ _ _ (g1.trans s1) c2 (k1.trans (same_new hp)) (.tup (.inl (.inl upd_same)) (dpa_mono s1 r1))
theorem ex_tup {k : Nat} {m : Out (List PD × List CO)} (h : AX X W es ρ ms cs m) (hl : es.length ≤ 1000 := by decide) : EX X W (RD X.K) (.Tuple es k pos) ρ ms cs (m >>= fun xs => .ok (.tuple xs.1, xs.2)) := by
  obtain ⟨ta, a1, a2⟩ := h
  refine ⟨_, pe_tup a1, fun Γ G σ H Q hw c hr => a2 Γ G σ H _ hw c (hr.bind.mono fun xs k vs G1 H1 g1 c1 k1 r1 n1 => ⟨by rw [dpa_len r1, n1]; exact line_of hl, fun p hp => ?_⟩)⟩
  obtain ⟨s1, c2⟩ := c1.new (o := .tup vs) hp
  exact k _ _ _ (g1.trans s1) c2 (k1.trans (Kept.there (same_new hp))) (.tup (.inl (.inl upd_same)) (dpa_mono s1 r1))
theorem new_list {K : PySem.W.Frag} {mg : Str → Option Value} {Γ : Gam K mg} {G H H0 : Hp} {σ : L2.St} (c : Cfg Γ G ρ ms cs σ H) {p : Addr} {vs : List V} {ds : List PD} (hp : H p = none) (t : There H0 H) (r : DpAll K G vs ds) : Cfg Γ G ρ ms cs σ (upd H p (.lst vs)) ∧ RL K H0 G (upd H p (.lst vs)) (.ref p) ds :=
  ⟨c.keep (Same.refl _) (same_new hp) (c.ex.trans (same_new hp)) fun _ _ _ n => n, p, vs, rfl, t.free hp, There.free (Kept.there c.ex) hp, upd_same, r⟩
theorem el_lst {m : Out (List PD)} (h : AP X W es ρ ms cs m) (hl : es.length ≤ 1000 := by decide) : EP X W (RL X.K) (.List es pos) ρ ms cs m := by
  obtain ⟨ta, a1, a2⟩ := h
  refine ⟨_, pe_lst a1, fun Γ G σ H Q hw c hr => a2 Γ G σ H _ hw c (hr.mono fun xs k vs G1 H1 g1 c1 k1 r1 n1 => ⟨by rw [dpa_len r1, n1]; exact line_of hl, fun p hp => ?_⟩)⟩
  obtain ⟨c2, r2⟩ := new_list c1 hp k1.there r1
  exact k _ _ _ g1 c2 (k1.trans (same_new hp)) r2
theorem xl_lst {m : Out (List PD × List CO)} (h : AX X W es ρ ms cs m) (hl : es.length ≤ 1000 := by decide) : EX X W (RL X.K) (.List es pos) ρ ms cs m := by
  obtain ⟨ta, a1, a2⟩ := h
  refine ⟨_, pe_lst a1, fun Γ G σ H Q hw c hr => a2 Γ G σ H _ hw c (hr.mono fun xs k vs G1 H1 g1 c1 k1 r1 n1 => ⟨by rw [dpa_len r1, n1]; exact line_of hl, fun p hp => ?_⟩)⟩
  obtain ⟨c2, r2⟩ := new_list c1 hp k1 r1
  exact k _ _ _ g1 c2 (k1.trans (Kept.there (same_new hp))) r2

/-! ### subscripts -/
theorem atI_dpa {K : PySem.W.Frag} {G : Hp} {vs : List V} {ds : List PD} {i : Int} {d : PD} (r : DpAll K G vs ds) (h : atI ds i = some d) : ∃ v, atI vs i = some v ∧ Dp K G v d := by
  unfold atI at h ⊢
  rw [dpa_len r]
  cases e : ixN ds.length i with
  | none => rw [e] at h; cases h
  | some j =>
    rw [e] at h
    exact dpa_get r h
theorem ops_ix : OpS X (rIx X.K) (RD X.K) idxD := by
  intro Γ G ρ ms cs σ H H0 x y dx dy Q c t rx ry hr
  cases dy <;> first
    | (exfalso; cases dx <;> exact hr)
    | skip
  rename_i i
  cases rs_int ry
  cases dx <;> first
    | exact hr.elim
    | skip
  · rename_i z
    cases rs_str rx
    by_cases hz : z.length ≤ sizeLine
    · have e : idxD (.str z) (.int i) = (match atI z.cps.toList i with | some c => .ok (.str ⟨#[c]⟩) | none => .bad) := if_pos hz
      rw [e] at hr
      cases q : atI z.cps.toList i with
      | none => rw [q] at hr; exact hr.elim
      | some c' =>
        rw [q] at hr
        exact .inr (.inr ⟨z, i, c', rfl, rfl, hz, q, hr _ G H (Same.refl _) c (Same.refl _) (.str _)⟩)
    · have e : idxD (.str z) (.int i) = .bad := if_neg hz
      rw [e] at hr
      exact hr.elim
  · rename_i xs
    obtain ⟨a, vs, rfl, h1, d1⟩ := rs_list rx c.ex
    have e : idxD (.list xs) (.int i) = (match atI xs i with | some d => .ok d | none => .bad) := rfl
    rw [e] at hr
    cases q : atI xs i with
    | none => rw [q] at hr; exact hr.elim
    | some d =>
      rw [q] at hr
      obtain ⟨v, h2, h3⟩ := atI_dpa d1 q
      exact .inl ⟨a, vs, i, v, rfl, rfl, h1, h2, hr v G H (Same.refl _) c (Same.refl _) h3⟩
  · rename_i xs
    obtain ⟨a, vs, rfl, h1, d1, _⟩ := rs_tup rx c.ex
    have e : idxD (.tuple xs) (.int i) = (match atI xs i with | some d => .ok d | none => .bad) := rfl
    rw [e] at hr
    cases q : atI xs i with
    | none => rw [q] at hr; exact hr.elim
    | some d =>
      rw [q] at hr
      obtain ⟨v, h2, h3⟩ := atI_dpa d1 q
      exact .inr (.inl ⟨a, vs, i, v, rfl, rfl, h1, h2, hr v G H (Same.refl _) c (Same.refl _) h3⟩)
theorem ed_ix {ma mb : Out PD} (ha : EP X W (RS X.K) a ρ ms cs ma) (hb : EP X W (RS X.K) b ρ ms cs mb) (hs : PlainIx b := by exact fun _ _ => rfl) : EP X W (RD X.K) (.Subscript a b pos) ρ ms cs (ma >>= fun x => mb >>= fun y => idxD x y) := by
  obtain ⟨ta, a1, a2⟩ := ha
  obtain ⟨tb, b1, b2⟩ := hb
  exact ⟨_, pe_ix ix_seq a1 b1 hs, sem_op ops_ix a2 b2⟩
theorem ex_ix {ma : Out (PD × List CO)} {mb : List CO → Out (PD × List CO)} (ha : EX X W (RD X.K) a ρ ms cs ma) (hb : ∀ cs1, EX X W (RS X.K) b ρ ms cs1 (mb cs1)) (hs : PlainIx b := by exact fun _ _ => rfl) :
    EX X W (RD X.K) (.Subscript a b pos) ρ ms cs (ma >>= fun x => mb x.2 >>= fun y => idxD x.1 y.1 >>= fun z => .ok (z, y.2)) := by
  obtain ⟨ta, a1, a2⟩ := ha
  obtain ⟨tb, b1, b2⟩ := ex_all hb
  exact ⟨_, pe_ix ix_seq a1 b1 hs, sem_opX ops_ix a2 b2⟩
/-- the contents of the j-th cell -/
def cellL (j : Nat) (cs : List CO) : Out (List PD) := match cs[j]? with
  | some (.l ds) => .ok ds
  | _ => .bad
/-- a cell's item, the index's reckoning may change cells -/
theorem ex_ixc (i j : Nat) {x : Str} {ad : Addr} {pa : Pos} {mb : Out (PD × List CO)} (hb : EX X W (RS X.K) b ρ ms cs mb) (h : ρ[i]? = some (some (.c ad)) := by rfl) (h1 : ms[j]? = some ad := by rfl) (hN : X.N[i]? = some x := by rfl)
    (hv : Vis X.env.scope x := by first | exact Or.inl rfl | exact Or.inr (Or.inl rfl) | exact Or.inr (Or.inr rfl)) (hd : (x == ("__debug__" : Str)) = false := by decide) (hcd : (x == ("__classdict__" : Str)) = false := by decide) (hs : PlainIx b := by exact fun _ _ => rfl) :
    EX X W (RD X.K) (.Subscript (.Name x pa) b pos) ρ ms cs (mb >>= fun y => cellL j y.2 >>= fun ds => idxD (.list ds) y.1 >>= fun z => .ok (z, y.2)) := by
  obtain ⟨tb, b1, b2⟩ := hb
  refine ⟨_, pe_ix ix_seq (pe_var hN hv hd hcd) b1 hs, fun Γ G σ H Q hw c hr => ?_⟩
  obtain ⟨v, h3, h4⟩ := env_get c.env h
  refine ⟨v, h3, b2 Γ G σ H _ hw c (hr.bind.mono fun y k u G1 H1 g1 c1 k1 r1 => ?_)⟩
  unfold cellL at k
  cases e : y.2[j]? with
  | none => rw [e] at k; exact k.elim
  | some co =>
    rw [e] at k
    cases co with
    | k kvs => exact k.elim
    | l ds =>
      obtain ⟨g, vs, h5, h6⟩ := cells_get c1.cells h1 e
      exact ops_ix Γ G1 ρ ms y.2 σ H1 H v u (.list ds) y.1 Q c1 k1 (.inr ⟨ad, vs, ds, h4, rfl, h5, h6⟩) r1 (Res.mono (Res.bind k) fun z q w G3 H3 g3 c3 k3 r3 => q w G3 H3 (g1.trans g3) c3 (k1.trans k3.there) r3)

/-! ### slices -/
def SemO (K : PySem.W.Frag) (mg : Str → Option Value) (W : XK) (to : TO) (ρ : Rho) (ms : List Addr) (cs : List CO) (m : Out (Option Int)) : Prop :=
  ∀ (Γ : Gam K mg) (G : Hp) (σ : L2.St) (H : Hp) (Q : Option Int → Hp → Prop), Γ.W = W → Cfg Γ G ρ ms cs σ H → Res Γ.We m (fun b => ∀ G' H', Same G G' → Cfg Γ G' ρ ms cs σ H' → Kept H H' → Q b H') → to σ H Q
def SemOX (K : PySem.W.Frag) (mg : Str → Option Value) (W : XK) (to : TO) (ρ : Rho) (ms : List Addr) (cs : List CO) (m : Out (Option Int × List CO)) : Prop :=
  ∀ (Γ : Gam K mg) (G : Hp) (σ : L2.St) (H : Hp) (Q : Option Int → Hp → Prop), Γ.W = W → Cfg Γ G ρ ms cs σ H → Res Γ.We m (fun b => ∀ G' H', Same G G' → Cfg Γ G' ρ ms b.2 σ H' → There H H' → Q b.1 H') → to σ H Q
def OP (X : Cx) (W : XK) (e : Option Expr) (ρ : Rho) (ms : List Addr) (cs : List CO) (m : Out (Option Int)) : Prop := ∃ to, PO X e to ∧ SemO X.K X.mg W to ρ ms cs m
def OX (X : Cx) (W : XK) (e : Option Expr) (ρ : Rho) (ms : List Addr) (cs : List CO) (m : Out (Option Int × List CO)) : Prop := ∃ to, PO X e to ∧ SemOX X.K X.mg W to ρ ms cs m
theorem op_no : OP X W none ρ ms cs (.ok none) := ⟨_, po_none, fun Γ G σ H Q hw c hr => hr G H (Same.refl _) c (Same.refl _)⟩
theorem op_yes {m : Out PD} (h : EP X W (RS X.K) e ρ ms cs m) : OP X W (some e) ρ ms cs (m >>= fun x => partD x) := by
  obtain ⟨te, h1, h2⟩ := h
  refine ⟨_, po_some h1, fun Γ G σ H Q hw c hr => h2 Γ G σ H _ hw c (hr.bind.mono fun x k v G1 H1 g1 c1 k1 r1 => ?_)⟩
  cases x <;> first
    | exact k.elim
    | skip
  cases rs_int r1
  exact ⟨_, rfl, k G1 H1 g1 c1 k1⟩
theorem ox_yes {m : Out (PD × List CO)} (h : EX X W (RS X.K) e ρ ms cs m) : OX X W (some e) ρ ms cs (m >>= fun x => partD x.1 >>= fun o => .ok (o, x.2)) := by
  obtain ⟨te, h1, h2⟩ := h
  refine ⟨_, po_some h1, fun Γ G σ H Q hw c hr => h2 Γ G σ H _ hw c (hr.bind.mono fun x k v G1 H1 g1 c1 k1 r1 => ?_)⟩
  obtain ⟨x, cs1⟩ := x
  cases x <;> first
    | exact k.elim
    | skip
  cases rs_int r1
  exact ⟨_, rfl, k G1 H1 g1 c1 k1⟩
theorem OP.x {o : Option Expr} {m : Out (Option Int)} (h : OP X W o ρ ms cs m) : OX X W o ρ ms cs (m >>= fun b => .ok (b, cs)) := by
  obtain ⟨te, h1, h2⟩ := h
  exact ⟨te, h1, fun Γ G σ H Q hw c hr => h2 Γ G σ H Q hw c (hr.bind.mono fun b k G' H' g c' kp => k G' H' g c' kp.there)⟩
theorem po_all {o : Option Expr} {ι : Type} {t : ι → TO} (h : ∀ i, PO X o (t i)) : PO X o (fun σ H Q => ∃ i, t i σ H Q) := ⟨fun pins s σ H Q I hw => by
  obtain ⟨i, hw⟩ := hw
  exact (h i).run pins s σ H Q I hw⟩
theorem ox_all {o : Option Expr} {m : List CO → Out (Option Int × List CO)} (h : ∀ cs, OX X W o ρ ms cs (m cs)) : ∃ to, PO X o to ∧ ∀ cs, SemOX X.K X.mg W to ρ ms cs (m cs) := by
  refine ⟨_, po_all (t := fun cs => (h cs).choose) fun cs => (h cs).choose_spec.1, fun cs Γ G σ H Q hw c hr => ⟨cs, (h cs).choose_spec.2 Γ G σ H Q hw c hr⟩⟩
/-- a slice by values -/
def SlS {γ : Type} (X : Cx) (r : V → Option Int → Option Int → Hp → VK → Prop) (R : VR γ) (f : PD → Option Int → Option Int → Out γ) : Prop :=
  ∀ (Γ : Gam X.K X.mg) (G : Hp) (ρ : Rho) (ms : List Addr) (cs : List CO) (σ : L2.St) (H H0 : Hp) (x : V) (dx : PD) (lo hi : Option Int) (Q : VK), Cfg Γ G ρ ms cs σ H → There H0 H → RS X.K H0 G H x dx →
    Res Γ.We (f dx lo hi) (fun c => ∀ v G' H', Same G G' → Cfg Γ G' ρ ms cs σ H' → Kept H H' → R H0 G' H' v c → Q v H') → r x lo hi H Q
theorem dpa_cut {K : PySem.W.Frag} {G : Hp} {vs : List V} {ds : List PD} (r : DpAll K G vs ds) (lo hi : Option Int) : DpAll K G (cutV vs lo hi) (cutL ds lo hi) := by
  unfold cutV cutL
  rw [dpa_len r]
  exact dpa_take _ (dpa_drop _ r)
theorem sls_all : SlS X (fun x lo hi H Q => rSlS x lo hi H Q ∨ rSlA X.K x lo hi H Q ∨ rSlL X.K x lo hi H Q) (RD X.K) cutD := by
  intro Γ G ρ ms cs σ H H0 x dx lo hi Q c t rx hr
  cases dx <;> first
    | exact hr.elim
    | skip
  · rename_i z
    cases rs_str rx
    by_cases hz : z.length ≤ sizeLine
    · have e : cutD (.str z) lo hi = .ok (.str (cutS z lo hi)) := if_pos hz
      rw [e] at hr
      exact .inl ⟨z, rfl, hz, hr _ G H (Same.refl _) c (Same.refl _) (.str _)⟩
    · have e : cutD (.str z) lo hi = .bad := if_neg hz
      rw [e] at hr
      exact hr.elim
  · rename_i xs
    obtain ⟨a, vs, rfl, h1, d1⟩ := rs_list rx c.ex
    refine .inr (.inr ⟨a, vs, rfl, h1, fun p hp => ?_⟩)
    obtain ⟨c2, p', vs', e1, h0, gp, hp', hd⟩ := new_list c hp t (dpa_cut d1 lo hi)
    obtain ⟨n1, n2⟩ := fresh_ok c hp
    obtain ⟨s1, c3⟩ := upd_known (o := .lst (cutV vs lo hi)) c2 (There.free (Kept.there c.ex) hp) upd_same n1 n2
    exact hr _ _ _ s1 c3 (same_new hp) (.lst (.inl (.inl upd_same)) (dpa_mono s1 (dpa_cut d1 lo hi)))
  · rename_i xs
    obtain ⟨a, vs, rfl, h1, d1, e1⟩ := rs_tup rx c.ex
    refine .inr (.inl ⟨a, vs, rfl, h1, fun z => ?_, fun z p hp => ?_⟩)
    · have e : cutL xs lo hi = xs := by
        unfold cutL
        rw [← dpa_len d1, z.1, z.2, List.drop_zero, Nat.sub_zero, dpa_len d1, List.take_length]
      have q := hr (.ref a) G H (Same.refl _) c (Same.refl _) (by rw [e]; exact e1)
      exact q
    · obtain ⟨s1, c1⟩ := c.new (o := .tup (cutV vs lo hi)) hp
      exact hr _ _ _ s1 c1 (same_new hp) (.tup (.inl (.inl upd_same)) (dpa_mono s1 (dpa_cut d1 lo hi)))
theorem sls_l : SlS X (rSlL X.K) (RL X.K) cutLL := by
  intro Γ G ρ ms cs σ H H0 x dx lo hi Q c t rx hr
  cases dx <;> first
    | exact hr.elim
    | skip
  rename_i xs
  obtain ⟨a, vs, rfl, h1, d1⟩ := rs_list rx c.ex
  refine ⟨a, vs, rfl, h1, fun p hp => ?_⟩
  obtain ⟨c2, r2⟩ := new_list c hp t (dpa_cut d1 lo hi)
  exact hr _ G _ (Same.refl _) c2 (same_new hp) r2
theorem slr_all : SlR X (fun x lo hi H Q => rSlS x lo hi H Q ∨ rSlA X.K x lo hi H Q ∨ rSlL X.K x lo hi H Q) := sl_str.or (sl_tupA.or sl_list)
theorem ep_slice {γ : Type} {r : V → Option Int → Option Int → Hp → VK → Prop} {R : VR γ} {f : PD → Option Int → Option Int → Out γ} {lo hi : Option Expr} {ma : Out PD} {ml mh : Out (Option Int)} (h0 : SlR X r) (hf : SlS X r R f) (ha : EP X W (RS X.K) a ρ ms cs ma) (hl : OP X W lo ρ ms cs ml) (hh : OP X W hi ρ ms cs mh) :
    EP X W R (.Subscript a (.Slice lo hi none p2) pos) ρ ms cs (ma >>= fun x => ml >>= fun l => mh >>= fun h => f x l h) := by
  obtain ⟨ta, a1, a2⟩ := ha
  obtain ⟨tl, l1, l2⟩ := hl
  obtain ⟨th, u1, u2⟩ := hh
  refine ⟨_, pe_slice h0 a1 l1 u1, fun Γ G σ H Q hw c hr => a2 Γ G σ H _ hw c (hr.bind.mono fun x k v G1 H1 g1 c1 k1 r1 => l2 Γ G1 σ H1 _ hw c1 (k.bind.mono fun l k2 G2 H2 g2 c2 k2' => u2 Γ G2 σ H2 _ hw c2 (k2.bind.mono fun h k3 G3 H3 g3 c3 k3' => ?_)))⟩
  exact hf Γ G3 ρ ms cs σ H3 H v x l h Q c3 (Kept.there (k1.trans (k2'.trans k3'))) (rs_stab (rs_stab r1 g2 k2') g3 k3') (k3.mono fun z q w G4 H4 g4 c4 k4 r4 => q w G4 H4 (g1.trans (g2.trans (g3.trans g4))) c4 (k1.trans (k2'.trans (k3'.trans k4))) r4)
theorem ex_slice {γ : Type} {r : V → Option Int → Option Int → Hp → VK → Prop} {R : VR γ} {f : PD → Option Int → Option Int → Out γ} {lo hi : Option Expr} {ma : Out (PD × List CO)} {ml mh : List CO → Out (Option Int × List CO)} (h0 : SlR X r) (hf : SlS X r R f) (ha : EX X W (RD X.K) a ρ ms cs ma) (hl : ∀ cs1, OX X W lo ρ ms cs1 (ml cs1)) (hh : ∀ cs1, OX X W hi ρ ms cs1 (mh cs1)) :
    EX X W R (.Subscript a (.Slice lo hi none p2) pos) ρ ms cs (ma >>= fun x => ml x.2 >>= fun l => mh l.2 >>= fun h => f x.1 l.1 h.1 >>= fun z => .ok (z, h.2)) := by
  obtain ⟨ta, a1, a2⟩ := ha
  obtain ⟨tl, l1, l2⟩ := ox_all hl
  obtain ⟨th, u1, u2⟩ := ox_all hh
  refine ⟨_, pe_slice h0 a1 l1 u1, fun Γ G σ H Q hw c hr => a2 Γ G σ H _ hw c (hr.bind.mono fun x k v G1 H1 g1 c1 k1 r1 => l2 x.2 Γ G1 σ H1 _ hw c1 (k.bind.mono fun l k2 G2 H2 g2 c2 k2' => u2 l.2 Γ G2 σ H2 _ hw c2 (k2.bind.mono fun h k3 G3 H3 g3 c3 k3' => ?_)))⟩
  exact hf Γ G3 ρ ms h.2 σ H3 H v x.1 l.1 h.1 Q c3 (k1.trans (k2'.trans k3')) (.inl (dp_mono (g2.trans g3) r1)) (k3.bind.mono fun z q w G4 H4 g4 c4 k4 r4 => q w G4 H4 (g1.trans (g2.trans (g3.trans g4))) c4 (k1.trans (k2'.trans (k3'.trans k4.there))) r4)
theorem ed_slice {lo hi : Option Expr} {ma : Out PD} {ml mh : Out (Option Int)} (ha : EP X W (RS X.K) a ρ ms cs ma) (hl : OP X W lo ρ ms cs ml) (hh : OP X W hi ρ ms cs mh) : EP X W (RD X.K) (.Subscript a (.Slice lo hi none p2) pos) ρ ms cs (ma >>= fun x => ml >>= fun l => mh >>= fun h => cutD x l h) := ep_slice slr_all sls_all ha hl hh
theorem el_slice {lo hi : Option Expr} {ma : Out PD} {ml mh : Out (Option Int)} (ha : EP X W (RS X.K) a ρ ms cs ma) (hl : OP X W lo ρ ms cs ml) (hh : OP X W hi ρ ms cs mh) : EP X W (RL X.K) (.Subscript a (.Slice lo hi none p2) pos) ρ ms cs (ma >>= fun x => ml >>= fun l => mh >>= fun h => cutLL x l h) := ep_slice sl_list sls_l ha hl hh
theorem xd_slice {lo hi : Option Expr} {ma : Out (PD × List CO)} {ml mh : List CO → Out (Option Int × List CO)} (ha : EX X W (RD X.K) a ρ ms cs ma) (hl : ∀ cs1, OX X W lo ρ ms cs1 (ml cs1)) (hh : ∀ cs1, OX X W hi ρ ms cs1 (mh cs1)) :
    EX X W (RD X.K) (.Subscript a (.Slice lo hi none p2) pos) ρ ms cs (ma >>= fun x => ml x.2 >>= fun l => mh l.2 >>= fun h => cutD x.1 l.1 h.1 >>= fun z => .ok (z, h.2)) := ex_slice slr_all sls_all ha hl hh
end
end Dd
set_option Elab.async false
set_option linter.all false
set_option maxRecDepth 100000
set_option maxHeartbeats 2000000
namespace Dd
open PySem PySem.Spec PyProof.Rows L2
section
variable {X : Cx} {W : XK} {a b c e : Expr} {es : List Expr} {ρ : Rho} {ms : List Addr} {cs : List CO} {pos p2 p : Pos}
/-! ### built-ins of one argument, by values -/
def CallS {γ : Type} (X : Cx) (r : List V → Hp → VK → Prop) (R : VR γ) (f : PD → Out γ) : Prop :=
  ∀ (Γ : Gam X.K X.mg) (G : Hp) (ρ : Rho) (ms : List Addr) (cs : List CO) (σ : L2.St) (H H0 : Hp) (x : V) (dx : PD) (Q : VK), Cfg Γ G ρ ms cs σ H → There H0 H → RS X.K H0 G H x dx →
    Res Γ.We (f dx) (fun c => ∀ v G' H', Same G G' → Cfg Γ G' ρ ms cs σ H' → Kept H H' → R H0 G' H' v c → Q v H') → r [x] H Q
theorem one_pa {m : Out PD} {ta : TE} {r : List V → Hp → VK → Prop} {γ : Type} {R : VR γ} {f : PD → Out γ} (hf : CallS X r R f) (a2 : SemP X.K X.mg W ta (RS X.K) ρ ms cs m) : SemP X.K X.mg W (tCB r (tCons ta tNil)) R ρ ms cs (m >>= fun x => f x) := fun Γ G σ H Q hw c hr =>
  a2 Γ G σ H _ hw c (hr.bind.mono fun x k v G1 H1 g1 c1 k1 r1 => hf Γ G1 ρ ms cs σ H1 H v x Q c1 k1.there r1 (k.mono fun z q w G2 H2 g2 c2 k2 r2 => q w G2 H2 (g1.trans g2) c2 (k1.trans k2) r2))
theorem one_paX {m : Out (PD × List CO)} {ta : TE} {r : List V → Hp → VK → Prop} {γ : Type} {R : VR γ} {f : PD → Out γ} (hf : CallS X r R f) (a2 : SemX X.K X.mg W ta (RS X.K) ρ ms cs m) : SemX X.K X.mg W (tCB r (tCons ta tNil)) R ρ ms cs (m >>= fun x => f x.1 >>= fun z => .ok (z, x.2)) := fun Γ G σ H Q hw c hr =>
  a2 Γ G σ H _ hw c (hr.bind.mono fun x k v G1 H1 g1 c1 k1 r1 => hf Γ G1 ρ ms x.2 σ H1 H v x.1 Q c1 k1 r1 (k.bind.mono fun z q w G2 H2 g2 c2 k2 r2 => q w G2 H2 (g1.trans g2) c2 (k1.trans k2.there) r2))
theorem ep_callB {γ : Type} {R : VR γ} {f : PD → Out γ} {m : Out PD} {id : String} {x : Str} {r : List V → Hp → VK → Prop} (hc : CallR X (.builtin id) r ∧ CallS X r R f) (hm : X.mg x = none) (ha : EP X W (RS X.K) a ρ ms cs m) (hg : Gl X x := by rfl) (hv : bootBuiltins x = some (.builtin id) := by decide +kernel) (hn : x ≠ "__name__" := by decide)
    (hdb : (x == ("__debug__" : Str)) = false := by decide) (h1 : starEach (a :: []) X.env = (false, eval a X.env) :: starEach [] X.env := by rfl) : EP X W R (.Call (.Name x p) [a] [] pos) ρ ms cs (m >>= fun x => f x) := by
  obtain ⟨ta, a1, a2⟩ := ha
  exact ⟨_, pe_callB hc.1 hg hm hv (pa_cons a1 pa_nil h1) hn hdb h1 rfl, one_pa hc.2 a2⟩
theorem ep_callTy {γ : Type} {R : VR γ} {f : PD → Out γ} {m : Out PD} {T : String} {x : Str} {r : List V → Hp → VK → Prop} (hc : CallR X (.type T) r ∧ CallS X r R f) (hm : X.mg x = none) (ha : EP X W (RS X.K) a ρ ms cs m) (hg : Gl X x := by rfl) (hv : bootBuiltins x = some (.type T) := by decide +kernel) (hn : x ≠ "__name__" := by decide)
    (hdb : (x == ("__debug__" : Str)) = false := by decide) (h1 : starEach (a :: []) X.env = (false, eval a X.env) :: starEach [] X.env := by rfl) : EP X W R (.Call (.Name x p) [a] [] pos) ρ ms cs (m >>= fun x => f x) := by
  obtain ⟨ta, a1, a2⟩ := ha
  exact ⟨_, pe_callTy hc.1 hg hm hv (pa_cons a1 pa_nil h1) hn hdb h1 rfl, one_pa hc.2 a2⟩
theorem ex_callB {γ : Type} {R : VR γ} {f : PD → Out γ} {m : Out (PD × List CO)} {id : String} {x : Str} {r : List V → Hp → VK → Prop} (hc : CallR X (.builtin id) r ∧ CallS X r R f) (hm : X.mg x = none) (ha : EX X W (RS X.K) a ρ ms cs m) (hg : Gl X x := by rfl) (hv : bootBuiltins x = some (.builtin id) := by decide +kernel) (hn : x ≠ "__name__" := by decide)
    (hdb : (x == ("__debug__" : Str)) = false := by decide) (h1 : starEach (a :: []) X.env = (false, eval a X.env) :: starEach [] X.env := by rfl) : EX X W R (.Call (.Name x p) [a] [] pos) ρ ms cs (m >>= fun x => f x.1 >>= fun z => .ok (z, x.2)) := by
  obtain ⟨ta, a1, a2⟩ := ha
  exact ⟨_, pe_callB hc.1 hg hm hv (pa_cons a1 pa_nil h1) hn hdb h1 rfl, one_paX hc.2 a2⟩
theorem ex_callTy {γ : Type} {R : VR γ} {f : PD → Out γ} {m : Out (PD × List CO)} {T : String} {x : Str} {r : List V → Hp → VK → Prop} (hc : CallR X (.type T) r ∧ CallS X r R f) (hm : X.mg x = none) (ha : EX X W (RS X.K) a ρ ms cs m) (hg : Gl X x := by rfl) (hv : bootBuiltins x = some (.type T) := by decide +kernel) (hn : x ≠ "__name__" := by decide)
    (hdb : (x == ("__debug__" : Str)) = false := by decide) (h1 : starEach (a :: []) X.env = (false, eval a X.env) :: starEach [] X.env := by rfl) : EX X W R (.Call (.Name x p) [a] [] pos) ρ ms cs (m >>= fun x => f x.1 >>= fun z => .ok (z, x.2)) := by
  obtain ⟨ta, a1, a2⟩ := ha
  exact ⟨_, pe_callTy hc.1 hg hm hv (pa_cons a1 pa_nil h1) hn hdb h1 rfl, one_paX hc.2 a2⟩
theorem cs_len : CallS X (fun xs H Q => (∃ p ys, xs = [.ref p] ∧ (SqL X.K H p ys ∨ SqT X.K H p ys) ∧ Q (.int ys.length) H) ∨ ∃ z, xs = [.str z] ∧ z.length ≤ sizeLine ∧ Q (.int z.length) H) (RD X.K) lenD := by
  intro Γ G ρ ms cs σ H H0 x dx Q c t rx hr
  cases dx <;> first
    | exact hr.elim
    | skip
  · rename_i z
    cases rs_str rx
    by_cases hz : z.length ≤ sizeLine
    · have e : lenD (.str z) = .ok (.int z.length) := if_pos hz
      rw [e] at hr
      exact .inr ⟨z, rfl, hz, hr _ G H (Same.refl _) c (Same.refl _) (.int _)⟩
    · have e : lenD (.str z) = .bad := if_neg hz
      rw [e] at hr
      exact hr.elim
  · obtain ⟨a, vs, rfl, h1, d1⟩ := rs_list rx c.ex
    exact .inl ⟨a, vs, rfl, .inl h1, by rw [dpa_len d1]; exact hr _ G H (Same.refl _) c (Same.refl _) (.int _)⟩
  · obtain ⟨a, vs, rfl, h1, d1, _⟩ := rs_tup rx c.ex
    exact .inl ⟨a, vs, rfl, .inr h1, by rw [dpa_len d1]; exact hr _ G H (Same.refl _) c (Same.refl _) (.int _)⟩
theorem c_len : CallR X (.builtin "len") (fun xs H Q => (∃ p ys, xs = [.ref p] ∧ (SqL X.K H p ys ∨ SqT X.K H p ys) ∧ Q (.int ys.length) H) ∨ ∃ z, xs = [.str z] ∧ z.length ≤ sizeLine ∧ Q (.int z.length) H) ∧ CallS X (fun xs H Q => (∃ p ys, xs = [.ref p] ∧ (SqL X.K H p ys ∨ SqT X.K H p ys) ∧ Q (.int ys.length) H) ∨ ∃ z, xs = [.str z] ∧ z.length ≤ sizeLine ∧ Q (.int z.length) H) (RD X.K) lenD :=
  ⟨call_len_seq.or call_len_str, cs_len⟩
theorem c_int : CallR X (.type "int") (fun xs H Q => (∃ i, xs = [.int i] ∧ Q (.int i) H) ∨ ∃ k, xs = [.bl k] ∧ Q (.int (if k then 1 else 0)) H) ∧ CallS X (fun xs H Q => (∃ i, xs = [.int i] ∧ Q (.int i) H) ∨ ∃ k, xs = [.bl k] ∧ Q (.int (if k then 1 else 0)) H) (RD X.K) intD := by
  refine ⟨call_int1, fun Γ G ρ ms cs σ H H0 x dx Q c t rx hr => ?_⟩
  cases dx <;> first
    | exact hr.elim
    | skip
  · cases rs_bool rx
    exact .inr ⟨_, rfl, hr _ G H (Same.refl _) c (Same.refl _) (.int _)⟩
  · cases rs_int rx
    exact .inl ⟨_, rfl, hr _ G H (Same.refl _) c (Same.refl _) (.int _)⟩
/-- tuple(x) of a list or a tuple -/
def tupleD (x : PD) : Out PD := seqD x >>= fun xs => .ok (.tuple xs)
theorem c_tuple : CallR X (.type "tuple") (fun xs H Q => ∃ p ys, xs = [.ref p] ∧ ((SqL X.K H p ys ∧ ∀ l, H l = none → Q (.ref l) (upd H l (.tup ys))) ∨ (SqT X.K H p ys ∧ Q (.ref p) H))) ∧
    CallS X (fun xs H Q => ∃ p ys, xs = [.ref p] ∧ ((SqL X.K H p ys ∧ ∀ l, H l = none → Q (.ref l) (upd H l (.tup ys))) ∨ (SqT X.K H p ys ∧ Q (.ref p) H))) (RD X.K) tupleD := by
  refine ⟨call_tuple_of, fun Γ G ρ ms cs σ H H0 x dx Q c t rx hr => ?_⟩
  cases dx <;> first
    | exact hr.elim
    | skip
  · obtain ⟨a, vs, rfl, h1, d1⟩ := rs_list rx c.ex
    refine ⟨a, vs, rfl, .inl ⟨h1, fun p hp => ?_⟩⟩
    obtain ⟨s1, c1⟩ := c.new (o := .tup vs) hp
    exact hr _ _ _ s1 c1 (same_new hp) (.tup (.inl (.inl upd_same)) (dpa_mono s1 d1))
  · obtain ⟨a, vs, rfl, h1, d1, e1⟩ := rs_tup rx c.ex
    exact ⟨a, vs, rfl, .inr ⟨h1, hr _ G H (Same.refl _) c (Same.refl _) e1⟩⟩
/-- list(x) of a list or a tuple: a new list -/
theorem c_list : CallR X (.type "list") (fun xs H Q => ∃ p ys, xs = [.ref p] ∧ (SqL X.K H p ys ∨ SqT X.K H p ys) ∧ ∀ l, H l = none → Q (.ref l) (upd H l (.lst ys))) ∧
    CallS X (fun xs H Q => ∃ p ys, xs = [.ref p] ∧ (SqL X.K H p ys ∨ SqT X.K H p ys) ∧ ∀ l, H l = none → Q (.ref l) (upd H l (.lst ys))) (RL X.K) seqD := by
  refine ⟨call_list_of, fun Γ G ρ ms cs σ H H0 x dx Q c t rx hr => ?_⟩
  cases dx <;> first
    | exact hr.elim
    | skip
  · obtain ⟨a, vs, rfl, h1, d1⟩ := rs_list rx c.ex
    refine ⟨a, vs, rfl, .inl h1, fun p hp => ?_⟩
    obtain ⟨c2, r2⟩ := new_list c hp t d1
    exact hr _ G _ (Same.refl _) c2 (same_new hp) r2
  · obtain ⟨a, vs, rfl, h1, d1, e1⟩ := rs_tup rx c.ex
    refine ⟨a, vs, rfl, .inr h1, fun p hp => ?_⟩
    obtain ⟨c2, r2⟩ := new_list c hp t d1
    exact hr _ G _ (Same.refl _) c2 (same_new hp) r2

/-! ### isinstance with a built-in type -/
def tyName : PD → String
  | .none => "NoneType" | .bool _ => "bool" | .int _ => "int" | .str _ => "str" | .list _ => "list" | .tuple _ => "tuple" | .dict _ => "dict"
def isiD (T : String) (d : PD) : Out PD := match d with
  | .dict _ => .bad
  | _ => match kitB (tyName d) T with
    | some b => .ok (.bool b)
    | none => .bad
theorem dp_ty {K : PySem.W.Frag} {H0 G H : Hp} {v : V} {d : PD} (ex : Same G H) (r : RS K H0 G H v d) : TyX K H v (.type (tyName d)) := by
  have q := rs_dp ex r
  cases q with
  | non => exact .base .non
  | bl b => exact .base (.bl b)
  | int i => exact .base (.int i)
  | str i => exact .base (.str i)
  | lst h t =>
    rcases h with (h | ⟨o, h⟩) | ⟨o, its, n, h, hc, _⟩
    · exact .base (.lst h)
    · exact .base (.frz h)
    · exact .kList h hc
  | tup h t =>
    rcases h with (h | ⟨o, h⟩) | ⟨o, its, n, h, hc, _⟩
    · exact .base (.tup h)
    · exact .fTuple h
    · exact .kTuple h hc
theorem ed_isi {m : Out PD} {T : String} {t : Str} (hm : X.mg "isinstance" = none) (hm2 : X.mg t = none) (ha : EP X W (RS X.K) a ρ ms cs m) (hg : Gl X "isinstance" := by rfl) (hg2 : Gl X t := by rfl) (hv : bootBuiltins t = some (.type T) := by decide +kernel)
    (hn : t ≠ "__name__" := by decide) (hdb : (t == ("__debug__" : Str)) = false := by decide) (h1 : starEach (a :: [.Name t p2]) X.env = (false, eval a X.env) :: starEach [.Name t p2] X.env := by rfl) :
    EP X W (RD X.K) (.Call (.Name "isinstance" p) [a, .Name t p2] [] pos) ρ ms cs (m >>= fun x => isiD T x) := by
  obtain ⟨ta, a1, a2⟩ := ha
  refine ⟨_, pe_callB call_isi hg hm (by decide +kernel) (pa_cons a1 (pa_cons (pe_bltn (v := .ty T) hg2 hm2 hv rfl hn hdb) pa_nil rfl) h1) (by decide) (by decide) h1 rfl, fun Γ G σ H Q hw c hr => a2 Γ G σ H _ hw c (hr.bind.mono fun x k v G1 H1 g1 c1 k1 r1 => ?_)⟩
  have ty := dp_ty c1.ex r1
  have key : ∀ b, kitB (tyName x) T = some b → Q (.bl b) H1 → rIsi X.K [v, .ty T] H1 Q := fun b e q => ⟨v, .ty T, .type (tyName x), .type T, b, rfl, .ty T, ty, kit_ty e, q⟩
  unfold isiD at k
  cases e : kitB (tyName x) T with
  | none => cases x <;> simp only [e] at k <;> exact k.elim
  | some b =>
    refine key b e ?_
    cases x <;> simp only [e] at k <;> first
      | exact k.elim
      | exact k _ G1 H1 g1 c1 k1 (.bl _)

/-! ### methods of texts -/
def asStr : PD → Out Str
  | .str z => .ok z
  | _ => .bad
/-- a method of a text by values -/
def MtS {γ : Type} (X : Cx) (r : V → List V → Hp → VK → Prop) (R : VR γ) (f : Str → PD → Out γ) : Prop :=
  ∀ (Γ : Gam X.K X.mg) (G : Hp) (ρ : Rho) (ms : List Addr) (cs : List CO) (σ : L2.St) (H H0 : Hp) (z : Str) (y : V) (dy : PD) (Q : VK), Cfg Γ G ρ ms cs σ H → There H0 H → RS X.K H0 G H y dy →
    Res Γ.We (f z dy) (fun c => ∀ v G' H', Same G G' → Cfg Γ G' ρ ms cs σ H' → Kept H H' → R H0 G' H' v c → Q v H') → r (.str z) [y] H Q
theorem ep_m1 {γ : Type} {R : VR γ} {f : Str → PD → Out γ} {ma mb : Out PD} {apos : Pos} {id : String} {name : Str} {r : V → List V → Hp → VK → Prop} (hm : MtR X id r ∧ MtS X r R f) (slot : Slot "str" name id) (ty : typeOf (.builtin id) = pure (.type "method_descriptor"))
    (ha : EP X W (RS X.K) a ρ ms cs ma) (hb : EP X W (RS X.K) b ρ ms cs mb) (hs : starEach [b] X.env = [(false, eval b X.env)] := by rfl) (hbase : attributeBase a name X.env (eval a X.env) = eval a X.env := by rfl) (hline : (apos.endLine == pos.line) = true := by rfl) :
    EP X W R (.Call (.Attribute a name apos) [b] [] pos) ρ ms cs (ma >>= fun x => asStr x >>= fun z => mb >>= fun y => f z y) := by
  obtain ⟨ta, a1, a2⟩ := ha
  obtain ⟨tb, b1, b2⟩ := hb
  refine ⟨_, pe_m1 slot ty hm.1 a1 b1 hs hbase hline, fun Γ G σ H Q hw c hr => a2 Γ G σ H _ hw c (hr.bind.mono fun x k v G1 H1 g1 c1 k1 r1 => ?_)⟩
  cases x <;> first
    | exact k.elim
    | skip
  rename_i z
  cases rs_str r1
  exact ⟨⟨_, rfl⟩, b2 Γ G1 σ H1 _ hw c1 (Res.mono (Res.bind (show Res Γ.We (mb >>= fun y => f z y) _ from k)) fun y k2 u G2 H2 g2 c2 k2' r2 => hm.2 Γ G2 ρ ms cs σ H2 H z u y Q c2 (Kept.there (k1.trans k2')) r2 (k2.mono fun w q v3 G3 H3 g3 c3 k3 r3 => q v3 G3 H3 (g1.trans (g2.trans g3)) c3 (k1.trans (k2'.trans k3)) r3))⟩
theorem ex_m1 {γ : Type} {R : VR γ} {f : Str → PD → Out γ} {ma : Out (PD × List CO)} {mb : List CO → Out (PD × List CO)} {apos : Pos} {id : String} {name : Str} {r : V → List V → Hp → VK → Prop} (hm : MtR X id r ∧ MtS X r R f) (slot : Slot "str" name id) (ty : typeOf (.builtin id) = pure (.type "method_descriptor"))
    (ha : EX X W (RS X.K) a ρ ms cs ma) (hb : ∀ cs1, EX X W (RS X.K) b ρ ms cs1 (mb cs1)) (hs : starEach [b] X.env = [(false, eval b X.env)] := by rfl) (hbase : attributeBase a name X.env (eval a X.env) = eval a X.env := by rfl) (hline : (apos.endLine == pos.line) = true := by rfl) :
    EX X W R (.Call (.Attribute a name apos) [b] [] pos) ρ ms cs (ma >>= fun x => asStr x.1 >>= fun z => mb x.2 >>= fun y => f z y.1 >>= fun w => .ok (w, y.2)) := by
  obtain ⟨ta, a1, a2⟩ := ha
  obtain ⟨tb, b1, b2⟩ := ex_all hb
  refine ⟨_, pe_m1 slot ty hm.1 a1 b1 hs hbase hline, fun Γ G σ H Q hw c hr => a2 Γ G σ H _ hw c (hr.bind.mono fun x k v G1 H1 g1 c1 k1 r1 => ?_)⟩
  obtain ⟨x, cs1⟩ := x
  cases x <;> first
    | exact k.elim
    | skip
  rename_i z
  cases rs_str r1
  exact ⟨⟨_, rfl⟩, b2 cs1 Γ G1 σ H1 _ hw c1 (Res.mono (Res.bind (show Res Γ.We (mb cs1 >>= fun y => f z y.1 >>= fun w => .ok (w, y.2)) _ from k)) fun y k2 u G2 H2 g2 c2 k2' r2 => hm.2 Γ G2 ρ ms y.2 σ H2 H z u y.1 Q c2 (k1.trans k2') r2 (k2.bind.mono fun w q v3 G3 H3 g3 c3 k3 r3 => q v3 G3 H3 (g1.trans (g2.trans g3)) c3 (k1.trans (k2'.trans k3.there)) r3))⟩
abbrev rJoin (K : PySem.W.Frag) : V → List V → Hp → VK → Prop := fun x xs H Q => ∃ a p, ∃ ys : List Str, x = .str a ∧ xs = [.ref p] ∧ (SqL K H p (ys.map V.str) ∨ SqT K H p (ys.map V.str)) ∧
    (ys.map (·.length)).sum + ys.length * a.length ≤ 16777216 ∧ Q (.str (Txt.join a ys)) H
theorem m_join : MtR X "str.join" (rJoin X.K) ∧ MtS X (rJoin X.K) (RD X.K) (fun z y => joinD (.str z) y) := by
  refine ⟨mt_join, fun Γ G ρ ms cs σ H H0 z u y Q c t r2 k2 => ?_⟩
  cases y <;> first
    | exact k2.elim
    | skip
  · rename_i ds
    obtain ⟨a, vs, rfl, h1, d1⟩ := rs_list r2 c.ex
    cases e : strsD ds with
    | none => simp only [joinD, e] at k2; exact k2.elim
    | some zs =>
      simp only [joinD, e] at k2
      have e2 := strsD_eq e
      subst e2
      rw [dpa_strs d1] at h1
      split at k2
      · rename_i hz
        exact ⟨z, a, zs, rfl, rfl, .inl h1, hz, k2 _ G H (Same.refl _) c (Same.refl _) (.str _)⟩
      · exact k2.elim
  · rename_i ds
    obtain ⟨a, vs, rfl, h1, d1, _⟩ := rs_tup r2 c.ex
    cases e : strsD ds with
    | none => simp only [joinD, e] at k2; exact k2.elim
    | some zs =>
      simp only [joinD, e] at k2
      have e2 := strsD_eq e
      subst e2
      rw [dpa_strs d1] at h1
      split at k2
      · rename_i hz
        exact ⟨z, a, zs, rfl, rfl, .inr h1, hz, k2 _ G H (Same.refl _) c (Same.refl _) (.str _)⟩
      · exact k2.elim
theorem m_str1 {id : String} {g : Str → Str → PD} {gv : Str → Str → V} (h : MtR X id (fun x xs H Q => ∃ a b, x = .str a ∧ xs = [.str b] ∧ Q (gv a b) H)) (hg : ∀ a b G, Dp X.K G (gv a b) (g a b)) {f : Str → PD → Out PD} (hf : ∀ z y, f z y ≠ .bad → ∃ b, y = .str b ∧ f z y = .ok (g z b)) :
    MtR X id (fun x xs H Q => ∃ a b, x = .str a ∧ xs = [.str b] ∧ Q (gv a b) H) ∧ MtS X (fun x xs H Q => ∃ a b, x = .str a ∧ xs = [.str b] ∧ Q (gv a b) H) (RD X.K) f := by
  refine ⟨h, fun Γ G ρ ms cs σ H H0 z u y Q c t r2 k2 => ?_⟩
  by_cases e : f z y = .bad
  · rw [e] at k2; exact k2.elim
  · obtain ⟨b, rfl, e2⟩ := hf z y e
    rw [e2] at k2
    cases rs_str r2
    exact ⟨z, b, rfl, rfl, k2 _ G H (Same.refl _) c (Same.refl _) (hg _ _ _)⟩
theorem m_starts : MtR X "str.startswith" (fun x xs H Q => ∃ a b, x = .str a ∧ xs = [.str b] ∧ Q (.bl (Txt.startswith a b)) H) ∧ MtS X (fun x xs H Q => ∃ a b, x = .str a ∧ xs = [.str b] ∧ Q (.bl (Txt.startswith a b)) H) (RD X.K) (fun z y => startsD (.str z) y) :=
  m_str1 (g := fun a b => .bool (Txt.startswith a b)) mt_startswith (fun _ _ _ => .bl _) fun z y h => by cases y <;> first | exact ⟨_, rfl, rfl⟩ | exact (h rfl).elim
theorem ed_join {ma mb : Out PD} {apos : Pos} (ha : EP X W (RS X.K) a ρ ms cs ma) (hb : EP X W (RS X.K) b ρ ms cs mb) (hs : starEach [b] X.env = [(false, eval b X.env)] := by rfl) (hbase : attributeBase a "join" X.env (eval a X.env) = eval a X.env := by rfl) (hline : (apos.endLine == pos.line) = true := by rfl) :
    EP X W (RD X.K) (.Call (.Attribute a "join" apos) [b] [] pos) ρ ms cs (ma >>= fun x => asStr x >>= fun z => mb >>= fun y => joinD (.str z) y) := ep_m1 m_join PySem.F.slot_str_join PySem.F.type_str_join ha hb hs hbase hline
theorem xd_join {ma : Out (PD × List CO)} {mb : List CO → Out (PD × List CO)} {apos : Pos} (ha : EX X W (RS X.K) a ρ ms cs ma) (hb : ∀ cs1, EX X W (RS X.K) b ρ ms cs1 (mb cs1)) (hs : starEach [b] X.env = [(false, eval b X.env)] := by rfl) (hbase : attributeBase a "join" X.env (eval a X.env) = eval a X.env := by rfl) (hline : (apos.endLine == pos.line) = true := by rfl) :
    EX X W (RD X.K) (.Call (.Attribute a "join" apos) [b] [] pos) ρ ms cs (ma >>= fun x => asStr x.1 >>= fun z => mb x.2 >>= fun y => joinD (.str z) y.1 >>= fun w => .ok (w, y.2)) := ex_m1 m_join PySem.F.slot_str_join PySem.F.type_str_join ha hb hs hbase hline
theorem ed_starts {ma mb : Out PD} {apos : Pos} (ha : EP X W (RS X.K) a ρ ms cs ma) (hb : EP X W (RS X.K) b ρ ms cs mb) (hs : starEach [b] X.env = [(false, eval b X.env)] := by rfl) (hbase : attributeBase a "startswith" X.env (eval a X.env) = eval a X.env := by rfl) (hline : (apos.endLine == pos.line) = true := by rfl) :
    EP X W (RD X.K) (.Call (.Attribute a "startswith" apos) [b] [] pos) ρ ms cs (ma >>= fun x => asStr x >>= fun z => mb >>= fun y => startsD (.str z) y) := ep_m1 m_starts PySem.F.slot_str_startswith PySem.F.type_str_startswith ha hb hs hbase hline
end
end Dd
set_option Elab.async false
set_option linter.all false
set_option maxRecDepth 100000
set_option maxHeartbeats 2000000
namespace Dd
open PySem PySem.Spec PyProof.Rows L2

/-! ### what is walked -/
/-- the items ds are walked while the cells keep what Keep says -/
def ItOk (K : PySem.W.Frag) (Keep : Hp → Hp → Prop) (G : Hp) (J : It) (ds : List PD) : Prop :=
  ∃ (Gp : Hp → Prop) (Y : Nat → Hp → V → Hp → Prop), Walk J ds.length Gp Y ∧
    (∀ G1 H1, Same G G1 → Same G1 H1 → Keep G1 H1 → Gp H1) ∧
    ∀ i x H1 H2 G1, i < ds.length → Same G G1 → Same G1 H1 → Keep G1 H1 → Y i H1 x H2 →
      Kept H1 H2 ∧ ∃ d G2, ds[i]? = some d ∧ Same G1 G2 ∧ Same G2 H2 ∧ (∀ b o, H1 b = some o → G1 b = none → G2 b = none) ∧ Dp K G2 x d
/-- what was known stays (pure), or is there -/
def Stay : Bool → Hp → Hp → Prop
  | true => Kept
  | false => There
theorem Stay.there {pu : Bool} {H H' : Hp} (s : Stay pu H H') : There H H' := by
  cases pu with
  | true => exact Kept.there s
  | false => exact s
theorem Stay.keep {pu : Bool} {H H1 H2 : Hp} (s : Stay pu H H1) (k : Kept H1 H2) : Stay pu H H2 := by
  cases pu with
  | true => exact Same.trans s k
  | false => exact There.trans s k.there
theorem Stay.refl {pu : Bool} {H : Hp} : Stay pu H H := by
  cases pu with
  | true => exact Same.refl _
  | false => exact Kept.there (Same.refl _)
def SemI (K : PySem.W.Frag) (mg : Str → Option Value) (W : XK) (pu : Bool) (wi : TI) (ρ : Rho) (ms : List Addr) (cs : List CO) (Keep : List PD → Hp → Hp → Prop) (m : Out (List PD × List CO)) : Prop :=
  ∀ (Γ : Gam K mg) (G : Hp) (σ : L2.St) (H : Hp) (R : It → Hp → Prop), Γ.W = W → Cfg Γ G ρ ms cs σ H → Res Γ.We m (fun b => ∀ J G' H', Same G G' → Cfg Γ G' ρ ms b.2 σ H' → Stay pu H H' → ItOk K (Keep b.1) G' J b.1 → R J H') → wi σ H R
def IX (X : Cx) (W : XK) (pu : Bool) (tg iter : Expr) (ρ : Rho) (ms : List Addr) (cs : List CO) (Keep : List PD → Hp → Hp → Prop) (m : Out (List PD × List CO)) : Prop := ∃ wi, PI X tg iter wi ∧ SemI X.K X.mg W pu wi ρ ms cs Keep m
abbrev KeepAll : List PD → Hp → Hp → Prop := fun _ _ _ => True
/-- the j-th cell stays -/
abbrev KeepC (K : PySem.W.Frag) (ad : Addr) : List PD → Hp → Hp → Prop := fun ds G H => ∃ vs, H ad = some (.lst vs) ∧ DpAll K G vs ds
section
variable {X : Cx} {W : XK} {tg iter e a b : Expr} {ρ : Rho} {ms : List Addr} {cs : List CO} {pos p : Pos}
theorem it_list {K : PySem.W.Frag} {G : Hp} {ad : Addr} {vs : List V} {ds : List PD} (h : SqL K G ad vs) (r : DpAll K G vs ds) : ItOk K (KeepAll ds) G (Itl K ad) ds := by
  refine ⟨fun H => SqL K H ad vs, YAt vs, by rw [← dpa_len r]; exact walk_list, fun G1 H1 g x _ => (g.trans x).seq h, fun i x H1 H2 G1 hi g ex _ y => ?_⟩
  obtain ⟨rfl, y⟩ := y
  obtain ⟨d, h1, h2⟩ := dpa_get' r y
  exact ⟨Same.refl _, d, G1, h1, Same.refl _, ex, fun _ _ _ n => n, dp_mono g h2⟩
theorem it_tup {K : PySem.W.Frag} {G : Hp} {ad : Addr} {vs : List V} {ds : List PD} (h : SqT K G ad vs) (r : DpAll K G vs ds) : ItOk K (KeepAll ds) G (Itt K ad) ds := by
  refine ⟨fun H => SqT K H ad vs, YAt vs, by rw [← dpa_len r]; exact walk_tup, fun G1 H1 g x _ => sqt_mono (g.trans x) h, fun i x H1 H2 G1 hi g ex _ y => ?_⟩
  obtain ⟨rfl, y⟩ := y
  obtain ⟨d, h1, h2⟩ := dpa_get' r y
  exact ⟨Same.refl _, d, G1, h1, Same.refl _, ex, fun _ _ _ n => n, dp_mono g h2⟩
theorem it_str {K : PySem.W.Frag} {G : Hp} {z : Str} : ItOk K (KeepAll (z.cps.toList.map fun c => .str ⟨#[c]⟩)) G (Its z) (z.cps.toList.map fun c => .str ⟨#[c]⟩) := by
  refine ⟨fun _ => True, _, by rw [List.length_map, Array.length_toList]; exact walk_str, fun _ _ _ _ _ => trivial, fun i x H1 H2 G1 hi g ex _ y => ?_⟩
  obtain ⟨rfl, c, y, rfl⟩ := y
  refine ⟨Same.refl _, .str ⟨#[c]⟩, G1, ?_, Same.refl _, ex, fun _ _ _ n => n, .str _⟩
  rw [List.getElem?_map, Array.getElem?_toList, y]
  rfl
theorem it_range {K : PySem.W.Frag} {G : Hp} {lo : Int} {n : Nat} : ItOk K (KeepAll ((List.range n).map fun i => .int (lo + (i : Nat)))) G (Itr lo n) ((List.range n).map fun i => .int (lo + (i : Nat))) := by
  refine ⟨fun _ => True, _, by rw [List.length_map, List.length_range]; exact walk_range, fun _ _ _ _ _ => trivial, fun i x H1 H2 G1 hi g ex _ y => ?_⟩
  obtain ⟨rfl, rfl⟩ := y
  rw [List.length_map, List.length_range] at hi
  refine ⟨Same.refl _, .int (lo + (i : Nat)), G1, ?_, Same.refl _, ex, fun _ _ _ n => n, .int _⟩
  rw [List.getElem?_map, List.getElem?_range hi]
  rfl
/-- the list of a cell -/
theorem it_cell {K : PySem.W.Frag} {G : Hp} {ad : Addr} {ds : List PD} : ItOk K (KeepC K ad ds) G (Itl K ad) ds := by
  refine ⟨fun H => ∃ vs, SqL K H ad vs ∧ vs.length = ds.length, fun i H x H' => H' = H ∧ ∀ xs, SqL K H ad xs → xs[i]? = some x,
    ⟨fun i H hi ⟨vs, q, n⟩ => ⟨vs, vs[i], q, by simp [n, hi]⟩, fun H ⟨vs, q, n⟩ => ⟨vs, q, by omega⟩, fun i H x H' _ _ y => y⟩, fun G1 H1 g x k => ?_, fun i x H1 H2 G1 hi g ex k y => ?_⟩
  · obtain ⟨vs, h1, h2⟩ := k
    exact ⟨vs, .inl (.inl h1), dpa_len h2⟩
  · obtain ⟨rfl, y⟩ := y
    obtain ⟨vs, h1, h2⟩ := k
    obtain ⟨d, h3, h4⟩ := dpa_get' h2 (y vs (.inl (.inl h1)))
    exact ⟨Same.refl _, d, G1, h3, Same.refl _, ex, fun _ _ _ n => n, h4⟩
/-- data of any kind that can be walked -/
def iData (K : PySem.W.Frag) (te : TE) (n : Nat) : TI := match n with
  | 0 => iList K te
  | 1 => iTup K te
  | _ => iStr te
def range2D : List PD → Out (List PD)
  | [u, v] => rangeD u v
  | _ => .bad
theorem ix_data {m : Out PD} (h : EP X W (RD X.K) iter ρ ms cs m) : IX X W true tg iter ρ ms cs KeepAll ((m >>= fun x => itemsD x) >>= fun ds => .ok (ds, cs)) := by
  rw [bind_bind]
  obtain ⟨te, h1, h2⟩ := h
  have run : PI X tg iter (fun σ H R => ∃ n, iData X.K te n σ H R) := ⟨fun pins s σ H R I hw => by
    obtain ⟨n, hw⟩ := hw
    match n, hw with
    | 0, hw => exact (pi_list h1).run pins s σ H R I hw
    | 1, hw => exact (pi_tup h1).run pins s σ H R I hw
    | n + 2, hw => exact (pi_str h1).run pins s σ H R I hw⟩
  refine ⟨_, run, fun Γ G σ H R hw c hr => ?_⟩
  have hb := hr.bind
  cases e : m with
  | bad => rw [e] at hb; exact hb.elim
  | err z fs =>
    refine ⟨0, h2 Γ G σ H _ hw c ?_⟩
    rw [e] at hb ⊢
    exact hb
  | ok x =>
    rw [e] at hb
    skip
    cases x <;> first
      | exact hb.elim
      | skip
    · rename_i z
      refine ⟨2, h2 Γ G σ H _ hw c ?_⟩
      rw [e]
      intro v G1 H1 g1 c1 k1 r1
      cases r1
      exact ⟨z, rfl, hb _ G1 H1 g1 c1 k1 it_str⟩
    · rename_i ds
      refine ⟨0, h2 Γ G σ H _ hw c ?_⟩
      rw [e]
      intro v G1 H1 g1 c1 k1 r1
      cases r1 with
      | lst q t => exact ⟨_, rfl, ⟨_, c1.ex.seq q⟩, hb _ G1 H1 g1 c1 k1 (it_list q t)⟩
    · rename_i ds
      refine ⟨1, h2 Γ G σ H _ hw c ?_⟩
      rw [e]
      intro v G1 H1 g1 c1 k1 r1
      cases r1 with
      | tup q t => exact ⟨_, rfl, ⟨_, sqt_mono c1.ex q⟩, hb _ G1 H1 g1 c1 k1 (it_tup q t)⟩
theorem ix_range1 {m : Out PD} (hm : X.mg "range" = none) (h : EP X W (RD X.K) a ρ ms cs m) (hg : Gl X "range" := by rfl) (hs : starEach [a] X.env = [(false, eval a X.env)] := by rfl) :
    IX X W true tg (.Call (.Name "range" p) [a] [] pos) ρ ms cs KeepAll ((m >>= fun x => rangeD (.int 0) x) >>= fun ds => .ok (ds, cs)) := by
  rw [bind_bind]
  obtain ⟨te, h1, h2⟩ := h
  refine ⟨_, pi_range1 hg hm (pa_cons h1 pa_nil hs) hs, fun Γ G σ H R hw c hr => h2 Γ G σ H _ hw c (hr.bind.mono fun x k v G1 H1 g1 c1 k1 r1 => ?_)⟩
  skip
  cases x <;> first
    | exact k.elim
    | skip
  rename_i n
  cases r1
  by_cases hn : -(2 ^ 62) ≤ (0 : Int) ∧ (0 : Int) < 2 ^ 62 ∧ -(2 ^ 62) ≤ n ∧ n < 2 ^ 62
  · have e : rangeD (.int 0) (.int n) = .ok ((List.range (n - 0).toNat).map fun i => .int (0 + (i : Nat))) := if_pos hn
    have k := k.bind
    rw [e] at k
    have e2 : (n - 0).toNat = n.toNat := by rw [Int.sub_zero]
    rw [e2] at k
    exact ⟨n, rfl, hn.2.2.1, hn.2.2.2, k _ G1 H1 g1 c1 k1 it_range⟩
  · have e : rangeD (.int 0) (.int n) = .bad := if_neg hn
    have k := k.bind
    rw [e] at k
    exact k.elim
theorem ix_range2 {m : Out (List PD)} (hm : X.mg "range" = none) (h : AP X W [a, b] ρ ms cs m) (hg : Gl X "range" := by rfl) (hs : starEach [a, b] X.env = [(false, eval a X.env), (false, eval b X.env)] := by rfl) (hs2 : starEach [b] X.env = [(false, eval b X.env)] := by rfl) :
    IX X W true tg (.Call (.Name "range" p) [a, b] [] pos) ρ ms cs KeepAll ((m >>= fun x => range2D x) >>= fun ds => .ok (ds, cs)) := by
  rw [bind_bind]
  obtain ⟨te, h1, h2⟩ := h
  refine ⟨_, pi_range2 hg hm h1 hs hs2, fun Γ G σ H R hw c hr => h2 Γ G σ H _ hw c (hr.bind.mono fun x k vs G1 H1 g1 c1 k1 r1 n1 => ?_)⟩
  skip
  match x, r1, k with
  | [u, v], .cons q1 (.cons q2 .nil), k =>
    cases u <;> first
      | exact k.elim
      | skip
    cases v <;> first
      | exact k.elim
      | skip
    rename_i i j
    cases q1
    cases q2
    by_cases hn : -(2 ^ 62) ≤ i ∧ i < 2 ^ 62 ∧ -(2 ^ 62) ≤ j ∧ j < 2 ^ 62
    · have e : range2D [.int i, .int j] = .ok ((List.range (j - i).toNat).map fun t => .int (i + (t : Nat))) := if_pos hn
      have k := k.bind
      rw [e] at k
      exact ⟨i, j, rfl, hn, k _ G1 H1 g1 c1 k1 it_range⟩
    · have e : range2D [.int i, .int j] = .bad := if_neg hn
      have k := k.bind
      rw [e] at k
      exact k.elim
  | [], _, k => exact k.elim
  | [_], _, k => exact k.elim
  | _ :: _ :: _ :: _, _, k => exact k.elim
theorem ix_dataX {m : Out (PD × List CO)} (h : EX X W (RD X.K) iter ρ ms cs m) : IX X W false tg iter ρ ms cs KeepAll (m >>= fun x => itemsD x.1 >>= fun ds => .ok (ds, x.2)) := by
  obtain ⟨te, h1, h2⟩ := h
  have run : PI X tg iter (fun σ H R => ∃ n, iData X.K te n σ H R) := ⟨fun pins s σ H R I hw => by
    obtain ⟨n, hw⟩ := hw
    match n, hw with
    | 0, hw => exact (pi_list h1).run pins s σ H R I hw
    | 1, hw => exact (pi_tup h1).run pins s σ H R I hw
    | n + 2, hw => exact (pi_str h1).run pins s σ H R I hw⟩
  refine ⟨_, run, fun Γ G σ H R hw c hr => ?_⟩
  have hb := hr.bind
  cases e : m with
  | bad => rw [e] at hb; exact hb.elim
  | err z fs =>
    refine ⟨0, h2 Γ G σ H _ hw c ?_⟩
    rw [e] at hb ⊢
    exact hb
  | ok x =>
    rw [e] at hb
    obtain ⟨x, cs1⟩ := x
    cases x <;> first
      | exact hb.elim
      | skip
    · rename_i z
      refine ⟨2, h2 Γ G σ H _ hw c ?_⟩
      rw [e]
      intro v G1 H1 g1 c1 k1 r1
      cases r1
      exact ⟨z, rfl, hb _ G1 H1 g1 c1 k1 it_str⟩
    · rename_i ds
      refine ⟨0, h2 Γ G σ H _ hw c ?_⟩
      rw [e]
      intro v G1 H1 g1 c1 k1 r1
      cases r1 with
      | lst q t => exact ⟨_, rfl, ⟨_, c1.ex.seq q⟩, hb _ G1 H1 g1 c1 k1 (it_list q t)⟩
    · rename_i ds
      refine ⟨1, h2 Γ G σ H _ hw c ?_⟩
      rw [e]
      intro v G1 H1 g1 c1 k1 r1
      cases r1 with
      | tup q t => exact ⟨_, rfl, ⟨_, sqt_mono c1.ex q⟩, hb _ G1 H1 g1 c1 k1 (it_tup q t)⟩
theorem ix_range1X {m : Out (PD × List CO)} (hm : X.mg "range" = none) (h : EX X W (RD X.K) a ρ ms cs m) (hg : Gl X "range" := by rfl) (hs : starEach [a] X.env = [(false, eval a X.env)] := by rfl) :
    IX X W false tg (.Call (.Name "range" p) [a] [] pos) ρ ms cs KeepAll (m >>= fun x => rangeD (.int 0) x.1 >>= fun ds => .ok (ds, x.2)) := by
  obtain ⟨te, h1, h2⟩ := h
  refine ⟨_, pi_range1 hg hm (pa_cons h1 pa_nil hs) hs, fun Γ G σ H R hw c hr => h2 Γ G σ H _ hw c (hr.bind.mono fun x k v G1 H1 g1 c1 k1 r1 => ?_)⟩
  obtain ⟨x, cs1⟩ := x
  cases x <;> first
    | exact k.elim
    | skip
  rename_i n
  cases r1
  by_cases hn : -(2 ^ 62) ≤ (0 : Int) ∧ (0 : Int) < 2 ^ 62 ∧ -(2 ^ 62) ≤ n ∧ n < 2 ^ 62
  · have e : rangeD (.int 0) (.int n) = .ok ((List.range (n - 0).toNat).map fun i => .int (0 + (i : Nat))) := if_pos hn
    have k := k.bind
    rw [e] at k
    have e2 : (n - 0).toNat = n.toNat := by rw [Int.sub_zero]
    rw [e2] at k
    exact ⟨n, rfl, hn.2.2.1, hn.2.2.2, k _ G1 H1 g1 c1 k1 it_range⟩
  · have e : rangeD (.int 0) (.int n) = .bad := if_neg hn
    have k := k.bind
    rw [e] at k
    exact k.elim
theorem ix_range2X {m : Out (List PD × List CO)} (hm : X.mg "range" = none) (h : AX X W [a, b] ρ ms cs m) (hg : Gl X "range" := by rfl) (hs : starEach [a, b] X.env = [(false, eval a X.env), (false, eval b X.env)] := by rfl) (hs2 : starEach [b] X.env = [(false, eval b X.env)] := by rfl) :
    IX X W false tg (.Call (.Name "range" p) [a, b] [] pos) ρ ms cs KeepAll (m >>= fun x => range2D x.1 >>= fun ds => .ok (ds, x.2)) := by
  obtain ⟨te, h1, h2⟩ := h
  refine ⟨_, pi_range2 hg hm h1 hs hs2, fun Γ G σ H R hw c hr => h2 Γ G σ H _ hw c (hr.bind.mono fun x k vs G1 H1 g1 c1 k1 r1 n1 => ?_)⟩
  obtain ⟨x, cs1⟩ := x
  match x, r1, k with
  | [u, v], .cons q1 (.cons q2 .nil), k =>
    cases u <;> first
      | exact k.elim
      | skip
    cases v <;> first
      | exact k.elim
      | skip
    rename_i i j
    cases q1
    cases q2
    by_cases hn : -(2 ^ 62) ≤ i ∧ i < 2 ^ 62 ∧ -(2 ^ 62) ≤ j ∧ j < 2 ^ 62
    · have e : range2D [.int i, .int j] = .ok ((List.range (j - i).toNat).map fun t => .int (i + (t : Nat))) := if_pos hn
      have k := k.bind
      rw [e] at k
      exact ⟨i, j, rfl, hn, k _ G1 H1 g1 c1 k1 it_range⟩
    · have e : range2D [.int i, .int j] = .bad := if_neg hn
      have k := k.bind
      rw [e] at k
      exact k.elim
  | [], _, k => exact k.elim
  | [_], _, k => exact k.elim
  | _ :: _ :: _ :: _, _, k => exact k.elim
theorem ix_cell (i j : Nat) {x : Str} {ad : Addr} {ds : List PD} (h : ρ[i]? = some (some (.c ad)) := by rfl) (h1 : ms[j]? = some ad := by rfl) (h2 : cs[j]? = some (.l ds) := by rfl) (hN : X.N[i]? = some x := by rfl)
    (hv : Vis X.env.scope x := by first | exact Or.inl rfl | exact Or.inr (Or.inl rfl) | exact Or.inr (Or.inr rfl)) (hd : (x == ("__debug__" : Str)) = false := by decide) (hcd : (x == ("__classdict__" : Str)) = false := by decide) :
    IX X W true tg (.Name x p) ρ ms cs (KeepC X.K ad) ((.ok ds : Out (List PD)) >>= fun ds => .ok (ds, cs)) := by
  refine ⟨_, pi_list (pe_var hN hv hd hcd), fun Γ G σ H R hw c hr => ?_⟩
  obtain ⟨v, h3, h4⟩ := env_get c.env h
  obtain ⟨g, vs, h5, h6⟩ := cells_get c.cells h1 h2
  exact ⟨v, h3, ad, h4, ⟨vs, .inl (.inl h5)⟩, hr _ G H (Same.refl _) c (Same.refl _) it_cell⟩
theorem IX.x {Keep : List PD → Hp → Hp → Prop} {m : Out (List PD × List CO)} (h : IX X W true tg iter ρ ms cs Keep m) : IX X W false tg iter ρ ms cs Keep m := by
  obtain ⟨wi, h1, h2⟩ := h
  exact ⟨wi, h1, fun Γ G σ H R hw c hr => h2 Γ G σ H R hw c (hr.mono fun b k J G' H' g c' st i => k J G' H' g c' (Kept.there st) i)⟩
/-! ### targets -/
/-- storing d: the slots behind it -/
def TgOk (X : Cx) (tg : Expr) (vs : List Nat) (u : PD → Rho → Out Rho) : Prop := ∃ g, PG X tg g ∧ ∀ (Γ : Gam X.K X.mg) (G : Hp) (ρ : Rho) (ms : List Addr) (cs : List CO) (σ : L2.St) (H : Hp) (v : V) (d : PD) (Q : L2.St → Hp → Prop), Cfg Γ G ρ ms cs σ H → Dp X.K G v d →
  Res (fun _ _ => False) (u d ρ) (fun ρ' => ∀ σ', Cfg Γ G ρ' ms cs σ' H → (∀ j, j ∉ vs → σ'[j]? = σ[j]?) → σ'.length = σ.length → Q σ' H) → g v σ H Q
theorem Cfg.env' {K : PySem.W.Frag} {mg : Str → Option Value} {Γ : Gam K mg} {G H : Hp} {σ σ' : L2.St} {ρ' : Rho} (c : Cfg Γ G ρ ms cs σ H) (e : EnvOk K G ρ' σ') : Cfg Γ G ρ' ms cs σ' H := ⟨c.ex, c.cells, e, c.grow, c.loc⟩
theorem tg_name (i : Nat) {x : Str} (hN : X.N.Nodup) (hi : X.N[i]? = some x := by rfl) (hx : Loc X.env.scope x := by first | exact Or.inl rfl | exact Or.inr rfl) (hf : X.fn x = true ∨ X.env.scope.names.lookup x = some .local := by first | exact .inl rfl | exact .inr rfl) : TgOk X (.Name x pos) [i] (fun d ρ => .ok (ρ.set i (some (.d d)))) := by
  refine ⟨_, pg_name hN hi hx hf, fun Γ G ρ ms cs σ H v d Q c hd hr => ?_⟩
  refine hr _ (c.env' (env_set c.env (av := .d d) hd i)) (fun j hj => ?_) (by rw [List.length_set])
  rw [List.getElem?_set_ne (fun z => hj (by simp [z]))]

/-! ### comprehensions -/
def noErr {α : Type} (m : Out α) : Out α := match m with
  | .err _ _ => .bad
  | .ok a => .ok a
  | .bad => .bad
@[simp] theorem noErr_ok {α : Type} (a : α) : noErr (.ok a) = .ok a := rfl
theorem noErr_res {α : Type} {We We' : WE} {m : Out α} {P : α → Prop} (h : Res We (noErr m) P) : Res We' m P := by
  cases m with
  | ok a => exact h
  | err c fs => exact h.elim
  | bad => exact h.elim
theorem noErr_res2 {α : Type} {We We' : WE} {m : Out α} {P : α → Prop} (h : Res We (noErr m) P) : Res We' (noErr m) P := by
  cases m with
  | ok a => exact h
  | err c fs => exact h.elim
  | bad => exact h.elim
def optC (r : Option PD) (t : List PD) : List PD := match r with
  | some x => x :: t
  | none => t
def compP (f : PD → Out (Option PD)) : List PD → Out (List PD)
  | [] => .ok []
  | d :: ds => noErr (f d) >>= fun r => compP f ds >>= fun t => .ok (optC r t)
def compX (f : PD → List CO → Out (Option PD × List CO)) : List PD → List CO → Out (List PD × List CO)
  | [], cs => .ok ([], cs)
  | d :: ds, cs => noErr (f d cs) >>= fun r => compX f ds r.2 >>= fun t => .ok (optC r.1 t.1, t.2)
def lineD (ds : List PD) : Out (List PD) := if ds.length ≤ sizeLine then .ok ds else .bad
theorem lineD_ok {ds : List PD} (h : ds.length ≤ sizeLine) : lineD ds = .ok ds := if_pos h
abbrev Blk (X : Cx) (scope : Scope) (s : Shared) (H : Hp) (C : Addr) (cl : List (Str × Addr)) (fp : List Addr) : Cx := X.blk s H scope (compEnvC scope cl C X.env) fp
def TsP (X : Cx) (W : XK) (ifs : List Expr) (ρ : Rho) (ms : List Addr) (cs : List CO) (m : Out Bool) : Prop := ∃ tt, PTs X ifs tt ∧ SemT X.K X.mg W tt ρ ms cs m
def TsX (X : Cx) (W : XK) (ifs : List Expr) (ρ : Rho) (ms : List Addr) (cs : List CO) (m : Out (Bool × List CO)) : Prop := ∃ tt, PTs X ifs tt ∧ SemTX X.K X.mg W tt ρ ms cs m
theorem ts_nil : TsP X W [] ρ ms cs (.ok true) := ⟨_, pts_nil, fun Γ G σ H Q hw c hr => hr G H (Same.refl _) c (Same.refl _)⟩
theorem ts_one {m : Out Bool} (h : TP X W e ρ ms cs m) : TsP X W [e] ρ ms cs m := by
  obtain ⟨t, h1, h2⟩ := h
  exact ⟨t, pts_one h1, h2⟩
theorem TsP.x {ifs : List Expr} {m : Out Bool} (h : TsP X W ifs ρ ms cs m) : TsX X W ifs ρ ms cs (m >>= fun b => .ok (b, cs)) := by
  obtain ⟨te, h1, h2⟩ := h
  exact ⟨te, h1, fun Γ G σ H Q hw c hr => h2 Γ G σ H Q hw c (hr.bind.mono fun b k G' H' g c' kp => k G' H' g c' kp.there)⟩
theorem tsx_nil : TsX X W [] ρ ms cs (.ok (true, cs)) := ⟨_, pts_nil, fun Γ G σ H Q hw c hr => hr G H (Same.refl _) c (Kept.there (Same.refl _))⟩
theorem tsx_one {m : Out (Bool × List CO)} (h : TX X W e ρ ms cs m) : TsX X W [e] ρ ms cs m := by
  obtain ⟨t, h1, h2⟩ := h
  exact ⟨t, pts_one h1, h2⟩
structure BC where
  s : Shared
  H : Hp
  C : Addr
  cl : List (Str × Addr)
  fp : List Addr
section
variable {scope : Scope} {ι : Type} {ρf : ι → Rho}
theorem blk_te {R : VR PD} {m : ι → Out PD} (h : ∀ s H C cl fp t, EP (Blk X scope s H C cl fp) W R e (ρf t) ms cs (m t)) : ∃ te, (∀ s H C cl fp, PE (Blk X scope s H C cl fp) e te) ∧ ∀ t, SemP X.K X.mg W te R (ρf t) ms cs (m t) := by
  have q : ∀ (c : BC × ι), ∃ te, PE (Blk X scope c.1.s c.1.H c.1.C c.1.cl c.1.fp) e te ∧ SemP X.K X.mg W te R (ρf c.2) ms cs (m c.2) := fun c => h c.1.s c.1.H c.1.C c.1.cl c.1.fp c.2
  refine ⟨fun σ H Q => ∀ c, ∃ t, (q (c, t)).choose σ H Q, fun s H C cl fp => ⟨fun pins s' σ H' Q I hw => ?_⟩, fun t Γ G σ H Q hw c hr bc => ⟨t, (q (bc, t)).choose_spec.2 Γ G σ H Q hw c hr⟩⟩
  obtain ⟨t, hw⟩ := hw ⟨s, H, C, cl, fp⟩
  exact (q (⟨s, H, C, cl, fp⟩, t)).choose_spec.1.run pins s' σ H' Q I hw
theorem blk_tt {ifs : List Expr} {m : ι → Out Bool} (h : ∀ s H C cl fp t, TsP (Blk X scope s H C cl fp) W ifs (ρf t) ms cs (m t)) : ∃ tt, (∀ s H C cl fp, PTs (Blk X scope s H C cl fp) ifs tt) ∧ ∀ t, SemT X.K X.mg W tt (ρf t) ms cs (m t) := by
  have q : ∀ (c : BC × ι), ∃ tt, PTs (Blk X scope c.1.s c.1.H c.1.C c.1.cl c.1.fp) ifs tt ∧ SemT X.K X.mg W tt (ρf c.2) ms cs (m c.2) := fun c => h c.1.s c.1.H c.1.C c.1.cl c.1.fp c.2
  refine ⟨fun σ H Q => ∀ c, ∃ t, (q (c, t)).choose σ H Q, fun s H C cl fp => ⟨fun pins s' σ H' Q I hw => ?_⟩, fun t Γ G σ H Q hw c hr bc => ⟨t, (q (bc, t)).choose_spec.2 Γ G σ H Q hw c hr⟩⟩
  obtain ⟨t, hw⟩ := hw ⟨s, H, C, cl, fp⟩
  exact (q (⟨s, H, C, cl, fp⟩, t)).choose_spec.1.run pins s' σ H' Q I hw
theorem blk_teX {R : VR PD} {m : ι → List CO → Out (PD × List CO)} (h : ∀ s H C cl fp t cs, EX (Blk X scope s H C cl fp) W R e (ρf t) ms cs (m t cs)) : ∃ te, (∀ s H C cl fp, PE (Blk X scope s H C cl fp) e te) ∧ ∀ t cs, SemX X.K X.mg W te R (ρf t) ms cs (m t cs) := by
  have q : ∀ (c : BC × ι × List CO), ∃ te, PE (Blk X scope c.1.s c.1.H c.1.C c.1.cl c.1.fp) e te ∧ SemX X.K X.mg W te R (ρf c.2.1) ms c.2.2 (m c.2.1 c.2.2) := fun c => h c.1.s c.1.H c.1.C c.1.cl c.1.fp c.2.1 c.2.2
  refine ⟨fun σ H Q => ∀ c, ∃ t, (q (c, t)).choose σ H Q, fun s H C cl fp => ⟨fun pins s' σ H' Q I hw => ?_⟩, fun t cs Γ G σ H Q hw c hr bc => ⟨(t, cs), (q (bc, t, cs)).choose_spec.2 Γ G σ H Q hw c hr⟩⟩
  obtain ⟨t, hw⟩ := hw ⟨s, H, C, cl, fp⟩
  exact (q (⟨s, H, C, cl, fp⟩, t)).choose_spec.1.run pins s' σ H' Q I hw
theorem blk_ttX {ifs : List Expr} {m : ι → List CO → Out (Bool × List CO)} (h : ∀ s H C cl fp t cs, TsX (Blk X scope s H C cl fp) W ifs (ρf t) ms cs (m t cs)) : ∃ tt, (∀ s H C cl fp, PTs (Blk X scope s H C cl fp) ifs tt) ∧ ∀ t cs, SemTX X.K X.mg W tt (ρf t) ms cs (m t cs) := by
  have q : ∀ (c : BC × ι × List CO), ∃ tt, PTs (Blk X scope c.1.s c.1.H c.1.C c.1.cl c.1.fp) ifs tt ∧ SemTX X.K X.mg W tt (ρf c.2.1) ms c.2.2 (m c.2.1 c.2.2) := fun c => h c.1.s c.1.H c.1.C c.1.cl c.1.fp c.2.1 c.2.2
  refine ⟨fun σ H Q => ∀ c, ∃ t, (q (c, t)).choose σ H Q, fun s H C cl fp => ⟨fun pins s' σ H' Q I hw => ?_⟩, fun t cs Γ G σ H Q hw c hr bc => ⟨(t, cs), (q (bc, t, cs)).choose_spec.2 Γ G σ H Q hw c hr⟩⟩
  obtain ⟨t, hw⟩ := hw ⟨s, H, C, cl, fp⟩
  exact (q (⟨s, H, C, cl, fp⟩, t)).choose_spec.1.run pins s' σ H' Q I hw
theorem blk_tg {tg : Expr} {vs : List Nat} {u : PD → Rho → Out Rho} (h : ∀ s H C cl fp, TgOk (Blk X scope s H C cl fp) tg vs u) : ∃ g, (∀ s H C cl fp, PG (Blk X scope s H C cl fp) tg g) ∧ ∀ (Γ : Gam X.K X.mg) (G : Hp) (ρ : Rho) (ms : List Addr) (cs : List CO) (σ : L2.St) (H : Hp) (v : V) (d : PD) (Q : L2.St → Hp → Prop), Cfg Γ G ρ ms cs σ H → Dp X.K G v d →
  Res (fun _ _ => False) (u d ρ) (fun ρ' => ∀ σ', Cfg Γ G ρ' ms cs σ' H → (∀ j, j ∉ vs → σ'[j]? = σ[j]?) → σ'.length = σ.length → Q σ' H) → g v σ H Q := by
  have q : ∀ (c : BC), TgOk (Blk X scope c.s c.H c.C c.cl c.fp) tg vs u := fun c => h c.s c.H c.C c.cl c.fp
  refine ⟨fun v σ H Q => ∀ c, (q c).choose v σ H Q, fun s H C cl fp => ⟨fun pins s' σ H' v u' Q I r hw => ?_⟩, fun Γ G ρ ms cs σ H v d Q c hd hr bc => (q bc).choose_spec.2 Γ G ρ ms cs σ H v d Q c hd hr⟩
  exact (q ⟨s, H, C, cl, fp⟩).choose_spec.1.run pins s' σ H' v u' Q I r (hw ⟨s, H, C, cl, fp⟩)
end
/-- a list of ours that is not known yet is changed -/
theorem Cfg.mut {K : PySem.W.Frag} {mg : Str → Option Value} {Γ : Gam K mg} {G H : Hp} {σ : L2.St} {ρ : Rho} (c : Cfg Γ G ρ ms cs σ H) {D : Addr} {o : HO} (g : G D = none) (n : D ∉ ms) (h0 : Γ.H D = none) : Cfg Γ G ρ ms cs σ (upd H D o) where
  ex := fun b x e => by
    rw [upd_ne (ne_of_none e g)]
    exact c.ex b x e
  cells := cells_to c.cells (Same.refl _) (fun a m => (cells_mem c.cells m).1) fun a m o' h => by
    rw [upd_ne (fun z => n (by rw [← z]; exact m))]
    exact h
  env := c.env
  grow := ⟨c.grow.gg, fun b x nb h => by
    rw [upd_ne (ne_of_none h h0)]
    exact c.grow.hh b x nb h, fun b x h => by
    rw [upd_ne (ne_of_none h h0)]
    exact c.grow.th b x h, c.grow.nw⟩
  loc := c.loc
theorem wipe_same {σ σ' : L2.St} : ∀ (vs : List Nat), (∀ j, j ∉ vs → σ'[j]? = σ[j]?) → σ'.length = σ.length → wipe σ' vs = wipe σ vs := by
  intro vs h hl
  apply List.ext_getElem?
  intro i
  have len : ∀ (τ : L2.St) (ws : List Nat), (wipe τ ws).length = τ.length := fun τ ws => wipe_length τ ws
  by_cases hi : i ∈ vs
  · have q : ∀ (τ : L2.St) (ws : List Nat), i ∈ ws → (wipe τ ws)[i]? = if i < τ.length then some none else none := by
      intro τ ws
      induction ws with
      | nil => intro h; simp at h
      | cons v ws ih =>
        intro h
        show ((wipe τ ws).set v none)[i]? = _
        by_cases hv : v = i
        · subst hv
          by_cases hl : v < τ.length
          · rw [List.getElem?_set_self (by rw [len]; exact hl), if_pos hl]
          · rw [List.getElem?_eq_none (by rw [List.length_set, len]; omega), if_neg hl]
        · rw [List.getElem?_set_ne hv]
          exact ih (by simpa [Ne.symm hv] using h)
    rw [q _ _ hi, q _ _ hi, hl]
  · have q : ∀ (τ : L2.St) (ws : List Nat), i ∉ ws → (wipe τ ws)[i]? = τ[i]? := fun τ ws hn => wipe_out hn
    rw [q _ _ hi, q _ _ hi, h i hi]
end
end Dd
set_option Elab.async false
set_option linter.all false
set_option maxRecDepth 100000
set_option maxHeartbeats 2000000
namespace Dd
open PySem PySem.Spec PyProof.Rows L2
section
variable {X : Cx} {W : XK} {tg iter elt e : Expr} {ifs : List Expr} {ρ : Rho} {ms : List Addr} {cs : List CO} {pos p : Pos} {scope : Scope} {own : List (Str × Nat)}
/-- the wish within: no error; reckoned from here -/
def Gam.at {K : PySem.W.Frag} {mg : Str → Option Value} (G H : Hp) (ms : List Addr) : Gam K mg := ⟨G, H, ms, fun _ _ => False, E0, fun _ _ _ _ _ _ h => h.elim⟩
theorem Cfg.here {K : PySem.W.Frag} {mg : Str → Option Value} {Γ : Gam K mg} {G H : Hp} {σ : L2.St} (c : Cfg Γ G ρ ms cs σ H) : Cfg (Gam.at (K := K) (mg := mg) G H ms) G ρ ms cs σ H := ⟨c.ex, c.cells, c.env, Grow.refl, fun _ m => .inl m⟩
theorem Cfg.rejoin {K : PySem.W.Frag} {mg : Str → Option Value} {Γ Γ' : Gam K mg} {G H G' H' : Hp} {σ σ' : L2.St} {ρ' : Rho} {cs' : List CO} (c : Cfg Γ G ρ ms cs σ H) (e1 : Γ'.G = G) (e2 : Γ'.H = H) (e3 : Γ'.ms = ms) (c' : Cfg Γ' G' ρ' ms cs' σ' H') : Cfg Γ G' ρ ms cs' σ H' := by
  obtain ⟨x, cl, en, ⟨gg, hh, th, nw⟩, _⟩ := c'
  rw [e1, e2] at *
  rw [e3] at hh
  refine ⟨x, cl, env_mono gg c.env, ⟨c.grow.gg.trans gg, fun b o n h => hh b o (fun m => ?_) (c.grow.hh b o n h), fun b o h => ?_, fun b o h n => ?_⟩, c.loc⟩
  · rcases c.loc b m with z | z
    · exact n z
    · rw [z] at h; cases h
  · obtain ⟨o', h'⟩ := c.grow.th b o h
    exact th b o' h'
  · obtain ⟨o', h'⟩ := c.grow.th b o h
    exact nw b o' h' (c.grow.nw b o h n)
theorem wipe_wipe (σ : L2.St) (ws : List Nat) : wipe (wipe σ ws) ws = wipe σ ws := by
  refine List.ext_getElem? fun q => ?_
  by_cases hq : q ∈ ws
  · have z : ∀ (τ : L2.St) (us : List Nat), q ∈ us → (wipe τ us)[q]? = if q < τ.length then some none else none := by
      intro τ us
      induction us with
      | nil => intro h; simp at h
      | cons v us ih =>
        intro h
        show ((wipe τ us).set v none)[q]? = _
        by_cases hv : v = q
        · subst hv
          by_cases hl : v < τ.length
          · rw [List.getElem?_set_self (by rw [wipe_length]; exact hl), if_pos hl]
          · rw [List.getElem?_eq_none (by rw [List.length_set, wipe_length]; omega), if_neg hl]
        · rw [List.getElem?_set_ne hv]
          exact ih (by simpa [Ne.symm hv] using h)
    rw [z _ _ hq, z _ _ hq, wipe_length]
  · rw [wipe_out hq]
theorem drop_at {ds : List PD} {i : Nat} {d : PD} (h : ds[i]? = some d) : ds.drop i = d :: ds.drop (i + 1) := by
  obtain ⟨hi, e⟩ := List.getElem?_eq_some_iff.mp h
  rw [List.drop_eq_getElem_cons hi, e]
/-- the parts of a comprehension, told together -/
def LCP (X : Cx) (W : XK) (scope : Scope) (own : List (Str × Nat)) (tg iter : Expr) (ifs : List Expr) (elt : Expr) (ρ : Rho) (ms : List Addr) (cs : List CO) (m : Out (List PD)) : Prop :=
  ∃ wi g tt te, PI X tg iter wi ∧ (∀ s H C cl fp, PG (Blk X scope s H C cl fp) tg g) ∧ (∀ s H C cl fp, PTs (Blk X scope s H C cl fp) ifs tt) ∧ (∀ s H C cl fp, PE (Blk X scope s H C cl fp) elt te) ∧ SemP X.K X.mg W (tLc wi g tt te (own.map (·.2))) (RL X.K) ρ ms cs m
theorem lc_ofP {ι : Type} {un : PD → Out ι} {ρf : ι → Rho} {u : PD → Rho → Out Rho} {Keep : List PD → Hp → Hp → Prop} {mi : Out (List PD)} {mt : ι →  Out Bool} {me : ι →  Out PD}
    (hi : IX X W true tg iter ρ ms cs Keep (mi >>= fun ds => .ok (ds, cs))) (hg : ∀ s H C cl fp, TgOk (Blk X scope s H C cl fp) tg (own.map (·.2)) u) (hu : ∀ d, u d (wipeR ρ (own.map (·.2))) = (un d >>= fun t => .ok (ρf t)))
    (ht : ∀ s H C cl fp t , TsP (Blk X scope s H C cl fp) E0 ifs (ρf t) ms cs (mt t )) (he : ∀ s H C cl fp t , EP (Blk X scope s H C cl fp) E0 (RD X.K) elt (ρf t) ms cs (me t )) (hk : ∀ ds, mi = .ok ds → ∀ G H, CellsOk X.K G H ms cs → Keep ds G H) :
    LCP X W scope own tg iter ifs elt ρ ms cs (mi >>= fun ds => lineD ds >>= fun ds => compP (fun d => un d >>= fun t => mt t >>= fun b => if b then me t >>= fun x => .ok (some x) else .ok none) ds) := by
  obtain ⟨wi, i1, i2⟩ := hi
  obtain ⟨g, g1, g2⟩ := blk_tg hg
  obtain ⟨tt, t1, t2⟩ := blk_tt ht
  obtain ⟨te, e1, e2⟩ := blk_te he
  refine ⟨wi, g, tt, te, i1, g1, t1, e1, fun Γ G σ H Q hw c hr => i2 Γ G σ H _ hw c ?_⟩
  cases emi : mi with
  | bad => rw [emi] at hr; exact hr.elim
  | err z fs => rw [emi] at hr; exact hr
  | ok ds =>
  rw [emi] at hr
  have hr : Res Γ.We (lineD ds >>= fun ds => compP (fun d => un d >>= fun t => mt t >>= fun b => if b then me t >>= fun x => .ok (some x) else .ok none) ds) _ := hr
  intro J G1 H1 gg1 c1 st it D hD
  obtain ⟨Gp, Y, w, w1, w2⟩ := it
  by_cases hz : ds.length ≤ sizeLine
  case neg => rw [lineD, if_neg hz] at hr; exact hr.elim
  rw [lineD_ok hz] at hr
  have gD : G1 D = none := There.free (Kept.there c1.ex) hD
  obtain ⟨nD, oD⟩ := fresh_ok c1 hD
  have hH : H D = none := There.free (Stay.there (pu := true) st) hD
  refine lc_it w (Qd := fun H' => Q (.ref D) H') (fun i H' => ∃ G2 vs acc , Same G1 G2 ∧ Cfg Γ G2 ρ ms cs σ H' ∧ Kept H1 H' ∧ H' D = some (.lst vs) ∧ DpAll X.K G2 vs acc ∧ G2 D = none ∧ acc.length ≤ i ∧  Res Γ.We (compP (fun d => un d >>= fun t => mt t >>= fun b => if b then me t >>= fun x => .ok (some x) else .ok none) (ds.drop i) ) (fun t => ∀ v G' H', Same G G' → Cfg Γ G' ρ ms cs σ H' → Kept H H' → RL X.K H G' H' v (acc ++ t) → Q v H'))
    ?h0 ?hG ?hs ?hd
  case h0 =>
    refine ⟨G1, [], [],  Same.refl _, c1.mut gD nD oD,  (same_new hD), upd_same, .nil, gD, Nat.le_refl _,  ?_⟩
    exact hr
  case hG =>
    rintro i H' hi' ⟨G2, vs, acc,  s2, c2, k2, hl, hd, gd, ln, r2⟩
    exact w1 G2 H' s2 c2.ex (hk ds emi _ _ c2.cells)
  case hd =>
    rintro H' ⟨G2, vs, acc,  s2, c2, k2, hl, hd, gd, ln, r2⟩
    rw [List.drop_length] at r2
    exact r2 (.ref D) G2 H' (gg1.trans s2) c2 (Same.trans st k2) ⟨D, vs, rfl, hH, gd, hl, by rw [List.append_nil]; exact hd⟩
  case hs =>
    rintro i x H2 H3 hi' ⟨G2, vs, acc,  s2, c2, k2, hl, hd, gd, ln, r2⟩ y
    obtain ⟨k3, d, G3, ed, s3, x3, n3, dx⟩ := w2 i x H2 H3 G2 hi' s2 c2.ex (hk ds emi _ _ c2.cells) y
    have c3 := c2.keep s3 k3 x3 n3
    have gd3 : G3 D = none := n3 D _ hl gd
    have hl3 := k3 _ _ hl
    rw [drop_at ed] at r2
    have r3 := noErr_res (We' := fun _ _ => False) (Res.bind r2)
    have r4 := Res.bind r3
    have cw : Cfg (Gam.at (K := X.K) (mg := X.mg) G3 H3 ms) G3 (wipeR ρ (own.map (·.2))) ms cs (wipe σ (own.map (·.2))) H3 := c3.here.env' (env_wipe c3.env _)
    refine g2 (Gam.at G3 H3 ms) G3 _ ms cs _ H3 x d _ cw dx ?_
    rw [hu d]
    cases eu : un d with
    | bad => rw [eu] at r4; exact r4.elim
    | err z fs => rw [eu] at r4; exact r4
    | ok t =>
      rw [eu] at r4
      intro σ2 c4 hj hl2
      refine ⟨?_, ?_⟩
      · rw [wipe_same _ hj hl2]
        exact wipe_wipe _ _
      · have r5 := Res.bind (show Res (fun _ _ => False) (mt t  >>= fun b => if b then me t >>= fun x => .ok (some x) else .ok none) _ from r4)
        refine t2 t  (Gam.at G3 H3 ms) G3 σ2 H3 _ rfl c4 (r5.mono fun b r6 G4 H4 g4 c5 k4 => ?_)
        skip
        cases b with
        | false =>
          have hl4 := c5.grow.hh D _ nD hl3
          have gd4 := c5.grow.nw D _ hl3 gd3
          exact ⟨G4, vs, acc,  s2.trans (s3.trans g4), c3.rejoin rfl rfl rfl c5, k2.trans (k3.trans k4), hl4, dpa_mono (s3.trans g4) hd, gd4, Nat.le_succ_of_le ln, Res.bind r6⟩
        | true =>
          have r7 := Res.bind (show Res (fun _ _ => False) (me t  >>= fun x => .ok (some x)) _ from r6)
          refine e2 t  (Gam.at G3 H3 ms) G4 σ2 H4 _ rfl c5 (r7.mono fun z r8 v5 G5 H5 g5 c6 k5 dv => ?_)
          skip
          have hl5 := c6.grow.hh D _ nD hl3
          have gd5 := c6.grow.nw D _ hl3 gd3
          have hlen : vs.length < sizeLine := by
            have hi2 : i < ds.length := hi'
            rw [dpa_len hd]
            omega
          refine ⟨vs, hl5, hlen, G5, vs ++ [v5], acc ++ [z],  s2.trans (s3.trans (g4.trans g5)), (c3.rejoin rfl rfl rfl c6).mut gd5 nD oD, fun b o hb => by rw [upd_ne (ne_of_none hb hD)]; exact k5 _ _ (k4 _ _ (k3 _ _ (k2 _ _ hb))), upd_same, dpa_append (dpa_mono (s3.trans (g4.trans g5)) hd) (.cons dv .nil), gd5, by rw [List.length_append]; show acc.length + 1 ≤ i + 1; omega, ?_⟩
          have r9 := Res.bind (show Res Γ.We (compP (fun d => un d >>= fun t => mt t >>= fun b => if b then me t >>= fun x => .ok (some x) else .ok none) (ds.drop (i + 1))  >>= fun t => .ok (optC (some z) t)) _ from r8)
          refine r9.mono fun t h v G' H' a1 a2 a3 a4 => h v G' H' a1 a2 a3 ?_
          rw [List.append_assoc] at a4
          exact a4
/-- the parts of a comprehension, told together -/
def LCX (X : Cx) (W : XK) (scope : Scope) (own : List (Str × Nat)) (tg iter : Expr) (ifs : List Expr) (elt : Expr) (ρ : Rho) (ms : List Addr) (cs : List CO) (m : Out (List PD × List CO)) : Prop :=
  ∃ wi g tt te, PI X tg iter wi ∧ (∀ s H C cl fp, PG (Blk X scope s H C cl fp) tg g) ∧ (∀ s H C cl fp, PTs (Blk X scope s H C cl fp) ifs tt) ∧ (∀ s H C cl fp, PE (Blk X scope s H C cl fp) elt te) ∧ SemX X.K X.mg W (tLc wi g tt te (own.map (·.2))) (RL X.K) ρ ms cs m
theorem lc_ofX {ι : Type} {un : PD → Out ι} {ρf : ι → Rho} {u : PD → Rho → Out Rho} {Keep : List PD → Hp → Hp → Prop} {mi : Out (List PD × List CO)} {mt : ι → List CO → Out (Bool × List CO)} {me : ι → List CO → Out (PD × List CO)}
    (hi : IX X W false tg iter ρ ms cs Keep mi) (hg : ∀ s H C cl fp, TgOk (Blk X scope s H C cl fp) tg (own.map (·.2)) u) (hu : ∀ d, u d (wipeR ρ (own.map (·.2))) = (un d >>= fun t => .ok (ρf t)))
    (ht : ∀ s H C cl fp t cs1, TsX (Blk X scope s H C cl fp) E0 ifs (ρf t) ms cs1 (mt t cs1)) (he : ∀ s H C cl fp t cs1, EX (Blk X scope s H C cl fp) E0 (RD X.K) elt (ρf t) ms cs1 (me t cs1)) (hk : ∀ ds G H, Keep ds G H) :
    LCX X W scope own tg iter ifs elt ρ ms cs (mi >>= fun ds => lineD ds.1 >>= fun dd => compX (fun d cs1 => un d >>= fun t => mt t cs1 >>= fun b => if b.1 then me t b.2 >>= fun x => .ok (some x.1, x.2) else .ok (none, b.2)) dd ds.2) := by
  obtain ⟨wi, i1, i2⟩ := hi
  obtain ⟨g, g1, g2⟩ := blk_tg hg
  obtain ⟨tt, t1, t2⟩ := blk_ttX ht
  obtain ⟨te, e1, e2⟩ := blk_teX he
  refine ⟨wi, g, tt, te, i1, g1, t1, e1, fun Γ G σ H Q hw c hr => i2 Γ G σ H _ hw c ?_⟩
  cases emi : mi with
  | bad => rw [emi] at hr; exact hr.elim
  | err z fs => rw [emi] at hr; exact hr
  | ok dsc =>
  obtain ⟨ds, cs1⟩ := dsc
  rw [emi] at hr
  have hr : Res Γ.We (lineD ds >>= fun dd => compX (fun d cs1 => un d >>= fun t => mt t cs1 >>= fun b => if b.1 then me t b.2 >>= fun x => .ok (some x.1, x.2) else .ok (none, b.2)) dd cs1) _ := hr
  intro J G1 H1 gg1 c1 st it D hD
  obtain ⟨Gp, Y, w, w1, w2⟩ := it
  by_cases hz : ds.length ≤ sizeLine
  case neg => rw [lineD, if_neg hz] at hr; exact hr.elim
  rw [lineD_ok hz] at hr
  have gD : G1 D = none := There.free (Kept.there c1.ex) hD
  obtain ⟨nD, oD⟩ := fresh_ok c1 hD
  have hH : H D = none := There.free (Stay.there (pu := false) st) hD
  refine lc_it w (Qd := fun H' => Q (.ref D) H') (fun i H' => ∃ G2 vs acc cs2, Same G1 G2 ∧ Cfg Γ G2 ρ ms cs2 σ H' ∧ There H1 H' ∧ H' D = some (.lst vs) ∧ DpAll X.K G2 vs acc ∧ G2 D = none ∧ acc.length ≤ i ∧  Res Γ.We (compX (fun d cs1 => un d >>= fun t => mt t cs1 >>= fun b => if b.1 then me t b.2 >>= fun x => .ok (some x.1, x.2) else .ok (none, b.2)) (ds.drop i) cs2) (fun t => ∀ v G' H', Same G G' → Cfg Γ G' ρ ms t.2 σ H' → There H H' → RL X.K H G' H' v (acc ++ t.1) → Q v H'))
    ?h0 ?hG ?hs ?hd
  case h0 =>
    refine ⟨G1, [], [], cs1,  Same.refl _, c1.mut gD nD oD, Kept.there (same_new hD), upd_same, .nil, gD, Nat.le_refl _,  ?_⟩
    exact hr
  case hG =>
    rintro i H' hi' ⟨G2, vs, acc, cs2, s2, c2, k2, hl, hd, gd, ln, r2⟩
    exact w1 G2 H' s2 c2.ex (hk ds _ _)
  case hd =>
    rintro H' ⟨G2, vs, acc, cs2, s2, c2, k2, hl, hd, gd, ln, r2⟩
    rw [List.drop_length] at r2
    exact r2 (.ref D) G2 H' (gg1.trans s2) c2 (There.trans st k2) ⟨D, vs, rfl, hH, gd, hl, by rw [List.append_nil]; exact hd⟩
  case hs =>
    rintro i x H2 H3 hi' ⟨G2, vs, acc, cs2, s2, c2, k2, hl, hd, gd, ln, r2⟩ y
    obtain ⟨k3, d, G3, ed, s3, x3, n3, dx⟩ := w2 i x H2 H3 G2 hi' s2 c2.ex (hk ds _ _) y
    have c3 := c2.keep s3 k3 x3 n3
    have gd3 : G3 D = none := n3 D _ hl gd
    have hl3 := k3 _ _ hl
    rw [drop_at ed] at r2
    have r3 := noErr_res (We' := fun _ _ => False) (Res.bind r2)
    have r4 := Res.bind r3
    have cw : Cfg (Gam.at (K := X.K) (mg := X.mg) G3 H3 ms) G3 (wipeR ρ (own.map (·.2))) ms cs2 (wipe σ (own.map (·.2))) H3 := c3.here.env' (env_wipe c3.env _)
    refine g2 (Gam.at G3 H3 ms) G3 _ ms cs2 _ H3 x d _ cw dx ?_
    rw [hu d]
    cases eu : un d with
    | bad => rw [eu] at r4; exact r4.elim
    | err z fs => rw [eu] at r4; exact r4
    | ok t =>
      rw [eu] at r4
      intro σ2 c4 hj hl2
      refine ⟨?_, ?_⟩
      · rw [wipe_same _ hj hl2]
        exact wipe_wipe _ _
      · have r5 := Res.bind (show Res (fun _ _ => False) (mt t cs2 >>= fun b => if b.1 then me t b.2 >>= fun x => .ok (some x.1, x.2) else .ok (none, b.2)) _ from r4)
        refine t2 t cs2 (Gam.at G3 H3 ms) G3 σ2 H3 _ rfl c4 (r5.mono fun b r6 G4 H4 g4 c5 k4 => ?_)
        obtain ⟨b, cs5⟩ := b
        cases b with
        | false =>
          have hl4 := c5.grow.hh D _ nD hl3
          have gd4 := c5.grow.nw D _ hl3 gd3
          exact ⟨G4, vs, acc, cs5,  s2.trans (s3.trans g4), c3.rejoin rfl rfl rfl c5, k2.trans (There.trans (Kept.there k3) k4), hl4, dpa_mono (s3.trans g4) hd, gd4, Nat.le_succ_of_le ln, Res.bind r6⟩
        | true =>
          have r7 := Res.bind (show Res (fun _ _ => False) (me t cs5 >>= fun x => .ok (some x.1, x.2)) _ from r6)
          refine e2 t cs5 (Gam.at G3 H3 ms) G4 σ2 H4 _ rfl c5 (r7.mono fun z r8 v5 G5 H5 g5 c6 k5 dv => ?_)
          obtain ⟨z1, cs6⟩ := z
          have hl5 := c6.grow.hh D _ nD hl3
          have gd5 := c6.grow.nw D _ hl3 gd3
          have hlen : vs.length < sizeLine := by
            have hi2 : i < ds.length := hi'
            rw [dpa_len hd]
            omega
          refine ⟨vs, hl5, hlen, G5, vs ++ [v5], acc ++ [z1], cs6,  s2.trans (s3.trans (g4.trans g5)), (c3.rejoin rfl rfl rfl c6).mut gd5 nD oD, fun b o hb => by rw [upd_ne (ne_of_none hb hD)]; exact k2.trans (There.trans (Kept.there k3) (k4.trans k5)) b o hb, upd_same, dpa_append (dpa_mono (s3.trans (g4.trans g5)) hd) (.cons dv .nil), gd5, by rw [List.length_append]; show acc.length + 1 ≤ i + 1; omega, ?_⟩
          have r9 := Res.bind (show Res Γ.We (compX (fun d cs1 => un d >>= fun t => mt t cs1 >>= fun b => if b.1 then me t b.2 >>= fun x => .ok (some x.1, x.2) else .ok (none, b.2)) (ds.drop (i + 1)) cs6 >>= fun t => .ok (optC (some z1) t.1, t.2)) _ from r8)
          refine r9.mono fun t h v G' H' a1 a2 a3 a4 => h v G' H' a1 a2 a3 ?_
          rw [List.append_assoc] at a4
          exact a4
theorem el_lc {m : Out (List PD)} (hc : X.calm = true) (hN : X.N.Nodup) (ok : BlkOk X.N X.env.scope scope own) (h : LCP X W scope own tg iter ifs elt ρ ms cs m) (hs : ∀ x, foldedSetIterable iter X.env x = pure x := by intro _; rfl) :
    EP X W (RL X.K) (.ListComp elt [⟨tg, iter, ifs, 0⟩] scope pos) ρ ms cs m := by
  obtain ⟨wi, g, tt, te, h1, h2, h3, h4, h5⟩ := h
  exact ⟨_, pe_lc hc hN h1 ok (fun s H C cl fp => h2 s H C cl fp) (fun s H C cl fp => h3 s H C cl fp) (fun s H C cl fp => h4 s H C cl fp) hs, h5⟩
theorem xl_lc {m : Out (List PD × List CO)} (hc : X.calm = true) (hN : X.N.Nodup) (ok : BlkOk X.N X.env.scope scope own) (h : LCX X W scope own tg iter ifs elt ρ ms cs m) (hs : ∀ x, foldedSetIterable iter X.env x = pure x := by intro _; rfl) :
    EX X W (RL X.K) (.ListComp elt [⟨tg, iter, ifs, 0⟩] scope pos) ρ ms cs m := by
  obtain ⟨wi, g, tt, te, h1, h2, h3, h4, h5⟩ := h
  exact ⟨_, pe_lc hc hN h1 ok (fun s H C cl fp => h2 s H C cl fp) (fun s H C cl fp => h3 s H C cl fp) (fun s H C cl fp => h4 s H C cl fp) hs, h5⟩
end
end Dd
set_option Elab.async false
set_option linter.all false
set_option maxRecDepth 100000
set_option maxHeartbeats 2000000
namespace Dd
open PySem PySem.Spec PyProof.Rows L2
/-- how a block ends: behind it, with a return, a break, a continue -/
inductive Ctl (N R L : Type) where
  | nx (n : N) | rt (r : R) | bk (l : L) | ct (l : L)
/-- a choice of cells' addresses -/
abbrev As := Nat → Addr
abbrev Sta := As → Rho × List Addr × List CO
/-- what follows, by the end -/
def After {K : PySem.W.Frag} {mg : Str → Option Value} (Γ : Gam K mg) {N R L : Type} (nf : N → Sta) (lf : L → Sta) (RR : VR R) (rf : R → List CO) (D : Ends) (G H : Hp) : Ctl N R L → Prop
  | .nx n => ∀ as σ' G' H', Same G G' → There H H' → Cfg Γ G' (nf n as).1 (nf n as).2.1 (nf n as).2.2 σ' H' → D.nx σ' H'
  | .bk n => ∀ as σ' G' H', Same G G' → There H H' → Cfg Γ G' (lf n as).1 (lf n as).2.1 (lf n as).2.2 σ' H' → D.bk σ' H'
  | .ct n => ∀ as σ' G' H', Same G G' → There H H' → Cfg Γ G' (lf n as).1 (lf n as).2.1 (lf n as).2.2 σ' H' → D.ct σ' H'
  | .rt r => ∀ v G' H', Same G G' → There H H' → Same G' H' → CellsOk K G' H' Γ.ms (rf r) → Grow Γ.ms Γ.G Γ.H G' H' → RR Γ.H G' H' v r → D.rt v H'
section
variable {K : PySem.W.Frag} {mg : Str → Option Value} {Γ : Gam K mg} {N R L : Type} {nf : N → Sta} {lf : L → Sta} {RR : VR R} {rf : R → List CO} {D : Ends} {G H G1 H1 : Hp}
theorem After.fwd {x : Ctl N R L} (h : After Γ nf lf RR rf D G H x) (g : Same G G1) (t : There H H1) : After Γ nf lf RR rf D G1 H1 x := by
  cases x with
  | nx n => exact fun as σ' G' H' a b c => h as σ' G' H' (g.trans a) (t.trans b) c
  | bk n => exact fun as σ' G' H' a b c => h as σ' G' H' (g.trans a) (t.trans b) c
  | ct n => exact fun as σ' G' H' a b c => h as σ' G' H' (g.trans a) (t.trans b) c
  | rt n => exact fun v G' H' a b => h v G' H' (g.trans a) (t.trans b)
end
/-- a block, told: from the slots ρ and the cells ms, cs it ends as m says -/
def SS {N R L : Type} (X : Cx) (W : XK) (m0 : List Addr) (RR : VR R) (rf : R → List CO) (nf : N → Sta) (lf : L → Sta) (st : List Stmt) (ρ : Rho) (ms : List Addr) (cs : List CO) (m : Out (Ctl N R L)) : Prop :=
  ∃ ts, PSs X st ts ∧ ∀ (Γ : Gam X.K X.mg) (G : Hp) (σ : L2.St) (H : Hp) (D : Ends), Γ.W = W → Γ.ms = m0 → Cfg Γ G ρ ms cs σ H → Res Γ.We m (fun c => After Γ nf lf RR rf D G H c) → ts D σ H
/-- one statement -/
def S1 {N R L : Type} (X : Cx) (W : XK) (m0 : List Addr) (RR : VR R) (rf : R → List CO) (nf : N → Sta) (lf : L → Sta) (st : Stmt) (ρ : Rho) (ms : List Addr) (cs : List CO) (m : Out (Ctl N R L)) : Prop :=
  ∃ ts, PS X st ts ∧ ∀ (Γ : Gam X.K X.mg) (G : Hp) (σ : L2.St) (H : Hp) (D : Ends), Γ.W = W → Γ.ms = m0 → Cfg Γ G ρ ms cs σ H → Res Γ.We m (fun c => After Γ nf lf RR rf D G H c) → ts D σ H
theorem cells_nd {K : PySem.W.Frag} {G H : Hp} {ms : List Addr} {cs : List CO} (h : CellsOk K G H ms cs) : ms.Nodup := by
  induction h with
  | nil => exact List.nodup_nil
  | cons _ _ n _ ih => exact List.nodup_cons.mpr ⟨n, ih⟩
theorem erase_ne {α : Type} : ∀ {ms : List α} {j : Nat} {a b : α}, ms.Nodup → ms[j]? = some a → b ∈ ms.eraseIdx j → b ≠ a
  | [], j, a, b, _, h, _ => by simp at h
  | x :: ms, 0, a, b, hn, h, hb => by
    simp at h hb
    subst h
    exact fun e => (List.nodup_cons.mp hn).1 (by rw [← e]; exact hb)
  | x :: ms, j + 1, a, b, hn, h, hb => by
    have hn' := List.nodup_cons.mp hn
    have h' : ms[j]? = some a := by simpa using h
    rw [List.eraseIdx_cons_succ] at hb
    rcases List.mem_cons.mp hb with e | hb
    · rw [e]; exact fun z => hn'.1 (by rw [z]; exact List.mem_of_getElem? h')
    · exact erase_ne hn'.2 h' hb
theorem cells_erase {K : PySem.W.Frag} {G G' H : Hp} {ms : List Addr} {cs : List CO} (h : CellsOk K G H ms cs) (e : Same G G') : ∀ {j : Nat} {ad : Addr}, ms[j]? = some ad → (∀ a ∈ ms, a ≠ ad → G' a = none) → CellsOk K G' H (ms.eraseIdx j) (cs.eraseIdx j) := by
  induction h with
  | nil => intro j ad h; simp at h
  | @cons a0 c0 ms cs g q n t ih =>
    intro j ad h f
    cases j with
    | zero =>
      simp at h
      subst h
      exact cells_to t e (fun a m => f a (List.mem_cons_of_mem _ m) fun z => n (by rw [← z]; exact m)) fun _ _ _ h => h
    | succ j =>
      have h' : ms[j]? = some ad := by simpa using h
      have ne : a0 ≠ ad := fun z => n (by rw [z]; exact List.mem_of_getElem? h')
      exact .cons (f a0 List.mem_cons_self ne) (cell_to q e fun _ h => h) (fun z => n (List.mem_of_mem_eraseIdx z)) (ih h' fun a m => f a (List.mem_cons_of_mem _ m))
/-- cells forgotten -/
inductive CDrop : List Addr → List CO → List Addr → List CO → Prop where
  | refl {ms : List Addr} {cs : List CO} : CDrop ms cs ms cs
  | drop {a : Addr} {c : CO} {ms ms' : List Addr} {cs cs' : List CO} : CDrop ms cs ms' cs' → CDrop (a :: ms) (c :: cs) ms' cs'
  | keep {a : Addr} {c : CO} {ms ms' : List Addr} {cs cs' : List CO} : CDrop ms cs ms' cs' → CDrop (a :: ms) (c :: cs) (a :: ms') (c :: cs')
  | pick (j : Nat) {a : Addr} {c : CO} {ms ms' : List Addr} {cs cs' : List CO} : ms[j]? = some a → cs[j]? = some c → CDrop (ms.eraseIdx j) (cs.eraseIdx j) ms' cs' → CDrop ms cs (a :: ms') (c :: cs')
section
variable {K : PySem.W.Frag} {mg : Str → Option Value} {Γ : Gam K mg} {G H : Hp} {ρ ρ' : Rho} {σ : L2.St} {ms ms' : List Addr} {cs cs' : List CO}
theorem CDrop.ok (d : CDrop ms cs ms' cs') (h : CellsOk K G H ms cs) : CellsOk K G H ms' cs' ∧ ∀ a ∈ ms', a ∈ ms := by
  induction d with
  | refl => exact ⟨h, fun _ m => m⟩
  | drop _ ih =>
    cases h with
    | cons _ _ _ t =>
      obtain ⟨h1, h2⟩ := ih t
      exact ⟨h1, fun a m => List.mem_cons_of_mem _ (h2 a m)⟩
  | keep _ ih =>
    cases h with
    | cons g q n t =>
      obtain ⟨h1, h2⟩ := ih t
      refine ⟨.cons g q (fun m => n (h2 _ m)) h1, fun a m => ?_⟩
      rcases List.mem_cons.mp m with e | m
      · rw [e]; exact List.mem_cons_self
      · exact List.mem_cons_of_mem _ (h2 a m)
  | pick j e1 e2 _ ih =>
    obtain ⟨g, q⟩ := cells_get h e1 e2
    have he := cells_erase h (Same.refl _) e1 (fun b m _ => (cells_mem h m).1)
    obtain ⟨h1, h2⟩ := ih he
    refine ⟨.cons g q (fun m => erase_ne (cells_nd h) e1 (h2 _ m) rfl) h1, fun b m => ?_⟩
    rcases List.mem_cons.mp m with e | m
    · rw [e]; exact List.mem_of_getElem? e1
    · exact List.mem_of_mem_eraseIdx (h2 b m)
theorem Cfg.drop (c : Cfg Γ G ρ ms cs σ H) (d : CDrop ms cs ms' cs') (r : RLe ρ' ρ) : Cfg Γ G ρ' ms' cs' σ H := by
  obtain ⟨h1, h2⟩ := d.ok c.cells
  exact ⟨c.ex, h1, env_le r c.env, c.grow, fun a m => c.loc a (h2 a m)⟩
theorem cells_set (h : CellsOk K G H ms cs) : ∀ {j : Nat} {a : Addr} {c' : CO} {o : HO}, ms[j]? = some a → CellOk K G (upd H a o) a c' → CellsOk K G (upd H a o) ms (cs.set j c') := by
  induction h with
  | nil => intro j a c' o e; simp at e
  | @cons a0 c0 ms cs g q n t ih =>
    intro j a c' o e k
    cases j with
    | zero =>
      simp at e
      subst e
      refine .cons g k n (cells_to t (Same.refl _) (fun b m => (cells_mem t m).1) fun b m o' h => ?_)
      rw [upd_ne (fun z => n (by rw [← z]; exact m))]
      exact h
    | succ j =>
      have e' : ms[j]? = some a := by simpa using e
      have ne : a0 ≠ a := fun z => n (by rw [z]; exact List.mem_of_getElem? e')
      refine .cons g (cell_to q (Same.refl _) fun o' h => by rw [upd_ne ne]; exact h) n (ih e' k)
/-- a cell is written -/
theorem Cfg.write (c : Cfg Γ G ρ ms cs σ H) {j : Nat} {a : Addr} {c' : CO} {o : HO} (h1 : ms[j]? = some a) (h : CellOk K G (upd H a o) a c') : Cfg Γ G ρ ms (cs.set j c') σ (upd H a o) := by
  have m := List.mem_of_getElem? h1
  obtain ⟨g, oo, hh⟩ := cells_mem c.cells m
  refine ⟨fun b x e => ?_, cells_set c.cells h1 h, c.env, ⟨c.grow.gg, fun b x nb hb => ?_, fun b x hb => ?_, c.grow.nw⟩, c.loc⟩
  · rw [upd_ne (ne_of_none e g)]
    exact c.ex b x e
  · have q := c.grow.hh b x nb hb
    by_cases hba : b = a
    · subst hba
      rcases c.loc b m with z | z
      · exact (nb z).elim
      · rw [z] at hb; cases hb
    · rw [upd_ne hba]
      exact q
  · by_cases hba : b = a
    · subst hba
      exact ⟨o, upd_same⟩
    · rw [upd_ne hba]
      exact c.grow.th b x hb
theorem there_upd {H : Hp} {a : Addr} {o : HO} : There H (upd H a o) := fun b x hb => by
  by_cases hba : b = a
  · subst hba
    exact ⟨o, upd_same⟩
  · rw [upd_ne hba]
    exact ⟨x, hb⟩
/-- a new list becomes a cell -/
theorem Cfg.cell (c : Cfg Γ G ρ ms cs σ H) {p : Addr} {vs : List V} {ds : List PD} (g : G p = none) (n : p ∉ ms) (n0 : Γ.H p = none) (hp : H p = some (.lst vs)) (hd : DpAll K G vs ds) : Cfg Γ G ρ (p :: ms) (.l ds :: cs) σ H :=
  ⟨c.ex, .cons g ⟨vs, hp, hd⟩ n c.cells, c.env, c.grow, fun a m => by
    rcases List.mem_cons.mp m with z | z
    · subst z; exact .inr n0
    · exact c.loc a z⟩
end
section
variable {X : Cx} {W : XK} {m0 : List Addr} {N R L N1 : Type} {RR : VR R} {rf : R → List CO} {nf : N → Sta} {nf1 : N1 → Sta} {lf : L → Sta} {st : Stmt} {rest body sa sb : List Stmt} {e c tg iter : Expr} {ρ ρ' : Rho} {ms ms' : List Addr} {cs cs' : List CO} {pos p p2 : Pos}
theorem ss_one {m : Out (Ctl N R L)} (h : S1 X W m0 RR rf nf lf st ρ ms cs m) : SS X W m0 RR rf nf lf [st] ρ ms cs m := by
  obtain ⟨t, h1, h2⟩ := h
  exact ⟨t, pss_one h1, h2⟩
def seqC (k : N1 → Out (Ctl N R L)) : Ctl N1 R L → Out (Ctl N R L)
  | .nx n => k n
  | .rt r => .ok (.rt r)
  | .bk l => .ok (.bk l)
  | .ct l => .ok (.ct l)
theorem pss_all {ι : Type} {t : ι → TS} (h : ∀ i, PSs X rest (t i)) : PSs X rest (fun D σ H => ∃ i, t i D σ H) := ⟨fun pins s σ H D I hw => by
  obtain ⟨i, hw⟩ := hw
  exact (h i).run pins s σ H D I hw⟩
theorem ss_seq {m : Out (Ctl N1 R L)} {k : N1 → Out (Ctl N R L)} (h : S1 X W m0 RR rf nf1 lf st ρ ms cs m) (hk : ∀ n as, SS X W m0 RR rf nf lf rest (nf1 n as).1 (nf1 n as).2.1 (nf1 n as).2.2 (k n)) : SS X W m0 RR rf nf lf (st :: rest) ρ ms cs (m >>= seqC k) := by
  obtain ⟨t, h1, h2⟩ := h
  refine ⟨_, pss_cons h1 (pss_all (t := fun (n : N1 × As) => (hk n.1 n.2).choose) fun n => (hk n.1 n.2).choose_spec.1), fun Γ G σ H D hw hm c hr => h2 Γ G σ H _ hw hm c (hr.bind.mono fun x r => ?_)⟩
  cases x with
  | nx n => exact fun as σ' G' H' a b c' => ⟨(n, as), (hk n as).choose_spec.2 Γ G' σ' H' D hw hm c' (Res.mono (show Res Γ.We (k n) _ from r) fun y q => q.fwd a b)⟩
  | rt z => exact r
  | bk l => exact r
  | ct l => exact r
theorem ss_nil {n : N} (as : As) (h : nf n as = (ρ', ms', cs')) (d : CDrop ms cs ms' cs') (r : RLe ρ' ρ) : SS X W m0 RR rf nf lf [] ρ ms cs (.ok (.nx n)) := by
  refine ⟨_, pss_nil, fun Γ G σ H D hw hm c hr => ?_⟩
  have q := (show ∀ as σ' G' H', Same G G' → There H H' → Cfg Γ G' (nf n as).1 (nf n as).2.1 (nf n as).2.2 σ' H' → D.nx σ' H' from hr) as
  rw [h] at q
  exact q σ G H (Same.refl _) (Kept.there (Same.refl _)) (c.drop d r)
theorem ss_brk {n : L} (as : As) (h : lf n as = (ρ', ms', cs')) (d : CDrop ms cs ms' cs') (r : RLe ρ' ρ) : SS X W m0 RR rf nf lf (.Break pos :: rest) ρ ms cs (.ok (.bk n)) := by
  refine ⟨_, pss_cons ps_break pss_never, fun Γ G σ H D hw hm c hr => ?_⟩
  have q := (show ∀ as σ' G' H', Same G G' → There H H' → Cfg Γ G' (lf n as).1 (lf n as).2.1 (lf n as).2.2 σ' H' → D.bk σ' H' from hr) as
  rw [h] at q
  exact q σ G H (Same.refl _) (Kept.there (Same.refl _)) (c.drop d r)
theorem ss_cont {n : L} (as : As) (h : lf n as = (ρ', ms', cs')) (d : CDrop ms cs ms' cs') (r : RLe ρ' ρ) : SS X W m0 RR rf nf lf (.Continue pos :: rest) ρ ms cs (.ok (.ct n)) := by
  refine ⟨_, pss_cons ps_continue pss_never, fun Γ G σ H D hw hm c hr => ?_⟩
  have q := (show ∀ as σ' G' H', Same G G' → There H H' → Cfg Γ G' (lf n as).1 (lf n as).2.1 (lf n as).2.2 σ' H' → D.ct σ' H' from hr) as
  rw [h] at q
  exact q σ G H (Same.refl _) (Kept.there (Same.refl _)) (c.drop d r)
theorem ss_pass {m : Out (Ctl N R L)} (h : SS X W m0 RR rf nf lf rest ρ ms cs m) : SS X W m0 RR rf nf lf (.Pass pos :: rest) ρ ms cs m := by
  obtain ⟨t, h1, h2⟩ := h
  exact ⟨_, pss_cons ps_pass h1, fun Γ G σ H D hw hm c hr => h2 Γ G σ H D hw hm c hr⟩
/-! ### return -/
theorem ss_retX {β : Type} {R0 : VR β} {m : Out (β × List CO)} {mk : β → List CO → R} (h : EX X W R0 e ρ ms cs m) (hr1 : ∀ d cs1, CDrop ms cs1 m0 (rf (mk d cs1))) (hr2 : ∀ H0 H1 G H v d cs1, There H0 H1 → R0 H1 G H v d → RR H0 G H v (mk d cs1)) :
    SS X W m0 RR rf nf lf (.Return (some e) pos :: rest) ρ ms cs (m >>= fun x => .ok (.rt (mk x.1 x.2))) := by
  obtain ⟨t, h1, h2⟩ := h
  refine ⟨_, pss_cons (ps_ret h1) pss_never, fun Γ G σ H D hw hm c hr => h2 Γ G σ H _ hw c (hr.bind.mono fun x k v G1 H1 g1 c1 t1 r1 => ?_)⟩
  refine k v G1 H1 g1 t1 c1.ex ?_ c1.grow (hr2 _ _ _ _ _ _ _ (fun a o z => c.grow.th a o z) r1)
  rw [hm]
  exact ((hr1 x.1 x.2).ok c1.cells).1
theorem ss_ret {β : Type} {R0 : VR β} {m : Out β} {mk : β → R} (h : EP X W R0 e ρ ms cs m) (hr1 : ∀ d, CDrop ms cs m0 (rf (mk d))) (hr2 : ∀ H0 H1 G H v d, There H0 H1 → R0 H1 G H v d → RR H0 G H v (mk d)) :
    SS X W m0 RR rf nf lf (.Return (some e) pos :: rest) ρ ms cs (m >>= fun x => .ok (.rt (mk x))) := by
  obtain ⟨t, h1, h2⟩ := h
  refine ⟨_, pss_cons (ps_ret h1) pss_never, fun Γ G σ H D hw hm c hr => h2 Γ G σ H _ hw c (hr.bind.mono fun x k v G1 H1 g1 c1 t1 r1 => ?_)⟩
  refine k v G1 H1 g1 t1.there c1.ex ?_ c1.grow (hr2 _ _ _ _ _ _ (fun a o z => c.grow.th a o z) r1)
  rw [hm]
  exact ((hr1 x).ok c1.cells).1
theorem ss_retN {r : R} (hr1 : CDrop ms cs m0 (rf r)) (hr2 : ∀ H0 G H, RR H0 G H .non r) : SS X W m0 RR rf nf lf (.Return none pos :: rest) ρ ms cs (.ok (.rt r)) := by
  refine ⟨_, pss_cons ps_retN pss_never, fun Γ G σ H D hw hm c hr => ?_⟩
  refine hr .non G H (Same.refl _) (Kept.there (Same.refl _)) c.ex ?_ c.grow (hr2 _ _ _)
  rw [hm]
  exact (hr1.ok c.cells).1
/-- a local list is handed back: as a new list -/
theorem ss_retC (i j : Nat) {x : Str} {ad : Addr} {ds : List PD} {r : R} (hr1 : CDrop ms cs m0 (rf r)) (hr2 : ∀ H0 G H v, RL X.K H0 G H v ds → RR H0 G H v r) (hn : ∀ b ∈ m0, b ∈ ms.eraseIdx j) (h : ρ[i]? = some (some (.c ad)) := by rfl) (h1 : ms[j]? = some ad := by rfl) (h2 : cs[j]? = some (.l ds) := by rfl) (hN : X.N[i]? = some x := by rfl)
    (hv : Vis X.env.scope x := by first | exact Or.inl rfl | exact Or.inr (Or.inl rfl) | exact Or.inr (Or.inr rfl)) (hd : (x == ("__debug__" : Str)) = false := by decide) (hcd : (x == ("__classdict__" : Str)) = false := by decide) :
    SS X W m0 RR rf nf lf (.Return (some (.Name x p)) pos :: rest) ρ ms cs (.ok (.rt r)) := by
  refine ⟨_, pss_cons (ps_ret (pe_var hN hv hd hcd)) pss_never, fun Γ G σ H D hw hm c hr => ?_⟩
  obtain ⟨v, h3, h4⟩ := env_get c.env h
  obtain ⟨g, vs, h5, h6⟩ := cells_get c.cells h1 h2
  have n0 : Γ.H ad = none := by
    rcases c.loc ad (List.mem_of_getElem? h1) with z | z
    · rw [hm] at z; exact (erase_ne (cells_nd c.cells) h1 (hn ad z) rfl).elim
    · exact z
  refine ⟨v, h3, hr v G H (Same.refl _) (Kept.there (Same.refl _)) c.ex ?_ c.grow (hr2 _ _ _ _ ⟨ad, vs, h4, n0, g, h5, h6⟩)⟩
  rw [hm]
  exact (hr1.ok c.cells).1
/-! ### assignments -/
theorem ss_asg (i : Nat) {x : Str} {m : Out PD} {k : PD → Out (Ctl N R L)} (hN : X.N.Nodup) (h : EP X W (RD X.K) e ρ ms cs m) (hk : ∀ d, SS X W m0 RR rf nf lf rest (ρ.set i (some (.d d))) ms cs (k d)) (hi : X.N[i]? = some x := by rfl) (hx : Loc X.env.scope x := by first | exact Or.inl rfl | exact Or.inr rfl)
    (hs : swapsWith e (some (.Name x p)) pos.line X.env = pure false := by rfl) (hf : X.fn x = true ∨ X.env.scope.names.lookup x = some .local := by first | exact .inl rfl | exact .inr rfl) :
    SS X W m0 RR rf nf lf (.Assign [.Name x p] e pos :: rest) ρ ms cs (m >>= fun d => k d) := by
  obtain ⟨t, h1, h2⟩ := h
  refine ⟨_, pss_cons (ps_set hN hi hx h1 hs hf) (pss_all (t := fun n => (hk n).choose) fun n => (hk n).choose_spec.1), fun Γ G σ H D hw hm c hr => h2 Γ G σ H _ hw c (hr.bind.mono fun d q v G1 H1 g1 c1 k1 r1 => ?_)⟩
  exact ⟨d, (hk d).choose_spec.2 Γ G1 _ H1 D hw hm (c1.env' (env_set c1.env (av := .d d) r1 i)) (q.mono fun y z => z.fwd g1 k1.there)⟩
theorem ss_asgX (i : Nat) {x : Str} {m : Out (PD × List CO)} {k : PD → List CO → Out (Ctl N R L)} (hN : X.N.Nodup) (h : EX X W (RD X.K) e ρ ms cs m) (hk : ∀ d cs1, SS X W m0 RR rf nf lf rest (ρ.set i (some (.d d))) ms cs1 (k d cs1)) (hi : X.N[i]? = some x := by rfl) (hx : Loc X.env.scope x := by first | exact Or.inl rfl | exact Or.inr rfl)
    (hs : swapsWith e (some (.Name x p)) pos.line X.env = pure false := by rfl) (hf : X.fn x = true ∨ X.env.scope.names.lookup x = some .local := by first | exact .inl rfl | exact .inr rfl) :
    SS X W m0 RR rf nf lf (.Assign [.Name x p] e pos :: rest) ρ ms cs (m >>= fun d => k d.1 d.2) := by
  obtain ⟨t, h1, h2⟩ := h
  refine ⟨_, pss_cons (ps_set hN hi hx h1 hs hf) (pss_all (t := fun (n : PD × List CO) => (hk n.1 n.2).choose) fun n => (hk n.1 n.2).choose_spec.1), fun Γ G σ H D hw hm c hr => h2 Γ G σ H _ hw c (hr.bind.mono fun d q v G1 H1 g1 c1 k1 r1 => ?_)⟩
  exact ⟨d, (hk d.1 d.2).choose_spec.2 Γ G1 _ H1 D hw hm (c1.env' (env_set c1.env (av := .d d.1) r1 i)) (q.mono fun y z => z.fwd g1 k1)⟩
/-- a new list becomes a cell -/
theorem ss_asgC (i : Nat) {x : Str} {m : Out (List PD)} {k : List PD → Out (Ctl N R L)} (hN : X.N.Nodup) (h : EP X W (RL X.K) e ρ ms cs m) (hk : ∀ a ds, (∀ b ∈ m0, b ≠ a) → SS X W m0 RR rf nf lf rest (ρ.set i (some (.c a))) (a :: ms) (.l ds :: cs) (k ds)) (hi : X.N[i]? = some x := by rfl) (hx : Loc X.env.scope x := by first | exact Or.inl rfl | exact Or.inr rfl)
    (hs : swapsWith e (some (.Name x p)) pos.line X.env = pure false := by rfl) (hf : X.fn x = true ∨ X.env.scope.names.lookup x = some .local := by first | exact .inl rfl | exact .inr rfl) (hm0 : ∀ b ∈ m0, b ∈ ms := by simp) :
    SS X W m0 RR rf nf lf (.Assign [.Name x p] e pos :: rest) ρ ms cs (m >>= fun d => k d) := by
  obtain ⟨t, h1, h2⟩ := h
  refine ⟨_, pss_cons (ps_set hN hi hx h1 hs hf) (pss_all (t := fun (n : { a : Addr // ∀ b ∈ m0, b ≠ a } × List PD) => (hk n.1.1 n.2 n.1.2).choose) fun n => (hk n.1.1 n.2 n.1.2).choose_spec.1), fun Γ G σ H D hw hm c hr => h2 Γ G σ H _ hw c (hr.bind.mono fun d q v G1 H1 g1 c1 k1 r1 => ?_)⟩
  obtain ⟨a, vs, rfl, h0, ga, ha, hd⟩ := r1
  obtain ⟨n1, n2⟩ := fresh_ok c h0
  have nm : ∀ b ∈ m0, b ≠ a := fun b hb z => n1 (by rw [← z]; exact hm0 b hb)
  exact ⟨(⟨a, nm⟩, d), (hk a d nm).choose_spec.2 Γ G1 _ H1 D hw hm ((c1.cell ga n1 n2 ha hd).env' (env_set c1.env (av := .c a) rfl i)) (q.mono fun y z => z.fwd g1 k1.there)⟩
theorem ss_asgCX (i : Nat) {x : Str} {m : Out (List PD × List CO)} {k : List PD → List CO → Out (Ctl N R L)} (hN : X.N.Nodup) (h : EX X W (RL X.K) e ρ ms cs m) (hk : ∀ a ds cs1, (∀ b ∈ m0, b ≠ a) → SS X W m0 RR rf nf lf rest (ρ.set i (some (.c a))) (a :: ms) (.l ds :: cs1) (k ds cs1)) (hi : X.N[i]? = some x := by rfl) (hx : Loc X.env.scope x := by first | exact Or.inl rfl | exact Or.inr rfl)
    (hs : swapsWith e (some (.Name x p)) pos.line X.env = pure false := by rfl) (hf : X.fn x = true ∨ X.env.scope.names.lookup x = some .local := by first | exact .inl rfl | exact .inr rfl) (hm0 : ∀ b ∈ m0, b ∈ ms := by simp) :
    SS X W m0 RR rf nf lf (.Assign [.Name x p] e pos :: rest) ρ ms cs (m >>= fun d => k d.1 d.2) := by
  obtain ⟨t, h1, h2⟩ := h
  refine ⟨_, pss_cons (ps_set hN hi hx h1 hs hf) (pss_all (t := fun (n : { a : Addr // ∀ b ∈ m0, b ≠ a } × List PD × List CO) => (hk n.1.1 n.2.1 n.2.2 n.1.2).choose) fun n => (hk n.1.1 n.2.1 n.2.2 n.1.2).choose_spec.1), fun Γ G σ H D hw hm c hr => h2 Γ G σ H _ hw c (hr.bind.mono fun d q v G1 H1 g1 c1 k1 r1 => ?_)⟩
  obtain ⟨a, vs, rfl, h0, ga, ha, hd⟩ := r1
  obtain ⟨n1, n2⟩ := fresh_ok c h0
  have nm : ∀ b ∈ m0, b ≠ a := fun b hb z => n1 (by rw [← z]; exact hm0 b hb)
  exact ⟨(⟨a, nm⟩, d.1, d.2), (hk a d.1 d.2 nm).choose_spec.2 Γ G1 _ H1 D hw hm ((c1.cell ga n1 n2 ha hd).env' (env_set c1.env (av := .c a) rfl i)) (q.mono fun y z => z.fwd g1 k1)⟩
/-- a cell is known from here on: its list is data -/
def frzR (a : Addr) (ds : List PD) (ρ : Rho) : Rho := ρ.map fun o => match o with
  | some (.c b) => if b = a then some (.d (.list ds)) else some (.c b)
  | o => o
/-! ### an expression alone; if -/
theorem ss_dropX {β : Type} {R0 : VR β} {m : Out (β × List CO)} {k : List CO → Out (Ctl N R L)} (h : EX X W R0 e ρ ms cs m) (hk : ∀ cs1, SS X W m0 RR rf nf lf rest ρ ms cs1 (k cs1)) (hs : swapsWith e none pos.line X.env = pure false := by rfl) : SS X W m0 RR rf nf lf (.Expr e pos :: rest) ρ ms cs (m >>= fun d => k d.2) := by
  obtain ⟨t, h1, h2⟩ := h
  refine ⟨_, pss_cons (ps_expr h1 hs) (pss_all (t := fun n => (hk n).choose) fun n => (hk n).choose_spec.1), fun Γ G σ H D hw hm c hr => h2 Γ G σ H _ hw c (hr.bind.mono fun d q v G1 H1 g1 c1 k1 r1 => ?_)⟩
  exact ⟨d.2, (hk d.2).choose_spec.2 Γ G1 _ H1 D hw hm c1 (q.mono fun y z => z.fwd g1 k1)⟩
/-- xs.append(e) -/
def appD (ds : List PD) (d : PD) : Out (List PD) := if ds.length < sizeLine then .ok (ds ++ [d]) else .bad
theorem ss_app (i j : Nat) {x : Str} {ad : Addr} {apos : Pos} {m : Out (PD × List CO)} {k : List CO → Out (Ctl N R L)} (h : EX X W (RD X.K) e ρ ms cs m) (hk : ∀ cs1, SS X W m0 RR rf nf lf rest ρ ms cs1 (k cs1)) (h3 : ρ[i]? = some (some (.c ad)) := by rfl) (h1 : ms[j]? = some ad := by rfl) (hN : X.N[i]? = some x := by rfl)
    (hv : Vis X.env.scope x := by first | exact Or.inl rfl | exact Or.inr (Or.inl rfl) | exact Or.inr (Or.inr rfl)) (hd : (x == ("__debug__" : Str)) = false := by decide) (hcd : (x == ("__classdict__" : Str)) = false := by decide)
    (hbase : attributeBase (.Name x p) "append" X.env (eval (.Name x p) X.env) = eval (.Name x p) X.env := by rfl)
    (hfew : ((backTo p2 (starEach (e :: []) X.env)).all (fun x => !x.1) && (backToKw p2 (keywordEach [] X.env)).all (fun x => x.1.isSome) && decide ((e :: []).length + ([] : List Keyword).length + (if ([] : List Keyword).isEmpty then 0 else 1) < 30)) = true := by rfl)
    (hline : (apos.endLine == p2.line) = true := by rfl) (hs : starEach (e :: []) X.env = (false, eval e X.env) :: starEach [] X.env := by rfl) (hplain : (backTo p2 (starEach [] X.env)).any (·.1) = false := by rfl)
    (hsw : swapsWith (.Call (.Attribute (.Name x p) "append" apos) [e] [] p2) none pos.line X.env = pure false := by rfl) (hex : ∃ ds, cs[j]? = some (.l ds) := by exact ⟨_, rfl⟩) :
    SS X W m0 RR rf nf lf (.Expr (.Call (.Attribute (.Name x p) "append" apos) [e] [] p2) pos :: rest) ρ ms cs (m >>= fun d => cellL j d.2 >>= fun ds => appD ds d.1 >>= fun ds' => k (d.2.set j (.l ds'))) := by
  obtain ⟨t, t1, t2⟩ := h
  refine ⟨_, pss_cons (ps_expr (pe_bm PySem.F.plainAttrs_list PySem.F.slot_list_append PySem.F.type_list_append mt_append (pe_var hN hv hd hcd) (pa_cons t1 pa_nil hs) hbase hfew hline hs hplain) hsw) (pss_all (t := fun n => (hk n).choose) fun n => (hk n).choose_spec.1), fun Γ G σ H D hw hm c hr => ?_⟩
  obtain ⟨v, e3, e4⟩ := env_get c.env h3
  obtain ⟨ds0, e5⟩ := hex
  obtain ⟨g, vs0, e6, e7⟩ := cells_get c.cells h1 e5
  subst e4
  refine ⟨_, e3, .inl ⟨rfl, vs0, .inl (.inl e6)⟩, t2 Γ G σ H _ hw c (hr.bind.mono fun d q u G1 H1 g1 c1 k1 r1 => ?_)⟩
  unfold cellL at q
  cases e8 : d.2[j]? with
  | none => rw [e8] at q; exact q.elim
  | some co =>
    rw [e8] at q
    cases co with
    | k kvs => exact q.elim
    | l ds =>
      obtain ⟨g2, vs, h5, h6⟩ := cells_get c1.cells h1 e8
      by_cases hz : ds.length < sizeLine
      · have q2 : Res Γ.We (appD ds d.1 >>= fun ds' => k (d.2.set j (.l ds'))) (fun c => After Γ nf lf RR rf D G H c) := q
        rw [appD, if_pos hz] at q2
        have q' : Res Γ.We (k (d.2.set j (.l (ds ++ [d.1])))) (fun c => After Γ nf lf RR rf D G H c) := q2
        refine ⟨ad, vs, u, rfl, rfl, h5, by rw [dpa_len h6]; exact hz, ?_⟩
        exact ⟨d.2.set j (.l (ds ++ [d.1])), (hk _).choose_spec.2 Γ G1 _ _ D hw hm (c1.write h1 ⟨vs ++ [u], upd_same, dpa_append h6 (.cons r1 .nil)⟩) (q'.mono fun y z => z.fwd g1 (k1.trans there_upd))⟩
      · have q2 : Res Γ.We (appD ds d.1 >>= fun ds' => k (d.2.set j (.l ds'))) (fun c => After Γ nf lf RR rf D G H c) := q
        rw [appD, if_neg hz] at q2
        exact q2.elim
theorem s1_ifX {mc : Out (Bool × List CO)} {ma mb : List CO → Out (Ctl N R L)} (h : TX X W c ρ ms cs mc) (ha : ∀ cs1, SS X W m0 RR rf nf lf sa ρ ms cs1 (ma cs1)) (hb : ∀ cs1, SS X W m0 RR rf nf lf sb ρ ms cs1 (mb cs1)) : S1 X W m0 RR rf nf lf (.If c sa sb pos) ρ ms cs (mc >>= fun t => if t.1 then ma t.2 else mb t.2) := by
  obtain ⟨t, h1, h2⟩ := h
  refine ⟨_, ps_if h1 (pss_all (t := fun n => (ha n).choose) fun n => (ha n).choose_spec.1) (pss_all (t := fun n => (hb n).choose) fun n => (hb n).choose_spec.1), fun Γ G σ H D hw hm c hr => h2 Γ G σ H _ hw c (hr.bind.mono fun d q G1 H1 g1 c1 k1 => ?_)⟩
  obtain ⟨b, cs1⟩ := d
  cases b with
  | true => exact ⟨cs1, (ha cs1).choose_spec.2 Γ G1 σ H1 D hw hm c1 (Res.mono (show Res Γ.We (ma cs1) _ from q) fun y z => z.fwd g1 k1)⟩
  | false => exact ⟨cs1, (hb cs1).choose_spec.2 Γ G1 σ H1 D hw hm c1 (Res.mono (show Res Γ.We (mb cs1) _ from q) fun y z => z.fwd g1 k1)⟩
theorem s1_if {mc : Out Bool} {ma mb : Out (Ctl N R L)} (h : TP X W c ρ ms cs mc) (ha : SS X W m0 RR rf nf lf sa ρ ms cs ma) (hb : SS X W m0 RR rf nf lf sb ρ ms cs mb) : S1 X W m0 RR rf nf lf (.If c sa sb pos) ρ ms cs (mc >>= fun t => if t then ma else mb) := by
  obtain ⟨t, h1, h2⟩ := h
  obtain ⟨ta, a1, a2⟩ := ha
  obtain ⟨tb, b1, b2⟩ := hb
  refine ⟨_, ps_if h1 a1 b1, fun Γ G σ H D hw hm c hr => h2 Γ G σ H _ hw c (hr.bind.mono fun d q G1 H1 g1 c1 k1 => ?_)⟩
  cases d with
  | true => exact a2 Γ G1 σ H1 D hw hm c1 (Res.mono (show Res Γ.We ma _ from q) fun y z => z.fwd g1 k1.there)
  | false => exact b2 Γ G1 σ H1 D hw hm c1 (Res.mono (show Res Γ.We mb _ from q) fun y z => z.fwd g1 k1.there)
/-- an if whose branch is left by return, break, continue -/
def upC : Ctl Empty R L → Ctl N R L
  | .nx n => n.elim
  | .rt r => .rt r
  | .bk l => .bk l
  | .ct l => .ct l
abbrev noF : Empty → Sta := fun n => n.elim
theorem ss_ifE {mc : Out Bool} {ma : Out (Ctl Empty R L)} {k : Out (Ctl N R L)} (h : TP X W c ρ ms cs mc) (ha : SS X W m0 RR rf noF lf sa ρ ms cs ma) (hb : SS X W m0 RR rf nf lf rest ρ ms cs k) : SS X W m0 RR rf nf lf (.If c sa [] pos :: rest) ρ ms cs (mc >>= fun t => if t then ma >>= fun x => .ok (upC x) else k) := by
  obtain ⟨t, h1, h2⟩ := h
  obtain ⟨ta, a1, a2⟩ := ha
  obtain ⟨tb, b1, b2⟩ := hb
  refine ⟨_, pss_cons (ps_if h1 a1 pss_nil) b1, fun Γ G σ H D hw hm c hr => h2 Γ G σ H _ hw c (hr.bind.mono fun d q G1 H1 g1 c1 k1 => ?_)⟩
  cases d with
  | true =>
    refine a2 Γ G1 σ H1 _ hw hm c1 (Res.mono (Res.bind (show Res Γ.We (ma >>= fun x => .ok (upC x)) _ from q)) fun y z => ?_)
    have z' := After.fwd (show After Γ nf lf RR rf D G H (upC y) from z) g1 k1.there
    cases y with
    | nx n => exact n.elim
    | rt r => exact z'
    | bk l => exact z'
    | ct l => exact z'
  | false => exact b2 Γ G1 σ H1 D hw hm c1 (Res.mono (show Res Γ.We k _ from q) fun y z => z.fwd g1 k1.there)
theorem ss_ifEX {mc : Out (Bool × List CO)} {ma : List CO → Out (Ctl Empty R L)} {k : List CO → Out (Ctl N R L)} (h : TX X W c ρ ms cs mc) (ha : ∀ cs1, SS X W m0 RR rf noF lf sa ρ ms cs1 (ma cs1)) (hb : ∀ cs1, SS X W m0 RR rf nf lf rest ρ ms cs1 (k cs1)) : SS X W m0 RR rf nf lf (.If c sa [] pos :: rest) ρ ms cs (mc >>= fun t => if t.1 then ma t.2 >>= fun x => .ok (upC x) else k t.2) := by
  obtain ⟨t, h1, h2⟩ := h
  refine ⟨_, pss_cons (ps_if h1 (pss_all (t := fun n => (ha n).choose) fun n => (ha n).choose_spec.1) pss_nil) (pss_all (t := fun n => (hb n).choose) fun n => (hb n).choose_spec.1), fun Γ G σ H D hw hm c hr => h2 Γ G σ H _ hw c (hr.bind.mono fun d q G1 H1 g1 c1 k1 => ?_)⟩
  obtain ⟨b, cs1⟩ := d
  cases b with
  | true =>
    refine ⟨cs1, (ha cs1).choose_spec.2 Γ G1 σ H1 _ hw hm c1 (Res.mono (Res.bind (show Res Γ.We (ma cs1 >>= fun x => .ok (upC x)) _ from q)) fun y z => ?_)⟩
    have z' := After.fwd (show After Γ nf lf RR rf D G H (upC y) from z) g1 k1
    cases y with
    | nx n => exact n.elim
    | rt r => exact z'
    | bk l => exact z'
    | ct l => exact z'
  | false =>
    show ∃ n, (hb n).choose D σ H1
    exact ⟨cs1, (hb cs1).choose_spec.2 Γ G1 σ H1 D hw hm c1 (Res.mono (show Res Γ.We (k cs1) _ from q) fun y z => z.fwd g1 k1)⟩
/-! ### for -/
def forM (b : PD → L → Out (Ctl L R L)) : List PD → L → Out (Ctl L R Empty)
  | [], l => .ok (.nx l)
  | d :: ds, l => b d l >>= fun x => match x with
    | .nx l' => forM b ds l'
    | .ct l' => forM b ds l'
    | .bk l' => .ok (.nx l')
    | .rt r => .ok (.rt r)
def dnC {L' : Type} : Ctl L R Empty → Ctl L R L'
  | .nx n => .nx n
  | .rt r => .rt r
  | .bk l => l.elim
  | .ct l => l.elim
theorem s1_forXN {L1 ι : Type} (rho : L1 → As → Rho) (msf : As → List Addr) (cf : L1 → List CO) {pu : Bool} {Keep : List PD → Hp → Hp → Prop} {u : PD → Rho → Out Rho} {vs : List Nat} {un : PD → Out ι} {ρf : L1 → As → ι → Rho} {mi : Out (List PD × List CO)} (as0 : As) (l0 : List CO → L1) {b : ι → L1 → Out (Ctl L1 R L1)}
    (hc : X.calm = true) (hp : PassesOwn (model X.prog X.w) X.A X.env X.xe) (hi : IX X W pu tg iter ρ ms cs Keep mi) (hg : TgOk X tg vs u) (h0 : ∀ cs1, CDrop ms cs1 (msf as0) (cf (l0 cs1))) (hle : ∀ cs1, RLe (rho (l0 cs1) as0) ρ)
    (hu : ∀ d l as, u d (rho l as) = (un d >>= fun t => .ok (ρf l as t))) (hue : ∀ d z fs, un d ≠ .err z fs) (hk : ∀ ds cs1, mi = .ok (ds, cs1) → ∀ l as G H, CellsOk X.K G H (msf as) (cf l) → Keep ds G H) (hb : ∀ t l as, SS X W m0 RR rf (fun l as => (rho l as, msf as, cf l)) (fun l as => (rho l as, msf as, cf l)) body (ρf l as t) (msf as) (cf l) (b t l)) (hs : ∀ x, foldedSetIterable iter X.env x = pure x := by intro _; rfl) :
    S1 X W m0 RR rf (fun l as => (rho l as, msf as, cf l)) lf (.For tg iter body [] pos) ρ ms cs (mi >>= fun x => forM (fun d l => un d >>= fun t => b t l) x.1 (l0 x.2) >>= fun y => .ok (dnC y)) := by
  obtain ⟨wi, i1, i2⟩ := hi
  obtain ⟨g, g1, g2⟩ := hg
  refine ⟨_, ps_for hp hc i1 g1 (pss_all (t := fun (n : ι × L1 × As) => (hb n.1 n.2.1 n.2.2).choose) fun n => (hb n.1 n.2.1 n.2.2).choose_spec.1) hs, fun Γ G σ H D hw hm c hr => i2 Γ G σ H _ hw c ?_⟩
  cases emi : mi with
  | bad => rw [emi] at hr; exact hr.elim
  | err z fs => rw [emi] at hr; exact hr
  | ok x =>
  obtain ⟨ds, cs1⟩ := x
  rw [emi] at hr
  have hr : Res Γ.We (forM (fun d l => un d >>= fun t => b t l) ds (l0 cs1)) (fun y => After Γ (fun l as => (rho l as, msf as, cf l)) lf RR rf D G H (dnC y)) := Res.bind (show Res Γ.We (forM (fun d l => un d >>= fun t => b t l) ds (l0 cs1) >>= fun y => .ok (dnC y)) _ from hr)
  intro J G1 H1 gg1 c1 st it
  obtain ⟨Gp, Y, w, w1, w2⟩ := it
  refine for_it w (g := g) (tb := fun D σ H => ∃ n : ι × L1 × As, (hb n.1 n.2.1 n.2.2).choose D σ H) (D := D) (fun i σ' H' => ∃ G2 l as, Same G1 G2 ∧ There H1 H' ∧ Cfg Γ G2 (rho l as) (msf as) (cf l) σ' H' ∧ Res Γ.We (forM (fun d l => un d >>= fun t => b t l) (ds.drop i) l) (fun y => After Γ (fun l as => (rho l as, msf as, cf l)) lf RR rf D G1 H1 (dnC y))) ?h0 ?hG ?hs ?hd
  case h0 => exact ⟨G1, l0 cs1, as0, Same.refl _, Kept.there (Same.refl _), c1.drop (h0 cs1) (hle cs1), Res.mono hr fun y z => z.fwd gg1 st.there⟩
  case hG =>
    rintro i σ' H' hi' ⟨G2, l, as, s2, t2, c2, r2⟩
    exact w1 G2 H' s2 c2.ex (hk ds cs1 emi l as _ _ c2.cells)
  case hd =>
    rintro σ' H' ⟨G2, l, as, s2, t2, c2, r2⟩
    rw [List.drop_length] at r2
    have r3 : After Γ (fun l as => (rho l as, msf as, cf l)) lf RR rf D G1 H1 (.nx l) := r2
    exact r3 as σ' G2 H' s2 t2 c2
  case hs =>
    rintro i x σ' H2 H3 hi' ⟨G2, l, as, s2, t2, c2, r2⟩ y
    obtain ⟨k3, d, G3, ed, s3, x3, n3, dx⟩ := w2 i x H2 H3 G2 hi' s2 c2.ex (hk ds cs1 emi l as _ _ c2.cells) y
    have c3 := c2.keep s3 k3 x3 n3
    rw [drop_at ed] at r2
    have r3 : Res Γ.We ((un d >>= fun t => b t l) >>= fun x => match x with
      | .nx l' => forM (fun d l => un d >>= fun t => b t l) (ds.drop (i + 1)) l'
      | .ct l' => forM (fun d l => un d >>= fun t => b t l) (ds.drop (i + 1)) l'
      | .bk l' => .ok (.nx l')
      | .rt r => .ok (.rt r)) _ := r2
    have r4 := Res.bind r3
    refine g2 Γ G3 _ _ _ _ H3 x d _ c3 dx ?_
    rw [hu d l as]
    cases eu : un d with
    | bad => rw [eu] at r4; exact r4.elim
    | err z fs => exact (hue d z fs eu).elim
    | ok t =>
      rw [eu] at r4
      intro σ2 c4 hj hl2
      refine ⟨(t, l, as), (hb t l as).choose_spec.2 Γ G3 σ2 H3 _ hw hm c4 (Res.mono (show Res Γ.We (b t l) _ from r4) fun z q => ?_)⟩
      cases z with
      | nx l' => exact fun as' σ3 G4 H4 a1 a2 a3 => ⟨G4, l', as', s2.trans (s3.trans a1), t2.trans (k3.there.trans a2), a3, q⟩
      | ct l' => exact fun as' σ3 G4 H4 a1 a2 a3 => ⟨G4, l', as', s2.trans (s3.trans a1), t2.trans (k3.there.trans a2), a3, q⟩
      | bk l' => exact fun as' σ3 G4 H4 a1 a2 a3 => (show After Γ (fun l as => (rho l as, msf as, cf l)) lf RR rf D G1 H1 (.nx l') from q) as' σ3 G4 H4 (s2.trans (s3.trans a1)) (t2.trans (k3.there.trans a2)) a3
      | rt r => exact After.fwd (show After Γ (fun l as => (rho l as, msf as, cf l)) lf RR rf D G1 H1 (.rt r) from q) (s2.trans s3) (t2.trans k3.there)
end
end Dd
set_option Elab.async false
set_option linter.all false
set_option maxRecDepth 100000
set_option maxHeartbeats 2000000
namespace Dd
open PySem PySem.Spec PyProof.Rows L2
/-- a parameter: data, a list that may be changed, a dict that may be changed -/
inductive AK where
  | d | c | k
def FTy (τ : Type) : List AK → Type
  | [] => τ
  | .d :: ks => PD → FTy τ ks
  | .c :: ks => List PD → FTy τ ks
  | .k :: ks => List (Key × PD) → FTy τ ks
/-- a function on data, applied -/
def app {τ : Type} : (ks : List AK) → FTy (Out τ) ks → List PD → List CO → Out τ
  | [], f, [], [] => f
  | .d :: ks, f, d :: ds, cs => app ks (f d) ds cs
  | .c :: ks, f, ds, .l l :: cs => app ks (f l) ds cs
  | .k :: ks, f, ds, .k l :: cs => app ks (f l) ds cs
  | _, _, _, _ => .bad
inductive ArgsA (K : PySem.W.Frag) (G : Hp) : List AK → List V → List PD → List Addr → Prop where
  | nil : ArgsA K G [] [] [] []
  | d {ks : List AK} {v : V} {vs : List V} {x : PD} {ds : List PD} {as : List Addr} : Dp K G v x → ArgsA K G ks vs ds as → ArgsA K G (.d :: ks) (v :: vs) (x :: ds) as
  | c {ks : List AK} {a : Addr} {vs : List V} {ds : List PD} {as : List Addr} : ArgsA K G ks vs ds as → ArgsA K G (.c :: ks) (.ref a :: vs) ds (a :: as)
  | k {ks : List AK} {a : Addr} {vs : List V} {ds : List PD} {as : List Addr} : ArgsA K G ks vs ds as → ArgsA K G (.k :: ks) (.ref a :: vs) ds (a :: as)
theorem ArgsA.len {K : PySem.W.Frag} {G : Hp} {ks : List AK} {vs : List V} {ds : List PD} {as : List Addr} (h : ArgsA K G ks vs ds as) : vs.length = ks.length := by
  induction h with
  | nil => rfl
  | d _ _ ih => simp [ih]
  | c _ ih => simp [ih]
  | k _ ih => simp [ih]
theorem ArgsA.mono {K : PySem.W.Frag} {G G' : Hp} {ks : List AK} {vs : List V} {ds : List PD} {as : List Addr} (e : Same G G') (h : ArgsA K G ks vs ds as) : ArgsA K G' ks vs ds as := by
  induction h with
  | nil => exact .nil
  | d h _ ih => exact .d (dp_mono e h) ih
  | c _ ih => exact .c ih
  | k _ ih => exact .k ih
/-- what a def promises: it does what F says -/
def prm {β : Type} (K : PySem.W.Frag) (mg : Str → Option Value) (ks : List AK) (RR : VR β) (F : FTy (Out (β × List CO)) ks) : Sp := fun vs H Q E => ∃ ds as cs G We, ArgsA K G ks vs ds as ∧ Same G H ∧ CellsOk K G H as cs ∧
  (∀ c fs cls d G' H', We c fs → Grow as G H G' H' → Same G' H' → XR K mg c fs cls d G' H' → E cls d H') ∧
  Res We (app ks F ds cs) (fun r => ∀ v G' H', Grow as G H G' H' → Same G' H' → CellsOk K G' H' as r.2 → RR H G' H' v r.1 → Q v H')
/-- the slots at the entry -/
def rho0 : List AK → List PD → List Addr → Rho
  | .d :: ks, x :: ds, as => some (.d x) :: rho0 ks ds as
  | .c :: ks, ds, a :: as => some (.c a) :: rho0 ks ds as
  | .k :: ks, ds, a :: as => some (.c a) :: rho0 ks ds as
  | _, _, _ => []
theorem env0 {K : PySem.W.Frag} {G : Hp} {ks : List AK} {vs : List V} {ds : List PD} {as : List Addr} (h : ArgsA K G ks vs ds as) (n : Nat) : EnvOk K G (rho0 ks ds as ++ List.replicate n none) (vs.map some ++ List.replicate n none) := by
  induction h with
  | nil =>
    show EnvOk K G (List.replicate n none) (List.replicate n none)
    induction n with
    | zero => exact .nil
    | succ n ih => exact .non ih
  | d h _ ih => exact .som h ih
  | c _ ih => exact .som rfl ih
  | k _ ih => exact .som rfl ih
abbrev RF {β : Type} (RR : VR β) : VR (β × List CO) := fun H0 G H v r => RR H0 G H v r.1
def finE {R : Type} : Ctl Empty R Empty → Out R
  | .rt r => .ok r
  | .nx n => n.elim
  | .bk n => n.elim
  | .ct n => n.elim
/-- a def that falls through hands back None -/
def finN : Ctl (List CO) (PD × List CO) Empty → Out (PD × List CO)
  | .rt r => .ok r
  | .nx n => .ok (.none, n)
  | .bk n => n.elim
  | .ct n => n.elim
/-- the body, told for all arguments -/
def BodyE {β : Type} (X : Cx) (W : XK) (RR : VR β) (body : List Stmt) (n : Nat) : (ks : List AK) → Rho → List Addr → List CO → FTy (Out (β × List CO)) ks → Prop
  | [], ρ, ms, cs, f => ∃ m, SS X W ms (RF RR) Prod.snd noF noF body (ρ ++ List.replicate n none) ms cs m ∧ f = (m >>= finE)
  | .d :: ks, ρ, ms, cs, f => ∀ x, BodyE X W RR body n ks (ρ ++ [some (.d x)]) ms cs (f x)
  | .c :: ks, ρ, ms, cs, f => ∀ a l, BodyE X W RR body n ks (ρ ++ [some (.c a)]) (ms ++ [a]) (cs ++ [.l l]) (f l)
  | .k :: ks, ρ, ms, cs, f => ∀ a l, BodyE X W RR body n ks (ρ ++ [some (.c a)]) (ms ++ [a]) (cs ++ [.k l]) (f l)
def BodyN (X : Cx) (W : XK) (body : List Stmt) (n : Nat) : (ks : List AK) → Rho → List Addr → List CO → FTy (Out (PD × List CO)) ks → Prop
  | [], ρ, ms, cs, f => ∃ m, SS X W ms (RF (RD X.K)) Prod.snd (fun c _ => (List.replicate (ρ.length + n) none, ms, c)) noF body (ρ ++ List.replicate n none) ms cs m ∧ f = (m >>= finN)
  | .d :: ks, ρ, ms, cs, f => ∀ x, BodyN X W body n ks (ρ ++ [some (.d x)]) ms cs (f x)
  | .c :: ks, ρ, ms, cs, f => ∀ a l, BodyN X W body n ks (ρ ++ [some (.c a)]) (ms ++ [a]) (cs ++ [.l l]) (f l)
  | .k :: ks, ρ, ms, cs, f => ∀ a l, BodyN X W body n ks (ρ ++ [some (.c a)]) (ms ++ [a]) (cs ++ [.k l]) (f l)
section
variable {P : Program} {w : World} {K : PySem.W.Frag} {mg : Str → Option Value} {base : Heap} {β : Type} {RR : VR β} {body : List Stmt} {X : Cx} {W : XK}
theorem bodyE_run : ∀ {ks : List AK} {ρ : Rho} {ms : List Addr} {cs : List CO} {f : FTy (Out (β × List CO)) ks} {n : Nat} {G : Hp} {vs : List V} {ds : List PD} {as : List Addr} {bs : List CO} {We : WE} {Pp : β × List CO → Prop},
    BodyE X W RR body n ks ρ ms cs f → ArgsA X.K G ks vs ds as → Res We (app ks f ds bs) Pp → ∃ m, SS X W (ms ++ as) (RF RR) Prod.snd noF noF body (ρ ++ rho0 ks ds as ++ List.replicate n none) (ms ++ as) (cs ++ bs) m ∧ Res We (m >>= finE) Pp := by
  intro ks
  induction ks with
  | nil =>
    intro ρ ms cs f n G vs ds as bs We Pp h ha hr
    cases ha
    cases bs with
    | cons b bs => exact hr.elim
    | nil =>
      obtain ⟨m, h1, h2⟩ := h
      refine ⟨m, by simpa [rho0] using h1, ?_⟩
      rw [← h2]
      exact hr
  | cons k ks ih =>
    intro ρ ms cs f n G vs ds as bs We Pp h ha hr
    cases ha with
    | @d _ v vs x ds as hd ht =>
      obtain ⟨m, h1, h2⟩ := ih (h x) ht (show Res We (app ks (f x) ds bs) Pp from hr)
      exact ⟨m, by simpa [rho0] using h1, h2⟩
    | @c _ a vs ds as ht =>
      cases bs with
      | nil => exact hr.elim
      | cons b bs =>
        cases b with
        | k l => exact hr.elim
        | l l =>
          obtain ⟨m, h1, h2⟩ := ih (h a l) ht (show Res We (app ks (f l) ds bs) Pp from hr)
          exact ⟨m, by simpa [rho0] using h1, h2⟩
    | @k _ a vs ds as ht =>
      cases bs with
      | nil => exact hr.elim
      | cons b bs =>
        cases b with
        | l l => exact hr.elim
        | k l =>
          obtain ⟨m, h1, h2⟩ := ih (h a l) ht (show Res We (app ks (f l) ds bs) Pp from hr)
          exact ⟨m, by simpa [rho0] using h1, h2⟩
theorem bodyN_run : ∀ {ks : List AK} {ρ : Rho} {ms : List Addr} {cs : List CO} {f : FTy (Out (PD × List CO)) ks} {n : Nat} {G : Hp} {vs : List V} {ds : List PD} {as : List Addr} {bs : List CO} {We : WE} {Pp : PD × List CO → Prop},
    BodyN X W body n ks ρ ms cs f → ArgsA X.K G ks vs ds as → Res We (app ks f ds bs) Pp → ∃ m, SS X W (ms ++ as) (RF (RD X.K)) Prod.snd (fun c _ => (List.replicate (ρ.length + ks.length + n) none, ms ++ as, c)) noF body (ρ ++ rho0 ks ds as ++ List.replicate n none) (ms ++ as) (cs ++ bs) m ∧ Res We (m >>= finN) Pp := by
  intro ks
  induction ks with
  | nil =>
    intro ρ ms cs f n G vs ds as bs We Pp h ha hr
    cases ha
    cases bs with
    | cons b bs => exact hr.elim
    | nil =>
      obtain ⟨m, h1, h2⟩ := h
      refine ⟨m, by simpa [rho0] using h1, ?_⟩
      rw [← h2]
      exact hr
  | cons k ks ih =>
    intro ρ ms cs f n G vs ds as bs We Pp h ha hr
    cases ha with
    | @d _ v vs x ds as hd ht =>
      obtain ⟨m, h1, h2⟩ := ih (h x) ht (show Res We (app ks (f x) ds bs) Pp from hr)
      exact ⟨m, by simpa [rho0, Nat.add_comm, Nat.add_left_comm, Nat.add_assoc] using h1, h2⟩
    | @c _ a vs ds as ht =>
      cases bs with
      | nil => exact hr.elim
      | cons b bs =>
        cases b with
        | k l => exact hr.elim
        | l l =>
          obtain ⟨m, h1, h2⟩ := ih (h a l) ht (show Res We (app ks (f l) ds bs) Pp from hr)
          exact ⟨m, by simpa [rho0, Nat.add_comm, Nat.add_left_comm, Nat.add_assoc] using h1, h2⟩
    | @k _ a vs ds as ht =>
      cases bs with
      | nil => exact hr.elim
      | cons b bs =>
        cases b with
        | l l => exact hr.elim
        | k l =>
          obtain ⟨m, h1, h2⟩ := ih (h a l) ht (show Res We (app ks (f l) ds bs) Pp from hr)
          exact ⟨m, by simpa [rho0, Nat.add_comm, Nat.add_left_comm, Nat.add_assoc] using h1, h2⟩
/-- the body's context -/
abbrev Bx (P : Program) (w : World) (K : PySem.W.Frag) (mg : Str → Option Value) (base : Heap) (N : List Str) (qual : Str) (st : Stmt) (f : Addr) (cdv : Value) (A : Around) (outer : List Env) (s : Shared) (H : Hp) (E : XK) : Cx :=
  (cxOf CX0 P w K mg base N qual (defScope st) f cdv A outer s H E).nox
theorem fnE {x qual : Str} {st : Stmt} {f : Addr} {fd : FuncData} {N ps : List Str} {k : Nat} {ks : List AK} {fm : FTy (Out (β × List CO)) ks} (F : Fun K x qual st f fd) (S : FnScope N ps (defScope st)) (hl : ks.length = ps.length) (hN : ps.length ≤ N.length)
    (hb : ∀ (cdv : Value) (A : Around) (outer : List Env) (s : Shared) (H : Hp) (E : XK), Room k (A.deeper (envOfC qual (defScope st) s.heap.objs.size f cdv)) → BodyE (Bx P w K mg base N qual st f cdv A outer s H E) E RR (defBody st) (N.length - ps.length) ks [] [] [] fm) :
    FnOk P w K mg base CX0 (k + 1) f fd ps (prm K mg ks RR fm) := by
  refine F.ok S (fun vs H Q E h => ?_) (fun cdv A outer s H vs Q E hr h => ?_)
  · obtain ⟨ds, as, cs, G, We, ha, _⟩ := h
    rw [ha.len, hl]
  · obtain ⟨ds, as, cs, G, We, ha, ex, hc, hE, hres⟩ := h
    obtain ⟨m, ⟨ts, t1, t2⟩, h2⟩ := bodyE_run (hb cdv A outer s H E hr) ha hres
    refine ⟨ts, t1, ?_⟩
    refine t2 ⟨G, H, as, We, E, hE⟩ G _ H _ rfl rfl ⟨ex, hc, ?_, Grow.refl, fun _ m => .inl m⟩ (h2.bind.mono fun c q => ?_)
    · have e := env0 ha (N.length - ps.length)
      show EnvOk K G ([] ++ rho0 ks ds as ++ List.replicate (N.length - ps.length) none) (L2.start N vs)
      unfold L2.start
      rw [ha.len, hl, List.nil_append]
      exact e
    · cases c with
      | rt r => exact fun v G' H' g t x cc gr rr => q v G' H' gr x cc rr
      | nx n => exact n.elim
      | bk n => exact n.elim
      | ct n => exact n.elim
theorem fnN {x qual : Str} {st : Stmt} {f : Addr} {fd : FuncData} {N ps : List Str} {k : Nat} {ks : List AK} {fm : FTy (Out (PD × List CO)) ks} (F : Fun K x qual st f fd) (S : FnScope N ps (defScope st)) (hl : ks.length = ps.length) (hN : ps.length ≤ N.length)
    (hb : ∀ (cdv : Value) (A : Around) (outer : List Env) (s : Shared) (H : Hp) (E : XK), Room k (A.deeper (envOfC qual (defScope st) s.heap.objs.size f cdv)) → BodyN (Bx P w K mg base N qual st f cdv A outer s H E) E (defBody st) (N.length - ps.length) ks [] [] [] fm) :
    FnOk P w K mg base CX0 (k + 1) f fd ps (prm K mg ks (RD K) fm) := by
  refine F.ok S (fun vs H Q E h => ?_) (fun cdv A outer s H vs Q E hr h => ?_)
  · obtain ⟨ds, as, cs, G, We, ha, _⟩ := h
    rw [ha.len, hl]
  · obtain ⟨ds, as, cs, G, We, ha, ex, hc, hE, hres⟩ := h
    obtain ⟨m, ⟨ts, t1, t2⟩, h2⟩ := bodyN_run (hb cdv A outer s H E hr) ha hres
    refine ⟨ts, t1, ?_⟩
    refine t2 ⟨G, H, as, We, E, hE⟩ G _ H _ rfl rfl ⟨ex, hc, ?_, Grow.refl, fun _ m => .inl m⟩ (h2.bind.mono fun c q => ?_)
    · have e := env0 ha (N.length - ps.length)
      show EnvOk K G ([] ++ rho0 ks ds as ++ List.replicate (N.length - ps.length) none) (L2.start N vs)
      unfold L2.start
      rw [ha.len, hl, List.nil_append]
      exact e
    · cases c with
      | rt r => exact fun v G' H' g t x cc gr rr => q v G' H' gr x cc rr
      | nx n => exact fun _ σ' G' H' g t c => q .non G' H' c.grow c.ex c.cells .non
      | bk n => exact n.elim
      | ct n => exact n.elim
end

/-! ### calls -/
theorem cells_mk {K : PySem.W.Frag} {G H : Hp} : ∀ {ms : List Addr} {cs : List CO}, ms.length = cs.length → ms.Nodup → (∀ (j : Nat) (a : Addr) (c : CO), ms[j]? = some a → cs[j]? = some c → G a = none ∧ CellOk K G H a c) → CellsOk K G H ms cs
  | [], [], _, _, _ => .nil
  | [], _ :: _, h, _, _ => by simp at h
  | _ :: _, [], h, _, _ => by simp at h
  | a :: ms, c :: cs, hl, hn, h => by
    obtain ⟨h1, h2⟩ := List.nodup_cons.mp hn
    obtain ⟨q1, q2⟩ := h 0 a c rfl rfl
    exact .cons q1 q2 h1 (cells_mk (by simpa using hl) h2 fun j b d e1 e2 => h (j + 1) b d (by simpa using e1) (by simpa using e2))
def pickC : List Nat → List CO → Option (List CO)
  | [], _ => some []
  | j :: js, cs => match cs[j]? with
    | some c => (pickC js cs).map (c :: ·)
    | none => none
def putC : List Nat → List CO → List CO → List CO
  | j :: js, c :: ls, cs => putC js ls (cs.set j c)
  | _, _, cs => cs
def pickA : List Nat → List Addr → List Addr
  | [], _ => []
  | j :: js, ms => match ms[j]? with
    | some a => a :: pickA js ms
    | none => pickA js ms
theorem putC_len : ∀ (js : List Nat) (ls cs : List CO), (putC js ls cs).length = cs.length
  | [], _, _ => rfl
  | _ :: _, [], _ => rfl
  | j :: js, c :: ls, cs => by
    show (putC js ls (cs.set j c)).length = _
    rw [putC_len js ls, List.length_set]
theorem putC_out : ∀ (js : List Nat) (ls cs : List CO) {i : Nat}, i ∉ js → (putC js ls cs)[i]? = cs[i]?
  | [], _, _, _, _ => rfl
  | _ :: _, [], _, _, _ => rfl
  | j :: js, c :: ls, cs, i, h => by
    show (putC js ls (cs.set j c))[i]? = _
    rw [putC_out js ls _ (fun z => h (List.mem_cons_of_mem _ z)), List.getElem?_set_ne (fun z => h (by simp [z]))]
theorem putC_in : ∀ (js : List Nat) (ls cs : List CO) {t i : Nat} {c : CO}, js.Nodup → js[t]? = some i → ls[t]? = some c → i < cs.length → (putC js ls cs)[i]? = some c
  | [], _, _, _, _, _, _, h, _, _ => by simp at h
  | _ :: _, [], _, _, _, _, _, _, h, _ => by simp at h
  | j :: js, c0 :: ls, cs, 0, i, c, hn, h1, h2, hl => by
    simp at h1 h2
    subst h1 h2
    show (putC js ls (cs.set j c0))[j]? = _
    rw [putC_out js ls _ (List.nodup_cons.mp hn).1, List.getElem?_set_self hl]
  | j :: js, c0 :: ls, cs, t + 1, i, c, hn, h1, h2, hl => by
    show (putC js ls (cs.set j c0))[i]? = _
    exact putC_in js ls _ (List.nodup_cons.mp hn).2 (by simpa using h1) (by simpa using h2) (by rw [List.length_set]; exact hl)
theorem pickC_get : ∀ {js : List Nat} {cs ls : List CO}, pickC js cs = some ls → ls.length = js.length ∧ ∀ (t : Nat) (c : CO), ls[t]? = some c → ∃ j, js[t]? = some j ∧ cs[j]? = some c
  | [], _, _, h => by
    cases h
    exact ⟨rfl, fun t c h => by simp at h⟩
  | j :: js, cs, ls, h => by
    unfold pickC at h
    cases e : cs[j]? with
    | none => rw [e] at h; cases h
    | some c0 =>
      rw [e] at h
      cases e2 : pickC js cs with
      | none => rw [e2] at h; cases h
      | some l2 =>
        rw [e2] at h
        cases h
        obtain ⟨h1, h2⟩ := pickC_get e2
        refine ⟨by simp [h1], fun t c q => ?_⟩
        cases t with
        | zero => simp at q; subst q; exact ⟨j, rfl, e⟩
        | succ t =>
          obtain ⟨j', a, b⟩ := h2 t c (by simpa using q)
          exact ⟨j', by simpa using a, b⟩
def okJ (js : List Nat) (n : Nat) : Bool := js.all fun j => decide (j < n)
theorem pickA_get {ms : List Addr} : ∀ {js : List Nat}, okJ js ms.length = true → (pickA js ms).length = js.length ∧ ∀ (t : Nat) (j : Nat), js[t]? = some j → (pickA js ms)[t]? = ms[j]? ∧ j < ms.length
  | [], _ => ⟨rfl, fun t j h => by simp at h⟩
  | j :: js, h => by
    have h' : (decide (j < ms.length) && okJ js ms.length) = true := h
    rw [Bool.and_eq_true] at h'
    have hj := of_decide_eq_true h'.1
    obtain ⟨h1, h2⟩ := pickA_get h'.2
    have e : ms[j]? = some ms[j] := by simp [hj]
    have e2 : pickA (j :: js) ms = ms[j] :: pickA js ms := by
      show (match ms[j]? with | some a => a :: pickA js ms | none => pickA js ms) = _
      rw [e]
    rw [e2]
    refine ⟨by simp [h1], fun t i q => ?_⟩
    cases t with
    | zero => simp at q; subst q; exact ⟨e.symm, hj⟩
    | succ t => simpa using h2 t i (by simpa using q)
section
variable {K : PySem.W.Frag} {mg : Str → Option Value} {Γ : Gam K mg} {G H G' H' : Hp} {ρ : Rho} {σ : L2.St} {ms : List Addr} {cs ls : List CO} {js : List Nat}
/-- the cells that go into a call -/
theorem cells_pick (h : CellsOk K G H ms cs) (hj : okJ js ms.length = true) (nj : js.Nodup) (hp : pickC js cs = some ls) : CellsOk K G H (pickA js ms) ls := by
  obtain ⟨p1, p2⟩ := pickC_get hp
  obtain ⟨a1, a2⟩ := pickA_get hj
  have nd := cells_nd h
  refine cells_mk (by rw [p1, a1]) ?_ fun t a c e1 e2 => ?_
  · refine List.pairwise_iff_getElem.mpr fun i j hi' hj' hij e0 => ?_
    have hjl : j < js.length := by omega
    have hi : i < js.length := by omega
    have e : (pickA js ms)[i]? = (pickA js ms)[j]? := by
      rw [List.getElem?_eq_getElem hi', List.getElem?_eq_getElem hj', e0]
    obtain ⟨b1, b2⟩ := a2 i js[i] (by simp [hi])
    obtain ⟨c1, c2⟩ := a2 j js[j] (by simp [hjl])
    rw [b1, c1] at e
    have e3 : ms[js[i]] = ms[js[j]] := by simpa [b2, c2] using e
    have e4 := (List.getElem_inj nd).mp e3
    have e5 := (List.getElem_inj nj).mp e4
    omega
  · obtain ⟨j, q1, q2⟩ := p2 t c e2
    obtain ⟨b1, b2⟩ := a2 t j q1
    rw [b1] at e1
    exact cells_get h e1 q2
/-- behind the call -/
theorem Cfg.called (c : Cfg Γ G ρ ms cs σ H) (hj : okJ js ms.length = true) (nj : js.Nodup) (gr : Grow (pickA js ms) G H G' H') (ex : Same G' H') (hc : CellsOk K G' H' (pickA js ms) ls) : Cfg Γ G' ρ ms (putC js ls cs) σ H' := by
  obtain ⟨a1, a2⟩ := pickA_get hj
  have nd := cells_nd c.cells
  have inj : ∀ {t j a}, js[t]? = some j → ms[j]? = some a → (pickA js ms)[t]? = some a := fun h1 h2 => by rw [(a2 _ _ h1).1]; exact h2
  refine ⟨ex, cells_mk (by rw [putC_len]; exact cells_len c.cells) nd fun j a co e1 e2 => ?_, env_mono gr.gg c.env, ⟨c.grow.gg.trans gr.gg, fun b o n h => gr.hh b o (fun m => ?_) (c.grow.hh b o n h), fun b o h => ?_, fun b o h n => ?_⟩, c.loc⟩
  · by_cases hm : j ∈ js
    · obtain ⟨t, ht⟩ := List.mem_iff_getElem?.mp hm
      have hl : t < ls.length := by
        have := cells_len hc
        rw [a1] at this
        have := (List.getElem?_eq_some_iff.mp ht).1
        omega
      have e3 := putC_in js ls cs nj ht (c := ls[t]) (by simp [hl]) (by
        have := (List.getElem?_eq_some_iff.mp e1).1
        have := cells_len c.cells
        omega)
      rw [e3] at e2
      cases e2
      exact cells_get hc (inj ht e1) (by simp [hl])
    · rw [putC_out js ls cs hm] at e2
      obtain ⟨g1, g2⟩ := cells_get c.cells e1 e2
      have na : a ∉ pickA js ms := fun z => by
        obtain ⟨t, ht⟩ := List.mem_iff_getElem?.mp z
        have hl : t < js.length := by
          have := (List.getElem?_eq_some_iff.mp ht).1
          omega
        obtain ⟨b1, b2⟩ := a2 t js[t] (by simp [hl])
        rw [b1] at ht
        have e4 : ms[js[t]]? = ms[j]? := ht.trans e1.symm
        have hjl := (List.getElem?_eq_some_iff.mp e1).1
        have e5 : ms[js[t]] = ms[j] := by simpa [b2, hjl] using e4
        have e6 := (List.getElem_inj nd).mp e5
        exact hm (by rw [← e6]; exact List.getElem_mem hl)
      obtain ⟨_, o, ho⟩ := cells_mem c.cells (List.mem_of_getElem? e1)
      exact ⟨gr.nw a o ho g1, cell_to g2 gr.gg fun o' h => gr.hh a o' na h⟩
  · have hb : b ∈ ms := by
      obtain ⟨t, ht⟩ := List.mem_iff_getElem?.mp m
      have hl : t < js.length := by
        have := (List.getElem?_eq_some_iff.mp ht).1
        omega
      obtain ⟨b1, b2⟩ := a2 t js[t] (by simp [hl])
      rw [b1] at ht
      exact List.mem_of_getElem? ht
    rcases c.loc b hb with z | z
    · exact n z
    · rw [z] at h; cases h
  · obtain ⟨o', h'⟩ := c.grow.th b o h
    exact gr.th b o' h'
  · obtain ⟨o', h'⟩ := c.grow.th b o h
    exact gr.nw b o' h' (c.grow.nw b o h n)
end
/-- an argument list with cells -/
def SemArg (K : PySem.W.Frag) (mg : Str → Option Value) (W : XK) (ks : List AK) (js : List Nat) (ta : TA) (ρ : Rho) (ms : List Addr) (cs : List CO) (m : Out (List PD × List CO)) : Prop :=
  ∀ (Γ : Gam K mg) (G : Hp) (σ : L2.St) (H : Hp) (Q : List V → Hp → Prop), Γ.W = W → Cfg Γ G ρ ms cs σ H → Res Γ.We m (fun b => ∀ vs G' H', Same G G' → Cfg Γ G' ρ ms b.2 σ H' → There H H' → ArgsA K G' ks vs b.1 (pickA js ms) → Q vs H') → ta σ H Q
def GX (X : Cx) (W : XK) (ks : List AK) (js : List Nat) (es : List Expr) (ρ : Rho) (ms : List Addr) (cs : List CO) (m : Out (List PD × List CO)) : Prop := ∃ ta, PA X es ta ∧ SemArg X.K X.mg W ks js ta ρ ms cs m
section
variable {X : Cx} {W : XK} {e : Expr} {es : List Expr} {ρ : Rho} {ms : List Addr} {cs : List CO} {pos p : Pos} {ks : List AK} {js : List Nat}
theorem gx_nil : GX X W [] [] [] ρ ms cs (.ok ([], cs)) := ⟨_, pa_nil, fun Γ G σ H Q hw c hr => hr [] G H (Same.refl _) c (Kept.there (Same.refl _)) .nil⟩
theorem gx_all {m : List CO → Out (List PD × List CO)} (h : ∀ cs, GX X W ks js es ρ ms cs (m cs)) : ∃ ta, PA X es ta ∧ ∀ cs, SemArg X.K X.mg W ks js ta ρ ms cs (m cs) := by
  refine ⟨_, pa_all (t := fun cs => (h cs).choose) fun cs => (h cs).choose_spec.1, fun cs Γ G σ H Q hw c hr => ⟨cs, (h cs).choose_spec.2 Γ G σ H Q hw c hr⟩⟩
theorem gx_d {ma : Out PD} {mr : Out (List PD × List CO)} (ha : EP X W (RD X.K) e ρ ms cs ma) (hr : GX X W ks js es ρ ms cs mr) (hs : starEach (e :: es) X.env = (false, eval e X.env) :: starEach es X.env := by rfl) : GX X W (.d :: ks) js (e :: es) ρ ms cs (ma >>= fun x => mr >>= fun xs => .ok (x :: xs.1, xs.2)) := by
  obtain ⟨ta, a1, a2⟩ := ha
  obtain ⟨tr, b1, b2⟩ := hr
  refine ⟨_, pa_cons a1 b1 hs, fun Γ G σ H Q hw c hr => a2 Γ G σ H _ hw c (hr.bind.mono fun x k v G1 H1 g1 c1 k1 r1 => b2 Γ G1 σ H1 _ hw c1 (k.bind.mono fun xs k2 vs G2 H2 g2 c2 k2' r2 => ?_))⟩
  exact k2 (v :: vs) G2 H2 (g1.trans g2) c2 (k1.there.trans k2') (.d (dp_mono g2 r1) r2)
theorem gx_x {ma : Out (PD × List CO)} {mr : List CO → Out (List PD × List CO)} (ha : EX X W (RD X.K) e ρ ms cs ma) (hr : ∀ cs1, GX X W ks js es ρ ms cs1 (mr cs1)) (hs : starEach (e :: es) X.env = (false, eval e X.env) :: starEach es X.env := by rfl) : GX X W (.d :: ks) js (e :: es) ρ ms cs (ma >>= fun x => mr x.2 >>= fun xs => .ok (x.1 :: xs.1, xs.2)) := by
  obtain ⟨ta, a1, a2⟩ := ha
  obtain ⟨tr, b1, b2⟩ := gx_all hr
  refine ⟨_, pa_cons a1 b1 hs, fun Γ G σ H Q hw c hr => a2 Γ G σ H _ hw c (hr.bind.mono fun x k v G1 H1 g1 c1 k1 r1 => b2 x.2 Γ G1 σ H1 _ hw c1 (k.bind.mono fun xs k2 vs G2 H2 g2 c2 k2' r2 => ?_))⟩
  exact k2 (v :: vs) G2 H2 (g1.trans g2) c2 (k1.trans k2') (.d (dp_mono g2 r1) r2)
theorem gx_c (i j : Nat) {x : Str} {ad : Addr} {mr : Out (List PD × List CO)} (hr : GX X W ks js es ρ ms cs mr) (h : ρ[i]? = some (some (.c ad)) := by rfl) (h1 : ms[j]? = some ad := by rfl) (hN : X.N[i]? = some x := by rfl)
    (hv : Vis X.env.scope x := by first | exact Or.inl rfl | exact Or.inr (Or.inl rfl) | exact Or.inr (Or.inr rfl)) (hd : (x == ("__debug__" : Str)) = false := by decide) (hcd : (x == ("__classdict__" : Str)) = false := by decide) (hs : starEach (.Name x p :: es) X.env = (false, eval (.Name x p) X.env) :: starEach es X.env := by rfl) :
    GX X W (.c :: ks) (j :: js) (.Name x p :: es) ρ ms cs mr := by
  obtain ⟨tr, b1, b2⟩ := hr
  refine ⟨_, pa_cons (pe_var hN hv hd hcd) b1 hs, fun Γ G σ H Q hw c hr => ?_⟩
  obtain ⟨v, h3, h4⟩ := env_get c.env h
  subst h4
  refine ⟨_, h3, b2 Γ G σ H _ hw c (hr.mono fun xs k2 vs G2 H2 g2 c2 k2' r2 => k2 _ G2 H2 g2 c2 k2' ?_)⟩
  show ArgsA X.K G2 (.c :: ks) (.ref ad :: vs) xs.1 (match ms[j]? with | some a => a :: pickA js ms | none => pickA js ms)
  rw [h1]
  exact .c r2
theorem gx_k (i j : Nat) {x : Str} {ad : Addr} {mr : Out (List PD × List CO)} (hr : GX X W ks js es ρ ms cs mr) (h : ρ[i]? = some (some (.c ad)) := by rfl) (h1 : ms[j]? = some ad := by rfl) (hN : X.N[i]? = some x := by rfl)
    (hv : Vis X.env.scope x := by first | exact Or.inl rfl | exact Or.inr (Or.inl rfl) | exact Or.inr (Or.inr rfl)) (hd : (x == ("__debug__" : Str)) = false := by decide) (hcd : (x == ("__classdict__" : Str)) = false := by decide) (hs : starEach (.Name x p :: es) X.env = (false, eval (.Name x p) X.env) :: starEach es X.env := by rfl) :
    GX X W (.k :: ks) (j :: js) (.Name x p :: es) ρ ms cs mr := by
  obtain ⟨tr, b1, b2⟩ := hr
  refine ⟨_, pa_cons (pe_var hN hv hd hcd) b1 hs, fun Γ G σ H Q hw c hr => ?_⟩
  obtain ⟨v, h3, h4⟩ := env_get c.env h
  subst h4
  refine ⟨_, h3, b2 Γ G σ H _ hw c (hr.mono fun xs k2 vs G2 H2 g2 c2 k2' r2 => k2 _ G2 H2 g2 c2 k2' ?_)⟩
  show ArgsA X.K G2 (.k :: ks) (.ref ad :: vs) xs.1 (match ms[j]? with | some a => a :: pickA js ms | none => pickA js ms)
  rw [h1]
  exact .k r2
/-- back to an earlier heap -/
def Back {β : Type} (R : VR β) : Prop := ∀ H0 H1 G H v b, There H0 H1 → R H1 G H v b → R H0 G H v b
theorem back_d {K : PySem.W.Frag} : Back (RD K) := fun _ _ _ _ _ _ _ h => h
theorem back_l {K : PySem.W.Frag} : Back (RL K) := fun _ _ _ _ _ _ t ⟨p, vs, e, h0, r⟩ => ⟨p, vs, e, t.free h0, r⟩
def callC {β : Type} (js : List Nat) (cs : List CO) (f : List CO → Out (β × List CO)) : Out (β × List CO) := match pickC js cs with
  | some ls => f ls >>= fun r => .ok (r.1, putC js r.2 cs)
  | none => .bad
/-- f(..) with cells -/
theorem ex_call {β : Type} {RR : VR β} {fm : FTy (Out (β × List CO)) ks} {m : Out (List PD × List CO)} {CX : CXT} {k : Nat} {f : Addr} {fd : FuncData} {ps : List Str} {x : Str} (Fk : FnOk X.prog X.w X.K X.mg X.base CX k f fd ps (prm X.K X.mg ks RR fm)) (hB : Back RR) (hr : Room k X.A) (hm : X.mg x = some (.ref f)) (hk : PySem.W.keepIn X.K (.ref f) = true) (hb : Binds X.K fd ps [])
    (hx : Passes CX X W) (ha : GX X W ks js (e :: es) ρ ms cs m) (hj : okJ js ms.length = true := by rfl) (nj : js.Nodup := by decide) (hg : Gl X x := by rfl) (hdb : (x == ("__debug__" : Str)) = false := by decide) (he : starEach (e :: es) X.env = (false, eval e X.env) :: starEach es X.env := by rfl) (hpl : (backTo pos (starEach es X.env)).any (·.1) = false := by rfl) :
    EX X W RR (.Call (.Name x p) (e :: es) [] pos) ρ ms cs (m >>= fun a => callC js a.2 (app ks fm a.1)) := by
  obtain ⟨ta, a1, a2⟩ := ha
  refine ⟨_, pe_call Fk hr hg hm hk hb .nil hx a1 hdb he hpl, fun Γ G σ H Q hw c hres => a2 Γ G σ H _ hw c (hres.bind.mono fun a q vs G1 H1 g1 c1 t1 r1 => ?_)⟩
  rw [List.append_nil]
  unfold callC at q
  cases ep : pickC js a.2 with
  | none => rw [ep] at q; exact q.elim
  | some ls =>
    rw [ep] at q
    refine ⟨a.1, pickA js ms, ls, G1, Γ.We, r1, c1.ex, cells_pick c1.cells hj nj ep, fun z fs cls d G' H' we gr ex xr => ?_, (Res.bind q).mono fun r q2 v G' H' gr ex cc rr => ?_⟩
    · rw [← hw]
      refine Γ.ok z fs cls d G' H' we ⟨c1.grow.gg.trans gr.gg, fun b o n h => gr.hh b o (fun mm => ?_) (c1.grow.hh b o n h), fun b o h => ?_, fun b o h n => ?_⟩ ex xr
      · obtain ⟨a1', a2'⟩ := pickA_get hj
        obtain ⟨t, ht⟩ := List.mem_iff_getElem?.mp mm
        have hl : t < js.length := by
          have := (List.getElem?_eq_some_iff.mp ht).1
          omega
        obtain ⟨b1, b2⟩ := a2' t js[t] (by simp [hl])
        rw [b1] at ht
        rcases c1.loc b (List.mem_of_getElem? ht) with z | z
        · exact n z
        · rw [z] at h; cases h
      · obtain ⟨o', h'⟩ := c1.grow.th b o h
        exact gr.th b o' h'
      · obtain ⟨o', h'⟩ := c1.grow.th b o h
        exact gr.nw b o' h' (c1.grow.nw b o h n)
    · have q3 : ∀ v G' H', Same G G' → Cfg Γ G' ρ ms (putC js r.2 a.2) σ H' → There H H' → RR H G' H' v r.1 → Q v H' := q2
      exact q3 v G' H' (g1.trans gr.gg) (c1.called hj nj gr ex cc) (t1.trans gr.th) (hB _ _ _ _ _ _ t1 rr)
def dOnly {β : Type} (f : Out (β × List CO)) : Out β := f >>= fun r => .ok r.1
/-- f(..), data alone -/
theorem ep_call {β : Type} {RR : VR β} {fm : FTy (Out (β × List CO)) ks} {m : Out (List PD)} {CX : CXT} {k : Nat} {f : Addr} {fd : FuncData} {ps : List Str} {x : Str} (Fk : FnOk X.prog X.w X.K X.mg X.base CX k f fd ps (prm X.K X.mg ks RR fm)) (hB : Back RR) (hr : Room k X.A) (hm : X.mg x = some (.ref f)) (hk : PySem.W.keepIn X.K (.ref f) = true) (hb : Binds X.K fd ps [])
    (hx : Passes CX X W) (ha : AP X W (e :: es) ρ ms cs m) (hks : ks = (e :: es).map fun _ => AK.d := by rfl) (hg : Gl X x := by rfl) (hdb : (x == ("__debug__" : Str)) = false := by decide) (he : starEach (e :: es) X.env = (false, eval e X.env) :: starEach es X.env := by rfl) (hpl : (backTo pos (starEach es X.env)).any (·.1) = false := by rfl) :
    EP X W RR (.Call (.Name x p) (e :: es) [] pos) ρ ms cs (m >>= fun a => dOnly (app ks fm a [])) := by
  obtain ⟨ta, a1, a2⟩ := ha
  refine ⟨_, pe_call Fk hr hg hm hk hb .nil hx a1 hdb he hpl, fun Γ G σ H Q hw c hres => a2 Γ G σ H _ hw c (hres.bind.mono fun a q vs G1 H1 g1 c1 t1 r1 n1 => ?_)⟩
  rw [List.append_nil]
  have args : ∀ {l : List Expr} {vs : List V} {ds : List PD}, DpAll X.K G1 vs ds → ds.length = l.length → ArgsA X.K G1 (l.map fun _ => AK.d) vs ds [] := by
    intro l
    induction l with
    | nil =>
      intro vs ds r n
      cases r with
      | nil => exact .nil
      | cons _ _ => simp at n
    | cons e l ih =>
      intro vs ds r n
      cases r with
      | nil => simp at n
      | cons h t => exact .d h (ih t (by simpa using n))
  have ra := args r1 n1
  rw [← hks] at ra
  refine ⟨a, [], [], G1, Γ.We, ra, c1.ex, .nil, fun z fs cls d G' H' we gr ex xr => ?_, (Res.bind q).mono fun r q2 v G' H' gr ex cc rr => ?_⟩
  · rw [← hw]
    refine Γ.ok z fs cls d G' H' we ⟨c1.grow.gg.trans gr.gg, fun b o n h => gr.hh b o (by simp) (c1.grow.hh b o n h), fun b o h => ?_, fun b o h n => ?_⟩ ex xr
    · obtain ⟨o', h'⟩ := c1.grow.th b o h
      exact gr.th b o' h'
    · obtain ⟨o', h'⟩ := c1.grow.th b o h
      exact gr.nw b o' h' (c1.grow.nw b o h n)
  · have q3 : ∀ v G' H', Same G G' → Cfg Γ G' ρ ms cs σ H' → Kept H H' → RR H G' H' v r.1 → Q v H' := q2
    have kp : Kept H1 H' := fun b o h => gr.hh b o (by simp) h
    exact q3 v G' H' (g1.trans gr.gg) (c1.keep gr.gg kp ex gr.nw) (t1.trans kp) (hB _ _ _ _ _ _ t1.there rr)
theorem ep_call0 {β : Type} {RR : VR β} {fm : FTy (Out (β × List CO)) []} {CX : CXT} {k : Nat} {f : Addr} {fd : FuncData} {x : Str} (Fk : FnOk X.prog X.w X.K X.mg X.base CX k f fd [] (prm X.K X.mg [] RR fm)) (hr : Room k X.A) (hm : X.mg x = some (.ref f)) (hk : PySem.W.keepIn X.K (.ref f) = true) (hb : Binds X.K fd [] [])
    (hx : Passes CX X W) (hg : Gl X x := by rfl) (hdb : (x == ("__debug__" : Str)) = false := by decide) :
    EP X W RR (.Call (.Name x p) [] [] pos) ρ ms cs (dOnly fm) := by
  refine ⟨_, pe_call0 Fk hr hg hm hk hb .nil hx hdb, fun Γ G σ H Q hw c hres => ?_⟩
  refine ⟨[], [], [], G, Γ.We, .nil, c.ex, .nil, fun z fs cls d G' H' we gr ex xr => ?_, (Res.bind hres).mono fun r q2 v G' H' gr ex cc rr => ?_⟩
  · rw [← hw]
    refine Γ.ok z fs cls d G' H' we ⟨c.grow.gg.trans gr.gg, fun b o n h => gr.hh b o (by simp) (c.grow.hh b o n h), fun b o h => ?_, fun b o h n => ?_⟩ ex xr
    · obtain ⟨o', h'⟩ := c.grow.th b o h
      exact gr.th b o' h'
    · obtain ⟨o', h'⟩ := c.grow.th b o h
      exact gr.nw b o' h' (c.grow.nw b o h n)
  · have q3 : ∀ v G' H', Same G G' → Cfg Γ G' ρ ms cs σ H' → Kept H H' → RR H G' H' v r.1 → Q v H' := q2
    have kp : Kept H H' := fun b o h => gr.hh b o (by simp) h
    exact q3 v G' H' gr.gg (c.keep gr.gg kp ex gr.nw) kp rr
/-- f(new list, data ..) -/
theorem ex_callF {β : Type} {RR : VR β} {fm : FTy (Out (β × List CO)) (.c :: ks)} {m0 : Out (List PD × List CO)} {m : List CO → Out (List PD × List CO)} {CX : CXT} {k : Nat} {f : Addr} {fd : FuncData} {ps : List Str} {x : Str} (Fk : FnOk X.prog X.w X.K X.mg X.base CX k f fd ps (prm X.K X.mg (.c :: ks) RR fm)) (hB : Back RR) (hr : Room k X.A) (hm : X.mg x = some (.ref f)) (hk : PySem.W.keepIn X.K (.ref f) = true) (hb : Binds X.K fd ps [])
    (hx : Passes CX X W) (h0 : EX X W (RL X.K) e ρ ms cs m0) (ha : ∀ cs1, GX X W ks js es ρ ms cs1 (m cs1)) (hj : okJ js ms.length = true := by rfl) (nj : js.Nodup := by decide) (hg : Gl X x := by rfl) (hdb : (x == ("__debug__" : Str)) = false := by decide) (he : starEach (e :: es) X.env = (false, eval e X.env) :: starEach es X.env := by rfl) (hpl : (backTo pos (starEach es X.env)).any (·.1) = false := by rfl) :
    EX X W RR (.Call (.Name x p) (e :: es) [] pos) ρ ms cs (m0 >>= fun l => m l.2 >>= fun a => callC js a.2 fun ls => app (.c :: ks) fm a.1 (.l l.1 :: ls) >>= fun r => .ok (r.1, r.2.tail)) := by
  obtain ⟨te, e1, e2⟩ := h0
  obtain ⟨ta, a1, a2⟩ := gx_all ha
  refine ⟨_, pe_call Fk hr hg hm hk hb .nil hx (pa_cons e1 a1 he) hdb he hpl, fun Γ G σ H Q hw c hres => e2 Γ G σ H _ hw c (hres.bind.mono fun l q v0 G0 H0 g0 c0 t0 r0 => ?_)⟩
  obtain ⟨pa, vs0, rfl, h0, gp, hp, hd⟩ := r0
  obtain ⟨n1, n2⟩ := fresh_ok c h0
  have cc0 : Cfg (⟨G0, H0, ms, Γ.We, W, fun z fs cls d G' H' we gr ex xr => by
      rw [← hw]
      refine Γ.ok z fs cls d G' H' we ⟨c0.grow.gg.trans gr.gg, fun b o n h => gr.hh b o (fun mm => ?_) (c0.grow.hh b o n h), fun b o h => ?_, fun b o h n => ?_⟩ ex xr
      · rcases c0.loc b mm with z | z
        · exact n z
        · rw [z] at h; cases h
      · obtain ⟨o', h'⟩ := c0.grow.th b o h
        exact gr.th b o' h'
      · obtain ⟨o', h'⟩ := c0.grow.th b o h
        exact gr.nw b o' h' (c0.grow.nw b o h n)⟩ : Gam X.K X.mg) G0 ρ ms l.2 σ H0 := ⟨c0.ex, c0.cells, c0.env, Grow.refl, fun _ m => .inl m⟩
  refine a2 l.2 _ G0 σ H0 _ rfl cc0 (Res.mono (Res.bind (show Res Γ.We (m l.2 >>= fun a => callC js a.2 fun ls => app (.c :: ks) fm a.1 (.l l.1 :: ls) >>= fun r => .ok (r.1, r.2.tail)) _ from q)) fun a q vs G1 H1 g1 c1 t1 r1 => ?_)
  have hp1 : H1 pa = some (.lst vs0) := c1.grow.hh pa _ n1 hp
  have gp1 : G1 pa = none := c1.grow.nw pa _ hp gp
  have cΓ : Cfg Γ G1 ρ ms a.2 σ H1 := c0.rejoin rfl rfl rfl c1
  show prm X.K X.mg (.c :: ks) RR fm (V.ref pa :: (vs ++ [])) H1 Q W
  rw [List.append_nil]
  unfold callC at q
  cases ep : pickC js a.2 with
  | none => rw [ep] at q; exact q.elim
  | some ls =>
    rw [ep] at q
    have q1 : Res Γ.We ((app (.c :: ks) fm a.1 (.l l.1 :: ls) >>= fun r => .ok (r.1, r.2.tail)) >>= fun r => .ok (r.1, putC js r.2 a.2)) _ := q
    have np : pa ∉ pickA js ms := fun z => by
      obtain ⟨a1', a2'⟩ := pickA_get hj
      obtain ⟨t, ht⟩ := List.mem_iff_getElem?.mp z
      have hl : t < js.length := by
        have := (List.getElem?_eq_some_iff.mp ht).1
        omega
      obtain ⟨b1, b2⟩ := a2' t js[t] (by simp [hl])
      rw [b1] at ht
      exact n1 (List.mem_of_getElem? ht)
    refine ⟨a.1, pa :: pickA js ms, .l l.1 :: ls, G1, Γ.We, .c r1, c1.ex, .cons gp1 ⟨vs0, hp1, dpa_mono g1 hd⟩ np (cells_pick c1.cells hj nj ep), fun z fs cls d G' H' we gr ex xr => ?_, (Res.bind (Res.bind q1)).mono fun r q2 v G' H' gr ex cc rr => ?_⟩
    · rw [← hw]
      refine Γ.ok z fs cls d G' H' we ⟨cΓ.grow.gg.trans gr.gg, fun b o n h => gr.hh b o (fun mm => ?_) (cΓ.grow.hh b o n h), fun b o h => ?_, fun b o h n => ?_⟩ ex xr
      · rcases List.mem_cons.mp mm with e | mm
        · subst e; rw [n2] at h; cases h
        · obtain ⟨a1', a2'⟩ := pickA_get hj
          obtain ⟨t, ht⟩ := List.mem_iff_getElem?.mp mm
          have hl : t < js.length := by
            have := (List.getElem?_eq_some_iff.mp ht).1
            omega
          obtain ⟨b1, b2⟩ := a2' t js[t] (by simp [hl])
          rw [b1] at ht
          rcases c1.loc b (List.mem_of_getElem? ht) with z | z
          · rcases cΓ.loc b z with z | z
            · exact n z
            · rw [z] at h; cases h
          · have := c0.grow.th b o h
            obtain ⟨o', h'⟩ := this
            rw [show H0 b = none from z] at h'; cases h'
      · obtain ⟨o', h'⟩ := cΓ.grow.th b o h
        exact gr.th b o' h'
      · obtain ⟨o', h'⟩ := cΓ.grow.th b o h
        exact gr.nw b o' h' (cΓ.grow.nw b o h n)
    · have q3 : ∀ v G' H', Same G G' → Cfg Γ G' ρ ms (putC js r.2.tail a.2) σ H' → There H H' → RR H G' H' v r.1 → Q v H' := q2
      obtain ⟨rb, rl⟩ := r
      cases cc with
      | @cons _ cx _ cxs k1 k2 k3 k4 =>
        refine q3 v G' H' (g0.trans (g1.trans gr.gg)) ?_ (t0.trans (t1.trans gr.th)) (hB _ _ _ _ _ _ (t0.trans t1) rr)
        -- the temporary list is forgotten
        have c2 : Cfg Γ G1 ρ (pa :: ms) (.l l.1 :: a.2) σ H1 := cΓ.cell gp1 n1 n2 hp1 (dpa_mono g1 hd)
        have pj : pickA (0 :: js.map (· + 1)) (pa :: ms) = pa :: pickA js ms := by
          have sh : ∀ js : List Nat, pickA (js.map (· + 1)) (pa :: ms) = pickA js ms := by
            intro js
            induction js with
            | nil => rfl
            | cons j js ih =>
              show (match (pa :: ms)[j + 1]? with | some a => a :: pickA (js.map (· + 1)) (pa :: ms) | none => pickA (js.map (· + 1)) (pa :: ms)) = (match ms[j]? with | some a => a :: pickA js ms | none => pickA js ms)
              rw [ih, List.getElem?_cons_succ]
          show pa :: pickA (js.map (· + 1)) (pa :: ms) = _
          rw [sh]
        have okj : okJ (0 :: js.map (· + 1)) (pa :: ms).length = true := by
          have h : (decide (0 < (pa :: ms).length) && (js.map (· + 1)).all fun j => decide (j < (pa :: ms).length)) = true := by
            rw [Bool.and_eq_true]
            refine ⟨by simp, ?_⟩
            rw [List.all_map, List.all_eq_true]
            intro j hm'
            have := List.all_eq_true.mp hj j hm'
            simpa using this
          exact h
        have ndj : (0 :: js.map (· + 1)).Nodup := by
          refine List.nodup_cons.mpr ⟨by simp, ?_⟩
          rw [List.Nodup, List.pairwise_map]
          exact List.Pairwise.imp (fun h => by omega) nj
        have c3 := c2.called (ls := cx :: cxs) okj ndj (by rw [pj]; exact gr) ex (by rw [pj]; exact .cons k1 k2 k3 k4)
        have pp : ∀ (js : List Nat) (ls : List CO) (x : CO) (cs : List CO), putC (js.map (· + 1)) ls (x :: cs) = x :: putC js ls cs := by
          intro js
          induction js with
          | nil => intro ls x cs; rfl
          | cons j js ih =>
            intro ls x cs
            cases ls with
            | nil => rfl
            | cons l ls =>
              show putC (js.map (· + 1)) ls ((x :: cs).set (j + 1) l) = _
              rw [List.set_cons_succ, ih]
              rfl
        have e3 : putC (0 :: js.map (· + 1)) (cx :: cxs) (.l l.1 :: a.2) = cx :: putC js cxs a.2 := pp js cxs cx a.2
        rw [e3] at c3
        exact c3.drop (.drop .refl) (RLe.refl _)
end
end Dd
set_option Elab.async false
set_option linter.all false
set_option maxRecDepth 100000
set_option maxHeartbeats 2000000
namespace Dd
open PySem PySem.Spec PyProof.Rows L2
def unl {γ : Type} (k : List PD → List CO → Out γ) : List CO → Out γ
  | .l p :: r => k p r
  | _ => .bad
def unk {γ : Type} (k : List (Key × PD) → List CO → Out γ) : List CO → Out γ
  | .k p :: r => k p r
  | _ => .bad
def unn {γ : Type} (x : Out γ) : List CO → Out γ
  | [] => x
  | _ => .bad
@[simp] theorem unl_l {γ : Type} (k : List PD → List CO → Out γ) (p : List PD) (r : List CO) : unl k (.l p :: r) = k p r := rfl
@[simp] theorem unk_k {γ : Type} (k : List (Key × PD) → List CO → Out γ) (p : List (Key × PD)) (r : List CO) : unk k (.k p :: r) = k p r := rfl
@[simp] theorem unn_n {γ : Type} (x : Out γ) : unn x [] = x := rfl
theorem pe_bad {X : Cx} {e : Expr} : PE X e (fun _ _ _ => False) := ⟨fun _ _ _ _ _ _ h => h.elim⟩
theorem pt_bad {X : Cx} {e : Expr} : PT X e (fun _ _ _ => False) := ⟨fun _ _ _ _ _ _ h => h.elim⟩
theorem pw_bad {X : Cx} {e : Expr} : PW X e (fun _ _ _ => False) := ⟨fun _ _ _ _ _ _ _ h => h.elim⟩
theorem pa_bad {X : Cx} {es : List Expr} : PA X es (fun _ _ _ => False) := ⟨fun _ _ _ _ _ _ _ h => h.elim⟩
theorem po_bad {X : Cx} {e : Option Expr} : PO X e (fun _ _ _ => False) := ⟨fun _ _ _ _ _ _ h => h.elim⟩
theorem pts_bad {X : Cx} {es : List Expr} : PTs X es (fun _ _ _ => False) := ⟨fun _ _ _ _ _ _ h => h.elim⟩
theorem pi_bad {X : Cx} {t e : Expr} : PI X t e (fun _ _ _ => False) := ⟨fun _ _ _ _ _ _ h => h.elim⟩
section
variable {X : Cx} {W : XK} {m0 : List Addr} {N R L β : Type} {RR : VR R} {Rb : VR β} {rf : R → List CO} {nf : N → Sta} {lf : L → Sta} {st : List Stmt} {e tg : Expr} {es : List Expr} {eo : Option Expr} {ρ : Rho} {ms : List Addr} {ks : List AK} {js : List Nat} {pu : Bool} {Keep : List PD → List CO → Prop}
theorem ss_bad {cs : List CO} : SS X W m0 RR rf nf lf st ρ ms cs (.bad : Out (Ctl N R L)) := ⟨_, pss_never, fun Γ G σ H D hw hm c hr => hr.elim⟩
theorem ss_ul {f : List CO → List CO} {k : List PD → List CO → Out (Ctl N R L)} (h : ∀ p cs, SS X W m0 RR rf nf lf st ρ ms (f (.l p :: cs)) (k p cs)) : ∀ cs, SS X W m0 RR rf nf lf st ρ ms (f cs) (unl k cs)
  | [] => ss_bad
  | .l p :: r => h p r
  | .k p :: r => ss_bad
theorem ss_uk {f : List CO → List CO} {k : List (Key × PD) → List CO → Out (Ctl N R L)} (h : ∀ p cs, SS X W m0 RR rf nf lf st ρ ms (f (.k p :: cs)) (k p cs)) : ∀ cs, SS X W m0 RR rf nf lf st ρ ms (f cs) (unk k cs)
  | [] => ss_bad
  | .k p :: r => h p r
  | .l p :: r => ss_bad
theorem ss_un {f : List CO → List CO} {x : Out (Ctl N R L)} (h : SS X W m0 RR rf nf lf st ρ ms (f []) x) : ∀ cs, SS X W m0 RR rf nf lf st ρ ms (f cs) (unn x cs)
  | [] => h
  | _ :: _ => ss_bad
theorem ss_at {f : List CO → List CO} {cs : List CO} {k : List CO → Out (Ctl N R L)} (h : ∀ cs, SS X W m0 RR rf nf lf st ρ ms (f cs) (k cs)) : SS X W m0 RR rf nf lf st ρ ms (f cs) (k cs) := h cs
theorem ex_bad {cs : List CO} : EX X W Rb e ρ ms cs (.bad : Out (β × List CO)) := ⟨_, pe_bad, fun Γ G σ H Q hw c hr => hr.elim⟩
theorem ex_ul {f : List CO → List CO} {k : List PD → List CO → Out (β × List CO)} (h : ∀ p cs, EX X W Rb e ρ ms (f (.l p :: cs)) (k p cs)) : ∀ cs, EX X W Rb e ρ ms (f cs) (unl k cs)
  | [] => ex_bad
  | .l p :: r => h p r
  | .k p :: r => ex_bad
theorem ex_uk {f : List CO → List CO} {k : List (Key × PD) → List CO → Out (β × List CO)} (h : ∀ p cs, EX X W Rb e ρ ms (f (.k p :: cs)) (k p cs)) : ∀ cs, EX X W Rb e ρ ms (f cs) (unk k cs)
  | [] => ex_bad
  | .k p :: r => h p r
  | .l p :: r => ex_bad
theorem ex_un {f : List CO → List CO} {x : Out (β × List CO)} (h : EX X W Rb e ρ ms (f []) x) : ∀ cs, EX X W Rb e ρ ms (f cs) (unn x cs)
  | [] => h
  | _ :: _ => ex_bad
theorem tx_bad {cs : List CO} : TX X W e ρ ms cs (.bad : Out (Bool × List CO)) := ⟨_, pt_bad, fun Γ G σ H Q hw c hr => hr.elim⟩
theorem tx_ul {f : List CO → List CO} {k : List PD → List CO → Out (Bool × List CO)} (h : ∀ p cs, TX X W e ρ ms (f (.l p :: cs)) (k p cs)) : ∀ cs, TX X W e ρ ms (f cs) (unl k cs)
  | [] => tx_bad
  | .l p :: r => h p r
  | .k p :: r => tx_bad
theorem tx_uk {f : List CO → List CO} {k : List (Key × PD) → List CO → Out (Bool × List CO)} (h : ∀ p cs, TX X W e ρ ms (f (.k p :: cs)) (k p cs)) : ∀ cs, TX X W e ρ ms (f cs) (unk k cs)
  | [] => tx_bad
  | .k p :: r => h p r
  | .l p :: r => tx_bad
theorem tx_un {f : List CO → List CO} {x : Out (Bool × List CO)} (h : TX X W e ρ ms (f []) x) : ∀ cs, TX X W e ρ ms (f cs) (unn x cs)
  | [] => h
  | _ :: _ => tx_bad
theorem wx_bad {cs : List CO} : WX X W e ρ ms cs (.bad : Out (Bool × List CO)) := ⟨_, pw_bad, fun Γ G σ H Q hw c hr => hr.elim⟩
theorem wx_ul {f : List CO → List CO} {k : List PD → List CO → Out (Bool × List CO)} (h : ∀ p cs, WX X W e ρ ms (f (.l p :: cs)) (k p cs)) : ∀ cs, WX X W e ρ ms (f cs) (unl k cs)
  | [] => wx_bad
  | .l p :: r => h p r
  | .k p :: r => wx_bad
theorem wx_uk {f : List CO → List CO} {k : List (Key × PD) → List CO → Out (Bool × List CO)} (h : ∀ p cs, WX X W e ρ ms (f (.k p :: cs)) (k p cs)) : ∀ cs, WX X W e ρ ms (f cs) (unk k cs)
  | [] => wx_bad
  | .k p :: r => h p r
  | .l p :: r => wx_bad
theorem wx_un {f : List CO → List CO} {x : Out (Bool × List CO)} (h : WX X W e ρ ms (f []) x) : ∀ cs, WX X W e ρ ms (f cs) (unn x cs)
  | [] => h
  | _ :: _ => wx_bad
theorem ax_bad {cs : List CO} : AX X W es ρ ms cs (.bad : Out (List PD × List CO)) := ⟨_, pa_bad, fun Γ G σ H Q hw c hr => hr.elim⟩
theorem ax_ul {f : List CO → List CO} {k : List PD → List CO → Out (List PD × List CO)} (h : ∀ p cs, AX X W es ρ ms (f (.l p :: cs)) (k p cs)) : ∀ cs, AX X W es ρ ms (f cs) (unl k cs)
  | [] => ax_bad
  | .l p :: r => h p r
  | .k p :: r => ax_bad
theorem ax_uk {f : List CO → List CO} {k : List (Key × PD) → List CO → Out (List PD × List CO)} (h : ∀ p cs, AX X W es ρ ms (f (.k p :: cs)) (k p cs)) : ∀ cs, AX X W es ρ ms (f cs) (unk k cs)
  | [] => ax_bad
  | .k p :: r => h p r
  | .l p :: r => ax_bad
theorem ax_un {f : List CO → List CO} {x : Out (List PD × List CO)} (h : AX X W es ρ ms (f []) x) : ∀ cs, AX X W es ρ ms (f cs) (unn x cs)
  | [] => h
  | _ :: _ => ax_bad
theorem gx_bad {cs : List CO} : GX X W ks js es ρ ms cs (.bad : Out (List PD × List CO)) := ⟨_, pa_bad, fun Γ G σ H Q hw c hr => hr.elim⟩
theorem gx_ul {f : List CO → List CO} {k : List PD → List CO → Out (List PD × List CO)} (h : ∀ p cs, GX X W ks js es ρ ms (f (.l p :: cs)) (k p cs)) : ∀ cs, GX X W ks js es ρ ms (f cs) (unl k cs)
  | [] => gx_bad
  | .l p :: r => h p r
  | .k p :: r => gx_bad
theorem gx_uk {f : List CO → List CO} {k : List (Key × PD) → List CO → Out (List PD × List CO)} (h : ∀ p cs, GX X W ks js es ρ ms (f (.k p :: cs)) (k p cs)) : ∀ cs, GX X W ks js es ρ ms (f cs) (unk k cs)
  | [] => gx_bad
  | .k p :: r => h p r
  | .l p :: r => gx_bad
theorem gx_un {f : List CO → List CO} {x : Out (List PD × List CO)} (h : GX X W ks js es ρ ms (f []) x) : ∀ cs, GX X W ks js es ρ ms (f cs) (unn x cs)
  | [] => h
  | _ :: _ => gx_bad
theorem ox_bad {cs : List CO} : OX X W eo ρ ms cs (.bad : Out (Option Int × List CO)) := ⟨_, po_bad, fun Γ G σ H Q hw c hr => hr.elim⟩
theorem ox_ul {f : List CO → List CO} {k : List PD → List CO → Out (Option Int × List CO)} (h : ∀ p cs, OX X W eo ρ ms (f (.l p :: cs)) (k p cs)) : ∀ cs, OX X W eo ρ ms (f cs) (unl k cs)
  | [] => ox_bad
  | .l p :: r => h p r
  | .k p :: r => ox_bad
theorem ox_uk {f : List CO → List CO} {k : List (Key × PD) → List CO → Out (Option Int × List CO)} (h : ∀ p cs, OX X W eo ρ ms (f (.k p :: cs)) (k p cs)) : ∀ cs, OX X W eo ρ ms (f cs) (unk k cs)
  | [] => ox_bad
  | .k p :: r => h p r
  | .l p :: r => ox_bad
theorem ox_un {f : List CO → List CO} {x : Out (Option Int × List CO)} (h : OX X W eo ρ ms (f []) x) : ∀ cs, OX X W eo ρ ms (f cs) (unn x cs)
  | [] => h
  | _ :: _ => ox_bad
theorem ts_bad {cs : List CO} : TsX X W es ρ ms cs (.bad : Out (Bool × List CO)) := ⟨_, pts_bad, fun Γ G σ H Q hw c hr => hr.elim⟩
theorem ts_ul {f : List CO → List CO} {k : List PD → List CO → Out (Bool × List CO)} (h : ∀ p cs, TsX X W es ρ ms (f (.l p :: cs)) (k p cs)) : ∀ cs, TsX X W es ρ ms (f cs) (unl k cs)
  | [] => ts_bad
  | .l p :: r => h p r
  | .k p :: r => ts_bad
theorem ts_uk {f : List CO → List CO} {k : List (Key × PD) → List CO → Out (Bool × List CO)} (h : ∀ p cs, TsX X W es ρ ms (f (.k p :: cs)) (k p cs)) : ∀ cs, TsX X W es ρ ms (f cs) (unk k cs)
  | [] => ts_bad
  | .k p :: r => h p r
  | .l p :: r => ts_bad
theorem ts_un {f : List CO → List CO} {x : Out (Bool × List CO)} (h : TsX X W es ρ ms (f []) x) : ∀ cs, TsX X W es ρ ms (f cs) (unn x cs)
  | [] => h
  | _ :: _ => ts_bad
end
section
variable {X : Cx} {W : XK} {m0 : List Addr} {N R L N1 : Type} {RR : VR R} {rf : R → List CO} {nf : N → Sta} {nf1 : N1 → Sta} {lf : L → Sta} {st : Stmt} {rest body sa sb : List Stmt} {e c tg iter a b elt : Expr} {ρ ρ' : Rho} {ms ms' : List Addr} {cs cs' : List CO} {pos p p2 : Pos} {scope : Scope} {own : List (Str × Nat)} {ifs : List Expr}
theorem passN {E : XK} : Passes CX0 X E := fun _ _ _ _ _ _ _ h => h.elim
/-! ### xs[i] = e -/
def setD (ds : List PD) (i d : PD) : Out (List PD) := match i with
  | .int i => match ixN ds.length i with
    | some j => .ok (ds.set j d)
    | none => .bad
  | _ => .bad
theorem ss_setX (i j : Nat) {x : Str} {ad : Addr} {m : Out (PD × List CO)} {mi : List CO → Out (PD × List CO)} {k : List CO → Out (Ctl N R L)} (h : EX X W (RD X.K) e ρ ms cs m) (hi : ∀ cs1, EX X W (RD X.K) a ρ ms cs1 (mi cs1)) (hk : ∀ cs1, SS X W m0 RR rf nf lf rest ρ ms cs1 (k cs1)) (h3 : ρ[i]? = some (some (.c ad)) := by rfl) (h1 : ms[j]? = some ad := by rfl) (hN : X.N[i]? = some x := by rfl)
    (hv : Vis X.env.scope x := by first | exact Or.inl rfl | exact Or.inr (Or.inl rfl) | exact Or.inr (Or.inr rfl)) (hd : (x == ("__debug__" : Str)) = false := by decide) (hcd : (x == ("__classdict__" : Str)) = false := by decide)
    (hs : swapsWithSole [.Subscript (.Name x p) a p2] e pos.line X.env = pure false := by rfl) (hw : swappedStores [.Subscript (.Name x p) a p2] e X.env = pure none := by rfl) (ha1 : (assignEach [.Subscript (.Name x p) a p2] X.env).map (·.2) = [assign (.Subscript (.Name x p) a p2) X.env] := by rfl)
    (hsub : ∀ v, assign (.Subscript (.Name x p) a p2) X.env v = (do
      let ov ← holding [v] (eval (.Name x p) X.env)
      let iv ← holding [v, ov] (eval a X.env)
      standAt p2
      holding [v, ov, iv] (setItem ov iv v)
      release [v, ov, iv] []) := by intro _; rfl) :
    SS X W m0 RR rf nf lf (.Assign [.Subscript (.Name x p) a p2] e pos :: rest) ρ ms cs (m >>= fun d => mi d.2 >>= fun y => cellL j y.2 >>= fun ds => setD ds y.1 d.1 >>= fun ds' => k (y.2.set j (.l ds'))) := by
  obtain ⟨t, t1, t2⟩ := h
  obtain ⟨ti, i1, i2⟩ := ex_all hi
  refine ⟨_, pss_cons (ps_asg t1 (pg_sub (pe_var hN hv hd hcd) i1 set_list hsub) hs hw ha1) (pss_all (t := fun n => (hk n).choose) fun n => (hk n).choose_spec.1), fun Γ G σ H D hw hm c hr => t2 Γ G σ H _ hw c (hr.bind.mono fun d q v G1 H1 g1 c1 k1 r1 => ?_)⟩
  obtain ⟨vo, e3, e4⟩ := env_get c.env h3
  subst e4
  refine ⟨_, e3, i2 d.2 Γ G1 σ H1 _ hw c1 (q.bind.mono fun y q u G2 H2 g2 c2 k2 r2 => ?_)⟩
  obtain ⟨y, cs2⟩ := y
  unfold cellL at q
  cases e8 : cs2[j]? with
  | none => rw [e8] at q; exact q.elim
  | some co =>
    rw [e8] at q
    cases co with
    | k kvs => exact q.elim
    | l ds =>
      have q2 : Res Γ.We (setD ds y d.1 >>= fun ds' => k (cs2.set j (.l ds'))) (fun c => After Γ nf lf RR rf D G H c) := q
      cases y <;> first
        | exact q2.elim
        | skip
      rename_i n
      cases r2
      unfold setD at q2
      dsimp only at q2
      cases e9 : ixN ds.length n with
      | none => rw [e9] at q2; exact q2.elim
      | some jj =>
        rw [e9] at q2
        have q3 : Res Γ.We (k (cs2.set j (.l (ds.set jj d.1)))) (fun c => After Γ nf lf RR rf D G H c) := q2
        obtain ⟨g3, vs, h5, h6⟩ := cells_get c2.cells h1 e8
        refine ⟨ad, vs, n, jj, rfl, rfl, h5, by rw [dpa_len h6]; exact e9, ?_⟩
        exact ⟨cs2.set j (.l (ds.set jj d.1)), (hk _).choose_spec.2 Γ G2 _ _ D hw hm (c2.write h1 ⟨vs.set jj v, upd_same, dpa_set jj h6 (dp_mono g2 r1)⟩) (q3.mono fun y z => z.fwd (g1.trans g2) (k1.trans (k2.trans there_upd)))⟩
/-! ### x += e -/
/-- x op= e by values: as x op e, the operator's own in-place form -/
theorem ss_aug (i : Nat) {x : Str} {d0 : PD} {op : Operator} {r : R2} {f : PD → PD → Out PD} {m : Out PD} {k : PD → Out (Ctl N R L)} (ho : OpR X (inplaceOp op) r ∧ OpS X r (RD X.K) f) (hN : X.N.Nodup) (h : EP X W (RD X.K) e ρ ms cs m) (hk : ∀ d, SS X W m0 RR rf nf lf rest (ρ.set i (some (.d d))) ms cs (k d)) (h0 : ρ[i]? = some (some (.d d0)) := by rfl) (hi : X.N[i]? = some x := by rfl) (hx : Loc X.env.scope x := by first | exact Or.inl rfl | exact Or.inr rfl)
    (hf : X.fn x = true ∨ X.env.scope.names.lookup x = some .local := by first | exact .inl rfl | exact .inr rfl) :
    SS X W m0 RR rf nf lf (.AugAssign (.Name x p) op e pos :: rest) ρ ms cs (m >>= fun y => f d0 y >>= fun d => k d) := by
  obtain ⟨t, h1, h2⟩ := h
  have hp : PIp X op r := fun pins s σ H x y v u Q I rx ry q => augR ho.1 I rx ry q
  refine ⟨_, pss_cons (ps_aug hN hi hx h1 hp hf) (pss_all (t := fun n => (hk n).choose) fun n => (hk n).choose_spec.1), fun Γ G σ H D hw hm c hr => ?_⟩
  obtain ⟨v0, e3, e4⟩ := env_get c.env h0
  refine ⟨v0, e3, h2 Γ G σ H _ hw c (hr.bind.mono fun y q v G1 H1 g1 c1 k1 r1 => ?_)⟩
  refine ho.2 Γ G1 ρ ms cs σ H1 H v0 v d0 y _ c1 k1.there (.inl (dp_mono g1 e4)) (.inl r1) (q.bind.mono fun d q v2 G2 H2 g2 c2 k2 r2 => ?_)
  exact ⟨d, (hk d).choose_spec.2 Γ G2 _ H2 D hw hm (c2.env' (env_set c2.env (av := .d d) r2 i)) (q.mono fun y z => z.fwd (g1.trans g2) (Kept.there (k1.trans k2)))⟩
theorem oi_add : OpR X (inplaceOp .Add) (fun x y H Q => rI0 (fun i j => .int (i + j)) x y H Q ∨ ∃ i j, x = .str i ∧ y = .str j ∧ i.length + j.length ≤ sizeLine ∧ Q (.str (i ++ j)) H) ∧
    OpS X (fun x y H Q => rI0 (fun i j => .int (i + j)) x y H Q ∨ ∃ i j, x = .str i ∧ y = .str j ∧ i.length + j.length ≤ sizeLine ∧ Q (.str (i ++ j)) H) (RD X.K) (fun x y => match x, y with | .int a, .int b => addD (.int a) (.int b) | .str a, .str b => addD (.str a) (.str b) | _, _ => .bad) :=
  ⟨iop_add.or iop_add_str, ops_or _ ops_addI ops_addS fun x y => by cases x <;> cases y <;> first | exact .inl rfl | exact .inr rfl⟩
def iaddD (x y : PD) : Out PD := match x, y with
  | .int a, .int b => addD (.int a) (.int b)
  | .str a, .str b => addD (.str a) (.str b)
  | _, _ => .bad
theorem oi_add' : OpR X (inplaceOp .Add) (fun x y H Q => rI0 (fun i j => .int (i + j)) x y H Q ∨ ∃ i j, x = .str i ∧ y = .str j ∧ i.length + j.length ≤ sizeLine ∧ Q (.str (i ++ j)) H) ∧
    OpS X (fun x y H Q => rI0 (fun i j => .int (i + j)) x y H Q ∨ ∃ i j, x = .str i ∧ y = .str j ∧ i.length + j.length ≤ sizeLine ∧ Q (.str (i ++ j)) H) (RD X.K) iaddD := by
  refine ⟨oi_add.1, ?_⟩
  have e : iaddD = fun x y => match x, y with | .int a, .int b => addD (.int a) (.int b) | .str a, .str b => addD (.str a) (.str b) | _, _ => .bad := by
    funext x y; cases x <;> cases y <;> rfl
  rw [e]
  exact oi_add.2
theorem oi_sub : OpR X (inplaceOp .Sub) (rI0 fun i j => .int (i - j)) ∧ OpS X (rI0 fun i j => .int (i - j)) (RD X.K) subD := ⟨iop_sub, o_sub.2⟩
/-! ### a cell is known from here on -/
theorem env_frz {K : PySem.W.Frag} {G : Hp} {ad : Addr} {ds : List PD} (h : Dp K G (.ref ad) (.list ds)) : ∀ {ρ : Rho} {σ : L2.St}, EnvOk K G ρ σ → EnvOk K G (frzR ad ds ρ) σ := by
  intro ρ σ e
  induction e with
  | nil => exact .nil
  | non _ ih => exact .non ih
  | @som av v ρ σ q _ ih =>
    cases av with
    | d x => exact .som q ih
    | r x => exact .som q ih
    | c b =>
      show EnvOk K G ((if b = ad then some (.d (.list ds)) else some (.c b)) :: frzR ad ds ρ) _
      by_cases hb : b = ad
      · rw [if_pos hb]
        refine .som ?_ ih
        show Dp K G v (.list ds)
        rw [show v = V.ref b from q, hb]
        exact h
      · rw [if_neg hb]
        exact .som q ih
theorem ss_frz (j : Nat) {ad : Addr} {ds : List PD} {m : Out (Ctl N R L)} (h1 : ms[j]? = some ad) (h2 : cs[j]? = some (.l ds)) (hn : ∀ b ∈ m0, b ∈ ms.eraseIdx j) (h : SS X W m0 RR rf nf lf rest (frzR ad ds ρ) (ms.eraseIdx j) (cs.eraseIdx j) m) : SS X W m0 RR rf nf lf rest ρ ms cs m := by
  obtain ⟨t, t1, t2⟩ := h
  refine ⟨t, t1, fun Γ G σ H D hw hm c hr => ?_⟩
  obtain ⟨g, vs, h5, h6⟩ := cells_get c.cells h1 h2
  have s1 : Same G (upd G ad (.lst vs)) := same_new g
  have n0 : Γ.H ad = none := by
    rcases c.loc ad (List.mem_of_getElem? h1) with z | z
    · rw [hm] at z; exact (erase_ne (cells_nd c.cells) h1 (hn ad z) rfl).elim
    · exact z
  refine t2 Γ (upd G ad (.lst vs)) σ H D hw hm ⟨fun b x e => ?_, ?_, ?_, ⟨c.grow.gg.trans s1, c.grow.hh, c.grow.th, fun b x h n => ?_⟩, fun a m => c.loc a (List.mem_of_mem_eraseIdx m)⟩ (hr.mono fun y z => z.fwd s1 (Kept.there (Same.refl _)))
  · by_cases hb : b = ad
    · subst hb
      rw [upd_same] at e
      rw [h5]
      exact e
    · rw [upd_ne hb] at e
      exact c.ex b x e
  · refine cells_erase c.cells s1 h1 fun a m ne => ?_
    rw [upd_ne ne]
    exact (cells_mem c.cells m).1
  · exact env_frz (.lst (.inl (.inl upd_same)) (dpa_mono s1 h6)) (env_mono s1 c.env)
  · rw [upd_ne (ne_of_none h n0)]
    exact c.grow.nw b x h n
/-! ### y = [..] on one line -/
theorem ss_asgLcP (i : Nat) {x : Str} {m : Out (List PD)} {k : PD → Out (Ctl N R L)} (hc : X.calm = true) (hN : X.N.Nodup) (ok : BlkOk X.N X.env.scope scope own) (h : LCP X W scope own tg iter ifs elt ρ ms cs m) (hk : ∀ d, SS X W m0 RR rf nf lf rest (ρ.set i (some (.d d))) ms cs (k d)) (hl : (p.line == p2.line) = true := by rfl) (hi : X.N[i]? = some x := by rfl) (hx : X.env.scope.names.lookup x = some .local := by rfl)
    (hkd : X.env.scope.kind = .function := by rfl) (hq : (scope.names.any fun (n, k) => n == x && (k == .local || k == .cell)) = false := by decide +kernel) (hs : ∀ x, foldedSetIterable iter X.env x = pure x := by intro _; rfl) :
    SS X W m0 RR rf nf lf (.Assign [.Name x p] (.ListComp elt [⟨tg, iter, ifs, 0⟩] scope p2) pos :: rest) ρ ms cs (m >>= fun l => k (.list l)) := by
  obtain ⟨wi, g, tt, te, h1, h2, h3, h4, h5⟩ := h
  refine ⟨_, pss_cons (ps_setLc hc hN hi hx (sw_true hkd hx hl hq) h1 ok (fun s H C cl fp => h2 s H C cl fp) (fun s H C cl fp => h3 s H C cl fp) (fun s H C cl fp => h4 s H C cl fp) hs) (pss_all (t := fun n => (hk n).choose) fun n => (hk n).choose_spec.1), ?_⟩
  generalize tLc wi g tt te (own.map (·.2)) = tl at h5 ⊢
  refine fun Γ G σ H D hw hm c hr => h5 Γ G σ H _ hw c (hr.bind.mono fun d q v G1 H1 g1 c1 k1 r1 => ?_)
  obtain ⟨p, vs, rfl, h0, gp, hp, hd⟩ := r1
  obtain ⟨n1, n2⟩ := fresh_ok c h0
  obtain ⟨s1, c2⟩ := upd_known c1 gp hp n1 n2
  exact ⟨.list d, (hk _).choose_spec.2 Γ _ _ H1 D hw hm (c2.env' (env_set c2.env (av := .d (.list d)) (.lst (.inl (.inl upd_same)) (dpa_mono s1 hd)) i)) (q.mono fun y z => z.fwd (g1.trans s1) k1.there)⟩
theorem ss_asgLcX (i : Nat) {x : Str} {m : Out (List PD × List CO)} {k : PD → List CO → Out (Ctl N R L)} (hc : X.calm = true) (hN : X.N.Nodup) (ok : BlkOk X.N X.env.scope scope own) (h : LCX X W scope own tg iter ifs elt ρ ms cs m) (hk : ∀ d cs1, SS X W m0 RR rf nf lf rest (ρ.set i (some (.d d))) ms cs1 (k d cs1)) (hl : (p.line == p2.line) = true := by rfl) (hi : X.N[i]? = some x := by rfl) (hx : X.env.scope.names.lookup x = some .local := by rfl)
    (hkd : X.env.scope.kind = .function := by rfl) (hq : (scope.names.any fun (n, k) => n == x && (k == .local || k == .cell)) = false := by decide +kernel) (hs : ∀ x, foldedSetIterable iter X.env x = pure x := by intro _; rfl) :
    SS X W m0 RR rf nf lf (.Assign [.Name x p] (.ListComp elt [⟨tg, iter, ifs, 0⟩] scope p2) pos :: rest) ρ ms cs (m >>= fun l => k (.list l.1) l.2) := by
  obtain ⟨wi, g, tt, te, h1, h2, h3, h4, h5⟩ := h
  refine ⟨_, pss_cons (ps_setLc hc hN hi hx (sw_true hkd hx hl hq) h1 ok (fun s H C cl fp => h2 s H C cl fp) (fun s H C cl fp => h3 s H C cl fp) (fun s H C cl fp => h4 s H C cl fp) hs) (pss_all (t := fun (n : PD × List CO) => (hk n.1 n.2).choose) fun n => (hk n.1 n.2).choose_spec.1), ?_⟩
  generalize tLc wi g tt te (own.map (·.2)) = tl at h5 ⊢
  refine fun Γ G σ H D hw hm c hr => h5 Γ G σ H _ hw c (hr.bind.mono fun d q v G1 H1 g1 c1 k1 r1 => ?_)
  obtain ⟨p, vs, rfl, h0, gp, hp, hd⟩ := r1
  obtain ⟨n1, n2⟩ := fresh_ok c h0
  obtain ⟨s1, c2⟩ := upd_known c1 gp hp n1 n2
  exact ⟨(.list d.1, d.2), (hk _ _).choose_spec.2 Γ _ _ H1 D hw hm (c2.env' (env_set c2.env (av := .d (.list d.1)) (.lst (.inl (.inl upd_same)) (dpa_mono s1 hd)) i)) (q.mono fun y z => z.fwd (g1.trans s1) k1)⟩
/-- .. as a cell -/
theorem ss_asgLcC (i : Nat) {x : Str} {m : Out (List PD)} {k : List PD → Out (Ctl N R L)} (hc : X.calm = true) (hN : X.N.Nodup) (ok : BlkOk X.N X.env.scope scope own) (h : LCP X W scope own tg iter ifs elt ρ ms cs m) (hk : ∀ a ds, (∀ b ∈ m0, b ≠ a) → SS X W m0 RR rf nf lf rest (ρ.set i (some (.c a))) (a :: ms) (.l ds :: cs) (k ds)) (hl : (p.line == p2.line) = true := by rfl) (hi : X.N[i]? = some x := by rfl) (hx : X.env.scope.names.lookup x = some .local := by rfl)
    (hkd : X.env.scope.kind = .function := by rfl) (hq : (scope.names.any fun (n, k) => n == x && (k == .local || k == .cell)) = false := by decide +kernel) (hs : ∀ x, foldedSetIterable iter X.env x = pure x := by intro _; rfl) (hm0 : ∀ b ∈ m0, b ∈ ms := by simp) :
    SS X W m0 RR rf nf lf (.Assign [.Name x p] (.ListComp elt [⟨tg, iter, ifs, 0⟩] scope p2) pos :: rest) ρ ms cs (m >>= fun l => k l) := by
  obtain ⟨wi, g, tt, te, h1, h2, h3, h4, h5⟩ := h
  refine ⟨_, pss_cons (ps_setLc hc hN hi hx (sw_true hkd hx hl hq) h1 ok (fun s H C cl fp => h2 s H C cl fp) (fun s H C cl fp => h3 s H C cl fp) (fun s H C cl fp => h4 s H C cl fp) hs) (pss_all (t := fun (n : { a : Addr // ∀ b ∈ m0, b ≠ a } × List PD) => (hk n.1.1 n.2 n.1.2).choose) fun n => (hk n.1.1 n.2 n.1.2).choose_spec.1), ?_⟩
  generalize tLc wi g tt te (own.map (·.2)) = tl at h5 ⊢
  refine fun Γ G σ H D hw hm c hr => h5 Γ G σ H _ hw c (hr.bind.mono fun d q v G1 H1 g1 c1 k1 r1 => ?_)
  obtain ⟨pp, vs, rfl, h0, gp, hp, hd⟩ := r1
  obtain ⟨n1, n2⟩ := fresh_ok c h0
  have nm : ∀ b ∈ m0, b ≠ pp := fun b hb z => n1 (by rw [← z]; exact hm0 b hb)
  exact ⟨(⟨pp, nm⟩, d), (hk pp d nm).choose_spec.2 Γ G1 _ H1 D hw hm ((c1.cell gp n1 n2 hp hd).env' (env_set c1.env (av := .c pp) rfl i)) (q.mono fun y z => z.fwd g1 k1.there)⟩
/-! ### while -/
def whileM (t : L → Out Bool) (b : L → Out (Ctl L R L)) : Nat → L → Out (Ctl L R Empty)
  | 0, _ => .bad
  | n + 1, l => t l >>= fun c => if c then b l >>= fun x => match x with
    | .nx l' => whileM t b n l'
    | .ct l' => whileM t b n l'
    | .bk l' => .ok (.nx l')
    | .rt r => .ok (.rt r)
  else .ok (.nx l)
theorem s1_whileN {L1 : Type} (rho : L1 → As → Rho) (msf : As → List Addr) (cf : L1 → List CO) {t : L1 → Out Bool} {b : L1 → Out (Ctl L1 R L1)} (n : Nat) (as0 : As) (l0 : L1) (hp : PassesOwn (model X.prog X.w) X.A X.env X.xe) (h0 : CDrop ms cs (msf as0) (cf l0)) (hle : RLe (rho l0 as0) ρ)
    (ht : ∀ l as, TP X W c (rho l as) (msf as) (cf l) (t l)) (hb : ∀ l as, SS X W m0 RR rf (fun l as => (rho l as, msf as, cf l)) (fun l as => (rho l as, msf as, cf l)) body (rho l as) (msf as) (cf l) (b l)) :
    S1 X W m0 RR rf (fun l as => (rho l as, msf as, cf l)) lf (.While c body [] pos) ρ ms cs (whileM t b n l0 >>= fun y => .ok (dnC y)) := by
  refine ⟨_, ps_while hp (pt_all (t := fun (n : L1 × As) => (ht n.1 n.2).choose) fun n => (ht n.1 n.2).choose_spec.1) (pss_all (t := fun (n : L1 × As) => (hb n.1 n.2).choose) fun n => (hb n.1 n.2).choose_spec.1), fun Γ G σ H D hw hm c0 hr => ?_⟩
  have hr : Res Γ.We (whileM t b n l0) (fun y => After Γ (fun l as => (rho l as, msf as, cf l)) lf RR rf D G H (dnC y)) := Res.bind hr
  refine ⟨fun k σ' H' => ∃ G2 l as, Same G G2 ∧ There H H' ∧ Cfg Γ G2 (rho l as) (msf as) (cf l) σ' H' ∧ Res Γ.We (whileM t b k l) (fun y => After Γ (fun l as => (rho l as, msf as, cf l)) lf RR rf D G H (dnC y)), ⟨n, G, l0, as0, Same.refl _, Kept.there (Same.refl _), c0.drop h0 hle, hr⟩, ?_⟩
  rintro k σ' H' ⟨G2, l, as, s2, t2, c2, r2⟩
  cases k with
  | zero => exact r2.elim
  | succ k =>
    have r3 := Res.bind (show Res Γ.We (t l >>= fun c => if c then b l >>= fun x => match x with
      | .nx l' => whileM t b k l'
      | .ct l' => whileM t b k l'
      | .bk l' => .ok (.nx l')
      | .rt r => .ok (.rt r)
      else .ok (.nx l)) _ from r2)
    refine ⟨(l, as), (ht l as).choose_spec.2 Γ G2 σ' H' _ hw c2 (r3.mono fun z q G3 H3 g3 c3 k3 => ?_)⟩
    cases z with
    | false =>
      show D.nx σ' H3
      have q' : After Γ (fun l as => (rho l as, msf as, cf l)) lf RR rf D G H (.nx l) := q
      exact q' as σ' G3 H3 (s2.trans g3) (t2.trans k3.there) c3
    | true =>
      refine ⟨fun σ3 H4 => ∃ G4 l' as', Same G G4 ∧ There H H4 ∧ Cfg Γ G4 (rho l' as') (msf as') (cf l') σ3 H4 ∧ Res Γ.We (whileM t b k l') (fun y => After Γ (fun l as => (rho l as, msf as, cf l)) lf RR rf D G H (dnC y)), fun σ3 H4 w => ⟨k, Nat.lt_succ_self k, w⟩, ?_⟩
      refine ⟨(l, as), (hb l as).choose_spec.2 Γ G3 σ' H3 _ hw hm c3 (Res.mono (Res.bind (show Res Γ.We (b l >>= fun x => match x with
        | .nx l' => whileM t b k l'
        | .ct l' => whileM t b k l'
        | .bk l' => .ok (.nx l')
        | .rt r => .ok (.rt r)) _ from q)) fun z q => ?_)⟩
      cases z with
      | nx l' => exact fun as' σ3 G4 H4 a1 a2 a3 => ⟨G4, l', as', s2.trans (g3.trans a1), t2.trans (k3.there.trans a2), a3, q⟩
      | ct l' => exact fun as' σ3 G4 H4 a1 a2 a3 => ⟨G4, l', as', s2.trans (g3.trans a1), t2.trans (k3.there.trans a2), a3, q⟩
      | bk l' => exact fun as' σ3 G4 H4 a1 a2 a3 => (show After Γ (fun l as => (rho l as, msf as, cf l)) lf RR rf D G H (.nx l') from q) as' σ3 G4 H4 (s2.trans (g3.trans a1)) (t2.trans (k3.there.trans a2)) a3
      | rt r => exact After.fwd (show After Γ (fun l as => (rho l as, msf as, cf l)) lf RR rf D G H (.rt r) from q) (s2.trans g3) (t2.trans k3.there)
end
end Dd
set_option Elab.async false
set_option linter.all false
set_option maxRecDepth 100000
set_option maxHeartbeats 2000000
namespace Dd
open PySem PySem.Spec PyProof.Rows L2
/-- the cell at ad told as data -/
inductive FrzR (ad : Addr) (ds : List PD) : Rho → Rho → Prop where
  | nil : FrzR ad ds [] []
  | keep {x : Option AV} {r s : Rho} : FrzR ad ds r s → FrzR ad ds (x :: r) (x :: s)
  | frz {r s : Rho} : FrzR ad ds r s → FrzR ad ds (some (.c ad) :: r) (some (.d (.list ds)) :: s)
theorem env_frz' {K : PySem.W.Frag} {G : Hp} {ad : Addr} {ds : List PD} (h : Dp K G (.ref ad) (.list ds)) {r s : Rho} (f : FrzR ad ds r s) : ∀ {σ : L2.St}, EnvOk K G r σ → EnvOk K G s σ := by
  induction f with
  | nil => exact fun e => e
  | keep _ ih =>
    intro σ e
    cases e with
    | non e => exact .non (ih e)
    | som q e => exact .som q (ih e)
  | frz _ ih =>
    intro σ e
    cases e with
    | som q e =>
      refine .som ?_ (ih e)
      rename_i v _
      show Dp K G v (.list ds)
      rw [show v = V.ref ad from q]
      exact h
def dropC : Nat → List CO → Out (List CO)
  | 0, cs => .ok cs
  | n + 1, _ :: cs => dropC n cs
  | _ + 1, [] => .bad
theorem dropC_err : ∀ (n : Nat) (cs : List CO) (z : Str) (fs : List (Str × PD)), dropC n cs ≠ .err z fs
  | 0, cs, z, fs, h => nomatch h
  | n + 1, _ :: cs, z, fs, h => dropC_err n cs z fs h
  | _ + 1, [], z, fs, h => nomatch h
theorem cdrop_of {m0 : List Addr} {p : List CO} : ∀ (pre : List Addr) {cs : List CO}, dropC pre.length cs = .ok p → CDrop (pre ++ m0) cs m0 p
  | [], cs, h => by cases h; exact .refl
  | a :: pre, [], h => by cases h
  | a :: pre, c :: cs, h => .drop (cdrop_of pre h)
section
variable {X : Cx} {W : XK} {m0 : List Addr} {N R L N1 : Type} {RR : VR R} {rf : R → List CO} {nf : N → Sta} {nf1 : N1 → Sta} {lf : L → Sta} {st : Stmt} {rest body sa sb : List Stmt} {e c tg iter a b elt : Expr} {ρ ρ' : Rho} {ms ms' : List Addr} {cs cs' : List CO} {pos p p2 : Pos} {scope : Scope} {own : List (Str × Nat)} {ifs : List Expr}
theorem ss_frz' (j : Nat) {ad : Addr} {ds : List PD} {m : Out (Ctl N R L)} (h1 : ms[j]? = some ad) (h2 : cs[j]? = some (.l ds)) (hn : ∀ b ∈ m0, b ∈ ms.eraseIdx j) (hf : FrzR ad ds ρ ρ') (h : SS X W m0 RR rf nf lf rest ρ' (ms.eraseIdx j) (cs.eraseIdx j) m) : SS X W m0 RR rf nf lf rest ρ ms cs m := by
  obtain ⟨t, t1, t2⟩ := h
  refine ⟨t, t1, fun Γ G σ H D hw hm c hr => ?_⟩
  obtain ⟨g, vs, h5, h6⟩ := cells_get c.cells h1 h2
  have s1 : Same G (upd G ad (.lst vs)) := same_new g
  have n0 : Γ.H ad = none := by
    rcases c.loc ad (List.mem_of_getElem? h1) with z | z
    · rw [hm] at z; exact (erase_ne (cells_nd c.cells) h1 (hn ad z) rfl).elim
    · exact z
  refine t2 Γ (upd G ad (.lst vs)) σ H D hw hm ⟨fun b x e => ?_, ?_, ?_, ⟨c.grow.gg.trans s1, c.grow.hh, c.grow.th, fun b x h n => ?_⟩, fun a m => c.loc a (List.mem_of_mem_eraseIdx m)⟩ (hr.mono fun y z => z.fwd s1 (Kept.there (Same.refl _)))
  · by_cases hb : b = ad
    · subst hb
      rw [upd_same] at e
      rw [h5]
      exact e
    · rw [upd_ne hb] at e
      exact c.ex b x e
  · refine cells_erase c.cells s1 h1 fun a m ne => ?_
    rw [upd_ne ne]
    exact (cells_mem c.cells m).1
  · exact env_frz' (.lst (.inl (.inl upd_same)) (dpa_mono s1 h6)) hf (env_mono s1 c.env)
  · rw [upd_ne (ne_of_none h n0)]
    exact c.grow.nw b x h n
theorem ss_retXg {β : Type} {R0 : VR β} {m : Out (β × List CO)} {mk : β → List CO → R} {g : List CO → Out (List CO)} (h : EX X W R0 e ρ ms cs m) (hr1 : ∀ d cs1 p, g cs1 = .ok p → CDrop ms cs1 m0 (rf (mk d p))) (hr2 : ∀ H0 H1 G H v d p, There H0 H1 → R0 H1 G H v d → RR H0 G H v (mk d p)) (hge : ∀ cs z fs, g cs ≠ .err z fs) :
    SS X W m0 RR rf nf lf (.Return (some e) pos :: rest) ρ ms cs (m >>= fun x => g x.2 >>= fun p => .ok (.rt (mk x.1 p))) := by
  obtain ⟨t, h1, h2⟩ := h
  refine ⟨_, pss_cons (ps_ret h1) pss_never, fun Γ G σ H D hw hm c hr => h2 Γ G σ H _ hw c (hr.bind.mono fun x k v G1 H1 g1 c1 t1 r1 => ?_)⟩
  have k1 := k.bind
  cases eg : g x.2 with
  | bad => rw [eg] at k1; exact k1.elim
  | err z fs => exact (hge _ _ _ eg).elim
  | ok p =>
    rw [eg] at k1
    refine k1 v G1 H1 g1 t1 c1.ex ?_ c1.grow (hr2 _ _ _ _ _ _ _ (fun a o z => c.grow.th a o z) r1)
    rw [hm]
    exact ((hr1 x.1 x.2 p eg).ok c1.cells).1
/-- xs.append(e), nothing changed on the way -/
theorem ss_appP (i j : Nat) {x : Str} {ad : Addr} {ds : List PD} {apos : Pos} {m : Out PD} {k : List PD → Out (Ctl N R L)} (h : EP X W (RD X.K) e ρ ms cs m) (hk : ∀ ds', SS X W m0 RR rf nf lf rest ρ ms (cs.set j (.l ds')) (k ds')) (h3 : ρ[i]? = some (some (.c ad)) := by rfl) (h1 : ms[j]? = some ad := by rfl) (h2 : cs[j]? = some (.l ds) := by rfl) (hN : X.N[i]? = some x := by rfl)
    (hv : Vis X.env.scope x := by first | exact Or.inl rfl | exact Or.inr (Or.inl rfl) | exact Or.inr (Or.inr rfl)) (hd : (x == ("__debug__" : Str)) = false := by decide) (hcd : (x == ("__classdict__" : Str)) = false := by decide)
    (hbase : attributeBase (.Name x p) "append" X.env (eval (.Name x p) X.env) = eval (.Name x p) X.env := by rfl)
    (hfew : ((backTo p2 (starEach (e :: []) X.env)).all (fun x => !x.1) && (backToKw p2 (keywordEach [] X.env)).all (fun x => x.1.isSome) && decide ((e :: []).length + ([] : List Keyword).length + (if ([] : List Keyword).isEmpty then 0 else 1) < 30)) = true := by rfl)
    (hline : (apos.endLine == p2.line) = true := by rfl) (hs : starEach (e :: []) X.env = (false, eval e X.env) :: starEach [] X.env := by rfl) (hplain : (backTo p2 (starEach [] X.env)).any (·.1) = false := by rfl)
    (hsw : swapsWith (.Call (.Attribute (.Name x p) "append" apos) [e] [] p2) none pos.line X.env = pure false := by rfl) :
    SS X W m0 RR rf nf lf (.Expr (.Call (.Attribute (.Name x p) "append" apos) [e] [] p2) pos :: rest) ρ ms cs (m >>= fun d => appD ds d >>= fun ds' => k ds') := by
  obtain ⟨t, t1, t2⟩ := h
  refine ⟨_, pss_cons (ps_expr (pe_bm PySem.F.plainAttrs_list PySem.F.slot_list_append PySem.F.type_list_append mt_append (pe_var hN hv hd hcd) (pa_cons t1 pa_nil hs) hbase hfew hline hs hplain) hsw) (pss_all (t := fun n => (hk n).choose) fun n => (hk n).choose_spec.1), fun Γ G σ H D hw hm c hr => ?_⟩
  obtain ⟨v, e3, e4⟩ := env_get c.env h3
  obtain ⟨g, vs0, e6, e7⟩ := cells_get c.cells h1 h2
  subst e4
  refine ⟨_, e3, .inl ⟨rfl, vs0, .inl (.inl e6)⟩, t2 Γ G σ H _ hw c (hr.bind.mono fun d q u G1 H1 g1 c1 k1 r1 => ?_)⟩
  obtain ⟨g2, vs, h5, h6⟩ := cells_get c1.cells h1 h2
  by_cases hz : ds.length < sizeLine
  · have q2 : Res Γ.We (appD ds d >>= fun ds' => k ds') (fun c => After Γ nf lf RR rf D G H c) := q
    rw [appD, if_pos hz] at q2
    have q' : Res Γ.We (k (ds ++ [d])) (fun c => After Γ nf lf RR rf D G H c) := q2
    refine ⟨ad, vs, u, rfl, rfl, h5, by rw [dpa_len h6]; exact hz, ?_⟩
    exact ⟨ds ++ [d], (hk _).choose_spec.2 Γ G1 _ _ D hw hm (c1.write h1 ⟨vs ++ [u], upd_same, dpa_append h6 (.cons r1 .nil)⟩) (q'.mono fun y z => z.fwd g1 (k1.there.trans there_upd))⟩
  · have q2 : Res Γ.We (appD ds d >>= fun ds' => k ds') (fun c => After Γ nf lf RR rf D G H c) := q
    rw [appD, if_neg hz] at q2
    exact q2.elim
theorem ss_setP (i j : Nat) {x : Str} {ad : Addr} {ds : List PD} {m mi : Out PD} {k : List PD → Out (Ctl N R L)} (h : EP X W (RD X.K) e ρ ms cs m) (hi : EP X W (RD X.K) a ρ ms cs mi) (hk : ∀ ds', SS X W m0 RR rf nf lf rest ρ ms (cs.set j (.l ds')) (k ds')) (h3 : ρ[i]? = some (some (.c ad)) := by rfl) (h1 : ms[j]? = some ad := by rfl) (h2 : cs[j]? = some (.l ds) := by rfl) (hN : X.N[i]? = some x := by rfl)
    (hv : Vis X.env.scope x := by first | exact Or.inl rfl | exact Or.inr (Or.inl rfl) | exact Or.inr (Or.inr rfl)) (hd : (x == ("__debug__" : Str)) = false := by decide) (hcd : (x == ("__classdict__" : Str)) = false := by decide)
    (hs : swapsWithSole [.Subscript (.Name x p) a p2] e pos.line X.env = pure false := by rfl) (hw : swappedStores [.Subscript (.Name x p) a p2] e X.env = pure none := by rfl) (ha1 : (assignEach [.Subscript (.Name x p) a p2] X.env).map (·.2) = [assign (.Subscript (.Name x p) a p2) X.env] := by rfl)
    (hsub : ∀ v, assign (.Subscript (.Name x p) a p2) X.env v = (do
      let ov ← holding [v] (eval (.Name x p) X.env)
      let iv ← holding [v, ov] (eval a X.env)
      standAt p2
      holding [v, ov, iv] (setItem ov iv v)
      release [v, ov, iv] []) := by intro _; rfl) :
    SS X W m0 RR rf nf lf (.Assign [.Subscript (.Name x p) a p2] e pos :: rest) ρ ms cs (m >>= fun d => mi >>= fun y => setD ds y d >>= fun ds' => k ds') := by
  obtain ⟨t, t1, t2⟩ := h
  obtain ⟨ti, i1, i2⟩ := hi
  refine ⟨_, pss_cons (ps_asg t1 (pg_sub (pe_var hN hv hd hcd) i1 set_list hsub) hs hw ha1) (pss_all (t := fun n => (hk n).choose) fun n => (hk n).choose_spec.1), fun Γ G σ H D hw hm c hr => t2 Γ G σ H _ hw c (hr.bind.mono fun d q v G1 H1 g1 c1 k1 r1 => ?_)⟩
  obtain ⟨vo, e3, e4⟩ := env_get c.env h3
  subst e4
  refine ⟨_, e3, i2 Γ G1 σ H1 _ hw c1 (q.bind.mono fun y q u G2 H2 g2 c2 k2 r2 => ?_)⟩
  have q2 : Res Γ.We (setD ds y d >>= fun ds' => k ds') (fun c => After Γ nf lf RR rf D G H c) := q
  cases y <;> first
    | exact q2.elim
    | skip
  rename_i n
  cases r2
  unfold setD at q2
  dsimp only at q2
  cases e9 : ixN ds.length n with
  | none => rw [e9] at q2; exact q2.elim
  | some jj =>
    rw [e9] at q2
    have q3 : Res Γ.We (k (ds.set jj d)) (fun c => After Γ nf lf RR rf D G H c) := q2
    obtain ⟨g3, vs, h5, h6⟩ := cells_get c2.cells h1 h2
    refine ⟨ad, vs, n, jj, rfl, rfl, h5, by rw [dpa_len h6]; exact e9, ?_⟩
    exact ⟨ds.set jj d, (hk _).choose_spec.2 Γ G2 _ _ D hw hm (c2.write h1 ⟨vs.set jj v, upd_same, dpa_set jj h6 (dp_mono g2 r1)⟩) (q3.mono fun y z => z.fwd (g1.trans g2) (k1.there.trans (k2.there.trans there_upd)))⟩
/-- for, what is walked changes nothing -/
theorem s1_forN {L1 ι : Type} (rho : L1 → As → Rho) (msf : As → List Addr) (cf : L1 → List CO) {Keep : List PD → Hp → Hp → Prop} {u : PD → Rho → Out Rho} {vs : List Nat} {un : PD → Out ι} {ρf : L1 → As → ι → Rho} {mi : Out (List PD)} (as0 : As) (l0 : L1) {b : ι → L1 → Out (Ctl L1 R L1)}
    (hc : X.calm = true) (hp : PassesOwn (model X.prog X.w) X.A X.env X.xe) (hi : IX X W true tg iter ρ ms cs Keep (mi >>= fun ds => .ok (ds, cs))) (hg : TgOk X tg vs u) (h0 : CDrop ms cs (msf as0) (cf l0)) (hle : RLe (rho l0 as0) ρ)
    (hu : ∀ d l as, u d (rho l as) = (un d >>= fun t => .ok (ρf l as t))) (hue : ∀ d z fs, un d ≠ .err z fs) (hk : ∀ ds, mi = .ok ds → ∀ l as G H, CellsOk X.K G H (msf as) (cf l) → Keep ds G H) (hb : ∀ t l as, SS X W m0 RR rf (fun l as => (rho l as, msf as, cf l)) (fun l as => (rho l as, msf as, cf l)) body (ρf l as t) (msf as) (cf l) (b t l)) (hs : ∀ x, foldedSetIterable iter X.env x = pure x := by intro _; rfl) :
    S1 X W m0 RR rf (fun l as => (rho l as, msf as, cf l)) lf (.For tg iter body [] pos) ρ ms cs (mi >>= fun ds => forM (fun d l => un d >>= fun t => b t l) ds l0 >>= fun y => .ok (dnC y)) := by
  obtain ⟨wi, i1, i2⟩ := hi
  obtain ⟨g, g1, g2⟩ := hg
  refine ⟨_, ps_for hp hc i1 g1 (pss_all (t := fun (n : ι × L1 × As) => (hb n.1 n.2.1 n.2.2).choose) fun n => (hb n.1 n.2.1 n.2.2).choose_spec.1) hs, fun Γ G σ H D hw hm c hr => i2 Γ G σ H _ hw c ?_⟩
  cases emi : mi with
  | bad => rw [emi] at hr; exact hr.elim
  | err z fs => rw [emi] at hr; exact hr
  | ok ds =>
  rw [emi] at hr
  have hr : Res Γ.We (forM (fun d l => un d >>= fun t => b t l) ds l0) (fun y => After Γ (fun l as => (rho l as, msf as, cf l)) lf RR rf D G H (dnC y)) := Res.bind (show Res Γ.We (forM (fun d l => un d >>= fun t => b t l) ds l0 >>= fun y => .ok (dnC y)) _ from hr)
  intro J G1 H1 gg1 c1 st it
  obtain ⟨Gp, Y, w, w1, w2⟩ := it
  refine for_it w (g := g) (tb := fun D σ H => ∃ n : ι × L1 × As, (hb n.1 n.2.1 n.2.2).choose D σ H) (D := D) (fun i σ' H' => ∃ G2 l as, Same G1 G2 ∧ There H1 H' ∧ Cfg Γ G2 (rho l as) (msf as) (cf l) σ' H' ∧ Res Γ.We (forM (fun d l => un d >>= fun t => b t l) (ds.drop i) l) (fun y => After Γ (fun l as => (rho l as, msf as, cf l)) lf RR rf D G1 H1 (dnC y))) ?h0 ?hG ?hs ?hd
  case h0 => exact ⟨G1, l0, as0, Same.refl _, Kept.there (Same.refl _), c1.drop h0 hle, Res.mono hr fun y z => z.fwd gg1 st.there⟩
  case hG =>
    rintro i σ' H' hi' ⟨G2, l, as, s2, t2, c2, r2⟩
    exact w1 G2 H' s2 c2.ex (hk ds emi l as _ _ c2.cells)
  case hd =>
    rintro σ' H' ⟨G2, l, as, s2, t2, c2, r2⟩
    rw [List.drop_length] at r2
    have r3 : After Γ (fun l as => (rho l as, msf as, cf l)) lf RR rf D G1 H1 (.nx l) := r2
    exact r3 as σ' G2 H' s2 t2 c2
  case hs =>
    rintro i x σ' H2 H3 hi' ⟨G2, l, as, s2, t2, c2, r2⟩ y
    obtain ⟨k3, d, G3, ed, s3, x3, n3, dx⟩ := w2 i x H2 H3 G2 hi' s2 c2.ex (hk ds emi l as _ _ c2.cells) y
    have c3 := c2.keep s3 k3 x3 n3
    rw [drop_at ed] at r2
    have r3 : Res Γ.We ((un d >>= fun t => b t l) >>= fun x => match x with
      | .nx l' => forM (fun d l => un d >>= fun t => b t l) (ds.drop (i + 1)) l'
      | .ct l' => forM (fun d l => un d >>= fun t => b t l) (ds.drop (i + 1)) l'
      | .bk l' => .ok (.nx l')
      | .rt r => .ok (.rt r)) _ := r2
    have r4 := Res.bind r3
    refine g2 Γ G3 _ _ _ _ H3 x d _ c3 dx ?_
    rw [hu d l as]
    cases eu : un d with
    | bad => rw [eu] at r4; exact r4.elim
    | err z fs => exact (hue d z fs eu).elim
    | ok t =>
      rw [eu] at r4
      intro σ2 c4 hj hl2
      refine ⟨(t, l, as), (hb t l as).choose_spec.2 Γ G3 σ2 H3 _ hw hm c4 (Res.mono (show Res Γ.We (b t l) _ from r4) fun z q => ?_)⟩
      cases z with
      | nx l' => exact fun as' σ3 G4 H4 a1 a2 a3 => ⟨G4, l', as', s2.trans (s3.trans a1), t2.trans (k3.there.trans a2), a3, q⟩
      | ct l' => exact fun as' σ3 G4 H4 a1 a2 a3 => ⟨G4, l', as', s2.trans (s3.trans a1), t2.trans (k3.there.trans a2), a3, q⟩
      | bk l' => exact fun as' σ3 G4 H4 a1 a2 a3 => (show After Γ (fun l as => (rho l as, msf as, cf l)) lf RR rf D G1 H1 (.nx l') from q) as' σ3 G4 H4 (s2.trans (s3.trans a1)) (t2.trans (k3.there.trans a2)) a3
      | rt r => exact After.fwd (show After Γ (fun l as => (rho l as, msf as, cf l)) lf RR rf D G1 H1 (.rt r) from q) (s2.trans s3) (t2.trans k3.there)
end
end Dd
set_option Elab.async false
set_option linter.all false
set_option maxRecDepth 100000
set_option maxHeartbeats 2000000
namespace Dd
open PySem PySem.Spec PyProof.Rows L2
/-- what zip goes over: a list, a tuple, a text -/
inductive Src where
  | l (a : Addr) | t (a : Addr) | s (x : Str)
def chV (x : Str) : List V := x.cps.toList.map fun c => .str ⟨#[c]⟩
def Src.v : Src → V
  | .l a => .ref a
  | .t a => .ref a
  | .s x => .str x
def Src.ads : Src → List Addr
  | .l a => [a]
  | .t a => [a]
  | .s _ => []
def SrcAt (K : PySem.W.Frag) (H : Hp) : Src → List V → Prop
  | .l a, xs => SqL K H a xs
  | .t a, xs => SqT K H a xs
  | .s x, xs => xs = chV x
def SrcIt (p : Src) (it : Addr) (i : Nat) (h : Heap) : Prop := match p with
  | .l a => h.IsListIter it a i
  | .t a => h.IsTupleIter it a i
  | .s x => ∃ t, h.IsStrIter it (strIterType x) x t i
theorem SrcIt.keep {p : Src} {it : Addr} {i : Nat} {h h' : Heap} (st : SrcIt p it i h) (k : ∀ o, h.get? it = some o → h'.get? it = some o) : SrcIt p it i h' := by
  cases p with
  | l a => exact Heap.IsListIter.at st k
  | t a => exact Heap.IsTupleIter.at st k
  | s x =>
    obtain ⟨t, o, ho, r⟩ := st
    exact ⟨t, o, k o ho, r⟩
theorem SrcIt.obj {p : Src} {it : Addr} {i : Nat} {h : Heap} (st : SrcIt p it i h) : ∃ o, h.get? it = some o ∧ ∀ v, o.data ≠ .cell v := by
  cases p with
  | l a =>
    obtain ⟨o, e, _, d⟩ := st
    exact ⟨o, e, fun v q => by rw [d] at q; cases q⟩
  | t a =>
    obtain ⟨o, e, _, d⟩ := st
    exact ⟨o, e, fun v q => by rw [d] at q; cases q⟩
  | s x =>
    obtain ⟨t, o, e, _, d⟩ := st
    exact ⟨o, e, fun v q => by rw [d] at q; cases q⟩
theorem src_inj {X : Cx} {pins : List (Addr × Obj)} {σ : L2.St} {H : Hp} {s : Shared} (I : Inv X pins σ H s) {p : Src} {xs ys : List V} (h : SrcAt X.K H p xs) (h' : SrcAt X.K H p ys) : xs = ys := by
  cases p with
  | l a => exact I.list_inj h h'
  | t a => exact I.tuple_inj h h'
  | s x => exact Eq.trans h (Eq.symm h')
theorem vals_rev : ∀ {xs : List V} {us : List Value} {i : Nat} {u : Value}, Vals xs us → us[i]? = some u → ∃ x, xs[i]? = some x ∧ RelV x u
  | _, _, _, _, .nil, e => by simp at e
  | _, _, 0, _, .cons h _, e => by simp at e; subst e; exact ⟨_, rfl, h⟩
  | _, _, i + 1, _, .cons _ t, e => by
    obtain ⟨v, h1, h2⟩ := vals_rev (i := i) t (by simpa using e)
    exact ⟨v, by simpa using h1, h2⟩
theorem src_draws {X : Cx} {pins : List (Addr × Obj)} {σ : L2.St} {H : Hp} {s : Shared} (I : Inv X pins σ H s) {A : Around} (hh : A.handled = none) {p : Src} {xs : List V} (h : SrcAt X.K H p xs) {it : Addr} (hne : it ∉ p.ads) {i : Nat} (st : SrcIt p it i s.heap) :
    ∃ (n : Nat) (P : Nat → Value → Prop) (St : Nat → Heap → Prop), Draws X.prog X.w A it (it :: p.ads) n P St ∧ n = xs.length ∧ (∀ i v, P i v → ∃ x, xs[i]? = some x ∧ RelV x v) ∧ St i s.heap ∧ ∀ j h, St j h → SrcIt p it j h := by
  cases p with
  | l a =>
    obtain ⟨its, rv, pl, _⟩ := I.list h
    refine ⟨_, _, _, Draws.list hh it a (fun e => hne (by simp [Src.ads, e])) its.toArray, ?_, fun i v hv => ?_, ⟨st, pl.isList⟩, fun j h q => q.1⟩
    · rw [rv.length]; simp
    · obtain ⟨x, h1, h2⟩ := vals_rev rv (by simpa using hv)
      exact ⟨x, h1, h2⟩
  | t a =>
    obtain ⟨its, rv, pl, _⟩ := I.tuple h
    refine ⟨_, _, _, Draws.tuple hh it a (fun e => hne (by simp [Src.ads, e])) its.toArray, ?_, fun i v hv => ?_, ⟨st, pl⟩, fun j h q => q.1⟩
    · rw [rv.length]; simp
    · obtain ⟨x, h1, h2⟩ := vals_rev rv (by simpa using hv)
      exact ⟨x, h1, h2⟩
  | s x =>
    obtain ⟨t, st⟩ := st
    have h : xs = chV x := h
    subst h
    refine ⟨_, _, _, Draws.text hh it x t, ?_, fun i v hv => ?_, st, fun j h q => ⟨t, q⟩⟩
    · simp [chV]
    · obtain ⟨c, u, h1, h2⟩ := hv
      subst h2
      refine ⟨.str ⟨#[c]⟩, ?_, ⟨u, rfl⟩⟩
      simp [chV, h1]
/-- zip of two of them, the pairs new -/
def ItzG (K : PySem.W.Frag) (p q : Src) : It :=
  ⟨fun i H => ∃ xs ys, SrcAt K H p xs ∧ SrcAt K H q ys ∧ i < xs.length ∧ i < ys.length,
    fun i H v H' => ∃ T x y, v = .ref T ∧ H T = none ∧ H' = upd H T (.tup [x, y]) ∧ (∀ xs, SrcAt K H p xs → xs[i]? = some x) ∧ ∀ ys, SrcAt K H q ys → ys[i]? = some y,
    fun i H => ∃ xs ys, SrcAt K H p xs ∧ SrcAt K H q ys ∧ i ≤ xs.length ∧ i ≤ ys.length ∧ (i = xs.length ∨ i = ys.length)⟩
def zTn (p q : Src) (N : Nat) (i : Nat) (h : Heap) : Prop := IsZip h (N + 4) (N + 2) (N + 3) .none ∧ IsTupOf2 h (N + 2) (.ref N) (.ref (N + 1)) ∧ (∃ x y, IsTupOf2 h (N + 3) x y) ∧ SrcIt p N i h ∧ SrcIt q (N + 1) i h
theorem turn_zipG {P : Program} {w : World} {K : PySem.W.Frag} {elts : List Expr} {kk : Nat} {tpos : Pos} {p q : Src} {N : Nat} (hp : ∀ b ∈ p.ads, b < N) (hq : ∀ b ∈ q.ads, b < N) :
    Turn P w K (.Tuple elts kk tpos) (ItzG K p q) [N + 4, N + 2, N + 3, N, N + 1] (N + 4) (zTn p q N) where
  mem := by simp
  obj := fun i h st c hc => by
    obtain ⟨hz, hTI, ⟨x, y, hTO⟩, s1, s2⟩ := st
    have e' : c = N + 4 ∨ c = N + 2 ∨ c = N + 3 ∨ c = N ∨ c = N + 1 := by simpa using hc
    rcases e' with q | q | q | q | q
    · rw [q]; exact ⟨_, hz, fun v q => nomatch q⟩
    · rw [q]; exact ⟨_, hTI, fun v q => nomatch q⟩
    · rw [q]; exact ⟨_, hTO, fun v q => nomatch q⟩
    · rw [q]; exact s1.obj
    · rw [q]; exact s2.obj
  keep := fun i h h' st k => by
    obtain ⟨hz, hTI, ⟨x, y, hTO⟩, h1, h2⟩ := st
    exact ⟨k _ (by simp) _ hz, k _ (by simp) _ hTI, ⟨x, y, k _ (by simp) _ hTO⟩, h1.keep fun o q => k _ (by simp) o q, h2.keep fun o q => k _ (by simp) o q⟩
  item := by
    intro X hP hw hK hc i pins s σ H E I hf st hg
    subst hP hw hK
    obtain ⟨hz, hTI, ⟨x0, y0, hTO⟩, h1, h2⟩ := st
    obtain ⟨xs, ys, hqx, hqy, hx, hy⟩ := hg
    have hA : X.A.in1.handled = none := I.ok.hd hc
    obtain ⟨n1, P1, St1, D1, e1, r1, z1, w1⟩ := src_draws I hA hqx (it := N) (fun m => Nat.lt_irrefl _ (hp _ m)) h1
    obtain ⟨n2, P2, St2, D2, e2, r2, z2, w2⟩ := src_draws I hA hqy (it := N + 1) (fun m => absurd (hq _ m) (Nat.not_lt.mpr (Nat.le_succ _))) h2
    subst e1 e2
    have hzl : N + 4 < s.heap.objs.size := Heap.lt_size hz
    refine wpAny_pyNext_zipD2_item (zip_sep2 hp hq) D1 D2 hz hTI hTO z1 z2 hx hy fun u u2 h' tk y1 y2 z' TO' d1 d2 hT hsz hk => ?_
    obtain ⟨x, hx', ru⟩ := r1 _ _ y1
    obtain ⟨y, hy', ru2⟩ := r2 _ _ y2
    refine ⟨_, rfl, wpAny_letOwnedTupleGo_zip (s := { s with heap := h', toks := tk }) z' fun h'' z'' sb => ?_⟩
    have hT2 : h''.get? s.heap.objs.size = some { cls := .type "tuple", data := .seq #[u, u2] } := (sb.2 _ (Nat.ne_of_gt hzl)).trans hT
    have new : ObjOk X.prog X.w (upd H s.heap.objs.size (.tup [x, y])) h'' s.heap.objs.size (.tup [x, y]) :=
      ⟨by show 2 ≤ sizeLine; decide, [u, u2], .cons ru (.cons ru2 .nil), ⟨_, hT2, rfl, _, rfl⟩⟩
    have I1 : Inv X pins σ (upd H s.heap.objs.size (.tup [x, y])) { s with heap := h'', toks := tk } :=
      I.turnedNew (t' := tk) (ch := [N + 4, N + 2, N + 3, N, N + 1]) (fun c o hb q => (sb.2 c (fun q' => hb (by simp [q']))).trans (hk c o (fun q' => hb (by simp [q'])) (fun q' => hb (by simp [q'])) (fun q' => hb (by simp [q'])) (fun q' => hb (by simp [q'])) q)) hf (Nat.le_refl _) new
    refine ⟨.ref s.heap.objs.size, _, I1, rfl, ⟨_, x, y, rfl, I.hok.fresh (Nat.le_refl _), rfl, fun l hl => by rw [src_inj I hl hqx]; exact hx', fun l hl => by rw [src_inj I hl hqy]; exact hy'⟩, ⟨z'', ?_, ⟨u, u2, ?_⟩, ?_, ?_⟩, fun c hcm => ?_⟩
    · exact (sb.2 _ (show (N + 2 : Nat) ≠ N + 4 by omega)).trans (hk _ _ (show (N + 2 : Nat) ≠ N + 4 by omega) (show (N + 2 : Nat) ≠ N + 3 by omega) (show (N + 2 : Nat) ≠ N by omega) (show (N + 2 : Nat) ≠ N + 1 by omega) hTI)
    · exact (sb.2 _ (show (N + 3 : Nat) ≠ N + 4 by omega)).trans TO'
    · exact (w1 _ _ d1).keep fun o q => (sb.2 _ (show (N : Nat) ≠ N + 4 by omega)).trans q
    · exact (w2 _ _ d2).keep fun o q => (sb.2 _ (show (N + 1 : Nat) ≠ N + 4 by omega)).trans q
    · have hlt : c < s.heap.objs.size := by
        have e' : c = N + 4 ∨ c = N + 2 ∨ c = N + 3 ∨ c = N ∨ c = N + 1 := by simpa using hcm
        have : (c : Nat) ≤ N + 4 := by
          rcases e' with q | q | q | q | q <;> (rw [q]; first | exact Nat.le_refl _ | (show (_ : Nat) ≤ N + 4; omega))
        exact Nat.lt_of_le_of_lt this hzl
      rw [upd_ne (Nat.ne_of_lt hlt)]
      exact (hf c hcm).1
  done := by
    intro X hP hw hK hc i pins s σ H E I hf st hg
    subst hP hw hK
    obtain ⟨hz, hTI, ⟨x0, y0, hTO⟩, h1, h2⟩ := st
    obtain ⟨xs, ys, hqx, hqy, l1, l2, hend⟩ := hg
    have hA : X.A.in1.handled = none := I.ok.hd hc
    obtain ⟨n1, P1, St1, D1, e1, r1, z1, w1⟩ := src_draws I hA hqx (it := N) (fun m => Nat.lt_irrefl _ (hp _ m)) h1
    obtain ⟨n2, P2, St2, D2, e2, r2, z2, w2⟩ := src_draws I hA hqy (it := N + 1) (fun m => absurd (hq _ m) (Nat.not_lt.mpr (Nat.le_succ _))) h2
    subst e1 e2
    exact wpAny_pyNext_zipD2_end (zip_sep2 hp hq) D1 D2 hz hTI hTO z1 z2 l1 l2 hend fun h' tk hk => ⟨rfl, I.turnedL (t' := tk) (ch := [N + 4, N + 2, N + 3, N, N + 1]) (fun c o hb q =>
      hk c o (fun q' => hb (by simp [q'])) (fun q' => hb (by simp [q'])) (fun q' => hb (by simp [q'])) (fun q' => hb (by simp [q'])) q) hf⟩
  self := fun A i s Q E st h => wpAny_pyIter_zip st.1 h
def iZipG (K : PySem.W.Frag) (ta : TA) : TI := fun σ H R => ta σ H fun vs H1 => ∃ p q xs ys, vs = [p.v, q.v] ∧ SrcAt K H1 p xs ∧ SrcAt K H1 q ys ∧ R (ItzG K p q) H1
theorem src_begins {X : Cx} {pins : List (Addr × Obj)} {σ : L2.St} {H : Hp} {s : Shared} (I : Inv X pins σ H s) {p : Src} {xs : List V} (h : SrcAt X.K H p xs) {u : Value} (r : RelV p.v u) :
    ∃ (o : Obj) (Hh : Heap → Prop), Begins u o Hh ∧ Hh s.heap ∧ (∀ b ∈ p.ads, b < s.heap.objs.size) ∧ ∀ it h', h'.get? it = some o → SrcIt p it 0 h' := by
  cases p with
  | l a =>
    cases r
    obtain ⟨its, rv, pl, _⟩ := I.list h
    refine ⟨_, _, begins_list a its.toArray, pl.isList, fun b hb => ?_, fun it h' e => ⟨_, e, rfl, rfl⟩⟩
    have : b = a := by simpa [Src.ads] using hb
    rw [this]; exact pl.lt
  | t a =>
    cases r
    obtain ⟨its, rv, pl, _⟩ := I.tuple h
    refine ⟨_, _, begins_tuple a its.toArray, pl, fun b hb => ?_, fun it h' e => ⟨_, e, rfl, rfl⟩⟩
    have : b = a := by simpa [Src.ads] using hb
    obtain ⟨o, ho, _⟩ := id pl
    rw [this]; exact Heap.lt_size ho
  | s x =>
    obtain ⟨k, rfl⟩ := r
    exact ⟨_, _, begins_text x k, trivial, fun b hb => by simp [Src.ads] at hb, fun it h' e => ⟨k, _, e, rfl, rfl⟩⟩
theorem pi_zipG {X : Cx} {e e2 : Expr} {ta : TA} {p pos tpos : Pos} {elts : List Expr} {kk : Nat} (hg : Gl X "zip") (hm : X.mg "zip" = none) (ha : PA X [e, e2] ta)
    (hs : starEach [e, e2] X.env = (false, eval e X.env) :: starEach [e2] X.env := by rfl) (hpl : (backTo pos (starEach [e2] X.env)).any (·.1) = false := by rfl) :
    PI X (.Tuple elts kk tpos) (.Call (.Name "zip" p) [e, e2] [] pos) (iZipG X.K ta) := by
  refine ⟨fun pins s σ H R I h => ?_⟩
  refine Call_ (ld_blt I hg hm PyProof.Rows.boot_zip (PyProof.Rows.callWith_type1 (thn (ha.run pos pins s σ H _ I h) fun us s1 ⟨vs, H1, I1, r1, q1⟩ => ?_) hs hpl))
  obtain ⟨a, b, xs, ys, ex, hqx, hqy, q⟩ := q1
  subst ex
  cases r1 with
  | cons r rr =>
    cases rr with
    | cons r' rr =>
      cases rr
      obtain ⟨o1, H1', B1, b1, lt1, i1⟩ := src_begins I1 hqx r
      obtain ⟨o2, H2', B2, b2, lt2, i2⟩ := src_begins I1 hqy r'
      refine zip_begins2 B1 B2 b1 b2 fun h' hz hTI hTO h1 h2 hsz hk => wpAny_pyIter_zip hz ?_
      have I2 : Inv X pins σ H1 { s1 with heap := h' } := I1.kept (t' := s1.toks) hk
      refine ⟨s1.heap.objs.size + 4, _, _, _, H1, rfl, I2, turn_zipG (p := a) (q := b) (N := s1.heap.objs.size) lt1 lt2, ⟨hz, hTI, ⟨_, _, hTO⟩, i1 _ _ h1, i2 _ _ h2⟩, fun c hcm => ?_, q⟩
      have e' : c = s1.heap.objs.size + 4 ∨ c = s1.heap.objs.size + 2 ∨ c = s1.heap.objs.size + 3 ∨ c = s1.heap.objs.size ∨ c = s1.heap.objs.size + 1 := by simpa using hcm
      have hle : s1.heap.objs.size ≤ c := by
        rcases e' with z | z | z | z | z
        · rw [z]; exact Nat.le_add_right _ _
        · rw [z]; exact Nat.le_add_right _ _
        · rw [z]; exact Nat.le_add_right _ _
        · rw [z]; exact Nat.le_refl _
        · rw [z]; exact Nat.le_add_right _ _
      exact I1.fpOk hle (I1.hok.fresh hle)

theorem walk_zipG {K : PySem.W.Frag} {p q : Src} {xs ys : List V} : Walk (ItzG K p q) (min xs.length ys.length) (fun H => SrcAt K H p xs ∧ SrcAt K H q ys)
    (fun i H v H' => ∃ T x y, v = .ref T ∧ H T = none ∧ H' = upd H T (.tup [x, y]) ∧ xs[i]? = some x ∧ ys[i]? = some y) :=
  ⟨fun i _ hi g => ⟨xs, ys, g.1, g.2, by omega, by omega⟩, fun _ g => ⟨xs, ys, g.1, g.2, by omega, by omega, by omega⟩, fun i H v H' hi g y => by
    obtain ⟨T, x, z, e, h, e2, f1, f2⟩ := y
    exact ⟨T, x, z, e, h, e2, f1 xs g.1, f2 ys g.2⟩⟩
/-- d's items as a source -/
theorem src_of {K : PySem.W.Frag} {G : Hp} {v : V} {d : PD} (r : Dp K G v d) {ds : List PD} (e : itemsD d = .ok ds) : ∃ (p : Src) (xs : List V), v = p.v ∧ SrcAt K G p xs ∧ DpAll K G xs ds := by
  cases r with
  | non => cases e
  | bl b => cases e
  | int i => cases e
  | str x =>
    cases e
    refine ⟨.s x, chV x, rfl, rfl, ?_⟩
    unfold chV
    generalize x.cps.toList = l
    induction l with
    | nil => exact .nil
    | cons c l ih => exact .cons (.str _) ih
  | lst h t =>
    cases e
    exact ⟨.l _, _, rfl, h, t⟩
  | tup h t =>
    cases e
    exact ⟨.t _, _, rfl, h, t⟩
theorem src_mono {K : PySem.W.Frag} {G H : Hp} (e : Same G H) {p : Src} {xs : List V} (h : SrcAt K G p xs) : SrcAt K H p xs := by
  cases p with
  | l a => exact e.seq h
  | t a => exact sqt_mono e h
  | s x => exact h
def zipD : List PD → Out (List PD)
  | [x, y] => itemsD x >>= fun xs => itemsD y >>= fun ys => .ok (List.zipWith (fun a b => .tuple [a, b]) xs ys)
  | _ => .bad
theorem it_zip {K : PySem.W.Frag} {G : Hp} {p q : Src} {xs ys : List V} {ds es : List PD} (h1 : SrcAt K G p xs) (h2 : SrcAt K G q ys) (r1 : DpAll K G xs ds) (r2 : DpAll K G ys es) :
    ItOk K (KeepAll (List.zipWith (fun a b => .tuple [a, b]) ds es)) G (ItzG K p q) (List.zipWith (fun a b => .tuple [a, b]) ds es) := by
  refine ⟨fun H => SrcAt K H p xs ∧ SrcAt K H q ys, fun i H v H' => ∃ T x y, v = .ref T ∧ H T = none ∧ H' = upd H T (.tup [x, y]) ∧ xs[i]? = some x ∧ ys[i]? = some y, by rw [List.length_zipWith, ← dpa_len r1, ← dpa_len r2]; exact walk_zipG, fun G1 H1 g x _ => ⟨src_mono (g.trans x) h1, src_mono (g.trans x) h2⟩, fun i x H1 H2 G1 hi g ex _ y => ?_⟩
  obtain ⟨T, x, y, rfl, hT, rfl, e1, e2⟩ := y
  obtain ⟨d1, f1, g1⟩ := dpa_get' r1 e1
  obtain ⟨d2, f2, g2⟩ := dpa_get' r2 e2
  have gT : G1 T = none := There.free (Kept.there ex) hT
  have s1 : Same G1 (upd G1 T (.tup [x, y])) := same_new gT
  refine ⟨same_new hT, .tuple [d1, d2], upd G1 T (.tup [x, y]), ?_, s1, fun b o e => ?_, fun b o e n => ?_, .tup (.inl (.inl upd_same)) (.cons (dp_mono (g.trans s1) g1) (.cons (dp_mono (g.trans s1) g2) .nil))⟩
  · rw [List.getElem?_zipWith, f1, f2]
  · by_cases hb : b = T
    · subst hb
      rw [upd_same] at e ⊢
      exact e
    · rw [upd_ne hb] at e ⊢
      exact ex b o e
  · rw [upd_ne (ne_of_none e hT)]
    exact n
section
variable {X : Cx} {W : XK} {a b : Expr} {ρ : Rho} {ms : List Addr} {cs : List CO} {pos p tpos : Pos} {elts : List Expr} {kk : Nat}
theorem ix_zip {m : Out (List PD)} (hm : X.mg "zip" = none) (h : AP X W [a, b] ρ ms cs m) (hg : Gl X "zip" := by rfl) (hs : starEach [a, b] X.env = (false, eval a X.env) :: starEach [b] X.env := by rfl) (hpl : (backTo pos (starEach [b] X.env)).any (·.1) = false := by rfl) :
    IX X W true (.Tuple elts kk tpos) (.Call (.Name "zip" p) [a, b] [] pos) ρ ms cs KeepAll ((m >>= fun x => zipD x) >>= fun ds => .ok (ds, cs)) := by
  rw [bind_bind]
  obtain ⟨te, h1, h2⟩ := h
  refine ⟨_, pi_zipG hg hm h1 hs hpl, fun Γ G σ H R hw c hr => h2 Γ G σ H _ hw c (hr.bind.mono fun x k vs G1 H1 g1 c1 k1 r1 n1 => ?_)⟩
  match x, r1, k with
  | [u, v], .cons q1 (.cons q2 .nil), k =>
    have k := k.bind
    have k' : Res Γ.We (itemsD u >>= fun xs => itemsD v >>= fun ys => .ok (List.zipWith (fun a b => PyData.tuple [a, b]) xs ys)) _ := k
    cases e1 : itemsD u with
    | bad => rw [e1] at k'; exact k'.elim
    | err z fs => exfalso; revert e1; cases u <;> (intro e; cases e)
    | ok xs =>
      cases e2 : itemsD v with
      | bad => rw [e1, e2] at k'; exact k'.elim
      | err z fs => exfalso; revert e2; cases v <;> (intro e; cases e)
      | ok ys =>
        rw [e1, e2] at k'
        obtain ⟨p1, vs1, rfl, s1, t1⟩ := src_of q1 e1
        obtain ⟨p2, vs2, rfl, s2, t2⟩ := src_of q2 e2
        exact ⟨p1, p2, vs1, vs2, rfl, src_mono c1.ex s1, src_mono c1.ex s2, k' _ G1 H1 g1 c1 k1 (it_zip s1 s2 t1 t2)⟩
  | [], _, k => exact k.elim
  | [_], _, k => exact k.elim
  | _ :: _ :: _ :: _, _, k => exact k.elim
end
/-! ### targets of names -/
def un2 : PD → Out (PD × PD)
  | .tuple [a, b] => .ok (a, b)
  | _ => .bad
def un3 : PD → Out (PD × PD × PD)
  | .tuple [a, b, c] => .ok (a, b, c)
  | _ => .bad
theorem un2_err {d : PD} {z : Str} {fs : List (Str × PD)} : un2 d ≠ .err z fs := by
  unfold un2; split <;> (intro h; cases h)
theorem un3_err {d : PD} {z : Str} {fs : List (Str × PD)} : un3 d ≠ .err z fs := by
  unfold un3; split <;> (intro h; cases h)
theorem un2_ok {d : PD} {t : PD × PD} (h : un2 d = .ok t) : d = .tuple [t.1, t.2] := by
  unfold un2 at h; split at h <;> cases h; rfl
theorem un3_ok {d : PD} {t : PD × PD × PD} (h : un3 d = .ok t) : d = .tuple [t.1, t.2.1, t.2.2] := by
  unfold un3 at h; split at h <;> cases h; rfl
section
variable {X : Cx} {pos p1 p2 p3 : Pos} {kk : Nat}
theorem tg_tup2 (i j : Nat) {x y : Str} (hc : X.calm = true) (hN : X.N.Nodup) (hi : X.N[i]? = some x := by rfl) (hj : X.N[j]? = some y := by rfl) (hx : Loc X.env.scope x := by first | exact Or.inl rfl | exact Or.inr rfl) (hy : Loc X.env.scope y := by first | exact Or.inl rfl | exact Or.inr rfl)
    (hf : X.fn x = true ∨ X.env.scope.names.lookup x = some .local := by first | exact .inl rfl | exact .inr rfl) (hf2 : X.fn y = true ∨ X.env.scope.names.lookup y = some .local := by first | exact .inl rfl | exact .inr rfl)
    (hn : (assignEach [.Name x p1, .Name y p2] X.env).length = 2 := by rfl) (hst : (assignEach [.Name x p1, .Name y p2] X.env).findIdx? (·.1) = none := by rfl)
    (hs1 : (assignEach [.Name x p1, .Name y p2] X.env).map (·.2) = assign (.Name x p1) X.env :: (assignEach [.Name y p2] X.env).map (·.2) := by rfl) (hs2 : (assignEach [.Name y p2] X.env).map (·.2) = assign (.Name y p2) X.env :: (assignEach [] X.env).map (·.2) := by rfl) :
    TgOk X (.Tuple [.Name x p1, .Name y p2] kk pos) [i, j] (fun d ρ => un2 d >>= fun t => .ok ((ρ.set i (some (.d t.1))).set j (some (.d t.2)))) := by
  refine ⟨_, pg_tup hc (pgs_cons (pg_name hN hi hx hf) (pgs_cons (pg_name hN hj hy hf2) pgs_nil hs2) hs1) hn hst, fun Γ G ρ ms cs σ H v d Q c hd hr => ?_⟩
  dsimp only at hr
  cases eu : un2 d with
  | bad => rw [eu] at hr; exact hr.elim
  | err z fs => exact (un2_err eu).elim
  | ok t =>
    have ed := un2_ok eu
    subst ed
    cases hd with
    | @tup ad vs _ hs r =>
      cases r with
      | @cons v1 _ _ _ q1 r =>
        cases r with
        | @cons v2 _ _ _ q2 r =>
          cases r
          rw [eu] at hr
          have hq := sqt_mono c.ex hs
          refine ⟨ad, [v1, v2], rfl, hq, rfl, v1, [v2], rfl, v2, [], rfl, rfl, ?_⟩
          refine hr ((σ.set i (some v1)).set j (some v2)) (c.env' (env_set (env_set c.env (av := .d t.1) q1 i) (av := .d t.2) q2 j)) (fun q hq => ?_) ?_
          · rw [List.getElem?_set_ne (fun z => hq (by simp [z])), List.getElem?_set_ne (fun z => hq (by simp [z]))]
          · rw [List.length_set, List.length_set]
theorem tg_tup3 (i j k : Nat) {x y w : Str} (hc : X.calm = true) (hN : X.N.Nodup) (hi : X.N[i]? = some x := by rfl) (hj : X.N[j]? = some y := by rfl) (hk : X.N[k]? = some w := by rfl) (hx : Loc X.env.scope x := by first | exact Or.inl rfl | exact Or.inr rfl) (hy : Loc X.env.scope y := by first | exact Or.inl rfl | exact Or.inr rfl) (hw : Loc X.env.scope w := by first | exact Or.inl rfl | exact Or.inr rfl)
    (hf : X.fn x = true ∨ X.env.scope.names.lookup x = some .local := by first | exact .inl rfl | exact .inr rfl) (hf2 : X.fn y = true ∨ X.env.scope.names.lookup y = some .local := by first | exact .inl rfl | exact .inr rfl) (hf3 : X.fn w = true ∨ X.env.scope.names.lookup w = some .local := by first | exact .inl rfl | exact .inr rfl)
    (hn : (assignEach [.Name x p1, .Name y p2, .Name w p3] X.env).length = 3 := by rfl) (hst : (assignEach [.Name x p1, .Name y p2, .Name w p3] X.env).findIdx? (·.1) = none := by rfl)
    (hs1 : (assignEach [.Name x p1, .Name y p2, .Name w p3] X.env).map (·.2) = assign (.Name x p1) X.env :: (assignEach [.Name y p2, .Name w p3] X.env).map (·.2) := by rfl) (hs2 : (assignEach [.Name y p2, .Name w p3] X.env).map (·.2) = assign (.Name y p2) X.env :: (assignEach [.Name w p3] X.env).map (·.2) := by rfl)
    (hs3 : (assignEach [.Name w p3] X.env).map (·.2) = assign (.Name w p3) X.env :: (assignEach [] X.env).map (·.2) := by rfl) :
    TgOk X (.Tuple [.Name x p1, .Name y p2, .Name w p3] kk pos) [i, j, k] (fun d ρ => un3 d >>= fun t => .ok (((ρ.set i (some (.d t.1))).set j (some (.d t.2.1))).set k (some (.d t.2.2)))) := by
  refine ⟨_, pg_tup hc (pgs_cons (pg_name hN hi hx hf) (pgs_cons (pg_name hN hj hy hf2) (pgs_cons (pg_name hN hk hw hf3) pgs_nil hs3) hs2) hs1) hn hst, fun Γ G ρ ms cs σ H v d Q c hd hr => ?_⟩
  dsimp only at hr
  cases eu : un3 d with
  | bad => rw [eu] at hr; exact hr.elim
  | err z fs => exact (un3_err eu).elim
  | ok t =>
    have ed := un3_ok eu
    subst ed
    cases hd with
    | @tup ad vs _ hs r =>
      cases r with
      | @cons v1 _ _ _ q1 r =>
        cases r with
        | @cons v2 _ _ _ q2 r =>
          cases r with
          | @cons v3 _ _ _ q3 r =>
            cases r
            rw [eu] at hr
            have hq := sqt_mono c.ex hs
            refine ⟨ad, [v1, v2, v3], rfl, hq, rfl, v1, [v2, v3], rfl, v2, [v3], rfl, v3, [], rfl, rfl, ?_⟩
            refine hr (((σ.set i (some v1)).set j (some v2)).set k (some v3)) (c.env' (env_set (env_set (env_set c.env (av := .d t.1) q1 i) (av := .d t.2.1) q2 j) (av := .d t.2.2) q3 k)) (fun q hq => ?_) ?_
            · rw [List.getElem?_set_ne (fun z => hq (by simp [z])), List.getElem?_set_ne (fun z => hq (by simp [z])), List.getElem?_set_ne (fun z => hq (by simp [z]))]
            · rw [List.length_set, List.length_set, List.length_set]
end
end Dd
set_option Elab.async false
set_option linter.all false
set_option maxRecDepth 100000
set_option maxHeartbeats 2000000
namespace Dd
open PySem PySem.Spec PyProof.Rows L2
/-! ### x in xs -/
def inL (x : PD) (ys : List PD) : Out Bool := if SeqAt.shaped x && SeqAt.shaped (.list ys) then .ok (ys.any fun y => PyData.eqv y x) else .bad
def inDD (x s : PD) : Out Bool := match s with
  | .str z => match x with
    | .str y => .ok (!(Builtin.Str.occurrences z y 0 z.length 1).isEmpty)
    | _ => .bad
  | .list ys => inL x ys
  | .tuple ys => inL x ys
  | _ => .bad
def notInDD (x s : PD) : Out Bool := inDD x s >>= fun b => .ok (!b)
section
variable {X : Cx}
theorem hu65 {k : Nat} {A : Around} (hr : Room k A) : A.units + 65 < cLine := by have := hr.un; omega
theorem op_inDT (hu : X.A.units + 65 < cLine) : OpR X (compareOp .In) (fun x y H Q => ∃ d ds, Dp X.K H x d ∧ Dp X.K H y (.tuple ds) ∧ SeqAt.shaped d = true ∧ SeqAt.shaped (.list ds) = true ∧ Q (.bl (ds.any fun z => PyData.eqv z d)) H) := by
  intro pins s σ H x y v u Q I rx ry h
  obtain ⟨d, ds, hd, he, sd, se, q⟩ := h
  obtain ⟨as, r1⟩ := Dp.reads I d x v hd rx
  obtain ⟨bs, r2⟩ := Dp.reads I (.tuple ds) y u he ry
  exact SeqAt.in_tuple_reads r2 r1 (SeqAt.canLay_of_shaped se) (SeqAt.canLay_of_shaped sd) (room_in_shaped sd hu) ⟨.bl _, H, I, rfl, q⟩
theorem op_notInDT (hu : X.A.units + 65 < cLine) : OpR X (compareOp .NotIn) (fun x y H Q => ∃ d ds, Dp X.K H x d ∧ Dp X.K H y (.tuple ds) ∧ SeqAt.shaped d = true ∧ SeqAt.shaped (.list ds) = true ∧ Q (.bl (!ds.any fun z => PyData.eqv z d)) H) := by
  intro pins s σ H x y v u Q I rx ry h
  obtain ⟨d, ds, hd, he, sd, se, q⟩ := h
  obtain ⟨as, r1⟩ := Dp.reads I d x v hd rx
  obtain ⟨bs, r2⟩ := Dp.reads I (.tuple ds) y u he ry
  exact SeqAt.notIn_tuple_reads r2 r1 (SeqAt.canLay_of_shaped se) (SeqAt.canLay_of_shaped sd) (room_in_shaped sd hu) ⟨.bl _, H, I, rfl, q⟩
abbrev rInAll (K : PySem.W.Frag) : R2 := fun x y H Q => ((∃ i j, x = .str i ∧ y = .str j ∧ Q (.bl (!(Builtin.Str.occurrences j i 0 j.length 1).isEmpty)) H) ∨ rInD K x y H Q) ∨
  ∃ d ds, Dp K H x d ∧ Dp K H y (.tuple ds) ∧ SeqAt.shaped d = true ∧ SeqAt.shaped (.list ds) = true ∧ Q (.bl (ds.any fun z => PyData.eqv z d)) H
abbrev rNotInAll (K : PySem.W.Frag) : R2 := fun x y H Q => ((∃ i j, x = .str i ∧ y = .str j ∧ Q (.bl (!(!(Builtin.Str.occurrences j i 0 j.length 1).isEmpty))) H) ∨ rNotInD K x y H Q) ∨
  ∃ d ds, Dp K H x d ∧ Dp K H y (.tuple ds) ∧ SeqAt.shaped d = true ∧ SeqAt.shaped (.list ds) = true ∧ Q (.bl (!ds.any fun z => PyData.eqv z d)) H
theorem o_in (hu : X.A.units + 65 < cLine) : OpR X (compareOp .In) (rInAll X.K) ∧ OpB X (rInAll X.K) inDD := by
  refine ⟨(op_in_str.or (op_inD hu)).or (op_inDT hu), fun Γ G ρ ms cs σ H H0 x y dx dy Q c rx ry hr => ?_⟩
  have px := rs_dp c.ex rx
  have py := rs_dp c.ex ry
  cases dy <;> first
    | exact hr.elim
    | skip
  · cases dx <;> first
      | exact hr.elim
      | skip
    cases px
    cases py
    exact .inl (.inl ⟨_, _, rfl, rfl, hr⟩)
  · rename_i ds
    have hr : Res Γ.We (inL dx ds) _ := hr
    unfold inL at hr
    split at hr
    · rename_i hs
      rw [Bool.and_eq_true] at hs
      exact .inl (.inr ⟨_, _, px, py, hs.1, hs.2, hr⟩)
    · exact hr.elim
  · rename_i ds
    have hr : Res Γ.We (inL dx ds) _ := hr
    unfold inL at hr
    split at hr
    · rename_i hs
      rw [Bool.and_eq_true] at hs
      exact .inr ⟨_, _, px, py, hs.1, hs.2, hr⟩
    · exact hr.elim
theorem o_notIn (hu : X.A.units + 65 < cLine) : OpR X (compareOp .NotIn) (rNotInAll X.K) ∧ OpB X (rNotInAll X.K) notInDD := by
  refine ⟨(op_notin_str.or (op_notInD hu)).or (op_notInDT hu), fun Γ G ρ ms cs σ H H0 x y dx dy Q c rx ry hr0 => ?_⟩
  have px := rs_dp c.ex rx
  have py := rs_dp c.ex ry
  have hr := Res.bind (show Res Γ.We (inDD dx dy >>= fun b => .ok (!b)) _ from hr0)
  clear hr0
  cases dy <;> first
    | exact hr.elim
    | skip
  · cases dx <;> first
      | exact hr.elim
      | skip
    cases px
    cases py
    exact .inl (.inl ⟨_, _, rfl, rfl, hr⟩)
  · rename_i ds
    have hr : Res Γ.We (inL dx ds) _ := hr
    unfold inL at hr
    split at hr
    · rename_i hs
      rw [Bool.and_eq_true] at hs
      exact .inl (.inr ⟨_, _, px, py, hs.1, hs.2, hr⟩)
    · exact hr.elim
  · rename_i ds
    have hr : Res Γ.We (inL dx ds) _ := hr
    unfold inL at hr
    split at hr
    · rename_i hs
      rw [Bool.and_eq_true] at hs
      exact .inr ⟨_, _, px, py, hs.1, hs.2, hr⟩
    · exact hr.elim
end
/-! ### built-ins of several arguments -/
section
variable {X : Cx} {W : XK} {a b c e : Expr} {es : List Expr} {ρ : Rho} {ms : List Addr} {cs : List CO} {pos p2 p : Pos}
def CallA {γ : Type} (X : Cx) (r : List V → Hp → VK → Prop) (R : VR γ) (f : List PD → Out γ) : Prop :=
  ∀ (Γ : Gam X.K X.mg) (G : Hp) (ρ : Rho) (ms : List Addr) (cs : List CO) (σ : L2.St) (H H0 : Hp) (xs : List V) (ds : List PD) (Q : VK), Cfg Γ G ρ ms cs σ H → There H0 H → DpAll X.K G xs ds →
    Res Γ.We (f ds) (fun c => ∀ v G' H', Same G G' → Cfg Γ G' ρ ms cs σ H' → Kept H H' → R H0 G' H' v c → Q v H') → r xs H Q
theorem ep_callA {γ : Type} {R : VR γ} {f : List PD → Out γ} {m : Out (List PD)} {id : String} {x : Str} {r : List V → Hp → VK → Prop} (hc : CallR X (.builtin id) r ∧ CallA X r R f) (hm : X.mg x = none) (ha : AP X W (e :: es) ρ ms cs m) (hg : Gl X x := by rfl) (hv : bootBuiltins x = some (.builtin id) := by decide +kernel) (hn : x ≠ "__name__" := by decide)
    (hdb : (x == ("__debug__" : Str)) = false := by decide) (he : starEach (e :: es) X.env = (false, eval e X.env) :: starEach es X.env := by rfl) (hpl : (backTo pos (starEach es X.env)).any (·.1) = false := by rfl) : EP X W R (.Call (.Name x p) (e :: es) [] pos) ρ ms cs (m >>= fun x => f x) := by
  obtain ⟨ta, a1, a2⟩ := ha
  refine ⟨_, pe_callB hc.1 hg hm hv a1 hn hdb he hpl, fun Γ G σ H Q hw c hr => a2 Γ G σ H _ hw c (hr.bind.mono fun x k vs G1 H1 g1 c1 k1 r1 n1 => ?_)⟩
  exact hc.2 Γ G1 ρ ms cs σ H1 H vs x Q c1 k1.there r1 (k.mono fun z q w G2 H2 g2 c2 k2 r2 => q w G2 H2 (g1.trans g2) c2 (k1.trans k2) r2)
theorem ex_callA {γ : Type} {R : VR γ} {f : List PD → Out γ} {m : Out (List PD × List CO)} {id : String} {x : Str} {r : List V → Hp → VK → Prop} (hc : CallR X (.builtin id) r ∧ CallA X r R f) (hm : X.mg x = none) (ha : AX X W (e :: es) ρ ms cs m) (hg : Gl X x := by rfl) (hv : bootBuiltins x = some (.builtin id) := by decide +kernel) (hn : x ≠ "__name__" := by decide)
    (hdb : (x == ("__debug__" : Str)) = false := by decide) (he : starEach (e :: es) X.env = (false, eval e X.env) :: starEach es X.env := by rfl) (hpl : (backTo pos (starEach es X.env)).any (·.1) = false := by rfl) : EX X W R (.Call (.Name x p) (e :: es) [] pos) ρ ms cs (m >>= fun x => f x.1 >>= fun z => .ok (z, x.2)) := by
  obtain ⟨ta, a1, a2⟩ := ha
  refine ⟨_, pe_callB hc.1 hg hm hv a1 hn hdb he hpl, fun Γ G σ H Q hw c hr => a2 Γ G σ H _ hw c (hr.bind.mono fun x k vs G1 H1 g1 c1 k1 r1 n1 => ?_)⟩
  exact hc.2 Γ G1 ρ ms x.2 σ H1 H vs x.1 Q c1 k1 r1 (k.bind.mono fun z q w G2 H2 g2 c2 k2 r2 => q w G2 H2 (g1.trans g2) c2 (k1.trans k2.there) r2)
def maxA : List PD → Out PD
  | [.int i, .int j] => .ok (.int (if j > i then j else i))
  | _ => .bad
def minA : List PD → Out PD
  | [.int i, .int j] => .ok (.int (if j < i then j else i))
  | _ => .bad
theorem c_max2 (hc : X.calm = true) : CallR X (.builtin "max") (fun xs H Q => ∃ i j, xs = [.int i, .int j] ∧ Q (.int (if j > i then j else i)) H) ∧ CallA X (fun xs H Q => ∃ i j, xs = [.int i, .int j] ∧ Q (.int (if j > i then j else i)) H) (RD X.K) maxA := by
  refine ⟨call_max2 hc, fun Γ G ρ ms cs σ H H0 xs ds Q c t r hr => ?_⟩
  unfold maxA at hr
  split at hr
  · cases r with
    | cons q1 r =>
      cases r with
      | cons q2 r =>
        cases r
        cases q1
        cases q2
        exact ⟨_, _, rfl, hr _ G H (Same.refl _) c (Same.refl _) (.int _)⟩
  · exact hr.elim
theorem c_min2 (hc : X.calm = true) : CallR X (.builtin "min") (fun xs H Q => ∃ i j, xs = [.int i, .int j] ∧ Q (.int (if j < i then j else i)) H) ∧ CallA X (fun xs H Q => ∃ i j, xs = [.int i, .int j] ∧ Q (.int (if j < i then j else i)) H) (RD X.K) minA := by
  refine ⟨call_min2 hc, fun Γ G ρ ms cs σ H H0 xs ds Q c t r hr => ?_⟩
  unfold minA at hr
  split at hr
  · cases r with
    | cons q1 r =>
      cases r with
      | cons q2 r =>
        cases r
        cases q1
        cases q2
        exact ⟨_, _, rfl, hr _ G H (Same.refl _) c (Same.refl _) (.int _)⟩
  · exact hr.elim
end
/-! ### sorted(xs) -/
abbrev leS (a b : Str) : Bool := !decide (b.cps.toList < a.cps.toList)
def insS (x : Str) : List Str → List Str
  | [] => [x]
  | y :: r => if leS x y then x :: y :: r else y :: insS x r
def sortS : List Str → List Str
  | [] => []
  | x :: r => insS x (sortS r)
def insI (x : Int) : List Int → List Int
  | [] => [x]
  | y :: r => if x ≤ y then x :: y :: r else y :: insI x r
def sortI : List Int → List Int
  | [] => []
  | x :: r => insI x (sortI r)
theorem insS_perm (x : Str) : ∀ l, (insS x l).Perm (x :: l)
  | [] => .refl _
  | y :: r => by
    unfold insS
    split
    · exact .refl _
    · exact ((insS_perm x r).cons y).trans (.swap x y r)
theorem sortS_perm : ∀ l, (sortS l).Perm l
  | [] => .refl _
  | x :: r => (insS_perm x _).trans ((sortS_perm r).cons x)
theorem insI_perm (x : Int) : ∀ l, (insI x l).Perm (x :: l)
  | [] => .refl _
  | y :: r => by
    unfold insI
    split
    · exact .refl _
    · exact ((insI_perm x r).cons y).trans (.swap x y r)
theorem sortI_perm : ∀ l, (sortI l).Perm l
  | [] => .refl _
  | x :: r => (insI_perm x _).trans ((sortI_perm r).cons x)
theorem leS_iff {a b : Str} : leS a b = true ↔ a.cps.toList ≤ b.cps.toList := by
  unfold leS
  rw [Bool.not_eq_true', decide_eq_false_iff_not]
  exact Iff.rfl
theorem leS_total (a b : Str) : leS a b = true ∨ leS b a = true := by rw [leS_iff, leS_iff]; exact List.le_total _ _
theorem leS_trans {a b c : Str} (h : leS a b = true) (h' : leS b c = true) : leS a c = true := by rw [leS_iff] at *; exact List.le_trans h h'
theorem leS_anti {a b : Str} (h : leS a b = true) (h' : leS b a = true) : a = b := by
  rw [leS_iff] at *
  have := List.le_antisymm h h'
  cases a; cases b
  simp at this
  rw [this]
theorem perm_uniq {α : Type} {le : α → α → Prop} (anti : ∀ a b, le a b → le b a → a = b) : ∀ {xs ys : List α}, xs.Perm ys → xs.Pairwise le → ys.Pairwise le → xs = ys
  | [], ys, p, _, _ => p.nil_eq
  | x :: xs, [], p, _, _ => (nomatch p.eq_nil)
  | x :: xs, y :: ys, p, hx, hy => by
    have hx' := List.pairwise_cons.mp hx
    have hy' := List.pairwise_cons.mp hy
    have e : x = y := by
      have m1 : x ∈ y :: ys := p.mem_iff.mp List.mem_cons_self
      have m2 : y ∈ x :: xs := p.mem_iff.mpr List.mem_cons_self
      rcases List.mem_cons.mp m1 with e | m1
      · exact e
      · rcases List.mem_cons.mp m2 with e | m2
        · exact e.symm
        · exact anti _ _ (hx'.1 _ m2) (hy'.1 _ m1)
    subst e
    rw [perm_uniq anti ((List.perm_cons x).mp p) hx'.2 hy'.2]
theorem insS_sorted {x : Str} : ∀ {l : List Str}, l.Pairwise (fun a b => leS a b = true) → (insS x l).Pairwise (fun a b => leS a b = true)
  | [], _ => List.pairwise_singleton _ _
  | y :: r, h => by
    have h' := List.pairwise_cons.mp h
    unfold insS
    split
    · rename_i hxy
      refine List.pairwise_cons.mpr ⟨fun z hz => ?_, h⟩
      rcases List.mem_cons.mp hz with e | hz
      · rw [e]; exact hxy
      · exact leS_trans hxy (h'.1 z hz)
    · rename_i hxy
      refine List.pairwise_cons.mpr ⟨fun z hz => ?_, insS_sorted h'.2⟩
      rcases List.mem_cons.mp ((insS_perm x r).mem_iff.mp hz) with e | hz
      · rw [e]; exact (leS_total x y).resolve_left hxy
      · exact h'.1 z hz
theorem sortS_sorted : ∀ l, (sortS l).Pairwise (fun a b => leS a b = true)
  | [] => .nil
  | x :: r => insS_sorted (sortS_sorted r)
theorem insI_sorted {x : Int} : ∀ {l : List Int}, l.Pairwise (· ≤ ·) → (insI x l).Pairwise (· ≤ ·)
  | [], _ => List.pairwise_singleton _ _
  | y :: r, h => by
    have h' := List.pairwise_cons.mp h
    unfold insI
    split
    · rename_i hxy
      refine List.pairwise_cons.mpr ⟨fun z hz => ?_, h⟩
      rcases List.mem_cons.mp hz with e | hz
      · rw [e]; exact hxy
      · exact Int.le_trans hxy (h'.1 z hz)
    · rename_i hxy
      refine List.pairwise_cons.mpr ⟨fun z hz => ?_, insI_sorted h'.2⟩
      rcases List.mem_cons.mp ((insI_perm x r).mem_iff.mp hz) with e | hz
      · rw [e]; omega
      · exact h'.1 z hz
theorem sortI_sorted : ∀ l, (sortI l).Pairwise (· ≤ ·)
  | [] => .nil
  | x :: r => insI_sorted (sortI_sorted r)

theorem rising_pw : ∀ {p : Str} {l : List Str}, PyProof.Rows.risingS p l = true → (p :: l).Pairwise (fun a b => leS a b = true)
  | p, [], _ => List.pairwise_singleton _ _
  | p, x :: r, h => by
    unfold PyProof.Rows.risingS at h
    rw [Bool.and_eq_true] at h
    have ih := rising_pw h.2
    have e : leS p x = true := by
      have h1 := h.1
      rw [PyProof.Rows.ltCps_eq] at h1
      exact h1
    refine List.pairwise_cons.mpr ⟨fun z hz => ?_, ih⟩
    rcases List.mem_cons.mp hz with q | hz
    · rw [q]; exact e
    · exact leS_trans e ((List.pairwise_cons.mp ih).1 z hz)
theorem sortedS_pw : ∀ {l : List Str}, PyProof.Rows.sortedS l = true → l.Pairwise (fun a b => leS a b = true)
  | [], _ => .nil
  | x :: r, h => rising_pw h
def intsD : List PD → Option (List Int)
  | [] => some []
  | .int z :: r => (intsD r).map (z :: ·)
  | _ :: _ => none
theorem intsD_eq : ∀ {ds : List PD} {zs : List Int}, intsD ds = some zs → ds = zs.map PyData.int
  | [], zs, h => by cases h; rfl
  | .int z :: r, zs, h => by
    unfold intsD at h
    cases e : intsD r with
    | none => rw [e] at h; cases h
    | some ys =>
      rw [e] at h
      cases h
      rw [List.map_cons, intsD_eq e]
  | .none :: _, _, h => by cases h
  | .bool _ :: _, _, h => by cases h
  | .str _ :: _, _, h => by cases h
  | .list _ :: _, _, h => by cases h
  | .tuple _ :: _, _, h => by cases h
  | .dict _ :: _, _, h => by cases h
theorem intsD_map : ∀ (zs : List Int), intsD (zs.map PyData.int) = some zs
  | [] => rfl
  | z :: r => by rw [List.map_cons, intsD, intsD_map r]; rfl
def sortedD : PD → Out (List PD)
  | .list ds => match strsD ds with
    | some zs => if zs.length < 64 then .ok ((sortS zs).map PyData.str) else .bad
    | none => match intsD ds with
      | some ns => .ok ((sortI ns).map PyData.int)
      | none => .bad
  | _ => .bad
section
variable {X : Cx} {W : XK} {a b c e : Expr} {es : List Expr} {ρ : Rho} {ms : List Addr} {cs : List CO} {pos p2 p : Pos}
theorem c_sorted : CallR X (.builtin "sorted") (fun xs H Q => rSortedS X.K xs H Q ∨ rSortedI X.K xs H Q) ∧ CallS X (fun xs H Q => rSortedS X.K xs H Q ∨ rSortedI X.K xs H Q) (RL X.K) sortedD := by
  refine ⟨cr_sortedS.or cr_sortedI, fun Γ G ρ ms cs σ H H0 x dx Q c t rx hr => ?_⟩
  cases dx <;> first
    | exact hr.elim
    | skip
  rename_i ds
  obtain ⟨ad, vs, rfl, h1, d1⟩ := rs_list rx c.ex
  cases e : strsD ds with
  | some zs =>
    simp only [sortedD, e] at hr
    have e2 := strsD_eq e
    subst e2
    split at hr
    · rename_i hz
      rw [dpa_strs d1] at h1
      refine .inl ⟨ad, zs, rfl, h1, hz, fun ys q py sy hq => ?_⟩
      have ey : ys = sortS zs := perm_uniq (fun a b => leS_anti) (py.trans (sortS_perm zs).symm) (sortedS_pw sy) (sortS_sorted zs)
      subst ey
      obtain ⟨c2, r2⟩ := new_list c hq t (dpa_of_strs (sortS zs))
      exact hr _ G _ (Same.refl _) c2 (same_new hq) r2
    · exact hr.elim
  | none =>
    cases e' : intsD ds with
    | none => simp only [sortedD, e, e'] at hr; exact hr.elim
    | some ns =>
      simp only [sortedD, e, e'] at hr
      have e2 := intsD_eq e'
      subst e2
      rw [dpa_ints d1] at h1
      refine .inr ⟨ad, ns, rfl, h1, fun ys q py sy hq => ?_⟩
      have ey : ys = sortI ns := perm_uniq (fun a b h1 h2 => Int.le_antisymm h1 h2) (py.trans (sortI_perm ns).symm) sy (sortI_sorted ns)
      subst ey
      obtain ⟨c2, r2⟩ := new_list c hq t (dpa_of_ints (sortI ns))
      exact hr _ G _ (Same.refl _) c2 (same_new hq) r2
/-! ### xs.pop() -/
def popD (ds : List PD) : Out (PD × List PD) := match ds[ds.length - 1]? with
  | some d => .ok (d, ds.dropLast)
  | none => .bad
theorem ex_pop (i j : Nat) {x : Str} {ad : Addr} {ds : List PD} {apos : Pos} (h3 : ρ[i]? = some (some (.c ad)) := by rfl) (h1 : ms[j]? = some ad := by rfl) (h2 : cs[j]? = some (.l ds) := by rfl) (hN : X.N[i]? = some x := by rfl)
    (hv : Vis X.env.scope x := by first | exact Or.inl rfl | exact Or.inr (Or.inl rfl) | exact Or.inr (Or.inr rfl)) (hd : (x == ("__debug__" : Str)) = false := by decide) (hcd : (x == ("__classdict__" : Str)) = false := by decide)
    (hbase : attributeBase (.Name x p) "pop" X.env (eval (.Name x p) X.env) = eval (.Name x p) X.env := by rfl)
    (hline : (apos.endLine == pos.line) = true := by rfl) :
    EX X W (RD X.K) (.Call (.Attribute (.Name x p) "pop" apos) [] [] pos) ρ ms cs (popD ds >>= fun q => .ok (q.1, cs.set j (.l q.2))) := by
  refine ⟨_, pe_bm0 PySem.F.plainAttrs_list PySem.F.slot_list_pop PySem.F.type_list_pop mt_pop (pe_var hN hv hd hcd) hbase hline, fun Γ G σ H Q hw c hr => ?_⟩
  obtain ⟨v, e3, e4⟩ := env_get c.env h3
  obtain ⟨g, vs, h5, h6⟩ := cells_get c.cells h1 h2
  subst e4
  refine ⟨_, e3, .inl ⟨rfl, vs, .inl (.inl h5)⟩, ?_⟩
  have hl := dpa_len h6
  cases e : ds[ds.length - 1]? with
  | none => rw [popD, e] at hr; exact hr.elim
  | some d =>
    rw [popD, e] at hr
    obtain ⟨u, e1, q1⟩ := dpa_get h6 e
    refine ⟨ad, vs, u, rfl, rfl, h5, by rw [hl]; exact e1, ?_⟩
    exact hr u G _ (Same.refl _) (c.write h1 ⟨vs.dropLast, upd_same, dpa_dropLast h6⟩) there_upd q1
end
/-! ### a, b = e -/
section
variable {X : Cx} {W : XK} {m0 : List Addr} {N R L : Type} {RR : VR R} {rf : R → List CO} {nf : N → Sta} {lf : L → Sta} {rest : List Stmt} {e tg : Expr} {ρ : Rho} {ms : List Addr} {cs : List CO} {pos : Pos}
theorem ss_asgT {ι : Type} {u : PD → Rho → Out Rho} {vs : List Nat} {un : PD → Out ι} {ρf : ι → Rho} {m : Out PD} {k : ι → Out (Ctl N R L)} (h : EP X W (RD X.K) e ρ ms cs m) (hg : TgOk X tg vs u) (hu : ∀ d, u d ρ = (un d >>= fun t => .ok (ρf t))) (hue : ∀ d z fs, un d ≠ .err z fs)
    (hk : ∀ t, SS X W m0 RR rf nf lf rest (ρf t) ms cs (k t)) (hs : swapsWithSole [tg] e pos.line X.env = pure false := by rfl) (hw : swappedStores [tg] e X.env = pure none := by rfl) (ha1 : (assignEach [tg] X.env).map (·.2) = [assign tg X.env] := by rfl) :
    SS X W m0 RR rf nf lf (.Assign [tg] e pos :: rest) ρ ms cs (m >>= fun d => un d >>= fun t => k t) := by
  obtain ⟨t, t1, t2⟩ := h
  obtain ⟨g, g1, g2⟩ := hg
  refine ⟨_, pss_cons (ps_asg t1 g1 hs hw ha1) (pss_all (t := fun n => (hk n).choose) fun n => (hk n).choose_spec.1), fun Γ G σ H D hw hm c hr => t2 Γ G σ H _ hw c (hr.bind.mono fun d q v G1 H1 gg1 c1 k1 r1 => ?_)⟩
  refine g2 Γ G1 _ _ _ _ H1 v d _ c1 r1 ?_
  rw [hu d]
  cases eu : un d with
  | bad => rw [eu] at q; exact q.elim
  | err z fs => exact (hue d z fs eu).elim
  | ok x =>
    rw [eu] at q
    intro σ2 c4 hj hl2
    exact ⟨x, (hk x).choose_spec.2 Γ G1 σ2 H1 D hw hm c4 (Res.mono (show Res Γ.We (k x) _ from q) fun y z => z.fwd gg1 k1.there)⟩
theorem ss_asgTX {ι : Type} {u : PD → Rho → Out Rho} {vs : List Nat} {un : PD → Out ι} {ρf : ι → Rho} {m : Out (PD × List CO)} {k : ι → List CO → Out (Ctl N R L)} (h : EX X W (RD X.K) e ρ ms cs m) (hg : TgOk X tg vs u) (hu : ∀ d, u d ρ = (un d >>= fun t => .ok (ρf t))) (hue : ∀ d z fs, un d ≠ .err z fs)
    (hk : ∀ t cs1, SS X W m0 RR rf nf lf rest (ρf t) ms cs1 (k t cs1)) (hs : swapsWithSole [tg] e pos.line X.env = pure false := by rfl) (hw : swappedStores [tg] e X.env = pure none := by rfl) (ha1 : (assignEach [tg] X.env).map (·.2) = [assign tg X.env] := by rfl) :
    SS X W m0 RR rf nf lf (.Assign [tg] e pos :: rest) ρ ms cs (m >>= fun d => un d.1 >>= fun t => k t d.2) := by
  obtain ⟨t, t1, t2⟩ := h
  obtain ⟨g, g1, g2⟩ := hg
  refine ⟨_, pss_cons (ps_asg t1 g1 hs hw ha1) (pss_all (t := fun (n : ι × List CO) => (hk n.1 n.2).choose) fun n => (hk n.1 n.2).choose_spec.1), fun Γ G σ H D hw hm c hr => t2 Γ G σ H _ hw c (hr.bind.mono fun d q v G1 H1 gg1 c1 k1 r1 => ?_)⟩
  refine g2 Γ G1 _ _ _ _ H1 v d.1 _ c1 r1 ?_
  rw [hu d.1]
  cases eu : un d.1 with
  | bad => rw [eu] at q; exact q.elim
  | err z fs => exact (hue d.1 z fs eu).elim
  | ok x =>
    rw [eu] at q
    intro σ2 c4 hj hl2
    exact ⟨(x, d.2), (hk x d.2).choose_spec.2 Γ G1 σ2 H1 D hw hm c4 (Res.mono (show Res Γ.We (k x d.2) _ from q) fun y z => z.fwd gg1 k1)⟩
end

/-! ### values of tests that may change cells -/
section
variable {X : Cx} {W : XK} {a b c e : Expr} {ρ : Rho} {ms : List Addr} {cs : List CO} {pos : Pos}
theorem xd_cmp {op : CmpOp} {r : R2} {f : PD → PD → Out Bool} {ma : Out (PD × List CO)} {mb : List CO → Out (PD × List CO)} (ho : OpR X (compareOp op) r ∧ OpB X r f) (ha : EX X W (RD X.K) a ρ ms cs ma) (hb : ∀ cs1, EX X W (RS X.K) b ρ ms cs1 (mb cs1)) (hm : behindInMarks op b = false := by first | exact nomark _ | rfl) :
    EX X W (RD X.K) (.Compare a [op] [b] pos) ρ ms cs (ma >>= fun x => mb x.2 >>= fun y => (f x.1 y.1 >>= fun z => .ok (.bool z)) >>= fun z => .ok (z, y.2)) := by
  obtain ⟨ta, a1, a2⟩ := ha
  obtain ⟨tb, b1, b2⟩ := ex_all hb
  exact ⟨_, pe_cmpR ho.1 a1 b1 hm, sem_opX ho.2.s a2 b2⟩
theorem xd_and {r : List Expr} {ma : Out (PD × List CO)} {mb : List CO → Out (PD × List CO)} (ha : EX X W (RD X.K) a ρ ms cs ma) (hb : ∀ cs1, EX X W (RD X.K) (.BoolOp .And (b :: r) pos) ρ ms cs1 (mb cs1)) : EX X W (RD X.K) (.BoolOp .And (a :: b :: r) pos) ρ ms cs (ma >>= fun x => boolD x.1 >>= fun t => if t then mb x.2 else .ok (.bool false, x.2)) := by
  obtain ⟨ta, a1, a2⟩ := ha
  obtain ⟨tb, b1, b2⟩ := ex_all hb
  refine ⟨_, pe_and a1 b1, fun Γ G σ H Q hw c hr => a2 Γ G σ H _ hw c (hr.bind.mono fun x k v G1 H1 g1 c1 k1 r1 => ?_)⟩
  obtain ⟨x, cs1⟩ := x
  cases x <;> first
    | exact k.elim
    | skip
  rename_i t
  cases r1
  refine ⟨t, rfl, ?_⟩
  cases t with
  | true => exact b2 cs1 Γ G1 σ H1 _ hw c1 (Res.mono k fun y q v2 G2 H2 g2 c2 k2 r2 => q v2 G2 H2 (g1.trans g2) c2 (k1.trans k2) r2)
  | false => exact k _ G1 H1 g1 c1 k1 (.bl _)
theorem xd_or {r : List Expr} {ma : Out (PD × List CO)} {mb : List CO → Out (PD × List CO)} (ha : EX X W (RD X.K) a ρ ms cs ma) (hb : ∀ cs1, EX X W (RD X.K) (.BoolOp .Or (b :: r) pos) ρ ms cs1 (mb cs1)) : EX X W (RD X.K) (.BoolOp .Or (a :: b :: r) pos) ρ ms cs (ma >>= fun x => boolD x.1 >>= fun t => if t then .ok (.bool true, x.2) else mb x.2) := by
  obtain ⟨ta, a1, a2⟩ := ha
  obtain ⟨tb, b1, b2⟩ := ex_all hb
  refine ⟨_, pe_or a1 b1, fun Γ G σ H Q hw c hr => a2 Γ G σ H _ hw c (hr.bind.mono fun x k v G1 H1 g1 c1 k1 r1 => ?_)⟩
  obtain ⟨x, cs1⟩ := x
  cases x <;> first
    | exact k.elim
    | skip
  rename_i t
  cases r1
  refine ⟨t, rfl, ?_⟩
  cases t with
  | false => exact b2 cs1 Γ G1 σ H1 _ hw c1 (Res.mono k fun y q v2 G2 H2 g2 c2 k2 r2 => q v2 G2 H2 (g1.trans g2) c2 (k1.trans k2) r2)
  | true => exact k _ G1 H1 g1 c1 k1 (.bl _)
theorem xd_one {op : BoolOp} {ma : Out (PD × List CO)} (ha : EX X W (RD X.K) a ρ ms cs ma) : EX X W (RD X.K) (.BoolOp op [a] pos) ρ ms cs ma := by
  obtain ⟨ta, a1, a2⟩ := ha
  exact ⟨_, pe_one a1, a2⟩
theorem xd_not {ma : Out (PD × List CO)} (ha : EX X W (RD X.K) a ρ ms cs ma) : EX X W (RD X.K) (.UnaryOp .Not a pos) ρ ms cs (ma >>= fun x => boolD x.1 >>= fun t => .ok (.bool (!t), x.2)) := by
  obtain ⟨ta, a1, a2⟩ := ha
  refine ⟨_, pe_not a1, fun Γ G σ H Q hw c hr => a2 Γ G σ H _ hw c (hr.bind.mono fun x k v G1 H1 g1 c1 k1 r1 => ?_)⟩
  obtain ⟨x, cs1⟩ := x
  cases x <;> first
    | exact k.elim
    | skip
  cases r1
  exact ⟨_, rfl, k _ G1 H1 g1 c1 k1 (.bl _)⟩
theorem xd_ifExp {mc : Out (Bool × List CO)} {ma mb : List CO → Out (PD × List CO)} (hc : TX X W c ρ ms cs mc) (ha : ∀ cs1, EX X W (RD X.K) a ρ ms cs1 (ma cs1)) (hb : ∀ cs1, EX X W (RD X.K) b ρ ms cs1 (mb cs1)) : EX X W (RD X.K) (.IfExp c a b pos) ρ ms cs (mc >>= fun t => if t.1 then ma t.2 else mb t.2) := by
  obtain ⟨ta, a1, a2⟩ := ex_all ha
  obtain ⟨tb, b1, b2⟩ := ex_all hb
  obtain ⟨tc, c1, c2⟩ := hc
  refine ⟨_, pe_ifExp c1 a1 b1, fun Γ G σ H Q hw c hr => c2 Γ G σ H _ hw c (hr.bind.mono fun t k G1 H1 g1 cc1 k1 => ?_)⟩
  obtain ⟨t, cs1⟩ := t
  cases t with
  | true => exact a2 cs1 Γ G1 σ H1 _ hw cc1 (Res.mono k fun y q v2 G2 H2 g2 c2 k2 r2 => q v2 G2 H2 (g1.trans g2) c2 (k1.trans k2) r2)
  | false => exact b2 cs1 Γ G1 σ H1 _ hw cc1 (Res.mono k fun y q v2 G2 H2 g2 c2 k2 r2 => q v2 G2 H2 (g1.trans g2) c2 (k1.trans k2) r2)
/-- a cell with something, whose reckoning may change cells -/
theorem ex_opc {γ : Type} {op : Operator} {r : R2} {R : VR γ} {f : PD → PD → Out γ} (i j : Nat) {x : Str} {ad : Addr} {pa : Pos} {mb : Out (PD × List CO)} (ho : OpR X (binaryOp op) r ∧ OpS X r R f) (hb : EX X W (RS X.K) b ρ ms cs mb) (h : ρ[i]? = some (some (.c ad)) := by rfl) (h1 : ms[j]? = some ad := by rfl) (hN : X.N[i]? = some x := by rfl)
    (hv : Vis X.env.scope x := by first | exact Or.inl rfl | exact Or.inr (Or.inl rfl) | exact Or.inr (Or.inr rfl)) (hd : (x == ("__debug__" : Str)) = false := by decide) (hcd : (x == ("__classdict__" : Str)) = false := by decide) :
    EX X W R (.BinOp (.Name x pa) op b pos) ρ ms cs (mb >>= fun y => cellL j y.2 >>= fun ds => f (.list ds) y.1 >>= fun z => .ok (z, y.2)) := by
  obtain ⟨tb, b1, b2⟩ := hb
  refine ⟨_, pe_op ho.1 (pe_var hN hv hd hcd) b1, fun Γ G σ H Q hw c hr => ?_⟩
  obtain ⟨v, h3, h4⟩ := env_get c.env h
  refine ⟨v, h3, b2 Γ G σ H _ hw c (hr.bind.mono fun y k u G1 H1 g1 c1 k1 r1 => ?_)⟩
  unfold cellL at k
  cases e : y.2[j]? with
  | none => rw [e] at k; exact k.elim
  | some co =>
    rw [e] at k
    cases co with
    | k kvs => exact k.elim
    | l ds =>
      obtain ⟨g, vs, h5, h6⟩ := cells_get c1.cells h1 e
      exact ho.2 Γ G1 ρ ms y.2 σ H1 H v u (.list ds) y.1 Q c1 k1 (.inr ⟨ad, vs, ds, h4, rfl, h5, h6⟩) r1 (Res.mono (Res.bind k) fun z q w G3 H3 g3 c3 k3 r3 => q w G3 H3 (g1.trans g3) c3 (k1.trans k3.there) r3)
end

/-! ### joins, the parts told apart -/
section
variable {X : Cx} {W : XK} {m0 : List Addr} {N R L N1 L1 : Type} {RR : VR R} {rf : R → List CO} {nf : N → Sta} {lf : L → Sta} {st : Stmt} {rest body : List Stmt} {c tg iter : Expr} {ρ : Rho} {ms : List Addr} {cs : List CO} {pos : Pos}
theorem ss_seqN (rho : N1 → As → Rho) (msf : As → List Addr) (cf : N1 → List CO) {m : Out (Ctl N1 R L)} {k : N1 → Out (Ctl N R L)} (h : S1 X W m0 RR rf (fun n as => (rho n as, msf as, cf n)) lf st ρ ms cs m) (hk : ∀ n as, SS X W m0 RR rf nf lf rest (rho n as) (msf as) (cf n) (k n)) : SS X W m0 RR rf nf lf (st :: rest) ρ ms cs (m >>= seqC k) := ss_seq h hk
end
/-- the addresses in their order -/
def asOf : List Addr → As
  | [], _ => 0
  | a :: _, 0 => a
  | _ :: r, n + 1 => asOf r n
end Dd
set_option Elab.async false
set_option linter.all false
set_option maxRecDepth 100000
set_option maxHeartbeats 2000000
namespace Dd
open PySem PySem.Spec PyProof.Rows L2
/-! ### dicts with ints and texts as keys -/
def keyD : PD → Option Key
  | .int i => some (.inl i)
  | .str s => some (.inr s)
  | _ => none
abbrev KD := List (Key × PD)
def valP (kvs : KD) (k : Key) : Option PD := (kvs.find? fun kv => decide (kv.1 = k)).map (·.2)
def putP (kvs : KD) (k : Key) (d : PD) : KD :=
  if (kvs.any fun kv => decide (kv.1 = k)) = true then kvs.map (fun kv => if kv.1 = k then (kv.1, d) else kv) else kvs ++ [(k, d)]
theorem dp_key {K : PySem.W.Frag} {G : Hp} {v : V} {d : PD} {k : Key} (h : Dp K G v d) (e : keyD d = some k) : v = kV k := by
  cases h <;> simp [keyD] at e
  · subst e; rfl
  · subst e; rfl
section
variable {K : PySem.W.Frag} {G : Hp}
theorem kv_find {ws : List (Key × V)} {kvs : KD} (h : KvAll K G ws kvs) (k : Key) : match valP kvs k with
    | some d => ∃ v, valV ws k = some v ∧ Dp K G v d
    | none => valV ws k = none := by
  unfold KvAll at h
  induction h with
  | nil => rfl
  | @cons p q ws kvs r t ih =>
    obtain ⟨r1, r2⟩ := r
    unfold valP valV at ih ⊢
    rw [List.find?_cons, List.find?_cons]
    by_cases e : q.1 = k
    · rw [decide_eq_true e]
      rw [decide_eq_true (show p.1 = k by rw [r1]; exact e)]
      exact ⟨p.2, rfl, r2⟩
    · rw [decide_eq_false e]
      rw [decide_eq_false (show ¬ p.1 = k by rw [r1]; exact e)]
      exact ih
theorem kv_any {ws : List (Key × V)} {kvs : KD} (h : KvAll K G ws kvs) (k : Key) : (ws.any fun kv => decide (kv.1 = k)) = (kvs.any fun kv => decide (kv.1 = k)) := by
  unfold KvAll at h
  induction h with
  | nil => rfl
  | @cons p q ws kvs r t ih => rw [List.any_cons, List.any_cons, ih, r.1]
theorem kv_map {ws : List (Key × V)} {kvs : KD} (h : KvAll K G ws kvs) (k : Key) {v : V} {d : PD} (hv : Dp K G v d) : KvAll K G (ws.map fun kv => if kv.1 = k then (kv.1, v) else kv) (kvs.map fun kv => if kv.1 = k then (kv.1, d) else kv) := by
  unfold KvAll at h ⊢
  induction h with
  | nil => exact .nil
  | @cons p q ws kvs r t ih =>
    rw [List.map_cons, List.map_cons]
    refine .cons ?_ ih
    by_cases e : q.1 = k
    · rw [if_pos e, if_pos (show p.1 = k by rw [r.1]; exact e)]
      exact ⟨r.1, hv⟩
    · rw [if_neg e, if_neg (show ¬ p.1 = k by rw [r.1]; exact e)]
      exact r
theorem kv_snoc {ws : List (Key × V)} {kvs : KD} (h : KvAll K G ws kvs) {k : Key} {v : V} {d : PD} (hv : Dp K G v d) : KvAll K G (ws ++ [(k, v)]) (kvs ++ [(k, d)]) := by
  unfold KvAll at h ⊢
  induction h with
  | nil => exact .cons ⟨rfl, hv⟩ .nil
  | cons r t ih => exact .cons r ih
theorem kv_put {ws : List (Key × V)} {kvs : KD} (h : KvAll K G ws kvs) (k : Key) {v : V} {d : PD} (hv : Dp K G v d) : KvAll K G (putK ws k v) (putP kvs k d) := by
  unfold putK putP
  rw [kv_any h k]
  split
  · exact kv_map h k hv
  · exact kv_snoc h hv
theorem kv_len {ws : List (Key × V)} {kvs : KD} (h : KvAll K G ws kvs) : ws.length = kvs.length := by
  unfold KvAll at h
  induction h with
  | nil => rfl
  | cons _ _ ih => simp [ih]
end
def getK (kvs : KD) (y : PD) : Out PD := match keyD y with
  | some k => match valP kvs k with
    | some d => .ok d
    | none => .bad
  | none => .bad
def hasK (kvs : KD) (y : PD) : Out Bool := match keyD y with
  | some k => .ok (valP kvs k).isSome
  | none => .bad
def setK (kvs : KD) (y d : PD) : Out KD := match keyD y with
  | some k => if kvs.length < sizeLine then .ok (putP kvs k d) else .bad
  | none => .bad
section
variable {X : Cx} {W : XK} {a b c e : Expr} {ρ : Rho} {ms : List Addr} {cs : List CO} {pos p p2 : Pos}
/-- x[b], x a dict -/
theorem ed_get {k : Nat} (hr : Room k X.A) (i j : Nat) {x : Str} {ad : Addr} {kvs : KD} {pa : Pos} {mb : Out PD} (hb : EP X W (RD X.K) b ρ ms cs mb) (h : ρ[i]? = some (some (.c ad)) := by rfl) (h1 : ms[j]? = some ad := by rfl) (h2 : cs[j]? = some (.k kvs) := by rfl) (hN : X.N[i]? = some x := by rfl)
    (hv : Vis X.env.scope x := by first | exact Or.inl rfl | exact Or.inr (Or.inl rfl) | exact Or.inr (Or.inr rfl)) (hd : (x == ("__debug__" : Str)) = false := by decide) (hcd : (x == ("__classdict__" : Str)) = false := by decide) (hs : NoSl b := by exact fun _ _ => rfl) :
    EP X W (RD X.K) (.Subscript (.Name x pa) b pos) ρ ms cs (mb >>= fun y => getK kvs y) := by
  obtain ⟨tb, b1, b2⟩ := hb
  refine ⟨_, pe_dget (hu_of hr) (pe_var hN hv hd hcd) b1 hs, fun Γ G σ H Q hw c hr => ?_⟩
  obtain ⟨v, h3, h4⟩ := env_get c.env h
  subst h4
  refine ⟨_, h3, b2 Γ G σ H _ hw c (hr.bind.mono fun y k u G1 H1 g1 c1 k1 r1 => ?_)⟩
  obtain ⟨g, ws, h5, h6⟩ := cells_get c1.cells h1 h2
  unfold getK at k
  cases ek : keyD y with
  | none => rw [ek] at k; exact k.elim
  | some key =>
    rw [ek] at k
    have q := kv_find h6 key
    cases ev : valP kvs key with
    | none => simp only [ev] at k; exact k.elim
    | some d =>
      simp only [ev] at k q
      obtain ⟨w, q1, q2⟩ := q
      have eu := dp_key r1 ek
      subst eu
      exact ⟨ad, w, rfl, by rw [← q1]; exact DGet.k h5, k w G1 H1 g1 c1 k1 q2⟩

/-- a new dict -/
def RK (K : PySem.W.Frag) : VR KD := fun H0 G H v kvs => ∃ p ws, v = .ref p ∧ H0 p = none ∧ G p = none ∧ H p = some (.dK ws) ∧ KvAll K G ws kvs
theorem back_k {K : PySem.W.Frag} : Back (RK K) := fun _ _ _ _ _ _ t ⟨p, vs, e, h0, r⟩ => ⟨p, vs, e, t.free h0, r⟩
theorem new_dict {K : PySem.W.Frag} {mg : Str → Option Value} {Γ : Gam K mg} {G H H0 : Hp} {σ : L2.St} (c : Cfg Γ G ρ ms cs σ H) {p : Addr} {ws : List (Key × V)} {kvs : KD} (hp : H p = none) (t : There H0 H) (r : KvAll K G ws kvs) : Cfg Γ G ρ ms cs σ (upd H p (.dK ws)) ∧ RK K H0 G (upd H p (.dK ws)) (.ref p) kvs :=
  ⟨c.keep (Same.refl _) (same_new hp) (c.ex.trans (same_new hp)) fun _ _ _ n => n, p, ws, rfl, t.free hp, There.free (Kept.there c.ex) hp, upd_same, r⟩
theorem ek_new : EP X W (RK X.K) (.Dict [] [] pos) ρ ms cs (.ok []) := by
  refine ⟨_, pe_dnewK, fun Γ G σ H Q hw c hr p hp => ?_⟩
  obtain ⟨c2, r2⟩ := new_dict c hp (Kept.there (Same.refl _)) .nil
  exact hr _ G _ (Same.refl _) c2 (same_new hp) r2
/-- dict(x) -/
theorem ek_copy (i j : Nat) {x : Str} {ad : Addr} {kvs : KD} {pa : Pos} (hm : X.mg "dict" = none) (h : ρ[i]? = some (some (.c ad)) := by rfl) (h1 : ms[j]? = some ad := by rfl) (h2 : cs[j]? = some (.k kvs) := by rfl) (hN : X.N[i]? = some x := by rfl)
    (hv : Vis X.env.scope x := by first | exact Or.inl rfl | exact Or.inr (Or.inl rfl) | exact Or.inr (Or.inr rfl)) (hd : (x == ("__debug__" : Str)) = false := by decide) (hcd : (x == ("__classdict__" : Str)) = false := by decide) (hg : Gl X "dict" := by rfl)
    (hs1 : starEach (.Name x pa :: []) X.env = (false, eval (.Name x pa) X.env) :: starEach [] X.env := by rfl) :
    EP X W (RK X.K) (.Call (.Name "dict" p) [.Name x pa] [] pos) ρ ms cs (.ok kvs) := by
  refine ⟨_, pe_callTy call_dictD hg hm (by decide +kernel) (pa_cons (pe_var hN hv hd hcd) pa_nil hs1) (by decide) (by decide) hs1 rfl, fun Γ G σ H Q hw c hr => ?_⟩
  obtain ⟨v, h3, h4⟩ := env_get c.env h
  subst h4
  obtain ⟨g, ws, h5, h6⟩ := cells_get c.cells h1 h2
  refine ⟨_, h3, ad, ws, rfl, .inl h5, fun p hp => ?_⟩
  obtain ⟨c2, r2⟩ := new_dict c hp (Kept.there (Same.refl _)) h6
  exact hr _ G _ (Same.refl _) c2 (same_new hp) r2
end

section
variable {K : PySem.W.Frag} {mg : Str → Option Value} {Γ : Gam K mg} {G H : Hp} {ρ : Rho} {σ : L2.St} {ms : List Addr} {cs : List CO}
theorem Cfg.cellK (c : Cfg Γ G ρ ms cs σ H) {p : Addr} {ws : List (Key × V)} {kvs : KD} (g : G p = none) (n : p ∉ ms) (n0 : Γ.H p = none) (hp : H p = some (.dK ws)) (hd : KvAll K G ws kvs) : Cfg Γ G ρ (p :: ms) (.k kvs :: cs) σ H :=
  ⟨c.ex, .cons g ⟨ws, hp, hd⟩ n c.cells, c.env, c.grow, fun a m => (List.mem_cons.mp m).elim (fun e => .inr (by rw [e]; exact n0)) (c.loc a)⟩
end
section
variable {X : Cx} {W : XK} {m0 : List Addr} {N R L : Type} {RR : VR R} {rf : R → List CO} {nf : N → Sta} {lf : L → Sta} {rest : List Stmt} {e a tg : Expr} {ρ : Rho} {ms : List Addr} {cs : List CO} {pos p p2 : Pos}
theorem ss_asgK (i : Nat) {x : Str} {m : Out KD} {k : KD → Out (Ctl N R L)} (hN : X.N.Nodup) (h : EP X W (RK X.K) e ρ ms cs m) (hk : ∀ a ds, (∀ b ∈ m0, b ≠ a) → SS X W m0 RR rf nf lf rest (ρ.set i (some (.c a))) (a :: ms) (.k ds :: cs) (k ds)) (hi : X.N[i]? = some x := by rfl) (hx : Loc X.env.scope x := by first | exact Or.inl rfl | exact Or.inr rfl)
    (hs : swapsWith e (some (.Name x p)) pos.line X.env = pure false := by rfl) (hf : X.fn x = true ∨ X.env.scope.names.lookup x = some .local := by first | exact .inl rfl | exact .inr rfl) (hm0 : ∀ b ∈ m0, b ∈ ms := by simp) :
    SS X W m0 RR rf nf lf (.Assign [.Name x p] e pos :: rest) ρ ms cs (m >>= fun d => k d) := by
  obtain ⟨t, h1, h2⟩ := h
  refine ⟨_, pss_cons (ps_set hN hi hx h1 hs hf) (pss_all (t := fun (n : { a : Addr // ∀ b ∈ m0, b ≠ a } × KD) => (hk n.1.1 n.2 n.1.2).choose) fun n => (hk n.1.1 n.2 n.1.2).choose_spec.1), fun Γ G σ H D hw hm c hr => h2 Γ G σ H _ hw c (hr.bind.mono fun d q v G1 H1 g1 c1 k1 r1 => ?_)⟩
  obtain ⟨a, vs, rfl, h0, ga, ha, hd⟩ := r1
  obtain ⟨n1, n2⟩ := fresh_ok c h0
  have nm : ∀ b ∈ m0, b ≠ a := fun b hb z => n1 (by rw [← z]; exact hm0 b hb)
  exact ⟨(⟨a, nm⟩, d), (hk a d nm).choose_spec.2 Γ G1 _ H1 D hw hm ((c1.cellK ga n1 n2 ha hd).env' (env_set c1.env (av := .c a) rfl i)) (q.mono fun y z => z.fwd g1 k1.there)⟩
theorem ss_asgKX (i : Nat) {x : Str} {m : Out (KD × List CO)} {k : KD → List CO → Out (Ctl N R L)} (hN : X.N.Nodup) (h : EX X W (RK X.K) e ρ ms cs m) (hk : ∀ a ds cs1, (∀ b ∈ m0, b ≠ a) → SS X W m0 RR rf nf lf rest (ρ.set i (some (.c a))) (a :: ms) (.k ds :: cs1) (k ds cs1)) (hi : X.N[i]? = some x := by rfl) (hx : Loc X.env.scope x := by first | exact Or.inl rfl | exact Or.inr rfl)
    (hs : swapsWith e (some (.Name x p)) pos.line X.env = pure false := by rfl) (hf : X.fn x = true ∨ X.env.scope.names.lookup x = some .local := by first | exact .inl rfl | exact .inr rfl) (hm0 : ∀ b ∈ m0, b ∈ ms := by simp) :
    SS X W m0 RR rf nf lf (.Assign [.Name x p] e pos :: rest) ρ ms cs (m >>= fun d => k d.1 d.2) := by
  obtain ⟨t, h1, h2⟩ := h
  refine ⟨_, pss_cons (ps_set hN hi hx h1 hs hf) (pss_all (t := fun (n : { a : Addr // ∀ b ∈ m0, b ≠ a } × KD × List CO) => (hk n.1.1 n.2.1 n.2.2 n.1.2).choose) fun n => (hk n.1.1 n.2.1 n.2.2 n.1.2).choose_spec.1), fun Γ G σ H D hw hm c hr => h2 Γ G σ H _ hw c (hr.bind.mono fun d q v G1 H1 g1 c1 k1 r1 => ?_)⟩
  obtain ⟨a, vs, rfl, h0, ga, ha, hd⟩ := r1
  obtain ⟨n1, n2⟩ := fresh_ok c h0
  have nm : ∀ b ∈ m0, b ≠ a := fun b hb z => n1 (by rw [← z]; exact hm0 b hb)
  exact ⟨(⟨a, nm⟩, d.1, d.2), (hk a d.1 d.2 nm).choose_spec.2 Γ G1 _ H1 D hw hm ((c1.cellK ga n1 n2 ha hd).env' (env_set c1.env (av := .c a) rfl i)) (q.mono fun y z => z.fwd g1 k1)⟩
/-- d[a] = e -/
theorem ss_setK {k0 : Nat} (hr : Room k0 X.A) (i j : Nat) {x : Str} {ad : Addr} {kvs : KD} {m mi : Out PD} {k : KD → Out (Ctl N R L)} (h : EP X W (RD X.K) e ρ ms cs m) (hi : EP X W (RD X.K) a ρ ms cs mi) (hk : ∀ ds', SS X W m0 RR rf nf lf rest ρ ms (cs.set j (.k ds')) (k ds')) (h3 : ρ[i]? = some (some (.c ad)) := by rfl) (h1 : ms[j]? = some ad := by rfl) (h2 : cs[j]? = some (.k kvs) := by rfl) (hN : X.N[i]? = some x := by rfl)
    (hv : Vis X.env.scope x := by first | exact Or.inl rfl | exact Or.inr (Or.inl rfl) | exact Or.inr (Or.inr rfl)) (hd : (x == ("__debug__" : Str)) = false := by decide) (hcd : (x == ("__classdict__" : Str)) = false := by decide)
    (hs : swapsWithSole [.Subscript (.Name x p) a p2] e pos.line X.env = pure false := by rfl) (hw : swappedStores [.Subscript (.Name x p) a p2] e X.env = pure none := by rfl) (ha1 : (assignEach [.Subscript (.Name x p) a p2] X.env).map (·.2) = [assign (.Subscript (.Name x p) a p2) X.env] := by rfl)
    (hsub : ∀ v, assign (.Subscript (.Name x p) a p2) X.env v = (do
      let ov ← holding [v] (eval (.Name x p) X.env)
      let iv ← holding [v, ov] (eval a X.env)
      standAt p2
      holding [v, ov, iv] (setItem ov iv v)
      release [v, ov, iv] []) := by intro _; rfl) :
    SS X W m0 RR rf nf lf (.Assign [.Subscript (.Name x p) a p2] e pos :: rest) ρ ms cs (m >>= fun d => mi >>= fun y => setK kvs y d >>= fun ds' => k ds') := by
  obtain ⟨t, t1, t2⟩ := h
  obtain ⟨ti, i1, i2⟩ := hi
  refine ⟨_, pss_cons (ps_asg t1 (pg_sub (pe_var hN hv hd hcd) i1 (set_dict (hu_of hr)) hsub) hs hw ha1) (pss_all (t := fun n => (hk n).choose) fun n => (hk n).choose_spec.1), fun Γ G σ H D hw hm c hr => t2 Γ G σ H _ hw c (hr.bind.mono fun d q v G1 H1 g1 c1 k1 r1 => ?_)⟩
  obtain ⟨vo, e3, e4⟩ := env_get c.env h3
  subst e4
  refine ⟨_, e3, i2 Γ G1 σ H1 _ hw c1 (q.bind.mono fun y q u G2 H2 g2 c2 k2 r2 => ?_)⟩
  have q2 : Res Γ.We (setK kvs y d >>= fun ds' => k ds') (fun c => After Γ nf lf RR rf D G H c) := q
  unfold setK at q2
  cases ek : keyD y with
  | none => rw [ek] at q2; exact q2.elim
  | some key =>
    rw [ek] at q2
    by_cases hz : kvs.length < sizeLine
    · simp only [if_pos hz] at q2
      have q3 : Res Γ.We (k (putP kvs key d)) (fun c => After Γ nf lf RR rf D G H c) := q2
      obtain ⟨g3, ws, h5, h6⟩ := cells_get c2.cells h1 h2
      have eu := dp_key r2 ek
      subst eu
      refine ⟨ad, _, rfl, DPut.k h5 (by rw [kv_len h6]; exact hz), ?_⟩
      exact ⟨putP kvs key d, (hk _).choose_spec.2 Γ G2 _ _ D hw hm (c2.write h1 ⟨putK ws key v, upd_same, kv_put h6 key (dp_mono g2 r1)⟩) (q3.mono fun y z => z.fwd (g1.trans g2) (k1.there.trans (k2.there.trans there_upd)))⟩
    · simp only [if_neg hz] at q2
      exact q2.elim
theorem ss_retK (i j : Nat) {x : Str} {ad : Addr} {ds : KD} {r : R} (hr1 : CDrop ms cs m0 (rf r)) (hr2 : ∀ H0 G H v, RK X.K H0 G H v ds → RR H0 G H v r) (hn : ∀ b ∈ m0, b ∈ ms.eraseIdx j) (h : ρ[i]? = some (some (.c ad)) := by rfl) (h1 : ms[j]? = some ad := by rfl) (h2 : cs[j]? = some (.k ds) := by rfl) (hN : X.N[i]? = some x := by rfl)
    (hv : Vis X.env.scope x := by first | exact Or.inl rfl | exact Or.inr (Or.inl rfl) | exact Or.inr (Or.inr rfl)) (hd : (x == ("__debug__" : Str)) = false := by decide) (hcd : (x == ("__classdict__" : Str)) = false := by decide) :
    SS X W m0 RR rf nf lf (.Return (some (.Name x p)) pos :: rest) ρ ms cs (.ok (.rt r)) := by
  refine ⟨_, pss_cons (ps_ret (pe_var hN hv hd hcd)) pss_never, fun Γ G σ H D hw hm c hr => ?_⟩
  obtain ⟨v, h3, h4⟩ := env_get c.env h
  obtain ⟨g, vs, h5, h6⟩ := cells_get c.cells h1 h2
  have n0 : Γ.H ad = none := by
    rcases c.loc ad (List.mem_of_getElem? h1) with z | z
    · rw [hm] at z; exact (erase_ne (cells_nd c.cells) h1 (hn ad z) rfl).elim
    · exact z
  refine ⟨v, h3, hr v G H (Same.refl _) (Kept.there (Same.refl _)) c.ex ?_ c.grow (hr2 _ _ _ _ ⟨ad, vs, h4, n0, g, h5, h6⟩)⟩
  rw [hm]
  exact (hr1.ok c.cells).1
end

def eqF : PD → PD → Bool
  | .none, .none => true
  | .bool a, .bool b => a == b
  | .int a, .int b => a == b
  | .str a, .str b => a == b
  | _, _ => false
theorem eqF_eq {d d' : PD} (h : eqF d d' = true) : d = d' ∧ flatD d = true := by
  cases d <;> cases d' <;> simp [eqF, flatD] at h ⊢ <;> exact h
theorem dp_flat {K : PySem.W.Frag} {G : Hp} {v v' : V} {d : PD} (f : flatD d = true) (h : Dp K G v d) (h' : Dp K G v' d) : v = v' ∧ flatB v = true := by
  cases d <;> simp [flatD] at f <;> (cases h; cases h'; exact ⟨rfl, rfl⟩)
def sameK (a b : KD) : Bool := decide (a.length = b.length) && a.all fun p => match valP b p.1 with
  | some d => eqF p.2 d
  | none => false
def neK (a b : KD) : Out Bool := if sameK a b then .ok false else .bad
theorem kv_same {K : PySem.W.Frag} {G : Hp} {ws xs : List (Key × V)} {a b : KD} (ha : KvAll K G ws a) (hb : KvAll K G xs b) (h : sameK a b = true) : ws.length = xs.length ∧ ∀ p ∈ ws, valV xs p.1 = some p.2 ∧ flatB p.2 = true := by
  unfold sameK at h
  rw [Bool.and_eq_true, decide_eq_true_eq, List.all_eq_true] at h
  refine ⟨by rw [kv_len ha, kv_len hb]; exact h.1, ?_⟩
  have h2 := h.2
  clear h
  unfold KvAll at ha
  induction ha with
  | nil => intro p m; cases m
  | @cons p q ws a r t ih =>
    intro z m
    rcases List.mem_cons.mp m with e | m
    · rw [e]
      have hq := h2 q List.mem_cons_self
      have hf := kv_find hb q.1
      rw [r.1]
      cases ev : valP b q.1 with
      | none => simp only [ev] at hq; cases hq
      | some d =>
        simp only [ev] at hq hf
        obtain ⟨v, f1, f2⟩ := hf
        obtain ⟨e1, e2⟩ := eqF_eq hq
        rw [← e1] at f2
        obtain ⟨g1, g2⟩ := dp_flat e2 r.2 f2
        exact ⟨by rw [f1, g1], g2⟩
    · exact ih (fun x hx => h2 x (List.mem_cons_of_mem _ hx)) z m
section
variable {X : Cx} {W : XK} {ρ : Rho} {ms : List Addr} {cs : List CO} {pos p p2 : Pos}
theorem tp_neK {k : Nat} (hr : Room k X.A) (i j i2 j2 : Nat) {x y : Str} {ad bd : Addr} {kvs lvs : KD} (h : ρ[i]? = some (some (.c ad)) := by rfl) (h1 : ms[j]? = some ad := by rfl) (h2 : cs[j]? = some (.k kvs) := by rfl) (hN : X.N[i]? = some x := by rfl)
    (g : ρ[i2]? = some (some (.c bd)) := by rfl) (g1 : ms[j2]? = some bd := by rfl) (g2 : cs[j2]? = some (.k lvs) := by rfl) (gN : X.N[i2]? = some y := by rfl)
    (hv : Vis X.env.scope x := by first | exact Or.inl rfl | exact Or.inr (Or.inl rfl) | exact Or.inr (Or.inr rfl)) (hd : (x == ("__debug__" : Str)) = false := by decide) (hcd : (x == ("__classdict__" : Str)) = false := by decide)
    (gv : Vis X.env.scope y := by first | exact Or.inl rfl | exact Or.inr (Or.inl rfl) | exact Or.inr (Or.inr rfl)) (gd : (y == ("__debug__" : Str)) = false := by decide) (gcd : (y == ("__classdict__" : Str)) = false := by decide) :
    TP X W (.Compare (.Name x p) [.NotEq] [.Name y p2] pos) ρ ms cs (neK kvs lvs) := by
  refine ⟨_, pt_cmpR (op_ne_dictA hr.units0) (pe_var hN hv hd hcd) (pe_var gN gv gd gcd) (by first | exact nomark _ | rfl), fun Γ G σ H Q hw c hr => ?_⟩
  obtain ⟨v, h3, h4⟩ := env_get c.env h
  obtain ⟨u, g3, g4⟩ := env_get c.env g
  subst h4 g4
  obtain ⟨_, ws, h5, h6⟩ := cells_get c.cells h1 h2
  obtain ⟨_, xs, g5, g6⟩ := cells_get c.cells g1 g2
  unfold neK at hr
  by_cases hs : sameK kvs lvs = true
  · rw [if_pos hs] at hr
    obtain ⟨q1, q2⟩ := kv_same h6 g6 hs
    exact ⟨_, h3, _, g3, ad, bd, ws, xs, rfl, rfl, h5, g5, q1, q2, false, rfl, hr G H (Same.refl _) c (Same.refl _)⟩
  · rw [if_neg hs] at hr
    exact hr.elim
end
end Dd
set_option Elab.async false
set_option linter.all false
set_option maxRecDepth 100000
set_option maxHeartbeats 1000000
namespace Dd
open PySem PySem.Spec PyProof.Rows L2
/-! ### the plain part: what the operations do on told data -/
/-- a text of the letters l -/
def S (l : List Nat) : PD := .str ⟨l.toArray⟩
theorem str_S (z : Str) : PyData.str z = S z.cps.toList := rfl
theorem lit_S (s : String) : PyData.str (Str.ofString s) = S (s.toList.map Char.toNat) := by rw [Str.ofString_eq_toList]; rfl
@[simp] theorem S_inj {a b : List Nat} : (S a = S b) ↔ a = b := by simp [S]
inductive F2 {α β : Type} (P : α → β → Prop) : List α → List β → Prop where
  | nil : F2 P [] []
  | cons {a : α} {b : β} {as : List α} {bs : List β} : P a b → F2 P as bs → F2 P (a :: as) (b :: bs)
section
variable {α β γ : Type}
/-- m goes well, with P -/
def Ok (m : Out α) (P : α → Prop) : Prop := ∃ a, m = .ok a ∧ P a
theorem Ok.bind {m : Out α} {k : α → Out β} {P : α → Prop} {Q : β → Prop} (h : Ok m P) (hk : ∀ a, P a → Ok (k a) Q) : Ok (m >>= k) Q := by
  obtain ⟨a, rfl, h⟩ := h
  exact hk a h
theorem Ok.mono {m : Out α} {P Q : α → Prop} (h : Ok m P) (f : ∀ a, P a → Q a) : Ok m Q := by
  obtain ⟨a, e, h⟩ := h
  exact ⟨a, e, f a h⟩
theorem Ok.ret {a : α} {P : α → Prop} (h : P a) : Ok (.ok a) P := ⟨a, rfl, h⟩
/-- a loop with an invariant -/
theorem forM_ok {L R : Type} {b : PD → L → Out (Ctl L R L)} (I : List PD → L → Prop) : ∀ {ds : List PD} {l : L}, I ds l → (∀ d r l, I (d :: r) l → ∃ l', (b d l = .ok (.nx l') ∨ b d l = .ok (.ct l')) ∧ I r l') → ∃ l', forM b ds l = .ok (.nx l') ∧ I [] l'
  | [], l, h, _ => ⟨l, rfl, h⟩
  | d :: ds, l, h, hs => by
    obtain ⟨l', e, h'⟩ := hs d ds l h
    obtain ⟨l2, e2, h2⟩ := forM_ok I h' hs
    refine ⟨l2, ?_, h2⟩
    unfold forM
    rcases e with e | e <;> (rw [e]; exact e2)
theorem compP_map {f : PD → Out (Option PD)} {g : PD → Option PD} : ∀ {ds : List PD}, (∀ d ∈ ds, f d = .ok (g d)) → compP f ds = .ok (ds.filterMap g)
  | [], _ => rfl
  | d :: ds, h => by
    have e := compP_map (ds := ds) fun x hx => h x (List.mem_cons_of_mem _ hx)
    unfold compP
    rw [h d List.mem_cons_self, e]
    cases hg : g d with
    | none => simp [optC, hg]
    | some y => simp [optC, hg]
/-- a comprehension that draws: the values are as P says, the cells as I says -/
theorem compX_ok {f : PD → List CO → Out (Option PD × List CO)} (I : List CO → Prop) (P : PD → PD → Prop) : ∀ {ds : List PD} {cs : List CO}, I cs → (∀ d ∈ ds, ∀ cs, I cs → ∃ y cs', f d cs = .ok (some y, cs') ∧ P d y ∧ I cs') →
    ∃ ys cs', compX f ds cs = .ok (ys, cs') ∧ F2 P ds ys ∧ I cs'
  | [], cs, h, _ => ⟨[], cs, rfl, .nil, h⟩
  | d :: ds, cs, h, hs => by
    obtain ⟨y, c1, e, hp, h1⟩ := hs d List.mem_cons_self cs h
    obtain ⟨ys, c2, e2, hp2, h2⟩ := compX_ok (ds := ds) I P h1 fun x hx => hs x (List.mem_cons_of_mem _ hx)
    refine ⟨y :: ys, c2, ?_, .cons hp hp2, h2⟩
    unfold compX
    rw [e, noErr_ok, ok_bind]
    dsimp only
    rw [e2]
    rfl
end

theorem F2.len {α β : Type} {P : α → β → Prop} {as : List α} {bs : List β} (h : F2 P as bs) : as.length = bs.length := by
  induction h with
  | nil => rfl
  | cons _ _ ih => simp [ih]
/-! calls -/
section
variable {τ β : Type}
@[simp] theorem app_n {f : Out τ} : app [] f [] [] = f := rfl
@[simp] theorem app_d {ks : List AK} {f : FTy (Out τ) (.d :: ks)} {x : PD} {ds : List PD} {cs : List CO} : app (.d :: ks) f (x :: ds) cs = app ks (f x) ds cs := rfl
@[simp] theorem app_c {ks : List AK} {f : FTy (Out τ) (.c :: ks)} {x : List PD} {ds : List PD} {cs : List CO} : app (.c :: ks) f ds (.l x :: cs) = app ks (f x) ds cs := by cases ds <;> rfl
@[simp] theorem dOnly_ok {r : β × List CO} : dOnly (.ok r) = .ok r.1 := rfl
@[simp] theorem callC_0 {c : CO} {cs : List CO} {f : List CO → Out (β × List CO)} : callC [0] (c :: cs) f = (f [c] >>= fun r => .ok (r.1, putC [0] r.2 (c :: cs))) := rfl
@[simp] theorem callC_1 {c d : CO} {cs : List CO} {f : List CO → Out (β × List CO)} : callC [1] (c :: d :: cs) f = (f [d] >>= fun r => .ok (r.1, putC [1] r.2 (c :: d :: cs))) := rfl
@[simp] theorem callC_2 {c d e : CO} {cs : List CO} {f : List CO → Out (β × List CO)} : callC [2] (c :: d :: e :: cs) f = (f [e] >>= fun r => .ok (r.1, putC [2] r.2 (c :: d :: e :: cs))) := rfl
@[simp] theorem callC_3 {c d e g : CO} {cs : List CO} {f : List CO → Out (β × List CO)} : callC [3] (c :: d :: e :: g :: cs) f = (f [g] >>= fun r => .ok (r.1, putC [3] r.2 (c :: d :: e :: g :: cs))) := rfl
@[simp] theorem putC_0 {c c' : CO} {cs : List CO} : putC [0] [c'] (c :: cs) = c' :: cs := rfl
@[simp] theorem putC_1 {c d c' : CO} {cs : List CO} : putC [1] [c'] (c :: d :: cs) = c :: c' :: cs := rfl
@[simp] theorem putC_2 {c d e c' : CO} {cs : List CO} : putC [2] [c'] (c :: d :: e :: cs) = c :: d :: c' :: cs := rfl
@[simp] theorem putC_3 {c d e g c' : CO} {cs : List CO} : putC [3] [c'] (c :: d :: e :: g :: cs) = c :: d :: e :: c' :: cs := rfl
@[simp] theorem putC_n {cs : List CO} : putC [] [] cs = cs := rfl
@[simp] theorem callC_n {cs : List CO} {f : List CO → Out (β × List CO)} : callC [] cs f = (f [] >>= fun r => .ok (r.1, putC [] r.2 cs)) := rfl
variable {N R L : Type}
@[simp] theorem finE_rt {r : R} : finE (.rt r) = .ok r := rfl
@[simp] theorem finN_rt {r : PD × List CO} : finN (.rt r) = .ok r := rfl
@[simp] theorem finN_nx {n : List CO} : finN (.nx n) = .ok (.none, n) := rfl
@[simp] theorem upC_rt {r : R} : (upC (.rt r) : Ctl N R L) = .rt r := rfl
@[simp] theorem upC_bk {l : L} : (upC (.bk l) : Ctl N R L) = .bk l := rfl
@[simp] theorem upC_ct {l : L} : (upC (.ct l) : Ctl N R L) = .ct l := rfl
@[simp] theorem dnC_nx {n : N} : (dnC (.nx n : Ctl N R Empty) : Ctl N R L) = .nx n := rfl
@[simp] theorem dnC_rt {r : R} : (dnC (.rt r : Ctl N R Empty) : Ctl N R L) = .rt r := rfl
variable {N1 : Type}
@[simp] theorem seqC_nx {k : N1 → Out (Ctl N R L)} {n : N1} : seqC k (.nx n) = k n := rfl
@[simp] theorem seqC_rt {k : N1 → Out (Ctl N R L)} {r : R} : seqC k (.rt r) = .ok (.rt r) := rfl
@[simp] theorem seqC_bk {k : N1 → Out (Ctl N R L)} {r : L} : seqC k (.bk r) = .ok (.bk r) := rfl
@[simp] theorem seqC_ct {k : N1 → Out (Ctl N R L)} {r : L} : seqC k (.ct r) = .ok (.ct r) := rfl
@[simp] theorem dropC_0 {cs : List CO} : dropC 0 cs = .ok cs := rfl
@[simp] theorem dropC_s {n : Nat} {c : CO} {cs : List CO} : dropC (n + 1) (c :: cs) = dropC n cs := rfl
@[simp] theorem dropC_1 {c : CO} {cs : List CO} : dropC 1 (c :: cs) = .ok cs := rfl
@[simp] theorem dropC_2 {c d : CO} {cs : List CO} : dropC 2 (c :: d :: cs) = .ok cs := rfl
@[simp] theorem dropC_3 {c d e : CO} {cs : List CO} : dropC 3 (c :: d :: e :: cs) = .ok cs := rfl
@[simp] theorem cellL_0 {l : List PD} {cs : List CO} : cellL 0 (.l l :: cs) = .ok l := rfl
@[simp] theorem cellL_1 {c : CO} {l : List PD} {cs : List CO} : cellL 1 (c :: .l l :: cs) = .ok l := rfl
@[simp] theorem cellL_3 {c d e : CO} {l : List PD} {cs : List CO} : cellL 3 (c :: d :: e :: .l l :: cs) = .ok l := rfl
@[simp] theorem cellL_4 {c d e g : CO} {l : List PD} {cs : List CO} : cellL 4 (c :: d :: e :: g :: .l l :: cs) = .ok l := rfl
@[simp] theorem cellL_5 {c d e g g2 : CO} {l : List PD} {cs : List CO} : cellL 5 (c :: d :: e :: g :: g2 :: .l l :: cs) = .ok l := rfl
@[simp] theorem cellL_2 {c d : CO} {l : List PD} {cs : List CO} : cellL 2 (c :: d :: .l l :: cs) = .ok l := rfl
end
/-! ints -/
@[simp] theorem addD_i {a b : Int} : addD (.int a) (.int b) = .ok (.int (a + b)) := rfl
@[simp] theorem iaddD_i {a b : Int} : iaddD (.int a) (.int b) = .ok (.int (a + b)) := rfl
@[simp] theorem subD_i {a b : Int} : subD (.int a) (.int b) = .ok (.int (a - b)) := rfl
@[simp] theorem negD_i {a : Int} : negD (.int a) = .ok (.int (-a)) := rfl
@[simp] theorem intD_i {a : Int} : intD (.int a) = .ok (.int a) := rfl
theorem mulD_i {a b : Int} (h : CMul a b) : mulD (.int a) (.int b) = .ok (.int (a * b)) := if_pos h
theorem fdivD_i {a b : Int} (h : CDivN a b) : fdivD (.int a) (.int b) = .ok (.int (a.fdiv b)) := if_pos h
theorem modD_i {a b : Int} (h : b ≠ 0) : modD (.int a) (.int b) = .ok (.int (a.fmod b)) := if_pos h
theorem powD_i {a b : Int} (h : CPow a b) : powD (.int a) (.int b) = .ok (.int (a ^ b.toNat)) := if_pos h
@[simp] theorem ltD_i {a b : Int} : ltD (.int a) (.int b) = .ok (decide (a < b)) := rfl
@[simp] theorem leD_i {a b : Int} : leD (.int a) (.int b) = .ok (decide (a ≤ b)) := rfl
@[simp] theorem gtD_i {a b : Int} : gtD (.int a) (.int b) = .ok (decide (b < a)) := rfl
@[simp] theorem geD_i {a b : Int} : geD (.int a) (.int b) = .ok (decide (b ≤ a)) := rfl
@[simp] theorem eqD_i {a b : Int} : eqD (.int a) (.int b) = .ok (decide (a = b)) := by
  show (if _ then Out.ok (a == b) else .bad) = _
  rw [if_pos (show (SeqAt.shaped (.int a) && SeqAt.shaped (.int b)) = true from rfl)]; congr 1
@[simp] theorem neD_i {a b : Int} : neD (.int a) (.int b) = .ok (!decide (a = b)) := by
  show (if _ then Out.ok (!(a == b)) else .bad) = _
  rw [if_pos (show (SeqAt.shaped (.int a) && SeqAt.shaped (.int b)) = true from rfl)]; congr 1
@[simp] theorem eqD_b {a b : Bool} : eqD (.bool a) (.bool b) = .ok (a == b) := by cases a <;> cases b <;> rfl
@[simp] theorem neD_b {a b : Bool} : neD (.bool a) (.bool b) = .ok (!(a == b)) := by cases a <;> cases b <;> rfl
@[simp] theorem partD_i {a : Int} : partD (.int a) = .ok (some a) := rfl
@[simp] theorem boolD_b {a : Bool} : boolD (.bool a) = .ok a := rfl
@[simp] theorem truthD_b {a : Bool} : truthD (.bool a) = .ok a := rfl
@[simp] theorem truthD_l {a : List PD} : truthD (.list a) = .ok (!a.isEmpty) := rfl
theorem rangeD_n {n : Nat} (h : n < 2 ^ 62) : rangeD (.int 0) (.int (n : Int)) = .ok ((List.range n).map fun i => .int ((i : Nat) : Int)) := by
  unfold rangeD
  dsimp only
  rw [if_pos (by refine ⟨?_, ?_, ?_, ?_⟩ <;> omega)]
  simp
/-! lists -/
@[simp] theorem lenD_l {xs : List PD} : lenD (.list xs) = .ok (.int xs.length) := rfl
@[simp] theorem lenD_t {xs : List PD} : lenD (.tuple xs) = .ok (.int xs.length) := rfl
@[simp] theorem itemsD_l {xs : List PD} : itemsD (.list xs) = .ok xs := rfl
@[simp] theorem itemsD_t {xs : List PD} : itemsD (.tuple xs) = .ok xs := rfl
@[simp] theorem seqD_l {xs : List PD} : seqD (.list xs) = .ok xs := rfl
@[simp] theorem seqD_t {xs : List PD} : seqD (.tuple xs) = .ok xs := rfl
@[simp] theorem tupleD_l {xs : List PD} : tupleD (.list xs) = .ok (.tuple xs) := rfl
@[simp] theorem tupleD_t {xs : List PD} : tupleD (.tuple xs) = .ok (.tuple xs) := rfl
theorem atI_n {α : Type} {xs : List α} {n : Nat} : atI xs (n : Int) = xs[n]? := by
  unfold atI ixN
  rw [if_pos (by omega)]
  by_cases h : n < xs.length
  · rw [if_pos (by omega)]; simp
  · rw [if_neg (by omega)]; simp at h ⊢; exact h
theorem idxD_l {xs : List PD} {n : Nat} {d : PD} (h : xs[n]? = some d) : idxD (.list xs) (.int (n : Int)) = .ok d := by
  show (match atI xs (n : Int) with | some d => Out.ok d | none => .bad) = _
  rw [atI_n, h]
theorem idxD_t {xs : List PD} {n : Nat} {d : PD} (h : xs[n]? = some d) : idxD (.tuple xs) (.int (n : Int)) = .ok d := by
  show (match atI xs (n : Int) with | some d => Out.ok d | none => .bad) = _
  rw [atI_n, h]
@[simp] theorem idxD_l0 {x : PD} {xs : List PD} : idxD (.list (x :: xs)) (.int 0) = .ok x := idxD_l (n := 0) rfl
@[simp] theorem idxD_l1 {x y : PD} {xs : List PD} : idxD (.list (x :: y :: xs)) (.int 1) = .ok y := idxD_l (n := 1) rfl
@[simp] theorem idxD_l2 {x y z : PD} {xs : List PD} : idxD (.list (x :: y :: z :: xs)) (.int 2) = .ok z := idxD_l (n := 2) rfl
@[simp] theorem idxD_t0 {x : PD} {xs : List PD} : idxD (.tuple (x :: xs)) (.int 0) = .ok x := idxD_t (n := 0) rfl
@[simp] theorem idxD_t1 {x y : PD} {xs : List PD} : idxD (.tuple (x :: y :: xs)) (.int 1) = .ok y := idxD_t (n := 1) rfl
@[simp] theorem idxD_t2 {x y z : PD} {xs : List PD} : idxD (.tuple (x :: y :: z :: xs)) (.int 2) = .ok z := idxD_t (n := 2) rfl
@[simp] theorem setD_0 {x d : PD} {xs : List PD} : setD (x :: xs) (.int 0) d = .ok (d :: xs) := by
  show (match ixN (x :: xs).length 0 with | some j => Out.ok ((x :: xs).set j d) | none => .bad) = _
  have : ixN (x :: xs).length 0 = some 0 := by unfold ixN; rw [if_pos (by omega), if_pos (by simp <;> omega)]; rfl
  rw [this]; rfl
@[simp] theorem setD_1 {x y d : PD} {xs : List PD} : setD (x :: y :: xs) (.int 1) d = .ok (x :: d :: xs) := by
  show (match ixN (x :: y :: xs).length 1 with | some j => Out.ok ((x :: y :: xs).set j d) | none => .bad) = _
  have : ixN (x :: y :: xs).length 1 = some 1 := by unfold ixN; rw [if_pos (by omega), if_pos (by simp <;> omega)]; rfl
  rw [this]; rfl
theorem appD_ok {ds : List PD} {d : PD} (h : ds.length < sizeLine) : appD ds d = .ok (ds ++ [d]) := if_pos h
theorem sizeLine_eq : sizeLine = 16777216 := by decide
/-! texts -/
theorem S_len {l : List Nat} : (⟨l.toArray⟩ : Str).length = l.length := by simp [Str.length]
theorem addD_S {a b : List Nat} (h : a.length + b.length ≤ sizeLine) : addD (S a) (S b) = .ok (S (a ++ b)) := by
  show (if (⟨a.toArray⟩ : Str).length + (⟨b.toArray⟩ : Str).length ≤ sizeLine then Out.ok (PyData.str (⟨a.toArray⟩ ++ ⟨b.toArray⟩)) else .bad) = _
  rw [S_len, S_len, if_pos h]
  show Out.ok (PyData.str ⟨a.toArray ++ b.toArray⟩) = _
  simp [S]
theorem lenD_S {a : List Nat} (h : a.length ≤ sizeLine) : lenD (S a) = .ok (.int a.length) := by
  show (if (⟨a.toArray⟩ : Str).length ≤ sizeLine then Out.ok (PyData.int (⟨a.toArray⟩ : Str).length) else .bad) = _
  rw [S_len, if_pos h]
theorem idxD_S {a : List Nat} {n : Nat} {c : Nat} (h : a.length ≤ sizeLine) (hc : a[n]? = some c) : idxD (S a) (.int (n : Int)) = .ok (S [c]) := by
  show (if (⟨a.toArray⟩ : Str).length ≤ sizeLine then (match atI (⟨a.toArray⟩ : Str).cps.toList (n : Int) with | some c => Out.ok (PyData.str ⟨#[c]⟩) | none => .bad) else .bad) = _
  rw [S_len, if_pos h, atI_n]
  simp [hc, S]
theorem itemsD_S {a : List Nat} : itemsD (S a) = .ok (a.map fun c => S [c]) := by simp [itemsD, S]
@[simp] theorem asStr_S {a : List Nat} : asStr (S a) = .ok ⟨a.toArray⟩ := rfl
theorem strOk_S {a : List Nat} : PyData.strOk ⟨a.toArray⟩ = a.all (· < 0x110000) := by
  simp [PyData.strOk]

/-- letters that can be -/
def Tx (a : List Nat) : Prop := ∀ c ∈ a, c < 0x110000
theorem Tx.app {a b : List Nat} (h : Tx a) (h' : Tx b) : Tx (a ++ b) := fun c m => (List.mem_append.mp m).elim (h c) (h' c)
theorem Tx.sub {a b : List Nat} (h : Tx a) (s : ∀ c ∈ b, c ∈ a) : Tx b := fun c m => h c (s c m)
theorem Tx.take {a : List Nat} (h : Tx a) (n : Nat) : Tx (a.take n) := h.sub fun _ m => List.mem_of_mem_take m
theorem Tx.drop {a : List Nat} (h : Tx a) (n : Nat) : Tx (a.drop n) := h.sub fun _ m => List.mem_of_mem_drop m
@[simp] theorem Tx.nil : Tx [] := fun _ m => by cases m
theorem shaped_S {a : List Nat} (h : Tx a) : SeqAt.shaped (S a) = true := by
  show (PyData.canLay0 (S a) && decide (PyData.depth (S a) ≤ 64)) = true
  have e1 : PyData.canLay0 (S a) = PyData.strOk ⟨a.toArray⟩ := by simp [S, PyData.canLay0]
  have e2 : PyData.depth (S a) = 0 := by simp [S, PyData.depth]
  rw [e1, e2, strOk_S]
  simpa using show ∀ c ∈ a, c < 0x110000 from h
theorem shaped_iff {d : PD} : SeqAt.shaped d = true ↔ PyData.canLay0 d = true ∧ PyData.depth d ≤ 64 := by
  show (PyData.canLay0 d && decide (PyData.depth d ≤ 64)) = true ↔ _
  simp
theorem lay_all {k : Nat} : ∀ {ds : List PD}, (∀ d ∈ ds, PyData.canLay0 d = true ∧ PyData.depth d ≤ k) → PyData.canLayAll0 ds = true ∧ PyData.depthAll ds ≤ k
  | [], _ => ⟨by simp [PyData.canLayAll0], by simp [PyData.depthAll]⟩
  | d :: ds, h => by
    obtain ⟨h1, h2⟩ := lay_all (ds := ds) fun x hx => h x (List.mem_cons_of_mem _ hx)
    obtain ⟨g1, g2⟩ := h d List.mem_cons_self
    refine ⟨by simp [PyData.canLayAll0, g1, h1], ?_⟩
    rw [PyData.depthAll]
    omega
theorem lay_S {a : List Nat} (h : Tx a) : PyData.canLay0 (S a) = true ∧ PyData.depth (S a) = 0 := by
  have e1 : PyData.canLay0 (S a) = PyData.strOk ⟨a.toArray⟩ := by simp [S, PyData.canLay0]
  have e2 : PyData.depth (S a) = 0 := by simp [S, PyData.depth]
  rw [e1, e2, strOk_S]
  exact ⟨by simpa using show ∀ c ∈ a, c < 0x110000 from h, rfl⟩
theorem shaped_l {k : Nat} {ds : List PD} (h : ∀ d ∈ ds, PyData.canLay0 d = true ∧ PyData.depth d ≤ k) (hk : k ≤ 63) : SeqAt.shaped (.list ds) = true := by
  obtain ⟨h1, h2⟩ := lay_all h
  rw [shaped_iff]
  exact ⟨by simp [PyData.canLay0, h1], by simp [PyData.depth]; omega⟩
theorem shaped_t {k : Nat} {ds : List PD} (h : ∀ d ∈ ds, PyData.canLay0 d = true ∧ PyData.depth d ≤ k) (hk : k ≤ 63) : SeqAt.shaped (.tuple ds) = true := by
  obtain ⟨h1, h2⟩ := lay_all h
  rw [shaped_iff]
  exact ⟨by simp [PyData.canLay0, h1], by simp [PyData.depth]; omega⟩
theorem eq_list_nil {ds : List PD} (h : SeqAt.shaped (.list ds) = true) : eqD (.list ds) (.list []) = .ok (decide (ds = [])) := by
  unfold eqD
  rw [h, show SeqAt.shaped (.list []) = true from rfl]
  cases ds <;> simp [PyData.eqv, PyData.eqvAll]
theorem eqv_S {a b : List Nat} : PyData.eqv (S a) (S b) = decide (a = b) := by
  show ((⟨a.toArray⟩ : Str) == ⟨b.toArray⟩) = _
  rw [Bool.eq_iff_iff]
  simp
theorem eqD_S {a b : List Nat} (h : Tx a) (h' : Tx b) : eqD (S a) (S b) = .ok (decide (a = b)) := by
  unfold eqD
  rw [shaped_S h, shaped_S h', eqv_S]; rfl
theorem neD_S {a b : List Nat} (h : Tx a) (h' : Tx b) : neD (S a) (S b) = .ok (!decide (a = b)) := by
  unfold neD
  rw [shaped_S h, shaped_S h', eqv_S]; rfl
theorem cutL_hi {α : Type} {a : List α} {n : Nat} : cutL a none (some (n : Int)) = a.take n := by
  unfold cutL
  rw [HT.sIx_nat, HT.sIx_none, List.drop_zero, Nat.sub_zero]
  by_cases h : n ≤ a.length
  · rw [Nat.min_eq_left h]
  · rw [Nat.min_eq_right (by omega), List.take_length, List.take_of_length_le (by omega)]
theorem cutL_lo {α : Type} {a : List α} {n : Nat} : cutL a (some (n : Int)) none = a.drop n := by
  unfold cutL
  rw [HT.sIx_nat, HT.sIx_none]
  by_cases h : n ≤ a.length
  · rw [Nat.min_eq_left h, List.take_of_length_le (by rw [List.length_drop]; omega)]
  · rw [Nat.min_eq_right (by omega), List.drop_length, List.take_nil, List.drop_eq_nil_of_le (by omega)]
theorem cutL_lh {α : Type} {a : List α} {m n : Nat} : cutL a (some (m : Int)) (some (n : Int)) = (a.drop m).take (n - m) := by
  unfold cutL
  rw [HT.sIx_nat, HT.sIx_nat]
  by_cases h : m ≤ a.length
  · rw [Nat.min_eq_left (a := m) h]
    by_cases h2 : n ≤ a.length
    · rw [Nat.min_eq_left (a := n) h2]
    · rw [Nat.min_eq_right (a := n) (by omega), List.take_of_length_le (by rw [List.length_drop]; omega), List.take_of_length_le (by rw [List.length_drop]; omega)]
  · rw [Nat.min_eq_right (a := m) (by omega), List.drop_length, List.take_nil, List.drop_eq_nil_of_le (as := a) (i := m) (by omega), List.take_nil]
theorem cutD_S {a : List Nat} {lo hi : Option Int} (h : a.length ≤ sizeLine) : cutD (S a) lo hi = .ok (S (cutL a lo hi)) := by
  show (if (⟨a.toArray⟩ : Str).length ≤ sizeLine then Out.ok (PyData.str (cutS ⟨a.toArray⟩ lo hi)) else .bad) = _
  rw [S_len, if_pos h]
  rw [str_S]
  unfold cutS cutL
  rw [S_len]
@[simp] theorem cutD_l {a : List PD} {lo hi : Option Int} : cutD (.list a) lo hi = .ok (.list (cutL a lo hi)) := rfl
@[simp] theorem cutD_t {a : List PD} {lo hi : Option Int} : cutD (.tuple a) lo hi = .ok (.tuple (cutL a lo hi)) := rfl
@[simp] theorem cutLL_l {a : List PD} {lo hi : Option Int} : cutLL (.list a) lo hi = .ok (cutL a lo hi) := rfl
theorem startsD_S {a b : List Nat} : startsD (S a) (S b) = .ok (.bool (decide (a.take b.length = b))) := by
  show Out.ok (PyData.bool (Txt.startswith ⟨a.toArray⟩ ⟨b.toArray⟩)) = _
  congr 2
  unfold Txt.startswith Builtin.Str.subAt
  rw [S_len, S_len, Bool.eq_iff_iff]
  simp only [Bool.and_eq_true, decide_eq_true_eq, Nat.zero_add, beq_iff_eq]
  constructor
  · rintro ⟨h1, h2⟩
    have := congrArg Array.toList h2
    simpa using this
  · intro h
    refine ⟨?_, ?_⟩
    · have := congrArg List.length h
      rw [List.length_take] at this
      omega
    · apply Array.ext'
      simpa using h
theorem glued_nil : ∀ (parts : List (List Nat)), Builtin.Str.glued ⟨#[]⟩ (parts.map fun l => (⟨l.toArray⟩ : Str)) = ⟨parts.flatten.toArray⟩ := by
  intro parts
  cases parts with
  | nil => rfl
  | cons p ps =>
    have key : ∀ (ps : List (List Nat)) (acc : Array Nat), (ps.map fun l => (⟨l.toArray⟩ : Str)).foldl (fun (acc : Array Nat) (p : Str) => acc ++ (⟨#[]⟩ : Str).cps ++ p.cps) acc = acc ++ ps.flatten.toArray := by
      intro ps
      induction ps with
      | nil => intro acc; simp
      | cons q ps ih =>
        intro acc
        rw [List.map_cons, List.foldl_cons, ih]
        simp
    unfold Builtin.Str.glued
    rw [List.map_cons, List.drop_succ_cons, List.drop_zero, key]
    simp
theorem joinD_S0 {ls : List (List Nat)} (h : ls.flatten.length ≤ 16777216) : joinD (S []) (.list (ls.map S)) = .ok (S ls.flatten) := by
  have e : (ls.map S) = (ls.map fun l => (⟨l.toArray⟩ : Str)).map PyData.str := by rw [List.map_map]; rfl
  show (match strsD (ls.map S) with
    | some zs => if (zs.map fun (z : Str) => z.length).sum + zs.length * (⟨([] : List Nat).toArray⟩ : Str).length ≤ 16777216 then Out.ok (PyData.str (Txt.join ⟨([] : List Nat).toArray⟩ zs)) else .bad
    | none => .bad) = _
  rw [e, strsD_map]
  dsimp only
  rw [if_pos]
  · show Out.ok (PyData.str (Builtin.Str.glued ⟨#[]⟩ _)) = _
    rw [glued_nil]; rfl
  · rw [S_len]
    simp only [List.length_nil, Nat.mul_zero, Nat.add_zero, List.map_map]
    rw [List.length_flatten] at h
    have e3 : List.map ((fun (x : Str) => x.length) ∘ fun l => (⟨l.toArray⟩ : Str)) ls = List.map List.length ls := by
      apply List.map_congr_left
      intro l _
      exact S_len
    rw [e3]
    exact h
/-! types -/
@[simp] theorem isi_S {T : String} {a : List Nat} : isiD T (S a) = isiD T (.str ⟨#[]⟩) := rfl
theorem isi_i {T : String} {a : Int} : isiD T (.int a) = isiD T (.int 0) := rfl
theorem isi_b {T : String} {a : Bool} : isiD T (.bool a) = isiD T (.bool true) := rfl
theorem isi_l {T : String} {a : List PD} : isiD T (.list a) = isiD T (.list []) := rfl
theorem isi_t {T : String} {a : List PD} : isiD T (.tuple a) = isiD T (.tuple []) := rfl

section
variable {α β : Type}
theorem Ok.of {m : Out α} {P : α → Prop} {a : α} (h : m = .ok a) (p : P a) : Ok m P := ⟨a, h, p⟩
theorem Ok.then' {m : Out α} {k : α → Out β} {P : α → Prop} {Q : β → Prop} (h : Ok m P) (hk : ∀ a, P a → Ok (k a) Q) : Ok (m >>= k) Q := h.bind hk
theorem compX_Ok {f : PD → List CO → Out (Option PD × List CO)} (I : List CO → Prop) (P : PD → PD → Prop) {ds : List PD} {cs : List CO} (h : I cs) (hs : ∀ d ∈ ds, ∀ cs, I cs → Ok (f d cs) fun r => ∃ y, r.1 = some y ∧ P d y ∧ I r.2) : Ok (compX f ds cs) fun r => F2 P ds r.1 ∧ I r.2 := by
  obtain ⟨ys, cs', e, h1, h2⟩ := compX_ok (f := f) I P h fun d hd cs hc => by
    obtain ⟨⟨y', cs'⟩, e, y, e2, p, i⟩ := hs d hd cs hc
    exact ⟨y, cs', by rw [e]; congr 2, p, i⟩
  exact ⟨(ys, cs'), e, h1, h2⟩
theorem forM_Ok {L R : Type} {b : PD → L → Out (Ctl L R L)} (I : List PD → L → Prop) {ds : List PD} {l : L} (h : I ds l) (hs : ∀ d r l, I (d :: r) l → Ok (b d l) fun c => ∃ l', (c = .nx l' ∨ c = .ct l') ∧ I r l') : Ok (forM b ds l) fun c => ∃ l', c = .nx l' ∧ I [] l' := by
  obtain ⟨l', e, h'⟩ := forM_ok (b := b) I h fun d r l hi => by
    obtain ⟨c, e, l', e2, h'⟩ := hs d r l hi
    refine ⟨l', ?_, h'⟩
    rcases e2 with e2 | e2
    · exact .inl (by rw [e, e2])
    · exact .inr (by rw [e, e2])
  exact ⟨_, e, l', rfl, h'⟩
theorem forM_OkR {L R : Type} {b : PD → L → Out (Ctl L R L)} (I : List PD → L → Prop) (Q : R → Prop) : ∀ {ds : List PD} {l : L}, I ds l → (∀ d r l, I (d :: r) l → Ok (b d l) fun c => (∃ l', (c = .nx l' ∨ c = .ct l') ∧ I r l') ∨ ∃ x, c = .rt x ∧ Q x) → Ok (forM b ds l) fun c => (∃ l', c = .nx l' ∧ I [] l') ∨ ∃ x, c = .rt x ∧ Q x
  | [], l, h, _ => ⟨_, rfl, .inl ⟨l, rfl, h⟩⟩
  | d :: ds, l, h, hs => by
    obtain ⟨c, e, q⟩ := hs d ds l h
    unfold forM
    rw [e]
    rcases q with ⟨l', q, h'⟩ | ⟨x, rfl, hq⟩
    · have ih := forM_OkR I Q h' hs
      rcases q with rfl | rfl <;> exact ih
    · exact ⟨_, rfl, .inr ⟨x, rfl, hq⟩⟩
theorem forM_range {L R : Type} {b : PD → L → Out (Ctl L R L)} (I : Nat → L → Prop) {n : Nat} {l : L} (h : I 0 l) (hs : ∀ k l, k < n → I k l → Ok (b (.int ((k : Nat) : Int)) l) fun c => ∃ l', (c = .nx l' ∨ c = .ct l') ∧ I (k + 1) l') :
    Ok (forM b ((List.range n).map fun i => PyData.int ((i : Nat) : Int)) l) fun c => ∃ l', c = .nx l' ∧ I n l' := by
  refine (forM_Ok (fun r l => ∃ k, r = ((List.range n).drop k).map (fun i => PyData.int ((i : Nat) : Int)) ∧ k ≤ n ∧ I k l) ⟨0, by simp, Nat.zero_le _, h⟩ ?_).mono ?_
  · rintro d r l ⟨k, e, hk, hi⟩
    by_cases hn : k < n
    · rw [List.drop_eq_getElem_cons (by simpa using hn), List.map_cons, List.getElem_range] at e
      cases e
      obtain ⟨c, e, l', q, h'⟩ := hs k l hn hi
      exact ⟨c, e, l', q, k + 1, rfl, hn, h'⟩
    · rw [List.drop_eq_nil_of_le (by simp; omega)] at e
      cases e
  · rintro c ⟨l', rfl, k, e, hk, hi⟩
    have : k = n := by
      have := congrArg List.length e
      simp at this
      omega
    subst this
    exact ⟨l', rfl, hi⟩
theorem F2.imp {P Q : α → β → Prop} {as : List α} {bs : List β} (h : F2 P as bs) (f : ∀ a b, P a b → Q a b) : F2 Q as bs := by
  induction h with
  | nil => exact .nil
  | cons p _ ih => exact .cons (f _ _ p) ih
theorem F2.map_of {γ : Type} {P : γ → Prop} {g : γ → β} {as : List α} {bs : List β} (h : F2 (fun _ y => ∃ c, y = g c ∧ P c) as bs) : ∃ cs : List γ, bs = cs.map g ∧ ∀ c ∈ cs, P c := by
  induction h with
  | nil => exact ⟨[], rfl, fun _ m => by cases m⟩
  | cons q _ ih =>
    obtain ⟨c, rfl, hc⟩ := q
    obtain ⟨cs, rfl, hcs⟩ := ih
    refine ⟨c :: cs, rfl, fun x m => ?_⟩
    rcases List.mem_cons.mp m with e | m
    · rw [e]; exact hc
    · exact hcs x m
end
theorem flat1 : ∀ cs : List Nat, (cs.map fun c => [c]).flatten = cs
  | [] => rfl
  | c :: cs => by rw [List.map_cons, List.flatten_cons, flat1 cs]; rfl
theorem joinD_1 {cs : List Nat} (h : cs.length ≤ 16777216) : joinD (S []) (.list (cs.map fun c => S [c])) = .ok (S cs) := by
  have := joinD_S0 (ls := cs.map fun c => [c]) (by rw [flat1]; exact h)
  rw [List.map_map, flat1] at this
  exact this
theorem S_nil : PyData.str "" = S [] := by kernel_rfl
theorem is_str_n : isiD "str" .none = .ok (.bool false) := by kernel_rfl
theorem is_str_b {b : Bool} : isiD "str" (.bool b) = .ok (.bool false) := by kernel_rfl
theorem is_str_i {i : Int} : isiD "str" (.int i) = .ok (.bool false) := by kernel_rfl
theorem is_str_s {a : List Nat} : isiD "str" (S a) = .ok (.bool true) := by kernel_rfl
theorem is_str_l {xs : List PD} : isiD "str" (.list xs) = .ok (.bool false) := by kernel_rfl
theorem is_str_t {xs : List PD} : isiD "str" (.tuple xs) = .ok (.bool false) := by kernel_rfl
theorem is_int_n : isiD "int" .none = .ok (.bool false) := by kernel_rfl
theorem is_int_b {b : Bool} : isiD "int" (.bool b) = .ok (.bool true) := by kernel_rfl
theorem is_int_i {i : Int} : isiD "int" (.int i) = .ok (.bool true) := by kernel_rfl
theorem is_int_s {a : List Nat} : isiD "int" (S a) = .ok (.bool false) := by kernel_rfl
theorem is_int_l {xs : List PD} : isiD "int" (.list xs) = .ok (.bool false) := by kernel_rfl
theorem is_int_t {xs : List PD} : isiD "int" (.tuple xs) = .ok (.bool false) := by kernel_rfl
theorem is_bool_n : isiD "bool" .none = .ok (.bool false) := by kernel_rfl
theorem is_bool_b {b : Bool} : isiD "bool" (.bool b) = .ok (.bool true) := by kernel_rfl
theorem is_bool_i {i : Int} : isiD "bool" (.int i) = .ok (.bool false) := by kernel_rfl
theorem is_bool_s {a : List Nat} : isiD "bool" (S a) = .ok (.bool false) := by kernel_rfl
theorem is_bool_l {xs : List PD} : isiD "bool" (.list xs) = .ok (.bool false) := by kernel_rfl
theorem is_bool_t {xs : List PD} : isiD "bool" (.tuple xs) = .ok (.bool false) := by kernel_rfl
theorem is_tuple_n : isiD "tuple" .none = .ok (.bool false) := by kernel_rfl
theorem is_tuple_b {b : Bool} : isiD "tuple" (.bool b) = .ok (.bool false) := by kernel_rfl
theorem is_tuple_i {i : Int} : isiD "tuple" (.int i) = .ok (.bool false) := by kernel_rfl
theorem is_tuple_s {a : List Nat} : isiD "tuple" (S a) = .ok (.bool false) := by kernel_rfl
theorem is_tuple_l {xs : List PD} : isiD "tuple" (.list xs) = .ok (.bool false) := by kernel_rfl
theorem is_tuple_t {xs : List PD} : isiD "tuple" (.tuple xs) = .ok (.bool true) := by kernel_rfl
theorem is_list_n : isiD "list" .none = .ok (.bool false) := by kernel_rfl
theorem is_list_b {b : Bool} : isiD "list" (.bool b) = .ok (.bool false) := by kernel_rfl
theorem is_list_i {i : Int} : isiD "list" (.int i) = .ok (.bool false) := by kernel_rfl
theorem is_list_s {a : List Nat} : isiD "list" (S a) = .ok (.bool false) := by kernel_rfl
theorem is_list_l {xs : List PD} : isiD "list" (.list xs) = .ok (.bool true) := by kernel_rfl
theorem is_list_t {xs : List PD} : isiD "list" (.tuple xs) = .ok (.bool false) := by kernel_rfl
theorem isD_n_n : isD .none .none = .ok true := rfl
theorem isNotD_n_n : isNotD .none .none = .ok false := rfl
theorem isD_true_n : isD .none (.bool true) = .ok false := rfl
theorem isNotD_true_n : isNotD .none (.bool true) = .ok true := rfl
theorem isD_false_n : isD .none (.bool false) = .ok false := rfl
theorem isNotD_false_n : isNotD .none (.bool false) = .ok true := rfl
theorem isD_n_b {b : Bool} : isD (.bool b) .none = .ok false := rfl
theorem isNotD_n_b {b : Bool} : isNotD (.bool b) .none = .ok true := rfl
theorem isD_n_i {i : Int} : isD (.int i) .none = .ok false := rfl
theorem isNotD_n_i {i : Int} : isNotD (.int i) .none = .ok true := rfl
theorem isD_true_i {i : Int} : isD (.int i) (.bool true) = .ok false := rfl
theorem isNotD_true_i {i : Int} : isNotD (.int i) (.bool true) = .ok true := rfl
theorem isD_false_i {i : Int} : isD (.int i) (.bool false) = .ok false := rfl
theorem isNotD_false_i {i : Int} : isNotD (.int i) (.bool false) = .ok true := rfl
theorem isD_n_s {a : List Nat} : isD (S a) .none = .ok false := rfl
theorem isNotD_n_s {a : List Nat} : isNotD (S a) .none = .ok true := rfl
theorem isD_true_s {a : List Nat} : isD (S a) (.bool true) = .ok false := rfl
theorem isNotD_true_s {a : List Nat} : isNotD (S a) (.bool true) = .ok true := rfl
theorem isD_false_s {a : List Nat} : isD (S a) (.bool false) = .ok false := rfl
theorem isNotD_false_s {a : List Nat} : isNotD (S a) (.bool false) = .ok true := rfl
theorem isD_n_l {xs : List PD} : isD (.list xs) .none = .ok false := rfl
theorem isNotD_n_l {xs : List PD} : isNotD (.list xs) .none = .ok true := rfl
theorem isD_true_l {xs : List PD} : isD (.list xs) (.bool true) = .ok false := rfl
theorem isNotD_true_l {xs : List PD} : isNotD (.list xs) (.bool true) = .ok true := rfl
theorem isD_false_l {xs : List PD} : isD (.list xs) (.bool false) = .ok false := rfl
theorem isNotD_false_l {xs : List PD} : isNotD (.list xs) (.bool false) = .ok true := rfl
theorem isD_n_t {xs : List PD} : isD (.tuple xs) .none = .ok false := rfl
theorem isNotD_n_t {xs : List PD} : isNotD (.tuple xs) .none = .ok true := rfl
theorem isD_true_t {xs : List PD} : isD (.tuple xs) (.bool true) = .ok false := rfl
theorem isNotD_true_t {xs : List PD} : isNotD (.tuple xs) (.bool true) = .ok true := rfl
theorem isD_false_t {xs : List PD} : isD (.tuple xs) (.bool false) = .ok false := rfl
theorem isNotD_false_t {xs : List PD} : isNotD (.tuple xs) (.bool false) = .ok true := rfl
theorem isD_true_true : isD (.bool true) (.bool true) = .ok true := rfl
theorem isNotD_true_true : isNotD (.bool true) (.bool true) = .ok false := rfl
theorem isD_true_false : isD (.bool false) (.bool true) = .ok false := rfl
theorem isNotD_true_false : isNotD (.bool false) (.bool true) = .ok true := rfl
theorem isD_false_true : isD (.bool true) (.bool false) = .ok false := rfl
theorem isNotD_false_true : isNotD (.bool true) (.bool false) = .ok true := rfl
theorem isD_false_false : isD (.bool false) (.bool false) = .ok true := rfl
theorem isNotD_false_false : isNotD (.bool false) (.bool false) = .ok false := rfl
theorem IS : (isiD "str" .none = .ok (.bool false)) ∧ (∀ {b : Bool}, isiD "str" (.bool b) = .ok (.bool false)) ∧ (∀ {i : Int}, isiD "str" (.int i) = .ok (.bool false)) ∧ (∀ {a : List Nat}, isiD "str" (S a) = .ok (.bool true)) ∧ (∀ {xs : List PD}, isiD "str" (.list xs) = .ok (.bool false)) ∧ (∀ {xs : List PD}, isiD "str" (.tuple xs) = .ok (.bool false)) ∧ (isiD "int" .none = .ok (.bool false)) ∧ (∀ {b : Bool}, isiD "int" (.bool b) = .ok (.bool true)) ∧ (∀ {i : Int}, isiD "int" (.int i) = .ok (.bool true)) ∧ (∀ {a : List Nat}, isiD "int" (S a) = .ok (.bool false)) ∧ (∀ {xs : List PD}, isiD "int" (.list xs) = .ok (.bool false)) ∧ (∀ {xs : List PD}, isiD "int" (.tuple xs) = .ok (.bool false)) ∧ (isiD "bool" .none = .ok (.bool false)) ∧ (∀ {b : Bool}, isiD "bool" (.bool b) = .ok (.bool true)) ∧ (∀ {i : Int}, isiD "bool" (.int i) = .ok (.bool false)) ∧ (∀ {a : List Nat}, isiD "bool" (S a) = .ok (.bool false)) ∧ (∀ {xs : List PD}, isiD "bool" (.list xs) = .ok (.bool false)) ∧ (∀ {xs : List PD}, isiD "bool" (.tuple xs) = .ok (.bool false)) ∧ (isiD "tuple" .none = .ok (.bool false)) ∧ (∀ {b : Bool}, isiD "tuple" (.bool b) = .ok (.bool false)) ∧ (∀ {i : Int}, isiD "tuple" (.int i) = .ok (.bool false)) ∧ (∀ {a : List Nat}, isiD "tuple" (S a) = .ok (.bool false)) ∧ (∀ {xs : List PD}, isiD "tuple" (.list xs) = .ok (.bool false)) ∧ (∀ {xs : List PD}, isiD "tuple" (.tuple xs) = .ok (.bool true)) ∧ (isiD "list" .none = .ok (.bool false)) ∧ (∀ {b : Bool}, isiD "list" (.bool b) = .ok (.bool false)) ∧ (∀ {i : Int}, isiD "list" (.int i) = .ok (.bool false)) ∧ (∀ {a : List Nat}, isiD "list" (S a) = .ok (.bool false)) ∧ (∀ {xs : List PD}, isiD "list" (.list xs) = .ok (.bool true)) ∧ (∀ {xs : List PD}, isiD "list" (.tuple xs) = .ok (.bool false)) ∧ (isD .none .none = .ok true) ∧ (isNotD .none .none = .ok false) ∧ (isD .none (.bool true) = .ok false) ∧ (isNotD .none (.bool true) = .ok true) ∧ (isD .none (.bool false) = .ok false) ∧ (isNotD .none (.bool false) = .ok true) ∧ (∀ {b : Bool}, isD (.bool b) .none = .ok false) ∧ (∀ {b : Bool}, isNotD (.bool b) .none = .ok true) ∧ (∀ {i : Int}, isD (.int i) .none = .ok false) ∧ (∀ {i : Int}, isNotD (.int i) .none = .ok true) ∧ (∀ {i : Int}, isD (.int i) (.bool true) = .ok false) ∧ (∀ {i : Int}, isNotD (.int i) (.bool true) = .ok true) ∧ (∀ {i : Int}, isD (.int i) (.bool false) = .ok false) ∧ (∀ {i : Int}, isNotD (.int i) (.bool false) = .ok true) ∧ (∀ {a : List Nat}, isD (S a) .none = .ok false) ∧ (∀ {a : List Nat}, isNotD (S a) .none = .ok true) ∧ (∀ {a : List Nat}, isD (S a) (.bool true) = .ok false) ∧ (∀ {a : List Nat}, isNotD (S a) (.bool true) = .ok true) ∧ (∀ {a : List Nat}, isD (S a) (.bool false) = .ok false) ∧ (∀ {a : List Nat}, isNotD (S a) (.bool false) = .ok true) ∧ (∀ {xs : List PD}, isD (.list xs) .none = .ok false) ∧ (∀ {xs : List PD}, isNotD (.list xs) .none = .ok true) ∧ (∀ {xs : List PD}, isD (.list xs) (.bool true) = .ok false) ∧ (∀ {xs : List PD}, isNotD (.list xs) (.bool true) = .ok true) ∧ (∀ {xs : List PD}, isD (.list xs) (.bool false) = .ok false) ∧ (∀ {xs : List PD}, isNotD (.list xs) (.bool false) = .ok true) ∧ (∀ {xs : List PD}, isD (.tuple xs) .none = .ok false) ∧ (∀ {xs : List PD}, isNotD (.tuple xs) .none = .ok true) ∧ (∀ {xs : List PD}, isD (.tuple xs) (.bool true) = .ok false) ∧ (∀ {xs : List PD}, isNotD (.tuple xs) (.bool true) = .ok true) ∧ (∀ {xs : List PD}, isD (.tuple xs) (.bool false) = .ok false) ∧ (∀ {xs : List PD}, isNotD (.tuple xs) (.bool false) = .ok true) ∧ (isD (.bool true) (.bool true) = .ok true) ∧ (isNotD (.bool true) (.bool true) = .ok false) ∧ (isD (.bool false) (.bool true) = .ok false) ∧ (isNotD (.bool false) (.bool true) = .ok true) ∧ (isD (.bool true) (.bool false) = .ok false) ∧ (isNotD (.bool true) (.bool false) = .ok true) ∧ (isD (.bool false) (.bool false) = .ok true) ∧ (isNotD (.bool false) (.bool false) = .ok false) :=
  ⟨is_str_n, is_str_b, is_str_i, is_str_s, is_str_l, is_str_t, is_int_n, is_int_b, is_int_i, is_int_s, is_int_l, is_int_t, is_bool_n, is_bool_b, is_bool_i, is_bool_s, is_bool_l, is_bool_t, is_tuple_n, is_tuple_b, is_tuple_i, is_tuple_s, is_tuple_l, is_tuple_t, is_list_n, is_list_b, is_list_i, is_list_s, is_list_l, is_list_t, isD_n_n, isNotD_n_n, isD_true_n, isNotD_true_n, isD_false_n, isNotD_false_n, isD_n_b, isNotD_n_b, isD_n_i, isNotD_n_i, isD_true_i, isNotD_true_i, isD_false_i, isNotD_false_i, isD_n_s, isNotD_n_s, isD_true_s, isNotD_true_s, isD_false_s, isNotD_false_s, isD_n_l, isNotD_n_l, isD_true_l, isNotD_true_l, isD_false_l, isNotD_false_l, isD_n_t, isNotD_n_t, isD_true_t, isNotD_true_t, isD_false_t, isNotD_false_t, isD_true_true, isNotD_true_true, isD_true_false, isNotD_true_false, isD_false_true, isNotD_false_true, isD_false_false, isNotD_false_false⟩
theorem EI : (∀ {a b : Int}, addD (.int a) (.int b) = .ok (.int (a + b))) ∧ (∀ {a b : Int}, iaddD (.int a) (.int b) = .ok (.int (a + b))) ∧ (∀ {a b : Int}, subD (.int a) (.int b) = .ok (.int (a - b))) ∧ (∀ {a : Int}, negD (.int a) = .ok (.int (-a))) ∧ (∀ {a : Int}, intD (.int a) = .ok (.int a)) ∧ (∀ {a b : Int}, ltD (.int a) (.int b) = .ok (decide (a < b))) ∧ (∀ {a b : Int}, leD (.int a) (.int b) = .ok (decide (a ≤ b))) ∧ (∀ {a b : Int}, gtD (.int a) (.int b) = .ok (decide (b < a))) ∧ (∀ {a b : Int}, geD (.int a) (.int b) = .ok (decide (b ≤ a))) ∧ (∀ {a b : Int}, eqD (.int a) (.int b) = .ok (decide (a = b))) ∧ (∀ {a b : Int}, neD (.int a) (.int b) = .ok (!decide (a = b))) ∧ (∀ {a b : Bool}, eqD (.bool a) (.bool b) = .ok (a == b)) ∧ (∀ {a b : Bool}, neD (.bool a) (.bool b) = .ok (!(a == b))) ∧ (∀ {a : Int}, partD (.int a) = .ok (some a)) ∧ (∀ {a : Bool}, boolD (.bool a) = .ok a) ∧ (∀ {a : Bool}, truthD (.bool a) = .ok a) ∧ (∀ {a : List PD}, truthD (.list a) = .ok (!a.isEmpty)) ∧ (∀ {xs : List PD}, lenD (.list xs) = .ok (.int xs.length)) ∧ (∀ {xs : List PD}, lenD (.tuple xs) = .ok (.int xs.length)) ∧ (∀ {xs : List PD}, itemsD (.list xs) = .ok xs) ∧ (∀ {xs : List PD}, itemsD (.tuple xs) = .ok xs) ∧ (∀ {xs : List PD}, seqD (.list xs) = .ok xs) ∧ (∀ {xs : List PD}, seqD (.tuple xs) = .ok xs) ∧ (∀ {xs : List PD}, tupleD (.list xs) = .ok (.tuple xs)) ∧ (∀ {xs : List PD}, tupleD (.tuple xs) = .ok (.tuple xs)) ∧ (∀ {x : PD} {xs : List PD}, idxD (.list (x :: xs)) (.int 0) = .ok x) ∧ (∀ {x y : PD} {xs : List PD}, idxD (.list (x :: y :: xs)) (.int 1) = .ok y) ∧ (∀ {x y z : PD} {xs : List PD}, idxD (.list (x :: y :: z :: xs)) (.int 2) = .ok z) ∧ (∀ {x : PD} {xs : List PD}, idxD (.tuple (x :: xs)) (.int 0) = .ok x) ∧ (∀ {x y : PD} {xs : List PD}, idxD (.tuple (x :: y :: xs)) (.int 1) = .ok y) ∧ (∀ {x y z : PD} {xs : List PD}, idxD (.tuple (x :: y :: z :: xs)) (.int 2) = .ok z) ∧ (∀ {x d : PD} {xs : List PD}, setD (x :: xs) (.int 0) d = .ok (d :: xs)) ∧ (∀ {x y d : PD} {xs : List PD}, setD (x :: y :: xs) (.int 1) d = .ok (x :: d :: xs)) ∧ (∀ {a : List Nat}, asStr (S a) = .ok ⟨a.toArray⟩) ∧ (∀ {a : List PD} {lo hi : Option Int}, cutD (.list a) lo hi = .ok (.list (cutL a lo hi))) ∧ (∀ {a : List PD} {lo hi : Option Int}, cutD (.tuple a) lo hi = .ok (.tuple (cutL a lo hi))) ∧ (∀ {a : List PD} {lo hi : Option Int}, cutLL (.list a) lo hi = .ok (cutL a lo hi)) :=
  ⟨addD_i, iaddD_i, subD_i, negD_i, intD_i, ltD_i, leD_i, gtD_i, geD_i, eqD_i, neD_i, eqD_b, neD_b, partD_i, boolD_b, truthD_b, truthD_l, lenD_l, lenD_t, itemsD_l, itemsD_t, seqD_l, seqD_t, tupleD_l, tupleD_t, idxD_l0, idxD_l1, idxD_l2, idxD_t0, idxD_t1, idxD_t2, setD_0, setD_1, asStr_S, cutD_l, cutD_t, cutLL_l⟩
end Dd
set_option Elab.async false
set_option linter.all false
set_option maxRecDepth 100000
set_option maxHeartbeats 2000000
namespace Dd
open PySem PySem.Spec PyProof.Rows L2
/-! ### max of three -/
def maxA3 : List PD → Out PD
  | [.int a, .int b, .int c] => .ok (.int (if b > a then (if c > b then c else b) else (if c > a then c else a)))
  | _ => .bad
theorem c_max3 {X : Cx} (hc : X.calm = true) : CallR X (.builtin "max") (fun xs H Q => ∃ a b c, xs = [.int a, .int b, .int c] ∧ Q (.int (if b > a then (if c > b then c else b) else (if c > a then c else a))) H) ∧ CallA X (fun xs H Q => ∃ a b c, xs = [.int a, .int b, .int c] ∧ Q (.int (if b > a then (if c > b then c else b) else (if c > a then c else a))) H) (RD X.K) maxA3 := by
  refine ⟨?_, fun Γ G ρ ms cs σ H H0 xs ds Q c t r hr => ?_⟩
  · intro pins s σ H xs us Q I r h
    obtain ⟨i, j, k, rfl, q⟩ := h
    cases r with
    | cons r1 r => cases r with
      | cons r2 r => cases r with
        | cons r3 r =>
          cases r
          obtain ⟨t1, rfl⟩ := r1
          obtain ⟨t2, rfl⟩ := r2
          obtain ⟨t3, rfl⟩ := r3
          refine PySem.max_three_ints (I.ok.hd hc) fun h' tk kk => ⟨_, H, I.kept kk, ?_, q⟩
          split <;> split <;> exact ⟨_, rfl⟩
  · unfold maxA3 at hr
    split at hr
    · cases r with
      | cons q1 r => cases r with
        | cons q2 r => cases r with
          | cons q3 r =>
            cases r
            cases q1
            cases q2
            cases q3
            exact ⟨_, _, _, rfl, hr _ G H (Same.refl _) c (Same.refl _) (.int _)⟩
    · exact hr.elim
/-! ### one keyword-only parameter with a default -/
theorem funD_fun {K : PySem.W.Frag} {x qual : Str} {st : Stmt} {kws : List (Str × V)} {f : Addr} {fd : FuncData} (F : FunD K x qual (defArgs st) (defBody st) (defScope st) [] kws f fd) : Fun K x qual st f fd := by
  obtain ⟨oc, od, dV, kV, doc, pm, an, cdv, ct, osl, e, lk, hcd, hD, _⟩ := F.ex
  rcases hD with ⟨_, rfl⟩ | ⟨z, _⟩
  · exact ⟨⟨oc, od, kV, doc, pm, an, cdv, ct, osl, e, lk, hcd⟩, F.kp⟩
  · exact absurd rfl z
section
variable {X : Cx} {W : XK} {a b c e v : Expr} {es : List Expr} {ρ : Rho} {ms : List Addr} {cs : List CO} {pos p2 p kpos : Pos} {ks : List AK}
theorem argsD {K : PySem.W.Frag} {G : Hp} : ∀ {vs : List V} {ds : List PD}, DpAll K G vs ds → ArgsA K G (ds.map fun _ => AK.d) vs ds []
  | _, _, .nil => .nil
  | _, _, .cons h t => .d h (argsD t)
theorem app_run {β : Type} {RR : VR β} {fm : FTy (Out (β × List CO)) ks} (hB : Back RR) {Γ : Gam X.K X.mg} (hw : Γ.W = W) {G G1 H H1 : Hp} {σ : L2.St} {Q : V → Hp → Prop} {vs : List V} {ds : List PD} (g1 : Same G G1) (c1 : Cfg Γ G1 ρ ms cs σ H1) (t1 : Kept H H1) (r1 : DpAll X.K G1 vs ds) (hks : ks = ds.map fun _ => AK.d)
    (q : Res Γ.We (dOnly (app ks fm ds [])) (fun r => ∀ v G' H', Same G G' → Cfg Γ G' ρ ms cs σ H' → Kept H H' → RR H G' H' v r → Q v H')) : prm X.K X.mg ks RR fm vs H1 Q W := by
  have ra := argsD r1
  rw [← hks] at ra
  refine ⟨ds, [], [], G1, Γ.We, ra, c1.ex, .nil, fun z fs cls d G' H' we gr ex xr => ?_, (Res.bind q).mono fun r q2 v G' H' gr ex cc rr => ?_⟩
  · rw [← hw]
    refine Γ.ok z fs cls d G' H' we ⟨c1.grow.gg.trans gr.gg, fun b o n h => gr.hh b o (by simp) (c1.grow.hh b o n h), fun b o h => ?_, fun b o h n => ?_⟩ ex xr
    · obtain ⟨o', h'⟩ := c1.grow.th b o h
      exact gr.th b o' h'
    · obtain ⟨o', h'⟩ := c1.grow.th b o h
      exact gr.nw b o' h' (c1.grow.nw b o h n)
  · have q3 : ∀ v G' H', Same G G' → Cfg Γ G' ρ ms cs σ H' → Kept H H' → RR H G' H' v r.1 → Q v H' := q2
    have kp : Kept H1 H' := fun b o h => gr.hh b o (by simp) h
    exact q3 v G' H' (g1.trans gr.gg) (c1.keep gr.gg kp ex gr.nw) (t1.trans kp) (hB _ _ _ _ _ _ t1.there rr)
/-- f(..), the keyword-only parameter left out -/
theorem ep_callD {β : Type} {RR : VR β} {fm : FTy (Out (β × List CO)) ks} {m : Out (List PD)} {CX : CXT} {k : Nat} {f : Addr} {fd : FuncData} {ps : List Str} {x : Str} {uv : V} {ud : PD} (Fk : FnOk X.prog X.w X.K X.mg X.base CX k f fd ps (prm X.K X.mg ks RR fm)) (hB : Back RR) (hr : Room k X.A) (hm : X.mg x = some (.ref f)) (hk : PySem.W.keepIn X.K (.ref f) = true) (hb : ∃ us, Vals [uv] us ∧ Binds X.K fd ps us) (hu : Dp X.K (fun _ => none) uv ud)
    (hx : Passes CX X W) (ha : AP X W (e :: es) ρ ms cs m) (hks : ks = .d :: (e :: es).map fun _ => AK.d := by rfl) (hg : Gl X x := by rfl) (hdb : (x == ("__debug__" : Str)) = false := by decide) (he : starEach (e :: es) X.env = (false, eval e X.env) :: starEach es X.env := by rfl) (hpl : (backTo pos (starEach es X.env)).any (·.1) = false := by rfl) :
    EP X W RR (.Call (.Name x p) (e :: es) [] pos) ρ ms cs (m >>= fun a => dOnly (app ks fm (a ++ [ud]) [])) := by
  obtain ⟨us, hv, hb⟩ := hb
  obtain ⟨ta, a1, a2⟩ := ha
  refine ⟨_, pe_call Fk hr hg hm hk hb hv hx a1 hdb he hpl, fun Γ G σ H Q hw c hres => a2 Γ G σ H _ hw c (hres.bind.mono fun a q vs G1 H1 g1 c1 t1 r1 n1 => ?_)⟩
  refine app_run hB hw g1 c1 t1 (dpa_append r1 (.cons (dp_mono (fun _ _ h => by cases h) hu) .nil)) ?_ q
  rw [hks, List.map_append]
  have z : ∀ (l : List Expr) (a : List PD), a.length = l.length → (AK.d :: l.map fun _ => AK.d) = (a.map fun _ => AK.d) ++ [AK.d] := by
    intro l
    induction l with
    | nil => intro a h; cases a with
      | nil => rfl
      | cons _ _ => simp at h
    | cons e l ih => intro a h; cases a with
      | nil => simp at h
      | cons d a => rw [List.map_cons, List.map_cons, List.cons_append, ← ih a (by simpa using h)]
  exact z _ _ n1
/-- f(.., q = v) -/
theorem ep_callQ {β : Type} {RR : VR β} {fm : FTy (Out (β × List CO)) ks} {m : Out (List PD)} {mv : Out PD} {CX : CXT} {k n : Nat} {f : Addr} {fd : FuncData} {ps : List Str} {x q : Str} (Fk : FnOk X.prog X.w X.K X.mg X.base CX k f fd ps (prm X.K X.mg ks RR fm)) (hB : Back RR) (hr : Room k X.A) (hm : X.mg x = some (.ref f)) (hk : PySem.W.keepIn X.K (.ref f) = true) (hb : KBn X.K fd ps n [q] (fun us ws => us ++ ws) (fun vs zs => vs ++ zs))
    (hx : Passes CX X W) (ha : AP X W (e :: es) ρ ms cs m) (hv : EP X W (RD X.K) v ρ ms cs mv) (hn : (e :: es).length = n := by rfl) (hks : ks = .d :: (e :: es).map fun _ => AK.d := by rfl) (hall : (backToKw pos (keywordEach [⟨some q, v, kpos⟩] X.env)).all (·.1.isSome) = true := by rfl) (hqs : (backToKw pos (keywordEach [⟨some q, v, kpos⟩] X.env)).filterMap (·.1) = [q] := by rfl) (hg : Gl X x := by rfl) (hdb : (x == ("__debug__" : Str)) = false := by decide) (he : starEach (e :: es) X.env = (false, eval e X.env) :: starEach es X.env := by rfl)
    (hpl : ((backTo pos (starEach (e :: es) X.env)).any (·.1) || (backToKw pos (keywordEach [⟨some q, v, kpos⟩] X.env)).any (·.1.isNone)) = false := by rfl) :
    EP X W RR (.Call (.Name x p) (e :: es) [⟨some q, v, kpos⟩] pos) ρ ms cs (m >>= fun a => mv >>= fun b => dOnly (app ks fm (a ++ [b]) [])) := by
  obtain ⟨ta, a1, a2⟩ := ha
  obtain ⟨tv, v1, v2⟩ := hv
  refine ⟨_, pe_callN Fk hr hg hm hk hb hx a1 (pk_cons v1 pk_nil) hall hqs hdb he hpl, fun Γ G σ H Q hw c hres => a2 Γ G σ H _ hw c (hres.bind.mono fun a q vs G1 H1 g1 c1 t1 r1 n1 => ?_)⟩
  refine v2 Γ G1 σ H1 _ hw c1 ((Res.bind q).mono fun b q2 y G2 H2 g2 c2 t2 r2 => ?_)
  refine ⟨?_, rfl, ?_⟩
  · rw [dpa_len r1, n1, hn]
  refine app_run hB hw (g1.trans g2) c2 (t1.trans t2) (dpa_append (dpa_mono g2 r1) (.cons r2 .nil)) ?_ q2
  rw [hks, List.map_append]
  have z : ∀ (l : List Expr) (a : List PD), a.length = l.length → (AK.d :: l.map fun _ => AK.d) = (a.map fun _ => AK.d) ++ [AK.d] := by
    intro l
    induction l with
    | nil => intro a h; cases a with
      | nil => rfl
      | cons _ _ => simp at h
    | cons e l ih => intro a h; cases a with
      | nil => simp at h
      | cons d a => rw [List.map_cons, List.map_cons, List.cons_append, ← ih a (by simpa using h)]
  exact z _ _ n1
end
end Dd
set_option Elab.async false
set_option linter.all false
set_option maxRecDepth 100000
set_option maxHeartbeats 4000000
namespace Dd
open PySem PySem.Spec PyProof.Rows L2
def c_HOLE_LETTERS : PD := (.int 6)
def m__law_draw : List PD → PD → Out (PD × List CO) := fun l_pool x_size => (((((Out.ok (PyData.list l_pool) >>= fun t3 => Out.ok (PyData.int 0) >>= fun t4 => idxD t3 t4) >>= fun t7 => (Out.ok (PyData.int 10) >>= fun t5 => Out.ok (PyData.int 18) >>= fun t6 => powD t5 t6) >>= fun t8 => geD t7 t8) >>= fun t1 => if t1 then (((Out.ok (PyData.list l_pool) >>= fun t10 => Out.ok (PyData.int 0) >>= fun t11 => idxD t10 t11) >>= fun t14 => (Out.ok (PyData.int 10) >>= fun t12 => Out.ok (PyData.int 18) >>= fun t13 => powD t12 t13) >>= fun t15 => subD t14 t15) >>= fun v9 => (((Out.ok (PyData.int 10) >>= fun t19 => Out.ok (PyData.int 18) >>= fun t20 => powD t19 t20) >>= fun t23 => (Out.ok v9 >>= fun t21 => Out.ok x_size >>= fun t22 => fdivD t21 t22) >>= fun t24 => addD t23 t24) >>= fun t16 => Out.ok (PyData.int 0) >>= fun t17 => setD l_pool t17 t16 >>= fun l18 => (((Out.ok v9 >>= fun t26 => intD t26) >>= fun t27 => Out.ok x_size >>= fun t28 => modD t27 t28) >>= fun t25 => Out.ok (Ctl.rt (t25, [CO.l l18]))))) >>= fun t2 => Out.ok (upC t2) else (((Out.ok (PyData.list l_pool) >>= fun t33 => Out.ok (PyData.int 1) >>= fun t34 => idxD t33 t34) >>= fun t35 => Out.ok (PyData.int 1) >>= fun t36 => addD t35 t36) >>= fun t30 => Out.ok (PyData.int 1) >>= fun t31 => setD l_pool t31 t30 >>= fun l32 => ((((((Out.ok (PyData.list l32) >>= fun t39 => Out.ok (PyData.int 0) >>= fun t40 => idxD t39 t40) >>= fun t41 => Out.ok (PyData.int 48271) >>= fun t42 => mulD t41 t42) >>= fun t47 => ((Out.ok (PyData.list l32) >>= fun t43 => Out.ok (PyData.int 1) >>= fun t44 => idxD t43 t44) >>= fun t45 => Out.ok (PyData.int 69621) >>= fun t46 => mulD t45 t46) >>= fun t48 => addD t47 t48) >>= fun t38 => intD t38) >>= fun t49 => Out.ok (PyData.int 2147483647) >>= fun t50 => modD t49 t50) >>= fun v37 => (((((Out.ok v37 >>= fun t53 => Out.ok v37 >>= fun t54 => mulD t53 t54) >>= fun t59 => ((Out.ok (PyData.list l32) >>= fun t55 => Out.ok (PyData.int 1) >>= fun t56 => idxD t55 t56) >>= fun t57 => Out.ok (PyData.int 40692) >>= fun t58 => mulD t57 t58) >>= fun t60 => addD t59 t60) >>= fun t52 => intD t52) >>= fun t61 => Out.ok (PyData.int 2147483399) >>= fun t62 => modD t61 t62) >>= fun v51 => (((((Out.ok v51 >>= fun t65 => Out.ok v51 >>= fun t66 => mulD t65 t66) >>= fun t69 => (Out.ok (PyData.list l32) >>= fun t67 => Out.ok (PyData.int 0) >>= fun t68 => idxD t67 t68) >>= fun t70 => addD t69 t70) >>= fun t64 => intD t64) >>= fun t71 => Out.ok (PyData.int 2147483629) >>= fun t72 => modD t71 t72) >>= fun v63 => ((((Out.ok v63 >>= fun t75 => Out.ok (PyData.int 16) >>= fun t76 => fdivD t75 t76) >>= fun t74 => intD t74) >>= fun t77 => Out.ok x_size >>= fun t78 => modD t77 t78) >>= fun t73 => Out.ok (Ctl.rt (t73, [CO.l l32])))))))) : Out (Ctl Empty (PD × List CO) Empty)) >>= finE)
def m__law_text : List PD → PD → PD → Out (PD × List CO) := fun l_pool x_letters x_size => (((((Out.ok (PyData.str "") >>= fun t2 => Out.ok (t2, [CO.l l_pool])) >>= fun t26 => asStr t26.1 >>= fun t27 => (unl fun p3 => (unn (((((Out.ok x_size >>= fun t4 => rangeD (PyData.int 0) t4) >>= fun t5 => Out.ok (t5, [CO.l p3])) >>= fun t22 => lineD t22.1 >>= fun t24 => compX (fun t19 t23 => Out.ok t19 >>= fun k6 => (fun cs => Out.ok (true, cs)) t23 >>= fun t20 => if t20.1 then (unl fun p7 => (unn (((Out.ok x_letters >>= fun t8 => Out.ok (t8, [CO.l p7])) >>= fun t16 => (unl fun p9 => (unn ((((Out.ok x_letters >>= fun t15 => lenD t15) >>= fun t13 => Out.ok ([], [CO.l p9]) >>= fun t14 => Out.ok (t13 :: t14.1, t14.2)) >>= fun t10 => callC [0] t10.2 (app [.c, .d] m__law_draw t10.1))))) t16.2 >>= fun t17 => idxD t16.1 t17.1 >>= fun t18 => Out.ok (t18, t17.2))))) t20.2 >>= fun t21 => Out.ok (some t21.1, t21.2) else Out.ok (none, t20.2)) t24 t22.2) >>= fun t25 => Out.ok (PyData.list t25.1, t25.2))))) t26.2 >>= fun t28 => joinD (PyData.str t27) t28.1 >>= fun t29 => Out.ok (t29, t28.2)) >>= fun t1 => Out.ok (Ctl.rt (t1.1, t1.2))) : Out (Ctl Empty (PD × List CO) Empty)) >>= finE)
def m__law_menu : List PD → PD → Out (PD × List CO) := fun l_pool x_limit => (((Out.ok [] >>= fun l2 => (((((Out.ok (PyData.int 1) >>= fun t45 => Out.ok (t45, [CO.l l2, CO.l l_pool])) >>= fun t53 => (unl fun p46 => (unl fun p47 => (unn (((Out.ok x_limit >>= fun t51 => Out.ok ([], [CO.l p46, CO.l p47]) >>= fun t52 => Out.ok (t51 :: t52.1, t52.2)) >>= fun t48 => callC [1] t48.2 (app [.c, .d] m__law_draw t48.1)))))) t53.2 >>= fun t54 => addD t53.1 t54.1 >>= fun t55 => Out.ok (t55, t54.2)) >>= fun t56 => rangeD (PyData.int 0) t56.1 >>= fun t57 => Out.ok (t57, t56.2)) >>= fun t6 => forM (fun t8 (n5 : List CO) => Out.ok t8 >>= fun k4 => ((unl fun p9 => (unl fun p10 => (unn ((((Out.ok (PyData.str "0123456789abcdefghijklmnopqrstuvwxyz") >>= fun t16 => (((Out.ok (PyData.int 7) >>= fun t23 => Out.ok ([], [CO.l p9, CO.l p10]) >>= fun t24 => Out.ok (t23 :: t24.1, t24.2)) >>= fun t20 => callC [1] t20.2 (app [.c, .d] m__law_draw t20.1)) >>= fun t18 => (unl fun p25 => (unl fun p26 => (unn (Out.ok ([], [CO.l p25, CO.l p26]))))) t18.2 >>= fun t19 => Out.ok (t18.1 :: t19.1, t19.2)) >>= fun t17 => Out.ok (t16 :: t17.1, t17.2)) >>= fun t13 => callC [1] t13.2 (app [.c, .d, .d] m__law_text t13.1)) >>= fun t12 => (fun v11 => (unl fun p27 => (unl fun p28 => (unn (((Out.ok v11 >>= fun t31 => Out.ok (PyData.list p27) >>= fun t32 => notInDD t31 t32) >>= fun t29 => if t29 then (Out.ok v11 >>= fun t33 => appD p27 t33 >>= fun l34 => Out.ok (Ctl.nx ([CO.l l34, CO.l p28]))) else Out.ok (Ctl.nx ([CO.l p27, CO.l p28])))))))) t12.1 t12.2))))) n5)) t6.1 ((fun cs1 => (cs1)) t6.2) >>= fun t7 => Out.ok (dnC t7)) >>= seqC (N1 := List CO) (fun n35 => ((unl fun p36 => (unl fun p37 => (unn (((((Out.ok (PyData.list p36) >>= fun t41 => sortedD t41) >>= fun t42 => Out.ok (PyData.list t42)) >>= fun t39 => tupleD t39) >>= fun t38 => Out.ok (Ctl.rt (t38, [CO.l p37]))))))) n35)))) : Out (Ctl Empty (PD × List CO) Empty)) >>= finE)
def m__law_label : List PD → List PD → Out (PD × List CO) := fun l_pool l_taken => (((Out.ok (PyData.str "abcdefghijklmnopqrstuvwxyz") >>= fun v1 => (((Out.ok v1 >>= fun t7 => (((Out.ok (PyData.int 1) >>= fun t11 => Out.ok (t11, [CO.l l_pool, CO.l l_taken])) >>= fun t19 => (unl fun p12 => (unl fun p13 => (unn (((Out.ok (PyData.int 12) >>= fun t17 => Out.ok ([], [CO.l p12, CO.l p13]) >>= fun t18 => Out.ok (t17 :: t18.1, t18.2)) >>= fun t14 => callC [0] t14.2 (app [.c, .d] m__law_draw t14.1)))))) t19.2 >>= fun t20 => addD t19.1 t20.1 >>= fun t21 => Out.ok (t21, t20.2)) >>= fun t9 => (unl fun p22 => (unl fun p23 => (unn (Out.ok ([], [CO.l p22, CO.l p23]))))) t9.2 >>= fun t10 => Out.ok (t9.1 :: t10.1, t10.2)) >>= fun t8 => Out.ok (t7 :: t8.1, t8.2)) >>= fun t4 => callC [0] t4.2 (app [.c, .d, .d] m__law_text t4.1)) >>= fun t3 => (fun v2 => (unl fun p24 => (unl fun p25 => (unn ((Out.ok v2 >>= fun v26 => (((Out.ok (PyData.int 40) >>= fun t67 => rangeD (PyData.int 0) t67) >>= fun t30 => forM (fun t32 (n29 : PD) => Out.ok t32 >>= fun k28 => (((Out.ok k28 >>= fun t36 => Out.ok (PyData.int 0) >>= fun t37 => gtD t36 t37) >>= fun t33 => if t33 then ((((Out.ok v2 >>= fun t40 => Out.ok none >>= fun t41 => (Out.ok (PyData.int 10) >>= fun t39 => partD t39) >>= fun t42 => cutD t40 t41 t42) >>= fun t47 => (Out.ok v1 >>= fun t45 => (Out.ok k28 >>= fun t43 => Out.ok (PyData.int 26) >>= fun t44 => fdivD t43 t44) >>= fun t46 => idxD t45 t46) >>= fun t48 => addD t47 t48) >>= fun t54 => (Out.ok v1 >>= fun t52 => ((Out.ok k28 >>= fun t49 => intD t49) >>= fun t50 => Out.ok (PyData.int 26) >>= fun t51 => modD t50 t51) >>= fun t53 => idxD t52 t53) >>= fun t55 => addD t54 t55) >>= fun v38 => Out.ok (Ctl.nx (v38))) else Out.ok (Ctl.nx (n29))) >>= seqC (N1 := PD) (fun n56 => ((Out.ok n56 >>= fun t59 => Out.ok (PyData.list p25) >>= fun t60 => notInDD t59 t60) >>= fun t57 => if t57 then Out.ok (Ctl.bk (n56)) >>= fun t58 => Out.ok (upC t58) else Out.ok (Ctl.nx (n56)))))) t30 (v26) >>= fun t31 => Out.ok (dnC t31)) >>= seqC (N1 := PD) (fun n61 => (Out.ok n61 >>= fun t62 => appD p25 t62 >>= fun l63 => (Out.ok n61 >>= fun t64 => Out.ok (Ctl.rt (t64, [CO.l p24, CO.l l63])))))))))))) t3.1 t3.2)) : Out (Ctl Empty (PD × List CO) Empty)) >>= finE)
def m__law_slots : List PD → List PD → Out (PD × List CO) := fun l_pool l_taken => (((Out.ok [] >>= fun l2 => (Out.ok (PyData.int 1) >>= fun v3 => (((((((Out.ok (PyData.int 1) >>= fun t91 => (Out.ok (PyData.int 0) >>= fun t89 => (Out.ok (PyData.int 2) >>= fun t87 => (Out.ok (PyData.int 1) >>= fun t85 => (Out.ok (PyData.int 2) >>= fun t83 => (Out.ok (PyData.int 1) >>= fun t81 => (Out.ok (PyData.int 3) >>= fun t79 => (Out.ok (PyData.int 4) >>= fun t77 => Out.ok [] >>= fun t78 => Out.ok (t77 :: t78)) >>= fun t80 => Out.ok (t79 :: t80)) >>= fun t82 => Out.ok (t81 :: t82)) >>= fun t84 => Out.ok (t83 :: t84)) >>= fun t86 => Out.ok (t85 :: t86)) >>= fun t88 => Out.ok (t87 :: t88)) >>= fun t90 => Out.ok (t89 :: t90)) >>= fun t92 => Out.ok (t91 :: t92)) >>= fun t93 => Out.ok (PyData.list t93)) >>= fun t94 => Out.ok (t94, [CO.l l2, CO.l l_pool, CO.l l_taken])) >>= fun t103 => (unl fun p95 => (unl fun p96 => (unl fun p97 => (unn (((Out.ok (PyData.int 8) >>= fun t101 => Out.ok ([], [CO.l p95, CO.l p96, CO.l p97]) >>= fun t102 => Out.ok (t101 :: t102.1, t102.2)) >>= fun t98 => callC [1] t98.2 (app [.c, .d] m__law_draw t98.1))))))) t103.2 >>= fun t104 => idxD t103.1 t104.1 >>= fun t105 => Out.ok (t105, t104.2)) >>= fun t106 => rangeD (PyData.int 0) t106.1 >>= fun t107 => Out.ok (t107, t106.2)) >>= fun t7 => forM (fun t9 (n6 : PD × List CO) => Out.ok t9 >>= fun k5 => ((unl fun p10 => (unl fun p11 => (unl fun p12 => (unn ((((((Out.ok (PyData.int 1) >>= fun t20 => Out.ok (t20, [CO.l p10, CO.l p11, CO.l p12])) >>= fun t36 => (unl fun p21 => (unl fun p22 => (unl fun p23 => (unn (((((Out.ok (PyData.int 6) >>= fun t34 => ((Out.ok (PyData.int 12) >>= fun t30 => Out.ok n6.1 >>= fun t31 => fdivD t30 t31) >>= fun t32 => Out.ok [] >>= fun t33 => Out.ok (t32 :: t33)) >>= fun t35 => Out.ok (t34 :: t35)) >>= fun t29 => minA t29) >>= fun t27 => Out.ok ([], [CO.l p21, CO.l p22, CO.l p23]) >>= fun t28 => Out.ok (t27 :: t28.1, t28.2)) >>= fun t24 => callC [1] t24.2 (app [.c, .d] m__law_draw t24.1))))))) t36.2 >>= fun t37 => addD t36.1 t37.1 >>= fun t38 => Out.ok (t38, t37.2)) >>= fun t18 => (unl fun p39 => (unl fun p40 => (unl fun p41 => (unn (Out.ok ([], [CO.l p39, CO.l p40, CO.l p41])))))) t18.2 >>= fun t19 => Out.ok (t18.1 :: t19.1, t19.2)) >>= fun t15 => callC [1] t15.2 (app [.c, .d] m__law_menu t15.1)) >>= fun t14 => (fun v13 => (unl fun p42 => (unl fun p43 => (unl fun p44 => (unn (((Out.ok n6.1 >>= fun t47 => (Out.ok v13 >>= fun t46 => lenD t46) >>= fun t48 => mulD t47 t48) >>= fun v45 => ((((Out.ok ([], [CO.l p42, CO.l p43, CO.l p44]) >>= fun t51 => callC [1, 2] t51.2 (app [.c, .c] m__law_label t51.1)) >>= fun t62 => (unl fun p56 => (unl fun p57 => (unl fun p58 => (unn (((Out.ok v13 >>= fun t59 => Out.ok [] >>= fun t60 => Out.ok (t59 :: t60)) >>= fun t61 => Out.ok (t61, [CO.l p56, CO.l p57, CO.l p58]))))))) t62.2 >>= fun t63 => Out.ok (t62.1 :: t63.1, t63.2)) >>= fun t64 => Out.ok (PyData.tuple t64.1, t64.2)) >>= fun t49 => cellL 0 t49.2 >>= fun t68 => appD t68 t49.1 >>= fun l50 => (unl fun p65 => (unl fun p66 => (unl fun p67 => (unn (Out.ok (Ctl.nx (v45, [CO.l p65, CO.l p66, CO.l p67]))))))) (t49.2.set 0 (CO.l l50)))))))))) t14.1 t14.2)))))) n6.2)) t7.1 ((fun cs1 => (v3, cs1)) t7.2) >>= fun t8 => Out.ok (dnC t8)) >>= seqC (N1 := PD × List CO) (fun n69 => ((unl fun p70 => (unl fun p71 => (unl fun p72 => (unn (((Out.ok (PyData.list p70) >>= fun t74 => tupleD t74) >>= fun t73 => Out.ok (Ctl.rt (t73, [CO.l p71, CO.l p72])))))))) n69.2))))) : Out (Ctl Empty (PD × List CO) Empty)) >>= finE)
def m__law_states_cc : List PD → List PD → Out (PD × List CO) := fun l_parents l_slots => (((Out.ok [] >>= fun l2 => (Out.ok (PyData.int 2) >>= fun v3 => ((((Out.ok (PyData.list l_parents) >>= fun t50 => lenD t50) >>= fun t51 => rangeD (PyData.int 0) t51) >>= fun t7 => forM (fun t9 (n6 : PD × List PD) => Out.ok t9 >>= fun k5 => (Out.ok (PyData.int 1) >>= fun v10 => (((Out.ok k5 >>= fun t14 => Out.ok (PyData.int 0) >>= fun t15 => gtD t14 t15) >>= fun t11 => if t11 then ((Out.ok (PyData.list n6.2) >>= fun t19 => (Out.ok (PyData.list l_parents) >>= fun t17 => Out.ok k5 >>= fun t18 => idxD t17 t18) >>= fun t20 => idxD t19 t20) >>= fun v16 => ((Out.ok n6.1 >>= fun t24 => (Out.ok (PyData.int 2) >>= fun t22 => Out.ok v16 >>= fun t23 => mulD t22 t23) >>= fun t25 => addD t24 t25) >>= fun v21 => Out.ok (Ctl.nx (v16, v21)))) else Out.ok (Ctl.nx (v10, n6.1))) >>= seqC (N1 := PD × PD) (fun n26 => ((((Out.ok (PyData.list l_slots) >>= fun t43 => Out.ok k5 >>= fun t44 => idxD t43 t44) >>= fun t45 => itemsD t45) >>= fun t30 => forM (fun t32 (n29 : PD) => Out.ok t32 >>= fun k28 => ((Out.ok n29 >>= fun t37 => ((Out.ok k28 >>= fun t35 => Out.ok (PyData.int 1) >>= fun t36 => idxD t35 t36) >>= fun t34 => lenD t34) >>= fun t38 => mulD t37 t38) >>= fun v33 => Out.ok (Ctl.nx (v33)))) t30 (n26.1) >>= fun t31 => Out.ok (dnC t31)) >>= seqC (N1 := PD) (fun n39 => (Out.ok n39 >>= fun t40 => appD n6.2 t40 >>= fun l41 => Out.ok (Ctl.nx (n26.2, l41))))))))) t7 (v3, l2) >>= fun t8 => Out.ok (dnC t8)) >>= seqC (N1 := PD × List PD) (fun n46 => (Out.ok n46.1 >>= fun t47 => Out.ok (Ctl.rt (t47, [CO.l l_parents, CO.l l_slots]))))))) : Out (Ctl Empty (PD × List CO) Empty)) >>= finE)
def m__law_shape : List PD → PD → Out (PD × List CO) := fun l_pool x_limit => ((((Out.ok (PyData.str "by") >>= fun t13 => (Out.ok (PyData.str "else") >>= fun t11 => (Out.ok (PyData.str "end") >>= fun t9 => (Out.ok (PyData.str "for") >>= fun t7 => (Out.ok (PyData.str "if") >>= fun t5 => (Out.ok (PyData.str "use") >>= fun t3 => Out.ok [] >>= fun t4 => Out.ok (t3 :: t4)) >>= fun t6 => Out.ok (t5 :: t6)) >>= fun t8 => Out.ok (t7 :: t8)) >>= fun t10 => Out.ok (t9 :: t10)) >>= fun t12 => Out.ok (t11 :: t12)) >>= fun t14 => Out.ok (t13 :: t14)) >>= fun l2 => ((Out.ok (PyData.str "") >>= fun t17 => Out.ok [] >>= fun t18 => Out.ok (t17 :: t18)) >>= fun l16 => (((Out.ok ([], [CO.l l16, CO.l l2, CO.l l_pool]) >>= fun t21 => callC [2, 1] t21.2 (app [.c, .c] m__law_slots t21.1)) >>= fun t30 => (unl fun p26 => (unl fun p27 => (unl fun p28 => (unn ((Out.ok [] >>= fun t29 => Out.ok (t29, [CO.l p26, CO.l p27, CO.l p28]))))))) t30.2 >>= fun t31 => Out.ok (t30.1 :: t31.1, t31.2)) >>= fun t32 => (fun l20 => (unl fun p33 => (unl fun p34 => (unl fun p35 => (unn ((((Out.ok (PyData.int 1) >>= fun t38 => negD t38) >>= fun t39 => Out.ok [] >>= fun t40 => Out.ok (t39 :: t40)) >>= fun l37 => ((Out.ok (PyData.int 1) >>= fun t43 => Out.ok [] >>= fun t44 => Out.ok (t43 :: t44)) >>= fun l42 => (((((((Out.ok (PyData.int 1) >>= fun t262 => (Out.ok (PyData.int 0) >>= fun t260 => (Out.ok (PyData.int 2) >>= fun t258 => (Out.ok (PyData.int 3) >>= fun t256 => (Out.ok (PyData.int 1) >>= fun t254 => (Out.ok (PyData.int 2) >>= fun t252 => (Out.ok (PyData.int 4) >>= fun t250 => (Out.ok (PyData.int 5) >>= fun t248 => Out.ok [] >>= fun t249 => Out.ok (t248 :: t249)) >>= fun t251 => Out.ok (t250 :: t251)) >>= fun t253 => Out.ok (t252 :: t253)) >>= fun t255 => Out.ok (t254 :: t255)) >>= fun t257 => Out.ok (t256 :: t257)) >>= fun t259 => Out.ok (t258 :: t259)) >>= fun t261 => Out.ok (t260 :: t261)) >>= fun t263 => Out.ok (t262 :: t263)) >>= fun t264 => Out.ok (PyData.list t264)) >>= fun t265 => Out.ok (t265, [CO.l l42, CO.l l37, CO.l l20, CO.l p33, CO.l p34, CO.l p35])) >>= fun t277 => (unl fun p266 => (unl fun p267 => (unl fun p268 => (unl fun p269 => (unl fun p270 => (unl fun p271 => (unn (((Out.ok (PyData.int 8) >>= fun t275 => Out.ok ([], [CO.l p266, CO.l p267, CO.l p268, CO.l p269, CO.l p270, CO.l p271]) >>= fun t276 => Out.ok (t275 :: t276.1, t276.2)) >>= fun t272 => callC [5] t272.2 (app [.c, .d] m__law_draw t272.1)))))))))) t277.2 >>= fun t278 => idxD t277.1 t278.1 >>= fun t279 => Out.ok (t279, t278.2)) >>= fun t280 => rangeD (PyData.int 0) t280.1 >>= fun t281 => Out.ok (t281, t280.2)) >>= fun t48 => forM (fun t50 (n47 : List CO) => Out.ok t50 >>= fun k46 => ((unl fun p51 => (unl fun p52 => (unl fun p53 => (unl fun p54 => (unl fun p55 => (unl fun p56 => (unn (((((Out.ok (PyData.list p52) >>= fun t64 => lenD t64) >>= fun t62 => Out.ok ([], [CO.l p51, CO.l p52, CO.l p53, CO.l p54, CO.l p55, CO.l p56]) >>= fun t63 => Out.ok (t62 :: t63.1, t63.2)) >>= fun t59 => callC [5] t59.2 (app [.c, .d] m__law_draw t59.1)) >>= fun t58 => (fun v57 => (unl fun p65 => (unl fun p66 => (unl fun p67 => (unl fun p68 => (unl fun p69 => (unl fun p70 => (unn (((((Out.ok (PyData.list p65) >>= fun t73 => Out.ok v57 >>= fun t74 => idxD t73 t74) >>= fun t75 => Out.ok (PyData.int 3) >>= fun t76 => ltD t75 t76) >>= fun t88 => if t88 then ((((Out.ok p66 >>= fun t84 => lineD t84 >>= fun t84 => compP (fun t81 => Out.ok t81 >>= fun k78 => (Out.ok k78 >>= fun t79 => Out.ok v57 >>= fun t80 => eqD t79 t80) >>= fun t82 => if t82 then Out.ok (PyData.int 1) >>= fun t83 => Out.ok (some t83) else Out.ok none) t84) >>= fun t85 => Out.ok (PyData.list t85)) >>= fun t77 => lenD t77) >>= fun t86 => Out.ok (PyData.int 3) >>= fun t87 => ltD t86 t87) else Out.ok false) >>= fun t71 => if t71 then ((Out.ok ([], [CO.l p65, CO.l p66, CO.l p67, CO.l p68, CO.l p69, CO.l p70]) >>= fun t91 => callC [5, 4] t91.2 (app [.c, .c] m__law_label t91.1)) >>= fun t89 => cellL 3 t89.2 >>= fun t124 => appD t124 t89.1 >>= fun l90 => (unl fun p96 => (unl fun p97 => (unl fun p98 => (unl fun p99 => (unl fun p100 => (unl fun p101 => (unn (((Out.ok ([], [CO.l p96, CO.l p97, CO.l p98, CO.l p99, CO.l p100, CO.l p101]) >>= fun t104 => callC [5, 4] t104.2 (app [.c, .c] m__law_slots t104.1)) >>= fun t102 => cellL 2 t102.2 >>= fun t123 => appD t123 t102.1 >>= fun l103 => (unl fun p109 => (unl fun p110 => (unl fun p111 => (unl fun p112 => (unl fun p113 => (unl fun p114 => (unn ((Out.ok v57 >>= fun t115 => appD p110 t115 >>= fun l116 => (((Out.ok (PyData.list p109) >>= fun t119 => Out.ok v57 >>= fun t120 => idxD t119 t120) >>= fun t121 => Out.ok (PyData.int 1) >>= fun t122 => addD t121 t122) >>= fun t117 => appD p109 t117 >>= fun l118 => Out.ok (Ctl.nx ([CO.l l118, CO.l l116, CO.l p111, CO.l p112, CO.l p113, CO.l p114])))))))))))) (t102.2.set 2 (CO.l l103))))))))))) (t89.2.set 3 (CO.l l90))) else Out.ok (Ctl.nx ([CO.l p65, CO.l p66, CO.l p67, CO.l p68, CO.l p69, CO.l p70])))))))))))) t58.1 t58.2))))))))) n47)) t48.1 ((fun cs1 => (cs1)) t48.2) >>= fun t49 => Out.ok (dnC t49)) >>= seqC (N1 := List CO) (fun n125 => ((unl fun p126 => (unl fun p127 => (unl fun p128 => (unl fun p129 => (unl fun p130 => (unl fun p131 => (unn ((((Out.ok (PyData.int 5) >>= fun t246 => rangeD (PyData.int 0) t246) >>= fun t135 => forM (fun t137 (n134 : List PD × List PD × List PD × List PD × List PD × List PD) => Out.ok t137 >>= fun k133 => (((Out.ok ([], [CO.l n134.1, CO.l n134.2.1, CO.l n134.2.2.1, CO.l n134.2.2.2.1, CO.l n134.2.2.2.2.1, CO.l n134.2.2.2.2.2]) >>= fun t140 => callC [1, 2] t140.2 (app [.c, .c] m__law_states_cc t140.1)) >>= fun t152 => (unl fun p145 => (unl fun p146 => (unl fun p147 => (unl fun p148 => (unl fun p149 => (unl fun p150 => (unn ((Out.ok x_limit >>= fun t151 => Out.ok (t151, [CO.l p145, CO.l p146, CO.l p147, CO.l p148, CO.l p149, CO.l p150])))))))))) t152.2 >>= fun t153 => gtD t152.1 t153.1 >>= fun t154 => Out.ok (t154, t153.2)) >>= fun t138 => if t138.1 then (unl fun p155 => (unl fun p156 => (unl fun p157 => (unl fun p158 => (unl fun p159 => (unl fun p160 => (unn (((popD p156 >>= fun t162 => Out.ok (t162.1, [CO.l p155, CO.l t162.2, CO.l p157, CO.l p158, CO.l p159, CO.l p160])) >>= fun t161 => (unl fun p163 => (unl fun p164 => (unl fun p165 => (unl fun p166 => (unl fun p167 => (unl fun p168 => (unn (((popD p165 >>= fun t170 => Out.ok (t170.1, [CO.l p163, CO.l p164, CO.l t170.2, CO.l p166, CO.l p167, CO.l p168])) >>= fun t169 => (unl fun p171 => (unl fun p172 => (unl fun p173 => (unl fun p174 => (unl fun p175 => (unl fun p176 => (unn (Out.ok (Ctl.nx (p171, p172, p173, p174, p175, p176)))))))))) t169.2))))))))) t161.2))))))))) t138.2 else (unl fun p177 => (unl fun p178 => (unl fun p179 => (unl fun p180 => (unl fun p181 => (unl fun p182 => (unn (Out.ok (Ctl.nx (p177, p178, p179, p180, p181, p182)))))))))) t138.2)) t135 (p126, p127, p128, p129, p130, p131) >>= fun t136 => Out.ok (dnC t136)) >>= seqC (N1 := List PD × List PD × List PD × List PD × List PD × List PD) (fun n183 => ((Out.ok n183.2.1 >>= fun t191 => lineD t191 >>= fun t191 => compP (fun t188 => Out.ok t188 >>= fun k186 => Out.ok true >>= fun t189 => if t189 then (Out.ok [] >>= fun t187 => Out.ok (PyData.tuple t187)) >>= fun t190 => Out.ok (some t190) else Out.ok none) t191) >>= fun l185 => ((((Out.ok (PyData.list n183.2.1) >>= fun t243 => lenD t243) >>= fun t244 => rangeD (PyData.int 0) t244) >>= fun t195 => forM (fun t197 (n194 : List PD) => Out.ok t197 >>= fun k193 => ((((Out.ok (PyData.list n183.2.1) >>= fun t199 => lenD t199) >>= fun t200 => Out.ok (PyData.int 1) >>= fun t201 => subD t200 t201) >>= fun t202 => Out.ok k193 >>= fun t203 => subD t202 t203) >>= fun v198 => ((((Out.ok (PyData.list n183.2.1) >>= fun t205 => lenD t205) >>= fun t206 => rangeD (PyData.int 0) t206) >>= fun t224 => lineD t224 >>= fun t224 => compP (fun t221 => Out.ok t221 >>= fun k207 => ((Out.ok (PyData.list n183.2.1) >>= fun t208 => Out.ok k207 >>= fun t209 => idxD t208 t209) >>= fun t210 => Out.ok v198 >>= fun t211 => eqD t210 t211) >>= fun t222 => if t222 then (((Out.ok (PyData.list n183.2.2.2.1) >>= fun t212 => Out.ok k207 >>= fun t213 => idxD t212 t213) >>= fun t218 => ((Out.ok (PyData.list n194) >>= fun t214 => Out.ok k207 >>= fun t215 => idxD t214 t215) >>= fun t216 => Out.ok [] >>= fun t217 => Out.ok (t216 :: t217)) >>= fun t219 => Out.ok (t218 :: t219)) >>= fun t220 => Out.ok (PyData.tuple t220)) >>= fun t223 => Out.ok (some t223) else Out.ok none) t224) >>= fun t236 => (fun v204 => ((((Out.ok (PyData.list n183.2.2.1) >>= fun t228 => Out.ok v198 >>= fun t229 => idxD t228 t229) >>= fun t233 => ((Out.ok v204 >>= fun t230 => tupleD t230) >>= fun t231 => Out.ok [] >>= fun t232 => Out.ok (t231 :: t232)) >>= fun t234 => Out.ok (t233 :: t234)) >>= fun t235 => Out.ok (PyData.tuple t235)) >>= fun t225 => Out.ok v198 >>= fun t226 => setD n194 t226 t225 >>= fun l227 => Out.ok (Ctl.nx (l227)))) (PyData.list t236)))) t195 (l185) >>= fun t196 => Out.ok (dnC t196)) >>= seqC (N1 := List PD) (fun n237 => ((Out.ok (PyData.list n237) >>= fun t239 => Out.ok (PyData.int 0) >>= fun t240 => idxD t239 t240) >>= fun t238 => Out.ok (Ctl.rt (t238, [CO.l n183.2.2.2.2.2])))))))))))))))) n125))))))))))) t32.1 t32.2))) : Out (Ctl Empty (PD × List CO) Empty)) >>= finE)
def m__law_pool : PD → PD → Out (List PD × List CO) := fun x_script x_k => (((Out.ok (PyData.int 0) >>= fun v1 => (((Out.ok x_k >>= fun t6 => (Out.ok x_script >>= fun t5 => lenD t5) >>= fun t7 => ltD t6 t7) >>= fun t2 => if t2 then (((Out.ok x_script >>= fun t10 => Out.ok x_k >>= fun t11 => idxD t10 t11) >>= fun t9 => intD t9) >>= fun v8 => Out.ok (Ctl.nx (v8))) else Out.ok (Ctl.nx (v1))) >>= seqC (N1 := PD) (fun n12 => (((Out.ok n12 >>= fun t16 => Out.ok (PyData.int 0) >>= fun t17 => ltD t16 t17) >>= fun t13 => if t13 then ((Out.ok n12 >>= fun t19 => negD t19) >>= fun v18 => Out.ok (Ctl.nx (v18))) else Out.ok (Ctl.nx (n12))) >>= seqC (N1 := PD) (fun n20 => ((Out.ok n20 >>= fun t26 => ((Out.ok (PyData.int 1000) >>= fun t22 => Out.ok x_k >>= fun t23 => mulD t22 t23) >>= fun t24 => Out.ok [] >>= fun t25 => Out.ok (t24 :: t25)) >>= fun t27 => Out.ok (t26 :: t27)) >>= fun t21 => Out.ok (Ctl.rt (t21, [])))))))) : Out (Ctl Empty (List PD × List CO) Empty)) >>= finE)
def m__law_loosened : Nat → List PD → PD → Out (PD × List CO)
  | 0, _, _ => .bad
  | n + 1, l_pool, x_pieces => (((Out.ok [] >>= fun l2 => (((Out.ok x_pieces >>= fun t192 => itemsD t192) >>= fun t6 => forM (fun t8 (n5 : List PD × List PD) => Out.ok t8 >>= fun k4 => (((Out.ok k4 >>= fun t11 => Out.ok (PyData.int 0) >>= fun t12 => idxD t11 t12) >>= fun t13 => Out.ok (PyData.str "text") >>= fun t14 => eqD t13 t14) >>= fun t9 => if t9 then (((((Out.ok k4 >>= fun t23 => Out.ok (PyData.int 1) >>= fun t24 => idxD t23 t24) >>= fun t22 => lenD t22) >>= fun t20 => Out.ok ([], [CO.l n5.1, CO.l n5.2]) >>= fun t21 => Out.ok (t20 :: t21.1, t21.2)) >>= fun t17 => callC [1] t17.2 (app [.c, .d] m__law_draw t17.1)) >>= fun t16 => (fun v15 => (unl fun p25 => (unl fun p26 => (unn ((((Out.ok v15 >>= fun t30 => Out.ok (PyData.int 0) >>= fun t31 => gtD t30 t31) >>= fun t27 => if t27 then (((Out.ok (PyData.str "text") >>= fun t42 => (((Out.ok k4 >>= fun t34 => Out.ok (PyData.int 1) >>= fun t35 => idxD t34 t35) >>= fun t37 => Out.ok none >>= fun t38 => (Out.ok v15 >>= fun t36 => partD t36) >>= fun t39 => cutD t37 t38 t39) >>= fun t40 => Out.ok [] >>= fun t41 => Out.ok (t40 :: t41)) >>= fun t43 => Out.ok (t42 :: t43)) >>= fun t44 => Out.ok (PyData.tuple t44)) >>= fun t32 => appD p25 t32 >>= fun l33 => Out.ok (Ctl.nx (l33))) else Out.ok (Ctl.nx (p25))) >>= seqC (N1 := List PD) (fun n45 => (((Out.ok k4 >>= fun t47 => Out.ok (PyData.int 1) >>= fun t48 => idxD t47 t48) >>= fun t50 => (Out.ok v15 >>= fun t49 => partD t49) >>= fun t51 => Out.ok none >>= fun t52 => cutD t50 t51 t52) >>= fun v46 => ((((Out.ok v46 >>= fun t60 => lenD t60) >>= fun t58 => Out.ok ([], [CO.l n45, CO.l p26]) >>= fun t59 => Out.ok (t58 :: t59.1, t59.2)) >>= fun t55 => callC [1] t55.2 (app [.c, .d] m__law_draw t55.1)) >>= fun t54 => (fun v53 => (unl fun p61 => (unl fun p62 => (unn ((((Out.ok v53 >>= fun t66 => Out.ok (PyData.int 0) >>= fun t67 => gtD t66 t67) >>= fun t63 => if t63 then (((Out.ok (PyData.str "text") >>= fun t76 => ((Out.ok v46 >>= fun t71 => Out.ok none >>= fun t72 => (Out.ok v53 >>= fun t70 => partD t70) >>= fun t73 => cutD t71 t72 t73) >>= fun t74 => Out.ok [] >>= fun t75 => Out.ok (t74 :: t75)) >>= fun t77 => Out.ok (t76 :: t77)) >>= fun t78 => Out.ok (PyData.tuple t78)) >>= fun t68 => appD p61 t68 >>= fun l69 => Out.ok (Ctl.nx (l69))) else Out.ok (Ctl.nx (p61))) >>= seqC (N1 := List PD) (fun n79 => (((Out.ok (PyData.str "text") >>= fun t88 => ((Out.ok v46 >>= fun t83 => (Out.ok v53 >>= fun t82 => partD t82) >>= fun t84 => Out.ok none >>= fun t85 => cutD t83 t84 t85) >>= fun t86 => Out.ok [] >>= fun t87 => Out.ok (t86 :: t87)) >>= fun t89 => Out.ok (t88 :: t89)) >>= fun t90 => Out.ok (PyData.tuple t90)) >>= fun t80 => appD n79 t80 >>= fun l81 => Out.ok (Ctl.nx (l81, p62)))))))))) t54.1 t54.2))))))))) t16.1 t16.2) else (((Out.ok k4 >>= fun t93 => Out.ok (PyData.int 0) >>= fun t94 => idxD t93 t94) >>= fun t95 => Out.ok (PyData.str "choice") >>= fun t96 => eqD t95 t96) >>= fun t91 => if t91 then ((((Out.ok (PyData.str "choice") >>= fun t99 => Out.ok (t99, [CO.l n5.1, CO.l n5.2])) >>= fun t139 => (unl fun p100 => (unl fun p101 => (unn ((((Out.ok k4 >>= fun t102 => Out.ok (PyData.int 1) >>= fun t103 => idxD t102 t103) >>= fun t104 => Out.ok (t104, [CO.l p100, CO.l p101])) >>= fun t137 => (unl fun p105 => (unl fun p106 => (unn ((((Out.ok k4 >>= fun t107 => Out.ok (PyData.int 2) >>= fun t108 => idxD t107 t108) >>= fun t109 => Out.ok (t109, [CO.l p105, CO.l p106])) >>= fun t135 => (unl fun p110 => (unl fun p111 => (unn (((((Out.ok k4 >>= fun t117 => Out.ok (PyData.int 3) >>= fun t118 => idxD t117 t118) >>= fun t115 => Out.ok ([], [CO.l p110, CO.l p111]) >>= fun t116 => Out.ok (t115 :: t116.1, t116.2)) >>= fun t112 => callC [1] t112.2 (app [.c, .d] (m__law_loosened n) t112.1)) >>= fun t133 => (unl fun p119 => (unl fun p120 => (unn (((((Out.ok k4 >>= fun t126 => Out.ok (PyData.int 4) >>= fun t127 => idxD t126 t127) >>= fun t124 => Out.ok ([], [CO.l p119, CO.l p120]) >>= fun t125 => Out.ok (t124 :: t125.1, t125.2)) >>= fun t121 => callC [1] t121.2 (app [.c, .d] (m__law_loosened n) t121.1)) >>= fun t131 => (unl fun p128 => (unl fun p129 => (unn ((Out.ok [] >>= fun t130 => Out.ok (t130, [CO.l p128, CO.l p129])))))) t131.2 >>= fun t132 => Out.ok (t131.1 :: t132.1, t132.2)))))) t133.2 >>= fun t134 => Out.ok (t133.1 :: t134.1, t134.2)))))) t135.2 >>= fun t136 => Out.ok (t135.1 :: t136.1, t136.2)))))) t137.2 >>= fun t138 => Out.ok (t137.1 :: t138.1, t138.2)))))) t139.2 >>= fun t140 => Out.ok (t139.1 :: t140.1, t140.2)) >>= fun t141 => Out.ok (PyData.tuple t141.1, t141.2)) >>= fun t97 => cellL 0 t97.2 >>= fun t144 => appD t144 t97.1 >>= fun l98 => (unl fun p142 => (unl fun p143 => (unn (Out.ok (Ctl.nx (p142, p143)))))) (t97.2.set 0 (CO.l l98))) else (((Out.ok k4 >>= fun t147 => Out.ok (PyData.int 0) >>= fun t148 => idxD t147 t148) >>= fun t149 => Out.ok (PyData.str "loop") >>= fun t150 => eqD t149 t150) >>= fun t145 => if t145 then ((((Out.ok (PyData.str "loop") >>= fun t153 => Out.ok (t153, [CO.l n5.1, CO.l n5.2])) >>= fun t179 => (unl fun p154 => (unl fun p155 => (unn ((((Out.ok k4 >>= fun t156 => Out.ok (PyData.int 1) >>= fun t157 => idxD t156 t157) >>= fun t158 => Out.ok (t158, [CO.l p154, CO.l p155])) >>= fun t177 => (unl fun p159 => (unl fun p160 => (unn (((((Out.ok k4 >>= fun t166 => Out.ok (PyData.int 2) >>= fun t167 => idxD t166 t167) >>= fun t164 => Out.ok ([], [CO.l p159, CO.l p160]) >>= fun t165 => Out.ok (t164 :: t165.1, t165.2)) >>= fun t161 => callC [1] t161.2 (app [.c, .d] (m__law_loosened n) t161.1)) >>= fun t175 => (unl fun p168 => (unl fun p169 => (unn ((((Out.ok k4 >>= fun t170 => Out.ok (PyData.int 3) >>= fun t171 => idxD t170 t171) >>= fun t172 => Out.ok [] >>= fun t173 => Out.ok (t172 :: t173)) >>= fun t174 => Out.ok (t174, [CO.l p168, CO.l p169])))))) t175.2 >>= fun t176 => Out.ok (t175.1 :: t176.1, t176.2)))))) t177.2 >>= fun t178 => Out.ok (t177.1 :: t178.1, t178.2)))))) t179.2 >>= fun t180 => Out.ok (t179.1 :: t180.1, t180.2)) >>= fun t181 => Out.ok (PyData.tuple t181.1, t181.2)) >>= fun t151 => cellL 0 t151.2 >>= fun t184 => appD t184 t151.1 >>= fun l152 => (unl fun p182 => (unl fun p183 => (unn (Out.ok (Ctl.nx (p182, p183)))))) (t151.2.set 0 (CO.l l152))) else (Out.ok k4 >>= fun t185 => appD n5.1 t185 >>= fun l186 => Out.ok (Ctl.nx (l186, n5.2))))))) t6 (l2, l_pool) >>= fun t7 => Out.ok (dnC t7)) >>= seqC (N1 := List PD × List PD) (fun n187 => ((Out.ok (PyData.list n187.1) >>= fun t189 => tupleD t189) >>= fun t188 => Out.ok (Ctl.rt (t188, [CO.l n187.2])))))) : Out (Ctl Empty (PD × List CO) Empty)) >>= finE)
def m__law_is_integer : PD → Out (PD × List CO) := fun x_value => (((((Out.ok x_value >>= fun t2 => isiD "int" t2) >>= fun t6 => boolD t6 >>= fun t7 => if t7 then ((Out.ok x_value >>= fun t3 => isiD "bool" t3) >>= fun t4 => boolD t4 >>= fun t5 => Out.ok (PyData.bool (!t5))) else Out.ok (PyData.bool false)) >>= fun t1 => Out.ok (Ctl.rt (t1, []))) : Out (Ctl Empty (PD × List CO) Empty)) >>= finE)
def m__law_same : Nat → PD → PD → Out (PD × List CO)
  | 0, _, _ => .bad
  | n + 1, x_told, x_due => (((((Out.ok x_due >>= fun t3 => isiD "tuple" t3) >>= fun t4 => truthD t4) >>= fun t1 => if t1 then (((((Out.ok x_told >>= fun t7 => isiD "tuple" t7) >>= fun t8 => truthD t8) >>= fun t9 => Out.ok (!t9)) >>= fun t14 => if t14 then Out.ok true else ((Out.ok x_told >>= fun t10 => lenD t10) >>= fun t12 => (Out.ok x_due >>= fun t11 => lenD t11) >>= fun t13 => neD t12 t13)) >>= fun t5 => if t5 then (Out.ok (PyData.bool false) >>= fun t15 => Out.ok (Ctl.rt (t15, []))) >>= fun t6 => Out.ok (upC t6) else ((((Out.ok x_due >>= fun t42 => lenD t42) >>= fun t43 => rangeD (PyData.int 0) t43) >>= fun t20 => forM (fun t22 (n19 : Unit) => Out.ok t22 >>= fun k18 => ((((((Out.ok x_told >>= fun t25 => Out.ok k18 >>= fun t26 => idxD t25 t26) >>= fun t31 => ((Out.ok x_due >>= fun t27 => Out.ok k18 >>= fun t28 => idxD t27 t28) >>= fun t29 => Out.ok [] >>= fun t30 => Out.ok (t29 :: t30)) >>= fun t32 => Out.ok (t31 :: t32)) >>= fun t33 => dOnly (app [.d, .d] (m__law_same n) t33 [])) >>= fun t34 => truthD t34) >>= fun t35 => Out.ok (!t35)) >>= fun t23 => if t23 then (Out.ok (PyData.bool false) >>= fun t36 => Out.ok (Ctl.rt (t36, []))) >>= fun t24 => Out.ok (upC t24) else Out.ok (Ctl.nx ()))) t20 () >>= fun t21 => Out.ok (dnC t21)) >>= seqC (N1 := Unit) (fun n38 => (Out.ok (PyData.bool true) >>= fun t39 => Out.ok (Ctl.rt (t39, [])))))) >>= fun t2 => Out.ok (upC t2) else ((Out.ok x_due >>= fun t46 => Out.ok PyData.none >>= fun t47 => isD t46 t47) >>= fun t44 => if t44 then ((Out.ok x_told >>= fun t49 => Out.ok PyData.none >>= fun t50 => isD t49 t50 >>= fun t51 => Out.ok (PyData.bool t51)) >>= fun t48 => Out.ok (Ctl.rt (t48, []))) >>= fun t45 => Out.ok (upC t45) else (((Out.ok x_due >>= fun t55 => isiD "str" t55) >>= fun t56 => truthD t56) >>= fun t53 => if t53 then (((Out.ok x_told >>= fun t58 => isiD "str" t58) >>= fun t62 => boolD t62 >>= fun t63 => if t63 then (Out.ok x_told >>= fun t59 => Out.ok x_due >>= fun t60 => eqD t59 t60 >>= fun t61 => Out.ok (PyData.bool t61)) else Out.ok (PyData.bool false)) >>= fun t57 => Out.ok (Ctl.rt (t57, []))) >>= fun t54 => Out.ok (upC t54) else (((Out.ok x_due >>= fun t67 => isiD "bool" t67) >>= fun t68 => truthD t68) >>= fun t65 => if t65 then (((Out.ok x_told >>= fun t70 => isiD "bool" t70) >>= fun t74 => boolD t74 >>= fun t75 => if t75 then (Out.ok x_told >>= fun t71 => Out.ok x_due >>= fun t72 => eqD t71 t72 >>= fun t73 => Out.ok (PyData.bool t73)) else Out.ok (PyData.bool false)) >>= fun t69 => Out.ok (Ctl.rt (t69, []))) >>= fun t66 => Out.ok (upC t66) else ((((Out.ok x_told >>= fun t78 => Out.ok [] >>= fun t79 => Out.ok (t78 :: t79)) >>= fun t80 => dOnly (app [.d] m__law_is_integer t80 [])) >>= fun t84 => boolD t84 >>= fun t85 => if t85 then (Out.ok x_told >>= fun t81 => Out.ok x_due >>= fun t82 => eqD t81 t82 >>= fun t83 => Out.ok (PyData.bool t83)) else Out.ok (PyData.bool false)) >>= fun t77 => Out.ok (Ctl.rt (t77, []))))))) : Out (Ctl Empty (PD × List CO) Empty)) >>= finE)
def m__law_letters : Out (PD × List CO) := (((Out.ok (PyData.str " !\"#$&'()*+,-./0123456789:;<=>?@ABCDEFGHIJKLMNOPQRSTUVWXYZ") >>= fun v1 => ((Out.ok v1 >>= fun t3 => Out.ok (PyData.str "\\^_`abcdefghijklmnopqrstuvwxyz{|}~") >>= fun t4 => addD t3 t4) >>= fun t2 => Out.ok (Ctl.rt (t2, [])))) : Out (Ctl Empty (PD × List CO) Empty)) >>= finE)
def m__law_alphabet : List PD → Out (PD × List CO) := fun l_pool => ((((dOnly m__law_letters) >>= fun v1 => ((((Out.ok (PyData.int 2) >>= fun t7 => Out.ok ([], [CO.l l_pool]) >>= fun t8 => Out.ok (t7 :: t8.1, t8.2)) >>= fun t4 => callC [0] t4.2 (app [.c, .d] m__law_draw t4.1)) >>= fun t11 => (unl fun p9 => (unn ((Out.ok (PyData.int 0) >>= fun t10 => Out.ok (t10, [CO.l p9]))))) t11.2 >>= fun t12 => eqD t11.1 t12.1 >>= fun t13 => Out.ok (t13, t12.2)) >>= fun t2 => if t2.1 then (unl fun p14 => (unn (((((Out.ok v1 >>= fun t16 => Out.ok (t16, [CO.l p14])) >>= fun t23 => (unl fun p17 => (unn (((Out.ok (PyData.int 92) >>= fun t21 => Out.ok ([], [CO.l p17]) >>= fun t22 => Out.ok (t21 :: t22.1, t22.2)) >>= fun t18 => callC [0] t18.2 (app [.c, .d] m__law_draw t18.1))))) t23.2 >>= fun t24 => idxD t23.1 t24.1 >>= fun t25 => Out.ok (t25, t24.2)) >>= fun t37 => (unl fun p26 => (unn (((Out.ok v1 >>= fun t27 => Out.ok (t27, [CO.l p26])) >>= fun t34 => (unl fun p28 => (unn (((Out.ok (PyData.int 92) >>= fun t32 => Out.ok ([], [CO.l p28]) >>= fun t33 => Out.ok (t32 :: t33.1, t33.2)) >>= fun t29 => callC [0] t29.2 (app [.c, .d] m__law_draw t29.1))))) t34.2 >>= fun t35 => idxD t34.1 t35.1 >>= fun t36 => Out.ok (t36, t35.2))))) t37.2 >>= fun t38 => addD t37.1 t38.1 >>= fun t39 => Out.ok (t39, t38.2)) >>= fun t15 => Out.ok (Ctl.rt (t15.1, t15.2)))))) t2.2 >>= fun t3 => Out.ok (upC t3) else (unl fun p40 => (unn ((Out.ok v1 >>= fun t41 => Out.ok (Ctl.rt (t41, [CO.l p40])))))) t2.2)) : Out (Ctl Empty (PD × List CO) Empty)) >>= finE)
mutual
def m__law_pieces : Nat → List PD → PD → PD → PD → List PD → PD → PD → Out (PD × List CO)
  | 0, _, _, _, _, _, _, _ => .bad
  | n + 1, l_pool, x_shape, x_slots, x_low, l_room, x_levels, x_uses => (((Out.ok [] >>= fun l2 => (((((((Out.ok (PyData.int 1) >>= fun t85 => Out.ok (t85, [CO.l l2, CO.l l_pool, CO.l l_room])) >>= fun t140 => (unl fun p86 => (unl fun p87 => (unl fun p88 => (unn (((Out.ok (PyData.int 2) >>= fun t89 => Out.ok (t89, [CO.l p86, CO.l p87, CO.l p88])) >>= fun t138 => (unl fun p90 => (unl fun p91 => (unl fun p92 => (unn (((Out.ok (PyData.int 3) >>= fun t93 => Out.ok (t93, [CO.l p90, CO.l p91, CO.l p92])) >>= fun t136 => (unl fun p94 => (unl fun p95 => (unl fun p96 => (unn (((Out.ok (PyData.int 0) >>= fun t97 => Out.ok (t97, [CO.l p94, CO.l p95, CO.l p96])) >>= fun t134 => (unl fun p98 => (unl fun p99 => (unl fun p100 => (unn (((Out.ok (PyData.int 2) >>= fun t101 => Out.ok (t101, [CO.l p98, CO.l p99, CO.l p100])) >>= fun t132 => (unl fun p102 => (unl fun p103 => (unl fun p104 => (unn (((Out.ok (PyData.int 3) >>= fun t105 => Out.ok (t105, [CO.l p102, CO.l p103, CO.l p104])) >>= fun t130 => (unl fun p106 => (unl fun p107 => (unl fun p108 => (unn (((Out.ok (PyData.int 4) >>= fun t109 => Out.ok (t109, [CO.l p106, CO.l p107, CO.l p108])) >>= fun t128 => (unl fun p110 => (unl fun p111 => (unl fun p112 => (unn ((((((Out.ok (PyData.list p112) >>= fun t118 => Out.ok (PyData.int 0) >>= fun t119 => idxD t118 t119) >>= fun t120 => Out.ok (PyData.int 1) >>= fun t121 => addD t120 t121) >>= fun t116 => Out.ok ([], [CO.l p110, CO.l p111, CO.l p112]) >>= fun t117 => Out.ok (t116 :: t117.1, t117.2)) >>= fun t113 => callC [1] t113.2 (app [.c, .d] m__law_draw t113.1)) >>= fun t126 => (unl fun p122 => (unl fun p123 => (unl fun p124 => (unn ((Out.ok [] >>= fun t125 => Out.ok (t125, [CO.l p122, CO.l p123, CO.l p124]))))))) t126.2 >>= fun t127 => Out.ok (t126.1 :: t127.1, t127.2))))))) t128.2 >>= fun t129 => Out.ok (t128.1 :: t129.1, t129.2))))))) t130.2 >>= fun t131 => Out.ok (t130.1 :: t131.1, t131.2))))))) t132.2 >>= fun t133 => Out.ok (t132.1 :: t133.1, t133.2))))))) t134.2 >>= fun t135 => Out.ok (t134.1 :: t135.1, t135.2))))))) t136.2 >>= fun t137 => Out.ok (t136.1 :: t137.1, t137.2))))))) t138.2 >>= fun t139 => Out.ok (t138.1 :: t139.1, t139.2))))))) t140.2 >>= fun t141 => Out.ok (t140.1 :: t141.1, t141.2)) >>= fun t142 => Out.ok (PyData.list t142.1, t142.2)) >>= fun t151 => (unl fun p143 => (unl fun p144 => (unl fun p145 => (unn (((Out.ok (PyData.int 8) >>= fun t149 => Out.ok ([], [CO.l p143, CO.l p144, CO.l p145]) >>= fun t150 => Out.ok (t149 :: t150.1, t150.2)) >>= fun t146 => callC [1] t146.2 (app [.c, .d] m__law_draw t146.1))))))) t151.2 >>= fun t152 => idxD t151.1 t152.1 >>= fun t153 => Out.ok (t153, t152.2)) >>= fun t154 => rangeD (PyData.int 0) t154.1 >>= fun t155 => Out.ok (t155, t154.2)) >>= fun t6 => forM (fun t8 (n5 : PD × List CO) => Out.ok t8 >>= fun k4 => ((unl fun p9 => (unl fun p10 => (unl fun p11 => (unn ((((Out.ok (PyData.list p11) >>= fun t14 => Out.ok (PyData.int 0) >>= fun t15 => idxD t14 t15) >>= fun t16 => Out.ok (PyData.int 0) >>= fun t17 => gtD t16 t17) >>= fun t12 => if t12 then (((Out.ok (PyData.list p11) >>= fun t21 => Out.ok (PyData.int 0) >>= fun t22 => idxD t21 t22) >>= fun t23 => Out.ok (PyData.int 1) >>= fun t24 => subD t23 t24) >>= fun t18 => Out.ok (PyData.int 0) >>= fun t19 => setD p11 t19 t18 >>= fun l20 => (((Out.ok x_shape >>= fun t30 => (Out.ok x_slots >>= fun t32 => (Out.ok n5.1 >>= fun t34 => (Out.ok x_levels >>= fun t38 => (Out.ok x_uses >>= fun t40 => Out.ok ([], [CO.l p9, CO.l p10, CO.l l20]) >>= fun t41 => Out.ok (t40 :: t41.1, t41.2)) >>= fun t39 => Out.ok (t38 :: t39.1, t39.2)) >>= fun t35 => Out.ok (t34 :: t35.1, t35.2)) >>= fun t33 => Out.ok (t32 :: t33.1, t33.2)) >>= fun t31 => Out.ok (t30 :: t31.1, t31.2)) >>= fun t27 => callC [1, 2] t27.2 (app [.c, .d, .d, .d, .c, .d, .d] (m__law_piece n) t27.1)) >>= fun t26 => (fun v25 => (unl fun p42 => (unl fun p43 => (unl fun p44 => (unn (((Out.ok v25 >>= fun t46 => Out.ok (PyData.int 1) >>= fun t47 => idxD t46 t47) >>= fun v45 => ((((Out.ok (PyData.list p42) >>= fun t50 => lenD t50) >>= fun t51 => Out.ok (PyData.int 0) >>= fun t52 => eqD t51 t52) >>= fun t67 => if t67 then Out.ok true else ((((Out.ok v25 >>= fun t53 => Out.ok (PyData.int 0) >>= fun t54 => idxD t53 t54) >>= fun t55 => Out.ok (PyData.int 0) >>= fun t56 => idxD t55 t56) >>= fun t57 => Out.ok (PyData.str "text") >>= fun t58 => neD t57 t58) >>= fun t66 => if t66 then Out.ok true else (((Out.ok (PyData.list p42) >>= fun t60 => (Out.ok (PyData.int 1) >>= fun t59 => negD t59) >>= fun t61 => idxD t60 t61) >>= fun t62 => Out.ok (PyData.int 0) >>= fun t63 => idxD t62 t63) >>= fun t64 => Out.ok (PyData.str "text") >>= fun t65 => neD t64 t65))) >>= fun t48 => if t48 then ((Out.ok v25 >>= fun t70 => Out.ok (PyData.int 0) >>= fun t71 => idxD t70 t71) >>= fun t68 => appD p42 t68 >>= fun l69 => Out.ok (Ctl.nx (v45, [CO.l l69, CO.l p43, CO.l p44]))) else Out.ok (Ctl.nx (v45, [CO.l p42, CO.l p43, CO.l p44])))))))))) t26.1 t26.2)) else Out.ok (Ctl.nx (n5.1, [CO.l p9, CO.l p10, CO.l p11])))))))) n5.2)) t6.1 ((fun cs1 => (x_low, cs1)) t6.2) >>= fun t7 => Out.ok (dnC t7)) >>= seqC (N1 := PD × List CO) (fun n72 => ((unl fun p73 => (unl fun p74 => (unl fun p75 => (unn (((((Out.ok (PyData.list p73) >>= fun t77 => tupleD t77) >>= fun t80 => (Out.ok n72.1 >>= fun t78 => Out.ok [] >>= fun t79 => Out.ok (t78 :: t79)) >>= fun t81 => Out.ok (t80 :: t81)) >>= fun t82 => Out.ok (PyData.list t82)) >>= fun t76 => Out.ok (Ctl.rt (t76, [CO.l p74, CO.l p75])))))))) n72.2)))) : Out (Ctl Empty (PD × List CO) Empty)) >>= finE)
def m__law_piece : Nat → List PD → PD → PD → PD → List PD → PD → PD → Out (PD × List CO)
  | 0, _, _, _, _, _, _, _ => .bad
  | n + 1, l_pool, x_shape, x_slots, x_low, l_room, x_levels, x_uses => (((((Out.ok (PyData.int 5) >>= fun t6 => Out.ok ([], [CO.l l_pool, CO.l l_room]) >>= fun t7 => Out.ok (t6 :: t7.1, t7.2)) >>= fun t3 => callC [0] t3.2 (app [.c, .d] m__law_draw t3.1)) >>= fun t2 => (fun v1 => (unl fun p8 => (unl fun p9 => (unn ((((Out.ok v1 >>= fun t12 => Out.ok (PyData.int 1) >>= fun t13 => eqD t12 t13) >>= fun t17 => if t17 then ((Out.ok x_slots >>= fun t14 => lenD t14) >>= fun t15 => Out.ok (PyData.int 0) >>= fun t16 => gtD t15 t16) else Out.ok false) >>= fun t10 => if t10 then ((((((Out.ok (PyData.str "hole") >>= fun t19 => Out.ok (t19, [CO.l p8, CO.l p9])) >>= fun t45 => (unl fun p20 => (unl fun p21 => (unn (((((Out.ok x_slots >>= fun t22 => Out.ok (t22, [CO.l p20, CO.l p21])) >>= fun t31 => (unl fun p23 => (unl fun p24 => (unn ((((Out.ok x_slots >>= fun t30 => lenD t30) >>= fun t28 => Out.ok ([], [CO.l p23, CO.l p24]) >>= fun t29 => Out.ok (t28 :: t29.1, t29.2)) >>= fun t25 => callC [0] t25.2 (app [.c, .d] m__law_draw t25.1)))))) t31.2 >>= fun t32 => idxD t31.1 t32.1 >>= fun t33 => Out.ok (t33, t32.2)) >>= fun t37 => (unl fun p34 => (unl fun p35 => (unn ((Out.ok (PyData.int 0) >>= fun t36 => Out.ok (t36, [CO.l p34, CO.l p35])))))) t37.2 >>= fun t38 => idxD t37.1 t38.1 >>= fun t39 => Out.ok (t39, t38.2)) >>= fun t43 => (unl fun p40 => (unl fun p41 => (unn ((Out.ok [] >>= fun t42 => Out.ok (t42, [CO.l p40, CO.l p41])))))) t43.2 >>= fun t44 => Out.ok (t43.1 :: t44.1, t44.2)))))) t45.2 >>= fun t46 => Out.ok (t45.1 :: t46.1, t46.2)) >>= fun t47 => Out.ok (PyData.tuple t47.1, t47.2)) >>= fun t53 => (unl fun p48 => (unl fun p49 => (unn (((Out.ok x_low >>= fun t50 => Out.ok [] >>= fun t51 => Out.ok (t50 :: t51)) >>= fun t52 => Out.ok (t52, [CO.l p48, CO.l p49])))))) t53.2 >>= fun t54 => Out.ok (t53.1 :: t54.1, t54.2)) >>= fun t55 => Out.ok (PyData.list t55.1, t55.2)) >>= fun t18 => Out.ok (Ctl.rt (t18.1, t18.2))) >>= fun t11 => Out.ok (upC t11) else (((Out.ok v1 >>= fun t58 => Out.ok (PyData.int 2) >>= fun t59 => eqD t58 t59) >>= fun t66 => if t66 then (((Out.ok x_slots >>= fun t60 => lenD t60) >>= fun t61 => Out.ok (PyData.int 0) >>= fun t62 => gtD t61 t62) >>= fun t65 => if t65 then (Out.ok x_levels >>= fun t63 => Out.ok (PyData.int 1) >>= fun t64 => gtD t63 t64) else Out.ok false) else Out.ok false) >>= fun t56 => if t56 then (((Out.ok x_slots >>= fun t69 => Out.ok (t69, [CO.l p8, CO.l p9])) >>= fun t78 => (unl fun p70 => (unl fun p71 => (unn ((((Out.ok x_slots >>= fun t77 => lenD t77) >>= fun t75 => Out.ok ([], [CO.l p70, CO.l p71]) >>= fun t76 => Out.ok (t75 :: t76.1, t76.2)) >>= fun t72 => callC [0] t72.2 (app [.c, .d] m__law_draw t72.1)))))) t78.2 >>= fun t79 => idxD t78.1 t79.1 >>= fun t80 => Out.ok (t80, t79.2)) >>= fun t68 => (fun v67 => (unl fun p81 => (unl fun p82 => (unn (((((Out.ok v67 >>= fun t85 => Out.ok (PyData.int 1) >>= fun t86 => idxD t85 t86) >>= fun t87 => Out.ok (t87, [CO.l p81, CO.l p82])) >>= fun t98 => (unl fun p88 => (unl fun p89 => (unn (((((Out.ok v67 >>= fun t96 => Out.ok (PyData.int 1) >>= fun t97 => idxD t96 t97) >>= fun t95 => lenD t95) >>= fun t93 => Out.ok ([], [CO.l p88, CO.l p89]) >>= fun t94 => Out.ok (t93 :: t94.1, t94.2)) >>= fun t90 => callC [0] t90.2 (app [.c, .d] m__law_draw t90.1)))))) t98.2 >>= fun t99 => idxD t98.1 t99.1 >>= fun t100 => Out.ok (t100, t99.2)) >>= fun t84 => (fun v83 => (unl fun p101 => (unl fun p102 => (unn ((((Out.ok x_shape >>= fun t108 => (Out.ok x_slots >>= fun t110 => (Out.ok x_low >>= fun t112 => ((Out.ok x_levels >>= fun t118 => Out.ok (PyData.int 1) >>= fun t119 => subD t118 t119) >>= fun t116 => (Out.ok x_uses >>= fun t120 => Out.ok ([], [CO.l p101, CO.l p102]) >>= fun t121 => Out.ok (t120 :: t121.1, t121.2)) >>= fun t117 => Out.ok (t116 :: t117.1, t117.2)) >>= fun t113 => Out.ok (t112 :: t113.1, t113.2)) >>= fun t111 => Out.ok (t110 :: t111.1, t111.2)) >>= fun t109 => Out.ok (t108 :: t109.1, t109.2)) >>= fun t105 => callC [0, 1] t105.2 (app [.c, .d, .d, .d, .c, .d, .d] (m__law_pieces n) t105.1)) >>= fun t104 => (fun v103 => (unl fun p122 => (unl fun p123 => (unn ((((Out.ok x_shape >>= fun t129 => (Out.ok x_slots >>= fun t131 => (Out.ok x_low >>= fun t133 => ((Out.ok x_levels >>= fun t139 => Out.ok (PyData.int 1) >>= fun t140 => subD t139 t140) >>= fun t137 => (Out.ok x_uses >>= fun t141 => Out.ok ([], [CO.l p122, CO.l p123]) >>= fun t142 => Out.ok (t141 :: t142.1, t142.2)) >>= fun t138 => Out.ok (t137 :: t138.1, t138.2)) >>= fun t134 => Out.ok (t133 :: t134.1, t134.2)) >>= fun t132 => Out.ok (t131 :: t132.1, t132.2)) >>= fun t130 => Out.ok (t129 :: t130.1, t130.2)) >>= fun t126 => callC [0, 1] t126.2 (app [.c, .d, .d, .d, .c, .d, .d] (m__law_pieces n) t126.1)) >>= fun t125 => (fun v124 => (unl fun p143 => (unl fun p144 => (unn ((((((Out.ok (PyData.str "choice") >>= fun t160 => ((Out.ok v67 >>= fun t146 => Out.ok (PyData.int 0) >>= fun t147 => idxD t146 t147) >>= fun t158 => (Out.ok v83 >>= fun t156 => ((Out.ok v103 >>= fun t148 => Out.ok (PyData.int 0) >>= fun t149 => idxD t148 t149) >>= fun t154 => ((Out.ok v124 >>= fun t150 => Out.ok (PyData.int 0) >>= fun t151 => idxD t150 t151) >>= fun t152 => Out.ok [] >>= fun t153 => Out.ok (t152 :: t153)) >>= fun t155 => Out.ok (t154 :: t155)) >>= fun t157 => Out.ok (t156 :: t157)) >>= fun t159 => Out.ok (t158 :: t159)) >>= fun t161 => Out.ok (t160 :: t161)) >>= fun t162 => Out.ok (PyData.tuple t162)) >>= fun t174 => ((((Out.ok v103 >>= fun t164 => Out.ok (PyData.int 1) >>= fun t165 => idxD t164 t165) >>= fun t170 => ((Out.ok v124 >>= fun t166 => Out.ok (PyData.int 1) >>= fun t167 => idxD t166 t167) >>= fun t168 => Out.ok [] >>= fun t169 => Out.ok (t168 :: t169)) >>= fun t171 => Out.ok (t170 :: t171)) >>= fun t163 => maxA t163) >>= fun t172 => Out.ok [] >>= fun t173 => Out.ok (t172 :: t173)) >>= fun t175 => Out.ok (t174 :: t175)) >>= fun t176 => Out.ok (PyData.list t176)) >>= fun t145 => Out.ok (Ctl.rt (t145, [CO.l p143, CO.l p144])))))))) t125.1 t125.2)))))) t104.1 t104.2)))))) t84.1 t84.2)))))) t68.1 t68.2) >>= fun t57 => Out.ok (upC t57) else (((Out.ok v1 >>= fun t180 => Out.ok (PyData.int 3) >>= fun t181 => eqD t180 t181) >>= fun t190 => if t190 then ((Out.ok x_low >>= fun t185 => ((Out.ok x_shape >>= fun t183 => Out.ok (PyData.int 1) >>= fun t184 => idxD t183 t184) >>= fun t182 => lenD t182) >>= fun t186 => ltD t185 t186) >>= fun t189 => if t189 then (Out.ok x_levels >>= fun t187 => Out.ok (PyData.int 1) >>= fun t188 => gtD t187 t188) else Out.ok false) else Out.ok false) >>= fun t178 => if t178 then (((Out.ok x_low >>= fun t193 => Out.ok (t193, [CO.l p8, CO.l p9])) >>= fun t206 => (unl fun p194 => (unl fun p195 => (unn ((((((Out.ok x_shape >>= fun t202 => Out.ok (PyData.int 1) >>= fun t203 => idxD t202 t203) >>= fun t201 => lenD t201) >>= fun t204 => Out.ok x_low >>= fun t205 => subD t204 t205) >>= fun t199 => Out.ok ([], [CO.l p194, CO.l p195]) >>= fun t200 => Out.ok (t199 :: t200.1, t200.2)) >>= fun t196 => callC [0] t196.2 (app [.c, .d] m__law_draw t196.1)))))) t206.2 >>= fun t207 => addD t206.1 t207.1 >>= fun t208 => Out.ok (t208, t207.2)) >>= fun t192 => (fun v191 => (unl fun p209 => (unl fun p210 => (unn ((((Out.ok x_shape >>= fun t212 => Out.ok (PyData.int 1) >>= fun t213 => idxD t212 t213) >>= fun t214 => Out.ok v191 >>= fun t215 => idxD t214 t215) >>= fun v211 => ((((Out.ok v211 >>= fun t223 => Out.ok (PyData.int 1) >>= fun t224 => idxD t223 t224) >>= fun t221 => ((Out.ok x_slots >>= fun t231 => ((Out.ok v211 >>= fun t227 => Out.ok (PyData.int 1) >>= fun t228 => idxD t227 t228) >>= fun t229 => Out.ok (PyData.int 0) >>= fun t230 => idxD t229 t230) >>= fun t232 => addD t231 t232) >>= fun t225 => (Out.ok (PyData.int 0) >>= fun t233 => ((Out.ok x_levels >>= fun t239 => Out.ok (PyData.int 1) >>= fun t240 => subD t239 t240) >>= fun t237 => (Out.ok x_uses >>= fun t241 => Out.ok ([], [CO.l p209, CO.l p210]) >>= fun t242 => Out.ok (t241 :: t242.1, t242.2)) >>= fun t238 => Out.ok (t237 :: t238.1, t238.2)) >>= fun t234 => Out.ok (t233 :: t234.1, t234.2)) >>= fun t226 => Out.ok (t225 :: t226.1, t226.2)) >>= fun t222 => Out.ok (t221 :: t222.1, t222.2)) >>= fun t218 => callC [0, 1] t218.2 (app [.c, .d, .d, .d, .c, .d, .d] (m__law_pieces n) t218.1)) >>= fun t217 => (fun v216 => (unl fun p243 => (unl fun p244 => (unn (((((Out.ok (PyData.list p244) >>= fun t252 => Out.ok (PyData.int 2) >>= fun t253 => idxD t252 t253) >>= fun t250 => (((((Out.ok (PyData.list p244) >>= fun t258 => Out.ok (PyData.int 1) >>= fun t259 => idxD t258 t259) >>= fun t260 => Out.ok (t260, [CO.l p243, CO.l p244])) >>= fun t313 => (unl fun p261 => (unl fun p262 => (unn ((((((Out.ok (PyData.int 0) >>= fun t263 => Out.ok (t263, [CO.l p261, CO.l p262])) >>= fun t295 => (unl fun p264 => (unl fun p265 => (unn (((Out.ok (PyData.int 1) >>= fun t266 => Out.ok (t266, [CO.l p264, CO.l p265])) >>= fun t293 => (unl fun p267 => (unl fun p268 => (unn (((Out.ok (PyData.int 0) >>= fun t269 => Out.ok (t269, [CO.l p267, CO.l p268])) >>= fun t291 => (unl fun p270 => (unl fun p271 => (unn (((Out.ok (PyData.int 2) >>= fun t272 => Out.ok (t272, [CO.l p270, CO.l p271])) >>= fun t289 => (unl fun p273 => (unl fun p274 => (unn ((((((Out.ok (PyData.list p274) >>= fun t280 => Out.ok (PyData.int 1) >>= fun t281 => idxD t280 t281) >>= fun t282 => Out.ok (PyData.int 1) >>= fun t283 => addD t282 t283) >>= fun t278 => Out.ok ([], [CO.l p273, CO.l p274]) >>= fun t279 => Out.ok (t278 :: t279.1, t279.2)) >>= fun t275 => callC [0] t275.2 (app [.c, .d] m__law_draw t275.1)) >>= fun t287 => (unl fun p284 => (unl fun p285 => (unn ((Out.ok [] >>= fun t286 => Out.ok (t286, [CO.l p284, CO.l p285])))))) t287.2 >>= fun t288 => Out.ok (t287.1 :: t288.1, t288.2)))))) t289.2 >>= fun t290 => Out.ok (t289.1 :: t290.1, t290.2)))))) t291.2 >>= fun t292 => Out.ok (t291.1 :: t292.1, t292.2)))))) t293.2 >>= fun t294 => Out.ok (t293.1 :: t294.1, t294.2)))))) t295.2 >>= fun t296 => Out.ok (t295.1 :: t296.1, t296.2)) >>= fun t297 => Out.ok (PyData.list t297.1, t297.2)) >>= fun t305 => (unl fun p298 => (unl fun p299 => (unn (((Out.ok (PyData.int 5) >>= fun t303 => Out.ok ([], [CO.l p298, CO.l p299]) >>= fun t304 => Out.ok (t303 :: t304.1, t304.2)) >>= fun t300 => callC [0] t300.2 (app [.c, .d] m__law_draw t300.1)))))) t305.2 >>= fun t306 => idxD t305.1 t306.1 >>= fun t307 => Out.ok (t307, t306.2)) >>= fun t311 => (unl fun p308 => (unl fun p309 => (unn ((Out.ok [] >>= fun t310 => Out.ok (t310, [CO.l p308, CO.l p309])))))) t311.2 >>= fun t312 => Out.ok (t311.1 :: t312.1, t312.2)))))) t313.2 >>= fun t314 => Out.ok (t313.1 :: t314.1, t314.2)) >>= fun t256 => minA t256.1 >>= fun t257 => Out.ok (t257, t256.2)) >>= fun t254 => (unl fun p315 => (unl fun p316 => (unn (Out.ok ([], [CO.l p315, CO.l p316]))))) t254.2 >>= fun t255 => Out.ok (t254.1 :: t255.1, t255.2)) >>= fun t251 => Out.ok (t250 :: t251.1, t251.2)) >>= fun t247 => callC [0] t247.2 (app [.c, .d, .d] m__law_text t247.1)) >>= fun t246 => (fun v245 => (unl fun p317 => (unl fun p318 => (unn ((((((Out.ok (PyData.str "loop") >>= fun t330 => ((Out.ok v211 >>= fun t320 => Out.ok (PyData.int 0) >>= fun t321 => idxD t320 t321) >>= fun t328 => ((Out.ok v216 >>= fun t322 => Out.ok (PyData.int 0) >>= fun t323 => idxD t322 t323) >>= fun t326 => (Out.ok v245 >>= fun t324 => Out.ok [] >>= fun t325 => Out.ok (t324 :: t325)) >>= fun t327 => Out.ok (t326 :: t327)) >>= fun t329 => Out.ok (t328 :: t329)) >>= fun t331 => Out.ok (t330 :: t331)) >>= fun t332 => Out.ok (PyData.tuple t332)) >>= fun t337 => ((Out.ok v191 >>= fun t333 => Out.ok (PyData.int 1) >>= fun t334 => addD t333 t334) >>= fun t335 => Out.ok [] >>= fun t336 => Out.ok (t335 :: t336)) >>= fun t338 => Out.ok (t337 :: t338)) >>= fun t339 => Out.ok (PyData.list t339)) >>= fun t319 => Out.ok (Ctl.rt (t319, [CO.l p317, CO.l p318])))))))) t246.1 t246.2)))))) t217.1 t217.2))))))) t192.1 t192.2) >>= fun t179 => Out.ok (upC t179) else (((Out.ok v1 >>= fun t343 => Out.ok (PyData.int 4) >>= fun t344 => eqD t343 t344) >>= fun t348 => if t348 then ((Out.ok x_uses >>= fun t345 => lenD t345) >>= fun t346 => Out.ok (PyData.int 0) >>= fun t347 => gtD t346 t347) else Out.ok false) >>= fun t341 => if t341 then ((((((Out.ok (PyData.str "use") >>= fun t350 => Out.ok (t350, [CO.l p8, CO.l p9])) >>= fun t370 => (unl fun p351 => (unl fun p352 => (unn ((((Out.ok x_uses >>= fun t353 => Out.ok (t353, [CO.l p351, CO.l p352])) >>= fun t362 => (unl fun p354 => (unl fun p355 => (unn ((((Out.ok x_uses >>= fun t361 => lenD t361) >>= fun t359 => Out.ok ([], [CO.l p354, CO.l p355]) >>= fun t360 => Out.ok (t359 :: t360.1, t360.2)) >>= fun t356 => callC [0] t356.2 (app [.c, .d] m__law_draw t356.1)))))) t362.2 >>= fun t363 => idxD t362.1 t363.1 >>= fun t364 => Out.ok (t364, t363.2)) >>= fun t368 => (unl fun p365 => (unl fun p366 => (unn ((Out.ok [] >>= fun t367 => Out.ok (t367, [CO.l p365, CO.l p366])))))) t368.2 >>= fun t369 => Out.ok (t368.1 :: t369.1, t369.2)))))) t370.2 >>= fun t371 => Out.ok (t370.1 :: t371.1, t371.2)) >>= fun t372 => Out.ok (PyData.tuple t372.1, t372.2)) >>= fun t378 => (unl fun p373 => (unl fun p374 => (unn (((Out.ok x_low >>= fun t375 => Out.ok [] >>= fun t376 => Out.ok (t375 :: t376)) >>= fun t377 => Out.ok (t377, [CO.l p373, CO.l p374])))))) t378.2 >>= fun t379 => Out.ok (t378.1 :: t379.1, t379.2)) >>= fun t380 => Out.ok (PyData.list t380.1, t380.2)) >>= fun t349 => Out.ok (Ctl.rt (t349.1, t349.2))) >>= fun t342 => Out.ok (upC t342) else (((((Out.ok (PyData.list p9) >>= fun t385 => Out.ok (PyData.int 1) >>= fun t386 => idxD t385 t386) >>= fun t387 => Out.ok (t387, [CO.l p8, CO.l p9])) >>= fun t444 => (unl fun p388 => (unl fun p389 => (unn ((((((Out.ok (PyData.int 1) >>= fun t390 => Out.ok (t390, [CO.l p388, CO.l p389])) >>= fun t426 => (unl fun p391 => (unl fun p392 => (unn (((Out.ok (PyData.int 2) >>= fun t393 => Out.ok (t393, [CO.l p391, CO.l p392])) >>= fun t424 => (unl fun p394 => (unl fun p395 => (unn (((Out.ok (PyData.int 1) >>= fun t396 => Out.ok (t396, [CO.l p394, CO.l p395])) >>= fun t422 => (unl fun p397 => (unl fun p398 => (unn (((Out.ok (PyData.int 3) >>= fun t399 => Out.ok (t399, [CO.l p397, CO.l p398])) >>= fun t420 => (unl fun p400 => (unl fun p401 => (unn ((((Out.ok (PyData.int 1) >>= fun t402 => Out.ok (t402, [CO.l p400, CO.l p401])) >>= fun t412 => (unl fun p403 => (unl fun p404 => (unn ((((Out.ok (PyData.list p404) >>= fun t410 => Out.ok (PyData.int 1) >>= fun t411 => idxD t410 t411) >>= fun t408 => Out.ok ([], [CO.l p403, CO.l p404]) >>= fun t409 => Out.ok (t408 :: t409.1, t409.2)) >>= fun t405 => callC [0] t405.2 (app [.c, .d] m__law_draw t405.1)))))) t412.2 >>= fun t413 => addD t412.1 t413.1 >>= fun t414 => Out.ok (t414, t413.2)) >>= fun t418 => (unl fun p415 => (unl fun p416 => (unn ((Out.ok [] >>= fun t417 => Out.ok (t417, [CO.l p415, CO.l p416])))))) t418.2 >>= fun t419 => Out.ok (t418.1 :: t419.1, t419.2)))))) t420.2 >>= fun t421 => Out.ok (t420.1 :: t421.1, t421.2)))))) t422.2 >>= fun t423 => Out.ok (t422.1 :: t423.1, t423.2)))))) t424.2 >>= fun t425 => Out.ok (t424.1 :: t425.1, t425.2)))))) t426.2 >>= fun t427 => Out.ok (t426.1 :: t427.1, t427.2)) >>= fun t428 => Out.ok (PyData.list t428.1, t428.2)) >>= fun t436 => (unl fun p429 => (unl fun p430 => (unn (((Out.ok (PyData.int 5) >>= fun t434 => Out.ok ([], [CO.l p429, CO.l p430]) >>= fun t435 => Out.ok (t434 :: t435.1, t435.2)) >>= fun t431 => callC [0] t431.2 (app [.c, .d] m__law_draw t431.1)))))) t436.2 >>= fun t437 => idxD t436.1 t437.1 >>= fun t438 => Out.ok (t438, t437.2)) >>= fun t442 => (unl fun p439 => (unl fun p440 => (unn ((Out.ok [] >>= fun t441 => Out.ok (t441, [CO.l p439, CO.l p440])))))) t442.2 >>= fun t443 => Out.ok (t442.1 :: t443.1, t443.2)))))) t444.2 >>= fun t445 => Out.ok (t444.1 :: t445.1, t445.2)) >>= fun t383 => minA t383.1 >>= fun t384 => Out.ok (t384, t383.2)) >>= fun t382 => (fun v381 => (unl fun p446 => (unl fun p447 => (unn (((((((Out.ok (PyData.str "text") >>= fun t449 => Out.ok (t449, [CO.l p446, CO.l p447])) >>= fun t466 => (unl fun p450 => (unl fun p451 => (unn (((((Out.ok (PyData.list p451) >>= fun t457 => Out.ok (PyData.int 2) >>= fun t458 => idxD t457 t458) >>= fun t455 => (Out.ok v381 >>= fun t459 => Out.ok ([], [CO.l p450, CO.l p451]) >>= fun t460 => Out.ok (t459 :: t460.1, t460.2)) >>= fun t456 => Out.ok (t455 :: t456.1, t456.2)) >>= fun t452 => callC [0] t452.2 (app [.c, .d, .d] m__law_text t452.1)) >>= fun t464 => (unl fun p461 => (unl fun p462 => (unn ((Out.ok [] >>= fun t463 => Out.ok (t463, [CO.l p461, CO.l p462])))))) t464.2 >>= fun t465 => Out.ok (t464.1 :: t465.1, t465.2)))))) t466.2 >>= fun t467 => Out.ok (t466.1 :: t467.1, t467.2)) >>= fun t468 => Out.ok (PyData.tuple t468.1, t468.2)) >>= fun t474 => (unl fun p469 => (unl fun p470 => (unn (((Out.ok x_low >>= fun t471 => Out.ok [] >>= fun t472 => Out.ok (t471 :: t472)) >>= fun t473 => Out.ok (t473, [CO.l p469, CO.l p470])))))) t474.2 >>= fun t475 => Out.ok (t474.1 :: t475.1, t475.2)) >>= fun t476 => Out.ok (PyData.list t476.1, t476.2)) >>= fun t448 => Out.ok (Ctl.rt (t448.1, t448.2)))))))) t382.1 t382.2)))))))))) t2.1 t2.2) : Out (Ctl Empty (PD × List CO) Empty)) >>= finE)
end
def m_text_piece : PD → Out (PD × List CO) := fun x_word => (((((Out.ok (PyData.str "text") >>= fun t4 => (Out.ok x_word >>= fun t2 => Out.ok [] >>= fun t3 => Out.ok (t2 :: t3)) >>= fun t5 => Out.ok (t4 :: t5)) >>= fun t6 => Out.ok (PyData.tuple t6)) >>= fun t1 => Out.ok (Ctl.rt (t1, []))) : Out (Ctl Empty (PD × List CO) Empty)) >>= finE)
def m_hole : PD → Out (PD × List CO) := fun x_field => (((((Out.ok (PyData.str "hole") >>= fun t4 => (Out.ok x_field >>= fun t2 => Out.ok [] >>= fun t3 => Out.ok (t2 :: t3)) >>= fun t5 => Out.ok (t4 :: t5)) >>= fun t6 => Out.ok (PyData.tuple t6)) >>= fun t1 => Out.ok (Ctl.rt (t1, []))) : Out (Ctl Empty (PD × List CO) Empty)) >>= finE)
def m_use : PD → Out (PD × List CO) := fun x_part => (((((Out.ok (PyData.str "use") >>= fun t4 => (Out.ok x_part >>= fun t2 => Out.ok [] >>= fun t3 => Out.ok (t2 :: t3)) >>= fun t5 => Out.ok (t4 :: t5)) >>= fun t6 => Out.ok (PyData.tuple t6)) >>= fun t1 => Out.ok (Ctl.rt (t1, []))) : Out (Ctl Empty (PD × List CO) Empty)) >>= finE)
def m_choice : PD → PD → PD → PD → Out (PD × List CO) := fun x_field x_word x_yes x_otherwise => (((((Out.ok (PyData.str "choice") >>= fun t10 => (Out.ok x_field >>= fun t8 => (Out.ok x_word >>= fun t6 => (Out.ok x_yes >>= fun t4 => (Out.ok x_otherwise >>= fun t2 => Out.ok [] >>= fun t3 => Out.ok (t2 :: t3)) >>= fun t5 => Out.ok (t4 :: t5)) >>= fun t7 => Out.ok (t6 :: t7)) >>= fun t9 => Out.ok (t8 :: t9)) >>= fun t11 => Out.ok (t10 :: t11)) >>= fun t12 => Out.ok (PyData.tuple t12)) >>= fun t1 => Out.ok (Ctl.rt (t1, []))) : Out (Ctl Empty (PD × List CO) Empty)) >>= finE)
def m_loop : PD → PD → PD → Out (PD × List CO) := fun x_name x_body x_between => (((((Out.ok (PyData.str "loop") >>= fun t8 => (Out.ok x_name >>= fun t6 => (Out.ok x_body >>= fun t4 => (Out.ok x_between >>= fun t2 => Out.ok [] >>= fun t3 => Out.ok (t2 :: t3)) >>= fun t5 => Out.ok (t4 :: t5)) >>= fun t7 => Out.ok (t6 :: t7)) >>= fun t9 => Out.ok (t8 :: t9)) >>= fun t10 => Out.ok (PyData.tuple t10)) >>= fun t1 => Out.ok (Ctl.rt (t1, []))) : Out (Ctl Empty (PD × List CO) Empty)) >>= finE)
def m__law_made : Nat → PD → Out (PD × List CO)
  | 0, _ => .bad
  | n + 1, x_pieces => (((Out.ok [] >>= fun l2 => (((Out.ok x_pieces >>= fun t150 => itemsD t150) >>= fun t6 => forM (fun t8 (n5 : List PD) => Out.ok t8 >>= fun k4 => (((Out.ok k4 >>= fun t11 => Out.ok (PyData.int 0) >>= fun t12 => idxD t11 t12) >>= fun t13 => Out.ok (PyData.str "text") >>= fun t14 => eqD t13 t14) >>= fun t9 => if t9 then ((((Out.ok k4 >>= fun t17 => Out.ok (PyData.int 1) >>= fun t18 => idxD t17 t18) >>= fun t19 => Out.ok [] >>= fun t20 => Out.ok (t19 :: t20)) >>= fun t21 => dOnly (app [.d] m_text_piece t21 [])) >>= fun t15 => appD n5 t15 >>= fun l16 => Out.ok (Ctl.nx (l16))) else (((Out.ok k4 >>= fun t24 => Out.ok (PyData.int 0) >>= fun t25 => idxD t24 t25) >>= fun t26 => Out.ok (PyData.str "hole") >>= fun t27 => eqD t26 t27) >>= fun t22 => if t22 then ((((Out.ok k4 >>= fun t30 => Out.ok (PyData.int 1) >>= fun t31 => idxD t30 t31) >>= fun t32 => Out.ok [] >>= fun t33 => Out.ok (t32 :: t33)) >>= fun t34 => dOnly (app [.d] m_hole t34 [])) >>= fun t28 => appD n5 t28 >>= fun l29 => Out.ok (Ctl.nx (l29))) else (((Out.ok k4 >>= fun t37 => Out.ok (PyData.int 0) >>= fun t38 => idxD t37 t38) >>= fun t39 => Out.ok (PyData.str "use") >>= fun t40 => eqD t39 t40) >>= fun t35 => if t35 then ((((Out.ok k4 >>= fun t43 => Out.ok (PyData.int 1) >>= fun t44 => idxD t43 t44) >>= fun t45 => Out.ok [] >>= fun t46 => Out.ok (t45 :: t46)) >>= fun t47 => dOnly (app [.d] m_use t47 [])) >>= fun t41 => appD n5 t41 >>= fun l42 => Out.ok (Ctl.nx (l42))) else ((((Out.ok k4 >>= fun t50 => Out.ok (PyData.int 0) >>= fun t51 => idxD t50 t51) >>= fun t52 => Out.ok (PyData.str "choice") >>= fun t53 => eqD t52 t53) >>= fun t59 => if t59 then ((Out.ok k4 >>= fun t54 => Out.ok (PyData.int 4) >>= fun t55 => idxD t54 t55) >>= fun t57 => (Out.ok [] >>= fun t56 => Out.ok (PyData.tuple t56)) >>= fun t58 => eqD t57 t58) else Out.ok false) >>= fun t48 => if t48 then ((((Out.ok k4 >>= fun t62 => Out.ok (PyData.int 1) >>= fun t63 => idxD t62 t63) >>= fun t75 => ((Out.ok k4 >>= fun t64 => Out.ok (PyData.int 2) >>= fun t65 => idxD t64 t65) >>= fun t73 => ((((Out.ok k4 >>= fun t66 => Out.ok (PyData.int 3) >>= fun t67 => idxD t66 t67) >>= fun t68 => Out.ok [] >>= fun t69 => Out.ok (t68 :: t69)) >>= fun t70 => dOnly (app [.d] (m__law_made n) t70 [])) >>= fun t71 => Out.ok [] >>= fun t72 => Out.ok (t71 :: t72)) >>= fun t74 => Out.ok (t73 :: t74)) >>= fun t76 => Out.ok (t75 :: t76)) >>= fun t77 => dOnly (app [.d, .d, .d, .d] m_choice (t77 ++ [(.tuple [])]) [])) >>= fun t60 => appD n5 t60 >>= fun l61 => Out.ok (Ctl.nx (l61))) else (((Out.ok k4 >>= fun t80 => Out.ok (PyData.int 0) >>= fun t81 => idxD t80 t81) >>= fun t82 => Out.ok (PyData.str "choice") >>= fun t83 => eqD t82 t83) >>= fun t78 => if t78 then ((((Out.ok k4 >>= fun t86 => Out.ok (PyData.int 1) >>= fun t87 => idxD t86 t87) >>= fun t99 => ((Out.ok k4 >>= fun t88 => Out.ok (PyData.int 2) >>= fun t89 => idxD t88 t89) >>= fun t97 => ((((Out.ok k4 >>= fun t90 => Out.ok (PyData.int 3) >>= fun t91 => idxD t90 t91) >>= fun t92 => Out.ok [] >>= fun t93 => Out.ok (t92 :: t93)) >>= fun t94 => dOnly (app [.d] (m__law_made n) t94 [])) >>= fun t95 => Out.ok [] >>= fun t96 => Out.ok (t95 :: t96)) >>= fun t98 => Out.ok (t97 :: t98)) >>= fun t100 => Out.ok (t99 :: t100)) >>= fun t101 => (((Out.ok k4 >>= fun t102 => Out.ok (PyData.int 4) >>= fun t103 => idxD t102 t103) >>= fun t104 => Out.ok [] >>= fun t105 => Out.ok (t104 :: t105)) >>= fun t106 => dOnly (app [.d] (m__law_made n) t106 [])) >>= fun t107 => dOnly (app [.d, .d, .d, .d] m_choice (t101 ++ [t107]) [])) >>= fun t84 => appD n5 t84 >>= fun l85 => Out.ok (Ctl.nx (l85))) else (((Out.ok k4 >>= fun t110 => Out.ok (PyData.int 3) >>= fun t111 => idxD t110 t111) >>= fun t112 => Out.ok (PyData.str "") >>= fun t113 => eqD t112 t113) >>= fun t108 => if t108 then ((((Out.ok k4 >>= fun t116 => Out.ok (PyData.int 1) >>= fun t117 => idxD t116 t117) >>= fun t125 => ((((Out.ok k4 >>= fun t118 => Out.ok (PyData.int 2) >>= fun t119 => idxD t118 t119) >>= fun t120 => Out.ok [] >>= fun t121 => Out.ok (t120 :: t121)) >>= fun t122 => dOnly (app [.d] (m__law_made n) t122 [])) >>= fun t123 => Out.ok [] >>= fun t124 => Out.ok (t123 :: t124)) >>= fun t126 => Out.ok (t125 :: t126)) >>= fun t127 => dOnly (app [.d, .d, .d] m_loop (t127 ++ [(.str "")]) [])) >>= fun t114 => appD n5 t114 >>= fun l115 => Out.ok (Ctl.nx (l115))) else ((((Out.ok k4 >>= fun t130 => Out.ok (PyData.int 1) >>= fun t131 => idxD t130 t131) >>= fun t139 => ((((Out.ok k4 >>= fun t132 => Out.ok (PyData.int 2) >>= fun t133 => idxD t132 t133) >>= fun t134 => Out.ok [] >>= fun t135 => Out.ok (t134 :: t135)) >>= fun t136 => dOnly (app [.d] (m__law_made n) t136 [])) >>= fun t137 => Out.ok [] >>= fun t138 => Out.ok (t137 :: t138)) >>= fun t140 => Out.ok (t139 :: t140)) >>= fun t141 => (Out.ok k4 >>= fun t142 => Out.ok (PyData.int 3) >>= fun t143 => idxD t142 t143) >>= fun t144 => dOnly (app [.d, .d, .d] m_loop (t141 ++ [t144]) [])) >>= fun t128 => appD n5 t128 >>= fun l129 => Out.ok (Ctl.nx (l129)))))))))) t6 (l2) >>= fun t7 => Out.ok (dnC t7)) >>= seqC (N1 := List PD) (fun n145 => ((Out.ok (PyData.list n145) >>= fun t147 => tupleD t147) >>= fun t146 => Out.ok (Ctl.rt (t146, [])))))) : Out (Ctl Empty (PD × List CO) Empty)) >>= finE)
def m__law_measured : Nat → PD → Out (PD × List CO)
  | 0, _ => .bad
  | n + 1, x_pieces => ((((Out.ok (PyData.int 0) >>= fun t7 => (Out.ok (PyData.int 1) >>= fun t5 => (Out.ok (PyData.int 0) >>= fun t3 => Out.ok [] >>= fun t4 => Out.ok (t3 :: t4)) >>= fun t6 => Out.ok (t5 :: t6)) >>= fun t8 => Out.ok (t7 :: t8)) >>= fun l2 => (((Out.ok x_pieces >>= fun t141 => itemsD t141) >>= fun t12 => forM (fun t14 (n11 : List PD) => Out.ok t14 >>= fun k10 => (((Out.ok (PyData.list n11) >>= fun t18 => Out.ok (PyData.int 0) >>= fun t19 => idxD t18 t19) >>= fun t20 => Out.ok (PyData.int 1) >>= fun t21 => addD t20 t21) >>= fun t15 => Out.ok (PyData.int 0) >>= fun t16 => setD n11 t16 t15 >>= fun l17 => ((Out.ok [] >>= fun t23 => Out.ok (PyData.list t23)) >>= fun v22 => ((((Out.ok k10 >>= fun t27 => Out.ok (PyData.int 0) >>= fun t28 => idxD t27 t28) >>= fun t29 => Out.ok (PyData.str "text") >>= fun t30 => eqD t29 t30) >>= fun t24 => if t24 then (((Out.ok (PyData.list l17) >>= fun t34 => Out.ok (PyData.int 2) >>= fun t35 => idxD t34 t35) >>= fun t39 => ((Out.ok k10 >>= fun t37 => Out.ok (PyData.int 1) >>= fun t38 => idxD t37 t38) >>= fun t36 => lenD t36) >>= fun t40 => addD t39 t40) >>= fun t31 => Out.ok (PyData.int 2) >>= fun t32 => setD l17 t32 t31 >>= fun l33 => Out.ok (Ctl.nx (v22, l33))) else (((Out.ok k10 >>= fun t43 => Out.ok (PyData.int 0) >>= fun t44 => idxD t43 t44) >>= fun t45 => Out.ok (PyData.str "hole") >>= fun t46 => eqD t45 t46) >>= fun t41 => if t41 then (((Out.ok (PyData.list l17) >>= fun t50 => Out.ok (PyData.int 2) >>= fun t51 => idxD t50 t51) >>= fun t52 => Out.ok (PyData.int 6) >>= fun t53 => addD t52 t53) >>= fun t47 => Out.ok (PyData.int 2) >>= fun t48 => setD l17 t48 t47 >>= fun l49 => Out.ok (Ctl.nx (v22, l49))) else (((Out.ok k10 >>= fun t56 => Out.ok (PyData.int 0) >>= fun t57 => idxD t56 t57) >>= fun t58 => Out.ok (PyData.str "choice") >>= fun t59 => eqD t58 t59) >>= fun t54 => if t54 then ((((Out.ok k10 >>= fun t61 => Out.ok (PyData.int 3) >>= fun t62 => idxD t61 t62) >>= fun t67 => ((Out.ok k10 >>= fun t63 => Out.ok (PyData.int 4) >>= fun t64 => idxD t63 t64) >>= fun t65 => Out.ok [] >>= fun t66 => Out.ok (t65 :: t66)) >>= fun t68 => Out.ok (t67 :: t68)) >>= fun t69 => Out.ok (PyData.list t69)) >>= fun v60 => Out.ok (Ctl.nx (v60, l17))) else (((Out.ok k10 >>= fun t72 => Out.ok (PyData.int 0) >>= fun t73 => idxD t72 t73) >>= fun t74 => Out.ok (PyData.str "loop") >>= fun t75 => eqD t74 t75) >>= fun t70 => if t70 then ((((Out.ok k10 >>= fun t77 => Out.ok (PyData.int 2) >>= fun t78 => idxD t77 t78) >>= fun t79 => Out.ok [] >>= fun t80 => Out.ok (t79 :: t80)) >>= fun t81 => Out.ok (PyData.list t81)) >>= fun v76 => (((Out.ok (PyData.list l17) >>= fun t85 => Out.ok (PyData.int 2) >>= fun t86 => idxD t85 t86) >>= fun t90 => ((Out.ok k10 >>= fun t88 => Out.ok (PyData.int 3) >>= fun t89 => idxD t88 t89) >>= fun t87 => lenD t87) >>= fun t91 => addD t90 t91) >>= fun t82 => Out.ok (PyData.int 2) >>= fun t83 => setD l17 t83 t82 >>= fun l84 => Out.ok (Ctl.nx (v76, l84)))) else Out.ok (Ctl.nx (v22, l17)))))) >>= seqC (N1 := PD × List PD) (fun n92 => (((Out.ok n92.1 >>= fun t136 => itemsD t136) >>= fun t96 => forM (fun t98 (n95 : List PD) => Out.ok t98 >>= fun k94 => (((Out.ok k94 >>= fun t100 => Out.ok [] >>= fun t101 => Out.ok (t100 :: t101)) >>= fun t102 => dOnly (app [.d] (m__law_measured n) t102 [])) >>= fun v99 => ((((Out.ok (PyData.list n95) >>= fun t105 => Out.ok (PyData.int 0) >>= fun t106 => idxD t105 t106) >>= fun t109 => (Out.ok v99 >>= fun t107 => Out.ok (PyData.int 0) >>= fun t108 => idxD t107 t108) >>= fun t110 => addD t109 t110) >>= fun t132 => ((((Out.ok (PyData.list n95) >>= fun t112 => Out.ok (PyData.int 1) >>= fun t113 => idxD t112 t113) >>= fun t120 => ((Out.ok (PyData.int 1) >>= fun t116 => (Out.ok v99 >>= fun t114 => Out.ok (PyData.int 1) >>= fun t115 => idxD t114 t115) >>= fun t117 => addD t116 t117) >>= fun t118 => Out.ok [] >>= fun t119 => Out.ok (t118 :: t119)) >>= fun t121 => Out.ok (t120 :: t121)) >>= fun t111 => maxA t111) >>= fun t130 => (((Out.ok (PyData.list n95) >>= fun t122 => Out.ok (PyData.int 2) >>= fun t123 => idxD t122 t123) >>= fun t126 => (Out.ok v99 >>= fun t124 => Out.ok (PyData.int 2) >>= fun t125 => idxD t124 t125) >>= fun t127 => addD t126 t127) >>= fun t128 => Out.ok [] >>= fun t129 => Out.ok (t128 :: t129)) >>= fun t131 => Out.ok (t130 :: t131)) >>= fun t133 => Out.ok (t132 :: t133)) >>= fun l104 => Out.ok (Ctl.nx (l104))))) t96 (n92.2) >>= fun t97 => Out.ok (dnC t97)) >>= seqC (N1 := List PD) (fun n134 => Out.ok (Ctl.nx (n134))))))))) t12 (l2) >>= fun t13 => Out.ok (dnC t13)) >>= seqC (N1 := List PD) (fun n137 => (Out.ok (PyData.list n137) >>= fun t138 => Out.ok (Ctl.rt (t138, [])))))) : Out (Ctl Empty (PD × List CO) Empty)) >>= finE)
def m_count_pieces : Nat → PD → Out (PD × List CO)
  | 0, _ => .bad
  | n + 1, x_pieces => (((Out.ok (PyData.int 0) >>= fun v1 => (((Out.ok x_pieces >>= fun t47 => itemsD t47) >>= fun t5 => forM (fun t7 (n4 : PD) => Out.ok t7 >>= fun k3 => (Out.ok (PyData.int 1) >>= fun t8 => iaddD n4 t8 >>= fun v9 => (((Out.ok k3 >>= fun t12 => Out.ok (PyData.int 0) >>= fun t13 => idxD t12 t13) >>= fun t14 => Out.ok (PyData.str "choice") >>= fun t15 => eqD t14 t15) >>= fun t10 => if t10 then (((((Out.ok k3 >>= fun t16 => Out.ok (PyData.int 3) >>= fun t17 => idxD t16 t17) >>= fun t18 => Out.ok [] >>= fun t19 => Out.ok (t18 :: t19)) >>= fun t20 => dOnly (app [.d] (m_count_pieces n) t20 [])) >>= fun t26 => (((Out.ok k3 >>= fun t21 => Out.ok (PyData.int 4) >>= fun t22 => idxD t21 t22) >>= fun t23 => Out.ok [] >>= fun t24 => Out.ok (t23 :: t24)) >>= fun t25 => dOnly (app [.d] (m_count_pieces n) t25 [])) >>= fun t27 => addD t26 t27) >>= fun t28 => iaddD v9 t28 >>= fun v29 => Out.ok (Ctl.nx (v29))) else (((Out.ok k3 >>= fun t32 => Out.ok (PyData.int 0) >>= fun t33 => idxD t32 t33) >>= fun t34 => Out.ok (PyData.str "loop") >>= fun t35 => eqD t34 t35) >>= fun t30 => if t30 then ((((Out.ok k3 >>= fun t36 => Out.ok (PyData.int 2) >>= fun t37 => idxD t36 t37) >>= fun t38 => Out.ok [] >>= fun t39 => Out.ok (t38 :: t39)) >>= fun t40 => dOnly (app [.d] (m_count_pieces n) t40 [])) >>= fun t41 => iaddD v9 t41 >>= fun v42 => Out.ok (Ctl.nx (v42))) else Out.ok (Ctl.nx (v9)))))) t5 (v1) >>= fun t6 => Out.ok (dnC t6)) >>= seqC (N1 := PD) (fun n43 => (Out.ok n43 >>= fun t44 => Out.ok (Ctl.rt (t44, [])))))) : Out (Ctl Empty (PD × List CO) Empty)) >>= finE)
def m_depth_of : Nat → PD → Out (PD × List CO)
  | 0, _ => .bad
  | n + 1, x_pieces => (((Out.ok (PyData.int 1) >>= fun v1 => (((Out.ok x_pieces >>= fun t59 => itemsD t59) >>= fun t5 => forM (fun t7 (n4 : PD) => Out.ok t7 >>= fun k3 => (((Out.ok k3 >>= fun t10 => Out.ok (PyData.int 0) >>= fun t11 => idxD t10 t11) >>= fun t12 => Out.ok (PyData.str "choice") >>= fun t13 => eqD t12 t13) >>= fun t8 => if t8 then (((Out.ok n4 >>= fun t34 => ((Out.ok (PyData.int 1) >>= fun t21 => (((Out.ok k3 >>= fun t16 => Out.ok (PyData.int 3) >>= fun t17 => idxD t16 t17) >>= fun t18 => Out.ok [] >>= fun t19 => Out.ok (t18 :: t19)) >>= fun t20 => dOnly (app [.d] (m_depth_of n) t20 [])) >>= fun t22 => addD t21 t22) >>= fun t32 => ((Out.ok (PyData.int 1) >>= fun t28 => (((Out.ok k3 >>= fun t23 => Out.ok (PyData.int 4) >>= fun t24 => idxD t23 t24) >>= fun t25 => Out.ok [] >>= fun t26 => Out.ok (t25 :: t26)) >>= fun t27 => dOnly (app [.d] (m_depth_of n) t27 [])) >>= fun t29 => addD t28 t29) >>= fun t30 => Out.ok [] >>= fun t31 => Out.ok (t30 :: t31)) >>= fun t33 => Out.ok (t32 :: t33)) >>= fun t35 => Out.ok (t34 :: t35)) >>= fun t15 => maxA3 t15) >>= fun v14 => Out.ok (Ctl.nx (v14))) else (((Out.ok k3 >>= fun t38 => Out.ok (PyData.int 0) >>= fun t39 => idxD t38 t39) >>= fun t40 => Out.ok (PyData.str "loop") >>= fun t41 => eqD t40 t41) >>= fun t36 => if t36 then (((Out.ok n4 >>= fun t53 => ((Out.ok (PyData.int 1) >>= fun t49 => (((Out.ok k3 >>= fun t44 => Out.ok (PyData.int 2) >>= fun t45 => idxD t44 t45) >>= fun t46 => Out.ok [] >>= fun t47 => Out.ok (t46 :: t47)) >>= fun t48 => dOnly (app [.d] (m_depth_of n) t48 [])) >>= fun t50 => addD t49 t50) >>= fun t51 => Out.ok [] >>= fun t52 => Out.ok (t51 :: t52)) >>= fun t54 => Out.ok (t53 :: t54)) >>= fun t43 => maxA t43) >>= fun v42 => Out.ok (Ctl.nx (v42))) else Out.ok (Ctl.nx (n4))))) t5 (v1) >>= fun t6 => Out.ok (dnC t6)) >>= seqC (N1 := PD) (fun n55 => (Out.ok n55 >>= fun t56 => Out.ok (Ctl.rt (t56, [])))))) : Out (Ctl Empty (PD × List CO) Empty)) >>= finE)
def m_count_letters : Nat → PD → Out (PD × List CO)
  | 0, _ => .bad
  | n + 1, x_pieces => (((Out.ok (PyData.int 0) >>= fun v1 => (((Out.ok x_pieces >>= fun t69 => itemsD t69) >>= fun t5 => forM (fun t7 (n4 : PD) => Out.ok t7 >>= fun k3 => (((Out.ok k3 >>= fun t10 => Out.ok (PyData.int 0) >>= fun t11 => idxD t10 t11) >>= fun t12 => Out.ok (PyData.str "text") >>= fun t13 => eqD t12 t13) >>= fun t8 => if t8 then (((Out.ok k3 >>= fun t15 => Out.ok (PyData.int 1) >>= fun t16 => idxD t15 t16) >>= fun t14 => lenD t14) >>= fun t17 => iaddD n4 t17 >>= fun v18 => Out.ok (Ctl.nx (v18))) else (((Out.ok k3 >>= fun t21 => Out.ok (PyData.int 0) >>= fun t22 => idxD t21 t22) >>= fun t23 => Out.ok (PyData.str "hole") >>= fun t24 => eqD t23 t24) >>= fun t19 => if t19 then (Out.ok c_HOLE_LETTERS >>= fun t25 => iaddD n4 t25 >>= fun v26 => Out.ok (Ctl.nx (v26))) else (((Out.ok k3 >>= fun t29 => Out.ok (PyData.int 0) >>= fun t30 => idxD t29 t30) >>= fun t31 => Out.ok (PyData.str "choice") >>= fun t32 => eqD t31 t32) >>= fun t27 => if t27 then (((((Out.ok k3 >>= fun t33 => Out.ok (PyData.int 3) >>= fun t34 => idxD t33 t34) >>= fun t35 => Out.ok [] >>= fun t36 => Out.ok (t35 :: t36)) >>= fun t37 => dOnly (app [.d] (m_count_letters n) t37 [])) >>= fun t43 => (((Out.ok k3 >>= fun t38 => Out.ok (PyData.int 4) >>= fun t39 => idxD t38 t39) >>= fun t40 => Out.ok [] >>= fun t41 => Out.ok (t40 :: t41)) >>= fun t42 => dOnly (app [.d] (m_count_letters n) t42 [])) >>= fun t44 => addD t43 t44) >>= fun t45 => iaddD n4 t45 >>= fun v46 => Out.ok (Ctl.nx (v46))) else (((Out.ok k3 >>= fun t49 => Out.ok (PyData.int 0) >>= fun t50 => idxD t49 t50) >>= fun t51 => Out.ok (PyData.str "loop") >>= fun t52 => eqD t51 t52) >>= fun t47 => if t47 then ((((Out.ok k3 >>= fun t54 => Out.ok (PyData.int 3) >>= fun t55 => idxD t54 t55) >>= fun t53 => lenD t53) >>= fun t61 => (((Out.ok k3 >>= fun t56 => Out.ok (PyData.int 2) >>= fun t57 => idxD t56 t57) >>= fun t58 => Out.ok [] >>= fun t59 => Out.ok (t58 :: t59)) >>= fun t60 => dOnly (app [.d] (m_count_letters n) t60 [])) >>= fun t62 => addD t61 t62) >>= fun t63 => iaddD n4 t63 >>= fun v64 => Out.ok (Ctl.nx (v64))) else Out.ok (Ctl.nx (n4))))))) t5 (v1) >>= fun t6 => Out.ok (dnC t6)) >>= seqC (N1 := PD) (fun n65 => (Out.ok n65 >>= fun t66 => Out.ok (Ctl.rt (t66, [])))))) : Out (Ctl Empty (PD × List CO) Empty)) >>= finE)
def m__law_sizes_meet : PD → Out (PD × List CO) := fun x_pieces => (((((Out.ok x_pieces >>= fun t2 => Out.ok [] >>= fun t3 => Out.ok (t2 :: t3)) >>= fun t4 => dOnly (app [.d] (m__law_measured 40) t4 [])) >>= fun v1 => (((((Out.ok x_pieces >>= fun t6 => Out.ok [] >>= fun t7 => Out.ok (t6 :: t7)) >>= fun t8 => dOnly (app [.d] (m_count_pieces 40) t8 [])) >>= fun t19 => (((Out.ok x_pieces >>= fun t9 => Out.ok [] >>= fun t10 => Out.ok (t9 :: t10)) >>= fun t11 => dOnly (app [.d] (m_depth_of 40) t11 [])) >>= fun t17 => (((Out.ok x_pieces >>= fun t12 => Out.ok [] >>= fun t13 => Out.ok (t12 :: t13)) >>= fun t14 => dOnly (app [.d] (m_count_letters 40) t14 [])) >>= fun t15 => Out.ok [] >>= fun t16 => Out.ok (t15 :: t16)) >>= fun t18 => Out.ok (t17 :: t18)) >>= fun t20 => Out.ok (t19 :: t20)) >>= fun t21 => Out.ok (PyData.list t21)) >>= fun v5 => (((Out.ok (PyData.int 3) >>= fun t50 => rangeD (PyData.int 0) t50) >>= fun t25 => forM (fun t27 (n24 : Unit) => Out.ok t27 >>= fun k23 => (((((((Out.ok v5 >>= fun t30 => Out.ok k23 >>= fun t31 => idxD t30 t31) >>= fun t32 => Out.ok [] >>= fun t33 => Out.ok (t32 :: t33)) >>= fun t34 => dOnly (app [.d] m__law_is_integer t34 [])) >>= fun t35 => truthD t35) >>= fun t36 => Out.ok (!t36)) >>= fun t43 => if t43 then Out.ok true else ((Out.ok v5 >>= fun t37 => Out.ok k23 >>= fun t38 => idxD t37 t38) >>= fun t41 => (Out.ok v1 >>= fun t39 => Out.ok k23 >>= fun t40 => idxD t39 t40) >>= fun t42 => neD t41 t42)) >>= fun t28 => if t28 then (Out.ok (PyData.bool false) >>= fun t44 => Out.ok (Ctl.rt (t44, []))) >>= fun t29 => Out.ok (upC t29) else Out.ok (Ctl.nx ()))) t25 () >>= fun t26 => Out.ok (dnC t26)) >>= seqC (N1 := Unit) (fun n46 => (Out.ok (PyData.bool true) >>= fun t47 => Out.ok (Ctl.rt (t47, []))))))) : Out (Ctl Empty (PD × List CO) Empty)) >>= finE)
def m_settle : Nat → PD → Out (PD × List CO)
  | 0, _ => .bad
  | n + 1, x_pieces => (((Out.ok [] >>= fun l2 => (((Out.ok x_pieces >>= fun t109 => itemsD t109) >>= fun t6 => forM (fun t8 (n5 : List PD) => Out.ok t8 >>= fun k4 => (((Out.ok k4 >>= fun t11 => Out.ok (PyData.int 0) >>= fun t12 => idxD t11 t12) >>= fun t13 => Out.ok (PyData.str "choice") >>= fun t14 => eqD t13 t14) >>= fun t9 => if t9 then (((Out.ok (PyData.str "choice") >>= fun t39 => ((Out.ok k4 >>= fun t17 => Out.ok (PyData.int 1) >>= fun t18 => idxD t17 t18) >>= fun t37 => ((Out.ok k4 >>= fun t19 => Out.ok (PyData.int 2) >>= fun t20 => idxD t19 t20) >>= fun t35 => ((((Out.ok k4 >>= fun t21 => Out.ok (PyData.int 3) >>= fun t22 => idxD t21 t22) >>= fun t23 => Out.ok [] >>= fun t24 => Out.ok (t23 :: t24)) >>= fun t25 => dOnly (app [.d] (m_settle n) t25 [])) >>= fun t33 => ((((Out.ok k4 >>= fun t26 => Out.ok (PyData.int 4) >>= fun t27 => idxD t26 t27) >>= fun t28 => Out.ok [] >>= fun t29 => Out.ok (t28 :: t29)) >>= fun t30 => dOnly (app [.d] (m_settle n) t30 [])) >>= fun t31 => Out.ok [] >>= fun t32 => Out.ok (t31 :: t32)) >>= fun t34 => Out.ok (t33 :: t34)) >>= fun t36 => Out.ok (t35 :: t36)) >>= fun t38 => Out.ok (t37 :: t38)) >>= fun t40 => Out.ok (t39 :: t40)) >>= fun t41 => Out.ok (PyData.tuple t41)) >>= fun t15 => appD n5 t15 >>= fun l16 => Out.ok (Ctl.nx (l16))) else (((Out.ok k4 >>= fun t44 => Out.ok (PyData.int 0) >>= fun t45 => idxD t44 t45) >>= fun t46 => Out.ok (PyData.str "loop") >>= fun t47 => eqD t46 t47) >>= fun t42 => if t42 then (((Out.ok (PyData.str "loop") >>= fun t65 => ((Out.ok k4 >>= fun t50 => Out.ok (PyData.int 1) >>= fun t51 => idxD t50 t51) >>= fun t63 => ((((Out.ok k4 >>= fun t52 => Out.ok (PyData.int 2) >>= fun t53 => idxD t52 t53) >>= fun t54 => Out.ok [] >>= fun t55 => Out.ok (t54 :: t55)) >>= fun t56 => dOnly (app [.d] (m_settle n) t56 [])) >>= fun t61 => ((Out.ok k4 >>= fun t57 => Out.ok (PyData.int 3) >>= fun t58 => idxD t57 t58) >>= fun t59 => Out.ok [] >>= fun t60 => Out.ok (t59 :: t60)) >>= fun t62 => Out.ok (t61 :: t62)) >>= fun t64 => Out.ok (t63 :: t64)) >>= fun t66 => Out.ok (t65 :: t66)) >>= fun t67 => Out.ok (PyData.tuple t67)) >>= fun t48 => appD n5 t48 >>= fun l49 => Out.ok (Ctl.nx (l49))) else ((((Out.ok k4 >>= fun t70 => Out.ok (PyData.int 0) >>= fun t71 => idxD t70 t71) >>= fun t72 => Out.ok (PyData.str "text") >>= fun t73 => eqD t72 t73) >>= fun t83 => if t83 then ((Out.ok (PyData.list n5) >>= fun t74 => truthD t74) >>= fun t82 => if t82 then (((Out.ok (PyData.list n5) >>= fun t76 => (Out.ok (PyData.int 1) >>= fun t75 => negD t75) >>= fun t77 => idxD t76 t77) >>= fun t78 => Out.ok (PyData.int 0) >>= fun t79 => idxD t78 t79) >>= fun t80 => Out.ok (PyData.str "text") >>= fun t81 => eqD t80 t81) else Out.ok false) else Out.ok false) >>= fun t68 => if t68 then (((Out.ok (PyData.str "text") >>= fun t98 => ((((Out.ok (PyData.list n5) >>= fun t88 => (Out.ok (PyData.int 1) >>= fun t87 => negD t87) >>= fun t89 => idxD t88 t89) >>= fun t90 => Out.ok (PyData.int 1) >>= fun t91 => idxD t90 t91) >>= fun t94 => (Out.ok k4 >>= fun t92 => Out.ok (PyData.int 1) >>= fun t93 => idxD t92 t93) >>= fun t95 => addD t94 t95) >>= fun t96 => Out.ok [] >>= fun t97 => Out.ok (t96 :: t97)) >>= fun t99 => Out.ok (t98 :: t99)) >>= fun t100 => Out.ok (PyData.tuple t100)) >>= fun t84 => (Out.ok (PyData.int 1) >>= fun t101 => negD t101) >>= fun t85 => setD n5 t85 t84 >>= fun l86 => Out.ok (Ctl.nx (l86))) else (Out.ok k4 >>= fun t102 => appD n5 t102 >>= fun l103 => Out.ok (Ctl.nx (l103))))))) t6 (l2) >>= fun t7 => Out.ok (dnC t7)) >>= seqC (N1 := List PD) (fun n104 => ((Out.ok (PyData.list n104) >>= fun t106 => tupleD t106) >>= fun t105 => Out.ok (Ctl.rt (t105, [])))))) : Out (Ctl Empty (PD × List CO) Empty)) >>= finE)
def m_law : PD → Out (PD × List CO) := fun x_script => (((((((Out.ok x_script >>= fun t6 => (Out.ok (PyData.int 0) >>= fun t4 => Out.ok [] >>= fun t5 => Out.ok (t4 :: t5)) >>= fun t7 => Out.ok (t6 :: t7)) >>= fun t8 => dOnly (app [.d, .d] m__law_pool t8 [])) >>= fun t9 => Out.ok (t9, [])) >>= fun t12 => (unn ((Out.ok (PyData.int 40) >>= fun t10 => Out.ok ([], []) >>= fun t11 => Out.ok (t10 :: t11.1, t11.2)))) t12.2 >>= fun t3 => callC [] t3.2 fun t13 => app [.c, .d] m__law_shape t3.1 (CO.l t12.1 :: t13) >>= fun t14 => Out.ok (t14.1, t14.2.tail)) >>= fun t2 => (fun v1 => (unn ((((Out.ok x_script >>= fun t19 => (Out.ok (PyData.int 1) >>= fun t17 => Out.ok [] >>= fun t18 => Out.ok (t17 :: t18)) >>= fun t20 => Out.ok (t19 :: t20)) >>= fun t21 => dOnly (app [.d, .d] m__law_pool t21 [])) >>= fun l16 => ((((Out.ok (PyData.int 4) >>= fun t24 => rangeD (PyData.int 0) t24) >>= fun t25 => Out.ok (t25, [CO.l l16])) >>= fun t49 => lineD t49.1 >>= fun t51 => compX (fun t46 t50 => Out.ok t46 >>= fun k26 => (fun cs => Out.ok (true, cs)) t50 >>= fun t47 => if t47.1 then (unl fun p27 => (unn (((Out.ok (PyData.str "abc") >>= fun t31 => (((Out.ok (PyData.int 1) >>= fun t35 => Out.ok (t35, [CO.l p27])) >>= fun t42 => (unl fun p36 => (unn (((Out.ok (PyData.int 3) >>= fun t40 => Out.ok ([], [CO.l p36]) >>= fun t41 => Out.ok (t40 :: t41.1, t41.2)) >>= fun t37 => callC [0] t37.2 (app [.c, .d] m__law_draw t37.1))))) t42.2 >>= fun t43 => addD t42.1 t43.1 >>= fun t44 => Out.ok (t44, t43.2)) >>= fun t33 => (unl fun p45 => (unn (Out.ok ([], [CO.l p45])))) t33.2 >>= fun t34 => Out.ok (t33.1 :: t34.1, t34.2)) >>= fun t32 => Out.ok (t31 :: t32.1, t32.2)) >>= fun t28 => callC [0] t28.2 (app [.c, .d, .d] m__law_text t28.1))))) t47.2 >>= fun t48 => Out.ok (some t48.1, t48.2) else Out.ok (none, t47.2)) t51 t49.2) >>= fun t23 => (fun v22 => (unl fun p52 => (unn ((((Out.ok (PyData.int 40) >>= fun t55 => Out.ok (t55, [CO.l p52])) >>= fun t68 => (unl fun p56 => (unn (((Out.ok (PyData.int 9) >>= fun t57 => Out.ok (t57, [CO.l p56])) >>= fun t66 => (unl fun p58 => (unn (((Out.ok ([], [CO.l p58]) >>= fun t59 => callC [0] t59.2 (app [.c] m__law_alphabet t59.1)) >>= fun t64 => (unl fun p62 => (unn ((Out.ok [] >>= fun t63 => Out.ok (t63, [CO.l p62]))))) t64.2 >>= fun t65 => Out.ok (t64.1 :: t65.1, t65.2))))) t66.2 >>= fun t67 => Out.ok (t66.1 :: t67.1, t67.2))))) t68.2 >>= fun t69 => Out.ok (t68.1 :: t69.1, t69.2)) >>= fun t70 => (fun l54 => (unl fun p71 => (unn ((Out.ok (PyData.int 5) >>= fun v72 => (((((Out.ok (PyData.int 4) >>= fun t79 => Out.ok ([], [CO.l l54, CO.l p71]) >>= fun t80 => Out.ok (t79 :: t80.1, t80.2)) >>= fun t76 => callC [1] t76.2 (app [.c, .d] m__law_draw t76.1)) >>= fun t84 => (unl fun p81 => (unl fun p82 => (unn ((Out.ok (PyData.int 1) >>= fun t83 => Out.ok (t83, [CO.l p81, CO.l p82])))))) t84.2 >>= fun t85 => eqD t84.1 t85.1 >>= fun t86 => Out.ok (t86, t85.2)) >>= fun t73 => if t73.1 then (unl fun p87 => (unl fun p88 => (unn ((((Out.ok (PyData.int 100) >>= fun t91 => Out.ok (t91, [CO.l p87, CO.l p88])) >>= fun t107 => (unl fun p92 => (unl fun p93 => (unn (((Out.ok (PyData.int 12) >>= fun t94 => Out.ok (t94, [CO.l p92, CO.l p93])) >>= fun t105 => (unl fun p95 => (unl fun p96 => (unn (((Out.ok ([], [CO.l p95, CO.l p96]) >>= fun t97 => callC [1] t97.2 (app [.c] m__law_alphabet t97.1)) >>= fun t103 => (unl fun p100 => (unl fun p101 => (unn ((Out.ok [] >>= fun t102 => Out.ok (t102, [CO.l p100, CO.l p101])))))) t103.2 >>= fun t104 => Out.ok (t103.1 :: t104.1, t104.2)))))) t105.2 >>= fun t106 => Out.ok (t105.1 :: t106.1, t106.2)))))) t107.2 >>= fun t108 => Out.ok (t107.1 :: t108.1, t108.2)) >>= fun t109 => (fun l90 => (unl fun p110 => (unl fun p111 => (unn ((Out.ok (PyData.int 8) >>= fun v112 => Out.ok (Ctl.nx (v112, [CO.l l90, CO.l p111])))))))) t109.1 t109.2))))) t73.2 else (unl fun p113 => (unl fun p114 => (unn (Out.ok (Ctl.nx (v72, [CO.l p113, CO.l p114])))))) t73.2) >>= seqC (N1 := PD × List CO) (fun n115 => ((unl fun p116 => (unl fun p117 => (unn (((((Out.ok v1 >>= fun t123 => ((Out.ok v1 >>= fun t127 => Out.ok (PyData.int 0) >>= fun t128 => idxD t127 t128) >>= fun t125 => (Out.ok (PyData.int 0) >>= fun t129 => (Out.ok n115.1 >>= fun t133 => (Out.ok v22 >>= fun t135 => Out.ok ([], [CO.l p116, CO.l p117]) >>= fun t136 => Out.ok (t135 :: t136.1, t136.2)) >>= fun t134 => Out.ok (t133 :: t134.1, t134.2)) >>= fun t130 => Out.ok (t129 :: t130.1, t130.2)) >>= fun t126 => Out.ok (t125 :: t126.1, t126.2)) >>= fun t124 => Out.ok (t123 :: t124.1, t124.2)) >>= fun t120 => callC [1, 0] t120.2 (app [.c, .d, .d, .d, .c, .d, .d] (m__law_pieces 40) t120.1)) >>= fun t140 => (unl fun p137 => (unl fun p138 => (unn ((Out.ok (PyData.int 0) >>= fun t139 => Out.ok (t139, [CO.l p137, CO.l p138])))))) t140.2 >>= fun t141 => idxD t140.1 t141.1 >>= fun t142 => Out.ok (t142, t141.2)) >>= fun t119 => (fun v118 => (unl fun p143 => (unl fun p144 => (unn ((((((Out.ok x_script >>= fun t150 => (Out.ok (PyData.int 2) >>= fun t148 => Out.ok [] >>= fun t149 => Out.ok (t148 :: t149)) >>= fun t151 => Out.ok (t150 :: t151)) >>= fun t152 => dOnly (app [.d, .d] m__law_pool t152 [])) >>= fun t153 => Out.ok (t153, [CO.l p143, CO.l p144])) >>= fun t158 => (unl fun p154 => (unl fun p155 => (unn ((Out.ok v118 >>= fun t156 => Out.ok ([], [CO.l p154, CO.l p155]) >>= fun t157 => Out.ok (t156 :: t157.1, t157.2)))))) t158.2 >>= fun t147 => callC [] t147.2 fun t159 => app [.c, .d] (m__law_loosened 40) t147.1 (CO.l t158.1 :: t159) >>= fun t160 => Out.ok (t160.1, t160.2.tail)) >>= fun t146 => (fun v145 => (unl fun p161 => (unl fun p162 => (unn (((((((Out.ok v118 >>= fun t165 => Out.ok [] >>= fun t166 => Out.ok (t165 :: t166)) >>= fun t167 => dOnly (app [.d] m__law_sizes_meet t167 [])) >>= fun t168 => truthD t168) >>= fun t169 => Out.ok (!t169)) >>= fun t175 => if t175 then Out.ok true else ((((Out.ok v145 >>= fun t170 => Out.ok [] >>= fun t171 => Out.ok (t170 :: t171)) >>= fun t172 => dOnly (app [.d] m__law_sizes_meet t172 [])) >>= fun t173 => truthD t173) >>= fun t174 => Out.ok (!t174))) >>= fun t163 => if t163 then (Out.ok (PyData.bool false) >>= fun t176 => Out.ok (Ctl.rt (t176, []))) >>= fun t164 => Out.ok (upC t164) else ((((((((Out.ok v145 >>= fun t180 => Out.ok [] >>= fun t181 => Out.ok (t180 :: t181)) >>= fun t182 => dOnly (app [.d] (m_settle 40) t182 [])) >>= fun t185 => (Out.ok v118 >>= fun t183 => Out.ok [] >>= fun t184 => Out.ok (t183 :: t184)) >>= fun t186 => Out.ok (t185 :: t186)) >>= fun t187 => dOnly (app [.d, .d] (m__law_same 40) t187 [])) >>= fun t188 => truthD t188) >>= fun t189 => Out.ok (!t189)) >>= fun t200 => if t200 then Out.ok true else ((((((Out.ok v118 >>= fun t190 => Out.ok [] >>= fun t191 => Out.ok (t190 :: t191)) >>= fun t192 => dOnly (app [.d] (m_settle 40) t192 [])) >>= fun t195 => (Out.ok v118 >>= fun t193 => Out.ok [] >>= fun t194 => Out.ok (t193 :: t194)) >>= fun t196 => Out.ok (t195 :: t196)) >>= fun t197 => dOnly (app [.d, .d] (m__law_same 40) t197 [])) >>= fun t198 => truthD t198) >>= fun t199 => Out.ok (!t199))) >>= fun t178 => if t178 then (Out.ok (PyData.bool false) >>= fun t201 => Out.ok (Ctl.rt (t201, []))) >>= fun t179 => Out.ok (upC t179) else (((((Out.ok v118 >>= fun t204 => Out.ok [] >>= fun t205 => Out.ok (t204 :: t205)) >>= fun t206 => dOnly (app [.d] (m__law_made 40) t206 [])) >>= fun t209 => (Out.ok v118 >>= fun t207 => Out.ok [] >>= fun t208 => Out.ok (t207 :: t208)) >>= fun t210 => Out.ok (t209 :: t210)) >>= fun t211 => dOnly (app [.d, .d] (m__law_same 40) t211 [])) >>= fun t203 => Out.ok (Ctl.rt (t203, [])))))))))) t146.1 t146.2)))))) t119.1 t119.2))))) n115.2)))))))) t70.1 t70.2))))) (PyData.list t23.1) t23.2))))) t2.1 t2.2) : Out (Ctl Empty (PD × List CO) Empty)) >>= finE)
@[simp] theorem ap_n {τ : Type} {f : Out τ}  : app (τ := τ) [] f [] [] = f  := rfl
@[simp] theorem ap_c {τ : Type} {f : List PD → Out τ} {x0 : List PD} : app (τ := τ) [AK.c] f [] [CO.l x0] = f x0 := rfl
@[simp] theorem ap_cc {τ : Type} {f : List PD → List PD → Out τ} {x0 : List PD} {x1 : List PD} : app (τ := τ) [AK.c, AK.c] f [] [CO.l x0, CO.l x1] = f x0 x1 := rfl
@[simp] theorem ap_cd {τ : Type} {f : List PD → PD → Out τ} {x0 : List PD} {x1 : PD} : app (τ := τ) [AK.c, AK.d] f [x1] [CO.l x0] = f x0 x1 := rfl
@[simp] theorem ap_cdd {τ : Type} {f : List PD → PD → PD → Out τ} {x0 : List PD} {x1 : PD} {x2 : PD} : app (τ := τ) [AK.c, AK.d, AK.d] f [x1, x2] [CO.l x0] = f x0 x1 x2 := rfl
@[simp] theorem ap_cdddcdd {τ : Type} {f : List PD → PD → PD → PD → List PD → PD → PD → Out τ} {x0 : List PD} {x1 : PD} {x2 : PD} {x3 : PD} {x4 : List PD} {x5 : PD} {x6 : PD} : app (τ := τ) [AK.c, AK.d, AK.d, AK.d, AK.c, AK.d, AK.d] f [x1, x2, x3, x5, x6] [CO.l x0, CO.l x4] = f x0 x1 x2 x3 x4 x5 x6 := rfl
@[simp] theorem ap_d {τ : Type} {f : PD → Out τ} {x0 : PD} : app (τ := τ) [AK.d] f [x0] [] = f x0 := rfl
@[simp] theorem ap_dd {τ : Type} {f : PD → PD → Out τ} {x0 : PD} {x1 : PD} : app (τ := τ) [AK.d, AK.d] f [x0, x1] [] = f x0 x1 := rfl
@[simp] theorem ap_ddd {τ : Type} {f : PD → PD → PD → Out τ} {x0 : PD} {x1 : PD} {x2 : PD} : app (τ := τ) [AK.d, AK.d, AK.d] f [x0, x1, x2] [] = f x0 x1 x2 := rfl
@[simp] theorem ap_dddd {τ : Type} {f : PD → PD → PD → PD → Out τ} {x0 : PD} {x1 : PD} {x2 : PD} {x3 : PD} : app (τ := τ) [AK.d, AK.d, AK.d, AK.d] f [x0, x1, x2, x3] [] = f x0 x1 x2 x3 := rfl
theorem APs : (∀ {τ : Type} {f : Out τ} , app (τ := τ) [] f [] [] = f) ∧ (∀ {τ : Type} {f : List PD → Out τ} {x0 : List PD}, app (τ := τ) [AK.c] f [] [CO.l x0] = f x0) ∧ (∀ {τ : Type} {f : List PD → List PD → Out τ} {x0 : List PD} {x1 : List PD}, app (τ := τ) [AK.c, AK.c] f [] [CO.l x0, CO.l x1] = f x0 x1) ∧ (∀ {τ : Type} {f : List PD → PD → Out τ} {x0 : List PD} {x1 : PD}, app (τ := τ) [AK.c, AK.d] f [x1] [CO.l x0] = f x0 x1) ∧ (∀ {τ : Type} {f : List PD → PD → PD → Out τ} {x0 : List PD} {x1 : PD} {x2 : PD}, app (τ := τ) [AK.c, AK.d, AK.d] f [x1, x2] [CO.l x0] = f x0 x1 x2) ∧ (∀ {τ : Type} {f : List PD → PD → PD → PD → List PD → PD → PD → Out τ} {x0 : List PD} {x1 : PD} {x2 : PD} {x3 : PD} {x4 : List PD} {x5 : PD} {x6 : PD}, app (τ := τ) [AK.c, AK.d, AK.d, AK.d, AK.c, AK.d, AK.d] f [x1, x2, x3, x5, x6] [CO.l x0, CO.l x4] = f x0 x1 x2 x3 x4 x5 x6) ∧ (∀ {τ : Type} {f : PD → Out τ} {x0 : PD}, app (τ := τ) [AK.d] f [x0] [] = f x0) ∧ (∀ {τ : Type} {f : PD → PD → Out τ} {x0 : PD} {x1 : PD}, app (τ := τ) [AK.d, AK.d] f [x0, x1] [] = f x0 x1) ∧ (∀ {τ : Type} {f : PD → PD → PD → Out τ} {x0 : PD} {x1 : PD} {x2 : PD}, app (τ := τ) [AK.d, AK.d, AK.d] f [x0, x1, x2] [] = f x0 x1 x2) ∧ (∀ {τ : Type} {f : PD → PD → PD → PD → Out τ} {x0 : PD} {x1 : PD} {x2 : PD} {x3 : PD}, app (τ := τ) [AK.d, AK.d, AK.d, AK.d] f [x0, x1, x2, x3] [] = f x0 x1 x2 x3) := ⟨rfl, rfl, rfl, rfl, rfl, rfl, rfl, rfl, rfl, rfl⟩
theorem CCs : (∀ {β : Type} {f : List CO → Out (β × List CO)}, callC [] [] f = (f [] >>= fun r => Out.ok (r.1, putC [] r.2 []))) ∧ (∀ {_u : Unit}, putC [] [] [] = []) ∧ (∀ {β : Type} {c0 c1 : CO} {f : List CO → Out (β × List CO)}, callC [] [c0, c1] f = (f [] >>= fun r => Out.ok (r.1, putC [] r.2 [c0, c1]))) ∧ (∀ {c0 c1 : CO} {_u : Unit}, putC [] [] [c0, c1] = [c0, c1]) ∧ (∀ {β : Type} {c0 : CO} {f : List CO → Out (β × List CO)}, callC [0] [c0] f = (f [c0] >>= fun r => Out.ok (r.1, putC [0] r.2 [c0]))) ∧ (∀ {c0 : CO} {d0 : CO}, putC [0] [d0] [c0] = [d0]) ∧ (∀ {β : Type} {c0 c1 : CO} {f : List CO → Out (β × List CO)}, callC [0] [c0, c1] f = (f [c0] >>= fun r => Out.ok (r.1, putC [0] r.2 [c0, c1]))) ∧ (∀ {c0 c1 : CO} {d0 : CO}, putC [0] [d0] [c0, c1] = [d0, c1]) ∧ (∀ {β : Type} {c0 c1 : CO} {f : List CO → Out (β × List CO)}, callC [0, 1] [c0, c1] f = (f [c0, c1] >>= fun r => Out.ok (r.1, putC [0, 1] r.2 [c0, c1]))) ∧ (∀ {c0 c1 : CO} {d0 d1 : CO}, putC [0, 1] [d0, d1] [c0, c1] = [d0, d1]) ∧ (∀ {β : Type} {c0 c1 : CO} {f : List CO → Out (β × List CO)}, callC [1] [c0, c1] f = (f [c1] >>= fun r => Out.ok (r.1, putC [1] r.2 [c0, c1]))) ∧ (∀ {c0 c1 : CO} {d0 : CO}, putC [1] [d0] [c0, c1] = [c0, d0]) ∧ (∀ {β : Type} {c0 c1 c2 : CO} {f : List CO → Out (β × List CO)}, callC [1] [c0, c1, c2] f = (f [c1] >>= fun r => Out.ok (r.1, putC [1] r.2 [c0, c1, c2]))) ∧ (∀ {c0 c1 c2 : CO} {d0 : CO}, putC [1] [d0] [c0, c1, c2] = [c0, d0, c2]) ∧ (∀ {β : Type} {c0 c1 : CO} {f : List CO → Out (β × List CO)}, callC [1, 0] [c0, c1] f = (f [c1, c0] >>= fun r => Out.ok (r.1, putC [1, 0] r.2 [c0, c1]))) ∧ (∀ {c0 c1 : CO} {d0 d1 : CO}, putC [1, 0] [d0, d1] [c0, c1] = [d1, d0]) ∧ (∀ {β : Type} {c0 c1 c2 : CO} {f : List CO → Out (β × List CO)}, callC [1, 2] [c0, c1, c2] f = (f [c1, c2] >>= fun r => Out.ok (r.1, putC [1, 2] r.2 [c0, c1, c2]))) ∧ (∀ {c0 c1 c2 : CO} {d0 d1 : CO}, putC [1, 2] [d0, d1] [c0, c1, c2] = [c0, d0, d1]) ∧ (∀ {β : Type} {c0 c1 c2 c3 c4 c5 : CO} {f : List CO → Out (β × List CO)}, callC [1, 2] [c0, c1, c2, c3, c4, c5] f = (f [c1, c2] >>= fun r => Out.ok (r.1, putC [1, 2] r.2 [c0, c1, c2, c3, c4, c5]))) ∧ (∀ {c0 c1 c2 c3 c4 c5 : CO} {d0 d1 : CO}, putC [1, 2] [d0, d1] [c0, c1, c2, c3, c4, c5] = [c0, d0, d1, c3, c4, c5]) ∧ (∀ {β : Type} {c0 c1 c2 : CO} {f : List CO → Out (β × List CO)}, callC [2, 1] [c0, c1, c2] f = (f [c2, c1] >>= fun r => Out.ok (r.1, putC [2, 1] r.2 [c0, c1, c2]))) ∧ (∀ {c0 c1 c2 : CO} {d0 d1 : CO}, putC [2, 1] [d0, d1] [c0, c1, c2] = [c0, d1, d0]) ∧ (∀ {β : Type} {c0 c1 c2 c3 c4 c5 : CO} {f : List CO → Out (β × List CO)}, callC [5] [c0, c1, c2, c3, c4, c5] f = (f [c5] >>= fun r => Out.ok (r.1, putC [5] r.2 [c0, c1, c2, c3, c4, c5]))) ∧ (∀ {c0 c1 c2 c3 c4 c5 : CO} {d0 : CO}, putC [5] [d0] [c0, c1, c2, c3, c4, c5] = [c0, c1, c2, c3, c4, d0]) ∧ (∀ {β : Type} {c0 c1 c2 c3 c4 c5 : CO} {f : List CO → Out (β × List CO)}, callC [5, 4] [c0, c1, c2, c3, c4, c5] f = (f [c5, c4] >>= fun r => Out.ok (r.1, putC [5, 4] r.2 [c0, c1, c2, c3, c4, c5]))) ∧ (∀ {c0 c1 c2 c3 c4 c5 : CO} {d0 d1 : CO}, putC [5, 4] [d0, d1] [c0, c1, c2, c3, c4, c5] = [c0, c1, c2, c3, d1, d0]) := ⟨rfl, rfl, rfl, rfl, rfl, rfl, rfl, rfl, rfl, rfl, rfl, rfl, rfl, rfl, rfl, rfl, rfl, rfl, rfl, rfl, rfl, rfl, rfl, rfl, rfl, rfl⟩
end Dd
set_option Elab.async false
set_option linter.all false
set_option maxRecDepth 100000
set_option maxHeartbeats 4000000
namespace Dd
open PySem PySem.Spec PyProof.Rows L2
/-- a drawer -/
def Pool (l : List PD) : Prop := ∃ a b : Int, l = [.int a, .int b] ∧ 0 ≤ a
theorem e18 : powD (.int 10) (.int 18) = .ok (.int 1000000000000000000) := by
  rw [powD_i (by decide)]; rfl
theorem draw_ok {l : List PD} (h : Pool l) {n : Nat} (h0 : 0 < n) (h1 : n < 1073741824) : ∃ (r : Nat) (l' : List PD), m__law_draw l (.int (n : Int)) = .ok (.int (r : Int), [.l l']) ∧ r < n ∧ Pool l' := by
  obtain ⟨a, b, rfl, ha⟩ := h
  have fm : ∀ x : Int, ∃ r : Nat, x.fmod (n : Int) = (r : Int) ∧ r < n := fun x => by
    have h2 : 0 ≤ x.fmod (n : Int) := Int.fmod_nonneg_of_pos _ (by omega)
    have h3 : x.fmod (n : Int) < n := Int.fmod_lt_of_pos _ (by omega)
    exact ⟨(x.fmod n).toNat, by omega, by omega⟩
  have mm : ∀ (x y : Int), -(2 ^ 64) < y → y < 2 ^ 64 → mulD (.int x) (.int y) = .ok (.int (x * y)) := fun x y h1 h2 => mulD_i (.inr ⟨h1, h2⟩)
  by_cases hc : 1000000000000000000 ≤ a
  · have hd : ∀ x : Int, fdivD (.int x) (.int (n : Int)) = .ok (.int (x.fdiv n)) := fun x => fdivD_i ⟨by omega, by omega⟩
    have hm : ∀ x : Int, modD (.int x) (.int (n : Int)) = .ok (.int (x.fmod n)) := fun x => modD_i (by omega)
    obtain ⟨r, e1, e2⟩ := fm (a - 1000000000000000000)
    refine ⟨r, _, ?_, e2, 1000000000000000000 + (a - 1000000000000000000).fdiv n, b, rfl, ?_⟩
    · simp only [m__law_draw, ok_bind, idxD_l0, idxD_l1, e18, geD_i, hc, decide_true, if_true, subD_i, hd, addD_i, setD_0, intD_i, hm, upC_rt, finE_rt, e1]
    · have : 0 ≤ (a - 1000000000000000000).fdiv n := Int.fdiv_nonneg (by omega) (by omega)
      omega
  · have m1 : ∀ (x : Int) (k : Int), 0 < k → k < 2147483648 → ∃ y : Int, modD (.int x) (.int k) = .ok (.int y) ∧ 0 ≤ y ∧ y < k := fun x k h1 h2 => ⟨_, modD_i (by omega), Int.fmod_nonneg_of_pos _ h1, Int.fmod_lt_of_pos _ h1⟩
    have hm : ∀ x : Int, modD (.int x) (.int (n : Int)) = .ok (.int (x.fmod n)) := fun x => modD_i (by omega)
    obtain ⟨y1, f1, g1, g1'⟩ := m1 (a * 48271 + (b + 1) * 69621) 2147483647 (by decide) (by decide)
    obtain ⟨y2, f2, g2, g2'⟩ := m1 (y1 * y1 + (b + 1) * 40692) 2147483399 (by decide) (by decide)
    obtain ⟨y3, f3, g3, g3'⟩ := m1 (y2 * y2 + a) 2147483629 (by decide) (by decide)
    have hd : fdivD (.int y3) (.int 16) = .ok (.int (y3.fdiv 16)) := fdivD_i ⟨by decide, by decide⟩
    obtain ⟨r, e1, e2⟩ := fm (y3.fdiv 16)
    refine ⟨r, _, ?_, e2, a, b + 1, rfl, ha⟩
    simp only [m__law_draw, ok_bind, idxD_l0, idxD_l1, e18, geD_i, hc, decide_false, if_false, subD_i, addD_i, setD_0, setD_1, intD_i, hm, upC_rt, finE_rt, mm a 48271 (by decide) (by decide), mm (b + 1) 69621 (by decide) (by decide), mm (b + 1) 40692 (by decide) (by decide), f1, mm y1 y1 (by omega) (by omega), f2, mm y2 y2 (by omega) (by omega), f3, hd, e1, Bool.false_eq_true]

theorem draw_Ok {l : List PD} (h : Pool l) {n : Nat} (h0 : 0 < n) (h1 : n < 1073741824) : Ok (m__law_draw l (.int (n : Int))) fun r => ∃ (k : Nat) (l' : List PD), r = (.int (k : Int), [.l l']) ∧ k < n ∧ Pool l' := by
  obtain ⟨r, l', e, hb, hp⟩ := draw_ok h h0 h1
  exact ⟨_, e, r, l', rfl, hb, hp⟩
theorem text_Ok {l : List PD} (h : Pool l) {a : List Nat} (ha : 0 < a.length) (ha2 : a.length ≤ 92) {n : Nat} (hn : n ≤ 100000) : Ok (m__law_text l (S a) (.int (n : Int))) fun r => ∃ (t : List Nat) (l' : List PD), r = (S t, [.l l']) ∧ t.length = n ∧ (∀ c ∈ t, c ∈ a) ∧ Pool l' := by
  have hz : a.length ≤ sizeLine := by rw [sizeLine_eq]; omega
  have er := rangeD_n (n := n) (by omega)
  have hl : ((List.range n).map fun i => PyData.int ((i : Nat) : Int)).length ≤ sizeLine := by rw [sizeLine_eq, List.length_map, List.length_range]; omega
  simp -implicitDefEqProofs only [bind_bind, ok_bind, dOnly_ok, callC_0, callC_1, callC_2, callC_3, callC_n, putC_0, putC_1, putC_2, putC_3, putC_n, unl_l, unn_n, finE_rt, finN_rt, finN_nx, upC_rt, upC_bk, upC_ct, dnC_nx, dnC_rt, seqC_nx, seqC_rt, seqC_bk, seqC_ct, dropC_0, dropC_1, dropC_2, dropC_3, cellL_0, cellL_1, cellL_2, cellL_3, cellL_4, cellL_5, EI, if_true, if_false, Bool.false_eq_true, decide_true, decide_false, Bool.not_true, Bool.not_false, S_nil, reduceIte, List.map_cons, List.map_nil, List.tail_cons, IS, m__law_text, er, lineD_ok hl]
  refine Ok.bind (compX_Ok (fun cs => ∃ l, cs = [.l l] ∧ Pool l) (fun _ y => ∃ c, y = S [c] ∧ c ∈ a) ⟨l, rfl, h⟩ ?_) ?_
  · rintro d _ _ ⟨l, rfl, h⟩
    simp -implicitDefEqProofs only [bind_bind, ok_bind, dOnly_ok, callC_0, callC_1, callC_2, callC_3, callC_n, putC_0, putC_1, putC_2, putC_3, putC_n, unl_l, unn_n, finE_rt, finN_rt, finN_nx, upC_rt, upC_bk, upC_ct, dnC_nx, dnC_rt, seqC_nx, seqC_rt, seqC_bk, seqC_ct, dropC_0, dropC_1, dropC_2, dropC_3, cellL_0, cellL_1, cellL_2, cellL_3, cellL_4, cellL_5, EI, if_true, if_false, Bool.false_eq_true, decide_true, decide_false, Bool.not_true, Bool.not_false, S_nil, reduceIte, List.map_cons, List.map_nil, List.tail_cons, IS, lenD_S hz, ap_cd]
    refine Ok.bind (draw_Ok h ha (by omega)) ?_
    rintro _ ⟨k, l', rfl, hk, hp⟩
    simp -implicitDefEqProofs only [bind_bind, ok_bind, dOnly_ok, callC_0, callC_1, callC_2, callC_3, callC_n, putC_0, putC_1, putC_2, putC_3, putC_n, unl_l, unn_n, finE_rt, finN_rt, finN_nx, upC_rt, upC_bk, upC_ct, dnC_nx, dnC_rt, seqC_nx, seqC_rt, seqC_bk, seqC_ct, dropC_0, dropC_1, dropC_2, dropC_3, cellL_0, cellL_1, cellL_2, cellL_3, cellL_4, cellL_5, EI, if_true, if_false, Bool.false_eq_true, decide_true, decide_false, Bool.not_true, Bool.not_false, S_nil, reduceIte, List.map_cons, List.map_nil, List.tail_cons, IS, idxD_S hz (List.getElem?_eq_getElem hk)]
    exact .ret ⟨_, rfl, ⟨_, rfl, List.getElem_mem _⟩, _, rfl, hp⟩
  · rintro ⟨ys, cs'⟩ ⟨hf, l', rfl, hp⟩
    have hlen := hf.len
    rw [List.length_map, List.length_range] at hlen
    obtain ⟨cs, rfl, hm⟩ := hf.map_of
    rw [List.length_map] at hlen
    have ej := joinD_1 (cs := cs) (by omega)
    have e1 : PyData.str ⟨[].toArray⟩ = S [] := rfl
    simp -implicitDefEqProofs only [bind_bind, ok_bind, dOnly_ok, callC_0, callC_1, callC_2, callC_3, callC_n, putC_0, putC_1, putC_2, putC_3, putC_n, unl_l, unn_n, finE_rt, finN_rt, finN_nx, upC_rt, upC_bk, upC_ct, dnC_nx, dnC_rt, seqC_nx, seqC_rt, seqC_bk, seqC_ct, dropC_0, dropC_1, dropC_2, dropC_3, cellL_0, cellL_1, cellL_2, cellL_3, cellL_4, cellL_5, EI, if_true, if_false, Bool.false_eq_true, decide_true, decide_false, Bool.not_true, Bool.not_false, S_nil, reduceIte, List.map_cons, List.map_nil, List.tail_cons, IS, e1, ej]
    exact .ret ⟨cs, l', rfl, hlen.symm, hm, hp⟩

theorem pool_ok (ns : List Int) (hl : ns.length ≤ 63) (k : Nat) : ∃ l, m__law_pool (.list (ns.map PyData.int)) (.int (k : Int)) = .ok (l, []) ∧ Pool l := by
  have mm : ∀ x y : Int, -(2 ^ 64) < x → x < 2 ^ 64 → mulD (.int x) (.int y) = .ok (.int (x * y)) := fun x y h1 h2 => mulD_i (.inl ⟨h1, h2⟩)
  by_cases hk : k < ns.length
  · have hg : idxD (.list (ns.map PyData.int)) (.int (k : Int)) = .ok (.int ns[k]) := idxD_l (by simp [hk])
    have e : ((k : Int) < ((ns.map PyData.int).length : Int)) := by simp; omega
    by_cases hn : ns[k] < 0
    · refine ⟨[.int (-ns[k]), .int (1000 * k)], ?_, _, _, rfl, by omega⟩
      simp only [m__law_pool, ok_bind, lenD_l, ltD_i, e, decide_true, if_true, hg, intD_i, seqC_nx, hn, negD_i, mm 1000 (k : Int) (by decide) (by decide), finE_rt]
    · refine ⟨[.int (ns[k]), .int (1000 * k)], ?_, _, _, rfl, by omega⟩
      simp only [m__law_pool, ok_bind, lenD_l, ltD_i, e, decide_true, if_true, hg, intD_i, seqC_nx, hn, decide_false, negD_i, mm 1000 (k : Int) (by decide) (by decide), finE_rt, Bool.false_eq_true, if_false]
  · have e : ¬ ((k : Int) < ((ns.map PyData.int).length : Int)) := by simp; omega
    refine ⟨[.int 0, .int (1000 * k)], ?_, _, _, rfl, by omega⟩
    simp only [m__law_pool, ok_bind, lenD_l, ltD_i, e, decide_false, if_false, Bool.false_eq_true, intD_i, seqC_nx, (by decide : ¬ (0 : Int) < 0), negD_i, mm 1000 (k : Int) (by decide) (by decide), finE_rt]
def LET : List Nat := ((List.range 95).map (· + 32)).filter fun c => c != 37 && c != 91 && c != 93
theorem LET_len : LET.length = 92 := by decide
theorem LET_tx : Tx LET := by unfold Tx; decide
theorem letters_ok : m__law_letters = .ok (S LET, []) := by kernel_rfl
theorem alphabet_ok {l : List PD} (h : Pool l) : ∃ (a : List Nat) (l' : List PD), m__law_alphabet l = .ok (S a, [.l l']) ∧ 0 < a.length ∧ a.length ≤ 92 ∧ Tx a ∧ Pool l' := by
  obtain ⟨r1, l1, e1, _, h1⟩ := draw_ok h (n := 2) (by decide) (by decide)
  obtain ⟨r2, l2, e2, b2, h2⟩ := draw_ok h1 (n := 92) (by decide) (by decide)
  obtain ⟨r3, l3, e3, b3, h3⟩ := draw_ok h2 (n := 92) (by decide) (by decide)
  have c2 : LET[r2]? = some LET[r2] := List.getElem?_eq_getElem (by rw [LET_len]; exact b2)
  have c3 : LET[r3]? = some LET[r3] := List.getElem?_eq_getElem (by rw [LET_len]; exact b3)
  have i2 := idxD_S (a := LET) (n := r2) (by decide) c2
  have i3 := idxD_S (a := LET) (n := r3) (by decide) c3
  have ad : addD (S [LET[r2]]) (S [LET[r3]]) = .ok (S [LET[r2], LET[r3]]) := addD_S (by rw [sizeLine_eq]; simp)
  by_cases hr : (r1 : Int) = 0
  · refine ⟨[LET[r2], LET[r3]], l3, ?_, by simp, by simp, fun c m => ?_, h3⟩
    · simp only [m__law_alphabet, letters_ok, dOnly_ok, ok_bind, callC_0, ap_c, ap_d, ap_cd, ap_cdd, show ((2 : Nat) : Int) = 2 from rfl, show ((92 : Nat) : Int) = 92 from rfl] at e1 e2 e3 ⊢
      simp only [e1, e2, e3, ok_bind, putC_0, unl_l, unn_n, eqD_i, hr, decide_true, if_true, i2, i3, ad, upC_rt, finE_rt]
    · have : c = LET[r2] ∨ c = LET[r3] := by simpa using m
      rcases this with q | q <;> (rw [q]; exact LET_tx _ (List.getElem_mem _))
  · refine ⟨LET, l1, ?_, by decide, by decide, LET_tx, h1⟩
    simp only [m__law_alphabet, letters_ok, dOnly_ok, ok_bind, callC_0, ap_c, ap_d, ap_cd, ap_cdd, show ((2 : Nat) : Int) = 2 from rfl, show ((92 : Nat) : Int) = 92 from rfl] at e1 e2 e3 ⊢
    simp only [e1, e2, e3, ok_bind, putC_0, unl_l, unn_n, eqD_i, hr, decide_false, if_false, Bool.false_eq_true, finE_rt]
theorem alphabet_Ok {l : List PD} (h : Pool l) : Ok (m__law_alphabet l) fun r => ∃ (a : List Nat) (l' : List PD), r = (S a, [.l l']) ∧ 0 < a.length ∧ a.length ≤ 92 ∧ Tx a ∧ Pool l' := by
  obtain ⟨a, l', e, h⟩ := alphabet_ok h
  exact ⟨_, e, a, l', rfl, h⟩
/-! ### labels, menus -/
theorem any_S {x : List Nat} : ∀ {ws : List (List Nat)}, ((ws.map S).any fun y => PyData.eqv y (S x)) = decide (x ∈ ws)
  | [] => by simp
  | w :: ws => by
    rw [List.map_cons, List.any_cons, eqv_S, any_S]
    by_cases e : w = x
    · simp [e]
    · simp [e, Ne.symm e, eq_comm]
theorem inDD_S {x : List Nat} {ws : List (List Nat)} (hx : Tx x) (hw : ∀ w ∈ ws, Tx w) : inDD (S x) (.list (ws.map S)) = .ok (decide (x ∈ ws)) := by
  show inL (S x) (ws.map S) = _
  have hs : SeqAt.shaped (.list (ws.map S)) = true := shaped_l (k := 0) (fun d hd => by
    obtain ⟨w, hw', rfl⟩ := List.mem_map.mp hd
    have q := lay_S (hw w hw')
    exact ⟨q.1, by rw [q.2]; exact Nat.le_refl _⟩) (by decide)
  unfold inL
  rw [shaped_S hx, hs, any_S]
  rfl
theorem notInDD_S {x : List Nat} {ws : List (List Nat)} (hx : Tx x) (hw : ∀ w ∈ ws, Tx w) : notInDD (S x) (.list (ws.map S)) = .ok (!decide (x ∈ ws)) := by
  unfold notInDD
  rw [inDD_S hx hw]; rfl
/-- a loop that may break -/
theorem forM_rangeB {L R : Type} {b : PD → L → Out (Ctl L R L)} (I : Nat → L → Prop) (Q : L → Prop) : ∀ (m k : Nat) {l : L}, I k l → (∀ j l, k ≤ j → j < k + m → I j l → Ok (b (.int ((j : Nat) : Int)) l) fun c => (∃ l', c = .nx l' ∧ I (j + 1) l') ∨ ∃ l', c = .bk l' ∧ Q l') →
    Ok (forM b ((List.range' k m).map fun i => PyData.int ((i : Nat) : Int)) l) fun c => ∃ l', c = .nx l' ∧ (I (k + m) l' ∨ Q l')
  | 0, k, l, h, _ => ⟨_, rfl, l, rfl, .inl h⟩
  | m + 1, k, l, h, hs => by
    rw [List.range'_succ, List.map_cons]
    unfold forM
    obtain ⟨c, e, q⟩ := hs k l (Nat.le_refl _) (by omega) h
    rw [e]
    rcases q with ⟨l', rfl, h'⟩ | ⟨l', rfl, hq⟩
    · have ih := forM_rangeB I Q m (k + 1) h' fun j l h1 h2 => hs j l (by omega) (by omega)
      rw [show k + (m + 1) = k + 1 + m by omega]
      exact ih
    · exact ⟨_, rfl, l', rfl, .inr hq⟩
theorem range_eq (n : Nat) : List.range n = List.range' 0 n := List.range_eq_range'
def Low (x : List Nat) : Prop := ∀ c ∈ x, 97 ≤ c ∧ c ≤ 122
theorem Low.tx {x : List Nat} (h : Low x) : Tx x := fun c m => by have := h c m; omega
/-- a name -/
structure Lab (x : List Nat) : Prop where
  pos : 0 < x.length
  len : x.length ≤ 12
  low : Low x
def AZ : List Nat := (List.range 26).map (· + 97)
theorem S_AZ : PyData.str "abcdefghijklmnopqrstuvwxyz" = S AZ := by kernel_rfl
theorem AZ_len : AZ.length = 26 := by decide
theorem AZ_low : Low AZ := by unfold Low; decide
theorem AZ_get {i : Nat} (h : i < 26) : AZ[i]? = some (97 + i) := by
  unfold AZ
  rw [List.getElem?_map, List.getElem?_range h]
  simp [Nat.add_comm]
theorem pigeon : ∀ {xs ys : List (List Nat)}, xs.Nodup → (∀ x ∈ xs, x ∈ ys) → xs.length ≤ ys.length
  | [], _, _, _ => Nat.zero_le _
  | x :: xs, ys, hn, hs => by
    have hn' := List.nodup_cons.mp hn
    have hx := hs x List.mem_cons_self
    have := pigeon (xs := xs) (ys := ys.erase x) hn'.2 fun y hy => by
      have hne : y ≠ x := fun e => hn'.1 (by rw [← e]; exact hy)
      exact (List.mem_erase_of_ne hne).mpr (hs y (List.mem_cons_of_mem _ hy))
    rw [List.length_erase_of_mem hx] at this
    have hp : 0 < ys.length := List.length_pos_of_mem hx
    rw [List.length_cons]
    omega
def cand (base : List Nat) (k : Nat) : List Nat := if k = 0 then base else base.take 10 ++ [97 + k / 26] ++ [97 + k % 26]
theorem cand_lab {base : List Nat} (h : Lab base) (k : Nat) (hk : k < 40) : Lab (cand base k) := by
  unfold cand
  by_cases e : k = 0
  · rw [if_pos e]; exact h
  · rw [if_neg e]
    have h1 := h.len
    refine ⟨by simp, by simp; omega, fun c m => ?_⟩
    simp only [List.append_assoc, List.mem_append, List.mem_cons, List.not_mem_nil, or_false, List.cons_append, List.nil_append] at m
    rcases m with m | m | m
    · exact h.low c (List.mem_of_mem_take m)
    · omega
    · omega
theorem cand_inj {base : List Nat} {i j : Nat} (hi : 0 < i) (hj : 0 < j) (hi2 : i < 40) (hj2 : j < 40) (h : cand base i = cand base j) : i = j := by
  unfold cand at h
  rw [if_neg (by omega), if_neg (by omega)] at h
  rw [List.append_assoc, List.append_assoc] at h
  have := List.append_cancel_left h
  simp at this
  omega
theorem label_Ok {lp : List PD} (h : Pool lp) {ts : List (List Nat)} (ht : ∀ t ∈ ts, Tx t) (hl : ts.length < 1000) : Ok (m__law_label lp (ts.map S)) fun r => ∃ (x : List Nat) (lp' : List PD), r = (S x, [.l lp', .l ((ts ++ [x]).map S)]) ∧ Lab x ∧ (ts.length < 39 → x ∉ ts) ∧ Pool lp' := by
  simp -implicitDefEqProofs only [bind_bind, ok_bind, dOnly_ok, callC_0, callC_1, callC_2, callC_3, callC_n, putC_0, putC_1, putC_2, putC_3, putC_n, unl_l, unn_n, finE_rt, finN_rt, finN_nx, upC_rt, upC_bk, upC_ct, dnC_nx, dnC_rt, seqC_nx, seqC_rt, seqC_bk, seqC_ct, dropC_0, dropC_1, dropC_2, dropC_3, cellL_0, cellL_1, cellL_2, cellL_3, cellL_4, cellL_5, EI, if_true, if_false, Bool.false_eq_true, decide_true, decide_false, Bool.not_true, Bool.not_false, S_nil, reduceIte, List.map_cons, List.map_nil, List.tail_cons, IS, m__law_label, ap_cd, ap_cdd, S_AZ]
  refine Ok.bind (draw_Ok h (n := 12) (by decide) (by decide)) ?_
  rintro _ ⟨k0, lp1, rfl, hk0, h1⟩
  have e1 : (1 + (k0 : Int)) = ((k0 + 1 : Nat) : Int) := by omega
  simp -implicitDefEqProofs only [bind_bind, ok_bind, dOnly_ok, callC_0, callC_1, callC_2, callC_3, callC_n, putC_0, putC_1, putC_2, putC_3, putC_n, unl_l, unn_n, finE_rt, finN_rt, finN_nx, upC_rt, upC_bk, upC_ct, dnC_nx, dnC_rt, seqC_nx, seqC_rt, seqC_bk, seqC_ct, dropC_0, dropC_1, dropC_2, dropC_3, cellL_0, cellL_1, cellL_2, cellL_3, cellL_4, cellL_5, EI, if_true, if_false, Bool.false_eq_true, decide_true, decide_false, Bool.not_true, Bool.not_false, S_nil, reduceIte, List.map_cons, List.map_nil, List.tail_cons, IS, e1, ap_cdd]
  refine Ok.bind (text_Ok h1 (a := AZ) (by decide) (by decide) (n := k0 + 1) (by omega)) ?_
  rintro _ ⟨base, lp2, rfl, hb, htb, h2⟩
  have hlb : Lab base := ⟨by omega, by omega, fun c m => AZ_low c (htb c m)⟩
  have er := rangeD_n (n := 40) (by decide)
  rw [show ((40 : Nat) : Int) = 40 from rfl] at er
  simp -implicitDefEqProofs only [bind_bind, ok_bind, dOnly_ok, callC_0, callC_1, callC_2, callC_3, callC_n, putC_0, putC_1, putC_2, putC_3, putC_n, unl_l, unn_n, finE_rt, finN_rt, finN_nx, upC_rt, upC_bk, upC_ct, dnC_nx, dnC_rt, seqC_nx, seqC_rt, seqC_bk, seqC_ct, dropC_0, dropC_1, dropC_2, dropC_3, cellL_0, cellL_1, cellL_2, cellL_3, cellL_4, cellL_5, EI, if_true, if_false, Bool.false_eq_true, decide_true, decide_false, Bool.not_true, Bool.not_false, S_nil, reduceIte, List.map_cons, List.map_nil, List.tail_cons, IS, er]
  rw [range_eq]
  have tcand : ∀ k, k < 40 → Tx (cand base k) := fun k hk => (cand_lab hlb k hk).low.tx
  have lcand : ∀ k, k < 40 → (cand base k).length ≤ 12 := fun k hk => (cand_lab hlb k hk).len
  have zb : base.length ≤ sizeLine := by rw [sizeLine_eq]; omega
  refine Ok.bind (forM_rangeB (fun k (l : PD) => (∀ j, j < k → cand base j ∈ ts) ∧ l = S (cand base (k - 1))) (fun l => ∃ j, j < 40 ∧ l = S (cand base j) ∧ cand base j ∉ ts) 40 0 ⟨fun j hj => by omega, rfl⟩ ?_) ?_
  · rintro j l _ hj ⟨hall, rfl⟩
    by_cases e0 : j = 0
    · subst e0
      simp -implicitDefEqProofs only [bind_bind, ok_bind, dOnly_ok, callC_0, callC_1, callC_2, callC_3, callC_n, putC_0, putC_1, putC_2, putC_3, putC_n, unl_l, unn_n, finE_rt, finN_rt, finN_nx, upC_rt, upC_bk, upC_ct, dnC_nx, dnC_rt, seqC_nx, seqC_rt, seqC_bk, seqC_ct, dropC_0, dropC_1, dropC_2, dropC_3, cellL_0, cellL_1, cellL_2, cellL_3, cellL_4, cellL_5, EI, if_true, if_false, Bool.false_eq_true, decide_true, decide_false, Bool.not_true, Bool.not_false, S_nil, reduceIte, List.map_cons, List.map_nil, List.tail_cons, IS, show ¬ ((0 : Int) < ((0 : Nat) : Int)) by decide, show cand base (0 - 1) = base from rfl, notInDD_S hlb.low.tx ht]
      by_cases hm : base ∈ ts
      · simp -implicitDefEqProofs only [bind_bind, ok_bind, dOnly_ok, callC_0, callC_1, callC_2, callC_3, callC_n, putC_0, putC_1, putC_2, putC_3, putC_n, unl_l, unn_n, finE_rt, finN_rt, finN_nx, upC_rt, upC_bk, upC_ct, dnC_nx, dnC_rt, seqC_nx, seqC_rt, seqC_bk, seqC_ct, dropC_0, dropC_1, dropC_2, dropC_3, cellL_0, cellL_1, cellL_2, cellL_3, cellL_4, cellL_5, EI, if_true, if_false, Bool.false_eq_true, decide_true, decide_false, Bool.not_true, Bool.not_false, S_nil, reduceIte, List.map_cons, List.map_nil, List.tail_cons, IS, hm]
        exact .ret (.inl ⟨_, rfl, fun q hq => (by
          have e : q = 0 := by omega
          rw [e]; exact hm), rfl⟩)
      · simp -implicitDefEqProofs only [bind_bind, ok_bind, dOnly_ok, callC_0, callC_1, callC_2, callC_3, callC_n, putC_0, putC_1, putC_2, putC_3, putC_n, unl_l, unn_n, finE_rt, finN_rt, finN_nx, upC_rt, upC_bk, upC_ct, dnC_nx, dnC_rt, seqC_nx, seqC_rt, seqC_bk, seqC_ct, dropC_0, dropC_1, dropC_2, dropC_3, cellL_0, cellL_1, cellL_2, cellL_3, cellL_4, cellL_5, EI, if_true, if_false, Bool.false_eq_true, decide_true, decide_false, Bool.not_true, Bool.not_false, S_nil, reduceIte, List.map_cons, List.map_nil, List.tail_cons, IS, hm]
        exact .ret (.inr ⟨_, rfl, 0, by decide, rfl, hm⟩)
    · have hpos : (0 : Int) < (j : Int) := by omega
      have hj40 : j < 40 := by omega
      have c1 : cutL base none (some 10) = base.take 10 := cutL_hi (n := 10)
      have d1 : fdivD (.int (j : Int)) (.int 26) = .ok (.int ((j / 26 : Nat) : Int)) := by
        rw [fdivD_i ⟨by decide, by decide⟩, Int.fdiv_eq_ediv_of_nonneg _ (by decide)]
        congr 2
      have d2 : modD (.int (j : Int)) (.int 26) = .ok (.int ((j % 26 : Nat) : Int)) := by
        rw [modD_i (by decide), Int.fmod_eq_emod_of_nonneg _ (by decide)]
        congr 2
      have za : AZ.length ≤ sizeLine := by decide
      have i1 := idxD_S za (AZ_get (i := j / 26) (by omega))
      have i2 := idxD_S za (AZ_get (i := j % 26) (by omega))
      have a1 := addD_S (a := base.take 10) (b := [97 + j / 26]) (by rw [List.length_take, sizeLine_eq]; simp; omega)
      have a2 := addD_S (a := base.take 10 ++ [97 + j / 26]) (b := [97 + j % 26]) (by rw [sizeLine_eq]; simp; omega)
      have ec : base.take 10 ++ [97 + j / 26] ++ [97 + j % 26] = cand base j := by unfold cand; rw [if_neg e0]
      rw [ec] at a2
      simp -implicitDefEqProofs only [bind_bind, ok_bind, dOnly_ok, callC_0, callC_1, callC_2, callC_3, callC_n, putC_0, putC_1, putC_2, putC_3, putC_n, unl_l, unn_n, finE_rt, finN_rt, finN_nx, upC_rt, upC_bk, upC_ct, dnC_nx, dnC_rt, seqC_nx, seqC_rt, seqC_bk, seqC_ct, dropC_0, dropC_1, dropC_2, dropC_3, cellL_0, cellL_1, cellL_2, cellL_3, cellL_4, cellL_5, EI, if_true, if_false, Bool.false_eq_true, decide_true, decide_false, Bool.not_true, Bool.not_false, S_nil, reduceIte, List.map_cons, List.map_nil, List.tail_cons, IS, hpos, cutD_S zb, c1, d1, d2, S_AZ, i1, i2, a1, a2, notInDD_S (tcand j hj40) ht]
      by_cases hm : cand base j ∈ ts
      · simp -implicitDefEqProofs only [bind_bind, ok_bind, dOnly_ok, callC_0, callC_1, callC_2, callC_3, callC_n, putC_0, putC_1, putC_2, putC_3, putC_n, unl_l, unn_n, finE_rt, finN_rt, finN_nx, upC_rt, upC_bk, upC_ct, dnC_nx, dnC_rt, seqC_nx, seqC_rt, seqC_bk, seqC_ct, dropC_0, dropC_1, dropC_2, dropC_3, cellL_0, cellL_1, cellL_2, cellL_3, cellL_4, cellL_5, EI, if_true, if_false, Bool.false_eq_true, decide_true, decide_false, Bool.not_true, Bool.not_false, S_nil, reduceIte, List.map_cons, List.map_nil, List.tail_cons, IS, hm]
        refine .ret (.inl ⟨_, rfl, fun q hq => ?_, by rw [Nat.add_sub_cancel]⟩)
        by_cases hq2 : q = j
        · rw [hq2]; exact hm
        · exact hall q (by omega)
      · simp -implicitDefEqProofs only [bind_bind, ok_bind, dOnly_ok, callC_0, callC_1, callC_2, callC_3, callC_n, putC_0, putC_1, putC_2, putC_3, putC_n, unl_l, unn_n, finE_rt, finN_rt, finN_nx, upC_rt, upC_bk, upC_ct, dnC_nx, dnC_rt, seqC_nx, seqC_rt, seqC_bk, seqC_ct, dropC_0, dropC_1, dropC_2, dropC_3, cellL_0, cellL_1, cellL_2, cellL_3, cellL_4, cellL_5, EI, if_true, if_false, Bool.false_eq_true, decide_true, decide_false, Bool.not_true, Bool.not_false, S_nil, reduceIte, List.map_cons, List.map_nil, List.tail_cons, IS, hm]
        exact .ret (.inr ⟨_, rfl, j, hj40, rfl, hm⟩)
  · rintro _ ⟨l', rfl, ⟨hall, rfl⟩ | ⟨j, hj, rfl, hn⟩⟩
    · have : ¬ ts.length < 39 := fun hlt => by
        have := pigeon (xs := (List.range' 1 39).map (cand base)) (ys := ts) ?_ ?_
        · simp at this; omega
        · rw [List.Nodup, List.pairwise_map]
          refine List.Pairwise.imp_of_mem ?_ (List.nodup_range' (s := 1) (n := 39))
          intro a b ma mb hne e
          simp [List.mem_range'_1] at ma mb
          exact hne (cand_inj (by omega) (by omega) (by omega) (by omega) e)
        · intro x hx
          obtain ⟨j, hj, rfl⟩ := List.mem_map.mp hx
          simp [List.mem_range'_1] at hj
          exact hall j (by omega)
      simp -implicitDefEqProofs only [bind_bind, ok_bind, dOnly_ok, callC_0, callC_1, callC_2, callC_3, callC_n, putC_0, putC_1, putC_2, putC_3, putC_n, unl_l, unn_n, finE_rt, finN_rt, finN_nx, upC_rt, upC_bk, upC_ct, dnC_nx, dnC_rt, seqC_nx, seqC_rt, seqC_bk, seqC_ct, dropC_0, dropC_1, dropC_2, dropC_3, cellL_0, cellL_1, cellL_2, cellL_3, cellL_4, cellL_5, EI, if_true, if_false, Bool.false_eq_true, decide_true, decide_false, Bool.not_true, Bool.not_false, S_nil, reduceIte, List.map_cons, List.map_nil, List.tail_cons, IS, appD_ok (ds := ts.map S) (d := S (cand base 39)) (by rw [List.length_map, sizeLine_eq]; omega)]
      exact .ret ⟨cand base 39, lp2, by simp, cand_lab hlb 39 (by decide), fun h => (this h).elim, h2⟩
    · simp -implicitDefEqProofs only [bind_bind, ok_bind, dOnly_ok, callC_0, callC_1, callC_2, callC_3, callC_n, putC_0, putC_1, putC_2, putC_3, putC_n, unl_l, unn_n, finE_rt, finN_rt, finN_nx, upC_rt, upC_bk, upC_ct, dnC_nx, dnC_rt, seqC_nx, seqC_rt, seqC_bk, seqC_ct, dropC_0, dropC_1, dropC_2, dropC_3, cellL_0, cellL_1, cellL_2, cellL_3, cellL_4, cellL_5, EI, if_true, if_false, Bool.false_eq_true, decide_true, decide_false, Bool.not_true, Bool.not_false, S_nil, reduceIte, List.map_cons, List.map_nil, List.tail_cons, IS, appD_ok (ds := ts.map S) (d := S (cand base j)) (by rw [List.length_map, sizeLine_eq]; omega)]
      exact .ret ⟨cand base j, lp2, by simp, cand_lab hlb j hj, fun _ => hn, h2⟩

/-! ### menus -/
def D36 : List Nat := (List.range 10).map (· + 48) ++ AZ
theorem S_D36 : PyData.str "0123456789abcdefghijklmnopqrstuvwxyz" = S D36 := by kernel_rfl
def Wd (x : List Nat) : Prop := ∀ c ∈ x, (48 ≤ c ∧ c ≤ 57) ∨ (97 ≤ c ∧ c ≤ 122)
theorem D36_wd : Wd D36 := by unfold Wd; decide
theorem Wd.tx {x : List Nat} (h : Wd x) : Tx x := fun c m => by have := h c m; omega
/-- a menu: its words, ascending -/
structure Menu (ws : List (List Nat)) : Prop where
  ne : ws ≠ []
  word : ∀ w ∈ ws, w.length ≤ 6 ∧ Wd w
  asc : ws.Pairwise (· < ·)
theorem sortedD_S {ws : List (List Nat)} (h : ws.length < 64) : ∃ vs : List (List Nat), sortedD (.list (ws.map S)) = .ok (vs.map S) ∧ vs.Perm ws ∧ vs.Pairwise (· ≤ ·) := by
  have e : ws.map S = (ws.map fun l => (⟨l.toArray⟩ : Str)).map PyData.str := by rw [List.map_map]; rfl
  refine ⟨(sortS (ws.map fun l => (⟨l.toArray⟩ : Str))).map fun z => z.cps.toList, ?_, ?_, ?_⟩
  · show (match strsD (ws.map S) with
      | some zs => if zs.length < 64 then Out.ok ((sortS zs).map PyData.str) else .bad
      | none => match intsD (ws.map S) with
        | some ns => .ok ((sortI ns).map PyData.int)
        | none => .bad) = _
    rw [e, strsD_map]
    dsimp only
    rw [if_pos (by rw [List.length_map]; exact h), List.map_map]
    rfl
  · have := (sortS_perm (ws.map fun l => (⟨l.toArray⟩ : Str))).map (fun z : Str => z.cps.toList)
    rw [List.map_map] at this
    have e2 : ws.map ((fun z : Str => z.cps.toList) ∘ fun l => (⟨l.toArray⟩ : Str)) = ws := by
      conv => rhs; rw [← List.map_id ws]
      apply List.map_congr_left
      intro l _
      simp
    rw [e2] at this
    exact this
  · rw [List.pairwise_map]
    exact (sortS_sorted _).imp fun h => leS_iff.mp h
theorem menu_Ok {lp : List PD} (h : Pool lp) {n : Nat} (h0 : 0 < n) (hn : n ≤ 12) : Ok (m__law_menu lp (.int (n : Int))) fun r => ∃ (ws : List (List Nat)) (lp' : List PD), r = (.tuple (ws.map S), [.l lp']) ∧ Menu ws ∧ ws.length ≤ n ∧ Pool lp' := by
  simp -implicitDefEqProofs only [bind_bind, ok_bind, dOnly_ok, callC_0, callC_1, callC_2, callC_3, callC_n, putC_0, putC_1, putC_2, putC_3, putC_n, unl_l, unn_n, finE_rt, finN_rt, finN_nx, upC_rt, upC_bk, upC_ct, dnC_nx, dnC_rt, seqC_nx, seqC_rt, seqC_bk, seqC_ct, dropC_0, dropC_1, dropC_2, dropC_3, cellL_0, cellL_1, cellL_2, cellL_3, cellL_4, cellL_5, EI, if_true, if_false, Bool.false_eq_true, decide_true, decide_false, Bool.not_true, Bool.not_false, S_nil, reduceIte, List.map_cons, List.map_nil, List.tail_cons, IS, m__law_menu, ap_cd, ap_cdd]
  refine Ok.bind (draw_Ok h h0 (by omega)) ?_
  rintro _ ⟨k, lp1, rfl, hk, h1⟩
  have e1 : (1 + (k : Int)) = ((k + 1 : Nat) : Int) := by omega
  simp -implicitDefEqProofs only [bind_bind, ok_bind, dOnly_ok, callC_0, callC_1, callC_2, callC_3, callC_n, putC_0, putC_1, putC_2, putC_3, putC_n, unl_l, unn_n, finE_rt, finN_rt, finN_nx, upC_rt, upC_bk, upC_ct, dnC_nx, dnC_rt, seqC_nx, seqC_rt, seqC_bk, seqC_ct, dropC_0, dropC_1, dropC_2, dropC_3, cellL_0, cellL_1, cellL_2, cellL_3, cellL_4, cellL_5, EI, if_true, if_false, Bool.false_eq_true, decide_true, decide_false, Bool.not_true, Bool.not_false, S_nil, reduceIte, List.map_cons, List.map_nil, List.tail_cons, IS, e1, rangeD_n (n := k + 1) (by omega)]
  refine Ok.bind (forM_range (fun j (l : List CO) => ∃ (ws : List (List Nat)) (lp' : List PD), l = [.l (ws.map S), .l lp'] ∧ (0 < j → ws ≠ []) ∧ ws.length ≤ j ∧ ws.Nodup ∧ (∀ w ∈ ws, w.length ≤ 6 ∧ Wd w) ∧ Pool lp') ⟨[], lp1, rfl, fun h => (by omega), Nat.le_refl _, List.nodup_nil, fun _ m => (by cases m), h1⟩ ?_) ?_
  · rintro j _ hj ⟨ws, lp2, rfl, hne, hlen, hnd, hws, h2⟩
    simp -implicitDefEqProofs only [bind_bind, ok_bind, dOnly_ok, callC_0, callC_1, callC_2, callC_3, callC_n, putC_0, putC_1, putC_2, putC_3, putC_n, unl_l, unn_n, finE_rt, finN_rt, finN_nx, upC_rt, upC_bk, upC_ct, dnC_nx, dnC_rt, seqC_nx, seqC_rt, seqC_bk, seqC_ct, dropC_0, dropC_1, dropC_2, dropC_3, cellL_0, cellL_1, cellL_2, cellL_3, cellL_4, cellL_5, EI, if_true, if_false, Bool.false_eq_true, decide_true, decide_false, Bool.not_true, Bool.not_false, S_nil, reduceIte, List.map_cons, List.map_nil, List.tail_cons, IS, ap_cd]
    refine Ok.bind (draw_Ok h2 (n := 7) (by decide) (by decide)) ?_
    rintro _ ⟨m, lp3, rfl, hm, h3⟩
    simp -implicitDefEqProofs only [bind_bind, ok_bind, dOnly_ok, callC_0, callC_1, callC_2, callC_3, callC_n, putC_0, putC_1, putC_2, putC_3, putC_n, unl_l, unn_n, finE_rt, finN_rt, finN_nx, upC_rt, upC_bk, upC_ct, dnC_nx, dnC_rt, seqC_nx, seqC_rt, seqC_bk, seqC_ct, dropC_0, dropC_1, dropC_2, dropC_3, cellL_0, cellL_1, cellL_2, cellL_3, cellL_4, cellL_5, EI, if_true, if_false, Bool.false_eq_true, decide_true, decide_false, Bool.not_true, Bool.not_false, S_nil, reduceIte, List.map_cons, List.map_nil, List.tail_cons, IS, ap_cdd, S_D36]
    refine Ok.bind (text_Ok h3 (a := D36) (by decide) (by decide) (n := m) (by omega)) ?_
    rintro _ ⟨x, lp4, rfl, hx, hxm, h4⟩
    have hwx : Wd x := fun c q => D36_wd c (hxm c q)
    simp -implicitDefEqProofs only [bind_bind, ok_bind, dOnly_ok, callC_0, callC_1, callC_2, callC_3, callC_n, putC_0, putC_1, putC_2, putC_3, putC_n, unl_l, unn_n, finE_rt, finN_rt, finN_nx, upC_rt, upC_bk, upC_ct, dnC_nx, dnC_rt, seqC_nx, seqC_rt, seqC_bk, seqC_ct, dropC_0, dropC_1, dropC_2, dropC_3, cellL_0, cellL_1, cellL_2, cellL_3, cellL_4, cellL_5, EI, if_true, if_false, Bool.false_eq_true, decide_true, decide_false, Bool.not_true, Bool.not_false, S_nil, reduceIte, List.map_cons, List.map_nil, List.tail_cons, IS, notInDD_S hwx.tx fun w q => (hws w q).2.tx]
    by_cases hi : x ∈ ws
    · simp -implicitDefEqProofs only [bind_bind, ok_bind, dOnly_ok, callC_0, callC_1, callC_2, callC_3, callC_n, putC_0, putC_1, putC_2, putC_3, putC_n, unl_l, unn_n, finE_rt, finN_rt, finN_nx, upC_rt, upC_bk, upC_ct, dnC_nx, dnC_rt, seqC_nx, seqC_rt, seqC_bk, seqC_ct, dropC_0, dropC_1, dropC_2, dropC_3, cellL_0, cellL_1, cellL_2, cellL_3, cellL_4, cellL_5, EI, if_true, if_false, Bool.false_eq_true, decide_true, decide_false, Bool.not_true, Bool.not_false, S_nil, reduceIte, List.map_cons, List.map_nil, List.tail_cons, IS, hi]
      refine .ret ⟨_, .inl rfl, ws, lp4, rfl, fun _ e => ?_, by omega, hnd, hws, h4⟩
      rw [e] at hi; cases hi
    · simp -implicitDefEqProofs only [bind_bind, ok_bind, dOnly_ok, callC_0, callC_1, callC_2, callC_3, callC_n, putC_0, putC_1, putC_2, putC_3, putC_n, unl_l, unn_n, finE_rt, finN_rt, finN_nx, upC_rt, upC_bk, upC_ct, dnC_nx, dnC_rt, seqC_nx, seqC_rt, seqC_bk, seqC_ct, dropC_0, dropC_1, dropC_2, dropC_3, cellL_0, cellL_1, cellL_2, cellL_3, cellL_4, cellL_5, EI, if_true, if_false, Bool.false_eq_true, decide_true, decide_false, Bool.not_true, Bool.not_false, S_nil, reduceIte, List.map_cons, List.map_nil, List.tail_cons, IS, hi, appD_ok (ds := ws.map S) (d := S x) (by rw [List.length_map, sizeLine_eq]; omega)]
      refine .ret ⟨_, .inl rfl, ws ++ [x], lp4, by simp, fun _ => by simp, by simp; omega, ?_, fun w q => ?_, h4⟩
      · rw [List.nodup_append]
        refine ⟨hnd, by simp, fun a ha b hb e => ?_⟩
        rw [List.mem_singleton.mp hb] at e
        exact hi (by rw [← e]; exact ha)
      · rcases List.mem_append.mp q with q | q
        · exact hws w q
        · rw [List.mem_singleton.mp q]
          exact ⟨by omega, hwx⟩
  · rintro _ ⟨_, rfl, ws, lp2, rfl, hne, hlen, hnd, hws, h2⟩
    obtain ⟨vs, ev, hp, hs⟩ := sortedD_S (ws := ws) (by omega)
    simp -implicitDefEqProofs only [bind_bind, ok_bind, dOnly_ok, callC_0, callC_1, callC_2, callC_3, callC_n, putC_0, putC_1, putC_2, putC_3, putC_n, unl_l, unn_n, finE_rt, finN_rt, finN_nx, upC_rt, upC_bk, upC_ct, dnC_nx, dnC_rt, seqC_nx, seqC_rt, seqC_bk, seqC_ct, dropC_0, dropC_1, dropC_2, dropC_3, cellL_0, cellL_1, cellL_2, cellL_3, cellL_4, cellL_5, EI, if_true, if_false, Bool.false_eq_true, decide_true, decide_false, Bool.not_true, Bool.not_false, S_nil, reduceIte, List.map_cons, List.map_nil, List.tail_cons, IS, ev]
    refine .ret ⟨vs, lp2, rfl, ⟨fun e => hne (by omega) ?_, fun w hw => hws w (hp.mem_iff.mp hw), ?_⟩, by rw [hp.length_eq]; omega, h2⟩
    · rw [e] at hp
      exact hp.nil_eq.symm
    · have hnv : vs.Nodup := hp.nodup_iff.mpr hnd
      refine (hs.and hnv).imp ?_
      rintro a b ⟨h1, h2⟩
      exact Classical.byContradiction fun h => h2 (List.le_antisymm h1 h)
theorem minA_i {i j : Int} : minA [.int i, .int j] = .ok (.int (if j < i then j else i)) := rfl
theorem maxA_i {i j : Int} : maxA [.int i, .int j] = .ok (.int (if j > i then j else i)) := rfl
/-! ### fields -/
abbrev Slot := List Nat × List (List Nat)
def slotD (s : Slot) : PD := .tuple [S s.1, .tuple (s.2.map S)]
def waysOf (ss : List Slot) : Nat := (ss.map fun s => s.2.length).foldl (· * ·) 1
theorem foldl_mul (xs : List Nat) (a : Nat) : xs.foldl (· * ·) a = a * xs.foldl (· * ·) 1 := by
  induction xs generalizing a with
  | nil => simp
  | cons x xs ih => rw [List.foldl_cons, List.foldl_cons, ih, ih (1 * x), Nat.one_mul, Nat.mul_assoc]
theorem ways_snoc (ss : List Slot) (s : Slot) : waysOf (ss ++ [s]) = waysOf ss * s.2.length := by
  unfold waysOf
  rw [List.map_append, List.foldl_append]
  rfl
/-- valid fields -/
structure Slots (ss : List Slot) : Prop where
  lab : ∀ s ∈ ss, Lab s.1
  menu : ∀ s ∈ ss, Menu s.2 ∧ s.2.length ≤ 6
  few : ss.length ≤ 4
  ways : waysOf ss ≤ 12
/-- names taken: texts, apart from one another -/
structure Takn (n : Nat) (ts : List (List Nat)) : Prop where
  tx : ∀ t ∈ ts, Tx t
  len : ts.length ≤ n
  nd : n ≤ 39 → ts.Nodup
theorem Takn.snoc {n : Nat} {ts : List (List Nat)} {x : List Nat} (h : Takn n ts) (hx : Lab x) (hn : ts.length < 39 → x ∉ ts) : Takn (n + 1) (ts ++ [x]) := by
  have := h.len
  refine ⟨fun t m => ?_, by simp; omega, fun q => ?_⟩
  · rcases List.mem_append.mp m with m | m
    · exact h.tx t m
    · rw [List.mem_singleton.mp m]; exact hx.low.tx
  · rw [List.nodup_append]
    refine ⟨h.nd (by omega), by simp, fun a ha b hb e => ?_⟩
    rw [List.mem_singleton.mp hb] at e
    exact hn (by omega) (by rw [← e]; exact ha)
theorem Takn.up {n m : Nat} {ts : List (List Nat)} (h : Takn n ts) (e : n ≤ m) : Takn m ts := ⟨h.tx, by have := h.len; omega, fun q => h.nd (by omega)⟩
theorem slots_Ok {lp : List PD} (h : Pool lp) {n : Nat} {ts : List (List Nat)} (ht : Takn n ts) (hn : n ≤ 500) : Ok (m__law_slots lp (ts.map S)) fun r => ∃ (ss : List Slot) (lp' : List PD), r = (.tuple (ss.map slotD), [.l lp', .l ((ts ++ ss.map (·.1)).map S)]) ∧ Slots ss ∧ Takn (n + ss.length) (ts ++ ss.map (·.1)) ∧ Pool lp' := by
  simp -implicitDefEqProofs only [bind_bind, ok_bind, dOnly_ok, callC_0, callC_1, callC_2, callC_3, callC_n, putC_0, putC_1, putC_2, putC_3, putC_n, unl_l, unn_n, finE_rt, finN_rt, finN_nx, upC_rt, upC_bk, upC_ct, dnC_nx, dnC_rt, seqC_nx, seqC_rt, seqC_bk, seqC_ct, dropC_0, dropC_1, dropC_2, dropC_3, cellL_0, cellL_1, cellL_2, cellL_3, cellL_4, cellL_5, EI, if_true, if_false, Bool.false_eq_true, decide_true, decide_false, Bool.not_true, Bool.not_false, S_nil, reduceIte, List.map_cons, List.map_nil, List.tail_cons, IS, m__law_slots, APs]
  refine Ok.bind (draw_Ok h (n := 8) (by decide) (by decide)) ?_
  rintro _ ⟨k, lp1, rfl, hk, h1⟩
  obtain ⟨c, hc4, ec⟩ : ∃ c : Nat, c ≤ 4 ∧ idxD (PyData.list [PyData.int 1, PyData.int 0, PyData.int 2, PyData.int 1, PyData.int 2, PyData.int 1, PyData.int 3, PyData.int 4]) (.int (k : Int)) = .ok (.int (c : Int)) := by
    have : k = 0 ∨ k = 1 ∨ k = 2 ∨ k = 3 ∨ k = 4 ∨ k = 5 ∨ k = 6 ∨ k = 7 := by omega
    rcases this with e | e | e | e | e | e | e | e <;> subst e
    · exact ⟨1, by decide, idxD_l rfl⟩
    · exact ⟨0, by decide, idxD_l rfl⟩
    · exact ⟨2, by decide, idxD_l rfl⟩
    · exact ⟨1, by decide, idxD_l rfl⟩
    · exact ⟨2, by decide, idxD_l rfl⟩
    · exact ⟨1, by decide, idxD_l rfl⟩
    · exact ⟨3, by decide, idxD_l rfl⟩
    · exact ⟨4, by decide, idxD_l rfl⟩
  simp -implicitDefEqProofs only [bind_bind, ok_bind, dOnly_ok, callC_0, callC_1, callC_2, callC_3, callC_n, putC_0, putC_1, putC_2, putC_3, putC_n, unl_l, unn_n, finE_rt, finN_rt, finN_nx, upC_rt, upC_bk, upC_ct, dnC_nx, dnC_rt, seqC_nx, seqC_rt, seqC_bk, seqC_ct, dropC_0, dropC_1, dropC_2, dropC_3, cellL_0, cellL_1, cellL_2, cellL_3, cellL_4, cellL_5, EI, if_true, if_false, Bool.false_eq_true, decide_true, decide_false, Bool.not_true, Bool.not_false, S_nil, reduceIte, List.map_cons, List.map_nil, List.tail_cons, IS, ec, rangeD_n (n := c) (by omega)]
  refine Ok.bind (forM_range (fun j (l : PD × List CO) => ∃ (ss : List Slot) (lp' : List PD), l = (.int ((waysOf ss : Nat) : Int), [.l (ss.map slotD), .l lp', .l ((ts ++ ss.map (·.1)).map S)]) ∧ ss.length = j ∧ (∀ s ∈ ss, Lab s.1) ∧ (∀ s ∈ ss, Menu s.2 ∧ s.2.length ≤ 6) ∧ 0 < waysOf ss ∧ waysOf ss ≤ 12 ∧ Takn (n + ss.length) (ts ++ ss.map (·.1)) ∧ Pool lp')
    ⟨[], lp1, by simp [waysOf], rfl, fun _ m => (by cases m), fun _ m => (by cases m), by decide, by decide, by simpa using ht, h1⟩ ?_) ?_
  · rintro j _ hj ⟨ss, lp2, rfl, hl, hlab, hmenu, hw0, hw, htk, h2⟩
    have d1 : fdivD (.int 12) (.int ((waysOf ss : Nat) : Int)) = .ok (.int ((12 / waysOf ss : Nat) : Int)) := by
      rw [fdivD_i ⟨by omega, by omega⟩, Int.fdiv_eq_ediv_of_nonneg _ (by omega)]
      congr 2
    have q1 : 1 ≤ 12 / waysOf ss := by rw [Nat.le_div_iff_mul_le hw0]; omega
    obtain ⟨mx, em, hm1, hm2, hm3⟩ : ∃ mx : Nat, minA [.int 6, .int ((12 / waysOf ss : Nat) : Int)] = .ok (.int (mx : Int)) ∧ 1 ≤ mx ∧ mx ≤ 6 ∧ mx ≤ 12 / waysOf ss := by
      by_cases e : ((12 / waysOf ss : Nat) : Int) < 6
      · exact ⟨12 / waysOf ss, by rw [minA_i, if_pos e], q1, by omega, Nat.le_refl _⟩
      · exact ⟨6, by rw [minA_i, if_neg e]; rfl, by decide, by decide, by omega⟩
    simp -implicitDefEqProofs only [bind_bind, ok_bind, dOnly_ok, callC_0, callC_1, callC_2, callC_3, callC_n, putC_0, putC_1, putC_2, putC_3, putC_n, unl_l, unn_n, finE_rt, finN_rt, finN_nx, upC_rt, upC_bk, upC_ct, dnC_nx, dnC_rt, seqC_nx, seqC_rt, seqC_bk, seqC_ct, dropC_0, dropC_1, dropC_2, dropC_3, cellL_0, cellL_1, cellL_2, cellL_3, cellL_4, cellL_5, EI, if_true, if_false, Bool.false_eq_true, decide_true, decide_false, Bool.not_true, Bool.not_false, S_nil, reduceIte, List.map_cons, List.map_nil, List.tail_cons, IS, d1, em, APs]
    refine Ok.bind (draw_Ok h2 (n := mx) (by omega) (by omega)) ?_
    rintro _ ⟨r, lp3, rfl, hr, h3⟩
    have e1 : (1 + (r : Int)) = ((r + 1 : Nat) : Int) := by omega
    simp -implicitDefEqProofs only [bind_bind, ok_bind, dOnly_ok, callC_0, callC_1, callC_2, callC_3, callC_n, putC_0, putC_1, putC_2, putC_3, putC_n, unl_l, unn_n, finE_rt, finN_rt, finN_nx, upC_rt, upC_bk, upC_ct, dnC_nx, dnC_rt, seqC_nx, seqC_rt, seqC_bk, seqC_ct, dropC_0, dropC_1, dropC_2, dropC_3, cellL_0, cellL_1, cellL_2, cellL_3, cellL_4, cellL_5, EI, if_true, if_false, Bool.false_eq_true, decide_true, decide_false, Bool.not_true, Bool.not_false, S_nil, reduceIte, List.map_cons, List.map_nil, List.tail_cons, IS, e1, APs]
    refine Ok.bind (menu_Ok h3 (n := r + 1) (by omega) (by omega)) ?_
    rintro _ ⟨ws, lp4, rfl, hws, hwl, h4⟩
    have c1 : mulD (.int ((waysOf ss : Nat) : Int)) (.int ((ws.length : Nat) : Int)) = .ok (.int ((waysOf ss * ws.length : Nat) : Int)) := by
      rw [mulD_i (.inl ⟨by omega, by omega⟩)]
      congr 2
    simp -implicitDefEqProofs only [bind_bind, ok_bind, dOnly_ok, callC_0, callC_1, callC_2, callC_3, callC_n, putC_0, putC_1, putC_2, putC_3, putC_n, unl_l, unn_n, finE_rt, finN_rt, finN_nx, upC_rt, upC_bk, upC_ct, dnC_nx, dnC_rt, seqC_nx, seqC_rt, seqC_bk, seqC_ct, dropC_0, dropC_1, dropC_2, dropC_3, cellL_0, cellL_1, cellL_2, cellL_3, cellL_4, cellL_5, EI, if_true, if_false, Bool.false_eq_true, decide_true, decide_false, Bool.not_true, Bool.not_false, S_nil, reduceIte, List.map_cons, List.map_nil, List.tail_cons, IS, List.length_map, c1, CCs, APs]
    have := htk.len
    refine Ok.bind (label_Ok h4 htk.tx (by omega)) ?_
    rintro _ ⟨x, lp5, rfl, hx, hxn, h5⟩
    simp -implicitDefEqProofs only [bind_bind, ok_bind, dOnly_ok, callC_0, callC_1, callC_2, callC_3, callC_n, putC_0, putC_1, putC_2, putC_3, putC_n, unl_l, unn_n, finE_rt, finN_rt, finN_nx, upC_rt, upC_bk, upC_ct, dnC_nx, dnC_rt, seqC_nx, seqC_rt, seqC_bk, seqC_ct, dropC_0, dropC_1, dropC_2, dropC_3, cellL_0, cellL_1, cellL_2, cellL_3, cellL_4, cellL_5, EI, if_true, if_false, Bool.false_eq_true, decide_true, decide_false, Bool.not_true, Bool.not_false, S_nil, reduceIte, List.map_cons, List.map_nil, List.tail_cons, IS, CCs, appD_ok (ds := ss.map slotD) (by rw [List.length_map, sizeLine_eq]; omega), List.set_cons_zero]
    have hne : 0 < ws.length := List.length_pos_iff.mpr hws.ne
    have hprod : waysOf ss * ws.length ≤ 12 := Nat.le_trans (Nat.mul_le_mul_left _ (show ws.length ≤ 12 / waysOf ss by omega)) (Nat.mul_div_le 12 (waysOf ss))
    refine .ret ⟨_, .inl rfl, ss ++ [(x, ws)], lp5, ?_, by simp [hl], fun s m => ?_, fun s m => ?_, ?_, ?_, ?_, h5⟩
    · rw [ways_snoc]
      simp [slotD]
    · rcases List.mem_append.mp m with m | m
      · exact hlab s m
      · rw [List.mem_singleton.mp m]; exact hx
    · rcases List.mem_append.mp m with m | m
      · exact hmenu s m
      · rw [List.mem_singleton.mp m]; exact ⟨hws, by show ws.length ≤ 6; omega⟩
    · rw [ways_snoc]; exact Nat.mul_pos hw0 hne
    · rw [ways_snoc]; exact hprod
    · have := htk.snoc hx hxn
      simpa [Nat.add_assoc] using this
  · rintro _ ⟨_, rfl, ss, lp2, rfl, hl, hlab, hmenu, hw0, hw, htk, h2⟩
    simp -implicitDefEqProofs only [bind_bind, ok_bind, dOnly_ok, callC_0, callC_1, callC_2, callC_3, callC_n, putC_0, putC_1, putC_2, putC_3, putC_n, unl_l, unn_n, finE_rt, finN_rt, finN_nx, upC_rt, upC_bk, upC_ct, dnC_nx, dnC_rt, seqC_nx, seqC_rt, seqC_bk, seqC_ct, dropC_0, dropC_1, dropC_2, dropC_3, cellL_0, cellL_1, cellL_2, cellL_3, cellL_4, cellL_5, EI, if_true, if_false, Bool.false_eq_true, decide_true, decide_false, Bool.not_true, Bool.not_false, S_nil, reduceIte, List.map_cons, List.map_nil, List.tail_cons, IS]
    exact .ret ⟨ss, lp2, rfl, ⟨hlab, hmenu, by omega, hw⟩, htk, h2⟩
/-! ### forms -/
inductive Form where
  | mk (slots : List Slot) (lists : List (List Nat × Form))
mutual
def formD : Form → PD
  | .mk ss ls => .tuple [.tuple (ss.map slotD), .tuple (listsD ls)]
def listsD : List (List Nat × Form) → List PD
  | [] => []
  | (x, f) :: r => .tuple [S x, formD f] :: listsD r
end
theorem listsD_map : ∀ ls : List (List Nat × Form), listsD ls = ls.map fun p => .tuple [S p.1, formD p.2]
  | [] => by simp [listsD]
  | (x, f) :: r => by rw [listsD, listsD_map r]; rfl
theorem formD_mk (ss : List Slot) (ls : List (List Nat × Form)) : formD (.mk ss ls) = .tuple [.tuple (ss.map slotD), .tuple (ls.map fun p => .tuple [S p.1, formD p.2])] := by
  rw [formD, listsD_map]
/-- the widths of the record forms, and the number of states so far -/
def widths (P : List Int) (SL : List (List Slot)) : Nat → List Nat
  | 0 => []
  | k + 1 =>
    let w := widths P SL k
    w ++ [(if k = 0 then 1 else w.getD (P.getD k 0).toNat 0) * waysOf (SL.getD k [])]
def statesTo (P : List Int) (SL : List (List Slot)) : Nat → Nat
  | 0 => 2
  | k + 1 => statesTo P SL k + (if k = 0 then 0 else 2 * (widths P SL k).getD (P.getD k 0).toNat 0)
def statesN (P : List Int) (SL : List (List Slot)) : Nat := statesTo P SL P.length
theorem widths_len (P : List Int) (SL : List (List Slot)) : ∀ k, (widths P SL k).length = k
  | 0 => rfl
  | k + 1 => by unfold widths; rw [List.length_append, widths_len P SL k]; rfl
/-- the tree of record forms: parents come first -/
structure Tree (m : Nat) (P : List Int) (SL : List (List Slot)) : Prop where
  pos : 0 < m
  lp : P.length = m
  ls : SL.length = m
  up : ∀ k, 0 < k → k < m → ∃ p : Nat, P[k]? = some (p : Int) ∧ p < k
  top : P[0]? = some (-1)
  slots : ∀ ss ∈ SL, Slots ss
  few : m ≤ 10

def slotsD (ss : List Slot) : PD := .tuple (ss.map slotD)
theorem width_loop {R : Type} {f : PD → PD → Out (Ctl PD R PD)} (hf : ∀ (s : Slot) (w : Nat), s.2.length ≤ 6 → f (slotD s) (.int ((w : Nat) : Int)) = .ok (.nx (.int ((w * s.2.length : Nat) : Int)))) : ∀ (ss : List Slot) (w : Nat), (∀ s ∈ ss, s.2.length ≤ 6) → forM f (ss.map slotD) (.int ((w : Nat) : Int)) = .ok (.nx (.int ((w * waysOf ss : Nat) : Int)))
  | [], w, _ => by simp [forM, waysOf]
  | s :: ss, w, h => by
    rw [List.map_cons]
    unfold forM
    rw [hf s w (h s List.mem_cons_self), ok_bind]
    dsimp only
    rw [width_loop hf ss _ fun s m => h s (List.mem_cons_of_mem _ m)]
    have : waysOf (s :: ss) = s.2.length * waysOf ss := by
      unfold waysOf
      rw [List.map_cons, List.foldl_cons, foldl_mul, Nat.one_mul]
    rw [this, Nat.mul_assoc]
theorem states_ok {m : Nat} {P : List Int} {SL : List (List Slot)} (t : Tree m P SL) : Ok (m__law_states_cc (P.map PyData.int) (SL.map slotsD)) fun r => r = (.int ((statesN P SL : Nat) : Int), [.l (P.map PyData.int), .l (SL.map slotsD)]) := by
  have hlen : (P.map PyData.int).length = m := by rw [List.length_map, t.lp]
  have := t.few
  simp -implicitDefEqProofs only [bind_bind, ok_bind, dOnly_ok, callC_0, callC_1, callC_2, callC_3, callC_n, putC_0, putC_1, putC_2, putC_3, putC_n, unl_l, unn_n, finE_rt, finN_rt, finN_nx, upC_rt, upC_bk, upC_ct, dnC_nx, dnC_rt, seqC_nx, seqC_rt, seqC_bk, seqC_ct, dropC_0, dropC_1, dropC_2, dropC_3, cellL_0, cellL_1, cellL_2, cellL_3, cellL_4, cellL_5, EI, if_true, if_false, Bool.false_eq_true, decide_true, decide_false, Bool.not_true, Bool.not_false, S_nil, reduceIte, List.map_cons, List.map_nil, List.tail_cons, IS, m__law_states_cc, hlen, rangeD_n (n := m) (by omega)]
  refine Ok.bind (forM_range (fun k (l : PD × List PD) => l = (.int ((statesTo P SL k : Nat) : Int), (widths P SL k).map fun w => PyData.int ((w : Nat) : Int))) rfl ?_) ?_
  · rintro k _ hk rfl
    have hs : (SL.map slotsD)[k]? = some (slotsD (SL.getD k [])) := by
      rw [List.getElem?_map, List.getD_eq_getElem?_getD, List.getElem?_eq_getElem (by rw [t.ls]; exact hk)]
      rfl
    have hss : Slots (SL.getD k []) := by
      rw [List.getD_eq_getElem?_getD, List.getElem?_eq_getElem (by rw [t.ls]; exact hk)]
      exact t.slots _ (List.getElem_mem _)
    have happ : ∀ w : Nat, appD ((widths P SL k).map fun w => PyData.int ((w : Nat) : Int)) (.int ((w : Nat) : Int)) = .ok (((widths P SL k) ++ [w]).map fun w => PyData.int ((w : Nat) : Int)) := fun w => by
      rw [appD_ok (by rw [List.length_map, widths_len, sizeLine_eq]; omega), List.map_append]
      rfl
    have hloop : ∀ (w : Nat) {f : PD → PD → Out (Ctl PD (PD × List CO) PD)}, (∀ (s : Slot) (w : Nat), s.2.length ≤ 6 → f (slotD s) (.int ((w : Nat) : Int)) = .ok (.nx (.int ((w * s.2.length : Nat) : Int)))) → forM f ((SL.getD k []).map slotD) (.int ((w : Nat) : Int)) = .ok (.nx (.int ((w * waysOf (SL.getD k []) : Nat) : Int))) := fun w f hf => width_loop hf _ _ fun s m => (hss.menu s m).2
    by_cases h0 : k = 0
    · subst h0
      simp -implicitDefEqProofs only [bind_bind, ok_bind, dOnly_ok, callC_0, callC_1, callC_2, callC_3, callC_n, putC_0, putC_1, putC_2, putC_3, putC_n, unl_l, unn_n, finE_rt, finN_rt, finN_nx, upC_rt, upC_bk, upC_ct, dnC_nx, dnC_rt, seqC_nx, seqC_rt, seqC_bk, seqC_ct, dropC_0, dropC_1, dropC_2, dropC_3, cellL_0, cellL_1, cellL_2, cellL_3, cellL_4, cellL_5, EI, if_true, if_false, Bool.false_eq_true, decide_true, decide_false, Bool.not_true, Bool.not_false, S_nil, reduceIte, List.map_cons, List.map_nil, List.tail_cons, IS, show ¬ ((0 : Int) < ((0 : Nat) : Int)) by decide, idxD_l hs, slotsD]
      rw [show PyData.int 1 = PyData.int (((1 : Nat) : Nat) : Int) from rfl, hloop 1 (fun s w hw => ?_)]
      · simp -implicitDefEqProofs only [bind_bind, ok_bind, dOnly_ok, callC_0, callC_1, callC_2, callC_3, callC_n, putC_0, putC_1, putC_2, putC_3, putC_n, unl_l, unn_n, finE_rt, finN_rt, finN_nx, upC_rt, upC_bk, upC_ct, dnC_nx, dnC_rt, seqC_nx, seqC_rt, seqC_bk, seqC_ct, dropC_0, dropC_1, dropC_2, dropC_3, cellL_0, cellL_1, cellL_2, cellL_3, cellL_4, cellL_5, EI, if_true, if_false, Bool.false_eq_true, decide_true, decide_false, Bool.not_true, Bool.not_false, S_nil, reduceIte, List.map_cons, List.map_nil, List.tail_cons, IS]
        rw [happ]
        simp -implicitDefEqProofs only [bind_bind, ok_bind, dOnly_ok, callC_0, callC_1, callC_2, callC_3, callC_n, putC_0, putC_1, putC_2, putC_3, putC_n, unl_l, unn_n, finE_rt, finN_rt, finN_nx, upC_rt, upC_bk, upC_ct, dnC_nx, dnC_rt, seqC_nx, seqC_rt, seqC_bk, seqC_ct, dropC_0, dropC_1, dropC_2, dropC_3, cellL_0, cellL_1, cellL_2, cellL_3, cellL_4, cellL_5, EI, if_true, if_false, Bool.false_eq_true, decide_true, decide_false, Bool.not_true, Bool.not_false, S_nil, reduceIte, List.map_cons, List.map_nil, List.tail_cons, IS]
        exact .ret ⟨_, .inl rfl, by simp [statesTo, widths]⟩
      · have c1 : mulD (.int ((w : Nat) : Int)) (.int ((s.2.length : Nat) : Int)) = .ok (.int ((w * s.2.length : Nat) : Int)) := by
          rw [mulD_i (.inr ⟨by omega, by omega⟩)]
          congr 2
        simp -implicitDefEqProofs only [bind_bind, ok_bind, dOnly_ok, callC_0, callC_1, callC_2, callC_3, callC_n, putC_0, putC_1, putC_2, putC_3, putC_n, unl_l, unn_n, finE_rt, finN_rt, finN_nx, upC_rt, upC_bk, upC_ct, dnC_nx, dnC_rt, seqC_nx, seqC_rt, seqC_bk, seqC_ct, dropC_0, dropC_1, dropC_2, dropC_3, cellL_0, cellL_1, cellL_2, cellL_3, cellL_4, cellL_5, EI, if_true, if_false, Bool.false_eq_true, decide_true, decide_false, Bool.not_true, Bool.not_false, S_nil, reduceIte, List.map_cons, List.map_nil, List.tail_cons, IS, slotD, List.length_map, show ((1 : Nat) : Int) = 1 from rfl, c1]
    · obtain ⟨p, hp, hpk⟩ := t.up k (by omega) hk
      have hpos : (0 : Int) < (k : Int) := by omega
      have hi : (P.map PyData.int)[k]? = some (.int ((p : Nat) : Int)) := by rw [List.getElem?_map, hp]; rfl
      have hw : ((widths P SL k).map fun w => PyData.int ((w : Nat) : Int))[p]? = some (.int (((widths P SL k).getD p 0 : Nat) : Int)) := by
        rw [List.getElem?_map, List.getD_eq_getElem?_getD, List.getElem?_eq_getElem (by rw [widths_len]; exact hpk)]
        rfl
      have hPD : (P.getD k 0).toNat = p := by rw [List.getD_eq_getElem?_getD, hp]; rfl
      have c2 : ∀ x : Nat, mulD (.int 2) (.int ((x : Nat) : Int)) = .ok (.int ((2 * x : Nat) : Int)) := fun x => by
        rw [mulD_i (.inl ⟨by omega, by omega⟩)]
        congr 2
      simp -implicitDefEqProofs only [bind_bind, ok_bind, dOnly_ok, callC_0, callC_1, callC_2, callC_3, callC_n, putC_0, putC_1, putC_2, putC_3, putC_n, unl_l, unn_n, finE_rt, finN_rt, finN_nx, upC_rt, upC_bk, upC_ct, dnC_nx, dnC_rt, seqC_nx, seqC_rt, seqC_bk, seqC_ct, dropC_0, dropC_1, dropC_2, dropC_3, cellL_0, cellL_1, cellL_2, cellL_3, cellL_4, cellL_5, EI, if_true, if_false, Bool.false_eq_true, decide_true, decide_false, Bool.not_true, Bool.not_false, S_nil, reduceIte, List.map_cons, List.map_nil, List.tail_cons, IS, hpos, idxD_l hi, idxD_l hw, c2, idxD_l hs, slotsD]
      rw [hloop _ (fun s w hw => ?_)]
      · simp -implicitDefEqProofs only [bind_bind, ok_bind, dOnly_ok, callC_0, callC_1, callC_2, callC_3, callC_n, putC_0, putC_1, putC_2, putC_3, putC_n, unl_l, unn_n, finE_rt, finN_rt, finN_nx, upC_rt, upC_bk, upC_ct, dnC_nx, dnC_rt, seqC_nx, seqC_rt, seqC_bk, seqC_ct, dropC_0, dropC_1, dropC_2, dropC_3, cellL_0, cellL_1, cellL_2, cellL_3, cellL_4, cellL_5, EI, if_true, if_false, Bool.false_eq_true, decide_true, decide_false, Bool.not_true, Bool.not_false, S_nil, reduceIte, List.map_cons, List.map_nil, List.tail_cons, IS]
        rw [happ]
        simp -implicitDefEqProofs only [bind_bind, ok_bind, dOnly_ok, callC_0, callC_1, callC_2, callC_3, callC_n, putC_0, putC_1, putC_2, putC_3, putC_n, unl_l, unn_n, finE_rt, finN_rt, finN_nx, upC_rt, upC_bk, upC_ct, dnC_nx, dnC_rt, seqC_nx, seqC_rt, seqC_bk, seqC_ct, dropC_0, dropC_1, dropC_2, dropC_3, cellL_0, cellL_1, cellL_2, cellL_3, cellL_4, cellL_5, EI, if_true, if_false, Bool.false_eq_true, decide_true, decide_false, Bool.not_true, Bool.not_false, S_nil, reduceIte, List.map_cons, List.map_nil, List.tail_cons, IS]
        refine .ret ⟨_, .inl rfl, ?_⟩
        simp only [statesTo, widths, if_neg h0, hPD]
        congr 2
      · have c1 : mulD (.int ((w : Nat) : Int)) (.int ((s.2.length : Nat) : Int)) = .ok (.int ((w * s.2.length : Nat) : Int)) := by
          rw [mulD_i (.inr ⟨by omega, by omega⟩)]
          congr 2
        simp -implicitDefEqProofs only [bind_bind, ok_bind, dOnly_ok, callC_0, callC_1, callC_2, callC_3, callC_n, putC_0, putC_1, putC_2, putC_3, putC_n, unl_l, unn_n, finE_rt, finN_rt, finN_nx, upC_rt, upC_bk, upC_ct, dnC_nx, dnC_rt, seqC_nx, seqC_rt, seqC_bk, seqC_ct, dropC_0, dropC_1, dropC_2, dropC_3, cellL_0, cellL_1, cellL_2, cellL_3, cellL_4, cellL_5, EI, if_true, if_false, Bool.false_eq_true, decide_true, decide_false, Bool.not_true, Bool.not_false, S_nil, reduceIte, List.map_cons, List.map_nil, List.tail_cons, IS, slotD, List.length_map, c1]
  · rintro _ ⟨l, rfl, rfl⟩
    simp -implicitDefEqProofs only [bind_bind, ok_bind, dOnly_ok, callC_0, callC_1, callC_2, callC_3, callC_n, putC_0, putC_1, putC_2, putC_3, putC_n, unl_l, unn_n, finE_rt, finN_rt, finN_nx, upC_rt, upC_bk, upC_ct, dnC_nx, dnC_rt, seqC_nx, seqC_rt, seqC_bk, seqC_ct, dropC_0, dropC_1, dropC_2, dropC_3, cellL_0, cellL_1, cellL_2, cellL_3, cellL_4, cellL_5, EI, if_true, if_false, Bool.false_eq_true, decide_true, decide_false, Bool.not_true, Bool.not_false, S_nil, reduceIte, List.map_cons, List.map_nil, List.tail_cons, IS]
    exact .ret (by rw [statesN, t.lp])
/-! ### the shape -/
def kids (P : List Int) (k : Nat) : List Nat := (List.range P.length).filter fun j => decide (P.getD j 0 = (k : Int))
def bf (L : List (List Nat)) (SL : List (List Slot)) (P : List Int) : Nat → Nat → Form
  | 0, _ => .mk [] []
  | n + 1, k => .mk (SL.getD k []) ((kids P k).map fun j => (L.getD j [], bf L SL P n j))
theorem kids_lt {m : Nat} {P : List Int} {SL : List (List Slot)} (t : Tree m P SL) {j k : Nat} (h : j ∈ kids P k) : k < j ∧ j < m := by
  unfold kids at h
  rw [List.mem_filter, List.mem_range, decide_eq_true_eq, t.lp] at h
  obtain ⟨hj, he⟩ := h
  refine ⟨?_, hj⟩
  by_cases h0 : j = 0
  · subst h0
    rw [List.getD_eq_getElem?_getD, t.top] at he
    simp at he
  · obtain ⟨p, hp, hpj⟩ := t.up j (by omega) hj
    rw [List.getD_eq_getElem?_getD, hp] at he
    simp at he
    omega
theorem bf_fuel {m : Nat} {P : List Int} {SL : List (List Slot)} (t : Tree m P SL) (L : List (List Nat)) : ∀ (n n' k : Nat), k < m → m - k ≤ n → m - k ≤ n' → bf L SL P n k = bf L SL P n' k
  | 0, _, k, hk, h, _ => by omega
  | _ + 1, 0, k, hk, _, h => by omega
  | n + 1, n' + 1, k, hk, h, h' => by
    unfold bf
    congr 1
    apply List.map_congr_left
    intro j hj
    obtain ⟨h1, h2⟩ := kids_lt t hj
    rw [bf_fuel t L n n' j h2 (by omega) (by omega)]
/-- the forms from the last to the first -/
def built (L : List (List Nat)) (SL : List (List Slot)) (P : List Int) (m at_ : Nat) : List PD := (List.range m).map fun k => if m - at_ ≤ k then formD (bf L SL P m k) else .tuple []
theorem built_get {L : List (List Nat)} {SL : List (List Slot)} {P : List Int} {m at_ k : Nat} (hk : k < m) : (built L SL P m at_)[k]? = some (if m - at_ ≤ k then formD (bf L SL P m k) else .tuple []) := by
  unfold built
  rw [List.getElem?_map, List.getElem?_range hk]
  rfl
theorem built_set {L : List (List Nat)} {SL : List (List Slot)} {P : List Int} {m at_ : Nat} (h : at_ < m) : (built L SL P m at_).set (m - 1 - at_) (formD (bf L SL P m (m - 1 - at_))) = built L SL P m (at_ + 1) := by
  apply List.ext_getElem?
  intro i
  by_cases hi : i < m
  · rw [built_get hi]
    by_cases e : m - 1 - at_ = i
    · subst e
      rw [List.getElem?_set_self (by unfold built; simp; omega), if_pos (by omega)]
    · rw [List.getElem?_set_ne e, built_get hi]
      by_cases e2 : m - at_ ≤ i
      · rw [if_pos e2, if_pos (by omega)]
      · rw [if_neg e2, if_neg (by omega)]
  · rw [List.getElem?_eq_none (by rw [List.length_set]; unfold built; simp; omega), List.getElem?_eq_none (by unfold built; simp; omega)]
theorem setD_n {ds : List PD} {n : Nat} {d : PD} (h : n < ds.length) : setD ds (.int ((n : Nat) : Int)) d = .ok (ds.set n d) := by
  show (match ixN ds.length ((n : Nat) : Int) with | some j => Out.ok (ds.set j d) | none => .bad) = _
  have : ixN ds.length ((n : Nat) : Int) = some n := by unfold ixN; rw [if_pos (by omega), if_pos (by omega)]; simp
  rw [this]

/-- the words that no name may be -/
def RES : List (List Nat) := [[98, 121], [101, 108, 115, 101], [101, 110, 100], [102, 111, 114], [105, 102], [117, 115, 101]]
theorem RES_eq : [PyData.str (Str.ofString "by"), PyData.str (Str.ofString "else"), PyData.str (Str.ofString "end"), PyData.str (Str.ofString "for"), PyData.str (Str.ofString "if"), PyData.str (Str.ofString "use")] = RES.map S := by kernel_rfl
theorem RES_takn : Takn 6 RES := ⟨by unfold Tx; decide, by decide, fun _ => by decide⟩
/-- what the maker of shapes leaves: the tree behind a form -/
structure Made (n : Nat) (P : List Int) (SL : List (List Slot)) (L : List (List Nat)) : Prop where
  tree : ∃ m, Tree m P SL ∧ m ≤ L.length ∧ m ≤ 6
  head : L.head? = some []
  lab : ∀ x ∈ L.tail, Lab x
  names : (RES ++ (SL.flatMap fun ss => ss.map (·.1)) ++ (L.take P.length).tail).Nodup
  kids : ∀ k : Nat, (P.filter fun i => decide (i = (k : Int))).length ≤ 3
  few : statesN P SL ≤ n
def eqI (a : Int) : PD → Option PD
  | .int i => if i = a then some (.int 1) else none
  | _ => none
theorem cnt_fm (a : Int) : ∀ P : List Int, ((P.map PyData.int).filterMap (eqI a)).length = (P.filter fun i => decide (i = a)).length
  | [] => rfl
  | p :: P => by
    have ih := cnt_fm a P
    rw [List.map_cons, List.filterMap_cons, List.filter_cons]
    by_cases e : p = a
    · rw [show eqI a (.int p) = some (.int 1) from if_pos e, if_pos (by simp [e])]
      simp only [List.length_cons, ih]
    · rw [show eqI a (.int p) = none from if_neg e, if_neg (by simp [e])]
      exact ih
theorem Tree.snoc {m : Nat} {P : List Int} {SL : List (List Slot)} (t : Tree m P SL) {ab : Nat} {ss : List Slot} (h : ab < m) (hs : Slots ss) (hm : m < 10) : Tree (m + 1) (P ++ [(ab : Int)]) (SL ++ [ss]) := by
  have h1 := t.lp
  have h2 := t.ls
  have h3 := t.pos
  refine ⟨by omega, by simp [h1], by simp [h2], fun k k0 km => ?_, ?_, fun s hs' => ?_, by omega⟩
  · by_cases e : k < m
    · obtain ⟨p, hp, hpk⟩ := t.up k k0 e
      exact ⟨p, by rw [List.getElem?_append_left (by omega)]; exact hp, hpk⟩
    · have : k = m := by omega
      subst this
      exact ⟨ab, by rw [List.getElem?_append_right (by omega), h1]; simp, h⟩
  · rw [List.getElem?_append_left (by omega)]; exact t.top
  · rcases List.mem_append.mp hs' with q | q
    · exact t.slots s q
    · rw [List.mem_singleton.mp q]; exact hs
theorem flatMap_sub {α β : Type} (f : α → List β) {xs ys : List α} (h : xs.Sublist ys) : (xs.flatMap f).Sublist (ys.flatMap f) := by
  induction h with
  | slnil => exact .refl _
  | cons a _ ih => rw [List.flatMap_cons]; exact ih.trans (List.sublist_append_right _ _)
  | cons_cons a _ ih => rw [List.flatMap_cons, List.flatMap_cons]; exact (List.Sublist.refl _).append ih
theorem popD_snoc {ds : List PD} (h : ds ≠ []) : popD ds = .ok (ds.getLast h, ds.dropLast) := by
  unfold popD
  have hl : 0 < ds.length := List.length_pos_iff.mpr h
  rw [List.getElem?_eq_getElem (by omega), List.getLast_eq_getElem]
theorem Tree.drop {m : Nat} {P : List Int} {SL : List (List Slot)} (t : Tree (m + 1) P SL) (hm : 0 < m) : Tree m P.dropLast SL.dropLast := by
  have h1 := t.lp
  have h2 := t.ls
  have h3 := t.few
  refine ⟨hm, by simp [h1], by simp [h2], fun k k0 km => ?_, ?_, fun s hs' => t.slots s ((List.dropLast_sublist _).subset hs'), by omega⟩
  · obtain ⟨p, hp, hpk⟩ := t.up k k0 (by omega)
    exact ⟨p, by rw [List.getElem?_dropLast, if_pos (by omega)]; exact hp, hpk⟩
  · rw [List.getElem?_dropLast, if_pos (by omega)]; exact t.top
theorem states_one {P : List Int} {SL : List (List Slot)} (t : Tree 1 P SL) : statesN P SL = 2 := by
  unfold statesN
  rw [t.lp]
  rfl
theorem built0 {L : List (List Nat)} {SL : List (List Slot)} {P : List Int} : (P.map PyData.int).filterMap (fun _ => some (PyData.tuple [])) = built L SL P P.length 0 := by
  unfold built
  have e1 : ∀ xs : List PD, xs.filterMap (fun _ => some (PyData.tuple [])) = List.replicate xs.length (.tuple []) := by
    intro xs
    induction xs with
    | nil => rfl
    | cons x xs ih => rw [List.filterMap_cons, ih]; rfl
  rw [e1, List.length_map]
  apply List.ext_getElem?
  intro i
  by_cases h : i < P.length
  · rw [List.getElem?_replicate, if_pos h, List.getElem?_map, List.getElem?_range h]
    show _ = some (if P.length - 0 ≤ i then _ else _)
    rw [if_neg (by omega)]
  · rw [List.getElem?_eq_none (by simpa using h), List.getElem?_eq_none (by simpa using h)]
def kidG (P : List Int) (L : List (List Nat)) (sh : List PD) (k : Nat) : PD → Option PD
  | .int i => if P.getD i.toNat 0 = (k : Int) then some (.tuple [S (L.getD i.toNat []), sh.getD i.toNat .none]) else none
  | _ => none
theorem kidG_map (P : List Int) (L : List (List Nat)) (sh : List PD) (k : Nat) : ((List.range P.length).map fun j => PyData.int ((j : Nat) : Int)).filterMap (kidG P L sh k) = (kids P k).map fun j => .tuple [S (L.getD j []), sh.getD j .none] := by
  unfold kids
  generalize List.range P.length = js
  induction js with
  | nil => rfl
  | cons j js ih =>
    rw [List.map_cons, List.filterMap_cons, List.filter_cons]
    by_cases e : P.getD j 0 = (k : Int)
    · rw [show kidG P L sh k (.int ((j : Nat) : Int)) = some (.tuple [S (L.getD j []), sh.getD j .none]) from if_pos e, if_pos (by simpa using e), List.map_cons]
      simp only [ih]
    · rw [show kidG P L sh k (.int ((j : Nat) : Int)) = none from if_neg e, if_neg (by simpa using e)]
      exact ih
theorem shape_Ok {lp : List PD} {n : Nat} (h : Pool lp) (hn : 2 ≤ n) : Ok (m__law_shape lp (.int (n : Int))) fun r => ∃ (P : List Int) (SL : List (List Slot)) (L : List (List Nat)) (lp' : List PD), r = (formD (bf L SL P P.length 0), [.l lp']) ∧ Made n P SL L ∧ Pool lp' := by
  simp -implicitDefEqProofs only [bind_bind, ok_bind, dOnly_ok, callC_0, callC_1, callC_2, callC_3, callC_n, putC_0, putC_1, putC_2, putC_3, putC_n, unl_l, unn_n, finE_rt, finN_rt, finN_nx, upC_rt, upC_bk, upC_ct, dnC_nx, dnC_rt, seqC_nx, seqC_rt, seqC_bk, seqC_ct, dropC_0, dropC_1, dropC_2, dropC_3, cellL_0, cellL_1, cellL_2, cellL_3, cellL_4, cellL_5, EI, if_true, if_false, Bool.false_eq_true, decide_true, decide_false, Bool.not_true, Bool.not_false, S_nil, reduceIte, List.map_cons, List.map_nil, List.tail_cons, IS, m__law_shape, APs, CCs, RES_eq]
  refine Ok.bind (slots_Ok h RES_takn (by decide)) ?_
  rintro _ ⟨s0, lp1, rfl, hs0, ht0, h1⟩
  simp -implicitDefEqProofs only [bind_bind, ok_bind, dOnly_ok, callC_0, callC_1, callC_2, callC_3, callC_n, putC_0, putC_1, putC_2, putC_3, putC_n, unl_l, unn_n, finE_rt, finN_rt, finN_nx, upC_rt, upC_bk, upC_ct, dnC_nx, dnC_rt, seqC_nx, seqC_rt, seqC_bk, seqC_ct, dropC_0, dropC_1, dropC_2, dropC_3, cellL_0, cellL_1, cellL_2, cellL_3, cellL_4, cellL_5, EI, if_true, if_false, Bool.false_eq_true, decide_true, decide_false, Bool.not_true, Bool.not_false, S_nil, reduceIte, List.map_cons, List.map_nil, List.tail_cons, IS, APs, CCs]
  refine Ok.bind (draw_Ok h1 (n := 8) (by decide) (by decide)) ?_
  rintro _ ⟨k, lp2, rfl, hk, h2⟩
  obtain ⟨c, hc5, ec⟩ : ∃ c : Nat, c ≤ 5 ∧ idxD (PyData.list [PyData.int 1, PyData.int 0, PyData.int 2, PyData.int 3, PyData.int 1, PyData.int 2, PyData.int 4, PyData.int 5]) (.int (k : Int)) = .ok (.int (c : Int)) := by
    have : k = 0 ∨ k = 1 ∨ k = 2 ∨ k = 3 ∨ k = 4 ∨ k = 5 ∨ k = 6 ∨ k = 7 := by omega
    rcases this with e | e | e | e | e | e | e | e <;> subst e
    · exact ⟨1, by decide, idxD_l rfl⟩
    · exact ⟨0, by decide, idxD_l rfl⟩
    · exact ⟨2, by decide, idxD_l rfl⟩
    · exact ⟨3, by decide, idxD_l rfl⟩
    · exact ⟨1, by decide, idxD_l rfl⟩
    · exact ⟨2, by decide, idxD_l rfl⟩
    · exact ⟨4, by decide, idxD_l rfl⟩
    · exact ⟨5, by decide, idxD_l rfl⟩
  simp -implicitDefEqProofs only [bind_bind, ok_bind, dOnly_ok, callC_0, callC_1, callC_2, callC_3, callC_n, putC_0, putC_1, putC_2, putC_3, putC_n, unl_l, unn_n, finE_rt, finN_rt, finN_nx, upC_rt, upC_bk, upC_ct, dnC_nx, dnC_rt, seqC_nx, seqC_rt, seqC_bk, seqC_ct, dropC_0, dropC_1, dropC_2, dropC_3, cellL_0, cellL_1, cellL_2, cellL_3, cellL_4, cellL_5, EI, if_true, if_false, Bool.false_eq_true, decide_true, decide_false, Bool.not_true, Bool.not_false, S_nil, reduceIte, List.map_cons, List.map_nil, List.tail_cons, IS, ec, rangeD_n (n := c) (by omega), CCs]
  refine Ok.bind (forM_range (fun j (l : List CO) => ∃ (vs : List Nat) (P : List Int) (SL : List (List Slot)) (L ts : List (List Nat)) (lp' : List PD) (m : Nat), l = [.l (vs.map fun v => PyData.int ((v : Nat) : Int)), .l (P.map PyData.int), .l (SL.map slotsD), .l (L.map S), .l (ts.map S), .l lp'] ∧
      vs.length = m ∧ L.length = m ∧ Tree m P SL ∧ m ≤ j + 1 ∧ L.head? = some [] ∧ (∀ x ∈ L.tail, Lab x) ∧ Takn (10 + 5 * (m - 1)) ts ∧ ts.Perm (RES ++ (SL.flatMap fun ss => ss.map (·.1)) ++ L.tail) ∧ (∀ k : Nat, (P.filter fun i => decide (i = (k : Int))).length ≤ 3) ∧ Pool lp')
    ⟨[1], [-1], [s0], [[]], RES ++ s0.map (·.1), lp2, 1, rfl, rfl, rfl, ?_, by decide, rfl, fun _ m => (by cases m), ht0.up (by have := hs0.few; omega), by simp, ?_, h2⟩ ?_) ?_
  · exact ⟨by decide, rfl, rfl, fun k h1 h2 => (by omega), rfl, fun ss m => by rw [List.mem_singleton.mp m]; exact hs0, by decide⟩
  · intro k
    exact Nat.le_trans (List.length_filter_le _ _) (by decide)
  · rintro j _ hj ⟨vs, P, SL, L, ts, lp', m, rfl, hv, hL, ht, hm, hhd, hlab, htk, hperm, hkid, hp⟩
    simp -implicitDefEqProofs only [bind_bind, ok_bind, dOnly_ok, callC_0, callC_1, callC_2, callC_3, callC_n, putC_0, putC_1, putC_2, putC_3, putC_n, unl_l, unn_n, finE_rt, finN_rt, finN_nx, upC_rt, upC_bk, upC_ct, dnC_nx, dnC_rt, seqC_nx, seqC_rt, seqC_bk, seqC_ct, dropC_0, dropC_1, dropC_2, dropC_3, cellL_0, cellL_1, cellL_2, cellL_3, cellL_4, cellL_5, EI, if_true, if_false, Bool.false_eq_true, decide_true, decide_false, Bool.not_true, Bool.not_false, S_nil, reduceIte, List.map_cons, List.map_nil, List.tail_cons, IS, CCs, APs, List.length_map]
    have hm0 := ht.pos
    have hP := ht.lp
    rw [hP]
    refine Ok.bind (draw_Ok hp (n := m) hm0 (by omega)) ?_
    rintro _ ⟨ab, lp3, rfl, hab, h3⟩
    have iv : idxD (.list (vs.map fun v => PyData.int ((v : Nat) : Int))) (.int (ab : Int)) = .ok (.int ((vs.getD ab 0 : Nat) : Int)) := idxD_l (by
      rw [List.getElem?_map, List.getD_eq_getElem?_getD, List.getElem?_eq_getElem (by rw [hv]; exact hab)]; rfl)
    have hline : lineD (P.map PyData.int) = .ok (P.map PyData.int) := lineD_ok (by rw [List.length_map, hP, sizeLine_eq]; omega)
    simp -implicitDefEqProofs only [bind_bind, ok_bind, dOnly_ok, callC_0, callC_1, callC_2, callC_3, callC_n, putC_0, putC_1, putC_2, putC_3, putC_n, unl_l, unn_n, finE_rt, finN_rt, finN_nx, upC_rt, upC_bk, upC_ct, dnC_nx, dnC_rt, seqC_nx, seqC_rt, seqC_bk, seqC_ct, dropC_0, dropC_1, dropC_2, dropC_3, cellL_0, cellL_1, cellL_2, cellL_3, cellL_4, cellL_5, EI, if_true, if_false, Bool.false_eq_true, decide_true, decide_false, Bool.not_true, Bool.not_false, S_nil, reduceIte, List.map_cons, List.map_nil, List.tail_cons, IS, CCs, iv]
    have keep : ∀ lp3, Pool lp3 → ∃ (vs' : List Nat) (P' : List Int) (SL' : List (List Slot)) (L' ts' : List (List Nat)) (lp' : List PD) (m' : Nat), [CO.l (vs.map fun v => PyData.int ((v : Nat) : Int)), .l (P.map PyData.int), .l (SL.map slotsD), .l (L.map S), .l (ts.map S), .l lp3] = [.l (vs'.map fun v => PyData.int ((v : Nat) : Int)), .l (P'.map PyData.int), .l (SL'.map slotsD), .l (L'.map S), .l (ts'.map S), .l lp'] ∧
      vs'.length = m' ∧ L'.length = m' ∧ Tree m' P' SL' ∧ m' ≤ j + 1 + 1 ∧ L'.head? = some [] ∧ (∀ x ∈ L'.tail, Lab x) ∧ Takn (10 + 5 * (m' - 1)) ts' ∧ ts'.Perm (RES ++ (SL'.flatMap fun ss => ss.map (·.1)) ++ L'.tail) ∧ (∀ k : Nat, (P'.filter fun i => decide (i = (k : Int))).length ≤ 3) ∧ Pool lp' :=
      fun lp3 h3 => ⟨vs, P, SL, L, ts, lp3, m, rfl, hv, hL, ht, by omega, hhd, hlab, htk, hperm, hkid, h3⟩
    by_cases hlev : ((vs.getD ab 0 : Nat) : Int) < 3
    · simp -implicitDefEqProofs only [bind_bind, ok_bind, dOnly_ok, callC_0, callC_1, callC_2, callC_3, callC_n, putC_0, putC_1, putC_2, putC_3, putC_n, unl_l, unn_n, finE_rt, finN_rt, finN_nx, upC_rt, upC_bk, upC_ct, dnC_nx, dnC_rt, seqC_nx, seqC_rt, seqC_bk, seqC_ct, dropC_0, dropC_1, dropC_2, dropC_3, cellL_0, cellL_1, cellL_2, cellL_3, cellL_4, cellL_5, EI, if_true, if_false, Bool.false_eq_true, decide_true, decide_false, Bool.not_true, Bool.not_false, S_nil, reduceIte, List.map_cons, List.map_nil, List.tail_cons, IS, hlev, hline]
      rw [compP_map (g := eqI (ab : Int)) (fun d hd => by
        obtain ⟨i, _, rfl⟩ := List.mem_map.mp hd
        simp -implicitDefEqProofs only [bind_bind, ok_bind, dOnly_ok, callC_0, callC_1, callC_2, callC_3, callC_n, putC_0, putC_1, putC_2, putC_3, putC_n, unl_l, unn_n, finE_rt, finN_rt, finN_nx, upC_rt, upC_bk, upC_ct, dnC_nx, dnC_rt, seqC_nx, seqC_rt, seqC_bk, seqC_ct, dropC_0, dropC_1, dropC_2, dropC_3, cellL_0, cellL_1, cellL_2, cellL_3, cellL_4, cellL_5, EI, if_true, if_false, Bool.false_eq_true, decide_true, decide_false, Bool.not_true, Bool.not_false, S_nil, reduceIte, List.map_cons, List.map_nil, List.tail_cons, IS]
        by_cases e : i = (ab : Int)
        · rw [show eqI (ab : Int) (.int i) = some (.int 1) from if_pos e]
          simp [e]
        · rw [show eqI (ab : Int) (.int i) = none from if_neg e]
          simp [e])]
      have hcnt := cnt_fm (ab : Int) P
      simp -implicitDefEqProofs only [bind_bind, ok_bind, dOnly_ok, callC_0, callC_1, callC_2, callC_3, callC_n, putC_0, putC_1, putC_2, putC_3, putC_n, unl_l, unn_n, finE_rt, finN_rt, finN_nx, upC_rt, upC_bk, upC_ct, dnC_nx, dnC_rt, seqC_nx, seqC_rt, seqC_bk, seqC_ct, dropC_0, dropC_1, dropC_2, dropC_3, cellL_0, cellL_1, cellL_2, cellL_3, cellL_4, cellL_5, EI, if_true, if_false, Bool.false_eq_true, decide_true, decide_false, Bool.not_true, Bool.not_false, S_nil, reduceIte, List.map_cons, List.map_nil, List.tail_cons, IS, hcnt]
      by_cases hc3 : ((P.filter fun i => decide (i = (ab : Int))).length : Int) < 3
      · simp -implicitDefEqProofs only [bind_bind, ok_bind, dOnly_ok, callC_0, callC_1, callC_2, callC_3, callC_n, putC_0, putC_1, putC_2, putC_3, putC_n, unl_l, unn_n, finE_rt, finN_rt, finN_nx, upC_rt, upC_bk, upC_ct, dnC_nx, dnC_rt, seqC_nx, seqC_rt, seqC_bk, seqC_ct, dropC_0, dropC_1, dropC_2, dropC_3, cellL_0, cellL_1, cellL_2, cellL_3, cellL_4, cellL_5, EI, if_true, if_false, Bool.false_eq_true, decide_true, decide_false, Bool.not_true, Bool.not_false, S_nil, reduceIte, List.map_cons, List.map_nil, List.tail_cons, IS, hc3, APs, CCs]
        have hlen := htk.len
        refine Ok.bind (label_Ok h3 htk.tx (by omega)) ?_
        rintro _ ⟨x, lp4, rfl, hx, hxn, h4⟩
        simp -implicitDefEqProofs only [bind_bind, ok_bind, dOnly_ok, callC_0, callC_1, callC_2, callC_3, callC_n, putC_0, putC_1, putC_2, putC_3, putC_n, unl_l, unn_n, finE_rt, finN_rt, finN_nx, upC_rt, upC_bk, upC_ct, dnC_nx, dnC_rt, seqC_nx, seqC_rt, seqC_bk, seqC_ct, dropC_0, dropC_1, dropC_2, dropC_3, cellL_0, cellL_1, cellL_2, cellL_3, cellL_4, cellL_5, EI, if_true, if_false, Bool.false_eq_true, decide_true, decide_false, Bool.not_true, Bool.not_false, S_nil, reduceIte, List.map_cons, List.map_nil, List.tail_cons, IS, CCs, APs, List.set_cons_succ, List.set_cons_zero, appD_ok (ds := L.map S) (d := S x) (by rw [List.length_map, hL, sizeLine_eq]; omega)]
        have htk2 := htk.snoc hx hxn
        refine Ok.bind (slots_Ok h4 htk2 (by omega)) ?_
        rintro _ ⟨ss, lp5, rfl, hss, htk3, h5⟩
        simp -implicitDefEqProofs only [bind_bind, ok_bind, dOnly_ok, callC_0, callC_1, callC_2, callC_3, callC_n, putC_0, putC_1, putC_2, putC_3, putC_n, unl_l, unn_n, finE_rt, finN_rt, finN_nx, upC_rt, upC_bk, upC_ct, dnC_nx, dnC_rt, seqC_nx, seqC_rt, seqC_bk, seqC_ct, dropC_0, dropC_1, dropC_2, dropC_3, cellL_0, cellL_1, cellL_2, cellL_3, cellL_4, cellL_5, EI, if_true, if_false, Bool.false_eq_true, decide_true, decide_false, Bool.not_true, Bool.not_false, S_nil, reduceIte, List.map_cons, List.map_nil, List.tail_cons, IS, CCs, APs, List.set_cons_succ, List.set_cons_zero, iv, appD_ok (ds := SL.map slotsD) (d := .tuple (ss.map slotD)) (by rw [List.length_map, ht.ls, sizeLine_eq]; omega), appD_ok (ds := P.map PyData.int) (d := .int (ab : Int)) (by rw [List.length_map, hP, sizeLine_eq]; omega),
          appD_ok (ds := vs.map fun v => PyData.int ((v : Nat) : Int)) (d := .int (((vs.getD ab 0 : Nat) : Int) + 1)) (by rw [List.length_map, hv, sizeLine_eq]; omega)]
        have htail : (L ++ [x]).tail = L.tail ++ [x] := by
          cases L with
          | nil => simp at hL; omega
          | cons a L => rfl
        refine .ret ⟨_, .inl rfl, vs ++ [vs.getD ab 0 + 1], P ++ [(ab : Int)], SL ++ [ss], L ++ [x], ts ++ [x] ++ ss.map (·.1), lp5, m + 1, ?_, by simp [hv], by simp [hL], ht.snoc hab hss (by omega), by omega, ?_, ?_, htk3.up (by have := hss.few; omega), ?_, fun k => ?_, h5⟩
        · simp [slotsD]
        · cases L with
          | nil => simp at hL; omega
          | cons a L => exact hhd
        · rw [htail]
          intro y hy
          rcases List.mem_append.mp hy with q | q
          · exact hlab y q
          · rw [List.mem_singleton.mp q]; exact hx
        · rw [htail, List.flatMap_append]
          have e1 : List.flatMap (fun ss => List.map (fun x => x.fst) ss) [ss] = ss.map (·.1) := by simp
          rw [e1]
          have p1 := (hperm.append_right [x]).append_right (ss.map (·.1))
          refine p1.trans ?_
          have e2 : RES ++ List.flatMap (fun ss => List.map (fun x => x.fst) ss) SL ++ L.tail ++ [x] ++ ss.map (·.1) = RES ++ List.flatMap (fun ss => List.map (fun x => x.fst) ss) SL ++ ((L.tail ++ [x]) ++ ss.map (·.1)) := by simp [List.append_assoc]
          have e3 : RES ++ (List.flatMap (fun ss => List.map (fun x => x.fst) ss) SL ++ ss.map (·.1)) ++ (L.tail ++ [x]) = RES ++ List.flatMap (fun ss => List.map (fun x => x.fst) ss) SL ++ (ss.map (·.1) ++ (L.tail ++ [x])) := by simp [List.append_assoc]
          rw [e2, e3]
          exact List.Perm.append_left _ List.perm_append_comm
        · rw [List.filter_append, List.length_append]
          by_cases e : (ab : Int) = (k : Int)
          · have : k = ab := by omega
            subst this
            simp
            omega
          · have := hkid k
            simp [e]
            exact this
      · simp -implicitDefEqProofs only [bind_bind, ok_bind, dOnly_ok, callC_0, callC_1, callC_2, callC_3, callC_n, putC_0, putC_1, putC_2, putC_3, putC_n, unl_l, unn_n, finE_rt, finN_rt, finN_nx, upC_rt, upC_bk, upC_ct, dnC_nx, dnC_rt, seqC_nx, seqC_rt, seqC_bk, seqC_ct, dropC_0, dropC_1, dropC_2, dropC_3, cellL_0, cellL_1, cellL_2, cellL_3, cellL_4, cellL_5, EI, if_true, if_false, Bool.false_eq_true, decide_true, decide_false, Bool.not_true, Bool.not_false, S_nil, reduceIte, List.map_cons, List.map_nil, List.tail_cons, IS, hc3]
        exact .ret ⟨_, .inl rfl, keep _ h3⟩
    · simp -implicitDefEqProofs only [bind_bind, ok_bind, dOnly_ok, callC_0, callC_1, callC_2, callC_3, callC_n, putC_0, putC_1, putC_2, putC_3, putC_n, unl_l, unn_n, finE_rt, finN_rt, finN_nx, upC_rt, upC_bk, upC_ct, dnC_nx, dnC_rt, seqC_nx, seqC_rt, seqC_bk, seqC_ct, dropC_0, dropC_1, dropC_2, dropC_3, cellL_0, cellL_1, cellL_2, cellL_3, cellL_4, cellL_5, EI, if_true, if_false, Bool.false_eq_true, decide_true, decide_false, Bool.not_true, Bool.not_false, S_nil, reduceIte, List.map_cons, List.map_nil, List.tail_cons, IS, hlev]
      exact .ret ⟨_, .inl rfl, keep _ h3⟩
  · rintro _ ⟨_, rfl, vs, P, SL, L, ts, lp3, m, rfl, hv, hL, ht, hm, hhd, hlab, htk, hperm, hkid, h3⟩
    have hnd := hperm.nodup_iff.mp (htk.nd (by omega))
    simp -implicitDefEqProofs only [bind_bind, ok_bind, dOnly_ok, callC_0, callC_1, callC_2, callC_3, callC_n, putC_0, putC_1, putC_2, putC_3, putC_n, unl_l, unn_n, finE_rt, finN_rt, finN_nx, upC_rt, upC_bk, upC_ct, dnC_nx, dnC_rt, seqC_nx, seqC_rt, seqC_bk, seqC_ct, dropC_0, dropC_1, dropC_2, dropC_3, cellL_0, cellL_1, cellL_2, cellL_3, cellL_4, cellL_5, EI, if_true, if_false, Bool.false_eq_true, decide_true, decide_false, Bool.not_true, Bool.not_false, S_nil, reduceIte, List.map_cons, List.map_nil, List.tail_cons, IS, show rangeD (PyData.int 0) (PyData.int 5) = .ok ((List.range 5).map fun i => PyData.int ((i : Nat) : Int)) from rangeD_n (n := 5) (by decide), APs]
    have hP := ht.lp
    refine Ok.bind (forM_range (fun j (l : List PD × List PD × List PD × List PD × List PD × List PD) => ∃ (P' : List Int) (SL' : List (List Slot)) (m' : Nat), l = (vs.map fun v => PyData.int ((v : Nat) : Int), P'.map PyData.int, SL'.map slotsD, L.map S, ts.map S, lp3) ∧ Tree m' P' SL' ∧ m' ≤ m ∧ (m' + j ≤ 6 ∨ statesN P' SL' ≤ n) ∧ P'.Sublist P ∧ SL'.Sublist SL) ⟨P, SL, m, rfl, ht, Nat.le_refl _, .inl (by omega), List.Sublist.refl _, List.Sublist.refl _⟩ ?_) ?_
    · rintro j _ hj ⟨P', SL', m', rfl, ht', hm', hor, hsP, hsS⟩
      simp -implicitDefEqProofs only [bind_bind, ok_bind, dOnly_ok, callC_0, callC_1, callC_2, callC_3, callC_n, putC_0, putC_1, putC_2, putC_3, putC_n, unl_l, unn_n, finE_rt, finN_rt, finN_nx, upC_rt, upC_bk, upC_ct, dnC_nx, dnC_rt, seqC_nx, seqC_rt, seqC_bk, seqC_ct, dropC_0, dropC_1, dropC_2, dropC_3, cellL_0, cellL_1, cellL_2, cellL_3, cellL_4, cellL_5, EI, if_true, if_false, Bool.false_eq_true, decide_true, decide_false, Bool.not_true, Bool.not_false, S_nil, reduceIte, List.map_cons, List.map_nil, List.tail_cons, IS, APs]
      refine Ok.bind (states_ok ht') ?_
      rintro _ rfl
      simp -implicitDefEqProofs only [bind_bind, ok_bind, dOnly_ok, callC_0, callC_1, callC_2, callC_3, callC_n, putC_0, putC_1, putC_2, putC_3, putC_n, unl_l, unn_n, finE_rt, finN_rt, finN_nx, upC_rt, upC_bk, upC_ct, dnC_nx, dnC_rt, seqC_nx, seqC_rt, seqC_bk, seqC_ct, dropC_0, dropC_1, dropC_2, dropC_3, cellL_0, cellL_1, cellL_2, cellL_3, cellL_4, cellL_5, EI, if_true, if_false, Bool.false_eq_true, decide_true, decide_false, Bool.not_true, Bool.not_false, S_nil, reduceIte, List.map_cons, List.map_nil, List.tail_cons, IS, CCs]
      by_cases hgt : (n : Int) < ((statesN P' SL' : Nat) : Int)
      · have hm1 : m' ≠ 1 := fun e => by
          subst e
          rw [states_one ht'] at hgt
          omega
        have hp1 := ht'.pos
        obtain ⟨q, rfl⟩ : ∃ q, m' = q + 1 := ⟨m' - 1, by omega⟩
        have hPl := ht'.lp
        have hSl := ht'.ls
        have nP : P'.map PyData.int ≠ [] := fun e => by rw [List.map_eq_nil_iff] at e; rw [e] at hPl; simp at hPl
        have nS : SL'.map slotsD ≠ [] := fun e => by rw [List.map_eq_nil_iff] at e; rw [e] at hSl; simp at hSl
        simp -implicitDefEqProofs only [bind_bind, ok_bind, dOnly_ok, callC_0, callC_1, callC_2, callC_3, callC_n, putC_0, putC_1, putC_2, putC_3, putC_n, unl_l, unn_n, finE_rt, finN_rt, finN_nx, upC_rt, upC_bk, upC_ct, dnC_nx, dnC_rt, seqC_nx, seqC_rt, seqC_bk, seqC_ct, dropC_0, dropC_1, dropC_2, dropC_3, cellL_0, cellL_1, cellL_2, cellL_3, cellL_4, cellL_5, EI, if_true, if_false, Bool.false_eq_true, decide_true, decide_false, Bool.not_true, Bool.not_false, S_nil, reduceIte, List.map_cons, List.map_nil, List.tail_cons, IS, hgt, popD_snoc nP, popD_snoc nS]
        refine .ret ⟨_, .inl rfl, P'.dropLast, SL'.dropLast, q, ?_, ht'.drop (by omega), by omega, ?_, (List.dropLast_sublist _).trans hsP, (List.dropLast_sublist _).trans hsS⟩
        · rw [List.map_dropLast, List.map_dropLast]
        · rcases hor with h | h
          · exact .inl (by omega)
          · omega
      · simp -implicitDefEqProofs only [bind_bind, ok_bind, dOnly_ok, callC_0, callC_1, callC_2, callC_3, callC_n, putC_0, putC_1, putC_2, putC_3, putC_n, unl_l, unn_n, finE_rt, finN_rt, finN_nx, upC_rt, upC_bk, upC_ct, dnC_nx, dnC_rt, seqC_nx, seqC_rt, seqC_bk, seqC_ct, dropC_0, dropC_1, dropC_2, dropC_3, cellL_0, cellL_1, cellL_2, cellL_3, cellL_4, cellL_5, EI, if_true, if_false, Bool.false_eq_true, decide_true, decide_false, Bool.not_true, Bool.not_false, S_nil, reduceIte, List.map_cons, List.map_nil, List.tail_cons, IS, hgt]
        exact .ret ⟨_, .inl rfl, P', SL', m', rfl, ht', hm', .inr (by omega), hsP, hsS⟩
    · rintro _ ⟨_, rfl, P', SL', m', rfl, ht', hm', hor, hsP, hsS⟩
      have hst : statesN P' SL' ≤ n := by
        rcases hor with h | h
        · have := ht'.pos
          have : m' = 1 := by omega
          subst this
          rw [states_one ht']; exact hn
        · exact h
      have hPl := ht'.lp
      have hline : lineD (P'.map PyData.int) = .ok (P'.map PyData.int) := lineD_ok (by rw [List.length_map, hPl, sizeLine_eq]; omega)
      have hp1 := ht'.pos
      simp -implicitDefEqProofs only [bind_bind, ok_bind, dOnly_ok, callC_0, callC_1, callC_2, callC_3, callC_n, putC_0, putC_1, putC_2, putC_3, putC_n, unl_l, unn_n, finE_rt, finN_rt, finN_nx, upC_rt, upC_bk, upC_ct, dnC_nx, dnC_rt, seqC_nx, seqC_rt, seqC_bk, seqC_ct, dropC_0, dropC_1, dropC_2, dropC_3, cellL_0, cellL_1, cellL_2, cellL_3, cellL_4, cellL_5, EI, if_true, if_false, Bool.false_eq_true, decide_true, decide_false, Bool.not_true, Bool.not_false, S_nil, reduceIte, List.map_cons, List.map_nil, List.tail_cons, IS, hline, List.length_map, hPl]
      rw [compP_map (g := fun _ => some (.tuple [])) (fun d _ => rfl)]
      simp -implicitDefEqProofs only [bind_bind, ok_bind, dOnly_ok, callC_0, callC_1, callC_2, callC_3, callC_n, putC_0, putC_1, putC_2, putC_3, putC_n, unl_l, unn_n, finE_rt, finN_rt, finN_nx, upC_rt, upC_bk, upC_ct, dnC_nx, dnC_rt, seqC_nx, seqC_rt, seqC_bk, seqC_ct, dropC_0, dropC_1, dropC_2, dropC_3, cellL_0, cellL_1, cellL_2, cellL_3, cellL_4, cellL_5, EI, if_true, if_false, Bool.false_eq_true, decide_true, decide_false, Bool.not_true, Bool.not_false, S_nil, reduceIte, List.map_cons, List.map_nil, List.tail_cons, IS, rangeD_n (n := m') (by omega)]
      refine Ok.bind (forM_range (fun a (l : List PD) => l = built L SL' P' m' a) (by rw [← hPl]; exact built0) ?_) ?_
      · rintro a _ ha rfl
        have e1 : ((m' : Int) - 1 - (a : Int)) = ((m' - 1 - a : Nat) : Int) := by omega
        have hl2 : lineD ((List.range m').map fun i => PyData.int ((i : Nat) : Int)) = .ok ((List.range m').map fun i => PyData.int ((i : Nat) : Int)) := lineD_ok (by rw [List.length_map, List.length_range, sizeLine_eq]; omega)
        simp -implicitDefEqProofs only [bind_bind, ok_bind, dOnly_ok, callC_0, callC_1, callC_2, callC_3, callC_n, putC_0, putC_1, putC_2, putC_3, putC_n, unl_l, unn_n, finE_rt, finN_rt, finN_nx, upC_rt, upC_bk, upC_ct, dnC_nx, dnC_rt, seqC_nx, seqC_rt, seqC_bk, seqC_ct, dropC_0, dropC_1, dropC_2, dropC_3, cellL_0, cellL_1, cellL_2, cellL_3, cellL_4, cellL_5, EI, if_true, if_false, Bool.false_eq_true, decide_true, decide_false, Bool.not_true, Bool.not_false, S_nil, reduceIte, List.map_cons, List.map_nil, List.tail_cons, IS, e1, hl2]
        rw [compP_map (g := kidG P' L (built L SL' P' m' a) (m' - 1 - a)) (fun d hd => ?_)]
        · have hs : (SL'.map slotsD)[m' - 1 - a]? = some (slotsD (SL'.getD (m' - 1 - a) [])) := by
            rw [List.getElem?_map, List.getD_eq_getElem?_getD, List.getElem?_eq_getElem (by rw [ht'.ls]; omega)]
            rfl
          have hsame : ∀ sh : List PD, ((List.range m').map fun i => PyData.int ((i : Nat) : Int)).filterMap (kidG P' L sh (m' - 1 - a)) = (kids P' (m' - 1 - a)).map fun j => .tuple [S (L.getD j []), sh.getD j .none] := fun sh => by rw [← hPl]; exact kidG_map _ _ _ _
          have hb : PyData.tuple [slotsD (SL'.getD (m' - 1 - a) []), .tuple ((kids P' (m' - 1 - a)).map fun j => .tuple [S (L.getD j []), (built L SL' P' m' a).getD j .none])] = formD (bf L SL' P' m' (m' - 1 - a)) := by
            obtain ⟨q, hq⟩ : ∃ q, m' = q + 1 := ⟨m' - 1, by omega⟩
            rw [show bf L SL' P' m' (m' - 1 - a) = bf L SL' P' (q + 1) (m' - 1 - a) from by rw [hq]]
            unfold bf
            rw [formD_mk, List.map_map]
            congr 2
            congr 1
            congr 1
            apply List.map_congr_left
            intro j hj
            obtain ⟨h1, h2⟩ := kids_lt ht' hj
            show _ = PyData.tuple [S (L.getD j []), formD (bf L SL' P' q j)]
            rw [List.getD_eq_getElem?_getD (l := built L SL' P' m' a), built_get h2, if_pos (by omega), bf_fuel ht' L m' q j h2 (by omega) (by omega)]
            rfl
          simp -implicitDefEqProofs only [bind_bind, ok_bind, dOnly_ok, callC_0, callC_1, callC_2, callC_3, callC_n, putC_0, putC_1, putC_2, putC_3, putC_n, unl_l, unn_n, finE_rt, finN_rt, finN_nx, upC_rt, upC_bk, upC_ct, dnC_nx, dnC_rt, seqC_nx, seqC_rt, seqC_bk, seqC_ct, dropC_0, dropC_1, dropC_2, dropC_3, cellL_0, cellL_1, cellL_2, cellL_3, cellL_4, cellL_5, EI, if_true, if_false, Bool.false_eq_true, decide_true, decide_false, Bool.not_true, Bool.not_false, S_nil, reduceIte, List.map_cons, List.map_nil, List.tail_cons, IS, idxD_l hs, hsame, hb, setD_n (ds := built L SL' P' m' a) (n := m' - 1 - a) (by unfold built; simp; omega), built_set ha]
          exact .ret ⟨_, .inl rfl, rfl⟩
        · obtain ⟨i, hi, rfl⟩ := List.mem_map.mp hd
          have hi := List.mem_range.mp hi
          have q1 : (P'.map PyData.int)[i]? = some (.int (P'.getD i 0)) := by
            rw [List.getElem?_map, List.getD_eq_getElem?_getD, List.getElem?_eq_getElem (by rw [hPl]; exact hi)]; rfl
          have q2 : (L.map S)[i]? = some (S (L.getD i [])) := by
            rw [List.getElem?_map, List.getD_eq_getElem?_getD, List.getElem?_eq_getElem (by omega)]; rfl
          have q3 : (built L SL' P' m' a)[i]? = some ((built L SL' P' m' a).getD i .none) := by
            rw [List.getD_eq_getElem?_getD, List.getElem?_eq_getElem (by unfold built; simpa using hi)]; rfl
          simp -implicitDefEqProofs only [bind_bind, ok_bind, dOnly_ok, callC_0, callC_1, callC_2, callC_3, callC_n, putC_0, putC_1, putC_2, putC_3, putC_n, unl_l, unn_n, finE_rt, finN_rt, finN_nx, upC_rt, upC_bk, upC_ct, dnC_nx, dnC_rt, seqC_nx, seqC_rt, seqC_bk, seqC_ct, dropC_0, dropC_1, dropC_2, dropC_3, cellL_0, cellL_1, cellL_2, cellL_3, cellL_4, cellL_5, EI, if_true, if_false, Bool.false_eq_true, decide_true, decide_false, Bool.not_true, Bool.not_false, S_nil, reduceIte, List.map_cons, List.map_nil, List.tail_cons, IS, idxD_l q1, idxD_l q2, idxD_l q3]
          by_cases e : P'.getD i 0 = ((m' - 1 - a : Nat) : Int)
          · rw [show kidG P' L (built L SL' P' m' a) (m' - 1 - a) (.int ((i : Nat) : Int)) = some (.tuple [S (L.getD i []), (built L SL' P' m' a).getD i .none]) from if_pos e]
            simp -implicitDefEqProofs only [bind_bind, ok_bind, dOnly_ok, callC_0, callC_1, callC_2, callC_3, callC_n, putC_0, putC_1, putC_2, putC_3, putC_n, unl_l, unn_n, finE_rt, finN_rt, finN_nx, upC_rt, upC_bk, upC_ct, dnC_nx, dnC_rt, seqC_nx, seqC_rt, seqC_bk, seqC_ct, dropC_0, dropC_1, dropC_2, dropC_3, cellL_0, cellL_1, cellL_2, cellL_3, cellL_4, cellL_5, EI, if_true, if_false, Bool.false_eq_true, decide_true, decide_false, Bool.not_true, Bool.not_false, S_nil, reduceIte, List.map_cons, List.map_nil, List.tail_cons, IS, e]
          · rw [show kidG P' L (built L SL' P' m' a) (m' - 1 - a) (.int ((i : Nat) : Int)) = none from if_neg e]
            simp -implicitDefEqProofs only [bind_bind, ok_bind, dOnly_ok, callC_0, callC_1, callC_2, callC_3, callC_n, putC_0, putC_1, putC_2, putC_3, putC_n, unl_l, unn_n, finE_rt, finN_rt, finN_nx, upC_rt, upC_bk, upC_ct, dnC_nx, dnC_rt, seqC_nx, seqC_rt, seqC_bk, seqC_ct, dropC_0, dropC_1, dropC_2, dropC_3, cellL_0, cellL_1, cellL_2, cellL_3, cellL_4, cellL_5, EI, if_true, if_false, Bool.false_eq_true, decide_true, decide_false, Bool.not_true, Bool.not_false, S_nil, reduceIte, List.map_cons, List.map_nil, List.tail_cons, IS, e]
      · rintro _ ⟨l, rfl, rfl⟩
        have h0 : (built L SL' P' m' m')[0]? = some (formD (bf L SL' P' m' 0)) := by rw [built_get hp1, if_pos (by omega)]
        have hi0 : idxD (.list (built L SL' P' m' m')) (.int 0) = .ok (formD (bf L SL' P' m' 0)) := idxD_l (n := 0) h0
        simp -implicitDefEqProofs only [bind_bind, ok_bind, dOnly_ok, callC_0, callC_1, callC_2, callC_3, callC_n, putC_0, putC_1, putC_2, putC_3, putC_n, unl_l, unn_n, finE_rt, finN_rt, finN_nx, upC_rt, upC_bk, upC_ct, dnC_nx, dnC_rt, seqC_nx, seqC_rt, seqC_bk, seqC_ct, dropC_0, dropC_1, dropC_2, dropC_3, cellL_0, cellL_1, cellL_2, cellL_3, cellL_4, cellL_5, EI, if_true, if_false, Bool.false_eq_true, decide_true, decide_false, Bool.not_true, Bool.not_false, S_nil, reduceIte, List.map_cons, List.map_nil, List.tail_cons, IS, hi0]
        refine .ret ⟨P', SL', L, lp3, by rw [hPl], ⟨⟨m', ht', by omega, by omega⟩, hhd, hlab, ?_, fun k => ?_, hst⟩, h3⟩
        · refine List.Nodup.sublist (List.Sublist.append (List.Sublist.append (List.Sublist.refl _) ?_) ?_) hnd
          · exact flatMap_sub _ hsS
          · exact (List.take_sublist _ _).tail
        · exact Nat.le_trans (hsP.filter _).length_le (hkid k)
/-! ### forms that are valid -/
inductive FormOk : Form → Prop where
  | mk {ss : List Slot} {ls : List (List Nat × Form)} : Slots ss → ls.length ≤ 3 → (ls.map (·.1)).Nodup → (∀ p ∈ ls, Lab p.1) → (∀ p ∈ ls, FormOk p.2) → FormOk (.mk ss ls)
theorem L_get {L : List (List Nat)} {j m : Nat} (h0 : 0 < j) (hj : j < m) (hm : m ≤ L.length) : ∃ i, i < (L.take m).tail.length ∧ i = j - 1 ∧ (L.take m).tail[i]? = some (L.getD j []) := by
  refine ⟨j - 1, by rw [List.length_tail, List.length_take]; omega, rfl, ?_⟩
  rw [List.getElem?_tail, List.getElem?_take, show j - 1 + 1 = j by omega, if_pos hj, List.getD_eq_getElem?_getD, List.getElem?_eq_getElem (by omega)]
  rfl
theorem kids_len (P : List Int) (k : Nat) : (kids P k).length = (P.filter fun i => decide (i = (k : Int))).length := by
  have : ∀ P : List Int, (List.range P.length).map (fun j => P.getD j 0) = P := fun P => by
    apply List.ext_getElem?
    intro i
    rw [List.getElem?_map]
    by_cases h : i < P.length
    · rw [List.getElem?_range h]
      show some (P.getD i 0) = _
      rw [List.getD_eq_getElem?_getD, List.getElem?_eq_getElem h]; rfl
    · rw [List.getElem?_eq_none (by simpa using h), List.getElem?_eq_none (by simpa using h)]; rfl
  conv => rhs; rw [← this P]
  unfold kids
  rw [List.filter_map, List.length_map]
  rfl
theorem bf_ok {n : Nat} {P : List Int} {SL : List (List Slot)} {L : List (List Nat)} (M : Made n P SL L) : ∀ (f k : Nat), k < P.length → P.length - k ≤ f → FormOk (bf L SL P f k)
  | 0, k, hk, h => by omega
  | f + 1, k, hk, h => by
    obtain ⟨m, t, hL, _⟩ := M.tree
    have hP := t.lp
    have hS := t.ls
    have hnd : (L.take P.length).tail.Nodup := (List.nodup_append.mp M.names).2.1
    unfold bf
    refine .mk ?_ ?_ ?_ ?_ ?_
    · rw [List.getD_eq_getElem?_getD, List.getElem?_eq_getElem (by omega)]
      exact t.slots _ (List.getElem_mem _)
    · rw [List.length_map, kids_len]
      exact M.kids k
    · rw [List.map_map, List.Nodup, List.pairwise_map]
      refine List.Pairwise.imp_of_mem ?_ ((List.nodup_range (n := P.length)).filter _)
      intro a b ma mb hne e
      obtain ⟨a1, a2⟩ := kids_lt t ma
      obtain ⟨b1, b2⟩ := kids_lt t mb
      obtain ⟨i, i1, i2, i3⟩ := L_get (L := L) (j := a) (m := P.length) (by omega) (by omega) (by omega)
      obtain ⟨j, j1, j2, j3⟩ := L_get (L := L) (j := b) (m := P.length) (by omega) (by omega) (by omega)
      have e' : L.getD a [] = L.getD b [] := e
      rw [← e', ← i3] at j3
      have := (List.getElem?_inj i1 hnd).mp j3.symm
      omega
    · intro p hp
      obtain ⟨j, hj, rfl⟩ := List.mem_map.mp hp
      obtain ⟨j1, j2⟩ := kids_lt t hj
      obtain ⟨i, i1, i2, i3⟩ := L_get (L := L) (j := j) (m := P.length) (by omega) (by omega) (by omega)
      have : L.getD j [] ∈ (L.take P.length).tail := List.mem_of_getElem? i3
      exact M.lab _ ((List.take_sublist _ _).tail.subset this)
    · intro p hp
      obtain ⟨j, hj, rfl⟩ := List.mem_map.mp hp
      obtain ⟨j1, j2⟩ := kids_lt t hj
      exact bf_ok M f j (by omega) (by omega)
theorem made_ok {n : Nat} {P : List Int} {SL : List (List Slot)} {L : List (List Nat)} (M : Made n P SL L) : FormOk (bf L SL P P.length 0) := by
  obtain ⟨m, t, hL, _⟩ := M.tree
  have := t.lp
  have := t.pos
  exact bf_ok M _ _ (by omega) (by omega)
def Form.slots : Form → List Slot
  | .mk ss _ => ss
def Form.lists : Form → List (List Nat × Form)
  | .mk _ ls => ls
theorem formD_eq (F : Form) : formD F = .tuple [.tuple (F.slots.map slotD), .tuple (F.lists.map fun p => .tuple [S p.1, formD p.2])] := by
  cases F with
  | mk ss ls => exact formD_mk ss ls
theorem FormOk.slots {F : Form} (h : FormOk F) : Slots F.slots := by cases h; assumption
theorem FormOk.few {F : Form} (h : FormOk F) : F.lists.length ≤ 3 := by cases h; assumption
theorem FormOk.nd {F : Form} (h : FormOk F) : (F.lists.map (·.1)).Nodup := by cases h; assumption
theorem FormOk.lab {F : Form} (h : FormOk F) : ∀ p ∈ F.lists, Lab p.1 := by cases h; assumption
theorem FormOk.sub {F : Form} (h : FormOk F) : ∀ p ∈ F.lists, FormOk p.2 := by cases h; assumption
/-! ### pieces -/
def TEXT : List Nat := [116, 101, 120, 116]
theorem S_TEXT : PyData.str "text" = S TEXT := by kernel_rfl
def HOLE : List Nat := [104, 111, 108, 101]
theorem S_HOLE : PyData.str "hole" = S HOLE := by kernel_rfl
def CHOICE : List Nat := [99, 104, 111, 105, 99, 101]
theorem S_CHOICE : PyData.str "choice" = S CHOICE := by kernel_rfl
def LOOP : List Nat := [108, 111, 111, 112]
theorem S_LOOP : PyData.str "loop" = S LOOP := by kernel_rfl
def USE : List Nat := [117, 115, 101]
theorem S_USE : PyData.str "use" = S USE := by kernel_rfl
theorem TG : (eqD (S TEXT) (S TEXT) = .ok true) ∧ (neD (S TEXT) (S TEXT) = .ok false) ∧ (eqD (S TEXT) (S HOLE) = .ok false) ∧ (neD (S TEXT) (S HOLE) = .ok true) ∧ (eqD (S TEXT) (S CHOICE) = .ok false) ∧ (neD (S TEXT) (S CHOICE) = .ok true) ∧ (eqD (S TEXT) (S LOOP) = .ok false) ∧ (neD (S TEXT) (S LOOP) = .ok true) ∧ (eqD (S TEXT) (S USE) = .ok false) ∧ (neD (S TEXT) (S USE) = .ok true) ∧ (eqD (S HOLE) (S TEXT) = .ok false) ∧ (neD (S HOLE) (S TEXT) = .ok true) ∧ (eqD (S HOLE) (S HOLE) = .ok true) ∧ (neD (S HOLE) (S HOLE) = .ok false) ∧ (eqD (S HOLE) (S CHOICE) = .ok false) ∧ (neD (S HOLE) (S CHOICE) = .ok true) ∧ (eqD (S HOLE) (S LOOP) = .ok false) ∧ (neD (S HOLE) (S LOOP) = .ok true) ∧ (eqD (S HOLE) (S USE) = .ok false) ∧ (neD (S HOLE) (S USE) = .ok true) ∧ (eqD (S CHOICE) (S TEXT) = .ok false) ∧ (neD (S CHOICE) (S TEXT) = .ok true) ∧ (eqD (S CHOICE) (S HOLE) = .ok false) ∧ (neD (S CHOICE) (S HOLE) = .ok true) ∧ (eqD (S CHOICE) (S CHOICE) = .ok true) ∧ (neD (S CHOICE) (S CHOICE) = .ok false) ∧ (eqD (S CHOICE) (S LOOP) = .ok false) ∧ (neD (S CHOICE) (S LOOP) = .ok true) ∧ (eqD (S CHOICE) (S USE) = .ok false) ∧ (neD (S CHOICE) (S USE) = .ok true) ∧ (eqD (S LOOP) (S TEXT) = .ok false) ∧ (neD (S LOOP) (S TEXT) = .ok true) ∧ (eqD (S LOOP) (S HOLE) = .ok false) ∧ (neD (S LOOP) (S HOLE) = .ok true) ∧ (eqD (S LOOP) (S CHOICE) = .ok false) ∧ (neD (S LOOP) (S CHOICE) = .ok true) ∧ (eqD (S LOOP) (S LOOP) = .ok true) ∧ (neD (S LOOP) (S LOOP) = .ok false) ∧ (eqD (S LOOP) (S USE) = .ok false) ∧ (neD (S LOOP) (S USE) = .ok true) ∧ (eqD (S USE) (S TEXT) = .ok false) ∧ (neD (S USE) (S TEXT) = .ok true) ∧ (eqD (S USE) (S HOLE) = .ok false) ∧ (neD (S USE) (S HOLE) = .ok true) ∧ (eqD (S USE) (S CHOICE) = .ok false) ∧ (neD (S USE) (S CHOICE) = .ok true) ∧ (eqD (S USE) (S LOOP) = .ok false) ∧ (neD (S USE) (S LOOP) = .ok true) ∧ (eqD (S USE) (S USE) = .ok true) ∧ (neD (S USE) (S USE) = .ok false) ∧ (PyData.str "text" = S TEXT) ∧ (PyData.str "hole" = S HOLE) ∧ (PyData.str "choice" = S CHOICE) ∧ (PyData.str "loop" = S LOOP) ∧ (PyData.str "use" = S USE) := ⟨by kernel_rfl, by kernel_rfl, by kernel_rfl, by kernel_rfl, by kernel_rfl, by kernel_rfl, by kernel_rfl, by kernel_rfl, by kernel_rfl, by kernel_rfl, by kernel_rfl, by kernel_rfl, by kernel_rfl, by kernel_rfl, by kernel_rfl, by kernel_rfl, by kernel_rfl, by kernel_rfl, by kernel_rfl, by kernel_rfl, by kernel_rfl, by kernel_rfl, by kernel_rfl, by kernel_rfl, by kernel_rfl, by kernel_rfl, by kernel_rfl, by kernel_rfl, by kernel_rfl, by kernel_rfl, by kernel_rfl, by kernel_rfl, by kernel_rfl, by kernel_rfl, by kernel_rfl, by kernel_rfl, by kernel_rfl, by kernel_rfl, by kernel_rfl, by kernel_rfl, by kernel_rfl, by kernel_rfl, by kernel_rfl, by kernel_rfl, by kernel_rfl, by kernel_rfl, by kernel_rfl, by kernel_rfl, by kernel_rfl, by kernel_rfl, by kernel_rfl, by kernel_rfl, by kernel_rfl, by kernel_rfl, by kernel_rfl⟩
inductive Pcs where
  | nil
  | text (w : List Nat) (r : Pcs)
  | hole (f : List Nat) (r : Pcs)
  | choice (f w : List Nat) (y o : Pcs) (r : Pcs)
  | loop (n : List Nat) (b : Pcs) (g : List Nat) (r : Pcs)
  | use (p : List Nat) (r : Pcs)
namespace Pcs
def pcsD : Pcs → List PD
  | nil => []
  | text w r => .tuple [S TEXT, S w] :: r.pcsD
  | hole f r => .tuple [S HOLE, S f] :: r.pcsD
  | choice f w y o r => .tuple [S CHOICE, S f, S w, .tuple y.pcsD, .tuple o.pcsD] :: r.pcsD
  | loop n b g r => .tuple [S LOOP, S n, .tuple b.pcsD, S g] :: r.pcsD
  | use p r => .tuple [S USE, S p] :: r.pcsD
def app : Pcs → Pcs → Pcs
  | nil, q => q
  | text w r, q => text w (r.app q)
  | hole f r, q => hole f (r.app q)
  | choice f w y o r, q => choice f w y o (r.app q)
  | loop n b g r, q => loop n b g (r.app q)
  | use p r, q => use p (r.app q)
/-- the number of pieces, at all depths -/
def cnt : Pcs → Nat
  | nil => 0
  | text _ r => 1 + r.cnt
  | hole _ r => 1 + r.cnt
  | choice _ _ y o r => 1 + y.cnt + o.cnt + r.cnt
  | loop _ b _ r => 1 + b.cnt + r.cnt
  | use _ r => 1 + r.cnt
def dep : Pcs → Nat
  | nil => 0
  | text _ r => r.dep
  | hole _ r => r.dep
  | choice _ _ y o r => max (1 + max y.dep o.dep) r.dep
  | loop _ b _ r => max (1 + b.dep) r.dep
  | use _ r => r.dep
/-- all texts, gaps, used names -/
def AllT (T G U : List Nat → Prop) : Pcs → Prop
  | nil => True
  | text w r => T w ∧ r.AllT T G U
  | hole _ r => r.AllT T G U
  | choice _ _ y o r => y.AllT T G U ∧ o.AllT T G U ∧ r.AllT T G U
  | loop _ b g r => G g ∧ b.AllT T G U ∧ r.AllT T G U
  | use p r => U p ∧ r.AllT T G U
def firstT : Pcs → Bool
  | text _ _ => true
  | _ => false
def lastT : Pcs → Bool
  | nil => false
  | text _ nil => true
  | hole _ nil => false
  | choice _ _ _ _ nil => false
  | loop _ _ _ nil => false
  | use _ nil => false
  | text _ r => r.lastT
  | hole _ r => r.lastT
  | choice _ _ _ _ r => r.lastT
  | loop _ _ _ r => r.lastT
  | use _ r => r.lastT
/-- no text beside a text -/
def NoTT : Pcs → Prop
  | nil => True
  | text _ r => r.firstT = false ∧ r.NoTT
  | hole _ r => r.NoTT
  | choice _ _ y o r => y.NoTT ∧ o.NoTT ∧ r.NoTT
  | loop _ b _ r => b.NoTT ∧ r.NoTT
  | use _ r => r.NoTT
theorem app_D : ∀ p q : Pcs, (p.app q).pcsD = p.pcsD ++ q.pcsD
  | nil, q => rfl
  | text w r, q => by simp [app, pcsD, app_D r q]
  | hole f r, q => by simp [app, pcsD, app_D r q]
  | choice f w y o r, q => by simp [app, pcsD, app_D r q]
  | loop n b g r, q => by simp [app, pcsD, app_D r q]
  | use p r, q => by simp [app, pcsD, app_D r q]
theorem app_cnt : ∀ p q : Pcs, (p.app q).cnt = p.cnt + q.cnt
  | nil, q => by simp [app, cnt]
  | text w r, q => by simp [app, cnt, app_cnt r q]; omega
  | hole f r, q => by simp [app, cnt, app_cnt r q]; omega
  | choice f w y o r, q => by simp [app, cnt, app_cnt r q]; omega
  | loop n b g r, q => by simp [app, cnt, app_cnt r q]; omega
  | use p r, q => by simp [app, cnt, app_cnt r q]; omega
theorem app_dep : ∀ p q : Pcs, (p.app q).dep = max p.dep q.dep
  | nil, q => by simp [app, dep]
  | text w r, q => by simp [app, dep, app_dep r q]
  | hole f r, q => by simp [app, dep, app_dep r q]
  | choice f w y o r, q => by simp [app, dep, app_dep r q, Nat.max_assoc]
  | loop n b g r, q => by simp [app, dep, app_dep r q, Nat.max_assoc]
  | use p r, q => by simp [app, dep, app_dep r q]
theorem app_AllT {T G U : List Nat → Prop} : ∀ {p q : Pcs}, p.AllT T G U → q.AllT T G U → (p.app q).AllT T G U
  | nil, q, _, h => h
  | text w r, q, h, h' => ⟨h.1, app_AllT h.2 h'⟩
  | hole f r, q, h, h' => app_AllT (p := r) h h'
  | choice f w y o r, q, h, h' => ⟨h.1, h.2.1, app_AllT h.2.2 h'⟩
  | loop n b g r, q, h, h' => ⟨h.1, h.2.1, app_AllT h.2.2 h'⟩
  | use p r, q, h, h' => ⟨h.1, app_AllT h.2 h'⟩
theorem app_last : ∀ (p q : Pcs), q ≠ nil → (p.app q).lastT = q.lastT
  | nil, q, _ => rfl
  | text w r, q, h => by
    have ih := app_last r q h
    have : r.app q ≠ nil := by cases r <;> simp [app] <;> exact h
    show (text w (r.app q)).lastT = _
    rw [← ih]; cases e : r.app q <;> first | exact absurd e this | rfl
  | hole f r, q, h => by
    have ih := app_last r q h
    have : r.app q ≠ nil := by cases r <;> simp [app] <;> exact h
    show (hole f (r.app q)).lastT = _
    rw [← ih]; cases e : r.app q <;> first | exact absurd e this | rfl
  | choice f w y o r, q, h => by
    have ih := app_last r q h
    have : r.app q ≠ nil := by cases r <;> simp [app] <;> exact h
    show (choice f w y o (r.app q)).lastT = _
    rw [← ih]; cases e : r.app q <;> first | exact absurd e this | rfl
  | loop n b g r, q, h => by
    have ih := app_last r q h
    have : r.app q ≠ nil := by cases r <;> simp [app] <;> exact h
    show (loop n b g (r.app q)).lastT = _
    rw [← ih]; cases e : r.app q <;> first | exact absurd e this | rfl
  | use p r, q, h => by
    have ih := app_last r q h
    have : r.app q ≠ nil := by cases r <;> simp [app] <;> exact h
    show (use p (r.app q)).lastT = _
    rw [← ih]; cases e : r.app q <;> first | exact absurd e this | rfl
theorem app_NoTT : ∀ {p q : Pcs}, p.NoTT → q.NoTT → (p.lastT = true → q.firstT = false) → (p.app q).NoTT
  | nil, q, _, h, _ => h
  | text w nil, q, h, h', k => ⟨k rfl, h'⟩
  | text w (text w' r), q, h, h', k => by cases h.1
  | text w (hole f r), q, h, h', k => ⟨rfl, app_NoTT (p := hole f r) h.2 h' k⟩
  | text w (choice f w' y o r), q, h, h', k => ⟨rfl, app_NoTT (p := choice f w' y o r) h.2 h' k⟩
  | text w (loop n b g r), q, h, h', k => ⟨rfl, app_NoTT (p := loop n b g r) h.2 h' k⟩
  | text w (use u r), q, h, h', k => ⟨rfl, app_NoTT (p := use u r) h.2 h' k⟩
  | hole f nil, q, h, h', k => h'
  | hole f (text w r), q, h, h', k => app_NoTT (p := text w r) h h' k
  | hole f (hole f' r), q, h, h', k => app_NoTT (p := hole f' r) h h' k
  | hole f (choice f' w' y o r), q, h, h', k => app_NoTT (p := choice f' w' y o r) h h' k
  | hole f (loop n b g r), q, h, h', k => app_NoTT (p := loop n b g r) h h' k
  | hole f (use u r), q, h, h', k => app_NoTT (p := use u r) h h' k
  | choice f w y o nil, q, h, h', k => ⟨h.1, h.2.1, h'⟩
  | choice f w y o (text w' r), q, h, h', k => ⟨h.1, h.2.1, app_NoTT (p := text w' r) h.2.2 h' k⟩
  | choice f w y o (hole f' r), q, h, h', k => ⟨h.1, h.2.1, app_NoTT (p := hole f' r) h.2.2 h' k⟩
  | choice f w y o (choice f' w' y' o' r), q, h, h', k => ⟨h.1, h.2.1, app_NoTT (p := choice f' w' y' o' r) h.2.2 h' k⟩
  | choice f w y o (loop n b g r), q, h, h', k => ⟨h.1, h.2.1, app_NoTT (p := loop n b g r) h.2.2 h' k⟩
  | choice f w y o (use u r), q, h, h', k => ⟨h.1, h.2.1, app_NoTT (p := use u r) h.2.2 h' k⟩
  | loop n b g nil, q, h, h', k => ⟨h.1, h'⟩
  | loop n b g (text w' r), q, h, h', k => ⟨h.1, app_NoTT (p := text w' r) h.2 h' k⟩
  | loop n b g (hole f' r), q, h, h', k => ⟨h.1, app_NoTT (p := hole f' r) h.2 h' k⟩
  | loop n b g (choice f' w' y' o' r), q, h, h', k => ⟨h.1, app_NoTT (p := choice f' w' y' o' r) h.2 h' k⟩
  | loop n b g (loop n' b' g' r), q, h, h', k => ⟨h.1, app_NoTT (p := loop n' b' g' r) h.2 h' k⟩
  | loop n b g (use u r), q, h, h', k => ⟨h.1, app_NoTT (p := use u r) h.2 h' k⟩
  | use p nil, q, h, h', k => h'
  | use p (text w' r), q, h, h', k => app_NoTT (p := text w' r) h h' k
  | use p (hole f' r), q, h, h', k => app_NoTT (p := hole f' r) h h' k
  | use p (choice f' w' y' o' r), q, h, h', k => app_NoTT (p := choice f' w' y' o' r) h h' k
  | use p (loop n' b' g' r), q, h, h', k => app_NoTT (p := loop n' b' g' r) h h' k
  | use p (use u r), q, h, h', k => app_NoTT (p := use u r) h h' k
end Pcs
open Pcs
/-- pieces that fit a form: the fields ss, the lists from lo on; up to the list hi they are looped -/
inductive Fit : Form → List Slot → Nat → Pcs → Nat → Prop where
  | nil {F : Form} {ss : List Slot} {lo : Nat} : Fit F ss lo .nil lo
  | text {F : Form} {ss : List Slot} {lo hi : Nat} {w : List Nat} {r : Pcs} : Fit F ss lo r hi → Fit F ss lo (.text w r) hi
  | hole {F : Form} {ss : List Slot} {lo hi : Nat} {s : Slot} {r : Pcs} : s ∈ ss → Fit F ss lo r hi → Fit F ss lo (.hole s.1 r) hi
  | choice {F : Form} {ss : List Slot} {lo h1 h2 hi : Nat} {s : Slot} {w : List Nat} {y o r : Pcs} : s ∈ ss → w ∈ s.2 → Fit F ss lo y h1 → Fit F ss lo o h2 → Fit F ss (max h1 h2) r hi → Fit F ss lo (.choice s.1 w y o r) hi
  | loop {F : Form} {ss : List Slot} {lo j h1 hi : Nat} {p : List Nat × Form} {b r : Pcs} {g : List Nat} : lo ≤ j → F.lists[j]? = some p → Fit p.2 (ss ++ p.2.slots) 0 b h1 → Fit F ss (j + 1) r hi → Fit F ss lo (.loop p.1 b g r) hi
  | use {F : Form} {ss : List Slot} {lo hi : Nat} {p : List Nat} {r : Pcs} : Fit F ss lo r hi → Fit F ss lo (.use p r) hi
theorem Fit.app {F : Form} {ss : List Slot} {lo mid : Nat} {p : Pcs} (h : Fit F ss lo p mid) : ∀ {q : Pcs} {hi : Nat}, Fit F ss mid q hi → Fit F ss lo (p.app q) hi := by
  induction h with
  | nil => exact fun k => k
  | text _ ih => exact fun k => .text (ih k)
  | hole m _ ih => exact fun k => .hole m (ih k)
  | choice m1 m2 y o _ _ _ ih => exact fun k => .choice m1 m2 y o (ih k)
  | loop l e b _ _ ih => exact fun k => .loop l e b (ih k)
  | use _ ih => exact fun k => .use (ih k)
theorem idxD_t3 {a b c x : PD} {xs : List PD} : idxD (.tuple (a :: b :: c :: x :: xs)) (.int 3) = .ok x := idxD_t (n := 3) rfl
theorem idxD_t4 {a b c d x : PD} {xs : List PD} : idxD (.tuple (a :: b :: c :: d :: x :: xs)) (.int 4) = .ok x := idxD_t (n := 4) rfl
theorem addD_t {xs ys : List PD} (h : xs.length + ys.length ≤ sizeLine) : addD (.tuple xs) (.tuple ys) = .ok (.tuple (xs ++ ys)) := by
  show (if xs.length + ys.length ≤ sizeLine then Out.ok (PyData.tuple (xs ++ ys)) else .bad) = _
  rw [if_pos h]
theorem idx_nats (cs : List Nat) {k : Nat} (h : k < cs.length) : idxD (.list (cs.map fun c => PyData.int ((c : Nat) : Int))) (.int (k : Int)) = .ok (.int ((cs[k] : Nat) : Int)) := idxD_l (by rw [List.getElem?_map, List.getElem?_eq_getElem h]; rfl)
theorem and_ok {P Q : Prop} [Decidable P] [Decidable Q] : (if decide P = true then Out.ok (decide Q) else Out.ok false) = Out.ok (decide (P ∧ Q)) := by
  by_cases h : P <;> by_cases h2 : Q <;> simp [h, h2]
theorem minA_n {i j : Nat} : minA [.int ((i : Nat) : Int), .int ((j : Nat) : Int)] = .ok (.int ((min i j : Nat) : Int)) := by
  rw [minA_i]
  congr 2
  split <;> omega
theorem maxA_n {i j : Nat} : maxA [.int ((i : Nat) : Int), .int ((j : Nat) : Int)] = .ok (.int ((max i j : Nat) : Int)) := by
  rw [maxA_i]
  congr 2
  split <;> omega
theorem form_0 {F : Form} : idxD (formD F) (.int 0) = .ok (.tuple (F.slots.map slotD)) := by rw [formD_eq]; exact idxD_t0
theorem form_1 {F : Form} : idxD (formD F) (.int 1) = .ok (.tuple (F.lists.map fun p => .tuple [S p.1, formD p.2])) := by rw [formD_eq]; exact idxD_t1
theorem slot_0 {s : Slot} : idxD (slotD s) (.int 0) = .ok (S s.1) := idxD_t0
theorem slot_1 {s : Slot} : idxD (slotD s) (.int 1) = .ok (.tuple (s.2.map S)) := idxD_t1
def Rm (r w : Nat) (a : List Nat) : List PD := [.int ((r : Nat) : Int), .int ((w : Nat) : Int), S a]
theorem rm_0 {r w : Nat} {a : List Nat} : idxD (.list (Rm r w a)) (.int 0) = .ok (.int ((r : Nat) : Int)) := idxD_l0
theorem rm_1 {r w : Nat} {a : List Nat} : idxD (.list (Rm r w a)) (.int 1) = .ok (.int ((w : Nat) : Int)) := idxD_l1
theorem rm_2 {r w : Nat} {a : List Nat} : idxD (.list (Rm r w a)) (.int 2) = .ok (S a) := idxD_l2
theorem rm_set {r w : Nat} {a : List Nat} {n : Nat} : setD (Rm r w a) (.int 0) (.int ((n : Nat) : Int)) = .ok (Rm n w a) := setD_0
structure Alph (a : List Nat) : Prop where
  pos : 0 < a.length
  len : a.length ≤ 92
  tx : Tx a
def Wrd (a : List Nat) (w : Nat) (t : List Nat) : Prop := t.length ≤ w ∧ ∀ c ∈ t, c ∈ a
def Wrd1 (a : List Nat) (w : Nat) (t : List Nat) : Prop := 0 < t.length ∧ Wrd a w t
structure PO (F : Form) (ss : List Slot) (lo r L : Nat) (a : List Nat) (w : Nat) (us : List (List Nat)) (q : Pcs) (hi r' : Nat) : Prop where
  fit : Fit F ss lo q hi
  cnt : r' + q.cnt ≤ r
  dep : q.dep + 1 ≤ L
  all : q.AllT (Wrd1 a w) (Wrd a w) (· ∈ us)
  tt : q.NoTT
structure PI (ss : List Slot) (r L w : Nat) : Prop where
  slots : ∀ s ∈ ss, s.2 ≠ [] ∧ s.2.length ≤ 6
  few : ss.length + 4 * L ≤ 1000
  r : r ≤ 1000
  w : 0 < w ∧ w ≤ 1000
  L : 0 < L
def PieceSpec (a : List Nat) (w : Nat) (us : List (List Nat)) (n L : Nat) : Prop := ∀ (F : Form) (ss : List Slot) (lo r : Nat) (lp : List PD), Pool lp → FormOk F → PI ss r L w →
  Ok (m__law_piece n lp (formD F) (.tuple (ss.map slotD)) (.int (lo : Int)) (Rm r w a) (.int (L : Int)) (.list (us.map S))) fun x => ∃ (q : Pcs) (pd : PD) (hi r' : Nat) (lp' : List PD), x = (.list [pd, .int (hi : Int)], [.l lp', .l (Rm r' w a)]) ∧ q.pcsD = [pd] ∧ PO F ss lo (r + 1) L a w us q hi r' ∧ Pool lp'
def PiecesSpec (a : List Nat) (w : Nat) (us : List (List Nat)) (n L : Nat) : Prop := ∀ (F : Form) (ss : List Slot) (lo r : Nat) (lp : List PD), Pool lp → FormOk F → PI ss r L w →
  Ok (m__law_pieces n lp (formD F) (.tuple (ss.map slotD)) (.int (lo : Int)) (Rm r w a) (.int (L : Int)) (.list (us.map S))) fun x => ∃ (q : Pcs) (hi r' : Nat) (lp' : List PD), x = (.list [.tuple q.pcsD, .int (hi : Int)], [.l lp', .l (Rm r' w a)]) ∧ PO F ss lo r L a w us q hi r' ∧ Pool lp'
theorem piece_step {a : List Nat} {w : Nat} {us : List (List Nat)} (ha : Alph a) (hus : us.length ≤ 1000) {n L : Nat} (ih : 1 < L → PiecesSpec a w us n (L - 1)) : PieceSpec a w us (n + 1) L := by
  intro F ss lo r lp hp hF hI
  have hfew := hI.few
  have hr := hI.r
  obtain ⟨hw0, hw1⟩ := hI.w
  have hL := hI.L
  have c1' : (1 + (w : Int)) = ((w + 1 : Nat) : Int) := by omega
  simp -implicitDefEqProofs only [bind_bind, ok_bind, dOnly_ok, callC_0, callC_1, callC_2, callC_3, callC_n, putC_0, putC_1, putC_2, putC_3, putC_n, unl_l, unn_n, finE_rt, finN_rt, finN_nx, upC_rt, upC_bk, upC_ct, dnC_nx, dnC_rt, seqC_nx, seqC_rt, seqC_bk, seqC_ct, dropC_0, dropC_1, dropC_2, dropC_3, cellL_0, cellL_1, cellL_2, cellL_3, cellL_4, cellL_5, EI, if_true, if_false, Bool.false_eq_true, decide_true, decide_false, Bool.not_true, Bool.not_false, S_nil, reduceIte, List.map_cons, List.map_nil, List.tail_cons, IS, m__law_piece, APs, CCs]
  refine Ok.bind (draw_Ok hp (n := 5) (by decide) (by decide)) ?_
  rintro _ ⟨k, lp1, rfl, hk, h1⟩
  simp -implicitDefEqProofs only [bind_bind, ok_bind, dOnly_ok, callC_0, callC_1, callC_2, callC_3, callC_n, putC_0, putC_1, putC_2, putC_3, putC_n, unl_l, unn_n, finE_rt, finN_rt, finN_nx, upC_rt, upC_bk, upC_ct, dnC_nx, dnC_rt, seqC_nx, seqC_rt, seqC_bk, seqC_ct, dropC_0, dropC_1, dropC_2, dropC_3, cellL_0, cellL_1, cellL_2, cellL_3, cellL_4, cellL_5, EI, if_true, if_false, Bool.false_eq_true, decide_true, decide_false, Bool.not_true, Bool.not_false, S_nil, reduceIte, List.map_cons, List.map_nil, List.tail_cons, IS, CCs, APs, and_ok, form_1, List.length_map]
  by_cases c1 : (k : Int) = 1 ∧ (0 : Int) < (ss.length : Int)
  · have hs : 0 < ss.length := by have := c1.2; omega
    simp -implicitDefEqProofs only [bind_bind, ok_bind, dOnly_ok, callC_0, callC_1, callC_2, callC_3, callC_n, putC_0, putC_1, putC_2, putC_3, putC_n, unl_l, unn_n, finE_rt, finN_rt, finN_nx, upC_rt, upC_bk, upC_ct, dnC_nx, dnC_rt, seqC_nx, seqC_rt, seqC_bk, seqC_ct, dropC_0, dropC_1, dropC_2, dropC_3, cellL_0, cellL_1, cellL_2, cellL_3, cellL_4, cellL_5, EI, if_true, if_false, Bool.false_eq_true, decide_true, decide_false, Bool.not_true, Bool.not_false, S_nil, reduceIte, List.map_cons, List.map_nil, List.tail_cons, IS, decide_eq_true c1, CCs, APs, List.length_map]
    refine Ok.bind (draw_Ok h1 hs (by omega)) ?_
    rintro _ ⟨j, lp2, rfl, hj, h2⟩
    have hg : (ss.map slotD)[j]? = some (slotD ss[j]) := by rw [List.getElem?_map, List.getElem?_eq_getElem hj]; rfl
    simp -implicitDefEqProofs only [bind_bind, ok_bind, dOnly_ok, callC_0, callC_1, callC_2, callC_3, callC_n, putC_0, putC_1, putC_2, putC_3, putC_n, unl_l, unn_n, finE_rt, finN_rt, finN_nx, upC_rt, upC_bk, upC_ct, dnC_nx, dnC_rt, seqC_nx, seqC_rt, seqC_bk, seqC_ct, dropC_0, dropC_1, dropC_2, dropC_3, cellL_0, cellL_1, cellL_2, cellL_3, cellL_4, cellL_5, EI, if_true, if_false, Bool.false_eq_true, decide_true, decide_false, Bool.not_true, Bool.not_false, S_nil, reduceIte, List.map_cons, List.map_nil, List.tail_cons, IS, CCs, APs, idxD_t hg, slot_0, S_HOLE]
    exact .ret ⟨.hole ss[j].1 .nil, _, lo, r, lp2, rfl, rfl, ⟨.hole (List.getElem_mem _) .nil, by simp [Pcs.cnt], by simp [Pcs.dep]; omega, trivial, trivial⟩, h2⟩
  simp -implicitDefEqProofs only [bind_bind, ok_bind, dOnly_ok, callC_0, callC_1, callC_2, callC_3, callC_n, putC_0, putC_1, putC_2, putC_3, putC_n, unl_l, unn_n, finE_rt, finN_rt, finN_nx, upC_rt, upC_bk, upC_ct, dnC_nx, dnC_rt, seqC_nx, seqC_rt, seqC_bk, seqC_ct, dropC_0, dropC_1, dropC_2, dropC_3, cellL_0, cellL_1, cellL_2, cellL_3, cellL_4, cellL_5, EI, if_true, if_false, Bool.false_eq_true, decide_true, decide_false, Bool.not_true, Bool.not_false, S_nil, reduceIte, List.map_cons, List.map_nil, List.tail_cons, IS, decide_eq_false c1]
  by_cases c2 : (k : Int) = 2 ∧ (0 : Int) < (ss.length : Int) ∧ (1 : Int) < (L : Int)
  · have hs : 0 < ss.length := by have := c2.2.1; omega
    have hL1 : 1 < L := by have := c2.2.2; omega
    have eL : ((L : Int) - 1) = ((L - 1 : Nat) : Int) := by omega
    simp -implicitDefEqProofs only [bind_bind, ok_bind, dOnly_ok, callC_0, callC_1, callC_2, callC_3, callC_n, putC_0, putC_1, putC_2, putC_3, putC_n, unl_l, unn_n, finE_rt, finN_rt, finN_nx, upC_rt, upC_bk, upC_ct, dnC_nx, dnC_rt, seqC_nx, seqC_rt, seqC_bk, seqC_ct, dropC_0, dropC_1, dropC_2, dropC_3, cellL_0, cellL_1, cellL_2, cellL_3, cellL_4, cellL_5, EI, if_true, if_false, Bool.false_eq_true, decide_true, decide_false, Bool.not_true, Bool.not_false, S_nil, reduceIte, List.map_cons, List.map_nil, List.tail_cons, IS, decide_eq_true c2, CCs, APs, List.length_map]
    refine Ok.bind (draw_Ok h1 hs (by omega)) ?_
    rintro _ ⟨j, lp2, rfl, hj, h2⟩
    have hg : (ss.map slotD)[j]? = some (slotD ss[j]) := by rw [List.getElem?_map, List.getElem?_eq_getElem hj]; rfl
    obtain ⟨hm1, hm2⟩ := hI.slots _ (List.getElem_mem hj)
    have hm0 : 0 < ss[j].2.length := List.length_pos_iff.mpr hm1
    simp -implicitDefEqProofs only [bind_bind, ok_bind, dOnly_ok, callC_0, callC_1, callC_2, callC_3, callC_n, putC_0, putC_1, putC_2, putC_3, putC_n, unl_l, unn_n, finE_rt, finN_rt, finN_nx, upC_rt, upC_bk, upC_ct, dnC_nx, dnC_rt, seqC_nx, seqC_rt, seqC_bk, seqC_ct, dropC_0, dropC_1, dropC_2, dropC_3, cellL_0, cellL_1, cellL_2, cellL_3, cellL_4, cellL_5, EI, if_true, if_false, Bool.false_eq_true, decide_true, decide_false, Bool.not_true, Bool.not_false, S_nil, reduceIte, List.map_cons, List.map_nil, List.tail_cons, IS, CCs, APs, idxD_t hg, slot_1, List.length_map]
    refine Ok.bind (draw_Ok h2 hm0 (by omega)) ?_
    rintro _ ⟨j2, lp3, rfl, hj2, h3⟩
    have hg2 : (ss[j].2.map S)[j2]? = some (S ss[j].2[j2]) := by rw [List.getElem?_map, List.getElem?_eq_getElem hj2]; rfl
    have hI2 : ∀ r', r' ≤ r → PI ss r' (L - 1) w := fun r' h => ⟨hI.slots, by omega, by omega, hI.w, by omega⟩
    simp -implicitDefEqProofs only [bind_bind, ok_bind, dOnly_ok, callC_0, callC_1, callC_2, callC_3, callC_n, putC_0, putC_1, putC_2, putC_3, putC_n, unl_l, unn_n, finE_rt, finN_rt, finN_nx, upC_rt, upC_bk, upC_ct, dnC_nx, dnC_rt, seqC_nx, seqC_rt, seqC_bk, seqC_ct, dropC_0, dropC_1, dropC_2, dropC_3, cellL_0, cellL_1, cellL_2, cellL_3, cellL_4, cellL_5, EI, if_true, if_false, Bool.false_eq_true, decide_true, decide_false, Bool.not_true, Bool.not_false, S_nil, reduceIte, List.map_cons, List.map_nil, List.tail_cons, IS, CCs, APs, idxD_t hg2, eL]
    refine Ok.bind (ih hL1 F ss lo r lp3 h3 hF (hI2 r (Nat.le_refl _))) ?_
    rintro _ ⟨y, hy, r1, lp4, rfl, oy, h4⟩
    simp -implicitDefEqProofs only [bind_bind, ok_bind, dOnly_ok, callC_0, callC_1, callC_2, callC_3, callC_n, putC_0, putC_1, putC_2, putC_3, putC_n, unl_l, unn_n, finE_rt, finN_rt, finN_nx, upC_rt, upC_bk, upC_ct, dnC_nx, dnC_rt, seqC_nx, seqC_rt, seqC_bk, seqC_ct, dropC_0, dropC_1, dropC_2, dropC_3, cellL_0, cellL_1, cellL_2, cellL_3, cellL_4, cellL_5, EI, if_true, if_false, Bool.false_eq_true, decide_true, decide_false, Bool.not_true, Bool.not_false, S_nil, reduceIte, List.map_cons, List.map_nil, List.tail_cons, IS, CCs, APs, eL]
    have := oy.cnt
    refine Ok.bind (ih hL1 F ss lo r1 lp4 h4 hF (hI2 r1 (by omega))) ?_
    rintro _ ⟨o, ho, r2, lp5, rfl, oo, h5⟩
    have := oo.cnt
    have := oy.dep
    have := oo.dep
    simp -implicitDefEqProofs only [bind_bind, ok_bind, dOnly_ok, callC_0, callC_1, callC_2, callC_3, callC_n, putC_0, putC_1, putC_2, putC_3, putC_n, unl_l, unn_n, finE_rt, finN_rt, finN_nx, upC_rt, upC_bk, upC_ct, dnC_nx, dnC_rt, seqC_nx, seqC_rt, seqC_bk, seqC_ct, dropC_0, dropC_1, dropC_2, dropC_3, cellL_0, cellL_1, cellL_2, cellL_3, cellL_4, cellL_5, EI, if_true, if_false, Bool.false_eq_true, decide_true, decide_false, Bool.not_true, Bool.not_false, S_nil, reduceIte, List.map_cons, List.map_nil, List.tail_cons, IS, CCs, APs, slot_0, S_CHOICE, maxA_n]
    exact .ret ⟨.choice ss[j].1 ss[j].2[j2] y o .nil, _, max hy ho, r2, lp5, rfl, rfl, ⟨.choice (List.getElem_mem _) (List.getElem_mem _) oy.fit oo.fit .nil, by simp [Pcs.cnt]; omega, by simp [Pcs.dep]; omega, ⟨oy.all, oo.all, trivial⟩, ⟨oy.tt, oo.tt, trivial⟩⟩, h5⟩
  simp -implicitDefEqProofs only [bind_bind, ok_bind, dOnly_ok, callC_0, callC_1, callC_2, callC_3, callC_n, putC_0, putC_1, putC_2, putC_3, putC_n, unl_l, unn_n, finE_rt, finN_rt, finN_nx, upC_rt, upC_bk, upC_ct, dnC_nx, dnC_rt, seqC_nx, seqC_rt, seqC_bk, seqC_ct, dropC_0, dropC_1, dropC_2, dropC_3, cellL_0, cellL_1, cellL_2, cellL_3, cellL_4, cellL_5, EI, if_true, if_false, Bool.false_eq_true, decide_true, decide_false, Bool.not_true, Bool.not_false, S_nil, reduceIte, List.map_cons, List.map_nil, List.tail_cons, IS, decide_eq_false c2]
  by_cases c3 : (k : Int) = 3 ∧ (lo : Int) < (F.lists.length : Int) ∧ (1 : Int) < (L : Int)
  · have hs : lo < F.lists.length := by have := c3.2.1; omega
    have hL1 : 1 < L := by have := c3.2.2; omega
    have eL : ((L : Int) - 1) = ((L - 1 : Nat) : Int) := by omega
    have es : ((F.lists.length : Int) - (lo : Int)) = ((F.lists.length - lo : Nat) : Int) := by omega
    have := hF.few
    simp -implicitDefEqProofs only [bind_bind, ok_bind, dOnly_ok, callC_0, callC_1, callC_2, callC_3, callC_n, putC_0, putC_1, putC_2, putC_3, putC_n, unl_l, unn_n, finE_rt, finN_rt, finN_nx, upC_rt, upC_bk, upC_ct, dnC_nx, dnC_rt, seqC_nx, seqC_rt, seqC_bk, seqC_ct, dropC_0, dropC_1, dropC_2, dropC_3, cellL_0, cellL_1, cellL_2, cellL_3, cellL_4, cellL_5, EI, if_true, if_false, Bool.false_eq_true, decide_true, decide_false, Bool.not_true, Bool.not_false, S_nil, reduceIte, List.map_cons, List.map_nil, List.tail_cons, IS, decide_eq_true c3, CCs, APs, form_1, List.length_map, es]
    refine Ok.bind (draw_Ok h1 (n := F.lists.length - lo) (by omega) (by omega)) ?_
    rintro _ ⟨j, lp2, rfl, hj, h2⟩
    have ea : ((lo : Int) + (j : Int)) = ((lo + j : Nat) : Int) := by omega
    have hlt : lo + j < F.lists.length := by omega
    have hg : (F.lists.map fun p => PyData.tuple [S p.1, formD p.2])[lo + j]? = some (.tuple [S F.lists[lo + j].1, formD F.lists[lo + j].2]) := by rw [List.getElem?_map, List.getElem?_eq_getElem hlt]; rfl
    have hF2 := hF.sub _ (List.getElem_mem hlt)
    have hS2 := hF2.slots
    have := hS2.few
    have ad : addD (.tuple (ss.map slotD)) (.tuple (F.lists[lo + j].2.slots.map slotD)) = .ok (.tuple ((ss ++ F.lists[lo + j].2.slots).map slotD)) := by
      rw [addD_t (by rw [List.length_map, List.length_map, sizeLine_eq]; omega), List.map_append]
    simp -implicitDefEqProofs only [bind_bind, ok_bind, dOnly_ok, callC_0, callC_1, callC_2, callC_3, callC_n, putC_0, putC_1, putC_2, putC_3, putC_n, unl_l, unn_n, finE_rt, finN_rt, finN_nx, upC_rt, upC_bk, upC_ct, dnC_nx, dnC_rt, seqC_nx, seqC_rt, seqC_bk, seqC_ct, dropC_0, dropC_1, dropC_2, dropC_3, cellL_0, cellL_1, cellL_2, cellL_3, cellL_4, cellL_5, EI, if_true, if_false, Bool.false_eq_true, decide_true, decide_false, Bool.not_true, Bool.not_false, S_nil, reduceIte, List.map_cons, List.map_nil, List.tail_cons, IS, CCs, APs, ea, idxD_t hg, form_0, ad, eL]
    have hI2 : PI (ss ++ F.lists[lo + j].2.slots) r (L - 1) w := ⟨fun s m => by
      rcases List.mem_append.mp m with m | m
      · exact hI.slots s m
      · exact ⟨(hS2.menu s m).1.ne, (hS2.menu s m).2⟩, by rw [List.length_append]; omega, hr, hI.w, by omega⟩
    refine Ok.bind (ih hL1 F.lists[lo + j].2 (ss ++ F.lists[lo + j].2.slots) 0 r lp2 h2 hF2 hI2) ?_
    rintro _ ⟨b, hb, r1, lp3, rfl, ob, h3⟩
    simp -implicitDefEqProofs only [bind_bind, ok_bind, dOnly_ok, callC_0, callC_1, callC_2, callC_3, callC_n, putC_0, putC_1, putC_2, putC_3, putC_n, unl_l, unn_n, finE_rt, finN_rt, finN_nx, upC_rt, upC_bk, upC_ct, dnC_nx, dnC_rt, seqC_nx, seqC_rt, seqC_bk, seqC_ct, dropC_0, dropC_1, dropC_2, dropC_3, cellL_0, cellL_1, cellL_2, cellL_3, cellL_4, cellL_5, EI, if_true, if_false, Bool.false_eq_true, decide_true, decide_false, Bool.not_true, Bool.not_false, S_nil, reduceIte, List.map_cons, List.map_nil, List.tail_cons, IS, CCs, APs, rm_1, rm_2, show ((w : Int) + 1) = ((w + 1 : Nat) : Int) by omega]
    refine Ok.bind (draw_Ok h3 (n := w + 1) (by omega) (by omega)) ?_
    rintro _ ⟨g1, lp4, rfl, hg1, h4⟩
    simp -implicitDefEqProofs only [bind_bind, ok_bind, dOnly_ok, callC_0, callC_1, callC_2, callC_3, callC_n, putC_0, putC_1, putC_2, putC_3, putC_n, unl_l, unn_n, finE_rt, finN_rt, finN_nx, upC_rt, upC_bk, upC_ct, dnC_nx, dnC_rt, seqC_nx, seqC_rt, seqC_bk, seqC_ct, dropC_0, dropC_1, dropC_2, dropC_3, cellL_0, cellL_1, cellL_2, cellL_3, cellL_4, cellL_5, EI, if_true, if_false, Bool.false_eq_true, decide_true, decide_false, Bool.not_true, Bool.not_false, S_nil, reduceIte, List.map_cons, List.map_nil, List.tail_cons, IS, CCs, APs]
    refine Ok.bind (draw_Ok h4 (n := 5) (by decide) (by decide)) ?_
    rintro _ ⟨g2, lp5, rfl, hg2, h5⟩
    have eg : [PyData.int 0, PyData.int 1, PyData.int 0, PyData.int 2, PyData.int (g1 : Int)] = [0, 1, 0, 2, g1].map fun c : Nat => PyData.int ((c : Nat) : Int) := rfl
    simp -implicitDefEqProofs only [bind_bind, ok_bind, dOnly_ok, callC_0, callC_1, callC_2, callC_3, callC_n, putC_0, putC_1, putC_2, putC_3, putC_n, unl_l, unn_n, finE_rt, finN_rt, finN_nx, upC_rt, upC_bk, upC_ct, dnC_nx, dnC_rt, seqC_nx, seqC_rt, seqC_bk, seqC_ct, dropC_0, dropC_1, dropC_2, dropC_3, cellL_0, cellL_1, cellL_2, cellL_3, cellL_4, cellL_5, EI, if_true, if_false, Bool.false_eq_true, decide_true, decide_false, Bool.not_true, Bool.not_false, S_nil, reduceIte, List.map_cons, List.map_nil, List.tail_cons, IS, CCs, APs]
    rw [eg, idx_nats [0, 1, 0, 2, g1] (k := g2) hg2]
    simp -implicitDefEqProofs only [bind_bind, ok_bind, dOnly_ok, callC_0, callC_1, callC_2, callC_3, callC_n, putC_0, putC_1, putC_2, putC_3, putC_n, unl_l, unn_n, finE_rt, finN_rt, finN_nx, upC_rt, upC_bk, upC_ct, dnC_nx, dnC_rt, seqC_nx, seqC_rt, seqC_bk, seqC_ct, dropC_0, dropC_1, dropC_2, dropC_3, cellL_0, cellL_1, cellL_2, cellL_3, cellL_4, cellL_5, EI, if_true, if_false, Bool.false_eq_true, decide_true, decide_false, Bool.not_true, Bool.not_false, S_nil, reduceIte, List.map_cons, List.map_nil, List.tail_cons, IS, minA_n, CCs, APs]
    have hmin : min w ([0, 1, 0, 2, g1][g2]'hg2) ≤ w := Nat.min_le_left _ _
    refine Ok.bind (text_Ok h5 ha.pos ha.len (n := min w ([0, 1, 0, 2, g1][g2]'hg2)) (by omega)) ?_
    rintro _ ⟨t, lp6, rfl, ht, htm, h6⟩
    have := ob.cnt
    have := ob.dep
    simp -implicitDefEqProofs only [bind_bind, ok_bind, dOnly_ok, callC_0, callC_1, callC_2, callC_3, callC_n, putC_0, putC_1, putC_2, putC_3, putC_n, unl_l, unn_n, finE_rt, finN_rt, finN_nx, upC_rt, upC_bk, upC_ct, dnC_nx, dnC_rt, seqC_nx, seqC_rt, seqC_bk, seqC_ct, dropC_0, dropC_1, dropC_2, dropC_3, cellL_0, cellL_1, cellL_2, cellL_3, cellL_4, cellL_5, EI, if_true, if_false, Bool.false_eq_true, decide_true, decide_false, Bool.not_true, Bool.not_false, S_nil, reduceIte, List.map_cons, List.map_nil, List.tail_cons, IS, CCs, APs, S_LOOP, show (((lo + j : Nat) : Int) + 1) = ((lo + j + 1 : Nat) : Int) by omega]
    exact .ret ⟨.loop F.lists[lo + j].1 b t .nil, _, lo + j + 1, r1, lp6, rfl, rfl, ⟨.loop (j := lo + j) (by omega) (List.getElem?_eq_getElem hlt) ob.fit .nil, by simp [Pcs.cnt]; omega, by simp [Pcs.dep]; omega, ⟨⟨by omega, htm⟩, ob.all, trivial⟩, ⟨ob.tt, trivial⟩⟩, h6⟩
  simp -implicitDefEqProofs only [bind_bind, ok_bind, dOnly_ok, callC_0, callC_1, callC_2, callC_3, callC_n, putC_0, putC_1, putC_2, putC_3, putC_n, unl_l, unn_n, finE_rt, finN_rt, finN_nx, upC_rt, upC_bk, upC_ct, dnC_nx, dnC_rt, seqC_nx, seqC_rt, seqC_bk, seqC_ct, dropC_0, dropC_1, dropC_2, dropC_3, cellL_0, cellL_1, cellL_2, cellL_3, cellL_4, cellL_5, EI, if_true, if_false, Bool.false_eq_true, decide_true, decide_false, Bool.not_true, Bool.not_false, S_nil, reduceIte, List.map_cons, List.map_nil, List.tail_cons, IS, decide_eq_false c3]
  by_cases c4 : (k : Int) = 4 ∧ (0 : Int) < (us.length : Int)
  · have hs : 0 < us.length := by have := c4.2; omega
    simp -implicitDefEqProofs only [bind_bind, ok_bind, dOnly_ok, callC_0, callC_1, callC_2, callC_3, callC_n, putC_0, putC_1, putC_2, putC_3, putC_n, unl_l, unn_n, finE_rt, finN_rt, finN_nx, upC_rt, upC_bk, upC_ct, dnC_nx, dnC_rt, seqC_nx, seqC_rt, seqC_bk, seqC_ct, dropC_0, dropC_1, dropC_2, dropC_3, cellL_0, cellL_1, cellL_2, cellL_3, cellL_4, cellL_5, EI, if_true, if_false, Bool.false_eq_true, decide_true, decide_false, Bool.not_true, Bool.not_false, S_nil, reduceIte, List.map_cons, List.map_nil, List.tail_cons, IS, decide_eq_true c4, CCs, APs, List.length_map]
    refine Ok.bind (draw_Ok h1 hs (by omega)) ?_
    rintro _ ⟨j, lp2, rfl, hj, h2⟩
    have hg : (us.map S)[j]? = some (S us[j]) := by rw [List.getElem?_map, List.getElem?_eq_getElem hj]; rfl
    simp -implicitDefEqProofs only [bind_bind, ok_bind, dOnly_ok, callC_0, callC_1, callC_2, callC_3, callC_n, putC_0, putC_1, putC_2, putC_3, putC_n, unl_l, unn_n, finE_rt, finN_rt, finN_nx, upC_rt, upC_bk, upC_ct, dnC_nx, dnC_rt, seqC_nx, seqC_rt, seqC_bk, seqC_ct, dropC_0, dropC_1, dropC_2, dropC_3, cellL_0, cellL_1, cellL_2, cellL_3, cellL_4, cellL_5, EI, if_true, if_false, Bool.false_eq_true, decide_true, decide_false, Bool.not_true, Bool.not_false, S_nil, reduceIte, List.map_cons, List.map_nil, List.tail_cons, IS, CCs, APs, idxD_l hg, S_USE]
    exact .ret ⟨.use us[j] .nil, _, lo, r, lp2, rfl, rfl, ⟨.use .nil, by simp [Pcs.cnt], by simp [Pcs.dep]; omega, ⟨List.getElem_mem _, trivial⟩, trivial⟩, h2⟩
  simp -implicitDefEqProofs only [bind_bind, ok_bind, dOnly_ok, callC_0, callC_1, callC_2, callC_3, callC_n, putC_0, putC_1, putC_2, putC_3, putC_n, unl_l, unn_n, finE_rt, finN_rt, finN_nx, upC_rt, upC_bk, upC_ct, dnC_nx, dnC_rt, seqC_nx, seqC_rt, seqC_bk, seqC_ct, dropC_0, dropC_1, dropC_2, dropC_3, cellL_0, cellL_1, cellL_2, cellL_3, cellL_4, cellL_5, EI, if_true, if_false, Bool.false_eq_true, decide_true, decide_false, Bool.not_true, Bool.not_false, S_nil, reduceIte, List.map_cons, List.map_nil, List.tail_cons, IS, decide_eq_false c4, rm_1, rm_2, CCs, APs]
  refine Ok.bind (draw_Ok h1 (n := w) hw0 (by omega)) ?_
  rintro _ ⟨g1, lp4, rfl, hg1, h4⟩
  simp -implicitDefEqProofs only [bind_bind, ok_bind, dOnly_ok, callC_0, callC_1, callC_2, callC_3, callC_n, putC_0, putC_1, putC_2, putC_3, putC_n, unl_l, unn_n, finE_rt, finN_rt, finN_nx, upC_rt, upC_bk, upC_ct, dnC_nx, dnC_rt, seqC_nx, seqC_rt, seqC_bk, seqC_ct, dropC_0, dropC_1, dropC_2, dropC_3, cellL_0, cellL_1, cellL_2, cellL_3, cellL_4, cellL_5, EI, if_true, if_false, Bool.false_eq_true, decide_true, decide_false, Bool.not_true, Bool.not_false, S_nil, reduceIte, List.map_cons, List.map_nil, List.tail_cons, IS, CCs, APs]
  refine Ok.bind (draw_Ok h4 (n := 5) (by decide) (by decide)) ?_
  rintro _ ⟨g2, lp5, rfl, hg2, h5⟩
  have eg : [PyData.int 1, PyData.int 2, PyData.int 1, PyData.int 3, PyData.int (1 + (g1 : Int))] = [1, 2, 1, 3, 1 + g1].map fun c : Nat => PyData.int ((c : Nat) : Int) := by
    simp
  simp -implicitDefEqProofs only [bind_bind, ok_bind, dOnly_ok, callC_0, callC_1, callC_2, callC_3, callC_n, putC_0, putC_1, putC_2, putC_3, putC_n, unl_l, unn_n, finE_rt, finN_rt, finN_nx, upC_rt, upC_bk, upC_ct, dnC_nx, dnC_rt, seqC_nx, seqC_rt, seqC_bk, seqC_ct, dropC_0, dropC_1, dropC_2, dropC_3, cellL_0, cellL_1, cellL_2, cellL_3, cellL_4, cellL_5, EI, if_true, if_false, Bool.false_eq_true, decide_true, decide_false, Bool.not_true, Bool.not_false, S_nil, reduceIte, List.map_cons, List.map_nil, List.tail_cons, IS, CCs, APs]
  rw [eg, idx_nats [1, 2, 1, 3, 1 + g1] (k := g2) hg2]
  have hpos : 0 < ([1, 2, 1, 3, 1 + g1][g2]'hg2) := by
    have q : ∀ c ∈ [1, 2, 1, 3, 1 + g1], 0 < c := by intro c hc; simp at hc; omega
    exact q _ (List.getElem_mem _)
  simp -implicitDefEqProofs only [bind_bind, ok_bind, dOnly_ok, callC_0, callC_1, callC_2, callC_3, callC_n, putC_0, putC_1, putC_2, putC_3, putC_n, unl_l, unn_n, finE_rt, finN_rt, finN_nx, upC_rt, upC_bk, upC_ct, dnC_nx, dnC_rt, seqC_nx, seqC_rt, seqC_bk, seqC_ct, dropC_0, dropC_1, dropC_2, dropC_3, cellL_0, cellL_1, cellL_2, cellL_3, cellL_4, cellL_5, EI, if_true, if_false, Bool.false_eq_true, decide_true, decide_false, Bool.not_true, Bool.not_false, S_nil, reduceIte, List.map_cons, List.map_nil, List.tail_cons, IS, minA_n, CCs, APs, rm_2]
  have hmin : min w ([1, 2, 1, 3, 1 + g1][g2]'hg2) ≤ w := Nat.min_le_left _ _
  refine Ok.bind (text_Ok h5 ha.pos ha.len (n := min w ([1, 2, 1, 3, 1 + g1][g2]'hg2)) (by omega)) ?_
  rintro _ ⟨t, lp6, rfl, ht, htm, h6⟩
  simp -implicitDefEqProofs only [bind_bind, ok_bind, dOnly_ok, callC_0, callC_1, callC_2, callC_3, callC_n, putC_0, putC_1, putC_2, putC_3, putC_n, unl_l, unn_n, finE_rt, finN_rt, finN_nx, upC_rt, upC_bk, upC_ct, dnC_nx, dnC_rt, seqC_nx, seqC_rt, seqC_bk, seqC_ct, dropC_0, dropC_1, dropC_2, dropC_3, cellL_0, cellL_1, cellL_2, cellL_3, cellL_4, cellL_5, EI, if_true, if_false, Bool.false_eq_true, decide_true, decide_false, Bool.not_true, Bool.not_false, S_nil, reduceIte, List.map_cons, List.map_nil, List.tail_cons, IS, CCs, APs, S_TEXT]
  exact .ret ⟨.text t .nil, _, lo, r, lp6, rfl, rfl, ⟨.text .nil, by simp [Pcs.cnt], by simp [Pcs.dep]; omega, ⟨⟨by omega, by omega, htm⟩, trivial⟩, ⟨rfl, trivial⟩⟩, h6⟩
/-! ### a last piece's name -/
namespace Pcs
def ltag : Pcs → List Nat
  | nil => []
  | text _ nil => TEXT
  | hole _ nil => HOLE
  | choice _ _ _ _ nil => CHOICE
  | loop _ _ _ nil => LOOP
  | use _ nil => USE
  | text _ r => r.ltag
  | hole _ r => r.ltag
  | choice _ _ _ _ r => r.ltag
  | loop _ _ _ r => r.ltag
  | use _ r => r.ltag
end Pcs
theorem atI_last {α : Type} {xs : List α} {x : α} : atI (xs ++ [x]) (-1) = some x := by
  have e : ixN (xs ++ [x]).length (-1) = some xs.length := by
    unfold ixN
    rw [if_neg (by decide), if_pos (by rw [List.length_append, List.length_singleton]; omega)]
    rw [List.length_append, List.length_singleton]
    congr 1
    omega
  unfold atI
  rw [e]
  simp
theorem idxD_last {xs : List PD} {x : PD} : idxD (.list (xs ++ [x])) (.int (-1)) = .ok x := by
  show (match atI (xs ++ [x]) (-1) with | some d => Out.ok d | none => .bad) = _
  rw [atI_last]
theorem last_ok : ∀ p : Pcs, p ≠ .nil → ∃ (xs : List PD) (pd : PD), p.pcsD = xs ++ [pd] ∧ idxD pd (.int 0) = .ok (S p.ltag) ∧ neD (S p.ltag) (S TEXT) = .ok (!p.lastT)
  | .nil, h => (h rfl).elim
  | .text w .nil, _ => ⟨[], _, rfl, idxD_t0, by kernel_rfl⟩
  | .hole f .nil, _ => ⟨[], _, rfl, idxD_t0, by kernel_rfl⟩
  | .choice f w y o .nil, _ => ⟨[], _, rfl, idxD_t0, by kernel_rfl⟩
  | .loop n b g .nil, _ => ⟨[], _, rfl, idxD_t0, by kernel_rfl⟩
  | .use u .nil, _ => ⟨[], _, rfl, idxD_t0, by kernel_rfl⟩
  | .text w (.text w2 r), _ => by
    obtain ⟨xs, pd, e, h1, h2⟩ := last_ok (.text w2 r) (fun z => by cases z)
    exact ⟨_ :: xs, pd, by rw [Pcs.pcsD, e]; rfl, h1, h2⟩
  | .text w (.hole f2 r), _ => by
    obtain ⟨xs, pd, e, h1, h2⟩ := last_ok (.hole f2 r) (fun z => by cases z)
    exact ⟨_ :: xs, pd, by rw [Pcs.pcsD, e]; rfl, h1, h2⟩
  | .text w (.choice f2 w2 y2 o2 r), _ => by
    obtain ⟨xs, pd, e, h1, h2⟩ := last_ok (.choice f2 w2 y2 o2 r) (fun z => by cases z)
    exact ⟨_ :: xs, pd, by rw [Pcs.pcsD, e]; rfl, h1, h2⟩
  | .text w (.loop n2 b2 g2 r), _ => by
    obtain ⟨xs, pd, e, h1, h2⟩ := last_ok (.loop n2 b2 g2 r) (fun z => by cases z)
    exact ⟨_ :: xs, pd, by rw [Pcs.pcsD, e]; rfl, h1, h2⟩
  | .text w (.use u2 r), _ => by
    obtain ⟨xs, pd, e, h1, h2⟩ := last_ok (.use u2 r) (fun z => by cases z)
    exact ⟨_ :: xs, pd, by rw [Pcs.pcsD, e]; rfl, h1, h2⟩
  | .hole f (.text w2 r), _ => by
    obtain ⟨xs, pd, e, h1, h2⟩ := last_ok (.text w2 r) (fun z => by cases z)
    exact ⟨_ :: xs, pd, by rw [Pcs.pcsD, e]; rfl, h1, h2⟩
  | .hole f (.hole f2 r), _ => by
    obtain ⟨xs, pd, e, h1, h2⟩ := last_ok (.hole f2 r) (fun z => by cases z)
    exact ⟨_ :: xs, pd, by rw [Pcs.pcsD, e]; rfl, h1, h2⟩
  | .hole f (.choice f2 w2 y2 o2 r), _ => by
    obtain ⟨xs, pd, e, h1, h2⟩ := last_ok (.choice f2 w2 y2 o2 r) (fun z => by cases z)
    exact ⟨_ :: xs, pd, by rw [Pcs.pcsD, e]; rfl, h1, h2⟩
  | .hole f (.loop n2 b2 g2 r), _ => by
    obtain ⟨xs, pd, e, h1, h2⟩ := last_ok (.loop n2 b2 g2 r) (fun z => by cases z)
    exact ⟨_ :: xs, pd, by rw [Pcs.pcsD, e]; rfl, h1, h2⟩
  | .hole f (.use u2 r), _ => by
    obtain ⟨xs, pd, e, h1, h2⟩ := last_ok (.use u2 r) (fun z => by cases z)
    exact ⟨_ :: xs, pd, by rw [Pcs.pcsD, e]; rfl, h1, h2⟩
  | .choice f w y o (.text w2 r), _ => by
    obtain ⟨xs, pd, e, h1, h2⟩ := last_ok (.text w2 r) (fun z => by cases z)
    exact ⟨_ :: xs, pd, by rw [Pcs.pcsD, e]; rfl, h1, h2⟩
  | .choice f w y o (.hole f2 r), _ => by
    obtain ⟨xs, pd, e, h1, h2⟩ := last_ok (.hole f2 r) (fun z => by cases z)
    exact ⟨_ :: xs, pd, by rw [Pcs.pcsD, e]; rfl, h1, h2⟩
  | .choice f w y o (.choice f2 w2 y2 o2 r), _ => by
    obtain ⟨xs, pd, e, h1, h2⟩ := last_ok (.choice f2 w2 y2 o2 r) (fun z => by cases z)
    exact ⟨_ :: xs, pd, by rw [Pcs.pcsD, e]; rfl, h1, h2⟩
  | .choice f w y o (.loop n2 b2 g2 r), _ => by
    obtain ⟨xs, pd, e, h1, h2⟩ := last_ok (.loop n2 b2 g2 r) (fun z => by cases z)
    exact ⟨_ :: xs, pd, by rw [Pcs.pcsD, e]; rfl, h1, h2⟩
  | .choice f w y o (.use u2 r), _ => by
    obtain ⟨xs, pd, e, h1, h2⟩ := last_ok (.use u2 r) (fun z => by cases z)
    exact ⟨_ :: xs, pd, by rw [Pcs.pcsD, e]; rfl, h1, h2⟩
  | .loop n b g (.text w2 r), _ => by
    obtain ⟨xs, pd, e, h1, h2⟩ := last_ok (.text w2 r) (fun z => by cases z)
    exact ⟨_ :: xs, pd, by rw [Pcs.pcsD, e]; rfl, h1, h2⟩
  | .loop n b g (.hole f2 r), _ => by
    obtain ⟨xs, pd, e, h1, h2⟩ := last_ok (.hole f2 r) (fun z => by cases z)
    exact ⟨_ :: xs, pd, by rw [Pcs.pcsD, e]; rfl, h1, h2⟩
  | .loop n b g (.choice f2 w2 y2 o2 r), _ => by
    obtain ⟨xs, pd, e, h1, h2⟩ := last_ok (.choice f2 w2 y2 o2 r) (fun z => by cases z)
    exact ⟨_ :: xs, pd, by rw [Pcs.pcsD, e]; rfl, h1, h2⟩
  | .loop n b g (.loop n2 b2 g2 r), _ => by
    obtain ⟨xs, pd, e, h1, h2⟩ := last_ok (.loop n2 b2 g2 r) (fun z => by cases z)
    exact ⟨_ :: xs, pd, by rw [Pcs.pcsD, e]; rfl, h1, h2⟩
  | .loop n b g (.use u2 r), _ => by
    obtain ⟨xs, pd, e, h1, h2⟩ := last_ok (.use u2 r) (fun z => by cases z)
    exact ⟨_ :: xs, pd, by rw [Pcs.pcsD, e]; rfl, h1, h2⟩
  | .use u (.text w2 r), _ => by
    obtain ⟨xs, pd, e, h1, h2⟩ := last_ok (.text w2 r) (fun z => by cases z)
    exact ⟨_ :: xs, pd, by rw [Pcs.pcsD, e]; rfl, h1, h2⟩
  | .use u (.hole f2 r), _ => by
    obtain ⟨xs, pd, e, h1, h2⟩ := last_ok (.hole f2 r) (fun z => by cases z)
    exact ⟨_ :: xs, pd, by rw [Pcs.pcsD, e]; rfl, h1, h2⟩
  | .use u (.choice f2 w2 y2 o2 r), _ => by
    obtain ⟨xs, pd, e, h1, h2⟩ := last_ok (.choice f2 w2 y2 o2 r) (fun z => by cases z)
    exact ⟨_ :: xs, pd, by rw [Pcs.pcsD, e]; rfl, h1, h2⟩
  | .use u (.loop n2 b2 g2 r), _ => by
    obtain ⟨xs, pd, e, h1, h2⟩ := last_ok (.loop n2 b2 g2 r) (fun z => by cases z)
    exact ⟨_ :: xs, pd, by rw [Pcs.pcsD, e]; rfl, h1, h2⟩
  | .use u (.use u2 r), _ => by
    obtain ⟨xs, pd, e, h1, h2⟩ := last_ok (.use u2 r) (fun z => by cases z)
    exact ⟨_ :: xs, pd, by rw [Pcs.pcsD, e]; rfl, h1, h2⟩
theorem first_ok {q : Pcs} {pd : PD} (h : q.pcsD = [pd]) : ∃ t : List Nat, idxD pd (.int 0) = .ok (S t) ∧ neD (S t) (S TEXT) = .ok (!q.firstT) := by
  cases q with
  | nil => cases h
  | text w r => injection h with h _; subst h; exact ⟨TEXT, idxD_t0, by kernel_rfl⟩
  | hole f r => injection h with h _; subst h; exact ⟨HOLE, idxD_t0, by kernel_rfl⟩
  | choice f w y o r => injection h with h _; subst h; exact ⟨CHOICE, idxD_t0, by kernel_rfl⟩
  | loop n b g r => injection h with h _; subst h; exact ⟨LOOP, idxD_t0, by kernel_rfl⟩
  | use u r => injection h with h _; subst h; exact ⟨USE, idxD_t0, by kernel_rfl⟩
theorem pcsD_len : ∀ p : Pcs, p.pcsD.length ≤ p.cnt
  | .nil => Nat.le_refl _
  | .text w r => by have := pcsD_len r; simp [Pcs.pcsD, Pcs.cnt]; omega
  | .hole w r => by have := pcsD_len r; simp [Pcs.pcsD, Pcs.cnt]; omega
  | .choice f w y o r => by have := pcsD_len r; simp [Pcs.pcsD, Pcs.cnt]; omega
  | .loop n b g r => by have := pcsD_len r; simp [Pcs.pcsD, Pcs.cnt]; omega
  | .use u r => by have := pcsD_len r; simp [Pcs.pcsD, Pcs.cnt]; omega
theorem pcs_nil {p : Pcs} : p.pcsD = [] ↔ p = .nil := by cases p <;> simp [Pcs.pcsD]
theorem text_drop {F : Form} {ss : List Slot} {lo hi : Nat} {q : Pcs} {pd : PD} (h : q.pcsD = [pd]) (ht : q.firstT = true) (f : Fit F ss lo q hi) : hi = lo := by
  cases q with
  | text w r =>
    injection h with _ h
    cases r with
    | nil => cases f with
      | text f => cases f; rfl
    | text _ _ => cases h
    | hole _ _ => cases h
    | choice _ _ _ _ _ => cases h
    | loop _ _ _ _ => cases h
    | use _ _ => cases h
  | nil => cases ht
  | hole _ _ => cases ht
  | choice _ _ _ _ _ => cases ht
  | loop _ _ _ _ => cases ht
  | use _ _ => cases ht
theorem pieces_step {a : List Nat} {w : Nat} {us : List (List Nat)} {n L : Nat} (ih : PieceSpec a w us n L) : PiecesSpec a w us (n + 1) L := by
  intro F ss lo r lp hp hF hI
  have hfew := hI.few
  have hr := hI.r
  obtain ⟨hw0, hw1⟩ := hI.w
  have hL := hI.L
  simp -implicitDefEqProofs only [bind_bind, ok_bind, dOnly_ok, callC_0, callC_1, callC_2, callC_3, callC_n, putC_0, putC_1, putC_2, putC_3, putC_n, unl_l, unn_n, finE_rt, finN_rt, finN_nx, upC_rt, upC_bk, upC_ct, dnC_nx, dnC_rt, seqC_nx, seqC_rt, seqC_bk, seqC_ct, dropC_0, dropC_1, dropC_2, dropC_3, cellL_0, cellL_1, cellL_2, cellL_3, cellL_4, cellL_5, EI, if_true, if_false, Bool.false_eq_true, decide_true, decide_false, Bool.not_true, Bool.not_false, S_nil, reduceIte, List.map_cons, List.map_nil, List.tail_cons, IS, m__law_pieces, APs, CCs, rm_0, show ((r : Int) + 1) = ((r + 1 : Nat) : Int) by omega]
  refine Ok.bind (draw_Ok hp (n := r + 1) (by omega) (by omega)) ?_
  rintro _ ⟨g1, lp1, rfl, hg1, h1⟩
  simp -implicitDefEqProofs only [bind_bind, ok_bind, dOnly_ok, callC_0, callC_1, callC_2, callC_3, callC_n, putC_0, putC_1, putC_2, putC_3, putC_n, unl_l, unn_n, finE_rt, finN_rt, finN_nx, upC_rt, upC_bk, upC_ct, dnC_nx, dnC_rt, seqC_nx, seqC_rt, seqC_bk, seqC_ct, dropC_0, dropC_1, dropC_2, dropC_3, cellL_0, cellL_1, cellL_2, cellL_3, cellL_4, cellL_5, EI, if_true, if_false, Bool.false_eq_true, decide_true, decide_false, Bool.not_true, Bool.not_false, S_nil, reduceIte, List.map_cons, List.map_nil, List.tail_cons, IS, CCs, APs]
  refine Ok.bind (draw_Ok h1 (n := 8) (by decide) (by decide)) ?_
  rintro _ ⟨g2, lp2, rfl, hg2, h2⟩
  have eg : [PyData.int 1, PyData.int 2, PyData.int 3, PyData.int 0, PyData.int 2, PyData.int 3, PyData.int 4, PyData.int (g1 : Int)] = [1, 2, 3, 0, 2, 3, 4, g1].map fun c : Nat => PyData.int ((c : Nat) : Int) := by simp
  simp -implicitDefEqProofs only [bind_bind, ok_bind, dOnly_ok, callC_0, callC_1, callC_2, callC_3, callC_n, putC_0, putC_1, putC_2, putC_3, putC_n, unl_l, unn_n, finE_rt, finN_rt, finN_nx, upC_rt, upC_bk, upC_ct, dnC_nx, dnC_rt, seqC_nx, seqC_rt, seqC_bk, seqC_ct, dropC_0, dropC_1, dropC_2, dropC_3, cellL_0, cellL_1, cellL_2, cellL_3, cellL_4, cellL_5, EI, if_true, if_false, Bool.false_eq_true, decide_true, decide_false, Bool.not_true, Bool.not_false, S_nil, reduceIte, List.map_cons, List.map_nil, List.tail_cons, IS, CCs, APs]
  rw [eg, idx_nats [1, 2, 3, 0, 2, 3, 4, g1] (k := g2) hg2]
  have hc : ([1, 2, 3, 0, 2, 3, 4, g1][g2]'hg2) ≤ 1000 := by
    have q : ∀ c ∈ [1, 2, 3, 0, 2, 3, 4, g1], c ≤ 1000 := by intro c hc; simp at hc; omega
    exact q _ (List.getElem_mem _)
  generalize ([1, 2, 3, 0, 2, 3, 4, g1][g2]'hg2) = c at hc
  simp -implicitDefEqProofs only [bind_bind, ok_bind, dOnly_ok, callC_0, callC_1, callC_2, callC_3, callC_n, putC_0, putC_1, putC_2, putC_3, putC_n, unl_l, unn_n, finE_rt, finN_rt, finN_nx, upC_rt, upC_bk, upC_ct, dnC_nx, dnC_rt, seqC_nx, seqC_rt, seqC_bk, seqC_ct, dropC_0, dropC_1, dropC_2, dropC_3, cellL_0, cellL_1, cellL_2, cellL_3, cellL_4, cellL_5, EI, if_true, if_false, Bool.false_eq_true, decide_true, decide_false, Bool.not_true, Bool.not_false, S_nil, reduceIte, List.map_cons, List.map_nil, List.tail_cons, IS, rangeD_n (n := c) (by omega)]
  refine Ok.bind (forM_range (fun j (l : PD × List CO) => ∃ (q : Pcs) (hi r' : Nat) (lp' : List PD), l = (.int (hi : Int), [.l q.pcsD, .l lp', .l (Rm r' w a)]) ∧ PO F ss lo r L a w us q hi r' ∧ Pool lp')
    ⟨.nil, lo, r, lp2, rfl, ⟨.nil, by simp [Pcs.cnt], by simp [Pcs.dep]; omega, trivial, trivial⟩, h2⟩ ?_) ?_
  · rintro j _ hj ⟨q, hi, r', lp', rfl, oq, hp'⟩
    have hcnt := oq.cnt
    have hdep := oq.dep
    have hlen := pcsD_len q
    by_cases h0 : (0 : Int) < (r' : Int)
    · simp -implicitDefEqProofs only [bind_bind, ok_bind, dOnly_ok, callC_0, callC_1, callC_2, callC_3, callC_n, putC_0, putC_1, putC_2, putC_3, putC_n, unl_l, unn_n, finE_rt, finN_rt, finN_nx, upC_rt, upC_bk, upC_ct, dnC_nx, dnC_rt, seqC_nx, seqC_rt, seqC_bk, seqC_ct, dropC_0, dropC_1, dropC_2, dropC_3, cellL_0, cellL_1, cellL_2, cellL_3, cellL_4, cellL_5, EI, if_true, if_false, Bool.false_eq_true, decide_true, decide_false, Bool.not_true, Bool.not_false, S_nil, reduceIte, List.map_cons, List.map_nil, List.tail_cons, IS, rm_0, h0, show ((r' : Int) - 1) = ((r' - 1 : Nat) : Int) by omega, rm_set, CCs, APs]
      refine Ok.bind (ih F ss hi (r' - 1) lp' hp' hF ⟨hI.slots, hfew, by omega, hI.w, hL⟩) ?_
      rintro _ ⟨q2, pd, hi2, r2, lp3, rfl, e2, o2, h3⟩
      obtain ⟨t, t1, t2⟩ := first_ok e2
      have hcnt2 := o2.cnt
      have hdep2 := o2.dep
      have okApp : (q.lastT = true → q2.firstT = false) → Ok (Out.ok (Ctl.nx (PyData.int (hi2 : Int), [CO.l (q.pcsD ++ [pd]), .l lp3, .l (Rm r2 w a)]) : Ctl (PD × List CO) (PD × List CO) (PD × List CO))) fun c => ∃ l', (c = Ctl.nx l' ∨ c = Ctl.ct l') ∧ ∃ (q : Pcs) (hi r' : Nat) (lp' : List PD), l' = (.int (hi : Int), [.l q.pcsD, .l lp', .l (Rm r' w a)]) ∧ PO F ss lo r L a w us q hi r' ∧ Pool lp' := fun hk =>
        .ret ⟨_, .inl rfl, q.app q2, hi2, r2, lp3, by rw [Pcs.app_D, e2], ⟨oq.fit.app o2.fit, by rw [Pcs.app_cnt]; omega, by rw [Pcs.app_dep]; omega, Pcs.app_AllT oq.all o2.all, Pcs.app_NoTT oq.tt o2.tt hk⟩, h3⟩
      by_cases hq : q = .nil
      · subst hq
        simp -implicitDefEqProofs only [bind_bind, ok_bind, dOnly_ok, callC_0, callC_1, callC_2, callC_3, callC_n, putC_0, putC_1, putC_2, putC_3, putC_n, unl_l, unn_n, finE_rt, finN_rt, finN_nx, upC_rt, upC_bk, upC_ct, dnC_nx, dnC_rt, seqC_nx, seqC_rt, seqC_bk, seqC_ct, dropC_0, dropC_1, dropC_2, dropC_3, cellL_0, cellL_1, cellL_2, cellL_3, cellL_4, cellL_5, EI, if_true, if_false, Bool.false_eq_true, decide_true, decide_false, Bool.not_true, Bool.not_false, S_nil, reduceIte, List.map_cons, List.map_nil, List.tail_cons, IS, CCs, APs, Pcs.pcsD, List.length_nil, appD_ok (ds := []) (d := pd) (by rw [sizeLine_eq]; simp), show ((0 : Nat) : Int) = 0 from rfl]
        exact okApp fun z => by cases z
      · obtain ⟨xs, ld, e3, l1, l2⟩ := last_ok q hq
        have hne : ¬ ((q.pcsD.length : Int) = 0) := fun z => hq (pcs_nil.mp (List.length_eq_zero_iff.mp (by omega)))
        have hap := appD_ok (ds := q.pcsD) (d := pd) (by rw [sizeLine_eq]; omega)
        have hlast : idxD (.list q.pcsD) (.int (-1)) = .ok ld := by rw [e3]; exact idxD_last
        have hlen2 : lenD (.list q.pcsD) = .ok (.int (q.pcsD.length : Int)) := rfl
        cases hT : q2.firstT with
        | false =>
          rw [hT] at t2
          simp -implicitDefEqProofs only [bind_bind, ok_bind, dOnly_ok, callC_0, callC_1, callC_2, callC_3, callC_n, putC_0, putC_1, putC_2, putC_3, putC_n, unl_l, unn_n, finE_rt, finN_rt, finN_nx, upC_rt, upC_bk, upC_ct, dnC_nx, dnC_rt, seqC_nx, seqC_rt, seqC_bk, seqC_ct, dropC_0, dropC_1, dropC_2, dropC_3, cellL_0, cellL_1, cellL_2, cellL_3, cellL_4, cellL_5, EI, if_true, if_false, Bool.false_eq_true, decide_true, decide_false, Bool.not_true, Bool.not_false, S_nil, reduceIte, List.map_cons, List.map_nil, List.tail_cons, IS, CCs, APs, hne, t1, S_TEXT, t2, hap]
          exact okApp fun _ => hT
        | true =>
          rw [hT] at t2
          cases hl : q.lastT with
          | false =>
            rw [hl] at l2
            simp -implicitDefEqProofs only [bind_bind, ok_bind, dOnly_ok, callC_0, callC_1, callC_2, callC_3, callC_n, putC_0, putC_1, putC_2, putC_3, putC_n, unl_l, unn_n, finE_rt, finN_rt, finN_nx, upC_rt, upC_bk, upC_ct, dnC_nx, dnC_rt, seqC_nx, seqC_rt, seqC_bk, seqC_ct, dropC_0, dropC_1, dropC_2, dropC_3, cellL_0, cellL_1, cellL_2, cellL_3, cellL_4, cellL_5, EI, if_true, if_false, Bool.false_eq_true, decide_true, decide_false, Bool.not_true, Bool.not_false, S_nil, reduceIte, List.map_cons, List.map_nil, List.tail_cons, IS, CCs, APs, hne, t1, S_TEXT, t2, hlast, l1, l2, hap]
            exact okApp fun z => by rw [hl] at z; cases z
          | true =>
            rw [hl] at l2
            simp -implicitDefEqProofs only [bind_bind, ok_bind, dOnly_ok, callC_0, callC_1, callC_2, callC_3, callC_n, putC_0, putC_1, putC_2, putC_3, putC_n, unl_l, unn_n, finE_rt, finN_rt, finN_nx, upC_rt, upC_bk, upC_ct, dnC_nx, dnC_rt, seqC_nx, seqC_rt, seqC_bk, seqC_ct, dropC_0, dropC_1, dropC_2, dropC_3, cellL_0, cellL_1, cellL_2, cellL_3, cellL_4, cellL_5, EI, if_true, if_false, Bool.false_eq_true, decide_true, decide_false, Bool.not_true, Bool.not_false, S_nil, reduceIte, List.map_cons, List.map_nil, List.tail_cons, IS, CCs, APs, hne, t1, S_TEXT, t2, hlast, l1, l2]
            have := text_drop e2 hT o2.fit
            subst this
            exact .ret ⟨_, .inl rfl, q, hi2, r2, lp3, rfl, ⟨oq.fit, by omega, hdep, oq.all, oq.tt⟩, h3⟩
    · simp -implicitDefEqProofs only [bind_bind, ok_bind, dOnly_ok, callC_0, callC_1, callC_2, callC_3, callC_n, putC_0, putC_1, putC_2, putC_3, putC_n, unl_l, unn_n, finE_rt, finN_rt, finN_nx, upC_rt, upC_bk, upC_ct, dnC_nx, dnC_rt, seqC_nx, seqC_rt, seqC_bk, seqC_ct, dropC_0, dropC_1, dropC_2, dropC_3, cellL_0, cellL_1, cellL_2, cellL_3, cellL_4, cellL_5, EI, if_true, if_false, Bool.false_eq_true, decide_true, decide_false, Bool.not_true, Bool.not_false, S_nil, reduceIte, List.map_cons, List.map_nil, List.tail_cons, IS, rm_0, h0]
      exact .ret ⟨_, .inl rfl, q, hi, r', lp', rfl, oq, hp'⟩
  · rintro _ ⟨_, rfl, q, hi, r', lp', rfl, oq, hp'⟩
    simp -implicitDefEqProofs only [bind_bind, ok_bind, dOnly_ok, callC_0, callC_1, callC_2, callC_3, callC_n, putC_0, putC_1, putC_2, putC_3, putC_n, unl_l, unn_n, finE_rt, finN_rt, finN_nx, upC_rt, upC_bk, upC_ct, dnC_nx, dnC_rt, seqC_nx, seqC_rt, seqC_bk, seqC_ct, dropC_0, dropC_1, dropC_2, dropC_3, cellL_0, cellL_1, cellL_2, cellL_3, cellL_4, cellL_5, EI, if_true, if_false, Bool.false_eq_true, decide_true, decide_false, Bool.not_true, Bool.not_false, S_nil, reduceIte, List.map_cons, List.map_nil, List.tail_cons, IS]
    exact .ret ⟨q, hi, r', lp', rfl, oq, hp'⟩
theorem pieces_all {a : List Nat} {w : Nat} {us : List (List Nat)} (ha : Alph a) (hus : us.length ≤ 1000) : ∀ (L n : Nat), 0 < L → 2 * L ≤ n → PiecesSpec a w us n L
  | 0, _, h, _ => by omega
  | L + 1, n, _, hn => by
    obtain ⟨m, rfl⟩ : ∃ m, n = m + 2 := ⟨n - 2, by omega⟩
    exact pieces_step (piece_step ha hus fun h => pieces_all ha hus L m (by omega) (by omega))
/-! ### all strings of pieces are texts -/
namespace Pcs
def AllS (T : List Nat → Prop) : Pcs → Prop
  | nil => True
  | text w r => T w ∧ r.AllS T
  | hole f r => T f ∧ r.AllS T
  | choice f w y o r => T f ∧ T w ∧ y.AllS T ∧ o.AllS T ∧ r.AllS T
  | loop n b g r => T n ∧ T g ∧ b.AllS T ∧ r.AllS T
  | use p r => T p ∧ r.AllS T
end Pcs
def SlotTx (ss : List Slot) : Prop := ∀ s ∈ ss, Tx s.1 ∧ ∀ w ∈ s.2, Tx w
theorem Slots.tx {ss : List Slot} (h : Slots ss) : SlotTx ss := fun s m => ⟨(h.lab s m).low.tx, fun w q => ((h.menu s m).1.word w q).2.tx⟩
theorem SlotTx.app {a b : List Slot} (h : SlotTx a) (h' : SlotTx b) : SlotTx (a ++ b) := fun s m => by
  rcases List.mem_append.mp m with m | m
  · exact h s m
  · exact h' s m
theorem Fit.txs {F : Form} {ss : List Slot} {lo hi : Nat} {p : Pcs} {T G U : List Nat → Prop} (hT : ∀ t, T t → Tx t) (hG : ∀ t, G t → Tx t) (hU : ∀ t, U t → Tx t) (h : Fit F ss lo p hi) : FormOk F → SlotTx ss → p.AllT T G U → p.AllS Tx := by
  induction h with
  | nil => exact fun _ _ _ => trivial
  | text _ ih => exact fun a b c => ⟨hT _ c.1, ih a b c.2⟩
  | hole m _ ih => exact fun a b c => ⟨(b _ m).1, ih a b c⟩
  | choice m1 m2 _ _ _ ih1 ih2 ih3 => exact fun a b c => ⟨(b _ m1).1, (b _ m1).2 _ m2, ih1 a b c.1, ih2 a b c.2.1, ih3 a b c.2.2⟩
  | loop l e _ _ ih1 ih2 =>
    intro a b c
    have m := List.mem_of_getElem? e
    exact ⟨(a.lab _ m).low.tx, hG _ c.1, ih1 (a.sub _ m) (b.app (a.sub _ m).slots.tx) c.2.1, ih2 a b c.2.2⟩
  | use _ ih => exact fun a b c => ⟨hU _ c.1, ih a b c.2⟩
/-- tuples of tuples of texts -/
def GoodT : Nat → PD → Prop
  | 0, _ => False
  | n + 1, d => match d with
    | .str z => Tx z.cps.toList
    | .tuple xs => xs.length ≤ 1000 ∧ ∀ x ∈ xs, GoodT n x
    | _ => False
theorem GoodT.mono : ∀ {n m : Nat} {d : PD}, GoodT n d → n ≤ m → GoodT m d
  | 0, _, _, h, _ => h.elim
  | n + 1, 0, _, _, hm => by omega
  | n + 1, m + 1, d, h, hm => by
    cases d with
    | str z => exact h
    | tuple xs => exact ⟨h.1, fun x hx => (h.2 x hx).mono (by omega)⟩
    | none => exact h.elim
    | bool _ => exact h.elim
    | int _ => exact h.elim
    | list _ => exact h.elim
    | dict _ => exact h.elim
theorem goodT_S {t : List Nat} {n : Nat} (h : Tx t) : GoodT (n + 1) (S t) := h
theorem tags_tx : Tx TEXT ∧ Tx HOLE ∧ Tx CHOICE ∧ Tx LOOP ∧ Tx USE := by
  unfold Tx; decide
theorem goodT_pcs : ∀ {p : Pcs} {n : Nat}, p.AllS Tx → p.cnt ≤ 1000 → 2 * p.dep + 2 ≤ n → ∀ d ∈ p.pcsD, GoodT n d
  | .nil, _, _, _, _, d, m => by cases m
  | .text w r, n, h, hc, hn, d, m => by
    have e : (Pcs.text w r).cnt = 1 + r.cnt := rfl
    have e2 : (Pcs.text w r).dep = r.dep := rfl
    obtain ⟨n, rfl⟩ : ∃ k, n = k + 2 := ⟨n - 2, by omega⟩
    rcases List.mem_cons.mp m with q | m
    · rw [q]
      exact ⟨by simp, fun x hx => by
        simp at hx
        rcases hx with z | z <;> rw [z]
        · exact goodT_S tags_tx.1
        · exact goodT_S h.1⟩
    · exact goodT_pcs (p := r) h.2 (by omega) (by omega) d m
  | .hole w r, n, h, hc, hn, d, m => by
    have e : (Pcs.hole w r).cnt = 1 + r.cnt := rfl
    have e2 : (Pcs.hole w r).dep = r.dep := rfl
    obtain ⟨n, rfl⟩ : ∃ k, n = k + 2 := ⟨n - 2, by omega⟩
    rcases List.mem_cons.mp m with q | m
    · rw [q]
      exact ⟨by simp, fun x hx => by
        simp at hx
        rcases hx with z | z <;> rw [z]
        · exact goodT_S tags_tx.2.1
        · exact goodT_S h.1⟩
    · exact goodT_pcs (p := r) h.2 (by omega) (by omega) d m
  | .use w r, n, h, hc, hn, d, m => by
    have e : (Pcs.use w r).cnt = 1 + r.cnt := rfl
    have e2 : (Pcs.use w r).dep = r.dep := rfl
    obtain ⟨n, rfl⟩ : ∃ k, n = k + 2 := ⟨n - 2, by omega⟩
    rcases List.mem_cons.mp m with q | m
    · rw [q]
      exact ⟨by simp, fun x hx => by
        simp at hx
        rcases hx with z | z <;> rw [z]
        · exact goodT_S tags_tx.2.2.2.2
        · exact goodT_S h.1⟩
    · exact goodT_pcs (p := r) h.2 (by omega) (by omega) d m
  | .choice f w y o r, n, h, hc, hn, d, m => by
    have e : (Pcs.choice f w y o r).cnt = 1 + y.cnt + o.cnt + r.cnt := rfl
    have e2 : (Pcs.choice f w y o r).dep = max (1 + max y.dep o.dep) r.dep := rfl
    obtain ⟨n, rfl⟩ : ∃ k, n = k + 2 := ⟨n - 2, by omega⟩
    have l1 := pcsD_len y
    have l2 := pcsD_len o
    rcases List.mem_cons.mp m with q | m
    · rw [q]
      exact ⟨by simp, fun x hx => by
        simp at hx
        rcases hx with z | z | z | z | z <;> rw [z]
        · exact goodT_S tags_tx.2.2.1
        · exact goodT_S h.1
        · exact goodT_S h.2.1
        · exact ⟨by omega, fun x hx => goodT_pcs h.2.2.1 (by omega) (by omega) x hx⟩
        · exact ⟨by omega, fun x hx => goodT_pcs h.2.2.2.1 (by omega) (by omega) x hx⟩⟩
    · exact goodT_pcs (p := r) h.2.2.2.2 (by omega) (by omega) d m
  | .loop l b g r, n, h, hc, hn, d, m => by
    have e : (Pcs.loop l b g r).cnt = 1 + b.cnt + r.cnt := rfl
    have e2 : (Pcs.loop l b g r).dep = max (1 + b.dep) r.dep := rfl
    obtain ⟨n, rfl⟩ : ∃ k, n = k + 2 := ⟨n - 2, by omega⟩
    have l1 := pcsD_len b
    rcases List.mem_cons.mp m with q | m
    · rw [q]
      exact ⟨by simp, fun x hx => by
        simp at hx
        rcases hx with z | z | z | z <;> rw [z]
        · exact goodT_S tags_tx.2.2.2.1
        · exact goodT_S h.1
        · exact ⟨by omega, fun x hx => goodT_pcs h.2.2.1 (by omega) (by omega) x hx⟩
        · exact goodT_S h.2.1⟩
    · exact goodT_pcs (p := r) h.2.2.2 (by omega) (by omega) d m
theorem Ok.eq {α : Type} {m : Out α} {x : α} (h : Ok m fun r => r = x) : m = .ok x := by
  obtain ⟨a, e, rfl⟩ := h
  exact e
theorem same_ok : ∀ (n : Nat) (d : PD), GoodT n d → m__law_same n d d = .ok (.bool true, [])
  | 0, d, h => h.elim
  | n + 1, .none, h => h.elim
  | n + 1, .bool _, h => h.elim
  | n + 1, .int _, h => h.elim
  | n + 1, .list _, h => h.elim
  | n + 1, .dict _, h => h.elim
  | n + 1, .str z, h => by
    have hx : Tx z.cps.toList := h
    rw [str_S z]
    simp -implicitDefEqProofs only [bind_bind, ok_bind, dOnly_ok, callC_0, callC_1, callC_2, callC_3, callC_n, putC_0, putC_1, putC_2, putC_3, putC_n, unl_l, unn_n, finE_rt, finN_rt, finN_nx, upC_rt, upC_bk, upC_ct, dnC_nx, dnC_rt, seqC_nx, seqC_rt, seqC_bk, seqC_ct, dropC_0, dropC_1, dropC_2, dropC_3, cellL_0, cellL_1, cellL_2, cellL_3, cellL_4, cellL_5, EI, if_true, if_false, Bool.false_eq_true, decide_true, decide_false, Bool.not_true, Bool.not_false, S_nil, reduceIte, List.map_cons, List.map_nil, List.tail_cons, IS, m__law_same, eqD_S hx hx]
  | n + 1, .tuple xs, h => by
    have ih := fun x hx => same_ok n x (h.2 x hx)
    have hl : xs.length ≤ 1000 := h.1
    refine Ok.eq ?_
    simp -implicitDefEqProofs only [bind_bind, ok_bind, dOnly_ok, callC_0, callC_1, callC_2, callC_3, callC_n, putC_0, putC_1, putC_2, putC_3, putC_n, unl_l, unn_n, finE_rt, finN_rt, finN_nx, upC_rt, upC_bk, upC_ct, dnC_nx, dnC_rt, seqC_nx, seqC_rt, seqC_bk, seqC_ct, dropC_0, dropC_1, dropC_2, dropC_3, cellL_0, cellL_1, cellL_2, cellL_3, cellL_4, cellL_5, EI, if_true, if_false, Bool.false_eq_true, decide_true, decide_false, Bool.not_true, Bool.not_false, S_nil, reduceIte, List.map_cons, List.map_nil, List.tail_cons, IS, m__law_same, rangeD_n (n := xs.length) (by omega), APs]
    refine Ok.bind (forM_range (fun _ _ => True) trivial ?_) ?_
    · rintro i _ hi _
      have hx := List.getElem?_eq_getElem hi
      simp -implicitDefEqProofs only [bind_bind, ok_bind, dOnly_ok, callC_0, callC_1, callC_2, callC_3, callC_n, putC_0, putC_1, putC_2, putC_3, putC_n, unl_l, unn_n, finE_rt, finN_rt, finN_nx, upC_rt, upC_bk, upC_ct, dnC_nx, dnC_rt, seqC_nx, seqC_rt, seqC_bk, seqC_ct, dropC_0, dropC_1, dropC_2, dropC_3, cellL_0, cellL_1, cellL_2, cellL_3, cellL_4, cellL_5, EI, if_true, if_false, Bool.false_eq_true, decide_true, decide_false, Bool.not_true, Bool.not_false, S_nil, reduceIte, List.map_cons, List.map_nil, List.tail_cons, IS, idxD_t hx, APs, ih _ (List.getElem_mem hi)]
      exact .ret ⟨_, .inl rfl, trivial⟩
    · rintro _ ⟨_, rfl, _⟩
      simp -implicitDefEqProofs only [bind_bind, ok_bind, dOnly_ok, callC_0, callC_1, callC_2, callC_3, callC_n, putC_0, putC_1, putC_2, putC_3, putC_n, unl_l, unn_n, finE_rt, finN_rt, finN_nx, upC_rt, upC_bk, upC_ct, dnC_nx, dnC_rt, seqC_nx, seqC_rt, seqC_bk, seqC_ct, dropC_0, dropC_1, dropC_2, dropC_3, cellL_0, cellL_1, cellL_2, cellL_3, cellL_4, cellL_5, EI, if_true, if_false, Bool.false_eq_true, decide_true, decide_false, Bool.not_true, Bool.not_false, S_nil, reduceIte, List.map_cons, List.map_nil, List.tail_cons, IS]
      exact .ret rfl
theorem lay_good : ∀ {n : Nat} {d : PD}, GoodT n d → PyData.canLay0 d = true ∧ PyData.depth d ≤ n
  | 0, _, h => h.elim
  | n + 1, d, h => by
    cases d with
    | str z =>
      have q := lay_S (show Tx z.cps.toList from h)
      exact ⟨q.1, by rw [show PyData.depth (.str z) = 0 from q.2]; omega⟩
    | tuple xs =>
      obtain ⟨h1, h2⟩ := lay_all fun x hx => lay_good (h.2 x hx)
      exact ⟨by simp [PyData.canLay0, h1], by simp [PyData.depth]; omega⟩
    | none => exact h.elim
    | bool _ => exact h.elim
    | int _ => exact h.elim
    | list _ => exact h.elim
    | dict _ => exact h.elim
theorem shaped_good {n : Nat} {d : PD} (h : GoodT n d) (hn : n ≤ 64) : SeqAt.shaped d = true := shaped_iff.mpr ⟨(lay_good h).1, Nat.le_trans (lay_good h).2 hn⟩
theorem setD_last {xs : List PD} {x d : PD} : setD (xs ++ [x]) (.int (-1)) d = .ok (xs ++ [d]) := by
  have e : ixN (xs ++ [x]).length (-1) = some xs.length := by
    unfold ixN
    rw [if_neg (by decide), if_pos (by rw [List.length_append, List.length_singleton]; omega)]
    rw [List.length_append, List.length_singleton]
    congr 1
    omega
  show (match ixN (xs ++ [x]).length (-1) with | some j => Out.ok ((xs ++ [x]).set j d) | none => .bad) = _
  rw [e]
  simp
theorem snoc_of {α : Type} (l : List α) : l = [] ∨ ∃ k x, l = k ++ [x] := by
  cases h : l.getLast? with
  | none => exact .inl (by simpa using h)
  | some x => exact .inr ⟨l.dropLast, x, by rw [List.getLast?_eq_some_iff] at h; obtain ⟨ys, rfl⟩ := h; simp⟩
end Dd
set_option Elab.async false
set_option linter.all false
set_option maxRecDepth 100000
set_option maxHeartbeats 4000000
namespace Dd
open PySem PySem.Spec PyProof.Rows L2
theorem pcs_loop {L R : Type} {b : PD → L → Out (Ctl L R L)} (I : Pcs → L → Prop) {p : Pcs} {l : L} (h : I p l)
    (ht : ∀ w r l, I (.text w r) l → Ok (b (.tuple [S TEXT, S w]) l) fun c => ∃ l', (c = .nx l' ∨ c = .ct l') ∧ I r l')
    (hh : ∀ f r l, I (.hole f r) l → Ok (b (.tuple [S HOLE, S f]) l) fun c => ∃ l', (c = .nx l' ∨ c = .ct l') ∧ I r l')
    (hc : ∀ f w y o r l, I (.choice f w y o r) l → Ok (b (.tuple [S CHOICE, S f, S w, .tuple y.pcsD, .tuple o.pcsD]) l) fun c => ∃ l', (c = .nx l' ∨ c = .ct l') ∧ I r l')
    (hl : ∀ n bd g r l, I (.loop n bd g r) l → Ok (b (.tuple [S LOOP, S n, .tuple bd.pcsD, S g]) l) fun c => ∃ l', (c = .nx l' ∨ c = .ct l') ∧ I r l')
    (hu : ∀ u r l, I (.use u r) l → Ok (b (.tuple [S USE, S u]) l) fun c => ∃ l', (c = .nx l' ∨ c = .ct l') ∧ I r l') : Ok (forM b p.pcsD l) fun c => ∃ l', c = .nx l' ∧ I .nil l' := by
  refine (forM_Ok (fun ds l => ∃ q : Pcs, ds = q.pcsD ∧ I q l) ⟨p, rfl, h⟩ ?_).mono ?_
  · rintro d r l ⟨q, e, hq⟩
    cases q with
    | nil => cases e
    | text w r' => injection e with e1 e2; subst e1; exact (ht w r' l hq).mono fun c ⟨l', a, b⟩ => ⟨l', a, r', e2, b⟩
    | hole f r' => injection e with e1 e2; subst e1; exact (hh f r' l hq).mono fun c ⟨l', a, b⟩ => ⟨l', a, r', e2, b⟩
    | choice f w y o r' => injection e with e1 e2; subst e1; exact (hc f w y o r' l hq).mono fun c ⟨l', a, b⟩ => ⟨l', a, r', e2, b⟩
    | loop n bd g r' => injection e with e1 e2; subst e1; exact (hl n bd g r' l hq).mono fun c ⟨l', a, b⟩ => ⟨l', a, r', e2, b⟩
    | use u r' => injection e with e1 e2; subst e1; exact (hu u r' l hq).mono fun c ⟨l', a, b⟩ => ⟨l', a, r', e2, b⟩
  · rintro c ⟨l', rfl, q, e, hq⟩
    have : q = .nil := pcs_nil.mp e.symm
    subst this
    exact ⟨l', rfl, hq⟩
theorem cnt_t {w : List Nat} {r : Pcs} : (Pcs.text w r).cnt = 1 + r.cnt ∧ (Pcs.text w r).dep = r.dep := ⟨rfl, rfl⟩
theorem cnt_h {w : List Nat} {r : Pcs} : (Pcs.hole w r).cnt = 1 + r.cnt ∧ (Pcs.hole w r).dep = r.dep := ⟨rfl, rfl⟩
theorem cnt_u {w : List Nat} {r : Pcs} : (Pcs.use w r).cnt = 1 + r.cnt ∧ (Pcs.use w r).dep = r.dep := ⟨rfl, rfl⟩
theorem cnt_c {f w : List Nat} {y o r : Pcs} : (Pcs.choice f w y o r).cnt = 1 + y.cnt + o.cnt + r.cnt ∧ (Pcs.choice f w y o r).dep = max (1 + max y.dep o.dep) r.dep := ⟨rfl, rfl⟩
theorem cnt_l {n g : List Nat} {b r : Pcs} : (Pcs.loop n b g r).cnt = 1 + b.cnt + r.cnt ∧ (Pcs.loop n b g r).dep = max (1 + b.dep) r.dep := ⟨rfl, rfl⟩
theorem cnt_n : Pcs.nil.cnt = 0 ∧ Pcs.nil.dep = 0 := ⟨rfl, rfl⟩
namespace Pcs
/-- the letters: a hole counts 6 -/
def ltrs : Pcs → Nat
  | nil => 0
  | text w r => w.length + r.ltrs
  | hole _ r => 6 + r.ltrs
  | choice _ _ y o r => y.ltrs + o.ltrs + r.ltrs
  | loop _ b g r => g.length + b.ltrs + r.ltrs
  | use _ r => r.ltrs
end Pcs
theorem iaddN {a b : Nat} : iaddD (.int ((a : Nat) : Int)) (.int ((b : Nat) : Int)) = .ok (.int ((a + b : Nat) : Int)) := by rw [iaddD_i]; congr 2
theorem addN {a b : Nat} : addD (.int ((a : Nat) : Int)) (.int ((b : Nat) : Int)) = .ok (.int ((a + b : Nat) : Int)) := by rw [addD_i]; congr 2
theorem int1 : PyData.int 1 = .int ((1 : Nat) : Int) := rfl
theorem int0 : PyData.int 0 = .int ((0 : Nat) : Int) := rfl
theorem int6 : PyData.int 6 = .int ((6 : Nat) : Int) := rfl
theorem count_ok : ∀ (n : Nat) (p : Pcs), p.dep + 1 ≤ n → m_count_pieces n (.tuple p.pcsD) = .ok (.int ((p.cnt : Nat) : Int), [])
  | 0, _, h => by omega
  | n + 1, p, hn => by
    have ih := fun q => count_ok n q
    refine Ok.eq ?_
    simp -implicitDefEqProofs only [bind_bind, ok_bind, dOnly_ok, callC_0, callC_1, callC_2, callC_3, callC_n, putC_0, putC_1, putC_2, putC_3, putC_n, unl_l, unn_n, finE_rt, finN_rt, finN_nx, upC_rt, upC_bk, upC_ct, dnC_nx, dnC_rt, seqC_nx, seqC_rt, seqC_bk, seqC_ct, dropC_0, dropC_1, dropC_2, dropC_3, cellL_0, cellL_1, cellL_2, cellL_3, cellL_4, cellL_5, EI, if_true, if_false, Bool.false_eq_true, decide_true, decide_false, Bool.not_true, Bool.not_false, S_nil, reduceIte, List.map_cons, List.map_nil, List.tail_cons, IS, m_count_pieces, APs]
    refine Ok.bind (pcs_loop (fun q (l : PD) => ∃ c : Nat, l = .int ((c : Nat) : Int) ∧ c + q.cnt = p.cnt ∧ q.dep ≤ n) ⟨0, rfl, by omega, by omega⟩ ?_ ?_ ?_ ?_ ?_) ?_
    · rintro w r _ ⟨c, rfl, h1, h2⟩
      rw [cnt_t.1] at h1; rw [cnt_t.2] at h2
      simp -implicitDefEqProofs only [bind_bind, ok_bind, dOnly_ok, callC_0, callC_1, callC_2, callC_3, callC_n, putC_0, putC_1, putC_2, putC_3, putC_n, unl_l, unn_n, finE_rt, finN_rt, finN_nx, upC_rt, upC_bk, upC_ct, dnC_nx, dnC_rt, seqC_nx, seqC_rt, seqC_bk, seqC_ct, dropC_0, dropC_1, dropC_2, dropC_3, cellL_0, cellL_1, cellL_2, cellL_3, cellL_4, cellL_5, EI, if_true, if_false, Bool.false_eq_true, decide_true, decide_false, Bool.not_true, Bool.not_false, S_nil, reduceIte, List.map_cons, List.map_nil, List.tail_cons, IS, TG, idxD_t3, idxD_t4]
      exact .ret ⟨_, .inl rfl, c + 1, by simp, by omega, h2⟩
    · rintro w r _ ⟨c, rfl, h1, h2⟩
      rw [cnt_h.1] at h1; rw [cnt_h.2] at h2
      simp -implicitDefEqProofs only [bind_bind, ok_bind, dOnly_ok, callC_0, callC_1, callC_2, callC_3, callC_n, putC_0, putC_1, putC_2, putC_3, putC_n, unl_l, unn_n, finE_rt, finN_rt, finN_nx, upC_rt, upC_bk, upC_ct, dnC_nx, dnC_rt, seqC_nx, seqC_rt, seqC_bk, seqC_ct, dropC_0, dropC_1, dropC_2, dropC_3, cellL_0, cellL_1, cellL_2, cellL_3, cellL_4, cellL_5, EI, if_true, if_false, Bool.false_eq_true, decide_true, decide_false, Bool.not_true, Bool.not_false, S_nil, reduceIte, List.map_cons, List.map_nil, List.tail_cons, IS, TG, idxD_t3, idxD_t4]
      exact .ret ⟨_, .inl rfl, c + 1, by simp, by omega, h2⟩
    · rintro f w y o r _ ⟨c, rfl, h1, h2⟩
      rw [cnt_c.1] at h1; rw [cnt_c.2] at h2
      simp -implicitDefEqProofs only [bind_bind, ok_bind, dOnly_ok, callC_0, callC_1, callC_2, callC_3, callC_n, putC_0, putC_1, putC_2, putC_3, putC_n, unl_l, unn_n, finE_rt, finN_rt, finN_nx, upC_rt, upC_bk, upC_ct, dnC_nx, dnC_rt, seqC_nx, seqC_rt, seqC_bk, seqC_ct, dropC_0, dropC_1, dropC_2, dropC_3, cellL_0, cellL_1, cellL_2, cellL_3, cellL_4, cellL_5, EI, if_true, if_false, Bool.false_eq_true, decide_true, decide_false, Bool.not_true, Bool.not_false, S_nil, reduceIte, List.map_cons, List.map_nil, List.tail_cons, IS, TG, idxD_t3, idxD_t4, APs, ih y (by omega), ih o (by omega)]
      exact .ret ⟨_, .inl rfl, c + 1 + (y.cnt + o.cnt), by simp, by omega, by omega⟩
    · rintro m b g r _ ⟨c, rfl, h1, h2⟩
      rw [cnt_l.1] at h1; rw [cnt_l.2] at h2
      simp -implicitDefEqProofs only [bind_bind, ok_bind, dOnly_ok, callC_0, callC_1, callC_2, callC_3, callC_n, putC_0, putC_1, putC_2, putC_3, putC_n, unl_l, unn_n, finE_rt, finN_rt, finN_nx, upC_rt, upC_bk, upC_ct, dnC_nx, dnC_rt, seqC_nx, seqC_rt, seqC_bk, seqC_ct, dropC_0, dropC_1, dropC_2, dropC_3, cellL_0, cellL_1, cellL_2, cellL_3, cellL_4, cellL_5, EI, if_true, if_false, Bool.false_eq_true, decide_true, decide_false, Bool.not_true, Bool.not_false, S_nil, reduceIte, List.map_cons, List.map_nil, List.tail_cons, IS, TG, idxD_t3, idxD_t4, APs, ih b (by omega)]
      exact .ret ⟨_, .inl rfl, c + 1 + b.cnt, by simp, by omega, by omega⟩
    · rintro w r _ ⟨c, rfl, h1, h2⟩
      rw [cnt_u.1] at h1; rw [cnt_u.2] at h2
      simp -implicitDefEqProofs only [bind_bind, ok_bind, dOnly_ok, callC_0, callC_1, callC_2, callC_3, callC_n, putC_0, putC_1, putC_2, putC_3, putC_n, unl_l, unn_n, finE_rt, finN_rt, finN_nx, upC_rt, upC_bk, upC_ct, dnC_nx, dnC_rt, seqC_nx, seqC_rt, seqC_bk, seqC_ct, dropC_0, dropC_1, dropC_2, dropC_3, cellL_0, cellL_1, cellL_2, cellL_3, cellL_4, cellL_5, EI, if_true, if_false, Bool.false_eq_true, decide_true, decide_false, Bool.not_true, Bool.not_false, S_nil, reduceIte, List.map_cons, List.map_nil, List.tail_cons, IS, TG, idxD_t3, idxD_t4]
      exact .ret ⟨_, .inl rfl, c + 1, by simp, by omega, h2⟩
    · rintro _ ⟨_, rfl, c, rfl, h1, h2⟩
      rw [cnt_n.1] at h1
      simp -implicitDefEqProofs only [bind_bind, ok_bind, dOnly_ok, callC_0, callC_1, callC_2, callC_3, callC_n, putC_0, putC_1, putC_2, putC_3, putC_n, unl_l, unn_n, finE_rt, finN_rt, finN_nx, upC_rt, upC_bk, upC_ct, dnC_nx, dnC_rt, seqC_nx, seqC_rt, seqC_bk, seqC_ct, dropC_0, dropC_1, dropC_2, dropC_3, cellL_0, cellL_1, cellL_2, cellL_3, cellL_4, cellL_5, EI, if_true, if_false, Bool.false_eq_true, decide_true, decide_false, Bool.not_true, Bool.not_false, S_nil, reduceIte, List.map_cons, List.map_nil, List.tail_cons, IS]
      exact .ret (by rw [← h1]; rfl)
theorem maxA_s {a b : Nat} : maxA [.int ((a : Nat) : Int), .int (1 + ((b : Nat) : Int))] = .ok (.int ((max a (1 + b) : Nat) : Int)) := by
  rw [show (1 + ((b : Nat) : Int)) = ((1 + b : Nat) : Int) by omega, maxA_n]
theorem maxA3_n {a b c : Nat} : maxA3 [.int ((a : Nat) : Int), .int ((b : Nat) : Int), .int ((c : Nat) : Int)] = .ok (.int ((max a (max b c) : Nat) : Int)) := by
  show Out.ok (PyData.int _) = _
  congr 2
  split <;> split <;> omega
theorem depth_ok : ∀ (n : Nat) (p : Pcs), p.dep + 1 ≤ n → m_depth_of n (.tuple p.pcsD) = .ok (.int ((p.dep + 1 : Nat) : Int), [])
  | 0, _, h => by omega
  | n + 1, p, hn => by
    have ih := fun q => depth_ok n q
    refine Ok.eq ?_
    simp -implicitDefEqProofs only [bind_bind, ok_bind, dOnly_ok, callC_0, callC_1, callC_2, callC_3, callC_n, putC_0, putC_1, putC_2, putC_3, putC_n, unl_l, unn_n, finE_rt, finN_rt, finN_nx, upC_rt, upC_bk, upC_ct, dnC_nx, dnC_rt, seqC_nx, seqC_rt, seqC_bk, seqC_ct, dropC_0, dropC_1, dropC_2, dropC_3, cellL_0, cellL_1, cellL_2, cellL_3, cellL_4, cellL_5, EI, if_true, if_false, Bool.false_eq_true, decide_true, decide_false, Bool.not_true, Bool.not_false, S_nil, reduceIte, List.map_cons, List.map_nil, List.tail_cons, IS, m_depth_of, APs]
    refine Ok.bind (pcs_loop (fun q (l : PD) => ∃ c : Nat, l = .int ((c : Nat) : Int) ∧ max c (1 + q.dep) = 1 + p.dep ∧ q.dep ≤ n ∧ 1 ≤ c) ⟨1, rfl, by omega, by omega, by omega⟩ ?_ ?_ ?_ ?_ ?_) ?_
    · rintro w r _ ⟨c, rfl, h1, h2, h3⟩
      rw [cnt_t.2] at h1 h2
      simp -implicitDefEqProofs only [bind_bind, ok_bind, dOnly_ok, callC_0, callC_1, callC_2, callC_3, callC_n, putC_0, putC_1, putC_2, putC_3, putC_n, unl_l, unn_n, finE_rt, finN_rt, finN_nx, upC_rt, upC_bk, upC_ct, dnC_nx, dnC_rt, seqC_nx, seqC_rt, seqC_bk, seqC_ct, dropC_0, dropC_1, dropC_2, dropC_3, cellL_0, cellL_1, cellL_2, cellL_3, cellL_4, cellL_5, EI, if_true, if_false, Bool.false_eq_true, decide_true, decide_false, Bool.not_true, Bool.not_false, S_nil, reduceIte, List.map_cons, List.map_nil, List.tail_cons, IS, TG, idxD_t3, idxD_t4]
      exact .ret ⟨_, .inl rfl, c, rfl, by omega, h2, h3⟩
    · rintro w r _ ⟨c, rfl, h1, h2, h3⟩
      rw [cnt_h.2] at h1 h2
      simp -implicitDefEqProofs only [bind_bind, ok_bind, dOnly_ok, callC_0, callC_1, callC_2, callC_3, callC_n, putC_0, putC_1, putC_2, putC_3, putC_n, unl_l, unn_n, finE_rt, finN_rt, finN_nx, upC_rt, upC_bk, upC_ct, dnC_nx, dnC_rt, seqC_nx, seqC_rt, seqC_bk, seqC_ct, dropC_0, dropC_1, dropC_2, dropC_3, cellL_0, cellL_1, cellL_2, cellL_3, cellL_4, cellL_5, EI, if_true, if_false, Bool.false_eq_true, decide_true, decide_false, Bool.not_true, Bool.not_false, S_nil, reduceIte, List.map_cons, List.map_nil, List.tail_cons, IS, TG, idxD_t3, idxD_t4]
      exact .ret ⟨_, .inl rfl, c, rfl, by omega, h2, h3⟩
    · rintro f w y o r _ ⟨c, rfl, h1, h2, h3⟩
      rw [cnt_c.2] at h1 h2
      rw [int1]
      simp -implicitDefEqProofs only [bind_bind, ok_bind, dOnly_ok, callC_0, callC_1, callC_2, callC_3, callC_n, putC_0, putC_1, putC_2, putC_3, putC_n, unl_l, unn_n, finE_rt, finN_rt, finN_nx, upC_rt, upC_bk, upC_ct, dnC_nx, dnC_rt, seqC_nx, seqC_rt, seqC_bk, seqC_ct, dropC_0, dropC_1, dropC_2, dropC_3, cellL_0, cellL_1, cellL_2, cellL_3, cellL_4, cellL_5, EI, if_true, if_false, Bool.false_eq_true, decide_true, decide_false, Bool.not_true, Bool.not_false, S_nil, reduceIte, List.map_cons, List.map_nil, List.tail_cons, IS, TG, idxD_t3, idxD_t4, APs, ih y (by omega), ih o (by omega)]
      rw [show ((1 : Nat) : Int) + ((y.dep + 1 : Nat) : Int) = ((1 + (y.dep + 1) : Nat) : Int) by omega, show ((1 : Nat) : Int) + ((o.dep + 1 : Nat) : Int) = ((1 + (o.dep + 1) : Nat) : Int) by omega, maxA3_n]
      simp -implicitDefEqProofs only [bind_bind, ok_bind, dOnly_ok, callC_0, callC_1, callC_2, callC_3, callC_n, putC_0, putC_1, putC_2, putC_3, putC_n, unl_l, unn_n, finE_rt, finN_rt, finN_nx, upC_rt, upC_bk, upC_ct, dnC_nx, dnC_rt, seqC_nx, seqC_rt, seqC_bk, seqC_ct, dropC_0, dropC_1, dropC_2, dropC_3, cellL_0, cellL_1, cellL_2, cellL_3, cellL_4, cellL_5, EI, if_true, if_false, Bool.false_eq_true, decide_true, decide_false, Bool.not_true, Bool.not_false, S_nil, reduceIte, List.map_cons, List.map_nil, List.tail_cons, IS]
      exact .ret ⟨_, .inl rfl, _, rfl, by omega, by omega, by omega⟩
    · rintro m b g r _ ⟨c, rfl, h1, h2, h3⟩
      rw [cnt_l.2] at h1 h2
      rw [int1]
      simp -implicitDefEqProofs only [bind_bind, ok_bind, dOnly_ok, callC_0, callC_1, callC_2, callC_3, callC_n, putC_0, putC_1, putC_2, putC_3, putC_n, unl_l, unn_n, finE_rt, finN_rt, finN_nx, upC_rt, upC_bk, upC_ct, dnC_nx, dnC_rt, seqC_nx, seqC_rt, seqC_bk, seqC_ct, dropC_0, dropC_1, dropC_2, dropC_3, cellL_0, cellL_1, cellL_2, cellL_3, cellL_4, cellL_5, EI, if_true, if_false, Bool.false_eq_true, decide_true, decide_false, Bool.not_true, Bool.not_false, S_nil, reduceIte, List.map_cons, List.map_nil, List.tail_cons, IS, TG, idxD_t3, idxD_t4, APs, ih b (by omega)]
      rw [show ((1 : Nat) : Int) + ((b.dep + 1 : Nat) : Int) = ((1 + (b.dep + 1) : Nat) : Int) by omega, maxA_n]
      simp -implicitDefEqProofs only [bind_bind, ok_bind, dOnly_ok, callC_0, callC_1, callC_2, callC_3, callC_n, putC_0, putC_1, putC_2, putC_3, putC_n, unl_l, unn_n, finE_rt, finN_rt, finN_nx, upC_rt, upC_bk, upC_ct, dnC_nx, dnC_rt, seqC_nx, seqC_rt, seqC_bk, seqC_ct, dropC_0, dropC_1, dropC_2, dropC_3, cellL_0, cellL_1, cellL_2, cellL_3, cellL_4, cellL_5, EI, if_true, if_false, Bool.false_eq_true, decide_true, decide_false, Bool.not_true, Bool.not_false, S_nil, reduceIte, List.map_cons, List.map_nil, List.tail_cons, IS]
      exact .ret ⟨_, .inl rfl, _, rfl, by omega, by omega, by omega⟩
    · rintro w r _ ⟨c, rfl, h1, h2, h3⟩
      rw [cnt_u.2] at h1 h2
      simp -implicitDefEqProofs only [bind_bind, ok_bind, dOnly_ok, callC_0, callC_1, callC_2, callC_3, callC_n, putC_0, putC_1, putC_2, putC_3, putC_n, unl_l, unn_n, finE_rt, finN_rt, finN_nx, upC_rt, upC_bk, upC_ct, dnC_nx, dnC_rt, seqC_nx, seqC_rt, seqC_bk, seqC_ct, dropC_0, dropC_1, dropC_2, dropC_3, cellL_0, cellL_1, cellL_2, cellL_3, cellL_4, cellL_5, EI, if_true, if_false, Bool.false_eq_true, decide_true, decide_false, Bool.not_true, Bool.not_false, S_nil, reduceIte, List.map_cons, List.map_nil, List.tail_cons, IS, TG, idxD_t3, idxD_t4]
      exact .ret ⟨_, .inl rfl, c, rfl, by omega, h2, h3⟩
    · rintro _ ⟨_, rfl, c, rfl, h1, h2, h3⟩
      rw [cnt_n.2] at h1
      simp -implicitDefEqProofs only [bind_bind, ok_bind, dOnly_ok, callC_0, callC_1, callC_2, callC_3, callC_n, putC_0, putC_1, putC_2, putC_3, putC_n, unl_l, unn_n, finE_rt, finN_rt, finN_nx, upC_rt, upC_bk, upC_ct, dnC_nx, dnC_rt, seqC_nx, seqC_rt, seqC_bk, seqC_ct, dropC_0, dropC_1, dropC_2, dropC_3, cellL_0, cellL_1, cellL_2, cellL_3, cellL_4, cellL_5, EI, if_true, if_false, Bool.false_eq_true, decide_true, decide_false, Bool.not_true, Bool.not_false, S_nil, reduceIte, List.map_cons, List.map_nil, List.tail_cons, IS]
      exact .ret (by rw [show c = p.dep + 1 by omega])
abbrev Len (t : List Nat) : Prop := t.length ≤ 1000
abbrev Any (_ : List Nat) : Prop := True
theorem letters_ok2 : ∀ (n : Nat) (p : Pcs), p.dep + 1 ≤ n → p.AllT Len Len Any → m_count_letters n (.tuple p.pcsD) = .ok (.int ((p.ltrs : Nat) : Int), [])
  | 0, _, h, _ => by omega
  | n + 1, p, hn, hA => by
    have ih := fun q => letters_ok2 n q
    have lz : ∀ t : List Nat, Len t → t.length ≤ sizeLine := fun t h => by rw [sizeLine_eq]; have : t.length ≤ 1000 := h; omega
    refine Ok.eq ?_
    simp -implicitDefEqProofs only [bind_bind, ok_bind, dOnly_ok, callC_0, callC_1, callC_2, callC_3, callC_n, putC_0, putC_1, putC_2, putC_3, putC_n, unl_l, unn_n, finE_rt, finN_rt, finN_nx, upC_rt, upC_bk, upC_ct, dnC_nx, dnC_rt, seqC_nx, seqC_rt, seqC_bk, seqC_ct, dropC_0, dropC_1, dropC_2, dropC_3, cellL_0, cellL_1, cellL_2, cellL_3, cellL_4, cellL_5, EI, if_true, if_false, Bool.false_eq_true, decide_true, decide_false, Bool.not_true, Bool.not_false, S_nil, reduceIte, List.map_cons, List.map_nil, List.tail_cons, IS, m_count_letters, APs]
    refine Ok.bind (pcs_loop (fun q (l : PD) => ∃ c : Nat, l = .int ((c : Nat) : Int) ∧ c + q.ltrs = p.ltrs ∧ q.dep ≤ n ∧ q.AllT Len Len Any) ⟨0, rfl, by omega, by omega, hA⟩ ?_ ?_ ?_ ?_ ?_) ?_
    · rintro w r _ ⟨c, rfl, h1, h2, h3⟩
      rw [cnt_t.2] at h2
      rw [Pcs.ltrs] at h1
      simp -implicitDefEqProofs only [bind_bind, ok_bind, dOnly_ok, callC_0, callC_1, callC_2, callC_3, callC_n, putC_0, putC_1, putC_2, putC_3, putC_n, unl_l, unn_n, finE_rt, finN_rt, finN_nx, upC_rt, upC_bk, upC_ct, dnC_nx, dnC_rt, seqC_nx, seqC_rt, seqC_bk, seqC_ct, dropC_0, dropC_1, dropC_2, dropC_3, cellL_0, cellL_1, cellL_2, cellL_3, cellL_4, cellL_5, EI, if_true, if_false, Bool.false_eq_true, decide_true, decide_false, Bool.not_true, Bool.not_false, S_nil, reduceIte, List.map_cons, List.map_nil, List.tail_cons, IS, TG, idxD_t3, idxD_t4, lenD_S (lz w h3.1)]
      exact .ret ⟨_, .inl rfl, c + w.length, by simp, by omega, h2, h3.2⟩
    · rintro w r _ ⟨c, rfl, h1, h2, h3⟩
      rw [cnt_h.2] at h2
      rw [Pcs.ltrs] at h1
      simp -implicitDefEqProofs only [bind_bind, ok_bind, dOnly_ok, callC_0, callC_1, callC_2, callC_3, callC_n, putC_0, putC_1, putC_2, putC_3, putC_n, unl_l, unn_n, finE_rt, finN_rt, finN_nx, upC_rt, upC_bk, upC_ct, dnC_nx, dnC_rt, seqC_nx, seqC_rt, seqC_bk, seqC_ct, dropC_0, dropC_1, dropC_2, dropC_3, cellL_0, cellL_1, cellL_2, cellL_3, cellL_4, cellL_5, EI, if_true, if_false, Bool.false_eq_true, decide_true, decide_false, Bool.not_true, Bool.not_false, S_nil, reduceIte, List.map_cons, List.map_nil, List.tail_cons, IS, TG, idxD_t3, idxD_t4, c_HOLE_LETTERS]
      exact .ret ⟨_, .inl rfl, c + 6, by simp, by omega, h2, h3⟩
    · rintro f w y o r _ ⟨c, rfl, h1, h2, h3⟩
      rw [cnt_c.2] at h2
      rw [Pcs.ltrs] at h1
      simp -implicitDefEqProofs only [bind_bind, ok_bind, dOnly_ok, callC_0, callC_1, callC_2, callC_3, callC_n, putC_0, putC_1, putC_2, putC_3, putC_n, unl_l, unn_n, finE_rt, finN_rt, finN_nx, upC_rt, upC_bk, upC_ct, dnC_nx, dnC_rt, seqC_nx, seqC_rt, seqC_bk, seqC_ct, dropC_0, dropC_1, dropC_2, dropC_3, cellL_0, cellL_1, cellL_2, cellL_3, cellL_4, cellL_5, EI, if_true, if_false, Bool.false_eq_true, decide_true, decide_false, Bool.not_true, Bool.not_false, S_nil, reduceIte, List.map_cons, List.map_nil, List.tail_cons, IS, TG, idxD_t3, idxD_t4, APs, ih y (by omega) h3.1, ih o (by omega) h3.2.1]
      exact .ret ⟨_, .inl rfl, c + (y.ltrs + o.ltrs), by simp, by omega, by omega, h3.2.2⟩
    · rintro m b g r _ ⟨c, rfl, h1, h2, h3⟩
      rw [cnt_l.2] at h2
      rw [Pcs.ltrs] at h1
      simp -implicitDefEqProofs only [bind_bind, ok_bind, dOnly_ok, callC_0, callC_1, callC_2, callC_3, callC_n, putC_0, putC_1, putC_2, putC_3, putC_n, unl_l, unn_n, finE_rt, finN_rt, finN_nx, upC_rt, upC_bk, upC_ct, dnC_nx, dnC_rt, seqC_nx, seqC_rt, seqC_bk, seqC_ct, dropC_0, dropC_1, dropC_2, dropC_3, cellL_0, cellL_1, cellL_2, cellL_3, cellL_4, cellL_5, EI, if_true, if_false, Bool.false_eq_true, decide_true, decide_false, Bool.not_true, Bool.not_false, S_nil, reduceIte, List.map_cons, List.map_nil, List.tail_cons, IS, TG, idxD_t3, idxD_t4, APs, lenD_S (lz g h3.1), ih b (by omega) h3.2.1]
      exact .ret ⟨_, .inl rfl, c + (g.length + b.ltrs), by simp, by omega, by omega, h3.2.2⟩
    · rintro w r _ ⟨c, rfl, h1, h2, h3⟩
      rw [cnt_u.2] at h2
      rw [Pcs.ltrs] at h1
      simp -implicitDefEqProofs only [bind_bind, ok_bind, dOnly_ok, callC_0, callC_1, callC_2, callC_3, callC_n, putC_0, putC_1, putC_2, putC_3, putC_n, unl_l, unn_n, finE_rt, finN_rt, finN_nx, upC_rt, upC_bk, upC_ct, dnC_nx, dnC_rt, seqC_nx, seqC_rt, seqC_bk, seqC_ct, dropC_0, dropC_1, dropC_2, dropC_3, cellL_0, cellL_1, cellL_2, cellL_3, cellL_4, cellL_5, EI, if_true, if_false, Bool.false_eq_true, decide_true, decide_false, Bool.not_true, Bool.not_false, S_nil, reduceIte, List.map_cons, List.map_nil, List.tail_cons, IS, TG, idxD_t3, idxD_t4]
      exact .ret ⟨_, .inl rfl, c, rfl, by omega, h2, h3.2⟩
    · rintro _ ⟨_, rfl, c, rfl, h1, h2⟩
      rw [Pcs.ltrs] at h1
      simp -implicitDefEqProofs only [bind_bind, ok_bind, dOnly_ok, callC_0, callC_1, callC_2, callC_3, callC_n, putC_0, putC_1, putC_2, putC_3, putC_n, unl_l, unn_n, finE_rt, finN_rt, finN_nx, upC_rt, upC_bk, upC_ct, dnC_nx, dnC_rt, seqC_nx, seqC_rt, seqC_bk, seqC_ct, dropC_0, dropC_1, dropC_2, dropC_3, cellL_0, cellL_1, cellL_2, cellL_3, cellL_4, cellL_5, EI, if_true, if_false, Bool.false_eq_true, decide_true, decide_false, Bool.not_true, Bool.not_false, S_nil, reduceIte, List.map_cons, List.map_nil, List.tail_cons, IS]
      exact .ret (by rw [show c = p.ltrs by omega])
def Mes (c d l : Nat) : List PD := [.int ((c : Nat) : Int), .int ((d : Nat) : Int), .int ((l : Nat) : Int)]
theorem measured_ok : ∀ (n : Nat) (p : Pcs), p.dep + 1 ≤ n → p.AllT Len Len Any → m__law_measured n (.tuple p.pcsD) = .ok (.list (Mes p.cnt (p.dep + 1) p.ltrs), [])
  | 0, _, h, _ => by omega
  | n + 1, p, hn, hA => by
    have ih := fun q => measured_ok n q
    have lz : ∀ t : List Nat, Len t → t.length ≤ sizeLine := fun t h => by rw [sizeLine_eq]; have : t.length ≤ 1000 := h; omega
    have st2 : ∀ {x y z d : PD}, setD [x, y, z] (.int 2) d = .ok [x, y, d] := fun {x y z d} => setD_n (ds := [x, y, z]) (n := 2) (by simp)
    refine Ok.eq ?_
    simp -implicitDefEqProofs only [bind_bind, ok_bind, dOnly_ok, callC_0, callC_1, callC_2, callC_3, callC_n, putC_0, putC_1, putC_2, putC_3, putC_n, unl_l, unn_n, finE_rt, finN_rt, finN_nx, upC_rt, upC_bk, upC_ct, dnC_nx, dnC_rt, seqC_nx, seqC_rt, seqC_bk, seqC_ct, dropC_0, dropC_1, dropC_2, dropC_3, cellL_0, cellL_1, cellL_2, cellL_3, cellL_4, cellL_5, EI, if_true, if_false, Bool.false_eq_true, decide_true, decide_false, Bool.not_true, Bool.not_false, S_nil, reduceIte, List.map_cons, List.map_nil, List.tail_cons, IS, m__law_measured, APs, Mes]
    refine Ok.bind (pcs_loop (fun q (l : List PD) => ∃ c d k : Nat, l = Mes c d k ∧ c + q.cnt = p.cnt ∧ max d (1 + q.dep) = 1 + p.dep ∧ k + q.ltrs = p.ltrs ∧ q.dep ≤ n ∧ 1 ≤ d ∧ q.AllT Len Len Any) ⟨0, 1, 0, rfl, by omega, by omega, by omega, by omega, by omega, hA⟩ ?_ ?_ ?_ ?_ ?_) ?_
    · rintro w r _ ⟨c, d, k, rfl, h1, h2, h3, h4, h5, h6⟩
      rw [cnt_t.1] at h1; rw [cnt_t.2] at h2 h4; rw [Pcs.ltrs] at h3
      simp -implicitDefEqProofs only [bind_bind, ok_bind, dOnly_ok, callC_0, callC_1, callC_2, callC_3, callC_n, putC_0, putC_1, putC_2, putC_3, putC_n, unl_l, unn_n, finE_rt, finN_rt, finN_nx, upC_rt, upC_bk, upC_ct, dnC_nx, dnC_rt, seqC_nx, seqC_rt, seqC_bk, seqC_ct, dropC_0, dropC_1, dropC_2, dropC_3, cellL_0, cellL_1, cellL_2, cellL_3, cellL_4, cellL_5, EI, if_true, if_false, Bool.false_eq_true, decide_true, decide_false, Bool.not_true, Bool.not_false, S_nil, reduceIte, List.map_cons, List.map_nil, List.tail_cons, IS, TG, idxD_t3, idxD_t4, Mes, lenD_S (lz w h6.1), st2, forM]
      exact .ret ⟨_, .inl rfl, c + 1, d, k + w.length, by simp [Mes], by omega, by omega, by omega, h4, h5, h6.2⟩
    · rintro w r _ ⟨c, d, k, rfl, h1, h2, h3, h4, h5, h6⟩
      rw [cnt_h.1] at h1; rw [cnt_h.2] at h2 h4; rw [Pcs.ltrs] at h3
      simp -implicitDefEqProofs only [bind_bind, ok_bind, dOnly_ok, callC_0, callC_1, callC_2, callC_3, callC_n, putC_0, putC_1, putC_2, putC_3, putC_n, unl_l, unn_n, finE_rt, finN_rt, finN_nx, upC_rt, upC_bk, upC_ct, dnC_nx, dnC_rt, seqC_nx, seqC_rt, seqC_bk, seqC_ct, dropC_0, dropC_1, dropC_2, dropC_3, cellL_0, cellL_1, cellL_2, cellL_3, cellL_4, cellL_5, EI, if_true, if_false, Bool.false_eq_true, decide_true, decide_false, Bool.not_true, Bool.not_false, S_nil, reduceIte, List.map_cons, List.map_nil, List.tail_cons, IS, TG, idxD_t3, idxD_t4, Mes, st2, forM]
      exact .ret ⟨_, .inl rfl, c + 1, d, k + 6, by simp [Mes], by omega, by omega, by omega, h4, h5, h6⟩
    · rintro f w y o r _ ⟨c, d, k, rfl, h1, h2, h3, h4, h5, h6⟩
      rw [cnt_c.1] at h1; rw [cnt_c.2] at h2 h4; rw [Pcs.ltrs] at h3
      simp -implicitDefEqProofs only [bind_bind, ok_bind, dOnly_ok, callC_0, callC_1, callC_2, callC_3, callC_n, putC_0, putC_1, putC_2, putC_3, putC_n, unl_l, unn_n, finE_rt, finN_rt, finN_nx, upC_rt, upC_bk, upC_ct, dnC_nx, dnC_rt, seqC_nx, seqC_rt, seqC_bk, seqC_ct, dropC_0, dropC_1, dropC_2, dropC_3, cellL_0, cellL_1, cellL_2, cellL_3, cellL_4, cellL_5, EI, if_true, if_false, Bool.false_eq_true, decide_true, decide_false, Bool.not_true, Bool.not_false, S_nil, reduceIte, List.map_cons, List.map_nil, List.tail_cons, IS, TG, idxD_t3, idxD_t4, Mes, st2, forM, APs, ih y (by omega) h6.1, ih o (by omega) h6.2.1]
      simp -implicitDefEqProofs only [bind_bind, ok_bind, dOnly_ok, callC_0, callC_1, callC_2, callC_3, callC_n, putC_0, putC_1, putC_2, putC_3, putC_n, unl_l, unn_n, finE_rt, finN_rt, finN_nx, upC_rt, upC_bk, upC_ct, dnC_nx, dnC_rt, seqC_nx, seqC_rt, seqC_bk, seqC_ct, dropC_0, dropC_1, dropC_2, dropC_3, cellL_0, cellL_1, cellL_2, cellL_3, cellL_4, cellL_5, EI, if_true, if_false, Bool.false_eq_true, decide_true, decide_false, Bool.not_true, Bool.not_false, S_nil, reduceIte, List.map_cons, List.map_nil, List.tail_cons, IS, maxA_s]
      exact .ret ⟨_, .inl rfl, c + 1 + y.cnt + o.cnt, max (max d (1 + (y.dep + 1))) (1 + (o.dep + 1)), k + y.ltrs + o.ltrs, by simp [Mes], by omega, by omega, by omega, by omega, by omega, h6.2.2⟩
    · rintro m b g r _ ⟨c, d, k, rfl, h1, h2, h3, h4, h5, h6⟩
      rw [cnt_l.1] at h1; rw [cnt_l.2] at h2 h4; rw [Pcs.ltrs] at h3
      simp -implicitDefEqProofs only [bind_bind, ok_bind, dOnly_ok, callC_0, callC_1, callC_2, callC_3, callC_n, putC_0, putC_1, putC_2, putC_3, putC_n, unl_l, unn_n, finE_rt, finN_rt, finN_nx, upC_rt, upC_bk, upC_ct, dnC_nx, dnC_rt, seqC_nx, seqC_rt, seqC_bk, seqC_ct, dropC_0, dropC_1, dropC_2, dropC_3, cellL_0, cellL_1, cellL_2, cellL_3, cellL_4, cellL_5, EI, if_true, if_false, Bool.false_eq_true, decide_true, decide_false, Bool.not_true, Bool.not_false, S_nil, reduceIte, List.map_cons, List.map_nil, List.tail_cons, IS, TG, idxD_t3, idxD_t4, Mes, st2, forM, APs, lenD_S (lz g h6.1), ih b (by omega) h6.2.1]
      simp -implicitDefEqProofs only [bind_bind, ok_bind, dOnly_ok, callC_0, callC_1, callC_2, callC_3, callC_n, putC_0, putC_1, putC_2, putC_3, putC_n, unl_l, unn_n, finE_rt, finN_rt, finN_nx, upC_rt, upC_bk, upC_ct, dnC_nx, dnC_rt, seqC_nx, seqC_rt, seqC_bk, seqC_ct, dropC_0, dropC_1, dropC_2, dropC_3, cellL_0, cellL_1, cellL_2, cellL_3, cellL_4, cellL_5, EI, if_true, if_false, Bool.false_eq_true, decide_true, decide_false, Bool.not_true, Bool.not_false, S_nil, reduceIte, List.map_cons, List.map_nil, List.tail_cons, IS, maxA_s]
      exact .ret ⟨_, .inl rfl, c + 1 + b.cnt, max d (1 + (b.dep + 1)), k + g.length + b.ltrs, by simp [Mes], by omega, by omega, by omega, by omega, by omega, h6.2.2⟩
    · rintro w r _ ⟨c, d, k, rfl, h1, h2, h3, h4, h5, h6⟩
      rw [cnt_u.1] at h1; rw [cnt_u.2] at h2 h4; rw [Pcs.ltrs] at h3
      simp -implicitDefEqProofs only [bind_bind, ok_bind, dOnly_ok, callC_0, callC_1, callC_2, callC_3, callC_n, putC_0, putC_1, putC_2, putC_3, putC_n, unl_l, unn_n, finE_rt, finN_rt, finN_nx, upC_rt, upC_bk, upC_ct, dnC_nx, dnC_rt, seqC_nx, seqC_rt, seqC_bk, seqC_ct, dropC_0, dropC_1, dropC_2, dropC_3, cellL_0, cellL_1, cellL_2, cellL_3, cellL_4, cellL_5, EI, if_true, if_false, Bool.false_eq_true, decide_true, decide_false, Bool.not_true, Bool.not_false, S_nil, reduceIte, List.map_cons, List.map_nil, List.tail_cons, IS, TG, idxD_t3, idxD_t4, Mes, st2, forM]
      exact .ret ⟨_, .inl rfl, c + 1, d, k, by simp [Mes], by omega, by omega, by omega, h4, h5, h6.2⟩
    · rintro _ ⟨_, rfl, c, d, k, rfl, h1, h2, h3, h4, h5, h6⟩
      rw [cnt_n.1] at h1; rw [cnt_n.2] at h2; rw [Pcs.ltrs] at h3
      simp -implicitDefEqProofs only [bind_bind, ok_bind, dOnly_ok, callC_0, callC_1, callC_2, callC_3, callC_n, putC_0, putC_1, putC_2, putC_3, putC_n, unl_l, unn_n, finE_rt, finN_rt, finN_nx, upC_rt, upC_bk, upC_ct, dnC_nx, dnC_rt, seqC_nx, seqC_rt, seqC_bk, seqC_ct, dropC_0, dropC_1, dropC_2, dropC_3, cellL_0, cellL_1, cellL_2, cellL_3, cellL_4, cellL_5, EI, if_true, if_false, Bool.false_eq_true, decide_true, decide_false, Bool.not_true, Bool.not_false, S_nil, reduceIte, List.map_cons, List.map_nil, List.tail_cons, IS]
      exact .ret (by rw [show c = p.cnt by omega, show d = p.dep + 1 by omega, show k = p.ltrs by omega]; rfl)
end Dd
set_option Elab.async false
set_option linter.all false
set_option maxRecDepth 100000
set_option maxHeartbeats 4000000
namespace Dd
open PySem PySem.Spec PyProof.Rows L2
namespace Pcs
theorem app_nil : ∀ p : Pcs, p.app nil = p
  | nil => rfl
  | text w r => by rw [app, app_nil r]
  | hole f r => by rw [app, app_nil r]
  | choice f w y o r => by rw [app, app_nil r]
  | loop n b g r => by rw [app, app_nil r]
  | use p r => by rw [app, app_nil r]
theorem app_assoc : ∀ p q s : Pcs, (p.app q).app s = p.app (q.app s)
  | nil, q, s => rfl
  | text w r, q, s => by simp only [app, app_assoc r]
  | hole f r, q, s => by simp only [app, app_assoc r]
  | choice f w y o r, q, s => by simp only [app, app_assoc r]
  | loop n b g r, q, s => by simp only [app, app_assoc r]
  | use p r, q, s => by simp only [app, app_assoc r]
theorem app_ltrs : ∀ p q : Pcs, (p.app q).ltrs = p.ltrs + q.ltrs
  | nil, q => by simp [app, ltrs]
  | text w r, q => by simp only [app, ltrs, app_ltrs r]; omega
  | hole f r, q => by simp only [app, ltrs, app_ltrs r]; omega
  | choice f w y o r, q => by simp only [app, ltrs, app_ltrs r]; omega
  | loop n b g r, q => by simp only [app, ltrs, app_ltrs r]; omega
  | use p r, q => by simp only [app, ltrs, app_ltrs r]
/-- texts side by side made one -/
def emitO : Option (List Nat) → Pcs → Pcs
  | none, r => r
  | some u, r => text u r
def stl : Option (List Nat) → Pcs → Pcs
  | o, nil => emitO o nil
  | none, text w r => stl (some w) r
  | some u, text w r => stl (some (u ++ w)) r
  | o, hole f r => emitO o (hole f (stl none r))
  | o, choice f w y z r => emitO o (choice f w (stl none y) (stl none z) (stl none r))
  | o, loop n b g r => emitO o (loop n (stl none b) g (stl none r))
  | o, use p r => emitO o (use p (stl none r))
theorem stl_same : ∀ (p : Pcs), p.NoTT → stl none p = p ∧ ∀ u, p.firstT = false → stl (some u) p = text u p
  | nil, _ => ⟨rfl, fun _ _ => rfl⟩
  | text w r, h => by
    obtain ⟨h1, h2⟩ := stl_same r h.2
    exact ⟨by rw [stl, h2 w h.1], fun u z => by cases z⟩
  | hole f r, h => by
    obtain ⟨h1, h2⟩ := stl_same r h
    exact ⟨by rw [stl, h1]; rfl, fun u _ => by rw [stl, h1]; rfl⟩
  | choice f w y o r, h => by
    obtain ⟨h1, h2⟩ := stl_same r h.2.2
    obtain ⟨h3, _⟩ := stl_same y h.1
    obtain ⟨h4, _⟩ := stl_same o h.2.1
    exact ⟨by rw [stl, h1, h3, h4]; rfl, fun u _ => by rw [stl, h1, h3, h4]; rfl⟩
  | loop n b g r, h => by
    obtain ⟨h1, h2⟩ := stl_same r h.2
    obtain ⟨h3, _⟩ := stl_same b h.1
    exact ⟨by rw [stl, h1, h3]; rfl, fun u _ => by rw [stl, h1, h3]; rfl⟩
  | use p r, h => by
    obtain ⟨h1, h2⟩ := stl_same r h
    exact ⟨by rw [stl, h1]; rfl, fun u _ => by rw [stl, h1]; rfl⟩
theorem stl_app {q q' : Pcs} (h : ∀ o, stl o q = stl o q') : ∀ (k : Pcs) (o : Option (List Nat)), stl o (k.app q) = stl o (k.app q')
  | nil, o => h o
  | text w r, none => by simp only [app, stl]; exact stl_app h r _
  | text w r, some u => by simp only [app, stl]; exact stl_app h r _
  | hole f r, o => by simp only [app, stl, stl_app h r]
  | choice f w y z r, o => by simp only [app, stl, stl_app h r]
  | loop n b g r, o => by simp only [app, stl, stl_app h r]
  | use p r, o => by simp only [app, stl, stl_app h r]
end Pcs
theorem eq_of_ne {x y : PD} {b : Bool} (h : neD x y = .ok (!b)) : eqD x y = .ok b := by
  unfold neD at h
  unfold eqD
  split at h
  · rename_i hs
    rw [if_pos hs]
    injection h with h
    cases b <;> simp at h <;> rw [h]
  · cases h
def oLen : Option (List Nat) → Nat
  | none => 0
  | some u => u.length
/-- the state of settle: K, then a text o that may still grow, then q -/
structure SetI (p : Pcs) (n : Nat) (q : Pcs) (l : List PD) (K : Pcs) (o : Option (List Nat)) : Prop where
  e : l = (K.app (Pcs.emitO o .nil)).pcsD
  last : K.lastT = false
  to : K.app (Pcs.stl o q) = Pcs.stl none p
  lt : oLen o + q.ltrs ≤ 100000
  len : l.length + q.cnt ≤ 8000
  dep : q.dep ≤ n
theorem emitO_last (K : Pcs) (o : Option (List Nat)) (x : Pcs) (hx : x ≠ .nil) (h : x.lastT = false) : ((K.app (Pcs.emitO o .nil)).app x).lastT = false := by
  rw [Pcs.app_last _ _ hx]; exact h
theorem SetI.push {p q r x : Pcs} {n : Nat} {l : List PD} {K : Pcs} {o : Option (List Nat)} {pd : PD} (h : SetI p n q l K o) (hx : x ≠ .nil) (hl : x.lastT = false) (hd : x.pcsD = [pd]) (hs : Pcs.stl o q = Pcs.emitO o (x.app (Pcs.stl none r))) (h1 : r.ltrs ≤ q.ltrs) (h2 : r.cnt + 1 ≤ q.cnt) (h3 : r.dep ≤ q.dep) : SetI p n r (l ++ [pd]) ((K.app (Pcs.emitO o .nil)).app x) none := by
  refine ⟨?_, emitO_last K o x hx hl, ?_, ?_, ?_, Nat.le_trans h3 h.dep⟩
  · rw [h.e]
    show _ = ((((K.app (Pcs.emitO o .nil)).app x)).app .nil).pcsD
    rw [Pcs.app_nil, Pcs.app_D (K.app (Pcs.emitO o .nil)) x, hd]
  · rw [← h.to, hs, Pcs.app_assoc, Pcs.app_assoc]
    congr 1
    cases o <;> rfl
  · have := h.lt
    show 0 + r.ltrs ≤ _
    omega
  · have := h.len
    rw [List.length_append, List.length_singleton]
    omega
theorem settle_ok : ∀ (n : Nat) (p : Pcs), p.dep + 1 ≤ n → p.ltrs ≤ 100000 → p.cnt ≤ 8000 → m_settle n (.tuple p.pcsD) = .ok (.tuple (Pcs.stl none p).pcsD, [])
  | 0, _, h, _, _ => by omega
  | n + 1, p, hn, hz, hc => by
    have ih := fun q => settle_ok n q
    have ap : ∀ (l : List PD) (d : PD) (m : Nat), l.length + m ≤ 8000 → appD l d = .ok (l ++ [d]) := fun l d m h => appD_ok (by rw [sizeLine_eq]; omega)
    refine Ok.eq ?_
    simp -implicitDefEqProofs only [bind_bind, ok_bind, dOnly_ok, callC_0, callC_1, callC_2, callC_3, callC_n, putC_0, putC_1, putC_2, putC_3, putC_n, unl_l, unn_n, finE_rt, finN_rt, finN_nx, upC_rt, upC_bk, upC_ct, dnC_nx, dnC_rt, seqC_nx, seqC_rt, seqC_bk, seqC_ct, dropC_0, dropC_1, dropC_2, dropC_3, cellL_0, cellL_1, cellL_2, cellL_3, cellL_4, cellL_5, EI, if_true, if_false, Bool.false_eq_true, decide_true, decide_false, Bool.not_true, Bool.not_false, S_nil, reduceIte, List.map_cons, List.map_nil, List.tail_cons, IS, m_settle, APs]
    refine Ok.bind (pcs_loop (fun q (l : List PD) => q.cnt ≤ 8000 ∧ ∃ (K : Pcs) (o : Option (List Nat)), SetI p n q l K o) ⟨hc, .nil, none, rfl, rfl, rfl, by show 0 + p.ltrs ≤ _; omega, by show 0 + p.cnt ≤ _; omega, by omega⟩ ?_ ?_ ?_ ?_ ?_) ?_
    · rintro w r l ⟨hcc, K, o, I⟩
      have c1 := cnt_t (w := w) (r := r)
      have c2 : (Pcs.text w r).ltrs = w.length + r.ltrs := rfl
      have hdep := I.dep
      cases o with
      | none =>
        have hI : SetI p n r (l ++ [.tuple [S TEXT, S w]]) K (some w) := ⟨by rw [I.e, Pcs.app_D, Pcs.app_D]; show _ ++ [] ++ _ = _; rw [List.append_nil]; rfl, I.last, I.to, by have := I.lt; show w.length + r.ltrs ≤ _; omega, by have := I.len; rw [List.length_append, List.length_singleton]; omega, by omega⟩
        have e : l = K.pcsD := by rw [I.e]; show (K.app .nil).pcsD = _; rw [Pcs.app_nil]
        have hap := ap l (.tuple [S TEXT, S w]) _ I.len
        by_cases hK : K = .nil
        · have el : l = [] := by rw [e, hK]; rfl
          simp -implicitDefEqProofs only [bind_bind, ok_bind, dOnly_ok, callC_0, callC_1, callC_2, callC_3, callC_n, putC_0, putC_1, putC_2, putC_3, putC_n, unl_l, unn_n, finE_rt, finN_rt, finN_nx, upC_rt, upC_bk, upC_ct, dnC_nx, dnC_rt, seqC_nx, seqC_rt, seqC_bk, seqC_ct, dropC_0, dropC_1, dropC_2, dropC_3, cellL_0, cellL_1, cellL_2, cellL_3, cellL_4, cellL_5, EI, if_true, if_false, Bool.false_eq_true, decide_true, decide_false, Bool.not_true, Bool.not_false, S_nil, reduceIte, List.map_cons, List.map_nil, List.tail_cons, IS, TG, el, List.isEmpty_nil, appD_ok (ds := []) (d := .tuple [S TEXT, S w]) (by rw [sizeLine_eq]; simp)]
          rw [el] at hI
          exact .ret ⟨_, .inl rfl, by omega, K, some w, hI⟩
        · obtain ⟨xs, pd, e1, e2, e3⟩ := last_ok K hK
          have e4 := eq_of_ne e3
          rw [I.last] at e4
          have hne : l.isEmpty = false := by rw [e, e1]; simp
          have hla : idxD (.list l) (.int (-1)) = .ok pd := by rw [e, e1]; exact idxD_last
          simp -implicitDefEqProofs only [bind_bind, ok_bind, dOnly_ok, callC_0, callC_1, callC_2, callC_3, callC_n, putC_0, putC_1, putC_2, putC_3, putC_n, unl_l, unn_n, finE_rt, finN_rt, finN_nx, upC_rt, upC_bk, upC_ct, dnC_nx, dnC_rt, seqC_nx, seqC_rt, seqC_bk, seqC_ct, dropC_0, dropC_1, dropC_2, dropC_3, cellL_0, cellL_1, cellL_2, cellL_3, cellL_4, cellL_5, EI, if_true, if_false, Bool.false_eq_true, decide_true, decide_false, Bool.not_true, Bool.not_false, S_nil, reduceIte, List.map_cons, List.map_nil, List.tail_cons, IS, TG, hne, hla, e2, S_TEXT, e4, hap]
          exact .ret ⟨_, .inl rfl, by omega, K, some w, hI⟩
      | some u =>
        have e : l = K.pcsD ++ [.tuple [S TEXT, S u]] := by rw [I.e, Pcs.app_D]; rfl
        have hne : l.isEmpty = false := by rw [e]; simp
        have hlt : u.length + (w.length + r.ltrs) ≤ 100000 := I.lt
        have hz2 : u.length + w.length ≤ sizeLine := by rw [sizeLine_eq]; omega
        have hlen := I.len
        have hI : SetI p n r (K.pcsD ++ [.tuple [S TEXT, S (u ++ w)]]) K (some (u ++ w)) := ⟨by rw [Pcs.app_D]; rfl, I.last, I.to, by show (u ++ w).length + r.ltrs ≤ _; rw [List.length_append]; omega, by rw [e] at hlen; simp at hlen ⊢; omega, by omega⟩
        have hla : idxD (.list l) (.int (-1)) = .ok (.tuple [S TEXT, S u]) := by rw [e]; exact idxD_last
        have hset : setD l (.int (-1)) (.tuple [S TEXT, S (u ++ w)]) = .ok (K.pcsD ++ [.tuple [S TEXT, S (u ++ w)]]) := by rw [e]; exact setD_last
        simp -implicitDefEqProofs only [bind_bind, ok_bind, dOnly_ok, callC_0, callC_1, callC_2, callC_3, callC_n, putC_0, putC_1, putC_2, putC_3, putC_n, unl_l, unn_n, finE_rt, finN_rt, finN_nx, upC_rt, upC_bk, upC_ct, dnC_nx, dnC_rt, seqC_nx, seqC_rt, seqC_bk, seqC_ct, dropC_0, dropC_1, dropC_2, dropC_3, cellL_0, cellL_1, cellL_2, cellL_3, cellL_4, cellL_5, EI, if_true, if_false, Bool.false_eq_true, decide_true, decide_false, Bool.not_true, Bool.not_false, S_nil, reduceIte, List.map_cons, List.map_nil, List.tail_cons, IS, TG, hne, hla, addD_S hz2, hset]
        exact .ret ⟨_, .inl rfl, by omega, K, some (u ++ w), hI⟩
    · rintro f r l ⟨hcc, K, o, I⟩
      have c1 := cnt_h (w := f) (r := r)
      have c2 : (Pcs.hole f r).ltrs = 6 + r.ltrs := rfl
      simp -implicitDefEqProofs only [bind_bind, ok_bind, dOnly_ok, callC_0, callC_1, callC_2, callC_3, callC_n, putC_0, putC_1, putC_2, putC_3, putC_n, unl_l, unn_n, finE_rt, finN_rt, finN_nx, upC_rt, upC_bk, upC_ct, dnC_nx, dnC_rt, seqC_nx, seqC_rt, seqC_bk, seqC_ct, dropC_0, dropC_1, dropC_2, dropC_3, cellL_0, cellL_1, cellL_2, cellL_3, cellL_4, cellL_5, EI, if_true, if_false, Bool.false_eq_true, decide_true, decide_false, Bool.not_true, Bool.not_false, S_nil, reduceIte, List.map_cons, List.map_nil, List.tail_cons, IS, TG, ap l (.tuple [S HOLE, S f]) _ I.len]
      exact .ret ⟨_, .inl rfl, by omega, _, none, I.push (x := .hole f .nil) (r := r) (by simp) rfl rfl (by cases o <;> rfl) (by omega) (by omega) (by omega)⟩
    · rintro f w y z r l ⟨hcc, K, o, I⟩
      have c1 := cnt_c (f := f) (w := w) (y := y) (o := z) (r := r)
      have c2 : (Pcs.choice f w y z r).ltrs = y.ltrs + z.ltrs + r.ltrs := rfl
      have hdep := I.dep
      have hlt := I.lt
      simp -implicitDefEqProofs only [bind_bind, ok_bind, dOnly_ok, callC_0, callC_1, callC_2, callC_3, callC_n, putC_0, putC_1, putC_2, putC_3, putC_n, unl_l, unn_n, finE_rt, finN_rt, finN_nx, upC_rt, upC_bk, upC_ct, dnC_nx, dnC_rt, seqC_nx, seqC_rt, seqC_bk, seqC_ct, dropC_0, dropC_1, dropC_2, dropC_3, cellL_0, cellL_1, cellL_2, cellL_3, cellL_4, cellL_5, EI, if_true, if_false, Bool.false_eq_true, decide_true, decide_false, Bool.not_true, Bool.not_false, S_nil, reduceIte, List.map_cons, List.map_nil, List.tail_cons, IS, TG, APs, idxD_t3, idxD_t4, ih y (by omega) (by omega) (by omega), ih z (by omega) (by omega) (by omega), ap l (.tuple [S CHOICE, S f, S w, .tuple (Pcs.stl none y).pcsD, .tuple (Pcs.stl none z).pcsD]) _ I.len]
      exact .ret ⟨_, .inl rfl, by omega, _, none, I.push (x := .choice f w (Pcs.stl none y) (Pcs.stl none z) .nil) (r := r) (by simp) rfl rfl (by cases o <;> rfl) (by omega) (by omega) (by omega)⟩
    · rintro m b g r l ⟨hcc, K, o, I⟩
      have c1 := cnt_l (n := m) (b := b) (g := g) (r := r)
      have c2 : (Pcs.loop m b g r).ltrs = g.length + b.ltrs + r.ltrs := rfl
      have hdep := I.dep
      have hlt := I.lt
      simp -implicitDefEqProofs only [bind_bind, ok_bind, dOnly_ok, callC_0, callC_1, callC_2, callC_3, callC_n, putC_0, putC_1, putC_2, putC_3, putC_n, unl_l, unn_n, finE_rt, finN_rt, finN_nx, upC_rt, upC_bk, upC_ct, dnC_nx, dnC_rt, seqC_nx, seqC_rt, seqC_bk, seqC_ct, dropC_0, dropC_1, dropC_2, dropC_3, cellL_0, cellL_1, cellL_2, cellL_3, cellL_4, cellL_5, EI, if_true, if_false, Bool.false_eq_true, decide_true, decide_false, Bool.not_true, Bool.not_false, S_nil, reduceIte, List.map_cons, List.map_nil, List.tail_cons, IS, TG, APs, idxD_t3, idxD_t4, ih b (by omega) (by omega) (by omega), ap l (.tuple [S LOOP, S m, .tuple (Pcs.stl none b).pcsD, S g]) _ I.len]
      exact .ret ⟨_, .inl rfl, by omega, _, none, I.push (x := .loop m (Pcs.stl none b) g .nil) (r := r) (by simp) rfl rfl (by cases o <;> rfl) (by omega) (by omega) (by omega)⟩
    · rintro f r l ⟨hcc, K, o, I⟩
      have c1 := cnt_u (w := f) (r := r)
      have c2 : (Pcs.use f r).ltrs = r.ltrs := rfl
      simp -implicitDefEqProofs only [bind_bind, ok_bind, dOnly_ok, callC_0, callC_1, callC_2, callC_3, callC_n, putC_0, putC_1, putC_2, putC_3, putC_n, unl_l, unn_n, finE_rt, finN_rt, finN_nx, upC_rt, upC_bk, upC_ct, dnC_nx, dnC_rt, seqC_nx, seqC_rt, seqC_bk, seqC_ct, dropC_0, dropC_1, dropC_2, dropC_3, cellL_0, cellL_1, cellL_2, cellL_3, cellL_4, cellL_5, EI, if_true, if_false, Bool.false_eq_true, decide_true, decide_false, Bool.not_true, Bool.not_false, S_nil, reduceIte, List.map_cons, List.map_nil, List.tail_cons, IS, TG, ap l (.tuple [S USE, S f]) _ I.len]
      exact .ret ⟨_, .inl rfl, by omega, _, none, I.push (x := .use f .nil) (r := r) (by simp) rfl rfl (by cases o <;> rfl) (by omega) (by omega) (by omega)⟩
    · rintro _ ⟨l, rfl, _, K, o, I⟩
      simp -implicitDefEqProofs only [bind_bind, ok_bind, dOnly_ok, callC_0, callC_1, callC_2, callC_3, callC_n, putC_0, putC_1, putC_2, putC_3, putC_n, unl_l, unn_n, finE_rt, finN_rt, finN_nx, upC_rt, upC_bk, upC_ct, dnC_nx, dnC_rt, seqC_nx, seqC_rt, seqC_bk, seqC_ct, dropC_0, dropC_1, dropC_2, dropC_3, cellL_0, cellL_1, cellL_2, cellL_3, cellL_4, cellL_5, EI, if_true, if_false, Bool.false_eq_true, decide_true, decide_false, Bool.not_true, Bool.not_false, S_nil, reduceIte, List.map_cons, List.map_nil, List.tail_cons, IS]
      refine .ret ?_
      rw [I.e, ← I.to]
      rfl
end Dd
set_option Elab.async false
set_option linter.all false
set_option maxRecDepth 100000
set_option maxHeartbeats 4000000
namespace Dd
open PySem PySem.Spec PyProof.Rows L2
theorem ltrs_le : ∀ {p : Pcs} {w : Nat} {U : List Nat → Prop}, 6 ≤ w → p.AllT (fun t => t.length ≤ w) (fun t => t.length ≤ w) U → p.ltrs ≤ w * p.cnt
  | .nil, w, _, _, _ => Nat.zero_le _
  | .text t r, w, _, hw, h => by
    have := ltrs_le (p := r) hw h.2
    have h1 : t.length ≤ w := h.1
    rw [Pcs.ltrs, cnt_t.1, Nat.mul_add]; omega
  | .hole f r, w, _, hw, h => by
    have := ltrs_le (p := r) hw h
    rw [Pcs.ltrs, cnt_h.1, Nat.mul_add]; omega
  | .choice f t y o r, w, _, hw, h => by
    have h1 := ltrs_le (p := y) hw h.1
    have h2 := ltrs_le (p := o) hw h.2.1
    have h3 := ltrs_le (p := r) hw h.2.2
    rw [Pcs.ltrs, cnt_c.1, Nat.mul_add, Nat.mul_add, Nat.mul_add]; omega
  | .loop n b g r, w, _, hw, h => by
    have h0 : g.length ≤ w := h.1
    have h1 := ltrs_le (p := b) hw h.2.1
    have h3 := ltrs_le (p := r) hw h.2.2
    rw [Pcs.ltrs, cnt_l.1, Nat.mul_add, Nat.mul_add]; omega
  | .use u r, w, _, hw, h => by
    have := ltrs_le (p := r) hw h.2
    rw [Pcs.ltrs, cnt_u.1, Nat.mul_add]; omega
theorem AllT.imp {T G U T' G' U' : List Nat → Prop} (hT : ∀ t, T t → T' t) (hG : ∀ t, G t → G' t) (hU : ∀ t, U t → U' t) : ∀ {p : Pcs}, p.AllT T G U → p.AllT T' G' U'
  | .nil, h => trivial
  | .text t r, h => ⟨hT _ h.1, AllT.imp hT hG hU (p := r) h.2⟩
  | .hole f r, h => AllT.imp hT hG hU (p := r) h
  | .choice f t y o r, h => ⟨AllT.imp hT hG hU (p := y) h.1, AllT.imp hT hG hU (p := o) h.2.1, AllT.imp hT hG hU (p := r) h.2.2⟩
  | .loop n b g r, h => ⟨hG _ h.1, AllT.imp hT hG hU (p := b) h.2.1, AllT.imp hT hG hU (p := r) h.2.2⟩
  | .use u r, h => ⟨hU _ h.1, AllT.imp hT hG hU (p := r) h.2⟩
/-- q is p with texts cut -/
structure Lo (p q : Pcs) : Prop where
  s : ∀ o, Pcs.stl o q = Pcs.stl o p
  dep : q.dep = p.dep
  cnt : q.cnt ≤ 3 * p.cnt
  ltrs : q.ltrs = p.ltrs
  all : q.AllT Len Len Any
abbrev Len1 (t : List Nat) : Prop := 0 < t.length ∧ t.length ≤ 1000
def oneT (w : List Nat) : Pcs := if w = [] then .nil else .text w .nil
theorem stl_cut (a b c : List Nat) (r : Pcs) (o : Option (List Nat)) : Pcs.stl o ((oneT a).app ((oneT b).app (.text c r))) = Pcs.stl o (.text (a ++ (b ++ c)) r) := by
  unfold oneT
  split <;> split <;> cases o <;> simp [*, Pcs.app, Pcs.stl]
theorem oneT_D {w : List Nat} : (oneT w).pcsD = if w = [] then [] else [.tuple [S TEXT, S w]] := by unfold oneT; split <;> rfl
theorem loosened_Ok : ∀ (n : Nat) (p : Pcs) (lp : List PD), Pool lp → p.dep + 1 ≤ n → p.cnt ≤ 1000 → p.AllT Len1 Len Any → Ok (m__law_loosened n lp (.tuple p.pcsD)) fun r => ∃ (q : Pcs) (lp' : List PD), r = (.tuple q.pcsD, [.l lp']) ∧ Lo p q ∧ Pool lp'
  | 0, _, _, _, h, _, _ => by omega
  | n + 1, p, lp, hp, hn, hc, hA => by
    have ih := fun q lp => loosened_Ok n q lp
    have ap : ∀ (l : List PD) (d : PD), l.length ≤ 8000 → appD l d = .ok (l ++ [d]) := fun l d h => appD_ok (by rw [sizeLine_eq]; omega)
    simp -implicitDefEqProofs only [bind_bind, ok_bind, dOnly_ok, callC_0, callC_1, callC_2, callC_3, callC_n, putC_0, putC_1, putC_2, putC_3, putC_n, unl_l, unn_n, finE_rt, finN_rt, finN_nx, upC_rt, upC_bk, upC_ct, dnC_nx, dnC_rt, seqC_nx, seqC_rt, seqC_bk, seqC_ct, dropC_0, dropC_1, dropC_2, dropC_3, cellL_0, cellL_1, cellL_2, cellL_3, cellL_4, cellL_5, EI, if_true, if_false, Bool.false_eq_true, decide_true, decide_false, Bool.not_true, Bool.not_false, S_nil, reduceIte, List.map_cons, List.map_nil, List.tail_cons, IS, m__law_loosened, APs, CCs]
    refine Ok.bind (pcs_loop (fun r (l : List PD × List PD) => ∃ (K : Pcs) (lp : List PD), l = (K.pcsD, lp) ∧ Pool lp ∧ (∀ o, Pcs.stl o (K.app r) = Pcs.stl o p) ∧ (K.app r).dep = p.dep ∧ K.cnt + 3 * r.cnt ≤ 3 * p.cnt ∧ (K.app r).ltrs = p.ltrs ∧ K.AllT Len Len Any ∧ r.AllT Len1 Len Any)
      ⟨.nil, lp, rfl, hp, fun _ => rfl, rfl, by show 0 + _ ≤ _; omega, rfl, trivial, hA⟩ ?_ ?_ ?_ ?_ ?_) ?_
    · rintro w r _ ⟨K, lp, rfl, hp, hs, hd, hcc, hl, hk, hr⟩
      have c1 := cnt_t (w := w) (r := r)
      have hKl := pcsD_len K
      have hw1 : w.length ≤ 1000 := hr.1.2
      have hw0 : 0 < w.length := hr.1.1
      have z : w.length ≤ sizeLine := by rw [sizeLine_eq]; omega
      simp -implicitDefEqProofs only [bind_bind, ok_bind, dOnly_ok, callC_0, callC_1, callC_2, callC_3, callC_n, putC_0, putC_1, putC_2, putC_3, putC_n, unl_l, unn_n, finE_rt, finN_rt, finN_nx, upC_rt, upC_bk, upC_ct, dnC_nx, dnC_rt, seqC_nx, seqC_rt, seqC_bk, seqC_ct, dropC_0, dropC_1, dropC_2, dropC_3, cellL_0, cellL_1, cellL_2, cellL_3, cellL_4, cellL_5, EI, if_true, if_false, Bool.false_eq_true, decide_true, decide_false, Bool.not_true, Bool.not_false, S_nil, reduceIte, List.map_cons, List.map_nil, List.tail_cons, IS, TG, APs, CCs, lenD_S z]
      refine Ok.bind (draw_Ok hp hw0 (by omega)) ?_
      rintro _ ⟨c, lp1, rfl, hc1, hp1⟩
      have zd : (w.drop c).length ≤ sizeLine := by rw [List.length_drop]; omega
      have hd0 : 0 < (w.drop c).length := by rw [List.length_drop]; omega
      have hd1 : (w.drop c).length ≤ 1000 := by rw [List.length_drop]; omega
      simp -implicitDefEqProofs only [bind_bind, ok_bind, dOnly_ok, callC_0, callC_1, callC_2, callC_3, callC_n, putC_0, putC_1, putC_2, putC_3, putC_n, unl_l, unn_n, finE_rt, finN_rt, finN_nx, upC_rt, upC_bk, upC_ct, dnC_nx, dnC_rt, seqC_nx, seqC_rt, seqC_bk, seqC_ct, dropC_0, dropC_1, dropC_2, dropC_3, cellL_0, cellL_1, cellL_2, cellL_3, cellL_4, cellL_5, EI, if_true, if_false, Bool.false_eq_true, decide_true, decide_false, Bool.not_true, Bool.not_false, S_nil, reduceIte, List.map_cons, List.map_nil, List.tail_cons, IS, APs, CCs]
      have one : ∀ (t : List Nat) (c : Nat) (K : Pcs), c < t.length → (if decide ((0 : Int) < (c : Int)) = true then (appD K.pcsD (.tuple [S TEXT, S (t.take c)]) >>= fun l => Out.ok (Ctl.nx l : Ctl (List PD) (PD × List CO) (List PD × List PD))) else Out.ok (Ctl.nx K.pcsD)) = if K.pcsD.length < sizeLine ∨ c = 0 then Out.ok (Ctl.nx ((K.app (oneT (t.take c))).pcsD)) else .bad := fun t c K h => by
        have ht : t.take c = [] ↔ c = 0 := by
          rw [List.take_eq_nil_iff]
          constructor
          · rintro (q | q)
            · exact q
            · rw [q] at h; simp at h
          · exact .inl
        by_cases h0 : c = 0
        · subst h0
          simp [oneT, Pcs.app_nil]
        · rw [if_pos (by simp; omega)]
          unfold appD
          have : oneT (t.take c) = .text (t.take c) .nil := by unfold oneT; rw [if_neg (fun z => h0 (ht.mp z))]
          rw [this, Pcs.app_D]
          by_cases hz : K.pcsD.length < sizeLine
          · rw [if_pos hz, if_pos (.inl hz)]; rfl
          · rw [if_neg hz, if_neg (by omega)]; rfl
      have cA : cutL w none (some (c : Int)) = w.take c := cutL_hi
      have cB : cutL w (some (c : Int)) none = w.drop c := cutL_lo
      have k1 : (K.app (oneT (w.take c))).pcsD.length ≤ 4001 := by
        rw [Pcs.app_D, oneT_D, List.length_append]
        split <;> simp <;> omega
      simp -implicitDefEqProofs only [bind_bind, ok_bind, dOnly_ok, callC_0, callC_1, callC_2, callC_3, callC_n, putC_0, putC_1, putC_2, putC_3, putC_n, unl_l, unn_n, finE_rt, finN_rt, finN_nx, upC_rt, upC_bk, upC_ct, dnC_nx, dnC_rt, seqC_nx, seqC_rt, seqC_bk, seqC_ct, dropC_0, dropC_1, dropC_2, dropC_3, cellL_0, cellL_1, cellL_2, cellL_3, cellL_4, cellL_5, EI, if_true, if_false, Bool.false_eq_true, decide_true, decide_false, Bool.not_true, Bool.not_false, S_nil, reduceIte, List.map_cons, List.map_nil, List.tail_cons, IS, cutD_S z, cA, cB, S_TEXT, one w c K hc1, if_pos (show K.pcsD.length < sizeLine ∨ c = 0 from .inl (by rw [sizeLine_eq]; omega)), lenD_S zd, APs, CCs]
      refine Ok.bind (draw_Ok hp1 hd0 (by omega)) ?_
      rintro _ ⟨c', lp2, rfl, hc2, hp2⟩
      have cA' : cutL (w.drop c) none (some (c' : Int)) = (w.drop c).take c' := cutL_hi
      have cB' : cutL (w.drop c) (some (c' : Int)) none = (w.drop c).drop c' := cutL_lo
      have k2 : ((K.app (oneT (w.take c))).app (oneT ((w.drop c).take c'))).pcsD.length ≤ 4002 := by
        rw [Pcs.app_D (K.app _), oneT_D, List.length_append]
        split <;> simp <;> omega
      simp -implicitDefEqProofs only [bind_bind, ok_bind, dOnly_ok, callC_0, callC_1, callC_2, callC_3, callC_n, putC_0, putC_1, putC_2, putC_3, putC_n, unl_l, unn_n, finE_rt, finN_rt, finN_nx, upC_rt, upC_bk, upC_ct, dnC_nx, dnC_rt, seqC_nx, seqC_rt, seqC_bk, seqC_ct, dropC_0, dropC_1, dropC_2, dropC_3, cellL_0, cellL_1, cellL_2, cellL_3, cellL_4, cellL_5, EI, if_true, if_false, Bool.false_eq_true, decide_true, decide_false, Bool.not_true, Bool.not_false, S_nil, reduceIte, List.map_cons, List.map_nil, List.tail_cons, IS, APs, CCs, cutD_S zd, cA', cB', S_TEXT, one (w.drop c) c' (K.app (oneT (w.take c))) hc2, if_pos (show (K.app (oneT (w.take c))).pcsD.length < sizeLine ∨ c' = 0 from .inl (by rw [sizeLine_eq]; omega)), ap ((K.app (oneT (w.take c))).app (oneT ((w.drop c).take c'))).pcsD (.tuple [S TEXT, S ((w.drop c).drop c')]) (by omega)]
      have ew : w.take c ++ ((w.drop c).take c' ++ (w.drop c).drop c') = w := by rw [List.take_append_drop, List.take_append_drop]
      have hcut := fun o => stl_cut (w.take c) ((w.drop c).take c') ((w.drop c).drop c') r o
      rw [ew] at hcut
      have oc : ∀ t, (oneT t).cnt ≤ 1 ∧ (oneT t).dep = 0 ∧ (oneT t).ltrs = t.length ∧ (t.length ≤ 1000 → (oneT t).AllT Len Len Any) := fun t => by
        unfold oneT
        split
        · rename_i h; rw [h]; exact ⟨by decide, rfl, rfl, fun _ => trivial⟩
        · exact ⟨Nat.le_refl _, rfl, rfl, fun h => ⟨h, trivial⟩⟩
      obtain ⟨a1, a2, a3, a4⟩ := oc (w.take c)
      obtain ⟨b1, b2, b3, b4⟩ := oc ((w.drop c).take c')
      have hsum : (w.take c).length + (((w.drop c).take c').length + ((w.drop c).drop c').length) = w.length := by
        have := congrArg List.length ew
        simpa using this
      have eK : (((K.app (oneT (w.take c))).app (oneT ((w.drop c).take c'))).app (.text ((w.drop c).drop c') .nil)).app r = K.app ((oneT (w.take c)).app ((oneT ((w.drop c).take c')).app (.text ((w.drop c).drop c') r))) := by
        simp only [Pcs.app_assoc, Pcs.app]
      refine .ret ⟨_, .inl rfl, ((K.app (oneT (w.take c))).app (oneT ((w.drop c).take c'))).app (.text ((w.drop c).drop c') .nil), lp2, ?_, hp2, fun o => ?_, ?_, ?_, ?_, ?_, hr.2⟩
      · rw [Pcs.app_D ((K.app _).app _)]; rfl
      · rw [eK, Pcs.stl_app hcut K o]; exact hs o
      · rw [eK, ← hd]
        simp only [Pcs.app_dep, a2, b2, c1.2, cnt_t.2]
        omega
      · simp only [Pcs.app_cnt, cnt_t.1, cnt_n.1]
        omega
      · rw [eK, ← hl]
        simp only [Pcs.app_ltrs, a3, b3, Pcs.ltrs]
        omega
      · exact Pcs.app_AllT (Pcs.app_AllT (Pcs.app_AllT hk (a4 (by omega))) (b4 (by omega))) ⟨show _ ≤ _ by omega, trivial⟩
    · rintro f r _ ⟨K, lp, rfl, hp, hs, hd, hcc, hl, hk, hr⟩
      have c1 := cnt_h (w := f) (r := r)
      have hKl := pcsD_len K
      simp -implicitDefEqProofs only [bind_bind, ok_bind, dOnly_ok, callC_0, callC_1, callC_2, callC_3, callC_n, putC_0, putC_1, putC_2, putC_3, putC_n, unl_l, unn_n, finE_rt, finN_rt, finN_nx, upC_rt, upC_bk, upC_ct, dnC_nx, dnC_rt, seqC_nx, seqC_rt, seqC_bk, seqC_ct, dropC_0, dropC_1, dropC_2, dropC_3, cellL_0, cellL_1, cellL_2, cellL_3, cellL_4, cellL_5, EI, if_true, if_false, Bool.false_eq_true, decide_true, decide_false, Bool.not_true, Bool.not_false, S_nil, reduceIte, List.map_cons, List.map_nil, List.tail_cons, IS, TG, ap K.pcsD (.tuple [S HOLE, S f]) (by omega)]
      refine .ret ⟨_, .inl rfl, K.app (.hole f .nil), lp, ?_, hp, ?_, ?_, ?_, ?_, ?_, hr⟩
      · rw [Pcs.app_D]; rfl
      · rw [Pcs.app_assoc]; exact hs
      · rw [Pcs.app_assoc]; exact hd
      · rw [Pcs.app_cnt, cnt_h.1, cnt_n.1]; omega
      · rw [Pcs.app_assoc]; exact hl
      · exact Pcs.app_AllT hk trivial
    · rintro f w y z r _ ⟨K, lp, rfl, hp, hs, hd, hcc, hl, hk, hr⟩
      have c1 := cnt_c (f := f) (w := w) (y := y) (o := z) (r := r)
      have hKl := pcsD_len K
      have hdep : (Pcs.choice f w y z r).dep ≤ p.dep := by rw [← hd, Pcs.app_dep]; omega
      simp -implicitDefEqProofs only [bind_bind, ok_bind, dOnly_ok, callC_0, callC_1, callC_2, callC_3, callC_n, putC_0, putC_1, putC_2, putC_3, putC_n, unl_l, unn_n, finE_rt, finN_rt, finN_nx, upC_rt, upC_bk, upC_ct, dnC_nx, dnC_rt, seqC_nx, seqC_rt, seqC_bk, seqC_ct, dropC_0, dropC_1, dropC_2, dropC_3, cellL_0, cellL_1, cellL_2, cellL_3, cellL_4, cellL_5, EI, if_true, if_false, Bool.false_eq_true, decide_true, decide_false, Bool.not_true, Bool.not_false, S_nil, reduceIte, List.map_cons, List.map_nil, List.tail_cons, IS, TG, APs, CCs, idxD_t3, idxD_t4]
      refine Ok.bind (ih y lp hp (by omega) (by omega) hr.1) ?_
      rintro _ ⟨y', lp1, rfl, ly, hp1⟩
      simp -implicitDefEqProofs only [bind_bind, ok_bind, dOnly_ok, callC_0, callC_1, callC_2, callC_3, callC_n, putC_0, putC_1, putC_2, putC_3, putC_n, unl_l, unn_n, finE_rt, finN_rt, finN_nx, upC_rt, upC_bk, upC_ct, dnC_nx, dnC_rt, seqC_nx, seqC_rt, seqC_bk, seqC_ct, dropC_0, dropC_1, dropC_2, dropC_3, cellL_0, cellL_1, cellL_2, cellL_3, cellL_4, cellL_5, EI, if_true, if_false, Bool.false_eq_true, decide_true, decide_false, Bool.not_true, Bool.not_false, S_nil, reduceIte, List.map_cons, List.map_nil, List.tail_cons, IS, APs, CCs, idxD_t4]
      refine Ok.bind (ih z lp1 hp1 (by omega) (by omega) hr.2.1) ?_
      rintro _ ⟨z', lp2, rfl, lz, hp2⟩
      simp -implicitDefEqProofs only [bind_bind, ok_bind, dOnly_ok, callC_0, callC_1, callC_2, callC_3, callC_n, putC_0, putC_1, putC_2, putC_3, putC_n, unl_l, unn_n, finE_rt, finN_rt, finN_nx, upC_rt, upC_bk, upC_ct, dnC_nx, dnC_rt, seqC_nx, seqC_rt, seqC_bk, seqC_ct, dropC_0, dropC_1, dropC_2, dropC_3, cellL_0, cellL_1, cellL_2, cellL_3, cellL_4, cellL_5, EI, if_true, if_false, Bool.false_eq_true, decide_true, decide_false, Bool.not_true, Bool.not_false, S_nil, reduceIte, List.map_cons, List.map_nil, List.tail_cons, IS, APs, CCs, S_CHOICE, ap K.pcsD (.tuple [S CHOICE, S f, S w, .tuple y'.pcsD, .tuple z'.pcsD]) (by omega), List.set_cons_zero]
      have := ly.cnt
      have := lz.cnt
      have := ly.dep
      have := lz.dep
      have := ly.ltrs
      have := lz.ltrs
      refine .ret ⟨_, .inl rfl, K.app (.choice f w y' z' .nil), lp2, ?_, hp2, fun o => ?_, ?_, ?_, ?_, ?_, hr.2.2⟩
      · rw [Pcs.app_D]; rfl
      · rw [Pcs.app_assoc, ← hs o]
        exact Pcs.stl_app (fun o => by simp only [Pcs.app, Pcs.stl, ly.s, lz.s]) K o
      · rw [← hd]
        simp only [Pcs.app_dep, cnt_c.2, cnt_n.2]
        omega
      · rw [Pcs.app_cnt, cnt_c.1, cnt_n.1]; omega
      · rw [← hl]
        simp only [Pcs.app_ltrs, Pcs.ltrs]
        omega
      · exact Pcs.app_AllT hk ⟨ly.all, lz.all, trivial⟩
    · rintro m b g r _ ⟨K, lp, rfl, hp, hs, hd, hcc, hl, hk, hr⟩
      have c1 := cnt_l (n := m) (b := b) (g := g) (r := r)
      have hKl := pcsD_len K
      have hdep : (Pcs.loop m b g r).dep ≤ p.dep := by rw [← hd, Pcs.app_dep]; omega
      simp -implicitDefEqProofs only [bind_bind, ok_bind, dOnly_ok, callC_0, callC_1, callC_2, callC_3, callC_n, putC_0, putC_1, putC_2, putC_3, putC_n, unl_l, unn_n, finE_rt, finN_rt, finN_nx, upC_rt, upC_bk, upC_ct, dnC_nx, dnC_rt, seqC_nx, seqC_rt, seqC_bk, seqC_ct, dropC_0, dropC_1, dropC_2, dropC_3, cellL_0, cellL_1, cellL_2, cellL_3, cellL_4, cellL_5, EI, if_true, if_false, Bool.false_eq_true, decide_true, decide_false, Bool.not_true, Bool.not_false, S_nil, reduceIte, List.map_cons, List.map_nil, List.tail_cons, IS, TG, APs, CCs, idxD_t3, idxD_t4]
      refine Ok.bind (ih b lp hp (by omega) (by omega) hr.2.1) ?_
      rintro _ ⟨y', lp1, rfl, ly, hp1⟩
      simp -implicitDefEqProofs only [bind_bind, ok_bind, dOnly_ok, callC_0, callC_1, callC_2, callC_3, callC_n, putC_0, putC_1, putC_2, putC_3, putC_n, unl_l, unn_n, finE_rt, finN_rt, finN_nx, upC_rt, upC_bk, upC_ct, dnC_nx, dnC_rt, seqC_nx, seqC_rt, seqC_bk, seqC_ct, dropC_0, dropC_1, dropC_2, dropC_3, cellL_0, cellL_1, cellL_2, cellL_3, cellL_4, cellL_5, EI, if_true, if_false, Bool.false_eq_true, decide_true, decide_false, Bool.not_true, Bool.not_false, S_nil, reduceIte, List.map_cons, List.map_nil, List.tail_cons, IS, APs, CCs, idxD_t3, S_LOOP, ap K.pcsD (.tuple [S LOOP, S m, .tuple y'.pcsD, S g]) (by omega), List.set_cons_zero]
      have := ly.cnt
      have := ly.dep
      have := ly.ltrs
      refine .ret ⟨_, .inl rfl, K.app (.loop m y' g .nil), lp1, ?_, hp1, fun o => ?_, ?_, ?_, ?_, ?_, hr.2.2⟩
      · rw [Pcs.app_D]; rfl
      · rw [Pcs.app_assoc, ← hs o]
        exact Pcs.stl_app (fun o => by simp only [Pcs.app, Pcs.stl, ly.s]) K o
      · rw [← hd]
        simp only [Pcs.app_dep, cnt_l.2, cnt_n.2]
        omega
      · rw [Pcs.app_cnt, cnt_l.1, cnt_n.1]; omega
      · rw [← hl]
        simp only [Pcs.app_ltrs, Pcs.ltrs]
        omega
      · exact Pcs.app_AllT hk ⟨hr.1, ly.all, trivial⟩
    · rintro f r _ ⟨K, lp, rfl, hp, hs, hd, hcc, hl, hk, hr⟩
      have c1 := cnt_u (w := f) (r := r)
      have hKl := pcsD_len K
      simp -implicitDefEqProofs only [bind_bind, ok_bind, dOnly_ok, callC_0, callC_1, callC_2, callC_3, callC_n, putC_0, putC_1, putC_2, putC_3, putC_n, unl_l, unn_n, finE_rt, finN_rt, finN_nx, upC_rt, upC_bk, upC_ct, dnC_nx, dnC_rt, seqC_nx, seqC_rt, seqC_bk, seqC_ct, dropC_0, dropC_1, dropC_2, dropC_3, cellL_0, cellL_1, cellL_2, cellL_3, cellL_4, cellL_5, EI, if_true, if_false, Bool.false_eq_true, decide_true, decide_false, Bool.not_true, Bool.not_false, S_nil, reduceIte, List.map_cons, List.map_nil, List.tail_cons, IS, TG, ap K.pcsD (.tuple [S USE, S f]) (by omega)]
      refine .ret ⟨_, .inl rfl, K.app (.use f .nil), lp, ?_, hp, ?_, ?_, ?_, ?_, ?_, hr.2⟩
      · rw [Pcs.app_D]; rfl
      · rw [Pcs.app_assoc]; exact hs
      · rw [Pcs.app_assoc]; exact hd
      · rw [Pcs.app_cnt, cnt_u.1, cnt_n.1]; omega
      · rw [Pcs.app_assoc]; exact hl
      · exact Pcs.app_AllT hk ⟨trivial, trivial⟩
    · rintro _ ⟨_, rfl, K, lp, rfl, hp, hs, hd, hcc, hl, hk, hr⟩
      simp -implicitDefEqProofs only [bind_bind, ok_bind, dOnly_ok, callC_0, callC_1, callC_2, callC_3, callC_n, putC_0, putC_1, putC_2, putC_3, putC_n, unl_l, unn_n, finE_rt, finN_rt, finN_nx, upC_rt, upC_bk, upC_ct, dnC_nx, dnC_rt, seqC_nx, seqC_rt, seqC_bk, seqC_ct, dropC_0, dropC_1, dropC_2, dropC_3, cellL_0, cellL_1, cellL_2, cellL_3, cellL_4, cellL_5, EI, if_true, if_false, Bool.false_eq_true, decide_true, decide_false, Bool.not_true, Bool.not_false, S_nil, reduceIte, List.map_cons, List.map_nil, List.tail_cons, IS]
      rw [Pcs.app_nil] at hs hd hl
      exact .ret ⟨K, lp, rfl, ⟨hs, hd, by rw [cnt_n.1] at hcc; omega, hl, hk⟩, hp⟩
end Dd
set_option Elab.async false
set_option linter.all false
set_option maxRecDepth 100000
set_option maxHeartbeats 4000000
namespace Dd
open PySem PySem.Spec PyProof.Rows L2
theorem eq_tuple_nil {n : Nat} {p : Pcs} (h : GoodT n (.tuple p.pcsD)) (hn : n ≤ 64) : eqD (.tuple p.pcsD) (.tuple []) = .ok p.pcsD.isEmpty := by
  unfold eqD
  rw [shaped_good h hn, show SeqAt.shaped (.tuple []) = true from rfl]
  cases p <;> simp [PyData.eqv, PyData.eqvAll, Pcs.pcsD]
theorem made_ok2 : ∀ (n : Nat) (p : Pcs), p.dep + 1 ≤ n → p.cnt ≤ 1000 → p.dep ≤ 20 → p.AllS Tx → m__law_made n (.tuple p.pcsD) = .ok (.tuple p.pcsD, [])
  | 0, _, h, _, _, _ => by omega
  | n + 1, p, hn, hc, hd, hA => by
    have ih := fun q => made_ok2 n q
    have ap : ∀ (l : List PD) (d : PD), l.length ≤ 8000 → appD l d = .ok (l ++ [d]) := fun l d h => appD_ok (by rw [sizeLine_eq]; omega)
    refine Ok.eq ?_
    simp -implicitDefEqProofs only [bind_bind, ok_bind, dOnly_ok, callC_0, callC_1, callC_2, callC_3, callC_n, putC_0, putC_1, putC_2, putC_3, putC_n, unl_l, unn_n, finE_rt, finN_rt, finN_nx, upC_rt, upC_bk, upC_ct, dnC_nx, dnC_rt, seqC_nx, seqC_rt, seqC_bk, seqC_ct, dropC_0, dropC_1, dropC_2, dropC_3, cellL_0, cellL_1, cellL_2, cellL_3, cellL_4, cellL_5, EI, if_true, if_false, Bool.false_eq_true, decide_true, decide_false, Bool.not_true, Bool.not_false, S_nil, reduceIte, List.map_cons, List.map_nil, List.tail_cons, IS, m__law_made, APs]
    refine Ok.bind (pcs_loop (fun r (l : List PD) => ∃ K : Pcs, l = K.pcsD ∧ K.app r = p ∧ r.AllS Tx) ⟨.nil, rfl, rfl, hA⟩ ?_ ?_ ?_ ?_ ?_) ?_
    · rintro w r _ ⟨K, rfl, e, h⟩
      have hK := pcsD_len K
      have hcc : K.cnt + (Pcs.text w r).cnt = p.cnt := by rw [← e, Pcs.app_cnt]
      simp -implicitDefEqProofs only [bind_bind, ok_bind, dOnly_ok, callC_0, callC_1, callC_2, callC_3, callC_n, putC_0, putC_1, putC_2, putC_3, putC_n, unl_l, unn_n, finE_rt, finN_rt, finN_nx, upC_rt, upC_bk, upC_ct, dnC_nx, dnC_rt, seqC_nx, seqC_rt, seqC_bk, seqC_ct, dropC_0, dropC_1, dropC_2, dropC_3, cellL_0, cellL_1, cellL_2, cellL_3, cellL_4, cellL_5, EI, if_true, if_false, Bool.false_eq_true, decide_true, decide_false, Bool.not_true, Bool.not_false, S_nil, reduceIte, List.map_cons, List.map_nil, List.tail_cons, IS, TG, APs, m_text_piece, ap K.pcsD (.tuple [S TEXT, S w]) (by omega)]
      exact .ret ⟨_, .inl rfl, K.app (.text w .nil), by rw [Pcs.app_D]; rfl, by rw [Pcs.app_assoc]; exact e, h.2⟩
    · rintro w r _ ⟨K, rfl, e, h⟩
      have hK := pcsD_len K
      have hcc : K.cnt + (Pcs.hole w r).cnt = p.cnt := by rw [← e, Pcs.app_cnt]
      simp -implicitDefEqProofs only [bind_bind, ok_bind, dOnly_ok, callC_0, callC_1, callC_2, callC_3, callC_n, putC_0, putC_1, putC_2, putC_3, putC_n, unl_l, unn_n, finE_rt, finN_rt, finN_nx, upC_rt, upC_bk, upC_ct, dnC_nx, dnC_rt, seqC_nx, seqC_rt, seqC_bk, seqC_ct, dropC_0, dropC_1, dropC_2, dropC_3, cellL_0, cellL_1, cellL_2, cellL_3, cellL_4, cellL_5, EI, if_true, if_false, Bool.false_eq_true, decide_true, decide_false, Bool.not_true, Bool.not_false, S_nil, reduceIte, List.map_cons, List.map_nil, List.tail_cons, IS, TG, APs, m_hole, ap K.pcsD (.tuple [S HOLE, S w]) (by omega)]
      exact .ret ⟨_, .inl rfl, K.app (.hole w .nil), by rw [Pcs.app_D]; rfl, by rw [Pcs.app_assoc]; exact e, h.2⟩
    · rintro f w y o r _ ⟨K, rfl, e, h⟩
      have hK := pcsD_len K
      have hcc : K.cnt + (Pcs.choice f w y o r).cnt = p.cnt := by rw [← e, Pcs.app_cnt]
      have hdd : (Pcs.choice f w y o r).dep ≤ p.dep := by rw [← e, Pcs.app_dep]; omega
      rw [cnt_c.1] at hcc
      rw [cnt_c.2] at hdd
      have go : GoodT 44 (.tuple o.pcsD) := ⟨by have := pcsD_len o; omega, fun x hx => goodT_pcs (n := 43) h.2.2.2.1 (by omega) (by omega) x hx⟩
      have e1 := eq_tuple_nil go (by decide)
      have hap := ap K.pcsD (.tuple [S CHOICE, S f, S w, .tuple y.pcsD, .tuple o.pcsD]) (by omega)
      have fin : Ok (Out.ok (Ctl.nx (K.pcsD ++ [PyData.tuple [S CHOICE, S f, S w, .tuple y.pcsD, .tuple o.pcsD]]) : Ctl (List PD) (PD × List CO) (List PD))) fun c => ∃ l', (c = Ctl.nx l' ∨ c = Ctl.ct l') ∧ ∃ K : Pcs, l' = K.pcsD ∧ K.app r = p ∧ r.AllS Tx :=
        .ret ⟨_, .inl rfl, K.app (.choice f w y o .nil), by rw [Pcs.app_D]; rfl, by rw [Pcs.app_assoc]; exact e, h.2.2.2.2⟩
      by_cases ho : o = .nil
      · subst ho
        rw [show Pcs.nil.pcsD = [] from rfl] at e1 hap fin ⊢
        simp -implicitDefEqProofs only [bind_bind, ok_bind, dOnly_ok, callC_0, callC_1, callC_2, callC_3, callC_n, putC_0, putC_1, putC_2, putC_3, putC_n, unl_l, unn_n, finE_rt, finN_rt, finN_nx, upC_rt, upC_bk, upC_ct, dnC_nx, dnC_rt, seqC_nx, seqC_rt, seqC_bk, seqC_ct, dropC_0, dropC_1, dropC_2, dropC_3, cellL_0, cellL_1, cellL_2, cellL_3, cellL_4, cellL_5, EI, if_true, if_false, Bool.false_eq_true, decide_true, decide_false, Bool.not_true, Bool.not_false, S_nil, reduceIte, List.map_cons, List.map_nil, List.tail_cons, IS, List.isEmpty_nil, TG, APs, idxD_t3, idxD_t4, e1, ih y (by omega) (by omega) (by omega) h.2.2.1, m_choice, List.cons_append, List.nil_append, hap]
        exact fin
      · have hne : o.pcsD.isEmpty = false := by cases o <;> first | exact (ho rfl).elim | rfl
        simp -implicitDefEqProofs only [bind_bind, ok_bind, dOnly_ok, callC_0, callC_1, callC_2, callC_3, callC_n, putC_0, putC_1, putC_2, putC_3, putC_n, unl_l, unn_n, finE_rt, finN_rt, finN_nx, upC_rt, upC_bk, upC_ct, dnC_nx, dnC_rt, seqC_nx, seqC_rt, seqC_bk, seqC_ct, dropC_0, dropC_1, dropC_2, dropC_3, cellL_0, cellL_1, cellL_2, cellL_3, cellL_4, cellL_5, EI, if_true, if_false, Bool.false_eq_true, decide_true, decide_false, Bool.not_true, Bool.not_false, S_nil, reduceIte, List.map_cons, List.map_nil, List.tail_cons, IS, TG, APs, idxD_t3, idxD_t4, e1, hne, ih y (by omega) (by omega) (by omega) h.2.2.1, ih o (by omega) (by omega) (by omega) h.2.2.2.1, m_choice, List.cons_append, List.nil_append, hap]
        exact fin
    · rintro m b g r _ ⟨K, rfl, e, h⟩
      have hK := pcsD_len K
      have hcc : K.cnt + (Pcs.loop m b g r).cnt = p.cnt := by rw [← e, Pcs.app_cnt]
      have hdd : (Pcs.loop m b g r).dep ≤ p.dep := by rw [← e, Pcs.app_dep]; omega
      rw [cnt_l.1] at hcc
      rw [cnt_l.2] at hdd
      have hap := ap K.pcsD (.tuple [S LOOP, S m, .tuple b.pcsD, S g]) (by omega)
      have fin : Ok (Out.ok (Ctl.nx (K.pcsD ++ [PyData.tuple [S LOOP, S m, .tuple b.pcsD, S g]]) : Ctl (List PD) (PD × List CO) (List PD))) fun c => ∃ l', (c = Ctl.nx l' ∨ c = Ctl.ct l') ∧ ∃ K : Pcs, l' = K.pcsD ∧ K.app r = p ∧ r.AllS Tx :=
        .ret ⟨_, .inl rfl, K.app (.loop m b g .nil), by rw [Pcs.app_D]; rfl, by rw [Pcs.app_assoc]; exact e, h.2.2.2⟩
      by_cases hg : g = []
      · subst hg
        simp -implicitDefEqProofs only [bind_bind, ok_bind, dOnly_ok, callC_0, callC_1, callC_2, callC_3, callC_n, putC_0, putC_1, putC_2, putC_3, putC_n, unl_l, unn_n, finE_rt, finN_rt, finN_nx, upC_rt, upC_bk, upC_ct, dnC_nx, dnC_rt, seqC_nx, seqC_rt, seqC_bk, seqC_ct, dropC_0, dropC_1, dropC_2, dropC_3, cellL_0, cellL_1, cellL_2, cellL_3, cellL_4, cellL_5, EI, if_true, if_false, Bool.false_eq_true, decide_true, decide_false, Bool.not_true, Bool.not_false, S_nil, reduceIte, List.map_cons, List.map_nil, List.tail_cons, IS, TG, APs, idxD_t3, idxD_t4, eqD_S Tx.nil Tx.nil, ih b (by omega) (by omega) (by omega) h.2.2.1, m_loop, List.cons_append, List.nil_append, hap]
        exact fin
      · simp -implicitDefEqProofs only [bind_bind, ok_bind, dOnly_ok, callC_0, callC_1, callC_2, callC_3, callC_n, putC_0, putC_1, putC_2, putC_3, putC_n, unl_l, unn_n, finE_rt, finN_rt, finN_nx, upC_rt, upC_bk, upC_ct, dnC_nx, dnC_rt, seqC_nx, seqC_rt, seqC_bk, seqC_ct, dropC_0, dropC_1, dropC_2, dropC_3, cellL_0, cellL_1, cellL_2, cellL_3, cellL_4, cellL_5, EI, if_true, if_false, Bool.false_eq_true, decide_true, decide_false, Bool.not_true, Bool.not_false, S_nil, reduceIte, List.map_cons, List.map_nil, List.tail_cons, IS, TG, APs, idxD_t3, idxD_t4, eqD_S h.2.1 Tx.nil, hg, ih b (by omega) (by omega) (by omega) h.2.2.1, m_loop, List.cons_append, List.nil_append, hap]
        exact fin
    · rintro w r _ ⟨K, rfl, e, h⟩
      have hK := pcsD_len K
      have hcc : K.cnt + (Pcs.use w r).cnt = p.cnt := by rw [← e, Pcs.app_cnt]
      simp -implicitDefEqProofs only [bind_bind, ok_bind, dOnly_ok, callC_0, callC_1, callC_2, callC_3, callC_n, putC_0, putC_1, putC_2, putC_3, putC_n, unl_l, unn_n, finE_rt, finN_rt, finN_nx, upC_rt, upC_bk, upC_ct, dnC_nx, dnC_rt, seqC_nx, seqC_rt, seqC_bk, seqC_ct, dropC_0, dropC_1, dropC_2, dropC_3, cellL_0, cellL_1, cellL_2, cellL_3, cellL_4, cellL_5, EI, if_true, if_false, Bool.false_eq_true, decide_true, decide_false, Bool.not_true, Bool.not_false, S_nil, reduceIte, List.map_cons, List.map_nil, List.tail_cons, IS, TG, APs, m_use, ap K.pcsD (.tuple [S USE, S w]) (by omega)]
      exact .ret ⟨_, .inl rfl, K.app (.use w .nil), by rw [Pcs.app_D]; rfl, by rw [Pcs.app_assoc]; exact e, h.2⟩
    · rintro _ ⟨_, rfl, K, rfl, e, h⟩
      rw [Pcs.app_nil] at e
      subst e
      simp -implicitDefEqProofs only [bind_bind, ok_bind, dOnly_ok, callC_0, callC_1, callC_2, callC_3, callC_n, putC_0, putC_1, putC_2, putC_3, putC_n, unl_l, unn_n, finE_rt, finN_rt, finN_nx, upC_rt, upC_bk, upC_ct, dnC_nx, dnC_rt, seqC_nx, seqC_rt, seqC_bk, seqC_ct, dropC_0, dropC_1, dropC_2, dropC_3, cellL_0, cellL_1, cellL_2, cellL_3, cellL_4, cellL_5, EI, if_true, if_false, Bool.false_eq_true, decide_true, decide_false, Bool.not_true, Bool.not_false, S_nil, reduceIte, List.map_cons, List.map_nil, List.tail_cons, IS]
      exact .ret rfl
theorem sizes_ok {p : Pcs} (hd : p.dep ≤ 30) (hA : p.AllT Len Len Any) : m__law_sizes_meet (.tuple p.pcsD) = .ok (.bool true, []) := by
  have er : rangeD (.int 0) (.int 3) = .ok [.int 0, .int 1, .int 2] := by kernel_rfl
  simp -implicitDefEqProofs only [bind_bind, ok_bind, dOnly_ok, callC_0, callC_1, callC_2, callC_3, callC_n, putC_0, putC_1, putC_2, putC_3, putC_n, unl_l, unn_n, finE_rt, finN_rt, finN_nx, upC_rt, upC_bk, upC_ct, dnC_nx, dnC_rt, seqC_nx, seqC_rt, seqC_bk, seqC_ct, dropC_0, dropC_1, dropC_2, dropC_3, cellL_0, cellL_1, cellL_2, cellL_3, cellL_4, cellL_5, EI, if_true, if_false, Bool.false_eq_true, decide_true, decide_false, Bool.not_true, Bool.not_false, S_nil, reduceIte, List.map_cons, List.map_nil, List.tail_cons, IS, m__law_sizes_meet, APs, measured_ok 40 p (by omega) hA, count_ok 40 p (by omega), depth_ok 40 p (by omega), letters_ok2 40 p (by omega) hA, er, forM, Mes, m__law_is_integer]
theorem law_true (ns : List Int) (hl : ns.length ≤ 63) (hb : ∀ z ∈ ns, Builtin.Int.intBits z ≤ 1048576) : m_law (.list (ns.map PyData.int)) = .ok (.bool true, []) := by
  refine Ok.eq ?_
  obtain ⟨l0, e0, h0⟩ := pool_ok ns hl 0
  obtain ⟨l1, e1, h1⟩ := pool_ok ns hl 1
  obtain ⟨l2, e2, h2⟩ := pool_ok ns hl 2
  rw [show ((0 : Nat) : Int) = 0 from rfl] at e0
  rw [show ((1 : Nat) : Int) = 1 from rfl] at e1
  rw [show ((2 : Nat) : Int) = 2 from rfl] at e2
  simp -implicitDefEqProofs only [bind_bind, ok_bind, dOnly_ok, callC_0, callC_1, callC_2, callC_3, callC_n, putC_0, putC_1, putC_2, putC_3, putC_n, unl_l, unn_n, finE_rt, finN_rt, finN_nx, upC_rt, upC_bk, upC_ct, dnC_nx, dnC_rt, seqC_nx, seqC_rt, seqC_bk, seqC_ct, dropC_0, dropC_1, dropC_2, dropC_3, cellL_0, cellL_1, cellL_2, cellL_3, cellL_4, cellL_5, EI, if_true, if_false, Bool.false_eq_true, decide_true, decide_false, Bool.not_true, Bool.not_false, S_nil, reduceIte, List.map_cons, List.map_nil, List.tail_cons, IS, m_law, APs, CCs, e0, e1, e2]
  refine Ok.bind (shape_Ok h0 (n := 40) (by decide)) ?_
  rintro _ ⟨P, SL, L, l3, rfl, hM, h3⟩
  have hF := made_ok hM
  generalize bf L SL P P.length 0 = F at hF
  simp -implicitDefEqProofs only [bind_bind, ok_bind, dOnly_ok, callC_0, callC_1, callC_2, callC_3, callC_n, putC_0, putC_1, putC_2, putC_3, putC_n, unl_l, unn_n, finE_rt, finN_rt, finN_nx, upC_rt, upC_bk, upC_ct, dnC_nx, dnC_rt, seqC_nx, seqC_rt, seqC_bk, seqC_ct, dropC_0, dropC_1, dropC_2, dropC_3, cellL_0, cellL_1, cellL_2, cellL_3, cellL_4, cellL_5, EI, if_true, if_false, Bool.false_eq_true, decide_true, decide_false, Bool.not_true, Bool.not_false, S_nil, reduceIte, List.map_cons, List.map_nil, List.tail_cons, IS, APs, CCs]
  have er : rangeD (.int 0) (.int 4) = .ok ((List.range 4).map fun i => PyData.int ((i : Nat) : Int)) := rangeD_n (n := 4) (by decide)
  have hl4 : ((List.range 4).map fun i => PyData.int ((i : Nat) : Int)).length ≤ sizeLine := by rw [sizeLine_eq, List.length_map, List.length_range]; omega
  have eabc : PyData.str "abc" = S [97, 98, 99] := by kernel_rfl
  simp -implicitDefEqProofs only [bind_bind, ok_bind, dOnly_ok, callC_0, callC_1, callC_2, callC_3, callC_n, putC_0, putC_1, putC_2, putC_3, putC_n, unl_l, unn_n, finE_rt, finN_rt, finN_nx, upC_rt, upC_bk, upC_ct, dnC_nx, dnC_rt, seqC_nx, seqC_rt, seqC_bk, seqC_ct, dropC_0, dropC_1, dropC_2, dropC_3, cellL_0, cellL_1, cellL_2, cellL_3, cellL_4, cellL_5, EI, if_true, if_false, Bool.false_eq_true, decide_true, decide_false, Bool.not_true, Bool.not_false, S_nil, reduceIte, List.map_cons, List.map_nil, List.tail_cons, IS, er, lineD_ok hl4]
  refine Ok.bind (compX_Ok (fun cs => ∃ l, cs = [.l l] ∧ Pool l) (fun _ y => ∃ c, y = S c ∧ Tx c) ⟨l1, rfl, h1⟩ ?_) ?_
  · rintro d _ _ ⟨l, rfl, h⟩
    simp -implicitDefEqProofs only [bind_bind, ok_bind, dOnly_ok, callC_0, callC_1, callC_2, callC_3, callC_n, putC_0, putC_1, putC_2, putC_3, putC_n, unl_l, unn_n, finE_rt, finN_rt, finN_nx, upC_rt, upC_bk, upC_ct, dnC_nx, dnC_rt, seqC_nx, seqC_rt, seqC_bk, seqC_ct, dropC_0, dropC_1, dropC_2, dropC_3, cellL_0, cellL_1, cellL_2, cellL_3, cellL_4, cellL_5, EI, if_true, if_false, Bool.false_eq_true, decide_true, decide_false, Bool.not_true, Bool.not_false, S_nil, reduceIte, List.map_cons, List.map_nil, List.tail_cons, IS, APs, CCs]
    refine Ok.bind (draw_Ok h (n := 3) (by decide) (by decide)) ?_
    rintro _ ⟨k, l', rfl, hk, hp⟩
    simp -implicitDefEqProofs only [bind_bind, ok_bind, dOnly_ok, callC_0, callC_1, callC_2, callC_3, callC_n, putC_0, putC_1, putC_2, putC_3, putC_n, unl_l, unn_n, finE_rt, finN_rt, finN_nx, upC_rt, upC_bk, upC_ct, dnC_nx, dnC_rt, seqC_nx, seqC_rt, seqC_bk, seqC_ct, dropC_0, dropC_1, dropC_2, dropC_3, cellL_0, cellL_1, cellL_2, cellL_3, cellL_4, cellL_5, EI, if_true, if_false, Bool.false_eq_true, decide_true, decide_false, Bool.not_true, Bool.not_false, S_nil, reduceIte, List.map_cons, List.map_nil, List.tail_cons, IS, APs, CCs, eabc, show (1 + (k : Int)) = ((k + 1 : Nat) : Int) by omega]
    refine Ok.bind (text_Ok hp (a := [97, 98, 99]) (by decide) (by decide) (n := k + 1) (by omega)) ?_
    rintro _ ⟨t, l'', rfl, ht, htm, hp2⟩
    simp -implicitDefEqProofs only [bind_bind, ok_bind, dOnly_ok, callC_0, callC_1, callC_2, callC_3, callC_n, putC_0, putC_1, putC_2, putC_3, putC_n, unl_l, unn_n, finE_rt, finN_rt, finN_nx, upC_rt, upC_bk, upC_ct, dnC_nx, dnC_rt, seqC_nx, seqC_rt, seqC_bk, seqC_ct, dropC_0, dropC_1, dropC_2, dropC_3, cellL_0, cellL_1, cellL_2, cellL_3, cellL_4, cellL_5, EI, if_true, if_false, Bool.false_eq_true, decide_true, decide_false, Bool.not_true, Bool.not_false, S_nil, reduceIte, List.map_cons, List.map_nil, List.tail_cons, IS, APs, CCs]
    exact .ret ⟨_, rfl, ⟨t, rfl, fun c m => by have := htm c m; simp at this; omega⟩, _, rfl, hp2⟩
  rintro ⟨ys, cs'⟩ ⟨hf, l4, rfl, h4⟩
  have hlen := hf.len
  rw [List.length_map, List.length_range] at hlen
  obtain ⟨us, rfl, hus⟩ := hf.map_of
  rw [List.length_map] at hlen
  simp -implicitDefEqProofs only [bind_bind, ok_bind, dOnly_ok, callC_0, callC_1, callC_2, callC_3, callC_n, putC_0, putC_1, putC_2, putC_3, putC_n, unl_l, unn_n, finE_rt, finN_rt, finN_nx, upC_rt, upC_bk, upC_ct, dnC_nx, dnC_rt, seqC_nx, seqC_rt, seqC_bk, seqC_ct, dropC_0, dropC_1, dropC_2, dropC_3, cellL_0, cellL_1, cellL_2, cellL_3, cellL_4, cellL_5, EI, if_true, if_false, Bool.false_eq_true, decide_true, decide_false, Bool.not_true, Bool.not_false, S_nil, reduceIte, List.map_cons, List.map_nil, List.tail_cons, IS, APs, CCs]
  refine Ok.bind (alphabet_Ok h4) ?_
  rintro _ ⟨a0, l5, rfl, ha1, ha2, ha3, h5⟩
  simp -implicitDefEqProofs only [bind_bind, ok_bind, dOnly_ok, callC_0, callC_1, callC_2, callC_3, callC_n, putC_0, putC_1, putC_2, putC_3, putC_n, unl_l, unn_n, finE_rt, finN_rt, finN_nx, upC_rt, upC_bk, upC_ct, dnC_nx, dnC_rt, seqC_nx, seqC_rt, seqC_bk, seqC_ct, dropC_0, dropC_1, dropC_2, dropC_3, cellL_0, cellL_1, cellL_2, cellL_3, cellL_4, cellL_5, EI, if_true, if_false, Bool.false_eq_true, decide_true, decide_false, Bool.not_true, Bool.not_false, S_nil, reduceIte, List.map_cons, List.map_nil, List.tail_cons, IS, APs, CCs]
  refine Ok.bind (draw_Ok h5 (n := 4) (by decide) (by decide)) ?_
  rintro _ ⟨k, l6, rfl, hk, h6⟩
  simp -implicitDefEqProofs only [bind_bind, ok_bind, dOnly_ok, callC_0, callC_1, callC_2, callC_3, callC_n, putC_0, putC_1, putC_2, putC_3, putC_n, unl_l, unn_n, finE_rt, finN_rt, finN_nx, upC_rt, upC_bk, upC_ct, dnC_nx, dnC_rt, seqC_nx, seqC_rt, seqC_bk, seqC_ct, dropC_0, dropC_1, dropC_2, dropC_3, cellL_0, cellL_1, cellL_2, cellL_3, cellL_4, cellL_5, EI, if_true, if_false, Bool.false_eq_true, decide_true, decide_false, Bool.not_true, Bool.not_false, S_nil, reduceIte, List.map_cons, List.map_nil, List.tail_cons, IS, APs, CCs]
  refine Ok.bind (P := fun x : Ctl (PD × List CO) (PD × List CO) Empty => ∃ (r w L : Nat) (a : List Nat) (lp : List PD), x = Ctl.nx (PyData.int (L : Int), [CO.l (Rm r w a), CO.l lp]) ∧ Pool lp ∧ Alph a ∧ 6 ≤ w ∧ w ≤ 12 ∧ 0 < L ∧ L ≤ 8 ∧ r ≤ 100) ?_ ?_
  · by_cases hk1 : (k : Int) = 1
    · simp -implicitDefEqProofs only [bind_bind, ok_bind, dOnly_ok, callC_0, callC_1, callC_2, callC_3, callC_n, putC_0, putC_1, putC_2, putC_3, putC_n, unl_l, unn_n, finE_rt, finN_rt, finN_nx, upC_rt, upC_bk, upC_ct, dnC_nx, dnC_rt, seqC_nx, seqC_rt, seqC_bk, seqC_ct, dropC_0, dropC_1, dropC_2, dropC_3, cellL_0, cellL_1, cellL_2, cellL_3, cellL_4, cellL_5, EI, if_true, if_false, Bool.false_eq_true, decide_true, decide_false, Bool.not_true, Bool.not_false, S_nil, reduceIte, List.map_cons, List.map_nil, List.tail_cons, IS, decide_eq_true hk1, APs, CCs]
      refine Ok.bind (alphabet_Ok h6) ?_
      rintro _ ⟨a, l7, rfl, hb1, hb2, hb3, h7⟩
      simp -implicitDefEqProofs only [bind_bind, ok_bind, dOnly_ok, callC_0, callC_1, callC_2, callC_3, callC_n, putC_0, putC_1, putC_2, putC_3, putC_n, unl_l, unn_n, finE_rt, finN_rt, finN_nx, upC_rt, upC_bk, upC_ct, dnC_nx, dnC_rt, seqC_nx, seqC_rt, seqC_bk, seqC_ct, dropC_0, dropC_1, dropC_2, dropC_3, cellL_0, cellL_1, cellL_2, cellL_3, cellL_4, cellL_5, EI, if_true, if_false, Bool.false_eq_true, decide_true, decide_false, Bool.not_true, Bool.not_false, S_nil, reduceIte, List.map_cons, List.map_nil, List.tail_cons, IS, APs, CCs]
      exact ⟨_, rfl, 100, 12, 8, a, l7, rfl, h7, ⟨hb1, hb2, hb3⟩, by decide, by decide, by decide, by decide, by decide⟩
    · simp -implicitDefEqProofs only [bind_bind, ok_bind, dOnly_ok, callC_0, callC_1, callC_2, callC_3, callC_n, putC_0, putC_1, putC_2, putC_3, putC_n, unl_l, unn_n, finE_rt, finN_rt, finN_nx, upC_rt, upC_bk, upC_ct, dnC_nx, dnC_rt, seqC_nx, seqC_rt, seqC_bk, seqC_ct, dropC_0, dropC_1, dropC_2, dropC_3, cellL_0, cellL_1, cellL_2, cellL_3, cellL_4, cellL_5, EI, if_true, if_false, Bool.false_eq_true, decide_true, decide_false, Bool.not_true, Bool.not_false, S_nil, reduceIte, List.map_cons, List.map_nil, List.tail_cons, IS, decide_eq_false hk1, APs, CCs]
      exact ⟨_, rfl, 40, 9, 5, a0, l6, rfl, h6, ⟨ha1, ha2, ha3⟩, by decide, by decide, by decide, by decide, by decide⟩
  rintro _ ⟨r, w, L, a, lp, rfl, hp, hal, hw6, hw, hL0, hL, hr⟩
  simp -implicitDefEqProofs only [bind_bind, ok_bind, dOnly_ok, callC_0, callC_1, callC_2, callC_3, callC_n, putC_0, putC_1, putC_2, putC_3, putC_n, unl_l, unn_n, finE_rt, finN_rt, finN_nx, upC_rt, upC_bk, upC_ct, dnC_nx, dnC_rt, seqC_nx, seqC_rt, seqC_bk, seqC_ct, dropC_0, dropC_1, dropC_2, dropC_3, cellL_0, cellL_1, cellL_2, cellL_3, cellL_4, cellL_5, EI, if_true, if_false, Bool.false_eq_true, decide_true, decide_false, Bool.not_true, Bool.not_false, S_nil, reduceIte, List.map_cons, List.map_nil, List.tail_cons, IS, APs, CCs, form_0]
  have hs0 := hF.slots
  have hs1 := hs0.few
  refine Ok.bind (pieces_all (a := a) (w := w) (us := us) hal (by omega) L 40 hL0 (by omega) F F.slots 0 r lp hp hF ⟨fun s m => ⟨(hs0.menu s m).1.ne, (hs0.menu s m).2⟩, by omega, by omega, by omega, hL0⟩) ?_
  rintro _ ⟨p, hi, r', l7, rfl, op, h7⟩
  have hcnt := op.cnt
  have hdep := op.dep
  have hS : p.AllS Tx := op.fit.txs (fun t h => hal.tx.sub h.2.2) (fun t h => hal.tx.sub h.2) (fun t h => hus t h) hF hs0.tx op.all
  have hA1 : p.AllT Len1 Len Any := AllT.imp (fun t h => ⟨h.1, Nat.le_trans h.2.1 (by omega)⟩) (fun t h => (Nat.le_trans h.1 (by omega) : t.length ≤ 1000)) (fun _ _ => trivial) op.all
  have hA : p.AllT Len Len Any := AllT.imp (fun t h => h.2) (fun t h => h) (fun _ h => h) hA1
  have hlt : p.ltrs ≤ 12 * p.cnt := ltrs_le (w := 12) (U := Any) (by decide) (AllT.imp (fun t h => Nat.le_trans h.2.1 hw) (fun t h => Nat.le_trans h.1 hw) (fun _ _ => trivial) op.all)
  have hgood : GoodT 40 (.tuple p.pcsD) := ⟨by have := pcsD_len p; omega, fun x hx => goodT_pcs (n := 39) hS (by omega) (by omega) x hx⟩
  have hsame := same_ok 40 _ hgood
  have hst := (Pcs.stl_same p op.tt).1
  simp -implicitDefEqProofs only [bind_bind, ok_bind, dOnly_ok, callC_0, callC_1, callC_2, callC_3, callC_n, putC_0, putC_1, putC_2, putC_3, putC_n, unl_l, unn_n, finE_rt, finN_rt, finN_nx, upC_rt, upC_bk, upC_ct, dnC_nx, dnC_rt, seqC_nx, seqC_rt, seqC_bk, seqC_ct, dropC_0, dropC_1, dropC_2, dropC_3, cellL_0, cellL_1, cellL_2, cellL_3, cellL_4, cellL_5, EI, if_true, if_false, Bool.false_eq_true, decide_true, decide_false, Bool.not_true, Bool.not_false, S_nil, reduceIte, List.map_cons, List.map_nil, List.tail_cons, IS, APs, CCs]
  refine Ok.bind (loosened_Ok 40 p l2 h2 (by omega) (by omega) hA1) ?_
  rintro _ ⟨q, l8, rfl, lo, h8⟩
  have q1 := lo.dep
  have q2 := lo.cnt
  have q3 := lo.ltrs
  have e5 := settle_ok 40 q (by omega) (by omega) (by omega)
  have e6 := settle_ok 40 p (by omega) (by omega) (by omega)
  rw [lo.s none, hst] at e5
  rw [hst] at e6
  simp -implicitDefEqProofs only [bind_bind, ok_bind, dOnly_ok, callC_0, callC_1, callC_2, callC_3, callC_n, putC_0, putC_1, putC_2, putC_3, putC_n, unl_l, unn_n, finE_rt, finN_rt, finN_nx, upC_rt, upC_bk, upC_ct, dnC_nx, dnC_rt, seqC_nx, seqC_rt, seqC_bk, seqC_ct, dropC_0, dropC_1, dropC_2, dropC_3, cellL_0, cellL_1, cellL_2, cellL_3, cellL_4, cellL_5, EI, if_true, if_false, Bool.false_eq_true, decide_true, decide_false, Bool.not_true, Bool.not_false, S_nil, reduceIte, List.map_cons, List.map_nil, List.tail_cons, IS, APs, CCs, sizes_ok (p := p) (by omega) hA, sizes_ok (p := q) (by omega) lo.all, e5, e6, hsame, made_ok2 40 p (by omega) (by omega) (by omega) hS]
  exact .ret rfl
end Dd
set_option Elab.async false
set_option linter.all false
set_option maxRecDepth 100000
set_option maxHeartbeats 4000000
namespace Dd
open PySem PySem.Spec PyProof.Rows L2
def topS (i : Nat) : Stmt := PySem.Challenge.pw_pagemold_k09_measure_pieces.main.body.getD i (.Pass ⟨0, 0, 0, 0⟩)
abbrev s__law_draw : Stmt := topS 13
abbrev n__law_draw : List Str := ["pool", "size", "rest", "mixed"]
theorem sc__law_draw : FnScope n__law_draw ["pool", "size"] (defScope s__law_draw) := ⟨rfl, rfl, rfl, by decide +kernel, rfl, by decide +kernel, by decide +kernel⟩
abbrev s__law_text : Stmt := topS 14
abbrev n__law_text : List Str := ["pool", "letters", "size", "k"]
theorem sc__law_text : FnScope n__law_text ["pool", "letters", "size"] (defScope s__law_text) := ⟨rfl, rfl, rfl, by decide +kernel, rfl, by decide +kernel, by decide +kernel⟩
abbrev s__law_menu : Stmt := topS 18
abbrev n__law_menu : List Str := ["pool", "limit", "words", "k", "text"]
theorem sc__law_menu : FnScope n__law_menu ["pool", "limit"] (defScope s__law_menu) := ⟨rfl, rfl, rfl, by decide +kernel, rfl, by decide +kernel, by decide +kernel⟩
abbrev s__law_label : Stmt := topS 17
abbrev n__law_label : List Str := ["pool", "taken", "letters", "base", "label", "k"]
theorem sc__law_label : FnScope n__law_label ["pool", "taken"] (defScope s__law_label) := ⟨rfl, rfl, rfl, by decide +kernel, rfl, by decide +kernel, by decide +kernel⟩
abbrev s__law_slots : Stmt := topS 19
abbrev n__law_slots : List Str := ["pool", "taken", "slots", "ways", "k", "menu"]
theorem sc__law_slots : FnScope n__law_slots ["pool", "taken"] (defScope s__law_slots) := ⟨rfl, rfl, rfl, by decide +kernel, rfl, by decide +kernel, by decide +kernel⟩
abbrev s__law_states : Stmt := topS 20
abbrev n__law_states : List Str := ["parents", "slots", "ways", "total", "k", "width", "slot"]
theorem sc__law_states : FnScope n__law_states ["parents", "slots"] (defScope s__law_states) := ⟨rfl, rfl, rfl, by decide +kernel, rfl, by decide +kernel, by decide +kernel⟩
abbrev s__law_shape : Stmt := topS 21
abbrev n__law_shape : List Str := ["pool", "limit", "taken", "labels", "slots", "parents", "levels", "k", "above", "shapes", "at", "lists", "parent", "j"]
theorem sc__law_shape : FnScope n__law_shape ["pool", "limit"] (defScope s__law_shape) := ⟨rfl, rfl, rfl, by decide +kernel, rfl, by decide +kernel, by decide +kernel⟩
abbrev s__law_pool : Stmt := topS 12
abbrev n__law_pool : List Str := ["script", "k", "cell"]
theorem sc__law_pool : FnScope n__law_pool ["script", "k"] (defScope s__law_pool) := ⟨rfl, rfl, rfl, by decide +kernel, rfl, by decide +kernel, by decide +kernel⟩
abbrev s__law_loosened : Stmt := topS 26
abbrev n__law_loosened : List Str := ["pool", "pieces", "loose", "piece", "cut", "rest"]
theorem sc__law_loosened : FnScope n__law_loosened ["pool", "pieces"] (defScope s__law_loosened) := ⟨rfl, rfl, rfl, by decide +kernel, rfl, by decide +kernel, by decide +kernel⟩
abbrev s__law_is_integer : Stmt := topS 22
abbrev n__law_is_integer : List Str := ["value"]
theorem sc__law_is_integer : FnScope n__law_is_integer ["value"] (defScope s__law_is_integer) := ⟨rfl, rfl, rfl, by decide +kernel, rfl, by decide +kernel, by decide +kernel⟩
abbrev s__law_same : Stmt := topS 23
abbrev n__law_same : List Str := ["told", "due", "k"]
theorem sc__law_same : FnScope n__law_same ["told", "due"] (defScope s__law_same) := ⟨rfl, rfl, rfl, by decide +kernel, rfl, by decide +kernel, by decide +kernel⟩
abbrev s__law_letters : Stmt := topS 15
abbrev n__law_letters : List Str := ["letters"]
theorem sc__law_letters : FnScope n__law_letters [] (defScope s__law_letters) := ⟨rfl, rfl, rfl, by decide +kernel, rfl, by decide +kernel, by decide +kernel⟩
abbrev s__law_alphabet : Stmt := topS 16
abbrev n__law_alphabet : List Str := ["pool", "letters"]
theorem sc__law_alphabet : FnScope n__law_alphabet ["pool"] (defScope s__law_alphabet) := ⟨rfl, rfl, rfl, by decide +kernel, rfl, by decide +kernel, by decide +kernel⟩
abbrev s__law_pieces : Stmt := topS 25
abbrev n__law_pieces : List Str := ["pool", "shape", "slots", "low", "room", "levels", "uses", "pieces", "k", "made"]
theorem sc__law_pieces : FnScope n__law_pieces ["pool", "shape", "slots", "low", "room", "levels", "uses"] (defScope s__law_pieces) := ⟨rfl, rfl, rfl, by decide +kernel, rfl, by decide +kernel, by decide +kernel⟩
abbrev s__law_piece : Stmt := topS 24
abbrev n__law_piece : List Str := ["pool", "shape", "slots", "low", "room", "levels", "uses", "turn", "slot", "chosen", "yes", "other", "at", "pair", "body", "gap", "size"]
theorem sc__law_piece : FnScope n__law_piece ["pool", "shape", "slots", "low", "room", "levels", "uses"] (defScope s__law_piece) := ⟨rfl, rfl, rfl, by decide +kernel, rfl, by decide +kernel, by decide +kernel⟩
abbrev s_text_piece : Stmt := topS 2
abbrev n_text_piece : List Str := ["word"]
theorem sc_text_piece : FnScope n_text_piece ["word"] (defScope s_text_piece) := ⟨rfl, rfl, rfl, by decide +kernel, rfl, by decide +kernel, by decide +kernel⟩
abbrev s_hole : Stmt := topS 3
abbrev n_hole : List Str := ["field"]
theorem sc_hole : FnScope n_hole ["field"] (defScope s_hole) := ⟨rfl, rfl, rfl, by decide +kernel, rfl, by decide +kernel, by decide +kernel⟩
abbrev s_use : Stmt := topS 6
abbrev n_use : List Str := ["part"]
theorem sc_use : FnScope n_use ["part"] (defScope s_use) := ⟨rfl, rfl, rfl, by decide +kernel, rfl, by decide +kernel, by decide +kernel⟩
abbrev s_choice : Stmt := topS 4
abbrev n_choice : List Str := ["field", "word", "yes", "otherwise"]
theorem sc_choice : FnScope n_choice ["field", "word", "yes", "otherwise"] (defScope s_choice) := ⟨rfl, rfl, rfl, by decide +kernel, rfl, by decide +kernel, by decide +kernel⟩
abbrev s_loop : Stmt := topS 5
abbrev n_loop : List Str := ["name", "body", "between"]
theorem sc_loop : FnScope n_loop ["name", "body", "between"] (defScope s_loop) := ⟨rfl, rfl, rfl, by decide +kernel, rfl, by decide +kernel, by decide +kernel⟩
abbrev s__law_made : Stmt := topS 28
abbrev n__law_made : List Str := ["pieces", "made", "piece"]
theorem sc__law_made : FnScope n__law_made ["pieces"] (defScope s__law_made) := ⟨rfl, rfl, rfl, by decide +kernel, rfl, by decide +kernel, by decide +kernel⟩
abbrev s__law_measured : Stmt := topS 27
abbrev n__law_measured : List Str := ["pieces", "total", "piece", "inner", "part", "below"]
theorem sc__law_measured : FnScope n__law_measured ["pieces"] (defScope s__law_measured) := ⟨rfl, rfl, rfl, by decide +kernel, rfl, by decide +kernel, by decide +kernel⟩
abbrev s_count_pieces : Stmt := topS 7
abbrev n_count_pieces : List Str := ["pieces", "count", "piece"]
theorem sc_count_pieces : FnScope n_count_pieces ["pieces"] (defScope s_count_pieces) := ⟨rfl, rfl, rfl, by decide +kernel, rfl, by decide +kernel, by decide +kernel⟩
abbrev s_depth_of : Stmt := topS 8
abbrev n_depth_of : List Str := ["pieces", "depth", "piece"]
theorem sc_depth_of : FnScope n_depth_of ["pieces"] (defScope s_depth_of) := ⟨rfl, rfl, rfl, by decide +kernel, rfl, by decide +kernel, by decide +kernel⟩
abbrev s_count_letters : Stmt := topS 9
abbrev n_count_letters : List Str := ["pieces", "letters", "piece"]
theorem sc_count_letters : FnScope n_count_letters ["pieces"] (defScope s_count_letters) := ⟨rfl, rfl, rfl, by decide +kernel, rfl, by decide +kernel, by decide +kernel⟩
abbrev s__law_sizes_meet : Stmt := topS 29
abbrev n__law_sizes_meet : List Str := ["pieces", "due", "told", "k"]
theorem sc__law_sizes_meet : FnScope n__law_sizes_meet ["pieces"] (defScope s__law_sizes_meet) := ⟨rfl, rfl, rfl, by decide +kernel, rfl, by decide +kernel, by decide +kernel⟩
abbrev s_settle : Stmt := topS 10
abbrev n_settle : List Str := ["pieces", "settled", "piece"]
theorem sc_settle : FnScope n_settle ["pieces"] (defScope s_settle) := ⟨rfl, rfl, rfl, by decide +kernel, rfl, by decide +kernel, by decide +kernel⟩
abbrev s_law : Stmt := topS 30
abbrev n_law : List Str := ["script", "shape", "pool", "uses", "room", "levels", "pieces", "loose", "k"]
theorem sc_law : FnScope n_law ["script"] (defScope s_law) := ⟨rfl, rfl, rfl, by decide +kernel, rfl, by decide +kernel, by decide +kernel⟩
structure Txt (K : PySem.W.Frag) (mg : Str → Option Value) where
  a__law_draw : Addr
  d__law_draw : FuncData
  F__law_draw : Fun K "_law_draw" "_law_draw" s__law_draw a__law_draw d__law_draw
  m__law_draw : mg "_law_draw" = some (.ref a__law_draw)
  a__law_text : Addr
  d__law_text : FuncData
  F__law_text : Fun K "_law_text" "_law_text" s__law_text a__law_text d__law_text
  m__law_text : mg "_law_text" = some (.ref a__law_text)
  a__law_menu : Addr
  d__law_menu : FuncData
  F__law_menu : Fun K "_law_menu" "_law_menu" s__law_menu a__law_menu d__law_menu
  m__law_menu : mg "_law_menu" = some (.ref a__law_menu)
  a__law_label : Addr
  d__law_label : FuncData
  F__law_label : Fun K "_law_label" "_law_label" s__law_label a__law_label d__law_label
  m__law_label : mg "_law_label" = some (.ref a__law_label)
  a__law_slots : Addr
  d__law_slots : FuncData
  F__law_slots : Fun K "_law_slots" "_law_slots" s__law_slots a__law_slots d__law_slots
  m__law_slots : mg "_law_slots" = some (.ref a__law_slots)
  a__law_states : Addr
  d__law_states : FuncData
  F__law_states : Fun K "_law_states" "_law_states" s__law_states a__law_states d__law_states
  m__law_states : mg "_law_states" = some (.ref a__law_states)
  a__law_shape : Addr
  d__law_shape : FuncData
  F__law_shape : Fun K "_law_shape" "_law_shape" s__law_shape a__law_shape d__law_shape
  m__law_shape : mg "_law_shape" = some (.ref a__law_shape)
  a__law_pool : Addr
  d__law_pool : FuncData
  F__law_pool : Fun K "_law_pool" "_law_pool" s__law_pool a__law_pool d__law_pool
  m__law_pool : mg "_law_pool" = some (.ref a__law_pool)
  a__law_loosened : Addr
  d__law_loosened : FuncData
  F__law_loosened : Fun K "_law_loosened" "_law_loosened" s__law_loosened a__law_loosened d__law_loosened
  m__law_loosened : mg "_law_loosened" = some (.ref a__law_loosened)
  a__law_is_integer : Addr
  d__law_is_integer : FuncData
  F__law_is_integer : Fun K "_law_is_integer" "_law_is_integer" s__law_is_integer a__law_is_integer d__law_is_integer
  m__law_is_integer : mg "_law_is_integer" = some (.ref a__law_is_integer)
  a__law_same : Addr
  d__law_same : FuncData
  F__law_same : Fun K "_law_same" "_law_same" s__law_same a__law_same d__law_same
  m__law_same : mg "_law_same" = some (.ref a__law_same)
  a__law_letters : Addr
  d__law_letters : FuncData
  F__law_letters : Fun K "_law_letters" "_law_letters" s__law_letters a__law_letters d__law_letters
  m__law_letters : mg "_law_letters" = some (.ref a__law_letters)
  a__law_alphabet : Addr
  d__law_alphabet : FuncData
  F__law_alphabet : Fun K "_law_alphabet" "_law_alphabet" s__law_alphabet a__law_alphabet d__law_alphabet
  m__law_alphabet : mg "_law_alphabet" = some (.ref a__law_alphabet)
  a__law_pieces : Addr
  d__law_pieces : FuncData
  F__law_pieces : Fun K "_law_pieces" "_law_pieces" s__law_pieces a__law_pieces d__law_pieces
  m__law_pieces : mg "_law_pieces" = some (.ref a__law_pieces)
  a__law_piece : Addr
  d__law_piece : FuncData
  F__law_piece : Fun K "_law_piece" "_law_piece" s__law_piece a__law_piece d__law_piece
  m__law_piece : mg "_law_piece" = some (.ref a__law_piece)
  a_text_piece : Addr
  d_text_piece : FuncData
  F_text_piece : Fun K "text_piece" "text_piece" s_text_piece a_text_piece d_text_piece
  m_text_piece : mg "text_piece" = some (.ref a_text_piece)
  a_hole : Addr
  d_hole : FuncData
  F_hole : Fun K "hole" "hole" s_hole a_hole d_hole
  m_hole : mg "hole" = some (.ref a_hole)
  a_use : Addr
  d_use : FuncData
  F_use : Fun K "use" "use" s_use a_use d_use
  m_use : mg "use" = some (.ref a_use)
  a_choice : Addr
  d_choice : FuncData
  w_choice : V
  Q_choice : FunD K "choice" "choice" (defArgs s_choice) (defBody s_choice) (defScope s_choice) [] [("otherwise", w_choice)] a_choice d_choice
  u_choice : Dp K (fun _ => none) w_choice (.tuple [])
  m_choice : mg "choice" = some (.ref a_choice)
  a_loop : Addr
  d_loop : FuncData
  w_loop : V
  Q_loop : FunD K "loop" "loop" (defArgs s_loop) (defBody s_loop) (defScope s_loop) [] [("between", w_loop)] a_loop d_loop
  u_loop : Dp K (fun _ => none) w_loop (.str "")
  m_loop : mg "loop" = some (.ref a_loop)
  a__law_made : Addr
  d__law_made : FuncData
  F__law_made : Fun K "_law_made" "_law_made" s__law_made a__law_made d__law_made
  m__law_made : mg "_law_made" = some (.ref a__law_made)
  a__law_measured : Addr
  d__law_measured : FuncData
  F__law_measured : Fun K "_law_measured" "_law_measured" s__law_measured a__law_measured d__law_measured
  m__law_measured : mg "_law_measured" = some (.ref a__law_measured)
  a_count_pieces : Addr
  d_count_pieces : FuncData
  F_count_pieces : Fun K "count_pieces" "count_pieces" s_count_pieces a_count_pieces d_count_pieces
  m_count_pieces : mg "count_pieces" = some (.ref a_count_pieces)
  a_depth_of : Addr
  d_depth_of : FuncData
  F_depth_of : Fun K "depth_of" "depth_of" s_depth_of a_depth_of d_depth_of
  m_depth_of : mg "depth_of" = some (.ref a_depth_of)
  a_count_letters : Addr
  d_count_letters : FuncData
  F_count_letters : Fun K "count_letters" "count_letters" s_count_letters a_count_letters d_count_letters
  m_count_letters : mg "count_letters" = some (.ref a_count_letters)
  a__law_sizes_meet : Addr
  d__law_sizes_meet : FuncData
  F__law_sizes_meet : Fun K "_law_sizes_meet" "_law_sizes_meet" s__law_sizes_meet a__law_sizes_meet d__law_sizes_meet
  m__law_sizes_meet : mg "_law_sizes_meet" = some (.ref a__law_sizes_meet)
  a_settle : Addr
  d_settle : FuncData
  F_settle : Fun K "settle" "settle" s_settle a_settle d_settle
  m_settle : mg "settle" = some (.ref a_settle)
  a_law : Addr
  d_law : FuncData
  F_law : Fun K "law" "law" s_law a_law d_law
  m_law : mg "law" = some (.ref a_law)
  z_bool : mg "bool" = none
  z_int : mg "int" = none
  z_isinstance : mg "isinstance" = none
  z_len : mg "len" = none
  z_max : mg "max" = none
  z_min : mg "min" = none
  z_range : mg "range" = none
  z_sorted : mg "sorted" = none
  z_str : mg "str" = none
  z_tuple : mg "tuple" = none
  v_HOLE_LETTERS : V
  u_HOLE_LETTERS : Value
  hm_HOLE_LETTERS : mg "HOLE_LETTERS" = some u_HOLE_LETTERS
  hr_HOLE_LETTERS : RelV v_HOLE_LETTERS u_HOLE_LETTERS
  hd_HOLE_LETTERS : Dp K (fun _ => none) v_HOLE_LETTERS c_HOLE_LETTERS
section
variable {P : Program} {w : World} {K : PySem.W.Frag} {mg : Str → Option Value} {base : Heap}
theorem b__law_draw (T : Txt K mg) : Binds K T.d__law_draw ["pool", "size"] [] := T.F__law_draw.binds (ps := ["pool", "size"]) fun _ _ _ _ _ _ us hl => match us, hl with | [_, _], _ => rfl
theorem b__law_text (T : Txt K mg) : Binds K T.d__law_text ["pool", "letters", "size"] [] := T.F__law_text.binds (ps := ["pool", "letters", "size"]) fun _ _ _ _ _ _ us hl => match us, hl with | [_, _, _], _ => rfl
theorem b__law_menu (T : Txt K mg) : Binds K T.d__law_menu ["pool", "limit"] [] := T.F__law_menu.binds (ps := ["pool", "limit"]) fun _ _ _ _ _ _ us hl => match us, hl with | [_, _], _ => rfl
theorem b__law_label (T : Txt K mg) : Binds K T.d__law_label ["pool", "taken"] [] := T.F__law_label.binds (ps := ["pool", "taken"]) fun _ _ _ _ _ _ us hl => match us, hl with | [_, _], _ => rfl
theorem b__law_slots (T : Txt K mg) : Binds K T.d__law_slots ["pool", "taken"] [] := T.F__law_slots.binds (ps := ["pool", "taken"]) fun _ _ _ _ _ _ us hl => match us, hl with | [_, _], _ => rfl
theorem b__law_states (T : Txt K mg) : Binds K T.d__law_states ["parents", "slots"] [] := T.F__law_states.binds (ps := ["parents", "slots"]) fun _ _ _ _ _ _ us hl => match us, hl with | [_, _], _ => rfl
theorem b__law_shape (T : Txt K mg) : Binds K T.d__law_shape ["pool", "limit"] [] := T.F__law_shape.binds (ps := ["pool", "limit"]) fun _ _ _ _ _ _ us hl => match us, hl with | [_, _], _ => rfl
theorem b__law_pool (T : Txt K mg) : Binds K T.d__law_pool ["script", "k"] [] := T.F__law_pool.binds (ps := ["script", "k"]) fun _ _ _ _ _ _ us hl => match us, hl with | [_, _], _ => rfl
theorem b__law_loosened (T : Txt K mg) : Binds K T.d__law_loosened ["pool", "pieces"] [] := T.F__law_loosened.binds (ps := ["pool", "pieces"]) fun _ _ _ _ _ _ us hl => match us, hl with | [_, _], _ => rfl
theorem b__law_is_integer (T : Txt K mg) : Binds K T.d__law_is_integer ["value"] [] := T.F__law_is_integer.binds (ps := ["value"]) fun _ _ _ _ _ _ us hl => match us, hl with | [_], _ => rfl
theorem b__law_same (T : Txt K mg) : Binds K T.d__law_same ["told", "due"] [] := T.F__law_same.binds (ps := ["told", "due"]) fun _ _ _ _ _ _ us hl => match us, hl with | [_, _], _ => rfl
theorem b__law_letters (T : Txt K mg) : Binds K T.d__law_letters [] [] := T.F__law_letters.binds (ps := []) fun _ _ _ _ _ _ us hl => match us, hl with | [], _ => rfl
theorem b__law_alphabet (T : Txt K mg) : Binds K T.d__law_alphabet ["pool"] [] := T.F__law_alphabet.binds (ps := ["pool"]) fun _ _ _ _ _ _ us hl => match us, hl with | [_], _ => rfl
theorem b__law_pieces (T : Txt K mg) : Binds K T.d__law_pieces ["pool", "shape", "slots", "low", "room", "levels", "uses"] [] := T.F__law_pieces.binds (ps := ["pool", "shape", "slots", "low", "room", "levels", "uses"]) fun _ _ _ _ _ _ us hl => match us, hl with | [_, _, _, _, _, _, _], _ => rfl
theorem b__law_piece (T : Txt K mg) : Binds K T.d__law_piece ["pool", "shape", "slots", "low", "room", "levels", "uses"] [] := T.F__law_piece.binds (ps := ["pool", "shape", "slots", "low", "room", "levels", "uses"]) fun _ _ _ _ _ _ us hl => match us, hl with | [_, _, _, _, _, _, _], _ => rfl
theorem b_text_piece (T : Txt K mg) : Binds K T.d_text_piece ["word"] [] := T.F_text_piece.binds (ps := ["word"]) fun _ _ _ _ _ _ us hl => match us, hl with | [_], _ => rfl
theorem b_hole (T : Txt K mg) : Binds K T.d_hole ["field"] [] := T.F_hole.binds (ps := ["field"]) fun _ _ _ _ _ _ us hl => match us, hl with | [_], _ => rfl
theorem b_use (T : Txt K mg) : Binds K T.d_use ["part"] [] := T.F_use.binds (ps := ["part"]) fun _ _ _ _ _ _ us hl => match us, hl with | [_], _ => rfl
theorem Txt.F_choice (T : Txt K mg) : Fun K "choice" "choice" s_choice T.a_choice T.d_choice := funD_fun T.Q_choice
theorem bd_choice (T : Txt K mg) : ∃ us, Vals [T.w_choice] us ∧ Binds K T.d_choice ["field", "word", "yes", "otherwise"] us := T.Q_choice.binds0 (ps := ["field", "word", "yes", "otherwise"]) 3 (by simp) rfl fun D doc pm an cdv ct us ks h1 h2 => match us, h1, ks, h2 with | [_, _, _], _, [_], _ => ⟨_, _, _, _, _, _, rfl, rfl, rfl⟩
theorem bq_choice (T : Txt K mg) : KBn K T.d_choice ["field", "word", "yes", "otherwise"] 3 ["otherwise"] (fun us ws => us ++ ws) (fun vs zs => vs ++ zs) := by
  obtain ⟨mv, h⟩ := T.Q_choice.kbinds0 (ps := ["field", "word", "yes", "otherwise"]) 3 ["otherwise"] [] (fun us _ ws => us ++ ws) (by simp) (fun _ h => by cases h) (fun a _ c => a.append c) fun D doc pm an cdv ct us mv ws h1 h2 h3 => match us, h1, mv, h2, ws, h3 with | [_, _, _], _, [], _, [_], _ => rfl
  exact h
theorem Txt.F_loop (T : Txt K mg) : Fun K "loop" "loop" s_loop T.a_loop T.d_loop := funD_fun T.Q_loop
theorem bd_loop (T : Txt K mg) : ∃ us, Vals [T.w_loop] us ∧ Binds K T.d_loop ["name", "body", "between"] us := T.Q_loop.binds0 (ps := ["name", "body", "between"]) 2 (by simp) rfl fun D doc pm an cdv ct us ks h1 h2 => match us, h1, ks, h2 with | [_, _], _, [_], _ => ⟨_, _, _, _, _, _, rfl, rfl, rfl⟩
theorem bq_loop (T : Txt K mg) : KBn K T.d_loop ["name", "body", "between"] 2 ["between"] (fun us ws => us ++ ws) (fun vs zs => vs ++ zs) := by
  obtain ⟨mv, h⟩ := T.Q_loop.kbinds0 (ps := ["name", "body", "between"]) 2 ["between"] [] (fun us _ ws => us ++ ws) (by simp) (fun _ h => by cases h) (fun a _ c => a.append c) fun D doc pm an cdv ct us mv ws h1 h2 h3 => match us, h1, mv, h2, ws, h3 with | [_, _], _, [], _, [_], _ => rfl
  exact h
theorem b__law_made (T : Txt K mg) : Binds K T.d__law_made ["pieces"] [] := T.F__law_made.binds (ps := ["pieces"]) fun _ _ _ _ _ _ us hl => match us, hl with | [_], _ => rfl
theorem b__law_measured (T : Txt K mg) : Binds K T.d__law_measured ["pieces"] [] := T.F__law_measured.binds (ps := ["pieces"]) fun _ _ _ _ _ _ us hl => match us, hl with | [_], _ => rfl
theorem b_count_pieces (T : Txt K mg) : Binds K T.d_count_pieces ["pieces"] [] := T.F_count_pieces.binds (ps := ["pieces"]) fun _ _ _ _ _ _ us hl => match us, hl with | [_], _ => rfl
theorem b_depth_of (T : Txt K mg) : Binds K T.d_depth_of ["pieces"] [] := T.F_depth_of.binds (ps := ["pieces"]) fun _ _ _ _ _ _ us hl => match us, hl with | [_], _ => rfl
theorem b_count_letters (T : Txt K mg) : Binds K T.d_count_letters ["pieces"] [] := T.F_count_letters.binds (ps := ["pieces"]) fun _ _ _ _ _ _ us hl => match us, hl with | [_], _ => rfl
theorem b__law_sizes_meet (T : Txt K mg) : Binds K T.d__law_sizes_meet ["pieces"] [] := T.F__law_sizes_meet.binds (ps := ["pieces"]) fun _ _ _ _ _ _ us hl => match us, hl with | [_], _ => rfl
theorem b_settle (T : Txt K mg) : Binds K T.d_settle ["pieces"] [] := T.F_settle.binds (ps := ["pieces"]) fun _ _ _ _ _ _ us hl => match us, hl with | [_], _ => rfl
theorem b_law (T : Txt K mg) : Binds K T.d_law ["script"] [] := T.F_law.binds (ps := ["script"]) fun _ _ _ _ _ _ us hl => match us, hl with | [_], _ => rfl
theorem ok__law_draw (T : Txt K mg) : FnOk P w K mg base CX0 1 T.a__law_draw T.d__law_draw ["pool", "size"] (prm K mg [.c, .d] (RD K) m__law_draw) := by
  refine fnE (k := 0) T.F__law_draw sc__law_draw rfl (by decide) fun cdv A outer s H E hr => fun a_pool l_pool x_size => ⟨_, (ss_ifE (tp_cmp o_ge (EP.s (ed_ix (es_cell 0 0) (EP.s ed_int))) (EP.s (ep_op o_pow (EP.s ed_int) (EP.s ed_int)))) (ss_asg 2 sc__law_draw.nd (ep_op o_sub (EP.s (ed_ix (es_cell 0 0) (EP.s ed_int))) (EP.s (ep_op o_pow (EP.s ed_int) (EP.s ed_int)))) (fun v9 => (ss_setP 0 0 (ep_op o_add (EP.s (ep_op o_pow (EP.s ed_int) (EP.s ed_int))) (EP.s (ep_op o_fdiv (EP.s (ed_var 2)) (EP.s (ed_var 1))))) ed_int (fun l18 => (ss_ret (mk := fun t29 => (t29, [CO.l l18])) (ep_op o_mod (EP.s (ep_callTy c_int T.z_int (EP.s (ed_var 2)))) (EP.s (ed_var 1))) (fun _ => .refl) (fun _ _ _ _ _ _ t r => back_d _ _ _ _ _ _ t r)))))) (ss_setP 0 0 (ep_op o_add (EP.s (ed_ix (es_cell 0 0) (EP.s ed_int))) (EP.s ed_int)) ed_int (fun l32 => (ss_asg 3 sc__law_draw.nd (ep_op o_mod (EP.s (ep_callTy c_int T.z_int (EP.s (ep_op o_add (EP.s (ep_op o_mul (EP.s (ed_ix (es_cell 0 0) (EP.s ed_int))) (EP.s ed_int))) (EP.s (ep_op o_mul (EP.s (ed_ix (es_cell 0 0) (EP.s ed_int))) (EP.s ed_int))))))) (EP.s ed_int)) (fun v37 => (ss_asg 3 sc__law_draw.nd (ep_op o_mod (EP.s (ep_callTy c_int T.z_int (EP.s (ep_op o_add (EP.s (ep_op o_mul (EP.s (ed_var 3)) (EP.s (ed_var 3)))) (EP.s (ep_op o_mul (EP.s (ed_ix (es_cell 0 0) (EP.s ed_int))) (EP.s ed_int))))))) (EP.s ed_int)) (fun v51 => (ss_asg 3 sc__law_draw.nd (ep_op o_mod (EP.s (ep_callTy c_int T.z_int (EP.s (ep_op o_add (EP.s (ep_op o_mul (EP.s (ed_var 3)) (EP.s (ed_var 3)))) (EP.s (ed_ix (es_cell 0 0) (EP.s ed_int))))))) (EP.s ed_int)) (fun v63 => (ss_ret (mk := fun t79 => (t79, [CO.l l32])) (ep_op o_mod (EP.s (ep_callTy c_int T.z_int (EP.s (ep_op o_fdiv (EP.s (ed_var 3)) (EP.s ed_int))))) (EP.s (ed_var 1))) (fun _ => .refl) (fun _ _ _ _ _ _ t r => back_d _ _ _ _ _ _ t r))))))))))), ?_⟩
  rfl
theorem ok__law_text (T : Txt K mg) : FnOk P w K mg base CX0 2 T.a__law_text T.d__law_text ["pool", "letters", "size"] (prm K mg [.c, .d, .d] (RD K) m__law_text) := by
  refine fnE (k := 1) T.F__law_text sc__law_text rfl (by decide) fun cdv A outer s H E hr => fun a_pool l_pool x_letters x_size => ⟨_, (ss_retX (mk := fun d cs => (d, cs)) (xd_join (EP.x (EP.s ed_str)) (ex_ul (f := fun cs => cs) fun p3 => (ex_un (f := fun cs => CO.l p3 :: cs) (EX.s (EX.l (xl_lc (own := [("k", 3)]) rfl sc__law_text.nd (blkOk_by (own := [("k", 3)]) (N := n__law_text) (sc := defScope s__law_text) (by decide +kernel)) (lc_ofX (un := Out.ok) (ρf := fun k6 => [some (.c a_pool), some (.d x_letters), some (.d x_size), some (.d k6)]) (IX.x (ix_range1 T.z_range (ed_var 2))) (fun _ _ _ _ _ => tg_name 3 sc__law_text.nd) (fun _ => rfl) (fun _ _ _ _ _ k6 => (fun _ => tsx_nil)) (fun _ _ _ _ _ k6 => (ex_ul (f := fun cs => cs) fun p7 => (ex_un (f := fun cs => CO.l p7 :: cs) (ex_ix (EP.x (ed_var 1)) (ex_ul (f := fun cs => cs) fun p9 => (ex_un (f := fun cs => CO.l p9 :: cs) (EX.s (ex_call (js := [0]) (ok__law_draw T) back_d (hr.mono (by omega)) T.m__law_draw T.F__law_draw.kp (b__law_draw T) passN (gx_c 0 0 (gx_d (ep_callB c_len T.z_len (EP.s (ed_var 1))) gx_nil)))))))))) (fun _ _ _ => trivial)))))))) (fun _ _ => .refl) (fun _ _ _ _ _ _ _ t r => back_d _ _ _ _ _ _ t r)), ?_⟩
  rfl
theorem ok__law_menu (T : Txt K mg) : FnOk P w K mg base CX0 3 T.a__law_menu T.d__law_menu ["pool", "limit"] (prm K mg [.c, .d] (RD K) m__law_menu) := by
  refine fnE (k := 2) T.F__law_menu sc__law_menu rfl (by decide) fun cdv A outer s H E hr => fun a_pool l_pool x_limit => ⟨_, (ss_asgC 2 sc__law_menu.nd (el_lst ap_nil) (fun a1 l2 nm_a1 => (ss_seqN (fun (n : List CO) (as3 : As) => [some (.c a_pool), some (.d x_limit), some (.c a1), none, none]) (fun (as3 : As) => [a1, a_pool]) (fun (n : List CO) => n) (s1_forXN (fun (n : List CO) (as3 : As) => [some (.c a_pool), some (.d x_limit), some (.c a1), none, none]) (fun (as3 : As) => [a1, a_pool]) (fun (n : List CO) => n) (un := Out.ok) (ρf := fun (n5 : List CO) (as3 : As) (k4 : PD) => [some (.c a_pool), some (.d x_limit), some (.c a1), some (.d k4), none]) (asOf []) (fun cs1 => (cs1)) rfl (PassesOwn.never) (ix_range1X T.z_range (ex_op o_add (EP.x ed_int) (ex_ul (f := fun cs => cs) fun p46 => (ex_ul (f := fun cs => CO.l p46 :: cs) fun p47 => (ex_un (f := fun cs => CO.l p46 :: CO.l p47 :: cs) (EX.s (ex_call (js := [1]) (ok__law_draw T) back_d (hr.mono (by omega)) T.m__law_draw T.F__law_draw.kp (b__law_draw T) passN (gx_c 0 1 (gx_d (ed_var 1) gx_nil))))))))) (tg_name 3 sc__law_menu.nd) (fun _ => .refl) (fun _ => (.keep (.keep (.keep (.keep (.keep .nil)))))) (fun _ _ _ => rfl) (fun _ _ _ h => nomatch h) (fun _ _ _ _ _ _ _ _ => trivial) (fun k4 n5 as3 => (ss_at (f := fun cs => cs) (cs := n5) (ss_ul (f := fun cs => cs) fun p9 => (ss_ul (f := fun cs => CO.l p9 :: cs) fun p10 => (ss_un (f := fun cs => CO.l p9 :: CO.l p10 :: cs) (ss_asgX 4 sc__law_menu.nd (ex_call (js := [1]) (ok__law_text T) back_d (hr.mono (by omega)) T.m__law_text T.F__law_text.kp (b__law_text T) passN (gx_c 0 1 (gx_d ed_str (gx_x (ex_call (js := [1]) (ok__law_draw T) back_d (hr.mono (by omega)) T.m__law_draw T.F__law_draw.kp (b__law_draw T) passN (gx_c 0 1 (gx_d ed_int gx_nil))) (gx_ul (f := fun cs => cs) fun p25 => (gx_ul (f := fun cs => CO.l p25 :: cs) fun p26 => (gx_un (f := fun cs => CO.l p25 :: CO.l p26 :: cs) gx_nil))))))) (fun v11 => (ss_ul (f := fun cs => cs) fun p27 => (ss_ul (f := fun cs => CO.l p27 :: cs) fun p28 => (ss_un (f := fun cs => CO.l p27 :: CO.l p28 :: cs) (ss_one (s1_if (tp_cmp (o_notIn (hu65 hr)) (EP.s (ed_var 4)) (es_cell 2 0)) (ss_appP 2 0 (ed_var 4) (fun l34 => (ss_nil (n := ([CO.l l34, CO.l p28])) (asOf []) rfl .refl (.keep (.keep (.keep (.drop (.drop .nil)))))))) (ss_nil (n := ([CO.l p27, CO.l p28])) (asOf []) rfl .refl (.keep (.keep (.keep (.drop (.drop .nil))))))))))))))))))) (fun n35 as3 => (ss_at (f := fun cs => cs) (cs := n35) (ss_ul (f := fun cs => cs) fun p36 => (ss_ul (f := fun cs => CO.l p36 :: cs) fun p37 => (ss_un (f := fun cs => CO.l p36 :: CO.l p37 :: cs) (ss_ret (mk := fun t43 => (t43, [CO.l p37])) (ep_callTy c_tuple T.z_tuple (EP.s (EP.l (ep_callB c_sorted T.z_sorted (es_cell 2 0))))) (fun _ => (.drop .refl)) (fun _ _ _ _ _ _ t r => back_d _ _ _ _ _ _ t r)))))))))), ?_⟩
  rfl
theorem ok__law_label (T : Txt K mg) : FnOk P w K mg base CX0 3 T.a__law_label T.d__law_label ["pool", "taken"] (prm K mg [.c, .c] (RD K) m__law_label) := by
  refine fnE (k := 2) T.F__law_label sc__law_label rfl (by decide) fun cdv A outer s H E hr => fun a_pool l_pool a_taken l_taken => ⟨_, (ss_asg 2 sc__law_label.nd ed_str (fun v1 => (ss_asgX 3 sc__law_label.nd (ex_call (js := [0]) (ok__law_text T) back_d (hr.mono (by omega)) T.m__law_text T.F__law_text.kp (b__law_text T) passN (gx_c 0 0 (gx_d (ed_var 2) (gx_x (ex_op o_add (EP.x ed_int) (ex_ul (f := fun cs => cs) fun p12 => (ex_ul (f := fun cs => CO.l p12 :: cs) fun p13 => (ex_un (f := fun cs => CO.l p12 :: CO.l p13 :: cs) (EX.s (ex_call (js := [0]) (ok__law_draw T) back_d (hr.mono (by omega)) T.m__law_draw T.F__law_draw.kp (b__law_draw T) passN (gx_c 0 0 (gx_d ed_int gx_nil)))))))) (gx_ul (f := fun cs => cs) fun p22 => (gx_ul (f := fun cs => CO.l p22 :: cs) fun p23 => (gx_un (f := fun cs => CO.l p22 :: CO.l p23 :: cs) gx_nil))))))) (fun v2 => (ss_ul (f := fun cs => cs) fun p24 => (ss_ul (f := fun cs => CO.l p24 :: cs) fun p25 => (ss_un (f := fun cs => CO.l p24 :: CO.l p25 :: cs) (ss_asg 4 sc__law_label.nd (ed_var 3) (fun v26 => (ss_seqN (fun (n : PD) (as27 : As) => [some (.c a_pool), some (.c a_taken), some (.d v1), some (.d v2), some (.d n), none]) (fun (as27 : As) => [a_pool, a_taken]) (fun (n : PD) => [CO.l p24, CO.l p25]) (s1_forN (fun (n : PD) (as27 : As) => [some (.c a_pool), some (.c a_taken), some (.d v1), some (.d v2), some (.d n), none]) (fun (as27 : As) => [a_pool, a_taken]) (fun (n : PD) => [CO.l p24, CO.l p25]) (un := Out.ok) (ρf := fun (n29 : PD) (as27 : As) (k28 : PD) => [some (.c a_pool), some (.c a_taken), some (.d v1), some (.d v2), some (.d n29), some (.d k28)]) (asOf []) (v26) rfl (PassesOwn.never) (ix_range1 T.z_range ed_int) (tg_name 5 sc__law_label.nd) .refl (.keep (.keep (.keep (.keep (.keep (.keep .nil)))))) (fun _ _ _ => rfl) (fun _ _ _ h => nomatch h) (fun _ _ _ _ _ _ _ => trivial) (fun k28 n29 as27 => (ss_seqN (fun (n : PD) (as35 : As) => [some (.c a_pool), some (.c a_taken), some (.d v1), some (.d v2), some (.d n), some (.d k28)]) (fun (as35 : As) => [a_pool, a_taken]) (fun (n : PD) => [CO.l p24, CO.l p25]) (s1_if (tp_cmp o_gt (EP.s (ed_var 5)) (EP.s ed_int)) (ss_asg 4 sc__law_label.nd (ep_op o_add (EP.s (ep_op o_add (EP.s (ed_slice (EP.s (ed_var 3)) op_no (op_yes (EP.s ed_int)))) (EP.s (ed_ix (EP.s (ed_var 2)) (EP.s (ep_op o_fdiv (EP.s (ed_var 5)) (EP.s ed_int))))))) (EP.s (ed_ix (EP.s (ed_var 2)) (EP.s (ep_op o_mod (EP.s (ep_callTy c_int T.z_int (EP.s (ed_var 5)))) (EP.s ed_int)))))) (fun v38 => (ss_nil (n := (v38)) (asOf []) rfl .refl (.keep (.keep (.keep (.keep (.keep (.keep .nil))))))))) (ss_nil (n := (n29)) (asOf []) rfl .refl (.keep (.keep (.keep (.keep (.keep (.keep .nil)))))))) (fun n56 as35 => (ss_ifE (tp_cmp (o_notIn (hu65 hr)) (EP.s (ed_var 4)) (es_cell 1 1)) (ss_brk (n := (n56)) (asOf []) rfl .refl (.keep (.keep (.keep (.keep (.keep (.drop .nil))))))) (ss_nil (n := (n56)) (asOf []) rfl .refl (.keep (.keep (.keep (.keep (.keep (.drop .nil)))))))))))) (fun n61 as27 => (ss_appP 1 1 (ed_var 4) (fun l63 => (ss_ret (mk := fun t65 => (t65, [CO.l p24, CO.l l63])) (ed_var 4) (fun _ => .refl) (fun _ _ _ _ _ _ t r => back_d _ _ _ _ _ _ t r))))))))))))))), ?_⟩
  rfl
theorem ok__law_slots (T : Txt K mg) : FnOk P w K mg base CX0 4 T.a__law_slots T.d__law_slots ["pool", "taken"] (prm K mg [.c, .c] (RD K) m__law_slots) := by
  refine fnE (k := 3) T.F__law_slots sc__law_slots rfl (by decide) fun cdv A outer s H E hr => fun a_pool l_pool a_taken l_taken => ⟨_, (ss_asgC 2 sc__law_slots.nd (el_lst ap_nil) (fun a1 l2 nm_a1 => (ss_asg 3 sc__law_slots.nd ed_int (fun v3 => (ss_seqN (fun (n : PD × List CO) (as4 : As) => [some (.c a_pool), some (.c a_taken), some (.c a1), some (.d n.1), none, none]) (fun (as4 : As) => [a1, a_pool, a_taken]) (fun (n : PD × List CO) => n.2) (s1_forXN (fun (n : PD × List CO) (as4 : As) => [some (.c a_pool), some (.c a_taken), some (.c a1), some (.d n.1), none, none]) (fun (as4 : As) => [a1, a_pool, a_taken]) (fun (n : PD × List CO) => n.2) (un := Out.ok) (ρf := fun (n6 : PD × List CO) (as4 : As) (k5 : PD) => [some (.c a_pool), some (.c a_taken), some (.c a1), some (.d n6.1), some (.d k5), none]) (asOf []) (fun cs1 => (v3, cs1)) rfl (PassesOwn.never) (ix_range1X T.z_range (ex_ix (EP.x (EP.l (el_lst (ap_cons ed_int (ap_cons ed_int (ap_cons ed_int (ap_cons ed_int (ap_cons ed_int (ap_cons ed_int (ap_cons ed_int (ap_cons ed_int ap_nil))))))))))) (ex_ul (f := fun cs => cs) fun p95 => (ex_ul (f := fun cs => CO.l p95 :: cs) fun p96 => (ex_ul (f := fun cs => CO.l p95 :: CO.l p96 :: cs) fun p97 => (ex_un (f := fun cs => CO.l p95 :: CO.l p96 :: CO.l p97 :: cs) (EX.s (ex_call (js := [1]) (ok__law_draw T) back_d (hr.mono (by omega)) T.m__law_draw T.F__law_draw.kp (b__law_draw T) passN (gx_c 0 1 (gx_d ed_int gx_nil)))))))))) (tg_name 4 sc__law_slots.nd) (fun _ => .refl) (fun _ => (.keep (.keep (.keep (.keep (.keep (.keep .nil))))))) (fun _ _ _ => rfl) (fun _ _ _ h => nomatch h) (fun _ _ _ _ _ _ _ _ => trivial) (fun k5 n6 as4 => (ss_at (f := fun cs => cs) (cs := n6.2) (ss_ul (f := fun cs => cs) fun p10 => (ss_ul (f := fun cs => CO.l p10 :: cs) fun p11 => (ss_ul (f := fun cs => CO.l p10 :: CO.l p11 :: cs) fun p12 => (ss_un (f := fun cs => CO.l p10 :: CO.l p11 :: CO.l p12 :: cs) (ss_asgX 5 sc__law_slots.nd (ex_call (js := [1]) (ok__law_menu T) back_d (hr.mono (by omega)) T.m__law_menu T.F__law_menu.kp (b__law_menu T) passN (gx_c 0 1 (gx_x (ex_op o_add (EP.x ed_int) (ex_ul (f := fun cs => cs) fun p21 => (ex_ul (f := fun cs => CO.l p21 :: cs) fun p22 => (ex_ul (f := fun cs => CO.l p21 :: CO.l p22 :: cs) fun p23 => (ex_un (f := fun cs => CO.l p21 :: CO.l p22 :: CO.l p23 :: cs) (EX.s (ex_call (js := [1]) (ok__law_draw T) back_d (hr.mono (by omega)) T.m__law_draw T.F__law_draw.kp (b__law_draw T) passN (gx_c 0 1 (gx_d (ep_callA (c_min2 rfl) T.z_min (ap_cons ed_int (ap_cons (ep_op o_fdiv (EP.s ed_int) (EP.s (ed_var 3))) ap_nil))) gx_nil))))))))) (gx_ul (f := fun cs => cs) fun p39 => (gx_ul (f := fun cs => CO.l p39 :: cs) fun p40 => (gx_ul (f := fun cs => CO.l p39 :: CO.l p40 :: cs) fun p41 => (gx_un (f := fun cs => CO.l p39 :: CO.l p40 :: CO.l p41 :: cs) gx_nil))))))) (fun v13 => (ss_ul (f := fun cs => cs) fun p42 => (ss_ul (f := fun cs => CO.l p42 :: cs) fun p43 => (ss_ul (f := fun cs => CO.l p42 :: CO.l p43 :: cs) fun p44 => (ss_un (f := fun cs => CO.l p42 :: CO.l p43 :: CO.l p44 :: cs) (ss_asg 3 sc__law_slots.nd (ep_op o_mul (EP.s (ed_var 3)) (EP.s (ep_callB c_len T.z_len (EP.s (ed_var 5))))) (fun v45 => (ss_app 2 0 (ex_tup (ax_cons (ex_call (js := [1, 2]) (ok__law_label T) back_d (hr.mono (by omega)) T.m__law_label T.F__law_label.kp (b__law_label T) passN (gx_c 0 1 (gx_c 1 2 gx_nil))) (ax_ul (f := fun cs => cs) fun p56 => (ax_ul (f := fun cs => CO.l p56 :: cs) fun p57 => (ax_ul (f := fun cs => CO.l p56 :: CO.l p57 :: cs) fun p58 => (ax_un (f := fun cs => CO.l p56 :: CO.l p57 :: CO.l p58 :: cs) (AP.x (ap_cons (ed_var 5) ap_nil)))))))) (ss_ul (f := fun cs => cs) fun p65 => (ss_ul (f := fun cs => CO.l p65 :: cs) fun p66 => (ss_ul (f := fun cs => CO.l p65 :: CO.l p66 :: cs) fun p67 => (ss_un (f := fun cs => CO.l p65 :: CO.l p66 :: CO.l p67 :: cs) (ss_nil (n := (v45, [CO.l p65, CO.l p66, CO.l p67])) (asOf []) rfl .refl (.keep (.keep (.keep (.keep (.drop (.drop .nil))))))))))))))))))))))))))) (fun n69 as4 => (ss_at (f := fun cs => cs) (cs := n69.2) (ss_ul (f := fun cs => cs) fun p70 => (ss_ul (f := fun cs => CO.l p70 :: cs) fun p71 => (ss_ul (f := fun cs => CO.l p70 :: CO.l p71 :: cs) fun p72 => (ss_un (f := fun cs => CO.l p70 :: CO.l p71 :: CO.l p72 :: cs) (ss_ret (mk := fun t75 => (t75, [CO.l p71, CO.l p72])) (ep_callTy c_tuple T.z_tuple (es_cell 2 0)) (fun _ => (.drop .refl)) (fun _ _ _ _ _ _ t r => back_d _ _ _ _ _ _ t r))))))))))))), ?_⟩
  rfl
theorem ok__law_states_cc (T : Txt K mg) : FnOk P w K mg base CX0 1 T.a__law_states T.d__law_states ["parents", "slots"] (prm K mg [.c, .c] (RD K) m__law_states_cc) := by
  refine fnE (k := 0) T.F__law_states sc__law_states rfl (by decide) fun cdv A outer s H E hr => fun a_parents l_parents a_slots l_slots => ⟨_, (ss_asgC 2 sc__law_states.nd (el_lst ap_nil) (fun a1 l2 nm_a1 => (ss_asg 3 sc__law_states.nd ed_int (fun v3 => (ss_seqN (fun (n : PD × List PD) (as4 : As) => [some (.c a_parents), some (.c a_slots), some (.c a1), some (.d n.1), none, none, none]) (fun (as4 : As) => [a1, a_parents, a_slots]) (fun (n : PD × List PD) => [CO.l n.2, CO.l l_parents, CO.l l_slots]) (s1_forN (fun (n : PD × List PD) (as4 : As) => [some (.c a_parents), some (.c a_slots), some (.c a1), some (.d n.1), none, none, none]) (fun (as4 : As) => [a1, a_parents, a_slots]) (fun (n : PD × List PD) => [CO.l n.2, CO.l l_parents, CO.l l_slots]) (un := Out.ok) (ρf := fun (n6 : PD × List PD) (as4 : As) (k5 : PD) => [some (.c a_parents), some (.c a_slots), some (.c a1), some (.d n6.1), some (.d k5), none, none]) (asOf []) (v3, l2) rfl (PassesOwn.never) (ix_range1 T.z_range (ep_callB c_len T.z_len (es_cell 0 1))) (tg_name 4 sc__law_states.nd) .refl (.keep (.keep (.keep (.keep (.keep (.keep (.keep .nil))))))) (fun _ _ _ => rfl) (fun _ _ _ h => nomatch h) (fun _ _ _ _ _ _ _ => trivial) (fun k5 n6 as4 => (ss_asg 5 sc__law_states.nd ed_int (fun v10 => (ss_seqN (fun (n : PD × PD) (as13 : As) => [some (.c a_parents), some (.c a_slots), some (.c a1), some (.d n.2), some (.d k5), some (.d n.1), none]) (fun (as13 : As) => [a1, a_parents, a_slots]) (fun (n : PD × PD) => [CO.l n6.2, CO.l l_parents, CO.l l_slots]) (s1_if (tp_cmp o_gt (EP.s (ed_var 4)) (EP.s ed_int)) (ss_asg 5 sc__law_states.nd (ed_ix (es_cell 2 0) (EP.s (ed_ix (es_cell 0 1) (EP.s (ed_var 4))))) (fun v16 => (ss_asg 3 sc__law_states.nd (ep_op o_add (EP.s (ed_var 3)) (EP.s (ep_op o_mul (EP.s ed_int) (EP.s (ed_var 5))))) (fun v21 => (ss_nil (n := (v16, v21)) (asOf []) rfl .refl (.keep (.keep (.keep (.keep (.keep (.keep (.keep .nil)))))))))))) (ss_nil (n := (v10, n6.1)) (asOf []) rfl .refl (.keep (.keep (.keep (.keep (.keep (.keep (.keep .nil))))))))) (fun n26 as13 => (ss_seqN (fun (n : PD) (as27 : As) => [some (.c a_parents), some (.c a_slots), some (.c a1), some (.d n26.2), some (.d k5), some (.d n), none]) (fun (as27 : As) => [a1, a_parents, a_slots]) (fun (n : PD) => [CO.l n6.2, CO.l l_parents, CO.l l_slots]) (s1_forN (fun (n : PD) (as27 : As) => [some (.c a_parents), some (.c a_slots), some (.c a1), some (.d n26.2), some (.d k5), some (.d n), none]) (fun (as27 : As) => [a1, a_parents, a_slots]) (fun (n : PD) => [CO.l n6.2, CO.l l_parents, CO.l l_slots]) (un := Out.ok) (ρf := fun (n29 : PD) (as27 : As) (k28 : PD) => [some (.c a_parents), some (.c a_slots), some (.c a1), some (.d n26.2), some (.d k5), some (.d n29), some (.d k28)]) (asOf []) (n26.1) rfl (PassesOwn.never) (ix_data (ed_ix (es_cell 1 2) (EP.s (ed_var 4)))) (tg_name 6 sc__law_states.nd) .refl (.keep (.keep (.keep (.keep (.keep (.keep (.keep .nil))))))) (fun _ _ _ => rfl) (fun _ _ _ h => nomatch h) (fun _ _ _ _ _ _ _ => trivial) (fun k28 n29 as27 => (ss_asg 5 sc__law_states.nd (ep_op o_mul (EP.s (ed_var 5)) (EP.s (ep_callB c_len T.z_len (EP.s (ed_ix (EP.s (ed_var 6)) (EP.s ed_int)))))) (fun v33 => (ss_nil (n := (v33)) (asOf []) rfl .refl (.keep (.keep (.keep (.keep (.keep (.keep (.drop .nil)))))))))))) (fun n39 as27 => (ss_appP 2 0 (ed_var 5) (fun l41 => (ss_nil (n := (n26.2, l41)) (asOf []) rfl .refl (.keep (.keep (.keep (.keep (.drop (.drop (.keep .nil)))))))))))))))))) (fun n46 as4 => (ss_ret (mk := fun t48 => (t48, [CO.l l_parents, CO.l l_slots])) (ed_var 3) (fun _ => (.drop .refl)) (fun _ _ _ _ _ _ t r => back_d _ _ _ _ _ _ t r)))))))), ?_⟩
  rfl
theorem ok__law_shape (T : Txt K mg) : FnOk P w K mg base CX0 5 T.a__law_shape T.d__law_shape ["pool", "limit"] (prm K mg [.c, .d] (RD K) m__law_shape) := by
  refine fnE (k := 4) T.F__law_shape sc__law_shape rfl (by decide) fun cdv A outer s H E hr => fun a_pool l_pool x_limit => ⟨_, (ss_asgC 2 sc__law_shape.nd (el_lst (ap_cons ed_str (ap_cons ed_str (ap_cons ed_str (ap_cons ed_str (ap_cons ed_str (ap_cons ed_str ap_nil))))))) (fun a1 l2 nm_a1 => (ss_asgC 3 sc__law_shape.nd (el_lst (ap_cons ed_str ap_nil)) (fun a15 l16 nm_a15 => (ss_asgCX 4 sc__law_shape.nd (xl_lst (ax_cons (ex_call (js := [2, 1]) (ok__law_slots T) back_d (hr.mono (by omega)) T.m__law_slots T.F__law_slots.kp (b__law_slots T) passN (gx_c 0 2 (gx_c 2 1 gx_nil))) (ax_ul (f := fun cs => cs) fun p26 => (ax_ul (f := fun cs => CO.l p26 :: cs) fun p27 => (ax_ul (f := fun cs => CO.l p26 :: CO.l p27 :: cs) fun p28 => (ax_un (f := fun cs => CO.l p26 :: CO.l p27 :: CO.l p28 :: cs) (AP.x ap_nil))))))) (fun a19 l20 cs1 nm_a19 => ss_at (f := fun cs => CO.l l20 :: cs) (cs := cs1) (ss_ul (f := fun cs => CO.l l20 :: cs) fun p33 => (ss_ul (f := fun cs => CO.l l20 :: CO.l p33 :: cs) fun p34 => (ss_ul (f := fun cs => CO.l l20 :: CO.l p33 :: CO.l p34 :: cs) fun p35 => (ss_un (f := fun cs => CO.l l20 :: CO.l p33 :: CO.l p34 :: CO.l p35 :: cs) (ss_asgC 5 sc__law_shape.nd (el_lst (ap_cons (ed_neg (EP.s ed_int)) ap_nil)) (fun a36 l37 nm_a36 => (ss_asgC 6 sc__law_shape.nd (el_lst (ap_cons ed_int ap_nil)) (fun a41 l42 nm_a41 => (ss_seqN (fun (n : List CO) (as45 : As) => [some (.c a_pool), some (.d x_limit), some (.c a1), some (.c a15), some (.c a19), some (.c a36), some (.c a41), none, none, none, none, none, none, none]) (fun (as45 : As) => [a41, a36, a19, a15, a1, a_pool]) (fun (n : List CO) => n) (s1_forXN (fun (n : List CO) (as45 : As) => [some (.c a_pool), some (.d x_limit), some (.c a1), some (.c a15), some (.c a19), some (.c a36), some (.c a41), none, none, none, none, none, none, none]) (fun (as45 : As) => [a41, a36, a19, a15, a1, a_pool]) (fun (n : List CO) => n) (un := Out.ok) (ρf := fun (n47 : List CO) (as45 : As) (k46 : PD) => [some (.c a_pool), some (.d x_limit), some (.c a1), some (.c a15), some (.c a19), some (.c a36), some (.c a41), some (.d k46), none, none, none, none, none, none]) (asOf []) (fun cs1 => (cs1)) rfl (PassesOwn.never) (ix_range1X T.z_range (ex_ix (EP.x (EP.l (el_lst (ap_cons ed_int (ap_cons ed_int (ap_cons ed_int (ap_cons ed_int (ap_cons ed_int (ap_cons ed_int (ap_cons ed_int (ap_cons ed_int ap_nil))))))))))) (ex_ul (f := fun cs => cs) fun p266 => (ex_ul (f := fun cs => CO.l p266 :: cs) fun p267 => (ex_ul (f := fun cs => CO.l p266 :: CO.l p267 :: cs) fun p268 => (ex_ul (f := fun cs => CO.l p266 :: CO.l p267 :: CO.l p268 :: cs) fun p269 => (ex_ul (f := fun cs => CO.l p266 :: CO.l p267 :: CO.l p268 :: CO.l p269 :: cs) fun p270 => (ex_ul (f := fun cs => CO.l p266 :: CO.l p267 :: CO.l p268 :: CO.l p269 :: CO.l p270 :: cs) fun p271 => (ex_un (f := fun cs => CO.l p266 :: CO.l p267 :: CO.l p268 :: CO.l p269 :: CO.l p270 :: CO.l p271 :: cs) (EX.s (ex_call (js := [5]) (ok__law_draw T) back_d (hr.mono (by omega)) T.m__law_draw T.F__law_draw.kp (b__law_draw T) passN (gx_c 0 5 (gx_d ed_int gx_nil))))))))))))) (tg_name 7 sc__law_shape.nd) (fun _ => .refl) (fun _ => (.keep (.keep (.keep (.keep (.keep (.keep (.keep (.keep (.keep (.keep (.keep (.keep (.keep (.keep .nil))))))))))))))) (fun _ _ _ => rfl) (fun _ _ _ h => nomatch h) (fun _ _ _ _ _ _ _ _ => trivial) (fun k46 n47 as45 => (ss_at (f := fun cs => cs) (cs := n47) (ss_ul (f := fun cs => cs) fun p51 => (ss_ul (f := fun cs => CO.l p51 :: cs) fun p52 => (ss_ul (f := fun cs => CO.l p51 :: CO.l p52 :: cs) fun p53 => (ss_ul (f := fun cs => CO.l p51 :: CO.l p52 :: CO.l p53 :: cs) fun p54 => (ss_ul (f := fun cs => CO.l p51 :: CO.l p52 :: CO.l p53 :: CO.l p54 :: cs) fun p55 => (ss_ul (f := fun cs => CO.l p51 :: CO.l p52 :: CO.l p53 :: CO.l p54 :: CO.l p55 :: cs) fun p56 => (ss_un (f := fun cs => CO.l p51 :: CO.l p52 :: CO.l p53 :: CO.l p54 :: CO.l p55 :: CO.l p56 :: cs) (ss_asgX 8 sc__law_shape.nd (ex_call (js := [5]) (ok__law_draw T) back_d (hr.mono (by omega)) T.m__law_draw T.F__law_draw.kp (b__law_draw T) passN (gx_c 0 5 (gx_d (ep_callB c_len T.z_len (es_cell 5 1)) gx_nil))) (fun v57 => (ss_ul (f := fun cs => cs) fun p65 => (ss_ul (f := fun cs => CO.l p65 :: cs) fun p66 => (ss_ul (f := fun cs => CO.l p65 :: CO.l p66 :: cs) fun p67 => (ss_ul (f := fun cs => CO.l p65 :: CO.l p66 :: CO.l p67 :: cs) fun p68 => (ss_ul (f := fun cs => CO.l p65 :: CO.l p66 :: CO.l p67 :: CO.l p68 :: cs) fun p69 => (ss_ul (f := fun cs => CO.l p65 :: CO.l p66 :: CO.l p67 :: CO.l p68 :: CO.l p69 :: cs) fun p70 => (ss_un (f := fun cs => CO.l p65 :: CO.l p66 :: CO.l p67 :: CO.l p68 :: CO.l p69 :: CO.l p70 :: cs) (ss_one (s1_if (WP.t (wp_and (tp_cmp o_lt (EP.s (ed_ix (es_cell 6 0) (EP.s (ed_var 8)))) (EP.s ed_int)) (wp_and1 (tp_cmp o_lt (EP.s (ep_callB c_len T.z_len (EP.s (EP.l (el_lc (own := [("parent", 12)]) rfl sc__law_shape.nd (blkOk_by (own := [("parent", 12)]) (N := n__law_shape) (sc := defScope s__law_shape) (by decide +kernel)) (lc_ofP (un := Out.ok) (ρf := fun k78 => [some (.c a_pool), some (.d x_limit), some (.c a1), some (.c a15), some (.c a19), some (.c a36), some (.c a41), some (.d k46), some (.d v57), none, none, none, some (.d k78), none]) (ix_cell 5 1) (fun _ _ _ _ _ => tg_name 12 sc__law_shape.nd) (fun _ => rfl) (fun _ _ _ _ _ k78 => (ts_one (tp_cmp (o_eq hr.units) (EP.s (ed_var 12)) (EP.s (ed_var 8))))) (fun _ _ _ _ _ k78 => ed_int) (fun _ h _ _ c => by cases h; exact (cells_get (j := 1) c rfl rfl).2))))))) (EP.s ed_int))))) (ss_app 3 3 (ex_call (js := [5, 4]) (ok__law_label T) back_d (hr.mono (by omega)) T.m__law_label T.F__law_label.kp (b__law_label T) passN (gx_c 0 5 (gx_c 2 4 gx_nil))) (ss_ul (f := fun cs => cs) fun p96 => (ss_ul (f := fun cs => CO.l p96 :: cs) fun p97 => (ss_ul (f := fun cs => CO.l p96 :: CO.l p97 :: cs) fun p98 => (ss_ul (f := fun cs => CO.l p96 :: CO.l p97 :: CO.l p98 :: cs) fun p99 => (ss_ul (f := fun cs => CO.l p96 :: CO.l p97 :: CO.l p98 :: CO.l p99 :: cs) fun p100 => (ss_ul (f := fun cs => CO.l p96 :: CO.l p97 :: CO.l p98 :: CO.l p99 :: CO.l p100 :: cs) fun p101 => (ss_un (f := fun cs => CO.l p96 :: CO.l p97 :: CO.l p98 :: CO.l p99 :: CO.l p100 :: CO.l p101 :: cs) (ss_app 4 2 (ex_call (js := [5, 4]) (ok__law_slots T) back_d (hr.mono (by omega)) T.m__law_slots T.F__law_slots.kp (b__law_slots T) passN (gx_c 0 5 (gx_c 2 4 gx_nil))) (ss_ul (f := fun cs => cs) fun p109 => (ss_ul (f := fun cs => CO.l p109 :: cs) fun p110 => (ss_ul (f := fun cs => CO.l p109 :: CO.l p110 :: cs) fun p111 => (ss_ul (f := fun cs => CO.l p109 :: CO.l p110 :: CO.l p111 :: cs) fun p112 => (ss_ul (f := fun cs => CO.l p109 :: CO.l p110 :: CO.l p111 :: CO.l p112 :: cs) fun p113 => (ss_ul (f := fun cs => CO.l p109 :: CO.l p110 :: CO.l p111 :: CO.l p112 :: CO.l p113 :: cs) fun p114 => (ss_un (f := fun cs => CO.l p109 :: CO.l p110 :: CO.l p111 :: CO.l p112 :: CO.l p113 :: CO.l p114 :: cs) (ss_appP 5 1 (ed_var 8) (fun l116 => (ss_appP 6 0 (ep_op o_add (EP.s (ed_ix (es_cell 6 0) (EP.s (ed_var 8)))) (EP.s ed_int)) (fun l118 => (ss_nil (n := ([CO.l l118, CO.l l116, CO.l p111, CO.l p112, CO.l p113, CO.l p114])) (asOf []) rfl .refl (.keep (.keep (.keep (.keep (.keep (.keep (.keep (.drop (.drop (.keep (.keep (.keep (.keep (.keep .nil))))))))))))))))))))))))))))))))))) (ss_nil (n := ([CO.l p65, CO.l p66, CO.l p67, CO.l p68, CO.l p69, CO.l p70])) (asOf []) rfl .refl (.keep (.keep (.keep (.keep (.keep (.keep (.keep (.drop (.drop (.keep (.keep (.keep (.keep (.keep .nil)))))))))))))))))))))))))))))))))))) (fun n125 as45 => (ss_at (f := fun cs => cs) (cs := n125) (ss_ul (f := fun cs => cs) fun p126 => (ss_ul (f := fun cs => CO.l p126 :: cs) fun p127 => (ss_ul (f := fun cs => CO.l p126 :: CO.l p127 :: cs) fun p128 => (ss_ul (f := fun cs => CO.l p126 :: CO.l p127 :: CO.l p128 :: cs) fun p129 => (ss_ul (f := fun cs => CO.l p126 :: CO.l p127 :: CO.l p128 :: CO.l p129 :: cs) fun p130 => (ss_ul (f := fun cs => CO.l p126 :: CO.l p127 :: CO.l p128 :: CO.l p129 :: CO.l p130 :: cs) fun p131 => (ss_un (f := fun cs => CO.l p126 :: CO.l p127 :: CO.l p128 :: CO.l p129 :: CO.l p130 :: CO.l p131 :: cs) (ss_seqN (fun (n : List PD × List PD × List PD × List PD × List PD × List PD) (as132 : As) => [some (.c a_pool), some (.d x_limit), some (.c a1), some (.c a15), some (.c a19), some (.c a36), some (.c a41), none, none, none, none, none, none, none]) (fun (as132 : As) => [a41, a36, a19, a15, a1, a_pool]) (fun (n : List PD × List PD × List PD × List PD × List PD × List PD) => [CO.l n.1, CO.l n.2.1, CO.l n.2.2.1, CO.l n.2.2.2.1, CO.l n.2.2.2.2.1, CO.l n.2.2.2.2.2]) (s1_forN (fun (n : List PD × List PD × List PD × List PD × List PD × List PD) (as132 : As) => [some (.c a_pool), some (.d x_limit), some (.c a1), some (.c a15), some (.c a19), some (.c a36), some (.c a41), none, none, none, none, none, none, none]) (fun (as132 : As) => [a41, a36, a19, a15, a1, a_pool]) (fun (n : List PD × List PD × List PD × List PD × List PD × List PD) => [CO.l n.1, CO.l n.2.1, CO.l n.2.2.1, CO.l n.2.2.2.1, CO.l n.2.2.2.2.1, CO.l n.2.2.2.2.2]) (un := Out.ok) (ρf := fun (n134 : List PD × List PD × List PD × List PD × List PD × List PD) (as132 : As) (k133 : PD) => [some (.c a_pool), some (.d x_limit), some (.c a1), some (.c a15), some (.c a19), some (.c a36), some (.c a41), some (.d k133), none, none, none, none, none, none]) (asOf []) (p126, p127, p128, p129, p130, p131) rfl (PassesOwn.never) (ix_range1 T.z_range ed_int) (tg_name 7 sc__law_shape.nd) .refl (.keep (.keep (.keep (.keep (.keep (.keep (.keep (.keep (.keep (.keep (.keep (.keep (.keep (.keep .nil)))))))))))))) (fun _ _ _ => rfl) (fun _ _ _ h => nomatch h) (fun _ _ _ _ _ _ _ => trivial) (fun k133 n134 as132 => (ss_one (s1_ifX (tx_cmp o_gt (ex_call (js := [1, 2]) (ok__law_states_cc T) back_d (hr.mono (by omega)) T.m__law_states T.F__law_states.kp (b__law_states T) passN (gx_c 5 1 (gx_c 4 2 gx_nil))) (ex_ul (f := fun cs => cs) fun p145 => (ex_ul (f := fun cs => CO.l p145 :: cs) fun p146 => (ex_ul (f := fun cs => CO.l p145 :: CO.l p146 :: cs) fun p147 => (ex_ul (f := fun cs => CO.l p145 :: CO.l p146 :: CO.l p147 :: cs) fun p148 => (ex_ul (f := fun cs => CO.l p145 :: CO.l p146 :: CO.l p147 :: CO.l p148 :: cs) fun p149 => (ex_ul (f := fun cs => CO.l p145 :: CO.l p146 :: CO.l p147 :: CO.l p148 :: CO.l p149 :: cs) fun p150 => (ex_un (f := fun cs => CO.l p145 :: CO.l p146 :: CO.l p147 :: CO.l p148 :: CO.l p149 :: CO.l p150 :: cs) (EP.x (EP.s (ed_var 1))))))))))) (ss_ul (f := fun cs => cs) fun p155 => (ss_ul (f := fun cs => CO.l p155 :: cs) fun p156 => (ss_ul (f := fun cs => CO.l p155 :: CO.l p156 :: cs) fun p157 => (ss_ul (f := fun cs => CO.l p155 :: CO.l p156 :: CO.l p157 :: cs) fun p158 => (ss_ul (f := fun cs => CO.l p155 :: CO.l p156 :: CO.l p157 :: CO.l p158 :: cs) fun p159 => (ss_ul (f := fun cs => CO.l p155 :: CO.l p156 :: CO.l p157 :: CO.l p158 :: CO.l p159 :: cs) fun p160 => (ss_un (f := fun cs => CO.l p155 :: CO.l p156 :: CO.l p157 :: CO.l p158 :: CO.l p159 :: CO.l p160 :: cs) (ss_dropX (ex_pop 5 1) (ss_ul (f := fun cs => cs) fun p163 => (ss_ul (f := fun cs => CO.l p163 :: cs) fun p164 => (ss_ul (f := fun cs => CO.l p163 :: CO.l p164 :: cs) fun p165 => (ss_ul (f := fun cs => CO.l p163 :: CO.l p164 :: CO.l p165 :: cs) fun p166 => (ss_ul (f := fun cs => CO.l p163 :: CO.l p164 :: CO.l p165 :: CO.l p166 :: cs) fun p167 => (ss_ul (f := fun cs => CO.l p163 :: CO.l p164 :: CO.l p165 :: CO.l p166 :: CO.l p167 :: cs) fun p168 => (ss_un (f := fun cs => CO.l p163 :: CO.l p164 :: CO.l p165 :: CO.l p166 :: CO.l p167 :: CO.l p168 :: cs) (ss_dropX (ex_pop 4 2) (ss_ul (f := fun cs => cs) fun p171 => (ss_ul (f := fun cs => CO.l p171 :: cs) fun p172 => (ss_ul (f := fun cs => CO.l p171 :: CO.l p172 :: cs) fun p173 => (ss_ul (f := fun cs => CO.l p171 :: CO.l p172 :: CO.l p173 :: cs) fun p174 => (ss_ul (f := fun cs => CO.l p171 :: CO.l p172 :: CO.l p173 :: CO.l p174 :: cs) fun p175 => (ss_ul (f := fun cs => CO.l p171 :: CO.l p172 :: CO.l p173 :: CO.l p174 :: CO.l p175 :: cs) fun p176 => (ss_un (f := fun cs => CO.l p171 :: CO.l p172 :: CO.l p173 :: CO.l p174 :: CO.l p175 :: CO.l p176 :: cs) (ss_nil (n := (p171, p172, p173, p174, p175, p176)) (asOf []) rfl .refl (.keep (.keep (.keep (.keep (.keep (.keep (.keep (.drop (.keep (.keep (.keep (.keep (.keep (.keep .nil)))))))))))))))))))))))))))))))))))))) (ss_ul (f := fun cs => cs) fun p177 => (ss_ul (f := fun cs => CO.l p177 :: cs) fun p178 => (ss_ul (f := fun cs => CO.l p177 :: CO.l p178 :: cs) fun p179 => (ss_ul (f := fun cs => CO.l p177 :: CO.l p178 :: CO.l p179 :: cs) fun p180 => (ss_ul (f := fun cs => CO.l p177 :: CO.l p178 :: CO.l p179 :: CO.l p180 :: cs) fun p181 => (ss_ul (f := fun cs => CO.l p177 :: CO.l p178 :: CO.l p179 :: CO.l p180 :: CO.l p181 :: cs) fun p182 => (ss_un (f := fun cs => CO.l p177 :: CO.l p178 :: CO.l p179 :: CO.l p180 :: CO.l p181 :: CO.l p182 :: cs) (ss_nil (n := (p177, p178, p179, p180, p181, p182)) (asOf []) rfl .refl (.keep (.keep (.keep (.keep (.keep (.keep (.keep (.drop (.keep (.keep (.keep (.keep (.keep (.keep .nil)))))))))))))))))))))))))) (fun n183 as132 => (ss_asgC 9 sc__law_shape.nd (el_lc (own := [("parent", 12)]) rfl sc__law_shape.nd (blkOk_by (own := [("parent", 12)]) (N := n__law_shape) (sc := defScope s__law_shape) (by decide +kernel)) (lc_ofP (un := Out.ok) (ρf := fun k186 => [some (.c a_pool), some (.d x_limit), some (.c a1), some (.c a15), some (.c a19), some (.c a36), some (.c a41), none, none, none, none, none, some (.d k186), none]) (ix_cell 5 1) (fun _ _ _ _ _ => tg_name 12 sc__law_shape.nd) (fun _ => rfl) (fun _ _ _ _ _ k186 => ts_nil) (fun _ _ _ _ _ k186 => (ed_tup ap_nil)) (fun _ h _ _ c => by cases h; exact (cells_get (j := 1) c rfl rfl).2))) (fun a184 l185 nm_a184 => (ss_seqN (fun (n : List PD) (as192 : As) => [some (.c a_pool), some (.d x_limit), some (.c a1), some (.c a15), some (.c a19), some (.c a36), some (.c a41), none, none, some (.c a184), none, none, none, none]) (fun (as192 : As) => [a184, a41, a36, a19, a15, a1, a_pool]) (fun (n : List PD) => [CO.l n, CO.l n183.1, CO.l n183.2.1, CO.l n183.2.2.1, CO.l n183.2.2.2.1, CO.l n183.2.2.2.2.1, CO.l n183.2.2.2.2.2]) (s1_forN (fun (n : List PD) (as192 : As) => [some (.c a_pool), some (.d x_limit), some (.c a1), some (.c a15), some (.c a19), some (.c a36), some (.c a41), none, none, some (.c a184), none, none, none, none]) (fun (as192 : As) => [a184, a41, a36, a19, a15, a1, a_pool]) (fun (n : List PD) => [CO.l n, CO.l n183.1, CO.l n183.2.1, CO.l n183.2.2.1, CO.l n183.2.2.2.1, CO.l n183.2.2.2.2.1, CO.l n183.2.2.2.2.2]) (un := Out.ok) (ρf := fun (n194 : List PD) (as192 : As) (k193 : PD) => [some (.c a_pool), some (.d x_limit), some (.c a1), some (.c a15), some (.c a19), some (.c a36), some (.c a41), none, none, some (.c a184), some (.d k193), none, none, none]) (asOf []) (l185) rfl (PassesOwn.never) (ix_range1 T.z_range (ep_callB c_len T.z_len (es_cell 5 2))) (tg_name 10 sc__law_shape.nd) .refl (.keep (.keep (.keep (.keep (.keep (.keep (.keep (.keep (.keep (.keep (.keep (.keep (.keep (.keep .nil)))))))))))))) (fun _ _ _ => rfl) (fun _ _ _ h => nomatch h) (fun _ _ _ _ _ _ _ => trivial) (fun k193 n194 as192 => (ss_asg 7 sc__law_shape.nd (ep_op o_sub (EP.s (ep_op o_sub (EP.s (ep_callB c_len T.z_len (es_cell 5 2))) (EP.s ed_int))) (EP.s (ed_var 10))) (fun v198 => (ss_asgLcP (own := [("j", 13)]) 11 rfl sc__law_shape.nd (blkOk_by (own := [("j", 13)]) (N := n__law_shape) (sc := defScope s__law_shape) (by decide +kernel)) (lc_ofP (un := Out.ok) (ρf := fun k207 => [some (.c a_pool), some (.d x_limit), some (.c a1), some (.c a15), some (.c a19), some (.c a36), some (.c a41), some (.d v198), none, some (.c a184), some (.d k193), none, none, some (.d k207)]) (ix_range1 T.z_range (ep_callB c_len T.z_len (es_cell 5 2))) (fun _ _ _ _ _ => tg_name 13 sc__law_shape.nd) (fun _ => rfl) (fun _ _ _ _ _ k207 => (ts_one (tp_cmp (o_eq hr.units) (EP.s (ed_ix (es_cell 5 2) (EP.s (ed_var 13)))) (EP.s (ed_var 7))))) (fun _ _ _ _ _ k207 => (ed_tup (ap_cons (ed_ix (es_cell 3 4) (EP.s (ed_var 13))) (ap_cons (ed_ix (es_cell 9 0) (EP.s (ed_var 13))) ap_nil)))) (fun _ _ _ _ _ => trivial)) (fun v204 => (ss_setP 9 0 (ed_tup (ap_cons (ed_ix (es_cell 4 3) (EP.s (ed_var 7))) (ap_cons (ep_callTy c_tuple T.z_tuple (EP.s (ed_var 11))) ap_nil))) (ed_var 7) (fun l227 => (ss_nil (n := (l227)) (asOf []) rfl .refl (.keep (.keep (.keep (.keep (.keep (.keep (.keep (.drop (.keep (.keep (.drop (.drop (.keep (.keep .nil))))))))))))))))))))))) (fun n237 as192 => (ss_ret (mk := fun t241 => (t241, [CO.l n183.2.2.2.2.2])) (ed_ix (es_cell 9 0) (EP.s ed_int)) (fun _ => (.drop (.drop (.drop (.drop (.drop (.drop .refl))))))) (fun _ _ _ _ _ _ t r => back_d _ _ _ _ _ _ t r)))))))))))))))))))))))))))))))), ?_⟩
  rfl
theorem ok__law_pool (T : Txt K mg) : FnOk P w K mg base CX0 1 T.a__law_pool T.d__law_pool ["script", "k"] (prm K mg [.d, .d] (RL K) m__law_pool) := by
  refine fnE (k := 0) T.F__law_pool sc__law_pool rfl (by decide) fun cdv A outer s H E hr => fun x_script x_k => ⟨_, (ss_asg 2 sc__law_pool.nd ed_int (fun v1 => (ss_seqN (fun (n : PD) (as4 : As) => [some (.d x_script), some (.d x_k), some (.d n)]) (fun (as4 : As) => []) (fun (n : PD) => []) (s1_if (tp_cmp o_lt (EP.s (ed_var 1)) (EP.s (ep_callB c_len T.z_len (EP.s (ed_var 0))))) (ss_asg 2 sc__law_pool.nd (ep_callTy c_int T.z_int (EP.s (ed_ix (EP.s (ed_var 0)) (EP.s (ed_var 1))))) (fun v8 => (ss_nil (n := (v8)) (asOf []) rfl .refl (.keep (.keep (.keep .nil)))))) (ss_nil (n := (v1)) (asOf []) rfl .refl (.keep (.keep (.keep .nil))))) (fun n12 as4 => (ss_seqN (fun (n : PD) (as15 : As) => [some (.d x_script), some (.d x_k), some (.d n)]) (fun (as15 : As) => []) (fun (n : PD) => []) (s1_if (tp_cmp o_lt (EP.s (ed_var 2)) (EP.s ed_int)) (ss_asg 2 sc__law_pool.nd (ed_neg (EP.s (ed_var 2))) (fun v18 => (ss_nil (n := (v18)) (asOf []) rfl .refl (.keep (.keep (.keep .nil)))))) (ss_nil (n := (n12)) (asOf []) rfl .refl (.keep (.keep (.keep .nil))))) (fun n20 as15 => (ss_ret (mk := fun t28 => (t28, [])) (el_lst (ap_cons (ed_var 2) (ap_cons (ep_op o_mul (EP.s ed_int) (EP.s (ed_var 1))) ap_nil))) (fun _ => .refl) (fun _ _ _ _ _ _ t r => back_l _ _ _ _ _ _ t r)))))))), ?_⟩
  rfl
theorem okg__law_loosened (T : Txt K mg) : ∀ n : Nat, FnOk P w K mg base CX0 (2 + n) T.a__law_loosened T.d__law_loosened ["pool", "pieces"] (prm K mg [.c, .d] (RD K) (m__law_loosened n))
  | 0 => fnE T.F__law_loosened sc__law_loosened rfl (by decide) fun cdv A outer s H E hr => fun a_pool l_pool x_pieces => ⟨.bad, ss_bad, rfl⟩
  | n + 1 => by
    have ih := okg__law_loosened T n
    have ih__law_loosened := ih
    refine fnE (k := 2 + n) T.F__law_loosened sc__law_loosened rfl (by decide) fun cdv A outer s H E hr => fun a_pool l_pool x_pieces => ⟨_, (ss_asgC 2 sc__law_loosened.nd (el_lst ap_nil) (fun a1 l2 nm_a1 => (ss_seqN (fun (n : List PD × List PD) (as3 : As) => [some (.c a_pool), some (.d x_pieces), some (.c a1), none, none, none]) (fun (as3 : As) => [a1, a_pool]) (fun (n : List PD × List PD) => [CO.l n.1, CO.l n.2]) (s1_forN (fun (n : List PD × List PD) (as3 : As) => [some (.c a_pool), some (.d x_pieces), some (.c a1), none, none, none]) (fun (as3 : As) => [a1, a_pool]) (fun (n : List PD × List PD) => [CO.l n.1, CO.l n.2]) (un := Out.ok) (ρf := fun (n5 : List PD × List PD) (as3 : As) (k4 : PD) => [some (.c a_pool), some (.d x_pieces), some (.c a1), some (.d k4), none, none]) (asOf []) (l2, l_pool) rfl (PassesOwn.never) (ix_data (ed_var 1)) (tg_name 3 sc__law_loosened.nd) .refl (.keep (.keep (.keep (.keep (.keep (.keep .nil)))))) (fun _ _ _ => rfl) (fun _ _ _ h => nomatch h) (fun _ _ _ _ _ _ _ => trivial) (fun k4 n5 as3 => (ss_one (s1_if (tp_cmp (o_eq hr.units) (EP.s (ed_ix (EP.s (ed_var 3)) (EP.s ed_int))) (EP.s ed_str)) (ss_asgX 4 sc__law_loosened.nd (ex_call (js := [1]) (ok__law_draw T) back_d (hr.mono (by omega)) T.m__law_draw T.F__law_draw.kp (b__law_draw T) passN (gx_c 0 1 (gx_d (ep_callB c_len T.z_len (EP.s (ed_ix (EP.s (ed_var 3)) (EP.s ed_int)))) gx_nil))) (fun v15 => (ss_ul (f := fun cs => cs) fun p25 => (ss_ul (f := fun cs => CO.l p25 :: cs) fun p26 => (ss_un (f := fun cs => CO.l p25 :: CO.l p26 :: cs) (ss_seqN (fun (n : List PD) (as29 : As) => [some (.c a_pool), some (.d x_pieces), some (.c a1), some (.d k4), some (.d v15), none]) (fun (as29 : As) => [a1, a_pool]) (fun (n : List PD) => [CO.l n, CO.l p26]) (s1_if (tp_cmp o_gt (EP.s (ed_var 4)) (EP.s ed_int)) (ss_appP 2 0 (ed_tup (ap_cons ed_str (ap_cons (ed_slice (EP.s (ed_ix (EP.s (ed_var 3)) (EP.s ed_int))) op_no (op_yes (EP.s (ed_var 4)))) ap_nil))) (fun l33 => (ss_nil (n := (l33)) (asOf []) rfl .refl (.keep (.keep (.keep (.keep (.keep (.keep .nil))))))))) (ss_nil (n := (p25)) (asOf []) rfl .refl (.keep (.keep (.keep (.keep (.keep (.keep .nil)))))))) (fun n45 as29 => (ss_asg 5 sc__law_loosened.nd (ed_slice (EP.s (ed_ix (EP.s (ed_var 3)) (EP.s ed_int))) (op_yes (EP.s (ed_var 4))) op_no) (fun v46 => (ss_asgX 4 sc__law_loosened.nd (ex_call (js := [1]) (ok__law_draw T) back_d (hr.mono (by omega)) T.m__law_draw T.F__law_draw.kp (b__law_draw T) passN (gx_c 0 1 (gx_d (ep_callB c_len T.z_len (EP.s (ed_var 5))) gx_nil))) (fun v53 => (ss_ul (f := fun cs => cs) fun p61 => (ss_ul (f := fun cs => CO.l p61 :: cs) fun p62 => (ss_un (f := fun cs => CO.l p61 :: CO.l p62 :: cs) (ss_seqN (fun (n : List PD) (as65 : As) => [some (.c a_pool), some (.d x_pieces), some (.c a1), some (.d k4), some (.d v53), some (.d v46)]) (fun (as65 : As) => [a1, a_pool]) (fun (n : List PD) => [CO.l n, CO.l p62]) (s1_if (tp_cmp o_gt (EP.s (ed_var 4)) (EP.s ed_int)) (ss_appP 2 0 (ed_tup (ap_cons ed_str (ap_cons (ed_slice (EP.s (ed_var 5)) op_no (op_yes (EP.s (ed_var 4)))) ap_nil))) (fun l69 => (ss_nil (n := (l69)) (asOf []) rfl .refl (.keep (.keep (.keep (.keep (.keep (.keep .nil))))))))) (ss_nil (n := (p61)) (asOf []) rfl .refl (.keep (.keep (.keep (.keep (.keep (.keep .nil)))))))) (fun n79 as65 => (ss_appP 2 0 (ed_tup (ap_cons ed_str (ap_cons (ed_slice (EP.s (ed_var 5)) (op_yes (EP.s (ed_var 4))) op_no) ap_nil))) (fun l81 => (ss_nil (n := (l81, p62)) (asOf []) rfl .refl (.keep (.keep (.keep (.drop (.drop (.drop .nil))))))))))))))))))))))))) (ss_one (s1_if (tp_cmp (o_eq hr.units) (EP.s (ed_ix (EP.s (ed_var 3)) (EP.s ed_int))) (EP.s ed_str)) (ss_app 2 0 (ex_tup (ax_cons (EP.x ed_str) (ax_ul (f := fun cs => cs) fun p100 => (ax_ul (f := fun cs => CO.l p100 :: cs) fun p101 => (ax_un (f := fun cs => CO.l p100 :: CO.l p101 :: cs) (ax_cons (EP.x (ed_ix (EP.s (ed_var 3)) (EP.s ed_int))) (ax_ul (f := fun cs => cs) fun p105 => (ax_ul (f := fun cs => CO.l p105 :: cs) fun p106 => (ax_un (f := fun cs => CO.l p105 :: CO.l p106 :: cs) (ax_cons (EP.x (ed_ix (EP.s (ed_var 3)) (EP.s ed_int))) (ax_ul (f := fun cs => cs) fun p110 => (ax_ul (f := fun cs => CO.l p110 :: cs) fun p111 => (ax_un (f := fun cs => CO.l p110 :: CO.l p111 :: cs) (ax_cons (ex_call (js := [1]) ih__law_loosened back_d (hr.mono (by omega)) T.m__law_loosened T.F__law_loosened.kp (b__law_loosened T) passN (gx_c 0 1 (gx_d (ed_ix (EP.s (ed_var 3)) (EP.s ed_int)) gx_nil))) (ax_ul (f := fun cs => cs) fun p119 => (ax_ul (f := fun cs => CO.l p119 :: cs) fun p120 => (ax_un (f := fun cs => CO.l p119 :: CO.l p120 :: cs) (ax_cons (ex_call (js := [1]) ih__law_loosened back_d (hr.mono (by omega)) T.m__law_loosened T.F__law_loosened.kp (b__law_loosened T) passN (gx_c 0 1 (gx_d (ed_ix (EP.s (ed_var 3)) (EP.s ed_int)) gx_nil))) (ax_ul (f := fun cs => cs) fun p128 => (ax_ul (f := fun cs => CO.l p128 :: cs) fun p129 => (ax_un (f := fun cs => CO.l p128 :: CO.l p129 :: cs) (AP.x ap_nil)))))))))))))))))))))) (ss_ul (f := fun cs => cs) fun p142 => (ss_ul (f := fun cs => CO.l p142 :: cs) fun p143 => (ss_un (f := fun cs => CO.l p142 :: CO.l p143 :: cs) (ss_nil (n := (p142, p143)) (asOf []) rfl .refl (.keep (.keep (.keep (.drop (.keep (.keep .nil))))))))))) (ss_one (s1_if (tp_cmp (o_eq hr.units) (EP.s (ed_ix (EP.s (ed_var 3)) (EP.s ed_int))) (EP.s ed_str)) (ss_app 2 0 (ex_tup (ax_cons (EP.x ed_str) (ax_ul (f := fun cs => cs) fun p154 => (ax_ul (f := fun cs => CO.l p154 :: cs) fun p155 => (ax_un (f := fun cs => CO.l p154 :: CO.l p155 :: cs) (ax_cons (EP.x (ed_ix (EP.s (ed_var 3)) (EP.s ed_int))) (ax_ul (f := fun cs => cs) fun p159 => (ax_ul (f := fun cs => CO.l p159 :: cs) fun p160 => (ax_un (f := fun cs => CO.l p159 :: CO.l p160 :: cs) (ax_cons (ex_call (js := [1]) ih__law_loosened back_d (hr.mono (by omega)) T.m__law_loosened T.F__law_loosened.kp (b__law_loosened T) passN (gx_c 0 1 (gx_d (ed_ix (EP.s (ed_var 3)) (EP.s ed_int)) gx_nil))) (ax_ul (f := fun cs => cs) fun p168 => (ax_ul (f := fun cs => CO.l p168 :: cs) fun p169 => (ax_un (f := fun cs => CO.l p168 :: CO.l p169 :: cs) (AP.x (ap_cons (ed_ix (EP.s (ed_var 3)) (EP.s ed_int)) ap_nil))))))))))))))) (ss_ul (f := fun cs => cs) fun p182 => (ss_ul (f := fun cs => CO.l p182 :: cs) fun p183 => (ss_un (f := fun cs => CO.l p182 :: CO.l p183 :: cs) (ss_nil (n := (p182, p183)) (asOf []) rfl .refl (.keep (.keep (.keep (.drop (.keep (.keep .nil))))))))))) (ss_appP 2 0 (ed_var 3) (fun l186 => (ss_nil (n := (l186, n5.2)) (asOf []) rfl .refl (.keep (.keep (.keep (.drop (.keep (.keep .nil))))))))))))))))) (fun n187 as3 => (ss_ret (mk := fun t190 => (t190, [CO.l n187.2])) (ep_callTy c_tuple T.z_tuple (es_cell 2 0)) (fun _ => (.drop .refl)) (fun _ _ _ _ _ _ t r => back_d _ _ _ _ _ _ t r)))))), ?_⟩
    rfl
theorem ok__law_loosened (T : Txt K mg) (n : Nat) : FnOk P w K mg base CX0 (2 + n) T.a__law_loosened T.d__law_loosened ["pool", "pieces"] (prm K mg [.c, .d] (RD K) (m__law_loosened n)) := okg__law_loosened T n
theorem ok__law_is_integer (T : Txt K mg) : FnOk P w K mg base CX0 1 T.a__law_is_integer T.d__law_is_integer ["value"] (prm K mg [.d] (RD K) m__law_is_integer) := by
  refine fnE (k := 0) T.F__law_is_integer sc__law_is_integer rfl (by decide) fun cdv A outer s H E hr => fun x_value => ⟨_, (ss_ret (mk := fun t8 => (t8, [])) (ed_and (ed_isi (T := "int") T.z_isinstance T.z_int (EP.s (ed_var 0))) (ed_one (ed_not (ed_isi (T := "bool") T.z_isinstance T.z_bool (EP.s (ed_var 0)))))) (fun _ => .refl) (fun _ _ _ _ _ _ t r => back_d _ _ _ _ _ _ t r)), ?_⟩
  rfl
theorem okg__law_same (T : Txt K mg) : ∀ n : Nat, FnOk P w K mg base CX0 (2 + n) T.a__law_same T.d__law_same ["told", "due"] (prm K mg [.d, .d] (RD K) (m__law_same n))
  | 0 => fnE T.F__law_same sc__law_same rfl (by decide) fun cdv A outer s H E hr => fun x_told x_due => ⟨.bad, ss_bad, rfl⟩
  | n + 1 => by
    have ih := okg__law_same T n
    have ih__law_same := ih
    refine fnE (k := 2 + n) T.F__law_same sc__law_same rfl (by decide) fun cdv A outer s H E hr => fun x_told x_due => ⟨_, (ss_ifE (tp_truth (EP.s (ed_isi (T := "tuple") T.z_isinstance T.z_tuple (EP.s (ed_var 1))))) (ss_ifE (WP.t (wp_or (tp_not (tp_truth (EP.s (ed_isi (T := "tuple") T.z_isinstance T.z_tuple (EP.s (ed_var 0)))))) (wp_or1 (tp_cmp (o_ne hr.units) (EP.s (ep_callB c_len T.z_len (EP.s (ed_var 0)))) (EP.s (ep_callB c_len T.z_len (EP.s (ed_var 1)))))))) (ss_ret (mk := fun t16 => (t16, [])) ed_bool (fun _ => .refl) (fun _ _ _ _ _ _ t r => back_d _ _ _ _ _ _ t r)) (ss_seqN (fun (n : Unit) (as17 : As) => [some (.d x_told), some (.d x_due), none]) (fun (as17 : As) => []) (fun (n : Unit) => []) (s1_forN (fun (n : Unit) (as17 : As) => [some (.d x_told), some (.d x_due), none]) (fun (as17 : As) => []) (fun (n : Unit) => []) (un := Out.ok) (ρf := fun (n19 : Unit) (as17 : As) (k18 : PD) => [some (.d x_told), some (.d x_due), some (.d k18)]) (asOf []) () rfl (PassesOwn.never) (ix_range1 T.z_range (ep_callB c_len T.z_len (EP.s (ed_var 1)))) (tg_name 2 sc__law_same.nd) .refl (.keep (.keep (.keep .nil))) (fun _ _ _ => rfl) (fun _ _ _ h => nomatch h) (fun _ _ _ _ _ _ _ => trivial) (fun k18 n19 as17 => (ss_ifE (tp_not (tp_truth (EP.s (ep_call ih__law_same back_d (hr.mono (by omega)) T.m__law_same T.F__law_same.kp (b__law_same T) passN (ap_cons (ed_ix (EP.s (ed_var 0)) (EP.s (ed_var 2))) (ap_cons (ed_ix (EP.s (ed_var 1)) (EP.s (ed_var 2))) ap_nil)))))) (ss_ret (mk := fun t37 => (t37, [])) ed_bool (fun _ => .refl) (fun _ _ _ _ _ _ t r => back_d _ _ _ _ _ _ t r)) (ss_nil (n := ()) (asOf []) rfl .refl (.keep (.keep (.drop .nil))))))) (fun n38 as17 => (ss_ret (mk := fun t40 => (t40, [])) ed_bool (fun _ => .refl) (fun _ _ _ _ _ _ t r => back_d _ _ _ _ _ _ t r))))) (ss_ifE (tp_cmp o_is (EP.s (ed_var 1)) (EP.s ed_none)) (ss_ret (mk := fun t52 => (t52, [])) (ed_cmp o_is (EP.s (ed_var 0)) (EP.s ed_none)) (fun _ => .refl) (fun _ _ _ _ _ _ t r => back_d _ _ _ _ _ _ t r)) (ss_ifE (tp_truth (EP.s (ed_isi (T := "str") T.z_isinstance T.z_str (EP.s (ed_var 1))))) (ss_ret (mk := fun t64 => (t64, [])) (ed_and (ed_isi (T := "str") T.z_isinstance T.z_str (EP.s (ed_var 0))) (ed_one (ed_cmp (o_eq hr.units) (EP.s (ed_var 0)) (EP.s (ed_var 1))))) (fun _ => .refl) (fun _ _ _ _ _ _ t r => back_d _ _ _ _ _ _ t r)) (ss_ifE (tp_truth (EP.s (ed_isi (T := "bool") T.z_isinstance T.z_bool (EP.s (ed_var 1))))) (ss_ret (mk := fun t76 => (t76, [])) (ed_and (ed_isi (T := "bool") T.z_isinstance T.z_bool (EP.s (ed_var 0))) (ed_one (ed_cmp (o_eq hr.units) (EP.s (ed_var 0)) (EP.s (ed_var 1))))) (fun _ => .refl) (fun _ _ _ _ _ _ t r => back_d _ _ _ _ _ _ t r)) (ss_ret (mk := fun t86 => (t86, [])) (ed_and (ep_call (ok__law_is_integer T) back_d (hr.mono (by omega)) T.m__law_is_integer T.F__law_is_integer.kp (b__law_is_integer T) passN (ap_cons (ed_var 0) ap_nil)) (ed_one (ed_cmp (o_eq hr.units) (EP.s (ed_var 0)) (EP.s (ed_var 1))))) (fun _ => .refl) (fun _ _ _ _ _ _ t r => back_d _ _ _ _ _ _ t r)))))), ?_⟩
    rfl
theorem ok__law_same (T : Txt K mg) (n : Nat) : FnOk P w K mg base CX0 (2 + n) T.a__law_same T.d__law_same ["told", "due"] (prm K mg [.d, .d] (RD K) (m__law_same n)) := okg__law_same T n
theorem ok__law_letters (T : Txt K mg) : FnOk P w K mg base CX0 1 T.a__law_letters T.d__law_letters [] (prm K mg [] (RD K) m__law_letters) := by
  refine fnE (k := 0) T.F__law_letters sc__law_letters rfl (by decide) fun cdv A outer s H E hr => ⟨_, (ss_asg 0 sc__law_letters.nd ed_str (fun v1 => (ss_ret (mk := fun t5 => (t5, [])) (ep_op o_add (EP.s (ed_var 0)) (EP.s ed_str)) (fun _ => .refl) (fun _ _ _ _ _ _ t r => back_d _ _ _ _ _ _ t r)))), ?_⟩
  rfl
theorem ok__law_alphabet (T : Txt K mg) : FnOk P w K mg base CX0 2 T.a__law_alphabet T.d__law_alphabet ["pool"] (prm K mg [.c] (RD K) m__law_alphabet) := by
  refine fnE (k := 1) T.F__law_alphabet sc__law_alphabet rfl (by decide) fun cdv A outer s H E hr => fun a_pool l_pool => ⟨_, (ss_asg 1 sc__law_alphabet.nd (ep_call0 (ok__law_letters T) (hr.mono (by omega)) T.m__law_letters T.F__law_letters.kp (b__law_letters T) passN) (fun v1 => (ss_ifEX (tx_cmp (o_eq hr.units) (ex_call (js := [0]) (ok__law_draw T) back_d (hr.mono (by omega)) T.m__law_draw T.F__law_draw.kp (b__law_draw T) passN (gx_c 0 0 (gx_d ed_int gx_nil))) (ex_ul (f := fun cs => cs) fun p9 => (ex_un (f := fun cs => CO.l p9 :: cs) (EP.x (EP.s ed_int))))) (ss_ul (f := fun cs => cs) fun p14 => (ss_un (f := fun cs => CO.l p14 :: cs) (ss_retX (mk := fun d cs => (d, cs)) (ex_op o_add (ex_ix (EP.x (ed_var 1)) (ex_ul (f := fun cs => cs) fun p17 => (ex_un (f := fun cs => CO.l p17 :: cs) (EX.s (ex_call (js := [0]) (ok__law_draw T) back_d (hr.mono (by omega)) T.m__law_draw T.F__law_draw.kp (b__law_draw T) passN (gx_c 0 0 (gx_d ed_int gx_nil))))))) (ex_ul (f := fun cs => cs) fun p26 => (ex_un (f := fun cs => CO.l p26 :: cs) (EX.s (ex_ix (EP.x (ed_var 1)) (ex_ul (f := fun cs => cs) fun p28 => (ex_un (f := fun cs => CO.l p28 :: cs) (EX.s (ex_call (js := [0]) (ok__law_draw T) back_d (hr.mono (by omega)) T.m__law_draw T.F__law_draw.kp (b__law_draw T) passN (gx_c 0 0 (gx_d ed_int gx_nil))))))))))) (fun _ _ => .refl) (fun _ _ _ _ _ _ _ t r => back_d _ _ _ _ _ _ t r)))) (ss_ul (f := fun cs => cs) fun p40 => (ss_un (f := fun cs => CO.l p40 :: cs) (ss_ret (mk := fun t42 => (t42, [CO.l p40])) (ed_var 1) (fun _ => .refl) (fun _ _ _ _ _ _ t r => back_d _ _ _ _ _ _ t r))))))), ?_⟩
  rfl
theorem okg__law_pieces (T : Txt K mg) : ∀ n : Nat, FnOk P w K mg base CX0 (3 + n) T.a__law_pieces T.d__law_pieces ["pool", "shape", "slots", "low", "room", "levels", "uses"] (prm K mg [.c, .d, .d, .d, .c, .d, .d] (RD K) (m__law_pieces n)) ∧ FnOk P w K mg base CX0 (3 + n) T.a__law_piece T.d__law_piece ["pool", "shape", "slots", "low", "room", "levels", "uses"] (prm K mg [.c, .d, .d, .d, .c, .d, .d] (RD K) (m__law_piece n))
  | 0 => ⟨fnE T.F__law_pieces sc__law_pieces rfl (by decide) fun cdv A outer s H E hr => fun a_pool l_pool x_shape x_slots x_low a_room l_room x_levels x_uses => ⟨.bad, ss_bad, rfl⟩, fnE T.F__law_piece sc__law_piece rfl (by decide) fun cdv A outer s H E hr => fun a_pool l_pool x_shape x_slots x_low a_room l_room x_levels x_uses => ⟨.bad, ss_bad, rfl⟩⟩
  | n + 1 => by
    have ih := okg__law_pieces T n
    obtain ⟨ih__law_pieces, ih__law_piece⟩ := ih
    refine ⟨?_, ?_⟩
    · refine fnE (k := 3 + n) T.F__law_pieces sc__law_pieces rfl (by decide) fun cdv A outer s H E hr => fun a_pool l_pool x_shape x_slots x_low a_room l_room x_levels x_uses => ⟨_, (ss_asgC 7 sc__law_pieces.nd (el_lst ap_nil) (fun a1 l2 nm_a1 => (ss_seqN (fun (n : PD × List CO) (as3 : As) => [some (.c a_pool), some (.d x_shape), some (.d x_slots), some (.d n.1), some (.c a_room), some (.d x_levels), some (.d x_uses), some (.c a1), none, none]) (fun (as3 : As) => [a1, a_pool, a_room]) (fun (n : PD × List CO) => n.2) (s1_forXN (fun (n : PD × List CO) (as3 : As) => [some (.c a_pool), some (.d x_shape), some (.d x_slots), some (.d n.1), some (.c a_room), some (.d x_levels), some (.d x_uses), some (.c a1), none, none]) (fun (as3 : As) => [a1, a_pool, a_room]) (fun (n : PD × List CO) => n.2) (un := Out.ok) (ρf := fun (n5 : PD × List CO) (as3 : As) (k4 : PD) => [some (.c a_pool), some (.d x_shape), some (.d x_slots), some (.d n5.1), some (.c a_room), some (.d x_levels), some (.d x_uses), some (.c a1), some (.d k4), none]) (asOf []) (fun cs1 => (x_low, cs1)) rfl (PassesOwn.never) (ix_range1X T.z_range (ex_ix (EX.l (xl_lst (ax_cons (EP.x ed_int) (ax_ul (f := fun cs => cs) fun p86 => (ax_ul (f := fun cs => CO.l p86 :: cs) fun p87 => (ax_ul (f := fun cs => CO.l p86 :: CO.l p87 :: cs) fun p88 => (ax_un (f := fun cs => CO.l p86 :: CO.l p87 :: CO.l p88 :: cs) (ax_cons (EP.x ed_int) (ax_ul (f := fun cs => cs) fun p90 => (ax_ul (f := fun cs => CO.l p90 :: cs) fun p91 => (ax_ul (f := fun cs => CO.l p90 :: CO.l p91 :: cs) fun p92 => (ax_un (f := fun cs => CO.l p90 :: CO.l p91 :: CO.l p92 :: cs) (ax_cons (EP.x ed_int) (ax_ul (f := fun cs => cs) fun p94 => (ax_ul (f := fun cs => CO.l p94 :: cs) fun p95 => (ax_ul (f := fun cs => CO.l p94 :: CO.l p95 :: cs) fun p96 => (ax_un (f := fun cs => CO.l p94 :: CO.l p95 :: CO.l p96 :: cs) (ax_cons (EP.x ed_int) (ax_ul (f := fun cs => cs) fun p98 => (ax_ul (f := fun cs => CO.l p98 :: cs) fun p99 => (ax_ul (f := fun cs => CO.l p98 :: CO.l p99 :: cs) fun p100 => (ax_un (f := fun cs => CO.l p98 :: CO.l p99 :: CO.l p100 :: cs) (ax_cons (EP.x ed_int) (ax_ul (f := fun cs => cs) fun p102 => (ax_ul (f := fun cs => CO.l p102 :: cs) fun p103 => (ax_ul (f := fun cs => CO.l p102 :: CO.l p103 :: cs) fun p104 => (ax_un (f := fun cs => CO.l p102 :: CO.l p103 :: CO.l p104 :: cs) (ax_cons (EP.x ed_int) (ax_ul (f := fun cs => cs) fun p106 => (ax_ul (f := fun cs => CO.l p106 :: cs) fun p107 => (ax_ul (f := fun cs => CO.l p106 :: CO.l p107 :: cs) fun p108 => (ax_un (f := fun cs => CO.l p106 :: CO.l p107 :: CO.l p108 :: cs) (ax_cons (EP.x ed_int) (ax_ul (f := fun cs => cs) fun p110 => (ax_ul (f := fun cs => CO.l p110 :: cs) fun p111 => (ax_ul (f := fun cs => CO.l p110 :: CO.l p111 :: cs) fun p112 => (ax_un (f := fun cs => CO.l p110 :: CO.l p111 :: CO.l p112 :: cs) (ax_cons (ex_call (js := [1]) (ok__law_draw T) back_d (hr.mono (by omega)) T.m__law_draw T.F__law_draw.kp (b__law_draw T) passN (gx_c 0 1 (gx_d (ep_op o_add (EP.s (ed_ix (es_cell 4 2) (EP.s ed_int))) (EP.s ed_int)) gx_nil))) (ax_ul (f := fun cs => cs) fun p122 => (ax_ul (f := fun cs => CO.l p122 :: cs) fun p123 => (ax_ul (f := fun cs => CO.l p122 :: CO.l p123 :: cs) fun p124 => (ax_un (f := fun cs => CO.l p122 :: CO.l p123 :: CO.l p124 :: cs) (AP.x ap_nil))))))))))))))))))))))))))))))))))))))))))) (ex_ul (f := fun cs => cs) fun p143 => (ex_ul (f := fun cs => CO.l p143 :: cs) fun p144 => (ex_ul (f := fun cs => CO.l p143 :: CO.l p144 :: cs) fun p145 => (ex_un (f := fun cs => CO.l p143 :: CO.l p144 :: CO.l p145 :: cs) (EX.s (ex_call (js := [1]) (ok__law_draw T) back_d (hr.mono (by omega)) T.m__law_draw T.F__law_draw.kp (b__law_draw T) passN (gx_c 0 1 (gx_d ed_int gx_nil)))))))))) (tg_name 8 sc__law_pieces.nd) (fun _ => .refl) (fun _ => (.keep (.keep (.keep (.keep (.keep (.keep (.keep (.keep (.keep (.keep .nil))))))))))) (fun _ _ _ => rfl) (fun _ _ _ h => nomatch h) (fun _ _ _ _ _ _ _ _ => trivial) (fun k4 n5 as3 => (ss_at (f := fun cs => cs) (cs := n5.2) (ss_ul (f := fun cs => cs) fun p9 => (ss_ul (f := fun cs => CO.l p9 :: cs) fun p10 => (ss_ul (f := fun cs => CO.l p9 :: CO.l p10 :: cs) fun p11 => (ss_un (f := fun cs => CO.l p9 :: CO.l p10 :: CO.l p11 :: cs) (ss_one (s1_if (tp_cmp o_gt (EP.s (ed_ix (es_cell 4 2) (EP.s ed_int))) (EP.s ed_int)) (ss_setP 4 2 (ep_op o_sub (EP.s (ed_ix (es_cell 4 2) (EP.s ed_int))) (EP.s ed_int)) ed_int (fun l20 => (ss_asgX 9 sc__law_pieces.nd (ex_call (js := [1, 2]) ih__law_piece back_d (hr.mono (by omega)) T.m__law_piece T.F__law_piece.kp (b__law_piece T) passN (gx_c 0 1 (gx_d (ed_var 1) (gx_d (ed_var 2) (gx_d (ed_var 3) (gx_c 4 2 (gx_d (ed_var 5) (gx_d (ed_var 6) gx_nil)))))))) (fun v25 => (ss_ul (f := fun cs => cs) fun p42 => (ss_ul (f := fun cs => CO.l p42 :: cs) fun p43 => (ss_ul (f := fun cs => CO.l p42 :: CO.l p43 :: cs) fun p44 => (ss_un (f := fun cs => CO.l p42 :: CO.l p43 :: CO.l p44 :: cs) (ss_asg 3 sc__law_pieces.nd (ed_ix (EP.s (ed_var 9)) (EP.s ed_int)) (fun v45 => (ss_one (s1_if (WP.t (wp_or (tp_cmp (o_eq hr.units) (EP.s (ep_callB c_len T.z_len (es_cell 7 0))) (EP.s ed_int)) (wp_or (tp_cmp (o_ne hr.units) (EP.s (ed_ix (EP.s (ed_ix (EP.s (ed_var 9)) (EP.s ed_int))) (EP.s ed_int))) (EP.s ed_str)) (wp_or1 (tp_cmp (o_ne hr.units) (EP.s (ed_ix (EP.s (ed_ix (es_cell 7 0) (EP.s (ed_neg (EP.s ed_int))))) (EP.s ed_int))) (EP.s ed_str)))))) (ss_appP 7 0 (ed_ix (EP.s (ed_var 9)) (EP.s ed_int)) (fun l69 => (ss_nil (n := (v45, [CO.l l69, CO.l p43, CO.l p44])) (asOf []) rfl .refl (.keep (.keep (.keep (.keep (.keep (.keep (.keep (.keep (.drop (.drop .nil))))))))))))) (ss_nil (n := (v45, [CO.l p42, CO.l p43, CO.l p44])) (asOf []) rfl .refl (.keep (.keep (.keep (.keep (.keep (.keep (.keep (.keep (.drop (.drop .nil))))))))))))))))))))))) (ss_nil (n := (n5.1, [CO.l p9, CO.l p10, CO.l p11])) (asOf []) rfl .refl (.keep (.keep (.keep (.keep (.keep (.keep (.keep (.keep (.drop (.keep .nil)))))))))))))))))))) (fun n72 as3 => (ss_at (f := fun cs => cs) (cs := n72.2) (ss_ul (f := fun cs => cs) fun p73 => (ss_ul (f := fun cs => CO.l p73 :: cs) fun p74 => (ss_ul (f := fun cs => CO.l p73 :: CO.l p74 :: cs) fun p75 => (ss_un (f := fun cs => CO.l p73 :: CO.l p74 :: CO.l p75 :: cs) (ss_ret (mk := fun t83 => (t83, [CO.l p74, CO.l p75])) (EP.l (el_lst (ap_cons (ep_callTy c_tuple T.z_tuple (es_cell 7 0)) (ap_cons (ed_var 3) ap_nil)))) (fun _ => (.drop .refl)) (fun _ _ _ _ _ _ t r => back_d _ _ _ _ _ _ t r))))))))))), ?_⟩
      rfl
    · refine fnE (k := 3 + n) T.F__law_piece sc__law_piece rfl (by decide) fun cdv A outer s H E hr => fun a_pool l_pool x_shape x_slots x_low a_room l_room x_levels x_uses => ⟨_, (ss_asgX 7 sc__law_piece.nd (ex_call (js := [0]) (ok__law_draw T) back_d (hr.mono (by omega)) T.m__law_draw T.F__law_draw.kp (b__law_draw T) passN (gx_c 0 0 (gx_d ed_int gx_nil))) (fun v1 => (ss_ul (f := fun cs => cs) fun p8 => (ss_ul (f := fun cs => CO.l p8 :: cs) fun p9 => (ss_un (f := fun cs => CO.l p8 :: CO.l p9 :: cs) (ss_ifE (WP.t (wp_and (tp_cmp (o_eq hr.units) (EP.s (ed_var 7)) (EP.s ed_int)) (wp_and1 (tp_cmp o_gt (EP.s (ep_callB c_len T.z_len (EP.s (ed_var 2)))) (EP.s ed_int))))) (ss_retX (mk := fun d cs => (d, cs)) (EX.l (xl_lst (ax_cons (ex_tup (ax_cons (EP.x ed_str) (ax_ul (f := fun cs => cs) fun p20 => (ax_ul (f := fun cs => CO.l p20 :: cs) fun p21 => (ax_un (f := fun cs => CO.l p20 :: CO.l p21 :: cs) (ax_cons (ex_ix (ex_ix (EP.x (ed_var 2)) (ex_ul (f := fun cs => cs) fun p23 => (ex_ul (f := fun cs => CO.l p23 :: cs) fun p24 => (ex_un (f := fun cs => CO.l p23 :: CO.l p24 :: cs) (EX.s (ex_call (js := [0]) (ok__law_draw T) back_d (hr.mono (by omega)) T.m__law_draw T.F__law_draw.kp (b__law_draw T) passN (gx_c 0 0 (gx_d (ep_callB c_len T.z_len (EP.s (ed_var 2))) gx_nil)))))))) (ex_ul (f := fun cs => cs) fun p34 => (ex_ul (f := fun cs => CO.l p34 :: cs) fun p35 => (ex_un (f := fun cs => CO.l p34 :: CO.l p35 :: cs) (EP.x (EP.s ed_int)))))) (ax_ul (f := fun cs => cs) fun p40 => (ax_ul (f := fun cs => CO.l p40 :: cs) fun p41 => (ax_un (f := fun cs => CO.l p40 :: CO.l p41 :: cs) (AP.x ap_nil)))))))))) (ax_ul (f := fun cs => cs) fun p48 => (ax_ul (f := fun cs => CO.l p48 :: cs) fun p49 => (ax_un (f := fun cs => CO.l p48 :: CO.l p49 :: cs) (AP.x (ap_cons (ed_var 3) ap_nil)))))))) (fun _ _ => .refl) (fun _ _ _ _ _ _ _ t r => back_d _ _ _ _ _ _ t r)) (ss_ifE (WP.t (wp_and (tp_cmp (o_eq hr.units) (EP.s (ed_var 7)) (EP.s ed_int)) (wp_and (tp_cmp o_gt (EP.s (ep_callB c_len T.z_len (EP.s (ed_var 2)))) (EP.s ed_int)) (wp_and1 (tp_cmp o_gt (EP.s (ed_var 5)) (EP.s ed_int)))))) (ss_asgX 8 sc__law_piece.nd (ex_ix (EP.x (ed_var 2)) (ex_ul (f := fun cs => cs) fun p70 => (ex_ul (f := fun cs => CO.l p70 :: cs) fun p71 => (ex_un (f := fun cs => CO.l p70 :: CO.l p71 :: cs) (EX.s (ex_call (js := [0]) (ok__law_draw T) back_d (hr.mono (by omega)) T.m__law_draw T.F__law_draw.kp (b__law_draw T) passN (gx_c 0 0 (gx_d (ep_callB c_len T.z_len (EP.s (ed_var 2))) gx_nil)))))))) (fun v67 => (ss_ul (f := fun cs => cs) fun p81 => (ss_ul (f := fun cs => CO.l p81 :: cs) fun p82 => (ss_un (f := fun cs => CO.l p81 :: CO.l p82 :: cs) (ss_asgX 9 sc__law_piece.nd (ex_ix (EP.x (ed_ix (EP.s (ed_var 8)) (EP.s ed_int))) (ex_ul (f := fun cs => cs) fun p88 => (ex_ul (f := fun cs => CO.l p88 :: cs) fun p89 => (ex_un (f := fun cs => CO.l p88 :: CO.l p89 :: cs) (EX.s (ex_call (js := [0]) (ok__law_draw T) back_d (hr.mono (by omega)) T.m__law_draw T.F__law_draw.kp (b__law_draw T) passN (gx_c 0 0 (gx_d (ep_callB c_len T.z_len (EP.s (ed_ix (EP.s (ed_var 8)) (EP.s ed_int)))) gx_nil)))))))) (fun v83 => (ss_ul (f := fun cs => cs) fun p101 => (ss_ul (f := fun cs => CO.l p101 :: cs) fun p102 => (ss_un (f := fun cs => CO.l p101 :: CO.l p102 :: cs) (ss_asgX 10 sc__law_piece.nd (ex_call (js := [0, 1]) ih__law_pieces back_d (hr.mono (by omega)) T.m__law_pieces T.F__law_pieces.kp (b__law_pieces T) passN (gx_c 0 0 (gx_d (ed_var 1) (gx_d (ed_var 2) (gx_d (ed_var 3) (gx_c 4 1 (gx_d (ep_op o_sub (EP.s (ed_var 5)) (EP.s ed_int)) (gx_d (ed_var 6) gx_nil)))))))) (fun v103 => (ss_ul (f := fun cs => cs) fun p122 => (ss_ul (f := fun cs => CO.l p122 :: cs) fun p123 => (ss_un (f := fun cs => CO.l p122 :: CO.l p123 :: cs) (ss_asgX 11 sc__law_piece.nd (ex_call (js := [0, 1]) ih__law_pieces back_d (hr.mono (by omega)) T.m__law_pieces T.F__law_pieces.kp (b__law_pieces T) passN (gx_c 0 0 (gx_d (ed_var 1) (gx_d (ed_var 2) (gx_d (ed_var 3) (gx_c 4 1 (gx_d (ep_op o_sub (EP.s (ed_var 5)) (EP.s ed_int)) (gx_d (ed_var 6) gx_nil)))))))) (fun v124 => (ss_ul (f := fun cs => cs) fun p143 => (ss_ul (f := fun cs => CO.l p143 :: cs) fun p144 => (ss_un (f := fun cs => CO.l p143 :: CO.l p144 :: cs) (ss_ret (mk := fun t177 => (t177, [CO.l p143, CO.l p144])) (EP.l (el_lst (ap_cons (ed_tup (ap_cons ed_str (ap_cons (ed_ix (EP.s (ed_var 8)) (EP.s ed_int)) (ap_cons (ed_var 9) (ap_cons (ed_ix (EP.s (ed_var 10)) (EP.s ed_int)) (ap_cons (ed_ix (EP.s (ed_var 11)) (EP.s ed_int)) ap_nil)))))) (ap_cons (ep_callA (c_max2 rfl) T.z_max (ap_cons (ed_ix (EP.s (ed_var 10)) (EP.s ed_int)) (ap_cons (ed_ix (EP.s (ed_var 11)) (EP.s ed_int)) ap_nil))) ap_nil)))) (fun _ => .refl) (fun _ _ _ _ _ _ t r => back_d _ _ _ _ _ _ t r)))))))))))))))))))))) (ss_ifE (WP.t (wp_and (tp_cmp (o_eq hr.units) (EP.s (ed_var 7)) (EP.s ed_int)) (wp_and (tp_cmp o_lt (EP.s (ed_var 3)) (EP.s (ep_callB c_len T.z_len (EP.s (ed_ix (EP.s (ed_var 1)) (EP.s ed_int)))))) (wp_and1 (tp_cmp o_gt (EP.s (ed_var 5)) (EP.s ed_int)))))) (ss_asgX 12 sc__law_piece.nd (ex_op o_add (EP.x (ed_var 3)) (ex_ul (f := fun cs => cs) fun p194 => (ex_ul (f := fun cs => CO.l p194 :: cs) fun p195 => (ex_un (f := fun cs => CO.l p194 :: CO.l p195 :: cs) (EX.s (ex_call (js := [0]) (ok__law_draw T) back_d (hr.mono (by omega)) T.m__law_draw T.F__law_draw.kp (b__law_draw T) passN (gx_c 0 0 (gx_d (ep_op o_sub (EP.s (ep_callB c_len T.z_len (EP.s (ed_ix (EP.s (ed_var 1)) (EP.s ed_int))))) (EP.s (ed_var 3))) gx_nil)))))))) (fun v191 => (ss_ul (f := fun cs => cs) fun p209 => (ss_ul (f := fun cs => CO.l p209 :: cs) fun p210 => (ss_un (f := fun cs => CO.l p209 :: CO.l p210 :: cs) (ss_asg 13 sc__law_piece.nd (ed_ix (EP.s (ed_ix (EP.s (ed_var 1)) (EP.s ed_int))) (EP.s (ed_var 12))) (fun v211 => (ss_asgX 14 sc__law_piece.nd (ex_call (js := [0, 1]) ih__law_pieces back_d (hr.mono (by omega)) T.m__law_pieces T.F__law_pieces.kp (b__law_pieces T) passN (gx_c 0 0 (gx_d (ed_ix (EP.s (ed_var 13)) (EP.s ed_int)) (gx_d (ep_op o_add (EP.s (ed_var 2)) (EP.s (ed_ix (EP.s (ed_ix (EP.s (ed_var 13)) (EP.s ed_int))) (EP.s ed_int)))) (gx_d ed_int (gx_c 4 1 (gx_d (ep_op o_sub (EP.s (ed_var 5)) (EP.s ed_int)) (gx_d (ed_var 6) gx_nil)))))))) (fun v216 => (ss_ul (f := fun cs => cs) fun p243 => (ss_ul (f := fun cs => CO.l p243 :: cs) fun p244 => (ss_un (f := fun cs => CO.l p243 :: CO.l p244 :: cs) (ss_asgX 15 sc__law_piece.nd (ex_call (js := [0]) (ok__law_text T) back_d (hr.mono (by omega)) T.m__law_text T.F__law_text.kp (b__law_text T) passN (gx_c 0 0 (gx_d (ed_ix (es_cell 4 1) (EP.s ed_int)) (gx_x (ex_callA (c_min2 rfl) T.z_min (ax_cons (EP.x (ed_ix (es_cell 4 1) (EP.s ed_int))) (ax_ul (f := fun cs => cs) fun p261 => (ax_ul (f := fun cs => CO.l p261 :: cs) fun p262 => (ax_un (f := fun cs => CO.l p261 :: CO.l p262 :: cs) (ax_cons (ex_ix (EX.l (xl_lst (ax_cons (EP.x ed_int) (ax_ul (f := fun cs => cs) fun p264 => (ax_ul (f := fun cs => CO.l p264 :: cs) fun p265 => (ax_un (f := fun cs => CO.l p264 :: CO.l p265 :: cs) (ax_cons (EP.x ed_int) (ax_ul (f := fun cs => cs) fun p267 => (ax_ul (f := fun cs => CO.l p267 :: cs) fun p268 => (ax_un (f := fun cs => CO.l p267 :: CO.l p268 :: cs) (ax_cons (EP.x ed_int) (ax_ul (f := fun cs => cs) fun p270 => (ax_ul (f := fun cs => CO.l p270 :: cs) fun p271 => (ax_un (f := fun cs => CO.l p270 :: CO.l p271 :: cs) (ax_cons (EP.x ed_int) (ax_ul (f := fun cs => cs) fun p273 => (ax_ul (f := fun cs => CO.l p273 :: cs) fun p274 => (ax_un (f := fun cs => CO.l p273 :: CO.l p274 :: cs) (ax_cons (ex_call (js := [0]) (ok__law_draw T) back_d (hr.mono (by omega)) T.m__law_draw T.F__law_draw.kp (b__law_draw T) passN (gx_c 0 0 (gx_d (ep_op o_add (EP.s (ed_ix (es_cell 4 1) (EP.s ed_int))) (EP.s ed_int)) gx_nil))) (ax_ul (f := fun cs => cs) fun p284 => (ax_ul (f := fun cs => CO.l p284 :: cs) fun p285 => (ax_un (f := fun cs => CO.l p284 :: CO.l p285 :: cs) (AP.x ap_nil))))))))))))))))))))))) (ex_ul (f := fun cs => cs) fun p298 => (ex_ul (f := fun cs => CO.l p298 :: cs) fun p299 => (ex_un (f := fun cs => CO.l p298 :: CO.l p299 :: cs) (EX.s (ex_call (js := [0]) (ok__law_draw T) back_d (hr.mono (by omega)) T.m__law_draw T.F__law_draw.kp (b__law_draw T) passN (gx_c 0 0 (gx_d ed_int gx_nil)))))))) (ax_ul (f := fun cs => cs) fun p308 => (ax_ul (f := fun cs => CO.l p308 :: cs) fun p309 => (ax_un (f := fun cs => CO.l p308 :: CO.l p309 :: cs) (AP.x ap_nil)))))))))) (gx_ul (f := fun cs => cs) fun p315 => (gx_ul (f := fun cs => CO.l p315 :: cs) fun p316 => (gx_un (f := fun cs => CO.l p315 :: CO.l p316 :: cs) gx_nil))))))) (fun v245 => (ss_ul (f := fun cs => cs) fun p317 => (ss_ul (f := fun cs => CO.l p317 :: cs) fun p318 => (ss_un (f := fun cs => CO.l p317 :: CO.l p318 :: cs) (ss_ret (mk := fun t340 => (t340, [CO.l p317, CO.l p318])) (EP.l (el_lst (ap_cons (ed_tup (ap_cons ed_str (ap_cons (ed_ix (EP.s (ed_var 13)) (EP.s ed_int)) (ap_cons (ed_ix (EP.s (ed_var 14)) (EP.s ed_int)) (ap_cons (ed_var 15) ap_nil))))) (ap_cons (ep_op o_add (EP.s (ed_var 12)) (EP.s ed_int)) ap_nil)))) (fun _ => .refl) (fun _ _ _ _ _ _ t r => back_d _ _ _ _ _ _ t r))))))))))))))))))) (ss_ifE (WP.t (wp_and (tp_cmp (o_eq hr.units) (EP.s (ed_var 7)) (EP.s ed_int)) (wp_and1 (tp_cmp o_gt (EP.s (ep_callB c_len T.z_len (EP.s (ed_var 6)))) (EP.s ed_int))))) (ss_retX (mk := fun d cs => (d, cs)) (EX.l (xl_lst (ax_cons (ex_tup (ax_cons (EP.x ed_str) (ax_ul (f := fun cs => cs) fun p351 => (ax_ul (f := fun cs => CO.l p351 :: cs) fun p352 => (ax_un (f := fun cs => CO.l p351 :: CO.l p352 :: cs) (ax_cons (ex_ix (EP.x (ed_var 6)) (ex_ul (f := fun cs => cs) fun p354 => (ex_ul (f := fun cs => CO.l p354 :: cs) fun p355 => (ex_un (f := fun cs => CO.l p354 :: CO.l p355 :: cs) (EX.s (ex_call (js := [0]) (ok__law_draw T) back_d (hr.mono (by omega)) T.m__law_draw T.F__law_draw.kp (b__law_draw T) passN (gx_c 0 0 (gx_d (ep_callB c_len T.z_len (EP.s (ed_var 6))) gx_nil)))))))) (ax_ul (f := fun cs => cs) fun p365 => (ax_ul (f := fun cs => CO.l p365 :: cs) fun p366 => (ax_un (f := fun cs => CO.l p365 :: CO.l p366 :: cs) (AP.x ap_nil)))))))))) (ax_ul (f := fun cs => cs) fun p373 => (ax_ul (f := fun cs => CO.l p373 :: cs) fun p374 => (ax_un (f := fun cs => CO.l p373 :: CO.l p374 :: cs) (AP.x (ap_cons (ed_var 3) ap_nil)))))))) (fun _ _ => .refl) (fun _ _ _ _ _ _ _ t r => back_d _ _ _ _ _ _ t r)) (ss_asgX 16 sc__law_piece.nd (ex_callA (c_min2 rfl) T.z_min (ax_cons (EP.x (ed_ix (es_cell 4 1) (EP.s ed_int))) (ax_ul (f := fun cs => cs) fun p388 => (ax_ul (f := fun cs => CO.l p388 :: cs) fun p389 => (ax_un (f := fun cs => CO.l p388 :: CO.l p389 :: cs) (ax_cons (ex_ix (EX.l (xl_lst (ax_cons (EP.x ed_int) (ax_ul (f := fun cs => cs) fun p391 => (ax_ul (f := fun cs => CO.l p391 :: cs) fun p392 => (ax_un (f := fun cs => CO.l p391 :: CO.l p392 :: cs) (ax_cons (EP.x ed_int) (ax_ul (f := fun cs => cs) fun p394 => (ax_ul (f := fun cs => CO.l p394 :: cs) fun p395 => (ax_un (f := fun cs => CO.l p394 :: CO.l p395 :: cs) (ax_cons (EP.x ed_int) (ax_ul (f := fun cs => cs) fun p397 => (ax_ul (f := fun cs => CO.l p397 :: cs) fun p398 => (ax_un (f := fun cs => CO.l p397 :: CO.l p398 :: cs) (ax_cons (EP.x ed_int) (ax_ul (f := fun cs => cs) fun p400 => (ax_ul (f := fun cs => CO.l p400 :: cs) fun p401 => (ax_un (f := fun cs => CO.l p400 :: CO.l p401 :: cs) (ax_cons (ex_op o_add (EP.x ed_int) (ex_ul (f := fun cs => cs) fun p403 => (ex_ul (f := fun cs => CO.l p403 :: cs) fun p404 => (ex_un (f := fun cs => CO.l p403 :: CO.l p404 :: cs) (EX.s (ex_call (js := [0]) (ok__law_draw T) back_d (hr.mono (by omega)) T.m__law_draw T.F__law_draw.kp (b__law_draw T) passN (gx_c 0 0 (gx_d (ed_ix (es_cell 4 1) (EP.s ed_int)) gx_nil)))))))) (ax_ul (f := fun cs => cs) fun p415 => (ax_ul (f := fun cs => CO.l p415 :: cs) fun p416 => (ax_un (f := fun cs => CO.l p415 :: CO.l p416 :: cs) (AP.x ap_nil))))))))))))))))))))))) (ex_ul (f := fun cs => cs) fun p429 => (ex_ul (f := fun cs => CO.l p429 :: cs) fun p430 => (ex_un (f := fun cs => CO.l p429 :: CO.l p430 :: cs) (EX.s (ex_call (js := [0]) (ok__law_draw T) back_d (hr.mono (by omega)) T.m__law_draw T.F__law_draw.kp (b__law_draw T) passN (gx_c 0 0 (gx_d ed_int gx_nil)))))))) (ax_ul (f := fun cs => cs) fun p439 => (ax_ul (f := fun cs => CO.l p439 :: cs) fun p440 => (ax_un (f := fun cs => CO.l p439 :: CO.l p440 :: cs) (AP.x ap_nil)))))))))) (fun v381 => (ss_ul (f := fun cs => cs) fun p446 => (ss_ul (f := fun cs => CO.l p446 :: cs) fun p447 => (ss_un (f := fun cs => CO.l p446 :: CO.l p447 :: cs) (ss_retX (mk := fun d cs => (d, cs)) (EX.l (xl_lst (ax_cons (ex_tup (ax_cons (EP.x ed_str) (ax_ul (f := fun cs => cs) fun p450 => (ax_ul (f := fun cs => CO.l p450 :: cs) fun p451 => (ax_un (f := fun cs => CO.l p450 :: CO.l p451 :: cs) (ax_cons (ex_call (js := [0]) (ok__law_text T) back_d (hr.mono (by omega)) T.m__law_text T.F__law_text.kp (b__law_text T) passN (gx_c 0 0 (gx_d (ed_ix (es_cell 4 1) (EP.s ed_int)) (gx_d (ed_var 16) gx_nil)))) (ax_ul (f := fun cs => cs) fun p461 => (ax_ul (f := fun cs => CO.l p461 :: cs) fun p462 => (ax_un (f := fun cs => CO.l p461 :: CO.l p462 :: cs) (AP.x ap_nil)))))))))) (ax_ul (f := fun cs => cs) fun p469 => (ax_ul (f := fun cs => CO.l p469 :: cs) fun p470 => (ax_un (f := fun cs => CO.l p469 :: CO.l p470 :: cs) (AP.x (ap_cons (ed_var 3) ap_nil)))))))) (fun _ _ => .refl) (fun _ _ _ _ _ _ _ t r => back_d _ _ _ _ _ _ t r)))))))))))))))), ?_⟩
      rfl
theorem ok__law_pieces (T : Txt K mg) (n : Nat) : FnOk P w K mg base CX0 (3 + n) T.a__law_pieces T.d__law_pieces ["pool", "shape", "slots", "low", "room", "levels", "uses"] (prm K mg [.c, .d, .d, .d, .c, .d, .d] (RD K) (m__law_pieces n)) := (okg__law_pieces T n).1
theorem ok__law_piece (T : Txt K mg) (n : Nat) : FnOk P w K mg base CX0 (3 + n) T.a__law_piece T.d__law_piece ["pool", "shape", "slots", "low", "room", "levels", "uses"] (prm K mg [.c, .d, .d, .d, .c, .d, .d] (RD K) (m__law_piece n)) := (okg__law_pieces T n).2
theorem ok_text_piece (T : Txt K mg) : FnOk P w K mg base CX0 1 T.a_text_piece T.d_text_piece ["word"] (prm K mg [.d] (RD K) m_text_piece) := by
  refine fnE (k := 0) T.F_text_piece sc_text_piece rfl (by decide) fun cdv A outer s H E hr => fun x_word => ⟨_, (ss_ret (mk := fun t7 => (t7, [])) (ed_tup (ap_cons ed_str (ap_cons (ed_var 0) ap_nil))) (fun _ => .refl) (fun _ _ _ _ _ _ t r => back_d _ _ _ _ _ _ t r)), ?_⟩
  rfl
theorem ok_hole (T : Txt K mg) : FnOk P w K mg base CX0 1 T.a_hole T.d_hole ["field"] (prm K mg [.d] (RD K) m_hole) := by
  refine fnE (k := 0) T.F_hole sc_hole rfl (by decide) fun cdv A outer s H E hr => fun x_field => ⟨_, (ss_ret (mk := fun t7 => (t7, [])) (ed_tup (ap_cons ed_str (ap_cons (ed_var 0) ap_nil))) (fun _ => .refl) (fun _ _ _ _ _ _ t r => back_d _ _ _ _ _ _ t r)), ?_⟩
  rfl
theorem ok_use (T : Txt K mg) : FnOk P w K mg base CX0 1 T.a_use T.d_use ["part"] (prm K mg [.d] (RD K) m_use) := by
  refine fnE (k := 0) T.F_use sc_use rfl (by decide) fun cdv A outer s H E hr => fun x_part => ⟨_, (ss_ret (mk := fun t7 => (t7, [])) (ed_tup (ap_cons ed_str (ap_cons (ed_var 0) ap_nil))) (fun _ => .refl) (fun _ _ _ _ _ _ t r => back_d _ _ _ _ _ _ t r)), ?_⟩
  rfl
theorem ok_choice (T : Txt K mg) : FnOk P w K mg base CX0 1 T.a_choice T.d_choice ["field", "word", "yes", "otherwise"] (prm K mg [.d, .d, .d, .d] (RD K) m_choice) := by
  refine fnE (k := 0) T.F_choice sc_choice rfl (by decide) fun cdv A outer s H E hr => fun x_field x_word x_yes x_otherwise => ⟨_, (ss_ret (mk := fun t13 => (t13, [])) (ed_tup (ap_cons ed_str (ap_cons (ed_var 0) (ap_cons (ed_var 1) (ap_cons (ed_var 2) (ap_cons (ed_var 3) ap_nil)))))) (fun _ => .refl) (fun _ _ _ _ _ _ t r => back_d _ _ _ _ _ _ t r)), ?_⟩
  rfl
theorem ok_loop (T : Txt K mg) : FnOk P w K mg base CX0 1 T.a_loop T.d_loop ["name", "body", "between"] (prm K mg [.d, .d, .d] (RD K) m_loop) := by
  refine fnE (k := 0) T.F_loop sc_loop rfl (by decide) fun cdv A outer s H E hr => fun x_name x_body x_between => ⟨_, (ss_ret (mk := fun t11 => (t11, [])) (ed_tup (ap_cons ed_str (ap_cons (ed_var 0) (ap_cons (ed_var 1) (ap_cons (ed_var 2) ap_nil))))) (fun _ => .refl) (fun _ _ _ _ _ _ t r => back_d _ _ _ _ _ _ t r)), ?_⟩
  rfl
theorem okg__law_made (T : Txt K mg) : ∀ n : Nat, FnOk P w K mg base CX0 (2 + n) T.a__law_made T.d__law_made ["pieces"] (prm K mg [.d] (RD K) (m__law_made n))
  | 0 => fnE T.F__law_made sc__law_made rfl (by decide) fun cdv A outer s H E hr => fun x_pieces => ⟨.bad, ss_bad, rfl⟩
  | n + 1 => by
    have ih := okg__law_made T n
    have ih__law_made := ih
    refine fnE (k := 2 + n) T.F__law_made sc__law_made rfl (by decide) fun cdv A outer s H E hr => fun x_pieces => ⟨_, (ss_asgC 1 sc__law_made.nd (el_lst ap_nil) (fun a1 l2 nm_a1 => (ss_seqN (fun (n : List PD) (as3 : As) => [some (.d x_pieces), some (.c a1), none]) (fun (as3 : As) => [a1]) (fun (n : List PD) => [CO.l n]) (s1_forN (fun (n : List PD) (as3 : As) => [some (.d x_pieces), some (.c a1), none]) (fun (as3 : As) => [a1]) (fun (n : List PD) => [CO.l n]) (un := Out.ok) (ρf := fun (n5 : List PD) (as3 : As) (k4 : PD) => [some (.d x_pieces), some (.c a1), some (.d k4)]) (asOf []) (l2) rfl (PassesOwn.never) (ix_data (ed_var 0)) (tg_name 2 sc__law_made.nd) .refl (.keep (.keep (.keep .nil))) (fun _ _ _ => rfl) (fun _ _ _ h => nomatch h) (fun _ _ _ _ _ _ _ => trivial) (fun k4 n5 as3 => (ss_one (s1_if (tp_cmp (o_eq hr.units) (EP.s (ed_ix (EP.s (ed_var 2)) (EP.s ed_int))) (EP.s ed_str)) (ss_appP 1 0 (ep_call (ok_text_piece T) back_d (hr.mono (by omega)) T.m_text_piece T.F_text_piece.kp (b_text_piece T) passN (ap_cons (ed_ix (EP.s (ed_var 2)) (EP.s ed_int)) ap_nil)) (fun l16 => (ss_nil (n := (l16)) (asOf []) rfl .refl (.keep (.keep (.drop .nil)))))) (ss_one (s1_if (tp_cmp (o_eq hr.units) (EP.s (ed_ix (EP.s (ed_var 2)) (EP.s ed_int))) (EP.s ed_str)) (ss_appP 1 0 (ep_call (ok_hole T) back_d (hr.mono (by omega)) T.m_hole T.F_hole.kp (b_hole T) passN (ap_cons (ed_ix (EP.s (ed_var 2)) (EP.s ed_int)) ap_nil)) (fun l29 => (ss_nil (n := (l29)) (asOf []) rfl .refl (.keep (.keep (.drop .nil)))))) (ss_one (s1_if (tp_cmp (o_eq hr.units) (EP.s (ed_ix (EP.s (ed_var 2)) (EP.s ed_int))) (EP.s ed_str)) (ss_appP 1 0 (ep_call (ok_use T) back_d (hr.mono (by omega)) T.m_use T.F_use.kp (b_use T) passN (ap_cons (ed_ix (EP.s (ed_var 2)) (EP.s ed_int)) ap_nil)) (fun l42 => (ss_nil (n := (l42)) (asOf []) rfl .refl (.keep (.keep (.drop .nil)))))) (ss_one (s1_if (WP.t (wp_and (tp_cmp (o_eq hr.units) (EP.s (ed_ix (EP.s (ed_var 2)) (EP.s ed_int))) (EP.s ed_str)) (wp_and1 (tp_cmp (o_eq hr.units) (EP.s (ed_ix (EP.s (ed_var 2)) (EP.s ed_int))) (EP.s (ed_tup ap_nil)))))) (ss_appP 1 0 (ep_callD (ok_choice T) back_d (hr.mono (by omega)) T.m_choice T.F_choice.kp (bd_choice T) T.u_choice passN (ap_cons (ed_ix (EP.s (ed_var 2)) (EP.s ed_int)) (ap_cons (ed_ix (EP.s (ed_var 2)) (EP.s ed_int)) (ap_cons (ep_call ih__law_made back_d (hr.mono (by omega)) T.m__law_made T.F__law_made.kp (b__law_made T) passN (ap_cons (ed_ix (EP.s (ed_var 2)) (EP.s ed_int)) ap_nil)) ap_nil)))) (fun l61 => (ss_nil (n := (l61)) (asOf []) rfl .refl (.keep (.keep (.drop .nil)))))) (ss_one (s1_if (tp_cmp (o_eq hr.units) (EP.s (ed_ix (EP.s (ed_var 2)) (EP.s ed_int))) (EP.s ed_str)) (ss_appP 1 0 (ep_callQ (ok_choice T) back_d (hr.mono (by omega)) T.m_choice T.F_choice.kp (bq_choice T) passN (ap_cons (ed_ix (EP.s (ed_var 2)) (EP.s ed_int)) (ap_cons (ed_ix (EP.s (ed_var 2)) (EP.s ed_int)) (ap_cons (ep_call ih__law_made back_d (hr.mono (by omega)) T.m__law_made T.F__law_made.kp (b__law_made T) passN (ap_cons (ed_ix (EP.s (ed_var 2)) (EP.s ed_int)) ap_nil)) ap_nil))) (ep_call ih__law_made back_d (hr.mono (by omega)) T.m__law_made T.F__law_made.kp (b__law_made T) passN (ap_cons (ed_ix (EP.s (ed_var 2)) (EP.s ed_int)) ap_nil))) (fun l85 => (ss_nil (n := (l85)) (asOf []) rfl .refl (.keep (.keep (.drop .nil)))))) (ss_one (s1_if (tp_cmp (o_eq hr.units) (EP.s (ed_ix (EP.s (ed_var 2)) (EP.s ed_int))) (EP.s ed_str)) (ss_appP 1 0 (ep_callD (ok_loop T) back_d (hr.mono (by omega)) T.m_loop T.F_loop.kp (bd_loop T) T.u_loop passN (ap_cons (ed_ix (EP.s (ed_var 2)) (EP.s ed_int)) (ap_cons (ep_call ih__law_made back_d (hr.mono (by omega)) T.m__law_made T.F__law_made.kp (b__law_made T) passN (ap_cons (ed_ix (EP.s (ed_var 2)) (EP.s ed_int)) ap_nil)) ap_nil))) (fun l115 => (ss_nil (n := (l115)) (asOf []) rfl .refl (.keep (.keep (.drop .nil)))))) (ss_appP 1 0 (ep_callQ (ok_loop T) back_d (hr.mono (by omega)) T.m_loop T.F_loop.kp (bq_loop T) passN (ap_cons (ed_ix (EP.s (ed_var 2)) (EP.s ed_int)) (ap_cons (ep_call ih__law_made back_d (hr.mono (by omega)) T.m__law_made T.F__law_made.kp (b__law_made T) passN (ap_cons (ed_ix (EP.s (ed_var 2)) (EP.s ed_int)) ap_nil)) ap_nil)) (ed_ix (EP.s (ed_var 2)) (EP.s ed_int))) (fun l129 => (ss_nil (n := (l129)) (asOf []) rfl .refl (.keep (.keep (.drop .nil)))))))))))))))))))) (fun n145 as3 => (ss_ret (mk := fun t148 => (t148, [])) (ep_callTy c_tuple T.z_tuple (es_cell 1 0)) (fun _ => (.drop .refl)) (fun _ _ _ _ _ _ t r => back_d _ _ _ _ _ _ t r)))))), ?_⟩
    rfl
theorem ok__law_made (T : Txt K mg) (n : Nat) : FnOk P w K mg base CX0 (2 + n) T.a__law_made T.d__law_made ["pieces"] (prm K mg [.d] (RD K) (m__law_made n)) := okg__law_made T n
theorem okg__law_measured (T : Txt K mg) : ∀ n : Nat, FnOk P w K mg base CX0 (1 + n) T.a__law_measured T.d__law_measured ["pieces"] (prm K mg [.d] (RD K) (m__law_measured n))
  | 0 => fnE T.F__law_measured sc__law_measured rfl (by decide) fun cdv A outer s H E hr => fun x_pieces => ⟨.bad, ss_bad, rfl⟩
  | n + 1 => by
    have ih := okg__law_measured T n
    have ih__law_measured := ih
    refine fnE (k := 1 + n) T.F__law_measured sc__law_measured rfl (by decide) fun cdv A outer s H E hr => fun x_pieces => ⟨_, (ss_asgC 1 sc__law_measured.nd (el_lst (ap_cons ed_int (ap_cons ed_int (ap_cons ed_int ap_nil)))) (fun a1 l2 nm_a1 => (ss_seqN (fun (n : List PD) (as9 : As) => [some (.d x_pieces), some (.c (as9 0)), none, none, none, none]) (fun (as9 : As) => [(as9 0)]) (fun (n : List PD) => [CO.l n]) (s1_forN (fun (n : List PD) (as9 : As) => [some (.d x_pieces), some (.c (as9 0)), none, none, none, none]) (fun (as9 : As) => [(as9 0)]) (fun (n : List PD) => [CO.l n]) (un := Out.ok) (ρf := fun (n11 : List PD) (as9 : As) (k10 : PD) => [some (.d x_pieces), some (.c (as9 0)), some (.d k10), none, none, none]) (asOf [a1]) (l2) rfl (PassesOwn.never) (ix_data (ed_var 0)) (tg_name 2 sc__law_measured.nd) .refl (.keep (.keep (.keep (.keep (.keep (.keep .nil)))))) (fun _ _ _ => rfl) (fun _ _ _ h => nomatch h) (fun _ _ _ _ _ _ _ => trivial) (fun k10 n11 as9 => (ss_setP 1 0 (ep_op o_add (EP.s (ed_ix (es_cell 1 0) (EP.s ed_int))) (EP.s ed_int)) ed_int (fun l17 => (ss_asg 3 sc__law_measured.nd (EP.l (el_lst ap_nil)) (fun v22 => (ss_seqN (fun (n : PD × List PD) (as26 : As) => [some (.d x_pieces), some (.c (as9 0)), some (.d k10), some (.d n.1), none, none]) (fun (as26 : As) => [(as9 0)]) (fun (n : PD × List PD) => [CO.l n.2]) (s1_if (tp_cmp (o_eq hr.units) (EP.s (ed_ix (EP.s (ed_var 2)) (EP.s ed_int))) (EP.s ed_str)) (ss_setP 1 0 (ep_op o_add (EP.s (ed_ix (es_cell 1 0) (EP.s ed_int))) (EP.s (ep_callB c_len T.z_len (EP.s (ed_ix (EP.s (ed_var 2)) (EP.s ed_int)))))) ed_int (fun l33 => (ss_nil (n := (v22, l33)) (asOf []) rfl .refl (.keep (.keep (.keep (.keep (.keep (.keep .nil))))))))) (ss_one (s1_if (tp_cmp (o_eq hr.units) (EP.s (ed_ix (EP.s (ed_var 2)) (EP.s ed_int))) (EP.s ed_str)) (ss_setP 1 0 (ep_op o_add (EP.s (ed_ix (es_cell 1 0) (EP.s ed_int))) (EP.s ed_int)) ed_int (fun l49 => (ss_nil (n := (v22, l49)) (asOf []) rfl .refl (.keep (.keep (.keep (.keep (.keep (.keep .nil))))))))) (ss_one (s1_if (tp_cmp (o_eq hr.units) (EP.s (ed_ix (EP.s (ed_var 2)) (EP.s ed_int))) (EP.s ed_str)) (ss_asg 3 sc__law_measured.nd (EP.l (el_lst (ap_cons (ed_ix (EP.s (ed_var 2)) (EP.s ed_int)) (ap_cons (ed_ix (EP.s (ed_var 2)) (EP.s ed_int)) ap_nil)))) (fun v60 => (ss_nil (n := (v60, l17)) (asOf []) rfl .refl (.keep (.keep (.keep (.keep (.keep (.keep .nil))))))))) (ss_one (s1_if (tp_cmp (o_eq hr.units) (EP.s (ed_ix (EP.s (ed_var 2)) (EP.s ed_int))) (EP.s ed_str)) (ss_asg 3 sc__law_measured.nd (EP.l (el_lst (ap_cons (ed_ix (EP.s (ed_var 2)) (EP.s ed_int)) ap_nil))) (fun v76 => (ss_setP 1 0 (ep_op o_add (EP.s (ed_ix (es_cell 1 0) (EP.s ed_int))) (EP.s (ep_callB c_len T.z_len (EP.s (ed_ix (EP.s (ed_var 2)) (EP.s ed_int)))))) ed_int (fun l84 => (ss_nil (n := (v76, l84)) (asOf []) rfl .refl (.keep (.keep (.keep (.keep (.keep (.keep .nil))))))))))) (ss_nil (n := (v22, l17)) (asOf []) rfl .refl (.keep (.keep (.keep (.keep (.keep (.keep .nil)))))))))))))) (fun n92 as26 => (ss_seqN (fun (n : List PD) (as93 : As) => [some (.d x_pieces), some (.c (as93 0)), some (.d k10), some (.d n92.1), none, none]) (fun (as93 : As) => [(as93 0)]) (fun (n : List PD) => [CO.l n]) (s1_forN (fun (n : List PD) (as93 : As) => [some (.d x_pieces), some (.c (as93 0)), some (.d k10), some (.d n92.1), none, none]) (fun (as93 : As) => [(as93 0)]) (fun (n : List PD) => [CO.l n]) (un := Out.ok) (ρf := fun (n95 : List PD) (as93 : As) (k94 : PD) => [some (.d x_pieces), some (.c (as93 0)), some (.d k10), some (.d n92.1), some (.d k94), none]) (asOf [(as9 0)]) (n92.2) rfl (PassesOwn.never) (ix_data (ed_var 3)) (tg_name 4 sc__law_measured.nd) .refl (.keep (.keep (.keep (.keep (.keep (.keep .nil)))))) (fun _ _ _ => rfl) (fun _ _ _ h => nomatch h) (fun _ _ _ _ _ _ _ => trivial) (fun k94 n95 as93 => (ss_asg 5 sc__law_measured.nd (ep_call ih__law_measured back_d (hr.mono (by omega)) T.m__law_measured T.F__law_measured.kp (b__law_measured T) passN (ap_cons (ed_var 4) ap_nil)) (fun v99 => (ss_asgC 1 sc__law_measured.nd (el_lst (ap_cons (ep_op o_add (EP.s (ed_ix (es_cell 1 0) (EP.s ed_int))) (EP.s (ed_ix (EP.s (ed_var 5)) (EP.s ed_int)))) (ap_cons (ep_callA (c_max2 rfl) T.z_max (ap_cons (ed_ix (es_cell 1 0) (EP.s ed_int)) (ap_cons (ep_op o_add (EP.s ed_int) (EP.s (ed_ix (EP.s (ed_var 5)) (EP.s ed_int)))) ap_nil))) (ap_cons (ep_op o_add (EP.s (ed_ix (es_cell 1 0) (EP.s ed_int))) (EP.s (ed_ix (EP.s (ed_var 5)) (EP.s ed_int)))) ap_nil)))) (fun a103 l104 nm_a103 => (ss_nil (n := (l104)) (asOf [a103]) rfl (.keep (.drop .refl)) (.keep (.keep (.keep (.keep (.drop (.drop .nil))))))))))))) (fun n134 as93 => (ss_nil (n := (n134)) (asOf [(as93 0)]) rfl .refl (.keep (.keep (.drop (.drop (.keep (.keep .nil))))))))))))))))) (fun n137 as9 => (ss_frz' 0 (ds := n137) rfl rfl (by simp) (.keep (.frz (.keep (.keep (.keep (.keep .nil)))))) (ss_ret (mk := fun t139 => (t139, [])) (ed_var 1) (fun _ => .refl) (fun _ _ _ _ _ _ t r => back_d _ _ _ _ _ _ t r))))))), ?_⟩
    rfl
theorem ok__law_measured (T : Txt K mg) (n : Nat) : FnOk P w K mg base CX0 (1 + n) T.a__law_measured T.d__law_measured ["pieces"] (prm K mg [.d] (RD K) (m__law_measured n)) := okg__law_measured T n
theorem okg_count_pieces (T : Txt K mg) : ∀ n : Nat, FnOk P w K mg base CX0 (1 + n) T.a_count_pieces T.d_count_pieces ["pieces"] (prm K mg [.d] (RD K) (m_count_pieces n))
  | 0 => fnE T.F_count_pieces sc_count_pieces rfl (by decide) fun cdv A outer s H E hr => fun x_pieces => ⟨.bad, ss_bad, rfl⟩
  | n + 1 => by
    have ih := okg_count_pieces T n
    have ih_count_pieces := ih
    refine fnE (k := 1 + n) T.F_count_pieces sc_count_pieces rfl (by decide) fun cdv A outer s H E hr => fun x_pieces => ⟨_, (ss_asg 1 sc_count_pieces.nd ed_int (fun v1 => (ss_seqN (fun (n : PD) (as2 : As) => [some (.d x_pieces), some (.d n), none]) (fun (as2 : As) => []) (fun (n : PD) => []) (s1_forN (fun (n : PD) (as2 : As) => [some (.d x_pieces), some (.d n), none]) (fun (as2 : As) => []) (fun (n : PD) => []) (un := Out.ok) (ρf := fun (n4 : PD) (as2 : As) (k3 : PD) => [some (.d x_pieces), some (.d n4), some (.d k3)]) (asOf []) (v1) rfl (PassesOwn.never) (ix_data (ed_var 0)) (tg_name 2 sc_count_pieces.nd) .refl (.keep (.keep (.keep .nil))) (fun _ _ _ => rfl) (fun _ _ _ h => nomatch h) (fun _ _ _ _ _ _ _ => trivial) (fun k3 n4 as2 => (ss_aug 1 oi_add' sc_count_pieces.nd ed_int (fun v9 => (ss_one (s1_if (tp_cmp (o_eq hr.units) (EP.s (ed_ix (EP.s (ed_var 2)) (EP.s ed_int))) (EP.s ed_str)) (ss_aug 1 oi_add' sc_count_pieces.nd (ep_op o_add (EP.s (ep_call ih_count_pieces back_d (hr.mono (by omega)) T.m_count_pieces T.F_count_pieces.kp (b_count_pieces T) passN (ap_cons (ed_ix (EP.s (ed_var 2)) (EP.s ed_int)) ap_nil))) (EP.s (ep_call ih_count_pieces back_d (hr.mono (by omega)) T.m_count_pieces T.F_count_pieces.kp (b_count_pieces T) passN (ap_cons (ed_ix (EP.s (ed_var 2)) (EP.s ed_int)) ap_nil)))) (fun v29 => (ss_nil (n := (v29)) (asOf []) rfl .refl (.keep (.keep (.drop .nil)))))) (ss_one (s1_if (tp_cmp (o_eq hr.units) (EP.s (ed_ix (EP.s (ed_var 2)) (EP.s ed_int))) (EP.s ed_str)) (ss_aug 1 oi_add' sc_count_pieces.nd (ep_call ih_count_pieces back_d (hr.mono (by omega)) T.m_count_pieces T.F_count_pieces.kp (b_count_pieces T) passN (ap_cons (ed_ix (EP.s (ed_var 2)) (EP.s ed_int)) ap_nil)) (fun v42 => (ss_nil (n := (v42)) (asOf []) rfl .refl (.keep (.keep (.drop .nil)))))) (ss_nil (n := (v9)) (asOf []) rfl .refl (.keep (.keep (.drop .nil)))))))))))) (fun n43 as2 => (ss_ret (mk := fun t45 => (t45, [])) (ed_var 1) (fun _ => .refl) (fun _ _ _ _ _ _ t r => back_d _ _ _ _ _ _ t r)))))), ?_⟩
    rfl
theorem ok_count_pieces (T : Txt K mg) (n : Nat) : FnOk P w K mg base CX0 (1 + n) T.a_count_pieces T.d_count_pieces ["pieces"] (prm K mg [.d] (RD K) (m_count_pieces n)) := okg_count_pieces T n
theorem okg_depth_of (T : Txt K mg) : ∀ n : Nat, FnOk P w K mg base CX0 (1 + n) T.a_depth_of T.d_depth_of ["pieces"] (prm K mg [.d] (RD K) (m_depth_of n))
  | 0 => fnE T.F_depth_of sc_depth_of rfl (by decide) fun cdv A outer s H E hr => fun x_pieces => ⟨.bad, ss_bad, rfl⟩
  | n + 1 => by
    have ih := okg_depth_of T n
    have ih_depth_of := ih
    refine fnE (k := 1 + n) T.F_depth_of sc_depth_of rfl (by decide) fun cdv A outer s H E hr => fun x_pieces => ⟨_, (ss_asg 1 sc_depth_of.nd ed_int (fun v1 => (ss_seqN (fun (n : PD) (as2 : As) => [some (.d x_pieces), some (.d n), none]) (fun (as2 : As) => []) (fun (n : PD) => []) (s1_forN (fun (n : PD) (as2 : As) => [some (.d x_pieces), some (.d n), none]) (fun (as2 : As) => []) (fun (n : PD) => []) (un := Out.ok) (ρf := fun (n4 : PD) (as2 : As) (k3 : PD) => [some (.d x_pieces), some (.d n4), some (.d k3)]) (asOf []) (v1) rfl (PassesOwn.never) (ix_data (ed_var 0)) (tg_name 2 sc_depth_of.nd) .refl (.keep (.keep (.keep .nil))) (fun _ _ _ => rfl) (fun _ _ _ h => nomatch h) (fun _ _ _ _ _ _ _ => trivial) (fun k3 n4 as2 => (ss_one (s1_if (tp_cmp (o_eq hr.units) (EP.s (ed_ix (EP.s (ed_var 2)) (EP.s ed_int))) (EP.s ed_str)) (ss_asg 1 sc_depth_of.nd (ep_callA (c_max3 rfl) T.z_max (ap_cons (ed_var 1) (ap_cons (ep_op o_add (EP.s ed_int) (EP.s (ep_call ih_depth_of back_d (hr.mono (by omega)) T.m_depth_of T.F_depth_of.kp (b_depth_of T) passN (ap_cons (ed_ix (EP.s (ed_var 2)) (EP.s ed_int)) ap_nil)))) (ap_cons (ep_op o_add (EP.s ed_int) (EP.s (ep_call ih_depth_of back_d (hr.mono (by omega)) T.m_depth_of T.F_depth_of.kp (b_depth_of T) passN (ap_cons (ed_ix (EP.s (ed_var 2)) (EP.s ed_int)) ap_nil)))) ap_nil)))) (fun v14 => (ss_nil (n := (v14)) (asOf []) rfl .refl (.keep (.keep (.drop .nil)))))) (ss_one (s1_if (tp_cmp (o_eq hr.units) (EP.s (ed_ix (EP.s (ed_var 2)) (EP.s ed_int))) (EP.s ed_str)) (ss_asg 1 sc_depth_of.nd (ep_callA (c_max2 rfl) T.z_max (ap_cons (ed_var 1) (ap_cons (ep_op o_add (EP.s ed_int) (EP.s (ep_call ih_depth_of back_d (hr.mono (by omega)) T.m_depth_of T.F_depth_of.kp (b_depth_of T) passN (ap_cons (ed_ix (EP.s (ed_var 2)) (EP.s ed_int)) ap_nil)))) ap_nil))) (fun v42 => (ss_nil (n := (v42)) (asOf []) rfl .refl (.keep (.keep (.drop .nil)))))) (ss_nil (n := (n4)) (asOf []) rfl .refl (.keep (.keep (.drop .nil)))))))))) (fun n55 as2 => (ss_ret (mk := fun t57 => (t57, [])) (ed_var 1) (fun _ => .refl) (fun _ _ _ _ _ _ t r => back_d _ _ _ _ _ _ t r)))))), ?_⟩
    rfl
theorem ok_depth_of (T : Txt K mg) (n : Nat) : FnOk P w K mg base CX0 (1 + n) T.a_depth_of T.d_depth_of ["pieces"] (prm K mg [.d] (RD K) (m_depth_of n)) := okg_depth_of T n
theorem okg_count_letters (T : Txt K mg) : ∀ n : Nat, FnOk P w K mg base CX0 (1 + n) T.a_count_letters T.d_count_letters ["pieces"] (prm K mg [.d] (RD K) (m_count_letters n))
  | 0 => fnE T.F_count_letters sc_count_letters rfl (by decide) fun cdv A outer s H E hr => fun x_pieces => ⟨.bad, ss_bad, rfl⟩
  | n + 1 => by
    have ih := okg_count_letters T n
    have ih_count_letters := ih
    refine fnE (k := 1 + n) T.F_count_letters sc_count_letters rfl (by decide) fun cdv A outer s H E hr => fun x_pieces => ⟨_, (ss_asg 1 sc_count_letters.nd ed_int (fun v1 => (ss_seqN (fun (n : PD) (as2 : As) => [some (.d x_pieces), some (.d n), none]) (fun (as2 : As) => []) (fun (n : PD) => []) (s1_forN (fun (n : PD) (as2 : As) => [some (.d x_pieces), some (.d n), none]) (fun (as2 : As) => []) (fun (n : PD) => []) (un := Out.ok) (ρf := fun (n4 : PD) (as2 : As) (k3 : PD) => [some (.d x_pieces), some (.d n4), some (.d k3)]) (asOf []) (v1) rfl (PassesOwn.never) (ix_data (ed_var 0)) (tg_name 2 sc_count_letters.nd) .refl (.keep (.keep (.keep .nil))) (fun _ _ _ => rfl) (fun _ _ _ h => nomatch h) (fun _ _ _ _ _ _ _ => trivial) (fun k3 n4 as2 => (ss_one (s1_if (tp_cmp (o_eq hr.units) (EP.s (ed_ix (EP.s (ed_var 2)) (EP.s ed_int))) (EP.s ed_str)) (ss_aug 1 oi_add' sc_count_letters.nd (ep_callB c_len T.z_len (EP.s (ed_ix (EP.s (ed_var 2)) (EP.s ed_int)))) (fun v18 => (ss_nil (n := (v18)) (asOf []) rfl .refl (.keep (.keep (.drop .nil)))))) (ss_one (s1_if (tp_cmp (o_eq hr.units) (EP.s (ed_ix (EP.s (ed_var 2)) (EP.s ed_int))) (EP.s ed_str)) (ss_aug 1 oi_add' sc_count_letters.nd (ed_glob T.hm_HOLE_LETTERS T.hr_HOLE_LETTERS T.hd_HOLE_LETTERS) (fun v26 => (ss_nil (n := (v26)) (asOf []) rfl .refl (.keep (.keep (.drop .nil)))))) (ss_one (s1_if (tp_cmp (o_eq hr.units) (EP.s (ed_ix (EP.s (ed_var 2)) (EP.s ed_int))) (EP.s ed_str)) (ss_aug 1 oi_add' sc_count_letters.nd (ep_op o_add (EP.s (ep_call ih_count_letters back_d (hr.mono (by omega)) T.m_count_letters T.F_count_letters.kp (b_count_letters T) passN (ap_cons (ed_ix (EP.s (ed_var 2)) (EP.s ed_int)) ap_nil))) (EP.s (ep_call ih_count_letters back_d (hr.mono (by omega)) T.m_count_letters T.F_count_letters.kp (b_count_letters T) passN (ap_cons (ed_ix (EP.s (ed_var 2)) (EP.s ed_int)) ap_nil)))) (fun v46 => (ss_nil (n := (v46)) (asOf []) rfl .refl (.keep (.keep (.drop .nil)))))) (ss_one (s1_if (tp_cmp (o_eq hr.units) (EP.s (ed_ix (EP.s (ed_var 2)) (EP.s ed_int))) (EP.s ed_str)) (ss_aug 1 oi_add' sc_count_letters.nd (ep_op o_add (EP.s (ep_callB c_len T.z_len (EP.s (ed_ix (EP.s (ed_var 2)) (EP.s ed_int))))) (EP.s (ep_call ih_count_letters back_d (hr.mono (by omega)) T.m_count_letters T.F_count_letters.kp (b_count_letters T) passN (ap_cons (ed_ix (EP.s (ed_var 2)) (EP.s ed_int)) ap_nil)))) (fun v64 => (ss_nil (n := (v64)) (asOf []) rfl .refl (.keep (.keep (.drop .nil)))))) (ss_nil (n := (n4)) (asOf []) rfl .refl (.keep (.keep (.drop .nil)))))))))))))) (fun n65 as2 => (ss_ret (mk := fun t67 => (t67, [])) (ed_var 1) (fun _ => .refl) (fun _ _ _ _ _ _ t r => back_d _ _ _ _ _ _ t r)))))), ?_⟩
    rfl
theorem ok_count_letters (T : Txt K mg) (n : Nat) : FnOk P w K mg base CX0 (1 + n) T.a_count_letters T.d_count_letters ["pieces"] (prm K mg [.d] (RD K) (m_count_letters n)) := okg_count_letters T n
theorem ok__law_sizes_meet (T : Txt K mg) : FnOk P w K mg base CX0 42 T.a__law_sizes_meet T.d__law_sizes_meet ["pieces"] (prm K mg [.d] (RD K) m__law_sizes_meet) := by
  refine fnE (k := 41) T.F__law_sizes_meet sc__law_sizes_meet rfl (by decide) fun cdv A outer s H E hr => fun x_pieces => ⟨_, (ss_asg 1 sc__law_sizes_meet.nd (ep_call (ok__law_measured T 40) back_d (hr.mono (by omega)) T.m__law_measured T.F__law_measured.kp (b__law_measured T) passN (ap_cons (ed_var 0) ap_nil)) (fun v1 => (ss_asg 2 sc__law_sizes_meet.nd (EP.l (el_lst (ap_cons (ep_call (ok_count_pieces T 40) back_d (hr.mono (by omega)) T.m_count_pieces T.F_count_pieces.kp (b_count_pieces T) passN (ap_cons (ed_var 0) ap_nil)) (ap_cons (ep_call (ok_depth_of T 40) back_d (hr.mono (by omega)) T.m_depth_of T.F_depth_of.kp (b_depth_of T) passN (ap_cons (ed_var 0) ap_nil)) (ap_cons (ep_call (ok_count_letters T 40) back_d (hr.mono (by omega)) T.m_count_letters T.F_count_letters.kp (b_count_letters T) passN (ap_cons (ed_var 0) ap_nil)) ap_nil))))) (fun v5 => (ss_seqN (fun (n : Unit) (as22 : As) => [some (.d x_pieces), some (.d v1), some (.d v5), none]) (fun (as22 : As) => []) (fun (n : Unit) => []) (s1_forN (fun (n : Unit) (as22 : As) => [some (.d x_pieces), some (.d v1), some (.d v5), none]) (fun (as22 : As) => []) (fun (n : Unit) => []) (un := Out.ok) (ρf := fun (n24 : Unit) (as22 : As) (k23 : PD) => [some (.d x_pieces), some (.d v1), some (.d v5), some (.d k23)]) (asOf []) () rfl (PassesOwn.never) (ix_range1 T.z_range ed_int) (tg_name 3 sc__law_sizes_meet.nd) .refl (.keep (.keep (.keep (.keep .nil)))) (fun _ _ _ => rfl) (fun _ _ _ h => nomatch h) (fun _ _ _ _ _ _ _ => trivial) (fun k23 n24 as22 => (ss_ifE (WP.t (wp_or (tp_not (tp_truth (EP.s (ep_call (ok__law_is_integer T) back_d (hr.mono (by omega)) T.m__law_is_integer T.F__law_is_integer.kp (b__law_is_integer T) passN (ap_cons (ed_ix (EP.s (ed_var 2)) (EP.s (ed_var 3))) ap_nil))))) (wp_or1 (tp_cmp (o_ne hr.units) (EP.s (ed_ix (EP.s (ed_var 2)) (EP.s (ed_var 3)))) (EP.s (ed_ix (EP.s (ed_var 1)) (EP.s (ed_var 3)))))))) (ss_ret (mk := fun t45 => (t45, [])) ed_bool (fun _ => .refl) (fun _ _ _ _ _ _ t r => back_d _ _ _ _ _ _ t r)) (ss_nil (n := ()) (asOf []) rfl .refl (.keep (.keep (.keep (.drop .nil)))))))) (fun n46 as22 => (ss_ret (mk := fun t48 => (t48, [])) ed_bool (fun _ => .refl) (fun _ _ _ _ _ _ t r => back_d _ _ _ _ _ _ t r)))))))), ?_⟩
  rfl
theorem okg_settle (T : Txt K mg) : ∀ n : Nat, FnOk P w K mg base CX0 (1 + n) T.a_settle T.d_settle ["pieces"] (prm K mg [.d] (RD K) (m_settle n))
  | 0 => fnE T.F_settle sc_settle rfl (by decide) fun cdv A outer s H E hr => fun x_pieces => ⟨.bad, ss_bad, rfl⟩
  | n + 1 => by
    have ih := okg_settle T n
    have ih_settle := ih
    refine fnE (k := 1 + n) T.F_settle sc_settle rfl (by decide) fun cdv A outer s H E hr => fun x_pieces => ⟨_, (ss_asgC 1 sc_settle.nd (el_lst ap_nil) (fun a1 l2 nm_a1 => (ss_seqN (fun (n : List PD) (as3 : As) => [some (.d x_pieces), some (.c a1), none]) (fun (as3 : As) => [a1]) (fun (n : List PD) => [CO.l n]) (s1_forN (fun (n : List PD) (as3 : As) => [some (.d x_pieces), some (.c a1), none]) (fun (as3 : As) => [a1]) (fun (n : List PD) => [CO.l n]) (un := Out.ok) (ρf := fun (n5 : List PD) (as3 : As) (k4 : PD) => [some (.d x_pieces), some (.c a1), some (.d k4)]) (asOf []) (l2) rfl (PassesOwn.never) (ix_data (ed_var 0)) (tg_name 2 sc_settle.nd) .refl (.keep (.keep (.keep .nil))) (fun _ _ _ => rfl) (fun _ _ _ h => nomatch h) (fun _ _ _ _ _ _ _ => trivial) (fun k4 n5 as3 => (ss_one (s1_if (tp_cmp (o_eq hr.units) (EP.s (ed_ix (EP.s (ed_var 2)) (EP.s ed_int))) (EP.s ed_str)) (ss_appP 1 0 (ed_tup (ap_cons ed_str (ap_cons (ed_ix (EP.s (ed_var 2)) (EP.s ed_int)) (ap_cons (ed_ix (EP.s (ed_var 2)) (EP.s ed_int)) (ap_cons (ep_call ih_settle back_d (hr.mono (by omega)) T.m_settle T.F_settle.kp (b_settle T) passN (ap_cons (ed_ix (EP.s (ed_var 2)) (EP.s ed_int)) ap_nil)) (ap_cons (ep_call ih_settle back_d (hr.mono (by omega)) T.m_settle T.F_settle.kp (b_settle T) passN (ap_cons (ed_ix (EP.s (ed_var 2)) (EP.s ed_int)) ap_nil)) ap_nil)))))) (fun l16 => (ss_nil (n := (l16)) (asOf []) rfl .refl (.keep (.keep (.drop .nil)))))) (ss_one (s1_if (tp_cmp (o_eq hr.units) (EP.s (ed_ix (EP.s (ed_var 2)) (EP.s ed_int))) (EP.s ed_str)) (ss_appP 1 0 (ed_tup (ap_cons ed_str (ap_cons (ed_ix (EP.s (ed_var 2)) (EP.s ed_int)) (ap_cons (ep_call ih_settle back_d (hr.mono (by omega)) T.m_settle T.F_settle.kp (b_settle T) passN (ap_cons (ed_ix (EP.s (ed_var 2)) (EP.s ed_int)) ap_nil)) (ap_cons (ed_ix (EP.s (ed_var 2)) (EP.s ed_int)) ap_nil))))) (fun l49 => (ss_nil (n := (l49)) (asOf []) rfl .refl (.keep (.keep (.drop .nil)))))) (ss_one (s1_if (WP.t (wp_and (tp_cmp (o_eq hr.units) (EP.s (ed_ix (EP.s (ed_var 2)) (EP.s ed_int))) (EP.s ed_str)) (wp_and (tp_truth (es_cell 1 0)) (wp_and1 (tp_cmp (o_eq hr.units) (EP.s (ed_ix (EP.s (ed_ix (es_cell 1 0) (EP.s (ed_neg (EP.s ed_int))))) (EP.s ed_int))) (EP.s ed_str)))))) (ss_setP 1 0 (ed_tup (ap_cons ed_str (ap_cons (ep_op o_add (EP.s (ed_ix (EP.s (ed_ix (es_cell 1 0) (EP.s (ed_neg (EP.s ed_int))))) (EP.s ed_int))) (EP.s (ed_ix (EP.s (ed_var 2)) (EP.s ed_int)))) ap_nil))) (ed_neg (EP.s ed_int)) (fun l86 => (ss_nil (n := (l86)) (asOf []) rfl .refl (.keep (.keep (.drop .nil)))))) (ss_appP 1 0 (ed_var 2) (fun l103 => (ss_nil (n := (l103)) (asOf []) rfl .refl (.keep (.keep (.drop .nil)))))))))))))) (fun n104 as3 => (ss_ret (mk := fun t107 => (t107, [])) (ep_callTy c_tuple T.z_tuple (es_cell 1 0)) (fun _ => (.drop .refl)) (fun _ _ _ _ _ _ t r => back_d _ _ _ _ _ _ t r)))))), ?_⟩
    rfl
theorem ok_settle (T : Txt K mg) (n : Nat) : FnOk P w K mg base CX0 (1 + n) T.a_settle T.d_settle ["pieces"] (prm K mg [.d] (RD K) (m_settle n)) := okg_settle T n
theorem ok_law (T : Txt K mg) : FnOk P w K mg base CX0 44 T.a_law T.d_law ["script"] (prm K mg [.d] (RD K) m_law) := by
  refine fnE (k := 43) T.F_law sc_law rfl (by decide) fun cdv A outer s H E hr => fun x_script => ⟨_, (ss_asgX 1 sc_law.nd (ex_callF (js := []) (ok__law_shape T) back_d (hr.mono (by omega)) T.m__law_shape T.F__law_shape.kp (b__law_shape T) passN (EP.x (ep_call (ok__law_pool T) back_l (hr.mono (by omega)) T.m__law_pool T.F__law_pool.kp (b__law_pool T) passN (ap_cons (ed_var 0) (ap_cons ed_int ap_nil)))) (gx_un (f := fun cs => cs) (gx_d ed_int gx_nil))) (fun v1 => (ss_un (f := fun cs => cs) (ss_asgC 2 sc_law.nd (ep_call (ok__law_pool T) back_l (hr.mono (by omega)) T.m__law_pool T.F__law_pool.kp (b__law_pool T) passN (ap_cons (ed_var 0) (ap_cons ed_int ap_nil))) (fun a15 l16 nm_a15 => (ss_asgLcX (own := [("k", 8)]) 3 rfl sc_law.nd (blkOk_by (own := [("k", 8)]) (N := n_law) (sc := defScope s_law) (by decide +kernel)) (lc_ofX (un := Out.ok) (ρf := fun k26 => [some (.d x_script), some (.d v1), some (.c a15), none, none, none, none, none, some (.d k26)]) (IX.x (ix_range1 T.z_range ed_int)) (fun _ _ _ _ _ => tg_name 8 sc_law.nd) (fun _ => rfl) (fun _ _ _ _ _ k26 => (fun _ => tsx_nil)) (fun _ _ _ _ _ k26 => (ex_ul (f := fun cs => cs) fun p27 => (ex_un (f := fun cs => CO.l p27 :: cs) (ex_call (js := [0]) (ok__law_text T) back_d (hr.mono (by omega)) T.m__law_text T.F__law_text.kp (b__law_text T) passN (gx_c 2 0 (gx_d ed_str (gx_x (ex_op o_add (EP.x ed_int) (ex_ul (f := fun cs => cs) fun p36 => (ex_un (f := fun cs => CO.l p36 :: cs) (EX.s (ex_call (js := [0]) (ok__law_draw T) back_d (hr.mono (by omega)) T.m__law_draw T.F__law_draw.kp (b__law_draw T) passN (gx_c 2 0 (gx_d ed_int gx_nil))))))) (gx_ul (f := fun cs => cs) fun p45 => (gx_un (f := fun cs => CO.l p45 :: cs) gx_nil))))))))) (fun _ _ _ => trivial)) (fun v22 => (ss_ul (f := fun cs => cs) fun p52 => (ss_un (f := fun cs => CO.l p52 :: cs) (ss_asgCX 4 sc_law.nd (xl_lst (ax_cons (EP.x ed_int) (ax_ul (f := fun cs => cs) fun p56 => (ax_un (f := fun cs => CO.l p56 :: cs) (ax_cons (EP.x ed_int) (ax_ul (f := fun cs => cs) fun p58 => (ax_un (f := fun cs => CO.l p58 :: cs) (ax_cons (ex_call (js := [0]) (ok__law_alphabet T) back_d (hr.mono (by omega)) T.m__law_alphabet T.F__law_alphabet.kp (b__law_alphabet T) passN (gx_c 2 0 gx_nil)) (ax_ul (f := fun cs => cs) fun p62 => (ax_un (f := fun cs => CO.l p62 :: cs) (AP.x ap_nil))))))))))) (fun a53 l54 cs1 nm_a53 => ss_at (f := fun cs => CO.l l54 :: cs) (cs := cs1) (ss_ul (f := fun cs => CO.l l54 :: cs) fun p71 => (ss_un (f := fun cs => CO.l l54 :: CO.l p71 :: cs) (ss_asg 5 sc_law.nd ed_int (fun v72 => (ss_seqN (fun (n : PD × List CO) (as75 : As) => [some (.d x_script), some (.d v1), some (.c a15), some (.d v22), some (.c (as75 0)), some (.d n.1), none, none, none]) (fun (as75 : As) => [(as75 0), a15]) (fun (n : PD × List CO) => n.2) (s1_ifX (tx_cmp (o_eq hr.units) (ex_call (js := [1]) (ok__law_draw T) back_d (hr.mono (by omega)) T.m__law_draw T.F__law_draw.kp (b__law_draw T) passN (gx_c 2 1 (gx_d ed_int gx_nil))) (ex_ul (f := fun cs => cs) fun p81 => (ex_ul (f := fun cs => CO.l p81 :: cs) fun p82 => (ex_un (f := fun cs => CO.l p81 :: CO.l p82 :: cs) (EP.x (EP.s ed_int)))))) (ss_ul (f := fun cs => cs) fun p87 => (ss_ul (f := fun cs => CO.l p87 :: cs) fun p88 => (ss_un (f := fun cs => CO.l p87 :: CO.l p88 :: cs) (ss_asgCX 4 sc_law.nd (xl_lst (ax_cons (EP.x ed_int) (ax_ul (f := fun cs => cs) fun p92 => (ax_ul (f := fun cs => CO.l p92 :: cs) fun p93 => (ax_un (f := fun cs => CO.l p92 :: CO.l p93 :: cs) (ax_cons (EP.x ed_int) (ax_ul (f := fun cs => cs) fun p95 => (ax_ul (f := fun cs => CO.l p95 :: cs) fun p96 => (ax_un (f := fun cs => CO.l p95 :: CO.l p96 :: cs) (ax_cons (ex_call (js := [1]) (ok__law_alphabet T) back_d (hr.mono (by omega)) T.m__law_alphabet T.F__law_alphabet.kp (b__law_alphabet T) passN (gx_c 2 1 gx_nil)) (ax_ul (f := fun cs => cs) fun p100 => (ax_ul (f := fun cs => CO.l p100 :: cs) fun p101 => (ax_un (f := fun cs => CO.l p100 :: CO.l p101 :: cs) (AP.x ap_nil)))))))))))))) (fun a89 l90 cs1 nm_a89 => ss_at (f := fun cs => CO.l l90 :: cs) (cs := cs1) (ss_ul (f := fun cs => CO.l l90 :: cs) fun p110 => (ss_ul (f := fun cs => CO.l l90 :: CO.l p110 :: cs) fun p111 => (ss_un (f := fun cs => CO.l l90 :: CO.l p110 :: CO.l p111 :: cs) (ss_asg 5 sc_law.nd ed_int (fun v112 => (ss_nil (n := (v112, [CO.l l90, CO.l p111])) (asOf [a89]) rfl (.keep (.drop .refl)) (.keep (.keep (.keep (.keep (.keep (.keep (.keep (.keep (.keep .nil)))))))))))))))))))) (ss_ul (f := fun cs => cs) fun p113 => (ss_ul (f := fun cs => CO.l p113 :: cs) fun p114 => (ss_un (f := fun cs => CO.l p113 :: CO.l p114 :: cs) (ss_nil (n := (v72, [CO.l p113, CO.l p114])) (asOf [a53]) rfl .refl (.keep (.keep (.keep (.keep (.keep (.keep (.keep (.keep (.keep .nil)))))))))))))) (fun n115 as75 => (ss_at (f := fun cs => cs) (cs := n115.2) (ss_ul (f := fun cs => cs) fun p116 => (ss_ul (f := fun cs => CO.l p116 :: cs) fun p117 => (ss_un (f := fun cs => CO.l p116 :: CO.l p117 :: cs) (ss_asgX 6 sc_law.nd (ex_ix (ex_call (js := [1, 0]) (ok__law_pieces T 40) back_d (hr.mono (by omega)) T.m__law_pieces T.F__law_pieces.kp (b__law_pieces T) passN (gx_c 2 1 (gx_d (ed_var 1) (gx_d (ed_ix (EP.s (ed_var 1)) (EP.s ed_int)) (gx_d ed_int (gx_c 4 0 (gx_d (ed_var 5) (gx_d (ed_var 3) gx_nil)))))))) (ex_ul (f := fun cs => cs) fun p137 => (ex_ul (f := fun cs => CO.l p137 :: cs) fun p138 => (ex_un (f := fun cs => CO.l p137 :: CO.l p138 :: cs) (EP.x (EP.s ed_int)))))) (fun v118 => (ss_ul (f := fun cs => cs) fun p143 => (ss_ul (f := fun cs => CO.l p143 :: cs) fun p144 => (ss_un (f := fun cs => CO.l p143 :: CO.l p144 :: cs) (ss_asgX 7 sc_law.nd (ex_callF (js := []) (ok__law_loosened T 40) back_d (hr.mono (by omega)) T.m__law_loosened T.F__law_loosened.kp (b__law_loosened T) passN (EP.x (ep_call (ok__law_pool T) back_l (hr.mono (by omega)) T.m__law_pool T.F__law_pool.kp (b__law_pool T) passN (ap_cons (ed_var 0) (ap_cons ed_int ap_nil)))) (gx_ul (f := fun cs => cs) fun p154 => (gx_ul (f := fun cs => CO.l p154 :: cs) fun p155 => (gx_un (f := fun cs => CO.l p154 :: CO.l p155 :: cs) (gx_d (ed_var 6) gx_nil))))) (fun v145 => (ss_ul (f := fun cs => cs) fun p161 => (ss_ul (f := fun cs => CO.l p161 :: cs) fun p162 => (ss_un (f := fun cs => CO.l p161 :: CO.l p162 :: cs) (ss_ifE (WP.t (wp_or (tp_not (tp_truth (EP.s (ep_call (ok__law_sizes_meet T) back_d (hr.mono (by omega)) T.m__law_sizes_meet T.F__law_sizes_meet.kp (b__law_sizes_meet T) passN (ap_cons (ed_var 6) ap_nil))))) (wp_or1 (tp_not (tp_truth (EP.s (ep_call (ok__law_sizes_meet T) back_d (hr.mono (by omega)) T.m__law_sizes_meet T.F__law_sizes_meet.kp (b__law_sizes_meet T) passN (ap_cons (ed_var 7) ap_nil)))))))) (ss_ret (mk := fun t177 => (t177, [])) ed_bool (fun _ => (.drop (.drop .refl))) (fun _ _ _ _ _ _ t r => back_d _ _ _ _ _ _ t r)) (ss_ifE (WP.t (wp_or (tp_not (tp_truth (EP.s (ep_call (ok__law_same T 40) back_d (hr.mono (by omega)) T.m__law_same T.F__law_same.kp (b__law_same T) passN (ap_cons (ep_call (ok_settle T 40) back_d (hr.mono (by omega)) T.m_settle T.F_settle.kp (b_settle T) passN (ap_cons (ed_var 7) ap_nil)) (ap_cons (ed_var 6) ap_nil)))))) (wp_or1 (tp_not (tp_truth (EP.s (ep_call (ok__law_same T 40) back_d (hr.mono (by omega)) T.m__law_same T.F__law_same.kp (b__law_same T) passN (ap_cons (ep_call (ok_settle T 40) back_d (hr.mono (by omega)) T.m_settle T.F_settle.kp (b_settle T) passN (ap_cons (ed_var 6) ap_nil)) (ap_cons (ed_var 6) ap_nil))))))))) (ss_ret (mk := fun t202 => (t202, [])) ed_bool (fun _ => (.drop (.drop .refl))) (fun _ _ _ _ _ _ t r => back_d _ _ _ _ _ _ t r)) (ss_ret (mk := fun t212 => (t212, [])) (ep_call (ok__law_same T 40) back_d (hr.mono (by omega)) T.m__law_same T.F__law_same.kp (b__law_same T) passN (ap_cons (ep_call (ok__law_made T 40) back_d (hr.mono (by omega)) T.m__law_made T.F__law_made.kp (b__law_made T) passN (ap_cons (ed_var 6) ap_nil)) (ap_cons (ed_var 6) ap_nil))) (fun _ => (.drop (.drop .refl))) (fun _ _ _ _ _ _ t r => back_d _ _ _ _ _ _ t r))))))))))))))))))))))))))))))))))), ?_⟩
  rfl
end
end Dd
set_option Elab.async false
set_option linter.all false
set_option maxRecDepth 100000
set_option maxHeartbeats 4000000
namespace Dd
open PySem PySem.Spec PyProof.Rows L2
/-- a def of the top, found -/
def FnK (K : PySem.W.Frag) (mg : Str → Option Value) (x : Str) (st : Stmt) : Prop := ∃ (f : Addr) (fd : FuncData), Fun K x x st f fd ∧ mg x = some (.ref f)
theorem fnK_mk {K : PySem.W.Frag} {h : Heap} {mg : Str → Option Value} (X : K.In h) (G : h.Ns mainGlobals mg) {x : Str} {st : Stmt} {f : Addr} {od an : Option Addr} {sl : Array (Option Value)} {oc kV dc pm cd ct : Value}
    (a : PySem.W.nsIn K mainGlobals x = some (some (.ref f))) (l : K.lookup f = some ⟨oc, od, .func (PySem.W.fnOf x x (defArgs st) (defBody st) (defScope st) .none kV dc pm an cd ct), sl⟩) (c : PySem.W.codeIn K cd x = true) (k : PySem.W.keepIn K (.ref f) = true) : FnK K mg x st :=
  ⟨f, _, fun_mk l c k, PySem.W.mg_of X G a⟩
theorem rv_str (x : Str) (t : Tok) : RelV (.str x) (.str x t) := ⟨t, rfl⟩
theorem rv_int (x : Int) (t : Tok) : RelV (.int x) (.int x t) := ⟨t, rfl⟩
def FnKK (K : PySem.W.Frag) (mg : Str → Option Value) (x : Str) (st : Stmt) (q : Str) (d : PD) : Prop := ∃ (f : Addr) (fd : FuncData) (v : V), FunD K x x (defArgs st) (defBody st) (defScope st) [] [(q, v)] f fd ∧ Dp K (fun _ => none) v d ∧ mg x = some (.ref f)
theorem fnKK_mk {K : PySem.W.Frag} {h : Heap} {mg : Str → Option Value} (X : K.In h) (G : h.Ns mainGlobals mg) {x q : Str} {st : Stmt} {d : PD} {f D : Addr} {od an : Option Addr} {sl : Array (Option Value)} {oc doc pm cd ct u : Value} {v : V}
    (a : PySem.W.nsIn K mainGlobals x = some (some (.ref f))) (l : K.lookup f = some ⟨oc, od, .func (PySem.W.fnOf x x (defArgs st) (defBody st) (defScope st) .none (.ref D) doc pm an cd ct), sl⟩) (c : PySem.W.codeIn K cd x = true) (k : PySem.W.keepIn K (.ref f) = true) (n : PySem.W.nsIn K D q = some (some u)) (r : RelV v u ∧ Dp K (fun _ => none) v d) : FnKK K mg x st q d :=
  ⟨f, _, v, ⟨⟨oc, od, _, _, doc, pm, an, cd, ct, sl, rfl, l, c, .inl ⟨rfl, rfl⟩, .inr ⟨D, rfl, fun p hp => by cases hp with | head => exact ⟨u, n, r.1⟩ | tail _ h => cases h⟩⟩, k⟩, r.2, PySem.W.mg_of X G a⟩
theorem kd_tup0 {K : PySem.W.Frag} {q : Addr} {od : Option Addr} {n : Nat} {sl : Array (Option Value)} (l : K.lookup q = some ⟨.type "tuple", od, .seq #[] n, sl⟩) : RelV (.ref q) (.ref q) ∧ Dp K (fun _ => none) (.ref q) (.tuple []) := ⟨rfl, .tup (.inr ⟨_, _, _, l, rfl, rfl, line_of (n := 0) (by decide), .nil⟩) .nil⟩
theorem kd_str {K : PySem.W.Frag} (x : Str) (t : Tok) : RelV (.str x) (.str x t) ∧ Dp K (fun _ => none) (.str x) (.str x) := ⟨⟨t, rfl⟩, .str _⟩
theorem kd_none {K : PySem.W.Frag} : RelV .non .none ∧ Dp K (fun _ => none) .non .none := ⟨rfl, .non⟩
def CoK (K : PySem.W.Frag) (mg : Str → Option Value) (x : Str) (d : PD) : Prop := ∃ (v : V) (u : Value), mg x = some u ∧ RelV v u ∧ Dp K (fun _ => none) v d
theorem coK_HOLE_LETTERS {K : PySem.W.Frag} {h : Heap} {mg : Str → Option Value} (X : K.In h) (G : h.Ns mainGlobals mg) {t1 : Tok} (a : PySem.W.nsIn K mainGlobals "HOLE_LETTERS" = some (some (.int 6 t1)))  : CoK K mg "HOLE_LETTERS" c_HOLE_LETTERS := ⟨(.int 6), (.int 6 t1), PySem.W.mg_of X G a, (rv_int _ _), (.int _)⟩
theorem txt_mk {K : PySem.W.Frag} {mg : Str → Option Value} (h__law_draw : FnK K mg "_law_draw" s__law_draw) (h__law_text : FnK K mg "_law_text" s__law_text) (h__law_menu : FnK K mg "_law_menu" s__law_menu) (h__law_label : FnK K mg "_law_label" s__law_label) (h__law_slots : FnK K mg "_law_slots" s__law_slots) (h__law_states : FnK K mg "_law_states" s__law_states) (h__law_shape : FnK K mg "_law_shape" s__law_shape) (h__law_pool : FnK K mg "_law_pool" s__law_pool) (h__law_loosened : FnK K mg "_law_loosened" s__law_loosened) (h__law_is_integer : FnK K mg "_law_is_integer" s__law_is_integer) (h__law_same : FnK K mg "_law_same" s__law_same) (h__law_letters : FnK K mg "_law_letters" s__law_letters) (h__law_alphabet : FnK K mg "_law_alphabet" s__law_alphabet) (h__law_pieces : FnK K mg "_law_pieces" s__law_pieces) (h__law_piece : FnK K mg "_law_piece" s__law_piece) (h_text_piece : FnK K mg "text_piece" s_text_piece) (h_hole : FnK K mg "hole" s_hole) (h_use : FnK K mg "use" s_use) (h_choice : FnKK K mg "choice" s_choice "otherwise" (.tuple [])) (h_loop : FnKK K mg "loop" s_loop "between" (.str "")) (h__law_made : FnK K mg "_law_made" s__law_made) (h__law_measured : FnK K mg "_law_measured" s__law_measured) (h_count_pieces : FnK K mg "count_pieces" s_count_pieces) (h_depth_of : FnK K mg "depth_of" s_depth_of) (h_count_letters : FnK K mg "count_letters" s_count_letters) (h__law_sizes_meet : FnK K mg "_law_sizes_meet" s__law_sizes_meet) (h_settle : FnK K mg "settle" s_settle) (h_law : FnK K mg "law" s_law) (g_bool : mg "bool" = none) (g_int : mg "int" = none) (g_isinstance : mg "isinstance" = none) (g_len : mg "len" = none) (g_max : mg "max" = none) (g_min : mg "min" = none) (g_range : mg "range" = none) (g_sorted : mg "sorted" = none) (g_str : mg "str" = none) (g_tuple : mg "tuple" = none) (j_HOLE_LETTERS : CoK K mg "HOLE_LETTERS" c_HOLE_LETTERS) : Nonempty (Txt K mg) := by
  obtain ⟨a__law_draw, d__law_draw, F__law_draw, m__law_draw⟩ := h__law_draw
  obtain ⟨a__law_text, d__law_text, F__law_text, m__law_text⟩ := h__law_text
  obtain ⟨a__law_menu, d__law_menu, F__law_menu, m__law_menu⟩ := h__law_menu
  obtain ⟨a__law_label, d__law_label, F__law_label, m__law_label⟩ := h__law_label
  obtain ⟨a__law_slots, d__law_slots, F__law_slots, m__law_slots⟩ := h__law_slots
  obtain ⟨a__law_states, d__law_states, F__law_states, m__law_states⟩ := h__law_states
  obtain ⟨a__law_shape, d__law_shape, F__law_shape, m__law_shape⟩ := h__law_shape
  obtain ⟨a__law_pool, d__law_pool, F__law_pool, m__law_pool⟩ := h__law_pool
  obtain ⟨a__law_loosened, d__law_loosened, F__law_loosened, m__law_loosened⟩ := h__law_loosened
  obtain ⟨a__law_is_integer, d__law_is_integer, F__law_is_integer, m__law_is_integer⟩ := h__law_is_integer
  obtain ⟨a__law_same, d__law_same, F__law_same, m__law_same⟩ := h__law_same
  obtain ⟨a__law_letters, d__law_letters, F__law_letters, m__law_letters⟩ := h__law_letters
  obtain ⟨a__law_alphabet, d__law_alphabet, F__law_alphabet, m__law_alphabet⟩ := h__law_alphabet
  obtain ⟨a__law_pieces, d__law_pieces, F__law_pieces, m__law_pieces⟩ := h__law_pieces
  obtain ⟨a__law_piece, d__law_piece, F__law_piece, m__law_piece⟩ := h__law_piece
  obtain ⟨a_text_piece, d_text_piece, F_text_piece, m_text_piece⟩ := h_text_piece
  obtain ⟨a_hole, d_hole, F_hole, m_hole⟩ := h_hole
  obtain ⟨a_use, d_use, F_use, m_use⟩ := h_use
  obtain ⟨a_choice, d_choice, w_choice, Q_choice, u_choice, m_choice⟩ := h_choice
  obtain ⟨a_loop, d_loop, w_loop, Q_loop, u_loop, m_loop⟩ := h_loop
  obtain ⟨a__law_made, d__law_made, F__law_made, m__law_made⟩ := h__law_made
  obtain ⟨a__law_measured, d__law_measured, F__law_measured, m__law_measured⟩ := h__law_measured
  obtain ⟨a_count_pieces, d_count_pieces, F_count_pieces, m_count_pieces⟩ := h_count_pieces
  obtain ⟨a_depth_of, d_depth_of, F_depth_of, m_depth_of⟩ := h_depth_of
  obtain ⟨a_count_letters, d_count_letters, F_count_letters, m_count_letters⟩ := h_count_letters
  obtain ⟨a__law_sizes_meet, d__law_sizes_meet, F__law_sizes_meet, m__law_sizes_meet⟩ := h__law_sizes_meet
  obtain ⟨a_settle, d_settle, F_settle, m_settle⟩ := h_settle
  obtain ⟨a_law, d_law, F_law, m_law⟩ := h_law
  obtain ⟨v_HOLE_LETTERS, u_HOLE_LETTERS, hm_HOLE_LETTERS, hr_HOLE_LETTERS, hd_HOLE_LETTERS⟩ := j_HOLE_LETTERS
  exact ⟨⟨a__law_draw, d__law_draw, F__law_draw, m__law_draw, a__law_text, d__law_text, F__law_text, m__law_text, a__law_menu, d__law_menu, F__law_menu, m__law_menu, a__law_label, d__law_label, F__law_label, m__law_label, a__law_slots, d__law_slots, F__law_slots, m__law_slots, a__law_states, d__law_states, F__law_states, m__law_states, a__law_shape, d__law_shape, F__law_shape, m__law_shape, a__law_pool, d__law_pool, F__law_pool, m__law_pool, a__law_loosened, d__law_loosened, F__law_loosened, m__law_loosened, a__law_is_integer, d__law_is_integer, F__law_is_integer, m__law_is_integer, a__law_same, d__law_same, F__law_same, m__law_same, a__law_letters, d__law_letters, F__law_letters, m__law_letters, a__law_alphabet, d__law_alphabet, F__law_alphabet, m__law_alphabet, a__law_pieces, d__law_pieces, F__law_pieces, m__law_pieces, a__law_piece, d__law_piece, F__law_piece, m__law_piece, a_text_piece, d_text_piece, F_text_piece, m_text_piece, a_hole, d_hole, F_hole, m_hole, a_use, d_use, F_use, m_use, a_choice, d_choice, w_choice, Q_choice, u_choice, m_choice, a_loop, d_loop, w_loop, Q_loop, u_loop, m_loop, a__law_made, d__law_made, F__law_made, m__law_made, a__law_measured, d__law_measured, F__law_measured, m__law_measured, a_count_pieces, d_count_pieces, F_count_pieces, m_count_pieces, a_depth_of, d_depth_of, F_depth_of, m_depth_of, a_count_letters, d_count_letters, F_count_letters, m_count_letters, a__law_sizes_meet, d__law_sizes_meet, F__law_sizes_meet, m__law_sizes_meet, a_settle, d_settle, F_settle, m_settle, a_law, d_law, F_law, m_law, g_bool, g_int, g_isinstance, g_len, g_max, g_min, g_range, g_sorted, g_str, g_tuple, v_HOLE_LETTERS, u_HOLE_LETTERS, hm_HOLE_LETTERS, hr_HOLE_LETTERS, hd_HOLE_LETTERS⟩⟩
/-- what is asked of the law -/
def spLaw (K : PySem.W.Frag) : Sp := fun vs H Q _ => ∃ (a : Addr) (ns : List Int), vs = [.ref a] ∧ SqL K H a (ns.map V.int) ∧ ns.length ≤ 63 ∧ (∀ z ∈ ns, Builtin.Int.intBits z ≤ 1048576) ∧ ∀ H', Q (.bl true) H'
theorem law_fin (hlaw : ∀ ns : List Int, ns.length ≤ 63 → (∀ z ∈ ns, Builtin.Int.intBits z ≤ 1048576) → m_law (.list (ns.map PyData.int)) = .ok (.bool true, [])) {P : Program} {w : World} {K : PySem.W.Frag} {mg : Str → Option Value} (N : Nonempty (Txt K mg)) {fa : Addr} (hfa : mg "law" = some (.ref fa)) :
    ∃ fd : FuncData, (∀ (s : Shared) (v : Value), BindsTo s fd ⟨[v], []⟩ [("script", v)]) ∧ ∀ base : Heap, K.In base → base.Ns mainGlobals mg → FnOk P w K mg base CX0 44 fa fd ["script"] (spLaw K) := by
  obtain ⟨T⟩ := N
  have e := hfa.symm.trans T.m_law
  have e2 : fa = T.a_law := by injection e with e; injection e
  subst e2
  refine ⟨T.d_law, fun s v => ?_, fun base _ _ => (ok_law T).imp fun vs H Q E h => ?_⟩
  · obtain ⟨oc, od, kV, doc, pm, an, cdv, ct, osl, e3, _⟩ := T.F_law.ex
    rw [e3]
    exact .of_eq rfl
  · obtain ⟨a, ns, rfl, hS, hl, hb, q⟩ := h
    refine ⟨[.list (ns.map PyData.int)], [], [], H, fun _ _ => False, .d (.lst hS (dpa_of_ints ns)) .nil, Same.refl _, .nil, fun _ _ _ _ _ _ h => h.elim, ?_⟩
    show Res _ (m_law (.list (ns.map PyData.int))) _
    rw [hlaw ns hl hb]
    intro v G' H' gr ex cc rr
    cases rr
    exact q H'
end Dd
open PySem PySem.W PyProof.Rows
set_option maxHeartbeats 0 in
theorem PySem.Challenge.cw_pagemold_k09_measure_pieces_holds : PySem.Challenge.rw_pagemold_k09_measure_pieces.Holds := by
  w_on; o_law; k_head; (case hw => w_witness2)
  k_fill
  refine L2.walk_ofB (l := PySem.Challenge.rw_pagemold_k09_measure_pieces) (n := 63) (k := 44) (x := "script") (CX := fun _ => L2.CX0) (sp := fun w => Dd.spLaw _) rfl (by decide) rfl ⟨rfl, by decide, by decide⟩ (fun w h Y => PySem.W.kIn_of Y) ?F (fun _ _ a ns hl hb _ hS => ⟨a, ns, rfl, hS, hl, hb, fun _ => rfl⟩) (fun _ _ _ _ _ h => h)
  case F =>
    intro w mg fa h KX G hmg
    refine Dd.law_fin Dd.law_true (Dd.txt_mk ?h__law_draw ?h__law_text ?h__law_menu ?h__law_label ?h__law_slots ?h__law_states ?h__law_shape ?h__law_pool ?h__law_loosened ?h__law_is_integer ?h__law_same ?h__law_letters ?h__law_alphabet ?h__law_pieces ?h__law_piece ?h_text_piece ?h_hole ?h_use ?h_choice ?h_loop ?h__law_made ?h__law_measured ?h_count_pieces ?h_depth_of ?h_count_letters ?h__law_sizes_meet ?h_settle ?h_law ?g_bool ?g_int ?g_isinstance ?g_len ?g_max ?g_min ?g_range ?g_sorted ?g_str ?g_tuple ?j_HOLE_LETTERS) hmg
    (case h__law_draw => (refine' Dd.fnK_mk KX G ?a ?l ?c ?k; (case a => k_is); (case l => k_is); (case c => k_is); (case k => k_is)))
    (case h__law_text => (refine' Dd.fnK_mk KX G ?a ?l ?c ?k; (case a => k_is); (case l => k_is); (case c => k_is); (case k => k_is)))
    (case h__law_menu => (refine' Dd.fnK_mk KX G ?a ?l ?c ?k; (case a => k_is); (case l => k_is); (case c => k_is); (case k => k_is)))
    (case h__law_label => (refine' Dd.fnK_mk KX G ?a ?l ?c ?k; (case a => k_is); (case l => k_is); (case c => k_is); (case k => k_is)))
    (case h__law_slots => (refine' Dd.fnK_mk KX G ?a ?l ?c ?k; (case a => k_is); (case l => k_is); (case c => k_is); (case k => k_is)))
    (case h__law_states => (refine' Dd.fnK_mk KX G ?a ?l ?c ?k; (case a => k_is); (case l => k_is); (case c => k_is); (case k => k_is)))
    (case h__law_shape => (refine' Dd.fnK_mk KX G ?a ?l ?c ?k; (case a => k_is); (case l => k_is); (case c => k_is); (case k => k_is)))
    (case h__law_pool => (refine' Dd.fnK_mk KX G ?a ?l ?c ?k; (case a => k_is); (case l => k_is); (case c => k_is); (case k => k_is)))
    (case h__law_loosened => (refine' Dd.fnK_mk KX G ?a ?l ?c ?k; (case a => k_is); (case l => k_is); (case c => k_is); (case k => k_is)))
    (case h__law_is_integer => (refine' Dd.fnK_mk KX G ?a ?l ?c ?k; (case a => k_is); (case l => k_is); (case c => k_is); (case k => k_is)))
    (case h__law_same => (refine' Dd.fnK_mk KX G ?a ?l ?c ?k; (case a => k_is); (case l => k_is); (case c => k_is); (case k => k_is)))
    (case h__law_letters => (refine' Dd.fnK_mk KX G ?a ?l ?c ?k; (case a => k_is); (case l => k_is); (case c => k_is); (case k => k_is)))
    (case h__law_alphabet => (refine' Dd.fnK_mk KX G ?a ?l ?c ?k; (case a => k_is); (case l => k_is); (case c => k_is); (case k => k_is)))
    (case h__law_pieces => (refine' Dd.fnK_mk KX G ?a ?l ?c ?k; (case a => k_is); (case l => k_is); (case c => k_is); (case k => k_is)))
    (case h__law_piece => (refine' Dd.fnK_mk KX G ?a ?l ?c ?k; (case a => k_is); (case l => k_is); (case c => k_is); (case k => k_is)))
    (case h_text_piece => (refine' Dd.fnK_mk KX G ?a ?l ?c ?k; (case a => k_is); (case l => k_is); (case c => k_is); (case k => k_is)))
    (case h_hole => (refine' Dd.fnK_mk KX G ?a ?l ?c ?k; (case a => k_is); (case l => k_is); (case c => k_is); (case k => k_is)))
    (case h_use => (refine' Dd.fnK_mk KX G ?a ?l ?c ?k; (case a => k_is); (case l => k_is); (case c => k_is); (case k => k_is)))
    (case h_choice => (refine' Dd.fnKK_mk KX G ?a ?l ?c ?k ?n ?r; (case a => k_is); (case l => k_is); (case c => k_is); (case k => k_is); (case n => k_is); (case r => (refine' Dd.kd_tup0 ?z; (case z => k_is)))))
    (case h_loop => (refine' Dd.fnKK_mk KX G ?a ?l ?c ?k ?n ?r; (case a => k_is); (case l => k_is); (case c => k_is); (case k => k_is); (case n => k_is); (case r => exact Dd.kd_str _ _)))
    (case h__law_made => (refine' Dd.fnK_mk KX G ?a ?l ?c ?k; (case a => k_is); (case l => k_is); (case c => k_is); (case k => k_is)))
    (case h__law_measured => (refine' Dd.fnK_mk KX G ?a ?l ?c ?k; (case a => k_is); (case l => k_is); (case c => k_is); (case k => k_is)))
    (case h_count_pieces => (refine' Dd.fnK_mk KX G ?a ?l ?c ?k; (case a => k_is); (case l => k_is); (case c => k_is); (case k => k_is)))
    (case h_depth_of => (refine' Dd.fnK_mk KX G ?a ?l ?c ?k; (case a => k_is); (case l => k_is); (case c => k_is); (case k => k_is)))
    (case h_count_letters => (refine' Dd.fnK_mk KX G ?a ?l ?c ?k; (case a => k_is); (case l => k_is); (case c => k_is); (case k => k_is)))
    (case h__law_sizes_meet => (refine' Dd.fnK_mk KX G ?a ?l ?c ?k; (case a => k_is); (case l => k_is); (case c => k_is); (case k => k_is)))
    (case h_settle => (refine' Dd.fnK_mk KX G ?a ?l ?c ?k; (case a => k_is); (case l => k_is); (case c => k_is); (case k => k_is)))
    (case h_law => (refine' Dd.fnK_mk KX G ?a ?l ?c ?k; (case a => k_is); (case l => k_is); (case c => k_is); (case k => k_is)))
    (case g_bool => (refine' PySem.W.mg_none_of KX G ?z; (case z => k_is)))
    (case g_int => (refine' PySem.W.mg_none_of KX G ?z; (case z => k_is)))
    (case g_isinstance => (refine' PySem.W.mg_none_of KX G ?z; (case z => k_is)))
    (case g_len => (refine' PySem.W.mg_none_of KX G ?z; (case z => k_is)))
    (case g_max => (refine' PySem.W.mg_none_of KX G ?z; (case z => k_is)))
    (case g_min => (refine' PySem.W.mg_none_of KX G ?z; (case z => k_is)))
    (case g_range => (refine' PySem.W.mg_none_of KX G ?z; (case z => k_is)))
    (case g_sorted => (refine' PySem.W.mg_none_of KX G ?z; (case z => k_is)))
    (case g_str => (refine' PySem.W.mg_none_of KX G ?z; (case z => k_is)))
    (case g_tuple => (refine' PySem.W.mg_none_of KX G ?z; (case z => k_is)))
    (case j_HOLE_LETTERS => (refine' Dd.coK_HOLE_LETTERS KX G ?a ; (case a => k_is)))
