import PyProof.Rows.All
import HandS.ForMost
import HandS.WordsExc
import HandS.Defaults
import HandS.ExcInit
import HandS.Wide
import HandS.Property
import HandS.IsInst
import HandS.Deep
import HandS.SortInts
import HandS.Flow
import HandS.Comp
import HandS.Style
import HandS.TupAny
import HandS.NoneIn
import HandS.SetFor
import KE.DataFind
import HandS.Walk
import HandS.Codes
import KE.KStateDown
import HandS.Head0
import HandS.Head1
import HandS.Head2
import HandS.HeadEnd
import HandS.HeadHook1
import HandS.HeadHook2
import PySem.Challenge.RW_filledonce_k47_whole_sums_of_nets
section
set_option Elab.async false
set_option linter.all false
set_option maxRecDepth 100000
namespace FD
open PySem PySem.Spec PyProof.Rows L2

/-! ### plain data -/
inductive D where
  | non | bl (b : Bool) | int (i : Int) | str (x : Str) | tup (xs : List D) | lst (xs : List D) | scr (xs : List D)
  | ins (c : Str) (fs : List (Str × D))
/-- what a name holds: data that stand still, or a thing that may be changed, by its number -/
inductive W where
  | val (d : D) | ref (k : Nat)
/-- a thing that may be changed -/
inductive M where
  | lst (xs : List D) | ins (c : Str) (fs : List (Str × D))
abbrev Cells := List (Option M)
structure Xn where
  c : Str
  fs : List (Str × D)
inductive R (α : Type) where
  | ok (a : α) (m : Cells) | ex (x : Xn) (m : Cells) | bad
def R.bind {α β : Type} (r : R α) (k : α → Cells → R β) : R β := match r with
  | .ok a m => k a m
  | .ex x m => .ex x m
  | .bad => .bad
@[simp] theorem R.bind_ok {α β : Type} (a : α) (m : Cells) (k : α → Cells → R β) : (R.ok a m).bind k = k a m := rfl
@[simp] theorem R.bind_ex {α β : Type} (x : Xn) (m : Cells) (k : α → Cells → R β) : (R.ex x m : R α).bind k = .ex x m := rfl
@[simp] theorem R.bind_bad {α β : Type} (k : α → Cells → R β) : (R.bad : R α).bind k = .bad := rfl

/-! ### data in a heap -/
mutual
inductive Rp (K : PySem.W.Frag) (mg : Str → Option Value) (H : Hp) : V → D → Prop
  | non : Rp K mg H .non .non
  | bl {b : Bool} : Rp K mg H (.bl b) (.bl b)
  | int {i : Int} : Rp K mg H (.int i) (.int i)
  | str {x : Str} : Rp K mg H (.str x) (.str x)
  | tup {a : Addr} {vs : List V} {ds : List D} : SqT K H a vs → Rps K mg H vs ds → Rp K mg H (.ref a) (.tup ds)
  | lst {a : Addr} {vs : List V} {ds : List D} : H a = some (.lst vs) → Rps K mg H vs ds → Rp K mg H (.ref a) (.lst ds)
  | scr {a : Addr} {vs : List V} {ds : List D} : SqL K H a vs → Rps K mg H vs ds → Rp K mg H (.ref a) (.scr ds)
  | ins {a C dx : Addr} {c : Str} {fs : List (Str × V)} {ds : List (Str × D)} : H a = some (.ins C dx fs) → mg c = some (.ref C) → Rpf K mg H fs ds → Rp K mg H (.ref a) (.ins c ds)
inductive Rps (K : PySem.W.Frag) (mg : Str → Option Value) (H : Hp) : List V → List D → Prop
  | nil : Rps K mg H [] []
  | cons {v : V} {d : D} {vs : List V} {ds : List D} : Rp K mg H v d → Rps K mg H vs ds → Rps K mg H (v :: vs) (d :: ds)
inductive Rpf (K : PySem.W.Frag) (mg : Str → Option Value) (H : Hp) : List (Str × V) → List (Str × D) → Prop
  | nil : Rpf K mg H [] []
  | cons {f : Str} {v : V} {d : D} {fs : List (Str × V)} {ds : List (Str × D)} : Rp K mg H v d → Rpf K mg H fs ds → Rpf K mg H ((f, v) :: fs) ((f, d) :: ds)
end
section
variable {K : PySem.W.Frag} {mg : Str → Option Value} {H H' : Hp}
theorem sqT_same {a : Addr} {xs : List V} (e : Same H H') (h : SqT K H a xs) : SqT K H' a xs := by
  rcases h with (h | ⟨o, h⟩) | h
  · exact .inl (.inl (e _ _ h))
  · exact .inl (.inr ⟨o, e _ _ h⟩)
  · exact .inr h
mutual
theorem Rp.mono (e : Same H H') : ∀ {v : V} {d : D}, Rp K mg H v d → Rp K mg H' v d
  | _, _, .non => .non
  | _, _, .bl => .bl
  | _, _, .int => .int
  | _, _, .str => .str
  | _, _, .tup h r => .tup (sqT_same e h) (Rps.mono e r)
  | _, _, .lst h r => .lst (e _ _ h) (Rps.mono e r)
  | _, _, .scr h r => .scr (e.seq h) (Rps.mono e r)
  | _, _, .ins h g r => .ins (e _ _ h) g (Rpf.mono e r)
theorem Rps.mono (e : Same H H') : ∀ {vs : List V} {ds : List D}, Rps K mg H vs ds → Rps K mg H' vs ds
  | _, _, .nil => .nil
  | _, _, .cons h r => .cons (Rp.mono e h) (Rps.mono e r)
theorem Rpf.mono (e : Same H H') : ∀ {fs : List (Str × V)} {ds : List (Str × D)}, Rpf K mg H fs ds → Rpf K mg H' fs ds
  | _, _, .nil => .nil
  | _, _, .cons h r => .cons (Rp.mono e h) (Rpf.mono e r)
end
theorem Rps.length : ∀ {vs : List V} {ds : List D}, Rps K mg H vs ds → vs.length = ds.length
  | _, _, .nil => rfl
  | _, _, .cons _ r => congrArg Nat.succ (Rps.length r)
theorem Rps.get : ∀ {vs : List V} {ds : List D} {i : Nat} {d : D}, Rps K mg H vs ds → ds[i]? = some d → ∃ v, vs[i]? = some v ∧ Rp K mg H v d
  | _, _, _, _, .nil, e => by simp at e
  | _, _, 0, _, .cons h _, e => by simp at e; subst e; exact ⟨_, rfl, h⟩
  | _, _, i + 1, d, .cons _ r, e => by
    obtain ⟨v, h1, h2⟩ := Rps.get (i := i) (d := d) r (by simpa using e)
    exact ⟨v, by simpa using h1, h2⟩
theorem Rps.get' : ∀ {vs : List V} {ds : List D} {i : Nat} {v : V}, Rps K mg H vs ds → vs[i]? = some v → ∃ d, ds[i]? = some d ∧ Rp K mg H v d
  | _, _, _, _, .nil, e => by simp at e
  | _, _, 0, _, .cons h _, e => by simp at e; subst e; exact ⟨_, rfl, h⟩
  | _, _, i + 1, d, .cons _ r, e => by
    obtain ⟨v, h1, h2⟩ := Rps.get' (i := i) (v := d) r (by simpa using e)
    exact ⟨v, by simpa using h1, h2⟩
theorem Rps.append : ∀ {vs us : List V} {ds es : List D}, Rps K mg H vs ds → Rps K mg H us es → Rps K mg H (vs ++ us) (ds ++ es)
  | _, _, _, _, .nil, s => s
  | _, _, _, _, .cons h r, s => .cons h (Rps.append r s)
theorem Rps.snoc {vs : List V} {ds : List D} {v : V} {d : D} (r : Rps K mg H vs ds) (h : Rp K mg H v d) : Rps K mg H (vs ++ [v]) (ds ++ [d]) := r.append (.cons h .nil)
theorem Rps.take : ∀ {vs : List V} {ds : List D} (n : Nat), Rps K mg H vs ds → Rps K mg H (vs.take n) (ds.take n)
  | _, _, 0, _ => .nil
  | _, _, _ + 1, .nil => .nil
  | _, _, n + 1, .cons h r => .cons h (Rps.take n r)
theorem Rps.drop : ∀ {vs : List V} {ds : List D} (n : Nat), Rps K mg H vs ds → Rps K mg H (vs.drop n) (ds.drop n)
  | _, _, 0, r => r
  | _, _, _ + 1, .nil => .nil
  | _, _, n + 1, .cons _ r => Rps.drop n r
theorem Rps.set {v : V} {d : D} (h : Rp K mg H v d) : ∀ {vs : List V} {ds : List D} (i : Nat), Rps K mg H vs ds → Rps K mg H (vs.set i v) (ds.set i d)
  | _, _, _, .nil => .nil
  | _, _, 0, .cons _ r => .cons h r
  | _, _, i + 1, .cons q r => .cons q (Rps.set h i r)
theorem Rps.reverse {vs : List V} {ds : List D} (r : Rps K mg H vs ds) : Rps K mg H vs.reverse ds.reverse := by
  induction r using Rps.rec (motive_1 := fun _ _ _ => True) (motive_3 := fun _ _ _ => True) <;> first | trivial | skip
  · exact .nil
  · rename_i h _ _ ih
    rw [List.reverse_cons, List.reverse_cons]
    exact ih.snoc h
theorem Rpf.lookup (f : Str) : ∀ {fs : List (Str × V)} {ds : List (Str × D)} {d : D}, Rpf K mg H fs ds → ds.lookup f = some d → ∃ v, fs.lookup f = some v ∧ Rp K mg H v d
  | _, _, _, .nil, e => by cases e
  | _, _, _, .cons (f := g) (v := v) (d := d) h r, e => by
    by_cases q : (f == g) = true
    · rw [List.lookup, q] at e
      cases e
      exact ⟨v, by rw [List.lookup, q], h⟩
    · have q' : (f == g) = false := by simpa using q
      rw [List.lookup, q'] at e
      obtain ⟨u, h1, h2⟩ := Rpf.lookup f r e
      exact ⟨u, by rw [List.lookup, q']; exact h1, h2⟩
theorem Rpf.lookup_none (f : Str) : ∀ {fs : List (Str × V)} {ds : List (Str × D)}, Rpf K mg H fs ds → ds.lookup f = none → fs.lookup f = none
  | _, _, .nil, _ => rfl
  | _, _, .cons (f := g) h r, e => by
    by_cases q : (f == g) = true
    · rw [List.lookup, q] at e
      cases e
    · have q' : (f == g) = false := by simpa using q
      rw [List.lookup, q'] at e
      rw [List.lookup, q']
      exact Rpf.lookup_none f r e
theorem Rpf.length : ∀ {fs : List (Str × V)} {ds : List (Str × D)}, Rpf K mg H fs ds → fs.length = ds.length
  | _, _, .nil => rfl
  | _, _, .cons _ r => congrArg Nat.succ (Rpf.length r)
end
/-- a field stored: as the layer's putF -/
def putD (f : Str) (d : D) : List (Str × D) → List (Str × D)
  | [] => [(f, d)]
  | (g, e) :: r => if g = f then (g, d) :: r else (g, e) :: putD f d r
end FD
end
section
set_option Elab.async false
set_option linter.all false
set_option maxRecDepth 100000
set_option autoImplicit false
namespace FD
open PySem PySem.Spec PyProof.Rows L2

theorem Rpf.put {K : PySem.W.Frag} {mg : Str → Option Value} {H : Hp} {f : Str} {v : V} {d : D} (h : Rp K mg H v d) : ∀ {fs : List (Str × V)} {ds : List (Str × D)}, Rpf K mg H fs ds → Rpf K mg H (putF f v fs) (putD f d ds)
  | _, _, .nil => .cons h .nil
  | _, _, .cons (f := g) q r => by
    unfold putF putD
    by_cases e : g = f
    · rw [if_pos e, if_pos e]; exact .cons h r
    · rw [if_neg e, if_neg e]; exact .cons q (Rpf.put h r)

/-- what a world of a law has: the program, the written part, the module's names -/
structure Gc where
  P : Program
  w : World
  K : PySem.W.Frag
  mg : Str → Option Value
  base : Heap

/-- from one abstract heap to a later one: H0 what stands still, as the things that may be changed -/
structure Frm (H0 : Hp) (as : List Addr) (H : Hp) (H0' : Hp) (as' : List Addr) (H' : Hp) : Prop where
  same : Same H0 H0'
  pre : ∃ r, as' = as ++ r
  keep : ∀ b o, b ∉ as → H b = some o → H' b = some o
  fresh : ∀ b, b ∈ as' → b ∉ as → H b = none
  grow : ∀ b, b ∉ as → H b ≠ none → H0 b = none → H0' b = none
theorem Frm.refl (H0 : Hp) (as : List Addr) (H : Hp) : Frm H0 as H H0 as H :=
  ⟨Same.refl _, ⟨[], by simp⟩, fun _ _ _ h => h, fun _ h n => absurd h n, fun _ _ _ h => h⟩
theorem Frm.trans {H0 H0' H0'' H H' H'' : Hp} {as as' as'' : List Addr} (f : Frm H0 as H H0' as' H') (g : Frm H0' as' H' H0'' as'' H'') : Frm H0 as H H0'' as'' H'' := by
  obtain ⟨r, e⟩ := f.pre
  have notin : ∀ b o, b ∉ as → H b = some o → b ∉ as' := fun b o n h m => by
    rw [f.fresh b m n] at h; cases h
  refine ⟨f.same.trans g.same, ?_, fun b o n h => g.keep b o (notin b o n h) (f.keep b o n h), fun b h n => ?_, fun b n h z => ?_⟩
  · obtain ⟨q, e2⟩ := g.pre
    exact ⟨r ++ q, by rw [e2, e, List.append_assoc]⟩
  · by_cases m : b ∈ as'
    · exact f.fresh b m n
    · cases q : H b with
      | none => rfl
      | some o =>
        have := g.fresh b h m
        rw [f.keep b o n q] at this; cases this
  · cases q : H b with
    | none => exact absurd q h
    | some o => exact g.grow b (notin b o n q) (by rw [f.keep b o n q]; simp) (f.grow b n h z)

section
variable (G : Gc)
abbrev RpG (H : Hp) (v : V) (d : D) : Prop := Rp G.K G.mg H v d
def RpW (H0 : Hp) (as : List Addr) (v : V) : W → Prop
  | .val d => Rp G.K G.mg H0 v d
  | .ref k => ∃ a, as[k]? = some a ∧ v = .ref a
inductive RpWs (H0 : Hp) (as : List Addr) : List V → List W → Prop
  | nil : RpWs H0 as [] []
  | cons {v : V} {w : W} {vs : List V} {ws : List W} : RpW G H0 as v w → RpWs H0 as vs ws → RpWs H0 as (v :: vs) (w :: ws)
def RpM (H0 : Hp) (o : Option HO) : M → Prop
  | .lst ds => ∃ vs, o = some (.lst vs) ∧ Rps G.K G.mg H0 vs ds
  | .ins c fs => ∃ C dx vs, o = some (.ins C dx vs) ∧ G.mg c = some (.ref C) ∧ Rpf G.K G.mg H0 vs fs
/-- the cells -/
structure Cel (H0 : Hp) (as : List Addr) (H : Hp) (m : Cells) : Prop where
  same : Same H0 H
  len : as.length = m.length
  nd : as.Nodup
  there : ∀ a, a ∈ as → H a ≠ none
  cell : ∀ (k : Nat) (c : M), m[k]? = some (some c) → ∃ a, as[k]? = some a ∧ H0 a = none ∧ RpM G H0 (H a) c
/-- the names -/
structure Slo (H0 : Hp) (as : List Addr) (σ : L2.St) (ρ : List (Option W)) : Prop where
  len : σ.length = ρ.length
  at_ : ∀ (i : Nat) (w : W), ρ[i]? = some (some w) → ∃ v, σ[i]? = some (some v) ∧ RpW G H0 as v w
end
section
variable {G : Gc} {H0 H0' H H' : Hp} {as as' : List Addr}
theorem pre_get {r : List Addr} {k : Nat} {a : Addr} (e : as' = as ++ r) (h : as[k]? = some a) : as'[k]? = some a := by
  have := (List.getElem?_eq_some_iff.mp h).1
  rw [e, List.getElem?_append_left this]; exact h
theorem RpW.mono (f : Frm H0 as H H0' as' H') {v : V} : ∀ {w : W}, RpW G H0 as v w → RpW G H0' as' v w
  | .val d, h => Rp.mono f.same h
  | .ref k, ⟨a, h, e⟩ => let ⟨_, q⟩ := f.pre; ⟨a, pre_get q h, e⟩
theorem RpWs.mono (f : Frm H0 as H H0' as' H') : ∀ {vs : List V} {ws : List W}, RpWs G H0 as vs ws → RpWs G H0' as' vs ws
  | _, _, .nil => .nil
  | _, _, .cons h r => .cons (RpW.mono f h) (RpWs.mono f r)
theorem RpWs.length : ∀ {vs : List V} {ws : List W}, RpWs G H0 as vs ws → vs.length = ws.length
  | _, _, .nil => rfl
  | _, _, .cons _ r => congrArg Nat.succ (RpWs.length r)
theorem Slo.mono (f : Frm H0 as H H0' as' H') {σ : L2.St} {ρ : List (Option W)} (s : Slo G H0 as σ ρ) : Slo G H0' as' σ ρ :=
  ⟨s.len, fun i w h => let ⟨v, a, b⟩ := s.at_ i w h; ⟨v, a, RpW.mono f b⟩⟩
theorem Slo.set {σ : L2.St} {ρ : List (Option W)} (s : Slo G H0 as σ ρ) (i : Nat) {v : V} {w : W} (h : RpW G H0 as v w) : Slo G H0 as (σ.set i (some v)) (ρ.set i (some w)) := by
  refine ⟨by rw [List.length_set, List.length_set]; exact s.len, fun j u e => ?_⟩
  by_cases q : i = j
  · subst q
    by_cases l : i < ρ.length
    · rw [List.getElem?_set_self l] at e
      cases e
      exact ⟨v, by rw [List.getElem?_set_self (by rw [s.len]; exact l)], h⟩
    · rw [List.getElem?_eq_none (by rw [List.length_set]; omega)] at e; cases e
  · rw [List.getElem?_set_ne q] at e
    obtain ⟨x, a, b⟩ := s.at_ j u e
    exact ⟨x, by rw [List.getElem?_set_ne q]; exact a, b⟩
theorem Slo.forget {σ : L2.St} {ρ ρ' : List (Option W)} (s : Slo G H0 as σ ρ) (l : ρ'.length = ρ.length) (h : ∀ (i : Nat) (w : W), ρ'[i]? = some (some w) → ρ[i]? = some (some w)) : Slo G H0 as σ ρ' :=
  ⟨s.len.trans l.symm, fun i w e => s.at_ i w (h i w e)⟩
end

/-! ### what is asked of a result -/
section
variable (G : Gc) (E : XK)
def Req (H0 : Hp) (as : List Addr) (H : Hp) {α : Type} (r : R α) (P : α → Cells → Hp → List Addr → Hp → Prop) : Prop := match r with
  | .ok a m => ∀ H0' as' H', Frm H0 as H H0' as' H' → Cel G H0' as' H' m → P a m H0' as' H'
  | .ex x m => ∀ H0' as' H' C dx vs, Frm H0 as H H0' as' H' → Cel G H0' as' H' m → G.mg x.c = some (.ref C) → H' dx = some (.xd vs) → Rpf G.K G.mg H0' vs x.fs → H dx = none → dx ∉ as' → E (.ref C) (some dx) H'
  | .bad => False
variable {G E}
theorem Req.mono {H0 : Hp} {as : List Addr} {H : Hp} {α : Type} {r : R α} {P P' : α → Cells → Hp → List Addr → Hp → Prop} (h : Req G E H0 as H r P)
    (k : ∀ a m H0' as' H', Frm H0 as H H0' as' H' → Cel G H0' as' H' m → P a m H0' as' H' → P' a m H0' as' H') : Req G E H0 as H r P' := by
  cases r with
  | ok a m => exact fun H0' as' H' f c => k a m H0' as' H' f c (h H0' as' H' f c)
  | ex x m => exact h
  | bad => exact h
/-- a later start -/
theorem Req.later {H0 H0' H H' : Hp} {as as' : List Addr} {α : Type} {r : R α} {P : α → Cells → Hp → List Addr → Hp → Prop} (f : Frm H0 as H H0' as' H') (h : Req G E H0 as H r P) : Req G E H0' as' H' r P := by
  cases r with
  | ok a m => exact fun H2 as2 h2 g c => h H2 as2 h2 (f.trans g) c
  | ex x m => exact fun H2 as2 h2 C dx vs g c e1 e2 e3 e4 e5 => h H2 as2 h2 C dx vs (f.trans g) c e1 e2 e3 (by
      cases q : H dx with
      | none => rfl
      | some o =>
        have n : dx ∉ as := fun z => by
          obtain ⟨r1, z1⟩ := f.pre
          obtain ⟨r2, z2⟩ := g.pre
          exact e5 (by rw [z2, z1]; exact List.mem_append_left _ (List.mem_append_left _ z))
        rw [f.keep dx o n q] at e4; cases e4) e5
  | bad => exact h
theorem Req.bind {H0 : Hp} {as : List Addr} {H : Hp} {α β : Type} {r : R α} {k : α → Cells → R β} {P : β → Cells → Hp → List Addr → Hp → Prop} (h : Req G E H0 as H (r.bind k) P) :
    Req G E H0 as H r fun a m H0' as' H' => Req G E H0' as' H' (k a m) P := by
  cases r with
  | ok a m => exact fun H0' as' H' f c => Req.later (r := k a m) f h
  | ex x m => exact h
  | bad => exact h
theorem Req.ok {H0 : Hp} {as : List Addr} {H : Hp} {α : Type} {a : α} {m : Cells} {P : α → Cells → Hp → List Addr → Hp → Prop} (h : Req G E H0 as H (.ok a m) P) (c : Cel G H0 as H m) : P a m H0 as H := h H0 as H (Frm.refl ..) c
end

/-! ### readings -/
abbrev Ro := List (Option W)
abbrev EF := Ro → Cells → R W
abbrev TF := Ro → Cells → R Bool
abbrev AF := Ro → Cells → R (List W)
inductive Fl where
  | next (r : Ro) | ret (w : W) | brk (r : Ro) | cont (r : Ro)
abbrev SF := Ro → Cells → R Fl
section
variable (G : Gc) (E : XK)
def tE (f : EF) : TE := fun σ H Q => ∃ ρ m H0 as, Cel G H0 as H m ∧ Slo G H0 as σ ρ ∧ Req G E H0 as H (f ρ m) fun w _ H0' as' H' => ∀ v, RpW G H0' as' v w → Q v H'
def tT (f : TF) : TT := fun σ H Q => ∃ ρ m H0 as, Cel G H0 as H m ∧ Slo G H0 as σ ρ ∧ Req G E H0 as H (f ρ m) fun b _ _ _ H' => Q b H'
def tA (f : AF) : TA := fun σ H Q => ∃ ρ m H0 as, Cel G H0 as H m ∧ Slo G H0 as σ ρ ∧ Req G E H0 as H (f ρ m) fun ws _ H0' as' H' => ∀ vs, RpWs G H0' as' vs ws → Q vs H'
def tS (f : SF) : TS := fun D σ H => ∃ ρ m H0 as, Cel G H0 as H m ∧ Slo G H0 as σ ρ ∧ Req G E H0 as H (f ρ m) fun fl _ H0' as' H' => match fl with
  | .next ρ' => ∀ σ', Slo G H0' as' σ' ρ' → D.nx σ' H'
  | .ret w => ∀ v, RpW G H0' as' v w → D.rt v H'
  | .brk ρ' => ∀ σ', Slo G H0' as' σ' ρ' → D.bk σ' H'
  | .cont ρ' => ∀ σ', Slo G H0' as' σ' ρ' → D.ct σ' H'
end

/-! ### the context of a def -/
/-- what a body knows of where it stands: N its names, vis those that it sees (in this block), gl the names of the module, k the room, E what is wished of exceptions -/
structure XC (G : Gc) (N vis loc gl : List Str) (sc : Scope) (k : Nat) (E : XK) (X : Cx) : Prop where
  hP : X.prog = G.P
  hw : X.w = G.w
  hK : X.K = G.K
  hmg : X.mg = G.mg
  hbase : X.base = G.base
  hN : X.N = N
  hsc : X.env.scope = sc
  nd : N.Nodup
  hvis : ∀ x, x ∈ vis → Vis X.env.scope x
  hloc : ∀ x, x ∈ loc → Loc X.env.scope x
  hgl : ∀ x, x ∈ gl → Gl X x
  room : Room k X.A
  calm : X.calm = true
  hfn : ∀ x, x ∈ loc → X.fn x = true ∨ X.env.scope.names.lookup x = some .local
  own : PassesOwn (model X.prog X.w) X.A X.env X.xe
  pass : Passes (L2.CX X.prog X.w) X E

/-- a reading weakened -/
theorem PE.weak {X : Cx} {e : Expr} {t t' : TE} (h : PE X e t) (w : ∀ σ H Q, t' σ H Q → t σ H Q) : PE X e t' := ⟨fun pins s σ H Q I q => h.run pins s σ H Q I (w σ H Q q)⟩
theorem PT.weak {X : Cx} {e : Expr} {t t' : TT} (h : PT X e t) (w : ∀ σ H Q, t' σ H Q → t σ H Q) : PT X e t' := ⟨fun pins s σ H Q I q => h.run pins s σ H Q I (w σ H Q q)⟩
theorem PW.weak {X : Cx} {e : Expr} {t t' : TT} (h : PW X e t) (w : ∀ σ H Q, t' σ H Q → t σ H Q) : PW X e t' := ⟨fun wh pins s σ H Q I q => h.run wh pins s σ H Q I (w σ H Q q)⟩
theorem PA.weak {X : Cx} {es : List Expr} {t t' : TA} (h : PA X es t) (w : ∀ σ H Q, t' σ H Q → t σ H Q) : PA X es t' := ⟨fun pos pins s σ H Q I q => h.run pos pins s σ H Q I (w σ H Q q)⟩
theorem PS.weak {X : Cx} {st : Stmt} {t t' : TS} (h : PS X st t) (w : ∀ D σ H, t' D σ H → t D σ H) : PS X st t' := ⟨fun pins s σ H D I q => h.run pins s σ H D I (w D σ H q)⟩
theorem PSs.weak {X : Cx} {st : List Stmt} {t t' : TS} (h : PSs X st t) (w : ∀ D σ H, t' D σ H → t D σ H) : PSs X st t' := ⟨fun pins s σ H D I q => h.run pins s σ H D I (w D σ H q)⟩
end FD
end
section
set_option Elab.async false
set_option linter.all false
set_option maxRecDepth 100000
set_option autoImplicit false
namespace FD
open PySem PySem.Spec PyProof.Rows L2

theorem XC.gc {G : Gc} {N vis loc gl : List Str} {sc : Scope} {k : Nat} {E : XK} {X : Cx} (h : XC G N vis loc gl sc k E X) : G = ⟨X.prog, X.w, X.K, X.mg, X.base⟩ := by
  obtain ⟨P, w, K, mg, base⟩ := G
  have e1 := h.hP; have e2 := h.hw; have e3 := h.hK; have e4 := h.hmg; have e5 := h.hbase
  simp only at e1 e2 e3 e4 e5
  rw [e1, e2, e3, e4, e5]

/-! ### the judgements -/
def DE (G : Gc) (E : XK) (X : Cx) (e : Expr) (f : EF) : Prop := PE X e (tE G E f)
def DT (G : Gc) (E : XK) (X : Cx) (e : Expr) (f : TF) : Prop := PT X e (tT G E f)
def DW (G : Gc) (E : XK) (X : Cx) (e : Expr) (f : TF) : Prop := PW X e (tT G E f)
def DA (G : Gc) (E : XK) (X : Cx) (es : List Expr) (f : AF) : Prop := PA X es (tA G E f)

/-! ### what a step asks of values -/
section
variable (G : Gc) (E : XK)
def r1 (h : W → Cells → R W) : V → Hp → VK → Prop := fun x H Q => ∃ w m H0 as, Cel G H0 as H m ∧ RpW G H0 as x w ∧ Req G E H0 as H (h w m) fun z _ H0' as' H' => ∀ v, RpW G H0' as' v z → Q v H'
def r2 (h : W → W → Cells → R W) : R2 := fun x y H Q => ∃ w u m H0 as, Cel G H0 as H m ∧ RpW G H0 as x w ∧ RpW G H0 as y u ∧ Req G E H0 as H (h w u m) fun z _ H0' as' H' => ∀ v, RpW G H0' as' v z → Q v H'
def rN (h : List W → Cells → R W) : List V → Hp → VK → Prop := fun xs H Q => ∃ ws m H0 as, Cel G H0 as H m ∧ RpWs G H0 as xs ws ∧ Req G E H0 as H (h ws m) fun z _ H0' as' H' => ∀ v, RpW G H0' as' v z → Q v H'
end
section
variable {G : Gc} {E : XK} {σ : L2.St} {H : Hp} {Q : VK}
theorem tE_1 {f : EF} {h : W → Cells → R W} (q : tE G E (fun ρ m => (f ρ m).bind h) σ H Q) : tE G E f σ H fun x H1 => r1 G E h x H1 Q := by
  obtain ⟨ρ, m, H0, as, c, s, q⟩ := q
  exact ⟨ρ, m, H0, as, c, s, (Req.bind q).mono fun w m1 H0' as' H' f1 c1 q1 x rx => ⟨w, m1, H0', as', c1, rx, q1⟩⟩
theorem tE_2 {f g : EF} {h : W → W → Cells → R W} (q : tE G E (fun ρ m => (f ρ m).bind fun w m1 => (g ρ m1).bind fun u m2 => h w u m2) σ H Q) :
    tE G E f σ H fun x H1 => tE G E g σ H1 fun y H2 => r2 G E h x y H2 Q := by
  obtain ⟨ρ, m, H0, as, c, s, q⟩ := q
  exact ⟨ρ, m, H0, as, c, s, (Req.bind q).mono fun w m1 H0' as' H' f1 c1 q1 x rx => ⟨ρ, m1, H0', as', c1, s.mono f1, (Req.bind q1).mono fun u m2 H2 as2 H2' f2 c2 q2 y ry =>
    ⟨w, u, m2, H2, as2, c2, rx.mono f2, ry, q2⟩⟩⟩
theorem tA_N {f : AF} {h : List W → Cells → R W} (q : tE G E (fun ρ m => (f ρ m).bind h) σ H Q) : tA G E f σ H fun xs H1 => rN G E h xs H1 Q := by
  obtain ⟨ρ, m, H0, as, c, s, q⟩ := q
  exact ⟨ρ, m, H0, as, c, s, (Req.bind q).mono fun w m1 H0' as' H' f1 c1 q1 x rx => ⟨w, m1, H0', as', c1, rx, q1⟩⟩
end

/-! ### names, constants -/
def eV (i : Nat) : EF := fun ρ m => match ρ[i]? with
  | some (some w) => .ok w m
  | _ => .bad
def eC (d : D) : EF := fun _ m => .ok (.val d) m
section
variable {G : Gc} {E : XK} {X : Cx} {N vis loc gl : List Str} {sc : Scope} {k : Nat}
theorem de_var (hX : XC G N vis loc gl sc k E X) (i : Nat) {x : Str} {pos : Pos} (j : Nat) (hi : N[i]? = some x := by rfl) (hj : vis[j]? = some x := by rfl) (hd : (x == ("__debug__" : Str)) = false := by decide) (hcd : (x == ("__classdict__" : Str)) = false := by decide) :
    DE G E X (.Name x pos) (eV i) := by
  refine PE.weak (pe_var (i := i) (by rw [hX.hN]; exact hi) (hX.hvis x (List.mem_of_getElem? hj)) hd hcd) fun σ H Q q => ?_
  obtain ⟨ρ, m, H0, as, c, s, q⟩ := q
  unfold eV at q
  split at q
  · rename_i w e
    obtain ⟨v, h1, h2⟩ := s.at_ i w e
    exact ⟨v, h1, q.ok c v h2⟩
  · exact q.elim
theorem de_int {i : Int} {j : Nat} {pos : Pos} : DE G E X (.Constant (.int i) j pos) (eC (.int i)) := PE.weak pe_int fun σ H Q ⟨ρ, m, H0, as, c, s, q⟩ => q.ok c _ .int
theorem de_bl {b : Bool} {j : Nat} {pos : Pos} : DE G E X (.Constant (.bool b) j pos) (eC (.bl b)) := PE.weak pe_bl fun σ H Q ⟨ρ, m, H0, as, c, s, q⟩ => q.ok c _ .bl
theorem de_non {j : Nat} {pos : Pos} : DE G E X (.Constant .none j pos) (eC .non) := PE.weak pe_non fun σ H Q ⟨ρ, m, H0, as, c, s, q⟩ => q.ok c _ .non
theorem de_str {x : Str} {j : Nat} {pos : Pos} : DE G E X (.Constant (.str x) j pos) (eC (.str x)) := PE.weak pe_str fun σ H Q ⟨ρ, m, H0, as, c, s, q⟩ => q.ok c _ .str
end

/-! ### new things -/
section
variable {G : Gc} {E : XK} {H0 H : Hp} {as : List Addr} {m : Cells} {p : Addr}
theorem Cel.notin (c : Cel G H0 as H m) (hp : H p = none) : p ∉ as := fun z => c.there p z hp
/-- a new thing that stands still -/
theorem newV (c : Cel G H0 as H m) (hp : H p = none) (o : HO) : Frm H0 as H (upd H0 p o) as (upd H p o) ∧ Cel G (upd H0 p o) as (upd H p o) m := by
  have hp0 : H0 p = none := c.same.free hp
  have sm : Same H0 (upd H0 p o) := fun b u e => by rw [upd_ne (ne_of_none e hp0)]; exact e
  refine ⟨⟨sm, ⟨[], by simp⟩, fun b u _ e => by rw [upd_ne (ne_of_none e hp)]; exact e, fun b h n => absurd h n, fun b n h z => ?_⟩, ⟨fun b u e => ?_, c.len, c.nd, fun a h => ?_, fun k d e => ?_⟩⟩
  · have : b ≠ p := fun q => h (by rw [q]; exact hp)
    rw [upd_ne this]; exact z
  · by_cases q : b = p
    · subst q; rw [upd_same] at e ⊢; exact e
    · rw [upd_ne q] at e ⊢; exact c.same b u e
  · by_cases q : a = p
    · rw [q, upd_same]; simp
    · rw [upd_ne q]; exact c.there a h
  · obtain ⟨a, h1, h2, h3⟩ := c.cell k d e
    have ne : a ≠ p := fun q => by
      rw [q, hp] at h3
      cases d with
      | lst ds => obtain ⟨vs, z, _⟩ := h3; cases z
      | ins x fs => obtain ⟨C, dx, vs, z, _⟩ := h3; cases z
    refine ⟨a, h1, by rw [upd_ne ne]; exact h2, ?_⟩
    rw [upd_ne ne]
    cases d with
    | lst ds => obtain ⟨vs, z, r⟩ := h3; exact ⟨vs, z, r.mono sm⟩
    | ins x fs => obtain ⟨C, dx, vs, z, g, r⟩ := h3; exact ⟨C, dx, vs, z, g, r.mono sm⟩
theorem RpM.mono {H0' : Hp} (e : Same H0 H0') {o : Option HO} : ∀ {d : M}, RpM G H0 o d → RpM G H0' o d
  | .lst ds, ⟨vs, z, r⟩ => ⟨vs, z, r.mono e⟩
  | .ins x fs, ⟨C, dx, vs, z, g, r⟩ => ⟨C, dx, vs, z, g, r.mono e⟩
end

section
variable {G : Gc} {H0 H : Hp} {as : List Addr} {m : Cells} {p : Addr}
/-- a new thing that may be changed -/
theorem newC (c : Cel G H0 as H m) (hp : H p = none) {o : HO} {d : M} (h : RpM G H0 (some o) d) : Frm H0 as H H0 (as ++ [p]) (upd H p o) ∧ Cel G H0 (as ++ [p]) (upd H p o) (m ++ [some d]) := by
  have hp0 : H0 p = none := c.same.free hp
  have np := c.notin hp
  refine ⟨⟨Same.refl _, ⟨[p], rfl⟩, fun b u n e => by rw [upd_ne (ne_of_none e hp)]; exact e, fun b h n => ?_, fun b n h z => z⟩, ⟨fun b u e => ?_, by simp [c.len], ?_, fun a h => ?_, fun k d' e => ?_⟩⟩
  · rcases List.mem_append.mp h with h | h
    · exact absurd h n
    · rw [List.mem_singleton.mp h]; exact hp
  · rw [upd_ne (ne_of_none e hp0)]; exact c.same b u e
  · rw [List.nodup_append]
    refine ⟨c.nd, by simp, fun a ha b hb => ?_⟩
    rw [List.mem_singleton.mp hb]
    exact fun q => np (q ▸ ha)
  · rcases List.mem_append.mp h with h | h
    · have : a ≠ p := fun q => np (q ▸ h)
      rw [upd_ne this]; exact c.there a h
    · rw [List.mem_singleton.mp h, upd_same]; simp
  · by_cases l : k < m.length
    · rw [List.getElem?_append_left l] at e
      obtain ⟨a, h1, h2, h3⟩ := c.cell k d' e
      have ne : a ≠ p := fun q => np (q ▸ List.mem_of_getElem? h1)
      exact ⟨a, by rw [List.getElem?_append_left (by rw [c.len]; exact l)]; exact h1, h2, by rw [upd_ne ne]; exact h3⟩
    · have lk : k = m.length := by
        have := (List.getElem?_eq_some_iff.mp e).1
        rw [List.length_append, List.length_singleton] at this
        omega
      subst lk
      rw [List.getElem?_append_right (Nat.le_refl _), Nat.sub_self] at e
      cases e
      refine ⟨p, ?_, hp0, by rw [upd_same]; exact h⟩
      rw [List.getElem?_append_right (by rw [c.len]; exact Nat.le_refl _), c.len, Nat.sub_self]; rfl
/-- a cell written -/
theorem writeC (c : Cel G H0 as H m) {k : Nat} {a : Addr} {d0 d : M} {o : HO} (hk : m[k]? = some (some d0)) (ha : as[k]? = some a) (h : RpM G H0 (some o) d) :
    Frm H0 as H H0 as (upd H a o) ∧ Cel G H0 as (upd H a o) (m.set k (some d)) := by
  have hm : a ∈ as := List.mem_of_getElem? ha
  obtain ⟨a', e1, z0, _⟩ := c.cell k d0 hk
  rw [ha] at e1
  cases e1
  refine ⟨⟨Same.refl _, ⟨[], by simp⟩, fun b u n e => ?_, fun b h n => absurd h n, fun b n h z => z⟩, ⟨fun b u e => ?_, by simp [c.len], c.nd, fun b hb => ?_, fun j d' e => ?_⟩⟩
  · have : b ≠ a := fun q => n (q ▸ hm)
    rw [upd_ne this]; exact e
  · rw [upd_ne (ne_of_none e z0)]; exact c.same b u e
  · by_cases q : b = a
    · rw [q, upd_same]; simp
    · rw [upd_ne q]; exact c.there b hb
  · by_cases q : k = j
    · subst q
      have l := (List.getElem?_eq_some_iff.mp hk).1
      rw [List.getElem?_set_self l] at e
      cases e
      exact ⟨a, ha, z0, by rw [upd_same]; exact h⟩
    · rw [List.getElem?_set_ne q] at e
      obtain ⟨b, h1, h2, h3⟩ := c.cell j d' e
      have ne : b ≠ a := fun z => by
        subst z
        obtain ⟨l1, q1⟩ := List.getElem?_eq_some_iff.mp h1
        obtain ⟨l2, q2⟩ := List.getElem?_eq_some_iff.mp ha
        exact q ((List.getElem_inj c.nd).mp (q2.trans q1.symm))
      exact ⟨b, h1, h2, by rw [upd_ne ne]; exact h3⟩
end
end FD
end
section
set_option Elab.async false
set_option linter.all false
set_option maxRecDepth 100000
set_option autoImplicit false
namespace FD
open PySem PySem.Spec PyProof.Rows L2

/-! ### what the operators do to data -/
def mulOk (i j : Int) : Bool := decide (i.natAbs.log2 + j.natAbs.log2 < 1000000) || decide (-(2 ^ 64) < i ∧ i < 2 ^ 64) || decide (-(2 ^ 64) < j ∧ j < 2 ^ 64)
def divOk (j : Int) : Bool := decide (0 < j) && decide (j.natAbs.log2 < 9000)
def addD : W → W → Cells → R W
  | .val (.int i), .val (.int j), m => .ok (.val (.int (i + j))) m
  | .val (.str x), .val (.str y), m => if x.length + y.length ≤ sizeLine then .ok (.val (.str (x ++ y))) m else .bad
  | .val (.lst xs), .val (.lst ys), m => if xs.length + ys.length ≤ sizeLine then .ok (.val (.lst (xs ++ ys))) m else .bad
  | _, _, _ => .bad
def subD : W → W → Cells → R W
  | .val (.int i), .val (.int j), m => .ok (.val (.int (i - j))) m
  | _, _, _ => .bad
def mulD : W → W → Cells → R W
  | .val (.int i), .val (.int j), m => if mulOk i j then .ok (.val (.int (i * j))) m else .bad
  | .val (.lst xs), .val (.int k), m => if -(2 ^ 63) ≤ k ∧ k < 2 ^ 63 ∧ xs.length * k.toNat ≤ sizeLine then .ok (.val (.lst (List.replicate k.toNat xs).flatten)) m else .bad
  | _, _, _ => .bad
def fdivD : W → W → Cells → R W
  | .val (.int i), .val (.int j), m => if divOk j then .ok (.val (.int (i / j))) m else .bad
  | _, _, _ => .bad
def modD : W → W → Cells → R W
  | .val (.int i), .val (.int j), m => if 0 < j then .ok (.val (.int (i % j))) m else .bad
  | _, _, _ => .bad
def powD : W → W → Cells → R W
  | .val (.int i), .val (.int j), m => if 0 ≤ j ∧ j ≤ 1000000 ∧ i.natAbs < 2 ^ 64 then .ok (.val (.int (i ^ j.toNat))) m else .bad
  | _, _, _ => .bad
def cmpD (p : Int → Int → Bool) : W → W → Cells → R W
  | .val (.int i), .val (.int j), m => .ok (.val (.bl (p i j))) m
  | _, _, _ => .bad
abbrev ltD := cmpD fun i j => decide (i < j)
abbrev leD := cmpD fun i j => decide (i ≤ j)
abbrev gtD := cmpD fun i j => decide (j < i)
abbrev geD := cmpD fun i j => decide (j ≤ i)
def D.isNone : D → Bool
  | .non => true
  | _ => false
def isND : W → W → Cells → R W
  | .val d, .val .non, m => .ok (.val (.bl d.isNone)) m
  | .ref _, .val .non, m => .ok (.val (.bl false)) m
  | _, _, _ => .bad
def notND : W → W → Cells → R W
  | .val d, .val .non, m => .ok (.val (.bl (!d.isNone))) m
  | .ref _, .val .non, m => .ok (.val (.bl true)) m
  | _, _, _ => .bad
def negD : W → Cells → R W
  | .val (.int i), m => .ok (.val (.int (-i))) m
  | _, _ => .bad
/-- an item -/
def ixD : W → W → Cells → R W
  | .val (.lst xs), .val (.int i), m => match atI xs i with
    | some d => .ok (.val d) m
    | none => .bad
  | .val (.tup xs), .val (.int i), m => match atI xs i with
    | some d => .ok (.val d) m
    | none => .bad
  | .val (.scr xs), .val (.int i), m => match atI xs i with
    | some d => .ok (.val d) m
    | none => .bad
  | .val (.str z), .val (.int i), m => if z.length ≤ sizeLine then (match atI z.cps.toList i with
    | some c => .ok (.val (.str ⟨#[c]⟩)) m
    | none => .bad) else .bad
  | .ref k, .val (.int i), m => match m[k]? with
    | some (some (.lst xs)) => (match atI xs i with
      | some d => .ok (.val d) m
      | none => .bad)
    | _ => .bad
  | _, _, _ => .bad

section
variable {K : PySem.W.Frag} {mg : Str → Option Value} {H : Hp}
theorem Rps.atI {vs : List V} {ds : List D} (r : Rps K mg H vs ds) {i : Int} {d : D} (e : L2.atI ds i = some d) : ∃ v, L2.atI vs i = some v ∧ Rp K mg H v d := by
  unfold L2.atI at e ⊢
  rw [r.length]
  cases q : ixN ds.length i with
  | none => rw [q] at e; cases e
  | some j =>
    rw [q] at e
    exact r.get e
end
section
variable {G : Gc} {E : XK} {X : Cx} {N vis loc gl : List Str} {sc : Scope} {k : Nat}
theorem op_addD (hX : XC G N vis loc gl sc k E X) : OpR X (binaryOp .Add) (r2 G E addD) := by
  have eG := hX.gc
  intro pins s σ H x y v u Q I rx ry q
  obtain ⟨w, u', m, H0, as, c, h1, h2, q⟩ := q
  unfold addD at q
  split at q
  · cases (show Rp G.K G.mg H0 x (.int _) from h1)
    cases (show Rp G.K G.mg H0 y (.int _) from h2)
    exact op_add pins s σ H _ _ v u Q I rx ry ⟨_, _, rfl, rfl, q.ok c _ .int⟩
  · cases (show Rp G.K G.mg H0 x (.str _) from h1)
    cases (show Rp G.K G.mg H0 y (.str _) from h2)
    split at q
    · exact op_add_str pins s σ H _ _ v u Q I rx ry ⟨_, _, rfl, rfl, by assumption, q.ok c _ .str⟩
    · exact q.elim
  · cases (show Rp G.K G.mg H0 x (.lst _) from h1) with
    | lst a1 b1 =>
      cases (show Rp G.K G.mg H0 y (.lst _) from h2) with
      | lst a2 b2 =>
        split at q
        · rename_i hl
          refine op_cat pins s σ H _ _ v u Q I rx ry ⟨_, _, _, _, rfl, rfl, c.same _ _ a1, c.same _ _ a2, by rw [b1.length, b2.length]; exact hl, fun p hp => ?_⟩
          obtain ⟨f, c'⟩ := newV c hp (.lst _)
          exact q _ _ _ f c' _ (.lst upd_same ((b1.append b2).mono f.same))
        · exact q.elim
  · exact q.elim
theorem op_subD (hX : XC G N vis loc gl sc k E X) : OpR X (binaryOp .Sub) (r2 G E subD) := by
  intro pins s σ H x y v u Q I rx ry q
  obtain ⟨w, u', m, H0, as, c, h1, h2, q⟩ := q
  unfold subD at q
  split at q
  · cases (show Rp G.K G.mg H0 x (.int _) from h1)
    cases (show Rp G.K G.mg H0 y (.int _) from h2)
    exact op_sub pins s σ H _ _ v u Q I rx ry ⟨_, _, rfl, rfl, q.ok c _ .int⟩
  · exact q.elim
theorem flat_rep (xs : List V) (n : Nat) {K : PySem.W.Frag} {mg : Str → Option Value} {H : Hp} {ds : List D} (r : Rps K mg H xs ds) : Rps K mg H (List.replicate n xs).flatten (List.replicate n ds).flatten := by
  induction n with
  | zero => exact .nil
  | succ n ih =>
    rw [List.replicate_succ, List.replicate_succ, List.flatten_cons, List.flatten_cons]
    exact r.append ih
theorem op_mulD (hX : XC G N vis loc gl sc k E X) : OpR X (binaryOp .Mult) (r2 G E mulD) := by
  intro pins s σ H x y v u Q I rx ry q
  obtain ⟨w, u', m, H0, as, c, h1, h2, q⟩ := q
  unfold mulD at q
  split at q
  · cases (show Rp G.K G.mg H0 x (.int _) from h1)
    cases (show Rp G.K G.mg H0 y (.int _) from h2)
    split at q
    · rename_i hm
      unfold mulOk at hm
      rw [Bool.or_eq_true, Bool.or_eq_true] at hm
      rcases hm with (hm | hm) | hm
      · have hm' := of_decide_eq_true hm
        exact op_mulW pins s σ H _ _ v u Q I rx ry ⟨_, _, rfl, rfl, hm', q.ok c _ .int⟩
      · exact op_mul pins s σ H _ _ v u Q I rx ry ⟨_, _, rfl, rfl, .inl (of_decide_eq_true hm), q.ok c _ .int⟩
      · exact op_mul pins s σ H _ _ v u Q I rx ry ⟨_, _, rfl, rfl, .inr (of_decide_eq_true hm), q.ok c _ .int⟩
    · exact q.elim
  · cases (show Rp G.K G.mg H0 x (.lst _) from h1) with
    | lst a1 b1 =>
      cases (show Rp G.K G.mg H0 y (.int _) from h2)
      split at q
      · rename_i hl
        obtain ⟨l1, l2, l3⟩ := hl
        refine op_rep pins s σ H _ _ v u Q I rx ry ⟨_, _, _, rfl, rfl, c.same _ _ a1, l1, l2, by rw [b1.length]; exact l3, fun p hp => ?_⟩
        obtain ⟨f, c'⟩ := newV c hp (.lst _)
        exact q _ _ _ f c' _ (.lst upd_same ((flat_rep _ _ b1).mono f.same))
      · exact q.elim
  · exact q.elim
theorem op_fdivD (hX : XC G N vis loc gl sc k E X) : OpR X (binaryOp .FloorDiv) (r2 G E fdivD) := by
  intro pins s σ H x y v u Q I rx ry q
  obtain ⟨w, u', m, H0, as, c, h1, h2, q⟩ := q
  unfold fdivD at q
  split at q
  · cases (show Rp G.K G.mg H0 x (.int _) from h1)
    cases (show Rp G.K G.mg H0 y (.int _) from h2)
    split at q
    · rename_i hm
      unfold divOk at hm
      rw [Bool.and_eq_true] at hm
      exact op_fdivW pins s σ H _ _ v u Q I rx ry ⟨_, _, rfl, rfl, ⟨of_decide_eq_true hm.1, of_decide_eq_true hm.2⟩, q.ok c _ .int⟩
    · exact q.elim
  · exact q.elim
theorem op_modD (hX : XC G N vis loc gl sc k E X) : OpR X (binaryOp .Mod) (r2 G E modD) := by
  intro pins s σ H x y v u Q I rx ry q
  obtain ⟨w, u', m, H0, as, c, h1, h2, q⟩ := q
  unfold modD at q
  split at q
  · cases (show Rp G.K G.mg H0 x (.int _) from h1)
    cases (show Rp G.K G.mg H0 y (.int _) from h2)
    split at q
    · exact op_mod pins s σ H _ _ v u Q I rx ry ⟨_, _, rfl, rfl, by assumption, q.ok c _ .int⟩
    · exact q.elim
  · exact q.elim
theorem op_powD (hX : XC G N vis loc gl sc k E X) : OpR X (binaryOp .Pow) (r2 G E powD) := by
  intro pins s σ H x y v u Q I rx ry q
  obtain ⟨w, u', m, H0, as, c, h1, h2, q⟩ := q
  unfold powD at q
  split at q
  · cases (show Rp G.K G.mg H0 x (.int _) from h1)
    cases (show Rp G.K G.mg H0 y (.int _) from h2)
    split at q
    · exact op_pow pins s σ H _ _ v u Q I rx ry ⟨_, _, rfl, rfl, by assumption, q.ok c _ .int⟩
    · exact q.elim
  · exact q.elim
theorem op_cmpD {op : CmpOp} {p : Int → Int → Bool} (o : OpR X (compareOp op) (rI0 fun i j => .bl (p i j))) : OpR X (compareOp op) (r2 G E (cmpD p)) := by
  intro pins s σ H x y v u Q I rx ry q
  obtain ⟨w, u', m, H0, as, c, h1, h2, q⟩ := q
  unfold cmpD at q
  split at q
  · cases (show Rp G.K G.mg H0 x (.int _) from h1)
    cases (show Rp G.K G.mg H0 y (.int _) from h2)
    exact o pins s σ H _ _ v u Q I rx ry ⟨_, _, rfl, rfl, q.ok c _ .bl⟩
  · exact q.elim
theorem isNone_eq {K : PySem.W.Frag} {mg : Str → Option Value} {H : Hp} {v : V} {d : D} (h : Rp K mg H v d) : decide (v = .non) = d.isNone := by
  cases h <;> simp [D.isNone]
theorem op_isND : OpR X (compareOp .Is) (r2 G E isND) := by
  intro pins s σ H x y v u Q I rx ry q
  obtain ⟨w, u', m, H0, as, c, h1, h2, q⟩ := q
  unfold isND at q
  split at q
  · cases (show Rp G.K G.mg H0 y .non from h2)
    exact op_isN pins s σ H _ _ v u Q I rx ry ⟨rfl, by rw [isNone_eq h1]; exact q.ok c _ .bl⟩
  · cases (show Rp G.K G.mg H0 y .non from h2)
    obtain ⟨a, _, rfl⟩ := h1
    exact op_isN pins s σ H _ _ v u Q I rx ry ⟨rfl, q.ok c _ .bl⟩
  · exact q.elim
theorem op_notND : OpR X (compareOp .IsNot) (r2 G E notND) := by
  intro pins s σ H x y v u Q I rx ry q
  obtain ⟨w, u', m, H0, as, c, h1, h2, q⟩ := q
  unfold notND at q
  split at q
  · cases (show Rp G.K G.mg H0 y .non from h2)
    exact op_notN pins s σ H _ _ v u Q I rx ry ⟨rfl, by rw [isNone_eq h1]; exact q.ok c _ .bl⟩
  · cases (show Rp G.K G.mg H0 y .non from h2)
    obtain ⟨a, _, rfl⟩ := h1
    exact op_notN pins s σ H _ _ v u Q I rx ry ⟨rfl, q.ok c _ .bl⟩
  · exact q.elim
theorem un_negD : UnR X (unaryOp .USub) (r1 G E negD) := by
  intro pins s σ H x v Q I rx q
  obtain ⟨w, m, H0, as, c, h1, q⟩ := q
  unfold negD at q
  split at q
  · cases (show Rp G.K G.mg H0 x (.int _) from h1)
    exact un_neg pins s σ H _ v Q I rx ⟨_, rfl, q.ok c _ .int⟩
  · exact q.elim
theorem ix_D (hX : XC G N vis loc gl sc k E X) : IxR X (r2 G E ixD) := by
  have eG := hX.gc
  subst eG
  intro value slice pins s σ H x y v u Q I rx ry q hs
  obtain ⟨w, u', m, H0, as, c, h1, h2, q⟩ := q
  unfold ixD at q
  split at q
  · cases (show Rp X.K X.mg H0 y (.int _) from h2)
    cases (show Rp X.K X.mg H0 x (.lst _) from h1) with
    | lst a1 b1 =>
      split at q
      · rename_i d e
        obtain ⟨z, e1, e2⟩ := b1.atI e
        exact ix_list value slice pins s σ H _ _ v u Q I rx ry ⟨_, _, _, z, rfl, rfl, SqL.of (c.same _ _ a1), e1, q.ok c _ e2⟩ hs
      · exact q.elim
  · cases (show Rp X.K X.mg H0 y (.int _) from h2)
    cases (show Rp X.K X.mg H0 x (.tup _) from h1) with
    | tup a1 b1 =>
      split at q
      · rename_i d e
        obtain ⟨z, e1, e2⟩ := b1.atI e
        exact ix_tup value slice pins s σ H _ _ v u Q I rx ry ⟨_, _, _, z, rfl, rfl, sqT_same c.same a1, e1, q.ok c _ e2⟩ hs
      · exact q.elim
  · cases (show Rp X.K X.mg H0 y (.int _) from h2)
    cases (show Rp X.K X.mg H0 x (.scr _) from h1) with
    | scr a1 b1 =>
      split at q
      · rename_i d e
        obtain ⟨z, e1, e2⟩ := b1.atI e
        exact ix_list value slice pins s σ H _ _ v u Q I rx ry ⟨_, _, _, z, rfl, rfl, c.same.seq a1, e1, q.ok c _ e2⟩ hs
      · exact q.elim
  · cases (show Rp X.K X.mg H0 y (.int _) from h2)
    cases (show Rp X.K X.mg H0 x (.str _) from h1)
    split at q
    · rename_i hz
      split at q
      · rename_i d e
        exact ix_str value slice pins s σ H _ _ v u Q I rx ry ⟨_, _, d, rfl, rfl, hz, e, q.ok c _ .str⟩ hs
      · exact q.elim
    · exact q.elim
  · cases (show Rp X.K X.mg H0 y (.int _) from h2)
    split at q
    · rename_i xs e
      obtain ⟨a, ea, z0, vs, e1, r⟩ := c.cell _ _ e
      obtain ⟨a', ea', rfl⟩ := h1
      rw [ea] at ea'
      cases ea'
      split at q
      · rename_i d e3
        obtain ⟨z, e4, e5⟩ := r.atI e3
        exact ix_list value slice pins s σ H _ _ v u Q I rx ry ⟨_, _, _, z, rfl, rfl, SqL.of e1, e4, q.ok c _ e5⟩ hs
      · exact q.elim
    · exact q.elim
  · exact q.elim

/-! ### the operators in expressions -/
def e2 (h : W → W → Cells → R W) (f g : EF) : EF := fun ρ m => (f ρ m).bind fun w m1 => (g ρ m1).bind fun u m2 => h w u m2
def e1 (h : W → Cells → R W) (f : EF) : EF := fun ρ m => (f ρ m).bind h
variable {a b c : Expr} {f g f' : EF} {pos : Pos}
theorem de_op {op : Operator} {h : W → W → Cells → R W} (o : OpR X (binaryOp op) (r2 G E h)) (ha : DE G E X a f) (hb : DE G E X b g) : DE G E X (.BinOp a op b pos) (e2 h f g) :=
  PE.weak (pe_op o ha hb) fun σ H Q q => tE_2 q
theorem de_un {op : UnaryOp} {h : W → Cells → R W} (o : UnR X (unaryOp op) (r1 G E h)) (ha : DE G E X a f) : DE G E X (.UnaryOp op a pos) (e1 h f) :=
  PE.weak (pe_un o ha) fun σ H Q q => tE_1 q
theorem de_cmp {op : CmpOp} {h : W → W → Cells → R W} (o : OpR X (compareOp op) (r2 G E h)) (ha : DE G E X a f) (hb : DE G E X b g) (hm : behindInMarks op b = false := by first | exact nomark _ | rfl) : DE G E X (.Compare a [op] [b] pos) (e2 h f g) :=
  PE.weak (pe_cmpR o ha hb hm) fun σ H Q q => tE_2 q
theorem de_ix (hX : XC G N vis loc gl sc k E X) (ha : DE G E X a f) (hb : DE G E X b g) (hs : PlainIx b := by exact fun _ _ => rfl) : DE G E X (.Subscript a b pos) (e2 ixD f g) :=
  PE.weak (pe_ix (ix_D hX) ha hb hs) fun σ H Q q => tE_2 q
/-- what an expression that gives a truth is as a test -/
def tB (f : EF) : TF := fun ρ m => (f ρ m).bind fun w m => match w with
  | .val (.bl b) => .ok b m
  | _ => .bad
theorem tE_B {f : EF} {σ : L2.St} {H : Hp} {Q : Bool → Hp → Prop} (q : tT G E (tB f) σ H Q) : tE G E f σ H fun x H1 => ∃ k, x = .bl k ∧ Q k H1 := by
  obtain ⟨ρ, m, H0, as, c, s, q⟩ := q
  refine ⟨ρ, m, H0, as, c, s, (Req.bind q).mono fun w m1 H0' as' H' f1 c1 q1 x rx => ?_⟩
  split at q1
  · cases (show Rp G.K G.mg H0' x (.bl _) from rx)
    exact ⟨_, rfl, q1.ok c1⟩
  · exact q1.elim
theorem dt_val (h : DE G E X a f) (he : ∀ whole, isTrue a X.env whole = (do let v ← whole; standAt a.pos; holding [v] (truthy v)) := by intro _; rfl) : DT G E X a (tB f) :=
  PT.weak (pt_val h he) fun σ H Q q => tE_B q
theorem dt_cmp {op : CmpOp} {h : W → W → Cells → R W} (o : OpR X (compareOp op) (r2 G E h)) (ha : DE G E X a f) (hb : DE G E X b g) (hm : behindInMarks op b = false := by first | exact nomark _ | rfl) : DT G E X (.Compare a [op] [b] pos) (tB (e2 h f g)) :=
  PT.weak (pt_cmpR o ha hb hm) fun σ H Q q => tE_2 (tE_B q)
end
end FD
end
section
set_option Elab.async false
set_option linter.all false
set_option maxRecDepth 100000
set_option autoImplicit false
namespace FD
open PySem PySem.Spec PyProof.Rows L2

/-! ### data without objects, as the library's data -/
mutual
def D.py : D → PyData
  | .non => .none
  | .bl b => .bool b
  | .int i => .int i
  | .str x => .str x
  | .tup xs => .tuple (D.pyAll xs)
  | .lst xs => .list (D.pyAll xs)
  | .scr xs => .list (D.pyAll xs)
  | .ins _ _ => .none
def D.pyAll : List D → List PyData
  | [] => []
  | d :: ds => D.py d :: D.pyAll ds
end
mutual
def D.plain : D → Bool
  | .tup xs => D.plainAll xs
  | .lst xs => D.plainAll xs
  | .scr xs => D.plainAll xs
  | .ins _ _ => false
  | _ => true
def D.plainAll : List D → Bool
  | [] => true
  | d :: ds => D.plain d && D.plainAll ds
end
theorem D.pyAll_map : ∀ xs : List D, D.pyAll xs = xs.map D.py
  | [] => rfl
  | x :: xs => by rw [D.pyAll, D.pyAll_map xs]; rfl
theorem D.plainAll_all : ∀ xs : List D, D.plainAll xs = xs.all D.plain
  | [] => rfl
  | x :: xs => by rw [D.plainAll, D.plainAll_all xs]; rfl
/-- what may be compared: no objects, not too deep, texts of signs -/
def D.cmp (d : D) : Bool := d.plain && SeqAt.shaped d.py
section
variable {K : PySem.W.Frag} {mg : Str → Option Value} {H : Hp}
mutual
theorem Rp.dp : ∀ {v : V} {d : D}, Rp K mg H v d → d.plain = true → Dp K H v d.py
  | _, _, .non, _ => .non
  | _, _, .bl, _ => .bl _
  | _, _, .int, _ => .int _
  | _, _, .str, _ => .str _
  | _, _, .tup h r, p => .tup h (Rps.dp r p)
  | _, _, .lst h r, p => .lst (SqL.of h) (Rps.dp r p)
  | _, _, .scr h r, p => .lst h (Rps.dp r p)
  | _, _, .ins h g r, p => by cases p
theorem Rps.dp : ∀ {vs : List V} {ds : List D}, Rps K mg H vs ds → D.plainAll ds = true → DpAll K H vs (D.pyAll ds)
  | _, _, .nil, _ => .nil
  | _, _, .cons h r, p => by
    rw [D.plainAll, Bool.and_eq_true] at p
    exact .cons (Rp.dp h p.1) (Rps.dp r p.2)
end
end
def eqvD (d e : D) : Bool := PyData.eqv d.py e.py
def eqD : W → W → Cells → R W
  | .val d, .val e, m => if d.cmp = true ∧ e.cmp = true then .ok (.val (.bl (eqvD d e))) m else .bad
  | .ref k, .val e, m => match m[k]? with
    | some (some (.lst xs)) => if (D.lst xs).cmp = true ∧ e.cmp = true then .ok (.val (.bl (eqvD (.lst xs) e))) m else .bad
    | _ => .bad
  | _, _, _ => .bad
def neD : W → W → Cells → R W
  | .val d, .val e, m => if d.cmp = true ∧ e.cmp = true then .ok (.val (.bl (!eqvD d e))) m else .bad
  | .ref k, .val e, m => match m[k]? with
    | some (some (.lst xs)) => if (D.lst xs).cmp = true ∧ e.cmp = true then .ok (.val (.bl (!eqvD (.lst xs) e))) m else .bad
    | _ => .bad
  | _, _, _ => .bad
/-- x in c -/
def hasD (d : D) (xs : List D) : Bool := xs.any fun z => eqvD z d
def inSt (x z : Str) : Bool := !(Builtin.Str.occurrences z x 0 z.length 1).isEmpty
def inD (neg : Bool) : W → W → Cells → R W
  | .val d, .val (.lst xs), m => if d.cmp = true ∧ (D.lst xs).cmp = true then .ok (.val (.bl (if neg then !hasD d xs else hasD d xs))) m else .bad
  | .val d, .ref k, m => match m[k]? with
    | some (some (.lst xs)) => if d.cmp = true ∧ (D.lst xs).cmp = true then .ok (.val (.bl (if neg then !hasD d xs else hasD d xs))) m else .bad
    | _ => .bad
  | .val (.str x), .val (.str z), m => .ok (.val (.bl (if neg then !inSt x z else inSt x z))) m
  | _, _, _ => .bad
theorem any_py (d : D) : ∀ xs : List D, ((D.pyAll xs).any fun z => PyData.eqv z d.py) = hasD d xs
  | [] => rfl
  | x :: xs => by
    rw [D.pyAll, List.any_cons, any_py d xs]
    rfl
section
variable {G : Gc} {E : XK} {X : Cx} {N vis loc gl : List Str} {sc : Scope} {k : Nat}
theorem op_eqDD (hX : XC G N vis loc gl sc k E X) : OpR X (compareOp .Eq) (r2 G E eqD) := by
  have eG := hX.gc
  subst eG
  have hu := hX.room.units
  intro pins s σ H x y v u Q I rx ry q
  obtain ⟨w, u', m, H0, as, c, h1, h2, q⟩ := q
  unfold eqD at q
  split at q
  · split at q
    · rename_i d e hc
      obtain ⟨c1, c2⟩ := hc
      rw [D.cmp, Bool.and_eq_true] at c1 c2
      exact op_eqD hu pins s σ H _ _ v u Q I rx ry ⟨_, _, (Rp.mono c.same h1).dp c1.1, (Rp.mono c.same h2).dp c2.1, c1.2, c2.2, q.ok c _ .bl⟩
    · exact q.elim
  · split at q
    · rename_i xs e
      obtain ⟨a, ea, z0, vs, e1, r⟩ := c.cell _ _ e
      obtain ⟨a', ea', rfl⟩ := h1
      rw [ea] at ea'
      cases ea'
      split at q
      · rename_i hc
        obtain ⟨c1, c2⟩ := hc
        rw [D.cmp, Bool.and_eq_true] at c1 c2
        exact op_eqD hu pins s σ H _ _ v u Q I rx ry ⟨_, _, .lst (SqL.of e1) ((r.mono c.same).dp c1.1), (Rp.mono c.same h2).dp c2.1, c1.2, c2.2, q.ok c _ .bl⟩
      · exact q.elim
    · exact q.elim
  · exact q.elim
theorem op_neDD (hX : XC G N vis loc gl sc k E X) : OpR X (compareOp .NotEq) (r2 G E neD) := by
  have eG := hX.gc
  subst eG
  have hu := hX.room.units
  intro pins s σ H x y v u Q I rx ry q
  obtain ⟨w, u', m, H0, as, c, h1, h2, q⟩ := q
  unfold neD at q
  split at q
  · split at q
    · rename_i d e hc
      obtain ⟨c1, c2⟩ := hc
      rw [D.cmp, Bool.and_eq_true] at c1 c2
      exact op_neD hu pins s σ H _ _ v u Q I rx ry ⟨_, _, (Rp.mono c.same h1).dp c1.1, (Rp.mono c.same h2).dp c2.1, c1.2, c2.2, q.ok c _ .bl⟩
    · exact q.elim
  · split at q
    · rename_i xs e
      obtain ⟨a, ea, z0, vs, e1, r⟩ := c.cell _ _ e
      obtain ⟨a', ea', rfl⟩ := h1
      rw [ea] at ea'
      cases ea'
      split at q
      · rename_i hc
        obtain ⟨c1, c2⟩ := hc
        rw [D.cmp, Bool.and_eq_true] at c1 c2
        exact op_neD hu pins s σ H _ _ v u Q I rx ry ⟨_, _, .lst (SqL.of e1) ((r.mono c.same).dp c1.1), (Rp.mono c.same h2).dp c2.1, c1.2, c2.2, q.ok c _ .bl⟩
      · exact q.elim
    · exact q.elim
  · exact q.elim
theorem op_inDD (hX : XC G N vis loc gl sc k E X) : OpR X (compareOp .In) (r2 G E (inD false)) := by
  have eG := hX.gc
  subst eG
  have hu : X.A.units + 65 < cLine := by have := hX.room.un; omega
  intro pins s σ H x y v u Q I rx ry q
  obtain ⟨w, u', m, H0, as, c, h1, h2, q⟩ := q
  unfold inD at q
  split at q
  · split at q
    · rename_i d xs hc
      obtain ⟨c1, c2⟩ := hc
      rw [D.cmp, Bool.and_eq_true] at c1 c2
      refine op_inD hu pins s σ H _ _ v u Q I rx ry ⟨_, _, (Rp.mono c.same h1).dp c1.1, (Rp.mono c.same h2).dp c2.1, c1.2, c2.2, ?_⟩
      rw [any_py]
      exact q.ok c _ .bl
    · exact q.elim
  · split at q
    · rename_i d xs e
      obtain ⟨a, ea, z0, vs, e1, r⟩ := c.cell _ _ e
      obtain ⟨a', ea', rfl⟩ := h2
      rw [ea] at ea'
      cases ea'
      split at q
      · rename_i hc
        obtain ⟨c1, c2⟩ := hc
        rw [D.cmp, Bool.and_eq_true] at c1 c2
        refine op_inD hu pins s σ H _ _ v u Q I rx ry ⟨_, _, (Rp.mono c.same h1).dp c1.1, .lst (SqL.of e1) ((r.mono c.same).dp c2.1), c1.2, c2.2, ?_⟩
        rw [any_py]
        exact q.ok c _ .bl
      · exact q.elim
    · exact q.elim
  · cases (show Rp X.K X.mg H0 x (.str _) from h1)
    cases (show Rp X.K X.mg H0 y (.str _) from h2)
    exact op_in_str pins s σ H _ _ v u Q I rx ry ⟨_, _, rfl, rfl, q.ok c _ .bl⟩
  · exact q.elim
theorem op_notInDD (hX : XC G N vis loc gl sc k E X) : OpR X (compareOp .NotIn) (r2 G E (inD true)) := by
  have eG := hX.gc
  subst eG
  have hu : X.A.units + 65 < cLine := by have := hX.room.un; omega
  intro pins s σ H x y v u Q I rx ry q
  obtain ⟨w, u', m, H0, as, c, h1, h2, q⟩ := q
  unfold inD at q
  split at q
  · split at q
    · rename_i d xs hc
      obtain ⟨c1, c2⟩ := hc
      rw [D.cmp, Bool.and_eq_true] at c1 c2
      refine op_notInD hu pins s σ H _ _ v u Q I rx ry ⟨_, _, (Rp.mono c.same h1).dp c1.1, (Rp.mono c.same h2).dp c2.1, c1.2, c2.2, ?_⟩
      rw [any_py]
      exact q.ok c _ .bl
    · exact q.elim
  · split at q
    · rename_i d xs e
      obtain ⟨a, ea, z0, vs, e1, r⟩ := c.cell _ _ e
      obtain ⟨a', ea', rfl⟩ := h2
      rw [ea] at ea'
      cases ea'
      split at q
      · rename_i hc
        obtain ⟨c1, c2⟩ := hc
        rw [D.cmp, Bool.and_eq_true] at c1 c2
        refine op_notInD hu pins s σ H _ _ v u Q I rx ry ⟨_, _, (Rp.mono c.same h1).dp c1.1, .lst (SqL.of e1) ((r.mono c.same).dp c2.1), c1.2, c2.2, ?_⟩
        rw [any_py]
        exact q.ok c _ .bl
      · exact q.elim
    · exact q.elim
  · cases (show Rp X.K X.mg H0 x (.str _) from h1)
    cases (show Rp X.K X.mg H0 y (.str _) from h2)
    exact op_notin_str pins s σ H _ _ v u Q I rx ry ⟨_, _, rfl, rfl, q.ok c _ .bl⟩
  · exact q.elim
end
end FD
end
section
set_option Elab.async false
set_option linter.all false
set_option maxRecDepth 100000
set_option autoImplicit false
namespace FD
open PySem PySem.Spec PyProof.Rows L2

/-! ### arguments, displays -/
def aNil : AF := fun _ m => .ok [] m
def aCons (f : EF) (t : AF) : AF := fun ρ m => (f ρ m).bind fun w m1 => (t ρ m1).bind fun ws m2 => .ok (w :: ws) m2
def allVal : List W → Option (List D)
  | [] => some []
  | .val d :: ws => match allVal ws with
    | some ds => some (d :: ds)
    | none => none
  | .ref _ :: _ => none
def eTup (t : AF) : EF := fun ρ m => (t ρ m).bind fun ws m1 => match allVal ws with
  | some ds => if ds.length ≤ sizeLine then .ok (.val (.tup ds)) m1 else .bad
  | none => .bad
def eLst (t : AF) : EF := fun ρ m => (t ρ m).bind fun ws m1 => match allVal ws with
  | some ds => if ds.length ≤ sizeLine then .ok (.val (.lst ds)) m1 else .bad
  | none => .bad
/-- a list that may be changed -/
def eLstC (t : AF) : EF := fun ρ m => (t ρ m).bind fun ws m1 => match allVal ws with
  | some ds => if ds.length ≤ sizeLine then .ok (.ref m1.length) (m1 ++ [some (.lst ds)]) else .bad
  | none => .bad
section
variable {G : Gc} {E : XK} {X : Cx} {N vis loc gl : List Str} {sc : Scope} {k : Nat} {e : Expr} {es : List Expr} {f : EF} {t : AF} {pos : Pos}
theorem da_nil : DA G E X [] aNil := PA.weak pa_nil fun σ H Q ⟨ρ, m, H0, as, c, s, q⟩ => q.ok c _ .nil
theorem da_cons (h : DE G E X e f) (r : DA G E X es t) (hs : starEach (e :: es) X.env = (false, eval e X.env) :: starEach es X.env := by rfl) : DA G E X (e :: es) (aCons f t) := by
  refine PA.weak (pa_cons h r hs) fun σ H Q ⟨ρ, m, H0, as, c, s, q⟩ => ?_
  exact ⟨ρ, m, H0, as, c, s, (Req.bind q).mono fun w m1 H0' as' H' f1 c1 q1 x rx => ⟨ρ, m1, H0', as', c1, s.mono f1, (Req.bind q1).mono fun ws m2 H2 as2 H2' f2 c2 q2 xs rxs => q2.ok c2 _ (.cons (rx.mono f2) rxs)⟩⟩
theorem allVal_rps {H0 : Hp} {as : List Addr} : ∀ {vs : List V} {ws : List W} {ds : List D}, RpWs G H0 as vs ws → allVal ws = some ds → Rps G.K G.mg H0 vs ds
  | _, _, _, .nil, e => by cases e; exact .nil
  | _, _, _, .cons (w := .val d) (ws := ws) h r, e => by
    unfold allVal at e
    cases q : allVal ws with
    | none => rw [q] at e; cases e
    | some ds =>
      rw [q] at e
      cases e
      exact .cons h (allVal_rps r q)
  | _, _, _, .cons (w := .ref k) h r, e => by cases e
theorem de_tup {x1 : Nat} (h : DA G E X es t) : DE G E X (.Tuple es x1 pos) (eTup t) := by
  refine PE.weak (pe_tup h) fun σ H Q ⟨ρ, m, H0, as, c, s, q⟩ => ?_
  refine ⟨ρ, m, H0, as, c, s, (Req.bind q).mono fun ws m1 H0' as' H' f1 c1 q1 xs rxs => ?_⟩
  split at q1
  · rename_i ds ed
    split at q1
    · have r := allVal_rps rxs ed
      refine ⟨by rw [r.length]; assumption, fun p hp => ?_⟩
      obtain ⟨f2, c2⟩ := newV c1 hp (.tup xs)
      exact q1 _ _ _ f2 c2 _ (.tup (SqT.of upd_same) (r.mono f2.same))
    · exact q1.elim
  · exact q1.elim
theorem de_lst (h : DA G E X es t) : DE G E X (.List es pos) (eLst t) := by
  refine PE.weak (pe_lst h) fun σ H Q ⟨ρ, m, H0, as, c, s, q⟩ => ?_
  refine ⟨ρ, m, H0, as, c, s, (Req.bind q).mono fun ws m1 H0' as' H' f1 c1 q1 xs rxs => ?_⟩
  split at q1
  · rename_i ds ed
    split at q1
    · have r := allVal_rps rxs ed
      refine ⟨by rw [r.length]; assumption, fun p hp => ?_⟩
      obtain ⟨f2, c2⟩ := newV c1 hp (.lst xs)
      exact q1 _ _ _ f2 c2 _ (.lst upd_same (r.mono f2.same))
    · exact q1.elim
  · exact q1.elim
theorem de_lstC (h : DA G E X es t) : DE G E X (.List es pos) (eLstC t) := by
  refine PE.weak (pe_lst h) fun σ H Q ⟨ρ, m, H0, as, c, s, q⟩ => ?_
  refine ⟨ρ, m, H0, as, c, s, (Req.bind q).mono fun ws m1 H0' as' H' f1 c1 q1 xs rxs => ?_⟩
  split at q1
  · rename_i ds ed
    split at q1
    · have r := allVal_rps rxs ed
      refine ⟨by rw [r.length]; assumption, fun p hp => ?_⟩
      obtain ⟨f2, c2⟩ := newC (d := .lst ds) c1 hp (o := .lst xs) ⟨xs, rfl, r⟩
      exact q1 _ _ _ f2 c2 _ ⟨p, by rw [← c1.len, List.getElem?_append_right (Nat.le_refl _), Nat.sub_self]; rfl, rfl⟩
    · exact q1.elim
  · exact q1.elim
end

/-! ### a fresh thing comes to a stand -/
def M.toD : M → D
  | .lst ds => .lst ds
  | .ins c fs => .ins c fs
def eFz (f : EF) : EF := fun ρ m => (f ρ m).bind fun w m1 => match w with
  | .val d => .ok (.val d) m1
  | .ref k => if m.length ≤ k ∧ k + 1 = m1.length then (match m1[k]? with
    | some (some c) => .ok (.val c.toD) (m1.take k)
    | _ => .bad) else .bad
section
variable {G : Gc} {E : XK} {X : Cx} {H0 H : Hp} {as : List Addr} {m : Cells}
theorem RpM.toD {a : Addr} {o : HO} {H0' : Hp} (sm : Same H0 H0') (ho : H0' a = some o) : ∀ {c : M}, RpM G H0 (some o) c → Rp G.K G.mg H0' (.ref a) c.toD
  | .lst ds, ⟨vs, e, r⟩ => by cases e; exact .lst ho (r.mono sm)
  | .ins c fs, ⟨C, dx, vs, e, g, r⟩ => by cases e; exact .ins ho g (r.mono sm)
/-- the cell k comes to a stand where it is -/
theorem Cel.stand (c : Cel G H0 as H m) {k : Nat} {d : M} (hk : m[k]? = some (some d)) : ∃ a o, as[k]? = some a ∧ H a = some o ∧ H0 a = none ∧ Same H0 (upd H0 a o) ∧ Cel G (upd H0 a o) as H (m.set k none) ∧ Rp G.K G.mg (upd H0 a o) (.ref a) d.toD := by
  obtain ⟨a, e1, z0, r⟩ := c.cell k d hk
  cases ho : H a with
  | none => exact absurd ho (c.there a (List.mem_of_getElem? e1))
  | some o =>
    rw [ho] at r
    have sm : Same H0 (upd H0 a o) := fun b u e => by rw [upd_ne (ne_of_none e z0)]; exact e
    refine ⟨a, o, e1, ho, z0, sm, ⟨fun b u e => ?_, by simp [c.len], c.nd, c.there, fun j d' e => ?_⟩, RpM.toD sm upd_same r⟩
    · by_cases q : b = a
      · subst q; rw [upd_same] at e; cases e; exact ho
      · rw [upd_ne q] at e; exact c.same b u e
    · by_cases q : k = j
      · subst q
        rw [List.getElem?_set_self (List.getElem?_eq_some_iff.mp hk).1] at e
        cases e
      · rw [List.getElem?_set_ne q] at e
        obtain ⟨b, h1, h2, h3⟩ := c.cell j d' e
        have ne : b ≠ a := fun z => by
          subst z
          obtain ⟨l1, q1⟩ := List.getElem?_eq_some_iff.mp h1
          obtain ⟨l2, q2⟩ := List.getElem?_eq_some_iff.mp e1
          exact q ((List.getElem_inj c.nd).mp (q2.trans q1.symm))
        exact ⟨b, h1, by rw [upd_ne ne]; exact h2, h3.mono sm⟩
theorem Cel.take (c : Cel G H0 as H m) (n : Nat) : Cel G H0 (as.take n) H (m.take n) := by
  refine ⟨c.same, by simp [c.len], c.nd.sublist (List.take_sublist _ _), fun a h => c.there a (List.mem_of_mem_take h), fun k d e => ?_⟩
  have l : k < n := by
    have := (List.getElem?_eq_some_iff.mp e).1
    rw [List.length_take] at this
    omega
  rw [List.getElem?_take_of_lt l] at e
  obtain ⟨a, h1, h2, h3⟩ := c.cell k d e
  exact ⟨a, by rw [List.getElem?_take_of_lt l]; exact h1, h2, h3⟩
theorem Frm.take {H0' : Hp} {as' : List Addr} {H' : Hp} (f : Frm H0 as H H0' as' H') (n : Nat) (h : as.length ≤ n) : Frm H0 as H H0' (as'.take n) H' := by
  obtain ⟨r, e⟩ := f.pre
  refine ⟨f.same, ⟨r.take (n - as.length), ?_⟩, f.keep, fun b hb => f.fresh b (List.mem_of_mem_take hb), f.grow⟩
  rw [e, List.take_append, List.take_of_length_le h]
/-- the last cell comes to a stand and is no cell any more -/
theorem Cel.standLast {H0' : Hp} {as' : List Addr} {H' : Hp} {m1 : Cells} (f1 : Frm H0 as H H0' as' H') (c1 : Cel G H0' as' H' m1) {k : Nat} {d : M} (hk : as.length ≤ k) (ed : m1[k]? = some (some d)) :
    ∃ a o, as'[k]? = some a ∧ Frm H0 as H (upd H0' a o) (as'.take k) H' ∧ Cel G (upd H0' a o) (as'.take k) H' (m1.take k) ∧ Rp G.K G.mg (upd H0' a o) (.ref a) d.toD := by
  obtain ⟨a, o, e1, ho, z0, sm, c2, rr⟩ := c1.stand ed
  have na : a ∉ as := fun z => by
    obtain ⟨j, hj, ej⟩ := List.mem_iff_getElem.mp z
    obtain ⟨r, er⟩ := f1.pre
    have e3 : as'[j]? = some a := by
      rw [er, List.getElem?_append_left hj, List.getElem?_eq_getElem hj, ej]
    obtain ⟨l1, q1⟩ := List.getElem?_eq_some_iff.mp e3
    obtain ⟨l2, q2⟩ := List.getElem?_eq_some_iff.mp e1
    have := (List.getElem_inj c1.nd).mp (q1.trans q2.symm)
    omega
  have c3 := c2.take k
  rw [show (m1.set k none).take k = m1.take k by rw [List.take_set_of_le (Nat.le_refl _)]] at c3
  have fr := f1.take k hk
  refine ⟨a, o, e1, ⟨fr.same.trans sm, fr.pre, fr.keep, fr.fresh, fun b n h z => ?_⟩, c3, rr⟩
  have hb : b ≠ a := fun e => by
    subst e
    have := f1.fresh b (List.mem_of_getElem? e1) n
    exact h this
  rw [upd_ne hb]; exact fr.grow b n h z
theorem de_fz {e : Expr} {f : EF} (h : DE G E X e f) : DE G E X e (eFz f) := by
  refine PE.weak h fun σ H Q ⟨ρ, m, H0, as, c, s, q⟩ => ⟨ρ, m, H0, as, c, s, ?_⟩
  unfold eFz at q
  cases r : f ρ m with
  | bad => rw [r] at q; exact q
  | ex x m1 => rw [r] at q; exact q
  | ok w m1 =>
    rw [r, R.bind_ok] at q
    intro H0' as' H' f1 c1 x rx
    split at q
    · exact q _ _ _ f1 c1 _ rx
    · rename_i k
      split at q
      · rename_i hk
        obtain ⟨hk1, hk2⟩ := hk
        split at q
        · rename_i d ed
          obtain ⟨a, o, e1, f2, c2, rr⟩ := Cel.standLast f1 c1 (by rw [c.len]; exact hk1) ed
          obtain ⟨a', e2, rfl⟩ := rx
          rw [e1] at e2
          cases e2
          exact q _ _ _ f2 c2 _ rr
        · exact q.elim
      · exact q.elim
end
end FD
end
section
set_option Elab.async false
set_option linter.all false
set_option maxRecDepth 100000
set_option autoImplicit false
namespace FD
open PySem PySem.Spec PyProof.Rows L2

/-- a def as a function: its arguments, the cells that they name; its answer, the cells behind it -/
abbrev FN := List W → Cells → R W
def refsOf : List W → List Nat
  | [] => []
  | .val _ :: r => refsOf r
  | .ref k :: r => k :: refsOf r
def renum : Nat → List W → List W
  | _, [] => []
  | n, .val d :: r => .val d :: renum n r
  | n, .ref _ :: r => .ref n :: renum (n + 1) r
def isLive : Option (Option M) → Bool
  | some (some _) => true
  | _ => false
def okRefs (m : Cells) : List Nat → Bool
  | [] => true
  | k :: ks => !ks.contains k && isLive m[k]? && okRefs m ks
def pick (m : Cells) (ks : List Nat) : Cells := ks.map fun k => (m[k]?).getD none
def back : Cells → List Nat → Cells → Cells
  | m, [], _ => m
  | m, k :: ks, c :: mc => back (m.set k c) ks mc
  | m, _ :: _, [] => m
def callF (F : FN) (ws : List W) (m : Cells) : R W :=
  if okRefs m (refsOf ws) = true then (match F (renum 0 ws) (pick m (refsOf ws)) with
    | .ok w mc => if (refsOf ws).length ≤ mc.length then (match w with
      | .val d => .ok (.val d) (back m (refsOf ws) mc)
      | .ref j => (match (refsOf ws)[j]? with
        | some k => .ok (.ref k) (back m (refsOf ws) mc)
        | none => (match mc[j]? with
          | some (some c) => .ok (.ref m.length) (back m (refsOf ws) mc ++ [some c])
          | _ => .bad))) else .bad
    | .ex x mc => if (refsOf ws).length ≤ mc.length then .ex x (back m (refsOf ws) mc) else .bad
    | .bad => .bad) else .bad
def eCall (n : Nat) (F : FN) (t : AF) : EF := fun ρ m => (t ρ m).bind fun ws m1 => if ws.length = n then callF F ws m1 else .bad

theorem back_length : ∀ (m : Cells) (ks : List Nat) (mc : Cells), (back m ks mc).length = m.length
  | _, [], _ => by rw [back]
  | m, k :: ks, c :: mc => by rw [back, back_length, List.length_set]
  | _, _ :: _, [] => rfl
theorem back_other {i : Nat} : ∀ (m : Cells) (ks : List Nat) (mc : Cells), i ∉ ks → (back m ks mc)[i]? = m[i]?
  | _, [], _, _ => by rw [back]
  | m, k :: ks, c :: mc, h => by
    rw [List.mem_cons, not_or] at h
    rw [back, back_other (m.set k c) ks mc h.2, List.getElem?_set_ne (Ne.symm h.1)]
  | _, _ :: _, [], _ => rfl
theorem back_at : ∀ (m : Cells) (ks : List Nat) (mc : Cells), ks.Nodup → ks.length ≤ mc.length → ∀ {i j : Nat}, ks[j]? = some i → i < m.length → (back m ks mc)[i]? = mc[j]?
  | _, [], _, _, _, _, _, h, _ => by simp at h
  | m, k :: ks, c :: mc, nd, hl, i, 0, h, hi => by
    simp at h
    subst h
    rw [List.nodup_cons] at nd
    rw [back, back_other _ _ _ nd.1, List.getElem?_set_self hi]
    rfl
  | m, k :: ks, c :: mc, nd, hl, i, j + 1, h, hi => by
    rw [List.nodup_cons] at nd
    rw [List.length_cons, List.length_cons] at hl
    rw [back, back_at (m.set k c) ks mc nd.2 (by omega) (i := i) (j := j) (by simpa using h) (by rw [List.length_set]; exact hi)]
    rfl
  | _, _ :: _, [], _, hl, _, _, _, _ => by simp at hl
theorem okRefs_nd (m : Cells) : ∀ ks : List Nat, okRefs m ks = true → ks.Nodup ∧ ∀ k, k ∈ ks → ∃ c, m[k]? = some (some c)
  | [], _ => ⟨.nil, fun _ h => by simp at h⟩
  | k :: ks, h => by
    rw [okRefs, Bool.and_eq_true, Bool.and_eq_true] at h
    obtain ⟨⟨h1, h2⟩, h3⟩ := h
    obtain ⟨i1, i2⟩ := okRefs_nd m ks h3
    refine ⟨List.nodup_cons.mpr ⟨by simpa using h1, i1⟩, fun j hj => ?_⟩
    rcases List.mem_cons.mp hj with e | hj
    · subst e
      unfold isLive at h2
      split at h2
      · exact ⟨_, by assumption⟩
      · cases h2
    · exact i2 j hj

section
variable {G : Gc} {E : XK} {H0 H : Hp} {as : List Addr} {m : Cells}
def pickA (as : List Addr) (ks : List Nat) : List Addr := ks.map fun k => (as[k]?).getD 0
theorem pickA_at {ks : List Nat} {j k : Nat} {a : Addr} (h : ks[j]? = some k) (ha : as[k]? = some a) : (pickA as ks)[j]? = some a := by
  unfold pickA
  rw [List.getElem?_map, h]
  simp [ha]
theorem renum_rp : ∀ {vs : List V} {ws : List W} (pre : List Nat), RpWs G H0 as vs ws → RpWs G H0 (pickA as (pre ++ refsOf ws)) vs (renum pre.length ws)
  | _, _, _, .nil => .nil
  | _, _, pre, .cons (w := .val d) h r => .cons h (renum_rp pre r)
  | _, _, pre, .cons (w := .ref k) (ws := ws) h r => by
    obtain ⟨a, e1, e2⟩ := h
    refine .cons ⟨a, pickA_at (k := k) ?_ e1, e2⟩ ?_
    · show (pre ++ k :: refsOf ws)[pre.length]? = _
      rw [List.getElem?_append_right (Nat.le_refl _), Nat.sub_self]; rfl
    · have := renum_rp (pre ++ [k]) r
      rw [List.append_assoc, List.singleton_append, List.length_append] at this
      exact this
/-- the cells of some names -/
theorem Cel.pick (c : Cel G H0 as H m) {ks : List Nat} (h : okRefs m ks = true) : Cel G H0 (pickA as ks) H (FD.pick m ks) := by
  obtain ⟨nd, live⟩ := okRefs_nd m ks h
  have at_ : ∀ {j k : Nat}, ks[j]? = some k → ∃ a, as[k]? = some a ∧ (pickA as ks)[j]? = some a := fun {j k} e => by
    obtain ⟨d, hd⟩ := live k (List.mem_of_getElem? e)
    obtain ⟨a, e1, _⟩ := c.cell k d hd
    exact ⟨a, e1, pickA_at e e1⟩
  refine ⟨c.same, by simp [pickA, FD.pick], ?_, fun a ha => ?_, fun j d e => ?_⟩
  · rw [List.nodup_iff_pairwise_ne, List.pairwise_iff_getElem]
    intro i j hi hj hij e
    have li : i < ks.length := by simpa [pickA] using hi
    have lj : j < ks.length := by simpa [pickA] using hj
    obtain ⟨a, h1, h2⟩ := at_ (List.getElem?_eq_getElem li)
    obtain ⟨b, h3, h4⟩ := at_ (List.getElem?_eq_getElem lj)
    rw [List.getElem?_eq_getElem hi] at h2
    rw [List.getElem?_eq_getElem hj] at h4
    cases h2
    cases h4
    rw [e] at h1
    obtain ⟨l1, q1⟩ := List.getElem?_eq_some_iff.mp h1
    obtain ⟨l2, q2⟩ := List.getElem?_eq_some_iff.mp h3
    have e1 := (List.getElem_inj c.nd).mp (q1.trans q2.symm)
    have e2 := (List.getElem_inj nd).mp e1
    omega
  · obtain ⟨j, hj, e⟩ := List.mem_iff_getElem.mp ha
    have lj : j < ks.length := by simpa [pickA] using hj
    obtain ⟨b, h3, h4⟩ := at_ (List.getElem?_eq_getElem lj)
    rw [List.getElem?_eq_getElem hj, e] at h4
    cases h4
    exact c.there _ (List.mem_of_getElem? h3)
  · unfold FD.pick at e
    rw [List.getElem?_map] at e
    cases q : ks[j]? with
    | none => rw [q] at e; cases e
    | some k =>
      rw [q] at e
      obtain ⟨d', hd⟩ := live k (List.mem_of_getElem? q)
      rw [Option.map_some, hd] at e
      cases e
      obtain ⟨a, e1, e2, e3⟩ := c.cell k _ hd
      exact ⟨a, pickA_at q e1, e2, e3⟩
/-- behind the callee: the caller's cells -/
theorem Cel.back {H0' H' : Hp} {asc' : List Addr} {mc' : Cells} (c : Cel G H0 as H m) {ks : List Nat} (h : okRefs m ks = true) (f : Frm H0 (pickA as ks) H H0' asc' H') (c' : Cel G H0' asc' H' mc') (hl : ks.length ≤ mc'.length) :
    Frm H0 as H H0' as H' ∧ Cel G H0' as H' (FD.back m ks mc') := by
  obtain ⟨nd, live⟩ := okRefs_nd m ks h
  have sub : ∀ b, b ∈ pickA as ks → b ∈ as := fun b hb => by
    obtain ⟨j, hj, e⟩ := List.mem_iff_getElem.mp hb
    have lj : j < ks.length := by simpa [pickA] using hj
    obtain ⟨d, hd⟩ := live ks[j] (List.getElem_mem lj)
    obtain ⟨a, e1, _⟩ := c.cell _ d hd
    have := pickA_at (List.getElem?_eq_getElem lj) e1
    rw [List.getElem?_eq_getElem hj, e] at this
    cases this
    exact List.mem_of_getElem? e1
  have fr : Frm H0 as H H0' as H' := ⟨f.same, ⟨[], by simp⟩, fun b o n e => f.keep b o (fun z => n (sub b z)) e, fun b h n => absurd h n, fun b n h z => f.grow b (fun q => n (sub b q)) h z⟩
  have isin : ∀ {k : Nat} {a : Addr}, as[k]? = some a → a ∈ pickA as ks → k ∈ ks := fun {k a} e hb => by
    obtain ⟨j, hj, e2⟩ := List.mem_iff_getElem.mp hb
    have lj : j < ks.length := by simpa [pickA] using hj
    obtain ⟨d, hd⟩ := live ks[j] (List.getElem_mem lj)
    obtain ⟨b, e1, _⟩ := c.cell _ d hd
    have := pickA_at (List.getElem?_eq_getElem lj) e1
    rw [List.getElem?_eq_getElem hj, e2] at this
    cases this
    obtain ⟨l1, q1⟩ := List.getElem?_eq_some_iff.mp e
    obtain ⟨l2, q2⟩ := List.getElem?_eq_some_iff.mp e1
    have := (List.getElem_inj c.nd).mp (q1.trans q2.symm)
    rw [this]
    exact List.getElem_mem lj
  refine ⟨fr, ⟨c'.same, by rw [back_length]; exact c.len, c.nd, fun a ha => ?_, fun k d e => ?_⟩⟩
  · by_cases z : a ∈ pickA as ks
    · obtain ⟨r, er⟩ := f.pre
      exact c'.there a (by rw [er]; exact List.mem_append_left _ z)
    · cases q : H a with
      | none => exact absurd q (c.there a ha)
      | some o => rw [f.keep a o z q]; simp
  · by_cases hk : k ∈ ks
    · obtain ⟨j, hj, ej⟩ := List.mem_iff_getElem.mp hk
      have ej' : ks[j]? = some k := by rw [List.getElem?_eq_getElem hj, ej]
      obtain ⟨d0, hd0⟩ := live k hk
      obtain ⟨a, e1, _⟩ := c.cell k d0 hd0
      rw [back_at m ks mc' nd hl ej' (List.getElem?_eq_some_iff.mp hd0).1] at e
      obtain ⟨b, e2, e3, e4⟩ := c'.cell j d e
      obtain ⟨r, er⟩ := f.pre
      have := pre_get er (pickA_at ej' e1)
      rw [this] at e2
      cases e2
      exact ⟨a, e1, e3, e4⟩
    · rw [back_other m ks mc' hk] at e
      obtain ⟨a, e1, e2, e3⟩ := c.cell k d e
      have na : a ∉ pickA as ks := fun z => hk (isin e1 z)
      cases q : H a with
      | none => exact absurd q (c.there a (List.mem_of_getElem? e1))
      | some o =>
        refine ⟨a, e1, f.grow a na (by rw [q]; simp) e2, ?_⟩
        rw [f.keep a o na q, ← q]
        exact e3.mono f.same

/-- what a def promises, by its function -/
def spD (G : Gc) (n : Nat) (F : FN) : Sp := fun vs H Q E => vs.length = n ∧ ∃ ws m H0 as, Cel G H0 as H m ∧ RpWs G H0 as vs ws ∧ Req G E H0 as H (F ws m) fun w _ H0' as' H' => ∀ v, RpW G H0' as' v w → Q v H'
/-- a call: from the caller's cells to the callee's promise -/
theorem callF_sp {n : Nat} {F : FN} {vs : List V} {ws : List W} {Q : VK} (c : Cel G H0 as H m) (r : RpWs G H0 as vs ws) (hn : ws.length = n)
    (q : Req G E H0 as H (callF F ws m) fun w _ H0' as' H' => ∀ v, RpW G H0' as' v w → Q v H') : spD G n F vs H Q E := by
  unfold callF at q
  split at q
  · rename_i hok
    have r2 := renum_rp [] r
    rw [List.nil_append] at r2
    refine ⟨by rw [r.length]; exact hn, renum 0 ws, pick m (refsOf ws), H0, pickA as (refsOf ws), c.pick hok, r2, ?_⟩
    cases e : F (renum 0 ws) (pick m (refsOf ws)) with
    | bad => rw [e] at q; exact q
    | ex x mc =>
      rw [e] at q
      dsimp only at q
      intro H0' as' H' C dx us f c' e1 e2 e3 e4 e5
      split at q
      · rename_i hl
        obtain ⟨fr, cb⟩ := c.back hok f c' hl
        have : dx ∉ as := fun z => by
          exact c.there dx z e4
        exact q _ _ _ C dx us fr cb e1 e2 e3 e4 this
      · exact q.elim
    | ok w mc =>
      rw [e] at q
      dsimp only at q
      intro H0' as' H' f c' v rv
      split at q
      · rename_i hl
        obtain ⟨fr, cb⟩ := c.back hok f c' hl
        split at q
        · exact q _ _ _ fr cb v rv
        · rename_i j
          split at q
          · rename_i k hk
            obtain ⟨nd, live⟩ := okRefs_nd m _ hok
            obtain ⟨d, hd⟩ := live k (List.mem_of_getElem? hk)
            obtain ⟨a, e1, _⟩ := c.cell k d hd
            obtain ⟨b, e2, rfl⟩ := rv
            obtain ⟨rr, er⟩ := f.pre
            have := pre_get er (pickA_at hk e1)
            rw [this] at e2
            cases e2
            exact q _ _ _ fr cb _ ⟨a, e1, rfl⟩
          · split at q
            · rename_i hk _ d hd
              obtain ⟨a, e1, e2, e3⟩ := c'.cell j d hd
              obtain ⟨b, e4, rfl⟩ := rv
              rw [e1] at e4
              cases e4
              have hj : (refsOf ws).length ≤ j := by
                rcases Nat.lt_or_ge j (refsOf ws).length with z | z
                · rw [List.getElem?_eq_getElem z] at hk; cases hk
                · exact z
              have na : a ∉ pickA as (refsOf ws) := fun z => by
                obtain ⟨i, hi, ei⟩ := List.mem_iff_getElem.mp z
                obtain ⟨rr, er⟩ := f.pre
                have e6 := pre_get er (List.getElem?_eq_getElem hi)
                rw [ei] at e6
                obtain ⟨l1, q1⟩ := List.getElem?_eq_some_iff.mp e6
                obtain ⟨l2, q2⟩ := List.getElem?_eq_some_iff.mp e1
                have := (List.getElem_inj c'.nd).mp (q1.trans q2.symm)
                simp [pickA] at hi
                omega
              have hnew : H a = none := f.fresh a (List.mem_of_getElem? e1) na
              have nas : a ∉ as := fun z => c.there a z hnew
              have fr2 : Frm H0 as H H0' (as ++ [a]) H' := ⟨fr.same, ⟨[a], rfl⟩, fr.keep, fun b hb n => by
                rcases List.mem_append.mp hb with z | z
                · exact absurd z n
                · rw [List.mem_singleton.mp z]; exact hnew, fr.grow⟩
              have cb2 : Cel G H0' (as ++ [a]) H' (back m (refsOf ws) mc ++ [some d]) := by
                refine ⟨cb.same, by rw [List.length_append, List.length_append, cb.len]; rfl, ?_, fun b hb => ?_, fun i d' ed => ?_⟩
                · rw [List.nodup_append]
                  refine ⟨cb.nd, by simp, fun x hx y hy => ?_⟩
                  rw [List.mem_singleton.mp hy]
                  exact fun z => nas (z ▸ hx)
                · rcases List.mem_append.mp hb with z | z
                  · exact cb.there b z
                  · rw [List.mem_singleton.mp z]
                    exact c'.there a (List.mem_of_getElem? e1)
                · by_cases l : i < (back m (refsOf ws) mc).length
                  · rw [List.getElem?_append_left l] at ed
                    obtain ⟨b, h1, h2, h3⟩ := cb.cell i d' ed
                    exact ⟨b, by rw [List.getElem?_append_left (by rw [cb.len]; exact l)]; exact h1, h2, h3⟩
                  · have li : i = (back m (refsOf ws) mc).length := by
                      have := (List.getElem?_eq_some_iff.mp ed).1
                      rw [List.length_append, List.length_singleton] at this
                      omega
                    subst li
                    rw [List.getElem?_append_right (Nat.le_refl _), Nat.sub_self] at ed
                    cases ed
                    exact ⟨a, by rw [← cb.len, List.getElem?_append_right (Nat.le_refl _), Nat.sub_self]; rfl, e2, e3⟩
              refine q _ _ _ fr2 cb2 _ ⟨a, ?_, rfl⟩
              rw [← c.len, List.getElem?_append_right (Nat.le_refl _), Nat.sub_self]; rfl
            · exact q.elim
      · exact q.elim
  · exact q.elim
end
end FD
end
section
set_option Elab.async false
set_option linter.all false
set_option maxRecDepth 100000
set_option autoImplicit false
namespace FD
open PySem PySem.Spec PyProof.Rows L2

def DS (G : Gc) (E : XK) (X : Cx) (st : Stmt) (f : SF) : Prop := PS X st (tS G E f)
def DSs (G : Gc) (E : XK) (X : Cx) (ss : List Stmt) (f : SF) : Prop := PSs X ss (tS G E f)

/-! ### what statements do -/
def sNil : SF := fun ρ m => .ok (.next ρ) m
def sSeq (f g : SF) : SF := fun ρ m => (f ρ m).bind fun fl m1 => match fl with
  | .next ρ1 => g ρ1 m1
  | o => .ok o m1
def sRet (f : EF) : SF := fun ρ m => (f ρ m).bind fun w m1 => .ok (.ret w) m1
def sRetN : SF := fun _ m => .ok (.ret (.val .non)) m
def sIf (c : TF) (f g : SF) : SF := fun ρ m => (c ρ m).bind fun b m1 => if b = true then f ρ m1 else g ρ m1
def sSet (i : Nat) (f : EF) : SF := fun ρ m => (f ρ m).bind fun w m1 => .ok (.next (ρ.set i (some w))) m1
def sExpr (f : EF) : SF := fun ρ m => (f ρ m).bind fun _ m1 => .ok (.next ρ) m1
def sNever : SF := fun _ _ => .bad
def sBreak : SF := fun ρ m => .ok (.brk ρ) m
def sCont : SF := fun ρ m => .ok (.cont ρ) m
/-- a op= e -/
def sAug (i : Nat) (h : W → W → Cells → R W) (f : EF) : SF := fun ρ m => match ρ[i]? with
  | some (some w) => (f ρ m).bind fun u m1 => (h w u m1).bind fun z m2 => .ok (.next (ρ.set i (some z))) m2
  | _ => .bad
/-- where a value goes -/
abbrev GF := W → Ro → Option Ro
def gN (i : Nat) : GF := fun w ρ => some (ρ.set i (some w))
abbrev GsF := List D → Ro → Option Ro
def gsNil : GsF := fun ds ρ => match ds with
  | [] => some ρ
  | _ => none
def gsCons (g : GF) (r : GsF) : GsF := fun ds ρ => match ds with
  | d :: ds => match g (.val d) ρ with
    | some ρ1 => r ds ρ1
    | none => none
  | [] => none
def gT (n : Nat) (r : GsF) : GF := fun w ρ => match w with
  | .val (.tup ds) => if ds.length = n then r ds ρ else none
  | _ => none
def sAsg (f : EF) (g : GF) : SF := fun ρ m => (f ρ m).bind fun w m1 => match g w ρ with
  | some ρ1 => .ok (.next ρ1) m1
  | none => .bad
/-- a, b = x, y -/
def sPar (i j : Nat) (t : AF) : SF := fun ρ m => (t ρ m).bind fun ws m1 => match ws with
  | [w, u] => .ok (.next ((ρ.set i (some w)).set j (some u))) m1
  | _ => .bad
/-- the name i's thing comes to a stand -/
def fzR (k : Nat) (d : D) (ρ : Ro) : Ro := ρ.map fun o => match o with
  | some (.ref j) => if j = k then some (.val d) else some (.ref j)
  | o => o
def sFz (i : Nat) (f : SF) : SF := fun ρ m => match ρ[i]? with
  | some (some (.ref k)) => (match m[k]? with
    | some (some c) => f (fzR k c.toD ρ) (m.set k none)
    | _ => .bad)
  | _ => f ρ m
/-- what is left of a turn -/
def trimR (n : Nat) (ρ : Ro) : Ro := ρ.map fun o => match o with
  | some (.ref k) => if k < n then some (.ref k) else none
  | o => o
def forF (g : GF) (body : SF) : List D → SF
  | [], ρ, m => .ok (.next ρ) m
  | d :: ds, ρ, m => match g (.val d) ρ with
    | none => .bad
    | some ρ1 => (match body ρ1 m with
      | .bad => .bad
      | .ex x m2 => .ex x m2
      | .ok fl m2 => (match fl with
        | .next ρ2 => forF g body ds (trimR m.length ρ2) (m2.take m.length)
        | .cont ρ2 => forF g body ds (trimR m.length ρ2) (m2.take m.length)
        | .brk ρ2 => .ok (.next ρ2) m2
        | .ret w => .ok (.ret w) m2))
def whF (c : TF) (body : SF) : Nat → SF
  | 0, _, _ => .bad
  | n + 1, ρ, m => match c ρ m with
    | .bad => .bad
    | .ex x m1 => .ex x m1
    | .ok b m1 => if b = true then (match body ρ (m1.take m.length) with
      | .bad => .bad
      | .ex x m2 => .ex x m2
      | .ok fl m2 => (match fl with
        | .next ρ2 => whF c body n (trimR m.length ρ2) (m2.take m.length)
        | .cont ρ2 => whF c body n (trimR m.length ρ2) (m2.take m.length)
        | .brk ρ2 => .ok (.next ρ2) m2
        | .ret w => .ok (.ret w) m2)) else .ok (.next ρ) m1
abbrev IF := Ro → Cells → R (List D)
def sFor (it : IF) (g : GF) (body : SF) : SF := fun ρ m => (it ρ m).bind fun ds m1 => forF g body ds ρ m1
def sWhile (n : Nat) (c : TF) (body : SF) : SF := whF c body n

section
variable {G : Gc} {E : XK} {X : Cx} {N vis loc gl : List Str} {sc : Scope} {k : Nat} {st : Stmt} {rest : List Stmt} {f g : SF} {e : Expr} {fe : EF} {pos : Pos}
theorem dss_nil : DSs G E X [] sNil := PSs.weak pss_nil fun D σ H ⟨ρ, m, H0, as, c, s, q⟩ => q.ok c σ s
theorem tS_seq {D : Ends} {σ : L2.St} {H : Hp} (q : tS G E (sSeq f g) D σ H) : tS G E f { D with nx := tS G E g D } σ H := by
  obtain ⟨ρ, m, H0, as, c, s, q⟩ := q
  refine ⟨ρ, m, H0, as, c, s, (Req.bind q).mono fun fl m1 H0' as' H' f1 c1 q1 => ?_⟩
  cases fl with
  | next ρ1 => exact fun σ' s' => ⟨ρ1, m1, H0', as', c1, s', q1⟩
  | ret w => exact q1.ok c1
  | brk ρ1 => exact q1.ok c1
  | cont ρ1 => exact q1.ok c1
theorem dss_cons (h : DS G E X st f) (r : DSs G E X rest g) : DSs G E X (st :: rest) (sSeq f g) := PSs.weak (pss_cons h r) fun D σ H q => tS_seq q
theorem dss_one (h : DS G E X st f) : DSs G E X [st] f := PSs.weak (pss_one h) fun D σ H q => q
theorem ds_ret (h : DE G E X e fe) : DS G E X (.Return (some e) pos) (sRet fe) := by
  refine PS.weak (ps_ret h) fun D σ H ⟨ρ, m, H0, as, c, s, q⟩ => ⟨ρ, m, H0, as, c, s, (Req.bind q).mono fun w m1 H0' as' H' f1 c1 q1 => q1.ok c1⟩
theorem ds_retN : DS G E X (.Return none pos) sRetN := PS.weak ps_retN fun D σ H ⟨ρ, m, H0, as, c, s, q⟩ => q.ok c _ .non
theorem ds_expr (h : DE G E X e fe) (hs : swapsWith e none pos.line X.env = pure false := by rfl) : DS G E X (.Expr e pos) (sExpr fe) := by
  refine PS.weak (ps_expr h hs) fun D σ H ⟨ρ, m, H0, as, c, s, q⟩ => ⟨ρ, m, H0, as, c, s, (Req.bind q).mono fun w m1 H0' as' H' f1 c1 q1 v rv => q1.ok c1 σ (s.mono f1)⟩
theorem ds_if {c : Expr} {a b : List Stmt} {fc : TF} (hc : DT G E X c fc) (ha : DSs G E X a f) (hb : DSs G E X b g) : DS G E X (.If c a b pos) (sIf fc f g) := by
  refine PS.weak (ps_if hc ha hb) fun D σ H ⟨ρ, m, H0, as, c, s, q⟩ => ⟨ρ, m, H0, as, c, s, (Req.bind q).mono fun b m1 H0' as' H' f1 c1 q1 => ?_⟩
  cases b with
  | true =>
    rw [if_pos rfl] at q1 ⊢
    exact ⟨ρ, m1, H0', as', c1, s.mono f1, q1⟩
  | false =>
    rw [if_neg Bool.false_ne_true] at q1 ⊢
    exact ⟨ρ, m1, H0', as', c1, s.mono f1, q1⟩
theorem ds_never : DS G E X st sNever := PS.weak ps_never fun D σ H ⟨ρ, m, H0, as, c, s, q⟩ => q
theorem dss_never : DSs G E X rest sNever := PSs.weak pss_never fun D σ H ⟨ρ, m, H0, as, c, s, q⟩ => q
theorem ds_break : DS G E X (.Break pos) sBreak := PS.weak ps_break fun D σ H ⟨ρ, m, H0, as, c, s, q⟩ => q.ok c σ s
theorem ds_continue : DS G E X (.Continue pos) sCont := PS.weak ps_continue fun D σ H ⟨ρ, m, H0, as, c, s, q⟩ => q.ok c σ s
theorem ds_pass : DS G E X (.Pass pos) sNil := PS.weak ps_pass fun D σ H ⟨ρ, m, H0, as, c, s, q⟩ => q.ok c σ s
theorem ds_set (hX : XC G N vis loc gl sc k E X) (i : Nat) {x : Str} {pos' : Pos} (j : Nat) (h : DE G E X e fe) (hi : N[i]? = some x := by rfl) (hj : loc[j]? = some x := by rfl) (hs : swapsWith e (some (.Name x pos')) pos.line X.env = pure false := by rfl) :
    DS G E X (.Assign [.Name x pos'] e pos) (sSet i fe) := by
  have hx := hX.hloc x (List.mem_of_getElem? hj)
  refine PS.weak (ps_set (i := i) (by rw [hX.hN]; exact hX.nd) (by rw [hX.hN]; exact hi) hx h hs (hX.hfn x (List.mem_of_getElem? hj))) fun D σ H ⟨ρ, m, H0, as, c, s, q⟩ =>
    ⟨ρ, m, H0, as, c, s, (Req.bind q).mono fun w m1 H0' as' H' f1 c1 q1 v rv => q1.ok c1 _ ((s.mono f1).set i rv)⟩
/-! ### targets -/
/-- σ' is σ but at ix -/
def Out (ix : List Nat) (σ σ' : L2.St) : Prop := σ'.length = σ.length ∧ ∀ j, j ∉ ix → σ'[j]? = σ[j]?
def tGD (G : Gc) (g : GF) (ix : List Nat) : TG := fun v σ H Q => ∃ w ρ H0 as ρ', Slo G H0 as σ ρ ∧ Same H0 H ∧ RpW G H0 as v w ∧ g w ρ = some ρ' ∧ ∀ σ', Slo G H0 as σ' ρ' → Out ix σ σ' → Q σ' H
def tGsD (G : Gc) (g : GsF) (ix : List Nat) : TGs := fun vs σ H Q => ∃ ds ρ H0 as ρ', Slo G H0 as σ ρ ∧ Same H0 H ∧ Rps G.K G.mg H0 vs ds ∧ g ds ρ = some ρ' ∧ ∀ σ', Slo G H0 as σ' ρ' → Out ix σ σ' → Q σ' H
def DG (G : Gc) (X : Cx) (tg : Expr) (g : GF) (ix : List Nat) : Prop := PG X tg (tGD G g ix)
def DGs (G : Gc) (X : Cx) (tgs : List Expr) (g : GsF) (ix : List Nat) : Prop := PGs X tgs (tGsD G g ix)
theorem PG.weak {X : Cx} {e : Expr} {t t' : TG} (h : PG X e t) (w : ∀ v σ H Q, t' v σ H Q → t v σ H Q) : PG X e t' := ⟨fun pins s σ H v u Q I r q => h.run pins s σ H v u Q I r (w v σ H Q q)⟩
theorem PGs.weak {X : Cx} {e : List Expr} {t t' : TGs} (h : PGs X e t) (w : ∀ v σ H Q, t' v σ H Q → t v σ H Q) : PGs X e t' := ⟨fun pins s σ H v u Q I r q => h.run pins s σ H v u Q I r (w v σ H Q q)⟩
theorem dg_name (hX : XC G N vis loc gl sc k E X) (i : Nat) {x : Str} (j : Nat) (hi : N[i]? = some x := by rfl) (hj : loc[j]? = some x := by rfl) : DG G X (.Name x pos) (gN i) [i] := by
  have hx := hX.hloc x (List.mem_of_getElem? hj)
  refine PG.weak (pg_name (i := i) (by rw [hX.hN]; exact hX.nd) (by rw [hX.hN]; exact hi) hx (hX.hfn x (List.mem_of_getElem? hj))) fun v σ H Q ⟨w, ρ, H0, as, ρ', s, sm, r, eg, q⟩ => ?_
  cases eg
  refine q _ (s.set i r) ⟨by rw [List.length_set], fun j hj => ?_⟩
  rw [List.mem_singleton] at hj
  rw [List.getElem?_set_ne (Ne.symm hj)]
theorem dgs_nil : DGs G X [] gsNil [] := by
  refine PGs.weak pgs_nil fun vs σ H Q ⟨ds, ρ, H0, as, ρ', s, sm, r, eg, q⟩ => ?_
  cases r with
  | nil => cases eg; exact ⟨rfl, q _ s ⟨rfl, fun _ _ => rfl⟩⟩
  | cons _ _ => cases eg
theorem dgs_cons {e : Expr} {es : List Expr} {g : GF} {r : GsF} {ix iy : List Nat} (h : DG G X e g ix) (hr : DGs G X es r iy) (hs : (assignEach (e :: es) X.env).map (·.2) = assign e X.env :: (assignEach es X.env).map (·.2) := by rfl) : DGs G X (e :: es) (gsCons g r) (ix ++ iy) := by
  refine PGs.weak (pgs_cons h hr hs) fun vs σ H Q ⟨ds, ρ, H0, as, ρ', s, sm, rr, eg, q⟩ => ?_
  cases rr with
  | nil => cases eg
  | cons hd tl =>
    unfold gsCons at eg
    dsimp only at eg
    split at eg
    · rename_i ρ1 e1
      refine ⟨_, _, rfl, .val _, ρ, H0, as, ρ1, s, sm, hd, e1, fun σ' s' o1 => ⟨_, ρ1, H0, as, ρ', s', sm, tl, eg, fun σ2 s2 o2 => q σ2 s2 ⟨o2.1.trans o1.1, fun j hj => ?_⟩⟩⟩
      rw [List.mem_append, not_or] at hj
      exact (o2.2 j hj.2).trans (o1.2 j hj.1)
    · cases eg
theorem dg_tup (hX : XC G N vis loc gl sc k E X) {es : List Expr} {x1 : Nat} {r : GsF} {n : Nat} {ix : List Nat} (h : DGs G X es r ix) (hn : (assignEach es X.env).length = n := by rfl) (hst : (assignEach es X.env).findIdx? (·.1) = none := by rfl) : DG G X (.Tuple es x1 pos) (gT n r) ix := by
  have eG := hX.gc
  subst eG
  refine PG.weak (pg_tup hX.calm h hn hst) fun v σ H Q ⟨w, ρ, H0, as, ρ', s, sm, rr, eg, q⟩ => ?_
  unfold gT at eg
  split at eg
  · split at eg
    · cases (show Rp X.K X.mg H0 v (.tup _) from rr) with
      | tup h1 h2 => exact ⟨_, _, rfl, sqT_same sm h1, by rw [h2.length]; assumption, _, ρ, H0, as, ρ', s, sm, h2, eg, q⟩
    · cases eg
  · cases eg
theorem ds_asg {tg : Expr} {g : GF} {ix : List Nat} (h : DE G E X e fe) (hg : DG G X tg g ix) (hs : swapsWithSole [tg] e pos.line X.env = pure false := by rfl) (hw : swappedStores [tg] e X.env = pure none := by rfl)
    (h1 : (assignEach [tg] X.env).map (·.2) = [assign tg X.env] := by rfl) : DS G E X (.Assign [tg] e pos) (sAsg fe g) := by
  refine PS.weak (ps_asg h hg hs hw h1) fun D σ H ⟨ρ, m, H0, as, c, s, q⟩ => ⟨ρ, m, H0, as, c, s, (Req.bind q).mono fun w m1 H0' as' H' f1 c1 q1 v rv => ?_⟩
  split at q1
  · rename_i ρ1 eg
    exact ⟨w, ρ, H0', as', ρ1, s.mono f1, c1.same, rv, eg, fun σ' s' _ => q1.ok c1 σ' s'⟩
  · exact q1.elim
theorem dss_fz (i : Nat) (h : DSs G E X rest f) : DSs G E X rest (sFz i f) := by
  refine PSs.weak h fun D σ H ⟨ρ, m, H0, as, c, s, q⟩ => ?_
  unfold sFz at q
  split at q
  · rename_i k hk
    split at q
    · rename_i d hd
      obtain ⟨a, o, e1, ho, z0, sm, c2, rr⟩ := c.stand hd
      have f2 : Frm H0 as H (upd H0 a o) as H := ⟨sm, ⟨[], by simp⟩, fun _ _ _ z => z, fun _ h n => absurd h n, fun b n _ z => by
        have : b ≠ a := fun e => n (e ▸ List.mem_of_getElem? e1)
        rw [upd_ne this]; exact z⟩
      refine ⟨fzR k d.toD ρ, m.set k none, _, as, c2, ⟨by simp [fzR, s.len], fun j w e => ?_⟩, Req.later f2 q⟩
      unfold fzR at e
      rw [List.getElem?_map] at e
      cases q2 : ρ[j]? with
      | none => rw [q2] at e; cases e
      | some o2 =>
        rw [q2] at e
        cases o2 with
        | none => cases e
        | some w2 =>
          obtain ⟨v, e2, e3⟩ := s.at_ j w2 q2
          cases w2 with
          | val d2 => cases e; exact ⟨v, e2, Rp.mono sm e3⟩
          | ref j2 =>
            rw [Option.map_some] at e
            dsimp only at e
            split at e
            · rename_i ej
              subst ej
              cases e
              obtain ⟨b, e4, rfl⟩ := e3
              rw [e1] at e4
              cases e4
              exact ⟨_, e2, rr⟩
            · cases e
              exact ⟨v, e2, e3⟩
    · exact q.elim
  · exact ⟨ρ, m, H0, as, c, s, q⟩
end
end FD
end
section
set_option Elab.async false
set_option linter.all false
set_option maxRecDepth 100000
set_option autoImplicit false
namespace FD
open PySem PySem.Spec PyProof.Rows L2

/-! ### a op= e over ints -/
def intD (p : Int → Int → Bool) (g : Int → Int → Int) : W → W → Cells → R W
  | .val (.int i), .val (.int j), m => if p i j = true then .ok (.val (.int (g i j))) m else .bad
  | _, _, _ => .bad
abbrev iaddD := intD (fun _ _ => true) fun i j => i + j
abbrev isubD := intD (fun _ _ => true) fun i j => i - j
def imulOk (i j : Int) : Bool := decide (-(2 ^ 64) < i ∧ i < 2 ^ 64) || decide (-(2 ^ 64) < j ∧ j < 2 ^ 64)
abbrev imulD := intD imulOk fun i j => i * j
abbrev imodD := intD (fun _ j => decide (0 < j)) fun i j => i % j
section
variable {G : Gc} {E : XK} {X : Cx} {N vis loc gl : List Str} {sc : Scope} {k : Nat} {st : Stmt} {rest : List Stmt} {f g : SF} {e : Expr} {fe : EF} {pos : Pos}
theorem intD_op {p : Int → Int → Bool} {g : Int → Int → Int} {C : Int → Int → Prop} {fn : Value → Value → Sem Value} (o : OpR X fn (rI C fun i j => .int (g i j))) (h : ∀ i j, p i j = true → C i j) : OpR X fn (r2 G E (intD p g)) := by
  intro pins s σ H x y v u Q I rx ry q
  obtain ⟨w, u', m, H0, as, c, h1, h2, q⟩ := q
  unfold intD at q
  split at q
  · cases (show Rp G.K G.mg H0 x (.int _) from h1)
    cases (show Rp G.K G.mg H0 y (.int _) from h2)
    split at q
    · exact o pins s σ H _ _ v u Q I rx ry ⟨_, _, rfl, rfl, h _ _ (by assumption), q.ok c _ .int⟩
    · exact q.elim
  · exact q.elim
theorem rI_0 {g : Int → Int → V} {fn : Value → Value → Sem Value} (o : OpR X fn (rI0 g)) : OpR X fn (rI (fun _ _ => True) g) := by
  intro pins s σ H x y v u Q I rx ry q
  obtain ⟨i, j, e1, e2, _, q⟩ := q
  exact o pins s σ H x y v u Q I rx ry ⟨i, j, e1, e2, q⟩
theorem ip_addD : OpR X (inplaceOp .Add) (r2 G E iaddD) := intD_op (rI_0 iop_add) fun _ _ _ => trivial
theorem ip_subD : OpR X (inplaceOp .Sub) (r2 G E isubD) := intD_op (rI_0 iop_sub) fun _ _ _ => trivial
theorem ip_mulD : OpR X (inplaceOp .Mult) (r2 G E imulD) := intD_op iop_mul fun i j h => by
  unfold imulOk at h
  rw [Bool.or_eq_true] at h
  exact h.imp of_decide_eq_true of_decide_eq_true
theorem ip_modD : OpR X (inplaceOp .Mod) (r2 G E imodD) := intD_op iop_mod fun i j h => of_decide_eq_true h
theorem ds_aug (hX : XC G N vis loc gl sc k E X) (i : Nat) {x : Str} {pos' : Pos} {op : Operator} {h : W → W → Cells → R W} (j : Nat) (o : OpR X (inplaceOp op) (r2 G E h)) (he : DE G E X e fe) (hi : N[i]? = some x := by rfl) (hj : loc[j]? = some x := by rfl) :
    DS G E X (.AugAssign (.Name x pos') op e pos) (sAug i h fe) := by
  have hx := hX.hloc x (List.mem_of_getElem? hj)
  refine PS.weak (ps_aug (i := i) (ti := r2 G E h) (by rw [hX.hN]; exact hX.nd) (by rw [hX.hN]; exact hi) hx he o (hX.hfn x (List.mem_of_getElem? hj))) fun D σ H ⟨ρ, m, H0, as, c, s, q⟩ => ?_
  unfold sAug at q
  split at q
  · rename_i w ew
    obtain ⟨v, e1, e2⟩ := s.at_ i w ew
    refine ⟨v, e1, ρ, m, H0, as, c, s, (Req.bind q).mono fun u m1 H0' as' H' f1 c1 q1 y ry => ?_⟩
    refine ⟨w, u, m1, H0', as', c1, e2.mono f1, ry, (Req.bind q1).mono fun z m2 H2 as2 H2' f2 c2 q2 v2 rv => ?_⟩
    exact q2.ok c2 _ (((s.mono f1).mono f2).set i rv)
  · exact q.elim

/-! ### what is walked -/
structure Wlk (G : Gc) (J : It) (ds : List D) (H0 : Hp) (as : List Addr) (H : Hp) : Prop where
  go : ∀ (i : Nat) H0' as' H', Frm H0 as H H0' as' H' → Same H0' H' → i < ds.length → J.go i H'
  yld : ∀ (i : Nat) H0' as' H' m x H3, Frm H0 as H H0' as' H' → Cel G H0' as' H' m → J.yld i H' x H3 → ∃ H03, Frm H0' as' H' H03 as' H3 ∧ Cel G H03 as' H3 m ∧ ∀ d, ds[i]? = some d → Rp G.K G.mg H03 x d
  stop : ∀ H0' as' H', Frm H0 as H H0' as' H' → Same H0' H' → J.stop ds.length H'
def tI (G : Gc) (E : XK) (f : IF) : TI := fun σ H R => ∃ ρ m H0 as, Cel G H0 as H m ∧ Slo G H0 as σ ρ ∧ Req G E H0 as H (f ρ m) fun ds _ H0' as' H' => ∀ J, Wlk G J ds H0' as' H' → R J H'
def DI (G : Gc) (E : XK) (X : Cx) (tg iter : Expr) (f : IF) : Prop := PI X tg iter (tI G E f)
theorem PI.weak {X : Cx} {tg e : Expr} {t t' : TI} (h : PI X tg e t) (w : ∀ σ H Q, t' σ H Q → t σ H Q) : PI X tg e t' := ⟨fun pins s σ H R I q => h.run pins s σ H R I (w σ H R q)⟩
def iSeq (f : EF) : IF := fun ρ m => (f ρ m).bind fun w m1 => match w with
  | .val (.lst ds) => .ok ds m1
  | .val (.scr ds) => .ok ds m1
  | _ => .bad
def iTupD (f : EF) : IF := fun ρ m => (f ρ m).bind fun w m1 => match w with
  | .val (.tup ds) => .ok ds m1
  | _ => .bad
def rangeD (lo : Int) (n : Nat) : List D := (List.range n).map fun (i : Nat) => D.int (lo + i)
def iRange1 (t : AF) : IF := fun ρ m => (t ρ m).bind fun ws m1 => match ws with
  | [.val (.int j)] => if -(2 ^ 62) ≤ j ∧ j < 2 ^ 62 then .ok (rangeD 0 j.toNat) m1 else .bad
  | _ => .bad
def iRange2 (t : AF) : IF := fun ρ m => (t ρ m).bind fun ws m1 => match ws with
  | [.val (.int i), .val (.int j)] => if -(2 ^ 62) ≤ i ∧ i < 2 ^ 62 ∧ -(2 ^ 62) ≤ j ∧ j < 2 ^ 62 then .ok (rangeD i (j - i).toNat) m1 else .bad
  | _ => .bad
theorem wlk_list {K : PySem.W.Frag} (hK : K = G.K) {a : Addr} {vs : List V} {ds : List D} {H0 : Hp} {as : List Addr} {H : Hp} (h : SqL K H0 a vs) (r : Rps G.K G.mg H0 vs ds) : Wlk G (Itl K a) ds H0 as H := by
  subst hK
  refine ⟨fun i H0' as' H' f sm l => ?_, fun i H0' as' H' m x H3 f c y => ?_, fun H0' as' H' f sm => ?_⟩
  · obtain ⟨v, e, _⟩ := r.get (List.getElem?_eq_getElem l)
    exact ⟨vs, v, sm.seq (f.same.seq h), e⟩
  · obtain ⟨e, y⟩ := y
    subst e
    refine ⟨H0', Frm.refl .., c, fun d ed => ?_⟩
    obtain ⟨v, e1, e2⟩ := r.get ed
    have := y vs (c.same.seq (f.same.seq h))
    rw [e1] at this
    cases this
    exact e2.mono f.same
  · exact ⟨vs, sm.seq (f.same.seq h), by rw [r.length]; exact Nat.le_refl _⟩
theorem wlk_tup {K : PySem.W.Frag} (hK : K = G.K) {a : Addr} {vs : List V} {ds : List D} {H0 : Hp} {as : List Addr} {H : Hp} (h : SqT K H0 a vs) (r : Rps G.K G.mg H0 vs ds) : Wlk G (Itt K a) ds H0 as H := by
  subst hK
  refine ⟨fun i H0' as' H' f sm l => ?_, fun i H0' as' H' m x H3 f c y => ?_, fun H0' as' H' f sm => ?_⟩
  · obtain ⟨v, e, _⟩ := r.get (List.getElem?_eq_getElem l)
    exact ⟨vs, v, sqT_same sm (sqT_same f.same h), e⟩
  · obtain ⟨e, y⟩ := y
    subst e
    refine ⟨H0', Frm.refl .., c, fun d ed => ?_⟩
    obtain ⟨v, e1, e2⟩ := r.get ed
    have := y vs (sqT_same c.same (sqT_same f.same h))
    rw [e1] at this
    cases this
    exact e2.mono f.same
  · exact ⟨vs, sqT_same sm (sqT_same f.same h), by rw [r.length]; exact Nat.le_refl _⟩
theorem wlk_range {lo : Int} {n : Nat} {H0 : Hp} {as : List Addr} {H : Hp} : Wlk G (Itr lo n) (rangeD lo n) H0 as H := by
  have hl : (rangeD lo n).length = n := by simp [rangeD]
  refine ⟨fun i H0' as' H' f sm l => by rw [hl] at l; exact l, fun i H0' as' H' m x H3 f c y => ?_, fun H0' as' H' f sm => Nat.le_of_eq hl.symm⟩
  obtain ⟨e, y⟩ := y
  subst e
  subst y
  refine ⟨H0', Frm.refl .., c, fun d ed => ?_⟩
  have l : i < n := by
    have := (List.getElem?_eq_some_iff.mp ed).1
    rw [hl] at this; exact this
  unfold rangeD at ed
  rw [List.getElem?_map, List.getElem?_range l] at ed
  cases ed
  exact .int
theorem di_list (hX : XC G N vis loc gl sc k E X) {tg : Expr} (h : DE G E X e fe) : DI G E X tg e (iSeq fe) := by
  refine PI.weak (pi_list h) fun σ H R ⟨ρ, m, H0, as, c, s, q⟩ => ⟨ρ, m, H0, as, c, s, (Req.bind q).mono fun w m1 H0' as' H' f1 c1 q1 v rv => ?_⟩
  split at q1
  · cases (show Rp G.K G.mg H0' v (.lst _) from rv) with
    | lst h1 h2 => exact ⟨_, rfl, ⟨_, SqL.of (c1.same _ _ h1)⟩, q1.ok c1 _ (wlk_list hX.hK (SqL.of h1) h2)⟩
  · cases (show Rp G.K G.mg H0' v (.scr _) from rv) with
    | scr h1 h2 => exact ⟨_, rfl, ⟨_, by rw [hX.hK]; exact c1.same.seq h1⟩, q1.ok c1 _ (wlk_list hX.hK (show SqL X.K H0' _ _ from hX.hK ▸ h1) h2)⟩
  · exact q1.elim
theorem di_tup (hX : XC G N vis loc gl sc k E X) {tg : Expr} (h : DE G E X e fe) : DI G E X tg e (iTupD fe) := by
  refine PI.weak (pi_tup h) fun σ H R ⟨ρ, m, H0, as, c, s, q⟩ => ⟨ρ, m, H0, as, c, s, (Req.bind q).mono fun w m1 H0' as' H' f1 c1 q1 v rv => ?_⟩
  split at q1
  · cases (show Rp G.K G.mg H0' v (.tup _) from rv) with
    | tup h1 h2 => exact ⟨_, rfl, ⟨_, by rw [hX.hK]; exact sqT_same c1.same h1⟩, q1.ok c1 _ (wlk_tup hX.hK (show SqT X.K H0' _ _ from hX.hK ▸ h1) h2)⟩
  · exact q1.elim
theorem di_range1 (hX : XC G N vis loc gl sc k E X) {tg a : Expr} {p : Pos} {t : AF} (j : Nat) (hm : G.mg "range" = none) (ha : DA G E X [a] t) (hj : gl[j]? = some "range" := by rfl) (hs : starEach [a] X.env = [(false, eval a X.env)] := by rfl) :
    DI G E X tg (.Call (.Name "range" p) [a] [] pos) (iRange1 t) := by
  refine PI.weak (pi_range1 (hX.hgl _ (List.mem_of_getElem? hj)) (by rw [hX.hmg]; exact hm) ha hs) fun σ H R ⟨ρ, m, H0, as, c, s, q⟩ => ⟨ρ, m, H0, as, c, s, (Req.bind q).mono fun ws m1 H0' as' H' f1 c1 q1 vs rvs => ?_⟩
  split at q1
  · rename_i i
    split at q1
    · rename_i hi
      cases rvs with
      | cons r1 r2 =>
        cases r2
        cases (show Rp G.K G.mg H0' _ (.int _) from r1)
        exact ⟨i, rfl, hi.1, hi.2, q1.ok c1 _ wlk_range⟩
    · exact q1.elim
  · exact q1.elim
theorem di_range2 (hX : XC G N vis loc gl sc k E X) {tg a b : Expr} {p : Pos} {t : AF} (j : Nat) (hm : G.mg "range" = none) (ha : DA G E X [a, b] t) (hj : gl[j]? = some "range" := by rfl) (hs : starEach [a, b] X.env = [(false, eval a X.env), (false, eval b X.env)] := by rfl) (hs2 : starEach [b] X.env = [(false, eval b X.env)] := by rfl) :
    DI G E X tg (.Call (.Name "range" p) [a, b] [] pos) (iRange2 t) := by
  refine PI.weak (pi_range2 (hX.hgl _ (List.mem_of_getElem? hj)) (by rw [hX.hmg]; exact hm) ha hs hs2) fun σ H R ⟨ρ, m, H0, as, c, s, q⟩ => ⟨ρ, m, H0, as, c, s, (Req.bind q).mono fun ws m1 H0' as' H' f1 c1 q1 vs rvs => ?_⟩
  split at q1
  · rename_i i j
    split at q1
    · rename_i hi
      cases rvs with
      | cons r1 r2 =>
        cases r2 with
        | cons r3 r4 =>
          cases r4
          cases (show Rp G.K G.mg H0' _ (.int _) from r1)
          cases (show Rp G.K G.mg H0' _ (.int _) from r3)
          exact ⟨i, j, rfl, hi, q1.ok c1 _ wlk_range⟩
    · exact q1.elim
  · exact q1.elim

/-! ### the loops -/
theorem trimR_slo {H0 : Hp} {as as' : List Addr} {σ : L2.St} {ρ : Ro} (s : Slo G H0 as' σ ρ) {n : Nat} (hn : as.length = n) (h : ∃ r, as' = as ++ r) : Slo G H0 (as'.take n) σ (trimR n ρ) := by
  refine ⟨by simp [trimR, s.len], fun i w e => ?_⟩
  unfold trimR at e
  rw [List.getElem?_map] at e
  cases q : ρ[i]? with
  | none => rw [q] at e; cases e
  | some o =>
    rw [q] at e
    cases o with
    | none => cases e
    | some w2 =>
      obtain ⟨v, e1, e2⟩ := s.at_ i w2 q
      cases w2 with
      | val d => cases e; exact ⟨v, e1, e2⟩
      | ref j =>
        rw [Option.map_some] at e
        dsimp only at e
        split at e
        · rename_i hj
          cases e
          obtain ⟨a, e3, e4⟩ := e2
          exact ⟨v, e1, a, by rw [List.getElem?_take_of_lt hj]; exact e3, e4⟩
        · cases e
/-- what is wanted of a flow -/
def flP (G : Gc) (D : Ends) : Fl → Cells → Hp → List Addr → Hp → Prop := fun fl _ H0' as' H' => match fl with
  | .next ρ' => ∀ σ', Slo G H0' as' σ' ρ' → D.nx σ' H'
  | .ret w => ∀ v, RpW G H0' as' v w → D.rt v H'
  | .brk ρ' => ∀ σ', Slo G H0' as' σ' ρ' → D.bk σ' H'
  | .cont ρ' => ∀ σ', Slo G H0' as' σ' ρ' → D.ct σ' H'
theorem ds_for (hX : XC G N vis loc gl sc k E X) {tg iter : Expr} {body : List Stmt} {fi : IF} {g : GF} {fb : SF} {ix : List Nat} (hi : DI G E X tg iter fi) (hg : DG G X tg g ix) (hb : DSs G E X body fb) (hs : ∀ x, foldedSetIterable iter X.env x = pure x := by intro _; rfl) :
    DS G E X (.For tg iter body [] pos) (sFor fi g fb) := by
  refine PS.weak (ps_for hX.own hX.calm hi hg hb hs) fun D σ H ⟨ρ, m, H0, as, c, s, q⟩ => ?_
  refine ⟨ρ, m, H0, as, c, s, (Req.bind q).mono fun ds m1 H0s ass Hs f1 c1 q1 J wk => ?_⟩
  refine ⟨fun i n σ H => n = ds.length - i ∧ i ≤ ds.length ∧ ∃ ρ m H0 as, Frm H0s ass Hs H0 as H ∧ Cel G H0 as H m ∧ Slo G H0 as σ ρ ∧ Req G E H0 as H (forF g fb (ds.drop i) ρ m) (flP G D),
    ⟨ds.length, by simp, Nat.zero_le _, ρ, m1, H0s, ass, Frm.refl .., c1, s.mono f1, q1⟩, ?_⟩
  rintro i n σ H ⟨rfl, hi, ρ, m, H0, as, fr, c, s, q⟩
  by_cases hlt : i < ds.length
  · refine .inr ⟨wk.go i _ _ _ fr c.same hlt, fun σ H => i + 1 ≤ ds.length ∧ ∃ ρ m H0 as, Frm H0s ass Hs H0 as H ∧ Cel G H0 as H m ∧ Slo G H0 as σ ρ ∧ Req G E H0 as H (forF g fb (ds.drop (i + 1)) ρ m) (flP G D),
      fun σ' H' ⟨l, z⟩ => ⟨ds.length - (i + 1), by omega, rfl, l, z⟩, fun x H3 y => ?_⟩
    obtain ⟨H03, f3, c3, rx⟩ := wk.yld i _ _ _ m x H3 fr c y
    rw [List.drop_eq_getElem_cons hlt, forF] at q
    split at q
    · exact q.elim
    · rename_i ρ1 eg
      refine ⟨.val ds[i], ρ, H03, as, ρ1, s.mono f3, c3.same, rx _ (List.getElem?_eq_getElem hlt), eg, fun σ2 s2 _ => ?_⟩
      have q := Req.later f3 q
      refine ⟨ρ1, m, H03, as, c3, s2, ?_⟩
      cases r : fb ρ1 m with
      | bad => rw [r] at q; exact q
      | ex x2 m2 => rw [r] at q; exact q
      | ok fl m2 =>
        rw [r] at q
        dsimp only at q
        intro H04 as4 H4 f4 c4
        cases fl with
        | next ρ2 =>
          intro σ4 s4
          have hl : as.length = m.length := c3.len
          refine ⟨hlt, _, _, H04, as4.take m.length, (fr.trans f3).trans (f4.take _ (by rw [hl]; exact Nat.le_refl _)), c4.take _, trimR_slo (as := as) s4 hl f4.pre, Req.later (f4.take _ (by rw [hl]; exact Nat.le_refl _)) q⟩
        | cont ρ2 =>
          intro σ4 s4
          have hl : as.length = m.length := c3.len
          refine ⟨hlt, _, _, H04, as4.take m.length, (fr.trans f3).trans (f4.take _ (by rw [hl]; exact Nat.le_refl _)), c4.take _, trimR_slo (as := as) s4 hl f4.pre, Req.later (f4.take _ (by rw [hl]; exact Nat.le_refl _)) q⟩
        | brk ρ2 => exact q _ _ _ f4 c4
        | ret w => exact q _ _ _ f4 c4
  · have e : i = ds.length := by omega
    subst e
    rw [List.drop_length, forF] at q
    exact .inl ⟨wk.stop _ _ _ fr c.same, q.ok c σ s⟩
theorem trimS {H0 H0' H H' : Hp} {as as' : List Addr} {σ : L2.St} {ρ : Ro} {n : Nat} (s' : Slo G H0' as' σ ρ) (s : Slo G H0 as σ ρ) (hl : as.length = n) (f : Frm H0 as H H0' as' H') : Slo G H0' (as'.take n) σ ρ := by
  obtain ⟨r, e⟩ := f.pre
  have : as'.take n = as := by rw [e, ← hl, List.take_left]
  rw [this]
  refine ⟨s.len, fun i w h => ?_⟩
  obtain ⟨v, e1, e2⟩ := s.at_ i w h
  refine ⟨v, e1, ?_⟩
  cases w with
  | val d => exact Rp.mono f.same e2
  | ref j => exact e2
theorem ds_while (hX : XC G N vis loc gl sc k E X) (n : Nat) {c : Expr} {body : List Stmt} {fc : TF} {fb : SF} (hc : DT G E X c fc) (hb : DSs G E X body fb) : DS G E X (.While c body [] pos) (sWhile n fc fb) := by
  refine PS.weak (ps_while hX.own hc hb) fun D σ H ⟨ρ, m, H0, as, c, s, q⟩ => ?_
  refine ⟨fun n σ H => ∃ ρ m H0 as, Cel G H0 as H m ∧ Slo G H0 as σ ρ ∧ Req G E H0 as H (whF fc fb n ρ m) (flP G D), ⟨n, ρ, m, H0, as, c, s, q⟩, ?_⟩
  rintro n σ H ⟨ρ, m, H0, as, c, s, q⟩
  cases n with
  | zero => exact q.elim
  | succ n =>
    rw [whF] at q
    refine ⟨ρ, m, H0, as, c, s, ?_⟩
    cases r : fc ρ m with
    | bad => rw [r] at q; exact q
    | ex x m1 => rw [r] at q; exact q
    | ok b m1 =>
      rw [r] at q
      dsimp only at q
      intro H0' as' H' f1 c1
      cases b with
      | false =>
        rw [if_neg Bool.false_ne_true] at q ⊢
        exact q _ _ _ f1 c1 σ (s.mono f1)
      | true =>
        rw [if_pos rfl] at q ⊢
        -- the cells that the test has made are let go
        have hl : as.length = m.length := c.len
        have fT := f1.take m.length (by rw [hl]; exact Nat.le_refl _)
        refine ⟨fun σ H => ∃ ρ m H0 as, Cel G H0 as H m ∧ Slo G H0 as σ ρ ∧ Req G E H0 as H (whF fc fb n ρ m) (flP G D), fun σ' H' z => ⟨n, Nat.lt_succ_self _, z⟩, ?_⟩
        refine ⟨ρ, m1.take m.length, H0', as'.take m.length, c1.take _, trimS (s.mono f1) s hl f1, ?_⟩
        have q := Req.later fT q
        cases r2 : fb ρ (m1.take m.length) with
        | bad => rw [r2] at q; exact q
        | ex x m2 => rw [r2] at q; exact q
        | ok fl m2 =>
          rw [r2] at q
          dsimp only at q
          intro H04 as4 H4 f4 c4
          have l1 : (as'.take m.length).length = m.length := by
            obtain ⟨r, e⟩ := f1.pre
            rw [List.length_take, e, List.length_append, hl]; omega
          have l2 : (m1.take m.length).length = m.length := by rw [← (c1.take m.length).len, l1]
          have f5 := f4.take m.length (by rw [l1]; exact Nat.le_refl _)
          cases fl with
          | next ρ2 => exact fun σ4 s4 => ⟨_, _, H04, as4.take m.length, c4.take _, trimR_slo (as := as'.take m.length) s4 l1 f4.pre, Req.later f5 q⟩
          | cont ρ2 => exact fun σ4 s4 => ⟨_, _, H04, as4.take m.length, c4.take _, trimR_slo (as := as'.take m.length) s4 l1 f4.pre, Req.later f5 q⟩
          | brk ρ2 => exact q _ _ _ f4 c4
          | ret w => exact q _ _ _ f4 c4
end
end FD
end
section
set_option Elab.async false
set_option linter.all false
set_option maxRecDepth 100000
set_option autoImplicit false
namespace FD
open PySem PySem.Spec PyProof.Rows L2

/-! ### a body as a function -/
/-- what a def leaves: the cells that it was handed, and the one that it hands back -/
def trunc (n : Nat) : R W → R W
  | .ok (.val d) m => .ok (.val d) (m.take n)
  | .ok (.ref j) m => if j < n then .ok (.ref j) (m.take n) else (match m[j]? with
    | some (some c) => .ok (.ref n) (m.take n ++ [some c])
    | _ => .bad)
  | .ex x m => .ex x (m.take n)
  | .bad => .bad
def endR : R Fl → R W
  | .ok (.ret w) m => .ok w m
  | .ok (.next _) m => .ok (.val .non) m
  | .ok _ _ => .bad
  | .ex x m => .ex x m
  | .bad => .bad
def startD (n : Nat) (ws : List W) : Ro := ws.map some ++ List.replicate (n - ws.length) none
def fnD (n : Nat) (f : SF) : FN := fun ws m => trunc m.length (endR (f (startD n ws) m))

section
variable {G : Gc} {E : XK} {H0 H : Hp} {as : List Addr} {m : Cells}
theorem req_trunc {Q : VK} {r : R W} (c : Cel G H0 as H m) (q : Req G E H0 as H (trunc m.length r) fun w _ H0' as' H' => ∀ v, RpW G H0' as' v w → Q v H') : Req G E H0 as H r fun w _ H0' as' H' => ∀ v, RpW G H0' as' v w → Q v H' := by
  have hl := c.len
  cases r with
  | bad => exact q
  | ex x mc =>
    intro H0' as' H' C dx us f c' e1 e2 e3 e4 e5
    exact q H0' (as'.take m.length) H' C dx us (f.take _ (by omega)) (c'.take _) e1 e2 e3 e4 fun z => e5 (List.mem_of_mem_take z)
  | ok w mc =>
    intro H0' as' H' f c' v rv
    cases w with
    | val d => exact q H0' (as'.take m.length) H' (f.take _ (by omega)) (c'.take _) v rv
    | ref j =>
      rw [trunc] at q
      split at q
      · rename_i hj
        obtain ⟨a, e1, e2⟩ := rv
        exact q H0' (as'.take m.length) H' (f.take _ (by omega)) (c'.take _) v ⟨a, by rw [List.getElem?_take_of_lt hj]; exact e1, e2⟩
      · rename_i hj
        split at q
        · rename_i d hd
          obtain ⟨a, e1, e2, e3⟩ := c'.cell j d hd
          obtain ⟨b, e4, rfl⟩ := rv
          rw [e1] at e4
          cases e4
          have ft := f.take m.length (by omega)
          have ct := c'.take m.length
          have lt : (as'.take m.length).length = m.length := by
            obtain ⟨r, e⟩ := f.pre
            rw [List.length_take, e, List.length_append]; omega
          have na : a ∉ as'.take m.length := fun z => by
            obtain ⟨i, hi, ei⟩ := List.mem_iff_getElem.mp z
            rw [List.getElem_take] at ei
            obtain ⟨l2, q2⟩ := List.getElem?_eq_some_iff.mp e1
            have := (List.getElem_inj c'.nd).mp (ei.trans q2.symm)
            omega
          have nas : a ∉ as := fun z => na (by
            obtain ⟨r, e⟩ := ft.pre
            rw [e]; exact List.mem_append_left _ z)
          have hnew : H a = none := f.fresh a (List.mem_of_getElem? e1) nas
          have fr2 : Frm H0 as H H0' (as'.take m.length ++ [a]) H' := ⟨ft.same, by
              obtain ⟨r, e⟩ := ft.pre
              exact ⟨r ++ [a], by rw [e, List.append_assoc]⟩, ft.keep, fun b hb n => by
            rcases List.mem_append.mp hb with z | z
            · exact ft.fresh b z n
            · rw [List.mem_singleton.mp z]; exact hnew, ft.grow⟩
          have cb2 : Cel G H0' (as'.take m.length ++ [a]) H' (mc.take m.length ++ [some d]) := by
            refine ⟨ct.same, by rw [List.length_append, List.length_append, ct.len]; rfl, ?_, fun b hb => ?_, fun i d' ed => ?_⟩
            · rw [List.nodup_append]
              refine ⟨ct.nd, by simp, fun x hx y hy => ?_⟩
              rw [List.mem_singleton.mp hy]
              exact fun z => na (z ▸ hx)
            · rcases List.mem_append.mp hb with z | z
              · exact ct.there b z
              · rw [List.mem_singleton.mp z]
                exact c'.there a (List.mem_of_getElem? e1)
            · by_cases l : i < (mc.take m.length).length
              · rw [List.getElem?_append_left l] at ed
                obtain ⟨b, h1, h2, h3⟩ := ct.cell i d' ed
                exact ⟨b, by rw [List.getElem?_append_left (by rw [ct.len]; exact l)]; exact h1, h2, h3⟩
              · have li : i = (mc.take m.length).length := by
                  have := (List.getElem?_eq_some_iff.mp ed).1
                  rw [List.length_append, List.length_singleton] at this
                  omega
                subst li
                rw [List.getElem?_append_right (Nat.le_refl _), Nat.sub_self] at ed
                cases ed
                exact ⟨a, by rw [← ct.len, List.getElem?_append_right (Nat.le_refl _), Nat.sub_self]; rfl, e2, e3⟩
          refine q _ _ _ fr2 cb2 _ ⟨a, ?_, rfl⟩
          rw [List.getElem?_append_right (by rw [lt]; exact Nat.le_refl _), lt, Nat.sub_self]; rfl
        · exact q.elim
/-- the names at the entry -/
theorem start_slo {N : List Str} {vs : List V} {ws : List W} (r : RpWs G H0 as vs ws) : Slo G H0 as (L2.start N vs) (startD N.length ws) := by
  refine ⟨by simp [L2.start, startD, r.length], fun i w e => ?_⟩
  unfold startD at e
  have hl := r.length
  by_cases l : i < ws.length
  · rw [List.getElem?_append_left (by simpa using l), List.getElem?_map] at e
    cases q : ws[i]? with
    | none => rw [q] at e; cases e
    | some u =>
      rw [q] at e
      cases e
      have get : ∀ {vs : List V} {ws : List W} {i : Nat} {w : W}, RpWs G H0 as vs ws → ws[i]? = some w → ∃ v, vs[i]? = some v ∧ RpW G H0 as v w := by
        intro vs ws i w r
        induction r generalizing i with
        | nil => intro e; simp at e
        | cons h _ ih =>
          intro e
          cases i with
          | zero => simp at e; subst e; exact ⟨_, rfl, h⟩
          | succ i => simpa using ih (by simpa using e)
      obtain ⟨v, e1, e2⟩ := get r q
      exact ⟨v, by unfold L2.start; rw [List.getElem?_append_left (by rw [List.length_map, hl]; exact l), List.getElem?_map, e1]; rfl, e2⟩
  · rw [List.getElem?_append_right (by simp; omega), List.getElem?_replicate] at e
    split at e <;> cases e
end

/-! ### the scope of a def -/
def visB (sc : Scope) (x : Str) : Bool := match sc.names.lookup x with
  | some .local => true
  | some .cell => true
  | some .free => true
  | _ => false
def locB (sc : Scope) (x : Str) : Bool := match sc.names.lookup x with
  | some .local => true
  | some .cell => true
  | _ => false
def glB (sc : Scope) (x : Str) : Bool := match sc.names.lookup x with
  | some .globalImplicit => true
  | _ => false
theorem visB_ok {sc : Scope} {x : Str} (h : visB sc x = true) : Vis sc x := by
  unfold visB at h
  split at h <;> first | exact .inl (by assumption) | exact .inr (.inl (by assumption)) | exact .inr (.inr (by assumption)) | cases h
theorem locB_ok {sc : Scope} {x : Str} (h : locB sc x = true) : Loc sc x := by
  unfold locB at h
  split at h <;> first | exact .inl (by assumption) | exact .inr (by assumption) | cases h
theorem glB_ok {sc : Scope} {x : Str} (h : glB sc x = true) : sc.names.lookup x = some .globalImplicit := by
  unfold glB at h
  split at h <;> first | assumption | cases h
def scB (N ps gl : List Str) (sc : Scope) : Bool := (match sc.kind with | .function => true | _ => false) && !sc.isCoroutine && !sc.isGenerator && decide N.Nodup && decide (N.take ps.length = ps) &&
  ps.all (locB sc) && (sc.names.all fun y => match y.2 with | .free => false | _ => true) && gl.all (glB sc)
structure ScOk (N ps vis gl : List Str) (sc : Scope) : Prop where
  sfn : FnScope N ps sc
  svis : ∀ x, x ∈ vis → Vis sc x
  sloc : ∀ x, x ∈ vis → Loc sc x
  sgl : ∀ x, x ∈ gl → sc.names.lookup x = some .globalImplicit
theorem scOk_of {N ps vis gl : List Str} {sc : Scope} (h : scB N ps gl sc = true) (hv : vis.all (locB sc) = true) : ScOk N ps vis gl sc := by
  unfold scB at h
  simp only [Bool.and_eq_true, List.all_eq_true, decide_eq_true_eq, Bool.not_eq_true'] at h
  obtain ⟨⟨⟨⟨⟨⟨⟨h1, h2⟩, h3⟩, h4⟩, h5⟩, h6⟩, h7⟩, h8⟩ := h
  rw [List.all_eq_true] at hv
  refine ⟨⟨?_, h2, h3, h4, h5, fun x hx => locB_ok (h6 x hx), fun y hy e => ?_⟩, fun x hx => ?_, fun x hx => locB_ok (hv x hx), fun x hx => glB_ok (h8 x hx)⟩
  · split at h1
    · assumption
    · cases h1
  · have := h7 y hy
    rw [e] at this
    cases this
  · rcases locB_ok (hv x hx) with z | z
    · exact .inl z
    · exact .inr (.inl z)

/-! ### THE RULE: a def by its body -/
theorem def_ok {G : Gc} {x qual : Str} {params : Arguments} {body : List Stmt} {scope : Scope} {dvs : List V} {kws : List (Str × V)} {f : Addr} {fd : FuncData} {N ps vis gl : List Str} {k : Nat} {fb : SF} (F : FunD G.K x qual params body scope dvs kws f fd) (S : ScOk N ps vis gl scope)
    (hb : ∀ (E : XK) (X : Cx), XC G N vis vis gl scope k E X → X.stack = X.env :: X.outer → X.env.frame = some X.env.locals → Takes X (fun cls d _ H => E cls d H) → DSs G E X body fb) :
    FnOk G.P G.w G.K G.mg G.base (L2.CX G.P G.w) (k + 1) f fd ps (spD G ps.length (fnD N.length fb)) := by
  refine F.ok S.sfn (fun vs H Q E h => h.1) fun cdv A outer s H vs Q E hr h => ?_
  obtain ⟨_, ws, m, H0, as, c, r, q⟩ := h
  have tk : Takes (cxOf (L2.CX G.P G.w) G.P G.w G.K G.mg G.base N qual scope f cdv A outer s H E) (fun cls d _ H => E cls d H) := takes_of rfl rfl rfl rfl
  refine ⟨_, hb E _ ⟨rfl, rfl, rfl, rfl, rfl, rfl, rfl, S.sfn.nd, S.svis, S.sloc, S.sgl, hr, rfl, fun _ _ => .inl rfl, passes_of rfl, passes_call tk fun _ _ _ _ h => h⟩ rfl rfl tk, ?_⟩
  refine ⟨startD N.length ws, m, H0, as, c, start_slo r, ?_⟩
  have q := req_trunc c q
  cases e : fb (startD N.length ws) m with
  | bad => rw [e] at q; exact q
  | ex x m1 => rw [e] at q; exact q
  | ok fl m1 =>
    rw [e] at q
    cases fl with
    | next ρ1 => exact fun H0' as' H' f1 c1 σ' s' => q _ _ _ f1 c1 _ .non
    | ret w => exact fun H0' as' H' f1 c1 v rv => q _ _ _ f1 c1 v rv
    | brk ρ1 => exact q.elim
    | cont ρ1 => exact q.elim

/-! ### a def of the text, called -/
structure OkF (G : Gc) (x : Str) (k n : Nat) (F : FN) : Prop where
  ex : ∃ (f : Addr) (fd : FuncData) (ps : List Str), G.mg x = some (.ref f) ∧ PySem.W.keepIn G.K (.ref f) = true ∧ Binds G.K fd ps [] ∧ ps.length = n ∧ FnOk G.P G.w G.K G.mg G.base (L2.CX G.P G.w) k f fd ps (spD G n F)
section
variable {G : Gc} {E : XK} {X : Cx} {N vis loc gl : List Str} {sc : Scope} {k : Nat} {e : Expr} {es : List Expr} {t : AF} {pos p : Pos}
theorem de_call (hX : XC G N vis loc gl sc k E X) {x : Str} {j n : Nat} {F : FN} (i : Nat) (o : OkF G x j n F) (hjk : j ≤ k) (ha : DA G E X (e :: es) t) (hi : gl[i]? = some x := by rfl) (hdb : (x == ("__debug__" : Str)) = false := by decide)
    (he : starEach (e :: es) X.env = (false, eval e X.env) :: starEach es X.env := by rfl) (hpl : (backTo pos (starEach es X.env)).any (·.1) = false := by rfl) : DE G E X (.Call (.Name x p) (e :: es) [] pos) (eCall n F t) := by
  obtain ⟨f, fd, ps, h1, h2, h3, h4, h5⟩ := o.ex
  have eG := hX.gc
  subst eG
  refine PE.weak (pe_call h5 (hX.room.mono hjk) (hX.hgl x (List.mem_of_getElem? hi)) h1 h2 h3 .nil hX.pass ha hdb he hpl) fun σ H Q ⟨ρ, m, H0, as, c, s, q⟩ => ?_
  refine ⟨ρ, m, H0, as, c, s, (Req.bind q).mono fun ws m1 H0' as' H' f1 c1 q1 vs rvs => ?_⟩
  split at q1
  · rename_i hn
    rw [List.append_nil]
    exact callF_sp c1 rvs hn q1
  · exact q1.elim
theorem de_call0 (hX : XC G N vis loc gl sc k E X) {x : Str} {j : Nat} {F : FN} (i : Nat) (o : OkF G x j 0 F) (hjk : j ≤ k) (hi : gl[i]? = some x := by rfl) (hdb : (x == ("__debug__" : Str)) = false := by decide) : DE G E X (.Call (.Name x p) [] [] pos) (eCall 0 F aNil) := by
  obtain ⟨f, fd, ps, h1, h2, h3, h4, h5⟩ := o.ex
  have eG := hX.gc
  subst eG
  refine PE.weak (pe_call0 h5 (hX.room.mono hjk) (hX.hgl x (List.mem_of_getElem? hi)) h1 h2 h3 .nil hX.pass hdb) fun σ H Q ⟨ρ, m, H0, as, c, s, q⟩ => ?_
  have q1 := (Req.bind q).ok c
  exact callF_sp c .nil rfl q1
end
end FD
end
section
set_option Elab.async false
set_option linter.all false
set_option maxRecDepth 100000
set_option autoImplicit false
namespace FD
open PySem PySem.Spec PyProof.Rows L2

/-! ### instances of own classes -/
def clsOf (w : W) (m : Cells) : Option (Str × List (Str × D)) := match w with
  | .val (.ins c fs) => some (c, fs)
  | .ref k => match m[k]? with
    | some (some (.ins c fs)) => some (c, fs)
    | _ => none
  | _ => none
/-- a field -/
def fldD (c0 f : Str) : W → Cells → R W := fun w m => match clsOf w m with
  | some (c, fs) => if c = c0 then (match fs.lookup f with
    | some d => .ok (.val d) m
    | none => .bad) else .bad
  | none => .bad
def eFld (c0 f : Str) (fe : EF) : EF := fun ρ m => (fe ρ m).bind (fldD c0 f)
def eMeth (c0 mn : Str) (n : Nat) (F : FN) (fo : EF) (t : AF) : EF := fun ρ m => (fo ρ m).bind fun w m1 => match clsOf w m1 with
  | some (c, fs) => if c = c0 then (match fs.lookup mn with
    | some _ => .bad
    | none => (t ρ m1).bind fun ws m2 => if ws.length + 1 = n then callF F (w :: ws) m2 else .bad) else .bad
  | none => .bad
/-- no exception is let out -/
def noEx {α : Type} : R α → R α
  | .ex _ _ => .bad
  | r => r
theorem noEx_req {G : Gc} {E E' : XK} {H0 : Hp} {as : List Addr} {H : Hp} {α : Type} {r : R α} {P : α → Cells → Hp → List Addr → Hp → Prop} (h : Req G E H0 as H (noEx r) P) : Req G E' H0 as H r P := by
  cases r with
  | ok a m => exact h
  | ex x m => exact h.elim
  | bad => exact h
def eProp (c0 : Str) (F : FN) (fo : EF) : EF := fun ρ m => (fo ρ m).bind fun w m1 => match clsOf w m1 with
  | some (c, _) => if c = c0 then noEx (callF F [w] m1) else .bad
  | none => .bad
def eMake (c0 : Str) (n : Nat) (F : FN) (t : AF) : EF := fun ρ m => (t ρ m).bind fun ws m1 => if ws.length + 1 = n then
  (callF F (.ref m1.length :: ws) (m1 ++ [some (.ins c0 [])])).bind fun w m2 => match w with
    | .val .non => .ok (.ref m1.length) m2
    | _ => .bad else .bad
/-- o.f = e -/
def sFldD (c0 f : Str) (fo fe : EF) : SF := fun ρ m => (fe ρ m).bind fun w m1 => match w with
  | .val d => (fo ρ m1).bind fun o m2 => (match o with
    | .ref k => (match m2[k]? with
      | some (some (.ins c fs)) => if c = c0 ∧ fs.length < 1000 then .ok (.next ρ) (m2.set k (some (.ins c (putD f d fs)))) else .bad
      | _ => .bad)
    | _ => .bad)
  | .ref _ => .bad
structure ClsOk (G : Gc) (c : Str) (C : Addr) : Prop where
  at_ : G.mg c = some (.ref C)
  cls : Cls G.K C
structure FldOk (G : Gc) (c f : Str) : Prop where
  ex : ∃ C, ClsOk G c C ∧ NoAttr G.K C f
structure OkM (G : Gc) (c m : Str) (k n : Nat) (F : FN) : Prop where
  ex : ∃ (C f : Addr) (fd : FuncData) (ps : List Str), ClsOk G c C ∧ Meth G.K C m f ∧ Binds G.K fd ps [] ∧ ps.length = n ∧ FnOk G.P G.w G.K G.mg G.base (L2.CX G.P G.w) k f fd ps (spD G n F)
structure OkI (G : Gc) (c : Str) (k n : Nat) (F : FN) : Prop where
  ex : ∃ (C f : Addr) (fd : FuncData) (ps : List Str), G.mg c = some (.ref C) ∧ Mk G.K C f ∧ Binds G.K fd ps [] ∧ ps.length = n ∧ FnOk G.P G.w G.K G.mg G.base (L2.CX G.P G.w) k f fd ps (spD G n F)
structure OkP (G : Gc) (c f : Str) (k : Nat) (F : FN) : Prop where
  ex : ∃ (C p g : Addr) (fd : FuncData) (ps : List Str), ClsOk G c C ∧ PropOf G.K C f p g ∧ Binds G.K fd ps [] ∧ ps.length = 1 ∧ FnOk G.P G.w G.K G.mg G.base (L2.CX G.P G.w) k g fd ps (spD G 1 F)
section
variable {G : Gc} {E : XK} {H0 H : Hp} {as : List Addr} {m : Cells}
theorem ins_at (c : Cel G H0 as H m) {x : V} {w : W} {cn : Str} {fs : List (Str × D)} (r : RpW G H0 as x w) (e : clsOf w m = some (cn, fs)) : ∃ a C dx vs, x = .ref a ∧ H a = some (.ins C dx vs) ∧ G.mg cn = some (.ref C) ∧ Rpf G.K G.mg H0 vs fs := by
  unfold clsOf at e
  split at e
  · cases e
    cases (show Rp G.K G.mg H0 x (.ins _ _) from r) with
    | ins h1 h2 h3 => exact ⟨_, _, _, _, rfl, c.same _ _ h1, h2, h3⟩
  · split at e
    · rename_i h
      cases e
      obtain ⟨a, e1, e2, C, dx, vs, e3, e4, e5⟩ := c.cell _ _ h
      obtain ⟨b, e6, rfl⟩ := r
      rw [e1] at e6
      cases e6
      exact ⟨a, C, dx, vs, rfl, e3, e4, e5⟩
    · cases e
  · cases e
variable {X : Cx} {N vis loc gl : List Str} {sc : Scope} {k : Nat} {e o : Expr} {es : List Expr} {t : AF} {fe fo : EF} {pos p apos : Pos}
theorem de_fld (hX : XC G N vis loc gl sc k E X) {c0 f : Str} (ok : FldOk G c0 f) (h : DE G E X e fe) (hb : attributeBase e f X.env (eval e X.env) = eval e X.env := by rfl) : DE G E X (.Attribute e f pos) (eFld c0 f fe) := by
  obtain ⟨C, ⟨h1, h2⟩, h3⟩ := ok.ex
  have eG := hX.gc
  subst eG
  refine PE.weak (pe_fld h hb) fun σ H Q ⟨ρ, m, H0, as, c, s, q⟩ => ⟨ρ, m, H0, as, c, s, (Req.bind q).mono fun w m1 H0' as' H' f1 c1 q1 x rx => ?_⟩
  unfold fldD at q1
  split at q1
  · rename_i cn fs ec
    split at q1
    · rename_i ecn
      subst ecn
      obtain ⟨a, C', dx, vs, rfl, ha, hm, rf⟩ := ins_at c1 rx ec
      rw [h1] at hm
      cases hm
      split at q1
      · rename_i d hd
        obtain ⟨v, hv, rv⟩ := rf.lookup _ hd
        exact ⟨a, C, dx, vs, v, rfl, ha, h2, h3, hv, q1.ok c1 v rv⟩
      · exact q1.elim
    · exact q1.elim
  · exact q1.elim
theorem de_meth (hX : XC G N vis loc gl sc k E X) {c0 mn : Str} {j n : Nat} {F : FN} (ok : OkM G c0 mn j n F) (hjk : j ≤ k) (ho : DE G E X o fo) (ha : DA G E X (e :: es) t)
    (hst : starEach (e :: es) X.env = (false, eval e X.env) :: starEach es X.env := by rfl) (hpl : (backTo pos (starEach es X.env)).any (·.1) = false := by rfl) {pl : Sem Bool}
    (ht : eval (.Call (.Attribute o mn apos) (e :: es) [] pos) X.env = (do
      let ov ← eval o X.env
      standAt apos.atName
      let (f, first) ← holding [ov] (getMethod ov mn pl)
      callWith pos f first (backTo pos (starEach (e :: es) X.env)) (backToKw pos (keywordEach [] X.env))) := by rfl) :
    DE G E X (.Call (.Attribute o mn apos) (e :: es) [] pos) (eMeth c0 mn n F fo t) := by
  obtain ⟨C, f, fd, ps, ⟨h1, h2⟩, h3, h4, h5, h6⟩ := ok.ex
  have eG := hX.gc
  subst eG
  refine PE.weak (pe_meth ho h2 h3 h6 (hX.room.mono hjk) h4 .nil hX.pass ha hst hpl ht) fun σ H Q ⟨ρ, m, H0, as, c, s, q⟩ => ⟨ρ, m, H0, as, c, s, (Req.bind q).mono fun w m1 H0' as' H' f1 c1 q1 x rx => ?_⟩
  split at q1
  · rename_i cn fs ec
    split at q1
    · rename_i ecn
      subst ecn
      obtain ⟨a, C', dx, vs, rfl, hh, hm, rf⟩ := ins_at c1 rx ec
      rw [h1] at hm
      cases hm
      split at q1
      · exact q1.elim
      · rename_i hn
        refine ⟨a, dx, vs, rfl, hh, rf.lookup_none _ hn, ρ, m1, H0', as', c1, s.mono f1, (Req.bind q1).mono fun ws m2 H2 as2 H2' f2 c2 q2 us rus => ?_⟩
        split at q2
        · rename_i hl
          rw [List.append_nil]
          exact callF_sp c2 (.cons (RpW.mono f2 rx) rus) hl q2
        · exact q2.elim
    · exact q1.elim
  · exact q1.elim
theorem de_meth0 (hX : XC G N vis loc gl sc k E X) {c0 mn : Str} {j : Nat} {F : FN} (ok : OkM G c0 mn j 1 F) (hjk : j ≤ k) (ho : DE G E X o fo) {pl : Sem Bool}
    (ht : eval (.Call (.Attribute o mn apos) [] [] pos) X.env = (do
      let ov ← eval o X.env
      standAt apos.atName
      let (f, first) ← holding [ov] (getMethod ov mn pl)
      callWith pos f first (backTo pos (starEach [] X.env)) (backToKw pos (keywordEach [] X.env))) := by rfl) :
    DE G E X (.Call (.Attribute o mn apos) [] [] pos) (eMeth c0 mn 1 F fo aNil) := by
  obtain ⟨C, f, fd, ps, ⟨h1, h2⟩, h3, h4, h5, h6⟩ := ok.ex
  have eG := hX.gc
  subst eG
  refine PE.weak (pe_meth0 ho h2 h3 h6 (hX.room.mono hjk) h4 .nil hX.pass ht) fun σ H Q ⟨ρ, m, H0, as, c, s, q⟩ => ⟨ρ, m, H0, as, c, s, (Req.bind q).mono fun w m1 H0' as' H' f1 c1 q1 x rx => ?_⟩
  split at q1
  · rename_i cn fs ec
    split at q1
    · rename_i ecn
      subst ecn
      obtain ⟨a, C', dx, vs, rfl, hh, hm, rf⟩ := ins_at c1 rx ec
      rw [h1] at hm
      cases hm
      split at q1
      · exact q1.elim
      · rename_i hn
        refine ⟨a, dx, vs, rfl, hh, rf.lookup_none _ hn, ?_⟩
        exact callF_sp c1 (.cons rx .nil) rfl ((Req.bind q1).ok c1)
    · exact q1.elim
  · exact q1.elim
theorem de_prop (hX : XC G N vis loc gl sc k E X) {c0 f : Str} {j : Nat} {F : FN} (ok : OkP G c0 f j F) (hjk : j + 1 ≤ k) (ho : DE G E X o fo) (hab : attributeBase o f X.env (eval o X.env) = eval o X.env := by rfl) :
    DE G E X (.Attribute o f pos) (eProp c0 F fo) := by
  obtain ⟨C, p, g, fd, ps, ⟨h1, h2⟩, h3, h4, h5, h6⟩ := ok.ex
  have eG := hX.gc
  subst eG
  refine PE.weak (pe_prop (E := fun _ _ _ => False) ho h2 h3 h6 (hX.room.mono hjk) h4 .nil passL hab) fun σ H Q ⟨ρ, m, H0, as, c, s, q⟩ => ⟨ρ, m, H0, as, c, s, (Req.bind q).mono fun w m1 H0' as' H' f1 c1 q1 x rx => ?_⟩
  split at q1
  · rename_i cn fs ec
    split at q1
    · rename_i ecn
      subst ecn
      obtain ⟨a, C', dx, vs, rfl, hh, hm, rf⟩ := ins_at c1 rx ec
      rw [h1] at hm
      cases hm
      exact ⟨a, dx, vs, rfl, hh, callF_sp c1 (.cons rx .nil) rfl (noEx_req q1)⟩
    · exact q1.elim
  · exact q1.elim
theorem de_make (hX : XC G N vis loc gl sc k E X) {c0 : Str} {j n : Nat} {F : FN} (i : Nat) (ok : OkI G c0 j n F) (hjk : j + 1 ≤ k) (ha : DA G E X (e :: es) t) (hi : gl[i]? = some c0 := by rfl) (hdb : (c0 == ("__debug__" : Str)) = false := by decide)
    (he : starEach (e :: es) X.env = (false, eval e X.env) :: starEach es X.env := by rfl) (hpl : (backTo pos (starEach es X.env)).any (·.1) = false := by rfl) : DE G E X (.Call (.Name c0 p) (e :: es) [] pos) (eMake c0 n F t) := by
  obtain ⟨C, f, fd, ps, h1, h2, h3, h4, h5⟩ := ok.ex
  have eG := hX.gc
  subst eG
  refine PE.weak (pe_make h2 h5 (hX.room.mono hjk) (hX.hgl c0 (List.mem_of_getElem? hi)) h1 h3 .nil hX.pass ha hdb he hpl) fun σ H Q ⟨ρ, m, H0, as, c, s, q⟩ => ⟨ρ, m, H0, as, c, s, (Req.bind q).mono fun ws m1 H0' as' H' f1 c1 q1 vs rvs x dx nx nd ne => ?_⟩
  split at q1
  · rename_i hl
    rw [List.append_nil]
    -- the instance's own dict, then the instance
    obtain ⟨fA, cA⟩ := newV c1 nd (.own x)
    have nx2 : (upd H' dx (.own x)) x = none := by rw [upd_ne (Ne.symm ne)]; exact nx
    obtain ⟨fB, cB⟩ := newC (d := .ins c0 []) cA nx2 (o := .ins C dx []) ⟨C, dx, [], rfl, h1, .nil⟩
    have fAB := fA.trans fB
    have rx : RpW ⟨X.prog, X.w, X.K, X.mg, X.base⟩ (upd H0' dx (.own x)) (as' ++ [x]) (.ref x) (.ref m1.length) := ⟨x, by rw [← c1.len, List.getElem?_append_right (Nat.le_refl _), Nat.sub_self]; rfl, rfl⟩
    refine callF_sp cB (.cons rx (rvs.mono fAB)) hl ((Req.bind (Req.later fAB q1)).mono fun w m2 H2 as2 H2' f2 c2 q2 v rv => ?_)
    split at q2
    · cases (show Rp X.K X.mg H2 v .non from rv)
      exact ⟨rfl, q2.ok c2 _ (RpW.mono f2 rx)⟩
    · exact q2.elim
  · exact q1.elim
theorem ds_fld (hX : XC G N vis loc gl sc k E X) {c0 f : Str} (ok : FldOk G c0 f) (ho : DE G E X o fo) (he : DE G E X e fe) (hs : swapsWith e (some (.Attribute o f p)) pos.line X.env = pure false := by rfl) : DS G E X (.Assign [.Attribute o f p] e pos) (sFldD c0 f fo fe) := by
  obtain ⟨C, ⟨h1, h2⟩, h3⟩ := ok.ex
  have eG := hX.gc
  subst eG
  refine PS.weak (ps_fld ho he hs) fun D σ H ⟨ρ, m, H0, as, c, s, q⟩ => ⟨ρ, m, H0, as, c, s, (Req.bind q).mono fun w m1 H0' as' H' f1 c1 q1 y ry => ?_⟩
  split at q1
  · rename_i d
    refine ⟨ρ, m1, H0', as', c1, s.mono f1, (Req.bind q1).mono fun u m2 H2 as2 H2' f2 c2 q2 x rx => ?_⟩
    split at q2
    · rename_i kk
      split at q2
      · rename_i cn fs hc
        split at q2
        · rename_i hh
          obtain ⟨ecn, hl⟩ := hh
          subst ecn
          obtain ⟨a, e1, e2, C', dx, vs, e3, e4, e5⟩ := c2.cell _ _ hc
          rw [h1] at e4
          cases e4
          obtain ⟨b, e6, rfl⟩ := rx
          rw [e1] at e6
          cases e6
          obtain ⟨f3, c3⟩ := writeC (d := .ins cn (putD f d fs)) c2 hc e1 (o := .ins C dx (putF f y vs)) ⟨C, dx, _, rfl, h1, Rpf.put (Rp.mono f2.same ry) e5⟩
          exact ⟨a, C, dx, vs, rfl, e3, h2, h3, by rw [e5.length]; exact hl, q2 _ _ _ f3 c3 σ (((s.mono f1).mono f2).mono f3)⟩
        · exact q2.elim
      · exact q2.elim
    · exact q2.elim
  · exact q1.elim
end
end FD
end
section
set_option Elab.async false
set_option linter.all false
set_option maxRecDepth 100000
set_option autoImplicit false
namespace FD
open PySem PySem.Spec PyProof.Rows L2

/-! ### list comprehensions -/
def wipeR (ρ : Ro) : List Nat → Ro
  | [] => ρ
  | v :: vs => (wipeR ρ vs).set v none
def tstF (test : Option TF) : TF := match test with
  | none => fun _ m => .ok true m
  | some t => t
def lcF (g : GF) (test : Option TF) (elt : EF) (vs : List Nat) : List D → List D → Ro → Cells → R (List D)
  | [], acc, _, m => .ok acc m
  | d :: ds, acc, ρ, m => match g (.val d) (wipeR ρ vs) with
    | none => .bad
    | some ρ1 => (match tstF test ρ1 m with
      | .ok b m1 => if b = true then (match elt ρ1 (m1.take m.length) with
        | .ok (.val x) m2 => lcF g test elt vs ds (acc ++ [x]) ρ (m2.take m.length)
        | _ => .bad) else lcF g test elt vs ds acc ρ (m1.take m.length)
      | _ => .bad)
def eLc (it : IF) (g : GF) (test : Option TF) (elt : EF) (vs : List Nat) : EF := fun ρ m => (it ρ m).bind fun ds m1 => if ds.length < sizeLine then
  (lcF g test elt vs ds [] ρ m1).bind fun acc m2 => .ok (.val (.lst acc)) m2 else .bad
def eLcC (it : IF) (g : GF) (test : Option TF) (elt : EF) (vs : List Nat) : EF := fun ρ m => (it ρ m).bind fun ds m1 => if ds.length < sizeLine then
  (lcF g test elt vs ds [] ρ m1).bind fun acc m2 => .ok (.ref m2.length) (m2 ++ [some (.lst acc)]) else .bad

theorem wipe_len (σ : L2.St) : ∀ vs : List Nat, (wipe σ vs).length = σ.length := wipe_length σ
theorem wipeR_len (ρ : Ro) : ∀ vs : List Nat, (wipeR ρ vs).length = ρ.length
  | [] => rfl
  | v :: vs => by rw [wipeR, List.length_set, wipeR_len ρ vs]
theorem wipe_get (σ : L2.St) {j : Nat} : ∀ {vs : List Nat}, j ∉ vs → (wipe σ vs)[j]? = σ[j]?
  | [], _ => rfl
  | v :: vs, h => by
    rw [List.mem_cons, not_or] at h
    rw [wipe, List.getElem?_set_ne (Ne.symm h.1), wipe_get σ h.2]
theorem wipe_in (σ : L2.St) {j : Nat} (hj : j < σ.length) : ∀ {vs : List Nat}, j ∈ vs → (wipe σ vs)[j]? = some none
  | v :: vs, h => by
    rw [wipe]
    by_cases e : v = j
    · subst e
      rw [List.getElem?_set_self (by rw [wipe_len]; exact hj)]
    · rw [List.getElem?_set_ne e]
      rcases List.mem_cons.mp h with z | z
      · exact absurd z.symm e
      · exact wipe_in σ hj z
theorem wipeR_get (ρ : Ro) {j : Nat} : ∀ {vs : List Nat}, j ∉ vs → (wipeR ρ vs)[j]? = ρ[j]?
  | [], _ => rfl
  | v :: vs, h => by
    rw [List.mem_cons, not_or] at h
    rw [wipeR, List.getElem?_set_ne (Ne.symm h.1), wipeR_get ρ h.2]
theorem wipeR_in (ρ : Ro) {j : Nat} (hj : j < ρ.length) : ∀ {vs : List Nat}, j ∈ vs → (wipeR ρ vs)[j]? = some none
  | v :: vs, h => by
    rw [wipeR]
    by_cases e : v = j
    · subst e
      rw [List.getElem?_set_self (by rw [wipeR_len]; exact hj)]
    · rw [List.getElem?_set_ne e]
      rcases List.mem_cons.mp h with z | z
      · exact absurd z.symm e
      · exact wipeR_in ρ hj z
theorem wipe_out {σ σ2 : L2.St} {ix vs : List Nat} (h : Out ix (wipe σ vs) σ2) (hs : ∀ i, i ∈ ix → i ∈ vs) : wipe σ2 vs = wipe σ vs := by
  have l2 : σ2.length = σ.length := h.1.trans (wipe_len σ vs)
  apply List.ext_getElem?
  intro j
  by_cases hj : j ∈ vs
  · by_cases l : j < σ.length
    · rw [wipe_in σ2 (by rw [l2]; exact l) hj, wipe_in σ l hj]
    · rw [List.getElem?_eq_none (by rw [wipe_len, l2]; omega), List.getElem?_eq_none (by rw [wipe_len]; omega)]
  · rw [wipe_get σ2 hj, wipe_get σ hj, h.2 j fun z => hj (hs j z), wipe_get σ hj]
section
variable {G : Gc} {E : XK} {H0 H : Hp} {as : List Addr} {m : Cells}
theorem Slo.wipe {σ : L2.St} {ρ : Ro} (s : Slo G H0 as σ ρ) (vs : List Nat) : Slo G H0 as (L2.wipe σ vs) (wipeR ρ vs) := by
  refine ⟨by rw [wipe_len, wipeR_len]; exact s.len, fun i w e => ?_⟩
  by_cases hi : i ∈ vs
  · have l : i < ρ.length := by
      have := (List.getElem?_eq_some_iff.mp e).1
      rw [wipeR_len] at this; exact this
    rw [wipeR_in ρ l hi] at e; cases e
  · rw [wipeR_get ρ hi] at e
    obtain ⟨v, e1, e2⟩ := s.at_ i w e
    exact ⟨v, by rw [wipe_get σ hi]; exact e1, e2⟩
theorem Slo.back {H0' H' : Hp} {as' : List Addr} {σ : L2.St} {ρ : Ro} (s : Slo G H0 as σ ρ) (f : Frm H0 as H H0' as' H') (l : as'.length = as.length) : Slo G H0' as σ ρ := by
  obtain ⟨r, e⟩ := f.pre
  have : r = [] := by
    have := congrArg List.length e
    rw [List.length_append] at this
    exact List.length_eq_zero_iff.mp (by omega)
  subst this
  rw [List.append_nil] at e
  subst e
  exact s.mono f
theorem take_pre {as as' : List Addr} {n : Nat} (h : ∃ r, as' = as ++ r) (hn : as.length = n) : as'.take n = as := by
  obtain ⟨r, e⟩ := h
  rw [e, ← hn, List.take_left]
/-- what a comprehension knows within a turn: D its new list, apart from all -/
structure LcI (G : Gc) (Da : Addr) (H0s : Hp) (as : List Addr) (H1 : Hp) (m : Cells) (acc : List D) (H0 H : Hp) : Prop where
  frm : Frm H0s as H1 H0 as H
  cel : Cel G H0 as H m
  no0 : H0 Da = none
  noa : Da ∉ as
  at_ : ∃ vs, H Da = some (.lst vs) ∧ Rps G.K G.mg H0 vs acc
theorem LcI.step {Da : Addr} {H0s H1 H0' H' : Hp} {acc : List D} {m' : Cells} {as' : List Addr} (i : LcI G Da H0s as H1 m acc H0 H) (f : Frm H0 as H H0' as' H') (c : Cel G H0' as' H' m') : LcI G Da H0s as H1 (m'.take m.length) acc H0' H' := by
  have hl := i.cel.len
  have f2 := f.take m.length (by omega)
  have c2 := c.take m.length
  rw [take_pre f.pre hl] at f2 c2
  obtain ⟨vs, e1, e2⟩ := i.at_
  exact ⟨i.frm.trans f2, c2, f.grow Da i.noa (by rw [e1]; simp) i.no0, i.noa, vs, f.keep Da _ i.noa e1, e2.mono f.same⟩
theorem LcI.add {Da : Addr} {H0s H1 : Hp} {acc : List D} {x : D} {v : V} (i : LcI G Da H0s as H1 m acc H0 H) (hD : H1 Da = none) (r : Rp G.K G.mg H0 v x) {vs : List V} (e1 : H Da = some (.lst vs)) : LcI G Da H0s as H1 m (acc ++ [x]) H0 (upd H Da (.lst (vs ++ [v]))) := by
  obtain ⟨vs', e1', e2⟩ := i.at_
  rw [e1] at e1'
  cases e1'
  refine ⟨⟨i.frm.same, i.frm.pre, fun b o n e => ?_, i.frm.fresh, i.frm.grow⟩, ⟨fun b u e => ?_, i.cel.len, i.cel.nd, fun a ha => ?_, fun k d e => ?_⟩, i.no0, i.noa, _, upd_same, e2.snoc r⟩
  · rw [upd_ne (ne_of_none e hD)]; exact i.frm.keep b o n e
  · rw [upd_ne (ne_of_none e i.no0)]; exact i.cel.same b u e
  · have : a ≠ Da := fun q => i.noa (q ▸ ha)
    rw [upd_ne this]; exact i.cel.there a ha
  · obtain ⟨a, h1, h2, h3⟩ := i.cel.cell k d e
    have : a ≠ Da := fun q => i.noa (q ▸ List.mem_of_getElem? h1)
    exact ⟨a, h1, h2, by rw [upd_ne this]; exact h3⟩
theorem LcI.start {Da : Addr} {H1 : Hp} (c : Cel G H0 as H1 m) (hD : H1 Da = none) : LcI G Da H0 as H1 m [] H0 (upd H1 Da (.lst [])) := by
  have h0 : H0 Da = none := c.same.free hD
  have na := c.notin hD
  refine ⟨⟨Same.refl _, ⟨[], by simp⟩, fun b o n e => by rw [upd_ne (ne_of_none e hD)]; exact e, fun b h n => absurd h n, fun b n h z => z⟩, ⟨fun b u e => ?_, c.len, c.nd, fun a ha => ?_, fun k d e => ?_⟩, h0, na, [], upd_same, .nil⟩
  · rw [upd_ne (ne_of_none e h0)]; exact c.same b u e
  · have : a ≠ Da := fun q => na (q ▸ ha)
    rw [upd_ne this]; exact c.there a ha
  · obtain ⟨a, h1, h2, h3⟩ := c.cell k d e
    have : a ≠ Da := fun q => na (q ▸ List.mem_of_getElem? h1)
    exact ⟨a, h1, h2, by rw [upd_ne this]; exact h3⟩
/-- the list comes to a stand -/
theorem LcI.stand {Da : Addr} {H0s H1 : Hp} {acc : List D} (i : LcI G Da H0s as H1 m acc H0 H) (hD : H1 Da = none) : ∃ o, Frm H0s as H1 (upd H0 Da o) as H ∧ Cel G (upd H0 Da o) as H m ∧ Rp G.K G.mg (upd H0 Da o) (.ref Da) (.lst acc) := by
  obtain ⟨vs, e1, e2⟩ := i.at_
  have sm : Same H0 (upd H0 Da (.lst vs)) := fun b u e => by rw [upd_ne (ne_of_none e i.no0)]; exact e
  refine ⟨.lst vs, ⟨i.frm.same.trans sm, i.frm.pre, i.frm.keep, i.frm.fresh, fun b n h z => ?_⟩, ⟨fun b u e => ?_, i.cel.len, i.cel.nd, i.cel.there, fun k d e => ?_⟩, .lst upd_same (e2.mono sm)⟩
  · have : b ≠ Da := fun q => h (by rw [q]; exact hD)
    rw [upd_ne this]; exact i.frm.grow b n h z
  · by_cases q : b = Da
    · subst q; rw [upd_same] at e; cases e; exact e1
    · rw [upd_ne q] at e; exact i.cel.same b u e
  · obtain ⟨a, h1, h2, h3⟩ := i.cel.cell k d e
    have : a ≠ Da := fun q => i.noa (q ▸ List.mem_of_getElem? h1)
    exact ⟨a, h1, by rw [upd_ne this]; exact h2, h3.mono sm⟩
/-- .. or is a cell -/
theorem LcI.cell {Da : Addr} {H0s H1 : Hp} {acc : List D} (i : LcI G Da H0s as H1 m acc H0 H) (hD : H1 Da = none) : Frm H0s as H1 H0 (as ++ [Da]) H ∧ Cel G H0 (as ++ [Da]) H (m ++ [some (.lst acc)]) := by
  obtain ⟨vs, e1, e2⟩ := i.at_
  refine ⟨⟨i.frm.same, ⟨[Da], rfl⟩, i.frm.keep, fun b hb n => ?_, i.frm.grow⟩, ⟨i.cel.same, by rw [List.length_append, List.length_append, i.cel.len]; rfl, ?_, fun b hb => ?_, fun j d' ed => ?_⟩⟩
  · rcases List.mem_append.mp hb with z | z
    · exact absurd z n
    · rw [List.mem_singleton.mp z]; exact hD
  · rw [List.nodup_append]
    refine ⟨i.cel.nd, by simp, fun x hx y hy => ?_⟩
    rw [List.mem_singleton.mp hy]
    exact fun z => i.noa (z ▸ hx)
  · rcases List.mem_append.mp hb with z | z
    · exact i.cel.there b z
    · rw [List.mem_singleton.mp z, e1]; simp
  · by_cases l : j < m.length
    · rw [List.getElem?_append_left l] at ed
      obtain ⟨b, h1, h2, h3⟩ := i.cel.cell j d' ed
      exact ⟨b, by rw [List.getElem?_append_left (by rw [i.cel.len]; exact l)]; exact h1, h2, h3⟩
    · have li : j = m.length := by
        have := (List.getElem?_eq_some_iff.mp ed).1
        rw [List.length_append, List.length_singleton] at this
        omega
      subst li
      rw [List.getElem?_append_right (Nat.le_refl _), Nat.sub_self] at ed
      cases ed
      exact ⟨Da, by rw [← i.cel.len, List.getElem?_append_right (Nat.le_refl _), Nat.sub_self]; rfl, i.no0, vs, e1, e2⟩

/-! ### the block's context -/
variable {X : Cx} {N vis loc gl : List Str} {sc : Scope} {k : Nat}
/-- a comprehension's block: own its names, bvis what it sees of the def's names, bgl of the module's -/
structure BlkX (N : List Str) (sc scope : Scope) (own : List (Str × Nat)) (bvis bloc bgl : List Str) : Prop where
  ok : BlkOk N sc scope own
  bv : ∀ x, x ∈ bvis → Vis (relS scope sc) x
  bo : ∀ x, x ∈ bloc → (relS scope sc).names.lookup x = some .local ∨ ((relS scope sc).names.lookup x = some .cell ∧ scope.names.lookup x = some .cell)
  bg : ∀ x, x ∈ bgl → (relS scope sc).names.lookup x = some .globalImplicit
def boB (sc scope : Scope) (x : Str) : Bool := match (relS scope sc).names.lookup x with
  | some .local => true
  | some .cell => (match scope.names.lookup x with
    | some .cell => true
    | _ => false)
  | _ => false
theorem blkX_of {sc scope : Scope} {own : List (Str × Nat)} {bvis bloc bgl : List Str} (h : blkC N sc scope own = true) (h1 : bvis.all (visB (relS scope sc)) = true) (h2 : bloc.all (boB sc scope) = true) (h3 : bgl.all (glB (relS scope sc)) = true) : BlkX N sc scope own bvis bloc bgl := by
  rw [List.all_eq_true] at h1 h2 h3
  refine ⟨blkOk_by h, fun x hx => visB_ok (h1 x hx), fun x hx => ?_, fun x hx => glB_ok (h3 x hx)⟩
  have := h2 x hx
  unfold boB at this
  split at this
  · exact .inl (by assumption)
  · split at this
    · exact .inr ⟨by assumption, by assumption⟩
    · cases this
  · cases this
abbrev E0D : XK := fun _ _ _ => False
theorem XC.blk (hX : XC G N vis loc gl sc k E X) {scope : Scope} {own : List (Str × Nat)} {bvis bloc bgl : List Str} (B : BlkX N sc scope own bvis bloc bgl) (s : Shared) (H : Hp) (C : Addr) (cl : List (Str × Addr)) (fp : List Addr) :
    XC G N bvis bloc bgl (relS scope sc) k E0D (X.blk s H scope (compEnvC scope cl C X.env) fp) := by
  have hs : (X.blk s H scope (compEnvC scope cl C X.env) fp).env.scope = relS scope sc := by rw [← hX.hsc]; rfl
  refine ⟨hX.hP, hX.hw, hX.hK, hX.hmg, hX.hbase, hX.hN, hs, hX.nd, fun x hx => ?_, fun x hx => ?_, fun x hx => ?_, hX.room, hX.calm, fun x hx => ?_, PassesOwn.never, passL⟩
  · rw [hs]; exact B.bv x hx
  · rw [hs]; exact (B.bo x hx).imp id And.left
  · show (X.blk s H scope (compEnvC scope cl C X.env) fp).env.scope.names.lookup x = _
    rw [hs]; exact B.bg x hx
  · rcases B.bo x hx with z | z
    · exact .inr (by rw [hs]; exact z)
    · refine .inl ?_
      show (scope.names.lookup x == some .cell) = true
      rw [z.2]; rfl

def DTo (G : Gc) (E : XK) (X : Cx) (ifs : List Expr) (t : Option TF) : Prop := PTs X ifs (tT G E (tstF t))
theorem dto_none : DTo G E X [] none := ⟨fun pins s σ H Q I ⟨ρ, m, H0, as, c, sl, q⟩ => pts_nil.run pins s σ H Q I (q.ok c)⟩
theorem dto_one {c : Expr} {t : TF} (h : DT G E X c t) : DTo G E X [c] (some t) := pts_one h
/-- the loop of a comprehension, to its end -/
theorem lc_run {hX : XC G N vis loc gl sc k E X} {g : GF} {test : Option TF} {elt : EF} {vs ix : List Nat} (hix : ∀ i, i ∈ ix → i ∈ vs) {J : It} {ds : List D} {H1 : Hp} {ρ : Ro} {σ : L2.St} (c : Cel G H0 as H1 m) (s : Slo G H0 as σ ρ) (wk : Wlk G J ds H0 as H1) (hz : ds.length < sizeLine)
    {P : List D → Cells → Hp → List Addr → Hp → Prop} (q : Req G E H0 as H1 (lcF g test elt vs ds [] ρ m) P) {Da : Addr} (hD : H1 Da = none) {Q : Hp → Prop}
    (fin : ∀ acc m' H0' H', LcI G Da H0 as H1 m' acc H0' H' → Req G E H0 as H1 (.ok acc m') P → Q H') :
    ∃ W : Nat → Nat → Hp → Prop, (∃ n, W 0 n (upd H1 Da (.lst []))) ∧ ∀ i n H, W i n H → (J.stop i H ∧ Q H) ∨ (J.go i H ∧ ∃ Nx : Hp → Prop, (∀ H', Nx H' → ∃ n', n' < n ∧ W (i + 1) n' H') ∧ ∀ x H', J.yld i H x H' → tGD G g ix x (wipe σ vs) H' fun σ2 H2 => wipe σ2 vs = wipe σ vs ∧
      tT G E0D (tstF test) σ2 H2 fun b H3 => if b = true then tE G E0D elt σ2 H3 fun y H4 => ∃ acc, H4 Da = some (.lst acc) ∧ acc.length < sizeLine ∧ Nx (upd H4 Da (.lst (acc ++ [y]))) else Nx H3) := by
  refine ⟨fun i n H => n = ds.length - i ∧ i ≤ ds.length ∧ ∃ acc m' H0', LcI G Da H0 as H1 m' acc H0' H ∧ acc.length ≤ i ∧ m'.length = m.length ∧ Req G E H0 as H1 (lcF g test elt vs (ds.drop i) acc ρ m') P,
    ⟨ds.length, by simp, Nat.zero_le _, [], m, H0, LcI.start c hD, Nat.le_refl _, rfl, q⟩, ?_⟩
  rintro i n H ⟨rfl, hi, acc, m', H0', I, la, lm, q⟩
  by_cases hlt : i < ds.length
  · refine .inr ⟨wk.go i _ _ _ I.frm I.cel.same hlt, fun H => i + 1 ≤ ds.length ∧ ∃ acc m' H0', LcI G Da H0 as H1 m' acc H0' H ∧ acc.length ≤ i + 1 ∧ m'.length = m.length ∧ Req G E H0 as H1 (lcF g test elt vs (ds.drop (i + 1)) acc ρ m') P,
      fun H' ⟨l, z⟩ => ⟨ds.length - (i + 1), by omega, rfl, l, z⟩, fun x H3 y => ?_⟩
    obtain ⟨H03, f3, c3, rx⟩ := wk.yld i _ _ _ m' x H3 I.frm I.cel y
    have hl : as.length = m'.length := I.cel.len
    have I3 := I.step f3 c3
    rw [List.take_length] at I3
    rw [List.drop_eq_getElem_cons hlt, lcF] at q
    split at q
    · exact q.elim
    · rename_i ρ1 eg
      refine ⟨.val ds[i], wipeR ρ vs, H03, as, ρ1, (s.back (I3.frm) rfl).wipe vs, c3.same, rx _ (List.getElem?_eq_getElem hlt), eg, fun σ2 s2 o2 => ⟨wipe_out o2 hix, ?_⟩⟩
      refine ⟨ρ1, m', H03, as, c3, s2, ?_⟩
      split at q
      · rename_i b m1 et
        rw [et]
        intro H04 as4 H4 f4 c4
        have I4 := I3.step f4 c4
        have lm4 : (m1.take m'.length).length = m'.length := by
          have := I4.cel.len
          omega
        cases b with
        | false =>
          have q2 : Req G E H0 as H1 (lcF g test elt vs (List.drop (i + 1) ds) acc ρ (List.take (List.length m') m1)) P := q
          exact iteF ⟨hlt, acc, _, _, I4, Nat.le_succ_of_le la, by rw [lm4, lm], q2⟩
        | true =>
          refine iteT ?_
          have s4 : Slo G H04 as σ2 ρ1 := s2.back (as' := as4.take m'.length) (f4.take _ (by omega)) (by rw [take_pre f4.pre hl])
          refine ⟨ρ1, m1.take m'.length, H04, as, I4.cel, s4, ?_⟩
          rw [if_pos rfl] at q
          split at q
          · rename_i d m2 ee
            rw [ee]
            intro H05 as5 H5 f5 c5 v rv
            have I5 := I4.step f5 c5
            obtain ⟨vacc, e1, e2⟩ := I5.at_
            have lm5 : (m2.take (m1.take m'.length).length).length = m'.length := by
              have := I5.cel.len
              omega
            refine ⟨vacc, e1, by rw [e2.length]; omega, hlt, acc ++ [d], _, _, I5.add hD rv e1, by rw [List.length_append, List.length_singleton]; omega, by rw [lm5, lm], ?_⟩
            rw [lm4]
            exact q
          · exact q.elim
      · exact q.elim
  · have e : i = ds.length := by omega
    subst e
    rw [List.drop_length, lcF] at q
    exact .inl ⟨wk.stop _ _ _ I.frm I.cel.same, fin acc m' H0' H I q⟩

theorem Req.bind0 {α β : Type} {r : R α} {k : α → Cells → R β} {P : β → Cells → Hp → List Addr → Hp → Prop} (h : Req G E H0 as H (r.bind k) P) : Req G E H0 as H r fun a m _ _ _ => Req G E H0 as H (k a m) P := by
  cases r with
  | ok a m => exact fun H0' as' H' f c => h
  | ex x m => exact h
  | bad => exact h
theorem tE_lc (hX : XC G N vis loc gl sc k E X) {it : IF} {g : GF} {test : Option TF} {elt : EF} {vs ix : List Nat} (hix : ∀ i, i ∈ ix → i ∈ vs) {σ : L2.St} {H : Hp} {Q : VK} (q : tE G E (eLc it g test elt vs) σ H Q) :
    tLc (tI G E it) (tGD G g ix) (tT G E0D (tstF test)) (tE G E0D elt) vs σ H Q := by
  obtain ⟨ρ, m, H0, as, c, s, q⟩ := q
  refine ⟨ρ, m, H0, as, c, s, (Req.bind q).mono fun ds m1 H0' as' H' f1 c1 q1 J wk Da hD => ?_⟩
  split at q1
  · rename_i hz
    refine lc_run (hX := hX) hix c1 (s.mono f1) wk hz (Req.bind0 q1) hD (Q := fun H => Q (.ref Da) H) fun acc m' H02 H2 I q2 => ?_
    obtain ⟨o, f2, c2, r2⟩ := I.stand hD
    exact q2 _ _ _ I.frm I.cel _ _ _ f2 c2 _ r2
  · exact q1.elim
theorem tE_lcC (hX : XC G N vis loc gl sc k E X) {it : IF} {g : GF} {test : Option TF} {elt : EF} {vs ix : List Nat} (hix : ∀ i, i ∈ ix → i ∈ vs) {σ : L2.St} {H : Hp} {Q : VK} (q : tE G E (eLcC it g test elt vs) σ H Q) :
    tLc (tI G E it) (tGD G g ix) (tT G E0D (tstF test)) (tE G E0D elt) vs σ H Q := by
  obtain ⟨ρ, m, H0, as, c, s, q⟩ := q
  refine ⟨ρ, m, H0, as, c, s, (Req.bind q).mono fun ds m1 H0' as' H' f1 c1 q1 J wk Da hD => ?_⟩
  split at q1
  · rename_i hz
    refine lc_run (hX := hX) hix c1 (s.mono f1) wk hz (Req.bind0 q1) hD (Q := fun H => Q (.ref Da) H) fun acc m' H02 H2 I q2 => ?_
    obtain ⟨f2, c2⟩ := I.cell hD
    refine q2 _ _ _ I.frm I.cel _ _ _ f2 c2 _ ⟨Da, ?_, rfl⟩
    rw [← I.cel.len, List.getElem?_append_right (Nat.le_refl _), Nat.sub_self]; rfl
  · exact q1.elim
variable {elt tg iter : Expr} {ifs : List Expr} {scope : Scope} {own : List (Str × Nat)} {pos : Pos} {fi : IF} {g : GF} {ft : Option TF} {fe : EF} {ix : List Nat} {bvis bloc bgl : List Str}
/-- [elt for tg in iter if ..], as data -/
theorem de_lc (hX : XC G N vis loc gl sc k E X) (B : BlkX N sc scope own bvis bloc bgl) (hi : DI G E X tg iter fi) (hg : ∀ X', XC G N bvis bloc bgl (relS scope sc) k E0D X' → DG G X' tg g ix) (ht : ∀ X', XC G N bvis bloc bgl (relS scope sc) k E0D X' → DTo G E0D X' ifs ft)
    (he : ∀ X', XC G N bvis bloc bgl (relS scope sc) k E0D X' → DE G E0D X' elt fe) (hix : (ix.all fun i => (own.map (·.2)).contains i) = true := by decide) (hs : ∀ x, foldedSetIterable iter X.env x = pure x := by intro _; rfl) :
    DE G E X (.ListComp elt [⟨tg, iter, ifs, 0⟩] scope pos) (eLc fi g ft fe (own.map (·.2))) := by
  have hx : ∀ i, i ∈ ix → i ∈ own.map (·.2) := fun i h => by
    rw [List.all_eq_true] at hix
    simpa using hix i h
  exact PE.weak (pe_lc hX.calm (by rw [hX.hN]; exact hX.nd) hi (by rw [hX.hN, hX.hsc]; exact B.ok) (fun s H C cl fp => hg _ (hX.blk B s H C cl fp)) (fun s H C cl fp => ht _ (hX.blk B s H C cl fp)) (fun s H C cl fp => he _ (hX.blk B s H C cl fp)) hs) fun σ H Q q => tE_lc hX hx q
/-- .. as a list that may be changed -/
theorem de_lcC (hX : XC G N vis loc gl sc k E X) (B : BlkX N sc scope own bvis bloc bgl) (hi : DI G E X tg iter fi) (hg : ∀ X', XC G N bvis bloc bgl (relS scope sc) k E0D X' → DG G X' tg g ix) (ht : ∀ X', XC G N bvis bloc bgl (relS scope sc) k E0D X' → DTo G E0D X' ifs ft)
    (he : ∀ X', XC G N bvis bloc bgl (relS scope sc) k E0D X' → DE G E0D X' elt fe) (hix : (ix.all fun i => (own.map (·.2)).contains i) = true := by decide) (hs : ∀ x, foldedSetIterable iter X.env x = pure x := by intro _; rfl) :
    DE G E X (.ListComp elt [⟨tg, iter, ifs, 0⟩] scope pos) (eLcC fi g ft fe (own.map (·.2))) := by
  have hx : ∀ i, i ∈ ix → i ∈ own.map (·.2) := fun i h => by
    rw [List.all_eq_true] at hix
    simpa using hix i h
  exact PE.weak (pe_lc hX.calm (by rw [hX.hN]; exact hX.nd) hi (by rw [hX.hN, hX.hsc]; exact B.ok) (fun s H C cl fp => hg _ (hX.blk B s H C cl fp)) (fun s H C cl fp => ht _ (hX.blk B s H C cl fp)) (fun s H C cl fp => he _ (hX.blk B s H C cl fp)) hs) fun σ H Q q => tE_lcC hX hx q
theorem sw_of {y : Str} {py spos : Pos} (hX : XC G N vis loc gl sc k E X) (hk : sc.kind = .function) (hy : sc.names.lookup y = some .local) (hl : (py.line == pos.line) = true) (ha : (scope.names.any fun (n, k) => n == y && (k == .local || k == .cell)) = false) :
    swapsWith (.ListComp elt [⟨tg, iter, ifs, 0⟩] scope pos) (some (.Name y py)) spos.line X.env = pure true := sw_true (by rw [hX.hsc]; exact hk) (by rw [hX.hsc]; exact hy) hl ha
/-- name = [..] on one line -/
theorem ds_setLc (hX : XC G N vis loc gl sc k E X) (i : Nat) {y : Str} {py spos : Pos} (hk : sc.kind = .function) (hy : sc.names.lookup y = some .local) (B : BlkX N sc scope own bvis bloc bgl) (hi : DI G E X tg iter fi) (hg : ∀ X', XC G N bvis bloc bgl (relS scope sc) k E0D X' → DG G X' tg g ix) (ht : ∀ X', XC G N bvis bloc bgl (relS scope sc) k E0D X' → DTo G E0D X' ifs ft)
    (he : ∀ X', XC G N bvis bloc bgl (relS scope sc) k E0D X' → DE G E0D X' elt fe) (hN : N[i]? = some y := by rfl) (hix : (ix.all fun i => (own.map (·.2)).contains i) = true := by decide) (hl : (py.line == pos.line) = true := by rfl) (ha : (scope.names.any fun (n, k) => n == y && (k == .local || k == .cell)) = false := by decide +kernel) (hs : ∀ x, foldedSetIterable iter X.env x = pure x := by intro _; rfl) :
    DS G E X (.Assign [.Name y py] (.ListComp elt [⟨tg, iter, ifs, 0⟩] scope pos) spos) (sSet i (eLc fi g ft fe (own.map (·.2)))) := by
  have hx : ∀ i, i ∈ ix → i ∈ own.map (·.2) := fun i h => by
    rw [List.all_eq_true] at hix
    simpa using hix i h
  refine PS.weak (ps_setLc hX.calm (by rw [hX.hN]; exact hX.nd) (by rw [hX.hN]; exact hN) (by rw [hX.hsc]; exact hy) (sw_of hX hk hy hl ha) hi (by rw [hX.hN, hX.hsc]; exact B.ok) (fun s H C cl fp => hg _ (hX.blk B s H C cl fp)) (fun s H C cl fp => ht _ (hX.blk B s H C cl fp)) (fun s H C cl fp => he _ (hX.blk B s H C cl fp)) hs) fun D σ H ⟨ρ, m, H0, as, c, s, q⟩ => ?_
  exact tE_lc hX hx ⟨ρ, m, H0, as, c, s, (Req.bind q).mono fun w m1 H0' as' H' f1 c1 q1 v rv => q1.ok c1 _ ((s.mono f1).set i rv)⟩
theorem ds_setLcC (hX : XC G N vis loc gl sc k E X) (i : Nat) {y : Str} {py spos : Pos} (hk : sc.kind = .function) (hy : sc.names.lookup y = some .local) (B : BlkX N sc scope own bvis bloc bgl) (hi : DI G E X tg iter fi) (hg : ∀ X', XC G N bvis bloc bgl (relS scope sc) k E0D X' → DG G X' tg g ix) (ht : ∀ X', XC G N bvis bloc bgl (relS scope sc) k E0D X' → DTo G E0D X' ifs ft)
    (he : ∀ X', XC G N bvis bloc bgl (relS scope sc) k E0D X' → DE G E0D X' elt fe) (hN : N[i]? = some y := by rfl) (hix : (ix.all fun i => (own.map (·.2)).contains i) = true := by decide) (hl : (py.line == pos.line) = true := by rfl) (ha : (scope.names.any fun (n, k) => n == y && (k == .local || k == .cell)) = false := by decide +kernel) (hs : ∀ x, foldedSetIterable iter X.env x = pure x := by intro _; rfl) :
    DS G E X (.Assign [.Name y py] (.ListComp elt [⟨tg, iter, ifs, 0⟩] scope pos) spos) (sSet i (eLcC fi g ft fe (own.map (·.2)))) := by
  have hx : ∀ i, i ∈ ix → i ∈ own.map (·.2) := fun i h => by
    rw [List.all_eq_true] at hix
    simpa using hix i h
  refine PS.weak (ps_setLc hX.calm (by rw [hX.hN]; exact hX.nd) (by rw [hX.hN]; exact hN) (by rw [hX.hsc]; exact hy) (sw_of hX hk hy hl ha) hi (by rw [hX.hN, hX.hsc]; exact B.ok) (fun s H C cl fp => hg _ (hX.blk B s H C cl fp)) (fun s H C cl fp => ht _ (hX.blk B s H C cl fp)) (fun s H C cl fp => he _ (hX.blk B s H C cl fp)) hs) fun D σ H ⟨ρ, m, H0, as, c, s, q⟩ => ?_
  exact tE_lcC hX hx ⟨ρ, m, H0, as, c, s, (Req.bind q).mono fun w m1 H0' as' H' f1 c1 q1 v rv => q1.ok c1 _ ((s.mono f1).set i rv)⟩
end
end FD
end
section
set_option Elab.async false
set_option linter.all false
set_option maxRecDepth 100000
set_option autoImplicit false
namespace FD
open PySem PySem.Spec PyProof.Rows L2

/-! ### and, or, not, a if t else b, a op b op c -/
def tAndD (t u : TF) : TF := fun ρ m => (t ρ m).bind fun b m1 => if b = true then u ρ m1 else .ok false m1
def tOrD (t u : TF) : TF := fun ρ m => (t ρ m).bind fun b m1 => if b = true then .ok true m1 else u ρ m1
def tNotD (t : TF) : TF := fun ρ m => (t ρ m).bind fun b m1 => .ok (!b) m1
def eAnd (f g : EF) : EF := fun ρ m => (f ρ m).bind fun w m1 => match w with
  | .val (.bl b) => if b = true then g ρ m1 else .ok (.val (.bl false)) m1
  | _ => .bad
def eOr (f g : EF) : EF := fun ρ m => (f ρ m).bind fun w m1 => match w with
  | .val (.bl b) => if b = true then .ok (.val (.bl true)) m1 else g ρ m1
  | _ => .bad
def eNot (f : EF) : EF := fun ρ m => (f ρ m).bind fun w m1 => match w with
  | .val (.bl b) => .ok (.val (.bl (!b))) m1
  | _ => .bad
def eIf (t : TF) (f g : EF) : EF := fun ρ m => (t ρ m).bind fun b m1 => if b = true then f ρ m1 else g ρ m1
def eChain (h h' : W → W → Cells → R W) (f g l : EF) : EF := fun ρ m => (f ρ m).bind fun w m1 => (g ρ m1).bind fun u m2 => (h w u m2).bind fun z m3 => match z with
  | .val (.bl b) => if b = true then (l ρ m3).bind fun x m4 => h' u x m4 else .ok (.val (.bl false)) m3
  | _ => .bad
section
variable {G : Gc} {E : XK} {X : Cx} {N vis loc gl : List Str} {sc : Scope} {k : Nat} {a b c : Expr} {rest : List Expr} {f g l : EF} {t u : TF} {pos : Pos}
theorem dw_pt (h : DW G E X a t) : DT G E X a t := PW.pt h
theorem dw_and1 (h : DT G E X a t) : DW G E X (.BoolOp .And [a] pos) t := pw_and1 h
theorem dw_or1 (h : DT G E X a t) : DW G E X (.BoolOp .Or [a] pos) t := pw_or1 h
theorem dw_and (ha : DT G E X a t) (hb : DW G E X (.BoolOp .And (b :: rest) pos) u) : DW G E X (.BoolOp .And (a :: b :: rest) pos) (tAndD t u) := by
  refine PW.weak (pw_and ha hb) fun σ H Q ⟨ρ, m, H0, as, c, s, q⟩ => ⟨ρ, m, H0, as, c, s, (Req.bind q).mono fun b m1 H0' as' H' f1 c1 q1 => ?_⟩
  cases b with
  | true => exact iteT ⟨ρ, m1, H0', as', c1, s.mono f1, q1⟩
  | false => exact iteF (q1.ok c1)
theorem dw_or (ha : DT G E X a t) (hb : DW G E X (.BoolOp .Or (b :: rest) pos) u) : DW G E X (.BoolOp .Or (a :: b :: rest) pos) (tOrD t u) := by
  refine PW.weak (pw_or ha hb) fun σ H Q ⟨ρ, m, H0, as, c, s, q⟩ => ⟨ρ, m, H0, as, c, s, (Req.bind q).mono fun b m1 H0' as' H' f1 c1 q1 => ?_⟩
  cases b with
  | true => exact iteT (q1.ok c1)
  | false => exact iteF ⟨ρ, m1, H0', as', c1, s.mono f1, q1⟩
theorem dt_not (ha : DT G E X a t) : DT G E X (.UnaryOp .Not a pos) (tNotD t) := by
  exact PT.weak (pt_not ha) fun σ H Q ⟨ρ, m, H0, as, c, s, q⟩ => ⟨ρ, m, H0, as, c, s, (Req.bind q).mono fun b m1 H0' as' H' f1 c1 q1 => q1.ok c1⟩
theorem de_one {op : BoolOp} (h : DE G E X a f) : DE G E X (.BoolOp op [a] pos) f := pe_one h
theorem de_and (ha : DE G E X a f) (hb : DE G E X (.BoolOp .And (b :: rest) pos) g) : DE G E X (.BoolOp .And (a :: b :: rest) pos) (eAnd f g) := by
  refine PE.weak (pe_and ha hb) fun σ H Q ⟨ρ, m, H0, as, c, s, q⟩ => ⟨ρ, m, H0, as, c, s, (Req.bind q).mono fun w m1 H0' as' H' f1 c1 q1 x rx => ?_⟩
  split at q1
  · rename_i b
    cases (show Rp G.K G.mg H0' x (.bl _) from rx)
    refine ⟨_, rfl, ?_⟩
    cases b with
    | true => exact iteT ⟨ρ, m1, H0', as', c1, s.mono f1, q1⟩
    | false => exact iteF (q1.ok c1 _ .bl)
  · exact q1.elim
theorem de_or (ha : DE G E X a f) (hb : DE G E X (.BoolOp .Or (b :: rest) pos) g) : DE G E X (.BoolOp .Or (a :: b :: rest) pos) (eOr f g) := by
  refine PE.weak (pe_or ha hb) fun σ H Q ⟨ρ, m, H0, as, c, s, q⟩ => ⟨ρ, m, H0, as, c, s, (Req.bind q).mono fun w m1 H0' as' H' f1 c1 q1 x rx => ?_⟩
  split at q1
  · rename_i b
    cases (show Rp G.K G.mg H0' x (.bl _) from rx)
    refine ⟨_, rfl, ?_⟩
    cases b with
    | true => exact iteT (q1.ok c1 _ .bl)
    | false => exact iteF ⟨ρ, m1, H0', as', c1, s.mono f1, q1⟩
  · exact q1.elim
theorem de_not (ha : DE G E X a f) : DE G E X (.UnaryOp .Not a pos) (eNot f) := by
  refine PE.weak (pe_not ha) fun σ H Q ⟨ρ, m, H0, as, c, s, q⟩ => ⟨ρ, m, H0, as, c, s, (Req.bind q).mono fun w m1 H0' as' H' f1 c1 q1 x rx => ?_⟩
  split at q1
  · cases (show Rp G.K G.mg H0' x (.bl _) from rx)
    exact ⟨_, rfl, q1.ok c1 _ .bl⟩
  · exact q1.elim
theorem de_if (hc : DT G E X c t) (ha : DE G E X a f) (hb : DE G E X b g) : DE G E X (.IfExp c a b pos) (eIf t f g) := by
  refine PE.weak (pe_ifExp hc ha hb) fun σ H Q ⟨ρ, m, H0, as, c, s, q⟩ => ⟨ρ, m, H0, as, c, s, (Req.bind q).mono fun b m1 H0' as' H' f1 c1 q1 => ?_⟩
  cases b with
  | true => exact iteT ⟨ρ, m1, H0', as', c1, s.mono f1, q1⟩
  | false => exact iteF ⟨ρ, m1, H0', as', c1, s.mono f1, q1⟩
theorem tE_chain {h h' : W → W → Cells → R W} {σ : L2.St} {H : Hp} {Q : VK} (q : tE G E (eChain h h' f g l) σ H Q) : tChain (r2 G E h) (r2 G E h') (tE G E f) (tE G E g) (tE G E l) σ H Q := by
  obtain ⟨ρ, m, H0, as, c, s, q⟩ := q
  refine ⟨ρ, m, H0, as, c, s, (Req.bind q).mono fun w m1 H0' as' H' f1 c1 q1 x rx => ⟨ρ, m1, H0', as', c1, s.mono f1, (Req.bind q1).mono fun u m2 H2 as2 H2' f2 c2 q2 y ry =>
    ⟨w, u, m2, H2, as2, c2, rx.mono f2, ry, (Req.bind q2).mono fun z m3 H3 as3 H3' f3 c3 q3 v rv => ?_⟩⟩⟩
  split at q3
  · rename_i b
    cases (show Rp G.K G.mg H3 v (.bl _) from rv)
    refine ⟨_, rfl, ?_⟩
    cases b with
    | true => exact iteT ⟨ρ, m3, H3, as3, c3, ((s.mono f1).mono f2).mono f3, (Req.bind q3).mono fun x m4 H4 as4 H4' f4 c4 q4 xx rxx => ⟨u, x, m4, H4, as4, c4, (ry.mono f3).mono f4, rxx, q4⟩⟩
    | false => exact iteF (q3.ok c3 _ .bl)
  · exact q3.elim
theorem de_chain {op op' : CmpOp} {h h' : W → W → Cells → R W} (o : OpR X (compareOp op) (r2 G E h)) (o' : OpR X (compareOp op') (r2 G E h')) (ha : DE G E X a f) (hb : DE G E X b g) (hc : DE G E X c l)
    (hm : lastMarks [op, op'] [b, c] = false := by with_unfolding_all rfl) : DE G E X (.Compare a [op, op'] [b, c] pos) (eChain h h' f g l) := PE.weak (pe_chain o o' ha hb hc hm) fun σ H Q q => tE_chain q
theorem dt_chain {op op' : CmpOp} {h h' : W → W → Cells → R W} (o : OpR X (compareOp op) (r2 G E h)) (o' : OpR X (compareOp op') (r2 G E h')) (ha : DE G E X a f) (hb : DE G E X b g) (hc : DE G E X c l)
    (hm : lastMarks [op, op'] [b, c] = false := by with_unfolding_all rfl) : DT G E X (.Compare a [op, op'] [b, c] pos) (tB (eChain h h' f g l)) := PT.weak (pt_chain o o' ha hb hc hm) fun σ H Q q => tE_chain (tE_B q)

/-! ### a, b = x, y -/
theorem env_scope {env : Env} {sc : Scope} (h : env.scope = sc) : env = { env with scope := sc } := by
  subst h; rfl
theorem sets2 {G : Gc} {H0 : Hp} {as : List Addr} {σ : L2.St} {ρ : List (Option W)} (s : Slo G H0 as σ ρ) (i j : Nat) {v1 v2 : V} {w1 w2 : W} (h1 : RpW G H0 as v1 w1) (h2 : RpW G H0 as v2 w2) : Slo G H0 as ((σ.set i (some v1)).set j (some v2)) ((ρ.set i (some w1)).set j (some w2)) := (s.set i h1).set j h2
theorem ds_par (hX : XC G N vis loc gl sc k E X) (i j : Nat) {x y : Str} {px py pt pv : Pos} {kt kv : Nat} {t : AF} (ha : DA G E X [a, b] t) (hi : N[i]? = some x := by rfl) (hj : N[j]? = some y := by rfl) (hij : i ≠ j := by decide)
    (hx : sc.names.lookup x = some .local := by rfl) (hy : sc.names.lookup y = some .local := by rfl)
    (hw : ∀ env : Env, swappedStores [.Tuple [.Name x px, .Name y py] kt pt] (.Tuple [a, b] kv pv) { env with scope := sc } = pure (some [x, y]) := by intro _; rfl)
    (hs : swapsWithSole [.Tuple [.Name x px, .Name y py] kt pt] (.Tuple [a, b] kv pv) pos.line X.env = pure false := by rfl) :
    DS G E X (.Assign [.Tuple [.Name x px, .Name y py] kt pt] (.Tuple [a, b] kv pv) pos) (sPar i j t) := by
  refine PS.weak (ps_par (i := i) (j := j) hX.calm (by rw [hX.hN]; exact hX.nd) (by rw [hX.hN]; exact hi) (by rw [hX.hN]; exact hj) hij (by rw [hX.hsc]; exact hx) (by rw [hX.hsc]; exact hy) ha (by rw [env_scope hX.hsc]; exact hw _) hs)
    fun D σ H ⟨ρ, m, H0, as, c, s, q⟩ => ⟨ρ, m, H0, as, c, s, (Req.bind q).mono fun ws m1 H0' as' H' f1 c1 q1 vs rvs => ?_⟩
  split at q1
  · cases rvs with
    | cons r1 rr =>
      cases rr with
      | cons r2 rr =>
        cases rr
        exact ⟨_, _, rfl, q1.ok c1 _ (sets2 (s.mono f1) i j r1 r2)⟩
  · exact q1.elim
/-- a, b, c = x, y, z -/
def sPar3 (i j l : Nat) (t : AF) : SF := fun ρ m => (t ρ m).bind fun ws m1 => match ws with
  | [w, u, v] => .ok (.next (((ρ.set i (some w)).set j (some u)).set l (some v))) m1
  | _ => .bad
theorem ds_par3 (hX : XC G N vis loc gl sc k E X) (i j l : Nat) {c : Expr} {x y z : Str} {px py pz pt pv : Pos} {kt kv : Nat} {t : AF} (ha : DA G E X [a, b, c] t) (hi : N[i]? = some x := by rfl) (hj : N[j]? = some y := by rfl) (hl : N[l]? = some z := by rfl) (hij : i ≠ j := by decide) (hil : i ≠ l := by decide) (hjl : j ≠ l := by decide)
    (hx : sc.names.lookup x = some .local := by rfl) (hy : sc.names.lookup y = some .local := by rfl) (hz : sc.names.lookup z = some .local := by rfl)
    (hw : ∀ env : Env, swappedStores [.Tuple [.Name x px, .Name y py, .Name z pz] kt pt] (.Tuple [a, b, c] kv pv) { env with scope := sc } = pure (some [x, y, z]) := by intro _; rfl)
    (hs : swapsWithSole [.Tuple [.Name x px, .Name y py, .Name z pz] kt pt] (.Tuple [a, b, c] kv pv) pos.line X.env = pure false := by rfl) :
    DS G E X (.Assign [.Tuple [.Name x px, .Name y py, .Name z pz] kt pt] (.Tuple [a, b, c] kv pv) pos) (sPar3 i j l t) := by
  refine PS.weak (ps_par3 (i := i) (j := j) (l := l) hX.calm (by rw [hX.hN]; exact hX.nd) (by rw [hX.hN]; exact hi) (by rw [hX.hN]; exact hj) (by rw [hX.hN]; exact hl) hij hil hjl (by rw [hX.hsc]; exact hx) (by rw [hX.hsc]; exact hy) (by rw [hX.hsc]; exact hz) ha (by rw [env_scope hX.hsc]; exact hw _) hs)
    fun D σ H ⟨ρ, m, H0, as, c, s, q⟩ => ⟨ρ, m, H0, as, c, s, (Req.bind q).mono fun ws m1 H0' as' H' f1 c1 q1 vs rvs => ?_⟩
  split at q1
  · cases rvs with
    | cons r1 rr =>
      cases rr with
      | cons r2 rr =>
        cases rr with
        | cons r3 rr =>
          cases rr
          exact ⟨_, _, _, rfl, q1.ok c1 _ ((sets2 (s.mono f1) i j r1 r2).set l r3)⟩
  · exact q1.elim

/-! ### a, b, .. = a list -/
def gU (n : Nat) (r : GsF) : GF := fun w ρ => match w with
  | .val (.lst ds) => if ds.length = n then r ds ρ else none
  | .val (.scr ds) => if ds.length = n then r ds ρ else none
  | _ => none
theorem dg_unl (hX : XC G N vis loc gl sc k E X) {es : List Expr} {x1 : Nat} {r : GsF} {n : Nat} {ix : List Nat} (h : DGs G X es r ix) (hn : (assignEach es X.env).length = n := by rfl) (hst : (assignEach es X.env).findIdx? (·.1) = none := by rfl) : DG G X (.Tuple es x1 pos) (gU n r) ix := by
  have eG := hX.gc
  subst eG
  refine PG.weak (pg_unl hX.calm h hn hst) fun v σ H Q ⟨w, ρ, H0, as, ρ', s, sm, rr, eg, q⟩ => ?_
  unfold gU at eg
  split at eg
  · split at eg
    · cases (show Rp X.K X.mg H0 v (.lst _) from rr) with
      | lst h1 h2 => exact ⟨_, _, rfl, SqL.of (sm _ _ h1), by rw [h2.length]; assumption, _, ρ, H0, as, ρ', s, sm, h2, eg, q⟩
    · cases eg
  · split at eg
    · cases (show Rp X.K X.mg H0 v (.scr _) from rr) with
      | scr h1 h2 => exact ⟨_, _, rfl, sm.seq h1, by rw [h2.length]; assumption, _, ρ, H0, as, ρ', s, sm, h2, eg, q⟩
    · cases eg
  · cases eg
end
end FD
end
section
set_option Elab.async false
set_option linter.all false
set_option maxRecDepth 100000
set_option autoImplicit false
namespace FD
open PySem PySem.Spec PyProof.Rows L2

/-! ### built-in functions -/
abbrev BF := List W → Cells → R W
def eB (h : BF) (t : AF) : EF := fun ρ m => (t ρ m).bind h
def oneD (h : D → Cells → R W) : BF := fun ws m => match ws with
  | [.val d] => h d m
  | _ => .bad
def lenD : BF := fun ws m => match ws with
  | [.val (.lst xs)] => .ok (.val (.int (xs.length : Nat))) m
  | [.val (.scr xs)] => .ok (.val (.int (xs.length : Nat))) m
  | [.val (.tup xs)] => .ok (.val (.int (xs.length : Nat))) m
  | [.val (.str z)] => if z.length ≤ sizeLine then .ok (.val (.int (z.length : Nat))) m else .bad
  | [.ref k] => (match m[k]? with
    | some (some (.lst xs)) => .ok (.val (.int (xs.length : Nat))) m
    | _ => .bad)
  | _ => .bad
def absD : BF := oneD fun d m => match d with
  | .int i => .ok (.val (.int (if i < 0 then -i else i))) m
  | _ => .bad
def intTyD : BF := oneD fun d m => match d with
  | .int i => .ok (.val (.int i)) m
  | .bl k => .ok (.val (.int (if k then 1 else 0))) m
  | _ => .bad
def allInt : List D → Option (List Int)
  | [] => some []
  | .int i :: r => (allInt r).map (i :: ·)
  | _ => none
def allBl : List D → Option (List Bool)
  | [] => some []
  | .bl i :: r => (allBl r).map (i :: ·)
  | _ => none
def maxI : List Int → Int
  | [] => 0
  | [i] => i
  | i :: r => if maxI r > i then maxI r else i
def minI : List Int → Int
  | [] => 0
  | [i] => i
  | i :: r => if minI r < i then minI r else i
def maxD : BF := fun ws m => match ws with
  | [.val (.int i), .val (.int j)] => .ok (.val (.int (if j > i then j else i))) m
  | [.val (.lst ds)] => (match allInt ds with
    | some (i :: r) => .ok (.val (.int (maxI (i :: r)))) m
    | _ => .bad)
  | _ => .bad
def minD : BF := fun ws m => match ws with
  | [.val (.int i), .val (.int j)] => .ok (.val (.int (if j < i then j else i))) m
  | [.val (.lst ds)] => (match allInt ds with
    | some (i :: r) => .ok (.val (.int (minI (i :: r)))) m
    | _ => .bad)
  | _ => .bad
def sumD : BF := oneD fun d m => match d with
  | .lst ds => (match allInt ds with
    | some ns => .ok (.val (.int ns.sum)) m
    | none => .bad)
  | _ => .bad
def allD : BF := oneD fun d m => match d with
  | .lst ds => (match allBl ds with
    | some ns => .ok (.val (.bl (ns.all id))) m
    | none => .bad)
  | _ => .bad
def anyD : BF := oneD fun d m => match d with
  | .lst ds => (match allBl ds with
    | some ns => .ok (.val (.bl (ns.any id))) m
    | none => .bad)
  | _ => .bad
def sortI (ns : List Int) : List Int := ns.mergeSort fun a b => decide (a ≤ b)
def sortedD : BF := oneD fun d m => match d with
  | .lst ds => (match allInt ds with
    | some ns => .ok (.val (.lst ((sortI ns).map D.int))) m
    | none => .bad)
  | _ => .bad
/-- list(x): a new list, as data -/
def listD : BF := fun ws m => match ws with
  | [.val (.lst xs)] => .ok (.val (.lst xs)) m
  | [.val (.scr xs)] => .ok (.val (.lst xs)) m
  | [.val (.tup xs)] => .ok (.val (.lst xs)) m
  | [.ref k] => (match m[k]? with
    | some (some (.lst xs)) => .ok (.val (.lst xs)) m
    | _ => .bad)
  | _ => .bad
/-- .. as a list that may be changed -/
def listCD : BF := fun ws m => match ws with
  | [.val (.lst xs)] => .ok (.ref m.length) (m ++ [some (.lst xs)])
  | [.val (.scr xs)] => .ok (.ref m.length) (m ++ [some (.lst xs)])
  | [.val (.tup xs)] => .ok (.ref m.length) (m ++ [some (.lst xs)])
  | [.ref k] => (match m[k]? with
    | some (some (.lst xs)) => .ok (.ref m.length) (m ++ [some (.lst xs)])
    | _ => .bad)
  | _ => .bad
def tupleD : BF := fun ws m => match ws with
  | [.val (.lst xs)] => .ok (.val (.tup xs)) m
  | [.val (.scr xs)] => .ok (.val (.tup xs)) m
  | [.val (.tup xs)] => .ok (.val (.tup xs)) m
  | [.ref k] => (match m[k]? with
    | some (some (.lst xs)) => .ok (.val (.tup xs)) m
    | _ => .bad)
  | _ => .bad

section
variable {K : PySem.W.Frag} {mg : Str → Option Value} {H : Hp}
theorem allInt_rps : ∀ {vs : List V} {ds : List D} {ns : List Int}, Rps K mg H vs ds → allInt ds = some ns → vs = ns.map V.int
  | _, _, _, .nil, e => by cases e; rfl
  | _, _, _, .cons (d := d) (ds := ds) h r, e => by
    cases d with
    | int i =>
      cases h
      unfold allInt at e
      cases q : allInt ds with
      | none => rw [q] at e; cases e
      | some ns =>
        rw [q] at e
        cases e
        rw [allInt_rps r q]; rfl
    | _ => cases e
theorem allBl_rps : ∀ {vs : List V} {ds : List D} {ns : List Bool}, Rps K mg H vs ds → allBl ds = some ns → vs = ns.map V.bl
  | _, _, _, .nil, e => by cases e; rfl
  | _, _, _, .cons (d := d) (ds := ds) h r, e => by
    cases d with
    | bl i =>
      cases h
      unfold allBl at e
      cases q : allBl ds with
      | none => rw [q] at e; cases e
      | some ns =>
        rw [q] at e
        cases e
        rw [allBl_rps r q]; rfl
    | _ => cases e
theorem rps_ints : ∀ ns : List Int, Rps K mg H (ns.map V.int) (ns.map D.int)
  | [] => .nil
  | _ :: r => .cons .int (rps_ints r)
end
theorem maxI_mem : ∀ (i : Int) (r : List Int), maxI (i :: r) ∈ i :: r ∧ ∀ y, y ∈ i :: r → y ≤ maxI (i :: r)
  | i, [] => by simp [maxI]
  | i, j :: r => by
    obtain ⟨h1, h2⟩ := maxI_mem j r
    have e : maxI (i :: j :: r) = if maxI (j :: r) > i then maxI (j :: r) else i := rfl
    rw [e]
    split
    · refine ⟨List.mem_cons_of_mem _ h1, fun y hy => ?_⟩
      rcases List.mem_cons.mp hy with q | q
      · omega
      · exact h2 y q
    · refine ⟨List.mem_cons_self, fun y hy => ?_⟩
      rcases List.mem_cons.mp hy with q | q
      · omega
      · have := h2 y q; omega
theorem minI_mem : ∀ (i : Int) (r : List Int), minI (i :: r) ∈ i :: r ∧ ∀ y, y ∈ i :: r → minI (i :: r) ≤ y
  | i, [] => by simp [minI]
  | i, j :: r => by
    obtain ⟨h1, h2⟩ := minI_mem j r
    have e : minI (i :: j :: r) = if minI (j :: r) < i then minI (j :: r) else i := rfl
    rw [e]
    split
    · refine ⟨List.mem_cons_of_mem _ h1, fun y hy => ?_⟩
      rcases List.mem_cons.mp hy with q | q
      · omega
      · exact h2 y q
    · refine ⟨List.mem_cons_self, fun y hy => ?_⟩
      rcases List.mem_cons.mp hy with q | q
      · omega
      · have := h2 y q; omega
theorem sorted_unique : ∀ {xs ys : List Int}, xs.Perm ys → xs.Pairwise (· ≤ ·) → ys.Pairwise (· ≤ ·) → xs = ys := fun h1 h2 h3 =>
  h1.eq_of_pairwise (fun a b _ _ h h' => Int.le_antisymm h h') h2 h3
theorem sortI_perm (ns : List Int) : (sortI ns).Perm ns := List.mergeSort_perm ..
theorem sortI_sorted (ns : List Int) : (sortI ns).Pairwise (· ≤ ·) := by
  have h := List.pairwise_mergeSort (le := fun a b : Int => decide (a ≤ b)) (fun a b c h1 h2 => by simp at *; omega) (fun a b => by simp; omega) ns
  exact h.imp fun h => by simpa using h
section
variable {G : Gc} {E : XK} {X : Cx} {N vis loc gl : List Str} {sc : Scope} {k : Nat} {e : Expr} {es : List Expr} {f g : EF} {t : AF} {pos p : Pos}
theorem de_cb (hX : XC G N vis loc gl sc k E X) {x : Str} {id : String} {h : BF} (i : Nat) (hc : CallR X (.builtin id) (rN G E h)) (hm : G.mg x = none) (ha : DA G E X (e :: es) t) (hi : gl[i]? = some x := by rfl) (hv : bootBuiltins x = some (.builtin id) := by decide +kernel) (hn : x ≠ "__name__" := by decide) (hdb : (x == ("__debug__" : Str)) = false := by decide)
    (he : starEach (e :: es) X.env = (false, eval e X.env) :: starEach es X.env := by rfl) (hpl : (backTo pos (starEach es X.env)).any (·.1) = false := by rfl) : DE G E X (.Call (.Name x p) (e :: es) [] pos) (eB h t) :=
  PE.weak (pe_callB hc (hX.hgl x (List.mem_of_getElem? hi)) (by rw [hX.hmg]; exact hm) hv ha hn hdb he hpl) fun σ H Q q => tA_N q
theorem de_ct (hX : XC G N vis loc gl sc k E X) {x : Str} {id : String} {h : BF} (i : Nat) (hc : CallR X (.type id) (rN G E h)) (hm : G.mg x = none) (ha : DA G E X (e :: es) t) (hi : gl[i]? = some x := by rfl) (hv : bootBuiltins x = some (.type id) := by decide +kernel) (hn : x ≠ "__name__" := by decide) (hdb : (x == ("__debug__" : Str)) = false := by decide)
    (he : starEach (e :: es) X.env = (false, eval e X.env) :: starEach es X.env := by rfl) (hpl : (backTo pos (starEach es X.env)).any (·.1) = false := by rfl) : DE G E X (.Call (.Name x p) (e :: es) [] pos) (eB h t) :=
  PE.weak (pe_callTy hc (hX.hgl x (List.mem_of_getElem? hi)) (by rw [hX.hmg]; exact hm) hv ha hn hdb he hpl) fun σ H Q q => tA_N q
/-- a name of the module that holds data -/
structure CstOk (G : Gc) (x : Str) (d : D) : Prop where
  ex : ∃ u v, G.mg x = some u ∧ RelV v u ∧ ∀ H, Rp G.K G.mg H v d
theorem de_cst (hX : XC G N vis loc gl sc k E X) {x : Str} {d : D} (i : Nat) (o : CstOk G x d) (hi : gl[i]? = some x := by rfl) (hdb : (x == ("__debug__" : Str)) = false := by decide) : DE G E X (.Name x pos) (eC d) := by
  obtain ⟨u, v, h1, h2, h3⟩ := o.ex
  exact PE.weak (pe_glob (hX.hgl x (List.mem_of_getElem? hi)) (by rw [hX.hmg]; exact h1) h2 hdb) fun σ H Q ⟨ρ, m, H0, as, c, s, q⟩ => q.ok c v (h3 _)
theorem lst_at {H0 H : Hp} {as : List Addr} {m : Cells} (c : Cel G H0 as H m) {k : Nat} {xs : List D} {x : V} (hk : m[k]? = some (some (.lst xs))) (r : RpW G H0 as x (.ref k)) : ∃ a vs, as[k]? = some a ∧ x = .ref a ∧ H0 a = none ∧ H a = some (.lst vs) ∧ Rps G.K G.mg H0 vs xs := by
  obtain ⟨a, e1, e2, vs, e3, e4⟩ := c.cell _ _ hk
  obtain ⟨b, e5, rfl⟩ := r
  rw [e1] at e5
  cases e5
  exact ⟨a, vs, e1, rfl, e2, e3, e4⟩
/-- a sequence as data -/
theorem cr_len (hX : XC G N vis loc gl sc k E X) : CallR X (.builtin "len") (rN G E lenD) := by
  have eG := hX.gc
  subst eG
  intro pins s σ H xs us Q I r ⟨ws, m, H0, as, c, rw_, q⟩
  unfold lenD at q
  split at q
  · cases rw_ with
    | cons h rr =>
      cases rr
      cases (show Rp X.K X.mg H0 _ (.lst _) from h) with
      | lst h1 h2 => exact call_len pins s σ H _ us Q I r ⟨_, _, rfl, .inl ⟨_, SqL.of (c.same _ _ h1), rfl⟩, by rw [h2.length]; exact q.ok c _ .int⟩
  · cases rw_ with
    | cons h rr =>
      cases rr
      cases (show Rp X.K X.mg H0 _ (.scr _) from h) with
      | scr h1 h2 => exact call_len pins s σ H _ us Q I r ⟨_, _, rfl, .inl ⟨_, c.same.seq h1, rfl⟩, by rw [h2.length]; exact q.ok c _ .int⟩
  · cases rw_ with
    | cons h rr =>
      cases rr
      cases (show Rp X.K X.mg H0 _ (.tup _) from h) with
      | tup h1 h2 => exact call_len pins s σ H _ us Q I r ⟨_, _, rfl, .inr ⟨_, sqT_same c.same h1, rfl⟩, by rw [h2.length]; exact q.ok c _ .int⟩
  · split at q
    · cases rw_ with
      | cons h rr =>
        cases rr
        cases (show Rp X.K X.mg H0 _ (.str _) from h)
        exact call_len pins s σ H _ us Q I r ⟨_, _, rfl, ⟨by assumption, rfl⟩, q.ok c _ .int⟩
    · exact q.elim
  · split at q
    · rename_i e
      cases rw_ with
      | cons h rr =>
        cases rr
        obtain ⟨a, vs, _, rfl, _, h3, h4⟩ := lst_at c e h
        exact call_len pins s σ H _ us Q I r ⟨_, _, rfl, .inl ⟨_, SqL.of h3, rfl⟩, by rw [h4.length]; exact q.ok c _ .int⟩
    · exact q.elim
  · exact q.elim
theorem one_rp {H0 : Hp} {as : List Addr} {xs : List V} {d : D} (r : RpWs G H0 as xs [.val d]) : ∃ x, xs = [x] ∧ Rp G.K G.mg H0 x d := by
  cases r with
  | cons h rr => cases rr; exact ⟨_, rfl, h⟩
theorem two_rp {H0 : Hp} {as : List Addr} {xs : List V} {d e : D} (r : RpWs G H0 as xs [.val d, .val e]) : ∃ x y, xs = [x, y] ∧ Rp G.K G.mg H0 x d ∧ Rp G.K G.mg H0 y e := by
  cases r with
  | cons h rr =>
    cases rr with
    | cons h2 rr => cases rr; exact ⟨_, _, rfl, h, h2⟩
theorem oneD_rp {h : D → Cells → R W} {H0 : Hp} {as : List Addr} {H : Hp} {m : Cells} {ws : List W} {xs : List V} {P : W → Cells → Hp → List Addr → Hp → Prop} (r : RpWs G H0 as xs ws) (q : Req G E H0 as H (oneD h ws m) P) : ∃ x d, xs = [x] ∧ Rp G.K G.mg H0 x d ∧ Req G E H0 as H (h d m) P := by
  unfold oneD at q
  split at q
  · obtain ⟨x, e, rx⟩ := one_rp r
    exact ⟨x, _, e, rx, q⟩
  · exact q.elim
theorem cr_absD : CallR X (.builtin "abs") (rN G E absD) := by
  intro pins s σ H xs us Q I r ⟨ws, m, H0, as, c, rw_, q⟩
  obtain ⟨x, d, rfl, rx, q⟩ := oneD_rp rw_ q
  split at q
  · cases rx
    exact call_abs pins s σ H _ us Q I r ⟨_, rfl, q.ok c _ .int⟩
  · exact q.elim
theorem cr_intD : CallR X (.type "int") (rN G E intTyD) := by
  intro pins s σ H xs us Q I r ⟨ws, m, H0, as, c, rw_, q⟩
  obtain ⟨x, d, rfl, rx, q⟩ := oneD_rp rw_ q
  split at q
  · cases rx
    exact call_int1 pins s σ H _ us Q I r (.inl ⟨_, rfl, q.ok c _ .int⟩)
  · cases rx
    exact call_int1 pins s σ H _ us Q I r (.inr ⟨_, rfl, q.ok c _ .int⟩)
  · exact q.elim
theorem cr_maxD (hX : XC G N vis loc gl sc k E X) : CallR X (.builtin "max") (rN G E maxD) := by
  have eG := hX.gc
  subst eG
  intro pins s σ H xs us Q I r ⟨ws, m, H0, as, c, rw_, q⟩
  unfold maxD at q
  split at q
  · obtain ⟨x, y, rfl, r1, r2⟩ := two_rp rw_
    cases r1
    cases r2
    exact call_max2 hX.calm pins s σ H _ us Q I r ⟨_, _, rfl, q.ok c _ .int⟩
  · obtain ⟨x, rfl, rx⟩ := one_rp rw_
    split at q
    · rename_i ds i ns e
      cases rx with
      | lst h1 h2 =>
        have ev := allInt_rps h2 e
        subst ev
        refine cr_max hX.calm pins s σ H _ us Q I r ⟨_, _, rfl, SqL.of (c.same _ _ h1), by simp, fun mx h3 h4 => ?_⟩
        obtain ⟨h5, h6⟩ := maxI_mem i ns
        have : mx = maxI (i :: ns) := Int.le_antisymm (h6 _ h3) (h4 _ h5)
        rw [this]
        exact q.ok c _ .int
    · exact q.elim
  · exact q.elim
theorem cr_minD (hX : XC G N vis loc gl sc k E X) : CallR X (.builtin "min") (rN G E minD) := by
  have eG := hX.gc
  subst eG
  intro pins s σ H xs us Q I r ⟨ws, m, H0, as, c, rw_, q⟩
  unfold minD at q
  split at q
  · obtain ⟨x, y, rfl, r1, r2⟩ := two_rp rw_
    cases r1
    cases r2
    exact call_min2 hX.calm pins s σ H _ us Q I r ⟨_, _, rfl, q.ok c _ .int⟩
  · obtain ⟨x, rfl, rx⟩ := one_rp rw_
    split at q
    · rename_i ds i ns e
      cases rx with
      | lst h1 h2 =>
        have ev := allInt_rps h2 e
        subst ev
        refine cr_min hX.calm pins s σ H _ us Q I r ⟨_, _, rfl, SqL.of (c.same _ _ h1), by simp, fun mx h3 h4 => ?_⟩
        obtain ⟨h5, h6⟩ := minI_mem i ns
        have : mx = minI (i :: ns) := Int.le_antisymm (h4 _ h5) (h6 _ h3)
        rw [this]
        exact q.ok c _ .int
    · exact q.elim
  · exact q.elim
theorem cr_sumD (hX : XC G N vis loc gl sc k E X) : CallR X (.builtin "sum") (rN G E sumD) := by
  have eG := hX.gc
  subst eG
  intro pins s σ H xs us Q I r ⟨ws, m, H0, as, c, rw_, q⟩
  obtain ⟨x, d, rfl, rx, q⟩ := oneD_rp rw_ q
  split at q
  · split at q
    · rename_i e
      cases rx with
      | lst h1 h2 =>
        have ev := allInt_rps h2 e
        subst ev
        exact cr_sum hX.calm pins s σ H _ us Q I r ⟨_, _, rfl, SqL.of (c.same _ _ h1), q.ok c _ .int⟩
    · exact q.elim
  · exact q.elim
theorem cr_allD (hX : XC G N vis loc gl sc k E X) : CallR X (.builtin "all") (rN G E allD) := by
  have eG := hX.gc
  subst eG
  intro pins s σ H xs us Q I r ⟨ws, m, H0, as, c, rw_, q⟩
  obtain ⟨x, d, rfl, rx, q⟩ := oneD_rp rw_ q
  split at q
  · split at q
    · rename_i e
      cases rx with
      | lst h1 h2 =>
        have ev := allBl_rps h2 e
        subst ev
        exact cr_all hX.calm pins s σ H _ us Q I r ⟨_, _, rfl, SqL.of (c.same _ _ h1), q.ok c _ .bl⟩
    · exact q.elim
  · exact q.elim
theorem cr_anyD (hX : XC G N vis loc gl sc k E X) : CallR X (.builtin "any") (rN G E anyD) := by
  have eG := hX.gc
  subst eG
  intro pins s σ H xs us Q I r ⟨ws, m, H0, as, c, rw_, q⟩
  obtain ⟨x, d, rfl, rx, q⟩ := oneD_rp rw_ q
  split at q
  · split at q
    · rename_i e
      cases rx with
      | lst h1 h2 =>
        have ev := allBl_rps h2 e
        subst ev
        exact cr_any hX.calm pins s σ H _ us Q I r ⟨_, _, rfl, SqL.of (c.same _ _ h1), q.ok c _ .bl⟩
    · exact q.elim
  · exact q.elim
theorem cr_sortedD (hX : XC G N vis loc gl sc k E X) : CallR X (.builtin "sorted") (rN G E sortedD) := by
  have eG := hX.gc
  subst eG
  intro pins s σ H xs us Q I r ⟨ws, m, H0, as, c, rw_, q⟩
  obtain ⟨x, d, rfl, rx, q⟩ := oneD_rp rw_ q
  split at q
  · split at q
    · rename_i ns e
      cases rx with
      | lst h1 h2 =>
        have ev := allInt_rps h2 e
        subst ev
        refine cr_sortedI pins s σ H _ us Q I r ⟨_, _, rfl, SqL.of (c.same _ _ h1), fun ns' p h3 h4 hp => ?_⟩
        have : ns' = sortI ns := sorted_unique (h3.trans (sortI_perm ns).symm) h4 (sortI_sorted ns)
        subst this
        obtain ⟨f2, c2⟩ := newV c hp (.lst ((sortI ns).map V.int))
        exact q _ _ _ f2 c2 _ (.lst upd_same (rps_ints _))
    · exact q.elim
  · exact q.elim
end
end FD
end
section
set_option Elab.async false
set_option linter.all false
set_option maxRecDepth 100000
set_option autoImplicit false
namespace FD
open PySem PySem.Spec PyProof.Rows L2

section
variable {G : Gc} {E : XK} {X : Cx} {N vis loc gl : List Str} {sc : Scope} {k : Nat} {e o a b : Expr} {es : List Expr} {f g fo fe : EF} {t : AF} {pos p apos cpos : Pos}
/-! ### list(x), tuple(x) -/
theorem cr_listD (hX : XC G N vis loc gl sc k E X) : CallR X (.type "list") (rN G E listD) := by
  have eG := hX.gc
  subst eG
  intro pins s σ H xs us Q I r ⟨ws, m, H0, as, c, rw_, q⟩
  unfold listD at q
  split at q
  · obtain ⟨x, rfl, rx⟩ := one_rp rw_
    cases rx with
    | lst h1 h2 =>
      refine call_list_of pins s σ H _ us Q I r ⟨_, _, rfl, .inl (SqL.of (c.same _ _ h1)), fun l hl => ?_⟩
      obtain ⟨f2, c2⟩ := newV c hl (.lst _)
      exact q _ _ _ f2 c2 _ (.lst upd_same (h2.mono f2.same))
  · obtain ⟨x, rfl, rx⟩ := one_rp rw_
    cases rx with
    | scr h1 h2 =>
      refine call_list_of pins s σ H _ us Q I r ⟨_, _, rfl, .inl (c.same.seq h1), fun l hl => ?_⟩
      obtain ⟨f2, c2⟩ := newV c hl (.lst _)
      exact q _ _ _ f2 c2 _ (.lst upd_same (h2.mono f2.same))
  · obtain ⟨x, rfl, rx⟩ := one_rp rw_
    cases rx with
    | tup h1 h2 =>
      refine call_list_of pins s σ H _ us Q I r ⟨_, _, rfl, .inr (sqT_same c.same h1), fun l hl => ?_⟩
      obtain ⟨f2, c2⟩ := newV c hl (.lst _)
      exact q _ _ _ f2 c2 _ (.lst upd_same (h2.mono f2.same))
  · split at q
    · rename_i e
      cases rw_ with
      | cons h rr =>
        cases rr
        obtain ⟨a, vs, _, rfl, _, h3, h4⟩ := lst_at c e h
        refine call_list_of pins s σ H _ us Q I r ⟨_, _, rfl, .inl (SqL.of h3), fun l hl => ?_⟩
        obtain ⟨f2, c2⟩ := newV c hl (.lst vs)
        exact q _ _ _ f2 c2 _ (.lst upd_same (h4.mono f2.same))
    · exact q.elim
  · exact q.elim
theorem newL {H0 H : Hp} {as : List Addr} {m : Cells} (c : Cel G H0 as H m) {l : Addr} {vs : List V} {xs : List D} (hl : H l = none) (r : Rps G.K G.mg H0 vs xs) : Frm H0 as H H0 (as ++ [l]) (upd H l (.lst vs)) ∧ Cel G H0 (as ++ [l]) (upd H l (.lst vs)) (m ++ [some (.lst xs)]) ∧ RpW G H0 (as ++ [l]) (.ref l) (.ref m.length) := by
  obtain ⟨f2, c2⟩ := newC (d := .lst xs) c hl (o := .lst vs) ⟨vs, rfl, r⟩
  exact ⟨f2, c2, l, by rw [← c.len, List.getElem?_append_right (Nat.le_refl _), Nat.sub_self]; rfl, rfl⟩
theorem cr_listCD (hX : XC G N vis loc gl sc k E X) : CallR X (.type "list") (rN G E listCD) := by
  have eG := hX.gc
  subst eG
  intro pins s σ H xs us Q I r ⟨ws, m, H0, as, c, rw_, q⟩
  unfold listCD at q
  split at q
  · obtain ⟨x, rfl, rx⟩ := one_rp rw_
    cases rx with
    | lst h1 h2 =>
      refine call_list_of pins s σ H _ us Q I r ⟨_, _, rfl, .inl (SqL.of (c.same _ _ h1)), fun l hl => ?_⟩
      obtain ⟨f2, c2, r2⟩ := newL c hl h2
      exact q _ _ _ f2 c2 _ r2
  · obtain ⟨x, rfl, rx⟩ := one_rp rw_
    cases rx with
    | scr h1 h2 =>
      refine call_list_of pins s σ H _ us Q I r ⟨_, _, rfl, .inl (c.same.seq h1), fun l hl => ?_⟩
      obtain ⟨f2, c2, r2⟩ := newL c hl h2
      exact q _ _ _ f2 c2 _ r2
  · obtain ⟨x, rfl, rx⟩ := one_rp rw_
    cases rx with
    | tup h1 h2 =>
      refine call_list_of pins s σ H _ us Q I r ⟨_, _, rfl, .inr (sqT_same c.same h1), fun l hl => ?_⟩
      obtain ⟨f2, c2, r2⟩ := newL c hl h2
      exact q _ _ _ f2 c2 _ r2
  · split at q
    · rename_i e
      cases rw_ with
      | cons h rr =>
        cases rr
        obtain ⟨a, vs, _, rfl, _, h3, h4⟩ := lst_at c e h
        refine call_list_of pins s σ H _ us Q I r ⟨_, _, rfl, .inl (SqL.of h3), fun l hl => ?_⟩
        obtain ⟨f2, c2, r2⟩ := newL c hl h4
        exact q _ _ _ f2 c2 _ r2
    · exact q.elim
  · exact q.elim
theorem cr_tupleD (hX : XC G N vis loc gl sc k E X) : CallR X (.type "tuple") (rN G E tupleD) := by
  have eG := hX.gc
  subst eG
  intro pins s σ H xs us Q I r ⟨ws, m, H0, as, c, rw_, q⟩
  unfold tupleD at q
  split at q
  · obtain ⟨x, rfl, rx⟩ := one_rp rw_
    cases rx with
    | lst h1 h2 =>
      refine call_tuple_of pins s σ H _ us Q I r ⟨_, _, rfl, .inl ⟨SqL.of (c.same _ _ h1), fun l hl => ?_⟩⟩
      obtain ⟨f2, c2⟩ := newV c hl (.tup _)
      exact q _ _ _ f2 c2 _ (.tup (SqT.of upd_same) (h2.mono f2.same))
  · obtain ⟨x, rfl, rx⟩ := one_rp rw_
    cases rx with
    | scr h1 h2 =>
      refine call_tuple_of pins s σ H _ us Q I r ⟨_, _, rfl, .inl ⟨c.same.seq h1, fun l hl => ?_⟩⟩
      obtain ⟨f2, c2⟩ := newV c hl (.tup _)
      exact q _ _ _ f2 c2 _ (.tup (SqT.of upd_same) (h2.mono f2.same))
  · obtain ⟨x, rfl, rx⟩ := one_rp rw_
    cases rx with
    | tup h1 h2 => exact call_tuple_of pins s σ H _ us Q I r ⟨_, _, rfl, .inr ⟨sqT_same c.same h1, q.ok c _ (.tup h1 h2)⟩⟩
  · split at q
    · rename_i e
      cases rw_ with
      | cons h rr =>
        cases rr
        obtain ⟨a, vs, _, rfl, _, h3, h4⟩ := lst_at c e h
        refine call_tuple_of pins s σ H _ us Q I r ⟨_, _, rfl, .inl ⟨SqL.of h3, fun l hl => ?_⟩⟩
        obtain ⟨f2, c2⟩ := newV c hl (.tup vs)
        exact q _ _ _ f2 c2 _ (.tup (SqT.of upd_same) (h4.mono f2.same))
    · exact q.elim
  · exact q.elim

/-! ### slices -/
def cutD (xs : List D) (lo hi : Option Int) : List D := (xs.drop (HT.sIx xs.length 0 lo)).take (HT.sIx xs.length xs.length hi - HT.sIx xs.length 0 lo)
theorem Rps.cut {K : PySem.W.Frag} {mg : Str → Option Value} {H : Hp} {vs : List V} {ds : List D} (r : Rps K mg H vs ds) (lo hi : Option Int) : Rps K mg H (cutV vs lo hi) (cutD ds lo hi) := by
  unfold cutV cutD
  rw [r.length]
  exact (r.drop _).take _
def slD : W → Option Int → Option Int → Cells → R W := fun w lo hi m => match w with
  | .val (.lst xs) => .ok (.val (.lst (cutD xs lo hi))) m
  | .val (.scr xs) => .ok (.val (.lst (cutD xs lo hi))) m
  | .val (.tup xs) => if HT.sIx xs.length 0 lo = 0 ∧ HT.sIx xs.length xs.length hi = xs.length then .ok (.val (.tup xs)) m else .ok (.val (.tup (cutD xs lo hi))) m
  | .val (.str z) => if z.length ≤ sizeLine then .ok (.val (.str (Txt.slice z lo hi))) m else .bad
  | .ref k => (match m[k]? with
    | some (some (.lst xs)) => .ok (.val (.lst (cutD xs lo hi))) m
    | _ => .bad)
  | _ => .bad
abbrev OF := Ro → Cells → R (Option Int)
def oNo : OF := fun _ m => .ok none m
def oAt (f : EF) : OF := fun ρ m => (f ρ m).bind fun w m1 => match w with
  | .val (.int i) => .ok (some i) m1
  | _ => .bad
def tO (G : Gc) (E : XK) (f : OF) : TO := fun σ H Q => ∃ ρ m H0 as, Cel G H0 as H m ∧ Slo G H0 as σ ρ ∧ Req G E H0 as H (f ρ m) fun o _ _ _ H' => Q o H'
def DO (G : Gc) (E : XK) (X : Cx) (e : Option Expr) (f : OF) : Prop := PO X e (tO G E f)
theorem PO.weak {X : Cx} {e : Option Expr} {t t' : TO} (h : PO X e t) (w : ∀ σ H Q, t' σ H Q → t σ H Q) : PO X e t' := ⟨fun pins s σ H Q I q => h.run pins s σ H Q I (w σ H Q q)⟩
theorem do_no : DO G E X none oNo := PO.weak po_none fun σ H Q ⟨ρ, m, H0, as, c, s, q⟩ => q.ok c
theorem do_at (h : DE G E X e f) : DO G E X (some e) (oAt f) := PO.weak (po_some h) fun σ H Q ⟨ρ, m, H0, as, c, s, q⟩ => ⟨ρ, m, H0, as, c, s, (Req.bind q).mono fun w m1 H0' as' H' f1 c1 q1 x rx => by
  split at q1
  · cases (show Rp G.K G.mg H0' x (.int _) from rx)
    exact ⟨_, rfl, q1.ok c1⟩
  · exact q1.elim⟩
def eSl (f : EF) (lo hi : OF) : EF := fun ρ m => (f ρ m).bind fun w m1 => (lo ρ m1).bind fun l m2 => (hi ρ m2).bind fun h m3 => slD w l h m3
def rSlD (G : Gc) (E : XK) : V → Option Int → Option Int → Hp → VK → Prop := fun x lo hi H Q => ∃ w m H0 as, Cel G H0 as H m ∧ RpW G H0 as x w ∧ Req G E H0 as H (slD w lo hi m) fun z _ H0' as' H' => ∀ v, RpW G H0' as' v z → Q v H'
theorem sl_D (hX : XC G N vis loc gl sc k E X) : SlR X (rSlD G E) := by
  have eG := hX.gc
  subst eG
  intro pins s σ H x v vl vu lo hi sl Q I rx hs pl pu ⟨w, m, H0, as, c, rw_, q⟩
  unfold slD at q
  split at q
  · cases (show Rp X.K X.mg H0 x (.lst _) from rw_) with
    | lst h1 h2 =>
      refine sl_list pins s σ H _ v vl vu lo hi sl Q I rx hs pl pu ⟨_, _, rfl, SqL.of (c.same _ _ h1), fun p hp => ?_⟩
      obtain ⟨f2, c2⟩ := newV c hp (.lst _)
      exact q _ _ _ f2 c2 _ (.lst upd_same ((h2.cut lo hi).mono f2.same))
  · cases (show Rp X.K X.mg H0 x (.scr _) from rw_) with
    | scr h1 h2 =>
      refine sl_list pins s σ H _ v vl vu lo hi sl Q I rx hs pl pu ⟨_, _, rfl, c.same.seq h1, fun p hp => ?_⟩
      obtain ⟨f2, c2⟩ := newV c hp (.lst _)
      exact q _ _ _ f2 c2 _ (.lst upd_same ((h2.cut lo hi).mono f2.same))
  · cases (show Rp X.K X.mg H0 x (.tup _) from rw_) with
    | tup h1 h2 =>
      refine sl_tupA pins s σ H _ v vl vu lo hi sl Q I rx hs pl pu ⟨_, _, rfl, sqT_same c.same h1, fun hh => ?_, fun hh p hp => ?_⟩
      · rw [h2.length] at hh
        rw [if_pos hh] at q
        exact q.ok c _ (.tup h1 h2)
      · rw [h2.length] at hh
        rw [if_neg hh] at q
        obtain ⟨f2, c2⟩ := newV c hp (.tup _)
        exact q _ _ _ f2 c2 _ (.tup (SqT.of upd_same) ((h2.cut lo hi).mono f2.same))
  · split at q
    · cases (show Rp X.K X.mg H0 x (.str _) from rw_)
      exact C8.sl_txt pins s σ H _ v vl vu lo hi sl Q I rx hs pl pu ⟨_, rfl, by assumption, q.ok c _ .str⟩
    · exact q.elim
  · split at q
    · rename_i e
      obtain ⟨a, vs, _, rfl, _, h3, h4⟩ := lst_at c e rw_
      refine sl_list pins s σ H _ v vl vu lo hi sl Q I rx hs pl pu ⟨_, _, rfl, SqL.of h3, fun p hp => ?_⟩
      obtain ⟨f2, c2⟩ := newV c hp (.lst _)
      exact q _ _ _ f2 c2 _ (.lst upd_same ((h4.cut lo hi).mono f2.same))
    · exact q.elim
  · exact q.elim
theorem de_sl (hX : XC G N vis loc gl sc k E X) {lo hi : Option Expr} {fl fh : OF} {p2 : Pos} (he : DE G E X e f) (hl : DO G E X lo fl) (hh : DO G E X hi fh) : DE G E X (.Subscript e (.Slice lo hi none p2) pos) (eSl f fl fh) :=
  PE.weak (pe_slice (sl_D (E := E) hX) he hl hh) fun σ H Q ⟨ρ, m, H0, as, c, s, q⟩ => ⟨ρ, m, H0, as, c, s, (Req.bind q).mono fun w m1 H1 as1 H1' f1 c1 q1 x rx => ⟨ρ, m1, H1, as1, c1, s.mono f1, (Req.bind q1).mono fun l m2 H2 as2 H2' f2 c2 q2 =>
    ⟨ρ, m2, H2, as2, c2, (s.mono f1).mono f2, (Req.bind q2).mono fun h m3 H3 as3 H3' f3 c3 q3 => ⟨w, m3, H3, as3, c3, (rx.mono f2).mono f3, q3⟩⟩⟩⟩
/-- xs[::-1] -/
def revD : W → Cells → R W := fun w m => match w with
  | .val (.lst xs) => .ok (.val (.lst xs.reverse)) m
  | .val (.scr xs) => .ok (.val (.lst xs.reverse)) m
  | .ref k => (match m[k]? with
    | some (some (.lst xs)) => .ok (.val (.lst xs.reverse)) m
    | _ => .bad)
  | _ => .bad
theorem de_rev (hX : XC G N vis loc gl sc k E X) {j : Nat} {p1 p2 p3 : Pos} (he : DE G E X e f) : DE G E X (.Subscript e (.Slice none none (some (.UnaryOp .USub (.Constant (.int 1) j p1) p2)) p3) pos) (e1 revD f) := by
  have eG := hX.gc
  subst eG
  refine PE.weak (pe_revL he) fun σ H Q ⟨ρ, m, H0, as, c, s, q⟩ => ⟨ρ, m, H0, as, c, s, (Req.bind q).mono fun w m1 H1 as1 H1' f1 c1 q1 x rx => ?_⟩
  unfold revD at q1
  split at q1
  · cases (show Rp X.K X.mg H1 x (.lst _) from rx) with
    | lst h1 h2 =>
      refine ⟨_, _, rfl, SqL.of (c1.same _ _ h1), fun p hp => ?_⟩
      obtain ⟨f2, c2⟩ := newV c1 hp (.lst _)
      exact q1 _ _ _ f2 c2 _ (.lst upd_same (h2.reverse.mono f2.same))
  · cases (show Rp X.K X.mg H1 x (.scr _) from rx) with
    | scr h1 h2 =>
      refine ⟨_, _, rfl, c1.same.seq h1, fun p hp => ?_⟩
      obtain ⟨f2, c2⟩ := newV c1 hp (.lst _)
      exact q1 _ _ _ f2 c2 _ (.lst upd_same (h2.reverse.mono f2.same))
  · split at q1
    · rename_i e
      obtain ⟨a, vs, _, rfl, _, h3, h4⟩ := lst_at c1 e rx
      refine ⟨_, _, rfl, SqL.of h3, fun p hp => ?_⟩
      obtain ⟨f2, c2⟩ := newV c1 hp (.lst _)
      exact q1 _ _ _ f2 c2 _ (.lst upd_same (h4.reverse.mono f2.same))
    · exact q1.elim
  · exact q1.elim

/-! ### o[i] = e, o a list that may be changed -/
def setD : W → W → W → Cells → Option Cells := fun o i v m => match o, i, v with
  | .ref k, .val (.int j), .val d => (match m[k]? with
    | some (some (.lst xs)) => (match ixN xs.length j with
      | some n => some (m.set k (some (.lst (xs.set n d))))
      | none => none)
    | _ => none)
  | _, _, _ => none
def sSub (fo fi fe : EF) : SF := fun ρ m => (fe ρ m).bind fun v m1 => (fo ρ m1).bind fun o m2 => (fi ρ m2).bind fun i m3 => match setD o i v m3 with
  | some m4 => .ok (.next ρ) m4
  | none => .bad
def rSetD (G : Gc) : TSet := fun o i v H Q => ∃ wo wi wv m H0 as, Cel G H0 as H m ∧ RpW G H0 as o wo ∧ RpW G H0 as i wi ∧ RpW G H0 as v wv ∧ ∃ m', setD wo wi wv m = some m' ∧ ∀ H', Frm H0 as H H0 as H' → Cel G H0 as H' m' → Q H'
theorem set_D (hX : XC G N vis loc gl sc k E X) : PSet X (rSetD G) := by
  have eG := hX.gc
  subst eG
  intro pins s σ H o i v ov iv u Q I ro ri rv ⟨wo, wi, wv, m, H0, as, c, r1, r2, r3, m', e, q⟩
  unfold setD at e
  split at e
  · split at e
    · rename_i ek
      split at e
      · rename_i n en
        cases e
        obtain ⟨a, vs, e1, rfl, _, h3, h4⟩ := lst_at c ek r1
        cases (show Rp X.K X.mg H0 i (.int _) from r2)
        obtain ⟨f2, c2⟩ := writeC (d := .lst (List.set _ n _)) c ek e1 (o := .lst (vs.set n v)) ⟨_, rfl, Rps.set (show Rp X.K X.mg H0 v _ from r3) n h4⟩
        exact set_list pins s σ H _ _ v ov iv u Q I ro ri rv ⟨a, vs, _, n, rfl, rfl, h3, by rw [h4.length]; exact en, q _ f2 c2⟩
      · cases e
    · cases e
  · cases e
theorem ds_sub (hX : XC G N vis loc gl sc k E X) {i : Expr} {fi : EF} {p2 : Pos} (he : DE G E X e fe) (ho : DE G E X o fo) (hi : DE G E X i fi) (hs : swapsWithSole [.Subscript o i p2] e pos.line X.env = pure false := by rfl) (hw : swappedStores [.Subscript o i p2] e X.env = pure none := by rfl)
    (h1 : (assignEach [.Subscript o i p2] X.env).map (·.2) = [assign (.Subscript o i p2) X.env] := by rfl)
    (ha : ∀ v, assign (.Subscript o i p2) X.env v = (do
      let ov ← holding [v] (eval o X.env)
      let iv ← holding [v, ov] (eval i X.env)
      standAt p2
      holding [v, ov, iv] (setItem ov iv v)
      release [v, ov, iv] []) := by intro _; rfl) : DS G E X (.Assign [.Subscript o i p2] e pos) (sSub fo fi fe) := by
  refine PS.weak (ps_asg he (pg_sub ho hi (set_D hX) ha) hs hw h1) fun D σ H ⟨ρ, m, H0, as, c, s, q⟩ => ⟨ρ, m, H0, as, c, s, (Req.bind q).mono fun v m1 H1 as1 H1' f1 c1 q1 x rx =>
    ⟨ρ, m1, H1, as1, c1, s.mono f1, (Req.bind q1).mono fun o m2 H2 as2 H2' f2 c2 q2 y ry => ⟨ρ, m2, H2, as2, c2, (s.mono f1).mono f2, (Req.bind q2).mono fun i m3 H3 as3 H3' f3 c3 q3 z rz => ?_⟩⟩⟩
  split at q3
  · rename_i m4 e4
    exact ⟨o, i, v, m3, H3, as3, c3, ry.mono f3, rz, (rx.mono f2).mono f3, m4, e4, fun H4 f4 c4 => q3 _ _ _ f4 c4 σ ((((s.mono f1).mono f2).mono f3).mono f4)⟩
  · exact q3.elim

/-! ### methods of lists -/
abbrev MF := W → List W → Cells → R W
def isL : W → Cells → Bool := fun w m => match w with
  | .val (.lst _) => true
  | .val (.scr _) => true
  | .ref k => (match m[k]? with
    | some (some (.lst _)) => true
    | _ => false)
  | _ => false
def isS : W → Cells → Bool := fun w _ => match w with
  | .val (.str _) => true
  | _ => false
def eBM (ty : W → Cells → Bool) (h : MF) (fo : EF) (t : AF) : EF := fun ρ m => (fo ρ m).bind fun w m1 => if ty w m1 = true then (t ρ m1).bind fun ws m2 => h w ws m2 else .bad
def rMD (G : Gc) (E : XK) (h : MF) : V → List V → Hp → VK → Prop := fun x xs H Q => ∃ w ws m H0 as, Cel G H0 as H m ∧ RpW G H0 as x w ∧ RpWs G H0 as xs ws ∧ Req G E H0 as H (h w ws m) fun z _ H0' as' H' => ∀ v, RpW G H0' as' v z → Q v H'
structure TyD (G : Gc) (ty : W → Cells → Bool) (T : String) : Prop where
  ok : ∀ {H0 H : Hp} {as : List Addr} {m : Cells} {x : V} {w : W}, Cel G H0 as H m → RpW G H0 as x w → ty w m = true → tyV G.K T x H
theorem ty_L : TyD G isL "list" := ⟨fun {H0 H as m x w} c r e => by
  unfold isL at e
  split at e
  · cases (show Rp G.K G.mg H0 x (.lst _) from r) with
    | lst h1 h2 => exact .inl ⟨rfl, _, SqL.of (c.same _ _ h1)⟩
  · cases (show Rp G.K G.mg H0 x (.scr _) from r) with
    | scr h1 h2 => exact .inl ⟨rfl, _, c.same.seq h1⟩
  · split at e
    · rename_i ek
      obtain ⟨a, vs, _, rfl, _, h3, _⟩ := lst_at c ek r
      exact .inl ⟨rfl, _, SqL.of h3⟩
    · cases e
  · cases e⟩
theorem ty_S : TyD G isS "str" := ⟨fun {H0 H as m x w} c r e => by
  unfold isS at e
  split at e
  · cases (show Rp G.K G.mg H0 x (.str _) from r)
    exact rfl
  · cases e⟩
theorem de_bm (hX : XC G N vis loc gl sc k E X) {ty : W → Cells → Bool} {T id : String} {name : Str} {h : MF} (hT : TyD G ty T) (pa : PlainAttrs T) (slot : Slot T name id) (hty : typeOf (.builtin id) = pure (.type "method_descriptor")) (hm : MtR X id (rMD G E h)) (ho : DE G E X o fo) (ha : DA G E X (e :: es) t)
    (hbase : attributeBase o name X.env (eval o X.env) = eval o X.env := by rfl)
    (hfew : ((backTo cpos (starEach (e :: es) X.env)).all (fun x => !x.1) && (backToKw cpos (keywordEach [] X.env)).all (fun x => x.1.isSome)
      && decide ((e :: es).length + ([] : List Keyword).length + (if ([] : List Keyword).isEmpty then 0 else 1) < 30)) = true := by rfl)
    (hline : (apos.endLine == cpos.line) = true := by rfl) (hs : starEach (e :: es) X.env = (false, eval e X.env) :: starEach es X.env := by rfl) (hplain : (backTo cpos (starEach es X.env)).any (·.1) = false := by rfl) :
    DE G E X (.Call (.Attribute o name apos) (e :: es) [] cpos) (eBM ty h fo t) := by
  refine PE.weak (pe_bm pa slot hty hm ho ha hbase hfew hline hs hplain) fun σ H Q ⟨ρ, m, H0, as, c, s, q⟩ => ⟨ρ, m, H0, as, c, s, (Req.bind q).mono fun w m1 H1 as1 H1' f1 c1 q1 x rx => ?_⟩
  split at q1
  · rename_i et
    exact ⟨by rw [hX.hK]; exact hT.ok c1 rx et, ρ, m1, H1, as1, c1, s.mono f1, (Req.bind q1).mono fun ws m2 H2 as2 H2' f2 c2 q2 vs rvs => ⟨w, ws, m2, H2, as2, c2, rx.mono f2, rvs, q2⟩⟩
  · exact q1.elim
theorem de_bm0 (hX : XC G N vis loc gl sc k E X) {ty : W → Cells → Bool} {T id : String} {name : Str} {h : MF} (hT : TyD G ty T) (pa : PlainAttrs T) (slot : Slot T name id) (hty : typeOf (.builtin id) = pure (.type "method_descriptor")) (hm : MtR X id (rMD G E h)) (ho : DE G E X o fo)
    (hbase : attributeBase o name X.env (eval o X.env) = eval o X.env := by rfl) (hline : (apos.endLine == cpos.line) = true := by rfl) :
    DE G E X (.Call (.Attribute o name apos) [] [] cpos) (eBM ty h fo aNil) := by
  refine PE.weak (pe_bm0 pa slot hty hm ho hbase hline) fun σ H Q ⟨ρ, m, H0, as, c, s, q⟩ => ⟨ρ, m, H0, as, c, s, (Req.bind q).mono fun w m1 H1 as1 H1' f1 c1 q1 x rx => ?_⟩
  split at q1
  · rename_i et
    exact ⟨by rw [hX.hK]; exact hT.ok c1 rx et, w, [], m1, H1, as1, c1, rx, .nil, (Req.bind q1).ok c1⟩
  · exact q1.elim
def appD : MF := fun w ws m => match w, ws with
  | .ref k, [.val d] => (match m[k]? with
    | some (some (.lst xs)) => if xs.length < sizeLine then .ok (.val .non) (m.set k (some (.lst (xs ++ [d])))) else .bad
    | _ => .bad)
  | _, _ => .bad
def extD : MF := fun w ws m => match w, ws with
  | .ref k, [.val (.lst ys)] => (match m[k]? with
    | some (some (.lst xs)) => if xs.length + ys.length ≤ sizeLine then .ok (.val .non) (m.set k (some (.lst (xs ++ ys)))) else .bad
    | _ => .bad)
  | _, _ => .bad
def popD : MF := fun w ws m => match w, ws with
  | .ref k, [] => (match m[k]? with
    | some (some (.lst xs)) => (match xs[xs.length - 1]? with
      | some d => .ok (.val d) (m.set k (some (.lst xs.dropLast)))
      | none => .bad)
    | _ => .bad)
  | .ref k, [.val (.int i)] => (match m[k]? with
    | some (some (.lst xs)) => (match seqIndex? i xs.length with
      | some j => (match xs[j]? with
        | some d => if -(2 ^ 63) ≤ i ∧ i < 2 ^ 63 then .ok (.val d) (m.set k (some (.lst (xs.eraseIdx j)))) else .bad
        | none => .bad)
      | none => .bad)
    | _ => .bad)
  | _, _ => .bad
def revMD : MF := fun w ws m => match w, ws with
  | .ref k, [] => (match m[k]? with
    | some (some (.lst xs)) => .ok (.val .non) (m.set k (some (.lst xs.reverse)))
    | _ => .bad)
  | _, _ => .bad
theorem mt_appD (hX : XC G N vis loc gl sc k E X) : MtR X "list.append" (rMD G E appD) := by
  have eG := hX.gc
  subst eG
  intro pins s σ H x xs v us Q I rx rxs ⟨w, ws, m, H0, as, c, r1, r2, q⟩
  unfold appD at q
  split at q
  · split at q
    · rename_i ek
      split at q
      · obtain ⟨a, vs, e1, rfl, _, h3, h4⟩ := lst_at c ek r1
        obtain ⟨y, rfl, ry⟩ := one_rp r2
        obtain ⟨f2, c2⟩ := writeC (d := .lst (_ ++ [_])) c ek e1 (o := .lst (vs ++ [y])) ⟨_, rfl, h4.snoc ry⟩
        exact mt_append pins s σ H _ _ v us Q I rx rxs ⟨a, vs, y, rfl, rfl, h3, by rw [h4.length]; assumption, q _ _ _ f2 c2 _ .non⟩
      · exact q.elim
    · exact q.elim
  · exact q.elim
theorem mt_extD (hX : XC G N vis loc gl sc k E X) : MtR X "list.extend" (rMD G E extD) := by
  have eG := hX.gc
  subst eG
  intro pins s σ H x xs v us Q I rx rxs ⟨w, ws, m, H0, as, c, r1, r2, q⟩
  unfold extD at q
  split at q
  · split at q
    · rename_i ek
      split at q
      · obtain ⟨a, vs, e1, rfl, _, h3, h4⟩ := lst_at c ek r1
        obtain ⟨y, rfl, ry⟩ := one_rp r2
        cases ry with
        | lst h5 h6 =>
          obtain ⟨f2, c2⟩ := writeC (d := .lst (_ ++ _)) c ek e1 (o := .lst (vs ++ _)) ⟨_, rfl, h4.append h6⟩
          exact mt_extend pins s σ H _ _ v us Q I rx rxs ⟨a, _, vs, _, rfl, rfl, h3, c.same _ _ h5, by rw [h4.length, h6.length]; assumption, q _ _ _ f2 c2 _ .non⟩
      · exact q.elim
    · exact q.elim
  · exact q.elim
theorem Rps.dropLast {K : PySem.W.Frag} {mg : Str → Option Value} {H : Hp} {vs : List V} {ds : List D} (r : Rps K mg H vs ds) : Rps K mg H vs.dropLast ds.dropLast := by
  rw [List.dropLast_eq_take, List.dropLast_eq_take, r.length]
  exact r.take _
theorem Rps.eraseIdx {K : PySem.W.Frag} {mg : Str → Option Value} {H : Hp} : ∀ {vs : List V} {ds : List D} (i : Nat), Rps K mg H vs ds → Rps K mg H (vs.eraseIdx i) (ds.eraseIdx i)
  | _, _, _, .nil => .nil
  | _, _, 0, .cons _ r => r
  | _, _, i + 1, .cons h r => .cons h (Rps.eraseIdx i r)
theorem mt_popD (hX : XC G N vis loc gl sc k E X) : MtR X "list.pop" (rMD G E popD) := by
  have eG := hX.gc
  subst eG
  intro pins s σ H x xs v us Q I rx rxs ⟨w, ws, m, H0, as, c, r1, r2, q⟩
  unfold popD at q
  split at q
  · split at q
    · rename_i ek
      split at q
      · rename_i d ed
        obtain ⟨a, vs, e1, rfl, _, h3, h4⟩ := lst_at c ek r1
        cases r2
        obtain ⟨y, ey, ry⟩ := h4.get ed
        obtain ⟨f2, c2⟩ := writeC (d := .lst _) c ek e1 (o := .lst vs.dropLast) ⟨_, rfl, h4.dropLast⟩
        exact mt_pop pins s σ H _ _ v us Q I rx rxs ⟨a, vs, y, rfl, rfl, h3, by rw [h4.length]; exact ey, q _ _ _ f2 c2 _ ry⟩
      · exact q.elim
    · exact q.elim
  · split at q
    · rename_i ek
      split at q
      · rename_i j ej
        split at q
        · rename_i d ed
          split at q
          · rename_i hi
            obtain ⟨a, vs, e1, rfl, _, h3, h4⟩ := lst_at c ek r1
            obtain ⟨z, rfl, rz⟩ := one_rp r2
            cases rz
            obtain ⟨y, ey, ry⟩ := h4.get ed
            obtain ⟨f2, c2⟩ := writeC (d := .lst _) c ek e1 (o := .lst (vs.eraseIdx j)) ⟨_, rfl, h4.eraseIdx j⟩
            exact mt_popAt pins s σ H _ _ v us Q I rx rxs ⟨a, vs, _, j, y, rfl, rfl, h3, hi.1, hi.2, by rw [h4.length]; exact ej, ey, q _ _ _ f2 c2 _ ry⟩
          · exact q.elim
        · exact q.elim
      · exact q.elim
    · exact q.elim
  · exact q.elim
theorem mt_revD (hX : XC G N vis loc gl sc k E X) : MtR X "list.reverse" (rMD G E revMD) := by
  have eG := hX.gc
  subst eG
  intro pins s σ H x xs v us Q I rx rxs ⟨w, ws, m, H0, as, c, r1, r2, q⟩
  unfold revMD at q
  split at q
  · split at q
    · rename_i ek
      obtain ⟨a, vs, e1, rfl, _, h3, h4⟩ := lst_at c ek r1
      cases r2
      obtain ⟨f2, c2⟩ := writeC (d := .lst _) c ek e1 (o := .lst vs.reverse) ⟨_, rfl, h4.reverse⟩
      exact mt_reverse pins s σ H _ _ v us Q I rx rxs ⟨a, vs, rfl, rfl, h3, q _ _ _ f2 c2 _ .non⟩
    · exact q.elim
  · exact q.elim
end
end FD
end
section
set_option Elab.async false
set_option linter.all false
set_option maxRecDepth 100000
set_option autoImplicit false
namespace FD
open PySem PySem.Spec PyProof.Rows L2

section
variable {G : Gc} {E : XK} {X : Cx} {N vis loc gl : List Str} {sc : Scope} {k : Nat} {e o a b : Expr} {es : List Expr} {f g fo fe : EF} {t : AF} {pos p apos cpos : Pos}
/-! ### index, remove, count -/
def ixOf (d : D) (xs : List D) : Option Nat := xs.findIdx? fun z => eqvD z d
theorem ixOf_some {d : D} : ∀ {xs : List D} {j : Nat}, ixOf d xs = some j → ∃ z, xs[j]? = some z ∧ eqvD z d = true ∧ ∀ (i : Nat) (z' : D), i < j → xs[i]? = some z' → eqvD z' d = false := by
  intro xs j h
  unfold ixOf at h
  obtain ⟨hj, h1, h2⟩ := List.findIdx?_eq_some_iff_getElem.mp h
  refine ⟨xs[j], List.getElem?_eq_getElem hj, h1, fun i z' hi hz => ?_⟩
  have hil : i < xs.length := Nat.lt_trans hi hj
  rw [List.getElem?_eq_getElem hil] at hz
  cases hz
  simpa using h2 i hi
theorem pyAll_get {xs : List D} {j : Nat} : (D.pyAll xs)[j]? = (xs[j]?).map D.py := by
  rw [D.pyAll_map, List.getElem?_map]
def indexD : MF := fun w ws m => match w, ws with
  | .val (.lst xs), [.val d] => if d.cmp = true ∧ (D.lst xs).cmp = true then (match ixOf d xs with
    | some j => .ok (.val (.int (j : Nat))) m
    | none => .bad) else .bad
  | .ref k, [.val d] => (match m[k]? with
    | some (some (.lst xs)) => if d.cmp = true ∧ (D.lst xs).cmp = true then (match ixOf d xs with
      | some j => .ok (.val (.int (j : Nat))) m
      | none => .bad) else .bad
    | _ => .bad)
  | _, _ => .bad
theorem mt_indexDD (hX : XC G N vis loc gl sc k E X) : MtR X "list.index" (rMD G E indexD) := by
  have eG := hX.gc
  subst eG
  have hu : X.A.units + 65 < cLine := by have := hX.room.un; omega
  intro pins s σ H x xs v us Q I rx rxs ⟨w, ws, m, H0, as, c, r1, r2, q⟩
  have go : ∀ {ds : List D} {d : D} {vs : List V} {a : Addr} {y : V} {j : Nat}, SqL X.K H a vs → Rps X.K X.mg H vs ds → Rp X.K X.mg H y d → d.cmp = true → (D.lst ds).cmp = true → ixOf d ds = some j → RelV (.ref a) v → Vals [y] us → Q (.int (j : Nat)) H →
      wpAny (model X.prog X.w) X.A (call (.builtin "list.index") (v :: us)) (EP X pins σ Q) X.xe s := by
    intro ds d vs a y j h1 h2 h3 c1 c2 hj r1 r2 q
    rw [D.cmp, Bool.and_eq_true] at c1 c2
    obtain ⟨z, hz, hz1, hz2⟩ := ixOf_some hj
    exact mt_indexD hu pins s σ H _ _ v us Q I r1 r2 ⟨a, y, d.py, D.pyAll ds, j, z.py, rfl, rfl, .lst h1 (h2.dp c2.1), h3.dp c1.1, c2.2, c1.2, by rw [pyAll_get, hz]; rfl, hz1, fun i z' hi e => by
      rw [pyAll_get] at e
      cases q : ds[i]? with
      | none => rw [q] at e; cases e
      | some z2 => rw [q] at e; cases e; exact hz2 i z2 hi q, q⟩
  unfold indexD at q
  split at q
  · split at q
    · rename_i hc
      split at q
      · rename_i j ej
        obtain ⟨y, rfl, ry⟩ := one_rp r2
        cases (show Rp X.K X.mg H0 x (.lst _) from r1) with
        | lst h1 h2 => exact go (SqL.of (c.same _ _ h1)) (h2.mono c.same) (ry.mono c.same) hc.1 hc.2 ej rx rxs (q.ok c _ .int)
      · exact q.elim
    · exact q.elim
  · split at q
    · rename_i ek
      split at q
      · rename_i hc
        split at q
        · rename_i j ej
          obtain ⟨y, rfl, ry⟩ := one_rp r2
          obtain ⟨a, vs, e1, rfl, _, h3, h4⟩ := lst_at c ek r1
          exact go (SqL.of h3) (h4.mono c.same) (ry.mono c.same) hc.1 hc.2 ej rx rxs (q.ok c _ .int)
        · exact q.elim
      · exact q.elim
    · exact q.elim
  · exact q.elim
/-- what the list methods ask of the items -/
theorem eqAt_data {pins : List (Addr × Obj)} {σ : L2.St} {H : Hp} {s : Shared} (hu : X.A.units + 65 < cLine) (I : Inv X pins σ H s) {ds : List PyData} {d : PyData} {vs : List V} {its : List Value} {y : V} {u : Value} (ha : DpAll X.K H vs ds) (rv : Vals vs its) (hd : Dp X.K H y d) (ry : RelV y u)
    (s1 : SeqAt.shaped (.list ds) = true) (s2 : SeqAt.shaped d = true) : its.length = ds.length ∧ ∃ e : Value → Bool, (∀ z, z ∈ its.toArray → SeqAt.EqAt X.A.in1 s z u (e z)) ∧ ∀ (m : Nat) (hm : m < its.length) (z : PyData), ds[m]? = some z → e its[m] = PyData.eqv z d := by
  obtain ⟨as, r1⟩ := Dp.readsAll I ds _ its ha rv
  obtain ⟨bs, r2⟩ := Dp.reads I d y u hd ry
  have hl : PyData.canLayAll0 ds = true := SeqAt.canLay_of_shaped s1
  have hn : its.length = ds.length := SeqAt.ReadsAll.length ds its as r1
  refine ⟨hn, fun z => PyData.eqv (SeqAt.readOf s.heap z) d, SeqAt.items_eqAt (vs := its.toArray) (show ReadsAll s.heap its.toArray.toList ds as from r1) r2 hl (SeqAt.canLay_of_shaped s2) (room_in_shaped s2 hu), fun m hm z hz => ?_⟩
  have hmap : its.map (SeqAt.readOf s.heap) = ds := SeqAt.readsAll_map ds its as hl r1
  have e2 : some (SeqAt.readOf s.heap its[m]) = some z := by
    rw [← hz, ← hmap, List.getElem?_map, List.getElem?_eq_getElem hm]; rfl
  show PyData.eqv (SeqAt.readOf s.heap its[m]) d = _
  rw [Option.some.inj e2]
def remD : MF := fun w ws m => match w, ws with
  | .ref k, [.val d] => (match m[k]? with
    | some (some (.lst xs)) => if d.cmp = true ∧ (D.lst xs).cmp = true then (match ixOf d xs with
      | some j => .ok (.val .non) (m.set k (some (.lst (xs.eraseIdx j))))
      | none => .bad) else .bad
    | _ => .bad)
  | _, _ => .bad
theorem mt_remD (hX : XC G N vis loc gl sc k E X) : MtR X "list.remove" (rMD G E remD) := by
  have eG := hX.gc
  subst eG
  have hu : X.A.units + 65 < cLine := by have := hX.room.un; omega
  intro pins s σ H x xs v us Q I rx rxs ⟨w, ws, m, H0, as, c, r1, r2, q⟩
  unfold remD at q
  split at q
  · split at q
    · rename_i ds ek
      split at q
      · rename_i d hc
        split at q
        · rename_i j ej
          obtain ⟨y, rfl, ry⟩ := one_rp r2
          obtain ⟨a, vs, e1, rfl, _, h3, h4⟩ := lst_at c ek r1
          obtain ⟨f2, c2⟩ := writeC (d := .lst _) c ek e1 (o := .lst (vs.eraseIdx j)) ⟨_, rfl, h4.eraseIdx j⟩
          have qq := q _ _ _ f2 c2 _ .non
          rw [D.cmp, D.cmp, Bool.and_eq_true, Bool.and_eq_true] at hc
          obtain ⟨z, hz, hz1, hz2⟩ := ixOf_some ej
          cases (show v = Value.ref a from rx)
          obtain ⟨u, rfl, ru⟩ := rxs.one
          obtain ⟨hzl, its, n, rv, hl, ho⟩ := I.lstM h3
          obtain ⟨hn, e, k1, k2⟩ := eqAt_data hu I ((h4.mono c.same).dp hc.2.1) rv ((ry.mono c.same).dp hc.1.1) ru hc.2.2 hc.1.2
          have hjd : j < (D.pyAll ds).length := by
            rw [D.pyAll_map, List.length_map]; exact (List.getElem?_eq_some_iff.mp hz).1
          have hj : j < its.toArray.size := by rw [List.size_toArray]; omega
          have hsz : its.toArray.size ≤ sizeLine := by rw [List.size_toArray, ← hl]; exact hzl
          refine call_meets PySem.F.slot_list_remove ⟨_, ho, rfl⟩ PySem.F.entry_list_remove (PySem.F.args_list_remove_2 _ _)
            (SeqAt.list_removeAt a its.toArray n none #[] u e j hj ?_ ?_ hsz) ⟨ho, k1, ?_⟩
          · have := k2 j (by simpa using hj) z.py (by rw [pyAll_get, hz]; rfl)
            rw [List.getElem_toArray, this]
            exact hz1
          · intro i hi hij
            have hil : i < its.length := by simpa using hi
            have hid : i < ds.length := by rw [D.pyAll_map, List.length_map] at hn; omega
            have := k2 i hil (ds[i]).py (by rw [pyAll_get, List.getElem?_eq_getElem hid]; rfl)
            rw [List.getElem_toArray, this]
            exact hz2 i _ hij (List.getElem?_eq_getElem hid)
          · refine ⟨.non, _, I.lset (its' := its.eraseIdx j) (t' := s.toks) h3 ho (List.eraseIdxIfInBounds_toArray ..) (rv.eraseIdx j) (Nat.le_trans (len_erase vs j) hzl), rfl, qq⟩
        · exact q.elim
      · exact q.elim
    · exact q.elim
  · exact q.elim

/-! ### enumerate -/
def enumD (ds : List D) : List D := ds.zipIdx.map fun z => D.tup [.int (z.2 : Nat), z.1]
def iEnumD (t : AF) : IF := fun ρ m => (t ρ m).bind fun ws m1 => match ws with
  | [.val (.lst ds)] => .ok (enumD ds) m1
  | [.val (.scr ds)] => .ok (enumD ds) m1
  | _ => .bad
theorem enumD_length (ds : List D) : (enumD ds).length = ds.length := by simp [enumD]
theorem wlk_enum {K : PySem.W.Frag} (hK : K = G.K) {a : Addr} {vs : List V} {ds : List D} {H0 : Hp} {as : List Addr} {H : Hp} (h : SqL K H0 a vs) (r : Rps G.K G.mg H0 vs ds) : Wlk G (Ite K a) (enumD ds) H0 as H := by
  subst hK
  refine ⟨fun i H0' as' H' f sm l => ?_, fun i H0' as' H' m x H3 f c y => ?_, fun H0' as' H' f sm => ?_⟩
  · rw [enumD_length] at l
    obtain ⟨v, e, _⟩ := r.get (List.getElem?_eq_getElem l)
    exact ⟨vs, v, sm.seq (f.same.seq h), e⟩
  · obtain ⟨T, z, rfl, hT, rfl, y⟩ := y
    obtain ⟨f2, c2⟩ := newV c hT (.tup [.int (i : Nat), z])
    refine ⟨_, f2, c2, fun d ed => ?_⟩
    unfold enumD at ed
    rw [List.getElem?_map, List.getElem?_zipIdx] at ed
    cases q : ds[i]? with
    | none => rw [q] at ed; cases ed
    | some d0 =>
      rw [q] at ed
      simp only [Option.map_some, Nat.zero_add] at ed
      cases ed
      obtain ⟨v, e1, e2⟩ := r.get q
      have := y vs (c.same.seq (f.same.seq h))
      rw [e1] at this
      cases this
      exact .tup (SqT.of upd_same) (.cons .int (.cons ((e2.mono f.same).mono f2.same) .nil))
  · exact ⟨vs, sm.seq (f.same.seq h), by rw [r.length, enumD_length]; exact Nat.le_refl _⟩
theorem di_enum (hX : XC G N vis loc gl sc k E X) {elts : List Expr} {kk : Nat} {tpos : Pos} (j : Nat) (hm : G.mg "enumerate" = none) (ha : DA G E X [e] t) (hj : gl[j]? = some "enumerate" := by rfl) (hs : starEach [e] X.env = [(false, eval e X.env)] := by rfl) :
    DI G E X (.Tuple elts kk tpos) (.Call (.Name "enumerate" p) [e] [] pos) (iEnumD t) := by
  refine PI.weak (pi_enum (hX.hgl _ (List.mem_of_getElem? hj)) (by rw [hX.hmg]; exact hm) ha hs) fun σ H R ⟨ρ, m, H0, as, c, s, q⟩ => ⟨ρ, m, H0, as, c, s, (Req.bind q).mono fun ws m1 H0' as' H' f1 c1 q1 vs rvs => ?_⟩
  split at q1
  · obtain ⟨x, rfl, rx⟩ := one_rp rvs
    cases rx with
    | lst h1 h2 => exact ⟨_, _, rfl, SqL.of (c1.same _ _ h1), q1.ok c1 _ (wlk_enum hX.hK (SqL.of h1) h2)⟩
  · obtain ⟨x, rfl, rx⟩ := one_rp rvs
    cases rx with
    | scr h1 h2 => exact ⟨_, _, rfl, by rw [hX.hK]; exact c1.same.seq h1, q1.ok c1 _ (wlk_enum hX.hK (show SqL X.K H0' _ _ from hX.hK ▸ h1) h2)⟩
  · exact q1.elim

/-! ### isinstance(e, T) -/
inductive Tg where
  | bt (n : String) | own (c : Str)
deriving DecidableEq
def tagOf : W → Cells → Option Tg := fun w m => match w with
  | .val .non => some (.bt "NoneType")
  | .val (.bl _) => some (.bt "bool")
  | .val (.int _) => some (.bt "int")
  | .val (.str _) => some (.bt "str")
  | .val (.tup _) => some (.bt "tuple")
  | .val (.lst _) => some (.bt "list")
  | .val (.scr _) => none
  | .val (.ins c _) => some (.own c)
  | .ref k => (match m[k]? with
    | some (some (.lst _)) => some (.bt "list")
    | some (some (.ins c _)) => some (.own c)
    | _ => none)
def Res (G : Gc) : Tg → Value → Prop
  | .bt n, v => v = .type n
  | .own c, v => ∃ C, G.mg c = some (.ref C) ∧ v = .ref C
structure Kit (G : Gc) (t u : Tg) (b : Bool) : Prop where
  k : ∀ vt vu, Res G t vt → Res G u vu → PySem.W.kitOne G.K vt vu = some b
theorem kit_bt {G : Gc} {x y : String} {b : Bool} (h : kitB x y = some b) : Kit G (.bt x) (.bt y) b := ⟨fun vt vu e1 e2 => by cases e1; cases e2; exact kit_ty h⟩
/-- what isinstance asks of the class c -/
structure InsOk (G : Gc) (c : Str) : Prop where
  ex : ∃ C, ClsOk G c C ∧ PySem.W.findIn G.K (.ref C) "__class__" = some (some (.builtin "object.__class__")) ∧ PySem.W.specialIn G.K (.builtin "object.__class__") "__get__" = some (some (.builtin "getset_descriptor.__get__")) ∧
    PySem.W.takesIn G.K (.builtin "object.__class__") = some true ∧ PySem.W.mroIn G.K C (.type "object") = some true
structure TagOk (G : Gc) (u t : Tg) (b : Bool) : Prop where
  kit : Kit G t u b
  ins : ∀ c, t = .own c → InsOk G c
abbrev Tab := List (Tg × Bool)
structure TabOk (G : Gc) (u : Tg) (tab : Tab) : Prop where
  ok : ∀ t b, tab.lookup t = some b → TagOk G u t b
theorem tab_nil {u : Tg} : TabOk G u [] := ⟨fun t b h => by cases h⟩
theorem tab_cons {u t : Tg} {b : Bool} {tab : Tab} (h : TagOk G u t b) (r : TabOk G u tab) : TabOk G u ((t, b) :: tab) := ⟨fun t' b' e => by
  rw [List.lookup] at e
  split at e
  · rename_i q
    have := beq_iff_eq.mp q
    subst this
    cases e
    exact h
  · exact r.ok t' b' e⟩
def isD (tab : Tab) : W → Cells → R W := fun w m => match tagOf w m with
  | some t => (match tab.lookup t with
    | some b => .ok (.val (.bl b)) m
    | none => .bad)
  | none => .bad
theorem tyX_of {H0 H : Hp} {as : List Addr} {m : Cells} (c : Cel G H0 as H m) {x : V} {w : W} {u t : Tg} {b : Bool} (r : RpW G H0 as x w) (e : tagOf w m = some t) (o : TagOk G u t b) : ∃ vt, Res G t vt ∧ TyX G.K H x vt := by
  have own : ∀ {cn : Str} {fs : List (Str × D)}, clsOf w m = some (cn, fs) → t = .own cn → ∃ vt, Res G t vt ∧ TyX G.K H x vt := by
    intro cn fs ec et
    obtain ⟨a, C, dx, vs, rfl, h1, h2, h3⟩ := ins_at c r ec
    obtain ⟨C', ⟨k0, k1⟩, k2, k3, k4, k5⟩ := (o.ins cn et).ex
    rw [h2] at k0
    cases k0
    subst et
    exact ⟨.ref C, ⟨C, h2, rfl⟩, .base (.ins h1 k1 k2 k3 k4 k5)⟩
  unfold tagOf at e
  split at e
  · cases e; cases (show Rp G.K G.mg H0 x .non from r); exact ⟨_, rfl, .base .non⟩
  · cases e; cases (show Rp G.K G.mg H0 x (.bl _) from r); exact ⟨_, rfl, .base (.bl _)⟩
  · cases e; cases (show Rp G.K G.mg H0 x (.int _) from r); exact ⟨_, rfl, .base (.int _)⟩
  · cases e; cases (show Rp G.K G.mg H0 x (.str _) from r); exact ⟨_, rfl, .base (.str _)⟩
  · cases e
    cases (show Rp G.K G.mg H0 x (.tup _) from r) with
    | tup h1 h2 =>
      refine ⟨_, rfl, ?_⟩
      rcases sqT_same c.same h1 with (h | ⟨o, h⟩) | ⟨o, items, n, h, hc, _⟩
      · exact .base (.tup h)
      · exact .fTuple h
      · exact .kTuple h hc
  · cases e
    cases (show Rp G.K G.mg H0 x (.lst _) from r) with
    | lst h1 h2 => exact ⟨_, rfl, .base (.lst (c.same _ _ h1))⟩
  · cases e
  · cases e; exact own rfl rfl
  · split at e
    · rename_i ek
      cases e
      obtain ⟨a, vs, e1, rfl, _, h3, h4⟩ := lst_at c ek r
      exact ⟨_, rfl, .base (.lst h3)⟩
    · rename_i ek
      cases e
      exact own (show (match m[_]? with | some (some (M.ins c fs)) => some (c, fs) | _ => none) = some (_, _) by rw [ek]) rfl
    · cases e
/-- the class that a name names -/
structure ClsNm (G : Gc) (x : Str) (u : Tg) : Prop where
  ex : ∃ cv vu, ClsV cv vu ∧ Res G u vu ∧ ((G.mg x = some vu) ∨ (G.mg x = none ∧ bootBuiltins x = some vu ∧ x ≠ "__name__"))
theorem clsNm_bt {x : Str} {n : String} (hm : G.mg x = none) (hv : bootBuiltins x = some (.type n) := by decide +kernel) (hn : x ≠ "__name__" := by decide) : ClsNm G x (.bt n) := ⟨.ty n, .type n, .ty n, rfl, .inr ⟨hm, hv, hn⟩⟩
theorem clsNm_own {c : Str} {C : Addr} (hm : G.mg c = some (.ref C)) : ClsNm G c (.own c) := ⟨.ref C, .ref C, .own C, ⟨C, hm, rfl⟩, .inl hm⟩
theorem relV_cls {cv : V} {vu : Value} (h : ClsV cv vu) : RelV cv vu := by
  cases h with
  | ty n => exact rfl
  | own C => exact rfl
theorem de_isi (hX : XC G N vis loc gl sc k E X) {x : Str} {u : Tg} {tab : Tab} {px : Pos} (j i : Nat) (hm : G.mg "isinstance" = none) (o : ClsNm G x u) (ht : TabOk G u tab) (h : DE G E X e f) (hj : gl[j]? = some "isinstance" := by rfl) (hi : gl[i]? = some x := by rfl) (hdb : (x == ("__debug__" : Str)) = false := by decide)
    (he : starEach [e, .Name x px] X.env = (false, eval e X.env) :: starEach [.Name x px] X.env := by rfl) (he2 : starEach [.Name x px] X.env = (false, eval (.Name x px) X.env) :: starEach [] X.env := by rfl) (hpl : (backTo pos (starEach [.Name x px] X.env)).any (·.1) = false := by rfl) :
    DE G E X (.Call (.Name "isinstance" p) [e, .Name x px] [] pos) (e1 (isD tab) f) := by
  obtain ⟨cv, vu, h1, h2, h3⟩ := o.ex
  have eG := hX.gc
  subst eG
  have hg := hX.hgl x (List.mem_of_getElem? hi)
  have hc : PE X (.Name x px) (tC cv) := by
    rcases h3 with h3 | ⟨h3, h4, h5⟩
    · exact pe_glob hg h3 (relV_cls h1) hdb
    · exact pe_bltn hg h3 h4 (relV_cls h1) h5 hdb
  refine PE.weak (pe_callB call_isi (hX.hgl _ (List.mem_of_getElem? hj)) hm (by decide +kernel) (pa_cons h (pa_cons hc pa_nil he2) he) (he := he) (hpl := hpl)) fun σ H Q ⟨ρ, m, H0, as, c, s, q⟩ => ⟨ρ, m, H0, as, c, s, (Req.bind q).mono fun w m1 H1 as1 H1' f1 c1 q1 v rv => ?_⟩
  unfold isD at q1
  split at q1
  · rename_i t et
    split at q1
    · rename_i b eb
      have ok := ht.ok t b eb
      obtain ⟨vt, k1, k2⟩ := tyX_of c1 rv et ok
      exact ⟨v, cv, vt, vu, b, rfl, h1, k2, ok.kit.k vt vu k1 h2, q1.ok c1 _ .bl⟩
    · exact q1.elim
  · exact q1.elim
/-! ### tuples put behind one another -/
def catTD : W → W → Cells → R W
  | .val (.tup xs), .val (.tup ys), m => if xs.length + ys.length ≤ sizeLine then .ok (.val (.tup (xs ++ ys))) m else .bad
  | _, _, _ => .bad
theorem op_catTD (hX : XC G N vis loc gl sc k E X) : OpR X (binaryOp .Add) (r2 G E catTD) := by
  have eG := hX.gc
  subst eG
  intro pins s σ H x y v u Q I rx ry ⟨w, u', m, H0, as, c, h1, h2, q⟩
  unfold catTD at q
  split at q
  · split at q
    · cases (show Rp X.K X.mg H0 x (.tup _) from h1) with
      | tup a1 b1 =>
        cases (show Rp X.K X.mg H0 y (.tup _) from h2) with
        | tup a2 b2 =>
          refine op_catA pins s σ H _ _ v u Q I rx ry ⟨_, _, _, _, rfl, rfl, sqT_same c.same a1, sqT_same c.same a2, by rw [b1.length, b2.length]; assumption, fun e => ?_, fun _ e => ?_, fun _ _ p hp => ?_⟩
          · subst e
            cases b1
            exact q.ok c _ (.tup a2 b2)
          · subst e
            cases b2
            rw [List.append_nil] at q
            exact q.ok c _ (.tup a1 b1)
          · obtain ⟨f2, c2⟩ := newV c hp (.tup _)
            exact q _ _ _ f2 c2 _ (.tup (SqT.of upd_same) ((b1.append b2).mono f2.same))
    · exact q.elim
  · exact q.elim
end
end FD
end
section
set_option Elab.async false
set_option linter.all false
set_option maxRecDepth 100000
set_option autoImplicit false
namespace FD
open PySem PySem.Spec PyProof.Rows L2

def eNever : EF := fun _ _ => .bad
theorem de_never {G : Gc} {E : XK} {X : Cx} {e : Expr} : DE G E X e eNever := ⟨fun pins s σ H Q I ⟨ρ, m, H0, as, c, sl, q⟩ => q.elim⟩

/-! ### facts of the written part, decided -/
def vOf (K : PySem.W.Frag) : Tg → Value
  | .bt n => .type n
  | .own c => .ref (He.ga K c)
inductive Fx where
  | kit (t u : Tg) (b : Bool) | ins (c : Str)
def Fx.ok (K : PySem.W.Frag) : Fx → Bool
  | .kit t u b => decide (PySem.W.kitOne K (vOf K t) (vOf K u) = some b)
  | .ins c => He.eqO (PySem.W.findIn K (.ref (He.ga K c)) "__class__") (some (some (.builtin "object.__class__"))) && (He.eqO (PySem.W.specialIn K (.builtin "object.__class__") "__get__") (some (some (.builtin "getset_descriptor.__get__"))) &&
      (decide (PySem.W.takesIn K (.builtin "object.__class__") = some true) && decide (PySem.W.mroIn K (He.ga K c) (.type "object") = some true)))
structure At (G : Gc) (fa : List He.Fa) (fn : List He.DefD) (fx : List Fx) : Prop where
  sd : He.SaysD fa fn G.K
  sx : (fx.all fun f => f.ok G.K) = true
  ns : ∃ h, G.K.In h ∧ h.Ns mainGlobals G.mg
section
variable {G : Gc} {fa : List He.Fa} {fn : List He.DefD} {fx : List Fx}
theorem At.glo (h : At G fa fn fx) {x : Str} (i : Nat) (e : fa[i]? = some (.glo x) := by rfl) : G.mg x = some (.ref (He.ga G.K x)) := by
  obtain ⟨_, a, b⟩ := h.ns
  exact He.glo_ok a b (h.sd.fact i e)
theorem At.free (h : At G fa fn fx) {x : Str} (i : Nat) (e : fa[i]? = some (.free x) := by rfl) : G.mg x = none := by
  obtain ⟨_, a, b⟩ := h.ns
  exact He.free_ok a b (h.sd.fact i e)
theorem At.int (h : At G fa fn fx) {x : Str} {n : Int} (i : Nat) (e : fa[i]? = some (.int x n) := by rfl) : CstOk G x (.int n) := by
  obtain ⟨_, a, b⟩ := h.ns
  obtain ⟨t, e1⟩ := He.int_ok a b (h.sd.fact i e)
  exact ⟨_, .int n, e1, ⟨t, rfl⟩, fun _ => .int⟩
theorem At.cls (h : At G fa fn fx) {x : Str} (i j : Nat) (e1 : fa[i]? = some (.glo x) := by rfl) (e2 : fa[j]? = some (.cls x) := by rfl) : ClsOk G x (He.ga G.K x) := ⟨h.glo i e1, He.cls_ok (h.sd.fact j e2)⟩
theorem At.fld (h : At G fa fn fx) {c f : Str} (i j l : Nat) (e1 : fa[i]? = some (.glo c) := by rfl) (e2 : fa[j]? = some (.cls c) := by rfl) (e3 : fa[l]? = some (.noat c f) := by rfl) : FldOk G c f := ⟨_, h.cls i j e1 e2, He.noat_ok (h.sd.fact l e3)⟩
theorem At.fxx (h : At G fa fn fx) {f : Fx} (i : Nat) (e : fx[i]? = some f := by rfl) : f.ok G.K = true := List.all_eq_true.mp h.sx f (List.mem_of_getElem? e)
theorem res_of {t : Tg} {v : Value} (h : ∀ c, t = .own c → G.mg c = some (.ref (He.ga G.K c))) (r : Res G t v) : v = vOf G.K t := by
  cases t with
  | bt n => exact r
  | own c =>
    obtain ⟨C, e1, e2⟩ := r
    rw [h c rfl] at e1
    cases e1
    exact e2
theorem At.kit (h : At G fa fn fx) {t u : Tg} {b : Bool} (i : Nat) (ht : ∀ c, t = .own c → G.mg c = some (.ref (He.ga G.K c))) (hu : ∀ c, u = .own c → G.mg c = some (.ref (He.ga G.K c))) (e : fx[i]? = some (.kit t u b) := by rfl) : Kit G t u b := ⟨fun vt vu r1 r2 => by
  rw [res_of ht r1, res_of hu r2]
  exact of_decide_eq_true (h.fxx i e)⟩
theorem At.ins (h : At G fa fn fx) {c : Str} (i j l : Nat) (e1 : fa[i]? = some (.glo c) := by rfl) (e2 : fa[j]? = some (.cls c) := by rfl) (e3 : fx[l]? = some (.ins c) := by rfl) : InsOk G c := by
  have q := h.fxx l e3
  obtain ⟨q1, q⟩ := He.ba q
  obtain ⟨q2, q⟩ := He.ba q
  obtain ⟨q3, q4⟩ := He.ba q
  exact ⟨_, h.cls i j e1 e2, He.eqO_ok q1, He.eqO_ok q2, of_decide_eq_true q3, of_decide_eq_true q4⟩
theorem no_bt {n : String} {G : Gc} : ∀ c, Tg.bt n = .own c → G.mg c = some (.ref (He.ga G.K c)) := fun c e => by cases e
theorem is_own {x : Str} (h : G.mg x = some (.ref (He.ga G.K x))) : ∀ c, Tg.own x = .own c → G.mg c = some (.ref (He.ga G.K c)) := fun c e => by cases e; exact h
theorem tag_bt {u : Tg} {n : String} {b : Bool} (h : Kit G (.bt n) u b) : TagOk G u (.bt n) b := ⟨h, fun c e => by cases e⟩
theorem tag_own {u : Tg} {x : Str} {b : Bool} (h : Kit G (.own x) u b) (i : InsOk G x) : TagOk G u (.own x) b := ⟨h, fun c e => by cases e; exact i⟩
end
end FD
end
section
set_option Elab.async false
set_option linter.all false
set_option maxRecDepth 100000
set_option autoImplicit false
namespace FD
open PySem PySem.Spec PyProof.Rows L2
/-- the law's own def: nothing is let out -/
theorem def_ok0 {G : Gc} {x qual : Str} {params : Arguments} {body : List Stmt} {scope : Scope} {dvs : List V} {kws : List (Str × V)} {f : Addr} {fd : FuncData} {N ps vis gl : List Str} {k : Nat} {fb : SF} (F : FunD G.K x qual params body scope dvs kws f fd) (S : ScOk N ps vis gl scope)
    (hb : ∀ (E : XK) (X : Cx), XC G N vis vis gl scope k E X → DSs G E X body fb) :
    FnOk G.P G.w G.K G.mg G.base CX0 (k + 1) f fd ps (fun vs H Q _ => spD G ps.length (fnD N.length fb) vs H Q E0D) := by
  refine F.ok S.sfn (fun vs H Q E h => h.1) fun cdv A outer s H vs Q E hr h => ?_
  obtain ⟨_, ws, m, H0, as, c, r, q⟩ := h
  refine ⟨_, PSs.nox (hb E0D _ ⟨rfl, rfl, rfl, rfl, rfl, rfl, rfl, S.sfn.nd, S.svis, S.sloc, S.sgl, hr, rfl, fun _ _ => .inl rfl, PassesOwn.never, passL⟩), ?_⟩
  refine ⟨startD N.length ws, m, H0, as, c, start_slo r, ?_⟩
  have q := req_trunc c q
  cases e : fb (startD N.length ws) m with
  | bad => rw [e] at q; exact q
  | ex x m1 => rw [e] at q; exact q
  | ok fl m1 =>
    rw [e] at q
    cases fl with
    | next ρ1 => exact fun H0' as' H' f1 c1 σ' s' => q _ _ _ f1 c1 _ .non
    | ret w => exact fun H0' as' H' f1 c1 v rv => q _ _ _ f1 c1 v rv
    | brk ρ1 => exact q.elim
    | cont ρ1 => exact q.elim
/-- the law's call -/
theorem law_sp {G : Gc} {F : FN} {H : Hp} {a : Addr} {ns : List Int} (hS : SqL G.K H a (ns.map V.int)) (h : ∃ m', F [.val (.scr (ns.map D.int))] [] = .ok (.val (.bl true)) m') : spD G 1 F [.ref a] H (fun v _ => v = .bl true) E0D := by
  obtain ⟨m', e⟩ := h
  refine ⟨rfl, [.val (.scr (ns.map D.int))], [], H, [], ⟨Same.refl _, rfl, List.nodup_nil, fun a h => by simp at h, fun k c h => by simp at h⟩, .cons (.scr hS (rps_ints ns)) .nil, ?_⟩
  rw [e]
  intro H0' as' H' f c v rv
  cases (show Rp G.K G.mg H0' v (.bl true) from rv)
  rfl
end FD
end
section
set_option Elab.async false
set_option linter.all false
set_option autoImplicit false
namespace FM

abbrev P2 := Int × Int
def crs (d e : P2) : Int := d.1 * e.2 - d.2 * e.1
def sub2 (a b : P2) : P2 := (a.1 - b.1, a.2 - b.2)
def side (a b p : P2) : Int := crs (sub2 b a) (sub2 p a)
/-- a half: its way, and what it owns along it -/
structure Hf where
  w : P2
  ah : Bool
def Hf.has (h : Hf) (d : P2) : Bool := if crs h.w d = 0 then (decide (0 < d.1 * h.w.1 + d.2 * h.w.2) == h.ah) else decide (0 < crs h.w d)
def Hf.lft (h : Hf) (a b p : P2) : Bool := decide (0 < side a b p) || (decide (side a b p = 0) && h.has (sub2 b a))
def Hf.up (h : Hf) : Bool := decide (0 < -h.w.2) || (decide (-h.w.2 = 0) && decide (0 < if h.ah then h.w.1 else -h.w.1))
def Hf.blw (h : Hf) (a p : P2) : Bool := decide (a.2 < p.2) || (decide (a.2 = p.2) && h.up)
def Hf.own3 (h : Hf) (a b c p : P2) : Bool := h.lft a b p && (h.lft b c p && h.lft c a p)
def bti (b : Bool) : Int := if b then 1 else 0
def Hf.trn (h : Hf) (a b p : P2) : Int := if h.blw a p = h.blw b p then 0 else bti (h.blw a p && h.lft a b p) - bti (h.blw b p && !h.lft a b p)

/-! ### the signs of a shifted point -/
def sg (h : Hf) : Int := if h.ah then 1 else -1
/-- the point p, shifted: N ^ 2 times -/
def sP (h : Hf) (N : Int) (p : P2) : P2 := (N * N * p.1 - N * h.w.1 - sg h * h.w.2, N * N * p.2 - N * h.w.2 + sg h * h.w.1)
def sS (h : Hf) (N : Int) (a b p : P2) : Int := crs (sub2 b a) ((sP h N p).1 - N * N * a.1, (sP h N p).2 - N * N * a.2)
def sH (h : Hf) (N : Int) (a p : P2) : Int := N * N * a.2 - (sP h N p).2
theorem sS_eq (h : Hf) (N : Int) (a b p : P2) : sS h N a b p = N * N * side a b p + (N * crs h.w (sub2 b a) + sg h * ((b.1 - a.1) * h.w.1 + (b.2 - a.2) * h.w.2)) := by
  simp only [sS, sP, side, crs, sub2]
  grind
theorem sH_eq (h : Hf) (N : Int) (a p : P2) : sH h N a p = N * N * (a.2 - p.2) + (N * h.w.2 + -(sg h * h.w.1)) := by
  simp only [sH, sP]
  grind
theorem sS_cyc (h : Hf) (N : Int) (a b c p : P2) : sH h N a p * sS h N b c p + sH h N b p * sS h N c a p + sH h N c p * sS h N a b p = 0 := by
  simp only [sH, sS, crs, sub2]
  generalize (sP h N p).1 = x
  generalize (sP h N p).2 = y
  generalize N * N = M
  grind
theorem sS_sum (h : Hf) (N : Int) (a b c p : P2) : sS h N a b p + sS h N b c p + sS h N c a p = N * N * side a b c := by
  simp only [sS, side, crs, sub2]
  generalize (sP h N p).1 = x
  generalize (sP h N p).2 = y
  generalize N * N = M
  grind
theorem sS_anti (h : Hf) (N : Int) (a b p : P2) : sS h N b a p = -sS h N a b p := by
  simp only [sS, crs, sub2]
  generalize (sP h N p).1 = x
  generalize (sP h N p).2 = y
  generalize N * N = M
  grind
/-- the sign of N ^ 2 u + (N v + t), N large -/
theorem lex_pos {N u v t : Int} (hv : v.natAbs < N) (ht : t.natAbs < N) : 0 < N * N * u + (N * v + t) ↔ 0 < u ∨ (u = 0 ∧ (0 < v ∨ (v = 0 ∧ 0 < t))) := by
  have hN : 0 < N := by omega
  have v1 : v ≤ N - 1 := by omega
  have v2 : -(N - 1) ≤ v := by omega
  have t1 : t ≤ N - 1 := by omega
  have t2 : -(N - 1) ≤ t := by omega
  have b1 : N * v ≤ N * (N - 1) := Int.mul_le_mul_of_nonneg_left v1 (by omega)
  have b2 : N * -(N - 1) ≤ N * v := Int.mul_le_mul_of_nonneg_left v2 (by omega)
  have e1 : N * (N - 1) = N * N - N := by rw [Int.mul_sub, Int.mul_one]
  have e2 : N * -(N - 1) = -(N * N - N) := by rw [Int.mul_neg, e1]
  have nn : 0 ≤ N * N := Int.mul_nonneg (by omega) (by omega)
  rcases Int.lt_trichotomy u 0 with hu | hu | hu
  · have : N * N * u ≤ N * N * -1 := Int.mul_le_mul_of_nonneg_left (by omega) nn
    rw [Int.mul_neg, Int.mul_one] at this
    constructor
    · intro q; omega
    · intro q; omega
  · subst hu
    rw [Int.mul_zero, Int.zero_add]
    rcases Int.lt_trichotomy v 0 with hv0 | hv0 | hv0
    · have : N * v ≤ N * -1 := Int.mul_le_mul_of_nonneg_left (by omega) (by omega)
      rw [Int.mul_neg, Int.mul_one] at this
      constructor
      · intro q; omega
      · intro q; omega
    · subst hv0
      rw [Int.mul_zero, Int.zero_add]
      constructor
      · intro q; exact .inr ⟨rfl, .inr ⟨rfl, q⟩⟩
      · intro q; omega
    · have : N * 1 ≤ N * v := Int.mul_le_mul_of_nonneg_left (by omega) (by omega)
      rw [Int.mul_one] at this
      constructor
      · intro q; exact .inr ⟨rfl, .inl hv0⟩
      · intro q; omega
  · have : N * N * 1 ≤ N * N * u := Int.mul_le_mul_of_nonneg_left (by omega) nn
    rw [Int.mul_one] at this
    constructor
    · intro q; exact .inl hu
    · intro q; omega
/-- three numbers and three heights -/
def tS (h h' s : Int) : Int := if decide (h < 0) = decide (h' < 0) then 0 else bti (decide (h < 0) && decide (0 < s)) - bti (decide (h' < 0) && !decide (0 < s))
theorem three {x y z a b c : Int} (hx : x ≠ 0) (hy : y ≠ 0) (hz : z ≠ 0) (ha : a ≠ 0) (hb : b ≠ 0) (hc : c ≠ 0) (e : a * y + b * z + c * x = 0) :
    bti (decide (0 < x) && (decide (0 < y) && decide (0 < z))) - bti (decide (x < 0) && (decide (y < 0) && decide (z < 0))) = tS a b x + tS b c y + tS c a z := by
  have pp : ∀ {u v : Int}, 0 < u → 0 < v → 0 < u * v := fun h1 h2 => Int.mul_pos h1 h2
  have nn : ∀ {u v : Int}, u < 0 → v < 0 → 0 < u * v := fun h1 h2 => Int.mul_pos_of_neg_of_neg h1 h2
  have pn : ∀ {u v : Int}, 0 < u → v < 0 → u * v < 0 := fun h1 h2 => Int.mul_neg_of_pos_of_neg h1 h2
  have np : ∀ {u v : Int}, u < 0 → 0 < v → u * v < 0 := fun h1 h2 => Int.mul_neg_of_neg_of_pos h1 h2
  have sp : ∀ {u : Int}, u ≠ 0 → (0 < u ∧ ¬ u < 0) ∨ (u < 0 ∧ ¬ 0 < u) := fun h => by omega
  rcases sp hx with ⟨x1, x2⟩ | ⟨x1, x2⟩ <;> rcases sp hy with ⟨y1, y2⟩ | ⟨y1, y2⟩ <;> rcases sp hz with ⟨z1, z2⟩ | ⟨z1, z2⟩ <;> rcases sp ha with ⟨a1, a2⟩ | ⟨a1, a2⟩ <;> rcases sp hb with ⟨b1, b2⟩ | ⟨b1, b2⟩ <;> rcases sp hc with ⟨c1, c2⟩ | ⟨c1, c2⟩ <;>
    first
      | (simp [tS, bti, x1, x2, y1, y2, z1, z2, a1, a2, b1, b2, c1, c2]; done)
      | (exfalso
         have q1 : 0 < a * y ∨ a * y < 0 := by first | exact .inl (pp a1 y1) | exact .inl (nn a1 y1) | exact .inr (pn a1 y1) | exact .inr (np a1 y1)
         first
           | (have := pp a1 y1; have := pp b1 z1; have := pp c1 x1; omega)
           | (have := nn a1 y1; have := nn b1 z1; have := nn c1 x1; omega)
           | (have := pn a1 y1; have := pn b1 z1; have := pn c1 x1; omega)
           | (have := np a1 y1; have := np b1 z1; have := np c1 x1; omega)
           | (have := nn a1 y1; have := pp b1 z1; have := pp c1 x1; omega)
           | (have := pp a1 y1; have := nn b1 z1; have := pp c1 x1; omega)
           | (have := pp a1 y1; have := pp b1 z1; have := nn c1 x1; omega)
           | (have := pp a1 y1; have := nn b1 z1; have := nn c1 x1; omega)
           | (have := nn a1 y1; have := pp b1 z1; have := nn c1 x1; omega)
           | (have := nn a1 y1; have := nn b1 z1; have := pp c1 x1; omega)
           | (have := np a1 y1; have := pn b1 z1; have := pn c1 x1; omega)
           | (have := pn a1 y1; have := np b1 z1; have := pn c1 x1; omega)
           | (have := pn a1 y1; have := pn b1 z1; have := np c1 x1; omega)
           | (have := pn a1 y1; have := np b1 z1; have := np c1 x1; omega)
           | (have := np a1 y1; have := pn b1 z1; have := np c1 x1; omega)
           | (have := np a1 y1; have := np b1 z1; have := pn c1 x1; omega))
end FM
end
section
set_option Elab.async false
set_option linter.all false
set_option autoImplicit false
namespace FM
theorem sq_pos {w : P2} (h : w ≠ (0, 0)) : 0 < w.1 * w.1 + w.2 * w.2 := by
  obtain ⟨x, y⟩ := w
  have hx : 0 ≤ x * x := by rcases Int.le_total 0 x with q | q; exact Int.mul_nonneg q q; exact Int.mul_nonneg_of_nonpos_of_nonpos q q
  have hy : 0 ≤ y * y := by rcases Int.le_total 0 y with q | q; exact Int.mul_nonneg q q; exact Int.mul_nonneg_of_nonpos_of_nonpos q q
  show 0 < x * x + y * y
  by_cases e : x = 0
  · by_cases e2 : y = 0
    · exact absurd (by rw [e, e2]) h
    · have := Int.mul_self_pos_of_ne_zero' e2
      omega
  · have := Int.mul_self_pos_of_ne_zero' e
    omega
where
  Int.mul_self_pos_of_ne_zero' {x : Int} (h : x ≠ 0) : 0 < x * x := by
    rcases Int.lt_or_gt_of_ne h with q | q
    · exact Int.mul_pos_of_neg_of_neg q q
    · exact Int.mul_pos q q
def dot (d w : P2) : Int := d.1 * w.1 + d.2 * w.2
theorem dot_ne {w d : P2} (hw : w ≠ (0, 0)) (hd : d ≠ (0, 0)) (e : crs w d = 0) : dot d w ≠ 0 := by
  intro e2
  have h1 := sq_pos hw
  have h2 := sq_pos hd
  have h3 := Int.mul_pos h1 h2
  have id : (w.1 * w.1 + w.2 * w.2) * (d.1 * d.1 + d.2 * d.2) = crs w d * crs w d + dot d w * dot d w := by
    simp only [crs, dot]
    grind
  rw [id, e, e2] at h3
  simp at h3
theorem sub_ne {a b : P2} (h : a ≠ b) : sub2 b a ≠ (0, 0) := by
  intro e
  obtain ⟨a1, a2⟩ := a
  obtain ⟨b1, b2⟩ := b
  simp only [sub2, Prod.mk.injEq] at e
  exact h (by rw [Prod.mk.injEq]; omega)
/-- N is large for a way -/
def Big (h : Hf) (N : Int) (a b : P2) : Prop := (crs h.w (sub2 b a)).natAbs < N ∧ (sg h * dot (sub2 b a) h.w).natAbs < N
theorem sg_dot (h : Hf) {t : Int} (ht : t ≠ 0) : (decide (0 < t) == h.ah) = decide (0 < sg h * t) := by
  unfold sg
  cases h.ah
  · simp
    have e : (-1 : Int) * t = -t := by omega
    first
      | (simp only [e]; by_cases q : 0 < t <;> simp [q] <;> omega)
      | (by_cases q : 0 < t <;> simp [q] <;> omega)
  · simp
theorem lft_iff {h : Hf} (hw : h.w ≠ (0, 0)) {N : Int} {a b : P2} (p : P2) (hab : a ≠ b) (B : Big h N a b) : h.lft a b p = decide (0 < sS h N a b p) := by
  have key := lex_pos (u := side a b p) B.1 B.2
  have e : sS h N a b p = N * N * side a b p + (N * crs h.w (sub2 b a) + sg h * dot (sub2 b a) h.w) := by rw [sS_eq]; rfl
  rw [e]
  have hd := sub_ne hab
  have k2 : h.has (sub2 b a) = decide (0 < crs h.w (sub2 b a) ∨ (crs h.w (sub2 b a) = 0 ∧ 0 < sg h * dot (sub2 b a) h.w)) := by
    unfold Hf.has
    by_cases q : crs h.w (sub2 b a) = 0
    · rw [if_pos q]
      refine (show (decide (0 < dot (sub2 b a) h.w) == h.ah) = _ from sg_dot h (dot_ne hw hd q)).trans ?_
      simp [q]
    · rw [if_neg q]
      simp [q]
  unfold Hf.lft
  rw [k2, Bool.eq_iff_iff]
  simp only [decide_eq_true_eq, Bool.or_eq_true, Bool.and_eq_true]
  exact key.symm
theorem sS_ne {h : Hf} (hw : h.w ≠ (0, 0)) {N : Int} {a b : P2} (p : P2) (hab : a ≠ b) (B : Big h N a b) : sS h N a b p ≠ 0 := by
  intro e0
  have e : sS h N a b p = N * N * side a b p + (N * crs h.w (sub2 b a) + sg h * dot (sub2 b a) h.w) := by rw [sS_eq]; rfl
  have k1 := lex_pos (u := side a b p) B.1 B.2
  have k2 := lex_pos (N := N) (u := -side a b p) (v := -crs h.w (sub2 b a)) (t := -(sg h * dot (sub2 b a) h.w)) (by have := B.1; omega) (by have := B.2; omega)
  have e3 : N * N * -side a b p + (N * -crs h.w (sub2 b a) + -(sg h * dot (sub2 b a) h.w)) = -sS h N a b p := by rw [e]; grind
  rw [← e, e0] at k1
  rw [e3, e0] at k2
  have n1 : ¬ (0 < side a b p ∨ (side a b p = 0 ∧ (0 < crs h.w (sub2 b a) ∨ (crs h.w (sub2 b a) = 0 ∧ 0 < sg h * dot (sub2 b a) h.w)))) := fun q => absurd (k1.mpr q) (by omega)
  have n2 : ¬ (0 < -side a b p ∨ (-side a b p = 0 ∧ (0 < -crs h.w (sub2 b a) ∨ (-crs h.w (sub2 b a) = 0 ∧ 0 < -(sg h * dot (sub2 b a) h.w))))) := fun q => absurd (k2.mpr q) (by omega)
  have c0 : crs h.w (sub2 b a) = 0 := by omega
  have d0 := dot_ne hw (sub_ne hab) c0
  have s0 : sg h * dot (sub2 b a) h.w ≠ 0 := by
    unfold sg
    cases h.ah <;> simp <;> exact d0
  omega
theorem blw_iff {h : Hf} (hw : h.w ≠ (0, 0)) {N : Int} (a p : P2) (h1 : h.w.1.natAbs < N) (h2 : h.w.2.natAbs < N) : h.blw a p = decide (sH h N a p < 0) ∧ sH h N a p ≠ 0 := by
  have e : sH h N a p = N * N * (a.2 - p.2) + (N * h.w.2 + -(sg h * h.w.1)) := sH_eq h N a p
  have hs : (sg h * h.w.1).natAbs = h.w.1.natAbs := by unfold sg; cases h.ah <;> simp
  have k1 := lex_pos (N := N) (u := a.2 - p.2) (v := h.w.2) (t := -(sg h * h.w.1)) h2 (by omega)
  have k2 := lex_pos (N := N) (u := p.2 - a.2) (v := -h.w.2) (t := sg h * h.w.1) (by omega) (by omega)
  have e3 : N * N * (p.2 - a.2) + (N * -h.w.2 + sg h * h.w.1) = -sH h N a p := by rw [e]; grind
  rw [← e] at k1
  rw [e3] at k2
  have hsg : (decide (0 < if h.ah then h.w.1 else -h.w.1)) = decide (0 < sg h * h.w.1) := by unfold sg; cases h.ah <;> simp
  have u2 : h.up = decide (0 < -h.w.2 ∨ (-h.w.2 = 0 ∧ 0 < sg h * h.w.1)) := by
    unfold Hf.up
    rw [hsg]
    by_cases q : 0 < -h.w.2 <;> by_cases q2 : -h.w.2 = 0 <;> simp [q, q2]
  refine ⟨?_, fun e0 => ?_⟩
  · unfold Hf.blw
    rw [u2]
    have : (sH h N a p < 0) ↔ (0 < -sH h N a p) := by omega
    rw [Bool.eq_iff_iff]
    simp only [decide_eq_true_eq, Bool.or_eq_true, Bool.and_eq_true]
    rw [this, k2]
    omega
  · rw [e0] at k1 k2
    have w1 : h.w.1 ≠ 0 ∨ h.w.2 ≠ 0 := by
      by_cases q : h.w.1 = 0
      · right
        intro q2
        exact hw (Prod.ext q q2)
      · exact .inl q
    have : sg h * h.w.1 = 0 ↔ h.w.1 = 0 := by unfold sg; cases h.ah <;> simp
    omega
theorem trn_eq {h : Hf} (hw : h.w ≠ (0, 0)) {N : Int} {a b : P2} (p : P2) (hab : a ≠ b) (B : Big h N a b) (h1 : h.w.1.natAbs < N) (h2 : h.w.2.natAbs < N) : h.trn a b p = tS (sH h N a p) (sH h N b p) (sS h N a b p) := by
  unfold Hf.trn tS
  rw [lft_iff hw p hab B, (blw_iff hw a p h1 h2).1, (blw_iff hw b p h1 h2).1]
theorem trn_self (h : Hf) (a p : P2) : h.trn a a p = 0 := by unfold Hf.trn; rw [if_pos rfl]
theorem exBig (h : Hf) (l : List (P2 × P2)) : ∃ N : Int, h.w.1.natAbs < N ∧ h.w.2.natAbs < N ∧ ∀ q, q ∈ l → Big h N q.1 q.2 := by
  induction l with
  | nil => exact ⟨h.w.1.natAbs + h.w.2.natAbs + 1, by omega, by omega, fun q hq => by simp at hq⟩
  | cons a r ih =>
    obtain ⟨N, n1, n2, n3⟩ := ih
    refine ⟨N + ((crs h.w (sub2 a.2 a.1)).natAbs + (sg h * dot (sub2 a.2 a.1) h.w).natAbs), by omega, by omega, fun q hq => ?_⟩
    rcases List.mem_cons.mp hq with e | hq
    · rw [e]
      exact ⟨by omega, by omega⟩
    · obtain ⟨m1, m2⟩ := n3 q hq
      exact ⟨by omega, by omega⟩
theorem trn_anti {h : Hf} (hw : h.w ≠ (0, 0)) (a b p : P2) : h.trn b a p = -h.trn a b p := by
  by_cases e : a = b
  · rw [e, trn_self]; rfl
  · obtain ⟨N, n1, n2, n3⟩ := exBig h [(a, b), (b, a)]
    have B1 := n3 (a, b) (by simp)
    have B2 := n3 (b, a) (by simp)
    rw [trn_eq hw p (Ne.symm e) B2 n1 n2, trn_eq hw p e B1 n1 n2, sS_anti]
    have s0 := sS_ne hw p e B1
    have g1 := (blw_iff hw a p n1 n2).2
    have g2 := (blw_iff hw b p n1 n2).2
    generalize sS h N a b p = s at *
    generalize sH h N a p = x at *
    generalize sH h N b p = y at *
    unfold tS bti
    rcases Int.lt_or_gt_of_ne s0 with q | q <;> rcases Int.lt_or_gt_of_ne g1 with q1 | q1 <;> rcases Int.lt_or_gt_of_ne g2 with q2 | q2
    all_goals
      have t1 : ¬ (0 < s ∧ s < 0) := by omega
      simp [q, q1, q2, Int.not_lt.mpr (Int.le_of_lt q), Int.not_lt.mpr (Int.le_of_lt q1), Int.not_lt.mpr (Int.le_of_lt q2)]
/-- a triple's owner both ways is what its three ways turn -/
def Hf.cnt (h : Hf) (a b c p : P2) : Int × Int := (bti (decide (0 < side a b c) && h.own3 a b c p), bti (decide (side a b c < 0) && h.own3 a c b p))
theorem cnt_trn {h : Hf} (hw : h.w ≠ (0, 0)) (a b c p : P2) : (h.cnt a b c p).1 - (h.cnt a b c p).2 = h.trn a b p + h.trn b c p + h.trn c a p := by
  have deg : ∀ {a b c : P2}, (a = b ∨ b = c ∨ c = a) → side a b c = 0 := by
    intro a b c hh
    rcases hh with e | e | e <;> subst e <;> simp only [side, crs, sub2] <;> grind
  by_cases hd : a = b ∨ b = c ∨ c = a
  · have e0 := deg hd
    have l0 : (h.cnt a b c p).1 - (h.cnt a b c p).2 = 0 := by simp [Hf.cnt, e0, bti]
    rw [l0]
    rcases hd with e | e | e
    · subst e
      rw [trn_self, trn_anti hw c a p]; omega
    · subst e
      rw [trn_self, trn_anti hw b a p]; omega
    · subst e
      rw [trn_self, trn_anti hw c b p]; omega
  · have n1 : a ≠ b := fun e => hd (.inl e)
    have n2 : b ≠ c := fun e => hd (.inr (.inl e))
    have n3 : c ≠ a := fun e => hd (.inr (.inr e))
    obtain ⟨N, w1, w2, hb⟩ := exBig h [(a, b), (b, c), (c, a), (a, c), (c, b), (b, a)]
    have B1 := hb (a, b) (by simp)
    have B2 := hb (b, c) (by simp)
    have B3 := hb (c, a) (by simp)
    have B4 := hb (a, c) (by simp)
    have B5 := hb (c, b) (by simp)
    have B6 := hb (b, a) (by simp)
    have x0 := sS_ne hw p n1 B1
    have y0 := sS_ne hw p n2 B2
    have z0 := sS_ne hw p n3 B3
    have a0 := blw_iff hw a p w1 w2
    have b0 := blw_iff hw b p w1 w2
    have c0 := blw_iff hw c p w1 w2
    have T := three x0 y0 z0 a0.2 b0.2 c0.2 (sS_cyc h N a b c p)
    rw [trn_eq hw p n1 B1 w1 w2, trn_eq hw p n2 B2 w1 w2, trn_eq hw p n3 B3 w1 w2, ← T]
    have S := sS_sum h N a b c p
    have NN : 0 < N * N := Int.mul_pos (by omega) (by omega)
    unfold Hf.cnt Hf.own3
    rw [lft_iff hw p n1 B1, lft_iff hw p n2 B2, lft_iff hw p n3 B3, lft_iff hw p (Ne.symm n3) B4, lft_iff hw p (Ne.symm n2) B5, lft_iff hw p (Ne.symm n1) B6, sS_anti h N c a p, sS_anti h N b c p, sS_anti h N a b p]
    have f1 : (decide (0 < side a b c) && (decide (0 < sS h N a b p) && (decide (0 < sS h N b c p) && decide (0 < sS h N c a p)))) = (decide (0 < sS h N a b p) && (decide (0 < sS h N b c p) && decide (0 < sS h N c a p))) := by
      by_cases q : 0 < sS h N a b p ∧ 0 < sS h N b c p ∧ 0 < sS h N c a p
      · have : 0 < N * N * side a b c := by omega
        have : 0 < side a b c := by
          rcases (by omega : 0 < side a b c ∨ side a b c ≤ 0) with g | g
          · exact g
          · have : N * N * side a b c ≤ N * N * 0 := Int.mul_le_mul_of_nonneg_left g (Int.le_of_lt NN)
            omega
        simp [this]
      · by_cases g : 0 < side a b c
        · simp [g]
        · simp [g]
          omega
    have f2 : (decide (side a b c < 0) && (decide (0 < -sS h N c a p) && (decide (0 < -sS h N b c p) && decide (0 < -sS h N a b p)))) = (decide (sS h N a b p < 0) && (decide (sS h N b c p < 0) && decide (sS h N c a p < 0))) := by
      by_cases q : sS h N a b p < 0 ∧ sS h N b c p < 0 ∧ sS h N c a p < 0
      · have : N * N * side a b c < 0 := by omega
        have : side a b c < 0 := by
          rcases (by omega : side a b c < 0 ∨ 0 ≤ side a b c) with g | g
          · exact g
          · have : N * N * 0 ≤ N * N * side a b c := Int.mul_le_mul_of_nonneg_left g (Int.le_of_lt NN)
            omega
        simp [this, q]
      · by_cases g : side a b c < 0
        · simp [g]
          grind
        · simp [g]
          omega
    rw [f1, f2]
end FM
end
section
set_option Elab.async false
set_option linter.all false
set_option autoImplicit false
namespace FM
abbrev W2 := Int × Int
abbrev T3 := Int × Int × Int
def pAt (ps : List P2) (i : Int) : P2 := ps.getD i.toNat (0, 0)
def rev (w : W2) : W2 := (w.2, w.1)
def ways3 (t : T3) : List W2 := [(t.1, t.2.1), (t.2.1, t.2.2), (t.2.2, t.1)]
def sumF {α : Type} (g : α → Int) (l : List α) : Int := (l.map g).sum
@[simp] theorem sumF_nil {α : Type} (g : α → Int) : sumF g [] = 0 := rfl
@[simp] theorem sumF_cons {α : Type} (g : α → Int) (a : α) (l : List α) : sumF g (a :: l) = g a + sumF g l := by simp [sumF]
@[simp] theorem sumF_append {α : Type} (g : α → Int) (l r : List α) : sumF g (l ++ r) = sumF g l + sumF g r := by simp [sumF]
theorem sumF_perm {α : Type} (g : α → Int) {l r : List α} (h : l.Perm r) : sumF g l = sumF g r := by
  induction h with
  | nil => rfl
  | cons a _ ih => simp [ih]
  | swap a b l => simp; omega
  | trans _ _ i1 i2 => exact i1.trans i2
theorem sumF_flatMap {α β : Type} (g : β → Int) (f : α → List β) (l : List α) : sumF g (l.flatMap f) = sumF (fun a => sumF g (f a)) l := by
  induction l with
  | nil => rfl
  | cons a l ih => simp [ih]
theorem sumF_congr {α : Type} {g g' : α → Int} {l : List α} (h : ∀ a, a ∈ l → g a = g' a) : sumF g l = sumF g' l := by
  induction l with
  | nil => rfl
  | cons a l ih =>
    rw [sumF_cons, sumF_cons, h a (by simp), ih fun b hb => h b (by simp [hb])]
theorem sumF_add {α : Type} (g g' : α → Int) (l : List α) : sumF (fun a => g a + g' a) l = sumF g l + sumF g' l := by
  induction l with
  | nil => rfl
  | cons a l ih => simp [ih]; omega
theorem sumF_neg {α : Type} (g : α → Int) (l : List α) : sumF (fun a => -g a) l = -sumF g l := by
  induction l with
  | nil => rfl
  | cons a l ih => simp [ih]; omega
theorem sumF_map {α β : Type} (g : β → Int) (f : α → β) (l : List α) : sumF g (l.map f) = sumF (fun a => g (f a)) l := by
  induction l with
  | nil => rfl
  | cons a l ih => simp [ih]

/-! ### opposite ways go -/
def step (l : List W2) (w : W2) : List W2 := if rev w ∈ l then l.erase (rev w) else l ++ [w]
def cancel (l ws : List W2) : List W2 := ws.foldl step l
theorem sumF_erase {α : Type} [BEq α] [LawfulBEq α] (g : α → Int) {l : List α} {a : α} (h : a ∈ l) : sumF g (l.erase a) = sumF g l - g a := by
  have := sumF_perm g (List.perm_cons_erase h)
  rw [sumF_cons] at this
  omega
theorem step_sum {g : W2 → Int} (hg : ∀ w, g (rev w) = -g w) (l : List W2) (w : W2) : sumF g (step l w) = sumF g l + g w := by
  unfold step
  split
  · rename_i h
    rw [sumF_erase g h, hg]; omega
  · simp
theorem cancel_sum {g : W2 → Int} (hg : ∀ w, g (rev w) = -g w) (ws : List W2) : ∀ l, sumF g (cancel l ws) = sumF g l + sumF g ws := by
  induction ws with
  | nil => intro l; simp [cancel]
  | cons w ws ih =>
    intro l
    have := ih (step l w)
    unfold cancel at this ⊢
    rw [List.foldl_cons, this, step_sum hg, sumF_cons]; omega
def Red (l : List W2) : Prop := ∀ w, w ∈ l → rev w ∉ l
theorem step_red {l : List W2} (h : Red l) {w : W2} (hw : w.1 ≠ w.2) : Red (step l w) := by
  unfold step
  split
  · intro v hv hr
    exact h v (List.mem_of_mem_erase hv) (List.mem_of_mem_erase hr)
  · rename_i hn
    intro v hv hr
    rw [List.mem_append, List.mem_singleton] at hv hr
    rcases hv with hv | hv <;> rcases hr with hr | hr
    · exact h v hv hr
    · exact hn (by rw [← hr]; exact hv)
    · rw [hv] at hr; exact hn hr
    · rw [hv] at hr
      exact hw (congrArg Prod.fst hr).symm
theorem cancel_red {ws : List W2} (hw : ∀ w, w ∈ ws → w.1 ≠ w.2) : ∀ {l}, Red l → Red (cancel l ws) := by
  induction ws with
  | nil => intro l h; exact h
  | cons w ws ih =>
    intro l h
    exact ih (fun v hv => hw v (by simp [hv])) (step_red h (hw w (by simp)))
theorem step_mem {P : W2 → Prop} {l : List W2} (h : ∀ w, w ∈ l → P w) {w : W2} (hw : P w) : ∀ v, v ∈ step l w → P v := by
  unfold step
  split
  · intro v hv; exact h v (List.mem_of_mem_erase hv)
  · intro v hv
    rw [List.mem_append, List.mem_singleton] at hv
    rcases hv with hv | hv
    · exact h v hv
    · rw [hv]; exact hw
theorem cancel_mem {P : W2 → Prop} {ws : List W2} (hw : ∀ w, w ∈ ws → P w) : ∀ {l}, (∀ w, w ∈ l → P w) → ∀ v, v ∈ cancel l ws → P v := by
  induction ws with
  | nil => intro l h; exact h
  | cons w ws ih =>
    intro l h
    exact ih (fun v hv => hw v (by simp [hv])) (step_mem h (hw w (by simp)))
/-- how often more w than back -/
def net (w : W2) (v : W2) : Int := if v = w then 1 else if v = rev w then -1 else 0
theorem rev_rev (w : W2) : rev (rev w) = w := rfl
theorem rev_ne {w : W2} (hw : w.1 ≠ w.2) : rev w ≠ w := fun h => hw (congrArg Prod.fst h).symm
theorem net_anti {w : W2} (hw : w.1 ≠ w.2) (v : W2) : net w (rev v) = -net w v := by
  unfold net
  by_cases q1 : v = w
  · subst q1
    rw [if_neg (rev_ne hw), if_pos rfl, if_pos rfl]
  · by_cases q2 : v = rev w
    · subst q2
      rw [rev_rev, if_pos rfl, if_neg (rev_ne hw), if_pos rfl]; rfl
    · rw [if_neg (fun h => q2 (by rw [← h, rev_rev])), if_neg (fun h => q1 (by rw [← rev_rev v, h, rev_rev])), if_neg q1, if_neg q2]; rfl
theorem count_net {w : W2} (hw : w.1 ≠ w.2) (l : List W2) : sumF (net w) l = (l.count w : Int) - (l.count (rev w) : Int) := by
  have hr : rev w ≠ w := fun h => hw (congrArg Prod.fst h).symm
  induction l with
  | nil => rfl
  | cons v l ih =>
    rw [sumF_cons, ih, List.count_cons, List.count_cons]
    unfold net
    by_cases q1 : v = w
    · subst q1
      simp [hr, Ne.symm hr]; omega
    · by_cases q2 : v = rev w
      · subst q2
        simp [hr, q1]; omega
      · simp [q1, q2]
theorem red_count {l : List W2} (h : Red l) {w : W2} (hw : w.1 ≠ w.2) : (l.count w : Int) = max 0 (sumF (net w) l) := by
  rw [count_net hw]
  by_cases q : w ∈ l
  · have := List.count_eq_zero.mpr (h w q)
    rw [this]; omega
  · have := List.count_eq_zero.mpr q
    rw [this]; omega
theorem red_perm {l r : List W2} (hl : Red l) (hr : Red r) (dl : ∀ w, w ∈ l → w.1 ≠ w.2) (dr : ∀ w, w ∈ r → w.1 ≠ w.2) (e : ∀ w : W2, w.1 ≠ w.2 → sumF (net w) l = sumF (net w) r) : l.Perm r := by
  rw [List.perm_iff_count]
  intro w
  by_cases hw : w.1 = w.2
  · rw [List.count_eq_zero.mpr fun h => dl w h hw, List.count_eq_zero.mpr fun h => dr w h hw]
  · have h1 := red_count hl hw
    have h2 := red_count hr hw
    rw [e w hw] at h1
    omega

/-! ### ascending -/
def srt (ns : List Int) : List Int := ns.mergeSort fun a b => decide (a ≤ b)
theorem srt_perm (ns : List Int) : (srt ns).Perm ns := List.mergeSort_perm ..
theorem srt_sorted (ns : List Int) : (srt ns).Pairwise (· ≤ ·) := by
  have h := List.pairwise_mergeSort (le := fun a b : Int => decide (a ≤ b)) (fun a b c h1 h2 => by simp at *; omega) (fun a b => by simp; omega) ns
  exact h.imp fun h => by simpa using h
theorem srt_uniq {xs ys : List Int} (h1 : xs.Perm ys) (h2 : ys.Pairwise (· ≤ ·)) : srt xs = ys :=
  ((srt_perm xs).trans h1).eq_of_pairwise (fun a b _ _ h h' => Int.le_antisymm h h') (srt_sorted xs) h2
def ascRow (ways : List W2) (f : Int) : List W2 := (srt ((ways.filter fun w => decide (w.1 = f)).map (·.2))).map fun j => (f, j)
def ascN (ways : List W2) (n : Nat) : List W2 := ((List.range n).map fun (i : Nat) => (i : Int)).flatMap (ascRow ways)
theorem row_perm (ways : List W2) (f : Int) : (ascRow ways f).Perm (ways.filter fun w => decide (w.1 = f)) := by
  unfold ascRow
  have h := (srt_perm ((ways.filter fun w => decide (w.1 = f)).map (·.2))).map fun j => ((f, j) : W2)
  refine h.trans ?_
  rw [List.map_map]
  have e : ∀ l : List W2, (∀ w, w ∈ l → w.1 = f) → l.map ((fun j => ((f, j) : W2)) ∘ fun x => x.2) = l := by
    intro l
    induction l with
    | nil => intro _; rfl
    | cons w l ih =>
      intro h
      rw [List.map_cons, ih fun v hv => h v (by simp [hv])]
      have := h w (by simp)
      obtain ⟨a, b⟩ := w
      simp only [Function.comp] at this ⊢
      rw [← this]
  rw [e _ fun w hw => by simpa using (List.mem_filter.mp hw).2]
theorem filter_split (ways : List W2) (n : Nat) (h : ∀ w, w ∈ ways → 0 ≤ w.1) : (ways.filter fun w => decide (w.1 < ((n + 1 : Nat) : Int))).Perm ((ways.filter fun w => decide (w.1 < ((n : Nat) : Int))) ++ ways.filter fun w => decide (w.1 = ((n : Nat) : Int))) := by
  induction ways with
  | nil => exact .nil
  | cons w ws ih =>
    have ih := ih fun v hv => h v (by simp [hv])
    rcases Int.lt_trichotomy w.1 n with q | q | q
    · rw [List.filter_cons_of_pos (by simp; omega), List.filter_cons_of_pos (by simp; omega), List.filter_cons_of_neg (by simp; omega)]
      exact ih.cons w
    · rw [List.filter_cons_of_pos (by simp; omega), List.filter_cons_of_neg (by simp; omega), List.filter_cons_of_pos (by simp; omega)]
      exact (ih.cons w).trans List.perm_middle.symm
    · rw [List.filter_cons_of_neg (by simp; omega), List.filter_cons_of_neg (by simp; omega), List.filter_cons_of_neg (by simp; omega)]
      exact ih
theorem ascN_perm (ways : List W2) (h : ∀ w, w ∈ ways → 0 ≤ w.1) : ∀ n : Nat, (ascN ways n).Perm (ways.filter fun w => decide (w.1 < ((n : Nat) : Int)))
  | 0 => by
    have : (ways.filter fun w => decide (w.1 < ((0 : Nat) : Int))) = [] := by
      rw [List.filter_eq_nil_iff]
      intro w hw
      have := h w hw
      simp; omega
    rw [this]
    exact List.Perm.refl _
  | n + 1 => by
    have ih := ascN_perm ways h n
    refine .trans ?_ (filter_split ways n h).symm
    have e : ascN ways (n + 1) = ascN ways n ++ ascRow ways n := by
      unfold ascN
      rw [List.range_succ, List.map_append, List.flatMap_append]
      simp
    rw [e]
    exact ih.append (row_perm ways n)
theorem asc_perm {ways : List W2} {n : Nat} (h : ∀ w, w ∈ ways → 0 ≤ w.1 ∧ w.1 < n) : (ascN ways n).Perm ways := by
  refine (ascN_perm ways (fun w hw => (h w hw).1) n).trans ?_
  rw [List.filter_eq_self.mpr fun w hw => by simpa using (h w hw).2]
/-- the numbers n * i + j of ascending ways stand in order -/
theorem asc_sorted {ways : List W2} {m : Int} (n : Nat) (h : ∀ w, w ∈ ways → 0 ≤ w.2 ∧ w.2 < m) : ((ascN ways n).map fun w => m * w.1 + w.2).Pairwise (· ≤ ·) := by
  have mem : ∀ {k : Nat} {w}, w ∈ ascN ways k → 0 ≤ w.2 ∧ w.2 < m ∧ 0 ≤ w.1 ∧ w.1 < k := by
    intro k w hw
    unfold ascN at hw
    rw [List.mem_flatMap] at hw
    obtain ⟨f, hf, hw⟩ := hw
    rw [List.mem_map] at hf
    obtain ⟨i, hi, rfl⟩ := hf
    have hi := List.mem_range.mp hi
    have h1 := (row_perm ways i).mem_iff.mp hw
    obtain ⟨h2, h3⟩ := List.mem_filter.mp h1
    have h3 : w.1 = i := by simpa using h3
    have := h w h2
    omega
  induction n with
  | zero => exact List.Pairwise.nil
  | succ n ih =>
    have e : ascN ways (n + 1) = ascN ways n ++ ascRow ways n := by
      unfold ascN
      rw [List.range_succ, List.map_append, List.flatMap_append]
      simp
    rw [e, List.map_append, List.pairwise_append]
    refine ⟨ih, ?_, fun a ha b hb => ?_⟩
    · unfold ascRow
      rw [List.map_map]
      refine List.Pairwise.map _ (fun a b (hab : a ≤ b) => ?_) (srt_sorted _)
      simp only [Function.comp]; omega
    · rw [List.mem_map] at ha hb
      obtain ⟨x, hx, rfl⟩ := ha
      obtain ⟨y, hy, rfl⟩ := hb
      have m1 := mem hx
      have hy1 : y ∈ ascN ways (n + 1) := by rw [e]; exact List.mem_append_right _ hy
      have m2 := mem hy1
      have y1 : y.1 = n := by
        have := (List.mem_filter.mp ((row_perm ways n).mem_iff.mp hy)).2
        simpa using this
      have q : m * (x.1 + 1) ≤ m * y.1 := Int.mul_le_mul_of_nonneg_left (by omega) (by omega)
      rw [Int.mul_add, Int.mul_one] at q
      omega

/-! ### nets -/
def rimU (ts : List T3) : List W2 := cancel [] (ts.flatMap ways3)
def rimL (ts : List T3) : List W2 := ascN (rimU ts) 100
def Hf.trnI (h : Hf) (ps : List P2) (p : P2) (w : W2) : Int := h.trn (pAt ps w.1) (pAt ps w.2) p
def Hf.cntT (h : Hf) (ps : List P2) (p : P2) (t : T3) : Int × Int := h.cnt (pAt ps t.1) (pAt ps t.2.1) (pAt ps t.2.2) p
def Hf.cnts (h : Hf) (ps : List P2) (ts : List T3) (p : P2) : Int × Int := (sumF (fun t => (h.cntT ps p t).1) ts, sumF (fun t => (h.cntT ps p t).2) ts)
def TOk (n : Int) (t : T3) : Prop := (0 ≤ t.1 ∧ t.1 < n) ∧ (0 ≤ t.2.1 ∧ t.2.1 < n) ∧ (0 ≤ t.2.2 ∧ t.2.2 < n) ∧ t.1 ≠ t.2.1 ∧ t.2.1 ≠ t.2.2 ∧ t.2.2 ≠ t.1
def WOk (n : Int) (w : W2) : Prop := (0 ≤ w.1 ∧ w.1 < n) ∧ (0 ≤ w.2 ∧ w.2 < n) ∧ w.1 ≠ w.2
theorem ways_ok {n : Int} {ts : List T3} (h : ∀ t, t ∈ ts → TOk n t) : ∀ w, w ∈ ts.flatMap ways3 → WOk n w := by
  intro w hw
  rw [List.mem_flatMap] at hw
  obtain ⟨t, ht, hw⟩ := hw
  obtain ⟨h1, h2, h3, h4, h5, h6⟩ := h t ht
  simp only [ways3, List.mem_cons, List.not_mem_nil, or_false] at hw
  rcases hw with rfl | rfl | rfl
  · exact ⟨h1, h2, h4⟩
  · exact ⟨h2, h3, h5⟩
  · exact ⟨h3, h1, h6⟩
theorem rimU_ok {n : Int} {ts : List T3} (h : ∀ t, t ∈ ts → TOk n t) : ∀ w, w ∈ rimU ts → WOk n w := cancel_mem (ways_ok h) (fun w hw => by simp at hw)
theorem rimL_perm {n : Int} (hn : n ≤ 100) {ts : List T3} (h : ∀ t, t ∈ ts → TOk n t) : (rimL ts).Perm (rimU ts) := asc_perm fun w hw => by
  have := (rimU_ok h w hw).1
  exact ⟨this.1, by have := this.2; omega⟩
theorem trnI_anti {h : Hf} (hw : h.w ≠ (0, 0)) (ps : List P2) (p : P2) (w : W2) : h.trnI ps p (rev w) = -h.trnI ps p w := trn_anti hw _ _ p
/-- the signed count is what the rim turns -/
theorem rim_signed {h : Hf} (hw : h.w ≠ (0, 0)) (ps : List P2) {n : Int} (hn : n ≤ 100) {ts : List T3} (ht : ∀ t, t ∈ ts → TOk n t) (p : P2) : sumF (h.trnI ps p) (rimL ts) = (h.cnts ps ts p).1 - (h.cnts ps ts p).2 := by
  rw [sumF_perm _ (rimL_perm hn ht)]
  unfold rimU
  rw [cancel_sum (trnI_anti hw ps p), sumF_nil, Int.zero_add, sumF_flatMap]
  have e : ∀ t : T3, sumF (h.trnI ps p) (ways3 t) = (h.cntT ps p t).1 + -(h.cntT ps p t).2 := fun t => by
    have := cnt_trn hw (pAt ps t.1) (pAt ps t.2.1) (pAt ps t.2.2) p
    simp only [ways3, sumF_cons, sumF_nil, Hf.trnI, Hf.cntT]
    omega
  rw [sumF_congr fun t _ => e t, sumF_add, sumF_neg]
  rfl
theorem cnts_append (h : Hf) (ps : List P2) (ts us : List T3) (p : P2) : h.cnts ps (ts ++ us) p = ((h.cnts ps ts p).1 + (h.cnts ps us p).1, (h.cnts ps ts p).2 + (h.cnts ps us p).2) := by simp [Hf.cnts]
theorem side_swap (a b c : P2) : side a c b = -side a b c := by simp only [side, crs, sub2]; grind
theorem side_rot (a b c : P2) : side b c a = side a b c := by simp only [side, crs, sub2]; grind
theorem cnt_swap (h : Hf) (a b c p : P2) : h.cnt a c b p = ((h.cnt a b c p).2, (h.cnt a b c p).1) := by
  unfold Hf.cnt
  rw [side_swap a b c]
  congr 2
  · congr 1
    simp
  · congr 1
    simp
theorem cnt_rot (h : Hf) (a b c p : P2) : h.cnt b c a p = h.cnt a b c p := by
  unfold Hf.cnt Hf.own3
  rw [side_rot a b c]
  congr 2
  · cases h.lft a b p <;> cases h.lft b c p <;> cases h.lft c a p <;> rfl
  · cases h.lft b a p <;> cases h.lft a c p <;> cases h.lft c b p <;> rfl
theorem cnt_flat (h : Hf) {a b c : P2} (p : P2) (e : side a b c = 0) : h.cnt a b c p = (0, 0) := by
  unfold Hf.cnt
  rw [e]
  simp [bti]
end FM
end
section
set_option Elab.async false
set_option linter.all false
set_option maxRecDepth 100000
set_option autoImplicit false
set_option maxHeartbeats 0
namespace FD
open PySem PySem.Spec PyProof.Rows L2
def top (i : Nat) : Stmt := PySem.Challenge.pw_filledonce_k47_whole_sums_of_nets.main.body.getD i (.Pass ⟨0, 0, 0, 0⟩)
def d_law_hand : He.DefD := ⟨("_law_hand", none), "_law_hand", "_law_hand", defArgs (top 53), defBody (top 53), defScope (top 53), [], []⟩
def d_law_left : He.DefD := ⟨("_law_left", none), "_law_left", "_law_left", defArgs (top 58), defBody (top 58), defScope (top 58), [], []⟩
def d_law_draw : He.DefD := ⟨("_law_draw", none), "_law_draw", "_law_draw", defArgs (top 54), defBody (top 54), defScope (top 54), [], []⟩
def d_law_pair : He.DefD := ⟨("_law_pair", none), "_law_pair", "_law_pair", defArgs (top 55), defBody (top 55), defScope (top 55), [], []⟩
def d_law_net : He.DefD := ⟨("_law_net", none), "_law_net", "_law_net", defArgs (top 56), defBody (top 56), defScope (top 56), [], []⟩
def d_law_told_half : He.DefD := ⟨("_law_told_half", none), "_law_told_half", "_law_told_half", defArgs (top 57), defBody (top 57), defScope (top 57), [], []⟩
def d_less : He.DefD := ⟨("less", none), "less", "less", defArgs (top 17), defBody (top 17), defScope (top 17), [], []⟩
def d_cross_of : He.DefD := ⟨("cross_of", none), "cross_of", "cross_of", defArgs (top 18), defBody (top 18), defScope (top 18), [], []⟩
def d_side_of : He.DefD := ⟨("side_of", none), "side_of", "side_of", defArgs (top 19), defBody (top 19), defScope (top 19), [], []⟩
def d_ways_of : He.DefD := ⟨("ways_of", none), "ways_of", "ways_of", defArgs (top 21), defBody (top 21), defScope (top 21), [], []⟩
def d_Half_has : He.DefD := ⟨("Half", some "has"), "has", "Half.has", defArgs (inClass (top 48) 5), defBody (inClass (top 48) 5), defScope (inClass (top 48) 5), [], []⟩
def d_is_owned : He.DefD := ⟨("is_owned", none), "is_owned", "is_owned", defArgs (top 22), defBody (top 22), defScope (top 22), [], []⟩
def d_Net_corners_of : He.DefD := ⟨("Net", some "corners_of"), "corners_of", "Net.corners_of", defArgs (inClass (top 30) 7), defBody (inClass (top 30) 7), defScope (inClass (top 30) 7), [], []⟩
def d_owner_counts : He.DefD := ⟨("owner_counts", none), "owner_counts", "owner_counts", defArgs (top 32), defBody (top 32), defScope (top 32), [], []⟩
def d_is_integer : He.DefD := ⟨("is_integer", none), "is_integer", "is_integer", defArgs (top 9), defBody (top 9), defScope (top 9), [], []⟩
def d_numbers_of : He.DefD := ⟨("numbers_of", none), "numbers_of", "numbers_of", defArgs (top 14), defBody (top 14), defScope (top 14), [], []⟩
def d_pair_of : He.DefD := ⟨("pair_of", none), "pair_of", "pair_of", defArgs (top 15), defBody (top 15), defScope (top 15), [], []⟩
def d_counted_owners : He.DefD := ⟨("counted_owners", none), "counted_owners", "counted_owners", defArgs (top 33), defBody (top 33), defScope (top 33), [], []⟩
def d_shift_pairs : He.DefD := ⟨("shift_pairs", none), "shift_pairs", "shift_pairs", defArgs (top 24), defBody (top 24), defScope (top 24), [], []⟩
def d_is_upward : He.DefD := ⟨("is_upward", none), "is_upward", "is_upward", defArgs (top 35), defBody (top 35), defScope (top 35), [], []⟩
def d_turns_of : He.DefD := ⟨("turns_of", none), "turns_of", "turns_of", defArgs (top 36), defBody (top 36), defScope (top 36), [], []⟩
def d_ascending : He.DefD := ⟨("ascending", none), "ascending", "ascending", defArgs (top 31), defBody (top 31), defScope (top 31), [], []⟩
def d_Net_rim : He.DefD := ⟨("Net", some "rim"), "rim", "Net.rim", defArgs (inClass (top 30) 3), defBody (inClass (top 30) 3), defScope (inClass (top 30) 3), [], []⟩
def d_Net_rim_ways : He.DefD := ⟨("Net", some "rim_ways"), "rim_ways", "Net.rim_ways", defArgs (inClass (top 30) 4), defBody (inClass (top 30) 4), defScope (inClass (top 30) 4), [], []⟩
def d_rim_turns : He.DefD := ⟨("rim_turns", none), "rim_turns", "rim_turns", defArgs (top 37), defBody (top 37), defScope (top 37), [], []⟩
def d_signed : He.DefD := ⟨("signed", none), "signed", "signed", defArgs (top 34), defBody (top 34), defScope (top 34), [], []⟩
def d_check_ahead : He.DefD := ⟨("check_ahead", none), "check_ahead", "check_ahead", defArgs (top 47), defBody (top 47), defScope (top 47), [], []⟩
def d_common_divisor : He.DefD := ⟨("common_divisor", none), "common_divisor", "common_divisor", defArgs (top 40), defBody (top 40), defScope (top 40), [], []⟩
def d_lowest_pair : He.DefD := ⟨("lowest_pair", none), "lowest_pair", "lowest_pair", defArgs (top 41), defBody (top 41), defScope (top 41), [], []⟩
def d_way_in : He.DefD := ⟨("way_in", none), "way_in", "way_in", defArgs (top 46), defBody (top 46), defScope (top 46), [], []⟩
def d_Half_init : He.DefD := ⟨("Half", some "__init__"), "__init__", "Half.__init__", defArgs (inClass (top 48) 0), defBody (inClass (top 48) 0), defScope (inClass (top 48) 0), [], []⟩
def d_check_points : He.DefD := ⟨("check_points", none), "check_points", "check_points", defArgs (top 27), defBody (top 27), defScope (top 27), [], []⟩
def d_is_between : He.DefD := ⟨("is_between", none), "is_between", "is_between", defArgs (top 10), defBody (top 10), defScope (top 10), [], []⟩
def d_is_triple : He.DefD := ⟨("is_triple", none), "is_triple", "is_triple", defArgs (top 28), defBody (top 28), defScope (top 28), [], []⟩
def d_check_triples : He.DefD := ⟨("check_triples", none), "check_triples", "check_triples", defArgs (top 29), defBody (top 29), defScope (top 29), [], []⟩
def d_Net_init : He.DefD := ⟨("Net", some "__init__"), "__init__", "Net.__init__", defArgs (inClass (top 30) 0), defBody (inClass (top 30) 0), defScope (inClass (top 30) 0), [], []⟩
def d_Point_init : He.DefD := ⟨("Point", some "__init__"), "__init__", "Point.__init__", defArgs (inClass (top 13) 0), defBody (inClass (top 13) 0), defScope (inClass (top 13) 0), [], []⟩
def d_law : He.DefD := ⟨("law", none), "law", "law", defArgs (top 59), defBody (top 59), defScope (top 59), [], []⟩
def fn : List He.DefD := [d_law_hand, d_law_left, d_law_draw, d_law_pair, d_law_net, d_law_told_half, d_less, d_cross_of, d_side_of, d_ways_of, d_Half_has, d_is_owned, d_Net_corners_of, d_owner_counts, d_is_integer, d_numbers_of, d_pair_of, d_counted_owners, d_shift_pairs, d_is_upward, d_turns_of, d_ascending, d_Net_rim, d_Net_rim_ways, d_rim_turns, d_signed, d_check_ahead, d_common_divisor, d_lowest_pair, d_way_in, d_Half_init, d_check_points, d_is_between, d_is_triple, d_check_triples, d_Net_init, d_Point_init, d_law]
def fa : List He.Fa := [.free "abs", .free "all", .free "bool", .free "enumerate", .free "int", .free "isinstance", .free "len", .free "list", .free "max", .free "min", .free "range", .free "sorted", .free "tuple", .int "MOST_POINTS" 100, .glo "Half", .cls "Half", .noat "Half" "own_ahead", .noat "Half" "own_way", .glo "Net", .cls "Net", .noat "Net" "own_triples", .noat "Net" "pairs", .glo "Point", .cls "Point", .noat "Point" "x", .noat "Point" "y", .glo "_law_hand", .glo "_law_left", .glo "_law_draw", .glo "_law_pair", .glo "_law_net", .glo "_law_told_half", .glo "less", .glo "cross_of", .glo "side_of", .glo "ways_of", .meth "Half" "has", .glo "is_owned", .meth "Net" "corners_of", .glo "owner_counts", .glo "is_integer", .glo "numbers_of", .glo "pair_of", .glo "counted_owners", .glo "shift_pairs", .glo "is_upward", .glo "turns_of", .glo "ascending", .meth "Net" "rim", .meth "Net" "rim_ways", .glo "rim_turns", .glo "signed", .glo "check_ahead", .glo "common_divisor", .glo "lowest_pair", .glo "way_in", .mkr "Half", .glo "check_points", .glo "is_between", .glo "is_triple", .glo "check_triples", .mkr "Net", .mkr "Point", .glo "law"]
def fx : List Fx := [.kit (.own "Point") (.own "Point") true, .ins "Point", .kit (.own "Net") (.own "Point") false, .ins "Net", .kit (.own "Half") (.own "Point") false, .ins "Half", .kit (.bt "list") (.own "Point") false, .kit (.bt "tuple") (.own "Point") false, .kit (.bt "str") (.own "Point") false, .kit (.bt "int") (.own "Point") false, .kit (.bt "bool") (.own "Point") false, .kit (.bt "NoneType") (.own "Point") false, .kit (.own "Point") (.bt "bool") false, .kit (.own "Net") (.bt "bool") false, .kit (.own "Half") (.bt "bool") false, .kit (.own "Point") (.bt "int") false, .kit (.own "Net") (.bt "int") false, .kit (.own "Half") (.bt "int") false, .kit (.own "Point") (.bt "list") false, .kit (.own "Net") (.bt "list") false, .kit (.own "Half") (.bt "list") false, .kit (.own "Point") (.bt "tuple") false, .kit (.own "Net") (.bt "tuple") false, .kit (.own "Half") (.bt "tuple") false]
abbrev A (G : Gc) : Prop := At G fa fn fx
section
variable {G : Gc}
theorem fr_abs (hA : A G) : G.mg "abs" = none := hA.free 0
theorem fr_all (hA : A G) : G.mg "all" = none := hA.free 1
theorem fr_bool (hA : A G) : G.mg "bool" = none := hA.free 2
theorem fr_enumerate (hA : A G) : G.mg "enumerate" = none := hA.free 3
theorem fr_int (hA : A G) : G.mg "int" = none := hA.free 4
theorem fr_isinstance (hA : A G) : G.mg "isinstance" = none := hA.free 5
theorem fr_len (hA : A G) : G.mg "len" = none := hA.free 6
theorem fr_list (hA : A G) : G.mg "list" = none := hA.free 7
theorem fr_max (hA : A G) : G.mg "max" = none := hA.free 8
theorem fr_min (hA : A G) : G.mg "min" = none := hA.free 9
theorem fr_range (hA : A G) : G.mg "range" = none := hA.free 10
theorem fr_sorted (hA : A G) : G.mg "sorted" = none := hA.free 11
theorem fr_tuple (hA : A G) : G.mg "tuple" = none := hA.free 12
def cst_MOST_POINTS : D := .int 100
theorem c_MOST_POINTS (hA : A G) : CstOk G "MOST_POINTS" cst_MOST_POINTS := hA.int 13
theorem fl_Half_own_ahead (hA : A G) : FldOk G "Half" "own_ahead" := hA.fld 14 15 16
theorem fl_Half_own_way (hA : A G) : FldOk G "Half" "own_way" := hA.fld 14 15 17
theorem fl_Net_own_triples (hA : A G) : FldOk G "Net" "own_triples" := hA.fld 18 19 20
theorem fl_Net_pairs (hA : A G) : FldOk G "Net" "pairs" := hA.fld 18 19 21
theorem fl_Point_x (hA : A G) : FldOk G "Point" "x" := hA.fld 22 23 24
theorem fl_Point_y (hA : A G) : FldOk G "Point" "y" := hA.fld 22 23 25
theorem cn_Point (hA : A G) : ClsNm G "Point" (.own "Point") := clsNm_own (hA.glo 22)
def tab_Point : Tab := [(.bt "NoneType", false), (.bt "bool", false), (.bt "int", false), (.bt "str", false), (.bt "tuple", false), (.bt "list", false), (.own "Half", false), (.own "Net", false), (.own "Point", true)]
theorem tb_Point (hA : A G) : TabOk G (.own "Point") tab_Point := (tab_cons (tag_bt (hA.kit 11 no_bt (is_own (hA.glo 22)))) (tab_cons (tag_bt (hA.kit 10 no_bt (is_own (hA.glo 22)))) (tab_cons (tag_bt (hA.kit 9 no_bt (is_own (hA.glo 22)))) (tab_cons (tag_bt (hA.kit 8 no_bt (is_own (hA.glo 22)))) (tab_cons (tag_bt (hA.kit 7 no_bt (is_own (hA.glo 22)))) (tab_cons (tag_bt (hA.kit 6 no_bt (is_own (hA.glo 22)))) (tab_cons (tag_own (hA.kit 4 (is_own (hA.glo 14)) (is_own (hA.glo 22))) (hA.ins 14 15 5)) (tab_cons (tag_own (hA.kit 2 (is_own (hA.glo 18)) (is_own (hA.glo 22))) (hA.ins 18 19 3)) (tab_cons (tag_own (hA.kit 0 (is_own (hA.glo 22)) (is_own (hA.glo 22))) (hA.ins 22 23 1)) tab_nil)))))))))
theorem cn_bool (hA : A G) : ClsNm G "bool" (.bt "bool") := clsNm_bt (fr_bool hA)
def tab_bool : Tab := [(.bt "NoneType", false), (.bt "bool", true), (.bt "int", false), (.bt "str", false), (.bt "tuple", false), (.bt "list", false), (.own "Half", false), (.own "Net", false), (.own "Point", false)]
theorem tb_bool (hA : A G) : TabOk G (.bt "bool") tab_bool := (tab_cons (tag_bt (kit_bt (by decide +kernel))) (tab_cons (tag_bt (kit_bt (by decide +kernel))) (tab_cons (tag_bt (kit_bt (by decide +kernel))) (tab_cons (tag_bt (kit_bt (by decide +kernel))) (tab_cons (tag_bt (kit_bt (by decide +kernel))) (tab_cons (tag_bt (kit_bt (by decide +kernel))) (tab_cons (tag_own (hA.kit 14 (is_own (hA.glo 14)) no_bt) (hA.ins 14 15 5)) (tab_cons (tag_own (hA.kit 13 (is_own (hA.glo 18)) no_bt) (hA.ins 18 19 3)) (tab_cons (tag_own (hA.kit 12 (is_own (hA.glo 22)) no_bt) (hA.ins 22 23 1)) tab_nil)))))))))
theorem cn_int (hA : A G) : ClsNm G "int" (.bt "int") := clsNm_bt (fr_int hA)
def tab_int : Tab := [(.bt "NoneType", false), (.bt "bool", true), (.bt "int", true), (.bt "str", false), (.bt "tuple", false), (.bt "list", false), (.own "Half", false), (.own "Net", false), (.own "Point", false)]
theorem tb_int (hA : A G) : TabOk G (.bt "int") tab_int := (tab_cons (tag_bt (kit_bt (by decide +kernel))) (tab_cons (tag_bt (kit_bt (by decide +kernel))) (tab_cons (tag_bt (kit_bt (by decide +kernel))) (tab_cons (tag_bt (kit_bt (by decide +kernel))) (tab_cons (tag_bt (kit_bt (by decide +kernel))) (tab_cons (tag_bt (kit_bt (by decide +kernel))) (tab_cons (tag_own (hA.kit 17 (is_own (hA.glo 14)) no_bt) (hA.ins 14 15 5)) (tab_cons (tag_own (hA.kit 16 (is_own (hA.glo 18)) no_bt) (hA.ins 18 19 3)) (tab_cons (tag_own (hA.kit 15 (is_own (hA.glo 22)) no_bt) (hA.ins 22 23 1)) tab_nil)))))))))
theorem cn_list (hA : A G) : ClsNm G "list" (.bt "list") := clsNm_bt (fr_list hA)
def tab_list : Tab := [(.bt "NoneType", false), (.bt "bool", false), (.bt "int", false), (.bt "str", false), (.bt "tuple", false), (.bt "list", true), (.own "Half", false), (.own "Net", false), (.own "Point", false)]
theorem tb_list (hA : A G) : TabOk G (.bt "list") tab_list := (tab_cons (tag_bt (kit_bt (by decide +kernel))) (tab_cons (tag_bt (kit_bt (by decide +kernel))) (tab_cons (tag_bt (kit_bt (by decide +kernel))) (tab_cons (tag_bt (kit_bt (by decide +kernel))) (tab_cons (tag_bt (kit_bt (by decide +kernel))) (tab_cons (tag_bt (kit_bt (by decide +kernel))) (tab_cons (tag_own (hA.kit 20 (is_own (hA.glo 14)) no_bt) (hA.ins 14 15 5)) (tab_cons (tag_own (hA.kit 19 (is_own (hA.glo 18)) no_bt) (hA.ins 18 19 3)) (tab_cons (tag_own (hA.kit 18 (is_own (hA.glo 22)) no_bt) (hA.ins 22 23 1)) tab_nil)))))))))
theorem cn_tuple (hA : A G) : ClsNm G "tuple" (.bt "tuple") := clsNm_bt (fr_tuple hA)
def tab_tuple : Tab := [(.bt "NoneType", false), (.bt "bool", false), (.bt "int", false), (.bt "str", false), (.bt "tuple", true), (.bt "list", false), (.own "Half", false), (.own "Net", false), (.own "Point", false)]
theorem tb_tuple (hA : A G) : TabOk G (.bt "tuple") tab_tuple := (tab_cons (tag_bt (kit_bt (by decide +kernel))) (tab_cons (tag_bt (kit_bt (by decide +kernel))) (tab_cons (tag_bt (kit_bt (by decide +kernel))) (tab_cons (tag_bt (kit_bt (by decide +kernel))) (tab_cons (tag_bt (kit_bt (by decide +kernel))) (tab_cons (tag_bt (kit_bt (by decide +kernel))) (tab_cons (tag_own (hA.kit 23 (is_own (hA.glo 14)) no_bt) (hA.ins 14 15 5)) (tab_cons (tag_own (hA.kit 22 (is_own (hA.glo 18)) no_bt) (hA.ins 18 19 3)) (tab_cons (tag_own (hA.kit 21 (is_own (hA.glo 22)) no_bt) (hA.ins 22 23 1)) tab_nil)))))))))
def F_law_hand : SF :=
  (sSeq
  (sSet 2 (e2 ixD (e2 addD (eSl (eV 0) (oAt (eV 1)) (oAt (e2 addD (eV 1) (eC (.int 1))))) (eLst (aCons (eC (.int 0)) aNil))) (eC (.int 0))))
  (sSeq
  (sSet 3 (e2 modD (e2 mulD (e2 addD (e2 addD (e2 modD (eB intTyD (aCons (eV 2) aNil)) (eC (.int 2147483647))) (e2 mulD (eC (.int 7919)) (eV 1))) (eC (.int 1))) (eC (.int 48271))) (eC (.int 2147483629))))
  (sRet (eLstC (aCons (e2 mulD (eB intTyD (aCons (e2 geD (eV 2) (e2 powD (eC (.int 10)) (eC (.int 18)))) aNil)) (eV 2)) (aCons (eV 3) aNil))))))
def f_law_hand : FN := fnD 4 F_law_hand
theorem b_law_hand (hA : A G) (E : XK) (X : Cx) (hX : XC G ["script", "k", "cell", "seed"] ["script", "k", "cell", "seed"] ["script", "k", "cell", "seed"] ["int"] (defScope (top 53)) 0 E X) : DSs G E X (defBody (top 53)) F_law_hand :=
  (dss_cons
  (ds_set hX 2 2 (de_ix hX (de_op (op_addD hX) (de_sl hX (de_var hX 0 0) (do_at (de_var hX 1 1)) (do_at (de_op (op_addD hX) (de_var hX 1 1) de_int))) (de_lst (da_cons de_int da_nil))) de_int))
  (dss_cons
  (ds_set hX 3 3 (de_op (op_modD hX) (de_op (op_mulD hX) (de_op (op_addD hX) (de_op (op_addD hX) (de_op (op_modD hX) (de_ct hX 0 cr_intD (fr_int hA) (da_cons (de_var hX 2 2) da_nil)) de_int) (de_op (op_mulD hX) de_int (de_var hX 1 1))) de_int) de_int) de_int))
  (dss_one (ds_ret (de_lstC (da_cons (de_op (op_mulD hX) (de_ct hX 0 cr_intD (fr_int hA) (da_cons (de_cmp (op_cmpD op_ge) (de_var hX 2 2) (de_op (op_powD hX) de_int de_int)) da_nil)) (de_var hX 2 2)) (da_cons (de_var hX 3 3) da_nil)))))))
theorem sc_law_hand : ScOk ["script", "k", "cell", "seed"] ["script", "k"] ["script", "k", "cell", "seed"] ["int"] (defScope (top 53)) := scOk_of (by decide +kernel) (by decide +kernel)
theorem ok_law_hand (hA : A G) : OkF G "_law_hand" 1 2 f_law_hand := by
  obtain ⟨fd, FT⟩ := hA.sd.def_ 0 (d := d_law_hand) rfl
  exact ⟨_, fd, ["script", "k"], hA.glo 26, FT.kp, FT.bindsN fun _ _ _ _ _ _ us hl => match us, hl with | [_, _], _ => rfl, rfl, def_ok FT sc_law_hand fun E X hX _ _ _ => b_law_hand hA E X hX⟩
def L1_law_left : SF :=
  (sIf (tB (e2 (inD false) (eTup (aCons (e2 ixD (eV 2) (eC (.int 1))) (aCons (e2 ixD (eV 2) (eC (.int 0))) aNil))) (eV 1)))
  (sExpr (eBM isL remD (eV 1) (aCons (eTup (aCons (e2 ixD (eV 2) (eC (.int 1))) (aCons (e2 ixD (eV 2) (eC (.int 0))) aNil))) aNil)))
  (sExpr (eBM isL appD (eV 1) (aCons (eV 2) aNil))))
def F_law_left : SF :=
  (sSeq
  (sSet 1 (eLstC aNil))
  (sSeq
  (sFor (iSeq (eV 0)) (gN 2)
  L1_law_left)
  (sFz 1 (sRet (eV 1)))))
def f_law_left : FN := fnD 3 F_law_left
theorem b_law_left (hA : A G) (E : XK) (X : Cx) (hX : XC G ["ways", "found", "way"] ["ways", "found", "way"] ["ways", "found", "way"] [] (defScope (top 58)) 0 E X) : DSs G E X (defBody (top 58)) F_law_left :=
  (dss_cons
  (ds_set hX 1 1 (de_lstC da_nil))
  (dss_cons
  (ds_for hX (di_list hX (de_var hX 0 0)) (dg_name hX 2 2)
  (dss_one (ds_if (dt_cmp (op_inDD hX) (de_tup (da_cons (de_ix hX (de_var hX 2 2) de_int) (da_cons (de_ix hX (de_var hX 2 2) de_int) da_nil))) (de_var hX 1 1) (by with_unfolding_all rfl))
  (dss_one (ds_expr (de_bm hX ty_L PySem.F.plainAttrs_list PySem.F.slot_list_remove PySem.F.type_list_remove (mt_remD hX) (de_var hX 1 1) (da_cons (de_tup (da_cons (de_ix hX (de_var hX 2 2) de_int) (da_cons (de_ix hX (de_var hX 2 2) de_int) da_nil))) da_nil))))
  (dss_one (ds_expr (de_bm hX ty_L PySem.F.plainAttrs_list PySem.F.slot_list_append PySem.F.type_list_append (mt_appD hX) (de_var hX 1 1) (da_cons (de_var hX 2 2) da_nil)))))))
  (dss_fz 1 (dss_one (ds_ret (de_var hX 1 1))))))
theorem sc_law_left : ScOk ["ways", "found", "way"] ["ways"] ["ways", "found", "way"] [] (defScope (top 58)) := scOk_of (by decide +kernel) (by decide +kernel)
theorem ok_law_left (hA : A G) : OkF G "_law_left" 1 1 f_law_left := by
  obtain ⟨fd, FT⟩ := hA.sd.def_ 1 (d := d_law_left) rfl
  exact ⟨_, fd, ["ways"], hA.glo 27, FT.kp, FT.bindsN fun _ _ _ _ _ _ us hl => match us, hl with | [_], _ => rfl, rfl, def_ok FT sc_law_left fun E X hX _ _ _ => b_law_left hA E X hX⟩
def F_law_draw : SF :=
  (sSeq
  (sIf (tB (e2 gtD (e2 ixD (eV 0) (eC (.int 0))) (eC (.int 0))))
  (sSeq
  (sSet 2 (e2 modD (eB intTyD (aCons (e2 ixD (eV 0) (eC (.int 0))) aNil)) (eV 1)))
  (sSeq
  (sSub (eV 0) (eC (.int 0)) (e2 fdivD (e2 ixD (eV 0) (eC (.int 0))) (eV 1)))
  (sRet (eV 2))))
  sNil)
  (sSeq
  (sSub (eV 0) (eC (.int 1)) (e2 modD (eB intTyD (aCons (e2 addD (e2 mulD (e2 ixD (eV 0) (eC (.int 1))) (eC (.int 48271))) (eC (.int 11))) aNil)) (eC (.int 2147483647))))
  (sRet (e2 modD (e2 fdivD (e2 modD (eB intTyD (aCons (e2 mulD (e2 ixD (eV 0) (eC (.int 1))) (e2 ixD (eV 0) (eC (.int 1)))) aNil)) (eC (.int 2147483629))) (eC (.int 64))) (eV 1)))))
def f_law_draw : FN := fnD 3 F_law_draw
theorem b_law_draw (hA : A G) (E : XK) (X : Cx) (hX : XC G ["pool", "many", "found"] ["pool", "many", "found"] ["pool", "many", "found"] ["int"] (defScope (top 54)) 0 E X) : DSs G E X (defBody (top 54)) F_law_draw :=
  (dss_cons
  (ds_if (dt_cmp (op_cmpD op_gt) (de_ix hX (de_var hX 0 0) de_int) de_int)
  (dss_cons
  (ds_set hX 2 2 (de_op (op_modD hX) (de_ct hX 0 cr_intD (fr_int hA) (da_cons (de_ix hX (de_var hX 0 0) de_int) da_nil)) (de_var hX 1 1)))
  (dss_cons
  (ds_sub hX (de_op (op_fdivD hX) (de_ix hX (de_var hX 0 0) de_int) (de_var hX 1 1)) (de_var hX 0 0) de_int)
  (dss_one (ds_ret (de_var hX 2 2)))))
  dss_nil)
  (dss_cons
  (ds_sub hX (de_op (op_modD hX) (de_ct hX 0 cr_intD (fr_int hA) (da_cons (de_op (op_addD hX) (de_op (op_mulD hX) (de_ix hX (de_var hX 0 0) de_int) de_int) de_int) da_nil)) de_int) (de_var hX 0 0) de_int)
  (dss_one (ds_ret (de_op (op_modD hX) (de_op (op_fdivD hX) (de_op (op_modD hX) (de_ct hX 0 cr_intD (fr_int hA) (da_cons (de_op (op_mulD hX) (de_ix hX (de_var hX 0 0) de_int) (de_ix hX (de_var hX 0 0) de_int)) da_nil)) de_int) de_int) (de_var hX 1 1))))))
theorem sc_law_draw : ScOk ["pool", "many", "found"] ["pool", "many"] ["pool", "many", "found"] ["int"] (defScope (top 54)) := scOk_of (by decide +kernel) (by decide +kernel)
theorem ok_law_draw (hA : A G) : OkF G "_law_draw" 1 2 f_law_draw := by
  obtain ⟨fd, FT⟩ := hA.sd.def_ 2 (d := d_law_draw) rfl
  exact ⟨_, fd, ["pool", "many"], hA.glo 28, FT.kp, FT.bindsN fun _ _ _ _ _ _ us hl => match us, hl with | [_, _], _ => rfl, rfl, def_ok FT sc_law_draw fun E X hX _ _ _ => b_law_draw hA E X hX⟩
def F_law_pair : SF :=
  (sRet (eTup (aCons (e2 subD (eCall 2 f_law_draw (aCons (eV 0) (aCons (e2 addD (e2 mulD (eC (.int 2)) (eV 1)) (eC (.int 1))) aNil))) (eV 1)) (aCons (e2 subD (eCall 2 f_law_draw (aCons (eV 0) (aCons (e2 addD (e2 mulD (eC (.int 2)) (eV 1)) (eC (.int 1))) aNil))) (eV 1)) aNil))))
def f_law_pair : FN := fnD 2 F_law_pair
theorem b_law_pair (hA : A G) (E : XK) (X : Cx) (hX : XC G ["pool", "size_here"] ["pool", "size_here"] ["pool", "size_here"] ["_law_draw"] (defScope (top 55)) 1 E X) : DSs G E X (defBody (top 55)) F_law_pair :=
  (dss_one (ds_ret (de_tup (da_cons (de_op (op_subD hX) (de_call hX 0 (ok_law_draw hA) (by decide) (da_cons (de_var hX 0 0) (da_cons (de_op (op_addD hX) (de_op (op_mulD hX) de_int (de_var hX 1 1)) de_int) da_nil))) (de_var hX 1 1)) (da_cons (de_op (op_subD hX) (de_call hX 0 (ok_law_draw hA) (by decide) (da_cons (de_var hX 0 0) (da_cons (de_op (op_addD hX) (de_op (op_mulD hX) de_int (de_var hX 1 1)) de_int) da_nil))) (de_var hX 1 1)) da_nil)))))
theorem sc_law_pair : ScOk ["pool", "size_here"] ["pool", "size_here"] ["pool", "size_here"] ["_law_draw"] (defScope (top 55)) := scOk_of (by decide +kernel) (by decide +kernel)
theorem ok_law_pair (hA : A G) : OkF G "_law_pair" 2 2 f_law_pair := by
  obtain ⟨fd, FT⟩ := hA.sd.def_ 3 (d := d_law_pair) rfl
  exact ⟨_, fd, ["pool", "size_here"], hA.glo 29, FT.kp, FT.bindsN fun _ _ _ _ _ _ us hl => match us, hl with | [_, _], _ => rfl, rfl, def_ok FT sc_law_pair fun E X hX _ _ _ => b_law_pair hA E X hX⟩
def E1_law_net : EF :=
  (eCall 2 f_law_pair (aCons (eV 0) (aCons (eC (.int 5)) aNil)))
def E2_law_net : EF :=
  (eV 5)
def E3_law_net : EF :=
  (eBM isL popD (eV 4) (aCons (eCall 2 f_law_draw (aCons (eV 0) (aCons (eB lenD (aCons (eV 4) aNil)) aNil))) aNil))
def L4_law_net : SF :=
  (sSeq
  (sSet 4 (eLcC (iRange1 (aCons (eB lenD (aCons (eV 1) aNil)) aNil)) (gN 5) none E2_law_net [5]))
  (sExpr (eBM isL appD (eV 2) (aCons (eB tupleD (aCons (eLc (iRange1 (aCons (eC (.int 3)) aNil)) (gN 6) none E3_law_net [6]) aNil)) aNil))))
def F_law_net : SF :=
  (sSeq
  (sSet 1 (eLc (iRange1 (aCons (e2 addD (eC (.int 3)) (eCall 2 f_law_draw (aCons (eV 0) (aCons (eC (.int 5)) aNil)))) aNil)) (gN 3) none E1_law_net [3]))
  (sSeq
  (sSet 2 (eLstC aNil))
  (sSeq
  (sFor (iRange1 (aCons (eCall 2 f_law_draw (aCons (eV 0) (aCons (eC (.int 8)) aNil))) aNil)) (gN 3)
  L4_law_net)
  (sFz 2 (sRet (eTup (aCons (eV 1) (aCons (eV 2) aNil))))))))
def f_law_net : FN := fnD 7 F_law_net
theorem b_law_net (hA : A G) (E : XK) (X : Cx) (hX : XC G ["pool", "pairs", "found", "turn", "left", "k", "one"] ["pool", "pairs", "found", "turn", "left"] ["pool", "pairs", "found", "turn", "left"] ["range", "_law_draw", "len", "tuple"] (defScope (top 56)) 2 E X) : DSs G E X (defBody (top 56)) F_law_net :=
  (dss_cons
  (ds_setLc hX 1 rfl rfl (blkX_of (own := [("turn", 3)]) (bvis := ["pool", "turn"]) (bloc := ["turn"]) (bgl := ["_law_pair"]) (by decide +kernel) (by decide +kernel) (by decide +kernel) (by decide +kernel)) (di_range1 hX 0 (fr_range hA) (da_cons (de_op (op_addD hX) de_int (de_call hX 1 (ok_law_draw hA) (by decide) (da_cons (de_var hX 0 0) (da_cons de_int da_nil)))) da_nil)) (fun X1 h1 => (dg_name h1 3 0)) (fun X1 h1 => dto_none) (fun X1 h1 => (de_call h1 0 (ok_law_pair hA) (by decide) (da_cons (de_var h1 0 0) (da_cons de_int da_nil)))))
  (dss_cons
  (ds_set hX 2 2 (de_lstC da_nil))
  (dss_cons
  (ds_for hX (di_range1 hX 0 (fr_range hA) (da_cons (de_call hX 1 (ok_law_draw hA) (by decide) (da_cons (de_var hX 0 0) (da_cons de_int da_nil))) da_nil)) (dg_name hX 3 3)
  (dss_cons
  (ds_set hX 4 4 (de_lcC hX (blkX_of (own := [("k", 5)]) (bvis := ["k"]) (bloc := ["k"]) (bgl := []) (by decide +kernel) (by decide +kernel) (by decide +kernel) (by decide +kernel)) (di_range1 hX 0 (fr_range hA) (da_cons (de_cb hX 2 (cr_len hX) (fr_len hA) (da_cons (de_var hX 1 1) da_nil)) da_nil)) (fun X2 h2 => (dg_name h2 5 0)) (fun X2 h2 => dto_none) (fun X2 h2 => (de_var h2 5 0))) (hs := by rw [env_scope hX.hsc]; rfl))
  (dss_one (ds_expr (de_bm hX ty_L PySem.F.plainAttrs_list PySem.F.slot_list_append PySem.F.type_list_append (mt_appD hX) (de_var hX 2 2) (da_cons (de_ct hX 3 (cr_tupleD hX) (fr_tuple hA) (da_cons (de_lc hX (blkX_of (own := [("one", 6)]) (bvis := ["left", "pool", "one"]) (bloc := ["one"]) (bgl := ["_law_draw", "len"]) (by decide +kernel) (by decide +kernel) (by decide +kernel) (by decide +kernel)) (di_range1 hX 0 (fr_range hA) (da_cons de_int da_nil)) (fun X3 h3 => (dg_name h3 6 0)) (fun X3 h3 => dto_none) (fun X3 h3 => (de_bm h3 ty_L PySem.F.plainAttrs_list PySem.F.slot_list_pop PySem.F.type_list_pop (mt_popD h3) (de_var h3 4 0) (da_cons (de_call h3 0 (ok_law_draw hA) (by decide) (da_cons (de_var h3 0 1) (da_cons (de_cb h3 1 (cr_len h3) (fr_len hA) (da_cons (de_var h3 4 0) da_nil)) da_nil))) da_nil)))) da_nil)) da_nil))))))
  (dss_fz 2 (dss_one (ds_ret (de_tup (da_cons (de_var hX 1 1) (da_cons (de_var hX 2 2) da_nil)))))))))
theorem sc_law_net : ScOk ["pool", "pairs", "found", "turn", "left", "k", "one"] ["pool"] ["pool", "pairs", "found", "turn", "left"] ["range", "_law_draw", "len", "tuple"] (defScope (top 56)) := scOk_of (by decide +kernel) (by decide +kernel)
theorem ok_law_net (hA : A G) : OkF G "_law_net" 3 1 f_law_net := by
  obtain ⟨fd, FT⟩ := hA.sd.def_ 4 (d := d_law_net) rfl
  exact ⟨_, fd, ["pool"], hA.glo 30, FT.kp, FT.bindsN fun _ _ _ _ _ _ us hl => match us, hl with | [_], _ => rfl, rfl, def_ok FT sc_law_net fun E X hX _ _ _ => b_law_net hA E X hX⟩
def F_law_told_half : SF :=
  (sSeq
  (sSet 1 (eCall 2 f_law_pair (aCons (eV 0) (aCons (eC (.int 4)) aNil))))
  (sRet (eTup (aCons (eC (.str "half")) (aCons (eIf (tB (e2 eqD (eV 1) (eTup (aCons (eC (.int 0)) (aCons (eC (.int 0)) aNil))))) (eTup (aCons (eC (.int 3)) (aCons (e1 negD (eC (.int 1))) aNil))) (eV 1)) (aCons (e2 eqD (eCall 2 f_law_draw (aCons (eV 0) (aCons (eC (.int 2)) aNil))) (eC (.int 0))) aNil))))))
def f_law_told_half : FN := fnD 2 F_law_told_half
theorem b_law_told_half (hA : A G) (E : XK) (X : Cx) (hX : XC G ["pool", "n"] ["pool", "n"] ["pool", "n"] ["_law_pair", "_law_draw"] (defScope (top 57)) 2 E X) : DSs G E X (defBody (top 57)) F_law_told_half :=
  (dss_cons
  (ds_set hX 1 1 (de_call hX 0 (ok_law_pair hA) (by decide) (da_cons (de_var hX 0 0) (da_cons de_int da_nil))))
  (dss_one (ds_ret (de_tup (da_cons de_str (da_cons (de_if (dt_cmp (op_eqDD hX) (de_var hX 1 1) (de_tup (da_cons de_int (da_cons de_int da_nil)))) (de_tup (da_cons de_int (da_cons (de_un un_negD de_int) da_nil))) (de_var hX 1 1)) (da_cons (de_cmp (op_eqDD hX) (de_call hX 1 (ok_law_draw hA) (by decide) (da_cons (de_var hX 0 0) (da_cons de_int da_nil))) de_int) da_nil)))))))
theorem sc_law_told_half : ScOk ["pool", "n"] ["pool"] ["pool", "n"] ["_law_pair", "_law_draw"] (defScope (top 57)) := scOk_of (by decide +kernel) (by decide +kernel)
theorem ok_law_told_half (hA : A G) : OkF G "_law_told_half" 3 1 f_law_told_half := by
  obtain ⟨fd, FT⟩ := hA.sd.def_ 5 (d := d_law_told_half) rfl
  exact ⟨_, fd, ["pool"], hA.glo 31, FT.kp, FT.bindsN fun _ _ _ _ _ _ us hl => match us, hl with | [_], _ => rfl, rfl, def_ok FT sc_law_told_half fun E X hX _ _ _ => b_law_told_half hA E X hX⟩
def F_less : SF :=
  (sRet (eTup (aCons (e2 subD (e2 ixD (eV 0) (eC (.int 0))) (e2 ixD (eV 1) (eC (.int 0)))) (aCons (e2 subD (e2 ixD (eV 0) (eC (.int 1))) (e2 ixD (eV 1) (eC (.int 1)))) aNil))))
def f_less : FN := fnD 2 F_less
theorem b_less (hA : A G) (E : XK) (X : Cx) (hX : XC G ["one", "other"] ["one", "other"] ["one", "other"] [] (defScope (top 17)) 0 E X) : DSs G E X (defBody (top 17)) F_less :=
  (dss_one (ds_ret (de_tup (da_cons (de_op (op_subD hX) (de_ix hX (de_var hX 0 0) de_int) (de_ix hX (de_var hX 1 1) de_int)) (da_cons (de_op (op_subD hX) (de_ix hX (de_var hX 0 0) de_int) (de_ix hX (de_var hX 1 1) de_int)) da_nil)))))
theorem sc_less : ScOk ["one", "other"] ["one", "other"] ["one", "other"] [] (defScope (top 17)) := scOk_of (by decide +kernel) (by decide +kernel)
theorem ok_less (hA : A G) : OkF G "less" 1 2 f_less := by
  obtain ⟨fd, FT⟩ := hA.sd.def_ 6 (d := d_less) rfl
  exact ⟨_, fd, ["one", "other"], hA.glo 32, FT.kp, FT.bindsN fun _ _ _ _ _ _ us hl => match us, hl with | [_, _], _ => rfl, rfl, def_ok FT sc_less fun E X hX _ _ _ => b_less hA E X hX⟩
def F_cross_of : SF :=
  (sRet (e2 subD (e2 mulD (e2 ixD (eV 0) (eC (.int 0))) (e2 ixD (eV 1) (eC (.int 1)))) (e2 mulD (e2 ixD (eV 0) (eC (.int 1))) (e2 ixD (eV 1) (eC (.int 0))))))
def f_cross_of : FN := fnD 2 F_cross_of
theorem b_cross_of (hA : A G) (E : XK) (X : Cx) (hX : XC G ["one", "other"] ["one", "other"] ["one", "other"] [] (defScope (top 18)) 0 E X) : DSs G E X (defBody (top 18)) F_cross_of :=
  (dss_one (ds_ret (de_op (op_subD hX) (de_op (op_mulD hX) (de_ix hX (de_var hX 0 0) de_int) (de_ix hX (de_var hX 1 1) de_int)) (de_op (op_mulD hX) (de_ix hX (de_var hX 0 0) de_int) (de_ix hX (de_var hX 1 1) de_int)))))
theorem sc_cross_of : ScOk ["one", "other"] ["one", "other"] ["one", "other"] [] (defScope (top 18)) := scOk_of (by decide +kernel) (by decide +kernel)
theorem ok_cross_of (hA : A G) : OkF G "cross_of" 1 2 f_cross_of := by
  obtain ⟨fd, FT⟩ := hA.sd.def_ 7 (d := d_cross_of) rfl
  exact ⟨_, fd, ["one", "other"], hA.glo 33, FT.kp, FT.bindsN fun _ _ _ _ _ _ us hl => match us, hl with | [_, _], _ => rfl, rfl, def_ok FT sc_cross_of fun E X hX _ _ _ => b_cross_of hA E X hX⟩
def F_side_of : SF :=
  (sRet (eCall 2 f_cross_of (aCons (eCall 2 f_less (aCons (eV 1) (aCons (eV 0) aNil))) (aCons (eCall 2 f_less (aCons (eV 2) (aCons (eV 0) aNil))) aNil))))
def f_side_of : FN := fnD 3 F_side_of
theorem b_side_of (hA : A G) (E : XK) (X : Cx) (hX : XC G ["a", "b", "point"] ["a", "b", "point"] ["a", "b", "point"] ["cross_of", "less"] (defScope (top 19)) 1 E X) : DSs G E X (defBody (top 19)) F_side_of :=
  (dss_one (ds_ret (de_call hX 0 (ok_cross_of hA) (by decide) (da_cons (de_call hX 1 (ok_less hA) (by decide) (da_cons (de_var hX 1 1) (da_cons (de_var hX 0 0) da_nil))) (da_cons (de_call hX 1 (ok_less hA) (by decide) (da_cons (de_var hX 2 2) (da_cons (de_var hX 0 0) da_nil))) da_nil)))))
theorem sc_side_of : ScOk ["a", "b", "point"] ["a", "b", "point"] ["a", "b", "point"] ["cross_of", "less"] (defScope (top 19)) := scOk_of (by decide +kernel) (by decide +kernel)
theorem ok_side_of (hA : A G) : OkF G "side_of" 2 3 f_side_of := by
  obtain ⟨fd, FT⟩ := hA.sd.def_ 8 (d := d_side_of) rfl
  exact ⟨_, fd, ["a", "b", "point"], hA.glo 34, FT.kp, FT.bindsN fun _ _ _ _ _ _ us hl => match us, hl with | [_, _, _], _ => rfl, rfl, def_ok FT sc_side_of fun E X hX _ _ _ => b_side_of hA E X hX⟩
def E1_ways_of : EF :=
  (eTup (aCons (e2 ixD (eV 0) (eV 1)) (aCons (e2 ixD (eV 0) (e2 modD (e2 addD (eV 1) (eC (.int 1))) (eB lenD (aCons (eV 0) aNil)))) aNil)))
def F_ways_of : SF :=
  (sRet (eLc (iRange1 (aCons (eB lenD (aCons (eV 0) aNil)) aNil)) (gN 1) none E1_ways_of [1]))
def f_ways_of : FN := fnD 2 F_ways_of
theorem b_ways_of (hA : A G) (E : XK) (X : Cx) (hX : XC G ["pairs", "at"] ["pairs"] ["pairs"] ["range", "len"] (defScope (top 21)) 0 E X) : DSs G E X (defBody (top 21)) F_ways_of :=
  (dss_one (ds_ret (de_lc hX (blkX_of (own := [("at", 1)]) (bvis := ["pairs", "at"]) (bloc := ["at"]) (bgl := ["len"]) (by decide +kernel) (by decide +kernel) (by decide +kernel) (by decide +kernel)) (di_range1 hX 0 (fr_range hA) (da_cons (de_cb hX 1 (cr_len hX) (fr_len hA) (da_cons (de_var hX 0 0) da_nil)) da_nil)) (fun X1 h1 => (dg_name h1 1 0)) (fun X1 h1 => dto_none) (fun X1 h1 => (de_tup (da_cons (de_ix h1 (de_var h1 0 0) (de_var h1 1 1)) (da_cons (de_ix h1 (de_var h1 0 0) (de_op (op_modD h1) (de_op (op_addD h1) (de_var h1 1 1) de_int) (de_cb h1 0 (cr_len h1) (fr_len hA) (da_cons (de_var h1 0 0) da_nil)))) da_nil)))))))
theorem sc_ways_of : ScOk ["pairs", "at"] ["pairs"] ["pairs"] ["range", "len"] (defScope (top 21)) := scOk_of (by decide +kernel) (by decide +kernel)
theorem ok_ways_of (hA : A G) : OkF G "ways_of" 1 1 f_ways_of := by
  obtain ⟨fd, FT⟩ := hA.sd.def_ 9 (d := d_ways_of) rfl
  exact ⟨_, fd, ["pairs"], hA.glo 35, FT.kp, FT.bindsN fun _ _ _ _ _ _ us hl => match us, hl with | [_], _ => rfl, rfl, def_ok FT sc_ways_of fun E X hX _ _ _ => b_ways_of hA E X hX⟩
def F_Half_has : SF :=
  (sSeq
  (sSet 2 (eCall 2 f_cross_of (aCons (eFld "Half" "own_way" (eV 0)) (aCons (eV 1) aNil))))
  (sSeq
  (sIf (tB (e2 neD (eV 2) (eC (.int 0))))
  (sRet (e2 gtD (eV 2) (eC (.int 0))))
  sNil)
  (sSeq
  (sSet 3 (e2 gtD (e2 addD (e2 mulD (e2 ixD (eV 1) (eC (.int 0))) (e2 ixD (eFld "Half" "own_way" (eV 0)) (eC (.int 0)))) (e2 mulD (e2 ixD (eV 1) (eC (.int 1))) (e2 ixD (eFld "Half" "own_way" (eV 0)) (eC (.int 1))))) (eC (.int 0))))
  (sRet (e2 eqD (eV 3) (eFld "Half" "own_ahead" (eV 0)))))))
def f_Half_has : FN := fnD 4 F_Half_has
theorem b_Half_has (hA : A G) (E : XK) (X : Cx) (hX : XC G ["self", "pair", "at", "goes_along"] ["self", "pair", "at", "goes_along"] ["self", "pair", "at", "goes_along"] ["cross_of"] (defScope (inClass (top 48) 5)) 1 E X) : DSs G E X (defBody (inClass (top 48) 5)) F_Half_has :=
  (dss_cons
  (ds_set hX 2 2 (de_call hX 0 (ok_cross_of hA) (by decide) (da_cons (de_fld hX (fl_Half_own_way hA) (de_var hX 0 0)) (da_cons (de_var hX 1 1) da_nil))))
  (dss_cons
  (ds_if (dt_cmp (op_neDD hX) (de_var hX 2 2) de_int)
  (dss_one (ds_ret (de_cmp (op_cmpD op_gt) (de_var hX 2 2) de_int)))
  dss_nil)
  (dss_cons
  (ds_set hX 3 3 (de_cmp (op_cmpD op_gt) (de_op (op_addD hX) (de_op (op_mulD hX) (de_ix hX (de_var hX 1 1) de_int) (de_ix hX (de_fld hX (fl_Half_own_way hA) (de_var hX 0 0)) de_int)) (de_op (op_mulD hX) (de_ix hX (de_var hX 1 1) de_int) (de_ix hX (de_fld hX (fl_Half_own_way hA) (de_var hX 0 0)) de_int))) de_int))
  (dss_one (ds_ret (de_cmp (op_eqDD hX) (de_var hX 3 3) (de_fld hX (fl_Half_own_ahead hA) (de_var hX 0 0))))))))
theorem sc_Half_has : ScOk ["self", "pair", "at", "goes_along"] ["self", "pair"] ["self", "pair", "at", "goes_along"] ["cross_of"] (defScope (inClass (top 48) 5)) := scOk_of (by decide +kernel) (by decide +kernel)
theorem ok_Half_has (hA : A G) : OkM G "Half" "has" 2 2 f_Half_has := by
  obtain ⟨fd, FT⟩ := hA.sd.def_ 10 (d := d_Half_has) rfl
  exact ⟨_, _, fd, ["self", "pair"], hA.cls 14 15, He.meth_ok (hA.sd.fact 36 (f := .meth "Half" "has") rfl), FT.bindsN fun _ _ _ _ _ _ us hl => match us, hl with | [_, _], _ => rfl, rfl, def_ok FT sc_Half_has fun E X hX _ _ _ => b_Half_has hA E X hX⟩
def L1_is_owned : SF :=
  (sSeq
  (sSet 5 (eCall 3 f_side_of (aCons (eV 3) (aCons (eV 4) (aCons (eV 2) aNil)))))
  (sIf (tOrD (tB (e2 ltD (eV 5) (eC (.int 0)))) (tAndD (tB (e2 eqD (eV 5) (eC (.int 0)))) (tNotD (tB (eMeth "Half" "has" 2 f_Half_has (eV 0) (aCons (eCall 2 f_less (aCons (eV 4) (aCons (eV 3) aNil))) aNil))))))
  (sRet (eC (.bl false)))
  sNil))
def F_is_owned : SF :=
  (sSeq
  (sFor (iSeq (eCall 1 f_ways_of (aCons (eV 1) aNil))) (gT 2 (gsCons (gN 3) (gsCons (gN 4) gsNil)))
  L1_is_owned)
  (sRet (eC (.bl true))))
def f_is_owned : FN := fnD 6 F_is_owned
theorem b_is_owned (hA : A G) (E : XK) (X : Cx) (hX : XC G ["rule", "pairs", "pair", "a", "b", "turn"] ["rule", "pairs", "pair", "a", "b", "turn"] ["rule", "pairs", "pair", "a", "b", "turn"] ["ways_of", "side_of", "less"] (defScope (top 22)) 2 E X) : DSs G E X (defBody (top 22)) F_is_owned :=
  (dss_cons
  (ds_for hX (di_list hX (de_call hX 0 (ok_ways_of hA) (by decide) (da_cons (de_var hX 1 1) da_nil))) (dg_tup hX (dgs_cons (dg_name hX 3 3) (dgs_cons (dg_name hX 4 4) dgs_nil)))
  (dss_cons
  (ds_set hX 5 5 (de_call hX 1 (ok_side_of hA) (by decide) (da_cons (de_var hX 3 3) (da_cons (de_var hX 4 4) (da_cons (de_var hX 2 2) da_nil)))))
  (dss_one (ds_if (dw_pt (dw_or (dt_cmp (op_cmpD op_lt) (de_var hX 5 5) de_int) (dw_or1 (dw_pt (dw_and (dt_cmp (op_eqDD hX) (de_var hX 5 5) de_int) (dw_and1 (dt_not (dt_val (de_meth hX (ok_Half_has hA) (by decide) (de_var hX 0 0) (da_cons (de_call hX 2 (ok_less hA) (by decide) (da_cons (de_var hX 4 4) (da_cons (de_var hX 3 3) da_nil))) da_nil))))))))))
  (dss_one (ds_ret de_bl))
  dss_nil))))
  (dss_one (ds_ret de_bl)))
theorem sc_is_owned : ScOk ["rule", "pairs", "pair", "a", "b", "turn"] ["rule", "pairs", "pair"] ["rule", "pairs", "pair", "a", "b", "turn"] ["ways_of", "side_of", "less"] (defScope (top 22)) := scOk_of (by decide +kernel) (by decide +kernel)
theorem ok_is_owned (hA : A G) : OkF G "is_owned" 3 3 f_is_owned := by
  obtain ⟨fd, FT⟩ := hA.sd.def_ 11 (d := d_is_owned) rfl
  exact ⟨_, fd, ["rule", "pairs", "pair"], hA.glo 37, FT.kp, FT.bindsN fun _ _ _ _ _ _ us hl => match us, hl with | [_, _, _], _ => rfl, rfl, def_ok FT sc_is_owned fun E X hX _ _ _ => b_is_owned hA E X hX⟩
def E1_Net_corners_of : EF :=
  (e2 ixD (eFld "Net" "pairs" (eV 0)) (eV 2))
def F_Net_corners_of : SF :=
  (sRet (eLc (iTupD (eV 1)) (gN 2) none E1_Net_corners_of [2]))
def f_Net_corners_of : FN := fnD 3 F_Net_corners_of
theorem b_Net_corners_of (hA : A G) (E : XK) (X : Cx) (hX : XC G ["self", "triple", "index"] ["self", "triple"] ["self", "triple"] [] (defScope (inClass (top 30) 7)) 0 E X) : DSs G E X (defBody (inClass (top 30) 7)) F_Net_corners_of :=
  (dss_one (ds_ret (de_lc hX (blkX_of (own := [("index", 2)]) (bvis := ["index", "self"]) (bloc := ["index"]) (bgl := []) (by decide +kernel) (by decide +kernel) (by decide +kernel) (by decide +kernel)) (di_tup hX (de_var hX 1 1)) (fun X1 h1 => (dg_name h1 2 0)) (fun X1 h1 => dto_none) (fun X1 h1 => (de_ix h1 (de_fld h1 (fl_Net_pairs hA) (de_var h1 0 1)) (de_var h1 2 0))))))
theorem sc_Net_corners_of : ScOk ["self", "triple", "index"] ["self", "triple"] ["self", "triple"] [] (defScope (inClass (top 30) 7)) := scOk_of (by decide +kernel) (by decide +kernel)
theorem ok_Net_corners_of (hA : A G) : OkM G "Net" "corners_of" 1 2 f_Net_corners_of := by
  obtain ⟨fd, FT⟩ := hA.sd.def_ 12 (d := d_Net_corners_of) rfl
  exact ⟨_, _, fd, ["self", "triple"], hA.cls 18 19, He.meth_ok (hA.sd.fact 38 (f := .meth "Net" "corners_of") rfl), FT.bindsN fun _ _ _ _ _ _ us hl => match us, hl with | [_, _], _ => rfl, rfl, def_ok FT sc_Net_corners_of fun E X hX _ _ _ => b_Net_corners_of hA E X hX⟩
def L1_owner_counts : SF :=
  (sSeq
  (sAsg (eMeth "Net" "corners_of" 2 f_Net_corners_of (eV 1) (aCons (eV 5) aNil)) (gU 3 (gsCons (gN 6) (gsCons (gN 7) (gsCons (gN 8) gsNil)))))
  (sSeq
  (sSet 9 (eCall 3 f_side_of (aCons (eV 6) (aCons (eV 7) (aCons (eV 8) aNil)))))
  (sSeq
  (sIf (tAndD (tB (e2 gtD (eV 9) (eC (.int 0)))) (tB (eCall 3 f_is_owned (aCons (eV 0) (aCons (eLst (aCons (eV 6) (aCons (eV 7) (aCons (eV 8) aNil)))) (aCons (eV 2) aNil))))))
  (sAug 3 iaddD (eC (.int 1)))
  sNil)
  (sIf (tAndD (tB (e2 ltD (eV 9) (eC (.int 0)))) (tB (eCall 3 f_is_owned (aCons (eV 0) (aCons (eLst (aCons (eV 6) (aCons (eV 8) (aCons (eV 7) aNil)))) (aCons (eV 2) aNil))))))
  (sAug 4 iaddD (eC (.int 1)))
  sNil))))
def F_owner_counts : SF :=
  (sSeq
  (sSet 3 (eC (.int 0)))
  (sSeq
  (sSet 4 (eC (.int 0)))
  (sSeq
  (sFor (iSeq (eFld "Net" "own_triples" (eV 1))) (gN 5)
  L1_owner_counts)
  (sRet (eTup (aCons (eV 3) (aCons (eV 4) aNil)))))))
def f_owner_counts : FN := fnD 10 F_owner_counts
theorem b_owner_counts (hA : A G) (E : XK) (X : Cx) (hX : XC G ["half", "net", "pair", "ahead", "back", "triple", "a", "b", "c", "turn"] ["half", "net", "pair", "ahead", "back", "triple", "a", "b", "c", "turn"] ["half", "net", "pair", "ahead", "back", "triple", "a", "b", "c", "turn"] ["side_of", "is_owned"] (defScope (top 32)) 3 E X) : DSs G E X (defBody (top 32)) F_owner_counts :=
  (dss_cons
  (ds_set hX 3 3 de_int)
  (dss_cons
  (ds_set hX 4 4 de_int)
  (dss_cons
  (ds_for hX (di_list hX (de_fld hX (fl_Net_own_triples hA) (de_var hX 1 1))) (dg_name hX 5 5)
  (dss_cons
  (ds_asg (de_meth hX (ok_Net_corners_of hA) (by decide) (de_var hX 1 1) (da_cons (de_var hX 5 5) da_nil)) (dg_unl hX (dgs_cons (dg_name hX 6 6) (dgs_cons (dg_name hX 7 7) (dgs_cons (dg_name hX 8 8) dgs_nil)))))
  (dss_cons
  (ds_set hX 9 9 (de_call hX 0 (ok_side_of hA) (by decide) (da_cons (de_var hX 6 6) (da_cons (de_var hX 7 7) (da_cons (de_var hX 8 8) da_nil)))))
  (dss_cons
  (ds_if (dw_pt (dw_and (dt_cmp (op_cmpD op_gt) (de_var hX 9 9) de_int) (dw_and1 (dt_val (de_call hX 1 (ok_is_owned hA) (by decide) (da_cons (de_var hX 0 0) (da_cons (de_lst (da_cons (de_var hX 6 6) (da_cons (de_var hX 7 7) (da_cons (de_var hX 8 8) da_nil)))) (da_cons (de_var hX 2 2) da_nil))))))))
  (dss_one (ds_aug hX 3 3 ip_addD de_int))
  dss_nil)
  (dss_one (ds_if (dw_pt (dw_and (dt_cmp (op_cmpD op_lt) (de_var hX 9 9) de_int) (dw_and1 (dt_val (de_call hX 1 (ok_is_owned hA) (by decide) (da_cons (de_var hX 0 0) (da_cons (de_lst (da_cons (de_var hX 6 6) (da_cons (de_var hX 8 8) (da_cons (de_var hX 7 7) da_nil)))) (da_cons (de_var hX 2 2) da_nil))))))))
  (dss_one (ds_aug hX 4 4 ip_addD de_int))
  dss_nil))))))
  (dss_one (ds_ret (de_tup (da_cons (de_var hX 3 3) (da_cons (de_var hX 4 4) da_nil))))))))
theorem sc_owner_counts : ScOk ["half", "net", "pair", "ahead", "back", "triple", "a", "b", "c", "turn"] ["half", "net", "pair"] ["half", "net", "pair", "ahead", "back", "triple", "a", "b", "c", "turn"] ["side_of", "is_owned"] (defScope (top 32)) := scOk_of (by decide +kernel) (by decide +kernel)
theorem ok_owner_counts (hA : A G) : OkF G "owner_counts" 4 3 f_owner_counts := by
  obtain ⟨fd, FT⟩ := hA.sd.def_ 13 (d := d_owner_counts) rfl
  exact ⟨_, fd, ["half", "net", "pair"], hA.glo 39, FT.kp, FT.bindsN fun _ _ _ _ _ _ us hl => match us, hl with | [_, _, _], _ => rfl, rfl, def_ok FT sc_owner_counts fun E X hX _ _ _ => b_owner_counts hA E X hX⟩
def F_is_integer : SF :=
  (sRet (eAnd (e1 (isD tab_int) (eV 0)) (eNot (e1 (isD tab_bool) (eV 0)))))
def f_is_integer : FN := fnD 1 F_is_integer
theorem b_is_integer (hA : A G) (E : XK) (X : Cx) (hX : XC G ["thing"] ["thing"] ["thing"] ["isinstance", "int", "bool"] (defScope (top 9)) 0 E X) : DSs G E X (defBody (top 9)) F_is_integer :=
  (dss_one (ds_ret (de_and (de_isi hX 0 1 (fr_isinstance hA) (cn_int hA) (tb_int hA) (de_var hX 0 0)) (de_one (de_not (de_isi hX 0 2 (fr_isinstance hA) (cn_bool hA) (tb_bool hA) (de_var hX 0 0)))))))
theorem sc_is_integer : ScOk ["thing"] ["thing"] ["thing"] ["isinstance", "int", "bool"] (defScope (top 9)) := scOk_of (by decide +kernel) (by decide +kernel)
theorem ok_is_integer (hA : A G) : OkF G "is_integer" 1 1 f_is_integer := by
  obtain ⟨fd, FT⟩ := hA.sd.def_ 14 (d := d_is_integer) rfl
  exact ⟨_, fd, ["thing"], hA.glo 40, FT.kp, FT.bindsN fun _ _ _ _ _ _ us hl => match us, hl with | [_], _ => rfl, rfl, def_ok FT sc_is_integer fun E X hX _ _ _ => b_is_integer hA E X hX⟩
def F_numbers_of : SF :=
  (sSeq
  (sIf (tB (e1 (isD tab_Point) (eV 0)))
  (sRet (eTup (aCons (eFld "Point" "x" (eV 0)) (aCons (eFld "Point" "y" (eV 0)) aNil))))
  sNil)
  (sSeq
  (sIf (tAndD (tB (e1 (isD tab_tuple) (eV 0))) (tAndD (tB (e2 eqD (eB lenD (aCons (eV 0) aNil)) (eC (.int 2)))) (tAndD (tB (eCall 1 f_is_integer (aCons (e2 ixD (eV 0) (eC (.int 0))) aNil))) (tB (eCall 1 f_is_integer (aCons (e2 ixD (eV 0) (eC (.int 1))) aNil))))))
  (sRet (eTup (aCons (eB intTyD (aCons (e2 ixD (eV 0) (eC (.int 0))) aNil)) (aCons (eB intTyD (aCons (e2 ixD (eV 0) (eC (.int 1))) aNil)) aNil))))
  sNil)
  (sRet (eC .non))))
def f_numbers_of : FN := fnD 1 F_numbers_of
theorem b_numbers_of (hA : A G) (E : XK) (X : Cx) (hX : XC G ["thing"] ["thing"] ["thing"] ["isinstance", "Point", "tuple", "len", "is_integer", "int"] (defScope (top 14)) 1 E X) : DSs G E X (defBody (top 14)) F_numbers_of :=
  (dss_cons
  (ds_if (dt_val (de_isi hX 0 1 (fr_isinstance hA) (cn_Point hA) (tb_Point hA) (de_var hX 0 0)))
  (dss_one (ds_ret (de_tup (da_cons (de_fld hX (fl_Point_x hA) (de_var hX 0 0)) (da_cons (de_fld hX (fl_Point_y hA) (de_var hX 0 0)) da_nil)))))
  dss_nil)
  (dss_cons
  (ds_if (dw_pt (dw_and (dt_val (de_isi hX 0 2 (fr_isinstance hA) (cn_tuple hA) (tb_tuple hA) (de_var hX 0 0))) (dw_and (dt_cmp (op_eqDD hX) (de_cb hX 3 (cr_len hX) (fr_len hA) (da_cons (de_var hX 0 0) da_nil)) de_int) (dw_and (dt_val (de_call hX 4 (ok_is_integer hA) (by decide) (da_cons (de_ix hX (de_var hX 0 0) de_int) da_nil))) (dw_and1 (dt_val (de_call hX 4 (ok_is_integer hA) (by decide) (da_cons (de_ix hX (de_var hX 0 0) de_int) da_nil))))))))
  (dss_one (ds_ret (de_tup (da_cons (de_ct hX 5 cr_intD (fr_int hA) (da_cons (de_ix hX (de_var hX 0 0) de_int) da_nil)) (da_cons (de_ct hX 5 cr_intD (fr_int hA) (da_cons (de_ix hX (de_var hX 0 0) de_int) da_nil)) da_nil)))))
  dss_nil)
  (dss_one (ds_ret de_non))))
theorem sc_numbers_of : ScOk ["thing"] ["thing"] ["thing"] ["isinstance", "Point", "tuple", "len", "is_integer", "int"] (defScope (top 14)) := scOk_of (by decide +kernel) (by decide +kernel)
theorem ok_numbers_of (hA : A G) : OkF G "numbers_of" 2 1 f_numbers_of := by
  obtain ⟨fd, FT⟩ := hA.sd.def_ 15 (d := d_numbers_of) rfl
  exact ⟨_, fd, ["thing"], hA.glo 41, FT.kp, FT.bindsN fun _ _ _ _ _ _ us hl => match us, hl with | [_], _ => rfl, rfl, def_ok FT sc_numbers_of fun E X hX _ _ _ => b_numbers_of hA E X hX⟩
def F_pair_of : SF :=
  (sSeq
  (sSet 1 (eCall 1 f_numbers_of (aCons (eV 0) aNil)))
  (sSeq
  (sIf (tB (e2 isND (eV 1) (eC .non)))
  sNever
  sNil)
  (sRet (eV 1))))
def f_pair_of : FN := fnD 2 F_pair_of
theorem b_pair_of (hA : A G) (E : XK) (X : Cx) (hX : XC G ["thing", "numbers"] ["thing", "numbers"] ["thing", "numbers"] ["numbers_of", "InvalidPoint"] (defScope (top 15)) 2 E X) : DSs G E X (defBody (top 15)) F_pair_of :=
  (dss_cons
  (ds_set hX 1 1 (de_call hX 0 (ok_numbers_of hA) (by decide) (da_cons (de_var hX 0 0) da_nil)))
  (dss_cons
  (ds_if (dt_cmp op_isND (de_var hX 1 1) de_non)
  (dss_one ds_never)
  dss_nil)
  (dss_one (ds_ret (de_var hX 1 1)))))
theorem sc_pair_of : ScOk ["thing", "numbers"] ["thing"] ["thing", "numbers"] ["numbers_of", "InvalidPoint"] (defScope (top 15)) := scOk_of (by decide +kernel) (by decide +kernel)
theorem ok_pair_of (hA : A G) : OkF G "pair_of" 3 1 f_pair_of := by
  obtain ⟨fd, FT⟩ := hA.sd.def_ 16 (d := d_pair_of) rfl
  exact ⟨_, fd, ["thing"], hA.glo 42, FT.kp, FT.bindsN fun _ _ _ _ _ _ us hl => match us, hl with | [_], _ => rfl, rfl, def_ok FT sc_pair_of fun E X hX _ _ _ => b_pair_of hA E X hX⟩
def F_counted_owners : SF :=
  (sRet (eCall 3 f_owner_counts (aCons (eV 0) (aCons (eV 1) (aCons (eCall 1 f_pair_of (aCons (eV 2) aNil)) aNil)))))
def f_counted_owners : FN := fnD 3 F_counted_owners
theorem b_counted_owners (hA : A G) (E : XK) (X : Cx) (hX : XC G ["half", "net", "point"] ["half", "net", "point"] ["half", "net", "point"] ["owner_counts", "pair_of"] (defScope (top 33)) 4 E X) : DSs G E X (defBody (top 33)) F_counted_owners :=
  (dss_one (ds_ret (de_call hX 0 (ok_owner_counts hA) (by decide) (da_cons (de_var hX 0 0) (da_cons (de_var hX 1 1) (da_cons (de_call hX 1 (ok_pair_of hA) (by decide) (da_cons (de_var hX 2 2) da_nil)) da_nil))))))
theorem sc_counted_owners : ScOk ["half", "net", "point"] ["half", "net", "point"] ["half", "net", "point"] ["owner_counts", "pair_of"] (defScope (top 33)) := scOk_of (by decide +kernel) (by decide +kernel)
theorem ok_counted_owners (hA : A G) : OkF G "counted_owners" 5 3 f_counted_owners := by
  obtain ⟨fd, FT⟩ := hA.sd.def_ 17 (d := d_counted_owners) rfl
  exact ⟨_, fd, ["half", "net", "point"], hA.glo 43, FT.kp, FT.bindsN fun _ _ _ _ _ _ us hl => match us, hl with | [_, _, _], _ => rfl, rfl, def_ok FT sc_counted_owners fun E X hX _ _ _ => b_counted_owners hA E X hX⟩
def F_shift_pairs : SF :=
  (sSeq
  (sAsg (eFld "Half" "own_way" (eV 0)) (gT 2 (gsCons (gN 1) (gsCons (gN 2) gsNil))))
  (sSeq
  (sIf (tB (eFld "Half" "own_ahead" (eV 0)))
  (sRet (eTup (aCons (eTup (aCons (e1 negD (eV 1)) (aCons (e1 negD (eV 2)) aNil))) (aCons (eTup (aCons (e1 negD (eV 2)) (aCons (eV 1) aNil))) aNil))))
  sNil)
  (sRet (eTup (aCons (eTup (aCons (e1 negD (eV 1)) (aCons (e1 negD (eV 2)) aNil))) (aCons (eTup (aCons (eV 2) (aCons (e1 negD (eV 1)) aNil))) aNil))))))
def f_shift_pairs : FN := fnD 3 F_shift_pairs
theorem b_shift_pairs (hA : A G) (E : XK) (X : Cx) (hX : XC G ["half", "x", "y"] ["half", "x", "y"] ["half", "x", "y"] [] (defScope (top 24)) 0 E X) : DSs G E X (defBody (top 24)) F_shift_pairs :=
  (dss_cons
  (ds_asg (de_fld hX (fl_Half_own_way hA) (de_var hX 0 0)) (dg_tup hX (dgs_cons (dg_name hX 1 1) (dgs_cons (dg_name hX 2 2) dgs_nil))))
  (dss_cons
  (ds_if (dt_val (de_fld hX (fl_Half_own_ahead hA) (de_var hX 0 0)))
  (dss_one (ds_ret (de_tup (da_cons (de_tup (da_cons (de_un un_negD (de_var hX 1 1)) (da_cons (de_un un_negD (de_var hX 2 2)) da_nil))) (da_cons (de_tup (da_cons (de_un un_negD (de_var hX 2 2)) (da_cons (de_var hX 1 1) da_nil))) da_nil)))))
  dss_nil)
  (dss_one (ds_ret (de_tup (da_cons (de_tup (da_cons (de_un un_negD (de_var hX 1 1)) (da_cons (de_un un_negD (de_var hX 2 2)) da_nil))) (da_cons (de_tup (da_cons (de_var hX 2 2) (da_cons (de_un un_negD (de_var hX 1 1)) da_nil))) da_nil)))))))
theorem sc_shift_pairs : ScOk ["half", "x", "y"] ["half"] ["half", "x", "y"] [] (defScope (top 24)) := scOk_of (by decide +kernel) (by decide +kernel)
theorem ok_shift_pairs (hA : A G) : OkF G "shift_pairs" 1 1 f_shift_pairs := by
  obtain ⟨fd, FT⟩ := hA.sd.def_ 18 (d := d_shift_pairs) rfl
  exact ⟨_, fd, ["half"], hA.glo 44, FT.kp, FT.bindsN fun _ _ _ _ _ _ us hl => match us, hl with | [_], _ => rfl, rfl, def_ok FT sc_shift_pairs fun E X hX _ _ _ => b_shift_pairs hA E X hX⟩
def F_is_upward : SF :=
  (sSeq
  (sAsg (eCall 1 f_shift_pairs (aCons (eV 0) aNil)) (gT 2 (gsCons (gN 1) (gsCons (gN 2) gsNil))))
  (sRet (eOr (e2 gtD (e2 ixD (eV 1) (eC (.int 1))) (eC (.int 0))) (eAnd (e2 eqD (e2 ixD (eV 1) (eC (.int 1))) (eC (.int 0))) (e2 gtD (e2 ixD (eV 2) (eC (.int 1))) (eC (.int 0)))))))
def f_is_upward : FN := fnD 3 F_is_upward
theorem b_is_upward (hA : A G) (E : XK) (X : Cx) (hX : XC G ["half", "first", "second"] ["half", "first", "second"] ["half", "first", "second"] ["shift_pairs"] (defScope (top 35)) 1 E X) : DSs G E X (defBody (top 35)) F_is_upward :=
  (dss_cons
  (ds_asg (de_call hX 0 (ok_shift_pairs hA) (by decide) (da_cons (de_var hX 0 0) da_nil)) (dg_tup hX (dgs_cons (dg_name hX 1 1) (dgs_cons (dg_name hX 2 2) dgs_nil))))
  (dss_one (ds_ret (de_or (de_cmp (op_cmpD op_gt) (de_ix hX (de_var hX 1 1) de_int) de_int) (de_one (de_and (de_cmp (op_eqDD hX) (de_ix hX (de_var hX 1 1) de_int) de_int) (de_one (de_cmp (op_cmpD op_gt) (de_ix hX (de_var hX 2 2) de_int) de_int))))))))
theorem sc_is_upward : ScOk ["half", "first", "second"] ["half"] ["half", "first", "second"] ["shift_pairs"] (defScope (top 35)) := scOk_of (by decide +kernel) (by decide +kernel)
theorem ok_is_upward (hA : A G) : OkF G "is_upward" 2 1 f_is_upward := by
  obtain ⟨fd, FT⟩ := hA.sd.def_ 19 (d := d_is_upward) rfl
  exact ⟨_, fd, ["half"], hA.glo 45, FT.kp, FT.bindsN fun _ _ _ _ _ _ us hl => match us, hl with | [_], _ => rfl, rfl, def_ok FT sc_is_upward fun E X hX _ _ _ => b_is_upward hA E X hX⟩
def L1_turns_of : SF :=
  (sSeq
  (sSet 7 (eOr (e2 ltD (e2 ixD (eV 5) (eC (.int 1))) (e2 ixD (eV 2) (eC (.int 1)))) (eAnd (e2 eqD (e2 ixD (eV 5) (eC (.int 1))) (e2 ixD (eV 2) (eC (.int 1)))) (eV 4))))
  (sSeq
  (sSet 8 (eOr (e2 ltD (e2 ixD (eV 6) (eC (.int 1))) (e2 ixD (eV 2) (eC (.int 1)))) (eAnd (e2 eqD (e2 ixD (eV 6) (eC (.int 1))) (e2 ixD (eV 2) (eC (.int 1)))) (eV 4))))
  (sSeq
  (sIf (tB (e2 eqD (eV 7) (eV 8)))
  sCont
  sNil)
  (sSeq
  (sSet 9 (eCall 3 f_side_of (aCons (eV 5) (aCons (eV 6) (aCons (eV 2) aNil)))))
  (sSeq
  (sSet 10 (eOr (e2 gtD (eV 9) (eC (.int 0))) (eAnd (e2 eqD (eV 9) (eC (.int 0))) (eMeth "Half" "has" 2 f_Half_has (eV 0) (aCons (eCall 2 f_less (aCons (eV 6) (aCons (eV 5) aNil))) aNil)))))
  (sSeq
  (sIf (tAndD (tB (eV 7)) (tB (eV 10)))
  (sAug 3 iaddD (eC (.int 1)))
  sNil)
  (sIf (tAndD (tB (eV 8)) (tNotD (tB (eV 10))))
  (sAug 3 isubD (eC (.int 1)))
  sNil)))))))
def F_turns_of : SF :=
  (sSeq
  (sSet 3 (eC (.int 0)))
  (sSeq
  (sSet 4 (eCall 1 f_is_upward (aCons (eV 0) aNil)))
  (sSeq
  (sFor (iSeq (eV 1)) (gT 2 (gsCons (gN 5) (gsCons (gN 6) gsNil)))
  L1_turns_of)
  (sRet (eV 3)))))
def f_turns_of : FN := fnD 11 F_turns_of
theorem b_turns_of (hA : A G) (E : XK) (X : Cx) (hX : XC G ["half", "ways", "pair", "found", "goes_up", "a", "b", "is_below", "is_next_below", "at", "is_left"] ["half", "ways", "pair", "found", "goes_up", "a", "b", "is_below", "is_next_below", "at", "is_left"] ["half", "ways", "pair", "found", "goes_up", "a", "b", "is_below", "is_next_below", "at", "is_left"] ["is_upward", "side_of", "less"] (defScope (top 36)) 2 E X) : DSs G E X (defBody (top 36)) F_turns_of :=
  (dss_cons
  (ds_set hX 3 3 de_int)
  (dss_cons
  (ds_set hX 4 4 (de_call hX 0 (ok_is_upward hA) (by decide) (da_cons (de_var hX 0 0) da_nil)))
  (dss_cons
  (ds_for hX (di_list hX (de_var hX 1 1)) (dg_tup hX (dgs_cons (dg_name hX 5 5) (dgs_cons (dg_name hX 6 6) dgs_nil)))
  (dss_cons
  (ds_set hX 7 7 (de_or (de_cmp (op_cmpD op_lt) (de_ix hX (de_var hX 5 5) de_int) (de_ix hX (de_var hX 2 2) de_int)) (de_one (de_and (de_cmp (op_eqDD hX) (de_ix hX (de_var hX 5 5) de_int) (de_ix hX (de_var hX 2 2) de_int)) (de_one (de_var hX 4 4))))))
  (dss_cons
  (ds_set hX 8 8 (de_or (de_cmp (op_cmpD op_lt) (de_ix hX (de_var hX 6 6) de_int) (de_ix hX (de_var hX 2 2) de_int)) (de_one (de_and (de_cmp (op_eqDD hX) (de_ix hX (de_var hX 6 6) de_int) (de_ix hX (de_var hX 2 2) de_int)) (de_one (de_var hX 4 4))))))
  (dss_cons
  (ds_if (dt_cmp (op_eqDD hX) (de_var hX 7 7) (de_var hX 8 8))
  (dss_one ds_continue)
  dss_nil)
  (dss_cons
  (ds_set hX 9 9 (de_call hX 1 (ok_side_of hA) (by decide) (da_cons (de_var hX 5 5) (da_cons (de_var hX 6 6) (da_cons (de_var hX 2 2) da_nil)))))
  (dss_cons
  (ds_set hX 10 10 (de_or (de_cmp (op_cmpD op_gt) (de_var hX 9 9) de_int) (de_one (de_and (de_cmp (op_eqDD hX) (de_var hX 9 9) de_int) (de_one (de_meth hX (ok_Half_has hA) (by decide) (de_var hX 0 0) (da_cons (de_call hX 2 (ok_less hA) (by decide) (da_cons (de_var hX 6 6) (da_cons (de_var hX 5 5) da_nil))) da_nil)))))))
  (dss_cons
  (ds_if (dw_pt (dw_and (dt_val (de_var hX 7 7)) (dw_and1 (dt_val (de_var hX 10 10)))))
  (dss_one (ds_aug hX 3 3 ip_addD de_int))
  dss_nil)
  (dss_one (ds_if (dw_pt (dw_and (dt_val (de_var hX 8 8)) (dw_and1 (dt_not (dt_val (de_var hX 10 10))))))
  (dss_one (ds_aug hX 3 3 ip_subD de_int))
  dss_nil)))))))))
  (dss_one (ds_ret (de_var hX 3 3))))))
theorem sc_turns_of : ScOk ["half", "ways", "pair", "found", "goes_up", "a", "b", "is_below", "is_next_below", "at", "is_left"] ["half", "ways", "pair"] ["half", "ways", "pair", "found", "goes_up", "a", "b", "is_below", "is_next_below", "at", "is_left"] ["is_upward", "side_of", "less"] (defScope (top 36)) := scOk_of (by decide +kernel) (by decide +kernel)
theorem ok_turns_of (hA : A G) : OkF G "turns_of" 3 3 f_turns_of := by
  obtain ⟨fd, FT⟩ := hA.sd.def_ 20 (d := d_turns_of) rfl
  exact ⟨_, fd, ["half", "ways", "pair"], hA.glo 46, FT.kp, FT.bindsN fun _ _ _ _ _ _ us hl => match us, hl with | [_, _, _], _ => rfl, rfl, def_ok FT sc_turns_of fun E X hX _ _ _ => b_turns_of hA E X hX⟩
def T1_ascending : TF :=
  (tB (e2 eqD (eV 4) (eV 2)))
def E2_ascending : EF :=
  (eB intTyD (aCons (eV 5) aNil))
def E3_ascending : EF :=
  (eTup (aCons (eV 2) (aCons (eV 3) aNil)))
def L4_ascending : SF :=
  (sExpr (eBM isL extD (eV 1) (aCons (eLc (iSeq (eB sortedD (aCons (eLc (iSeq (eV 0)) (gT 2 (gsCons (gN 4) (gsCons (gN 5) gsNil))) (some T1_ascending) E2_ascending [4, 5]) aNil))) (gN 3) none E3_ascending [3]) aNil)))
def F_ascending : SF :=
  (sSeq
  (sSet 1 (eLstC aNil))
  (sSeq
  (sFor (iRange1 (aCons (eC cst_MOST_POINTS) aNil)) (gN 2)
  L4_ascending)
  (sFz 1 (sRet (eV 1)))))
def f_ascending : FN := fnD 6 F_ascending
theorem b_ascending (hA : A G) (E : XK) (X : Cx) (hX : XC G ["ways", "found", "first", "last", "i", "j"] ["ways", "found", "first"] ["ways", "found", "first"] ["range", "MOST_POINTS", "sorted"] (defScope (top 31)) 0 E X) : DSs G E X (defBody (top 31)) F_ascending :=
  (dss_cons
  (ds_set hX 1 1 (de_lstC da_nil))
  (dss_cons
  (ds_for hX (di_range1 hX 0 (fr_range hA) (da_cons (de_cst hX 1 (c_MOST_POINTS hA)) da_nil)) (dg_name hX 2 2)
  (dss_one (ds_expr (de_bm hX ty_L PySem.F.plainAttrs_list PySem.F.slot_list_extend PySem.F.type_list_extend (mt_extD hX) (de_var hX 1 1) (da_cons (de_lc hX (blkX_of (own := [("last", 3)]) (bvis := ["first", "last"]) (bloc := ["last"]) (bgl := []) (by decide +kernel) (by decide +kernel) (by decide +kernel) (by decide +kernel)) (di_list hX (de_cb hX 2 (cr_sortedD hX) (fr_sorted hA) (da_cons (de_lc hX (blkX_of (own := [("i", 4), ("j", 5)]) (bvis := ["j", "i", "first"]) (bloc := ["i", "j"]) (bgl := ["int"]) (by decide +kernel) (by decide +kernel) (by decide +kernel) (by decide +kernel)) (di_list hX (de_var hX 0 0)) (fun X2 h2 => (dg_tup h2 (dgs_cons (dg_name h2 4 0) (dgs_cons (dg_name h2 5 1) dgs_nil)))) (fun X2 h2 => (dto_one (dt_cmp (op_eqDD h2) (de_var h2 4 1) (de_var h2 2 2)))) (fun X2 h2 => (de_ct h2 0 cr_intD (fr_int hA) (da_cons (de_var h2 5 0) da_nil)))) da_nil))) (fun X1 h1 => (dg_name h1 3 0)) (fun X1 h1 => dto_none) (fun X1 h1 => (de_tup (da_cons (de_var h1 2 0) (da_cons (de_var h1 3 1) da_nil))))) da_nil)))))
  (dss_fz 1 (dss_one (ds_ret (de_var hX 1 1))))))
theorem sc_ascending : ScOk ["ways", "found", "first", "last", "i", "j"] ["ways"] ["ways", "found", "first"] ["range", "MOST_POINTS", "sorted"] (defScope (top 31)) := scOk_of (by decide +kernel) (by decide +kernel)
theorem ok_ascending (hA : A G) : OkF G "ascending" 1 1 f_ascending := by
  obtain ⟨fd, FT⟩ := hA.sd.def_ 21 (d := d_ascending) rfl
  exact ⟨_, fd, ["ways"], hA.glo 47, FT.kp, FT.bindsN fun _ _ _ _ _ _ us hl => match us, hl with | [_], _ => rfl, rfl, def_ok FT sc_ascending fun E X hX _ _ _ => b_ascending hA E X hX⟩
def L1_Net_rim : SF :=
  (sSeq
  (sSet 6 (eTup (aCons (e2 ixD (eV 5) (eC (.int 1))) (aCons (e2 ixD (eV 5) (eC (.int 0))) aNil))))
  (sIf (tB (e2 (inD false) (eV 6) (eV 1)))
  (sExpr (eBM isL remD (eV 1) (aCons (eV 6) aNil)))
  (sExpr (eBM isL appD (eV 1) (aCons (eV 5) aNil)))))
def L2_Net_rim : SF :=
  (sFor (iTupD (eTup (aCons (eTup (aCons (eV 2) (aCons (eV 3) aNil))) (aCons (eTup (aCons (eV 3) (aCons (eV 4) aNil))) (aCons (eTup (aCons (eV 4) (aCons (eV 2) aNil))) aNil))))) (gN 5)
  L1_Net_rim)
def F_Net_rim : SF :=
  (sSeq
  (sSet 1 (eLstC aNil))
  (sSeq
  (sFor (iSeq (eFld "Net" "own_triples" (eV 0))) (gT 3 (gsCons (gN 2) (gsCons (gN 3) (gsCons (gN 4) gsNil))))
  L2_Net_rim)
  (sFz 1 (sRet (eCall 1 f_ascending (aCons (eV 1) aNil))))))
def f_Net_rim : FN := fnD 7 F_Net_rim
theorem b_Net_rim (hA : A G) (E : XK) (X : Cx) (hX : XC G ["self", "found", "i", "j", "k", "way", "back"] ["self", "found", "i", "j", "k", "way", "back"] ["self", "found", "i", "j", "k", "way", "back"] ["ascending"] (defScope (inClass (top 30) 3)) 1 E X) : DSs G E X (defBody (inClass (top 30) 3)) F_Net_rim :=
  (dss_cons
  (ds_set hX 1 1 (de_lstC da_nil))
  (dss_cons
  (ds_for hX (di_list hX (de_fld hX (fl_Net_own_triples hA) (de_var hX 0 0))) (dg_tup hX (dgs_cons (dg_name hX 2 2) (dgs_cons (dg_name hX 3 3) (dgs_cons (dg_name hX 4 4) dgs_nil))))
  (dss_one (ds_for hX (di_tup hX (de_tup (da_cons (de_tup (da_cons (de_var hX 2 2) (da_cons (de_var hX 3 3) da_nil))) (da_cons (de_tup (da_cons (de_var hX 3 3) (da_cons (de_var hX 4 4) da_nil))) (da_cons (de_tup (da_cons (de_var hX 4 4) (da_cons (de_var hX 2 2) da_nil))) da_nil))))) (dg_name hX 5 5)
  (dss_cons
  (ds_set hX 6 6 (de_tup (da_cons (de_ix hX (de_var hX 5 5) de_int) (da_cons (de_ix hX (de_var hX 5 5) de_int) da_nil))))
  (dss_one (ds_if (dt_cmp (op_inDD hX) (de_var hX 6 6) (de_var hX 1 1) (by with_unfolding_all rfl))
  (dss_one (ds_expr (de_bm hX ty_L PySem.F.plainAttrs_list PySem.F.slot_list_remove PySem.F.type_list_remove (mt_remD hX) (de_var hX 1 1) (da_cons (de_var hX 6 6) da_nil))))
  (dss_one (ds_expr (de_bm hX ty_L PySem.F.plainAttrs_list PySem.F.slot_list_append PySem.F.type_list_append (mt_appD hX) (de_var hX 1 1) (da_cons (de_var hX 5 5) da_nil))))))))))
  (dss_fz 1 (dss_one (ds_ret (de_call hX 0 (ok_ascending hA) (by decide) (da_cons (de_var hX 1 1) da_nil)))))))
theorem sc_Net_rim : ScOk ["self", "found", "i", "j", "k", "way", "back"] ["self"] ["self", "found", "i", "j", "k", "way", "back"] ["ascending"] (defScope (inClass (top 30) 3)) := scOk_of (by decide +kernel) (by decide +kernel)
theorem ok_Net_rim (hA : A G) : OkM G "Net" "rim" 2 1 f_Net_rim := by
  obtain ⟨fd, FT⟩ := hA.sd.def_ 22 (d := d_Net_rim) rfl
  exact ⟨_, _, fd, ["self"], hA.cls 18 19, He.meth_ok (hA.sd.fact 48 (f := .meth "Net" "rim") rfl), FT.bindsN fun _ _ _ _ _ _ us hl => match us, hl with | [_], _ => rfl, rfl, def_ok FT sc_Net_rim fun E X hX _ _ _ => b_Net_rim hA E X hX⟩
def E1_Net_rim_ways : EF :=
  (eTup (aCons (e2 ixD (eFld "Net" "pairs" (eV 0)) (eV 1)) (aCons (e2 ixD (eFld "Net" "pairs" (eV 0)) (eV 2)) aNil)))
def F_Net_rim_ways : SF :=
  (sRet (eLc (iSeq (eMeth "Net" "rim" 1 f_Net_rim (eV 0) aNil)) (gT 2 (gsCons (gN 1) (gsCons (gN 2) gsNil))) none E1_Net_rim_ways [1, 2]))
def f_Net_rim_ways : FN := fnD 3 F_Net_rim_ways
theorem b_Net_rim_ways (hA : A G) (E : XK) (X : Cx) (hX : XC G ["self", "i", "j"] ["self"] ["self"] [] (defScope (inClass (top 30) 4)) 2 E X) : DSs G E X (defBody (inClass (top 30) 4)) F_Net_rim_ways :=
  (dss_one (ds_ret (de_lc hX (blkX_of (own := [("i", 1), ("j", 2)]) (bvis := ["i", "j", "self"]) (bloc := ["i", "j"]) (bgl := []) (by decide +kernel) (by decide +kernel) (by decide +kernel) (by decide +kernel)) (di_list hX (de_meth0 hX (ok_Net_rim hA) (by decide) (de_var hX 0 0))) (fun X1 h1 => (dg_tup h1 (dgs_cons (dg_name h1 1 0) (dgs_cons (dg_name h1 2 1) dgs_nil)))) (fun X1 h1 => dto_none) (fun X1 h1 => (de_tup (da_cons (de_ix h1 (de_fld h1 (fl_Net_pairs hA) (de_var h1 0 2)) (de_var h1 1 0)) (da_cons (de_ix h1 (de_fld h1 (fl_Net_pairs hA) (de_var h1 0 2)) (de_var h1 2 1)) da_nil)))))))
theorem sc_Net_rim_ways : ScOk ["self", "i", "j"] ["self"] ["self"] [] (defScope (inClass (top 30) 4)) := scOk_of (by decide +kernel) (by decide +kernel)
theorem ok_Net_rim_ways (hA : A G) : OkM G "Net" "rim_ways" 3 1 f_Net_rim_ways := by
  obtain ⟨fd, FT⟩ := hA.sd.def_ 23 (d := d_Net_rim_ways) rfl
  exact ⟨_, _, fd, ["self"], hA.cls 18 19, He.meth_ok (hA.sd.fact 49 (f := .meth "Net" "rim_ways") rfl), FT.bindsN fun _ _ _ _ _ _ us hl => match us, hl with | [_], _ => rfl, rfl, def_ok FT sc_Net_rim_ways fun E X hX _ _ _ => b_Net_rim_ways hA E X hX⟩
def F_rim_turns : SF :=
  (sRet (eCall 3 f_turns_of (aCons (eV 0) (aCons (eMeth "Net" "rim_ways" 1 f_Net_rim_ways (eV 1) aNil) (aCons (eCall 1 f_pair_of (aCons (eV 2) aNil)) aNil)))))
def f_rim_turns : FN := fnD 3 F_rim_turns
theorem b_rim_turns (hA : A G) (E : XK) (X : Cx) (hX : XC G ["half", "net", "point"] ["half", "net", "point"] ["half", "net", "point"] ["turns_of", "pair_of"] (defScope (top 37)) 3 E X) : DSs G E X (defBody (top 37)) F_rim_turns :=
  (dss_one (ds_ret (de_call hX 0 (ok_turns_of hA) (by decide) (da_cons (de_var hX 0 0) (da_cons (de_meth0 hX (ok_Net_rim_ways hA) (by decide) (de_var hX 1 1)) (da_cons (de_call hX 1 (ok_pair_of hA) (by decide) (da_cons (de_var hX 2 2) da_nil)) da_nil))))))
theorem sc_rim_turns : ScOk ["half", "net", "point"] ["half", "net", "point"] ["half", "net", "point"] ["turns_of", "pair_of"] (defScope (top 37)) := scOk_of (by decide +kernel) (by decide +kernel)
theorem ok_rim_turns (hA : A G) : OkF G "rim_turns" 4 3 f_rim_turns := by
  obtain ⟨fd, FT⟩ := hA.sd.def_ 24 (d := d_rim_turns) rfl
  exact ⟨_, fd, ["half", "net", "point"], hA.glo 50, FT.kp, FT.bindsN fun _ _ _ _ _ _ us hl => match us, hl with | [_, _, _], _ => rfl, rfl, def_ok FT sc_rim_turns fun E X hX _ _ _ => b_rim_turns hA E X hX⟩
def F_signed : SF :=
  (sSeq
  (sAsg (eCall 3 f_owner_counts (aCons (eV 0) (aCons (eV 1) (aCons (eCall 1 f_pair_of (aCons (eV 2) aNil)) aNil)))) (gT 2 (gsCons (gN 3) (gsCons (gN 4) gsNil))))
  (sRet (e2 subD (eV 3) (eV 4))))
def f_signed : FN := fnD 5 F_signed
theorem b_signed (hA : A G) (E : XK) (X : Cx) (hX : XC G ["half", "net", "point", "ahead", "back"] ["half", "net", "point", "ahead", "back"] ["half", "net", "point", "ahead", "back"] ["owner_counts", "pair_of"] (defScope (top 34)) 4 E X) : DSs G E X (defBody (top 34)) F_signed :=
  (dss_cons
  (ds_asg (de_call hX 0 (ok_owner_counts hA) (by decide) (da_cons (de_var hX 0 0) (da_cons (de_var hX 1 1) (da_cons (de_call hX 1 (ok_pair_of hA) (by decide) (da_cons (de_var hX 2 2) da_nil)) da_nil)))) (dg_tup hX (dgs_cons (dg_name hX 3 3) (dgs_cons (dg_name hX 4 4) dgs_nil))))
  (dss_one (ds_ret (de_op (op_subD hX) (de_var hX 3 3) (de_var hX 4 4)))))
theorem sc_signed : ScOk ["half", "net", "point", "ahead", "back"] ["half", "net", "point"] ["half", "net", "point", "ahead", "back"] ["owner_counts", "pair_of"] (defScope (top 34)) := scOk_of (by decide +kernel) (by decide +kernel)
theorem ok_signed (hA : A G) : OkF G "signed" 5 3 f_signed := by
  obtain ⟨fd, FT⟩ := hA.sd.def_ 25 (d := d_signed) rfl
  exact ⟨_, fd, ["half", "net", "point"], hA.glo 51, FT.kp, FT.bindsN fun _ _ _ _ _ _ us hl => match us, hl with | [_, _, _], _ => rfl, rfl, def_ok FT sc_signed fun E X hX _ _ _ => b_signed hA E X hX⟩
def F_check_ahead : SF :=
  (sIf (tNotD (tB (e1 (isD tab_bool) (eV 0))))
  sNever
  sNil)
def f_check_ahead : FN := fnD 1 F_check_ahead
theorem b_check_ahead (hA : A G) (E : XK) (X : Cx) (hX : XC G ["thing"] ["thing"] ["thing"] ["isinstance", "bool", "InvalidHalf"] (defScope (top 47)) 0 E X) : DSs G E X (defBody (top 47)) F_check_ahead :=
  (dss_one (ds_if (dt_not (dt_val (de_isi hX 0 1 (fr_isinstance hA) (cn_bool hA) (tb_bool hA) (de_var hX 0 0))))
  (dss_one ds_never)
  dss_nil))
theorem sc_check_ahead : ScOk ["thing"] ["thing"] ["thing"] ["isinstance", "bool", "InvalidHalf"] (defScope (top 47)) := scOk_of (by decide +kernel) (by decide +kernel)
theorem ok_check_ahead (hA : A G) : OkF G "check_ahead" 1 1 f_check_ahead := by
  obtain ⟨fd, FT⟩ := hA.sd.def_ 26 (d := d_check_ahead) rfl
  exact ⟨_, fd, ["thing"], hA.glo 52, FT.kp, FT.bindsN fun _ _ _ _ _ _ us hl => match us, hl with | [_], _ => rfl, rfl, def_ok FT sc_check_ahead fun E X hX _ _ _ => b_check_ahead hA E X hX⟩
def L1_common_divisor : SF :=
  (sPar 0 1 (aCons (eV 1) (aCons (e2 modD (eV 0) (eV 1)) aNil)))
def T2_common_divisor : TF :=
  (tB (e2 gtD (eV 1) (eC (.int 0))))
def F_common_divisor : SF :=
  (sSeq
  (sPar 0 1 (aCons (eB absD (aCons (eV 0) aNil)) (aCons (eB absD (aCons (eV 1) aNil)) aNil)))
  (sSeq
  (sWhile 1000 T2_common_divisor
  L1_common_divisor)
  (sRet (eV 0))))
def f_common_divisor : FN := fnD 2 F_common_divisor
theorem b_common_divisor (hA : A G) (E : XK) (X : Cx) (hX : XC G ["one", "other"] ["one", "other"] ["one", "other"] ["abs"] (defScope (top 40)) 0 E X) : DSs G E X (defBody (top 40)) F_common_divisor :=
  (dss_cons
  (ds_par hX 0 1 (da_cons (de_cb hX 0 cr_absD (fr_abs hA) (da_cons (de_var hX 0 0) da_nil)) (da_cons (de_cb hX 0 cr_absD (fr_abs hA) (da_cons (de_var hX 1 1) da_nil)) da_nil)))
  (dss_cons
  (ds_while hX 1000 (dt_cmp (op_cmpD op_gt) (de_var hX 1 1) de_int)
  (dss_one (ds_par hX 0 1 (da_cons (de_var hX 1 1) (da_cons (de_op (op_modD hX) (de_var hX 0 0) (de_var hX 1 1)) da_nil)))))
  (dss_one (ds_ret (de_var hX 0 0)))))
theorem sc_common_divisor : ScOk ["one", "other"] ["one", "other"] ["one", "other"] ["abs"] (defScope (top 40)) := scOk_of (by decide +kernel) (by decide +kernel)
theorem ok_common_divisor (hA : A G) : OkF G "common_divisor" 1 2 f_common_divisor := by
  obtain ⟨fd, FT⟩ := hA.sd.def_ 27 (d := d_common_divisor) rfl
  exact ⟨_, fd, ["one", "other"], hA.glo 53, FT.kp, FT.bindsN fun _ _ _ _ _ _ us hl => match us, hl with | [_, _], _ => rfl, rfl, def_ok FT sc_common_divisor fun E X hX _ _ _ => b_common_divisor hA E X hX⟩
def F_lowest_pair : SF :=
  (sSeq
  (sSet 1 (eCall 2 f_common_divisor (aCons (e2 ixD (eV 0) (eC (.int 0))) (aCons (e2 ixD (eV 0) (eC (.int 1))) aNil))))
  (sRet (eTup (aCons (e2 fdivD (e2 ixD (eV 0) (eC (.int 0))) (eV 1)) (aCons (e2 fdivD (e2 ixD (eV 0) (eC (.int 1))) (eV 1)) aNil)))))
def f_lowest_pair : FN := fnD 2 F_lowest_pair
theorem b_lowest_pair (hA : A G) (E : XK) (X : Cx) (hX : XC G ["pair", "divisor"] ["pair", "divisor"] ["pair", "divisor"] ["common_divisor"] (defScope (top 41)) 1 E X) : DSs G E X (defBody (top 41)) F_lowest_pair :=
  (dss_cons
  (ds_set hX 1 1 (de_call hX 0 (ok_common_divisor hA) (by decide) (da_cons (de_ix hX (de_var hX 0 0) de_int) (da_cons (de_ix hX (de_var hX 0 0) de_int) da_nil))))
  (dss_one (ds_ret (de_tup (da_cons (de_op (op_fdivD hX) (de_ix hX (de_var hX 0 0) de_int) (de_var hX 1 1)) (da_cons (de_op (op_fdivD hX) (de_ix hX (de_var hX 0 0) de_int) (de_var hX 1 1)) da_nil))))))
theorem sc_lowest_pair : ScOk ["pair", "divisor"] ["pair"] ["pair", "divisor"] ["common_divisor"] (defScope (top 41)) := scOk_of (by decide +kernel) (by decide +kernel)
theorem ok_lowest_pair (hA : A G) : OkF G "lowest_pair" 2 1 f_lowest_pair := by
  obtain ⟨fd, FT⟩ := hA.sd.def_ 28 (d := d_lowest_pair) rfl
  exact ⟨_, fd, ["pair"], hA.glo 54, FT.kp, FT.bindsN fun _ _ _ _ _ _ us hl => match us, hl with | [_], _ => rfl, rfl, def_ok FT sc_lowest_pair fun E X hX _ _ _ => b_lowest_pair hA E X hX⟩
def F_way_in : SF :=
  (sSeq
  (sSet 1 (eCall 1 f_numbers_of (aCons (eV 0) aNil)))
  (sSeq
  (sIf (tOrD (tB (e2 isND (eV 1) (eC .non))) (tB (e2 eqD (eV 1) (eTup (aCons (eC (.int 0)) (aCons (eC (.int 0)) aNil))))))
  sNever
  sNil)
  (sRet (eCall 1 f_lowest_pair (aCons (eV 1) aNil)))))
def f_way_in : FN := fnD 2 F_way_in
theorem b_way_in (hA : A G) (E : XK) (X : Cx) (hX : XC G ["thing", "pair"] ["thing", "pair"] ["thing", "pair"] ["numbers_of", "InvalidHalf", "lowest_pair"] (defScope (top 46)) 2 E X) : DSs G E X (defBody (top 46)) F_way_in :=
  (dss_cons
  (ds_set hX 1 1 (de_call hX 0 (ok_numbers_of hA) (by decide) (da_cons (de_var hX 0 0) da_nil)))
  (dss_cons
  (ds_if (dw_pt (dw_or (dt_cmp op_isND (de_var hX 1 1) de_non) (dw_or1 (dt_cmp (op_eqDD hX) (de_var hX 1 1) (de_tup (da_cons de_int (da_cons de_int da_nil)))))))
  (dss_one ds_never)
  dss_nil)
  (dss_one (ds_ret (de_call hX 2 (ok_lowest_pair hA) (by decide) (da_cons (de_var hX 1 1) da_nil))))))
theorem sc_way_in : ScOk ["thing", "pair"] ["thing"] ["thing", "pair"] ["numbers_of", "InvalidHalf", "lowest_pair"] (defScope (top 46)) := scOk_of (by decide +kernel) (by decide +kernel)
theorem ok_way_in (hA : A G) : OkF G "way_in" 3 1 f_way_in := by
  obtain ⟨fd, FT⟩ := hA.sd.def_ 29 (d := d_way_in) rfl
  exact ⟨_, fd, ["thing"], hA.glo 55, FT.kp, FT.bindsN fun _ _ _ _ _ _ us hl => match us, hl with | [_], _ => rfl, rfl, def_ok FT sc_way_in fun E X hX _ _ _ => b_way_in hA E X hX⟩
def F_Half_init : SF :=
  (sSeq
  (sSet 3 (eCall 1 f_way_in (aCons (eV 1) aNil)))
  (sSeq
  (sExpr (eCall 1 f_check_ahead (aCons (eV 2) aNil)))
  (sSeq
  (sFldD "Half" "own_way" (eV 0) (eV 3))
  (sFldD "Half" "own_ahead" (eV 0) (eV 2)))))
def f_Half_init : FN := fnD 4 F_Half_init
theorem b_Half_init (hA : A G) (E : XK) (X : Cx) (hX : XC G ["self", "way", "ahead", "pair"] ["self", "way", "ahead", "pair"] ["self", "way", "ahead", "pair"] ["way_in", "check_ahead"] (defScope (inClass (top 48) 0)) 3 E X) : DSs G E X (defBody (inClass (top 48) 0)) F_Half_init :=
  (dss_cons
  (ds_set hX 3 3 (de_call hX 0 (ok_way_in hA) (by decide) (da_cons (de_var hX 1 1) da_nil)))
  (dss_cons
  (ds_expr (de_call hX 1 (ok_check_ahead hA) (by decide) (da_cons (de_var hX 2 2) da_nil)))
  (dss_cons
  (ds_fld hX (fl_Half_own_way hA) (de_var hX 0 0) (de_var hX 3 3))
  (dss_one (ds_fld hX (fl_Half_own_ahead hA) (de_var hX 0 0) (de_var hX 2 2))))))
theorem sc_Half_init : ScOk ["self", "way", "ahead", "pair"] ["self", "way", "ahead"] ["self", "way", "ahead", "pair"] ["way_in", "check_ahead"] (defScope (inClass (top 48) 0)) := scOk_of (by decide +kernel) (by decide +kernel)
theorem ok_Half_init (hA : A G) : OkI G "Half" 4 3 f_Half_init := by
  obtain ⟨fd, FT⟩ := hA.sd.def_ 30 (d := d_Half_init) rfl
  exact ⟨_, _, fd, ["self", "way", "ahead"], hA.glo 14, He.mkr_ok (hA.sd.fact 56 (f := .mkr "Half") rfl), FT.bindsN fun _ _ _ _ _ _ us hl => match us, hl with | [_, _, _], _ => rfl, rfl, def_ok FT sc_Half_init fun E X hX _ _ _ => b_Half_init hA E X hX⟩
def L1_check_points : SF :=
  (sIf (tB (e2 isND (eCall 1 f_numbers_of (aCons (eV 2) aNil)) (eC .non)))
  sNever
  sNil)
def F_check_points : SF :=
  (sSeq
  (sIf (tOrD (tNotD (tB (e1 (isD tab_list) (eV 0)))) (tB (e2 gtD (eB lenD (aCons (eV 0) aNil)) (eC cst_MOST_POINTS))))
  sNever
  sNil)
  (sFor (iEnumD (aCons (eV 0) aNil)) (gT 2 (gsCons (gN 1) (gsCons (gN 2) gsNil)))
  L1_check_points))
def f_check_points : FN := fnD 3 F_check_points
theorem b_check_points (hA : A G) (E : XK) (X : Cx) (hX : XC G ["points", "number", "thing"] ["points", "number", "thing"] ["points", "number", "thing"] ["isinstance", "list", "len", "MOST_POINTS", "InvalidNet", "enumerate", "numbers_of"] (defScope (top 27)) 2 E X) : DSs G E X (defBody (top 27)) F_check_points :=
  (dss_cons
  (ds_if (dw_pt (dw_or (dt_not (dt_val (de_isi hX 0 1 (fr_isinstance hA) (cn_list hA) (tb_list hA) (de_var hX 0 0)))) (dw_or1 (dt_cmp (op_cmpD op_gt) (de_cb hX 2 (cr_len hX) (fr_len hA) (da_cons (de_var hX 0 0) da_nil)) (de_cst hX 3 (c_MOST_POINTS hA))))))
  (dss_one ds_never)
  dss_nil)
  (dss_one (ds_for hX (di_enum hX 5 (fr_enumerate hA) (da_cons (de_var hX 0 0) da_nil)) (dg_tup hX (dgs_cons (dg_name hX 1 1) (dgs_cons (dg_name hX 2 2) dgs_nil)))
  (dss_one (ds_if (dt_cmp op_isND (de_call hX 6 (ok_numbers_of hA) (by decide) (da_cons (de_var hX 2 2) da_nil)) de_non)
  (dss_one ds_never)
  dss_nil)))))
theorem sc_check_points : ScOk ["points", "number", "thing"] ["points"] ["points", "number", "thing"] ["isinstance", "list", "len", "MOST_POINTS", "InvalidNet", "enumerate", "numbers_of"] (defScope (top 27)) := scOk_of (by decide +kernel) (by decide +kernel)
theorem ok_check_points (hA : A G) : OkF G "check_points" 3 1 f_check_points := by
  obtain ⟨fd, FT⟩ := hA.sd.def_ 31 (d := d_check_points) rfl
  exact ⟨_, fd, ["points"], hA.glo 57, FT.kp, FT.bindsN fun _ _ _ _ _ _ us hl => match us, hl with | [_], _ => rfl, rfl, def_ok FT sc_check_points fun E X hX _ _ _ => b_check_points hA E X hX⟩
def F_is_between : SF :=
  (sRet (eAnd (eCall 1 f_is_integer (aCons (eV 0) aNil)) (eChain leD leD (eV 1) (eB intTyD (aCons (eV 0) aNil)) (eV 2))))
def f_is_between : FN := fnD 3 F_is_between
theorem b_is_between (hA : A G) (E : XK) (X : Cx) (hX : XC G ["thing", "least", "most"] ["thing", "least", "most"] ["thing", "least", "most"] ["is_integer", "int"] (defScope (top 10)) 1 E X) : DSs G E X (defBody (top 10)) F_is_between :=
  (dss_one (ds_ret (de_and (de_call hX 0 (ok_is_integer hA) (by decide) (da_cons (de_var hX 0 0) da_nil)) (de_one (de_chain (op_cmpD op_le) (op_cmpD op_le) (de_var hX 1 1) (de_ct hX 1 cr_intD (fr_int hA) (da_cons (de_var hX 0 0) da_nil)) (de_var hX 2 2))))))
theorem sc_is_between : ScOk ["thing", "least", "most"] ["thing", "least", "most"] ["thing", "least", "most"] ["is_integer", "int"] (defScope (top 10)) := scOk_of (by decide +kernel) (by decide +kernel)
theorem ok_is_between (hA : A G) : OkF G "is_between" 2 3 f_is_between := by
  obtain ⟨fd, FT⟩ := hA.sd.def_ 32 (d := d_is_between) rfl
  exact ⟨_, fd, ["thing", "least", "most"], hA.glo 58, FT.kp, FT.bindsN fun _ _ _ _ _ _ us hl => match us, hl with | [_, _, _], _ => rfl, rfl, def_ok FT sc_is_between fun E X hX _ _ _ => b_is_between hA E X hX⟩
def E1_is_triple : EF :=
  (eCall 3 f_is_between (aCons (eV 2) (aCons (eC (.int 0)) (aCons (e2 subD (eV 1) (eC (.int 1))) aNil))))
def F_is_triple : SF :=
  (sSeq
  (sIf (tOrD (tNotD (tB (e1 (isD tab_tuple) (eV 0)))) (tB (e2 neD (eB lenD (aCons (eV 0) aNil)) (eC (.int 3)))))
  (sRet (eC (.bl false)))
  sNil)
  (sSeq
  (sIf (tNotD (tB (eB allD (aCons (eLc (iTupD (eV 0)) (gN 2) none E1_is_triple [2]) aNil))))
  (sRet (eC (.bl false)))
  sNil)
  (sRet (eAnd (e2 neD (e2 ixD (eV 0) (eC (.int 0))) (e2 ixD (eV 0) (eC (.int 1)))) (eAnd (e2 neD (e2 ixD (eV 0) (eC (.int 1))) (e2 ixD (eV 0) (eC (.int 2)))) (e2 neD (e2 ixD (eV 0) (eC (.int 2))) (e2 ixD (eV 0) (eC (.int 0)))))))))
def f_is_triple : FN := fnD 3 F_is_triple
theorem b_is_triple (hA : A G) (E : XK) (X : Cx) (hX : XC G ["thing", "many", "index"] ["thing", "many"] ["thing", "many"] ["isinstance", "tuple", "len", "all"] (defScope (top 28)) 2 E X) : DSs G E X (defBody (top 28)) F_is_triple :=
  (dss_cons
  (ds_if (dw_pt (dw_or (dt_not (dt_val (de_isi hX 0 1 (fr_isinstance hA) (cn_tuple hA) (tb_tuple hA) (de_var hX 0 0)))) (dw_or1 (dt_cmp (op_neDD hX) (de_cb hX 2 (cr_len hX) (fr_len hA) (da_cons (de_var hX 0 0) da_nil)) de_int))))
  (dss_one (ds_ret de_bl))
  dss_nil)
  (dss_cons
  (ds_if (dt_not (dt_val (de_cb hX 3 (cr_allD hX) (fr_all hA) (da_cons (de_lc hX (blkX_of (own := [("index", 2)]) (bvis := ["index", "many"]) (bloc := ["index"]) (bgl := ["is_between"]) (by decide +kernel) (by decide +kernel) (by decide +kernel) (by decide +kernel)) (di_tup hX (de_var hX 0 0)) (fun X1 h1 => (dg_name h1 2 0)) (fun X1 h1 => dto_none) (fun X1 h1 => (de_call h1 0 (ok_is_between hA) (by decide) (da_cons (de_var h1 2 0) (da_cons de_int (da_cons (de_op (op_subD h1) (de_var h1 1 1) de_int) da_nil)))))) da_nil))))
  (dss_one (ds_ret de_bl))
  dss_nil)
  (dss_one (ds_ret (de_and (de_cmp (op_neDD hX) (de_ix hX (de_var hX 0 0) de_int) (de_ix hX (de_var hX 0 0) de_int)) (de_and (de_cmp (op_neDD hX) (de_ix hX (de_var hX 0 0) de_int) (de_ix hX (de_var hX 0 0) de_int)) (de_one (de_cmp (op_neDD hX) (de_ix hX (de_var hX 0 0) de_int) (de_ix hX (de_var hX 0 0) de_int)))))))))
theorem sc_is_triple : ScOk ["thing", "many", "index"] ["thing", "many"] ["thing", "many"] ["isinstance", "tuple", "len", "all"] (defScope (top 28)) := scOk_of (by decide +kernel) (by decide +kernel)
theorem ok_is_triple (hA : A G) : OkF G "is_triple" 3 2 f_is_triple := by
  obtain ⟨fd, FT⟩ := hA.sd.def_ 33 (d := d_is_triple) rfl
  exact ⟨_, fd, ["thing", "many"], hA.glo 59, FT.kp, FT.bindsN fun _ _ _ _ _ _ us hl => match us, hl with | [_, _], _ => rfl, rfl, def_ok FT sc_is_triple fun E X hX _ _ _ => b_is_triple hA E X hX⟩
def L1_check_triples : SF :=
  (sIf (tNotD (tB (eCall 2 f_is_triple (aCons (eV 3) (aCons (eV 1) aNil)))))
  sNever
  sNil)
def F_check_triples : SF :=
  (sSeq
  (sIf (tOrD (tNotD (tB (e1 (isD tab_list) (eV 0)))) (tB (e2 gtD (eB lenD (aCons (eV 0) aNil)) (eC cst_MOST_POINTS))))
  sNever
  sNil)
  (sFor (iEnumD (aCons (eV 0) aNil)) (gT 2 (gsCons (gN 2) (gsCons (gN 3) gsNil)))
  L1_check_triples))
def f_check_triples : FN := fnD 4 F_check_triples
theorem b_check_triples (hA : A G) (E : XK) (X : Cx) (hX : XC G ["triples", "many", "number", "thing"] ["triples", "many", "number", "thing"] ["triples", "many", "number", "thing"] ["isinstance", "list", "len", "MOST_POINTS", "InvalidNet", "enumerate", "is_triple"] (defScope (top 29)) 3 E X) : DSs G E X (defBody (top 29)) F_check_triples :=
  (dss_cons
  (ds_if (dw_pt (dw_or (dt_not (dt_val (de_isi hX 0 1 (fr_isinstance hA) (cn_list hA) (tb_list hA) (de_var hX 0 0)))) (dw_or1 (dt_cmp (op_cmpD op_gt) (de_cb hX 2 (cr_len hX) (fr_len hA) (da_cons (de_var hX 0 0) da_nil)) (de_cst hX 3 (c_MOST_POINTS hA))))))
  (dss_one ds_never)
  dss_nil)
  (dss_one (ds_for hX (di_enum hX 5 (fr_enumerate hA) (da_cons (de_var hX 0 0) da_nil)) (dg_tup hX (dgs_cons (dg_name hX 2 2) (dgs_cons (dg_name hX 3 3) dgs_nil)))
  (dss_one (ds_if (dt_not (dt_val (de_call hX 6 (ok_is_triple hA) (by decide) (da_cons (de_var hX 3 3) (da_cons (de_var hX 1 1) da_nil)))))
  (dss_one ds_never)
  dss_nil)))))
theorem sc_check_triples : ScOk ["triples", "many", "number", "thing"] ["triples", "many"] ["triples", "many", "number", "thing"] ["isinstance", "list", "len", "MOST_POINTS", "InvalidNet", "enumerate", "is_triple"] (defScope (top 29)) := scOk_of (by decide +kernel) (by decide +kernel)
theorem ok_check_triples (hA : A G) : OkF G "check_triples" 4 2 f_check_triples := by
  obtain ⟨fd, FT⟩ := hA.sd.def_ 34 (d := d_check_triples) rfl
  exact ⟨_, fd, ["triples", "many"], hA.glo 60, FT.kp, FT.bindsN fun _ _ _ _ _ _ us hl => match us, hl with | [_, _], _ => rfl, rfl, def_ok FT sc_check_triples fun E X hX _ _ _ => b_check_triples hA E X hX⟩
def E1_Net_init : EF :=
  (eCall 1 f_numbers_of (aCons (eV 3) aNil))
def F_Net_init : SF :=
  (sSeq
  (sExpr (eCall 1 f_check_points (aCons (eV 1) aNil)))
  (sSeq
  (sExpr (eCall 2 f_check_triples (aCons (eV 2) (aCons (eB lenD (aCons (eV 1) aNil)) aNil))))
  (sSeq
  (sFldD "Net" "pairs" (eV 0) (eLc (iSeq (eV 1)) (gN 3) none E1_Net_init [3]))
  (sFldD "Net" "own_triples" (eV 0) (eB listD (aCons (eV 2) aNil))))))
def f_Net_init : FN := fnD 4 F_Net_init
theorem b_Net_init (hA : A G) (E : XK) (X : Cx) (hX : XC G ["self", "points", "triples", "thing"] ["self", "points", "triples"] ["self", "points", "triples"] ["check_points", "check_triples", "len", "list"] (defScope (inClass (top 30) 0)) 4 E X) : DSs G E X (defBody (inClass (top 30) 0)) F_Net_init :=
  (dss_cons
  (ds_expr (de_call hX 0 (ok_check_points hA) (by decide) (da_cons (de_var hX 1 1) da_nil)))
  (dss_cons
  (ds_expr (de_call hX 1 (ok_check_triples hA) (by decide) (da_cons (de_var hX 2 2) (da_cons (de_cb hX 2 (cr_len hX) (fr_len hA) (da_cons (de_var hX 1 1) da_nil)) da_nil))))
  (dss_cons
  (ds_fld hX (fl_Net_pairs hA) (de_var hX 0 0) (de_lc hX (blkX_of (own := [("thing", 3)]) (bvis := ["thing"]) (bloc := ["thing"]) (bgl := ["numbers_of"]) (by decide +kernel) (by decide +kernel) (by decide +kernel) (by decide +kernel)) (di_list hX (de_var hX 1 1)) (fun X1 h1 => (dg_name h1 3 0)) (fun X1 h1 => dto_none) (fun X1 h1 => (de_call h1 0 (ok_numbers_of hA) (by decide) (da_cons (de_var h1 3 0) da_nil)))))
  (dss_one (ds_fld hX (fl_Net_own_triples hA) (de_var hX 0 0) (de_ct hX 3 (cr_listD hX) (fr_list hA) (da_cons (de_var hX 2 2) da_nil)))))))
theorem sc_Net_init : ScOk ["self", "points", "triples", "thing"] ["self", "points", "triples"] ["self", "points", "triples"] ["check_points", "check_triples", "len", "list"] (defScope (inClass (top 30) 0)) := scOk_of (by decide +kernel) (by decide +kernel)
theorem ok_Net_init (hA : A G) : OkI G "Net" 5 3 f_Net_init := by
  obtain ⟨fd, FT⟩ := hA.sd.def_ 35 (d := d_Net_init) rfl
  exact ⟨_, _, fd, ["self", "points", "triples"], hA.glo 18, He.mkr_ok (hA.sd.fact 61 (f := .mkr "Net") rfl), FT.bindsN fun _ _ _ _ _ _ us hl => match us, hl with | [_, _, _], _ => rfl, rfl, def_ok FT sc_Net_init fun E X hX _ _ _ => b_Net_init hA E X hX⟩
def F_Point_init : SF :=
  (sSeq
  (sIf (tOrD (tNotD (tB (eCall 1 f_is_integer (aCons (eV 1) aNil)))) (tNotD (tB (eCall 1 f_is_integer (aCons (eV 2) aNil)))))
  sNever
  sNil)
  (sSeq
  (sFldD "Point" "x" (eV 0) (eV 1))
  (sFldD "Point" "y" (eV 0) (eV 2))))
def f_Point_init : FN := fnD 3 F_Point_init
theorem b_Point_init (hA : A G) (E : XK) (X : Cx) (hX : XC G ["self", "x", "y"] ["self", "x", "y"] ["self", "x", "y"] ["is_integer", "InvalidPoint"] (defScope (inClass (top 13) 0)) 1 E X) : DSs G E X (defBody (inClass (top 13) 0)) F_Point_init :=
  (dss_cons
  (ds_if (dw_pt (dw_or (dt_not (dt_val (de_call hX 0 (ok_is_integer hA) (by decide) (da_cons (de_var hX 1 1) da_nil)))) (dw_or1 (dt_not (dt_val (de_call hX 0 (ok_is_integer hA) (by decide) (da_cons (de_var hX 2 2) da_nil)))))))
  (dss_one ds_never)
  dss_nil)
  (dss_cons
  (ds_fld hX (fl_Point_x hA) (de_var hX 0 0) (de_var hX 1 1))
  (dss_one (ds_fld hX (fl_Point_y hA) (de_var hX 0 0) (de_var hX 2 2)))))
theorem sc_Point_init : ScOk ["self", "x", "y"] ["self", "x", "y"] ["self", "x", "y"] ["is_integer", "InvalidPoint"] (defScope (inClass (top 13) 0)) := scOk_of (by decide +kernel) (by decide +kernel)
theorem ok_Point_init (hA : A G) : OkI G "Point" 2 3 f_Point_init := by
  obtain ⟨fd, FT⟩ := hA.sd.def_ 36 (d := d_Point_init) rfl
  exact ⟨_, _, fd, ["self", "x", "y"], hA.glo 22, He.mkr_ok (hA.sd.fact 62 (f := .mkr "Point") rfl), FT.bindsN fun _ _ _ _ _ _ us hl => match us, hl with | [_, _, _], _ => rfl, rfl, def_ok FT sc_Point_init fun E X hX _ _ _ => b_Point_init hA E X hX⟩
def E1_law : EF :=
  (eB intTyD (aCons (eV 23) aNil))
def T2_law : TF :=
  (tB (e2 ltD (eB maxD (aCons (eLc (iTupD (eV 19)) (gN 23) none E1_law [23]) aNil)) (eB lenD (aCons (eV 3) aNil))))
def E3_law : EF :=
  (eV 19)
def E4_law : EF :=
  (eTup (aCons (eV 20) (aCons (eV 22) (aCons (eV 21) aNil))))
def E5_law : EF :=
  (eTup (aCons (eV 21) (aCons (eV 22) (aCons (eV 20) aNil))))
def L6_law : SF :=
  (sSeq
  (sSet 15 (eCall 2 f_law_pair (aCons (eV 2) (aCons (eC (.int 6)) aNil))))
  (sSeq
  (sPar 16 17 (aCons (eCall 3 f_counted_owners (aCons (eV 7) (aCons (eV 8) (aCons (eV 15) aNil)))) (aCons (eCall 3 f_counted_owners (aCons (eV 7) (aCons (eV 9) (aCons (eFz (eMake "Point" 3 f_Point_init (aCons (e2 ixD (eV 15) (eC (.int 0))) (aCons (e2 ixD (eV 15) (eC (.int 1))) aNil)))) aNil)))) aNil)))
  (sSeq
  (sIf (tB (e2 neD (eCall 3 f_counted_owners (aCons (eV 7) (aCons (eV 10) (aCons (eV 15) aNil)))) (eTup (aCons (e2 addD (e2 ixD (eV 16) (eC (.int 0))) (e2 ixD (eV 17) (eC (.int 0)))) (aCons (e2 addD (e2 ixD (eV 16) (eC (.int 1))) (e2 ixD (eV 17) (eC (.int 1)))) aNil)))))
  (sRet (eC (.bl false)))
  sNil)
  (sSeq
  (sIf (tOrD (tB (e2 neD (eCall 3 f_counted_owners (aCons (eV 7) (aCons (eV 11) (aCons (eV 15) aNil)))) (eTup (aCons (e2 ixD (eV 16) (eC (.int 1))) (aCons (e2 ixD (eV 16) (eC (.int 0))) aNil))))) (tB (e2 neD (eCall 3 f_counted_owners (aCons (eV 7) (aCons (eV 12) (aCons (eV 15) aNil)))) (eV 16))))
  (sRet (eC (.bl false)))
  sNil)
  (sSeq
  (sIf (tOrD (tB (e2 neD (eCall 3 f_counted_owners (aCons (eV 7) (aCons (eV 13) (aCons (eV 15) aNil)))) (eV 16))) (tB (e2 neD (eCall 3 f_rim_turns (aCons (eV 7) (aCons (eV 11) (aCons (eV 15) aNil)))) (e1 negD (eCall 3 f_rim_turns (aCons (eV 7) (aCons (eV 8) (aCons (eV 15) aNil))))))))
  (sRet (eC (.bl false)))
  sNil)
  (sIf (tB (e2 neD (eCall 3 f_signed (aCons (eV 7) (aCons (eV 10) (aCons (eV 15) aNil)))) (e2 addD (eCall 3 f_signed (aCons (eV 7) (aCons (eV 8) (aCons (eV 15) aNil)))) (eCall 3 f_rim_turns (aCons (eV 7) (aCons (eV 9) (aCons (eV 15) aNil)))))))
  (sRet (eC (.bl false)))
  sNil))))))
def E7_law : EF :=
  (eB intTyD (aCons (e2 addD (e2 mulD (eB lenD (aCons (eV 3) aNil)) (eV 20)) (eV 21)) aNil))
def E8_law : EF :=
  (e2 addD (e2 mulD (eB lenD (aCons (eV 3) aNil)) (eV 20)) (eV 21))
def E9_law : EF :=
  (eB intTyD (aCons (e2 addD (e2 mulD (eB lenD (aCons (eV 3) aNil)) (eV 21)) (eV 20)) aNil))
def E10_law : EF :=
  (e2 addD (e2 mulD (eB lenD (aCons (eV 3) aNil)) (eV 20)) (eV 21))
def L11_law : SF :=
  (sSeq
  (sSet 2 (eCall 2 f_law_hand (aCons (eV 0) (aCons (eV 1) aNil))))
  (sSeq
  (sAsg (eCall 1 f_law_net (aCons (eV 2) aNil)) (gT 2 (gsCons (gN 3) (gsCons (gN 4) gsNil))))
  (sFz 4 (sSeq
  (sSet 5 (eLc (iSeq (e2 ixD (eCall 1 f_law_net (aCons (eV 2) aNil)) (eC (.int 1)))) (gN 19) (some T2_law) E3_law [19]))
  (sSeq
  (sSet 6 (eCall 1 f_law_told_half (aCons (eV 2) aNil)))
  (sSeq
  (sSet 7 (eFz (eMake "Half" 3 f_Half_init (aCons (e2 ixD (eV 6) (eC (.int 1))) (aCons (e2 ixD (eV 6) (eC (.int 2))) aNil)))))
  (sSeq
  (sPar3 8 9 10 (aCons (eFz (eMake "Net" 3 f_Net_init (aCons (eV 3) (aCons (eV 4) aNil)))) (aCons (eFz (eMake "Net" 3 f_Net_init (aCons (eV 3) (aCons (eV 5) aNil)))) (aCons (eFz (eMake "Net" 3 f_Net_init (aCons (eV 3) (aCons (e2 addD (eV 4) (eV 5)) aNil)))) aNil))))
  (sSeq
  (sSet 11 (eFz (eMake "Net" 3 f_Net_init (aCons (eV 3) (aCons (eLc (iSeq (eV 4)) (gT 3 (gsCons (gN 20) (gsCons (gN 21) (gsCons (gN 22) gsNil)))) none E4_law [20, 21, 22]) aNil)))))
  (sSeq
  (sSet 12 (eFz (eMake "Net" 3 f_Net_init (aCons (eV 3) (aCons (e1 revD (eLc (iSeq (eV 4)) (gT 3 (gsCons (gN 20) (gsCons (gN 21) (gsCons (gN 22) gsNil)))) none E5_law [20, 21, 22])) aNil)))))
  (sSeq
  (sSet 13 (eFz (eMake "Net" 3 f_Net_init (aCons (e2 addD (eV 3) (eLst (aCons (e2 ixD (eV 3) (eC (.int 0))) aNil))) (aCons (e2 addD (eV 4) (eLst (aCons (eTup (aCons (eC (.int 0)) (aCons (eC (.int 1)) (aCons (eB lenD (aCons (eV 3) aNil)) aNil)))) (aCons (eTup (aCons (eB lenD (aCons (eV 3) aNil)) (aCons (eC (.int 1)) (aCons (eC (.int 0)) aNil)))) (aCons (eTup (aCons (eC (.int 1)) (aCons (eC (.int 0)) (aCons (eB lenD (aCons (eV 3) aNil)) aNil)))) aNil))))) aNil)))))
  (sSeq
  (sFor (iRange1 (aCons (eC (.int 30)) aNil)) (gN 14)
  L6_law)
  (sSeq
  (sSet 18 (eCall 1 f_law_left (aCons (e2 addD (eMeth "Net" "rim" 1 f_Net_rim (eV 8) aNil) (eMeth "Net" "rim" 1 f_Net_rim (eV 9) aNil)) aNil)))
  (sFz 18 (sSeq
  (sIf (tB (e2 neD (eB sortedD (aCons (eLc (iSeq (eV 18)) (gT 2 (gsCons (gN 20) (gsCons (gN 21) gsNil))) none E7_law [20, 21]) aNil)) (eLc (iSeq (eMeth "Net" "rim" 1 f_Net_rim (eV 10) aNil)) (gT 2 (gsCons (gN 20) (gsCons (gN 21) gsNil))) none E8_law [20, 21])))
  (sRet (eC (.bl false)))
  sNil)
  (sIf (tB (e2 neD (eB sortedD (aCons (eLc (iSeq (eMeth "Net" "rim" 1 f_Net_rim (eV 8) aNil)) (gT 2 (gsCons (gN 20) (gsCons (gN 21) gsNil))) none E9_law [20, 21]) aNil)) (eLc (iSeq (eMeth "Net" "rim" 1 f_Net_rim (eV 11) aNil)) (gT 2 (gsCons (gN 20) (gsCons (gN 21) gsNil))) none E10_law [20, 21])))
  (sRet (eC (.bl false)))
  sNil)))))))))))))))
def F_law : SF :=
  (sSeq
  (sFor (iRange1 (aCons (eB maxD (aCons (eC (.int 1)) (aCons (eB minD (aCons (eB lenD (aCons (eV 0) aNil)) (aCons (eC (.int 6)) aNil))) aNil))) aNil)) (gN 1)
  L11_law)
  (sRet (eC (.bl true))))
def f_law : FN := fnD 24 F_law
theorem b_law (hA : A G) (E : XK) (X : Cx) (hX : XC G ["script", "k", "pool", "pairs", "first", "second", "told_half", "half", "one", "other", "both", "over", "begun", "flat", "turn", "p", "ours", "theirs", "left", "three", "i", "j", "k2", "index"] ["script", "k", "pool", "pairs", "first", "second", "told_half", "half", "one", "other", "both", "over", "begun", "flat", "turn", "p", "ours", "theirs", "left"] ["script", "k", "pool", "pairs", "first", "second", "told_half", "half", "one", "other", "both", "over", "begun", "flat", "turn", "p", "ours", "theirs", "left"] ["range", "max", "min", "len", "_law_hand", "_law_net", "_law_told_half", "Half", "Net", "_law_pair", "counted_owners", "Point", "rim_turns", "signed", "_law_left", "sorted"] (defScope (top 59)) 6 E X) : DSs G E X (defBody (top 59)) F_law :=
  (dss_cons
  (ds_for hX (di_range1 hX 0 (fr_range hA) (da_cons (de_cb hX 1 (cr_maxD hX) (fr_max hA) (da_cons de_int (da_cons (de_cb hX 2 (cr_minD hX) (fr_min hA) (da_cons (de_cb hX 3 (cr_len hX) (fr_len hA) (da_cons (de_var hX 0 0) da_nil)) (da_cons de_int da_nil))) da_nil))) da_nil)) (dg_name hX 1 1)
  (dss_cons
  (ds_set hX 2 2 (de_call hX 4 (ok_law_hand hA) (by decide) (da_cons (de_var hX 0 0) (da_cons (de_var hX 1 1) da_nil))))
  (dss_cons
  (ds_asg (de_call hX 5 (ok_law_net hA) (by decide) (da_cons (de_var hX 2 2) da_nil)) (dg_tup hX (dgs_cons (dg_name hX 3 3) (dgs_cons (dg_name hX 4 4) dgs_nil))))
  (dss_fz 4 (dss_cons
  (ds_setLc hX 5 rfl rfl (blkX_of (own := [("three", 19)]) (bvis := ["three", "pairs"]) (bloc := ["three"]) (bgl := ["max", "len"]) (by decide +kernel) (by decide +kernel) (by decide +kernel) (by decide +kernel)) (di_list hX (de_ix hX (de_call hX 5 (ok_law_net hA) (by decide) (da_cons (de_var hX 2 2) da_nil)) de_int)) (fun X1 h1 => (dg_name h1 19 0)) (fun X1 h1 => (dto_one (dt_cmp (op_cmpD op_lt) (de_cb h1 0 (cr_maxD h1) (fr_max hA) (da_cons (de_lc h1 (blkX_of (own := [("index", 23)]) (bvis := ["index"]) (bloc := ["index"]) (bgl := ["int"]) (by decide +kernel) (by decide +kernel) (by decide +kernel) (by decide +kernel)) (di_tup h1 (de_var h1 19 0)) (fun X2 h2 => (dg_name h2 23 0)) (fun X2 h2 => dto_none) (fun X2 h2 => (de_ct h2 0 cr_intD (fr_int hA) (da_cons (de_var h2 23 0) da_nil)))) da_nil)) (de_cb h1 1 (cr_len h1) (fr_len hA) (da_cons (de_var h1 3 1) da_nil))))) (fun X1 h1 => (de_var h1 19 0)))
  (dss_cons
  (ds_set hX 6 6 (de_call hX 6 (ok_law_told_half hA) (by decide) (da_cons (de_var hX 2 2) da_nil)))
  (dss_cons
  (ds_set hX 7 7 (de_fz (de_make hX 7 (ok_Half_init hA) (by decide) (da_cons (de_ix hX (de_var hX 6 6) de_int) (da_cons (de_ix hX (de_var hX 6 6) de_int) da_nil)))))
  (dss_cons
  (ds_par3 hX 8 9 10 (da_cons (de_fz (de_make hX 8 (ok_Net_init hA) (by decide) (da_cons (de_var hX 3 3) (da_cons (de_var hX 4 4) da_nil)))) (da_cons (de_fz (de_make hX 8 (ok_Net_init hA) (by decide) (da_cons (de_var hX 3 3) (da_cons (de_var hX 5 5) da_nil)))) (da_cons (de_fz (de_make hX 8 (ok_Net_init hA) (by decide) (da_cons (de_var hX 3 3) (da_cons (de_op (op_addD hX) (de_var hX 4 4) (de_var hX 5 5)) da_nil)))) da_nil))))
  (dss_cons
  (ds_set hX 11 11 (de_fz (de_make hX 8 (ok_Net_init hA) (by decide) (da_cons (de_var hX 3 3) (da_cons (de_lc hX (blkX_of (own := [("i", 20), ("j", 21), ("k2", 22)]) (bvis := ["i", "k2", "j"]) (bloc := ["i", "j", "k2"]) (bgl := []) (by decide +kernel) (by decide +kernel) (by decide +kernel) (by decide +kernel)) (di_list hX (de_var hX 4 4)) (fun X3 h3 => (dg_tup h3 (dgs_cons (dg_name h3 20 0) (dgs_cons (dg_name h3 21 1) (dgs_cons (dg_name h3 22 2) dgs_nil))))) (fun X3 h3 => dto_none) (fun X3 h3 => (de_tup (da_cons (de_var h3 20 0) (da_cons (de_var h3 22 1) (da_cons (de_var h3 21 2) da_nil)))))) da_nil)))))
  (dss_cons
  (ds_set hX 12 12 (de_fz (de_make hX 8 (ok_Net_init hA) (by decide) (da_cons (de_var hX 3 3) (da_cons (de_rev hX (de_lc hX (blkX_of (own := [("i", 20), ("j", 21), ("k2", 22)]) (bvis := ["j", "k2", "i"]) (bloc := ["i", "j", "k2"]) (bgl := []) (by decide +kernel) (by decide +kernel) (by decide +kernel) (by decide +kernel)) (di_list hX (de_var hX 4 4)) (fun X4 h4 => (dg_tup h4 (dgs_cons (dg_name h4 20 0) (dgs_cons (dg_name h4 21 1) (dgs_cons (dg_name h4 22 2) dgs_nil))))) (fun X4 h4 => dto_none) (fun X4 h4 => (de_tup (da_cons (de_var h4 21 0) (da_cons (de_var h4 22 1) (da_cons (de_var h4 20 2) da_nil))))))) da_nil)))))
  (dss_cons
  (ds_set hX 13 13 (de_fz (de_make hX 8 (ok_Net_init hA) (by decide) (da_cons (de_op (op_addD hX) (de_var hX 3 3) (de_lst (da_cons (de_ix hX (de_var hX 3 3) de_int) da_nil))) (da_cons (de_op (op_addD hX) (de_var hX 4 4) (de_lst (da_cons (de_tup (da_cons de_int (da_cons de_int (da_cons (de_cb hX 3 (cr_len hX) (fr_len hA) (da_cons (de_var hX 3 3) da_nil)) da_nil)))) (da_cons (de_tup (da_cons (de_cb hX 3 (cr_len hX) (fr_len hA) (da_cons (de_var hX 3 3) da_nil)) (da_cons de_int (da_cons de_int da_nil)))) (da_cons (de_tup (da_cons de_int (da_cons de_int (da_cons (de_cb hX 3 (cr_len hX) (fr_len hA) (da_cons (de_var hX 3 3) da_nil)) da_nil)))) da_nil))))) da_nil)))))
  (dss_cons
  (ds_for hX (di_range1 hX 0 (fr_range hA) (da_cons de_int da_nil)) (dg_name hX 14 14)
  (dss_cons
  (ds_set hX 15 15 (de_call hX 9 (ok_law_pair hA) (by decide) (da_cons (de_var hX 2 2) (da_cons de_int da_nil))))
  (dss_cons
  (ds_par hX 16 17 (da_cons (de_call hX 10 (ok_counted_owners hA) (by decide) (da_cons (de_var hX 7 7) (da_cons (de_var hX 8 8) (da_cons (de_var hX 15 15) da_nil)))) (da_cons (de_call hX 10 (ok_counted_owners hA) (by decide) (da_cons (de_var hX 7 7) (da_cons (de_var hX 9 9) (da_cons (de_fz (de_make hX 11 (ok_Point_init hA) (by decide) (da_cons (de_ix hX (de_var hX 15 15) de_int) (da_cons (de_ix hX (de_var hX 15 15) de_int) da_nil)))) da_nil)))) da_nil)))
  (dss_cons
  (ds_if (dt_cmp (op_neDD hX) (de_call hX 10 (ok_counted_owners hA) (by decide) (da_cons (de_var hX 7 7) (da_cons (de_var hX 10 10) (da_cons (de_var hX 15 15) da_nil)))) (de_tup (da_cons (de_op (op_addD hX) (de_ix hX (de_var hX 16 16) de_int) (de_ix hX (de_var hX 17 17) de_int)) (da_cons (de_op (op_addD hX) (de_ix hX (de_var hX 16 16) de_int) (de_ix hX (de_var hX 17 17) de_int)) da_nil))))
  (dss_one (ds_ret de_bl))
  dss_nil)
  (dss_cons
  (ds_if (dw_pt (dw_or (dt_cmp (op_neDD hX) (de_call hX 10 (ok_counted_owners hA) (by decide) (da_cons (de_var hX 7 7) (da_cons (de_var hX 11 11) (da_cons (de_var hX 15 15) da_nil)))) (de_tup (da_cons (de_ix hX (de_var hX 16 16) de_int) (da_cons (de_ix hX (de_var hX 16 16) de_int) da_nil)))) (dw_or1 (dt_cmp (op_neDD hX) (de_call hX 10 (ok_counted_owners hA) (by decide) (da_cons (de_var hX 7 7) (da_cons (de_var hX 12 12) (da_cons (de_var hX 15 15) da_nil)))) (de_var hX 16 16)))))
  (dss_one (ds_ret de_bl))
  dss_nil)
  (dss_cons
  (ds_if (dw_pt (dw_or (dt_cmp (op_neDD hX) (de_call hX 10 (ok_counted_owners hA) (by decide) (da_cons (de_var hX 7 7) (da_cons (de_var hX 13 13) (da_cons (de_var hX 15 15) da_nil)))) (de_var hX 16 16)) (dw_or1 (dt_cmp (op_neDD hX) (de_call hX 12 (ok_rim_turns hA) (by decide) (da_cons (de_var hX 7 7) (da_cons (de_var hX 11 11) (da_cons (de_var hX 15 15) da_nil)))) (de_un un_negD (de_call hX 12 (ok_rim_turns hA) (by decide) (da_cons (de_var hX 7 7) (da_cons (de_var hX 8 8) (da_cons (de_var hX 15 15) da_nil)))))))))
  (dss_one (ds_ret de_bl))
  dss_nil)
  (dss_one (ds_if (dt_cmp (op_neDD hX) (de_call hX 13 (ok_signed hA) (by decide) (da_cons (de_var hX 7 7) (da_cons (de_var hX 10 10) (da_cons (de_var hX 15 15) da_nil)))) (de_op (op_addD hX) (de_call hX 13 (ok_signed hA) (by decide) (da_cons (de_var hX 7 7) (da_cons (de_var hX 8 8) (da_cons (de_var hX 15 15) da_nil)))) (de_call hX 12 (ok_rim_turns hA) (by decide) (da_cons (de_var hX 7 7) (da_cons (de_var hX 9 9) (da_cons (de_var hX 15 15) da_nil))))))
  (dss_one (ds_ret de_bl))
  dss_nil))))))))
  (dss_cons
  (ds_set hX 18 18 (de_call hX 14 (ok_law_left hA) (by decide) (da_cons (de_op (op_addD hX) (de_meth0 hX (ok_Net_rim hA) (by decide) (de_var hX 8 8)) (de_meth0 hX (ok_Net_rim hA) (by decide) (de_var hX 9 9))) da_nil)))
  (dss_fz 18 (dss_cons
  (ds_if (dt_cmp (op_neDD hX) (de_cb hX 15 (cr_sortedD hX) (fr_sorted hA) (da_cons (de_lc hX (blkX_of (own := [("i", 20), ("j", 21)]) (bvis := ["j", "i", "pairs"]) (bloc := ["i", "j"]) (bgl := ["int", "len"]) (by decide +kernel) (by decide +kernel) (by decide +kernel) (by decide +kernel)) (di_list hX (de_var hX 18 18)) (fun X5 h5 => (dg_tup h5 (dgs_cons (dg_name h5 20 0) (dgs_cons (dg_name h5 21 1) dgs_nil)))) (fun X5 h5 => dto_none) (fun X5 h5 => (de_ct h5 0 cr_intD (fr_int hA) (da_cons (de_op (op_addD h5) (de_op (op_mulD h5) (de_cb h5 1 (cr_len h5) (fr_len hA) (da_cons (de_var h5 3 2) da_nil)) (de_var h5 20 1)) (de_var h5 21 0)) da_nil)))) da_nil)) (de_lc hX (blkX_of (own := [("i", 20), ("j", 21)]) (bvis := ["j", "i", "pairs"]) (bloc := ["i", "j"]) (bgl := ["len"]) (by decide +kernel) (by decide +kernel) (by decide +kernel) (by decide +kernel)) (di_list hX (de_meth0 hX (ok_Net_rim hA) (by decide) (de_var hX 10 10))) (fun X6 h6 => (dg_tup h6 (dgs_cons (dg_name h6 20 0) (dgs_cons (dg_name h6 21 1) dgs_nil)))) (fun X6 h6 => dto_none) (fun X6 h6 => (de_op (op_addD h6) (de_op (op_mulD h6) (de_cb h6 0 (cr_len h6) (fr_len hA) (da_cons (de_var h6 3 2) da_nil)) (de_var h6 20 1)) (de_var h6 21 0)))))
  (dss_one (ds_ret de_bl))
  dss_nil)
  (dss_one (ds_if (dt_cmp (op_neDD hX) (de_cb hX 15 (cr_sortedD hX) (fr_sorted hA) (da_cons (de_lc hX (blkX_of (own := [("i", 20), ("j", 21)]) (bvis := ["i", "j", "pairs"]) (bloc := ["i", "j"]) (bgl := ["int", "len"]) (by decide +kernel) (by decide +kernel) (by decide +kernel) (by decide +kernel)) (di_list hX (de_meth0 hX (ok_Net_rim hA) (by decide) (de_var hX 8 8))) (fun X7 h7 => (dg_tup h7 (dgs_cons (dg_name h7 20 0) (dgs_cons (dg_name h7 21 1) dgs_nil)))) (fun X7 h7 => dto_none) (fun X7 h7 => (de_ct h7 0 cr_intD (fr_int hA) (da_cons (de_op (op_addD h7) (de_op (op_mulD h7) (de_cb h7 1 (cr_len h7) (fr_len hA) (da_cons (de_var h7 3 2) da_nil)) (de_var h7 21 1)) (de_var h7 20 0)) da_nil)))) da_nil)) (de_lc hX (blkX_of (own := [("i", 20), ("j", 21)]) (bvis := ["j", "i", "pairs"]) (bloc := ["i", "j"]) (bgl := ["len"]) (by decide +kernel) (by decide +kernel) (by decide +kernel) (by decide +kernel)) (di_list hX (de_meth0 hX (ok_Net_rim hA) (by decide) (de_var hX 11 11))) (fun X8 h8 => (dg_tup h8 (dgs_cons (dg_name h8 20 0) (dgs_cons (dg_name h8 21 1) dgs_nil)))) (fun X8 h8 => dto_none) (fun X8 h8 => (de_op (op_addD h8) (de_op (op_mulD h8) (de_cb h8 0 (cr_len h8) (fr_len hA) (da_cons (de_var h8 3 2) da_nil)) (de_var h8 20 1)) (de_var h8 21 0)))))
  (dss_one (ds_ret de_bl))
  dss_nil)))))))))))))))))
  (dss_one (ds_ret de_bl)))
theorem sc_law : ScOk ["script", "k", "pool", "pairs", "first", "second", "told_half", "half", "one", "other", "both", "over", "begun", "flat", "turn", "p", "ours", "theirs", "left", "three", "i", "j", "k2", "index"] ["script"] ["script", "k", "pool", "pairs", "first", "second", "told_half", "half", "one", "other", "both", "over", "begun", "flat", "turn", "p", "ours", "theirs", "left"] ["range", "max", "min", "len", "_law_hand", "_law_net", "_law_told_half", "Half", "Net", "_law_pair", "counted_owners", "Point", "rim_turns", "signed", "_law_left", "sorted"] (defScope (top 59)) := scOk_of (by decide +kernel) (by decide +kernel)
theorem ok_law (hA : A G) : OkF G "law" 7 1 f_law := by
  obtain ⟨fd, FT⟩ := hA.sd.def_ 37 (d := d_law) rfl
  exact ⟨_, fd, ["script"], hA.glo 63, FT.kp, FT.bindsN fun _ _ _ _ _ _ us hl => match us, hl with | [_], _ => rfl, rfl, def_ok FT sc_law fun E X hX _ _ _ => b_law hA E X hX⟩
end
end FD
end
section
set_option Elab.async false
set_option linter.all false
set_option maxRecDepth 100000
set_option maxHeartbeats 2000000
namespace FD
open PySem PySem.Spec PyProof.Rows L2 FM
theorem R.bind_congr' {α β : Type} {r r' : R α} {k : α → Cells → R β} (h : r = r') : r.bind k = r'.bind k := by rw [h]
theorem atI_0 {α : Type} (x : α) (r : List α) : atI (x :: r) 0 = some x := by simp [atI, ixN]
theorem atI_1 {α : Type} (x y : α) (r : List α) : atI (x :: y :: r) 1 = some y := atI_nat (j := 1) rfl
theorem atI_2 {α : Type} (x y z : α) (r : List α) : atI (x :: y :: z :: r) 2 = some z := atI_nat (j := 2) rfl
abbrev dP (p : P2) : D := .tup [.int p.1, .int p.2]
abbrev dT (t : T3) : D := .tup [.int t.1, .int t.2.1, .int t.2.2]
abbrev dHalf (h : Hf) : D := .ins "Half" [("own_way", dP h.w), ("own_ahead", .bl h.ah)]
abbrev dNet (ps : List P2) (ts : List T3) : D := .ins "Net" [("pairs", .lst (ps.map dP)), ("own_triples", .lst (ts.map dT))]
abbrev dPoint (p : P2) : D := .ins "Point" [("x", .int p.1), ("y", .int p.2)]
abbrev dWay (q : P2 × P2) : D := .tup [dP q.1, dP q.2]
theorem eqv_int (i j : Int) : eqvD (.int i) (.int j) = decide (i = j) := by
  show PyData.eqv (.int i) (.int j) = _
  simp only [PyData.eqv]
  first | rfl | exact Bool.beq_eq_decide_eq _ _
theorem eqv_bl (i j : Bool) : eqvD (.bl i) (.bl j) = (i == j) := by
  show PyData.eqv (.bool i) (.bool j) = _
  first | rfl | simp only [PyData.eqv]
theorem eqv_P (a b : P2) : eqvD (dP a) (dP b) = decide (a = b) := by
  show PyData.eqv (.tuple [.int a.1, .int a.2]) (.tuple [.int b.1, .int b.2]) = _
  simp only [PyData.eqv, PyData.eqvAll, Bool.and_true]
  rw [Bool.eq_iff_iff]
  simp [Prod.ext_iff]
theorem eqD_val (d e : D) (m : Cells) : eqD (.val d) (.val e) m = if d.cmp = true ∧ e.cmp = true then .ok (.val (.bl (eqvD d e))) m else .bad := rfl
theorem neD_val (d e : D) (m : Cells) : neD (.val d) (.val e) m = if d.cmp = true ∧ e.cmp = true then .ok (.val (.bl (!eqvD d e))) m else .bad := rfl
theorem eqD_int (i j : Int) (m : Cells) : eqD (.val (.int i)) (.val (.int j)) m = .ok (.val (.bl (decide (i = j)))) m := by
  rw [eqD_val, if_pos ⟨rfl, rfl⟩, eqv_int]
theorem neD_int (i j : Int) (m : Cells) : neD (.val (.int i)) (.val (.int j)) m = .ok (.val (.bl (!decide (i = j)))) m := by
  rw [neD_val, if_pos ⟨rfl, rfl⟩, eqv_int]
theorem eqD_bl (i j : Bool) (m : Cells) : eqD (.val (.bl i)) (.val (.bl j)) m = .ok (.val (.bl (i == j))) m := by
  rw [eqD_val, if_pos ⟨rfl, rfl⟩, eqv_bl]
theorem eqD_P (a b : P2) (m : Cells) : eqD (.val (dP a)) (.val (dP b)) m = .ok (.val (.bl (decide (a = b)))) m := by
  rw [eqD_val, if_pos ⟨rfl, rfl⟩, eqv_P]
theorem neD_P (a b : P2) (m : Cells) : neD (.val (dP a)) (.val (dP b)) m = .ok (.val (.bl (!decide (a = b)))) m := by
  rw [neD_val, if_pos ⟨rfl, rfl⟩, eqv_P]

theorem sSeq_ap (f g : SF) (ρ : Ro) (m : Cells) : sSeq f g ρ m = (f ρ m).bind fun fl m1 => match fl with
  | .next ρ1 => g ρ1 m1
  | o => .ok o m1 := rfl
def seqK (g : SF) : Fl → Cells → R Fl := fun fl m1 => match fl with
  | .next ρ1 => g ρ1 m1
  | o => .ok o m1
theorem seq_ap (f g : SF) (ρ : Ro) (m : Cells) : sSeq f g ρ m = (f ρ m).bind (seqK g) := rfl
theorem seqK_n (g : SF) (ρ : Ro) (m : Cells) : seqK g (.next ρ) m = g ρ m := rfl
theorem seqK_r (g : SF) (w : W) (m : Cells) : seqK g (.ret w) m = .ok (.ret w) m := rfl
theorem seqK_b (g : SF) (ρ : Ro) (m : Cells) : seqK g (.brk ρ) m = .ok (.brk ρ) m := rfl
theorem seqK_c (g : SF) (ρ : Ro) (m : Cells) : seqK g (.cont ρ) m = .ok (.cont ρ) m := rfl
theorem nil_ap (ρ : Ro) (m : Cells) : sNil ρ m = .ok (.next ρ) m := rfl
theorem cont_ap (ρ : Ro) (m : Cells) : sCont ρ m = .ok (.cont ρ) m := rfl
theorem ret_ap (f : EF) (ρ : Ro) (m : Cells) : sRet f ρ m = (f ρ m).bind fun w m1 => .ok (.ret w) m1 := rfl
theorem retN_ap (ρ : Ro) (m : Cells) : sRetN ρ m = .ok (.ret (.val .non)) m := rfl
def ifK {α : Type} (f g : Ro → Cells → R α) (ρ : Ro) : Bool → Cells → R α := fun b m1 => if b = true then f ρ m1 else g ρ m1
theorem ifK_t {α : Type} (f g : Ro → Cells → R α) (ρ : Ro) (m : Cells) : ifK f g ρ true m = f ρ m := rfl
theorem ifK_f {α : Type} (f g : Ro → Cells → R α) (ρ : Ro) (m : Cells) : ifK f g ρ false m = g ρ m := rfl
theorem if_ap (c : TF) (f g : SF) (ρ : Ro) (m : Cells) : sIf c f g ρ m = (c ρ m).bind (ifK f g ρ) := rfl
theorem eIf_ap (c : TF) (f g : EF) (ρ : Ro) (m : Cells) : eIf c f g ρ m = (c ρ m).bind (ifK f g ρ) := rfl
theorem set_ap (i : Nat) (f : EF) (ρ : Ro) (m : Cells) : sSet i f ρ m = (f ρ m).bind fun w m1 => .ok (.next (ρ.set i (some w))) m1 := rfl
theorem expr_ap (f : EF) (ρ : Ro) (m : Cells) : sExpr f ρ m = (f ρ m).bind fun _ m1 => .ok (.next ρ) m1 := rfl
def asgK (g : GF) (ρ : Ro) : W → Cells → R Fl := fun w m1 => match g w ρ with
  | some ρ1 => .ok (.next ρ1) m1
  | none => .bad
theorem asg_ap (f : EF) (g : GF) (ρ : Ro) (m : Cells) : sAsg f g ρ m = (f ρ m).bind (asgK g ρ) := rfl
theorem asgK_ap (g : GF) (ρ : Ro) (w : W) (m : Cells) : asgK g ρ w m = (match g w ρ with
  | some ρ1 => .ok (.next ρ1) m
  | none => .bad) := rfl
theorem par_ap (i j : Nat) (t : AF) (ρ : Ro) (m : Cells) : sPar i j t ρ m = (t ρ m).bind fun ws m1 => match ws with
  | [w, u] => .ok (.next ((ρ.set i (some w)).set j (some u))) m1
  | _ => .bad := rfl
theorem par3_ap (i j l : Nat) (t : AF) (ρ : Ro) (m : Cells) : sPar3 i j l t ρ m = (t ρ m).bind fun ws m1 => match ws with
  | [w, u, v] => .ok (.next (((ρ.set i (some w)).set j (some u)).set l (some v))) m1
  | _ => .bad := rfl
theorem aug_ap (i : Nat) (h : W → W → Cells → R W) (f : EF) (ρ : Ro) (m : Cells) : sAug i h f ρ m = (match ρ[i]? with
  | some (some w) => (f ρ m).bind fun u m1 => (h w u m1).bind fun z m2 => .ok (.next (ρ.set i (some z))) m2
  | _ => .bad) := rfl
theorem V_ap (i : Nat) (ρ : Ro) (m : Cells) : eV i ρ m = (match ρ[i]? with
  | some (some w) => .ok w m
  | _ => .bad) := rfl
theorem C_ap (d : D) (ρ : Ro) (m : Cells) : eC d ρ m = .ok (.val d) m := rfl
theorem e1_ap (h : W → Cells → R W) (f : EF) (ρ : Ro) (m : Cells) : e1 h f ρ m = (f ρ m).bind h := rfl
theorem e2_ap (h : W → W → Cells → R W) (f g : EF) (ρ : Ro) (m : Cells) : e2 h f g ρ m = (f ρ m).bind fun w m1 => (g ρ m1).bind (h w) := rfl
def andK (g : EF) (ρ : Ro) : W → Cells → R W := fun w m1 => match w with
  | .val (.bl b) => if b = true then g ρ m1 else .ok (.val (.bl false)) m1
  | _ => .bad
def orK (g : EF) (ρ : Ro) : W → Cells → R W := fun w m1 => match w with
  | .val (.bl b) => if b = true then .ok (.val (.bl true)) m1 else g ρ m1
  | _ => .bad
theorem and_ap (f g : EF) (ρ : Ro) (m : Cells) : eAnd f g ρ m = (f ρ m).bind (andK g ρ) := rfl
theorem or_ap (f g : EF) (ρ : Ro) (m : Cells) : eOr f g ρ m = (f ρ m).bind (orK g ρ) := rfl
theorem andK_ap (g : EF) (ρ : Ro) (b : Bool) (m : Cells) : andK g ρ (.val (.bl b)) m = if b = true then g ρ m else .ok (.val (.bl false)) m := rfl
theorem orK_ap (g : EF) (ρ : Ro) (b : Bool) (m : Cells) : orK g ρ (.val (.bl b)) m = if b = true then .ok (.val (.bl true)) m else g ρ m := rfl
def notK : W → Cells → R W := fun w m1 => match w with
  | .val (.bl b) => .ok (.val (.bl (!b))) m1
  | _ => .bad
theorem not_ap (f : EF) (ρ : Ro) (m : Cells) : eNot f ρ m = (f ρ m).bind notK := rfl
theorem notK_ap (b : Bool) (m : Cells) : notK (.val (.bl b)) m = .ok (.val (.bl (!b))) m := rfl
def tBK : W → Cells → R Bool := fun w m => match w with
  | .val (.bl b) => .ok b m
  | _ => .bad
theorem tB_ap (f : EF) (ρ : Ro) (m : Cells) : tB f ρ m = (f ρ m).bind tBK := rfl
theorem tBK_ap (b : Bool) (m : Cells) : tBK (.val (.bl b)) m = .ok b m := rfl
theorem tand_ap (t u : TF) (ρ : Ro) (m : Cells) : tAndD t u ρ m = (t ρ m).bind fun b m1 => if b = true then u ρ m1 else .ok false m1 := rfl
theorem tor_ap (t u : TF) (ρ : Ro) (m : Cells) : tOrD t u ρ m = (t ρ m).bind fun b m1 => if b = true then .ok true m1 else u ρ m1 := rfl
theorem tnot_ap (t : TF) (ρ : Ro) (m : Cells) : tNotD t ρ m = (t ρ m).bind fun b m1 => .ok (!b) m1 := rfl
def tupK : List W → Cells → R W := fun ws m1 => match allVal ws with
  | some ds => if ds.length ≤ sizeLine then .ok (.val (.tup ds)) m1 else .bad
  | none => .bad
def lstK : List W → Cells → R W := fun ws m1 => match allVal ws with
  | some ds => if ds.length ≤ sizeLine then .ok (.val (.lst ds)) m1 else .bad
  | none => .bad
theorem tup_ap (t : AF) (ρ : Ro) (m : Cells) : eTup t ρ m = (t ρ m).bind tupK := rfl
theorem lst_ap (t : AF) (ρ : Ro) (m : Cells) : eLst t ρ m = (t ρ m).bind lstK := rfl
theorem tupK_2 (a b : D) (m : Cells) : tupK [.val a, .val b] m = .ok (.val (.tup [a, b])) m := rfl
theorem tupK_3 (a b c : D) (m : Cells) : tupK [.val a, .val b, .val c] m = .ok (.val (.tup [a, b, c])) m := rfl
theorem lstK_0 (m : Cells) : lstK [] m = .ok (.val (.lst [])) m := rfl
theorem lstK_1 (a : D) (m : Cells) : lstK [.val a] m = .ok (.val (.lst [a])) m := rfl
theorem lstK_2 (a b : D) (m : Cells) : lstK [.val a, .val b] m = .ok (.val (.lst [a, b])) m := rfl
theorem lstK_3 (a b c : D) (m : Cells) : lstK [.val a, .val b, .val c] m = .ok (.val (.lst [a, b, c])) m := rfl
theorem nilA_ap (ρ : Ro) (m : Cells) : aNil ρ m = .ok [] m := rfl
theorem consA_ap (f : EF) (t : AF) (ρ : Ro) (m : Cells) : aCons f t ρ m = (f ρ m).bind fun w m1 => (t ρ m1).bind fun ws m2 => .ok (w :: ws) m2 := rfl
def callK (n : Nat) (F : FN) : List W → Cells → R W := fun ws m1 => if ws.length = n then callF F ws m1 else .bad
theorem call_ap (n : Nat) (F : FN) (t : AF) (ρ : Ro) (m : Cells) : eCall n F t ρ m = (t ρ m).bind (callK n F) := rfl
theorem callV {F : FN} {ws : List W} {n : Nat} {d : D} {m : Cells} (h1 : ws.length = n) (h2 : refsOf ws = []) (h3 : renum 0 ws = ws) (e : F ws [] = .ok (.val d) []) : callK n F ws m = .ok (.val d) m := by
  unfold callK callF
  rw [if_pos h1, h2, h3]
  show (match F ws [] with
    | .ok w mc => _
    | .ex x mc => _
    | .bad => _) = _
  rw [e]; rfl
theorem B_ap (h : BF) (t : AF) (ρ : Ro) (m : Cells) : eB h t ρ m = (t ρ m).bind h := rfl
theorem fld_ap (c f : Str) (fe : EF) (ρ : Ro) (m : Cells) : eFld c f fe ρ m = (fe ρ m).bind (fldD c f) := rfl
theorem chain_ap (h h' : W → W → Cells → R W) (f g l : EF) (ρ : Ro) (m : Cells) : eChain h h' f g l ρ m = (f ρ m).bind fun w m1 => (g ρ m1).bind fun u m2 => (h w u m2).bind fun z m3 => match z with
  | .val (.bl b) => if b = true then (l ρ m3).bind fun x m4 => h' u x m4 else .ok (.val (.bl false)) m3
  | _ => .bad := rfl
/-! bounds -/
def Bd (i : Int) : Prop := i.natAbs < 2 ^ 120
def BP (p : P2) : Prop := Bd p.1 ∧ Bd p.2
theorem mul_ok {i j : Int} (h1 : i.natAbs < 2 ^ 240) (h2 : j.natAbs < 2 ^ 240) : mulOk i j = true := by
  have lg : ∀ n : Nat, n < 2 ^ 240 → n.log2 < 240 := fun n hn => by
    by_cases e : n = 0
    · subst e; decide
    · exact (Nat.log2_lt e).mpr hn
  unfold mulOk
  rw [Bool.or_eq_true, Bool.or_eq_true]
  left; left
  exact decide_eq_true (by have := lg _ h1; have := lg _ h2; omega)
theorem bd_sub {i j : Int} (h1 : Bd i) (h2 : Bd j) : (i - j).natAbs < 2 ^ 240 := by
  unfold Bd at h1 h2
  have : (2 : Nat) ^ 120 + 2 ^ 120 ≤ 2 ^ 240 := by decide
  omega
theorem bd_up {i : Int} (h : Bd i) : i.natAbs < 2 ^ 240 := by
  unfold Bd at h
  have : (2 : Nat) ^ 120 ≤ 2 ^ 240 := by decide
  omega
theorem add_ii (i j : Int) (m : Cells) : addD (.val (.int i)) (.val (.int j)) m = .ok (.val (.int (i + j))) m := rfl
theorem sub_ii (i j : Int) (m : Cells) : subD (.val (.int i)) (.val (.int j)) m = .ok (.val (.int (i - j))) m := rfl
theorem mul_ii (i j : Int) (m : Cells) : mulD (.val (.int i)) (.val (.int j)) m = if mulOk i j = true then .ok (.val (.int (i * j))) m else .bad := rfl
theorem fdiv_ii (i j : Int) (m : Cells) : fdivD (.val (.int i)) (.val (.int j)) m = if divOk j = true then .ok (.val (.int (i / j))) m else .bad := rfl
theorem mod_ii (i j : Int) (m : Cells) : modD (.val (.int i)) (.val (.int j)) m = if 0 < j then .ok (.val (.int (i % j))) m else .bad := rfl
theorem lt_ii (i j : Int) (m : Cells) : ltD (.val (.int i)) (.val (.int j)) m = .ok (.val (.bl (decide (i < j)))) m := rfl
theorem le_ii (i j : Int) (m : Cells) : leD (.val (.int i)) (.val (.int j)) m = .ok (.val (.bl (decide (i ≤ j)))) m := rfl
theorem gt_ii (i j : Int) (m : Cells) : gtD (.val (.int i)) (.val (.int j)) m = .ok (.val (.bl (decide (j < i)))) m := rfl
theorem ge_ii (i j : Int) (m : Cells) : geD (.val (.int i)) (.val (.int j)) m = .ok (.val (.bl (decide (j ≤ i)))) m := rfl
theorem neg_i (i : Int) (m : Cells) : negD (.val (.int i)) m = .ok (.val (.int (-i))) m := rfl
theorem iadd_ii (i j : Int) (m : Cells) : iaddD (.val (.int i)) (.val (.int j)) m = .ok (.val (.int (i + j))) m := rfl
theorem isub_ii (i j : Int) (m : Cells) : isubD (.val (.int i)) (.val (.int j)) m = .ok (.val (.int (i - j))) m := rfl
theorem ix_t (xs : List D) (i : Int) (m : Cells) : ixD (.val (.tup xs)) (.val (.int i)) m = (match atI xs i with
    | some d => .ok (.val d) m
    | none => .bad) := rfl
theorem ix_l (xs : List D) (i : Int) (m : Cells) : ixD (.val (.lst xs)) (.val (.int i)) m = (match atI xs i with
    | some d => .ok (.val d) m
    | none => .bad) := rfl
theorem is_non (d : D) (m : Cells) : isND (.val d) (.val .non) m = .ok (.val (.bl d.isNone)) m := rfl
theorem int_i (i : Int) (m : Cells) : intTyD [.val (.int i)] m = .ok (.val (.int i)) m := rfl
theorem int_b (b : Bool) (m : Cells) : intTyD [.val (.bl b)] m = .ok (.val (.int (if b then 1 else 0))) m := rfl
theorem abs_i (i : Int) (m : Cells) : absD [.val (.int i)] m = .ok (.val (.int (if i < 0 then -i else i))) m := rfl
theorem len_l (xs : List D) (m : Cells) : lenD [.val (.lst xs)] m = .ok (.val (.int (xs.length : Nat))) m := rfl
theorem fn_ap (n : Nat) (f : SF) (ws : List W) (m : Cells) : fnD n f ws m = trunc m.length (endR (f (startD n ws) m)) := rfl
theorem start_ap (n : Nat) (ws : List W) : startD n ws = ws.map some ++ List.replicate (n - ws.length) none := rfl
theorem trunc_v (n : Nat) (d : D) (m : Cells) : trunc n (.ok (.val d) m) = .ok (.val d) (m.take n) := rfl
theorem endR_r (w : W) (m : Cells) : endR (.ok (.ret w) m) = .ok w m := rfl
theorem endR_n (ρ : Ro) (m : Cells) : endR (.ok (.next ρ) m) = .ok (.val .non) m := rfl
local macro_rules
  | `(tactic| walk_at "ev") => `(tactic| simp only [fn_ap, start_ap, trunc_v, endR_r, endR_n, seq_ap, seqK_n, seqK_r, seqK_b, seqK_c, nil_ap, cont_ap, ret_ap, retN_ap, if_ap, eIf_ap, ifK_t, ifK_f, set_ap, expr_ap, asg_ap, asgK_ap, par_ap, par3_ap, aug_ap, V_ap, C_ap, e1_ap, e2_ap, and_ap, or_ap, andK_ap, orK_ap, not_ap, notK_ap, tB_ap, tBK_ap, tand_ap, tor_ap, tnot_ap,
      tup_ap, lst_ap, tupK_2, tupK_3, lstK_0, lstK_1, lstK_2, lstK_3, nilA_ap, consA_ap, call_ap, B_ap, fld_ap, chain_ap, fldD, clsOf, gN, gT, gU, gsCons, gsNil,
      add_ii, sub_ii, mul_ii, fdiv_ii, mod_ii, lt_ii, le_ii, gt_ii, ge_ii, neg_i, iadd_ii, isub_ii, ix_t, ix_l, is_non, int_i, int_b, abs_i, len_l, eqD_int, neD_int, eqD_bl, eqD_P, neD_P, D.isNone,
      R.bind_ok, R.bind_ex, R.bind_bad, List.map_cons, List.map_nil, List.length_cons, List.length_nil, List.cons_append, List.nil_append, List.append_nil, List.getElem?_cons_zero, List.getElem?_cons_succ, List.take_zero, List.take_nil, List.take_succ_cons, atI_0, atI_1, atI_2,
      List.reduceReplicate, Nat.reduceSub, List.replicate_zero, List.replicate_succ, Nat.sub_self, if_true, if_false, Bool.false_eq_true, Nat.le_refl, Nat.zero_le, reduceIte, Nat.zero_add, Nat.reduceAdd, Nat.reduceLeDiff, List.set_cons_zero, List.set_cons_succ, List.set_nil, Bool.not_true, Bool.not_false, decide_true, decide_false, Bool.true_and, Bool.false_and, Bool.and_true, Bool.and_false, Bool.true_or, Bool.false_or, *])
theorem t_less (a b : P2) : f_less [.val (dP a), .val (dP b)] [] = .ok (.val (dP (sub2 a b))) [] := rfl
theorem t_cross (a b : P2) (h1 : mulOk a.1 b.2 = true) (h2 : mulOk a.2 b.1 = true) : f_cross_of [.val (dP a), .val (dP b)] [] = .ok (.val (.int (crs a b))) [] := by
  unfold f_cross_of F_cross_of crs
  walk_at "ev"
theorem t_side {a b p : P2} (ha : BP a) (hb : BP b) (hp : BP p) : f_side_of [.val (dP a), .val (dP b), .val (dP p)] [] = .ok (.val (.int (side a b p))) [] := by
  have e1 : ∀ m, callK 2 f_cross_of [.val (dP (sub2 b a)), .val (dP (sub2 p a))] m = .ok (.val (.int (crs (sub2 b a) (sub2 p a)))) m := fun m => callV rfl rfl rfl (t_cross _ _ (mul_ok (bd_sub hb.1 ha.1) (bd_sub hp.2 ha.2)) (mul_ok (bd_sub hb.2 ha.2) (bd_sub hp.1 ha.1)))
  have e2 : ∀ m, callK 2 f_less [.val (dP b), .val (dP a)] m = .ok (.val (dP (sub2 b a))) m := fun m => callV rfl rfl rfl (t_less b a)
  have e3 : ∀ m, callK 2 f_less [.val (dP p), .val (dP a)] m = .ok (.val (dP (sub2 p a))) m := fun m => callV rfl rfl rfl (t_less p a)
  unfold f_side_of F_side_of side
  walk_at "ev"
theorem t_isint (i : Int) : f_is_integer [.val (.int i)] [] = .ok (.val (.bl true)) [] := rfl
theorem t_numbers (p : P2) : f_numbers_of [.val (dP p)] [] = .ok (.val (dP p)) [] := rfl
theorem t_numbers_pt (p : P2) : f_numbers_of [.val (dPoint p)] [] = .ok (.val (dP p)) [] := rfl
theorem t_pair (p : P2) : f_pair_of [.val (dP p)] [] = .ok (.val (dP p)) [] := rfl
theorem t_pair_pt (p : P2) : f_pair_of [.val (dPoint p)] [] = .ok (.val (dP p)) [] := rfl
theorem t_between (i l u : Int) : f_is_between [.val (.int i), .val (.int l), .val (.int u)] [] = .ok (.val (.bl (decide (l ≤ i) && decide (i ≤ u)))) [] := by
  have e : ∀ m, callK 1 f_is_integer [.val (.int i)] m = .ok (.val (.bl true)) m := fun m => callV rfl rfl rfl (t_isint i)
  unfold f_is_between F_is_between
  walk_at "ev"
  by_cases q : l ≤ i
  · rw [decide_eq_true q]
    rfl
  · rw [decide_eq_false q]
    rfl
theorem t_has {h : Hf} {d : P2} (hw : h.w.1.natAbs < 2 ^ 240 ∧ h.w.2.natAbs < 2 ^ 240) (hd : d.1.natAbs < 2 ^ 240 ∧ d.2.natAbs < 2 ^ 240) : f_Half_has [.val (dHalf h), .val (dP d)] [] = .ok (.val (.bl (h.has d))) [] := by
  have e1 : ∀ m, callK 2 f_cross_of [.val (dP h.w), .val (dP d)] m = .ok (.val (.int (crs h.w d))) m := fun m => callV rfl rfl rfl (t_cross h.w d (mul_ok hw.1 hd.2) (mul_ok hw.2 hd.1))
  have m1 := mul_ok hd.1 hw.1
  have m2 := mul_ok hd.2 hw.2
  have l1 : ([("own_way", dP h.w), ("own_ahead", D.bl h.ah)] : List (Str × D)).lookup ("own_way" : Str) = some (dP h.w) := rfl
  have l2 : ([("own_way", dP h.w), ("own_ahead", D.bl h.ah)] : List (Str × D)).lookup ("own_ahead" : Str) = some (D.bl h.ah) := rfl
  unfold f_Half_has F_Half_has Hf.has
  by_cases q : crs h.w d = 0
  · walk_at "ev"
  · walk_at "ev"
end FD
end
section
set_option Elab.async false
set_option linter.all false
set_option maxRecDepth 100000
set_option maxHeartbeats 2000000
namespace FD
open PySem PySem.Spec PyProof.Rows L2 FM
def forK (g : GF) (body : SF) (ds : List D) (n : Nat) : R Fl → R Fl
  | .bad => .bad
  | .ex x m2 => .ex x m2
  | .ok fl m2 => (match fl with
    | .next ρ2 => forF g body ds (trimR n ρ2) (m2.take n)
    | .cont ρ2 => forF g body ds (trimR n ρ2) (m2.take n)
    | .brk ρ2 => .ok (.next ρ2) m2
    | .ret w => .ok (.ret w) m2)
theorem for_nil (g : GF) (body : SF) (ρ : Ro) (m : Cells) : forF g body [] ρ m = .ok (.next ρ) m := rfl
theorem for_cons (g : GF) (body : SF) (d : D) (ds : List D) (ρ : Ro) (m : Cells) : forF g body (d :: ds) ρ m = (match g (.val d) ρ with
    | none => .bad
    | some ρ1 => forK g body ds m.length (body ρ1 m)) := by
  rw [forF]
  cases e : g (.val d) ρ with
  | none => rfl
  | some ρ1 =>
    dsimp only
    cases h2 : body ρ1 m with
    | bad => rfl
    | ex x m2 => rfl
    | ok fl m2 => cases fl <;> rfl
theorem forK_n (g : GF) (body : SF) (ds : List D) (n : Nat) (ρ : Ro) (m : Cells) : forK g body ds n (.ok (.next ρ) m) = forF g body ds (trimR n ρ) (m.take n) := rfl
theorem forK_c (g : GF) (body : SF) (ds : List D) (n : Nat) (ρ : Ro) (m : Cells) : forK g body ds n (.ok (.cont ρ) m) = forF g body ds (trimR n ρ) (m.take n) := rfl
theorem forK_r (g : GF) (body : SF) (ds : List D) (n : Nat) (w : W) (m : Cells) : forK g body ds n (.ok (.ret w) m) = .ok (.ret w) m := rfl
theorem for_ap (it : IF) (g : GF) (body : SF) (ρ : Ro) (m : Cells) : sFor it g body ρ m = (it ρ m).bind fun ds m1 => forF g body ds ρ m1 := rfl
def iSeqK : W → Cells → R (List D) := fun w m1 => match w with
  | .val (.lst ds) => .ok ds m1
  | .val (.scr ds) => .ok ds m1
  | _ => .bad
def iTupK : W → Cells → R (List D) := fun w m1 => match w with
  | .val (.tup ds) => .ok ds m1
  | _ => .bad
theorem iSeq_ap (f : EF) (ρ : Ro) (m : Cells) : iSeq f ρ m = (f ρ m).bind iSeqK := rfl
theorem iTup_ap (f : EF) (ρ : Ro) (m : Cells) : iTupD f ρ m = (f ρ m).bind iTupK := rfl
theorem iSeqK_l (ds : List D) (m : Cells) : iSeqK (.val (.lst ds)) m = .ok ds m := rfl
theorem iTupK_t (ds : List D) (m : Cells) : iTupK (.val (.tup ds)) m = .ok ds m := rfl
def trimO (n : Nat) : Option W → Option W
  | some (.ref k) => if k < n then some (.ref k) else none
  | o => o
theorem trimR_nil (n : Nat) : trimR n [] = [] := rfl
theorem trimR_cons (n : Nat) (o : Option W) (ρ : Ro) : trimR n (o :: ρ) = trimO n o :: trimR n ρ := by
  unfold trimR
  rw [List.map_cons]
  congr 1
theorem trimO_v (n : Nat) (d : D) : trimO n (some (.val d)) = some (.val d) := rfl
theorem trimO_n (n : Nat) : trimO n none = none := rfl
def methK (c0 mn : Str) (n : Nat) (F : FN) (t : AF) (ρ : Ro) : W → Cells → R W := fun w m1 => match clsOf w m1 with
  | some (c, fs) => if c = c0 then (match fs.lookup mn with
    | some _ => .bad
    | none => (t ρ m1).bind fun ws m2 => if ws.length + 1 = n then callF F (w :: ws) m2 else .bad) else .bad
  | none => .bad
theorem meth_ap (c0 mn : Str) (n : Nat) (F : FN) (fo : EF) (t : AF) (ρ : Ro) (m : Cells) : eMeth c0 mn n F fo t ρ m = (fo ρ m).bind (methK c0 mn n F t ρ) := rfl
theorem methV {c : Str} {mn : Str} {fs : List (Str × D)} {n : Nat} {F : FN} {t : AF} {ρ : Ro} {m : Cells} {ws : List W} {d : D} (h0 : fs.lookup mn = none) (ht : t ρ m = .ok ws m) (hn : ws.length + 1 = n) (h2 : refsOf ws = []) (h3 : renum 0 ws = ws) (e : F (.val (.ins c fs) :: ws) [] = .ok (.val d) []) :
    methK c mn n F t ρ (.val (.ins c fs)) m = .ok (.val d) m := by
  unfold methK
  show (if c = c then (match fs.lookup mn with
    | some _ => R.bad
    | none => (t ρ m).bind fun ws m2 => if ws.length + 1 = n then callF F (.val (.ins c fs) :: ws) m2 else .bad) else .bad) = _
  rw [if_pos rfl, h0, ht]
  have := callV (F := F) (ws := .val (.ins c fs) :: ws) (n := n) (d := d) (m := m) (by simpa using hn) (by simpa [refsOf] using h2) (by simpa [renum] using h3) e
  unfold callK at this
  simpa using this
local macro_rules
  | `(tactic| walk_at "ev") => `(tactic| simp only [fn_ap, start_ap, trunc_v, endR_r, endR_n, seq_ap, seqK_n, seqK_r, seqK_b, seqK_c, nil_ap, cont_ap, ret_ap, retN_ap, if_ap, eIf_ap, ifK_t, ifK_f, set_ap, expr_ap, asg_ap, asgK_ap, par_ap, par3_ap, aug_ap, V_ap, C_ap, e1_ap, e2_ap, and_ap, or_ap, andK_ap, orK_ap, not_ap, notK_ap, tB_ap, tBK_ap, tand_ap, tor_ap, tnot_ap,
      tup_ap, lst_ap, tupK_2, tupK_3, lstK_0, lstK_1, lstK_2, lstK_3, nilA_ap, consA_ap, call_ap, B_ap, fld_ap, chain_ap, for_ap, for_nil, for_cons, forK_n, forK_c, forK_r, iSeq_ap, iTup_ap, iSeqK_l, iTupK_t, trimR_nil, trimR_cons, trimO_v, trimO_n, meth_ap, fldD, clsOf, gN, gT, gU, gsCons, gsNil,
      add_ii, sub_ii, mul_ii, fdiv_ii, mod_ii, lt_ii, le_ii, gt_ii, ge_ii, neg_i, iadd_ii, isub_ii, ix_t, ix_l, is_non, int_i, int_b, abs_i, len_l, eqD_int, neD_int, eqD_bl, eqD_P, neD_P, D.isNone,
      R.bind_ok, R.bind_ex, R.bind_bad, List.map_cons, List.map_nil, List.length_cons, List.length_nil, List.cons_append, List.nil_append, List.append_nil, List.getElem?_cons_zero, List.getElem?_cons_succ, List.take_zero, List.take_nil, List.take_succ_cons, atI_0, atI_1, atI_2,
      List.reduceReplicate, Nat.reduceSub, List.replicate_zero, List.replicate_succ, Nat.sub_self, if_true, if_false, Bool.false_eq_true, Nat.le_refl, Nat.zero_le, reduceIte, Nat.zero_add, Nat.reduceAdd, Nat.reduceLeDiff, List.set_cons_zero, List.set_cons_succ, List.set_nil, Bool.not_true, Bool.not_false, decide_true, decide_false, Bool.true_and, Bool.false_and, Bool.and_true, Bool.and_false, Bool.true_or, Bool.false_or, *])

def HB (h : Hf) : Prop := h.w.1.natAbs < 2 ^ 240 ∧ h.w.2.natAbs < 2 ^ 240
theorem lft_cases (h : Hf) (a b p : P2) : h.lft a b p = !(decide (side a b p < 0) || (decide (side a b p = 0) && !h.has (sub2 b a))) := by
  unfold Hf.lft
  rcases Int.lt_trichotomy (side a b p) 0 with q | q | q
  · have h1 : ¬ 0 < side a b p := by omega
    have h2 : ¬ side a b p = 0 := by omega
    simp [q, h1, h2]
  · simp [q]
  · have h1 : ¬ side a b p < 0 := by omega
    have h2 : ¬ side a b p = 0 := by omega
    simp [q, h1, h2]
theorem ix3 (a b c : D) : f_ways_of [.val (.lst [a, b, c])] [] = .ok (.val (.lst [.tup [a, b], .tup [b, c], .tup [c, a]])) [] := by kernel_rfl
theorem owned_loop {h : Hf} (hh : HB h) (pr : D) {p : P2} (hp : BP p) : ∀ (ws : List (P2 × P2)), (∀ q, q ∈ ws → BP q.1 ∧ BP q.2) → ∀ (j1 j2 j3 : Option W),
    ((ws.all fun q => h.lft q.1 q.2 p) = true → ∃ k1 k2 k3, forF (gT 2 (gsCons (gN 3) (gsCons (gN 4) gsNil))) L1_is_owned (ws.map dWay) [some (.val (dHalf h)), some (.val pr), some (.val (dP p)), j1, j2, j3] [] = .ok (.next [some (.val (dHalf h)), some (.val pr), some (.val (dP p)), k1, k2, k3]) []) ∧
    ((ws.all fun q => h.lft q.1 q.2 p) = false → forF (gT 2 (gsCons (gN 3) (gsCons (gN 4) gsNil))) L1_is_owned (ws.map dWay) [some (.val (dHalf h)), some (.val pr), some (.val (dP p)), j1, j2, j3] [] = .ok (.ret (.val (.bl false))) [])
  | [], _, j1, j2, j3 => ⟨fun _ => ⟨j1, j2, j3, rfl⟩, fun e => by cases e⟩
  | q :: ws, hb, j1, j2, j3 => by
    obtain ⟨hb1, hb2⟩ := hb q (by simp)
    have ih := owned_loop hh pr hp ws (fun r hr => hb r (by simp [hr])) (some (.val (dP q.1))) (some (.val (dP q.2))) (some (.val (.int (side q.1 q.2 p))))
    have e1 : ∀ m, callK 3 f_side_of [.val (dP q.1), .val (dP q.2), .val (dP p)] m = .ok (.val (.int (side q.1 q.2 p))) m := fun m => callV rfl rfl rfl (t_side hb1 hb2 hp)
    have e2 : ∀ m, callK 2 f_less [.val (dP q.2), .val (dP q.1)] m = .ok (.val (dP (sub2 q.2 q.1))) m := fun m => callV rfl rfl rfl (t_less q.2 q.1)
    have e3 : ∀ (m : Cells) (ρ : Ro) (t : AF), t ρ m = .ok [.val (dP (sub2 q.2 q.1))] m → methK "Half" "has" 2 f_Half_has t ρ (.val (dHalf h)) m = .ok (.val (.bl (h.has (sub2 q.2 q.1)))) m := fun m ρ t ht => methV rfl ht rfl rfl rfl (t_has hh ⟨bd_sub hb2.1 hb1.1, bd_sub hb2.2 hb1.2⟩)
    rw [List.all_cons, lft_cases]
    by_cases q1 : side q.1 q.2 p < 0
    · refine ⟨fun e => by simp [q1] at e, fun _ => ?_⟩
      unfold L1_is_owned
      walk_at "ev"
    · by_cases q2 : side q.1 q.2 p = 0
      · cases q3 : h.has (sub2 q.2 q.1) with
        | false =>
          refine ⟨fun e => by simp [q1, q2, q3] at e, fun _ => ?_⟩
          unfold L1_is_owned
          rw [q2] at e1 q1
          rw [q3] at e3
          walk_at "ev"
        | true =>
          have e0 : (!(decide (side q.1 q.2 p < 0) || (decide (side q.1 q.2 p = 0) && !true)) && ws.all fun q => h.lft q.1 q.2 p) = ws.all fun q => h.lft q.1 q.2 p := by simp [q1]
          rw [e0]
          have st : forF (gT 2 (gsCons (gN 3) (gsCons (gN 4) gsNil))) L1_is_owned (dWay q :: ws.map dWay) [some (.val (dHalf h)), some (.val pr), some (.val (dP p)), j1, j2, j3] [] = forF (gT 2 (gsCons (gN 3) (gsCons (gN 4) gsNil))) L1_is_owned (ws.map dWay) [some (.val (dHalf h)), some (.val pr), some (.val (dP p)), some (.val (dP q.1)), some (.val (dP q.2)), some (.val (.int (side q.1 q.2 p)))] [] := by
            rw [q3] at e3
            clear ih e0 hb
            rw [for_cons]
            have q2' := q2
            rw [q2] at e1 q1
            rw [q2]
            have : L1_is_owned [some (.val (dHalf h)), some (.val pr), some (.val (dP p)), some (.val (dP q.1)), some (.val (dP q.2)), j3] [] = .ok (.next [some (.val (dHalf h)), some (.val pr), some (.val (dP p)), some (.val (dP q.1)), some (.val (dP q.2)), some (.val (.int 0))]) [] := by
              unfold L1_is_owned
              walk_at "ev"
            show forK _ _ _ _ (L1_is_owned [some (.val (dHalf h)), some (.val pr), some (.val (dP p)), some (.val (dP q.1)), some (.val (dP q.2)), j3] []) = _
            rw [this]
            rfl
          rw [List.map_cons, st]
          exact ih
      · have q3 : 0 < side q.1 q.2 p := by omega
        have e0 : (!(decide (side q.1 q.2 p < 0) || (decide (side q.1 q.2 p = 0) && !h.has (sub2 q.2 q.1))) && ws.all fun q => h.lft q.1 q.2 p) = ws.all fun q => h.lft q.1 q.2 p := by simp [q1, q2]
        rw [e0]
        have st : forF (gT 2 (gsCons (gN 3) (gsCons (gN 4) gsNil))) L1_is_owned (dWay q :: ws.map dWay) [some (.val (dHalf h)), some (.val pr), some (.val (dP p)), j1, j2, j3] [] = forF (gT 2 (gsCons (gN 3) (gsCons (gN 4) gsNil))) L1_is_owned (ws.map dWay) [some (.val (dHalf h)), some (.val pr), some (.val (dP p)), some (.val (dP q.1)), some (.val (dP q.2)), some (.val (.int (side q.1 q.2 p)))] [] := by
          clear ih e0 hb
          rw [for_cons]
          have : L1_is_owned [some (.val (dHalf h)), some (.val pr), some (.val (dP p)), some (.val (dP q.1)), some (.val (dP q.2)), j3] [] = .ok (.next [some (.val (dHalf h)), some (.val pr), some (.val (dP p)), some (.val (dP q.1)), some (.val (dP q.2)), some (.val (.int (side q.1 q.2 p)))]) [] := by
            unfold L1_is_owned
            walk_at "ev"
          show forK _ _ _ _ (L1_is_owned [some (.val (dHalf h)), some (.val pr), some (.val (dP p)), some (.val (dP q.1)), some (.val (dP q.2)), j3] []) = _
          rw [this]
          rfl
        rw [List.map_cons, st]
        exact ih
theorem t_owned {h : Hf} (hh : HB h) {a b c p : P2} (ha : BP a) (hb : BP b) (hc : BP c) (hp : BP p) : f_is_owned [.val (dHalf h), .val (.lst [dP a, dP b, dP c]), .val (dP p)] [] = .ok (.val (.bl (h.own3 a b c p))) [] := by
  obtain ⟨l1, l2⟩ := owned_loop hh (.lst [dP a, dP b, dP c]) hp [(a, b), (b, c), (c, a)] (by simp [ha, hb, hc]) none none none
  have e1 : ∀ m, callK 1 f_ways_of [.val (.lst [dP a, dP b, dP c])] m = .ok (.val (.lst [.tup [dP a, dP b], .tup [dP b, dP c], .tup [dP c, dP a]])) m := fun m => callV rfl rfl rfl (ix3 _ _ _)
  have eo : ([(a, b), (b, c), (c, a)].all fun q => h.lft q.1 q.2 p) = h.own3 a b c p := by simp [Hf.own3]
  rw [eo] at l1 l2
  unfold f_is_owned F_is_owned
  cases q : h.own3 a b c p with
  | true =>
    obtain ⟨k1, k2, k3, l1⟩ := l1 q
    simp only [List.map_cons, List.map_nil] at l1
    clear l2 eo
    rw [fn_ap, start_ap]
    simp only [seq_ap, for_ap, iSeq_ap, call_ap, consA_ap, V_ap, nilA_ap, R.bind_ok, List.map_cons, List.map_nil, List.cons_append, List.nil_append, List.getElem?_cons_zero, List.getElem?_cons_succ, e1, iSeqK_l, List.length_cons, List.length_nil, Nat.zero_add, Nat.reduceAdd, Nat.reduceSub, List.reduceReplicate]
    rw [l1]
    rfl
  | false =>
    have l2 := l2 q
    simp only [List.map_cons, List.map_nil] at l2
    rw [fn_ap, start_ap]
    simp only [seq_ap, for_ap, iSeq_ap, call_ap, consA_ap, V_ap, nilA_ap, R.bind_ok, List.map_cons, List.map_nil, List.cons_append, List.nil_append, List.getElem?_cons_zero, List.getElem?_cons_succ, e1, iSeqK_l, List.length_cons, List.length_nil, Nat.zero_add, Nat.reduceAdd, Nat.reduceSub, List.reduceReplicate]
    rw [l2]
    rfl
end FD
end
section
set_option Elab.async false
set_option linter.all false
set_option maxRecDepth 100000
set_option maxHeartbeats 2000000
namespace FD
open PySem PySem.Spec PyProof.Rows L2 FM
/-! ### loops by a word -/
theorem for_inv {g : GF} {body : SF} {P : List D → Ro → Cells → Prop} (hstep : ∀ d ds ρ m, P (d :: ds) ρ m → ∃ ρ1, g (.val d) ρ = some ρ1 ∧ ∃ ρ2 m2, (body ρ1 m = .ok (.next ρ2) m2 ∨ body ρ1 m = .ok (.cont ρ2) m2) ∧ P ds (trimR m.length ρ2) (m2.take m.length)) :
    ∀ ds ρ m, P ds ρ m → ∃ ρ' m', forF g body ds ρ m = .ok (.next ρ') m' ∧ P [] ρ' m'
  | [], ρ, m, h => ⟨ρ, m, rfl, h⟩
  | d :: ds, ρ, m, h => by
    obtain ⟨ρ1, e1, ρ2, m2, e2, h2⟩ := hstep d ds ρ m h
    obtain ⟨ρ', m', e3, h3⟩ := for_inv hstep ds _ _ h2
    refine ⟨ρ', m', ?_, h3⟩
    rw [for_cons, e1]
    show forK g body ds m.length (body ρ1 m) = _
    rcases e2 with e2 | e2 <;> rw [e2]
    · exact e3
    · exact e3
theorem lc_map {α : Type} {g : GF} {elt : EF} {vs : List Nat} {ρ : Ro} {m : Cells} (f k : α → D) : ∀ (xs : List α), (∀ x, x ∈ xs → ∃ ρ1, g (.val (f x)) (wipeR ρ vs) = some ρ1 ∧ elt ρ1 m = .ok (.val (k x)) m) → ∀ acc, lcF g none elt vs (xs.map f) acc ρ m = .ok (acc ++ xs.map k) m
  | [], _, acc => by rw [List.map_nil, lcF, List.map_nil, List.append_nil]
  | x :: xs, h, acc => by
    obtain ⟨ρ1, e1, e2⟩ := h x (by simp)
    rw [List.map_cons, lcF, e1]
    show (match elt ρ1 (m.take m.length) with
        | .ok (.val x) m2 => lcF g none elt vs (xs.map f) (acc ++ [x]) ρ (m2.take m.length)
        | _ => .bad) = _
    rw [List.take_length, e2]
    show lcF g none elt vs (xs.map f) (acc ++ [k x]) ρ (m.take m.length) = _
    rw [List.take_length, lc_map f k xs (fun y hy => h y (by simp [hy])), List.map_cons, List.append_assoc]; rfl
theorem lc_filter {α : Type} {g : GF} {t : TF} {elt : EF} {vs : List Nat} {ρ : Ro} {m : Cells} (f k : α → D) (tb : α → Bool) : ∀ (xs : List α), (∀ x, x ∈ xs → ∃ ρ1, g (.val (f x)) (wipeR ρ vs) = some ρ1 ∧ t ρ1 m = .ok (tb x) m ∧ (tb x = true → elt ρ1 m = .ok (.val (k x)) m)) → ∀ acc, lcF g (some t) elt vs (xs.map f) acc ρ m = .ok (acc ++ (xs.filter tb).map k) m
  | [], _, acc => by rw [List.map_nil, lcF, List.filter_nil, List.map_nil, List.append_nil]
  | x :: xs, h, acc => by
    obtain ⟨ρ1, e1, e2, e3⟩ := h x (by simp)
    rw [List.map_cons, lcF, e1]
    show (match t ρ1 m with
      | .ok b m1 => if b = true then (match elt ρ1 (m1.take m.length) with
        | .ok (.val x) m2 => lcF g (some t) elt vs (xs.map f) (acc ++ [x]) ρ (m2.take m.length)
        | _ => .bad) else lcF g (some t) elt vs (xs.map f) acc ρ (m1.take m.length)
      | _ => .bad) = _
    rw [e2]
    have ih := lc_filter f k tb xs (fun y hy => h y (by simp [hy]))
    cases q : tb x with
    | true =>
      show (match elt ρ1 (m.take m.length) with
        | .ok (.val x) m2 => lcF g (some t) elt vs (xs.map f) (acc ++ [x]) ρ (m2.take m.length)
        | _ => .bad) = _
      rw [List.take_length, e3 q]
      show lcF g (some t) elt vs (xs.map f) (acc ++ [k x]) ρ (m.take m.length) = _
      rw [List.take_length, ih, List.filter_cons_of_pos q, List.map_cons, List.append_assoc]; rfl
    | false =>
      show lcF g (some t) elt vs (xs.map f) acc ρ (m.take m.length) = _
      rw [List.take_length, ih, List.filter_cons_of_neg (by rw [q]; exact Bool.false_ne_true)]
theorem eLc_map {α : Type} {it : IF} {g : GF} {elt : EF} {vs : List Nat} {ρ : Ro} {m m1 : Cells} (f k : α → D) (xs : List α) (hi : it ρ m = .ok (xs.map f) m1) (hl : xs.length < sizeLine) (h : ∀ x, x ∈ xs → ∃ ρ1, g (.val (f x)) (wipeR ρ vs) = some ρ1 ∧ elt ρ1 m1 = .ok (.val (k x)) m1) :
    eLc it g none elt vs ρ m = .ok (.val (.lst (xs.map k))) m1 := by
  unfold eLc
  rw [hi, R.bind_ok, if_pos (by rw [List.length_map]; exact hl), lc_map f k xs h, R.bind_ok]; rfl
theorem eLc_filter {α : Type} {it : IF} {g : GF} {t : TF} {elt : EF} {vs : List Nat} {ρ : Ro} {m m1 : Cells} (f k : α → D) (tb : α → Bool) (xs : List α) (hi : it ρ m = .ok (xs.map f) m1) (hl : xs.length < sizeLine) (h : ∀ x, x ∈ xs → ∃ ρ1, g (.val (f x)) (wipeR ρ vs) = some ρ1 ∧ t ρ1 m1 = .ok (tb x) m1 ∧ (tb x = true → elt ρ1 m1 = .ok (.val (k x)) m1)) :
    eLc it g (some t) elt vs ρ m = .ok (.val (.lst ((xs.filter tb).map k))) m1 := by
  unfold eLc
  rw [hi, R.bind_ok, if_pos (by rw [List.length_map]; exact hl), lc_filter f k tb xs h, R.bind_ok]; rfl
theorem atI_map {α : Type} (f : α → D) (xs : List α) (dflt : α) {i : Int} (h0 : 0 ≤ i) (h1 : i < xs.length) : atI (xs.map f) i = some (f (xs.getD i.toNat dflt)) := by
  obtain ⟨n, rfl⟩ := Int.eq_ofNat_of_zero_le h0
  have hn : n < xs.length := by omega
  refine atI_nat ?_
  rw [List.getElem?_map, List.getElem?_eq_getElem hn, Int.toNat_natCast]
  show some (f xs[n]) = some (f (xs.getD n dflt))
  rw [List.getD_eq_getElem?_getD, List.getElem?_eq_getElem hn]; rfl
local macro_rules
  | `(tactic| walk_at "ev") => `(tactic| simp only [fn_ap, start_ap, trunc_v, endR_r, endR_n, seq_ap, seqK_n, seqK_r, seqK_b, seqK_c, nil_ap, cont_ap, ret_ap, retN_ap, if_ap, eIf_ap, ifK_t, ifK_f, set_ap, expr_ap, asg_ap, asgK_ap, par_ap, par3_ap, aug_ap, V_ap, C_ap, e1_ap, e2_ap, and_ap, or_ap, andK_ap, orK_ap, not_ap, notK_ap, tB_ap, tBK_ap, tand_ap, tor_ap, tnot_ap,
      tup_ap, lst_ap, tupK_2, tupK_3, lstK_0, lstK_1, lstK_2, lstK_3, nilA_ap, consA_ap, call_ap, B_ap, fld_ap, chain_ap, for_ap, for_nil, for_cons, forK_n, forK_c, forK_r, iSeq_ap, iTup_ap, iSeqK_l, iTupK_t, trimR_nil, trimR_cons, trimO_v, trimO_n, meth_ap, fldD, clsOf, gN, gT, gU, gsCons, gsNil,
      add_ii, sub_ii, mul_ii, fdiv_ii, mod_ii, lt_ii, le_ii, gt_ii, ge_ii, neg_i, iadd_ii, isub_ii, ix_t, ix_l, is_non, int_i, int_b, abs_i, len_l, eqD_int, neD_int, eqD_bl, eqD_P, neD_P, D.isNone,
      R.bind_ok, R.bind_ex, R.bind_bad, List.map_cons, List.map_nil, List.length_cons, List.length_nil, List.cons_append, List.nil_append, List.append_nil, List.getElem?_cons_zero, List.getElem?_cons_succ, List.take_zero, List.take_nil, List.take_succ_cons, atI_0, atI_1, atI_2,
      List.reduceReplicate, Nat.reduceSub, List.replicate_zero, List.replicate_succ, Nat.sub_self, if_true, if_false, Bool.false_eq_true, Nat.le_refl, Nat.zero_le, reduceIte, Nat.zero_add, Nat.reduceAdd, Nat.reduceLeDiff, List.set_cons_zero, List.set_cons_succ, List.set_nil, Bool.not_true, Bool.not_false, decide_true, decide_false, Bool.true_and, Bool.false_and, Bool.and_true, Bool.and_false, Bool.true_or, Bool.false_or, *])

def NB (ps : List P2) : Prop := ∀ p, p ∈ ps → BP p
theorem nb_at {ps : List P2} (h : NB ps) (i : Int) : BP (pAt ps i) := by
  unfold pAt
  rw [List.getD_eq_getElem?_getD]
  cases q : ps[i.toNat]? with
  | none => exact ⟨by show (0 : Int).natAbs < 2 ^ 120; decide, by show (0 : Int).natAbs < 2 ^ 120; decide⟩
  | some p => exact h p (List.mem_of_getElem? q)
theorem at_p {ps : List P2} {i : Int} (h : 0 ≤ i ∧ i < ps.length) : atI (ps.map dP) i = some (dP (pAt ps i)) := atI_map dP ps (0, 0) h.1 h.2
abbrev fNet (ps : List P2) (ts : List T3) : List (Str × D) := [("pairs", .lst (ps.map dP)), ("own_triples", .lst (ts.map dT))]
theorem t_corners {ps : List P2} {ts : List T3} {t : T3} (ht : TOk ps.length t) : f_Net_corners_of [.val (dNet ps ts), .val (dT t)] [] = .ok (.val (.lst [dP (pAt ps t.1), dP (pAt ps t.2.1), dP (pAt ps t.2.2)])) [] := by
  have l1 : (fNet ps ts).lookup ("pairs" : Str) = some (.lst (ps.map dP)) := rfl
  have key : eLc (iTupD (eV 1)) (gN 2) none E1_Net_corners_of [2] [some (.val (dNet ps ts)), some (.val (dT t)), none] [] = .ok (.val (.lst ([t.1, t.2.1, t.2.2].map fun i => dP (pAt ps i)))) [] := by
    refine eLc_map (fun i => D.int i) _ [t.1, t.2.1, t.2.2] rfl (by show 3 < sizeLine; decide) fun i hi => ⟨[some (.val (dNet ps ts)), some (.val (dT t)), some (.val (.int i))], rfl, ?_⟩
    have hi2 : 0 ≤ i ∧ i < ps.length := by
      obtain ⟨h1, h2, h3, _⟩ := ht
      simp only [List.mem_cons, List.not_mem_nil, or_false] at hi
      rcases hi with rfl | rfl | rfl
      · exact h1
      · exact h2
      · exact h3
    have a := at_p hi2
    unfold E1_Net_corners_of
    walk_at "ev"
  unfold f_Net_corners_of F_Net_corners_of
  rw [fn_ap]
  show trunc 0 (endR ((eLc (iTupD (eV 1)) (gN 2) none E1_Net_corners_of [2] [some (.val (dNet ps ts)), some (.val (dT t)), none] []).bind _)) = _
  rw [key]
  rfl
theorem b2i_add (b : Bool) (x : Int) : (if b = true then x + 1 else x) = x + bti b := by cases b <;> simp [bti]
theorem counts_loop {h : Hf} (hh : HB h) {ps : List P2} (hn : NB ps) (all : List T3) {p : P2} (hp : BP p) : ∀ (ts : List T3), (∀ t, t ∈ ts → TOk ps.length t) → ∀ (A B : Int) (j5 j6 j7 j8 j9 : Option W),
    ∃ k5 k6 k7 k8 k9, forF (gN 5) L1_owner_counts (ts.map dT) [some (.val (dHalf h)), some (.val (dNet ps all)), some (.val (dP p)), some (.val (.int A)), some (.val (.int B)), j5, j6, j7, j8, j9] [] =
      .ok (.next [some (.val (dHalf h)), some (.val (dNet ps all)), some (.val (dP p)), some (.val (.int (A + (h.cnts ps ts p).1))), some (.val (.int (B + (h.cnts ps ts p).2))), k5, k6, k7, k8, k9]) []
  | [], _, A, B, j5, j6, j7, j8, j9 => ⟨j5, j6, j7, j8, j9, by simp only [Hf.cnts, sumF_nil, Int.add_zero]; rfl⟩
  | t :: ts, ht, A, B, j5, j6, j7, j8, j9 => by
    have ht0 := ht t (by simp)
    have ba := nb_at hn t.1
    have bb := nb_at hn t.2.1
    have bc := nb_at hn t.2.2
    have ih := counts_loop hh hn all hp ts (fun r hr => ht r (by simp [hr])) (A + (h.cntT ps p t).1) (B + (h.cntT ps p t).2) (some (.val (dT t))) (some (.val (dP (pAt ps t.1)))) (some (.val (dP (pAt ps t.2.1)))) (some (.val (dP (pAt ps t.2.2)))) (some (.val (.int (side (pAt ps t.1) (pAt ps t.2.1) (pAt ps t.2.2)))))
    have e0 : methK "Net" "corners_of" 2 f_Net_corners_of (aCons (eV 5) aNil) [some (.val (dHalf h)), some (.val (dNet ps all)), some (.val (dP p)), some (.val (.int A)), some (.val (.int B)), some (.val (dT t)), j6, j7, j8, j9] (.val (dNet ps all)) [] = .ok (.val (.lst [dP (pAt ps t.1), dP (pAt ps t.2.1), dP (pAt ps t.2.2)])) [] := methV rfl rfl rfl rfl rfl (t_corners ht0)
    have e1 : ∀ m, callK 3 f_side_of [.val (dP (pAt ps t.1)), .val (dP (pAt ps t.2.1)), .val (dP (pAt ps t.2.2))] m = .ok (.val (.int (side (pAt ps t.1) (pAt ps t.2.1) (pAt ps t.2.2)))) m := fun m => callV rfl rfl rfl (t_side ba bb bc)
    have e2 : ∀ m, callK 3 f_is_owned [.val (dHalf h), .val (.lst [dP (pAt ps t.1), dP (pAt ps t.2.1), dP (pAt ps t.2.2)]), .val (dP p)] m = .ok (.val (.bl (h.own3 (pAt ps t.1) (pAt ps t.2.1) (pAt ps t.2.2) p))) m := fun m => callV rfl rfl rfl (t_owned hh ba bb bc hp)
    have e3 : ∀ m, callK 3 f_is_owned [.val (dHalf h), .val (.lst [dP (pAt ps t.1), dP (pAt ps t.2.2), dP (pAt ps t.2.1)]), .val (dP p)] m = .ok (.val (.bl (h.own3 (pAt ps t.1) (pAt ps t.2.2) (pAt ps t.2.1) p))) m := fun m => callV rfl rfl rfl (t_owned hh ba bc bb hp)
    have body : L1_owner_counts [some (.val (dHalf h)), some (.val (dNet ps all)), some (.val (dP p)), some (.val (.int A)), some (.val (.int B)), some (.val (dT t)), j6, j7, j8, j9] [] =
        .ok (.next [some (.val (dHalf h)), some (.val (dNet ps all)), some (.val (dP p)), some (.val (.int (A + (h.cntT ps p t).1))), some (.val (.int (B + (h.cntT ps p t).2))), some (.val (dT t)), some (.val (dP (pAt ps t.1))), some (.val (dP (pAt ps t.2.1))), some (.val (dP (pAt ps t.2.2))), some (.val (.int (side (pAt ps t.1) (pAt ps t.2.1) (pAt ps t.2.2))))]) [] := by
      unfold L1_owner_counts Hf.cntT Hf.cnt
      rcases Int.lt_trichotomy (side (pAt ps t.1) (pAt ps t.2.1) (pAt ps t.2.2)) 0 with q | q | q
      · have q1 : ¬ 0 < side (pAt ps t.1) (pAt ps t.2.1) (pAt ps t.2.2) := by omega
        cases q2 : h.own3 (pAt ps t.1) (pAt ps t.2.2) (pAt ps t.2.1) p
        · rw [q2] at e3
          walk_at "ev"
          simp [bti]
        · rw [q2] at e3
          walk_at "ev"
          simp [bti]
      · have q1 : ¬ 0 < side (pAt ps t.1) (pAt ps t.2.1) (pAt ps t.2.2) := by omega
        have q3 : ¬ side (pAt ps t.1) (pAt ps t.2.1) (pAt ps t.2.2) < 0 := by omega
        clear q
        walk_at "ev"
        simp [bti]
      · have q1 : ¬ side (pAt ps t.1) (pAt ps t.2.1) (pAt ps t.2.2) < 0 := by omega
        cases q2 : h.own3 (pAt ps t.1) (pAt ps t.2.1) (pAt ps t.2.2) p
        · rw [q2] at e2
          walk_at "ev"
          simp [bti]
        · rw [q2] at e2
          walk_at "ev"
          simp [bti]
    obtain ⟨k5, k6, k7, k8, k9, ih⟩ := ih
    refine ⟨k5, k6, k7, k8, k9, ?_⟩
    rw [List.map_cons, for_cons]
    show forK _ _ _ _ (L1_owner_counts [some (.val (dHalf h)), some (.val (dNet ps all)), some (.val (dP p)), some (.val (.int A)), some (.val (.int B)), some (.val (dT t)), j6, j7, j8, j9] []) = _
    rw [body]
    refine Eq.trans (show _ = _ from ih) ?_
    simp only [Hf.cnts, sumF_cons, Int.add_assoc]
theorem t_counts {h : Hf} (hh : HB h) {ps : List P2} (hn : NB ps) {ts : List T3} (ht : ∀ t, t ∈ ts → TOk ps.length t) {p : P2} (hp : BP p) : f_owner_counts [.val (dHalf h), .val (dNet ps ts), .val (dP p)] [] = .ok (.val (dP (h.cnts ps ts p))) [] := by
  obtain ⟨k5, k6, k7, k8, k9, e⟩ := counts_loop hh hn ts hp ts ht 0 0 none none none none none
  have l2 : (fNet ps ts).lookup ("own_triples" : Str) = some (.lst (ts.map dT)) := rfl
  rw [Int.zero_add, Int.zero_add] at e
  unfold f_owner_counts F_owner_counts
  walk_at "ev"
end FD
end
section
set_option Elab.async false
set_option linter.all false
set_option maxRecDepth 100000
set_option maxHeartbeats 2000000
namespace FD
open PySem PySem.Spec PyProof.Rows L2 FM
local macro_rules
  | `(tactic| walk_at "ev") => `(tactic| simp only [fn_ap, start_ap, trunc_v, endR_r, endR_n, seq_ap, seqK_n, seqK_r, seqK_b, seqK_c, nil_ap, cont_ap, ret_ap, retN_ap, if_ap, eIf_ap, ifK_t, ifK_f, set_ap, expr_ap, asg_ap, asgK_ap, par_ap, par3_ap, aug_ap, V_ap, C_ap, e1_ap, e2_ap, and_ap, or_ap, andK_ap, orK_ap, not_ap, notK_ap, tB_ap, tBK_ap, tand_ap, tor_ap, tnot_ap,
      tup_ap, lst_ap, tupK_2, tupK_3, lstK_0, lstK_1, lstK_2, lstK_3, nilA_ap, consA_ap, call_ap, B_ap, fld_ap, chain_ap, for_ap, for_nil, for_cons, forK_n, forK_c, forK_r, iSeq_ap, iTup_ap, iSeqK_l, iTupK_t, trimR_nil, trimR_cons, trimO_v, trimO_n, meth_ap, fldD, clsOf, gN, gT, gU, gsCons, gsNil,
      add_ii, sub_ii, mul_ii, fdiv_ii, mod_ii, lt_ii, le_ii, gt_ii, ge_ii, neg_i, iadd_ii, isub_ii, ix_t, ix_l, is_non, int_i, int_b, abs_i, len_l, eqD_int, neD_int, eqD_bl, eqD_P, neD_P, D.isNone,
      R.bind_ok, R.bind_ex, R.bind_bad, List.map_cons, List.map_nil, List.length_cons, List.length_nil, List.cons_append, List.nil_append, List.append_nil, List.getElem?_cons_zero, List.getElem?_cons_succ, List.take_zero, List.take_nil, List.take_succ_cons, atI_0, atI_1, atI_2,
      List.reduceReplicate, Nat.reduceSub, List.replicate_zero, List.replicate_succ, Nat.sub_self, if_true, if_false, Bool.false_eq_true, Nat.le_refl, Nat.zero_le, reduceIte, Nat.zero_add, Nat.reduceAdd, Nat.reduceLeDiff, List.set_cons_zero, List.set_cons_succ, List.set_nil, Bool.not_true, Bool.not_false, decide_true, decide_false, Bool.true_and, Bool.false_and, Bool.and_true, Bool.and_false, Bool.true_or, Bool.false_or, *])

theorem t_shift (h : Hf) : f_shift_pairs [.val (dHalf h)] [] = .ok (.val (.tup [dP (-h.w.1, -h.w.2), dP (if h.ah then (-h.w.2, h.w.1) else (h.w.2, -h.w.1))])) [] := by
  have l1 : ([("own_way", dP h.w), ("own_ahead", D.bl h.ah)] : List (Str × D)).lookup ("own_way" : Str) = some (dP h.w) := rfl
  have l2 : ([("own_way", dP h.w), ("own_ahead", D.bl h.ah)] : List (Str × D)).lookup ("own_ahead" : Str) = some (D.bl h.ah) := rfl
  unfold f_shift_pairs F_shift_pairs
  cases q : h.ah with
  | true =>
    rw [q] at l1 l2
    walk_at "ev"
  | false =>
    rw [q] at l1 l2
    walk_at "ev"
theorem t_up (h : Hf) : f_is_upward [.val (dHalf h)] [] = .ok (.val (.bl h.up)) [] := by
  have e0 : ∀ m, callK 1 f_shift_pairs [.val (dHalf h)] m = .ok (.val (.tup [dP (-h.w.1, -h.w.2), dP (if h.ah then (-h.w.2, h.w.1) else (h.w.2, -h.w.1))])) m := fun m => callV rfl rfl rfl (t_shift h)
  unfold f_is_upward F_is_upward Hf.up
  by_cases q1 : 0 < -h.w.2
  · walk_at "ev"
  · by_cases q2 : -h.w.2 = 0
    · have q3 : ¬ (0 : Int) < 0 := by omega
      cases q : h.ah with
      | true =>
        rw [q] at e0
        walk_at "ev"
      | false =>
        rw [q] at e0
        walk_at "ev"
    · walk_at "ev"
theorem below_ev {h : Hf} {ρ : Ro} {m : Cells} {a p : P2} {i : Nat} (h1 : ρ[i]? = some (some (.val (dP a)))) (h2 : ρ[2]? = some (some (.val (dP p)))) (h3 : ρ[4]? = some (some (.val (.bl h.up)))) :
    eOr (e2 ltD (e2 ixD (eV i) (eC (.int 1))) (e2 ixD (eV 2) (eC (.int 1)))) (eAnd (e2 eqD (e2 ixD (eV i) (eC (.int 1))) (e2 ixD (eV 2) (eC (.int 1)))) (eV 4)) ρ m = .ok (.val (.bl (h.blw a p))) m := by
  unfold Hf.blw
  by_cases q1 : a.2 < p.2
  · walk_at "ev"
  · by_cases q2 : a.2 = p.2
    · have q3 : ¬ p.2 < p.2 := by omega
      walk_at "ev"
    · walk_at "ev"
theorem left_ev {h : Hf} (hh : HB h) {ρ : Ro} {m : Cells} {a b p : P2} (ha : BP a) (hb : BP b) (h0 : ρ[0]? = some (some (.val (dHalf h)))) (h5 : ρ[5]? = some (some (.val (dP a)))) (h6 : ρ[6]? = some (some (.val (dP b)))) (h9 : ρ[9]? = some (some (.val (.int (side a b p))))) :
    eOr (e2 gtD (eV 9) (eC (.int 0))) (eAnd (e2 eqD (eV 9) (eC (.int 0))) (eMeth "Half" "has" 2 f_Half_has (eV 0) (aCons (eCall 2 f_less (aCons (eV 6) (aCons (eV 5) aNil))) aNil))) ρ m = .ok (.val (.bl (h.lft a b p))) m := by
  have k1 : ∀ m, callK 2 f_less [.val (dP b), .val (dP a)] m = .ok (.val (dP (sub2 b a))) m := fun m => callV rfl rfl rfl (t_less b a)
  have k3 : ∀ (m : Cells) (t : AF), t ρ m = .ok [.val (dP (sub2 b a))] m → methK "Half" "has" 2 f_Half_has t ρ (.val (dHalf h)) m = .ok (.val (.bl (h.has (sub2 b a)))) m := fun m t ht => methV rfl ht rfl rfl rfl (t_has hh ⟨bd_sub hb.1 ha.1, bd_sub hb.2 ha.2⟩)
  unfold Hf.lft
  by_cases q1 : 0 < side a b p
  · walk_at "ev"
  · by_cases q2 : side a b p = 0
    · have q3 : ¬ (0 : Int) < 0 := by omega
      walk_at "ev"
    · walk_at "ev"
theorem turns_body {h : Hf} (hh : HB h) {a b p : P2} (ha : BP a) (hb : BP b) (hp : BP p) (pr : D) (n : Int) (j7 j8 j9 j10 : Option W) : ∃ k7 k8 k9 k10,
    L1_turns_of [some (.val (dHalf h)), some (.val pr), some (.val (dP p)), some (.val (.int n)), some (.val (.bl h.up)), some (.val (dP a)), some (.val (dP b)), j7, j8, j9, j10] [] =
      .ok (.next [some (.val (dHalf h)), some (.val pr), some (.val (dP p)), some (.val (.int (n + h.trn a b p))), some (.val (.bl h.up)), some (.val (dP a)), some (.val (dP b)), k7, k8, k9, k10]) [] ∨
    L1_turns_of [some (.val (dHalf h)), some (.val pr), some (.val (dP p)), some (.val (.int n)), some (.val (.bl h.up)), some (.val (dP a)), some (.val (dP b)), j7, j8, j9, j10] [] =
      .ok (.cont [some (.val (dHalf h)), some (.val pr), some (.val (dP p)), some (.val (.int (n + h.trn a b p))), some (.val (.bl h.up)), some (.val (dP a)), some (.val (dP b)), k7, k8, k9, k10]) [] := by
  have e1 : ∀ m, callK 3 f_side_of [.val (dP a), .val (dP b), .val (dP p)] m = .ok (.val (.int (side a b p))) m := fun m => callV rfl rfl rfl (t_side ha hb hp)
  unfold L1_turns_of
  rw [seq_ap, set_ap, below_ev (h := h) (a := a) (p := p) rfl rfl rfl, R.bind_ok, R.bind_ok, seqK_n, seq_ap, set_ap, below_ev (h := h) (a := b) (p := p) rfl rfl rfl, R.bind_ok, R.bind_ok, seqK_n]
  simp only [List.set_cons_succ, List.set_cons_zero]
  unfold Hf.trn
  by_cases q : h.blw a p = h.blw b p
  · refine ⟨some (.val (.bl (h.blw a p))), some (.val (.bl (h.blw b p))), j9, j10, .inr ?_⟩
    rw [q]
    have e : (h.blw b p == h.blw b p) = true := beq_self_eq_true _
    walk_at "ev"
    rw [Int.add_zero]
  · refine ⟨some (.val (.bl (h.blw a p))), some (.val (.bl (h.blw b p))), some (.val (.int (side a b p))), some (.val (.bl (h.lft a b p))), .inl ?_⟩
    have e : (h.blw a p == h.blw b p) = false := beq_eq_false_iff_ne.mpr q
    rw [if_neg q]
    have st1 : sIf (tB (e2 eqD (eV 7) (eV 8))) sCont sNil [some (.val (dHalf h)), some (.val pr), some (.val (dP p)), some (.val (.int n)), some (.val (.bl h.up)), some (.val (dP a)), some (.val (dP b)), some (.val (.bl (h.blw a p))), some (.val (.bl (h.blw b p))), j9, j10] [] = .ok (.next [some (.val (dHalf h)), some (.val pr), some (.val (dP p)), some (.val (.int n)), some (.val (.bl h.up)), some (.val (dP a)), some (.val (dP b)), some (.val (.bl (h.blw a p))), some (.val (.bl (h.blw b p))), j9, j10]) [] := by
      walk_at "ev"
    rw [seq_ap, st1, R.bind_ok, seqK_n, seq_ap, set_ap]
    have st2 : eCall 3 f_side_of (aCons (eV 5) (aCons (eV 6) (aCons (eV 2) aNil))) [some (.val (dHalf h)), some (.val pr), some (.val (dP p)), some (.val (.int n)), some (.val (.bl h.up)), some (.val (dP a)), some (.val (dP b)), some (.val (.bl (h.blw a p))), some (.val (.bl (h.blw b p))), j9, j10] [] = .ok (.val (.int (side a b p))) [] := by
      walk_at "ev"
    rw [st2, R.bind_ok, R.bind_ok, seqK_n, seq_ap, set_ap, left_ev hh (a := a) (b := b) (p := p) ha hb rfl rfl rfl rfl, R.bind_ok, R.bind_ok, seqK_n]
    simp only [List.set_cons_succ, List.set_cons_zero]
    clear st1 st2 e1
    cases q1 : h.blw a p <;> cases q2 : h.blw b p <;> cases q3 : h.lft a b p
    all_goals first
      | (exfalso; rw [q1, q2] at q; exact q rfl)
      | (walk_at "ev"; simp [bti]; done)
      | (walk_at "ev"; simp [bti]; omega)
theorem turns_loop {h : Hf} (hh : HB h) {p : P2} (hp : BP p) (pr : D) : ∀ (ws : List (P2 × P2)), (∀ q, q ∈ ws → BP q.1 ∧ BP q.2) → ∀ (n : Int) (j5 j6 j7 j8 j9 j10 : Option W), ∃ k5 k6 k7 k8 k9 k10,
    forF (gT 2 (gsCons (gN 5) (gsCons (gN 6) gsNil))) L1_turns_of (ws.map dWay) [some (.val (dHalf h)), some (.val pr), some (.val (dP p)), some (.val (.int n)), some (.val (.bl h.up)), j5, j6, j7, j8, j9, j10] [] =
      .ok (.next [some (.val (dHalf h)), some (.val pr), some (.val (dP p)), some (.val (.int (n + sumF (fun q => h.trn q.1 q.2 p) ws))), some (.val (.bl h.up)), k5, k6, k7, k8, k9, k10]) []
  | [], _, n, j5, j6, j7, j8, j9, j10 => ⟨j5, j6, j7, j8, j9, j10, by rw [sumF_nil, Int.add_zero]; rfl⟩
  | q :: ws, hb, n, j5, j6, j7, j8, j9, j10 => by
    obtain ⟨b1, b2⟩ := hb q (by simp)
    obtain ⟨k7, k8, k9, k10, e⟩ := turns_body hh b1 b2 hp pr n j7 j8 j9 j10
    obtain ⟨l5, l6, l7, l8, l9, l10, ih⟩ := turns_loop hh hp pr ws (fun r hr => hb r (by simp [hr])) (n + h.trn q.1 q.2 p) (some (.val (dP q.1))) (some (.val (dP q.2))) (trimO 0 k7) (trimO 0 k8) (trimO 0 k9) (trimO 0 k10)
    refine ⟨l5, l6, l7, l8, l9, l10, ?_⟩
    rw [List.map_cons, for_cons]
    show forK _ _ _ _ (L1_turns_of [some (.val (dHalf h)), some (.val pr), some (.val (dP p)), some (.val (.int n)), some (.val (.bl h.up)), some (.val (dP q.1)), some (.val (dP q.2)), j7, j8, j9, j10] []) = _
    rw [sumF_cons, ← Int.add_assoc]
    rcases e with e | e <;> rw [e] <;> exact ih
theorem t_turns_of {h : Hf} (hh : HB h) {p : P2} (hp : BP p) {ws : List (P2 × P2)} (hb : ∀ q, q ∈ ws → BP q.1 ∧ BP q.2) : f_turns_of [.val (dHalf h), .val (.lst (ws.map dWay)), .val (dP p)] [] = .ok (.val (.int (sumF (fun q => h.trn q.1 q.2 p) ws))) [] := by
  obtain ⟨k5, k6, k7, k8, k9, k10, e⟩ := turns_loop hh hp (.lst (ws.map dWay)) ws hb 0 none none none none none none
  rw [Int.zero_add] at e
  have e1 : ∀ m, callK 1 f_is_upward [.val (dHalf h)] m = .ok (.val (.bl h.up)) m := fun m => callV rfl rfl rfl (t_up h)
  unfold f_turns_of F_turns_of
  walk_at "ev"
end FD
end
section
set_option Elab.async false
set_option linter.all false
set_option maxRecDepth 100000
set_option maxHeartbeats 2000000
namespace FD
open PySem PySem.Spec PyProof.Rows L2 FM
/-! ### lists that are changed -/
theorem app_ok {m : Cells} {k : Nat} {xs : List D} {d : D} (hm : m[k]? = some (some (.lst xs))) (hl : xs.length < sizeLine) : appD (.ref k) [.val d] m = .ok (.val .non) (m.set k (some (.lst (xs ++ [d])))) := by
  show (match m[k]? with
    | some (some (.lst xs)) => if xs.length < sizeLine then R.ok (W.val D.non) (m.set k (some (.lst (xs ++ [d])))) else .bad
    | _ => .bad) = _
  rw [hm]
  exact if_pos hl
theorem ext_ok {m : Cells} {k : Nat} {xs ys : List D} (hm : m[k]? = some (some (.lst xs))) (hl : xs.length + ys.length ≤ sizeLine) : extD (.ref k) [.val (.lst ys)] m = .ok (.val .non) (m.set k (some (.lst (xs ++ ys)))) := by
  show (match m[k]? with
    | some (some (.lst xs)) => if xs.length + ys.length ≤ sizeLine then R.ok (W.val D.non) (m.set k (some (.lst (xs ++ ys)))) else .bad
    | _ => .bad) = _
  rw [hm]
  exact if_pos hl
theorem rem_ok {m : Cells} {k : Nat} {xs : List D} {d : D} {j : Nat} (hm : m[k]? = some (some (.lst xs))) (h1 : d.cmp = true) (h2 : (D.lst xs).cmp = true) (hj : ixOf d xs = some j) : remD (.ref k) [.val d] m = .ok (.val .non) (m.set k (some (.lst (xs.eraseIdx j)))) := by
  show (match m[k]? with
    | some (some (.lst xs)) => if d.cmp = true ∧ (D.lst xs).cmp = true then (match ixOf d xs with
      | some j => R.ok (W.val D.non) (m.set k (some (.lst (xs.eraseIdx j))))
      | none => .bad) else .bad
    | _ => .bad) = _
  rw [hm]
  show (if d.cmp = true ∧ (D.lst xs).cmp = true then (match ixOf d xs with
      | some j => R.ok (W.val D.non) (m.set k (some (.lst (xs.eraseIdx j))))
      | none => .bad) else .bad) = _
  rw [if_pos ⟨h1, h2⟩, hj]
theorem in_ok {m : Cells} {k : Nat} {xs : List D} {d : D} (hm : m[k]? = some (some (.lst xs))) (h1 : d.cmp = true) (h2 : (D.lst xs).cmp = true) : inD false (.val d) (.ref k) m = .ok (.val (.bl (hasD d xs))) m := by
  show (match m[k]? with
    | some (some (.lst xs)) => if d.cmp = true ∧ (D.lst xs).cmp = true then R.ok (W.val (D.bl (if false = true then !hasD d xs else hasD d xs))) m else .bad
    | _ => .bad) = _
  rw [hm]
  show (if d.cmp = true ∧ (D.lst xs).cmp = true then R.ok (W.val (D.bl (if false = true then !hasD d xs else hasD d xs))) m else .bad) = _
  rw [if_pos ⟨h1, h2⟩]; rfl
theorem bm_ok {h : MF} {fo : EF} {t : AF} {ρ : Ro} {m m1 : Cells} {k : Nat} {xs : List D} {ws : List W} (ho : fo ρ m = .ok (.ref k) m) (hm : m[k]? = some (some (.lst xs))) (ht : t ρ m = .ok ws m1) : eBM isL h fo t ρ m = h (.ref k) ws m1 := by
  unfold eBM
  rw [ho, R.bind_ok]
  have : isL (.ref k) m = true := by
    show (match m[k]? with
    | some (some (.lst _)) => true
    | _ => false) = true
    rw [hm]
  rw [if_pos this, ht, R.bind_ok]
theorem has_P (w : P2) (l : List P2) : hasD (dP w) (l.map dP) = decide (w ∈ l) := by
  unfold hasD
  induction l with
  | nil => rfl
  | cons v l ih =>
    rw [List.map_cons, List.any_cons, ih, eqv_P]
    by_cases q : v = w
    · subst q; simp
    · have : ¬ w = v := fun e => q e.symm
      simp [q, this]
theorem ix_P (w : P2) : ∀ (l : List P2), w ∈ l → ∃ j, ixOf (dP w) (l.map dP) = some j ∧ (l.map dP).eraseIdx j = (l.erase w).map dP
  | v :: l, h => by
    by_cases q : v = w
    · subst q
      refine ⟨0, ?_, by rw [List.erase_cons_head]; rfl⟩
      unfold ixOf
      rw [List.map_cons, List.findIdx?_cons, eqv_P, decide_eq_true rfl]; rfl
    · have hl : w ∈ l := by
        rcases List.mem_cons.mp h with e | e
        · exact absurd e.symm q
        · exact e
      obtain ⟨j, h1, h2⟩ := ix_P w l hl
      refine ⟨j + 1, ?_, ?_⟩
      · unfold ixOf at h1 ⊢
        rw [List.map_cons, List.findIdx?_cons, eqv_P, decide_eq_false q, h1]; rfl
      · rw [List.erase_cons_tail (by simpa using q), List.map_cons, List.map_cons, List.eraseIdx_cons_succ, h2]
theorem pyP_depth : ∀ l : List P2, PyData.depthAll (D.pyAll (l.map dP)) ≤ 1
  | [] => by simp [D.pyAll, PyData.depthAll]
  | w :: l => by
    have h1 := pyP_depth l
    have h2 : (dP w).py.depth ≤ 1 := by
      show PyData.depth (.tuple [.int w.1, .int w.2]) ≤ 1
      simp [PyData.depth, PyData.depthAll]
    rw [List.map_cons, D.pyAll]
    simp only [PyData.depthAll]
    omega
theorem pyP_lay : ∀ l : List P2, PyData.canLayAll0 (D.pyAll (l.map dP)) = true
  | [] => rfl
  | w :: l => by
    rw [List.map_cons, D.pyAll]
    simp only [PyData.canLayAll0, pyP_lay l, Bool.and_true]
    rfl
theorem plain_P : ∀ l : List P2, D.plainAll (l.map dP) = true
  | [] => rfl
  | w :: l => by
    rw [List.map_cons, D.plainAll, plain_P l]; rfl
theorem cmp_P (l : List P2) : (D.lst (l.map dP)).cmp = true := by
  unfold D.cmp
  rw [Bool.and_eq_true]
  refine ⟨plain_P l, ?_⟩
  show (PyData.canLay0 (.list (D.pyAll (l.map dP))) && decide (PyData.depth (.list (D.pyAll (l.map dP))) ≤ 64)) = true
  rw [Bool.and_eq_true]
  refine ⟨?_, decide_eq_true ?_⟩
  · simp only [PyData.canLay0]
    exact pyP_lay l
  · have := pyP_depth l
    simp only [PyData.depth]
    omega
local macro_rules
  | `(tactic| walk_at "ev") => `(tactic| simp only [fn_ap, start_ap, trunc_v, endR_r, endR_n, seq_ap, seqK_n, seqK_r, seqK_b, seqK_c, nil_ap, cont_ap, ret_ap, retN_ap, if_ap, eIf_ap, ifK_t, ifK_f, set_ap, expr_ap, asg_ap, asgK_ap, par_ap, par3_ap, aug_ap, V_ap, C_ap, e1_ap, e2_ap, and_ap, or_ap, andK_ap, orK_ap, not_ap, notK_ap, tB_ap, tBK_ap, tand_ap, tor_ap, tnot_ap,
      tup_ap, lst_ap, tupK_2, tupK_3, lstK_0, lstK_1, lstK_2, lstK_3, nilA_ap, consA_ap, call_ap, B_ap, fld_ap, chain_ap, for_ap, for_nil, for_cons, forK_n, forK_c, forK_r, iSeq_ap, iTup_ap, iSeqK_l, iTupK_t, trimR_nil, trimR_cons, trimO_v, trimO_n, meth_ap, fldD, clsOf, gN, gT, gU, gsCons, gsNil,
      add_ii, sub_ii, mul_ii, fdiv_ii, mod_ii, lt_ii, le_ii, gt_ii, ge_ii, neg_i, iadd_ii, isub_ii, ix_t, ix_l, is_non, int_i, int_b, abs_i, len_l, eqD_int, neD_int, eqD_bl, eqD_P, neD_P, D.isNone,
      R.bind_ok, R.bind_ex, R.bind_bad, List.map_cons, List.map_nil, List.length_cons, List.length_nil, List.cons_append, List.nil_append, List.append_nil, List.getElem?_cons_zero, List.getElem?_cons_succ, List.take_zero, List.take_nil, List.take_succ_cons, atI_0, atI_1, atI_2,
      List.reduceReplicate, Nat.reduceSub, List.replicate_zero, List.replicate_succ, Nat.sub_self, if_true, if_false, Bool.false_eq_true, Nat.le_refl, Nat.zero_le, reduceIte, Nat.zero_add, Nat.reduceAdd, Nat.reduceLeDiff, List.set_cons_zero, List.set_cons_succ, List.set_nil, Bool.not_true, Bool.not_false, decide_true, decide_false, Bool.true_and, Bool.false_and, Bool.and_true, Bool.and_false, Bool.true_or, Bool.false_or, *])

theorem allInt_map (ns : List Int) : allInt (ns.map D.int) = some ns := by
  induction ns with
  | nil => rfl
  | cons n ns ih => rw [List.map_cons, allInt, ih]; rfl
theorem sorted_ok (ns : List Int) (m : Cells) : sortedD [.val (.lst (ns.map D.int))] m = .ok (.val (.lst ((srt ns).map D.int))) m := by
  show (match allInt (ns.map D.int) with
    | some ns => R.ok (W.val (D.lst ((sortI ns).map D.int))) m
    | none => .bad) = _
  rw [allInt_map]; rfl
theorem asc_body {ways : List W2} (hl : ways.length < sizeLine) (f : Int) (acc : List W2) (j3 j4 j5 : Option W) (hz : acc.length + (ascRow ways f).length ≤ sizeLine) :
    L4_ascending [some (.val (.lst (ways.map dP))), some (.ref 0), some (.val (.int f)), j3, j4, j5] [some (.lst (acc.map dP))] = .ok (.next [some (.val (.lst (ways.map dP))), some (.ref 0), some (.val (.int f)), j3, j4, j5]) [some (.lst ((acc ++ ascRow ways f).map dP))] := by
  have c1 : eLc (iSeq (eV 0)) (gT 2 (gsCons (gN 4) (gsCons (gN 5) gsNil))) (some T1_ascending) E2_ascending [4, 5] [some (.val (.lst (ways.map dP))), some (.ref 0), some (.val (.int f)), j3, j4, j5] [some (.lst (acc.map dP))] =
      .ok (.val (.lst ((ways.filter fun w => decide (w.1 = f)).map fun w => D.int w.2))) [some (.lst (acc.map dP))] := by
    refine eLc_filter dP (fun w => D.int w.2) (fun w => decide (w.1 = f)) ways rfl hl fun w hw => ⟨[some (.val (.lst (ways.map dP))), some (.ref 0), some (.val (.int f)), j3, some (.val (.int w.1)), some (.val (.int w.2))], rfl, ?_, fun _ => ?_⟩
    · unfold T1_ascending
      walk_at "ev"
    · unfold E2_ascending
      walk_at "ev"
  have e0 : ((ways.filter fun w => decide (w.1 = f)).map fun w => D.int w.2) = (((ways.filter fun w => decide (w.1 = f)).map (·.2)).map D.int) := by rw [List.map_map]; rfl
  rw [e0] at c1
  have fl : (((ways.filter fun w => decide (w.1 = f)).map (·.2))).length < sizeLine := by
    rw [List.length_map]
    exact Nat.lt_of_le_of_lt (List.length_filter_le _ _) hl
  have c2 : eLc (iSeq (eB sortedD (aCons (eLc (iSeq (eV 0)) (gT 2 (gsCons (gN 4) (gsCons (gN 5) gsNil))) (some T1_ascending) E2_ascending [4, 5]) aNil))) (gN 3) none E3_ascending [3] [some (.val (.lst (ways.map dP))), some (.ref 0), some (.val (.int f)), j3, j4, j5] [some (.lst (acc.map dP))] =
      .ok (.val (.lst ((srt ((ways.filter fun w => decide (w.1 = f)).map (·.2))).map fun j => dP (f, j)))) [some (.lst (acc.map dP))] := by
    refine eLc_map (g := gN 3) (elt := E3_ascending) (vs := [3]) (ρ := [some (.val (.lst (ways.map dP))), some (.ref 0), some (.val (.int f)), j3, j4, j5]) D.int (fun j => dP (f, j)) (srt ((ways.filter fun w => decide (w.1 = f)).map (·.2))) ?_ (by rw [(srt_perm _).length_eq]; exact fl) fun j hj => ⟨[some (.val (.lst (ways.map dP))), some (.ref 0), some (.val (.int f)), some (.val (.int j)), j4, j5], rfl, ?_⟩
    · rw [iSeq_ap, B_ap, consA_ap, c1, R.bind_ok, nilA_ap, R.bind_ok, R.bind_ok, sorted_ok, R.bind_ok]; rfl
    · unfold E3_ascending
      walk_at "ev"
  have e3 : ((srt ((ways.filter fun w => decide (w.1 = f)).map (·.2))).map fun j => dP (f, j)) = (ascRow ways f).map dP := by unfold ascRow; rw [List.map_map]; rfl
  rw [e3] at c2
  unfold L4_ascending
  rw [expr_ap, bm_ok (k := 0) (xs := acc.map dP) (ws := [.val (.lst ((ascRow ways f).map dP))]) (m1 := [some (.lst (acc.map dP))]) rfl rfl (by rw [consA_ap, c2]; rfl), ext_ok (xs := acc.map dP) rfl (by rw [List.length_map, List.length_map]; exact hz), R.bind_ok, ← List.map_append]
  rfl
theorem asc_loop {ways : List W2} (hl : ways.length < sizeLine) : ∀ (fs : List Nat) (acc : List W2) (j2 j3 j4 j5 : Option W), acc.length + (((fs.map fun (i : Nat) => (i : Int)).flatMap (ascRow ways))).length ≤ sizeLine → ∃ k2 k3 k4 k5,
    forF (gN 2) L4_ascending (fs.map fun (i : Nat) => D.int (0 + i)) [some (.val (.lst (ways.map dP))), some (.ref 0), j2, j3, j4, j5] [some (.lst (acc.map dP))] =
      .ok (.next [some (.val (.lst (ways.map dP))), some (.ref 0), k2, k3, k4, k5]) [some (.lst ((acc ++ (fs.map fun (i : Nat) => (i : Int)).flatMap (ascRow ways)).map dP))]
  | [], acc, j2, j3, j4, j5, _ => ⟨j2, j3, j4, j5, by simp only [List.map_nil, List.flatMap_nil, List.append_nil]; rfl⟩
  | f :: fs, acc, j2, j3, j4, j5, hz => by
    rw [List.map_cons, List.flatMap_cons, List.length_append] at hz
    obtain ⟨k2, k3, k4, k5, ih⟩ := asc_loop hl fs (acc ++ ascRow ways f) (some (.val (.int f))) (trimO 1 j3) (trimO 1 j4) (trimO 1 j5) (by rw [List.length_append]; omega)
    refine ⟨k2, k3, k4, k5, ?_⟩
    rw [List.map_cons, for_cons, Int.zero_add]
    show forK _ _ _ _ (L4_ascending [some (.val (.lst (ways.map dP))), some (.ref 0), some (.val (.int f)), j3, j4, j5] [some (.lst (acc.map dP))]) = _
    rw [asc_body hl f acc j3 j4 j5 (by omega)]
    rw [List.map_cons, List.flatMap_cons, ← List.append_assoc]
    exact ih
theorem t_asc {ways : List W2} (hl : ways.length ≤ 1000) (hw : ∀ w, w ∈ ways → 0 ≤ w.1) : f_ascending [.val (.lst (ways.map dP))] [] = .ok (.val (.lst ((ascN ways 100).map dP))) [] := by
  have h1 : ways.length < sizeLine := by rw [sizeLine_eq]; omega
  have h2 : (ascN ways 100).length ≤ ways.length := by
    rw [(ascN_perm ways hw 100).length_eq]
    exact List.length_filter_le _ _
  obtain ⟨k2, k3, k4, k5, e⟩ := asc_loop h1 (List.range 100) [] none none none none (by
    show 0 + (ascN ways 100).length ≤ sizeLine
    omega)
  unfold f_ascending F_ascending
  rw [fn_ap]
  show trunc 0 (endR (((forF (gN 2) L4_ascending ((List.range 100).map fun (i : Nat) => D.int (0 + i)) [some (.val (.lst (ways.map dP))), some (.ref 0), none, none, none, none] [some (.lst [])]).bind (seqK (sFz 1 (sRet (eV 1))))))) = _
  have e' := e
  simp only [List.map_nil, List.nil_append] at e'
  rw [e']
  rfl
end FD
end
section
set_option Elab.async false
set_option linter.all false
set_option maxRecDepth 100000
set_option maxHeartbeats 2000000
namespace FD
open PySem PySem.Spec PyProof.Rows L2 FM
local macro_rules
  | `(tactic| walk_at "ev") => `(tactic| simp only [fn_ap, start_ap, trunc_v, endR_r, endR_n, seq_ap, seqK_n, seqK_r, seqK_b, seqK_c, nil_ap, cont_ap, ret_ap, retN_ap, if_ap, eIf_ap, ifK_t, ifK_f, set_ap, expr_ap, asg_ap, asgK_ap, par_ap, par3_ap, aug_ap, V_ap, C_ap, e1_ap, e2_ap, and_ap, or_ap, andK_ap, orK_ap, not_ap, notK_ap, tB_ap, tBK_ap, tand_ap, tor_ap, tnot_ap,
      tup_ap, lst_ap, tupK_2, tupK_3, lstK_0, lstK_1, lstK_2, lstK_3, nilA_ap, consA_ap, call_ap, B_ap, fld_ap, chain_ap, for_ap, for_nil, for_cons, forK_n, forK_c, forK_r, iSeq_ap, iTup_ap, iSeqK_l, iTupK_t, trimR_nil, trimR_cons, trimO_v, trimO_n, meth_ap, fldD, clsOf, gN, gT, gU, gsCons, gsNil,
      add_ii, sub_ii, mul_ii, fdiv_ii, mod_ii, lt_ii, le_ii, gt_ii, ge_ii, neg_i, iadd_ii, isub_ii, ix_t, ix_l, is_non, int_i, int_b, abs_i, len_l, eqD_int, neD_int, eqD_bl, eqD_P, neD_P, D.isNone,
      R.bind_ok, R.bind_ex, R.bind_bad, List.map_cons, List.map_nil, List.length_cons, List.length_nil, List.cons_append, List.nil_append, List.append_nil, List.getElem?_cons_zero, List.getElem?_cons_succ, List.take_zero, List.take_nil, List.take_succ_cons, atI_0, atI_1, atI_2,
      List.reduceReplicate, Nat.reduceSub, List.replicate_zero, List.replicate_succ, Nat.sub_self, if_true, if_false, Bool.false_eq_true, Nat.le_refl, Nat.zero_le, reduceIte, Nat.zero_add, Nat.reduceAdd, Nat.reduceLeDiff, List.set_cons_zero, List.set_cons_succ, List.set_nil, Bool.not_true, Bool.not_false, decide_true, decide_false, Bool.true_and, Bool.false_and, Bool.and_true, Bool.and_false, Bool.true_or, Bool.false_or, *])

theorem step_len (l : List W2) (w : W2) : (step l w).length ≤ l.length + 1 := by
  unfold FM.step
  split
  · exact Nat.le_succ_of_le (List.erase_sublist.length_le)
  · simp
theorem rim_body {l : List W2} (hl : l.length < sizeLine) (net : D) (i j k : Option W) (w : W2) (j6 : Option W) :
    L1_Net_rim [some (.val net), some (.ref 0), i, j, k, some (.val (dP w)), j6] [some (.lst (l.map dP))] = .ok (.next [some (.val net), some (.ref 0), i, j, k, some (.val (dP w)), some (.val (dP (rev w)))]) [some (.lst ((step l w).map dP))] := by
  have e1 : sSet 6 (eTup (aCons (e2 ixD (eV 5) (eC (.int 1))) (aCons (e2 ixD (eV 5) (eC (.int 0))) aNil))) [some (.val net), some (.ref 0), i, j, k, some (.val (dP w)), j6] [some (.lst (l.map dP))] = .ok (.next [some (.val net), some (.ref 0), i, j, k, some (.val (dP w)), some (.val (dP (rev w)))]) [some (.lst (l.map dP))] := by
    unfold rev
    walk_at "ev"
  have e2 : tB (e2 (inD false) (eV 6) (eV 1)) [some (.val net), some (.ref 0), i, j, k, some (.val (dP w)), some (.val (dP (rev w)))] [some (.lst (l.map dP))] = .ok (decide (rev w ∈ l)) [some (.lst (l.map dP))] := by
    have := in_ok (m := [some (.lst (l.map dP))]) (k := 0) (xs := l.map dP) (d := dP (rev w)) rfl rfl (cmp_P l)
    rw [has_P] at this
    walk_at "ev"
  unfold L1_Net_rim
  rw [seq_ap, e1, R.bind_ok, seqK_n, if_ap, e2, R.bind_ok]
  unfold FM.step
  by_cases q : rev w ∈ l
  · rw [decide_eq_true q, ifK_t, if_pos q]
    obtain ⟨n, h1, h2⟩ := ix_P (rev w) l q
    rw [expr_ap, bm_ok (k := 0) (xs := l.map dP) (ws := [.val (dP (rev w))]) (m1 := [some (.lst (l.map dP))]) rfl rfl rfl, rem_ok (xs := l.map dP) rfl rfl (cmp_P l) h1, R.bind_ok, h2]
    rfl
  · rw [decide_eq_false q, ifK_f, if_neg q]
    rw [expr_ap, bm_ok (k := 0) (xs := l.map dP) (ws := [.val (dP w)]) (m1 := [some (.lst (l.map dP))]) rfl rfl rfl, app_ok (xs := l.map dP) rfl (by rw [List.length_map]; exact hl), R.bind_ok, List.map_append]
    rfl
theorem rim_inner (net : D) (i j k : Int) : ∀ (ws : List W2) (l : List W2) (j5 j6 : Option W), l.length + ws.length < sizeLine → ∃ k5 k6,
    forF (gN 5) L1_Net_rim (ws.map dP) [some (.val net), some (.ref 0), some (.val (.int i)), some (.val (.int j)), some (.val (.int k)), j5, j6] [some (.lst (l.map dP))] =
      .ok (.next [some (.val net), some (.ref 0), some (.val (.int i)), some (.val (.int j)), some (.val (.int k)), k5, k6]) [some (.lst ((cancel l ws).map dP))]
  | [], l, j5, j6, _ => ⟨j5, j6, rfl⟩
  | w :: ws, l, j5, j6, hz => by
    rw [List.length_cons] at hz
    have hs := step_len l w
    obtain ⟨k5, k6, ih⟩ := rim_inner net i j k ws (step l w) (some (.val (dP w))) (some (.val (dP (rev w)))) (by omega)
    refine ⟨k5, k6, ?_⟩
    rw [List.map_cons, for_cons]
    show forK _ _ _ _ (L1_Net_rim [some (.val net), some (.ref 0), some (.val (.int i)), some (.val (.int j)), some (.val (.int k)), some (.val (dP w)), j6] [some (.lst (l.map dP))]) = _
    rw [rim_body (by omega)]
    exact ih
theorem rim_loop (net : D) : ∀ (ts : List T3) (l : List W2) (j2 j3 j4 j5 j6 : Option W), l.length + 3 * ts.length < sizeLine → ∃ k2 k3 k4 k5 k6,
    forF (gT 3 (gsCons (gN 2) (gsCons (gN 3) (gsCons (gN 4) gsNil)))) L2_Net_rim (ts.map dT) [some (.val net), some (.ref 0), j2, j3, j4, j5, j6] [some (.lst (l.map dP))] =
      .ok (.next [some (.val net), some (.ref 0), k2, k3, k4, k5, k6]) [some (.lst ((cancel l (ts.flatMap ways3)).map dP))]
  | [], l, j2, j3, j4, j5, j6, _ => ⟨j2, j3, j4, j5, j6, rfl⟩
  | t :: ts, l, j2, j3, j4, j5, j6, hz => by
    rw [List.length_cons] at hz
    have s1 := step_len l (t.1, t.2.1)
    have s2 := step_len (step l (t.1, t.2.1)) (t.2.1, t.2.2)
    have s3 := step_len (step (step l (t.1, t.2.1)) (t.2.1, t.2.2)) (t.2.2, t.1)
    obtain ⟨m5, m6, e⟩ := rim_inner net t.1 t.2.1 t.2.2 (ways3 t) l j5 j6 (by simp [ways3]; omega)
    obtain ⟨k2, k3, k4, k5, k6, ih⟩ := rim_loop net ts (cancel l (ways3 t)) (some (.val (.int t.1))) (some (.val (.int t.2.1))) (some (.val (.int t.2.2))) (trimO 1 m5) (trimO 1 m6) (by
      have : (cancel l (ways3 t)).length ≤ l.length + 3 := by simp only [cancel, ways3, List.foldl_cons, List.foldl_nil]; omega
      omega)
    refine ⟨k2, k3, k4, k5, k6, ?_⟩
    have e2 : L2_Net_rim [some (.val net), some (.ref 0), some (.val (.int t.1)), some (.val (.int t.2.1)), some (.val (.int t.2.2)), j5, j6] [some (.lst (l.map dP))] = .ok (.next [some (.val net), some (.ref 0), some (.val (.int t.1)), some (.val (.int t.2.1)), some (.val (.int t.2.2)), m5, m6]) [some (.lst ((cancel l (ways3 t)).map dP))] := by
      unfold L2_Net_rim
      rw [for_ap]
      have e3 : iTupD (eTup (aCons (eTup (aCons (eV 2) (aCons (eV 3) aNil))) (aCons (eTup (aCons (eV 3) (aCons (eV 4) aNil))) (aCons (eTup (aCons (eV 4) (aCons (eV 2) aNil))) aNil)))) [some (.val net), some (.ref 0), some (.val (.int t.1)), some (.val (.int t.2.1)), some (.val (.int t.2.2)), j5, j6] [some (.lst (l.map dP))] = .ok ((ways3 t).map dP) [some (.lst (l.map dP))] := rfl
      rw [e3, R.bind_ok]
      exact e
    rw [List.map_cons, for_cons]
    show forK _ _ _ _ (L2_Net_rim [some (.val net), some (.ref 0), some (.val (.int t.1)), some (.val (.int t.2.1)), some (.val (.int t.2.2)), j5, j6] [some (.lst (l.map dP))]) = _
    rw [e2, List.flatMap_cons]
    refine Eq.trans (show _ = _ from ih) ?_
    unfold cancel
    rw [List.foldl_append]
theorem cancel_len (ws : List W2) : ∀ l, (cancel l ws).length ≤ l.length + ws.length := by
  induction ws with
  | nil => intro l; exact Nat.le_refl _
  | cons w ws ih =>
    intro l
    have h1 := step_len l w
    have h2 := ih (step l w)
    unfold cancel at h2 ⊢
    rw [List.foldl_cons, List.length_cons]; omega
theorem rimU_len (ts : List T3) : (rimU ts).length ≤ 3 * ts.length := by
  have h := cancel_len (ts.flatMap ways3) []
  have : (ts.flatMap ways3).length = 3 * ts.length := by
    induction ts with
    | nil => rfl
    | cons t ts ih =>
      rw [List.flatMap_cons, List.length_append, ih (cancel_len _ _)]
      simp [ways3]; omega
  rw [List.length_nil] at h
  unfold rimU; omega
theorem t_rim {ps : List P2} {ts : List T3} (hl : ts.length ≤ 300) (ht : ∀ t, t ∈ ts → TOk ps.length t) : f_Net_rim [.val (dNet ps ts)] [] = .ok (.val (.lst ((rimL ts).map dP))) [] := by
  obtain ⟨k2, k3, k4, k5, k6, e⟩ := rim_loop (dNet ps ts) ts [] none none none none none (by rw [sizeLine_eq]; simp; omega)
  have hr := rimU_len ts
  have ea : ∀ m, callK 1 f_ascending [.val (.lst ((rimU ts).map dP))] m = .ok (.val (.lst ((rimL ts).map dP))) m := fun m => callV rfl rfl rfl (t_asc (by omega) fun w hw => (rimU_ok ht w hw).1.1)
  unfold f_Net_rim F_Net_rim
  rw [fn_ap]
  show trunc 0 (endR ((((forF (gT 3 (gsCons (gN 2) (gsCons (gN 3) (gsCons (gN 4) gsNil)))) L2_Net_rim (ts.map dT) [some (.val (dNet ps ts)), some (.ref 0), none, none, none, none, none] [some (.lst [])])).bind (seqK (sFz 1 (sRet (eCall 1 f_ascending (aCons (eV 1) aNil)))))))) = _
  have e' := e
  simp only [List.map_nil] at e'
  rw [e', R.bind_ok, seqK_n]
  show trunc 0 (endR (sRet (eCall 1 f_ascending (aCons (eV 1) aNil)) (fzR 0 (.lst ((rimU ts).map dP)) [some (.val (dNet ps ts)), some (.ref 0), k2, k3, k4, k5, k6]) [none])) = _
  rw [ret_ap, call_ap]
  show trunc 0 (endR ((callK 1 f_ascending [.val (.lst ((rimU ts).map dP))] [none]).bind _)) = _
  rw [ea]
  rfl
theorem t_rimways {ps : List P2} {ts : List T3} (hl : ts.length ≤ 300) (hn : ps.length ≤ 100) (ht : ∀ t, t ∈ ts → TOk ps.length t) : f_Net_rim_ways [.val (dNet ps ts)] [] = .ok (.val (.lst (((rimL ts).map fun w => (pAt ps w.1, pAt ps w.2)).map dWay))) [] := by
  have lp : (rimL ts).Perm (rimU ts) := rimL_perm (n := ps.length) (by omega) ht
  have hr := rimU_len ts
  have l1 : (fNet ps ts).lookup ("pairs" : Str) = some (.lst (ps.map dP)) := rfl
  have em : eMeth "Net" "rim" 1 f_Net_rim (eV 0) aNil [some (.val (dNet ps ts)), none, none] [] = .ok (.val (.lst ((rimL ts).map dP))) [] := by
    rw [meth_ap, V_ap]
    show (R.ok (W.val (dNet ps ts)) []).bind _ = _
    rw [R.bind_ok]
    exact methV rfl rfl rfl rfl rfl (t_rim hl ht)
  have key : eLc (iSeq (eMeth "Net" "rim" 1 f_Net_rim (eV 0) aNil)) (gT 2 (gsCons (gN 1) (gsCons (gN 2) gsNil))) none E1_Net_rim_ways [1, 2] [some (.val (dNet ps ts)), none, none] [] = .ok (.val (.lst ((rimL ts).map fun w => dWay (pAt ps w.1, pAt ps w.2)))) [] := by
    refine eLc_map (g := gT 2 (gsCons (gN 1) (gsCons (gN 2) gsNil))) (elt := E1_Net_rim_ways) (vs := [1, 2]) (ρ := [some (.val (dNet ps ts)), none, none]) dP (fun w => dWay (pAt ps w.1, pAt ps w.2)) (rimL ts) (by rw [iSeq_ap, em]; rfl) (by rw [lp.length_eq, sizeLine_eq]; omega) fun w hw => ⟨[some (.val (dNet ps ts)), some (.val (.int w.1)), some (.val (.int w.2))], rfl, ?_⟩
    have wk := rimU_ok ht w (lp.mem_iff.mp hw)
    have a1 := at_p (ps := ps) wk.1
    have a2 := at_p (ps := ps) wk.2.1
    unfold E1_Net_rim_ways
    walk_at "ev"
  unfold f_Net_rim_ways F_Net_rim_ways
  rw [fn_ap, ret_ap]
  show trunc 0 (endR ((eLc (iSeq (eMeth "Net" "rim" 1 f_Net_rim (eV 0) aNil)) (gT 2 (gsCons (gN 1) (gsCons (gN 2) gsNil))) none E1_Net_rim_ways [1, 2] [some (.val (dNet ps ts)), none, none] []).bind _)) = _
  rw [key, List.map_map]
  rfl
theorem rw_ok {ps : List P2} (hn : NB ps) (ts : List T3) : ∀ q, q ∈ (rimL ts).map (fun w => (pAt ps w.1, pAt ps w.2)) → BP q.1 ∧ BP q.2 := by
  intro q hq
  rw [List.mem_map] at hq
  obtain ⟨w, _, rfl⟩ := hq
  exact ⟨nb_at hn _, nb_at hn _⟩
/-- what a point's data are: a pair, or a Point -/
def PtD (d : D) (p : P2) : Prop := d = dP p ∨ d = dPoint p
theorem t_pairD {d : D} {p : P2} (h : PtD d p) : f_pair_of [.val d] [] = .ok (.val (dP p)) [] := by
  rcases h with rfl | rfl
  · exact t_pair p
  · exact t_pair_pt p
theorem t_rimturns {h : Hf} (hh : HB h) (hw : h.w ≠ (0, 0)) {ps : List P2} {ts : List T3} (hb : NB ps) (hl : ts.length ≤ 300) (hn : ps.length ≤ 100) (ht : ∀ t, t ∈ ts → TOk ps.length t) {d : D} {p : P2} (hd : PtD d p) (hp : BP p) : f_rim_turns [.val (dHalf h), .val (dNet ps ts), .val d] [] = .ok (.val (.int ((h.cnts ps ts p).1 - (h.cnts ps ts p).2))) [] := by
  have e1 : ∀ m, callK 1 f_pair_of [.val d] m = .ok (.val (dP p)) m := fun m => callV rfl rfl rfl (t_pairD hd)
  have e2 : methK "Net" "rim_ways" 1 f_Net_rim_ways aNil [some (.val (dHalf h)), some (.val (dNet ps ts)), some (.val d)] (.val (dNet ps ts)) [] = .ok (.val (.lst (((rimL ts).map fun w => (pAt ps w.1, pAt ps w.2)).map dWay))) [] := methV rfl rfl rfl rfl rfl (t_rimways hl hn ht)
  have e3 : ∀ m, callK 3 f_turns_of [.val (dHalf h), .val (.lst (((rimL ts).map fun w => (pAt ps w.1, pAt ps w.2)).map dWay)), .val (dP p)] m = .ok (.val (.int (sumF (fun q => h.trn q.1 q.2 p) ((rimL ts).map fun w => (pAt ps w.1, pAt ps w.2))))) m := fun m => callV rfl rfl rfl (t_turns_of hh hp (rw_ok hb ts))
  have es : sumF (fun q => h.trn q.1 q.2 p) ((rimL ts).map fun w => (pAt ps w.1, pAt ps w.2)) = (h.cnts ps ts p).1 - (h.cnts ps ts p).2 := by
    rw [sumF_map]
    exact rim_signed hw ps (n := ps.length) (by omega) ht p
  rw [es] at e3
  unfold f_rim_turns F_rim_turns
  clear es
  generalize ((rimL ts).map fun w => (pAt ps w.1, pAt ps w.2)).map dWay = ww at *
  walk_at "ev"
theorem t_counted {h : Hf} (hh : HB h) {ps : List P2} (hn : NB ps) {ts : List T3} (ht : ∀ t, t ∈ ts → TOk ps.length t) {d : D} {p : P2} (hd : PtD d p) (hp : BP p) : f_counted_owners [.val (dHalf h), .val (dNet ps ts), .val d] [] = .ok (.val (dP (h.cnts ps ts p))) [] := by
  have e1 : ∀ m, callK 1 f_pair_of [.val d] m = .ok (.val (dP p)) m := fun m => callV rfl rfl rfl (t_pairD hd)
  have e2 : ∀ m, callK 3 f_owner_counts [.val (dHalf h), .val (dNet ps ts), .val (dP p)] m = .ok (.val (dP (h.cnts ps ts p))) m := fun m => callV rfl rfl rfl (t_counts hh hn ht hp)
  unfold f_counted_owners F_counted_owners
  walk_at "ev"
theorem t_signed {h : Hf} (hh : HB h) {ps : List P2} (hn : NB ps) {ts : List T3} (ht : ∀ t, t ∈ ts → TOk ps.length t) {d : D} {p : P2} (hd : PtD d p) (hp : BP p) : f_signed [.val (dHalf h), .val (dNet ps ts), .val d] [] = .ok (.val (.int ((h.cnts ps ts p).1 - (h.cnts ps ts p).2))) [] := by
  have e1 : ∀ m, callK 1 f_pair_of [.val d] m = .ok (.val (dP p)) m := fun m => callV rfl rfl rfl (t_pairD hd)
  have e2 : ∀ m, callK 3 f_owner_counts [.val (dHalf h), .val (dNet ps ts), .val (dP p)] m = .ok (.val (dP (h.cnts ps ts p))) m := fun m => callV rfl rfl rfl (t_counts hh hn ht hp)
  unfold f_signed F_signed
  walk_at "ev"
end FD
end
section
set_option Elab.async false
set_option linter.all false
set_option maxRecDepth 100000
set_option maxHeartbeats 2000000
namespace FD
open PySem PySem.Spec PyProof.Rows L2 FM
local macro_rules
  | `(tactic| walk_at "ev") => `(tactic| simp only [fn_ap, start_ap, trunc_v, endR_r, endR_n, seq_ap, seqK_n, seqK_r, seqK_b, seqK_c, nil_ap, cont_ap, ret_ap, retN_ap, if_ap, eIf_ap, ifK_t, ifK_f, set_ap, expr_ap, asg_ap, asgK_ap, par_ap, par3_ap, aug_ap, V_ap, C_ap, e1_ap, e2_ap, and_ap, or_ap, andK_ap, orK_ap, not_ap, notK_ap, tB_ap, tBK_ap, tand_ap, tor_ap, tnot_ap,
      tup_ap, lst_ap, tupK_2, tupK_3, lstK_0, lstK_1, lstK_2, lstK_3, nilA_ap, consA_ap, call_ap, B_ap, fld_ap, chain_ap, for_ap, for_nil, for_cons, forK_n, forK_c, forK_r, iSeq_ap, iTup_ap, iSeqK_l, iTupK_t, trimR_nil, trimR_cons, trimO_v, trimO_n, meth_ap, fldD, clsOf, gN, gT, gU, gsCons, gsNil,
      add_ii, sub_ii, mul_ii, fdiv_ii, mod_ii, lt_ii, le_ii, gt_ii, ge_ii, neg_i, iadd_ii, isub_ii, ix_t, ix_l, is_non, int_i, int_b, abs_i, len_l, eqD_int, neD_int, eqD_bl, eqD_P, neD_P, D.isNone,
      R.bind_ok, R.bind_ex, R.bind_bad, List.map_cons, List.map_nil, List.length_cons, List.length_nil, List.cons_append, List.nil_append, List.append_nil, List.getElem?_cons_zero, List.getElem?_cons_succ, List.take_zero, List.take_nil, List.take_succ_cons, atI_0, atI_1, atI_2,
      List.reduceReplicate, Nat.reduceSub, List.replicate_zero, List.replicate_succ, Nat.sub_self, if_true, if_false, Bool.false_eq_true, Nat.le_refl, Nat.zero_le, reduceIte, Nat.zero_add, Nat.reduceAdd, Nat.reduceLeDiff, List.set_cons_zero, List.set_cons_succ, List.set_nil, Bool.not_true, Bool.not_false, decide_true, decide_false, Bool.true_and, Bool.false_and, Bool.and_true, Bool.and_false, Bool.true_or, Bool.false_or, *])

theorem fz_make {c : Str} {F : FN} {n : Nat} {t : AF} {ρ : Ro} {m m1 : Cells} {ws : List W} {fs : List (Str × D)} (ht : t ρ m = .ok ws m1) (hm : m.length ≤ m1.length) (hn : ws.length + 1 = n) (h2 : refsOf ws = []) (h3 : renum 1 ws = ws) (e : F (.ref 0 :: ws) [some (.ins c [])] = .ok (.val .non) [some (.ins c fs)]) :
    eFz (eMake c n F t) ρ m = .ok (.val (.ins c fs)) m1 := by
  have e1 : callF F (.ref m1.length :: ws) (m1 ++ [some (.ins c [])]) = .ok (.val .non) (m1 ++ [some (.ins c fs)]) := by
    have ga : (m1 ++ [some (M.ins c [])])[m1.length]? = some (some (.ins c [])) := by rw [List.getElem?_append_right (Nat.le_refl _), Nat.sub_self]; rfl
    have hr : refsOf (.ref m1.length :: ws) = [m1.length] := by rw [refsOf, h2]
    have hk : okRefs (m1 ++ [some (M.ins c [])]) [m1.length] = true := by
      rw [okRefs, okRefs, ga]; rfl
    have hp : pick (m1 ++ [some (M.ins c [])]) [m1.length] = [some (.ins c [])] := by
      unfold pick
      rw [List.map_cons, ga]; rfl
    have hs : (m1 ++ [some (M.ins c [])]).set m1.length (some (.ins c fs)) = m1 ++ [some (.ins c fs)] := by
      rw [List.set_append_right _ _ (Nat.le_refl _), Nat.sub_self]; rfl
    unfold callF
    rw [hr, if_pos hk, hp]
    have hre : renum 0 (.ref m1.length :: ws) = .ref 0 :: ws := by rw [renum, h3]
    rw [hre, e]
    show (if ([m1.length] : List Nat).length ≤ ([some (M.ins c fs)] : Cells).length then R.ok (W.val D.non) (back (m1 ++ [some (M.ins c [])]) [m1.length] [some (M.ins c fs)]) else R.bad) = _
    rw [if_pos (show ([m1.length] : List Nat).length ≤ ([some (M.ins c fs)] : Cells).length from Nat.le_refl 1)]
    show R.ok (W.val D.non) ((m1 ++ [some (M.ins c [])]).set m1.length (some (.ins c fs))) = _
    rw [hs]
  have e2 : eMake c n F t ρ m = .ok (.ref m1.length) (m1 ++ [some (.ins c fs)]) := by
    unfold eMake
    rw [ht, R.bind_ok, if_pos hn, e1]; rfl
  unfold eFz
  rw [e2, R.bind_ok]
  show (if m.length ≤ m1.length ∧ m1.length + 1 = (m1 ++ [some (M.ins c fs)]).length then (match (m1 ++ [some (M.ins c fs)])[m1.length]? with
    | some (some y) => R.ok (W.val y.toD) ((m1 ++ [some (M.ins c fs)]).take m1.length)
    | _ => .bad) else .bad) = _
  rw [if_pos ⟨hm, by rw [List.length_append]; rfl⟩, List.getElem?_append_right (Nat.le_refl _), Nat.sub_self]
  show R.ok (W.val (D.ins c fs)) ((m1 ++ [some (M.ins c fs)]).take m1.length) = _
  rw [List.take_left]
theorem fld_set {c0 f : Str} {fo fe : EF} {ρ : Ro} {m m1 m2 : Cells} {d : D} {k : Nat} {fs : List (Str × D)} (h1 : fe ρ m = .ok (.val d) m1) (h2 : fo ρ m1 = .ok (.ref k) m2) (h3 : m2[k]? = some (some (.ins c0 fs))) (h4 : fs.length < 1000) : sFldD c0 f fo fe ρ m = .ok (.next ρ) (m2.set k (some (.ins c0 (putD f d fs)))) := by
  unfold sFldD
  rw [h1, R.bind_ok]
  show ((fo ρ m1).bind fun o m2 => _) = _
  rw [h2, R.bind_ok]
  show (match m2[k]? with
      | some (some (.ins c fs)) => if c = c0 ∧ fs.length < 1000 then R.ok (Fl.next ρ) (m2.set k (some (.ins c (putD f d fs)))) else .bad
      | _ => .bad) = _
  rw [h3]
  show (if c0 = c0 ∧ fs.length < 1000 then R.ok (Fl.next ρ) (m2.set k (some (.ins c0 (putD f d fs)))) else .bad) = _
  rw [if_pos ⟨rfl, h4⟩]
/-! ### a Point -/
theorem t_Point (p : P2) : f_Point_init [.ref 0, .val (.int p.1), .val (.int p.2)] [some (.ins "Point" [])] = .ok (.val .non) [some (.ins "Point" [("x", .int p.1), ("y", .int p.2)])] := by
  have e1 : ∀ i m, callK 1 f_is_integer [.val (.int i)] m = .ok (.val (.bl true)) m := fun i m => callV rfl rfl rfl (t_isint i)
  have k : sIf (tOrD (tNotD (tB (eCall 1 f_is_integer (aCons (eV 1) aNil)))) (tNotD (tB (eCall 1 f_is_integer (aCons (eV 2) aNil))))) sNever sNil [some (.ref 0), some (.val (.int p.1)), some (.val (.int p.2))] [some (.ins "Point" [])] = .ok (.next [some (.ref 0), some (.val (.int p.1)), some (.val (.int p.2))]) [some (.ins "Point" [])] := by
    walk_at "ev"
  unfold f_Point_init F_Point_init
  rw [fn_ap]
  show trunc 1 (endR (sSeq _ _ [some (.ref 0), some (.val (.int p.1)), some (.val (.int p.2))] [some (.ins "Point" [])])) = _
  rw [seq_ap, k]
  rfl
/-! ### a Half -/
theorem wh_gcd : ∀ (n a b : Nat), b < n → whF T2_common_divisor L1_common_divisor n [some (.val (.int (a : Nat))), some (.val (.int (b : Nat)))] [] = .ok (.next [some (.val (.int (Nat.gcd a b : Nat))), some (.val (.int 0))]) []
  | 0, a, b, h => by omega
  | n + 1, a, b, h => by
    rw [whF]
    by_cases q : b = 0
    · subst q
      have e : T2_common_divisor [some (.val (.int (a : Nat))), some (.val (.int ((0 : Nat) : Int)))] [] = .ok false [] := by
        unfold T2_common_divisor
        have : ¬ (0 : Int) < ((0 : Nat) : Int) := by omega
        walk_at "ev"
      rw [e, Nat.gcd_zero_right]
      rfl
    · have hb : 0 < b := Nat.pos_of_ne_zero q
      have e : T2_common_divisor [some (.val (.int (a : Nat))), some (.val (.int (b : Nat)))] [] = .ok true [] := by
        unfold T2_common_divisor
        have : (0 : Int) < (b : Int) := by omega
        walk_at "ev"
      have e2 : L1_common_divisor [some (.val (.int (a : Nat))), some (.val (.int (b : Nat)))] [] = .ok (.next [some (.val (.int (b : Nat))), some (.val (.int ((a % b : Nat) : Int)))]) [] := by
        unfold L1_common_divisor
        have h0 : (0 : Int) < (b : Int) := by omega
        have h1 : ((a % b : Nat) : Int) = (a : Int) % (b : Int) := by omega
        rw [h1]
        walk_at "ev"
      rw [e]
      show (match L1_common_divisor [some (.val (.int (a : Nat))), some (.val (.int (b : Nat)))] [] with
      | R.bad => R.bad
      | R.ex x m2 => R.ex x m2
      | R.ok fl m2 => (match fl with
        | .next ρ2 => whF T2_common_divisor L1_common_divisor n (trimR 0 ρ2) (m2.take 0)
        | .cont ρ2 => whF T2_common_divisor L1_common_divisor n (trimR 0 ρ2) (m2.take 0)
        | .brk ρ2 => R.ok (Fl.next ρ2) m2
        | .ret w => R.ok (Fl.ret w) m2)) = _
      rw [e2]
      have := wh_gcd n b (a % b) (by have := Nat.mod_lt a hb; omega)
      rw [Nat.gcd_comm b, ← Nat.gcd_rec, Nat.gcd_comm b] at this
      exact this
def gcdW (w : P2) : Nat := Nat.gcd w.1.natAbs w.2.natAbs
def lowW (w : P2) : P2 := (w.1 / (gcdW w : Int), w.2 / (gcdW w : Int))
theorem t_gcd {w : P2} (h : w.2.natAbs < 1000) : f_common_divisor [.val (.int w.1), .val (.int w.2)] [] = .ok (.val (.int (gcdW w : Nat))) [] := by
  have k := wh_gcd 1000 w.1.natAbs w.2.natAbs h
  have a1 : (if w.1 < 0 then -w.1 else w.1) = (w.1.natAbs : Int) := by split <;> omega
  have a2 : (if w.2 < 0 then -w.2 else w.2) = (w.2.natAbs : Int) := by split <;> omega
  have e : sPar 0 1 (aCons (eB absD (aCons (eV 0) aNil)) (aCons (eB absD (aCons (eV 1) aNil)) aNil)) [some (.val (.int w.1)), some (.val (.int w.2))] [] = .ok (.next [some (.val (.int (w.1.natAbs : Nat))), some (.val (.int (w.2.natAbs : Nat)))]) [] := by
    rw [← a1, ← a2]
    walk_at "ev"
  unfold f_common_divisor F_common_divisor
  rw [fn_ap]
  show trunc 0 (endR (sSeq _ _ [some (.val (.int w.1)), some (.val (.int w.2))] [])) = _
  rw [seq_ap, e, R.bind_ok, seqK_n, seq_ap]
  show trunc 0 (endR ((whF T2_common_divisor L1_common_divisor 1000 [some (.val (.int (w.1.natAbs : Nat))), some (.val (.int (w.2.natAbs : Nat)))] []).bind _)) = _
  rw [k]
  rfl
theorem gcdW_pos {w : P2} (h : w ≠ (0, 0)) : 0 < gcdW w := by
  unfold gcdW
  rcases Nat.eq_zero_or_pos (Nat.gcd w.1.natAbs w.2.natAbs) with e | e
  · exfalso
    have h1 := Nat.eq_zero_of_gcd_eq_zero_left e
    have h2 := Nat.eq_zero_of_gcd_eq_zero_right e
    exact h (Prod.ext (by show w.1 = 0; omega) (by show w.2 = 0; omega))
  · exact e
theorem low_ne {w : P2} (h : w ≠ (0, 0)) : lowW w ≠ (0, 0) := by
  have g := gcdW_pos h
  have d1 : (gcdW w : Int) ∣ w.1 := Int.ofNat_dvd_left.mpr (Nat.gcd_dvd_left _ _)
  have d2 : (gcdW w : Int) ∣ w.2 := Int.ofNat_dvd_left.mpr (Nat.gcd_dvd_right _ _)
  intro e
  have e1 : w.1 / (gcdW w : Int) = 0 := congrArg Prod.fst e
  have e2 : w.2 / (gcdW w : Int) = 0 := congrArg Prod.snd e
  have f1 := Int.ediv_mul_cancel d1
  have f2 := Int.ediv_mul_cancel d2
  rw [e1, Int.zero_mul] at f1
  rw [e2, Int.zero_mul] at f2
  exact h (Prod.ext f1.symm f2.symm)
theorem low_bd {w : P2} (h1 : w.1.natAbs < 1000) (h2 : w.2.natAbs < 1000) : HB ⟨lowW w, true⟩ := by
  have l : ∀ x : Int, (x / (gcdW w : Int)).natAbs ≤ x.natAbs := fun x => Int.natAbs_ediv_le_natAbs _ _
  have := l w.1
  have := l w.2
  have : (1000 : Nat) ≤ 2 ^ 240 := by decide
  exact ⟨by show (w.1 / (gcdW w : Int)).natAbs < _; omega, by show (w.2 / (gcdW w : Int)).natAbs < _; omega⟩
theorem t_low {w : P2} (h0 : w ≠ (0, 0)) (h1 : w.1.natAbs < 1000) (h2 : w.2.natAbs < 1000) : f_lowest_pair [.val (dP w)] [] = .ok (.val (dP (lowW w))) [] := by
  have g := gcdW_pos h0
  have e1 : ∀ m, callK 2 f_common_divisor [.val (.int w.1), .val (.int w.2)] m = .ok (.val (.int (gcdW w : Nat))) m := fun m => callV rfl rfl rfl (t_gcd h2)
  have gl : gcdW w < 1000 := by
    have : gcdW w ≤ 999 := by
      by_cases q : w.1 = 0
      · have : w.2.natAbs ≠ 0 := fun z => h0 (Prod.ext q (by show w.2 = 0; omega))
        have := Nat.le_of_dvd (by omega) (Nat.gcd_dvd_right w.1.natAbs w.2.natAbs)
        unfold gcdW; omega
      · have := Nat.le_of_dvd (by omega) (Nat.gcd_dvd_left w.1.natAbs w.2.natAbs)
        unfold gcdW; omega
    omega
  have d : divOk (gcdW w : Int) = true := by
    unfold divOk
    rw [Bool.and_eq_true]
    refine ⟨decide_eq_true (by omega), decide_eq_true ?_⟩
    rw [Int.natAbs_natCast]
    have : (gcdW w).log2 ≤ gcdW w := Nat.log2_le_self _
    omega
  unfold f_lowest_pair F_lowest_pair lowW
  walk_at "ev"
theorem t_wayin {w : P2} (h0 : w ≠ (0, 0)) (h1 : w.1.natAbs < 1000) (h2 : w.2.natAbs < 1000) : f_way_in [.val (dP w)] [] = .ok (.val (dP (lowW w))) [] := by
  have e1 : ∀ m, callK 1 f_numbers_of [.val (dP w)] m = .ok (.val (dP w)) m := fun m => callV rfl rfl rfl (t_numbers w)
  have e2 : ∀ m, callK 1 f_lowest_pair [.val (dP w)] m = .ok (.val (dP (lowW w))) m := fun m => callV rfl rfl rfl (t_low h0 h1 h2)
  have e3 : ∀ m, eqD (.val (dP w)) (.val (.tup [.int 0, .int 0])) m = .ok (.val (.bl false)) m := fun m => by
    have := eqD_P w (0, 0) m
    rw [decide_eq_false h0] at this
    exact this
  unfold f_way_in F_way_in
  walk_at "ev"
theorem t_ahead (b : Bool) : f_check_ahead [.val (.bl b)] [] = .ok (.val .non) [] := rfl
theorem t_Half {w : P2} (ah : Bool) (h0 : w ≠ (0, 0)) (h1 : w.1.natAbs < 1000) (h2 : w.2.natAbs < 1000) : f_Half_init [.ref 0, .val (dP w), .val (.bl ah)] [some (.ins "Half" [])] = .ok (.val .non) [some (.ins "Half" [("own_way", dP (lowW w)), ("own_ahead", .bl ah)])] := by
  have e1 : ∀ m, callK 1 f_way_in [.val (dP w)] m = .ok (.val (dP (lowW w))) m := fun m => callV rfl rfl rfl (t_wayin h0 h1 h2)
  have e2 : ∀ m, callK 1 f_check_ahead [.val (.bl ah)] m = .ok (.val .non) m := fun m => callV rfl rfl rfl (t_ahead ah)
  unfold f_Half_init F_Half_init
  rw [fn_ap]
  show trunc 1 (endR (sSeq _ _ [some (.ref 0), some (.val (dP w)), some (.val (.bl ah)), none] [some (.ins "Half" [])])) = _
  rw [seq_ap, set_ap, call_ap]
  show trunc 1 (endR ((((callK 1 f_way_in [.val (dP w)] [some (.ins "Half" [])]).bind _)).bind _)) = _
  rw [e1, R.bind_ok, R.bind_ok, seqK_n, seq_ap, expr_ap, call_ap]
  show trunc 1 (endR ((((callK 1 f_check_ahead [.val (.bl ah)] [some (.ins "Half" [])]).bind _)).bind _)) = _
  rw [e2]
  rfl
end FD
end
section
set_option Elab.async false
set_option linter.all false
set_option maxRecDepth 100000
set_option maxHeartbeats 2000000
namespace FD
open PySem PySem.Spec PyProof.Rows L2 FM
local macro_rules
  | `(tactic| walk_at "ev") => `(tactic| simp only [fn_ap, start_ap, trunc_v, endR_r, endR_n, seq_ap, seqK_n, seqK_r, seqK_b, seqK_c, nil_ap, cont_ap, ret_ap, retN_ap, if_ap, eIf_ap, ifK_t, ifK_f, set_ap, expr_ap, asg_ap, asgK_ap, par_ap, par3_ap, aug_ap, V_ap, C_ap, e1_ap, e2_ap, and_ap, or_ap, andK_ap, orK_ap, not_ap, notK_ap, tB_ap, tBK_ap, tand_ap, tor_ap, tnot_ap,
      tup_ap, lst_ap, tupK_2, tupK_3, lstK_0, lstK_1, lstK_2, lstK_3, nilA_ap, consA_ap, call_ap, B_ap, fld_ap, chain_ap, for_ap, for_nil, for_cons, forK_n, forK_c, forK_r, iSeq_ap, iTup_ap, iSeqK_l, iTupK_t, trimR_nil, trimR_cons, trimO_v, trimO_n, meth_ap, fldD, clsOf, gN, gT, gU, gsCons, gsNil,
      add_ii, sub_ii, mul_ii, fdiv_ii, mod_ii, lt_ii, le_ii, gt_ii, ge_ii, neg_i, iadd_ii, isub_ii, ix_t, ix_l, is_non, int_i, int_b, abs_i, len_l, eqD_int, neD_int, eqD_bl, eqD_P, neD_P, D.isNone,
      R.bind_ok, R.bind_ex, R.bind_bad, List.map_cons, List.map_nil, List.length_cons, List.length_nil, List.cons_append, List.nil_append, List.append_nil, List.getElem?_cons_zero, List.getElem?_cons_succ, List.take_zero, List.take_nil, List.take_succ_cons, atI_0, atI_1, atI_2,
      List.reduceReplicate, Nat.reduceSub, List.replicate_zero, List.replicate_succ, Nat.sub_self, if_true, if_false, Bool.false_eq_true, Nat.le_refl, Nat.zero_le, reduceIte, Nat.zero_add, Nat.reduceAdd, Nat.reduceLeDiff, List.set_cons_zero, List.set_cons_succ, List.set_nil, Bool.not_true, Bool.not_false, decide_true, decide_false, Bool.true_and, Bool.false_and, Bool.and_true, Bool.and_false, Bool.true_or, Bool.false_or, *])

theorem enum_mem {ds : List D} {d : D} (h : d ∈ enumD ds) : ∃ (i : Nat) (x : D), x ∈ ds ∧ d = .tup [.int (i : Nat), x] := by
  unfold enumD at h
  rw [List.mem_map] at h
  obtain ⟨z, hz, rfl⟩ := h
  exact ⟨z.2, z.1, by
    obtain ⟨_, _, h3⟩ := List.mem_zipIdx hz
    rw [h3]
    exact List.getElem_mem _, rfl⟩
theorem iEnum_ap (t : AF) (ρ : Ro) (m : Cells) : iEnumD t ρ m = (t ρ m).bind fun ws m1 => match ws with
  | [.val (.lst ds)] => .ok (enumD ds) m1
  | [.val (.scr ds)] => .ok (enumD ds) m1
  | _ => .bad := rfl
theorem points_loop (pr : D) : ∀ (ds : List D), (∀ d, d ∈ ds → ∃ (i : Nat) (p : P2), d = .tup [.int (i : Nat), dP p]) → ∀ (j1 j2 : Option W), ∃ k1 k2, forF (gT 2 (gsCons (gN 1) (gsCons (gN 2) gsNil))) L1_check_points ds [some (.val pr), j1, j2] [] = .ok (.next [some (.val pr), k1, k2]) []
  | [], _, j1, j2 => ⟨j1, j2, rfl⟩
  | d :: ds, h, j1, j2 => by
    obtain ⟨i, p, rfl⟩ := h d (by simp)
    obtain ⟨k1, k2, ih⟩ := points_loop pr ds (fun r hr => h r (by simp [hr])) (some (.val (.int (i : Nat)))) (some (.val (dP p)))
    refine ⟨k1, k2, ?_⟩
    have e1 : ∀ m, callK 1 f_numbers_of [.val (dP p)] m = .ok (.val (dP p)) m := fun m => callV rfl rfl rfl (t_numbers p)
    have e : L1_check_points [some (.val pr), some (.val (.int (i : Nat))), some (.val (dP p))] [] = .ok (.next [some (.val pr), some (.val (.int (i : Nat))), some (.val (dP p))]) [] := by
      unfold L1_check_points
      walk_at "ev"
    rw [for_cons]
    show forK _ _ _ _ (L1_check_points [some (.val pr), some (.val (.int (i : Nat))), some (.val (dP p))] []) = _
    rw [e]
    exact ih
theorem is_list (d : List D) (m : Cells) : isD tab_list (.val (.lst d)) m = .ok (.val (.bl true)) m := rfl
theorem is_tuple (d : List D) (m : Cells) : isD tab_tuple (.val (.tup d)) m = .ok (.val (.bl true)) m := rfl
theorem t_chkpts {ps : List P2} (hl : ps.length ≤ 100) : f_check_points [.val (.lst (ps.map dP))] [] = .ok (.val .non) [] := by
  obtain ⟨k1, k2, e⟩ := points_loop (.lst (ps.map dP)) (enumD (ps.map dP)) (fun d hd => by
    obtain ⟨i, x, hx, rfl⟩ := enum_mem hd
    rw [List.mem_map] at hx
    obtain ⟨p, _, rfl⟩ := hx
    exact ⟨i, p, rfl⟩) none none
  have h1 : ¬ (100 : Int) < ((ps.map dP).length : Nat) := by rw [List.length_map]; omega
  have c : cst_MOST_POINTS = .int 100 := rfl
  have i0 := is_list (ps.map dP)
  unfold f_check_points F_check_points
  generalize ps.map dP = dd at *
  have g : sIf (tOrD (tNotD (tB (e1 (isD tab_list) (eV 0)))) (tB (e2 gtD (eB lenD (aCons (eV 0) aNil)) (eC cst_MOST_POINTS)))) sNever sNil [some (.val (.lst dd)), none, none] [] = .ok (.next [some (.val (.lst dd)), none, none]) [] := by
    walk_at "ev"
  rw [fn_ap]
  show trunc 0 (endR (sSeq _ _ [some (.val (.lst dd)), none, none] [])) = _
  rw [seq_ap, g, R.bind_ok, seqK_n, for_ap]
  show trunc 0 (endR (forF _ _ (enumD dd) [some (.val (.lst dd)), none, none] [])) = _
  rw [e]
  rfl
theorem allBl_map {α : Type} (f : α → Bool) (xs : List α) : allBl (xs.map fun x => D.bl (f x)) = some (xs.map f) := by
  induction xs with
  | nil => rfl
  | cons n ns ih => rw [List.map_cons, allBl, ih]; rfl
theorem all_ok {α : Type} (f : α → Bool) (xs : List α) (m : Cells) : allD [.val (.lst (xs.map fun x => D.bl (f x)))] m = .ok (.val (.bl (xs.all f))) m := by
  show (match allBl (xs.map fun x => D.bl (f x)) with
    | some ns => R.ok (W.val (D.bl (ns.all id))) m
    | none => .bad) = _
  rw [allBl_map]
  simp [List.all_map]
theorem t_triple {t : T3} {n : Int} (h : TOk n t) : f_is_triple [.val (dT t), .val (.int n)] [] = .ok (.val (.bl true)) [] := by
  obtain ⟨h1, h2, h3, h4, h5, h6⟩ := h
  have key : eLc (iTupD (eV 0)) (gN 2) none E1_is_triple [2] [some (.val (dT t)), some (.val (.int n)), none] [] = .ok (.val (.lst ([t.1, t.2.1, t.2.2].map fun i => D.bl (decide (0 ≤ i) && decide (i ≤ n - 1))))) [] := by
    refine eLc_map (g := gN 2) (elt := E1_is_triple) (vs := [2]) (ρ := [some (.val (dT t)), some (.val (.int n)), none]) (fun i => D.int i) (fun i => D.bl (decide (0 ≤ i) && decide (i ≤ n - 1))) [t.1, t.2.1, t.2.2] rfl (by show 3 < sizeLine; decide) fun i hi => ⟨[some (.val (dT t)), some (.val (.int n)), some (.val (.int i))], rfl, ?_⟩
    have e1 : ∀ m, callK 3 f_is_between [.val (.int i), .val (.int 0), .val (.int (n - 1))] m = .ok (.val (.bl (decide (0 ≤ i) && decide (i ≤ n - 1)))) m := fun m => callV rfl rfl rfl (t_between i 0 (n - 1))
    unfold E1_is_triple
    simp only [call_ap, consA_ap, nilA_ap, V_ap, C_ap, e2_ap, List.getElem?_cons_zero, List.getElem?_cons_succ, R.bind_ok, sub_ii, e1]
  have ka := all_ok (fun i : Int => decide (0 ≤ i) && decide (i ≤ n - 1)) [t.1, t.2.1, t.2.2]
  have kt : ([t.1, t.2.1, t.2.2].all fun i : Int => decide (0 ≤ i) && decide (i ≤ n - 1)) = true := by
    simp; omega
  rw [kt] at ka
  generalize ([t.1, t.2.1, t.2.2].map fun i => D.bl (decide (0 ≤ i) && decide (i ≤ n - 1))) = bl at key ka
  clear kt
  have i0 := is_tuple [.int t.1, .int t.2.1, .int t.2.2]
  have l3 : ∀ m, lenD [.val (.tup [D.int t.1, .int t.2.1, .int t.2.2])] m = .ok (.val (.int 3)) m := fun m => rfl
  unfold f_is_triple F_is_triple
  walk_at "ev"
theorem triples_loop (pr : D) (n : Int) : ∀ (ds : List D), (∀ d, d ∈ ds → ∃ (i : Nat) (t : T3), d = .tup [.int (i : Nat), dT t] ∧ TOk n t) → ∀ (j2 j3 : Option W), ∃ k2 k3, forF (gT 2 (gsCons (gN 2) (gsCons (gN 3) gsNil))) L1_check_triples ds [some (.val pr), some (.val (.int n)), j2, j3] [] = .ok (.next [some (.val pr), some (.val (.int n)), k2, k3]) []
  | [], _, j1, j2 => ⟨j1, j2, rfl⟩
  | d :: ds, h, j1, j2 => by
    obtain ⟨i, t, rfl, ht⟩ := h d (by simp)
    obtain ⟨k1, k2, ih⟩ := triples_loop pr n ds (fun r hr => h r (by simp [hr])) (some (.val (.int (i : Nat)))) (some (.val (dT t)))
    refine ⟨k1, k2, ?_⟩
    have e1 : ∀ m, callK 2 f_is_triple [.val (dT t), .val (.int n)] m = .ok (.val (.bl true)) m := fun m => callV rfl rfl rfl (t_triple ht)
    have e : L1_check_triples [some (.val pr), some (.val (.int n)), some (.val (.int (i : Nat))), some (.val (dT t))] [] = .ok (.next [some (.val pr), some (.val (.int n)), some (.val (.int (i : Nat))), some (.val (dT t))]) [] := by
      unfold L1_check_triples
      walk_at "ev"
    rw [for_cons]
    show forK _ _ _ _ (L1_check_triples [some (.val pr), some (.val (.int n)), some (.val (.int (i : Nat))), some (.val (dT t))] []) = _
    rw [e]
    exact ih
theorem t_chktri {ts : List T3} {n : Int} (hl : ts.length ≤ 100) (ht : ∀ t, t ∈ ts → TOk n t) : f_check_triples [.val (.lst (ts.map dT)), .val (.int n)] [] = .ok (.val .non) [] := by
  obtain ⟨k1, k2, e⟩ := triples_loop (.lst (ts.map dT)) n (enumD (ts.map dT)) (fun d hd => by
    obtain ⟨i, x, hx, rfl⟩ := enum_mem hd
    rw [List.mem_map] at hx
    obtain ⟨t, h1, rfl⟩ := hx
    exact ⟨i, t, rfl, ht t h1⟩) none none
  have h1 : ¬ (100 : Int) < ((ts.map dT).length : Nat) := by rw [List.length_map]; omega
  have c : cst_MOST_POINTS = .int 100 := rfl
  have i0 := is_list (ts.map dT)
  unfold f_check_triples F_check_triples
  generalize ts.map dT = dd at *
  have g : sIf (tOrD (tNotD (tB (e1 (isD tab_list) (eV 0)))) (tB (e2 gtD (eB lenD (aCons (eV 0) aNil)) (eC cst_MOST_POINTS)))) sNever sNil [some (.val (.lst dd)), some (.val (.int n)), none, none] [] = .ok (.next [some (.val (.lst dd)), some (.val (.int n)), none, none]) [] := by
    walk_at "ev"
  rw [fn_ap]
  show trunc 0 (endR (sSeq _ _ [some (.val (.lst dd)), some (.val (.int n)), none, none] [])) = _
  rw [seq_ap, g, R.bind_ok, seqK_n, for_ap]
  show trunc 0 (endR (forF _ _ (enumD dd) [some (.val (.lst dd)), some (.val (.int n)), none, none] [])) = _
  rw [e]
  rfl
theorem t_Net {ps : List P2} {ts : List T3} (hp : ps.length ≤ 100) (hl : ts.length ≤ 100) (ht : ∀ t, t ∈ ts → TOk ps.length t) : f_Net_init [.ref 0, .val (.lst (ps.map dP)), .val (.lst (ts.map dT))] [some (.ins "Net" [])] = .ok (.val .non) [some (.ins "Net" [("pairs", .lst (ps.map dP)), ("own_triples", .lst (ts.map dT))])] := by
  have k1 : ∀ m, callK 1 f_check_points [.val (.lst (ps.map dP))] m = .ok (.val .non) m := fun m => callV rfl rfl rfl (t_chkpts hp)
  have k2 : ∀ m, callK 2 f_check_triples [.val (.lst (ts.map dT)), .val (.int ((ps.map dP).length : Nat))] m = .ok (.val .non) m := fun m => callV rfl rfl rfl (by rw [List.length_map]; exact t_chktri hl ht)
  have k3 : eLc (iSeq (eV 1)) (gN 3) none E1_Net_init [3] [some (.ref 0), some (.val (.lst (ps.map dP))), some (.val (.lst (ts.map dT))), none] [some (.ins "Net" [])] = .ok (.val (.lst (ps.map dP))) [some (.ins "Net" [])] := by
    refine eLc_map (g := gN 3) (elt := E1_Net_init) (vs := [3]) (ρ := [some (.ref 0), some (.val (.lst (ps.map dP))), some (.val (.lst (ts.map dT))), none]) dP dP ps rfl (by rw [sizeLine_eq]; omega) fun p _ => ⟨[some (.ref 0), some (.val (.lst (ps.map dP))), some (.val (.lst (ts.map dT))), some (.val (dP p))], rfl, ?_⟩
    have e1 : ∀ m, callK 1 f_numbers_of [.val (dP p)] m = .ok (.val (dP p)) m := fun m => callV rfl rfl rfl (t_numbers p)
    unfold E1_Net_init
    simp only [call_ap, consA_ap, nilA_ap, V_ap, List.getElem?_cons_zero, List.getElem?_cons_succ, R.bind_ok, e1]
  have s1 : sExpr (eCall 1 f_check_points (aCons (eV 1) aNil)) [some (.ref 0), some (.val (.lst (ps.map dP))), some (.val (.lst (ts.map dT))), none] [some (.ins "Net" [])] = .ok (.next [some (.ref 0), some (.val (.lst (ps.map dP))), some (.val (.lst (ts.map dT))), none]) [some (.ins "Net" [])] := by
    simp only [expr_ap, call_ap, consA_ap, nilA_ap, V_ap, List.getElem?_cons_zero, List.getElem?_cons_succ, R.bind_ok, k1]
  have s2 : sExpr (eCall 2 f_check_triples (aCons (eV 2) (aCons (eB lenD (aCons (eV 1) aNil)) aNil))) [some (.ref 0), some (.val (.lst (ps.map dP))), some (.val (.lst (ts.map dT))), none] [some (.ins "Net" [])] = .ok (.next [some (.ref 0), some (.val (.lst (ps.map dP))), some (.val (.lst (ts.map dT))), none]) [some (.ins "Net" [])] := by
    simp only [expr_ap, call_ap, B_ap, consA_ap, nilA_ap, V_ap, List.getElem?_cons_zero, List.getElem?_cons_succ, R.bind_ok, len_l, k2]
  unfold f_Net_init F_Net_init
  rw [fn_ap]
  show trunc 1 (endR (sSeq _ _ [some (.ref 0), some (.val (.lst (ps.map dP))), some (.val (.lst (ts.map dT))), none] [some (.ins "Net" [])])) = _
  rw [seq_ap, s1, R.bind_ok, seqK_n, seq_ap, s2, R.bind_ok, seqK_n, seq_ap, fld_set (k := 0) (fs := []) k3 rfl rfl (by decide), R.bind_ok, seqK_n]
  rw [fld_set (k := 0) (fs := putD "pairs" (.lst (ps.map dP)) []) (d := .lst (ts.map dT)) (m1 := [some (.ins "Net" (putD "pairs" (.lst (ps.map dP)) []))]) (m2 := [some (.ins "Net" (putD "pairs" (.lst (ps.map dP)) []))]) rfl rfl rfl (by show 1 < 1000; decide)]
  rfl
end FD
end
section
set_option Elab.async false
set_option linter.all false
set_option maxRecDepth 100000
set_option maxHeartbeats 2000000
namespace FD
open PySem PySem.Spec PyProof.Rows L2 FM
/-! ### the pool -/
abbrev dPool (q : P2) : M := .lst [.int q.1, .int q.2]
def POk (q : P2) : Prop := 0 ≤ q.1 ∧ 0 ≤ q.2 ∧ q.2 < 2147483647
theorem sub_ap (fo fi fe : EF) (ρ : Ro) (m : Cells) : sSub fo fi fe ρ m = (fe ρ m).bind fun v m1 => (fo ρ m1).bind fun o m2 => (fi ρ m2).bind fun i m3 => match setD o i v m3 with
  | some m4 => .ok (.next ρ) m4
  | none => .bad := rfl
def lstCK : List W → Cells → R W := fun ws m1 => match allVal ws with
  | some ds => if ds.length ≤ sizeLine then .ok (.ref m1.length) (m1 ++ [some (.lst ds)]) else .bad
  | none => .bad
theorem lstC_ap (t : AF) (ρ : Ro) (m : Cells) : eLstC t ρ m = (t ρ m).bind lstCK := rfl
theorem lstCK_2 (a b : D) (m : Cells) : lstCK [.val a, .val b] m = .ok (.ref m.length) (m ++ [some (.lst [a, b])]) := rfl
theorem lstCK_0 (m : Cells) : lstCK [] m = .ok (.ref m.length) (m ++ [some (.lst [])]) := rfl
theorem set0 (a b d : D) : setD (.ref 0) (.val (.int 0)) (.val d) [some (.lst [a, b])] = some [some (.lst [d, b])] := rfl
theorem set1 (a b d : D) : setD (.ref 0) (.val (.int 1)) (.val d) [some (.lst [a, b])] = some [some (.lst [a, d])] := rfl
theorem ixr0 (a b : D) : ixD (.ref 0) (.val (.int 0)) [some (.lst [a, b])] = .ok (.val a) [some (.lst [a, b])] := rfl
theorem ixr1 (a b : D) : ixD (.ref 0) (.val (.int 1)) [some (.lst [a, b])] = .ok (.val b) [some (.lst [a, b])] := rfl
theorem pow_18 (m : Cells) : powD (.val (.int 10)) (.val (.int 18)) m = .ok (.val (.int 1000000000000000000)) m := by
  show (if 0 ≤ (18 : Int) ∧ (18 : Int) ≤ 1000000 ∧ (10 : Int).natAbs < 2 ^ 64 then R.ok (W.val (D.int ((10 : Int) ^ (18 : Int).toNat))) m else .bad) = _
  rw [if_pos (by decide)]
  rfl
local macro_rules
  | `(tactic| walk_at "ev") => `(tactic| simp only [fn_ap, start_ap, trunc_v, endR_r, endR_n, seq_ap, seqK_n, seqK_r, seqK_b, seqK_c, nil_ap, cont_ap, ret_ap, retN_ap, if_ap, eIf_ap, ifK_t, ifK_f, set_ap, expr_ap, asg_ap, asgK_ap, par_ap, par3_ap, aug_ap, V_ap, C_ap, e1_ap, e2_ap, and_ap, or_ap, andK_ap, orK_ap, not_ap, notK_ap, tB_ap, tBK_ap, tand_ap, tor_ap, tnot_ap,
      tup_ap, lst_ap, tupK_2, tupK_3, lstK_0, lstK_1, lstK_2, lstK_3, nilA_ap, consA_ap, call_ap, B_ap, fld_ap, chain_ap, for_ap, for_nil, for_cons, forK_n, forK_c, forK_r, iSeq_ap, iTup_ap, iSeqK_l, iTupK_t, trimR_nil, trimR_cons, trimO_v, trimO_n, meth_ap, sub_ap, set0, set1, ixr0, ixr1, pow_18, lstC_ap, lstCK_2, lstCK_0, fldD, clsOf, gN, gT, gU, gsCons, gsNil,
      add_ii, sub_ii, mul_ii, fdiv_ii, mod_ii, lt_ii, le_ii, gt_ii, ge_ii, neg_i, iadd_ii, isub_ii, ix_t, ix_l, is_non, int_i, int_b, abs_i, len_l, eqD_int, neD_int, eqD_bl, eqD_P, neD_P, D.isNone,
      R.bind_ok, R.bind_ex, R.bind_bad, List.map_cons, List.map_nil, List.length_cons, List.length_nil, List.cons_append, List.nil_append, List.append_nil, List.getElem?_cons_zero, List.getElem?_cons_succ, List.take_zero, List.take_nil, List.take_succ_cons, atI_0, atI_1, atI_2,
      List.reduceReplicate, Nat.reduceSub, List.replicate_zero, List.replicate_succ, Nat.sub_self, if_true, if_false, Bool.false_eq_true, Nat.le_refl, Nat.zero_le, reduceIte, Nat.zero_add, Nat.reduceAdd, Nat.reduceLeDiff, List.set_cons_zero, List.set_cons_succ, List.set_nil, Bool.not_true, Bool.not_false, decide_true, decide_false, Bool.true_and, Bool.false_and, Bool.and_true, Bool.and_false, Bool.true_or, Bool.false_or, *])

theorem divOk_of {i : Int} (h0 : 0 < i) (h1 : i < 1000000) : divOk i = true := by
  unfold divOk
  rw [Bool.and_eq_true]
  refine ⟨decide_eq_true h0, decide_eq_true ?_⟩
  have : i.natAbs < 2 ^ 20 := by omega
  have := (Nat.log2_lt (by omega : i.natAbs ≠ 0)).mpr this
  omega
theorem sm {i : Int} (h0 : -4294967296 < i) (h1 : i < 4294967296) : i.natAbs < 2 ^ 240 := by
  have : (4294967296 : Nat) ≤ 2 ^ 240 := by decide
  omega
theorem t_draw {q : P2} (hq : POk q) {n : Int} (h0 : 0 < n) (h1 : n < 1000000) : ∃ r q', 0 ≤ r ∧ r < n ∧ POk q' ∧ f_law_draw [.ref 0, .val (.int n)] [some (dPool q)] = .ok (.val (.int r)) [some (dPool q')] := by
  obtain ⟨k1, k2, k3⟩ := hq
  by_cases c : 0 < q.1
  · refine ⟨q.1 % n, (q.1 / n, q.2), Int.emod_nonneg _ (by omega), Int.emod_lt_of_pos _ h0, ⟨Int.ediv_nonneg k1 (by omega), k2, k3⟩, ?_⟩
    have d := divOk_of h0 h1
    unfold f_law_draw F_law_draw
    walk_at "ev"
  · generalize hs : (q.2 * 48271 + 11) % 2147483647 = s
    have s0 : 0 ≤ s := by rw [← hs]; exact Int.emod_nonneg _ (by decide)
    have s1 : s < 2147483647 := by rw [← hs]; exact Int.emod_lt_of_pos _ (by decide)
    refine ⟨s * s % 2147483629 / 64 % n, (q.1, s), Int.emod_nonneg _ (by omega), Int.emod_lt_of_pos _ h0, ⟨k1, s0, s1⟩, ?_⟩
    have m1 : mulOk q.2 48271 = true := mul_ok (sm (by omega) (by omega)) (by decide)
    have m2 : mulOk s s = true := mul_ok (sm (by omega) (by omega)) (sm (by omega) (by omega))
    have d := divOk_of (i := 64) (by decide) (by decide)
    have p1 : (0 : Int) < 2147483647 := by decide
    have p2 : (0 : Int) < 2147483629 := by decide
    unfold f_law_draw F_law_draw
    walk_at "ev"
theorem callP {F : FN} {k n : Nat} {ws : List W} {m : Cells} {c c' : M} {d : D} (hm : m[k]? = some (some c)) (hn : ws.length + 1 = n) (h2 : refsOf ws = []) (h3 : renum 1 ws = ws) (e : F (.ref 0 :: ws) [some c] = .ok (.val d) [some c']) : callK n F (.ref k :: ws) m = .ok (.val d) (m.set k (some c')) := by
  have hr : refsOf (.ref k :: ws) = [k] := by rw [refsOf, h2]
  have hk : okRefs m [k] = true := by
    rw [okRefs, okRefs, hm]; rfl
  have hp : pick m [k] = [some c] := by
    unfold pick
    rw [List.map_cons, hm]; rfl
  have hre : renum 0 (.ref k :: ws) = .ref 0 :: ws := by rw [renum, h3]
  unfold callK callF
  rw [if_pos (show (W.ref k :: ws).length = n from hn), hr, if_pos hk, hp, hre, e]
  rfl
theorem t_lpair {q : P2} (hq : POk q) {s : Int} (h0 : 0 ≤ s) (h1 : s < 1000) : ∃ p q', (p.1.natAbs ≤ s ∧ p.2.natAbs ≤ s) ∧ POk q' ∧ f_law_pair [.ref 0, .val (.int s)] [some (dPool q)] = .ok (.val (dP p)) [some (dPool q')] := by
  obtain ⟨x, q1, x0, x1, k1, e1⟩ := t_draw hq (n := 2 * s + 1) (by omega) (by omega)
  obtain ⟨y, q2, y0, y1, k2, e2⟩ := t_draw k1 (n := 2 * s + 1) (by omega) (by omega)
  refine ⟨(x - s, y - s), q2, ⟨by show ((x - s).natAbs : Int) ≤ s; omega, by show ((y - s).natAbs : Int) ≤ s; omega⟩, k2, ?_⟩
  have c1 : callK 2 f_law_draw [.ref 0, .val (.int (2 * s + 1))] [some (dPool q)] = .ok (.val (.int x)) [some (dPool q1)] := callP (k := 0) rfl rfl rfl rfl e1
  have c2 : callK 2 f_law_draw [.ref 0, .val (.int (2 * s + 1))] [some (dPool q1)] = .ok (.val (.int y)) [some (dPool q2)] := callP (k := 0) rfl rfl rfl rfl e2
  have m1 : mulOk 2 s = true := mul_ok (by decide) (sm (by omega) (by omega))
  unfold f_law_pair F_law_pair
  walk_at "ev"
theorem t_hand {ns : List Int} {k : Nat} (hk : k < 1000) (hl : ns.length ≤ 63) : ∃ q, POk q ∧ f_law_hand [.val (.scr (ns.map D.int)), .val (.int (k : Nat))] [] = .ok (.ref 0) [some (dPool q)] := by
  obtain ⟨cell, hc⟩ : ∃ cell : Int, atI (cutD (ns.map D.int) (some (k : Int)) (some ((k : Int) + 1)) ++ [D.int 0]) 0 = some (.int cell) := by
    have : ∀ l : List Int, ∃ c, (l.map D.int ++ [D.int 0])[0]? = some (D.int c) := by
      intro l
      cases l with
      | nil => exact ⟨0, rfl⟩
      | cons c r => exact ⟨c, rfl⟩
    have hcut : cutD (ns.map D.int) (some (k : Int)) (some ((k : Int) + 1)) = (((ns.drop (HT.sIx ns.length 0 (some (k : Int)))).take (HT.sIx ns.length ns.length (some ((k : Int) + 1)) - HT.sIx ns.length 0 (some (k : Int))))).map D.int := by
      unfold cutD
      rw [List.length_map, ← List.map_drop, ← List.map_take]
    rw [hcut]
    obtain ⟨c, e⟩ := this (((ns.drop (HT.sIx ns.length 0 (some (k : Int)))).take (HT.sIx ns.length ns.length (some ((k : Int) + 1)) - HT.sIx ns.length 0 (some (k : Int)))))
    exact ⟨c, atI_nat (j := 0) e⟩
  generalize hs : ((cell % 2147483647 + 7919 * (k : Int) + 1) * 48271) % 2147483629 = s
  have s0 : 0 ≤ s := by rw [← hs]; exact Int.emod_nonneg _ (by decide)
  have s1 : s < 2147483629 := by rw [← hs]; exact Int.emod_lt_of_pos _ (by decide)
  have c0 : 0 ≤ cell % 2147483647 := Int.emod_nonneg _ (by decide)
  have c1 : cell % 2147483647 < 2147483647 := Int.emod_lt_of_pos _ (by decide)
  have m1 : mulOk 7919 (k : Int) = true := mul_ok (by decide) (sm (by omega) (by omega))
  have m2 : mulOk (cell % 2147483647 + 7919 * (k : Int) + 1) 48271 = true := mul_ok (sm (by omega) (by omega)) (by decide)
  have p1 : (0 : Int) < 2147483647 := by decide
  have p2 : (0 : Int) < 2147483629 := by decide
  have hz : (cutD (ns.map D.int) (some (k : Int)) (some ((k : Int) + 1))).length + ([D.int 0] : List D).length ≤ sizeLine := by
    unfold cutD
    rw [List.length_take, List.length_drop, List.length_map, sizeLine_eq]
    simp; omega
  have e1 : e2 ixD (e2 addD (eSl (eV 0) (oAt (eV 1)) (oAt (e2 addD (eV 1) (eC (.int 1))))) (eLst (aCons (eC (.int 0)) aNil))) (eC (.int 0)) [some (.val (.scr (ns.map D.int))), some (.val (.int (k : Nat))), none, none] [] = .ok (.val (.int cell)) [] := by
    have a1 : eSl (eV 0) (oAt (eV 1)) (oAt (e2 addD (eV 1) (eC (.int 1)))) [some (.val (.scr (ns.map D.int))), some (.val (.int (k : Nat))), none, none] [] = .ok (.val (.lst (cutD (ns.map D.int) (some (k : Int)) (some ((k : Int) + 1))))) [] := rfl
    rw [e2_ap, e2_ap, a1, R.bind_ok]
    show ((addD (.val (.lst (cutD (ns.map D.int) (some (k : Int)) (some ((k : Int) + 1))))) (.val (.lst [.int 0])) []).bind _) = _
    have a2 : addD (.val (.lst (cutD (ns.map D.int) (some (k : Int)) (some ((k : Int) + 1))))) (.val (.lst [.int 0])) [] = .ok (.val (.lst (cutD (ns.map D.int) (some (k : Int)) (some ((k : Int) + 1)) ++ [D.int 0]))) [] := if_pos hz
    rw [a2, R.bind_ok]
    show ixD (.val (.lst (cutD (ns.map D.int) (some (k : Int)) (some ((k : Int) + 1)) ++ [D.int 0]))) (.val (.int 0)) [] = _
    rw [ix_l, hc]
  by_cases big : (1000000000000000000 : Int) ≤ cell
  · refine ⟨(1 * cell, s), ⟨by show 0 ≤ 1 * cell; omega, s0, by show s < _; omega⟩, ?_⟩
    have m3 : mulOk 1 cell = true := by
      unfold mulOk
      rw [Bool.or_eq_true, Bool.or_eq_true]
      exact .inl (.inr (by decide))
    unfold f_law_hand F_law_hand
    rw [fn_ap]
    show trunc 0 (endR (sSeq _ _ [some (.val (.scr (ns.map D.int))), some (.val (.int (k : Nat))), none, none] [])) = _
    rw [seq_ap, set_ap, e1, R.bind_ok, R.bind_ok, seqK_n]
    generalize ns.map D.int = dd at *
    walk_at "ev"
    rfl
  · refine ⟨(0 * cell, s), ⟨by show 0 ≤ 0 * cell; omega, s0, by show s < _; omega⟩, ?_⟩
    have m3 : mulOk 0 cell = true := by
      unfold mulOk
      rw [Bool.or_eq_true, Bool.or_eq_true]
      exact .inl (.inr (by decide))
    unfold f_law_hand F_law_hand
    rw [fn_ap]
    show trunc 0 (endR (sSeq _ _ [some (.val (.scr (ns.map D.int))), some (.val (.int (k : Nat))), none, none] [])) = _
    rw [seq_ap, set_ap, e1, R.bind_ok, R.bind_ok, seqK_n]
    generalize ns.map D.int = dd at *
    walk_at "ev"
    rfl
end FD
end
section
set_option Elab.async false
set_option linter.all false
set_option maxRecDepth 100000
set_option maxHeartbeats 2000000
namespace FD
open PySem PySem.Spec PyProof.Rows L2 FM
/-- a comprehension by a word -/
theorem lc_ex {g : GF} {elt : EF} {vs : List Nat} {ρ : Ro} {P : List D → List D → Cells → Prop} (hstep : ∀ d ds acc m, P (d :: ds) acc m → ∃ ρ1 x m2, g (.val d) (wipeR ρ vs) = some ρ1 ∧ elt ρ1 m = .ok (.val x) m2 ∧ P ds (acc ++ [x]) (m2.take m.length)) :
    ∀ ds acc m, P ds acc m → ∃ acc' m', lcF g none elt vs ds acc ρ m = .ok acc' m' ∧ P [] acc' m'
  | [], acc, m, h => ⟨acc, m, by rw [lcF], h⟩
  | d :: ds, acc, m, h => by
    obtain ⟨ρ1, x, m2, e1, e2, h2⟩ := hstep d ds acc m h
    obtain ⟨acc', m', e3, h3⟩ := lc_ex hstep ds _ _ h2
    refine ⟨acc', m', ?_, h3⟩
    rw [lcF, e1]
    show (match elt ρ1 (m.take m.length) with
        | .ok (.val x) m2 => lcF g none elt vs ds (acc ++ [x]) ρ (m2.take m.length)
        | _ => .bad) = _
    rw [List.take_length, e2]
    exact e3
theorem eLc_ok {it : IF} {g : GF} {elt : EF} {vs : List Nat} {ρ : Ro} {m m1 m2 : Cells} {ds acc : List D} (hi : it ρ m = .ok ds m1) (hl : ds.length < sizeLine) (h : lcF g none elt vs ds [] ρ m1 = .ok acc m2) : eLc it g none elt vs ρ m = .ok (.val (.lst acc)) m2 := by
  unfold eLc
  rw [hi, R.bind_ok, if_pos hl, h, R.bind_ok]
theorem eLcC_ok {it : IF} {g : GF} {elt : EF} {vs : List Nat} {ρ : Ro} {m m1 m2 : Cells} {ds acc : List D} (hi : it ρ m = .ok ds m1) (hl : ds.length < sizeLine) (h : lcF g none elt vs ds [] ρ m1 = .ok acc m2) : eLcC it g none elt vs ρ m = .ok (.ref m2.length) (m2 ++ [some (.lst acc)]) := by
  unfold eLcC
  rw [hi, R.bind_ok, if_pos hl, h, R.bind_ok]
def range1K : List W → Cells → R (List D) := fun ws m1 => match ws with
  | [.val (.int j)] => if -(2 ^ 62) ≤ j ∧ j < 2 ^ 62 then .ok (rangeD 0 j.toNat) m1 else .bad
  | _ => .bad
theorem range1_ap (t : AF) (ρ : Ro) (m : Cells) : iRange1 t ρ m = (t ρ m).bind range1K := rfl
theorem range1K_ok {j : Int} {m : Cells} (h0 : 0 ≤ j) (h1 : j < 1000000) : range1K [.val (.int j)] m = .ok (rangeD 0 j.toNat) m := if_pos (by
  have : (1000000 : Int) ≤ 2 ^ 62 := by decide
  have : -(2 ^ 62) ≤ (0 : Int) := by decide
  omega)
theorem rangeD_len (n : Nat) : (rangeD 0 n).length = n := by simp [rangeD]
theorem pop_ok {m : Cells} {k : Nat} {L : List Int} {r : Int} (hm : m[k]? = some (some (.lst (L.map D.int)))) (h0 : 0 ≤ r) (h1 : r < L.length) (h2 : L.length < 1000000) : popD (.ref k) [.val (.int r)] m = .ok (.val (.int (L.getD r.toNat 0))) (m.set k (some (.lst ((L.eraseIdx r.toNat).map D.int)))) := by
  show (match m[k]? with
    | some (some (.lst xs)) => (match seqIndex? r xs.length with
      | some j => (match xs[j]? with
        | some d => if -(2 ^ 63) ≤ r ∧ r < 2 ^ 63 then R.ok (W.val d) (m.set k (some (.lst (xs.eraseIdx j)))) else .bad
        | none => .bad)
      | none => .bad)
    | _ => .bad) = _
  rw [hm]
  have hs : seqIndex? r (L.map D.int).length = some r.toNat := by rw [List.length_map]; exact seqIndex_of h0 h1
  have hn : r.toNat < L.length := by omega
  have hg : (L.map D.int)[r.toNat]? = some (D.int (L.getD r.toNat 0)) := by
    rw [List.getElem?_map, List.getElem?_eq_getElem hn, List.getD_eq_getElem?_getD, List.getElem?_eq_getElem hn]; rfl
  show (match seqIndex? r (L.map D.int).length with
      | some j => (match (L.map D.int)[j]? with
        | some d => if -(2 ^ 63) ≤ r ∧ r < 2 ^ 63 then R.ok (W.val d) (m.set k (some (.lst ((L.map D.int).eraseIdx j)))) else .bad
        | none => .bad)
      | none => .bad) = _
  rw [hs]
  show (match (L.map D.int)[r.toNat]? with
        | some d => if -(2 ^ 63) ≤ r ∧ r < 2 ^ 63 then R.ok (W.val d) (m.set k (some (.lst ((L.map D.int).eraseIdx r.toNat)))) else .bad
        | none => .bad) = _
  rw [hg]
  have hb : -(2 ^ 63) ≤ r ∧ r < 2 ^ 63 := by
    have : (1000000 : Int) ≤ 2 ^ 63 := by decide
    have : -(2 ^ 63) ≤ (0 : Int) := by decide
    omega
  show (if -(2 ^ 63) ≤ r ∧ r < 2 ^ 63 then R.ok (W.val (D.int (L.getD r.toNat 0))) (m.set k (some (.lst ((L.map D.int).eraseIdx r.toNat)))) else R.bad) = _
  rw [if_pos hb]
  have : ∀ (l : List Int) (i : Nat), (l.map D.int).eraseIdx i = (l.eraseIdx i).map D.int := by
    intro l
    induction l with
    | nil => intro i; rfl
    | cons a l ih =>
      intro i
      cases i with
      | zero => rfl
      | succ i => rw [List.map_cons, List.eraseIdx_cons_succ, List.eraseIdx_cons_succ, ih, List.map_cons]
  rw [this]
theorem erase_perm : ∀ (l : List Int) (i : Nat), i < l.length → l.Perm (l.getD i 0 :: l.eraseIdx i)
  | a :: l, 0, _ => by simp
  | a :: l, i + 1, h => by
    have ih := erase_perm l i (by simpa using h)
    simp only [List.getD_cons_succ, List.eraseIdx_cons_succ]
    exact (ih.cons a).trans (List.Perm.swap ..)
local macro_rules
  | `(tactic| walk_at "ev") => `(tactic| simp only [fn_ap, start_ap, trunc_v, endR_r, endR_n, seq_ap, seqK_n, seqK_r, seqK_b, seqK_c, nil_ap, cont_ap, ret_ap, retN_ap, if_ap, eIf_ap, ifK_t, ifK_f, set_ap, expr_ap, asg_ap, asgK_ap, par_ap, par3_ap, aug_ap, V_ap, C_ap, e1_ap, e2_ap, and_ap, or_ap, andK_ap, orK_ap, not_ap, notK_ap, tB_ap, tBK_ap, tand_ap, tor_ap, tnot_ap,
      tup_ap, lst_ap, tupK_2, tupK_3, lstK_0, lstK_1, lstK_2, lstK_3, nilA_ap, consA_ap, call_ap, B_ap, fld_ap, chain_ap, for_ap, for_nil, for_cons, forK_n, forK_c, forK_r, iSeq_ap, iTup_ap, iSeqK_l, iTupK_t, trimR_nil, trimR_cons, trimO_v, trimO_n, meth_ap, sub_ap, set0, set1, ixr0, ixr1, pow_18, lstC_ap, lstCK_2, lstCK_0, fldD, clsOf, gN, gT, gU, gsCons, gsNil,
      add_ii, sub_ii, mul_ii, fdiv_ii, mod_ii, lt_ii, le_ii, gt_ii, ge_ii, neg_i, iadd_ii, isub_ii, ix_t, ix_l, is_non, int_i, int_b, abs_i, len_l, eqD_int, neD_int, eqD_bl, eqD_P, neD_P, D.isNone,
      R.bind_ok, R.bind_ex, R.bind_bad, List.map_cons, List.map_nil, List.length_cons, List.length_nil, List.cons_append, List.nil_append, List.append_nil, List.getElem?_cons_zero, List.getElem?_cons_succ, List.take_zero, List.take_nil, List.take_succ_cons, atI_0, atI_1, atI_2,
      List.reduceReplicate, Nat.reduceSub, List.replicate_zero, List.replicate_succ, Nat.sub_self, if_true, if_false, Bool.false_eq_true, Nat.le_refl, Nat.zero_le, reduceIte, Nat.zero_add, Nat.reduceAdd, Nat.reduceLeDiff, List.set_cons_zero, List.set_cons_succ, List.set_nil, Bool.not_true, Bool.not_false, decide_true, decide_false, Bool.true_and, Bool.false_and, Bool.and_true, Bool.and_false, Bool.true_or, Bool.false_or, *])

/-- n ints of a net's list that is laid out -/
def InN (n : Int) (xs : List Int) : Prop := ∀ x, x ∈ xs → 0 ≤ x ∧ x < n
theorem t_three {ps : List P2} {n : Nat} (hn : ps.length = n) (h3 : 3 ≤ n) (h9 : n ≤ 100) {q : P2} (hq : POk q) (fd : M) (j3 j5 j6 : Option W) : ∃ t q', POk q' ∧ TOk (n : Int) t ∧ ∃ L, eLc (iRange1 (aCons (eC (.int 3)) aNil)) (gN 6) none E3_law_net [6] [some (.ref 0), some (.val (.lst (ps.map dP))), some (.ref 1), j3, some (.ref 2), j5, j6] [some (dPool q), some fd, some (.lst (rangeD 0 n))] = .ok (.val (.lst [.int t.1, .int t.2.1, .int t.2.2])) [some (dPool q'), some fd, L] := by
  have r0 : rangeD 0 n = ((List.range n).map fun (i : Nat) => (i : Int)).map D.int := by
    unfold rangeD
    rw [List.map_map]
    exact List.map_congr_left fun i _ => by simp
  obtain ⟨acc', m', e, P0⟩ := lc_ex (g := gN 6) (elt := E3_law_net) (vs := [6]) (ρ := [some (.ref 0), some (.val (.lst (ps.map dP))), some (.ref 1), j3, some (.ref 2), j5, j6])
    (P := fun ds acc m => ∃ q xs L, POk q ∧ m = [some (dPool q), some fd, some (.lst (L.map D.int))] ∧ acc = xs.map D.int ∧ (xs ++ L).Nodup ∧ InN n (xs ++ L) ∧ xs.length + ds.length = 3 ∧ L.length + xs.length = n) (by
      rintro d ds acc m ⟨q, xs, L, hq, rfl, rfl, nd, inn, l1, l2⟩
      rw [List.length_cons] at l1
      have lp : 0 < L.length := by omega
      obtain ⟨r, q', r0, r1, k1, e1⟩ := t_draw hq (n := (L.length : Int)) (by omega) (by omega)
      have hr : r.toNat < L.length := by omega
      have pm := erase_perm L r.toNat hr
      have pm2 : (xs ++ L).Perm ((xs ++ [L.getD r.toNat 0]) ++ L.eraseIdx r.toNat) := by
        rw [List.append_assoc]
        exact List.Perm.append_left xs pm
      refine ⟨[some (.ref 0), some (.val (.lst (ps.map dP))), some (.ref 1), j3, some (.ref 2), j5, some (.val d)], .int (L.getD r.toNat 0), [some (dPool q'), some fd, some (.lst ((L.eraseIdx r.toNat).map D.int))], rfl, ?_, q', xs ++ [L.getD r.toNat 0], L.eraseIdx r.toNat, k1, rfl, by rw [List.map_append]; rfl, pm2.nodup_iff.mp nd, fun x hx => inn x (pm2.mem_iff.mpr hx), by rw [List.length_append]; simp; omega, by rw [List.length_append, List.length_eraseIdx_of_lt hr]; simp; omega⟩
      have c1 : callK 2 f_law_draw [.ref 0, .val (.int (L.length : Int))] [some (dPool q), some fd, some (.lst (L.map D.int))] = .ok (.val (.int r)) [some (dPool q'), some fd, some (.lst (L.map D.int))] := callP (k := 0) rfl rfl rfl rfl e1
      have ht : aCons (eCall 2 f_law_draw (aCons (eV 0) (aCons (eB lenD (aCons (eV 4) aNil)) aNil))) aNil [some (.ref 0), some (.val (.lst (ps.map dP))), some (.ref 1), j3, some (.ref 2), j5, some (.val d)] [some (dPool q), some fd, some (.lst (L.map D.int))] = .ok [.val (.int r)] [some (dPool q'), some fd, some (.lst (L.map D.int))] := by
        have ll : lenD [.ref 2] [some (dPool q), some fd, some (.lst (L.map D.int))] = .ok (.val (.int (L.length : Int))) [some (dPool q), some fd, some (.lst (L.map D.int))] := by
          show R.ok (W.val (D.int ((L.map D.int).length : Nat))) _ = _
          rw [List.length_map]
        walk_at "ev"
      unfold E3_law_net
      rw [bm_ok (k := 2) (xs := L.map D.int) rfl rfl ht, pop_ok (L := L) rfl r0 (by omega) (by omega)]
      rfl) (rangeD 0 3) [] [some (dPool q), some fd, some (.lst (rangeD 0 n))] ⟨q, [], _, hq, by rw [r0], rfl, by
        rw [List.nil_append]
        exact List.Pairwise.map (fun (i : Nat) => (i : Int)) (fun a b (h : a ≠ b) => by omega) List.nodup_range, fun x hx => by
        rw [List.nil_append, List.mem_map] at hx
        obtain ⟨i, hi, rfl⟩ := hx
        have := List.mem_range.mp hi
        omega, rfl, by rw [List.length_map, List.length_range]; rfl⟩
  obtain ⟨q', xs, L, hq', rfl, rfl, nd, inn, l1, l2⟩ := P0
  obtain ⟨a, b, c, rfl⟩ : ∃ a b c, xs = [a, b, c] := by
    match xs, l1 with
    | [a, b, c], _ => exact ⟨a, b, c, rfl⟩
  have ia := inn a (by simp)
  have ib := inn b (by simp)
  have ic := inn c (by simp)
  simp only [List.cons_append, List.nil_append, List.nodup_cons, List.mem_cons, not_or] at nd
  refine ⟨(a, b, c), q', hq', ⟨ia, ib, ic, nd.1.1, nd.2.1.1, fun e => nd.1.2.1 e.symm⟩, some (.lst (L.map D.int)), ?_⟩
  exact eLc_ok (ds := rangeD 0 3) (m1 := [some (dPool q), some fd, some (.lst (rangeD 0 n))]) (by rw [range1_ap]; exact range1K_ok (j := 3) (by decide) (by decide)) (by rw [rangeD_len, sizeLine_eq]; decide) e
end FD
end
section
set_option Elab.async false
set_option linter.all false
set_option maxRecDepth 100000
set_option maxHeartbeats 2000000
namespace FD
open PySem PySem.Spec PyProof.Rows L2 FM
local macro_rules
  | `(tactic| walk_at "ev") => `(tactic| simp only [fn_ap, start_ap, trunc_v, endR_r, endR_n, seq_ap, seqK_n, seqK_r, seqK_b, seqK_c, nil_ap, cont_ap, ret_ap, retN_ap, if_ap, eIf_ap, ifK_t, ifK_f, set_ap, expr_ap, asg_ap, asgK_ap, par_ap, par3_ap, aug_ap, V_ap, C_ap, e1_ap, e2_ap, and_ap, or_ap, andK_ap, orK_ap, not_ap, notK_ap, tB_ap, tBK_ap, tand_ap, tor_ap, tnot_ap,
      tup_ap, lst_ap, tupK_2, tupK_3, lstK_0, lstK_1, lstK_2, lstK_3, nilA_ap, consA_ap, call_ap, B_ap, fld_ap, chain_ap, for_ap, for_nil, for_cons, forK_n, forK_c, forK_r, iSeq_ap, iTup_ap, iSeqK_l, iTupK_t, trimR_nil, trimR_cons, trimO_v, trimO_n, meth_ap, sub_ap, set0, set1, ixr0, ixr1, pow_18, lstC_ap, lstCK_2, lstCK_0, fldD, clsOf, gN, gT, gU, gsCons, gsNil,
      add_ii, sub_ii, mul_ii, fdiv_ii, mod_ii, lt_ii, le_ii, gt_ii, ge_ii, neg_i, iadd_ii, isub_ii, ix_t, ix_l, is_non, int_i, int_b, abs_i, len_l, eqD_int, neD_int, eqD_bl, eqD_P, neD_P, D.isNone,
      R.bind_ok, R.bind_ex, R.bind_bad, List.map_cons, List.map_nil, List.length_cons, List.length_nil, List.cons_append, List.nil_append, List.append_nil, List.getElem?_cons_zero, List.getElem?_cons_succ, List.take_zero, List.take_nil, List.take_succ_cons, atI_0, atI_1, atI_2,
      List.reduceReplicate, Nat.reduceSub, List.replicate_zero, List.replicate_succ, Nat.sub_self, if_true, if_false, Bool.false_eq_true, Nat.le_refl, Nat.zero_le, reduceIte, Nat.zero_add, Nat.reduceAdd, Nat.reduceLeDiff, List.set_cons_zero, List.set_cons_succ, List.set_nil, Bool.not_true, Bool.not_false, decide_true, decide_false, Bool.true_and, Bool.false_and, Bool.and_true, Bool.and_false, Bool.true_or, Bool.false_or, *])

def Sm (s : Int) (p : P2) : Prop := (p.1.natAbs : Int) ≤ s ∧ (p.2.natAbs : Int) ≤ s
theorem t_pairs {q : P2} (hq : POk q) (m' : Cells) (hm : m' = []) : ∃ (ps : List P2) (q' : P2), POk q' ∧ 3 ≤ ps.length ∧ ps.length ≤ 7 ∧ (∀ p, p ∈ ps → Sm 5 p) ∧
    eLc (iRange1 (aCons (e2 addD (eC (.int 3)) (eCall 2 f_law_draw (aCons (eV 0) (aCons (eC (.int 5)) aNil)))) aNil)) (gN 3) none E1_law_net [3] [some (.ref 0), none, none, none, none, none, none] [some (dPool q)] = .ok (.val (.lst (ps.map dP))) [some (dPool q')] := by
  obtain ⟨r, q1, r0, r1, k1, e1⟩ := t_draw hq (n := 5) (by decide) (by decide)
  have c1 : callK 2 f_law_draw [.ref 0, .val (.int 5)] [some (dPool q)] = .ok (.val (.int r)) [some (dPool q1)] := callP (k := 0) rfl rfl rfl rfl e1
  have hi : iRange1 (aCons (e2 addD (eC (.int 3)) (eCall 2 f_law_draw (aCons (eV 0) (aCons (eC (.int 5)) aNil)))) aNil) [some (.ref 0), none, none, none, none, none, none] [some (dPool q)] = .ok (rangeD 0 (3 + r).toNat) [some (dPool q1)] := by
    have : aCons (e2 addD (eC (.int 3)) (eCall 2 f_law_draw (aCons (eV 0) (aCons (eC (.int 5)) aNil)))) aNil [some (.ref 0), none, none, none, none, none, none] [some (dPool q)] = .ok [.val (.int (3 + r))] [some (dPool q1)] := by
      walk_at "ev"
    rw [range1_ap, this, R.bind_ok, range1K_ok (by omega) (by omega)]
  obtain ⟨acc', m2, e, P0⟩ := lc_ex (g := gN 3) (elt := E1_law_net) (vs := [3]) (ρ := [some (.ref 0), none, none, none, none, none, none])
    (P := fun ds acc m => ∃ q ps, POk q ∧ m = [some (dPool q)] ∧ acc = ps.map dP ∧ (∀ p, p ∈ ps → Sm 5 p) ∧ ps.length + ds.length = (3 + r).toNat) (by
      rintro d ds acc m ⟨q, ps, hq, rfl, rfl, hs, l1⟩
      rw [List.length_cons] at l1
      obtain ⟨p, q', b, k, e⟩ := t_lpair hq (s := 5) (by decide) (by decide)
      refine ⟨[some (.ref 0), none, none, some (.val d), none, none, none], dP p, [some (dPool q')], rfl, ?_, q', ps ++ [p], k, rfl, by rw [List.map_append]; rfl, fun x hx => ?_, by rw [List.length_append]; simp; omega⟩
      · have c : callK 2 f_law_pair [.ref 0, .val (.int 5)] [some (dPool q)] = .ok (.val (dP p)) [some (dPool q')] := callP (k := 0) rfl rfl rfl rfl e
        unfold E1_law_net
        walk_at "ev"
      · rcases List.mem_append.mp hx with h | h
        · exact hs x h
        · rw [List.mem_singleton.mp h]; exact b) (rangeD 0 (3 + r).toNat) [] [some (dPool q1)] ⟨q1, [], k1, rfl, rfl, fun x hx => by simp at hx, by rw [rangeD_len]; simp⟩
  obtain ⟨q', ps, k, rfl, rfl, hs, l⟩ := P0
  rw [List.length_nil] at l
  exact ⟨ps, q', k, by omega, by omega, hs, eLc_ok hi (by rw [rangeD_len, sizeLine_eq]; omega) e⟩
theorem id_range (n : Nat) (hn : n < 1000) (ρ : Ro) (m : Cells) (x : W) (h1 : ρ.length = 7) : lcF (gN 5) none E2_law_net [5] (rangeD 0 n) [] ρ m = .ok (rangeD 0 n) m := by
  have := lc_map (g := gN 5) (elt := E2_law_net) (vs := [5]) (ρ := ρ) (m := m) (fun i : Nat => D.int (0 + (i : Int))) (fun i : Nat => D.int (0 + (i : Int))) (List.range n) (fun i _ => ⟨_, rfl, by
    unfold E2_law_net
    rw [V_ap]
    show (match ((wipeR ρ [5]).set 5 (some (.val (D.int (0 + (i : Int))))))[5]? with
      | some (some w) => R.ok w m
      | _ => .bad) = _
    rw [List.getElem?_set_self (by rw [wipeR_len, h1]; decide)]⟩) []
  exact this
theorem net_body {ps : List P2} (h3 : 3 ≤ ps.length) (h9 : ps.length ≤ 7) {q : P2} (hq : POk q) (ts : List T3) (hl : ts.length < 100) (d : D) (j4 j5 j6 : Option W) : ∃ (t : T3) (q' : P2) (k4 k5 k6 : Option W) (L : Option M), POk q' ∧ TOk ps.length t ∧
    L4_law_net [some (.ref 0), some (.val (.lst (ps.map dP))), some (.ref 1), some (.val d), j4, j5, j6] [some (dPool q), some (.lst (ts.map dT))] = .ok (.next [some (.ref 0), some (.val (.lst (ps.map dP))), some (.ref 1), some (.val d), k4, k5, k6]) [some (dPool q'), some (.lst ((ts ++ [t]).map dT)), L] := by
  obtain ⟨t, q', k, ht, L, e⟩ := t_three rfl h3 (by omega) hq (.lst (ts.map dT)) (some (.val d)) j5 j6
  refine ⟨t, q', some (.ref 2), j5, j6, L, k, ht, ?_⟩
  have hi : iRange1 (aCons (eB lenD (aCons (eV 1) aNil)) aNil) [some (.ref 0), some (.val (.lst (ps.map dP))), some (.ref 1), some (.val d), j4, j5, j6] [some (dPool q), some (.lst (ts.map dT))] = .ok (rangeD 0 ps.length) [some (dPool q), some (.lst (ts.map dT))] := by
    have : aCons (eB lenD (aCons (eV 1) aNil)) aNil [some (.ref 0), some (.val (.lst (ps.map dP))), some (.ref 1), some (.val d), j4, j5, j6] [some (dPool q), some (.lst (ts.map dT))] = .ok [.val (.int (ps.length : Nat))] [some (dPool q), some (.lst (ts.map dT))] := by
      show R.ok [W.val (D.int ((ps.map dP).length : Nat))] _ = _
      rw [List.length_map]
    rw [range1_ap, this, R.bind_ok, range1K_ok (by omega) (by omega)]
    rfl
  have s1 : eLcC (iRange1 (aCons (eB lenD (aCons (eV 1) aNil)) aNil)) (gN 5) none E2_law_net [5] [some (.ref 0), some (.val (.lst (ps.map dP))), some (.ref 1), some (.val d), j4, j5, j6] [some (dPool q), some (.lst (ts.map dT))] = .ok (.ref 2) [some (dPool q), some (.lst (ts.map dT)), some (.lst (rangeD 0 ps.length))] :=
    eLcC_ok hi (by rw [rangeD_len, sizeLine_eq]; omega) (id_range ps.length (by omega) _ _ (.ref 0) rfl)
  unfold L4_law_net
  rw [seq_ap, set_ap, s1, R.bind_ok, R.bind_ok, seqK_n, expr_ap]
  simp only [List.set_cons_succ, List.set_cons_zero]
  have ht2 : aCons (eB tupleD (aCons (eLc (iRange1 (aCons (eC (.int 3)) aNil)) (gN 6) none E3_law_net [6]) aNil)) aNil [some (.ref 0), some (.val (.lst (ps.map dP))), some (.ref 1), some (.val d), some (.ref 2), j5, j6] [some (dPool q), some (.lst (ts.map dT)), some (.lst (rangeD 0 ps.length))] = .ok [.val (dT t)] [some (dPool q'), some (.lst (ts.map dT)), L] := by
    rw [consA_ap, B_ap, consA_ap, e]
    rfl
  rw [bm_ok (k := 1) (xs := ts.map dT) rfl rfl ht2, app_ok (xs := ts.map dT) rfl (by rw [List.length_map, sizeLine_eq]; omega), R.bind_ok, List.map_append]
  rfl
theorem t_lnet {q : P2} (hq : POk q) : ∃ (ps : List P2) (ts : List T3) (q' : P2), POk q' ∧ 3 ≤ ps.length ∧ ps.length ≤ 7 ∧ ts.length ≤ 7 ∧ (∀ p, p ∈ ps → Sm 5 p) ∧ (∀ t, t ∈ ts → TOk ps.length t) ∧
    f_law_net [.ref 0] [some (dPool q)] = .ok (.val (.tup [.lst (ps.map dP), .lst (ts.map dT)])) [some (dPool q')] := by
  obtain ⟨ps, q1, k1, l3, l7, hs, e1⟩ := t_pairs hq [] rfl
  obtain ⟨r, q2, r0, r1, k2, e2⟩ := t_draw k1 (n := 8) (by decide) (by decide)
  have hi : iRange1 (aCons (eCall 2 f_law_draw (aCons (eV 0) (aCons (eC (.int 8)) aNil))) aNil) [some (.ref 0), some (.val (.lst (ps.map dP))), some (.ref 1), none, none, none, none] [some (dPool q1), some (.lst [])] = .ok (rangeD 0 r.toNat) [some (dPool q2), some (.lst [])] := by
    have c1 : callK 2 f_law_draw [.ref 0, .val (.int 8)] [some (dPool q1), some (.lst [])] = .ok (.val (.int r)) [some (dPool q2), some (.lst [])] := callP (k := 0) rfl rfl rfl rfl e2
    have : aCons (eCall 2 f_law_draw (aCons (eV 0) (aCons (eC (.int 8)) aNil))) aNil [some (.ref 0), some (.val (.lst (ps.map dP))), some (.ref 1), none, none, none, none] [some (dPool q1), some (.lst [])] = .ok [.val (.int r)] [some (dPool q2), some (.lst [])] := by
      walk_at "ev"
    rw [range1_ap, this, R.bind_ok, range1K_ok r0 (by omega)]
  obtain ⟨ρ', m', e3, P0⟩ := for_inv (g := gN 3) (body := L4_law_net)
    (P := fun ds ρ m => ∃ q ts j3 j4 j5 j6, POk q ∧ ρ = [some (.ref 0), some (.val (.lst (ps.map dP))), some (.ref 1), j3, j4, j5, j6] ∧ m = [some (dPool q), some (.lst (ts.map dT))] ∧ (∀ t, t ∈ ts → TOk ps.length t) ∧ ts.length + ds.length ≤ 7) (by
      rintro d ds ρ m ⟨q, ts, j3, j4, j5, j6, hq, rfl, rfl, ht, hl⟩
      rw [List.length_cons] at hl
      obtain ⟨t, q', i4, i5, i6, L, kq, tok, e⟩ := net_body l3 l7 hq ts (by omega) d j4 j5 j6
      refine ⟨_, rfl, _, _, .inl e, q', ts ++ [t], some (.val d), trimO 2 i4, trimO 2 i5, trimO 2 i6, kq, rfl, rfl, fun x hx => ?_, by rw [List.length_append]; simp; omega⟩
      rcases List.mem_append.mp hx with h | h
      · exact ht x h
      · rw [List.mem_singleton.mp h]; exact tok) (rangeD 0 r.toNat) [some (.ref 0), some (.val (.lst (ps.map dP))), some (.ref 1), none, none, none, none] [some (dPool q2), some (.lst [])] ⟨q2, [], none, none, none, none, k2, rfl, rfl, fun t h => by simp at h, by rw [rangeD_len]; simp; omega⟩
  obtain ⟨q3, ts, j3, j4, j5, j6, k3, rfl, rfl, ht, hl⟩ := P0
  refine ⟨ps, ts, q3, k3, l3, l7, by simpa using hl, hs, ht, ?_⟩
  unfold f_law_net F_law_net
  rw [fn_ap]
  show trunc 1 (endR (sSeq _ _ [some (.ref 0), none, none, none, none, none, none] [some (dPool q)])) = _
  have s2 : sSet 2 (eLstC aNil) [some (.ref 0), some (.val (.lst (ps.map dP))), none, none, none, none, none] [some (dPool q1)] = .ok (.next [some (.ref 0), some (.val (.lst (ps.map dP))), some (.ref 1), none, none, none, none]) [some (dPool q1), some (.lst [])] := rfl
  rw [seq_ap, set_ap, e1, R.bind_ok, R.bind_ok, seqK_n, seq_ap]
  simp only [List.set_cons_succ, List.set_cons_zero]
  rw [s2, R.bind_ok, seqK_n, seq_ap, for_ap, hi, R.bind_ok, e3, R.bind_ok, seqK_n]
  rfl
theorem t_told {q : P2} (hq : POk q) : ∃ (w : P2) (b : Bool) (q' : P2), POk q' ∧ w ≠ (0, 0) ∧ Sm 4 w ∧ f_law_told_half [.ref 0] [some (dPool q)] = .ok (.val (.tup [.str "half", dP w, .bl b])) [some (dPool q')] := by
  obtain ⟨n, q1, bn, k1, e1⟩ := t_lpair hq (s := 4) (by decide) (by decide)
  obtain ⟨r, q2, r0, r1, k2, e2⟩ := t_draw k1 (n := 2) (by decide) (by decide)
  have c1 : callK 2 f_law_pair [.ref 0, .val (.int 4)] [some (dPool q)] = .ok (.val (dP n)) [some (dPool q1)] := callP (k := 0) rfl rfl rfl rfl e1
  have c2 : callK 2 f_law_draw [.ref 0, .val (.int 2)] [some (dPool q1)] = .ok (.val (.int r)) [some (dPool q2)] := callP (k := 0) rfl rfl rfl rfl e2
  have e3 : ∀ m, eqD (.val (dP n)) (.val (.tup [.int 0, .int 0])) m = .ok (.val (.bl (decide (n = (0, 0))))) m := fun m => eqD_P n (0, 0) m
  have t3 : ∀ (a b c : D) (m : Cells), tupK [.val a, .val b, .val c] m = .ok (.val (.tup [a, b, c])) m := fun a b c m => rfl
  by_cases z : n = (0, 0)
  · refine ⟨(3, -1), decide (r = 0), q2, k2, by decide, ⟨by decide, by decide⟩, ?_⟩
    subst z
    rw [decide_eq_true rfl] at e3
    unfold f_law_told_half F_law_told_half
    walk_at "ev"
  · refine ⟨n, decide (r = 0), q2, k2, z, bn, ?_⟩
    rw [decide_eq_false z] at e3
    unfold f_law_told_half F_law_told_half
    walk_at "ev"
end FD
end
section
set_option Elab.async false
set_option linter.all false
set_option autoImplicit false
namespace FM
def sw (t : T3) : T3 := (t.1, t.2.2, t.2.1)
def rot (t : T3) : T3 := (t.2.1, t.2.2, t.1)
theorem sw_ok {n : Int} {t : T3} (h : TOk n t) : TOk n (sw t) := by
  obtain ⟨h1, h2, h3, h4, h5, h6⟩ := h
  exact ⟨h1, h3, h2, fun e => h6 e.symm, fun e => h5 e.symm, fun e => h4 e.symm⟩
theorem rot_ok {n : Int} {t : T3} (h : TOk n t) : TOk n (rot t) := by
  obtain ⟨h1, h2, h3, h4, h5, h6⟩ := h
  exact ⟨h2, h3, h1, h5, h6, h4⟩
theorem cnts_sw (h : Hf) (ps : List P2) (ts : List T3) (p : P2) : h.cnts ps (ts.map sw) p = ((h.cnts ps ts p).2, (h.cnts ps ts p).1) := by
  unfold Hf.cnts
  rw [sumF_map, sumF_map]
  have e : ∀ t : T3, h.cntT ps p (sw t) = ((h.cntT ps p t).2, (h.cntT ps p t).1) := fun t => cnt_swap h _ _ _ p
  congr 1
  · exact sumF_congr fun t _ => by rw [e]
  · exact sumF_congr fun t _ => by rw [e]
theorem cnts_perm (h : Hf) (ps : List P2) {ts us : List T3} (p : P2) (e : ts.Perm us) : h.cnts ps ts p = h.cnts ps us p := by
  unfold Hf.cnts
  rw [sumF_perm _ e, sumF_perm _ e]
theorem cnts_rot (h : Hf) (ps : List P2) (ts : List T3) (p : P2) : h.cnts ps (ts.map rot).reverse p = h.cnts ps ts p := by
  rw [cnts_perm h ps p (List.reverse_perm _)]
  unfold Hf.cnts
  rw [sumF_map, sumF_map]
  have e : ∀ t : T3, h.cntT ps p (rot t) = h.cntT ps p t := fun t => cnt_rot h _ _ _ p
  congr 1
  · exact sumF_congr fun t _ => by rw [e]
  · exact sumF_congr fun t _ => by rw [e]
theorem pAt_app {ps qs : List P2} {i : Int} (h : 0 ≤ i ∧ i < ps.length) : pAt (ps ++ qs) i = pAt ps i := by
  unfold pAt
  have : i.toNat < ps.length := by omega
  rw [List.getD_eq_getElem?_getD, List.getD_eq_getElem?_getD, List.getElem?_append_left this]
theorem pAt_last (ps : List P2) (p : P2) : pAt (ps ++ [p]) (ps.length : Int) = p := by
  unfold pAt
  rw [Int.toNat_natCast, List.getD_eq_getElem?_getD, List.getElem?_append_right (Nat.le_refl _), Nat.sub_self]; rfl
def flat3 (n : Int) : List T3 := [(0, 1, n), (n, 1, 0), (1, 0, n)]
theorem flat_ok {n : Int} (hn : 3 ≤ n) {ts : List T3} (ht : ∀ t, t ∈ ts → TOk n t) : ∀ t, t ∈ ts ++ flat3 n → TOk (n + 1) t := by
  intro t h
  rcases List.mem_append.mp h with h | h
  · obtain ⟨h1, h2, h3, h4⟩ := ht t h
    exact ⟨⟨h1.1, by omega⟩, ⟨h2.1, by omega⟩, ⟨h3.1, by omega⟩, h4⟩
  · simp only [flat3, List.mem_cons, List.not_mem_nil, or_false] at h
    rcases h with rfl | rfl | rfl <;> (simp only [TOk]; omega)
theorem cnts_flat (h : Hf) {ps : List P2} (hn : 3 ≤ ps.length) {ts : List T3} (ht : ∀ t, t ∈ ts → TOk ps.length t) (p : P2) : h.cnts (ps ++ [pAt ps 0]) (ts ++ flat3 ps.length) p = h.cnts ps ts p := by
  rw [cnts_append]
  have e0 : ∀ a b : P2, side a b a = 0 := fun a b => by simp only [side, crs, sub2]; grind
  have e1 : ∀ a b : P2, side a a b = 0 := fun a b => by simp only [side, crs, sub2]; grind
  have e2 : ∀ a b : P2, side b a a = 0 := fun a b => by simp only [side, crs, sub2]; grind
  have l : pAt (ps ++ [pAt ps 0]) (ps.length : Int) = pAt ps 0 := pAt_last ps _
  have l0 : pAt (ps ++ [pAt ps 0]) 0 = pAt ps 0 := pAt_app ⟨by omega, by omega⟩
  have l1 : pAt (ps ++ [pAt ps 0]) 1 = pAt ps 1 := pAt_app ⟨by omega, by omega⟩
  have z : h.cnts (ps ++ [pAt ps 0]) (flat3 ps.length) p = (0, 0) := by
    have c1 : h.cntT (ps ++ [pAt ps 0]) p (0, 1, (ps.length : Int)) = (0, 0) := by
      unfold Hf.cntT
      simp only [l, l0, l1]
      exact cnt_flat h p (e0 _ _)
    have c2 : h.cntT (ps ++ [pAt ps 0]) p ((ps.length : Int), 1, 0) = (0, 0) := by
      unfold Hf.cntT
      simp only [l, l0, l1]
      exact cnt_flat h p (e0 _ _)
    have c3 : h.cntT (ps ++ [pAt ps 0]) p (1, 0, (ps.length : Int)) = (0, 0) := by
      unfold Hf.cntT
      simp only [l, l0, l1]
      exact cnt_flat h p (e2 _ _)
    simp [Hf.cnts, flat3, c1, c2, c3]
  rw [z]
  have e : ∀ t, t ∈ ts → h.cntT (ps ++ [pAt ps 0]) p t = h.cntT ps p t := fun t h1 => by
    obtain ⟨k1, k2, k3, _⟩ := ht t h1
    unfold Hf.cntT
    rw [pAt_app k1, pAt_app k2, pAt_app k3]
  show ((h.cnts (ps ++ [pAt ps 0]) ts p).1 + 0, (h.cnts (ps ++ [pAt ps 0]) ts p).2 + 0) = _
  rw [Int.add_zero, Int.add_zero]
  unfold Hf.cnts
  congr 1
  · exact sumF_congr fun t h1 => by rw [e t h1]
  · exact sumF_congr fun t h1 => by rw [e t h1]
theorem rimU_red {n : Int} {ts : List T3} (h : ∀ t, t ∈ ts → TOk n t) : Red (rimU ts) := cancel_red (fun w hw => (ways_ok h w hw).2.2) (fun w hw => by simp at hw)
theorem rimU_net {ts : List T3} {w : W2} (hw : w.1 ≠ w.2) : sumF (net w) (rimU ts) = sumF (net w) (ts.flatMap ways3) := by
  unfold rimU
  rw [cancel_sum (net_anti hw), sumF_nil, Int.zero_add]
theorem enc_sorted {n : Int} {ts : List T3} (h : ∀ t, t ∈ ts → TOk n t) : ((rimL ts).map fun w => n * w.1 + w.2).Pairwise (· ≤ ·) := asc_sorted 100 fun w hw => (rimU_ok h w hw).2.1
theorem law_left {n : Int} (hn : n ≤ 100) {ts us : List T3} (ht : ∀ t, t ∈ ts → TOk n t) (hu : ∀ t, t ∈ us → TOk n t) : srt ((cancel [] (rimL ts ++ rimL us)).map fun w => n * w.1 + w.2) = (rimL (ts ++ us)).map fun w => n * w.1 + w.2 := by
  have hb : ∀ t, t ∈ ts ++ us → TOk n t := fun t h => (List.mem_append.mp h).elim (ht t) (hu t)
  refine srt_uniq (List.Perm.map _ ?_) (enc_sorted hb)
  have ok : ∀ w, w ∈ rimL ts ++ rimL us → WOk n w := fun w h => (List.mem_append.mp h).elim (fun h => rimU_ok ht w ((rimL_perm hn ht).mem_iff.mp h)) (fun h => rimU_ok hu w ((rimL_perm hn hu).mem_iff.mp h))
  refine (red_perm (cancel_red (fun w hw => (ok w hw).2.2) fun w hw => by simp at hw) (rimU_red hb) (fun w hw => (cancel_mem ok (fun w hw => by simp at hw) w hw).2.2) (fun w hw => (rimU_ok hb w hw).2.2) fun w hw => ?_).trans (rimL_perm hn hb).symm
  rw [cancel_sum (net_anti hw), sumF_nil, Int.zero_add, sumF_append, sumF_perm _ (rimL_perm hn ht), sumF_perm _ (rimL_perm hn hu), rimU_net hw, rimU_net hw, rimU_net hw, List.flatMap_append, sumF_append]
theorem law_over {n : Int} (hn : n ≤ 100) {ts : List T3} (ht : ∀ t, t ∈ ts → TOk n t) : srt ((rimL ts).map fun w => n * w.2 + w.1) = (rimL (ts.map sw)).map fun w => n * w.1 + w.2 := by
  have ho : ∀ t, t ∈ ts.map sw → TOk n t := fun t h => by
    rw [List.mem_map] at h
    obtain ⟨u, hu, rfl⟩ := h
    exact sw_ok (ht u hu)
  have e0 : ((rimL ts).map fun w => n * w.2 + w.1) = ((rimL ts).map rev).map fun w => n * w.1 + w.2 := by rw [List.map_map]; rfl
  rw [e0]
  refine srt_uniq (List.Perm.map _ ?_) (enc_sorted ho)
  have p1 : ((rimL ts).map rev).Perm ((rimU ts).map rev) := (rimL_perm hn ht).map rev
  refine p1.trans ((red_perm ?_ (rimU_red ho) (fun w hw => ?_) (fun w hw => (rimU_ok ho w hw).2.2) fun w hw => ?_).trans (rimL_perm hn ho).symm)
  · intro w hw hr
    rw [List.mem_map] at hw hr
    obtain ⟨a, ha, rfl⟩ := hw
    obtain ⟨b, hb, e⟩ := hr
    have : b = rev a := by
      have := congrArg rev e
      rw [rev_rev, rev_rev] at this
      exact this
    rw [this] at hb
    exact rimU_red ht a ha hb
  · rw [List.mem_map] at hw
    obtain ⟨a, ha, rfl⟩ := hw
    exact fun e => (rimU_ok ht a ha).2.2 e.symm
  · rw [sumF_map]
    have : sumF (fun a => net w (rev a)) (rimU ts) = -sumF (net w) (rimU ts) := by
      rw [← sumF_neg]
      exact sumF_congr fun a _ => net_anti hw a
    rw [this, rimU_net hw, rimU_net hw]
    have key : ∀ t : T3, sumF (net w) (ways3 (sw t)) = -sumF (net w) (ways3 t) := fun t => by
      have a1 := net_anti hw (t.1, t.2.1)
      have a2 := net_anti hw (t.2.1, t.2.2)
      have a3 := net_anti hw (t.2.2, t.1)
      simp only [rev] at a1 a2 a3
      simp only [ways3, sw, sumF_cons, sumF_nil]
      omega
    rw [sumF_flatMap, sumF_flatMap, sumF_map, ← sumF_neg]
    exact (sumF_congr fun t _ => key t).symm
end FM
end
section
set_option Elab.async false
set_option linter.all false
set_option maxRecDepth 100000
set_option maxHeartbeats 2000000
namespace FD
open PySem PySem.Spec PyProof.Rows L2 FM
local macro_rules
  | `(tactic| walk_at "ev") => `(tactic| simp only [fn_ap, start_ap, trunc_v, endR_r, endR_n, seq_ap, seqK_n, seqK_r, seqK_b, seqK_c, nil_ap, cont_ap, ret_ap, retN_ap, if_ap, eIf_ap, ifK_t, ifK_f, set_ap, expr_ap, asg_ap, asgK_ap, par_ap, par3_ap, aug_ap, V_ap, C_ap, e1_ap, e2_ap, and_ap, or_ap, andK_ap, orK_ap, not_ap, notK_ap, tB_ap, tBK_ap, tand_ap, tor_ap, tnot_ap,
      tup_ap, lst_ap, tupK_2, tupK_3, lstK_0, lstK_1, lstK_2, lstK_3, nilA_ap, consA_ap, call_ap, B_ap, fld_ap, chain_ap, for_ap, for_nil, for_cons, forK_n, forK_c, forK_r, iSeq_ap, iTup_ap, iSeqK_l, iTupK_t, trimR_nil, trimR_cons, trimO_v, trimO_n, meth_ap, sub_ap, set0, set1, ixr0, ixr1, pow_18, lstC_ap, lstCK_2, lstCK_0, fldD, clsOf, gN, gT, gU, gsCons, gsNil,
      add_ii, sub_ii, mul_ii, fdiv_ii, mod_ii, lt_ii, le_ii, gt_ii, ge_ii, neg_i, iadd_ii, isub_ii, ix_t, ix_l, is_non, int_i, int_b, abs_i, len_l, eqD_int, neD_int, eqD_bl, eqD_P, neD_P, D.isNone,
      R.bind_ok, R.bind_ex, R.bind_bad, List.map_cons, List.map_nil, List.length_cons, List.length_nil, List.cons_append, List.nil_append, List.append_nil, List.getElem?_cons_zero, List.getElem?_cons_succ, List.take_zero, List.take_nil, List.take_succ_cons, atI_0, atI_1, atI_2,
      List.reduceReplicate, Nat.reduceSub, List.replicate_zero, List.replicate_succ, Nat.sub_self, if_true, if_false, Bool.false_eq_true, Nat.le_refl, Nat.zero_le, reduceIte, Nat.zero_add, Nat.reduceAdd, Nat.reduceLeDiff, List.set_cons_zero, List.set_cons_succ, List.set_nil, Bool.not_true, Bool.not_false, decide_true, decide_false, Bool.true_and, Bool.false_and, Bool.and_true, Bool.and_false, Bool.true_or, Bool.false_or, *])

theorem left_body {l : List W2} (hl : l.length < sizeLine) (pr : D) (w : W2) : L1_law_left [some (.val pr), some (.ref 0), some (.val (dP w))] [some (.lst (l.map dP))] = .ok (.next [some (.val pr), some (.ref 0), some (.val (dP w))]) [some (.lst ((FM.step l w).map dP))] := by
  have e0 : eTup (aCons (e2 ixD (eV 2) (eC (.int 1))) (aCons (e2 ixD (eV 2) (eC (.int 0))) aNil)) [some (.val pr), some (.ref 0), some (.val (dP w))] [some (.lst (l.map dP))] = .ok (.val (dP (rev w))) [some (.lst (l.map dP))] := by
    unfold rev
    walk_at "ev"
  have e2 : tB (e2 (inD false) (eTup (aCons (e2 ixD (eV 2) (eC (.int 1))) (aCons (e2 ixD (eV 2) (eC (.int 0))) aNil))) (eV 1)) [some (.val pr), some (.ref 0), some (.val (dP w))] [some (.lst (l.map dP))] = .ok (decide (rev w ∈ l)) [some (.lst (l.map dP))] := by
    have := in_ok (m := [some (.lst (l.map dP))]) (k := 0) (xs := l.map dP) (d := dP (rev w)) rfl rfl (cmp_P l)
    rw [has_P] at this
    rw [tB_ap, e2_ap, e0, R.bind_ok]
    show ((inD false (.val (dP (rev w))) (.ref 0) [some (.lst (l.map dP))]).bind tBK) = _
    rw [this]
    rfl
  unfold L1_law_left
  rw [if_ap, e2, R.bind_ok]
  unfold FM.step
  by_cases q : rev w ∈ l
  · rw [decide_eq_true q, ifK_t, if_pos q]
    obtain ⟨n, h1, h2⟩ := ix_P (rev w) l q
    rw [expr_ap, bm_ok (k := 0) (xs := l.map dP) (ws := [.val (dP (rev w))]) (m1 := [some (.lst (l.map dP))]) rfl rfl (by rw [consA_ap, e0]; rfl), rem_ok (xs := l.map dP) rfl rfl (cmp_P l) h1, R.bind_ok, h2]
    rfl
  · rw [decide_eq_false q, ifK_f, if_neg q]
    rw [expr_ap, bm_ok (k := 0) (xs := l.map dP) (ws := [.val (dP w)]) (m1 := [some (.lst (l.map dP))]) rfl rfl rfl, app_ok (xs := l.map dP) rfl (by rw [List.length_map]; exact hl), R.bind_ok, List.map_append]
    rfl
theorem left_loop (pr : D) : ∀ (ws : List W2) (l : List W2) (j2 : Option W), l.length + ws.length < sizeLine → ∃ k2, forF (gN 2) L1_law_left (ws.map dP) [some (.val pr), some (.ref 0), j2] [some (.lst (l.map dP))] = .ok (.next [some (.val pr), some (.ref 0), k2]) [some (.lst ((cancel l ws).map dP))]
  | [], l, j2, _ => ⟨j2, rfl⟩
  | w :: ws, l, j2, hz => by
    rw [List.length_cons] at hz
    have hs := step_len l w
    obtain ⟨k2, ih⟩ := left_loop pr ws (FM.step l w) (some (.val (dP w))) (by omega)
    refine ⟨k2, ?_⟩
    rw [List.map_cons, for_cons]
    show forK _ _ _ _ (L1_law_left [some (.val pr), some (.ref 0), some (.val (dP w))] [some (.lst (l.map dP))]) = _
    rw [left_body (by omega)]
    exact ih
theorem t_left {ws : List W2} (hl : ws.length < 100000) : f_law_left [.val (.lst (ws.map dP))] [] = .ok (.val (.lst ((cancel [] ws).map dP))) [] := by
  obtain ⟨k2, e⟩ := left_loop (.lst (ws.map dP)) ws [] none (by rw [sizeLine_eq]; simp; omega)
  unfold f_law_left F_law_left
  rw [fn_ap]
  show trunc 0 (endR ((forF (gN 2) L1_law_left (ws.map dP) [some (.val (.lst (ws.map dP))), some (.ref 0), none] [some (.lst [])]).bind (seqK (sFz 1 (sRet (eV 1)))))) = _
  have e' := e
  simp only [List.map_nil] at e'
  rw [e']
  rfl
theorem pyI_depth : ∀ l : List Int, PyData.depthAll (D.pyAll (l.map D.int)) ≤ 0
  | [] => by simp [D.pyAll, PyData.depthAll]
  | w :: l => by
    have h1 := pyI_depth l
    have h2 : (D.int w).py.depth ≤ 0 := by
      show PyData.depth (.int w) ≤ 0
      simp [PyData.depth]
    rw [List.map_cons, D.pyAll]
    simp only [PyData.depthAll]
    omega
theorem pyI_lay : ∀ l : List Int, PyData.canLayAll0 (D.pyAll (l.map D.int)) = true
  | [] => rfl
  | w :: l => by
    rw [List.map_cons, D.pyAll]
    simp only [PyData.canLayAll0, pyI_lay l, Bool.and_true]
    rfl
theorem plain_I : ∀ l : List Int, D.plainAll (l.map D.int) = true
  | [] => rfl
  | w :: l => by
    rw [List.map_cons, D.plainAll, plain_I l]; rfl
theorem cmp_I (l : List Int) : (D.lst (l.map D.int)).cmp = true := by
  unfold D.cmp
  rw [Bool.and_eq_true]
  refine ⟨plain_I l, ?_⟩
  show (PyData.canLay0 (.list (D.pyAll (l.map D.int))) && decide (PyData.depth (.list (D.pyAll (l.map D.int))) ≤ 64)) = true
  rw [Bool.and_eq_true]
  refine ⟨?_, decide_eq_true ?_⟩
  · simp only [PyData.canLay0]
    exact pyI_lay l
  · have := pyI_depth l
    simp only [PyData.depth]
    omega
theorem eqvAll_I : ∀ l : List Int, PyData.eqvAll (D.pyAll (l.map D.int)) (D.pyAll (l.map D.int)) = true
  | [] => by simp [D.pyAll, PyData.eqvAll]
  | w :: l => by
    rw [List.map_cons, D.pyAll]
    simp only [PyData.eqvAll, eqvAll_I l, Bool.and_true]
    exact (eqv_int w w).trans (decide_eq_true rfl)
theorem neD_I (l : List Int) (m : Cells) : neD (.val (.lst (l.map D.int))) (.val (.lst (l.map D.int))) m = .ok (.val (.bl false)) m := by
  rw [neD_val, if_pos ⟨cmp_I l, cmp_I l⟩]
  have : eqvD (.lst (l.map D.int)) (.lst (l.map D.int)) = true := by
    show PyData.eqv (.list (D.pyAll (l.map D.int))) (.list (D.pyAll (l.map D.int))) = true
    simp only [PyData.eqv]
    exact eqvAll_I l
  rw [this]; rfl
/-! ### a turn of the inner loop -/
structure Law47 (h : Hf) (ps : List P2) (a b : List T3) : Prop where
  hb : HB h
  hw : h.w ≠ (0, 0)
  nb : NB ps
  l3 : 3 ≤ ps.length
  l7 : ps.length ≤ 7
  la : a.length ≤ 7
  lb : b.length ≤ 7
  ta : ∀ t, t ∈ a → TOk ps.length t
  tb : ∀ t, t ∈ b → TOk ps.length t
theorem sm_bp {s : Int} (hs : s < 1000) {p : P2} (h : (p.1.natAbs : Int) ≤ s ∧ (p.2.natAbs : Int) ≤ s) : BP p := by
  have : (1000 : Nat) ≤ 2 ^ 120 := by decide
  exact ⟨by show p.1.natAbs < _; omega, by show p.2.natAbs < _; omega⟩
theorem inner_body {h : Hf} {ps : List P2} {a b : List T3} (L : Law47 h ps a b) {q : P2} (hq : POk q) (s0 s1 s3 s4 s5 s6 s14 s15 s16 s17 s18 s19 s20 s21 s22 s23 : Option W) : ∃ q' k15 k16 k17, POk q' ∧
    L6_law [s0, s1, some (.ref 0), s3, s4, s5, s6, some (.val (dHalf h)), some (.val (dNet ps a)), some (.val (dNet ps b)), some (.val (dNet ps (a ++ b))), some (.val (dNet ps (a.map sw))), some (.val (dNet ps (a.map rot).reverse)), some (.val (dNet (ps ++ [pAt ps 0]) (a ++ flat3 ps.length))), s14, s15, s16, s17, s18, s19, s20, s21, s22, s23] [some (dPool q)] =
      .ok (.next [s0, s1, some (.ref 0), s3, s4, s5, s6, some (.val (dHalf h)), some (.val (dNet ps a)), some (.val (dNet ps b)), some (.val (dNet ps (a ++ b))), some (.val (dNet ps (a.map sw))), some (.val (dNet ps (a.map rot).reverse)), some (.val (dNet (ps ++ [pAt ps 0]) (a ++ flat3 ps.length))), s14, k15, k16, k17, s18, s19, s20, s21, s22, s23]) [some (dPool q')] := by
  obtain ⟨p, q', hp, k, e0⟩ := t_lpair hq (s := 6) (by decide) (by decide)
  have bp : BP p := sm_bp (by decide) hp
  have tab : ∀ t, t ∈ a ++ b → TOk ps.length t := fun t ht => (List.mem_append.mp ht).elim (L.ta t) (L.tb t)
  have tsw : ∀ t, t ∈ a.map sw → TOk ps.length t := fun t ht => by
    rw [List.mem_map] at ht
    obtain ⟨u, hu, rfl⟩ := ht
    exact sw_ok (L.ta u hu)
  have trt : ∀ t, t ∈ (a.map rot).reverse → TOk ps.length t := fun t ht => by
    rw [List.mem_reverse, List.mem_map] at ht
    obtain ⟨u, hu, rfl⟩ := ht
    exact rot_ok (L.ta u hu)
  have lf : (ps ++ [pAt ps 0]).length = ps.length + 1 := by simp
  have tfl : ∀ t, t ∈ a ++ flat3 ps.length → TOk (ps ++ [pAt ps 0]).length t := by
    rw [lf]
    exact flat_ok (by have := L.l3; omega) L.ta
  have nfl : NB (ps ++ [pAt ps 0]) := fun x hx => (List.mem_append.mp hx).elim (L.nb x) fun hx => by
    rw [List.mem_singleton.mp hx]; exact nb_at L.nb 0
  have c0 : callK 2 f_law_pair [.ref 0, .val (.int 6)] [some (dPool q)] = .ok (.val (dP p)) [some (dPool q')] := callP (k := 0) rfl rfl rfl rfl e0
  have l7 := L.l7
  have la := L.la
  have lb := L.lb
  have pd : PtD (dP p) p := .inl rfl
  have pe : PtD (dPoint p) p := .inr rfl
  have c1 : ∀ m, callK 3 f_counted_owners [.val (dHalf h), .val (dNet ps a), .val (dP p)] m = .ok (.val (dP (h.cnts ps a p))) m := fun m => callV rfl rfl rfl (t_counted L.hb L.nb L.ta pd bp)
  have c2 : ∀ m, callK 3 f_counted_owners [.val (dHalf h), .val (dNet ps b), .val (dPoint p)] m = .ok (.val (dP (h.cnts ps b p))) m := fun m => callV rfl rfl rfl (t_counted L.hb L.nb L.tb pe bp)
  have c3 : ∀ m, callK 3 f_counted_owners [.val (dHalf h), .val (dNet ps (a ++ b)), .val (dP p)] m = .ok (.val (dP ((h.cnts ps a p).1 + (h.cnts ps b p).1, (h.cnts ps a p).2 + (h.cnts ps b p).2))) m := fun m => by
    rw [← cnts_append]
    exact callV rfl rfl rfl (t_counted L.hb L.nb tab pd bp)
  have c4 : ∀ m, callK 3 f_counted_owners [.val (dHalf h), .val (dNet ps (a.map sw)), .val (dP p)] m = .ok (.val (dP ((h.cnts ps a p).2, (h.cnts ps a p).1))) m := fun m => by
    rw [← cnts_sw]
    exact callV rfl rfl rfl (t_counted L.hb L.nb tsw pd bp)
  have c5 : ∀ m, callK 3 f_counted_owners [.val (dHalf h), .val (dNet ps (a.map rot).reverse), .val (dP p)] m = .ok (.val (dP (h.cnts ps a p))) m := fun m => by
    rw [← cnts_rot h ps a p]
    exact callV rfl rfl rfl (t_counted L.hb L.nb trt pd bp)
  have c6 : ∀ m, callK 3 f_counted_owners [.val (dHalf h), .val (dNet (ps ++ [pAt ps 0]) (a ++ flat3 ps.length)), .val (dP p)] m = .ok (.val (dP (h.cnts ps a p))) m := fun m => by
    rw [← cnts_flat h L.l3 L.ta p]
    exact callV rfl rfl rfl (t_counted L.hb nfl tfl pd bp)
  have c7 : ∀ m, callK 3 f_rim_turns [.val (dHalf h), .val (dNet ps (a.map sw)), .val (dP p)] m = .ok (.val (.int (-((h.cnts ps a p).1 - (h.cnts ps a p).2)))) m := fun m => by
    have e : -((h.cnts ps a p).1 - (h.cnts ps a p).2) = (h.cnts ps (a.map sw) p).1 - (h.cnts ps (a.map sw) p).2 := by rw [cnts_sw]; show _ = (h.cnts ps a p).2 - (h.cnts ps a p).1; omega
    rw [e]
    exact callV rfl rfl rfl (t_rimturns L.hb L.hw L.nb (by rw [List.length_map]; omega) (by omega) tsw pd bp)
  have c8 : ∀ m, callK 3 f_rim_turns [.val (dHalf h), .val (dNet ps a), .val (dP p)] m = .ok (.val (.int ((h.cnts ps a p).1 - (h.cnts ps a p).2))) m := fun m => callV rfl rfl rfl (t_rimturns L.hb L.hw L.nb (by omega) (by omega) L.ta pd bp)
  have c9 : ∀ m, callK 3 f_rim_turns [.val (dHalf h), .val (dNet ps b), .val (dP p)] m = .ok (.val (.int ((h.cnts ps b p).1 - (h.cnts ps b p).2))) m := fun m => callV rfl rfl rfl (t_rimturns L.hb L.hw L.nb (by omega) (by omega) L.tb pd bp)
  have c10 : ∀ m, callK 3 f_signed [.val (dHalf h), .val (dNet ps a), .val (dP p)] m = .ok (.val (.int ((h.cnts ps a p).1 - (h.cnts ps a p).2))) m := fun m => callV rfl rfl rfl (t_signed L.hb L.nb L.ta pd bp)
  have c11 : ∀ m, callK 3 f_signed [.val (dHalf h), .val (dNet ps (a ++ b)), .val (dP p)] m = .ok (.val (.int ((h.cnts ps a p).1 - (h.cnts ps a p).2 + ((h.cnts ps b p).1 - (h.cnts ps b p).2)))) m := fun m => by
    have e : (h.cnts ps a p).1 - (h.cnts ps a p).2 + ((h.cnts ps b p).1 - (h.cnts ps b p).2) = (h.cnts ps (a ++ b) p).1 - (h.cnts ps (a ++ b) p).2 := by
      rw [cnts_append]
      show _ = ((h.cnts ps a p).1 + (h.cnts ps b p).1) - ((h.cnts ps a p).2 + (h.cnts ps b p).2)
      omega
    rw [e]
    exact callV rfl rfl rfl (t_signed L.hb L.nb tab pd bp)
  have cp : ∀ ρ : Ro, ρ[15]? = some (some (.val (dP p))) → ∀ m, eFz (eMake "Point" 3 f_Point_init (aCons (e2 ixD (eV 15) (eC (.int 0))) (aCons (e2 ixD (eV 15) (eC (.int 1))) aNil))) ρ m = .ok (.val (dPoint p)) m := fun ρ hρ m => by
    have ht : aCons (e2 ixD (eV 15) (eC (.int 0))) (aCons (e2 ixD (eV 15) (eC (.int 1))) aNil) ρ m = .ok [.val (.int p.1), .val (.int p.2)] m := by
      walk_at "ev"
    exact fz_make ht (Nat.le_refl _) rfl rfl rfl (t_Point p)
  refine ⟨q', some (.val (dP p)), some (.val (dP (h.cnts ps a p))), some (.val (dP (h.cnts ps b p))), k, ?_⟩
  clear tab tsw trt tfl nfl e0 lf
  generalize dNet ps a = na at *
  generalize dNet ps b = nb at *
  generalize dNet ps (a ++ b) = nab at *
  generalize dNet ps (a.map sw) = nsw at *
  generalize dNet ps (a.map rot).reverse = nrt at *
  generalize dNet (ps ++ [pAt ps 0]) (a ++ flat3 ps.length) = nfl at *
  generalize h.cnts ps a p = A at *
  generalize h.cnts ps b p = B at *
  generalize dHalf h = hh at *
  have n1 : ∀ (x : P2) m, neD (.val (dP x)) (.val (dP x)) m = .ok (.val (.bl false)) m := fun x m => by
    have := neD_P x x m
    rw [decide_eq_true rfl] at this
    exact this
  have n2 : ∀ (x : Int) m, neD (.val (.int x)) (.val (.int x)) m = .ok (.val (.bl false)) m := fun x m => by
    have := neD_int x x m
    rw [decide_eq_true rfl] at this
    exact this
  unfold L6_law
  walk_at "ev"
end FD
end
section
set_option Elab.async false
set_option linter.all false
set_option maxRecDepth 100000
set_option maxHeartbeats 2000000
namespace FD
open PySem PySem.Spec PyProof.Rows L2 FM
local macro_rules
  | `(tactic| walk_at "ev") => `(tactic| simp only [fn_ap, start_ap, trunc_v, endR_r, endR_n, seq_ap, seqK_n, seqK_r, seqK_b, seqK_c, nil_ap, cont_ap, ret_ap, retN_ap, if_ap, eIf_ap, ifK_t, ifK_f, set_ap, expr_ap, asg_ap, asgK_ap, par_ap, par3_ap, aug_ap, V_ap, C_ap, e1_ap, e2_ap, and_ap, or_ap, andK_ap, orK_ap, not_ap, notK_ap, tB_ap, tBK_ap, tand_ap, tor_ap, tnot_ap,
      tup_ap, lst_ap, tupK_2, tupK_3, lstK_0, lstK_1, lstK_2, lstK_3, nilA_ap, consA_ap, call_ap, B_ap, fld_ap, chain_ap, for_ap, for_nil, for_cons, forK_n, forK_c, forK_r, iSeq_ap, iTup_ap, iSeqK_l, iTupK_t, trimR_nil, trimR_cons, trimO_v, trimO_n, meth_ap, sub_ap, set0, set1, ixr0, ixr1, pow_18, lstC_ap, lstCK_2, lstCK_0, fldD, clsOf, gN, gT, gU, gsCons, gsNil,
      add_ii, sub_ii, mul_ii, fdiv_ii, mod_ii, lt_ii, le_ii, gt_ii, ge_ii, neg_i, iadd_ii, isub_ii, ix_t, ix_l, is_non, int_i, int_b, abs_i, len_l, eqD_int, neD_int, eqD_bl, eqD_P, neD_P, D.isNone,
      R.bind_ok, R.bind_ex, R.bind_bad, List.map_cons, List.map_nil, List.length_cons, List.length_nil, List.cons_append, List.nil_append, List.append_nil, List.getElem?_cons_zero, List.getElem?_cons_succ, List.take_zero, List.take_nil, List.take_succ_cons, atI_0, atI_1, atI_2,
      List.reduceReplicate, Nat.reduceSub, List.replicate_zero, List.replicate_succ, Nat.sub_self, if_true, if_false, Bool.false_eq_true, Nat.le_refl, Nat.zero_le, reduceIte, Nat.zero_add, Nat.reduceAdd, Nat.reduceLeDiff, List.set_cons_zero, List.set_cons_succ, List.set_nil, Bool.not_true, Bool.not_false, decide_true, decide_false, Bool.true_and, Bool.false_and, Bool.and_true, Bool.and_false, Bool.true_or, Bool.false_or, *])

theorem callNew {F : FN} {n : Nat} {ws : List W} {m : Cells} {c : M} (hn : ws.length = n) (h2 : refsOf ws = []) (h3 : renum 0 ws = ws) (e : F ws [] = .ok (.ref 0) [some c]) : callK n F ws m = .ok (.ref m.length) (m ++ [some c]) := by
  unfold callK callF
  rw [if_pos hn, h2, h3]
  show (match F ws [] with
    | .ok w mc => _
    | .ex x mc => _
    | .bad => _) = _
  rw [e]
  rfl
theorem max3 (a b c n : Int) : decide (maxI [a, b, c] < n) = decide (a < n ∧ b < n ∧ c < n) := by
  have h := maxI_mem a [b, c]
  rw [decide_eq_decide]
  constructor
  · intro q
    have h1 := h.2 a (by simp)
    have h2 := h.2 b (by simp)
    have h3 := h.2 c (by simp)
    omega
  · intro q
    have := h.1
    simp only [List.mem_cons, List.not_mem_nil, or_false] at this
    omega
theorem second_ev {ns : List Int} {k : Nat} {q : P2} (hq : POk q) {ps : List P2} (hl : ps.length ≤ 7) (a : List T3) (j5 j6 j7 j8 j9 j10 j11 j12 j13 j14 j15 j16 j17 j18 j19 j20 j21 j22 j23 : Option W) : ∃ (b : List T3) (q' : P2), POk q' ∧ b.length ≤ 7 ∧ (∀ t, t ∈ b → TOk ps.length t) ∧
    eLc (iSeq (e2 ixD (eCall 1 f_law_net (aCons (eV 2) aNil)) (eC (.int 1)))) (gN 19) (some T2_law) E3_law [19] [some (.val (.scr (ns.map D.int))), some (.val (.int (k : Nat))), some (.ref 0), some (.val (.lst (ps.map dP))), some (.val (.lst (a.map dT))), j5, j6, j7, j8, j9, j10, j11, j12, j13, j14, j15, j16, j17, j18, j19, j20, j21, j22, j23] [some (dPool q)] = .ok (.val (.lst (b.map dT))) [some (dPool q')] := by
  obtain ⟨ps2, ts, q', k1, l3, l7, lt, hs, ht, e⟩ := t_lnet hq
  have c1 : callK 1 f_law_net [.ref 0] [some (dPool q)] = .ok (.val (.tup [.lst (ps2.map dP), .lst (ts.map dT)])) [some (dPool q')] := callP (k := 0) rfl rfl rfl rfl e
  have hi : iSeq (e2 ixD (eCall 1 f_law_net (aCons (eV 2) aNil)) (eC (.int 1))) [some (.val (.scr (ns.map D.int))), some (.val (.int (k : Nat))), some (.ref 0), some (.val (.lst (ps.map dP))), some (.val (.lst (a.map dT))), j5, j6, j7, j8, j9, j10, j11, j12, j13, j14, j15, j16, j17, j18, j19, j20, j21, j22, j23] [some (dPool q)] = .ok (ts.map dT) [some (dPool q')] := by
    walk_at "ev"
  refine ⟨ts.filter fun t => decide (maxI [t.1, t.2.1, t.2.2] < (ps.length : Int)), q', k1, Nat.le_trans (List.length_filter_le _ _) lt, fun t h => ?_, ?_⟩
  · obtain ⟨h1, h2⟩ := List.mem_filter.mp h
    obtain ⟨g1, g2, g3, g4, g5, g6⟩ := ht t h1
    rw [max3] at h2
    have h2 := of_decide_eq_true h2
    exact ⟨⟨g1.1, h2.1⟩, ⟨g2.1, h2.2.1⟩, ⟨g3.1, h2.2.2⟩, g4, g5, g6⟩
  · refine eLc_filter (g := gN 19) (t := T2_law) (elt := E3_law) (vs := [19]) dT dT (fun t => decide (maxI [t.1, t.2.1, t.2.2] < (ps.length : Int))) ts hi (by rw [sizeLine_eq]; omega) fun t _ => ⟨_, rfl, ?_, fun _ => rfl⟩
    have key : ∀ ρ : Ro, ρ[19]? = some (some (.val (dT t))) → ρ[3]? = some (some (.val (.lst (ps.map dP)))) → (∀ i, (gN 23) (.val (.int i)) (wipeR ρ [23]) = some ((wipeR ρ [23]).set 23 (some (.val (.int i))))) → ρ.length = 24 → T2_law ρ [some (dPool q')] = .ok (decide (maxI [t.1, t.2.1, t.2.2] < (ps.length : Int))) [some (dPool q')] := by
      intro ρ h19 h3 h23 hlen
      have c : eLc (iTupD (eV 19)) (gN 23) none E1_law [23] ρ [some (dPool q')] = .ok (.val (.lst ([t.1, t.2.1, t.2.2].map fun i => D.int i))) [some (dPool q')] := by
        refine eLc_map (g := gN 23) (elt := E1_law) (vs := [23]) (ρ := ρ) (fun i => D.int i) (fun i => D.int i) [t.1, t.2.1, t.2.2] ?_ (by show 3 < sizeLine; decide) fun i _ => ⟨_, h23 i, ?_⟩
        · rw [iTup_ap, V_ap, h19]; rfl
        · have : ((wipeR ρ [23]).set 23 (some (.val (.int i))))[23]? = some (some (.val (.int i))) := List.getElem?_set_self (by rw [wipeR_len, hlen]; decide)
          unfold E1_law
          rw [B_ap, consA_ap, V_ap, this]; rfl
      unfold T2_law
      rw [tB_ap, e2_ap, B_ap, consA_ap, c, R.bind_ok, nilA_ap, R.bind_ok, R.bind_ok]
      have mx : maxD [.val (.lst ([t.1, t.2.1, t.2.2].map fun i => D.int i))] [some (dPool q')] = .ok (.val (.int (maxI [t.1, t.2.1, t.2.2]))) [some (dPool q')] := rfl
      rw [mx, R.bind_ok, B_ap, consA_ap, V_ap, h3]
      show ((lenD [.val (.lst (ps.map dP))] [some (dPool q')]).bind (ltD (.val (.int (maxI [t.1, t.2.1, t.2.2]))))).bind tBK = _
      rw [len_l, List.length_map]
      rfl
    exact key _ rfl rfl (fun i => rfl) rfl
end FD
end
section
set_option Elab.async false
set_option linter.all false
set_option maxRecDepth 100000
set_option maxHeartbeats 4000000
namespace FD
open PySem PySem.Spec PyProof.Rows L2 FM
local macro_rules
  | `(tactic| walk_at "ev") => `(tactic| simp only [fn_ap, start_ap, trunc_v, endR_r, endR_n, seq_ap, seqK_n, seqK_r, seqK_b, seqK_c, nil_ap, cont_ap, ret_ap, retN_ap, if_ap, eIf_ap, ifK_t, ifK_f, set_ap, expr_ap, asg_ap, asgK_ap, par_ap, par3_ap, aug_ap, V_ap, C_ap, e1_ap, e2_ap, and_ap, or_ap, andK_ap, orK_ap, not_ap, notK_ap, tB_ap, tBK_ap, tand_ap, tor_ap, tnot_ap,
      tup_ap, lst_ap, tupK_2, tupK_3, lstK_0, lstK_1, lstK_2, lstK_3, nilA_ap, consA_ap, call_ap, B_ap, fld_ap, chain_ap, for_ap, for_nil, for_cons, forK_n, forK_c, forK_r, iSeq_ap, iTup_ap, iSeqK_l, iTupK_t, trimR_nil, trimR_cons, trimO_v, trimO_n, meth_ap, sub_ap, set0, set1, ixr0, ixr1, pow_18, lstC_ap, lstCK_2, lstCK_0, fldD, clsOf, gN, gT, gU, gsCons, gsNil,
      add_ii, sub_ii, mul_ii, fdiv_ii, mod_ii, lt_ii, le_ii, gt_ii, ge_ii, neg_i, iadd_ii, isub_ii, ix_t, ix_l, is_non, int_i, int_b, abs_i, len_l, eqD_int, neD_int, eqD_bl, eqD_P, neD_P, D.isNone,
      R.bind_ok, R.bind_ex, R.bind_bad, List.map_cons, List.map_nil, List.length_cons, List.length_nil, List.cons_append, List.nil_append, List.append_nil, List.getElem?_cons_zero, List.getElem?_cons_succ, List.take_zero, List.take_nil, List.take_succ_cons, atI_0, atI_1, atI_2,
      List.reduceReplicate, Nat.reduceSub, List.replicate_zero, List.replicate_succ, Nat.sub_self, if_true, if_false, Bool.false_eq_true, Nat.le_refl, Nat.zero_le, reduceIte, Nat.zero_add, Nat.reduceAdd, Nat.reduceLeDiff, List.set_cons_zero, List.set_cons_succ, List.set_nil, Bool.not_true, Bool.not_false, decide_true, decide_false, Bool.true_and, Bool.false_and, Bool.and_true, Bool.and_false, Bool.true_or, Bool.false_or, *])

theorem fz_v {i : Nat} {f : SF} {ρ : Ro} {m : Cells} {d : D} (h : ρ[i]? = some (some (.val d))) : sFz i f ρ m = f ρ m := by
  unfold sFz
  rw [h]
theorem add_ll (xs ys : List D) (m : Cells) (h : xs.length + ys.length ≤ sizeLine) : addD (.val (.lst xs)) (.val (.lst ys)) m = .ok (.val (.lst (xs ++ ys))) m := if_pos h
theorem mul_small {n : Nat} (h : n ≤ 100) (x : Int) : mulOk (n : Int) x = true := by
  unfold mulOk
  rw [Bool.or_eq_true, Bool.or_eq_true]
  exact .inl (.inr (decide_eq_true (by
    have : (101 : Int) ≤ 2 ^ 64 := by decide
    have : -(2 ^ 64) < (0 : Int) := by decide
    omega)))
theorem enc_ev {g : GF} {elt : EF} {it : IF} {ρ : Ro} {m : Cells} (ws : List W2) (enc : W2 → Int) (hi : it ρ m = .ok (ws.map dP) m) (hl : ws.length < 100000) (h : ∀ w : W2, ∃ ρ1, g (.val (dP w)) (wipeR ρ [20, 21]) = some ρ1 ∧ elt ρ1 m = .ok (.val (.int (enc w))) m) : eLc it g none elt [20, 21] ρ m = .ok (.val (.lst ((ws.map enc).map D.int))) m := by
  have := eLc_map (it := it) (g := g) (elt := elt) (vs := [20, 21]) (ρ := ρ) (m := m) (m1 := m) dP (fun w => D.int (enc w)) ws hi (by rw [sizeLine_eq]; omega) fun w _ => h w
  rw [this, List.map_map]; rfl
theorem law_turn {ns : List Int} (hns : ns.length ≤ 63) {k : Nat} (hk : k < 1000) (j2 j3 j4 j5 j6 j7 j8 j9 j10 j11 j12 j13 j14 j15 j16 j17 j18 j19 j20 j21 j22 j23 : Option W) : ∃ ρ' m', L11_law [some (.val (.scr (ns.map D.int))), some (.val (.int (k : Nat))), j2, j3, j4, j5, j6, j7, j8, j9, j10, j11, j12, j13, j14, j15, j16, j17, j18, j19, j20, j21, j22, j23] [] = .ok (.next ρ') m' ∧ ρ'.length = 24 ∧ ρ'[0]? = some (some (.val (.scr (ns.map D.int)))) := by
  obtain ⟨q1, kq1, g1⟩ := t_hand hk hns
  have h1 : sSet 2 (eCall 2 f_law_hand (aCons (eV 0) (aCons (eV 1) aNil))) [some (.val (.scr (ns.map D.int))), some (.val (.int (k : Nat))), j2, j3, j4, j5, j6, j7, j8, j9, j10, j11, j12, j13, j14, j15, j16, j17, j18, j19, j20, j21, j22, j23] [] = .ok (.next [some (.val (.scr (ns.map D.int))), some (.val (.int (k : Nat))), some (.ref 0), j3, j4, j5, j6, j7, j8, j9, j10, j11, j12, j13, j14, j15, j16, j17, j18, j19, j20, j21, j22, j23]) [some (dPool q1)] := by
    have c : callK 2 f_law_hand [.val (.scr (ns.map D.int)), .val (.int (k : Nat))] [] = .ok (.ref 0) [some (dPool q1)] := callNew rfl rfl rfl g1
    rw [set_ap, call_ap]
    show ((callK 2 f_law_hand [.val (.scr (ns.map D.int)), .val (.int (k : Nat))] []).bind _) = _
    rw [c]; rfl
  obtain ⟨ps, a, q2, kq2, l3, l7, la, hs, ta, g2⟩ := t_lnet kq1
  have h2 : sAsg (eCall 1 f_law_net (aCons (eV 2) aNil)) (gT 2 (gsCons (gN 3) (gsCons (gN 4) gsNil))) [some (.val (.scr (ns.map D.int))), some (.val (.int (k : Nat))), some (.ref 0), j3, j4, j5, j6, j7, j8, j9, j10, j11, j12, j13, j14, j15, j16, j17, j18, j19, j20, j21, j22, j23] [some (dPool q1)] = .ok (.next [some (.val (.scr (ns.map D.int))), some (.val (.int (k : Nat))), some (.ref 0), some (.val (.lst (ps.map dP))), some (.val (.lst (a.map dT))), j5, j6, j7, j8, j9, j10, j11, j12, j13, j14, j15, j16, j17, j18, j19, j20, j21, j22, j23]) [some (dPool q2)] := by
    have c : callK 1 f_law_net [.ref 0] [some (dPool q1)] = .ok (.val (.tup [.lst (ps.map dP), .lst (a.map dT)])) [some (dPool q2)] := callP (k := 0) rfl rfl rfl rfl g2
    rw [asg_ap, call_ap]
    show ((callK 1 f_law_net [.ref 0] [some (dPool q1)]).bind _) = _
    rw [c]; rfl
  obtain ⟨b, q3, kq3, lb, tb, g3⟩ := second_ev (ns := ns) (k := k) kq2 l7 a j5 j6 j7 j8 j9 j10 j11 j12 j13 j14 j15 j16 j17 j18 j19 j20 j21 j22 j23
  have h3 : sSet 5 (eLc (iSeq (e2 ixD (eCall 1 f_law_net (aCons (eV 2) aNil)) (eC (.int 1)))) (gN 19) (some T2_law) E3_law [19]) [some (.val (.scr (ns.map D.int))), some (.val (.int (k : Nat))), some (.ref 0), some (.val (.lst (ps.map dP))), some (.val (.lst (a.map dT))), j5, j6, j7, j8, j9, j10, j11, j12, j13, j14, j15, j16, j17, j18, j19, j20, j21, j22, j23] [some (dPool q2)] = .ok (.next [some (.val (.scr (ns.map D.int))), some (.val (.int (k : Nat))), some (.ref 0), some (.val (.lst (ps.map dP))), some (.val (.lst (a.map dT))), some (.val (.lst (b.map dT))), j6, j7, j8, j9, j10, j11, j12, j13, j14, j15, j16, j17, j18, j19, j20, j21, j22, j23]) [some (dPool q3)] := by
    rw [set_ap, g3]; rfl
  obtain ⟨w, ah, q4, kq4, w0, ws, g4⟩ := t_told kq3
  have h4 : sSet 6 (eCall 1 f_law_told_half (aCons (eV 2) aNil)) [some (.val (.scr (ns.map D.int))), some (.val (.int (k : Nat))), some (.ref 0), some (.val (.lst (ps.map dP))), some (.val (.lst (a.map dT))), some (.val (.lst (b.map dT))), j6, j7, j8, j9, j10, j11, j12, j13, j14, j15, j16, j17, j18, j19, j20, j21, j22, j23] [some (dPool q3)] = .ok (.next [some (.val (.scr (ns.map D.int))), some (.val (.int (k : Nat))), some (.ref 0), some (.val (.lst (ps.map dP))), some (.val (.lst (a.map dT))), some (.val (.lst (b.map dT))), some (.val (.tup [.str "half", dP w, .bl ah])), j7, j8, j9, j10, j11, j12, j13, j14, j15, j16, j17, j18, j19, j20, j21, j22, j23]) [some (dPool q4)] := by
    have c : callK 1 f_law_told_half [.ref 0] [some (dPool q3)] = .ok (.val (.tup [.str "half", dP w, .bl ah])) [some (dPool q4)] := callP (k := 0) rfl rfl rfl rfl g4
    rw [set_ap, call_ap]
    show ((callK 1 f_law_told_half [.ref 0] [some (dPool q3)]).bind _) = _
    rw [c]; rfl
  have wb1 : w.1.natAbs < 1000 := by have := ws.1; omega
  have wb2 : w.2.natAbs < 1000 := by have := ws.2; omega
  have h5 : sSet 7 (eFz (eMake "Half" 3 f_Half_init (aCons (e2 ixD (eV 6) (eC (.int 1))) (aCons (e2 ixD (eV 6) (eC (.int 2))) aNil)))) [some (.val (.scr (ns.map D.int))), some (.val (.int (k : Nat))), some (.ref 0), some (.val (.lst (ps.map dP))), some (.val (.lst (a.map dT))), some (.val (.lst (b.map dT))), some (.val (.tup [.str "half", dP w, .bl ah])), j7, j8, j9, j10, j11, j12, j13, j14, j15, j16, j17, j18, j19, j20, j21, j22, j23] [some (dPool q4)] = .ok (.next [some (.val (.scr (ns.map D.int))), some (.val (.int (k : Nat))), some (.ref 0), some (.val (.lst (ps.map dP))), some (.val (.lst (a.map dT))), some (.val (.lst (b.map dT))), some (.val (.tup [.str "half", dP w, .bl ah])), some (.val (dHalf ⟨lowW w, ah⟩)), j8, j9, j10, j11, j12, j13, j14, j15, j16, j17, j18, j19, j20, j21, j22, j23]) [some (dPool q4)] := by
    have a5 : aCons (e2 ixD (eV 6) (eC (.int 1))) (aCons (e2 ixD (eV 6) (eC (.int 2))) aNil) [some (.val (.scr (ns.map D.int))), some (.val (.int (k : Nat))), some (.ref 0), some (.val (.lst (ps.map dP))), some (.val (.lst (a.map dT))), some (.val (.lst (b.map dT))), some (.val (.tup [.str "half", dP w, .bl ah])), j7, j8, j9, j10, j11, j12, j13, j14, j15, j16, j17, j18, j19, j20, j21, j22, j23] [some (dPool q4)] = .ok [.val (dP w), .val (.bl ah)] [some (dPool q4)] := rfl
    rw [set_ap, fz_make (n := 3) a5 (Nat.le_refl _) rfl rfl rfl (t_Half ah w0 wb1 wb2)]
    rfl
  have nb : NB ps := fun p hp => sm_bp (by decide : (5 : Int) < 1000) (hs p hp)
  have tab : ∀ t, t ∈ a ++ b → TOk ps.length t := fun t ht => (List.mem_append.mp ht).elim (ta t) (tb t)
  have tsw : ∀ t, t ∈ a.map sw → TOk ps.length t := fun t ht => by
    rw [List.mem_map] at ht
    obtain ⟨u, hu, rfl⟩ := ht
    exact sw_ok (ta u hu)
  have trt : ∀ t, t ∈ (a.map rot).reverse → TOk ps.length t := fun t ht => by
    rw [List.mem_reverse, List.mem_map] at ht
    obtain ⟨u, hu, rfl⟩ := ht
    exact rot_ok (ta u hu)
  have lf : (ps ++ [pAt ps 0]).length = ps.length + 1 := by simp
  have tfl : ∀ t, t ∈ a ++ flat3 ps.length → TOk (ps ++ [pAt ps 0]).length t := by
    rw [lf]
    exact flat_ok (by omega) ta
  have h6 : sPar3 8 9 10 (aCons (eFz (eMake "Net" 3 f_Net_init (aCons (eV 3) (aCons (eV 4) aNil)))) (aCons (eFz (eMake "Net" 3 f_Net_init (aCons (eV 3) (aCons (eV 5) aNil)))) (aCons (eFz (eMake "Net" 3 f_Net_init (aCons (eV 3) (aCons (e2 addD (eV 4) (eV 5)) aNil)))) aNil))) [some (.val (.scr (ns.map D.int))), some (.val (.int (k : Nat))), some (.ref 0), some (.val (.lst (ps.map dP))), some (.val (.lst (a.map dT))), some (.val (.lst (b.map dT))), some (.val (.tup [.str "half", dP w, .bl ah])), some (.val (dHalf ⟨lowW w, ah⟩)), j8, j9, j10, j11, j12, j13, j14, j15, j16, j17, j18, j19, j20, j21, j22, j23] [some (dPool q4)] = .ok (.next [some (.val (.scr (ns.map D.int))), some (.val (.int (k : Nat))), some (.ref 0), some (.val (.lst (ps.map dP))), some (.val (.lst (a.map dT))), some (.val (.lst (b.map dT))), some (.val (.tup [.str "half", dP w, .bl ah])), some (.val (dHalf ⟨lowW w, ah⟩)), some (.val (dNet ps a)), some (.val (dNet ps b)), some (.val (dNet ps (a ++ b))), j11, j12, j13, j14, j15, j16, j17, j18, j19, j20, j21, j22, j23]) [some (dPool q4)] := by
    have a3 : aCons (eV 3) (aCons (e2 addD (eV 4) (eV 5)) aNil) [some (.val (.scr (ns.map D.int))), some (.val (.int (k : Nat))), some (.ref 0), some (.val (.lst (ps.map dP))), some (.val (.lst (a.map dT))), some (.val (.lst (b.map dT))), some (.val (.tup [.str "half", dP w, .bl ah])), some (.val (dHalf ⟨lowW w, ah⟩)), j8, j9, j10, j11, j12, j13, j14, j15, j16, j17, j18, j19, j20, j21, j22, j23] [some (dPool q4)] = .ok [.val (.lst (ps.map dP)), .val (.lst ((a ++ b).map dT))] [some (dPool q4)] := by
      have := add_ll (a.map dT) (b.map dT) [some (dPool q4)] (by rw [List.length_map, List.length_map, sizeLine_eq]; omega)
      rw [← List.map_append] at this
      rw [consA_ap]
      show ((((addD (.val (.lst (a.map dT))) (.val (.lst (b.map dT))) [some (dPool q4)]).bind _)).bind _) = _
      rw [this]; rfl
    have a1 : aCons (eV 3) (aCons (eV 4) aNil) [some (.val (.scr (ns.map D.int))), some (.val (.int (k : Nat))), some (.ref 0), some (.val (.lst (ps.map dP))), some (.val (.lst (a.map dT))), some (.val (.lst (b.map dT))), some (.val (.tup [.str "half", dP w, .bl ah])), some (.val (dHalf ⟨lowW w, ah⟩)), j8, j9, j10, j11, j12, j13, j14, j15, j16, j17, j18, j19, j20, j21, j22, j23] [some (dPool q4)] = .ok [.val (.lst (ps.map dP)), .val (.lst (a.map dT))] [some (dPool q4)] := rfl
    have a2 : aCons (eV 3) (aCons (eV 5) aNil) [some (.val (.scr (ns.map D.int))), some (.val (.int (k : Nat))), some (.ref 0), some (.val (.lst (ps.map dP))), some (.val (.lst (a.map dT))), some (.val (.lst (b.map dT))), some (.val (.tup [.str "half", dP w, .bl ah])), some (.val (dHalf ⟨lowW w, ah⟩)), j8, j9, j10, j11, j12, j13, j14, j15, j16, j17, j18, j19, j20, j21, j22, j23] [some (dPool q4)] = .ok [.val (.lst (ps.map dP)), .val (.lst (b.map dT))] [some (dPool q4)] := rfl
    rw [par3_ap, consA_ap, fz_make (n := 3) a1 (Nat.le_refl _) rfl rfl rfl (t_Net (by omega) (by omega) ta), R.bind_ok,
      consA_ap, fz_make (n := 3) a2 (Nat.le_refl _) rfl rfl rfl (t_Net (by omega) (by omega) tb), R.bind_ok,
      consA_ap, fz_make (n := 3) a3 (Nat.le_refl _) rfl rfl rfl (t_Net (by omega) (by rw [List.length_append]; omega) tab), R.bind_ok]
    rfl
  have h7 : sSet 11 (eFz (eMake "Net" 3 f_Net_init (aCons (eV 3) (aCons (eLc (iSeq (eV 4)) (gT 3 (gsCons (gN 20) (gsCons (gN 21) (gsCons (gN 22) gsNil)))) none E4_law [20, 21, 22]) aNil)))) [some (.val (.scr (ns.map D.int))), some (.val (.int (k : Nat))), some (.ref 0), some (.val (.lst (ps.map dP))), some (.val (.lst (a.map dT))), some (.val (.lst (b.map dT))), some (.val (.tup [.str "half", dP w, .bl ah])), some (.val (dHalf ⟨lowW w, ah⟩)), some (.val (dNet ps a)), some (.val (dNet ps b)), some (.val (dNet ps (a ++ b))), j11, j12, j13, j14, j15, j16, j17, j18, j19, j20, j21, j22, j23] [some (dPool q4)] = .ok (.next [some (.val (.scr (ns.map D.int))), some (.val (.int (k : Nat))), some (.ref 0), some (.val (.lst (ps.map dP))), some (.val (.lst (a.map dT))), some (.val (.lst (b.map dT))), some (.val (.tup [.str "half", dP w, .bl ah])), some (.val (dHalf ⟨lowW w, ah⟩)), some (.val (dNet ps a)), some (.val (dNet ps b)), some (.val (dNet ps (a ++ b))), some (.val (dNet ps (a.map sw))), j12, j13, j14, j15, j16, j17, j18, j19, j20, j21, j22, j23]) [some (dPool q4)] := by
    have c : eLc (iSeq (eV 4)) (gT 3 (gsCons (gN 20) (gsCons (gN 21) (gsCons (gN 22) gsNil)))) none E4_law [20, 21, 22] [some (.val (.scr (ns.map D.int))), some (.val (.int (k : Nat))), some (.ref 0), some (.val (.lst (ps.map dP))), some (.val (.lst (a.map dT))), some (.val (.lst (b.map dT))), some (.val (.tup [.str "half", dP w, .bl ah])), some (.val (dHalf ⟨lowW w, ah⟩)), some (.val (dNet ps a)), some (.val (dNet ps b)), some (.val (dNet ps (a ++ b))), j11, j12, j13, j14, j15, j16, j17, j18, j19, j20, j21, j22, j23] [some (dPool q4)] = .ok (.val (.lst ((a.map sw).map dT))) [some (dPool q4)] := by
      rw [List.map_map]
      exact eLc_map (elt := E4_law) dT (dT ∘ sw) a rfl (by rw [sizeLine_eq]; omega) fun t _ => ⟨_, rfl, rfl⟩
    have a3 : aCons (eV 3) (aCons (eLc (iSeq (eV 4)) (gT 3 (gsCons (gN 20) (gsCons (gN 21) (gsCons (gN 22) gsNil)))) none E4_law [20, 21, 22]) aNil) [some (.val (.scr (ns.map D.int))), some (.val (.int (k : Nat))), some (.ref 0), some (.val (.lst (ps.map dP))), some (.val (.lst (a.map dT))), some (.val (.lst (b.map dT))), some (.val (.tup [.str "half", dP w, .bl ah])), some (.val (dHalf ⟨lowW w, ah⟩)), some (.val (dNet ps a)), some (.val (dNet ps b)), some (.val (dNet ps (a ++ b))), j11, j12, j13, j14, j15, j16, j17, j18, j19, j20, j21, j22, j23] [some (dPool q4)] = .ok [.val (.lst (ps.map dP)), .val (.lst ((a.map sw).map dT))] [some (dPool q4)] := by
      have c' : aCons (eLc (iSeq (eV 4)) (gT 3 (gsCons (gN 20) (gsCons (gN 21) (gsCons (gN 22) gsNil)))) none E4_law [20, 21, 22]) aNil [some (.val (.scr (ns.map D.int))), some (.val (.int (k : Nat))), some (.ref 0), some (.val (.lst (ps.map dP))), some (.val (.lst (a.map dT))), some (.val (.lst (b.map dT))), some (.val (.tup [.str "half", dP w, .bl ah])), some (.val (dHalf ⟨lowW w, ah⟩)), some (.val (dNet ps a)), some (.val (dNet ps b)), some (.val (dNet ps (a ++ b))), j11, j12, j13, j14, j15, j16, j17, j18, j19, j20, j21, j22, j23] [some (dPool q4)] = .ok [.val (.lst ((a.map sw).map dT))] [some (dPool q4)] := by
        rw [consA_ap, c]; rfl
      rw [consA_ap, V_ap]
      show ((R.ok (W.val (D.lst (ps.map dP))) [some (dPool q4)]).bind _) = _
      rw [R.bind_ok, c']; rfl
    rw [set_ap, fz_make (n := 3) a3 (Nat.le_refl _) rfl rfl rfl (t_Net (by omega) (by rw [List.length_map]; omega) tsw)]
    rfl
  have h8 : sSet 12 (eFz (eMake "Net" 3 f_Net_init (aCons (eV 3) (aCons (e1 revD (eLc (iSeq (eV 4)) (gT 3 (gsCons (gN 20) (gsCons (gN 21) (gsCons (gN 22) gsNil)))) none E5_law [20, 21, 22])) aNil)))) [some (.val (.scr (ns.map D.int))), some (.val (.int (k : Nat))), some (.ref 0), some (.val (.lst (ps.map dP))), some (.val (.lst (a.map dT))), some (.val (.lst (b.map dT))), some (.val (.tup [.str "half", dP w, .bl ah])), some (.val (dHalf ⟨lowW w, ah⟩)), some (.val (dNet ps a)), some (.val (dNet ps b)), some (.val (dNet ps (a ++ b))), some (.val (dNet ps (a.map sw))), j12, j13, j14, j15, j16, j17, j18, j19, j20, j21, j22, j23] [some (dPool q4)] = .ok (.next [some (.val (.scr (ns.map D.int))), some (.val (.int (k : Nat))), some (.ref 0), some (.val (.lst (ps.map dP))), some (.val (.lst (a.map dT))), some (.val (.lst (b.map dT))), some (.val (.tup [.str "half", dP w, .bl ah])), some (.val (dHalf ⟨lowW w, ah⟩)), some (.val (dNet ps a)), some (.val (dNet ps b)), some (.val (dNet ps (a ++ b))), some (.val (dNet ps (a.map sw))), some (.val (dNet ps (a.map rot).reverse)), j13, j14, j15, j16, j17, j18, j19, j20, j21, j22, j23]) [some (dPool q4)] := by
    have c : eLc (iSeq (eV 4)) (gT 3 (gsCons (gN 20) (gsCons (gN 21) (gsCons (gN 22) gsNil)))) none E5_law [20, 21, 22] [some (.val (.scr (ns.map D.int))), some (.val (.int (k : Nat))), some (.ref 0), some (.val (.lst (ps.map dP))), some (.val (.lst (a.map dT))), some (.val (.lst (b.map dT))), some (.val (.tup [.str "half", dP w, .bl ah])), some (.val (dHalf ⟨lowW w, ah⟩)), some (.val (dNet ps a)), some (.val (dNet ps b)), some (.val (dNet ps (a ++ b))), some (.val (dNet ps (a.map sw))), j12, j13, j14, j15, j16, j17, j18, j19, j20, j21, j22, j23] [some (dPool q4)] = .ok (.val (.lst ((a.map rot).map dT))) [some (dPool q4)] := by
      rw [List.map_map]
      exact eLc_map (elt := E5_law) dT (dT ∘ rot) a rfl (by rw [sizeLine_eq]; omega) fun t _ => ⟨_, rfl, rfl⟩
    have a3 : aCons (eV 3) (aCons (e1 revD (eLc (iSeq (eV 4)) (gT 3 (gsCons (gN 20) (gsCons (gN 21) (gsCons (gN 22) gsNil)))) none E5_law [20, 21, 22])) aNil) [some (.val (.scr (ns.map D.int))), some (.val (.int (k : Nat))), some (.ref 0), some (.val (.lst (ps.map dP))), some (.val (.lst (a.map dT))), some (.val (.lst (b.map dT))), some (.val (.tup [.str "half", dP w, .bl ah])), some (.val (dHalf ⟨lowW w, ah⟩)), some (.val (dNet ps a)), some (.val (dNet ps b)), some (.val (dNet ps (a ++ b))), some (.val (dNet ps (a.map sw))), j12, j13, j14, j15, j16, j17, j18, j19, j20, j21, j22, j23] [some (dPool q4)] = .ok [.val (.lst (ps.map dP)), .val (.lst ((a.map rot).reverse.map dT))] [some (dPool q4)] := by
      have c' : aCons (e1 revD (eLc (iSeq (eV 4)) (gT 3 (gsCons (gN 20) (gsCons (gN 21) (gsCons (gN 22) gsNil)))) none E5_law [20, 21, 22])) aNil [some (.val (.scr (ns.map D.int))), some (.val (.int (k : Nat))), some (.ref 0), some (.val (.lst (ps.map dP))), some (.val (.lst (a.map dT))), some (.val (.lst (b.map dT))), some (.val (.tup [.str "half", dP w, .bl ah])), some (.val (dHalf ⟨lowW w, ah⟩)), some (.val (dNet ps a)), some (.val (dNet ps b)), some (.val (dNet ps (a ++ b))), some (.val (dNet ps (a.map sw))), j12, j13, j14, j15, j16, j17, j18, j19, j20, j21, j22, j23] [some (dPool q4)] = .ok [.val (.lst ((a.map rot).reverse.map dT))] [some (dPool q4)] := by
        rw [consA_ap, e1_ap, c, List.map_reverse]; rfl
      rw [consA_ap, V_ap]
      show ((R.ok (W.val (D.lst (ps.map dP))) [some (dPool q4)]).bind _) = _
      rw [R.bind_ok, c']; rfl
    rw [set_ap, fz_make (n := 3) a3 (Nat.le_refl _) rfl rfl rfl (t_Net (by omega) (by rw [List.length_reverse, List.length_map]; omega) trt)]
    rfl
  have h9 : sSet 13 (eFz (eMake "Net" 3 f_Net_init (aCons (e2 addD (eV 3) (eLst (aCons (e2 ixD (eV 3) (eC (.int 0))) aNil))) (aCons (e2 addD (eV 4) (eLst (aCons (eTup (aCons (eC (.int 0)) (aCons (eC (.int 1)) (aCons (eB lenD (aCons (eV 3) aNil)) aNil)))) (aCons (eTup (aCons (eB lenD (aCons (eV 3) aNil)) (aCons (eC (.int 1)) (aCons (eC (.int 0)) aNil)))) (aCons (eTup (aCons (eC (.int 1)) (aCons (eC (.int 0)) (aCons (eB lenD (aCons (eV 3) aNil)) aNil)))) aNil))))) aNil)))) [some (.val (.scr (ns.map D.int))), some (.val (.int (k : Nat))), some (.ref 0), some (.val (.lst (ps.map dP))), some (.val (.lst (a.map dT))), some (.val (.lst (b.map dT))), some (.val (.tup [.str "half", dP w, .bl ah])), some (.val (dHalf ⟨lowW w, ah⟩)), some (.val (dNet ps a)), some (.val (dNet ps b)), some (.val (dNet ps (a ++ b))), some (.val (dNet ps (a.map sw))), some (.val (dNet ps (a.map rot).reverse)), j13, j14, j15, j16, j17, j18, j19, j20, j21, j22, j23] [some (dPool q4)] = .ok (.next [some (.val (.scr (ns.map D.int))), some (.val (.int (k : Nat))), some (.ref 0), some (.val (.lst (ps.map dP))), some (.val (.lst (a.map dT))), some (.val (.lst (b.map dT))), some (.val (.tup [.str "half", dP w, .bl ah])), some (.val (dHalf ⟨lowW w, ah⟩)), some (.val (dNet ps a)), some (.val (dNet ps b)), some (.val (dNet ps (a ++ b))), some (.val (dNet ps (a.map sw))), some (.val (dNet ps (a.map rot).reverse)), some (.val (dNet (ps ++ [pAt ps 0]) (a ++ flat3 ps.length))), j14, j15, j16, j17, j18, j19, j20, j21, j22, j23]) [some (dPool q4)] := by
    have x1 : ixD (.val (.lst (ps.map dP))) (.val (.int 0)) [some (dPool q4)] = .ok (.val (dP (pAt ps 0))) [some (dPool q4)] := by
      rw [ix_l, at_p (ps := ps) ⟨by omega, by omega⟩]
    have x2 := add_ll (ps.map dP) [dP (pAt ps 0)] [some (dPool q4)] (by rw [List.length_map, sizeLine_eq]; simp; omega)
    have x3 := add_ll (a.map dT) [dT (0, 1, (ps.length : Int)), dT ((ps.length : Int), 1, 0), dT (1, 0, (ps.length : Int))] [some (dPool q4)] (by rw [List.length_map, sizeLine_eq]; simp; omega)
    have y2 : (ps.map dP) ++ [dP (pAt ps 0)] = (ps ++ [pAt ps 0]).map dP := by rw [List.map_append]; rfl
    have y3 : (a.map dT) ++ [dT (0, 1, (ps.length : Int)), dT ((ps.length : Int), 1, 0), dT (1, 0, (ps.length : Int))] = (a ++ flat3 ps.length).map dT := by rw [List.map_append]; rfl
    rw [y2] at x2
    rw [y3] at x3
    have ll : lenD [.val (.lst (ps.map dP))] [some (dPool q4)] = .ok (.val (.int (ps.length : Nat))) [some (dPool q4)] := by rw [len_l, List.length_map]
    have a1 : e2 addD (eV 3) (eLst (aCons (e2 ixD (eV 3) (eC (.int 0))) aNil)) [some (.val (.scr (ns.map D.int))), some (.val (.int (k : Nat))), some (.ref 0), some (.val (.lst (ps.map dP))), some (.val (.lst (a.map dT))), some (.val (.lst (b.map dT))), some (.val (.tup [.str "half", dP w, .bl ah])), some (.val (dHalf ⟨lowW w, ah⟩)), some (.val (dNet ps a)), some (.val (dNet ps b)), some (.val (dNet ps (a ++ b))), some (.val (dNet ps (a.map sw))), some (.val (dNet ps (a.map rot).reverse)), j13, j14, j15, j16, j17, j18, j19, j20, j21, j22, j23] [some (dPool q4)] = .ok (.val (.lst ((ps ++ [pAt ps 0]).map dP))) [some (dPool q4)] := by
      rw [e2_ap]
      show (((((((ixD (.val (.lst (ps.map dP))) (.val (.int 0)) [some (dPool q4)]).bind _)).bind _))).bind _) = _
      rw [x1]
      exact x2
    have a2 : e2 addD (eV 4) (eLst (aCons (eTup (aCons (eC (.int 0)) (aCons (eC (.int 1)) (aCons (eB lenD (aCons (eV 3) aNil)) aNil)))) (aCons (eTup (aCons (eB lenD (aCons (eV 3) aNil)) (aCons (eC (.int 1)) (aCons (eC (.int 0)) aNil)))) (aCons (eTup (aCons (eC (.int 1)) (aCons (eC (.int 0)) (aCons (eB lenD (aCons (eV 3) aNil)) aNil)))) aNil)))) [some (.val (.scr (ns.map D.int))), some (.val (.int (k : Nat))), some (.ref 0), some (.val (.lst (ps.map dP))), some (.val (.lst (a.map dT))), some (.val (.lst (b.map dT))), some (.val (.tup [.str "half", dP w, .bl ah])), some (.val (dHalf ⟨lowW w, ah⟩)), some (.val (dNet ps a)), some (.val (dNet ps b)), some (.val (dNet ps (a ++ b))), some (.val (dNet ps (a.map sw))), some (.val (dNet ps (a.map rot).reverse)), j13, j14, j15, j16, j17, j18, j19, j20, j21, j22, j23] [some (dPool q4)] = .ok (.val (.lst ((a ++ flat3 ps.length).map dT))) [some (dPool q4)] := by
      have lens : eB lenD (aCons (eV 3) aNil) [some (.val (.scr (ns.map D.int))), some (.val (.int (k : Nat))), some (.ref 0), some (.val (.lst (ps.map dP))), some (.val (.lst (a.map dT))), some (.val (.lst (b.map dT))), some (.val (.tup [.str "half", dP w, .bl ah])), some (.val (dHalf ⟨lowW w, ah⟩)), some (.val (dNet ps a)), some (.val (dNet ps b)), some (.val (dNet ps (a ++ b))), some (.val (dNet ps (a.map sw))), some (.val (dNet ps (a.map rot).reverse)), j13, j14, j15, j16, j17, j18, j19, j20, j21, j22, j23] [some (dPool q4)] = .ok (.val (.int (ps.length : Nat))) [some (dPool q4)] := ll
      rw [e2_ap, V_ap]
      show ((R.ok (W.val (D.lst (a.map dT))) [some (dPool q4)]).bind _) = _
      rw [R.bind_ok]
      simp only [e2_ap, lst_ap, tup_ap, consA_ap, nilA_ap, C_ap, lens, R.bind_ok, tupK_3, lstK_3]
      exact x3
    have a3 : aCons (e2 addD (eV 3) (eLst (aCons (e2 ixD (eV 3) (eC (.int 0))) aNil))) (aCons (e2 addD (eV 4) (eLst (aCons (eTup (aCons (eC (.int 0)) (aCons (eC (.int 1)) (aCons (eB lenD (aCons (eV 3) aNil)) aNil)))) (aCons (eTup (aCons (eB lenD (aCons (eV 3) aNil)) (aCons (eC (.int 1)) (aCons (eC (.int 0)) aNil)))) (aCons (eTup (aCons (eC (.int 1)) (aCons (eC (.int 0)) (aCons (eB lenD (aCons (eV 3) aNil)) aNil)))) aNil))))) aNil) [some (.val (.scr (ns.map D.int))), some (.val (.int (k : Nat))), some (.ref 0), some (.val (.lst (ps.map dP))), some (.val (.lst (a.map dT))), some (.val (.lst (b.map dT))), some (.val (.tup [.str "half", dP w, .bl ah])), some (.val (dHalf ⟨lowW w, ah⟩)), some (.val (dNet ps a)), some (.val (dNet ps b)), some (.val (dNet ps (a ++ b))), some (.val (dNet ps (a.map sw))), some (.val (dNet ps (a.map rot).reverse)), j13, j14, j15, j16, j17, j18, j19, j20, j21, j22, j23] [some (dPool q4)] = .ok [.val (.lst ((ps ++ [pAt ps 0]).map dP)), .val (.lst ((a ++ flat3 ps.length).map dT))] [some (dPool q4)] := by
      rw [consA_ap, a1, R.bind_ok, consA_ap, a2]; rfl
    rw [set_ap, fz_make (n := 3) a3 (Nat.le_refl _) rfl rfl rfl (t_Net (by rw [lf]; omega) (by rw [List.length_append]; show a.length + 3 ≤ 100; omega) tfl)]
    rfl
  have L : Law47 ⟨lowW w, ah⟩ ps a b := ⟨low_bd wb1 wb2, low_ne w0, nb, l3, l7, la, lb, ta, tb⟩
  obtain ⟨ρ', m', h10, P0⟩ := for_inv (g := gN 14) (body := L6_law)
    (P := fun ds ρ m => ∃ (q : P2) (k14 k15 k16 k17 k18 k19 k20 k21 k22 k23 : Option W), POk q ∧ ρ = [some (.val (.scr (ns.map D.int))), some (.val (.int (k : Nat))), some (.ref 0), some (.val (.lst (ps.map dP))), some (.val (.lst (a.map dT))), some (.val (.lst (b.map dT))), some (.val (.tup [.str "half", dP w, .bl ah])), some (.val (dHalf ⟨lowW w, ah⟩)), some (.val (dNet ps a)), some (.val (dNet ps b)), some (.val (dNet ps (a ++ b))), some (.val (dNet ps (a.map sw))), some (.val (dNet ps (a.map rot).reverse)), some (.val (dNet (ps ++ [pAt ps 0]) (a ++ flat3 ps.length))), k14, k15, k16, k17, k18, k19, k20, k21, k22, k23] ∧ m = [some (dPool q)]) (by
      rintro d ds ρ m ⟨q, k14, k15, k16, k17, k18, k19, k20, k21, k22, k23, hq, rfl, rfl⟩
      obtain ⟨q', i15, i16, i17, kq, e⟩ := inner_body L hq (some (.val (.scr (ns.map D.int)))) (some (.val (.int (k : Nat)))) (some (.val (.lst (ps.map dP)))) (some (.val (.lst (a.map dT)))) (some (.val (.lst (b.map dT)))) (some (.val (.tup [.str "half", dP w, .bl ah]))) (some (.val d)) k15 k16 k17 k18 k19 k20 k21 k22 k23
      exact ⟨_, rfl, _, _, .inl e, q', some (.val d), trimO 1 i15, trimO 1 i16, trimO 1 i17, trimO 1 k18, trimO 1 k19, trimO 1 k20, trimO 1 k21, trimO 1 k22, trimO 1 k23, kq, rfl, rfl⟩) (rangeD 0 30) [some (.val (.scr (ns.map D.int))), some (.val (.int (k : Nat))), some (.ref 0), some (.val (.lst (ps.map dP))), some (.val (.lst (a.map dT))), some (.val (.lst (b.map dT))), some (.val (.tup [.str "half", dP w, .bl ah])), some (.val (dHalf ⟨lowW w, ah⟩)), some (.val (dNet ps a)), some (.val (dNet ps b)), some (.val (dNet ps (a ++ b))), some (.val (dNet ps (a.map sw))), some (.val (dNet ps (a.map rot).reverse)), some (.val (dNet (ps ++ [pAt ps 0]) (a ++ flat3 ps.length))), j14, j15, j16, j17, j18, j19, j20, j21, j22, j23] [some (dPool q4)] ⟨q4, j14, j15, j16, j17, j18, j19, j20, j21, j22, j23, kq4, rfl, rfl⟩
  obtain ⟨q5, k14, k15, k16, k17, k18, k19, k20, k21, k22, k23, kq5, rfl, rfl⟩ := P0
  have h10' : sFor (iRange1 (aCons (eC (.int 30)) aNil)) (gN 14) L6_law [some (.val (.scr (ns.map D.int))), some (.val (.int (k : Nat))), some (.ref 0), some (.val (.lst (ps.map dP))), some (.val (.lst (a.map dT))), some (.val (.lst (b.map dT))), some (.val (.tup [.str "half", dP w, .bl ah])), some (.val (dHalf ⟨lowW w, ah⟩)), some (.val (dNet ps a)), some (.val (dNet ps b)), some (.val (dNet ps (a ++ b))), some (.val (dNet ps (a.map sw))), some (.val (dNet ps (a.map rot).reverse)), some (.val (dNet (ps ++ [pAt ps 0]) (a ++ flat3 ps.length))), j14, j15, j16, j17, j18, j19, j20, j21, j22, j23] [some (dPool q4)] = .ok (.next [some (.val (.scr (ns.map D.int))), some (.val (.int (k : Nat))), some (.ref 0), some (.val (.lst (ps.map dP))), some (.val (.lst (a.map dT))), some (.val (.lst (b.map dT))), some (.val (.tup [.str "half", dP w, .bl ah])), some (.val (dHalf ⟨lowW w, ah⟩)), some (.val (dNet ps a)), some (.val (dNet ps b)), some (.val (dNet ps (a ++ b))), some (.val (dNet ps (a.map sw))), some (.val (dNet ps (a.map rot).reverse)), some (.val (dNet (ps ++ [pAt ps 0]) (a ++ flat3 ps.length))), k14, k15, k16, k17, k18, k19, k20, k21, k22, k23]) [some (dPool q5)] := by
    rw [for_ap, range1_ap]
    show ((range1K [.val (.int 30)] [some (dPool q4)]).bind _) = _
    rw [range1K_ok (by decide) (by decide)]
    exact h10
  have ra := rimU_len a
  have rb := rimU_len b
  have pa : (rimL a).length ≤ 21 := by
    rw [(rimL_perm (n := ps.length) (by omega) ta).length_eq]; omega
  have pb : (rimL b).length ≤ 21 := by
    rw [(rimL_perm (n := ps.length) (by omega) tb).length_eq]; omega
  have m8 : ∀ (ρ : Ro) m, ρ[8]? = some (some (.val (dNet ps a))) → eMeth "Net" "rim" 1 f_Net_rim (eV 8) aNil ρ m = .ok (.val (.lst ((rimL a).map dP))) m := fun ρ m h => by
    rw [meth_ap, V_ap, h]
    show methK "Net" "rim" 1 f_Net_rim aNil ρ (.val (dNet ps a)) m = _
    exact methV rfl rfl rfl rfl rfl (t_rim (by omega) ta)
  have m9 : ∀ (ρ : Ro) m, ρ[9]? = some (some (.val (dNet ps b))) → eMeth "Net" "rim" 1 f_Net_rim (eV 9) aNil ρ m = .ok (.val (.lst ((rimL b).map dP))) m := fun ρ m h => by
    rw [meth_ap, V_ap, h]
    show methK "Net" "rim" 1 f_Net_rim aNil ρ (.val (dNet ps b)) m = _
    exact methV rfl rfl rfl rfl rfl (t_rim (by omega) tb)
  have m10 : ∀ (ρ : Ro) m, ρ[10]? = some (some (.val (dNet ps (a ++ b)))) → eMeth "Net" "rim" 1 f_Net_rim (eV 10) aNil ρ m = .ok (.val (.lst ((rimL (a ++ b)).map dP))) m := fun ρ m h => by
    rw [meth_ap, V_ap, h]
    show methK "Net" "rim" 1 f_Net_rim aNil ρ (.val (dNet ps (a ++ b))) m = _
    exact methV rfl rfl rfl rfl rfl (t_rim (by rw [List.length_append]; omega) tab)
  have m11 : ∀ (ρ : Ro) m, ρ[11]? = some (some (.val (dNet ps (a.map sw)))) → eMeth "Net" "rim" 1 f_Net_rim (eV 11) aNil ρ m = .ok (.val (.lst ((rimL (a.map sw)).map dP))) m := fun ρ m h => by
    rw [meth_ap, V_ap, h]
    show methK "Net" "rim" 1 f_Net_rim aNil ρ (.val (dNet ps (a.map sw))) m = _
    exact methV rfl rfl rfl rfl rfl (t_rim (by rw [List.length_map]; omega) tsw)
  have h11 : sSet 18 (eCall 1 f_law_left (aCons (e2 addD (eMeth "Net" "rim" 1 f_Net_rim (eV 8) aNil) (eMeth "Net" "rim" 1 f_Net_rim (eV 9) aNil)) aNil)) [some (.val (.scr (ns.map D.int))), some (.val (.int (k : Nat))), some (.ref 0), some (.val (.lst (ps.map dP))), some (.val (.lst (a.map dT))), some (.val (.lst (b.map dT))), some (.val (.tup [.str "half", dP w, .bl ah])), some (.val (dHalf ⟨lowW w, ah⟩)), some (.val (dNet ps a)), some (.val (dNet ps b)), some (.val (dNet ps (a ++ b))), some (.val (dNet ps (a.map sw))), some (.val (dNet ps (a.map rot).reverse)), some (.val (dNet (ps ++ [pAt ps 0]) (a ++ flat3 ps.length))), k14, k15, k16, k17, k18, k19, k20, k21, k22, k23] [some (dPool q5)] = .ok (.next [some (.val (.scr (ns.map D.int))), some (.val (.int (k : Nat))), some (.ref 0), some (.val (.lst (ps.map dP))), some (.val (.lst (a.map dT))), some (.val (.lst (b.map dT))), some (.val (.tup [.str "half", dP w, .bl ah])), some (.val (dHalf ⟨lowW w, ah⟩)), some (.val (dNet ps a)), some (.val (dNet ps b)), some (.val (dNet ps (a ++ b))), some (.val (dNet ps (a.map sw))), some (.val (dNet ps (a.map rot).reverse)), some (.val (dNet (ps ++ [pAt ps 0]) (a ++ flat3 ps.length))), k14, k15, k16, k17, some (.val (.lst ((cancel [] (rimL a ++ rimL b)).map dP))), k19, k20, k21, k22, k23]) [some (dPool q5)] := by
    have x := add_ll ((rimL a).map dP) ((rimL b).map dP) [some (dPool q5)] (by rw [List.length_map, List.length_map, sizeLine_eq]; omega)
    rw [← List.map_append] at x
    have c : callK 1 f_law_left [.val (.lst ((rimL a ++ rimL b).map dP))] [some (dPool q5)] = .ok (.val (.lst ((cancel [] (rimL a ++ rimL b)).map dP))) [some (dPool q5)] := callV rfl rfl rfl (t_left (by rw [List.length_append]; omega))
    rw [set_ap, call_ap, consA_ap, e2_ap, m8 _ _ rfl, R.bind_ok, m9 _ _ rfl, R.bind_ok, x, R.bind_ok, nilA_ap, R.bind_ok, R.bind_ok, c]
    rfl
  have len3 : ∀ (ρ : Ro) m, ρ[3]? = some (some (.val (.lst (ps.map dP)))) → eB lenD (aCons (eV 3) aNil) ρ m = .ok (.val (.int (ps.length : Nat))) m := fun ρ m h => by
    rw [B_ap, consA_ap, V_ap, h]
    show lenD [.val (.lst (ps.map dP))] m = _
    rw [len_l, List.length_map]
  have cl := cancel_len (rimL a ++ rimL b) []
  rw [List.length_append, List.length_nil] at cl
  have en1 : ∀ (ρ : Ro) (i j : Int) m, ρ[3]? = some (some (.val (.lst (ps.map dP)))) → ρ[20]? = some (some (.val (.int i))) → ρ[21]? = some (some (.val (.int j))) → e2 addD (e2 mulD (eB lenD (aCons (eV 3) aNil)) (eV 20)) (eV 21) ρ m = .ok (.val (.int ((ps.length : Int) * i + j))) m := fun ρ i j m h3 h20 h21 => by
    have mk := mul_small (n := ps.length) (by omega) i
    rw [e2_ap, e2_ap, len3 ρ m h3, R.bind_ok, V_ap, h20]
    show ((((mulD (.val (.int (ps.length : Int))) (.val (.int i)) m)).bind _)) = _
    rw [mul_ii, if_pos mk, R.bind_ok, V_ap, h21]
    rfl
  have en2 : ∀ (ρ : Ro) (i j : Int) m, ρ[3]? = some (some (.val (.lst (ps.map dP)))) → ρ[20]? = some (some (.val (.int i))) → ρ[21]? = some (some (.val (.int j))) → e2 addD (e2 mulD (eB lenD (aCons (eV 3) aNil)) (eV 21)) (eV 20) ρ m = .ok (.val (.int ((ps.length : Int) * j + i))) m := fun ρ i j m h3 h20 h21 => by
    have mk := mul_small (n := ps.length) (by omega) j
    rw [e2_ap, e2_ap, len3 ρ m h3, R.bind_ok, V_ap, h21]
    show ((((mulD (.val (.int (ps.length : Int))) (.val (.int j)) m)).bind _)) = _
    rw [mul_ii, if_pos mk, R.bind_ok, V_ap, h20]
    rfl
  have r10 : (rimL (a ++ b)).length < 100000 := by
    rw [(rimL_perm (n := ps.length) (by omega) tab).length_eq]
    have := rimU_len (a ++ b)
    rw [List.length_append] at this
    omega
  have r11 : (rimL (a.map sw)).length < 100000 := by
    rw [(rimL_perm (n := ps.length) (by omega) tsw).length_eq]
    have := rimU_len (a.map sw)
    rw [List.length_map] at this
    omega
  have c7 : eLc (iSeq (eV 18)) (gT 2 (gsCons (gN 20) (gsCons (gN 21) gsNil))) none E7_law [20, 21] [some (.val (.scr (ns.map D.int))), some (.val (.int (k : Nat))), some (.ref 0), some (.val (.lst (ps.map dP))), some (.val (.lst (a.map dT))), some (.val (.lst (b.map dT))), some (.val (.tup [.str "half", dP w, .bl ah])), some (.val (dHalf ⟨lowW w, ah⟩)), some (.val (dNet ps a)), some (.val (dNet ps b)), some (.val (dNet ps (a ++ b))), some (.val (dNet ps (a.map sw))), some (.val (dNet ps (a.map rot).reverse)), some (.val (dNet (ps ++ [pAt ps 0]) (a ++ flat3 ps.length))), k14, k15, k16, k17, some (.val (.lst ((cancel [] (rimL a ++ rimL b)).map dP))), k19, k20, k21, k22, k23] [some (dPool q5)] = .ok (.val (.lst (((cancel [] (rimL a ++ rimL b)).map fun w => (ps.length : Int) * w.1 + w.2).map D.int))) [some (dPool q5)] :=
    enc_ev _ (fun w => (ps.length : Int) * w.1 + w.2) rfl (by omega) fun x => ⟨_, rfl, by
      unfold E7_law
      rw [B_ap, consA_ap, en1 _ x.1 x.2 _ rfl rfl rfl]; rfl⟩
  have c8 : eLc (iSeq (eMeth "Net" "rim" 1 f_Net_rim (eV 10) aNil)) (gT 2 (gsCons (gN 20) (gsCons (gN 21) gsNil))) none E8_law [20, 21] [some (.val (.scr (ns.map D.int))), some (.val (.int (k : Nat))), some (.ref 0), some (.val (.lst (ps.map dP))), some (.val (.lst (a.map dT))), some (.val (.lst (b.map dT))), some (.val (.tup [.str "half", dP w, .bl ah])), some (.val (dHalf ⟨lowW w, ah⟩)), some (.val (dNet ps a)), some (.val (dNet ps b)), some (.val (dNet ps (a ++ b))), some (.val (dNet ps (a.map sw))), some (.val (dNet ps (a.map rot).reverse)), some (.val (dNet (ps ++ [pAt ps 0]) (a ++ flat3 ps.length))), k14, k15, k16, k17, some (.val (.lst ((cancel [] (rimL a ++ rimL b)).map dP))), k19, k20, k21, k22, k23] [some (dPool q5)] = .ok (.val (.lst (((rimL (a ++ b)).map fun w => (ps.length : Int) * w.1 + w.2).map D.int))) [some (dPool q5)] :=
    enc_ev _ (fun w => (ps.length : Int) * w.1 + w.2) (by rw [iSeq_ap, m10 _ _ rfl]; rfl) r10 fun x => ⟨_, rfl, en1 _ x.1 x.2 _ rfl rfl rfl⟩
  have c9 : eLc (iSeq (eMeth "Net" "rim" 1 f_Net_rim (eV 8) aNil)) (gT 2 (gsCons (gN 20) (gsCons (gN 21) gsNil))) none E9_law [20, 21] [some (.val (.scr (ns.map D.int))), some (.val (.int (k : Nat))), some (.ref 0), some (.val (.lst (ps.map dP))), some (.val (.lst (a.map dT))), some (.val (.lst (b.map dT))), some (.val (.tup [.str "half", dP w, .bl ah])), some (.val (dHalf ⟨lowW w, ah⟩)), some (.val (dNet ps a)), some (.val (dNet ps b)), some (.val (dNet ps (a ++ b))), some (.val (dNet ps (a.map sw))), some (.val (dNet ps (a.map rot).reverse)), some (.val (dNet (ps ++ [pAt ps 0]) (a ++ flat3 ps.length))), k14, k15, k16, k17, some (.val (.lst ((cancel [] (rimL a ++ rimL b)).map dP))), k19, k20, k21, k22, k23] [some (dPool q5)] = .ok (.val (.lst (((rimL a).map fun w => (ps.length : Int) * w.2 + w.1).map D.int))) [some (dPool q5)] :=
    enc_ev _ (fun w => (ps.length : Int) * w.2 + w.1) (by rw [iSeq_ap, m8 _ _ rfl]; rfl) (by omega) fun x => ⟨_, rfl, by
      unfold E9_law
      rw [B_ap, consA_ap, en2 _ x.1 x.2 _ rfl rfl rfl]; rfl⟩
  have c10 : eLc (iSeq (eMeth "Net" "rim" 1 f_Net_rim (eV 11) aNil)) (gT 2 (gsCons (gN 20) (gsCons (gN 21) gsNil))) none E10_law [20, 21] [some (.val (.scr (ns.map D.int))), some (.val (.int (k : Nat))), some (.ref 0), some (.val (.lst (ps.map dP))), some (.val (.lst (a.map dT))), some (.val (.lst (b.map dT))), some (.val (.tup [.str "half", dP w, .bl ah])), some (.val (dHalf ⟨lowW w, ah⟩)), some (.val (dNet ps a)), some (.val (dNet ps b)), some (.val (dNet ps (a ++ b))), some (.val (dNet ps (a.map sw))), some (.val (dNet ps (a.map rot).reverse)), some (.val (dNet (ps ++ [pAt ps 0]) (a ++ flat3 ps.length))), k14, k15, k16, k17, some (.val (.lst ((cancel [] (rimL a ++ rimL b)).map dP))), k19, k20, k21, k22, k23] [some (dPool q5)] = .ok (.val (.lst (((rimL (a.map sw)).map fun w => (ps.length : Int) * w.1 + w.2).map D.int))) [some (dPool q5)] :=
    enc_ev _ (fun w => (ps.length : Int) * w.1 + w.2) (by rw [iSeq_ap, m11 _ _ rfl]; rfl) r11 fun x => ⟨_, rfl, en1 _ x.1 x.2 _ rfl rfl rfl⟩
  have f1 := law_left (n := ps.length) (by omega) ta tb
  have f2 := law_over (n := ps.length) (by omega) ta
  have h12 : sIf (tB (e2 neD (eB sortedD (aCons (eLc (iSeq (eV 18)) (gT 2 (gsCons (gN 20) (gsCons (gN 21) gsNil))) none E7_law [20, 21]) aNil)) (eLc (iSeq (eMeth "Net" "rim" 1 f_Net_rim (eV 10) aNil)) (gT 2 (gsCons (gN 20) (gsCons (gN 21) gsNil))) none E8_law [20, 21]))) (sRet (eC (.bl false))) sNil [some (.val (.scr (ns.map D.int))), some (.val (.int (k : Nat))), some (.ref 0), some (.val (.lst (ps.map dP))), some (.val (.lst (a.map dT))), some (.val (.lst (b.map dT))), some (.val (.tup [.str "half", dP w, .bl ah])), some (.val (dHalf ⟨lowW w, ah⟩)), some (.val (dNet ps a)), some (.val (dNet ps b)), some (.val (dNet ps (a ++ b))), some (.val (dNet ps (a.map sw))), some (.val (dNet ps (a.map rot).reverse)), some (.val (dNet (ps ++ [pAt ps 0]) (a ++ flat3 ps.length))), k14, k15, k16, k17, some (.val (.lst ((cancel [] (rimL a ++ rimL b)).map dP))), k19, k20, k21, k22, k23] [some (dPool q5)] = .ok (.next [some (.val (.scr (ns.map D.int))), some (.val (.int (k : Nat))), some (.ref 0), some (.val (.lst (ps.map dP))), some (.val (.lst (a.map dT))), some (.val (.lst (b.map dT))), some (.val (.tup [.str "half", dP w, .bl ah])), some (.val (dHalf ⟨lowW w, ah⟩)), some (.val (dNet ps a)), some (.val (dNet ps b)), some (.val (dNet ps (a ++ b))), some (.val (dNet ps (a.map sw))), some (.val (dNet ps (a.map rot).reverse)), some (.val (dNet (ps ++ [pAt ps 0]) (a ++ flat3 ps.length))), k14, k15, k16, k17, some (.val (.lst ((cancel [] (rimL a ++ rimL b)).map dP))), k19, k20, k21, k22, k23]) [some (dPool q5)] := by
    rw [if_ap, tB_ap, e2_ap, B_ap, consA_ap, c7, R.bind_ok, nilA_ap, R.bind_ok, R.bind_ok, sorted_ok, R.bind_ok, c8, R.bind_ok, f1, neD_I]
    rfl
  have h13 : sIf (tB (e2 neD (eB sortedD (aCons (eLc (iSeq (eMeth "Net" "rim" 1 f_Net_rim (eV 8) aNil)) (gT 2 (gsCons (gN 20) (gsCons (gN 21) gsNil))) none E9_law [20, 21]) aNil)) (eLc (iSeq (eMeth "Net" "rim" 1 f_Net_rim (eV 11) aNil)) (gT 2 (gsCons (gN 20) (gsCons (gN 21) gsNil))) none E10_law [20, 21]))) (sRet (eC (.bl false))) sNil [some (.val (.scr (ns.map D.int))), some (.val (.int (k : Nat))), some (.ref 0), some (.val (.lst (ps.map dP))), some (.val (.lst (a.map dT))), some (.val (.lst (b.map dT))), some (.val (.tup [.str "half", dP w, .bl ah])), some (.val (dHalf ⟨lowW w, ah⟩)), some (.val (dNet ps a)), some (.val (dNet ps b)), some (.val (dNet ps (a ++ b))), some (.val (dNet ps (a.map sw))), some (.val (dNet ps (a.map rot).reverse)), some (.val (dNet (ps ++ [pAt ps 0]) (a ++ flat3 ps.length))), k14, k15, k16, k17, some (.val (.lst ((cancel [] (rimL a ++ rimL b)).map dP))), k19, k20, k21, k22, k23] [some (dPool q5)] = .ok (.next [some (.val (.scr (ns.map D.int))), some (.val (.int (k : Nat))), some (.ref 0), some (.val (.lst (ps.map dP))), some (.val (.lst (a.map dT))), some (.val (.lst (b.map dT))), some (.val (.tup [.str "half", dP w, .bl ah])), some (.val (dHalf ⟨lowW w, ah⟩)), some (.val (dNet ps a)), some (.val (dNet ps b)), some (.val (dNet ps (a ++ b))), some (.val (dNet ps (a.map sw))), some (.val (dNet ps (a.map rot).reverse)), some (.val (dNet (ps ++ [pAt ps 0]) (a ++ flat3 ps.length))), k14, k15, k16, k17, some (.val (.lst ((cancel [] (rimL a ++ rimL b)).map dP))), k19, k20, k21, k22, k23]) [some (dPool q5)] := by
    rw [if_ap, tB_ap, e2_ap, B_ap, consA_ap, c9, R.bind_ok, nilA_ap, R.bind_ok, R.bind_ok, sorted_ok, R.bind_ok, c10, R.bind_ok, f2, neD_I]
    rfl
  refine ⟨[some (.val (.scr (ns.map D.int))), some (.val (.int (k : Nat))), some (.ref 0), some (.val (.lst (ps.map dP))), some (.val (.lst (a.map dT))), some (.val (.lst (b.map dT))), some (.val (.tup [.str "half", dP w, .bl ah])), some (.val (dHalf ⟨lowW w, ah⟩)), some (.val (dNet ps a)), some (.val (dNet ps b)), some (.val (dNet ps (a ++ b))), some (.val (dNet ps (a.map sw))), some (.val (dNet ps (a.map rot).reverse)), some (.val (dNet (ps ++ [pAt ps 0]) (a ++ flat3 ps.length))), k14, k15, k16, k17, some (.val (.lst ((cancel [] (rimL a ++ rimL b)).map dP))), k19, k20, k21, k22, k23], [some (dPool q5)], ?_, rfl, rfl⟩
  unfold L11_law
  rw [seq_ap, h1, R.bind_ok, seqK_n, seq_ap, h2, R.bind_ok, seqK_n, fz_v rfl, seq_ap, h3, R.bind_ok, seqK_n, seq_ap, h4, R.bind_ok, seqK_n, seq_ap, h5, R.bind_ok, seqK_n, seq_ap, h6, R.bind_ok, seqK_n, seq_ap, h7, R.bind_ok, seqK_n, seq_ap, h8, R.bind_ok, seqK_n, seq_ap, h9, R.bind_ok, seqK_n, seq_ap, h10', R.bind_ok, seqK_n, seq_ap, h11, R.bind_ok, seqK_n, fz_v rfl, seq_ap, h12, R.bind_ok, seqK_n, h13]
theorem t_law {ns : List Int} (hns : ns.length ≤ 63) : ∃ m', f_law [.val (.scr (ns.map D.int))] [] = .ok (.val (.bl true)) m' := by
  obtain ⟨n, hn, e⟩ : ∃ n : Nat, n < 1000 ∧ iRange1 (aCons (eB maxD (aCons (eC (.int 1)) (aCons (eB minD (aCons (eB lenD (aCons (eV 0) aNil)) (aCons (eC (.int 6)) aNil))) aNil))) aNil) (startD 24 [.val (.scr (ns.map D.int))]) [] = .ok (rangeD 0 n) [] := by
    have x : ∃ j : Int, 0 ≤ j ∧ j < 1000 ∧ aCons (eB maxD (aCons (eC (.int 1)) (aCons (eB minD (aCons (eB lenD (aCons (eV 0) aNil)) (aCons (eC (.int 6)) aNil))) aNil))) aNil (startD 24 [.val (.scr (ns.map D.int))]) [] = .ok [.val (.int j)] [] := by
      refine ⟨(if (if (6 : Int) < (((ns.map D.int).length : Nat) : Int) then (6 : Int) else (((ns.map D.int).length : Nat) : Int)) > (1 : Int) then (if (6 : Int) < (((ns.map D.int).length : Nat) : Int) then (6 : Int) else (((ns.map D.int).length : Nat) : Int)) else (1 : Int)), ?_, ?_, ?_⟩
      · rw [List.length_map]; split <;> split <;> omega
      · rw [List.length_map]; split <;> split <;> omega
      · generalize ns.map D.int = dd
        simp only [consA_ap, B_ap, C_ap, nilA_ap, R.bind_ok, V_ap]
        rfl
    obtain ⟨j, j0, j1, x⟩ := x
    exact ⟨j.toNat, by omega, by rw [range1_ap, x, R.bind_ok, range1K_ok j0 (by omega)]⟩
  obtain ⟨ρ', m', e2', P0⟩ := for_inv (g := gN 1) (body := L11_law)
    (P := fun ds ρ m => (∀ d, d ∈ ds → ∃ k : Nat, k < 1000 ∧ d = .int (k : Nat)) ∧ ρ.length = 24 ∧ ρ[0]? = some (some (.val (.scr (ns.map D.int)))) ∧ m = []) (by
      rintro d ds ρ m ⟨hd, hl, h0, rfl⟩
      obtain ⟨k, hk, rfl⟩ := hd d (by simp)
      match ρ, hl, h0 with
      | [j0, j1, j2, j3, j4, j5, j6, j7, j8, j9, j10, j11, j12, j13, j14, j15, j16, j17, j18, j19, j20, j21, j22, j23], _, h0 =>
        have h0 : j0 = some (.val (.scr (ns.map D.int))) := Option.some.inj h0
        subst h0
        obtain ⟨ρ2, m2, e, l2, z⟩ := law_turn hns hk j2 j3 j4 j5 j6 j7 j8 j9 j10 j11 j12 j13 j14 j15 j16 j17 j18 j19 j20 j21 j22 j23
        refine ⟨_, rfl, ρ2, m2, .inl e, fun d hd' => hd d (by simp [hd']), by simp [trimR, l2], ?_, by simp⟩
        unfold trimR
        rw [List.getElem?_map, z]; rfl) (rangeD 0 n) (startD 24 [.val (.scr (ns.map D.int))]) [] ⟨fun d hd => by
      unfold rangeD at hd
      rw [List.mem_map] at hd
      obtain ⟨i, hi, rfl⟩ := hd
      exact ⟨i, by have := List.mem_range.mp hi; omega, by rw [Int.zero_add]⟩, rfl, rfl, rfl⟩
  refine ⟨m'.take 0, ?_⟩
  unfold f_law F_law
  rw [fn_ap, seq_ap, for_ap, e, R.bind_ok, e2', R.bind_ok]
  rfl
end FD
end
section
set_option Elab.async false
set_option linter.all false
set_option maxRecDepth 100000
set_option maxHeartbeats 0
namespace FD
open PySem PySem.W PySem.Calls PySem.Spec PyProof.Rows L2
abbrev Rr : PySem.W.OpenRow := PySem.W.OpenLaw.row PySem.Challenge.rw_filledonce_k47_whole_sums_of_nets
def as0 : List Addr := [3, 136, 143, 240, 251, 258, 272, 279, 286, 291, 298, 305, 312, 317, 324, 417, 426, 433, 440, 447, 454, 461, 468, 482, 489, 527, 538, 545, 617, 645, 652, 659, 664, 671, 678, 683, 135, 142, 239, 250]
def as1 : List Addr := [257, 271, 278, 285, 290, 297, 304, 311, 316, 323, 416, 425, 432, 439, 446, 453, 460, 467, 481, 488, 526, 537, 544, 616, 644, 651, 658, 663, 670, 677, 682, 164, 336, 355, 360, 379, 559, 600, 163, 335]
def as2 : List Addr := [354, 359, 378, 558, 599]
def asL : List Addr := as0 ++ as1 ++ as2
def obK (K : PySem.W.Frag) : He.AlD × Bool := (He.obsD fa fn K, fx.all fun f => f.ok K)
def hk : PySem.W.Hook where
  α := He.AlD × Bool
  obs := fun s => obK (He.frG s.heap.get? asL)
  val := fun _ => (He.valD fn, true)
  says := fun _ h => ∃ K : PySem.W.Frag, K.In h ∧ He.SaysD fa fn K ∧ (fx.all fun f => f.ok K) = true
  of := fun _ _ e => ⟨_, He.frG_in, congrArg Prod.fst e, congrArg Prod.snd e⟩
  keeps := fun _ _ _ ⟨K, hK, c⟩ k => ⟨K, PySem.W.Frag.In.keeps hK k, c⟩
def ob (s : PySem.W.SharedT) : He.AlD × Bool := obK (He.frG (HandSHeadRun.getT s) asL)
theorem ob_eq (s : PySem.W.SharedT) : ob s = hk.obs s.abs := by
  have e : HandSHeadRun.getT s = s.abs.heap.get? := funext fun a => HandSHeadRun.getT_eq s a
  show obK (He.frG (HandSHeadRun.getT s) asL) = obK (He.frG s.abs.heap.get? asL)
  rw [e]
def loose0 : List PySem.Str := ["_wall", "FillError", "InvalidPoint", "InvalidNumber", "NoDirection", "InvalidHalf", "InvalidNet", "is_integer", "is_between", "check_between", "Point", "numbers_of", "pair_of", "point_of", "less", "cross_of", "side_of", "ways_of", "is_owned", "shift_pairs", "MOST_POINTS", "check_points", "is_triple", "check_triples", "Net", "ascending", "owner_counts", "counted_owners", "signed", "is_upward"]
def loose1 : List PySem.Str := ["turns_of", "rim_turns", "direction_of", "common_divisor", "lowest_pair", "AXES", "WAYS", "Rule", "way_in", "check_ahead", "Half", "corners_of_kind", "kinds_of_half", "is_within", "_law_hand", "_law_draw", "_law_pair", "_law_net", "_law_told_half", "_law_left"]
def loose : List PySem.Str := loose0 ++ loose1
theorem run (w : World) : HandSHeadRun.RunEq Rr (PySem.W.view Rr.prog [59]) hk ob 20000 loose w := by
  intro os
  kernel_rfl
end FD
end
set_option Elab.async false
set_option linter.all false
set_option maxRecDepth 100000
set_option maxHeartbeats 0
namespace FD
open PySem PySem.Spec PyProof.Rows L2
theorem facts47 {P : Program} {w : World} {K : PySem.W.Frag} {h : Heap} {mg : Str → Option Value} {f : Addr} (X : K.In h) (G : h.Ns mainGlobals mg) (hfa : mg ("law" : Str) = some (.ref f)) (c : He.SaysD fa fn K) (cx : (fx.all fun f => f.ok K) = true) :
    ∃ fd : FuncData, (∀ (s : Shared) (v : Value), BindsTo s fd ⟨[v], []⟩ [("script", v)]) ∧ ∀ base : Heap, K.In base → base.Ns mainGlobals mg → FnOk P w K mg base CX0 7 f fd ["script"] (fun vs H Q _ => ∀ b : Heap, spD ⟨P, w, K, mg, b⟩ 1 f_law vs H Q E0D) := by
  obtain ⟨fd, F⟩ := c.def_ 37 (d := d_law) rfl
  have e := hfa.symm.trans (He.glo_ok X G (c.fact 63 (f := .glo "law") rfl))
  cases e
  have b := FunD.bindsA (ps := ["script"]) F fun _ _ _ _ _ _ us hl => match us, hl with | [_], _ => rfl
  refine ⟨fd, fun s v => b s [v] rfl, fun base _ _ => ?_⟩
  have F0 := def_ok0 (G := ⟨P, w, K, mg, base⟩) F sc_law fun E Y hX => b_law ⟨c, cx, h, X, G⟩ E Y hX
  exact ⟨fun vs H Q E z => F0.len vs H Q E (z base), fun A outer s H args us vs Q E h1 h2 h3 h4 z => F0.run A outer s H args us vs Q E h1 h2 h3 h4 (z base)⟩
end FD
open PySem PySem.W PySem.Calls PyProof.Rows
theorem PySem.Challenge.cw_filledonce_k47_whole_sums_of_nets_holds : PySem.Challenge.rw_filledonce_k47_whole_sums_of_nets.Holds := by
  w_on; o_law
  refine HandSHeadRun.head_any (r := OpenLaw.row PySem.Challenge.rw_filledonce_k47_whole_sums_of_nets) (q := view (OpenLaw.row PySem.Challenge.rw_filledonce_k47_whole_sums_of_nets).prog [59]) (H := FD.hk) (ob := FD.ob) (M := 20000) (loose := FD.loose) (d := HandSHeadRun.topDef (OpenLaw.row PySem.Challenge.rw_filledonce_k47_whole_sums_of_nets).prog 59) (kwd := []) FD.ob_eq
    (by kernel_rfl) (fun s => by kernel_rfl) FD.run (by kernel_rfl) (by kernel_rfl) (by kernel_rfl) (by rfl) (by first | assumption | decide +kernel) (by decide +kernel) ⟨rfl, rfl, rfl, rfl, rfl, by decide +kernel⟩ ?hw ?hc
  case hw => w_witness2
  case hc =>
    refine L2.walk_ofE (l := PySem.Challenge.rw_filledonce_k47_whole_sums_of_nets) (n := 63) (k := 7) (x := "script") (CX := L2.CX0) rfl (by decide) (by kernel_rfl) ⟨rfl, by decide, by decide⟩ ?F (fun _ _ _ _ z => z)
    intro w mg fa h Y G hmg0
    obtain ⟨K, KX, c, cx⟩ := Y
    have hmg : mg ("law" : PySem.Str) = some (.ref fa) := by
      have e : (HandSHeadRun.topDef (OpenLaw.row PySem.Challenge.rw_filledonce_k47_whole_sums_of_nets).prog 59).name = ("law" : PySem.Str) := by kernel_rfl
      rw [← e]
      exact hmg0
    obtain ⟨fd, hb, hF⟩ := FD.facts47 (P := (PySem.Challenge.rw_filledonce_k47_whole_sums_of_nets).prog) (w := w) KX G hmg c cx
    exact ⟨K, fd, fun vs H Q _ => ∀ b : Heap, FD.spD ⟨(PySem.Challenge.rw_filledonce_k47_whole_sums_of_nets).prog, w, K, mg, b⟩ 1 FD.f_law vs H Q FD.E0D, KX, hb, fun H a ns hl _ hS b => FD.law_sp (G := ⟨(PySem.Challenge.rw_filledonce_k47_whole_sums_of_nets).prog, w, K, mg, b⟩) hS (FD.t_law hl), hF⟩
