import PyProof.Rows.All
import Wide.All
import OpenK.AllK
import Wide.FinOn
import HandS.ForMost
import HandS.ForExc
import HandS.Wide
import HandS.Defaults
import HandS.CallSlots
import HandS.HeadHook2
import HandS.TupAny
import HandS.TupMul
import HandS.IsInst
import HandS.Small
import HandS.Style
import HandS.Zip
import KE.GoesMore
import PyProof.ReprRoads
import HandS.RaiseMore
import HandS.Head0
import HandS.Head1
import HandS.Head2
import HandS.HeadEnd
import HandS.HeadHook1
import HandS.Conv
import HandS.TupLe
import HandS.SortKw
import KE.DataMinMax
import HandS.SortInts
import HandS.SortRule
import HandS.Deep
import KE.SortData
import HandS.Text
import PyProof.StrOps2
import HandS.Strs
import HandS.SetFor
import HandS.DictComp
import PySem.Challenge.RW_strokesheard_k10_whole_hearing
import KE.KStateDown
set_option Elab.async false
set_option linter.all false
set_option maxRecDepth 100000
set_option maxHeartbeats 0
/-! A law of the program: each def is mirrored by a function of plain data; the layer Sk shows that the text does what its mirror does; the rest is reckoning with the mirrors. -/
/-! Sk A: data, memory, the relations to the heap. -/
namespace Sk
open PySem PySem.Spec L2

/-- a datum: immutable things by content, mutable ones by number -/
inductive Da where
  | non | bl (b : Bool) | int (i : Int) | str (x : Str) | tup (xs : List Da) | lst (xs : List Da) | ref (n : Nat)
/-- what a numbered thing holds -/
inductive Ob where
  | dct (kvs : List (Str × Da)) | ins (c : Str) (fs : List (Str × Da)) | scr (xs : List Da) | dead
abbrev Mem := List Ob
/-- an error in the air -/
structure Exn where
  cls : Str
  fs : List (Str × Da)
inductive Out (α : Type) where
  | ok (a : α) (mu : Mem) | exc (x : Exn) (mu : Mem) | bad
/-- a slot of a def: unset, a datum, a list that the def is still filling -/
inductive Sl where
  | un | val (d : Da) | own (xs : List Da)
abbrev Ev := List Sl

mutual
inductive RD (m : List Addr) (B : Addr → Prop) (H : Hp) : Da → V → Prop
  | non : RD m B H .non .non
  | bl (b : Bool) : RD m B H (.bl b) (.bl b)
  | int (i : Int) : RD m B H (.int i) (.int i)
  | str (x : Str) : RD m B H (.str x) (.str x)
  | tup {a : Addr} {xs : List Da} {us : List V} : a ∉ m → ¬ B a → H a = some (.tup us) → RDs m B H xs us → RD m B H (.tup xs) (.ref a)
  | lst {a : Addr} {xs : List Da} {us : List V} : a ∉ m → ¬ B a → H a = some (.lst us) → RDs m B H xs us → RD m B H (.lst xs) (.ref a)
  | ref {n : Nat} {a : Addr} : m[n]? = some a → RD m B H (.ref n) (.ref a)
inductive RDs (m : List Addr) (B : Addr → Prop) (H : Hp) : List Da → List V → Prop
  | nil : RDs m B H [] []
  | cons {d : Da} {ds : List Da} {v : V} {vs : List V} : RD m B H d v → RDs m B H ds vs → RDs m B H (d :: ds) (v :: vs)
end

/-- the order of worlds: what was tracked stays, but for the numbered things and the barred ones -/
structure Le (m : List Addr) (B : Addr → Prop) (H : Hp) (m' : List Addr) (B' : Addr → Prop) (H' : Hp) : Prop where
  pre : ∃ t, m' = m ++ t ∧ ∀ a ∈ t, H a = none
  keep : ∀ a o, H a = some o → a ∉ m → ¬ B a → H' a = some o
  dom : ∀ a, H' a = none → H a = none
  op : ∀ a, B' a → B a ∨ H a = none

section
variable {m m' : List Addr} {B B' : Addr → Prop} {H H' : Hp}
theorem Le.rd (g : Le m B H m' B' H') {a : Addr} {u : HO} (e : H a = some u) (h1 : a ∉ m) (h2 : ¬ B a) : H' a = some u ∧ a ∉ m' ∧ ¬ B' a := by
  refine ⟨?_, fun hm => ?_, fun hb => ?_⟩
  · exact g.keep _ _ e h1 h2
  · obtain ⟨t, rfl, ht⟩ := g.pre
    rcases List.mem_append.mp hm with h | h
    · exact h1 h
    · rw [ht a h] at e; cases e
  · rcases g.op a hb with h | h
    · exact h2 h
    · rw [h] at e; cases e
theorem Le.num (g : Le m B H m' B' H') {n : Nat} {a : Addr} (h : m[n]? = some a) : m'[n]? = some a := by
  obtain ⟨t, rfl, _⟩ := g.pre
  rw [List.getElem?_append_left (List.getElem?_eq_some_iff.mp h).1]
  exact h
mutual
theorem RD.mono (g : Le m B H m' B' H') : ∀ {d : Da} {v : V}, RD m B H d v → RD m' B' H' d v
  | _, _, .non => .non
  | _, _, .bl b => .bl b
  | _, _, .int i => .int i
  | _, _, .str x => .str x
  | _, _, .tup h1 h2 h3 h4 => let ⟨a, b, c⟩ := g.rd h3 h1 h2; .tup b c a (RDs.mono g h4)
  | _, _, .lst h1 h2 h3 h4 => let ⟨a, b, c⟩ := g.rd h3 h1 h2; .lst b c a (RDs.mono g h4)
  | _, _, .ref h => .ref (g.num h)
theorem RDs.mono (g : Le m B H m' B' H') : ∀ {d : List Da} {v : List V}, RDs m B H d v → RDs m' B' H' d v
  | _, _, .nil => .nil
  | _, _, .cons h t => .cons (RD.mono g h) (RDs.mono g t)
end
theorem Le.refl : Le m B H m B H := ⟨⟨[], by simp, by simp⟩, fun _ _ h _ _ => h, fun _ h => h, fun _ h => .inl h⟩
theorem Le.trans {m2 : List Addr} {B2 : Addr → Prop} {H2 : Hp} (g : Le m B H m' B' H') (k : Le m' B' H' m2 B2 H2) : Le m B H m2 B2 H2 := by
  refine ⟨?_, fun a o e h1 h2 => ?_, fun a e => g.dom a (k.dom a e), fun a h => ?_⟩
  · obtain ⟨t, rfl, ht⟩ := g.pre
    obtain ⟨u, rfl, hu⟩ := k.pre
    refine ⟨t ++ u, by simp, fun a h => ?_⟩
    rcases List.mem_append.mp h with h | h
    · exact ht a h
    · exact g.dom a (hu a h)
  · obtain ⟨a1, a2, a3⟩ := g.rd e h1 h2
    exact k.keep a o a1 a2 a3
  · rcases k.op a h with h | h
    · exact g.op a h
    · exact .inr (g.dom a h)
/-- the barred become fewer -/
theorem Le.less (h : ∀ a, B' a → B a) : Le m B H m B' H := ⟨⟨[], by simp, by simp⟩, fun _ _ e _ _ => e, fun _ e => e, fun a z => .inl (h a z)⟩
theorem RDs.length : ∀ {ds : List Da} {vs : List V}, RDs m B H ds vs → ds.length = vs.length
  | _, _, .nil => rfl
  | _, _, .cons _ t => congrArg Nat.succ (RDs.length t)
theorem RDs.get : ∀ {ds : List Da} {vs : List V} {i : Nat} {d : Da}, RDs m B H ds vs → ds[i]? = some d → ∃ v, vs[i]? = some v ∧ RD m B H d v
  | _, _, 0, _, .cons h _, e => by
    have e' := Option.some.inj e
    subst e'
    exact ⟨_, rfl, h⟩
  | _, _, i + 1, _, .cons _ t, e => RDs.get (i := i) t e
theorem RDs.append : ∀ {ds es : List Da} {vs us : List V}, RDs m B H ds vs → RDs m B H es us → RDs m B H (ds ++ es) (vs ++ us)
  | _, _, _, _, .nil, s => s
  | _, _, _, _, .cons h t, s => .cons h (RDs.append t s)
theorem RDs.take : ∀ {ds : List Da} {vs : List V} (n : Nat), RDs m B H ds vs → RDs m B H (ds.take n) (vs.take n)
  | _, _, 0, _ => by simpa using RDs.nil
  | _, _, _ + 1, .nil => .nil
  | _, _, n + 1, .cons h t => .cons h (RDs.take n t)
theorem RDs.drop : ∀ {ds : List Da} {vs : List V} (n : Nat), RDs m B H ds vs → RDs m B H (ds.drop n) (vs.drop n)
  | _, _, 0, h => by simpa using h
  | _, _, _ + 1, .nil => .nil
  | _, _, n + 1, .cons _ t => RDs.drop n t
end

/-! ### the order that calls and expressions keep -/
abbrev NoB : Addr → Prop := fun _ => False
abbrev Lf (m : List Addr) (H : Hp) (m' : List Addr) (H' : Hp) : Prop := Le m NoB H m' NoB H'
section
variable {m m' : List Addr} {B B' : Addr → Prop} {H H' : Hp}
theorem Lf.le (g : Lf m H m' H') (B : Addr → Prop) : Le m B H m' B H' := ⟨g.pre, fun a o e h _ => g.keep a o e h (fun z => z), g.dom, fun _ h => .inl h⟩
theorem Lf.of_same (h : Same H H') : Lf m H m H' := ⟨⟨[], by simp, by simp⟩, fun a o e _ _ => h a o e, fun a e => h.free e, fun _ z => .inl z⟩
theorem Lf.refl : Lf m H m H := Le.refl
end

/-! ### memory -/
section
variable (K : PySem.W.Frag) (m : List Addr) (B : Addr → Prop) (H : Hp)
def ObR (a : Addr) : Ob → Prop
  | .dct kvs => ∃ us, H a = some (.dK us) ∧ Paired (fun (p : Str × Da) (q : Key × V) => q.1 = .inr p.1 ∧ RD m B H p.2 q.2) kvs us
  | .ins c fs => ∃ dx us, H a = some (.ins (He.ga K c) dx us) ∧ Paired (fun (p : Str × Da) (q : Str × V) => q.1 = p.1 ∧ RD m B H p.2 q.2) fs us
  | .scr xs => ∃ o us, H a = some (.frz o (.lst us)) ∧ RDs m B H xs us
  | .dead => ∃ o, H a = some o
structure Wd (mu : Mem) : Prop where
  ob : Paired (fun (a : Addr) (o : Ob) => ObR K m B H a o) m mu
  nd : m.Nodup
  dis : ∀ a ∈ m, ¬ B a
  dom : ∀ a, B a → ∃ o, H a = some o
def SlR (Own : Addr → Prop) : Sl → Option V → Prop
  | .un, _ => True
  | .val d, o => ∃ v, o = some v ∧ RD m B H d v
  | .own xs, o => ∃ a us, o = some (.ref a) ∧ Own a ∧ H a = some (.lst us) ∧ RDs m B H xs us
end
/-- a frame's constants: the written part, the world at its entry -/
structure Fr where
  K : PySem.W.Frag
  m : List Addr
  B : Addr → Prop
  H : Hp
abbrev Fr.bar (G : Fr) (Own : Addr → Prop) : Addr → Prop := fun a => G.B a ∨ Own a
def Sl.isOwn : Sl → Bool
  | .own _ => true
  | _ => false
/-- the state of a frame -/
structure StR (G : Fr) (rho : Ev) (mu : Mem) (σ : St) (H : Hp) (m : List Addr) (Own : Addr → Prop) : Prop where
  le : Lf G.m G.H m H
  wd : Wd G.K m (G.bar Own) H mu
  sl : Paired (fun (s : Sl) (o : Option V) => SlR m (G.bar Own) H Own s o) rho σ
  ow : ∀ a, Own a → G.H a = none ∧ ¬ G.B a
  dj : ∀ (i j : Nat) (a : Addr) (xs ys : List Da), i ≠ j → rho[i]? = some (Sl.own xs) → rho[j]? = some (Sl.own ys) → σ[i]? = some (some (V.ref a)) → σ[j]? ≠ some (some (V.ref a))
section
variable {G : Fr} {K : PySem.W.Frag} {m m' : List Addr} {B B' : Addr → Prop} {H H' : Hp} {mu : Mem} {rho : Ev} {σ : St} {Own : Addr → Prop}
theorem paired_imp {α β : Type} {F F' : α → β → Prop} (h : ∀ a b, F a b → F' a b) : ∀ {l : List α} {k : List β}, Paired F l k → Paired F' l k
  | _, _, .nil => .nil
  | _, _, .cons a t => .cons (h _ _ a) (paired_imp h t)
theorem paired_mem {α β : Type} {F F' : α → β → Prop} : ∀ {l : List α} {k : List β}, Paired F l k → (∀ a ∈ l, ∀ b, F a b → F' a b) → Paired F' l k
  | _, _, .nil, _ => .nil
  | _, _, .cons a t, h => .cons (h _ (by simp) _ a) (paired_mem t fun x hx => h x (List.mem_cons_of_mem _ hx))
theorem paired_get {α β : Type} {F : α → β → Prop} : ∀ {l : List α} {k : List β} {i : Nat} {x : α}, Paired F l k → l[i]? = some x → ∃ y, k[i]? = some y ∧ F x y
  | _, _, 0, _, .cons a _, e => by
    have e' := Option.some.inj e
    subst e'
    exact ⟨_, rfl, a⟩
  | _, _, i + 1, _, .cons _ t, e => paired_get (i := i) t e
theorem paired_len {α β : Type} {F : α → β → Prop} : ∀ {l : List α} {k : List β}, Paired F l k → l.length = k.length
  | _, _, .nil => rfl
  | _, _, .cons _ t => congrArg Nat.succ (paired_len t)
theorem paired_set {α β : Type} {F : α → β → Prop} {x : α} {y : β} (h : F x y) : ∀ {l : List α} {k : List β} (i : Nat), Paired F l k → Paired F (l.set i x) (k.set i y)
  | _, _, _, .nil => .nil
  | _, _, 0, .cons _ t => .cons h t
  | _, _, i + 1, .cons a t => .cons a (paired_set h i t)
/-- the things are kept where each numbered thing stands as it was -/
theorem Wd.mono (w : Wd K m B H mu) (g : Le m B H m B' H') (k : ∀ a ∈ m, ∀ o, H a = some o → H' a = some o) (d : ∀ a, B' a → ∃ o, H' a = some o) (dj : ∀ a ∈ m, ¬ B' a) : Wd K m B' H' mu := by
  refine ⟨paired_mem w.ob fun a ha o h => ?_, w.nd, dj, d⟩
  cases o with
  | dct kvs =>
    obtain ⟨us, e, p⟩ := h
    exact ⟨us, k a ha _ e, paired_imp (fun _ _ ⟨x, y⟩ => ⟨x, y.mono g⟩) p⟩
  | ins c fs =>
    obtain ⟨dx, us, e, p⟩ := h
    exact ⟨dx, us, k a ha _ e, paired_imp (fun _ _ ⟨x, y⟩ => ⟨x, y.mono g⟩) p⟩
  | scr xs =>
    obtain ⟨o, us, e, r⟩ := h
    exact ⟨o, us, k a ha _ e, RDs.mono g r⟩
  | dead =>
    obtain ⟨o, e⟩ := h
    exact ⟨o, k a ha _ e⟩
/-- all that was tracked stays -/
theorem StR.same (s : StR G rho mu σ H m Own) (h : Same H H') : StR G rho mu σ H' m Own := by
  have g : Lf m H m H' := Lf.of_same h
  refine ⟨s.le.trans g, s.wd.mono (g.le _) (fun a _ o e => h a o e) (fun a z => ?_) s.wd.dis, paired_imp (fun x o z => ?_) s.sl, s.ow, s.dj⟩
  · obtain ⟨o, e⟩ := s.wd.dom a z
    exact ⟨o, h a o e⟩
  · cases x with
    | un => trivial
    | val d =>
      obtain ⟨v, e, r⟩ := z
      exact ⟨v, e, r.mono (g.le _)⟩
    | own xs =>
      obtain ⟨a, us, e1, e2, e3, e4⟩ := z
      exact ⟨a, us, e1, e2, h _ _ e3, RDs.mono (g.le _) e4⟩
theorem same_upd {p : Addr} {o : HO} (h : H p = none) : Same H (upd H p o) := fun b u e => by rw [upd_ne (ne_of_none e h)]; exact e
end

/-! ### readings -/
/-- how an error lies: its class, its own dict -/
def ExR (K : PySem.W.Frag) (m : List Addr) (B : Addr → Prop) (H : Hp) (x : Exn) (c : Value) (d : Option Addr) : Prop :=
  c = .ref (He.ga K x.cls) ∧ ∃ (a : Addr) (us : List (Str × V)), d = some a ∧ a ∉ m ∧ ¬ B a ∧ H a = some (.xd us) ∧ Paired (fun (p : Str × Da) (q : Str × V) => q.1 = p.1 ∧ RD m B H p.2 q.2) x.fs us
/-- what is asked of an expression that does what d does -/
def TEx (G : Fr) (W : WX) (d : Ev → Mem → Out Da) : TE := fun σ H Q => ∃ rho mu m Own, StR G rho mu σ H m Own ∧
  match d rho mu with
  | .ok z mu' => ∀ v H' m', Lf m H m' H' → StR G rho mu' σ H' m' Own → RD m' (G.bar Own) H' z v → Q v H'
  | .exc x mu' => ∀ c dd H' m', Lf m H m' H' → StR G rho mu' σ H' m' Own → ExR G.K m' (G.bar Own) H' x c dd → W c dd σ H'
  | .bad => False
/-- .. of a list of them -/
def TAx (G : Fr) (W : WX) (d : Ev → Mem → Out (List Da)) : TA := fun σ H Q => ∃ rho mu m Own, StR G rho mu σ H m Own ∧
  match d rho mu with
  | .ok zs mu' => ∀ vs H' m', Lf m H m' H' → StR G rho mu' σ H' m' Own → RDs m' (G.bar Own) H' zs vs → Q vs H'
  | .exc x mu' => ∀ c dd H' m', Lf m H m' H' → StR G rho mu' σ H' m' Own → ExR G.K m' (G.bar Own) H' x c dd → W c dd σ H'
  | .bad => False
/-- .. of a test -/
def TTx (G : Fr) (W : WX) (d : Ev → Mem → Out Bool) : TT := fun σ H Q => ∃ rho mu m Own, StR G rho mu σ H m Own ∧
  match d rho mu with
  | .ok b mu' => ∀ H' m', Lf m H m' H' → StR G rho mu' σ H' m' Own → Q b H'
  | .exc x mu' => ∀ c dd H' m', Lf m H m' H' → StR G rho mu' σ H' m' Own → ExR G.K m' (G.bar Own) H' x c dd → W c dd σ H'
  | .bad => False
/-- how a statement ends -/
inductive SO where
  | nx (rho : Ev) (mu : Mem) | rt (d : Da) (mu : Mem) | bk (rho : Ev) (mu : Mem) | ct (rho : Ev) (mu : Mem) | exc (x : Exn) (rho : Ev) (mu : Mem) | bad
/-- what is asked behind a statement that ends so -/
def SOk (G : Fr) (W : WX) (D : Ends) (m : List Addr) (Own : Addr → Prop) (H : Hp) : SO → Prop
  | .nx rho' mu' => ∀ σ' H' m' Own', Le m (G.bar Own) H m' (G.bar Own') H' → StR G rho' mu' σ' H' m' Own' → D.nx σ' H'
  | .rt z mu' => ∀ v H' m', Lf G.m G.H m' H' → Wd G.K m' G.B H' mu' → RD m' G.B H' z v → D.rt v H'
  | .bk rho' mu' => ∀ σ' H' m' Own', Le m (G.bar Own) H m' (G.bar Own') H' → StR G rho' mu' σ' H' m' Own' → D.bk σ' H'
  | .ct rho' mu' => ∀ σ' H' m' Own', Le m (G.bar Own) H m' (G.bar Own') H' → StR G rho' mu' σ' H' m' Own' → D.ct σ' H'
  | .exc x rho' mu' => ∀ c dd σ' H' m' Own', Le m (G.bar Own) H m' (G.bar Own') H' → StR G rho' mu' σ' H' m' Own' → ExR G.K m' (G.bar Own') H' x c dd → W c dd σ' H'
  | .bad => False
/-- .. of a statement -/
def TSx (G : Fr) (W : WX) (d : Ev → Mem → SO) : TS := fun D σ H => ∃ rho mu m Own, StR G rho mu σ H m Own ∧ SOk G W D m Own H (d rho mu)
end Sk

/-! Sk B: expressions. -/
namespace Sk
open PySem PySem.Spec L2

def Out.wp {α : Type} (o : Out α) (Q : α → Mem → Prop) (E : Exn → Mem → Prop) : Prop :=
  match o with
  | .ok a mu => Q a mu
  | .exc x mu => E x mu
  | .bad => False
def bnd {α β : Type} (o : Out α) (f : α → Mem → Out β) : Out β :=
  match o with
  | .ok a mu => f a mu
  | .exc x mu => .exc x mu
  | .bad => .bad
theorem wp_bnd {α β : Type} {o : Out α} {f : α → Mem → Out β} {Q : β → Mem → Prop} {E : Exn → Mem → Prop} (h : (bnd o f).wp Q E) : o.wp (fun a mu => (f a mu).wp Q E) E := by
  cases o <;> exact h
@[simp] theorem bnd_ok {α β : Type} {a : α} {mu : Mem} {f : α → Mem → Out β} : bnd (.ok a mu) f = f a mu := rfl
@[simp] theorem bnd_exc {α β : Type} {x : Exn} {mu : Mem} {f : α → Mem → Out β} : bnd (.exc x mu) f = .exc x mu := rfl
def opt {α : Type} (o : Option α) (mu : Mem) : Out α :=
  match o with
  | some d => .ok d mu
  | none => .bad
@[simp] theorem opt_some {α : Type} {d : α} {mu : Mem} : opt (some d) mu = .ok d mu := rfl
theorem wp_opt {α : Type} {o : Option α} {mu : Mem} {Q : α → Mem → Prop} {E : Exn → Mem → Prop} (h : (opt o mu).wp Q E) : ∃ d, o = some d ∧ Q d mu := by
  cases o with
  | none => exact h.elim
  | some d => exact ⟨d, rfl, h⟩

/-- what is wished of an error -/
def ES (G : Fr) (W : WX) (rho : Ev) (σ : L2.St) (Own : Addr → Prop) (m : List Addr) (H : Hp) (x : Exn) (mu : Mem) : Prop :=
  ∀ c dd H' m', Lf m H m' H' → StR G rho mu σ H' m' Own → ExR G.K m' (G.bar Own) H' x c dd → W c dd σ H'
section
variable {G : Fr} {W : WX} {rho : Ev} {σ : L2.St} {Own : Addr → Prop} {m m' : List Addr} {H H' : Hp} {mu mu' : Mem}
theorem ES.step (g : Lf m H m' H') {x : Exn} (h : ES G W rho σ Own m H x mu) : ES G W rho σ Own m' H' x mu := fun c dd H2 m2 g2 => h c dd H2 m2 (g.trans g2)
theorem wp_step {α : Type} {o : Out α} {Q : α → Mem → Prop} (g : Lf m H m' H') (h : o.wp Q (ES G W rho σ Own m H)) : o.wp Q (ES G W rho σ Own m' H') := by
  cases o with
  | ok a mu => exact h
  | exc x mu => exact ES.step g h
  | bad => exact h
theorem wp_and {α : Type} {o : Out α} {Q Q' : α → Mem → Prop} {E : Exn → Mem → Prop} (h : o.wp Q E) (k : ∀ a mu, Q a mu → Q' a mu) : o.wp Q' E := by
  cases o with
  | ok a mu => exact k _ _ h
  | exc x mu => exact h
  | bad => exact h
theorem TEx.to {d : Ev → Mem → Out Da} {Q : VK} {A : Da → Mem → Prop} (S : StR G rho mu σ H m Own) (h : (d rho mu).wp A (ES G W rho σ Own m H))
    (k : ∀ z mu1 v H1 m1, A z mu1 → Lf m H m1 H1 → StR G rho mu1 σ H1 m1 Own → RD m1 (G.bar Own) H1 z v → Q v H1) : TEx G W d σ H Q := by
  refine ⟨rho, mu, m, Own, S, ?_⟩
  cases e : d rho mu with
  | ok z mu1 =>
    rw [e] at h
    exact fun v H1 m1 g S1 r => k z mu1 v H1 m1 h g S1 r
  | exc x mu1 =>
    rw [e] at h
    exact h
  | bad =>
    rw [e] at h
    exact h
theorem TAx.to {d : Ev → Mem → Out (List Da)} {Q : List V → Hp → Prop} {A : List Da → Mem → Prop} (S : StR G rho mu σ H m Own) (h : (d rho mu).wp A (ES G W rho σ Own m H))
    (k : ∀ z mu1 v H1 m1, A z mu1 → Lf m H m1 H1 → StR G rho mu1 σ H1 m1 Own → RDs m1 (G.bar Own) H1 z v → Q v H1) : TAx G W d σ H Q := by
  refine ⟨rho, mu, m, Own, S, ?_⟩
  cases e : d rho mu with
  | ok z mu1 =>
    rw [e] at h
    exact fun v H1 m1 g S1 r => k z mu1 v H1 m1 h g S1 r
  | exc x mu1 =>
    rw [e] at h
    exact h
  | bad =>
    rw [e] at h
    exact h
theorem TTx.to {d : Ev → Mem → Out Bool} {Q : Bool → Hp → Prop} {A : Bool → Mem → Prop} (S : StR G rho mu σ H m Own) (h : (d rho mu).wp A (ES G W rho σ Own m H))
    (k : ∀ b mu1 H1 m1, A b mu1 → Lf m H m1 H1 → StR G rho mu1 σ H1 m1 Own → Q b H1) : TTx G W d σ H Q := by
  refine ⟨rho, mu, m, Own, S, ?_⟩
  cases e : d rho mu with
  | ok z mu1 =>
    rw [e] at h
    exact fun H1 m1 g S1 => k z mu1 H1 m1 h g S1
  | exc x mu1 =>
    rw [e] at h
    exact h
  | bad =>
    rw [e] at h
    exact h
/-- the wish for what has been read -/
def QE (G : Fr) (rho : Ev) (σ : L2.St) (Own : Addr → Prop) (m : List Addr) (H : Hp) (Q : VK) (z : Da) (mu' : Mem) : Prop :=
  ∀ v H' m', Lf m H m' H' → StR G rho mu' σ H' m' Own → RD m' (G.bar Own) H' z v → Q v H'
theorem TEx.un {d : Ev → Mem → Out Da} {Q : VK} (h : TEx G W d σ H Q) : ∃ rho mu m Own, StR G rho mu σ H m Own ∧ (d rho mu).wp (QE G rho σ Own m H Q) (ES G W rho σ Own m H) := by
  obtain ⟨rho, mu, m, Own, S, h⟩ := h
  refine ⟨rho, mu, m, Own, S, ?_⟩
  cases e : d rho mu with
  | ok z mu1 => rw [e] at h; exact h
  | exc x mu1 => rw [e] at h; exact h
  | bad => rw [e] at h; exact h
def QA (G : Fr) (rho : Ev) (σ : L2.St) (Own : Addr → Prop) (m : List Addr) (H : Hp) (Q : List V → Hp → Prop) (z : List Da) (mu' : Mem) : Prop :=
  ∀ v H' m', Lf m H m' H' → StR G rho mu' σ H' m' Own → RDs m' (G.bar Own) H' z v → Q v H'
theorem TAx.un {d : Ev → Mem → Out (List Da)} {Q : List V → Hp → Prop} (h : TAx G W d σ H Q) : ∃ rho mu m Own, StR G rho mu σ H m Own ∧ (d rho mu).wp (QA G rho σ Own m H Q) (ES G W rho σ Own m H) := by
  obtain ⟨rho, mu, m, Own, S, h⟩ := h
  refine ⟨rho, mu, m, Own, S, ?_⟩
  cases e : d rho mu with
  | ok z mu1 => rw [e] at h; exact h
  | exc x mu1 => rw [e] at h; exact h
  | bad => rw [e] at h; exact h
def QT (G : Fr) (rho : Ev) (σ : L2.St) (Own : Addr → Prop) (m : List Addr) (H : Hp) (Q : Bool → Hp → Prop) (z : Bool) (mu' : Mem) : Prop :=
  ∀ H' m', Lf m H m' H' → StR G rho mu' σ H' m' Own → Q z H'
theorem TTx.un {d : Ev → Mem → Out Bool} {Q : Bool → Hp → Prop} (h : TTx G W d σ H Q) : ∃ rho mu m Own, StR G rho mu σ H m Own ∧ (d rho mu).wp (QT G rho σ Own m H Q) (ES G W rho σ Own m H) := by
  obtain ⟨rho, mu, m, Own, S, h⟩ := h
  refine ⟨rho, mu, m, Own, S, ?_⟩
  cases e : d rho mu with
  | ok z mu1 => rw [e] at h; exact h
  | exc x mu1 => rw [e] at h; exact h
  | bad => rw [e] at h; exact h
end
theorem PEw {X : Cx} {e : Expr} {t t' : TE} (h : PE X e t) (w : ∀ σ H Q, t' σ H Q → t σ H Q) : PE X e t' := ⟨fun pins s σ H Q I q => h.run pins s σ H Q I (w σ H Q q)⟩
theorem PTw {X : Cx} {e : Expr} {t t' : TT} (h : PT X e t) (w : ∀ σ H Q, t' σ H Q → t σ H Q) : PT X e t' := ⟨fun pins s σ H Q I q => h.run pins s σ H Q I (w σ H Q q)⟩
theorem PWw {X : Cx} {e : Expr} {t t' : TT} (h : PW X e t) (w : ∀ σ H Q, t' σ H Q → t σ H Q) : PW X e t' := ⟨fun wh pins s σ H Q I q => h.run wh pins s σ H Q I (w σ H Q q)⟩
theorem PAw {X : Cx} {e : List Expr} {t t' : TA} (h : PA X e t) (w : ∀ σ H Q, t' σ H Q → t σ H Q) : PA X e t' := ⟨fun pos pins s σ H Q I q => h.run pos pins s σ H Q I (w σ H Q q)⟩
theorem PSw {X : Cx} {e : Stmt} {t t' : TS} (h : PS X e t) (w : ∀ D σ H, t' D σ H → t D σ H) : PS X e t' := ⟨fun pins s σ H D I q => h.run pins s σ H D I (w D σ H q)⟩
theorem PSsw {X : Cx} {e : List Stmt} {t t' : TS} (h : PSs X e t) (w : ∀ D σ H, t' D σ H → t D σ H) : PSs X e t' := ⟨fun pins s σ H D I q => h.run pins s σ H D I (w D σ H q)⟩

/-! ### what an expression does -/
abbrev EvD := Ev → Mem → Out Da
def eV (i : Nat) : EvD := fun rho mu => match rho[i]? with
  | some (.val d) => .ok d mu
  | _ => .bad
def eK (d : Da) : EvD := fun _ mu => .ok d mu
def e1 (f : Da → Option Da) (a : EvD) : EvD := fun rho mu => bnd (a rho mu) fun x mu1 => opt (f x) mu1
def e2 (f : Da → Da → Option Da) (a b : EvD) : EvD := fun rho mu => bnd (a rho mu) fun x mu1 => bnd (b rho mu1) fun y mu2 => opt (f x y) mu2
def aN : Ev → Mem → Out (List Da) := fun _ mu => .ok [] mu
def aC (a : EvD) (r : Ev → Mem → Out (List Da)) : Ev → Mem → Out (List Da) := fun rho mu => bnd (a rho mu) fun x mu1 => bnd (r rho mu1) fun xs mu2 => .ok (x :: xs) mu2
def eTup (a : Ev → Mem → Out (List Da)) : EvD := fun rho mu => bnd (a rho mu) fun xs mu1 => .ok (.tup xs) mu1
def eLst (a : Ev → Mem → Out (List Da)) : EvD := fun rho mu => bnd (a rho mu) fun xs mu1 => .ok (.lst xs) mu1
/-- a built-in by its arguments -/
def eB (f : List Da → Option Da) (a : Ev → Mem → Out (List Da)) : EvD := fun rho mu => bnd (a rho mu) fun xs mu1 => opt (f xs) mu1
abbrev Fn := List Da → Mem → Out Da
def eC (f : Fn) (a : Ev → Mem → Out (List Da)) : EvD := fun rho mu => bnd (a rho mu) f
/-- tests -/
abbrev EvT := Ev → Mem → Out Bool
def tV (a : EvD) : EvT := fun rho mu => bnd (a rho mu) fun x mu1 => match x with
  | .bl b => .ok b mu1
  | _ => .bad
def tAnd (a b : EvT) : EvT := fun rho mu => bnd (a rho mu) fun x mu1 => if x then b rho mu1 else .ok false mu1
def tOr (a b : EvT) : EvT := fun rho mu => bnd (a rho mu) fun x mu1 => if x then .ok true mu1 else b rho mu1
def tNot (a : EvT) : EvT := fun rho mu => bnd (a rho mu) fun x mu1 => .ok (!x) mu1
def eOfT (a : EvT) : EvD := fun rho mu => bnd (a rho mu) fun x mu1 => .ok (.bl x) mu1
def eIf (t : EvT) (a b : EvD) : EvD := fun rho mu => bnd (t rho mu) fun x mu1 => if x then a rho mu1 else b rho mu1

section
variable {X : Cx} {G : Fr} {W : WX} {pos : Pos} {a b : Expr} {da db : EvD} {op : Operator}
theorem StR.var {rho : Ev} {mu : Mem} {σ : L2.St} {H : Hp} {m : List Addr} {Own : Addr → Prop} (S : StR G rho mu σ H m Own) {i : Nat} {d : Da} (h : rho[i]? = some (.val d)) : ∃ v, σ[i]? = some (some v) ∧ RD m (G.bar Own) H d v := by
  obtain ⟨o, e, r⟩ := paired_get S.sl h
  obtain ⟨v, rfl, r⟩ := r
  exact ⟨v, e, r⟩
theorem c_var {i : Nat} {e : Expr} (h : PE X e (tVar i)) : PE X e (TEx G W (eV i)) := PEw h fun σ H Q h => by
  obtain ⟨rho, mu, m, Own, S, h⟩ := h
  unfold eV at h
  cases e : rho[i]? with
  | none => rw [e] at h; exact h.elim
  | some sl =>
    rw [e] at h
    cases sl with
    | val d =>
      obtain ⟨v, e2, r⟩ := S.var e
      exact ⟨v, e2, h v H m Lf.refl S r⟩
    | un => exact h.elim
    | own xs => exact h.elim
theorem c_con {v : V} {d : Da} {e : Expr} (h : PE X e (tC v)) (r : ∀ m B H, RD m B H d v) : PE X e (TEx G W (eK d)) := PEw h fun σ H Q h => by
  obtain ⟨rho, mu, m, Own, S, h⟩ := h
  exact h v H m Lf.refl S (r _ _ _)
theorem c_int {i : Int} {j : Nat} : PE X (.Constant (.int i) j pos) (TEx G W (eK (.int i))) := c_con pe_int fun _ _ _ => .int i
theorem c_bl {i : Bool} {j : Nat} : PE X (.Constant (.bool i) j pos) (TEx G W (eK (.bl i))) := c_con pe_bl fun _ _ _ => .bl i
theorem c_non {j : Nat} : PE X (.Constant .none j pos) (TEx G W (eK .non)) := c_con pe_non fun _ _ _ => .non
theorem c_str {x : Str} {j : Nat} : PE X (.Constant (.str x) j pos) (TEx G W (eK (.str x))) := c_con pe_str fun _ _ _ => .str x
theorem StR.fresh {rho : Ev} {mu : Mem} {σ : L2.St} {H : Hp} {m : List Addr} {Own : Addr → Prop} (S : StR G rho mu σ H m Own) {p : Addr} (hp : H p = none) : p ∉ m ∧ ¬ G.bar Own p := by
  refine ⟨fun hm => ?_, fun hb => ?_⟩
  · have key : ∀ {m : List Addr} {mu : Mem}, Paired (fun (a : Addr) (o : Ob) => ObR G.K m (G.bar Own) H a o) m mu → True := fun _ => trivial
    have : ∀ {l : List Addr} {k : Mem}, Paired (fun (a : Addr) (o : Ob) => ObR G.K m (G.bar Own) H a o) l k → p ∈ l → False := by
      intro l k h
      induction h with
      | nil => intro z; cases z
      | cons h t ih =>
        intro z
        rcases List.mem_cons.mp z with e | z
        · subst e
          rename_i b _ _
          cases b with
          | dct kvs => obtain ⟨us, e, _⟩ := h; rw [hp] at e; cases e
          | ins c fs => obtain ⟨dx, us, e, _⟩ := h; rw [hp] at e; cases e
          | scr xs => obtain ⟨o, us, e, _⟩ := h; rw [hp] at e; cases e
          | dead => obtain ⟨o, e⟩ := h; rw [hp] at e; cases e
        · exact ih z
    exact this S.wd.ob hm
  · obtain ⟨o, e⟩ := S.wd.dom p hb
    rw [hp] at e; cases e
/-- an operation on data -/
def OpD (X : Cx) (sem : Value → Value → Sem Value) (f : Da → Da → Option Da) : Prop :=
  ∃ r : R2, OpR X sem r ∧ ∀ (m : List Addr) (B : Addr → Prop) (H : Hp) (x y z : Da) (a b : V) (Q : VK), f x y = some z → RD m B H x a → RD m B H y b → (∀ p, H p = none → p ∉ m ∧ ¬ B p) → (∀ v H', Same H H' → RD m B H' z v → Q v H') → r a b H Q
theorem two {rho : Ev} {mu : Mem} {σ : L2.St} {H : Hp} {m : List Addr} {Own : Addr → Prop} {Q : VK} {f : Da → Da → Option Da} (S : StR G rho mu σ H m Own) (h : (e2 f da db rho mu).wp (QE G rho σ Own m H Q) (ES G W rho σ Own m H)) {r : V → V → Hp → VK → Prop}
    (k : ∀ (m : List Addr) (B : Addr → Prop) (H : Hp) (x y z : Da) (a b : V) (Q : VK), f x y = some z → RD m B H x a → RD m B H y b → (∀ p, H p = none → p ∉ m ∧ ¬ B p) → (∀ v H', Same H H' → RD m B H' z v → Q v H') → r a b H Q) :
    TEx G W da σ H fun x H1 => TEx G W db σ H1 fun y H2 => r x y H2 Q := by
  refine TEx.to S (wp_bnd h) fun x mu1 v1 H1 m1 h1 g1 S1 r1 => TEx.to S1 (wp_step g1 (wp_bnd h1)) fun y mu2 v2 H2 m2 h2 g2 S2 r2 => ?_
  obtain ⟨z, e, q⟩ := wp_opt h2
  exact k m2 _ H2 x y z v1 v2 Q e (r1.mono (g2.le _)) r2 (fun p hp => S2.fresh hp) fun v H' sm rd => q v H' m2 (g1.trans (g2.trans (Lf.of_same sm))) (S2.same sm) rd
theorem c_op {f : Da → Da → Option Da} (ho : OpD X (binaryOp op) f) (ha : PE X a (TEx G W da)) (hb : PE X b (TEx G W db)) : PE X (.BinOp a op b pos) (TEx G W (e2 f da db)) := by
  obtain ⟨r, hr, k⟩ := ho
  refine PEw (pe_op hr ha hb) fun σ H Q h => ?_
  obtain ⟨rho, mu, m, Own, S, h⟩ := h.un
  exact two S h k
theorem c_cmp {f : Da → Da → Option Da} {op : CmpOp} (ho : OpD X (compareOp op) f) (ha : PE X a (TEx G W da)) (hb : PE X b (TEx G W db)) (hm : behindInMarks op b = false) : PE X (.Compare a [op] [b] pos) (TEx G W (e2 f da db)) := by
  obtain ⟨r, hr, k⟩ := ho
  refine PEw (pe_cmpR hr ha hb hm) fun σ H Q h => ?_
  obtain ⟨rho, mu, m, Own, S, h⟩ := h.un
  exact two S h k
/-- a value as a test -/
theorem c_val (ha : PE X a (TEx G W da)) (he : ∀ whole, isTrue a X.env whole = (do let v ← whole; standAt a.pos; holding [v] (truthy v)) := by intro _; rfl) : PT X a (TTx G W (tV da)) := by
  refine PTw (pt_val ha he) fun σ H Q h => ?_
  obtain ⟨rho, mu, m, Own, S, h⟩ := h.un
  refine TEx.to S (wp_bnd h) fun x mu1 v1 H1 m1 h1 g1 S1 r1 => ?_
  cases x with
  | bl k =>
    cases r1
    exact ⟨k, rfl, h1 H1 m1 g1 S1⟩
  | _ => exact h1.elim
theorem c_tcmp {f : Da → Da → Option Da} {op : CmpOp} (ho : OpD X (compareOp op) f) (ha : PE X a (TEx G W da)) (hb : PE X b (TEx G W db)) (hm : behindInMarks op b = false) : PT X (.Compare a [op] [b] pos) (TTx G W (tV (e2 f da db))) := by
  obtain ⟨r, hr, k⟩ := ho
  refine PTw (pt_cmpR hr ha hb hm) fun σ H Q h => ?_
  obtain ⟨rho, mu, m, Own, S, h⟩ := h.un
  refine two (Q := fun x H' => ∃ k, x = .bl k ∧ Q k H') S (wp_and (wp_bnd h) fun x mu1 h1 => ?_) k
  intro v H' m' g S' r1
  cases x with
  | bl k =>
    cases r1
    exact ⟨k, rfl, h1 H' m' g S'⟩
  | _ => exact h1.elim
theorem c_not {t : EvT} (ha : PT X a (TTx G W t)) : PT X (.UnaryOp .Not a pos) (TTx G W (tNot t)) := by
  refine PTw (pt_not ha) fun σ H Q h => ?_
  obtain ⟨rho, mu, m, Own, S, h⟩ := h.un
  exact TTx.to S (wp_bnd h) fun x mu1 H1 m1 h1 g1 S1 => h1 H1 m1 g1 S1
theorem c_and1 {t : EvT} (ha : PT X a (TTx G W t)) : PW X (.BoolOp .And [a] pos) (TTx G W t) := pw_and1 ha
theorem c_or1 {t : EvT} (ha : PT X a (TTx G W t)) : PW X (.BoolOp .Or [a] pos) (TTx G W t) := pw_or1 ha
theorem c_and {t u : EvT} {rest : List Expr} (ha : PT X a (TTx G W t)) (hb : PW X (.BoolOp .And (b :: rest) pos) (TTx G W u)) : PW X (.BoolOp .And (a :: b :: rest) pos) (TTx G W (tAnd t u)) := by
  refine PWw (pw_and ha hb) fun σ H Q h => ?_
  obtain ⟨rho, mu, m, Own, S, h⟩ := h.un
  refine TTx.to S (wp_bnd h) fun x mu1 H1 m1 h1 g1 S1 => ?_
  cases x with
  | true => exact TTx.to S1 (wp_step g1 h1) fun y mu2 H2 m2 h2 g2 S2 => h2 H2 m2 (g1.trans g2) S2
  | false => exact h1 H1 m1 g1 S1
theorem c_or {t u : EvT} {rest : List Expr} (ha : PT X a (TTx G W t)) (hb : PW X (.BoolOp .Or (b :: rest) pos) (TTx G W u)) : PW X (.BoolOp .Or (a :: b :: rest) pos) (TTx G W (tOr t u)) := by
  refine PWw (pw_or ha hb) fun σ H Q h => ?_
  obtain ⟨rho, mu, m, Own, S, h⟩ := h.un
  refine TTx.to S (wp_bnd h) fun x mu1 H1 m1 h1 g1 S1 => ?_
  cases x with
  | true => exact h1 H1 m1 g1 S1
  | false => exact TTx.to S1 (wp_step g1 h1) fun y mu2 H2 m2 h2 g2 S2 => h2 H2 m2 (g1.trans g2) S2
/-- and, or, not as values: all parts True or False -/
def eAnd (a b : EvD) : EvD := fun rho mu => bnd (a rho mu) fun x mu1 => match x with
  | .bl true => b rho mu1
  | .bl false => .ok (.bl false) mu1
  | _ => .bad
def eOr (a b : EvD) : EvD := fun rho mu => bnd (a rho mu) fun x mu1 => match x with
  | .bl true => .ok (.bl true) mu1
  | .bl false => b rho mu1
  | _ => .bad
def eNot (a : EvD) : EvD := fun rho mu => bnd (a rho mu) fun x mu1 => match x with
  | .bl k => .ok (.bl (!k)) mu1
  | _ => .bad
theorem c_eone {o : BoolOp} (ha : PE X a (TEx G W da)) : PE X (.BoolOp o [a] pos) (TEx G W da) := pe_one ha
theorem c_eand {rest : List Expr} (ha : PE X a (TEx G W da)) (hb : PE X (.BoolOp .And (b :: rest) pos) (TEx G W db)) : PE X (.BoolOp .And (a :: b :: rest) pos) (TEx G W (eAnd da db)) := by
  refine PEw (pe_and ha hb) fun σ H Q h => ?_
  obtain ⟨rho, mu, m, Own, S, h⟩ := h.un
  refine TEx.to S (wp_bnd h) fun x mu1 v1 H1 m1 h1 g1 S1 r1 => ?_
  cases x with
  | bl k =>
    cases r1
    cases k with
    | true => exact ⟨true, rfl, TEx.to S1 (wp_step g1 h1) fun y mu2 v2 H2 m2 h2 g2 S2 r2 => h2 v2 H2 m2 (g1.trans g2) S2 r2⟩
    | false => exact ⟨false, rfl, h1 _ H1 m1 g1 S1 (.bl _)⟩
  | _ => exact h1.elim
theorem c_eor {rest : List Expr} (ha : PE X a (TEx G W da)) (hb : PE X (.BoolOp .Or (b :: rest) pos) (TEx G W db)) : PE X (.BoolOp .Or (a :: b :: rest) pos) (TEx G W (eOr da db)) := by
  refine PEw (pe_or ha hb) fun σ H Q h => ?_
  obtain ⟨rho, mu, m, Own, S, h⟩ := h.un
  refine TEx.to S (wp_bnd h) fun x mu1 v1 H1 m1 h1 g1 S1 r1 => ?_
  cases x with
  | bl k =>
    cases r1
    cases k with
    | true => exact ⟨true, rfl, h1 _ H1 m1 g1 S1 (.bl _)⟩
    | false => exact ⟨false, rfl, TEx.to S1 (wp_step g1 h1) fun y mu2 v2 H2 m2 h2 g2 S2 r2 => h2 v2 H2 m2 (g1.trans g2) S2 r2⟩
  | _ => exact h1.elim
theorem c_enot (ha : PE X a (TEx G W da)) : PE X (.UnaryOp .Not a pos) (TEx G W (eNot da)) := by
  refine PEw (pe_not ha) fun σ H Q h => ?_
  obtain ⟨rho, mu, m, Own, S, h⟩ := h.un
  refine TEx.to S (wp_bnd h) fun x mu1 v1 H1 m1 h1 g1 S1 r1 => ?_
  cases x with
  | bl k =>
    cases r1
    exact ⟨k, rfl, h1 _ H1 m1 g1 S1 (.bl _)⟩
  | _ => exact h1.elim
theorem c_if {t : EvT} {c : Expr} (hc : PT X c (TTx G W t)) (ha : PE X a (TEx G W da)) (hb : PE X b (TEx G W db)) : PE X (.IfExp c a b pos) (TEx G W (eIf t da db)) := by
  refine PEw (pe_ifExp hc ha hb) fun σ H Q h => ?_
  obtain ⟨rho, mu, m, Own, S, h⟩ := h.un
  refine TTx.to S (wp_bnd h) fun x mu1 H1 m1 h1 g1 S1 => ?_
  cases x with
  | true => exact TEx.to S1 (wp_step g1 h1) fun y mu2 v2 H2 m2 h2 g2 S2 r2 => h2 v2 H2 m2 (g1.trans g2) S2 r2
  | false => exact TEx.to S1 (wp_step g1 h1) fun y mu2 v2 H2 m2 h2 g2 S2 r2 => h2 v2 H2 m2 (g1.trans g2) S2 r2
/-! ### arguments, displays, built-ins -/
theorem c_nil : PA X [] (TAx G W aN) := PAw pa_nil fun σ H Q h => by
  obtain ⟨rho, mu, m, Own, S, h⟩ := h
  exact h [] H m Lf.refl S .nil
theorem c_cons {es : List Expr} {e : Expr} {d : EvD} {r : Ev → Mem → Out (List Da)} (ha : PE X e (TEx G W d)) (hr : PA X es (TAx G W r)) (hs : starEach (e :: es) X.env = (false, eval e X.env) :: starEach es X.env := by rfl) : PA X (e :: es) (TAx G W (aC d r)) := by
  refine PAw (pa_cons ha hr hs) fun σ H Q h => ?_
  obtain ⟨rho, mu, m, Own, S, h⟩ := h.un
  refine TEx.to S (wp_bnd h) fun x mu1 v1 H1 m1 h1 g1 S1 r1 => TAx.to S1 (wp_step g1 (wp_bnd h1)) fun y mu2 v2 H2 m2 h2 g2 S2 r2 => ?_
  exact h2 _ H2 m2 (g1.trans g2) S2 (.cons (r1.mono (g2.le _)) r2)
/-- a new thing by content -/
theorem RD.new_tup {m : List Addr} {B : Addr → Prop} {H : Hp} {xs : List Da} {vs : List V} {p : Addr} (r : RDs m B H xs vs) (hp : H p = none) (hm : p ∉ m) (hB : ¬ B p) : RD m B (upd H p (.tup vs)) (.tup xs) (.ref p) :=
  .tup hm hB upd_same (RDs.mono ((Lf.of_same (same_upd hp)).le _) r)
theorem RD.new_lst {m : List Addr} {B : Addr → Prop} {H : Hp} {xs : List Da} {vs : List V} {p : Addr} (r : RDs m B H xs vs) (hp : H p = none) (hm : p ∉ m) (hB : ¬ B p) : RD m B (upd H p (.lst vs)) (.lst xs) (.ref p) :=
  .lst hm hB upd_same (RDs.mono ((Lf.of_same (same_upd hp)).le _) r)
theorem c_tup {es : List Expr} {x1} {r : Ev → Mem → Out (List Da)} (h : PA X es (TAx G W r)) (hz : es.length ≤ sizeLine) (hl : ∀ rho mu xs mu', r rho mu = .ok xs mu' → xs.length = es.length) : PE X (.Tuple es x1 pos) (TEx G W (eTup r)) := by
  refine PEw (pe_tup h) fun σ H Q h => ?_
  obtain ⟨rho, mu, m, Own, S, h⟩ := h.un
  have e0 := hl rho mu
  refine TAx.to (A := fun z mu1 => QE G rho σ Own m H Q (.tup z) mu1 ∧ z.length = es.length) S ?_ fun x mu1 v1 H1 m1 ⟨h1, hx⟩ g1 S1 r1 => ⟨by rw [← r1.length, hx]; exact hz, fun p hp => ?_⟩
  · cases e : r rho mu with
    | ok z mu1 => unfold eTup at h; rw [e] at h; exact ⟨h, e0 _ _ e⟩
    | exc x mu1 => unfold eTup at h; rw [e] at h; exact h
    | bad => unfold eTup at h; rw [e] at h; exact h
  · obtain ⟨f1, f2⟩ := S1.fresh hp
    exact h1 _ _ m1 (g1.trans (Lf.of_same (same_upd hp))) (S1.same (same_upd hp)) (RD.new_tup r1 hp f1 f2)
theorem c_lst {es : List Expr} {r : Ev → Mem → Out (List Da)} (h : PA X es (TAx G W r)) (hz : es.length ≤ sizeLine) (hl : ∀ rho mu xs mu', r rho mu = .ok xs mu' → xs.length = es.length) : PE X (.List es pos) (TEx G W (eLst r)) := by
  refine PEw (pe_lst h) fun σ H Q h => ?_
  obtain ⟨rho, mu, m, Own, S, h⟩ := h.un
  have e0 := hl rho mu
  refine TAx.to (A := fun z mu1 => QE G rho σ Own m H Q (.lst z) mu1 ∧ z.length = es.length) S ?_ fun x mu1 v1 H1 m1 ⟨h1, hx⟩ g1 S1 r1 => ⟨by rw [← r1.length, hx]; exact hz, fun p hp => ?_⟩
  · cases e : r rho mu with
    | ok z mu1 => unfold eLst at h; rw [e] at h; exact ⟨h, e0 _ _ e⟩
    | exc x mu1 => unfold eLst at h; rw [e] at h; exact h
    | bad => unfold eLst at h; rw [e] at h; exact h
  · obtain ⟨f1, f2⟩ := S1.fresh hp
    exact h1 _ _ m1 (g1.trans (Lf.of_same (same_upd hp))) (S1.same (same_upd hp)) (RD.new_lst r1 hp f1 f2)
/-- how many a written argument list gives -/
theorem aN_len : ∀ (rho : Ev) (mu : Mem) (xs : List Da) (mu' : Mem), aN rho mu = .ok xs mu' → xs.length = 0 := fun _ _ _ _ h => by
  cases h; rfl
theorem aC_len {d : EvD} {r : Ev → Mem → Out (List Da)} {n : Nat} (h : ∀ rho mu xs mu', r rho mu = .ok xs mu' → xs.length = n) : ∀ (rho : Ev) (mu : Mem) (xs : List Da) (mu' : Mem), aC d r rho mu = .ok xs mu' → xs.length = n + 1 := fun rho mu xs mu' e => by
  unfold aC at e
  cases e1 : d rho mu with
  | ok z mu1 =>
    rw [e1] at e
    cases e2 : r rho mu1 with
    | ok zs mu2 =>
      rw [bnd_ok, e2] at e
      cases e
      rw [List.length_cons, h _ _ _ _ e2]
    | exc x mu2 => rw [bnd_ok, e2] at e; cases e
    | bad => rw [bnd_ok, e2] at e; cases e
  | exc x mu1 => rw [e1] at e; cases e
  | bad => rw [e1] at e; cases e
/-- a built-in on data -/
def CallD (X : Cx) (fv : Value) (f : List Da → Option Da) : Prop :=
  ∃ r : List V → Hp → VK → Prop, CallR X fv r ∧ ∀ (m : List Addr) (B : Addr → Prop) (H : Hp) (xs : List Da) (z : Da) (vs : List V) (Q : VK), f xs = some z → RDs m B H xs vs → (∀ p, H p = none → p ∉ m ∧ ¬ B p) → (∀ v H', Same H H' → RD m B H' z v → Q v H') → r vs H Q
theorem c_callB {fid : String} {x : Str} {e : Expr} {es : List Expr} {p : Pos} {f : List Da → Option Da} {r : Ev → Mem → Out (List Da)} (hc : CallD X (.builtin fid) f) (hm : X.mg x = none) (hv : bootBuiltins x = some (.builtin fid)) (ha : PA X (e :: es) (TAx G W r)) (hg : Gl X x := by rfl)
    (hn : x ≠ "__name__" := by decide) (hdb : (x == ("__debug__" : Str)) = false := by decide) (hs : starEach (e :: es) X.env = (false, eval e X.env) :: starEach es X.env := by rfl) (hpl : (backTo pos (starEach es X.env)).any (·.1) = false := by rfl) :
    PE X (.Call (.Name x p) (e :: es) [] pos) (TEx G W (eB f r)) := by
  obtain ⟨rr, hr, k⟩ := hc
  refine PEw (pe_callB hr hg hm hv ha hn hdb hs hpl) fun σ H Q h => ?_
  obtain ⟨rho, mu, m, Own, S, h⟩ := h.un
  refine TAx.to S (wp_bnd h) fun x mu1 v1 H1 m1 h1 g1 S1 r1 => ?_
  obtain ⟨z, e, q⟩ := wp_opt h1
  exact k m1 _ H1 x z v1 Q e r1 (fun p hp => S1.fresh hp) fun v H' sm rd => q v H' m1 (g1.trans (Lf.of_same sm)) (S1.same sm) rd
theorem c_callTy {T : String} {x : Str} {e : Expr} {es : List Expr} {p : Pos} {f : List Da → Option Da} {r : Ev → Mem → Out (List Da)} (hc : CallD X (.type T) f) (hm : X.mg x = none) (hv : bootBuiltins x = some (.type T)) (ha : PA X (e :: es) (TAx G W r)) (hg : Gl X x := by rfl)
    (hn : x ≠ "__name__" := by decide) (hdb : (x == ("__debug__" : Str)) = false := by decide) (hs : starEach (e :: es) X.env = (false, eval e X.env) :: starEach es X.env := by rfl) (hpl : (backTo pos (starEach es X.env)).any (·.1) = false := by rfl) :
    PE X (.Call (.Name x p) (e :: es) [] pos) (TEx G W (eB f r)) := by
  obtain ⟨rr, hr, k⟩ := hc
  refine PEw (pe_callTy hr hg hm hv ha hn hdb hs hpl) fun σ H Q h => ?_
  obtain ⟨rho, mu, m, Own, S, h⟩ := h.un
  refine TAx.to S (wp_bnd h) fun x mu1 v1 H1 m1 h1 g1 S1 r1 => ?_
  obtain ⟨z, e, q⟩ := wp_opt h1
  exact k m1 _ H1 x z v1 Q e r1 (fun p hp => S1.fresh hp) fun v H' sm rd => q v H' m1 (g1.trans (Lf.of_same sm)) (S1.same sm) rd
end
end Sk

/-! Sk C: operations on data. -/
namespace Sk
open PySem PySem.Spec L2

/-! ### data as the library's data -/
mutual
def toPy : Da → PyData
  | .non => .none
  | .bl b => .bool b
  | .int i => .int i
  | .str x => .str x
  | .tup xs => .tuple (toPys xs)
  | .lst xs => .list (toPys xs)
  | .ref _ => .none
def toPys : List Da → List PyData
  | [] => []
  | d :: ds => toPy d :: toPys ds
end
mutual
def isD : Da → Bool
  | .tup xs => isDs xs
  | .lst xs => isDs xs
  | .ref _ => false
  | _ => true
def isDs : List Da → Bool
  | [] => true
  | d :: ds => isD d && isDs ds
end
section
variable {K : PySem.W.Frag} {m : List Addr} {B : Addr → Prop} {H : Hp}
mutual
theorem RD.dp : ∀ {d : Da} {v : V}, RD m B H d v → isD d = true → Dp K H v (toPy d)
  | _, _, .non, _ => .non
  | _, _, .bl b, _ => .bl b
  | _, _, .int i, _ => .int i
  | _, _, .str x, _ => .str x
  | _, _, .tup h1 h2 h3 h4, e => .tup (SqT.of h3) (RDs.dp h4 e)
  | _, _, .lst h1 h2 h3 h4, e => .lst (SqL.of h3) (RDs.dp h4 e)
  | _, _, .ref h, e => nomatch e
theorem RDs.dp : ∀ {d : List Da} {v : List V}, RDs m B H d v → isDs d = true → DpAll K H v (toPys d)
  | _, _, .nil, _ => .nil
  | _, _, .cons h t, e => .cons (RD.dp h (Bool.and_eq_true_iff.mp e).1) (RDs.dp t (Bool.and_eq_true_iff.mp e).2)
end
theorem RDs.ints : ∀ {ns : List Int} {v : List V}, RDs m B H (ns.map Da.int) v → v = ns.map V.int
  | [], _, .nil => rfl
  | n :: ns, _, .cons h t => by
    cases h
    rw [RDs.ints t]
    rfl
end
/-- all ints, if they are -/
def intsOf : List Da → Option (List Int)
  | [] => some []
  | .int i :: r => (intsOf r).map (i :: ·)
  | _ :: _ => none
theorem intsOf_eq : ∀ {xs : List Da} {ns : List Int}, intsOf xs = some ns → xs = ns.map Da.int
  | [], ns, h => by cases h; rfl
  | .int i :: r, ns, h => by
    unfold intsOf at h
    cases e : intsOf r with
    | none => rw [e] at h; cases h
    | some l =>
      rw [e] at h
      cases h
      rw [intsOf_eq e]
      rfl
  | .non :: _, _, h => by cases h
  | .bl _ :: _, _, h => by cases h
  | .str _ :: _, _, h => by cases h
  | .tup _ :: _, _, h => by cases h
  | .lst _ :: _, _, h => by cases h
  | .ref _ :: _, _, h => by cases h
@[simp] theorem intsOf_map (ns : List Int) : intsOf (ns.map Da.int) = some ns := by
  induction ns with
  | nil => rfl
  | cons n ns ih => show (intsOf (ns.map Da.int)).map (n :: ·) = some (n :: ns); rw [ih]; rfl

theorem ite_inv {α : Type} {c : Prop} [Decidable c] {a z : α} (h : (if c then some a else none) = some z) : c ∧ a = z := by
  by_cases hc : c
  · rw [if_pos hc] at h; exact ⟨hc, Option.some.inj h⟩
  · rw [if_neg hc] at h; cases h
/-! ### arithmetic -/
def addD : Da → Da → Option Da
  | .int i, .int j => some (.int (i + j))
  | .str a, .str b => if a.length + b.length ≤ sizeLine then some (.str (a ++ b)) else none
  | .lst a, .lst b => if a.length + b.length ≤ sizeLine then some (.lst (a ++ b)) else none
  | .tup a, .tup b => if a.length + b.length ≤ sizeLine then some (.tup (a ++ b)) else none
  | _, _ => none
def subD : Da → Da → Option Da
  | .int i, .int j => some (.int (i - j))
  | _, _ => none
def mulD : Da → Da → Option Da
  | .int i, .int j => if i.natAbs.log2 + j.natAbs.log2 < 1000000 then some (.int (i * j)) else none
  | .tup a, .int k => if a ≠ [] ∧ 2 ≤ k ∧ k ≤ 1000 ∧ a.length ≤ 1000 then some (.tup (List.replicate k.toNat a).flatten) else none
  | .lst a, .int k => if -(2 ^ 63) ≤ k ∧ k < 2 ^ 63 ∧ a.length * k.toNat ≤ sizeLine then some (.lst (List.replicate k.toNat a).flatten) else none
  | _, _ => none
def fdivD : Da → Da → Option Da
  | .int i, .int j => if 0 < j ∧ j.natAbs.log2 < 9000 then some (.int (i / j)) else none
  | _, _ => none
def modD : Da → Da → Option Da
  | .int i, .int j => if 0 < j then some (.int (i % j)) else none
  | _, _ => none
def powD : Da → Da → Option Da
  | .int i, .int j => if 0 ≤ j ∧ j ≤ 1000000 ∧ i.natAbs < 2 ^ 64 then some (.int (i ^ j.toNat)) else none
  | _, _ => none
section
variable {X : Cx} {m : List Addr} {B : Addr → Prop} {H : Hp}
theorem RD.int_inv {i : Int} {v : V} (r : RD m B H (.int i) v) : v = .int i := by cases r; rfl
theorem RDs.rep {xs : List Da} {vs : List V} (r : RDs m B H xs vs) : ∀ n : Nat, RDs m B H (List.replicate n xs).flatten (List.replicate n vs).flatten
  | 0 => .nil
  | n + 1 => by
    rw [List.replicate_succ, List.replicate_succ, List.flatten_cons, List.flatten_cons]
    exact r.append (RDs.rep r n)
theorem RDs.ne {xs : List Da} {vs : List V} (r : RDs m B H xs vs) : xs = [] ↔ vs = [] := by
  cases r with
  | nil => simp
  | cons _ _ => simp
theorem o_add : OpD X (binaryOp .Add) addD := by
  refine ⟨_, op_add.or (op_add_str.or (op_cat.or op_catA)), fun m B H x y z a b Q e rx ry fr q => ?_⟩
  cases x with
  | int i =>
    cases y with
    | int j => cases e; cases rx; cases ry; exact .inl ⟨i, j, rfl, rfl, q _ _ (Same.refl _) (.int _)⟩
    | _ => cases e
  | str i =>
    cases y with
    | str j =>
      obtain ⟨hz, rfl⟩ := ite_inv e
      cases rx; cases ry
      exact .inr (.inl ⟨i, j, rfl, rfl, hz, q _ _ (Same.refl _) (.str _)⟩)
    | _ => cases e
  | lst i =>
    cases y with
    | lst j =>
      obtain ⟨hz, rfl⟩ := ite_inv e
      cases rx with
      | lst a1 a2 a3 a4 =>
        cases ry with
        | lst b1 b2 b3 b4 =>
          refine .inr (.inr (.inl ⟨_, _, _, _, rfl, rfl, a3, b3, by rw [← a4.length, ← b4.length]; exact hz, fun p hp => ?_⟩))
          exact q _ _ (same_upd hp) (RD.new_lst (a4.append b4) hp (fr p hp).1 (fr p hp).2)
    | _ => cases e
  | tup i =>
    cases y with
    | tup j =>
      obtain ⟨hz, rfl⟩ := ite_inv e
      cases rx with
      | tup a1 a2 a3 a4 =>
        cases ry with
        | tup b1 b2 b3 b4 =>
          refine .inr (.inr (.inr ⟨_, _, _, _, rfl, rfl, SqT.of a3, SqT.of b3, by rw [← a4.length, ← b4.length]; exact hz, fun h => ?_, fun h1 h2 => ?_, fun h1 h2 p hp => ?_⟩))
          · have e1 := a4.ne.mpr h
            subst e1
            exact q _ _ (Same.refl _) (.tup b1 b2 b3 b4)
          · have e1 := b4.ne.mpr h2
            subst e1
            rw [List.append_nil] at q
            exact q _ _ (Same.refl _) (.tup a1 a2 a3 a4)
          · exact q _ _ (same_upd hp) (RD.new_tup (a4.append b4) hp (fr p hp).1 (fr p hp).2)
    | _ => cases e
  | _ => cases e
theorem o_sub : OpD X (binaryOp .Sub) subD := by
  refine ⟨_, op_sub, fun m B H x y z a b Q e rx ry fr q => ?_⟩
  cases x with
  | int i =>
    cases y with
    | int j => cases e; cases rx; cases ry; exact ⟨i, j, rfl, rfl, q _ _ (Same.refl _) (.int _)⟩
    | _ => cases e
  | _ => cases e
theorem o_mul : OpD X (binaryOp .Mult) mulD := by
  refine ⟨_, op_mulW.or (op_repT.or op_rep), fun m B H x y z a b Q e rx ry fr q => ?_⟩
  cases y with
  | int j =>
    cases ry
    cases x with
    | int i =>
      obtain ⟨hz, rfl⟩ := ite_inv e
      cases rx
      exact .inl ⟨i, j, rfl, rfl, hz, q _ _ (Same.refl _) (.int _)⟩
    | tup xs =>
      obtain ⟨hz, rfl⟩ := ite_inv e
      cases rx with
      | tup a1 a2 a3 a4 =>
        refine .inr (.inl ⟨_, _, _, rfl, rfl, SqT.of a3, fun h => hz.1 (a4.ne.mpr h), hz.2.1, hz.2.2.1, by rw [← a4.length]; exact hz.2.2.2, fun p hp => ?_⟩)
        exact q _ _ (same_upd hp) (RD.new_tup (a4.rep _) hp (fr p hp).1 (fr p hp).2)
    | lst xs =>
      obtain ⟨hz, rfl⟩ := ite_inv e
      cases rx with
      | lst a1 a2 a3 a4 =>
        refine .inr (.inr ⟨_, _, _, rfl, rfl, a3, hz.1, hz.2.1, by rw [← a4.length]; exact hz.2.2, fun p hp => ?_⟩)
        exact q _ _ (same_upd hp) (RD.new_lst (a4.rep _) hp (fr p hp).1 (fr p hp).2)
    | _ => cases e
  | _ => cases x <;> cases e
theorem o_fdiv : OpD X (binaryOp .FloorDiv) fdivD := by
  refine ⟨_, op_fdivW, fun m B H x y z a b Q e rx ry fr q => ?_⟩
  cases x with
  | int i =>
    cases y with
    | int j =>
      obtain ⟨hz, rfl⟩ := ite_inv e
      cases rx; cases ry
      exact ⟨i, j, rfl, rfl, hz, q _ _ (Same.refl _) (.int _)⟩
    | _ => cases e
  | _ => cases e
theorem o_mod : OpD X (binaryOp .Mod) modD := by
  refine ⟨_, op_mod, fun m B H x y z a b Q e rx ry fr q => ?_⟩
  cases x with
  | int i =>
    cases y with
    | int j =>
      obtain ⟨hz, rfl⟩ := ite_inv e
      cases rx; cases ry
      exact ⟨i, j, rfl, rfl, hz, q _ _ (Same.refl _) (.int _)⟩
    | _ => cases e
  | _ => cases e
theorem o_pow : OpD X (binaryOp .Pow) powD := by
  refine ⟨_, op_pow, fun m B H x y z a b Q e rx ry fr q => ?_⟩
  cases x with
  | int i =>
    cases y with
    | int j =>
      obtain ⟨hz, rfl⟩ := ite_inv e
      cases rx; cases ry
      exact ⟨i, j, rfl, rfl, hz, q _ _ (Same.refl _) (.int _)⟩
    | _ => cases e
  | _ => cases e

/-! ### comparisons -/
def icmp (p : Int → Int → Bool) : Da → Da → Option Da
  | .int i, .int j => some (.bl (p i j))
  | _, _ => none
def ltD := icmp fun i j => decide (i < j)
def leD := icmp fun i j => decide (i ≤ j)
def gtD := icmp fun i j => decide (j < i)
def geD := icmp fun i j => decide (j ≤ i)
theorem o_icmp {p : Int → Int → Bool} {f : Value → Value → Sem Value} (h : OpR X f (rI0 fun i j => .bl (p i j))) : OpD X f (icmp p) := by
  refine ⟨_, h, fun m B H x y z a b Q e rx ry fr q => ?_⟩
  cases x with
  | int i =>
    cases y with
    | int j => cases e; cases rx; cases ry; exact ⟨i, j, rfl, rfl, q _ _ (Same.refl _) (.bl _)⟩
    | _ => cases e
  | _ => cases e
theorem o_lt : OpD X (compareOp .Lt) ltD := o_icmp op_lt
theorem o_le : OpD X (compareOp .LtE) leD := o_icmp op_le
theorem o_gt : OpD X (compareOp .Gt) gtD := o_icmp op_gt
theorem o_ge : OpD X (compareOp .GtE) geD := o_icmp op_ge
def okEq (a b : Da) : Bool := isD a && isD b && SeqAt.shaped (toPy a) && SeqAt.shaped (toPy b)
def eqD (a b : Da) : Option Da := if okEq a b = true then some (.bl (PyData.eqv (toPy a) (toPy b))) else none
def neD (a b : Da) : Option Da := if okEq a b = true then some (.bl (!PyData.eqv (toPy a) (toPy b))) else none
theorem o_eq (hu : X.A.units + 64 < cLine) : OpD X (compareOp .Eq) eqD := by
  refine ⟨_, op_eqD hu, fun m B H x y z a b Q e rx ry fr q => ?_⟩
  obtain ⟨hz, rfl⟩ := ite_inv e
  unfold okEq at hz
  simp only [Bool.and_eq_true] at hz
  exact ⟨_, _, RD.dp rx hz.1.1.1, RD.dp ry hz.1.1.2, hz.1.2, hz.2, q _ _ (Same.refl _) (.bl _)⟩
theorem o_ne (hu : X.A.units + 64 < cLine) : OpD X (compareOp .NotEq) neD := by
  refine ⟨_, op_neD hu, fun m B H x y z a b Q e rx ry fr q => ?_⟩
  obtain ⟨hz, rfl⟩ := ite_inv e
  unfold okEq at hz
  simp only [Bool.and_eq_true] at hz
  exact ⟨_, _, RD.dp rx hz.1.1.1, RD.dp ry hz.1.1.2, hz.1.2, hz.2, q _ _ (Same.refl _) (.bl _)⟩
def isND : Da → Da → Option Da
  | .non, .non => some (.bl true)
  | _, .non => some (.bl false)
  | _, _ => none
def notND : Da → Da → Option Da
  | .non, .non => some (.bl false)
  | _, .non => some (.bl true)
  | _, _ => none
theorem o_isN : OpD X (compareOp .Is) isND := by
  refine ⟨_, op_isN, fun m B H x y z a b Q e rx ry fr q => ?_⟩
  cases y with
  | non =>
    cases ry
    refine ⟨rfl, ?_⟩
    cases x <;> (cases e; cases rx; exact q _ _ (Same.refl _) (.bl _))
  | _ => cases x <;> cases e
theorem o_notN : OpD X (compareOp .IsNot) notND := by
  refine ⟨_, op_notN, fun m B H x y z a b Q e rx ry fr q => ?_⟩
  cases y with
  | non =>
    cases ry
    refine ⟨rfl, ?_⟩
    cases x <;> (cases e; cases rx; exact q _ _ (Same.refl _) (.bl _))
  | _ => cases x <;> cases e

/-! ### built-ins -/
def lenD : List Da → Option Da
  | [.tup xs] => some (.int xs.length)
  | [.lst xs] => some (.int xs.length)
  | [.str x] => if x.length ≤ sizeLine then some (.int x.length) else none
  | _ => none
theorem b_len : CallD X (.builtin "len") lenD := by
  refine ⟨_, call_len_seq.or call_len_str, fun m B H xs z vs Q e r fr q => ?_⟩
  match xs, e with
  | [.tup xs], e =>
    cases e
    cases r with
    | cons r1 r2 =>
      cases r2
      cases r1 with
      | tup a1 a2 a3 a4 => exact .inl ⟨_, _, rfl, .inr (SqT.of a3), by rw [← a4.length]; exact q _ _ (Same.refl _) (.int _)⟩
  | [.lst xs], e =>
    cases e
    cases r with
    | cons r1 r2 =>
      cases r2
      cases r1 with
      | lst a1 a2 a3 a4 => exact .inl ⟨_, _, rfl, .inl (SqL.of a3), by rw [← a4.length]; exact q _ _ (Same.refl _) (.int _)⟩
  | [.str x], e =>
    obtain ⟨hz, rfl⟩ := ite_inv e
    cases r with
    | cons r1 r2 =>
      cases r2
      cases r1
      exact .inr ⟨x, rfl, hz, q _ _ (Same.refl _) (.int _)⟩
def intD : List Da → Option Da
  | [.int i] => some (.int i)
  | _ => none
theorem b_int : CallD X (.type "int") intD := by
  refine ⟨_, call_int1, fun m B H xs z vs Q e r fr q => ?_⟩
  match xs, e with
  | [.int i], e =>
    cases e
    cases r with
    | cons r1 r2 =>
      cases r2
      cases r1
      exact .inl ⟨i, rfl, q _ _ (Same.refl _) (.int _)⟩
def max2D : List Da → Option Da
  | [.int i, .int j] => some (.int (if j > i then j else i))
  | _ => none
def min2D : List Da → Option Da
  | [.int i, .int j] => some (.int (if j < i then j else i))
  | _ => none
theorem b_max2 (hc : X.calm = true) : CallD X (.builtin "max") max2D := by
  refine ⟨_, call_max2 hc, fun m B H xs z vs Q e r fr q => ?_⟩
  match xs, e with
  | [.int i, .int j], e =>
    cases e
    cases r with
    | cons r1 r2 =>
      cases r2 with
      | cons r2 r3 =>
        cases r3
        cases r1
        cases r2
        exact ⟨i, j, rfl, q _ _ (Same.refl _) (.int _)⟩
theorem b_min2 (hc : X.calm = true) : CallD X (.builtin "min") min2D := by
  refine ⟨_, call_min2 hc, fun m B H xs z vs Q e r fr q => ?_⟩
  match xs, e with
  | [.int i, .int j], e =>
    cases e
    cases r with
    | cons r1 r2 =>
      cases r2 with
      | cons r2 r3 =>
        cases r3
        cases r1
        cases r2
        exact ⟨i, j, rfl, q _ _ (Same.refl _) (.int _)⟩
def sumD : List Da → Option Da
  | [.lst xs] => (intsOf xs).map fun ns => .int ns.sum
  | _ => none
theorem b_sum (hc : X.calm = true) : CallD X (.builtin "sum") sumD := by
  refine ⟨_, cr_sum hc, fun m B H xs z vs Q e r fr q => ?_⟩
  match xs, e with
  | [.lst xs], e =>
    replace e : (intsOf xs).map (fun ns => Da.int ns.sum) = some z := e
    cases e1 : intsOf xs with
    | none => rw [e1] at e; cases e
    | some ns =>
      rw [e1] at e
      cases e
      have e2 := intsOf_eq e1
      subst e2
      cases r with
      | cons r1 r2 =>
        cases r2
        cases r1 with
        | lst a1 a2 a3 a4 =>
          have e3 := RDs.ints a4
          subst e3
          exact ⟨_, ns, rfl, SqL.of a3, q _ _ (Same.refl _) (.int _)⟩
def tupD : List Da → Option Da
  | [.lst xs] => some (.tup xs)
  | [.tup xs] => some (.tup xs)
  | _ => none
theorem b_tuple : CallD X (.type "tuple") tupD := by
  refine ⟨_, call_tuple_of, fun m B H xs z vs Q e r fr q => ?_⟩
  match xs, e with
  | [.lst xs], e =>
    cases e
    cases r with
    | cons r1 r2 =>
      cases r2
      cases r1 with
      | lst a1 a2 a3 a4 => exact ⟨_, _, rfl, .inl ⟨SqL.of a3, fun l hl => q _ _ (same_upd hl) (RD.new_tup a4 hl (fr l hl).1 (fr l hl).2)⟩⟩
  | [.tup xs], e =>
    cases e
    cases r with
    | cons r1 r2 =>
      cases r2
      cases r1 with
      | tup a1 a2 a3 a4 => exact ⟨_, _, rfl, .inr ⟨SqT.of a3, q _ _ (Same.refl _) (.tup a1 a2 a3 a4)⟩⟩
def listD : List Da → Option Da
  | [.lst xs] => some (.lst xs)
  | [.tup xs] => some (.lst xs)
  | _ => none
theorem b_list : CallD X (.type "list") listD := by
  refine ⟨_, call_list_of, fun m B H xs z vs Q e r fr q => ?_⟩
  match xs, e with
  | [.lst xs], e =>
    cases e
    cases r with
    | cons r1 r2 =>
      cases r2
      cases r1 with
      | lst a1 a2 a3 a4 => exact ⟨_, _, rfl, .inl (SqL.of a3), fun l hl => q _ _ (same_upd hl) (RD.new_lst a4 hl (fr l hl).1 (fr l hl).2)⟩
  | [.tup xs], e =>
    cases e
    cases r with
    | cons r1 r2 =>
      cases r2
      cases r1 with
      | tup a1 a2 a3 a4 => exact ⟨_, _, rfl, .inr (SqT.of a3), fun l hl => q _ _ (same_upd hl) (RD.new_lst a4 hl (fr l hl).1 (fr l hl).2)⟩
/-- which built-in class a datum is of -/
def tyD : Da → Option String
  | .non => some "NoneType"
  | .bl _ => some "bool"
  | .int _ => some "int"
  | .str _ => some "str"
  | .tup _ => some "tuple"
  | .lst _ => some "list"
  | .ref _ => none
def isiB (T : String) (a : Da) : Option Da := (tyD a).bind fun t => (kitB t T).map Da.bl
theorem RD.tyx {K : PySem.W.Frag} {d : Da} {v : V} {t : String} (r : RD m B H d v) (h : tyD d = some t) : TyX K H v (.type t) := by
  cases r with
  | non => cases h; exact .base .non
  | bl b => cases h; exact .base (.bl b)
  | int b => cases h; exact .base (.int b)
  | str b => cases h; exact .base (.str b)
  | tup a1 a2 a3 a4 => cases h; exact .base (.tup a3)
  | lst a1 a2 a3 a4 => cases h; exact .base (.lst a3)
  | ref _ => cases h
end
end Sk

/-! Sk D: defs and their calls (with the knowledge that no repr is under way). -/
namespace Sk
open PySem PySem.Spec L2

/-- room for calls, no repr under way -/
structure Rm (k : Nat) (A : Around) : Prop where
  r : Room k A
  gd : A.guards = some []
theorem Rm.mono {j k : Nat} {A : Around} (h : Rm k A) (l : j ≤ k) : Rm j A := ⟨h.r.mono l, h.gd⟩
theorem Rm.deeper {k : Nat} {A : Around} (h : Rm (k + 1) A) (env : Env) : Rm k (A.deeper env) := ⟨h.r.deeper env, h.gd⟩
abbrev CXx (P : Program) (w : World) : CXT := L2.CX P w
/-- a def's promise, in such rooms -/
structure FnG (P : Program) (w : World) (K : PySem.W.Frag) (mg : Str → Option Value) (base : Heap) (k : Nat) (f : Addr) (fd : FuncData) (ps : List Str) (sp : Sp) : Prop where
  len : ∀ vs H Q E, sp vs H Q E → vs.length = ps.length
  run : ∀ (A : Around) (out : List Env) (s : Shared) (H : Hp) (args : Args) (us : List Value) (vs : List V) (Q : VK) (E : XK), Rm k A → Env0 P w K mg base A out s H → BindsTo s fd args (ps.zip us) →
    Vals vs us → sp vs H Q E → codeAny (model P w) A (.call (.ref f) args) (CR (CXx P w) out P w H s Q E) s
theorem FnG.mono {P : Program} {w : World} {K : PySem.W.Frag} {mg : Str → Option Value} {base : Heap} {j k : Nat} {f : Addr} {fd : FuncData} {ps : List Str} {sp : Sp} (F : FnG P w K mg base j f fd ps sp) (h : j ≤ k) : FnG P w K mg base k f fd ps sp :=
  ⟨F.len, fun A out s H args us vs Q E hr => F.run A out s H args us vs Q E (hr.mono h)⟩
/-- what a function of data promises as a def -/
def spOf (K : PySem.W.Frag) (fn : Fn) : Sp := fun vs H Q E => ∃ (m : List Addr) (B : Addr → Prop) (ds : List Da) (mu : Mem), Wd K m B H mu ∧ RDs m B H ds vs ∧
  (fn ds mu).wp (fun d mu' => ∀ v H' m', Lf m H m' H' → Wd K m' B H' mu' → RD m' B H' d v → Q v H') (fun x mu' => ∀ c dd H' m', Lf m H m' H' → Wd K m' B H' mu' → ExR K m' B H' x c dd → E c dd H')
/-- a def as a function of data: n parameters, k other names -/
def SO.out : SO → Out Da
  | .nx _ mu => .ok .non mu
  | .rt d mu => .ok d mu
  | .exc x _ mu => .exc x mu
  | _ => .bad
def fnD (n k : Nat) (body : Ev → Mem → SO) : Fn := fun ds mu => if ds.length = n then (body (ds.map Sl.val ++ List.replicate k .un) mu).out else .bad
theorem fnD_arity {n k : Nat} {body : Ev → Mem → SO} {ds : List Da} {mu : Mem} (h : ds.length ≠ n) : fnD n k body ds mu = .bad := if_neg h

section
variable {G : Fr} {K : PySem.W.Frag} {rho : Ev} {mu mu' : Mem} {σ : L2.St} {H H' : Hp} {m m' : List Addr} {Own : Addr → Prop}
/-- the frame's state behind a call -/
theorem StR.call (S : StR G rho mu σ H m Own) (g : Lf m H m' H') (w : Wd G.K m' (G.bar Own) H' mu') : StR G rho mu' σ H' m' Own := by
  refine ⟨S.le.trans g, w, paired_imp (fun x o z => ?_) S.sl, S.ow, S.dj⟩
  cases x with
  | un => trivial
  | val d =>
    obtain ⟨v, e, r⟩ := z
    exact ⟨v, e, r.mono (g.le _)⟩
  | own xs =>
    obtain ⟨a, us, e1, e2, e3, e4⟩ := z
    exact ⟨a, us, e1, e2, g.keep a _ e3 (fun h => S.wd.dis a h (.inr e2)) (fun z => z), RDs.mono (g.le _) e4⟩
theorem Wd.less {B B' : Addr → Prop} (w : Wd K m B H mu) (h : ∀ a, B' a → B a) : Wd K m B' H mu :=
  w.mono (Le.less h) (fun _ _ _ e => e) (fun a z => w.dom a (h a z)) fun a ha z => w.dis a ha (h a z)
theorem ExR.less {B B' : Addr → Prop} {x : Exn} {c : Value} {dd : Option Addr} (r : ExR K m B H x c dd) (h : ∀ a, B' a → B a) : ExR K m B' H x c dd := by
  obtain ⟨e, a, us, e1, e2, e3, e4, p⟩ := r
  exact ⟨e, a, us, e1, e2, fun z => e3 (h a z), e4, paired_imp (fun _ _ ⟨u, v⟩ => ⟨u, v.mono (Le.less h)⟩) p⟩
end

section
variable {P : Program} {w : World} {K : PySem.W.Frag} {mg : Str → Option Value} {base : Heap} {k n z : Nat} {f : Addr} {fd : FuncData} {ps N : List Str} {x qual : Str} {params : Arguments} {body : List Stmt} {scope : Scope} {dvs : List V} {kws : List (Str × V)}
/-- the slots at a def's start -/
theorem start_rel {m : List Addr} {B : Addr → Prop} {H : Hp} {Own : Addr → Prop} : ∀ {ds : List Da} {vs : List V} {j : Nat}, RDs m B H ds vs →
    Paired (fun (s : Sl) (o : Option V) => SlR m B H Own s o) (ds.map Sl.val ++ List.replicate j .un) (vs.map some ++ List.replicate j none)
  | _, _, 0, .nil => .nil
  | _, _, j + 1, .nil => .cons True.intro (start_rel (ds := []) (vs := []) (j := j) .nil)
  | _, _, j, .cons h t => .cons ⟨_, rfl, h⟩ (start_rel t)
/-- a def keeps the promise of its function of data -/
theorem fnG_ok {bd : Ev → Mem → SO} (F : FunD K x qual params body scope dvs kws f fd) (S : FnScope N ps scope) (hn : ps.length = n) (hN : N.length = n + z)
    (hb : ∀ (cdv : Value) (A : Around) (out : List Env) (s : Shared) (H : Hp) (E : XK) (G : Fr), G.K = K → Rm k (A.deeper (PyProof.Rows.envOfC qual scope s.heap.objs.size f cdv)) →
      PSs (cxOf (CXx P w) P w K mg base N qual scope f cdv A out s H E) body (TSx G (fun c d _ H' => E c d H') bd)) :
    FnG P w K mg base (k + 1) f fd ps (spOf K (fnD n z bd)) := by
  obtain ⟨oc, od, dV, kV, doc, pm, an, cdv, ct, osl, rfl, lk, hcd, _, _⟩ := F.ex
  have arity : ∀ vs H Q E, spOf K (fnD n z bd) vs H Q E → vs.length = ps.length := by
    rintro vs H Q E ⟨m, B, ds, mu, _, r, h⟩
    by_cases e : ds.length = n
    · rw [← r.length, e, hn]
    · rw [fnD_arity e] at h
      exact h.elim
  refine ⟨arity, fun A out s H args us vs Q E hr e0 hbt rv hsp => ?_⟩
  have hl := arity vs H Q E hsp
  have low : ∀ b o, base.get? b = some o → s.heap.get? b = some o := fun b o e => (e0.bs b o e).1
  have inK : K.In s.heap := e0.mod.kin.keeps low
  have kinds : ∀ y ∈ ps.zip us, scope.names.lookup y.1 = some .local ∨ (scope.names.lookup y.1 = some .cell ∧ ((cellsFrom (s.heap.objs.size + 1) scope.names []).lookup y.1).isSome = true) := by
    rintro ⟨nm, val⟩ hy
    exact (S.par nm (List.of_mem_zip hy).1).elim .inl fun q => .inr ⟨q, PySem.W.cellsFrom_some _ _ _ (.inl q)⟩
  refine codeAny_call_function hr.r.depth (inK _ _ lk) rfl S.co S.gen rfl (PySem.W.codeRec_of inK hcd) (hbt _ _ _ _ ?_)
  refine wpAny_newFunctionEnv_cells S.kind kinds fun env he s1 inC => ?_
  subst he
  refine ⟨(e0.mod.nolimit.keeps low).keeps inC.toInCall.keep, codeAny_func ?_⟩
  obtain ⟨m, B, ds, mu, wd, r, hw⟩ := hsp
  have eds : ds.length = n := by
    by_cases e : ds.length = n
    · exact e
    · rw [fnD_arity e] at hw
      exact hw.elim
  have I := inv_start (CX := CXx P w) (E := E) (cd := cdv) S hr.r.hd e0 hl rv inC
  have nob : ∀ a, (⟨K, m, B, H⟩ : Fr).bar NoB a → B a := fun a z => z.elim id (fun q => q.elim)
  have st : StR ⟨K, m, B, H⟩ (ds.map Sl.val ++ List.replicate z .un) mu (L2.start N vs) H m NoB := by
    refine ⟨Lf.refl, wd.less nob, ?_, fun a z => z.elim, fun i j a xs ys _ h1 => ?_⟩
    · have q := start_rel (Own := NoB) (j := z) (RDs.mono (Le.less nob) r)
      have e : L2.start N vs = vs.map some ++ List.replicate z none := by
        unfold L2.start
        rw [show N.length - vs.length = z by rw [hN, hl, hn]; omega]
      rw [e]
      exact q
    · exfalso
      rw [List.getElem?_append] at h1
      split at h1
      · rw [List.getElem?_map] at h1
        cases e : ds[i]? with
        | none => rw [e] at h1; cases h1
        | some d => rw [e] at h1; cases h1
      · rw [List.getElem?_replicate] at h1
        split at h1 <;> cases h1
  have low2 : ∀ {Own : Addr → Prop} a, B a → (⟨K, m, B, H⟩ : Fr).bar Own a := fun a z => .inl z
  have hbody := (hb cdv A out s H E ⟨K, m, B, H⟩ rfl (hr.deeper _)).run [] s1 (L2.start N vs) H { nx := fun _ H' => Q .non H', rt := Q } I ⟨_, mu, m, NoB, st, by
    have hw2 := hw
    unfold fnD at hw2
    rw [if_pos eds] at hw2
    cases e : bd (ds.map Sl.val ++ List.replicate z .un) mu with
    | nx rho' mu' =>
      rw [e] at hw2
      exact fun σ' H' m' Own' _ S' => hw2 .non H' m' S'.le (S'.wd.less low2) .non
    | rt d mu' =>
      rw [e] at hw2
      exact fun v H' m' g w' r' => hw2 v H' m' g w' r'
    | exc x rho' mu' =>
      rw [e] at hw2
      exact fun c dd σ' H' m' Own' _ S' xr => hw2 c dd H' m' S'.le (S'.wd.less low2) (xr.less low2)
    | bk rho' mu' => rw [e] at hw2; exact hw2.elim
    | ct rho' mu' => rw [e] at hw2; exact hw2.elim
    | bad => rw [e] at hw2; exact hw2.elim⟩
  refine wpAny_mono hbody (fun fl s' hs => ?_) fun _ _ hs => hs
  cases fl with
  | ret u =>
    obtain ⟨v, σ', H', J, rv', q⟩ := hs
    exact ⟨v, H', J.os, J.bare, J.base, J.hok, rv', q⟩
  | next =>
    obtain ⟨σ', H', J, q⟩ := hs
    exact ⟨V.non, H', J.os, J.bare, J.base, J.hok, rfl, q⟩
  | brk => exact hs.elim fun _ h => h.elim fun _ h => h.2.elim
  | cont => exact hs.elim fun _ h => h.elim fun _ h => h.2.elim
end

/-! ### calls -/
section
variable {X : Cx} {G : Fr} {W : WX} {k : Nat} {f : Addr} {fd : FuncData} {ps : List Str} {sp : Sp} {x : Str} {p pos : Pos} {e : Expr} {es : List Expr} {E : L2.St → XK}
theorem runG {pins : List (Addr × Obj)} {σ : L2.St} {H : Hp} {s : Shared} {Q : VK} {args : Args} {us : List Value} {vs : List V} (F : FnG X.prog X.w X.K X.mg X.base k f fd ps sp) (hr : Rm k X.A) (hx : PassesAt (CXx X.prog X.w) X σ (E σ)) (I : Inv X pins σ H s)
    (hb : BindsTo s fd args (ps.zip us)) (r : Vals vs us) (h : sp vs H Q (E σ)) : codeAny (model X.prog X.w) X.A (.call (.ref f) args) (fun res s' => match res with
      | .ok (.ret u) => EP X pins σ Q u s'
      | .ok _ => False
      | .error e => X.xe e s') s := by
  refine codeAny_mono (F.run X.A X.stack s H args us vs Q (E σ) hr I.env0 hb r h) fun res s' hq => ?_
  cases res with
  | error er => exact hx pins H s er s' I hq
  | ok fl =>
    cases fl with
    | ret u => exact I.after hq
    | next => exact hq.elim
    | brk => exact hq.elim
    | cont => exact hq.elim
theorem runG' {pins : List (Addr × Obj)} {σ : L2.St} {H : Hp} {s : Shared} {Q : VK} {us ds : List Value} {vs dvs : List V} (F : FnG X.prog X.w X.K X.mg X.base k f fd ps sp) (hr : Rm k X.A) (hb : Binds X.K fd ps ds) (hd : Vals dvs ds) (hx : PassesAt (CXx X.prog X.w) X σ (E σ)) (I : Inv X pins σ H s)
    (r : Vals vs us) (h : sp (vs ++ dvs) H Q (E σ)) : wpAny (model X.prog X.w) X.A (call (.ref f) us) (EP X pins σ Q) X.xe s := by
  have r2 := r.append hd
  have hl : (us ++ ds).length = ps.length := r2.length.symm.trans (F.len _ _ _ _ h)
  refine wpAny_call (codeAny_mono (runG F hr hx I (hb s us I.kIn hl) r2 h) fun res s' hq => ?_)
  cases res with
  | error er => exact hq
  | ok fl =>
    cases fl with
    | ret u => exact hq
    | next => exact hq.elim
    | brk => exact hq.elim
    | cont => exact hq.elim
def tCallG (sp : Sp) (dvs : List V) (E : L2.St → XK) (t : TA) : TE := fun σ H Q => t σ H fun vs H1 => sp (vs ++ dvs) H1 Q (E σ)
theorem peG {dvs : List V} {ds : List Value} {t : TA} (F : FnG X.prog X.w X.K X.mg X.base k f fd ps sp) (hr : Rm k X.A) (hg : Gl X x) (hm : X.mg x = some (.ref f)) (hk : PySem.W.keepIn X.K (.ref f) = true) (hb : Binds X.K fd ps ds) (hd : Vals dvs ds) (hx : ∀ σ, PassesAt (CXx X.prog X.w) X σ (E σ)) (ha : PA X (e :: es) t)
    (hdb : (x == ("__debug__" : Str)) = false) (he : starEach (e :: es) X.env = (false, eval e X.env) :: starEach es X.env) (hpl : (backTo pos (starEach es X.env)).any (·.1) = false) :
    PE X (.Call (.Name x p) (e :: es) [] pos) (tCallG sp dvs E t) := by
  refine ⟨fun pins s σ H Q I h => wpAny_Call_Name_kw (ld_glob I hg hm ?_ hdb)⟩
  exact PySem.W.callWith_K (h₀ := X.base) I.ok.mod.kin hk (thn (ha.run pos pins s σ H _ I h) fun us s1 ⟨vs, H1, I1, r, q⟩ => ⟨I1.kIn, runG' F hr hb hd (hx σ) I1 r q⟩) he hpl
theorem peG0 {dvs : List V} {ds : List Value} (F : FnG X.prog X.w X.K X.mg X.base k f fd ps sp) (hr : Rm k X.A) (hg : Gl X x) (hm : X.mg x = some (.ref f)) (hk : PySem.W.keepIn X.K (.ref f) = true) (hb : Binds X.K fd ps ds) (hd : Vals dvs ds) (hx : ∀ σ, PassesAt (CXx X.prog X.w) X σ (E σ))
    (hdb : (x == ("__debug__" : Str)) = false) : PE X (.Call (.Name x p) [] [] pos) (tCallG sp dvs E tNil) := by
  refine ⟨fun pins s σ H Q I h => wpAny_Call_Name_kw (ld_glob I hg hm ?_ hdb)⟩
  exact PySem.W.callWith_K0 I.kIn hk (runG' (us := []) F hr hb hd (hx σ) I .nil h)
/-- the promise from the state ahead of the call -/
theorem sp_of {fn : Fn} {rho : Ev} {mu : Mem} {σ : L2.St} {H H0 : Hp} {m m0 : List Addr} {Own : Addr → Prop} {xs : List Da} {vs : List V} {Q : VK} (S : StR G rho mu σ H m Own) (g : Lf m0 H0 m H) (r : RDs m (G.bar Own) H xs vs) (h : (fn xs mu).wp (QE G rho σ Own m0 H0 Q) (ES G W rho σ Own m0 H0)) :
    spOf G.K fn vs H Q (fun c d H' => W c d σ H') :=
  ⟨m, G.bar Own, xs, mu, S.wd, r, by
    cases e : fn xs mu with
    | ok d mu' => rw [e] at h; exact fun v H' m' g2 w' r' => h v H' m' (g.trans g2) (S.call g2 w') r'
    | exc x mu' => rw [e] at h; exact fun c dd H' m' g2 w' r' => h c dd H' m' (g.trans g2) (S.call g2 w') r'
    | bad => rw [e] at h; exact h⟩
theorem RDs.snoc_con {m : List Addr} {B : Addr → Prop} {H : Hp} {xs dfl : List Da} {vs dvs : List V} (r : RDs m B H xs vs) (d : ∀ m B H, RDs m B H dfl dvs) : RDs m B H (xs ++ dfl) (vs ++ dvs) := r.append (d m B H)
/-- f(e, ..); dfl: the defaults that fill up -/
theorem c_call {fn : Fn} {r : Ev → Mem → Out (List Da)} (hK : G.K = X.K) (F : FnG X.prog X.w X.K X.mg X.base k f fd ps (spOf X.K fn)) (hr : Rm k X.A) (hm : X.mg x = some (.ref f)) (hk : PySem.W.keepIn X.K (.ref f) = true) (hb : Binds X.K fd ps []) (tk : Takes X W) (ha : PA X (e :: es) (TAx G W r))
    (hg : Gl X x := by rfl) (hdb : (x == ("__debug__" : Str)) = false := by decide) (he : starEach (e :: es) X.env = (false, eval e X.env) :: starEach es X.env := by rfl) (hpl : (backTo pos (starEach es X.env)).any (·.1) = false := by rfl) :
    PE X (.Call (.Name x p) (e :: es) [] pos) (TEx G W (eC fn r)) := by
  refine PEw (peG (dvs := []) (E := fun σ c d H' => W c d σ H') F hr hg hm hk hb .nil (fun σ => passAt tk σ) ha hdb he hpl) fun σ H Q h => ?_
  obtain ⟨rho, mu, m, Own, S, h⟩ := h.un
  refine TAx.to S (wp_bnd h) fun xs mu1 vs H1 m1 h1 g1 S1 r1 => ?_
  rw [List.append_nil, ← hK]
  exact sp_of S1 g1 r1 h1
theorem c_call0 {fn : Fn} (hK : G.K = X.K) (F : FnG X.prog X.w X.K X.mg X.base k f fd ps (spOf X.K fn)) (hr : Rm k X.A) (hm : X.mg x = some (.ref f)) (hk : PySem.W.keepIn X.K (.ref f) = true) (hb : Binds X.K fd ps []) (tk : Takes X W)
    (hg : Gl X x := by rfl) (hdb : (x == ("__debug__" : Str)) = false := by decide) :
    PE X (.Call (.Name x p) [] [] pos) (TEx G W (eC fn aN)) := by
  refine PEw (peG0 (dvs := []) (E := fun σ c d H' => W c d σ H') F hr hg hm hk hb .nil (fun σ => passAt tk σ) hdb) fun σ H Q h => ?_
  obtain ⟨rho, mu, m, Own, S, h⟩ := h.un
  show spOf X.K fn ([] ++ []) H Q _
  rw [List.append_nil, ← hK]
  exact sp_of S Lf.refl .nil h
end
end Sk

/-! Sk E: statements. -/
namespace Sk
open PySem PySem.Spec L2

abbrev StD := Ev → Mem → SO
def sSeq (a b : StD) : StD := fun rho mu => match a rho mu with
  | .nx rho' mu' => b rho' mu'
  | o => o
def sNx : StD := fun rho mu => .nx rho mu
def sBk : StD := fun rho mu => .bk rho mu
def sCt : StD := fun rho mu => .ct rho mu
/-- an expression's answer put to use -/
def sUse {α : Type} (o : Out α) (rho : Ev) (f : α → Mem → SO) : SO := match o with
  | .ok d mu => f d mu
  | .exc x mu => .exc x rho mu
  | .bad => .bad
@[simp] theorem sUse_ok {α : Type} {a : α} {rho : Ev} {mu : Mem} {f : α → Mem → SO} : sUse (.ok a mu) rho f = f a mu := rfl
def sSet (i : Nat) (e : EvD) : StD := fun rho mu => sUse (e rho mu) rho fun d mu' => .nx (rho.set i (.val d)) mu'
def sRet (e : EvD) : StD := fun rho mu => sUse (e rho mu) rho fun d mu' => .rt d mu'
def sRetN : StD := fun _ mu => .rt .non mu
def sDo (e : EvD) : StD := fun rho mu => sUse (e rho mu) rho fun _ mu' => .nx rho mu'
def sIf (t : EvT) (a b : StD) : StD := fun rho mu => sUse (t rho mu) rho fun k mu' => if k then a rho mu' else b rho mu'
def sWhile (t : EvT) (b : StD) : Nat → StD
  | 0 => fun _ _ => .bad
  | n + 1 => fun rho mu => sUse (t rho mu) rho fun k mu1 => if k then (match b rho mu1 with
      | .nx rho2 mu2 => sWhile t b n rho2 mu2
      | .ct rho2 mu2 => sWhile t b n rho2 mu2
      | .bk rho2 mu2 => .nx rho2 mu2
      | o => o) else .nx rho mu1
def sLoop (bd : Da → Ev → Option Ev) (b : StD) : List Da → StD
  | [] => fun rho mu => .nx rho mu
  | x :: xs => fun rho mu => match bd x rho with
    | none => .bad
    | some rho1 => match b rho1 mu with
      | .nx rho2 mu2 => sLoop bd b xs rho2 mu2
      | .ct rho2 mu2 => sLoop bd b xs rho2 mu2
      | .bk rho2 mu2 => .nx rho2 mu2
      | o => o
abbrev EvI := Ev → Mem → Out (List Da)
def sFor (it : EvI) (bd : Da → Ev → Option Ev) (b : StD) : StD := fun rho mu => sUse (it rho mu) rho fun xs mu' => sLoop bd b xs rho mu'

section
variable {G : Fr} {W : WX} {rho : Ev} {mu : Mem} {σ : L2.St} {H H' : Hp} {m m' : List Addr} {Own Own' : Addr → Prop} {D : Ends}
theorem Lf.bar (g : Lf m H m' H') (Own : Addr → Prop) : Le m (G.bar Own) H m' (G.bar Own) H' := g.le _
theorem SOk.step {o : SO} (g : Le m (G.bar Own) H m' (G.bar Own') H') (h : SOk G W D m Own H o) : SOk G W D m' Own' H' o := by
  cases o with
  | nx r u => exact fun σ' H2 m2 O2 g2 S => h σ' H2 m2 O2 (g.trans g2) S
  | rt z u => exact h
  | bk r u => exact fun σ' H2 m2 O2 g2 S => h σ' H2 m2 O2 (g.trans g2) S
  | ct r u => exact fun σ' H2 m2 O2 g2 S => h σ' H2 m2 O2 (g.trans g2) S
  | exc x r u => exact fun c dd σ' H2 m2 O2 g2 S => h c dd σ' H2 m2 O2 (g.trans g2) S
  | bad => exact h
/-- behind an expression in a statement -/
theorem use_wp {α : Type} {o : Out α} {f : α → Mem → SO} (h : SOk G W D m Own H (sUse o rho f)) : o.wp (fun d mu' => SOk G W D m Own H (f d mu')) (ES G W rho σ Own m H) := by
  cases o with
  | ok a u => exact h
  | exc x u => exact fun c dd H' m' g S r => h c dd σ H' m' Own (g.le _) S r
  | bad => exact h
theorem ret_ok {z : Da} {mu' : Mem} (S : StR G rho mu σ H m Own) (h : SOk G W D m Own H (.rt z mu')) (S' : StR G rho mu' σ H' m' Own) {v : V} (r : RD m' (G.bar Own) H' z v) : D.rt v H' :=
  h v H' m' S'.le (S'.wd.less fun a z => .inl z) (r.mono (Le.less fun a z => .inl z))
/-- a slot gets a datum -/
theorem StR.setv (S : StR G rho mu σ H m Own) (i : Nat) {d : Da} {v : V} (r : RD m (G.bar Own) H d v) : StR G (rho.set i (.val d)) mu (σ.set i (some v)) H m Own := by
  refine ⟨S.le, S.wd, paired_set ⟨v, rfl, r⟩ i S.sl, S.ow, fun a b c xs ys hab h1 h2 h3 h4 => ?_⟩
  have f : ∀ (j : Nat) (zs : List Da), (rho.set i (.val d))[j]? = some (Sl.own zs) → i ≠ j ∧ rho[j]? = some (Sl.own zs) := by
    intro j zs e
    by_cases hj : i = j
    · subst hj
      rw [List.getElem?_set_self'] at e
      cases q : rho[i]? with
      | none => rw [q] at e; cases e
      | some s => rw [q] at e; cases e
    · rw [List.getElem?_set_ne hj] at e
      exact ⟨hj, e⟩
  obtain ⟨n1, e1⟩ := f a xs h1
  obtain ⟨n2, e2⟩ := f b ys h2
  rw [List.getElem?_set_ne n1] at h3
  rw [List.getElem?_set_ne n2] at h4
  exact S.dj a b c xs ys hab e1 e2 h3 h4
/-- a slot gets a new list that nobody else holds -/
theorem StR.seto (S : StR G rho mu σ H m Own) (i : Nat) {xs : List Da} {us : List V} {p : Addr} (r : RDs m (G.bar Own) H xs us) (hp : H p = none) :
    StR G (rho.set i (.own xs)) mu (σ.set i (some (.ref p))) (upd H p (.lst us)) m (fun a => Own a ∨ a = p) ∧ Le m (G.bar Own) H m (G.bar (fun a => Own a ∨ a = p)) (upd H p (.lst us)) := by
  obtain ⟨f1, f2⟩ := S.fresh hp
  have sm : Same H (upd H p (.lst us)) := same_upd hp
  have S1 := S.same sm
  have g : Le m (G.bar Own) H m (G.bar (fun a => Own a ∨ a = p)) (upd H p (.lst us)) := by
    refine ⟨⟨[], by simp, by simp⟩, fun a o e _ _ => sm a o e, fun a e => sm.free e, fun a z => ?_⟩
    rcases z with z | z | z
    · exact .inl (.inl z)
    · exact .inl (.inr z)
    · subst z; exact .inr hp
  refine ⟨⟨S1.le, ?_, ?_, ?_, ?_⟩, g⟩
  · refine S.wd.mono g (fun a _ o e => sm a o e) (fun a z => ?_) fun a ha z => ?_
    · rcases z with z | z | z
      · obtain ⟨o, e⟩ := S.wd.dom a (.inl z); exact ⟨o, sm a o e⟩
      · obtain ⟨o, e⟩ := S.wd.dom a (.inr z); exact ⟨o, sm a o e⟩
      · subst z; exact ⟨_, upd_same⟩
    · rcases z with z | z | z
      · exact S.wd.dis a ha (.inl z)
      · exact S.wd.dis a ha (.inr z)
      · subst z; exact f1 ha
  · refine paired_set ⟨p, us, rfl, .inr rfl, upd_same, RDs.mono g r⟩ i (paired_imp (fun x o z => ?_) S.sl)
    cases x with
    | un => trivial
    | val d => obtain ⟨v, e, r⟩ := z; exact ⟨v, e, r.mono g⟩
    | own xs => obtain ⟨a, us, e1, e2, e3, e4⟩ := z; exact ⟨a, us, e1, .inl e2, sm _ _ e3, RDs.mono g e4⟩
  · rintro a (z | z)
    · exact S.ow a z
    · subst z
      exact ⟨S.le.dom a hp, fun z => f2 (.inl z)⟩
  · intro a b c ys zs hab h1 h2 h3 h4
    have f : ∀ (j : Nat) (ws : List Da) (c : Addr), (rho.set i (.own xs))[j]? = some (Sl.own ws) → (σ.set i (some (V.ref p)))[j]? = some (some (V.ref c)) → (i = j ∧ c = p) ∨ (i ≠ j ∧ rho[j]? = some (Sl.own ws) ∧ σ[j]? = some (some (V.ref c)) ∧ c ≠ p) := by
      intro j ws c e1 e2
      by_cases hj : i = j
      · subst hj
        rw [List.getElem?_set_self'] at e2
        cases q : σ[i]? with
        | none => rw [q] at e2; cases e2
        | some s => rw [q] at e2; cases e2; exact .inl ⟨rfl, rfl⟩
      · rw [List.getElem?_set_ne hj] at e1 e2
        refine .inr ⟨hj, e1, e2, ?_⟩
        obtain ⟨o, q, a', us', e3, e4, e5, _⟩ := paired_get S.sl e1
        rw [e2] at q
        cases q
        cases e3
        exact ne_of_none e5 hp
    rcases f a ys c h1 h3 with ⟨k1, k2⟩ | ⟨k1, k2, k3, k4⟩
    · rcases f b zs c h2 h4 with ⟨l1, l2⟩ | ⟨l1, l2, l3, l4⟩
      · exact hab (k1.symm.trans l1)
      · exact l4 k2
    · rcases f b zs c h2 h4 with ⟨l1, l2⟩ | ⟨l1, l2, l3, l4⟩
      · exact k4 l2
      · exact S.dj a b c ys zs hab k2 l2 k3 l3
end
theorem tsx_mk {G : Fr} {W : WX} {d : StD} {D : Ends} {rho : Ev} {mu : Mem} {σ : L2.St} {H : Hp} {m : List Addr} {Own : Addr → Prop} (S : StR G rho mu σ H m Own) (h : SOk G W D m Own H (d rho mu)) : TSx G W d D σ H := ⟨rho, mu, m, Own, S, h⟩

section
variable {X : Cx} {G : Fr} {W : WX} {pos pos' : Pos} {e : Expr} {d : EvD} {st : Stmt} {rest : List Stmt} {a b : StD}
theorem s_nil : PSs X [] (TSx G W sNx) := PSsw pss_nil fun D σ H ⟨rho, mu, m, Own, S, h⟩ => h σ H m Own Le.refl S
theorem s_pass : PS X (.Pass pos) (TSx G W sNx) := PSw ps_pass fun D σ H ⟨rho, mu, m, Own, S, h⟩ => h σ H m Own Le.refl S
theorem s_bk : PS X (.Break pos) (TSx G W sBk) := PSw ps_break fun D σ H ⟨rho, mu, m, Own, S, h⟩ => h σ H m Own Le.refl S
theorem s_ct : PS X (.Continue pos) (TSx G W sCt) := PSw ps_continue fun D σ H ⟨rho, mu, m, Own, S, h⟩ => h σ H m Own Le.refl S
theorem s_one (h : PS X st (TSx G W a)) : PSs X [st] (TSx G W a) := pss_one h
theorem s_cons (h1 : PS X st (TSx G W a)) (h2 : PSs X rest (TSx G W b)) : PSs X (st :: rest) (TSx G W (sSeq a b)) := by
  refine PSsw (pss_cons h1 h2) fun D σ H ⟨rho, mu, m, Own, S, h⟩ => tsx_mk S ?_
  unfold sSeq at h
  cases e : a rho mu with
  | nx r u => rw [e] at h; exact fun σ' H' m' O' g S' => tsx_mk S' (h.step g)
  | rt z u => rw [e] at h; exact h
  | bk r u => rw [e] at h; exact h
  | ct r u => rw [e] at h; exact h
  | exc x r u => rw [e] at h; exact h
  | bad => rw [e] at h; exact h
theorem s_never : PS X st (TSx G W fun _ _ => .bad) := PSw (st_never : PS X st tNever) fun D σ H ⟨rho, mu, m, Own, S, h⟩ => h
  where st_never : PS X st tNever := ps_never
theorem s_doc {x : Str} {j : Nat} : PS X (.Expr (.Constant (.str x) j pos) pos') (TSx G W sNx) := PSw ps_doc fun D σ H ⟨rho, mu, m, Own, S, h⟩ => h σ H m Own Le.refl S
theorem s_do (he : PE X e (TEx G W d)) (hs : swapsWith e none pos.line X.env = pure false := by rfl) : PS X (.Expr e pos) (TSx G W (sDo d)) := by
  refine PSw (ps_expr he hs) fun D σ H ⟨rho, mu, m, Own, S, h⟩ => TEx.to S (use_wp (σ := σ) h) fun z mu1 v H1 m1 h1 g1 S1 r1 => h1 σ H1 m1 Own (g1.le _) S1
theorem s_ret (he : PE X e (TEx G W d)) : PS X (.Return (some e) pos) (TSx G W (sRet d)) := by
  refine PSw (ps_ret he) fun D σ H ⟨rho, mu, m, Own, S, h⟩ => TEx.to S (use_wp (σ := σ) h) fun z mu1 v H1 m1 h1 g1 S1 r1 => ret_ok S h1 S1 r1
theorem s_retN : PS X (.Return none pos) (TSx G W sRetN) := PSw ps_retN fun D σ H ⟨rho, mu, m, Own, S, h⟩ => ret_ok S h S .non
theorem s_set {i : Nat} {x : Str} (he : PE X e (TEx G W d)) (hN : X.N.Nodup) (hi : X.N[i]? = some x := by rfl) (hx : Loc X.env.scope x := by first | exact Or.inl rfl | exact Or.inr rfl) (hs : swapsWith e (some (.Name x pos')) pos.line X.env = pure false := by rfl)
    (hf : X.fn x = true ∨ X.env.scope.names.lookup x = some .local := by first | exact .inl rfl | exact .inr rfl) : PS X (.Assign [.Name x pos'] e pos) (TSx G W (sSet i d)) := by
  refine PSw (ps_set hN hi hx he hs hf) fun D σ H ⟨rho, mu, m, Own, S, h⟩ => TEx.to S (use_wp (σ := σ) h) fun z mu1 v H1 m1 h1 g1 S1 r1 => h1 _ H1 m1 Own (g1.le _) (S1.setv i r1)
theorem s_if {t : EvT} {c : Expr} {xs ys : List Stmt} (hc : PT X c (TTx G W t)) (ha : PSs X xs (TSx G W a)) (hb : PSs X ys (TSx G W b)) : PS X (.If c xs ys pos) (TSx G W (sIf t a b)) := by
  refine PSw (ps_if hc ha hb) fun D σ H ⟨rho, mu, m, Own, S, h⟩ => TTx.to S (use_wp (σ := σ) h) fun k mu1 H1 m1 h1 g1 S1 => ?_
  cases k with
  | true => exact tsx_mk S1 (SOk.step (g1.le _) h1)
  | false => exact tsx_mk S1 (SOk.step (g1.le _) h1)
theorem TTx.mono {t : EvT} {σ : L2.St} {H : Hp} {Q Q' : Bool → Hp → Prop} (h : ∀ b H1, Q b H1 → Q' b H1) : TTx G W t σ H Q → TTx G W t σ H Q' := fun ⟨rho, mu, m, Own, S, q⟩ => by
  refine ⟨rho, mu, m, Own, S, ?_⟩
  cases e : t rho mu with
  | ok z u => rw [e] at q; exact fun H' m' g S' => h _ _ (q H' m' g S')
  | exc x u => rw [e] at q; exact q
  | bad => rw [e] at q; exact q
theorem s_while {t : EvT} {c : Expr} {xs : List Stmt} (n : Nat) (hp : PassesOwn (model X.prog X.w) X.A X.env X.xe) (hc : PT X c (TTx G W t)) (hb : PSs X xs (TSx G W b)) : PS X (.While c xs [] pos) (TSx G W (sWhile t b n)) := by
  refine PSw (ps_while hp hc hb) fun D σ H ⟨rho, mu, m, Own, S, h⟩ => ?_
  refine ⟨fun k σ' H' => ∃ rho' mu' m' Own', Le m (G.bar Own) H m' (G.bar Own') H' ∧ StR G rho' mu' σ' H' m' Own' ∧ SOk G W D m' Own' H' (sWhile t b k rho' mu'), ⟨n, rho, mu, m, Own, Le.refl, S, h⟩, ?_⟩
  rintro k σ1 H1 ⟨rho1, mu1, m1, O1, g1, S1, h1⟩
  cases k with
  | zero => exact h1.elim
  | succ k =>
    refine TTx.to S1 (use_wp (σ := σ1) h1) fun tv mu2 H2 m2 h2 g2 S2 => ?_
    cases tv with
    | false => exact h2 σ1 H2 m2 O1 (g2.le _) S2
    | true =>
      refine ⟨fun σ' H' => ∃ rho' mu' m' Own', Le m (G.bar Own) H m' (G.bar Own') H' ∧ StR G rho' mu' σ' H' m' Own' ∧ SOk G W D m' Own' H' (sWhile t b k rho' mu'), fun σ' H' z => ⟨k, Nat.lt_succ_self k, z⟩, ?_⟩
      have h3 := SOk.step (g2.le (G.bar O1)) h2
      refine tsx_mk S2 ?_
      simp only [if_true] at h3
      cases e : b rho1 mu2 with
      | nx r u => rw [e] at h3; exact fun σ' H' m' O' g S' => ⟨r, u, m', O', g1.trans ((g2.le _).trans g), S', h3.step g⟩
      | ct r u => rw [e] at h3; exact fun σ' H' m' O' g S' => ⟨r, u, m', O', g1.trans ((g2.le _).trans g), S', h3.step g⟩
      | bk r u => rw [e] at h3; exact h3
      | rt z u => rw [e] at h3; exact h3
      | exc x r u => rw [e] at h3; exact h3
      | bad => rw [e] at h3; exact h3

/-! ### targets -/
def bName (i : Nat) : Da → Ev → Option Ev := fun d rho => some (rho.set i (.val d))
def bNames : List Nat → List Da → Ev → Option Ev
  | [], [], rho => some rho
  | i :: is, d :: ds, rho => bNames is ds (rho.set i (.val d))
  | _, _, _ => none
def bTup (is : List Nat) : Da → Ev → Option Ev
  | .tup ds, rho => bNames is ds rho
  | _, _ => none
/-- a target that stores at the slots is -/
def TGx (G : Fr) (is : List Nat) (bd : Da → Ev → Option Ev) : TG := fun v σ H Q => ∃ d rho rho' mu m Own, StR G rho mu σ H m Own ∧ RD m (G.bar Own) H d v ∧ bd d rho = some rho' ∧ ∀ σ', StR G rho' mu σ' H m Own → wipe σ' is = wipe σ is → Q σ' H
theorem wipe_set_mem {σ : L2.St} {i : Nat} {o : Option V} : ∀ {is : List Nat}, i ∈ is → wipe (σ.set i o) is = wipe σ is
  | j :: is, h => by
    unfold wipe
    by_cases hj : i = j
    · subst hj
      by_cases hm : i ∈ is
      · rw [wipe_set_mem hm]
      · have key : ∀ {is : List Nat}, i ∉ is → wipe (σ.set i o) is = (wipe σ is).set i o := by
          intro is
          induction is with
          | nil => intro _; rfl
          | cons k r ih =>
            intro hk
            unfold wipe
            rw [ih (fun z => hk (List.mem_cons_of_mem _ z)), List.set_comm _ _ (fun z => hk (by rw [z]; simp))]
        rw [key hm, List.set_set]
    · rw [wipe_set_mem (List.mem_of_ne_of_mem hj h)]
theorem PGw {X : Cx} {tg : Expr} {t t' : TG} (h : PG X tg t) (w : ∀ v σ H Q, t' v σ H Q → t v σ H Q) : PG X tg t' := ⟨fun pins s σ H v u Q I r q => h.run pins s σ H v u Q I r (w v σ H Q q)⟩
theorem g_name {i : Nat} {x : Str} (hN : X.N.Nodup) (hi : X.N[i]? = some x := by rfl) (hx : Loc X.env.scope x := by first | exact Or.inl rfl | exact Or.inr rfl) (hf : X.fn x = true ∨ X.env.scope.names.lookup x = some .local := by first | exact .inl rfl | exact .inr rfl) :
    PG X (.Name x pos) (TGx G [i] (bName i)) := PGw (pg_name hN hi hx hf) fun v σ H Q ⟨d, rho, rho', mu, m, Own, S, r, e, q⟩ => by
  cases e
  exact q _ (S.setv i r) (wipe_set_mem (by simp))
/-- the names of a tuple target, from the left -/
def gNames : List Nat → TGs
  | [] => gNil
  | i :: is => gCons (gName i) (gNames is)
theorem gNames_ok {is0 : List Nat} : ∀ {is : List Nat} {ds : List Da} {vs : List V} {rho rho' : Ev} {mu : Mem} {σ : L2.St} {H : Hp} {m : List Addr} {Own : Addr → Prop} {Q : L2.St → Hp → Prop}, (∀ i ∈ is, i ∈ is0) → StR G rho mu σ H m Own → RDs m (G.bar Own) H ds vs → bNames is ds rho = some rho' →
    (∀ σ', StR G rho' mu σ' H m Own → wipe σ' is0 = wipe σ is0 → Q σ' H) → gNames is vs σ H Q
  | [], _, _, _, _, _, _, _, _, _, _, _, S, .nil, e, q => by
    cases e
    exact ⟨rfl, q _ S rfl⟩
  | [], _, _, _, _, _, _, _, _, _, _, _, _, .cons _ _, e, _ => by cases e
  | _ :: _, _, _, _, _, _, _, _, _, _, _, _, _, .nil, e, _ => by cases e
  | i :: is, _, _, rho, rho', mu, σ, H, m, Own, Q, hm, S, .cons r t, e, q => by
    refine ⟨_, _, rfl, ?_⟩
    exact gNames_ok (fun j hj => hm j (List.mem_cons_of_mem _ hj)) (S.setv i r) t e fun σ' S' w => q σ' S' (w.trans (wipe_set_mem (hm i (by simp))))
theorem g_tup {es : List Expr} {k : Nat} {is : List Nat} (hc : X.calm = true) (h : PGs X es (gNames is)) (hl : (assignEach es X.env).length = is.length := by rfl) (hst : (assignEach es X.env).findIdx? (·.1) = none := by rfl) : PG X (.Tuple es k pos) (TGx G is (bTup is)) := by
  refine PGw (pg_tup hc h hl hst) fun v σ H Q ⟨d, rho, rho', mu, m, Own, S, r, e, q⟩ => ?_
  cases r with
  | tup a1 a2 a3 a4 =>
    refine ⟨_, _, rfl, SqT.of a3, ?_, gNames_ok (is0 := is) (fun _ h => h) S a4 e q⟩
    rw [← a4.length]
    have len : ∀ {is : List Nat} {ds : List Da} {rho rho' : Ev}, bNames is ds rho = some rho' → ds.length = is.length := by
      intro is
      induction is with
      | nil => intro ds rho rho' e; cases ds with | nil => rfl | cons _ _ => cases e
      | cons i is ih => intro ds rho rho' e; cases ds with | nil => cases e | cons _ ds => exact congrArg Nat.succ (ih e)
    exact len e
  | _ => cases e
theorem gs_nil : PGs X [] (gNames []) := pgs_nil
theorem gs_cons {x : Str} {es : List Expr} {i : Nat} {is : List Nat} (h : PGs X es (gNames is)) (hN : X.N.Nodup) (hi : X.N[i]? = some x := by rfl) (hx : Loc X.env.scope x := by first | exact Or.inl rfl | exact Or.inr rfl) (hf : X.fn x = true ∨ X.env.scope.names.lookup x = some .local := by first | exact .inl rfl | exact .inr rfl)
    (hs : (assignEach (.Name x pos :: es) X.env).map (·.2) = assign (.Name x pos) X.env :: (assignEach es X.env).map (·.2) := by rfl) : PGs X (.Name x pos :: es) (gNames (i :: is)) := pgs_cons (pg_name hN hi hx hf) h hs

/-! ### what is walked -/
/-- J walks the items, wherever what is read stands -/
def Walks (J : It) (items : List Da) (m : List Addr) (B : Addr → Prop) (H : Hp) : Prop := ∀ m2 B2 H2, Le m B H m2 B2 H2 → (∀ p, H2 p = none → p ∉ m2 ∧ ¬ B2 p) →
  (∀ i d, items[i]? = some d → J.go i H2 ∧ ∀ x H3, J.yld i H2 x H3 → Same H2 H3 ∧ RD m2 B2 H3 d x) ∧ J.stop items.length H2
def TIx (G : Fr) (W : WX) (d : EvI) : TI := fun σ H R => ∃ rho mu m Own, StR G rho mu σ H m Own ∧ (d rho mu).wp (fun items mu' => ∀ J H' m', Lf m H m' H' → StR G rho mu' σ H' m' Own → Walks J items m' (G.bar Own) H' → R J H') (ES G W rho σ Own m H)
theorem PIw {X : Cx} {tg it : Expr} {t t' : TI} (h : PI X tg it t) (w : ∀ σ H R, t' σ H R → t σ H R) : PI X tg it t' := ⟨fun pins s σ H R I q => h.run pins s σ H R I (w σ H R q)⟩
def iSeq (e : EvD) : EvI := fun rho mu => bnd (e rho mu) fun d mu' => match d with
  | .lst xs => .ok xs mu'
  | .tup xs => .ok xs mu'
  | _ => .bad
def iLst (e : EvD) : EvI := fun rho mu => bnd (e rho mu) fun d mu' => match d with
  | .lst xs => .ok xs mu'
  | _ => .bad
def iTp (e : EvD) : EvI := fun rho mu => bnd (e rho mu) fun d mu' => match d with
  | .tup xs => .ok xs mu'
  | _ => .bad
theorem walks_list {K : PySem.W.Frag} {a : Addr} {xs : List Da} {us : List V} {m : List Addr} {B : Addr → Prop} {H : Hp} (h1 : a ∉ m) (h2 : ¬ B a) (h3 : H a = some (.lst us)) (h4 : RDs m B H xs us) : Walks (Itl K a) xs m B H := by
  intro m2 B2 H2 g _
  obtain ⟨k1, k2, k3⟩ := g.rd h3 h1 h2
  have r := RDs.mono g h4
  refine ⟨fun i d e => ?_, us, SqL.of k1, by rw [r.length]; exact Nat.le_refl _⟩
  obtain ⟨v, ev, rv⟩ := r.get e
  refine ⟨⟨us, v, SqL.of k1, ev⟩, fun x H3 ⟨eq, y⟩ => ?_⟩
  subst eq
  have := y us (SqL.of k1)
  rw [ev] at this
  cases this
  exact ⟨Same.refl _, rv⟩
theorem walks_tup {K : PySem.W.Frag} {a : Addr} {xs : List Da} {us : List V} {m : List Addr} {B : Addr → Prop} {H : Hp} (h1 : a ∉ m) (h2 : ¬ B a) (h3 : H a = some (.tup us)) (h4 : RDs m B H xs us) : Walks (Itt K a) xs m B H := by
  intro m2 B2 H2 g _
  obtain ⟨k1, k2, k3⟩ := g.rd h3 h1 h2
  have r := RDs.mono g h4
  refine ⟨fun i d e => ?_, us, SqT.of k1, by rw [r.length]; exact Nat.le_refl _⟩
  obtain ⟨v, ev, rv⟩ := r.get e
  refine ⟨⟨us, v, SqT.of k1, ev⟩, fun x H3 ⟨eq, y⟩ => ?_⟩
  subst eq
  have := y us (SqT.of k1)
  rw [ev] at this
  cases this
  exact ⟨Same.refl _, rv⟩
theorem i_list {tg l : Expr} (hl : PE X l (TEx G W d)) : PI X tg l (TIx G W (iLst d)) := by
  refine PIw (pi_list hl) fun σ H R ⟨rho, mu, m, Own, S, h⟩ => TEx.to S (wp_bnd h) fun z mu1 v H1 m1 h1 g1 S1 r1 => ?_
  cases r1 with
  | lst a1 a2 a3 a4 => exact ⟨_, rfl, ⟨_, SqL.of a3⟩, h1 _ H1 m1 g1 S1 (walks_list a1 a2 a3 a4)⟩
  | _ => exact h1.elim
theorem i_tup {tg l : Expr} (hl : PE X l (TEx G W d)) : PI X tg l (TIx G W (iTp d)) := by
  refine PIw (pi_tup hl) fun σ H R ⟨rho, mu, m, Own, S, h⟩ => TEx.to S (wp_bnd h) fun z mu1 v H1 m1 h1 g1 S1 r1 => ?_
  cases r1 with
  | tup a1 a2 a3 a4 => exact ⟨_, rfl, ⟨_, SqT.of a3⟩, h1 _ H1 m1 g1 S1 (walks_tup a1 a2 a3 a4)⟩
  | _ => exact h1.elim
/-- range -/
def rngD (lo : Int) : Nat → List Da
  | 0 => []
  | n + 1 => .int lo :: rngD (lo + 1) n
theorem rngD_get (n : Nat) : ∀ (lo : Int) (i : Nat), (rngD lo n)[i]? = if i < n then some (.int (lo + i)) else none := by
  induction n with
  | zero => intro lo i; simp [rngD]
  | succ n ih =>
    intro lo i
    cases i with
    | zero => simp [rngD]
    | succ i =>
      show (rngD (lo + 1) n)[i]? = _
      rw [ih]
      by_cases h : i < n
      · rw [if_pos h, if_pos (by omega)]
        congr 2
        omega
      · rw [if_neg h, if_neg (by omega)]
theorem rngD_len (n : Nat) : ∀ lo : Int, (rngD lo n).length = n := by
  induction n with
  | zero => intro _; rfl
  | succ n ih => intro lo; exact congrArg Nat.succ (ih _)
def iRng1 (a : Ev → Mem → Out (List Da)) : EvI := fun rho mu => bnd (a rho mu) fun xs mu' => match xs with
  | [.int j] => if -(2 ^ 62) ≤ j ∧ j < 2 ^ 62 then .ok (rngD 0 j.toNat) mu' else .bad
  | _ => .bad
def iRng2 (a : Ev → Mem → Out (List Da)) : EvI := fun rho mu => bnd (a rho mu) fun xs mu' => match xs with
  | [.int i, .int j] => if -(2 ^ 62) ≤ i ∧ i < 2 ^ 62 ∧ -(2 ^ 62) ≤ j ∧ j < 2 ^ 62 then .ok (rngD i (j - i).toNat) mu' else .bad
  | _ => .bad
theorem walks_rng {lo : Int} {n : Nat} {m : List Addr} {B : Addr → Prop} {H : Hp} : Walks (Itr lo n) (rngD lo n) m B H := by
  intro m2 B2 H2 g _
  refine ⟨fun i d e => ?_, by rw [rngD_len]; exact Nat.le_refl _⟩
  rw [rngD_get] at e
  by_cases h : i < n
  · rw [if_pos h] at e
    cases e
    refine ⟨h, fun x H3 ⟨e1, e2⟩ => ?_⟩
    subst e1 e2
    exact ⟨Same.refl _, .int _⟩
  · rw [if_neg h] at e; cases e
theorem i_rng1 {tg x : Expr} {r : Ev → Mem → Out (List Da)} {p : Pos} (hm : X.mg "range" = none) (ha : PA X [x] (TAx G W r)) (hg : Gl X "range" := by rfl) (hs : starEach [x] X.env = [(false, eval x X.env)] := by rfl) : PI X tg (.Call (.Name "range" p) [x] [] pos) (TIx G W (iRng1 r)) := by
  refine PIw (pi_range1 hg hm ha hs) fun σ H R ⟨rho, mu, m, Own, S, h⟩ => TAx.to S (wp_bnd h) fun z mu1 v H1 m1 h1 g1 S1 r1 => ?_
  match z, r1, h1 with
  | [.int j], .cons (.int _) .nil, h1 =>
    by_cases hj : -(2 ^ 62) ≤ j ∧ j < 2 ^ 62
    · simp only [if_pos hj] at h1
      exact ⟨j, rfl, hj.1, hj.2, h1 _ H1 m1 g1 S1 walks_rng⟩
    · simp only [if_neg hj] at h1
      exact h1.elim
theorem i_rng2 {tg x y : Expr} {r : Ev → Mem → Out (List Da)} {p : Pos} (hm : X.mg "range" = none) (ha : PA X [x, y] (TAx G W r)) (hg : Gl X "range" := by rfl) (hs : starEach [x, y] X.env = [(false, eval x X.env), (false, eval y X.env)] := by rfl) (hs2 : starEach [y] X.env = [(false, eval y X.env)] := by rfl) :
    PI X tg (.Call (.Name "range" p) [x, y] [] pos) (TIx G W (iRng2 r)) := by
  refine PIw (pi_range2 hg hm ha hs hs2) fun σ H R ⟨rho, mu, m, Own, S, h⟩ => TAx.to S (wp_bnd h) fun z mu1 v H1 m1 h1 g1 S1 r1 => ?_
  match z, r1, h1 with
  | [.int i, .int j], .cons (.int _) (.cons (.int _) .nil), h1 =>
    by_cases hj : -(2 ^ 62) ≤ i ∧ i < 2 ^ 62 ∧ -(2 ^ 62) ≤ j ∧ j < 2 ^ 62
    · simp only [if_pos hj] at h1
      exact ⟨i, j, rfl, hj, h1 _ H1 m1 g1 S1 walks_rng⟩
    · simp only [if_neg hj] at h1
      exact h1.elim

/-! ### for -/
theorem s_for {tg it : Expr} {xs : List Stmt} {di : EvI} {is : List Nat} {bd : Da → Ev → Option Ev} (hp : PassesOwn (model X.prog X.w) X.A X.env X.xe) (hi : PI X tg it (TIx G W di)) (hg : PG X tg (TGx G is bd)) (hb : PSs X xs (TSx G W b)) (hc : X.calm = true := by rfl)
    (hs : ∀ x, foldedSetIterable it X.env x = pure x := by intro _; rfl) : PS X (.For tg it xs [] pos) (TSx G W (sFor di bd b)) := by
  refine PSw (ps_for hp hc hi hg hb hs) fun D σ H ⟨rho, mu, m, Own, S, h⟩ => ?_
  refine ⟨rho, mu, m, Own, S, wp_and (use_wp (σ := σ) h) fun items mu1 h1 J H1 m1 g1 S1 wk => ?_⟩
  refine ⟨fun i k σ' H' => k = items.length - i ∧ i ≤ items.length ∧ ∃ rho' mu' m' Own', Le m1 (G.bar Own) H1 m' (G.bar Own') H' ∧ StR G rho' mu' σ' H' m' Own' ∧ SOk G W D m' Own' H' (sLoop bd b (items.drop i) rho' mu'),
    ⟨items.length, by simp, Nat.zero_le _, rho, mu1, m1, Own, Le.refl, S1, by simpa using SOk.step (g1.le (G.bar Own)) h1⟩, ?_⟩
  rintro i k σ2 H2 ⟨rfl, hi, rho2, mu2, m2, O2, g2, S2, h2⟩
  obtain ⟨w1, w2⟩ := wk m2 _ H2 g2 fun p hp => S2.fresh hp
  by_cases hlt : i < items.length
  · have ed : items[i]? = some items[i] := List.getElem?_eq_getElem hlt
    have edrop : items.drop i = items[i] :: items.drop (i + 1) := List.drop_eq_getElem_cons hlt
    obtain ⟨k1, k2⟩ := w1 i _ ed
    rw [edrop] at h2
    refine .inr ⟨k1, fun σ' H' => ∃ rho' mu' m' Own', Le m1 (G.bar Own) H1 m' (G.bar Own') H' ∧ StR G rho' mu' σ' H' m' Own' ∧ SOk G W D m' Own' H' (sLoop bd b (items.drop (i + 1)) rho' mu'), fun σ' H' z => ⟨items.length - (i + 1), by omega, rfl, hlt, z⟩, fun x H3 y => ?_⟩
    obtain ⟨sm, rx⟩ := k2 x H3 y
    unfold sLoop at h2
    cases eb : bd items[i] rho2 with
    | none => rw [eb] at h2; exact h2.elim
    | some rho3 =>
      rw [eb] at h2
      refine ⟨items[i], rho2, rho3, mu2, m2, O2, S2.same sm, rx, eb, fun σ3 S3 _ => tsx_mk S3 ?_⟩
      have gs : Le m2 (G.bar O2) H2 m2 (G.bar O2) H3 := (Lf.of_same sm).le _
      have h3 := SOk.step gs h2
      dsimp only at h3
      cases e : b rho3 mu2 with
      | nx r u => rw [e] at h3; exact fun σ' H' m' O' g S' => ⟨r, u, m', O', g2.trans (gs.trans g), S', h3.step g⟩
      | ct r u => rw [e] at h3; exact fun σ' H' m' O' g S' => ⟨r, u, m', O', g2.trans (gs.trans g), S', h3.step g⟩
      | bk r u => rw [e] at h3; exact h3
      | rt z u => rw [e] at h3; exact h3
      | exc x r u => rw [e] at h3; exact h3
      | bad => rw [e] at h3; exact h3
  · rw [List.drop_eq_nil_of_le (Nat.not_lt.mp hlt)] at h2
    have ei : i = items.length := Nat.le_antisymm hi (Nat.not_lt.mp hlt)
    exact .inl ⟨by rw [ei]; exact w2, h2 σ2 H2 m2 O2 Le.refl S2⟩
end
end Sk

/-! Sk F: enumerate over lists and tuples. -/
namespace Sk
open PySem PySem.Spec L2

theorem PI_or {X : Cx} {tg it : Expr} {t1 t2 : TI} (h1 : PI X tg it t1) (h2 : PI X tg it t2) : PI X tg it (fun σ H R => t1 σ H R ∨ t2 σ H R) := ⟨fun pins s σ H R I q => q.elim (h1.run pins s σ H R I) (h2.run pins s σ H R I)⟩

/-! ### enumerate(tuple) -/
theorem enumT_new (l : Addr) (its : Array Value) (k : Nat) (dd : Option Addr) (sl : Array (Option Value)) :
    Meets (Builtin.«enumerate.__new__» ⟨[.type "enumerate", .ref l], []⟩) (fun _ R s => s.heap.get? l = some { cls := .type "tuple", dict := dd, data := .seq its k, slots := sl } ∧
      R (.ok (.ret (.ref (s.heap.push { cls := .type "tuple_iterator", data := .fields #[.ref l, .int 0 0] }).objs.size)))
        { s with heap := (s.heap.push { cls := .type "tuple_iterator", data := .fields #[.ref l, .int 0 0] }).push { cls := .type "enumerate", data := .fields #[.none, .bool false, .ref s.heap.objs.size, rawInt 0, .none, .none] } }) :=
  .of_wp fun prog w A R s h => by
    obtain ⟨hp, gs, dr, tk, os⟩ := s
    obtain ⟨hl, h⟩ := h
    have isE := sub_enumerate
    have isT : Heap.IsTuple (Shared.heap ⟨hp, gs, dr, tk, os⟩) l its := ⟨_, hl, rfl, k, rfl⟩
    wp_walk using AutoSeq1.wpAny_loadPart' hl
    refine wpAny_stack_any fun st => wpAny_pure ?_
    split
    · rename_i c _ _ _ _ _
      cases (c == Value.type "enumerate") <;> (wp_walk using AutoSeq1.wpAny_loadPart' hl, wpAny_pyIter_tuple isT; exact ⟨_, rfl, h⟩)
    · wp_walk using AutoSeq1.wpAny_loadPart' hl, wpAny_pyIter_tuple isT
      exact ⟨_, rfl, h⟩
section
variable {prog : Program} {w : World} {A : Around} {E : Value → Shared → Prop} {s : Shared}
theorem call_enumT {l : Addr} {its : Array Value} {Q : Value → Shared → Prop} (ht : s.heap.IsTuple l its)
    (h : ∀ h', IsEnum h' (s.heap.objs.size + 1) s.heap.objs.size 0 .none → h'.IsTupleIter s.heap.objs.size l 0 → (∀ b o, s.heap.get? b = some o → h'.get? b = some o) → Q (.ref (s.heap.objs.size + 1)) { s with heap := h' }) :
    wpAny (model prog w) A (call (.type "enumerate") [.ref l]) Q E s := by
  obtain ⟨⟨c, dd, dt, sl⟩, hl, hc, k, hd⟩ := ht
  simp only at hc hd
  subst hc hd
  refine callType_new F.called_enumerate (by decide) (F.typeCall_enumerate_1 _) (F.newCall_enumerate_1 _) (fun obj => F.args_object_init_2 obj _) F.entry_enumerate_new (enumT_new l its k dd sl) ⟨hl, ?_⟩
  have size1 : (s.heap.push { cls := .type "tuple_iterator", data := .fields #[.ref l, .int 0 0] }).objs.size = s.heap.objs.size + 1 := Heap.size_push ..
  have at1 := Heap.get?_push_size (s.heap.push { cls := .type "tuple_iterator", data := .fields #[.ref l, .int 0 0] }) (o := { cls := .type "enumerate", data := .fields #[.none, .bool false, .ref s.heap.objs.size, rawInt 0, .none, .none] }) rfl
  rw [size1] at at1
  show _ ∧ _
  rw [size1]
  exact ⟨⟨_, at1, rfl⟩, h _ at1 ⟨_, Heap.get?_push_of_some _ (Heap.get?_push_size _ rfl), rfl, rfl⟩ fun b o q => Heap.get?_push_of_some _ (Heap.get?_push_of_some _ q)⟩
end
/-- the tuple at a, each item in a new pair -/
def IteT (K : PySem.W.Frag) (a : Addr) : It where
  go := fun i H => ∃ (xs : List V) (x : V), SqT K H a xs ∧ xs[i]? = some x
  yld := fun i H v H' => ∃ T x, v = .ref T ∧ H T = none ∧ H' = upd H T (.tup [.int (i : Nat), x]) ∧ ∀ xs, SqT K H a xs → xs[i]? = some x
  stop := fun i H => ∃ xs : List V, SqT K H a xs ∧ xs.length = i
theorem turnT {P : Program} {w : World} {K : PySem.W.Frag} {elts : List Expr} {kk : Nat} {tpos : Pos} (a e it : Addr) :
    Turn P w K (.Tuple elts kk tpos) (IteT K a) [e, it] e (fun i h => (∃ old, IsEnum h e it ((i : Nat) : Int) old) ∧ h.IsTupleIter it a i ∧ e ≠ it) where
  mem := by simp
  obj := fun i h st b hb => by
    obtain ⟨⟨old, he⟩, ⟨o, ho, hc, hd⟩, _⟩ := st
    rcases (show b = e ∨ b = it by simpa using hb) with rfl | rfl
    · exact ⟨_, he, fun v q => nomatch q⟩
    · exact ⟨o, ho, fun v q => by rw [hd] at q; cases q⟩
  keep := fun i h h' st k => let ⟨⟨old, he⟩, hi, hne⟩ := st; ⟨⟨old, k e (by simp) _ he⟩, hi.at fun o q => k it (by simp) o q, hne⟩
  item := by
    intro X hP hw hK hc i pins s σ H E I hf st hg
    subst hP hw hK
    obtain ⟨⟨old, he⟩, hit, hne⟩ := st
    obtain ⟨xs, x, hq, hx⟩ := hg
    obtain ⟨its, rv, p, hz⟩ := I.tuple hq
    obtain ⟨u, hu, ru⟩ := rv.get hx
    have hel : e < s.heap.objs.size := Heap.lt_size he
    have hil : it < s.heap.objs.size := by obtain ⟨_, q, _⟩ := hit; exact Heap.lt_size q
    have nea : e ≠ a := fun z => by
      obtain ⟨o, ho, hcl, _⟩ := p
      subst z
      have q : s.heap.get? e = some _ := he
      rw [ho] at q; cases q
      injection hcl with hcl
      exact absurd hcl (by decide)
    have nia : a ≠ it := fun z => by
      obtain ⟨o, ho, hcl, _⟩ := p
      obtain ⟨o', ho', hcl', _⟩ := hit
      subst z
      rw [ho] at ho'; cases ho'; rw [hcl] at hcl'
      injection hcl' with hcl'
      exact absurd hcl' (by decide)
    have lt : i < its.toArray.size := by rw [List.size_toArray]; exact (List.getElem?_eq_some_iff.mp hu).1
    refine wpAny_pyNext_enum_itemD (Draws.tuple (A := X.A.in1) (show X.A.in1.handled = none from I.ok.hd hc) it a nia its.toArray) he ⟨hit, p⟩ lt hne (show e ∉ [it, a] by simp [hne, nea]) fun y h' tk hy ho hst hT hsz hk => ?_
    have ey : y = u := by
      have q : its.toArray[i]? = some y := hy
      rw [List.getElem?_toArray] at q
      rw [hu] at q
      exact (Option.some.inj q).symm
    subst ey
    refine ⟨_, rfl, wpAny_letOwnedTupleGo_enum (s := { s with heap := h', toks := tk + 1 }) ho fun h2 he2 sb => ?_⟩
    have hT2 := (sb.2 s.heap.objs.size (Nat.ne_of_gt hel)).trans hT
    have laid : ObjOk X.prog X.w (upd H s.heap.objs.size (.tup [.int (i : Nat), x])) h2 s.heap.objs.size (.tup [.int (i : Nat), x]) := ⟨by show 2 ≤ sizeLine; decide, [.int i tk, y], .cons ⟨_, rfl⟩ (.cons ru .nil), ⟨_, hT2, rfl, _, rfl⟩⟩
    have I1 : Inv X pins σ (upd H s.heap.objs.size (.tup [.int (i : Nat), x])) { s with heap := h2, toks := tk + 1 } :=
      I.turnedNew (ch := [e, it]) (fun b ob hb q => (sb.2 b fun z => hb (by simp [z])).trans (hk b ob (fun z => hb (by simp [z])) (fun z => hb (by simp [z])) q)) hf (Nat.le_refl _) laid
    have next : ((i + 1 : Nat) : Int) = (i : Int) + 1 := by omega
    refine ⟨.ref s.heap.objs.size, _, I1, rfl, ⟨_, x, rfl, I.hok.fresh (Nat.le_refl _), rfl, fun ys hy => by rw [I.tuple_inj hy hq]; exact hx⟩, ⟨⟨y, by rw [next]; exact he2⟩, hst.1.at fun o q => (sb.2 it (Ne.symm hne)).trans q, hne⟩, fun b hb => ?_⟩
    have low : b < s.heap.objs.size := by
      rcases (show b = e ∨ b = it by simpa using hb) with rfl | rfl
      · exact hel
      · exact hil
    rw [upd_ne (Nat.ne_of_lt low)]
    exact (hf b hb).1
  done := by
    intro X hP hw hK hc i pins s σ H E I hf st hg
    subst hP hw hK
    obtain ⟨⟨old, he⟩, hit, hne⟩ := st
    obtain ⟨xs, hq, hx⟩ := hg
    obtain ⟨its, rv, p, hz⟩ := I.tuple hq
    obtain ⟨f0, f1, f2, f3, f4, f5⟩ := hf it (by simp)
    have nia : a ≠ it := fun z => by
      obtain ⟨o, ho, hcl, _⟩ := p
      obtain ⟨o', ho', hcl', _⟩ := hit
      subst z
      rw [ho] at ho'; cases ho'; rw [hcl] at hcl'
      injection hcl' with hcl'
      exact absurd hcl' (by decide)
    have len : its.toArray.size = i := by rw [List.size_toArray, ← rv.length]; exact hx
    subst len
    exact wpAny_pyNext_enum_endD (Draws.tuple (A := X.A.in1) (show X.A.in1.handled = none from I.ok.hd hc) it a nia its.toArray) he ⟨hit, p⟩ fun h' eb => ⟨rfl, I.turned (t' := s.toks) (fun b o hb q => eb b o hb q) f0 f1 f3 f4 f5⟩
  self := fun A i s Q E st h => let ⟨⟨_, he⟩, _⟩ := st; wpAny_pyIter_enum he h
def iEnT (K : PySem.W.Frag) (ta : TA) : TI := fun σ H R => ta σ H fun vs H1 => ∃ a xs, vs = [.ref a] ∧ SqT K H1 a xs ∧ R (IteT K a) H1
section
variable {X : Cx} {G : Fr} {W : WX}
theorem pi_enumT {e : Expr} {ta : TA} {p pos tpos : Pos} {elts : List Expr} {kk : Nat} (hg : Gl X "enumerate") (hm : X.mg "enumerate" = none) (ha : PA X [e] ta) (hs : starEach [e] X.env = [(false, eval e X.env)] := by rfl) : PI X (.Tuple elts kk tpos) (.Call (.Name "enumerate" p) [e] [] pos) (iEnT X.K ta) := by
  refine ⟨fun pins s σ H R I h => PyProof.Rows.Call_ (ld_blt I hg hm PyProof.Rows.boot_enumerate (PyProof.Rows.callWith_type1 (thn (ha.run pos pins s σ H _ I h) fun us s1 ⟨vs, H1, I1, r1, a, xs, ex, hq, q⟩ => ?_) hs rfl))⟩
  subst ex
  cases r1 with
  | cons r rr =>
    cases rr
    cases r
    obtain ⟨its, rv, pt, hz⟩ := I1.tuple hq
    refine call_enumT (its := its.toArray) pt fun h' he hit hk => wpAny_pyIter_enum he ?_
    refine ⟨s1.heap.objs.size + 1, [s1.heap.objs.size + 1, s1.heap.objs.size], _, _, H1, rfl, I1.kept (t' := s1.toks) hk, turnT a (s1.heap.objs.size + 1) s1.heap.objs.size, ⟨⟨.none, he⟩, hit, Nat.succ_ne_self _⟩, fun b hb => ?_, q⟩
    have up : s1.heap.objs.size ≤ b := by
      rcases (show b = s1.heap.objs.size + 1 ∨ b = s1.heap.objs.size by simpa using hb) with z | z
      · rw [z]; exact Nat.le_succ _
      · rw [z]; exact Nat.le_refl _
    have J := I1.fpOk (H' := H1) up (I1.hok.fresh up)
    exact J
/-- pairs of number and item -/
def enumD (k : Nat) : List Da → List Da
  | [] => []
  | x :: xs => .tup [.int (k : Int), x] :: enumD (k + 1) xs
theorem enumD_get : ∀ (xs : List Da) (k i : Nat), (enumD k xs)[i]? = (xs[i]?).map fun x => .tup [.int ((k + i : Nat) : Int), x]
  | [], k, i => by simp [enumD]
  | x :: xs, k, 0 => by simp [enumD]
  | x :: xs, k, i + 1 => by
    show (enumD (k + 1) xs)[i]? = _
    rw [enumD_get xs (k + 1) i, show k + 1 + i = k + (i + 1) by omega]
    rfl
theorem enumD_len : ∀ (xs : List Da) (k : Nat), (enumD k xs).length = xs.length
  | [], _ => rfl
  | _ :: xs, k => congrArg Nat.succ (enumD_len xs (k + 1))
def iEnum (r : Ev → Mem → Out (List Da)) : EvI := fun rho mu => bnd (r rho mu) fun xs mu' => match xs with
  | [.lst xs] => .ok (enumD 0 xs) mu'
  | [.tup xs] => .ok (enumD 0 xs) mu'
  | _ => .bad
theorem walks_enL {K : PySem.W.Frag} {a : Addr} {xs : List Da} {us : List V} {m : List Addr} {B : Addr → Prop} {H : Hp} (h1 : a ∉ m) (h2 : ¬ B a) (h3 : H a = some (.lst us)) (h4 : RDs m B H xs us) : Walks (Ite K a) (enumD 0 xs) m B H := by
  intro m2 B2 H2 g fr
  obtain ⟨k1, k2, k3⟩ := g.rd h3 h1 h2
  have r := RDs.mono g h4
  refine ⟨fun i d e => ?_, us, SqL.of k1, by rw [enumD_len, r.length]; exact Nat.le_refl _⟩
  rw [enumD_get] at e
  cases ex : xs[i]? with
  | none => rw [ex] at e; cases e
  | some x =>
    rw [ex] at e
    cases e
    obtain ⟨v, ev, rv⟩ := r.get ex
    refine ⟨⟨us, v, SqL.of k1, ev⟩, fun y H3 ⟨T, z, e1, hT, e2, k⟩ => ?_⟩
    subst e1 e2
    have q := k us (SqL.of k1)
    rw [ev] at q
    cases q
    refine ⟨same_upd hT, RD.new_tup ?_ hT (fr T hT).1 (fr T hT).2⟩
    rw [Nat.zero_add]
    exact .cons (.int _) (.cons rv .nil)
theorem walks_enT {K : PySem.W.Frag} {a : Addr} {xs : List Da} {us : List V} {m : List Addr} {B : Addr → Prop} {H : Hp} (h1 : a ∉ m) (h2 : ¬ B a) (h3 : H a = some (.tup us)) (h4 : RDs m B H xs us) : Walks (IteT K a) (enumD 0 xs) m B H := by
  intro m2 B2 H2 g fr
  obtain ⟨k1, k2, k3⟩ := g.rd h3 h1 h2
  have r := RDs.mono g h4
  refine ⟨fun i d e => ?_, us, SqT.of k1, by rw [enumD_len, r.length]⟩
  rw [enumD_get] at e
  cases ex : xs[i]? with
  | none => rw [ex] at e; cases e
  | some x =>
    rw [ex] at e
    cases e
    obtain ⟨v, ev, rv⟩ := r.get ex
    refine ⟨⟨us, v, SqT.of k1, ev⟩, fun y H3 ⟨T, z, e1, hT, e2, k⟩ => ?_⟩
    subst e1 e2
    have q := k us (SqT.of k1)
    rw [ev] at q
    cases q
    refine ⟨same_upd hT, RD.new_tup ?_ hT (fr T hT).1 (fr T hT).2⟩
    rw [Nat.zero_add]
    exact .cons (.int _) (.cons rv .nil)
theorem i_enum {x : Expr} {r : Ev → Mem → Out (List Da)} {p pos tpos : Pos} {elts : List Expr} {kk : Nat} (hm : X.mg "enumerate" = none) (ha : PA X [x] (TAx G W r)) (hg : Gl X "enumerate" := by rfl) (hs : starEach [x] X.env = [(false, eval x X.env)] := by rfl) :
    PI X (.Tuple elts kk tpos) (.Call (.Name "enumerate" p) [x] [] pos) (TIx G W (iEnum r)) := by
  refine PIw (PI_or (pi_enum hg hm ha hs) (pi_enumT hg hm ha hs)) fun σ H R ⟨rho, mu, m, Own, S, h⟩ => ?_
  have h' := wp_bnd h
  cases e : r rho mu with
  | ok z mu1 =>
    rw [e] at h'
    have both : ∀ (P : List Da → Prop), P z → (r rho mu).wp (fun a u => P a ∧ (match a with
        | [.lst xs] => Out.ok (enumD 0 xs) u
        | [.tup xs] => Out.ok (enumD 0 xs) u
        | _ => Out.bad).wp (fun items mu' => ∀ J H' m', Lf m H m' H' → StR G rho mu' σ H' m' Own → Walks J items m' (G.bar Own) H' → R J H') (ES G W rho σ Own m H)) (ES G W rho σ Own m H) := fun P hP => by
      rw [e]; exact ⟨hP, h'⟩
    match z, h', both with
    | [.lst xs], h', both =>
      refine .inl (TAx.to S (both (fun a => a = [.lst xs]) rfl) fun z2 mu2 vs H1 m1 ⟨ez, h1⟩ g1 S1 r1 => ?_)
      subst ez
      cases r1 with
      | cons r1 r2 =>
        cases r2
        cases r1 with
        | lst a1 a2 a3 a4 => exact ⟨_, _, rfl, SqL.of a3, h1 _ H1 m1 g1 S1 (walks_enL a1 a2 a3 a4)⟩
    | [.tup xs], h', both =>
      refine .inr (TAx.to S (both (fun a => a = [.tup xs]) rfl) fun z2 mu2 vs H1 m1 ⟨ez, h1⟩ g1 S1 r1 => ?_)
      subst ez
      cases r1 with
      | cons r1 r2 =>
        cases r2
        cases r1 with
        | tup a1 a2 a3 a4 => exact ⟨_, _, rfl, SqT.of a3, h1 _ H1 m1 g1 S1 (walks_enT a1 a2 a3 a4)⟩
  | exc x mu1 =>
    rw [e] at h'
    exact .inl (TAx.to (A := fun _ _ => False) S (by rw [e]; exact h') fun z2 mu2 vs H1 m1 h1 => h1.elim)
  | bad => rw [e] at h'; exact h'.elim
/-- a list or a tuple -/
theorem i_seq {tg l : Expr} {d : EvD} (hl : PE X l (TEx G W d)) : PI X tg l (TIx G W (iSeq d)) := by
  refine PIw (PI_or (i_list hl) (i_tup hl)) fun σ H R ⟨rho, mu, m, Own, S, h⟩ => ?_
  have h' := wp_bnd h
  cases e : d rho mu with
  | ok z mu1 =>
    rw [e] at h'
    cases z with
    | lst xs => exact .inl ⟨rho, mu, m, Own, S, by unfold iLst; rw [e]; exact h'⟩
    | tup xs => exact .inr ⟨rho, mu, m, Own, S, by unfold iTp; rw [e]; exact h'⟩
    | _ => exact h'.elim
  | exc x mu1 =>
    rw [e] at h'
    exact .inl ⟨rho, mu, m, Own, S, by unfold iLst; rw [e]; exact h'⟩
  | bad => rw [e] at h'; exact h'.elim
end
end Sk

/-! Sk G: lists that are being filled, comprehensions, numbered things. -/
namespace Sk
open PySem PySem.Spec L2

section
variable {G : Fr} {W : WX} {rho : Ev} {mu : Mem} {σ : L2.St} {H H' : Hp} {m : List Addr} {Own : Addr → Prop}
/-- a new object of the frame's own -/
theorem StR.bar1 (S : StR G rho mu σ H m Own) {p : Addr} {o : HO} (hp : H p = none) :
    StR G rho mu σ (upd H p o) m (fun a => Own a ∨ a = p) ∧ Le m (G.bar Own) H m (G.bar (fun a => Own a ∨ a = p)) (upd H p o) := by
  obtain ⟨f1, f2⟩ := S.fresh hp
  have sm : Same H (upd H p o) := same_upd hp
  have S1 := S.same sm
  have g : Le m (G.bar Own) H m (G.bar (fun a => Own a ∨ a = p)) (upd H p o) := by
    refine ⟨⟨[], by simp, by simp⟩, fun a o e _ _ => sm a o e, fun a e => sm.free e, fun a z => ?_⟩
    rcases z with z | z | z
    · exact .inl (.inl z)
    · exact .inl (.inr z)
    · subst z; exact .inr hp
  refine ⟨⟨S1.le, ?_, ?_, ?_, S.dj⟩, g⟩
  · refine S.wd.mono g (fun a _ o e => sm a o e) (fun a z => ?_) fun a ha z => ?_
    · rcases z with z | z | z
      · obtain ⟨o, e⟩ := S.wd.dom a (.inl z); exact ⟨o, sm a o e⟩
      · obtain ⟨o, e⟩ := S.wd.dom a (.inr z); exact ⟨o, sm a o e⟩
      · subst z; exact ⟨_, upd_same⟩
    · rcases z with z | z | z
      · exact S.wd.dis a ha (.inl z)
      · exact S.wd.dis a ha (.inr z)
      · subst z; exact f1 ha
  · refine paired_imp (fun x o z => ?_) S.sl
    cases x with
    | un => trivial
    | val d => obtain ⟨v, e, r⟩ := z; exact ⟨v, e, r.mono g⟩
    | own xs => obtain ⟨a, us, e1, e2, e3, e4⟩ := z; exact ⟨a, us, e1, .inl e2, sm _ _ e3, RDs.mono g e4⟩
  · rintro a (z | z)
    · exact S.ow a z
    · subst z
      exact ⟨S.le.dom a hp, fun z => f2 (.inl z)⟩
/-- no slot holds the frame's own object p -/
def NoSlot (rho : Ev) (σ : L2.St) (p : Addr) : Prop := ∀ (i : Nat) (xs : List Da), rho[i]? = some (Sl.own xs) → σ[i]? ≠ some (some (V.ref p))
theorem StR.noslot (S : StR G rho mu σ H m Own) {p : Addr} (hp : H p = none) : NoSlot rho σ p := fun i xs e1 e2 => by
  obtain ⟨o, q, a, us, e3, e4, e5, _⟩ := paired_get S.sl e1
  rw [e2] at q
  cases q
  cases e3
  rw [hp] at e5
  cases e5
/-- .. it is written -/
theorem StR.write (S : StR G rho mu σ H m Own) {p : Addr} (o : HO) (hp : Own p) (hn : NoSlot rho σ p) : StR G rho mu σ (upd H p o) m Own ∧ Le m (G.bar Own) H m (G.bar Own) (upd H p o) := by
  have g : Le m (G.bar Own) H m (G.bar Own) (upd H p o) := by
    refine ⟨⟨[], by simp, by simp⟩, fun a u e _ hb => by rw [upd_ne (fun (z : a = p) => hb (.inr (by rw [z]; exact hp)))]; exact e, fun a e => ?_, fun a z => .inl z⟩
    by_cases hz : a = p
    · subst hz; rw [upd_same] at e; cases e
    · rw [upd_ne hz] at e; exact e
  have nm : p ∉ m := fun h => S.wd.dis p h (.inr hp)
  refine ⟨⟨?_, ?_, ?_, S.ow, S.dj⟩, g⟩
  · refine ⟨S.le.pre, fun a u e h1 h2 => ?_, fun a e => S.le.dom a (g.dom a e), S.le.op⟩
    rw [upd_ne (fun z => by rw [z, (S.ow p hp).1] at e; cases e)]
    exact S.le.keep a u e h1 h2
  · refine S.wd.mono g (fun a ha u e => by rw [upd_ne (fun (z : a = p) => nm (by rw [← z]; exact ha))]; exact e) (fun a z => ?_) S.wd.dis
    by_cases hz : a = p
    · subst hz; exact ⟨_, upd_same⟩
    · rw [upd_ne hz]; exact S.wd.dom a z
  · have all : ∀ {r : Ev} {s : L2.St}, Paired (fun (s : Sl) (o : Option V) => SlR m (G.bar Own) H Own s o) r s → (∀ (i : Nat) (xs : List Da), r[i]? = some (Sl.own xs) → s[i]? ≠ some (some (V.ref p))) →
        Paired (fun (s : Sl) (u : Option V) => SlR m (G.bar Own) (upd H p o) Own s u) r s := by
      intro r s h
      induction h with
      | nil => intro _; exact .nil
      | @cons x u r s h t ih =>
        intro hn
        refine .cons ?_ (ih fun i xs e => hn (i + 1) xs e)
        cases x with
        | un => trivial
        | val d => obtain ⟨v, e, r⟩ := h; exact ⟨v, e, r.mono g⟩
        | own xs =>
          obtain ⟨a, us, e1, e2, e3, e4⟩ := h
          refine ⟨a, us, e1, e2, ?_, RDs.mono g e4⟩
          rw [upd_ne (fun z => hn 0 xs rfl (by rw [← z]; exact congrArg some e1))]
          exact e3
    exact all S.sl hn
/-- .. it is no longer the frame's own -/
theorem StR.unbar {p : Addr} (S : StR G rho mu σ H m (fun a => Own a ∨ a = p)) (hn : NoSlot rho σ p) : StR G rho mu σ H m Own := by
  have lb : ∀ a, G.bar Own a → G.bar (fun a => Own a ∨ a = p) a := fun a z => z.elim .inl fun q => .inr (.inl q)
  refine ⟨S.le, S.wd.less lb, ?_, fun a z => S.ow a (.inl z), S.dj⟩
  have all : ∀ {r : Ev} {s : L2.St}, Paired (fun (s : Sl) (o : Option V) => SlR m (G.bar (fun a => Own a ∨ a = p)) H (fun a => Own a ∨ a = p) s o) r s → (∀ (i : Nat) (xs : List Da), r[i]? = some (Sl.own xs) → s[i]? ≠ some (some (V.ref p))) →
      Paired (fun (s : Sl) (u : Option V) => SlR m (G.bar Own) H Own s u) r s := by
    intro r s h
    induction h with
    | nil => intro _; exact .nil
    | @cons x u r s h t ih =>
      intro hn
      refine .cons ?_ (ih fun i xs e => hn (i + 1) xs e)
      cases x with
      | un => trivial
      | val d => obtain ⟨v, e, r⟩ := h; exact ⟨v, e, r.mono (Le.less lb)⟩
      | own xs =>
        obtain ⟨a, us, e1, e2, e3, e4⟩ := h
        refine ⟨a, us, e1, e2.elim id fun z => absurd (congrArg some e1) ?_, e3, RDs.mono (Le.less lb) e4⟩
        have q := hn 0 xs rfl
        rw [← z] at q
        exact q
  exact all S.sl hn
/-- a list that a slot is filling gets other items -/
theorem StR.fill (S : StR G rho mu σ H m Own) {i : Nat} {xs ys : List Da} {us vs : List V} {p : Addr} (h1 : rho[i]? = some (.own xs)) (h2 : σ[i]? = some (some (.ref p))) (h3 : RDs m (G.bar Own) H ys vs) :
    StR G (rho.set i (.own ys)) mu σ (upd H p (.lst vs)) m Own ∧ Le m (G.bar Own) H m (G.bar Own) (upd H p (.lst vs)) := by
  obtain ⟨o, q, a, us', e3, hp, e5, _⟩ := paired_get S.sl h1
  rw [h2] at q
  cases q
  cases e3
  have g : Le m (G.bar Own) H m (G.bar Own) (upd H p (.lst vs)) := by
    refine ⟨⟨[], by simp, by simp⟩, fun a u e _ hb => by rw [upd_ne (fun (z : a = p) => hb (.inr (by rw [z]; exact hp)))]; exact e, fun a e => ?_, fun a z => .inl z⟩
    by_cases hz : a = p
    · subst hz; rw [upd_same] at e; cases e
    · rw [upd_ne hz] at e; exact e
  have nm : p ∉ m := fun h => S.wd.dis p h (.inr hp)
  have sub : ∀ (j : Nat) (zs : List Da), (rho.set i (.own ys))[j]? = some (Sl.own zs) → ∃ ws, rho[j]? = some (Sl.own ws) := by
    intro j zs e
    by_cases hj : i = j
    · subst hj; exact ⟨xs, h1⟩
    · rw [List.getElem?_set_ne hj] at e; exact ⟨zs, e⟩
  refine ⟨⟨?_, ?_, ?_, S.ow, fun a b c zs ws hab e1 e2 => ?_⟩, g⟩
  · refine ⟨S.le.pre, fun a u e k1 k2 => ?_, fun a e => S.le.dom a (g.dom a e), S.le.op⟩
    rw [upd_ne (fun z => by rw [z, (S.ow p hp).1] at e; cases e)]
    exact S.le.keep a u e k1 k2
  · refine S.wd.mono g (fun a ha u e => by rw [upd_ne (fun (z : a = p) => nm (by rw [← z]; exact ha))]; exact e) (fun a z => ?_) S.wd.dis
    by_cases hz : a = p
    · subst hz; exact ⟨_, upd_same⟩
    · rw [upd_ne hz]; exact S.wd.dom a z
  · have all : ∀ {r : Ev} {s : L2.St} (k : Nat), Paired (fun (s : Sl) (o : Option V) => SlR m (G.bar Own) H Own s o) r s → (∀ (j : Nat) (zs : List Da), r[j]? = some (Sl.own zs) → j ≠ k → s[j]? ≠ some (some (V.ref p))) →
        (∀ o, s[k]? = some o → o = some (V.ref p)) → Paired (fun (s : Sl) (u : Option V) => SlR m (G.bar Own) (upd H p (.lst vs)) Own s u) (r.set k (.own ys)) s := by
      intro r s k h
      induction h generalizing k with
      | nil => intro _ _; exact .nil
      | @cons x u r s h t ih =>
        intro hn hk
        cases k with
        | zero =>
          refine .cons ⟨p, vs, hk u rfl, hp, upd_same, RDs.mono g h3⟩ ?_
          have := ih (r.length + s.length) (fun j zs e hj => hn (j + 1) zs e (Nat.succ_ne_zero j)) (fun o e => by
            have := (List.getElem?_eq_some_iff.mp e).1
            omega)
          rw [List.set_eq_of_length_le (by omega)] at this
          exact this
        | succ k =>
          refine .cons ?_ (ih k (fun j zs e hj => hn (j + 1) zs e (fun z => hj (Nat.succ.inj z))) fun o e => hk o e)
          cases x with
          | un => trivial
          | val d => obtain ⟨v, e, r⟩ := h; exact ⟨v, e, r.mono g⟩
          | own xs =>
            obtain ⟨a, us, e1, e2, e3, e4⟩ := h
            refine ⟨a, us, e1, e2, ?_, RDs.mono g e4⟩
            rw [upd_ne (fun z => hn 0 xs rfl (Nat.zero_ne_add_one k) (by rw [← z]; exact congrArg some e1))]
            exact e3
    exact all i S.sl (fun j zs e hj e2 => S.dj i j p xs zs (Ne.symm hj) h1 e h2 e2) fun o e => by rw [h2] at e; exact (Option.some.inj e).symm
  · obtain ⟨ws', k1⟩ := sub a zs e1
    obtain ⟨ws2, k2⟩ := sub b ws e2
    exact S.dj a b c ws' ws2 hab k1 k2
end
end Sk

/-! Sk H: comprehensions, lists being filled, dicts, subscripts. -/
namespace Sk
open PySem PySem.Spec L2

/-! ### comprehensions -/
abbrev WF : WX := fun _ _ _ _ => False
def noX {α : Type} (o : Out α) : Out α := match o with
  | .ok a mu => .ok a mu
  | _ => .bad
@[simp] theorem noX_ok {α : Type} {a : α} {mu : Mem} : noX (.ok a mu) = .ok a mu := rfl
theorem wp_noX {α : Type} {o : Out α} {Q : α → Mem → Prop} {E E' : Exn → Mem → Prop} (h : (noX o).wp Q E) : o.wp Q E' := by
  cases o with
  | ok a mu => exact h
  | exc x mu => exact h.elim
  | bad => exact h
def wipeE (rho : Ev) : List Nat → Ev
  | [] => rho
  | v :: vs => (wipeE rho vs).set v .un
def cLoop (bd : Da → Ev → Option Ev) (t : EvT) (e : EvD) (rho0 : Ev) : List Da → Mem → Out (List Da)
  | [], mu => .ok [] mu
  | x :: xs, mu => match bd x rho0 with
    | none => .bad
    | some rho1 => bnd (noX (t rho1 mu)) fun b mu1 => if b then bnd (noX (e rho1 mu1)) fun y mu2 => bnd (cLoop bd t e rho0 xs mu2) fun ys mu3 => .ok (y :: ys) mu3 else cLoop bd t e rho0 xs mu1
def tT : EvT := fun _ mu => .ok true mu
/-- [e for .. in it if t]; vs: the slots of its own names -/
def eCmp (it : EvI) (vs : List Nat) (bd : Da → Ev → Option Ev) (t : EvT) (e : EvD) : EvD := fun rho mu => bnd (it rho mu) fun xs mu1 => if xs.length < sizeLine then bnd (cLoop bd t e (wipeE rho vs) xs mu1) fun ys mu2 => .ok (.lst ys) mu2 else .bad
theorem wipe_idem (σ : L2.St) (vs : List Nat) : wipe (wipe σ vs) vs = wipe σ vs := by
  have key : ∀ (us : List Nat), (∀ i ∈ us, i ∈ vs) → wipe (wipe σ us) vs = wipe σ vs := by
    intro us
    induction us with
    | nil => intro _; rfl
    | cons u us ih =>
      intro h
      show wipe ((wipe σ us).set u none) vs = _
      rw [wipe_set_mem (h u (by simp))]
      exact ih fun i hi => h i (List.mem_cons_of_mem _ hi)
  exact key vs fun _ h => h
section
variable {G : Fr} {W : WX} {rho : Ev} {mu : Mem} {σ : L2.St} {H H' : Hp} {m : List Addr} {Own : Addr → Prop}
theorem StR.forget (S : StR G rho mu σ H m Own) (i : Nat) : StR G (rho.set i .un) mu (σ.set i none) H m Own := by
  refine ⟨S.le, S.wd, paired_set True.intro i S.sl, S.ow, fun a b c xs ys hab h1 h2 h3 h4 => ?_⟩
  have f : ∀ (j : Nat) (zs : List Da), (rho.set i .un)[j]? = some (Sl.own zs) → i ≠ j ∧ rho[j]? = some (Sl.own zs) := by
    intro j zs e
    by_cases hj : i = j
    · subst hj
      rw [List.getElem?_set_self'] at e
      cases q : rho[i]? with
      | none => rw [q] at e; cases e
      | some s => rw [q] at e; cases e
    · rw [List.getElem?_set_ne hj] at e
      exact ⟨hj, e⟩
  obtain ⟨n1, e1⟩ := f a xs h1
  obtain ⟨n2, e2⟩ := f b ys h2
  rw [List.getElem?_set_ne n1] at h3
  rw [List.getElem?_set_ne n2] at h4
  exact S.dj a b c xs ys hab e1 e2 h3 h4
theorem StR.wipe (S : StR G rho mu σ H m Own) : ∀ vs : List Nat, StR G (wipeE rho vs) mu (L2.wipe σ vs) H m Own
  | [] => S
  | v :: vs => (S.wipe vs).forget v
end
section
variable {X : Cx} {G : Fr} {W : WX} {pos pos' : Pos}
theorem cmp_le {it : EvI} {bd : Da → Ev → Option Ev} {vs : List Nat} {t : EvT} {e : EvD} {σ : L2.St} {H : Hp} {Q : VK} (h : TEx G W (eCmp it vs bd t e) σ H Q) : tLc (TIx G W it) (TGx G vs bd) (TTx G WF t) (TEx G WF e) vs σ H Q := by
  obtain ⟨rho, mu, m, Own, S, h⟩ := h.un
  refine ⟨rho, mu, m, Own, S, wp_and (wp_bnd h) fun items mu1 h1 J H1 m1 g1 S1 wk => ?_⟩
  by_cases hlen : items.length < sizeLine
  · rw [if_pos hlen] at h1
    intro D hD
    have ns := S1.noslot hD
    obtain ⟨S2, le2⟩ := S1.bar1 (o := .lst []) hD
    refine ⟨fun i k H' => k = items.length - i ∧ i ≤ items.length ∧ ∃ mu' m' acc av, Le m1 (G.bar Own) H1 m' (G.bar (fun a => Own a ∨ a = D)) H' ∧ Lf m1 H1 m' H' ∧ StR G rho mu' σ H' m' (fun a => Own a ∨ a = D) ∧ H' D = some (.lst av) ∧ RDs m' (G.bar (fun a => Own a ∨ a = D)) H' acc av ∧ acc.length ≤ i ∧
        (cLoop bd t e (wipeE rho (vs)) (items.drop i) mu').wp (fun ys mu2 => QE G rho σ Own m H Q (.lst (acc ++ ys)) mu2) (fun _ _ => False), ⟨items.length, by simp, Nat.zero_le _, mu1, m1, [], [], le2, Lf.of_same (same_upd hD), S2, upd_same, .nil, Nat.zero_le _, ?_⟩, ?_⟩
    · have q := wp_bnd h1
      rw [List.drop_zero]
      have cl : ∀ (xs : List Da) (u : Mem), (∃ x v, cLoop bd t e (wipeE rho (vs)) xs u = .exc x v) → False := by
        intro xs
        induction xs with
        | nil => rintro u ⟨x, v, e⟩; cases e
        | cons y ys ih =>
          rintro u ⟨x, v, e1⟩
          unfold cLoop at e1
          cases eb : bd y (wipeE rho (vs)) with
          | none => rw [eb] at e1; cases e1
          | some r1 =>
            rw [eb] at e1
            dsimp only at e1
            cases et : t r1 u with
            | ok b u1 =>
              rw [et] at e1
              simp only [noX, bnd] at e1
              cases b with
              | false => exact ih u1 ⟨x, v, e1⟩
              | true =>
                simp only [if_true] at e1
                cases ee : e r1 u1 with
                | ok z u2 =>
                  rw [ee] at e1
                  dsimp only at e1
                  cases ec : cLoop bd t e (wipeE rho (vs)) ys u2 with
                  | ok zs u3 => rw [ec] at e1; cases e1
                  | exc x' u3 => exact ih u2 ⟨x', u3, ec⟩
                  | bad => rw [ec] at e1; cases e1
                | exc x' u2 => rw [ee] at e1; cases e1
                | bad => rw [ee] at e1; cases e1
            | exc x' u1 => rw [et] at e1; cases e1
            | bad => rw [et] at e1; cases e1
      cases ec : cLoop bd t e (wipeE rho (vs)) items mu1 with
      | ok zs u3 => rw [ec] at q; exact q
      | exc x' u3 => exact cl _ _ ⟨x', u3, ec⟩
      | bad => rw [ec] at q; exact q
    · rintro i k H2 ⟨rfl, hi2, mu2, m2, acc, av, g2, l2, S2, hDv, rd, hal, hw⟩
      obtain ⟨w1, w2⟩ := wk m2 _ H2 g2 fun p hp => S2.fresh hp
      by_cases hlt : i < items.length
      · have ed : items[i]? = some items[i] := List.getElem?_eq_getElem hlt
        rw [List.drop_eq_getElem_cons hlt] at hw
        unfold cLoop at hw
        obtain ⟨k1, k2⟩ := w1 i _ ed
        refine .inr ⟨k1, fun H' => i + 1 ≤ items.length ∧ ∃ mu' m' acc av, Le m1 (G.bar Own) H1 m' (G.bar (fun a => Own a ∨ a = D)) H' ∧ Lf m1 H1 m' H' ∧ StR G rho mu' σ H' m' (fun a => Own a ∨ a = D) ∧ H' D = some (.lst av) ∧ RDs m' (G.bar (fun a => Own a ∨ a = D)) H' acc av ∧ acc.length ≤ i + 1 ∧
          (cLoop bd t e (wipeE rho (vs)) (items.drop (i + 1)) mu').wp (fun ys mu2 => QE G rho σ Own m H Q (.lst (acc ++ ys)) mu2) (fun _ _ => False), fun H' z => ⟨items.length - (i + 1), by omega, rfl, z⟩, fun x H3 y => ?_⟩
        obtain ⟨sm, rx⟩ := k2 x H3 y
        cases eb : bd items[i] (wipeE rho (vs)) with
        | none => rw [eb] at hw; exact hw.elim
        | some rho3 =>
          rw [eb] at hw
          dsimp only at hw
          have nD : D ∉ m2 := fun z => S2.wd.dis D z (.inr (.inr rfl))
          have S3 := S2.same sm
          refine ⟨items[i], wipeE rho (vs), rho3, mu2, m2, (fun a => Own a ∨ a = D), S3.wipe _, rx, eb, fun σ4 S4 ew => ⟨ew.trans (wipe_idem _ _), ?_⟩⟩
          refine TTx.to S4 (wp_noX (E' := ES G WF rho3 σ4 (fun a => Own a ∨ a = D) m2 H3) (wp_bnd hw)) fun b mu5 H5 m5 h5 g5 S5 => ?_
          have lf3 : Lf m2 H2 m5 H5 := (Lf.of_same sm).trans g5
          have S5' := (S2.call lf3 S5.wd)
          have hD5 : H5 D = some (.lst av) := lf3.keep D _ hDv nD id
          cases b with
          | false =>
            have h5' : (cLoop bd t e (wipeE rho (vs)) (items.drop (i + 1)) mu5).wp _ _ := h5
            exact ⟨hlt, mu5, m5, acc, av, g2.trans (lf3.le _), l2.trans lf3, S5', hD5, RDs.mono (lf3.le _) rd, Nat.le_succ_of_le hal, h5'⟩
          | true =>
            simp only [if_true] at h5
            refine TEx.to S5 (wp_noX (E' := ES G WF rho3 σ4 (fun a => Own a ∨ a = D) m5 H5) (wp_bnd h5)) fun z mu6 v H6 m6 h6 g6 S6 r6 => ?_
            have lf6 : Lf m2 H2 m6 H6 := lf3.trans g6
            have S6' := (S2.call lf6 S6.wd)
            have hD6 : H6 D = some (.lst av) := lf6.keep D _ hDv nD id
            have rd6 : RDs m6 (G.bar (fun a => Own a ∨ a = D)) H6 (acc ++ [z]) (av ++ [v]) := (RDs.mono (lf6.le _) rd).append (.cons r6 .nil)
            obtain ⟨S7, le7⟩ := S6'.write (.lst (av ++ [v])) (.inr rfl) ns
            have nD6 : D ∉ m6 := fun z => S6'.wd.dis D z (.inr (.inr rfl))
            refine ⟨av, hD6, ?_, hlt, mu6, m6, acc ++ [z], av ++ [v], g2.trans ((lf6.le _).trans le7), ?_, S7, upd_same, RDs.mono le7 rd6, ?_, ?_⟩
            · rw [← rd.length]
              exact Nat.lt_of_le_of_lt hal (Nat.lt_trans hlt hlen)
            · refine ⟨(l2.trans lf6).pre, fun a u e n1 n2 => ?_, fun a e => (l2.trans lf6).dom a (le7.dom a e), fun a z => z.elim⟩
              rw [upd_ne (fun (q : a = D) => by rw [q, hD] at e; cases e)]
              exact (l2.trans lf6).keep a u e n1 n2
            · rw [List.length_append, List.length_singleton]; omega
            · have q := wp_bnd h6
              refine wp_and q fun ys mu8 h8 => ?_
              rw [List.append_assoc]
              exact h8
      · have ei : i = items.length := Nat.le_antisymm hi2 (Nat.not_lt.mp hlt)
        rw [List.drop_eq_nil_of_le (Nat.not_lt.mp hlt)] at hw
        refine .inl ⟨by rw [ei]; exact w2, ?_⟩
        have hw' : QE G rho σ Own m H Q (.lst (acc ++ [])) mu2 := hw
        rw [List.append_nil] at hw'
        have Sf := S2.unbar ns
        obtain ⟨f1, f2⟩ := S1.fresh hD
        refine hw' (.ref D) H2 m2 (g1.trans l2) Sf (.lst (fun z => S2.wd.dis D z (.inr (.inr rfl))) f2 hDv (RDs.mono (Le.less fun a z => z.elim .inl fun q => .inr (.inl q)) rd))
  · rw [if_neg hlen] at h1
    exact h1.elim
theorem c_comp {elt tg iter : Expr} {ifs : List Expr} {scope : Scope} {own : List (Str × Nat)} {it : EvI} {bd : Da → Ev → Option Ev} {t : EvT} {e : EvD} (hN : X.N.Nodup) (hi : PI X tg iter (TIx G W it)) (ok : BlkOk X.N X.env.scope scope own)
    (hg : ∀ (s : Shared) (H : Hp) (C : Addr) (cl : List (Str × Addr)) (fp : List Addr), PG (X.blk s H scope (compEnvC scope cl C X.env) fp) tg (TGx G (own.map (·.2)) bd)) (ht : ∀ (s : Shared) (H : Hp) (C : Addr) (cl : List (Str × Addr)) (fp : List Addr), PTs (X.blk s H scope (compEnvC scope cl C X.env) fp) ifs (TTx G WF t))
    (he : ∀ (s : Shared) (H : Hp) (C : Addr) (cl : List (Str × Addr)) (fp : List Addr), PE (X.blk s H scope (compEnvC scope cl C X.env) fp) elt (TEx G WF e)) (hc : X.calm = true := by rfl) (hs : ∀ x, foldedSetIterable iter X.env x = pure x := by intro _; rfl) :
    PE X (.ListComp elt [⟨tg, iter, ifs, 0⟩] scope pos) (TEx G W (eCmp it (own.map (·.2)) bd t e)) := by
  exact PEw (pe_lc hc hN hi ok hg ht he hs) fun σ H Q h => cmp_le h
theorem s_setC {i : Nat} {y : Str} {py spos : Pos} {elt tg iter : Expr} {ifs : List Expr} {scope : Scope} {own : List (Str × Nat)} {it : EvI} {bd : Da → Ev → Option Ev} {t : EvT} {e : EvD} (hN : X.N.Nodup) (hi : PI X tg iter (TIx G W it)) (ok : BlkOk X.N X.env.scope scope own)
    (hg : ∀ (s : Shared) (H : Hp) (C : Addr) (cl : List (Str × Addr)) (fp : List Addr), PG (X.blk s H scope (compEnvC scope cl C X.env) fp) tg (TGx G (own.map (·.2)) bd)) (ht : ∀ (s : Shared) (H : Hp) (C : Addr) (cl : List (Str × Addr)) (fp : List Addr), PTs (X.blk s H scope (compEnvC scope cl C X.env) fp) ifs (TTx G WF t))
    (he : ∀ (s : Shared) (H : Hp) (C : Addr) (cl : List (Str × Addr)) (fp : List Addr), PE (X.blk s H scope (compEnvC scope cl C X.env) fp) elt (TEx G WF e)) (hy : X.N[i]? = some y := by rfl) (hyl : X.env.scope.names.lookup y = some .local := by rfl)
    (hl : (py.line == pos.line) = true := by rfl) (hnl : (scope.names.any fun (n, k) => n == y && (k == .local || k == .cell)) = false := by rfl) (hk : X.env.scope.kind = .function := by rfl) (hc : X.calm = true := by rfl) (hs : ∀ x, foldedSetIterable iter X.env x = pure x := by intro _; rfl) :
    PS X (.Assign [.Name y py] (.ListComp elt [⟨tg, iter, ifs, 0⟩] scope pos) spos) (TSx G W (sSet i (eCmp it (own.map (·.2)) bd t e))) := by
  refine PSw (ps_setLc hc hN hy hyl (sw_true hk hyl hl hnl) hi ok hg ht he hs) fun D σ H ⟨rho, mu, m, Own, S, h⟩ => ?_
  exact cmp_le (TEx.to S (use_wp (σ := σ) h) fun z mu1 v H1 m1 h1 g1 S1 r1 => h1 _ H1 m1 Own (g1.le _) (S1.setv i r1))
theorem ts_nil : PTs X [] (TTx G W tT) := ⟨fun pins s σ H Q I h => pts_nil.run pins s σ H Q I (by
  obtain ⟨rho, mu, m, Own, S, h⟩ := h
  exact h H m Lf.refl S)⟩
theorem ts_one {c : Expr} {t : EvT} (h : PT X c (TTx G W t)) : PTs X [c] (TTx G W t) := pts_one h
end
end Sk

/-! Sk I: subscripts, slices, chains, lists being filled, numbered dicts, pairs of stores. -/
namespace Sk
open PySem PySem.Spec L2

/-! ### subscripts -/
def ixD : Da → Da → Option Da
  | .lst xs, .int i => atI xs i
  | .tup xs, .int i => atI xs i
  | .str z, .int i => if z.length ≤ sizeLine then (atI z.cps.toList i).map fun c => .str ⟨#[c]⟩ else none
  | _, _ => none
section
variable {m : List Addr} {B : Addr → Prop} {H : Hp}
theorem RDs.atI {xs : List Da} {vs : List V} (r : RDs m B H xs vs) {i : Int} {d : Da} (h : L2.atI xs i = some d) : ∃ v, L2.atI vs i = some v ∧ RD m B H d v := by
  unfold L2.atI at h
  cases e : ixN xs.length i with
  | none => rw [e] at h; cases h
  | some j =>
    rw [e] at h
    obtain ⟨v, e2, rv⟩ := r.get (show xs[j]? = some d from h)
    refine ⟨v, ?_, rv⟩
    unfold L2.atI
    rw [← r.length, e]
    exact e2
end
section
variable {X : Cx} {G : Fr} {W : WX} {pos pos' : Pos} {a b : Expr} {da db : EvD}
theorem ix_read {K : PySem.W.Frag} {m : List Addr} {B : Addr → Prop} {H : Hp} {x y z : Da} {u v : V} {Q : VK} (e : ixD x y = some z) (rx : RD m B H x u) (ry : RD m B H y v) (q : ∀ w, RD m B H z w → Q w H) : rIx K u v H Q := by
  cases y with
  | int i =>
    cases ry
    cases x with
    | lst xs =>
      cases rx with
      | lst a1 a2 a3 a4 =>
        obtain ⟨w, e2, r⟩ := a4.atI e
        exact .inl ⟨_, _, i, w, rfl, rfl, SqL.of a3, e2, q w r⟩
    | tup xs =>
      cases rx with
      | tup a1 a2 a3 a4 =>
        obtain ⟨w, e2, r⟩ := a4.atI e
        exact .inr (.inl ⟨_, _, i, w, rfl, rfl, SqT.of a3, e2, q w r⟩)
    | str s =>
      cases rx
      replace e : (if s.length ≤ sizeLine then (L2.atI s.cps.toList i).map fun c => Da.str ⟨#[c]⟩ else none) = some z := e
      by_cases hz : s.length ≤ sizeLine
      · rw [if_pos hz] at e
        cases ec : L2.atI s.cps.toList i with
        | none => rw [ec] at e; cases e
        | some c =>
          rw [ec] at e
          cases e
          exact .inr (.inr ⟨s, i, c, rfl, rfl, hz, ec, q _ (.str _)⟩)
      · rw [if_neg hz] at e; cases e
    | _ => cases e
  | _ => cases x <;> cases e
theorem c_ix (ha : PE X a (TEx G W da)) (hb : PE X b (TEx G W db)) (hs : PlainIx b := by exact fun _ _ => rfl) : PE X (.Subscript a b pos) (TEx G W (e2 ixD da db)) := by
  refine PEw (pe_ix ix_seq ha hb hs) fun σ H Q h => ?_
  obtain ⟨rho, mu, m, Own, S, h⟩ := h.un
  refine TEx.to S (wp_bnd h) fun x mu1 v1 H1 m1 h1 g1 S1 r1 => TEx.to S1 (wp_step g1 (wp_bnd h1)) fun y mu2 v2 H2 m2 h2 g2 S2 r2 => ?_
  obtain ⟨z, e, q⟩ := wp_opt h2
  exact ix_read e (r1.mono (g2.le _)) r2 fun w r => q w H2 m2 (g1.trans g2) S2 r
/-- x[i] of a list that is being filled -/
def eIxO (i : Nat) (e : EvD) : EvD := fun rho mu => match rho[i]? with
  | some (.own xs) => bnd (e rho mu) fun y mu1 => opt (ixD (.lst xs) y) mu1
  | some (.val d) => bnd (e rho mu) fun y mu1 => opt (ixD d y) mu1
  | _ => .bad
theorem own_at {rho : Ev} {mu : Mem} {σ : L2.St} {H : Hp} {m : List Addr} {Own : Addr → Prop} (S : StR G rho mu σ H m Own) {i : Nat} {xs : List Da} (e : rho[i]? = some (.own xs)) :
    ∃ p us, σ[i]? = some (some (.ref p)) ∧ p ∉ m ∧ Own p ∧ H p = some (.lst us) ∧ RDs m (G.bar Own) H xs us := by
  obtain ⟨o, q, p, us, e1, e2, e3, e4⟩ := paired_get S.sl e
  subst e1
  exact ⟨p, us, q, fun z => S.wd.dis p z (.inr e2), e2, e3, e4⟩
theorem c_ixO {i : Nat} (ha : PE X a (tVar i)) (hb : PE X b (TEx G W db)) (hs : PlainIx b := by exact fun _ _ => rfl) : PE X (.Subscript a b pos) (TEx G W (eIxO i db)) := by
  refine PEw (pe_ix ix_seq ha hb hs) fun σ H Q h => ?_
  obtain ⟨rho, mu, m, Own, S, h⟩ := h.un
  unfold eIxO at h
  cases e : rho[i]? with
  | none => rw [e] at h; exact h.elim
  | some s =>
    rw [e] at h
    cases s with
    | un => exact h.elim
    | val d =>
      obtain ⟨v, ev, rv⟩ := S.var e
      refine ⟨v, ev, TEx.to S (wp_bnd h) fun y mu2 v2 H2 m2 h2 g2 S2 r2 => ?_⟩
      obtain ⟨z, e, q⟩ := wp_opt h2
      exact ix_read e (rv.mono (g2.le _)) r2 fun w r => q w H2 m2 g2 S2 r
    | own xs =>
      obtain ⟨p, us, ev, nm, op, hp, rl⟩ := own_at S e
      refine ⟨_, ev, TEx.to S (wp_bnd h) fun y mu2 v2 H2 m2 h2 g2 S2 r2 => ?_⟩
      obtain ⟨z, e, q⟩ := wp_opt h2
      cases y with
      | int k =>
        cases r2
        obtain ⟨w, e2, r⟩ := (RDs.mono (g2.le _) rl).atI e
        exact .inl ⟨_, _, k, w, rfl, rfl, SqL.of (g2.keep p _ hp nm id), e2, q w H2 m2 g2 S2 r⟩
      | _ => cases e
/-- len(x) of a list that is being filled -/
def eLenO (i : Nat) : EvD := fun rho mu => match rho[i]? with
  | some (.own xs) => .ok (.int xs.length) mu
  | some (.val d) => opt (lenD [d]) mu
  | _ => .bad
theorem c_lenO {i : Nat} {p : Pos} (hm : X.mg "len" = none) (ha : PE X a (tVar i)) (hg : Gl X "len" := by rfl) (hs : starEach [a] X.env = (false, eval a X.env) :: starEach [] X.env := by rfl) :
    PE X (.Call (.Name "len" p) [a] [] pos) (TEx G W (eLenO i)) := by
  refine PEw (pe_callB (call_len_seq.or call_len_str) hg hm PySem.boot_len (pa_cons ha pa_nil hs) (by decide) (by decide) hs) fun σ H Q h => ?_
  obtain ⟨rho, mu, m, Own, S, h⟩ := h.un
  unfold eLenO at h
  cases e : rho[i]? with
  | none => rw [e] at h; exact h.elim
  | some s =>
    rw [e] at h
    cases s with
    | un => exact h.elim
    | val d =>
      obtain ⟨v, ev, rv⟩ := S.var e
      obtain ⟨z, e, q⟩ := wp_opt h
      refine ⟨v, ev, ?_⟩
      cases d with
      | lst xs =>
        cases e
        cases rv with
        | lst a1 a2 a3 a4 => exact .inl ⟨_, _, rfl, .inl (SqL.of a3), by rw [← a4.length]; exact q _ H m Lf.refl S (.int _)⟩
      | tup xs =>
        cases e
        cases rv with
        | tup a1 a2 a3 a4 => exact .inl ⟨_, _, rfl, .inr (SqT.of a3), by rw [← a4.length]; exact q _ H m Lf.refl S (.int _)⟩
      | str z2 =>
        cases rv
        obtain ⟨hz, e3⟩ := ite_inv (show (if z2.length ≤ sizeLine then some (Da.int z2.length) else none) = some z from e)
        subst e3
        exact .inr ⟨z2, rfl, hz, q _ H m Lf.refl S (.int _)⟩
      | _ => cases e
    | own xs =>
      obtain ⟨p, us, ev, nm, op, hp, rl⟩ := own_at S e
      exact ⟨_, ev, .inl ⟨p, us, rfl, .inl (SqL.of hp), by rw [← rl.length]; exact h _ H m Lf.refl S (.int _)⟩⟩

/-! ### slices -/
abbrev EvO := Ev → Mem → Out (Option Int)
def oN : EvO := fun _ mu => .ok none mu
def oS (e : EvD) : EvO := fun rho mu => bnd (e rho mu) fun x mu1 => match x with
  | .int i => .ok (some i) mu1
  | _ => .bad
def cutDs (xs : List Da) (lo hi : Option Int) : List Da := (xs.drop (HT.sIx xs.length 0 lo)).take (HT.sIx xs.length xs.length hi - HT.sIx xs.length 0 lo)
def slD (x : Da) (lo hi : Option Int) : Option Da := match x with
  | .lst xs => some (.lst (cutDs xs lo hi))
  | .tup xs => some (.tup (cutDs xs lo hi))
  | .str z => if z.length ≤ sizeLine then some (.str (cutS z lo hi)) else none
  | _ => none
def eSl (a : EvD) (lo hi : EvO) : EvD := fun rho mu => bnd (a rho mu) fun x mu1 => bnd (lo rho mu1) fun l mu2 => bnd (hi rho mu2) fun h mu3 => opt (slD x l h) mu3
def TOx (G : Fr) (W : WX) (d : EvO) : TO := fun σ H Q => ∃ rho mu m Own, StR G rho mu σ H m Own ∧ (d rho mu).wp (fun o mu' => ∀ H' m', Lf m H m' H' → StR G rho mu' σ H' m' Own → Q o H') (ES G W rho σ Own m H)
theorem POw {e : Option Expr} {t t' : TO} (h : PO X e t) (w : ∀ σ H Q, t' σ H Q → t σ H Q) : PO X e t' := ⟨fun pins s σ H Q I q => h.run pins s σ H Q I (w σ H Q q)⟩
theorem o_none : PO X none (TOx G W oN) := POw po_none fun σ H Q ⟨rho, mu, m, Own, S, h⟩ => h H m Lf.refl S
theorem o_some {e : Expr} {d : EvD} (h : PE X e (TEx G W d)) : PO X (some e) (TOx G W (oS d)) := by
  refine POw (po_some h) fun σ H Q ⟨rho, mu, m, Own, S, h⟩ => TEx.to S (wp_bnd h) fun x mu1 v1 H1 m1 h1 g1 S1 r1 => ?_
  cases x with
  | int i =>
    cases r1
    exact ⟨i, rfl, h1 H1 m1 g1 S1⟩
  | _ => exact h1.elim
theorem cut_rd {m : List Addr} {B : Addr → Prop} {H : Hp} {xs : List Da} {us : List V} (r : RDs m B H xs us) (lo hi : Option Int) : RDs m B H (cutDs xs lo hi) (cutV us lo hi) := by
  unfold cutDs cutV
  rw [r.length]
  exact RDs.take _ (RDs.drop _ r)
theorem c_sl {lo hi : Option Expr} {dl dh : EvO} {p2 : Pos} (ha : PE X a (TEx G W da)) (hl : PO X lo (TOx G W dl)) (hh : PO X hi (TOx G W dh)) : PE X (.Subscript a (.Slice lo hi none p2) pos) (TEx G W (eSl da dl dh)) := by
  refine PEw (pe_slice (sl_list.or (sl_tupA.or sl_str)) ha hl hh) fun σ H Q h => ?_
  obtain ⟨rho, mu, m, Own, S, h⟩ := h.un
  refine TEx.to S (wp_bnd h) fun x mu1 v1 H1 m1 h1 g1 S1 r1 => ⟨rho, mu1, m1, Own, S1, wp_and (wp_step g1 (wp_bnd h1)) fun l mu2 h2 H2 m2 g2 S2 => ⟨rho, mu2, m2, Own, S2, wp_and (wp_step (g1.trans g2) (wp_bnd h2)) fun u mu3 h3 H3 m3 g3 S3 => ?_⟩⟩
  obtain ⟨z, e, q⟩ := wp_opt h3
  have gg := g1.trans (g2.trans g3)
  have rx := r1.mono (Lf.le (g2.trans g3) _)
  cases x with
  | lst xs =>
    cases e
    cases rx with
    | lst a1 a2 a3 a4 => exact .inl ⟨_, _, rfl, SqL.of a3, fun p hp => q _ _ m3 (gg.trans (Lf.of_same (same_upd hp))) (S3.same (same_upd hp)) (RD.new_lst (cut_rd a4 l u) hp (S3.fresh hp).1 (S3.fresh hp).2)⟩
  | tup xs =>
    cases e
    cases rx with
    | tup a1 a2 a3 a4 =>
      refine .inr (.inl ⟨_, _, rfl, SqT.of a3, fun ⟨w1, w2⟩ => ?_, fun _ p hp => q _ _ m3 (gg.trans (Lf.of_same (same_upd hp))) (S3.same (same_upd hp)) (RD.new_tup (cut_rd a4 l u) hp (S3.fresh hp).1 (S3.fresh hp).2)⟩)
      have ew : cutDs xs l u = xs := by
        unfold cutDs
        rw [a4.length, w1, w2, List.drop_zero, Nat.sub_zero, ← a4.length, List.take_length]
      rw [ew] at q
      exact q _ H3 m3 gg S3 (.tup a1 a2 a3 a4)
  | str s =>
    obtain ⟨hz, e3⟩ := ite_inv (show (if s.length ≤ sizeLine then some (Da.str (cutS s l u)) else none) = some z from e)
    subst e3
    cases rx
    exact .inr (.inr ⟨s, rfl, hz, q _ H3 m3 gg S3 (.str _)⟩)
  | _ => cases e

/-! ### a op b op c -/
def eCh (f g : Da → Da → Option Da) (a b c : EvD) : EvD := fun rho mu => bnd (a rho mu) fun x mu1 => bnd (b rho mu1) fun y mu2 => match f x y with
  | some (.bl true) => bnd (c rho mu2) fun z mu3 => opt (g y z) mu3
  | some (.bl false) => .ok (.bl false) mu2
  | _ => .bad
theorem chain_read {r r' : R2} {f g : Da → Da → Option Da} {dc : EvD} {σ : L2.St} {H : Hp} {Q : VK} {rho : Ev} {mu : Mem} {m : List Addr} {Own : Addr → Prop}
    (k : ∀ (m : List Addr) (B : Addr → Prop) (H : Hp) (x y z : Da) (a b : V) (Q : VK), f x y = some z → RD m B H x a → RD m B H y b → (∀ p, H p = none → p ∉ m ∧ ¬ B p) → (∀ v H', Same H H' → RD m B H' z v → Q v H') → r a b H Q)
    (k' : ∀ (m : List Addr) (B : Addr → Prop) (H : Hp) (x y z : Da) (a b : V) (Q : VK), g x y = some z → RD m B H x a → RD m B H y b → (∀ p, H p = none → p ∉ m ∧ ¬ B p) → (∀ v H', Same H H' → RD m B H' z v → Q v H') → r' a b H Q)
    (S : StR G rho mu σ H m Own) (h : (eCh f g da db dc rho mu).wp (QE G rho σ Own m H Q) (ES G W rho σ Own m H)) : tChain r r' (TEx G W da) (TEx G W db) (TEx G W dc) σ H Q := by
  refine TEx.to S (wp_bnd h) fun x mu1 v1 H1 m1 h1 g1 S1 r1 => TEx.to S1 (wp_step g1 (wp_bnd h1)) fun y mu2 v2 H2 m2 h2 g2 S2 r2 => ?_
  cases e : f x y with
  | none => rw [e] at h2; exact h2.elim
  | some z =>
    rw [e] at h2
    refine k m2 _ H2 x y z v1 v2 _ e (r1.mono (g2.le _)) r2 (fun p hp => S2.fresh hp) fun v H3 sm rz => ?_
    cases z with
    | bl t =>
      cases rz
      refine ⟨t, rfl, ?_⟩
      have S3 := S2.same sm
      have l3 : Lf m2 H2 m2 H3 := Lf.of_same sm
      cases t with
      | false => exact h2 _ H3 m2 (g1.trans (g2.trans l3)) S3 (.bl _)
      | true =>
        rw [if_pos rfl]
        refine TEx.to S3 (wp_step (g1.trans (g2.trans l3)) (wp_bnd h2)) fun w mu4 v4 H4 m4 h4 g4 S4 r4 => ?_
        obtain ⟨zz, e4, q⟩ := wp_opt h4
        exact k' m4 _ H4 y w zz v2 v4 Q e4 (r2.mono (Lf.le (l3.trans g4) _)) r4 (fun p hp => S4.fresh hp) fun v H' sm' rd => q v H' m4 (g1.trans (g2.trans (l3.trans (g4.trans (Lf.of_same sm'))))) (S4.same sm') rd
    | _ => exact h2.elim
theorem c_chain {c : Expr} {dc : EvD} {op op' : CmpOp} {f g : Da → Da → Option Da} (ho : OpD X (compareOp op) f) (ho' : OpD X (compareOp op') g) (ha : PE X a (TEx G W da)) (hb : PE X b (TEx G W db)) (hc : PE X c (TEx G W dc)) (hm : lastMarks [op, op'] [b, c] = false := by with_unfolding_all rfl) :
    PE X (.Compare a [op, op'] [b, c] pos) (TEx G W (eCh f g da db dc)) := by
  obtain ⟨r, hr, k⟩ := ho
  obtain ⟨r', hr', k'⟩ := ho'
  refine PEw (pe_chain hr hr' ha hb hc hm) fun σ H Q h => ?_
  obtain ⟨rho, mu, m, Own, S, h⟩ := h.un
  exact chain_read k k' S h
theorem c_tchain {c : Expr} {dc : EvD} {op op' : CmpOp} {f g : Da → Da → Option Da} (ho : OpD X (compareOp op) f) (ho' : OpD X (compareOp op') g) (ha : PE X a (TEx G W da)) (hb : PE X b (TEx G W db)) (hc : PE X c (TEx G W dc)) (hm : lastMarks [op, op'] [b, c] = false := by with_unfolding_all rfl) :
    PT X (.Compare a [op, op'] [b, c] pos) (TTx G W (tV (eCh f g da db dc))) := by
  obtain ⟨r, hr, k⟩ := ho
  obtain ⟨r', hr', k'⟩ := ho'
  refine PTw (pt_chain hr hr' ha hb hc hm) fun σ H Q h => ?_
  obtain ⟨rho, mu, m, Own, S, h⟩ := h.un
  refine chain_read (Q := fun x H' => ∃ k, x = .bl k ∧ Q k H') k k' S (wp_and (wp_bnd h) fun x mu1 h1 => ?_)
  intro v H' m' g S' r1
  cases x with
  | bl t =>
    cases r1
    exact ⟨t, rfl, h1 H' m' g S'⟩
  | _ => exact h1.elim

/-! ### lists that are being filled -/
/-- x = [..], x to be filled further -/
def sOwn (i : Nat) (r : Ev → Mem → Out (List Da)) : StD := fun rho mu => sUse (r rho mu) rho fun xs mu' => .nx (rho.set i (.own xs)) mu'
def sApp (i : Nat) (e : EvD) : StD := fun rho mu => match rho[i]? with
  | some (.own xs) => if xs.length < sizeLine then sUse (e rho mu) rho fun d mu' => .nx (rho.set i (.own (xs ++ [d]))) mu' else .bad
  | _ => .bad
def frz (i : Nat) (rho : Ev) : Ev := match rho[i]? with
  | some (.own xs) => rho.set i (.val (.lst xs))
  | _ => rho
def sFrz (i : Nat) (b : StD) : StD := fun rho mu => b (frz i rho) mu
theorem s_own {es : List Expr} {i : Nat} {x : Str} {pl : Pos} {r : Ev → Mem → Out (List Da)} (h : PA X es (TAx G W r)) (hz : es.length ≤ sizeLine) (hl : ∀ rho mu xs mu', r rho mu = .ok xs mu' → xs.length = es.length) (hN : X.N.Nodup) (hi : X.N[i]? = some x := by rfl)
    (hx : Loc X.env.scope x := by first | exact Or.inl rfl | exact Or.inr rfl) (hs : swapsWith (.List es pl) (some (.Name x pos')) pos.line X.env = pure false := by rfl) (hf : X.fn x = true ∨ X.env.scope.names.lookup x = some .local := by first | exact .inl rfl | exact .inr rfl) :
    PS X (.Assign [.Name x pos'] (.List es pl) pos) (TSx G W (sOwn i r)) := by
  refine PSw (ps_set hN hi hx (pe_lst h) hs hf) fun D σ H ⟨rho, mu, m, Own, S, h⟩ => ?_
  have e0 := hl rho mu
  refine TAx.to (A := fun z mu1 => SOk G W D m Own H (.nx (rho.set i (.own z)) mu1) ∧ z.length = es.length) S ?_ fun xs mu1 vs H1 m1 ⟨h1, hlen⟩ g1 S1 r1 => ⟨by rw [← r1.length, hlen]; exact hz, fun p hp => ?_⟩
  · have h' := use_wp (σ := σ) h
    cases e : r rho mu with
    | ok z mu1 => rw [e] at h'; exact ⟨h', e0 _ _ e⟩
    | exc x mu1 => rw [e] at h'; exact h'
    | bad => rw [e] at h'; exact h'
  · obtain ⟨S2, g2⟩ := S1.seto i r1 hp
    exact h1 _ _ m1 _ ((g1.le _).trans g2) S2
theorem s_app {i : Nat} {o e : Expr} {apos cpos : Pos} {d : EvD} (ho : PE X o (tVar i)) (he : PE X e (TEx G W d)) (hs : swapsWith (.Call (.Attribute o "append" apos) [e] [] cpos) none pos.line X.env = pure false := by rfl) (hbase : attributeBase o "append" X.env (eval o X.env) = eval o X.env := by rfl)
    (hfew : ((backTo cpos (starEach [e] X.env)).all (fun x => !x.1) && (backToKw cpos (keywordEach [] X.env)).all (fun x => x.1.isSome) && decide ([e].length + ([] : List Keyword).length + (if ([] : List Keyword).isEmpty then 0 else 1) < 30)) = true := by rfl)
    (hline : (apos.endLine == cpos.line) = true := by rfl) (hst : starEach [e] X.env = (false, eval e X.env) :: starEach [] X.env := by rfl) (hpl : (backTo cpos (starEach [] X.env)).any (·.1) = false := by rfl) :
    PS X (.Expr (.Call (.Attribute o "append" apos) [e] [] cpos) pos) (TSx G W (sApp i d)) := by
  refine PSw (ps_expr (pe_bm PySem.F.plainAttrs_list PySem.F.slot_list_append PySem.F.type_list_append mt_append ho (pa_cons he pa_nil hst) hbase hfew hline hst hpl) hs) fun D σ H ⟨rho, mu, m, Own, S, h⟩ => ?_
  unfold sApp at h
  cases e1 : rho[i]? with
  | none => rw [e1] at h; exact h.elim
  | some s =>
    rw [e1] at h
    cases s with
    | un => exact h.elim
    | val _ => exact h.elim
    | own xs =>
      obtain ⟨p, us, ev, nm, op, hp, rl⟩ := own_at S e1
      by_cases hz : xs.length < sizeLine
      · simp only [if_pos hz] at h
        refine ⟨_, ev, .inl ⟨rfl, _, SqL.of hp⟩, TEx.to S (use_wp (σ := σ) h) fun z mu2 v H2 m2 h2 g2 S2 r2 => ?_⟩
        have hp2 : H2 p = some (.lst us) := g2.keep p _ hp nm id
        refine ⟨p, us, v, rfl, rfl, hp2, by rw [← rl.length]; exact hz, ?_⟩
        obtain ⟨S3, g3⟩ := S2.fill (us := us) e1 ev ((RDs.mono (g2.le _) rl).append (.cons r2 .nil))
        exact h2 σ _ m2 Own ((g2.le _).trans g3) S3
      · simp only [if_neg hz] at h
        exact h.elim
theorem StR.frz {rho : Ev} {mu : Mem} {σ : L2.St} {H : Hp} {m : List Addr} {Own : Addr → Prop} (S : StR G rho mu σ H m Own) (i : Nat) : ∃ Own', StR G (frz i rho) mu σ H m Own' ∧ Le m (G.bar Own) H m (G.bar Own') H := by
  unfold Sk.frz
  cases e : rho[i]? with
  | none => exact ⟨Own, S, Le.refl⟩
  | some s =>
    cases s with
    | un => exact ⟨Own, S, Le.refl⟩
    | val _ => exact ⟨Own, S, Le.refl⟩
    | own xs =>
      obtain ⟨p, us, ev, nm, op, hp, rl⟩ := own_at S e
      have lb : ∀ a, G.bar (fun a => Own a ∧ a ≠ p) a → G.bar Own a := fun a z => z.elim .inl fun q => .inr q.1
      have g : Le m (G.bar Own) H m (G.bar (fun a => Own a ∧ a ≠ p)) H := Le.less lb
      refine ⟨fun a => Own a ∧ a ≠ p, ⟨S.le, S.wd.less lb, ?_, fun a z => S.ow a z.1, ?_⟩, g⟩
      · have all : ∀ {r : Ev} {s : L2.St} (k : Nat), Paired (fun (s : Sl) (o : Option V) => SlR m (G.bar Own) H Own s o) r s → (∀ (j : Nat) (zs : List Da), r[j]? = some (Sl.own zs) → j ≠ k → s[j]? ≠ some (some (V.ref p))) →
            (∀ o, s[k]? = some o → o = some (V.ref p)) → Paired (fun (s : Sl) (u : Option V) => SlR m (G.bar (fun a => Own a ∧ a ≠ p)) H (fun a => Own a ∧ a ≠ p) s u) (r.set k (.val (.lst xs))) s := by
          intro r s k h
          induction h generalizing k with
          | nil => intro _ _; exact .nil
          | @cons x u r s h t ih =>
            intro hn hk
            cases k with
            | zero =>
              refine .cons ⟨.ref p, hk u rfl, .lst nm (fun z => z.elim (S.ow p op).2 fun q => q.2 rfl) hp (RDs.mono g rl)⟩ ?_
              have := ih (r.length + s.length) (fun j zs e hj => hn (j + 1) zs e (Nat.succ_ne_zero j)) (fun o e => by
                have := (List.getElem?_eq_some_iff.mp e).1
                omega)
              rw [List.set_eq_of_length_le (by omega)] at this
              exact this
            | succ k =>
              refine .cons ?_ (ih k (fun j zs e hj => hn (j + 1) zs e (fun z => hj (Nat.succ.inj z))) fun o e => hk o e)
              cases x with
              | un => trivial
              | val d => obtain ⟨v, e, r⟩ := h; exact ⟨v, e, r.mono g⟩
              | own ys =>
                obtain ⟨a, us, e1, e2, e3, e4⟩ := h
                exact ⟨a, us, e1, ⟨e2, fun z => hn 0 ys rfl (Nat.zero_ne_add_one k) (by rw [← z]; exact congrArg some e1)⟩, e3, RDs.mono g e4⟩
        exact all i S.sl (fun j zs e' hj e2 => S.dj i j p xs zs (Ne.symm hj) e e' ev e2) fun o e => by rw [ev] at e; exact (Option.some.inj e).symm
      · intro a b c zs ws hab e1 e2
        have f : ∀ (j : Nat) (zs : List Da), (rho.set i (.val (.lst xs)))[j]? = some (Sl.own zs) → rho[j]? = some (Sl.own zs) := by
          intro j zs e
          by_cases hj : i = j
          · subst hj
            rw [List.getElem?_set_self'] at e
            cases q : rho[i]? with
            | none => rw [q] at e; cases e
            | some s => rw [q] at e; cases e
          · rw [List.getElem?_set_ne hj] at e; exact e
        exact S.dj a b c zs ws hab (f a zs e1) (f b ws e2)
theorem s_frz {sts : List Stmt} {d : StD} (i : Nat) (h : PSs X sts (TSx G W d)) : PSs X sts (TSx G W (sFrz i d)) := PSsw h fun D σ H ⟨rho, mu, m, Own, S, q⟩ => by
  obtain ⟨Own', S', g⟩ := S.frz i
  exact tsx_mk S' (SOk.step g q)
end
end Sk

/-! Sk J: numbered dicts, several stores at once, repr, isinstance. -/
namespace Sk
open PySem PySem.Spec L2

/-! ### tables by names -/
def dLook (k : Str) : List (Str × Da) → Option Da
  | [] => none
  | p :: r => if p.1 = k then some p.2 else dLook k r
def dPut (k : Str) (d : Da) : List (Str × Da) → List (Str × Da)
  | [] => [(k, d)]
  | p :: r => if p.1 = k then (p.1, d) :: r else p :: dPut k d r
section
variable {m : List Addr} {B : Addr → Prop} {H : Hp}
abbrev RK (m : List Addr) (B : Addr → Prop) (H : Hp) : List (Str × Da) → List (Key × V) → Prop := Paired (fun (p : Str × Da) (q : Key × V) => q.1 = .inr p.1 ∧ RD m B H p.2 q.2)
theorem RK.look {k : Str} : ∀ {kvs : List (Str × Da)} {us : List (Key × V)} {d : Da}, RK m B H kvs us → dLook k kvs = some d → ∃ v, valV us (.inr k) = some v ∧ RD m B H d v
  | _, _, _, .nil, e => by cases e
  | _, _, d, .cons (a := p) (b := q) h t, e => by
    unfold dLook at e
    by_cases hk : p.1 = k
    · rw [if_pos hk] at e
      cases e
      exact ⟨q.2, valV_pos (by rw [h.1, hk]), h.2⟩
    · rw [if_neg hk] at e
      obtain ⟨v, e2, r⟩ := RK.look t e
      exact ⟨v, by rw [valV_neg (by rw [h.1]; exact fun z => hk (Sum.inr.inj z))]; exact e2, r⟩
theorem putK_cons_ne {p : Key × V} {r : List (Key × V)} {k : Key} {v : V} (h : ¬ p.1 = k) : putK (p :: r) k v = p :: putK r k v := by
  unfold putK
  rw [List.any_cons, decide_eq_false h, Bool.false_or]
  split
  · rw [List.map_cons, if_neg h]
  · rfl
/-- no key twice -/
theorem map_other {k : Str} {v : V} : ∀ {kvs : List (Str × Da)} {us : List (Key × V)}, RK m B H kvs us → k ∉ kvs.map (·.1) → us.map (fun kv => if kv.1 = .inr k then (kv.1, v) else kv) = us
  | _, _, .nil, _ => rfl
  | _, _, .cons (a := p) (b := q) h t, e => by
    rw [List.map_cons, List.mem_cons, not_or] at e
    rw [List.map_cons, map_other t e.2, if_neg (by rw [h.1]; exact fun z => e.1 (Sum.inr.inj z).symm)]
theorem RK.put {k : Str} {d : Da} {v : V} (r : RD m B H d v) : ∀ {kvs : List (Str × Da)} {us : List (Key × V)}, RK m B H kvs us → (kvs.map (·.1)).Nodup → RK m B H (dPut k d kvs) (putK us (.inr k) v)
  | _, _, .nil, _ => .cons ⟨rfl, r⟩ .nil
  | _, _, .cons (a := p) (b := q) (l₂ := us') h t, nd => by
    rw [List.map_cons, List.nodup_cons] at nd
    unfold dPut
    by_cases hk : p.1 = k
    · rw [if_pos hk]
      subst hk
      have e : putK (q :: us') (.inr p.1) v = (q.1, v) :: us' := by
        unfold putK
        rw [List.any_cons, decide_eq_true h.1, Bool.true_or, if_pos rfl, List.map_cons, if_pos h.1, map_other t nd.1]
      rw [e]
      exact .cons ⟨h.1, r⟩ t
    · rw [if_neg hk, putK_cons_ne (by rw [h.1]; exact fun z => hk (Sum.inr.inj z))]
      exact .cons h (RK.put r t nd.2)
theorem dPut_len {k : Str} {d : Da} : ∀ {kvs : List (Str × Da)}, (dPut k d kvs).length ≤ kvs.length + 1
  | [] => by simp [dPut]
  | p :: r => by
    unfold dPut
    split
    · simp
    · have := dPut_len (k := k) (d := d) (kvs := r)
      simp only [List.length_cons]
      omega
end
section
variable {G : Fr} {W : WX} {rho : Ev} {mu : Mem} {σ : L2.St} {H H' : Hp} {m : List Addr} {Own : Addr → Prop}
theorem StR.num (S : StR G rho mu σ H m Own) {n : Nat} {a : Addr} {o : Ob} (h1 : m[n]? = some a) (h2 : mu[n]? = some o) : ObR G.K m (G.bar Own) H a o := by
  obtain ⟨y, e, r⟩ := paired_get S.wd.ob h1
  rw [h2] at e
  cases e
  exact r
/-- a numbered thing becomes another one -/
theorem StR.numset (S : StR G rho mu σ H m Own) {n : Nat} {a : Addr} (h1 : m[n]? = some a) {o : HO} {ob : Ob} (hn : ∀ m' B', Le m (G.bar Own) H m' B' (upd H a o) → ObR G.K m' B' (upd H a o) a ob) :
    StR G rho (mu.set n ob) σ (upd H a o) m Own ∧ Lf m H m (upd H a o) := by
  have hm : a ∈ m := List.mem_of_getElem? h1
  have g : Lf m H m (upd H a o) := by
    refine ⟨⟨[], by simp, by simp⟩, fun b u e nb _ => by rw [upd_ne (fun (z : b = a) => nb (by rw [z]; exact hm))]; exact e, fun b e => ?_, fun _ z => .inl z⟩
    by_cases hb : b = a
    · subst hb; rw [upd_same] at e; cases e
    · rw [upd_ne hb] at e; exact e
  refine ⟨?_, g⟩
  have gb := g.le (G.bar Own)
  have wd' : Wd G.K m (G.bar Own) (upd H a o) (mu.set n ob) := by
    refine ⟨?_, S.wd.nd, S.wd.dis, fun b z => ?_⟩
    · have keep : Paired (fun (b : Addr) (u : Ob) => b ≠ a → ObR G.K m (G.bar Own) (upd H a o) b u) m mu := paired_imp (fun b u z hb => by
        cases u with
        | dct kvs => obtain ⟨us, e, p⟩ := z; exact ⟨us, by rw [upd_ne hb]; exact e, paired_imp (fun _ _ ⟨x, y⟩ => ⟨x, y.mono gb⟩) p⟩
        | ins c fs => obtain ⟨dx, us, e, p⟩ := z; exact ⟨dx, us, by rw [upd_ne hb]; exact e, paired_imp (fun _ _ ⟨x, y⟩ => ⟨x, y.mono gb⟩) p⟩
        | scr xs => obtain ⟨ob, us, e, r⟩ := z; exact ⟨ob, us, by rw [upd_ne hb]; exact e, RDs.mono gb r⟩
        | dead => obtain ⟨ob, e⟩ := z; exact ⟨ob, by rw [upd_ne hb]; exact e⟩) S.wd.ob
      have go : ∀ {l : List Addr} {k : Mem} (j : Nat), Paired (fun (b : Addr) (u : Ob) => b ≠ a → ObR G.K m (G.bar Own) (upd H a o) b u) l k → l.Nodup → l[j]? = some a → Paired (fun (b : Addr) (u : Ob) => ObR G.K m (G.bar Own) (upd H a o) b u) l (k.set j ob) := by
        intro l k j h
        induction h generalizing j with
        | nil => intro _ e; cases e
        | @cons b u l k h t ih =>
          intro nd e
          rw [List.nodup_cons] at nd
          cases j with
          | zero =>
            have eb : b = a := Option.some.inj e
            subst eb
            exact .cons (hn m _ gb) (paired_mem t fun x hx y z => z (fun q => nd.1 (q ▸ hx)))
          | succ j => exact .cons (h (fun q => nd.1 (by rw [q]; exact List.mem_of_getElem? e))) (ih j nd.2 e)
      exact go n keep S.wd.nd h1
    · obtain ⟨u, e⟩ := S.wd.dom b z
      exact ⟨u, by rw [upd_ne (fun (q : b = a) => S.wd.dis b (by rw [q]; exact hm) z)]; exact e⟩
  exact S.call g wd'
/-- a new numbered thing, which stood as the frame's own -/
theorem StR.numnew {p : Addr} (S : StR G rho mu σ H m (fun a => Own a ∨ a = p)) (hs : NoSlot rho σ p) (hp : G.H p = none) {o : HO} {ob : Ob} (hob : ¬ G.bar Own p)
    (hn : ObR G.K m (G.bar (fun a => Own a ∨ a = p)) (upd H p o) p ob) : StR G rho (mu ++ [ob]) σ (upd H p o) (m ++ [p]) Own := by
  obtain ⟨S1, g1⟩ := S.write o (.inr rfl) hs
  have S2 := S1.unbar hs
  have lb : ∀ a, G.bar Own a → G.bar (fun a => Own a ∨ a = p) a := fun a z => z.elim .inl fun q => .inr (.inl q)
  have nm : p ∉ m := fun z => S.wd.dis p z (.inr (.inr rfl))
  -- the data keep away from p
  have up : ∀ {d : Da} {v : V}, RD m (G.bar (fun a => Own a ∨ a = p)) (upd H p o) d v → RD (m ++ [p]) (G.bar Own) (upd H p o) d v := by
    have both : (∀ (d : Da) (v : V), RD m (G.bar (fun a => Own a ∨ a = p)) (upd H p o) d v → RD (m ++ [p]) (G.bar Own) (upd H p o) d v) ∧ (∀ (d : List Da) (v : List V), RDs m (G.bar (fun a => Own a ∨ a = p)) (upd H p o) d v → RDs (m ++ [p]) (G.bar Own) (upd H p o) d v) := by
      have ne : ∀ {a : Addr}, a ∉ m → ¬ G.bar (fun a => Own a ∨ a = p) a → a ∉ m ++ [p] ∧ ¬ G.bar Own a := fun {a} h1 h2 => ⟨fun z => (List.mem_append.mp z).elim h1 fun q => h2 (.inr (.inr (by simpa using q))), fun z => h2 (lb a z)⟩
      constructor
      · intro d v h
        exact RD.rec (motive_1 := fun d v _ => RD (m ++ [p]) (G.bar Own) (upd H p o) d v) (motive_2 := fun d v _ => RDs (m ++ [p]) (G.bar Own) (upd H p o) d v) .non .bl .int .str
          (fun h1 h2 h3 _ ih => .tup (ne h1 h2).1 (ne h1 h2).2 h3 ih) (fun h1 h2 h3 _ ih => .lst (ne h1 h2).1 (ne h1 h2).2 h3 ih) (fun h => .ref (by rw [List.getElem?_append_left (List.getElem?_eq_some_iff.mp h).1]; exact h)) .nil (fun _ _ a b => .cons a b) h
      · intro d v h
        exact RDs.rec (motive_1 := fun d v _ => RD (m ++ [p]) (G.bar Own) (upd H p o) d v) (motive_2 := fun d v _ => RDs (m ++ [p]) (G.bar Own) (upd H p o) d v) .non .bl .int .str
          (fun h1 h2 h3 _ ih => .tup (ne h1 h2).1 (ne h1 h2).2 h3 ih) (fun h1 h2 h3 _ ih => .lst (ne h1 h2).1 (ne h1 h2).2 h3 ih) (fun h => .ref (by rw [List.getElem?_append_left (List.getElem?_eq_some_iff.mp h).1]; exact h)) .nil (fun _ _ a b => .cons a b) h
    exact fun {d v} h => both.1 d v h
  have ups : ∀ {d : List Da} {v : List V}, RDs m (G.bar (fun a => Own a ∨ a = p)) (upd H p o) d v → RDs (m ++ [p]) (G.bar Own) (upd H p o) d v := by
    intro d
    induction d with
    | nil => intro v h; cases h; exact .nil
    | cons d ds ih => intro v h; cases h with | cons a b => exact .cons (up a) (ih b)
  have upo : ∀ {a : Addr} {u : Ob}, ObR G.K m (G.bar (fun a => Own a ∨ a = p)) (upd H p o) a u → ObR G.K (m ++ [p]) (G.bar Own) (upd H p o) a u := by
    intro a u z
    cases u with
    | dct kvs => obtain ⟨us, e, q⟩ := z; exact ⟨us, e, paired_imp (fun _ _ ⟨x, y⟩ => ⟨x, up y⟩) q⟩
    | ins c fs => obtain ⟨dx, us, e, q⟩ := z; exact ⟨dx, us, e, paired_imp (fun _ _ ⟨x, y⟩ => ⟨x, up y⟩) q⟩
    | scr xs => obtain ⟨ob, us, e, r⟩ := z; exact ⟨ob, us, e, ups r⟩
    | dead => exact z
  refine ⟨?_, ⟨?_, ?_, ?_, S2.wd.dom⟩, ?_, S2.ow, S2.dj⟩
  · obtain ⟨t, e, ht⟩ := S2.le.pre
    refine ⟨⟨t ++ [p], by rw [e, List.append_assoc], fun a z => ?_⟩, fun a u e n1 n2 => S2.le.keep a u e n1 n2, S2.le.dom, S2.le.op⟩
    rcases List.mem_append.mp z with z | z
    · exact ht a z
    · rw [show a = p by simpa using z]; exact hp
  · have app : ∀ {l : List Addr} {k : Mem}, Paired (fun (b : Addr) (u : Ob) => ObR G.K m (G.bar (fun a => Own a ∨ a = p)) (upd H p o) b u) l k → Paired (fun (b : Addr) (u : Ob) => ObR G.K (m ++ [p]) (G.bar Own) (upd H p o) b u) (l ++ [p]) (k ++ [ob]) := by
      intro l k h
      induction h with
      | nil => exact .cons (upo hn) .nil
      | cons h t ih => exact .cons (upo h) ih
    exact app S1.wd.ob
  · rw [List.nodup_append]
    exact ⟨S.wd.nd, by simp, fun a ha b hb => by
      rw [show b = p by simpa using hb]
      exact fun z => nm (z ▸ ha)⟩
  · intro a ha z
    rcases List.mem_append.mp ha with ha | ha
    · exact S2.wd.dis a ha z
    · rw [show a = p by simpa using ha] at z
      exact hob z
  · have all : ∀ {r : Ev} {s : L2.St}, Paired (fun (s : Sl) (o' : Option V) => SlR m (G.bar (fun a => Own a ∨ a = p)) (upd H p o) (fun a => Own a ∨ a = p) s o') r s → (∀ (i : Nat) (xs : List Da), r[i]? = some (Sl.own xs) → s[i]? ≠ some (some (V.ref p))) →
        Paired (fun (s : Sl) (u : Option V) => SlR (m ++ [p]) (G.bar Own) (upd H p o) Own s u) r s := by
      intro r s h
      induction h with
      | nil => intro _; exact .nil
      | @cons x u r s h t ih =>
        intro hn
        refine .cons ?_ (ih fun i xs e => hn (i + 1) xs e)
        cases x with
        | un => trivial
        | val d => obtain ⟨v, e, r⟩ := h; exact ⟨v, e, up r⟩
        | own xs =>
          obtain ⟨a, us, e1, e2, e3, e4⟩ := h
          refine ⟨a, us, e1, e2.elim id fun z => absurd (congrArg some e1) ?_, e3, ups e4⟩
          have q := hn 0 xs rfl
          rw [← z] at q
          exact q
    exact all S1.sl hs
end

section
variable {X : Cx} {G : Fr} {W : WX} {pos pos' : Pos} {a b e : Expr} {da db : EvD}
/-- d[k] of a numbered dict -/
def eDGet (a : EvD) (k : Str) : EvD := fun rho mu => bnd (a rho mu) fun x mu1 => match x with
  | .ref n => (match mu1[n]? with
    | some (.dct kvs) => opt (dLook k kvs) mu1
    | _ => .bad)
  | _ => .bad
theorem c_dget {k : Str} {j : Nat} {kp : Pos} {lv : Nat} (hr : Rm lv X.A) (ha : PE X a (TEx G W da)) (hs : NoSl (.Constant (.str k) j kp) := by exact fun _ _ => rfl) : PE X (.Subscript a (.Constant (.str k) j kp) pos) (TEx G W (eDGet da k)) := by
  refine PEw (pe_dget (hu_of hr.r) ha pe_str hs) fun σ H Q h => ?_
  obtain ⟨rho, mu, m, Own, S, h⟩ := h.un
  refine TEx.to S (wp_bnd h) fun x mu1 v1 H1 m1 h1 g1 S1 r1 => ?_
  cases x with
  | ref n =>
    cases r1 with
    | ref hn =>
      dsimp only at h1
      cases eo : mu1[n]? with
      | none => rw [eo] at h1; exact h1.elim
      | some o =>
        rw [eo] at h1
        cases o with
        | dct kvs =>
          obtain ⟨us, e, p⟩ := S1.num hn eo
          obtain ⟨d, ed, q⟩ := wp_opt h1
          obtain ⟨v, ev, rv⟩ := RK.look p ed
          refine ⟨_, v, rfl, ?_, q v H1 m1 g1 S1 rv⟩
          rw [← ev]
          exact DGet.k (k := Sum.inr k) e
        | _ => exact h1.elim
  | _ => exact h1.elim
def numput (n : Nat) (k : Str) (d : Da) (mu : Mem) : Option Mem := match mu[n]? with
  | some (.dct kvs) => if (kvs.map (·.1)).Nodup ∧ kvs.length < 1000 then some (mu.set n (.dct (dPut k d kvs))) else none
  | _ => none
/-- d[k] = v of a numbered dict -/
def sDSet (a : EvD) (k : Str) (v : EvD) : StD := fun rho mu => sUse (v rho mu) rho fun d mu1 => sUse (a rho mu1) rho fun x mu2 => match x with
  | .ref n => (match numput n k d mu2 with
    | some mu3 => .nx rho mu3
    | none => .bad)
  | _ => .bad
theorem put_step {rho : Ev} {mu mu3 : Mem} {σ : L2.St} {H : Hp} {m : List Addr} {Own : Addr → Prop} {n : Nat} {k : Str} {d : Da} {v : V} {ad : Addr} (S : StR G rho mu σ H m Own) (hn : m[n]? = some ad) (r : RD m (G.bar Own) H d v) (e : numput n k d mu = some mu3) :
    ∃ H', DPut H ad (.str k) v H' ∧ StR G rho mu3 σ H' m Own ∧ Lf m H m H' := by
  unfold numput at e
  cases eo : mu[n]? with
  | none => rw [eo] at e; cases e
  | some o =>
    rw [eo] at e
    cases o with
    | dct kvs =>
      obtain ⟨⟨nd, hl⟩, e2⟩ := ite_inv (show (if (kvs.map (·.1)).Nodup ∧ kvs.length < 1000 then some (mu.set n (.dct (dPut k d kvs))) else none) = some mu3 from e)
      subst e2
      obtain ⟨us, ea, p⟩ := S.num hn eo
      obtain ⟨S', g⟩ := S.numset (o := .dK (putK us (.inr k) v)) (ob := .dct (dPut k d kvs)) hn fun m' B' le => ⟨_, upd_same, RK.put (r.mono le) (paired_imp (fun _ _ ⟨x, y⟩ => ⟨x, y.mono le⟩) p) nd⟩
      exact ⟨_, DPut.k (k := Sum.inr k) ea (small1000 (by rw [← paired_len p]; omega)), S', g⟩
    | _ => cases e
theorem s_dset {k : Str} {j : Nat} {kp : Pos} {lv : Nat} (hr : Rm lv X.A) (ha : PE X a (TEx G W da)) (he : PE X e (TEx G W db)) (hs : swapsWith e (some (.Subscript a (.Constant (.str k) j kp) pos')) pos.line X.env = pure false := by rfl) :
    PS X (.Assign [.Subscript a (.Constant (.str k) j kp) pos'] e pos) (TSx G W (sDSet da k db)) := by
  refine PSw (ps_dput (hu_of hr.r) ha pe_str he hs) fun D σ H ⟨rho, mu, m, Own, S, h⟩ => ?_
  refine TEx.to S (use_wp (σ := σ) h) fun z mu1 v H1 m1 h1 g1 S1 r1 => TEx.to S1 (use_wp (σ := σ) (SOk.step (g1.le (G.bar Own)) h1)) fun x mu2 u H2 m2 h2 g2 S2 r2 => ?_
  cases x with
  | ref n =>
    cases r2 with
    | ref hn =>
      dsimp only at h2
      cases ep : numput n k z mu2 with
      | none => rw [ep] at h2; exact h2.elim
      | some mu3 =>
        rw [ep] at h2
        obtain ⟨H', dp, S', g⟩ := put_step S2 hn (r1.mono (g2.le _)) ep
        exact ⟨_, H', rfl, dp, h2 σ H' m2 Own (Lf.le (g2.trans g) _) S'⟩
  | _ => exact h2.elim

/-! ### {k: v, ..}: a new numbered dict -/
def eDisp (ks : List Str) (r : Ev → Mem → Out (List Da)) : EvD := fun rho mu => bnd (r rho mu) fun ds mu1 => .ok (.ref mu1.length) (mu1 ++ [.dct (ks.zip ds)])
/-- the values of a display, from the left -/
def tVals (r : Ev → Mem → Out (List Da)) (G : Fr) (W : WX) (ks : List Str) : L2.St → Hp → (List (V × V) → Hp → Prop) → Prop := fun σ H Q => TAx G W r σ H fun vs H1 => Q ((ks.map V.str).zip vs) H1
structure PDs (X : Cx) (G : Fr) (W : WX) (pos : Pos) (ks : List Str) (keys : List (Option Expr)) (values : List Expr) (r : Ev → Mem → Out (List Da)) : Prop where
  ex : ∃ trs, PPs X pos keys values trs ∧ ∀ σ H Q, tVals r G W ks σ H Q → tPairs trs σ H Q
  len : ∀ rho mu ds mu', r rho mu = .ok ds mu' → ds.length = ks.length
theorem d_nil : PDs X G W pos [] [] [] aN := ⟨⟨[], pps_nil, fun σ H Q ⟨rho, mu, m, Own, S, h⟩ => h [] H m Lf.refl S .nil⟩, fun _ _ _ _ h => by cases h; rfl⟩
theorem d_cons {k : Str} {j : Nat} {kp : Pos} {ks : List Str} {keys : List (Option Expr)} {values : List Expr} {r : Ev → Mem → Out (List Da)} (he : PE X e (TEx G W da)) (h : PDs X G W pos ks keys values r) : PDs X G W pos (k :: ks) (some (.Constant (.str k) j kp) :: keys) (e :: values) (aC da r) := by
  obtain ⟨⟨trs, hp, ht⟩, hl⟩ := h
  refine ⟨⟨_, pps_cons pe_str he hp, fun σ H Q q => ?_⟩, aC_len hl⟩
  obtain ⟨rho, mu, m, Own, S, q⟩ := TAx.un q
  refine TEx.to S (wp_bnd q) fun x mu1 v1 H1 m1 h1 g1 S1 r1 => ht σ H1 _ (TAx.to S1 (wp_step g1 (wp_bnd h1)) fun y mu2 v2 H2 m2 h2 g2 S2 r2 => ?_)
  exact h2 _ H2 m2 (g1.trans g2) S2 (.cons (r1.mono (g2.le _)) r2)
theorem mergeK_nodup : ∀ (kvs acc : List (Key × V)), ((acc ++ kvs).map (·.1)).Nodup → mergeK acc kvs = acc ++ kvs
  | [], acc, _ => by rw [List.append_nil]; rfl
  | p :: r, acc, h => by
    have key : putK acc p.1 p.2 = acc ++ [p] := by
      unfold putK
      rw [if_neg]
      intro z
      obtain ⟨x, hx, e⟩ := List.any_eq_true.mp z
      have e' := of_decide_eq_true e
      rw [List.map_append, List.nodup_append] at h
      exact h.2.2 x.1 (List.mem_map_of_mem hx) p.1 (by simp) e'
    show mergeK (putK acc p.1 p.2) r = _
    rw [key, mergeK_nodup r (acc ++ [p]) (by rw [List.append_assoc]; exact h), List.append_assoc]
    rfl
theorem c_disp {ks : List Str} {keys : List (Option Expr)} {values : List Expr} {r : Ev → Mem → Out (List Da)} (h : PDs X G W pos ks keys values r) (nd : ks.Nodup) (h15 : keys.length ≤ 15 := by decide) (hkl : ks.length ≤ 15 := by decide) (hall : keys.all (·.isSome) = true := by rfl) (hl : keys.length = values.length := by rfl) (h0 : keys ≠ [] := by exact fun z => nomatch z) :
    PE X (.Dict keys values pos) (TEx G W (eDisp ks r)) := by
  obtain ⟨⟨trs, hp, ht⟩, hlen⟩ := h
  refine PEw (pe_disp hp hall hl h0 h15) fun σ H Q h p hpn => ?_
  obtain ⟨rho, mu, m, Own, S, h⟩ := h.un
  obtain ⟨f1, f2⟩ := S.fresh hpn
  have ns := S.noslot hpn
  obtain ⟨S1, g1⟩ := S.bar1 (o := .dK []) hpn
  have back : ∀ x mu', ES G W rho σ Own m H x mu' → ES G W rho σ (fun a => Own a ∨ a = p) m (upd H p (.dK [])) x mu' := fun x mu' q c dd H' m' g2 S' xr =>
    q c dd H' m' ((Lf.of_same (same_upd hpn)).trans g2) (S'.unbar ns) (xr.less fun a z => z.elim .inl fun y => .inr (.inl y))
  have e0 := hlen rho mu
  refine ht σ _ _ (TAx.to (A := fun ds mu1 => QE G rho σ Own m H Q (.ref mu1.length) (mu1 ++ [.dct (ks.zip ds)]) ∧ ds.length = ks.length) S1 ?_ fun ds mu2 vs H2 m2 ⟨h2, hdl⟩ g2 S2 r2 => ?_)
  · have q := wp_bnd h
    cases er : r rho mu with
    | ok z mu1 => rw [er] at q; exact ⟨q, e0 _ _ er⟩
    | exc x mu1 => rw [er] at q; exact back x mu1 q
    | bad => rw [er] at q; exact q
  · have nm : p ∉ m := f1
    have hp2 : H2 p = some (.dK []) := g2.keep p _ upd_same nm id
    have hvl : vs.length = ks.length := by rw [← r2.length, hdl]
    have zipK : ∀ (ks : List Str) (vs : List V), ((ks.map V.str).zip vs) = (((ks.map Sum.inr : List Key).zip vs).map fun kv => (kV kv.1, kv.2)) := by
      intro ks
      induction ks with
      | nil => intro vs; rfl
      | cons k ks ih => intro vs; cases vs with | nil => rfl | cons v vs => rw [List.map_cons, List.zip_cons_cons, ih]; rfl
    have rk : ∀ {ks : List Str} {ds : List Da} {vs : List V} {m : List Addr} {B : Addr → Prop} {H : Hp}, RDs m B H ds vs → RK m B H (ks.zip ds) ((ks.map Sum.inr : List Key).zip vs) := by
      intro ks
      induction ks with
      | nil => intro ds vs m B H _; exact .nil
      | cons k ks ih => intro ds vs m B H r; cases r with | nil => exact .nil | cons a b => exact .cons ⟨rfl, a⟩ (ih b)
    have keys1 : ((ks.map Sum.inr : List Key).zip vs).map (·.1) = ks.map Sum.inr := List.map_fst_zip (by rw [List.length_map, hvl]; exact Nat.le_refl _)
    refine ⟨hp2, (ks.map Sum.inr : List Key).zip vs, zipK ks vs, by rw [List.length_zip, List.length_map]; omega, ?_⟩
    rw [mergeK_nodup _ [] (by
      rw [List.nil_append, keys1]
      exact List.Pairwise.map _ (fun a b hab z => hab (Sum.inr.inj z)) nd), List.nil_append]
    obtain ⟨S3w, g3w⟩ := S2.write (.dK ((ks.map Sum.inr : List Key).zip vs)) (.inr rfl) ns
    have S3 := S2.numnew (o := .dK ((ks.map Sum.inr : List Key).zip vs)) (ob := .dct (ks.zip ds)) ns (S.le.dom p hpn) f2 ⟨_, upd_same, rk (RDs.mono g3w r2)⟩
    have l0 : Lf m H m2 H2 := (Lf.of_same (same_upd hpn)).trans g2
    have l3 : Lf m H (m2 ++ [p]) (upd H2 p (.dK ((ks.map Sum.inr : List Key).zip vs))) := by
      obtain ⟨t, et, ht⟩ := l0.pre
      refine ⟨⟨t ++ [p], by rw [et, List.append_assoc], fun a z => ?_⟩, fun a u e n1 n2 => ?_, fun a e => l0.dom a (g3w.dom a e), fun a z => z.elim⟩
      · rcases List.mem_append.mp z with z | z
        · exact ht a z
        · rw [show a = p by simpa using z]; exact hpn
      · rw [upd_ne (fun (q : a = p) => by rw [q, hpn] at e; cases e)]
        exact l0.keep a u e n1 n2
    exact h2 _ _ _ l3 S3 (.ref (by
      rw [← paired_len S2.wd.ob]
      simp))
end
end Sk

/-! Sk K: several stores at once, op=, repr, isinstance. -/
namespace Sk
open PySem PySem.Spec L2

/-! ### a, b = x, y: the values wait -/
abbrev PvD := Ev → Mem → Out (List Sl)
def pN : PvD := fun _ mu => .ok [] mu
def pC (e : EvD) (r : PvD) : PvD := fun rho mu => bnd (e rho mu) fun d mu1 => bnd (r rho mu1) fun ss mu2 => .ok (.val d :: ss) mu2
def pO (a : Ev → Mem → Out (List Da)) (r : PvD) : PvD := fun rho mu => bnd (a rho mu) fun ds mu1 => bnd (r rho mu1) fun ss mu2 => .ok (.own ds :: ss) mu2
def setAll : List Nat → List Sl → Ev → Option Ev
  | [], [], rho => some rho
  | i :: is, s :: ss, rho => setAll is ss (rho.set i s)
  | _, _, _ => none
def sPar (is : List Nat) (p : PvD) : StD := fun rho mu => sUse (p rho mu) rho fun ss mu' => match setAll is ss rho with
  | some rho' => .nx rho' mu'
  | none => .bad
/-- a value that waits -/
def SlP (m : List Addr) (B : Addr → Prop) (H : Hp) (Own : Addr → Prop) (rho : Ev) (σ : L2.St) (H0 : Hp) : Sl → V → Prop
  | .un, _ => False
  | .val d, v => RD m B H d v
  | .own xs, v => ∃ a us, v = .ref a ∧ Own a ∧ H a = some (.lst us) ∧ RDs m B H xs us ∧ NoSlot rho σ a ∧ H0 a = none
structure Pend (m : List Addr) (B : Addr → Prop) (H : Hp) (Own : Addr → Prop) (rho : Ev) (σ : L2.St) (H0 : Hp) (ss : List Sl) (vs : List V) : Prop where
  each : Paired (fun (s : Sl) (v : V) => SlP m B H Own rho σ H0 s v) ss vs
  apart : ∀ (i j : Nat) (a : Addr) (xs ys : List Da), i ≠ j → ss[i]? = some (Sl.own xs) → ss[j]? = some (Sl.own ys) → vs[i]? = some (V.ref a) → vs[j]? ≠ some (V.ref a)
def TPx (G : Fr) (W : WX) (d : PvD) : TA := fun σ H Q => ∃ rho mu m Own, StR G rho mu σ H m Own ∧
  (d rho mu).wp (fun ss mu' => ∀ vs H' m' Own', Lf m H m' H' → Le m (G.bar Own) H m' (G.bar Own') H' → (∀ a, Own a → Own' a) → StR G rho mu' σ H' m' Own' → Pend m' (G.bar Own') H' Own' rho σ H ss vs → Q vs H') (ES G W rho σ Own m H)
section
variable {G : Fr} {W : WX} {rho : Ev} {mu : Mem} {σ : L2.St} {H H' : Hp} {m m' : List Addr} {Own Own' : Addr → Prop}
theorem TPx.to {d : PvD} {Q : List V → Hp → Prop} {A : List Sl → Mem → Prop} (S : StR G rho mu σ H m Own) (h : (d rho mu).wp A (ES G W rho σ Own m H))
    (k : ∀ z mu1 vs H1 m1 O1, A z mu1 → Lf m H m1 H1 → Le m (G.bar Own) H m1 (G.bar O1) H1 → (∀ a, Own a → O1 a) → StR G rho mu1 σ H1 m1 O1 → Pend m1 (G.bar O1) H1 O1 rho σ H z vs → Q vs H1) : TPx G W d σ H Q :=
  ⟨rho, mu, m, Own, S, wp_and h fun z mu1 a vs H1 m1 O1 g l om S1 p => k z mu1 vs H1 m1 O1 a g l om S1 p⟩
/-- a slot gets a waiting list -/
theorem StR.setw (S : StR G rho mu σ H m Own) (i : Nat) {xs : List Da} {us : List V} {p : Addr} (r : RDs m (G.bar Own) H xs us) (op : Own p) (hp : H p = some (.lst us)) (ns : NoSlot rho σ p) :
    StR G (rho.set i (.own xs)) mu (σ.set i (some (.ref p))) H m Own := by
  refine ⟨S.le, S.wd, paired_set ⟨p, us, rfl, op, hp, r⟩ i S.sl, S.ow, ?_⟩
  intro a b c ys zs hab h1 h2 h3 h4
  have f : ∀ (j : Nat) (ws : List Da) (c : Addr), (rho.set i (.own xs))[j]? = some (Sl.own ws) → (σ.set i (some (V.ref p)))[j]? = some (some (V.ref c)) → (i = j ∧ c = p) ∨ (i ≠ j ∧ rho[j]? = some (Sl.own ws) ∧ σ[j]? = some (some (V.ref c)) ∧ c ≠ p) := by
    intro j ws c e1 e2
    by_cases hj : i = j
    · subst hj
      rw [List.getElem?_set_self'] at e2
      cases q : σ[i]? with
      | none => rw [q] at e2; cases e2
      | some s => rw [q] at e2; cases e2; exact .inl ⟨rfl, rfl⟩
    · rw [List.getElem?_set_ne hj] at e1 e2
      exact .inr ⟨hj, e1, e2, fun z => ns j ws e1 (by rw [← z]; exact e2)⟩
  rcases f a ys c h1 h3 with ⟨k1, k2⟩ | ⟨k1, k2, k3, k4⟩
  · rcases f b zs c h2 h4 with ⟨l1, l2⟩ | ⟨l1, l2, l3, l4⟩
    · exact hab (k1.symm.trans l1)
    · exact l4 k2
  · rcases f b zs c h2 h4 with ⟨l1, l2⟩ | ⟨l1, l2, l3, l4⟩
    · exact k4 l2
    · exact S.dj a b c ys zs hab k2 l2 k3 l3
def setSt : List Nat → List V → L2.St → L2.St
  | i :: is, v :: vs, σ => setSt is vs (σ.set i (some v))
  | _, _, σ => σ
theorem NoSlot.setv {p : Addr} (h : NoSlot rho σ p) (i : Nat) (d : Da) (o : Option V) : NoSlot (rho.set i (.val d)) (σ.set i o) p := fun j xs e1 e2 => by
  by_cases hj : i = j
  · subst hj
    rw [List.getElem?_set_self'] at e1
    cases q : rho[i]? with
    | none => rw [q] at e1; cases e1
    | some s => rw [q] at e1; cases e1
  · rw [List.getElem?_set_ne hj] at e1 e2
    exact h j xs e1 e2
theorem NoSlot.seto {p a : Addr} (h : NoSlot rho σ p) (i : Nat) (ys : List Da) (ne : a ≠ p) : NoSlot (rho.set i (.own ys)) (σ.set i (some (.ref a))) p := fun j xs e1 e2 => by
  by_cases hj : i = j
  · subst hj
    rw [List.getElem?_set_self'] at e2
    cases q : σ[i]? with
    | none => rw [q] at e2; cases e2
    | some s => rw [q] at e2; cases e2; exact ne rfl
  · rw [List.getElem?_set_ne hj] at e1 e2
    exact h j xs e1 e2
/-- all of them are stored -/
theorem StR.setAll {H0 : Hp} : ∀ {is : List Nat} {ss : List Sl} {vs : List V} {rho rho' : Ev} {σ : L2.St}, StR G rho mu σ H m Own → Pend m (G.bar Own) H Own rho σ H0 ss vs → Sk.setAll is ss rho = some rho' → StR G rho' mu (setSt is vs σ) H m Own ∧ vs.length = is.length
  | [], [], vs, rho, rho', σ, S, p, e => by
    cases e
    cases p.each
    exact ⟨S, rfl⟩
  | [], _ :: _, _, _, _, _, _, _, e => by cases e
  | _ :: _, [], _, _, _, _, _, _, e => by cases e
  | i :: is, s :: ss, vs, rho, rho', σ, S, p, e => by
    obtain ⟨pe, pa⟩ := p
    cases pe with
    | @cons _ v _ vs h t =>
      have apart' : ∀ (a b : Nat) (c : Addr) (xs ys : List Da), a ≠ b → ss[a]? = some (Sl.own xs) → ss[b]? = some (Sl.own ys) → vs[a]? = some (V.ref c) → vs[b]? ≠ some (V.ref c) := fun a b c xs ys hab h1 h2 h3 => pa (a + 1) (b + 1) c xs ys (fun z => hab (Nat.succ.inj z)) h1 h2 h3
      cases s with
      | un => exact h.elim
      | val d =>
        have p2 : Pend m (G.bar Own) H Own (rho.set i (.val d)) (σ.set i (some v)) H0 ss vs := ⟨paired_imp (fun s u z => by
          cases s with
          | un => exact z
          | val x => exact z
          | own xs => obtain ⟨a, us, e1, e2, e3, e4, e5, e6⟩ := z; exact ⟨a, us, e1, e2, e3, e4, e5.setv i d _, e6⟩) t, apart'⟩
        obtain ⟨q1, q2⟩ := StR.setAll (S.setv i h) p2 e
        exact ⟨q1, congrArg Nat.succ q2⟩
      | own xs =>
        obtain ⟨a, us, e1, e2, e3, e4, e5, e6⟩ := h
        subst e1
        have p2 : Pend m (G.bar Own) H Own (rho.set i (.own xs)) (σ.set i (some (.ref a))) H0 ss vs := by
          refine ⟨?_, apart'⟩
          have go : ∀ (k : Nat) {r : List Sl} {w : List V}, Paired (fun (s : Sl) (v : V) => SlP m (G.bar Own) H Own rho σ H0 s v) r w → (∀ (j : Nat) (ys : List Da), r[j]? = some (Sl.own ys) → w[j]? ≠ some (V.ref a)) → Paired (fun (s : Sl) (v : V) => SlP m (G.bar Own) H Own (rho.set i (.own xs)) (σ.set i (some (.ref a))) H0 s v) r w := by
            intro k r w hr
            induction hr with
            | nil => intro _; exact .nil
            | @cons s u r w h t ih =>
              intro hne
              refine .cons ?_ (ih fun j ys e => hne (j + 1) ys e)
              cases s with
              | un => exact h
              | val x => exact h
              | own ys =>
                obtain ⟨b, us2, f1, f2, f3, f4, f5, f6⟩ := h
                exact ⟨b, us2, f1, f2, f3, f4, f5.seto i xs (fun z => hne 0 ys rfl (by rw [z, ← f1]; rfl)), f6⟩
          exact go 0 t fun j ys ej => pa 0 (j + 1) a xs ys (Nat.zero_ne_add_one j) rfl ej rfl
        obtain ⟨q1, q2⟩ := StR.setAll (S.setw i e4 e2 e3 e5) p2 e
        exact ⟨q1, congrArg Nat.succ q2⟩
end
section
variable {X : Cx} {G : Fr} {W : WX} {pos : Pos} {a b c e : Expr} {d : EvD}
theorem p_nil : PA X [] (TPx G W pN) := PAw pa_nil fun σ H Q ⟨rho, mu, m, Own, S, h⟩ => h [] H m Own Lf.refl Le.refl (fun _ z => z) S ⟨.nil, fun i j a xs ys _ h => by simp at h⟩
theorem p_cons {es : List Expr} {r : PvD} (ha : PE X e (TEx G W d)) (hr : PA X es (TPx G W r)) (hs : starEach (e :: es) X.env = (false, eval e X.env) :: starEach es X.env := by rfl) : PA X (e :: es) (TPx G W (pC d r)) := by
  refine PAw (pa_cons ha hr hs) fun σ H Q ⟨rho, mu, m, Own, S, h⟩ => ?_
  refine TEx.to S (wp_bnd h) fun x mu1 v1 H1 m1 h1 g1 S1 r1 => TPx.to S1 (wp_step g1 (wp_bnd h1)) fun z mu2 vs H2 m2 O2 h2 g2 l2 o2 S2 p2 => ?_
  refine h2 _ H2 m2 O2 (g1.trans g2) ((g1.le _).trans l2) o2 S2 ⟨.cons (RD.mono l2 r1) (paired_imp (fun s u z => by
    cases s with
    | un => exact z
    | val x => exact z
    | own xs => obtain ⟨a, us, e1, e2, e3, e4, e5, e6⟩ := z; exact ⟨a, us, e1, e2, e3, e4, e5, g1.dom a e6⟩) p2.each), fun i j a xs ys hij e1 e2 e3 e4 => ?_⟩
  cases i with
  | zero => cases e1
  | succ i =>
    cases j with
    | zero => cases e2
    | succ j => exact p2.apart i j a xs ys (fun z => hij (congrArg Nat.succ z)) e1 e2 e3 e4
theorem p_own {es ls : List Expr} {pl : Pos} {al : Ev → Mem → Out (List Da)} {r : PvD} (ha : PA X ls (TAx G W al)) (hz : ls.length ≤ sizeLine) (hl : ∀ rho mu xs mu', al rho mu = .ok xs mu' → xs.length = ls.length) (hr : PA X es (TPx G W r))
    (hs : starEach (.List ls pl :: es) X.env = (false, eval (.List ls pl) X.env) :: starEach es X.env := by rfl) : PA X (.List ls pl :: es) (TPx G W (pO al r)) := by
  refine PAw (pa_cons (pe_lst ha) hr hs) fun σ H Q ⟨rho, mu, m, Own, S, h⟩ => ?_
  have e0 := hl rho mu
  refine TAx.to (A := fun z mu1 => (bnd (r rho mu1) fun ss mu2 => Out.ok (Sl.own z :: ss) mu2).wp (fun ss mu' => ∀ vs H' m' Own', Lf m H m' H' → Le m (G.bar Own) H m' (G.bar Own') H' → (∀ a, Own a → Own' a) → StR G rho mu' σ H' m' Own' → Pend m' (G.bar Own') H' Own' rho σ H ss vs → Q vs H') (ES G W rho σ Own m H) ∧ z.length = ls.length) S ?_ fun xs mu1 us H1 m1 ⟨h1, hlen⟩ g1 S1 r1 => ⟨by rw [← r1.length, hlen]; exact hz, fun p hp => ?_⟩
  · have h' := wp_bnd h
    cases e : al rho mu with
    | ok z mu1 => rw [e] at h'; exact ⟨h', e0 _ _ e⟩
    | exc x mu1 => rw [e] at h'; exact h'
    | bad => rw [e] at h'; exact h'
  · have ns := S1.noslot hp
    obtain ⟨S2, l2⟩ := S1.bar1 (o := .lst us) hp
    have g2 : Lf m H m1 (upd H1 p (.lst us)) := g1.trans (Lf.of_same (same_upd hp))
    have lb : ∀ a, G.bar Own a → G.bar (fun a => Own a ∨ a = p) a := fun a z => z.elim .inl fun q => .inr (.inl q)
    have back : ∀ x mu', ES G W rho σ Own m H x mu' → ES G W rho σ (fun a => Own a ∨ a = p) m1 (upd H1 p (.lst us)) x mu' := fun x mu' q c dd H' m' g3 S' xr => q c dd H' m' (g2.trans g3) (S'.unbar ns) (xr.less lb)
    have h2 := wp_bnd h1
    refine TPx.to (A := fun ss mu2 => ∀ vs H' m' Own', Lf m H m' H' → Le m (G.bar Own) H m' (G.bar Own') H' → (∀ a, Own a → Own' a) → StR G rho mu2 σ H' m' Own' → Pend m' (G.bar Own') H' Own' rho σ H (Sl.own xs :: ss) vs → Q vs H') S2 ?_ fun ss mu3 vs H3 m3 O3 h3 g3 l3 o3 S3 p3 => ?_
    · cases e : r rho mu1 with
      | ok z mu2 => rw [e] at h2; exact h2
      | exc x mu2 => rw [e] at h2; exact back x mu2 h2
      | bad => rw [e] at h2; exact h2
    · have nm : p ∉ m1 := (S1.fresh hp).1
      have hp3 : H3 p = some (.lst us) := g3.keep p _ upd_same nm id
      refine h3 _ H3 m3 O3 (g2.trans g3) (((g1.le _).trans l2).trans l3) (fun a z => o3 a (.inl z)) S3 ⟨.cons ⟨p, us, rfl, o3 p (.inr rfl), hp3, RDs.mono (l2.trans l3) r1, ns, g1.dom p hp⟩ (paired_imp (fun s u z => by
        cases s with
        | un => exact z
        | val x => exact z
        | own ys => obtain ⟨a, us, e1, e2, e3, e4, e5, e6⟩ := z; exact ⟨a, us, e1, e2, e3, e4, e5, g2.dom a e6⟩) p3.each), fun i j a zs ys hij e1 e2 e3 e4 => ?_⟩
      have far : ∀ (j : Nat) (ys : List Da), ss[j]? = some (Sl.own ys) → vs[j]? ≠ some (V.ref p) := fun j ys ej ev => by
        obtain ⟨u, eu, a, us2, f1, _, _, _, _, f6⟩ := paired_get p3.each ej
        rw [ev] at eu
        cases eu
        cases f1
        rw [upd_same] at f6
        cases f6
      cases i with
      | zero =>
        cases j with
        | zero => exact hij rfl
        | succ j =>
          have ea : p = a := by cases e3; rfl
          subst ea
          exact far j ys e2 e4
      | succ i =>
        cases j with
        | zero =>
          have ea : p = a := by cases e4; rfl
          subst ea
          exact far i zs e1 e3
        | succ j => exact p3.apart i j a zs ys (fun z => hij (congrArg Nat.succ z)) e1 e2 e3 e4
/-- the plain stores of two, three local names -/
theorem par_use {is : List Nat} {p : PvD} {D : Ends} {rho : Ev} {mu : Mem} {σ : L2.St} {H : Hp} {m : List Addr} {Own : Addr → Prop} (S : StR G rho mu σ H m Own) (h : SOk G W D m Own H (sPar is p rho mu)) :
    TPx G W p σ H fun vs H1 => vs.length = is.length ∧ D.nx (setSt is vs σ) H1 := by
  refine TPx.to S (use_wp (σ := σ) h) fun ss mu1 vs H1 m1 O1 h1 g1 l1 o1 S1 p1 => ?_
  cases e : setAll is ss rho with
  | none => rw [e] at h1; exact h1.elim
  | some rho' =>
    rw [e] at h1
    obtain ⟨S2, hl⟩ := S1.setAll p1 e
    exact ⟨hl, h1 _ H1 m1 O1 l1 S2⟩
theorem s_par2 {i j : Nat} {x y : Str} {p : PvD} {px py pt pt2 : Pos} {kt k2} (ha : PA X [a, b] (TPx G W p)) (hN : X.N.Nodup) (hi : X.N[i]? = some x := by rfl) (hj : X.N[j]? = some y := by rfl) (hij : i ≠ j := by decide) (hx : X.env.scope.names.lookup x = some .local := by rfl) (hy : X.env.scope.names.lookup y = some .local := by rfl)
    (hw : swappedStores [.Tuple [.Name x px, .Name y py] kt pt] (.Tuple [a, b] k2 pt2) X.env = pure (some [x, y]) := by rfl) (hs : swapsWithSole [.Tuple [.Name x px, .Name y py] kt pt] (.Tuple [a, b] k2 pt2) pos.line X.env = pure false := by rfl) (hc : X.calm = true := by rfl) :
    PS X (.Assign [.Tuple [.Name x px, .Name y py] kt pt] (.Tuple [a, b] k2 pt2) pos) (TSx G W (sPar [i, j] p)) := by
  refine PSw (ps_par hc hN hi hj hij hx hy ha hw hs) fun D σ H ⟨rho, mu, m, Own, S, h⟩ => ?_
  obtain ⟨rho', mu', m', Own', S', q⟩ := par_use S h
  refine ⟨rho', mu', m', Own', S', wp_and q fun ss u q vs H' m' O' g l o S' p => ?_⟩
  obtain ⟨hl, qn⟩ := q vs H' m' O' g l o S' p
  match vs, hl, qn with
  | [v, w], _, qn => exact ⟨v, w, rfl, qn⟩
theorem s_par3 {i j l : Nat} {x y z : Str} {p : PvD} {px py pz pt pt2 : Pos} {kt k2} (ha : PA X [a, b, c] (TPx G W p)) (hN : X.N.Nodup) (hi : X.N[i]? = some x := by rfl) (hj : X.N[j]? = some y := by rfl) (hl : X.N[l]? = some z := by rfl) (hij : i ≠ j := by decide) (hil : i ≠ l := by decide) (hjl : j ≠ l := by decide)
    (hx : X.env.scope.names.lookup x = some .local := by rfl) (hy : X.env.scope.names.lookup y = some .local := by rfl) (hz : X.env.scope.names.lookup z = some .local := by rfl)
    (hw : swappedStores [.Tuple [.Name x px, .Name y py, .Name z pz] kt pt] (.Tuple [a, b, c] k2 pt2) X.env = pure (some [x, y, z]) := by rfl) (hs : swapsWithSole [.Tuple [.Name x px, .Name y py, .Name z pz] kt pt] (.Tuple [a, b, c] k2 pt2) pos.line X.env = pure false := by rfl) (hc : X.calm = true := by rfl) :
    PS X (.Assign [.Tuple [.Name x px, .Name y py, .Name z pz] kt pt] (.Tuple [a, b, c] k2 pt2) pos) (TSx G W (sPar [i, j, l] p)) := by
  refine PSw (ps_par3 hc hN hi hj hl hij hil hjl hx hy hz ha hw hs) fun D σ H ⟨rho, mu, m, Own, S, h⟩ => ?_
  obtain ⟨rho', mu', m', Own', S', q⟩ := par_use S h
  refine ⟨rho', mu', m', Own', S', wp_and q fun ss u q vs H' m' O' g l o S' p => ?_⟩
  obtain ⟨hl, qn⟩ := q vs H' m' O' g l o S' p
  match vs, hl, qn with
  | [u, v, w], _, qn => exact ⟨u, v, w, rfl, qn⟩
/-- .. of any names, by a tuple -/
theorem gNames_set : ∀ {is : List Nat} {vs : List V} {σ : L2.St} {H : Hp} {Q : L2.St → Hp → Prop}, vs.length = is.length → Q (setSt is vs σ) H → gNames is vs σ H Q
  | [], [], _, _, _, _, q => ⟨rfl, q⟩
  | [], _ :: _, _, _, _, h, _ => by cases h
  | _ :: _, [], _, _, _, h, _ => by cases h
  | i :: is, v :: vs, σ, H, Q, h, q => ⟨v, vs, rfl, gNames_set (is := is) (Nat.succ.inj h) q⟩
theorem s_parT {is : List Nat} {es ts : List Expr} {p : PvD} {pt pt2 : Pos} {kt k2} (ha : PA X es (TPx G W p)) (hg : PGs X ts (gNames is)) (hz : is.length ≤ sizeLine := by decide) (hl : (assignEach ts X.env).length = is.length := by rfl) (hst : (assignEach ts X.env).findIdx? (·.1) = none := by rfl)
    (hs : swapsWithSole [.Tuple ts kt pt] (.Tuple es k2 pt2) pos.line X.env = pure false := by rfl) (hw : swappedStores [.Tuple ts kt pt] (.Tuple es k2 pt2) X.env = pure none := by rfl) (h1 : (assignEach [.Tuple ts kt pt] X.env).map (·.2) = [assign (.Tuple ts kt pt) X.env] := by rfl) (hc : X.calm = true := by rfl) :
    PS X (.Assign [.Tuple ts kt pt] (.Tuple es k2 pt2) pos) (TSx G W (sPar is p)) := by
  refine PSw (ps_asg (pe_tup ha) (pg_tup hc hg hl hst) hs hw h1) fun D σ H ⟨rho, mu, m, Own, S, h⟩ => ?_
  refine TPx.to S (use_wp (σ := σ) h) fun ss mu1 vs H1 m1 O1 h1 g1 l1 o1 S1 p1 => ?_
  cases e : setAll is ss rho with
  | none => rw [e] at h1; exact h1.elim
  | some rho' =>
    rw [e] at h1
    obtain ⟨S2, hl⟩ := S1.setAll p1 e
    refine ⟨by rw [hl]; exact hz, fun t ht => ⟨t, vs, rfl, SqT.of upd_same, hl, gNames_set hl ?_⟩⟩
    exact h1 _ _ m1 O1 (l1.trans ((Lf.of_same (same_upd ht)).le _)) (S2.same (same_upd ht))
/-! ### x += e -/
def sAug (i : Nat) (f : Int → Int → Int) (e : EvD) : StD := fun rho mu => match rho[i]? with
  | some (.val (.int x)) => sUse (e rho mu) rho fun d mu' => match d with
    | .int y => .nx (rho.set i (.val (.int (f x y)))) mu'
    | _ => .bad
  | _ => .bad
theorem s_aug {i : Nat} {x : Str} {op : Operator} {f : Int → Int → Int} {pos' : Pos} (ho : PIp X op (ipI f)) (he : PE X e (TEx G W d)) (hN : X.N.Nodup) (hi : X.N[i]? = some x := by rfl) (hx : Loc X.env.scope x := by first | exact Or.inl rfl | exact Or.inr rfl)
    (hf : X.fn x = true ∨ X.env.scope.names.lookup x = some .local := by first | exact .inl rfl | exact .inr rfl) : PS X (.AugAssign (.Name x pos') op e pos) (TSx G W (sAug i f d)) := by
  refine PSw (ps_aug hN hi hx he ho hf) fun D σ H ⟨rho, mu, m, Own, S, h⟩ => ?_
  unfold sAug at h
  cases e1 : rho[i]? with
  | none => rw [e1] at h; exact h.elim
  | some s =>
    rw [e1] at h
    match s, h, e1 with
    | .val (.int x), h, e1 =>
      obtain ⟨v, ev, rv⟩ := S.var e1
      cases rv
      refine ⟨_, ev, TEx.to S (use_wp (σ := σ) h) fun z mu1 v H1 m1 h1 g1 S1 r1 => ?_⟩
      cases z with
      | int y =>
        cases r1
        exact ⟨x, y, rfl, rfl, h1 _ H1 m1 Own (g1.le _) (S1.setv i (.int _))⟩
      | _ => exact h1.elim
end
end Sk

/-! Sk L: repr, isinstance, the script, extend. -/
namespace Sk
open PySem PySem.Spec L2

mutual
theorem noDict : ∀ d : Da, (toPy d).hasDict = false
  | .non => rfl
  | .bl _ => rfl
  | .int _ => rfl
  | .str _ => rfl
  | .tup xs => by show PyData.hasDictAll (toPys xs) = false; exact noDicts xs
  | .lst xs => by show PyData.hasDictAll (toPys xs) = false; exact noDicts xs
  | .ref _ => rfl
theorem noDicts : ∀ ds : List Da, PyData.hasDictAll (toPys ds) = false
  | [] => rfl
  | d :: ds => by
    show ((toPy d).hasDict || PyData.hasDictAll (toPys ds)) = false
    rw [noDict d, noDicts ds]
    rfl
end
/-- the text of repr, where it is told -/
def okRepr (d : Da) : Bool := isD d && (toPy d).showable && decide ((toPy d).depth ≤ 60) && decide ((toPy d).shown.length ≤ sizeLine)
def reprD : List Da → Option Da
  | [d] => if okRepr d = true then some (.str (toPy d).shown) else none
  | _ => none
section
variable {X : Cx}
def rRepr (K : PySem.W.Frag) : List V → Hp → VK → Prop := fun xs H Q => ∃ x d, xs = [x] ∧ Dp K H x d ∧ d.showable = true ∧ d.hasDict = false ∧ d.depth ≤ 60 ∧ d.shown.length ≤ sizeLine ∧ Q (.str d.shown) H
theorem callr_repr (hu : X.A.units + 64 < cLine) (hg : X.A.guards = some []) : CallR X (.builtin "repr") (rRepr X.K) := by
  intro pins s σ H xs us Q I r h
  obtain ⟨x, d, rfl, hd, hs, hn, hdep, hz, q⟩ := h
  cases r with
  | cons r rr =>
    cases rr
    cases hd with
    | non =>
      cases r
      exact PySem.P.repr_of_none ⟨.str _, H, I.tok _, ⟨_, rfl⟩, by simpa only [PyData.shown] using q⟩
    | bl b =>
      cases r
      exact PySem.P.repr_of_bool ⟨.str _, H, I.tok _, ⟨_, rfl⟩, by simpa only [PyData.shown] using q⟩
    | int i =>
      obtain ⟨t, rfl⟩ := r
      exact PySem.P.repr_of_int (by simpa [PyData.showable] using hs) ⟨.str _, H, I.tok _, ⟨_, rfl⟩, by simpa only [PyData.shown] using q⟩
    | str y =>
      obtain ⟨t, rfl⟩ := r
      exact PySem.P.repr_of_str ⟨.str _, H, I.tok _, ⟨_, rfl⟩, by simpa only [PyData.shown] using q⟩ (by simpa only [PyData.shown] using hz)
    | @lst a xs ds h1 h2 =>
      obtain ⟨as, rd⟩ := Dp.reads I _ _ _ (.lst h1 h2) r
      cases r
      exact repr_of_reads' rd hs (fun z => by rw [hn] at z; cases z) hg (by omega) (fun _ _ e => e) (fun h' u tk k => ⟨.str _, H, I.kept k, ⟨u, rfl⟩, q⟩) hz
    | @tup a xs ds h1 h2 =>
      obtain ⟨as, rd⟩ := Dp.reads I _ _ _ (.tup h1 h2) r
      cases r
      exact repr_of_reads' rd hs (fun z => by rw [hn] at z; cases z) hg (by omega) (fun _ _ e => e) (fun h' u tk k => ⟨.str _, H, I.kept k, ⟨u, rfl⟩, q⟩) hz
theorem b_repr {k : Nat} (hr : Rm k X.A) : CallD X (.builtin "repr") reprD := by
  refine ⟨_, callr_repr hr.r.units hr.gd, fun m B H xs z vs Q e r fr q => ?_⟩
  match xs, e with
  | [d], e =>
    obtain ⟨hz, rfl⟩ := ite_inv e
    unfold okRepr at hz
    simp only [Bool.and_eq_true, decide_eq_true_eq] at hz
    cases r with
    | cons r1 r2 =>
      cases r2
      exact ⟨_, _, rfl, RD.dp r1 hz.1.1.1, hz.1.1.2, noDict d, hz.1.2, hz.2, q _ _ (Same.refl _) (.str _)⟩
end
section
variable {X : Cx} {G : Fr} {W : WX} {pos : Pos} {a b : Expr} {da db : EvD}
/-- isinstance(e, T), T a built-in class -/
theorem c_isi {T x : Str} {Ts : String} {p p2 : Pos} (hm : X.mg "isinstance" = none) (hT : X.mg x = none) (hb : bootBuiltins x = some (.type Ts)) (ha : PE X a (TEx G W da)) (hg : Gl X "isinstance" := by rfl) (hgT : Gl X x := by rfl) (hn : x ≠ "__name__" := by decide) (hd : (x == ("__debug__" : Str)) = false := by decide)
    (h1 : starEach [a, .Name x p2] X.env = (false, eval a X.env) :: starEach [.Name x p2] X.env := by rfl) (h2 : starEach [.Name x p2] X.env = (false, eval (.Name x p2) X.env) :: starEach [] X.env := by rfl) (h3 : (backTo pos (starEach [.Name x p2] X.env)).any (·.1) = false := by rfl) :
    PE X (.Call (.Name "isinstance" p) [a, .Name x p2] [] pos) (TEx G W (e1 (isiB Ts) da)) := by
  refine PEw (pe_callB call_isi hg hm (by decide +kernel) (pa_cons ha (pa_cons (pe_bltn (v := .ty Ts) hgT hT hb rfl hn hd) pa_nil h2) h1) (by decide) (by decide) h1 h3) fun σ H Q h => ?_
  obtain ⟨rho, mu, m, Own, S, h⟩ := h.un
  refine TEx.to S (wp_bnd h) fun x mu1 v H1 m1 h1 g1 S1 r1 => ?_
  obtain ⟨z, e, q⟩ := wp_opt h1
  cases et : tyD x with
  | none => unfold isiB at e; rw [et] at e; cases e
  | some t =>
    unfold isiB at e
    rw [et] at e
    cases ek : kitB t Ts with
    | none => rw [show (some t).bind (fun t => (kitB t Ts).map Da.bl) = (kitB t Ts).map Da.bl from rfl, ek] at e; cases e
    | some k =>
      rw [show (some t).bind (fun t => (kitB t Ts).map Da.bl) = (kitB t Ts).map Da.bl from rfl, ek] at e
      cases e
      exact ⟨v, .ty Ts, .type t, .type Ts, k, rfl, .ty Ts, RD.tyx r1 et, kit_ty ek, q _ H1 m1 g1 S1 (.bl _)⟩
/-! ### script + [0] -/
def eScr (a b : EvD) : EvD := fun rho mu => bnd (a rho mu) fun x mu1 => bnd (b rho mu1) fun y mu2 => match x, y with
  | .ref n, .lst ys => (match mu2[n]? with
    | some (.scr xs) => if xs.length + ys.length ≤ sizeLine then .ok (.lst (xs ++ ys)) mu2 else .bad
    | _ => .bad)
  | _, _ => .bad
theorem op_catS : OpR X (binaryOp .Add) (fun x y H Q => ∃ l k xs zs, x = .ref l ∧ y = .ref k ∧ SqL X.K H l xs ∧ SqL X.K H k zs ∧ xs.length + zs.length ≤ sizeLine ∧ ∀ p, H p = none → Q (.ref p) (upd H p (.lst (xs ++ zs)))) := by
  intro pins s σ H x y v u Q I rx ry h
  obtain ⟨l, k, xs, zs, rfl, rfl, hl, hk, hz, q⟩ := h
  cases rx
  cases ry
  obtain ⟨its, r, ⟨⟨c, dd, dt, sl⟩, n, e, ec, ed, ex⟩, _⟩ := I.list hl
  obtain ⟨its2, r2, ⟨⟨c2, dd2, dt2, sl2⟩, n2, f, fc, fd, fx⟩, _⟩ := I.list hk
  simp only at ec ex fc fx
  subst ec ex fc fx
  have sz : its.toArray.size + its2.toArray.size ≤ sizeLine := by rw [List.size_toArray, List.size_toArray, ← r.length, ← r2.length]; exact hz
  refine concat_meets ⟨_, e, rfl⟩ ⟨_, f, rfl⟩ noFill_list_add seq_list_add PySem.F.slot_list_add PySem.F.entry_list_add (PySem.F.args_list_add_2 _ _) (PyProof.Rows.list_addW l k its.toArray its2.toArray n n2 dd dd2 sl sl2 sz) ⟨e, f, ?_⟩
  rw [show its.toArray ++ its2.toArray = (its ++ its2).toArray by simp]
  exact ⟨.ref _, _, I.lnew (t' := s.toks) (r.append r2) (by rw [List.length_append]; exact hz), rfl, q _ I.fresh⟩
theorem c_scr (ha : PE X a (TEx G W da)) (hb : PE X b (TEx G W db)) : PE X (.BinOp a .Add b pos) (TEx G W (eScr da db)) := by
  refine PEw (pe_op op_catS ha hb) fun σ H Q h => ?_
  obtain ⟨rho, mu, m, Own, S, h⟩ := h.un
  refine TEx.to S (wp_bnd h) fun x mu1 v1 H1 m1 h1 g1 S1 r1 => TEx.to S1 (wp_step g1 (wp_bnd h1)) fun y mu2 v2 H2 m2 h2 g2 S2 r2 => ?_
  cases x with
  | ref n =>
    cases y with
    | lst ys =>
      dsimp only at h2
      cases r1 with
      | ref hn =>
        cases eo : mu2[n]? with
        | none => rw [eo] at h2; exact h2.elim
        | some o =>
          rw [eo] at h2
          cases o with
          | scr xs =>
            dsimp only at h2
            by_cases hz : xs.length + ys.length ≤ sizeLine
            · rw [if_pos hz] at h2
              obtain ⟨ob, us, e, rs⟩ := S2.num (g2.num hn) eo
              cases r2 with
              | lst b1 b2 b3 b4 =>
                exact ⟨_, _, us, _, rfl, rfl, .inl (.inr ⟨ob, e⟩), SqL.of b3, by rw [← rs.length, ← b4.length]; exact hz, fun p hp => h2 _ _ m2 (g1.trans (g2.trans (Lf.of_same (same_upd hp)))) (S2.same (same_upd hp)) (RD.new_lst (rs.append b4) hp (S2.fresh hp).1 (S2.fresh hp).2)⟩
            · rw [if_neg hz] at h2
              exact h2.elim
          | _ => exact h2.elim
    | _ => exact h2.elim
  | _ => exact h2.elim
/-! ### x.extend(e) -/
def sExt (i : Nat) (e : EvD) : StD := fun rho mu => match rho[i]? with
  | some (.own xs) => sUse (e rho mu) rho fun d mu' => match d with
    | .lst ys => if xs.length + ys.length ≤ sizeLine then .nx (rho.set i (.own (xs ++ ys))) mu' else .bad
    | _ => .bad
  | _ => .bad
theorem s_ext {i : Nat} {o e : Expr} {apos cpos : Pos} {d : EvD} (ho : PE X o (tVar i)) (he : PE X e (TEx G W d)) (hs : swapsWith (.Call (.Attribute o "extend" apos) [e] [] cpos) none pos.line X.env = pure false := by rfl) (hbase : attributeBase o "extend" X.env (eval o X.env) = eval o X.env := by rfl)
    (hfew : ((backTo cpos (starEach [e] X.env)).all (fun x => !x.1) && (backToKw cpos (keywordEach [] X.env)).all (fun x => x.1.isSome) && decide ([e].length + ([] : List Keyword).length + (if ([] : List Keyword).isEmpty then 0 else 1) < 30)) = true := by rfl)
    (hline : (apos.endLine == cpos.line) = true := by rfl) (hst : starEach [e] X.env = (false, eval e X.env) :: starEach [] X.env := by rfl) (hpl : (backTo cpos (starEach [] X.env)).any (·.1) = false := by rfl) :
    PS X (.Expr (.Call (.Attribute o "extend" apos) [e] [] cpos) pos) (TSx G W (sExt i d)) := by
  refine PSw (ps_expr (pe_bm PySem.F.plainAttrs_list PySem.F.slot_list_extend PySem.F.type_list_extend mt_extend ho (pa_cons he pa_nil hst) hbase hfew hline hst hpl) hs) fun D σ H ⟨rho, mu, m, Own, S, h⟩ => ?_
  unfold sExt at h
  cases e1 : rho[i]? with
  | none => rw [e1] at h; exact h.elim
  | some s =>
    rw [e1] at h
    cases s with
    | un => exact h.elim
    | val _ => exact h.elim
    | own xs =>
      obtain ⟨p, us, ev, nm, op, hp, rl⟩ := own_at S e1
      refine ⟨_, ev, .inl ⟨rfl, _, SqL.of hp⟩, TEx.to S (use_wp (σ := σ) h) fun z mu2 v H2 m2 h2 g2 S2 r2 => ?_⟩
      have hp2 : H2 p = some (.lst us) := g2.keep p _ hp nm id
      cases r2 with
      | lst b1 b2 b3 b4 =>
        rename_i ys ws
        dsimp only at h2
        by_cases hz : xs.length + ys.length ≤ sizeLine
        · rw [if_pos hz] at h2
          refine ⟨p, _, us, ws, rfl, rfl, hp2, b3, by rw [← rl.length, ← b4.length]; exact hz, ?_⟩
          obtain ⟨S3, g3⟩ := S2.fill (us := us) e1 ev ((RDs.mono (g2.le _) rl).append b4)
          exact h2 σ _ m2 Own ((g2.le _).trans g3) S3
        · rw [if_neg hz] at h2
          exact h2.elim
      | _ => exact h2.elim
end
end Sk

/-! Sk M: the program's defs by names; the law's end. -/
namespace Sk
open PySem PySem.Spec L2

def negD : Da → Option Da
  | .int i => some (.int (-i))
  | _ => none
section
variable {X : Cx} {G : Fr} {W : WX} {pos : Pos} {a : Expr} {da : EvD}
theorem c_neg (ha : PE X a (TEx G W da)) : PE X (.UnaryOp .USub a pos) (TEx G W (e1 negD da)) := by
  refine PEw (pe_un un_neg ha) fun σ H Q h => ?_
  obtain ⟨rho, mu, m, Own, S, h⟩ := h.un
  refine TEx.to S (wp_bnd h) fun x mu1 v1 H1 m1 h1 g1 S1 r1 => ?_
  obtain ⟨z, e, q⟩ := wp_opt h1
  cases x with
  | int i =>
    cases e
    cases r1
    exact ⟨i, rfl, q _ H1 m1 g1 S1 (.int _)⟩
  | _ => cases e
theorem c_gint {x : Str} {i : Int} (h : ∃ t, X.mg x = some (.int i t)) (hg : Gl X x := by rfl) (hd : (x == ("__debug__" : Str)) = false := by decide) : PE X (.Name x pos) (TEx G W (eK (.int i))) := by
  obtain ⟨t, e⟩ := h
  exact c_con (pe_glob (v := .int i) hg e ⟨t, rfl⟩ hd) fun _ _ _ => .int i
theorem c_gstr {x z : Str} (h : ∃ t, X.mg x = some (.str z t)) (hg : Gl X x := by rfl) (hd : (x == ("__debug__" : Str)) = false := by decide) : PE X (.Name x pos) (TEx G W (eK (.str z))) := by
  obtain ⟨t, e⟩ := h
  exact c_con (pe_glob (v := .str z) hg e ⟨t, rfl⟩ hd) fun _ _ _ => .str z
end

/-! ### the program's names -/
structure Tx (K : PySem.W.Frag) (mg : Str → Option Value) (h : Heap) (fa : List He.Fa) (fn : List He.DefD) : Prop where
  kin : K.In h
  ns : h.Ns mainGlobals mg
  says : He.SaysD fa fn K
section
variable {K : PySem.W.Frag} {mg : Str → Option Value} {h : Heap} {fa : List He.Fa} {fn : List He.DefD}
theorem Tx.fact (T : Tx K mg h fa fn) (i : Nat) {f : He.Fa} (e : fa[i]? = some f := by rfl) : f.ok K = true := T.says.fact i e
theorem Tx.free (T : Tx K mg h fa fn) (i : Nat) {x : Str} (e : fa[i]? = some (.free x) := by rfl) : mg x = none := He.free_ok T.kin T.ns (T.fact i e)
theorem Tx.glo (T : Tx K mg h fa fn) (i : Nat) {x : Str} (e : fa[i]? = some (.glo x) := by rfl) : mg x = some (.ref (He.ga K x)) := He.glo_ok T.kin T.ns (T.fact i e)
theorem Tx.int (T : Tx K mg h fa fn) (i : Nat) {x : Str} {z : Int} (e : fa[i]? = some (.int x z) := by rfl) : ∃ t, mg x = some (.int z t) := He.int_ok T.kin T.ns (T.fact i e)
theorem Tx.str (T : Tx K mg h fa fn) (i : Nat) {x z : Str} (e : fa[i]? = some (.str x z) := by rfl) : ∃ t, mg x = some (.str z t) := He.str_ok T.kin T.ns (T.fact i e)
end
/-- a def of the text as a datum -/
abbrev dOf (x : Str) (st : Stmt) : He.DefD := ⟨(x, none), x, x, defArgs st, defBody st, defScope st, [], []⟩
abbrev FDof (K : PySem.W.Frag) (x : Str) (st : Stmt) (fd : FuncData) : Prop := FunD K x x (defArgs st) (defBody st) (defScope st) [] [] (He.ga K x) fd
/-- a def that does what fn does -/
structure Df (P : Program) (w : World) (K : PySem.W.Frag) (mg : Str → Option Value) (base : Heap) (k : Nat) (x : Str) (st : Stmt) (ps : List Str) (fn : Fn) : Prop where
  ex : ∃ fd, FDof K x st fd ∧ FnG P w K mg base k (He.ga K x) fd ps (spOf K fn)
  mg : mg x = some (.ref (He.ga K x))
theorem Df.of {P : Program} {w : World} {K : PySem.W.Frag} {mg : Str → Option Value} {base : Heap} {h : Heap} {fa : List He.Fa} {fn : List He.DefD} {k n z : Nat} {x : Str} {st : Stmt} {N ps : List Str} {bd : StD} (T : Tx K mg h fa fn) (i j : Nat) (S : FnScope N ps (defScope st))
    (hb : ∀ (cdv : Value) (A : Around) (out : List Env) (s : Shared) (H : Hp) (E : XK) (G : Fr), G.K = K → Rm k (A.deeper (PyProof.Rows.envOfC x (defScope st) s.heap.objs.size (He.ga K x) cdv)) →
      Takes (cxOf (CXx P w) P w K mg base N x (defScope st) (He.ga K x) cdv A out s H E) (fun c d _ H' => E c d H') →
      PassesOwn (model P w) (A.deeper (PyProof.Rows.envOfC x (defScope st) s.heap.objs.size (He.ga K x) cdv)) (PyProof.Rows.envOfC x (defScope st) s.heap.objs.size (He.ga K x) cdv) (cxOf (CXx P w) P w K mg base N x (defScope st) (He.ga K x) cdv A out s H E).xe →
      PSs (cxOf (CXx P w) P w K mg base N x (defScope st) (He.ga K x) cdv A out s H E) (defBody st) (TSx G (fun c d _ H' => E c d H') bd))
    (hd : fn[i]? = some (dOf x st) := by rfl) (hf : fa[j]? = some (.glo x) := by rfl) (hn : ps.length = n := by rfl) (hN : N.length = n + z := by rfl) : Df P w K mg base (k + 1) x st ps (fnD n z bd) := by
  obtain ⟨fd, F⟩ := T.says.def_ i hd
  exact ⟨⟨fd, F, fnG_ok F S hn hN fun cdv A out s H E G e hr => hb cdv A out s H E G e hr (takes_of rfl rfl rfl rfl) (passes_of rfl)⟩, T.glo j hf⟩
section
variable {X : Cx} {G : Fr} {W : WX} {k lv : Nat} {x : Str} {st : Stmt} {ps : List Str} {p pos : Pos} {e : Expr} {es : List Expr} {fn : Fn}
abbrev BindOk (x : Str) (st : Stmt) (ps : List Str) : Prop := ∀ (kV doc pm : Value) (an : Option Addr) (cdv ct : Value) (us : List Value), us.length = ps.length → bindArgs (PySem.W.fnOf x x (defArgs st) (defBody st) (defScope st) .none kV doc pm an cdv ct) ⟨us, []⟩ = pure (ps.zip us)
/-- f(e, ..) of a def of the text -/
theorem c_f {r : Ev → Mem → Out (List Da)} (F : Df X.prog X.w X.K X.mg X.base k x st ps fn) (hb : BindOk x st ps) (hK : G.K = X.K) (hr : Rm lv X.A) (tk : Takes X W) (ha : PA X (e :: es) (TAx G W r)) (hlv : k ≤ lv := by decide) (hg : Gl X x := by rfl) (hdb : (x == ("__debug__" : Str)) = false := by decide)
    (he : starEach (e :: es) X.env = (false, eval e X.env) :: starEach es X.env := by rfl) (hpl : (backTo pos (starEach es X.env)).any (·.1) = false := by rfl) : PE X (.Call (.Name x p) (e :: es) [] pos) (TEx G W (eC fn r)) := by
  obtain ⟨fd, F1, F2⟩ := F.ex
  exact c_call hK F2 (hr.mono hlv) F.mg F1.kp (F1.bindsN hb) tk ha hg hdb he hpl
theorem PKw {kws : List Keyword} {t t' : TA} (h : PK X kws t) (w : ∀ σ H Q, t' σ H Q → t σ H Q) : PK X kws t' := ⟨fun pos pins s σ H Q I q => h.run pos pins s σ H Q I (w σ H Q q)⟩
theorem k_nil : PK X [] (TAx G W aN) := PKw pk_nil fun σ H Q h => by
  obtain ⟨rho, mu, m, Own, S, h⟩ := h
  exact h [] H m Lf.refl S .nil
theorem k_cons {kws : List Keyword} {nm : Option Str} {kp : Pos} {d : EvD} {r : Ev → Mem → Out (List Da)} (ha : PE X e (TEx G W d)) (hr : PK X kws (TAx G W r)) : PK X (⟨nm, e, kp⟩ :: kws) (TAx G W (aC d r)) := by
  refine PKw (pk_cons ha hr) fun σ H Q h => ?_
  obtain ⟨rho, mu, m, Own, S, h⟩ := h.un
  refine TEx.to S (wp_bnd h) fun x mu1 v1 H1 m1 h1 g1 S1 r1 => TAx.to S1 (wp_step g1 (wp_bnd h1)) fun y mu2 v2 H2 m2 h2 g2 S2 r2 => ?_
  exact h2 _ H2 m2 (g1.trans g2) S2 (.cons (r1.mono (g2.le _)) r2)
/-- f(k = v, ..): the values come into the parameters' order -/
def pick {α : Type} (perm : List Nat) (l : List α) : List α := perm.filterMap fun i => l[i]?
def eCK (fn : Fn) (perm : List Nat) (b : Ev → Mem → Out (List Da)) : EvD := fun rho mu => bnd (b rho mu) fun ys mu1 => fn (pick perm ys) mu1
abbrev BindKw (x : Str) (st : Stmt) (ps ks : List Str) (perm : List Nat) : Prop := ∀ (kV doc pm : Value) (an : Option Addr) (cdv ct : Value) (ws : List Value), ws.length = ks.length → bindArgs (PySem.W.fnOf x x (defArgs st) (defBody st) (defScope st) .none kV doc pm an cdv ct) ⟨[], ks.zip ws⟩ = pure (ps.zip (pick perm ws))
theorem RDs.none_at {m : List Addr} {B : Addr → Prop} {H : Hp} : ∀ {ds : List Da} {vs : List V} {i : Nat}, RDs m B H ds vs → ds[i]? = none → vs[i]? = none := fun {ds vs i} r e => by
  rw [List.getElem?_eq_none_iff] at e ⊢
  rw [← r.length]
  exact e
theorem RDs.pick {m : List Addr} {B : Addr → Prop} {H : Hp} {ds : List Da} {vs : List V} (r : RDs m B H ds vs) : ∀ perm : List Nat, RDs m B H (Sk.pick perm ds) (Sk.pick perm vs)
  | [] => .nil
  | i :: perm => by
    unfold Sk.pick
    rw [List.filterMap_cons, List.filterMap_cons]
    cases e : ds[i]? with
    | none => rw [r.none_at e]; exact RDs.pick r perm
    | some d =>
      obtain ⟨v, ev, rv⟩ := r.get e
      rw [ev]
      exact .cons rv (RDs.pick r perm)
theorem Vals.pick {vs : List V} {us : List Value} (r : Vals vs us) : ∀ perm : List Nat, Vals (Sk.pick perm vs) (Sk.pick perm us)
  | [] => .nil
  | i :: perm => by
    unfold Sk.pick
    rw [List.filterMap_cons, List.filterMap_cons]
    cases e : vs[i]? with
    | none => rw [r.none_of e]; exact Vals.pick r perm
    | some d =>
      obtain ⟨v, ev, rv⟩ := r.get e
      rw [ev]
      exact .cons rv (Vals.pick r perm)
theorem c_fk {kws : List Keyword} {ks : List Str} {perm : List Nat} {r : Ev → Mem → Out (List Da)} (F : Df X.prog X.w X.K X.mg X.base k x st ps fn) (hb : BindKw x st ps ks perm) (hK : G.K = X.K) (hr : Rm lv X.A) (tk : Takes X W) (ha : PK X kws (TAx G W r)) (hln : ∀ rho mu xs mu', r rho mu = .ok xs mu' → xs.length = ks.length) (hlv : k ≤ lv := by decide) (hg : Gl X x := by rfl) (hdb : (x == ("__debug__" : Str)) = false := by decide)
    (hall : (backToKw pos (keywordEach kws X.env)).all (·.1.isSome) = true := by rfl) (hks : (backToKw pos (keywordEach kws X.env)).filterMap (·.1) = ks := by rfl) (hpl : ((backTo pos (starEach [] X.env)).any (·.1) || (backToKw pos (keywordEach kws X.env)).any (·.1.isNone)) = false := by rfl) :
    PE X (.Call (.Name x p) [] kws pos) (TEx G W (eCK fn perm r)) := by
  obtain ⟨fd, F1, F2⟩ := F.ex
  obtain ⟨oc, od, dV, kV, doc, pm, an, cdv, ct, osl, efd, lk, hcd, hD, hKw⟩ := id F1.ex
  have edV : dV = .none := by
    rcases hD with ⟨_, z⟩ | ⟨z, _⟩
    · exact z
    · exact absurd rfl z
  subst edV
  refine ⟨fun pins s σ H Q I h => wpAny_Call_Name_kw (ld_glob I hg F.mg ?_ hdb)⟩
  obtain ⟨rho, mu, m, Own, S, h⟩ := h.un
  have e0 := hln rho mu
  have h' := wp_bnd h
  refine PySem.W.callWith_KW0 (h₀ := X.base) I.ok.mod.kin F1.kp hall (thn (ha.run pos pins s σ H _ I (TAx.to (Q := fun vs H1 => vs.length = ks.length ∧ spOf X.K fn (Sk.pick perm vs) H1 Q (fun c d H' => W c d σ H')) (A := fun z mu1 => (fn (Sk.pick perm z) mu1).wp (QE G rho σ Own m H Q) (ES G W rho σ Own m H) ∧ z.length = ks.length) S ?_ fun xs mu1 vs H1 m1 ⟨h1, hl⟩ g1 S1 r1 => ⟨by rw [← r1.length, hl], ?_⟩)) fun ws s2 ⟨zs, H2, I2, rz, hl, q⟩ => ⟨I2.kIn, ?_⟩) hpl
  · cases e : r rho mu with
    | ok z mu1 => rw [e] at h'; exact ⟨h', e0 _ _ e⟩
    | exc x mu1 => rw [e] at h'; exact h'
    | bad => rw [e] at h'; exact h'
  · rw [← hK]
    exact sp_of S1 g1 (r1.pick perm) h1
  · rw [hks]
    refine wpAny_call (codeAny_mono (runG (E := fun σ c d H' => W c d σ H') F2 (hr.mono hlv) (passAt tk σ) I2 (.of_eq (by rw [efd]; exact hb kV doc pm an cdv ct ws (by rw [← rz.length, hl]))) (Vals.pick rz perm) q) fun res s' hq => ?_)
    cases res with
    | error er => exact hq
    | ok fl =>
      cases fl with
      | ret u => exact hq
      | next => exact hq.elim
      | brk => exact hq.elim
      | cont => exact hq.elim
end

/-! ### the law's end -/
/-- the law's promise: any script of at most 63 ints gives True -/
def spLaw (K : PySem.W.Frag) : Sp := fun vs H Q _ => ∃ (a : Addr) (ns : List Int) (o : Obj), vs = [.ref a] ∧ H a = some (.frz o (.lst (ns.map V.int))) ∧ ns.length ≤ 63 ∧ ∀ H', Q (.bl true) H'
/-- what the law does as a function of data -/
def Lawful (fn : Fn) : Prop := ∀ ns : List Int, ns.length ≤ 63 → ∃ mu', fn [.ref 0] [.scr (ns.map Da.int)] = .ok (.bl true) mu'
theorem ints_rd {m : List Addr} {B : Addr → Prop} {H : Hp} : ∀ ns : List Int, RDs m B H (ns.map Da.int) (ns.map V.int)
  | [] => .nil
  | n :: ns => .cons (.int n) (ints_rd ns)
theorem law_sp {K : PySem.W.Frag} {fn : Fn} (h : Lawful fn) {vs : List V} {H : Hp} {Q : VK} {E : XK} (q : spLaw K vs H Q E) : spOf K fn vs H Q E := by
  obtain ⟨a, ns, o, rfl, ha, hl, k⟩ := q
  obtain ⟨mu', e⟩ := h ns hl
  refine ⟨[a], NoB, [.ref 0], [.scr (ns.map Da.int)], ⟨.cons ⟨o, _, ha, ints_rd ns⟩ .nil, by simp, fun _ _ z => z, fun _ z => z.elim⟩, .cons (.ref rfl) .nil, ?_⟩
  rw [e]
  intro v H' m' g w r
  cases r
  exact k H'
end Sk

/-! Sk N: the law's call behind the top. -/
namespace Sk
open PySem PySem.Spec L2

/-- the law's call: the script is the one thing that is tracked -/
theorem law_run {P : Program} {w : World} {K : PySem.W.Frag} {mg mb : Str → Option Value} {k : Nat} {fa a : Addr} {fd : FuncData} {x : Str} {sp : Sp} {s : Shared} {vs : List Value} {ns : List Int} (KX : K.In s.heap) (hns : s.heap.Ns mainGlobals mg) (hb : s.heap.Ns builtinsNs mb)
    (hbb : ∀ x : Str, x ≠ "__name__" → mb x = bootBuiltins x) (hlim : s.heap.NoLimit) (hg : s.gens = #[]) (ha : s.heap.get? a = some { cls := .type "list", data := .seq vs.toArray }) (hi : PyProof.Rows.IntsAre vs ns) (hl : ns.length ≤ sizeLine) (hr : Rm k callerA) (hk : K.lookup a = none)
    (F : ∀ base : Heap, K.In base → base.Ns mainGlobals mg → FnG P w K mg base k fa fd [x] sp) (hbind : ∀ (s : Shared) (u : Value), BindsTo s fd ⟨[u], []⟩ [(x, u)]) (hsp : ∀ (H : Hp) (o : Obj), H a = some (.frz o (.lst (ns.map V.int))) → sp [.ref a] H (fun v _ => v = .bl true) fun _ _ _ => False) :
    codeAny (model P w) callerA (.call (.ref fa) ⟨[.ref a], []⟩) (fun r s' => r = .ok (.ret (.bool true)) ∧ OldK s.heap s'.heap ∧ s'.os = s.os ∧ PyProof.Rows.AllBare s'.gens) s := by
  let sc : Obj := { cls := .type "list", data := .seq vs.toArray }
  let H : Hp := fun b => if b = a then some (.frz sc (.lst (ns.map V.int))) else none
  have Ha : H a = some (.frz sc (.lst (ns.map V.int))) := if_pos rfl
  have Hn : ∀ b, b ≠ a → H b = none := fun b h => if_neg h
  have hok : HOk P w H s.heap := fun b u e => by
    by_cases hb : b = a
    · subst hb
      rw [Ha] at e
      cases e
      exact ⟨ha, by rw [List.length_map]; exact hl, vs, 0, vals_ints hi, ha⟩
    · rw [Hn b hb] at e; cases e
  -- what is not the script stays in the base
  have low : ∀ {b : Addr} {o : Obj}, s.heap.get? b = some o → b ≠ a → (hidT s.heap H).get? b = some o := fun e n => hidT_get e (Hn _ n)
  have lowD : ∀ {b : Addr} {m : Str → Option Value}, s.heap.Ns b m → (hidT s.heap H).Ns b m := fun {b m} ⟨o, es, ep, e, d, r⟩ => ⟨o, es, ep, low e (fun z => by
    subst z
    rw [ha] at e
    cases e
    have d' : Data.seq vs.toArray _ = Data.dict es ep := d
    cases d'), d, r⟩
  have KB : K.In (hidT s.heap H) := fun b o e => low (KX b o e) fun z => by
    subst z
    rw [hk] at e
    cases e
  obtain ⟨mc, n1, n2⟩ := hlim
  have e0 : Env0 P w K mg (hidT s.heap H) callerA [] s H := ⟨rfl, ⟨KB, lowD hns, ⟨mb, lowD hb, hbb⟩, ⟨mc, lowD n1, n2⟩⟩, fun b o e => of_hidT e, Nat.le_of_eq (hidT_size _ _), trivial, fun b z => absurd (show b ∈ ([] : List Addr) from z) (by simp), hok, .of_eq hg⟩
  refine codeAny_mono ((F _ KB (lowD hns)).run callerA [] s H ⟨[.ref a], []⟩ [.ref a] [.ref a] _ _ hr e0 (hbind s (.ref a)) (.cons rfl .nil) (hsp H sc Ha)) fun r s' h => ?_
  cases r with
  | error e =>
    obtain ⟨_, _, _, _, _, _, _, _, _, _, _, _, z⟩ := h
    exact z.elim
  | ok fl =>
    cases fl with
    | next => exact h.elim
    | brk => exact h.elim
    | cont => exact h.elim
    | ret u =>
      obtain ⟨v, H', os, bare, un, hok', rv, q⟩ := h
      have q' : v = .bl true := q
      subst q'
      have eu : u = Value.bool true := rv
      subst eu
      refine ⟨rfl, OldK.of_keep fun b o e => ?_, os, bare⟩
      by_cases hb : b = a
      · subst hb
        obtain ⟨e1, _⟩ := hok b _ Ha
        obtain ⟨e2, _⟩ := hok' b _ (un.frzs b sc _ Ha)
        rw [e] at e1
        cases e1
        exact e2
      · exact un.keep b o e (Hn b hb) (by intro z; exact absurd (show b ∈ ([] : List Addr) from z) (by simp)) (by simp)
/-- no list stands in the written part -/
def noList (K : PySem.W.Frag) : Bool := K.all fun p => match p.2.cls with
  | .type n => n != "list"
  | _ => true
theorem lookup_mem {K : PySem.W.Frag} {a : Addr} {o : Obj} : K.lookup a = some o → (a, o) ∈ K := by
  induction K with
  | nil => intro h; cases h
  | cons p r ih =>
    intro h
    obtain ⟨b, u⟩ := p
    have h2 : (match a == b with | true => some u | false => r.lookup a) = some o := h
    cases q : a == b with
    | true =>
      rw [q] at h2
      cases h2
      rw [beq_iff_eq.mp q]
      exact List.mem_cons_self
    | false =>
      rw [q] at h2
      exact List.mem_cons_of_mem _ (ih h2)
theorem noList_at {K : PySem.W.Frag} {h : Heap} {a : Addr} {o : Obj} (n : noList K = true) (KX : K.In h) (e : h.get? a = some o) (hc : o.cls = .type "list") : K.lookup a = none := by
  cases q : K.lookup a with
  | none => rfl
  | some u =>
    have e2 := KX a u q
    rw [e] at e2
    cases e2
    have z := List.all_eq_true.mp n _ (lookup_mem q)
    simp only [hc] at z
    exact absurd z (by decide)
/-- the facts that the head reads -/
abbrev AlN : Type := He.AlD × Bool
def obsN (n : Nat) (fa : List He.Fa) (fn : List He.DefD) (g : Addr → Option Obj) : AlN := (He.obsDG n fa fn g, noList (He.frG g (He.asD g n)))
def hookN (n : Nat) (fa : List He.Fa) (fn : List He.DefD) : PySem.W.Hook where
  α := AlN
  obs := fun s => obsN n fa fn s.heap.get?
  val := fun _ => (He.valD fn, true)
  says := fun _ h => ∃ K : PySem.W.Frag, K.In h ∧ He.SaysD fa fn K ∧ noList K = true
  of := fun _ _ e => ⟨_, He.frG_in, congrArg Prod.fst e, congrArg Prod.snd e⟩
  keeps := fun _ _ _ ⟨K, hK, c⟩ k => ⟨K, PySem.W.Frag.In.keeps hK k, c⟩
theorem obsN_eq {n : Nat} {fa : List He.Fa} {fn : List He.DefD} {g : Addr → Option Obj} {s : Shared} (h : ∀ a, g a = s.heap.get? a) : obsN n fa fn g = (hookN n fa fn).obs s := by
  have e : g = s.heap.get? := funext h
  rw [e]
  rfl
/-- a law over its data -/
theorem walk_law {l : PySem.W.OpenLaw} {n k : Nat} {q : Program} {loose : List Str} {XP : (Str → Option Value) → Heap → Prop} {YP : World → Heap → Prop} {d : DefRec} {x : Str} (hn : l.most = some n) (hn2 : n ≤ sizeLine) (hdf : d.params.defaults = []) (hr : Rm k callerA)
    (F : ∀ (w : World) (mg : Str → Option Value) (fa : Addr) (h : Heap), YP w h → h.Ns mainGlobals mg → mg d.name = some (.ref fa) →
      ∃ (K : PySem.W.Frag) (fd : FuncData) (sp : Sp), K.In h ∧ noList K = true ∧ (∀ (s : Shared) (u : Value), BindsTo s fd ⟨[u], []⟩ [(x, u)]) ∧
        (∀ (H : Hp) (a : Addr) (ns : List Int) (o : Obj), ns.length ≤ n → H a = some (.frz o (.lst (ns.map V.int))) → sp [.ref a] H (fun v _ => v = .bl true) fun _ _ _ => False) ∧
        ∀ base : Heap, K.In base → base.Ns mainGlobals mg → FnG l.prog w K mg base k fa fd [x] sp) : PySem.W.WalkO q loose XP YP l.row.toRowW d [] (fun f vs => PySem.call f vs) := by
  refine Att.attach_call hn hdf fun w s₀ s₁ mg mb fa o pm cd doc a vs ns G Y ho hd hcd hmg hobj hints hlen hg => ?_
  obtain ⟨K, fd, sp, KX, nl, hb, hsp, hF⟩ := F w mg fa _ Y G.T.g hmg
  exact law_run KX G.T.g G.T.b G.T.builtins G.T.nolimit hg hobj hints (Nat.le_trans hlen hn2) hr (noList_at nl KX hobj rfl) hF hb fun H o hH => hsp H a ns o hlen hH
end Sk

/-! Sk O: more rules: x, d[k] = a, b; tuple(range(..)). -/
namespace Sk
open PySem PySem.Spec L2

theorem takesF {X : Cx} : Takes X WF := fun _ _ ⟨_, _, _, _, _, _, _, _, _, _, _, _, _, _, _, _, z⟩ => z.elim
theorem fd_eq {K : PySem.W.Frag} {fd fd' : FuncData} {f : Addr} {q1 q2 : Str} {a : Arguments} {b : List Stmt} {sc : Scope} (h : FunD K q1 q2 a b sc [] [] f fd) (h' : FunD K q1 q2 a b sc [] [] f fd') : fd = fd' := by
  obtain ⟨oc, od, dV, kV, doc, pm, an, cdv, ct, osl, efd, lk, _⟩ := h.ex
  obtain ⟨oc', od', dV', kV', doc', pm', an', cdv', ct', osl', efd', lk', _⟩ := h'.ex
  rw [lk] at lk'
  cases lk'
  rfl
section
variable {X : Cx} {G : Fr} {W : WX} {pos : Pos} {a b e : Expr} {da db dc : EvD}
/-- x, d[k] = a, b -/
def sPD (i : Nat) (o : EvD) (k : Str) (a b : EvD) : StD := fun rho mu => sUse (a rho mu) rho fun x mu1 => sUse (b rho mu1) rho fun y mu2 =>
  sUse (o (rho.set i (.val x)) mu2) (rho.set i (.val x)) fun z mu3 => match z with
    | .ref n => (match numput n k y mu3 with
      | some mu4 => .nx (rho.set i (.val x)) mu4
      | none => .bad)
    | _ => .bad
theorem s_pd {i j : Nat} {x k : Str} {o : Expr} {px ps pt pt2 kp : Pos} {kt k2} {lv : Nat} (hr : Rm lv X.A) (ha : PE X a (TEx G W da)) (hb : PE X b (TEx G W db)) (ho : PE X o (TEx G W dc)) (hN : X.N.Nodup) (hi : X.N[i]? = some x := by rfl) (hx : Loc X.env.scope x := by first | exact Or.inl rfl | exact Or.inr rfl)
    (hf : X.fn x = true ∨ X.env.scope.names.lookup x = some .local := by first | exact .inl rfl | exact .inr rfl)
    (hs : swapsWithSole [.Tuple [.Name x px, .Subscript o (.Constant (.str k) j kp) ps] kt pt] (.Tuple [a, b] k2 pt2) pos.line X.env = pure false := by rfl) (hw : swappedStores [.Tuple [.Name x px, .Subscript o (.Constant (.str k) j kp) ps] kt pt] (.Tuple [a, b] k2 pt2) X.env = pure none := by rfl)
    (h1 : (assignEach [.Tuple [.Name x px, .Subscript o (.Constant (.str k) j kp) ps] kt pt] X.env).map (·.2) = [assign (.Tuple [.Name x px, .Subscript o (.Constant (.str k) j kp) ps] kt pt) X.env] := by rfl)
    (hl : (assignEach [.Name x px, .Subscript o (.Constant (.str k) j kp) ps] X.env).length = 2 := by rfl) (hst : (assignEach [.Name x px, .Subscript o (.Constant (.str k) j kp) ps] X.env).findIdx? (·.1) = none := by rfl)
    (e1 : starEach [a, b] X.env = (false, eval a X.env) :: starEach [b] X.env := by rfl) (e2 : starEach [b] X.env = (false, eval b X.env) :: starEach [] X.env := by rfl)
    (es : ∀ v, assign (.Subscript o (.Constant (.str k) j kp) ps) X.env v = (do
      let ov ← holding [v] (eval o X.env)
      let iv ← holding [v, ov] (eval (.Constant (.str k) j kp) X.env)
      standAt ps
      holding [v, ov, iv] (setItem ov iv v)
      release [v, ov, iv] []) := by intro _; rfl)
    (g1 : (assignEach [.Name x px, .Subscript o (.Constant (.str k) j kp) ps] X.env).map (·.2) = assign (.Name x px) X.env :: (assignEach [.Subscript o (.Constant (.str k) j kp) ps] X.env).map (·.2) := by rfl)
    (g2 : (assignEach [.Subscript o (.Constant (.str k) j kp) ps] X.env).map (·.2) = assign (.Subscript o (.Constant (.str k) j kp) ps) X.env :: (assignEach [] X.env).map (·.2) := by rfl) (hc : X.calm = true := by rfl) :
    PS X (.Assign [.Tuple [.Name x px, .Subscript o (.Constant (.str k) j kp) ps] kt pt] (.Tuple [a, b] k2 pt2) pos) (TSx G W (sPD i dc k da db)) := by
  refine PSw (ps_asg (pe_tup (pa_cons ha (pa_cons hb pa_nil e2) e1)) (pg_tup hc (pgs_cons (pg_name hN hi hx hf) (pgs_cons (pg_sub ho pe_str (set_dict (Nat.lt_of_le_of_lt (by omega) (hu_of hr.r))) es) pgs_nil g2) g1) hl hst) hs hw h1) fun D σ H ⟨rho, mu, m, Own, S, h⟩ => ?_
  refine TEx.to S (use_wp (σ := σ) h) fun z1 mu1 v1 H1 m1 h1 g1 S1 r1 => TEx.to S1 (use_wp (σ := σ) (SOk.step (g1.le (G.bar Own)) h1)) fun z2 mu2 v2 H2 m2 h2 g2 S2 r2 => ?_
  have two : 2 ≤ sizeLine := by decide
  refine ⟨two, fun t ht => ⟨t, [v1, v2], rfl, SqT.of upd_same, rfl, ?_⟩⟩
  have sm : Same H2 (upd H2 t (.tup [v1, v2])) := same_upd ht
  have le := (Lf.of_same (m := m2) sm).le (G.bar Own)
  have S3 := (S2.same sm).setv i ((r1.mono (g2.le (G.bar Own))).mono le)
  refine ⟨v1, [v2], rfl, v2, [], rfl, ?_⟩
  have h3 := SOk.step le (SOk.step (g2.le (G.bar Own)) h2)
  refine TEx.to S3 (use_wp (σ := σ.set i (some v1)) h3) fun z3 mu3 v3 H3 m3 h3 g3 S4 r3 => ?_
  cases z3 with
  | ref n =>
    cases r3 with
    | ref hn =>
      dsimp only at h3
      cases ep : numput n k z2 mu3 with
      | none => rw [ep] at h3; exact h3.elim
      | some mu4 =>
        rw [ep] at h3
        obtain ⟨H', dp, S', g⟩ := put_step S4 hn ((r2.mono le).mono (g3.le _)) ep
        exact ⟨_, H', rfl, dp, rfl, h3 _ H' m3 Own (Lf.le (g3.trans g) _) S'⟩
  | _ => exact h3.elim
/-! ### tuple(range(..)), list(range(..)) -/
def rgOk (a b : Int) : Bool := decide (-(2 ^ 62) ≤ a ∧ a < 2 ^ 62 ∧ -(2 ^ 62) ≤ b ∧ b < 2 ^ 62 ∧ (b - a).toNat ≤ 2 ^ 24)
def eRg1 (f : List Da → Da) (a : EvD) : EvD := fun rho mu => bnd (a rho mu) fun x mu1 => match x with
  | .int j => if rgOk 0 j then .ok (f (rngD 0 (j - 0).toNat)) mu1 else .bad
  | _ => .bad
def eRg2 (f : List Da → Da) (a b : EvD) : EvD := fun rho mu => bnd (a rho mu) fun x mu1 => bnd (b rho mu1) fun y mu2 => match x, y with
  | .int i, .int j => if rgOk i j then .ok (f (rngD i (j - i).toNat)) mu2 else .bad
  | _, _ => .bad
abbrev eRngT1 := eRg1 Da.tup
abbrev eRngL1 := eRg1 Da.lst
abbrev eRngT2 := eRg2 Da.tup
abbrev eRngL2 := eRg2 Da.lst
theorem rngD_rd {m : List Addr} {B : Addr → Prop} {H : Hp} (a : Int) : ∀ (n : Nat) (c : Int), RDs m B H (rngD c n) ((List.range n).map fun i => V.int (c + (i : Nat)))
  | 0, _ => .nil
  | n + 1, c => by
    rw [List.range_succ_eq_map, List.map_cons, List.map_map]
    refine .cons ?_ ?_
    · rw [Int.natCast_zero, Int.add_zero]; exact .int c
    · have e : ((fun i : Nat => V.int (c + (i : Nat))) ∘ Nat.succ) = fun i : Nat => V.int ((c + 1) + (i : Nat)) := by
        funext i
        show V.int (c + ((i + 1 : Nat) : Int)) = _
        congr 1
        omega
      rw [e]
      exact rngD_rd a n (c + 1)
theorem rgOk_ok {a b : Int} (h : rgOk a b = true) : RgOk a b := by
  unfold rgOk at h
  simpa [RgOk] using h
theorem c_rngT1 {p p2 pos2 : Pos} (hm : X.mg "tuple" = none) (hm2 : X.mg "range" = none) (ha : PE X a (TEx G W da)) (hg : Gl X "tuple" := by rfl) (hg2 : Gl X "range" := by rfl) (hc : X.calm = true := by rfl)
    (na : starEach [a] X.env = (false, eval a X.env) :: starEach [] X.env := by rfl) (nb : starEach [.Call (.Name "range" p2) [a] [] pos2] X.env = (false, eval (.Call (.Name "range" p2) [a] [] pos2) X.env) :: starEach [] X.env := by rfl) :
    PE X (.Call (.Name "tuple" p) [.Call (.Name "range" p2) [a] [] pos2] [] pos) (TEx G W (eRngT1 da)) := by
  refine PEw (pe_tupRg hc hg hm (prg_1 hg2 hm2 ha na) nb) fun σ H Q h => ?_
  obtain ⟨rho, mu, m, Own, S, h⟩ := h.un
  refine TEx.to S (wp_bnd h) fun x mu1 v1 H1 m1 h1 g1 S1 r1 => ?_
  cases x with
  | int j =>
    cases r1
    dsimp only at h1
    by_cases ok : rgOk 0 j = true
    · rw [if_pos ok] at h1
      refine ⟨j, rfl, rgOk_ok ok, fun q hq => h1 _ _ m1 (g1.trans (Lf.of_same (same_upd hq))) (S1.same (same_upd hq)) (RD.new_tup (rngD_rd 0 _ _) hq (S1.fresh hq).1 (S1.fresh hq).2)⟩
    · rw [if_neg ok] at h1
      exact h1.elim
  | _ => exact h1.elim
theorem c_rngL1 {p p2 pos2 : Pos} (hm : X.mg "list" = none) (hm2 : X.mg "range" = none) (ha : PE X a (TEx G W da)) (hg : Gl X "list" := by rfl) (hg2 : Gl X "range" := by rfl) (hc : X.calm = true := by rfl)
    (na : starEach [a] X.env = (false, eval a X.env) :: starEach [] X.env := by rfl) (nb : starEach [.Call (.Name "range" p2) [a] [] pos2] X.env = (false, eval (.Call (.Name "range" p2) [a] [] pos2) X.env) :: starEach [] X.env := by rfl) :
    PE X (.Call (.Name "list" p) [.Call (.Name "range" p2) [a] [] pos2] [] pos) (TEx G W (eRngL1 da)) := by
  refine PEw (pe_listRg hc hg hm (prg_1 hg2 hm2 ha na) nb) fun σ H Q h => ?_
  obtain ⟨rho, mu, m, Own, S, h⟩ := h.un
  refine TEx.to S (wp_bnd h) fun x mu1 v1 H1 m1 h1 g1 S1 r1 => ?_
  cases x with
  | int j =>
    cases r1
    dsimp only at h1
    by_cases ok : rgOk 0 j = true
    · rw [if_pos ok] at h1
      refine ⟨j, rfl, rgOk_ok ok, fun q hq => h1 _ _ m1 (g1.trans (Lf.of_same (same_upd hq))) (S1.same (same_upd hq)) (RD.new_lst (rngD_rd 0 _ _) hq (S1.fresh hq).1 (S1.fresh hq).2)⟩
    · rw [if_neg ok] at h1
      exact h1.elim
  | _ => exact h1.elim
theorem c_rngT2 {p p2 pos2 : Pos} (hm : X.mg "tuple" = none) (hm2 : X.mg "range" = none) (ha : PE X a (TEx G W da)) (hb : PE X b (TEx G W db)) (hg : Gl X "tuple" := by rfl) (hg2 : Gl X "range" := by rfl) (hc : X.calm = true := by rfl)
    (na : starEach [a, b] X.env = (false, eval a X.env) :: starEach [b] X.env := by rfl) (na2 : starEach [b] X.env = (false, eval b X.env) :: starEach [] X.env := by rfl) (hp : (backTo pos2 (starEach [b] X.env)).any (·.1) = false := by rfl)
    (nb : starEach [.Call (.Name "range" p2) [a, b] [] pos2] X.env = (false, eval (.Call (.Name "range" p2) [a, b] [] pos2) X.env) :: starEach [] X.env := by rfl) :
    PE X (.Call (.Name "tuple" p) [.Call (.Name "range" p2) [a, b] [] pos2] [] pos) (TEx G W (eRngT2 da db)) := by
  refine PEw (pe_tupRg hc hg hm (prg_2 hg2 hm2 ha hb na na2 hp) nb) fun σ H Q h => ?_
  obtain ⟨rho, mu, m, Own, S, h⟩ := h.un
  refine TEx.to S (wp_bnd h) fun x mu1 v1 H1 m1 h1 g1 S1 r1 => TEx.to S1 (wp_step g1 (wp_bnd h1)) fun y mu2 v2 H2 m2 h2 g2 S2 r2 => ?_
  match x, y, r1, r2, h2 with
  | .int i, .int j, .int _, .int _, h2 =>
    by_cases ok : rgOk i j = true
    · simp only [if_pos ok] at h2
      refine ⟨i, j, rfl, rfl, rgOk_ok ok, fun q hq => h2 _ _ m2 ((g1.trans g2).trans (Lf.of_same (same_upd hq))) (S2.same (same_upd hq)) (RD.new_tup (rngD_rd 0 _ _) hq (S2.fresh hq).1 (S2.fresh hq).2)⟩
    · simp only [if_neg ok] at h2
      exact h2.elim
end
end Sk

/-! Sk P: reckoning with the mirrors: what holds behind them. -/
namespace Sk
open PySem

def Yes {α : Type} (o : Out α) (P : α → Mem → Prop) : Prop := match o with
  | .ok a mu => P a mu
  | _ => False
structure Po where
  nx : Ev → Mem → Prop
  rt : Da → Mem → Prop
  bk : Ev → Mem → Prop
  ct : Ev → Mem → Prop
def SP (o : SO) (D : Po) : Prop := match o with
  | .nx r m => D.nx r m
  | .rt d m => D.rt d m
  | .bk r m => D.bk r m
  | .ct r m => D.ct r m
  | _ => False
theorem Yes.mono {α : Type} {o : Out α} {P Q : α → Mem → Prop} (h : Yes o P) (w : ∀ a m, P a m → Q a m) : Yes o Q := by
  cases o with
  | ok a m => exact w a m h
  | _ => exact h
theorem Yes.eq {α : Type} {o : Out α} {P : α → Mem → Prop} (h : Yes o P) : ∃ a m, o = .ok a m ∧ P a m := by
  cases o with
  | ok a m => exact ⟨a, m, rfl, h⟩
  | _ => exact h.elim
theorem yes_of_eq {α : Type} {o : Out α} {P : α → Mem → Prop} {a : α} {m : Mem} (e : o = .ok a m) (h : P a m) : Yes o P := by rw [e]; exact h
theorem SP.mono {o : SO} {D D' : Po} (h : SP o D) (h1 : ∀ r m, D.nx r m → D'.nx r m) (h2 : ∀ r m, D.rt r m → D'.rt r m) (h3 : ∀ r m, D.bk r m → D'.bk r m) (h4 : ∀ r m, D.ct r m → D'.ct r m) : SP o D' := by
  cases o with
  | nx r m => exact h1 _ _ h
  | rt r m => exact h2 _ _ h
  | bk r m => exact h3 _ _ h
  | ct r m => exact h4 _ _ h
  | _ => exact h
section
variable {α : Type} {P : Da → Mem → Prop} {rho : Ev} {mu : Mem} {D : Po}
@[simp] theorem yes_ok {β : Type} {P : β → Mem → Prop} {a : β} : Yes (.ok a mu) P ↔ P a mu := Iff.rfl
@[simp] theorem yes_bad {β : Type} {P : β → Mem → Prop} : Yes (.bad : Out β) P ↔ False := Iff.rfl
@[simp] theorem yes_opt_some {β : Type} {P : β → Mem → Prop} {a : β} : Yes (opt (some a) mu) P ↔ P a mu := Iff.rfl
@[simp] theorem yes_opt_none {β : Type} {P : β → Mem → Prop} : Yes (opt (none : Option β) mu) P ↔ False := Iff.rfl
theorem yes_bnd {β γ : Type} {P : γ → Mem → Prop} {o : Out β} {f : β → Mem → Out γ} : Yes (bnd o f) P ↔ Yes o fun a m => Yes (f a m) P := by cases o <;> exact Iff.rfl
@[simp] theorem yes_eV {i : Nat} : Yes (eV i rho mu) P ↔ (match rho[i]? with | some (.val d) => P d mu | _ => False) := by
  unfold eV
  cases h : rho[i]? with
  | none => exact Iff.rfl
  | some s => cases s <;> exact Iff.rfl
@[simp] theorem yes_eK {d : Da} : Yes (eK d rho mu) P ↔ P d mu := Iff.rfl
@[simp] theorem yes_e1 {f : Da → Option Da} {a : EvD} : Yes (e1 f a rho mu) P ↔ Yes (a rho mu) fun x m => Yes (opt (f x) m) P := yes_bnd
@[simp] theorem yes_e2 {f : Da → Da → Option Da} {a b : EvD} : Yes (e2 f a b rho mu) P ↔ Yes (a rho mu) fun x m => Yes (b rho m) fun y m2 => Yes (opt (f x y) m2) P := by
  unfold e2; rw [yes_bnd]; simp only [yes_bnd]
variable {Q : List Da → Mem → Prop} {R : Bool → Mem → Prop} {a b : EvD} {r : Ev → Mem → Out (List Da)}
@[simp] theorem yes_aN : Yes (aN rho mu) Q ↔ Q [] mu := Iff.rfl
@[simp] theorem yes_aC : Yes (aC a r rho mu) Q ↔ Yes (a rho mu) fun x m => Yes (r rho m) fun xs m2 => Q (x :: xs) m2 := by
  unfold aC; rw [yes_bnd]; simp only [yes_bnd, yes_ok]
@[simp] theorem yes_eTup : Yes (eTup r rho mu) P ↔ Yes (r rho mu) fun xs m => P (.tup xs) m := by unfold eTup; rw [yes_bnd]; simp only [yes_ok]
@[simp] theorem yes_eLst : Yes (eLst r rho mu) P ↔ Yes (r rho mu) fun xs m => P (.lst xs) m := by unfold eLst; rw [yes_bnd]; simp only [yes_ok]
@[simp] theorem yes_eB {f : List Da → Option Da} : Yes (eB f r rho mu) P ↔ Yes (r rho mu) fun xs m => Yes (opt (f xs) m) P := yes_bnd
@[simp] theorem yes_eC {f : Fn} : Yes (eC f r rho mu) P ↔ Yes (r rho mu) fun xs m => Yes (f xs m) P := yes_bnd
@[simp] theorem yes_eCK {f : Fn} {p : List Nat} : Yes (eCK f p r rho mu) P ↔ Yes (r rho mu) fun xs m => Yes (f (pick p xs) m) P := yes_bnd
@[simp] theorem yes_tV : Yes (tV a rho mu) R ↔ Yes (a rho mu) fun x m => match x with | .bl k => R k m | _ => False := by
  unfold tV; rw [yes_bnd]
  cases a rho mu with
  | ok d m => cases d <;> exact Iff.rfl
  | _ => exact Iff.rfl
variable {s t : EvT}
@[simp] theorem yes_tAnd : Yes (tAnd s t rho mu) R ↔ Yes (s rho mu) fun k m => if k then Yes (t rho m) R else R false m := by
  unfold tAnd; rw [yes_bnd]
  cases s rho mu with
  | ok d m => cases d <;> exact Iff.rfl
  | _ => exact Iff.rfl
@[simp] theorem yes_tOr : Yes (tOr s t rho mu) R ↔ Yes (s rho mu) fun k m => if k then R true m else Yes (t rho m) R := by
  unfold tOr; rw [yes_bnd]
  cases s rho mu with
  | ok d m => cases d <;> exact Iff.rfl
  | _ => exact Iff.rfl
@[simp] theorem yes_tNot : Yes (tNot s rho mu) R ↔ Yes (s rho mu) fun k m => R (!k) m := by unfold tNot; rw [yes_bnd]; simp only [yes_ok]
@[simp] theorem yes_tT : Yes (tT rho mu) R ↔ R true mu := Iff.rfl
@[simp] theorem yes_eIf : Yes (eIf t a b rho mu) P ↔ Yes (t rho mu) fun k m => if k then Yes (a rho m) P else Yes (b rho m) P := by
  unfold eIf; rw [yes_bnd]
  cases t rho mu with
  | ok d m => cases d <;> exact Iff.rfl
  | _ => exact Iff.rfl
@[simp] theorem yes_eAnd : Yes (eAnd a b rho mu) P ↔ Yes (a rho mu) fun x m => match x with | .bl k => (if k then Yes (b rho m) P else P (.bl false) m) | _ => False := by
  unfold eAnd; rw [yes_bnd]
  cases a rho mu with
  | ok d m => cases d with
    | bl k => cases k <;> exact Iff.rfl
    | _ => exact Iff.rfl
  | _ => exact Iff.rfl
@[simp] theorem yes_eOr : Yes (eOr a b rho mu) P ↔ Yes (a rho mu) fun x m => match x with | .bl k => (if k then P (.bl true) m else Yes (b rho m) P) | _ => False := by
  unfold eOr; rw [yes_bnd]
  cases a rho mu with
  | ok d m => cases d with
    | bl k => cases k <;> exact Iff.rfl
    | _ => exact Iff.rfl
  | _ => exact Iff.rfl
@[simp] theorem yes_eNot : Yes (eNot a rho mu) P ↔ Yes (a rho mu) fun x m => match x with | .bl k => P (.bl (!k)) m | _ => False := by
  unfold eNot; rw [yes_bnd]
  cases a rho mu with
  | ok d m => cases d <;> exact Iff.rfl
  | _ => exact Iff.rfl
@[simp] theorem yes_eIxO {i : Nat} : Yes (eIxO i a rho mu) P ↔ (match rho[i]? with
    | some (.own xs) => Yes (a rho mu) fun y m => Yes (opt (ixD (.lst xs) y) m) P
    | some (.val d) => Yes (a rho mu) fun y m => Yes (opt (ixD d y) m) P
    | _ => False) := by
  unfold eIxO
  cases h : rho[i]? with
  | none => exact Iff.rfl
  | some s => cases s <;> first | exact Iff.rfl | exact yes_bnd
@[simp] theorem yes_eLenO {i : Nat} : Yes (eLenO i rho mu) P ↔ (match rho[i]? with
    | some (.own xs) => P (.int xs.length) mu
    | some (.val d) => Yes (opt (lenD [d]) mu) P
    | _ => False) := by
  unfold eLenO
  cases h : rho[i]? with
  | none => exact Iff.rfl
  | some s => cases s <;> exact Iff.rfl
variable {o p : EvO} {S : Option Int → Mem → Prop}
@[simp] theorem yes_oN : Yes (oN rho mu) S ↔ S none mu := Iff.rfl
@[simp] theorem yes_oS : Yes (oS a rho mu) S ↔ Yes (a rho mu) fun x m => match x with | .int i => S (some i) m | _ => False := by
  unfold oS; rw [yes_bnd]
  cases a rho mu with
  | ok d m => cases d <;> exact Iff.rfl
  | _ => exact Iff.rfl
@[simp] theorem yes_eSl : Yes (eSl a o p rho mu) P ↔ Yes (a rho mu) fun x m => Yes (o rho m) fun l m2 => Yes (p rho m2) fun h m3 => Yes (opt (slD x l h) m3) P := by
  unfold eSl; simp only [yes_bnd]
@[simp] theorem yes_eDGet {k : Str} : Yes (eDGet a k rho mu) P ↔ Yes (a rho mu) fun x m => match x with
    | .ref n => (match m[n]? with
      | some (.dct kvs) => Yes (opt (dLook k kvs) m) P
      | _ => False)
    | _ => False := by
  unfold eDGet; rw [yes_bnd]
  cases a rho mu with
  | ok d m => cases d with
    | ref n =>
      simp only [yes_ok]
      cases h : m[n]? with
      | none => simp [Yes, h]
      | some o => cases o <;> simp [Yes, h]
    | _ => exact Iff.rfl
  | _ => exact Iff.rfl
@[simp] theorem yes_eScr : Yes (eScr a b rho mu) P ↔ Yes (a rho mu) fun x m => Yes (b rho m) fun y m2 => match x, y with
    | .ref n, .lst ys => (match m2[n]? with
      | some (.scr xs) => xs.length + ys.length ≤ sizeLine ∧ P (.lst (xs ++ ys)) m2
      | _ => False)
    | _, _ => False := by
  unfold eScr; simp only [yes_bnd]
  cases a rho mu with
  | ok d m =>
    simp only [yes_ok]
    cases b rho m with
    | ok e m2 =>
      simp only [yes_ok]
      cases d with
      | ref n => cases e with
        | lst ys =>
          dsimp only
          cases h : m2[n]? with
          | none => simp [Yes]
          | some o => cases o with
            | scr xs =>
              dsimp only
              split <;> rename_i hh <;> simp [hh]
            | _ => simp [Yes]
        | _ => simp [Yes]
      | _ => simp [Yes]
    | _ => simp [Yes]
  | _ => simp [Yes]
@[simp] theorem yes_eDisp {ks : List Str} : Yes (eDisp ks r rho mu) P ↔ Yes (r rho mu) fun ds m => P (.ref m.length) (m ++ [.dct (ks.zip ds)]) := by unfold eDisp; rw [yes_bnd]; simp only [yes_ok]
@[simp] theorem yes_eCh {f g : Da → Da → Option Da} {c : EvD} : Yes (eCh f g a b c rho mu) P ↔ Yes (a rho mu) fun x m => Yes (b rho m) fun y m2 => match f x y with
    | some (.bl k) => if k then Yes (c rho m2) fun z m3 => Yes (opt (g y z) m3) P else P (.bl false) m2
    | _ => False := by
  unfold eCh; simp only [yes_bnd]
  cases a rho mu with
  | ok d m =>
    simp only [yes_ok]
    cases b rho m with
    | ok e m2 =>
      simp only [yes_ok]
      cases h : f d e with
      | none => simp [Yes]
      | some z => cases z with
        | bl k => cases k <;> simp [yes_bnd]
        | _ => simp [Yes]
    | _ => simp [Yes]
  | _ => simp [Yes]
/-! ### iteration -/
variable {it : EvI}
@[simp] theorem yes_iSeq : Yes (iSeq a rho mu) Q ↔ Yes (a rho mu) fun d m => match d with | .lst xs => Q xs m | .tup xs => Q xs m | _ => False := by
  unfold iSeq; rw [yes_bnd]
  cases a rho mu with
  | ok d m => cases d <;> exact Iff.rfl
  | _ => exact Iff.rfl
def Sz (i : Int) : Prop := -(2 ^ 62) ≤ i ∧ i < 2 ^ 62
@[simp] theorem yes_iRng1 : Yes (iRng1 r rho mu) Q ↔ Yes (r rho mu) fun xs m => match xs with | [.int j] => Sz j ∧ Q (rngD 0 j.toNat) m | _ => False := by
  unfold iRng1; rw [yes_bnd]
  cases r rho mu with
  | ok d m =>
    simp only [yes_ok]
    match d with
    | [.int j] =>
      dsimp only
      by_cases h : -(2 ^ 62) ≤ j ∧ j < 2 ^ 62
      · rw [if_pos h]; exact ⟨fun q => ⟨h, q⟩, fun q => q.2⟩
      · rw [if_neg h]; exact ⟨fun q => q.elim, fun q => h q.1⟩
    | [] => exact Iff.rfl
    | [.non] => exact Iff.rfl
    | [.bl _] => exact Iff.rfl
    | [.str _] => exact Iff.rfl
    | [.tup _] => exact Iff.rfl
    | [.lst _] => exact Iff.rfl
    | [.ref _] => exact Iff.rfl
    | .int _ :: _ :: _ => exact Iff.rfl
    | .non :: _ :: _ => exact Iff.rfl
    | .bl _ :: _ :: _ => exact Iff.rfl
    | .str _ :: _ :: _ => exact Iff.rfl
    | .tup _ :: _ :: _ => exact Iff.rfl
    | .lst _ :: _ :: _ => exact Iff.rfl
    | .ref _ :: _ :: _ => exact Iff.rfl
  | _ => exact Iff.rfl
@[simp] theorem yes_iRng2 : Yes (iRng2 r rho mu) Q ↔ Yes (r rho mu) fun xs m => match xs with | [.int i, .int j] => Sz i ∧ Sz j ∧ Q (rngD i (j - i).toNat) m | _ => False := by
  unfold iRng2; rw [yes_bnd]
  cases r rho mu with
  | ok d m =>
    simp only [yes_ok]
    by_cases hd : ∃ i j, d = [.int i, .int j]
    · obtain ⟨i, j, rfl⟩ := hd
      dsimp only
      by_cases h : -(2 ^ 62) ≤ i ∧ i < 2 ^ 62 ∧ -(2 ^ 62) ≤ j ∧ j < 2 ^ 62
      · rw [if_pos h]; exact ⟨fun q => ⟨⟨h.1, h.2.1⟩, ⟨h.2.2.1, h.2.2.2⟩, q⟩, fun q => q.2.2⟩
      · rw [if_neg h]; exact ⟨fun q => q.elim, fun q => h ⟨q.1.1, q.1.2, q.2.1.1, q.2.1.2⟩⟩
    · split <;> first
        | exact absurd ⟨_, _, rfl⟩ hd
        | exact Iff.rfl
        | (split <;> first
            | exact absurd ⟨_, _, rfl⟩ hd
            | exact Iff.rfl)
  | _ => exact Iff.rfl
@[simp] theorem yes_iEnum : Yes (iEnum r rho mu) Q ↔ Yes (r rho mu) fun xs m => match xs with | [.lst ys] => Q (enumD 0 ys) m | [.tup ys] => Q (enumD 0 ys) m | _ => False := by
  unfold iEnum; rw [yes_bnd]
  cases r rho mu with
  | ok d m =>
    simp only [yes_ok]
    split <;> first | exact Iff.rfl | (rename_i h; split <;> simp_all [Yes])
  | _ => exact Iff.rfl
/-! ### statements -/
variable {u v : StD}
@[simp] theorem sp_nx : SP (sNx rho mu) D ↔ D.nx rho mu := Iff.rfl
@[simp] theorem sp_bk : SP (sBk rho mu) D ↔ D.bk rho mu := Iff.rfl
@[simp] theorem sp_ct : SP (sCt rho mu) D ↔ D.ct rho mu := Iff.rfl
@[simp] theorem sp_bad : SP .bad D ↔ False := Iff.rfl
@[simp] theorem sp_seq : SP (sSeq u v rho mu) D ↔ SP (u rho mu) { D with nx := fun r m => SP (v r m) D } := by
  unfold sSeq
  cases u rho mu <;> exact Iff.rfl
theorem sp_use {β : Type} {o : Out β} {f : β → Mem → SO} : SP (sUse o rho f) D ↔ Yes o fun d m => SP (f d m) D := by cases o <;> exact Iff.rfl
@[simp] theorem sp_set {i : Nat} : SP (sSet i a rho mu) D ↔ Yes (a rho mu) fun d m => D.nx (rho.set i (.val d)) m := sp_use
@[simp] theorem sp_ret : SP (sRet a rho mu) D ↔ Yes (a rho mu) fun d m => D.rt d m := sp_use
@[simp] theorem sp_retN : SP (sRetN rho mu) D ↔ D.rt .non mu := Iff.rfl
@[simp] theorem sp_do : SP (sDo a rho mu) D ↔ Yes (a rho mu) fun _ m => D.nx rho m := sp_use
@[simp] theorem sp_if : SP (sIf t u v rho mu) D ↔ Yes (t rho mu) fun k m => if k then SP (u rho m) D else SP (v rho m) D := by
  refine sp_use.trans ?_
  cases t rho mu with
  | ok k m => cases k <;> exact Iff.rfl
  | _ => exact Iff.rfl
@[simp] theorem sp_for {bd : Da → Ev → Option Ev} : SP (sFor it bd u rho mu) D ↔ Yes (it rho mu) fun xs m => SP (sLoop bd u xs rho m) D := sp_use
@[simp] theorem sp_dset {k : Str} : SP (sDSet a k b rho mu) D ↔ Yes (b rho mu) fun d m1 => Yes (a rho m1) fun x m2 => match x with
    | .ref n => (match numput n k d m2 with
      | some m3 => D.nx rho m3
      | none => False)
    | _ => False := by
  unfold sDSet; simp only [sp_use]
  cases b rho mu with
  | ok d m =>
    simp only [yes_ok]
    cases a rho m with
    | ok x m2 =>
      simp only [yes_ok]
      cases x with
      | ref n =>
        dsimp only
        cases numput n k d m2 <;> exact Iff.rfl
      | _ => exact Iff.rfl
    | _ => exact Iff.rfl
  | _ => exact Iff.rfl
@[simp] theorem sp_pd {i : Nat} {c : EvD} {k : Str} : SP (sPD i c k a b rho mu) D ↔ Yes (a rho mu) fun x m1 => Yes (b rho m1) fun y m2 => Yes (c (rho.set i (.val x)) m2) fun z m3 => match z with
    | .ref n => (match numput n k y m3 with
      | some m4 => D.nx (rho.set i (.val x)) m4
      | none => False)
    | _ => False := by
  unfold sPD; simp only [sp_use]
  cases a rho mu with
  | ok d m =>
    simp only [yes_ok]
    cases b rho m with
    | ok x m2 =>
      simp only [yes_ok]
      cases c (rho.set i (.val d)) m2 with
      | ok z m3 =>
        simp only [yes_ok]
        cases z with
        | ref n =>
          dsimp only
          cases numput n k x m3 <;> exact Iff.rfl
        | _ => exact Iff.rfl
      | _ => exact Iff.rfl
    | _ => exact Iff.rfl
  | _ => exact Iff.rfl
@[simp] theorem sp_own {i : Nat} : SP (sOwn i r rho mu) D ↔ Yes (r rho mu) fun xs m => D.nx (rho.set i (.own xs)) m := sp_use
@[simp] theorem sp_app {i : Nat} : SP (sApp i a rho mu) D ↔ (match rho[i]? with
    | some (.own xs) => xs.length < sizeLine ∧ Yes (a rho mu) fun d m => D.nx (rho.set i (.own (xs ++ [d]))) m
    | _ => False) := by
  unfold sApp
  cases h : rho[i]? with
  | none => exact Iff.rfl
  | some s => cases s with
    | own xs =>
      dsimp only
      by_cases q : xs.length < sizeLine
      · rw [if_pos q, sp_use]; exact ⟨fun z => ⟨q, z⟩, fun z => z.2⟩
      · rw [if_neg q]; exact ⟨fun z => z.elim, fun z => q z.1⟩
    | _ => exact Iff.rfl
@[simp] theorem sp_ext {i : Nat} : SP (sExt i a rho mu) D ↔ (match rho[i]? with
    | some (.own xs) => Yes (a rho mu) fun d m => match d with | .lst ys => xs.length + ys.length ≤ sizeLine ∧ D.nx (rho.set i (.own (xs ++ ys))) m | _ => False
    | _ => False) := by
  unfold sExt
  cases h : rho[i]? with
  | none => exact Iff.rfl
  | some s => cases s with
    | own xs =>
      dsimp only
      rw [sp_use]
      cases a rho mu with
      | ok d m =>
        simp only [yes_ok]
        cases d with
        | lst ys =>
          dsimp only
          by_cases q : xs.length + ys.length ≤ sizeLine
          · rw [if_pos q]; exact ⟨fun z => ⟨q, z⟩, fun z => z.2⟩
          · rw [if_neg q]; exact ⟨fun z => z.elim, fun z => q z.1⟩
        | _ => exact Iff.rfl
      | _ => exact Iff.rfl
    | _ => exact Iff.rfl
@[simp] theorem sp_frz {i : Nat} : SP (sFrz i u rho mu) D ↔ SP (u (frz i rho) mu) D := Iff.rfl
@[simp] theorem sp_aug {i : Nat} {f : Int → Int → Int} : SP (sAug i f a rho mu) D ↔ (match rho[i]? with
    | some (.val (.int x)) => Yes (a rho mu) fun d m => match d with | .int y => D.nx (rho.set i (.val (.int (f x y)))) m | _ => False
    | _ => False) := by
  unfold sAug
  cases h : rho[i]? with
  | none => exact Iff.rfl
  | some s => cases s with
    | val d => cases d with
      | int x =>
        dsimp only
        rw [sp_use]
        cases a rho mu with
        | ok d m => cases d <;> exact Iff.rfl
        | _ => exact Iff.rfl
      | _ => exact Iff.rfl
    | _ => exact Iff.rfl
variable {pv : PvD} {T : List Sl → Mem → Prop}
@[simp] theorem yes_pN : Yes (pN rho mu) T ↔ T [] mu := Iff.rfl
@[simp] theorem yes_pC : Yes (pC a pv rho mu) T ↔ Yes (a rho mu) fun d m => Yes (pv rho m) fun ss m2 => T (.val d :: ss) m2 := by unfold pC; simp only [yes_bnd, yes_ok]
@[simp] theorem yes_pO : Yes (pO r pv rho mu) T ↔ Yes (r rho mu) fun d m => Yes (pv rho m) fun ss m2 => T (.own d :: ss) m2 := by unfold pO; simp only [yes_bnd, yes_ok]
@[simp] theorem sp_par {is : List Nat} : SP (sPar is pv rho mu) D ↔ Yes (pv rho mu) fun ss m => match setAll is ss rho with | some r2 => D.nx r2 m | none => False := by
  unfold sPar; rw [sp_use]
  cases pv rho mu with
  | ok d m => simp only [yes_ok]; cases setAll is d rho <;> exact Iff.rfl
  | _ => exact Iff.rfl
theorem yes_fnD {n z : Nat} {bd : Ev → Mem → SO} {ds : List Da} (h : ds.length = n) : Yes (fnD n z bd ds mu) P ↔ SP (bd (ds.map Sl.val ++ List.replicate z .un) mu) ⟨fun _ m => P .non m, P, fun _ _ => False, fun _ _ => False⟩ := by
  unfold fnD
  rw [if_pos h]
  cases bd (ds.map Sl.val ++ List.replicate z .un) mu <;> exact Iff.rfl
theorem yes_fn0 {z : Nat} {bd : Ev → Mem → SO} : Yes (fnD 0 z bd [] mu) P ↔ SP (bd (List.replicate z .un) mu) ⟨fun _ m => P .non m, P, fun _ _ => False, fun _ _ => False⟩ := yes_fnD (n := 0) rfl
theorem yes_fn1 {z : Nat} {bd : Ev → Mem → SO} {x0 : Da} : Yes (fnD 1 z bd [x0] mu) P ↔ SP (bd (.val x0 :: List.replicate z .un) mu) ⟨fun _ m => P .non m, P, fun _ _ => False, fun _ _ => False⟩ := yes_fnD (n := 1) rfl
theorem yes_fn2 {z : Nat} {bd : Ev → Mem → SO} {x0 x1 : Da} : Yes (fnD 2 z bd [x0, x1] mu) P ↔ SP (bd (.val x0 :: .val x1 :: List.replicate z .un) mu) ⟨fun _ m => P .non m, P, fun _ _ => False, fun _ _ => False⟩ := yes_fnD (n := 2) rfl
theorem yes_fn3 {z : Nat} {bd : Ev → Mem → SO} {x0 x1 x2 : Da} : Yes (fnD 3 z bd [x0, x1, x2] mu) P ↔ SP (bd (.val x0 :: .val x1 :: .val x2 :: List.replicate z .un) mu) ⟨fun _ m => P .non m, P, fun _ _ => False, fun _ _ => False⟩ := yes_fnD (n := 3) rfl
theorem yes_fn4 {z : Nat} {bd : Ev → Mem → SO} {x0 x1 x2 x3 : Da} : Yes (fnD 4 z bd [x0, x1, x2, x3] mu) P ↔ SP (bd (.val x0 :: .val x1 :: .val x2 :: .val x3 :: List.replicate z .un) mu) ⟨fun _ m => P .non m, P, fun _ _ => False, fun _ _ => False⟩ := yes_fnD (n := 4) rfl
theorem yes_fn5 {z : Nat} {bd : Ev → Mem → SO} {x0 x1 x2 x3 x4 : Da} : Yes (fnD 5 z bd [x0, x1, x2, x3, x4] mu) P ↔ SP (bd (.val x0 :: .val x1 :: .val x2 :: .val x3 :: .val x4 :: List.replicate z .un) mu) ⟨fun _ m => P .non m, P, fun _ _ => False, fun _ _ => False⟩ := yes_fnD (n := 5) rfl
theorem yes_fn6 {z : Nat} {bd : Ev → Mem → SO} {x0 x1 x2 x3 x4 x5 : Da} : Yes (fnD 6 z bd [x0, x1, x2, x3, x4, x5] mu) P ↔ SP (bd (.val x0 :: .val x1 :: .val x2 :: .val x3 :: .val x4 :: .val x5 :: List.replicate z .un) mu) ⟨fun _ m => P .non m, P, fun _ _ => False, fun _ _ => False⟩ := yes_fnD (n := 6) rfl
theorem sp_mid {I : Ev → Mem → Prop} (h1 : SP (u rho mu) ⟨I, D.rt, D.bk, D.ct⟩) (h2 : ∀ r m, I r m → SP (v r m) D) : SP (sSeq u v rho mu) D := by
  rw [sp_seq]
  exact h1.mono h2 (fun _ _ h => h) (fun _ _ h => h) fun _ _ h => h
@[simp] theorem frz_zo {xs : List Da} {r : Ev} : frz 0 (.own xs :: r) = .val (.lst xs) :: r := rfl
@[simp] theorem frz_zv {d : Da} {r : Ev} : frz 0 (.val d :: r) = .val d :: r := rfl
@[simp] theorem frz_zu {r : Ev} : frz 0 (.un :: r) = .un :: r := rfl
@[simp] theorem frz_s {n : Nat} {s : Sl} {r : Ev} : frz (n + 1) (s :: r) = s :: frz n r := by
  unfold frz
  show (match r[n]? with | some (Sl.own xs) => (s :: r).set (n + 1) (.val (.lst xs)) | _ => s :: r) = s :: (match r[n]? with | some (Sl.own xs) => r.set n (.val (.lst xs)) | _ => r)
  split <;> rfl
/-! ### loops -/
theorem sp_loop {bd : Da → Ev → Option Ev} (I : Nat → Ev → Mem → Prop) : ∀ {xs : List Da} {k : Nat} {rho : Ev} {mu : Mem}, I k rho mu →
    (∀ j x rho mu, xs[j]? = some x → I (k + j) rho mu → ∃ rho1, bd x rho = some rho1 ∧ SP (u rho1 mu) ⟨I (k + j + 1), D.rt, D.nx, I (k + j + 1)⟩) → (∀ rho mu, I (k + xs.length) rho mu → D.nx rho mu) → SP (sLoop bd u xs rho mu) D
  | [], k, rho, mu, h0, hs, hd => hd _ _ h0
  | x :: xs, k, rho, mu, h0, hs, hd => by
    obtain ⟨rho1, e, h⟩ := hs 0 x rho mu rfl h0
    have go : ∀ r m, I (k + 1) r m → SP (sLoop bd u xs r m) D := fun r m q => sp_loop (k := k + 1) I q (fun j y r2 m2 ej i2 => by
      have z := hs (j + 1) y r2 m2 (by simpa using ej) (by rw [show k + (j + 1) = k + 1 + j by omega]; exact i2)
      rw [show k + (j + 1) = k + 1 + j by omega] at z
      exact z) fun r2 m2 q => hd r2 m2 (by rw [List.length_cons, show k + (xs.length + 1) = k + 1 + xs.length by omega]; exact q)
    unfold sLoop
    rw [e]
    dsimp only
    cases eo : u rho1 mu with
    | nx r m => rw [eo] at h; exact go r m h
    | ct r m => rw [eo] at h; exact go r m h
    | bk r m => rw [eo] at h; exact h
    | rt d m => rw [eo] at h; exact h
    | exc x r m => rw [eo] at h; exact h.elim
    | bad => rw [eo] at h; exact h.elim
theorem sp_range {bd : Da → Ev → Option Ev} (I : Nat → Ev → Mem → Prop) {lo : Int} {n : Nat} (h0 : I 0 rho mu)
    (hs : ∀ j rho mu, j < n → I j rho mu → ∃ rho1, bd (.int (lo + j)) rho = some rho1 ∧ SP (u rho1 mu) ⟨I (j + 1), D.rt, D.nx, I (j + 1)⟩) (hd : ∀ rho mu, I n rho mu → D.nx rho mu) : SP (sLoop bd u (rngD lo n) rho mu) D := by
  refine sp_loop I h0 (fun j x r m e i => ?_) fun r m i => hd r m (by rw [rngD_len, Nat.zero_add] at i; exact i)
  rw [rngD_get] at e
  by_cases hj : j < n
  · rw [if_pos hj] at e
    cases e
    rw [Nat.zero_add] at i ⊢
    exact hs j r m hj i
  · rw [if_neg hj] at e; cases e
theorem sp_while {t : EvT} (I : Nat → Ev → Mem → Prop) : ∀ {n k : Nat} {rho : Ev} {mu : Mem}, k < n → I k rho mu →
    (∀ k rho mu, I k rho mu → Yes (t rho mu) fun b m => if b then ∃ j, k = j + 1 ∧ SP (u rho m) ⟨I j, D.rt, D.nx, I j⟩ else D.nx rho m) → SP (sWhile t u n rho mu) D
  | 0, k, rho, mu, hk, _, _ => absurd hk (Nat.not_lt_zero k)
  | n + 1, k, rho, mu, hk, h0, hs => by
    have h := hs k rho mu h0
    unfold sWhile
    rw [sp_use]
    refine h.mono fun b m q => ?_
    cases b with
    | false => exact q
    | true =>
      obtain ⟨j, e, q⟩ := q
      subst e
      simp only [if_true]
      have go : ∀ r m, I j r m → SP (sWhile t u n r m) D := fun r m i => sp_while I (by omega) i hs
      cases eo : u rho m with
      | nx r m => rw [eo] at q; exact go r m q
      | ct r m => rw [eo] at q; exact go r m q
      | bk r m => rw [eo] at q; exact q
      | rt d m => rw [eo] at q; exact q
      | exc x r m => rw [eo] at q; exact q.elim
      | bad => rw [eo] at q; exact q.elim
theorem sp_loop_nil {bd : Da → Ev → Option Ev} : SP (sLoop bd u [] rho mu) D ↔ D.nx rho mu := Iff.rfl
theorem sp_loop_cons {bd : Da → Ev → Option Ev} {x : Da} {xs : List Da} : SP (sLoop bd u (x :: xs) rho mu) D ↔ (match bd x rho with
    | none => False
    | some r1 => SP (u r1 mu) ⟨fun r m => SP (sLoop bd u xs r m) D, D.rt, D.nx, fun r m => SP (sLoop bd u xs r m) D⟩) := by
  conv => lhs; unfold sLoop
  cases e : bd x rho with
  | none => exact Iff.rfl
  | some r1 => dsimp only; cases e2 : u r1 mu <;> exact Iff.rfl
@[simp] theorem bName_eq {i : Nat} {d : Da} : bName i d rho = some (rho.set i (.val d)) := rfl
@[simp] theorem bTup_eq {is : List Nat} {ds : List Da} : bTup is (.tup ds) rho = bNames is ds rho := rfl
@[simp] theorem bNames_cons {i : Nat} {is : List Nat} {d : Da} {ds : List Da} : bNames (i :: is) (d :: ds) rho = bNames is ds (rho.set i (.val d)) := rfl
@[simp] theorem bNames_nil : bNames [] [] rho = some rho := rfl
@[simp] theorem setAll_cons {i : Nat} {is : List Nat} {d : Sl} {ds : List Sl} : setAll (i :: is) (d :: ds) rho = setAll is ds (rho.set i d) := rfl
@[simp] theorem setAll_nil : setAll [] [] rho = some rho := rfl
@[simp] theorem wipeE_nil : wipeE rho [] = rho := rfl
@[simp] theorem wipeE_cons {i : Nat} {is : List Nat} : wipeE rho (i :: is) = (wipeE rho is).set i .un := rfl
/-! ### comprehensions -/
@[simp] theorem yes_eCmp {vs : List Nat} {bd : Da → Ev → Option Ev} : Yes (eCmp it vs bd t a rho mu) P ↔ Yes (it rho mu) fun xs m => xs.length < sizeLine ∧ Yes (cLoop bd t a (wipeE rho vs) xs m) fun ys m2 => P (.lst ys) m2 := by
  unfold eCmp; rw [yes_bnd]
  cases it rho mu with
  | ok d m =>
    simp only [yes_ok]
    by_cases q : d.length < sizeLine
    · rw [if_pos q, yes_bnd]; exact ⟨fun z => ⟨q, z⟩, fun z => z.2⟩
    · rw [if_neg q]; exact ⟨fun z => z.elim, fun z => q z.1⟩
  | _ => exact Iff.rfl
theorem yes_noX {β : Type} {P : β → Mem → Prop} {o : Out β} : Yes (noX o) P ↔ Yes o P := by cases o <;> exact Iff.rfl
/-- every item's answer by a function, nothing else changed -/
theorem cLoop_map {bd : Da → Ev → Option Ev} {rho0 : Ev} (g : Da → Da) : ∀ {xs : List Da}, (∀ x ∈ xs, ∃ r, bd x rho0 = some r ∧ a r mu = .ok (g x) mu) → cLoop bd tT a rho0 xs mu = .ok (xs.map g) mu
  | [], _ => rfl
  | x :: xs, h => by
    obtain ⟨r, e1, e2⟩ := h x (by simp)
    unfold cLoop
    rw [e1]
    dsimp only
    rw [show noX (tT r mu) = .ok true mu from rfl]
    show bnd (noX (a r mu)) _ = _
    rw [e2, show noX (Out.ok (g x) mu) = .ok (g x) mu from rfl]
    show bnd (cLoop bd tT a rho0 xs mu) _ = _
    rw [cLoop_map g fun y hy => h y (List.mem_cons_of_mem _ hy)]
    rfl
theorem cLoop_rng {bd : Da → Ev → Option Ev} {rho0 : Ev} : ∀ {n lo : Nat} (g : Nat → Da), (∀ k, lo ≤ k → k < lo + n → ∃ r, bd (.int (k : Int)) rho0 = some r ∧ a r mu = .ok (g k) mu) → cLoop bd tT a rho0 (rngD (lo : Int) n) mu = .ok ((List.range' lo n).map g) mu
  | 0, _, _, _ => rfl
  | n + 1, lo, g, h => by
    obtain ⟨r, e1, e2⟩ := h lo (Nat.le_refl _) (by omega)
    show cLoop bd tT a rho0 (Da.int (lo : Int) :: rngD ((lo : Int) + 1) n) mu = _
    unfold cLoop
    rw [e1]
    dsimp only
    rw [show noX (tT r mu) = .ok true mu from rfl]
    show bnd (noX (a r mu)) _ = _
    rw [e2, show noX (Out.ok (g lo) mu) = .ok (g lo) mu from rfl]
    show bnd (cLoop bd tT a rho0 (rngD ((lo : Int) + 1) n) mu) _ = _
    rw [show (lo : Int) + 1 = ((lo + 1 : Nat) : Int) from rfl, cLoop_rng g fun k hk hk2 => h k (by omega) (by omega)]
    rfl
theorem cLoop_rng0 {bd : Da → Ev → Option Ev} {rho0 : Ev} {n : Nat} (g : Nat → Da) (h : ∀ k, k < n → ∃ r, bd (.int (k : Int)) rho0 = some r ∧ a r mu = .ok (g k) mu) : cLoop bd tT a rho0 (rngD 0 n) mu = .ok ((List.range n).map g) mu := by
  rw [List.range_eq_range']
  exact cLoop_rng (lo := 0) g fun k _ hk => h k (by omega)
/-- the items that pass, each by a function -/
theorem cLoop_filt {β : Type} {bd : Da → Ev → Option Ev} {rho0 : Ev} {t : EvT} (enc : β → Da) (p : β → Bool) (g : β → Da) : ∀ {L : List β}, (∀ y ∈ L, ∃ r, bd (enc y) rho0 = some r ∧ t r mu = .ok (p y) mu ∧ (p y = true → a r mu = .ok (g y) mu)) → cLoop bd t a rho0 (L.map enc) mu = .ok ((L.filter p).map g) mu
  | [], _ => rfl
  | y :: L, h => by
    obtain ⟨r, e1, e2, e3⟩ := h y (by simp)
    have ih := cLoop_filt (t := t) enc p g (L := L) fun z hz => h z (List.mem_cons_of_mem _ hz)
    show cLoop bd t a rho0 (enc y :: L.map enc) mu = _
    unfold cLoop
    rw [e1]
    dsimp only
    rw [e2, show noX (Out.ok (p y) mu) = .ok (p y) mu from rfl]
    cases hp : p y with
    | false =>
      rw [List.filter_cons_of_neg (by rw [hp]; decide)]
      exact ih
    | true =>
      rw [List.filter_cons_of_pos hp]
      show bnd (noX (a r mu)) _ = _
      rw [e3 hp, show noX (Out.ok (g y) mu) = .ok (g y) mu from rfl]
      show bnd (cLoop bd t a rho0 (L.map enc) mu) _ = _
      rw [ih]
      rfl
theorem cLoop_enc {β : Type} {bd : Da → Ev → Option Ev} {rho0 : Ev} (enc : β → Da) (g : β → Da) {L : List β} (h : ∀ y ∈ L, ∃ r, bd (enc y) rho0 = some r ∧ a r mu = .ok (g y) mu) : cLoop bd tT a rho0 (L.map enc) mu = .ok (L.map g) mu := by
  have z := cLoop_filt (t := tT) (bd := bd) (rho0 := rho0) (a := a) (mu := mu) enc (fun _ => true) g (L := L) fun y hy => by
    obtain ⟨r, e1, e2⟩ := h y hy
    exact ⟨r, e1, rfl, fun _ => e2⟩
  rw [z, List.filter_eq_self.mpr fun _ _ => rfl]
/-- item by item -/
theorem yes_cLoop {bd : Da → Ev → Option Ev} {rho0 : Ev} {t : EvT} (I : List Da → Mem → Prop) : ∀ {xs : List Da} {acc : List Da} {mu : Mem}, I acc mu → (∀ x acc mu, x ∈ xs → I acc mu → ∃ r, bd x rho0 = some r ∧ Yes (t r mu) fun b m => if b then Yes (a r m) fun d m2 => I (acc ++ [d]) m2 else I acc m) →
    Yes (cLoop bd t a rho0 xs mu) fun ys m => I (acc ++ ys) m
  | [], acc, mu, h0, _ => by
    show I (acc ++ []) mu
    rw [List.append_nil]
    exact h0
  | x :: xs, acc, mu, h0, hs => by
    obtain ⟨r, e1, h⟩ := hs x acc mu (by simp) h0
    unfold cLoop
    rw [e1]
    dsimp only
    rw [yes_bnd, yes_noX]
    refine h.mono fun b m q => ?_
    cases b with
    | false => exact yes_cLoop I q fun y acc mu hy => hs y acc mu (List.mem_cons_of_mem _ hy)
    | true =>
      simp only [if_true] at q ⊢
      rw [yes_bnd, yes_noX]
      refine q.mono fun d m2 q => ?_
      rw [yes_bnd]
      refine (yes_cLoop I q fun y acc mu hy => hs y acc mu (List.mem_cons_of_mem _ hy)).mono fun ys m3 q => ?_
      rw [List.append_assoc] at q
      exact q
/-- item by item, each of them kept -/
theorem yes_cLoopG {bd : Da → Ev → Option Ev} {rho0 : Ev} (I : List Da → Mem → Prop) : ∀ {xs acc : List Da} {mu : Mem}, I acc mu → (∀ j x ys mu, xs[j]? = some x → ys.length = acc.length + j → I ys mu → ∃ r, bd x rho0 = some r ∧ Yes (a r mu) fun d m2 => I (ys ++ [d]) m2) →
    Yes (cLoop bd tT a rho0 xs mu) fun ys m => I (acc ++ ys) m ∧ ys.length = xs.length
  | [], acc, mu, h0, _ => by
    show I (acc ++ []) mu ∧ _
    rw [List.append_nil]
    exact ⟨h0, rfl⟩
  | x :: xs, acc, mu, h0, hs => by
    obtain ⟨r, e1, h⟩ := hs 0 x acc mu rfl rfl h0
    unfold cLoop
    rw [e1]
    dsimp only
    rw [show noX (tT r mu) = .ok true mu from rfl]
    show Yes (bnd (noX (a r mu)) _) _
    rw [yes_bnd, yes_noX]
    refine h.mono fun d m2 q => ?_
    rw [yes_bnd]
    refine (yes_cLoopG I q fun j y ys mu hy hl => hs (j + 1) y ys mu (by simpa using hy) (by rw [hl, List.length_append, List.length_singleton]; omega)).mono fun ys m3 q => ?_
    rw [List.append_assoc] at q
    exact ⟨q.1, congrArg (· + 1) q.2⟩
theorem yes_cLoopT {bd : Da → Ev → Option Ev} {rho0 : Ev} {xs : List Da} {P : List Da → Mem → Prop} (I : List Da → Mem → Prop) (h0 : I [] mu) (hs : ∀ j x ys mu, xs[j]? = some x → ys.length = j → I ys mu → ∃ r, bd x rho0 = some r ∧ Yes (a r mu) fun d m2 => I (ys ++ [d]) m2)
    (k : ∀ ys m, ys.length = xs.length → I ys m → P ys m) : Yes (cLoop bd tT a rho0 xs mu) P :=
  (yes_cLoopG I h0 fun j x ys mu e l => hs j x ys mu e (by simpa using l)).mono fun ys m q => k ys m q.2 q.1
@[simp] theorem yes_eRg1 {f : List Da → Da} : Yes (eRg1 f a rho mu) P ↔ Yes (a rho mu) fun x m => match x with | .int j => rgOk 0 j = true ∧ P (f (rngD 0 j.toNat)) m | _ => False := by
  unfold eRg1; rw [yes_bnd]
  cases a rho mu with
  | ok d m =>
    cases d with
    | int j =>
      show Yes (if rgOk 0 j = true then _ else _) P ↔ _ ∧ _
      rw [Int.sub_zero]
      by_cases q : rgOk 0 j = true
      · rw [if_pos q]; exact ⟨fun z => ⟨q, z⟩, fun z => z.2⟩
      · rw [if_neg q]; exact ⟨fun z => z.elim, fun z => q z.1⟩
    | _ => exact Iff.rfl
  | _ => exact Iff.rfl
@[simp] theorem yes_eRg2 {f : List Da → Da} : Yes (eRg2 f a b rho mu) P ↔ Yes (a rho mu) fun x m => Yes (b rho m) fun y m2 => match x, y with | .int i, .int j => rgOk i j = true ∧ P (f (rngD i (j - i).toNat)) m2 | _, _ => False := by
  unfold eRg2; simp only [yes_bnd]
  cases a rho mu with
  | ok d m =>
    simp only [yes_ok]
    cases b rho m with
    | ok e m2 =>
      simp only [yes_ok]
      cases d with
      | int i => cases e with
        | int j =>
          show Yes (if rgOk i j = true then _ else _) P ↔ _ ∧ _
          by_cases q : rgOk i j = true
          · rw [if_pos q]; exact ⟨fun z => ⟨q, z⟩, fun z => z.2⟩
          · rw [if_neg q]; exact ⟨fun z => z.elim, fun z => q z.1⟩
        | _ => exact Iff.rfl
      | _ => exact Iff.rfl
    | _ => exact Iff.rfl
  | _ => exact Iff.rfl
end
end Sk

/-! Sk Q: facts about data. -/
namespace Sk
open PySem

/-! ### sizes -/
def Sm (k : Nat) (i : Int) : Prop := i.natAbs < 2 ^ k
instance {k : Nat} {i : Int} : Decidable (Sm k i) := inferInstanceAs (Decidable (i.natAbs < 2 ^ k))
theorem Sm.mono {k l : Nat} {i : Int} (h : Sm k i) (e : k ≤ l := by decide) : Sm l i := Nat.lt_of_lt_of_le h (Nat.pow_le_pow_right (by decide) e)
theorem Sm.add {k : Nat} {i j : Int} (h : Sm k i) (g : Sm k j) : Sm (k + 1) (i + j) := by
  unfold Sm at *
  have := Int.natAbs_add_le i j
  rw [Nat.pow_succ]
  omega
theorem Sm.sub {k : Nat} {i j : Int} (h : Sm k i) (g : Sm k j) : Sm (k + 1) (i - j) := by
  unfold Sm at *
  have := Int.natAbs_sub_le i j
  rw [Nat.pow_succ]
  omega
theorem Sm.mul {k l : Nat} {i j : Int} (h : Sm k i) (g : Sm l j) : Sm (k + l) (i * j) := by
  unfold Sm at *
  rw [Int.natAbs_mul, Nat.pow_add]
  exact Nat.mul_lt_mul_of_lt_of_lt h g
theorem Sm.log {k : Nat} {i : Int} (h : Sm k i) : i.natAbs.log2 ≤ k := by
  by_cases e : i.natAbs = 0
  · rw [e]; exact Nat.zero_le _
  · exact Nat.le_of_lt ((Nat.log2_lt e).mpr h)
theorem Sm.of {i : Int} {k : Nat} (h0 : 0 ≤ i) (h : i < 2 ^ k) : Sm k i := by
  unfold Sm
  have : (i.natAbs : Int) < ((2 ^ k : Nat) : Int) := by
    rw [Int.natAbs_of_nonneg h0, Int.natCast_pow]
    exact h
  exact Int.ofNat_lt.mp this
theorem Sm.mod {i m : Int} {k : Nat} (h : 0 < m) (h2 : Sm k m) : Sm k (i % m) := by
  have a := Int.emod_nonneg i (Int.ne_of_gt h)
  have b := Int.emod_lt_of_pos i h
  unfold Sm at *
  omega
def MulOk (i j : Int) : Prop := i.natAbs.log2 + j.natAbs.log2 < 1000000
def DivOk (j : Int) : Prop := 0 < j ∧ j.natAbs.log2 < 9000
theorem mulOk {k l : Nat} {i j : Int} (h : Sm k i) (g : Sm l j) (e : k + l < 1000000 := by decide) : MulOk i j := by
  have := h.log; have := g.log
  unfold MulOk
  omega
theorem divOk {k : Nat} {j : Int} (h : 0 < j) (g : Sm k j) (e : k < 9000 := by decide) : DivOk j := ⟨h, Nat.lt_of_le_of_lt g.log e⟩
section
variable {P : Da → Mem → Prop} {mu : Mem} {i j : Int}
@[simp] theorem addD_int : addD (.int i) (.int j) = some (.int (i + j)) := rfl
@[simp] theorem subD_int : subD (.int i) (.int j) = some (.int (i - j)) := rfl
@[simp] theorem negD_int : negD (.int i) = some (.int (-i)) := rfl
@[simp] theorem ltD_int : ltD (.int i) (.int j) = some (.bl (decide (i < j))) := rfl
@[simp] theorem leD_int : leD (.int i) (.int j) = some (.bl (decide (i ≤ j))) := rfl
@[simp] theorem gtD_int : gtD (.int i) (.int j) = some (.bl (decide (j < i))) := rfl
@[simp] theorem geD_int : geD (.int i) (.int j) = some (.bl (decide (j ≤ i))) := rfl
@[simp] theorem yes_mul : Yes (opt (mulD (.int i) (.int j)) mu) P ↔ MulOk i j ∧ P (.int (i * j)) mu := by
  show Yes (opt (if i.natAbs.log2 + j.natAbs.log2 < 1000000 then _ else _) mu) P ↔ _
  by_cases h : i.natAbs.log2 + j.natAbs.log2 < 1000000
  · rw [if_pos h]; exact ⟨fun q => ⟨h, q⟩, fun q => q.2⟩
  · rw [if_neg h]; exact ⟨fun q => q.elim, fun q => h q.1⟩
@[simp] theorem yes_fdiv : Yes (opt (fdivD (.int i) (.int j)) mu) P ↔ DivOk j ∧ P (.int (i / j)) mu := by
  show Yes (opt (if 0 < j ∧ j.natAbs.log2 < 9000 then _ else _) mu) P ↔ _
  by_cases h : 0 < j ∧ j.natAbs.log2 < 9000
  · rw [if_pos h]; exact ⟨fun q => ⟨h, q⟩, fun q => q.2⟩
  · rw [if_neg h]; exact ⟨fun q => q.elim, fun q => h q.1⟩
@[simp] theorem yes_mod : Yes (opt (modD (.int i) (.int j)) mu) P ↔ 0 < j ∧ P (.int (i % j)) mu := by
  show Yes (opt (if 0 < j then _ else _) mu) P ↔ _
  by_cases h : 0 < j
  · rw [if_pos h]; exact ⟨fun q => ⟨h, q⟩, fun q => q.2⟩
  · rw [if_neg h]; exact ⟨fun q => q.elim, fun q => h q.1⟩
@[simp] theorem powD_6 : powD (.int 10) (.int 6) = some (.int 1000000) := rfl
@[simp] theorem powD_29 : powD (.int 10) (.int 29) = some (.int 100000000000000000000000000000) := rfl
theorem pow18 : powD (.int 10) (.int 18) = some (.int (10 ^ 18)) := rfl
theorem pow30 : powD (.int 10) (.int 30) = some (.int (10 ^ 30)) := rfl
@[simp] theorem yes_pow18 : Yes (opt (powD (.int 10) (.int 18)) mu) P ↔ P (.int (10 ^ 18)) mu := Iff.rfl
@[simp] theorem yes_pow30 : Yes (opt (powD (.int 10) (.int 30)) mu) P ↔ P (.int (10 ^ 30)) mu := Iff.rfl
@[simp] theorem lenD_lst {xs : List Da} : lenD [.lst xs] = some (.int xs.length) := rfl
@[simp] theorem lenD_tup {xs : List Da} : lenD [.tup xs] = some (.int xs.length) := rfl
@[simp] theorem intD_int : intD [.int i] = some (.int i) := rfl
@[simp] theorem tupD_lst {xs : List Da} : tupD [.lst xs] = some (.tup xs) := rfl
@[simp] theorem tupD_tup {xs : List Da} : tupD [.tup xs] = some (.tup xs) := rfl
@[simp] theorem listD_lst {xs : List Da} : listD [.lst xs] = some (.lst xs) := rfl
@[simp] theorem listD_tup {xs : List Da} : listD [.tup xs] = some (.lst xs) := rfl
@[simp] theorem max2D_int : max2D [.int i, .int j] = some (.int (max i j)) := by
  show some (Da.int (if j > i then j else i)) = _
  congr 2
  omega
@[simp] theorem min2D_int : min2D [.int i, .int j] = some (.int (min i j)) := by
  show some (Da.int (if j < i then j else i)) = _
  congr 2
  omega
theorem ix_nat {xs : List Da} {d : Da} (h0 : 0 ≤ i) (h : xs[i.toNat]? = some d) : L2.atI xs i = some d := by
  have hl : i.toNat < xs.length := by
    rcases Nat.lt_or_ge i.toNat xs.length with h1 | h1
    · exact h1
    · rw [List.getElem?_eq_none h1] at h; cases h
  unfold L2.atI L2.ixN
  rw [if_pos h0, if_pos (by omega)]
  exact h
theorem ix_last {xs : List Da} {d : Da} : L2.atI (xs ++ [d]) (-1) = some d := by
  unfold L2.atI L2.ixN
  rw [if_neg (by decide), if_pos (by rw [List.length_append]; simp; omega)]
  show (xs ++ [d])[((-1 : Int) + ((xs ++ [d]).length : Nat)).toNat]? = some d
  rw [List.length_append, List.length_singleton, show ((-1 : Int) + ((xs.length + 1 : Nat) : Int)).toNat = xs.length by omega]
  simp
@[simp] theorem ixD_lst {xs : List Da} : ixD (.lst xs) (.int i) = L2.atI xs i := rfl
@[simp] theorem ixD_tup {xs : List Da} : ixD (.tup xs) (.int i) = L2.atI xs i := rfl
theorem yes_at {xs : List Da} {d : Da} (h0 : 0 ≤ i) (h : xs[i.toNat]? = some d) (p : P d mu) : Yes (opt (L2.atI xs i) mu) P := by
  rw [ix_nat h0 h]; exact p
theorem sz_le {n : Nat} (h : n ≤ 16777216) : n ≤ sizeLine := by rw [PySem.sizeLine_eq]; exact h
theorem sz_lt {n : Nat} (h : n < 16777216) : n < sizeLine := by rw [PySem.sizeLine_eq]; exact h
theorem sz_of {i : Int} (h0 : 0 ≤ i) (h1 : i < 2 ^ 62) : Sz i := ⟨by omega, h1⟩
theorem rg_of {i j : Int} (h0 : 0 ≤ i) (h1 : i < 10 ^ 7) (h2 : 0 ≤ j) (h3 : j < 10 ^ 7) : rgOk i j = true := by
  unfold rgOk
  exact decide_eq_true ⟨by omega, by omega, by omega, by omega, by omega⟩
def repL {α : Type} (k : Nat) (a : List α) : List α := (List.replicate k a).flatten
theorem repL_len {α : Type} {k : Nat} {a : List α} : (repL k a).length = k * a.length := by unfold repL; simp
theorem mem_repL {α : Type} {k : Nat} {a : List α} {x : α} (h : x ∈ repL k a) : x ∈ a := by
  unfold repL at h
  obtain ⟨l, hl, hx⟩ := List.mem_flatten.mp h
  rw [List.eq_of_mem_replicate hl] at hx
  exact hx
theorem repL_map {α β : Type} {k : Nat} {a : List α} {f : α → β} : repL k (a.map f) = (repL k a).map f := by
  unfold repL
  rw [List.map_flatten, List.map_replicate]
@[simp] theorem yes_rep {a : List Da} : Yes (opt (mulD (.tup a) (.int i)) mu) P ↔ (a ≠ [] ∧ 2 ≤ i ∧ i ≤ 1000 ∧ a.length ≤ 1000) ∧ P (.tup (repL i.toNat a)) mu := by
  show Yes (opt (if a ≠ [] ∧ 2 ≤ i ∧ i ≤ 1000 ∧ a.length ≤ 1000 then _ else _) mu) P ↔ _
  by_cases h : a ≠ [] ∧ 2 ≤ i ∧ i ≤ 1000 ∧ a.length ≤ 1000
  · rw [if_pos h]; exact ⟨fun q => ⟨h, q⟩, fun q => q.2⟩
  · rw [if_neg h]; exact ⟨fun q => q.elim, fun q => h q.1⟩
@[simp] theorem yes_addT {a b : List Da} : Yes (opt (addD (.tup a) (.tup b)) mu) P ↔ a.length + b.length ≤ sizeLine ∧ P (.tup (a ++ b)) mu := by
  show Yes (opt (if a.length + b.length ≤ sizeLine then _ else _) mu) P ↔ _
  by_cases h : a.length + b.length ≤ sizeLine
  · rw [if_pos h]; exact ⟨fun q => ⟨h, q⟩, fun q => q.2⟩
  · rw [if_neg h]; exact ⟨fun q => q.elim, fun q => h q.1⟩
@[simp] theorem yes_addL {a b : List Da} : Yes (opt (addD (.lst a) (.lst b)) mu) P ↔ a.length + b.length ≤ sizeLine ∧ P (.lst (a ++ b)) mu := by
  show Yes (opt (if a.length + b.length ≤ sizeLine then _ else _) mu) P ↔ _
  by_cases h : a.length + b.length ≤ sizeLine
  · rw [if_pos h]; exact ⟨fun q => ⟨h, q⟩, fun q => q.2⟩
  · rw [if_neg h]; exact ⟨fun q => q.elim, fun q => h q.1⟩
@[simp] theorem slD_tup {a : List Da} {l h : Option Int} : slD (.tup a) l h = some (.tup (cutDs a l h)) := rfl
@[simp] theorem slD_lst {a : List Da} {l h : Option Int} : slD (.lst a) l h = some (.lst (cutDs a l h)) := rfl
theorem six_nn {n d : Nat} (h : 0 ≤ i) : HT.sIx n d (some i) = min i.toNat n := if_neg (by omega)
theorem cut_hi {xs : List Da} (h : 0 ≤ i) : cutDs xs none (some i) = xs.take i.toNat := by
  unfold cutDs
  rw [six_nn h, HT.sIx_none, List.drop_zero, Nat.sub_zero]
  by_cases q : i.toNat ≤ xs.length
  · rw [Nat.min_eq_left q]
  · rw [Nat.min_eq_right (by omega), List.take_length, List.take_of_length_le (by omega)]
theorem cut_lo {xs : List Da} (h : 0 ≤ i) : cutDs xs (some i) none = xs.drop i.toNat := by
  unfold cutDs
  rw [six_nn h, HT.sIx_none]
  by_cases q : i.toNat ≤ xs.length
  · rw [Nat.min_eq_left q, List.take_of_length_le (by rw [List.length_drop]; omega)]
  · rw [Nat.min_eq_right (by omega), List.drop_of_length_le (i := i.toNat) (by omega), List.drop_length]
    simp
theorem cut_last {xs : List Da} : cutDs xs none (some (-1)) = xs.dropLast := by
  unfold cutDs
  rw [HT.sIx_none, List.drop_zero, Nat.sub_zero, List.dropLast_eq_take]
  have e : HT.sIx xs.length xs.length (some (-1)) = xs.length - 1 := by
    show (if (-1 : Int) < 0 then ((-1 : Int) + (xs.length : Int)).toNat else min (-1 : Int).toNat xs.length) = _
    rw [if_pos (by decide)]
    omega
  rw [e]
/-- lo, lo + 1, .. -/
def iot (lo : Int) (n : Nat) : List Int := (List.range n).map fun k : Nat => lo + (k : Int)
theorem iot_get {lo : Int} {n k : Nat} (h : k < n) : (iot lo n)[k]? = some (lo + (k : Int)) := by
  unfold iot
  rw [List.getElem?_map, List.getElem?_range h]
  rfl
theorem iot_len {lo : Int} {n : Nat} : (iot lo n).length = n := by unfold iot; rw [List.length_map, List.length_range]
theorem mem_iot {lo x : Int} {n : Nat} (h : x ∈ iot lo n) : lo ≤ x ∧ x < lo + n := by
  unfold iot at h
  obtain ⟨k, hk, rfl⟩ := List.mem_map.mp h
  have := List.mem_range.mp hk
  omega
theorem rngD_map (n : Nat) (lo : Int) : rngD lo n = (iot lo n).map Da.int := by
  refine List.ext_getElem? fun i => ?_
  rw [rngD_get, List.getElem?_map]
  by_cases h : i < n
  · rw [if_pos h, iot_get h]; rfl
  · rw [if_neg h, List.getElem?_eq_none (by rw [iot_len]; omega)]; rfl
theorem rng_at {lo : Int} {n j : Nat} {x : Da} (h : (rngD lo n)[j]? = some x) : j < n ∧ x = .int (lo + (j : Int)) := by
  rw [rngD_get] at h
  by_cases q : j < n
  · rw [if_pos q] at h
    cases h
    exact ⟨q, rfl⟩
  · rw [if_neg q] at h; cases h
theorem yes_repT {a : List Da} : Yes (opt (mulD (.lst a) (.int i)) mu) P ↔ (-(2 ^ 63) ≤ i ∧ i < 2 ^ 63 ∧ a.length * i.toNat ≤ sizeLine) ∧ P (.lst (repL i.toNat a)) mu := by
  show Yes (opt (if -(2 ^ 63) ≤ i ∧ i < 2 ^ 63 ∧ a.length * i.toNat ≤ sizeLine then _ else _) mu) P ↔ _
  by_cases h : -(2 ^ 63) ≤ i ∧ i < 2 ^ 63 ∧ a.length * i.toNat ≤ sizeLine
  · rw [if_pos h]; exact ⟨fun q => ⟨h, q⟩, fun q => q.2⟩
  · rw [if_neg h]; exact ⟨fun q => q.elim, fun q => h q.1⟩
theorem okEq_int : okEq (.int i) (.int j) = true ↔ SeqAt.shaped (.int i) = true ∧ SeqAt.shaped (.int j) = true := by
  unfold okEq
  simp [isD, toPy]
end
/-! ### texts of data -/
abbrev SO2 (x : Str) : Prop := PyData.strOk x = true
theorem sok_app {a b : Str} (h : SO2 a) (g : SO2 b) : SO2 (a ++ b) := by
  unfold SO2 PyData.strOk at *
  rw [Str.cps_append, Array.all_append, h, g]
  rfl
theorem sok_of (s : String) : SO2 (Str.ofString s) := by
  rw [Str.ofString_eq_toList]
  unfold SO2 PyData.strOk
  rw [List.all_toArray, List.all_eq_true]
  intro c hc
  obtain ⟨ch, _, rfl⟩ := List.mem_map.mp hc
  have e : ch.toNat < 0x110000 := by
    rcases ch.valid with h | h
    · exact Nat.lt_trans h (by decide)
    · exact h.2
  exact decide_eq_true e
theorem sok_from : ∀ (ts : List Str) (k : Nat) (acc : Str), SO2 acc → (∀ t ∈ ts, SO2 t) → SO2 (textFrom k acc ts)
  | [], _, acc, h, _ => h
  | t :: r, k, acc, h, g => sok_from r (k + 1) _ (sok_app (sok_app h (sok_of _)) (g t (by simp))) fun u hu => g u (List.mem_cons_of_mem _ hu)
theorem sok_list {ts : List Str} (h : ∀ t ∈ ts, SO2 t) : SO2 (listText ts) := sok_app (sok_from ts 0 _ (sok_of "[") h) (sok_of "]")
theorem sok_join {sep : Str} (hs : SO2 sep) : ∀ {ts : List Str}, (∀ t ∈ ts, SO2 t) → SO2 (Str.join sep ts)
  | [], _ => by simp [SO2, PyData.strOk, Str.join, Str.empty]
  | [x], h => h x (by simp)
  | x :: y :: r, h => sok_app (sok_app (h x (by simp)) hs) (sok_join hs fun t ht => h t (List.mem_cons_of_mem _ ht))
theorem sok_tup {ts : List Str} (h : ∀ t ∈ ts, SO2 t) : SO2 (tupleText ts) := sok_app (sok_app (sok_of "(") (sok_join (sok_of ", ") h)) (by split <;> exact sok_of _)
mutual
/-- data of None, True, False, ints below 10 ** 200 -/
def fine : Da → Bool
  | .non | .bl _ => true
  | .int i => decide (i.natAbs < 10 ^ 200)
  | .tup xs | .lst xs => fines xs
  | _ => false
def fines : List Da → Bool
  | [] => true
  | d :: ds => fine d && fines ds
end
mutual
def bulkD : Da → Nat
  | .tup xs | .lst xs => bulkDs xs
  | _ => 0
def bulkDs : List Da → Nat
  | [] => 0
  | d :: ds => bulkD d + 1 + bulkDs ds
end
mutual
def depD : Da → Nat
  | .tup xs | .lst xs => depDs xs + 1
  | _ => 0
def depDs : List Da → Nat
  | [] => 0
  | d :: ds => max (depD d) (depDs ds)
end
mutual
theorem fine_facts : ∀ {d : Da}, fine d = true → isD d = true ∧ (toPy d).showable = true ∧ (toPy d).leavesShort 208 = true ∧ PyData.canLay0 (toPy d) = true ∧ (toPy d).bulk = bulkD d ∧ (toPy d).depth = depD d ∧ SO2 (toPy d).shown
  | .non, _ => ⟨rfl, rfl, rfl, rfl, rfl, rfl, sok_of _⟩
  | .bl b, _ => ⟨rfl, rfl, rfl, rfl, rfl, rfl, by cases b <;> exact sok_of _⟩
  | .int i, h => by
    have hi : i.natAbs < 10 ^ 200 := of_decide_eq_true h
    refine ⟨rfl, ?_, ?_, rfl, rfl, rfl, sok_of _⟩
    · refine decide_eq_true (Nat.lt_of_le_of_lt (m := 700) ?_ (by decide))
      exact Sm.log (k := 700) (Nat.lt_trans hi (by decide))
    · have e := int_text_length_le10 (a := i) (k := 200) (by decide) hi
      refine decide_eq_true ?_
      show (Str.ofString (toString i)).length ≤ 208
      rw [ofString_length]
      omega
  | .tup xs, h => by
    obtain ⟨a, b, c, d, e, f, g⟩ := fines_facts (ds := xs) h
    exact ⟨a, b, c, d, e, congrArg (· + 1) f, sok_tup g⟩
  | .lst xs, h => by
    obtain ⟨a, b, c, d, e, f, g⟩ := fines_facts (ds := xs) h
    exact ⟨a, b, c, d, e, congrArg (· + 1) f, sok_list g⟩
  | .str _, h => by cases h
  | .ref _, h => by cases h
theorem fines_facts : ∀ {ds : List Da}, fines ds = true → isDs ds = true ∧ PyData.showableAll (toPys ds) = true ∧ PyData.leavesShortAll 208 (toPys ds) = true ∧ PyData.canLayAll0 (toPys ds) = true ∧ PyData.bulkAll (toPys ds) = bulkDs ds ∧ PyData.depthAll (toPys ds) = depDs ds ∧ ∀ t ∈ PyData.shownAll (toPys ds), SO2 t
  | [], _ => ⟨rfl, rfl, rfl, rfl, rfl, rfl, fun _ h => nomatch h⟩
  | x :: xs, h => by
    have hh := Bool.and_eq_true_iff.mp (show (fine x && fines xs) = true from h)
    obtain ⟨a, b, c, d, e, f, g⟩ := fine_facts hh.1
    obtain ⟨a2, b2, c2, d2, e2, f2, g2⟩ := fines_facts hh.2
    refine ⟨Bool.and_eq_true_iff.mpr ⟨a, a2⟩, Bool.and_eq_true_iff.mpr ⟨b, b2⟩, Bool.and_eq_true_iff.mpr ⟨c, c2⟩, Bool.and_eq_true_iff.mpr ⟨d, d2⟩, ?_, ?_, fun t ht => ?_⟩
    · show (toPy x).bulk + 1 + PyData.bulkAll (toPys xs) = bulkD x + 1 + bulkDs xs
      rw [e, e2]
    · show max (toPy x).depth (PyData.depthAll (toPys xs)) = max (depD x) (depDs xs)
      rw [f, f2]
    · rcases List.mem_cons.mp (show t ∈ (toPy x).shown :: PyData.shownAll (toPys xs) from ht) with z | z
      · rw [z]; exact g
      · exact g2 t z
end
/-- data whose text can be told and compared -/
structure Rp (d : Da) : Prop where
  fine : fine d = true
  bulk : bulkD d ≤ 50000
  dep : depD d ≤ 60
theorem Rp.repr {d : Da} (h : Rp d) : reprD [d] = some (.str (toPy d).shown) := by
  obtain ⟨a, b, c, _, e, f, g⟩ := fine_facts h.fine
  have l := PyData.shown_le_bulk 208 (by decide) (toPy d) c
  have k1 := h.bulk
  have k2 := h.dep
  have l2 : (toPy d).shown.length ≤ sizeLine := by rw [PySem.sizeLine_eq]; omega
  refine if_pos ?_
  unfold okRepr
  rw [a, b, decide_eq_true (show (toPy d).depth ≤ 60 by omega), decide_eq_true l2]
  rfl
theorem Rp.sok {d : Da} (h : Rp d) : SO2 (toPy d).shown := (fine_facts h.fine).2.2.2.2.2.2
theorem str_shaped {x : Str} (h : SO2 x) : SeqAt.shaped (.str x) = true := by
  unfold SeqAt.shaped
  rw [show PyData.canLay0 (.str x) = true from h]
  rfl
theorem ne_str {x : Str} (h : SO2 x) : neD (.str x) (.str x) = some (.bl false) := by
  have e : okEq (.str x) (.str x) = true := by
    unfold okEq
    rw [show toPy (.str x) = .str x from rfl, str_shaped h]
    rfl
  unfold neD
  rw [if_pos e]
  show some (Da.bl (!(x == x))) = _
  rw [beq_self_eq_true]
  rfl
@[simp] theorem eqD_int {i j : Int} : eqD (.int i) (.int j) = some (.bl (decide (i = j))) := by
  have e : okEq (.int i) (.int j) = true := rfl
  unfold eqD
  rw [if_pos e]
  show some (Da.bl (i == j)) = _
  congr 2
@[simp] theorem neD_int {i j : Int} : neD (.int i) (.int j) = some (.bl (!decide (i = j))) := by
  have e : okEq (.int i) (.int j) = true := rfl
  unfold neD
  rw [if_pos e]
  show some (Da.bl (!(i == j))) = _
  congr 2
theorem fine_shaped {d : Da} (h : fine d = true) (hd : depD d ≤ 64) : SeqAt.shaped (toPy d) = true := by
  obtain ⟨a, b, c, e, f, g, k⟩ := fine_facts h
  unfold SeqAt.shaped
  rw [e, g, decide_eq_true hd]
  rfl
theorem fine_okEq {x y : Da} (hx : fine x = true) (hy : fine y = true) (dx : depD x ≤ 64) (dy : depD y ≤ 64) : okEq x y = true := by
  unfold okEq
  rw [(fine_facts hx).1, (fine_facts hy).1, fine_shaped hx dx, fine_shaped hy dy]
  rfl
theorem ne_nil {xs : List Da} (h : fines xs = true) (hd : depDs xs ≤ 63) : neD (.lst xs) (.lst []) = some (.bl (!xs.isEmpty)) := by
  have e := fine_okEq (x := .lst xs) (y := .lst []) h rfl (by show depDs xs + 1 ≤ 64; omega) (by decide)
  unfold neD
  rw [if_pos e]
  cases xs <;> rfl
theorem eq_nil {xs : List Da} (h : fines xs = true) (hd : depDs xs ≤ 63) : eqD (.lst xs) (.lst []) = some (.bl xs.isEmpty) := by
  have e := fine_okEq (x := .lst xs) (y := .lst []) h rfl (by show depDs xs + 1 ≤ 64; omega) (by decide)
  unfold eqD
  rw [if_pos e]
  cases xs <;> rfl
theorem fines_of {xs : List Da} (h : ∀ x ∈ xs, fine x = true) : fines xs = true := by
  induction xs with
  | nil => rfl
  | cons x xs ih => exact Bool.and_eq_true_iff.mpr ⟨h x (by simp), ih fun y hy => h y (List.mem_cons_of_mem _ hy)⟩
theorem depDs_le {xs : List Da} {n : Nat} (h : ∀ x ∈ xs, depD x ≤ n) : depDs xs ≤ n := by
  induction xs with
  | nil => exact Nat.zero_le _
  | cons x xs ih => exact Nat.max_le.mpr ⟨h x (by simp), ih fun y hy => h y (List.mem_cons_of_mem _ hy)⟩
theorem bulkDs_le {xs : List Da} {n : Nat} (h : ∀ x ∈ xs, bulkD x ≤ n) : bulkDs xs ≤ (n + 1) * xs.length := by
  induction xs with
  | nil => exact Nat.le_refl _
  | cons x xs ih =>
    have h1 := h x (by simp)
    have h2 := ih fun y hy => h y (List.mem_cons_of_mem _ hy)
    show bulkD x + 1 + bulkDs xs ≤ (n + 1) * (xs.length + 1)
    rw [Nat.mul_add, Nat.mul_one]
    omega
end Sk

/-! Sk R: more rules: unpacking, x = a + b to be filled, is True. -/
namespace Sk
open PySem PySem.Spec L2

section
variable {X : Cx} {G : Fr} {W : WX} {pos pos' : Pos} {a b e : Expr} {da db d : EvD}
/-- a, b = e -/
def sUnp (bd : Da → Ev → Option Ev) (e : EvD) : StD := fun rho mu => sUse (e rho mu) rho fun d mu' => match bd d rho with
  | some rho' => .nx rho' mu'
  | none => .bad
theorem s_unp {tg : Expr} {is : List Nat} {bd : Da → Ev → Option Ev} (he : PE X e (TEx G W d)) (hg : PG X tg (TGx G is bd)) (hs : swapsWithSole [tg] e pos.line X.env = pure false := by rfl) (hw : swappedStores [tg] e X.env = pure none := by rfl)
    (h1 : (assignEach [tg] X.env).map (·.2) = [assign tg X.env] := by rfl) : PS X (.Assign [tg] e pos) (TSx G W (sUnp bd d)) := by
  refine PSw (ps_asg he hg hs hw h1) fun D σ H ⟨rho, mu, m, Own, S, h⟩ => ?_
  refine TEx.to S (use_wp (σ := σ) h) fun z mu1 v H1 m1 h1 g1 S1 r1 => ?_
  cases eb : bd z rho with
  | none => rw [eb] at h1; exact h1.elim
  | some rho' =>
    rw [eb] at h1
    exact ⟨z, rho, rho', mu1, m1, Own, S1, r1, eb, fun σ' S' _ => h1 σ' H1 m1 Own (g1.le _) S'⟩
/-- x = a + b, a new list to be filled -/
def sCatO (i : Nat) (a b : EvD) : StD := fun rho mu => sUse (a rho mu) rho fun x mu1 => sUse (b rho mu1) rho fun y mu2 => match x, y with
  | .lst xs, .lst ys => if xs.length + ys.length ≤ sizeLine then .nx (rho.set i (.own (xs ++ ys))) mu2 else .bad
  | _, _ => .bad
theorem s_catO {i : Nat} {x : Str} {bp : Pos} (ha : PE X a (TEx G W da)) (hb : PE X b (TEx G W db)) (hN : X.N.Nodup) (hi : X.N[i]? = some x := by rfl) (hx : Loc X.env.scope x := by first | exact Or.inl rfl | exact Or.inr rfl)
    (hs : swapsWith (.BinOp a .Add b bp) (some (.Name x pos')) pos.line X.env = pure false := by rfl) (hf : X.fn x = true ∨ X.env.scope.names.lookup x = some .local := by first | exact .inl rfl | exact .inr rfl) :
    PS X (.Assign [.Name x pos'] (.BinOp a .Add b bp) pos) (TSx G W (sCatO i da db)) := by
  refine PSw (ps_set hN hi hx (pe_op op_cat ha hb) hs hf) fun D σ H ⟨rho, mu, m, Own, S, h⟩ => ?_
  refine TEx.to S (use_wp (σ := σ) h) fun z1 mu1 v1 H1 m1 h1 g1 S1 r1 => TEx.to S1 (use_wp (σ := σ) (SOk.step (g1.le (G.bar Own)) h1)) fun z2 mu2 v2 H2 m2 h2 g2 S2 r2 => ?_
  replace r1 := r1.mono (g2.le (G.bar Own))
  cases z1 with
  | lst xs =>
    cases z2 with
    | lst ys =>
      dsimp only at h2
      by_cases q : xs.length + ys.length ≤ sizeLine
      · rw [if_pos q] at h2
        cases r1 with
        | lst a1 a2 a3 a4 =>
          cases r2 with
          | lst b1 b2 b3 b4 =>
            refine ⟨_, _, _, _, rfl, rfl, a3, b3, by rw [← a4.length, ← b4.length]; exact q, fun p hp => ?_⟩
            obtain ⟨S3, g3⟩ := S2.seto i (a4.append b4) hp
            exact h2 _ _ m2 _ ((g2.le _).trans g3) S3
      · rw [if_neg q] at h2
        exact h2.elim
    | _ => exact h2.elim
  | _ => cases z2 <;> exact h2.elim
/-- is, of truths -/
def isBD : Da → Da → Option Da
  | .bl a, .bl b => some (.bl (decide (a = b)))
  | _, _ => none
theorem o_isB : OpD X (compareOp .Is) isBD := by
  refine ⟨_, op_is_bl, fun m B H x y z a b Q e rx ry fr q => ?_⟩
  match x, y, e, rx, ry with
  | .bl i, .bl j, e, .bl _, .bl _ =>
    cases e
    exact ⟨i, j, rfl, rfl, q _ _ (Same.refl _) (.bl _)⟩
variable {rho : Ev} {mu : Mem} {D : Po} {P : Da → Mem → Prop}
@[simp] theorem sp_unp {bd : Da → Ev → Option Ev} : SP (sUnp bd da rho mu) D ↔ Yes (da rho mu) fun d m => match bd d rho with | some r2 => D.nx r2 m | none => False := by
  unfold sUnp; rw [sp_use]
  cases da rho mu with
  | ok d m => simp only [yes_ok]; cases bd d rho <;> exact Iff.rfl
  | _ => exact Iff.rfl
@[simp] theorem sp_catO {i : Nat} : SP (sCatO i da db rho mu) D ↔ Yes (da rho mu) fun x m => Yes (db rho m) fun y m2 => match x, y with
    | .lst xs, .lst ys => xs.length + ys.length ≤ sizeLine ∧ D.nx (rho.set i (.own (xs ++ ys))) m2
    | _, _ => False := by
  unfold sCatO; simp only [sp_use]
  cases da rho mu with
  | ok x m =>
    simp only [yes_ok]
    cases db rho m with
    | ok y m2 =>
      simp only [yes_ok]
      cases x with
      | lst xs =>
        cases y with
        | lst ys =>
          dsimp only
          by_cases q : xs.length + ys.length ≤ sizeLine
          · rw [if_pos q]; exact ⟨fun z => ⟨q, z⟩, fun z => z.2⟩
          · rw [if_neg q]; exact ⟨fun z => z.elim, fun z => q z.1⟩
        | _ => exact Iff.rfl
      | _ => exact Iff.rfl
    | _ => exact Iff.rfl
  | _ => exact Iff.rfl
@[simp] theorem isBD_bl {x y : Bool} : isBD (.bl x) (.bl y) = some (.bl (decide (x = y))) := rfl
end
end Sk

/-! Sk S: all, min, max of lists, min(.., default=None). -/
namespace Sk
open PySem PySem.Spec L2

def boolsOf : List Da → Option (List Bool)
  | [] => some []
  | .bl i :: r => (boolsOf r).map (i :: ·)
  | _ :: _ => none
theorem boolsOf_eq : ∀ {xs : List Da} {bs : List Bool}, boolsOf xs = some bs → xs = bs.map Da.bl
  | [], bs, h => by cases h; rfl
  | x :: xs, bs, h => by
    cases x with
    | bl i =>
      obtain ⟨cs, e1, e2⟩ := Option.map_eq_some_iff.mp (show (boolsOf xs).map (i :: ·) = some bs from h)
      rw [boolsOf_eq e1, ← e2]
      rfl
    | _ => cases h
theorem boolsOf_map : ∀ bs : List Bool, boolsOf (bs.map Da.bl) = some bs
  | [] => rfl
  | b :: bs => by
    show (boolsOf (bs.map Da.bl)).map (b :: ·) = _
    rw [boolsOf_map bs]
    rfl
theorem RDs.bools {m : List Addr} {B : Addr → Prop} {H : Hp} : ∀ {ns : List Bool} {v : List V}, RDs m B H (ns.map Da.bl) v → v = ns.map V.bl
  | [], _, .nil => rfl
  | n :: ns, _, .cons h t => by
    cases h
    rw [RDs.bools t]
    rfl
def allD : List Da → Option Da
  | [.lst xs] => (boolsOf xs).map fun bs => .bl (bs.all id)
  | _ => none
/-- the least and the greatest -/
def leastI : Int → List Int → Int := fun n ns => ns.foldl min n
def mostI : Int → List Int → Int := fun n ns => ns.foldl max n
theorem leastI_mem : ∀ (ns : List Int) (n : Int), leastI n ns ∈ n :: ns
  | [], n => by simp [leastI]
  | k :: ns, n => by
    have h := leastI_mem ns (min n k)
    show leastI (min n k) ns ∈ n :: k :: ns
    rcases List.mem_cons.mp h with e | e
    · rw [e]
      rcases Int.le_total n k with q | q
      · rw [Int.min_eq_left q]; simp
      · rw [Int.min_eq_right q]; simp
    · exact List.mem_cons_of_mem _ (List.mem_cons_of_mem _ e)
theorem leastI_le : ∀ (ns : List Int) (n : Int), ∀ y ∈ n :: ns, leastI n ns ≤ y
  | [], n, y, h => by rw [List.mem_singleton.mp h]; exact Int.le_refl _
  | k :: ns, n, y, h => by
    show leastI (min n k) ns ≤ y
    have i := leastI_le ns (min n k)
    have i0 := i (min n k) (by simp)
    rcases List.mem_cons.mp h with e | h
    · rw [e]; omega
    · rcases List.mem_cons.mp h with e | h
      · rw [e]; omega
      · exact i y (List.mem_cons_of_mem _ h)
theorem mostI_mem : ∀ (ns : List Int) (n : Int), mostI n ns ∈ n :: ns
  | [], n => by simp [mostI]
  | k :: ns, n => by
    have h := mostI_mem ns (max n k)
    show mostI (max n k) ns ∈ n :: k :: ns
    rcases List.mem_cons.mp h with e | e
    · rw [e]
      rcases Int.le_total n k with q | q
      · rw [Int.max_eq_right q]; simp
      · rw [Int.max_eq_left q]; simp
    · exact List.mem_cons_of_mem _ (List.mem_cons_of_mem _ e)
theorem mostI_ge : ∀ (ns : List Int) (n : Int), ∀ y ∈ n :: ns, y ≤ mostI n ns
  | [], n, y, h => by rw [List.mem_singleton.mp h]; exact Int.le_refl _
  | k :: ns, n, y, h => by
    show y ≤ mostI (max n k) ns
    have i := mostI_ge ns (max n k)
    have i0 := i (max n k) (by simp)
    rcases List.mem_cons.mp h with e | h
    · rw [e]; omega
    · rcases List.mem_cons.mp h with e | h
      · rw [e]; omega
      · exact i y (List.mem_cons_of_mem _ h)
def minLD : List Da → Option Da
  | [.lst xs] => (intsOf xs).bind fun ns => match ns with
    | [] => none
    | n :: r => some (.int (leastI n r))
  | _ => none
def maxLD : List Da → Option Da
  | [.lst xs] => (intsOf xs).bind fun ns => match ns with
    | [] => none
    | n :: r => some (.int (mostI n r))
  | _ => none
section
variable {X : Cx} {G : Fr} {W : WX} {pos : Pos} {a b e : Expr} {da db d : EvD}
theorem b_all (hc : X.calm = true) : CallD X (.builtin "all") allD := by
  refine ⟨_, cr_all hc, fun m B H xs z vs Q e r fr q => ?_⟩
  match xs, e with
  | [.lst xs], e =>
    obtain ⟨bs, e1, e2⟩ := Option.map_eq_some_iff.mp (show (boolsOf xs).map (fun bs => Da.bl (bs.all id)) = some z from e)
    subst e2
    cases r with
    | cons r1 r2 =>
      cases r2
      cases r1 with
      | lst a1 a2 a3 a4 =>
        have ev := RDs.bools (boolsOf_eq e1 ▸ a4)
        subst ev
        exact ⟨_, bs, rfl, SqL.of a3, q _ _ (Same.refl _) (.bl _)⟩
theorem b_minL (hc : X.calm = true) : CallD X (.builtin "min") minLD := by
  refine ⟨_, cr_min hc, fun m B H xs z vs Q e r fr q => ?_⟩
  match xs, e with
  | [.lst xs], e =>
    replace e : (intsOf xs).bind (fun ns => match ns with | [] => none | n :: r => some (.int (leastI n r))) = some z := e
    cases ei : intsOf xs with
    | none => rw [ei] at e; cases e
    | some ns =>
      rw [ei] at e
      cases ns with
      | nil => cases e
      | cons n ns =>
        cases e
        cases r with
        | cons r1 r2 =>
          cases r2
          cases r1 with
          | lst a1 a2 a3 a4 =>
            have ev := RDs.ints (intsOf_eq ei ▸ a4)
            subst ev
            refine ⟨_, n :: ns, rfl, SqL.of a3, Nat.zero_lt_succ _, fun k hk hl => ?_⟩
            have e2 : k = leastI n ns := Int.le_antisymm (hl _ (leastI_mem ns n)) (leastI_le ns n k hk)
            subst e2
            exact q _ _ (Same.refl _) (.int _)
theorem b_maxL (hc : X.calm = true) : CallD X (.builtin "max") maxLD := by
  refine ⟨_, cr_max hc, fun m B H xs z vs Q e r fr q => ?_⟩
  match xs, e with
  | [.lst xs], e =>
    replace e : (intsOf xs).bind (fun ns => match ns with | [] => none | n :: r => some (.int (mostI n r))) = some z := e
    cases ei : intsOf xs with
    | none => rw [ei] at e; cases e
    | some ns =>
      rw [ei] at e
      cases ns with
      | nil => cases e
      | cons n ns =>
        cases e
        cases r with
        | cons r1 r2 =>
          cases r2
          cases r1 with
          | lst a1 a2 a3 a4 =>
            have ev := RDs.ints (intsOf_eq ei ▸ a4)
            subst ev
            refine ⟨_, n :: ns, rfl, SqL.of a3, Nat.zero_lt_succ _, fun k hk hl => ?_⟩
            have e2 : k = mostI n ns := Int.le_antisymm (mostI_ge ns n k hk) (hl _ (mostI_mem ns n))
            subst e2
            exact q _ _ (Same.refl _) (.int _)
/-- min(list of ints, default=None) -/
def minDefD : Da → Option Da
  | .lst xs => (intsOf xs).map fun ns => match ns with
    | [] => .non
    | n :: r => .int (leastI n r)
  | _ => none
def rMinDef (K : PySem.W.Frag) : List V → List V → Hp → VK → Prop := fun vs zs H Q => ∃ (a : Addr) (ns : List Int), vs = [V.ref a] ∧ zs = [.non] ∧ SqL K H a (ns.map V.int) ∧ (match ns with | [] => Q .non H | n :: r => Q (.int (leastI n r)) H)
theorem ints_dp {K : PySem.W.Frag} {H : Hp} : ∀ ns : List Int, DpAll K H (ns.map V.int) (ns.map PyData.int)
  | [] => .nil
  | n :: ns => .cons (.int n) (ints_dp ns)
theorem ints_alike (ns : List Int) : PySem.W.AlikeAll (ns.map PyData.int) := by
  refine ⟨fun x hx y hy => ?_, fun x hx => ?_⟩
  · obtain ⟨i, _, rfl⟩ := List.mem_map.mp hx
    obtain ⟨j, _, rfl⟩ := List.mem_map.mp hy
    rfl
  · obtain ⟨i, _, rfl⟩ := List.mem_map.mp hx
    exact fun z => by cases z
theorem ints_depth : ∀ ns : List Int, PyData.depthAll (ns.map PyData.int) = 0
  | [] => rfl
  | n :: ns => by
    show max 0 (PyData.depthAll (ns.map PyData.int)) = 0
    rw [ints_depth ns]
    rfl
theorem cr_minDef (hc : X.calm = true) (hu : X.A.units + 64 < cLine) : CallRK X (.builtin "min") [Str.ofString "default"] (rMinDef X.K) := by
  intro pins s σ H vs zs us ws Q I r rz h
  obtain ⟨a, ns, rfl, rfl, hs, q⟩ := h
  obtain rfl := Vals.ref1 r
  obtain ⟨w1, rfl, e1⟩ := vals1 rz
  obtain rfl : w1 = Value.none := e1
  obtain ⟨its, rv, hl, _⟩ := I.list hs
  obtain ⟨as, ra⟩ := Dp.readsAll I (ns.map PyData.int) _ its (ints_dp ns) rv
  refine PySem.W.min_list_default (I.ok.hd hc) hl.isList ra (ints_alike ns) (by rw [ints_depth]; omega) (fun e h' tk k => ?_) fun y ys i v h' tk bs e hv hr k => ?_
  · cases ns with
    | cons n ns => cases e
    | nil => exact ⟨.non, H, I.kept k, rfl, q⟩
  · cases ns with
    | nil => cases e
    | cons n ns =>
      cases e
      rw [PySem.W.minD_ints] at hr
      cases hr
      exact ⟨.int _, H, I.kept k, ⟨_, rfl⟩, q⟩
theorem c_minDef {p kp np : Pos} {j : Nat} {lv : Nat} (hr : Rm lv X.A) (hm : X.mg "min" = none) (ha : PE X a (TEx G W da)) (hc : X.calm = true := by rfl) (hg : Gl X "min" := by rfl)
    (hst : starEach [a] X.env = (false, eval a X.env) :: starEach [] X.env := by rfl)
    (he : backTo pos (starEach [a] X.env) = (false, eval a X.env) :: backTo pos (starEach [] X.env) := by rfl) (hpl : (backTo pos (starEach [a] X.env)).any (·.1) = false := by rfl)
    (hall : (backToKw pos (keywordEach [⟨some "default", .Constant .none j np, kp⟩] X.env)).all (·.1.isSome) = true := by rfl) (hnone : (backToKw pos (keywordEach [⟨some "default", .Constant .none j np, kp⟩] X.env)).any (·.1.isNone) = false := by rfl)
    (hks : (backToKw pos (keywordEach [⟨some "default", .Constant .none j np, kp⟩] X.env)).filterMap (·.1) = [Str.ofString "default"] := by rfl) :
    PE X (.Call (.Name "min" p) [a] [⟨some "default", .Constant .none j np, kp⟩] pos) (TEx G W (e1 minDefD da)) := by
  refine PEw (pe_callBK (cr_minDef hc hr.r.units) hg hm rfl (pa_cons ha pa_nil hst) (pk_cons pe_non pk_nil) (by decide) (by decide) he hpl hall hnone hks) fun σ H Q h => ?_
  obtain ⟨rho, mu, m, Own, S, h⟩ := h.un
  refine TEx.to S (wp_bnd h) fun x mu1 v H1 m1 h1 g1 S1 r1 => ?_
  obtain ⟨z, e, q⟩ := wp_opt h1
  cases r1 with
  | lst a1 a2 a3 a4 =>
    obtain ⟨ns, ei, e2⟩ := Option.map_eq_some_iff.mp (show (intsOf _).map (fun ns => match ns with | [] => Da.non | n :: r => .int (leastI n r)) = some z from e)
    have ev := RDs.ints (intsOf_eq ei ▸ a4)
    subst ev
    refine ⟨_, ns, rfl, rfl, SqL.of a3, ?_⟩
    cases ns with
    | nil => cases e2; exact q _ H1 m1 g1 S1 .non
    | cons n ns => cases e2; exact q _ H1 m1 g1 S1 (.int _)
  | _ => cases e
end
end Sk

/-! Sk T: comprehensions of two clauses. -/
namespace Sk
open PySem PySem.Spec L2

/-- [e for .. in it for .. in it1] -/
def cLoop2 (bd : Da → Ev → Option Ev) (it1 : EvI) (vs1 : List Nat) (bd1 : Da → Ev → Option Ev) (e : EvD) (rho0 : Ev) : List Da → Mem → Out (List Da)
  | [], mu => .ok [] mu
  | x :: xs, mu => match bd x rho0 with
    | none => .bad
    | some rho1 => bnd (noX (it1 rho1 mu)) fun ys mu1 => bnd (cLoop bd1 tT e (wipeE rho1 vs1) ys mu1) fun zs mu2 => bnd (cLoop2 bd it1 vs1 bd1 e rho0 xs mu2) fun ws mu3 => .ok (zs ++ ws) mu3
def eCmp2 (it : EvI) (vs : List Nat) (bd : Da → Ev → Option Ev) (it1 : EvI) (vs1 : List Nat) (bd1 : Da → Ev → Option Ev) (e : EvD) : EvD := fun rho mu => bnd (it rho mu) fun xs mu1 => bnd (cLoop2 bd it1 vs1 bd1 e (wipeE rho vs) xs mu1) fun zs mu2 => if zs.length ≤ sizeLine then .ok (.lst zs) mu2 else .bad
/-- a store that makes no list to be filled -/
def BdV (bd : Da → Ev → Option Ev) : Prop := ∀ x r r1, bd x r = some r1 → ∀ (i : Nat) (xs : List Da), r1[i]? = some (Sl.own xs) → r[i]? = some (Sl.own xs)
theorem set_own {r : Ev} {i j : Nat} {d : Da} {xs : List Da} (h : (r.set i (.val d))[j]? = some (Sl.own xs)) : r[j]? = some (Sl.own xs) := by
  by_cases hj : i = j
  · subst hj
    rw [List.getElem?_set_self'] at h
    cases q : r[i]? with
    | none => rw [q] at h; cases h
    | some s => rw [q] at h; cases h
  · rw [List.getElem?_set_ne hj] at h; exact h
theorem bName_v {i : Nat} : BdV (bName i) := fun x r r1 h j xs e => by
  cases h
  exact set_own e
theorem bNames_v : ∀ (is : List Nat) (ds : List Da) (r r1 : Ev), bNames is ds r = some r1 → ∀ (i : Nat) (xs : List Da), r1[i]? = some (Sl.own xs) → r[i]? = some (Sl.own xs)
  | [], [], r, r1, h, i, xs, e => by cases h; exact e
  | [], _ :: _, r, r1, h, i, xs, e => by cases h
  | _ :: _, [], r, r1, h, i, xs, e => by cases h
  | k :: is, d :: ds, r, r1, h, i, xs, e => set_own (bNames_v is ds (r.set k (.val d)) r1 h i xs e)
theorem bTup_v {is : List Nat} : BdV (bTup is) := fun x r r1 h j xs e => by
  cases x with
  | tup ds => exact bNames_v is ds r r1 h j xs e
  | _ => cases h
theorem wipe_ne {σ : L2.St} {i : Nat} : ∀ {vs : List Nat}, i ∉ vs → (wipe σ vs)[i]? = σ[i]?
  | [], _ => rfl
  | v :: vs, h => by
    unfold wipe
    rw [List.getElem?_set_ne (fun z => h (by rw [z]; simp))]
    exact wipe_ne fun z => h (List.mem_cons_of_mem _ z)
theorem wipeE_own {rho : Ev} {i : Nat} {xs : List Da} : ∀ {vs : List Nat}, (wipeE rho vs)[i]? = some (Sl.own xs) → i ∉ vs ∧ rho[i]? = some (Sl.own xs)
  | [], h => ⟨by simp, h⟩
  | v :: vs, h => by
    unfold wipeE at h
    by_cases hj : v = i
    · subst hj
      rw [List.getElem?_set_self'] at h
      cases q : (wipeE rho vs)[v]? with
      | none => rw [q] at h; cases h
      | some s => rw [q] at h; cases h
    · rw [List.getElem?_set_ne hj] at h
      obtain ⟨a, b⟩ := wipeE_own h
      exact ⟨fun z => (List.mem_cons.mp z).elim (fun e => hj e.symm) a, b⟩
section
variable {G : Fr} {W : WX} {rho : Ev} {mu : Mem} {σ : L2.St} {H H' : Hp} {m : List Addr} {Own : Addr → Prop}
theorem cLoop_nox {bd : Da → Ev → Option Ev} {t : EvT} {e : EvD} {rho0 : Ev} : ∀ (xs : List Da) (u : Mem) (x : Exn) (v : Mem), cLoop bd t e rho0 xs u ≠ .exc x v
  | [], u, x, v, h => by cases h
  | y :: ys, u, x, v, e1 => by
    unfold cLoop at e1
    cases eb : bd y rho0 with
    | none => rw [eb] at e1; cases e1
    | some r1 =>
      rw [eb] at e1
      dsimp only at e1
      cases et : t r1 u with
      | ok b u1 =>
        rw [et] at e1
        simp only [noX, bnd] at e1
        cases b with
        | false => exact cLoop_nox ys u1 x v e1
        | true =>
          simp only [if_true] at e1
          cases ee : e r1 u1 with
          | ok z u2 =>
            rw [ee] at e1
            dsimp only at e1
            cases ec : cLoop bd t e rho0 ys u2 with
            | ok zs u3 => rw [ec] at e1; cases e1
            | exc x' u3 => exact cLoop_nox ys u2 x' u3 ec
            | bad => rw [ec] at e1; cases e1
          | exc x' u2 => rw [ee] at e1; cases e1
          | bad => rw [ee] at e1; cases e1
      | exc x' u1 => rw [et] at e1; cases e1
      | bad => rw [et] at e1; cases e1
theorem cLoop2_nox {bd : Da → Ev → Option Ev} {it1 : EvI} {vs1 : List Nat} {bd1 : Da → Ev → Option Ev} {e : EvD} {rho0 : Ev} : ∀ (xs : List Da) (u : Mem) (x : Exn) (v : Mem), cLoop2 bd it1 vs1 bd1 e rho0 xs u ≠ .exc x v
  | [], u, x, v, h => by cases h
  | y :: ys, u, x, v, e1 => by
    unfold cLoop2 at e1
    cases eb : bd y rho0 with
    | none => rw [eb] at e1; cases e1
    | some r1 =>
      rw [eb] at e1
      dsimp only at e1
      cases et : it1 r1 u with
      | ok b u1 =>
        rw [et] at e1
        simp only [noX, bnd] at e1
        cases ec : cLoop bd1 tT e (wipeE r1 vs1) b u1 with
        | ok zs u3 =>
          rw [ec] at e1
          dsimp only at e1
          cases ed : cLoop2 bd it1 vs1 bd1 e rho0 ys u3 with
          | ok ws u4 => rw [ed] at e1; cases e1
          | exc x' u4 => exact cLoop2_nox ys u3 x' u4 ed
          | bad => rw [ed] at e1; cases e1
        | exc x' u3 => exact cLoop_nox b u1 x' u3 ec
        | bad => rw [ec] at e1; cases e1
      | exc x' u1 => rw [et] at e1; cases e1
      | bad => rw [et] at e1; cases e1
theorem wp_nox {α : Type} {o : Out α} {P : α → Mem → Prop} {E : Exn → Mem → Prop} (h : o.wp P E) (n : ∀ x v, o ≠ .exc x v) : o.wp P fun _ _ => False := by
  cases o with
  | ok a u => exact h
  | exc x v => exact absurd rfl (n x v)
  | bad => exact h
theorem cmp2_le {it it1 : EvI} {bd bd1 : Da → Ev → Option Ev} {vs vs1 : List Nat} {e : EvD} {σ : L2.St} {H : Hp} {Q : VK} (hv : BdV bd) (h : TEx G W (eCmp2 it vs bd it1 vs1 bd1 e) σ H Q) :
    tLc2 (TIx G W it) (TGx G vs bd) (TTx G WF tT) (TIx G WF it1) (TGx G vs1 bd1) (TTx G WF tT) (TEx G WF e) vs vs1 σ H Q := by
  obtain ⟨rho, mu, m, Own, S, h⟩ := h.un
  refine ⟨rho, mu, m, Own, S, wp_and (wp_bnd h) fun items mu1 h1 J H1 m1 g1 S1 wk => ?_⟩
  intro D hD
  have ns := S1.noslot hD
  obtain ⟨S2, le2⟩ := S1.bar1 (o := .lst []) hD
  have h1 := wp_nox (wp_bnd h1) (cLoop2_nox items mu1)
  refine ⟨fun i k H' => k = items.length - i ∧ i ≤ items.length ∧ ∃ mu' m' acc av, Le m1 (G.bar Own) H1 m' (G.bar (fun a => Own a ∨ a = D)) H' ∧ Lf m1 H1 m' H' ∧ StR G rho mu' σ H' m' (fun a => Own a ∨ a = D) ∧ H' D = some (.lst av) ∧ RDs m' (G.bar (fun a => Own a ∨ a = D)) H' acc av ∧
      (cLoop2 bd it1 vs1 bd1 e (wipeE rho vs) (items.drop i) mu').wp (fun ws mu2 => (acc ++ ws).length ≤ sizeLine ∧ QE G rho σ Own m H Q (.lst (acc ++ ws)) mu2) (fun _ _ => False), ⟨items.length, by simp, Nat.zero_le _, mu1, m1, [], [], le2, Lf.of_same (same_upd hD), S2, upd_same, .nil, ?_⟩, ?_⟩
  · rw [List.drop_zero]
    refine wp_and h1 fun ws mu2 q => ?_
    by_cases z : ws.length ≤ sizeLine
    · rw [if_pos z] at q; exact ⟨z, q⟩
    · rw [if_neg z] at q; exact q.elim
  · rintro i k H2 ⟨rfl, hi2, mu2, m2, acc, av, g2, l2, S2, hDv, rd, hw⟩
    obtain ⟨w1, w2⟩ := wk m2 _ H2 g2 fun p hp => S2.fresh hp
    by_cases hlt : i < items.length
    · have ed : items[i]? = some items[i] := List.getElem?_eq_getElem hlt
      rw [List.drop_eq_getElem_cons hlt] at hw
      unfold cLoop2 at hw
      obtain ⟨k1, k2⟩ := w1 i _ ed
      refine .inr ⟨k1, fun H' => i + 1 ≤ items.length ∧ ∃ mu' m' acc av, Le m1 (G.bar Own) H1 m' (G.bar (fun a => Own a ∨ a = D)) H' ∧ Lf m1 H1 m' H' ∧ StR G rho mu' σ H' m' (fun a => Own a ∨ a = D) ∧ H' D = some (.lst av) ∧ RDs m' (G.bar (fun a => Own a ∨ a = D)) H' acc av ∧
          (cLoop2 bd it1 vs1 bd1 e (wipeE rho vs) (items.drop (i + 1)) mu').wp (fun ws mu2 => (acc ++ ws).length ≤ sizeLine ∧ QE G rho σ Own m H Q (.lst (acc ++ ws)) mu2) (fun _ _ => False), fun H' z => ⟨items.length - (i + 1), by omega, rfl, z⟩, fun x H3 y => ?_⟩
      obtain ⟨sm, rx⟩ := k2 x H3 y
      cases eb : bd items[i] (wipeE rho vs) with
      | none => rw [eb] at hw; exact hw.elim
      | some rho3 =>
        rw [eb] at hw
        dsimp only at hw
        have nD : D ∉ m2 := fun z => S2.wd.dis D z (.inr (.inr rfl))
        have S3 := S2.same sm
        refine ⟨items[i], wipeE rho vs, rho3, mu2, m2, (fun a => Own a ∨ a = D), S3.wipe _, rx, eb, fun σ4 S4 ew => ⟨ew.trans (wipe_idem _ _), ?_⟩⟩
        have ns4 : NoSlot rho3 σ4 D := fun i xs e1 e2 => by
          obtain ⟨n1, e3⟩ := wipeE_own (hv _ _ _ eb i xs e1)
          have e4 : σ4[i]? = σ[i]? := by
            rw [← wipe_ne (σ := σ4) n1, ew, wipe_ne n1, wipe_ne n1]
          exact ns i xs e3 (e4 ▸ e2)
        refine TTx.to (d := tT) S4 (A := fun b u => b = true ∧ u = mu2) ⟨rfl, rfl⟩ fun b mu5 H5 m5 ⟨eb2, eu⟩ g5 S5 => ?_
        subst eb2 eu
        rw [if_pos rfl]
        have lf3 : Lf m2 H2 m5 H5 := (Lf.of_same sm).trans g5
        have S5' := (S2.call lf3 S5.wd)
        have hD5 : H5 D = some (.lst av) := lf3.keep D _ hDv nD id
        refine ⟨rho3, mu5, m5, (fun a => Own a ∨ a = D), S5, wp_and (wp_noX (E' := ES G WF rho3 σ4 (fun a => Own a ∨ a = D) m5 H5) (wp_bnd hw)) fun items1 mu6 h6 J1 H6 m6 g6 S6 wk6 => ?_⟩
        have lf6 : Lf m2 H2 m6 H6 := lf3.trans g6
        have S6' := (S2.call lf6 S6.wd)
        have hD6 : H6 D = some (.lst av) := lf6.keep D _ hDv nD id
        have h6 := wp_nox (wp_bnd h6) (cLoop_nox items1 mu6)
        refine ⟨fun j k H' => k = items1.length - j ∧ j ≤ items1.length ∧ ∃ mu' m' acc av, Le m6 (G.bar (fun a => Own a ∨ a = D)) H6 m' (G.bar (fun a => Own a ∨ a = D)) H' ∧ Le m1 (G.bar Own) H1 m' (G.bar (fun a => Own a ∨ a = D)) H' ∧ Lf m1 H1 m' H' ∧ StR G rho mu' σ H' m' (fun a => Own a ∨ a = D) ∧ StR G rho3 mu' σ4 H' m' (fun a => Own a ∨ a = D) ∧ H' D = some (.lst av) ∧ RDs m' (G.bar (fun a => Own a ∨ a = D)) H' acc av ∧
            (cLoop bd1 tT e (wipeE rho3 vs1) (items1.drop j) mu').wp (fun zs mu2 => (bnd (cLoop2 bd it1 vs1 bd1 e (wipeE rho vs) (items.drop (i + 1)) mu2) fun ws mu3 => .ok (zs ++ ws) mu3).wp (fun ws mu3 => (acc ++ ws).length ≤ sizeLine ∧ QE G rho σ Own m H Q (.lst (acc ++ ws)) mu3) fun _ _ => False) (fun _ _ => False),
          ⟨items1.length, by simp, Nat.zero_le _, mu6, m6, acc, av, Le.refl, g2.trans (lf6.le _), l2.trans lf6, S6', S6, hD6, RDs.mono (lf6.le _) rd, ?_⟩, ?_⟩
        · rw [List.drop_zero]
          exact h6
        · rintro j k H7 ⟨rfl, hj2, mu7, m7, acc7, av7, g7, gg7, l7, S7, T7, hD7, rd7, hw7⟩
          obtain ⟨x1, x2⟩ := wk6 m7 _ H7 g7 fun p hp => T7.fresh hp
          by_cases hlt1 : j < items1.length
          · have ed1 : items1[j]? = some items1[j] := List.getElem?_eq_getElem hlt1
            rw [List.drop_eq_getElem_cons hlt1] at hw7
            unfold cLoop at hw7
            obtain ⟨y1, y2⟩ := x1 j _ ed1
            refine .inr ⟨y1, fun H' => j + 1 ≤ items1.length ∧ ∃ mu' m' acc av, Le m6 (G.bar (fun a => Own a ∨ a = D)) H6 m' (G.bar (fun a => Own a ∨ a = D)) H' ∧ Le m1 (G.bar Own) H1 m' (G.bar (fun a => Own a ∨ a = D)) H' ∧ Lf m1 H1 m' H' ∧ StR G rho mu' σ H' m' (fun a => Own a ∨ a = D) ∧ StR G rho3 mu' σ4 H' m' (fun a => Own a ∨ a = D) ∧ H' D = some (.lst av) ∧ RDs m' (G.bar (fun a => Own a ∨ a = D)) H' acc av ∧
              (cLoop bd1 tT e (wipeE rho3 vs1) (items1.drop (j + 1)) mu').wp (fun zs mu2 => (bnd (cLoop2 bd it1 vs1 bd1 e (wipeE rho vs) (items.drop (i + 1)) mu2) fun ws mu3 => .ok (zs ++ ws) mu3).wp (fun ws mu3 => (acc ++ ws).length ≤ sizeLine ∧ QE G rho σ Own m H Q (.lst (acc ++ ws)) mu3) fun _ _ => False) (fun _ _ => False),
              fun H' z => ⟨items1.length - (j + 1), by omega, rfl, z⟩, fun x H8 y => ?_⟩
            obtain ⟨sm8, rx8⟩ := y2 x H8 y
            cases eb8 : bd1 items1[j] (wipeE rho3 vs1) with
            | none => rw [eb8] at hw7; exact hw7.elim
            | some rho9 =>
              rw [eb8] at hw7
              dsimp only at hw7
              rw [show noX (tT rho9 mu7) = .ok true mu7 from rfl] at hw7
              have hw7 : (bnd (noX (e rho9 mu7)) fun y mu2 => bnd (cLoop bd1 tT e (wipeE rho3 vs1) (items1.drop (j + 1)) mu2) fun ys mu3 => .ok (y :: ys) mu3).wp _ _ := hw7
              have nD7 : D ∉ m7 := fun z => T7.wd.dis D z (.inr (.inr rfl))
              have T8 := T7.same sm8
              refine ⟨items1[j], wipeE rho3 vs1, rho9, mu7, m7, (fun a => Own a ∨ a = D), T8.wipe _, rx8, eb8, fun σ9 S9 ew9 => ⟨ew9.trans (wipe_idem _ _), ?_⟩⟩
              refine TTx.to (d := tT) S9 (A := fun b u => b = true ∧ u = mu7) ⟨rfl, rfl⟩ fun b mu10 H10 m10 ⟨eb10, eu10⟩ g10 S10 => ?_
              subst eb10 eu10
              rw [if_pos rfl]
              refine TEx.to S10 (wp_noX (E' := ES G WF rho9 σ9 (fun a => Own a ∨ a = D) m10 H10) (wp_bnd hw7)) fun z mu11 v H11 m11 h11 g11 S11 r11 => ?_
              have lf11 : Lf m7 H7 m11 H11 := ((Lf.of_same sm8).trans g10).trans g11
              have S11' := (S7.call lf11 S11.wd)
              have T11' := (T7.call lf11 S11.wd)
              have hD11 : H11 D = some (.lst av7) := lf11.keep D _ hD7 nD7 id
              have rd11 : RDs m11 (G.bar (fun a => Own a ∨ a = D)) H11 (acc7 ++ [z]) (av7 ++ [v]) := (RDs.mono (lf11.le _) rd7).append (.cons r11 .nil)
              obtain ⟨S12, le12⟩ := S11'.write (.lst (av7 ++ [v])) (.inr rfl) ns
              obtain ⟨T12, _⟩ := T11'.write (.lst (av7 ++ [v])) (.inr rfl) ns4
              have q := wp_nox (wp_bnd h11) (cLoop_nox (items1.drop (j + 1)) mu11)
              have lt : acc7.length < sizeLine := by
                cases ec : cLoop bd1 tT e (wipeE rho3 vs1) (items1.drop (j + 1)) mu11 with
                | ok ys u =>
                  rw [ec] at q
                  have q := wp_bnd (show (bnd (cLoop2 bd it1 vs1 bd1 e (wipeE rho vs) (items.drop (i + 1)) u) fun ws mu3 => .ok ((z :: ys) ++ ws) mu3).wp _ _ from q)
                  cases ed : cLoop2 bd it1 vs1 bd1 e (wipeE rho vs) (items.drop (i + 1)) u with
                  | ok ws u4 =>
                    rw [ed] at q
                    have q1 : (acc7 ++ ((z :: ys) ++ ws)).length ≤ sizeLine := q.1
                    rw [List.length_append, List.length_append, List.length_cons] at q1
                    omega
                  | exc x u4 => rw [ed] at q; exact q.elim
                  | bad => rw [ed] at q; exact q.elim
                | exc x u => rw [ec] at q; exact q.elim
                | bad => rw [ec] at q; exact q.elim
              refine ⟨av7, hD11, by rw [← rd7.length]; exact lt, hlt1, mu11, m11, acc7 ++ [z], av7 ++ [v], g7.trans ((lf11.le _).trans le12), gg7.trans ((lf11.le _).trans le12), ?_, S12, T12, upd_same, RDs.mono le12 rd11, ?_⟩
              · refine ⟨(l7.trans lf11).pre, fun a u e n1 n2 => ?_, fun a e => (l7.trans lf11).dom a (le12.dom a e), fun a z => z.elim⟩
                rw [upd_ne (fun (q : a = D) => by rw [q, hD] at e; cases e)]
                exact (l7.trans lf11).keep a u e n1 n2
              · refine wp_and q fun ys u q => ?_
                have q := wp_bnd (show (bnd (cLoop2 bd it1 vs1 bd1 e (wipeE rho vs) (items.drop (i + 1)) u) fun ws mu3 => .ok ((z :: ys) ++ ws) mu3).wp _ _ from q)
                show (bnd (cLoop2 bd it1 vs1 bd1 e (wipeE rho vs) (items.drop (i + 1)) u) fun ws mu3 => .ok (ys ++ ws) mu3).wp _ _
                cases ed : cLoop2 bd it1 vs1 bd1 e (wipeE rho vs) (items.drop (i + 1)) u with
                | ok ws u4 =>
                  rw [ed] at q
                  have q1 : (acc7 ++ ((z :: ys) ++ ws)).length ≤ sizeLine ∧ QE G rho σ Own m H Q (.lst (acc7 ++ ((z :: ys) ++ ws))) u4 := q
                  have ea : acc7 ++ ((z :: ys) ++ ws) = (acc7 ++ [z]) ++ (ys ++ ws) := by simp
                  rw [ea] at q1
                  exact q1
                | exc x u4 => rw [ed] at q; exact q.elim
                | bad => rw [ed] at q; exact q.elim
          · have ei : j = items1.length := Nat.le_antisymm hj2 (Nat.not_lt.mp hlt1)
            rw [List.drop_eq_nil_of_le (Nat.not_lt.mp hlt1)] at hw7
            refine .inl ⟨by rw [ei]; exact x2, hlt, mu7, m7, acc7, av7, gg7, l7, S7, hD7, rd7, ?_⟩
            exact wp_and (wp_bnd (show (bnd (cLoop2 bd it1 vs1 bd1 e (wipeE rho vs) (items.drop (i + 1)) mu7) fun ws mu3 => .ok ([] ++ ws) mu3).wp _ _ from hw7)) fun ws mu3 q => q
    · have ei : i = items.length := Nat.le_antisymm hi2 (Nat.not_lt.mp hlt)
      rw [List.drop_eq_nil_of_le (Nat.not_lt.mp hlt)] at hw
      refine .inl ⟨by rw [ei]; exact w2, ?_⟩
      have hw' : QE G rho σ Own m H Q (.lst (acc ++ [])) mu2 := hw.2
      rw [List.append_nil] at hw'
      have Sf := S2.unbar ns
      obtain ⟨f1, f2⟩ := S1.fresh hD
      exact hw' (.ref D) H2 m2 (g1.trans l2) Sf (.lst (fun z => S2.wd.dis D z (.inr (.inr rfl))) f2 hDv (RDs.mono (Le.less fun a z => z.elim .inl fun q => .inr (.inl q)) rd))
end
section
variable {X : Cx} {G : Fr} {W : WX} {pos pos' : Pos}
theorem wipe_sub {σ : L2.St} {vs : List Nat} : ∀ (us : List Nat), (∀ i ∈ us, i ∈ vs) → wipe (wipe σ us) vs = wipe σ vs
  | [], _ => rfl
  | u :: us, h => by
    show wipe ((wipe σ us).set u none) vs = _
    rw [wipe_set_mem (h u (by simp))]
    exact wipe_sub us fun i hi => h i (List.mem_cons_of_mem _ hi)
theorem g_up {tg : Expr} {is js : List Nat} {bd : Da → Ev → Option Ev} (h : PG X tg (TGx G is bd)) (hs : ∀ i ∈ is, i ∈ js) : PG X tg (TGx G js bd) := PGw h fun v σ H Q ⟨d, rho, rho', mu, m, Own, S, r, e, q⟩ =>
  ⟨d, rho, rho', mu, m, Own, S, r, e, fun σ' S' w => q σ' S' (by rw [← wipe_sub (σ := σ') is hs, w, wipe_sub is hs])⟩
theorem c_comp2 {elt tg iter tg1 iter1 : Expr} {scope : Scope} {own : List (Str × Nat)} {it it1 : EvI} {bd bd1 : Da → Ev → Option Ev} {vs1 : List Nat} {e : EvD} (hN : X.N.Nodup) (hi : PI X tg iter (TIx G W it)) (ok : BlkOk X.N X.env.scope scope own) (hbv : BdV bd) (hv : ∀ i ∈ vs1, i ∈ own.map (·.2))
    (hg : ∀ (s : Shared) (H : Hp) (C : Addr) (cl : List (Str × Addr)) (fp : List Addr), PG (X.blk s H scope (compEnvC scope cl C X.env) fp) tg (TGx G (own.map (·.2)) bd))
    (hi1 : ∀ (s : Shared) (H : Hp) (C : Addr) (cl : List (Str × Addr)) (fp : List Addr), PI (X.blk s H scope (compEnvC scope cl C X.env) fp) tg1 iter1 (TIx G WF it1))
    (hg1 : ∀ (s : Shared) (H : Hp) (C : Addr) (cl : List (Str × Addr)) (fp : List Addr), PG (X.blk s H scope (compEnvC scope cl C X.env) fp) tg1 (TGx G vs1 bd1))
    (he : ∀ (s : Shared) (H : Hp) (C : Addr) (cl : List (Str × Addr)) (fp : List Addr), PE (X.blk s H scope (compEnvC scope cl C X.env) fp) elt (TEx G WF e)) (hc : X.calm = true := by rfl) (hs : ∀ x, foldedSetIterable iter X.env x = pure x := by intro _; rfl) (hs1 : ∀ env x, foldedSetIterable iter1 env x = pure x := by intro _ _; rfl) :
    PE X (.ListComp elt [⟨tg, iter, [], 0⟩, ⟨tg1, iter1, [], 0⟩] scope pos) (TEx G W (eCmp2 it (own.map (·.2)) bd it1 vs1 bd1 e)) :=
  PEw (pe_lc2 hc hN hi ok hv hg (fun _ _ _ _ _ => ts_nil) hi1 hg1 (fun _ _ _ _ _ => ts_nil) he hs hs1) fun σ H Q h => cmp2_le hbv h
end
section
variable {rho : Ev} {mu : Mem} {P : Da → Mem → Prop} {it it1 : EvI} {e : EvD}
@[simp] theorem yes_eCmp2 {vs vs1 : List Nat} {bd bd1 : Da → Ev → Option Ev} : Yes (eCmp2 it vs bd it1 vs1 bd1 e rho mu) P ↔ Yes (it rho mu) fun xs m => Yes (cLoop2 bd it1 vs1 bd1 e (wipeE rho vs) xs m) fun zs m2 => zs.length ≤ sizeLine ∧ P (.lst zs) m2 := by
  unfold eCmp2; simp only [yes_bnd]
  cases it rho mu with
  | ok d m =>
    simp only [yes_ok]
    cases cLoop2 bd it1 vs1 bd1 e (wipeE rho vs) d m with
    | ok zs m2 =>
      simp only [yes_ok]
      by_cases q : zs.length ≤ sizeLine
      · rw [if_pos q]; exact ⟨fun z => ⟨q, z⟩, fun z => z.2⟩
      · rw [if_neg q]; exact ⟨fun z => z.elim, fun z => q z.1⟩
    | _ => exact Iff.rfl
  | _ => exact Iff.rfl
theorem cLoop2_enc {vs1 : List Nat} {bd bd1 : Da → Ev → Option Ev} {rho0 : Ev} (zs : Da → List Da) : ∀ {L : List Da}, (∀ x ∈ L, ∃ r ys, bd x rho0 = some r ∧ it1 r mu = .ok ys mu ∧ cLoop bd1 tT e (wipeE r vs1) ys mu = .ok (zs x) mu) → cLoop2 bd it1 vs1 bd1 e rho0 L mu = .ok (L.flatMap zs) mu
  | [], _ => rfl
  | x :: L, h => by
    obtain ⟨r, ys, e1, e2, e3⟩ := h x (by simp)
    have ih := cLoop2_enc (vs1 := vs1) (bd := bd) (bd1 := bd1) (rho0 := rho0) zs (L := L) fun y hy => h y (List.mem_cons_of_mem _ hy)
    unfold cLoop2
    rw [e1]
    dsimp only
    rw [e2, show noX (Out.ok ys mu) = .ok ys mu from rfl]
    show bnd (cLoop bd1 tT e (wipeE r vs1) ys mu) _ = _
    rw [e3]
    show bnd (cLoop2 bd it1 vs1 bd1 e rho0 L mu) _ = _
    rw [ih]
    rfl
end
end Sk

/-! Sk U: zip, sorted. -/
namespace Sk
open PySem PySem.Spec L2

def zipD (xs ys : List Da) : List Da := List.zipWith (fun x y => Da.tup [x, y]) xs ys
def iZp (r : Ev → Mem → Out (List Da)) : EvI := fun rho mu => bnd (r rho mu) fun xs mu' => match xs with
  | [.lst xs, .lst ys] => .ok (zipD xs ys) mu'
  | [.tup xs, .tup ys] => .ok (zipD xs ys) mu'
  | _ => .bad
section
variable {X : Cx} {G : Fr} {W : WX} {pos : Pos} {a b e : Expr} {da db d : EvD}
theorem walks_zip {K : PySem.W.Frag} {a b : Addr} {xs ys : List Da} {us vs : List V} {m : List Addr} {B : Addr → Prop} {H : Hp} (h1 : a ∉ m) (h2 : ¬ B a) (h3 : H a = some (.lst us)) (h4 : RDs m B H xs us)
    (g1 : b ∉ m) (g2 : ¬ B b) (g3 : H b = some (.lst vs)) (g4 : RDs m B H ys vs) : Walks (Itz K a b) (zipD xs ys) m B H := by
  intro m2 B2 H2 g fr
  obtain ⟨k1, k2, k3⟩ := g.rd h3 h1 h2
  obtain ⟨l1, l2, l3⟩ := g.rd g3 g1 g2
  have r := RDs.mono g h4
  have r2 := RDs.mono g g4
  refine ⟨fun i d e => ?_, us, vs, SqL.of k1, SqL.of l1, by
    have e1 := r.length
    have e2 := r2.length
    unfold zipD
    rw [List.length_zipWith]
    omega⟩
  unfold zipD at e
  rw [List.getElem?_zipWith] at e
  cases ex : xs[i]? with
  | none => rw [ex] at e; cases e
  | some x =>
    cases ey : ys[i]? with
    | none => rw [ex, ey] at e; cases e
    | some y =>
      rw [ex, ey] at e
      cases e
      obtain ⟨v, ev, rv⟩ := r.get ex
      obtain ⟨w, ew, rw_⟩ := r2.get ey
      refine ⟨⟨us, vs, v, w, SqL.of k1, SqL.of l1, ev, ew⟩, fun z H3 ⟨T, z1, z2, e1, hT, e2, q1, q2⟩ => ?_⟩
      subst e1 e2
      have q1 := q1 us (SqL.of k1)
      have q2 := q2 vs (SqL.of l1)
      rw [ev] at q1
      rw [ew] at q2
      cases q1
      cases q2
      exact ⟨same_upd hT, RD.new_tup (.cons rv (.cons rw_ .nil)) hT (fr T hT).1 (fr T hT).2⟩
theorem walks_zipT {K : PySem.W.Frag} {a b : Addr} {xs ys : List Da} {us vs : List V} {m : List Addr} {B : Addr → Prop} {H : Hp} (h1 : a ∉ m) (h2 : ¬ B a) (h3 : H a = some (.tup us)) (h4 : RDs m B H xs us)
    (g1 : b ∉ m) (g2 : ¬ B b) (g3 : H b = some (.tup vs)) (g4 : RDs m B H ys vs) : Walks (RZ.ItzT K a b) (zipD xs ys) m B H := by
  intro m2 B2 H2 g fr
  obtain ⟨k1, k2, k3⟩ := g.rd h3 h1 h2
  obtain ⟨l1, l2, l3⟩ := g.rd g3 g1 g2
  have r := RDs.mono g h4
  have r2 := RDs.mono g g4
  refine ⟨fun i d e => ?_, us, vs, SqT.of k1, SqT.of l1, by
    have e1 := r.length
    have e2 := r2.length
    unfold zipD
    rw [List.length_zipWith]
    omega⟩
  unfold zipD at e
  rw [List.getElem?_zipWith] at e
  cases ex : xs[i]? with
  | none => rw [ex] at e; cases e
  | some x =>
    cases ey : ys[i]? with
    | none => rw [ex, ey] at e; cases e
    | some y =>
      rw [ex, ey] at e
      cases e
      obtain ⟨v, ev, rv⟩ := r.get ex
      obtain ⟨w, ew, rw_⟩ := r2.get ey
      refine ⟨⟨us, vs, v, w, SqT.of k1, SqT.of l1, ev, ew⟩, fun z H3 ⟨T, z1, z2, e1, hT, e2, q1, q2⟩ => ?_⟩
      subst e1 e2
      have q1 := q1 us (SqT.of k1)
      have q2 := q2 vs (SqT.of l1)
      rw [ev] at q1
      rw [ew] at q2
      cases q1
      cases q2
      exact ⟨same_upd hT, RD.new_tup (.cons rv (.cons rw_ .nil)) hT (fr T hT).1 (fr T hT).2⟩
theorem i_zip {r : Ev → Mem → Out (List Da)} {p tpos : Pos} {elts : List Expr} {kk : Nat} (hm : X.mg "zip" = none) (ha : PA X [a, b] (TAx G W r)) (hg : Gl X "zip" := by rfl)
    (hs : starEach [a, b] X.env = (false, eval a X.env) :: starEach [b] X.env := by rfl) (hpl : (backTo pos (starEach [b] X.env)).any (·.1) = false := by rfl) :
    PI X (.Tuple elts kk tpos) (.Call (.Name "zip" p) [a, b] [] pos) (TIx G W (iZp r)) := by
  refine PIw (RZ.pi_zipA hg hm ha hs hpl) fun σ H R ⟨rho, mu, m, Own, S, h⟩ => TAx.to S (wp_bnd h) fun z mu1 vs H1 m1 h1 g1 S1 r1 => ?_
  match z, r1, h1 with
  | [.lst xs, .lst ys], .cons (.lst a1 a2 a3 a4) (.cons (.lst b1 b2 b3 b4) .nil), h1 =>
    exact ⟨_, _, _, _, rfl, .inl ⟨SqL.of a3, SqL.of b3, h1 _ H1 m1 g1 S1 (walks_zip a1 a2 a3 a4 b1 b2 b3 b4)⟩⟩
  | [.tup xs, .tup ys], .cons (.tup a1 a2 a3 a4) (.cons (.tup b1 b2 b3 b4) .nil), h1 =>
    exact ⟨_, _, _, _, rfl, .inr ⟨SqT.of a3, SqT.of b3, h1 _ H1 m1 g1 S1 (walks_zipT a1 a2 a3 a4 b1 b2 b3 b4)⟩⟩
/-- sorted of a list of ints -/
def sortI (ns : List Int) : List Int := ns.mergeSort fun a b => decide (a ≤ b)
theorem sortI_perm (ns : List Int) : (sortI ns).Perm ns := List.mergeSort_perm _ _
theorem sortI_le (ns : List Int) : (sortI ns).Pairwise (· ≤ ·) := by
  have h := List.pairwise_mergeSort (le := fun a b : Int => decide (a ≤ b)) (fun a b c h1 h2 => decide_eq_true (Int.le_trans (of_decide_eq_true h1) (of_decide_eq_true h2))) (fun a b => by
    rcases Int.le_total a b with q | q
    · rw [decide_eq_true q]; rfl
    · rw [decide_eq_true (p := b ≤ a) q, Bool.or_true]) ns
  exact h.imp fun h => of_decide_eq_true h
theorem sortI_unique {ns ms : List Int} (h1 : ms.Perm ns) (h2 : ms.Pairwise (· ≤ ·)) : ms = sortI ns :=
  List.Perm.eq_of_pairwise (le := fun a b : Int => a ≤ b) (fun a b _ _ => Int.le_antisymm) h2 (sortI_le ns) (h1.trans (sortI_perm ns).symm)
def sortedD : List Da → Option Da
  | [.lst xs] => (intsOf xs).map fun ns => .lst ((sortI ns).map Da.int)
  | _ => none
theorem b_sorted : CallD X (.builtin "sorted") sortedD := by
  refine ⟨_, cr_sortedI, fun m B H xs z vs Q e r fr q => ?_⟩
  match xs, e with
  | [.lst xs], e =>
    obtain ⟨ns, e1, e2⟩ := Option.map_eq_some_iff.mp (show (intsOf xs).map (fun ns => Da.lst ((sortI ns).map Da.int)) = some z from e)
    subst e2
    cases r with
    | cons r1 r2 =>
      cases r2
      cases r1 with
      | lst a1 a2 a3 a4 =>
        have ev := RDs.ints (intsOf_eq e1 ▸ a4)
        subst ev
        refine ⟨_, ns, rfl, SqL.of a3, fun ms p h1 h2 hp => ?_⟩
        have eq := sortI_unique h1 h2
        subst eq
        exact q _ _ (same_upd hp) (RD.new_lst (ints_rd _) hp (fr p hp).1 (fr p hp).2)
/-- sorted of a list of pairs of ints -/
def leP (a b : Int × Int) : Bool := decide (a.1 < b.1) || (decide (a.1 = b.1) && decide (a.2 ≤ b.2))
theorem leP_iff {a b : Int × Int} : leP a b = true ↔ a.1 < b.1 ∨ (a.1 = b.1 ∧ a.2 ≤ b.2) := by
  unfold leP
  rw [Bool.or_eq_true, Bool.and_eq_true, decide_eq_true_iff, decide_eq_true_iff, decide_eq_true_iff]
theorem leP_anti {a b : Int × Int} (h : leP a b = true) (g : leP b a = true) : a = b := by
  have h := leP_iff.mp h
  have g := leP_iff.mp g
  exact Prod.ext (by omega) (by omega)
def sortP (ps : List (Int × Int)) : List (Int × Int) := ps.mergeSort leP
theorem sortP_perm (ps : List (Int × Int)) : (sortP ps).Perm ps := List.mergeSort_perm _ _
theorem sortP_le (ps : List (Int × Int)) : (sortP ps).Pairwise fun a b => leP a b = true := List.pairwise_mergeSort (fun a b c h1 h2 => by
    have h1 := leP_iff.mp h1
    have h2 := leP_iff.mp h2
    refine leP_iff.mpr ?_
    omega) (fun a b => by
    rw [Bool.or_eq_true, leP_iff, leP_iff]
    omega) ps
theorem sortP_unique {ps qs : List (Int × Int)} (h1 : qs.Perm ps) (h2 : qs.Pairwise fun a b => leP a b = true) : qs = sortP ps :=
  List.Perm.eq_of_pairwise (le := fun a b => leP a b = true) (fun a b _ _ => leP_anti) h2 (sortP_le ps) (h1.trans (sortP_perm ps).symm)
abbrev encP (p : Int × Int) : Da := .tup [.int p.1, .int p.2]
def pairsOf : List Da → Option (List (Int × Int))
  | [] => some []
  | .tup [.int i, .int j] :: r => (pairsOf r).map ((i, j) :: ·)
  | _ :: _ => none
theorem pairsOf_map : ∀ ps : List (Int × Int), pairsOf (ps.map encP) = some ps
  | [] => rfl
  | p :: ps => by
    show (pairsOf (ps.map encP)).map ((p.1, p.2) :: ·) = _
    rw [pairsOf_map ps]
    rfl
theorem pairsOf_eq : ∀ {xs : List Da} {ps : List (Int × Int)}, pairsOf xs = some ps → xs = ps.map encP
  | [], ps, h => by cases h; rfl
  | x :: xs, ps, h => by
    unfold pairsOf at h
    split at h
    · rename_i e; cases e
    · rename_i i j r e
      cases e
      obtain ⟨cs, e1, e2⟩ := Option.map_eq_some_iff.mp h
      rw [pairsOf_eq e1, ← e2]
      rfl
    · cases h
def sortedPD : List Da → Option Da
  | [.lst xs] => (pairsOf xs).map fun ps => .lst ((sortP ps).map encP)
  | _ => none
/-- the pair that stands at a reference -/
def keyH (H : Hp) (x : V) : Int × Int := match x with
  | .ref t => (match H t with
    | some (.tup [.int i, .int j]) => (i, j)
    | _ => (0, 0))
  | _ => (0, 0)
theorem pairs_rd {m : List Addr} {B : Addr → Prop} {H : Hp} : ∀ {ps : List (Int × Int)} {vs : List V}, RDs m B H (ps.map encP) vs → vs.map (keyH H) = ps ∧ ∀ v ∈ vs, ∃ t, v = .ref t ∧ H t = some (.tup [.int (keyH H v).1, .int (keyH H v).2]) ∧ t ∉ m ∧ ¬ B t
  | [], _, .nil => ⟨rfl, fun _ h => nomatch h⟩
  | p :: ps, _, .cons h t => by
    obtain ⟨e, g⟩ := pairs_rd t
    cases h with
    | tup a1 a2 a3 a4 =>
      cases a4 with
      | cons b1 b2 =>
        cases b2 with
        | cons c1 c2 =>
          cases c2
          cases b1
          cases c1
          rename_i a
          have k : keyH H (.ref a) = p := by
            unfold keyH
            dsimp only
            rw [a3]
          refine ⟨by rw [List.map_cons, e, k], fun v hv => ?_⟩
          rcases List.mem_cons.mp hv with rfl | hv
          · exact ⟨a, rfl, by rw [k]; exact a3, a1, a2⟩
          · exact g v hv
theorem b_sortedP : CallD X (.builtin "sorted") sortedPD := by
  refine ⟨_, cr_sortedPO, fun m B H xs z vs Q e r fr q => ?_⟩
  match xs, e with
  | [.lst xs], e =>
    obtain ⟨ps, e1, e2⟩ := Option.map_eq_some_iff.mp (show (pairsOf xs).map (fun ps => Da.lst ((sortP ps).map encP)) = some z from e)
    subst e2
    cases r with
    | cons r1 r2 =>
      cases r2
      cases r1 with
      | lst a1 a2 a3 a4 =>
        rename_i a us
        obtain ⟨k1, k2⟩ := pairs_rd (pairsOf_eq e1 ▸ a4)
        refine ⟨a, us, keyH H, rfl, SqL.of a3, fun x hx => by obtain ⟨t, h1, h2, _⟩ := k2 x hx; exact ⟨t, h1, h2⟩, fun ys p h1 h2 hp => ?_⟩
        have e3 : ys.map (keyH H) = sortP ps := by
          refine sortP_unique ?_ ?_
          · rw [← k1]; exact h2.perm.map _
          · refine List.pairwise_map.mpr (h1.imp fun {x y} h => ?_)
            have h : SrtO.lexB (keyH H y) (keyH H x) = false := h
            refine leP_iff.mpr ?_
            have nh : ¬ (SrtO.lexB (keyH H y) (keyH H x) = true) := by rw [h]; decide
            rw [SrtO.lexB_iff] at nh
            omega
        have rd : RDs m B H ((ys.map (keyH H)).map encP) ys := by
          have mem : ∀ y ∈ ys, ∃ t, y = .ref t ∧ H t = some (.tup [.int (keyH H y).1, .int (keyH H y).2]) ∧ t ∉ m ∧ ¬ B t := fun y hy => k2 y (h2.perm.mem_iff.mp hy)
          clear h1 h2 e3
          induction ys with
          | nil => exact .nil
          | cons y ys ih =>
            obtain ⟨t, ey, ht, n1, n2⟩ := mem y (by simp)
            refine .cons ?_ (ih fun z hz => mem z (List.mem_cons_of_mem _ hz))
            rw [ey]
            rw [ey] at ht
            exact .tup n1 n2 ht (.cons (.int _) (.cons (.int _) .nil))
        rw [e3] at rd
        exact q _ _ (same_upd hp) (RD.new_lst rd hp (fr p hp).1 (fr p hp).2)
end
section
variable {rho : Ev} {mu : Mem} {Q : List Da → Mem → Prop} {r : Ev → Mem → Out (List Da)}
@[simp] theorem yes_iZp : Yes (iZp r rho mu) Q ↔ Yes (r rho mu) fun xs m => match xs with | [.lst xs, .lst ys] => Q (zipD xs ys) m | [.tup xs, .tup ys] => Q (zipD xs ys) m | _ => False := by
  unfold iZp; rw [yes_bnd]
  cases r rho mu with
  | ok d m =>
    simp only [yes_ok]
    split <;> first | exact Iff.rfl | (split <;> first | exact Iff.rfl | (rename_i h _ _ _ ; simp_all [Yes]) | simp_all [Yes])
  | _ => exact Iff.rfl
end
end Sk

/-! Sk V: lists that are being filled: x[i] = e, x != []. -/
namespace Sk
open PySem PySem.Spec L2

section
variable {X : Cx} {G : Fr} {W : WX} {pos pos' : Pos} {a b e : Expr} {da db d : EvD}
theorem RDs.put {m : List Addr} {B : Addr → Prop} {H : Hp} {d : Da} {v : V} (h : RD m B H d v) : ∀ {ds : List Da} {vs : List V} (j : Nat), RDs m B H ds vs → RDs m B H (ds.set j d) (vs.set j v)
  | _, _, _, .nil => .nil
  | _, _, 0, .cons _ t => .cons h t
  | _, _, j + 1, .cons x t => .cons x (RDs.put h j t)
/-- x[i] = e of a list that is being filled -/
def sSetI (i : Nat) (ix : EvD) (e : EvD) : StD := fun rho mu => sUse (e rho mu) rho fun d mu1 => match rho[i]? with
  | some (.own xs) => sUse (ix rho mu1) rho fun y mu2 => match y with
    | .int k => (match ixN xs.length k with
      | some j => .nx (rho.set i (.own (xs.set j d))) mu2
      | none => .bad)
    | _ => .bad
  | _ => .bad
theorem s_seti {i : Nat} (hc : X.calm = true) (ho : PE X a (tVar i)) (hb : PE X b (TEx G W db)) (he : PE X e (TEx G W d))
    (hs : swapsWithSole [.Subscript a b pos'] e pos.line X.env = pure false := by rfl) (hw : swappedStores [.Subscript a b pos'] e X.env = pure none := by rfl)
    (h1 : (assignEach [.Subscript a b pos'] X.env).map (·.2) = [assign (.Subscript a b pos') X.env] := by rfl)
    (es : ∀ v, assign (.Subscript a b pos') X.env v = (do
      let ov ← holding [v] (eval a X.env)
      let iv ← holding [v, ov] (eval b X.env)
      standAt pos'
      holding [v, ov, iv] (setItem ov iv v)
      release [v, ov, iv] []) := by intro _; rfl) : PS X (.Assign [.Subscript a b pos'] e pos) (TSx G W (sSetI i db d)) := by
  refine PSw (ps_asg he (pg_sub ho hb set_list es) hs hw h1) fun D σ H ⟨rho, mu, m, Own, S, h⟩ => ?_
  refine TEx.to S (use_wp (σ := σ) h) fun z mu1 v H1 m1 h1 g1 S1 r1 => ?_
  cases e1 : rho[i]? with
  | none => rw [e1] at h1; exact h1.elim
  | some s =>
    rw [e1] at h1
    cases s with
    | un => exact h1.elim
    | val _ => exact h1.elim
    | own xs =>
      obtain ⟨p, us, ev, nm, op, hp, rl⟩ := own_at S1 e1
      refine ⟨_, ev, TEx.to S1 (use_wp (σ := σ) (SOk.step (g1.le (G.bar Own)) h1)) fun y mu2 w H2 m2 h2 g2 S2 r2 => ?_⟩
      cases y with
      | int k =>
        cases r2
        dsimp only at h2
        cases ej : ixN xs.length k with
        | none => rw [ej] at h2; exact h2.elim
        | some j =>
          rw [ej] at h2
          have hp2 : H2 p = some (.lst us) := g2.keep p _ hp nm id
          have rl2 := RDs.mono (g2.le (G.bar Own)) rl
          refine ⟨p, us, k, j, rfl, rfl, hp2, by rw [← rl.length]; exact ej, ?_⟩
          obtain ⟨S3, g3⟩ := S2.fill (us := us) e1 ev (RDs.put (r1.mono (g2.le (G.bar Own))) j rl2)
          exact h2 σ _ m2 Own ((g2.le _).trans g3) S3
      | _ => exact h2.elim
/-- x != .. of a list that is being filled -/
def eNeO (i : Nat) (b : EvD) : EvD := fun rho mu => match rho[i]? with
  | some (.own xs) => bnd (b rho mu) fun y mu1 => opt (neD (.lst xs) y) mu1
  | some (.val x) => bnd (b rho mu) fun y mu1 => opt (neD x y) mu1
  | _ => .bad
theorem ne_own {i : Nat} {σ : L2.St} {H : Hp} {Q : VK} (h : TEx G W (eNeO i db) σ H Q) : tOp (rNeD X.K) (tVar i) (TEx G W db) σ H Q := by
  obtain ⟨rho, mu, m, Own, S, h⟩ := h.un
  unfold eNeO at h
  cases e1 : rho[i]? with
  | none => rw [e1] at h; exact h.elim
  | some s =>
    rw [e1] at h
    cases s with
    | un => exact h.elim
    | own xs =>
      obtain ⟨p, us, ev, nm, op, hp, rl⟩ := own_at S e1
      refine ⟨_, ev, TEx.to S (wp_bnd h) fun y mu1 w H1 m1 h1 g1 S1 r1 => ?_⟩
      obtain ⟨z, e, q⟩ := wp_opt h1
      obtain ⟨hz, rfl⟩ := ite_inv e
      unfold okEq at hz
      simp only [Bool.and_eq_true] at hz
      have hp1 : H1 p = some (.lst us) := g1.keep p _ hp nm id
      have rl1 := RDs.mono (g1.le (G.bar Own)) rl
      exact ⟨_, _, .lst (SqL.of hp1) (RDs.dp rl1 hz.1.1.1), RD.dp r1 hz.1.1.2, hz.1.2, hz.2, q _ H1 m1 g1 S1 (.bl _)⟩
    | val x =>
      obtain ⟨v, ev, rv⟩ := S.var e1
      refine ⟨_, ev, TEx.to S (wp_bnd h) fun y mu1 w H1 m1 h1 g1 S1 r1 => ?_⟩
      obtain ⟨z, e, q⟩ := wp_opt h1
      obtain ⟨hz, rfl⟩ := ite_inv e
      unfold okEq at hz
      simp only [Bool.and_eq_true] at hz
      exact ⟨_, _, RD.dp (rv.mono (g1.le (G.bar Own))) hz.1.1.1, RD.dp r1 hz.1.1.2, hz.1.2, hz.2, q _ H1 m1 g1 S1 (.bl _)⟩
theorem c_neO {i : Nat} (hu : X.A.units + 64 < cLine) (ha : PE X a (tVar i)) (hb : PE X b (TEx G W db)) (hm : behindInMarks .NotEq b = false) : PE X (.Compare a [.NotEq] [b] pos) (TEx G W (eNeO i db)) :=
  PEw (pe_cmpR (op_neD hu) ha hb hm) fun σ H Q h => ne_own h
theorem c_tneO {i : Nat} (hu : X.A.units + 64 < cLine) (ha : PE X a (tVar i)) (hb : PE X b (TEx G W db)) (hm : behindInMarks .NotEq b = false) : PT X (.Compare a [.NotEq] [b] pos) (TTx G W (tV (eNeO i db))) := by
  refine PTw (pt_cmpR (op_neD hu) ha hb hm) fun σ H Q h => ?_
  refine ne_own (Q := fun x H' => ∃ k, x = .bl k ∧ Q k H') ?_
  obtain ⟨rho, mu, m, Own, S, h⟩ := h.un
  refine TEx.to S (wp_bnd h) fun x mu1 v1 H1 m1 h1 g1 S1 r1 => ?_
  cases x with
  | bl k =>
    cases r1
    exact ⟨k, rfl, h1 H1 m1 g1 S1⟩
  | _ => exact h1.elim
end
section
variable {rho : Ev} {mu : Mem} {P : Da → Mem → Prop} {D : Po} {a b e : EvD}
@[simp] theorem yes_eNeO {i : Nat} : Yes (eNeO i b rho mu) P ↔ (match rho[i]? with
    | some (.own xs) => Yes (b rho mu) fun y m => Yes (opt (neD (.lst xs) y) m) P
    | some (.val x) => Yes (b rho mu) fun y m => Yes (opt (neD x y) m) P
    | _ => False) := by
  unfold eNeO
  cases h : rho[i]? with
  | none => exact Iff.rfl
  | some s => cases s <;> first | exact Iff.rfl | exact yes_bnd
@[simp] theorem sp_seti {i : Nat} : SP (sSetI i a e rho mu) D ↔ Yes (e rho mu) fun d m => match rho[i]? with
    | some (.own xs) => Yes (a rho m) fun y m2 => match y with
      | .int k => (match L2.ixN xs.length k with
        | some j => D.nx (rho.set i (.own (xs.set j d))) m2
        | none => False)
      | _ => False
    | _ => False := by
  unfold sSetI
  rw [sp_use]
  cases e rho mu with
  | ok d m =>
    simp only [yes_ok]
    cases h : rho[i]? with
    | none => exact Iff.rfl
    | some s => cases s with
      | own xs =>
        dsimp only
        rw [sp_use]
        cases a rho m with
        | ok y m2 =>
          simp only [yes_ok]
          cases y with
          | int k => dsimp only; cases L2.ixN xs.length k <;> exact Iff.rfl
          | _ => exact Iff.rfl
        | _ => exact Iff.rfl
      | _ => exact Iff.rfl
  | _ => exact Iff.rfl
end
end Sk

/-! Sk W: min and sorted of data that can be compared; x in a list. -/
namespace Sk
open PySem PySem.Spec L2

mutual
theorem toPy_inj : ∀ {x y : Da}, isD x = true → isD y = true → toPy x = toPy y → x = y
  | .non, .non, _, _, _ => rfl
  | .bl a, .bl b, _, _, e => by cases e; rfl
  | .int a, .int b, _, _, e => by cases e; rfl
  | .str a, .str b, _, _, e => by cases e; rfl
  | .tup a, .tup b, h, g, e => by rw [toPys_inj (xs := a) (ys := b) h g (PyData.tuple.inj e)]
  | .lst a, .lst b, h, g, e => by rw [toPys_inj (xs := a) (ys := b) h g (PyData.list.inj e)]
  | .ref _, _, h, _, _ => nomatch h
  | .non, .bl _, _, _, e => nomatch e
  | .non, .int _, _, _, e => nomatch e
  | .non, .str _, _, _, e => nomatch e
  | .non, .tup _, _, _, e => nomatch e
  | .non, .lst _, _, _, e => nomatch e
  | .non, .ref _, _, h, _ => nomatch h
  | .bl _, .non, _, _, e => nomatch e
  | .bl _, .int _, _, _, e => nomatch e
  | .bl _, .str _, _, _, e => nomatch e
  | .bl _, .tup _, _, _, e => nomatch e
  | .bl _, .lst _, _, _, e => nomatch e
  | .bl _, .ref _, _, h, _ => nomatch h
  | .int _, .non, _, _, e => nomatch e
  | .int _, .bl _, _, _, e => nomatch e
  | .int _, .str _, _, _, e => nomatch e
  | .int _, .tup _, _, _, e => nomatch e
  | .int _, .lst _, _, _, e => nomatch e
  | .int _, .ref _, _, h, _ => nomatch h
  | .str _, .non, _, _, e => nomatch e
  | .str _, .bl _, _, _, e => nomatch e
  | .str _, .int _, _, _, e => nomatch e
  | .str _, .tup _, _, _, e => nomatch e
  | .str _, .lst _, _, _, e => nomatch e
  | .str _, .ref _, _, h, _ => nomatch h
  | .tup _, .non, _, _, e => nomatch e
  | .tup _, .bl _, _, _, e => nomatch e
  | .tup _, .int _, _, _, e => nomatch e
  | .tup _, .str _, _, _, e => nomatch e
  | .tup _, .lst _, _, _, e => nomatch e
  | .tup _, .ref _, _, h, _ => nomatch h
  | .lst _, .non, _, _, e => nomatch e
  | .lst _, .bl _, _, _, e => nomatch e
  | .lst _, .int _, _, _, e => nomatch e
  | .lst _, .str _, _, _, e => nomatch e
  | .lst _, .tup _, _, _, e => nomatch e
  | .lst _, .ref _, _, h, _ => nomatch h
theorem toPys_inj : ∀ {xs ys : List Da}, isDs xs = true → isDs ys = true → toPys xs = toPys ys → xs = ys
  | [], [], _, _, _ => rfl
  | [], _ :: _, _, _, e => nomatch e
  | _ :: _, [], _, _, e => nomatch e
  | x :: xs, y :: ys, h, g, e => by
    have h := Bool.and_eq_true_iff.mp (show (isD x && isDs xs) = true from h)
    have g := Bool.and_eq_true_iff.mp (show (isD y && isDs ys) = true from g)
    have e := List.cons.inj (show toPy x :: toPys xs = toPy y :: toPys ys from e)
    rw [toPy_inj h.1 g.1 e.1, toPys_inj h.2 g.2 e.2]
end
theorem toPys_map : ∀ xs : List Da, toPys xs = xs.map toPy
  | [] => rfl
  | x :: xs => congrArg (toPy x :: ·) (toPys_map xs)
theorem isDs_mem : ∀ {xs : List Da} {x : Da}, isDs xs = true → x ∈ xs → isD x = true
  | y :: ys, x, h, m => by
    have h := Bool.and_eq_true_iff.mp (show (isD y && isDs ys) = true from h)
    rcases List.mem_cons.mp m with rfl | m
    · exact h.1
    · exact isDs_mem h.2 m
theorem lay_mem : ∀ {xs : List PyData} {x : PyData}, PyData.canLayAll0 xs = true → x ∈ xs → x.canLay0 = true
  | y :: ys, x, h, m => by
    have h := Bool.and_eq_true_iff.mp (show (y.canLay0 && PyData.canLayAll0 ys) = true from h)
    rcases List.mem_cons.mp m with rfl | m
    · exact h.1
    · exact lay_mem h.2 m
theorem dep_mem : ∀ {xs : List PyData} {x : PyData}, x ∈ xs → x.depth ≤ PyData.depthAll xs
  | y :: ys, x, m => by
    rcases List.mem_cons.mp m with rfl | m
    · exact Nat.le_max_left _ _
    · exact Nat.le_trans (dep_mem m) (Nat.le_max_right _ _)
def ltDa (a b : Da) : Bool := PySem.W.dataLt (toPy a) (toPy b)
/-- the first of the least -/
def minDa (x : Da) (xs : List Da) : Da := xs.foldl (fun a y => if ltDa y a then y else a) x
theorem minDa_mem : ∀ (xs : List Da) (x : Da), minDa x xs ∈ x :: xs
  | [], x => List.mem_singleton.mpr rfl
  | y :: ys, x => by
    have h := minDa_mem ys (if ltDa y x then y else x)
    show minDa (if ltDa y x then y else x) ys ∈ _
    rcases List.mem_cons.mp h with e | h
    · rw [e]
      split
      · exact List.mem_cons_of_mem _ List.mem_cons_self
      · exact List.mem_cons_self
    · exact List.mem_cons_of_mem _ (List.mem_cons_of_mem _ h)
theorem minDa_py : ∀ (xs : List Da) (x : Da), toPy (minDa x xs) = PySem.W.minD (toPy x) (toPys xs)
  | [], x => rfl
  | y :: ys, x => by
    show toPy (minDa (if ltDa y x then y else x) ys) = PySem.W.minD (if PySem.W.dataLt (toPy y) (toPy x) then toPy y else toPy x) (toPys ys)
    rw [minDa_py ys]
    unfold ltDa
    split <;> rfl
def isNonP : PyData → Bool
  | .none => true
  | _ => false
def okCmp (xs : List PyData) : Bool := PyData.canLayAll0 xs && decide (PyData.depthAll xs ≤ 60) && (xs.all fun x => xs.all fun y => PySem.W.alike x y) && xs.all fun x => !isNonP x
theorem okCmp_alike {xs : List PyData} (h : okCmp xs = true) : PySem.W.AlikeAll xs := by
  unfold okCmp at h
  simp only [Bool.and_eq_true, List.all_eq_true] at h
  refine ⟨fun x hx y hy => h.1.2 x hx y hy, fun x hx e => ?_⟩
  have z := h.2 x hx
  rw [e] at z
  cases z
def minDD : List Da → Option Da
  | [.lst (x :: xs)] => if (isDs (x :: xs) && okCmp (toPys (x :: xs))) = true then some (minDa x xs) else none
  | _ => none
section
variable {X : Cx}
def rMinDa (K : PySem.W.Frag) : List V → Hp → VK → Prop := fun vs H Q => ∃ (a : Addr) (us : List V) (x : Da) (xs : List Da), vs = [V.ref a] ∧ SqL K H a us ∧ DpAll K H us (toPys (x :: xs)) ∧ okCmp (toPys (x :: xs)) = true ∧
  ∀ (i : Nat) (v : V), us[i]? = some v → (toPys (x :: xs))[i]? = some (PySem.W.minD (toPy x) (toPys xs)) → Q v H
theorem cr_minDa (hc : X.calm = true) (hu : X.A.units + 64 < cLine) : CallR X (.builtin "min") (rMinDa X.K) := by
  intro pins s σ H vs ws Q I r h
  obtain ⟨a, us, x, xs, rfl, hs, hd, hk, q⟩ := h
  obtain rfl := Vals.ref1 r
  obtain ⟨its, rv, hl, _⟩ := I.list hs
  obtain ⟨as, ra⟩ := Dp.readsAll I _ _ its hd rv
  have lay : PyData.canLayAll0 (toPys (x :: xs)) = true ∧ PyData.depthAll (toPys (x :: xs)) ≤ 60 := by
    have z := hk
    unfold okCmp at z
    simp only [Bool.and_eq_true, decide_eq_true_eq] at z
    exact z.1.1
  refine PySem.W.min_list_data (x := toPy x) (xs := toPys xs) (I.ok.hd hc) hl.isList (show ReadsAll s.heap its.toArray.toList (toPy x :: toPys xs) as from ra) (okCmp_alike hk) (by have : PyData.depthAll (toPy x :: toPys xs) ≤ 60 := lay.2; omega) fun i v h' tk bs hi hr hk' => ?_
  have hi' : its[i]? = some v := by simpa using hi
  obtain ⟨cs, r1, r2, r3, _⟩ := PySem.W.readsAll_at ra i v hi'
  have e1 : SeqAt.readOf h' v = (toPys (x :: xs)).getD i .none := SeqAt.readOf_eq (lay_mem lay.1 r3) (PySem.W.reads_keeps hk' r1)
  have mm : PySem.W.minD (toPy x) (toPys xs) ∈ toPys (x :: xs) := by
    rw [← minDa_py, toPys_map]
    exact List.mem_map.mpr ⟨_, minDa_mem xs x, rfl⟩
  have e2 : SeqAt.readOf h' v = PySem.W.minD (toPy x) (toPys xs) := SeqAt.readOf_eq (lay_mem lay.1 mm) hr
  have hlen := rv.length
  have hlt : i < us.length := by
    have := (List.getElem?_eq_some_iff.mp hi').1
    omega
  have eu : us[i]? = some us[i] := List.getElem?_eq_getElem hlt
  obtain ⟨v2, hv2, rr⟩ := rv.get eu
  rw [hi'] at hv2
  cases hv2
  refine ⟨us[i], H, I.kept hk', rr, q i _ eu ?_⟩
  rw [List.getElem?_eq_getElem r2]
  rw [List.getD_eq_getElem?_getD, List.getElem?_eq_getElem r2] at e1
  exact congrArg some (e1.symm.trans e2)
theorem b_minD (hc : X.calm = true) (hu : X.A.units + 64 < cLine) : CallD X (.builtin "min") minDD := by
  refine ⟨_, cr_minDa hc hu, fun m B H xs z vs Q e r fr q => ?_⟩
  match xs, e with
  | [.lst (x :: xs)], e =>
    obtain ⟨hz, rfl⟩ := ite_inv e
    have hz := Bool.and_eq_true_iff.mp hz
    cases r with
    | cons r1 r2 =>
      cases r2
      cases r1 with
      | lst a1 a2 a3 a4 =>
        refine ⟨_, _, x, xs, rfl, SqL.of a3, RDs.dp a4 hz.1, hz.2, fun i v ev ep => q _ _ (Same.refl _) ?_⟩
        rw [toPys_map, List.getElem?_map] at ep
        obtain ⟨d, ed, e2⟩ := Option.map_eq_some_iff.mp ep
        obtain ⟨v2, ev2, rd⟩ := a4.get ed
        rw [ev] at ev2
        cases ev2
        have e3 : d = minDa x xs := toPy_inj (isDs_mem hz.1 (List.mem_of_getElem? ed)) (isDs_mem hz.1 (minDa_mem xs x)) (e2.trans (minDa_py xs x).symm)
        rw [← e3]
        exact rd
/-- sorted -/
def leDa (a b : Da) : Bool := !ltDa b a
def sortDa (xs : List Da) : List Da := xs.mergeSort leDa
def isTupP : PyData → Bool
  | .tuple (_ :: _) => true
  | _ => false
def sortedDD : List Da → Option Da
  | [.lst xs] => if (isDs xs && (okCmp (toPys xs) && (toPys xs).all isTupP)) = true then some (.lst (sortDa xs)) else none
  | _ => none
theorem RDs.pairs {m : List Addr} {B : Addr → Prop} {H : Hp} : ∀ {ds : List Da} {vs : List V}, RDs m B H ds vs → ∃ bs : List (V × Da), bs.map (·.1) = vs ∧ bs.map (·.2) = ds ∧ ∀ p ∈ bs, RD m B H p.2 p.1
  | _, _, .nil => ⟨[], rfl, rfl, fun _ h => nomatch h⟩
  | _, _, .cons (d := d) (v := v) h t => by
    obtain ⟨bs, e1, e2, e3⟩ := RDs.pairs t
    refine ⟨(v, d) :: bs, by rw [List.map_cons, e1], by rw [List.map_cons, e2], fun p hp => ?_⟩
    rcases List.mem_cons.mp hp with rfl | hp
    · exact h
    · exact e3 p hp
theorem RDs.of_pairs {m : List Addr} {B : Addr → Prop} {H : Hp} : ∀ {bs : List (V × Da)}, (∀ p ∈ bs, RD m B H p.2 p.1) → RDs m B H (bs.map (·.2)) (bs.map (·.1))
  | [], _ => .nil
  | p :: bs, h => .cons (h p List.mem_cons_self) (RDs.of_pairs fun q hq => h q (List.mem_cons_of_mem _ hq))
abbrev enP (p : V × Da) : PyData := toPy p.2
def rSortDa (K : PySem.W.Frag) : List V → Hp → VK → Prop := fun vs H Q => ∃ (a : Addr) (bs : List (V × Da)), vs = [V.ref a] ∧ SqL K H a (bs.map (·.1)) ∧ DpAll K H (bs.map (·.1)) (bs.map enP) ∧ okCmp (bs.map enP) = true ∧ (bs.map enP).all isTupP = true ∧
  ∀ p, H p = none → Q (.ref p) (upd H p (.lst ((bs.mergeSort (PySem.W.dataLe false enP)).map (·.1))))
theorem each_rel : ∀ {bs : List (V × Da)} {us : List Value}, Vals (bs.map (·.1)) us → PySem.W.EachIs (fun v (b : V × Da) => RelV b.1 v) us bs
  | [], _, .nil => .nil
  | _ :: _, _, .cons r t => .cons r (each_rel t)
theorem rel_each : ∀ {bs : List (V × Da)} {us : List Value}, PySem.W.EachIs (fun v (b : V × Da) => RelV b.1 v) us bs → Vals (bs.map (·.1)) us
  | _, _, .nil => .nil
  | _, _, .cons r t => .cons r (rel_each t)
theorem cr_sortDa (hu : X.A.units + 64 < cLine) : CallR X (.builtin "sorted") (rSortDa X.K) := by
  intro pins s σ H vs ws Q I r h
  obtain ⟨a, bs, rfl, hs, hd, hk, ht, q⟩ := h
  obtain rfl := Vals.ref1 r
  obtain ⟨its, rv, hl, hz⟩ := I.list hs
  obtain ⟨as, ra⟩ := Dp.readsAll I _ _ its hd rv
  have lay : PyData.depthAll (bs.map enP) ≤ 60 := by
    have z := hk
    unfold okCmp at z
    simp only [Bool.and_eq_true, decide_eq_true_eq] at z
    exact z.1.1.2
  have lenb : bs.length ≤ sizeLine := by rw [List.length_map] at hz; exact hz
  refine PySem.W.sorted_data (enc := enP) (R := fun v (b : V × Da) => RelV b.1 v) hl.isList (each_rel rv) (PySem.W.readsAll_each enP ra) (okCmp_alike hk).1 (.inl fun d hd => ?_) lenb (fun b hb => ?_) fun out hl2 he => ?_
  · have z := List.all_eq_true.mp ht d hd
    unfold isTupP at z
    split at z
    · exact ⟨_, _, rfl⟩
    · cases z
  · have z := dep_mem (List.mem_map.mpr ⟨b, hb, rfl⟩ : enP b ∈ bs.map enP)
    omega
  · obtain ⟨ep, he'⟩ := PyProof.Rows.sortedAll_at s.heap its out.toArray
    have hlen : ((bs.mergeSort (PySem.W.dataLe false enP)).map (·.1)).length ≤ sizeLine := by
      rw [List.length_map, List.length_mergeSort]
      exact lenb
    exact ⟨.ref _, upd H (s.heap.objs.size + 1) (.lst ((bs.mergeSort (PySem.W.dataLe false enP)).map (·.1))), I.laid (t' := s.toks) (fun _ _ => PyProof.Rows.sortedAll_old) (Nat.le_succ _) ⟨hlen, _, ep, rel_each he, he'⟩, rfl, q _ (I.hok.fresh (Nat.le_succ _))⟩
theorem b_sortedD (hu : X.A.units + 64 < cLine) : CallD X (.builtin "sorted") sortedDD := by
  refine ⟨_, cr_sortDa hu, fun m B H xs z vs Q e r fr q => ?_⟩
  match xs, e with
  | [.lst xs], e =>
    obtain ⟨hz, rfl⟩ := ite_inv e
    have hz := Bool.and_eq_true_iff.mp hz
    have hz2 := Bool.and_eq_true_iff.mp hz.2
    cases r with
    | cons r1 r2 =>
      cases r2
      cases r1 with
      | lst a1 a2 a3 a4 =>
        obtain ⟨bs, rfl, e2, e3⟩ := RDs.pairs a4
        have ee : bs.map enP = toPys xs := by rw [← e2, toPys_map, List.map_map]; rfl
        refine ⟨_, bs, rfl, SqL.of a3, by rw [ee]; exact RDs.dp a4 hz.1, by rw [ee]; exact hz2.1, by rw [ee]; exact hz2.2, fun p hp => ?_⟩
        have es : (bs.mergeSort (PySem.W.dataLe false enP)).map (·.2) = sortDa xs := by
          unfold sortDa
          rw [← e2]
          exact List.map_mergeSort fun a _ b _ => rfl
        exact q _ _ (same_upd hp) (es ▸ RD.new_lst (RDs.of_pairs fun p hp => e3 p (List.mem_mergeSort.mp hp)) hp (fr p hp).1 (fr p hp).2)
/-- x in a list -/
def inD : Da → Da → Option Da
  | x, .lst ys => if okEq x (.lst ys) = true then some (.bl (ys.any fun z => PyData.eqv (toPy z) (toPy x))) else none
  | _, _ => none
def ninD : Da → Da → Option Da
  | x, .lst ys => if okEq x (.lst ys) = true then some (.bl (!ys.any fun z => PyData.eqv (toPy z) (toPy x))) else none
  | _, _ => none
theorem any_py {p : PyData → Bool} : ∀ ys : List Da, (toPys ys).any p = ys.any fun z => p (toPy z)
  | [] => rfl
  | y :: ys => by
    show (p (toPy y) || (toPys ys).any p) = (p (toPy y) || ys.any fun z => p (toPy z))
    rw [any_py ys]
theorem o_in (hu : X.A.units + 65 < cLine) : OpD X (compareOp .In) inD := by
  refine ⟨_, op_inD hu, fun m B H x y z a b Q e rx ry fr q => ?_⟩
  cases y with
  | lst ys =>
    obtain ⟨hz, rfl⟩ := ite_inv e
    unfold okEq at hz
    simp only [Bool.and_eq_true] at hz
    refine ⟨_, _, RD.dp rx hz.1.1.1, RD.dp ry hz.1.1.2, hz.1.2, hz.2, ?_⟩
    rw [any_py]
    exact q _ _ (Same.refl _) (.bl _)
  | _ => cases e
theorem o_nin (hu : X.A.units + 65 < cLine) : OpD X (compareOp .NotIn) ninD := by
  refine ⟨_, op_notInD hu, fun m B H x y z a b Q e rx ry fr q => ?_⟩
  cases y with
  | lst ys =>
    obtain ⟨hz, rfl⟩ := ite_inv e
    unfold okEq at hz
    simp only [Bool.and_eq_true] at hz
    refine ⟨_, _, RD.dp rx hz.1.1.1, RD.dp ry hz.1.1.2, hz.1.2, hz.2, ?_⟩
    rw [any_py]
    exact q _ _ (Same.refl _) (.bl _)
  | _ => cases e
end
theorem Rm.u65 {k : Nat} {A : Around} (h : Rm k A) : A.units + 65 < cLine := by
  have := h.r.un
  omega
end Sk

/-! Sk X: a tuple once, or not at all. -/
namespace Sk
open PySem PySem.Spec L2
section
variable {l : Addr} {its : Array Value} {n : Nat} {dd : Option Addr} {sl : Array (Option Value)} {u : Tok}
theorem tup_mul1 : Meets (Builtin.«tuple.__mul__» ⟨[.ref l, .int 1 u], []⟩) (fun _ R s => s.heap.get? l = some { cls := .type "tuple", dict := dd, data := .seq its n, slots := sl } ∧ R (.ok (.ret (Value.ref l))) s) :=
  .of_wp fun _ _ _ _ s h => by
    obtain ⟨hp, g, d, tk, os⟩ := s
    obtain ⟨hl, h⟩ := h
    have := AutoSeq1.idx_int
    wp_walk using wpAny_loadPart' hl
    all_goals exact ⟨_, rfl, h⟩
theorem tup_mul0 : Meets (Builtin.«tuple.__mul__» ⟨[.ref l, .int 0 u], []⟩) (fun _ R s => s.heap.get? l = some { cls := .type "tuple", dict := dd, data := .seq its n, slots := sl } ∧ its.isEmpty = false ∧ R (.ok (.ret (Value.ref s.heap.objs.size))) { s with heap := s.heap.push { cls := Value.type "tuple", data := Data.seq #[] } }) :=
  .of_wp fun _ _ _ _ s h => by
    obtain ⟨hp, g, d, tk, os⟩ := s
    obtain ⟨hl, he, h⟩ := h
    have := AutoSeq1.idx_int
    wp_walk using wpAny_loadPart' hl
    all_goals exact ⟨_, rfl, h⟩
end
section
variable {X : Cx}
def rRep01 (K : PySem.W.Frag) : R2 := fun x y H Q => ∃ (l : Addr) (k : Int) (xs : List V), x = .ref l ∧ y = .int k ∧ SqT K H l xs ∧ xs ≠ [] ∧ ((k = 1 ∧ Q (.ref l) H) ∨ (k = 0 ∧ ∀ p, H p = none → Q (.ref p) (upd H p (.tup []))))
theorem op_rep01 : OpR X (binaryOp .Mult) (rRep01 X.K) := by
  intro pins s σ H x y v u Q I rx ry h
  obtain ⟨l, k, xs, rfl, rfl, hT, hne, q⟩ := h
  cases rx
  obtain ⟨t, rfl⟩ := ry
  obtain ⟨its, r, ⟨⟨cls, dd, data, sl⟩, ho, hc, n, hd⟩, hs⟩ := I.tuple hT
  obtain rfl : cls = .type "tuple" := hc
  obtain rfl : data = .seq its.toArray n := hd
  have he : its.toArray.isEmpty = false := by
    cases r with
    | nil => exact absurd rfl hne
    | cons _ _ => rfl
  have tyI : ∀ s' : Shared, s'.TypeIs (.int k t) "int" := fun s' => typeIs_int s' k t
  refine wpAny_binaryOp_repeat_ref (T := "tuple") (U := "int") (by decide) ⟨_, ho, rfl⟩ tyI noFill_tuple_mul F.fills_int_mul F.slot_int_rmul repeat_tuple F.slot_int_index.lookup ?_
  refine call_meets F.slot_int_rmul (tyI s) F.entry_int_rmul (F.args_int_rmul_2 _ _) (int_rmul_tuple k t l its.toArray n dd sl) ⟨ho, rfl, ⟨_, ho, rfl⟩, ?_⟩
  rcases q with ⟨rfl, q⟩ | ⟨rfl, q⟩
  · exact call_meets F.slot_tuple_mul ⟨_, ho, rfl⟩ F.entry_tuple_mul (F.args_tuple_mul_2 _ _) tup_mul1 ⟨ho, ⟨.ref l, H, I, rfl, q⟩⟩
  · refine call_meets F.slot_tuple_mul ⟨_, ho, rfl⟩ F.entry_tuple_mul (F.args_tuple_mul_2 _ _) tup_mul0 ⟨ho, he, ⟨.ref s.heap.objs.size, _, I.laid (t' := s.toks) (o := .tup []) (fun b ob e => Heap.get?_push_of_some _ e) (Nat.le_refl _) ?_, rfl, q _ (I.hok.fresh (Nat.le_refl _))⟩⟩
    exact ⟨Nat.zero_le _, [], .nil, PyProof.Rows.IsTup.new _ _⟩
/-- a tuple so many times, none and once too -/
def mulTD : Da → Da → Option Da
  | .tup a, .int k => if a ≠ [] ∧ k = 1 then some (.tup a) else if a ≠ [] ∧ k = 0 then some (.tup []) else mulD (.tup a) (.int k)
  | _, _ => none
theorem o_mulT : OpD X (binaryOp .Mult) mulTD := by
  obtain ⟨rm, hm, km⟩ := o_mul (X := X)
  refine ⟨_, op_rep01.or hm, fun m B H x y z a b Q e rx ry fr q => ?_⟩
  match x, y, e, rx, ry with
  | .tup xs, .int k, e, rx, .int _ =>
    replace e : (if xs ≠ [] ∧ k = 1 then some (Da.tup xs) else if xs ≠ [] ∧ k = 0 then some (Da.tup []) else mulD (.tup xs) (.int k)) = some z := e
    by_cases h1 : xs ≠ [] ∧ k = 1
    · rw [if_pos h1] at e
      cases e
      cases rx with
      | tup a1 a2 a3 a4 => exact .inl ⟨_, _, _, rfl, rfl, SqT.of a3, fun h => h1.1 (a4.ne.mpr h), .inl ⟨h1.2, q _ _ (Same.refl _) (.tup a1 a2 a3 a4)⟩⟩
    · rw [if_neg h1] at e
      by_cases h0 : xs ≠ [] ∧ k = 0
      · rw [if_pos h0] at e
        cases e
        cases rx with
        | tup a1 a2 a3 a4 => exact .inl ⟨_, _, _, rfl, rfl, SqT.of a3, fun h => h0.1 (a4.ne.mpr h), .inr ⟨h0.2, fun p hp => q _ _ (same_upd hp) (RD.new_tup .nil hp (fr p hp).1 (fr p hp).2)⟩⟩
      · rw [if_neg h0] at e
        exact .inr (km m B H _ _ _ _ _ Q e rx (.int _) fr q)
end
section
variable {P : Da → Mem → Prop} {mu : Mem} {i : Int}
@[simp] theorem yes_repTn {a : List Da} : Yes (opt (mulTD (.tup a) (.int i)) mu) P ↔ (a ≠ [] ∧ 0 ≤ i ∧ i ≤ 1000 ∧ a.length ≤ 1000 ∧ P (.tup (repL i.toNat a)) mu) ∨ (a ≠ [] ∧ 0 ≤ i ∧ i ≤ 1 ∧ 1000 < a.length ∧ P (.tup (repL i.toNat a)) mu) := by
  show Yes (opt (if a ≠ [] ∧ i = 1 then some (Da.tup a) else if a ≠ [] ∧ i = 0 then some (Da.tup []) else mulD (.tup a) (.int i)) mu) P ↔ _
  by_cases ha : a = []
  · subst ha
    simp [yes_rep]
  by_cases h1 : i = 1
  · subst h1
    rw [if_pos ⟨ha, rfl⟩]
    simp [ha, repL]
    by_cases hl : a.length ≤ 1000
    · simp [hl]
    · simp [hl]
      omega
  · by_cases h0 : i = 0
    · subst h0
      rw [if_neg (fun z => h1 z.2), if_pos ⟨ha, rfl⟩]
      simp [ha, repL]
      by_cases hl : a.length ≤ 1000
      · simp [hl]
      · simp [hl]
        omega
    · rw [if_neg (fun z => h1 z.2), if_neg (fun z => h0 z.2), yes_rep]
      constructor
      · rintro ⟨⟨_, b, c, d⟩, p⟩
        exact .inl ⟨ha, by omega, c, d, p⟩
      · rintro (⟨_, b, c, d, p⟩ | ⟨_, b, c, d, p⟩)
        · exact ⟨⟨ha, by omega, c, d⟩, p⟩
        · omega
end
end Sk

/-! Sk Y: texts. -/
namespace Sk
open PySem PySem.Spec L2

def strsOf : List Da → Option (List Str)
  | [] => some []
  | .str i :: r => (strsOf r).map (i :: ·)
  | _ :: _ => none
theorem strsOf_map : ∀ ns : List Str, strsOf (ns.map Da.str) = some ns
  | [] => rfl
  | n :: ns => by
    show (strsOf (ns.map Da.str)).map (n :: ·) = _
    rw [strsOf_map ns]
    rfl
theorem strsOf_eq : ∀ {xs : List Da} {ps : List Str}, strsOf xs = some ps → xs = ps.map Da.str
  | [], ps, h => by cases h; rfl
  | x :: xs, ps, h => by
    cases x with
    | str i =>
      obtain ⟨cs, e1, e2⟩ := Option.map_eq_some_iff.mp (show (strsOf xs).map (i :: ·) = some ps from h)
      rw [strsOf_eq e1, ← e2]
      rfl
    | _ => cases h
theorem RDs.strs {m : List Addr} {B : Addr → Prop} {H : Hp} : ∀ {ns : List Str} {v : List V}, RDs m B H (ns.map Da.str) v → v = ns.map V.str
  | [], _, .nil => rfl
  | n :: ns, _, .cons h t => by
    cases h
    rw [RDs.strs t]
    rfl
theorem strs_rd {m : List Addr} {B : Addr → Prop} {H : Hp} : ∀ ns : List Str, RDs m B H (ns.map Da.str) (ns.map V.str)
  | [] => .nil
  | n :: ns => .cons (.str n) (strs_rd ns)
/-- a text's method with one argument -/
def eM1 (f : Str → Da → Option Da) (a b : EvD) : EvD := fun rho mu => bnd (a rho mu) fun x mu1 => match x with
  | .str s => bnd (b rho mu1) fun y mu2 => opt (f s y) mu2
  | _ => .bad
def joinSize (a : Str) (ys : List Str) : Nat := (ys.map (·.length)).sum + ys.length * a.length
def joinD (a : Str) : Da → Option Da
  | .lst xs => (strsOf xs).bind fun ys => if joinSize a ys ≤ 16777216 then some (.str (Str.join a ys)) else none
  | .tup xs => (strsOf xs).bind fun ys => if joinSize a ys ≤ 16777216 then some (.str (Str.join a ys)) else none
  | _ => none
def splitD (a : Str) : Da → Option Da
  | .str b => if b.length ≠ 0 ∧ a.length + 2 ≤ sizeLine then some (.lst ((Txt.split a b).map Da.str)) else none
  | _ => none
def partD (a : Str) : Da → Option Da
  | .str b => if b.length ≠ 0 ∧ a.length ≤ sizeLine then some (.tup [.str (Txt.partition a b).1, .str (Txt.partition a b).2.1, .str (Txt.partition a b).2.2]) else none
  | _ => none
section
variable {X : Cx} {G : Fr} {W : WX} {pos apos : Pos} {o e : Expr} {da db d : EvD}
theorem m1_to {f : Str → Da → Option Da} {r : V → List V → Hp → VK → Prop} {σ : L2.St} {H : Hp} {Q : VK} (h : TEx G W (eM1 f da db) σ H Q)
    (k : ∀ (m : List Addr) (B : Addr → Prop) (H : Hp) (s : Str) (y z : Da) (v : V) (Q : VK), f s y = some z → RD m B H y v → (∀ p, H p = none → p ∉ m ∧ ¬ B p) → (∀ v H', Same H H' → RD m B H' z v → Q v H') → r (.str s) [v] H Q) : tM1 r (TEx G W da) (TEx G W db) σ H Q := by
  obtain ⟨rho, mu, m, Own, S, h⟩ := h.un
  refine TEx.to S (wp_bnd h) fun x mu1 v H1 m1 h1 g1 S1 r1 => ?_
  cases x with
  | str s =>
    cases r1
    refine ⟨⟨s, rfl⟩, TEx.to S1 (wp_step g1 (wp_bnd h1)) fun y mu2 w H2 m2 h2 g2 S2 r2 => ?_⟩
    obtain ⟨z, ez, q⟩ := wp_opt h2
    exact k m2 _ H2 s y z w Q ez r2 (fun p hp => S2.fresh hp) fun v H' sm rd => q v H' m2 ((g1.trans g2).trans (Lf.of_same sm)) (S2.same sm) rd
  | _ => exact h1.elim
theorem c_join (ho : PE X o (TEx G W da)) (he : PE X e (TEx G W db)) (hs : starEach [e] X.env = [(false, eval e X.env)] := by rfl) (hbase : attributeBase o "join" X.env (eval o X.env) = eval o X.env := by rfl) (hline : (apos.endLine == pos.line) = true := by rfl) :
    PE X (.Call (.Attribute o "join" apos) [e] [] pos) (TEx G W (eM1 joinD da db)) := by
  refine PEw (pe_join ho he hs hbase hline) fun σ H Q h => m1_to h fun m B H s y z v Q ez rd fr q => ?_
  match y, ez, rd with
  | .lst xs, ez, .lst a1 a2 a3 a4 =>
    replace ez : ((strsOf xs).bind fun ys => if joinSize s ys ≤ 16777216 then some (Da.str (Str.join s ys)) else none) = some z := ez
    obtain ⟨ys, e1, e2⟩ := Option.bind_eq_some_iff.mp ez
    obtain ⟨hz, rfl⟩ := ite_inv e2
    have ev := RDs.strs (strsOf_eq e1 ▸ a4)
    subst ev
    exact ⟨s, _, ys, rfl, rfl, .inl (SqL.of a3), hz, q _ _ (Same.refl _) (by rw [TL.join_eq]; exact .str _)⟩
  | .tup xs, ez, .tup a1 a2 a3 a4 =>
    replace ez : ((strsOf xs).bind fun ys => if joinSize s ys ≤ 16777216 then some (Da.str (Str.join s ys)) else none) = some z := ez
    obtain ⟨ys, e1, e2⟩ := Option.bind_eq_some_iff.mp ez
    obtain ⟨hz, rfl⟩ := ite_inv e2
    have ev := RDs.strs (strsOf_eq e1 ▸ a4)
    subst ev
    exact ⟨s, _, ys, rfl, rfl, .inr (SqT.of a3), hz, q _ _ (Same.refl _) (by rw [TL.join_eq]; exact .str _)⟩
theorem c_split (ho : PE X o (TEx G W da)) (he : PE X e (TEx G W db)) (hs : starEach [e] X.env = [(false, eval e X.env)] := by rfl) (hbase : attributeBase o "split" X.env (eval o X.env) = eval o X.env := by rfl) (hline : (apos.endLine == pos.line) = true := by rfl) :
    PE X (.Call (.Attribute o "split" apos) [e] [] pos) (TEx G W (eM1 splitD da db)) := by
  refine PEw (pe_split ho he hs hbase hline) fun σ H Q h => m1_to h fun m B H s y z v Q ez rd fr q => ?_
  cases y with
  | str b =>
    cases rd
    obtain ⟨hz, rfl⟩ := ite_inv ez
    exact ⟨s, b, rfl, rfl, by rw [beq_eq_false_iff_ne]; exact hz.1, hz.2, fun p hp => q _ _ (same_upd hp) (RD.new_lst (strs_rd _) hp (fr p hp).1 (fr p hp).2)⟩
  | _ => cases ez
theorem c_part (ho : PE X o (TEx G W da)) (he : PE X e (TEx G W db)) (hs : starEach [e] X.env = [(false, eval e X.env)] := by rfl) (hbase : attributeBase o "partition" X.env (eval o X.env) = eval o X.env := by rfl) (hline : (apos.endLine == pos.line) = true := by rfl) :
    PE X (.Call (.Attribute o "partition" apos) [e] [] pos) (TEx G W (eM1 partD da db)) := by
  refine PEw (pe_partition ho he hs hbase hline) fun σ H Q h => m1_to h fun m B H s y z v Q ez rd fr q => ?_
  cases y with
  | str b =>
    cases rd
    obtain ⟨hz, rfl⟩ := ite_inv ez
    exact ⟨s, b, rfl, rfl, by rw [beq_eq_false_iff_ne]; exact hz.1, hz.2, fun p hp => q _ _ (same_upd hp) (RD.new_tup (.cons (.str _) (.cons (.str _) (.cons (.str _) .nil))) hp (fr p hp).1 (fr p hp).2)⟩
  | _ => cases ez
/-- str(x), int(text) -/
def strD : List Da → Option Da
  | [.int i] => if i.natAbs.log2 < 1920 then some (.str (Str.ofString (toString i))) else none
  | [.str a] => some (.str a)
  | _ => none
theorem b_str : CallD X (.type "str") strD := by
  refine ⟨_, call_str_int.or SkE.call_str_str, fun m B H xs z vs Q e r fr q => ?_⟩
  match xs, e, r with
  | [.int i], e, .cons (.int _) .nil =>
    obtain ⟨hz, rfl⟩ := ite_inv e
    exact .inl ⟨i, rfl, hz, q _ _ (Same.refl _) (.str _)⟩
  | [.str a], e, .cons (.str _) .nil =>
    cases e
    exact .inr ⟨a, rfl, q _ _ (Same.refl _) (.str _)⟩
def intSD : List Da → Option Da
  | [.str a] => (PySem.intText? a).bind fun n => if a.length ≤ 640 then some (.int n) else none
  | _ => none
theorem b_intS : CallD X (.type "int") intSD := by
  refine ⟨_, call_int_str, fun m B H xs z vs Q e r fr q => ?_⟩
  match xs, e, r with
  | [.str a], e, .cons (.str _) .nil =>
    obtain ⟨n, e1, e2⟩ := Option.bind_eq_some_iff.mp (show ((PySem.intText? a).bind fun n => if a.length ≤ 640 then some (Da.int n) else none) = some z from e)
    obtain ⟨hz, rfl⟩ := ite_inv e2
    exact ⟨a, n, rfl, e1, hz, q _ _ (Same.refl _) (.int _)⟩
/-- sign in text -/
def inSD : Da → Da → Option Da
  | .str x, .str z => (match x.cps.toList with
    | [c] => some (.bl (decide (c ∈ z.cps.toList)))
    | _ => none)
  | _, _ => none
theorem o_inS : OpD X (compareOp .In) inSD := by
  refine ⟨_, op_in_sign, fun m B H x y z a b Q e rx ry fr q => ?_⟩
  match x, y, e, rx, ry with
  | .str x, .str y, e, .str _, .str _ =>
    replace e : (match x.cps.toList with | [c] => some (Da.bl (decide (c ∈ y.cps.toList))) | _ => none) = some z := e
    split at e
    · rename_i c ec
      cases e
      have ex : x = ⟨#[c]⟩ := TL.ext_tl (by show x.cps.toList = _; rw [ec])
      rw [ex]
      exact ⟨c, y, rfl, rfl, q _ _ (Same.refl _) (.bl _)⟩
    · cases e
/-- text[i] -/
def ixSD : Da → Da → Option Da
  | .str z, .int i => if 0 ≤ i ∧ i < 2 ^ 63 ∧ i < z.length then (z.cps[i.toNat]?).map fun c => .str ⟨#[c]⟩ else none
  | _, _ => none
theorem c_ixS {a b : Expr} (ha : PE X a (TEx G W da)) (hb : PE X b (TEx G W db)) (hs : PlainIxT b := by intro _ _; rfl) : PE X (.Subscript a b pos) (TEx G W (e2 ixSD da db)) := by
  refine PEw (pe_item_str ha hb hs) fun σ H Q h => ?_
  obtain ⟨rho, mu, m, Own, S, h⟩ := h.un
  unfold tOp
  refine two S h (r := fun x y H Q => ∃ (z : Str) (i : Int) (c : Nat), x = .str z ∧ y = .int i ∧ 0 ≤ i ∧ i < 2 ^ 63 ∧ i < z.length ∧ z.cps[i.toNat]? = some c ∧ Q (.str ⟨#[c]⟩) H) fun m B H x y z a b Q e rx ry fr q => ?_
  match x, y, e, rx, ry with
  | .str s, .int i, e, .str _, .int _ =>
    replace e : (if 0 ≤ i ∧ i < 2 ^ 63 ∧ i < s.length then (s.cps[i.toNat]?).map fun c => Da.str ⟨#[c]⟩ else none) = some z := e
    by_cases hz : 0 ≤ i ∧ i < 2 ^ 63 ∧ i < s.length
    · rw [if_pos hz] at e
      obtain ⟨c, ec, rfl⟩ := Option.map_eq_some_iff.mp e
      exact ⟨s, i, c, rfl, rfl, hz.1, hz.2.1, hz.2.2, ec, q _ _ (Same.refl _) (.str _)⟩
    · rw [if_neg hz] at e; cases e
/-- for sign in text -/
def signsD (x : Str) : List Da := x.cps.toList.map fun c => .str ⟨#[c]⟩
def iSgn (e : EvD) : EvI := fun rho mu => bnd (e rho mu) fun d mu' => match d with
  | .str x => .ok (signsD x) mu'
  | _ => .bad
theorem walks_str {x : Str} {m : List Addr} {B : Addr → Prop} {H : Hp} : Walks (Its x) (signsD x) m B H := by
  intro m2 B2 H2 _ _
  refine ⟨fun i d ed => ?_, by unfold signsD; rw [List.length_map, Array.length_toList]; exact Nat.le_refl _⟩
  unfold signsD at ed
  rw [List.getElem?_map] at ed
  obtain ⟨c, ec, rfl⟩ := Option.map_eq_some_iff.mp ed
  rw [Array.getElem?_toList] at ec
  refine ⟨(Array.getElem?_eq_some_iff.mp ec).1, fun v H3 ⟨eq, c2, ec2, ev⟩ => ?_⟩
  subst eq
  rw [ec] at ec2
  cases ec2
  rw [ev]
  exact ⟨Same.refl _, .str _⟩
theorem i_sgn {tg : Expr} (he : PE X e (TEx G W d)) : PI X tg e (TIx G W (iSgn d)) := by
  refine PIw (pi_str he) fun σ H R ⟨rho, mu, m, Own, S, h⟩ => TEx.to S (wp_bnd h) fun z mu1 v H1 m1 h1 g1 S1 r1 => ?_
  cases z with
  | str x =>
    cases r1
    exact ⟨x, rfl, h1 _ H1 m1 g1 S1 walks_str⟩
  | _ => exact h1.elim
end
section
variable {rho : Ev} {mu : Mem} {P : Da → Mem → Prop} {Q : List Da → Mem → Prop} {a b e : EvD}
@[simp] theorem yes_eM1 {f : Str → Da → Option Da} : Yes (eM1 f a b rho mu) P ↔ Yes (a rho mu) fun x m => match x with | .str s => Yes (b rho m) fun y m2 => Yes (opt (f s y) m2) P | _ => False := by
  unfold eM1; rw [yes_bnd]
  cases a rho mu with
  | ok d m => cases d <;> first | exact yes_bnd | exact Iff.rfl
  | _ => exact Iff.rfl
@[simp] theorem yes_iSgn : Yes (iSgn e rho mu) Q ↔ Yes (e rho mu) fun d m => match d with | .str x => Q (signsD x) m | _ => False := by
  unfold iSgn; rw [yes_bnd]
  cases e rho mu with
  | ok d m => cases d <;> exact Iff.rfl
  | _ => exact Iff.rfl
end
end Sk

/-! Sk Z: text * n; texts of texts. -/
namespace Sk
open PySem PySem.Spec L2

def repS (k : Nat) (z : Str) : Str := ⟨(List.replicate k z.cps).foldl (· ++ ·) #[]⟩
def mulSD : Da → Da → Option Da
  | .str z, .int k => if 2 ≤ k ∧ k ≤ 1000 ∧ 1 ≤ z.length ∧ z.length ≤ 1000 then some (.str (repS k.toNat z)) else none
  | _, _ => none
def rMulS : R2 := fun x y H Q => ∃ (z : Str) (k : Int), x = .str z ∧ y = .int k ∧ (2 ≤ k ∧ k ≤ 1000 ∧ 1 ≤ z.length ∧ z.length ≤ 1000) ∧ Q (.str (repS k.toNat z)) H
theorem fold_size (a : Array Nat) : ∀ (n : Nat) (b : Array Nat), ((List.replicate n a).foldl (· ++ ·) b).size = b.size + n * a.size
  | 0, b => by simp
  | n + 1, b => by
    rw [List.replicate_succ, List.foldl_cons, fold_size a n, Array.size_append, Nat.succ_mul]
    omega
theorem repS_len {k : Nat} {z : Str} : (repS k z).length = k * z.length := by
  show ((List.replicate k z.cps).foldl (· ++ ·) #[]).size = _
  rw [fold_size]
  simp [Str.length]
section
variable {X : Cx}
theorem op_mulS : OpR X (binaryOp .Mult) rMulS := by
  intro pins s σ H x y v u Q I rx ry h
  obtain ⟨z, k, rfl, rfl, ⟨k0, k1, z0, z1⟩, q⟩ := h
  obtain ⟨t, rfl⟩ := rx
  obtain ⟨t2, rfl⟩ := ry
  have sz : (z.length : Int) * k ≤ 1000000 := by
    have := Int.mul_le_mul (show (z.length : Int) ≤ 1000 by omega) k1 (by omega) (by decide)
    omega
  refine P.mul_str ?_ (fun _ _ => ?_) (fun _ _ => ?_) ?_
  · rw [decide_eq_false (by omega), decide_eq_false (by omega)]
    rfl
  · have : (2 ^ 63 - 1) / 1000 ≤ (2 ^ 63 - 1) / k := by
      refine (Int.le_ediv_iff_mul_le (by omega)).mpr ?_
      have := Int.mul_le_mul_of_nonneg_left k1 (show (0 : Int) ≤ (2 ^ 63 - 1) / 1000 by decide)
      omega
    omega
  · have e : ((z.length * k.toNat : Nat) : Int) = (z.length : Int) * k := by
      rw [Int.natCast_mul, Int.toNat_of_nonneg (by omega)]
    unfold Builtin.Str.tooLong
    refine decide_eq_false ?_
    rw [sizeLine_eq]
    omega
  · rw [if_neg (by omega), if_neg (by
      rw [Bool.or_eq_true, beq_iff_eq, beq_iff_eq]
      omega)]
    refine ⟨?_, ⟨.str (repS k.toNat z), H, I.tok _, ⟨_, rfl⟩, q⟩⟩
    have := repS_len (k := k.toNat) (z := z)
    have e : k.toNat * z.length ≤ 1000 * 1000 := Nat.mul_le_mul (by omega) z1
    show (repS k.toNat z).length ≤ sizeLine
    rw [this, sizeLine_eq]
    omega
theorem o_mulS : OpD X (binaryOp .Mult) mulSD := by
  refine ⟨_, op_mulS, fun m B H x y z a b Q e rx ry fr q => ?_⟩
  match x, y, e, rx, ry with
  | .str s, .int k, e, .str _, .int _ =>
    obtain ⟨hz, rfl⟩ := ite_inv (show (if 2 ≤ k ∧ k ≤ 1000 ∧ 1 ≤ s.length ∧ s.length ≤ 1000 then some (Da.str (repS k.toNat s)) else none) = some z from e)
    exact ⟨s, k, rfl, rfl, hz, q _ _ (Same.refl _) (.str _)⟩
end
/-! ### the text of a text -/
theorem digit_ok (c n : Nat) : ∀ d ∈ (Nat.toDigits 16 n).map Char.toNat, d < 0x110000 := by
  intro d hd
  obtain ⟨ch, _, rfl⟩ := List.mem_map.mp hd
  rcases ch.valid with h | h
  · exact Nat.lt_trans h (by decide)
  · exact h.2
theorem reprChar_ok (q c : Nat) (hc : c < 0x110000) : ∀ d ∈ Builtin.Str.reprChar q c, d < 0x110000 := by
  have hx : ∀ (k : Nat) (l : List Nat), (∀ d ∈ l, d < 0x110000) → ∀ d ∈ l ++ (List.replicate (k - ((Nat.toDigits 16 c).map Char.toNat).length) 48 ++ (Nat.toDigits 16 c).map Char.toNat), d < 0x110000 := fun k l hl d hd => by
    rcases List.mem_append.mp hd with h | h
    · exact hl d h
    · rcases List.mem_append.mp h with h | h
      · rw [List.eq_of_mem_replicate h]; decide
      · exact digit_ok c c d h
  unfold Builtin.Str.reprChar
  dsimp only
  split
  · intro d hd
    simp at hd
    rcases hd with rfl | rfl
    · decide
    · exact hc
  split
  · decide
  split
  · decide
  split
  · decide
  split
  · intro d hd
    rw [List.mem_singleton.mp hd]
    exact hc
  split
  · exact hx 2 _ (by decide)
  split
  · exact hx 4 _ (by decide)
  · exact hx 8 _ (by decide)
theorem sok_repr {x : Str} (h : SO2 x) : SO2 (reprText x) := by
  have hx : ∀ c ∈ x.cps.toList, c < 0x110000 := fun c hc => by
    have z : x.cps.all (fun c => decide (c < 0x110000)) = true := h
    rw [← Array.all_toList] at z
    exact of_decide_eq_true (List.all_eq_true.mp z c hc)
  have hq : reprQuote x < 0x110000 := by
    unfold reprQuote
    split <;> decide
  have go : ∀ (l : List Nat) (acc : Array Nat), (∀ c ∈ l, c < 0x110000) → (∀ c ∈ acc.toList, c < 0x110000) → ∀ c ∈ (l.foldl (fun out c => out ++ (Builtin.Str.reprChar (reprQuote x) c).toArray) acc).toList, c < 0x110000 := by
    intro l
    induction l with
    | nil => intro acc _ h; exact h
    | cons a l ih =>
      intro acc hl ha
      refine ih _ (fun c hc => hl c (List.mem_cons_of_mem _ hc)) fun c hc => ?_
      rw [Array.toList_append] at hc
      rcases List.mem_append.mp hc with hc | hc
      · exact ha c hc
      · exact reprChar_ok _ a (hl a List.mem_cons_self) c (by simpa using hc)
  show (reprText x).cps.all (fun c => decide (c < 0x110000)) = true
  rw [← Array.all_toList, List.all_eq_true]
  intro c hc
  refine decide_eq_true ?_
  unfold reprText at hc
  rw [Array.toList_push] at hc
  rcases List.mem_append.mp hc with hc | hc
  · rw [← Array.foldl_toList] at hc
    exact go x.cps.toList #[reprQuote x] hx (by
      intro c hc
      have hc : c ∈ [reprQuote x] := hc
      rw [List.mem_singleton.mp hc]
      exact hq) c hc
  · rw [List.mem_singleton.mp hc]
    exact hq
/-- a list of texts can be told -/
theorem texts_told {ts : List Str} (h : ∀ t ∈ ts, SO2 t ∧ t.length ≤ 10000) (hl : ts.length ≤ 100) : reprD [.lst (ts.map Da.str)] = some (.str (listText (ts.map reprText))) ∧ SO2 (listText (ts.map reprText)) := by
  have e : toPys (ts.map Da.str) = ts.map PyData.str := by
    rw [toPys_map, List.map_map]
    rfl
  have sh : PyData.shownAll (ts.map PyData.str) = ts.map reprText := by
    clear h hl e
    induction ts with
    | nil => rfl
    | cons t ts ih => exact congrArg (reprText t :: ·) ih
  have f : isDs (ts.map Da.str) = true ∧ PyData.showableAll (ts.map PyData.str) = true ∧ PyData.depthAll (ts.map PyData.str) = 0 := by
    clear h hl e sh
    induction ts with
    | nil => exact ⟨rfl, rfl, rfl⟩
    | cons t ts ih =>
      refine ⟨ih.1, ih.2.1, ?_⟩
      show max 0 (PyData.depthAll (ts.map PyData.str)) = 0
      rw [ih.2.2]
      rfl
  have so : SO2 (listText (ts.map reprText)) := sok_list fun t ht => by
    obtain ⟨x, hx, rfl⟩ := List.mem_map.mp ht
    exact sok_repr (h x hx).1
  have len : (listText (ts.map reprText)).length ≤ sizeLine := by
    have l1 := textFrom_len_le (ts.map reprText) 0 (Str.ofString "[")
    have l2 : ((ts.map reprText).map (·.length)).sum ≤ 100002 * ts.length := by
      clear l1 so f sh e hl
      induction ts with
      | nil => exact Nat.le_refl _
      | cons t ts ih =>
        have hx := (h t List.mem_cons_self)
        have z := StrLaws.reprText_len t fun c hc => by
          have z : t.cps.all (fun c => decide (c < 0x110000)) = true := hx.1
          rw [← Array.all_toList] at z
          exact Nat.lt_trans (of_decide_eq_true (List.all_eq_true.mp z c hc)) (by decide)
        have i := ih fun t ht => h t (List.mem_cons_of_mem _ ht)
        simp only [List.map_cons, List.sum_cons, List.length_cons] at i ⊢
        omega
    have l3 : (listText (ts.map reprText)).length = (textFrom 0 (Str.ofString "[") (ts.map reprText)).length + 1 := by
      unfold listText
      rw [Str.length_append]
      rfl
    rw [List.length_map] at l1
    have l4 : (Str.ofString "[").length = 1 := rfl
    rw [l3, sizeLine_eq]
    omega
  refine ⟨?_, so⟩
  have tp : (toPy (.lst (ts.map Da.str))).shown = listText (ts.map reprText) := by
    show listText (PyData.shownAll (toPys (ts.map Da.str))) = _
    rw [e, sh]
  have ok : okRepr (.lst (ts.map Da.str)) = true := by
    unfold okRepr
    rw [tp, decide_eq_true len]
    show (isDs (ts.map Da.str) && PyData.showableAll (toPys (ts.map Da.str)) && decide (PyData.depthAll (toPys (ts.map Da.str)) + 1 ≤ 60) && true) = true
    rw [e, f.1, f.2.1, f.2.2]
    rfl
  show (if okRepr (.lst (ts.map Da.str)) = true then some (Da.str (toPy (.lst (ts.map Da.str))).shown) else none) = _
  rw [if_pos ok, tp]
end Sk

/-! Sk Za: sorted(set(list of ints)). -/
namespace Sk
open PySem PySem.Spec L2 PyProof.Rows
/-- a set as it is made -/
abbrev bareSet (w : World) : Obj := { cls := .type "set", dict := none, data := .set #[] 0 (.fresh 0 0 (!w.params.followText "set-order")) }
abbrev withSet (w : World) (h : Heap) : Heap := h.push (bareSet w)
section
variable {P : Program} {w : World} {A : Around} {E : Value → Shared → Prop} {s : Shared}
/-- its list is walked, all are put in -/
theorem fill_lst {A : Around} {D l : Addr} {g : Heap} {vs : Array Value} (ks : List Int) {R : Result → Shared → Prop} (hh : A.in1.handled = none) (hg : s.heap = withSet w g) (hD : D = g.objs.size) (hl : g.IsList l vs) (hv : IntsAre vs.toList ks) (hb : ks.length + 1 < scanBound)
    (h : ∀ g' t c, SetR w g' D (fun j => decide (j ∈ ks)) c → c ≤ ks.length → (∀ b o, g.get? b = some o → g'.get? b = some o) → R (.ok (.ret .none)) { s with heap := g', toks := t }) :
    codeAny (model P w) A (.builtin "set.update.loop" ⟨[.ref D, .ref s.heap.objs.size], []⟩) R { s with heap := s.heap.push { cls := .type "list_iterator", data := .fields #[.ref l, .int 0 0] } } := by
  obtain ⟨g0, gg, dd, tt, oo⟩ := s
  simp only at hg
  subst hg hD
  have lt : l < g.objs.size := by
    obtain ⟨_, e, _⟩ := hl
    exact Heap.lt_size e
  have z1 : (withSet w g).objs.size = g.objs.size + 1 := Heap.size_push _ _
  have n1 : l ≠ (withSet w g).objs.size := by rw [z1]; exact Nat.ne_of_lt (Nat.lt_succ_of_lt lt)
  have sz : vs.size = ks.length := by rw [← IntsAre.length hv, Array.length_toList]
  refine set_update_ints ((Walks.list (by first | exact hh | simpa using hh) _ l n1 vs).toS) g.objs.size (by
    simp only [z1, List.mem_cons, List.not_mem_nil, or_false, not_or]
    exact ⟨Nat.ne_of_lt (Nat.lt_succ_self _), Nat.ne_of_gt lt⟩) ks sz hb (fun i v e => ?_) (vs.size - 0) 0 _ (by omega) (Nat.zero_le _)
    ⟨⟨_, Heap.get?_push_size _ rfl, rfl, rfl⟩, hl.push _ |>.push _⟩ ⟨0, Nat.le_refl 0, setR_new_at (Heap.get?_push_of_some _ (Heap.get?_push_size _ rfl))⟩ fun s2 c mv lc R2 => ?_
  · have hi : i < ks.length := sz ▸ (Array.getElem?_eq_some_iff.mp e).1
    obtain ⟨t, q⟩ := IntsAre.int_at hv i v (by rw [Array.getElem?_toList]; exact e)
    exact ⟨ks[i], t, List.getElem?_eq_getElem hi, by rw [q, List.getD_eq_getElem?_getD, List.getElem?_eq_getElem hi]; rfl⟩
  · obtain ⟨g2, g3, d3, t3, o3⟩ := s2
    cases (show g3 = gg from mv.gens)
    cases (show d3 = dd from mv.drawn)
    cases (show o3 = oo from mv.os)
    refine h g2 t3 c R2 (sz ▸ lc) fun b o e => ?_
    have q := Heap.lt_size e
    exact mv.heap b o (by
      simp only [z1, List.mem_cons, List.not_mem_nil, or_false, not_or]
      exact ⟨Nat.ne_of_lt q, Nat.ne_of_lt (Nat.lt_succ_of_lt q)⟩) (Heap.get?_push_of_some _ (Heap.get?_push_of_some _ e))
/-- set(list of ints) -/
theorem set_lst {l : Addr} {vs : Array Value} (ks : List Int) {Q : Value → Shared → Prop} (hh : A.handled = none) (hl : s.heap.IsList l vs) (hv : IntsAre vs.toList ks) (hb : ks.length + 1 < scanBound)
    (k : ∀ g t c, SetR w g s.heap.objs.size (fun j => decide (j ∈ ks)) c → c ≤ ks.length → (∀ b o, s.heap.get? b = some o → g.get? b = some o) → Q (.ref s.heap.objs.size) { s with heap := g, toks := t }) : wpAny (model P w) A (call (.type "set") [.ref l]) Q E s := by
  obtain ⟨c0, t0, mro⟩ := F.called_set.mro
  have z0 := F.called_set.made; have z1 := F.called_set.sub; have z2 := F.called_set.notType; have z3 := F.called_set.canCreate
  refine wpAny_call (codeAny_of_tree (show wpAny _ _ (callAny (.type "set") _) _ _ _ from wpAny_pure ⟨Code.quiet_builtin _ (by decide +kernel), codeAny_builtin F.entry_type_call ?_⟩))
  rw [Around.under_plain (weight_type_call_type "set" [.ref l] []) rfl]
  have z4 := F.typeCall_set_1 (.ref l)
  repeat (any_goals (first | assumption | wp_step))
  refine codeAny_mono (code_set_led1 (.ref l) (E := E) (Q₁ := fun x u => x = .ref s.heap.objs.size ∧ u = { s with heap := withSet w s.heap }) ⟨rfl, rfl⟩) fun r u hr => ?_
  match r, hr with
  | .error _, hr => exact hr
  | .ok (.ret x), hr =>
    obtain ⟨rfl, rfl⟩ := hr
    have e0 : (withSet w s.heap).get? s.heap.objs.size = some (bareSet w) := Heap.get?_push_size _ rfl
    have e1 : Shared.TypeIs { s with heap := withSet w s.heap } (.ref s.heap.objs.size) "set" := ⟨_, e0, rfl⟩
    have z5 := F.called_set.init.lookup; have z6 := F.called_set.init.bind (.ref s.heap.objs.size)
    repeat (any_goals (first | assumption | wp_step))
    refine codeAny_mono (codeAny_call_builtin (R := wants (fun x u => x = .none ∧ ∃ g t c, u = { s with heap := g, toks := t } ∧ SetR w g s.heap.objs.size (fun j => decide (j ∈ ks)) c ∧ c ≤ ks.length ∧ ∀ b o, s.heap.get? b = some o → g.get? b = some o) E) F.called_set.init.plain F.entry_set_init (check_set_init_1 e1 ?_)) fun r2 u2 hr2 => ?_
    · obtain ⟨⟨oc, od, ox, os⟩, ho, hc, hn, hx⟩ := id hl
      cases (show oc = .type "list" from hc)
      cases (show ox = .seq vs hn from hx)
      have e2 := Heap.get?_push_of_some (bareSet w) ho
      have z7 := F.sub_list_set; have z8 := F.sub_list_frozenset
      have z9 : (Value.type "list" == Value.type "dict") = false := by decide
      unfold Builtin.«set.__init__» noKeywords
      unfold Builtin.Frozenset.updateFrom
      generalize pi : pyIter = it
      wp_walk
      subst pi
      refine wpAny_pyIter_list (hl.push _) (wpAny_bind (wpAny_runValue ?_))
      refine fill_lst (s := { s with heap := withSet w s.heap }) (g := s.heap) ks (by simp [hh]) rfl rfl hl hv hb fun g t c r1 r2 r3 => ?_
      show wpAny _ _ _ _ _ _
      exact wpAny_pure (wpAny_pure ⟨rfl, g, t, c, rfl, r1, r2, r3⟩)
    · match r2, hr2 with
      | .error _, hr2 => exact hr2
      | .ok (.ret _), hr2 =>
        obtain ⟨rfl, g, t, c, rfl, q1, q2, q3⟩ := hr2
        repeat (any_goals (first | assumption | wp_step))
        exact k _ _ _ q1 q2 q3
end
section
variable {X : Cx}
def rSetL (K : PySem.W.Frag) (w : World) : List V → Hp → VK → Prop := fun vs H Q => ∃ (a : Addr) (ks : List Int), vs = [V.ref a] ∧ SqL K H a (ks.map V.int) ∧ ks.length < 64 ∧ ∀ p c, H p = none → c ≤ ks.length → Q (.ref p) (upd H p (SetO w p (fun j => decide (j ∈ ks)) c))
theorem cr_setL (hc : X.calm = true) : CallR X (.type "set") (rSetL X.K X.w) := by
  intro pins s σ H vs us Q I r h
  obtain ⟨a, ks, rfl, hs, hl, q⟩ := h
  obtain rfl := Vals.ref1 r
  obtain ⟨its, rv, il, _⟩ := I.list hs
  refine set_lst ks (I.ok.hd hc) il.isList (ints_of_vals rv) (by unfold scanBound; omega) fun g t c r1 r2 r3 => ?_
  exact ⟨.ref s.heap.objs.size, upd H s.heap.objs.size (SetO X.w s.heap.objs.size (fun j => decide (j ∈ ks)) c), I.laid (t' := t) r3 (Nat.le_refl _) (setO_new r1), rfl, q _ c (I.hok.fresh (Nat.le_refl _)) r2⟩
end
end Sk

/-! Sk Zb: sorted(set(..)), list of a dict comprehension's keys. -/
namespace Sk
open PySem PySem.Spec L2
/-- each once, as first met -/
def addI (a : List Int) (k : Int) : List Int := if k ∈ a then a else a ++ [k]
def dedI (ks : List Int) : List Int := ks.foldl addI []
theorem addI_mem {a : List Int} {k j : Int} : j ∈ addI a k ↔ j ∈ a ∨ j = k := by
  unfold addI
  split
  · exact ⟨.inl, fun h => h.elim id fun e => by subst e; assumption⟩
  · simp
theorem addI_nd {a : List Int} {k : Int} (h : a.Nodup) : (addI a k).Nodup := by
  unfold addI
  split
  · exact h
  · rename_i n
    refine List.nodup_append.mpr ⟨h, by simp, fun x hx y hy e => n ?_⟩
    rw [← List.mem_singleton.mp hy, ← e]
    exact hx
theorem addI_len (a : List Int) (k : Int) : (addI a k).length ≤ a.length + 1 := by
  unfold addI
  split <;> simp
theorem fold_mem : ∀ (ks a : List Int) (j : Int), j ∈ ks.foldl addI a ↔ j ∈ a ∨ j ∈ ks
  | [], a, j => by simp
  | k :: ks, a, j => by
    rw [List.foldl_cons, fold_mem ks, addI_mem, List.mem_cons]
    exact or_assoc
theorem fold_nd : ∀ (ks a : List Int), a.Nodup → (ks.foldl addI a).Nodup
  | [], _, h => h
  | k :: ks, a, h => fold_nd ks _ (addI_nd h)
theorem fold_len : ∀ (ks a : List Int), (ks.foldl addI a).length ≤ a.length + ks.length
  | [], a => Nat.le_refl _
  | k :: ks, a => by
    have := fold_len ks (addI a k)
    have := addI_len a k
    rw [List.foldl_cons, List.length_cons]
    omega
theorem dedI_mem (ks : List Int) (j : Int) : j ∈ dedI ks ↔ j ∈ ks := (fold_mem ks [] j).trans (by simp)
theorem dedI_nd (ks : List Int) : (dedI ks).Nodup := fold_nd ks [] List.nodup_nil
theorem dedI_len (ks : List Int) : (dedI ks).length ≤ ks.length := by
  have := fold_len ks []
  rw [List.length_nil, Nat.zero_add] at this
  exact this
theorem dedI_snoc (ks : List Int) (k : Int) : dedI (ks ++ [k]) = addI (dedI ks) k := by
  unfold dedI
  rw [List.foldl_append]
  rfl
def sorSetD : List Da → Option Da
  | [.lst xs] => (intsOf xs).bind fun ns => if ns.length < 64 then some (.lst ((sortI (dedI ns)).map Da.int)) else none
  | _ => none
def chkI : Da → Option Da
  | .int i => some (.int i)
  | _ => none
def dedD : Da → Option Da
  | .lst xs => (intsOf xs).map fun ns => .lst ((dedI ns).map Da.int)
  | _ => none
/-- list({e: .. for .. in it}) -/
def eDk (it : EvI) (vs : List Nat) (bd : Da → Ev → Option Ev) (e : EvD) : EvD := e1 dedD (eCmp it vs bd tT (e1 chkI e))
theorem putI {a : List Int} {kvs : List (Key × V)} {k : Int} {z : V} (h : kvs.map (·.1) = a.map Sum.inl) : (putK kvs (Sum.inl k) z).map (·.1) = (addI a k).map Sum.inl := by
  have ea : (kvs.any fun kv => decide (kv.1 = Sum.inl k)) = true ↔ k ∈ a := by
    rw [List.any_eq_true]
    constructor
    · rintro ⟨kv, hm, e⟩
      have e := of_decide_eq_true e
      have : (Sum.inl k : Key) ∈ a.map Sum.inl := by
        rw [← h, ← e]
        exact List.mem_map.mpr ⟨kv, hm, rfl⟩
      obtain ⟨j, hj, ej⟩ := List.mem_map.mp this
      cases ej
      exact hj
    · intro hk
      have : (Sum.inl k : Key) ∈ kvs.map (·.1) := by
        rw [h]
        exact List.mem_map.mpr ⟨k, hk, rfl⟩
      obtain ⟨kv, hm, e⟩ := List.mem_map.mp this
      exact ⟨kv, hm, decide_eq_true e⟩
  unfold putK addI
  by_cases hk : k ∈ a
  · rw [if_pos (ea.mpr hk), if_pos hk, List.map_map, ← h]
    refine List.map_congr_left fun kv _ => ?_
    show (if kv.1 = Sum.inl k then (kv.1, z) else kv).1 = kv.1
    split <;> rfl
  · rw [if_neg (fun q => hk (ea.mp q)), if_neg hk, List.map_append, List.map_append, h]
    rfl
section
variable {X : Cx} {G : Fr} {W : WX} {pos pos' : Pos}
theorem c_sorSet {p p2 pos2 : Pos} {e : Expr} {r : Ev → Mem → Out (List Da)} (hm : X.mg "sorted" = none) (hm2 : X.mg "set" = none) (ha : PA X [e] (TAx G W r)) (hg : Gl X "sorted" := by rfl) (hg2 : Gl X "set" := by rfl) (hc : X.calm = true := by rfl)
    (na : starEach [e] X.env = (false, eval e X.env) :: starEach [] X.env := by rfl) (nb : starEach [.Call (.Name "set" p2) [e] [] pos2] X.env = (false, eval (.Call (.Name "set" p2) [e] [] pos2) X.env) :: starEach [] X.env := by rfl)
    (npl : (backTo pos2 (starEach [] X.env)).any (·.1) = false := by rfl) (nql : (backTo pos (starEach [] X.env)).any (·.1) = false := by rfl) :
    PE X (.Call (.Name "sorted" p) [.Call (.Name "set" p2) [e] [] pos2] [] pos) (TEx G W (eB sorSetD r)) := by
  refine PEw (pe_callB (id := "sorted") (cr_sortedSet hc) hg hm rfl (pa_cons (pe_callTy (cr_setL hc) hg2 hm2 rfl ha (by decide) (by decide) na npl) pa_nil nb) (by decide) (by decide) nb nql) fun σ H Q h => ?_
  obtain ⟨rho, mu, m, Own, S, h⟩ := h.un
  refine TAx.to S (wp_bnd h) fun x mu1 v1 H1 m1 h1 g1 S1 r1 => ?_
  obtain ⟨z, e, q⟩ := wp_opt h1
  match x, e with
  | [.lst xs], e =>
    cases r1 with
    | cons r1 r2 =>
      cases r2
      cases r1 with
      | lst a1 a2 a3 a4 =>
        obtain ⟨ns, e1, e2⟩ := Option.bind_eq_some_iff.mp (show ((intsOf xs).bind fun ns => if ns.length < 64 then some (Da.lst ((sortI (dedI ns)).map Da.int)) else none) = some z from e)
        obtain ⟨h64, e2⟩ := ite_inv e2
        subst e2
        have ev := RDs.ints (intsOf_eq e1 ▸ a4)
        subst ev
        refine ⟨_, ns, rfl, SqL.of a3, h64, fun p c hp hcn => ⟨p, _, c, rfl, upd_same, by omega, fun ms p2 hs hm hl hp2 => ?_⟩⟩
        have sm1 := same_upd (o := SetO X.w p (fun j => decide (j ∈ ns)) c) hp
        have sm2 := same_upd (o := HO.lst (ms.map V.int)) hp2
        have eq : ms = sortI (dedI ns) := by
          refine sortI_unique ((List.perm_ext_iff_of_nodup (hs.imp fun h => Int.ne_of_lt h) (dedI_nd ns)).mpr fun j => ?_) (hs.imp Int.le_of_lt)
          rw [hm j, dedI_mem]
          exact decide_eq_true_iff
        have S2 := S1.same sm1
        have q2 := q (.ref p2) (upd (upd H1 p (SetO X.w p (fun j => decide (j ∈ ns)) c)) p2 (.lst (ms.map V.int))) m1 ((g1.trans (Lf.of_same sm1)).trans (Lf.of_same sm2)) (S2.same sm2)
        rw [eq] at q2 ⊢
        exact q2 (RD.new_lst (ints_rd _) hp2 (S2.fresh hp2).1 (S2.fresh hp2).2)
theorem chk_inv {o : Out Da} {Q : Da → Mem → Prop} {E : Exn → Mem → Prop} (h : (bnd o fun x mu => opt (chkI x) mu).wp Q E) : o.wp (fun z mu => ∃ i, z = .int i ∧ Q (.int i) mu) E := by
  refine wp_and (wp_bnd h) fun z mu q => ?_
  obtain ⟨d, e, q⟩ := wp_opt q
  cases z with
  | int i => cases e; exact ⟨i, rfl, q⟩
  | _ => cases e
theorem ints_snoc {ns : List Int} {i : Int} {ys : List Da} : ns.map Da.int ++ Da.int i :: ys = (ns ++ [i]).map Da.int ++ ys := by
  rw [List.map_append, List.append_assoc]
  rfl
theorem dk_le {it : EvI} {bd : Da → Ev → Option Ev} {vs : List Nat} {e : EvD} {b : Da} {σ : L2.St} {H : Hp} {Q : VK} (h : TEx G W (eDk it vs bd e) σ H Q) : tDc (TIx G W it) (TGx G vs bd) (TTx G WF tT) (TEx G WF e) (TEx G WF (eK (.bl true))) vs σ H fun x H1 => ∃ (a : Addr) (kvs : List (Key × V)), [x] = [V.ref a] ∧ Rd H1 a (.dK kvs) ∧ ∀ p, H1 p = none → Q (.ref p) (upd H1 p (.lst (kvs.map fun kv => kV kv.1))) := by
  obtain ⟨rho, mu, m, Own, S, h⟩ := h.un
  have h : (eCmp it vs bd tT (e1 chkI e) rho mu).wp _ _ := wp_bnd h
  refine ⟨rho, mu, m, Own, S, wp_and (wp_bnd h) fun items mu1 h1 J H1 m1 g1 S1 wk => ?_⟩
  by_cases hlen : items.length < sizeLine
  · rw [if_pos hlen] at h1
    have h1 := wp_bnd h1
    intro D hD
    have ns := S1.noslot hD
    obtain ⟨S2, le2⟩ := S1.bar1 (o := .dK []) hD
    refine ⟨fun i k H' => k = items.length - i ∧ i ≤ items.length ∧ ∃ mu' m' js kvs, Le m1 (G.bar Own) H1 m' (G.bar (fun a => Own a ∨ a = D)) H' ∧ Lf m1 H1 m' H' ∧ StR G rho mu' σ H' m' (fun a => Own a ∨ a = D) ∧ H' D = some (.dK kvs) ∧ kvs.map (·.1) = (dedI js).map Sum.inl ∧ js.length ≤ i ∧
        (cLoop bd tT (e1 chkI e) (wipeE rho vs) (items.drop i) mu').wp (fun ys mu2 => (opt (dedD (.lst (js.map Da.int ++ ys))) mu2).wp (QE G rho σ Own m H Q) fun _ _ => False) (fun _ _ => False), ⟨items.length, by simp, Nat.zero_le _, mu1, m1, [], [], le2, Lf.of_same (same_upd hD), S2, upd_same, rfl, Nat.zero_le _, ?_⟩, ?_⟩
    · rw [List.drop_zero]
      have cl : ∀ (xs : List Da) (u : Mem), (∃ x v, cLoop bd tT (e1 chkI e) (wipeE rho vs) xs u = .exc x v) → False := by
        intro xs
        induction xs with
        | nil => rintro u ⟨x, v, e⟩; cases e
        | cons y ys ih =>
          rintro u ⟨x, v, q⟩
          unfold cLoop at q
          cases eb : bd y (wipeE rho vs) with
          | none => rw [eb] at q; cases q
          | some r1 =>
            rw [eb] at q
            simp only [tT, noX, bnd, if_true] at q
            cases ee : e1 chkI e r1 u with
            | ok z u2 =>
              rw [ee] at q
              dsimp only at q
              cases ec : cLoop bd tT (e1 chkI e) (wipeE rho vs) ys u2 with
              | ok zs u3 => rw [ec] at q; cases q
              | exc x' u3 => exact ih u2 ⟨x', u3, ec⟩
              | bad => rw [ec] at q; cases q
            | exc x' u2 => rw [ee] at q; cases q
            | bad => rw [ee] at q; cases q
      cases ec : cLoop bd tT (e1 chkI e) (wipeE rho vs) items mu1 with
      | ok zs u3 =>
        rw [ec] at h1
        have h2 : (opt (dedD (.lst zs)) u3).wp (QE G rho σ Own m H Q) _ := h1
        obtain ⟨d, e1, e2⟩ := wp_opt h2
        show (opt (dedD (.lst zs)) u3).wp _ _
        rw [e1]
        exact e2
      | exc x' u3 => exact cl _ _ ⟨x', u3, ec⟩
      | bad => rw [ec] at h1; exact h1
    · rintro i k H2 ⟨rfl, hi2, mu2, m2, js, kvs, g2, l2, S2, hDv, ek, hal, hw⟩
      obtain ⟨w1, w2⟩ := wk m2 _ H2 g2 fun p hp => S2.fresh hp
      by_cases hlt : i < items.length
      · have ed : items[i]? = some items[i] := List.getElem?_eq_getElem hlt
        rw [List.drop_eq_getElem_cons hlt] at hw
        unfold cLoop at hw
        obtain ⟨k1, k2⟩ := w1 i _ ed
        refine .inr ⟨k1, fun H' => i + 1 ≤ items.length ∧ ∃ mu' m' js kvs, Le m1 (G.bar Own) H1 m' (G.bar (fun a => Own a ∨ a = D)) H' ∧ Lf m1 H1 m' H' ∧ StR G rho mu' σ H' m' (fun a => Own a ∨ a = D) ∧ H' D = some (.dK kvs) ∧ kvs.map (·.1) = (dedI js).map Sum.inl ∧ js.length ≤ i + 1 ∧
          (cLoop bd tT (e1 chkI e) (wipeE rho vs) (items.drop (i + 1)) mu').wp (fun ys mu2 => (opt (dedD (.lst (js.map Da.int ++ ys))) mu2).wp (QE G rho σ Own m H Q) fun _ _ => False) (fun _ _ => False), fun H' z => ⟨items.length - (i + 1), by omega, rfl, z⟩, fun x H3 y => ?_⟩
        obtain ⟨sm, rx⟩ := k2 x H3 y
        cases eb : bd items[i] (wipeE rho vs) with
        | none => rw [eb] at hw; exact hw.elim
        | some rho3 =>
          rw [eb] at hw
          dsimp only at hw
          have S3 := S2.same sm
          refine ⟨items[i], wipeE rho vs, rho3, mu2, m2, (fun a => Own a ∨ a = D), S3.wipe _, rx, eb, fun σ4 S4 ew => ⟨ew.trans (wipe_idem _ _), ?_⟩⟩
          refine TTx.to S4 (wp_noX (E' := ES G WF rho3 σ4 (fun a => Own a ∨ a = D) m2 H3) (wp_bnd hw)) fun b mu5 H5 m5 h5 g5 S5 => ?_
          have lf3 : Lf m2 H2 m5 H5 := (Lf.of_same sm).trans g5
          have nD : D ∉ m2 := fun z => S2.wd.dis D z (.inr (.inr rfl))
          have S5' := (S2.call lf3 S5.wd)
          have hD5 : H5 D = some (.dK kvs) := lf3.keep D _ hDv nD id
          cases b with
          | false =>
            have h5' : (cLoop bd tT (e1 chkI e) (wipeE rho vs) (items.drop (i + 1)) mu5).wp _ _ := h5
            exact ⟨hlt, mu5, m5, js, kvs, g2.trans (lf3.le _), l2.trans lf3, S5', hD5, ek, Nat.le_succ_of_le hal, h5'⟩
          | true =>
            simp only [if_true] at h5
            refine TEx.to S5 (chk_inv (wp_noX (E' := ES G WF rho3 σ4 (fun a => Own a ∨ a = D) m5 H5) (wp_bnd h5))) fun z mu6 v H6 m6 h6 g6 S6 r6 => ?_
            obtain ⟨n, rfl, h6⟩ := h6
            refine TEx.to (A := fun z mu => z = .bl true ∧ mu = mu6) S6 ⟨rfl, rfl⟩ fun z7 mu7 v7 H7 m7 h7 g7 S7 r7 => ?_
            obtain ⟨rfl, rfl⟩ := h7
            have lf7 : Lf m2 H2 m7 H7 := (lf3.trans g6).trans g7
            have S7' := (S2.call lf7 S7.wd)
            have hD7 : H7 D = some (.dK kvs) := lf7.keep D _ hDv nD id
            obtain ⟨S8, le8⟩ := S7'.write (.dK (putK kvs (Sum.inl n) v7)) (.inr rfl) ns
            have ln : kvs.length ≤ js.length := by
              have q := congrArg List.length ek
              rw [List.length_map, List.length_map] at q
              have := dedI_len js
              omega
            cases r6
            refine ⟨kvs, Sum.inl n, rfl, hD7, by omega, hlt, mu7, m7, js ++ [n], putK kvs (Sum.inl n) v7, g2.trans ((lf7.le _).trans le8), ?_, S8, upd_same, by rw [dedI_snoc]; exact putI ek, by rw [List.length_append, List.length_singleton]; omega, ?_⟩
            · refine ⟨(l2.trans lf7).pre, fun a u e n1 n2 => ?_, fun a e => (l2.trans lf7).dom a (le8.dom a e), fun a z => z.elim⟩
              rw [upd_ne (fun (q : a = D) => by rw [q, hD] at e; cases e)]
              exact (l2.trans lf7).keep a u e n1 n2
            · refine wp_and (wp_bnd h6) fun ys mu8 h8 => ?_
              rw [← ints_snoc]
              exact h8
      · have ei : i = items.length := Nat.le_antisymm hi2 (Nat.not_lt.mp hlt)
        rw [List.drop_eq_nil_of_le (Nat.not_lt.mp hlt)] at hw
        refine .inl ⟨by rw [ei]; exact w2, D, kvs, rfl, .of hDv, fun p hp => ?_⟩
        have hw' : (opt (dedD (.lst (js.map Da.int ++ []))) mu2).wp (QE G rho σ Own m H Q) fun _ _ => False := hw
        rw [List.append_nil] at hw'
        rw [show dedD (.lst (js.map Da.int)) = some (.lst ((dedI js).map Da.int)) by
          show (intsOf (js.map Da.int)).map _ = _
          rw [intsOf_map]
          rfl] at hw'
        have q : QE G rho σ Own m H Q (.lst ((dedI js).map Da.int)) mu2 := hw'
        have Sf := S2.unbar ns
        have sm := same_upd (o := HO.lst (kvs.map fun kv => kV kv.1)) hp
        have ev : (kvs.map fun kv => kV kv.1) = (dedI js).map V.int := by
          have z := congrArg (List.map kV) ek
          rw [List.map_map, List.map_map] at z
          exact z
        rw [ev] at sm ⊢
        exact q (.ref p) _ m2 ((g1.trans l2).trans (Lf.of_same sm)) (Sf.same sm) (RD.new_lst (ints_rd _) hp (Sf.fresh hp).1 (Sf.fresh hp).2)
  · rw [if_neg hlen] at h1
    exact h1.elim
theorem c_dkeys {p : Pos} {kx tg iter : Expr} {scope : Scope} {own : List (Str × Nat)} {it : EvI} {bd : Da → Ev → Option Ev} {e : EvD} {j : Nat} {p3 : Pos} (hm : X.mg "list" = none) (hN : X.N.Nodup) (hi : PI X tg iter (TIx G W it)) (ok : BlkOk X.N X.env.scope scope own)
    (hg : ∀ (s : Shared) (H : Hp) (C : Addr) (cl : List (Str × Addr)) (fp : List Addr), PG (X.blk s H scope (compEnvC scope cl C X.env) fp) tg (TGx G (own.map (·.2)) bd)) (hk : ∀ (s : Shared) (H : Hp) (C : Addr) (cl : List (Str × Addr)) (fp : List Addr), PE (X.blk s H scope (compEnvC scope cl C X.env) fp) kx (TEx G WF e))
    (hgl : Gl X "list" := by rfl) (hc : X.calm = true := by rfl) (hs : ∀ x, foldedSetIterable iter X.env x = pure x := by intro _; rfl)
    (nb : starEach [.DictComp kx (.Constant (.bool true) j p3) [⟨tg, iter, [], 0⟩] scope pos'] X.env = (false, eval (.DictComp kx (.Constant (.bool true) j p3) [⟨tg, iter, [], 0⟩] scope pos') X.env) :: starEach [] X.env := by rfl) (npl : (backTo pos (starEach [] X.env)).any (·.1) = false := by rfl) :
    PE X (.Call (.Name "list" p) [.DictComp kx (.Constant (.bool true) j p3) [⟨tg, iter, [], 0⟩] scope pos'] [] pos) (TEx G W (eDk it (own.map (·.2)) bd e)) :=
  PEw (pe_callTy (call_listD hc) hgl hm rfl (pa_cons (pe_dc hc hN hi ok hg (fun _ _ _ _ _ => ts_nil) hk (fun _ _ _ _ _ => c_bl) hs) pa_nil nb) (by decide) (by decide) nb npl) fun σ H Q h => dk_le (b := .non) h
/-- f() -/
theorem c_f0 {x : Str} {lv k : Nat} {st : Stmt} {ps : List Str} {fn : Fn} {p : Pos} (F : Df X.prog X.w X.K X.mg X.base k x st ps fn) (hb : BindOk x st ps) (hK : G.K = X.K) (hr : Rm lv X.A) (tk : Takes X W) (hlv : k ≤ lv := by decide) (hg : Gl X x := by rfl) (hdb : (x == ("__debug__" : Str)) = false := by decide) :
    PE X (.Call (.Name x p) [] [] pos) (TEx G W (eC fn aN)) := by
  obtain ⟨fd, F1, F2⟩ := F.ex
  exact c_call0 hK F2 (hr.mono hlv) F.mg F1.kp (F1.bindsN hb) tk hg hdb
end
end Sk

/-! ### the mirrors -/
namespace Sk
/-- names: 0 _law_script -/
@[irreducible] def m_law_begin : Fn := fnD 1 0
 (sRet (eDisp ["cells", "at", "left", "used"] (aC (eScr (eV 0) (eLst (aC (eK (.int 0)) aN))) (aC (eK (.int 0)) (aC (eK (.int 0)) (aC (eK (.int 0)) aN))))))
/-- names: 0 thing -/
@[irreducible] def m_is_integer : Fn := fnD 1 0
 (sRet (eAnd (e1 (isiB "int") (eV 0)) (eNot (e1 (isiB "bool") (eV 0)))))
/-- names: 0 thing, 1 least, 2 most -/
@[irreducible] def m_is_whole : Fn := fnD 3 0
 (sRet (eAnd (eC m_is_integer (aC (eV 0) aN)) (eCh leD leD (eV 1) (eV 0) (eV 2))))
/-- names: 0 thing, 1 number, 2 clock, 3 mark, 4 strokes -/
@[irreducible] def m_book_fault : Fn := fnD 1 4
 (sSeq (sIf (tOr (tNot (tV (e1 (isiB "tuple") (eV 0)))) (tNot (tV (eCh leD leD (eK (.int 1)) (eB lenD (aC (eV 0) aN)) (eK (.int 3))))))
 (sRet (eTup aN))
 sNx)
 (sSeq (sFor (iEnum (aC (eV 0) aN)) (bTup [1, 2])
 (sSeq (sIf (tOr (tNot (tV (e1 (isiB "tuple") (eV 2)))) (tNot (tV (eCh leD leD (eK (.int 1)) (eB lenD (aC (eV 2) aN)) (eK (.int 24))))))
 (sRet (eTup (aC (eV 1) aN)))
 sNx)
 (sFor (iEnum (aC (eV 2) aN)) (bTup [3, 4])
 (sIf (tNot (tV (eC m_is_whole (aC (eV 4) (aC (eK (.int 0)) (aC (eK (.int 99)) aN))))))
 (sRet (eTup (aC (eV 1) (aC (eV 3) aN))))
 sNx))))
 (sRet (eK .non))))
/-- names: 0 thing, 1 place -/
@[irreducible] def m_need_book : Fn := fnD 1 1
 (sSeq (sSet 1 (eC m_book_fault (aC (eV 0) aN)))
 (sSeq (sIf (tV (e2 notND (eV 1) (eK .non)))
 (fun _ _ => .bad)
 sNx)
 (sRet (eV 0))))
/-- names: 0 thing -/
@[irreducible] def m_need_loss : Fn := fnD 1 0
 (sSeq (sIf (tOr (tNot (tV (e1 (isiB "tuple") (eV 0)))) (tV (e2 neD (eB lenD (aC (eV 0) aN)) (eK (.int 2)))))
 (fun _ _ => .bad)
 sNx)
 (sSeq (sIf (tNot (tV (eC m_is_whole (aC (e2 ixD (eV 0) (eK (.int 0))) (aC (eK (.int 0)) (aC (eK (.int 1000000000000000000000000000000)) aN))))))
 (fun _ _ => .bad)
 sNx)
 (sSeq (sIf (tNot (tV (eC m_is_whole (aC (e2 ixD (eV 0) (eK (.int 1))) (aC (eK (.int 0)) (aC (eK (.int 1000000000000000000000000000000)) aN))))))
 (fun _ _ => .bad)
 sNx)
 (sRet (eV 0)))))
/-- names: 0 thing, 1 number, 2 count -/
@[irreducible] def m_heard_fault : Fn := fnD 1 2
 (sSeq (sIf (tOr (tNot (tV (e1 (isiB "tuple") (eV 0)))) (tV (e2 gtD (eB lenD (aC (eV 0) aN)) (eK (.int 1000)))))
 (sRet (eLst (aC (eK .non) aN)))
 sNx)
 (sSeq (sFor (iEnum (aC (eV 0) aN)) (bTup [1, 2])
 (sIf (tNot (tV (eC m_is_whole (aC (eV 2) (aC (eK (.int 0)) (aC (eK (.int 1000000000000000000000000000000)) aN))))))
 (sRet (eLst (aC (eV 1) aN)))
 sNx))
 (sRet (eLst aN))))
/-- names: 0 thing, 1 number -/
@[irreducible] def m_need_heard : Fn := fnD 1 1
 (sSeq (sFor (iSeq (eC m_heard_fault (aC (eV 0) aN))) (bName 1)
 (fun _ _ => .bad))
 (sRet (eV 0)))
/-- names: 0 book, 1 loss, 2 heard -/
@[irreducible] def m_need_all : Fn := fnD 3 0
 (sSeq (sDo (eC m_need_book (aC (eV 0) aN)))
 (sSeq (sDo (eC m_need_loss (aC (eV 1) aN)))
 (sDo (eC m_need_heard (aC (eV 2) aN)))))
/-- names: 0 book, 1 mark, 2 number, 3 clock -/
@[irreducible] def m_all_starts : Fn := fnD 1 3
 (sRet (eCmp2 (iEnum (aC (eV 0) aN)) [2, 3, 1] (bTup [2, 3]) (iRng1 (aC (eB lenD (aC (eV 3) aN)) aN)) [1] (bName 1) (eTup (aC (eV 2) (aC (eV 1) aN)))))
/-- names: 0 book, 1 start, 2 later, 3 clock -/
@[irreducible] def m_struck : Fn := fnD 3 1
 (sSeq (sSet 3 (e2 ixD (eV 0) (e2 ixD (eV 1) (eK (.int 0)))))
 (sRet (e2 ixD (eV 3) (e2 modD (eB intD (aC (e2 addD (e2 ixD (eV 1) (eK (.int 1))) (eV 2)) aN)) (eB lenD (aC (eV 3) aN))))))
/-- names: 0 book, 1 start, 2 heard, 3 lost, 4 added, 5 later, 6 count, 7 strokes -/
@[irreducible] def m_missed_in : Fn := fnD 3 5
 (sSeq (sPar [3, 4] (pC (eK (.int 0)) (pC (eK (.int 0)) pN)))
 (sSeq (sFor (iEnum (aC (eV 2) aN)) (bTup [5, 6])
 (sSeq (sSet 7 (eC m_struck (aC (eV 0) (aC (eV 1) (aC (eV 5) aN)))))
 (sSeq (sAug 3 (· + ·) (eB max2D (aC (eK (.int 0)) (aC (e2 subD (eV 7) (eV 6)) aN))))
 (sAug 4 (· + ·) (eB max2D (aC (eK (.int 0)) (aC (e2 subD (eV 6) (eV 7)) aN)))))))
 (sRet (eTup (aC (eV 3) (aC (eV 4) aN))))))
/-- names: 0 book, 1 loss, 2 start, 3 heard, 4 lost, 5 added -/
@[irreducible] def m_fits : Fn := fnD 4 2
 (sSeq (sUnp (bTup [4, 5]) (eC m_missed_in (aC (eV 0) (aC (eV 2) (aC (eV 3) aN)))))
 (sRet (eAnd (e2 leD (eV 4) (e2 ixD (eV 1) (eK (.int 0)))) (e2 leD (eV 5) (e2 ixD (eV 1) (eK (.int 1)))))))
/-- names: 0 book, 1 loss, 2 heard, 3 start -/
@[irreducible] def m_fitting_in : Fn := fnD 3 1
 (sRet (eCmp (iSeq (eC m_all_starts (aC (eV 0) aN))) [3] (bName 3) (tV (eC m_fits (aC (eV 0) (aC (eV 1) (aC (eV 3) (aC (eV 2) aN)))))) (eV 3)))
/-- names: 0 book, 1 loss, 2 heard -/
@[irreducible] def m_fitting : Fn := fnD 3 0
 (sSeq (sDo (eC m_need_all (aC (eV 0) (aC (eV 1) (aC (eV 2) aN)))))
 (sRet (eB tupD (aC (eC m_fitting_in (aC (eV 0) (aC (eV 1) (aC (eV 2) aN)))) aN))))
/-- names: 0 book, 1 one, 2 other, 3 found, 4 mine, 5 yours -/
@[irreducible] def m_common_round : Fn := fnD 3 3
 (sSeq (sPar [4, 5] (pC (eB lenD (aC (e2 ixD (eV 0) (e2 ixD (eV 1) (eK (.int 0)))) aN)) (pC (eB lenD (aC (e2 ixD (eV 0) (e2 ixD (eV 2) (eK (.int 0)))) aN)) pN)))
 (sSeq (sSet 3 (eV 4))
 (sSeq (sWhile (tV (e2 neD (e2 modD (eB intD (aC (eV 3) aN)) (eV 5)) (eK (.int 0))))
 (sAug 3 (· + ·) (eV 4)) 2000)
 (sRet (eV 3)))))
/-- names: 0 book, 1 one, 2 other, 3 many, 4 later -/
@[irreducible] def m_are_same_in : Fn := fnD 3 2
 (sSeq (sSet 3 (eC m_common_round (aC (eV 0) (aC (eV 1) (aC (eV 2) aN)))))
 (sRet (eB allD (aC (eCmp (iRng1 (aC (eV 3) aN)) [4] (bName 4) tT (e2 eqD (eC m_struck (aC (eV 0) (aC (eV 1) (aC (eV 4) aN)))) (eC m_struck (aC (eV 0) (aC (eV 2) (aC (eV 4) aN)))))) aN))))
/-- names: 0 book, 1 starts, 2 other -/
@[irreducible] def m_are_sure : Fn := fnD 2 1
 (sRet (eAnd (e2 neD (eV 1) (eLst aN)) (eB allD (aC (eCmp (iSeq (eSl (eV 1) (oS (eK (.int 1))) oN)) [2] (bName 2) tT (eC m_are_same_in (aC (eV 0) (aC (e2 ixD (eV 1) (eK (.int 0))) (aC (eV 2) aN))))) aN))))
/-- names: 0 book, 1 loss, 2 heard, 3 many -/
@[irreducible] def m_known_behind : Fn := fnD 3 1
 (sSeq (sDo (eC m_need_all (aC (eV 0) (aC (eV 1) (aC (eV 2) aN)))))
 (sSeq (sFor (iRng1 (aC (e2 addD (eB lenD (aC (eV 2) aN)) (eK (.int 1))) aN)) (bName 3)
 (sIf (tV (eC m_are_sure (aC (eV 0) (aC (eC m_fitting_in (aC (eV 0) (aC (eV 1) (aC (eSl (eV 2) oN (oS (eV 3))) aN)))) aN))))
 (sRet (eV 3))
 sNx))
 (sRet (eK .non))))
/-- names: 0 book, 1 thing -/
@[irreducible] def m_is_start : Fn := fnD 2 0
 (sSeq (sIf (tOr (tNot (tV (e1 (isiB "tuple") (eV 1)))) (tOr (tV (e2 neD (eB lenD (aC (eV 1) aN)) (eK (.int 2)))) (tNot (tV (eC m_is_whole (aC (e2 ixD (eV 1) (eK (.int 0))) (aC (eK (.int 0)) (aC (e2 subD (eB lenD (aC (eV 0) aN)) (eK (.int 1))) aN))))))))
 (sRet (eK (.bl false)))
 sNx)
 (sRet (eC m_is_whole (aC (e2 ixD (eV 1) (eK (.int 1))) (aC (eK (.int 0)) (aC (e2 subD (eB lenD (aC (e2 ixD (eV 0) (e2 ixD (eV 1) (eK (.int 0)))) aN)) (eK (.int 1))) aN))))))
/-- names: 0 book, 1 thing -/
@[irreducible] def m_need_start : Fn := fnD 2 0
 (sSeq (sIf (tNot (tV (eC m_is_start (aC (eV 0) (aC (eV 1) aN)))))
 (fun _ _ => .bad)
 sNx)
 (sRet (eV 1)))
/-- names: 0 book, 1 start, 2 heard -/
@[irreducible] def m_missed : Fn := fnD 3 0
 (sSeq (sDo (eC m_need_book (aC (eV 0) aN)))
 (sSeq (sDo (eC m_need_start (aC (eV 0) (aC (eV 1) aN))))
 (sRet (eC m_missed_in (aC (eV 0) (aC (eV 1) (aC (eC m_need_heard (aC (eV 2) aN)) aN)))))))
/-- names: 0 _law_shelf, 1 _law_told, 2 _law_some, 3 _law_one -/
@[irreducible] def m_law_long_right : Fn := fnD 0 4
 (sSeq (sSet 0 (eTup (aC (eTup (aC (eK (.int 1)) aN)) (aC (eTup (aC (eK (.int 2)) aN)) aN))))
 (sSeq (sOwn 1 (aC (eC m_known_behind (aC (eTup (aC (eTup (aC (eK (.int 4)) (aC (eK (.int 4)) aN))) aN)) (aC (eTup (aC (eK (.int 0)) (aC (eK (.int 0)) aN))) (aC (eTup (aC (eK (.int 4)) (aC (eK (.int 9)) aN))) aN)))) (aC (eC m_known_behind (aC (eV 0) (aC (eTup (aC (eK (.int 149)) (aC (eK (.int 0)) aN))) (aC (e2 mulD (eTup (aC (eK (.int 1)) aN)) (eK (.int 160))) aN)))) aN)))
 (sSeq (sApp 1 (eC m_missed (aC (eTup (aC (eTup (aC (eK (.int 1)) aN)) aN)) (aC (eTup (aC (eK (.int 0)) (aC (eK (.int 0)) aN))) (aC (e2 mulD (eTup (aC (eK (.int 3)) aN)) (eK (.int 300))) aN)))))
 (sSeq (sSet 2 (eCmp (iSeq (eTup (aC (eK (.int 1)) (aC (eK (.int 2)) aN)))) [3] (bName 3) tT (eC m_fitting (aC (eV 0) (aC (eTup (aC (eK (.int 0)) (aC (eK (.int 0)) aN))) (aC (e2 addD (e2 mulD (eTup (aC (eK (.int 1)) aN)) (eK (.int 999))) (eTup (aC (eV 3) aN))) aN))))))
 (sFrz 1 (sRet (eAnd (e2 eqD (eV 1) (eLst (aC (eK (.int 0)) (aC (eK (.int 150)) (aC (eTup (aC (eK (.int 0)) (aC (eK (.int 600)) aN))) aN))))) (e2 eqD (eV 2) (eLst (aC (eTup (aC (eTup (aC (eK (.int 0)) (aC (eK (.int 0)) aN))) aN)) (aC (eTup aN) aN)))))))))))
/-- names: 0 _law_draw, 1 _law_many, 2 _law_cells, 3 _law_cell, 4 _law_number, 5 _law_k -/
@[irreducible] def m_law_next : Fn := fnD 2 4
 (sSeq (sIf (tV (e2 gtD (eDGet (eV 0) "left") (eK (.int 0))))
 (sSeq (sPD 3 (eV 0) "left" (eDGet (eV 0) "left") (e2 fdivD (eDGet (eV 0) "left") (eV 1)))
 (sRet (e2 modD (eV 3) (eV 1))))
 sNx)
 (sSeq (sSet 2 (eDGet (eV 0) "cells"))
 (sSeq (sSet 3 (e2 ixD (eV 2) (e2 modD (eDGet (eV 0) "at") (eB lenD (aC (eV 2) aN)))))
 (sSeq (sDSet (eV 0) "at" (e2 addD (eDGet (eV 0) "at") (eK (.int 1))))
 (sSeq (sIf (tAnd (tV (e2 geD (eV 3) (e2 powD (eK (.int 10)) (eK (.int 18))))) (tV (e2 leD (eDGet (eV 0) "at") (eB lenD (aC (eV 2) aN)))))
 (sSeq (sDSet (eV 0) "left" (e2 fdivD (eV 3) (eV 1)))
 (sRet (e2 modD (eV 3) (eV 1))))
 sNx)
 (sSeq (sDSet (eV 0) "used" (e2 addD (eDGet (eV 0) "used") (eK (.int 1))))
 (sSeq (sSet 4 (e2 addD (e2 modD (eV 3) (eK (.int 1000000007))) (e2 mulD (e2 mulD (eK (.int 7919)) (eDGet (eV 0) "used")) (eDGet (eV 0) "used"))))
 (sSeq (sFor (iSeq (eTup (aC (eDGet (eV 0) "at") (aC (eDGet (eV 0) "used") aN)))) (bName 5)
 (sSeq (sSet 4 (e2 modD (e2 mulD (e2 addD (e2 addD (eV 4) (e2 mulD (eK (.int 31)) (eV 5))) (eK (.int 7))) (eK (.int 48271))) (eK (.int 2147483647))))
 (sSet 4 (e2 modD (e2 mulD (eV 4) (e2 addD (eK (.int 69621)) (e2 mulD (eK (.int 2)) (e2 modD (eV 5) (eK (.int 1000)))))) (eK (.int 2147483629))))))
 (sRet (e2 modD (e2 fdivD (eV 4) (eK (.int 7))) (eV 1)))))))))))
/-- names: 0 _law_draw, 1 _law_some -/
@[irreducible] def m_law_pick : Fn := fnD 2 0
 (sRet (e2 ixD (eV 1) (eC m_law_next (aC (eV 0) (aC (eB lenD (aC (eV 1) aN)) aN)))))
/-- names: 0 _law_draw, 1 _law_size, 2 _law_long, 3 _law_way, 4 _law_found, 5 _law_k, 6 _law_part, 7 _law_some -/
@[irreducible] def m_law_clock : Fn := fnD 2 6
 (sSeq (sSet 2 (e2 addD (eK (.int 1)) (eC m_law_next (aC (eV 0) (aC (eV 1) aN)))))
 (sSeq (sSet 3 (eC m_law_next (aC (eV 0) (aC (eK (.int 6)) aN))))
 (sSeq (sIf (tV (e2 eqD (eV 3) (eK (.int 0))))
 (sRet (eRngT2 (eK (.int 1)) (e2 addD (eV 2) (eK (.int 1)))))
 sNx)
 (sSeq (sIf (tV (e2 eqD (eV 3) (eK (.int 1))))
 (sSeq (sSet 6 (eB tupD (aC (eCmp (iRng1 (aC (e2 addD (eK (.int 1)) (eC m_law_next (aC (eV 0) (aC (eK (.int 3)) aN)))) aN)) [5] (bName 5) tT (eC m_law_next (aC (eV 0) (aC (eK (.int 3)) aN)))) aN)))
 (sRet (eSl (e2 mulD (eV 6) (eK (.int 24))) oN (oS (e2 mulD (eB max2D (aC (eK (.int 1)) (aC (e2 fdivD (eV 2) (eB lenD (aC (eV 6) aN))) aN))) (eB lenD (aC (eV 6) aN)))))))
 sNx)
 (sSeq (sIf (tV (e2 eqD (eV 3) (eK (.int 2))))
 (sRet (eB tupD (aC (eCmp (iRng1 (aC (eV 2) aN)) [5] (bName 5) tT (e2 addD (e2 mulD (e2 modD (eB intD (aC (e2 addD (eV 5) (eK (.int 1))) aN)) (eK (.int 2))) (e2 addD (eK (.int 1)) (e2 fdivD (eV 5) (eK (.int 2))))) (e2 modD (eB intD (aC (eV 5) aN)) (eK (.int 2))))) aN)))
 sNx)
 (sSeq (sSet 4 (eTup aN))
 (sSeq (sFor (iRng1 (aC (eV 2) aN)) (bName 5)
 (sSeq (sSet 7 (eLst (aC (eK (.int 0)) (aC (eK (.int 1)) (aC (eK (.int 2)) (aC (eK (.int 3)) (aC (e2 addD (eK (.int 1)) (eC m_law_next (aC (eV 0) (aC (eK (.int 12)) aN)))) (aC (eC m_law_next (aC (eV 0) (aC (eK (.int 100)) aN))) aN))))))))
 (sSet 4 (e2 addD (eV 4) (eTup (aC (eC m_law_pick (aC (eV 0) (aC (eV 7) aN))) aN))))))
 (sRet (eV 4)))))))))
/-- names: 0 _law_draw, 1 _law_size, 2 _law_found, 3 _law_k, 4 _law_turned, 5 _law_clock_here, 6 _law_mark, 7 _law_way -/
@[irreducible] def m_law_book : Fn := fnD 2 6
 (sSeq (sOwn 2 (aC (eC m_law_clock (aC (eV 0) (aC (eV 1) aN))) aN))
 (sSeq (sFor (iRng1 (aC (eC m_law_next (aC (eV 0) (aC (eK (.int 3)) aN))) aN)) (bName 3)
 (sSeq (sPar [5, 6] (pC (eIxO 2 (eC m_law_next (aC (eV 0) (aC (eLenO 2) aN)))) (pC (eC m_law_next (aC (eV 0) (aC (eV 1) aN))) pN)))
 (sSeq (sPar [7, 6] (pC (eC m_law_next (aC (eV 0) (aC (eK (.int 5)) aN))) (pC (e2 modD (eB intD (aC (eV 6) aN)) (eB lenD (aC (eV 5) aN))) pN)))
 (sSeq (sSet 4 (e2 addD (eSl (eV 5) (oS (eV 6)) oN) (eSl (eV 5) oN (oS (eV 6)))))
 (sIf (tV (e2 eqD (eV 7) (eK (.int 0))))
 (sApp 2 (eV 4))
 (sIf (tAnd (tV (e2 eqD (eV 7) (eK (.int 1)))) (tV (e2 ltD (eB lenD (aC (eV 5) aN)) (eK (.int 13)))))
 (sApp 2 (e2 addD (eV 4) (eV 4)))
 (sIf (tV (e2 eqD (eV 7) (eK (.int 2))))
 (sApp 2 (e2 addD (eSl (eV 4) oN (oS (e1 negD (eK (.int 1))))) (eTup (aC (eC m_law_next (aC (eV 0) (aC (eK (.int 100)) aN))) aN))))
 (sApp 2 (eC m_law_clock (aC (eV 0) (aC (eV 1) aN)))))))))))
 (sFrz 2 (sRet (eB tupD (aC (eV 2) aN))))))
/-- names: 0 _law_draw, 1 _law_some -/
@[irreducible] def m_law_loss : Fn := fnD 1 1
 (sSeq (sSet 1 (eLst (aC (eK (.int 0)) (aC (eK (.int 0)) (aC (eK (.int 1)) (aC (eK (.int 2)) (aC (eK (.int 5)) (aC (eC m_law_next (aC (eV 0) (aC (eK (.int 30)) aN))) (aC (eC m_law_next (aC (eV 0) (aC (eK (.int 200)) aN))) aN)))))))))
 (sRet (eTup (aC (eC m_law_pick (aC (eV 0) (aC (eV 1) aN))) (aC (eC m_law_pick (aC (eV 0) (aC (eV 1) aN))) aN)))))
/-- names: 0 _law_shelf, 1 _law_begin_so, 2 _law_later, 3 _law_clock_here -/
@[irreducible] def m_law_strokes : Fn := fnD 3 1
 (sSeq (sSet 3 (e2 ixD (eV 0) (e2 ixD (eV 1) (eK (.int 0)))))
 (sRet (e2 ixD (eV 3) (e2 modD (eB intD (aC (e2 addD (e2 ixD (eV 1) (eK (.int 1))) (eV 2)) aN)) (eB lenD (aC (eV 3) aN))))))
/-- names: 0 _law_shelf, 1 _law_found, 2 _law_k, 3 _law_mark -/
@[irreducible] def m_law_starts : Fn := fnD 1 3
 (sSeq (sSet 1 (eLst aN))
 (sSeq (sFor (iRng1 (aC (eB lenD (aC (eV 0) aN)) aN)) (bName 2)
 (sSet 1 (e2 addD (eV 1) (eCmp (iRng1 (aC (eB lenD (aC (e2 ixD (eV 0) (eV 2)) aN)) aN)) [3] (bName 3) tT (eTup (aC (eV 2) (aC (eV 3) aN)))))))
 (sRet (eV 1))))
/-- names: 0 _law_draw, 1 _law_shelf, 2 _law_many, 3 _law_k, 4 _law_begin_so, 5 _law_found, 6 _law_strokes_here, 7 _law_more -/
@[irreducible] def m_law_row : Fn := fnD 3 5
 (sSeq (sPar [4, 5] (pC (eC m_law_pick (aC (eV 0) (aC (eC m_law_starts (aC (eV 1) aN)) aN))) (pO aN pN)))
 (sSeq (sFor (iRng1 (aC (eV 2) aN)) (bName 3)
 (sSeq (sSet 6 (eC m_law_strokes (aC (eV 1) (aC (eV 4) (aC (eV 3) aN)))))
 (sSeq (sSet 7 (eC m_law_pick (aC (eV 0) (aC (eLst (aC (eK (.int 0)) (aC (eK (.int 0)) (aC (eK (.int 0)) (aC (e1 negD (eK (.int 1))) (aC (eK (.int 1)) (aC (e1 negD (eK (.int 2))) (aC (e2 subD (eK (.int 0)) (eV 6)) (aC (eC m_law_next (aC (eV 0) (aC (eK (.int 30)) aN))) aN))))))))) aN))))
 (sApp 5 (eB max2D (aC (eK (.int 0)) (aC (e2 addD (eV 6) (eV 7)) aN)))))))
 (sFrz 5 (sRet (eB tupD (aC (eV 5) aN))))))
/-- names: 0 _law_shelf, 1 _law_begin_so, 2 _law_row_here, 3 _law_lost, 4 _law_added, 5 _law_k, 6 _law_count, 7 _law_strokes_here -/
@[irreducible] def m_law_gone : Fn := fnD 3 5
 (sSeq (sPar [3, 4] (pC (eK (.int 0)) (pC (eK (.int 0)) pN)))
 (sSeq (sFor (iEnum (aC (eV 2) aN)) (bTup [5, 6])
 (sSeq (sSet 7 (eC m_law_strokes (aC (eV 0) (aC (eV 1) (aC (eV 5) aN)))))
 (sPar [3, 4] (pC (e2 addD (eV 3) (eB max2D (aC (eK (.int 0)) (aC (e2 subD (eV 7) (eV 6)) aN)))) (pC (e2 addD (eV 4) (eB max2D (aC (eK (.int 0)) (aC (e2 subD (eV 6) (eV 7)) aN)))) pN)))))
 (sRet (eTup (aC (eV 3) (aC (eV 4) aN))))))
/-- names: 0 _law_shelf, 1 _law_slack, 2 _law_row_here, 3 _law_found, 4 _law_begin_so, 5 _law_lost, 6 _law_added -/
@[irreducible] def m_law_fits : Fn := fnD 3 4
 (sSeq (sOwn 3 aN)
 (sSeq (sFor (iSeq (eC m_law_starts (aC (eV 0) aN))) (bName 4)
 (sSeq (sUnp (bTup [5, 6]) (eC m_law_gone (aC (eV 0) (aC (eV 4) (aC (eV 2) aN)))))
 (sIf (tAnd (tV (e2 leD (eV 5) (e2 ixD (eV 1) (eK (.int 0))))) (tV (e2 leD (eV 6) (e2 ixD (eV 1) (eK (.int 1))))))
 (sApp 3 (eV 4))
 sNx)))
 (sFrz 3 (sRet (eV 3)))))
/-- names: 0 _law_shelf, 1 _law_one, 2 _law_other, 3 _law_k -/
@[irreducible] def m_law_same : Fn := fnD 3 1
 (sSeq (sFor (iRng1 (aC (e2 mulD (eB lenD (aC (e2 ixD (eV 0) (e2 ixD (eV 1) (eK (.int 0)))) aN)) (eB lenD (aC (e2 ixD (eV 0) (e2 ixD (eV 2) (eK (.int 0)))) aN))) aN)) (bName 3)
 (sIf (tV (e2 neD (eC m_law_strokes (aC (eV 0) (aC (eV 1) (aC (eV 3) aN)))) (eC m_law_strokes (aC (eV 0) (aC (eV 2) (aC (eV 3) aN))))))
 (sRet (eK (.bl false)))
 sNx))
 (sRet (eK (.bl true))))
/-- names: 0 _law_shelf, 1 _law_slack, 2 _law_row_here, 3 _law_many, 4 _law_some, 5 _law_unlike, 6 _law_other -/
@[irreducible] def m_law_known : Fn := fnD 3 4
 (sSeq (sFor (iRng1 (aC (e2 addD (eB lenD (aC (eV 2) aN)) (eK (.int 1))) aN)) (bName 3)
 (sSeq (sSet 4 (eC m_law_fits (aC (eV 0) (aC (eV 1) (aC (eSl (eV 2) oN (oS (eV 3))) aN)))))
 (sSeq (sSet 5 (eCmp (iSeq (eV 4)) [6] (bName 6) (tNot (tV (eC m_law_same (aC (eV 0) (aC (e2 ixD (eV 4) (eK (.int 0))) (aC (eV 6) aN)))))) (eV 6)))
 (sIf (tAnd (tV (e2 neD (eV 4) (eLst aN))) (tV (e2 eqD (eV 5) (eLst aN))))
 (sRet (eV 3))
 sNx))))
 (sRet (eK .non)))
/-- names: 0 book, 1 loss, 2 heard, 3 start -/
@[irreducible] def m_next_in : Fn := fnD 3 1
 (sRet (eB sortedD (aC (eDk (iSeq (eC m_fitting_in (aC (eV 0) (aC (eV 1) (aC (eV 2) aN))))) [3] (bName 3) (eC m_struck (aC (eV 0) (aC (eV 3) (aC (eB lenD (aC (eV 2) aN)) aN))))) aN)))
/-- names: 0 book, 1 loss, 2 heard -/
@[irreducible] def m_next_strokes : Fn := fnD 3 0
 (sSeq (sDo (eC m_need_all (aC (eV 0) (aC (eV 1) (aC (eV 2) aN)))))
 (sRet (eB tupD (aC (eC m_next_in (aC (eV 0) (aC (eV 1) (aC (eV 2) aN)))) aN))))
/-- names: 0 _law_script, 1 _law_draw, 2 _law_turn, 3 _law_halves, 4 _law_told, 5 _law_k, 6 _law_shelf, 7 _law_slack, 8 _law_row_here, 9 _law_begin_so, 10 _law_due, 11 _law_kept, 12 _law_some, 13 _law_one -/
@[irreducible] def m_law_f1 : StD :=
 (sSeq (sSet 8 (eC m_law_row (aC (eV 1) (aC (eV 6) (aC (eC m_law_next (aC (eV 1) (aC (eK (.int 11)) aN))) aN)))))
 (sSeq (sPar [11, 12] (pC (eB reprD (aC (eLst (aC (eV 6) (aC (eV 7) (aC (eV 8) aN)))) aN)) (pC (eC m_law_fits (aC (eV 6) (aC (eV 7) (aC (eV 8) aN)))) pN)))
 (sSeq (sSet 4 (eLst (aC (eC m_fitting (aC (eV 6) (aC (eV 7) (aC (eV 8) aN)))) (aC (eCK m_fitting [2, 1, 0] (aC (eV 8) (aC (eV 7) (aC (eV 6) aN)))) aN))))
 (sSeq (sIf (tV (e2 neD (eB reprD (aC (eV 4) aN)) (eB reprD (aC (e2 mulD (eLst (aC (eB tupD (aC (eV 12) aN)) aN)) (eK (.int 2))) aN))))
 (sRet (eK (.bl false)))
 sNx)
 (sSeq (sSet 9 (eC m_law_pick (aC (eV 1) (aC (eC m_law_starts (aC (eV 6) aN)) aN))))
 (sSeq (sSet 4 (eLst (aC (eC m_missed (aC (eV 6) (aC (eV 9) (aC (eV 8) aN)))) (aC (eCK m_missed [2, 1, 0] (aC (eV 8) (aC (eV 9) (aC (eV 6) aN)))) aN))))
 (sSeq (sIf (tV (e2 neD (eB reprD (aC (eV 4) aN)) (eB reprD (aC (e2 mulD (eLst (aC (eC m_law_gone (aC (eV 6) (aC (eV 9) (aC (eV 8) aN)))) aN)) (eK (.int 2))) aN))))
 (sRet (eK (.bl false)))
 sNx)
 (sSeq (sSet 10 (eC m_law_known (aC (eV 6) (aC (eV 7) (aC (eV 8) aN)))))
 (sSeq (sIf (tV (e2 neD (eB reprD (aC (e2 mulD (eLst (aC (eC m_known_behind (aC (eV 6) (aC (eV 7) (aC (eV 8) aN)))) aN)) (eK (.int 2))) aN)) (eB reprD (aC (eLst (aC (eV 10) (aC (eV 10) aN))) aN))))
 (sRet (eK (.bl false)))
 sNx)
 (sSeq (sSet 10 (eB tupD (aC (eB sorSetD (aC (eCmp (iSeq (eV 12)) [13] (bName 13) tT (eC m_law_strokes (aC (eV 6) (aC (eV 13) (aC (eB lenD (aC (eV 8) aN)) aN))))) aN)) aN)))
 (sSeq (sIf (tV (e2 neD (eB reprD (aC (e2 mulD (eLst (aC (eC m_next_strokes (aC (eV 6) (aC (eV 7) (aC (eV 8) aN)))) aN)) (eK (.int 2))) aN)) (eB reprD (aC (eLst (aC (eV 10) (aC (eV 10) aN))) aN))))
 (sRet (eK (.bl false)))
 sNx)
 (sIf (tV (e2 neD (eB reprD (aC (eLst (aC (eV 6) (aC (eV 7) (aC (eV 8) aN)))) aN)) (eV 11)))
 (sRet (eK (.bl false)))
 sNx))))))))))))
@[irreducible] def m_law_f2 : StD :=
 (sSeq (sPar [6, 7] (pC (eC m_law_book (aC (eV 1) (aC (eC m_law_pick (aC (eV 1) (aC (eLst (aC (eK (.int 3)) (aC (eK (.int 6)) (aC (eK (.int 12)) aN)))) aN))) aN))) (pC (eC m_law_loss (aC (eV 1) aN)) pN)))
 (sFor (iRng1 (aC (eK (.int 4)) aN)) (bName 5)
 m_law_f1))
@[irreducible] def m_law : Fn := fnD 1 13
 (sSeq (sSet 1 (eC m_law_begin (aC (eV 0) aN)))
 (sSeq (sFor (iRng1 (aC (eK (.int 6)) aN)) (bName 2)
 m_law_f2)
 (sSeq (sSet 3 (eTup (aC (eTup (aC (eK (.int 1)) (aC (eK (.int 1)) (aC (eK (.int 2)) (aC (eK (.int 1)) (aC (eK (.int 3)) (aC (eK (.int 1)) (aC (eK (.int 4)) (aC (eK (.int 1)) (aC (eK (.int 5)) (aC (eK (.int 1)) (aC (eK (.int 6)) (aC (eK (.int 1)) aN))))))))))))) aN)))
 (sSeq (sSet 4 (eLst (aC (eC m_fitting (aC (eV 3) (aC (eTup (aC (eK (.int 0)) (aC (eK (.int 0)) aN))) (aC (eTup (aC (eK (.int 1)) (aC (eK (.int 1)) aN))) aN)))) (aC (eC m_known_behind (aC (eV 3) (aC (eTup (aC (eK (.int 0)) (aC (eK (.int 0)) aN))) (aC (eTup (aC (eK (.int 1)) (aC (eK (.int 1)) (aC (eK (.int 1)) aN)))) aN)))) aN))))
 (sSeq (sSet 4 (e2 addD (eV 4) (eLst (aC (eC m_next_strokes (aC (eV 3) (aC (eTup (aC (eK (.int 0)) (aC (eK (.int 0)) aN))) (aC (eTup (aC (eK (.int 1)) aN)) aN)))) (aC (eC m_missed (aC (eV 3) (aC (eTup (aC (eK (.int 0)) (aC (eK (.int 10)) aN))) (aC (eTup (aC (eK (.int 7)) (aC (eK (.int 0)) (aC (eK (.int 1)) aN)))) aN)))) aN)))))
 (sSeq (sSet 4 (e2 addD (eV 4) (eLst (aC (eC m_fitting (aC (eV 3) (aC (eTup (aC (eK (.int 0)) (aC (eK (.int 0)) aN))) (aC (eTup (aC (eK (.int 9)) aN)) aN)))) (aC (eC m_known_behind (aC (eV 3) (aC (eTup (aC (eK (.int 0)) (aC (eK (.int 0)) aN))) (aC (eTup (aC (eK (.int 9)) aN)) aN)))) aN)))))
 (sSeq (sIf (tV (e2 neD (eV 4) (eLst (aC (eTup (aC (eTup (aC (eK (.int 0)) (aC (eK (.int 0)) aN))) (aC (eTup (aC (eK (.int 0)) (aC (eK (.int 11)) aN))) aN))) (aC (eK (.int 3)) (aC (eTup (aC (eK (.int 1)) (aC (eK (.int 2)) (aC (eK (.int 3)) (aC (eK (.int 4)) (aC (eK (.int 5)) (aC (eK (.int 6)) aN))))))) (aC (eTup (aC (eK (.int 1)) (aC (eK (.int 1)) aN))) (aC (eTup aN) (aC (eK .non) aN)))))))))
 (sRet (eK (.bl false)))
 sNx)
 (sRet (eAnd (eC m_law_long_right aN) (e2 eqD (eC m_missed (aC (eV 3) (aC (eTup (aC (eK (.int 0)) (aC (eK (.int 0)) aN))) (aC (e2 mulD (eTup (aC (e2 powD (eK (.int 10)) (eK (.int 30))) aN)) (eK (.int 2))) aN)))) (eTup (aC (eK (.int 0)) (aC (e2 subD (e2 mulD (eK (.int 2)) (e2 powD (eK (.int 10)) (eK (.int 30)))) (eK (.int 2))) aN)))))))))))))
end Sk

/-! ### draws -/
namespace Sk
open PySem
def dwK (cs : List Int) (a l u : Int) : List (Str × Da) := [("cells", .lst (cs.map Da.int)), ("at", .int a), ("left", .int l), ("used", .int u)]
/-- the second thing in store is a draw's state, of at most n draws; rest: what lies behind it -/
def Dw (rest : Mem) (n : Nat) (mu : Mem) : Prop := ∃ o cs a l u, mu = o :: .dct (dwK cs a l u) :: rest ∧ cs ≠ [] ∧ 0 ≤ a ∧ a ≤ (n : Int) ∧ 0 ≤ u ∧ u ≤ (n : Int)
theorem Dw.mono {rest : Mem} {n k : Nat} {mu : Mem} (h : Dw rest n mu) (e : n ≤ k) : Dw rest k mu := by
  obtain ⟨o, cs, a, l, u, rfl, h1, h2, h3, h4, h5⟩ := h
  exact ⟨o, cs, a, l, u, rfl, h1, h2, by omega, h4, by omega⟩
section
variable {cs : List Int} {a l u : Int} {o : Ob} {rest : Mem} {i : Int}
theorem look_cells : dLook "cells" (dwK cs a l u) = some (.lst (cs.map Da.int)) := rfl
theorem look_at : dLook "at" (dwK cs a l u) = some (.int a) := rfl
theorem look_left : dLook "left" (dwK cs a l u) = some (.int l) := rfl
theorem look_used : dLook "used" (dwK cs a l u) = some (.int u) := rfl
theorem put_any {k : Str} {d : Da} : numput 1 k d (o :: .dct (dwK cs a l u) :: rest) = some (o :: .dct (dPut k d (dwK cs a l u)) :: rest) := by
  unfold numput
  show (if ((dwK cs a l u).map (·.1)).Nodup ∧ (dwK cs a l u).length < 1000 then _ else _) = _
  rw [if_pos ⟨by show (["cells", "at", "left", "used"] : List Str).Nodup; decide, by show 4 < 1000; decide⟩]
  rfl
theorem put_at : numput 1 "at" (.int i) (o :: .dct (dwK cs a l u) :: rest) = some (o :: .dct (dwK cs i l u) :: rest) := put_any
theorem put_left : numput 1 "left" (.int i) (o :: .dct (dwK cs a l u) :: rest) = some (o :: .dct (dwK cs a i u) :: rest) := put_any
theorem put_used : numput 1 "used" (.int i) (o :: .dct (dwK cs a l u) :: rest) = some (o :: .dct (dwK cs a l i) :: rest) := put_any
end
/-- one draw -/
theorem next_yes {rest : Mem} {n : Nat} {mu : Mem} {many : Int} {P : Da → Mem → Prop} (h : Dw rest n mu) (h0 : 0 < many) (h1 : Sm 200 many) (hn : n < 10 ^ 9) (k : ∀ r mu', 0 ≤ r → r < many → Dw rest (n + 1) mu' → P (.int r) mu') : Yes (m_law_next [.ref 1, .int many] mu) P := by
  obtain ⟨o, cs, a, l, u, rfl, hcs, ha0, ha, hu0, hu⟩ := h
  have hd : DivOk many := divOk h0 h1
  unfold m_law_next
  refine (yes_fnD (by rfl)).mpr ?_
  have fin : ∀ (r a l u : Int), 0 ≤ a → a ≤ (n : Int) + 1 → 0 ≤ u → u ≤ (n : Int) + 1 → P (.int (r % many)) (o :: .dct (dwK cs a l u) :: rest) := fun r a l u e1 e2 e3 e4 =>
    k _ _ (Int.emod_nonneg _ (Int.ne_of_gt h0)) (Int.emod_lt_of_pos _ h0) ⟨o, cs, a, l, u, rfl, hcs, e1, by omega, e3, by omega⟩
  have sk : ∀ x : Int, 0 ≤ x → x ≤ (n : Int) + 1 → Sm 31 x := fun x e1 e2 => Sm.of e1 (by omega)
  have l0 : 0 < cs.length := List.length_pos_iff.mpr hcs
  obtain ⟨c, hc⟩ : ∃ c, L2.atI (cs.map Da.int) (a % (cs.length : Int)) = some (Da.int c) := by
    have b0 := Int.emod_nonneg a (b := (cs.length : Int)) (by omega)
    have b1 := Int.emod_lt_of_pos a (b := (cs.length : Int)) (by omega)
    have hl : (a % (cs.length : Int)).toNat < cs.length := by omega
    exact ⟨cs[(a % (cs.length : Int)).toNat], ix_nat b0 (by rw [List.getElem?_map, List.getElem?_eq_getElem hl]; rfl)⟩
  simp [look_left, look_cells, look_at, look_used, put_at, put_left, put_used, hc, hd, h0, l0]
  have small : ∀ x : Int, Sm 80 x → ∀ b : Int, 0 ≤ b → b ≤ (n : Int) + 1 → MulOk 31 b ∧ MulOk (x + 31 * b + 7) 48271 ∧ MulOk 2 (b % 1000) ∧ MulOk ((x + 31 * b + 7) * 48271 % 2147483647) (69621 + 2 * (b % 1000)) := fun x s1 b b0 b1 => by
    have s2 := sk b b0 b1
    have s3 : Sm 5 31 := by decide
    have s4 : Sm 16 48271 := by decide
    have s5 : Sm 10 (b % 1000) := Sm.mod (by decide) (by decide)
    have s6 : Sm 31 ((x + 31 * b + 7) * 48271 % 2147483647) := Sm.mod (by decide) (by decide)
    exact ⟨mulOk s3 s2, mulOk (Sm.add (Sm.add s1 (s3.mul s2).mono) (Sm.mono (k := 3) (by decide))) s4, mulOk (k := 2) (by decide) s5, mulOk s6 (Sm.add (k := 20) (Sm.mono (k := 17) (by decide)) (Sm.mono (Sm.mul (k := 2) (by decide) s5)))⟩
  have after : ∀ l : Int, MulOk 7919 (u + 1) ∧ MulOk (7919 * (u + 1)) (u + 1) ∧ SP (sLoop (bName 5)
      (sSeq (sSet 4 (e2 modD (e2 mulD (e2 addD (e2 addD (eV 4) (e2 mulD (eK (Da.int 31)) (eV 5))) (eK (Da.int 7))) (eK (Da.int 48271))) (eK (Da.int 2147483647))))
        (sSet 4 (e2 modD (e2 mulD (eV 4) (e2 addD (eK (Da.int 69621)) (e2 mulD (eK (Da.int 2)) (e2 modD (eV 5) (eK (Da.int 1000)))))) (eK (Da.int 2147483629)))))
      [Da.int (a + 1), Da.int (u + 1)] [Sl.val (Da.ref 1), Sl.val (Da.int many), Sl.val (Da.lst (List.map Da.int cs)), Sl.val (Da.int c), Sl.val (Da.int (c % 1000000007 + 7919 * (u + 1) * (u + 1))), Sl.un] (o :: Ob.dct (dwK cs (a + 1) l (u + 1)) :: rest))
      { nx := fun r m => match r[4]? with
          | some (Sl.val d) => Yes (opt (fdivD d (Da.int 7)) m) fun x m => match r[1]? with
            | some (Sl.val d) => Yes (opt (modD x d) m) fun d m => P d m
            | x => False
          | x => False,
        rt := P, bk := fun x x_1 => False, ct := fun x x_1 => False } := fun l => by
    have s0 : Sm 13 7919 := by decide
    have s1 := sk (u + 1) (by omega) (by omega)
    have s2 := sk (a + 1) (by omega) (by omega)
    have s3 : Sm 31 (c % 1000000007) := Sm.mod (by decide) (by decide)
    have n0 : Sm 80 (c % 1000000007 + 7919 * (u + 1) * (u + 1)) := (Sm.add (k := 79) s3.mono ((s0.mul s1).mul s1).mono).mono
    refine ⟨mulOk s0 s1, mulOk (s0.mul s1) s1, ?_⟩
    have q1 := small _ n0 (a + 1) (by omega) (by omega)
    simp [sp_loop_cons, sp_loop_nil, q1]
    have q2 := small _ (Sm.mono (k := 31) (Sm.mod (i := (c % 1000000007 + 7919 * (u + 1) * (u + 1) + 31 * (a + 1) + 7) * 48271 % 2147483647 * (69621 + 2 * ((a + 1) % 1000))) (m := 2147483629) (by decide) (by decide))) (u + 1) (by omega) (by omega)
    simp [q2, h0]
    exact ⟨divOk (k := 3) (by decide) (by decide), fin _ _ _ _ (by omega) (by omega) (by omega) (by omega)⟩
  split
  · exact fin _ _ _ _ ha0 (by omega) hu0 (by omega)
  · split
    · split
      · exact fin _ _ _ _ (by omega) (by omega) hu0 (by omega)
      · exact after _
    · exact after _
/-- one of some -/
theorem pick_yes {rest : Mem} {n : Nat} {mu : Mem} {some_ : List Da} {P : Da → Mem → Prop} (h : Dw rest n mu) (h0 : some_ ≠ []) (h1 : some_.length < 2 ^ 60) (hn : n < 10 ^ 9) (k : ∀ d mu', d ∈ some_ → Dw rest (n + 1) mu' → P d mu') : Yes (m_law_pick [.ref 1, .lst some_] mu) P := by
  have l0 : 0 < some_.length := List.length_pos_iff.mpr h0
  unfold m_law_pick
  refine (yes_fnD (by rfl)).mpr ?_
  simp
  refine next_yes h (by omega) (Sm.mono (k := 60) (Sm.of (by omega) (by omega))) hn fun r mu' r0 r1 h' => ?_
  have hl : r.toNat < some_.length := by omega
  rw [ixD_lst, ix_nat r0 (List.getElem?_eq_getElem hl)]
  exact k _ _ (List.getElem_mem _) h'
theorem pick_yesT {rest : Mem} {n : Nat} {mu : Mem} {some_ : List Da} {P : Da → Mem → Prop} (h : Dw rest n mu) (h0 : some_ ≠ []) (h1 : some_.length < 2 ^ 60) (hn : n < 10 ^ 9) (k : ∀ d mu', d ∈ some_ → Dw rest (n + 1) mu' → P d mu') : Yes (m_law_pick [.ref 1, .tup some_] mu) P := by
  have l0 : 0 < some_.length := List.length_pos_iff.mpr h0
  unfold m_law_pick
  refine (yes_fnD (by rfl)).mpr ?_
  simp
  refine next_yes h (by omega) (Sm.mono (k := 60) (Sm.of (by omega) (by omega))) hn fun r mu' r0 r1 h' => ?_
  have hl : r.toNat < some_.length := by omega
  rw [ixD_tup, ix_nat r0 (List.getElem?_eq_getElem hl)]
  exact k _ _ (List.getElem_mem _) h'
/-- the draws begin -/
theorem begin_yes {ns : List Int} {P : Da → Mem → Prop} (hl : ns.length ≤ 63) (k : ∀ mu', Dw [] 0 mu' → P (.ref 1) mu') : Yes (m_law_begin [.ref 0] [.scr (ns.map Da.int)]) P := by
  unfold m_law_begin
  refine (yes_fnD (by rfl)).mpr ?_
  simp
  refine ⟨Nat.le_trans (Nat.succ_le_succ hl) (by decide), k _ ⟨.scr (ns.map Da.int), ns ++ [0], 0, 0, 0, ?_, by simp, by omega, by omega, by omega, by omega⟩⟩
  unfold dwK
  rw [List.map_append]
  rfl
end Sk

/-! ### drawn clocks and books -/
namespace Sk
open PySem
abbrev encC (c : List Int) : Da := .tup (c.map Da.int)
abbrev encB (b : List (List Int)) : Da := .tup (b.map encC)
structure Ck (m : Nat) (c : List Int) : Prop where
  ge : 1 ≤ c.length
  le : c.length ≤ m
  st : ∀ x ∈ c, 0 ≤ x ∧ x ≤ 99
structure Bk (b : List (List Int)) : Prop where
  ge : 1 ≤ b.length
  le : b.length ≤ 3
  ck : ∀ c ∈ b, Ck 24 c
theorem getB {b : List (List Int)} {i : Int} (h0 : 0 ≤ i) (h1 : i < (b.length : Int)) : ∃ c, c ∈ b ∧ b[i.toNat]? = some c ∧ L2.atI (b.map encC) i = some (encC c) := by
  have hl : i.toNat < b.length := by omega
  exact ⟨b[i.toNat], List.getElem_mem _, List.getElem?_eq_getElem hl, ix_nat h0 (by rw [List.getElem?_map, List.getElem?_eq_getElem hl]; rfl)⟩
end Sk

/-! ### drawn clocks and books, at most twelve marks -/
namespace Sk
open PySem
theorem clock12_yes {rest : Mem} {n : Nat} {mu : Mem} {size : Int} {P : Da → Mem → Prop} (h : Dw rest n mu) (h0 : 1 ≤ size) (h1 : size ≤ 12) (hn : n + 200 < 10 ^ 9)
    (k : ∀ c mu', Ck 12 c → Dw rest (n + 200) mu' → P (encC c) mu') : Yes (m_law_clock [.ref 1, .int size] mu) P := by
  unfold m_law_clock
  refine (yes_fnD (by rfl)).mpr ?_
  try simp
  refine next_yes h (by omega) (Sm.of (by omega) (by omega)) (by omega) fun r mu r0 r1 h => ?_
  try simp
  refine next_yes h (by omega) (Sm.of (by omega) (by omega)) (by omega) fun w mu w0 w1 h => ?_
  try simp
  split
  · refine ⟨rg_of (by omega) (by omega) (by omega) (by omega), ?_⟩
    rw [rngD_map]
    refine k _ _ ⟨by rw [iot_len]; omega, by rw [iot_len]; omega, fun x hx => ?_⟩ (h.mono (by omega))
    have := mem_iot hx
    omega
  split
  · refine next_yes h (by omega) (Sm.of (by omega) (by omega)) (by omega) fun q mu q0 q1 h => ?_
    try simp
    refine ⟨sz_of (by omega) (by omega), sz_lt (by rw [rngD_len]; omega), yes_cLoopT (fun acc m => ∃ ns : List Int, acc = ns.map Da.int ∧ (∀ x ∈ ns, 0 ≤ x ∧ x ≤ 2) ∧ Dw rest (n + 3 + ns.length) m) ⟨[], rfl, by simp, h⟩ (fun j x ys m ex el i => ⟨_, rfl, ?_⟩) fun ys m el i => ?_⟩
    · obtain ⟨ns, e, b, hd⟩ := i
      obtain ⟨hj, rfl⟩ := rng_at ex
      have l2 : ns.length = j := by rw [← el, e, List.length_map]
      try simp
      refine next_yes hd (by omega) (Sm.of (by omega) (by omega)) (by omega) fun z m z0 z1 hd => ⟨ns ++ [z], by rw [e, List.map_append]; rfl, fun x hx => ?_, by rw [List.length_append]; exact hd⟩
      rcases List.mem_append.mp hx with y | y
      · exact b x y
      · rw [List.mem_singleton.mp y]; omega
    · obtain ⟨ns, rfl, b, hd⟩ := i
      rw [rngD_len, List.length_map] at el
      have l3 : ns.length ≤ 3 := by omega
      have d1 : 0 ≤ (1 + r) / (ns.length : Int) := Int.ediv_nonneg (by omega) (by omega)
      have d2 : (1 + r) / (ns.length : Int) * (ns.length : Int) ≤ 1 + r := Int.ediv_mul_le _ (by omega)
      have ne : ns ≠ [] := fun z => by rw [z] at el; simp at el; omega
      have dm : (1 + r) / (ns.length : Int) ≤ 1 + r := Int.ediv_le_self _ (by omega)
      simp [ne]
      refine ⟨Nat.le_trans l3 (by decide), divOk (k := 10) (by omega) (Sm.of (by omega) (by omega)), mulOk (k := 10) (l := 10) (Sm.of (by omega) (by omega)) (Sm.of (by omega) (by omega)), ?_⟩
      have e0 : 0 ≤ max 1 ((1 + r) / (ns.length : Int)) * (ns.length : Int) := Int.mul_nonneg (by omega) (by omega)
      have e1 : max 1 ((1 + r) / (ns.length : Int)) * (ns.length : Int) ≤ 12 := by
        rcases Int.le_total 1 ((1 + r) / (ns.length : Int)) with y | y
        · rw [Int.max_eq_right y]; omega
        · rw [Int.max_eq_left y]; omega
      have e2 : 1 ≤ max 1 ((1 + r) / (ns.length : Int)) * (ns.length : Int) := by
        have := Int.mul_le_mul (show 1 ≤ max 1 ((1 + r) / (ns.length : Int)) by omega) (show 1 ≤ (ns.length : Int) by omega) (by decide) (by omega)
        omega
      rw [cut_hi e0, repL_map, ← List.map_take]
      have lt : ((repL 24 ns).take (max 1 ((1 + r) / (ns.length : Int)) * (ns.length : Int)).toNat).length = (max 1 ((1 + r) / (ns.length : Int)) * (ns.length : Int)).toNat := by
        rw [List.length_take, repL_len]; omega
      refine k _ _ ⟨by rw [lt]; omega, by rw [lt]; omega, fun x hx => ?_⟩ (hd.mono (by omega))
      have := b x (mem_repL (List.mem_of_mem_take hx))
      omega
  split
  · refine ⟨sz_of (by omega) (by omega), sz_lt (by rw [rngD_len]; omega), yes_cLoopT (fun acc m => ∃ ns : List Int, acc = ns.map Da.int ∧ (∀ x ∈ ns, 0 ≤ x ∧ x ≤ 99) ∧ m = mu) ⟨[], rfl, by simp, rfl⟩ (fun j x ys m ex el i => ⟨_, rfl, ?_⟩) fun ys m el i => ?_⟩
    · obtain ⟨ns, e, b, rfl⟩ := i
      obtain ⟨hj, rfl⟩ := rng_at ex
      try simp
      have b0 : 0 ≤ ((j : Int) + 1) % 2 := Int.emod_nonneg _ (by decide)
      have b1 : ((j : Int) + 1) % 2 < 2 := Int.emod_lt_of_pos _ (by decide)
      have v : 0 ≤ ((j : Int) + 1) % 2 * (1 + (j : Int) / 2) + (j : Int) % 2 ∧ ((j : Int) + 1) % 2 * (1 + (j : Int) / 2) + (j : Int) % 2 ≤ 99 := by
        rcases (show ((j : Int) + 1) % 2 = 0 ∨ ((j : Int) + 1) % 2 = 1 by omega) with z | z
        · rw [z]; omega
        · rw [z]; omega
      refine ⟨⟨by decide, by decide⟩, mulOk (k := 2) (l := 10) (Sm.of b0 (by omega)) (Sm.of (by omega) (by omega)), ns ++ [((j : Int) + 1) % 2 * (1 + (j : Int) / 2) + (j : Int) % 2], by rw [e, List.map_append]; rfl, fun x hx => ?_⟩
      rcases List.mem_append.mp hx with q | q
      · exact b x q
      · rw [List.mem_singleton.mp q]; exact v
    · obtain ⟨ns, rfl, b, rfl⟩ := i
      rw [rngD_len, List.length_map] at el
      exact k _ _ ⟨by omega, by omega, b⟩ (h.mono (by omega))
  · refine ⟨sz_of (by omega) (by omega), ?_⟩
    refine sp_range (fun j rho m => ∃ ns v5 v7, rho = [Sl.val (Da.ref 1), Sl.val (Da.int size), Sl.val (Da.int (1 + r)), Sl.val (Da.int w), Sl.val (encC ns), v5, Sl.un, v7] ∧ ns.length = j ∧ (∀ x ∈ ns, 0 ≤ x ∧ x ≤ 99) ∧ Dw rest (n + 2 + 3 * j) m) ⟨[], _, _, rfl, rfl, by simp, h⟩ (fun j rho m hj i => ⟨_, rfl, ?_⟩) fun rho m i => ?_
    · obtain ⟨ns, v5, v7, rfl, e, b, hd⟩ := i
      try simp
      refine next_yes hd (by omega) (Sm.of (by omega) (by omega)) (by omega) fun z1 m z10 z11 hd => ?_
      try simp
      refine next_yes hd (by omega) (Sm.of (by omega) (by omega)) (by omega) fun z2 m z20 z21 hd => ?_
      refine pick_yes hd (by simp) (by show 6 < 2 ^ 60; decide) (by omega) fun d m hm hd => ?_
      have hdi : ∃ x : Int, d = .int x ∧ 0 ≤ x ∧ x ≤ 99 := by
        simp at hm
        rcases hm with h | h | h | h | h | h
        · exact ⟨0, h, by omega, by omega⟩
        · exact ⟨1, h, by omega, by omega⟩
        · exact ⟨2, h, by omega, by omega⟩
        · exact ⟨3, h, by omega, by omega⟩
        · exact ⟨_, h, by omega, by omega⟩
        · exact ⟨_, h, by omega, by omega⟩
      obtain ⟨x, rfl, x0, x1⟩ := hdi
      try simp
      refine ⟨sz_le (by omega), ns ++ [x], by simp, by simp [e], fun y hy => ?_, hd.mono (by omega)⟩
      rcases List.mem_append.mp hy with q | q
      · exact b y q
      · rw [List.mem_singleton.mp q]; omega
    · obtain ⟨ns, v5, v7, rfl, e, b, hd⟩ := i
      exact k _ _ ⟨by omega, by omega, b⟩ (hd.mono (by omega))
theorem book12_yes {rest : Mem} {n : Nat} {mu : Mem} {size : Int} {P : Da → Mem → Prop} (h : Dw rest n mu) (h0 : 1 ≤ size) (h1 : size ≤ 12) (hn : n + 2000 < 10 ^ 9)
    (k : ∀ b mu', Bk b → ((b[0]?).getD []).length ≤ 12 → Dw rest (n + 2000) mu' → P (encB b) mu') : Yes (m_law_book [.ref 1, .int size] mu) P := by
  unfold m_law_book
  refine (yes_fnD (by rfl)).mpr ?_
  try simp
  refine clock12_yes h h0 h1 (by omega) fun c0 mu hc0 h => ?_
  have up : ∀ {c : List Int}, Ck 12 c → Ck 24 c := fun h => ⟨h.ge, Nat.le_trans h.le (by decide), h.st⟩
  try simp
  refine next_yes h (by omega) (Sm.of (by omega) (by omega)) (by omega) fun r mu r0 r1 h => ?_
  try simp
  refine ⟨sz_of (by omega) (by omega), ?_⟩
  refine sp_range (fun j rho m => ∃ b v3 v4 v5 v6 v7, rho = [Sl.val (Da.ref 1), Sl.val (Da.int size), Sl.own (b.map encC), v3, v4, v5, v6, v7] ∧ b.length = j + 1 ∧ (∀ c ∈ b, Ck 24 c) ∧ ((b[0]?).getD []).length ≤ 12 ∧ Dw rest (n + 201 + 300 * j) m) ⟨[c0], _, _, _, _, _, rfl, rfl, by simpa using up hc0, by simpa using hc0.le, h⟩ (fun j rho m hj i => ⟨_, rfl, ?_⟩) fun rho m i => ?_
  · obtain ⟨b, v3, v4, v5, v6, v7, rfl, e, hb, h12, hd⟩ := i
    have l3 : b.length ≤ 3 := by omega
    try simp
    refine next_yes hd (by omega) (Sm.of (by omega) (by omega)) (by omega) fun z1 m z10 z11 hd => ?_
    obtain ⟨c, hc, _, ec⟩ := getB z10 z11
    have ck := hb c hc
    have := ck.ge
    have := ck.le
    simp [ec]
    refine next_yes hd (by omega) (Sm.of (by omega) (by omega)) (by omega) fun z2 m z20 z21 hd => ?_
    try simp
    refine next_yes hd (by omega) (Sm.of (by omega) (by omega)) (by omega) fun z3 m z30 z31 hd => ?_
    have m0 : 0 ≤ z2 % (c.length : Int) := Int.emod_nonneg _ (by omega)
    simp [cut_hi m0, cut_lo m0]
    have fin : ∀ (c2 : List Int) (m : Mem), Ck 24 c2 → Dw rest (n + 201 + 300 * j + 250) m → ∃ b2 : List (List Int), List.map encC b ++ [encC c2] = List.map encC b2 ∧ b2.length = j + 1 + 1 ∧ (∀ c ∈ b2, Ck 24 c) ∧ ((b2[0]?).getD []).length ≤ 12 ∧ Dw rest (n + 201 + 300 * (j + 1)) m := fun c2 m k2 d2 => by
      refine ⟨b ++ [c2], by rw [List.map_append]; rfl, by rw [List.length_append, e]; rfl, fun x hx => ?_, by rw [List.getElem?_append_left (by omega)]; exact h12, d2.mono (by omega)⟩
      rcases List.mem_append.mp hx with q | q
      · exact hb x q
      · rw [List.mem_singleton.mp q]; exact k2
    have lt : ∀ k : Nat, (c.drop k ++ c.take k).length = c.length := fun k => by rw [List.length_append, List.length_drop, List.length_take]; omega
    have mt : ∀ (k : Nat) (x : Int), x ∈ c.drop k ++ c.take k → 0 ≤ x ∧ x ≤ 99 := fun k x hx => by
      rcases List.mem_append.mp hx with q | q
      · exact ck.st x (List.mem_of_mem_drop q)
      · exact ck.st x (List.mem_of_mem_take q)
    have et : ∀ k : Nat, List.drop k (List.map Da.int c) ++ List.take k (List.map Da.int c) = (c.drop k ++ c.take k).map Da.int := fun k => by rw [List.map_append, List.map_drop, List.map_take]
    have two : Yes (m_law_next [Da.ref 1, Da.int 100] m) fun x m => (cutDs (List.drop (z2 % (c.length : Int)).toNat (List.map Da.int c) ++ List.take (z2 % (c.length : Int)).toNat (List.map Da.int c)) none (some (-1))).length + 1 ≤ sizeLine ∧
        ∃ b2, List.map encC b ++ [Da.tup (cutDs (List.drop (z2 % (c.length : Int)).toNat (List.map Da.int c) ++ List.take (z2 % (c.length : Int)).toNat (List.map Da.int c)) none (some (-1)) ++ [x])] = List.map encC b2 ∧
          b2.length = j + 1 + 1 ∧ (∀ (c : List Int), c ∈ b2 → Ck 24 c) ∧ ((b2[0]?).getD []).length ≤ 12 ∧ Dw rest (n + 201 + 300 * (j + 1)) m := by
      refine next_yes hd (by omega) (Sm.of (by omega) (by omega)) (by omega) fun x m x0 x1 hd => ?_
      rw [et, cut_last, ← List.map_dropLast]
      have l5 := lt (z2 % (c.length : Int)).toNat
      have l4 : (c.drop (z2 % (c.length : Int)).toNat ++ c.take (z2 % (c.length : Int)).toNat).dropLast.length = c.length - 1 := by rw [List.length_dropLast, l5]
      refine ⟨sz_le (by rw [List.length_map, l4]; omega), ?_⟩
      have z := fin ((c.drop (z2 % (c.length : Int)).toNat ++ c.take (z2 % (c.length : Int)).toNat).dropLast ++ [x]) m ⟨by rw [List.length_append, l4]; simp, by rw [List.length_append, l4]; simp; omega, fun y hy => ?_⟩ (hd.mono (by omega))
      · unfold encC at z
        rw [List.map_append] at z
        exact z
      · rcases List.mem_append.mp hy with q | q
        · exact mt _ y (List.dropLast_subset _ q)
        · rw [List.mem_singleton.mp q]; omega
    have three : Yes (m_law_clock [Da.ref 1, Da.int size] m) fun d m => ∃ b2, List.map encC b ++ [d] = List.map encC b2 ∧ b2.length = j + 1 + 1 ∧ (∀ (c : List Int), c ∈ b2 → Ck 24 c) ∧ ((b2[0]?).getD []).length ≤ 12 ∧ Dw rest (n + 201 + 300 * (j + 1)) m :=
      clock12_yes hd h0 h1 (by omega) fun c2 m k2 d2 => fin c2 m (up k2) (d2.mono (by omega))
    refine ⟨by omega, sz_le (by omega), ?_⟩
    split
    · refine ⟨sz_lt (by omega), ?_⟩
      rw [et]
      exact fin _ m ⟨by rw [lt]; omega, by rw [lt]; omega, mt _⟩ (hd.mono (by omega))
    split
    · split
      · refine ⟨sz_lt (by omega), sz_le (by omega), ?_⟩
        rw [← List.append_assoc, et, ← List.map_append]
        refine fin _ m ⟨by rw [List.length_append, lt]; omega, by rw [List.length_append, lt]; omega, fun x hx => ?_⟩ (hd.mono (by omega))
        rcases List.mem_append.mp hx with q | q
        · exact mt _ x q
        · exact mt _ x q
      · split
        · exact ⟨sz_lt (by omega), two⟩
        · exact ⟨sz_lt (by omega), three⟩
    · split
      · exact ⟨sz_lt (by omega), two⟩
      · exact ⟨sz_lt (by omega), three⟩
  · obtain ⟨b, v3, v4, v5, v6, v7, rfl, e, hb, h12, hd⟩ := i
    show P (.tup (b.map encC)) m
    exact k _ _ ⟨by omega, by omega, hb⟩ h12 (hd.mono (by omega))
end Sk

/-! ### books, starts, numbers: what the program looks at -/
namespace Sk
open PySem
theorem eq_of_yes {α : Type} {o : Out α} {a : α} {mu : Mem} (h : Yes o fun b m => b = a ∧ m = mu) : o = .ok a mu := by
  obtain ⟨b, m, e, rfl, rfl⟩ := h.eq
  exact e
@[simp] theorem isi_int_int {i : Int} : isiB "int" (.int i) = some (.bl true) := rfl
@[simp] theorem isi_bool_int {i : Int} : isiB "bool" (.int i) = some (.bl false) := rfl
@[simp] theorem isi_tuple_tup {xs : List Da} : isiB "tuple" (.tup xs) = some (.bl true) := rfl
@[simp] theorem isi_list_lst {xs : List Da} : isiB "list" (.lst xs) = some (.bl true) := rfl
theorem is_integer_int {i : Int} {mu : Mem} : m_is_integer [.int i] mu = .ok (.bl true) mu := by
  refine eq_of_yes ?_
  unfold m_is_integer
  refine (yes_fnD (by rfl)).mpr ?_
  simp
theorem is_whole_int {x lo hi : Int} {mu : Mem} : m_is_whole [.int x, .int lo, .int hi] mu = .ok (.bl (decide (lo ≤ x ∧ x ≤ hi))) mu := by
  refine eq_of_yes ?_
  unfold m_is_whole
  refine (yes_fnD (by rfl)).mpr ?_
  simp [is_integer_int]
  by_cases h : lo ≤ x <;> simp [h]
theorem enum_get {xs : List Da} {j : Nat} {x : Da} (h : (enumD 0 xs)[j]? = some x) : ∃ y, xs[j]? = some y ∧ x = .tup [.int (j : Int), y] := by
  rw [enumD_get] at h
  cases e : xs[j]? with
  | none => rw [e] at h; cases h
  | some y => rw [e] at h; simp at h; exact ⟨y, rfl, h.symm⟩
theorem enum_len (xs : List Da) : ∀ k, (enumD k xs).length = xs.length := by
  induction xs with
  | nil => intro k; rfl
  | cons x xs ih => intro k; exact congrArg (· + 1) (ih (k + 1))
theorem book_fault_ok {b : List (List Int)} (hb : Bk b) {mu : Mem} : m_book_fault [encB b] mu = .ok .non mu := by
  refine eq_of_yes ?_
  have h1 := hb.ge
  have h2 := hb.le
  unfold m_book_fault
  refine (yes_fnD (by rfl)).mpr ?_
  simp
  refine ⟨by omega, by omega, ?_⟩
  refine sp_loop (k := 0) (fun _ rho m => ∃ v1 v2 v3 v4, rho = [Sl.val (encB b), v1, v2, v3, v4] ∧ m = mu) ⟨_, _, _, _, rfl, rfl⟩ (fun j x rho m ex i => ?_) fun rho m ⟨_, _, _, _, _, e⟩ => e
  obtain ⟨v1, v2, v3, v4, rfl, rfl⟩ := i
  obtain ⟨y, ey, rfl⟩ := enum_get ex
  rw [List.getElem?_map] at ey
  obtain ⟨c, ec, rfl⟩ := Option.map_eq_some_iff.mp ey
  have ck := hb.ck c (List.mem_of_getElem? ec)
  have h3 := ck.ge
  have h4 := ck.le
  refine ⟨_, rfl, ?_⟩
  simp
  refine ⟨by omega, by omega, ?_⟩
  refine sp_loop (k := 0) (fun _ rho m2 => ∃ v1 v2 v3 v4, rho = [Sl.val (encB b), v1, v2, v3, v4] ∧ m2 = m) ⟨_, _, _, _, rfl, rfl⟩ (fun j2 x2 rho2 m2 ex2 i2 => ?_) fun rho m ⟨_, _, _, _, e1, e2⟩ => ⟨⟨_, _, _, _, e1⟩, e2⟩
  obtain ⟨w1, w2, w3, w4, rfl, rfl⟩ := i2
  obtain ⟨y, ey, rfl⟩ := enum_get ex2
  rw [List.getElem?_map] at ey
  obtain ⟨s, es, rfl⟩ := Option.map_eq_some_iff.mp ey
  have hs := ck.st s (List.mem_of_getElem? es)
  refine ⟨_, rfl, ?_⟩
  simp [is_whole_int, hs]
theorem need_book_ok {b : List (List Int)} (hb : Bk b) {mu : Mem} : m_need_book [encB b] mu = .ok (encB b) mu := by
  refine eq_of_yes ?_
  unfold m_need_book
  refine (yes_fnD (by rfl)).mpr ?_
  simp [book_fault_ok hb, notND]
/-- a start of a book -/
abbrev encS (s : Int × Int) : Da := .tup [.int s.1, .int s.2]
structure St (b : List (List Int)) (s : Int × Int) : Prop where
  n0 : 0 ≤ s.1
  n1 : s.1 < b.length
  m0 : 0 ≤ s.2
  m1 : ∀ c, b[s.1.toNat]? = some c → s.2 < c.length
def Sts (b : List (List Int)) (L : List (Int × Int)) : Prop := ∀ s ∈ L, St b s
/-- the clock of a start -/
def ckOf (b : List (List Int)) (s : Int × Int) : List Int := (b[s.1.toNat]?).getD []
theorem St.ck {b : List (List Int)} {s : Int × Int} (h : St b s) : b[s.1.toNat]? = some (ckOf b s) := by
  have hl : s.1.toNat < b.length := by have := h.n0; have := h.n1; omega
  unfold ckOf
  rw [List.getElem?_eq_getElem hl]
  rfl
theorem St.at {b : List (List Int)} {s : Int × Int} (h : St b s) : L2.atI (b.map encC) s.1 = some (encC (ckOf b s)) := ix_nat h.n0 (by rw [List.getElem?_map, h.ck]; rfl)
theorem St.mem {b : List (List Int)} {s : Int × Int} (h : St b s) : ckOf b s ∈ b := List.mem_of_getElem? h.ck
theorem at0 {x y : Da} : L2.atI [x, y] 0 = some x := rfl
theorem at1 {x y : Da} : L2.atI [x, y] 1 = some y := rfl
theorem is_start_ok {b : List (List Int)} {s : Int × Int} (h : St b s) {mu : Mem} : m_is_start [encB b, encS s] mu = .ok (.bl true) mu := by
  refine eq_of_yes ?_
  have h0 := h.n0; have h1 := h.n1; have h2 := h.m0; have h3 := h.m1 _ h.ck
  unfold m_is_start
  refine (yes_fnD (by rfl)).mpr ?_
  simp [is_whole_int, h.at, at0, at1]
  omega
theorem need_start_ok {b : List (List Int)} {s : Int × Int} (h : St b s) {mu : Mem} : m_need_start [encB b, encS s] mu = .ok (encS s) mu := by
  refine eq_of_yes ?_
  unfold m_need_start
  refine (yes_fnD (by rfl)).mpr ?_
  simp [is_start_ok h]
/-- what a start strikes so many marks later -/
def stk (b : List (List Int)) (s : Int × Int) (k : Int) : Int := (ckOf b s)[((s.2 + k) % ((ckOf b s).length : Int)).toNat]?.getD 0
theorem stk_at {b : List (List Int)} {s : Int × Int} (hb : Bk b) (h : St b s) (k : Int) : L2.atI ((ckOf b s).map Da.int) ((s.2 + k) % ((ckOf b s).length : Int)) = some (.int (stk b s k)) := by
  have ge := (hb.ck _ h.mem).ge
  have b0 := Int.emod_nonneg (s.2 + k) (b := ((ckOf b s).length : Int)) (by omega)
  have b1 := Int.emod_lt_of_pos (s.2 + k) (b := ((ckOf b s).length : Int)) (by omega)
  have hl : ((s.2 + k) % ((ckOf b s).length : Int)).toNat < (ckOf b s).length := by omega
  refine ix_nat b0 ?_
  unfold stk
  rw [List.getElem?_map, List.getElem?_eq_getElem hl]
  rfl
theorem stk_bd {b : List (List Int)} {s : Int × Int} (hb : Bk b) (h : St b s) (k : Int) : 0 ≤ stk b s k ∧ stk b s k ≤ 99 := by
  have ge := (hb.ck _ h.mem).ge
  have b0 := Int.emod_nonneg (s.2 + k) (b := ((ckOf b s).length : Int)) (by omega)
  have b1 := Int.emod_lt_of_pos (s.2 + k) (b := ((ckOf b s).length : Int)) (by omega)
  have hl : ((s.2 + k) % ((ckOf b s).length : Int)).toNat < (ckOf b s).length := by omega
  unfold stk
  rw [List.getElem?_eq_getElem hl]
  exact (hb.ck _ h.mem).st _ (List.getElem_mem _)
theorem struck_ok {b : List (List Int)} {s : Int × Int} (hb : Bk b) (h : St b s) {k : Int} {mu : Mem} : m_struck [encB b, encS s, .int k] mu = .ok (.int (stk b s k)) mu := by
  refine eq_of_yes ?_
  have ge := (hb.ck _ h.mem).ge
  unfold m_struck
  refine (yes_fnD (by rfl)).mpr ?_
  simp [h.at, at0, at1, stk_at hb h]
  omega
/-- the common round: a multiple of both, not above the product -/
theorem common_round_ok {b : List (List Int)} {s t : Int × Int} (hb : Bk b) (hs : St b s) (ht : St b t) (mu : Mem) : ∃ R : Int, 0 < R ∧ R ≤ 576 ∧ ((ckOf b s).length : Int) ∣ R ∧ ((ckOf b t).length : Int) ∣ R ∧ m_common_round [encB b, encS s, encS t] mu = .ok (.int R) mu := by
  have g1 := (hb.ck _ hs.mem).ge
  have g2 := (hb.ck _ ht.mem).ge
  have g3 := (hb.ck _ hs.mem).le
  have g4 := (hb.ck _ ht.mem).le
  have y : Yes (m_common_round [encB b, encS s, encS t] mu) fun d m => (∃ R : Int, d = .int R ∧ 0 < R ∧ R ≤ 576 ∧ ((ckOf b s).length : Int) ∣ R ∧ ((ckOf b t).length : Int) ∣ R) ∧ m = mu := by
    unfold m_common_round
    refine (yes_fnD (by rfl)).mpr ?_
    simp [hs.at, ht.at, at0, at1]
    refine sp_while (k := (ckOf b t).length - 1) (fun k rho m => ∃ j : Nat, rho = [Sl.val (encB b), Sl.val (encS s), Sl.val (encS t), Sl.val (.int ((ckOf b s).length * (j : Int))), Sl.val (.int (ckOf b s).length), Sl.val (.int (ckOf b t).length)] ∧ m = mu ∧ 1 ≤ j ∧ j ≤ (ckOf b t).length ∧ k = (ckOf b t).length - j) (by omega) ⟨1, by simp, rfl, by omega, by omega, rfl⟩ fun k rho m i => ?_
    obtain ⟨j, rfl, rfl, j1, j2, rfl⟩ := i
    have p1 : (ckOf b s).length * j ≤ 24 * 24 := Nat.mul_le_mul g3 (by omega)
    have p2 : 1 * 1 ≤ (ckOf b s).length * j := Nat.mul_le_mul g1 j1
    have p3 : (((ckOf b s).length * j : Nat) : Int) = ((ckOf b s).length : Int) * (j : Int) := Int.natCast_mul _ _
    simp
    refine ⟨by omega, ?_⟩
    split
    · rename_i q
      exact ⟨by omega, by omega, Int.dvd_of_emod_eq_zero q⟩
    · rename_i q
      have ne : j ≠ (ckOf b t).length := fun z => q (by rw [z]; exact Int.mul_emod_left _ _)
      refine ⟨(ckOf b t).length - j - 1, by omega, j + 1, ?_, by omega, by omega, by omega⟩
      rw [Int.natCast_add, Int.mul_add, Int.natCast_one, Int.mul_one]
  obtain ⟨d, m, e, ⟨R, rfl, h⟩, rfl⟩ := y.eq
  exact ⟨R, h.1, h.2.1, h.2.2.1, h.2.2.2, e⟩
end Sk

/-! ### by how much more one strikes than the other -/
namespace Sk
open PySem
/-- the sum of the first n -/
def psum (f : Nat → Int) : Nat → Int
  | 0 => 0
  | n + 1 => psum f n + f n
theorem psum_add (f : Nat → Int) (m : Nat) : ∀ n, psum f (m + n) = psum f m + psum (fun k => f (m + k)) n
  | 0 => by simp [psum]
  | n + 1 => by
    rw [← Nat.add_assoc]
    show psum f (m + n) + f (m + n) = psum f m + (psum (fun k => f (m + k)) n + f (m + n))
    rw [psum_add f m n]
    omega
theorem psum_mul {f : Nat → Int} {p : Nat} (h : ∀ k, f (k + p) = f k) : ∀ q r, psum f (q * p + r) = (q : Int) * psum f p + psum f r
  | 0, r => by simp
  | q + 1, r => by
    have e : (q + 1) * p + r = p + (q * p + r) := by rw [Nat.succ_mul]; omega
    rw [e, psum_add, show (fun k => f (p + k)) = f from funext fun k => by rw [Nat.add_comm, h], psum_mul h q r, Int.natCast_add, Int.add_mul, Int.natCast_one, Int.one_mul]
    omega
theorem psum_bd {f : Nat → Int} (h : ∀ k, 0 ≤ f k ∧ f k ≤ 99) : ∀ n, 0 ≤ psum f n ∧ psum f n ≤ 99 * (n : Int)
  | 0 => ⟨Int.le_refl 0, by simp [psum]⟩
  | n + 1 => by
    have := psum_bd h n
    have := h n
    show 0 ≤ psum f n + f n ∧ psum f n + f n ≤ 99 * ((n + 1 : Nat) : Int)
    omega
theorem psum_congr {f g : Nat → Int} : ∀ n, (∀ k, k < n → f k = g k) → psum f n = psum g n
  | 0, _ => rfl
  | n + 1, h => by
    show psum f n + f n = psum g n + g n
    rw [psum_congr n fun k hk => h k (by omega), h n (by omega)]
/-- by how much more the one strikes, so many marks later -/
def exc (b : List (List Int)) (s t : Int × Int) (k : Nat) : Int := max 0 (stk b s k - stk b t k)
theorem exc_bd {b : List (List Int)} {s t : Int × Int} (hb : Bk b) (hs : St b s) (ht : St b t) (k : Nat) : 0 ≤ exc b s t k ∧ exc b s t k ≤ 99 := by
  have := stk_bd hb hs k
  have := stk_bd hb ht k
  unfold exc
  omega
theorem stk_per {b : List (List Int)} {s : Int × Int} {R : Nat} (h : ((ckOf b s).length : Int) ∣ (R : Int)) (k : Nat) : stk b s ((k + R : Nat) : Int) = stk b s k := by
  unfold stk
  have e : (s.2 + ((k + R : Nat) : Int)) % ((ckOf b s).length : Int) = (s.2 + k) % ((ckOf b s).length : Int) := by
    obtain ⟨c, hc⟩ := h
    rw [Int.natCast_add, ← Int.add_assoc, hc, Int.add_mul_emod_self_left]
  rw [e]
theorem exc_per {b : List (List Int)} {s t : Int × Int} {R : Nat} (h : ((ckOf b s).length : Int) ∣ (R : Int)) (g : ((ckOf b t).length : Int) ∣ (R : Int)) (k : Nat) : exc b s t (k + R) = exc b s t k := by
  unfold exc
  rw [stk_per h, stk_per g]
/-- the sum by how much more one strikes -/
def ovr (b : List (List Int)) (s t : Int × Int) (n : Nat) : Int := psum (exc b s t) n
theorem ovr_split {b : List (List Int)} {s t : Int × Int} {R : Nat} (h0 : 0 < R) (h : ((ckOf b s).length : Int) ∣ (R : Int)) (g : ((ckOf b t).length : Int) ∣ (R : Int)) (n : Nat) : ovr b s t n = ((n / R : Nat) : Int) * ovr b s t R + ovr b s t (n % R) := by
  unfold ovr
  rw [← psum_mul (exc_per h g), Nat.mul_comm, Nat.div_add_mod]
/-- the sums behind 0 to R marks -/
def ovL (b : List (List Int)) (s t : Int × Int) (R : Nat) : List Da := (List.range (R + 1)).map fun k => Da.int (ovr b s t k)
theorem ovL_succ {b : List (List Int)} {s t : Int × Int} {R : Nat} : ovL b s t (R + 1) = ovL b s t R ++ [Da.int (ovr b s t (R + 1))] := by
  unfold ovL
  rw [List.range_succ, List.map_append]
  rfl
theorem ovL_len {b : List (List Int)} {s t : Int × Int} {R : Nat} : (ovL b s t R).length = R + 1 := by unfold ovL; simp
theorem ovL_at {b : List (List Int)} {s t : Int × Int} {R k : Nat} (h : k ≤ R) : (ovL b s t R)[k]? = some (Da.int (ovr b s t k)) := by
  unfold ovL
  rw [List.getElem?_map, List.getElem?_range (by omega)]
  rfl
theorem ovL_last {b : List (List Int)} {s t : Int × Int} {R : Nat} : L2.atI (ovL b s t R) (-1) = some (Da.int (ovr b s t R)) := by
  cases R with
  | zero => rfl
  | succ R => rw [ovL_succ]; exact ix_last
theorem ovr_bd {b : List (List Int)} {s t : Int × Int} (hb : Bk b) (hs : St b s) (ht : St b t) (n : Nat) : 0 ≤ ovr b s t n ∧ ovr b s t n ≤ 99 * (n : Int) := psum_bd (exc_bd hb hs ht) n
theorem ovr_self {b : List (List Int)} {s : Int × Int} : ∀ n, ovr b s s n = 0
  | 0 => rfl
  | n + 1 => by
    show ovr b s s n + exc b s s n = 0
    rw [ovr_self n]
    unfold exc
    omega
end Sk

/-! ### the law's own strokes -/
namespace Sk
open PySem
theorem law_strokes_ok {b : List (List Int)} {s : Int × Int} (hb : Bk b) (h : St b s) {k : Int} {mu : Mem} : m_law_strokes [encB b, encS s, .int k] mu = .ok (.int (stk b s k)) mu := by
  refine eq_of_yes ?_
  have ge := (hb.ck _ h.mem).ge
  unfold m_law_strokes
  rw [yes_fn3]
  simp [h.at, at0, at1, stk_at hb h]
  omega
end Sk

/-! ### the law's starts -/
namespace Sk
open PySem
/-- the starts, in order -/
theorem law_starts_ok {b : List (List Int)} (hb : Bk b) (mu : Mem) : ∃ L : List (Int × Int), L ≠ [] ∧ L.length ≤ 100 ∧ Sts b L ∧ m_law_starts [encB b] mu = .ok (.lst (L.map encS)) mu := by
  have h1 := hb.ge
  have h2 := hb.le
  have y : Yes (m_law_starts [encB b] mu) fun d m => (∃ L : List (Int × Int), L ≠ [] ∧ L.length ≤ 100 ∧ Sts b L ∧ d = .lst (L.map encS)) ∧ m = mu := by
    unfold m_law_starts
    rw [yes_fn1]
    simp
    refine ⟨sz_of (by omega) (by omega), ?_⟩
    refine sp_range (fun j rho m => ∃ (L : List (Int × Int)) (v2 v3 : Sl), rho = [Sl.val (encB b), Sl.val (.lst (L.map encS)), v2, v3] ∧ j ≤ L.length ∧ L.length ≤ 24 * j ∧ Sts b L ∧ m = mu) ⟨[], _, _, rfl, by simp, by simp, (fun _ h => nomatch h), rfl⟩ (fun j rho m hj i => ⟨_, rfl, ?_⟩) fun rho m i => ?_
    · obtain ⟨L, v2, v3, rfl, l1, l2, l3, rfl⟩ := i
      have hl : j < b.length := hj
      have ej : L2.atI (b.map encC) (j : Int) = some (encC b[j]) := ix_nat (by omega) (by rw [Int.toNat_natCast, List.getElem?_map, List.getElem?_eq_getElem hl]; rfl)
      have ck := hb.ck _ (List.getElem_mem hl)
      have g1 := ck.ge
      have g2 := ck.le
      simp [ej]
      refine ⟨sz_of (by omega) (by omega), sz_lt (by rw [rngD_len]; omega), ?_⟩
      refine yes_of_eq (cLoop_rng0 (fun k => encS ((j : Int), (k : Int))) fun k hk => ⟨_, rfl, eq_of_yes ?_⟩) ?_
      · simp
      · simp
        refine ⟨sz_le (by omega), L ++ (List.range b[j].length).map (fun k => ((j : Int), ((k : Nat) : Int))), by simp, by simp; omega, by simp; omega, fun s hs => ?_⟩
        rcases List.mem_append.mp hs with q | q
        · exact l3 s q
        · obtain ⟨k, hk, rfl⟩ := List.mem_map.mp q
          have := List.mem_range.mp hk
          refine ⟨by show 0 ≤ (j : Int); omega, by show (j : Int) < _; omega, by show 0 ≤ (k : Int); omega, fun c hc => ?_⟩
          have e : b[((j : Int)).toNat]? = some b[j] := by rw [Int.toNat_natCast]; exact List.getElem?_eq_getElem hl
          rw [e] at hc
          cases hc
          show (k : Int) < _
          omega
    · obtain ⟨L, v2, v3, rfl, l1, l2, l3, rfl⟩ := i
      exact ⟨⟨L, fun z => by have : L.length = 0 := by rw [z]; rfl
                             omega, by omega, l3, rfl⟩, rfl⟩
  obtain ⟨d, m, e, ⟨L, h1, h2, h3, rfl⟩, rfl⟩ := y.eq
  exact ⟨L, h1, h2, h3, e⟩
theorem starts_yes {b : List (List Int)} (hb : Bk b) {mu : Mem} {P : Da → Mem → Prop} (k : ∀ L : List (Int × Int), L ≠ [] → L.length ≤ 100 → Sts b L → P (.lst (L.map encS)) mu) : Yes (m_law_starts [encB b] mu) P := by
  have z := law_starts_ok hb mu
  exact Exists.elim z fun L h => yes_of_eq h.2.2.2 (k L h.1 h.2.1 h.2.2.1)
theorem pick_start {rest : Mem} {n : Nat} {mu : Mem} {b : List (List Int)} {L : List (Int × Int)} {P : Da → Mem → Prop} (h : Dw rest n mu) (h0 : L ≠ []) (h1 : L.length ≤ 100) (hL : Sts b L) (hn : n < 10 ^ 9) (k : ∀ s mu', St b s → Dw rest (n + 1) mu' → P (encS s) mu') : Yes (m_law_pick [.ref 1, .lst (L.map encS)] mu) P := by
  have a1 : L.map encS ≠ [] := by simpa using h0
  have a2 : (L.map encS).length < 2 ^ 60 := by rw [List.length_map]; omega
  have go := pick_yes (P := P) h a1 a2 hn
  refine go fun d mu' hd h' => ?_
  obtain ⟨s, hs, rfl⟩ := List.mem_map.mp hd
  exact k s mu' (hL s hs) h'
end Sk

/-! ### losses; can_confuse -/
namespace Sk
open PySem
structure Lo (l : Int × Int) : Prop where
  a0 : 0 ≤ l.1
  a1 : l.1 ≤ 10 ^ 30
  b0 : 0 ≤ l.2
  b1 : l.2 ≤ 10 ^ 30
theorem need_loss_ok {l : Int × Int} (h : Lo l) (mu : Mem) : m_need_loss [encS l] mu = .ok (encS l) mu := by
  refine eq_of_yes ?_
  have h0 := h.a0; have h1 := h.a1; have h2 := h.b0; have h3 := h.b1
  unfold m_need_loss
  rw [yes_fn1]
  simp [is_whole_int, at0, at1]
  omega
theorem law_loss_yes {rest : Mem} {n : Nat} {mu : Mem} {P : Da → Mem → Prop} (h : Dw rest n mu) (hn : n + 10 < 10 ^ 9) (k : ∀ (l : Int × Int) mu', (0 ≤ l.1 ∧ l.1 ≤ 200) → (0 ≤ l.2 ∧ l.2 ≤ 200) → Dw rest (n + 4) mu' → P (encS l) mu') : Yes (m_law_loss [.ref 1] mu) P := by
  unfold m_law_loss
  rw [yes_fn1]
  try simp
  refine next_yes h (by omega) (Sm.of (by omega) (by omega)) (by omega) fun x mu x0 x1 h => ?_
  try simp
  refine next_yes h (by omega) (Sm.of (by omega) (by omega)) (by omega) fun y mu y0 y1 h => ?_
  try simp
  have get : ∀ d, d ∈ [Da.int 0, Da.int 0, Da.int 1, Da.int 2, Da.int 5, Da.int x, Da.int y] → ∃ i : Int, d = .int i ∧ 0 ≤ i ∧ i ≤ 200 := fun d hd => by
    simp at hd
    rcases hd with e | e | e | e | e | e
    · exact ⟨0, e, by omega, by omega⟩
    · exact ⟨1, e, by omega, by omega⟩
    · exact ⟨2, e, by omega, by omega⟩
    · exact ⟨5, e, by omega, by omega⟩
    · exact ⟨x, e, by omega, by omega⟩
    · exact ⟨y, e, by omega, by omega⟩
  refine pick_yes h (by simp) (by show 7 < 2 ^ 60; decide) (by omega) fun d mu hd h => ?_
  obtain ⟨i, rfl, i0, i1⟩ := get d hd
  try simp
  refine pick_yes h (by simp) (by show 7 < 2 ^ 60; decide) (by omega) fun d mu hd h => ?_
  obtain ⟨j, rfl, j0, j1⟩ := get d hd
  try simp
  exact k (i, j) mu ⟨i0, i1⟩ ⟨j0, j1⟩ (h.mono (by omega))
end Sk

/-! ### can_confuse -/
namespace Sk
open PySem
def cnf (b : List (List Int)) (l s t : Int × Int) (n : Nat) : Bool := decide (ovr b s t n ≤ l.1 + l.2 ∧ ovr b t s n ≤ l.1 + l.2)
end Sk

/-! ### all starts, in order -/
namespace Sk
open PySem
def rowS (b : List (List Int)) (i : Nat) : List (Int × Int) := (List.range ((b[i]?).getD []).length).map fun m : Nat => ((i : Int), (m : Int))
def startsL (b : List (List Int)) : List (Int × Int) := (List.range b.length).flatMap (rowS b)
theorem mem_startsL {b : List (List Int)} {s : Int × Int} : s ∈ startsL b ↔ St b s := by
  unfold startsL rowS
  rw [List.mem_flatMap]
  constructor
  · rintro ⟨i, hi, h⟩
    obtain ⟨m, hm, rfl⟩ := List.mem_map.mp h
    have hi := List.mem_range.mp hi
    have hm := List.mem_range.mp hm
    refine ⟨by show 0 ≤ (i : Int); omega, by show (i : Int) < _; omega, by show 0 ≤ (m : Int); omega, fun c hc => ?_⟩
    have hc : b[((i : Int)).toNat]? = some c := hc
    rw [Int.toNat_natCast] at hc
    rw [hc] at hm
    show (m : Int) < _
    have : m < c.length := hm
    omega
  · intro h
    have h0 := h.n0; have h1 := h.n1; have h2 := h.m0; have h3 := h.m1 _ h.ck
    refine ⟨s.1.toNat, List.mem_range.mpr (by omega), List.mem_map.mpr ⟨s.2.toNat, List.mem_range.mpr ?_, ?_⟩⟩
    · rw [h.ck]
      show s.2.toNat < (ckOf b s).length
      omega
    · rw [Int.toNat_of_nonneg h0, Int.toNat_of_nonneg h2]
theorem flat_len {α β : Type} {f : α → List β} {n : Nat} : ∀ {L : List α}, (∀ x ∈ L, (f x).length ≤ n) → (L.flatMap f).length ≤ n * L.length
  | [], _ => by simp
  | x :: L, h => by
    have h1 := h x (by simp)
    have h2 := flat_len (L := L) fun y hy => h y (List.mem_cons_of_mem _ hy)
    rw [List.flatMap_cons, List.length_append, List.length_cons, Nat.mul_add, Nat.mul_one]
    omega
theorem rowS_len {b : List (List Int)} (hb : Bk b) (i : Nat) : (rowS b i).length ≤ 24 := by
  unfold rowS
  rw [List.length_map, List.length_range]
  cases e : b[i]? with
  | none => exact Nat.zero_le _
  | some c => exact (hb.ck c (List.mem_of_getElem? e)).le
theorem startsL_len {b : List (List Int)} (hb : Bk b) : (startsL b).length ≤ 72 := by
  have h := flat_len (L := List.range b.length) (f := rowS b) (n := 24) fun i _ => rowS_len hb i
  have h2 := hb.le
  rw [List.length_range] at h
  have : 24 * b.length ≤ 24 * 3 := Nat.mul_le_mul_left _ h2
  exact Nat.le_trans h this
theorem startsL_ne {b : List (List Int)} (hb : Bk b) : startsL b ≠ [] := by
  have h1 := hb.ge
  have hl : 0 < b.length := by omega
  have ck := (hb.ck _ (List.getElem_mem hl)).ge
  have : St b (0, 0) := ⟨by decide, by show (0 : Int) < _; omega, by decide, fun c hc => by
    have hc : b[0]? = some c := hc
    rw [List.getElem?_eq_getElem hl] at hc
    cases hc
    show (0 : Int) < _
    omega⟩
  exact List.ne_nil_of_mem (mem_startsL.mpr this)
theorem law_starts_eq {b : List (List Int)} (hb : Bk b) (mu : Mem) : m_law_starts [encB b] mu = .ok (.lst ((startsL b).map encS)) mu := by
  have h1 := hb.ge
  have h2 := hb.le
  refine eq_of_yes ?_
  unfold m_law_starts
  rw [yes_fn1]
  simp
  refine ⟨sz_of (by omega) (by omega), ?_⟩
  refine sp_range (fun j rho m => ∃ (v2 v3 : Sl), rho = [Sl.val (encB b), Sl.val (.lst (((List.range j).flatMap (rowS b)).map encS)), v2, v3] ∧ m = mu) ⟨_, _, rfl, rfl⟩ (fun j rho m hj i => ⟨_, rfl, ?_⟩) fun rho m i => ?_
  · obtain ⟨v2, v3, rfl, rfl⟩ := i
    have hl : j < b.length := hj
    have ej : L2.atI (b.map encC) (j : Int) = some (encC b[j]) := ix_nat (by omega) (by rw [Int.toNat_natCast, List.getElem?_map, List.getElem?_eq_getElem hl]; rfl)
    have ck := hb.ck _ (List.getElem_mem hl)
    have g1 := ck.ge
    have g2 := ck.le
    have pl := flat_len (L := List.range j) (f := rowS b) (n := 24) fun i _ => rowS_len hb i
    rw [List.length_range] at pl
    generalize eA : (List.range j).flatMap (rowS b) = A at *
    simp [ej]
    refine ⟨sz_of (by omega) (by omega), sz_lt (by rw [rngD_len]; omega), ?_⟩
    refine yes_of_eq (cLoop_rng0 (fun k => encS ((j : Int), (k : Int))) fun k hk => ⟨_, rfl, eq_of_yes ?_⟩) ?_
    · simp
    · simp
      refine ⟨sz_le (by omega), ?_⟩
      rw [List.range_succ, List.flatMap_append, eA, List.map_append, List.flatMap_singleton]
      congr 1
      unfold rowS
      rw [List.getElem?_eq_getElem hl, List.map_map]
      rfl
  · obtain ⟨v2, v3, rfl, rfl⟩ := i
    exact ⟨rfl, rfl⟩
theorem enum_eq (b : List (List Int)) : enumD 0 (b.map encC) = (List.range b.length).map fun i : Nat => Da.tup [.int (i : Int), encC ((b[i]?).getD [])] := by
  refine List.ext_getElem? fun i => ?_
  rw [enumD_get, List.getElem?_map, List.getElem?_map, Nat.zero_add]
  by_cases h : i < b.length
  · rw [List.getElem?_range h, List.getElem?_eq_getElem h]
    simp [h]
  · rw [List.getElem?_eq_none (Nat.not_lt.mp h), List.getElem?_eq_none (by rw [List.length_range]; omega)]
    rfl
def zsD : Da → List Da
  | .tup [.int i, .tup cs] => (List.range cs.length).map fun m : Nat => .tup [.int i, .int (m : Int)]
  | _ => []
theorem all_starts_eq {b : List (List Int)} (hb : Bk b) (mu : Mem) : m_all_starts [encB b] mu = .ok (.lst ((startsL b).map encS)) mu := by
  have h1 := hb.ge
  have h2 := hb.le
  refine eq_of_yes ?_
  unfold m_all_starts
  rw [yes_fn1]
  simp
  have key : (enumD 0 (b.map encC)).flatMap zsD = (startsL b).map encS := by
    rw [enum_eq, List.flatMap_map]
    unfold startsL
    rw [List.map_flatMap]
    congr 1
    funext i
    unfold rowS zsD
    simp
  have pl := startsL_len hb
  refine yes_of_eq (cLoop2_enc zsD (L := enumD 0 (b.map encC)) fun x hx => ?_) ?_
  · obtain ⟨i, e⟩ := List.mem_iff_getElem?.mp hx
    obtain ⟨y, ey, rfl⟩ := enum_get e
    rw [List.getElem?_map] at ey
    obtain ⟨c, ec, rfl⟩ := Option.map_eq_some_iff.mp ey
    have ck := hb.ck c (List.mem_of_getElem? ec)
    have g1 := ck.ge
    have g2 := ck.le
    refine ⟨_, rngD 0 c.length, rfl, eq_of_yes ?_, ?_⟩
    · simp
      exact sz_of (by omega) (by omega)
    · refine (cLoop_rng0 (fun k => encS ((i : Int), (k : Int))) fun k hk => ⟨_, rfl, eq_of_yes ?_⟩).trans ?_
      · simp
      · show _ = Out.ok ((List.range (c.map Da.int).length).map fun m : Nat => Da.tup [.int (i : Int), .int (m : Int)]) mu
        rw [List.length_map]
  · rw [key]
    exact ⟨sz_le (by rw [List.length_map]; omega), rfl, rfl⟩
end Sk

/-! ### how far a sum stays within a bound -/
namespace Sk
open PySem
/-- p holds up to c and not behind it -/
def Upto (p : Nat → Bool) (c : Nat) : Prop := p c = true ∧ p (c + 1) = false
def Down (p : Nat → Bool) : Prop := ∀ k, p (k + 1) = true → p k = true
theorem Down.le {p : Nat → Bool} (d : Down p) : ∀ {k j : Nat}, j ≤ k → p k = true → p j = true
  | 0, j, h, e => by rw [show j = 0 by omega]; exact e
  | k + 1, j, h, e => by
    by_cases q : j = k + 1
    · rw [q]; exact e
    · exact d.le (k := k) (by omega) (d k e)
theorem Upto.unique {p : Nat → Bool} (d : Down p) {a b : Nat} (ha : Upto p a) (hb : Upto p b) : a = b := by
  rcases Nat.lt_trichotomy a b with h | h | h
  · have := d.le (show a + 1 ≤ b by omega) hb.1
    rw [ha.2] at this; cases this
  · exact h
  · have := d.le (show b + 1 ≤ a by omega) ha.1
    rw [hb.2] at this; cases this
/-- counting finds it -/
theorem count_upto {p : Nat → Bool} (d : Down p) (h0 : p 0 = true) : ∀ {P : Nat}, p P = false → ∃ c, c < P ∧ Upto p c ∧ ((List.range' 1 P).filter p).length = c
  | 0, h => by rw [h0] at h; cases h
  | P + 1, h => by
    cases e : p P with
    | true =>
      refine ⟨P, by omega, ⟨e, h⟩, ?_⟩
      rw [List.range'_concat, List.filter_append, List.length_append]
      have f1 : (List.range' 1 P).filter p = List.range' 1 P := List.filter_eq_self.mpr fun k hk => by
        have := List.mem_range'_1.mp hk
        exact d.le (show k ≤ P by omega) e
      rw [f1, List.length_range', Nat.one_mul, Nat.add_comm 1 P, List.filter_cons_of_neg (by rw [h]; decide)]
      simp
    | false =>
      obtain ⟨c, c1, c2, c3⟩ := count_upto d h0 e
      refine ⟨c, by omega, c2, ?_⟩
      rw [List.range'_concat, List.filter_append, List.length_append, c3, Nat.one_mul, Nat.add_comm 1 P, List.filter_cons_of_neg (by rw [h]; decide)]
      simp
theorem psum_mono {f : Nat → Int} (h : ∀ k, 0 ≤ f k) (n : Nat) : psum f n ≤ psum f (n + 1) := by
  have := h n
  show psum f n ≤ psum f n + f n
  omega
theorem psum_zero {f : Nat → Int} (h : ∀ k, 0 ≤ f k) : ∀ {n : Nat}, psum f n = 0 → ∀ k, k < n → f k = 0
  | 0, _, k, hk => by omega
  | n + 1, e, k, hk => by
    have e : psum f n + f n = 0 := e
    have h1 := h n
    have h2 : ∀ n, 0 ≤ psum f n := fun n => by
      induction n with
      | zero => exact Int.le_refl _
      | succ n ih => have := psum_mono h n; omega
    have h3 := h2 n
    by_cases q : k = n
    · rw [q]; omega
    · exact psum_zero h (n := n) (by omega) k (by omega)
/-- so many marks can be had within the bound -/
def fitsIn (b : List (List Int)) (s t : Int × Int) (most : Int) (n : Nat) : Bool := decide (ovr b s t n ≤ most)
theorem fitsIn_down {b : List (List Int)} {s t : Int × Int} (hb : Bk b) (hs : St b s) (ht : St b t) (most : Int) : Down (fitsIn b s t most) := fun k e => by
  have := psum_mono (fun k => (exc_bd hb hs ht k).1) k
  have e := of_decide_eq_true e
  exact decide_eq_true (Int.le_trans this e)
/-- the least common place of both -/
def goodIn (b : List (List Int)) (s t : Int × Int) (most : Int) (n : Nat) : Bool := fitsIn b s t most n && fitsIn b t s most n
theorem goodIn_down {b : List (List Int)} {s t : Int × Int} (hb : Bk b) (hs : St b s) (ht : St b t) (most : Int) : Down (goodIn b s t most) := fun k e => by
  have e := Bool.and_eq_true_iff.mp e
  exact Bool.and_eq_true_iff.mpr ⟨fitsIn_down hb hs ht most k e.1, fitsIn_down hb ht hs most k e.2⟩
theorem goodIn_symm {b : List (List Int)} {s t : Int × Int} {most : Int} : goodIn b t s most = goodIn b s t most := funext fun n => Bool.and_comm _ _
theorem goodIn_cnf {b : List (List Int)} {l s t : Int × Int} {n : Nat} : goodIn b s t (l.1 + l.2) n = cnf b l s t n := by
  unfold goodIn fitsIn cnf
  rw [← Bool.decide_and]
/-- both strike the same for ever -/
def Same2 (b : List (List Int)) (s t : Int × Int) : Prop := ∀ k : Nat, stk b s k = stk b t k
theorem Same2.symm {b : List (List Int)} {s t : Int × Int} (h : Same2 b s t) : Same2 b t s := fun k => (h k).symm
theorem same_round {b : List (List Int)} {s t : Int × Int} {R : Nat} (h0 : 0 < R) (h : ((ckOf b s).length : Int) ∣ (R : Int)) (g : ((ckOf b t).length : Int) ∣ (R : Int)) (e : ∀ k : Nat, k < R → stk b s k = stk b t k) : Same2 b s t := fun k => by
  have per : ∀ q r : Nat, stk b s ((q * R + r : Nat) : Int) = stk b s r ∧ stk b t ((q * R + r : Nat) : Int) = stk b t r := fun q => by
    induction q with
    | zero => intro r; rw [Nat.zero_mul, Nat.zero_add]; exact ⟨rfl, rfl⟩
    | succ q ih =>
      intro r
      have er : (q + 1) * R + r = q * R + r + R := by rw [Nat.succ_mul]; omega
      rw [er, stk_per h, stk_per g]
      exact ih r
  have ek : k = k / R * R + k % R := by rw [Nat.mul_comm, Nat.div_add_mod]
  rw [ek, (per _ _).1, (per _ _).2]
  exact e _ (Nat.mod_lt _ h0)
/-- the bounded sum over a round is nothing only if .. -/
theorem both_zero {b : List (List Int)} {s t : Int × Int} {R : Nat} (hb : Bk b) (hs : St b s) (ht : St b t) (h0 : 0 < R) (h : ((ckOf b s).length : Int) ∣ (R : Int)) (g : ((ckOf b t).length : Int) ∣ (R : Int)) : (ovr b s t R = 0 ∧ ovr b t s R = 0) ↔ Same2 b s t := by
  constructor
  · rintro ⟨e1, e2⟩
    refine same_round h0 h g fun k hk => ?_
    have z1 := psum_zero (fun k => (exc_bd hb hs ht k).1) e1 k hk
    have z2 := psum_zero (fun k => (exc_bd hb ht hs k).1) e2 k hk
    unfold exc at z1 z2
    omega
  · intro hsm
    have z : ∀ n, ovr b s t n = 0 ∧ ovr b t s n = 0 := fun n => by
      induction n with
      | zero => exact ⟨rfl, rfl⟩
      | succ n ih =>
        have := hsm n
        have e1 : ovr b s t (n + 1) = ovr b s t n + exc b s t n := rfl
        have e2 : ovr b t s (n + 1) = ovr b t s n + exc b t s n := rfl
        unfold exc at e1 e2
        omega
    exact z R
/-- a whole round and what is left -/
theorem upto_round {b : List (List Int)} {s t : Int × Int} {R : Nat} (hb : Bk b) (hs : St b s) (ht : St b t) (h0 : 0 < R) (h : ((ckOf b s).length : Int) ∣ (R : Int)) (g : ((ckOf b t).length : Int) ∣ (R : Int)) (most : Int) (q k : Nat) :
    fitsIn b s t most (q * R + k) = decide (ovr b s t k ≤ most - (q : Int) * ovr b s t R) := by
  unfold fitsIn ovr
  rw [psum_mul (exc_per h g)]
  refine decide_eq_decide.mpr ⟨fun e => ?_, fun e => ?_⟩ <;> omega
end Sk

/-! ### facts in common -/
namespace Sk
open PySem
theorem rngD_nat : ∀ (n lo : Nat), rngD (lo : Int) n = (List.range' lo n).map fun k : Nat => Da.int (k : Int)
  | 0, _ => rfl
  | n + 1, lo => by
    show Da.int (lo : Int) :: rngD ((lo : Int) + 1) n = _
    rw [show (lo : Int) + 1 = ((lo + 1 : Nat) : Int) from rfl, rngD_nat n (lo + 1)]
    rfl
theorem ovL_ix {b : List (List Int)} {s t : Int × Int} {R k : Nat} (h : k ≤ R) : L2.atI (ovL b s t R) (k : Int) = some (Da.int (ovr b s t k)) := ix_nat (by omega) (by rw [Int.toNat_natCast]; exact ovL_at h)
mutual
theorem eqv_self : ∀ {d : Da}, fine d = true → PyData.eqv (toPy d) (toPy d) = true
  | .non, _ => rfl
  | .bl b, _ => by cases b <;> rfl
  | .int i, _ => beq_self_eq_true i
  | .tup xs, h => eqvs_self (ds := xs) h
  | .lst xs, h => eqvs_self (ds := xs) h
  | .str _, h => by cases h
  | .ref _, h => by cases h
theorem eqvs_self : ∀ {ds : List Da}, fines ds = true → PyData.eqvAll (toPys ds) (toPys ds) = true
  | [], _ => rfl
  | x :: xs, h => by
    have hh := Bool.and_eq_true_iff.mp (show (fine x && fines xs) = true from h)
    exact Bool.and_eq_true_iff.mpr ⟨eqv_self hh.1, eqvs_self hh.2⟩
end
theorem ne_self {d : Da} (h : fine d = true) (hd : depD d ≤ 64) : neD d d = some (.bl false) := by
  unfold neD
  rw [if_pos (fine_okEq h h hd hd), eqv_self h]
  rfl
theorem eq_self {d : Da} (h : fine d = true) (hd : depD d ≤ 64) : eqD d d = some (.bl true) := by
  unfold eqD
  rw [if_pos (fine_okEq h h hd hd), eqv_self h]
theorem neD_bl {x y : Bool} : neD (.bl x) (.bl y) = some (.bl (!(x == y))) := by
  have e : okEq (.bl x) (.bl y) = true := rfl
  unfold neD
  rw [if_pos e]
  rfl
theorem bkOf {b : List (List Int)} (h1 : 1 ≤ b.length) (h2 : b.length ≤ 3) (h : ∀ c ∈ b, (decide (1 ≤ c.length) && decide (c.length ≤ 24) && c.all fun x => decide (0 ≤ x ∧ x ≤ 99)) = true) : Bk b := ⟨h1, h2, fun c hc => by
  have e := h c hc
  simp only [Bool.and_eq_true, decide_eq_true_eq, List.all_eq_true] at e
  exact ⟨e.1.1, e.1.2, e.2⟩⟩
end Sk

/-! ### whether two strike the same for ever -/
namespace Sk
open PySem
def sameB (b : List (List Int)) (s t : Int × Int) : Bool := (List.range ((ckOf b s).length * (ckOf b t).length)).all fun k => decide (stk b s k = stk b t k)
theorem prod_dvd {b : List (List Int)} {s t : Int × Int} : ((ckOf b s).length : Int) ∣ (((ckOf b s).length * (ckOf b t).length : Nat) : Int) ∧ ((ckOf b t).length : Int) ∣ (((ckOf b s).length * (ckOf b t).length : Nat) : Int) := by
  rw [Int.natCast_mul]
  exact ⟨Int.dvd_mul_right _ _, Int.dvd_mul_left _ _⟩
theorem prod_pos {b : List (List Int)} {s t : Int × Int} (hb : Bk b) (hs : St b s) (ht : St b t) : 0 < (ckOf b s).length * (ckOf b t).length ∧ (ckOf b s).length * (ckOf b t).length ≤ 576 := by
  have g1 := (hb.ck _ hs.mem).ge
  have g2 := (hb.ck _ ht.mem).ge
  have g3 := (hb.ck _ hs.mem).le
  have g4 := (hb.ck _ ht.mem).le
  exact ⟨Nat.mul_pos g1 g2, Nat.mul_le_mul g3 g4⟩
theorem sameB_iff {b : List (List Int)} {s t : Int × Int} (hb : Bk b) (hs : St b s) (ht : St b t) : sameB b s t = true ↔ Same2 b s t := by
  unfold sameB
  rw [List.all_eq_true]
  constructor
  · intro h
    exact same_round (prod_pos hb hs ht).1 prod_dvd.1 prod_dvd.2 fun k hk => of_decide_eq_true (h k (List.mem_range.mpr hk))
  · intro h k _
    exact decide_eq_true (h k)
theorem allD_rng {n : Nat} {p : Nat → Bool} : allD [.lst ((List.range n).map fun k => Da.bl (p k))] = some (.bl ((List.range n).all p)) := by
  have e : (List.range n).map (fun k => Da.bl (p k)) = ((List.range n).map p).map Da.bl := by rw [List.map_map]; rfl
  show (boolsOf _).map (fun bs => Da.bl (bs.all id)) = _
  rw [e, boolsOf_map, Option.map_some, List.all_map]
  rfl
theorem are_same_in_ok {b : List (List Int)} {s t : Int × Int} (hb : Bk b) (hs : St b s) (ht : St b t) (mu : Mem) : m_are_same_in [encB b, encS s, encS t] mu = .ok (.bl (sameB b s t)) mu := by
  refine eq_of_yes ?_
  obtain ⟨R, r0, r1, d1, d2, e⟩ := common_round_ok hb hs ht mu
  have eR : ((R.toNat : Nat) : Int) = R := Int.toNat_of_nonneg (by omega)
  unfold m_are_same_in
  rw [yes_fn3]
  simp [e]
  refine ⟨sz_of (by omega) (by omega), sz_lt (by rw [rngD_len]; omega), ?_⟩
  refine yes_of_eq (cLoop_rng0 (fun k => Da.bl (decide (stk b s k = stk b t k))) fun k hk => ⟨_, rfl, eq_of_yes ?_⟩) ?_
  · simp [struck_ok hb hs, struck_ok hb ht]
  · rw [allD_rng]
    refine ⟨congrArg Da.bl ?_, rfl⟩
    rw [Bool.eq_iff_iff, sameB_iff hb hs ht, List.all_eq_true]
    constructor
    · intro h
      exact same_round (R := R.toNat) (by omega) (by rw [eR]; exact d1) (by rw [eR]; exact d2) fun k hk => of_decide_eq_true (h k (List.mem_range.mpr hk))
    · intro h k _
      exact decide_eq_true (h k)
theorem law_same_ok {b : List (List Int)} {s t : Int × Int} (hb : Bk b) (hs : St b s) (ht : St b t) (mu : Mem) : m_law_same [encB b, encS s, encS t] mu = .ok (.bl (sameB b s t)) mu := by
  refine eq_of_yes ?_
  obtain ⟨pp, pl⟩ := prod_pos hb hs ht
  have eR : ((ckOf b s).length : Int) * ((ckOf b t).length : Int) = (((ckOf b s).length * (ckOf b t).length : Nat) : Int) := (Int.natCast_mul _ _).symm
  have hlen : (ckOf b s).length ≤ 24 := (hb.ck _ hs.mem).le
  have hlen2 : (ckOf b t).length ≤ 24 := (hb.ck _ ht.mem).le
  unfold m_law_same
  rw [yes_fn3]
  simp [hs.at, ht.at, at0, at1]
  rw [eR]
  refine ⟨mulOk (k := 10) (l := 10) (Sm.of (by omega) (by omega)) (Sm.of (by omega) (by omega)), sz_of (by omega) (by omega), ?_⟩
  rw [Int.toNat_natCast]
  refine sp_range (fun j rho m => ∃ v3, rho = [Sl.val (encB b), Sl.val (encS s), Sl.val (encS t), v3] ∧ m = mu ∧ ∀ k : Nat, k < j → stk b s k = stk b t k) ⟨_, rfl, rfl, fun k hk => absurd hk (Nat.not_lt_zero k)⟩ (fun j rho m hj i => ⟨_, rfl, ?_⟩) fun rho m i => ?_
  · obtain ⟨v3, rfl, rfl, hk⟩ := i
    simp [law_strokes_ok hb hs, law_strokes_ok hb ht]
    split
    · rename_i e
      refine fun k hkj => ?_
      by_cases q : k = j
      · rw [q]; exact e
      · exact hk k (by omega)
    · rename_i e
      have : ¬ sameB b s t = true := fun z => e ((sameB_iff hb hs ht).mp z j)
      exact Bool.eq_false_iff.mpr this
  · obtain ⟨v3, rfl, rfl, hk⟩ := i
    have : sameB b s t = true := (sameB_iff hb hs ht).mpr (same_round pp prod_dvd.1 prod_dvd.2 hk)
    exact ⟨this.symm ▸ rfl, rfl⟩
end Sk

/-! ### rows: strokes lost and added -/
namespace Sk
open PySem
def rg (r : List Int) (k : Nat) : Int := (r[k]?).getD 0
def lostP (f : Nat → Int) (r : List Int) (n : Nat) : Int := psum (fun k => max 0 (f k - rg r k)) n
def addP (f : Nat → Int) (r : List Int) (n : Nat) : Int := psum (fun k => max 0 (rg r k - f k)) n
theorem rg_app {r : List Int} {c : Int} {k : Nat} (h : k < r.length) : rg (r ++ [c]) k = rg r k := by
  unfold rg
  rw [List.getElem?_append_left h]
theorem rg_last {r : List Int} {c : Int} : rg (r ++ [c]) r.length = c := by
  unfold rg
  simp
theorem lost_app {f : Nat → Int} {r : List Int} {c : Int} : lostP f (r ++ [c]) (r.length + 1) = lostP f r r.length + max 0 (f r.length - c) := by
  show psum _ r.length + max 0 (f r.length - rg (r ++ [c]) r.length) = _
  rw [rg_last]
  congr 1
  exact psum_congr _ fun k hk => by rw [rg_app hk]
theorem add_app {f : Nat → Int} {r : List Int} {c : Int} : addP f (r ++ [c]) (r.length + 1) = addP f r r.length + max 0 (c - f r.length) := by
  show psum _ r.length + max 0 (rg (r ++ [c]) r.length - f r.length) = _
  rw [rg_last]
  congr 1
  exact psum_congr _ fun k hk => by rw [rg_app hk]
theorem psum_le {f g : Nat → Int} (h : ∀ k, f k ≤ g k) : ∀ n, psum f n ≤ psum g n
  | 0 => Int.le_refl _
  | n + 1 => Int.add_le_add (psum_le h n) (h n)
theorem psum_two (f g : Nat → Int) : ∀ n, psum (fun k => f k + g k) n = psum f n + psum g n
  | 0 => rfl
  | n + 1 => by
    show psum (fun k => f k + g k) n + (f n + g n) = (psum f n + f n) + (psum g n + g n)
    rw [psum_two f g n]
    omega
/-- by how much f is above g -/
def upP (f g : Nat → Int) (n : Nat) : Int := psum (fun k => max 0 (f k - g k)) n
theorem up_le {f g : Nat → Int} {r : List Int} {n : Nat} : upP f g n ≤ lostP f r n + addP g r n := by
  unfold upP lostP addP
  rw [← psum_two]
  exact psum_le (fun k => by omega) n
theorem up_nn {f g : Nat → Int} : ∀ n, 0 ≤ upP f g n
  | 0 => Int.le_refl _
  | n + 1 => by
    have := up_nn (f := f) (g := g) n
    show 0 ≤ upP f g n + max 0 (f n - g n)
    omega
/-- a row fits a start -/
def ftB (b : List (List Int)) (l s : Int × Int) (r : List Int) : Bool := decide (lostP (fun k => stk b s k) r r.length ≤ l.1 ∧ addP (fun k => stk b s k) r r.length ≤ l.2)
end Sk

/-! ### what fits a row -/
namespace Sk
open PySem
theorem missed_in_ok {b : List (List Int)} {s : Int × Int} (hb : Bk b) (hs : St b s) {r : List Int} (mu : Mem) : m_missed_in [encB b, encS s, encC r] mu = .ok (encS (lostP (fun k => stk b s k) r r.length, addP (fun k => stk b s k) r r.length)) mu := by
  refine eq_of_yes ?_
  unfold m_missed_in
  rw [yes_fn3]
  simp
  refine sp_loop (k := 0) (fun k rho m2 => ∃ v5 v6 v7, rho = [Sl.val (encB b), Sl.val (encS s), Sl.val (encC r), Sl.val (.int (lostP (fun k => stk b s k) r k)), Sl.val (.int (addP (fun k => stk b s k) r k)), v5, v6, v7] ∧ m2 = mu) ⟨_, _, _, rfl, rfl⟩ (fun k x rho m2 ex i => ?_) fun rho m2 i => ?_
  · obtain ⟨v5, v6, v7, rfl, rfl⟩ := i
    rw [Nat.zero_add] at *
    obtain ⟨y, ey, rfl⟩ := enum_get ex
    rw [List.getElem?_map] at ey
    obtain ⟨c, ec, rfl⟩ := Option.map_eq_some_iff.mp ey
    have e : rg r k = c := by unfold rg; rw [ec]; rfl
    refine ⟨_, rfl, ?_⟩
    simp [struck_ok hb hs]
    refine ⟨?_, ?_⟩
    · show _ + _ = lostP _ r k + max 0 (stk b s k - rg r k)
      rw [e]
    · show _ + _ = addP _ r k + max 0 (rg r k - stk b s k)
      rw [e]
  · obtain ⟨v5, v6, v7, rfl, rfl⟩ := i
    rw [Nat.zero_add, enum_len, List.length_map]
    exact ⟨⟨rfl, rfl⟩, rfl⟩
theorem fits_ok {b : List (List Int)} {l s : Int × Int} (hb : Bk b) (hs : St b s) {r : List Int} (mu : Mem) : m_fits [encB b, encS l, encS s, encC r] mu = .ok (.bl (ftB b l s r)) mu := by
  refine eq_of_yes ?_
  unfold m_fits
  rw [yes_fn4]
  simp [missed_in_ok hb hs, at0, at1]
  unfold ftB
  by_cases h : lostP (fun k => stk b s k) r r.length ≤ l.1 <;> simp [h]
/-- all starts that fit -/
def fitL (b : List (List Int)) (l : Int × Int) (r : List Int) : List (Int × Int) := (startsL b).filter fun s => ftB b l s r
theorem fitting_in_ok {b : List (List Int)} {l : Int × Int} (hb : Bk b) {r : List Int} (mu : Mem) : m_fitting_in [encB b, encS l, encC r] mu = .ok (.lst ((fitL b l r).map encS)) mu := by
  refine eq_of_yes ?_
  have pl := startsL_len hb
  unfold m_fitting_in
  rw [yes_fn3]
  simp [all_starts_eq hb]
  refine ⟨sz_lt (by omega), ?_⟩
  refine yes_of_eq (cLoop_filt encS (fun s => ftB b l s r) encS fun s hs => ⟨_, rfl, eq_of_yes ?_, fun _ => eq_of_yes ?_⟩) ?_
  · simp
    exact yes_of_eq (fits_ok hb (mem_startsL.mp hs) mu) ⟨rfl, rfl⟩
  · simp
  · exact ⟨rfl, rfl⟩
end Sk

/-! ### rows that are heard -/
namespace Sk
open PySem
structure Hd (r : List Int) : Prop where
  le : r.length ≤ 1000
  c : ∀ x ∈ r, 0 ≤ x ∧ x ≤ 10 ^ 30
theorem heard_fault_ok {r : List Int} (h : Hd r) (mu : Mem) : m_heard_fault [encC r] mu = .ok (.lst []) mu := by
  refine eq_of_yes ?_
  have hl := h.le
  unfold m_heard_fault
  rw [yes_fn1]
  simp
  refine ⟨by omega, ?_⟩
  refine sp_loop (k := 0) (fun _ rho m => ∃ v1 v2, rho = [Sl.val (encC r), v1, v2] ∧ m = mu) ⟨_, _, rfl, rfl⟩ (fun j x rho m ex i => ?_) fun rho m ⟨_, _, _, e⟩ => e
  obtain ⟨v1, v2, rfl, rfl⟩ := i
  obtain ⟨y, ey, rfl⟩ := enum_get ex
  rw [List.getElem?_map] at ey
  obtain ⟨c, ec, rfl⟩ := Option.map_eq_some_iff.mp ey
  have hc := h.c c (List.mem_of_getElem? ec)
  refine ⟨_, rfl, ?_⟩
  simp [is_whole_int]
  omega
theorem need_heard_ok {r : List Int} (h : Hd r) (mu : Mem) : m_need_heard [encC r] mu = .ok (encC r) mu := by
  refine eq_of_yes ?_
  unfold m_need_heard
  rw [yes_fn1]
  simp [heard_fault_ok h, sp_loop_nil]
theorem need_all_ok {b : List (List Int)} {l : Int × Int} {r : List Int} (hb : Bk b) (hl : Lo l) (h : Hd r) (mu : Mem) : m_need_all [encB b, encS l, encC r] mu = .ok .non mu := by
  refine eq_of_yes ?_
  unfold m_need_all
  rw [yes_fn3]
  simp [need_book_ok hb, need_loss_ok hl, need_heard_ok h]
end Sk

/-! ### the law's rows -/
namespace Sk
open PySem
theorem law_row_yes {rest : Mem} {n : Nat} {mu : Mem} {b : List (List Int)} (hb : Bk b) {many : Nat} {P : Da → Mem → Prop} (h : Dw rest n mu) (hm : many ≤ 20) (hn : n + 100 < 10 ^ 9)
    (k : ∀ (r : List Int) mu', r.length = many → (∀ c ∈ r, 0 ≤ c ∧ c ≤ 200) → Dw rest (n + 50) mu' → P (encC r) mu') : Yes (m_law_row [.ref 1, encB b, .int many] mu) P := by
  have pl := startsL_len hb
  unfold m_law_row
  rw [yes_fn3]
  simp [law_starts_eq hb]
  refine pick_start h (startsL_ne hb) (by omega) (fun s hs => mem_startsL.mp hs) (by omega) fun s m hs h => ?_
  try simp
  refine ⟨sz_of (by omega) (by omega), ?_⟩
  refine sp_range (fun j rho m => ∃ (r : List Int) (v3 v6 v7 : Sl), rho = [Sl.val (.ref 1), Sl.val (encB b), Sl.val (.int many), v3, Sl.val (encS s), Sl.own (r.map Da.int), v6, v7] ∧ r.length = j ∧ (∀ c ∈ r, 0 ≤ c ∧ c ≤ 200) ∧ Dw rest (n + 1 + 2 * j) m) ⟨[], _, _, _, rfl, rfl, (fun _ h => nomatch h), h⟩ (fun j rho m hj i => ⟨_, rfl, ?_⟩) fun rho m i => ?_
  · obtain ⟨r, v3, v6, v7, rfl, rl, rb, h⟩ := i
    have sb := stk_bd hb hs j
    simp [law_strokes_ok hb hs]
    refine next_yes h (by omega) (Sm.of (by omega) (by omega)) (by omega) fun x m x0 x1 h => ?_
    try simp
    refine pick_yes h (by simp) (by show 8 < 2 ^ 60; decide) (by omega) fun d m hd h => ?_
    have get : ∃ i : Int, d = .int i ∧ -99 ≤ i ∧ i ≤ 30 := by
      simp at hd
      rcases hd with e | e | e | e | e | e <;> exact ⟨_, e, by omega, by omega⟩
    obtain ⟨i, rfl, i0, i1⟩ := get
    simp
    refine ⟨sz_lt (by omega), r ++ [max 0 (stk b s j + i)], by simp, by simp [rl], fun c hc => ?_, h.mono (by omega)⟩
    rcases List.mem_append.mp hc with q | q
    · exact rb c q
    · rw [List.mem_singleton.mp q]; omega
  · obtain ⟨r, v3, v6, v7, rfl, rl, rb, h⟩ := i
    simp
    exact k r m rl rb (h.mono (by omega))
theorem law_gone_ok {b : List (List Int)} {s : Int × Int} (hb : Bk b) (hs : St b s) {r : List Int} (mu : Mem) : m_law_gone [encB b, encS s, encC r] mu = .ok (encS (lostP (fun k => stk b s k) r r.length, addP (fun k => stk b s k) r r.length)) mu := by
  refine eq_of_yes ?_
  unfold m_law_gone
  rw [yes_fn3]
  simp
  refine sp_loop (k := 0) (fun k rho m2 => ∃ v5 v6 v7, rho = [Sl.val (encB b), Sl.val (encS s), Sl.val (encC r), Sl.val (.int (lostP (fun k => stk b s k) r k)), Sl.val (.int (addP (fun k => stk b s k) r k)), v5, v6, v7] ∧ m2 = mu) ⟨_, _, _, rfl, rfl⟩ (fun k x rho m2 ex i => ?_) fun rho m2 i => ?_
  · obtain ⟨v5, v6, v7, rfl, rfl⟩ := i
    rw [Nat.zero_add] at *
    obtain ⟨y, ey, rfl⟩ := enum_get ex
    rw [List.getElem?_map] at ey
    obtain ⟨c, ec, rfl⟩ := Option.map_eq_some_iff.mp ey
    have e : rg r k = c := by unfold rg; rw [ec]; rfl
    refine ⟨_, rfl, ?_⟩
    simp [law_strokes_ok hb hs]
    refine ⟨?_, ?_⟩
    · show _ + _ = lostP _ r k + max 0 (stk b s k - rg r k)
      rw [e]
    · show _ + _ = addP _ r k + max 0 (rg r k - stk b s k)
      rw [e]
  · obtain ⟨v5, v6, v7, rfl, rfl⟩ := i
    rw [Nat.zero_add, enum_len, List.length_map]
    exact ⟨⟨rfl, rfl⟩, rfl⟩
theorem law_fits_ok {b : List (List Int)} {l : Int × Int} (hb : Bk b) {r : List Int} (mu : Mem) : m_law_fits [encB b, encS l, encC r] mu = .ok (.lst ((fitL b l r).map encS)) mu := by
  refine eq_of_yes ?_
  have pl := startsL_len hb
  have mem : ∀ s ∈ startsL b, St b s := fun s hs => mem_startsL.mp hs
  unfold m_law_fits
  rw [yes_fn3]
  simp [law_starts_eq hb]
  unfold fitL
  generalize startsL b = S at *
  refine sp_loop (k := 0) (fun k rho m2 => ∃ v4 v5 v6, rho = [Sl.val (encB b), Sl.val (encS l), Sl.val (encC r), Sl.own (((S.take k).filter fun s => ftB b l s r).map encS), v4, v5, v6] ∧ m2 = mu) ⟨_, _, _, rfl, rfl⟩ (fun k x rho m2 ex i => ?_) fun rho m2 i => ?_
  · obtain ⟨v4, v5, v6, rfl, rfl⟩ := i
    rw [Nat.zero_add] at *
    rw [List.getElem?_map] at ex
    obtain ⟨s, es, rfl⟩ := Option.map_eq_some_iff.mp ex
    have hs := mem s (List.mem_of_getElem? es)
    have fl : ((S.take k).filter fun s => ftB b l s r).length ≤ 72 := by
      refine Nat.le_trans (List.length_filter_le _ _) ?_
      rw [List.length_take]
      omega
    have et : (S.take (k + 1)).filter (fun s => ftB b l s r) = (S.take k).filter (fun s => ftB b l s r) ++ [s].filter fun s => ftB b l s r := by
      rw [List.take_add_one, es, List.filter_append]
      rfl
    rw [et]
    generalize (S.take k).filter (fun s => ftB b l s r) = A at *
    refine ⟨_, rfl, ?_⟩
    have ef : ftB b l s r = (decide (lostP (fun k => stk b s k) r r.length ≤ l.1) && decide (addP (fun k => stk b s k) r r.length ≤ l.2)) := by
      unfold ftB
      rw [Bool.decide_and]
    rw [List.filter_cons, List.filter_nil, ef]
    simp [law_gone_ok hb hs, at0, at1]
    by_cases z : lostP (fun k => stk b s k) r r.length ≤ l.1
    · by_cases z2 : addP (fun k => stk b s k) r r.length ≤ l.2
      · simp [z, z2]
        exact sz_lt (by omega)
      · simp [z, z2]
        omega
    · simp [z]
  · obtain ⟨v4, v5, v6, rfl, rfl⟩ := i
    rw [Nat.zero_add, List.length_map, List.take_length]
    exact ⟨rfl, rfl⟩
end Sk

/-! ### lists of pairs -/
namespace Sk
open PySem
theorem pairs_plain : ∀ ps : List (Int × Int), isDs (ps.map encP) = true ∧ PyData.canLayAll0 (toPys (ps.map encP)) = true ∧ PyData.depthAll (toPys (ps.map encP)) ≤ 1
  | [] => ⟨rfl, rfl, Nat.zero_le _⟩
  | p :: ps => by
    obtain ⟨a, b, c⟩ := pairs_plain ps
    refine ⟨a, b, ?_⟩
    show max 1 (PyData.depthAll (toPys (ps.map encP))) ≤ 1
    omega
theorem ne_nil_pairs {ps : List (Int × Int)} : neD (.lst (ps.map encP)) (.lst []) = some (.bl (!ps.isEmpty)) := by
  obtain ⟨a, b, c⟩ := pairs_plain ps
  have e : okEq (.lst (ps.map encP)) (.lst []) = true := by
    unfold okEq SeqAt.shaped
    show (isDs (ps.map encP) && true && (PyData.canLayAll0 (toPys (ps.map encP)) && decide (PyData.depthAll (toPys (ps.map encP)) + 1 ≤ 64)) && _) = true
    rw [a, b, decide_eq_true (show _ ≤ 64 by omega)]
    rfl
  unfold neD
  rw [if_pos e]
  cases ps <;> rfl
theorem ne_nn : neD (.lst []) (.lst []) = some (.bl false) := ne_nil_pairs (ps := [])
end Sk

/-! ### when a start is known, and what comes next -/
namespace Sk
open PySem
theorem startsL_len60 {b : List (List Int)} (hb : Bk b) (h : ((b[0]?).getD []).length ≤ 12) : (startsL b).length ≤ 60 := by
  have h2 := hb.le
  unfold startsL
  cases e : b.length with
  | zero => simp
  | succ n =>
    rw [List.range_succ_eq_map, List.flatMap_cons, List.length_append]
    have q := flat_len (L := (List.range n).map Nat.succ) (f := rowS b) (n := 24) fun i _ => rowS_len hb i
    rw [List.length_map, List.length_range] at q
    have z : (rowS b 0).length ≤ 12 := by
      unfold rowS
      rw [List.length_map, List.length_range]
      exact h
    omega
def sureB (b : List (List Int)) : List (Int × Int) → Bool
  | [] => false
  | s :: L => L.all fun t => sameB b s t
theorem sameB_refl {b : List (List Int)} {s : Int × Int} : sameB b s s = true := List.all_eq_true.mpr fun k _ => decide_eq_true rfl
theorem fitL_st {b : List (List Int)} {l : Int × Int} {r : List Int} : ∀ s ∈ fitL b l r, St b s := fun s hs => mem_startsL.mp (List.mem_filter.mp hs).1
theorem fitL_le {b : List (List Int)} {l : Int × Int} {r : List Int} : (fitL b l r).length ≤ (startsL b).length := List.length_filter_le _ _
theorem eqD_of_ne {x y : Da} {q : Bool} (h : neD x y = some (.bl q)) : eqD x y = some (.bl (!q)) := by
  unfold neD at h
  unfold eqD
  obtain ⟨z, e⟩ := ite_inv h
  rw [if_pos z]
  cases e
  rw [Bool.not_not]
theorem atI_0 {x : Da} {xs : List Da} : L2.atI (x :: xs) 0 = some x := by
  unfold L2.atI L2.ixN
  rw [if_pos (by decide), if_pos (by rw [List.length_cons]; omega)]
  rfl
theorem cut_n {c : List Int} {k : Nat} : cutDs (c.map Da.int) none (some (k : Int)) = (c.take k).map Da.int := by rw [cut_hi (by omega), Int.toNat_natCast, List.map_take]
theorem are_sure_ok {b : List (List Int)} (hb : Bk b) {L : List (Int × Int)} (hL : ∀ s ∈ L, St b s) (hl : L.length ≤ 72) (mu : Mem) : m_are_sure [encB b, .lst (L.map encS)] mu = .ok (.bl (sureB b L)) mu := by
  refine eq_of_yes ?_
  have n1 := ne_nil_pairs (ps := L)
  unfold m_are_sure
  rw [yes_fn2]
  cases L with
  | nil =>
    simp [ne_nn]
    rfl
  | cons s L =>
    simp only [List.length_cons] at hl
    have hs := hL s (by simp)
    simp at n1
    simp [n1, cut_lo]
    refine ⟨sz_lt (by omega), ?_⟩
    refine yes_of_eq (cLoop_enc encS (fun t => Da.bl (sameB b s t)) fun t ht => ⟨_, rfl, eq_of_yes ?_⟩) ?_
    · have ht := hL t (List.mem_cons_of_mem _ ht)
      simp [atI_0]
      exact yes_of_eq (are_same_in_ok hb hs ht mu) ⟨rfl, rfl⟩
    · have e : allD [.lst (L.map fun t => Da.bl (sameB b s t))] = some (.bl (L.all fun t => sameB b s t)) := by
        rw [show (L.map fun t => Da.bl (sameB b s t)) = (L.map fun t => sameB b s t).map Da.bl by rw [List.map_map]; rfl]
        show (boolsOf _).map (fun bs => Da.bl (bs.all id)) = _
        rw [boolsOf_map, Option.map_some, List.all_map]
        rfl
      simp [e]
      rfl
def knownD (b : List (List Int)) (l : Int × Int) (r : List Int) : Da :=
  match (List.range (r.length + 1)).find? fun k => sureB b (fitL b l (r.take k)) with
  | some k => .int (k : Nat)
  | none => .non
theorem knownD_at {b : List (List Int)} {l : Int × Int} {r : List Int} {j : Nat} (hj : j < r.length + 1) (h : ∀ k : Nat, k < j → sureB b (fitL b l (r.take k)) = false) (g : sureB b (fitL b l (r.take j)) = true) : knownD b l r = .int (j : Nat) := by
  unfold knownD
  rw [List.find?_range_eq_some.mpr ⟨g, List.mem_range.mpr hj, fun k hk => by rw [h k hk]; rfl⟩]
theorem knownD_no {b : List (List Int)} {l : Int × Int} {r : List Int} (h : ∀ k : Nat, k < r.length + 1 → sureB b (fitL b l (r.take k)) = false) : knownD b l r = .non := by
  unfold knownD
  rw [List.find?_range_eq_none.mpr fun k hk => by rw [h k hk]; rfl]
theorem known_behind_ok {b : List (List Int)} {l : Int × Int} {r : List Int} (hb : Bk b) (hl : Lo l) (h : Hd r) (mu : Mem) : m_known_behind [encB b, encS l, encC r] mu = .ok (knownD b l r) mu := by
  refine eq_of_yes ?_
  have h1 := h.le
  unfold m_known_behind
  rw [yes_fn3]
  simp [need_all_ok hb hl h]
  refine ⟨sz_of (by omega) (by omega), ?_⟩
  refine sp_range (fun j rho m => ∃ v3, rho = [Sl.val (encB b), Sl.val (encS l), Sl.val (encC r), v3] ∧ m = mu ∧ ∀ k : Nat, k < j → sureB b (fitL b l (r.take k)) = false) ⟨_, rfl, rfl, fun k hk => absurd hk (Nat.not_lt_zero k)⟩ (fun j rho m hj i => ⟨_, rfl, ?_⟩) fun rho m i => ?_
  · obtain ⟨v3, rfl, rfl, hk⟩ := i
    have e1 := fitting_in_ok (l := l) hb (r := r.take j) m
    rw [show encC (r.take j) = .tup ((r.map Da.int).take j) by simp] at e1
    have e2 := are_sure_ok hb (fitL_st (l := l) (r := r.take j)) (Nat.le_trans fitL_le (startsL_len hb)) m
    simp [cut_n, e1, e2]
    split
    · rename_i g
      exact (knownD_at (by omega) hk g).symm
    · rename_i g
      intro k hkj
      by_cases q : k = j
      · rw [q]; simpa using g
      · exact hk k (by omega)
  · obtain ⟨v3, rfl, rfl, hk⟩ := i
    exact ⟨(knownD_no fun k h => hk k (by omega)).symm, rfl⟩
theorem filt_sure {b : List (List Int)} {s : Int × Int} {L : List (Int × Int)} : ((s :: L).filter fun t => !sameB b s t).isEmpty = sureB b (s :: L) := by
  rw [List.filter_cons, sameB_refl, Bool.eq_iff_iff, List.isEmpty_iff]
  show (if (!true) = true then _ else _) = [] ↔ (L.all fun t => sameB b s t) = true
  rw [if_neg (by decide), List.filter_eq_nil_iff, List.all_eq_true]
  exact ⟨fun h t ht => by simpa using h t ht, fun h t ht => by simp [h t ht]⟩
theorem law_known_ok {b : List (List Int)} {l : Int × Int} {r : List Int} (hb : Bk b) (h1 : r.length ≤ 1000) (mu : Mem) : m_law_known [encB b, encS l, encC r] mu = .ok (knownD b l r) mu := by
  refine eq_of_yes ?_
  unfold m_law_known
  rw [yes_fn3]
  simp
  refine ⟨sz_of (by omega) (by omega), ?_⟩
  refine sp_range (fun j rho m => ∃ v3 v4 v5 v6, rho = [Sl.val (encB b), Sl.val (encS l), Sl.val (encC r), v3, v4, v5, v6] ∧ m = mu ∧ ∀ k : Nat, k < j → sureB b (fitL b l (r.take k)) = false) ⟨_, _, _, _, rfl, rfl, fun k hk => absurd hk (Nat.not_lt_zero k)⟩ (fun j rho m hj i => ⟨_, rfl, ?_⟩) fun rho m i => ?_
  · obtain ⟨v3, v4, v5, v6, rfl, rfl, hk⟩ := i
    have e1 := law_fits_ok (l := l) hb (r := r.take j) m
    rw [show encC (r.take j) = .tup ((r.map Da.int).take j) by simp] at e1
    have n1 := ne_nil_pairs (ps := fitL b l (r.take j))
    have st := fitL_st (b := b) (l := l) (r := r.take j)
    have le := Nat.le_trans (fitL_le (b := b) (l := l) (r := r.take j)) (startsL_len hb)
    simp [cut_n, e1]
    generalize hF : fitL b l (r.take j) = F at *
    have step : ∀ {q : Bool}, sureB b F = q → q = false → ∀ k : Nat, k < j + 1 → sureB b (fitL b l (r.take k)) = false := fun {q} e1 e2 k hkj => by
      by_cases z : k = j
      · rw [z, hF, e1, e2]
      · exact hk k (by omega)
    refine ⟨sz_lt (by omega), ?_⟩
    refine yes_of_eq (cLoop_filt encS (fun t => !sameB b (F.headD (0, 0)) t) encS fun t ht => ⟨_, rfl, eq_of_yes ?_, fun _ => eq_of_yes ?_⟩) ?_
    · cases F with
      | nil => cases ht
      | cons s F =>
        have hs := st s (by simp)
        have ht := st t ht
        simp [atI_0]
        exact yes_of_eq (law_same_ok hb hs ht m) ⟨rfl, rfl⟩
    · simp
    · have n2 := eqD_of_ne (ne_nil_pairs (ps := F.filter fun t => !sameB b (F.headD (0, 0)) t))
      rw [Bool.not_not] at n2
      cases F with
      | nil =>
        simp [ne_nn]
        exact step rfl rfl
      | cons s F =>
        rw [show (s :: F).headD (0, 0) = s from rfl] at n2 ⊢
        rw [filt_sure] at n2
        simp at n1
        simp [n1, n2]
        split
        · rename_i g
          rw [← hF] at g
          exact (knownD_at (by omega) hk g).symm
        · rename_i g
          exact step rfl (by simpa using g)
  · obtain ⟨v3, v4, v5, v6, rfl, rfl, hk⟩ := i
    exact ⟨(knownD_no fun k h => hk k (by omega)).symm, rfl⟩
def nextL (b : List (List Int)) (l : Int × Int) (r : List Int) : List Int := sortI (dedI ((fitL b l r).map fun s => stk b s r.length))
theorem nextL_mem {b : List (List Int)} {l : Int × Int} {r : List Int} (hb : Bk b) : ∀ n ∈ nextL b l r, 0 ≤ n ∧ n ≤ 99 := fun n hn => by
  have h := (dedI_mem _ _).mp ((sortI_perm _).mem_iff.mp hn)
  obtain ⟨s, hs, rfl⟩ := List.mem_map.mp h
  exact stk_bd hb (fitL_st s hs) r.length
theorem nextL_len {b : List (List Int)} {l : Int × Int} {r : List Int} : (nextL b l r).length ≤ (fitL b l r).length := by
  unfold nextL
  rw [(sortI_perm _).length_eq]
  have := dedI_len ((fitL b l r).map fun s => stk b s r.length)
  rw [List.length_map] at this
  exact this
theorem next_in_ok {b : List (List Int)} {l : Int × Int} {r : List Int} (hb : Bk b) (mu : Mem) : m_next_in [encB b, encS l, encC r] mu = .ok (.lst ((nextL b l r).map Da.int)) mu := by
  refine eq_of_yes ?_
  have e1 := fitting_in_ok (l := l) hb (r := r) mu
  have le := Nat.le_trans (fitL_le (b := b) (l := l) (r := r)) (startsL_len hb)
  unfold m_next_in eDk
  rw [yes_fn3]
  simp [e1]
  refine ⟨sz_lt (by omega), ?_⟩
  refine yes_of_eq (cLoop_enc encS (fun s => Da.int (stk b s r.length)) fun s hs => ⟨_, rfl, eq_of_yes ?_⟩) ?_
  · simp
    refine yes_of_eq (struck_ok hb (fitL_st s hs)) ?_
    simp [chkI]
  · have e : (fitL b l r).map (fun s => Da.int (stk b s r.length)) = ((fitL b l r).map fun s => stk b s r.length).map Da.int := by rw [List.map_map]; rfl
    rw [e]
    have e2 : ∀ ns : List Int, dedD (.lst (ns.map Da.int)) = some (.lst ((dedI ns).map Da.int)) := fun ns => by
      show (intsOf (ns.map Da.int)).map _ = _
      rw [intsOf_map]
      rfl
    have e3 : ∀ ns : List Int, sortedD [.lst (ns.map Da.int)] = some (.lst ((sortI ns).map Da.int)) := fun ns => by
      show (intsOf (ns.map Da.int)).map _ = _
      rw [intsOf_map]
      rfl
    rw [e2]
    simp [e3]
    rfl
theorem next_strokes_ok {b : List (List Int)} {l : Int × Int} {r : List Int} (hb : Bk b) (hl : Lo l) (h : Hd r) (mu : Mem) : m_next_strokes [encB b, encS l, encC r] mu = .ok (encC (nextL b l r)) mu := by
  refine eq_of_yes ?_
  unfold m_next_strokes
  rw [yes_fn3]
  simp [need_all_ok hb hl h, next_in_ok hb]
theorem fitting_ok {b : List (List Int)} {l : Int × Int} {r : List Int} (hb : Bk b) (hl : Lo l) (h : Hd r) (mu : Mem) : m_fitting [encB b, encS l, encC r] mu = .ok (.tup ((fitL b l r).map encS)) mu := by
  refine eq_of_yes ?_
  unfold m_fitting
  rw [yes_fn3]
  simp [need_all_ok hb hl h, fitting_in_ok hb]
def goneP (b : List (List Int)) (s : Int × Int) (r : List Int) : Int × Int := (lostP (fun k => stk b s k) r r.length, addP (fun k => stk b s k) r r.length)
theorem missed_ok {b : List (List Int)} {s : Int × Int} {r : List Int} (hb : Bk b) (hs : St b s) (h : Hd r) (mu : Mem) : m_missed [encB b, encS s, encC r] mu = .ok (encS (goneP b s r)) mu := by
  refine eq_of_yes ?_
  unfold m_missed
  rw [yes_fn3]
  simp [need_book_ok hb, need_start_ok hs, need_heard_ok h, missed_in_ok hb hs]
  exact ⟨rfl, rfl⟩
end Sk

/-! ### how great data are -/
namespace Sk
open PySem
structure Zs (d : Da) (n m : Nat) : Prop where
  f : fine d = true
  b : bulkD d ≤ n
  d : depD d ≤ m
theorem zs_int {v : Int} (h0 : 0 ≤ v) (h1 : v ≤ 10 ^ 100) : Zs (.int v) 0 0 := ⟨decide_eq_true (Nat.lt_of_le_of_lt (show v.natAbs ≤ 10 ^ 100 by omega) (Nat.pow_lt_pow_right (by decide) (by decide))), Nat.le_refl _, Nat.le_refl _⟩
theorem zs_non : Zs .non 0 0 := ⟨rfl, Nat.le_refl _, Nat.le_refl _⟩
theorem zs_tup {xs : List Da} {n m : Nat} (h : ∀ x ∈ xs, Zs x n m) : Zs (.tup xs) ((n + 1) * xs.length) (m + 1) := by
  refine ⟨fines_of fun x hx => (h x hx).f, bulkDs_le fun x hx => (h x hx).b, ?_⟩
  have := depDs_le (xs := xs) (n := m) fun x hx => (h x hx).d
  show depDs _ + 1 ≤ _
  omega
theorem zs_C {c : List Int} (h : ∀ i ∈ c, 0 ≤ i ∧ i ≤ 10 ^ 100) : Zs (encC c) c.length 1 := by
  have q := zs_tup (xs := c.map Da.int) (n := 0) (m := 0) fun x hx => by
    obtain ⟨v, hv, rfl⟩ := List.mem_map.mp hx
    exact zs_int (h v hv).1 (h v hv).2
  rw [List.length_map, Nat.zero_add, Nat.one_mul] at q
  exact q
theorem Zs.up {d : Da} {n m n2 m2 : Nat} (h : Zs d n m) (h1 : n ≤ n2) (h2 : m ≤ m2) : Zs d n2 m2 := ⟨h.f, Nat.le_trans h.b h1, Nat.le_trans h.d h2⟩
theorem zs_B {b : List (List Int)} (hb : Bk b) : Zs (encB b) 75 2 := by
  have q := zs_tup (xs := b.map encC) (n := 24) (m := 1) fun x hx => by
    obtain ⟨c, hc, rfl⟩ := List.mem_map.mp hx
    exact (zs_C fun i hi => by have := (hb.ck c hc).st i hi; omega).up (hb.ck c hc).le (Nat.le_refl _)
  rw [List.length_map] at q
  have := hb.le
  exact q.up (by omega) (by omega)
theorem zs_S {s : Int × Int} (h : (0 ≤ s.1 ∧ s.1 ≤ 10 ^ 100) ∧ 0 ≤ s.2 ∧ s.2 ≤ 10 ^ 100) : Zs (encS s) 2 1 := zs_C (c := [s.1, s.2]) fun i hi => by
  rcases List.mem_cons.mp hi with rfl | hi
  · exact h.1
  · rw [List.mem_singleton.mp hi]; exact h.2
theorem zs_L {L : List (Int × Int)} (h : ∀ s ∈ L, (0 ≤ s.1 ∧ s.1 ≤ 10 ^ 100) ∧ 0 ≤ s.2 ∧ s.2 ≤ 10 ^ 100) : Zs (.tup (L.map encS)) (3 * L.length) 2 := by
  have q := zs_tup (xs := L.map encS) (n := 2) (m := 1) fun x hx => by
    obtain ⟨v, hv, rfl⟩ := List.mem_map.mp hx
    exact zs_S (h v hv)
  rw [List.length_map] at q
  exact q
theorem zs_one {d : Da} {n m : Nat} (h : Zs d n m) (h1 : n ≤ 1000) (h2 : m ≤ 50) : Rp (.lst [d]) := by
  refine ⟨?_, ?_, ?_⟩
  · show (fine d && true) = true
    rw [h.f]; rfl
  · have := h.b
    show bulkD d + 1 + 0 ≤ _
    omega
  · have := h.d
    show max (depD d) 0 + 1 ≤ _
    omega
theorem zs_two {d e : Da} {n m n2 m2 : Nat} (h : Zs d n m) (g : Zs e n2 m2) (h1 : n ≤ 1000) (h2 : m ≤ 50) (g1 : n2 ≤ 1000) (g2 : m2 ≤ 50) : Rp (.lst [d, e]) := by
  refine ⟨?_, ?_, ?_⟩
  · show (fine d && (fine e && true)) = true
    rw [h.f, g.f]; rfl
  · have := h.b; have := g.b
    show bulkD d + 1 + (bulkD e + 1 + 0) ≤ _
    omega
  · have := h.d; have := g.d
    show max (depD d) (max (depD e) 0) + 1 ≤ _
    omega
theorem zs_three {d e f : Da} {n m n2 m2 n3 m3 : Nat} (h : Zs d n m) (g : Zs e n2 m2) (k : Zs f n3 m3) (h1 : n ≤ 1000) (h2 : m ≤ 50) (g1 : n2 ≤ 1000) (g2 : m2 ≤ 50) (k1 : n3 ≤ 1000) (k2 : m3 ≤ 50) : Rp (.lst [d, e, f]) := by
  refine ⟨?_, ?_, ?_⟩
  · show (fine d && (fine e && (fine f && true))) = true
    rw [h.f, g.f, k.f]; rfl
  · have := h.b; have := g.b; have := k.b
    show bulkD d + 1 + (bulkD e + 1 + (bulkD f + 1 + 0)) ≤ _
    omega
  · have := h.d; have := g.d; have := k.d
    show max (depD d) (max (depD e) (max (depD f) 0)) + 1 ≤ _
    omega
end Sk

/-! ### long rows -/
namespace Sk
open PySem
theorem longs1 : (List.range 161).find? (fun k => sureB [[1], [2]] (fitL [[1], [2]] (149, 0) ((List.replicate 160 (1 : Int)).take k))) = some 150 := by decide +kernel
theorem longs2 : fitL [[1], [2]] (0, 0) (List.replicate 999 1 ++ [1]) = [(0, 0)] := by decide +kernel
theorem longs3 : fitL [[1], [2]] (0, 0) (List.replicate 999 1 ++ [2]) = [] := by decide +kernel
theorem longs4 : goneP [[1]] (0, 0) (List.replicate 300 3) = (0, 600) := by decide +kernel
end Sk

/-! ### the law -/
namespace Sk
open PySem
theorem zs_known {b : List (List Int)} {l : Int × Int} {r : List Int} (h1 : r.length ≤ 1000) : Zs (knownD b l r) 0 0 := by
  unfold knownD
  split
  · rename_i k e
    have := List.mem_range.mp (List.mem_of_find?_eq_some e)
    exact zs_int (by omega) (by omega)
  · exact zs_non
theorem zs_fit {b : List (List Int)} (hb : Bk b) {l : Int × Int} {r : List Int} : Zs (.tup ((fitL b l r).map encS)) 216 2 := by
  have le := Nat.le_trans (fitL_le (b := b) (l := l) (r := r)) (startsL_len hb)
  refine (zs_L fun s hs => ?_).up (by omega) (Nat.le_refl _)
  have st := fitL_st s hs
  have h1 := st.n0; have h2 := st.n1; have h3 := st.m0; have h4 := st.m1 _ st.ck
  have h5 := (hb.ck _ st.mem).le
  have h6 := hb.le
  omega
theorem psum_up {f : Nat → Int} {m : Int} : ∀ {n : Nat}, (∀ k, k < n → 0 ≤ f k ∧ f k ≤ m) → 0 ≤ psum f n ∧ psum f n ≤ m * (n : Int)
  | 0, _ => ⟨Int.le_refl _, by show (0 : Int) ≤ m * 0; omega⟩
  | n + 1, h => by
    obtain ⟨h1, h2⟩ := psum_up (n := n) fun k hk => h k (by omega)
    obtain ⟨h3, h4⟩ := h n (by omega)
    have e : m * ((n + 1 : Nat) : Int) = m * (n : Int) + m := by
      rw [Int.natCast_add, Int.mul_add]
      simp
    rw [e]
    exact ⟨Int.add_nonneg h1 h3, Int.add_le_add h2 h4⟩
theorem zs_gone {b : List (List Int)} (hb : Bk b) {s : Int × Int} (hs : St b s) {r : List Int} (h : Hd r) : Zs (encS (goneP b s r)) 2 1 := by
  have hl := h.le
  have rb : ∀ k : Nat, 0 ≤ rg r k ∧ rg r k ≤ 10 ^ 30 := fun k => by
    unfold rg
    cases e : r[k]? with
    | none => exact ⟨by decide, by decide⟩
    | some c => exact h.c c (List.mem_of_getElem? e)
  have q1 := psum_up (f := fun k => max 0 (stk b s k - rg r k)) (m := 10 ^ 31) (n := r.length) fun k _ => by
    have := rb k
    have := stk_bd hb hs k
    omega
  have q2 := psum_up (f := fun k => max 0 (rg r k - stk b s k)) (m := 10 ^ 31) (n := r.length) fun k _ => by
    have := rb k
    have := stk_bd hb hs k
    omega
  have q1 : 0 ≤ lostP (fun k => stk b s k) r r.length ∧ lostP (fun k => stk b s k) r r.length ≤ 10 ^ 31 * (r.length : Int) := q1
  have q2 : 0 ≤ addP (fun k => stk b s k) r r.length ∧ addP (fun k => stk b s k) r r.length ≤ 10 ^ 31 * (r.length : Int) := q2
  refine zs_S ?_
  show (0 ≤ lostP _ _ _ ∧ lostP _ _ _ ≤ _) ∧ 0 ≤ addP _ _ _ ∧ addP _ _ _ ≤ _
  omega
theorem zs_next {b : List (List Int)} (hb : Bk b) {l : Int × Int} {r : List Int} : Zs (encC (nextL b l r)) 72 1 := by
  have le := Nat.le_trans (fitL_le (b := b) (l := l) (r := r)) (startsL_len hb)
  exact (zs_C fun i hi => by have := nextL_mem hb i hi; omega).up (Nat.le_trans nextL_len le) (Nat.le_refl _)
theorem two_mul {d : Da} : mulD (.lst [d]) (.int 2) = some (.lst [d, d]) := rfl
/-- one row -/
theorem ask_ok {b : List (List Int)} {l : Int × Int} (hb : Bk b) (h60 : (startsL b).length ≤ 60) (hl : Lo l) {n : Nat} (hn : n + 200 < 10 ^ 9) {v2 v3 v4 v5 v8 v9 v10 v11 v12 v13 : Sl} {m : Mem} (h : Dw [] n m) {D : Po}
    (k : ∀ v4 v8 v9 v10 v11 v12 v13 m', Dw [] (n + 100) m' → D.nx [Sl.val (.ref 0), Sl.val (.ref 1), v2, v3, v4, v5, Sl.val (encB b), Sl.val (encS l), v8, v9, v10, v11, v12, v13] m') :
    SP (m_law_f1 [Sl.val (.ref 0), Sl.val (.ref 1), v2, v3, v4, v5, Sl.val (encB b), Sl.val (encS l), v8, v9, v10, v11, v12, v13] m) D := by
  have pl := startsL_len hb
  unfold m_law_f1
  try simp
  refine next_yes h (by omega) (Sm.of (by omega) (by omega)) (by omega) fun many m m0 m1 h => ?_
  obtain ⟨many, rfl⟩ := Int.eq_ofNat_of_zero_le m0
  try simp
  refine law_row_yes hb h (many := many) (by omega) (by omega) fun r m rl rbd h => ?_
  have hr : Hd r := ⟨by omega, fun x hx => by have := rbd x hx; omega⟩
  have z1 := zs_B hb
  have z2 : Zs (encS l) 2 1 := zs_S ⟨⟨hl.a0, by have := hl.a1; omega⟩, hl.b0, by have := hl.b1; omega⟩
  have z3 : Zs (encC r) 20 1 := (zs_C fun i hi => by have := rbd i hi; omega).up (by omega) (Nat.le_refl _)
  have rp := zs_three z1 z2 z3 (by decide) (by decide) (by decide) (by decide) (by decide) (by decide)
  have zf := zs_fit hb (l := l) (r := r)
  have rf := zs_two zf zf (by decide) (by decide) (by decide) (by decide)
  have lf := law_fits_ok (l := l) hb (r := r) m
  have ft := fitting_ok hb hl hr m
  simp [rp.repr, lf, ft, pick, two_mul, rf.repr, ne_str rf.sok, law_starts_eq hb]
  refine pick_start h (startsL_ne hb) (by omega) (fun s hs => mem_startsL.mp hs) (by omega) fun s m hs h => ?_
  have zg := zs_gone hb hs hr
  have rg2 := zs_two zg zg (by decide) (by decide) (by decide) (by decide)
  have gn := law_gone_ok hb hs (r := r) m
  have ms := missed_ok hb hs hr m
  have zk := zs_known (b := b) (l := l) hr.le
  have rk := zs_two zk zk (by decide) (by decide) (by decide) (by decide)
  have e1 := known_behind_ok hb hl hr m
  have e2 := law_known_ok hb (l := l) hr.le m
  have le := Nat.le_trans (fitL_le (b := b) (l := l) (r := r)) h60
  rw [show encS (lostP (fun k => stk b s k) r r.length, addP (fun k => stk b s k) r r.length) = encS (goneP b s r) from rfl] at gn
  simp [gn, ms, rg2.repr, ne_str rg2.sok, e1, e2, rk.repr, ne_str rk.sok]
  refine ⟨sz_lt (by omega), ?_⟩
  refine yes_of_eq (cLoop_enc encS (fun t => Da.int (stk b t r.length)) fun t ht => ⟨_, rfl, eq_of_yes ?_⟩) ?_
  · simp
    exact yes_of_eq (law_strokes_ok hb (fitL_st t ht)) ⟨rfl, rfl⟩
  have e : (fitL b l r).map (fun t => Da.int (stk b t r.length)) = ((fitL b l r).map fun t => stk b t r.length).map Da.int := by rw [List.map_map]; rfl
  have e3 : sorSetD [.lst ((fitL b l r).map fun t => Da.int (stk b t r.length))] = some (.lst ((nextL b l r).map Da.int)) := by
    rw [e]
    show (intsOf _).bind _ = _
    rw [intsOf_map]
    show (if _ then _ else _) = _
    rw [if_pos (by rw [List.length_map]; omega)]
    rfl
  have zn := zs_next hb (l := l) (r := r)
  have rn := zs_two zn zn (by decide) (by decide) (by decide) (by decide)
  have nx := next_strokes_ok hb hl hr m
  simp [e3, nx, rn.repr, ne_str rn.sok, ne_str rp.sok]
  exact k _ _ _ _ _ _ _ _ (h.mono (by omega))
/-- one turn -/
theorem turn_ok {n : Nat} (hn : n + 10000 < 10 ^ 9) {v2 v3 v4 v5 v6 v7 v8 v9 v10 v11 v12 v13 : Sl} {m : Mem} (h : Dw [] n m) {D : Po}
    (k : ∀ v4 v5 v6 v7 v8 v9 v10 v11 v12 v13 m', Dw [] (n + 9000) m' → D.nx [Sl.val (.ref 0), Sl.val (.ref 1), v2, v3, v4, v5, v6, v7, v8, v9, v10, v11, v12, v13] m') :
    SP (m_law_f2 [Sl.val (.ref 0), Sl.val (.ref 1), v2, v3, v4, v5, v6, v7, v8, v9, v10, v11, v12, v13] m) D := by
  unfold m_law_f2
  try simp
  refine pick_yes h (by simp) (by show 3 < 2 ^ 60; decide) (by omega) fun d m hm h => ?_
  have hd : ∃ x : Int, d = .int x ∧ 1 ≤ x ∧ x ≤ 12 := by
    simp at hm
    rcases hm with e | e | e
    · exact ⟨3, e, by omega, by omega⟩
    · exact ⟨6, e, by omega, by omega⟩
    · exact ⟨12, e, by omega, by omega⟩
  obtain ⟨x, rfl, x0, x1⟩ := hd
  try simp
  refine book12_yes h x0 x1 (by omega) fun b m hb h12 h => ?_
  try simp
  refine law_loss_yes h (by omega) fun l m l0 l1 h => ?_
  try simp
  have lo : Lo l := ⟨l0.1, by omega, l1.1, by omega⟩
  refine ⟨sz_of (by omega) (by omega), ?_⟩
  refine sp_range (fun j rho m => ∃ v4 v5 v8 v9 v10 v11 v12 v13, rho = [Sl.val (.ref 0), Sl.val (.ref 1), v2, v3, v4, v5, Sl.val (encB b), Sl.val (encS l), v8, v9, v10, v11, v12, v13] ∧ Dw [] (n + 2005 + 100 * j) m) ⟨_, _, _, _, _, _, _, _, rfl, h.mono (by omega)⟩ (fun j rho m hj i => ⟨_, rfl, ?_⟩) fun rho m i => ?_
  · obtain ⟨v4, v5, v8, v9, v10, v11, v12, v13, rfl, h⟩ := i
    refine ask_ok hb (startsL_len60 hb h12) lo (by omega) h fun v4 v8 v9 v10 v11 v12 v13 m' h' => ?_
    exact ⟨_, _, _, _, _, _, _, _, rfl, h'.mono (by omega)⟩
  · obtain ⟨v4, v5, v8, v9, v10, v11, v12, v13, rfl, h⟩ := i
    exact k _ _ _ _ _ _ _ _ _ _ _ (h.mono (by omega))
theorem known_of {b : List (List Int)} {l : Int × Int} {r : List Int} {n : Nat} (h : ((List.range (r.length + 1)).find? fun k => sureB b (fitL b l (r.take k))) = some n) : knownD b l r = .int (n : Nat) := by
  unfold knownD
  rw [h]
theorem known_no {b : List (List Int)} {l : Int × Int} {r : List Int} (h : ((List.range (r.length + 1)).find? fun k => sureB b (fitL b l (r.take k))) = none) : knownD b l r = .non := by
  unfold knownD
  rw [h]
theorem rep1 {n : Nat} {x : Int} : repL n [Da.int x] = (List.replicate n x).map Da.int := by
  unfold repL
  rw [List.flatten_replicate_singleton, List.map_replicate]
theorem hd_rep {n : Nat} {x : Int} (hn : n ≤ 1000) (h0 : 0 ≤ x) (h1 : x ≤ 10 ^ 30) : Hd (List.replicate n x) := ⟨by rw [List.length_replicate]; exact hn, fun y hy => by rw [List.eq_of_mem_replicate hy]; exact ⟨h0, h1⟩⟩
theorem law_long_ok (mu : Mem) : Yes (m_law_long_right [] mu) fun d m => d = .bl true ∧ m = mu := by
  have b1 : Bk [[4, 4]] := bkOf (by decide) (by decide) (by decide)
  have b2 : Bk [[1], [2]] := bkOf (by decide) (by decide) (by decide)
  have b3 : Bk [[1]] := bkOf (by decide) (by decide) (by decide)
  have s3 : St [[1]] (0, 0) := ⟨by decide, by decide, by decide, fun c hc => by cases hc; decide⟩
  have l0 : Lo (0, 0) := ⟨by decide, by decide, by decide, by decide⟩
  have l1 : Lo (149, 0) := ⟨by decide, by decide, by decide, by decide⟩
  have e1 := known_behind_ok b1 l0 (r := [4, 9]) ⟨by decide, by decide⟩ mu
  rw [known_of (n := 0) (by decide +kernel)] at e1
  have e2 := known_behind_ok b2 l1 (hd_rep (n := 160) (x := 1) (by decide) (by decide) (by decide)) mu
  rw [known_of (n := 150) longs1] at e2
  have e3 := missed_ok b3 s3 (hd_rep (n := 300) (x := 3) (by decide) (by decide) (by decide)) mu
  rw [longs4] at e3
  have hl : ∀ x : Int, 0 ≤ x → x ≤ 10 ^ 30 → Hd (List.replicate 999 1 ++ [x]) := fun x x0 x1 => ⟨by rw [List.length_append, List.length_replicate, List.length_singleton]; decide, fun y hy => by
    rcases List.mem_append.mp hy with q | q
    · rw [List.eq_of_mem_replicate q]; exact ⟨by decide, by decide⟩
    · rw [List.mem_singleton.mp q]; exact ⟨x0, x1⟩⟩
  have e1 : m_known_behind [Da.tup [Da.tup [Da.int 4, Da.int 4]], Da.tup [Da.int 0, Da.int 0], Da.tup [Da.int 4, Da.int 9]] mu = .ok (.int 0) mu := e1
  have e2 : m_known_behind [Da.tup [Da.tup [Da.int 1], Da.tup [Da.int 2]], Da.tup [Da.int 149, Da.int 0], Da.tup (repL 160 [Da.int 1])] mu = .ok (.int 150) mu := by rw [rep1]; exact e2
  have e3 : m_missed [Da.tup [Da.tup [Da.int 1]], Da.tup [Da.int 0, Da.int 0], Da.tup (repL 300 [Da.int 3])] mu = .ok (.tup [.int 0, .int 600]) mu := by rw [rep1]; exact e3
  have n1 : eqD (.lst [.int 0, .int 150, .tup [.int 0, .int 600]]) (.lst [.int 0, .int 150, .tup [.int 0, .int 600]]) = some (.bl true) := eq_self (by decide +kernel) (by decide)
  have n2 : eqD (.lst [.tup [.tup [.int 0, .int 0]], .tup []]) (.lst [.tup [.tup [.int 0, .int 0]], .tup []]) = some (.bl true) := eq_self (by decide +kernel) (by decide)
  unfold m_law_long_right
  rw [yes_fnD (by rfl)]
  try simp
  simp [e1, e2, e3, n1]
  refine ⟨sz_lt (by decide), ?_⟩
  refine yes_of_eq (cLoop_enc Da.int (fun x => Da.tup ((fitL [[1], [2]] (0, 0) (List.replicate 999 1 ++ [x])).map encS)) (L := [1, 2]) fun x hx => ⟨_, rfl, eq_of_yes ?_⟩) ?_
  · have hx : 0 ≤ x ∧ x ≤ 10 ^ 30 := by
      simp at hx
      omega
    have e := fitting_ok b2 l0 (hl x hx.1 hx.2) mu
    rw [show encC (List.replicate 999 1 ++ [x]) = .tup (repL 999 [.int 1] ++ [.int x]) by rw [rep1]; show Da.tup (List.map _ (_ ++ _)) = _; rw [List.map_append]; rfl] at e
    simp
    refine ⟨sz_le (by rw [repL_len]; decide), yes_of_eq e ⟨rfl, rfl⟩⟩
  · rw [show ([1, 2] : List Int).map (fun x => Da.tup ((fitL [[1], [2]] (0, 0) (List.replicate 999 1 ++ [x])).map encS)) = [.tup [.tup [.int 0, .int 0]], .tup []] by
      rw [List.map_cons, List.map_cons, longs2, longs3]
      rfl]
    simp [n1, n2]
def halves : List (List Int) := [[1, 1, 2, 1, 3, 1, 4, 1, 5, 1, 6, 1]]
theorem gone_h : goneP halves (0, 0) [1000000000000000000000000000000, 1000000000000000000000000000000] = (0, 1999999999999999999999999999998) := by decide +kernel
theorem lawful : Lawful m_law := by
  intro ns hl
  have y : Yes (m_law [.ref 0] [.scr (ns.map Da.int)]) fun d m => d = .bl true := by
    unfold m_law
    rw [yes_fn1]
    try simp
    refine begin_yes hl fun mu h => ?_
    try simp
    refine ⟨sz_of (by omega) (by omega), ?_⟩
    refine sp_range (fun j rho m => ∃ v2 v4 v5 v6 v7 v8 v9 v10 v11 v12 v13, rho = [Sl.val (.ref 0), Sl.val (.ref 1), v2, Sl.un, v4, v5, v6, v7, v8, v9, v10, v11, v12, v13] ∧ Dw [] (10000 * j) m) ⟨_, _, _, _, _, _, _, _, _, _, _, rfl, h⟩ (fun j rho m hj i => ⟨_, rfl, ?_⟩) fun rho m i => ?_
    · obtain ⟨v2, v4, v5, v6, v7, v8, v9, v10, v11, v12, v13, rfl, h⟩ := i
      refine turn_ok (by omega) h fun v4 v5 v6 v7 v8 v9 v10 v11 v12 v13 m' h' => ?_
      have h' := h'.mono (k := 10000 * (j + 1)) (by omega)
      exact ⟨_, _, _, _, _, _, _, _, _, _, _, rfl, h'⟩
    · obtain ⟨v2, v4, v5, v6, v7, v8, v9, v10, v11, v12, v13, rfl, h⟩ := i
      have hb : Bk halves := bkOf (by decide) (by decide) (by decide)
      have l0 : Lo (0, 0) := ⟨by decide, by decide, by decide, by decide⟩
      have s0 : St halves (0, 0) := ⟨by decide, by decide, by decide, fun c hc => by cases hc; decide⟩
      have s1 : St halves (0, 10) := ⟨by decide, by decide, by decide, fun c hc => by cases hc; decide⟩
      have e1 := fitting_ok hb l0 (r := [1, 1]) ⟨by decide, by decide⟩ m
      rw [show fitL halves (0, 0) [1, 1] = [(0, 0), (0, 11)] by decide +kernel] at e1
      have e2 := known_behind_ok hb l0 (r := [1, 1, 1]) ⟨by decide, by decide⟩ m
      rw [known_of (n := 3) (by decide +kernel)] at e2
      have e3 := next_strokes_ok hb l0 (r := [1]) ⟨by decide, by decide⟩ m
      have en : nextL halves (0, 0) [1] = [1, 2, 3, 4, 5, 6] := by
        unfold nextL
        rw [show dedI ((fitL halves (0, 0) [1]).map fun s => stk halves s ([1] : List Int).length) = [1, 2, 3, 4, 5, 6] by decide +kernel]
        exact (sortI_unique (List.Perm.refl _) (by decide)).symm
      rw [en] at e3
      have e4 := missed_ok hb s1 (r := [7, 0, 1]) ⟨by decide, by decide⟩ m
      rw [show goneP halves (0, 10) [7, 0, 1] = (1, 1) by decide +kernel] at e4
      have e5 := fitting_ok hb l0 (r := [9]) ⟨by decide, by decide⟩ m
      rw [show fitL halves (0, 0) [9] = [] by decide +kernel] at e5
      have e6 := known_behind_ok hb l0 (r := [9]) ⟨by decide, by decide⟩ m
      rw [known_no (by decide +kernel)] at e6
      have e7 := missed_ok hb s0 (r := [1000000000000000000000000000000, 1000000000000000000000000000000]) ⟨by decide, by decide⟩ m
      rw [gone_h] at e7
      have e1 : m_fitting [Da.tup [Da.tup [Da.int 1, Da.int 1, Da.int 2, Da.int 1, Da.int 3, Da.int 1, Da.int 4, Da.int 1, Da.int 5, Da.int 1, Da.int 6, Da.int 1]], Da.tup [Da.int 0, Da.int 0], Da.tup [Da.int 1, Da.int 1]] m = .ok (.tup [.tup [.int 0, .int 0], .tup [.int 0, .int 11]]) m := e1
      have e2 : m_known_behind [Da.tup [Da.tup [Da.int 1, Da.int 1, Da.int 2, Da.int 1, Da.int 3, Da.int 1, Da.int 4, Da.int 1, Da.int 5, Da.int 1, Da.int 6, Da.int 1]], Da.tup [Da.int 0, Da.int 0], Da.tup [Da.int 1, Da.int 1, Da.int 1]] m = .ok (.int 3) m := e2
      have e3 : m_next_strokes [Da.tup [Da.tup [Da.int 1, Da.int 1, Da.int 2, Da.int 1, Da.int 3, Da.int 1, Da.int 4, Da.int 1, Da.int 5, Da.int 1, Da.int 6, Da.int 1]], Da.tup [Da.int 0, Da.int 0], Da.tup [Da.int 1]] m = .ok (.tup [.int 1, .int 2, .int 3, .int 4, .int 5, .int 6]) m := e3
      have e4 : m_missed [Da.tup [Da.tup [Da.int 1, Da.int 1, Da.int 2, Da.int 1, Da.int 3, Da.int 1, Da.int 4, Da.int 1, Da.int 5, Da.int 1, Da.int 6, Da.int 1]], Da.tup [Da.int 0, Da.int 10], Da.tup [Da.int 7, Da.int 0, Da.int 1]] m = .ok (.tup [.int 1, .int 1]) m := e4
      have e5 : m_fitting [Da.tup [Da.tup [Da.int 1, Da.int 1, Da.int 2, Da.int 1, Da.int 3, Da.int 1, Da.int 4, Da.int 1, Da.int 5, Da.int 1, Da.int 6, Da.int 1]], Da.tup [Da.int 0, Da.int 0], Da.tup [Da.int 9]] m = .ok (.tup []) m := e5
      have e6 : m_known_behind [Da.tup [Da.tup [Da.int 1, Da.int 1, Da.int 2, Da.int 1, Da.int 3, Da.int 1, Da.int 4, Da.int 1, Da.int 5, Da.int 1, Da.int 6, Da.int 1]], Da.tup [Da.int 0, Da.int 0], Da.tup [Da.int 9]] m = .ok .non m := e6
      have e7 : m_missed [Da.tup [Da.tup [Da.int 1, Da.int 1, Da.int 2, Da.int 1, Da.int 3, Da.int 1, Da.int 4, Da.int 1, Da.int 5, Da.int 1, Da.int 6, Da.int 1]], Da.tup [Da.int 0, Da.int 0], Da.tup [Da.int 1000000000000000000000000000000, Da.int 1000000000000000000000000000000]] m = .ok (.tup [.int 0, .int 1999999999999999999999999999998]) m := e7
      have n1 : neD (.lst [.tup [.tup [.int 0, .int 0], .tup [.int 0, .int 11]], .int 3, .tup [.int 1, .int 2, .int 3, .int 4, .int 5, .int 6], .tup [.int 1, .int 1], .tup [], .non]) (.lst [.tup [.tup [.int 0, .int 0], .tup [.int 0, .int 11]], .int 3, .tup [.int 1, .int 2, .int 3, .int 4, .int 5, .int 6], .tup [.int 1, .int 1], .tup [], .non]) = some (.bl false) := ne_self (by decide +kernel) (by decide)
      have n2 : eqD (.tup [.int 0, .int 1999999999999999999999999999998]) (.tup [.int 0, .int 1999999999999999999999999999998]) = some (.bl true) := eq_self (by decide +kernel) (by decide)
      try simp
      simp [e1, e2, e3, e4, e5, e6, n1]
      refine ⟨sz_le (by decide), sz_le (by decide), ?_⟩
      refine yes_of_eq (eq_of_yes (law_long_ok m)) ⟨rfl, ?_⟩
      rw [show repL 2 [Da.int 1000000000000000000000000000000] = [Da.int 1000000000000000000000000000000, Da.int 1000000000000000000000000000000] from rfl]
      refine yes_of_eq e7 ⟨mulOk (k := 10) (l := 110) (Sm.of (by decide) (by decide)) (Sm.of (by decide) (by decide)), ?_⟩
      simp [n2]
  obtain ⟨d, m, e, rfl⟩ := y.eq
  exact ⟨m, e⟩
end Sk

/-! ### the text does what the mirrors do -/
namespace Sk
open PySem PySem.Spec L2
def top (i : Nat) : Stmt := PySem.Challenge.pw_strokesheard_k10_whole_hearing.main.body.getD i (.Pass ⟨0, 0, 0, 0⟩)
abbrev st_law_begin : Stmt := top 37
theorem sc_law_begin : FnScope ["_law_script"] ["_law_script"] (defScope st_law_begin) := ⟨rfl, rfl, rfl, by decide +kernel, rfl, by decide +kernel, by decide +kernel⟩
theorem bd_law_begin : BindOk "_law_begin" st_law_begin ["_law_script"] := fun _ _ _ _ _ _ us hl => match us, hl with | [_], _ => rfl
abbrev st_is_integer : Stmt := top 12
theorem sc_is_integer : FnScope ["thing"] ["thing"] (defScope st_is_integer) := ⟨rfl, rfl, rfl, by decide +kernel, rfl, by decide +kernel, by decide +kernel⟩
theorem bd_is_integer : BindOk "is_integer" st_is_integer ["thing"] := fun _ _ _ _ _ _ us hl => match us, hl with | [_], _ => rfl
abbrev st_is_whole : Stmt := top 13
theorem sc_is_whole : FnScope ["thing", "least", "most"] ["thing", "least", "most"] (defScope st_is_whole) := ⟨rfl, rfl, rfl, by decide +kernel, rfl, by decide +kernel, by decide +kernel⟩
theorem bd_is_whole : BindOk "is_whole" st_is_whole ["thing", "least", "most"] := fun _ _ _ _ _ _ us hl => match us, hl with | [_, _, _], _ => rfl
abbrev st_book_fault : Stmt := top 14
theorem sc_book_fault : FnScope ["thing", "number", "clock", "mark", "strokes"] ["thing"] (defScope st_book_fault) := ⟨rfl, rfl, rfl, by decide +kernel, rfl, by decide +kernel, by decide +kernel⟩
theorem bd_book_fault : BindOk "book_fault" st_book_fault ["thing"] := fun _ _ _ _ _ _ us hl => match us, hl with | [_], _ => rfl
abbrev st_need_book : Stmt := top 15
theorem sc_need_book : FnScope ["thing", "place"] ["thing"] (defScope st_need_book) := ⟨rfl, rfl, rfl, by decide +kernel, rfl, by decide +kernel, by decide +kernel⟩
theorem bd_need_book : BindOk "need_book" st_need_book ["thing"] := fun _ _ _ _ _ _ us hl => match us, hl with | [_], _ => rfl
abbrev st_need_loss : Stmt := top 16
theorem sc_need_loss : FnScope ["thing"] ["thing"] (defScope st_need_loss) := ⟨rfl, rfl, rfl, by decide +kernel, rfl, by decide +kernel, by decide +kernel⟩
theorem bd_need_loss : BindOk "need_loss" st_need_loss ["thing"] := fun _ _ _ _ _ _ us hl => match us, hl with | [_], _ => rfl
abbrev st_heard_fault : Stmt := top 17
theorem sc_heard_fault : FnScope ["thing", "number", "count"] ["thing"] (defScope st_heard_fault) := ⟨rfl, rfl, rfl, by decide +kernel, rfl, by decide +kernel, by decide +kernel⟩
theorem bd_heard_fault : BindOk "heard_fault" st_heard_fault ["thing"] := fun _ _ _ _ _ _ us hl => match us, hl with | [_], _ => rfl
abbrev st_need_heard : Stmt := top 18
theorem sc_need_heard : FnScope ["thing", "number"] ["thing"] (defScope st_need_heard) := ⟨rfl, rfl, rfl, by decide +kernel, rfl, by decide +kernel, by decide +kernel⟩
theorem bd_need_heard : BindOk "need_heard" st_need_heard ["thing"] := fun _ _ _ _ _ _ us hl => match us, hl with | [_], _ => rfl
abbrev st_need_all : Stmt := top 30
theorem sc_need_all : FnScope ["book", "loss", "heard"] ["book", "loss", "heard"] (defScope st_need_all) := ⟨rfl, rfl, rfl, by decide +kernel, rfl, by decide +kernel, by decide +kernel⟩
theorem bd_need_all : BindOk "need_all" st_need_all ["book", "loss", "heard"] := fun _ _ _ _ _ _ us hl => match us, hl with | [_, _, _], _ => rfl
abbrev st_all_starts : Stmt := top 21
theorem sc_all_starts : FnScope ["book", "mark", "number", "clock"] ["book"] (defScope st_all_starts) := ⟨rfl, rfl, rfl, by decide +kernel, rfl, by decide +kernel, by decide +kernel⟩
theorem bd_all_starts : BindOk "all_starts" st_all_starts ["book"] := fun _ _ _ _ _ _ us hl => match us, hl with | [_], _ => rfl
abbrev st_struck : Stmt := top 22
theorem sc_struck : FnScope ["book", "start", "later", "clock"] ["book", "start", "later"] (defScope st_struck) := ⟨rfl, rfl, rfl, by decide +kernel, rfl, by decide +kernel, by decide +kernel⟩
theorem bd_struck : BindOk "struck" st_struck ["book", "start", "later"] := fun _ _ _ _ _ _ us hl => match us, hl with | [_, _, _], _ => rfl
abbrev st_missed_in : Stmt := top 26
theorem sc_missed_in : FnScope ["book", "start", "heard", "lost", "added", "later", "count", "strokes"] ["book", "start", "heard"] (defScope st_missed_in) := ⟨rfl, rfl, rfl, by decide +kernel, rfl, by decide +kernel, by decide +kernel⟩
theorem bd_missed_in : BindOk "missed_in" st_missed_in ["book", "start", "heard"] := fun _ _ _ _ _ _ us hl => match us, hl with | [_, _, _], _ => rfl
abbrev st_fits : Stmt := top 28
theorem sc_fits : FnScope ["book", "loss", "start", "heard", "lost", "added"] ["book", "loss", "start", "heard"] (defScope st_fits) := ⟨rfl, rfl, rfl, by decide +kernel, rfl, by decide +kernel, by decide +kernel⟩
theorem bd_fits : BindOk "fits" st_fits ["book", "loss", "start", "heard"] := fun _ _ _ _ _ _ us hl => match us, hl with | [_, _, _, _], _ => rfl
abbrev st_fitting_in : Stmt := top 29
theorem sc_fitting_in : FnScope ["book", "loss", "heard", "start"] ["book", "loss", "heard"] (defScope st_fitting_in) := ⟨rfl, rfl, rfl, by decide +kernel, rfl, by decide +kernel, by decide +kernel⟩
theorem bd_fitting_in : BindOk "fitting_in" st_fitting_in ["book", "loss", "heard"] := fun _ _ _ _ _ _ us hl => match us, hl with | [_, _, _], _ => rfl
abbrev st_fitting : Stmt := top 31
theorem sc_fitting : FnScope ["book", "loss", "heard"] ["book", "loss", "heard"] (defScope st_fitting) := ⟨rfl, rfl, rfl, by decide +kernel, rfl, by decide +kernel, by decide +kernel⟩
theorem bd_fitting : BindOk "fitting" st_fitting ["book", "loss", "heard"] := fun _ _ _ _ _ _ us hl => match us, hl with | [_, _, _], _ => rfl
abbrev st_common_round : Stmt := top 23
theorem sc_common_round : FnScope ["book", "one", "other", "found", "mine", "yours"] ["book", "one", "other"] (defScope st_common_round) := ⟨rfl, rfl, rfl, by decide +kernel, rfl, by decide +kernel, by decide +kernel⟩
theorem bd_common_round : BindOk "common_round" st_common_round ["book", "one", "other"] := fun _ _ _ _ _ _ us hl => match us, hl with | [_, _, _], _ => rfl
abbrev st_are_same_in : Stmt := top 24
theorem sc_are_same_in : FnScope ["book", "one", "other", "many", "later"] ["book", "one", "other"] (defScope st_are_same_in) := ⟨rfl, rfl, rfl, by decide +kernel, rfl, by decide +kernel, by decide +kernel⟩
theorem bd_are_same_in : BindOk "are_same_in" st_are_same_in ["book", "one", "other"] := fun _ _ _ _ _ _ us hl => match us, hl with | [_, _, _], _ => rfl
abbrev st_are_sure : Stmt := top 32
theorem sc_are_sure : FnScope ["book", "starts", "other"] ["book", "starts"] (defScope st_are_sure) := ⟨rfl, rfl, rfl, by decide +kernel, rfl, by decide +kernel, by decide +kernel⟩
theorem bd_are_sure : BindOk "are_sure" st_are_sure ["book", "starts"] := fun _ _ _ _ _ _ us hl => match us, hl with | [_, _], _ => rfl
abbrev st_known_behind : Stmt := top 33
theorem sc_known_behind : FnScope ["book", "loss", "heard", "many"] ["book", "loss", "heard"] (defScope st_known_behind) := ⟨rfl, rfl, rfl, by decide +kernel, rfl, by decide +kernel, by decide +kernel⟩
theorem bd_known_behind : BindOk "known_behind" st_known_behind ["book", "loss", "heard"] := fun _ _ _ _ _ _ us hl => match us, hl with | [_, _, _], _ => rfl
abbrev st_is_start : Stmt := top 19
theorem sc_is_start : FnScope ["book", "thing"] ["book", "thing"] (defScope st_is_start) := ⟨rfl, rfl, rfl, by decide +kernel, rfl, by decide +kernel, by decide +kernel⟩
theorem bd_is_start : BindOk "is_start" st_is_start ["book", "thing"] := fun _ _ _ _ _ _ us hl => match us, hl with | [_, _], _ => rfl
abbrev st_need_start : Stmt := top 20
theorem sc_need_start : FnScope ["book", "thing"] ["book", "thing"] (defScope st_need_start) := ⟨rfl, rfl, rfl, by decide +kernel, rfl, by decide +kernel, by decide +kernel⟩
theorem bd_need_start : BindOk "need_start" st_need_start ["book", "thing"] := fun _ _ _ _ _ _ us hl => match us, hl with | [_, _], _ => rfl
abbrev st_missed : Stmt := top 27
theorem sc_missed : FnScope ["book", "start", "heard"] ["book", "start", "heard"] (defScope st_missed) := ⟨rfl, rfl, rfl, by decide +kernel, rfl, by decide +kernel, by decide +kernel⟩
theorem bd_missed : BindOk "missed" st_missed ["book", "start", "heard"] := fun _ _ _ _ _ _ us hl => match us, hl with | [_, _, _], _ => rfl
abbrev st_law_long_right : Stmt := top 50
theorem sc_law_long_right : FnScope ["_law_shelf", "_law_told", "_law_some", "_law_one"] [] (defScope st_law_long_right) := ⟨rfl, rfl, rfl, by decide +kernel, rfl, by decide +kernel, by decide +kernel⟩
theorem bd_law_long_right : BindOk "_law_long_right" st_law_long_right [] := fun _ _ _ _ _ _ us hl => match us, hl with | [], _ => rfl
abbrev st_law_next : Stmt := top 38
theorem sc_law_next : FnScope ["_law_draw", "_law_many", "_law_cells", "_law_cell", "_law_number", "_law_k"] ["_law_draw", "_law_many"] (defScope st_law_next) := ⟨rfl, rfl, rfl, by decide +kernel, rfl, by decide +kernel, by decide +kernel⟩
theorem bd_law_next : BindOk "_law_next" st_law_next ["_law_draw", "_law_many"] := fun _ _ _ _ _ _ us hl => match us, hl with | [_, _], _ => rfl
abbrev st_law_pick : Stmt := top 39
theorem sc_law_pick : FnScope ["_law_draw", "_law_some"] ["_law_draw", "_law_some"] (defScope st_law_pick) := ⟨rfl, rfl, rfl, by decide +kernel, rfl, by decide +kernel, by decide +kernel⟩
theorem bd_law_pick : BindOk "_law_pick" st_law_pick ["_law_draw", "_law_some"] := fun _ _ _ _ _ _ us hl => match us, hl with | [_, _], _ => rfl
abbrev st_law_clock : Stmt := top 40
theorem sc_law_clock : FnScope ["_law_draw", "_law_size", "_law_long", "_law_way", "_law_found", "_law_k", "_law_part", "_law_some"] ["_law_draw", "_law_size"] (defScope st_law_clock) := ⟨rfl, rfl, rfl, by decide +kernel, rfl, by decide +kernel, by decide +kernel⟩
theorem bd_law_clock : BindOk "_law_clock" st_law_clock ["_law_draw", "_law_size"] := fun _ _ _ _ _ _ us hl => match us, hl with | [_, _], _ => rfl
abbrev st_law_book : Stmt := top 41
theorem sc_law_book : FnScope ["_law_draw", "_law_size", "_law_found", "_law_k", "_law_turned", "_law_clock_here", "_law_mark", "_law_way"] ["_law_draw", "_law_size"] (defScope st_law_book) := ⟨rfl, rfl, rfl, by decide +kernel, rfl, by decide +kernel, by decide +kernel⟩
theorem bd_law_book : BindOk "_law_book" st_law_book ["_law_draw", "_law_size"] := fun _ _ _ _ _ _ us hl => match us, hl with | [_, _], _ => rfl
abbrev st_law_loss : Stmt := top 44
theorem sc_law_loss : FnScope ["_law_draw", "_law_some"] ["_law_draw"] (defScope st_law_loss) := ⟨rfl, rfl, rfl, by decide +kernel, rfl, by decide +kernel, by decide +kernel⟩
theorem bd_law_loss : BindOk "_law_loss" st_law_loss ["_law_draw"] := fun _ _ _ _ _ _ us hl => match us, hl with | [_], _ => rfl
abbrev st_law_strokes : Stmt := top 43
theorem sc_law_strokes : FnScope ["_law_shelf", "_law_begin_so", "_law_later", "_law_clock_here"] ["_law_shelf", "_law_begin_so", "_law_later"] (defScope st_law_strokes) := ⟨rfl, rfl, rfl, by decide +kernel, rfl, by decide +kernel, by decide +kernel⟩
theorem bd_law_strokes : BindOk "_law_strokes" st_law_strokes ["_law_shelf", "_law_begin_so", "_law_later"] := fun _ _ _ _ _ _ us hl => match us, hl with | [_, _, _], _ => rfl
abbrev st_law_starts : Stmt := top 42
theorem sc_law_starts : FnScope ["_law_shelf", "_law_found", "_law_k", "_law_mark"] ["_law_shelf"] (defScope st_law_starts) := ⟨rfl, rfl, rfl, by decide +kernel, rfl, by decide +kernel, by decide +kernel⟩
theorem bd_law_starts : BindOk "_law_starts" st_law_starts ["_law_shelf"] := fun _ _ _ _ _ _ us hl => match us, hl with | [_], _ => rfl
abbrev st_law_row : Stmt := top 45
theorem sc_law_row : FnScope ["_law_draw", "_law_shelf", "_law_many", "_law_k", "_law_begin_so", "_law_found", "_law_strokes_here", "_law_more"] ["_law_draw", "_law_shelf", "_law_many"] (defScope st_law_row) := ⟨rfl, rfl, rfl, by decide +kernel, rfl, by decide +kernel, by decide +kernel⟩
theorem bd_law_row : BindOk "_law_row" st_law_row ["_law_draw", "_law_shelf", "_law_many"] := fun _ _ _ _ _ _ us hl => match us, hl with | [_, _, _], _ => rfl
abbrev st_law_gone : Stmt := top 47
theorem sc_law_gone : FnScope ["_law_shelf", "_law_begin_so", "_law_row_here", "_law_lost", "_law_added", "_law_k", "_law_count", "_law_strokes_here"] ["_law_shelf", "_law_begin_so", "_law_row_here"] (defScope st_law_gone) := ⟨rfl, rfl, rfl, by decide +kernel, rfl, by decide +kernel, by decide +kernel⟩
theorem bd_law_gone : BindOk "_law_gone" st_law_gone ["_law_shelf", "_law_begin_so", "_law_row_here"] := fun _ _ _ _ _ _ us hl => match us, hl with | [_, _, _], _ => rfl
abbrev st_law_fits : Stmt := top 48
theorem sc_law_fits : FnScope ["_law_shelf", "_law_slack", "_law_row_here", "_law_found", "_law_begin_so", "_law_lost", "_law_added"] ["_law_shelf", "_law_slack", "_law_row_here"] (defScope st_law_fits) := ⟨rfl, rfl, rfl, by decide +kernel, rfl, by decide +kernel, by decide +kernel⟩
theorem bd_law_fits : BindOk "_law_fits" st_law_fits ["_law_shelf", "_law_slack", "_law_row_here"] := fun _ _ _ _ _ _ us hl => match us, hl with | [_, _, _], _ => rfl
abbrev st_law_same : Stmt := top 46
theorem sc_law_same : FnScope ["_law_shelf", "_law_one", "_law_other", "_law_k"] ["_law_shelf", "_law_one", "_law_other"] (defScope st_law_same) := ⟨rfl, rfl, rfl, by decide +kernel, rfl, by decide +kernel, by decide +kernel⟩
theorem bd_law_same : BindOk "_law_same" st_law_same ["_law_shelf", "_law_one", "_law_other"] := fun _ _ _ _ _ _ us hl => match us, hl with | [_, _, _], _ => rfl
abbrev st_law_known : Stmt := top 49
theorem sc_law_known : FnScope ["_law_shelf", "_law_slack", "_law_row_here", "_law_many", "_law_some", "_law_unlike", "_law_other"] ["_law_shelf", "_law_slack", "_law_row_here"] (defScope st_law_known) := ⟨rfl, rfl, rfl, by decide +kernel, rfl, by decide +kernel, by decide +kernel⟩
theorem bd_law_known : BindOk "_law_known" st_law_known ["_law_shelf", "_law_slack", "_law_row_here"] := fun _ _ _ _ _ _ us hl => match us, hl with | [_, _, _], _ => rfl
abbrev st_next_in : Stmt := top 34
theorem sc_next_in : FnScope ["book", "loss", "heard", "start"] ["book", "loss", "heard"] (defScope st_next_in) := ⟨rfl, rfl, rfl, by decide +kernel, rfl, by decide +kernel, by decide +kernel⟩
theorem bd_next_in : BindOk "next_in" st_next_in ["book", "loss", "heard"] := fun _ _ _ _ _ _ us hl => match us, hl with | [_, _, _], _ => rfl
abbrev st_next_strokes : Stmt := top 35
theorem sc_next_strokes : FnScope ["book", "loss", "heard"] ["book", "loss", "heard"] (defScope st_next_strokes) := ⟨rfl, rfl, rfl, by decide +kernel, rfl, by decide +kernel, by decide +kernel⟩
theorem bd_next_strokes : BindOk "next_strokes" st_next_strokes ["book", "loss", "heard"] := fun _ _ _ _ _ _ us hl => match us, hl with | [_, _, _], _ => rfl
abbrev st_law : Stmt := top 51
theorem sc_law : FnScope ["_law_script", "_law_draw", "_law_turn", "_law_halves", "_law_told", "_law_k", "_law_shelf", "_law_slack", "_law_row_here", "_law_begin_so", "_law_due", "_law_kept", "_law_some", "_law_one"] ["_law_script"] (defScope st_law) := ⟨rfl, rfl, rfl, by decide +kernel, rfl, by decide +kernel, by decide +kernel⟩
theorem bd_law : BindOk "law" st_law ["_law_script"] := fun _ _ _ _ _ _ us hl => match us, hl with | [_], _ => rfl
theorem bk_fitting_2_1_0 : BindKw "fitting" st_fitting ["book", "loss", "heard"] ["heard", "loss", "book"] [2, 1, 0] := fun _ _ _ _ _ _ us hl => match us, hl with | [_, _, _], _ => rfl
theorem bk_missed_2_1_0 : BindKw "missed" st_missed ["book", "start", "heard"] ["heard", "start", "book"] [2, 1, 0] := fun _ _ _ _ _ _ us hl => match us, hl with | [_, _, _], _ => rfl
def fn : List He.DefD := [dOf "_law_begin" st_law_begin, dOf "is_integer" st_is_integer, dOf "is_whole" st_is_whole, dOf "book_fault" st_book_fault, dOf "need_book" st_need_book, dOf "need_loss" st_need_loss, dOf "heard_fault" st_heard_fault, dOf "need_heard" st_need_heard, dOf "need_all" st_need_all, dOf "all_starts" st_all_starts, dOf "struck" st_struck, dOf "missed_in" st_missed_in, dOf "fits" st_fits, dOf "fitting_in" st_fitting_in, dOf "fitting" st_fitting, dOf "common_round" st_common_round, dOf "are_same_in" st_are_same_in, dOf "are_sure" st_are_sure, dOf "known_behind" st_known_behind, dOf "is_start" st_is_start, dOf "need_start" st_need_start, dOf "missed" st_missed, dOf "_law_long_right" st_law_long_right, dOf "_law_next" st_law_next, dOf "_law_pick" st_law_pick, dOf "_law_clock" st_law_clock, dOf "_law_book" st_law_book, dOf "_law_loss" st_law_loss, dOf "_law_strokes" st_law_strokes, dOf "_law_starts" st_law_starts, dOf "_law_row" st_law_row, dOf "_law_gone" st_law_gone, dOf "_law_fits" st_law_fits, dOf "_law_same" st_law_same, dOf "_law_known" st_law_known, dOf "next_in" st_next_in, dOf "next_strokes" st_next_strokes, dOf "law" st_law]
def fa : List He.Fa := [.glo "_law_begin", .glo "is_integer", .glo "is_whole", .glo "book_fault", .glo "need_book", .glo "need_loss", .glo "heard_fault", .glo "need_heard", .glo "need_all", .glo "all_starts", .glo "struck", .glo "missed_in", .glo "fits", .glo "fitting_in", .glo "fitting", .glo "common_round", .glo "are_same_in", .glo "are_sure", .glo "known_behind", .glo "is_start", .glo "need_start", .glo "missed", .glo "_law_long_right", .glo "_law_next", .glo "_law_pick", .glo "_law_clock", .glo "_law_book", .glo "_law_loss", .glo "_law_strokes", .glo "_law_starts"] ++ [.glo "_law_row", .glo "_law_gone", .glo "_law_fits", .glo "_law_same", .glo "_law_known", .glo "next_in", .glo "next_strokes", .glo "law", .free "isinstance", .free "int", .free "bool", .free "tuple", .free "len", .int "MOST_CLOCKS" 3, .free "enumerate", .int "MOST_MARKS" 24, .int "MOST_STROKES" 99, .int "MOST_NUMBER" 1000000000000000000000000000000, .int "MOST_HEARD" 1000, .free "range", .free "max", .free "all", .free "list", .free "sorted", .free "repr", .free "set"]
section
variable {K : PySem.W.Frag} {mg : Str → Option Value} {h : Heap} {P : Program} {w : World} {base : Heap}
theorem ok_law_begin (T : Tx K mg h fa fn) : Df P w K mg base 1 "_law_begin" st_law_begin ["_law_script"] m_law_begin := by
  unfold m_law_begin
  exact Df.of T 0 0 sc_law_begin fun cdv A out s H E G hK hr tk hp =>
   (s_one (s_ret (c_disp (d_cons (c_scr (c_var (pv 0)) (c_lst (c_cons c_int c_nil) (by decide) (aC_len aN_len))) (d_cons c_int (d_cons c_int (d_cons c_int d_nil)))) (by decide))))
theorem ok_is_integer (T : Tx K mg h fa fn) : Df P w K mg base 1 "is_integer" st_is_integer ["thing"] m_is_integer := by
  unfold m_is_integer
  exact Df.of T 1 1 sc_is_integer fun cdv A out s H E G hK hr tk hp =>
   (s_one (s_ret (c_eand (c_isi (T := "int") (T.free 38) (T.free 39) rfl (c_var (pv 0))) (c_eone (c_enot (c_isi (T := "bool") (T.free 38) (T.free 40) rfl (c_var (pv 0))))))))
theorem ok_is_whole (T : Tx K mg h fa fn) : Df P w K mg base 2 "is_whole" st_is_whole ["thing", "least", "most"] m_is_whole := by
  unfold m_is_whole
  exact Df.of T 2 2 sc_is_whole fun cdv A out s H E G hK hr tk hp =>
   (s_one (s_ret (c_eand (c_f (ok_is_integer T) bd_is_integer hK hr tk (c_cons (c_var (pv 0)) c_nil)) (c_eone (c_chain o_le o_le (c_var (pv 1)) (c_var (pv 0)) (c_var (pv 2)))))))
theorem ok_book_fault (T : Tx K mg h fa fn) : Df P w K mg base 3 "book_fault" st_book_fault ["thing"] m_book_fault := by
  unfold m_book_fault
  exact Df.of T 3 3 sc_book_fault fun cdv A out s H E G hK hr tk hp =>
   (s_cons (s_if (PW.pt (c_or (c_not (c_val (c_isi (T := "tuple") (T.free 38) (T.free 41) rfl (c_var (pv 0))))) (c_or1 (c_not (c_tchain o_le o_le c_int (c_callB b_len (T.free 42) rfl (c_cons (c_var (pv 0)) c_nil)) (c_gint (T.int 43)))))))
 (s_one (s_ret (c_tup c_nil (by decide) aN_len)))
 s_nil)
 (s_cons (s_for hp (i_enum (T.free 44) (c_cons (c_var (pv 0)) c_nil)) (g_tup rfl (gs_cons (gs_cons gs_nil sc_book_fault.nd) sc_book_fault.nd))
 (s_cons (s_if (PW.pt (c_or (c_not (c_val (c_isi (T := "tuple") (T.free 38) (T.free 41) rfl (c_var (pv 2))))) (c_or1 (c_not (c_tchain o_le o_le c_int (c_callB b_len (T.free 42) rfl (c_cons (c_var (pv 2)) c_nil)) (c_gint (T.int 45)))))))
 (s_one (s_ret (c_tup (c_cons (c_var (pv 1)) c_nil) (by decide) (aC_len aN_len))))
 s_nil)
 (s_one (s_for hp (i_enum (T.free 44) (c_cons (c_var (pv 2)) c_nil)) (g_tup rfl (gs_cons (gs_cons gs_nil sc_book_fault.nd) sc_book_fault.nd))
 (s_one (s_if (c_not (c_val (c_f (ok_is_whole T) bd_is_whole hK hr tk (c_cons (c_var (pv 4)) (c_cons c_int (c_cons (c_gint (T.int 46)) c_nil))))))
 (s_one (s_ret (c_tup (c_cons (c_var (pv 1)) (c_cons (c_var (pv 3)) c_nil)) (by decide) (aC_len (aC_len aN_len)))))
 s_nil))))))
 (s_one (s_ret c_non))))
theorem ok_need_book (T : Tx K mg h fa fn) : Df P w K mg base 4 "need_book" st_need_book ["thing"] m_need_book := by
  unfold m_need_book
  exact Df.of T 4 4 sc_need_book fun cdv A out s H E G hK hr tk hp =>
   (s_cons (s_set (c_f (ok_book_fault T) bd_book_fault hK hr tk (c_cons (c_var (pv 0)) c_nil)) sc_need_book.nd)
 (s_cons (s_if (c_tcmp o_notN (c_var (pv 1)) c_non rfl)
 (s_one s_never)
 s_nil)
 (s_one (s_ret (c_var (pv 0))))))
theorem ok_need_loss (T : Tx K mg h fa fn) : Df P w K mg base 3 "need_loss" st_need_loss ["thing"] m_need_loss := by
  unfold m_need_loss
  exact Df.of T 5 5 sc_need_loss fun cdv A out s H E G hK hr tk hp =>
   (s_cons (s_if (PW.pt (c_or (c_not (c_val (c_isi (T := "tuple") (T.free 38) (T.free 41) rfl (c_var (pv 0))))) (c_or1 (c_tcmp (o_ne hr.r.units) (c_callB b_len (T.free 42) rfl (c_cons (c_var (pv 0)) c_nil)) c_int rfl))))
 (s_one s_never)
 s_nil)
 (s_cons (s_if (c_not (c_val (c_f (ok_is_whole T) bd_is_whole hK hr tk (c_cons (c_ix (c_var (pv 0)) c_int) (c_cons c_int (c_cons (c_gint (T.int 47)) c_nil))))))
 (s_one s_never)
 s_nil)
 (s_cons (s_if (c_not (c_val (c_f (ok_is_whole T) bd_is_whole hK hr tk (c_cons (c_ix (c_var (pv 0)) c_int) (c_cons c_int (c_cons (c_gint (T.int 47)) c_nil))))))
 (s_one s_never)
 s_nil)
 (s_one (s_ret (c_var (pv 0)))))))
theorem ok_heard_fault (T : Tx K mg h fa fn) : Df P w K mg base 3 "heard_fault" st_heard_fault ["thing"] m_heard_fault := by
  unfold m_heard_fault
  exact Df.of T 6 6 sc_heard_fault fun cdv A out s H E G hK hr tk hp =>
   (s_cons (s_if (PW.pt (c_or (c_not (c_val (c_isi (T := "tuple") (T.free 38) (T.free 41) rfl (c_var (pv 0))))) (c_or1 (c_tcmp o_gt (c_callB b_len (T.free 42) rfl (c_cons (c_var (pv 0)) c_nil)) (c_gint (T.int 48)) rfl))))
 (s_one (s_ret (c_lst (c_cons c_non c_nil) (by decide) (aC_len aN_len))))
 s_nil)
 (s_cons (s_for hp (i_enum (T.free 44) (c_cons (c_var (pv 0)) c_nil)) (g_tup rfl (gs_cons (gs_cons gs_nil sc_heard_fault.nd) sc_heard_fault.nd))
 (s_one (s_if (c_not (c_val (c_f (ok_is_whole T) bd_is_whole hK hr tk (c_cons (c_var (pv 2)) (c_cons c_int (c_cons (c_gint (T.int 47)) c_nil))))))
 (s_one (s_ret (c_lst (c_cons (c_var (pv 1)) c_nil) (by decide) (aC_len aN_len))))
 s_nil)))
 (s_one (s_ret (c_lst c_nil (by decide) aN_len)))))
theorem ok_need_heard (T : Tx K mg h fa fn) : Df P w K mg base 4 "need_heard" st_need_heard ["thing"] m_need_heard := by
  unfold m_need_heard
  exact Df.of T 7 7 sc_need_heard fun cdv A out s H E G hK hr tk hp =>
   (s_cons (s_for hp (i_seq (c_f (ok_heard_fault T) bd_heard_fault hK hr tk (c_cons (c_var (pv 0)) c_nil))) (g_name sc_need_heard.nd)
 (s_one s_never))
 (s_one (s_ret (c_var (pv 0)))))
theorem ok_need_all (T : Tx K mg h fa fn) : Df P w K mg base 5 "need_all" st_need_all ["book", "loss", "heard"] m_need_all := by
  unfold m_need_all
  exact Df.of T 8 8 sc_need_all fun cdv A out s H E G hK hr tk hp =>
   (s_cons (s_do (c_f (ok_need_book T) bd_need_book hK hr tk (c_cons (c_var (pv 0)) c_nil)))
 (s_cons (s_do (c_f (ok_need_loss T) bd_need_loss hK hr tk (c_cons (c_var (pv 1)) c_nil)))
 (s_one (s_do (c_f (ok_need_heard T) bd_need_heard hK hr tk (c_cons (c_var (pv 2)) c_nil))))))
theorem ok_all_starts (T : Tx K mg h fa fn) : Df P w K mg base 1 "all_starts" st_all_starts ["book"] m_all_starts := by
  unfold m_all_starts
  exact Df.of T 9 9 sc_all_starts fun cdv A out s H E G hK hr tk hp =>
   (s_one (s_ret (c_comp2 (own := [("number", 2), ("clock", 3), ("mark", 1)]) (vs1 := [1]) sc_all_starts.nd (i_enum (T.free 44) (c_cons (c_var (pv 0)) c_nil)) (blkOk_by (by kernel_rfl)) bTup_v (by decide) (fun _ _ _ _ _ => (g_up (g_tup rfl (gs_cons (gs_cons gs_nil sc_all_starts.nd) sc_all_starts.nd)) (by decide))) (fun _ _ _ _ _ => (i_rng1 (T.free 49) (c_cons (c_callB b_len (T.free 42) rfl (c_cons (c_var (pv 3)) c_nil)) c_nil))) (fun _ _ _ _ _ => (g_name sc_all_starts.nd)) (fun _ _ _ _ _ => (c_tup (c_cons (c_var (pv 2)) (c_cons (c_var (pv 1)) c_nil)) (by decide) (aC_len (aC_len aN_len)))))))
theorem ok_struck (T : Tx K mg h fa fn) : Df P w K mg base 1 "struck" st_struck ["book", "start", "later"] m_struck := by
  unfold m_struck
  exact Df.of T 10 10 sc_struck fun cdv A out s H E G hK hr tk hp =>
   (s_cons (s_set (c_ix (c_var (pv 0)) (c_ix (c_var (pv 1)) c_int)) sc_struck.nd)
 (s_one (s_ret (c_ix (c_var (pv 3)) (c_op o_mod (c_callTy b_int (T.free 39) rfl (c_cons (c_op o_add (c_ix (c_var (pv 1)) c_int) (c_var (pv 2))) c_nil)) (c_callB b_len (T.free 42) rfl (c_cons (c_var (pv 3)) c_nil)))))))
theorem ok_missed_in (T : Tx K mg h fa fn) : Df P w K mg base 2 "missed_in" st_missed_in ["book", "start", "heard"] m_missed_in := by
  unfold m_missed_in
  exact Df.of T 11 11 sc_missed_in fun cdv A out s H E G hK hr tk hp =>
   (s_cons (s_parT (is := [3, 4]) (p_cons c_int (p_cons c_int p_nil)) (pgs_cons (pg_name sc_missed_in.nd rfl (by first | exact Or.inl rfl | exact Or.inr rfl)) (pgs_cons (pg_name sc_missed_in.nd rfl (by first | exact Or.inl rfl | exact Or.inr rfl)) pgs_nil)))
 (s_cons (s_for hp (i_enum (T.free 44) (c_cons (c_var (pv 2)) c_nil)) (g_tup rfl (gs_cons (gs_cons gs_nil sc_missed_in.nd) sc_missed_in.nd))
 (s_cons (s_set (c_f (ok_struck T) bd_struck hK hr tk (c_cons (c_var (pv 0)) (c_cons (c_var (pv 1)) (c_cons (c_var (pv 5)) c_nil)))) sc_missed_in.nd)
 (s_cons (s_aug ip_add (c_callB (b_max2 rfl) (T.free 50) rfl (c_cons c_int (c_cons (c_op o_sub (c_var (pv 7)) (c_var (pv 6))) c_nil))) sc_missed_in.nd)
 (s_one (s_aug ip_add (c_callB (b_max2 rfl) (T.free 50) rfl (c_cons c_int (c_cons (c_op o_sub (c_var (pv 6)) (c_var (pv 7))) c_nil))) sc_missed_in.nd)))))
 (s_one (s_ret (c_tup (c_cons (c_var (pv 3)) (c_cons (c_var (pv 4)) c_nil)) (by decide) (aC_len (aC_len aN_len)))))))
theorem ok_fits (T : Tx K mg h fa fn) : Df P w K mg base 3 "fits" st_fits ["book", "loss", "start", "heard"] m_fits := by
  unfold m_fits
  exact Df.of T 12 12 sc_fits fun cdv A out s H E G hK hr tk hp =>
   (s_cons (s_unp (c_f (ok_missed_in T) bd_missed_in hK hr tk (c_cons (c_var (pv 0)) (c_cons (c_var (pv 2)) (c_cons (c_var (pv 3)) c_nil)))) (g_tup rfl (gs_cons (gs_cons gs_nil sc_fits.nd) sc_fits.nd)))
 (s_one (s_ret (c_eand (c_cmp o_le (c_var (pv 4)) (c_ix (c_var (pv 1)) c_int) rfl) (c_eone (c_cmp o_le (c_var (pv 5)) (c_ix (c_var (pv 1)) c_int) rfl))))))
theorem ok_fitting_in (T : Tx K mg h fa fn) : Df P w K mg base 4 "fitting_in" st_fitting_in ["book", "loss", "heard"] m_fitting_in := by
  unfold m_fitting_in
  exact Df.of T 13 13 sc_fitting_in fun cdv A out s H E G hK hr tk hp =>
   (s_one (s_ret (c_comp (own := [("start", 3)]) sc_fitting_in.nd (i_seq (c_f (ok_all_starts T) bd_all_starts hK hr tk (c_cons (c_var (pv 0)) c_nil))) (blkOk_by (by kernel_rfl)) (fun _ _ _ _ _ => (g_name sc_fitting_in.nd)) (fun _ _ _ _ _ => (ts_one (c_val (c_f (ok_fits T) bd_fits hK hr takesF (c_cons (c_var (pv 0)) (c_cons (c_var (pv 1)) (c_cons (c_var (pv 3)) (c_cons (c_var (pv 2)) c_nil)))))))) (fun _ _ _ _ _ => (c_var (pv 3))))))
theorem ok_fitting (T : Tx K mg h fa fn) : Df P w K mg base 6 "fitting" st_fitting ["book", "loss", "heard"] m_fitting := by
  unfold m_fitting
  exact Df.of T 14 14 sc_fitting fun cdv A out s H E G hK hr tk hp =>
   (s_cons (s_do (c_f (ok_need_all T) bd_need_all hK hr tk (c_cons (c_var (pv 0)) (c_cons (c_var (pv 1)) (c_cons (c_var (pv 2)) c_nil)))))
 (s_one (s_ret (c_callTy b_tuple (T.free 41) rfl (c_cons (c_f (ok_fitting_in T) bd_fitting_in hK hr tk (c_cons (c_var (pv 0)) (c_cons (c_var (pv 1)) (c_cons (c_var (pv 2)) c_nil)))) c_nil)))))
theorem ok_common_round (T : Tx K mg h fa fn) : Df P w K mg base 1 "common_round" st_common_round ["book", "one", "other"] m_common_round := by
  unfold m_common_round
  exact Df.of T 15 15 sc_common_round fun cdv A out s H E G hK hr tk hp =>
   (s_cons (s_par2 (p_cons (c_callB b_len (T.free 42) rfl (c_cons (c_ix (c_var (pv 0)) (c_ix (c_var (pv 1)) c_int)) c_nil)) (p_cons (c_callB b_len (T.free 42) rfl (c_cons (c_ix (c_var (pv 0)) (c_ix (c_var (pv 2)) c_int)) c_nil)) p_nil)) sc_common_round.nd)
 (s_cons (s_set (c_var (pv 4)) sc_common_round.nd)
 (s_cons (s_while 2000 hp (c_tcmp (o_ne hr.r.units) (c_op o_mod (c_callTy b_int (T.free 39) rfl (c_cons (c_var (pv 3)) c_nil)) (c_var (pv 5))) c_int rfl)
 (s_one (s_aug ip_add (c_var (pv 4)) sc_common_round.nd)))
 (s_one (s_ret (c_var (pv 3)))))))
theorem ok_are_same_in (T : Tx K mg h fa fn) : Df P w K mg base 2 "are_same_in" st_are_same_in ["book", "one", "other"] m_are_same_in := by
  unfold m_are_same_in
  exact Df.of T 16 16 sc_are_same_in fun cdv A out s H E G hK hr tk hp =>
   (s_cons (s_set (c_f (ok_common_round T) bd_common_round hK hr tk (c_cons (c_var (pv 0)) (c_cons (c_var (pv 1)) (c_cons (c_var (pv 2)) c_nil)))) sc_are_same_in.nd)
 (s_one (s_ret (c_callB (b_all rfl) (T.free 51) rfl (c_cons (c_comp (own := [("later", 4)]) sc_are_same_in.nd (i_rng1 (T.free 49) (c_cons (c_var (pv 3)) c_nil)) (blkOk_by (by kernel_rfl)) (fun _ _ _ _ _ => (g_name sc_are_same_in.nd)) (fun _ _ _ _ _ => ts_nil) (fun _ _ _ _ _ => (c_cmp (o_eq hr.r.units) (c_f (ok_struck T) bd_struck hK hr takesF (c_cons (c_var (pv 0)) (c_cons (c_var (pv 1)) (c_cons (c_var (pv 4)) c_nil)))) (c_f (ok_struck T) bd_struck hK hr takesF (c_cons (c_var (pv 0)) (c_cons (c_var (pv 2)) (c_cons (c_var (pv 4)) c_nil)))) rfl))) c_nil)))))
theorem ok_are_sure (T : Tx K mg h fa fn) : Df P w K mg base 3 "are_sure" st_are_sure ["book", "starts"] m_are_sure := by
  unfold m_are_sure
  exact Df.of T 17 17 sc_are_sure fun cdv A out s H E G hK hr tk hp =>
   (s_one (s_ret (c_eand (c_cmp (o_ne hr.r.units) (c_var (pv 1)) (c_lst c_nil (by decide) aN_len) rfl) (c_eone (c_callB (b_all rfl) (T.free 51) rfl (c_cons (c_comp (own := [("other", 2)]) sc_are_sure.nd (i_seq (c_sl (c_var (pv 1)) (o_some c_int) o_none)) (blkOk_by (by kernel_rfl)) (fun _ _ _ _ _ => (g_name sc_are_sure.nd)) (fun _ _ _ _ _ => ts_nil) (fun _ _ _ _ _ => (c_f (ok_are_same_in T) bd_are_same_in hK hr takesF (c_cons (c_var (pv 0)) (c_cons (c_ix (c_var (pv 1)) c_int) (c_cons (c_var (pv 2)) c_nil)))))) c_nil))))))
theorem ok_known_behind (T : Tx K mg h fa fn) : Df P w K mg base 6 "known_behind" st_known_behind ["book", "loss", "heard"] m_known_behind := by
  unfold m_known_behind
  exact Df.of T 18 18 sc_known_behind fun cdv A out s H E G hK hr tk hp =>
   (s_cons (s_do (c_f (ok_need_all T) bd_need_all hK hr tk (c_cons (c_var (pv 0)) (c_cons (c_var (pv 1)) (c_cons (c_var (pv 2)) c_nil)))))
 (s_cons (s_for hp (i_rng1 (T.free 49) (c_cons (c_op o_add (c_callB b_len (T.free 42) rfl (c_cons (c_var (pv 2)) c_nil)) c_int) c_nil)) (g_name sc_known_behind.nd)
 (s_one (s_if (c_val (c_f (ok_are_sure T) bd_are_sure hK hr tk (c_cons (c_var (pv 0)) (c_cons (c_f (ok_fitting_in T) bd_fitting_in hK hr tk (c_cons (c_var (pv 0)) (c_cons (c_var (pv 1)) (c_cons (c_sl (c_var (pv 2)) o_none (o_some (c_var (pv 3)))) c_nil)))) c_nil))))
 (s_one (s_ret (c_var (pv 3))))
 s_nil)))
 (s_one (s_ret c_non))))
theorem ok_is_start (T : Tx K mg h fa fn) : Df P w K mg base 3 "is_start" st_is_start ["book", "thing"] m_is_start := by
  unfold m_is_start
  exact Df.of T 19 19 sc_is_start fun cdv A out s H E G hK hr tk hp =>
   (s_cons (s_if (PW.pt (c_or (c_not (c_val (c_isi (T := "tuple") (T.free 38) (T.free 41) rfl (c_var (pv 1))))) (c_or (c_tcmp (o_ne hr.r.units) (c_callB b_len (T.free 42) rfl (c_cons (c_var (pv 1)) c_nil)) c_int rfl) (c_or1 (c_not (c_val (c_f (ok_is_whole T) bd_is_whole hK hr tk (c_cons (c_ix (c_var (pv 1)) c_int) (c_cons c_int (c_cons (c_op o_sub (c_callB b_len (T.free 42) rfl (c_cons (c_var (pv 0)) c_nil)) c_int) c_nil))))))))))
 (s_one (s_ret c_bl))
 s_nil)
 (s_one (s_ret (c_f (ok_is_whole T) bd_is_whole hK hr tk (c_cons (c_ix (c_var (pv 1)) c_int) (c_cons c_int (c_cons (c_op o_sub (c_callB b_len (T.free 42) rfl (c_cons (c_ix (c_var (pv 0)) (c_ix (c_var (pv 1)) c_int)) c_nil)) c_int) c_nil)))))))
theorem ok_need_start (T : Tx K mg h fa fn) : Df P w K mg base 4 "need_start" st_need_start ["book", "thing"] m_need_start := by
  unfold m_need_start
  exact Df.of T 20 20 sc_need_start fun cdv A out s H E G hK hr tk hp =>
   (s_cons (s_if (c_not (c_val (c_f (ok_is_start T) bd_is_start hK hr tk (c_cons (c_var (pv 0)) (c_cons (c_var (pv 1)) c_nil)))))
 (s_one s_never)
 s_nil)
 (s_one (s_ret (c_var (pv 1)))))
theorem ok_missed (T : Tx K mg h fa fn) : Df P w K mg base 5 "missed" st_missed ["book", "start", "heard"] m_missed := by
  unfold m_missed
  exact Df.of T 21 21 sc_missed fun cdv A out s H E G hK hr tk hp =>
   (s_cons (s_do (c_f (ok_need_book T) bd_need_book hK hr tk (c_cons (c_var (pv 0)) c_nil)))
 (s_cons (s_do (c_f (ok_need_start T) bd_need_start hK hr tk (c_cons (c_var (pv 0)) (c_cons (c_var (pv 1)) c_nil))))
 (s_one (s_ret (c_f (ok_missed_in T) bd_missed_in hK hr tk (c_cons (c_var (pv 0)) (c_cons (c_var (pv 1)) (c_cons (c_f (ok_need_heard T) bd_need_heard hK hr tk (c_cons (c_var (pv 2)) c_nil)) c_nil))))))))
theorem ok_law_long_right (T : Tx K mg h fa fn) : Df P w K mg base 7 "_law_long_right" st_law_long_right [] m_law_long_right := by
  unfold m_law_long_right
  exact Df.of T 22 22 sc_law_long_right fun cdv A out s H E G hK hr tk hp =>
   (s_cons (s_set (c_tup (c_cons (c_tup (c_cons c_int c_nil) (by decide) (aC_len aN_len)) (c_cons (c_tup (c_cons c_int c_nil) (by decide) (aC_len aN_len)) c_nil)) (by decide) (aC_len (aC_len aN_len))) sc_law_long_right.nd)
 (s_cons (s_own (c_cons (c_f (ok_known_behind T) bd_known_behind hK hr tk (c_cons (c_tup (c_cons (c_tup (c_cons c_int (c_cons c_int c_nil)) (by decide) (aC_len (aC_len aN_len))) c_nil) (by decide) (aC_len aN_len)) (c_cons (c_tup (c_cons c_int (c_cons c_int c_nil)) (by decide) (aC_len (aC_len aN_len))) (c_cons (c_tup (c_cons c_int (c_cons c_int c_nil)) (by decide) (aC_len (aC_len aN_len))) c_nil)))) (c_cons (c_f (ok_known_behind T) bd_known_behind hK hr tk (c_cons (c_var (pv 0)) (c_cons (c_tup (c_cons c_int (c_cons c_int c_nil)) (by decide) (aC_len (aC_len aN_len))) (c_cons (c_op o_mul (c_tup (c_cons c_int c_nil) (by decide) (aC_len aN_len)) c_int) c_nil)))) c_nil)) (by decide) (aC_len (aC_len aN_len)) sc_law_long_right.nd)
 (s_cons (s_app (pv 1) (c_f (ok_missed T) bd_missed hK hr tk (c_cons (c_tup (c_cons (c_tup (c_cons c_int c_nil) (by decide) (aC_len aN_len)) c_nil) (by decide) (aC_len aN_len)) (c_cons (c_tup (c_cons c_int (c_cons c_int c_nil)) (by decide) (aC_len (aC_len aN_len))) (c_cons (c_op o_mul (c_tup (c_cons c_int c_nil) (by decide) (aC_len aN_len)) c_int) c_nil)))))
 (s_cons (s_setC (own := [("_law_one", 3)]) sc_law_long_right.nd (i_seq (c_tup (c_cons c_int (c_cons c_int c_nil)) (by decide) (aC_len (aC_len aN_len)))) (blkOk_by (by kernel_rfl)) (fun _ _ _ _ _ => (g_name sc_law_long_right.nd)) (fun _ _ _ _ _ => ts_nil) (fun _ _ _ _ _ => (c_f (ok_fitting T) bd_fitting hK hr takesF (c_cons (c_var (pv 0)) (c_cons (c_tup (c_cons c_int (c_cons c_int c_nil)) (by decide) (aC_len (aC_len aN_len))) (c_cons (c_op o_add (c_op o_mul (c_tup (c_cons c_int c_nil) (by decide) (aC_len aN_len)) c_int) (c_tup (c_cons (c_var (pv 3)) c_nil) (by decide) (aC_len aN_len))) c_nil))))))
 (s_frz 1 (s_one (s_ret (c_eand (c_cmp (o_eq hr.r.units) (c_var (pv 1)) (c_lst (c_cons c_int (c_cons c_int (c_cons (c_tup (c_cons c_int (c_cons c_int c_nil)) (by decide) (aC_len (aC_len aN_len))) c_nil))) (by decide) (aC_len (aC_len (aC_len aN_len)))) rfl) (c_eone (c_cmp (o_eq hr.r.units) (c_var (pv 2)) (c_lst (c_cons (c_tup (c_cons (c_tup (c_cons c_int (c_cons c_int c_nil)) (by decide) (aC_len (aC_len aN_len))) c_nil) (by decide) (aC_len aN_len)) (c_cons (c_tup c_nil (by decide) aN_len) c_nil)) (by decide) (aC_len (aC_len aN_len))) rfl))))))))))
theorem ok_law_next (T : Tx K mg h fa fn) : Df P w K mg base 1 "_law_next" st_law_next ["_law_draw", "_law_many"] m_law_next := by
  unfold m_law_next
  exact Df.of T 23 23 sc_law_next fun cdv A out s H E G hK hr tk hp =>
   (s_cons (s_if (c_tcmp o_gt (c_dget hr (c_var (pv 0))) c_int rfl)
 (s_cons (s_pd hr (c_dget hr (c_var (pv 0))) (c_op o_fdiv (c_dget hr (c_var (pv 0))) (c_var (pv 1))) (c_var (pv 0)) sc_law_next.nd)
 (s_one (s_ret (c_op o_mod (c_var (pv 3)) (c_var (pv 1))))))
 s_nil)
 (s_cons (s_set (c_dget hr (c_var (pv 0))) sc_law_next.nd)
 (s_cons (s_set (c_ix (c_var (pv 2)) (c_op o_mod (c_dget hr (c_var (pv 0))) (c_callB b_len (T.free 42) rfl (c_cons (c_var (pv 2)) c_nil)))) sc_law_next.nd)
 (s_cons (s_dset hr (c_var (pv 0)) (c_op o_add (c_dget hr (c_var (pv 0))) c_int))
 (s_cons (s_if (PW.pt (c_and (c_tcmp o_ge (c_var (pv 3)) (c_op o_pow c_int c_int) rfl) (c_and1 (c_tcmp o_le (c_dget hr (c_var (pv 0))) (c_callB b_len (T.free 42) rfl (c_cons (c_var (pv 2)) c_nil)) rfl))))
 (s_cons (s_dset hr (c_var (pv 0)) (c_op o_fdiv (c_var (pv 3)) (c_var (pv 1))))
 (s_one (s_ret (c_op o_mod (c_var (pv 3)) (c_var (pv 1))))))
 s_nil)
 (s_cons (s_dset hr (c_var (pv 0)) (c_op o_add (c_dget hr (c_var (pv 0))) c_int))
 (s_cons (s_set (c_op o_add (c_op o_mod (c_var (pv 3)) c_int) (c_op o_mul (c_op o_mul c_int (c_dget hr (c_var (pv 0)))) (c_dget hr (c_var (pv 0))))) sc_law_next.nd)
 (s_cons (s_for hp (i_seq (c_tup (c_cons (c_dget hr (c_var (pv 0))) (c_cons (c_dget hr (c_var (pv 0))) c_nil)) (by decide) (aC_len (aC_len aN_len)))) (g_name sc_law_next.nd)
 (s_cons (s_set (c_op o_mod (c_op o_mul (c_op o_add (c_op o_add (c_var (pv 4)) (c_op o_mul c_int (c_var (pv 5)))) c_int) c_int) c_int) sc_law_next.nd)
 (s_one (s_set (c_op o_mod (c_op o_mul (c_var (pv 4)) (c_op o_add c_int (c_op o_mul c_int (c_op o_mod (c_var (pv 5)) c_int)))) c_int) sc_law_next.nd))))
 (s_one (s_ret (c_op o_mod (c_op o_fdiv (c_var (pv 4)) c_int) (c_var (pv 1)))))))))))))
theorem ok_law_pick (T : Tx K mg h fa fn) : Df P w K mg base 2 "_law_pick" st_law_pick ["_law_draw", "_law_some"] m_law_pick := by
  unfold m_law_pick
  exact Df.of T 24 24 sc_law_pick fun cdv A out s H E G hK hr tk hp =>
   (s_one (s_ret (c_ix (c_var (pv 1)) (c_f (ok_law_next T) bd_law_next hK hr tk (c_cons (c_var (pv 0)) (c_cons (c_callB b_len (T.free 42) rfl (c_cons (c_var (pv 1)) c_nil)) c_nil))))))
theorem ok_law_clock (T : Tx K mg h fa fn) : Df P w K mg base 3 "_law_clock" st_law_clock ["_law_draw", "_law_size"] m_law_clock := by
  unfold m_law_clock
  exact Df.of T 25 25 sc_law_clock fun cdv A out s H E G hK hr tk hp =>
   (s_cons (s_set (c_op o_add c_int (c_f (ok_law_next T) bd_law_next hK hr tk (c_cons (c_var (pv 0)) (c_cons (c_var (pv 1)) c_nil)))) sc_law_clock.nd)
 (s_cons (s_set (c_f (ok_law_next T) bd_law_next hK hr tk (c_cons (c_var (pv 0)) (c_cons c_int c_nil))) sc_law_clock.nd)
 (s_cons (s_if (c_tcmp (o_eq hr.r.units) (c_var (pv 3)) c_int rfl)
 (s_one (s_ret (c_rngT2 (T.free 41) (T.free 49) c_int (c_op o_add (c_var (pv 2)) c_int))))
 s_nil)
 (s_cons (s_if (c_tcmp (o_eq hr.r.units) (c_var (pv 3)) c_int rfl)
 (s_cons (s_set (c_callTy b_tuple (T.free 41) rfl (c_cons (c_comp (own := [("_law_k", 5)]) sc_law_clock.nd (i_rng1 (T.free 49) (c_cons (c_op o_add c_int (c_f (ok_law_next T) bd_law_next hK hr tk (c_cons (c_var (pv 0)) (c_cons c_int c_nil)))) c_nil)) (blkOk_by (by kernel_rfl)) (fun _ _ _ _ _ => (g_name sc_law_clock.nd)) (fun _ _ _ _ _ => ts_nil) (fun _ _ _ _ _ => (c_f (ok_law_next T) bd_law_next hK hr takesF (c_cons (c_var (pv 0)) (c_cons c_int c_nil))))) c_nil)) sc_law_clock.nd)
 (s_one (s_ret (c_sl (c_op o_mul (c_var (pv 6)) c_int) o_none (o_some (c_op o_mul (c_callB (b_max2 rfl) (T.free 50) rfl (c_cons c_int (c_cons (c_op o_fdiv (c_var (pv 2)) (c_callB b_len (T.free 42) rfl (c_cons (c_var (pv 6)) c_nil))) c_nil))) (c_callB b_len (T.free 42) rfl (c_cons (c_var (pv 6)) c_nil))))))))
 s_nil)
 (s_cons (s_if (c_tcmp (o_eq hr.r.units) (c_var (pv 3)) c_int rfl)
 (s_one (s_ret (c_callTy b_tuple (T.free 41) rfl (c_cons (c_comp (own := [("_law_k", 5)]) sc_law_clock.nd (i_rng1 (T.free 49) (c_cons (c_var (pv 2)) c_nil)) (blkOk_by (by kernel_rfl)) (fun _ _ _ _ _ => (g_name sc_law_clock.nd)) (fun _ _ _ _ _ => ts_nil) (fun _ _ _ _ _ => (c_op o_add (c_op o_mul (c_op o_mod (c_callTy b_int (T.free 39) rfl (c_cons (c_op o_add (c_var (pv 5)) c_int) c_nil)) c_int) (c_op o_add c_int (c_op o_fdiv (c_var (pv 5)) c_int))) (c_op o_mod (c_callTy b_int (T.free 39) rfl (c_cons (c_var (pv 5)) c_nil)) c_int)))) c_nil))))
 s_nil)
 (s_cons (s_set (c_tup c_nil (by decide) aN_len) sc_law_clock.nd)
 (s_cons (s_for hp (i_rng1 (T.free 49) (c_cons (c_var (pv 2)) c_nil)) (g_name sc_law_clock.nd)
 (s_cons (s_set (c_lst (c_cons c_int (c_cons c_int (c_cons c_int (c_cons c_int (c_cons (c_op o_add c_int (c_f (ok_law_next T) bd_law_next hK hr tk (c_cons (c_var (pv 0)) (c_cons c_int c_nil)))) (c_cons (c_f (ok_law_next T) bd_law_next hK hr tk (c_cons (c_var (pv 0)) (c_cons c_int c_nil))) c_nil)))))) (by decide) (aC_len (aC_len (aC_len (aC_len (aC_len (aC_len aN_len))))))) sc_law_clock.nd)
 (s_one (s_set (c_op o_add (c_var (pv 4)) (c_tup (c_cons (c_f (ok_law_pick T) bd_law_pick hK hr tk (c_cons (c_var (pv 0)) (c_cons (c_var (pv 7)) c_nil))) c_nil) (by decide) (aC_len aN_len))) sc_law_clock.nd))))
 (s_one (s_ret (c_var (pv 4)))))))))))
theorem ok_law_book (T : Tx K mg h fa fn) : Df P w K mg base 4 "_law_book" st_law_book ["_law_draw", "_law_size"] m_law_book := by
  unfold m_law_book
  exact Df.of T 26 26 sc_law_book fun cdv A out s H E G hK hr tk hp =>
   (s_cons (s_own (c_cons (c_f (ok_law_clock T) bd_law_clock hK hr tk (c_cons (c_var (pv 0)) (c_cons (c_var (pv 1)) c_nil))) c_nil) (by decide) (aC_len aN_len) sc_law_book.nd)
 (s_cons (s_for hp (i_rng1 (T.free 49) (c_cons (c_f (ok_law_next T) bd_law_next hK hr tk (c_cons (c_var (pv 0)) (c_cons c_int c_nil))) c_nil)) (g_name sc_law_book.nd)
 (s_cons (s_par2 (p_cons (c_ixO (pv 2) (c_f (ok_law_next T) bd_law_next hK hr tk (c_cons (c_var (pv 0)) (c_cons (c_lenO (T.free 42) (pv 2)) c_nil)))) (p_cons (c_f (ok_law_next T) bd_law_next hK hr tk (c_cons (c_var (pv 0)) (c_cons (c_var (pv 1)) c_nil))) p_nil)) sc_law_book.nd)
 (s_cons (s_par2 (p_cons (c_f (ok_law_next T) bd_law_next hK hr tk (c_cons (c_var (pv 0)) (c_cons c_int c_nil))) (p_cons (c_op o_mod (c_callTy b_int (T.free 39) rfl (c_cons (c_var (pv 6)) c_nil)) (c_callB b_len (T.free 42) rfl (c_cons (c_var (pv 5)) c_nil))) p_nil)) sc_law_book.nd)
 (s_cons (s_set (c_op o_add (c_sl (c_var (pv 5)) (o_some (c_var (pv 6))) o_none) (c_sl (c_var (pv 5)) o_none (o_some (c_var (pv 6))))) sc_law_book.nd)
 (s_one (s_if (c_tcmp (o_eq hr.r.units) (c_var (pv 7)) c_int rfl)
 (s_one (s_app (pv 2) (c_var (pv 4))))
 (s_one (s_if (PW.pt (c_and (c_tcmp (o_eq hr.r.units) (c_var (pv 7)) c_int rfl) (c_and1 (c_tcmp o_lt (c_callB b_len (T.free 42) rfl (c_cons (c_var (pv 5)) c_nil)) c_int rfl))))
 (s_one (s_app (pv 2) (c_op o_add (c_var (pv 4)) (c_var (pv 4)))))
 (s_one (s_if (c_tcmp (o_eq hr.r.units) (c_var (pv 7)) c_int rfl)
 (s_one (s_app (pv 2) (c_op o_add (c_sl (c_var (pv 4)) o_none (o_some (c_neg c_int))) (c_tup (c_cons (c_f (ok_law_next T) bd_law_next hK hr tk (c_cons (c_var (pv 0)) (c_cons c_int c_nil))) c_nil) (by decide) (aC_len aN_len)))))
 (s_one (s_app (pv 2) (c_f (ok_law_clock T) bd_law_clock hK hr tk (c_cons (c_var (pv 0)) (c_cons (c_var (pv 1)) c_nil)))))))))))))))
 (s_frz 2 (s_one (s_ret (c_callTy b_tuple (T.free 41) rfl (c_cons (c_var (pv 2)) c_nil)))))))
theorem ok_law_loss (T : Tx K mg h fa fn) : Df P w K mg base 3 "_law_loss" st_law_loss ["_law_draw"] m_law_loss := by
  unfold m_law_loss
  exact Df.of T 27 27 sc_law_loss fun cdv A out s H E G hK hr tk hp =>
   (s_cons (s_set (c_lst (c_cons c_int (c_cons c_int (c_cons c_int (c_cons c_int (c_cons c_int (c_cons (c_f (ok_law_next T) bd_law_next hK hr tk (c_cons (c_var (pv 0)) (c_cons c_int c_nil))) (c_cons (c_f (ok_law_next T) bd_law_next hK hr tk (c_cons (c_var (pv 0)) (c_cons c_int c_nil))) c_nil))))))) (by decide) (aC_len (aC_len (aC_len (aC_len (aC_len (aC_len (aC_len aN_len)))))))) sc_law_loss.nd)
 (s_one (s_ret (c_tup (c_cons (c_f (ok_law_pick T) bd_law_pick hK hr tk (c_cons (c_var (pv 0)) (c_cons (c_var (pv 1)) c_nil))) (c_cons (c_f (ok_law_pick T) bd_law_pick hK hr tk (c_cons (c_var (pv 0)) (c_cons (c_var (pv 1)) c_nil))) c_nil)) (by decide) (aC_len (aC_len aN_len))))))
theorem ok_law_strokes (T : Tx K mg h fa fn) : Df P w K mg base 1 "_law_strokes" st_law_strokes ["_law_shelf", "_law_begin_so", "_law_later"] m_law_strokes := by
  unfold m_law_strokes
  exact Df.of T 28 28 sc_law_strokes fun cdv A out s H E G hK hr tk hp =>
   (s_cons (s_set (c_ix (c_var (pv 0)) (c_ix (c_var (pv 1)) c_int)) sc_law_strokes.nd)
 (s_one (s_ret (c_ix (c_var (pv 3)) (c_op o_mod (c_callTy b_int (T.free 39) rfl (c_cons (c_op o_add (c_ix (c_var (pv 1)) c_int) (c_var (pv 2))) c_nil)) (c_callB b_len (T.free 42) rfl (c_cons (c_var (pv 3)) c_nil)))))))
theorem ok_law_starts (T : Tx K mg h fa fn) : Df P w K mg base 1 "_law_starts" st_law_starts ["_law_shelf"] m_law_starts := by
  unfold m_law_starts
  exact Df.of T 29 29 sc_law_starts fun cdv A out s H E G hK hr tk hp =>
   (s_cons (s_set (c_lst c_nil (by decide) aN_len) sc_law_starts.nd)
 (s_cons (s_for hp (i_rng1 (T.free 49) (c_cons (c_callB b_len (T.free 42) rfl (c_cons (c_var (pv 0)) c_nil)) c_nil)) (g_name sc_law_starts.nd)
 (s_one (s_set (c_op o_add (c_var (pv 1)) (c_comp (own := [("_law_mark", 3)]) sc_law_starts.nd (i_rng1 (T.free 49) (c_cons (c_callB b_len (T.free 42) rfl (c_cons (c_ix (c_var (pv 0)) (c_var (pv 2))) c_nil)) c_nil)) (blkOk_by (by kernel_rfl)) (fun _ _ _ _ _ => (g_name sc_law_starts.nd)) (fun _ _ _ _ _ => ts_nil) (fun _ _ _ _ _ => (c_tup (c_cons (c_var (pv 2)) (c_cons (c_var (pv 3)) c_nil)) (by decide) (aC_len (aC_len aN_len)))))) sc_law_starts.nd)))
 (s_one (s_ret (c_var (pv 1))))))
theorem ok_law_row (T : Tx K mg h fa fn) : Df P w K mg base 3 "_law_row" st_law_row ["_law_draw", "_law_shelf", "_law_many"] m_law_row := by
  unfold m_law_row
  exact Df.of T 30 30 sc_law_row fun cdv A out s H E G hK hr tk hp =>
   (s_cons (s_par2 (p_cons (c_f (ok_law_pick T) bd_law_pick hK hr tk (c_cons (c_var (pv 0)) (c_cons (c_f (ok_law_starts T) bd_law_starts hK hr tk (c_cons (c_var (pv 1)) c_nil)) c_nil))) (p_own c_nil (by decide) aN_len p_nil)) sc_law_row.nd)
 (s_cons (s_for hp (i_rng1 (T.free 49) (c_cons (c_var (pv 2)) c_nil)) (g_name sc_law_row.nd)
 (s_cons (s_set (c_f (ok_law_strokes T) bd_law_strokes hK hr tk (c_cons (c_var (pv 1)) (c_cons (c_var (pv 4)) (c_cons (c_var (pv 3)) c_nil)))) sc_law_row.nd)
 (s_cons (s_set (c_f (ok_law_pick T) bd_law_pick hK hr tk (c_cons (c_var (pv 0)) (c_cons (c_lst (c_cons c_int (c_cons c_int (c_cons c_int (c_cons (c_neg c_int) (c_cons c_int (c_cons (c_neg c_int) (c_cons (c_op o_sub c_int (c_var (pv 6))) (c_cons (c_f (ok_law_next T) bd_law_next hK hr tk (c_cons (c_var (pv 0)) (c_cons c_int c_nil))) c_nil)))))))) (by decide) (aC_len (aC_len (aC_len (aC_len (aC_len (aC_len (aC_len (aC_len aN_len))))))))) c_nil))) sc_law_row.nd)
 (s_one (s_app (pv 5) (c_callB (b_max2 rfl) (T.free 50) rfl (c_cons c_int (c_cons (c_op o_add (c_var (pv 6)) (c_var (pv 7))) c_nil))))))))
 (s_frz 5 (s_one (s_ret (c_callTy b_tuple (T.free 41) rfl (c_cons (c_var (pv 5)) c_nil)))))))
theorem ok_law_gone (T : Tx K mg h fa fn) : Df P w K mg base 2 "_law_gone" st_law_gone ["_law_shelf", "_law_begin_so", "_law_row_here"] m_law_gone := by
  unfold m_law_gone
  exact Df.of T 31 31 sc_law_gone fun cdv A out s H E G hK hr tk hp =>
   (s_cons (s_parT (is := [3, 4]) (p_cons c_int (p_cons c_int p_nil)) (pgs_cons (pg_name sc_law_gone.nd rfl (by first | exact Or.inl rfl | exact Or.inr rfl)) (pgs_cons (pg_name sc_law_gone.nd rfl (by first | exact Or.inl rfl | exact Or.inr rfl)) pgs_nil)))
 (s_cons (s_for hp (i_enum (T.free 44) (c_cons (c_var (pv 2)) c_nil)) (g_tup rfl (gs_cons (gs_cons gs_nil sc_law_gone.nd) sc_law_gone.nd))
 (s_cons (s_set (c_f (ok_law_strokes T) bd_law_strokes hK hr tk (c_cons (c_var (pv 0)) (c_cons (c_var (pv 1)) (c_cons (c_var (pv 5)) c_nil)))) sc_law_gone.nd)
 (s_one (s_par2 (p_cons (c_op o_add (c_var (pv 3)) (c_callB (b_max2 rfl) (T.free 50) rfl (c_cons c_int (c_cons (c_op o_sub (c_var (pv 7)) (c_var (pv 6))) c_nil)))) (p_cons (c_op o_add (c_var (pv 4)) (c_callB (b_max2 rfl) (T.free 50) rfl (c_cons c_int (c_cons (c_op o_sub (c_var (pv 6)) (c_var (pv 7))) c_nil)))) p_nil)) sc_law_gone.nd))))
 (s_one (s_ret (c_tup (c_cons (c_var (pv 3)) (c_cons (c_var (pv 4)) c_nil)) (by decide) (aC_len (aC_len aN_len)))))))
theorem ok_law_fits (T : Tx K mg h fa fn) : Df P w K mg base 3 "_law_fits" st_law_fits ["_law_shelf", "_law_slack", "_law_row_here"] m_law_fits := by
  unfold m_law_fits
  exact Df.of T 32 32 sc_law_fits fun cdv A out s H E G hK hr tk hp =>
   (s_cons (s_own c_nil (by decide) aN_len sc_law_fits.nd)
 (s_cons (s_for hp (i_seq (c_f (ok_law_starts T) bd_law_starts hK hr tk (c_cons (c_var (pv 0)) c_nil))) (g_name sc_law_fits.nd)
 (s_cons (s_unp (c_f (ok_law_gone T) bd_law_gone hK hr tk (c_cons (c_var (pv 0)) (c_cons (c_var (pv 4)) (c_cons (c_var (pv 2)) c_nil)))) (g_tup rfl (gs_cons (gs_cons gs_nil sc_law_fits.nd) sc_law_fits.nd)))
 (s_one (s_if (PW.pt (c_and (c_tcmp o_le (c_var (pv 5)) (c_ix (c_var (pv 1)) c_int) rfl) (c_and1 (c_tcmp o_le (c_var (pv 6)) (c_ix (c_var (pv 1)) c_int) rfl))))
 (s_one (s_app (pv 3) (c_var (pv 4))))
 s_nil))))
 (s_frz 3 (s_one (s_ret (c_var (pv 3)))))))
theorem ok_law_same (T : Tx K mg h fa fn) : Df P w K mg base 2 "_law_same" st_law_same ["_law_shelf", "_law_one", "_law_other"] m_law_same := by
  unfold m_law_same
  exact Df.of T 33 33 sc_law_same fun cdv A out s H E G hK hr tk hp =>
   (s_cons (s_for hp (i_rng1 (T.free 49) (c_cons (c_op o_mul (c_callB b_len (T.free 42) rfl (c_cons (c_ix (c_var (pv 0)) (c_ix (c_var (pv 1)) c_int)) c_nil)) (c_callB b_len (T.free 42) rfl (c_cons (c_ix (c_var (pv 0)) (c_ix (c_var (pv 2)) c_int)) c_nil))) c_nil)) (g_name sc_law_same.nd)
 (s_one (s_if (c_tcmp (o_ne hr.r.units) (c_f (ok_law_strokes T) bd_law_strokes hK hr tk (c_cons (c_var (pv 0)) (c_cons (c_var (pv 1)) (c_cons (c_var (pv 3)) c_nil)))) (c_f (ok_law_strokes T) bd_law_strokes hK hr tk (c_cons (c_var (pv 0)) (c_cons (c_var (pv 2)) (c_cons (c_var (pv 3)) c_nil)))) rfl)
 (s_one (s_ret c_bl))
 s_nil)))
 (s_one (s_ret c_bl)))
theorem ok_law_known (T : Tx K mg h fa fn) : Df P w K mg base 4 "_law_known" st_law_known ["_law_shelf", "_law_slack", "_law_row_here"] m_law_known := by
  unfold m_law_known
  exact Df.of T 34 34 sc_law_known fun cdv A out s H E G hK hr tk hp =>
   (s_cons (s_for hp (i_rng1 (T.free 49) (c_cons (c_op o_add (c_callB b_len (T.free 42) rfl (c_cons (c_var (pv 2)) c_nil)) c_int) c_nil)) (g_name sc_law_known.nd)
 (s_cons (s_set (c_f (ok_law_fits T) bd_law_fits hK hr tk (c_cons (c_var (pv 0)) (c_cons (c_var (pv 1)) (c_cons (c_sl (c_var (pv 2)) o_none (o_some (c_var (pv 3)))) c_nil)))) sc_law_known.nd)
 (s_cons (s_setC (own := [("_law_other", 6)]) sc_law_known.nd (i_seq (c_var (pv 4))) (blkOk_by (by kernel_rfl)) (fun _ _ _ _ _ => (g_name sc_law_known.nd)) (fun _ _ _ _ _ => (ts_one (c_not (c_val (c_f (ok_law_same T) bd_law_same hK hr takesF (c_cons (c_var (pv 0)) (c_cons (c_ix (c_var (pv 4)) c_int) (c_cons (c_var (pv 6)) c_nil)))))))) (fun _ _ _ _ _ => (c_var (pv 6))))
 (s_one (s_if (PW.pt (c_and (c_tcmp (o_ne hr.r.units) (c_var (pv 4)) (c_lst c_nil (by decide) aN_len) rfl) (c_and1 (c_tcmp (o_eq hr.r.units) (c_var (pv 5)) (c_lst c_nil (by decide) aN_len) rfl))))
 (s_one (s_ret (c_var (pv 3))))
 s_nil)))))
 (s_one (s_ret c_non)))
theorem ok_next_in (T : Tx K mg h fa fn) : Df P w K mg base 5 "next_in" st_next_in ["book", "loss", "heard"] m_next_in := by
  unfold m_next_in
  exact Df.of T 35 35 sc_next_in fun cdv A out s H E G hK hr tk hp =>
   (s_one (s_ret (c_callB b_sorted (T.free 53) rfl (c_cons (c_dkeys (own := [("start", 3)]) (T.free 52) sc_next_in.nd (i_seq (c_f (ok_fitting_in T) bd_fitting_in hK hr tk (c_cons (c_var (pv 0)) (c_cons (c_var (pv 1)) (c_cons (c_var (pv 2)) c_nil))))) (blkOk_by (by kernel_rfl)) (fun _ _ _ _ _ => (g_name sc_next_in.nd)) (fun _ _ _ _ _ => (c_f (ok_struck T) bd_struck hK hr takesF (c_cons (c_var (pv 0)) (c_cons (c_var (pv 3)) (c_cons (c_callB b_len (T.free 42) rfl (c_cons (c_var (pv 2)) c_nil)) c_nil)))))) c_nil))))
theorem ok_next_strokes (T : Tx K mg h fa fn) : Df P w K mg base 6 "next_strokes" st_next_strokes ["book", "loss", "heard"] m_next_strokes := by
  unfold m_next_strokes
  exact Df.of T 36 36 sc_next_strokes fun cdv A out s H E G hK hr tk hp =>
   (s_cons (s_do (c_f (ok_need_all T) bd_need_all hK hr tk (c_cons (c_var (pv 0)) (c_cons (c_var (pv 1)) (c_cons (c_var (pv 2)) c_nil)))))
 (s_one (s_ret (c_callTy b_tuple (T.free 41) rfl (c_cons (c_f (ok_next_in T) bd_next_in hK hr tk (c_cons (c_var (pv 0)) (c_cons (c_var (pv 1)) (c_cons (c_var (pv 2)) c_nil)))) c_nil)))))
theorem ok_law (T : Tx K mg h fa fn) : Df P w K mg base 8 "law" st_law ["_law_script"] m_law := by
  unfold m_law m_law_f2 m_law_f1
  exact Df.of T 37 37 sc_law fun cdv A out s H E G hK hr tk hp =>
   (s_cons (s_set (c_f (ok_law_begin T) bd_law_begin hK hr tk (c_cons (c_var (pv 0)) c_nil)) sc_law.nd)
 (s_cons (s_for hp (i_rng1 (T.free 49) (c_cons c_int c_nil)) (g_name sc_law.nd)
 (s_cons (s_parT (is := [6, 7]) (p_cons (c_f (ok_law_book T) bd_law_book hK hr tk (c_cons (c_var (pv 1)) (c_cons (c_f (ok_law_pick T) bd_law_pick hK hr tk (c_cons (c_var (pv 1)) (c_cons (c_lst (c_cons c_int (c_cons c_int (c_cons c_int c_nil))) (by decide) (aC_len (aC_len (aC_len aN_len)))) c_nil))) c_nil))) (p_cons (c_f (ok_law_loss T) bd_law_loss hK hr tk (c_cons (c_var (pv 1)) c_nil)) p_nil)) (pgs_cons (pg_name sc_law.nd rfl (by first | exact Or.inl rfl | exact Or.inr rfl)) (pgs_cons (pg_name sc_law.nd rfl (by first | exact Or.inl rfl | exact Or.inr rfl)) pgs_nil)))
 (s_one (s_for hp (i_rng1 (T.free 49) (c_cons c_int c_nil)) (g_name sc_law.nd)
 (s_cons (s_set (c_f (ok_law_row T) bd_law_row hK hr tk (c_cons (c_var (pv 1)) (c_cons (c_var (pv 6)) (c_cons (c_f (ok_law_next T) bd_law_next hK hr tk (c_cons (c_var (pv 1)) (c_cons c_int c_nil))) c_nil)))) sc_law.nd)
 (s_cons (s_par2 (p_cons (c_callB (b_repr hr) (T.free 54) rfl (c_cons (c_lst (c_cons (c_var (pv 6)) (c_cons (c_var (pv 7)) (c_cons (c_var (pv 8)) c_nil))) (by decide) (aC_len (aC_len (aC_len aN_len)))) c_nil)) (p_cons (c_f (ok_law_fits T) bd_law_fits hK hr tk (c_cons (c_var (pv 6)) (c_cons (c_var (pv 7)) (c_cons (c_var (pv 8)) c_nil)))) p_nil)) sc_law.nd)
 (s_cons (s_set (c_lst (c_cons (c_f (ok_fitting T) bd_fitting hK hr tk (c_cons (c_var (pv 6)) (c_cons (c_var (pv 7)) (c_cons (c_var (pv 8)) c_nil)))) (c_cons (c_fk (ks := ["heard", "loss", "book"]) (perm := [2, 1, 0]) (ok_fitting T) bk_fitting_2_1_0 hK hr tk (k_cons (c_var (pv 8)) (k_cons (c_var (pv 7)) (k_cons (c_var (pv 6)) k_nil))) (aC_len (aC_len (aC_len aN_len)))) c_nil)) (by decide) (aC_len (aC_len aN_len))) sc_law.nd)
 (s_cons (s_if (c_tcmp (o_ne hr.r.units) (c_callB (b_repr hr) (T.free 54) rfl (c_cons (c_var (pv 4)) c_nil)) (c_callB (b_repr hr) (T.free 54) rfl (c_cons (c_op o_mul (c_lst (c_cons (c_callTy b_tuple (T.free 41) rfl (c_cons (c_var (pv 12)) c_nil)) c_nil) (by decide) (aC_len aN_len)) c_int) c_nil)) rfl)
 (s_one (s_ret c_bl))
 s_nil)
 (s_cons (s_set (c_f (ok_law_pick T) bd_law_pick hK hr tk (c_cons (c_var (pv 1)) (c_cons (c_f (ok_law_starts T) bd_law_starts hK hr tk (c_cons (c_var (pv 6)) c_nil)) c_nil))) sc_law.nd)
 (s_cons (s_set (c_lst (c_cons (c_f (ok_missed T) bd_missed hK hr tk (c_cons (c_var (pv 6)) (c_cons (c_var (pv 9)) (c_cons (c_var (pv 8)) c_nil)))) (c_cons (c_fk (ks := ["heard", "start", "book"]) (perm := [2, 1, 0]) (ok_missed T) bk_missed_2_1_0 hK hr tk (k_cons (c_var (pv 8)) (k_cons (c_var (pv 9)) (k_cons (c_var (pv 6)) k_nil))) (aC_len (aC_len (aC_len aN_len)))) c_nil)) (by decide) (aC_len (aC_len aN_len))) sc_law.nd)
 (s_cons (s_if (c_tcmp (o_ne hr.r.units) (c_callB (b_repr hr) (T.free 54) rfl (c_cons (c_var (pv 4)) c_nil)) (c_callB (b_repr hr) (T.free 54) rfl (c_cons (c_op o_mul (c_lst (c_cons (c_f (ok_law_gone T) bd_law_gone hK hr tk (c_cons (c_var (pv 6)) (c_cons (c_var (pv 9)) (c_cons (c_var (pv 8)) c_nil)))) c_nil) (by decide) (aC_len aN_len)) c_int) c_nil)) rfl)
 (s_one (s_ret c_bl))
 s_nil)
 (s_cons (s_set (c_f (ok_law_known T) bd_law_known hK hr tk (c_cons (c_var (pv 6)) (c_cons (c_var (pv 7)) (c_cons (c_var (pv 8)) c_nil)))) sc_law.nd)
 (s_cons (s_if (c_tcmp (o_ne hr.r.units) (c_callB (b_repr hr) (T.free 54) rfl (c_cons (c_op o_mul (c_lst (c_cons (c_f (ok_known_behind T) bd_known_behind hK hr tk (c_cons (c_var (pv 6)) (c_cons (c_var (pv 7)) (c_cons (c_var (pv 8)) c_nil)))) c_nil) (by decide) (aC_len aN_len)) c_int) c_nil)) (c_callB (b_repr hr) (T.free 54) rfl (c_cons (c_lst (c_cons (c_var (pv 10)) (c_cons (c_var (pv 10)) c_nil)) (by decide) (aC_len (aC_len aN_len))) c_nil)) rfl)
 (s_one (s_ret c_bl))
 s_nil)
 (s_cons (s_set (c_callTy b_tuple (T.free 41) rfl (c_cons (c_sorSet (T.free 53) (T.free 55) (c_cons (c_comp (own := [("_law_one", 13)]) sc_law.nd (i_seq (c_var (pv 12))) (blkOk_by (by kernel_rfl)) (fun _ _ _ _ _ => (g_name sc_law.nd)) (fun _ _ _ _ _ => ts_nil) (fun _ _ _ _ _ => (c_f (ok_law_strokes T) bd_law_strokes hK hr takesF (c_cons (c_var (pv 6)) (c_cons (c_var (pv 13)) (c_cons (c_callB b_len (T.free 42) rfl (c_cons (c_var (pv 8)) c_nil)) c_nil)))))) c_nil)) c_nil)) sc_law.nd)
 (s_cons (s_if (c_tcmp (o_ne hr.r.units) (c_callB (b_repr hr) (T.free 54) rfl (c_cons (c_op o_mul (c_lst (c_cons (c_f (ok_next_strokes T) bd_next_strokes hK hr tk (c_cons (c_var (pv 6)) (c_cons (c_var (pv 7)) (c_cons (c_var (pv 8)) c_nil)))) c_nil) (by decide) (aC_len aN_len)) c_int) c_nil)) (c_callB (b_repr hr) (T.free 54) rfl (c_cons (c_lst (c_cons (c_var (pv 10)) (c_cons (c_var (pv 10)) c_nil)) (by decide) (aC_len (aC_len aN_len))) c_nil)) rfl)
 (s_one (s_ret c_bl))
 s_nil)
 (s_one (s_if (c_tcmp (o_ne hr.r.units) (c_callB (b_repr hr) (T.free 54) rfl (c_cons (c_lst (c_cons (c_var (pv 6)) (c_cons (c_var (pv 7)) (c_cons (c_var (pv 8)) c_nil))) (by decide) (aC_len (aC_len (aC_len aN_len)))) c_nil)) (c_var (pv 11)) rfl)
 (s_one (s_ret c_bl))
 s_nil)))))))))))))))))
 (s_cons (s_set (c_tup (c_cons (c_tup (c_cons c_int (c_cons c_int (c_cons c_int (c_cons c_int (c_cons c_int (c_cons c_int (c_cons c_int (c_cons c_int (c_cons c_int (c_cons c_int (c_cons c_int (c_cons c_int c_nil)))))))))))) (by decide) (aC_len (aC_len (aC_len (aC_len (aC_len (aC_len (aC_len (aC_len (aC_len (aC_len (aC_len (aC_len aN_len))))))))))))) c_nil) (by decide) (aC_len aN_len)) sc_law.nd)
 (s_cons (s_set (c_lst (c_cons (c_f (ok_fitting T) bd_fitting hK hr tk (c_cons (c_var (pv 3)) (c_cons (c_tup (c_cons c_int (c_cons c_int c_nil)) (by decide) (aC_len (aC_len aN_len))) (c_cons (c_tup (c_cons c_int (c_cons c_int c_nil)) (by decide) (aC_len (aC_len aN_len))) c_nil)))) (c_cons (c_f (ok_known_behind T) bd_known_behind hK hr tk (c_cons (c_var (pv 3)) (c_cons (c_tup (c_cons c_int (c_cons c_int c_nil)) (by decide) (aC_len (aC_len aN_len))) (c_cons (c_tup (c_cons c_int (c_cons c_int (c_cons c_int c_nil))) (by decide) (aC_len (aC_len (aC_len aN_len)))) c_nil)))) c_nil)) (by decide) (aC_len (aC_len aN_len))) sc_law.nd)
 (s_cons (s_set (c_op o_add (c_var (pv 4)) (c_lst (c_cons (c_f (ok_next_strokes T) bd_next_strokes hK hr tk (c_cons (c_var (pv 3)) (c_cons (c_tup (c_cons c_int (c_cons c_int c_nil)) (by decide) (aC_len (aC_len aN_len))) (c_cons (c_tup (c_cons c_int c_nil) (by decide) (aC_len aN_len)) c_nil)))) (c_cons (c_f (ok_missed T) bd_missed hK hr tk (c_cons (c_var (pv 3)) (c_cons (c_tup (c_cons c_int (c_cons c_int c_nil)) (by decide) (aC_len (aC_len aN_len))) (c_cons (c_tup (c_cons c_int (c_cons c_int (c_cons c_int c_nil))) (by decide) (aC_len (aC_len (aC_len aN_len)))) c_nil)))) c_nil)) (by decide) (aC_len (aC_len aN_len)))) sc_law.nd)
 (s_cons (s_set (c_op o_add (c_var (pv 4)) (c_lst (c_cons (c_f (ok_fitting T) bd_fitting hK hr tk (c_cons (c_var (pv 3)) (c_cons (c_tup (c_cons c_int (c_cons c_int c_nil)) (by decide) (aC_len (aC_len aN_len))) (c_cons (c_tup (c_cons c_int c_nil) (by decide) (aC_len aN_len)) c_nil)))) (c_cons (c_f (ok_known_behind T) bd_known_behind hK hr tk (c_cons (c_var (pv 3)) (c_cons (c_tup (c_cons c_int (c_cons c_int c_nil)) (by decide) (aC_len (aC_len aN_len))) (c_cons (c_tup (c_cons c_int c_nil) (by decide) (aC_len aN_len)) c_nil)))) c_nil)) (by decide) (aC_len (aC_len aN_len)))) sc_law.nd)
 (s_cons (s_if (c_tcmp (o_ne hr.r.units) (c_var (pv 4)) (c_lst (c_cons (c_tup (c_cons (c_tup (c_cons c_int (c_cons c_int c_nil)) (by decide) (aC_len (aC_len aN_len))) (c_cons (c_tup (c_cons c_int (c_cons c_int c_nil)) (by decide) (aC_len (aC_len aN_len))) c_nil)) (by decide) (aC_len (aC_len aN_len))) (c_cons c_int (c_cons (c_tup (c_cons c_int (c_cons c_int (c_cons c_int (c_cons c_int (c_cons c_int (c_cons c_int c_nil)))))) (by decide) (aC_len (aC_len (aC_len (aC_len (aC_len (aC_len aN_len))))))) (c_cons (c_tup (c_cons c_int (c_cons c_int c_nil)) (by decide) (aC_len (aC_len aN_len))) (c_cons (c_tup c_nil (by decide) aN_len) (c_cons c_non c_nil)))))) (by decide) (aC_len (aC_len (aC_len (aC_len (aC_len (aC_len aN_len))))))) rfl)
 (s_one (s_ret c_bl))
 s_nil)
 (s_one (s_ret (c_eand (c_f0 (ok_law_long_right T) bd_law_long_right hK hr tk) (c_eone (c_cmp (o_eq hr.r.units) (c_f (ok_missed T) bd_missed hK hr tk (c_cons (c_var (pv 3)) (c_cons (c_tup (c_cons c_int (c_cons c_int c_nil)) (by decide) (aC_len (aC_len aN_len))) (c_cons (c_op o_mul (c_tup (c_cons (c_op o_pow c_int c_int) c_nil) (by decide) (aC_len aN_len)) c_int) c_nil)))) (c_tup (c_cons c_int (c_cons (c_op o_sub (c_op o_mul c_int (c_op o_pow c_int c_int)) c_int) c_nil)) (by decide) (aC_len (aC_len aN_len))) rfl))))))))))))
end
end Sk

/-! ### the head -/
namespace Sk
open PySem PySem.Spec PyProof.Rows L2
abbrev RR : PySem.W.OpenRow := PySem.W.OpenLaw.row PySem.Challenge.rw_strokesheard_k10_whole_hearing
abbrev hk : PySem.W.Hook := hookN 4 fa fn
def ob (s : PySem.W.SharedT) : AlN := obsN 4 fa fn (HandSHeadRun.getT s)
theorem ob_eq (s : PySem.W.SharedT) : ob s = hk.obs s.abs := obsN_eq (HandSHeadRun.getT_eq s)
def loose : List Str := (["HearError", "BadBook", "BadLoss", "BadHeard", "BadStart", "MOST_CLOCKS", "MOST_MARKS", "MOST_STROKES", "MOST_HEARD", "MOST_NUMBER", "is_integer", "is_whole", "book_fault", "need_book", "need_loss", "heard_fault", "need_heard", "is_start", "need_start", "all_starts", "struck", "common_round", "are_same_in", "missed_in", "missed", "fits", "fitting_in", "need_all", "fitting", "are_sure"] : List Str) ++ (["known_behind", "next_in", "next_strokes", "_law_begin", "_law_next", "_law_pick", "_law_clock", "_law_book", "_law_starts", "_law_strokes", "_law_loss", "_law_row", "_law_same", "_law_gone", "_law_fits", "_law_known", "_law_long_right"] : List Str)
theorem run (w : World) : HandSHeadRun.RunEq RR (PySem.W.view RR.prog [51]) hk ob 4000 loose w := by
  intro os
  kernel_rfl
theorem law_facts {P : Program} {w : World} {K : PySem.W.Frag} {h : Heap} {mg : Str → Option Value} {f : Addr} (X : K.In h) (G : h.Ns mainGlobals mg) (hfa : mg ("law" : Str) = some (.ref f)) (c : He.SaysD fa fn K) :
    ∃ fd : FuncData, (∀ (s : Shared) (v : Value), BindsTo s fd ⟨[v], []⟩ [("_law_script", v)]) ∧ ∀ base : Heap, K.In base → base.Ns mainGlobals mg → FnG P w K mg base 8 f fd ["_law_script"] (spOf K m_law) := by
  have T : Tx K mg h fa fn := ⟨X, G, c⟩
  have e := hfa.symm.trans (T.glo 37 (x := "law") rfl)
  cases e
  obtain ⟨fd, F⟩ := c.def_ 37 (d := dOf "law" st_law) rfl
  have b := FunD.bindsA (ps := ["_law_script"]) F bd_law
  refine ⟨fd, fun s v => b s [v] rfl, fun base _ _ => ?_⟩
  obtain ⟨fd2, F2, G2⟩ := (ok_law (P := P) (w := w) (base := base) T).ex
  have e2 : fd2 = fd := fd_eq F2 F
  subst e2
  exact G2
end Sk
open PySem PySem.W PySem.Calls PyProof.Rows
theorem PySem.Challenge.cw_strokesheard_k10_whole_hearing_holds : PySem.Challenge.rw_strokesheard_k10_whole_hearing.Holds := by
  w_on; o_law
  refine HandSHeadRun.head_any (r := OpenLaw.row PySem.Challenge.rw_strokesheard_k10_whole_hearing) (q := view (OpenLaw.row PySem.Challenge.rw_strokesheard_k10_whole_hearing).prog [51]) (H := Sk.hk) (ob := Sk.ob) (M := 4000) (loose := Sk.loose) (d := HandSHeadRun.topDef (OpenLaw.row PySem.Challenge.rw_strokesheard_k10_whole_hearing).prog 51) (kwd := []) Sk.ob_eq
    (by kernel_rfl) (fun s => by kernel_rfl) Sk.run (by kernel_rfl) (by kernel_rfl) (by kernel_rfl) (by rfl) (by first | assumption | decide +kernel) (by decide +kernel) ⟨rfl, rfl, rfl, rfl, rfl, by decide +kernel⟩ ?hw ?hc
  case hw => w_witness2
  case hc =>
    refine Sk.walk_law (l := PySem.Challenge.rw_strokesheard_k10_whole_hearing) (n := 63) (k := 8) (x := "_law_script") rfl (by decide) (by kernel_rfl) ⟨⟨rfl, by decide, by decide⟩, rfl⟩ ?F
    intro w mg fa h Y G hmg0
    obtain ⟨K, KX, c, nl⟩ := Y
    have hmg : mg ("law" : PySem.Str) = some (.ref fa) := by
      have e : (HandSHeadRun.topDef (OpenLaw.row PySem.Challenge.rw_strokesheard_k10_whole_hearing).prog 51).name = ("law" : PySem.Str) := by kernel_rfl
      rw [← e]
      exact hmg0
    obtain ⟨fd, hb, hF⟩ := Sk.law_facts (P := (PySem.Challenge.rw_strokesheard_k10_whole_hearing).prog) (w := w) KX G hmg c
    exact ⟨K, fd, Sk.spOf K Sk.m_law, KX, nl, hb, fun H a ns o hl hS => Sk.law_sp Sk.lawful ⟨a, ns, o, rfl, hS, hl, fun _ => rfl⟩, hF⟩

