import PyProof.Rows.All
import Wide.All
import OpenK.AllK
import Wide.FinOn
import HandS.ForMost
import HandS.ForExc
import HandS.Wide
import HandS.Defaults
import HandS.CallSlots
import HandS.HeadHook2
import HandS.Lambda
import HandS.TupAny
import HandS.TupMul
import HandS.IsInst
import HandS.Small
import HandS.Style
import HandS.Zip
import KE.GoesMore
import PyProof.ReprRoads
import HandS.RaiseMore
import HandS.Head0
import HandS.Head1
import HandS.Head2
import HandS.HeadEnd
import HandS.HeadHook1
import HandS.Conv
import HandS.TupLe
import HandS.SortKw
import KE.DataMinMax
import HandS.SortInts
import HandS.SortRule
import HandS.Deep
import KE.SortData
import HandS.Text
import PyProof.StrOps2
import HandS.Strs
import HandS.SetFor
import HandS.DictComp
import HandS.ExcInit
import KE.KExcInit
import HandS.Property
import KE.KTryMore
import HandS.ExcValue
import KE.KExcIs
import HandS.ExcField
import HandS.Star
import HandS.Flt
import KE.KDflt
import PyProof.InstNe
import PyProof.EqKinds
import KE.KWithOwn
import PySem.Challenge.RW_strokesheard_k21_refused_at_each_door
import KE.KStateDown
set_option Elab.async false
set_option linter.all false
set_option maxRecDepth 100000
set_option maxHeartbeats 0
/-! A law of the program: each def is mirrored by a function of plain data; the layer Sk shows that the text does what its mirror does; the rest is reckoning with the mirrors. -/
/-! Sk A: data, memory, the relations to the heap. -/
namespace Sk
open PySem PySem.Spec L2

/-- a datum: immutable things by content, mutable ones by number -/
inductive Da where
  | non | bl (b : Bool) | int (i : Int) | str (x : Str) | tup (xs : List Da) | lst (xs : List Da) | ref (n : Nat)
/-- what a numbered thing holds -/
inductive Ob where
  | dct (kvs : List (Str × Da)) | ins (c : Str) (fs : List (Str × Da)) | scr (xs : List Da) | err (c : Str) (fs : List (Str × Da)) | tab (q : Str) | dead
abbrev Mem := List Ob
/-- an error in the air -/
structure Exn where
  cls : Str
  fs : List (Str × Da)
inductive Out (α : Type) where
  | ok (a : α) (mu : Mem) | exc (x : Exn) (mu : Mem) | bad
/-- a slot of a def: unset, a datum, a list that the def is still filling -/
inductive Sl where
  | un | val (d : Da) | own (xs : List Da)
abbrev Ev := List Sl

mutual
inductive RD (m : List Addr) (B : Addr → Prop) (H : Hp) : Da → V → Prop
  | non : RD m B H .non .non
  | bl (b : Bool) : RD m B H (.bl b) (.bl b)
  | int (i : Int) : RD m B H (.int i) (.int i)
  | str (x : Str) : RD m B H (.str x) (.str x)
  | tup {a : Addr} {xs : List Da} {us : List V} : a ∉ m → ¬ B a → H a = some (.tup us) → RDs m B H xs us → RD m B H (.tup xs) (.ref a)
  | lst {a : Addr} {xs : List Da} {us : List V} : a ∉ m → ¬ B a → H a = some (.lst us) → RDs m B H xs us → RD m B H (.lst xs) (.ref a)
  | ref {n : Nat} {a : Addr} : m[n]? = some a → RD m B H (.ref n) (.ref a)
inductive RDs (m : List Addr) (B : Addr → Prop) (H : Hp) : List Da → List V → Prop
  | nil : RDs m B H [] []
  | cons {d : Da} {ds : List Da} {v : V} {vs : List V} : RD m B H d v → RDs m B H ds vs → RDs m B H (d :: ds) (v :: vs)
end

/-- no table of code objects -/
abbrev NT (o : HO) : Prop := ∀ ps, o ≠ .tbl ps
/-- the order of worlds: what was tracked stays, but for the numbered things, the barred ones, the tables -/
structure Le (m : List Addr) (B : Addr → Prop) (H : Hp) (m' : List Addr) (B' : Addr → Prop) (H' : Hp) : Prop where
  pre : ∃ t, m' = m ++ t ∧ ∀ a ∈ t, H a = none
  keep : ∀ a o, H a = some o → NT o → a ∉ m → ¬ B a → H' a = some o
  dom : ∀ a, H' a = none → H a = none
  op : ∀ a, B' a → B a ∨ H a = none

section
variable {m m' : List Addr} {B B' : Addr → Prop} {H H' : Hp}
theorem Le.away (g : Le m B H m' B' H') {a : Addr} {u : HO} (e : H a = some u) (h1 : a ∉ m) (h2 : ¬ B a) : a ∉ m' ∧ ¬ B' a := by
  refine ⟨fun hm => ?_, fun hb => ?_⟩
  · obtain ⟨t, rfl, ht⟩ := g.pre
    rcases List.mem_append.mp hm with h | h
    · exact h1 h
    · rw [ht a h] at e; cases e
  · rcases g.op a hb with h | h
    · exact h2 h
    · rw [h] at e; cases e
theorem Le.rd (g : Le m B H m' B' H') {a : Addr} {u : HO} (e : H a = some u) (n : NT u) (h1 : a ∉ m) (h2 : ¬ B a) : H' a = some u ∧ a ∉ m' ∧ ¬ B' a :=
  ⟨g.keep _ _ e n h1 h2, g.away e h1 h2⟩
theorem Le.num (g : Le m B H m' B' H') {n : Nat} {a : Addr} (h : m[n]? = some a) : m'[n]? = some a := by
  obtain ⟨t, rfl, _⟩ := g.pre
  rw [List.getElem?_append_left (List.getElem?_eq_some_iff.mp h).1]
  exact h
mutual
theorem RD.mono (g : Le m B H m' B' H') : ∀ {d : Da} {v : V}, RD m B H d v → RD m' B' H' d v
  | _, _, .non => .non
  | _, _, .bl b => .bl b
  | _, _, .int i => .int i
  | _, _, .str x => .str x
  | _, _, .tup h1 h2 h3 h4 => let ⟨a, b, c⟩ := g.rd h3 (fun _ z => nomatch z) h1 h2; .tup b c a (RDs.mono g h4)
  | _, _, .lst h1 h2 h3 h4 => let ⟨a, b, c⟩ := g.rd h3 (fun _ z => nomatch z) h1 h2; .lst b c a (RDs.mono g h4)
  | _, _, .ref h => .ref (g.num h)
theorem RDs.mono (g : Le m B H m' B' H') : ∀ {d : List Da} {v : List V}, RDs m B H d v → RDs m' B' H' d v
  | _, _, .nil => .nil
  | _, _, .cons h t => .cons (RD.mono g h) (RDs.mono g t)
end
theorem Le.refl : Le m B H m B H := ⟨⟨[], by simp, by simp⟩, fun _ _ h _ _ _ => h, fun _ h => h, fun _ h => .inl h⟩
theorem Le.trans {m2 : List Addr} {B2 : Addr → Prop} {H2 : Hp} (g : Le m B H m' B' H') (k : Le m' B' H' m2 B2 H2) : Le m B H m2 B2 H2 := by
  refine ⟨?_, fun a o e n h1 h2 => ?_, fun a e => g.dom a (k.dom a e), fun a h => ?_⟩
  · obtain ⟨t, rfl, ht⟩ := g.pre
    obtain ⟨u, rfl, hu⟩ := k.pre
    refine ⟨t ++ u, by simp, fun a h => ?_⟩
    rcases List.mem_append.mp h with h | h
    · exact ht a h
    · exact g.dom a (hu a h)
  · obtain ⟨a1, a2, a3⟩ := g.rd e n h1 h2
    exact k.keep a o a1 n a2 a3
  · rcases k.op a h with h | h
    · exact g.op a h
    · exact .inr (g.dom a h)
/-- the barred become fewer -/
theorem Le.less (h : ∀ a, B' a → B a) : Le m B H m B' H := ⟨⟨[], by simp, by simp⟩, fun _ _ e _ _ _ => e, fun _ e => e, fun a z => .inl (h a z)⟩
theorem RDs.length : ∀ {ds : List Da} {vs : List V}, RDs m B H ds vs → ds.length = vs.length
  | _, _, .nil => rfl
  | _, _, .cons _ t => congrArg Nat.succ (RDs.length t)
theorem RDs.get : ∀ {ds : List Da} {vs : List V} {i : Nat} {d : Da}, RDs m B H ds vs → ds[i]? = some d → ∃ v, vs[i]? = some v ∧ RD m B H d v
  | _, _, 0, _, .cons h _, e => by
    have e' := Option.some.inj e
    subst e'
    exact ⟨_, rfl, h⟩
  | _, _, i + 1, _, .cons _ t, e => RDs.get (i := i) t e
theorem RDs.append : ∀ {ds es : List Da} {vs us : List V}, RDs m B H ds vs → RDs m B H es us → RDs m B H (ds ++ es) (vs ++ us)
  | _, _, _, _, .nil, s => s
  | _, _, _, _, .cons h t, s => .cons h (RDs.append t s)
theorem RDs.take : ∀ {ds : List Da} {vs : List V} (n : Nat), RDs m B H ds vs → RDs m B H (ds.take n) (vs.take n)
  | _, _, 0, _ => by simpa using RDs.nil
  | _, _, _ + 1, .nil => .nil
  | _, _, n + 1, .cons h t => .cons h (RDs.take n t)
theorem RDs.drop : ∀ {ds : List Da} {vs : List V} (n : Nat), RDs m B H ds vs → RDs m B H (ds.drop n) (vs.drop n)
  | _, _, 0, h => by simpa using h
  | _, _, _ + 1, .nil => .nil
  | _, _, n + 1, .cons _ t => RDs.drop n t
end

/-! ### the order that calls and expressions keep -/
abbrev NoB : Addr → Prop := fun _ => False
abbrev Lf (m : List Addr) (H : Hp) (m' : List Addr) (H' : Hp) : Prop := Le m NoB H m' NoB H'
section
variable {m m' : List Addr} {B B' : Addr → Prop} {H H' : Hp}
theorem Lf.le (g : Lf m H m' H') (B : Addr → Prop) : Le m B H m' B H' := ⟨g.pre, fun a o e n h _ => g.keep a o e n h (fun z => z), g.dom, fun _ h => .inl h⟩
theorem Lf.of_same (h : Same H H') : Lf m H m H' := ⟨⟨[], by simp, by simp⟩, fun a o e _ _ _ => h a o e, fun a e => h.free e, fun _ z => .inl z⟩
theorem Lf.refl : Lf m H m H := Le.refl
end

/-! ### memory -/
/-- an error at a, which was caught: its class, its own dict at d -/
def exq (a C d : Addr) : HO := .ext fun h => ∃ (oe : Obj) (vs : Array Value), h.get? a = some oe ∧ Zc (.ref C) (some d) oe ∧ oe.data = .fields vs
section
variable (K : PySem.W.Frag) (m : List Addr) (B : Addr → Prop) (H : Hp)
def ObR (a : Addr) : Ob → Prop
  | .dct kvs => ∃ us, H a = some (.dK us) ∧ Paired (fun (p : Str × Da) (q : Key × V) => q.1 = .inr p.1 ∧ RD m B H p.2 q.2) kvs us
  | .ins c fs => ∃ dx us, H a = some (.ins (He.ga K c) dx us) ∧ Paired (fun (p : Str × Da) (q : Str × V) => q.1 = p.1 ∧ RD m B H p.2 q.2) fs us
  | .scr xs => ∃ o us, H a = some (.frz o (.lst us)) ∧ RDs m B H xs us
  | .err c fs => ∃ (d : Addr) (us : List (Str × V)), H a = some (exq a (He.ga K c) d) ∧ d ∉ m ∧ ¬ B d ∧ H d = some (.xd us) ∧ Paired (fun (p : Str × Da) (q : Str × V) => q.1 = p.1 ∧ RD m B H p.2 q.2) fs us
  | .tab q => ∃ ps : Array Value, H a = some (.tbl ps) ∧ TriplesOk ps.toList ∧ ∀ (pos : Pos) (cv : Value), codeAmong pos ps.toList = some cv → ∃ c, cv = .ref c ∧ c ∉ m ∧ ¬ B c ∧ H c = some (LamX.CodeO c q)
  | .dead => ∃ o, H a = some o
/-- the table of code objects at P: its code objects bear the name q -/
structure TbR (P : Addr) (q : Str) : Prop where
  nm : P ∉ m
  nb : ¬ B P
  tb : ∃ ps : Array Value, H P = some (.tbl ps) ∧ TriplesOk ps.toList ∧ ∀ (pos : Pos) (cv : Value), codeAmong pos ps.toList = some cv → ∃ c, cv = .ref c ∧ c ∉ m ∧ ¬ B c ∧ H c = some (LamX.CodeO c q)
/-- the defs that make lambdas -/
def mkrs : List Str := ["law", "_law_all", "_law_full_right", "_law_gone_right", "_law_book_due", "_law_heard_due", "_law_due", "_law_ended", "_law_within", "_law_copies_right", "_law_third_right", "_law_losses", "_law_starts_so", "_law_seconds", "_law_rows", "_law_marks", "_law_books", "_law_clocks"]
/-- the name of the lambdas of the def x -/
def lamQ (x : Str) : Str := x ++ ".<locals>." ++ "<lambda>"
structure Wd (mu : Mem) : Prop where
  tb : ∀ x ∈ mkrs, ∀ c P, PySem.W.tabIn K x = some (c, P) → TbR m B H P (lamQ x)
  ob : Paired (fun (a : Addr) (o : Ob) => ObR K m B H a o) m mu
  nd : m.Nodup
  dis : ∀ a ∈ m, ¬ B a
  dom : ∀ a, B a → ∃ o, H a = some o
def SlR (Own : Addr → Prop) : Sl → Option V → Prop
  | .un, _ => True
  | .val d, o => ∃ v, o = some v ∧ RD m B H d v
  | .own xs, o => ∃ a us, o = some (.ref a) ∧ Own a ∧ H a = some (.lst us) ∧ RDs m B H xs us
end
/-- a frame's constants: the written part, the world at its entry -/
structure Fr where
  K : PySem.W.Frag
  m : List Addr
  B : Addr → Prop
  H : Hp
abbrev Fr.bar (G : Fr) (Own : Addr → Prop) : Addr → Prop := fun a => G.B a ∨ Own a
def Sl.isOwn : Sl → Bool
  | .own _ => true
  | _ => false
/-- the state of a frame -/
structure StR (G : Fr) (rho : Ev) (mu : Mem) (σ : St) (H : Hp) (m : List Addr) (Own : Addr → Prop) : Prop where
  le : Lf G.m G.H m H
  wd : Wd G.K m (G.bar Own) H mu
  sl : Paired (fun (s : Sl) (o : Option V) => SlR m (G.bar Own) H Own s o) rho σ
  ow : ∀ a, Own a → G.H a = none ∧ ¬ G.B a
  dj : ∀ (i j : Nat) (a : Addr) (xs ys : List Da), i ≠ j → rho[i]? = some (Sl.own xs) → rho[j]? = some (Sl.own ys) → σ[i]? = some (some (V.ref a)) → σ[j]? ≠ some (some (V.ref a))
section
variable {G : Fr} {K : PySem.W.Frag} {m m' : List Addr} {B B' : Addr → Prop} {H H' : Hp} {mu : Mem} {rho : Ev} {σ : St} {Own : Addr → Prop}
theorem paired_imp {α β : Type} {F F' : α → β → Prop} (h : ∀ a b, F a b → F' a b) : ∀ {l : List α} {k : List β}, Paired F l k → Paired F' l k
  | _, _, .nil => .nil
  | _, _, .cons a t => .cons (h _ _ a) (paired_imp h t)
theorem paired_mem {α β : Type} {F F' : α → β → Prop} : ∀ {l : List α} {k : List β}, Paired F l k → (∀ a ∈ l, ∀ b, F a b → F' a b) → Paired F' l k
  | _, _, .nil, _ => .nil
  | _, _, .cons a t, h => .cons (h _ (by simp) _ a) (paired_mem t fun x hx => h x (List.mem_cons_of_mem _ hx))
theorem paired_get {α β : Type} {F : α → β → Prop} : ∀ {l : List α} {k : List β} {i : Nat} {x : α}, Paired F l k → l[i]? = some x → ∃ y, k[i]? = some y ∧ F x y
  | _, _, 0, _, .cons a _, e => by
    have e' := Option.some.inj e
    subst e'
    exact ⟨_, rfl, a⟩
  | _, _, i + 1, _, .cons _ t, e => paired_get (i := i) t e
theorem paired_len {α β : Type} {F : α → β → Prop} : ∀ {l : List α} {k : List β}, Paired F l k → l.length = k.length
  | _, _, .nil => rfl
  | _, _, .cons _ t => congrArg Nat.succ (paired_len t)
theorem paired_set {α β : Type} {F : α → β → Prop} {x : α} {y : β} (h : F x y) : ∀ {l : List α} {k : List β} (i : Nat), Paired F l k → Paired F (l.set i x) (k.set i y)
  | _, _, _, .nil => .nil
  | _, _, 0, .cons _ t => .cons h t
  | _, _, i + 1, .cons a t => .cons a (paired_set h i t)
/-- the things are kept where each numbered thing stands as it was -/
theorem TbR.mono {P : Addr} {q : Str} (t : TbR m B H P q) (g : Le m B H m' B' H') (k : ∀ ps, H P = some (.tbl ps) → H' P = some (.tbl ps)) : TbR m' B' H' P q := by
  obtain ⟨h1, h2, ps, h3, h4, h5⟩ := t
  obtain ⟨a1, a2⟩ := g.away h3 h1 h2
  refine ⟨a1, a2, ps, k _ h3, h4, fun pos cv hc => ?_⟩
  obtain ⟨c, e1, e2, e3, e4⟩ := h5 pos cv hc
  obtain ⟨b1, b2, b3⟩ := g.rd e4 (fun ps => LamX.codeO_ne ps) e2 e3
  exact ⟨c, e1, b2, b3, b1⟩
theorem Wd.mono (w : Wd K m B H mu) (g : Le m B H m B' H') (kt : ∀ P ps, H P = some (.tbl ps) → P ∉ m → ¬ B P → H' P = some (.tbl ps)) (k : ∀ a ∈ m, ∀ o, H a = some o → H' a = some o) (d : ∀ a, B' a → ∃ o, H' a = some o) (dj : ∀ a ∈ m, ¬ B' a) : Wd K m B' H' mu := by
  refine ⟨fun x hx c P e => (w.tb x hx c P e).mono g fun ps h => kt P ps h (w.tb x hx c P e).nm (w.tb x hx c P e).nb, paired_mem w.ob fun a ha o h => ?_, w.nd, dj, d⟩
  cases o with
  | dct kvs =>
    obtain ⟨us, e, p⟩ := h
    exact ⟨us, k a ha _ e, paired_imp (fun _ _ ⟨x, y⟩ => ⟨x, y.mono g⟩) p⟩
  | ins c fs =>
    obtain ⟨dx, us, e, p⟩ := h
    exact ⟨dx, us, k a ha _ e, paired_imp (fun _ _ ⟨x, y⟩ => ⟨x, y.mono g⟩) p⟩
  | scr xs =>
    obtain ⟨o, us, e, r⟩ := h
    exact ⟨o, us, k a ha _ e, RDs.mono g r⟩
  | err c fs =>
    obtain ⟨dd, us, e, h1, h2, h3, p⟩ := h
    obtain ⟨a1, a2, a3⟩ := g.rd h3 (fun _ z => nomatch z) h1 h2
    exact ⟨dd, us, k a ha _ e, a2, a3, a1, paired_imp (fun _ _ ⟨x, y⟩ => ⟨x, y.mono g⟩) p⟩
  | tab q =>
    obtain ⟨ps, e, h1, h2⟩ := h
    refine ⟨ps, k a ha _ e, h1, fun pos cv hc => ?_⟩
    obtain ⟨c, e1, e2, e3, e4⟩ := h2 pos cv hc
    obtain ⟨a1, a2, a3⟩ := g.rd e4 (fun ps => LamX.codeO_ne ps) e2 e3
    exact ⟨c, e1, a2, a3, a1⟩
  | dead =>
    obtain ⟨o, e⟩ := h
    exact ⟨o, k a ha _ e⟩
/-- all that was tracked stays -/
theorem StR.same (s : StR G rho mu σ H m Own) (h : Same H H') : StR G rho mu σ H' m Own := by
  have g : Lf m H m H' := Lf.of_same h
  refine ⟨s.le.trans g, s.wd.mono (g.le _) (fun P ps e _ _ => h P _ e) (fun a _ o e => h a o e) (fun a z => ?_) s.wd.dis, paired_imp (fun x o z => ?_) s.sl, s.ow, s.dj⟩
  · obtain ⟨o, e⟩ := s.wd.dom a z
    exact ⟨o, h a o e⟩
  · cases x with
    | un => trivial
    | val d =>
      obtain ⟨v, e, r⟩ := z
      exact ⟨v, e, r.mono (g.le _)⟩
    | own xs =>
      obtain ⟨a, us, e1, e2, e3, e4⟩ := z
      exact ⟨a, us, e1, e2, h _ _ e3, RDs.mono (g.le _) e4⟩
theorem same_upd {p : Addr} {o : HO} (h : H p = none) : Same H (upd H p o) := fun b u e => by rw [upd_ne (ne_of_none e h)]; exact e
end

/-! ### readings -/
/-- how an error lies: its class, its own dict -/
def ExR (K : PySem.W.Frag) (m : List Addr) (B : Addr → Prop) (H : Hp) (x : Exn) (c : Value) (d : Option Addr) : Prop :=
  c = .ref (He.ga K x.cls) ∧ ∃ (a : Addr) (us : List (Str × V)), d = some a ∧ a ∉ m ∧ ¬ B a ∧ H a = some (.xd us) ∧ Paired (fun (p : Str × Da) (q : Str × V) => q.1 = p.1 ∧ RD m B H p.2 q.2) x.fs us
/-- what is asked of an expression that does what d does -/
def TEx (G : Fr) (W : WX) (d : Ev → Mem → Out Da) : TE := fun σ H Q => ∃ rho mu m Own, StR G rho mu σ H m Own ∧
  match d rho mu with
  | .ok z mu' => ∀ v H' m', Lf m H m' H' → StR G rho mu' σ H' m' Own → RD m' (G.bar Own) H' z v → Q v H'
  | .exc x mu' => ∀ c dd H' m', Lf m H m' H' → StR G rho mu' σ H' m' Own → ExR G.K m' (G.bar Own) H' x c dd → W c dd σ H'
  | .bad => False
/-- .. of a list of them -/
def TAx (G : Fr) (W : WX) (d : Ev → Mem → Out (List Da)) : TA := fun σ H Q => ∃ rho mu m Own, StR G rho mu σ H m Own ∧
  match d rho mu with
  | .ok zs mu' => ∀ vs H' m', Lf m H m' H' → StR G rho mu' σ H' m' Own → RDs m' (G.bar Own) H' zs vs → Q vs H'
  | .exc x mu' => ∀ c dd H' m', Lf m H m' H' → StR G rho mu' σ H' m' Own → ExR G.K m' (G.bar Own) H' x c dd → W c dd σ H'
  | .bad => False
/-- .. of a test -/
def TTx (G : Fr) (W : WX) (d : Ev → Mem → Out Bool) : TT := fun σ H Q => ∃ rho mu m Own, StR G rho mu σ H m Own ∧
  match d rho mu with
  | .ok b mu' => ∀ H' m', Lf m H m' H' → StR G rho mu' σ H' m' Own → Q b H'
  | .exc x mu' => ∀ c dd H' m', Lf m H m' H' → StR G rho mu' σ H' m' Own → ExR G.K m' (G.bar Own) H' x c dd → W c dd σ H'
  | .bad => False
/-- how a statement ends -/
inductive SO where
  | nx (rho : Ev) (mu : Mem) | rt (d : Da) (mu : Mem) | bk (rho : Ev) (mu : Mem) | ct (rho : Ev) (mu : Mem) | exc (x : Exn) (rho : Ev) (mu : Mem) | bad
/-- what is asked behind a statement that ends so -/
def SOk (G : Fr) (W : WX) (D : Ends) (m : List Addr) (Own : Addr → Prop) (H : Hp) : SO → Prop
  | .nx rho' mu' => ∀ σ' H' m' Own', Le m (G.bar Own) H m' (G.bar Own') H' → StR G rho' mu' σ' H' m' Own' → D.nx σ' H'
  | .rt z mu' => ∀ v H' m', Lf G.m G.H m' H' → Wd G.K m' G.B H' mu' → RD m' G.B H' z v → D.rt v H'
  | .bk rho' mu' => ∀ σ' H' m' Own', Le m (G.bar Own) H m' (G.bar Own') H' → StR G rho' mu' σ' H' m' Own' → D.bk σ' H'
  | .ct rho' mu' => ∀ σ' H' m' Own', Le m (G.bar Own) H m' (G.bar Own') H' → StR G rho' mu' σ' H' m' Own' → D.ct σ' H'
  | .exc x rho' mu' => ∀ c dd σ' H' m' Own', Le m (G.bar Own) H m' (G.bar Own') H' → StR G rho' mu' σ' H' m' Own' → ExR G.K m' (G.bar Own') H' x c dd → W c dd σ' H'
  | .bad => False
/-- .. of a statement -/
def TSx (G : Fr) (W : WX) (d : Ev → Mem → SO) : TS := fun D σ H => ∃ rho mu m Own, StR G rho mu σ H m Own ∧ SOk G W D m Own H (d rho mu)
end Sk

/-! Sk B: expressions. -/
namespace Sk
open PySem PySem.Spec L2

def Out.wp {α : Type} (o : Out α) (Q : α → Mem → Prop) (E : Exn → Mem → Prop) : Prop :=
  match o with
  | .ok a mu => Q a mu
  | .exc x mu => E x mu
  | .bad => False
def bnd {α β : Type} (o : Out α) (f : α → Mem → Out β) : Out β :=
  match o with
  | .ok a mu => f a mu
  | .exc x mu => .exc x mu
  | .bad => .bad
theorem wp_bnd {α β : Type} {o : Out α} {f : α → Mem → Out β} {Q : β → Mem → Prop} {E : Exn → Mem → Prop} (h : (bnd o f).wp Q E) : o.wp (fun a mu => (f a mu).wp Q E) E := by
  cases o <;> exact h
@[simp] theorem bnd_ok {α β : Type} {a : α} {mu : Mem} {f : α → Mem → Out β} : bnd (.ok a mu) f = f a mu := rfl
@[simp] theorem bnd_exc {α β : Type} {x : Exn} {mu : Mem} {f : α → Mem → Out β} : bnd (.exc x mu) f = .exc x mu := rfl
def opt {α : Type} (o : Option α) (mu : Mem) : Out α :=
  match o with
  | some d => .ok d mu
  | none => .bad
@[simp] theorem opt_some {α : Type} {d : α} {mu : Mem} : opt (some d) mu = .ok d mu := rfl
theorem wp_opt {α : Type} {o : Option α} {mu : Mem} {Q : α → Mem → Prop} {E : Exn → Mem → Prop} (h : (opt o mu).wp Q E) : ∃ d, o = some d ∧ Q d mu := by
  cases o with
  | none => exact h.elim
  | some d => exact ⟨d, rfl, h⟩

/-- what is wished of an error -/
def ES (G : Fr) (W : WX) (rho : Ev) (σ : L2.St) (Own : Addr → Prop) (m : List Addr) (H : Hp) (x : Exn) (mu : Mem) : Prop :=
  ∀ c dd H' m', Lf m H m' H' → StR G rho mu σ H' m' Own → ExR G.K m' (G.bar Own) H' x c dd → W c dd σ H'
section
variable {G : Fr} {W : WX} {rho : Ev} {σ : L2.St} {Own : Addr → Prop} {m m' : List Addr} {H H' : Hp} {mu mu' : Mem}
theorem ES.step (g : Lf m H m' H') {x : Exn} (h : ES G W rho σ Own m H x mu) : ES G W rho σ Own m' H' x mu := fun c dd H2 m2 g2 => h c dd H2 m2 (g.trans g2)
theorem wp_step {α : Type} {o : Out α} {Q : α → Mem → Prop} (g : Lf m H m' H') (h : o.wp Q (ES G W rho σ Own m H)) : o.wp Q (ES G W rho σ Own m' H') := by
  cases o with
  | ok a mu => exact h
  | exc x mu => exact ES.step g h
  | bad => exact h
theorem wp_and {α : Type} {o : Out α} {Q Q' : α → Mem → Prop} {E : Exn → Mem → Prop} (h : o.wp Q E) (k : ∀ a mu, Q a mu → Q' a mu) : o.wp Q' E := by
  cases o with
  | ok a mu => exact k _ _ h
  | exc x mu => exact h
  | bad => exact h
theorem TEx.to {d : Ev → Mem → Out Da} {Q : VK} {A : Da → Mem → Prop} (S : StR G rho mu σ H m Own) (h : (d rho mu).wp A (ES G W rho σ Own m H))
    (k : ∀ z mu1 v H1 m1, A z mu1 → Lf m H m1 H1 → StR G rho mu1 σ H1 m1 Own → RD m1 (G.bar Own) H1 z v → Q v H1) : TEx G W d σ H Q := by
  refine ⟨rho, mu, m, Own, S, ?_⟩
  cases e : d rho mu with
  | ok z mu1 =>
    rw [e] at h
    exact fun v H1 m1 g S1 r => k z mu1 v H1 m1 h g S1 r
  | exc x mu1 =>
    rw [e] at h
    exact h
  | bad =>
    rw [e] at h
    exact h
theorem TAx.to {d : Ev → Mem → Out (List Da)} {Q : List V → Hp → Prop} {A : List Da → Mem → Prop} (S : StR G rho mu σ H m Own) (h : (d rho mu).wp A (ES G W rho σ Own m H))
    (k : ∀ z mu1 v H1 m1, A z mu1 → Lf m H m1 H1 → StR G rho mu1 σ H1 m1 Own → RDs m1 (G.bar Own) H1 z v → Q v H1) : TAx G W d σ H Q := by
  refine ⟨rho, mu, m, Own, S, ?_⟩
  cases e : d rho mu with
  | ok z mu1 =>
    rw [e] at h
    exact fun v H1 m1 g S1 r => k z mu1 v H1 m1 h g S1 r
  | exc x mu1 =>
    rw [e] at h
    exact h
  | bad =>
    rw [e] at h
    exact h
theorem TTx.to {d : Ev → Mem → Out Bool} {Q : Bool → Hp → Prop} {A : Bool → Mem → Prop} (S : StR G rho mu σ H m Own) (h : (d rho mu).wp A (ES G W rho σ Own m H))
    (k : ∀ b mu1 H1 m1, A b mu1 → Lf m H m1 H1 → StR G rho mu1 σ H1 m1 Own → Q b H1) : TTx G W d σ H Q := by
  refine ⟨rho, mu, m, Own, S, ?_⟩
  cases e : d rho mu with
  | ok z mu1 =>
    rw [e] at h
    exact fun H1 m1 g S1 => k z mu1 H1 m1 h g S1
  | exc x mu1 =>
    rw [e] at h
    exact h
  | bad =>
    rw [e] at h
    exact h
/-- the wish for what has been read -/
def QE (G : Fr) (rho : Ev) (σ : L2.St) (Own : Addr → Prop) (m : List Addr) (H : Hp) (Q : VK) (z : Da) (mu' : Mem) : Prop :=
  ∀ v H' m', Lf m H m' H' → StR G rho mu' σ H' m' Own → RD m' (G.bar Own) H' z v → Q v H'
theorem TEx.un {d : Ev → Mem → Out Da} {Q : VK} (h : TEx G W d σ H Q) : ∃ rho mu m Own, StR G rho mu σ H m Own ∧ (d rho mu).wp (QE G rho σ Own m H Q) (ES G W rho σ Own m H) := by
  obtain ⟨rho, mu, m, Own, S, h⟩ := h
  refine ⟨rho, mu, m, Own, S, ?_⟩
  cases e : d rho mu with
  | ok z mu1 => rw [e] at h; exact h
  | exc x mu1 => rw [e] at h; exact h
  | bad => rw [e] at h; exact h
def QA (G : Fr) (rho : Ev) (σ : L2.St) (Own : Addr → Prop) (m : List Addr) (H : Hp) (Q : List V → Hp → Prop) (z : List Da) (mu' : Mem) : Prop :=
  ∀ v H' m', Lf m H m' H' → StR G rho mu' σ H' m' Own → RDs m' (G.bar Own) H' z v → Q v H'
theorem TAx.un {d : Ev → Mem → Out (List Da)} {Q : List V → Hp → Prop} (h : TAx G W d σ H Q) : ∃ rho mu m Own, StR G rho mu σ H m Own ∧ (d rho mu).wp (QA G rho σ Own m H Q) (ES G W rho σ Own m H) := by
  obtain ⟨rho, mu, m, Own, S, h⟩ := h
  refine ⟨rho, mu, m, Own, S, ?_⟩
  cases e : d rho mu with
  | ok z mu1 => rw [e] at h; exact h
  | exc x mu1 => rw [e] at h; exact h
  | bad => rw [e] at h; exact h
def QT (G : Fr) (rho : Ev) (σ : L2.St) (Own : Addr → Prop) (m : List Addr) (H : Hp) (Q : Bool → Hp → Prop) (z : Bool) (mu' : Mem) : Prop :=
  ∀ H' m', Lf m H m' H' → StR G rho mu' σ H' m' Own → Q z H'
theorem TTx.un {d : Ev → Mem → Out Bool} {Q : Bool → Hp → Prop} (h : TTx G W d σ H Q) : ∃ rho mu m Own, StR G rho mu σ H m Own ∧ (d rho mu).wp (QT G rho σ Own m H Q) (ES G W rho σ Own m H) := by
  obtain ⟨rho, mu, m, Own, S, h⟩ := h
  refine ⟨rho, mu, m, Own, S, ?_⟩
  cases e : d rho mu with
  | ok z mu1 => rw [e] at h; exact h
  | exc x mu1 => rw [e] at h; exact h
  | bad => rw [e] at h; exact h
end
theorem PEw {X : Cx} {e : Expr} {t t' : TE} (h : PE X e t) (w : ∀ σ H Q, t' σ H Q → t σ H Q) : PE X e t' := ⟨fun pins s σ H Q I q => h.run pins s σ H Q I (w σ H Q q)⟩
theorem PTw {X : Cx} {e : Expr} {t t' : TT} (h : PT X e t) (w : ∀ σ H Q, t' σ H Q → t σ H Q) : PT X e t' := ⟨fun pins s σ H Q I q => h.run pins s σ H Q I (w σ H Q q)⟩
theorem PWw {X : Cx} {e : Expr} {t t' : TT} (h : PW X e t) (w : ∀ σ H Q, t' σ H Q → t σ H Q) : PW X e t' := ⟨fun wh pins s σ H Q I q => h.run wh pins s σ H Q I (w σ H Q q)⟩
theorem PAw {X : Cx} {e : List Expr} {t t' : TA} (h : PA X e t) (w : ∀ σ H Q, t' σ H Q → t σ H Q) : PA X e t' := ⟨fun pos pins s σ H Q I q => h.run pos pins s σ H Q I (w σ H Q q)⟩
theorem PSw {X : Cx} {e : Stmt} {t t' : TS} (h : PS X e t) (w : ∀ D σ H, t' D σ H → t D σ H) : PS X e t' := ⟨fun pins s σ H D I q => h.run pins s σ H D I (w D σ H q)⟩
theorem PSsw {X : Cx} {e : List Stmt} {t t' : TS} (h : PSs X e t) (w : ∀ D σ H, t' D σ H → t D σ H) : PSs X e t' := ⟨fun pins s σ H D I q => h.run pins s σ H D I (w D σ H q)⟩

/-! ### what an expression does -/
abbrev EvD := Ev → Mem → Out Da
def eV (i : Nat) : EvD := fun rho mu => match rho[i]? with
  | some (.val d) => .ok d mu
  | _ => .bad
def eK (d : Da) : EvD := fun _ mu => .ok d mu
def e1 (f : Da → Option Da) (a : EvD) : EvD := fun rho mu => bnd (a rho mu) fun x mu1 => opt (f x) mu1
def e2 (f : Da → Da → Option Da) (a b : EvD) : EvD := fun rho mu => bnd (a rho mu) fun x mu1 => bnd (b rho mu1) fun y mu2 => opt (f x y) mu2
def aN : Ev → Mem → Out (List Da) := fun _ mu => .ok [] mu
def aC (a : EvD) (r : Ev → Mem → Out (List Da)) : Ev → Mem → Out (List Da) := fun rho mu => bnd (a rho mu) fun x mu1 => bnd (r rho mu1) fun xs mu2 => .ok (x :: xs) mu2
def eTup (a : Ev → Mem → Out (List Da)) : EvD := fun rho mu => bnd (a rho mu) fun xs mu1 => .ok (.tup xs) mu1
def eLst (a : Ev → Mem → Out (List Da)) : EvD := fun rho mu => bnd (a rho mu) fun xs mu1 => .ok (.lst xs) mu1
/-- a built-in by its arguments -/
def eB (f : List Da → Option Da) (a : Ev → Mem → Out (List Da)) : EvD := fun rho mu => bnd (a rho mu) fun xs mu1 => opt (f xs) mu1
abbrev Fn := List Da → Mem → Out Da
def eC (f : Fn) (a : Ev → Mem → Out (List Da)) : EvD := fun rho mu => bnd (a rho mu) f
/-- tests -/
abbrev EvT := Ev → Mem → Out Bool
def tV (a : EvD) : EvT := fun rho mu => bnd (a rho mu) fun x mu1 => match x with
  | .bl b => .ok b mu1
  | _ => .bad
def tAnd (a b : EvT) : EvT := fun rho mu => bnd (a rho mu) fun x mu1 => if x then b rho mu1 else .ok false mu1
def tOr (a b : EvT) : EvT := fun rho mu => bnd (a rho mu) fun x mu1 => if x then .ok true mu1 else b rho mu1
def tNot (a : EvT) : EvT := fun rho mu => bnd (a rho mu) fun x mu1 => .ok (!x) mu1
def eOfT (a : EvT) : EvD := fun rho mu => bnd (a rho mu) fun x mu1 => .ok (.bl x) mu1
def eIf (t : EvT) (a b : EvD) : EvD := fun rho mu => bnd (t rho mu) fun x mu1 => if x then a rho mu1 else b rho mu1

section
variable {X : Cx} {G : Fr} {W : WX} {pos : Pos} {a b : Expr} {da db : EvD} {op : Operator}
theorem StR.var {rho : Ev} {mu : Mem} {σ : L2.St} {H : Hp} {m : List Addr} {Own : Addr → Prop} (S : StR G rho mu σ H m Own) {i : Nat} {d : Da} (h : rho[i]? = some (.val d)) : ∃ v, σ[i]? = some (some v) ∧ RD m (G.bar Own) H d v := by
  obtain ⟨o, e, r⟩ := paired_get S.sl h
  obtain ⟨v, rfl, r⟩ := r
  exact ⟨v, e, r⟩
theorem c_var {i : Nat} {e : Expr} (h : PE X e (tVar i)) : PE X e (TEx G W (eV i)) := PEw h fun σ H Q h => by
  obtain ⟨rho, mu, m, Own, S, h⟩ := h
  unfold eV at h
  cases e : rho[i]? with
  | none => rw [e] at h; exact h.elim
  | some sl =>
    rw [e] at h
    cases sl with
    | val d =>
      obtain ⟨v, e2, r⟩ := S.var e
      exact ⟨v, e2, h v H m Lf.refl S r⟩
    | un => exact h.elim
    | own xs => exact h.elim
theorem c_con {v : V} {d : Da} {e : Expr} (h : PE X e (tC v)) (r : ∀ m B H, RD m B H d v) : PE X e (TEx G W (eK d)) := PEw h fun σ H Q h => by
  obtain ⟨rho, mu, m, Own, S, h⟩ := h
  exact h v H m Lf.refl S (r _ _ _)
theorem c_int {i : Int} {j : Nat} : PE X (.Constant (.int i) j pos) (TEx G W (eK (.int i))) := c_con pe_int fun _ _ _ => .int i
theorem c_bl {i : Bool} {j : Nat} : PE X (.Constant (.bool i) j pos) (TEx G W (eK (.bl i))) := c_con pe_bl fun _ _ _ => .bl i
theorem c_non {j : Nat} : PE X (.Constant .none j pos) (TEx G W (eK .non)) := c_con pe_non fun _ _ _ => .non
theorem c_str {x : Str} {j : Nat} : PE X (.Constant (.str x) j pos) (TEx G W (eK (.str x))) := c_con pe_str fun _ _ _ => .str x
theorem StR.fresh {rho : Ev} {mu : Mem} {σ : L2.St} {H : Hp} {m : List Addr} {Own : Addr → Prop} (S : StR G rho mu σ H m Own) {p : Addr} (hp : H p = none) : p ∉ m ∧ ¬ G.bar Own p := by
  refine ⟨fun hm => ?_, fun hb => ?_⟩
  · have key : ∀ {m : List Addr} {mu : Mem}, Paired (fun (a : Addr) (o : Ob) => ObR G.K m (G.bar Own) H a o) m mu → True := fun _ => trivial
    have : ∀ {l : List Addr} {k : Mem}, Paired (fun (a : Addr) (o : Ob) => ObR G.K m (G.bar Own) H a o) l k → p ∈ l → False := by
      intro l k h
      induction h with
      | nil => intro z; cases z
      | cons h t ih =>
        intro z
        rcases List.mem_cons.mp z with e | z
        · subst e
          rename_i b _ _
          cases b with
          | dct kvs => obtain ⟨us, e, _⟩ := h; rw [hp] at e; cases e
          | ins c fs => obtain ⟨dx, us, e, _⟩ := h; rw [hp] at e; cases e
          | scr xs => obtain ⟨o, us, e, _⟩ := h; rw [hp] at e; cases e
          | err c fs => obtain ⟨d, us, e, _⟩ := h; rw [hp] at e; cases e
          | tab q => obtain ⟨ps, e, _⟩ := h; rw [hp] at e; cases e
          | dead => obtain ⟨o, e⟩ := h; rw [hp] at e; cases e
        · exact ih z
    exact this S.wd.ob hm
  · obtain ⟨o, e⟩ := S.wd.dom p hb
    rw [hp] at e; cases e
/-- an operation on data -/
def OpD (X : Cx) (sem : Value → Value → Sem Value) (f : Da → Da → Option Da) : Prop :=
  ∃ r : R2, OpR X sem r ∧ ∀ (m : List Addr) (B : Addr → Prop) (H : Hp) (x y z : Da) (a b : V) (Q : VK), f x y = some z → RD m B H x a → RD m B H y b → (∀ p, H p = none → p ∉ m ∧ ¬ B p) → (∀ v H', Same H H' → RD m B H' z v → Q v H') → r a b H Q
theorem two {rho : Ev} {mu : Mem} {σ : L2.St} {H : Hp} {m : List Addr} {Own : Addr → Prop} {Q : VK} {f : Da → Da → Option Da} (S : StR G rho mu σ H m Own) (h : (e2 f da db rho mu).wp (QE G rho σ Own m H Q) (ES G W rho σ Own m H)) {r : V → V → Hp → VK → Prop}
    (k : ∀ (m : List Addr) (B : Addr → Prop) (H : Hp) (x y z : Da) (a b : V) (Q : VK), f x y = some z → RD m B H x a → RD m B H y b → (∀ p, H p = none → p ∉ m ∧ ¬ B p) → (∀ v H', Same H H' → RD m B H' z v → Q v H') → r a b H Q) :
    TEx G W da σ H fun x H1 => TEx G W db σ H1 fun y H2 => r x y H2 Q := by
  refine TEx.to S (wp_bnd h) fun x mu1 v1 H1 m1 h1 g1 S1 r1 => TEx.to S1 (wp_step g1 (wp_bnd h1)) fun y mu2 v2 H2 m2 h2 g2 S2 r2 => ?_
  obtain ⟨z, e, q⟩ := wp_opt h2
  exact k m2 _ H2 x y z v1 v2 Q e (r1.mono (g2.le _)) r2 (fun p hp => S2.fresh hp) fun v H' sm rd => q v H' m2 (g1.trans (g2.trans (Lf.of_same sm))) (S2.same sm) rd
theorem c_op {f : Da → Da → Option Da} (ho : OpD X (binaryOp op) f) (ha : PE X a (TEx G W da)) (hb : PE X b (TEx G W db)) : PE X (.BinOp a op b pos) (TEx G W (e2 f da db)) := by
  obtain ⟨r, hr, k⟩ := ho
  refine PEw (pe_op hr ha hb) fun σ H Q h => ?_
  obtain ⟨rho, mu, m, Own, S, h⟩ := h.un
  exact two S h k
theorem c_cmp {f : Da → Da → Option Da} {op : CmpOp} (ho : OpD X (compareOp op) f) (ha : PE X a (TEx G W da)) (hb : PE X b (TEx G W db)) (hm : behindInMarks op b = false) : PE X (.Compare a [op] [b] pos) (TEx G W (e2 f da db)) := by
  obtain ⟨r, hr, k⟩ := ho
  refine PEw (pe_cmpR hr ha hb hm) fun σ H Q h => ?_
  obtain ⟨rho, mu, m, Own, S, h⟩ := h.un
  exact two S h k
/-- a value as a test -/
theorem c_val (ha : PE X a (TEx G W da)) (he : ∀ whole, isTrue a X.env whole = (do let v ← whole; standAt a.pos; holding [v] (truthy v)) := by intro _; rfl) : PT X a (TTx G W (tV da)) := by
  refine PTw (pt_val ha he) fun σ H Q h => ?_
  obtain ⟨rho, mu, m, Own, S, h⟩ := h.un
  refine TEx.to S (wp_bnd h) fun x mu1 v1 H1 m1 h1 g1 S1 r1 => ?_
  cases x with
  | bl k =>
    cases r1
    exact ⟨k, rfl, h1 H1 m1 g1 S1⟩
  | _ => exact h1.elim
theorem c_tcmp {f : Da → Da → Option Da} {op : CmpOp} (ho : OpD X (compareOp op) f) (ha : PE X a (TEx G W da)) (hb : PE X b (TEx G W db)) (hm : behindInMarks op b = false) : PT X (.Compare a [op] [b] pos) (TTx G W (tV (e2 f da db))) := by
  obtain ⟨r, hr, k⟩ := ho
  refine PTw (pt_cmpR hr ha hb hm) fun σ H Q h => ?_
  obtain ⟨rho, mu, m, Own, S, h⟩ := h.un
  refine two (Q := fun x H' => ∃ k, x = .bl k ∧ Q k H') S (wp_and (wp_bnd h) fun x mu1 h1 => ?_) k
  intro v H' m' g S' r1
  cases x with
  | bl k =>
    cases r1
    exact ⟨k, rfl, h1 H' m' g S'⟩
  | _ => exact h1.elim
theorem c_not {t : EvT} (ha : PT X a (TTx G W t)) : PT X (.UnaryOp .Not a pos) (TTx G W (tNot t)) := by
  refine PTw (pt_not ha) fun σ H Q h => ?_
  obtain ⟨rho, mu, m, Own, S, h⟩ := h.un
  exact TTx.to S (wp_bnd h) fun x mu1 H1 m1 h1 g1 S1 => h1 H1 m1 g1 S1
theorem c_and1 {t : EvT} (ha : PT X a (TTx G W t)) : PW X (.BoolOp .And [a] pos) (TTx G W t) := pw_and1 ha
theorem c_or1 {t : EvT} (ha : PT X a (TTx G W t)) : PW X (.BoolOp .Or [a] pos) (TTx G W t) := pw_or1 ha
theorem c_and {t u : EvT} {rest : List Expr} (ha : PT X a (TTx G W t)) (hb : PW X (.BoolOp .And (b :: rest) pos) (TTx G W u)) : PW X (.BoolOp .And (a :: b :: rest) pos) (TTx G W (tAnd t u)) := by
  refine PWw (pw_and ha hb) fun σ H Q h => ?_
  obtain ⟨rho, mu, m, Own, S, h⟩ := h.un
  refine TTx.to S (wp_bnd h) fun x mu1 H1 m1 h1 g1 S1 => ?_
  cases x with
  | true => exact TTx.to S1 (wp_step g1 h1) fun y mu2 H2 m2 h2 g2 S2 => h2 H2 m2 (g1.trans g2) S2
  | false => exact h1 H1 m1 g1 S1
theorem c_or {t u : EvT} {rest : List Expr} (ha : PT X a (TTx G W t)) (hb : PW X (.BoolOp .Or (b :: rest) pos) (TTx G W u)) : PW X (.BoolOp .Or (a :: b :: rest) pos) (TTx G W (tOr t u)) := by
  refine PWw (pw_or ha hb) fun σ H Q h => ?_
  obtain ⟨rho, mu, m, Own, S, h⟩ := h.un
  refine TTx.to S (wp_bnd h) fun x mu1 H1 m1 h1 g1 S1 => ?_
  cases x with
  | true => exact h1 H1 m1 g1 S1
  | false => exact TTx.to S1 (wp_step g1 h1) fun y mu2 H2 m2 h2 g2 S2 => h2 H2 m2 (g1.trans g2) S2
/-- and, or, not as values: all parts True or False -/
def eAnd (a b : EvD) : EvD := fun rho mu => bnd (a rho mu) fun x mu1 => match x with
  | .bl true => b rho mu1
  | .bl false => .ok (.bl false) mu1
  | _ => .bad
def eOr (a b : EvD) : EvD := fun rho mu => bnd (a rho mu) fun x mu1 => match x with
  | .bl true => .ok (.bl true) mu1
  | .bl false => b rho mu1
  | _ => .bad
def eNot (a : EvD) : EvD := fun rho mu => bnd (a rho mu) fun x mu1 => match x with
  | .bl k => .ok (.bl (!k)) mu1
  | _ => .bad
theorem c_eone {o : BoolOp} (ha : PE X a (TEx G W da)) : PE X (.BoolOp o [a] pos) (TEx G W da) := pe_one ha
theorem c_eand {rest : List Expr} (ha : PE X a (TEx G W da)) (hb : PE X (.BoolOp .And (b :: rest) pos) (TEx G W db)) : PE X (.BoolOp .And (a :: b :: rest) pos) (TEx G W (eAnd da db)) := by
  refine PEw (pe_and ha hb) fun σ H Q h => ?_
  obtain ⟨rho, mu, m, Own, S, h⟩ := h.un
  refine TEx.to S (wp_bnd h) fun x mu1 v1 H1 m1 h1 g1 S1 r1 => ?_
  cases x with
  | bl k =>
    cases r1
    cases k with
    | true => exact ⟨true, rfl, TEx.to S1 (wp_step g1 h1) fun y mu2 v2 H2 m2 h2 g2 S2 r2 => h2 v2 H2 m2 (g1.trans g2) S2 r2⟩
    | false => exact ⟨false, rfl, h1 _ H1 m1 g1 S1 (.bl _)⟩
  | _ => exact h1.elim
theorem c_eor {rest : List Expr} (ha : PE X a (TEx G W da)) (hb : PE X (.BoolOp .Or (b :: rest) pos) (TEx G W db)) : PE X (.BoolOp .Or (a :: b :: rest) pos) (TEx G W (eOr da db)) := by
  refine PEw (pe_or ha hb) fun σ H Q h => ?_
  obtain ⟨rho, mu, m, Own, S, h⟩ := h.un
  refine TEx.to S (wp_bnd h) fun x mu1 v1 H1 m1 h1 g1 S1 r1 => ?_
  cases x with
  | bl k =>
    cases r1
    cases k with
    | true => exact ⟨true, rfl, h1 _ H1 m1 g1 S1 (.bl _)⟩
    | false => exact ⟨false, rfl, TEx.to S1 (wp_step g1 h1) fun y mu2 v2 H2 m2 h2 g2 S2 r2 => h2 v2 H2 m2 (g1.trans g2) S2 r2⟩
  | _ => exact h1.elim
theorem c_enot (ha : PE X a (TEx G W da)) : PE X (.UnaryOp .Not a pos) (TEx G W (eNot da)) := by
  refine PEw (pe_not ha) fun σ H Q h => ?_
  obtain ⟨rho, mu, m, Own, S, h⟩ := h.un
  refine TEx.to S (wp_bnd h) fun x mu1 v1 H1 m1 h1 g1 S1 r1 => ?_
  cases x with
  | bl k =>
    cases r1
    exact ⟨k, rfl, h1 _ H1 m1 g1 S1 (.bl _)⟩
  | _ => exact h1.elim
theorem c_if {t : EvT} {c : Expr} (hc : PT X c (TTx G W t)) (ha : PE X a (TEx G W da)) (hb : PE X b (TEx G W db)) : PE X (.IfExp c a b pos) (TEx G W (eIf t da db)) := by
  refine PEw (pe_ifExp hc ha hb) fun σ H Q h => ?_
  obtain ⟨rho, mu, m, Own, S, h⟩ := h.un
  refine TTx.to S (wp_bnd h) fun x mu1 H1 m1 h1 g1 S1 => ?_
  cases x with
  | true => exact TEx.to S1 (wp_step g1 h1) fun y mu2 v2 H2 m2 h2 g2 S2 r2 => h2 v2 H2 m2 (g1.trans g2) S2 r2
  | false => exact TEx.to S1 (wp_step g1 h1) fun y mu2 v2 H2 m2 h2 g2 S2 r2 => h2 v2 H2 m2 (g1.trans g2) S2 r2
/-! ### arguments, displays, built-ins -/
theorem c_nil : PA X [] (TAx G W aN) := PAw pa_nil fun σ H Q h => by
  obtain ⟨rho, mu, m, Own, S, h⟩ := h
  exact h [] H m Lf.refl S .nil
theorem c_cons {es : List Expr} {e : Expr} {d : EvD} {r : Ev → Mem → Out (List Da)} (ha : PE X e (TEx G W d)) (hr : PA X es (TAx G W r)) (hs : starEach (e :: es) X.env = (false, eval e X.env) :: starEach es X.env := by rfl) : PA X (e :: es) (TAx G W (aC d r)) := by
  refine PAw (pa_cons ha hr hs) fun σ H Q h => ?_
  obtain ⟨rho, mu, m, Own, S, h⟩ := h.un
  refine TEx.to S (wp_bnd h) fun x mu1 v1 H1 m1 h1 g1 S1 r1 => TAx.to S1 (wp_step g1 (wp_bnd h1)) fun y mu2 v2 H2 m2 h2 g2 S2 r2 => ?_
  exact h2 _ H2 m2 (g1.trans g2) S2 (.cons (r1.mono (g2.le _)) r2)
/-- a new thing by content -/
theorem RD.new_tup {m : List Addr} {B : Addr → Prop} {H : Hp} {xs : List Da} {vs : List V} {p : Addr} (r : RDs m B H xs vs) (hp : H p = none) (hm : p ∉ m) (hB : ¬ B p) : RD m B (upd H p (.tup vs)) (.tup xs) (.ref p) :=
  .tup hm hB upd_same (RDs.mono ((Lf.of_same (same_upd hp)).le _) r)
theorem RD.new_lst {m : List Addr} {B : Addr → Prop} {H : Hp} {xs : List Da} {vs : List V} {p : Addr} (r : RDs m B H xs vs) (hp : H p = none) (hm : p ∉ m) (hB : ¬ B p) : RD m B (upd H p (.lst vs)) (.lst xs) (.ref p) :=
  .lst hm hB upd_same (RDs.mono ((Lf.of_same (same_upd hp)).le _) r)
theorem c_tup {es : List Expr} {x1} {r : Ev → Mem → Out (List Da)} (h : PA X es (TAx G W r)) (hz : es.length ≤ sizeLine) (hl : ∀ rho mu xs mu', r rho mu = .ok xs mu' → xs.length = es.length) : PE X (.Tuple es x1 pos) (TEx G W (eTup r)) := by
  refine PEw (pe_tup h) fun σ H Q h => ?_
  obtain ⟨rho, mu, m, Own, S, h⟩ := h.un
  have e0 := hl rho mu
  refine TAx.to (A := fun z mu1 => QE G rho σ Own m H Q (.tup z) mu1 ∧ z.length = es.length) S ?_ fun x mu1 v1 H1 m1 ⟨h1, hx⟩ g1 S1 r1 => ⟨by rw [← r1.length, hx]; exact hz, fun p hp => ?_⟩
  · cases e : r rho mu with
    | ok z mu1 => unfold eTup at h; rw [e] at h; exact ⟨h, e0 _ _ e⟩
    | exc x mu1 => unfold eTup at h; rw [e] at h; exact h
    | bad => unfold eTup at h; rw [e] at h; exact h
  · obtain ⟨f1, f2⟩ := S1.fresh hp
    exact h1 _ _ m1 (g1.trans (Lf.of_same (same_upd hp))) (S1.same (same_upd hp)) (RD.new_tup r1 hp f1 f2)
theorem c_lst {es : List Expr} {r : Ev → Mem → Out (List Da)} (h : PA X es (TAx G W r)) (hz : es.length ≤ sizeLine) (hl : ∀ rho mu xs mu', r rho mu = .ok xs mu' → xs.length = es.length) : PE X (.List es pos) (TEx G W (eLst r)) := by
  refine PEw (pe_lst h) fun σ H Q h => ?_
  obtain ⟨rho, mu, m, Own, S, h⟩ := h.un
  have e0 := hl rho mu
  refine TAx.to (A := fun z mu1 => QE G rho σ Own m H Q (.lst z) mu1 ∧ z.length = es.length) S ?_ fun x mu1 v1 H1 m1 ⟨h1, hx⟩ g1 S1 r1 => ⟨by rw [← r1.length, hx]; exact hz, fun p hp => ?_⟩
  · cases e : r rho mu with
    | ok z mu1 => unfold eLst at h; rw [e] at h; exact ⟨h, e0 _ _ e⟩
    | exc x mu1 => unfold eLst at h; rw [e] at h; exact h
    | bad => unfold eLst at h; rw [e] at h; exact h
  · obtain ⟨f1, f2⟩ := S1.fresh hp
    exact h1 _ _ m1 (g1.trans (Lf.of_same (same_upd hp))) (S1.same (same_upd hp)) (RD.new_lst r1 hp f1 f2)
/-- how many a written argument list gives -/
theorem aN_len : ∀ (rho : Ev) (mu : Mem) (xs : List Da) (mu' : Mem), aN rho mu = .ok xs mu' → xs.length = 0 := fun _ _ _ _ h => by
  cases h; rfl
theorem aC_len {d : EvD} {r : Ev → Mem → Out (List Da)} {n : Nat} (h : ∀ rho mu xs mu', r rho mu = .ok xs mu' → xs.length = n) : ∀ (rho : Ev) (mu : Mem) (xs : List Da) (mu' : Mem), aC d r rho mu = .ok xs mu' → xs.length = n + 1 := fun rho mu xs mu' e => by
  unfold aC at e
  cases e1 : d rho mu with
  | ok z mu1 =>
    rw [e1] at e
    cases e2 : r rho mu1 with
    | ok zs mu2 =>
      rw [bnd_ok, e2] at e
      cases e
      rw [List.length_cons, h _ _ _ _ e2]
    | exc x mu2 => rw [bnd_ok, e2] at e; cases e
    | bad => rw [bnd_ok, e2] at e; cases e
  | exc x mu1 => rw [e1] at e; cases e
  | bad => rw [e1] at e; cases e
/-- a built-in on data -/
def CallD (X : Cx) (fv : Value) (f : List Da → Option Da) : Prop :=
  ∃ r : List V → Hp → VK → Prop, CallR X fv r ∧ ∀ (m : List Addr) (B : Addr → Prop) (H : Hp) (xs : List Da) (z : Da) (vs : List V) (Q : VK), f xs = some z → RDs m B H xs vs → (∀ p, H p = none → p ∉ m ∧ ¬ B p) → (∀ v H', Same H H' → RD m B H' z v → Q v H') → r vs H Q
theorem c_callB {fid : String} {x : Str} {e : Expr} {es : List Expr} {p : Pos} {f : List Da → Option Da} {r : Ev → Mem → Out (List Da)} (hc : CallD X (.builtin fid) f) (hm : X.mg x = none) (hv : bootBuiltins x = some (.builtin fid)) (ha : PA X (e :: es) (TAx G W r)) (hg : Gl X x := by rfl)
    (hn : x ≠ "__name__" := by decide) (hdb : (x == ("__debug__" : Str)) = false := by decide) (hs : starEach (e :: es) X.env = (false, eval e X.env) :: starEach es X.env := by rfl) (hpl : (backTo pos (starEach es X.env)).any (·.1) = false := by rfl) :
    PE X (.Call (.Name x p) (e :: es) [] pos) (TEx G W (eB f r)) := by
  obtain ⟨rr, hr, k⟩ := hc
  refine PEw (pe_callB hr hg hm hv ha hn hdb hs hpl) fun σ H Q h => ?_
  obtain ⟨rho, mu, m, Own, S, h⟩ := h.un
  refine TAx.to S (wp_bnd h) fun x mu1 v1 H1 m1 h1 g1 S1 r1 => ?_
  obtain ⟨z, e, q⟩ := wp_opt h1
  exact k m1 _ H1 x z v1 Q e r1 (fun p hp => S1.fresh hp) fun v H' sm rd => q v H' m1 (g1.trans (Lf.of_same sm)) (S1.same sm) rd
theorem c_callTy {T : String} {x : Str} {e : Expr} {es : List Expr} {p : Pos} {f : List Da → Option Da} {r : Ev → Mem → Out (List Da)} (hc : CallD X (.type T) f) (hm : X.mg x = none) (hv : bootBuiltins x = some (.type T)) (ha : PA X (e :: es) (TAx G W r)) (hg : Gl X x := by rfl)
    (hn : x ≠ "__name__" := by decide) (hdb : (x == ("__debug__" : Str)) = false := by decide) (hs : starEach (e :: es) X.env = (false, eval e X.env) :: starEach es X.env := by rfl) (hpl : (backTo pos (starEach es X.env)).any (·.1) = false := by rfl) :
    PE X (.Call (.Name x p) (e :: es) [] pos) (TEx G W (eB f r)) := by
  obtain ⟨rr, hr, k⟩ := hc
  refine PEw (pe_callTy hr hg hm hv ha hn hdb hs hpl) fun σ H Q h => ?_
  obtain ⟨rho, mu, m, Own, S, h⟩ := h.un
  refine TAx.to S (wp_bnd h) fun x mu1 v1 H1 m1 h1 g1 S1 r1 => ?_
  obtain ⟨z, e, q⟩ := wp_opt h1
  exact k m1 _ H1 x z v1 Q e r1 (fun p hp => S1.fresh hp) fun v H' sm rd => q v H' m1 (g1.trans (Lf.of_same sm)) (S1.same sm) rd
end
end Sk

/-! Sk C: operations on data. -/
namespace Sk
open PySem PySem.Spec L2

/-! ### data as the library's data -/
mutual
def toPy : Da → PyData
  | .non => .none
  | .bl b => .bool b
  | .int i => .int i
  | .str x => .str x
  | .tup xs => .tuple (toPys xs)
  | .lst xs => .list (toPys xs)
  | .ref _ => .none
def toPys : List Da → List PyData
  | [] => []
  | d :: ds => toPy d :: toPys ds
end
mutual
def isD : Da → Bool
  | .tup xs => isDs xs
  | .lst xs => isDs xs
  | .ref _ => false
  | _ => true
def isDs : List Da → Bool
  | [] => true
  | d :: ds => isD d && isDs ds
end
section
variable {K : PySem.W.Frag} {m : List Addr} {B : Addr → Prop} {H : Hp}
mutual
theorem RD.dp : ∀ {d : Da} {v : V}, RD m B H d v → isD d = true → Dp K H v (toPy d)
  | _, _, .non, _ => .non
  | _, _, .bl b, _ => .bl b
  | _, _, .int i, _ => .int i
  | _, _, .str x, _ => .str x
  | _, _, .tup h1 h2 h3 h4, e => .tup (SqT.of h3) (RDs.dp h4 e)
  | _, _, .lst h1 h2 h3 h4, e => .lst (SqL.of h3) (RDs.dp h4 e)
  | _, _, .ref h, e => nomatch e
theorem RDs.dp : ∀ {d : List Da} {v : List V}, RDs m B H d v → isDs d = true → DpAll K H v (toPys d)
  | _, _, .nil, _ => .nil
  | _, _, .cons h t, e => .cons (RD.dp h (Bool.and_eq_true_iff.mp e).1) (RDs.dp t (Bool.and_eq_true_iff.mp e).2)
end
theorem RDs.ints : ∀ {ns : List Int} {v : List V}, RDs m B H (ns.map Da.int) v → v = ns.map V.int
  | [], _, .nil => rfl
  | n :: ns, _, .cons h t => by
    cases h
    rw [RDs.ints t]
    rfl
end
/-- all ints, if they are -/
def intsOf : List Da → Option (List Int)
  | [] => some []
  | .int i :: r => (intsOf r).map (i :: ·)
  | _ :: _ => none
theorem intsOf_eq : ∀ {xs : List Da} {ns : List Int}, intsOf xs = some ns → xs = ns.map Da.int
  | [], ns, h => by cases h; rfl
  | .int i :: r, ns, h => by
    unfold intsOf at h
    cases e : intsOf r with
    | none => rw [e] at h; cases h
    | some l =>
      rw [e] at h
      cases h
      rw [intsOf_eq e]
      rfl
  | .non :: _, _, h => by cases h
  | .bl _ :: _, _, h => by cases h
  | .str _ :: _, _, h => by cases h
  | .tup _ :: _, _, h => by cases h
  | .lst _ :: _, _, h => by cases h
  | .ref _ :: _, _, h => by cases h
@[simp] theorem intsOf_map (ns : List Int) : intsOf (ns.map Da.int) = some ns := by
  induction ns with
  | nil => rfl
  | cons n ns ih => show (intsOf (ns.map Da.int)).map (n :: ·) = some (n :: ns); rw [ih]; rfl

theorem ite_inv {α : Type} {c : Prop} [Decidable c] {a z : α} (h : (if c then some a else none) = some z) : c ∧ a = z := by
  by_cases hc : c
  · rw [if_pos hc] at h; exact ⟨hc, Option.some.inj h⟩
  · rw [if_neg hc] at h; cases h
/-! ### arithmetic -/
def addD : Da → Da → Option Da
  | .int i, .int j => some (.int (i + j))
  | .str a, .str b => if a.length + b.length ≤ sizeLine then some (.str (a ++ b)) else none
  | .lst a, .lst b => if a.length + b.length ≤ sizeLine then some (.lst (a ++ b)) else none
  | .tup a, .tup b => if a.length + b.length ≤ sizeLine then some (.tup (a ++ b)) else none
  | _, _ => none
def subD : Da → Da → Option Da
  | .int i, .int j => some (.int (i - j))
  | _, _ => none
def mulD : Da → Da → Option Da
  | .int i, .int j => if i.natAbs.log2 + j.natAbs.log2 < 1000000 then some (.int (i * j)) else none
  | .tup a, .int k => if a ≠ [] ∧ 2 ≤ k ∧ k ≤ 1000 ∧ a.length ≤ 1000 then some (.tup (List.replicate k.toNat a).flatten) else none
  | .lst a, .int k => if -(2 ^ 63) ≤ k ∧ k < 2 ^ 63 ∧ a.length * k.toNat ≤ sizeLine then some (.lst (List.replicate k.toNat a).flatten) else none
  | _, _ => none
def fdivD : Da → Da → Option Da
  | .int i, .int j => if 0 < j ∧ j.natAbs.log2 < 9000 then some (.int (i / j)) else none
  | _, _ => none
def modD : Da → Da → Option Da
  | .int i, .int j => if 0 < j then some (.int (i % j)) else none
  | _, _ => none
def powD : Da → Da → Option Da
  | .int i, .int j => if 0 ≤ j ∧ j ≤ 1000000 ∧ i.natAbs < 2 ^ 64 then some (.int (i ^ j.toNat)) else none
  | _, _ => none
section
variable {X : Cx} {m : List Addr} {B : Addr → Prop} {H : Hp}
theorem RD.int_inv {i : Int} {v : V} (r : RD m B H (.int i) v) : v = .int i := by cases r; rfl
theorem RDs.rep {xs : List Da} {vs : List V} (r : RDs m B H xs vs) : ∀ n : Nat, RDs m B H (List.replicate n xs).flatten (List.replicate n vs).flatten
  | 0 => .nil
  | n + 1 => by
    rw [List.replicate_succ, List.replicate_succ, List.flatten_cons, List.flatten_cons]
    exact r.append (RDs.rep r n)
theorem RDs.ne {xs : List Da} {vs : List V} (r : RDs m B H xs vs) : xs = [] ↔ vs = [] := by
  cases r with
  | nil => simp
  | cons _ _ => simp
theorem o_add : OpD X (binaryOp .Add) addD := by
  refine ⟨_, op_add.or (op_add_str.or (op_cat.or op_catA)), fun m B H x y z a b Q e rx ry fr q => ?_⟩
  cases x with
  | int i =>
    cases y with
    | int j => cases e; cases rx; cases ry; exact .inl ⟨i, j, rfl, rfl, q _ _ (Same.refl _) (.int _)⟩
    | _ => cases e
  | str i =>
    cases y with
    | str j =>
      obtain ⟨hz, rfl⟩ := ite_inv e
      cases rx; cases ry
      exact .inr (.inl ⟨i, j, rfl, rfl, hz, q _ _ (Same.refl _) (.str _)⟩)
    | _ => cases e
  | lst i =>
    cases y with
    | lst j =>
      obtain ⟨hz, rfl⟩ := ite_inv e
      cases rx with
      | lst a1 a2 a3 a4 =>
        cases ry with
        | lst b1 b2 b3 b4 =>
          refine .inr (.inr (.inl ⟨_, _, _, _, rfl, rfl, a3, b3, by rw [← a4.length, ← b4.length]; exact hz, fun p hp => ?_⟩))
          exact q _ _ (same_upd hp) (RD.new_lst (a4.append b4) hp (fr p hp).1 (fr p hp).2)
    | _ => cases e
  | tup i =>
    cases y with
    | tup j =>
      obtain ⟨hz, rfl⟩ := ite_inv e
      cases rx with
      | tup a1 a2 a3 a4 =>
        cases ry with
        | tup b1 b2 b3 b4 =>
          refine .inr (.inr (.inr ⟨_, _, _, _, rfl, rfl, SqT.of a3, SqT.of b3, by rw [← a4.length, ← b4.length]; exact hz, fun h => ?_, fun h1 h2 => ?_, fun h1 h2 p hp => ?_⟩))
          · have e1 := a4.ne.mpr h
            subst e1
            exact q _ _ (Same.refl _) (.tup b1 b2 b3 b4)
          · have e1 := b4.ne.mpr h2
            subst e1
            rw [List.append_nil] at q
            exact q _ _ (Same.refl _) (.tup a1 a2 a3 a4)
          · exact q _ _ (same_upd hp) (RD.new_tup (a4.append b4) hp (fr p hp).1 (fr p hp).2)
    | _ => cases e
  | _ => cases e
theorem o_sub : OpD X (binaryOp .Sub) subD := by
  refine ⟨_, op_sub, fun m B H x y z a b Q e rx ry fr q => ?_⟩
  cases x with
  | int i =>
    cases y with
    | int j => cases e; cases rx; cases ry; exact ⟨i, j, rfl, rfl, q _ _ (Same.refl _) (.int _)⟩
    | _ => cases e
  | _ => cases e
theorem o_mul : OpD X (binaryOp .Mult) mulD := by
  refine ⟨_, op_mulW.or (op_repT.or op_rep), fun m B H x y z a b Q e rx ry fr q => ?_⟩
  cases y with
  | int j =>
    cases ry
    cases x with
    | int i =>
      obtain ⟨hz, rfl⟩ := ite_inv e
      cases rx
      exact .inl ⟨i, j, rfl, rfl, hz, q _ _ (Same.refl _) (.int _)⟩
    | tup xs =>
      obtain ⟨hz, rfl⟩ := ite_inv e
      cases rx with
      | tup a1 a2 a3 a4 =>
        refine .inr (.inl ⟨_, _, _, rfl, rfl, SqT.of a3, fun h => hz.1 (a4.ne.mpr h), hz.2.1, hz.2.2.1, by rw [← a4.length]; exact hz.2.2.2, fun p hp => ?_⟩)
        exact q _ _ (same_upd hp) (RD.new_tup (a4.rep _) hp (fr p hp).1 (fr p hp).2)
    | lst xs =>
      obtain ⟨hz, rfl⟩ := ite_inv e
      cases rx with
      | lst a1 a2 a3 a4 =>
        refine .inr (.inr ⟨_, _, _, rfl, rfl, a3, hz.1, hz.2.1, by rw [← a4.length]; exact hz.2.2, fun p hp => ?_⟩)
        exact q _ _ (same_upd hp) (RD.new_lst (a4.rep _) hp (fr p hp).1 (fr p hp).2)
    | _ => cases e
  | _ => cases x <;> cases e
theorem o_fdiv : OpD X (binaryOp .FloorDiv) fdivD := by
  refine ⟨_, op_fdivW, fun m B H x y z a b Q e rx ry fr q => ?_⟩
  cases x with
  | int i =>
    cases y with
    | int j =>
      obtain ⟨hz, rfl⟩ := ite_inv e
      cases rx; cases ry
      exact ⟨i, j, rfl, rfl, hz, q _ _ (Same.refl _) (.int _)⟩
    | _ => cases e
  | _ => cases e
theorem o_mod : OpD X (binaryOp .Mod) modD := by
  refine ⟨_, op_mod, fun m B H x y z a b Q e rx ry fr q => ?_⟩
  cases x with
  | int i =>
    cases y with
    | int j =>
      obtain ⟨hz, rfl⟩ := ite_inv e
      cases rx; cases ry
      exact ⟨i, j, rfl, rfl, hz, q _ _ (Same.refl _) (.int _)⟩
    | _ => cases e
  | _ => cases e
theorem o_pow : OpD X (binaryOp .Pow) powD := by
  refine ⟨_, op_pow, fun m B H x y z a b Q e rx ry fr q => ?_⟩
  cases x with
  | int i =>
    cases y with
    | int j =>
      obtain ⟨hz, rfl⟩ := ite_inv e
      cases rx; cases ry
      exact ⟨i, j, rfl, rfl, hz, q _ _ (Same.refl _) (.int _)⟩
    | _ => cases e
  | _ => cases e

/-! ### comparisons -/
def icmp (p : Int → Int → Bool) : Da → Da → Option Da
  | .int i, .int j => some (.bl (p i j))
  | _, _ => none
def ltD := icmp fun i j => decide (i < j)
def leD := icmp fun i j => decide (i ≤ j)
def gtD := icmp fun i j => decide (j < i)
def geD := icmp fun i j => decide (j ≤ i)
theorem o_icmp {p : Int → Int → Bool} {f : Value → Value → Sem Value} (h : OpR X f (rI0 fun i j => .bl (p i j))) : OpD X f (icmp p) := by
  refine ⟨_, h, fun m B H x y z a b Q e rx ry fr q => ?_⟩
  cases x with
  | int i =>
    cases y with
    | int j => cases e; cases rx; cases ry; exact ⟨i, j, rfl, rfl, q _ _ (Same.refl _) (.bl _)⟩
    | _ => cases e
  | _ => cases e
theorem o_lt : OpD X (compareOp .Lt) ltD := o_icmp op_lt
theorem o_le : OpD X (compareOp .LtE) leD := o_icmp op_le
theorem o_gt : OpD X (compareOp .Gt) gtD := o_icmp op_gt
theorem o_ge : OpD X (compareOp .GtE) geD := o_icmp op_ge
def okEq (a b : Da) : Bool := isD a && isD b && SeqAt.shaped (toPy a) && SeqAt.shaped (toPy b)
def eqD (a b : Da) : Option Da := if okEq a b = true then some (.bl (PyData.eqv (toPy a) (toPy b))) else none
def neD (a b : Da) : Option Da := if okEq a b = true then some (.bl (!PyData.eqv (toPy a) (toPy b))) else none
theorem o_eq (hu : X.A.units + 64 < cLine) : OpD X (compareOp .Eq) eqD := by
  refine ⟨_, op_eqD hu, fun m B H x y z a b Q e rx ry fr q => ?_⟩
  obtain ⟨hz, rfl⟩ := ite_inv e
  unfold okEq at hz
  simp only [Bool.and_eq_true] at hz
  exact ⟨_, _, RD.dp rx hz.1.1.1, RD.dp ry hz.1.1.2, hz.1.2, hz.2, q _ _ (Same.refl _) (.bl _)⟩
theorem o_ne (hu : X.A.units + 64 < cLine) : OpD X (compareOp .NotEq) neD := by
  refine ⟨_, op_neD hu, fun m B H x y z a b Q e rx ry fr q => ?_⟩
  obtain ⟨hz, rfl⟩ := ite_inv e
  unfold okEq at hz
  simp only [Bool.and_eq_true] at hz
  exact ⟨_, _, RD.dp rx hz.1.1.1, RD.dp ry hz.1.1.2, hz.1.2, hz.2, q _ _ (Same.refl _) (.bl _)⟩
def isND : Da → Da → Option Da
  | .non, .non => some (.bl true)
  | _, .non => some (.bl false)
  | _, _ => none
def notND : Da → Da → Option Da
  | .non, .non => some (.bl false)
  | _, .non => some (.bl true)
  | _, _ => none
theorem o_isN : OpD X (compareOp .Is) isND := by
  refine ⟨_, op_isN, fun m B H x y z a b Q e rx ry fr q => ?_⟩
  cases y with
  | non =>
    cases ry
    refine ⟨rfl, ?_⟩
    cases x <;> (cases e; cases rx; exact q _ _ (Same.refl _) (.bl _))
  | _ => cases x <;> cases e
theorem o_notN : OpD X (compareOp .IsNot) notND := by
  refine ⟨_, op_notN, fun m B H x y z a b Q e rx ry fr q => ?_⟩
  cases y with
  | non =>
    cases ry
    refine ⟨rfl, ?_⟩
    cases x <;> (cases e; cases rx; exact q _ _ (Same.refl _) (.bl _))
  | _ => cases x <;> cases e

/-! ### built-ins -/
def lenD : List Da → Option Da
  | [.tup xs] => some (.int xs.length)
  | [.lst xs] => some (.int xs.length)
  | [.str x] => if x.length ≤ sizeLine then some (.int x.length) else none
  | _ => none
theorem b_len : CallD X (.builtin "len") lenD := by
  refine ⟨_, call_len_seq.or call_len_str, fun m B H xs z vs Q e r fr q => ?_⟩
  match xs, e with
  | [.tup xs], e =>
    cases e
    cases r with
    | cons r1 r2 =>
      cases r2
      cases r1 with
      | tup a1 a2 a3 a4 => exact .inl ⟨_, _, rfl, .inr (SqT.of a3), by rw [← a4.length]; exact q _ _ (Same.refl _) (.int _)⟩
  | [.lst xs], e =>
    cases e
    cases r with
    | cons r1 r2 =>
      cases r2
      cases r1 with
      | lst a1 a2 a3 a4 => exact .inl ⟨_, _, rfl, .inl (SqL.of a3), by rw [← a4.length]; exact q _ _ (Same.refl _) (.int _)⟩
  | [.str x], e =>
    obtain ⟨hz, rfl⟩ := ite_inv e
    cases r with
    | cons r1 r2 =>
      cases r2
      cases r1
      exact .inr ⟨x, rfl, hz, q _ _ (Same.refl _) (.int _)⟩
def intD : List Da → Option Da
  | [.int i] => some (.int i)
  | _ => none
theorem b_int : CallD X (.type "int") intD := by
  refine ⟨_, call_int1, fun m B H xs z vs Q e r fr q => ?_⟩
  match xs, e with
  | [.int i], e =>
    cases e
    cases r with
    | cons r1 r2 =>
      cases r2
      cases r1
      exact .inl ⟨i, rfl, q _ _ (Same.refl _) (.int _)⟩
def max2D : List Da → Option Da
  | [.int i, .int j] => some (.int (if j > i then j else i))
  | _ => none
def min2D : List Da → Option Da
  | [.int i, .int j] => some (.int (if j < i then j else i))
  | _ => none
theorem b_max2 (hc : X.calm = true) : CallD X (.builtin "max") max2D := by
  refine ⟨_, call_max2 hc, fun m B H xs z vs Q e r fr q => ?_⟩
  match xs, e with
  | [.int i, .int j], e =>
    cases e
    cases r with
    | cons r1 r2 =>
      cases r2 with
      | cons r2 r3 =>
        cases r3
        cases r1
        cases r2
        exact ⟨i, j, rfl, q _ _ (Same.refl _) (.int _)⟩
theorem b_min2 (hc : X.calm = true) : CallD X (.builtin "min") min2D := by
  refine ⟨_, call_min2 hc, fun m B H xs z vs Q e r fr q => ?_⟩
  match xs, e with
  | [.int i, .int j], e =>
    cases e
    cases r with
    | cons r1 r2 =>
      cases r2 with
      | cons r2 r3 =>
        cases r3
        cases r1
        cases r2
        exact ⟨i, j, rfl, q _ _ (Same.refl _) (.int _)⟩
def sumD : List Da → Option Da
  | [.lst xs] => (intsOf xs).map fun ns => .int ns.sum
  | _ => none
theorem b_sum (hc : X.calm = true) : CallD X (.builtin "sum") sumD := by
  refine ⟨_, cr_sum hc, fun m B H xs z vs Q e r fr q => ?_⟩
  match xs, e with
  | [.lst xs], e =>
    replace e : (intsOf xs).map (fun ns => Da.int ns.sum) = some z := e
    cases e1 : intsOf xs with
    | none => rw [e1] at e; cases e
    | some ns =>
      rw [e1] at e
      cases e
      have e2 := intsOf_eq e1
      subst e2
      cases r with
      | cons r1 r2 =>
        cases r2
        cases r1 with
        | lst a1 a2 a3 a4 =>
          have e3 := RDs.ints a4
          subst e3
          exact ⟨_, ns, rfl, SqL.of a3, q _ _ (Same.refl _) (.int _)⟩
def tupD : List Da → Option Da
  | [.lst xs] => some (.tup xs)
  | [.tup xs] => some (.tup xs)
  | _ => none
theorem b_tuple : CallD X (.type "tuple") tupD := by
  refine ⟨_, call_tuple_of, fun m B H xs z vs Q e r fr q => ?_⟩
  match xs, e with
  | [.lst xs], e =>
    cases e
    cases r with
    | cons r1 r2 =>
      cases r2
      cases r1 with
      | lst a1 a2 a3 a4 => exact ⟨_, _, rfl, .inl ⟨SqL.of a3, fun l hl => q _ _ (same_upd hl) (RD.new_tup a4 hl (fr l hl).1 (fr l hl).2)⟩⟩
  | [.tup xs], e =>
    cases e
    cases r with
    | cons r1 r2 =>
      cases r2
      cases r1 with
      | tup a1 a2 a3 a4 => exact ⟨_, _, rfl, .inr ⟨SqT.of a3, q _ _ (Same.refl _) (.tup a1 a2 a3 a4)⟩⟩
def listD : List Da → Option Da
  | [.lst xs] => some (.lst xs)
  | [.tup xs] => some (.lst xs)
  | _ => none
theorem b_list : CallD X (.type "list") listD := by
  refine ⟨_, call_list_of, fun m B H xs z vs Q e r fr q => ?_⟩
  match xs, e with
  | [.lst xs], e =>
    cases e
    cases r with
    | cons r1 r2 =>
      cases r2
      cases r1 with
      | lst a1 a2 a3 a4 => exact ⟨_, _, rfl, .inl (SqL.of a3), fun l hl => q _ _ (same_upd hl) (RD.new_lst a4 hl (fr l hl).1 (fr l hl).2)⟩
  | [.tup xs], e =>
    cases e
    cases r with
    | cons r1 r2 =>
      cases r2
      cases r1 with
      | tup a1 a2 a3 a4 => exact ⟨_, _, rfl, .inr (SqT.of a3), fun l hl => q _ _ (same_upd hl) (RD.new_lst a4 hl (fr l hl).1 (fr l hl).2)⟩
/-- which built-in class a datum is of -/
def tyD : Da → Option String
  | .non => some "NoneType"
  | .bl _ => some "bool"
  | .int _ => some "int"
  | .str _ => some "str"
  | .tup _ => some "tuple"
  | .lst _ => some "list"
  | .ref _ => none
def isiB (T : String) (a : Da) : Option Da := (tyD a).bind fun t => (kitB t T).map Da.bl
theorem RD.tyx {K : PySem.W.Frag} {d : Da} {v : V} {t : String} (r : RD m B H d v) (h : tyD d = some t) : TyX K H v (.type t) := by
  cases r with
  | non => cases h; exact .base .non
  | bl b => cases h; exact .base (.bl b)
  | int b => cases h; exact .base (.int b)
  | str b => cases h; exact .base (.str b)
  | tup a1 a2 a3 a4 => cases h; exact .base (.tup a3)
  | lst a1 a2 a3 a4 => cases h; exact .base (.lst a3)
  | ref _ => cases h
end
end Sk

/-! Sk D: defs and their calls (with the knowledge that no repr is under way). -/
namespace Sk
open PySem PySem.Spec L2

/-- room for calls, no repr under way -/
structure Rm (k : Nat) (A : Around) : Prop where
  r : Room k A
  gd : A.guards = some []
theorem Rm.mono {j k : Nat} {A : Around} (h : Rm k A) (l : j ≤ k) : Rm j A := ⟨h.r.mono l, h.gd⟩
theorem Rm.deeper {k : Nat} {A : Around} (h : Rm (k + 1) A) (env : Env) : Rm k (A.deeper env) := ⟨h.r.deeper env, h.gd⟩
abbrev CXx (P : Program) (w : World) : CXT := L2.CX P w
/-- a def's promise, in such rooms -/
structure FnG (P : Program) (w : World) (K : PySem.W.Frag) (mg : Str → Option Value) (base : Heap) (k : Nat) (f : Addr) (fd : FuncData) (ps : List Str) (sp : Sp) : Prop where
  len : ∀ vs H Q E, sp vs H Q E → vs.length = ps.length
  run : ∀ (A : Around) (out : List Env) (s : Shared) (H : Hp) (args : Args) (us : List Value) (vs : List V) (Q : VK) (E : XK), Rm k A → Env0 P w K mg base A out s H → BindsTo s fd args (ps.zip us) →
    Vals vs us → sp vs H Q E → codeAny (model P w) A (.call (.ref f) args) (CR (CXx P w) out P w H s Q E) s
theorem FnG.mono {P : Program} {w : World} {K : PySem.W.Frag} {mg : Str → Option Value} {base : Heap} {j k : Nat} {f : Addr} {fd : FuncData} {ps : List Str} {sp : Sp} (F : FnG P w K mg base j f fd ps sp) (h : j ≤ k) : FnG P w K mg base k f fd ps sp :=
  ⟨F.len, fun A out s H args us vs Q E hr => F.run A out s H args us vs Q E (hr.mono h)⟩
/-- what a function of data promises as a def -/
def spOf (K : PySem.W.Frag) (fn : Fn) : Sp := fun vs H Q E => ∃ (m : List Addr) (B : Addr → Prop) (ds : List Da) (mu : Mem), Wd K m B H mu ∧ RDs m B H ds vs ∧
  (fn ds mu).wp (fun d mu' => ∀ v H' m', Lf m H m' H' → Wd K m' B H' mu' → RD m' B H' d v → Q v H') (fun x mu' => ∀ c dd H' m', Lf m H m' H' → Wd K m' B H' mu' → ExR K m' B H' x c dd → E c dd H')
/-- a def as a function of data: n parameters, k other names -/
def SO.out : SO → Out Da
  | .nx _ mu => .ok .non mu
  | .rt d mu => .ok d mu
  | .exc x _ mu => .exc x mu
  | _ => .bad
def fnD (n k : Nat) (body : Ev → Mem → SO) : Fn := fun ds mu => if ds.length = n then (body (ds.map Sl.val ++ List.replicate k .un) mu).out else .bad
theorem fnD_arity {n k : Nat} {body : Ev → Mem → SO} {ds : List Da} {mu : Mem} (h : ds.length ≠ n) : fnD n k body ds mu = .bad := if_neg h

section
variable {G : Fr} {K : PySem.W.Frag} {rho : Ev} {mu mu' : Mem} {σ : L2.St} {H H' : Hp} {m m' : List Addr} {Own : Addr → Prop}
/-- the frame's state behind a call -/
theorem StR.call (S : StR G rho mu σ H m Own) (g : Lf m H m' H') (w : Wd G.K m' (G.bar Own) H' mu') : StR G rho mu' σ H' m' Own := by
  refine ⟨S.le.trans g, w, paired_imp (fun x o z => ?_) S.sl, S.ow, S.dj⟩
  cases x with
  | un => trivial
  | val d =>
    obtain ⟨v, e, r⟩ := z
    exact ⟨v, e, r.mono (g.le _)⟩
  | own xs =>
    obtain ⟨a, us, e1, e2, e3, e4⟩ := z
    exact ⟨a, us, e1, e2, g.keep a _ e3 (fun _ z => nomatch z) (fun h => S.wd.dis a h (.inr e2)) (fun z => z), RDs.mono (g.le _) e4⟩
theorem Wd.less {B B' : Addr → Prop} (w : Wd K m B H mu) (h : ∀ a, B' a → B a) : Wd K m B' H mu :=
  w.mono (Le.less h) (fun _ _ e _ _ => e) (fun _ _ _ e => e) (fun a z => w.dom a (h a z)) fun a ha z => w.dis a ha (h a z)
theorem ExR.less {B B' : Addr → Prop} {x : Exn} {c : Value} {dd : Option Addr} (r : ExR K m B H x c dd) (h : ∀ a, B' a → B a) : ExR K m B' H x c dd := by
  obtain ⟨e, a, us, e1, e2, e3, e4, p⟩ := r
  exact ⟨e, a, us, e1, e2, fun z => e3 (h a z), e4, paired_imp (fun _ _ ⟨u, v⟩ => ⟨u, v.mono (Le.less h)⟩) p⟩
end

section
variable {P : Program} {w : World} {K : PySem.W.Frag} {mg : Str → Option Value} {base : Heap} {k n z : Nat} {f : Addr} {fd : FuncData} {ps N : List Str} {x qual : Str} {params : Arguments} {body : List Stmt} {scope : Scope} {dvs : List V} {kws : List (Str × V)}
/-- the slots at a def's start -/
theorem start_rel {m : List Addr} {B : Addr → Prop} {H : Hp} {Own : Addr → Prop} : ∀ {ds : List Da} {vs : List V} {j : Nat}, RDs m B H ds vs →
    Paired (fun (s : Sl) (o : Option V) => SlR m B H Own s o) (ds.map Sl.val ++ List.replicate j .un) (vs.map some ++ List.replicate j none)
  | _, _, 0, .nil => .nil
  | _, _, j + 1, .nil => .cons True.intro (start_rel (ds := []) (vs := []) (j := j) .nil)
  | _, _, j, .cons h t => .cons ⟨_, rfl, h⟩ (start_rel t)
/-- the code object of the def at f -/
def CdOf (K : PySem.W.Frag) (f : Addr) (cdv : Value) : Prop := ∃ (oc : Value) (od : Option Addr) (fd : FuncData) (osl : Array (Option Value)), K.lookup f = some ⟨oc, od, .func fd, osl⟩ ∧ fd.code = cdv
/-- a def keeps the promise of its function of data -/
theorem fnG_okC {bd : Ev → Mem → SO} (F : FunD K x qual params body scope dvs kws f fd) (S : FnScope N ps scope) (hn : ps.length = n) (hN : N.length = n + z)
    (hb : ∀ (cdv : Value) (A : Around) (out : List Env) (s : Shared) (H : Hp) (E : XK) (G : Fr), CdOf K f cdv → G.K = K → Rm k (A.deeper (PyProof.Rows.envOfC qual scope s.heap.objs.size f cdv)) →
      PSs (cxOf (CXx P w) P w K mg base N qual scope f cdv A out s H E) body (TSx G (fun c d _ H' => E c d H') bd)) :
    FnG P w K mg base (k + 1) f fd ps (spOf K (fnD n z bd)) := by
  obtain ⟨oc, od, dV, kV, doc, pm, an, cdv, ct, osl, rfl, lk, hcd, _, _⟩ := F.ex
  have arity : ∀ vs H Q E, spOf K (fnD n z bd) vs H Q E → vs.length = ps.length := by
    rintro vs H Q E ⟨m, B, ds, mu, _, r, h⟩
    by_cases e : ds.length = n
    · rw [← r.length, e, hn]
    · rw [fnD_arity e] at h
      exact h.elim
  refine ⟨arity, fun A out s H args us vs Q E hr e0 hbt rv hsp => ?_⟩
  have hl := arity vs H Q E hsp
  have low : ∀ b o, base.get? b = some o → s.heap.get? b = some o := fun b o e => (e0.bs b o e).1
  have inK : K.In s.heap := e0.mod.kin.keeps low
  have kinds : ∀ y ∈ ps.zip us, scope.names.lookup y.1 = some .local ∨ (scope.names.lookup y.1 = some .cell ∧ ((cellsFrom (s.heap.objs.size + 1) scope.names []).lookup y.1).isSome = true) := by
    rintro ⟨nm, val⟩ hy
    exact (S.par nm (List.of_mem_zip hy).1).elim .inl fun q => .inr ⟨q, PySem.W.cellsFrom_some _ _ _ (.inl q)⟩
  refine codeAny_call_function hr.r.depth (inK _ _ lk) rfl S.co S.gen rfl (PySem.W.codeRec_of inK hcd) (hbt _ _ _ _ ?_)
  refine wpAny_newFunctionEnv_cells S.kind kinds fun env he s1 inC => ?_
  subst he
  refine ⟨(e0.mod.nolimit.keeps low).keeps inC.toInCall.keep, codeAny_func ?_⟩
  obtain ⟨m, B, ds, mu, wd, r, hw⟩ := hsp
  have eds : ds.length = n := by
    by_cases e : ds.length = n
    · exact e
    · rw [fnD_arity e] at hw
      exact hw.elim
  have I := inv_start (CX := CXx P w) (E := E) (cd := cdv) S hr.r.hd e0 hl rv inC
  have nob : ∀ a, (⟨K, m, B, H⟩ : Fr).bar NoB a → B a := fun a z => z.elim id (fun q => q.elim)
  have st : StR ⟨K, m, B, H⟩ (ds.map Sl.val ++ List.replicate z .un) mu (L2.start N vs) H m NoB := by
    refine ⟨Lf.refl, wd.less nob, ?_, fun a z => z.elim, fun i j a xs ys _ h1 => ?_⟩
    · have q := start_rel (Own := NoB) (j := z) (RDs.mono (Le.less nob) r)
      have e : L2.start N vs = vs.map some ++ List.replicate z none := by
        unfold L2.start
        rw [show N.length - vs.length = z by rw [hN, hl, hn]; omega]
      rw [e]
      exact q
    · exfalso
      rw [List.getElem?_append] at h1
      split at h1
      · rw [List.getElem?_map] at h1
        cases e : ds[i]? with
        | none => rw [e] at h1; cases h1
        | some d => rw [e] at h1; cases h1
      · rw [List.getElem?_replicate] at h1
        split at h1 <;> cases h1
  have low2 : ∀ {Own : Addr → Prop} a, B a → (⟨K, m, B, H⟩ : Fr).bar Own a := fun a z => .inl z
  have hbody := (hb cdv A out s H E ⟨K, m, B, H⟩ ⟨oc, od, _, osl, lk, rfl⟩ rfl (hr.deeper _)).run [] s1 (L2.start N vs) H { nx := fun _ H' => Q .non H', rt := Q } I ⟨_, mu, m, NoB, st, by
    have hw2 := hw
    unfold fnD at hw2
    rw [if_pos eds] at hw2
    cases e : bd (ds.map Sl.val ++ List.replicate z .un) mu with
    | nx rho' mu' =>
      rw [e] at hw2
      exact fun σ' H' m' Own' _ S' => hw2 .non H' m' S'.le (S'.wd.less low2) .non
    | rt d mu' =>
      rw [e] at hw2
      exact fun v H' m' g w' r' => hw2 v H' m' g w' r'
    | exc x rho' mu' =>
      rw [e] at hw2
      exact fun c dd σ' H' m' Own' _ S' xr => hw2 c dd H' m' S'.le (S'.wd.less low2) (xr.less low2)
    | bk rho' mu' => rw [e] at hw2; exact hw2.elim
    | ct rho' mu' => rw [e] at hw2; exact hw2.elim
    | bad => rw [e] at hw2; exact hw2.elim⟩
  refine wpAny_mono hbody (fun fl s' hs => ?_) fun _ _ hs => hs
  cases fl with
  | ret u =>
    obtain ⟨v, σ', H', J, rv', q⟩ := hs
    exact ⟨v, H', J.os, J.bare, J.base, J.hok, rv', q⟩
  | next =>
    obtain ⟨σ', H', J, q⟩ := hs
    exact ⟨V.non, H', J.os, J.bare, J.base, J.hok, rfl, q⟩
  | brk => exact hs.elim fun _ h => h.elim fun _ h => h.2.elim
  | cont => exact hs.elim fun _ h => h.elim fun _ h => h.2.elim
theorem fnG_ok {bd : Ev → Mem → SO} (F : FunD K x qual params body scope dvs kws f fd) (S : FnScope N ps scope) (hn : ps.length = n) (hN : N.length = n + z)
    (hb : ∀ (cdv : Value) (A : Around) (out : List Env) (s : Shared) (H : Hp) (E : XK) (G : Fr), G.K = K → Rm k (A.deeper (PyProof.Rows.envOfC qual scope s.heap.objs.size f cdv)) →
      PSs (cxOf (CXx P w) P w K mg base N qual scope f cdv A out s H E) body (TSx G (fun c d _ H' => E c d H') bd)) :
    FnG P w K mg base (k + 1) f fd ps (spOf K (fnD n z bd)) := fnG_okC F S hn hN fun cdv A out s H E G _ => hb cdv A out s H E G
end

/-! ### calls -/
section
variable {X : Cx} {G : Fr} {W : WX} {k : Nat} {f : Addr} {fd : FuncData} {ps : List Str} {sp : Sp} {x : Str} {p pos : Pos} {e : Expr} {es : List Expr} {E : L2.St → XK}
theorem runG {pins : List (Addr × Obj)} {σ : L2.St} {H : Hp} {s : Shared} {Q : VK} {args : Args} {us : List Value} {vs : List V} (F : FnG X.prog X.w X.K X.mg X.base k f fd ps sp) (hr : Rm k X.A) (hx : PassesAt (CXx X.prog X.w) X σ (E σ)) (I : Inv X pins σ H s)
    (hb : BindsTo s fd args (ps.zip us)) (r : Vals vs us) (h : sp vs H Q (E σ)) : codeAny (model X.prog X.w) X.A (.call (.ref f) args) (fun res s' => match res with
      | .ok (.ret u) => EP X pins σ Q u s'
      | .ok _ => False
      | .error e => X.xe e s') s := by
  refine codeAny_mono (F.run X.A X.stack s H args us vs Q (E σ) hr I.env0 hb r h) fun res s' hq => ?_
  cases res with
  | error er => exact hx pins H s er s' I hq
  | ok fl =>
    cases fl with
    | ret u => exact I.after hq
    | next => exact hq.elim
    | brk => exact hq.elim
    | cont => exact hq.elim
theorem runG' {pins : List (Addr × Obj)} {σ : L2.St} {H : Hp} {s : Shared} {Q : VK} {us ds : List Value} {vs dvs : List V} (F : FnG X.prog X.w X.K X.mg X.base k f fd ps sp) (hr : Rm k X.A) (hb : Binds X.K fd ps ds) (hd : Vals dvs ds) (hx : PassesAt (CXx X.prog X.w) X σ (E σ)) (I : Inv X pins σ H s)
    (r : Vals vs us) (h : sp (vs ++ dvs) H Q (E σ)) : wpAny (model X.prog X.w) X.A (call (.ref f) us) (EP X pins σ Q) X.xe s := by
  have r2 := r.append hd
  have hl : (us ++ ds).length = ps.length := r2.length.symm.trans (F.len _ _ _ _ h)
  refine wpAny_call (codeAny_mono (runG F hr hx I (hb s us I.kIn hl) r2 h) fun res s' hq => ?_)
  cases res with
  | error er => exact hq
  | ok fl =>
    cases fl with
    | ret u => exact hq
    | next => exact hq.elim
    | brk => exact hq.elim
    | cont => exact hq.elim
def tCallG (sp : Sp) (dvs : List V) (E : L2.St → XK) (t : TA) : TE := fun σ H Q => t σ H fun vs H1 => sp (vs ++ dvs) H1 Q (E σ)
theorem peG {dvs : List V} {ds : List Value} {t : TA} (F : FnG X.prog X.w X.K X.mg X.base k f fd ps sp) (hr : Rm k X.A) (hg : Gl X x) (hm : X.mg x = some (.ref f)) (hk : PySem.W.keepIn X.K (.ref f) = true) (hb : Binds X.K fd ps ds) (hd : Vals dvs ds) (hx : ∀ σ, PassesAt (CXx X.prog X.w) X σ (E σ)) (ha : PA X (e :: es) t)
    (hdb : (x == ("__debug__" : Str)) = false) (he : starEach (e :: es) X.env = (false, eval e X.env) :: starEach es X.env) (hpl : (backTo pos (starEach es X.env)).any (·.1) = false) :
    PE X (.Call (.Name x p) (e :: es) [] pos) (tCallG sp dvs E t) := by
  refine ⟨fun pins s σ H Q I h => wpAny_Call_Name_kw (ld_glob I hg hm ?_ hdb)⟩
  exact PySem.W.callWith_K (h₀ := X.base) I.ok.mod.kin hk (thn (ha.run pos pins s σ H _ I h) fun us s1 ⟨vs, H1, I1, r, q⟩ => ⟨I1.kIn, runG' F hr hb hd (hx σ) I1 r q⟩) he hpl
theorem peG0 {dvs : List V} {ds : List Value} (F : FnG X.prog X.w X.K X.mg X.base k f fd ps sp) (hr : Rm k X.A) (hg : Gl X x) (hm : X.mg x = some (.ref f)) (hk : PySem.W.keepIn X.K (.ref f) = true) (hb : Binds X.K fd ps ds) (hd : Vals dvs ds) (hx : ∀ σ, PassesAt (CXx X.prog X.w) X σ (E σ))
    (hdb : (x == ("__debug__" : Str)) = false) : PE X (.Call (.Name x p) [] [] pos) (tCallG sp dvs E tNil) := by
  refine ⟨fun pins s σ H Q I h => wpAny_Call_Name_kw (ld_glob I hg hm ?_ hdb)⟩
  exact PySem.W.callWith_K0 I.kIn hk (runG' (us := []) F hr hb hd (hx σ) I .nil h)
/-- the promise from the state ahead of the call -/
theorem sp_of {fn : Fn} {rho : Ev} {mu : Mem} {σ : L2.St} {H H0 : Hp} {m m0 : List Addr} {Own : Addr → Prop} {xs : List Da} {vs : List V} {Q : VK} (S : StR G rho mu σ H m Own) (g : Lf m0 H0 m H) (r : RDs m (G.bar Own) H xs vs) (h : (fn xs mu).wp (QE G rho σ Own m0 H0 Q) (ES G W rho σ Own m0 H0)) :
    spOf G.K fn vs H Q (fun c d H' => W c d σ H') :=
  ⟨m, G.bar Own, xs, mu, S.wd, r, by
    cases e : fn xs mu with
    | ok d mu' => rw [e] at h; exact fun v H' m' g2 w' r' => h v H' m' (g.trans g2) (S.call g2 w') r'
    | exc x mu' => rw [e] at h; exact fun c dd H' m' g2 w' r' => h c dd H' m' (g.trans g2) (S.call g2 w') r'
    | bad => rw [e] at h; exact h⟩
theorem RDs.snoc_con {m : List Addr} {B : Addr → Prop} {H : Hp} {xs dfl : List Da} {vs dvs : List V} (r : RDs m B H xs vs) (d : ∀ m B H, RDs m B H dfl dvs) : RDs m B H (xs ++ dfl) (vs ++ dvs) := r.append (d m B H)
/-- f(e, ..); dfl: the defaults that fill up -/
theorem c_call {fn : Fn} {r : Ev → Mem → Out (List Da)} (hK : G.K = X.K) (F : FnG X.prog X.w X.K X.mg X.base k f fd ps (spOf X.K fn)) (hr : Rm k X.A) (hm : X.mg x = some (.ref f)) (hk : PySem.W.keepIn X.K (.ref f) = true) (hb : Binds X.K fd ps []) (tk : Takes X W) (ha : PA X (e :: es) (TAx G W r))
    (hg : Gl X x := by rfl) (hdb : (x == ("__debug__" : Str)) = false := by decide) (he : starEach (e :: es) X.env = (false, eval e X.env) :: starEach es X.env := by rfl) (hpl : (backTo pos (starEach es X.env)).any (·.1) = false := by rfl) :
    PE X (.Call (.Name x p) (e :: es) [] pos) (TEx G W (eC fn r)) := by
  refine PEw (peG (dvs := []) (E := fun σ c d H' => W c d σ H') F hr hg hm hk hb .nil (fun σ => passAt tk σ) ha hdb he hpl) fun σ H Q h => ?_
  obtain ⟨rho, mu, m, Own, S, h⟩ := h.un
  refine TAx.to S (wp_bnd h) fun xs mu1 vs H1 m1 h1 g1 S1 r1 => ?_
  rw [List.append_nil, ← hK]
  exact sp_of S1 g1 r1 h1
theorem c_call0 {fn : Fn} (hK : G.K = X.K) (F : FnG X.prog X.w X.K X.mg X.base k f fd ps (spOf X.K fn)) (hr : Rm k X.A) (hm : X.mg x = some (.ref f)) (hk : PySem.W.keepIn X.K (.ref f) = true) (hb : Binds X.K fd ps []) (tk : Takes X W)
    (hg : Gl X x := by rfl) (hdb : (x == ("__debug__" : Str)) = false := by decide) :
    PE X (.Call (.Name x p) [] [] pos) (TEx G W (eC fn aN)) := by
  refine PEw (peG0 (dvs := []) (E := fun σ c d H' => W c d σ H') F hr hg hm hk hb .nil (fun σ => passAt tk σ) hdb) fun σ H Q h => ?_
  obtain ⟨rho, mu, m, Own, S, h⟩ := h.un
  show spOf X.K fn ([] ++ []) H Q _
  rw [List.append_nil, ← hK]
  exact sp_of S Lf.refl .nil h
end
end Sk

/-! Sk E: statements. -/
namespace Sk
open PySem PySem.Spec L2

abbrev StD := Ev → Mem → SO
def sSeq (a b : StD) : StD := fun rho mu => match a rho mu with
  | .nx rho' mu' => b rho' mu'
  | o => o
def sNx : StD := fun rho mu => .nx rho mu
def sBk : StD := fun rho mu => .bk rho mu
def sCt : StD := fun rho mu => .ct rho mu
/-- an expression's answer put to use -/
def sUse {α : Type} (o : Out α) (rho : Ev) (f : α → Mem → SO) : SO := match o with
  | .ok d mu => f d mu
  | .exc x mu => .exc x rho mu
  | .bad => .bad
@[simp] theorem sUse_ok {α : Type} {a : α} {rho : Ev} {mu : Mem} {f : α → Mem → SO} : sUse (.ok a mu) rho f = f a mu := rfl
def sSet (i : Nat) (e : EvD) : StD := fun rho mu => sUse (e rho mu) rho fun d mu' => .nx (rho.set i (.val d)) mu'
def sRet (e : EvD) : StD := fun rho mu => sUse (e rho mu) rho fun d mu' => .rt d mu'
def sRetN : StD := fun _ mu => .rt .non mu
def sDo (e : EvD) : StD := fun rho mu => sUse (e rho mu) rho fun _ mu' => .nx rho mu'
def sIf (t : EvT) (a b : StD) : StD := fun rho mu => sUse (t rho mu) rho fun k mu' => if k then a rho mu' else b rho mu'
def sWhile (t : EvT) (b : StD) : Nat → StD
  | 0 => fun _ _ => .bad
  | n + 1 => fun rho mu => sUse (t rho mu) rho fun k mu1 => if k then (match b rho mu1 with
      | .nx rho2 mu2 => sWhile t b n rho2 mu2
      | .ct rho2 mu2 => sWhile t b n rho2 mu2
      | .bk rho2 mu2 => .nx rho2 mu2
      | o => o) else .nx rho mu1
def sLoop (bd : Da → Ev → Option Ev) (b : StD) : List Da → StD
  | [] => fun rho mu => .nx rho mu
  | x :: xs => fun rho mu => match bd x rho with
    | none => .bad
    | some rho1 => match b rho1 mu with
      | .nx rho2 mu2 => sLoop bd b xs rho2 mu2
      | .ct rho2 mu2 => sLoop bd b xs rho2 mu2
      | .bk rho2 mu2 => .nx rho2 mu2
      | o => o
abbrev EvI := Ev → Mem → Out (List Da)
def sFor (it : EvI) (bd : Da → Ev → Option Ev) (b : StD) : StD := fun rho mu => sUse (it rho mu) rho fun xs mu' => sLoop bd b xs rho mu'

section
variable {G : Fr} {W : WX} {rho : Ev} {mu : Mem} {σ : L2.St} {H H' : Hp} {m m' : List Addr} {Own Own' : Addr → Prop} {D : Ends}
theorem Lf.bar (g : Lf m H m' H') (Own : Addr → Prop) : Le m (G.bar Own) H m' (G.bar Own) H' := g.le _
theorem SOk.step {o : SO} (g : Le m (G.bar Own) H m' (G.bar Own') H') (h : SOk G W D m Own H o) : SOk G W D m' Own' H' o := by
  cases o with
  | nx r u => exact fun σ' H2 m2 O2 g2 S => h σ' H2 m2 O2 (g.trans g2) S
  | rt z u => exact h
  | bk r u => exact fun σ' H2 m2 O2 g2 S => h σ' H2 m2 O2 (g.trans g2) S
  | ct r u => exact fun σ' H2 m2 O2 g2 S => h σ' H2 m2 O2 (g.trans g2) S
  | exc x r u => exact fun c dd σ' H2 m2 O2 g2 S => h c dd σ' H2 m2 O2 (g.trans g2) S
  | bad => exact h
/-- behind an expression in a statement -/
theorem use_wp {α : Type} {o : Out α} {f : α → Mem → SO} (h : SOk G W D m Own H (sUse o rho f)) : o.wp (fun d mu' => SOk G W D m Own H (f d mu')) (ES G W rho σ Own m H) := by
  cases o with
  | ok a u => exact h
  | exc x u => exact fun c dd H' m' g S r => h c dd σ H' m' Own (g.le _) S r
  | bad => exact h
theorem ret_ok {z : Da} {mu' : Mem} (S : StR G rho mu σ H m Own) (h : SOk G W D m Own H (.rt z mu')) (S' : StR G rho mu' σ H' m' Own) {v : V} (r : RD m' (G.bar Own) H' z v) : D.rt v H' :=
  h v H' m' S'.le (S'.wd.less fun a z => .inl z) (r.mono (Le.less fun a z => .inl z))
/-- a slot gets a datum -/
theorem StR.setv (S : StR G rho mu σ H m Own) (i : Nat) {d : Da} {v : V} (r : RD m (G.bar Own) H d v) : StR G (rho.set i (.val d)) mu (σ.set i (some v)) H m Own := by
  refine ⟨S.le, S.wd, paired_set ⟨v, rfl, r⟩ i S.sl, S.ow, fun a b c xs ys hab h1 h2 h3 h4 => ?_⟩
  have f : ∀ (j : Nat) (zs : List Da), (rho.set i (.val d))[j]? = some (Sl.own zs) → i ≠ j ∧ rho[j]? = some (Sl.own zs) := by
    intro j zs e
    by_cases hj : i = j
    · subst hj
      rw [List.getElem?_set_self'] at e
      cases q : rho[i]? with
      | none => rw [q] at e; cases e
      | some s => rw [q] at e; cases e
    · rw [List.getElem?_set_ne hj] at e
      exact ⟨hj, e⟩
  obtain ⟨n1, e1⟩ := f a xs h1
  obtain ⟨n2, e2⟩ := f b ys h2
  rw [List.getElem?_set_ne n1] at h3
  rw [List.getElem?_set_ne n2] at h4
  exact S.dj a b c xs ys hab e1 e2 h3 h4
/-- a slot gets a new list that nobody else holds -/
theorem StR.seto (S : StR G rho mu σ H m Own) (i : Nat) {xs : List Da} {us : List V} {p : Addr} (r : RDs m (G.bar Own) H xs us) (hp : H p = none) :
    StR G (rho.set i (.own xs)) mu (σ.set i (some (.ref p))) (upd H p (.lst us)) m (fun a => Own a ∨ a = p) ∧ Le m (G.bar Own) H m (G.bar (fun a => Own a ∨ a = p)) (upd H p (.lst us)) := by
  obtain ⟨f1, f2⟩ := S.fresh hp
  have sm : Same H (upd H p (.lst us)) := same_upd hp
  have S1 := S.same sm
  have g : Le m (G.bar Own) H m (G.bar (fun a => Own a ∨ a = p)) (upd H p (.lst us)) := by
    refine ⟨⟨[], by simp, by simp⟩, fun a o e _ _ _ => sm a o e, fun a e => sm.free e, fun a z => ?_⟩
    rcases z with z | z | z
    · exact .inl (.inl z)
    · exact .inl (.inr z)
    · subst z; exact .inr hp
  refine ⟨⟨S1.le, ?_, ?_, ?_, ?_⟩, g⟩
  · refine S.wd.mono g (fun P ps e _ _ => sm P _ e) (fun a _ o e => sm a o e) (fun a z => ?_) fun a ha z => ?_
    · rcases z with z | z | z
      · obtain ⟨o, e⟩ := S.wd.dom a (.inl z); exact ⟨o, sm a o e⟩
      · obtain ⟨o, e⟩ := S.wd.dom a (.inr z); exact ⟨o, sm a o e⟩
      · subst z; exact ⟨_, upd_same⟩
    · rcases z with z | z | z
      · exact S.wd.dis a ha (.inl z)
      · exact S.wd.dis a ha (.inr z)
      · subst z; exact f1 ha
  · refine paired_set ⟨p, us, rfl, .inr rfl, upd_same, RDs.mono g r⟩ i (paired_imp (fun x o z => ?_) S.sl)
    cases x with
    | un => trivial
    | val d => obtain ⟨v, e, r⟩ := z; exact ⟨v, e, r.mono g⟩
    | own xs => obtain ⟨a, us, e1, e2, e3, e4⟩ := z; exact ⟨a, us, e1, .inl e2, sm _ _ e3, RDs.mono g e4⟩
  · rintro a (z | z)
    · exact S.ow a z
    · subst z
      exact ⟨S.le.dom a hp, fun z => f2 (.inl z)⟩
  · intro a b c ys zs hab h1 h2 h3 h4
    have f : ∀ (j : Nat) (ws : List Da) (c : Addr), (rho.set i (.own xs))[j]? = some (Sl.own ws) → (σ.set i (some (V.ref p)))[j]? = some (some (V.ref c)) → (i = j ∧ c = p) ∨ (i ≠ j ∧ rho[j]? = some (Sl.own ws) ∧ σ[j]? = some (some (V.ref c)) ∧ c ≠ p) := by
      intro j ws c e1 e2
      by_cases hj : i = j
      · subst hj
        rw [List.getElem?_set_self'] at e2
        cases q : σ[i]? with
        | none => rw [q] at e2; cases e2
        | some s => rw [q] at e2; cases e2; exact .inl ⟨rfl, rfl⟩
      · rw [List.getElem?_set_ne hj] at e1 e2
        refine .inr ⟨hj, e1, e2, ?_⟩
        obtain ⟨o, q, a', us', e3, e4, e5, _⟩ := paired_get S.sl e1
        rw [e2] at q
        cases q
        cases e3
        exact ne_of_none e5 hp
    rcases f a ys c h1 h3 with ⟨k1, k2⟩ | ⟨k1, k2, k3, k4⟩
    · rcases f b zs c h2 h4 with ⟨l1, l2⟩ | ⟨l1, l2, l3, l4⟩
      · exact hab (k1.symm.trans l1)
      · exact l4 k2
    · rcases f b zs c h2 h4 with ⟨l1, l2⟩ | ⟨l1, l2, l3, l4⟩
      · exact k4 l2
      · exact S.dj a b c ys zs hab k2 l2 k3 l3
end
theorem tsx_mk {G : Fr} {W : WX} {d : StD} {D : Ends} {rho : Ev} {mu : Mem} {σ : L2.St} {H : Hp} {m : List Addr} {Own : Addr → Prop} (S : StR G rho mu σ H m Own) (h : SOk G W D m Own H (d rho mu)) : TSx G W d D σ H := ⟨rho, mu, m, Own, S, h⟩

section
variable {X : Cx} {G : Fr} {W : WX} {pos pos' : Pos} {e : Expr} {d : EvD} {st : Stmt} {rest : List Stmt} {a b : StD}
theorem s_nil : PSs X [] (TSx G W sNx) := PSsw pss_nil fun D σ H ⟨rho, mu, m, Own, S, h⟩ => h σ H m Own Le.refl S
theorem s_pass : PS X (.Pass pos) (TSx G W sNx) := PSw ps_pass fun D σ H ⟨rho, mu, m, Own, S, h⟩ => h σ H m Own Le.refl S
theorem s_bk : PS X (.Break pos) (TSx G W sBk) := PSw ps_break fun D σ H ⟨rho, mu, m, Own, S, h⟩ => h σ H m Own Le.refl S
theorem s_ct : PS X (.Continue pos) (TSx G W sCt) := PSw ps_continue fun D σ H ⟨rho, mu, m, Own, S, h⟩ => h σ H m Own Le.refl S
theorem s_one (h : PS X st (TSx G W a)) : PSs X [st] (TSx G W a) := pss_one h
theorem s_cons (h1 : PS X st (TSx G W a)) (h2 : PSs X rest (TSx G W b)) : PSs X (st :: rest) (TSx G W (sSeq a b)) := by
  refine PSsw (pss_cons h1 h2) fun D σ H ⟨rho, mu, m, Own, S, h⟩ => tsx_mk S ?_
  unfold sSeq at h
  cases e : a rho mu with
  | nx r u => rw [e] at h; exact fun σ' H' m' O' g S' => tsx_mk S' (h.step g)
  | rt z u => rw [e] at h; exact h
  | bk r u => rw [e] at h; exact h
  | ct r u => rw [e] at h; exact h
  | exc x r u => rw [e] at h; exact h
  | bad => rw [e] at h; exact h
theorem s_never : PS X st (TSx G W fun _ _ => .bad) := PSw (st_never : PS X st tNever) fun D σ H ⟨rho, mu, m, Own, S, h⟩ => h
  where st_never : PS X st tNever := ps_never
theorem s_doc {x : Str} {j : Nat} : PS X (.Expr (.Constant (.str x) j pos) pos') (TSx G W sNx) := PSw ps_doc fun D σ H ⟨rho, mu, m, Own, S, h⟩ => h σ H m Own Le.refl S
theorem s_do (he : PE X e (TEx G W d)) (hs : swapsWith e none pos.line X.env = pure false := by rfl) : PS X (.Expr e pos) (TSx G W (sDo d)) := by
  refine PSw (ps_expr he hs) fun D σ H ⟨rho, mu, m, Own, S, h⟩ => TEx.to S (use_wp (σ := σ) h) fun z mu1 v H1 m1 h1 g1 S1 r1 => h1 σ H1 m1 Own (g1.le _) S1
theorem s_ret (he : PE X e (TEx G W d)) : PS X (.Return (some e) pos) (TSx G W (sRet d)) := by
  refine PSw (ps_ret he) fun D σ H ⟨rho, mu, m, Own, S, h⟩ => TEx.to S (use_wp (σ := σ) h) fun z mu1 v H1 m1 h1 g1 S1 r1 => ret_ok S h1 S1 r1
theorem s_retN : PS X (.Return none pos) (TSx G W sRetN) := PSw ps_retN fun D σ H ⟨rho, mu, m, Own, S, h⟩ => ret_ok S h S .non
theorem s_set {i : Nat} {x : Str} (he : PE X e (TEx G W d)) (hN : X.N.Nodup) (hi : X.N[i]? = some x := by rfl) (hx : Loc X.env.scope x := by first | exact Or.inl rfl | exact Or.inr rfl) (hs : swapsWith e (some (.Name x pos')) pos.line X.env = pure false := by rfl)
    (hf : X.fn x = true ∨ X.env.scope.names.lookup x = some .local := by first | exact .inl rfl | exact .inr rfl) : PS X (.Assign [.Name x pos'] e pos) (TSx G W (sSet i d)) := by
  refine PSw (ps_set hN hi hx he hs hf) fun D σ H ⟨rho, mu, m, Own, S, h⟩ => TEx.to S (use_wp (σ := σ) h) fun z mu1 v H1 m1 h1 g1 S1 r1 => h1 _ H1 m1 Own (g1.le _) (S1.setv i r1)
theorem s_if {t : EvT} {c : Expr} {xs ys : List Stmt} (hc : PT X c (TTx G W t)) (ha : PSs X xs (TSx G W a)) (hb : PSs X ys (TSx G W b)) : PS X (.If c xs ys pos) (TSx G W (sIf t a b)) := by
  refine PSw (ps_if hc ha hb) fun D σ H ⟨rho, mu, m, Own, S, h⟩ => TTx.to S (use_wp (σ := σ) h) fun k mu1 H1 m1 h1 g1 S1 => ?_
  cases k with
  | true => exact tsx_mk S1 (SOk.step (g1.le _) h1)
  | false => exact tsx_mk S1 (SOk.step (g1.le _) h1)
theorem TTx.mono {t : EvT} {σ : L2.St} {H : Hp} {Q Q' : Bool → Hp → Prop} (h : ∀ b H1, Q b H1 → Q' b H1) : TTx G W t σ H Q → TTx G W t σ H Q' := fun ⟨rho, mu, m, Own, S, q⟩ => by
  refine ⟨rho, mu, m, Own, S, ?_⟩
  cases e : t rho mu with
  | ok z u => rw [e] at q; exact fun H' m' g S' => h _ _ (q H' m' g S')
  | exc x u => rw [e] at q; exact q
  | bad => rw [e] at q; exact q
theorem s_while {t : EvT} {c : Expr} {xs : List Stmt} (n : Nat) (hp : PassesOwn (model X.prog X.w) X.A X.env X.xe) (hc : PT X c (TTx G W t)) (hb : PSs X xs (TSx G W b)) : PS X (.While c xs [] pos) (TSx G W (sWhile t b n)) := by
  refine PSw (ps_while hp hc hb) fun D σ H ⟨rho, mu, m, Own, S, h⟩ => ?_
  refine ⟨fun k σ' H' => ∃ rho' mu' m' Own', Le m (G.bar Own) H m' (G.bar Own') H' ∧ StR G rho' mu' σ' H' m' Own' ∧ SOk G W D m' Own' H' (sWhile t b k rho' mu'), ⟨n, rho, mu, m, Own, Le.refl, S, h⟩, ?_⟩
  rintro k σ1 H1 ⟨rho1, mu1, m1, O1, g1, S1, h1⟩
  cases k with
  | zero => exact h1.elim
  | succ k =>
    refine TTx.to S1 (use_wp (σ := σ1) h1) fun tv mu2 H2 m2 h2 g2 S2 => ?_
    cases tv with
    | false => exact h2 σ1 H2 m2 O1 (g2.le _) S2
    | true =>
      refine ⟨fun σ' H' => ∃ rho' mu' m' Own', Le m (G.bar Own) H m' (G.bar Own') H' ∧ StR G rho' mu' σ' H' m' Own' ∧ SOk G W D m' Own' H' (sWhile t b k rho' mu'), fun σ' H' z => ⟨k, Nat.lt_succ_self k, z⟩, ?_⟩
      have h3 := SOk.step (g2.le (G.bar O1)) h2
      refine tsx_mk S2 ?_
      simp only [if_true] at h3
      cases e : b rho1 mu2 with
      | nx r u => rw [e] at h3; exact fun σ' H' m' O' g S' => ⟨r, u, m', O', g1.trans ((g2.le _).trans g), S', h3.step g⟩
      | ct r u => rw [e] at h3; exact fun σ' H' m' O' g S' => ⟨r, u, m', O', g1.trans ((g2.le _).trans g), S', h3.step g⟩
      | bk r u => rw [e] at h3; exact h3
      | rt z u => rw [e] at h3; exact h3
      | exc x r u => rw [e] at h3; exact h3
      | bad => rw [e] at h3; exact h3

/-! ### targets -/
def bName (i : Nat) : Da → Ev → Option Ev := fun d rho => some (rho.set i (.val d))
def bNames : List Nat → List Da → Ev → Option Ev
  | [], [], rho => some rho
  | i :: is, d :: ds, rho => bNames is ds (rho.set i (.val d))
  | _, _, _ => none
def bTup (is : List Nat) : Da → Ev → Option Ev
  | .tup ds, rho => bNames is ds rho
  | _, _ => none
/-- a target that stores at the slots is -/
def TGx (G : Fr) (is : List Nat) (bd : Da → Ev → Option Ev) : TG := fun v σ H Q => ∃ d rho rho' mu m Own, StR G rho mu σ H m Own ∧ RD m (G.bar Own) H d v ∧ bd d rho = some rho' ∧ ∀ σ', StR G rho' mu σ' H m Own → wipe σ' is = wipe σ is → Q σ' H
theorem wipe_set_mem {σ : L2.St} {i : Nat} {o : Option V} : ∀ {is : List Nat}, i ∈ is → wipe (σ.set i o) is = wipe σ is
  | j :: is, h => by
    unfold wipe
    by_cases hj : i = j
    · subst hj
      by_cases hm : i ∈ is
      · rw [wipe_set_mem hm]
      · have key : ∀ {is : List Nat}, i ∉ is → wipe (σ.set i o) is = (wipe σ is).set i o := by
          intro is
          induction is with
          | nil => intro _; rfl
          | cons k r ih =>
            intro hk
            unfold wipe
            rw [ih (fun z => hk (List.mem_cons_of_mem _ z)), List.set_comm _ _ (fun z => hk (by rw [z]; simp))]
        rw [key hm, List.set_set]
    · rw [wipe_set_mem (List.mem_of_ne_of_mem hj h)]
theorem PGw {X : Cx} {tg : Expr} {t t' : TG} (h : PG X tg t) (w : ∀ v σ H Q, t' v σ H Q → t v σ H Q) : PG X tg t' := ⟨fun pins s σ H v u Q I r q => h.run pins s σ H v u Q I r (w v σ H Q q)⟩
theorem g_name {i : Nat} {x : Str} (hN : X.N.Nodup) (hi : X.N[i]? = some x := by rfl) (hx : Loc X.env.scope x := by first | exact Or.inl rfl | exact Or.inr rfl) (hf : X.fn x = true ∨ X.env.scope.names.lookup x = some .local := by first | exact .inl rfl | exact .inr rfl) :
    PG X (.Name x pos) (TGx G [i] (bName i)) := PGw (pg_name hN hi hx hf) fun v σ H Q ⟨d, rho, rho', mu, m, Own, S, r, e, q⟩ => by
  cases e
  exact q _ (S.setv i r) (wipe_set_mem (by simp))
/-- the names of a tuple target, from the left -/
def gNames : List Nat → TGs
  | [] => gNil
  | i :: is => gCons (gName i) (gNames is)
theorem gNames_ok {is0 : List Nat} : ∀ {is : List Nat} {ds : List Da} {vs : List V} {rho rho' : Ev} {mu : Mem} {σ : L2.St} {H : Hp} {m : List Addr} {Own : Addr → Prop} {Q : L2.St → Hp → Prop}, (∀ i ∈ is, i ∈ is0) → StR G rho mu σ H m Own → RDs m (G.bar Own) H ds vs → bNames is ds rho = some rho' →
    (∀ σ', StR G rho' mu σ' H m Own → wipe σ' is0 = wipe σ is0 → Q σ' H) → gNames is vs σ H Q
  | [], _, _, _, _, _, _, _, _, _, _, _, S, .nil, e, q => by
    cases e
    exact ⟨rfl, q _ S rfl⟩
  | [], _, _, _, _, _, _, _, _, _, _, _, _, .cons _ _, e, _ => by cases e
  | _ :: _, _, _, _, _, _, _, _, _, _, _, _, _, .nil, e, _ => by cases e
  | i :: is, _, _, rho, rho', mu, σ, H, m, Own, Q, hm, S, .cons r t, e, q => by
    refine ⟨_, _, rfl, ?_⟩
    exact gNames_ok (fun j hj => hm j (List.mem_cons_of_mem _ hj)) (S.setv i r) t e fun σ' S' w => q σ' S' (w.trans (wipe_set_mem (hm i (by simp))))
theorem g_tup {es : List Expr} {k : Nat} {is : List Nat} (hc : X.calm = true) (h : PGs X es (gNames is)) (hl : (assignEach es X.env).length = is.length := by rfl) (hst : (assignEach es X.env).findIdx? (·.1) = none := by rfl) : PG X (.Tuple es k pos) (TGx G is (bTup is)) := by
  refine PGw (pg_tup hc h hl hst) fun v σ H Q ⟨d, rho, rho', mu, m, Own, S, r, e, q⟩ => ?_
  cases r with
  | tup a1 a2 a3 a4 =>
    refine ⟨_, _, rfl, SqT.of a3, ?_, gNames_ok (is0 := is) (fun _ h => h) S a4 e q⟩
    rw [← a4.length]
    have len : ∀ {is : List Nat} {ds : List Da} {rho rho' : Ev}, bNames is ds rho = some rho' → ds.length = is.length := by
      intro is
      induction is with
      | nil => intro ds rho rho' e; cases ds with | nil => rfl | cons _ _ => cases e
      | cons i is ih => intro ds rho rho' e; cases ds with | nil => cases e | cons _ ds => exact congrArg Nat.succ (ih e)
    exact len e
  | _ => cases e
theorem gs_nil : PGs X [] (gNames []) := pgs_nil
theorem gs_cons {x : Str} {es : List Expr} {i : Nat} {is : List Nat} (h : PGs X es (gNames is)) (hN : X.N.Nodup) (hi : X.N[i]? = some x := by rfl) (hx : Loc X.env.scope x := by first | exact Or.inl rfl | exact Or.inr rfl) (hf : X.fn x = true ∨ X.env.scope.names.lookup x = some .local := by first | exact .inl rfl | exact .inr rfl)
    (hs : (assignEach (.Name x pos :: es) X.env).map (·.2) = assign (.Name x pos) X.env :: (assignEach es X.env).map (·.2) := by rfl) : PGs X (.Name x pos :: es) (gNames (i :: is)) := pgs_cons (pg_name hN hi hx hf) h hs

/-! ### what is walked -/
/-- J walks the items, wherever what is read stands -/
def Walks (J : It) (items : List Da) (m : List Addr) (B : Addr → Prop) (H : Hp) : Prop := ∀ m2 B2 H2, Le m B H m2 B2 H2 → (∀ p, H2 p = none → p ∉ m2 ∧ ¬ B2 p) →
  (∀ i d, items[i]? = some d → J.go i H2 ∧ ∀ x H3, J.yld i H2 x H3 → Same H2 H3 ∧ RD m2 B2 H3 d x) ∧ J.stop items.length H2
def TIx (G : Fr) (W : WX) (d : EvI) : TI := fun σ H R => ∃ rho mu m Own, StR G rho mu σ H m Own ∧ (d rho mu).wp (fun items mu' => ∀ J H' m', Lf m H m' H' → StR G rho mu' σ H' m' Own → Walks J items m' (G.bar Own) H' → R J H') (ES G W rho σ Own m H)
theorem PIw {X : Cx} {tg it : Expr} {t t' : TI} (h : PI X tg it t) (w : ∀ σ H R, t' σ H R → t σ H R) : PI X tg it t' := ⟨fun pins s σ H R I q => h.run pins s σ H R I (w σ H R q)⟩
def iSeq (e : EvD) : EvI := fun rho mu => bnd (e rho mu) fun d mu' => match d with
  | .lst xs => .ok xs mu'
  | .tup xs => .ok xs mu'
  | _ => .bad
def iLst (e : EvD) : EvI := fun rho mu => bnd (e rho mu) fun d mu' => match d with
  | .lst xs => .ok xs mu'
  | _ => .bad
def iTp (e : EvD) : EvI := fun rho mu => bnd (e rho mu) fun d mu' => match d with
  | .tup xs => .ok xs mu'
  | _ => .bad
theorem walks_list {K : PySem.W.Frag} {a : Addr} {xs : List Da} {us : List V} {m : List Addr} {B : Addr → Prop} {H : Hp} (h1 : a ∉ m) (h2 : ¬ B a) (h3 : H a = some (.lst us)) (h4 : RDs m B H xs us) : Walks (Itl K a) xs m B H := by
  intro m2 B2 H2 g _
  obtain ⟨k1, k2, k3⟩ := g.rd h3 (fun _ z => nomatch z) h1 h2
  have r := RDs.mono g h4
  refine ⟨fun i d e => ?_, us, SqL.of k1, by rw [r.length]; exact Nat.le_refl _⟩
  obtain ⟨v, ev, rv⟩ := r.get e
  refine ⟨⟨us, v, SqL.of k1, ev⟩, fun x H3 ⟨eq, y⟩ => ?_⟩
  subst eq
  have := y us (SqL.of k1)
  rw [ev] at this
  cases this
  exact ⟨Same.refl _, rv⟩
theorem walks_tup {K : PySem.W.Frag} {a : Addr} {xs : List Da} {us : List V} {m : List Addr} {B : Addr → Prop} {H : Hp} (h1 : a ∉ m) (h2 : ¬ B a) (h3 : H a = some (.tup us)) (h4 : RDs m B H xs us) : Walks (Itt K a) xs m B H := by
  intro m2 B2 H2 g _
  obtain ⟨k1, k2, k3⟩ := g.rd h3 (fun _ z => nomatch z) h1 h2
  have r := RDs.mono g h4
  refine ⟨fun i d e => ?_, us, SqT.of k1, by rw [r.length]; exact Nat.le_refl _⟩
  obtain ⟨v, ev, rv⟩ := r.get e
  refine ⟨⟨us, v, SqT.of k1, ev⟩, fun x H3 ⟨eq, y⟩ => ?_⟩
  subst eq
  have := y us (SqT.of k1)
  rw [ev] at this
  cases this
  exact ⟨Same.refl _, rv⟩
theorem i_list {tg l : Expr} (hl : PE X l (TEx G W d)) : PI X tg l (TIx G W (iLst d)) := by
  refine PIw (pi_list hl) fun σ H R ⟨rho, mu, m, Own, S, h⟩ => TEx.to S (wp_bnd h) fun z mu1 v H1 m1 h1 g1 S1 r1 => ?_
  cases r1 with
  | lst a1 a2 a3 a4 => exact ⟨_, rfl, ⟨_, SqL.of a3⟩, h1 _ H1 m1 g1 S1 (walks_list a1 a2 a3 a4)⟩
  | _ => exact h1.elim
theorem i_tup {tg l : Expr} (hl : PE X l (TEx G W d)) : PI X tg l (TIx G W (iTp d)) := by
  refine PIw (pi_tup hl) fun σ H R ⟨rho, mu, m, Own, S, h⟩ => TEx.to S (wp_bnd h) fun z mu1 v H1 m1 h1 g1 S1 r1 => ?_
  cases r1 with
  | tup a1 a2 a3 a4 => exact ⟨_, rfl, ⟨_, SqT.of a3⟩, h1 _ H1 m1 g1 S1 (walks_tup a1 a2 a3 a4)⟩
  | _ => exact h1.elim
/-- range -/
def rngD (lo : Int) : Nat → List Da
  | 0 => []
  | n + 1 => .int lo :: rngD (lo + 1) n
theorem rngD_get (n : Nat) : ∀ (lo : Int) (i : Nat), (rngD lo n)[i]? = if i < n then some (.int (lo + i)) else none := by
  induction n with
  | zero => intro lo i; simp [rngD]
  | succ n ih =>
    intro lo i
    cases i with
    | zero => simp [rngD]
    | succ i =>
      show (rngD (lo + 1) n)[i]? = _
      rw [ih]
      by_cases h : i < n
      · rw [if_pos h, if_pos (by omega)]
        congr 2
        omega
      · rw [if_neg h, if_neg (by omega)]
theorem rngD_len (n : Nat) : ∀ lo : Int, (rngD lo n).length = n := by
  induction n with
  | zero => intro _; rfl
  | succ n ih => intro lo; exact congrArg Nat.succ (ih _)
def iRng1 (a : Ev → Mem → Out (List Da)) : EvI := fun rho mu => bnd (a rho mu) fun xs mu' => match xs with
  | [.int j] => if -(2 ^ 62) ≤ j ∧ j < 2 ^ 62 then .ok (rngD 0 j.toNat) mu' else .bad
  | _ => .bad
def iRng2 (a : Ev → Mem → Out (List Da)) : EvI := fun rho mu => bnd (a rho mu) fun xs mu' => match xs with
  | [.int i, .int j] => if -(2 ^ 62) ≤ i ∧ i < 2 ^ 62 ∧ -(2 ^ 62) ≤ j ∧ j < 2 ^ 62 then .ok (rngD i (j - i).toNat) mu' else .bad
  | _ => .bad
theorem walks_rng {lo : Int} {n : Nat} {m : List Addr} {B : Addr → Prop} {H : Hp} : Walks (Itr lo n) (rngD lo n) m B H := by
  intro m2 B2 H2 g _
  refine ⟨fun i d e => ?_, by rw [rngD_len]; exact Nat.le_refl _⟩
  rw [rngD_get] at e
  by_cases h : i < n
  · rw [if_pos h] at e
    cases e
    refine ⟨h, fun x H3 ⟨e1, e2⟩ => ?_⟩
    subst e1 e2
    exact ⟨Same.refl _, .int _⟩
  · rw [if_neg h] at e; cases e
theorem i_rng1 {tg x : Expr} {r : Ev → Mem → Out (List Da)} {p : Pos} (hm : X.mg "range" = none) (ha : PA X [x] (TAx G W r)) (hg : Gl X "range" := by rfl) (hs : starEach [x] X.env = [(false, eval x X.env)] := by rfl) : PI X tg (.Call (.Name "range" p) [x] [] pos) (TIx G W (iRng1 r)) := by
  refine PIw (pi_range1 hg hm ha hs) fun σ H R ⟨rho, mu, m, Own, S, h⟩ => TAx.to S (wp_bnd h) fun z mu1 v H1 m1 h1 g1 S1 r1 => ?_
  match z, r1, h1 with
  | [.int j], .cons (.int _) .nil, h1 =>
    by_cases hj : -(2 ^ 62) ≤ j ∧ j < 2 ^ 62
    · simp only [if_pos hj] at h1
      exact ⟨j, rfl, hj.1, hj.2, h1 _ H1 m1 g1 S1 walks_rng⟩
    · simp only [if_neg hj] at h1
      exact h1.elim
theorem i_rng2 {tg x y : Expr} {r : Ev → Mem → Out (List Da)} {p : Pos} (hm : X.mg "range" = none) (ha : PA X [x, y] (TAx G W r)) (hg : Gl X "range" := by rfl) (hs : starEach [x, y] X.env = [(false, eval x X.env), (false, eval y X.env)] := by rfl) (hs2 : starEach [y] X.env = [(false, eval y X.env)] := by rfl) :
    PI X tg (.Call (.Name "range" p) [x, y] [] pos) (TIx G W (iRng2 r)) := by
  refine PIw (pi_range2 hg hm ha hs hs2) fun σ H R ⟨rho, mu, m, Own, S, h⟩ => TAx.to S (wp_bnd h) fun z mu1 v H1 m1 h1 g1 S1 r1 => ?_
  match z, r1, h1 with
  | [.int i, .int j], .cons (.int _) (.cons (.int _) .nil), h1 =>
    by_cases hj : -(2 ^ 62) ≤ i ∧ i < 2 ^ 62 ∧ -(2 ^ 62) ≤ j ∧ j < 2 ^ 62
    · simp only [if_pos hj] at h1
      exact ⟨i, j, rfl, hj, h1 _ H1 m1 g1 S1 walks_rng⟩
    · simp only [if_neg hj] at h1
      exact h1.elim

/-! ### for -/
theorem s_for {tg it : Expr} {xs : List Stmt} {di : EvI} {is : List Nat} {bd : Da → Ev → Option Ev} (hp : PassesOwn (model X.prog X.w) X.A X.env X.xe) (hi : PI X tg it (TIx G W di)) (hg : PG X tg (TGx G is bd)) (hb : PSs X xs (TSx G W b)) (hc : X.calm = true := by rfl)
    (hs : ∀ x, foldedSetIterable it X.env x = pure x := by intro _; rfl) : PS X (.For tg it xs [] pos) (TSx G W (sFor di bd b)) := by
  refine PSw (ps_for hp hc hi hg hb hs) fun D σ H ⟨rho, mu, m, Own, S, h⟩ => ?_
  refine ⟨rho, mu, m, Own, S, wp_and (use_wp (σ := σ) h) fun items mu1 h1 J H1 m1 g1 S1 wk => ?_⟩
  refine ⟨fun i k σ' H' => k = items.length - i ∧ i ≤ items.length ∧ ∃ rho' mu' m' Own', Le m1 (G.bar Own) H1 m' (G.bar Own') H' ∧ StR G rho' mu' σ' H' m' Own' ∧ SOk G W D m' Own' H' (sLoop bd b (items.drop i) rho' mu'),
    ⟨items.length, by simp, Nat.zero_le _, rho, mu1, m1, Own, Le.refl, S1, by simpa using SOk.step (g1.le (G.bar Own)) h1⟩, ?_⟩
  rintro i k σ2 H2 ⟨rfl, hi, rho2, mu2, m2, O2, g2, S2, h2⟩
  obtain ⟨w1, w2⟩ := wk m2 _ H2 g2 fun p hp => S2.fresh hp
  by_cases hlt : i < items.length
  · have ed : items[i]? = some items[i] := List.getElem?_eq_getElem hlt
    have edrop : items.drop i = items[i] :: items.drop (i + 1) := List.drop_eq_getElem_cons hlt
    obtain ⟨k1, k2⟩ := w1 i _ ed
    rw [edrop] at h2
    refine .inr ⟨k1, fun σ' H' => ∃ rho' mu' m' Own', Le m1 (G.bar Own) H1 m' (G.bar Own') H' ∧ StR G rho' mu' σ' H' m' Own' ∧ SOk G W D m' Own' H' (sLoop bd b (items.drop (i + 1)) rho' mu'), fun σ' H' z => ⟨items.length - (i + 1), by omega, rfl, hlt, z⟩, fun x H3 y => ?_⟩
    obtain ⟨sm, rx⟩ := k2 x H3 y
    unfold sLoop at h2
    cases eb : bd items[i] rho2 with
    | none => rw [eb] at h2; exact h2.elim
    | some rho3 =>
      rw [eb] at h2
      refine ⟨items[i], rho2, rho3, mu2, m2, O2, S2.same sm, rx, eb, fun σ3 S3 _ => tsx_mk S3 ?_⟩
      have gs : Le m2 (G.bar O2) H2 m2 (G.bar O2) H3 := (Lf.of_same sm).le _
      have h3 := SOk.step gs h2
      dsimp only at h3
      cases e : b rho3 mu2 with
      | nx r u => rw [e] at h3; exact fun σ' H' m' O' g S' => ⟨r, u, m', O', g2.trans (gs.trans g), S', h3.step g⟩
      | ct r u => rw [e] at h3; exact fun σ' H' m' O' g S' => ⟨r, u, m', O', g2.trans (gs.trans g), S', h3.step g⟩
      | bk r u => rw [e] at h3; exact h3
      | rt z u => rw [e] at h3; exact h3
      | exc x r u => rw [e] at h3; exact h3
      | bad => rw [e] at h3; exact h3
  · rw [List.drop_eq_nil_of_le (Nat.not_lt.mp hlt)] at h2
    have ei : i = items.length := Nat.le_antisymm hi (Nat.not_lt.mp hlt)
    exact .inl ⟨by rw [ei]; exact w2, h2 σ2 H2 m2 O2 Le.refl S2⟩
end
end Sk

/-! Sk F: enumerate over lists and tuples. -/
namespace Sk
open PySem PySem.Spec L2

theorem PI_or {X : Cx} {tg it : Expr} {t1 t2 : TI} (h1 : PI X tg it t1) (h2 : PI X tg it t2) : PI X tg it (fun σ H R => t1 σ H R ∨ t2 σ H R) := ⟨fun pins s σ H R I q => q.elim (h1.run pins s σ H R I) (h2.run pins s σ H R I)⟩

/-! ### enumerate(tuple) -/
theorem enumT_new (l : Addr) (its : Array Value) (k : Nat) (dd : Option Addr) (sl : Array (Option Value)) :
    Meets (Builtin.«enumerate.__new__» ⟨[.type "enumerate", .ref l], []⟩) (fun _ R s => s.heap.get? l = some { cls := .type "tuple", dict := dd, data := .seq its k, slots := sl } ∧
      R (.ok (.ret (.ref (s.heap.push { cls := .type "tuple_iterator", data := .fields #[.ref l, .int 0 0] }).objs.size)))
        { s with heap := (s.heap.push { cls := .type "tuple_iterator", data := .fields #[.ref l, .int 0 0] }).push { cls := .type "enumerate", data := .fields #[.none, .bool false, .ref s.heap.objs.size, rawInt 0, .none, .none] } }) :=
  .of_wp fun prog w A R s h => by
    obtain ⟨hp, gs, dr, tk, os⟩ := s
    obtain ⟨hl, h⟩ := h
    have isE := sub_enumerate
    have isT : Heap.IsTuple (Shared.heap ⟨hp, gs, dr, tk, os⟩) l its := ⟨_, hl, rfl, k, rfl⟩
    wp_walk using AutoSeq1.wpAny_loadPart' hl
    refine wpAny_stack_any fun st => wpAny_pure ?_
    split
    · rename_i c _ _ _ _ _
      cases (c == Value.type "enumerate") <;> (wp_walk using AutoSeq1.wpAny_loadPart' hl, wpAny_pyIter_tuple isT; exact ⟨_, rfl, h⟩)
    · wp_walk using AutoSeq1.wpAny_loadPart' hl, wpAny_pyIter_tuple isT
      exact ⟨_, rfl, h⟩
section
variable {prog : Program} {w : World} {A : Around} {E : Value → Shared → Prop} {s : Shared}
theorem call_enumT {l : Addr} {its : Array Value} {Q : Value → Shared → Prop} (ht : s.heap.IsTuple l its)
    (h : ∀ h', IsEnum h' (s.heap.objs.size + 1) s.heap.objs.size 0 .none → h'.IsTupleIter s.heap.objs.size l 0 → (∀ b o, s.heap.get? b = some o → h'.get? b = some o) → Q (.ref (s.heap.objs.size + 1)) { s with heap := h' }) :
    wpAny (model prog w) A (call (.type "enumerate") [.ref l]) Q E s := by
  obtain ⟨⟨c, dd, dt, sl⟩, hl, hc, k, hd⟩ := ht
  simp only at hc hd
  subst hc hd
  refine callType_new F.called_enumerate (by decide) (F.typeCall_enumerate_1 _) (F.newCall_enumerate_1 _) (fun obj => F.args_object_init_2 obj _) F.entry_enumerate_new (enumT_new l its k dd sl) ⟨hl, ?_⟩
  have size1 : (s.heap.push { cls := .type "tuple_iterator", data := .fields #[.ref l, .int 0 0] }).objs.size = s.heap.objs.size + 1 := Heap.size_push ..
  have at1 := Heap.get?_push_size (s.heap.push { cls := .type "tuple_iterator", data := .fields #[.ref l, .int 0 0] }) (o := { cls := .type "enumerate", data := .fields #[.none, .bool false, .ref s.heap.objs.size, rawInt 0, .none, .none] }) rfl
  rw [size1] at at1
  show _ ∧ _
  rw [size1]
  exact ⟨⟨_, at1, rfl⟩, h _ at1 ⟨_, Heap.get?_push_of_some _ (Heap.get?_push_size _ rfl), rfl, rfl⟩ fun b o q => Heap.get?_push_of_some _ (Heap.get?_push_of_some _ q)⟩
end
/-- the tuple at a, each item in a new pair -/
def IteT (K : PySem.W.Frag) (a : Addr) : It where
  go := fun i H => ∃ (xs : List V) (x : V), SqT K H a xs ∧ xs[i]? = some x
  yld := fun i H v H' => ∃ T x, v = .ref T ∧ H T = none ∧ H' = upd H T (.tup [.int (i : Nat), x]) ∧ ∀ xs, SqT K H a xs → xs[i]? = some x
  stop := fun i H => ∃ xs : List V, SqT K H a xs ∧ xs.length = i
theorem turnT {P : Program} {w : World} {K : PySem.W.Frag} {elts : List Expr} {kk : Nat} {tpos : Pos} (a e it : Addr) :
    Turn P w K (.Tuple elts kk tpos) (IteT K a) [e, it] e (fun i h => (∃ old, IsEnum h e it ((i : Nat) : Int) old) ∧ h.IsTupleIter it a i ∧ e ≠ it) where
  mem := by simp
  obj := fun i h st b hb => by
    obtain ⟨⟨old, he⟩, ⟨o, ho, hc, hd⟩, _⟩ := st
    rcases (show b = e ∨ b = it by simpa using hb) with rfl | rfl
    · exact ⟨_, he, fun v q => nomatch q⟩
    · exact ⟨o, ho, fun v q => by rw [hd] at q; cases q⟩
  keep := fun i h h' st k => let ⟨⟨old, he⟩, hi, hne⟩ := st; ⟨⟨old, k e (by simp) _ he⟩, hi.at fun o q => k it (by simp) o q, hne⟩
  item := by
    intro X hP hw hK hc i pins s σ H E I hf st hg
    subst hP hw hK
    obtain ⟨⟨old, he⟩, hit, hne⟩ := st
    obtain ⟨xs, x, hq, hx⟩ := hg
    obtain ⟨its, rv, p, hz⟩ := I.tuple hq
    obtain ⟨u, hu, ru⟩ := rv.get hx
    have hel : e < s.heap.objs.size := Heap.lt_size he
    have hil : it < s.heap.objs.size := by obtain ⟨_, q, _⟩ := hit; exact Heap.lt_size q
    have nea : e ≠ a := fun z => by
      obtain ⟨o, ho, hcl, _⟩ := p
      subst z
      have q : s.heap.get? e = some _ := he
      rw [ho] at q; cases q
      injection hcl with hcl
      exact absurd hcl (by decide)
    have nia : a ≠ it := fun z => by
      obtain ⟨o, ho, hcl, _⟩ := p
      obtain ⟨o', ho', hcl', _⟩ := hit
      subst z
      rw [ho] at ho'; cases ho'; rw [hcl] at hcl'
      injection hcl' with hcl'
      exact absurd hcl' (by decide)
    have lt : i < its.toArray.size := by rw [List.size_toArray]; exact (List.getElem?_eq_some_iff.mp hu).1
    refine wpAny_pyNext_enum_itemD (Draws.tuple (A := X.A.in1) (show X.A.in1.handled = none from I.ok.hd hc) it a nia its.toArray) he ⟨hit, p⟩ lt hne (show e ∉ [it, a] by simp [hne, nea]) fun y h' tk hy ho hst hT hsz hk => ?_
    have ey : y = u := by
      have q : its.toArray[i]? = some y := hy
      rw [List.getElem?_toArray] at q
      rw [hu] at q
      exact (Option.some.inj q).symm
    subst ey
    refine ⟨_, rfl, wpAny_letOwnedTupleGo_enum (s := { s with heap := h', toks := tk + 1 }) ho fun h2 he2 sb => ?_⟩
    have hT2 := (sb.2 s.heap.objs.size (Nat.ne_of_gt hel)).trans hT
    have laid : ObjOk X.prog X.w (upd H s.heap.objs.size (.tup [.int (i : Nat), x])) h2 s.heap.objs.size (.tup [.int (i : Nat), x]) := ⟨by show 2 ≤ sizeLine; decide, [.int i tk, y], .cons ⟨_, rfl⟩ (.cons ru .nil), ⟨_, hT2, rfl, _, rfl⟩⟩
    have I1 : Inv X pins σ (upd H s.heap.objs.size (.tup [.int (i : Nat), x])) { s with heap := h2, toks := tk + 1 } :=
      I.turnedNew (ch := [e, it]) (fun b ob hb q => (sb.2 b fun z => hb (by simp [z])).trans (hk b ob (fun z => hb (by simp [z])) (fun z => hb (by simp [z])) q)) hf (Nat.le_refl _) laid
    have next : ((i + 1 : Nat) : Int) = (i : Int) + 1 := by omega
    refine ⟨.ref s.heap.objs.size, _, I1, rfl, ⟨_, x, rfl, I.hok.fresh (Nat.le_refl _), rfl, fun ys hy => by rw [I.tuple_inj hy hq]; exact hx⟩, ⟨⟨y, by rw [next]; exact he2⟩, hst.1.at fun o q => (sb.2 it (Ne.symm hne)).trans q, hne⟩, fun b hb => ?_⟩
    have low : b < s.heap.objs.size := by
      rcases (show b = e ∨ b = it by simpa using hb) with rfl | rfl
      · exact hel
      · exact hil
    rw [upd_ne (Nat.ne_of_lt low)]
    exact (hf b hb).1
  done := by
    intro X hP hw hK hc i pins s σ H E I hf st hg
    subst hP hw hK
    obtain ⟨⟨old, he⟩, hit, hne⟩ := st
    obtain ⟨xs, hq, hx⟩ := hg
    obtain ⟨its, rv, p, hz⟩ := I.tuple hq
    obtain ⟨f0, f1, f2, f3, f4, f5⟩ := hf it (by simp)
    have nia : a ≠ it := fun z => by
      obtain ⟨o, ho, hcl, _⟩ := p
      obtain ⟨o', ho', hcl', _⟩ := hit
      subst z
      rw [ho] at ho'; cases ho'; rw [hcl] at hcl'
      injection hcl' with hcl'
      exact absurd hcl' (by decide)
    have len : its.toArray.size = i := by rw [List.size_toArray, ← rv.length]; exact hx
    subst len
    exact wpAny_pyNext_enum_endD (Draws.tuple (A := X.A.in1) (show X.A.in1.handled = none from I.ok.hd hc) it a nia its.toArray) he ⟨hit, p⟩ fun h' eb => ⟨rfl, I.turned (t' := s.toks) (fun b o hb q => eb b o hb q) f0 f1 f3 f4 f5⟩
  self := fun A i s Q E st h => let ⟨⟨_, he⟩, _⟩ := st; wpAny_pyIter_enum he h
def iEnT (K : PySem.W.Frag) (ta : TA) : TI := fun σ H R => ta σ H fun vs H1 => ∃ a xs, vs = [.ref a] ∧ SqT K H1 a xs ∧ R (IteT K a) H1
section
variable {X : Cx} {G : Fr} {W : WX}
theorem pi_enumT {e : Expr} {ta : TA} {p pos tpos : Pos} {elts : List Expr} {kk : Nat} (hg : Gl X "enumerate") (hm : X.mg "enumerate" = none) (ha : PA X [e] ta) (hs : starEach [e] X.env = [(false, eval e X.env)] := by rfl) : PI X (.Tuple elts kk tpos) (.Call (.Name "enumerate" p) [e] [] pos) (iEnT X.K ta) := by
  refine ⟨fun pins s σ H R I h => PyProof.Rows.Call_ (ld_blt I hg hm PyProof.Rows.boot_enumerate (PyProof.Rows.callWith_type1 (thn (ha.run pos pins s σ H _ I h) fun us s1 ⟨vs, H1, I1, r1, a, xs, ex, hq, q⟩ => ?_) hs rfl))⟩
  subst ex
  cases r1 with
  | cons r rr =>
    cases rr
    cases r
    obtain ⟨its, rv, pt, hz⟩ := I1.tuple hq
    refine call_enumT (its := its.toArray) pt fun h' he hit hk => wpAny_pyIter_enum he ?_
    refine ⟨s1.heap.objs.size + 1, [s1.heap.objs.size + 1, s1.heap.objs.size], _, _, H1, rfl, I1.kept (t' := s1.toks) hk, turnT a (s1.heap.objs.size + 1) s1.heap.objs.size, ⟨⟨.none, he⟩, hit, Nat.succ_ne_self _⟩, fun b hb => ?_, q⟩
    have up : s1.heap.objs.size ≤ b := by
      rcases (show b = s1.heap.objs.size + 1 ∨ b = s1.heap.objs.size by simpa using hb) with z | z
      · rw [z]; exact Nat.le_succ _
      · rw [z]; exact Nat.le_refl _
    have J := I1.fpOk (H' := H1) up (I1.hok.fresh up)
    exact J
/-- pairs of number and item -/
def enumD (k : Nat) : List Da → List Da
  | [] => []
  | x :: xs => .tup [.int (k : Int), x] :: enumD (k + 1) xs
theorem enumD_get : ∀ (xs : List Da) (k i : Nat), (enumD k xs)[i]? = (xs[i]?).map fun x => .tup [.int ((k + i : Nat) : Int), x]
  | [], k, i => by simp [enumD]
  | x :: xs, k, 0 => by simp [enumD]
  | x :: xs, k, i + 1 => by
    show (enumD (k + 1) xs)[i]? = _
    rw [enumD_get xs (k + 1) i, show k + 1 + i = k + (i + 1) by omega]
    rfl
theorem enumD_len : ∀ (xs : List Da) (k : Nat), (enumD k xs).length = xs.length
  | [], _ => rfl
  | _ :: xs, k => congrArg Nat.succ (enumD_len xs (k + 1))
def iEnum (r : Ev → Mem → Out (List Da)) : EvI := fun rho mu => bnd (r rho mu) fun xs mu' => match xs with
  | [.lst xs] => .ok (enumD 0 xs) mu'
  | [.tup xs] => .ok (enumD 0 xs) mu'
  | _ => .bad
theorem walks_enL {K : PySem.W.Frag} {a : Addr} {xs : List Da} {us : List V} {m : List Addr} {B : Addr → Prop} {H : Hp} (h1 : a ∉ m) (h2 : ¬ B a) (h3 : H a = some (.lst us)) (h4 : RDs m B H xs us) : Walks (Ite K a) (enumD 0 xs) m B H := by
  intro m2 B2 H2 g fr
  obtain ⟨k1, k2, k3⟩ := g.rd h3 (fun _ z => nomatch z) h1 h2
  have r := RDs.mono g h4
  refine ⟨fun i d e => ?_, us, SqL.of k1, by rw [enumD_len, r.length]; exact Nat.le_refl _⟩
  rw [enumD_get] at e
  cases ex : xs[i]? with
  | none => rw [ex] at e; cases e
  | some x =>
    rw [ex] at e
    cases e
    obtain ⟨v, ev, rv⟩ := r.get ex
    refine ⟨⟨us, v, SqL.of k1, ev⟩, fun y H3 ⟨T, z, e1, hT, e2, k⟩ => ?_⟩
    subst e1 e2
    have q := k us (SqL.of k1)
    rw [ev] at q
    cases q
    refine ⟨same_upd hT, RD.new_tup ?_ hT (fr T hT).1 (fr T hT).2⟩
    rw [Nat.zero_add]
    exact .cons (.int _) (.cons rv .nil)
theorem walks_enT {K : PySem.W.Frag} {a : Addr} {xs : List Da} {us : List V} {m : List Addr} {B : Addr → Prop} {H : Hp} (h1 : a ∉ m) (h2 : ¬ B a) (h3 : H a = some (.tup us)) (h4 : RDs m B H xs us) : Walks (IteT K a) (enumD 0 xs) m B H := by
  intro m2 B2 H2 g fr
  obtain ⟨k1, k2, k3⟩ := g.rd h3 (fun _ z => nomatch z) h1 h2
  have r := RDs.mono g h4
  refine ⟨fun i d e => ?_, us, SqT.of k1, by rw [enumD_len, r.length]⟩
  rw [enumD_get] at e
  cases ex : xs[i]? with
  | none => rw [ex] at e; cases e
  | some x =>
    rw [ex] at e
    cases e
    obtain ⟨v, ev, rv⟩ := r.get ex
    refine ⟨⟨us, v, SqT.of k1, ev⟩, fun y H3 ⟨T, z, e1, hT, e2, k⟩ => ?_⟩
    subst e1 e2
    have q := k us (SqT.of k1)
    rw [ev] at q
    cases q
    refine ⟨same_upd hT, RD.new_tup ?_ hT (fr T hT).1 (fr T hT).2⟩
    rw [Nat.zero_add]
    exact .cons (.int _) (.cons rv .nil)
theorem i_enum {x : Expr} {r : Ev → Mem → Out (List Da)} {p pos tpos : Pos} {elts : List Expr} {kk : Nat} (hm : X.mg "enumerate" = none) (ha : PA X [x] (TAx G W r)) (hg : Gl X "enumerate" := by rfl) (hs : starEach [x] X.env = [(false, eval x X.env)] := by rfl) :
    PI X (.Tuple elts kk tpos) (.Call (.Name "enumerate" p) [x] [] pos) (TIx G W (iEnum r)) := by
  refine PIw (PI_or (pi_enum hg hm ha hs) (pi_enumT hg hm ha hs)) fun σ H R ⟨rho, mu, m, Own, S, h⟩ => ?_
  have h' := wp_bnd h
  cases e : r rho mu with
  | ok z mu1 =>
    rw [e] at h'
    have both : ∀ (P : List Da → Prop), P z → (r rho mu).wp (fun a u => P a ∧ (match a with
        | [.lst xs] => Out.ok (enumD 0 xs) u
        | [.tup xs] => Out.ok (enumD 0 xs) u
        | _ => Out.bad).wp (fun items mu' => ∀ J H' m', Lf m H m' H' → StR G rho mu' σ H' m' Own → Walks J items m' (G.bar Own) H' → R J H') (ES G W rho σ Own m H)) (ES G W rho σ Own m H) := fun P hP => by
      rw [e]; exact ⟨hP, h'⟩
    match z, h', both with
    | [.lst xs], h', both =>
      refine .inl (TAx.to S (both (fun a => a = [.lst xs]) rfl) fun z2 mu2 vs H1 m1 ⟨ez, h1⟩ g1 S1 r1 => ?_)
      subst ez
      cases r1 with
      | cons r1 r2 =>
        cases r2
        cases r1 with
        | lst a1 a2 a3 a4 => exact ⟨_, _, rfl, SqL.of a3, h1 _ H1 m1 g1 S1 (walks_enL a1 a2 a3 a4)⟩
    | [.tup xs], h', both =>
      refine .inr (TAx.to S (both (fun a => a = [.tup xs]) rfl) fun z2 mu2 vs H1 m1 ⟨ez, h1⟩ g1 S1 r1 => ?_)
      subst ez
      cases r1 with
      | cons r1 r2 =>
        cases r2
        cases r1 with
        | tup a1 a2 a3 a4 => exact ⟨_, _, rfl, SqT.of a3, h1 _ H1 m1 g1 S1 (walks_enT a1 a2 a3 a4)⟩
  | exc x mu1 =>
    rw [e] at h'
    exact .inl (TAx.to (A := fun _ _ => False) S (by rw [e]; exact h') fun z2 mu2 vs H1 m1 h1 => h1.elim)
  | bad => rw [e] at h'; exact h'.elim
/-- a list or a tuple -/
theorem i_seq {tg l : Expr} {d : EvD} (hl : PE X l (TEx G W d)) : PI X tg l (TIx G W (iSeq d)) := by
  refine PIw (PI_or (i_list hl) (i_tup hl)) fun σ H R ⟨rho, mu, m, Own, S, h⟩ => ?_
  have h' := wp_bnd h
  cases e : d rho mu with
  | ok z mu1 =>
    rw [e] at h'
    cases z with
    | lst xs => exact .inl ⟨rho, mu, m, Own, S, by unfold iLst; rw [e]; exact h'⟩
    | tup xs => exact .inr ⟨rho, mu, m, Own, S, by unfold iTp; rw [e]; exact h'⟩
    | _ => exact h'.elim
  | exc x mu1 =>
    rw [e] at h'
    exact .inl ⟨rho, mu, m, Own, S, by unfold iLst; rw [e]; exact h'⟩
  | bad => rw [e] at h'; exact h'.elim
end
end Sk

/-! Sk G: lists that are being filled, comprehensions, numbered things. -/
namespace Sk
open PySem PySem.Spec L2

section
variable {G : Fr} {W : WX} {rho : Ev} {mu : Mem} {σ : L2.St} {H H' : Hp} {m : List Addr} {Own : Addr → Prop}
/-- a new object of the frame's own -/
theorem StR.bar1 (S : StR G rho mu σ H m Own) {p : Addr} {o : HO} (hp : H p = none) :
    StR G rho mu σ (upd H p o) m (fun a => Own a ∨ a = p) ∧ Le m (G.bar Own) H m (G.bar (fun a => Own a ∨ a = p)) (upd H p o) := by
  obtain ⟨f1, f2⟩ := S.fresh hp
  have sm : Same H (upd H p o) := same_upd hp
  have S1 := S.same sm
  have g : Le m (G.bar Own) H m (G.bar (fun a => Own a ∨ a = p)) (upd H p o) := by
    refine ⟨⟨[], by simp, by simp⟩, fun a o e _ _ _ => sm a o e, fun a e => sm.free e, fun a z => ?_⟩
    rcases z with z | z | z
    · exact .inl (.inl z)
    · exact .inl (.inr z)
    · subst z; exact .inr hp
  refine ⟨⟨S1.le, ?_, ?_, ?_, S.dj⟩, g⟩
  · refine S.wd.mono g (fun P ps e _ _ => sm P _ e) (fun a _ o e => sm a o e) (fun a z => ?_) fun a ha z => ?_
    · rcases z with z | z | z
      · obtain ⟨o, e⟩ := S.wd.dom a (.inl z); exact ⟨o, sm a o e⟩
      · obtain ⟨o, e⟩ := S.wd.dom a (.inr z); exact ⟨o, sm a o e⟩
      · subst z; exact ⟨_, upd_same⟩
    · rcases z with z | z | z
      · exact S.wd.dis a ha (.inl z)
      · exact S.wd.dis a ha (.inr z)
      · subst z; exact f1 ha
  · refine paired_imp (fun x o z => ?_) S.sl
    cases x with
    | un => trivial
    | val d => obtain ⟨v, e, r⟩ := z; exact ⟨v, e, r.mono g⟩
    | own xs => obtain ⟨a, us, e1, e2, e3, e4⟩ := z; exact ⟨a, us, e1, .inl e2, sm _ _ e3, RDs.mono g e4⟩
  · rintro a (z | z)
    · exact S.ow a z
    · subst z
      exact ⟨S.le.dom a hp, fun z => f2 (.inl z)⟩
/-- no slot holds the frame's own object p -/
def NoSlot (rho : Ev) (σ : L2.St) (p : Addr) : Prop := ∀ (i : Nat) (xs : List Da), rho[i]? = some (Sl.own xs) → σ[i]? ≠ some (some (V.ref p))
theorem StR.noslot (S : StR G rho mu σ H m Own) {p : Addr} (hp : H p = none) : NoSlot rho σ p := fun i xs e1 e2 => by
  obtain ⟨o, q, a, us, e3, e4, e5, _⟩ := paired_get S.sl e1
  rw [e2] at q
  cases q
  cases e3
  rw [hp] at e5
  cases e5
/-- .. it is written -/
theorem StR.write (S : StR G rho mu σ H m Own) {p : Addr} (o : HO) (hp : Own p) (hn : NoSlot rho σ p) : StR G rho mu σ (upd H p o) m Own ∧ Le m (G.bar Own) H m (G.bar Own) (upd H p o) := by
  have g : Le m (G.bar Own) H m (G.bar Own) (upd H p o) := by
    refine ⟨⟨[], by simp, by simp⟩, fun a u e _ _ hb => by rw [upd_ne (fun (z : a = p) => hb (.inr (by rw [z]; exact hp)))]; exact e, fun a e => ?_, fun a z => .inl z⟩
    by_cases hz : a = p
    · subst hz; rw [upd_same] at e; cases e
    · rw [upd_ne hz] at e; exact e
  have nm : p ∉ m := fun h => S.wd.dis p h (.inr hp)
  refine ⟨⟨?_, ?_, ?_, S.ow, S.dj⟩, g⟩
  · refine ⟨S.le.pre, fun a u e n h1 h2 => ?_, fun a e => S.le.dom a (g.dom a e), S.le.op⟩
    rw [upd_ne (fun z => by rw [z, (S.ow p hp).1] at e; cases e)]
    exact S.le.keep a u e n h1 h2
  · refine S.wd.mono g (fun P ps e _ nb => by rw [upd_ne (fun (z : P = p) => nb (.inr (by rw [z]; exact hp)))]; exact e) (fun a ha u e => by rw [upd_ne (fun (z : a = p) => nm (by rw [← z]; exact ha))]; exact e) (fun a z => ?_) S.wd.dis
    by_cases hz : a = p
    · subst hz; exact ⟨_, upd_same⟩
    · rw [upd_ne hz]; exact S.wd.dom a z
  · have all : ∀ {r : Ev} {s : L2.St}, Paired (fun (s : Sl) (o : Option V) => SlR m (G.bar Own) H Own s o) r s → (∀ (i : Nat) (xs : List Da), r[i]? = some (Sl.own xs) → s[i]? ≠ some (some (V.ref p))) →
        Paired (fun (s : Sl) (u : Option V) => SlR m (G.bar Own) (upd H p o) Own s u) r s := by
      intro r s h
      induction h with
      | nil => intro _; exact .nil
      | @cons x u r s h t ih =>
        intro hn
        refine .cons ?_ (ih fun i xs e => hn (i + 1) xs e)
        cases x with
        | un => trivial
        | val d => obtain ⟨v, e, r⟩ := h; exact ⟨v, e, r.mono g⟩
        | own xs =>
          obtain ⟨a, us, e1, e2, e3, e4⟩ := h
          refine ⟨a, us, e1, e2, ?_, RDs.mono g e4⟩
          rw [upd_ne (fun z => hn 0 xs rfl (by rw [← z]; exact congrArg some e1))]
          exact e3
    exact all S.sl hn
/-- .. it is no longer the frame's own -/
theorem StR.unbar {p : Addr} (S : StR G rho mu σ H m (fun a => Own a ∨ a = p)) (hn : NoSlot rho σ p) : StR G rho mu σ H m Own := by
  have lb : ∀ a, G.bar Own a → G.bar (fun a => Own a ∨ a = p) a := fun a z => z.elim .inl fun q => .inr (.inl q)
  refine ⟨S.le, S.wd.less lb, ?_, fun a z => S.ow a (.inl z), S.dj⟩
  have all : ∀ {r : Ev} {s : L2.St}, Paired (fun (s : Sl) (o : Option V) => SlR m (G.bar (fun a => Own a ∨ a = p)) H (fun a => Own a ∨ a = p) s o) r s → (∀ (i : Nat) (xs : List Da), r[i]? = some (Sl.own xs) → s[i]? ≠ some (some (V.ref p))) →
      Paired (fun (s : Sl) (u : Option V) => SlR m (G.bar Own) H Own s u) r s := by
    intro r s h
    induction h with
    | nil => intro _; exact .nil
    | @cons x u r s h t ih =>
      intro hn
      refine .cons ?_ (ih fun i xs e => hn (i + 1) xs e)
      cases x with
      | un => trivial
      | val d => obtain ⟨v, e, r⟩ := h; exact ⟨v, e, r.mono (Le.less lb)⟩
      | own xs =>
        obtain ⟨a, us, e1, e2, e3, e4⟩ := h
        refine ⟨a, us, e1, e2.elim id fun z => absurd (congrArg some e1) ?_, e3, RDs.mono (Le.less lb) e4⟩
        have q := hn 0 xs rfl
        rw [← z] at q
        exact q
  exact all S.sl hn
/-- a list that a slot is filling gets other items -/
theorem StR.fill (S : StR G rho mu σ H m Own) {i : Nat} {xs ys : List Da} {us vs : List V} {p : Addr} (h1 : rho[i]? = some (.own xs)) (h2 : σ[i]? = some (some (.ref p))) (h3 : RDs m (G.bar Own) H ys vs) :
    StR G (rho.set i (.own ys)) mu σ (upd H p (.lst vs)) m Own ∧ Le m (G.bar Own) H m (G.bar Own) (upd H p (.lst vs)) := by
  obtain ⟨o, q, a, us', e3, hp, e5, _⟩ := paired_get S.sl h1
  rw [h2] at q
  cases q
  cases e3
  have g : Le m (G.bar Own) H m (G.bar Own) (upd H p (.lst vs)) := by
    refine ⟨⟨[], by simp, by simp⟩, fun a u e _ _ hb => by rw [upd_ne (fun (z : a = p) => hb (.inr (by rw [z]; exact hp)))]; exact e, fun a e => ?_, fun a z => .inl z⟩
    by_cases hz : a = p
    · subst hz; rw [upd_same] at e; cases e
    · rw [upd_ne hz] at e; exact e
  have nm : p ∉ m := fun h => S.wd.dis p h (.inr hp)
  have sub : ∀ (j : Nat) (zs : List Da), (rho.set i (.own ys))[j]? = some (Sl.own zs) → ∃ ws, rho[j]? = some (Sl.own ws) := by
    intro j zs e
    by_cases hj : i = j
    · subst hj; exact ⟨xs, h1⟩
    · rw [List.getElem?_set_ne hj] at e; exact ⟨zs, e⟩
  refine ⟨⟨?_, ?_, ?_, S.ow, fun a b c zs ws hab e1 e2 => ?_⟩, g⟩
  · refine ⟨S.le.pre, fun a u e n k1 k2 => ?_, fun a e => S.le.dom a (g.dom a e), S.le.op⟩
    rw [upd_ne (fun z => by rw [z, (S.ow p hp).1] at e; cases e)]
    exact S.le.keep a u e n k1 k2
  · refine S.wd.mono g (fun P ps e _ nb => by rw [upd_ne (fun (z : P = p) => nb (.inr (by rw [z]; exact hp)))]; exact e) (fun a ha u e => by rw [upd_ne (fun (z : a = p) => nm (by rw [← z]; exact ha))]; exact e) (fun a z => ?_) S.wd.dis
    by_cases hz : a = p
    · subst hz; exact ⟨_, upd_same⟩
    · rw [upd_ne hz]; exact S.wd.dom a z
  · have all : ∀ {r : Ev} {s : L2.St} (k : Nat), Paired (fun (s : Sl) (o : Option V) => SlR m (G.bar Own) H Own s o) r s → (∀ (j : Nat) (zs : List Da), r[j]? = some (Sl.own zs) → j ≠ k → s[j]? ≠ some (some (V.ref p))) →
        (∀ o, s[k]? = some o → o = some (V.ref p)) → Paired (fun (s : Sl) (u : Option V) => SlR m (G.bar Own) (upd H p (.lst vs)) Own s u) (r.set k (.own ys)) s := by
      intro r s k h
      induction h generalizing k with
      | nil => intro _ _; exact .nil
      | @cons x u r s h t ih =>
        intro hn hk
        cases k with
        | zero =>
          refine .cons ⟨p, vs, hk u rfl, hp, upd_same, RDs.mono g h3⟩ ?_
          have := ih (r.length + s.length) (fun j zs e hj => hn (j + 1) zs e (Nat.succ_ne_zero j)) (fun o e => by
            have := (List.getElem?_eq_some_iff.mp e).1
            omega)
          rw [List.set_eq_of_length_le (by omega)] at this
          exact this
        | succ k =>
          refine .cons ?_ (ih k (fun j zs e hj => hn (j + 1) zs e (fun z => hj (Nat.succ.inj z))) fun o e => hk o e)
          cases x with
          | un => trivial
          | val d => obtain ⟨v, e, r⟩ := h; exact ⟨v, e, r.mono g⟩
          | own xs =>
            obtain ⟨a, us, e1, e2, e3, e4⟩ := h
            refine ⟨a, us, e1, e2, ?_, RDs.mono g e4⟩
            rw [upd_ne (fun z => hn 0 xs rfl (Nat.zero_ne_add_one k) (by rw [← z]; exact congrArg some e1))]
            exact e3
    exact all i S.sl (fun j zs e hj e2 => S.dj i j p xs zs (Ne.symm hj) h1 e h2 e2) fun o e => by rw [h2] at e; exact (Option.some.inj e).symm
  · obtain ⟨ws', k1⟩ := sub a zs e1
    obtain ⟨ws2, k2⟩ := sub b ws e2
    exact S.dj a b c ws' ws2 hab k1 k2
end
end Sk

/-! Sk H: comprehensions, lists being filled, dicts, subscripts. -/
namespace Sk
open PySem PySem.Spec L2

/-! ### comprehensions -/
abbrev WF : WX := fun _ _ _ _ => False
def noX {α : Type} (o : Out α) : Out α := match o with
  | .ok a mu => .ok a mu
  | _ => .bad
@[simp] theorem noX_ok {α : Type} {a : α} {mu : Mem} : noX (.ok a mu) = .ok a mu := rfl
theorem wp_noX {α : Type} {o : Out α} {Q : α → Mem → Prop} {E E' : Exn → Mem → Prop} (h : (noX o).wp Q E) : o.wp Q E' := by
  cases o with
  | ok a mu => exact h
  | exc x mu => exact h.elim
  | bad => exact h
def wipeE (rho : Ev) : List Nat → Ev
  | [] => rho
  | v :: vs => (wipeE rho vs).set v .un
def cLoop (bd : Da → Ev → Option Ev) (t : EvT) (e : EvD) (rho0 : Ev) : List Da → Mem → Out (List Da)
  | [], mu => .ok [] mu
  | x :: xs, mu => match bd x rho0 with
    | none => .bad
    | some rho1 => bnd (noX (t rho1 mu)) fun b mu1 => if b then bnd (noX (e rho1 mu1)) fun y mu2 => bnd (cLoop bd t e rho0 xs mu2) fun ys mu3 => .ok (y :: ys) mu3 else cLoop bd t e rho0 xs mu1
def tT : EvT := fun _ mu => .ok true mu
/-- [e for .. in it if t]; vs: the slots of its own names -/
def eCmp (it : EvI) (vs : List Nat) (bd : Da → Ev → Option Ev) (t : EvT) (e : EvD) : EvD := fun rho mu => bnd (it rho mu) fun xs mu1 => if xs.length < sizeLine then bnd (cLoop bd t e (wipeE rho vs) xs mu1) fun ys mu2 => .ok (.lst ys) mu2 else .bad
theorem wipe_idem (σ : L2.St) (vs : List Nat) : wipe (wipe σ vs) vs = wipe σ vs := by
  have key : ∀ (us : List Nat), (∀ i ∈ us, i ∈ vs) → wipe (wipe σ us) vs = wipe σ vs := by
    intro us
    induction us with
    | nil => intro _; rfl
    | cons u us ih =>
      intro h
      show wipe ((wipe σ us).set u none) vs = _
      rw [wipe_set_mem (h u (by simp))]
      exact ih fun i hi => h i (List.mem_cons_of_mem _ hi)
  exact key vs fun _ h => h
section
variable {G : Fr} {W : WX} {rho : Ev} {mu : Mem} {σ : L2.St} {H H' : Hp} {m : List Addr} {Own : Addr → Prop}
theorem StR.forget (S : StR G rho mu σ H m Own) (i : Nat) : StR G (rho.set i .un) mu (σ.set i none) H m Own := by
  refine ⟨S.le, S.wd, paired_set True.intro i S.sl, S.ow, fun a b c xs ys hab h1 h2 h3 h4 => ?_⟩
  have f : ∀ (j : Nat) (zs : List Da), (rho.set i .un)[j]? = some (Sl.own zs) → i ≠ j ∧ rho[j]? = some (Sl.own zs) := by
    intro j zs e
    by_cases hj : i = j
    · subst hj
      rw [List.getElem?_set_self'] at e
      cases q : rho[i]? with
      | none => rw [q] at e; cases e
      | some s => rw [q] at e; cases e
    · rw [List.getElem?_set_ne hj] at e
      exact ⟨hj, e⟩
  obtain ⟨n1, e1⟩ := f a xs h1
  obtain ⟨n2, e2⟩ := f b ys h2
  rw [List.getElem?_set_ne n1] at h3
  rw [List.getElem?_set_ne n2] at h4
  exact S.dj a b c xs ys hab e1 e2 h3 h4
theorem StR.wipe (S : StR G rho mu σ H m Own) : ∀ vs : List Nat, StR G (wipeE rho vs) mu (L2.wipe σ vs) H m Own
  | [] => S
  | v :: vs => (S.wipe vs).forget v
end
section
variable {X : Cx} {G : Fr} {W : WX} {pos pos' : Pos}
theorem cmp_le {it : EvI} {bd : Da → Ev → Option Ev} {vs : List Nat} {t : EvT} {e : EvD} {σ : L2.St} {H : Hp} {Q : VK} (h : TEx G W (eCmp it vs bd t e) σ H Q) : tLc (TIx G W it) (TGx G vs bd) (TTx G WF t) (TEx G WF e) vs σ H Q := by
  obtain ⟨rho, mu, m, Own, S, h⟩ := h.un
  refine ⟨rho, mu, m, Own, S, wp_and (wp_bnd h) fun items mu1 h1 J H1 m1 g1 S1 wk => ?_⟩
  by_cases hlen : items.length < sizeLine
  · rw [if_pos hlen] at h1
    intro D hD
    have ns := S1.noslot hD
    obtain ⟨S2, le2⟩ := S1.bar1 (o := .lst []) hD
    refine ⟨fun i k H' => k = items.length - i ∧ i ≤ items.length ∧ ∃ mu' m' acc av, Le m1 (G.bar Own) H1 m' (G.bar (fun a => Own a ∨ a = D)) H' ∧ Lf m1 H1 m' H' ∧ StR G rho mu' σ H' m' (fun a => Own a ∨ a = D) ∧ H' D = some (.lst av) ∧ RDs m' (G.bar (fun a => Own a ∨ a = D)) H' acc av ∧ acc.length ≤ i ∧
        (cLoop bd t e (wipeE rho (vs)) (items.drop i) mu').wp (fun ys mu2 => QE G rho σ Own m H Q (.lst (acc ++ ys)) mu2) (fun _ _ => False), ⟨items.length, by simp, Nat.zero_le _, mu1, m1, [], [], le2, Lf.of_same (same_upd hD), S2, upd_same, .nil, Nat.zero_le _, ?_⟩, ?_⟩
    · have q := wp_bnd h1
      rw [List.drop_zero]
      have cl : ∀ (xs : List Da) (u : Mem), (∃ x v, cLoop bd t e (wipeE rho (vs)) xs u = .exc x v) → False := by
        intro xs
        induction xs with
        | nil => rintro u ⟨x, v, e⟩; cases e
        | cons y ys ih =>
          rintro u ⟨x, v, e1⟩
          unfold cLoop at e1
          cases eb : bd y (wipeE rho (vs)) with
          | none => rw [eb] at e1; cases e1
          | some r1 =>
            rw [eb] at e1
            dsimp only at e1
            cases et : t r1 u with
            | ok b u1 =>
              rw [et] at e1
              simp only [noX, bnd] at e1
              cases b with
              | false => exact ih u1 ⟨x, v, e1⟩
              | true =>
                simp only [if_true] at e1
                cases ee : e r1 u1 with
                | ok z u2 =>
                  rw [ee] at e1
                  dsimp only at e1
                  cases ec : cLoop bd t e (wipeE rho (vs)) ys u2 with
                  | ok zs u3 => rw [ec] at e1; cases e1
                  | exc x' u3 => exact ih u2 ⟨x', u3, ec⟩
                  | bad => rw [ec] at e1; cases e1
                | exc x' u2 => rw [ee] at e1; cases e1
                | bad => rw [ee] at e1; cases e1
            | exc x' u1 => rw [et] at e1; cases e1
            | bad => rw [et] at e1; cases e1
      cases ec : cLoop bd t e (wipeE rho (vs)) items mu1 with
      | ok zs u3 => rw [ec] at q; exact q
      | exc x' u3 => exact cl _ _ ⟨x', u3, ec⟩
      | bad => rw [ec] at q; exact q
    · rintro i k H2 ⟨rfl, hi2, mu2, m2, acc, av, g2, l2, S2, hDv, rd, hal, hw⟩
      obtain ⟨w1, w2⟩ := wk m2 _ H2 g2 fun p hp => S2.fresh hp
      by_cases hlt : i < items.length
      · have ed : items[i]? = some items[i] := List.getElem?_eq_getElem hlt
        rw [List.drop_eq_getElem_cons hlt] at hw
        unfold cLoop at hw
        obtain ⟨k1, k2⟩ := w1 i _ ed
        refine .inr ⟨k1, fun H' => i + 1 ≤ items.length ∧ ∃ mu' m' acc av, Le m1 (G.bar Own) H1 m' (G.bar (fun a => Own a ∨ a = D)) H' ∧ Lf m1 H1 m' H' ∧ StR G rho mu' σ H' m' (fun a => Own a ∨ a = D) ∧ H' D = some (.lst av) ∧ RDs m' (G.bar (fun a => Own a ∨ a = D)) H' acc av ∧ acc.length ≤ i + 1 ∧
          (cLoop bd t e (wipeE rho (vs)) (items.drop (i + 1)) mu').wp (fun ys mu2 => QE G rho σ Own m H Q (.lst (acc ++ ys)) mu2) (fun _ _ => False), fun H' z => ⟨items.length - (i + 1), by omega, rfl, z⟩, fun x H3 y => ?_⟩
        obtain ⟨sm, rx⟩ := k2 x H3 y
        cases eb : bd items[i] (wipeE rho (vs)) with
        | none => rw [eb] at hw; exact hw.elim
        | some rho3 =>
          rw [eb] at hw
          dsimp only at hw
          have nD : D ∉ m2 := fun z => S2.wd.dis D z (.inr (.inr rfl))
          have S3 := S2.same sm
          refine ⟨items[i], wipeE rho (vs), rho3, mu2, m2, (fun a => Own a ∨ a = D), S3.wipe _, rx, eb, fun σ4 S4 ew => ⟨ew.trans (wipe_idem _ _), ?_⟩⟩
          refine TTx.to S4 (wp_noX (E' := ES G WF rho3 σ4 (fun a => Own a ∨ a = D) m2 H3) (wp_bnd hw)) fun b mu5 H5 m5 h5 g5 S5 => ?_
          have lf3 : Lf m2 H2 m5 H5 := (Lf.of_same sm).trans g5
          have S5' := (S2.call lf3 S5.wd)
          have hD5 : H5 D = some (.lst av) := lf3.keep D _ hDv (fun _ z => nomatch z) nD id
          cases b with
          | false =>
            have h5' : (cLoop bd t e (wipeE rho (vs)) (items.drop (i + 1)) mu5).wp _ _ := h5
            exact ⟨hlt, mu5, m5, acc, av, g2.trans (lf3.le _), l2.trans lf3, S5', hD5, RDs.mono (lf3.le _) rd, Nat.le_succ_of_le hal, h5'⟩
          | true =>
            simp only [if_true] at h5
            refine TEx.to S5 (wp_noX (E' := ES G WF rho3 σ4 (fun a => Own a ∨ a = D) m5 H5) (wp_bnd h5)) fun z mu6 v H6 m6 h6 g6 S6 r6 => ?_
            have lf6 : Lf m2 H2 m6 H6 := lf3.trans g6
            have S6' := (S2.call lf6 S6.wd)
            have hD6 : H6 D = some (.lst av) := lf6.keep D _ hDv (fun _ z => nomatch z) nD id
            have rd6 : RDs m6 (G.bar (fun a => Own a ∨ a = D)) H6 (acc ++ [z]) (av ++ [v]) := (RDs.mono (lf6.le _) rd).append (.cons r6 .nil)
            obtain ⟨S7, le7⟩ := S6'.write (.lst (av ++ [v])) (.inr rfl) ns
            have nD6 : D ∉ m6 := fun z => S6'.wd.dis D z (.inr (.inr rfl))
            refine ⟨av, hD6, ?_, hlt, mu6, m6, acc ++ [z], av ++ [v], g2.trans ((lf6.le _).trans le7), ?_, S7, upd_same, RDs.mono le7 rd6, ?_, ?_⟩
            · rw [← rd.length]
              exact Nat.lt_of_le_of_lt hal (Nat.lt_trans hlt hlen)
            · refine ⟨(l2.trans lf6).pre, fun a u e n n1 n2 => ?_, fun a e => (l2.trans lf6).dom a (le7.dom a e), fun a z => z.elim⟩
              rw [upd_ne (fun (q : a = D) => by rw [q, hD] at e; cases e)]
              exact (l2.trans lf6).keep a u e n n1 n2
            · rw [List.length_append, List.length_singleton]; omega
            · have q := wp_bnd h6
              refine wp_and q fun ys mu8 h8 => ?_
              rw [List.append_assoc]
              exact h8
      · have ei : i = items.length := Nat.le_antisymm hi2 (Nat.not_lt.mp hlt)
        rw [List.drop_eq_nil_of_le (Nat.not_lt.mp hlt)] at hw
        refine .inl ⟨by rw [ei]; exact w2, ?_⟩
        have hw' : QE G rho σ Own m H Q (.lst (acc ++ [])) mu2 := hw
        rw [List.append_nil] at hw'
        have Sf := S2.unbar ns
        obtain ⟨f1, f2⟩ := S1.fresh hD
        refine hw' (.ref D) H2 m2 (g1.trans l2) Sf (.lst (fun z => S2.wd.dis D z (.inr (.inr rfl))) f2 hDv (RDs.mono (Le.less fun a z => z.elim .inl fun q => .inr (.inl q)) rd))
  · rw [if_neg hlen] at h1
    exact h1.elim
theorem c_comp {elt tg iter : Expr} {ifs : List Expr} {scope : Scope} {own : List (Str × Nat)} {it : EvI} {bd : Da → Ev → Option Ev} {t : EvT} {e : EvD} (hN : X.N.Nodup) (hi : PI X tg iter (TIx G W it)) (ok : BlkOk X.N X.env.scope scope own)
    (hg : ∀ (s : Shared) (H : Hp) (C : Addr) (cl : List (Str × Addr)) (fp : List Addr), PG (X.blk s H scope (compEnvC scope cl C X.env) fp) tg (TGx G (own.map (·.2)) bd)) (ht : ∀ (s : Shared) (H : Hp) (C : Addr) (cl : List (Str × Addr)) (fp : List Addr), PTs (X.blk s H scope (compEnvC scope cl C X.env) fp) ifs (TTx G WF t))
    (he : ∀ (s : Shared) (H : Hp) (C : Addr) (cl : List (Str × Addr)) (fp : List Addr), PE (X.blk s H scope (compEnvC scope cl C X.env) fp) elt (TEx G WF e)) (hc : X.calm = true := by rfl) (hs : ∀ x, foldedSetIterable iter X.env x = pure x := by intro _; rfl) :
    PE X (.ListComp elt [⟨tg, iter, ifs, 0⟩] scope pos) (TEx G W (eCmp it (own.map (·.2)) bd t e)) := by
  exact PEw (pe_lc hc hN hi ok hg ht he hs) fun σ H Q h => cmp_le h
theorem s_setC {i : Nat} {y : Str} {py spos : Pos} {elt tg iter : Expr} {ifs : List Expr} {scope : Scope} {own : List (Str × Nat)} {it : EvI} {bd : Da → Ev → Option Ev} {t : EvT} {e : EvD} (hN : X.N.Nodup) (hi : PI X tg iter (TIx G W it)) (ok : BlkOk X.N X.env.scope scope own)
    (hg : ∀ (s : Shared) (H : Hp) (C : Addr) (cl : List (Str × Addr)) (fp : List Addr), PG (X.blk s H scope (compEnvC scope cl C X.env) fp) tg (TGx G (own.map (·.2)) bd)) (ht : ∀ (s : Shared) (H : Hp) (C : Addr) (cl : List (Str × Addr)) (fp : List Addr), PTs (X.blk s H scope (compEnvC scope cl C X.env) fp) ifs (TTx G WF t))
    (he : ∀ (s : Shared) (H : Hp) (C : Addr) (cl : List (Str × Addr)) (fp : List Addr), PE (X.blk s H scope (compEnvC scope cl C X.env) fp) elt (TEx G WF e)) (hy : X.N[i]? = some y := by rfl) (hyl : X.env.scope.names.lookup y = some .local := by rfl)
    (hl : (py.line == pos.line) = true := by rfl) (hnl : (scope.names.any fun (n, k) => n == y && (k == .local || k == .cell)) = false := by rfl) (hk : X.env.scope.kind = .function := by rfl) (hc : X.calm = true := by rfl) (hs : ∀ x, foldedSetIterable iter X.env x = pure x := by intro _; rfl) :
    PS X (.Assign [.Name y py] (.ListComp elt [⟨tg, iter, ifs, 0⟩] scope pos) spos) (TSx G W (sSet i (eCmp it (own.map (·.2)) bd t e))) := by
  refine PSw (ps_setLc hc hN hy hyl (sw_true hk hyl hl hnl) hi ok hg ht he hs) fun D σ H ⟨rho, mu, m, Own, S, h⟩ => ?_
  exact cmp_le (TEx.to S (use_wp (σ := σ) h) fun z mu1 v H1 m1 h1 g1 S1 r1 => h1 _ H1 m1 Own (g1.le _) (S1.setv i r1))
theorem ts_nil : PTs X [] (TTx G W tT) := ⟨fun pins s σ H Q I h => pts_nil.run pins s σ H Q I (by
  obtain ⟨rho, mu, m, Own, S, h⟩ := h
  exact h H m Lf.refl S)⟩
theorem ts_one {c : Expr} {t : EvT} (h : PT X c (TTx G W t)) : PTs X [c] (TTx G W t) := pts_one h
end
end Sk

/-! Sk I: subscripts, slices, chains, lists being filled, numbered dicts, pairs of stores. -/
namespace Sk
open PySem PySem.Spec L2

/-! ### subscripts -/
def ixD : Da → Da → Option Da
  | .lst xs, .int i => atI xs i
  | .tup xs, .int i => atI xs i
  | .str z, .int i => if z.length ≤ sizeLine then (atI z.cps.toList i).map fun c => .str ⟨#[c]⟩ else none
  | _, _ => none
section
variable {m : List Addr} {B : Addr → Prop} {H : Hp}
theorem RDs.atI {xs : List Da} {vs : List V} (r : RDs m B H xs vs) {i : Int} {d : Da} (h : L2.atI xs i = some d) : ∃ v, L2.atI vs i = some v ∧ RD m B H d v := by
  unfold L2.atI at h
  cases e : ixN xs.length i with
  | none => rw [e] at h; cases h
  | some j =>
    rw [e] at h
    obtain ⟨v, e2, rv⟩ := r.get (show xs[j]? = some d from h)
    refine ⟨v, ?_, rv⟩
    unfold L2.atI
    rw [← r.length, e]
    exact e2
end
section
variable {X : Cx} {G : Fr} {W : WX} {pos pos' : Pos} {a b : Expr} {da db : EvD}
theorem ix_read {K : PySem.W.Frag} {m : List Addr} {B : Addr → Prop} {H : Hp} {x y z : Da} {u v : V} {Q : VK} (e : ixD x y = some z) (rx : RD m B H x u) (ry : RD m B H y v) (q : ∀ w, RD m B H z w → Q w H) : rIx K u v H Q := by
  cases y with
  | int i =>
    cases ry
    cases x with
    | lst xs =>
      cases rx with
      | lst a1 a2 a3 a4 =>
        obtain ⟨w, e2, r⟩ := a4.atI e
        exact .inl ⟨_, _, i, w, rfl, rfl, SqL.of a3, e2, q w r⟩
    | tup xs =>
      cases rx with
      | tup a1 a2 a3 a4 =>
        obtain ⟨w, e2, r⟩ := a4.atI e
        exact .inr (.inl ⟨_, _, i, w, rfl, rfl, SqT.of a3, e2, q w r⟩)
    | str s =>
      cases rx
      replace e : (if s.length ≤ sizeLine then (L2.atI s.cps.toList i).map fun c => Da.str ⟨#[c]⟩ else none) = some z := e
      by_cases hz : s.length ≤ sizeLine
      · rw [if_pos hz] at e
        cases ec : L2.atI s.cps.toList i with
        | none => rw [ec] at e; cases e
        | some c =>
          rw [ec] at e
          cases e
          exact .inr (.inr ⟨s, i, c, rfl, rfl, hz, ec, q _ (.str _)⟩)
      · rw [if_neg hz] at e; cases e
    | _ => cases e
  | _ => cases x <;> cases e
theorem c_ix (ha : PE X a (TEx G W da)) (hb : PE X b (TEx G W db)) (hs : PlainIx b := by exact fun _ _ => rfl) : PE X (.Subscript a b pos) (TEx G W (e2 ixD da db)) := by
  refine PEw (pe_ix ix_seq ha hb hs) fun σ H Q h => ?_
  obtain ⟨rho, mu, m, Own, S, h⟩ := h.un
  refine TEx.to S (wp_bnd h) fun x mu1 v1 H1 m1 h1 g1 S1 r1 => TEx.to S1 (wp_step g1 (wp_bnd h1)) fun y mu2 v2 H2 m2 h2 g2 S2 r2 => ?_
  obtain ⟨z, e, q⟩ := wp_opt h2
  exact ix_read e (r1.mono (g2.le _)) r2 fun w r => q w H2 m2 (g1.trans g2) S2 r
/-- x[i] of a list that is being filled -/
def eIxO (i : Nat) (e : EvD) : EvD := fun rho mu => match rho[i]? with
  | some (.own xs) => bnd (e rho mu) fun y mu1 => opt (ixD (.lst xs) y) mu1
  | some (.val d) => bnd (e rho mu) fun y mu1 => opt (ixD d y) mu1
  | _ => .bad
theorem own_at {rho : Ev} {mu : Mem} {σ : L2.St} {H : Hp} {m : List Addr} {Own : Addr → Prop} (S : StR G rho mu σ H m Own) {i : Nat} {xs : List Da} (e : rho[i]? = some (.own xs)) :
    ∃ p us, σ[i]? = some (some (.ref p)) ∧ p ∉ m ∧ Own p ∧ H p = some (.lst us) ∧ RDs m (G.bar Own) H xs us := by
  obtain ⟨o, q, p, us, e1, e2, e3, e4⟩ := paired_get S.sl e
  subst e1
  exact ⟨p, us, q, fun z => S.wd.dis p z (.inr e2), e2, e3, e4⟩
theorem c_ixO {i : Nat} (ha : PE X a (tVar i)) (hb : PE X b (TEx G W db)) (hs : PlainIx b := by exact fun _ _ => rfl) : PE X (.Subscript a b pos) (TEx G W (eIxO i db)) := by
  refine PEw (pe_ix ix_seq ha hb hs) fun σ H Q h => ?_
  obtain ⟨rho, mu, m, Own, S, h⟩ := h.un
  unfold eIxO at h
  cases e : rho[i]? with
  | none => rw [e] at h; exact h.elim
  | some s =>
    rw [e] at h
    cases s with
    | un => exact h.elim
    | val d =>
      obtain ⟨v, ev, rv⟩ := S.var e
      refine ⟨v, ev, TEx.to S (wp_bnd h) fun y mu2 v2 H2 m2 h2 g2 S2 r2 => ?_⟩
      obtain ⟨z, e, q⟩ := wp_opt h2
      exact ix_read e (rv.mono (g2.le _)) r2 fun w r => q w H2 m2 g2 S2 r
    | own xs =>
      obtain ⟨p, us, ev, nm, op, hp, rl⟩ := own_at S e
      refine ⟨_, ev, TEx.to S (wp_bnd h) fun y mu2 v2 H2 m2 h2 g2 S2 r2 => ?_⟩
      obtain ⟨z, e, q⟩ := wp_opt h2
      cases y with
      | int k =>
        cases r2
        obtain ⟨w, e2, r⟩ := (RDs.mono (g2.le _) rl).atI e
        exact .inl ⟨_, _, k, w, rfl, rfl, SqL.of (g2.keep p _ hp (fun _ z => nomatch z) nm id), e2, q w H2 m2 g2 S2 r⟩
      | _ => cases e
/-- len(x) of a list that is being filled -/
def eLenO (i : Nat) : EvD := fun rho mu => match rho[i]? with
  | some (.own xs) => .ok (.int xs.length) mu
  | some (.val d) => opt (lenD [d]) mu
  | _ => .bad
theorem c_lenO {i : Nat} {p : Pos} (hm : X.mg "len" = none) (ha : PE X a (tVar i)) (hg : Gl X "len" := by rfl) (hs : starEach [a] X.env = (false, eval a X.env) :: starEach [] X.env := by rfl) :
    PE X (.Call (.Name "len" p) [a] [] pos) (TEx G W (eLenO i)) := by
  refine PEw (pe_callB (call_len_seq.or call_len_str) hg hm PySem.boot_len (pa_cons ha pa_nil hs) (by decide) (by decide) hs) fun σ H Q h => ?_
  obtain ⟨rho, mu, m, Own, S, h⟩ := h.un
  unfold eLenO at h
  cases e : rho[i]? with
  | none => rw [e] at h; exact h.elim
  | some s =>
    rw [e] at h
    cases s with
    | un => exact h.elim
    | val d =>
      obtain ⟨v, ev, rv⟩ := S.var e
      obtain ⟨z, e, q⟩ := wp_opt h
      refine ⟨v, ev, ?_⟩
      cases d with
      | lst xs =>
        cases e
        cases rv with
        | lst a1 a2 a3 a4 => exact .inl ⟨_, _, rfl, .inl (SqL.of a3), by rw [← a4.length]; exact q _ H m Lf.refl S (.int _)⟩
      | tup xs =>
        cases e
        cases rv with
        | tup a1 a2 a3 a4 => exact .inl ⟨_, _, rfl, .inr (SqT.of a3), by rw [← a4.length]; exact q _ H m Lf.refl S (.int _)⟩
      | str z2 =>
        cases rv
        obtain ⟨hz, e3⟩ := ite_inv (show (if z2.length ≤ sizeLine then some (Da.int z2.length) else none) = some z from e)
        subst e3
        exact .inr ⟨z2, rfl, hz, q _ H m Lf.refl S (.int _)⟩
      | _ => cases e
    | own xs =>
      obtain ⟨p, us, ev, nm, op, hp, rl⟩ := own_at S e
      exact ⟨_, ev, .inl ⟨p, us, rfl, .inl (SqL.of hp), by rw [← rl.length]; exact h _ H m Lf.refl S (.int _)⟩⟩

/-! ### slices -/
abbrev EvO := Ev → Mem → Out (Option Int)
def oN : EvO := fun _ mu => .ok none mu
def oS (e : EvD) : EvO := fun rho mu => bnd (e rho mu) fun x mu1 => match x with
  | .int i => .ok (some i) mu1
  | _ => .bad
def cutDs (xs : List Da) (lo hi : Option Int) : List Da := (xs.drop (HT.sIx xs.length 0 lo)).take (HT.sIx xs.length xs.length hi - HT.sIx xs.length 0 lo)
def slD (x : Da) (lo hi : Option Int) : Option Da := match x with
  | .lst xs => some (.lst (cutDs xs lo hi))
  | .tup xs => some (.tup (cutDs xs lo hi))
  | .str z => if z.length ≤ sizeLine then some (.str (cutS z lo hi)) else none
  | _ => none
def eSl (a : EvD) (lo hi : EvO) : EvD := fun rho mu => bnd (a rho mu) fun x mu1 => bnd (lo rho mu1) fun l mu2 => bnd (hi rho mu2) fun h mu3 => opt (slD x l h) mu3
def TOx (G : Fr) (W : WX) (d : EvO) : TO := fun σ H Q => ∃ rho mu m Own, StR G rho mu σ H m Own ∧ (d rho mu).wp (fun o mu' => ∀ H' m', Lf m H m' H' → StR G rho mu' σ H' m' Own → Q o H') (ES G W rho σ Own m H)
theorem POw {e : Option Expr} {t t' : TO} (h : PO X e t) (w : ∀ σ H Q, t' σ H Q → t σ H Q) : PO X e t' := ⟨fun pins s σ H Q I q => h.run pins s σ H Q I (w σ H Q q)⟩
theorem o_none : PO X none (TOx G W oN) := POw po_none fun σ H Q ⟨rho, mu, m, Own, S, h⟩ => h H m Lf.refl S
theorem o_some {e : Expr} {d : EvD} (h : PE X e (TEx G W d)) : PO X (some e) (TOx G W (oS d)) := by
  refine POw (po_some h) fun σ H Q ⟨rho, mu, m, Own, S, h⟩ => TEx.to S (wp_bnd h) fun x mu1 v1 H1 m1 h1 g1 S1 r1 => ?_
  cases x with
  | int i =>
    cases r1
    exact ⟨i, rfl, h1 H1 m1 g1 S1⟩
  | _ => exact h1.elim
theorem cut_rd {m : List Addr} {B : Addr → Prop} {H : Hp} {xs : List Da} {us : List V} (r : RDs m B H xs us) (lo hi : Option Int) : RDs m B H (cutDs xs lo hi) (cutV us lo hi) := by
  unfold cutDs cutV
  rw [r.length]
  exact RDs.take _ (RDs.drop _ r)
theorem c_sl {lo hi : Option Expr} {dl dh : EvO} {p2 : Pos} (ha : PE X a (TEx G W da)) (hl : PO X lo (TOx G W dl)) (hh : PO X hi (TOx G W dh)) : PE X (.Subscript a (.Slice lo hi none p2) pos) (TEx G W (eSl da dl dh)) := by
  refine PEw (pe_slice (sl_list.or (sl_tupA.or sl_str)) ha hl hh) fun σ H Q h => ?_
  obtain ⟨rho, mu, m, Own, S, h⟩ := h.un
  refine TEx.to S (wp_bnd h) fun x mu1 v1 H1 m1 h1 g1 S1 r1 => ⟨rho, mu1, m1, Own, S1, wp_and (wp_step g1 (wp_bnd h1)) fun l mu2 h2 H2 m2 g2 S2 => ⟨rho, mu2, m2, Own, S2, wp_and (wp_step (g1.trans g2) (wp_bnd h2)) fun u mu3 h3 H3 m3 g3 S3 => ?_⟩⟩
  obtain ⟨z, e, q⟩ := wp_opt h3
  have gg := g1.trans (g2.trans g3)
  have rx := r1.mono (Lf.le (g2.trans g3) _)
  cases x with
  | lst xs =>
    cases e
    cases rx with
    | lst a1 a2 a3 a4 => exact .inl ⟨_, _, rfl, SqL.of a3, fun p hp => q _ _ m3 (gg.trans (Lf.of_same (same_upd hp))) (S3.same (same_upd hp)) (RD.new_lst (cut_rd a4 l u) hp (S3.fresh hp).1 (S3.fresh hp).2)⟩
  | tup xs =>
    cases e
    cases rx with
    | tup a1 a2 a3 a4 =>
      refine .inr (.inl ⟨_, _, rfl, SqT.of a3, fun ⟨w1, w2⟩ => ?_, fun _ p hp => q _ _ m3 (gg.trans (Lf.of_same (same_upd hp))) (S3.same (same_upd hp)) (RD.new_tup (cut_rd a4 l u) hp (S3.fresh hp).1 (S3.fresh hp).2)⟩)
      have ew : cutDs xs l u = xs := by
        unfold cutDs
        rw [a4.length, w1, w2, List.drop_zero, Nat.sub_zero, ← a4.length, List.take_length]
      rw [ew] at q
      exact q _ H3 m3 gg S3 (.tup a1 a2 a3 a4)
  | str s =>
    obtain ⟨hz, e3⟩ := ite_inv (show (if s.length ≤ sizeLine then some (Da.str (cutS s l u)) else none) = some z from e)
    subst e3
    cases rx
    exact .inr (.inr ⟨s, rfl, hz, q _ H3 m3 gg S3 (.str _)⟩)
  | _ => cases e

/-! ### a op b op c -/
def eCh (f g : Da → Da → Option Da) (a b c : EvD) : EvD := fun rho mu => bnd (a rho mu) fun x mu1 => bnd (b rho mu1) fun y mu2 => match f x y with
  | some (.bl true) => bnd (c rho mu2) fun z mu3 => opt (g y z) mu3
  | some (.bl false) => .ok (.bl false) mu2
  | _ => .bad
theorem chain_read {r r' : R2} {f g : Da → Da → Option Da} {dc : EvD} {σ : L2.St} {H : Hp} {Q : VK} {rho : Ev} {mu : Mem} {m : List Addr} {Own : Addr → Prop}
    (k : ∀ (m : List Addr) (B : Addr → Prop) (H : Hp) (x y z : Da) (a b : V) (Q : VK), f x y = some z → RD m B H x a → RD m B H y b → (∀ p, H p = none → p ∉ m ∧ ¬ B p) → (∀ v H', Same H H' → RD m B H' z v → Q v H') → r a b H Q)
    (k' : ∀ (m : List Addr) (B : Addr → Prop) (H : Hp) (x y z : Da) (a b : V) (Q : VK), g x y = some z → RD m B H x a → RD m B H y b → (∀ p, H p = none → p ∉ m ∧ ¬ B p) → (∀ v H', Same H H' → RD m B H' z v → Q v H') → r' a b H Q)
    (S : StR G rho mu σ H m Own) (h : (eCh f g da db dc rho mu).wp (QE G rho σ Own m H Q) (ES G W rho σ Own m H)) : tChain r r' (TEx G W da) (TEx G W db) (TEx G W dc) σ H Q := by
  refine TEx.to S (wp_bnd h) fun x mu1 v1 H1 m1 h1 g1 S1 r1 => TEx.to S1 (wp_step g1 (wp_bnd h1)) fun y mu2 v2 H2 m2 h2 g2 S2 r2 => ?_
  cases e : f x y with
  | none => rw [e] at h2; exact h2.elim
  | some z =>
    rw [e] at h2
    refine k m2 _ H2 x y z v1 v2 _ e (r1.mono (g2.le _)) r2 (fun p hp => S2.fresh hp) fun v H3 sm rz => ?_
    cases z with
    | bl t =>
      cases rz
      refine ⟨t, rfl, ?_⟩
      have S3 := S2.same sm
      have l3 : Lf m2 H2 m2 H3 := Lf.of_same sm
      cases t with
      | false => exact h2 _ H3 m2 (g1.trans (g2.trans l3)) S3 (.bl _)
      | true =>
        rw [if_pos rfl]
        refine TEx.to S3 (wp_step (g1.trans (g2.trans l3)) (wp_bnd h2)) fun w mu4 v4 H4 m4 h4 g4 S4 r4 => ?_
        obtain ⟨zz, e4, q⟩ := wp_opt h4
        exact k' m4 _ H4 y w zz v2 v4 Q e4 (r2.mono (Lf.le (l3.trans g4) _)) r4 (fun p hp => S4.fresh hp) fun v H' sm' rd => q v H' m4 (g1.trans (g2.trans (l3.trans (g4.trans (Lf.of_same sm'))))) (S4.same sm') rd
    | _ => exact h2.elim
theorem c_chain {c : Expr} {dc : EvD} {op op' : CmpOp} {f g : Da → Da → Option Da} (ho : OpD X (compareOp op) f) (ho' : OpD X (compareOp op') g) (ha : PE X a (TEx G W da)) (hb : PE X b (TEx G W db)) (hc : PE X c (TEx G W dc)) (hm : lastMarks [op, op'] [b, c] = false := by with_unfolding_all rfl) :
    PE X (.Compare a [op, op'] [b, c] pos) (TEx G W (eCh f g da db dc)) := by
  obtain ⟨r, hr, k⟩ := ho
  obtain ⟨r', hr', k'⟩ := ho'
  refine PEw (pe_chain hr hr' ha hb hc hm) fun σ H Q h => ?_
  obtain ⟨rho, mu, m, Own, S, h⟩ := h.un
  exact chain_read k k' S h
theorem c_tchain {c : Expr} {dc : EvD} {op op' : CmpOp} {f g : Da → Da → Option Da} (ho : OpD X (compareOp op) f) (ho' : OpD X (compareOp op') g) (ha : PE X a (TEx G W da)) (hb : PE X b (TEx G W db)) (hc : PE X c (TEx G W dc)) (hm : lastMarks [op, op'] [b, c] = false := by with_unfolding_all rfl) :
    PT X (.Compare a [op, op'] [b, c] pos) (TTx G W (tV (eCh f g da db dc))) := by
  obtain ⟨r, hr, k⟩ := ho
  obtain ⟨r', hr', k'⟩ := ho'
  refine PTw (pt_chain hr hr' ha hb hc hm) fun σ H Q h => ?_
  obtain ⟨rho, mu, m, Own, S, h⟩ := h.un
  refine chain_read (Q := fun x H' => ∃ k, x = .bl k ∧ Q k H') k k' S (wp_and (wp_bnd h) fun x mu1 h1 => ?_)
  intro v H' m' g S' r1
  cases x with
  | bl t =>
    cases r1
    exact ⟨t, rfl, h1 H' m' g S'⟩
  | _ => exact h1.elim

/-! ### lists that are being filled -/
/-- x = [..], x to be filled further -/
def sOwn (i : Nat) (r : Ev → Mem → Out (List Da)) : StD := fun rho mu => sUse (r rho mu) rho fun xs mu' => .nx (rho.set i (.own xs)) mu'
def sApp (i : Nat) (e : EvD) : StD := fun rho mu => match rho[i]? with
  | some (.own xs) => if xs.length < sizeLine then sUse (e rho mu) rho fun d mu' => .nx (rho.set i (.own (xs ++ [d]))) mu' else .bad
  | _ => .bad
def frz (i : Nat) (rho : Ev) : Ev := match rho[i]? with
  | some (.own xs) => rho.set i (.val (.lst xs))
  | _ => rho
def sFrz (i : Nat) (b : StD) : StD := fun rho mu => b (frz i rho) mu
theorem s_own {es : List Expr} {i : Nat} {x : Str} {pl : Pos} {r : Ev → Mem → Out (List Da)} (h : PA X es (TAx G W r)) (hz : es.length ≤ sizeLine) (hl : ∀ rho mu xs mu', r rho mu = .ok xs mu' → xs.length = es.length) (hN : X.N.Nodup) (hi : X.N[i]? = some x := by rfl)
    (hx : Loc X.env.scope x := by first | exact Or.inl rfl | exact Or.inr rfl) (hs : swapsWith (.List es pl) (some (.Name x pos')) pos.line X.env = pure false := by rfl) (hf : X.fn x = true ∨ X.env.scope.names.lookup x = some .local := by first | exact .inl rfl | exact .inr rfl) :
    PS X (.Assign [.Name x pos'] (.List es pl) pos) (TSx G W (sOwn i r)) := by
  refine PSw (ps_set hN hi hx (pe_lst h) hs hf) fun D σ H ⟨rho, mu, m, Own, S, h⟩ => ?_
  have e0 := hl rho mu
  refine TAx.to (A := fun z mu1 => SOk G W D m Own H (.nx (rho.set i (.own z)) mu1) ∧ z.length = es.length) S ?_ fun xs mu1 vs H1 m1 ⟨h1, hlen⟩ g1 S1 r1 => ⟨by rw [← r1.length, hlen]; exact hz, fun p hp => ?_⟩
  · have h' := use_wp (σ := σ) h
    cases e : r rho mu with
    | ok z mu1 => rw [e] at h'; exact ⟨h', e0 _ _ e⟩
    | exc x mu1 => rw [e] at h'; exact h'
    | bad => rw [e] at h'; exact h'
  · obtain ⟨S2, g2⟩ := S1.seto i r1 hp
    exact h1 _ _ m1 _ ((g1.le _).trans g2) S2
theorem s_app {i : Nat} {o e : Expr} {apos cpos : Pos} {d : EvD} (ho : PE X o (tVar i)) (he : PE X e (TEx G W d)) (hs : swapsWith (.Call (.Attribute o "append" apos) [e] [] cpos) none pos.line X.env = pure false := by rfl) (hbase : attributeBase o "append" X.env (eval o X.env) = eval o X.env := by rfl)
    (hfew : ((backTo cpos (starEach [e] X.env)).all (fun x => !x.1) && (backToKw cpos (keywordEach [] X.env)).all (fun x => x.1.isSome) && decide ([e].length + ([] : List Keyword).length + (if ([] : List Keyword).isEmpty then 0 else 1) < 30)) = true := by rfl)
    (hline : (apos.endLine == cpos.line) = true := by rfl) (hst : starEach [e] X.env = (false, eval e X.env) :: starEach [] X.env := by rfl) (hpl : (backTo cpos (starEach [] X.env)).any (·.1) = false := by rfl) :
    PS X (.Expr (.Call (.Attribute o "append" apos) [e] [] cpos) pos) (TSx G W (sApp i d)) := by
  refine PSw (ps_expr (pe_bm PySem.F.plainAttrs_list PySem.F.slot_list_append PySem.F.type_list_append mt_append ho (pa_cons he pa_nil hst) hbase hfew hline hst hpl) hs) fun D σ H ⟨rho, mu, m, Own, S, h⟩ => ?_
  unfold sApp at h
  cases e1 : rho[i]? with
  | none => rw [e1] at h; exact h.elim
  | some s =>
    rw [e1] at h
    cases s with
    | un => exact h.elim
    | val _ => exact h.elim
    | own xs =>
      obtain ⟨p, us, ev, nm, op, hp, rl⟩ := own_at S e1
      by_cases hz : xs.length < sizeLine
      · simp only [if_pos hz] at h
        refine ⟨_, ev, .inl ⟨rfl, _, SqL.of hp⟩, TEx.to S (use_wp (σ := σ) h) fun z mu2 v H2 m2 h2 g2 S2 r2 => ?_⟩
        have hp2 : H2 p = some (.lst us) := g2.keep p _ hp (fun _ z => nomatch z) nm id
        refine ⟨p, us, v, rfl, rfl, hp2, by rw [← rl.length]; exact hz, ?_⟩
        obtain ⟨S3, g3⟩ := S2.fill (us := us) e1 ev ((RDs.mono (g2.le _) rl).append (.cons r2 .nil))
        exact h2 σ _ m2 Own ((g2.le _).trans g3) S3
      · simp only [if_neg hz] at h
        exact h.elim
theorem StR.frz {rho : Ev} {mu : Mem} {σ : L2.St} {H : Hp} {m : List Addr} {Own : Addr → Prop} (S : StR G rho mu σ H m Own) (i : Nat) : ∃ Own', StR G (frz i rho) mu σ H m Own' ∧ Le m (G.bar Own) H m (G.bar Own') H := by
  unfold Sk.frz
  cases e : rho[i]? with
  | none => exact ⟨Own, S, Le.refl⟩
  | some s =>
    cases s with
    | un => exact ⟨Own, S, Le.refl⟩
    | val _ => exact ⟨Own, S, Le.refl⟩
    | own xs =>
      obtain ⟨p, us, ev, nm, op, hp, rl⟩ := own_at S e
      have lb : ∀ a, G.bar (fun a => Own a ∧ a ≠ p) a → G.bar Own a := fun a z => z.elim .inl fun q => .inr q.1
      have g : Le m (G.bar Own) H m (G.bar (fun a => Own a ∧ a ≠ p)) H := Le.less lb
      refine ⟨fun a => Own a ∧ a ≠ p, ⟨S.le, S.wd.less lb, ?_, fun a z => S.ow a z.1, ?_⟩, g⟩
      · have all : ∀ {r : Ev} {s : L2.St} (k : Nat), Paired (fun (s : Sl) (o : Option V) => SlR m (G.bar Own) H Own s o) r s → (∀ (j : Nat) (zs : List Da), r[j]? = some (Sl.own zs) → j ≠ k → s[j]? ≠ some (some (V.ref p))) →
            (∀ o, s[k]? = some o → o = some (V.ref p)) → Paired (fun (s : Sl) (u : Option V) => SlR m (G.bar (fun a => Own a ∧ a ≠ p)) H (fun a => Own a ∧ a ≠ p) s u) (r.set k (.val (.lst xs))) s := by
          intro r s k h
          induction h generalizing k with
          | nil => intro _ _; exact .nil
          | @cons x u r s h t ih =>
            intro hn hk
            cases k with
            | zero =>
              refine .cons ⟨.ref p, hk u rfl, .lst nm (fun z => z.elim (S.ow p op).2 fun q => q.2 rfl) hp (RDs.mono g rl)⟩ ?_
              have := ih (r.length + s.length) (fun j zs e hj => hn (j + 1) zs e (Nat.succ_ne_zero j)) (fun o e => by
                have := (List.getElem?_eq_some_iff.mp e).1
                omega)
              rw [List.set_eq_of_length_le (by omega)] at this
              exact this
            | succ k =>
              refine .cons ?_ (ih k (fun j zs e hj => hn (j + 1) zs e (fun z => hj (Nat.succ.inj z))) fun o e => hk o e)
              cases x with
              | un => trivial
              | val d => obtain ⟨v, e, r⟩ := h; exact ⟨v, e, r.mono g⟩
              | own ys =>
                obtain ⟨a, us, e1, e2, e3, e4⟩ := h
                exact ⟨a, us, e1, ⟨e2, fun z => hn 0 ys rfl (Nat.zero_ne_add_one k) (by rw [← z]; exact congrArg some e1)⟩, e3, RDs.mono g e4⟩
        exact all i S.sl (fun j zs e' hj e2 => S.dj i j p xs zs (Ne.symm hj) e e' ev e2) fun o e => by rw [ev] at e; exact (Option.some.inj e).symm
      · intro a b c zs ws hab e1 e2
        have f : ∀ (j : Nat) (zs : List Da), (rho.set i (.val (.lst xs)))[j]? = some (Sl.own zs) → rho[j]? = some (Sl.own zs) := by
          intro j zs e
          by_cases hj : i = j
          · subst hj
            rw [List.getElem?_set_self'] at e
            cases q : rho[i]? with
            | none => rw [q] at e; cases e
            | some s => rw [q] at e; cases e
          · rw [List.getElem?_set_ne hj] at e; exact e
        exact S.dj a b c zs ws hab (f a zs e1) (f b ws e2)
theorem s_frz {sts : List Stmt} {d : StD} (i : Nat) (h : PSs X sts (TSx G W d)) : PSs X sts (TSx G W (sFrz i d)) := PSsw h fun D σ H ⟨rho, mu, m, Own, S, q⟩ => by
  obtain ⟨Own', S', g⟩ := S.frz i
  exact tsx_mk S' (SOk.step g q)
end
end Sk

/-! Sk J: numbered dicts, several stores at once, repr, isinstance. -/
namespace Sk
open PySem PySem.Spec L2

/-! ### tables by names -/
def dLook (k : Str) : List (Str × Da) → Option Da
  | [] => none
  | p :: r => if p.1 = k then some p.2 else dLook k r
def dPut (k : Str) (d : Da) : List (Str × Da) → List (Str × Da)
  | [] => [(k, d)]
  | p :: r => if p.1 = k then (p.1, d) :: r else p :: dPut k d r
section
variable {m : List Addr} {B : Addr → Prop} {H : Hp}
abbrev RK (m : List Addr) (B : Addr → Prop) (H : Hp) : List (Str × Da) → List (Key × V) → Prop := Paired (fun (p : Str × Da) (q : Key × V) => q.1 = .inr p.1 ∧ RD m B H p.2 q.2)
theorem RK.look {k : Str} : ∀ {kvs : List (Str × Da)} {us : List (Key × V)} {d : Da}, RK m B H kvs us → dLook k kvs = some d → ∃ v, valV us (.inr k) = some v ∧ RD m B H d v
  | _, _, _, .nil, e => by cases e
  | _, _, d, .cons (a := p) (b := q) h t, e => by
    unfold dLook at e
    by_cases hk : p.1 = k
    · rw [if_pos hk] at e
      cases e
      exact ⟨q.2, valV_pos (by rw [h.1, hk]), h.2⟩
    · rw [if_neg hk] at e
      obtain ⟨v, e2, r⟩ := RK.look t e
      exact ⟨v, by rw [valV_neg (by rw [h.1]; exact fun z => hk (Sum.inr.inj z))]; exact e2, r⟩
theorem putK_cons_ne {p : Key × V} {r : List (Key × V)} {k : Key} {v : V} (h : ¬ p.1 = k) : putK (p :: r) k v = p :: putK r k v := by
  unfold putK
  rw [List.any_cons, decide_eq_false h, Bool.false_or]
  split
  · rw [List.map_cons, if_neg h]
  · rfl
/-- no key twice -/
theorem map_other {k : Str} {v : V} : ∀ {kvs : List (Str × Da)} {us : List (Key × V)}, RK m B H kvs us → k ∉ kvs.map (·.1) → us.map (fun kv => if kv.1 = .inr k then (kv.1, v) else kv) = us
  | _, _, .nil, _ => rfl
  | _, _, .cons (a := p) (b := q) h t, e => by
    rw [List.map_cons, List.mem_cons, not_or] at e
    rw [List.map_cons, map_other t e.2, if_neg (by rw [h.1]; exact fun z => e.1 (Sum.inr.inj z).symm)]
theorem RK.put {k : Str} {d : Da} {v : V} (r : RD m B H d v) : ∀ {kvs : List (Str × Da)} {us : List (Key × V)}, RK m B H kvs us → (kvs.map (·.1)).Nodup → RK m B H (dPut k d kvs) (putK us (.inr k) v)
  | _, _, .nil, _ => .cons ⟨rfl, r⟩ .nil
  | _, _, .cons (a := p) (b := q) (l₂ := us') h t, nd => by
    rw [List.map_cons, List.nodup_cons] at nd
    unfold dPut
    by_cases hk : p.1 = k
    · rw [if_pos hk]
      subst hk
      have e : putK (q :: us') (.inr p.1) v = (q.1, v) :: us' := by
        unfold putK
        rw [List.any_cons, decide_eq_true h.1, Bool.true_or, if_pos rfl, List.map_cons, if_pos h.1, map_other t nd.1]
      rw [e]
      exact .cons ⟨h.1, r⟩ t
    · rw [if_neg hk, putK_cons_ne (by rw [h.1]; exact fun z => hk (Sum.inr.inj z))]
      exact .cons h (RK.put r t nd.2)
theorem dPut_len {k : Str} {d : Da} : ∀ {kvs : List (Str × Da)}, (dPut k d kvs).length ≤ kvs.length + 1
  | [] => by simp [dPut]
  | p :: r => by
    unfold dPut
    split
    · simp
    · have := dPut_len (k := k) (d := d) (kvs := r)
      simp only [List.length_cons]
      omega
end
section
variable {G : Fr} {W : WX} {rho : Ev} {mu : Mem} {σ : L2.St} {H H' : Hp} {m : List Addr} {Own : Addr → Prop}
theorem StR.num (S : StR G rho mu σ H m Own) {n : Nat} {a : Addr} {o : Ob} (h1 : m[n]? = some a) (h2 : mu[n]? = some o) : ObR G.K m (G.bar Own) H a o := by
  obtain ⟨y, e, r⟩ := paired_get S.wd.ob h1
  rw [h2] at e
  cases e
  exact r
/-- a numbered thing becomes another one -/
theorem StR.numset (S : StR G rho mu σ H m Own) {n : Nat} {a : Addr} (h1 : m[n]? = some a) {o : HO} {ob : Ob} (hn : ∀ m' B', Le m (G.bar Own) H m' B' (upd H a o) → ObR G.K m' B' (upd H a o) a ob) :
    StR G rho (mu.set n ob) σ (upd H a o) m Own ∧ Lf m H m (upd H a o) := by
  have hm : a ∈ m := List.mem_of_getElem? h1
  have g : Lf m H m (upd H a o) := by
    refine ⟨⟨[], by simp, by simp⟩, fun b u e _ nb _ => by rw [upd_ne (fun (z : b = a) => nb (by rw [z]; exact hm))]; exact e, fun b e => ?_, fun _ z => .inl z⟩
    by_cases hb : b = a
    · subst hb; rw [upd_same] at e; cases e
    · rw [upd_ne hb] at e; exact e
  refine ⟨?_, g⟩
  have gb := g.le (G.bar Own)
  have wd' : Wd G.K m (G.bar Own) (upd H a o) (mu.set n ob) := by
    refine ⟨fun x hx c P e => (S.wd.tb x hx c P e).mono gb fun ps h => by rw [upd_ne (fun (z : P = a) => (S.wd.tb x hx c P e).nm (by rw [z]; exact hm))]; exact h, ?_, S.wd.nd, S.wd.dis, fun b z => ?_⟩
    · have keep : Paired (fun (b : Addr) (u : Ob) => b ≠ a → ObR G.K m (G.bar Own) (upd H a o) b u) m mu := paired_imp (fun b u z hb => by
        cases u with
        | dct kvs => obtain ⟨us, e, p⟩ := z; exact ⟨us, by rw [upd_ne hb]; exact e, paired_imp (fun _ _ ⟨x, y⟩ => ⟨x, y.mono gb⟩) p⟩
        | ins c fs => obtain ⟨dx, us, e, p⟩ := z; exact ⟨dx, us, by rw [upd_ne hb]; exact e, paired_imp (fun _ _ ⟨x, y⟩ => ⟨x, y.mono gb⟩) p⟩
        | scr xs => obtain ⟨ob, us, e, r⟩ := z; exact ⟨ob, us, by rw [upd_ne hb]; exact e, RDs.mono gb r⟩
        | err c fs =>
          obtain ⟨dd, us, e, h1, h2, h3, p⟩ := z
          obtain ⟨a1, a2, a3⟩ := gb.rd h3 (fun _ z => nomatch z) h1 h2
          exact ⟨dd, us, by rw [upd_ne hb]; exact e, a2, a3, a1, paired_imp (fun _ _ ⟨x, y⟩ => ⟨x, y.mono gb⟩) p⟩
        | tab q =>
          obtain ⟨ps, e, h1, h2⟩ := z
          refine ⟨ps, by rw [upd_ne hb]; exact e, h1, fun pos cv hc => ?_⟩
          obtain ⟨c, e1, e2, e3, e4⟩ := h2 pos cv hc
          obtain ⟨a1, a2, a3⟩ := gb.rd e4 (fun ps => LamX.codeO_ne ps) e2 e3
          exact ⟨c, e1, a2, a3, a1⟩
        | dead => obtain ⟨ob, e⟩ := z; exact ⟨ob, by rw [upd_ne hb]; exact e⟩) S.wd.ob
      have go : ∀ {l : List Addr} {k : Mem} (j : Nat), Paired (fun (b : Addr) (u : Ob) => b ≠ a → ObR G.K m (G.bar Own) (upd H a o) b u) l k → l.Nodup → l[j]? = some a → Paired (fun (b : Addr) (u : Ob) => ObR G.K m (G.bar Own) (upd H a o) b u) l (k.set j ob) := by
        intro l k j h
        induction h generalizing j with
        | nil => intro _ e; cases e
        | @cons b u l k h t ih =>
          intro nd e
          rw [List.nodup_cons] at nd
          cases j with
          | zero =>
            have eb : b = a := Option.some.inj e
            subst eb
            exact .cons (hn m _ gb) (paired_mem t fun x hx y z => z (fun q => nd.1 (q ▸ hx)))
          | succ j => exact .cons (h (fun q => nd.1 (by rw [q]; exact List.mem_of_getElem? e))) (ih j nd.2 e)
      exact go n keep S.wd.nd h1
    · obtain ⟨u, e⟩ := S.wd.dom b z
      exact ⟨u, by rw [upd_ne (fun (q : b = a) => S.wd.dis b (by rw [q]; exact hm) z)]; exact e⟩
  exact S.call g wd'
/-- a new numbered thing, which stood as the frame's own -/
theorem StR.numnew {p : Addr} (S : StR G rho mu σ H m (fun a => Own a ∨ a = p)) (hs : NoSlot rho σ p) (hp : G.H p = none) {o : HO} {ob : Ob} (hob : ¬ G.bar Own p)
    (hn : ObR G.K m (G.bar (fun a => Own a ∨ a = p)) (upd H p o) p ob) : StR G rho (mu ++ [ob]) σ (upd H p o) (m ++ [p]) Own := by
  obtain ⟨S1, g1⟩ := S.write o (.inr rfl) hs
  have S2 := S1.unbar hs
  have lb : ∀ a, G.bar Own a → G.bar (fun a => Own a ∨ a = p) a := fun a z => z.elim .inl fun q => .inr (.inl q)
  have nm : p ∉ m := fun z => S.wd.dis p z (.inr (.inr rfl))
  -- the data keep away from p
  have up : ∀ {d : Da} {v : V}, RD m (G.bar (fun a => Own a ∨ a = p)) (upd H p o) d v → RD (m ++ [p]) (G.bar Own) (upd H p o) d v := by
    have both : (∀ (d : Da) (v : V), RD m (G.bar (fun a => Own a ∨ a = p)) (upd H p o) d v → RD (m ++ [p]) (G.bar Own) (upd H p o) d v) ∧ (∀ (d : List Da) (v : List V), RDs m (G.bar (fun a => Own a ∨ a = p)) (upd H p o) d v → RDs (m ++ [p]) (G.bar Own) (upd H p o) d v) := by
      have ne : ∀ {a : Addr}, a ∉ m → ¬ G.bar (fun a => Own a ∨ a = p) a → a ∉ m ++ [p] ∧ ¬ G.bar Own a := fun {a} h1 h2 => ⟨fun z => (List.mem_append.mp z).elim h1 fun q => h2 (.inr (.inr (by simpa using q))), fun z => h2 (lb a z)⟩
      constructor
      · intro d v h
        exact RD.rec (motive_1 := fun d v _ => RD (m ++ [p]) (G.bar Own) (upd H p o) d v) (motive_2 := fun d v _ => RDs (m ++ [p]) (G.bar Own) (upd H p o) d v) .non .bl .int .str
          (fun h1 h2 h3 _ ih => .tup (ne h1 h2).1 (ne h1 h2).2 h3 ih) (fun h1 h2 h3 _ ih => .lst (ne h1 h2).1 (ne h1 h2).2 h3 ih) (fun h => .ref (by rw [List.getElem?_append_left (List.getElem?_eq_some_iff.mp h).1]; exact h)) .nil (fun _ _ a b => .cons a b) h
      · intro d v h
        exact RDs.rec (motive_1 := fun d v _ => RD (m ++ [p]) (G.bar Own) (upd H p o) d v) (motive_2 := fun d v _ => RDs (m ++ [p]) (G.bar Own) (upd H p o) d v) .non .bl .int .str
          (fun h1 h2 h3 _ ih => .tup (ne h1 h2).1 (ne h1 h2).2 h3 ih) (fun h1 h2 h3 _ ih => .lst (ne h1 h2).1 (ne h1 h2).2 h3 ih) (fun h => .ref (by rw [List.getElem?_append_left (List.getElem?_eq_some_iff.mp h).1]; exact h)) .nil (fun _ _ a b => .cons a b) h
    exact fun {d v} h => both.1 d v h
  have ups : ∀ {d : List Da} {v : List V}, RDs m (G.bar (fun a => Own a ∨ a = p)) (upd H p o) d v → RDs (m ++ [p]) (G.bar Own) (upd H p o) d v := by
    intro d
    induction d with
    | nil => intro v h; cases h; exact .nil
    | cons d ds ih => intro v h; cases h with | cons a b => exact .cons (up a) (ih b)
  have upo : ∀ {a : Addr} {u : Ob}, ObR G.K m (G.bar (fun a => Own a ∨ a = p)) (upd H p o) a u → ObR G.K (m ++ [p]) (G.bar Own) (upd H p o) a u := by
    intro a u z
    cases u with
    | dct kvs => obtain ⟨us, e, q⟩ := z; exact ⟨us, e, paired_imp (fun _ _ ⟨x, y⟩ => ⟨x, up y⟩) q⟩
    | ins c fs => obtain ⟨dx, us, e, q⟩ := z; exact ⟨dx, us, e, paired_imp (fun _ _ ⟨x, y⟩ => ⟨x, up y⟩) q⟩
    | scr xs => obtain ⟨ob, us, e, r⟩ := z; exact ⟨ob, us, e, ups r⟩
    | err c fs =>
      obtain ⟨dd, us, e, h1, h2, h3, q⟩ := z
      exact ⟨dd, us, e, fun z => (List.mem_append.mp z).elim h1 fun q => h2 (.inr (.inr (by simpa using q))), fun z => h2 (lb dd z), h3, paired_imp (fun _ _ ⟨x, y⟩ => ⟨x, up y⟩) q⟩
    | tab q =>
      obtain ⟨ps, e, h1, h2⟩ := z
      refine ⟨ps, e, h1, fun pos cv hc => ?_⟩
      obtain ⟨c, e1, e2, e3, e4⟩ := h2 pos cv hc
      exact ⟨c, e1, fun z => (List.mem_append.mp z).elim e2 fun q => e3 (.inr (.inr (by simpa using q))), fun z => e3 (lb c z), e4⟩
    | dead => exact z
  have uptb : ∀ x ∈ mkrs, ∀ c P, PySem.W.tabIn G.K x = some (c, P) → TbR (m ++ [p]) (G.bar Own) (upd H p o) P (lamQ x) := by
    intro x hx c P e
    obtain ⟨h1, h2, ps, h3, h4, h5⟩ := S1.wd.tb x hx c P e
    have ne : ∀ {a : Addr}, a ∉ m → ¬ G.bar (fun a => Own a ∨ a = p) a → a ∉ m ++ [p] ∧ ¬ G.bar Own a := fun {a} h1 h2 => ⟨fun z => (List.mem_append.mp z).elim h1 fun q => h2 (.inr (.inr (by simpa using q))), fun z => h2 (lb a z)⟩
    refine ⟨(ne h1 h2).1, (ne h1 h2).2, ps, h3, h4, fun pos cv hc => ?_⟩
    obtain ⟨c', e1, e2, e3, e4⟩ := h5 pos cv hc
    exact ⟨c', e1, (ne e2 e3).1, (ne e2 e3).2, e4⟩
  refine ⟨?_, ⟨uptb, ?_, ?_, ?_, S2.wd.dom⟩, ?_, S2.ow, S2.dj⟩
  · obtain ⟨t, e, ht⟩ := S2.le.pre
    refine ⟨⟨t ++ [p], by rw [e, List.append_assoc], fun a z => ?_⟩, fun a u e n n1 n2 => S2.le.keep a u e n n1 n2, S2.le.dom, S2.le.op⟩
    rcases List.mem_append.mp z with z | z
    · exact ht a z
    · rw [show a = p by simpa using z]; exact hp
  · have app : ∀ {l : List Addr} {k : Mem}, Paired (fun (b : Addr) (u : Ob) => ObR G.K m (G.bar (fun a => Own a ∨ a = p)) (upd H p o) b u) l k → Paired (fun (b : Addr) (u : Ob) => ObR G.K (m ++ [p]) (G.bar Own) (upd H p o) b u) (l ++ [p]) (k ++ [ob]) := by
      intro l k h
      induction h with
      | nil => exact .cons (upo hn) .nil
      | cons h t ih => exact .cons (upo h) ih
    exact app S1.wd.ob
  · rw [List.nodup_append]
    exact ⟨S.wd.nd, by simp, fun a ha b hb => by
      rw [show b = p by simpa using hb]
      exact fun z => nm (z ▸ ha)⟩
  · intro a ha z
    rcases List.mem_append.mp ha with ha | ha
    · exact S2.wd.dis a ha z
    · rw [show a = p by simpa using ha] at z
      exact hob z
  · have all : ∀ {r : Ev} {s : L2.St}, Paired (fun (s : Sl) (o' : Option V) => SlR m (G.bar (fun a => Own a ∨ a = p)) (upd H p o) (fun a => Own a ∨ a = p) s o') r s → (∀ (i : Nat) (xs : List Da), r[i]? = some (Sl.own xs) → s[i]? ≠ some (some (V.ref p))) →
        Paired (fun (s : Sl) (u : Option V) => SlR (m ++ [p]) (G.bar Own) (upd H p o) Own s u) r s := by
      intro r s h
      induction h with
      | nil => intro _; exact .nil
      | @cons x u r s h t ih =>
        intro hn
        refine .cons ?_ (ih fun i xs e => hn (i + 1) xs e)
        cases x with
        | un => trivial
        | val d => obtain ⟨v, e, r⟩ := h; exact ⟨v, e, up r⟩
        | own xs =>
          obtain ⟨a, us, e1, e2, e3, e4⟩ := h
          refine ⟨a, us, e1, e2.elim id fun z => absurd (congrArg some e1) ?_, e3, ups e4⟩
          have q := hn 0 xs rfl
          rw [← z] at q
          exact q
    exact all S1.sl hs
end

section
variable {X : Cx} {G : Fr} {W : WX} {pos pos' : Pos} {a b e : Expr} {da db : EvD}
/-- d[k] of a numbered dict -/
def eDGet (a : EvD) (k : Str) : EvD := fun rho mu => bnd (a rho mu) fun x mu1 => match x with
  | .ref n => (match mu1[n]? with
    | some (.dct kvs) => opt (dLook k kvs) mu1
    | _ => .bad)
  | _ => .bad
theorem c_dget {k : Str} {j : Nat} {kp : Pos} {lv : Nat} (hr : Rm lv X.A) (ha : PE X a (TEx G W da)) (hs : NoSl (.Constant (.str k) j kp) := by exact fun _ _ => rfl) : PE X (.Subscript a (.Constant (.str k) j kp) pos) (TEx G W (eDGet da k)) := by
  refine PEw (pe_dget (hu_of hr.r) ha pe_str hs) fun σ H Q h => ?_
  obtain ⟨rho, mu, m, Own, S, h⟩ := h.un
  refine TEx.to S (wp_bnd h) fun x mu1 v1 H1 m1 h1 g1 S1 r1 => ?_
  cases x with
  | ref n =>
    cases r1 with
    | ref hn =>
      dsimp only at h1
      cases eo : mu1[n]? with
      | none => rw [eo] at h1; exact h1.elim
      | some o =>
        rw [eo] at h1
        cases o with
        | dct kvs =>
          obtain ⟨us, e, p⟩ := S1.num hn eo
          obtain ⟨d, ed, q⟩ := wp_opt h1
          obtain ⟨v, ev, rv⟩ := RK.look p ed
          refine ⟨_, v, rfl, ?_, q v H1 m1 g1 S1 rv⟩
          rw [← ev]
          exact DGet.k (k := Sum.inr k) e
        | _ => exact h1.elim
  | _ => exact h1.elim
def numput (n : Nat) (k : Str) (d : Da) (mu : Mem) : Option Mem := match mu[n]? with
  | some (.dct kvs) => if (kvs.map (·.1)).Nodup ∧ kvs.length < 1000 then some (mu.set n (.dct (dPut k d kvs))) else none
  | _ => none
/-- d[k] = v of a numbered dict -/
def sDSet (a : EvD) (k : Str) (v : EvD) : StD := fun rho mu => sUse (v rho mu) rho fun d mu1 => sUse (a rho mu1) rho fun x mu2 => match x with
  | .ref n => (match numput n k d mu2 with
    | some mu3 => .nx rho mu3
    | none => .bad)
  | _ => .bad
theorem put_step {rho : Ev} {mu mu3 : Mem} {σ : L2.St} {H : Hp} {m : List Addr} {Own : Addr → Prop} {n : Nat} {k : Str} {d : Da} {v : V} {ad : Addr} (S : StR G rho mu σ H m Own) (hn : m[n]? = some ad) (r : RD m (G.bar Own) H d v) (e : numput n k d mu = some mu3) :
    ∃ H', DPut H ad (.str k) v H' ∧ StR G rho mu3 σ H' m Own ∧ Lf m H m H' := by
  unfold numput at e
  cases eo : mu[n]? with
  | none => rw [eo] at e; cases e
  | some o =>
    rw [eo] at e
    cases o with
    | dct kvs =>
      obtain ⟨⟨nd, hl⟩, e2⟩ := ite_inv (show (if (kvs.map (·.1)).Nodup ∧ kvs.length < 1000 then some (mu.set n (.dct (dPut k d kvs))) else none) = some mu3 from e)
      subst e2
      obtain ⟨us, ea, p⟩ := S.num hn eo
      obtain ⟨S', g⟩ := S.numset (o := .dK (putK us (.inr k) v)) (ob := .dct (dPut k d kvs)) hn fun m' B' le => ⟨_, upd_same, RK.put (r.mono le) (paired_imp (fun _ _ ⟨x, y⟩ => ⟨x, y.mono le⟩) p) nd⟩
      exact ⟨_, DPut.k (k := Sum.inr k) ea (small1000 (by rw [← paired_len p]; omega)), S', g⟩
    | _ => cases e
theorem s_dset {k : Str} {j : Nat} {kp : Pos} {lv : Nat} (hr : Rm lv X.A) (ha : PE X a (TEx G W da)) (he : PE X e (TEx G W db)) (hs : swapsWith e (some (.Subscript a (.Constant (.str k) j kp) pos')) pos.line X.env = pure false := by rfl) :
    PS X (.Assign [.Subscript a (.Constant (.str k) j kp) pos'] e pos) (TSx G W (sDSet da k db)) := by
  refine PSw (ps_dput (hu_of hr.r) ha pe_str he hs) fun D σ H ⟨rho, mu, m, Own, S, h⟩ => ?_
  refine TEx.to S (use_wp (σ := σ) h) fun z mu1 v H1 m1 h1 g1 S1 r1 => TEx.to S1 (use_wp (σ := σ) (SOk.step (g1.le (G.bar Own)) h1)) fun x mu2 u H2 m2 h2 g2 S2 r2 => ?_
  cases x with
  | ref n =>
    cases r2 with
    | ref hn =>
      dsimp only at h2
      cases ep : numput n k z mu2 with
      | none => rw [ep] at h2; exact h2.elim
      | some mu3 =>
        rw [ep] at h2
        obtain ⟨H', dp, S', g⟩ := put_step S2 hn (r1.mono (g2.le _)) ep
        exact ⟨_, H', rfl, dp, h2 σ H' m2 Own (Lf.le (g2.trans g) _) S'⟩
  | _ => exact h2.elim

/-! ### {k: v, ..}: a new numbered dict -/
def eDisp (ks : List Str) (r : Ev → Mem → Out (List Da)) : EvD := fun rho mu => bnd (r rho mu) fun ds mu1 => .ok (.ref mu1.length) (mu1 ++ [.dct (ks.zip ds)])
/-- the values of a display, from the left -/
def tVals (r : Ev → Mem → Out (List Da)) (G : Fr) (W : WX) (ks : List Str) : L2.St → Hp → (List (V × V) → Hp → Prop) → Prop := fun σ H Q => TAx G W r σ H fun vs H1 => Q ((ks.map V.str).zip vs) H1
structure PDs (X : Cx) (G : Fr) (W : WX) (pos : Pos) (ks : List Str) (keys : List (Option Expr)) (values : List Expr) (r : Ev → Mem → Out (List Da)) : Prop where
  ex : ∃ trs, PPs X pos keys values trs ∧ ∀ σ H Q, tVals r G W ks σ H Q → tPairs trs σ H Q
  len : ∀ rho mu ds mu', r rho mu = .ok ds mu' → ds.length = ks.length
theorem d_nil : PDs X G W pos [] [] [] aN := ⟨⟨[], pps_nil, fun σ H Q ⟨rho, mu, m, Own, S, h⟩ => h [] H m Lf.refl S .nil⟩, fun _ _ _ _ h => by cases h; rfl⟩
theorem d_cons {k : Str} {j : Nat} {kp : Pos} {ks : List Str} {keys : List (Option Expr)} {values : List Expr} {r : Ev → Mem → Out (List Da)} (he : PE X e (TEx G W da)) (h : PDs X G W pos ks keys values r) : PDs X G W pos (k :: ks) (some (.Constant (.str k) j kp) :: keys) (e :: values) (aC da r) := by
  obtain ⟨⟨trs, hp, ht⟩, hl⟩ := h
  refine ⟨⟨_, pps_cons pe_str he hp, fun σ H Q q => ?_⟩, aC_len hl⟩
  obtain ⟨rho, mu, m, Own, S, q⟩ := TAx.un q
  refine TEx.to S (wp_bnd q) fun x mu1 v1 H1 m1 h1 g1 S1 r1 => ht σ H1 _ (TAx.to S1 (wp_step g1 (wp_bnd h1)) fun y mu2 v2 H2 m2 h2 g2 S2 r2 => ?_)
  exact h2 _ H2 m2 (g1.trans g2) S2 (.cons (r1.mono (g2.le _)) r2)
theorem mergeK_nodup : ∀ (kvs acc : List (Key × V)), ((acc ++ kvs).map (·.1)).Nodup → mergeK acc kvs = acc ++ kvs
  | [], acc, _ => by rw [List.append_nil]; rfl
  | p :: r, acc, h => by
    have key : putK acc p.1 p.2 = acc ++ [p] := by
      unfold putK
      rw [if_neg]
      intro z
      obtain ⟨x, hx, e⟩ := List.any_eq_true.mp z
      have e' := of_decide_eq_true e
      rw [List.map_append, List.nodup_append] at h
      exact h.2.2 x.1 (List.mem_map_of_mem hx) p.1 (by simp) e'
    show mergeK (putK acc p.1 p.2) r = _
    rw [key, mergeK_nodup r (acc ++ [p]) (by rw [List.append_assoc]; exact h), List.append_assoc]
    rfl
theorem c_disp {ks : List Str} {keys : List (Option Expr)} {values : List Expr} {r : Ev → Mem → Out (List Da)} (h : PDs X G W pos ks keys values r) (nd : ks.Nodup) (h15 : keys.length ≤ 15 := by decide) (hkl : ks.length ≤ 15 := by decide) (hall : keys.all (·.isSome) = true := by rfl) (hl : keys.length = values.length := by rfl) (h0 : keys ≠ [] := by exact fun z => nomatch z) :
    PE X (.Dict keys values pos) (TEx G W (eDisp ks r)) := by
  obtain ⟨⟨trs, hp, ht⟩, hlen⟩ := h
  refine PEw (pe_disp hp hall hl h0 h15) fun σ H Q h p hpn => ?_
  obtain ⟨rho, mu, m, Own, S, h⟩ := h.un
  obtain ⟨f1, f2⟩ := S.fresh hpn
  have ns := S.noslot hpn
  obtain ⟨S1, g1⟩ := S.bar1 (o := .dK []) hpn
  have back : ∀ x mu', ES G W rho σ Own m H x mu' → ES G W rho σ (fun a => Own a ∨ a = p) m (upd H p (.dK [])) x mu' := fun x mu' q c dd H' m' g2 S' xr =>
    q c dd H' m' ((Lf.of_same (same_upd hpn)).trans g2) (S'.unbar ns) (xr.less fun a z => z.elim .inl fun y => .inr (.inl y))
  have e0 := hlen rho mu
  refine ht σ _ _ (TAx.to (A := fun ds mu1 => QE G rho σ Own m H Q (.ref mu1.length) (mu1 ++ [.dct (ks.zip ds)]) ∧ ds.length = ks.length) S1 ?_ fun ds mu2 vs H2 m2 ⟨h2, hdl⟩ g2 S2 r2 => ?_)
  · have q := wp_bnd h
    cases er : r rho mu with
    | ok z mu1 => rw [er] at q; exact ⟨q, e0 _ _ er⟩
    | exc x mu1 => rw [er] at q; exact back x mu1 q
    | bad => rw [er] at q; exact q
  · have nm : p ∉ m := f1
    have hp2 : H2 p = some (.dK []) := g2.keep p _ upd_same (fun _ z => nomatch z) nm id
    have hvl : vs.length = ks.length := by rw [← r2.length, hdl]
    have zipK : ∀ (ks : List Str) (vs : List V), ((ks.map V.str).zip vs) = (((ks.map Sum.inr : List Key).zip vs).map fun kv => (kV kv.1, kv.2)) := by
      intro ks
      induction ks with
      | nil => intro vs; rfl
      | cons k ks ih => intro vs; cases vs with | nil => rfl | cons v vs => rw [List.map_cons, List.zip_cons_cons, ih]; rfl
    have rk : ∀ {ks : List Str} {ds : List Da} {vs : List V} {m : List Addr} {B : Addr → Prop} {H : Hp}, RDs m B H ds vs → RK m B H (ks.zip ds) ((ks.map Sum.inr : List Key).zip vs) := by
      intro ks
      induction ks with
      | nil => intro ds vs m B H _; exact .nil
      | cons k ks ih => intro ds vs m B H r; cases r with | nil => exact .nil | cons a b => exact .cons ⟨rfl, a⟩ (ih b)
    have keys1 : ((ks.map Sum.inr : List Key).zip vs).map (·.1) = ks.map Sum.inr := List.map_fst_zip (by rw [List.length_map, hvl]; exact Nat.le_refl _)
    refine ⟨hp2, (ks.map Sum.inr : List Key).zip vs, zipK ks vs, by rw [List.length_zip, List.length_map]; omega, ?_⟩
    rw [mergeK_nodup _ [] (by
      rw [List.nil_append, keys1]
      exact List.Pairwise.map _ (fun a b hab z => hab (Sum.inr.inj z)) nd), List.nil_append]
    obtain ⟨S3w, g3w⟩ := S2.write (.dK ((ks.map Sum.inr : List Key).zip vs)) (.inr rfl) ns
    have S3 := S2.numnew (o := .dK ((ks.map Sum.inr : List Key).zip vs)) (ob := .dct (ks.zip ds)) ns (S.le.dom p hpn) f2 ⟨_, upd_same, rk (RDs.mono g3w r2)⟩
    have l0 : Lf m H m2 H2 := (Lf.of_same (same_upd hpn)).trans g2
    have l3 : Lf m H (m2 ++ [p]) (upd H2 p (.dK ((ks.map Sum.inr : List Key).zip vs))) := by
      obtain ⟨t, et, ht⟩ := l0.pre
      refine ⟨⟨t ++ [p], by rw [et, List.append_assoc], fun a z => ?_⟩, fun a u e n n1 n2 => ?_, fun a e => l0.dom a (g3w.dom a e), fun a z => z.elim⟩
      · rcases List.mem_append.mp z with z | z
        · exact ht a z
        · rw [show a = p by simpa using z]; exact hpn
      · rw [upd_ne (fun (q : a = p) => by rw [q, hpn] at e; cases e)]
        exact l0.keep a u e n n1 n2
    exact h2 _ _ _ l3 S3 (.ref (by
      rw [← paired_len S2.wd.ob]
      simp))
end
end Sk

/-! Sk K: several stores at once, op=, repr, isinstance. -/
namespace Sk
open PySem PySem.Spec L2

/-! ### a, b = x, y: the values wait -/
abbrev PvD := Ev → Mem → Out (List Sl)
def pN : PvD := fun _ mu => .ok [] mu
def pC (e : EvD) (r : PvD) : PvD := fun rho mu => bnd (e rho mu) fun d mu1 => bnd (r rho mu1) fun ss mu2 => .ok (.val d :: ss) mu2
def pO (a : Ev → Mem → Out (List Da)) (r : PvD) : PvD := fun rho mu => bnd (a rho mu) fun ds mu1 => bnd (r rho mu1) fun ss mu2 => .ok (.own ds :: ss) mu2
def setAll : List Nat → List Sl → Ev → Option Ev
  | [], [], rho => some rho
  | i :: is, s :: ss, rho => setAll is ss (rho.set i s)
  | _, _, _ => none
def sPar (is : List Nat) (p : PvD) : StD := fun rho mu => sUse (p rho mu) rho fun ss mu' => match setAll is ss rho with
  | some rho' => .nx rho' mu'
  | none => .bad
/-- a value that waits -/
def SlP (m : List Addr) (B : Addr → Prop) (H : Hp) (Own : Addr → Prop) (rho : Ev) (σ : L2.St) (H0 : Hp) : Sl → V → Prop
  | .un, _ => False
  | .val d, v => RD m B H d v
  | .own xs, v => ∃ a us, v = .ref a ∧ Own a ∧ H a = some (.lst us) ∧ RDs m B H xs us ∧ NoSlot rho σ a ∧ H0 a = none
structure Pend (m : List Addr) (B : Addr → Prop) (H : Hp) (Own : Addr → Prop) (rho : Ev) (σ : L2.St) (H0 : Hp) (ss : List Sl) (vs : List V) : Prop where
  each : Paired (fun (s : Sl) (v : V) => SlP m B H Own rho σ H0 s v) ss vs
  apart : ∀ (i j : Nat) (a : Addr) (xs ys : List Da), i ≠ j → ss[i]? = some (Sl.own xs) → ss[j]? = some (Sl.own ys) → vs[i]? = some (V.ref a) → vs[j]? ≠ some (V.ref a)
def TPx (G : Fr) (W : WX) (d : PvD) : TA := fun σ H Q => ∃ rho mu m Own, StR G rho mu σ H m Own ∧
  (d rho mu).wp (fun ss mu' => ∀ vs H' m' Own', Lf m H m' H' → Le m (G.bar Own) H m' (G.bar Own') H' → (∀ a, Own a → Own' a) → StR G rho mu' σ H' m' Own' → Pend m' (G.bar Own') H' Own' rho σ H ss vs → Q vs H') (ES G W rho σ Own m H)
section
variable {G : Fr} {W : WX} {rho : Ev} {mu : Mem} {σ : L2.St} {H H' : Hp} {m m' : List Addr} {Own Own' : Addr → Prop}
theorem TPx.to {d : PvD} {Q : List V → Hp → Prop} {A : List Sl → Mem → Prop} (S : StR G rho mu σ H m Own) (h : (d rho mu).wp A (ES G W rho σ Own m H))
    (k : ∀ z mu1 vs H1 m1 O1, A z mu1 → Lf m H m1 H1 → Le m (G.bar Own) H m1 (G.bar O1) H1 → (∀ a, Own a → O1 a) → StR G rho mu1 σ H1 m1 O1 → Pend m1 (G.bar O1) H1 O1 rho σ H z vs → Q vs H1) : TPx G W d σ H Q :=
  ⟨rho, mu, m, Own, S, wp_and h fun z mu1 a vs H1 m1 O1 g l om S1 p => k z mu1 vs H1 m1 O1 a g l om S1 p⟩
/-- a slot gets a waiting list -/
theorem StR.setw (S : StR G rho mu σ H m Own) (i : Nat) {xs : List Da} {us : List V} {p : Addr} (r : RDs m (G.bar Own) H xs us) (op : Own p) (hp : H p = some (.lst us)) (ns : NoSlot rho σ p) :
    StR G (rho.set i (.own xs)) mu (σ.set i (some (.ref p))) H m Own := by
  refine ⟨S.le, S.wd, paired_set ⟨p, us, rfl, op, hp, r⟩ i S.sl, S.ow, ?_⟩
  intro a b c ys zs hab h1 h2 h3 h4
  have f : ∀ (j : Nat) (ws : List Da) (c : Addr), (rho.set i (.own xs))[j]? = some (Sl.own ws) → (σ.set i (some (V.ref p)))[j]? = some (some (V.ref c)) → (i = j ∧ c = p) ∨ (i ≠ j ∧ rho[j]? = some (Sl.own ws) ∧ σ[j]? = some (some (V.ref c)) ∧ c ≠ p) := by
    intro j ws c e1 e2
    by_cases hj : i = j
    · subst hj
      rw [List.getElem?_set_self'] at e2
      cases q : σ[i]? with
      | none => rw [q] at e2; cases e2
      | some s => rw [q] at e2; cases e2; exact .inl ⟨rfl, rfl⟩
    · rw [List.getElem?_set_ne hj] at e1 e2
      exact .inr ⟨hj, e1, e2, fun z => ns j ws e1 (by rw [← z]; exact e2)⟩
  rcases f a ys c h1 h3 with ⟨k1, k2⟩ | ⟨k1, k2, k3, k4⟩
  · rcases f b zs c h2 h4 with ⟨l1, l2⟩ | ⟨l1, l2, l3, l4⟩
    · exact hab (k1.symm.trans l1)
    · exact l4 k2
  · rcases f b zs c h2 h4 with ⟨l1, l2⟩ | ⟨l1, l2, l3, l4⟩
    · exact k4 l2
    · exact S.dj a b c ys zs hab k2 l2 k3 l3
def setSt : List Nat → List V → L2.St → L2.St
  | i :: is, v :: vs, σ => setSt is vs (σ.set i (some v))
  | _, _, σ => σ
theorem NoSlot.setv {p : Addr} (h : NoSlot rho σ p) (i : Nat) (d : Da) (o : Option V) : NoSlot (rho.set i (.val d)) (σ.set i o) p := fun j xs e1 e2 => by
  by_cases hj : i = j
  · subst hj
    rw [List.getElem?_set_self'] at e1
    cases q : rho[i]? with
    | none => rw [q] at e1; cases e1
    | some s => rw [q] at e1; cases e1
  · rw [List.getElem?_set_ne hj] at e1 e2
    exact h j xs e1 e2
theorem NoSlot.seto {p a : Addr} (h : NoSlot rho σ p) (i : Nat) (ys : List Da) (ne : a ≠ p) : NoSlot (rho.set i (.own ys)) (σ.set i (some (.ref a))) p := fun j xs e1 e2 => by
  by_cases hj : i = j
  · subst hj
    rw [List.getElem?_set_self'] at e2
    cases q : σ[i]? with
    | none => rw [q] at e2; cases e2
    | some s => rw [q] at e2; cases e2; exact ne rfl
  · rw [List.getElem?_set_ne hj] at e1 e2
    exact h j xs e1 e2
/-- all of them are stored -/
theorem StR.setAll {H0 : Hp} : ∀ {is : List Nat} {ss : List Sl} {vs : List V} {rho rho' : Ev} {σ : L2.St}, StR G rho mu σ H m Own → Pend m (G.bar Own) H Own rho σ H0 ss vs → Sk.setAll is ss rho = some rho' → StR G rho' mu (setSt is vs σ) H m Own ∧ vs.length = is.length
  | [], [], vs, rho, rho', σ, S, p, e => by
    cases e
    cases p.each
    exact ⟨S, rfl⟩
  | [], _ :: _, _, _, _, _, _, _, e => by cases e
  | _ :: _, [], _, _, _, _, _, _, e => by cases e
  | i :: is, s :: ss, vs, rho, rho', σ, S, p, e => by
    obtain ⟨pe, pa⟩ := p
    cases pe with
    | @cons _ v _ vs h t =>
      have apart' : ∀ (a b : Nat) (c : Addr) (xs ys : List Da), a ≠ b → ss[a]? = some (Sl.own xs) → ss[b]? = some (Sl.own ys) → vs[a]? = some (V.ref c) → vs[b]? ≠ some (V.ref c) := fun a b c xs ys hab h1 h2 h3 => pa (a + 1) (b + 1) c xs ys (fun z => hab (Nat.succ.inj z)) h1 h2 h3
      cases s with
      | un => exact h.elim
      | val d =>
        have p2 : Pend m (G.bar Own) H Own (rho.set i (.val d)) (σ.set i (some v)) H0 ss vs := ⟨paired_imp (fun s u z => by
          cases s with
          | un => exact z
          | val x => exact z
          | own xs => obtain ⟨a, us, e1, e2, e3, e4, e5, e6⟩ := z; exact ⟨a, us, e1, e2, e3, e4, e5.setv i d _, e6⟩) t, apart'⟩
        obtain ⟨q1, q2⟩ := StR.setAll (S.setv i h) p2 e
        exact ⟨q1, congrArg Nat.succ q2⟩
      | own xs =>
        obtain ⟨a, us, e1, e2, e3, e4, e5, e6⟩ := h
        subst e1
        have p2 : Pend m (G.bar Own) H Own (rho.set i (.own xs)) (σ.set i (some (.ref a))) H0 ss vs := by
          refine ⟨?_, apart'⟩
          have go : ∀ (k : Nat) {r : List Sl} {w : List V}, Paired (fun (s : Sl) (v : V) => SlP m (G.bar Own) H Own rho σ H0 s v) r w → (∀ (j : Nat) (ys : List Da), r[j]? = some (Sl.own ys) → w[j]? ≠ some (V.ref a)) → Paired (fun (s : Sl) (v : V) => SlP m (G.bar Own) H Own (rho.set i (.own xs)) (σ.set i (some (.ref a))) H0 s v) r w := by
            intro k r w hr
            induction hr with
            | nil => intro _; exact .nil
            | @cons s u r w h t ih =>
              intro hne
              refine .cons ?_ (ih fun j ys e => hne (j + 1) ys e)
              cases s with
              | un => exact h
              | val x => exact h
              | own ys =>
                obtain ⟨b, us2, f1, f2, f3, f4, f5, f6⟩ := h
                exact ⟨b, us2, f1, f2, f3, f4, f5.seto i xs (fun z => hne 0 ys rfl (by rw [z, ← f1]; rfl)), f6⟩
          exact go 0 t fun j ys ej => pa 0 (j + 1) a xs ys (Nat.zero_ne_add_one j) rfl ej rfl
        obtain ⟨q1, q2⟩ := StR.setAll (S.setw i e4 e2 e3 e5) p2 e
        exact ⟨q1, congrArg Nat.succ q2⟩
end
section
variable {X : Cx} {G : Fr} {W : WX} {pos : Pos} {a b c e : Expr} {d : EvD}
theorem p_nil : PA X [] (TPx G W pN) := PAw pa_nil fun σ H Q ⟨rho, mu, m, Own, S, h⟩ => h [] H m Own Lf.refl Le.refl (fun _ z => z) S ⟨.nil, fun i j a xs ys _ h => by simp at h⟩
theorem p_cons {es : List Expr} {r : PvD} (ha : PE X e (TEx G W d)) (hr : PA X es (TPx G W r)) (hs : starEach (e :: es) X.env = (false, eval e X.env) :: starEach es X.env := by rfl) : PA X (e :: es) (TPx G W (pC d r)) := by
  refine PAw (pa_cons ha hr hs) fun σ H Q ⟨rho, mu, m, Own, S, h⟩ => ?_
  refine TEx.to S (wp_bnd h) fun x mu1 v1 H1 m1 h1 g1 S1 r1 => TPx.to S1 (wp_step g1 (wp_bnd h1)) fun z mu2 vs H2 m2 O2 h2 g2 l2 o2 S2 p2 => ?_
  refine h2 _ H2 m2 O2 (g1.trans g2) ((g1.le _).trans l2) o2 S2 ⟨.cons (RD.mono l2 r1) (paired_imp (fun s u z => by
    cases s with
    | un => exact z
    | val x => exact z
    | own xs => obtain ⟨a, us, e1, e2, e3, e4, e5, e6⟩ := z; exact ⟨a, us, e1, e2, e3, e4, e5, g1.dom a e6⟩) p2.each), fun i j a xs ys hij e1 e2 e3 e4 => ?_⟩
  cases i with
  | zero => cases e1
  | succ i =>
    cases j with
    | zero => cases e2
    | succ j => exact p2.apart i j a xs ys (fun z => hij (congrArg Nat.succ z)) e1 e2 e3 e4
theorem p_own {es ls : List Expr} {pl : Pos} {al : Ev → Mem → Out (List Da)} {r : PvD} (ha : PA X ls (TAx G W al)) (hz : ls.length ≤ sizeLine) (hl : ∀ rho mu xs mu', al rho mu = .ok xs mu' → xs.length = ls.length) (hr : PA X es (TPx G W r))
    (hs : starEach (.List ls pl :: es) X.env = (false, eval (.List ls pl) X.env) :: starEach es X.env := by rfl) : PA X (.List ls pl :: es) (TPx G W (pO al r)) := by
  refine PAw (pa_cons (pe_lst ha) hr hs) fun σ H Q ⟨rho, mu, m, Own, S, h⟩ => ?_
  have e0 := hl rho mu
  refine TAx.to (A := fun z mu1 => (bnd (r rho mu1) fun ss mu2 => Out.ok (Sl.own z :: ss) mu2).wp (fun ss mu' => ∀ vs H' m' Own', Lf m H m' H' → Le m (G.bar Own) H m' (G.bar Own') H' → (∀ a, Own a → Own' a) → StR G rho mu' σ H' m' Own' → Pend m' (G.bar Own') H' Own' rho σ H ss vs → Q vs H') (ES G W rho σ Own m H) ∧ z.length = ls.length) S ?_ fun xs mu1 us H1 m1 ⟨h1, hlen⟩ g1 S1 r1 => ⟨by rw [← r1.length, hlen]; exact hz, fun p hp => ?_⟩
  · have h' := wp_bnd h
    cases e : al rho mu with
    | ok z mu1 => rw [e] at h'; exact ⟨h', e0 _ _ e⟩
    | exc x mu1 => rw [e] at h'; exact h'
    | bad => rw [e] at h'; exact h'
  · have ns := S1.noslot hp
    obtain ⟨S2, l2⟩ := S1.bar1 (o := .lst us) hp
    have g2 : Lf m H m1 (upd H1 p (.lst us)) := g1.trans (Lf.of_same (same_upd hp))
    have lb : ∀ a, G.bar Own a → G.bar (fun a => Own a ∨ a = p) a := fun a z => z.elim .inl fun q => .inr (.inl q)
    have back : ∀ x mu', ES G W rho σ Own m H x mu' → ES G W rho σ (fun a => Own a ∨ a = p) m1 (upd H1 p (.lst us)) x mu' := fun x mu' q c dd H' m' g3 S' xr => q c dd H' m' (g2.trans g3) (S'.unbar ns) (xr.less lb)
    have h2 := wp_bnd h1
    refine TPx.to (A := fun ss mu2 => ∀ vs H' m' Own', Lf m H m' H' → Le m (G.bar Own) H m' (G.bar Own') H' → (∀ a, Own a → Own' a) → StR G rho mu2 σ H' m' Own' → Pend m' (G.bar Own') H' Own' rho σ H (Sl.own xs :: ss) vs → Q vs H') S2 ?_ fun ss mu3 vs H3 m3 O3 h3 g3 l3 o3 S3 p3 => ?_
    · cases e : r rho mu1 with
      | ok z mu2 => rw [e] at h2; exact h2
      | exc x mu2 => rw [e] at h2; exact back x mu2 h2
      | bad => rw [e] at h2; exact h2
    · have nm : p ∉ m1 := (S1.fresh hp).1
      have hp3 : H3 p = some (.lst us) := g3.keep p _ upd_same (fun _ z => nomatch z) nm id
      refine h3 _ H3 m3 O3 (g2.trans g3) (((g1.le _).trans l2).trans l3) (fun a z => o3 a (.inl z)) S3 ⟨.cons ⟨p, us, rfl, o3 p (.inr rfl), hp3, RDs.mono (l2.trans l3) r1, ns, g1.dom p hp⟩ (paired_imp (fun s u z => by
        cases s with
        | un => exact z
        | val x => exact z
        | own ys => obtain ⟨a, us, e1, e2, e3, e4, e5, e6⟩ := z; exact ⟨a, us, e1, e2, e3, e4, e5, g2.dom a e6⟩) p3.each), fun i j a zs ys hij e1 e2 e3 e4 => ?_⟩
      have far : ∀ (j : Nat) (ys : List Da), ss[j]? = some (Sl.own ys) → vs[j]? ≠ some (V.ref p) := fun j ys ej ev => by
        obtain ⟨u, eu, a, us2, f1, _, _, _, _, f6⟩ := paired_get p3.each ej
        rw [ev] at eu
        cases eu
        cases f1
        rw [upd_same] at f6
        cases f6
      cases i with
      | zero =>
        cases j with
        | zero => exact hij rfl
        | succ j =>
          have ea : p = a := by cases e3; rfl
          subst ea
          exact far j ys e2 e4
      | succ i =>
        cases j with
        | zero =>
          have ea : p = a := by cases e4; rfl
          subst ea
          exact far i zs e1 e3
        | succ j => exact p3.apart i j a zs ys (fun z => hij (congrArg Nat.succ z)) e1 e2 e3 e4
/-- the plain stores of two, three local names -/
theorem par_use {is : List Nat} {p : PvD} {D : Ends} {rho : Ev} {mu : Mem} {σ : L2.St} {H : Hp} {m : List Addr} {Own : Addr → Prop} (S : StR G rho mu σ H m Own) (h : SOk G W D m Own H (sPar is p rho mu)) :
    TPx G W p σ H fun vs H1 => vs.length = is.length ∧ D.nx (setSt is vs σ) H1 := by
  refine TPx.to S (use_wp (σ := σ) h) fun ss mu1 vs H1 m1 O1 h1 g1 l1 o1 S1 p1 => ?_
  cases e : setAll is ss rho with
  | none => rw [e] at h1; exact h1.elim
  | some rho' =>
    rw [e] at h1
    obtain ⟨S2, hl⟩ := S1.setAll p1 e
    exact ⟨hl, h1 _ H1 m1 O1 l1 S2⟩
theorem s_par2 {i j : Nat} {x y : Str} {p : PvD} {px py pt pt2 : Pos} {kt k2} (ha : PA X [a, b] (TPx G W p)) (hN : X.N.Nodup) (hi : X.N[i]? = some x := by rfl) (hj : X.N[j]? = some y := by rfl) (hij : i ≠ j := by decide) (hx : X.env.scope.names.lookup x = some .local := by rfl) (hy : X.env.scope.names.lookup y = some .local := by rfl)
    (hw : swappedStores [.Tuple [.Name x px, .Name y py] kt pt] (.Tuple [a, b] k2 pt2) X.env = pure (some [x, y]) := by rfl) (hs : swapsWithSole [.Tuple [.Name x px, .Name y py] kt pt] (.Tuple [a, b] k2 pt2) pos.line X.env = pure false := by rfl) (hc : X.calm = true := by rfl) :
    PS X (.Assign [.Tuple [.Name x px, .Name y py] kt pt] (.Tuple [a, b] k2 pt2) pos) (TSx G W (sPar [i, j] p)) := by
  refine PSw (ps_par hc hN hi hj hij hx hy ha hw hs) fun D σ H ⟨rho, mu, m, Own, S, h⟩ => ?_
  obtain ⟨rho', mu', m', Own', S', q⟩ := par_use S h
  refine ⟨rho', mu', m', Own', S', wp_and q fun ss u q vs H' m' O' g l o S' p => ?_⟩
  obtain ⟨hl, qn⟩ := q vs H' m' O' g l o S' p
  match vs, hl, qn with
  | [v, w], _, qn => exact ⟨v, w, rfl, qn⟩
theorem s_par3 {i j l : Nat} {x y z : Str} {p : PvD} {px py pz pt pt2 : Pos} {kt k2} (ha : PA X [a, b, c] (TPx G W p)) (hN : X.N.Nodup) (hi : X.N[i]? = some x := by rfl) (hj : X.N[j]? = some y := by rfl) (hl : X.N[l]? = some z := by rfl) (hij : i ≠ j := by decide) (hil : i ≠ l := by decide) (hjl : j ≠ l := by decide)
    (hx : X.env.scope.names.lookup x = some .local := by rfl) (hy : X.env.scope.names.lookup y = some .local := by rfl) (hz : X.env.scope.names.lookup z = some .local := by rfl)
    (hw : swappedStores [.Tuple [.Name x px, .Name y py, .Name z pz] kt pt] (.Tuple [a, b, c] k2 pt2) X.env = pure (some [x, y, z]) := by rfl) (hs : swapsWithSole [.Tuple [.Name x px, .Name y py, .Name z pz] kt pt] (.Tuple [a, b, c] k2 pt2) pos.line X.env = pure false := by rfl) (hc : X.calm = true := by rfl) :
    PS X (.Assign [.Tuple [.Name x px, .Name y py, .Name z pz] kt pt] (.Tuple [a, b, c] k2 pt2) pos) (TSx G W (sPar [i, j, l] p)) := by
  refine PSw (ps_par3 hc hN hi hj hl hij hil hjl hx hy hz ha hw hs) fun D σ H ⟨rho, mu, m, Own, S, h⟩ => ?_
  obtain ⟨rho', mu', m', Own', S', q⟩ := par_use S h
  refine ⟨rho', mu', m', Own', S', wp_and q fun ss u q vs H' m' O' g l o S' p => ?_⟩
  obtain ⟨hl, qn⟩ := q vs H' m' O' g l o S' p
  match vs, hl, qn with
  | [u, v, w], _, qn => exact ⟨u, v, w, rfl, qn⟩
/-- .. of any names, by a tuple -/
theorem gNames_set : ∀ {is : List Nat} {vs : List V} {σ : L2.St} {H : Hp} {Q : L2.St → Hp → Prop}, vs.length = is.length → Q (setSt is vs σ) H → gNames is vs σ H Q
  | [], [], _, _, _, _, q => ⟨rfl, q⟩
  | [], _ :: _, _, _, _, h, _ => by cases h
  | _ :: _, [], _, _, _, h, _ => by cases h
  | i :: is, v :: vs, σ, H, Q, h, q => ⟨v, vs, rfl, gNames_set (is := is) (Nat.succ.inj h) q⟩
theorem s_parT {is : List Nat} {es ts : List Expr} {p : PvD} {pt pt2 : Pos} {kt k2} (ha : PA X es (TPx G W p)) (hg : PGs X ts (gNames is)) (hz : is.length ≤ sizeLine := by decide) (hl : (assignEach ts X.env).length = is.length := by rfl) (hst : (assignEach ts X.env).findIdx? (·.1) = none := by rfl)
    (hs : swapsWithSole [.Tuple ts kt pt] (.Tuple es k2 pt2) pos.line X.env = pure false := by rfl) (hw : swappedStores [.Tuple ts kt pt] (.Tuple es k2 pt2) X.env = pure none := by rfl) (h1 : (assignEach [.Tuple ts kt pt] X.env).map (·.2) = [assign (.Tuple ts kt pt) X.env] := by rfl) (hc : X.calm = true := by rfl) :
    PS X (.Assign [.Tuple ts kt pt] (.Tuple es k2 pt2) pos) (TSx G W (sPar is p)) := by
  refine PSw (ps_asg (pe_tup ha) (pg_tup hc hg hl hst) hs hw h1) fun D σ H ⟨rho, mu, m, Own, S, h⟩ => ?_
  refine TPx.to S (use_wp (σ := σ) h) fun ss mu1 vs H1 m1 O1 h1 g1 l1 o1 S1 p1 => ?_
  cases e : setAll is ss rho with
  | none => rw [e] at h1; exact h1.elim
  | some rho' =>
    rw [e] at h1
    obtain ⟨S2, hl⟩ := S1.setAll p1 e
    refine ⟨by rw [hl]; exact hz, fun t ht => ⟨t, vs, rfl, SqT.of upd_same, hl, gNames_set hl ?_⟩⟩
    exact h1 _ _ m1 O1 (l1.trans ((Lf.of_same (same_upd ht)).le _)) (S2.same (same_upd ht))
/-! ### x += e -/
def sAug (i : Nat) (f : Int → Int → Int) (e : EvD) : StD := fun rho mu => match rho[i]? with
  | some (.val (.int x)) => sUse (e rho mu) rho fun d mu' => match d with
    | .int y => .nx (rho.set i (.val (.int (f x y)))) mu'
    | _ => .bad
  | _ => .bad
theorem s_aug {i : Nat} {x : Str} {op : Operator} {f : Int → Int → Int} {pos' : Pos} (ho : PIp X op (ipI f)) (he : PE X e (TEx G W d)) (hN : X.N.Nodup) (hi : X.N[i]? = some x := by rfl) (hx : Loc X.env.scope x := by first | exact Or.inl rfl | exact Or.inr rfl)
    (hf : X.fn x = true ∨ X.env.scope.names.lookup x = some .local := by first | exact .inl rfl | exact .inr rfl) : PS X (.AugAssign (.Name x pos') op e pos) (TSx G W (sAug i f d)) := by
  refine PSw (ps_aug hN hi hx he ho hf) fun D σ H ⟨rho, mu, m, Own, S, h⟩ => ?_
  unfold sAug at h
  cases e1 : rho[i]? with
  | none => rw [e1] at h; exact h.elim
  | some s =>
    rw [e1] at h
    match s, h, e1 with
    | .val (.int x), h, e1 =>
      obtain ⟨v, ev, rv⟩ := S.var e1
      cases rv
      refine ⟨_, ev, TEx.to S (use_wp (σ := σ) h) fun z mu1 v H1 m1 h1 g1 S1 r1 => ?_⟩
      cases z with
      | int y =>
        cases r1
        exact ⟨x, y, rfl, rfl, h1 _ H1 m1 Own (g1.le _) (S1.setv i (.int _))⟩
      | _ => exact h1.elim
end
end Sk

/-! Sk L: repr, isinstance, the script, extend. -/
namespace Sk
open PySem PySem.Spec L2

mutual
theorem noDict : ∀ d : Da, (toPy d).hasDict = false
  | .non => rfl
  | .bl _ => rfl
  | .int _ => rfl
  | .str _ => rfl
  | .tup xs => by show PyData.hasDictAll (toPys xs) = false; exact noDicts xs
  | .lst xs => by show PyData.hasDictAll (toPys xs) = false; exact noDicts xs
  | .ref _ => rfl
theorem noDicts : ∀ ds : List Da, PyData.hasDictAll (toPys ds) = false
  | [] => rfl
  | d :: ds => by
    show ((toPy d).hasDict || PyData.hasDictAll (toPys ds)) = false
    rw [noDict d, noDicts ds]
    rfl
end
/-- the text of repr, where it is told -/
def okRepr (d : Da) : Bool := isD d && (toPy d).showable && decide ((toPy d).depth ≤ 60) && decide ((toPy d).shown.length ≤ sizeLine)
def reprD : List Da → Option Da
  | [d] => if okRepr d = true then some (.str (toPy d).shown) else none
  | _ => none
section
variable {X : Cx}
def rRepr (K : PySem.W.Frag) : List V → Hp → VK → Prop := fun xs H Q => ∃ x d, xs = [x] ∧ Dp K H x d ∧ d.showable = true ∧ d.hasDict = false ∧ d.depth ≤ 60 ∧ d.shown.length ≤ sizeLine ∧ Q (.str d.shown) H
theorem callr_repr (hu : X.A.units + 64 < cLine) (hg : X.A.guards = some []) : CallR X (.builtin "repr") (rRepr X.K) := by
  intro pins s σ H xs us Q I r h
  obtain ⟨x, d, rfl, hd, hs, hn, hdep, hz, q⟩ := h
  cases r with
  | cons r rr =>
    cases rr
    cases hd with
    | non =>
      cases r
      exact PySem.P.repr_of_none ⟨.str _, H, I.tok _, ⟨_, rfl⟩, by simpa only [PyData.shown] using q⟩
    | bl b =>
      cases r
      exact PySem.P.repr_of_bool ⟨.str _, H, I.tok _, ⟨_, rfl⟩, by simpa only [PyData.shown] using q⟩
    | int i =>
      obtain ⟨t, rfl⟩ := r
      exact PySem.P.repr_of_int (by simpa [PyData.showable] using hs) ⟨.str _, H, I.tok _, ⟨_, rfl⟩, by simpa only [PyData.shown] using q⟩
    | str y =>
      obtain ⟨t, rfl⟩ := r
      exact PySem.P.repr_of_str ⟨.str _, H, I.tok _, ⟨_, rfl⟩, by simpa only [PyData.shown] using q⟩ (by simpa only [PyData.shown] using hz)
    | @lst a xs ds h1 h2 =>
      obtain ⟨as, rd⟩ := Dp.reads I _ _ _ (.lst h1 h2) r
      cases r
      exact repr_of_reads' rd hs (fun z => by rw [hn] at z; cases z) hg (by omega) (fun _ _ e => e) (fun h' u tk k => ⟨.str _, H, I.kept k, ⟨u, rfl⟩, q⟩) hz
    | @tup a xs ds h1 h2 =>
      obtain ⟨as, rd⟩ := Dp.reads I _ _ _ (.tup h1 h2) r
      cases r
      exact repr_of_reads' rd hs (fun z => by rw [hn] at z; cases z) hg (by omega) (fun _ _ e => e) (fun h' u tk k => ⟨.str _, H, I.kept k, ⟨u, rfl⟩, q⟩) hz
theorem b_repr {k : Nat} (hr : Rm k X.A) : CallD X (.builtin "repr") reprD := by
  refine ⟨_, callr_repr hr.r.units hr.gd, fun m B H xs z vs Q e r fr q => ?_⟩
  match xs, e with
  | [d], e =>
    obtain ⟨hz, rfl⟩ := ite_inv e
    unfold okRepr at hz
    simp only [Bool.and_eq_true, decide_eq_true_eq] at hz
    cases r with
    | cons r1 r2 =>
      cases r2
      exact ⟨_, _, rfl, RD.dp r1 hz.1.1.1, hz.1.1.2, noDict d, hz.1.2, hz.2, q _ _ (Same.refl _) (.str _)⟩
end
section
variable {X : Cx} {G : Fr} {W : WX} {pos : Pos} {a b : Expr} {da db : EvD}
/-- isinstance(e, T), T a built-in class -/
theorem c_isi {T x : Str} {Ts : String} {p p2 : Pos} (hm : X.mg "isinstance" = none) (hT : X.mg x = none) (hb : bootBuiltins x = some (.type Ts)) (ha : PE X a (TEx G W da)) (hg : Gl X "isinstance" := by rfl) (hgT : Gl X x := by rfl) (hn : x ≠ "__name__" := by decide) (hd : (x == ("__debug__" : Str)) = false := by decide)
    (h1 : starEach [a, .Name x p2] X.env = (false, eval a X.env) :: starEach [.Name x p2] X.env := by rfl) (h2 : starEach [.Name x p2] X.env = (false, eval (.Name x p2) X.env) :: starEach [] X.env := by rfl) (h3 : (backTo pos (starEach [.Name x p2] X.env)).any (·.1) = false := by rfl) :
    PE X (.Call (.Name "isinstance" p) [a, .Name x p2] [] pos) (TEx G W (e1 (isiB Ts) da)) := by
  refine PEw (pe_callB call_isi hg hm (by decide +kernel) (pa_cons ha (pa_cons (pe_bltn (v := .ty Ts) hgT hT hb rfl hn hd) pa_nil h2) h1) (by decide) (by decide) h1 h3) fun σ H Q h => ?_
  obtain ⟨rho, mu, m, Own, S, h⟩ := h.un
  refine TEx.to S (wp_bnd h) fun x mu1 v H1 m1 h1 g1 S1 r1 => ?_
  obtain ⟨z, e, q⟩ := wp_opt h1
  cases et : tyD x with
  | none => unfold isiB at e; rw [et] at e; cases e
  | some t =>
    unfold isiB at e
    rw [et] at e
    cases ek : kitB t Ts with
    | none => rw [show (some t).bind (fun t => (kitB t Ts).map Da.bl) = (kitB t Ts).map Da.bl from rfl, ek] at e; cases e
    | some k =>
      rw [show (some t).bind (fun t => (kitB t Ts).map Da.bl) = (kitB t Ts).map Da.bl from rfl, ek] at e
      cases e
      exact ⟨v, .ty Ts, .type t, .type Ts, k, rfl, .ty Ts, RD.tyx r1 et, kit_ty ek, q _ H1 m1 g1 S1 (.bl _)⟩
/-! ### script + [0] -/
def eScr (a b : EvD) : EvD := fun rho mu => bnd (a rho mu) fun x mu1 => bnd (b rho mu1) fun y mu2 => match x, y with
  | .ref n, .lst ys => (match mu2[n]? with
    | some (.scr xs) => if xs.length + ys.length ≤ sizeLine then .ok (.lst (xs ++ ys)) mu2 else .bad
    | _ => .bad)
  | _, _ => .bad
theorem op_catS : OpR X (binaryOp .Add) (fun x y H Q => ∃ l k xs zs, x = .ref l ∧ y = .ref k ∧ SqL X.K H l xs ∧ SqL X.K H k zs ∧ xs.length + zs.length ≤ sizeLine ∧ ∀ p, H p = none → Q (.ref p) (upd H p (.lst (xs ++ zs)))) := by
  intro pins s σ H x y v u Q I rx ry h
  obtain ⟨l, k, xs, zs, rfl, rfl, hl, hk, hz, q⟩ := h
  cases rx
  cases ry
  obtain ⟨its, r, ⟨⟨c, dd, dt, sl⟩, n, e, ec, ed, ex⟩, _⟩ := I.list hl
  obtain ⟨its2, r2, ⟨⟨c2, dd2, dt2, sl2⟩, n2, f, fc, fd, fx⟩, _⟩ := I.list hk
  simp only at ec ex fc fx
  subst ec ex fc fx
  have sz : its.toArray.size + its2.toArray.size ≤ sizeLine := by rw [List.size_toArray, List.size_toArray, ← r.length, ← r2.length]; exact hz
  refine concat_meets ⟨_, e, rfl⟩ ⟨_, f, rfl⟩ noFill_list_add seq_list_add PySem.F.slot_list_add PySem.F.entry_list_add (PySem.F.args_list_add_2 _ _) (PyProof.Rows.list_addW l k its.toArray its2.toArray n n2 dd dd2 sl sl2 sz) ⟨e, f, ?_⟩
  rw [show its.toArray ++ its2.toArray = (its ++ its2).toArray by simp]
  exact ⟨.ref _, _, I.lnew (t' := s.toks) (r.append r2) (by rw [List.length_append]; exact hz), rfl, q _ I.fresh⟩
theorem c_scr (ha : PE X a (TEx G W da)) (hb : PE X b (TEx G W db)) : PE X (.BinOp a .Add b pos) (TEx G W (eScr da db)) := by
  refine PEw (pe_op op_catS ha hb) fun σ H Q h => ?_
  obtain ⟨rho, mu, m, Own, S, h⟩ := h.un
  refine TEx.to S (wp_bnd h) fun x mu1 v1 H1 m1 h1 g1 S1 r1 => TEx.to S1 (wp_step g1 (wp_bnd h1)) fun y mu2 v2 H2 m2 h2 g2 S2 r2 => ?_
  cases x with
  | ref n =>
    cases y with
    | lst ys =>
      dsimp only at h2
      cases r1 with
      | ref hn =>
        cases eo : mu2[n]? with
        | none => rw [eo] at h2; exact h2.elim
        | some o =>
          rw [eo] at h2
          cases o with
          | scr xs =>
            dsimp only at h2
            by_cases hz : xs.length + ys.length ≤ sizeLine
            · rw [if_pos hz] at h2
              obtain ⟨ob, us, e, rs⟩ := S2.num (g2.num hn) eo
              cases r2 with
              | lst b1 b2 b3 b4 =>
                exact ⟨_, _, us, _, rfl, rfl, .inl (.inr ⟨ob, e⟩), SqL.of b3, by rw [← rs.length, ← b4.length]; exact hz, fun p hp => h2 _ _ m2 (g1.trans (g2.trans (Lf.of_same (same_upd hp)))) (S2.same (same_upd hp)) (RD.new_lst (rs.append b4) hp (S2.fresh hp).1 (S2.fresh hp).2)⟩
            · rw [if_neg hz] at h2
              exact h2.elim
          | _ => exact h2.elim
    | _ => exact h2.elim
  | _ => exact h2.elim
/-! ### x.extend(e) -/
def sExt (i : Nat) (e : EvD) : StD := fun rho mu => match rho[i]? with
  | some (.own xs) => sUse (e rho mu) rho fun d mu' => match d with
    | .lst ys => if xs.length + ys.length ≤ sizeLine then .nx (rho.set i (.own (xs ++ ys))) mu' else .bad
    | _ => .bad
  | _ => .bad
theorem s_ext {i : Nat} {o e : Expr} {apos cpos : Pos} {d : EvD} (ho : PE X o (tVar i)) (he : PE X e (TEx G W d)) (hs : swapsWith (.Call (.Attribute o "extend" apos) [e] [] cpos) none pos.line X.env = pure false := by rfl) (hbase : attributeBase o "extend" X.env (eval o X.env) = eval o X.env := by rfl)
    (hfew : ((backTo cpos (starEach [e] X.env)).all (fun x => !x.1) && (backToKw cpos (keywordEach [] X.env)).all (fun x => x.1.isSome) && decide ([e].length + ([] : List Keyword).length + (if ([] : List Keyword).isEmpty then 0 else 1) < 30)) = true := by rfl)
    (hline : (apos.endLine == cpos.line) = true := by rfl) (hst : starEach [e] X.env = (false, eval e X.env) :: starEach [] X.env := by rfl) (hpl : (backTo cpos (starEach [] X.env)).any (·.1) = false := by rfl) :
    PS X (.Expr (.Call (.Attribute o "extend" apos) [e] [] cpos) pos) (TSx G W (sExt i d)) := by
  refine PSw (ps_expr (pe_bm PySem.F.plainAttrs_list PySem.F.slot_list_extend PySem.F.type_list_extend mt_extend ho (pa_cons he pa_nil hst) hbase hfew hline hst hpl) hs) fun D σ H ⟨rho, mu, m, Own, S, h⟩ => ?_
  unfold sExt at h
  cases e1 : rho[i]? with
  | none => rw [e1] at h; exact h.elim
  | some s =>
    rw [e1] at h
    cases s with
    | un => exact h.elim
    | val _ => exact h.elim
    | own xs =>
      obtain ⟨p, us, ev, nm, op, hp, rl⟩ := own_at S e1
      refine ⟨_, ev, .inl ⟨rfl, _, SqL.of hp⟩, TEx.to S (use_wp (σ := σ) h) fun z mu2 v H2 m2 h2 g2 S2 r2 => ?_⟩
      have hp2 : H2 p = some (.lst us) := g2.keep p _ hp (fun _ z => nomatch z) nm id
      cases r2 with
      | lst b1 b2 b3 b4 =>
        rename_i ys ws
        dsimp only at h2
        by_cases hz : xs.length + ys.length ≤ sizeLine
        · rw [if_pos hz] at h2
          refine ⟨p, _, us, ws, rfl, rfl, hp2, b3, by rw [← rl.length, ← b4.length]; exact hz, ?_⟩
          obtain ⟨S3, g3⟩ := S2.fill (us := us) e1 ev ((RDs.mono (g2.le _) rl).append b4)
          exact h2 σ _ m2 Own ((g2.le _).trans g3) S3
        · rw [if_neg hz] at h2
          exact h2.elim
      | _ => exact h2.elim
end
end Sk

/-! Sk M: the program's defs by names; the law's end. -/
namespace Sk
open PySem PySem.Spec L2

def negD : Da → Option Da
  | .int i => some (.int (-i))
  | _ => none
section
variable {X : Cx} {G : Fr} {W : WX} {pos : Pos} {a : Expr} {da : EvD}
theorem c_neg (ha : PE X a (TEx G W da)) : PE X (.UnaryOp .USub a pos) (TEx G W (e1 negD da)) := by
  refine PEw (pe_un un_neg ha) fun σ H Q h => ?_
  obtain ⟨rho, mu, m, Own, S, h⟩ := h.un
  refine TEx.to S (wp_bnd h) fun x mu1 v1 H1 m1 h1 g1 S1 r1 => ?_
  obtain ⟨z, e, q⟩ := wp_opt h1
  cases x with
  | int i =>
    cases e
    cases r1
    exact ⟨i, rfl, q _ H1 m1 g1 S1 (.int _)⟩
  | _ => cases e
theorem c_gint {x : Str} {i : Int} (h : ∃ t, X.mg x = some (.int i t)) (hg : Gl X x := by rfl) (hd : (x == ("__debug__" : Str)) = false := by decide) : PE X (.Name x pos) (TEx G W (eK (.int i))) := by
  obtain ⟨t, e⟩ := h
  exact c_con (pe_glob (v := .int i) hg e ⟨t, rfl⟩ hd) fun _ _ _ => .int i
theorem c_gstr {x z : Str} (h : ∃ t, X.mg x = some (.str z t)) (hg : Gl X x := by rfl) (hd : (x == ("__debug__" : Str)) = false := by decide) : PE X (.Name x pos) (TEx G W (eK (.str z))) := by
  obtain ⟨t, e⟩ := h
  exact c_con (pe_glob (v := .str z) hg e ⟨t, rfl⟩ hd) fun _ _ _ => .str z
end

/-! ### the program's names -/
structure Tx (K : PySem.W.Frag) (mg : Str → Option Value) (h : Heap) (fa : List He.Fa) (fn : List He.DefD) : Prop where
  kin : K.In h
  ns : h.Ns mainGlobals mg
  says : He.SaysD fa fn K
section
variable {K : PySem.W.Frag} {mg : Str → Option Value} {h : Heap} {fa : List He.Fa} {fn : List He.DefD}
theorem Tx.fact (T : Tx K mg h fa fn) (i : Nat) {f : He.Fa} (e : fa[i]? = some f := by rfl) : f.ok K = true := T.says.fact i e
theorem Tx.free (T : Tx K mg h fa fn) (i : Nat) {x : Str} (e : fa[i]? = some (.free x) := by rfl) : mg x = none := He.free_ok T.kin T.ns (T.fact i e)
theorem Tx.glo (T : Tx K mg h fa fn) (i : Nat) {x : Str} (e : fa[i]? = some (.glo x) := by rfl) : mg x = some (.ref (He.ga K x)) := He.glo_ok T.kin T.ns (T.fact i e)
theorem Tx.int (T : Tx K mg h fa fn) (i : Nat) {x : Str} {z : Int} (e : fa[i]? = some (.int x z) := by rfl) : ∃ t, mg x = some (.int z t) := He.int_ok T.kin T.ns (T.fact i e)
theorem Tx.str (T : Tx K mg h fa fn) (i : Nat) {x z : Str} (e : fa[i]? = some (.str x z) := by rfl) : ∃ t, mg x = some (.str z t) := He.str_ok T.kin T.ns (T.fact i e)
end
/-- a def of the text as a datum -/
abbrev dOf (x : Str) (st : Stmt) : He.DefD := ⟨(x, none), x, x, defArgs st, defBody st, defScope st, [], []⟩
abbrev FDof (K : PySem.W.Frag) (x : Str) (st : Stmt) (fd : FuncData) : Prop := FunD K x x (defArgs st) (defBody st) (defScope st) [] [] (He.ga K x) fd
/-- a def that does what fn does -/
structure Df (P : Program) (w : World) (K : PySem.W.Frag) (mg : Str → Option Value) (base : Heap) (k : Nat) (x : Str) (st : Stmt) (ps : List Str) (fn : Fn) : Prop where
  ex : ∃ fd, FDof K x st fd ∧ FnG P w K mg base k (He.ga K x) fd ps (spOf K fn)
  mg : mg x = some (.ref (He.ga K x))
theorem Df.of {P : Program} {w : World} {K : PySem.W.Frag} {mg : Str → Option Value} {base : Heap} {h : Heap} {fa : List He.Fa} {fn : List He.DefD} {k n z : Nat} {x : Str} {st : Stmt} {N ps : List Str} {bd : StD} (T : Tx K mg h fa fn) (i j : Nat) (S : FnScope N ps (defScope st))
    (hb : ∀ (cdv : Value) (A : Around) (out : List Env) (s : Shared) (H : Hp) (E : XK) (G : Fr), G.K = K → Rm k (A.deeper (PyProof.Rows.envOfC x (defScope st) s.heap.objs.size (He.ga K x) cdv)) →
      Takes (cxOf (CXx P w) P w K mg base N x (defScope st) (He.ga K x) cdv A out s H E) (fun c d _ H' => E c d H') →
      PassesOwn (model P w) (A.deeper (PyProof.Rows.envOfC x (defScope st) s.heap.objs.size (He.ga K x) cdv)) (PyProof.Rows.envOfC x (defScope st) s.heap.objs.size (He.ga K x) cdv) (cxOf (CXx P w) P w K mg base N x (defScope st) (He.ga K x) cdv A out s H E).xe →
      PSs (cxOf (CXx P w) P w K mg base N x (defScope st) (He.ga K x) cdv A out s H E) (defBody st) (TSx G (fun c d _ H' => E c d H') bd))
    (hd : fn[i]? = some (dOf x st) := by rfl) (hf : fa[j]? = some (.glo x) := by rfl) (hn : ps.length = n := by rfl) (hN : N.length = n + z := by rfl) : Df P w K mg base (k + 1) x st ps (fnD n z bd) := by
  obtain ⟨fd, F⟩ := T.says.def_ i hd
  exact ⟨⟨fd, F, fnG_ok F S hn hN fun cdv A out s H E G e hr => hb cdv A out s H E G e hr (takes_of rfl rfl rfl rfl) (passes_of rfl)⟩, T.glo j hf⟩
section
variable {X : Cx} {G : Fr} {W : WX} {k lv : Nat} {x : Str} {st : Stmt} {ps : List Str} {p pos : Pos} {e : Expr} {es : List Expr} {fn : Fn}
abbrev BindOk (x : Str) (st : Stmt) (ps : List Str) : Prop := ∀ (kV doc pm : Value) (an : Option Addr) (cdv ct : Value) (us : List Value), us.length = ps.length → bindArgs (PySem.W.fnOf x x (defArgs st) (defBody st) (defScope st) .none kV doc pm an cdv ct) ⟨us, []⟩ = pure (ps.zip us)
/-- f(e, ..) of a def of the text -/
theorem c_f {r : Ev → Mem → Out (List Da)} (F : Df X.prog X.w X.K X.mg X.base k x st ps fn) (hb : BindOk x st ps) (hK : G.K = X.K) (hr : Rm lv X.A) (tk : Takes X W) (ha : PA X (e :: es) (TAx G W r)) (hlv : k ≤ lv := by decide) (hg : Gl X x := by rfl) (hdb : (x == ("__debug__" : Str)) = false := by decide)
    (he : starEach (e :: es) X.env = (false, eval e X.env) :: starEach es X.env := by rfl) (hpl : (backTo pos (starEach es X.env)).any (·.1) = false := by rfl) : PE X (.Call (.Name x p) (e :: es) [] pos) (TEx G W (eC fn r)) := by
  obtain ⟨fd, F1, F2⟩ := F.ex
  exact c_call hK F2 (hr.mono hlv) F.mg F1.kp (F1.bindsN hb) tk ha hg hdb he hpl
theorem PKw {kws : List Keyword} {t t' : TA} (h : PK X kws t) (w : ∀ σ H Q, t' σ H Q → t σ H Q) : PK X kws t' := ⟨fun pos pins s σ H Q I q => h.run pos pins s σ H Q I (w σ H Q q)⟩
theorem k_nil : PK X [] (TAx G W aN) := PKw pk_nil fun σ H Q h => by
  obtain ⟨rho, mu, m, Own, S, h⟩ := h
  exact h [] H m Lf.refl S .nil
theorem k_cons {kws : List Keyword} {nm : Option Str} {kp : Pos} {d : EvD} {r : Ev → Mem → Out (List Da)} (ha : PE X e (TEx G W d)) (hr : PK X kws (TAx G W r)) : PK X (⟨nm, e, kp⟩ :: kws) (TAx G W (aC d r)) := by
  refine PKw (pk_cons ha hr) fun σ H Q h => ?_
  obtain ⟨rho, mu, m, Own, S, h⟩ := h.un
  refine TEx.to S (wp_bnd h) fun x mu1 v1 H1 m1 h1 g1 S1 r1 => TAx.to S1 (wp_step g1 (wp_bnd h1)) fun y mu2 v2 H2 m2 h2 g2 S2 r2 => ?_
  exact h2 _ H2 m2 (g1.trans g2) S2 (.cons (r1.mono (g2.le _)) r2)
/-- f(k = v, ..): the values come into the parameters' order -/
def pick {α : Type} (perm : List Nat) (l : List α) : List α := perm.filterMap fun i => l[i]?
def eCK (fn : Fn) (perm : List Nat) (b : Ev → Mem → Out (List Da)) : EvD := fun rho mu => bnd (b rho mu) fun ys mu1 => fn (pick perm ys) mu1
abbrev BindKw (x : Str) (st : Stmt) (ps ks : List Str) (perm : List Nat) : Prop := ∀ (kV doc pm : Value) (an : Option Addr) (cdv ct : Value) (ws : List Value), ws.length = ks.length → bindArgs (PySem.W.fnOf x x (defArgs st) (defBody st) (defScope st) .none kV doc pm an cdv ct) ⟨[], ks.zip ws⟩ = pure (ps.zip (pick perm ws))
theorem RDs.none_at {m : List Addr} {B : Addr → Prop} {H : Hp} : ∀ {ds : List Da} {vs : List V} {i : Nat}, RDs m B H ds vs → ds[i]? = none → vs[i]? = none := fun {ds vs i} r e => by
  rw [List.getElem?_eq_none_iff] at e ⊢
  rw [← r.length]
  exact e
theorem RDs.pick {m : List Addr} {B : Addr → Prop} {H : Hp} {ds : List Da} {vs : List V} (r : RDs m B H ds vs) : ∀ perm : List Nat, RDs m B H (Sk.pick perm ds) (Sk.pick perm vs)
  | [] => .nil
  | i :: perm => by
    unfold Sk.pick
    rw [List.filterMap_cons, List.filterMap_cons]
    cases e : ds[i]? with
    | none => rw [r.none_at e]; exact RDs.pick r perm
    | some d =>
      obtain ⟨v, ev, rv⟩ := r.get e
      rw [ev]
      exact .cons rv (RDs.pick r perm)
theorem Vals.pick {vs : List V} {us : List Value} (r : Vals vs us) : ∀ perm : List Nat, Vals (Sk.pick perm vs) (Sk.pick perm us)
  | [] => .nil
  | i :: perm => by
    unfold Sk.pick
    rw [List.filterMap_cons, List.filterMap_cons]
    cases e : vs[i]? with
    | none => rw [r.none_of e]; exact Vals.pick r perm
    | some d =>
      obtain ⟨v, ev, rv⟩ := r.get e
      rw [ev]
      exact .cons rv (Vals.pick r perm)
theorem c_fk {kws : List Keyword} {ks : List Str} {perm : List Nat} {r : Ev → Mem → Out (List Da)} (F : Df X.prog X.w X.K X.mg X.base k x st ps fn) (hb : BindKw x st ps ks perm) (hK : G.K = X.K) (hr : Rm lv X.A) (tk : Takes X W) (ha : PK X kws (TAx G W r)) (hln : ∀ rho mu xs mu', r rho mu = .ok xs mu' → xs.length = ks.length) (hlv : k ≤ lv := by decide) (hg : Gl X x := by rfl) (hdb : (x == ("__debug__" : Str)) = false := by decide)
    (hall : (backToKw pos (keywordEach kws X.env)).all (·.1.isSome) = true := by rfl) (hks : (backToKw pos (keywordEach kws X.env)).filterMap (·.1) = ks := by rfl) (hpl : ((backTo pos (starEach [] X.env)).any (·.1) || (backToKw pos (keywordEach kws X.env)).any (·.1.isNone)) = false := by rfl) :
    PE X (.Call (.Name x p) [] kws pos) (TEx G W (eCK fn perm r)) := by
  obtain ⟨fd, F1, F2⟩ := F.ex
  obtain ⟨oc, od, dV, kV, doc, pm, an, cdv, ct, osl, efd, lk, hcd, hD, hKw⟩ := id F1.ex
  have edV : dV = .none := by
    rcases hD with ⟨_, z⟩ | ⟨z, _⟩
    · exact z
    · exact absurd rfl z
  subst edV
  refine ⟨fun pins s σ H Q I h => wpAny_Call_Name_kw (ld_glob I hg F.mg ?_ hdb)⟩
  obtain ⟨rho, mu, m, Own, S, h⟩ := h.un
  have e0 := hln rho mu
  have h' := wp_bnd h
  refine PySem.W.callWith_KW0 (h₀ := X.base) I.ok.mod.kin F1.kp hall (thn (ha.run pos pins s σ H _ I (TAx.to (Q := fun vs H1 => vs.length = ks.length ∧ spOf X.K fn (Sk.pick perm vs) H1 Q (fun c d H' => W c d σ H')) (A := fun z mu1 => (fn (Sk.pick perm z) mu1).wp (QE G rho σ Own m H Q) (ES G W rho σ Own m H) ∧ z.length = ks.length) S ?_ fun xs mu1 vs H1 m1 ⟨h1, hl⟩ g1 S1 r1 => ⟨by rw [← r1.length, hl], ?_⟩)) fun ws s2 ⟨zs, H2, I2, rz, hl, q⟩ => ⟨I2.kIn, ?_⟩) hpl
  · cases e : r rho mu with
    | ok z mu1 => rw [e] at h'; exact ⟨h', e0 _ _ e⟩
    | exc x mu1 => rw [e] at h'; exact h'
    | bad => rw [e] at h'; exact h'
  · rw [← hK]
    exact sp_of S1 g1 (r1.pick perm) h1
  · rw [hks]
    refine wpAny_call (codeAny_mono (runG (E := fun σ c d H' => W c d σ H') F2 (hr.mono hlv) (passAt tk σ) I2 (.of_eq (by rw [efd]; exact hb kV doc pm an cdv ct ws (by rw [← rz.length, hl]))) (Vals.pick rz perm) q) fun res s' hq => ?_)
    cases res with
    | error er => exact hq
    | ok fl =>
      cases fl with
      | ret u => exact hq
      | next => exact hq.elim
      | brk => exact hq.elim
      | cont => exact hq.elim
end

/-! ### the law's end -/
/-- the law's promise: any script of at most 63 ints gives True -/
def spLaw (K : PySem.W.Frag) : Sp := fun vs H Q _ => ∃ (a : Addr) (ns : List Int) (o : Obj), vs = [.ref a] ∧ H a = some (.frz o (.lst (ns.map V.int))) ∧ ns.length ≤ 63 ∧ (∀ x ∈ mkrs, ∀ c P, PySem.W.tabIn K x = some (c, P) → P ≠ a ∧ H P = some (.tbl #[])) ∧ ∀ H', Q (.bl true) H'
/-- what the law does as a function of data -/
def Lawful (fn : Fn) : Prop := ∀ ns : List Int, ns.length ≤ 63 → ∃ mu', fn [.ref 0] [.scr (ns.map Da.int)] = .ok (.bl true) mu'
theorem ints_rd {m : List Addr} {B : Addr → Prop} {H : Hp} : ∀ ns : List Int, RDs m B H (ns.map Da.int) (ns.map V.int)
  | [] => .nil
  | n :: ns => .cons (.int n) (ints_rd ns)
theorem law_sp {K : PySem.W.Frag} {fn : Fn} (h : Lawful fn) {vs : List V} {H : Hp} {Q : VK} {E : XK} (q : spLaw K vs H Q E) : spOf K fn vs H Q E := by
  obtain ⟨a, ns, o, rfl, ha, hl, ht, k⟩ := q
  obtain ⟨mu', e⟩ := h ns hl
  refine ⟨[a], NoB, [.ref 0], [.scr (ns.map Da.int)], ⟨fun x hx c P e => ⟨by simpa using (ht x hx c P e).1, fun z => z, (LamX.TabS.nil (q := lamQ x) (ht x hx c P e).2).elim fun ps h => ⟨ps, h.1, h.2.1, fun pos cv hc => (h.2.2 pos cv hc).elim fun c hh => ⟨c, hh.1, by
    intro z
    have ec : c = a := by simpa using z
    rw [ec, ha] at hh
    exact absurd hh.2 (by unfold LamX.CodeO; intro z; cases z), fun z => z, hh.2⟩⟩⟩, .cons ⟨o, _, ha, ints_rd ns⟩ .nil, by simp, fun _ _ z => z, fun _ z => z.elim⟩, .cons (.ref rfl) .nil, ?_⟩
  rw [e]
  intro v H' m' g w r
  cases r
  exact k H'
end Sk

/-! Sk N: the law's call behind the top. -/
namespace Sk
open PySem PySem.Spec L2

/-- the tables of code objects of the defs that make lambdas -/
def IsTb (K : PySem.W.Frag) (P : Addr) : Prop := ∃ x ∈ mkrs, ∃ c, PySem.W.tabIn K x = some (c, P)
/-- .. no two defs have one table -/
def TbD (K : PySem.W.Frag) : Prop := ∀ x ∈ mkrs, ∀ y ∈ mkrs, ∀ c d P, PySem.W.tabIn K x = some (c, P) → PySem.W.tabIn K y = some (d, P) → x = y
/-- .. at the head: empty, out of the written part -/
def TbHd (K : PySem.W.Frag) (h : Heap) : Prop := TbD K ∧ ∀ x ∈ mkrs, ∀ c P, PySem.W.tabIn K x = some (c, P) → PySem.W.CodeHd h c P ∧ h.get? P = some { cls := .none, data := .fields #[] } ∧ K.lookup P = none
/-- .. what a maker asks of its base -/
def TbOk (K : PySem.W.Frag) (mg : Str → Option Value) (base : Heap) : Prop := TbD K ∧ ∀ x ∈ mkrs, ∀ c P, PySem.W.tabIn K x = some (c, P) → LamX.TabB base mg c P
/-- the law's call: the script and the tables are what is tracked -/
theorem law_run {P : Program} {w : World} {K : PySem.W.Frag} {mg mb : Str → Option Value} {k : Nat} {fa a : Addr} {fd : FuncData} {x : Str} {sp : Sp} {s : Shared} {vs : List Value} {ns : List Int} (KX : K.In s.heap) (hns : s.heap.Ns mainGlobals mg) (hb : s.heap.Ns builtinsNs mb)
    (hbb : ∀ x : Str, x ≠ "__name__" → mb x = bootBuiltins x) (hlim : s.heap.NoLimit) (hg : s.gens = #[]) (ha : s.heap.get? a = some { cls := .type "list", data := .seq vs.toArray }) (hi : PyProof.Rows.IntsAre vs ns) (hl : ns.length ≤ sizeLine) (hr : Rm k callerA) (hk : K.lookup a = none)
    (hT : TbHd K s.heap) (hbm : ∃ (bm : Addr) (ob : Obj), mg "__builtins__" = some (.ref bm) ∧ bm ≠ builtinsNs ∧ s.heap.get? bm = some ob ∧ ob.cls = .type "module" ∧ ob.dict = some builtinsNs ∧ ob.data = .plain)
    (F : ∀ base : Heap, K.In base → base.Ns mainGlobals mg → TbOk K mg base → FnG P w K mg base k fa fd [x] sp) (hbind : ∀ (s : Shared) (u : Value), BindsTo s fd ⟨[u], []⟩ [(x, u)])
    (hsp : ∀ (H : Hp) (o : Obj), H a = some (.frz o (.lst (ns.map V.int))) → (∀ x ∈ mkrs, ∀ c P, PySem.W.tabIn K x = some (c, P) → P ≠ a ∧ H P = some (.tbl #[])) → sp [.ref a] H (fun v _ => v = .bl true) fun _ _ _ => False) :
    codeAny (model P w) callerA (.call (.ref fa) ⟨[.ref a], []⟩) (fun r s' => r = .ok (.ret (.bool true)) ∧ OldK s.heap s'.heap ∧ s'.os = s.os ∧ PyProof.Rows.AllBare s'.gens) s := by
  classical
  let sc : Obj := { cls := .type "list", data := .seq vs.toArray }
  let H : Hp := fun b => if b = a then some (.frz sc (.lst (ns.map V.int))) else if IsTb K b then some (.tbl #[]) else none
  have tb : ∀ {b}, IsTb K b → s.heap.get? b = some { cls := .none, data := .fields #[] } ∧ K.lookup b = none := fun ⟨x, hx, c, e⟩ => (hT.2 x hx c _ e).2
  have na : ¬ IsTb K a := fun z => by
    have q := (tb z).1
    rw [ha] at q
    have q2 : Data.seq vs.toArray _ = Data.fields #[] := congrArg Obj.data (Option.some.inj q)
    cases q2
  have Ha : H a = some (.frz sc (.lst (ns.map V.int))) := if_pos rfl
  have Ht : ∀ {b}, IsTb K b → H b = some (.tbl #[]) := fun {b} z => (if_neg (show ¬ b = a from fun q => na (q ▸ z))).trans (if_pos z)
  have Hn : ∀ b, b ≠ a → ¬ IsTb K b → H b = none := fun b h1 h2 => (if_neg h1).trans (if_neg h2)
  have hok : HOk P w H s.heap := fun b u e => by
    by_cases hb : b = a
    · subst hb
      rw [Ha] at e
      cases e
      exact ⟨ha, by rw [List.length_map]; exact hl, vs, 0, vals_ints hi, ha⟩
    · by_cases ht : IsTb K b
      · rw [Ht ht] at e
        cases e
        exact (tb ht).1
      · rw [Hn b hb ht] at e; cases e
  -- what is not the script and no table stays in the base
  have low : ∀ {b : Addr} {o : Obj}, s.heap.get? b = some o → b ≠ a → ¬ IsTb K b → (hidT s.heap H).get? b = some o := fun e n1 n2 => hidT_get e (Hn _ n1 n2)
  have lowO : ∀ {b : Addr} {o : Obj}, s.heap.get? b = some o → (∀ v n, o.data ≠ .seq v n) → o.data ≠ .fields #[] → (hidT s.heap H).get? b = some o := fun {b o} e h1 h2 => low e (fun z => by
    subst z
    rw [ha] at e
    cases e
    exact h1 _ _ rfl) fun z => by
    rw [(tb z).1] at e
    cases e
    exact h2 rfl
  have lowD : ∀ {b : Addr} {m : Str → Option Value}, s.heap.Ns b m → (hidT s.heap H).Ns b m := fun {b m} ⟨o, es, ep, e, d, r⟩ => ⟨o, es, ep, lowO e (fun v n z => by rw [d] at z; cases z) (fun z => by rw [d] at z; cases z), d, r⟩
  have KB : K.In (hidT s.heap H) := fun b o e => low (KX b o e) (fun z => by
    subst z
    rw [hk] at e
    cases e) fun z => by
    rw [(tb z).2] at e
    cases e
  have TB : TbOk K mg (hidT s.heap H) := ⟨hT.1, fun x hx c P ep => by
    obtain ⟨t1, t2, _⟩ := hT.2 x hx c P ep
    refine ⟨?_, ?_, fun z => ?_⟩
    · obtain ⟨o, us, y1, y2, y3, y4, y5, y6, y7, e1, r1, r2, r3, rest⟩ := t1
      exact ⟨o, us, y1, y2, y3, y4, y5, y6, y7, lowO e1 (fun v n z => by rw [r2] at z; cases z) (fun z => by
        rw [r2] at z
        cases z
        simp at r3), r1, r2, r3, rest⟩
    · obtain ⟨bm, ob, b1, b2, b3, b4, b5, b6⟩ := hbm
      refine ⟨bm, ob, b1, b2, fun q => ?_, fun q => ?_, lowO b3 (fun v n z => by rw [b6] at z; cases z) (fun z => by rw [b6] at z; cases z), b4, b5, b6⟩
      · obtain ⟨o, es, ep, e, hd, _⟩ := hns
        rw [q, e] at b3
        cases b3
        rw [hd] at b6
        cases b6
      · rw [q, t2] at b3
        cases b3
        cases b6
    · obtain ⟨o, es, ep, e, hd, _⟩ := hns
      rw [z, t2] at e
      cases e
      cases hd⟩
  obtain ⟨mc, n1, n2⟩ := hlim
  have e0 : Env0 P w K mg (hidT s.heap H) callerA [] s H := ⟨rfl, ⟨KB, lowD hns, ⟨mb, lowD hb, hbb⟩, ⟨mc, lowD n1, n2⟩⟩, fun b o e => of_hidT e, Nat.le_of_eq (hidT_size _ _), trivial, fun b z => absurd (show b ∈ ([] : List Addr) from z) (by simp), hok, .of_eq hg⟩
  refine codeAny_mono ((F _ KB (lowD hns) TB).run callerA [] s H ⟨[.ref a], []⟩ [.ref a] [.ref a] _ _ hr e0 (hbind s (.ref a)) (.cons rfl .nil) (hsp H sc Ha fun x hx c P ep => ⟨fun z => na (z ▸ ⟨x, hx, c, ep⟩), Ht ⟨x, hx, c, ep⟩⟩)) fun r s' h => ?_
  cases r with
  | error e =>
    obtain ⟨_, _, _, _, _, _, _, _, _, _, _, _, z⟩ := h
    exact z.elim
  | ok fl =>
    cases fl with
    | next => exact h.elim
    | brk => exact h.elim
    | cont => exact h.elim
    | ret u =>
      obtain ⟨v, H', os, bare, un, hok', rv, q⟩ := h
      have q' : v = .bl true := q
      subst q'
      have eu : u = Value.bool true := rv
      subst eu
      have stay : ∀ b o, ¬ IsTb K b → s.heap.get? b = some o → s'.heap.get? b = some o := fun b o nt e => by
        by_cases hb : b = a
        · subst hb
          obtain ⟨e1, _⟩ := hok b _ Ha
          obtain ⟨e2, _⟩ := hok' b _ (un.frzs b sc _ Ha)
          rw [e] at e1
          cases e1
          exact e2
        · exact un.keep b o e (Hn b hb nt) (by intro z; exact absurd (show b ∈ ([] : List Addr) from z) (by simp)) (by simp)
      have more : ∀ b, IsTb K b → ∃ ps : Array Value, s'.heap.get? b = some { cls := .none, data := .fields ps } := fun b z => by
        obtain ⟨ps, e⟩ := un.tbls b #[] (Ht z)
        exact ⟨_, hok' b _ e⟩
      refine ⟨rfl, ⟨fun b o e => ?_, fun b o e => ?_⟩, os, bare⟩
      · by_cases ht : IsTb K b
        · obtain ⟨ps, hm⟩ := more b ht
          obtain ⟨x, hx, c, ep⟩ := ht
          obtain ⟨t1, t2, _⟩ := hT.2 x hx c b ep
          rw [t2] at e
          cases e
          exact .inr (.inl ⟨(t1.tab t2).isCodeTable, rfl, #[], ps, rfl, by rw [Array.empty_append]; exact hm⟩)
        · exact .inl (stay b o ht e)
      · by_cases ht : IsTb K b
        · exact (more b ht).elim fun ps hm => ⟨_, hm⟩
        · exact ⟨o, stay b o ht e⟩
/-- no list stands in the written part -/
def noList (K : PySem.W.Frag) : Bool := K.all fun p => match p.2.cls with
  | .type n => n != "list"
  | _ => true
theorem lookup_mem {K : PySem.W.Frag} {a : Addr} {o : Obj} : K.lookup a = some o → (a, o) ∈ K := by
  induction K with
  | nil => intro h; cases h
  | cons p r ih =>
    intro h
    obtain ⟨b, u⟩ := p
    have h2 : (match a == b with | true => some u | false => r.lookup a) = some o := h
    cases q : a == b with
    | true =>
      rw [q] at h2
      cases h2
      rw [beq_iff_eq.mp q]
      exact List.mem_cons_self
    | false =>
      rw [q] at h2
      exact List.mem_cons_of_mem _ (ih h2)
theorem noList_at {K : PySem.W.Frag} {h : Heap} {a : Addr} {o : Obj} (n : noList K = true) (KX : K.In h) (e : h.get? a = some o) (hc : o.cls = .type "list") : K.lookup a = none := by
  cases q : K.lookup a with
  | none => rfl
  | some u =>
    have e2 := KX a u q
    rw [e] at e2
    cases e2
    have z := List.all_eq_true.mp n _ (lookup_mem q)
    simp only [hc] at z
    exact absurd z (by decide)
/-- the head of a code object, its table -/
def cdB (o : Option Obj) (c P : Addr) : Bool := match o with
  | some ⟨.type "code", _, .fields us, _⟩ => (match (us[11]? : Option Value), us.getD 11 .none, us.getD 18 .none, us.getD 7 .none, us.getD 9 .none, us.getD 10 .none with
    | some (.ref p), .ref q, .str _ _, .int _ _, .bool _, .int _ _ => p == P && q == P && c != P
    | _, _, _, _, _, _ => false)
  | _ => false
def emB (o : Option Obj) : Bool := match o with
  | some ⟨.none, none, .fields us, sl⟩ => us.size == 0 && sl.size == 0
  | _ => false
theorem cdB_ok {h : Heap} {c P : Addr} (e : cdB (h.get? c) c P = true) : PySem.W.CodeHd h c P := by
  unfold cdB at e
  split at e
  · rename_i od us sl eo
    split at e
    · rename_i p q file tf flags tg inF text tt e1 e2 e3 e4 e5 e6
      simp only [Bool.and_eq_true, beq_iff_eq, bne_iff_ne] at e
      obtain ⟨⟨rfl, rfl⟩, hne⟩ := e
      exact ⟨_, us, file, tf, flags, tg, inF, text, tt, eo, rfl, rfl, e1, e2, e3, e4, e5, e6, hne⟩
    · cases e
  · cases e
theorem emB_ok {o : Option Obj} (e : emB o = true) : o = some { cls := .none, data := .fields #[] } := by
  unfold emB at e
  split at e
  · rename_i us sl
    simp only [Bool.and_eq_true, beq_iff_eq] at e
    obtain ⟨e1, e2⟩ := e
    rw [Array.eq_empty_of_size_eq_zero e1, Array.eq_empty_of_size_eq_zero e2]
  · cases e
def tbD (K : PySem.W.Frag) : List Str → Bool
  | [] => true
  | x :: r => (match PySem.W.tabIn K x with
    | none => true
    | some p => r.all fun y => match PySem.W.tabIn K y with
      | none => true
      | some q => p.2 != q.2) && tbD K r
theorem tbD_ok {K : PySem.W.Frag} : ∀ {l : List Str}, tbD K l = true → ∀ x ∈ l, ∀ y ∈ l, ∀ c d P, PySem.W.tabIn K x = some (c, P) → PySem.W.tabIn K y = some (d, P) → x = y
  | [], _, _, hx, _, _, _, _, _, _, _ => nomatch hx
  | z :: r, h, x, hx, y, hy, c, d, P, ex, ey => by
    unfold tbD at h
    rw [Bool.and_eq_true] at h
    obtain ⟨h1, h2⟩ := h
    have far : ∀ {u v : Str} {c d : Addr}, PySem.W.tabIn K z = some (c, P) → v ∈ r → PySem.W.tabIn K v = some (d, P) → False := fun {u v c d} e1 hv e2 => by
      rw [e1] at h1
      have q := List.all_eq_true.mp h1 v hv
      simp [e2] at q
    rcases List.mem_cons.mp hx with ez | hx'
    · rcases List.mem_cons.mp hy with ey' | hy'
      · rw [ez, ey']
      · exact (far (u := x) (ez ▸ ex) hy' ey).elim
    · rcases List.mem_cons.mp hy with ey' | hy'
      · exact (far (u := y) (ey' ▸ ey) hx' ex).elim
      · exact tbD_ok h2 x hx' y hy' c d P ex ey
def tbB (g : Addr → Option Obj) (K : PySem.W.Frag) : Bool := tbD K mkrs && mkrs.all fun x => match PySem.W.tabIn K x with
  | none => true
  | some (c, P) => cdB (g c) c P && emB (g P) && (K.lookup P).isNone
theorem tbB_ok {h : Heap} {K : PySem.W.Frag} (e : tbB h.get? K = true) : TbHd K h := ⟨tbD_ok (Bool.and_eq_true _ _ ▸ e).1, fun x hx c P ep => by
  have q := List.all_eq_true.mp (Bool.and_eq_true _ _ ▸ e).2 x hx
  simp only [ep, Bool.and_eq_true, Option.isNone_iff_eq_none] at q
  exact ⟨cdB_ok q.1.1, emB_ok q.1.2, q.2⟩⟩
theorem TbHd.keeps {h h' : Heap} {K : PySem.W.Frag} (t : TbHd K h) (k : ∀ b o, h.get? b = some o → h'.get? b = some o) : TbHd K h' := ⟨t.1, fun x hx c P ep => by
  obtain ⟨a, b, d⟩ := t.2 x hx c P ep
  exact ⟨a.keeps k, k _ _ b, d⟩⟩
/-- the written part without the tables -/
def isTb : Option Obj → Bool
  | some ⟨.none, _, .fields _, _⟩ => true
  | _ => false
/-- the addresses that were not met yet (m: those met, bit by bit) -/
def newA : List Addr → Nat → List Addr → List Addr × Nat
  | [], m, acc => (acc, m)
  | a :: r, m, acc => match Nat.beq (Nat.land (Nat.shiftRight m a) 1) 1 with
    | true => newA r m acc
    | false => newA r (Nat.lor m (Nat.shiftLeft 1 a)) (a :: acc)
def metA (g : Addr → Option Obj) : Nat → List Addr → Nat → List Addr → List Addr
  | 0, _, _, all => all
  | n + 1, fr, m, all => match newA (fr.flatMap fun a => match g a with
    | some o => He.refsD o
    | none => []) m [] with
    | (new, m2) => metA g n new m2 (all ++ new)
def asT (g : Addr → Option Obj) (n : Nat) : List Addr := (metA g n [mainGlobals] (Nat.lor (Nat.shiftLeft 1 sysModules) (Nat.lor (Nat.shiftLeft 1 mainGlobals) (Nat.shiftLeft 1 cStatics))) [mainGlobals, cStatics, sysModules]).filter fun a => !isTb (g a)
/-- the facts that the head reads -/
abbrev AlN : Type := He.AlD × Bool × Bool
def obsN (n : Nat) (fa : List He.Fa) (fn : List He.DefD) (g : Addr → Option Obj) : AlN := (He.obsD fa fn (He.frG g (asT g n)), noList (He.frG g (asT g n)), tbB g (He.frG g (asT g n)))
def hookN (n : Nat) (fa : List He.Fa) (fn : List He.DefD) : PySem.W.Hook where
  α := AlN
  obs := fun s => obsN n fa fn s.heap.get?
  val := fun _ => (He.valD fn, true, true)
  says := fun _ h => ∃ K : PySem.W.Frag, K.In h ∧ (He.SaysD fa fn K ∧ noList K = true) ∧ TbHd K h
  of := fun _ _ e => ⟨_, He.frG_in, ⟨congrArg Prod.fst e, congrArg (fun z : AlN => z.2.1) e⟩, tbB_ok (congrArg (fun z : AlN => z.2.2) e)⟩
  keeps := fun _ _ _ ⟨K, hK, c, t⟩ k => ⟨K, PySem.W.Frag.In.keeps hK k, c, t.keeps k⟩
theorem obsN_eq {n : Nat} {fa : List He.Fa} {fn : List He.DefD} {g : Addr → Option Obj} {s : Shared} (h : ∀ a, g a = s.heap.get? a) : obsN n fa fn g = (hookN n fa fn).obs s := by
  have e : g = s.heap.get? := funext h
  rw [e]
  rfl
/-- a law over its data -/
theorem walk_law {l : PySem.W.OpenLaw} {n k : Nat} {q : Program} {loose : List Str} {XP : (Str → Option Value) → Heap → Prop} {YP : World → Heap → Prop} {d : DefRec} {x : Str} (hn : l.most = some n) (hn2 : n ≤ sizeLine) (hdf : d.params.defaults = []) (hr : Rm k callerA)
    (F : ∀ (w : World) (mg : Str → Option Value) (fa : Addr) (h : Heap), YP w h → h.Ns mainGlobals mg → mg d.name = some (.ref fa) →
      ∃ (K : PySem.W.Frag) (fd : FuncData) (sp : Sp), K.In h ∧ noList K = true ∧ TbHd K h ∧ (∀ (s : Shared) (u : Value), BindsTo s fd ⟨[u], []⟩ [(x, u)]) ∧
        (∀ (H : Hp) (a : Addr) (ns : List Int) (o : Obj), ns.length ≤ n → H a = some (.frz o (.lst (ns.map V.int))) → (∀ x ∈ mkrs, ∀ c P, PySem.W.tabIn K x = some (c, P) → P ≠ a ∧ H P = some (.tbl #[])) → sp [.ref a] H (fun v _ => v = .bl true) fun _ _ _ => False) ∧
        ∀ base : Heap, K.In base → base.Ns mainGlobals mg → TbOk K mg base → FnG l.prog w K mg base k fa fd [x] sp) : PySem.W.WalkO q loose XP YP l.row.toRowW d [] (fun f vs => PySem.call f vs) := by
  refine Att.attach_call hn hdf fun w s₀ s₁ mg mb fa o pm cd doc a vs ns G Y ho hd hcd hmg hobj hints hlen hg => ?_
  obtain ⟨K, fd, sp, KX, nl, hT, hb, hsp, hF⟩ := F w mg fa _ Y G.T.g hmg
  exact law_run KX G.T.g G.T.b G.T.builtins G.T.nolimit hg hobj hints (Nat.le_trans hlen hn2) hr (noList_at nl KX hobj rfl) hT G.T.bmain hF hb fun H o hH ht => hsp H a ns o hlen hH ht
end Sk

/-! Sk O: more rules: x, d[k] = a, b; tuple(range(..)). -/
namespace Sk
open PySem PySem.Spec L2

theorem takesF {X : Cx} : Takes X WF := fun _ _ ⟨_, _, _, _, _, _, _, _, _, _, _, _, _, _, _, _, z⟩ => z.elim
theorem fd_eq {K : PySem.W.Frag} {fd fd' : FuncData} {f : Addr} {q1 q2 : Str} {a : Arguments} {b : List Stmt} {sc : Scope} (h : FunD K q1 q2 a b sc [] [] f fd) (h' : FunD K q1 q2 a b sc [] [] f fd') : fd = fd' := by
  obtain ⟨oc, od, dV, kV, doc, pm, an, cdv, ct, osl, efd, lk, _⟩ := h.ex
  obtain ⟨oc', od', dV', kV', doc', pm', an', cdv', ct', osl', efd', lk', _⟩ := h'.ex
  rw [lk] at lk'
  cases lk'
  rfl
section
variable {X : Cx} {G : Fr} {W : WX} {pos : Pos} {a b e : Expr} {da db dc : EvD}
/-- x, d[k] = a, b -/
def sPD (i : Nat) (o : EvD) (k : Str) (a b : EvD) : StD := fun rho mu => sUse (a rho mu) rho fun x mu1 => sUse (b rho mu1) rho fun y mu2 =>
  sUse (o (rho.set i (.val x)) mu2) (rho.set i (.val x)) fun z mu3 => match z with
    | .ref n => (match numput n k y mu3 with
      | some mu4 => .nx (rho.set i (.val x)) mu4
      | none => .bad)
    | _ => .bad
theorem s_pd {i j : Nat} {x k : Str} {o : Expr} {px ps pt pt2 kp : Pos} {kt k2} {lv : Nat} (hr : Rm lv X.A) (ha : PE X a (TEx G W da)) (hb : PE X b (TEx G W db)) (ho : PE X o (TEx G W dc)) (hN : X.N.Nodup) (hi : X.N[i]? = some x := by rfl) (hx : Loc X.env.scope x := by first | exact Or.inl rfl | exact Or.inr rfl)
    (hf : X.fn x = true ∨ X.env.scope.names.lookup x = some .local := by first | exact .inl rfl | exact .inr rfl)
    (hs : swapsWithSole [.Tuple [.Name x px, .Subscript o (.Constant (.str k) j kp) ps] kt pt] (.Tuple [a, b] k2 pt2) pos.line X.env = pure false := by rfl) (hw : swappedStores [.Tuple [.Name x px, .Subscript o (.Constant (.str k) j kp) ps] kt pt] (.Tuple [a, b] k2 pt2) X.env = pure none := by rfl)
    (h1 : (assignEach [.Tuple [.Name x px, .Subscript o (.Constant (.str k) j kp) ps] kt pt] X.env).map (·.2) = [assign (.Tuple [.Name x px, .Subscript o (.Constant (.str k) j kp) ps] kt pt) X.env] := by rfl)
    (hl : (assignEach [.Name x px, .Subscript o (.Constant (.str k) j kp) ps] X.env).length = 2 := by rfl) (hst : (assignEach [.Name x px, .Subscript o (.Constant (.str k) j kp) ps] X.env).findIdx? (·.1) = none := by rfl)
    (e1 : starEach [a, b] X.env = (false, eval a X.env) :: starEach [b] X.env := by rfl) (e2 : starEach [b] X.env = (false, eval b X.env) :: starEach [] X.env := by rfl)
    (es : ∀ v, assign (.Subscript o (.Constant (.str k) j kp) ps) X.env v = (do
      let ov ← holding [v] (eval o X.env)
      let iv ← holding [v, ov] (eval (.Constant (.str k) j kp) X.env)
      standAt ps
      holding [v, ov, iv] (setItem ov iv v)
      release [v, ov, iv] []) := by intro _; rfl)
    (g1 : (assignEach [.Name x px, .Subscript o (.Constant (.str k) j kp) ps] X.env).map (·.2) = assign (.Name x px) X.env :: (assignEach [.Subscript o (.Constant (.str k) j kp) ps] X.env).map (·.2) := by rfl)
    (g2 : (assignEach [.Subscript o (.Constant (.str k) j kp) ps] X.env).map (·.2) = assign (.Subscript o (.Constant (.str k) j kp) ps) X.env :: (assignEach [] X.env).map (·.2) := by rfl) (hc : X.calm = true := by rfl) :
    PS X (.Assign [.Tuple [.Name x px, .Subscript o (.Constant (.str k) j kp) ps] kt pt] (.Tuple [a, b] k2 pt2) pos) (TSx G W (sPD i dc k da db)) := by
  refine PSw (ps_asg (pe_tup (pa_cons ha (pa_cons hb pa_nil e2) e1)) (pg_tup hc (pgs_cons (pg_name hN hi hx hf) (pgs_cons (pg_sub ho pe_str (set_dict (Nat.lt_of_le_of_lt (by omega) (hu_of hr.r))) es) pgs_nil g2) g1) hl hst) hs hw h1) fun D σ H ⟨rho, mu, m, Own, S, h⟩ => ?_
  refine TEx.to S (use_wp (σ := σ) h) fun z1 mu1 v1 H1 m1 h1 g1 S1 r1 => TEx.to S1 (use_wp (σ := σ) (SOk.step (g1.le (G.bar Own)) h1)) fun z2 mu2 v2 H2 m2 h2 g2 S2 r2 => ?_
  have two : 2 ≤ sizeLine := by decide
  refine ⟨two, fun t ht => ⟨t, [v1, v2], rfl, SqT.of upd_same, rfl, ?_⟩⟩
  have sm : Same H2 (upd H2 t (.tup [v1, v2])) := same_upd ht
  have le := (Lf.of_same (m := m2) sm).le (G.bar Own)
  have S3 := (S2.same sm).setv i ((r1.mono (g2.le (G.bar Own))).mono le)
  refine ⟨v1, [v2], rfl, v2, [], rfl, ?_⟩
  have h3 := SOk.step le (SOk.step (g2.le (G.bar Own)) h2)
  refine TEx.to S3 (use_wp (σ := σ.set i (some v1)) h3) fun z3 mu3 v3 H3 m3 h3 g3 S4 r3 => ?_
  cases z3 with
  | ref n =>
    cases r3 with
    | ref hn =>
      dsimp only at h3
      cases ep : numput n k z2 mu3 with
      | none => rw [ep] at h3; exact h3.elim
      | some mu4 =>
        rw [ep] at h3
        obtain ⟨H', dp, S', g⟩ := put_step S4 hn ((r2.mono le).mono (g3.le _)) ep
        exact ⟨_, H', rfl, dp, rfl, h3 _ H' m3 Own (Lf.le (g3.trans g) _) S'⟩
  | _ => exact h3.elim
/-! ### tuple(range(..)), list(range(..)) -/
def rgOk (a b : Int) : Bool := decide (-(2 ^ 62) ≤ a ∧ a < 2 ^ 62 ∧ -(2 ^ 62) ≤ b ∧ b < 2 ^ 62 ∧ (b - a).toNat ≤ 2 ^ 24)
def eRg1 (f : List Da → Da) (a : EvD) : EvD := fun rho mu => bnd (a rho mu) fun x mu1 => match x with
  | .int j => if rgOk 0 j then .ok (f (rngD 0 (j - 0).toNat)) mu1 else .bad
  | _ => .bad
def eRg2 (f : List Da → Da) (a b : EvD) : EvD := fun rho mu => bnd (a rho mu) fun x mu1 => bnd (b rho mu1) fun y mu2 => match x, y with
  | .int i, .int j => if rgOk i j then .ok (f (rngD i (j - i).toNat)) mu2 else .bad
  | _, _ => .bad
abbrev eRngT1 := eRg1 Da.tup
abbrev eRngL1 := eRg1 Da.lst
abbrev eRngT2 := eRg2 Da.tup
abbrev eRngL2 := eRg2 Da.lst
theorem rngD_rd {m : List Addr} {B : Addr → Prop} {H : Hp} (a : Int) : ∀ (n : Nat) (c : Int), RDs m B H (rngD c n) ((List.range n).map fun i => V.int (c + (i : Nat)))
  | 0, _ => .nil
  | n + 1, c => by
    rw [List.range_succ_eq_map, List.map_cons, List.map_map]
    refine .cons ?_ ?_
    · rw [Int.natCast_zero, Int.add_zero]; exact .int c
    · have e : ((fun i : Nat => V.int (c + (i : Nat))) ∘ Nat.succ) = fun i : Nat => V.int ((c + 1) + (i : Nat)) := by
        funext i
        show V.int (c + ((i + 1 : Nat) : Int)) = _
        congr 1
        omega
      rw [e]
      exact rngD_rd a n (c + 1)
theorem rgOk_ok {a b : Int} (h : rgOk a b = true) : RgOk a b := by
  unfold rgOk at h
  simpa [RgOk] using h
theorem c_rngT1 {p p2 pos2 : Pos} (hm : X.mg "tuple" = none) (hm2 : X.mg "range" = none) (ha : PE X a (TEx G W da)) (hg : Gl X "tuple" := by rfl) (hg2 : Gl X "range" := by rfl) (hc : X.calm = true := by rfl)
    (na : starEach [a] X.env = (false, eval a X.env) :: starEach [] X.env := by rfl) (nb : starEach [.Call (.Name "range" p2) [a] [] pos2] X.env = (false, eval (.Call (.Name "range" p2) [a] [] pos2) X.env) :: starEach [] X.env := by rfl) :
    PE X (.Call (.Name "tuple" p) [.Call (.Name "range" p2) [a] [] pos2] [] pos) (TEx G W (eRngT1 da)) := by
  refine PEw (pe_tupRg hc hg hm (prg_1 hg2 hm2 ha na) nb) fun σ H Q h => ?_
  obtain ⟨rho, mu, m, Own, S, h⟩ := h.un
  refine TEx.to S (wp_bnd h) fun x mu1 v1 H1 m1 h1 g1 S1 r1 => ?_
  cases x with
  | int j =>
    cases r1
    dsimp only at h1
    by_cases ok : rgOk 0 j = true
    · rw [if_pos ok] at h1
      refine ⟨j, rfl, rgOk_ok ok, fun q hq => h1 _ _ m1 (g1.trans (Lf.of_same (same_upd hq))) (S1.same (same_upd hq)) (RD.new_tup (rngD_rd 0 _ _) hq (S1.fresh hq).1 (S1.fresh hq).2)⟩
    · rw [if_neg ok] at h1
      exact h1.elim
  | _ => exact h1.elim
theorem c_rngL1 {p p2 pos2 : Pos} (hm : X.mg "list" = none) (hm2 : X.mg "range" = none) (ha : PE X a (TEx G W da)) (hg : Gl X "list" := by rfl) (hg2 : Gl X "range" := by rfl) (hc : X.calm = true := by rfl)
    (na : starEach [a] X.env = (false, eval a X.env) :: starEach [] X.env := by rfl) (nb : starEach [.Call (.Name "range" p2) [a] [] pos2] X.env = (false, eval (.Call (.Name "range" p2) [a] [] pos2) X.env) :: starEach [] X.env := by rfl) :
    PE X (.Call (.Name "list" p) [.Call (.Name "range" p2) [a] [] pos2] [] pos) (TEx G W (eRngL1 da)) := by
  refine PEw (pe_listRg hc hg hm (prg_1 hg2 hm2 ha na) nb) fun σ H Q h => ?_
  obtain ⟨rho, mu, m, Own, S, h⟩ := h.un
  refine TEx.to S (wp_bnd h) fun x mu1 v1 H1 m1 h1 g1 S1 r1 => ?_
  cases x with
  | int j =>
    cases r1
    dsimp only at h1
    by_cases ok : rgOk 0 j = true
    · rw [if_pos ok] at h1
      refine ⟨j, rfl, rgOk_ok ok, fun q hq => h1 _ _ m1 (g1.trans (Lf.of_same (same_upd hq))) (S1.same (same_upd hq)) (RD.new_lst (rngD_rd 0 _ _) hq (S1.fresh hq).1 (S1.fresh hq).2)⟩
    · rw [if_neg ok] at h1
      exact h1.elim
  | _ => exact h1.elim
theorem c_rngT2 {p p2 pos2 : Pos} (hm : X.mg "tuple" = none) (hm2 : X.mg "range" = none) (ha : PE X a (TEx G W da)) (hb : PE X b (TEx G W db)) (hg : Gl X "tuple" := by rfl) (hg2 : Gl X "range" := by rfl) (hc : X.calm = true := by rfl)
    (na : starEach [a, b] X.env = (false, eval a X.env) :: starEach [b] X.env := by rfl) (na2 : starEach [b] X.env = (false, eval b X.env) :: starEach [] X.env := by rfl) (hp : (backTo pos2 (starEach [b] X.env)).any (·.1) = false := by rfl)
    (nb : starEach [.Call (.Name "range" p2) [a, b] [] pos2] X.env = (false, eval (.Call (.Name "range" p2) [a, b] [] pos2) X.env) :: starEach [] X.env := by rfl) :
    PE X (.Call (.Name "tuple" p) [.Call (.Name "range" p2) [a, b] [] pos2] [] pos) (TEx G W (eRngT2 da db)) := by
  refine PEw (pe_tupRg hc hg hm (prg_2 hg2 hm2 ha hb na na2 hp) nb) fun σ H Q h => ?_
  obtain ⟨rho, mu, m, Own, S, h⟩ := h.un
  refine TEx.to S (wp_bnd h) fun x mu1 v1 H1 m1 h1 g1 S1 r1 => TEx.to S1 (wp_step g1 (wp_bnd h1)) fun y mu2 v2 H2 m2 h2 g2 S2 r2 => ?_
  match x, y, r1, r2, h2 with
  | .int i, .int j, .int _, .int _, h2 =>
    by_cases ok : rgOk i j = true
    · simp only [if_pos ok] at h2
      refine ⟨i, j, rfl, rfl, rgOk_ok ok, fun q hq => h2 _ _ m2 ((g1.trans g2).trans (Lf.of_same (same_upd hq))) (S2.same (same_upd hq)) (RD.new_tup (rngD_rd 0 _ _) hq (S2.fresh hq).1 (S2.fresh hq).2)⟩
    · simp only [if_neg ok] at h2
      exact h2.elim
end
end Sk

/-! Sk P: reckoning with the mirrors: what holds behind them. -/
namespace Sk
open PySem

def Yes {α : Type} (o : Out α) (P : α → Mem → Prop) : Prop := match o with
  | .ok a mu => P a mu
  | _ => False
structure Po where
  nx : Ev → Mem → Prop
  rt : Da → Mem → Prop
  bk : Ev → Mem → Prop
  ct : Ev → Mem → Prop
def SP (o : SO) (D : Po) : Prop := match o with
  | .nx r m => D.nx r m
  | .rt d m => D.rt d m
  | .bk r m => D.bk r m
  | .ct r m => D.ct r m
  | _ => False
theorem Yes.mono {α : Type} {o : Out α} {P Q : α → Mem → Prop} (h : Yes o P) (w : ∀ a m, P a m → Q a m) : Yes o Q := by
  cases o with
  | ok a m => exact w a m h
  | _ => exact h
theorem Yes.eq {α : Type} {o : Out α} {P : α → Mem → Prop} (h : Yes o P) : ∃ a m, o = .ok a m ∧ P a m := by
  cases o with
  | ok a m => exact ⟨a, m, rfl, h⟩
  | _ => exact h.elim
theorem yes_of_eq {α : Type} {o : Out α} {P : α → Mem → Prop} {a : α} {m : Mem} (e : o = .ok a m) (h : P a m) : Yes o P := by rw [e]; exact h
theorem SP.mono {o : SO} {D D' : Po} (h : SP o D) (h1 : ∀ r m, D.nx r m → D'.nx r m) (h2 : ∀ r m, D.rt r m → D'.rt r m) (h3 : ∀ r m, D.bk r m → D'.bk r m) (h4 : ∀ r m, D.ct r m → D'.ct r m) : SP o D' := by
  cases o with
  | nx r m => exact h1 _ _ h
  | rt r m => exact h2 _ _ h
  | bk r m => exact h3 _ _ h
  | ct r m => exact h4 _ _ h
  | _ => exact h
section
variable {α : Type} {P : Da → Mem → Prop} {rho : Ev} {mu : Mem} {D : Po}
@[simp] theorem yes_ok {β : Type} {P : β → Mem → Prop} {a : β} : Yes (.ok a mu) P ↔ P a mu := Iff.rfl
@[simp] theorem yes_bad {β : Type} {P : β → Mem → Prop} : Yes (.bad : Out β) P ↔ False := Iff.rfl
@[simp] theorem yes_opt_some {β : Type} {P : β → Mem → Prop} {a : β} : Yes (opt (some a) mu) P ↔ P a mu := Iff.rfl
@[simp] theorem yes_opt_none {β : Type} {P : β → Mem → Prop} : Yes (opt (none : Option β) mu) P ↔ False := Iff.rfl
theorem yes_bnd {β γ : Type} {P : γ → Mem → Prop} {o : Out β} {f : β → Mem → Out γ} : Yes (bnd o f) P ↔ Yes o fun a m => Yes (f a m) P := by cases o <;> exact Iff.rfl
@[simp] theorem yes_eV {i : Nat} : Yes (eV i rho mu) P ↔ (match rho[i]? with | some (.val d) => P d mu | _ => False) := by
  unfold eV
  cases h : rho[i]? with
  | none => exact Iff.rfl
  | some s => cases s <;> exact Iff.rfl
@[simp] theorem yes_eK {d : Da} : Yes (eK d rho mu) P ↔ P d mu := Iff.rfl
@[simp] theorem yes_e1 {f : Da → Option Da} {a : EvD} : Yes (e1 f a rho mu) P ↔ Yes (a rho mu) fun x m => Yes (opt (f x) m) P := yes_bnd
@[simp] theorem yes_e2 {f : Da → Da → Option Da} {a b : EvD} : Yes (e2 f a b rho mu) P ↔ Yes (a rho mu) fun x m => Yes (b rho m) fun y m2 => Yes (opt (f x y) m2) P := by
  unfold e2; rw [yes_bnd]; simp only [yes_bnd]
variable {Q : List Da → Mem → Prop} {R : Bool → Mem → Prop} {a b : EvD} {r : Ev → Mem → Out (List Da)}
@[simp] theorem yes_aN : Yes (aN rho mu) Q ↔ Q [] mu := Iff.rfl
@[simp] theorem yes_aC : Yes (aC a r rho mu) Q ↔ Yes (a rho mu) fun x m => Yes (r rho m) fun xs m2 => Q (x :: xs) m2 := by
  unfold aC; rw [yes_bnd]; simp only [yes_bnd, yes_ok]
@[simp] theorem yes_eTup : Yes (eTup r rho mu) P ↔ Yes (r rho mu) fun xs m => P (.tup xs) m := by unfold eTup; rw [yes_bnd]; simp only [yes_ok]
@[simp] theorem yes_eLst : Yes (eLst r rho mu) P ↔ Yes (r rho mu) fun xs m => P (.lst xs) m := by unfold eLst; rw [yes_bnd]; simp only [yes_ok]
@[simp] theorem yes_eB {f : List Da → Option Da} : Yes (eB f r rho mu) P ↔ Yes (r rho mu) fun xs m => Yes (opt (f xs) m) P := yes_bnd
@[simp] theorem yes_eC {f : Fn} : Yes (eC f r rho mu) P ↔ Yes (r rho mu) fun xs m => Yes (f xs m) P := yes_bnd
@[simp] theorem yes_eCK {f : Fn} {p : List Nat} : Yes (eCK f p r rho mu) P ↔ Yes (r rho mu) fun xs m => Yes (f (pick p xs) m) P := yes_bnd
@[simp] theorem yes_tV : Yes (tV a rho mu) R ↔ Yes (a rho mu) fun x m => match x with | .bl k => R k m | _ => False := by
  unfold tV; rw [yes_bnd]
  cases a rho mu with
  | ok d m => cases d <;> exact Iff.rfl
  | _ => exact Iff.rfl
variable {s t : EvT}
@[simp] theorem yes_tAnd : Yes (tAnd s t rho mu) R ↔ Yes (s rho mu) fun k m => if k then Yes (t rho m) R else R false m := by
  unfold tAnd; rw [yes_bnd]
  cases s rho mu with
  | ok d m => cases d <;> exact Iff.rfl
  | _ => exact Iff.rfl
@[simp] theorem yes_tOr : Yes (tOr s t rho mu) R ↔ Yes (s rho mu) fun k m => if k then R true m else Yes (t rho m) R := by
  unfold tOr; rw [yes_bnd]
  cases s rho mu with
  | ok d m => cases d <;> exact Iff.rfl
  | _ => exact Iff.rfl
@[simp] theorem yes_tNot : Yes (tNot s rho mu) R ↔ Yes (s rho mu) fun k m => R (!k) m := by unfold tNot; rw [yes_bnd]; simp only [yes_ok]
@[simp] theorem yes_tT : Yes (tT rho mu) R ↔ R true mu := Iff.rfl
@[simp] theorem yes_eIf : Yes (eIf t a b rho mu) P ↔ Yes (t rho mu) fun k m => if k then Yes (a rho m) P else Yes (b rho m) P := by
  unfold eIf; rw [yes_bnd]
  cases t rho mu with
  | ok d m => cases d <;> exact Iff.rfl
  | _ => exact Iff.rfl
@[simp] theorem yes_eAnd : Yes (eAnd a b rho mu) P ↔ Yes (a rho mu) fun x m => match x with | .bl k => (if k then Yes (b rho m) P else P (.bl false) m) | _ => False := by
  unfold eAnd; rw [yes_bnd]
  cases a rho mu with
  | ok d m => cases d with
    | bl k => cases k <;> exact Iff.rfl
    | _ => exact Iff.rfl
  | _ => exact Iff.rfl
@[simp] theorem yes_eOr : Yes (eOr a b rho mu) P ↔ Yes (a rho mu) fun x m => match x with | .bl k => (if k then P (.bl true) m else Yes (b rho m) P) | _ => False := by
  unfold eOr; rw [yes_bnd]
  cases a rho mu with
  | ok d m => cases d with
    | bl k => cases k <;> exact Iff.rfl
    | _ => exact Iff.rfl
  | _ => exact Iff.rfl
@[simp] theorem yes_eNot : Yes (eNot a rho mu) P ↔ Yes (a rho mu) fun x m => match x with | .bl k => P (.bl (!k)) m | _ => False := by
  unfold eNot; rw [yes_bnd]
  cases a rho mu with
  | ok d m => cases d <;> exact Iff.rfl
  | _ => exact Iff.rfl
@[simp] theorem yes_eIxO {i : Nat} : Yes (eIxO i a rho mu) P ↔ (match rho[i]? with
    | some (.own xs) => Yes (a rho mu) fun y m => Yes (opt (ixD (.lst xs) y) m) P
    | some (.val d) => Yes (a rho mu) fun y m => Yes (opt (ixD d y) m) P
    | _ => False) := by
  unfold eIxO
  cases h : rho[i]? with
  | none => exact Iff.rfl
  | some s => cases s <;> first | exact Iff.rfl | exact yes_bnd
@[simp] theorem yes_eLenO {i : Nat} : Yes (eLenO i rho mu) P ↔ (match rho[i]? with
    | some (.own xs) => P (.int xs.length) mu
    | some (.val d) => Yes (opt (lenD [d]) mu) P
    | _ => False) := by
  unfold eLenO
  cases h : rho[i]? with
  | none => exact Iff.rfl
  | some s => cases s <;> exact Iff.rfl
variable {o p : EvO} {S : Option Int → Mem → Prop}
@[simp] theorem yes_oN : Yes (oN rho mu) S ↔ S none mu := Iff.rfl
@[simp] theorem yes_oS : Yes (oS a rho mu) S ↔ Yes (a rho mu) fun x m => match x with | .int i => S (some i) m | _ => False := by
  unfold oS; rw [yes_bnd]
  cases a rho mu with
  | ok d m => cases d <;> exact Iff.rfl
  | _ => exact Iff.rfl
@[simp] theorem yes_eSl : Yes (eSl a o p rho mu) P ↔ Yes (a rho mu) fun x m => Yes (o rho m) fun l m2 => Yes (p rho m2) fun h m3 => Yes (opt (slD x l h) m3) P := by
  unfold eSl; simp only [yes_bnd]
@[simp] theorem yes_eDGet {k : Str} : Yes (eDGet a k rho mu) P ↔ Yes (a rho mu) fun x m => match x with
    | .ref n => (match m[n]? with
      | some (.dct kvs) => Yes (opt (dLook k kvs) m) P
      | _ => False)
    | _ => False := by
  unfold eDGet; rw [yes_bnd]
  cases a rho mu with
  | ok d m => cases d with
    | ref n =>
      simp only [yes_ok]
      cases h : m[n]? with
      | none => simp [Yes, h]
      | some o => cases o <;> simp [Yes, h]
    | _ => exact Iff.rfl
  | _ => exact Iff.rfl
@[simp] theorem yes_eScr : Yes (eScr a b rho mu) P ↔ Yes (a rho mu) fun x m => Yes (b rho m) fun y m2 => match x, y with
    | .ref n, .lst ys => (match m2[n]? with
      | some (.scr xs) => xs.length + ys.length ≤ sizeLine ∧ P (.lst (xs ++ ys)) m2
      | _ => False)
    | _, _ => False := by
  unfold eScr; simp only [yes_bnd]
  cases a rho mu with
  | ok d m =>
    simp only [yes_ok]
    cases b rho m with
    | ok e m2 =>
      simp only [yes_ok]
      cases d with
      | ref n => cases e with
        | lst ys =>
          dsimp only
          cases h : m2[n]? with
          | none => simp [Yes]
          | some o => cases o with
            | scr xs =>
              dsimp only
              split <;> rename_i hh <;> simp [hh]
            | _ => simp [Yes]
        | _ => simp [Yes]
      | _ => simp [Yes]
    | _ => simp [Yes]
  | _ => simp [Yes]
@[simp] theorem yes_eDisp {ks : List Str} : Yes (eDisp ks r rho mu) P ↔ Yes (r rho mu) fun ds m => P (.ref m.length) (m ++ [.dct (ks.zip ds)]) := by unfold eDisp; rw [yes_bnd]; simp only [yes_ok]
@[simp] theorem yes_eCh {f g : Da → Da → Option Da} {c : EvD} : Yes (eCh f g a b c rho mu) P ↔ Yes (a rho mu) fun x m => Yes (b rho m) fun y m2 => match f x y with
    | some (.bl k) => if k then Yes (c rho m2) fun z m3 => Yes (opt (g y z) m3) P else P (.bl false) m2
    | _ => False := by
  unfold eCh; simp only [yes_bnd]
  cases a rho mu with
  | ok d m =>
    simp only [yes_ok]
    cases b rho m with
    | ok e m2 =>
      simp only [yes_ok]
      cases h : f d e with
      | none => simp [Yes]
      | some z => cases z with
        | bl k => cases k <;> simp [yes_bnd]
        | _ => simp [Yes]
    | _ => simp [Yes]
  | _ => simp [Yes]
/-! ### iteration -/
variable {it : EvI}
@[simp] theorem yes_iSeq : Yes (iSeq a rho mu) Q ↔ Yes (a rho mu) fun d m => match d with | .lst xs => Q xs m | .tup xs => Q xs m | _ => False := by
  unfold iSeq; rw [yes_bnd]
  cases a rho mu with
  | ok d m => cases d <;> exact Iff.rfl
  | _ => exact Iff.rfl
def Sz (i : Int) : Prop := -(2 ^ 62) ≤ i ∧ i < 2 ^ 62
@[simp] theorem yes_iRng1 : Yes (iRng1 r rho mu) Q ↔ Yes (r rho mu) fun xs m => match xs with | [.int j] => Sz j ∧ Q (rngD 0 j.toNat) m | _ => False := by
  unfold iRng1; rw [yes_bnd]
  cases r rho mu with
  | ok d m =>
    simp only [yes_ok]
    match d with
    | [.int j] =>
      dsimp only
      by_cases h : -(2 ^ 62) ≤ j ∧ j < 2 ^ 62
      · rw [if_pos h]; exact ⟨fun q => ⟨h, q⟩, fun q => q.2⟩
      · rw [if_neg h]; exact ⟨fun q => q.elim, fun q => h q.1⟩
    | [] => exact Iff.rfl
    | [.non] => exact Iff.rfl
    | [.bl _] => exact Iff.rfl
    | [.str _] => exact Iff.rfl
    | [.tup _] => exact Iff.rfl
    | [.lst _] => exact Iff.rfl
    | [.ref _] => exact Iff.rfl
    | .int _ :: _ :: _ => exact Iff.rfl
    | .non :: _ :: _ => exact Iff.rfl
    | .bl _ :: _ :: _ => exact Iff.rfl
    | .str _ :: _ :: _ => exact Iff.rfl
    | .tup _ :: _ :: _ => exact Iff.rfl
    | .lst _ :: _ :: _ => exact Iff.rfl
    | .ref _ :: _ :: _ => exact Iff.rfl
  | _ => exact Iff.rfl
@[simp] theorem yes_iRng2 : Yes (iRng2 r rho mu) Q ↔ Yes (r rho mu) fun xs m => match xs with | [.int i, .int j] => Sz i ∧ Sz j ∧ Q (rngD i (j - i).toNat) m | _ => False := by
  unfold iRng2; rw [yes_bnd]
  cases r rho mu with
  | ok d m =>
    simp only [yes_ok]
    by_cases hd : ∃ i j, d = [.int i, .int j]
    · obtain ⟨i, j, rfl⟩ := hd
      dsimp only
      by_cases h : -(2 ^ 62) ≤ i ∧ i < 2 ^ 62 ∧ -(2 ^ 62) ≤ j ∧ j < 2 ^ 62
      · rw [if_pos h]; exact ⟨fun q => ⟨⟨h.1, h.2.1⟩, ⟨h.2.2.1, h.2.2.2⟩, q⟩, fun q => q.2.2⟩
      · rw [if_neg h]; exact ⟨fun q => q.elim, fun q => h ⟨q.1.1, q.1.2, q.2.1.1, q.2.1.2⟩⟩
    · split <;> first
        | exact absurd ⟨_, _, rfl⟩ hd
        | exact Iff.rfl
        | (split <;> first
            | exact absurd ⟨_, _, rfl⟩ hd
            | exact Iff.rfl)
  | _ => exact Iff.rfl
@[simp] theorem yes_iEnum : Yes (iEnum r rho mu) Q ↔ Yes (r rho mu) fun xs m => match xs with | [.lst ys] => Q (enumD 0 ys) m | [.tup ys] => Q (enumD 0 ys) m | _ => False := by
  unfold iEnum; rw [yes_bnd]
  cases r rho mu with
  | ok d m =>
    simp only [yes_ok]
    split <;> first | exact Iff.rfl | (rename_i h; split <;> simp_all [Yes])
  | _ => exact Iff.rfl
/-! ### statements -/
variable {u v : StD}
@[simp] theorem sp_nx : SP (sNx rho mu) D ↔ D.nx rho mu := Iff.rfl
@[simp] theorem sp_bk : SP (sBk rho mu) D ↔ D.bk rho mu := Iff.rfl
@[simp] theorem sp_ct : SP (sCt rho mu) D ↔ D.ct rho mu := Iff.rfl
@[simp] theorem sp_bad : SP .bad D ↔ False := Iff.rfl
@[simp] theorem sp_seq : SP (sSeq u v rho mu) D ↔ SP (u rho mu) { D with nx := fun r m => SP (v r m) D } := by
  unfold sSeq
  cases u rho mu <;> exact Iff.rfl
theorem sp_use {β : Type} {o : Out β} {f : β → Mem → SO} : SP (sUse o rho f) D ↔ Yes o fun d m => SP (f d m) D := by cases o <;> exact Iff.rfl
@[simp] theorem sp_set {i : Nat} : SP (sSet i a rho mu) D ↔ Yes (a rho mu) fun d m => D.nx (rho.set i (.val d)) m := sp_use
@[simp] theorem sp_ret : SP (sRet a rho mu) D ↔ Yes (a rho mu) fun d m => D.rt d m := sp_use
@[simp] theorem sp_retN : SP (sRetN rho mu) D ↔ D.rt .non mu := Iff.rfl
@[simp] theorem sp_do : SP (sDo a rho mu) D ↔ Yes (a rho mu) fun _ m => D.nx rho m := sp_use
@[simp] theorem sp_if : SP (sIf t u v rho mu) D ↔ Yes (t rho mu) fun k m => if k then SP (u rho m) D else SP (v rho m) D := by
  refine sp_use.trans ?_
  cases t rho mu with
  | ok k m => cases k <;> exact Iff.rfl
  | _ => exact Iff.rfl
@[simp] theorem sp_for {bd : Da → Ev → Option Ev} : SP (sFor it bd u rho mu) D ↔ Yes (it rho mu) fun xs m => SP (sLoop bd u xs rho m) D := sp_use
@[simp] theorem sp_dset {k : Str} : SP (sDSet a k b rho mu) D ↔ Yes (b rho mu) fun d m1 => Yes (a rho m1) fun x m2 => match x with
    | .ref n => (match numput n k d m2 with
      | some m3 => D.nx rho m3
      | none => False)
    | _ => False := by
  unfold sDSet; simp only [sp_use]
  cases b rho mu with
  | ok d m =>
    simp only [yes_ok]
    cases a rho m with
    | ok x m2 =>
      simp only [yes_ok]
      cases x with
      | ref n =>
        dsimp only
        cases numput n k d m2 <;> exact Iff.rfl
      | _ => exact Iff.rfl
    | _ => exact Iff.rfl
  | _ => exact Iff.rfl
@[simp] theorem sp_pd {i : Nat} {c : EvD} {k : Str} : SP (sPD i c k a b rho mu) D ↔ Yes (a rho mu) fun x m1 => Yes (b rho m1) fun y m2 => Yes (c (rho.set i (.val x)) m2) fun z m3 => match z with
    | .ref n => (match numput n k y m3 with
      | some m4 => D.nx (rho.set i (.val x)) m4
      | none => False)
    | _ => False := by
  unfold sPD; simp only [sp_use]
  cases a rho mu with
  | ok d m =>
    simp only [yes_ok]
    cases b rho m with
    | ok x m2 =>
      simp only [yes_ok]
      cases c (rho.set i (.val d)) m2 with
      | ok z m3 =>
        simp only [yes_ok]
        cases z with
        | ref n =>
          dsimp only
          cases numput n k x m3 <;> exact Iff.rfl
        | _ => exact Iff.rfl
      | _ => exact Iff.rfl
    | _ => exact Iff.rfl
  | _ => exact Iff.rfl
@[simp] theorem sp_own {i : Nat} : SP (sOwn i r rho mu) D ↔ Yes (r rho mu) fun xs m => D.nx (rho.set i (.own xs)) m := sp_use
@[simp] theorem sp_app {i : Nat} : SP (sApp i a rho mu) D ↔ (match rho[i]? with
    | some (.own xs) => xs.length < sizeLine ∧ Yes (a rho mu) fun d m => D.nx (rho.set i (.own (xs ++ [d]))) m
    | _ => False) := by
  unfold sApp
  cases h : rho[i]? with
  | none => exact Iff.rfl
  | some s => cases s with
    | own xs =>
      dsimp only
      by_cases q : xs.length < sizeLine
      · rw [if_pos q, sp_use]; exact ⟨fun z => ⟨q, z⟩, fun z => z.2⟩
      · rw [if_neg q]; exact ⟨fun z => z.elim, fun z => q z.1⟩
    | _ => exact Iff.rfl
@[simp] theorem sp_ext {i : Nat} : SP (sExt i a rho mu) D ↔ (match rho[i]? with
    | some (.own xs) => Yes (a rho mu) fun d m => match d with | .lst ys => xs.length + ys.length ≤ sizeLine ∧ D.nx (rho.set i (.own (xs ++ ys))) m | _ => False
    | _ => False) := by
  unfold sExt
  cases h : rho[i]? with
  | none => exact Iff.rfl
  | some s => cases s with
    | own xs =>
      dsimp only
      rw [sp_use]
      cases a rho mu with
      | ok d m =>
        simp only [yes_ok]
        cases d with
        | lst ys =>
          dsimp only
          by_cases q : xs.length + ys.length ≤ sizeLine
          · rw [if_pos q]; exact ⟨fun z => ⟨q, z⟩, fun z => z.2⟩
          · rw [if_neg q]; exact ⟨fun z => z.elim, fun z => q z.1⟩
        | _ => exact Iff.rfl
      | _ => exact Iff.rfl
    | _ => exact Iff.rfl
@[simp] theorem sp_frz {i : Nat} : SP (sFrz i u rho mu) D ↔ SP (u (frz i rho) mu) D := Iff.rfl
@[simp] theorem sp_aug {i : Nat} {f : Int → Int → Int} : SP (sAug i f a rho mu) D ↔ (match rho[i]? with
    | some (.val (.int x)) => Yes (a rho mu) fun d m => match d with | .int y => D.nx (rho.set i (.val (.int (f x y)))) m | _ => False
    | _ => False) := by
  unfold sAug
  cases h : rho[i]? with
  | none => exact Iff.rfl
  | some s => cases s with
    | val d => cases d with
      | int x =>
        dsimp only
        rw [sp_use]
        cases a rho mu with
        | ok d m => cases d <;> exact Iff.rfl
        | _ => exact Iff.rfl
      | _ => exact Iff.rfl
    | _ => exact Iff.rfl
variable {pv : PvD} {T : List Sl → Mem → Prop}
@[simp] theorem yes_pN : Yes (pN rho mu) T ↔ T [] mu := Iff.rfl
@[simp] theorem yes_pC : Yes (pC a pv rho mu) T ↔ Yes (a rho mu) fun d m => Yes (pv rho m) fun ss m2 => T (.val d :: ss) m2 := by unfold pC; simp only [yes_bnd, yes_ok]
@[simp] theorem yes_pO : Yes (pO r pv rho mu) T ↔ Yes (r rho mu) fun d m => Yes (pv rho m) fun ss m2 => T (.own d :: ss) m2 := by unfold pO; simp only [yes_bnd, yes_ok]
@[simp] theorem sp_par {is : List Nat} : SP (sPar is pv rho mu) D ↔ Yes (pv rho mu) fun ss m => match setAll is ss rho with | some r2 => D.nx r2 m | none => False := by
  unfold sPar; rw [sp_use]
  cases pv rho mu with
  | ok d m => simp only [yes_ok]; cases setAll is d rho <;> exact Iff.rfl
  | _ => exact Iff.rfl
theorem yes_fnD {n z : Nat} {bd : Ev → Mem → SO} {ds : List Da} (h : ds.length = n) : Yes (fnD n z bd ds mu) P ↔ SP (bd (ds.map Sl.val ++ List.replicate z .un) mu) ⟨fun _ m => P .non m, P, fun _ _ => False, fun _ _ => False⟩ := by
  unfold fnD
  rw [if_pos h]
  cases bd (ds.map Sl.val ++ List.replicate z .un) mu <;> exact Iff.rfl
theorem yes_fn0 {z : Nat} {bd : Ev → Mem → SO} : Yes (fnD 0 z bd [] mu) P ↔ SP (bd (List.replicate z .un) mu) ⟨fun _ m => P .non m, P, fun _ _ => False, fun _ _ => False⟩ := yes_fnD (n := 0) rfl
theorem yes_fn1 {z : Nat} {bd : Ev → Mem → SO} {x0 : Da} : Yes (fnD 1 z bd [x0] mu) P ↔ SP (bd (.val x0 :: List.replicate z .un) mu) ⟨fun _ m => P .non m, P, fun _ _ => False, fun _ _ => False⟩ := yes_fnD (n := 1) rfl
theorem yes_fn2 {z : Nat} {bd : Ev → Mem → SO} {x0 x1 : Da} : Yes (fnD 2 z bd [x0, x1] mu) P ↔ SP (bd (.val x0 :: .val x1 :: List.replicate z .un) mu) ⟨fun _ m => P .non m, P, fun _ _ => False, fun _ _ => False⟩ := yes_fnD (n := 2) rfl
theorem yes_fn3 {z : Nat} {bd : Ev → Mem → SO} {x0 x1 x2 : Da} : Yes (fnD 3 z bd [x0, x1, x2] mu) P ↔ SP (bd (.val x0 :: .val x1 :: .val x2 :: List.replicate z .un) mu) ⟨fun _ m => P .non m, P, fun _ _ => False, fun _ _ => False⟩ := yes_fnD (n := 3) rfl
theorem yes_fn4 {z : Nat} {bd : Ev → Mem → SO} {x0 x1 x2 x3 : Da} : Yes (fnD 4 z bd [x0, x1, x2, x3] mu) P ↔ SP (bd (.val x0 :: .val x1 :: .val x2 :: .val x3 :: List.replicate z .un) mu) ⟨fun _ m => P .non m, P, fun _ _ => False, fun _ _ => False⟩ := yes_fnD (n := 4) rfl
theorem yes_fn5 {z : Nat} {bd : Ev → Mem → SO} {x0 x1 x2 x3 x4 : Da} : Yes (fnD 5 z bd [x0, x1, x2, x3, x4] mu) P ↔ SP (bd (.val x0 :: .val x1 :: .val x2 :: .val x3 :: .val x4 :: List.replicate z .un) mu) ⟨fun _ m => P .non m, P, fun _ _ => False, fun _ _ => False⟩ := yes_fnD (n := 5) rfl
theorem yes_fn6 {z : Nat} {bd : Ev → Mem → SO} {x0 x1 x2 x3 x4 x5 : Da} : Yes (fnD 6 z bd [x0, x1, x2, x3, x4, x5] mu) P ↔ SP (bd (.val x0 :: .val x1 :: .val x2 :: .val x3 :: .val x4 :: .val x5 :: List.replicate z .un) mu) ⟨fun _ m => P .non m, P, fun _ _ => False, fun _ _ => False⟩ := yes_fnD (n := 6) rfl
theorem sp_mid {I : Ev → Mem → Prop} (h1 : SP (u rho mu) ⟨I, D.rt, D.bk, D.ct⟩) (h2 : ∀ r m, I r m → SP (v r m) D) : SP (sSeq u v rho mu) D := by
  rw [sp_seq]
  exact h1.mono h2 (fun _ _ h => h) (fun _ _ h => h) fun _ _ h => h
@[simp] theorem frz_zo {xs : List Da} {r : Ev} : frz 0 (.own xs :: r) = .val (.lst xs) :: r := rfl
@[simp] theorem frz_zv {d : Da} {r : Ev} : frz 0 (.val d :: r) = .val d :: r := rfl
@[simp] theorem frz_zu {r : Ev} : frz 0 (.un :: r) = .un :: r := rfl
@[simp] theorem frz_s {n : Nat} {s : Sl} {r : Ev} : frz (n + 1) (s :: r) = s :: frz n r := by
  unfold frz
  show (match r[n]? with | some (Sl.own xs) => (s :: r).set (n + 1) (.val (.lst xs)) | _ => s :: r) = s :: (match r[n]? with | some (Sl.own xs) => r.set n (.val (.lst xs)) | _ => r)
  split <;> rfl
/-! ### loops -/
theorem sp_loop {bd : Da → Ev → Option Ev} (I : Nat → Ev → Mem → Prop) : ∀ {xs : List Da} {k : Nat} {rho : Ev} {mu : Mem}, I k rho mu →
    (∀ j x rho mu, xs[j]? = some x → I (k + j) rho mu → ∃ rho1, bd x rho = some rho1 ∧ SP (u rho1 mu) ⟨I (k + j + 1), D.rt, D.nx, I (k + j + 1)⟩) → (∀ rho mu, I (k + xs.length) rho mu → D.nx rho mu) → SP (sLoop bd u xs rho mu) D
  | [], k, rho, mu, h0, hs, hd => hd _ _ h0
  | x :: xs, k, rho, mu, h0, hs, hd => by
    obtain ⟨rho1, e, h⟩ := hs 0 x rho mu rfl h0
    have go : ∀ r m, I (k + 1) r m → SP (sLoop bd u xs r m) D := fun r m q => sp_loop (k := k + 1) I q (fun j y r2 m2 ej i2 => by
      have z := hs (j + 1) y r2 m2 (by simpa using ej) (by rw [show k + (j + 1) = k + 1 + j by omega]; exact i2)
      rw [show k + (j + 1) = k + 1 + j by omega] at z
      exact z) fun r2 m2 q => hd r2 m2 (by rw [List.length_cons, show k + (xs.length + 1) = k + 1 + xs.length by omega]; exact q)
    unfold sLoop
    rw [e]
    dsimp only
    cases eo : u rho1 mu with
    | nx r m => rw [eo] at h; exact go r m h
    | ct r m => rw [eo] at h; exact go r m h
    | bk r m => rw [eo] at h; exact h
    | rt d m => rw [eo] at h; exact h
    | exc x r m => rw [eo] at h; exact h.elim
    | bad => rw [eo] at h; exact h.elim
theorem sp_range {bd : Da → Ev → Option Ev} (I : Nat → Ev → Mem → Prop) {lo : Int} {n : Nat} (h0 : I 0 rho mu)
    (hs : ∀ j rho mu, j < n → I j rho mu → ∃ rho1, bd (.int (lo + j)) rho = some rho1 ∧ SP (u rho1 mu) ⟨I (j + 1), D.rt, D.nx, I (j + 1)⟩) (hd : ∀ rho mu, I n rho mu → D.nx rho mu) : SP (sLoop bd u (rngD lo n) rho mu) D := by
  refine sp_loop I h0 (fun j x r m e i => ?_) fun r m i => hd r m (by rw [rngD_len, Nat.zero_add] at i; exact i)
  rw [rngD_get] at e
  by_cases hj : j < n
  · rw [if_pos hj] at e
    cases e
    rw [Nat.zero_add] at i ⊢
    exact hs j r m hj i
  · rw [if_neg hj] at e; cases e
theorem sp_while {t : EvT} (I : Nat → Ev → Mem → Prop) : ∀ {n k : Nat} {rho : Ev} {mu : Mem}, k < n → I k rho mu →
    (∀ k rho mu, I k rho mu → Yes (t rho mu) fun b m => if b then ∃ j, k = j + 1 ∧ SP (u rho m) ⟨I j, D.rt, D.nx, I j⟩ else D.nx rho m) → SP (sWhile t u n rho mu) D
  | 0, k, rho, mu, hk, _, _ => absurd hk (Nat.not_lt_zero k)
  | n + 1, k, rho, mu, hk, h0, hs => by
    have h := hs k rho mu h0
    unfold sWhile
    rw [sp_use]
    refine h.mono fun b m q => ?_
    cases b with
    | false => exact q
    | true =>
      obtain ⟨j, e, q⟩ := q
      subst e
      simp only [if_true]
      have go : ∀ r m, I j r m → SP (sWhile t u n r m) D := fun r m i => sp_while I (by omega) i hs
      cases eo : u rho m with
      | nx r m => rw [eo] at q; exact go r m q
      | ct r m => rw [eo] at q; exact go r m q
      | bk r m => rw [eo] at q; exact q
      | rt d m => rw [eo] at q; exact q
      | exc x r m => rw [eo] at q; exact q.elim
      | bad => rw [eo] at q; exact q.elim
theorem sp_loop_nil {bd : Da → Ev → Option Ev} : SP (sLoop bd u [] rho mu) D ↔ D.nx rho mu := Iff.rfl
theorem sp_loop_cons {bd : Da → Ev → Option Ev} {x : Da} {xs : List Da} : SP (sLoop bd u (x :: xs) rho mu) D ↔ (match bd x rho with
    | none => False
    | some r1 => SP (u r1 mu) ⟨fun r m => SP (sLoop bd u xs r m) D, D.rt, D.nx, fun r m => SP (sLoop bd u xs r m) D⟩) := by
  conv => lhs; unfold sLoop
  cases e : bd x rho with
  | none => exact Iff.rfl
  | some r1 => dsimp only; cases e2 : u r1 mu <;> exact Iff.rfl
@[simp] theorem bName_eq {i : Nat} {d : Da} : bName i d rho = some (rho.set i (.val d)) := rfl
@[simp] theorem bTup_eq {is : List Nat} {ds : List Da} : bTup is (.tup ds) rho = bNames is ds rho := rfl
@[simp] theorem bNames_cons {i : Nat} {is : List Nat} {d : Da} {ds : List Da} : bNames (i :: is) (d :: ds) rho = bNames is ds (rho.set i (.val d)) := rfl
@[simp] theorem bNames_nil : bNames [] [] rho = some rho := rfl
@[simp] theorem setAll_cons {i : Nat} {is : List Nat} {d : Sl} {ds : List Sl} : setAll (i :: is) (d :: ds) rho = setAll is ds (rho.set i d) := rfl
@[simp] theorem setAll_nil : setAll [] [] rho = some rho := rfl
@[simp] theorem wipeE_nil : wipeE rho [] = rho := rfl
@[simp] theorem wipeE_cons {i : Nat} {is : List Nat} : wipeE rho (i :: is) = (wipeE rho is).set i .un := rfl
/-! ### comprehensions -/
@[simp] theorem yes_eCmp {vs : List Nat} {bd : Da → Ev → Option Ev} : Yes (eCmp it vs bd t a rho mu) P ↔ Yes (it rho mu) fun xs m => xs.length < sizeLine ∧ Yes (cLoop bd t a (wipeE rho vs) xs m) fun ys m2 => P (.lst ys) m2 := by
  unfold eCmp; rw [yes_bnd]
  cases it rho mu with
  | ok d m =>
    simp only [yes_ok]
    by_cases q : d.length < sizeLine
    · rw [if_pos q, yes_bnd]; exact ⟨fun z => ⟨q, z⟩, fun z => z.2⟩
    · rw [if_neg q]; exact ⟨fun z => z.elim, fun z => q z.1⟩
  | _ => exact Iff.rfl
theorem yes_noX {β : Type} {P : β → Mem → Prop} {o : Out β} : Yes (noX o) P ↔ Yes o P := by cases o <;> exact Iff.rfl
/-- every item's answer by a function, nothing else changed -/
theorem cLoop_map {bd : Da → Ev → Option Ev} {rho0 : Ev} (g : Da → Da) : ∀ {xs : List Da}, (∀ x ∈ xs, ∃ r, bd x rho0 = some r ∧ a r mu = .ok (g x) mu) → cLoop bd tT a rho0 xs mu = .ok (xs.map g) mu
  | [], _ => rfl
  | x :: xs, h => by
    obtain ⟨r, e1, e2⟩ := h x (by simp)
    unfold cLoop
    rw [e1]
    dsimp only
    rw [show noX (tT r mu) = .ok true mu from rfl]
    show bnd (noX (a r mu)) _ = _
    rw [e2, show noX (Out.ok (g x) mu) = .ok (g x) mu from rfl]
    show bnd (cLoop bd tT a rho0 xs mu) _ = _
    rw [cLoop_map g fun y hy => h y (List.mem_cons_of_mem _ hy)]
    rfl
theorem cLoop_rng {bd : Da → Ev → Option Ev} {rho0 : Ev} : ∀ {n lo : Nat} (g : Nat → Da), (∀ k, lo ≤ k → k < lo + n → ∃ r, bd (.int (k : Int)) rho0 = some r ∧ a r mu = .ok (g k) mu) → cLoop bd tT a rho0 (rngD (lo : Int) n) mu = .ok ((List.range' lo n).map g) mu
  | 0, _, _, _ => rfl
  | n + 1, lo, g, h => by
    obtain ⟨r, e1, e2⟩ := h lo (Nat.le_refl _) (by omega)
    show cLoop bd tT a rho0 (Da.int (lo : Int) :: rngD ((lo : Int) + 1) n) mu = _
    unfold cLoop
    rw [e1]
    dsimp only
    rw [show noX (tT r mu) = .ok true mu from rfl]
    show bnd (noX (a r mu)) _ = _
    rw [e2, show noX (Out.ok (g lo) mu) = .ok (g lo) mu from rfl]
    show bnd (cLoop bd tT a rho0 (rngD ((lo : Int) + 1) n) mu) _ = _
    rw [show (lo : Int) + 1 = ((lo + 1 : Nat) : Int) from rfl, cLoop_rng g fun k hk hk2 => h k (by omega) (by omega)]
    rfl
theorem cLoop_rng0 {bd : Da → Ev → Option Ev} {rho0 : Ev} {n : Nat} (g : Nat → Da) (h : ∀ k, k < n → ∃ r, bd (.int (k : Int)) rho0 = some r ∧ a r mu = .ok (g k) mu) : cLoop bd tT a rho0 (rngD 0 n) mu = .ok ((List.range n).map g) mu := by
  rw [List.range_eq_range']
  exact cLoop_rng (lo := 0) g fun k _ hk => h k (by omega)
/-- the items that pass, each by a function -/
theorem cLoop_filt {β : Type} {bd : Da → Ev → Option Ev} {rho0 : Ev} {t : EvT} (enc : β → Da) (p : β → Bool) (g : β → Da) : ∀ {L : List β}, (∀ y ∈ L, ∃ r, bd (enc y) rho0 = some r ∧ t r mu = .ok (p y) mu ∧ (p y = true → a r mu = .ok (g y) mu)) → cLoop bd t a rho0 (L.map enc) mu = .ok ((L.filter p).map g) mu
  | [], _ => rfl
  | y :: L, h => by
    obtain ⟨r, e1, e2, e3⟩ := h y (by simp)
    have ih := cLoop_filt (t := t) enc p g (L := L) fun z hz => h z (List.mem_cons_of_mem _ hz)
    show cLoop bd t a rho0 (enc y :: L.map enc) mu = _
    unfold cLoop
    rw [e1]
    dsimp only
    rw [e2, show noX (Out.ok (p y) mu) = .ok (p y) mu from rfl]
    cases hp : p y with
    | false =>
      rw [List.filter_cons_of_neg (by rw [hp]; decide)]
      exact ih
    | true =>
      rw [List.filter_cons_of_pos hp]
      show bnd (noX (a r mu)) _ = _
      rw [e3 hp, show noX (Out.ok (g y) mu) = .ok (g y) mu from rfl]
      show bnd (cLoop bd t a rho0 (L.map enc) mu) _ = _
      rw [ih]
      rfl
theorem cLoop_enc {β : Type} {bd : Da → Ev → Option Ev} {rho0 : Ev} (enc : β → Da) (g : β → Da) {L : List β} (h : ∀ y ∈ L, ∃ r, bd (enc y) rho0 = some r ∧ a r mu = .ok (g y) mu) : cLoop bd tT a rho0 (L.map enc) mu = .ok (L.map g) mu := by
  have z := cLoop_filt (t := tT) (bd := bd) (rho0 := rho0) (a := a) (mu := mu) enc (fun _ => true) g (L := L) fun y hy => by
    obtain ⟨r, e1, e2⟩ := h y hy
    exact ⟨r, e1, rfl, fun _ => e2⟩
  rw [z, List.filter_eq_self.mpr fun _ _ => rfl]
/-- item by item -/
theorem yes_cLoop {bd : Da → Ev → Option Ev} {rho0 : Ev} {t : EvT} (I : List Da → Mem → Prop) : ∀ {xs : List Da} {acc : List Da} {mu : Mem}, I acc mu → (∀ x acc mu, x ∈ xs → I acc mu → ∃ r, bd x rho0 = some r ∧ Yes (t r mu) fun b m => if b then Yes (a r m) fun d m2 => I (acc ++ [d]) m2 else I acc m) →
    Yes (cLoop bd t a rho0 xs mu) fun ys m => I (acc ++ ys) m
  | [], acc, mu, h0, _ => by
    show I (acc ++ []) mu
    rw [List.append_nil]
    exact h0
  | x :: xs, acc, mu, h0, hs => by
    obtain ⟨r, e1, h⟩ := hs x acc mu (by simp) h0
    unfold cLoop
    rw [e1]
    dsimp only
    rw [yes_bnd, yes_noX]
    refine h.mono fun b m q => ?_
    cases b with
    | false => exact yes_cLoop I q fun y acc mu hy => hs y acc mu (List.mem_cons_of_mem _ hy)
    | true =>
      simp only [if_true] at q ⊢
      rw [yes_bnd, yes_noX]
      refine q.mono fun d m2 q => ?_
      rw [yes_bnd]
      refine (yes_cLoop I q fun y acc mu hy => hs y acc mu (List.mem_cons_of_mem _ hy)).mono fun ys m3 q => ?_
      rw [List.append_assoc] at q
      exact q
/-- item by item, each of them kept -/
theorem yes_cLoopG {bd : Da → Ev → Option Ev} {rho0 : Ev} (I : List Da → Mem → Prop) : ∀ {xs acc : List Da} {mu : Mem}, I acc mu → (∀ j x ys mu, xs[j]? = some x → ys.length = acc.length + j → I ys mu → ∃ r, bd x rho0 = some r ∧ Yes (a r mu) fun d m2 => I (ys ++ [d]) m2) →
    Yes (cLoop bd tT a rho0 xs mu) fun ys m => I (acc ++ ys) m ∧ ys.length = xs.length
  | [], acc, mu, h0, _ => by
    show I (acc ++ []) mu ∧ _
    rw [List.append_nil]
    exact ⟨h0, rfl⟩
  | x :: xs, acc, mu, h0, hs => by
    obtain ⟨r, e1, h⟩ := hs 0 x acc mu rfl rfl h0
    unfold cLoop
    rw [e1]
    dsimp only
    rw [show noX (tT r mu) = .ok true mu from rfl]
    show Yes (bnd (noX (a r mu)) _) _
    rw [yes_bnd, yes_noX]
    refine h.mono fun d m2 q => ?_
    rw [yes_bnd]
    refine (yes_cLoopG I q fun j y ys mu hy hl => hs (j + 1) y ys mu (by simpa using hy) (by rw [hl, List.length_append, List.length_singleton]; omega)).mono fun ys m3 q => ?_
    rw [List.append_assoc] at q
    exact ⟨q.1, congrArg (· + 1) q.2⟩
theorem yes_cLoopT {bd : Da → Ev → Option Ev} {rho0 : Ev} {xs : List Da} {P : List Da → Mem → Prop} (I : List Da → Mem → Prop) (h0 : I [] mu) (hs : ∀ j x ys mu, xs[j]? = some x → ys.length = j → I ys mu → ∃ r, bd x rho0 = some r ∧ Yes (a r mu) fun d m2 => I (ys ++ [d]) m2)
    (k : ∀ ys m, ys.length = xs.length → I ys m → P ys m) : Yes (cLoop bd tT a rho0 xs mu) P :=
  (yes_cLoopG I h0 fun j x ys mu e l => hs j x ys mu e (by simpa using l)).mono fun ys m q => k ys m q.2 q.1
@[simp] theorem yes_eRg1 {f : List Da → Da} : Yes (eRg1 f a rho mu) P ↔ Yes (a rho mu) fun x m => match x with | .int j => rgOk 0 j = true ∧ P (f (rngD 0 j.toNat)) m | _ => False := by
  unfold eRg1; rw [yes_bnd]
  cases a rho mu with
  | ok d m =>
    cases d with
    | int j =>
      show Yes (if rgOk 0 j = true then _ else _) P ↔ _ ∧ _
      rw [Int.sub_zero]
      by_cases q : rgOk 0 j = true
      · rw [if_pos q]; exact ⟨fun z => ⟨q, z⟩, fun z => z.2⟩
      · rw [if_neg q]; exact ⟨fun z => z.elim, fun z => q z.1⟩
    | _ => exact Iff.rfl
  | _ => exact Iff.rfl
@[simp] theorem yes_eRg2 {f : List Da → Da} : Yes (eRg2 f a b rho mu) P ↔ Yes (a rho mu) fun x m => Yes (b rho m) fun y m2 => match x, y with | .int i, .int j => rgOk i j = true ∧ P (f (rngD i (j - i).toNat)) m2 | _, _ => False := by
  unfold eRg2; simp only [yes_bnd]
  cases a rho mu with
  | ok d m =>
    simp only [yes_ok]
    cases b rho m with
    | ok e m2 =>
      simp only [yes_ok]
      cases d with
      | int i => cases e with
        | int j =>
          show Yes (if rgOk i j = true then _ else _) P ↔ _ ∧ _
          by_cases q : rgOk i j = true
          · rw [if_pos q]; exact ⟨fun z => ⟨q, z⟩, fun z => z.2⟩
          · rw [if_neg q]; exact ⟨fun z => z.elim, fun z => q z.1⟩
        | _ => exact Iff.rfl
      | _ => exact Iff.rfl
    | _ => exact Iff.rfl
  | _ => exact Iff.rfl
end
end Sk

/-! Sk Q: facts about data. -/
namespace Sk
open PySem

/-! ### sizes -/
def Sm (k : Nat) (i : Int) : Prop := i.natAbs < 2 ^ k
instance {k : Nat} {i : Int} : Decidable (Sm k i) := inferInstanceAs (Decidable (i.natAbs < 2 ^ k))
theorem Sm.mono {k l : Nat} {i : Int} (h : Sm k i) (e : k ≤ l := by decide) : Sm l i := Nat.lt_of_lt_of_le h (Nat.pow_le_pow_right (by decide) e)
theorem Sm.add {k : Nat} {i j : Int} (h : Sm k i) (g : Sm k j) : Sm (k + 1) (i + j) := by
  unfold Sm at *
  have := Int.natAbs_add_le i j
  rw [Nat.pow_succ]
  omega
theorem Sm.sub {k : Nat} {i j : Int} (h : Sm k i) (g : Sm k j) : Sm (k + 1) (i - j) := by
  unfold Sm at *
  have := Int.natAbs_sub_le i j
  rw [Nat.pow_succ]
  omega
theorem Sm.mul {k l : Nat} {i j : Int} (h : Sm k i) (g : Sm l j) : Sm (k + l) (i * j) := by
  unfold Sm at *
  rw [Int.natAbs_mul, Nat.pow_add]
  exact Nat.mul_lt_mul_of_lt_of_lt h g
theorem Sm.log {k : Nat} {i : Int} (h : Sm k i) : i.natAbs.log2 ≤ k := by
  by_cases e : i.natAbs = 0
  · rw [e]; exact Nat.zero_le _
  · exact Nat.le_of_lt ((Nat.log2_lt e).mpr h)
theorem Sm.of {i : Int} {k : Nat} (h0 : 0 ≤ i) (h : i < 2 ^ k) : Sm k i := by
  unfold Sm
  have : (i.natAbs : Int) < ((2 ^ k : Nat) : Int) := by
    rw [Int.natAbs_of_nonneg h0, Int.natCast_pow]
    exact h
  exact Int.ofNat_lt.mp this
theorem Sm.mod {i m : Int} {k : Nat} (h : 0 < m) (h2 : Sm k m) : Sm k (i % m) := by
  have a := Int.emod_nonneg i (Int.ne_of_gt h)
  have b := Int.emod_lt_of_pos i h
  unfold Sm at *
  omega
def MulOk (i j : Int) : Prop := i.natAbs.log2 + j.natAbs.log2 < 1000000
def DivOk (j : Int) : Prop := 0 < j ∧ j.natAbs.log2 < 9000
theorem mulOk {k l : Nat} {i j : Int} (h : Sm k i) (g : Sm l j) (e : k + l < 1000000 := by decide) : MulOk i j := by
  have := h.log; have := g.log
  unfold MulOk
  omega
theorem divOk {k : Nat} {j : Int} (h : 0 < j) (g : Sm k j) (e : k < 9000 := by decide) : DivOk j := ⟨h, Nat.lt_of_le_of_lt g.log e⟩
section
variable {P : Da → Mem → Prop} {mu : Mem} {i j : Int}
@[simp] theorem addD_int : addD (.int i) (.int j) = some (.int (i + j)) := rfl
@[simp] theorem subD_int : subD (.int i) (.int j) = some (.int (i - j)) := rfl
@[simp] theorem negD_int : negD (.int i) = some (.int (-i)) := rfl
@[simp] theorem ltD_int : ltD (.int i) (.int j) = some (.bl (decide (i < j))) := rfl
@[simp] theorem leD_int : leD (.int i) (.int j) = some (.bl (decide (i ≤ j))) := rfl
@[simp] theorem gtD_int : gtD (.int i) (.int j) = some (.bl (decide (j < i))) := rfl
@[simp] theorem geD_int : geD (.int i) (.int j) = some (.bl (decide (j ≤ i))) := rfl
@[simp] theorem yes_mul : Yes (opt (mulD (.int i) (.int j)) mu) P ↔ MulOk i j ∧ P (.int (i * j)) mu := by
  show Yes (opt (if i.natAbs.log2 + j.natAbs.log2 < 1000000 then _ else _) mu) P ↔ _
  by_cases h : i.natAbs.log2 + j.natAbs.log2 < 1000000
  · rw [if_pos h]; exact ⟨fun q => ⟨h, q⟩, fun q => q.2⟩
  · rw [if_neg h]; exact ⟨fun q => q.elim, fun q => h q.1⟩
@[simp] theorem yes_fdiv : Yes (opt (fdivD (.int i) (.int j)) mu) P ↔ DivOk j ∧ P (.int (i / j)) mu := by
  show Yes (opt (if 0 < j ∧ j.natAbs.log2 < 9000 then _ else _) mu) P ↔ _
  by_cases h : 0 < j ∧ j.natAbs.log2 < 9000
  · rw [if_pos h]; exact ⟨fun q => ⟨h, q⟩, fun q => q.2⟩
  · rw [if_neg h]; exact ⟨fun q => q.elim, fun q => h q.1⟩
@[simp] theorem yes_mod : Yes (opt (modD (.int i) (.int j)) mu) P ↔ 0 < j ∧ P (.int (i % j)) mu := by
  show Yes (opt (if 0 < j then _ else _) mu) P ↔ _
  by_cases h : 0 < j
  · rw [if_pos h]; exact ⟨fun q => ⟨h, q⟩, fun q => q.2⟩
  · rw [if_neg h]; exact ⟨fun q => q.elim, fun q => h q.1⟩
@[simp] theorem powD_6 : powD (.int 10) (.int 6) = some (.int 1000000) := rfl
@[simp] theorem powD_29 : powD (.int 10) (.int 29) = some (.int 100000000000000000000000000000) := rfl
theorem pow18 : powD (.int 10) (.int 18) = some (.int (10 ^ 18)) := rfl
theorem pow30 : powD (.int 10) (.int 30) = some (.int (10 ^ 30)) := rfl
@[simp] theorem yes_pow18 : Yes (opt (powD (.int 10) (.int 18)) mu) P ↔ P (.int (10 ^ 18)) mu := Iff.rfl
@[simp] theorem yes_pow30 : Yes (opt (powD (.int 10) (.int 30)) mu) P ↔ P (.int (10 ^ 30)) mu := Iff.rfl
@[simp] theorem lenD_lst {xs : List Da} : lenD [.lst xs] = some (.int xs.length) := rfl
@[simp] theorem lenD_tup {xs : List Da} : lenD [.tup xs] = some (.int xs.length) := rfl
@[simp] theorem intD_int : intD [.int i] = some (.int i) := rfl
@[simp] theorem tupD_lst {xs : List Da} : tupD [.lst xs] = some (.tup xs) := rfl
@[simp] theorem tupD_tup {xs : List Da} : tupD [.tup xs] = some (.tup xs) := rfl
@[simp] theorem listD_lst {xs : List Da} : listD [.lst xs] = some (.lst xs) := rfl
@[simp] theorem listD_tup {xs : List Da} : listD [.tup xs] = some (.lst xs) := rfl
@[simp] theorem max2D_int : max2D [.int i, .int j] = some (.int (max i j)) := by
  show some (Da.int (if j > i then j else i)) = _
  congr 2
  omega
@[simp] theorem min2D_int : min2D [.int i, .int j] = some (.int (min i j)) := by
  show some (Da.int (if j < i then j else i)) = _
  congr 2
  omega
theorem ix_nat {xs : List Da} {d : Da} (h0 : 0 ≤ i) (h : xs[i.toNat]? = some d) : L2.atI xs i = some d := by
  have hl : i.toNat < xs.length := by
    rcases Nat.lt_or_ge i.toNat xs.length with h1 | h1
    · exact h1
    · rw [List.getElem?_eq_none h1] at h; cases h
  unfold L2.atI L2.ixN
  rw [if_pos h0, if_pos (by omega)]
  exact h
theorem ix_last {xs : List Da} {d : Da} : L2.atI (xs ++ [d]) (-1) = some d := by
  unfold L2.atI L2.ixN
  rw [if_neg (by decide), if_pos (by rw [List.length_append]; simp; omega)]
  show (xs ++ [d])[((-1 : Int) + ((xs ++ [d]).length : Nat)).toNat]? = some d
  rw [List.length_append, List.length_singleton, show ((-1 : Int) + ((xs.length + 1 : Nat) : Int)).toNat = xs.length by omega]
  simp
@[simp] theorem ixD_lst {xs : List Da} : ixD (.lst xs) (.int i) = L2.atI xs i := rfl
@[simp] theorem ixD_tup {xs : List Da} : ixD (.tup xs) (.int i) = L2.atI xs i := rfl
theorem yes_at {xs : List Da} {d : Da} (h0 : 0 ≤ i) (h : xs[i.toNat]? = some d) (p : P d mu) : Yes (opt (L2.atI xs i) mu) P := by
  rw [ix_nat h0 h]; exact p
theorem sz_le {n : Nat} (h : n ≤ 16777216) : n ≤ sizeLine := by rw [PySem.sizeLine_eq]; exact h
theorem sz_lt {n : Nat} (h : n < 16777216) : n < sizeLine := by rw [PySem.sizeLine_eq]; exact h
theorem sz_of {i : Int} (h0 : 0 ≤ i) (h1 : i < 2 ^ 62) : Sz i := ⟨by omega, h1⟩
theorem rg_of {i j : Int} (h0 : 0 ≤ i) (h1 : i < 10 ^ 7) (h2 : 0 ≤ j) (h3 : j < 10 ^ 7) : rgOk i j = true := by
  unfold rgOk
  exact decide_eq_true ⟨by omega, by omega, by omega, by omega, by omega⟩
def repL {α : Type} (k : Nat) (a : List α) : List α := (List.replicate k a).flatten
theorem repL_len {α : Type} {k : Nat} {a : List α} : (repL k a).length = k * a.length := by unfold repL; simp
theorem mem_repL {α : Type} {k : Nat} {a : List α} {x : α} (h : x ∈ repL k a) : x ∈ a := by
  unfold repL at h
  obtain ⟨l, hl, hx⟩ := List.mem_flatten.mp h
  rw [List.eq_of_mem_replicate hl] at hx
  exact hx
theorem repL_map {α β : Type} {k : Nat} {a : List α} {f : α → β} : repL k (a.map f) = (repL k a).map f := by
  unfold repL
  rw [List.map_flatten, List.map_replicate]
@[simp] theorem yes_rep {a : List Da} : Yes (opt (mulD (.tup a) (.int i)) mu) P ↔ (a ≠ [] ∧ 2 ≤ i ∧ i ≤ 1000 ∧ a.length ≤ 1000) ∧ P (.tup (repL i.toNat a)) mu := by
  show Yes (opt (if a ≠ [] ∧ 2 ≤ i ∧ i ≤ 1000 ∧ a.length ≤ 1000 then _ else _) mu) P ↔ _
  by_cases h : a ≠ [] ∧ 2 ≤ i ∧ i ≤ 1000 ∧ a.length ≤ 1000
  · rw [if_pos h]; exact ⟨fun q => ⟨h, q⟩, fun q => q.2⟩
  · rw [if_neg h]; exact ⟨fun q => q.elim, fun q => h q.1⟩
@[simp] theorem yes_addT {a b : List Da} : Yes (opt (addD (.tup a) (.tup b)) mu) P ↔ a.length + b.length ≤ sizeLine ∧ P (.tup (a ++ b)) mu := by
  show Yes (opt (if a.length + b.length ≤ sizeLine then _ else _) mu) P ↔ _
  by_cases h : a.length + b.length ≤ sizeLine
  · rw [if_pos h]; exact ⟨fun q => ⟨h, q⟩, fun q => q.2⟩
  · rw [if_neg h]; exact ⟨fun q => q.elim, fun q => h q.1⟩
@[simp] theorem yes_addL {a b : List Da} : Yes (opt (addD (.lst a) (.lst b)) mu) P ↔ a.length + b.length ≤ sizeLine ∧ P (.lst (a ++ b)) mu := by
  show Yes (opt (if a.length + b.length ≤ sizeLine then _ else _) mu) P ↔ _
  by_cases h : a.length + b.length ≤ sizeLine
  · rw [if_pos h]; exact ⟨fun q => ⟨h, q⟩, fun q => q.2⟩
  · rw [if_neg h]; exact ⟨fun q => q.elim, fun q => h q.1⟩
@[simp] theorem slD_tup {a : List Da} {l h : Option Int} : slD (.tup a) l h = some (.tup (cutDs a l h)) := rfl
@[simp] theorem slD_lst {a : List Da} {l h : Option Int} : slD (.lst a) l h = some (.lst (cutDs a l h)) := rfl
theorem six_nn {n d : Nat} (h : 0 ≤ i) : HT.sIx n d (some i) = min i.toNat n := if_neg (by omega)
theorem cut_hi {xs : List Da} (h : 0 ≤ i) : cutDs xs none (some i) = xs.take i.toNat := by
  unfold cutDs
  rw [six_nn h, HT.sIx_none, List.drop_zero, Nat.sub_zero]
  by_cases q : i.toNat ≤ xs.length
  · rw [Nat.min_eq_left q]
  · rw [Nat.min_eq_right (by omega), List.take_length, List.take_of_length_le (by omega)]
theorem cut_lo {xs : List Da} (h : 0 ≤ i) : cutDs xs (some i) none = xs.drop i.toNat := by
  unfold cutDs
  rw [six_nn h, HT.sIx_none]
  by_cases q : i.toNat ≤ xs.length
  · rw [Nat.min_eq_left q, List.take_of_length_le (by rw [List.length_drop]; omega)]
  · rw [Nat.min_eq_right (by omega), List.drop_of_length_le (i := i.toNat) (by omega), List.drop_length]
    simp
theorem cut_last {xs : List Da} : cutDs xs none (some (-1)) = xs.dropLast := by
  unfold cutDs
  rw [HT.sIx_none, List.drop_zero, Nat.sub_zero, List.dropLast_eq_take]
  have e : HT.sIx xs.length xs.length (some (-1)) = xs.length - 1 := by
    show (if (-1 : Int) < 0 then ((-1 : Int) + (xs.length : Int)).toNat else min (-1 : Int).toNat xs.length) = _
    rw [if_pos (by decide)]
    omega
  rw [e]
/-- lo, lo + 1, .. -/
def iot (lo : Int) (n : Nat) : List Int := (List.range n).map fun k : Nat => lo + (k : Int)
theorem iot_get {lo : Int} {n k : Nat} (h : k < n) : (iot lo n)[k]? = some (lo + (k : Int)) := by
  unfold iot
  rw [List.getElem?_map, List.getElem?_range h]
  rfl
theorem iot_len {lo : Int} {n : Nat} : (iot lo n).length = n := by unfold iot; rw [List.length_map, List.length_range]
theorem mem_iot {lo x : Int} {n : Nat} (h : x ∈ iot lo n) : lo ≤ x ∧ x < lo + n := by
  unfold iot at h
  obtain ⟨k, hk, rfl⟩ := List.mem_map.mp h
  have := List.mem_range.mp hk
  omega
theorem rngD_map (n : Nat) (lo : Int) : rngD lo n = (iot lo n).map Da.int := by
  refine List.ext_getElem? fun i => ?_
  rw [rngD_get, List.getElem?_map]
  by_cases h : i < n
  · rw [if_pos h, iot_get h]; rfl
  · rw [if_neg h, List.getElem?_eq_none (by rw [iot_len]; omega)]; rfl
theorem rng_at {lo : Int} {n j : Nat} {x : Da} (h : (rngD lo n)[j]? = some x) : j < n ∧ x = .int (lo + (j : Int)) := by
  rw [rngD_get] at h
  by_cases q : j < n
  · rw [if_pos q] at h
    cases h
    exact ⟨q, rfl⟩
  · rw [if_neg q] at h; cases h
theorem yes_repT {a : List Da} : Yes (opt (mulD (.lst a) (.int i)) mu) P ↔ (-(2 ^ 63) ≤ i ∧ i < 2 ^ 63 ∧ a.length * i.toNat ≤ sizeLine) ∧ P (.lst (repL i.toNat a)) mu := by
  show Yes (opt (if -(2 ^ 63) ≤ i ∧ i < 2 ^ 63 ∧ a.length * i.toNat ≤ sizeLine then _ else _) mu) P ↔ _
  by_cases h : -(2 ^ 63) ≤ i ∧ i < 2 ^ 63 ∧ a.length * i.toNat ≤ sizeLine
  · rw [if_pos h]; exact ⟨fun q => ⟨h, q⟩, fun q => q.2⟩
  · rw [if_neg h]; exact ⟨fun q => q.elim, fun q => h q.1⟩
theorem okEq_int : okEq (.int i) (.int j) = true ↔ SeqAt.shaped (.int i) = true ∧ SeqAt.shaped (.int j) = true := by
  unfold okEq
  simp [isD, toPy]
end
/-! ### texts of data -/
abbrev SO2 (x : Str) : Prop := PyData.strOk x = true
theorem sok_app {a b : Str} (h : SO2 a) (g : SO2 b) : SO2 (a ++ b) := by
  unfold SO2 PyData.strOk at *
  rw [Str.cps_append, Array.all_append, h, g]
  rfl
theorem sok_of (s : String) : SO2 (Str.ofString s) := by
  rw [Str.ofString_eq_toList]
  unfold SO2 PyData.strOk
  rw [List.all_toArray, List.all_eq_true]
  intro c hc
  obtain ⟨ch, _, rfl⟩ := List.mem_map.mp hc
  have e : ch.toNat < 0x110000 := by
    rcases ch.valid with h | h
    · exact Nat.lt_trans h (by decide)
    · exact h.2
  exact decide_eq_true e
theorem sok_from : ∀ (ts : List Str) (k : Nat) (acc : Str), SO2 acc → (∀ t ∈ ts, SO2 t) → SO2 (textFrom k acc ts)
  | [], _, acc, h, _ => h
  | t :: r, k, acc, h, g => sok_from r (k + 1) _ (sok_app (sok_app h (sok_of _)) (g t (by simp))) fun u hu => g u (List.mem_cons_of_mem _ hu)
theorem sok_list {ts : List Str} (h : ∀ t ∈ ts, SO2 t) : SO2 (listText ts) := sok_app (sok_from ts 0 _ (sok_of "[") h) (sok_of "]")
theorem sok_join {sep : Str} (hs : SO2 sep) : ∀ {ts : List Str}, (∀ t ∈ ts, SO2 t) → SO2 (Str.join sep ts)
  | [], _ => by simp [SO2, PyData.strOk, Str.join, Str.empty]
  | [x], h => h x (by simp)
  | x :: y :: r, h => sok_app (sok_app (h x (by simp)) hs) (sok_join hs fun t ht => h t (List.mem_cons_of_mem _ ht))
theorem sok_tup {ts : List Str} (h : ∀ t ∈ ts, SO2 t) : SO2 (tupleText ts) := sok_app (sok_app (sok_of "(") (sok_join (sok_of ", ") h)) (by split <;> exact sok_of _)
mutual
/-- data of None, True, False, ints below 10 ** 200, short plain texts -/
def fine : Da → Bool
  | .non | .bl _ => true
  | .int i => decide (i.natAbs < 10 ^ 200)
  | .tup xs | .lst xs => fines xs
  | .str x => (PyData.str x).showable && ((PyData.str x).leavesShort 208 && (PyData.strOk x && PyData.strOk (PyData.str x).shown))
  | .ref _ => false
def fines : List Da → Bool
  | [] => true
  | d :: ds => fine d && fines ds
end
mutual
def bulkD : Da → Nat
  | .tup xs | .lst xs => bulkDs xs
  | .str x => x.cps.size
  | _ => 0
def bulkDs : List Da → Nat
  | [] => 0
  | d :: ds => bulkD d + 1 + bulkDs ds
end
mutual
def depD : Da → Nat
  | .tup xs | .lst xs => depDs xs + 1
  | _ => 0
def depDs : List Da → Nat
  | [] => 0
  | d :: ds => max (depD d) (depDs ds)
end
mutual
theorem fine_facts : ∀ {d : Da}, fine d = true → isD d = true ∧ (toPy d).showable = true ∧ (toPy d).leavesShort 208 = true ∧ PyData.canLay0 (toPy d) = true ∧ (toPy d).bulk = bulkD d ∧ (toPy d).depth = depD d ∧ SO2 (toPy d).shown
  | .non, _ => ⟨rfl, rfl, rfl, rfl, rfl, rfl, sok_of _⟩
  | .bl b, _ => ⟨rfl, rfl, rfl, rfl, rfl, rfl, by cases b <;> exact sok_of _⟩
  | .int i, h => by
    have hi : i.natAbs < 10 ^ 200 := of_decide_eq_true h
    refine ⟨rfl, ?_, ?_, rfl, rfl, rfl, sok_of _⟩
    · refine decide_eq_true (Nat.lt_of_le_of_lt (m := 700) ?_ (by decide))
      exact Sm.log (k := 700) (Nat.lt_trans hi (by decide))
    · have e := int_text_length_le10 (a := i) (k := 200) (by decide) hi
      refine decide_eq_true ?_
      show (Str.ofString (toString i)).length ≤ 208
      rw [ofString_length]
      omega
  | .tup xs, h => by
    obtain ⟨a, b, c, d, e, f, g⟩ := fines_facts (ds := xs) h
    exact ⟨a, b, c, d, e, congrArg (· + 1) f, sok_tup g⟩
  | .lst xs, h => by
    obtain ⟨a, b, c, d, e, f, g⟩ := fines_facts (ds := xs) h
    exact ⟨a, b, c, d, e, congrArg (· + 1) f, sok_list g⟩
  | .str x, h => by
    have h : ((PyData.str x).showable && ((PyData.str x).leavesShort 208 && (PyData.strOk x && PyData.strOk (PyData.str x).shown))) = true := h
    simp only [Bool.and_eq_true] at h
    exact ⟨rfl, h.1, h.2.1, h.2.2.1, rfl, rfl, h.2.2.2⟩
  | .ref _, h => by cases h
theorem fines_facts : ∀ {ds : List Da}, fines ds = true → isDs ds = true ∧ PyData.showableAll (toPys ds) = true ∧ PyData.leavesShortAll 208 (toPys ds) = true ∧ PyData.canLayAll0 (toPys ds) = true ∧ PyData.bulkAll (toPys ds) = bulkDs ds ∧ PyData.depthAll (toPys ds) = depDs ds ∧ ∀ t ∈ PyData.shownAll (toPys ds), SO2 t
  | [], _ => ⟨rfl, rfl, rfl, rfl, rfl, rfl, fun _ h => nomatch h⟩
  | x :: xs, h => by
    have hh := Bool.and_eq_true_iff.mp (show (fine x && fines xs) = true from h)
    obtain ⟨a, b, c, d, e, f, g⟩ := fine_facts hh.1
    obtain ⟨a2, b2, c2, d2, e2, f2, g2⟩ := fines_facts hh.2
    refine ⟨Bool.and_eq_true_iff.mpr ⟨a, a2⟩, Bool.and_eq_true_iff.mpr ⟨b, b2⟩, Bool.and_eq_true_iff.mpr ⟨c, c2⟩, Bool.and_eq_true_iff.mpr ⟨d, d2⟩, ?_, ?_, fun t ht => ?_⟩
    · show (toPy x).bulk + 1 + PyData.bulkAll (toPys xs) = bulkD x + 1 + bulkDs xs
      rw [e, e2]
    · show max (toPy x).depth (PyData.depthAll (toPys xs)) = max (depD x) (depDs xs)
      rw [f, f2]
    · rcases List.mem_cons.mp (show t ∈ (toPy x).shown :: PyData.shownAll (toPys xs) from ht) with z | z
      · rw [z]; exact g
      · exact g2 t z
end
/-- data whose text can be told and compared -/
structure Rp (d : Da) : Prop where
  fine : fine d = true
  bulk : bulkD d ≤ 50000
  dep : depD d ≤ 60
theorem Rp.repr {d : Da} (h : Rp d) : reprD [d] = some (.str (toPy d).shown) := by
  obtain ⟨a, b, c, _, e, f, g⟩ := fine_facts h.fine
  have l := PyData.shown_le_bulk 208 (by decide) (toPy d) c
  have k1 := h.bulk
  have k2 := h.dep
  have l2 : (toPy d).shown.length ≤ sizeLine := by rw [PySem.sizeLine_eq]; omega
  refine if_pos ?_
  unfold okRepr
  rw [a, b, decide_eq_true (show (toPy d).depth ≤ 60 by omega), decide_eq_true l2]
  rfl
theorem Rp.sok {d : Da} (h : Rp d) : SO2 (toPy d).shown := (fine_facts h.fine).2.2.2.2.2.2
theorem str_shaped {x : Str} (h : SO2 x) : SeqAt.shaped (.str x) = true := by
  unfold SeqAt.shaped
  rw [show PyData.canLay0 (.str x) = true from h]
  rfl
theorem ne_str {x : Str} (h : SO2 x) : neD (.str x) (.str x) = some (.bl false) := by
  have e : okEq (.str x) (.str x) = true := by
    unfold okEq
    rw [show toPy (.str x) = .str x from rfl, str_shaped h]
    rfl
  unfold neD
  rw [if_pos e]
  show some (Da.bl (!(x == x))) = _
  rw [beq_self_eq_true]
  rfl
@[simp] theorem eqD_int {i j : Int} : eqD (.int i) (.int j) = some (.bl (decide (i = j))) := by
  have e : okEq (.int i) (.int j) = true := rfl
  unfold eqD
  rw [if_pos e]
  show some (Da.bl (i == j)) = _
  congr 2
@[simp] theorem neD_int {i j : Int} : neD (.int i) (.int j) = some (.bl (!decide (i = j))) := by
  have e : okEq (.int i) (.int j) = true := rfl
  unfold neD
  rw [if_pos e]
  show some (Da.bl (!(i == j))) = _
  congr 2
theorem fine_shaped {d : Da} (h : fine d = true) (hd : depD d ≤ 64) : SeqAt.shaped (toPy d) = true := by
  obtain ⟨a, b, c, e, f, g, k⟩ := fine_facts h
  unfold SeqAt.shaped
  rw [e, g, decide_eq_true hd]
  rfl
theorem fine_okEq {x y : Da} (hx : fine x = true) (hy : fine y = true) (dx : depD x ≤ 64) (dy : depD y ≤ 64) : okEq x y = true := by
  unfold okEq
  rw [(fine_facts hx).1, (fine_facts hy).1, fine_shaped hx dx, fine_shaped hy dy]
  rfl
theorem ne_nil {xs : List Da} (h : fines xs = true) (hd : depDs xs ≤ 63) : neD (.lst xs) (.lst []) = some (.bl (!xs.isEmpty)) := by
  have e := fine_okEq (x := .lst xs) (y := .lst []) h rfl (by show depDs xs + 1 ≤ 64; omega) (by decide)
  unfold neD
  rw [if_pos e]
  cases xs <;> rfl
theorem eq_nil {xs : List Da} (h : fines xs = true) (hd : depDs xs ≤ 63) : eqD (.lst xs) (.lst []) = some (.bl xs.isEmpty) := by
  have e := fine_okEq (x := .lst xs) (y := .lst []) h rfl (by show depDs xs + 1 ≤ 64; omega) (by decide)
  unfold eqD
  rw [if_pos e]
  cases xs <;> rfl
theorem fines_of {xs : List Da} (h : ∀ x ∈ xs, fine x = true) : fines xs = true := by
  induction xs with
  | nil => rfl
  | cons x xs ih => exact Bool.and_eq_true_iff.mpr ⟨h x (by simp), ih fun y hy => h y (List.mem_cons_of_mem _ hy)⟩
theorem depDs_le {xs : List Da} {n : Nat} (h : ∀ x ∈ xs, depD x ≤ n) : depDs xs ≤ n := by
  induction xs with
  | nil => exact Nat.zero_le _
  | cons x xs ih => exact Nat.max_le.mpr ⟨h x (by simp), ih fun y hy => h y (List.mem_cons_of_mem _ hy)⟩
theorem bulkDs_le {xs : List Da} {n : Nat} (h : ∀ x ∈ xs, bulkD x ≤ n) : bulkDs xs ≤ (n + 1) * xs.length := by
  induction xs with
  | nil => exact Nat.le_refl _
  | cons x xs ih =>
    have h1 := h x (by simp)
    have h2 := ih fun y hy => h y (List.mem_cons_of_mem _ hy)
    show bulkD x + 1 + bulkDs xs ≤ (n + 1) * (xs.length + 1)
    rw [Nat.mul_add, Nat.mul_one]
    omega
end Sk

/-! Sk R: more rules: unpacking, x = a + b to be filled, is True. -/
namespace Sk
open PySem PySem.Spec L2

section
variable {X : Cx} {G : Fr} {W : WX} {pos pos' : Pos} {a b e : Expr} {da db d : EvD}
/-- a, b = e -/
def sUnp (bd : Da → Ev → Option Ev) (e : EvD) : StD := fun rho mu => sUse (e rho mu) rho fun d mu' => match bd d rho with
  | some rho' => .nx rho' mu'
  | none => .bad
theorem s_unp {tg : Expr} {is : List Nat} {bd : Da → Ev → Option Ev} (he : PE X e (TEx G W d)) (hg : PG X tg (TGx G is bd)) (hs : swapsWithSole [tg] e pos.line X.env = pure false := by rfl) (hw : swappedStores [tg] e X.env = pure none := by rfl)
    (h1 : (assignEach [tg] X.env).map (·.2) = [assign tg X.env] := by rfl) : PS X (.Assign [tg] e pos) (TSx G W (sUnp bd d)) := by
  refine PSw (ps_asg he hg hs hw h1) fun D σ H ⟨rho, mu, m, Own, S, h⟩ => ?_
  refine TEx.to S (use_wp (σ := σ) h) fun z mu1 v H1 m1 h1 g1 S1 r1 => ?_
  cases eb : bd z rho with
  | none => rw [eb] at h1; exact h1.elim
  | some rho' =>
    rw [eb] at h1
    exact ⟨z, rho, rho', mu1, m1, Own, S1, r1, eb, fun σ' S' _ => h1 σ' H1 m1 Own (g1.le _) S'⟩
/-- x = a + b, a new list to be filled -/
def sCatO (i : Nat) (a b : EvD) : StD := fun rho mu => sUse (a rho mu) rho fun x mu1 => sUse (b rho mu1) rho fun y mu2 => match x, y with
  | .lst xs, .lst ys => if xs.length + ys.length ≤ sizeLine then .nx (rho.set i (.own (xs ++ ys))) mu2 else .bad
  | _, _ => .bad
theorem s_catO {i : Nat} {x : Str} {bp : Pos} (ha : PE X a (TEx G W da)) (hb : PE X b (TEx G W db)) (hN : X.N.Nodup) (hi : X.N[i]? = some x := by rfl) (hx : Loc X.env.scope x := by first | exact Or.inl rfl | exact Or.inr rfl)
    (hs : swapsWith (.BinOp a .Add b bp) (some (.Name x pos')) pos.line X.env = pure false := by rfl) (hf : X.fn x = true ∨ X.env.scope.names.lookup x = some .local := by first | exact .inl rfl | exact .inr rfl) :
    PS X (.Assign [.Name x pos'] (.BinOp a .Add b bp) pos) (TSx G W (sCatO i da db)) := by
  refine PSw (ps_set hN hi hx (pe_op op_cat ha hb) hs hf) fun D σ H ⟨rho, mu, m, Own, S, h⟩ => ?_
  refine TEx.to S (use_wp (σ := σ) h) fun z1 mu1 v1 H1 m1 h1 g1 S1 r1 => TEx.to S1 (use_wp (σ := σ) (SOk.step (g1.le (G.bar Own)) h1)) fun z2 mu2 v2 H2 m2 h2 g2 S2 r2 => ?_
  replace r1 := r1.mono (g2.le (G.bar Own))
  cases z1 with
  | lst xs =>
    cases z2 with
    | lst ys =>
      dsimp only at h2
      by_cases q : xs.length + ys.length ≤ sizeLine
      · rw [if_pos q] at h2
        cases r1 with
        | lst a1 a2 a3 a4 =>
          cases r2 with
          | lst b1 b2 b3 b4 =>
            refine ⟨_, _, _, _, rfl, rfl, a3, b3, by rw [← a4.length, ← b4.length]; exact q, fun p hp => ?_⟩
            obtain ⟨S3, g3⟩ := S2.seto i (a4.append b4) hp
            exact h2 _ _ m2 _ ((g2.le _).trans g3) S3
      · rw [if_neg q] at h2
        exact h2.elim
    | _ => exact h2.elim
  | _ => cases z2 <;> exact h2.elim
/-- is, of truths -/
def isBD : Da → Da → Option Da
  | .bl a, .bl b => some (.bl (decide (a = b)))
  | _, _ => none
theorem o_isB : OpD X (compareOp .Is) isBD := by
  refine ⟨_, op_is_bl, fun m B H x y z a b Q e rx ry fr q => ?_⟩
  match x, y, e, rx, ry with
  | .bl i, .bl j, e, .bl _, .bl _ =>
    cases e
    exact ⟨i, j, rfl, rfl, q _ _ (Same.refl _) (.bl _)⟩
variable {rho : Ev} {mu : Mem} {D : Po} {P : Da → Mem → Prop}
@[simp] theorem sp_unp {bd : Da → Ev → Option Ev} : SP (sUnp bd da rho mu) D ↔ Yes (da rho mu) fun d m => match bd d rho with | some r2 => D.nx r2 m | none => False := by
  unfold sUnp; rw [sp_use]
  cases da rho mu with
  | ok d m => simp only [yes_ok]; cases bd d rho <;> exact Iff.rfl
  | _ => exact Iff.rfl
@[simp] theorem sp_catO {i : Nat} : SP (sCatO i da db rho mu) D ↔ Yes (da rho mu) fun x m => Yes (db rho m) fun y m2 => match x, y with
    | .lst xs, .lst ys => xs.length + ys.length ≤ sizeLine ∧ D.nx (rho.set i (.own (xs ++ ys))) m2
    | _, _ => False := by
  unfold sCatO; simp only [sp_use]
  cases da rho mu with
  | ok x m =>
    simp only [yes_ok]
    cases db rho m with
    | ok y m2 =>
      simp only [yes_ok]
      cases x with
      | lst xs =>
        cases y with
        | lst ys =>
          dsimp only
          by_cases q : xs.length + ys.length ≤ sizeLine
          · rw [if_pos q]; exact ⟨fun z => ⟨q, z⟩, fun z => z.2⟩
          · rw [if_neg q]; exact ⟨fun z => z.elim, fun z => q z.1⟩
        | _ => exact Iff.rfl
      | _ => exact Iff.rfl
    | _ => exact Iff.rfl
  | _ => exact Iff.rfl
@[simp] theorem isBD_bl {x y : Bool} : isBD (.bl x) (.bl y) = some (.bl (decide (x = y))) := rfl
end
end Sk

/-! Sk S: all, min, max of lists, min(.., default=None). -/
namespace Sk
open PySem PySem.Spec L2

def boolsOf : List Da → Option (List Bool)
  | [] => some []
  | .bl i :: r => (boolsOf r).map (i :: ·)
  | _ :: _ => none
theorem boolsOf_eq : ∀ {xs : List Da} {bs : List Bool}, boolsOf xs = some bs → xs = bs.map Da.bl
  | [], bs, h => by cases h; rfl
  | x :: xs, bs, h => by
    cases x with
    | bl i =>
      obtain ⟨cs, e1, e2⟩ := Option.map_eq_some_iff.mp (show (boolsOf xs).map (i :: ·) = some bs from h)
      rw [boolsOf_eq e1, ← e2]
      rfl
    | _ => cases h
theorem boolsOf_map : ∀ bs : List Bool, boolsOf (bs.map Da.bl) = some bs
  | [] => rfl
  | b :: bs => by
    show (boolsOf (bs.map Da.bl)).map (b :: ·) = _
    rw [boolsOf_map bs]
    rfl
theorem RDs.bools {m : List Addr} {B : Addr → Prop} {H : Hp} : ∀ {ns : List Bool} {v : List V}, RDs m B H (ns.map Da.bl) v → v = ns.map V.bl
  | [], _, .nil => rfl
  | n :: ns, _, .cons h t => by
    cases h
    rw [RDs.bools t]
    rfl
def allD : List Da → Option Da
  | [.lst xs] => (boolsOf xs).map fun bs => .bl (bs.all id)
  | _ => none
/-- the least and the greatest -/
def leastI : Int → List Int → Int := fun n ns => ns.foldl min n
def mostI : Int → List Int → Int := fun n ns => ns.foldl max n
theorem leastI_mem : ∀ (ns : List Int) (n : Int), leastI n ns ∈ n :: ns
  | [], n => by simp [leastI]
  | k :: ns, n => by
    have h := leastI_mem ns (min n k)
    show leastI (min n k) ns ∈ n :: k :: ns
    rcases List.mem_cons.mp h with e | e
    · rw [e]
      rcases Int.le_total n k with q | q
      · rw [Int.min_eq_left q]; simp
      · rw [Int.min_eq_right q]; simp
    · exact List.mem_cons_of_mem _ (List.mem_cons_of_mem _ e)
theorem leastI_le : ∀ (ns : List Int) (n : Int), ∀ y ∈ n :: ns, leastI n ns ≤ y
  | [], n, y, h => by rw [List.mem_singleton.mp h]; exact Int.le_refl _
  | k :: ns, n, y, h => by
    show leastI (min n k) ns ≤ y
    have i := leastI_le ns (min n k)
    have i0 := i (min n k) (by simp)
    rcases List.mem_cons.mp h with e | h
    · rw [e]; omega
    · rcases List.mem_cons.mp h with e | h
      · rw [e]; omega
      · exact i y (List.mem_cons_of_mem _ h)
theorem mostI_mem : ∀ (ns : List Int) (n : Int), mostI n ns ∈ n :: ns
  | [], n => by simp [mostI]
  | k :: ns, n => by
    have h := mostI_mem ns (max n k)
    show mostI (max n k) ns ∈ n :: k :: ns
    rcases List.mem_cons.mp h with e | e
    · rw [e]
      rcases Int.le_total n k with q | q
      · rw [Int.max_eq_right q]; simp
      · rw [Int.max_eq_left q]; simp
    · exact List.mem_cons_of_mem _ (List.mem_cons_of_mem _ e)
theorem mostI_ge : ∀ (ns : List Int) (n : Int), ∀ y ∈ n :: ns, y ≤ mostI n ns
  | [], n, y, h => by rw [List.mem_singleton.mp h]; exact Int.le_refl _
  | k :: ns, n, y, h => by
    show y ≤ mostI (max n k) ns
    have i := mostI_ge ns (max n k)
    have i0 := i (max n k) (by simp)
    rcases List.mem_cons.mp h with e | h
    · rw [e]; omega
    · rcases List.mem_cons.mp h with e | h
      · rw [e]; omega
      · exact i y (List.mem_cons_of_mem _ h)
def minLD : List Da → Option Da
  | [.lst xs] => (intsOf xs).bind fun ns => match ns with
    | [] => none
    | n :: r => some (.int (leastI n r))
  | _ => none
def maxLD : List Da → Option Da
  | [.lst xs] => (intsOf xs).bind fun ns => match ns with
    | [] => none
    | n :: r => some (.int (mostI n r))
  | _ => none
section
variable {X : Cx} {G : Fr} {W : WX} {pos : Pos} {a b e : Expr} {da db d : EvD}
theorem b_all (hc : X.calm = true) : CallD X (.builtin "all") allD := by
  refine ⟨_, cr_all hc, fun m B H xs z vs Q e r fr q => ?_⟩
  match xs, e with
  | [.lst xs], e =>
    obtain ⟨bs, e1, e2⟩ := Option.map_eq_some_iff.mp (show (boolsOf xs).map (fun bs => Da.bl (bs.all id)) = some z from e)
    subst e2
    cases r with
    | cons r1 r2 =>
      cases r2
      cases r1 with
      | lst a1 a2 a3 a4 =>
        have ev := RDs.bools (boolsOf_eq e1 ▸ a4)
        subst ev
        exact ⟨_, bs, rfl, SqL.of a3, q _ _ (Same.refl _) (.bl _)⟩
theorem b_minL (hc : X.calm = true) : CallD X (.builtin "min") minLD := by
  refine ⟨_, cr_min hc, fun m B H xs z vs Q e r fr q => ?_⟩
  match xs, e with
  | [.lst xs], e =>
    replace e : (intsOf xs).bind (fun ns => match ns with | [] => none | n :: r => some (.int (leastI n r))) = some z := e
    cases ei : intsOf xs with
    | none => rw [ei] at e; cases e
    | some ns =>
      rw [ei] at e
      cases ns with
      | nil => cases e
      | cons n ns =>
        cases e
        cases r with
        | cons r1 r2 =>
          cases r2
          cases r1 with
          | lst a1 a2 a3 a4 =>
            have ev := RDs.ints (intsOf_eq ei ▸ a4)
            subst ev
            refine ⟨_, n :: ns, rfl, SqL.of a3, Nat.zero_lt_succ _, fun k hk hl => ?_⟩
            have e2 : k = leastI n ns := Int.le_antisymm (hl _ (leastI_mem ns n)) (leastI_le ns n k hk)
            subst e2
            exact q _ _ (Same.refl _) (.int _)
theorem b_maxL (hc : X.calm = true) : CallD X (.builtin "max") maxLD := by
  refine ⟨_, cr_max hc, fun m B H xs z vs Q e r fr q => ?_⟩
  match xs, e with
  | [.lst xs], e =>
    replace e : (intsOf xs).bind (fun ns => match ns with | [] => none | n :: r => some (.int (mostI n r))) = some z := e
    cases ei : intsOf xs with
    | none => rw [ei] at e; cases e
    | some ns =>
      rw [ei] at e
      cases ns with
      | nil => cases e
      | cons n ns =>
        cases e
        cases r with
        | cons r1 r2 =>
          cases r2
          cases r1 with
          | lst a1 a2 a3 a4 =>
            have ev := RDs.ints (intsOf_eq ei ▸ a4)
            subst ev
            refine ⟨_, n :: ns, rfl, SqL.of a3, Nat.zero_lt_succ _, fun k hk hl => ?_⟩
            have e2 : k = mostI n ns := Int.le_antisymm (mostI_ge ns n k hk) (hl _ (mostI_mem ns n))
            subst e2
            exact q _ _ (Same.refl _) (.int _)
/-- min(list of ints, default=None) -/
def minDefD : Da → Option Da
  | .lst xs => (intsOf xs).map fun ns => match ns with
    | [] => .non
    | n :: r => .int (leastI n r)
  | _ => none
def rMinDef (K : PySem.W.Frag) : List V → List V → Hp → VK → Prop := fun vs zs H Q => ∃ (a : Addr) (ns : List Int), vs = [V.ref a] ∧ zs = [.non] ∧ SqL K H a (ns.map V.int) ∧ (match ns with | [] => Q .non H | n :: r => Q (.int (leastI n r)) H)
theorem ints_dp {K : PySem.W.Frag} {H : Hp} : ∀ ns : List Int, DpAll K H (ns.map V.int) (ns.map PyData.int)
  | [] => .nil
  | n :: ns => .cons (.int n) (ints_dp ns)
theorem ints_alike (ns : List Int) : PySem.W.AlikeAll (ns.map PyData.int) := by
  refine ⟨fun x hx y hy => ?_, fun x hx => ?_⟩
  · obtain ⟨i, _, rfl⟩ := List.mem_map.mp hx
    obtain ⟨j, _, rfl⟩ := List.mem_map.mp hy
    rfl
  · obtain ⟨i, _, rfl⟩ := List.mem_map.mp hx
    exact fun z => by cases z
theorem ints_depth : ∀ ns : List Int, PyData.depthAll (ns.map PyData.int) = 0
  | [] => rfl
  | n :: ns => by
    show max 0 (PyData.depthAll (ns.map PyData.int)) = 0
    rw [ints_depth ns]
    rfl
theorem cr_minDef (hc : X.calm = true) (hu : X.A.units + 64 < cLine) : CallRK X (.builtin "min") [Str.ofString "default"] (rMinDef X.K) := by
  intro pins s σ H vs zs us ws Q I r rz h
  obtain ⟨a, ns, rfl, rfl, hs, q⟩ := h
  obtain rfl := Vals.ref1 r
  obtain ⟨w1, rfl, e1⟩ := vals1 rz
  obtain rfl : w1 = Value.none := e1
  obtain ⟨its, rv, hl, _⟩ := I.list hs
  obtain ⟨as, ra⟩ := Dp.readsAll I (ns.map PyData.int) _ its (ints_dp ns) rv
  refine PySem.W.min_list_default (I.ok.hd hc) hl.isList ra (ints_alike ns) (by rw [ints_depth]; omega) (fun e h' tk k => ?_) fun y ys i v h' tk bs e hv hr k => ?_
  · cases ns with
    | cons n ns => cases e
    | nil => exact ⟨.non, H, I.kept k, rfl, q⟩
  · cases ns with
    | nil => cases e
    | cons n ns =>
      cases e
      rw [PySem.W.minD_ints] at hr
      cases hr
      exact ⟨.int _, H, I.kept k, ⟨_, rfl⟩, q⟩
theorem c_minDef {p kp np : Pos} {j : Nat} {lv : Nat} (hr : Rm lv X.A) (hm : X.mg "min" = none) (ha : PE X a (TEx G W da)) (hc : X.calm = true := by rfl) (hg : Gl X "min" := by rfl)
    (hst : starEach [a] X.env = (false, eval a X.env) :: starEach [] X.env := by rfl)
    (he : backTo pos (starEach [a] X.env) = (false, eval a X.env) :: backTo pos (starEach [] X.env) := by rfl) (hpl : (backTo pos (starEach [a] X.env)).any (·.1) = false := by rfl)
    (hall : (backToKw pos (keywordEach [⟨some "default", .Constant .none j np, kp⟩] X.env)).all (·.1.isSome) = true := by rfl) (hnone : (backToKw pos (keywordEach [⟨some "default", .Constant .none j np, kp⟩] X.env)).any (·.1.isNone) = false := by rfl)
    (hks : (backToKw pos (keywordEach [⟨some "default", .Constant .none j np, kp⟩] X.env)).filterMap (·.1) = [Str.ofString "default"] := by rfl) :
    PE X (.Call (.Name "min" p) [a] [⟨some "default", .Constant .none j np, kp⟩] pos) (TEx G W (e1 minDefD da)) := by
  refine PEw (pe_callBK (cr_minDef hc hr.r.units) hg hm rfl (pa_cons ha pa_nil hst) (pk_cons pe_non pk_nil) (by decide) (by decide) he hpl hall hnone hks) fun σ H Q h => ?_
  obtain ⟨rho, mu, m, Own, S, h⟩ := h.un
  refine TEx.to S (wp_bnd h) fun x mu1 v H1 m1 h1 g1 S1 r1 => ?_
  obtain ⟨z, e, q⟩ := wp_opt h1
  cases r1 with
  | lst a1 a2 a3 a4 =>
    obtain ⟨ns, ei, e2⟩ := Option.map_eq_some_iff.mp (show (intsOf _).map (fun ns => match ns with | [] => Da.non | n :: r => .int (leastI n r)) = some z from e)
    have ev := RDs.ints (intsOf_eq ei ▸ a4)
    subst ev
    refine ⟨_, ns, rfl, rfl, SqL.of a3, ?_⟩
    cases ns with
    | nil => cases e2; exact q _ H1 m1 g1 S1 .non
    | cons n ns => cases e2; exact q _ H1 m1 g1 S1 (.int _)
  | _ => cases e
end
end Sk

/-! Sk T: comprehensions of two clauses. -/
namespace Sk
open PySem PySem.Spec L2

/-- [e for .. in it for .. in it1] -/
def cLoop2 (bd : Da → Ev → Option Ev) (it1 : EvI) (vs1 : List Nat) (bd1 : Da → Ev → Option Ev) (e : EvD) (rho0 : Ev) : List Da → Mem → Out (List Da)
  | [], mu => .ok [] mu
  | x :: xs, mu => match bd x rho0 with
    | none => .bad
    | some rho1 => bnd (noX (it1 rho1 mu)) fun ys mu1 => bnd (cLoop bd1 tT e (wipeE rho1 vs1) ys mu1) fun zs mu2 => bnd (cLoop2 bd it1 vs1 bd1 e rho0 xs mu2) fun ws mu3 => .ok (zs ++ ws) mu3
def eCmp2 (it : EvI) (vs : List Nat) (bd : Da → Ev → Option Ev) (it1 : EvI) (vs1 : List Nat) (bd1 : Da → Ev → Option Ev) (e : EvD) : EvD := fun rho mu => bnd (it rho mu) fun xs mu1 => bnd (cLoop2 bd it1 vs1 bd1 e (wipeE rho vs) xs mu1) fun zs mu2 => if zs.length ≤ sizeLine then .ok (.lst zs) mu2 else .bad
/-- a store that makes no list to be filled -/
def BdV (bd : Da → Ev → Option Ev) : Prop := ∀ x r r1, bd x r = some r1 → ∀ (i : Nat) (xs : List Da), r1[i]? = some (Sl.own xs) → r[i]? = some (Sl.own xs)
theorem set_own {r : Ev} {i j : Nat} {d : Da} {xs : List Da} (h : (r.set i (.val d))[j]? = some (Sl.own xs)) : r[j]? = some (Sl.own xs) := by
  by_cases hj : i = j
  · subst hj
    rw [List.getElem?_set_self'] at h
    cases q : r[i]? with
    | none => rw [q] at h; cases h
    | some s => rw [q] at h; cases h
  · rw [List.getElem?_set_ne hj] at h; exact h
theorem bName_v {i : Nat} : BdV (bName i) := fun x r r1 h j xs e => by
  cases h
  exact set_own e
theorem bNames_v : ∀ (is : List Nat) (ds : List Da) (r r1 : Ev), bNames is ds r = some r1 → ∀ (i : Nat) (xs : List Da), r1[i]? = some (Sl.own xs) → r[i]? = some (Sl.own xs)
  | [], [], r, r1, h, i, xs, e => by cases h; exact e
  | [], _ :: _, r, r1, h, i, xs, e => by cases h
  | _ :: _, [], r, r1, h, i, xs, e => by cases h
  | k :: is, d :: ds, r, r1, h, i, xs, e => set_own (bNames_v is ds (r.set k (.val d)) r1 h i xs e)
theorem bTup_v {is : List Nat} : BdV (bTup is) := fun x r r1 h j xs e => by
  cases x with
  | tup ds => exact bNames_v is ds r r1 h j xs e
  | _ => cases h
theorem wipe_ne {σ : L2.St} {i : Nat} : ∀ {vs : List Nat}, i ∉ vs → (wipe σ vs)[i]? = σ[i]?
  | [], _ => rfl
  | v :: vs, h => by
    unfold wipe
    rw [List.getElem?_set_ne (fun z => h (by rw [z]; simp))]
    exact wipe_ne fun z => h (List.mem_cons_of_mem _ z)
theorem wipeE_own {rho : Ev} {i : Nat} {xs : List Da} : ∀ {vs : List Nat}, (wipeE rho vs)[i]? = some (Sl.own xs) → i ∉ vs ∧ rho[i]? = some (Sl.own xs)
  | [], h => ⟨by simp, h⟩
  | v :: vs, h => by
    unfold wipeE at h
    by_cases hj : v = i
    · subst hj
      rw [List.getElem?_set_self'] at h
      cases q : (wipeE rho vs)[v]? with
      | none => rw [q] at h; cases h
      | some s => rw [q] at h; cases h
    · rw [List.getElem?_set_ne hj] at h
      obtain ⟨a, b⟩ := wipeE_own h
      exact ⟨fun z => (List.mem_cons.mp z).elim (fun e => hj e.symm) a, b⟩
section
variable {G : Fr} {W : WX} {rho : Ev} {mu : Mem} {σ : L2.St} {H H' : Hp} {m : List Addr} {Own : Addr → Prop}
theorem cLoop_nox {bd : Da → Ev → Option Ev} {t : EvT} {e : EvD} {rho0 : Ev} : ∀ (xs : List Da) (u : Mem) (x : Exn) (v : Mem), cLoop bd t e rho0 xs u ≠ .exc x v
  | [], u, x, v, h => by cases h
  | y :: ys, u, x, v, e1 => by
    unfold cLoop at e1
    cases eb : bd y rho0 with
    | none => rw [eb] at e1; cases e1
    | some r1 =>
      rw [eb] at e1
      dsimp only at e1
      cases et : t r1 u with
      | ok b u1 =>
        rw [et] at e1
        simp only [noX, bnd] at e1
        cases b with
        | false => exact cLoop_nox ys u1 x v e1
        | true =>
          simp only [if_true] at e1
          cases ee : e r1 u1 with
          | ok z u2 =>
            rw [ee] at e1
            dsimp only at e1
            cases ec : cLoop bd t e rho0 ys u2 with
            | ok zs u3 => rw [ec] at e1; cases e1
            | exc x' u3 => exact cLoop_nox ys u2 x' u3 ec
            | bad => rw [ec] at e1; cases e1
          | exc x' u2 => rw [ee] at e1; cases e1
          | bad => rw [ee] at e1; cases e1
      | exc x' u1 => rw [et] at e1; cases e1
      | bad => rw [et] at e1; cases e1
theorem cLoop2_nox {bd : Da → Ev → Option Ev} {it1 : EvI} {vs1 : List Nat} {bd1 : Da → Ev → Option Ev} {e : EvD} {rho0 : Ev} : ∀ (xs : List Da) (u : Mem) (x : Exn) (v : Mem), cLoop2 bd it1 vs1 bd1 e rho0 xs u ≠ .exc x v
  | [], u, x, v, h => by cases h
  | y :: ys, u, x, v, e1 => by
    unfold cLoop2 at e1
    cases eb : bd y rho0 with
    | none => rw [eb] at e1; cases e1
    | some r1 =>
      rw [eb] at e1
      dsimp only at e1
      cases et : it1 r1 u with
      | ok b u1 =>
        rw [et] at e1
        simp only [noX, bnd] at e1
        cases ec : cLoop bd1 tT e (wipeE r1 vs1) b u1 with
        | ok zs u3 =>
          rw [ec] at e1
          dsimp only at e1
          cases ed : cLoop2 bd it1 vs1 bd1 e rho0 ys u3 with
          | ok ws u4 => rw [ed] at e1; cases e1
          | exc x' u4 => exact cLoop2_nox ys u3 x' u4 ed
          | bad => rw [ed] at e1; cases e1
        | exc x' u3 => exact cLoop_nox b u1 x' u3 ec
        | bad => rw [ec] at e1; cases e1
      | exc x' u1 => rw [et] at e1; cases e1
      | bad => rw [et] at e1; cases e1
theorem wp_nox {α : Type} {o : Out α} {P : α → Mem → Prop} {E : Exn → Mem → Prop} (h : o.wp P E) (n : ∀ x v, o ≠ .exc x v) : o.wp P fun _ _ => False := by
  cases o with
  | ok a u => exact h
  | exc x v => exact absurd rfl (n x v)
  | bad => exact h
theorem cmp2_le {it it1 : EvI} {bd bd1 : Da → Ev → Option Ev} {vs vs1 : List Nat} {e : EvD} {σ : L2.St} {H : Hp} {Q : VK} (hv : BdV bd) (h : TEx G W (eCmp2 it vs bd it1 vs1 bd1 e) σ H Q) :
    tLc2 (TIx G W it) (TGx G vs bd) (TTx G WF tT) (TIx G WF it1) (TGx G vs1 bd1) (TTx G WF tT) (TEx G WF e) vs vs1 σ H Q := by
  obtain ⟨rho, mu, m, Own, S, h⟩ := h.un
  refine ⟨rho, mu, m, Own, S, wp_and (wp_bnd h) fun items mu1 h1 J H1 m1 g1 S1 wk => ?_⟩
  intro D hD
  have ns := S1.noslot hD
  obtain ⟨S2, le2⟩ := S1.bar1 (o := .lst []) hD
  have h1 := wp_nox (wp_bnd h1) (cLoop2_nox items mu1)
  refine ⟨fun i k H' => k = items.length - i ∧ i ≤ items.length ∧ ∃ mu' m' acc av, Le m1 (G.bar Own) H1 m' (G.bar (fun a => Own a ∨ a = D)) H' ∧ Lf m1 H1 m' H' ∧ StR G rho mu' σ H' m' (fun a => Own a ∨ a = D) ∧ H' D = some (.lst av) ∧ RDs m' (G.bar (fun a => Own a ∨ a = D)) H' acc av ∧
      (cLoop2 bd it1 vs1 bd1 e (wipeE rho vs) (items.drop i) mu').wp (fun ws mu2 => (acc ++ ws).length ≤ sizeLine ∧ QE G rho σ Own m H Q (.lst (acc ++ ws)) mu2) (fun _ _ => False), ⟨items.length, by simp, Nat.zero_le _, mu1, m1, [], [], le2, Lf.of_same (same_upd hD), S2, upd_same, .nil, ?_⟩, ?_⟩
  · rw [List.drop_zero]
    refine wp_and h1 fun ws mu2 q => ?_
    by_cases z : ws.length ≤ sizeLine
    · rw [if_pos z] at q; exact ⟨z, q⟩
    · rw [if_neg z] at q; exact q.elim
  · rintro i k H2 ⟨rfl, hi2, mu2, m2, acc, av, g2, l2, S2, hDv, rd, hw⟩
    obtain ⟨w1, w2⟩ := wk m2 _ H2 g2 fun p hp => S2.fresh hp
    by_cases hlt : i < items.length
    · have ed : items[i]? = some items[i] := List.getElem?_eq_getElem hlt
      rw [List.drop_eq_getElem_cons hlt] at hw
      unfold cLoop2 at hw
      obtain ⟨k1, k2⟩ := w1 i _ ed
      refine .inr ⟨k1, fun H' => i + 1 ≤ items.length ∧ ∃ mu' m' acc av, Le m1 (G.bar Own) H1 m' (G.bar (fun a => Own a ∨ a = D)) H' ∧ Lf m1 H1 m' H' ∧ StR G rho mu' σ H' m' (fun a => Own a ∨ a = D) ∧ H' D = some (.lst av) ∧ RDs m' (G.bar (fun a => Own a ∨ a = D)) H' acc av ∧
          (cLoop2 bd it1 vs1 bd1 e (wipeE rho vs) (items.drop (i + 1)) mu').wp (fun ws mu2 => (acc ++ ws).length ≤ sizeLine ∧ QE G rho σ Own m H Q (.lst (acc ++ ws)) mu2) (fun _ _ => False), fun H' z => ⟨items.length - (i + 1), by omega, rfl, z⟩, fun x H3 y => ?_⟩
      obtain ⟨sm, rx⟩ := k2 x H3 y
      cases eb : bd items[i] (wipeE rho vs) with
      | none => rw [eb] at hw; exact hw.elim
      | some rho3 =>
        rw [eb] at hw
        dsimp only at hw
        have nD : D ∉ m2 := fun z => S2.wd.dis D z (.inr (.inr rfl))
        have S3 := S2.same sm
        refine ⟨items[i], wipeE rho vs, rho3, mu2, m2, (fun a => Own a ∨ a = D), S3.wipe _, rx, eb, fun σ4 S4 ew => ⟨ew.trans (wipe_idem _ _), ?_⟩⟩
        have ns4 : NoSlot rho3 σ4 D := fun i xs e1 e2 => by
          obtain ⟨n1, e3⟩ := wipeE_own (hv _ _ _ eb i xs e1)
          have e4 : σ4[i]? = σ[i]? := by
            rw [← wipe_ne (σ := σ4) n1, ew, wipe_ne n1, wipe_ne n1]
          exact ns i xs e3 (e4 ▸ e2)
        refine TTx.to (d := tT) S4 (A := fun b u => b = true ∧ u = mu2) ⟨rfl, rfl⟩ fun b mu5 H5 m5 ⟨eb2, eu⟩ g5 S5 => ?_
        subst eb2 eu
        rw [if_pos rfl]
        have lf3 : Lf m2 H2 m5 H5 := (Lf.of_same sm).trans g5
        have S5' := (S2.call lf3 S5.wd)
        have hD5 : H5 D = some (.lst av) := lf3.keep D _ hDv (fun _ z => nomatch z) nD id
        refine ⟨rho3, mu5, m5, (fun a => Own a ∨ a = D), S5, wp_and (wp_noX (E' := ES G WF rho3 σ4 (fun a => Own a ∨ a = D) m5 H5) (wp_bnd hw)) fun items1 mu6 h6 J1 H6 m6 g6 S6 wk6 => ?_⟩
        have lf6 : Lf m2 H2 m6 H6 := lf3.trans g6
        have S6' := (S2.call lf6 S6.wd)
        have hD6 : H6 D = some (.lst av) := lf6.keep D _ hDv (fun _ z => nomatch z) nD id
        have h6 := wp_nox (wp_bnd h6) (cLoop_nox items1 mu6)
        refine ⟨fun j k H' => k = items1.length - j ∧ j ≤ items1.length ∧ ∃ mu' m' acc av, Le m6 (G.bar (fun a => Own a ∨ a = D)) H6 m' (G.bar (fun a => Own a ∨ a = D)) H' ∧ Le m1 (G.bar Own) H1 m' (G.bar (fun a => Own a ∨ a = D)) H' ∧ Lf m1 H1 m' H' ∧ StR G rho mu' σ H' m' (fun a => Own a ∨ a = D) ∧ StR G rho3 mu' σ4 H' m' (fun a => Own a ∨ a = D) ∧ H' D = some (.lst av) ∧ RDs m' (G.bar (fun a => Own a ∨ a = D)) H' acc av ∧
            (cLoop bd1 tT e (wipeE rho3 vs1) (items1.drop j) mu').wp (fun zs mu2 => (bnd (cLoop2 bd it1 vs1 bd1 e (wipeE rho vs) (items.drop (i + 1)) mu2) fun ws mu3 => .ok (zs ++ ws) mu3).wp (fun ws mu3 => (acc ++ ws).length ≤ sizeLine ∧ QE G rho σ Own m H Q (.lst (acc ++ ws)) mu3) fun _ _ => False) (fun _ _ => False),
          ⟨items1.length, by simp, Nat.zero_le _, mu6, m6, acc, av, Le.refl, g2.trans (lf6.le _), l2.trans lf6, S6', S6, hD6, RDs.mono (lf6.le _) rd, ?_⟩, ?_⟩
        · rw [List.drop_zero]
          exact h6
        · rintro j k H7 ⟨rfl, hj2, mu7, m7, acc7, av7, g7, gg7, l7, S7, T7, hD7, rd7, hw7⟩
          obtain ⟨x1, x2⟩ := wk6 m7 _ H7 g7 fun p hp => T7.fresh hp
          by_cases hlt1 : j < items1.length
          · have ed1 : items1[j]? = some items1[j] := List.getElem?_eq_getElem hlt1
            rw [List.drop_eq_getElem_cons hlt1] at hw7
            unfold cLoop at hw7
            obtain ⟨y1, y2⟩ := x1 j _ ed1
            refine .inr ⟨y1, fun H' => j + 1 ≤ items1.length ∧ ∃ mu' m' acc av, Le m6 (G.bar (fun a => Own a ∨ a = D)) H6 m' (G.bar (fun a => Own a ∨ a = D)) H' ∧ Le m1 (G.bar Own) H1 m' (G.bar (fun a => Own a ∨ a = D)) H' ∧ Lf m1 H1 m' H' ∧ StR G rho mu' σ H' m' (fun a => Own a ∨ a = D) ∧ StR G rho3 mu' σ4 H' m' (fun a => Own a ∨ a = D) ∧ H' D = some (.lst av) ∧ RDs m' (G.bar (fun a => Own a ∨ a = D)) H' acc av ∧
              (cLoop bd1 tT e (wipeE rho3 vs1) (items1.drop (j + 1)) mu').wp (fun zs mu2 => (bnd (cLoop2 bd it1 vs1 bd1 e (wipeE rho vs) (items.drop (i + 1)) mu2) fun ws mu3 => .ok (zs ++ ws) mu3).wp (fun ws mu3 => (acc ++ ws).length ≤ sizeLine ∧ QE G rho σ Own m H Q (.lst (acc ++ ws)) mu3) fun _ _ => False) (fun _ _ => False),
              fun H' z => ⟨items1.length - (j + 1), by omega, rfl, z⟩, fun x H8 y => ?_⟩
            obtain ⟨sm8, rx8⟩ := y2 x H8 y
            cases eb8 : bd1 items1[j] (wipeE rho3 vs1) with
            | none => rw [eb8] at hw7; exact hw7.elim
            | some rho9 =>
              rw [eb8] at hw7
              dsimp only at hw7
              rw [show noX (tT rho9 mu7) = .ok true mu7 from rfl] at hw7
              have hw7 : (bnd (noX (e rho9 mu7)) fun y mu2 => bnd (cLoop bd1 tT e (wipeE rho3 vs1) (items1.drop (j + 1)) mu2) fun ys mu3 => .ok (y :: ys) mu3).wp _ _ := hw7
              have nD7 : D ∉ m7 := fun z => T7.wd.dis D z (.inr (.inr rfl))
              have T8 := T7.same sm8
              refine ⟨items1[j], wipeE rho3 vs1, rho9, mu7, m7, (fun a => Own a ∨ a = D), T8.wipe _, rx8, eb8, fun σ9 S9 ew9 => ⟨ew9.trans (wipe_idem _ _), ?_⟩⟩
              refine TTx.to (d := tT) S9 (A := fun b u => b = true ∧ u = mu7) ⟨rfl, rfl⟩ fun b mu10 H10 m10 ⟨eb10, eu10⟩ g10 S10 => ?_
              subst eb10 eu10
              rw [if_pos rfl]
              refine TEx.to S10 (wp_noX (E' := ES G WF rho9 σ9 (fun a => Own a ∨ a = D) m10 H10) (wp_bnd hw7)) fun z mu11 v H11 m11 h11 g11 S11 r11 => ?_
              have lf11 : Lf m7 H7 m11 H11 := ((Lf.of_same sm8).trans g10).trans g11
              have S11' := (S7.call lf11 S11.wd)
              have T11' := (T7.call lf11 S11.wd)
              have hD11 : H11 D = some (.lst av7) := lf11.keep D _ hD7 (fun _ z => nomatch z) nD7 id
              have rd11 : RDs m11 (G.bar (fun a => Own a ∨ a = D)) H11 (acc7 ++ [z]) (av7 ++ [v]) := (RDs.mono (lf11.le _) rd7).append (.cons r11 .nil)
              obtain ⟨S12, le12⟩ := S11'.write (.lst (av7 ++ [v])) (.inr rfl) ns
              obtain ⟨T12, _⟩ := T11'.write (.lst (av7 ++ [v])) (.inr rfl) ns4
              have q := wp_nox (wp_bnd h11) (cLoop_nox (items1.drop (j + 1)) mu11)
              have lt : acc7.length < sizeLine := by
                cases ec : cLoop bd1 tT e (wipeE rho3 vs1) (items1.drop (j + 1)) mu11 with
                | ok ys u =>
                  rw [ec] at q
                  have q := wp_bnd (show (bnd (cLoop2 bd it1 vs1 bd1 e (wipeE rho vs) (items.drop (i + 1)) u) fun ws mu3 => .ok ((z :: ys) ++ ws) mu3).wp _ _ from q)
                  cases ed : cLoop2 bd it1 vs1 bd1 e (wipeE rho vs) (items.drop (i + 1)) u with
                  | ok ws u4 =>
                    rw [ed] at q
                    have q1 : (acc7 ++ ((z :: ys) ++ ws)).length ≤ sizeLine := q.1
                    rw [List.length_append, List.length_append, List.length_cons] at q1
                    omega
                  | exc x u4 => rw [ed] at q; exact q.elim
                  | bad => rw [ed] at q; exact q.elim
                | exc x u => rw [ec] at q; exact q.elim
                | bad => rw [ec] at q; exact q.elim
              refine ⟨av7, hD11, by rw [← rd7.length]; exact lt, hlt1, mu11, m11, acc7 ++ [z], av7 ++ [v], g7.trans ((lf11.le _).trans le12), gg7.trans ((lf11.le _).trans le12), ?_, S12, T12, upd_same, RDs.mono le12 rd11, ?_⟩
              · refine ⟨(l7.trans lf11).pre, fun a u e n n1 n2 => ?_, fun a e => (l7.trans lf11).dom a (le12.dom a e), fun a z => z.elim⟩
                rw [upd_ne (fun (q : a = D) => by rw [q, hD] at e; cases e)]
                exact (l7.trans lf11).keep a u e n n1 n2
              · refine wp_and q fun ys u q => ?_
                have q := wp_bnd (show (bnd (cLoop2 bd it1 vs1 bd1 e (wipeE rho vs) (items.drop (i + 1)) u) fun ws mu3 => .ok ((z :: ys) ++ ws) mu3).wp _ _ from q)
                show (bnd (cLoop2 bd it1 vs1 bd1 e (wipeE rho vs) (items.drop (i + 1)) u) fun ws mu3 => .ok (ys ++ ws) mu3).wp _ _
                cases ed : cLoop2 bd it1 vs1 bd1 e (wipeE rho vs) (items.drop (i + 1)) u with
                | ok ws u4 =>
                  rw [ed] at q
                  have q1 : (acc7 ++ ((z :: ys) ++ ws)).length ≤ sizeLine ∧ QE G rho σ Own m H Q (.lst (acc7 ++ ((z :: ys) ++ ws))) u4 := q
                  have ea : acc7 ++ ((z :: ys) ++ ws) = (acc7 ++ [z]) ++ (ys ++ ws) := by simp
                  rw [ea] at q1
                  exact q1
                | exc x u4 => rw [ed] at q; exact q.elim
                | bad => rw [ed] at q; exact q.elim
          · have ei : j = items1.length := Nat.le_antisymm hj2 (Nat.not_lt.mp hlt1)
            rw [List.drop_eq_nil_of_le (Nat.not_lt.mp hlt1)] at hw7
            refine .inl ⟨by rw [ei]; exact x2, hlt, mu7, m7, acc7, av7, gg7, l7, S7, hD7, rd7, ?_⟩
            exact wp_and (wp_bnd (show (bnd (cLoop2 bd it1 vs1 bd1 e (wipeE rho vs) (items.drop (i + 1)) mu7) fun ws mu3 => .ok ([] ++ ws) mu3).wp _ _ from hw7)) fun ws mu3 q => q
    · have ei : i = items.length := Nat.le_antisymm hi2 (Nat.not_lt.mp hlt)
      rw [List.drop_eq_nil_of_le (Nat.not_lt.mp hlt)] at hw
      refine .inl ⟨by rw [ei]; exact w2, ?_⟩
      have hw' : QE G rho σ Own m H Q (.lst (acc ++ [])) mu2 := hw.2
      rw [List.append_nil] at hw'
      have Sf := S2.unbar ns
      obtain ⟨f1, f2⟩ := S1.fresh hD
      exact hw' (.ref D) H2 m2 (g1.trans l2) Sf (.lst (fun z => S2.wd.dis D z (.inr (.inr rfl))) f2 hDv (RDs.mono (Le.less fun a z => z.elim .inl fun q => .inr (.inl q)) rd))
end
section
variable {X : Cx} {G : Fr} {W : WX} {pos pos' : Pos}
theorem wipe_sub {σ : L2.St} {vs : List Nat} : ∀ (us : List Nat), (∀ i ∈ us, i ∈ vs) → wipe (wipe σ us) vs = wipe σ vs
  | [], _ => rfl
  | u :: us, h => by
    show wipe ((wipe σ us).set u none) vs = _
    rw [wipe_set_mem (h u (by simp))]
    exact wipe_sub us fun i hi => h i (List.mem_cons_of_mem _ hi)
theorem g_up {tg : Expr} {is js : List Nat} {bd : Da → Ev → Option Ev} (h : PG X tg (TGx G is bd)) (hs : ∀ i ∈ is, i ∈ js) : PG X tg (TGx G js bd) := PGw h fun v σ H Q ⟨d, rho, rho', mu, m, Own, S, r, e, q⟩ =>
  ⟨d, rho, rho', mu, m, Own, S, r, e, fun σ' S' w => q σ' S' (by rw [← wipe_sub (σ := σ') is hs, w, wipe_sub is hs])⟩
theorem c_comp2 {elt tg iter tg1 iter1 : Expr} {scope : Scope} {own : List (Str × Nat)} {it it1 : EvI} {bd bd1 : Da → Ev → Option Ev} {vs1 : List Nat} {e : EvD} (hN : X.N.Nodup) (hi : PI X tg iter (TIx G W it)) (ok : BlkOk X.N X.env.scope scope own) (hbv : BdV bd) (hv : ∀ i ∈ vs1, i ∈ own.map (·.2))
    (hg : ∀ (s : Shared) (H : Hp) (C : Addr) (cl : List (Str × Addr)) (fp : List Addr), PG (X.blk s H scope (compEnvC scope cl C X.env) fp) tg (TGx G (own.map (·.2)) bd))
    (hi1 : ∀ (s : Shared) (H : Hp) (C : Addr) (cl : List (Str × Addr)) (fp : List Addr), PI (X.blk s H scope (compEnvC scope cl C X.env) fp) tg1 iter1 (TIx G WF it1))
    (hg1 : ∀ (s : Shared) (H : Hp) (C : Addr) (cl : List (Str × Addr)) (fp : List Addr), PG (X.blk s H scope (compEnvC scope cl C X.env) fp) tg1 (TGx G vs1 bd1))
    (he : ∀ (s : Shared) (H : Hp) (C : Addr) (cl : List (Str × Addr)) (fp : List Addr), PE (X.blk s H scope (compEnvC scope cl C X.env) fp) elt (TEx G WF e)) (hc : X.calm = true := by rfl) (hs : ∀ x, foldedSetIterable iter X.env x = pure x := by intro _; rfl) (hs1 : ∀ env x, foldedSetIterable iter1 env x = pure x := by intro _ _; rfl) :
    PE X (.ListComp elt [⟨tg, iter, [], 0⟩, ⟨tg1, iter1, [], 0⟩] scope pos) (TEx G W (eCmp2 it (own.map (·.2)) bd it1 vs1 bd1 e)) :=
  PEw (pe_lc2 hc hN hi ok hv hg (fun _ _ _ _ _ => ts_nil) hi1 hg1 (fun _ _ _ _ _ => ts_nil) he hs hs1) fun σ H Q h => cmp2_le hbv h
end
section
variable {rho : Ev} {mu : Mem} {P : Da → Mem → Prop} {it it1 : EvI} {e : EvD}
@[simp] theorem yes_eCmp2 {vs vs1 : List Nat} {bd bd1 : Da → Ev → Option Ev} : Yes (eCmp2 it vs bd it1 vs1 bd1 e rho mu) P ↔ Yes (it rho mu) fun xs m => Yes (cLoop2 bd it1 vs1 bd1 e (wipeE rho vs) xs m) fun zs m2 => zs.length ≤ sizeLine ∧ P (.lst zs) m2 := by
  unfold eCmp2; simp only [yes_bnd]
  cases it rho mu with
  | ok d m =>
    simp only [yes_ok]
    cases cLoop2 bd it1 vs1 bd1 e (wipeE rho vs) d m with
    | ok zs m2 =>
      simp only [yes_ok]
      by_cases q : zs.length ≤ sizeLine
      · rw [if_pos q]; exact ⟨fun z => ⟨q, z⟩, fun z => z.2⟩
      · rw [if_neg q]; exact ⟨fun z => z.elim, fun z => q z.1⟩
    | _ => exact Iff.rfl
  | _ => exact Iff.rfl
theorem cLoop2_enc {vs1 : List Nat} {bd bd1 : Da → Ev → Option Ev} {rho0 : Ev} (zs : Da → List Da) : ∀ {L : List Da}, (∀ x ∈ L, ∃ r ys, bd x rho0 = some r ∧ it1 r mu = .ok ys mu ∧ cLoop bd1 tT e (wipeE r vs1) ys mu = .ok (zs x) mu) → cLoop2 bd it1 vs1 bd1 e rho0 L mu = .ok (L.flatMap zs) mu
  | [], _ => rfl
  | x :: L, h => by
    obtain ⟨r, ys, e1, e2, e3⟩ := h x (by simp)
    have ih := cLoop2_enc (vs1 := vs1) (bd := bd) (bd1 := bd1) (rho0 := rho0) zs (L := L) fun y hy => h y (List.mem_cons_of_mem _ hy)
    unfold cLoop2
    rw [e1]
    dsimp only
    rw [e2, show noX (Out.ok ys mu) = .ok ys mu from rfl]
    show bnd (cLoop bd1 tT e (wipeE r vs1) ys mu) _ = _
    rw [e3]
    show bnd (cLoop2 bd it1 vs1 bd1 e rho0 L mu) _ = _
    rw [ih]
    rfl
end
end Sk

/-! Sk U: zip, sorted. -/
namespace Sk
open PySem PySem.Spec L2

def zipD (xs ys : List Da) : List Da := List.zipWith (fun x y => Da.tup [x, y]) xs ys
def iZp (r : Ev → Mem → Out (List Da)) : EvI := fun rho mu => bnd (r rho mu) fun xs mu' => match xs with
  | [.lst xs, .lst ys] => .ok (zipD xs ys) mu'
  | [.tup xs, .tup ys] => .ok (zipD xs ys) mu'
  | _ => .bad
section
variable {X : Cx} {G : Fr} {W : WX} {pos : Pos} {a b e : Expr} {da db d : EvD}
theorem walks_zip {K : PySem.W.Frag} {a b : Addr} {xs ys : List Da} {us vs : List V} {m : List Addr} {B : Addr → Prop} {H : Hp} (h1 : a ∉ m) (h2 : ¬ B a) (h3 : H a = some (.lst us)) (h4 : RDs m B H xs us)
    (g1 : b ∉ m) (g2 : ¬ B b) (g3 : H b = some (.lst vs)) (g4 : RDs m B H ys vs) : Walks (Itz K a b) (zipD xs ys) m B H := by
  intro m2 B2 H2 g fr
  obtain ⟨k1, k2, k3⟩ := g.rd h3 (fun _ z => nomatch z) h1 h2
  obtain ⟨l1, l2, l3⟩ := g.rd g3 (fun _ z => nomatch z) g1 g2
  have r := RDs.mono g h4
  have r2 := RDs.mono g g4
  refine ⟨fun i d e => ?_, us, vs, SqL.of k1, SqL.of l1, by
    have e1 := r.length
    have e2 := r2.length
    unfold zipD
    rw [List.length_zipWith]
    omega⟩
  unfold zipD at e
  rw [List.getElem?_zipWith] at e
  cases ex : xs[i]? with
  | none => rw [ex] at e; cases e
  | some x =>
    cases ey : ys[i]? with
    | none => rw [ex, ey] at e; cases e
    | some y =>
      rw [ex, ey] at e
      cases e
      obtain ⟨v, ev, rv⟩ := r.get ex
      obtain ⟨w, ew, rw_⟩ := r2.get ey
      refine ⟨⟨us, vs, v, w, SqL.of k1, SqL.of l1, ev, ew⟩, fun z H3 ⟨T, z1, z2, e1, hT, e2, q1, q2⟩ => ?_⟩
      subst e1 e2
      have q1 := q1 us (SqL.of k1)
      have q2 := q2 vs (SqL.of l1)
      rw [ev] at q1
      rw [ew] at q2
      cases q1
      cases q2
      exact ⟨same_upd hT, RD.new_tup (.cons rv (.cons rw_ .nil)) hT (fr T hT).1 (fr T hT).2⟩
theorem walks_zipT {K : PySem.W.Frag} {a b : Addr} {xs ys : List Da} {us vs : List V} {m : List Addr} {B : Addr → Prop} {H : Hp} (h1 : a ∉ m) (h2 : ¬ B a) (h3 : H a = some (.tup us)) (h4 : RDs m B H xs us)
    (g1 : b ∉ m) (g2 : ¬ B b) (g3 : H b = some (.tup vs)) (g4 : RDs m B H ys vs) : Walks (RZ.ItzT K a b) (zipD xs ys) m B H := by
  intro m2 B2 H2 g fr
  obtain ⟨k1, k2, k3⟩ := g.rd h3 (fun _ z => nomatch z) h1 h2
  obtain ⟨l1, l2, l3⟩ := g.rd g3 (fun _ z => nomatch z) g1 g2
  have r := RDs.mono g h4
  have r2 := RDs.mono g g4
  refine ⟨fun i d e => ?_, us, vs, SqT.of k1, SqT.of l1, by
    have e1 := r.length
    have e2 := r2.length
    unfold zipD
    rw [List.length_zipWith]
    omega⟩
  unfold zipD at e
  rw [List.getElem?_zipWith] at e
  cases ex : xs[i]? with
  | none => rw [ex] at e; cases e
  | some x =>
    cases ey : ys[i]? with
    | none => rw [ex, ey] at e; cases e
    | some y =>
      rw [ex, ey] at e
      cases e
      obtain ⟨v, ev, rv⟩ := r.get ex
      obtain ⟨w, ew, rw_⟩ := r2.get ey
      refine ⟨⟨us, vs, v, w, SqT.of k1, SqT.of l1, ev, ew⟩, fun z H3 ⟨T, z1, z2, e1, hT, e2, q1, q2⟩ => ?_⟩
      subst e1 e2
      have q1 := q1 us (SqT.of k1)
      have q2 := q2 vs (SqT.of l1)
      rw [ev] at q1
      rw [ew] at q2
      cases q1
      cases q2
      exact ⟨same_upd hT, RD.new_tup (.cons rv (.cons rw_ .nil)) hT (fr T hT).1 (fr T hT).2⟩
theorem i_zip {r : Ev → Mem → Out (List Da)} {p tpos : Pos} {elts : List Expr} {kk : Nat} (hm : X.mg "zip" = none) (ha : PA X [a, b] (TAx G W r)) (hg : Gl X "zip" := by rfl)
    (hs : starEach [a, b] X.env = (false, eval a X.env) :: starEach [b] X.env := by rfl) (hpl : (backTo pos (starEach [b] X.env)).any (·.1) = false := by rfl) :
    PI X (.Tuple elts kk tpos) (.Call (.Name "zip" p) [a, b] [] pos) (TIx G W (iZp r)) := by
  refine PIw (RZ.pi_zipA hg hm ha hs hpl) fun σ H R ⟨rho, mu, m, Own, S, h⟩ => TAx.to S (wp_bnd h) fun z mu1 vs H1 m1 h1 g1 S1 r1 => ?_
  match z, r1, h1 with
  | [.lst xs, .lst ys], .cons (.lst a1 a2 a3 a4) (.cons (.lst b1 b2 b3 b4) .nil), h1 =>
    exact ⟨_, _, _, _, rfl, .inl ⟨SqL.of a3, SqL.of b3, h1 _ H1 m1 g1 S1 (walks_zip a1 a2 a3 a4 b1 b2 b3 b4)⟩⟩
  | [.tup xs, .tup ys], .cons (.tup a1 a2 a3 a4) (.cons (.tup b1 b2 b3 b4) .nil), h1 =>
    exact ⟨_, _, _, _, rfl, .inr ⟨SqT.of a3, SqT.of b3, h1 _ H1 m1 g1 S1 (walks_zipT a1 a2 a3 a4 b1 b2 b3 b4)⟩⟩
/-- sorted of a list of ints -/
def sortI (ns : List Int) : List Int := ns.mergeSort fun a b => decide (a ≤ b)
theorem sortI_perm (ns : List Int) : (sortI ns).Perm ns := List.mergeSort_perm _ _
theorem sortI_le (ns : List Int) : (sortI ns).Pairwise (· ≤ ·) := by
  have h := List.pairwise_mergeSort (le := fun a b : Int => decide (a ≤ b)) (fun a b c h1 h2 => decide_eq_true (Int.le_trans (of_decide_eq_true h1) (of_decide_eq_true h2))) (fun a b => by
    rcases Int.le_total a b with q | q
    · rw [decide_eq_true q]; rfl
    · rw [decide_eq_true (p := b ≤ a) q, Bool.or_true]) ns
  exact h.imp fun h => of_decide_eq_true h
theorem sortI_unique {ns ms : List Int} (h1 : ms.Perm ns) (h2 : ms.Pairwise (· ≤ ·)) : ms = sortI ns :=
  List.Perm.eq_of_pairwise (le := fun a b : Int => a ≤ b) (fun a b _ _ => Int.le_antisymm) h2 (sortI_le ns) (h1.trans (sortI_perm ns).symm)
def sortedD : List Da → Option Da
  | [.lst xs] => (intsOf xs).map fun ns => .lst ((sortI ns).map Da.int)
  | _ => none
theorem b_sorted : CallD X (.builtin "sorted") sortedD := by
  refine ⟨_, cr_sortedI, fun m B H xs z vs Q e r fr q => ?_⟩
  match xs, e with
  | [.lst xs], e =>
    obtain ⟨ns, e1, e2⟩ := Option.map_eq_some_iff.mp (show (intsOf xs).map (fun ns => Da.lst ((sortI ns).map Da.int)) = some z from e)
    subst e2
    cases r with
    | cons r1 r2 =>
      cases r2
      cases r1 with
      | lst a1 a2 a3 a4 =>
        have ev := RDs.ints (intsOf_eq e1 ▸ a4)
        subst ev
        refine ⟨_, ns, rfl, SqL.of a3, fun ms p h1 h2 hp => ?_⟩
        have eq := sortI_unique h1 h2
        subst eq
        exact q _ _ (same_upd hp) (RD.new_lst (ints_rd _) hp (fr p hp).1 (fr p hp).2)
/-- sorted of a list of pairs of ints -/
def leP (a b : Int × Int) : Bool := decide (a.1 < b.1) || (decide (a.1 = b.1) && decide (a.2 ≤ b.2))
theorem leP_iff {a b : Int × Int} : leP a b = true ↔ a.1 < b.1 ∨ (a.1 = b.1 ∧ a.2 ≤ b.2) := by
  unfold leP
  rw [Bool.or_eq_true, Bool.and_eq_true, decide_eq_true_iff, decide_eq_true_iff, decide_eq_true_iff]
theorem leP_anti {a b : Int × Int} (h : leP a b = true) (g : leP b a = true) : a = b := by
  have h := leP_iff.mp h
  have g := leP_iff.mp g
  exact Prod.ext (by omega) (by omega)
def sortP (ps : List (Int × Int)) : List (Int × Int) := ps.mergeSort leP
theorem sortP_perm (ps : List (Int × Int)) : (sortP ps).Perm ps := List.mergeSort_perm _ _
theorem sortP_le (ps : List (Int × Int)) : (sortP ps).Pairwise fun a b => leP a b = true := List.pairwise_mergeSort (fun a b c h1 h2 => by
    have h1 := leP_iff.mp h1
    have h2 := leP_iff.mp h2
    refine leP_iff.mpr ?_
    omega) (fun a b => by
    rw [Bool.or_eq_true, leP_iff, leP_iff]
    omega) ps
theorem sortP_unique {ps qs : List (Int × Int)} (h1 : qs.Perm ps) (h2 : qs.Pairwise fun a b => leP a b = true) : qs = sortP ps :=
  List.Perm.eq_of_pairwise (le := fun a b => leP a b = true) (fun a b _ _ => leP_anti) h2 (sortP_le ps) (h1.trans (sortP_perm ps).symm)
abbrev encP (p : Int × Int) : Da := .tup [.int p.1, .int p.2]
def pairsOf : List Da → Option (List (Int × Int))
  | [] => some []
  | .tup [.int i, .int j] :: r => (pairsOf r).map ((i, j) :: ·)
  | _ :: _ => none
theorem pairsOf_map : ∀ ps : List (Int × Int), pairsOf (ps.map encP) = some ps
  | [] => rfl
  | p :: ps => by
    show (pairsOf (ps.map encP)).map ((p.1, p.2) :: ·) = _
    rw [pairsOf_map ps]
    rfl
theorem pairsOf_eq : ∀ {xs : List Da} {ps : List (Int × Int)}, pairsOf xs = some ps → xs = ps.map encP
  | [], ps, h => by cases h; rfl
  | x :: xs, ps, h => by
    unfold pairsOf at h
    split at h
    · rename_i e; cases e
    · rename_i i j r e
      cases e
      obtain ⟨cs, e1, e2⟩ := Option.map_eq_some_iff.mp h
      rw [pairsOf_eq e1, ← e2]
      rfl
    · cases h
def sortedPD : List Da → Option Da
  | [.lst xs] => (pairsOf xs).map fun ps => .lst ((sortP ps).map encP)
  | _ => none
/-- the pair that stands at a reference -/
def keyH (H : Hp) (x : V) : Int × Int := match x with
  | .ref t => (match H t with
    | some (.tup [.int i, .int j]) => (i, j)
    | _ => (0, 0))
  | _ => (0, 0)
theorem pairs_rd {m : List Addr} {B : Addr → Prop} {H : Hp} : ∀ {ps : List (Int × Int)} {vs : List V}, RDs m B H (ps.map encP) vs → vs.map (keyH H) = ps ∧ ∀ v ∈ vs, ∃ t, v = .ref t ∧ H t = some (.tup [.int (keyH H v).1, .int (keyH H v).2]) ∧ t ∉ m ∧ ¬ B t
  | [], _, .nil => ⟨rfl, fun _ h => nomatch h⟩
  | p :: ps, _, .cons h t => by
    obtain ⟨e, g⟩ := pairs_rd t
    cases h with
    | tup a1 a2 a3 a4 =>
      cases a4 with
      | cons b1 b2 =>
        cases b2 with
        | cons c1 c2 =>
          cases c2
          cases b1
          cases c1
          rename_i a
          have k : keyH H (.ref a) = p := by
            unfold keyH
            dsimp only
            rw [a3]
          refine ⟨by rw [List.map_cons, e, k], fun v hv => ?_⟩
          rcases List.mem_cons.mp hv with rfl | hv
          · exact ⟨a, rfl, by rw [k]; exact a3, a1, a2⟩
          · exact g v hv
theorem b_sortedP : CallD X (.builtin "sorted") sortedPD := by
  refine ⟨_, cr_sortedPO, fun m B H xs z vs Q e r fr q => ?_⟩
  match xs, e with
  | [.lst xs], e =>
    obtain ⟨ps, e1, e2⟩ := Option.map_eq_some_iff.mp (show (pairsOf xs).map (fun ps => Da.lst ((sortP ps).map encP)) = some z from e)
    subst e2
    cases r with
    | cons r1 r2 =>
      cases r2
      cases r1 with
      | lst a1 a2 a3 a4 =>
        rename_i a us
        obtain ⟨k1, k2⟩ := pairs_rd (pairsOf_eq e1 ▸ a4)
        refine ⟨a, us, keyH H, rfl, SqL.of a3, fun x hx => by obtain ⟨t, h1, h2, _⟩ := k2 x hx; exact ⟨t, h1, h2⟩, fun ys p h1 h2 hp => ?_⟩
        have e3 : ys.map (keyH H) = sortP ps := by
          refine sortP_unique ?_ ?_
          · rw [← k1]; exact h2.perm.map _
          · refine List.pairwise_map.mpr (h1.imp fun {x y} h => ?_)
            have h : SrtO.lexB (keyH H y) (keyH H x) = false := h
            refine leP_iff.mpr ?_
            have nh : ¬ (SrtO.lexB (keyH H y) (keyH H x) = true) := by rw [h]; decide
            rw [SrtO.lexB_iff] at nh
            omega
        have rd : RDs m B H ((ys.map (keyH H)).map encP) ys := by
          have mem : ∀ y ∈ ys, ∃ t, y = .ref t ∧ H t = some (.tup [.int (keyH H y).1, .int (keyH H y).2]) ∧ t ∉ m ∧ ¬ B t := fun y hy => k2 y (h2.perm.mem_iff.mp hy)
          clear h1 h2 e3
          induction ys with
          | nil => exact .nil
          | cons y ys ih =>
            obtain ⟨t, ey, ht, n1, n2⟩ := mem y (by simp)
            refine .cons ?_ (ih fun z hz => mem z (List.mem_cons_of_mem _ hz))
            rw [ey]
            rw [ey] at ht
            exact .tup n1 n2 ht (.cons (.int _) (.cons (.int _) .nil))
        rw [e3] at rd
        exact q _ _ (same_upd hp) (RD.new_lst rd hp (fr p hp).1 (fr p hp).2)
end
section
variable {rho : Ev} {mu : Mem} {Q : List Da → Mem → Prop} {r : Ev → Mem → Out (List Da)}
@[simp] theorem yes_iZp : Yes (iZp r rho mu) Q ↔ Yes (r rho mu) fun xs m => match xs with | [.lst xs, .lst ys] => Q (zipD xs ys) m | [.tup xs, .tup ys] => Q (zipD xs ys) m | _ => False := by
  unfold iZp; rw [yes_bnd]
  cases r rho mu with
  | ok d m =>
    simp only [yes_ok]
    split <;> first | exact Iff.rfl | (split <;> first | exact Iff.rfl | (rename_i h _ _ _ ; simp_all [Yes]) | simp_all [Yes])
  | _ => exact Iff.rfl
end
end Sk

/-! Sk V: lists that are being filled: x[i] = e, x != []. -/
namespace Sk
open PySem PySem.Spec L2

section
variable {X : Cx} {G : Fr} {W : WX} {pos pos' : Pos} {a b e : Expr} {da db d : EvD}
theorem RDs.put {m : List Addr} {B : Addr → Prop} {H : Hp} {d : Da} {v : V} (h : RD m B H d v) : ∀ {ds : List Da} {vs : List V} (j : Nat), RDs m B H ds vs → RDs m B H (ds.set j d) (vs.set j v)
  | _, _, _, .nil => .nil
  | _, _, 0, .cons _ t => .cons h t
  | _, _, j + 1, .cons x t => .cons x (RDs.put h j t)
/-- x[i] = e of a list that is being filled -/
def sSetI (i : Nat) (ix : EvD) (e : EvD) : StD := fun rho mu => sUse (e rho mu) rho fun d mu1 => match rho[i]? with
  | some (.own xs) => sUse (ix rho mu1) rho fun y mu2 => match y with
    | .int k => (match ixN xs.length k with
      | some j => .nx (rho.set i (.own (xs.set j d))) mu2
      | none => .bad)
    | _ => .bad
  | _ => .bad
theorem s_seti {i : Nat} (hc : X.calm = true) (ho : PE X a (tVar i)) (hb : PE X b (TEx G W db)) (he : PE X e (TEx G W d))
    (hs : swapsWithSole [.Subscript a b pos'] e pos.line X.env = pure false := by rfl) (hw : swappedStores [.Subscript a b pos'] e X.env = pure none := by rfl)
    (h1 : (assignEach [.Subscript a b pos'] X.env).map (·.2) = [assign (.Subscript a b pos') X.env] := by rfl)
    (es : ∀ v, assign (.Subscript a b pos') X.env v = (do
      let ov ← holding [v] (eval a X.env)
      let iv ← holding [v, ov] (eval b X.env)
      standAt pos'
      holding [v, ov, iv] (setItem ov iv v)
      release [v, ov, iv] []) := by intro _; rfl) : PS X (.Assign [.Subscript a b pos'] e pos) (TSx G W (sSetI i db d)) := by
  refine PSw (ps_asg he (pg_sub ho hb set_list es) hs hw h1) fun D σ H ⟨rho, mu, m, Own, S, h⟩ => ?_
  refine TEx.to S (use_wp (σ := σ) h) fun z mu1 v H1 m1 h1 g1 S1 r1 => ?_
  cases e1 : rho[i]? with
  | none => rw [e1] at h1; exact h1.elim
  | some s =>
    rw [e1] at h1
    cases s with
    | un => exact h1.elim
    | val _ => exact h1.elim
    | own xs =>
      obtain ⟨p, us, ev, nm, op, hp, rl⟩ := own_at S1 e1
      refine ⟨_, ev, TEx.to S1 (use_wp (σ := σ) (SOk.step (g1.le (G.bar Own)) h1)) fun y mu2 w H2 m2 h2 g2 S2 r2 => ?_⟩
      cases y with
      | int k =>
        cases r2
        dsimp only at h2
        cases ej : ixN xs.length k with
        | none => rw [ej] at h2; exact h2.elim
        | some j =>
          rw [ej] at h2
          have hp2 : H2 p = some (.lst us) := g2.keep p _ hp (fun _ z => nomatch z) nm id
          have rl2 := RDs.mono (g2.le (G.bar Own)) rl
          refine ⟨p, us, k, j, rfl, rfl, hp2, by rw [← rl.length]; exact ej, ?_⟩
          obtain ⟨S3, g3⟩ := S2.fill (us := us) e1 ev (RDs.put (r1.mono (g2.le (G.bar Own))) j rl2)
          exact h2 σ _ m2 Own ((g2.le _).trans g3) S3
      | _ => exact h2.elim
/-- x != .. of a list that is being filled -/
def eNeO (i : Nat) (b : EvD) : EvD := fun rho mu => match rho[i]? with
  | some (.own xs) => bnd (b rho mu) fun y mu1 => opt (neD (.lst xs) y) mu1
  | some (.val x) => bnd (b rho mu) fun y mu1 => opt (neD x y) mu1
  | _ => .bad
theorem ne_own {i : Nat} {σ : L2.St} {H : Hp} {Q : VK} (h : TEx G W (eNeO i db) σ H Q) : tOp (rNeD X.K) (tVar i) (TEx G W db) σ H Q := by
  obtain ⟨rho, mu, m, Own, S, h⟩ := h.un
  unfold eNeO at h
  cases e1 : rho[i]? with
  | none => rw [e1] at h; exact h.elim
  | some s =>
    rw [e1] at h
    cases s with
    | un => exact h.elim
    | own xs =>
      obtain ⟨p, us, ev, nm, op, hp, rl⟩ := own_at S e1
      refine ⟨_, ev, TEx.to S (wp_bnd h) fun y mu1 w H1 m1 h1 g1 S1 r1 => ?_⟩
      obtain ⟨z, e, q⟩ := wp_opt h1
      obtain ⟨hz, rfl⟩ := ite_inv e
      unfold okEq at hz
      simp only [Bool.and_eq_true] at hz
      have hp1 : H1 p = some (.lst us) := g1.keep p _ hp (fun _ z => nomatch z) nm id
      have rl1 := RDs.mono (g1.le (G.bar Own)) rl
      exact ⟨_, _, .lst (SqL.of hp1) (RDs.dp rl1 hz.1.1.1), RD.dp r1 hz.1.1.2, hz.1.2, hz.2, q _ H1 m1 g1 S1 (.bl _)⟩
    | val x =>
      obtain ⟨v, ev, rv⟩ := S.var e1
      refine ⟨_, ev, TEx.to S (wp_bnd h) fun y mu1 w H1 m1 h1 g1 S1 r1 => ?_⟩
      obtain ⟨z, e, q⟩ := wp_opt h1
      obtain ⟨hz, rfl⟩ := ite_inv e
      unfold okEq at hz
      simp only [Bool.and_eq_true] at hz
      exact ⟨_, _, RD.dp (rv.mono (g1.le (G.bar Own))) hz.1.1.1, RD.dp r1 hz.1.1.2, hz.1.2, hz.2, q _ H1 m1 g1 S1 (.bl _)⟩
theorem c_neO {i : Nat} (hu : X.A.units + 64 < cLine) (ha : PE X a (tVar i)) (hb : PE X b (TEx G W db)) (hm : behindInMarks .NotEq b = false) : PE X (.Compare a [.NotEq] [b] pos) (TEx G W (eNeO i db)) :=
  PEw (pe_cmpR (op_neD hu) ha hb hm) fun σ H Q h => ne_own h
theorem c_tneO {i : Nat} (hu : X.A.units + 64 < cLine) (ha : PE X a (tVar i)) (hb : PE X b (TEx G W db)) (hm : behindInMarks .NotEq b = false) : PT X (.Compare a [.NotEq] [b] pos) (TTx G W (tV (eNeO i db))) := by
  refine PTw (pt_cmpR (op_neD hu) ha hb hm) fun σ H Q h => ?_
  refine ne_own (Q := fun x H' => ∃ k, x = .bl k ∧ Q k H') ?_
  obtain ⟨rho, mu, m, Own, S, h⟩ := h.un
  refine TEx.to S (wp_bnd h) fun x mu1 v1 H1 m1 h1 g1 S1 r1 => ?_
  cases x with
  | bl k =>
    cases r1
    exact ⟨k, rfl, h1 H1 m1 g1 S1⟩
  | _ => exact h1.elim
end
section
variable {rho : Ev} {mu : Mem} {P : Da → Mem → Prop} {D : Po} {a b e : EvD}
@[simp] theorem yes_eNeO {i : Nat} : Yes (eNeO i b rho mu) P ↔ (match rho[i]? with
    | some (.own xs) => Yes (b rho mu) fun y m => Yes (opt (neD (.lst xs) y) m) P
    | some (.val x) => Yes (b rho mu) fun y m => Yes (opt (neD x y) m) P
    | _ => False) := by
  unfold eNeO
  cases h : rho[i]? with
  | none => exact Iff.rfl
  | some s => cases s <;> first | exact Iff.rfl | exact yes_bnd
@[simp] theorem sp_seti {i : Nat} : SP (sSetI i a e rho mu) D ↔ Yes (e rho mu) fun d m => match rho[i]? with
    | some (.own xs) => Yes (a rho m) fun y m2 => match y with
      | .int k => (match L2.ixN xs.length k with
        | some j => D.nx (rho.set i (.own (xs.set j d))) m2
        | none => False)
      | _ => False
    | _ => False := by
  unfold sSetI
  rw [sp_use]
  cases e rho mu with
  | ok d m =>
    simp only [yes_ok]
    cases h : rho[i]? with
    | none => exact Iff.rfl
    | some s => cases s with
      | own xs =>
        dsimp only
        rw [sp_use]
        cases a rho m with
        | ok y m2 =>
          simp only [yes_ok]
          cases y with
          | int k => dsimp only; cases L2.ixN xs.length k <;> exact Iff.rfl
          | _ => exact Iff.rfl
        | _ => exact Iff.rfl
      | _ => exact Iff.rfl
  | _ => exact Iff.rfl
end
end Sk

/-! Sk W: min and sorted of data that can be compared; x in a list. -/
namespace Sk
open PySem PySem.Spec L2

mutual
theorem toPy_inj : ∀ {x y : Da}, isD x = true → isD y = true → toPy x = toPy y → x = y
  | .non, .non, _, _, _ => rfl
  | .bl a, .bl b, _, _, e => by cases e; rfl
  | .int a, .int b, _, _, e => by cases e; rfl
  | .str a, .str b, _, _, e => by cases e; rfl
  | .tup a, .tup b, h, g, e => by rw [toPys_inj (xs := a) (ys := b) h g (PyData.tuple.inj e)]
  | .lst a, .lst b, h, g, e => by rw [toPys_inj (xs := a) (ys := b) h g (PyData.list.inj e)]
  | .ref _, _, h, _, _ => nomatch h
  | .non, .bl _, _, _, e => nomatch e
  | .non, .int _, _, _, e => nomatch e
  | .non, .str _, _, _, e => nomatch e
  | .non, .tup _, _, _, e => nomatch e
  | .non, .lst _, _, _, e => nomatch e
  | .non, .ref _, _, h, _ => nomatch h
  | .bl _, .non, _, _, e => nomatch e
  | .bl _, .int _, _, _, e => nomatch e
  | .bl _, .str _, _, _, e => nomatch e
  | .bl _, .tup _, _, _, e => nomatch e
  | .bl _, .lst _, _, _, e => nomatch e
  | .bl _, .ref _, _, h, _ => nomatch h
  | .int _, .non, _, _, e => nomatch e
  | .int _, .bl _, _, _, e => nomatch e
  | .int _, .str _, _, _, e => nomatch e
  | .int _, .tup _, _, _, e => nomatch e
  | .int _, .lst _, _, _, e => nomatch e
  | .int _, .ref _, _, h, _ => nomatch h
  | .str _, .non, _, _, e => nomatch e
  | .str _, .bl _, _, _, e => nomatch e
  | .str _, .int _, _, _, e => nomatch e
  | .str _, .tup _, _, _, e => nomatch e
  | .str _, .lst _, _, _, e => nomatch e
  | .str _, .ref _, _, h, _ => nomatch h
  | .tup _, .non, _, _, e => nomatch e
  | .tup _, .bl _, _, _, e => nomatch e
  | .tup _, .int _, _, _, e => nomatch e
  | .tup _, .str _, _, _, e => nomatch e
  | .tup _, .lst _, _, _, e => nomatch e
  | .tup _, .ref _, _, h, _ => nomatch h
  | .lst _, .non, _, _, e => nomatch e
  | .lst _, .bl _, _, _, e => nomatch e
  | .lst _, .int _, _, _, e => nomatch e
  | .lst _, .str _, _, _, e => nomatch e
  | .lst _, .tup _, _, _, e => nomatch e
  | .lst _, .ref _, _, h, _ => nomatch h
theorem toPys_inj : ∀ {xs ys : List Da}, isDs xs = true → isDs ys = true → toPys xs = toPys ys → xs = ys
  | [], [], _, _, _ => rfl
  | [], _ :: _, _, _, e => nomatch e
  | _ :: _, [], _, _, e => nomatch e
  | x :: xs, y :: ys, h, g, e => by
    have h := Bool.and_eq_true_iff.mp (show (isD x && isDs xs) = true from h)
    have g := Bool.and_eq_true_iff.mp (show (isD y && isDs ys) = true from g)
    have e := List.cons.inj (show toPy x :: toPys xs = toPy y :: toPys ys from e)
    rw [toPy_inj h.1 g.1 e.1, toPys_inj h.2 g.2 e.2]
end
theorem toPys_map : ∀ xs : List Da, toPys xs = xs.map toPy
  | [] => rfl
  | x :: xs => congrArg (toPy x :: ·) (toPys_map xs)
theorem isDs_mem : ∀ {xs : List Da} {x : Da}, isDs xs = true → x ∈ xs → isD x = true
  | y :: ys, x, h, m => by
    have h := Bool.and_eq_true_iff.mp (show (isD y && isDs ys) = true from h)
    rcases List.mem_cons.mp m with rfl | m
    · exact h.1
    · exact isDs_mem h.2 m
theorem lay_mem : ∀ {xs : List PyData} {x : PyData}, PyData.canLayAll0 xs = true → x ∈ xs → x.canLay0 = true
  | y :: ys, x, h, m => by
    have h := Bool.and_eq_true_iff.mp (show (y.canLay0 && PyData.canLayAll0 ys) = true from h)
    rcases List.mem_cons.mp m with rfl | m
    · exact h.1
    · exact lay_mem h.2 m
theorem dep_mem : ∀ {xs : List PyData} {x : PyData}, x ∈ xs → x.depth ≤ PyData.depthAll xs
  | y :: ys, x, m => by
    rcases List.mem_cons.mp m with rfl | m
    · exact Nat.le_max_left _ _
    · exact Nat.le_trans (dep_mem m) (Nat.le_max_right _ _)
def ltDa (a b : Da) : Bool := PySem.W.dataLt (toPy a) (toPy b)
/-- the first of the least -/
def minDa (x : Da) (xs : List Da) : Da := xs.foldl (fun a y => if ltDa y a then y else a) x
theorem minDa_mem : ∀ (xs : List Da) (x : Da), minDa x xs ∈ x :: xs
  | [], x => List.mem_singleton.mpr rfl
  | y :: ys, x => by
    have h := minDa_mem ys (if ltDa y x then y else x)
    show minDa (if ltDa y x then y else x) ys ∈ _
    rcases List.mem_cons.mp h with e | h
    · rw [e]
      split
      · exact List.mem_cons_of_mem _ List.mem_cons_self
      · exact List.mem_cons_self
    · exact List.mem_cons_of_mem _ (List.mem_cons_of_mem _ h)
theorem minDa_py : ∀ (xs : List Da) (x : Da), toPy (minDa x xs) = PySem.W.minD (toPy x) (toPys xs)
  | [], x => rfl
  | y :: ys, x => by
    show toPy (minDa (if ltDa y x then y else x) ys) = PySem.W.minD (if PySem.W.dataLt (toPy y) (toPy x) then toPy y else toPy x) (toPys ys)
    rw [minDa_py ys]
    unfold ltDa
    split <;> rfl
def isNonP : PyData → Bool
  | .none => true
  | _ => false
def okCmp (xs : List PyData) : Bool := PyData.canLayAll0 xs && decide (PyData.depthAll xs ≤ 60) && (xs.all fun x => xs.all fun y => PySem.W.alike x y) && xs.all fun x => !isNonP x
theorem okCmp_alike {xs : List PyData} (h : okCmp xs = true) : PySem.W.AlikeAll xs := by
  unfold okCmp at h
  simp only [Bool.and_eq_true, List.all_eq_true] at h
  refine ⟨fun x hx y hy => h.1.2 x hx y hy, fun x hx e => ?_⟩
  have z := h.2 x hx
  rw [e] at z
  cases z
def minDD : List Da → Option Da
  | [.lst (x :: xs)] => if (isDs (x :: xs) && okCmp (toPys (x :: xs))) = true then some (minDa x xs) else none
  | _ => none
section
variable {X : Cx}
def rMinDa (K : PySem.W.Frag) : List V → Hp → VK → Prop := fun vs H Q => ∃ (a : Addr) (us : List V) (x : Da) (xs : List Da), vs = [V.ref a] ∧ SqL K H a us ∧ DpAll K H us (toPys (x :: xs)) ∧ okCmp (toPys (x :: xs)) = true ∧
  ∀ (i : Nat) (v : V), us[i]? = some v → (toPys (x :: xs))[i]? = some (PySem.W.minD (toPy x) (toPys xs)) → Q v H
theorem cr_minDa (hc : X.calm = true) (hu : X.A.units + 64 < cLine) : CallR X (.builtin "min") (rMinDa X.K) := by
  intro pins s σ H vs ws Q I r h
  obtain ⟨a, us, x, xs, rfl, hs, hd, hk, q⟩ := h
  obtain rfl := Vals.ref1 r
  obtain ⟨its, rv, hl, _⟩ := I.list hs
  obtain ⟨as, ra⟩ := Dp.readsAll I _ _ its hd rv
  have lay : PyData.canLayAll0 (toPys (x :: xs)) = true ∧ PyData.depthAll (toPys (x :: xs)) ≤ 60 := by
    have z := hk
    unfold okCmp at z
    simp only [Bool.and_eq_true, decide_eq_true_eq] at z
    exact z.1.1
  refine PySem.W.min_list_data (x := toPy x) (xs := toPys xs) (I.ok.hd hc) hl.isList (show ReadsAll s.heap its.toArray.toList (toPy x :: toPys xs) as from ra) (okCmp_alike hk) (by have : PyData.depthAll (toPy x :: toPys xs) ≤ 60 := lay.2; omega) fun i v h' tk bs hi hr hk' => ?_
  have hi' : its[i]? = some v := by simpa using hi
  obtain ⟨cs, r1, r2, r3, _⟩ := PySem.W.readsAll_at ra i v hi'
  have e1 : SeqAt.readOf h' v = (toPys (x :: xs)).getD i .none := SeqAt.readOf_eq (lay_mem lay.1 r3) (PySem.W.reads_keeps hk' r1)
  have mm : PySem.W.minD (toPy x) (toPys xs) ∈ toPys (x :: xs) := by
    rw [← minDa_py, toPys_map]
    exact List.mem_map.mpr ⟨_, minDa_mem xs x, rfl⟩
  have e2 : SeqAt.readOf h' v = PySem.W.minD (toPy x) (toPys xs) := SeqAt.readOf_eq (lay_mem lay.1 mm) hr
  have hlen := rv.length
  have hlt : i < us.length := by
    have := (List.getElem?_eq_some_iff.mp hi').1
    omega
  have eu : us[i]? = some us[i] := List.getElem?_eq_getElem hlt
  obtain ⟨v2, hv2, rr⟩ := rv.get eu
  rw [hi'] at hv2
  cases hv2
  refine ⟨us[i], H, I.kept hk', rr, q i _ eu ?_⟩
  rw [List.getElem?_eq_getElem r2]
  rw [List.getD_eq_getElem?_getD, List.getElem?_eq_getElem r2] at e1
  exact congrArg some (e1.symm.trans e2)
theorem b_minD (hc : X.calm = true) (hu : X.A.units + 64 < cLine) : CallD X (.builtin "min") minDD := by
  refine ⟨_, cr_minDa hc hu, fun m B H xs z vs Q e r fr q => ?_⟩
  match xs, e with
  | [.lst (x :: xs)], e =>
    obtain ⟨hz, rfl⟩ := ite_inv e
    have hz := Bool.and_eq_true_iff.mp hz
    cases r with
    | cons r1 r2 =>
      cases r2
      cases r1 with
      | lst a1 a2 a3 a4 =>
        refine ⟨_, _, x, xs, rfl, SqL.of a3, RDs.dp a4 hz.1, hz.2, fun i v ev ep => q _ _ (Same.refl _) ?_⟩
        rw [toPys_map, List.getElem?_map] at ep
        obtain ⟨d, ed, e2⟩ := Option.map_eq_some_iff.mp ep
        obtain ⟨v2, ev2, rd⟩ := a4.get ed
        rw [ev] at ev2
        cases ev2
        have e3 : d = minDa x xs := toPy_inj (isDs_mem hz.1 (List.mem_of_getElem? ed)) (isDs_mem hz.1 (minDa_mem xs x)) (e2.trans (minDa_py xs x).symm)
        rw [← e3]
        exact rd
/-- sorted -/
def leDa (a b : Da) : Bool := !ltDa b a
def sortDa (xs : List Da) : List Da := xs.mergeSort leDa
def isTupP : PyData → Bool
  | .tuple (_ :: _) => true
  | _ => false
def sortedDD : List Da → Option Da
  | [.lst xs] => if (isDs xs && (okCmp (toPys xs) && (toPys xs).all isTupP)) = true then some (.lst (sortDa xs)) else none
  | _ => none
theorem RDs.pairs {m : List Addr} {B : Addr → Prop} {H : Hp} : ∀ {ds : List Da} {vs : List V}, RDs m B H ds vs → ∃ bs : List (V × Da), bs.map (·.1) = vs ∧ bs.map (·.2) = ds ∧ ∀ p ∈ bs, RD m B H p.2 p.1
  | _, _, .nil => ⟨[], rfl, rfl, fun _ h => nomatch h⟩
  | _, _, .cons (d := d) (v := v) h t => by
    obtain ⟨bs, e1, e2, e3⟩ := RDs.pairs t
    refine ⟨(v, d) :: bs, by rw [List.map_cons, e1], by rw [List.map_cons, e2], fun p hp => ?_⟩
    rcases List.mem_cons.mp hp with rfl | hp
    · exact h
    · exact e3 p hp
theorem RDs.of_pairs {m : List Addr} {B : Addr → Prop} {H : Hp} : ∀ {bs : List (V × Da)}, (∀ p ∈ bs, RD m B H p.2 p.1) → RDs m B H (bs.map (·.2)) (bs.map (·.1))
  | [], _ => .nil
  | p :: bs, h => .cons (h p List.mem_cons_self) (RDs.of_pairs fun q hq => h q (List.mem_cons_of_mem _ hq))
abbrev enP (p : V × Da) : PyData := toPy p.2
def rSortDa (K : PySem.W.Frag) : List V → Hp → VK → Prop := fun vs H Q => ∃ (a : Addr) (bs : List (V × Da)), vs = [V.ref a] ∧ SqL K H a (bs.map (·.1)) ∧ DpAll K H (bs.map (·.1)) (bs.map enP) ∧ okCmp (bs.map enP) = true ∧ (bs.map enP).all isTupP = true ∧
  ∀ p, H p = none → Q (.ref p) (upd H p (.lst ((bs.mergeSort (PySem.W.dataLe false enP)).map (·.1))))
theorem each_rel : ∀ {bs : List (V × Da)} {us : List Value}, Vals (bs.map (·.1)) us → PySem.W.EachIs (fun v (b : V × Da) => RelV b.1 v) us bs
  | [], _, .nil => .nil
  | _ :: _, _, .cons r t => .cons r (each_rel t)
theorem rel_each : ∀ {bs : List (V × Da)} {us : List Value}, PySem.W.EachIs (fun v (b : V × Da) => RelV b.1 v) us bs → Vals (bs.map (·.1)) us
  | _, _, .nil => .nil
  | _, _, .cons r t => .cons r (rel_each t)
theorem cr_sortDa (hu : X.A.units + 64 < cLine) : CallR X (.builtin "sorted") (rSortDa X.K) := by
  intro pins s σ H vs ws Q I r h
  obtain ⟨a, bs, rfl, hs, hd, hk, ht, q⟩ := h
  obtain rfl := Vals.ref1 r
  obtain ⟨its, rv, hl, hz⟩ := I.list hs
  obtain ⟨as, ra⟩ := Dp.readsAll I _ _ its hd rv
  have lay : PyData.depthAll (bs.map enP) ≤ 60 := by
    have z := hk
    unfold okCmp at z
    simp only [Bool.and_eq_true, decide_eq_true_eq] at z
    exact z.1.1.2
  have lenb : bs.length ≤ sizeLine := by rw [List.length_map] at hz; exact hz
  refine PySem.W.sorted_data (enc := enP) (R := fun v (b : V × Da) => RelV b.1 v) hl.isList (each_rel rv) (PySem.W.readsAll_each enP ra) (okCmp_alike hk).1 (.inl fun d hd => ?_) lenb (fun b hb => ?_) fun out hl2 he => ?_
  · have z := List.all_eq_true.mp ht d hd
    unfold isTupP at z
    split at z
    · exact ⟨_, _, rfl⟩
    · cases z
  · have z := dep_mem (List.mem_map.mpr ⟨b, hb, rfl⟩ : enP b ∈ bs.map enP)
    omega
  · obtain ⟨ep, he'⟩ := PyProof.Rows.sortedAll_at s.heap its out.toArray
    have hlen : ((bs.mergeSort (PySem.W.dataLe false enP)).map (·.1)).length ≤ sizeLine := by
      rw [List.length_map, List.length_mergeSort]
      exact lenb
    exact ⟨.ref _, upd H (s.heap.objs.size + 1) (.lst ((bs.mergeSort (PySem.W.dataLe false enP)).map (·.1))), I.laid (t' := s.toks) (fun _ _ => PyProof.Rows.sortedAll_old) (Nat.le_succ _) ⟨hlen, _, ep, rel_each he, he'⟩, rfl, q _ (I.hok.fresh (Nat.le_succ _))⟩
theorem b_sortedD (hu : X.A.units + 64 < cLine) : CallD X (.builtin "sorted") sortedDD := by
  refine ⟨_, cr_sortDa hu, fun m B H xs z vs Q e r fr q => ?_⟩
  match xs, e with
  | [.lst xs], e =>
    obtain ⟨hz, rfl⟩ := ite_inv e
    have hz := Bool.and_eq_true_iff.mp hz
    have hz2 := Bool.and_eq_true_iff.mp hz.2
    cases r with
    | cons r1 r2 =>
      cases r2
      cases r1 with
      | lst a1 a2 a3 a4 =>
        obtain ⟨bs, rfl, e2, e3⟩ := RDs.pairs a4
        have ee : bs.map enP = toPys xs := by rw [← e2, toPys_map, List.map_map]; rfl
        refine ⟨_, bs, rfl, SqL.of a3, by rw [ee]; exact RDs.dp a4 hz.1, by rw [ee]; exact hz2.1, by rw [ee]; exact hz2.2, fun p hp => ?_⟩
        have es : (bs.mergeSort (PySem.W.dataLe false enP)).map (·.2) = sortDa xs := by
          unfold sortDa
          rw [← e2]
          exact List.map_mergeSort fun a _ b _ => rfl
        exact q _ _ (same_upd hp) (es ▸ RD.new_lst (RDs.of_pairs fun p hp => e3 p (List.mem_mergeSort.mp hp)) hp (fr p hp).1 (fr p hp).2)
/-- x in a list -/
def inD : Da → Da → Option Da
  | x, .lst ys => if okEq x (.lst ys) = true then some (.bl (ys.any fun z => PyData.eqv (toPy z) (toPy x))) else none
  | _, _ => none
def ninD : Da → Da → Option Da
  | x, .lst ys => if okEq x (.lst ys) = true then some (.bl (!ys.any fun z => PyData.eqv (toPy z) (toPy x))) else none
  | _, _ => none
theorem any_py {p : PyData → Bool} : ∀ ys : List Da, (toPys ys).any p = ys.any fun z => p (toPy z)
  | [] => rfl
  | y :: ys => by
    show (p (toPy y) || (toPys ys).any p) = (p (toPy y) || ys.any fun z => p (toPy z))
    rw [any_py ys]
theorem o_in (hu : X.A.units + 65 < cLine) : OpD X (compareOp .In) inD := by
  refine ⟨_, op_inD hu, fun m B H x y z a b Q e rx ry fr q => ?_⟩
  cases y with
  | lst ys =>
    obtain ⟨hz, rfl⟩ := ite_inv e
    unfold okEq at hz
    simp only [Bool.and_eq_true] at hz
    refine ⟨_, _, RD.dp rx hz.1.1.1, RD.dp ry hz.1.1.2, hz.1.2, hz.2, ?_⟩
    rw [any_py]
    exact q _ _ (Same.refl _) (.bl _)
  | _ => cases e
theorem o_nin (hu : X.A.units + 65 < cLine) : OpD X (compareOp .NotIn) ninD := by
  refine ⟨_, op_notInD hu, fun m B H x y z a b Q e rx ry fr q => ?_⟩
  cases y with
  | lst ys =>
    obtain ⟨hz, rfl⟩ := ite_inv e
    unfold okEq at hz
    simp only [Bool.and_eq_true] at hz
    refine ⟨_, _, RD.dp rx hz.1.1.1, RD.dp ry hz.1.1.2, hz.1.2, hz.2, ?_⟩
    rw [any_py]
    exact q _ _ (Same.refl _) (.bl _)
  | _ => cases e
end
theorem Rm.u65 {k : Nat} {A : Around} (h : Rm k A) : A.units + 65 < cLine := by
  have := h.r.un
  omega
end Sk

/-! Sk X: a tuple once, or not at all. -/
namespace Sk
open PySem PySem.Spec L2
section
variable {l : Addr} {its : Array Value} {n : Nat} {dd : Option Addr} {sl : Array (Option Value)} {u : Tok}
theorem tup_mul1 : Meets (Builtin.«tuple.__mul__» ⟨[.ref l, .int 1 u], []⟩) (fun _ R s => s.heap.get? l = some { cls := .type "tuple", dict := dd, data := .seq its n, slots := sl } ∧ R (.ok (.ret (Value.ref l))) s) :=
  .of_wp fun _ _ _ _ s h => by
    obtain ⟨hp, g, d, tk, os⟩ := s
    obtain ⟨hl, h⟩ := h
    have := AutoSeq1.idx_int
    wp_walk using wpAny_loadPart' hl
    all_goals exact ⟨_, rfl, h⟩
theorem tup_mul0 : Meets (Builtin.«tuple.__mul__» ⟨[.ref l, .int 0 u], []⟩) (fun _ R s => s.heap.get? l = some { cls := .type "tuple", dict := dd, data := .seq its n, slots := sl } ∧ its.isEmpty = false ∧ R (.ok (.ret (Value.ref s.heap.objs.size))) { s with heap := s.heap.push { cls := Value.type "tuple", data := Data.seq #[] } }) :=
  .of_wp fun _ _ _ _ s h => by
    obtain ⟨hp, g, d, tk, os⟩ := s
    obtain ⟨hl, he, h⟩ := h
    have := AutoSeq1.idx_int
    wp_walk using wpAny_loadPart' hl
    all_goals exact ⟨_, rfl, h⟩
end
section
variable {X : Cx}
def rRep01 (K : PySem.W.Frag) : R2 := fun x y H Q => ∃ (l : Addr) (k : Int) (xs : List V), x = .ref l ∧ y = .int k ∧ SqT K H l xs ∧ xs ≠ [] ∧ ((k = 1 ∧ Q (.ref l) H) ∨ (k = 0 ∧ ∀ p, H p = none → Q (.ref p) (upd H p (.tup []))))
theorem op_rep01 : OpR X (binaryOp .Mult) (rRep01 X.K) := by
  intro pins s σ H x y v u Q I rx ry h
  obtain ⟨l, k, xs, rfl, rfl, hT, hne, q⟩ := h
  cases rx
  obtain ⟨t, rfl⟩ := ry
  obtain ⟨its, r, ⟨⟨cls, dd, data, sl⟩, ho, hc, n, hd⟩, hs⟩ := I.tuple hT
  obtain rfl : cls = .type "tuple" := hc
  obtain rfl : data = .seq its.toArray n := hd
  have he : its.toArray.isEmpty = false := by
    cases r with
    | nil => exact absurd rfl hne
    | cons _ _ => rfl
  have tyI : ∀ s' : Shared, s'.TypeIs (.int k t) "int" := fun s' => typeIs_int s' k t
  refine wpAny_binaryOp_repeat_ref (T := "tuple") (U := "int") (by decide) ⟨_, ho, rfl⟩ tyI noFill_tuple_mul F.fills_int_mul F.slot_int_rmul repeat_tuple F.slot_int_index.lookup ?_
  refine call_meets F.slot_int_rmul (tyI s) F.entry_int_rmul (F.args_int_rmul_2 _ _) (int_rmul_tuple k t l its.toArray n dd sl) ⟨ho, rfl, ⟨_, ho, rfl⟩, ?_⟩
  rcases q with ⟨rfl, q⟩ | ⟨rfl, q⟩
  · exact call_meets F.slot_tuple_mul ⟨_, ho, rfl⟩ F.entry_tuple_mul (F.args_tuple_mul_2 _ _) tup_mul1 ⟨ho, ⟨.ref l, H, I, rfl, q⟩⟩
  · refine call_meets F.slot_tuple_mul ⟨_, ho, rfl⟩ F.entry_tuple_mul (F.args_tuple_mul_2 _ _) tup_mul0 ⟨ho, he, ⟨.ref s.heap.objs.size, _, I.laid (t' := s.toks) (o := .tup []) (fun b ob e => Heap.get?_push_of_some _ e) (Nat.le_refl _) ?_, rfl, q _ (I.hok.fresh (Nat.le_refl _))⟩⟩
    exact ⟨Nat.zero_le _, [], .nil, PyProof.Rows.IsTup.new _ _⟩
/-- a tuple so many times, none and once too -/
def mulTD : Da → Da → Option Da
  | .tup a, .int k => if a ≠ [] ∧ k = 1 then some (.tup a) else if a ≠ [] ∧ k = 0 then some (.tup []) else mulD (.tup a) (.int k)
  | _, _ => none
theorem o_mulT : OpD X (binaryOp .Mult) mulTD := by
  obtain ⟨rm, hm, km⟩ := o_mul (X := X)
  refine ⟨_, op_rep01.or hm, fun m B H x y z a b Q e rx ry fr q => ?_⟩
  match x, y, e, rx, ry with
  | .tup xs, .int k, e, rx, .int _ =>
    replace e : (if xs ≠ [] ∧ k = 1 then some (Da.tup xs) else if xs ≠ [] ∧ k = 0 then some (Da.tup []) else mulD (.tup xs) (.int k)) = some z := e
    by_cases h1 : xs ≠ [] ∧ k = 1
    · rw [if_pos h1] at e
      cases e
      cases rx with
      | tup a1 a2 a3 a4 => exact .inl ⟨_, _, _, rfl, rfl, SqT.of a3, fun h => h1.1 (a4.ne.mpr h), .inl ⟨h1.2, q _ _ (Same.refl _) (.tup a1 a2 a3 a4)⟩⟩
    · rw [if_neg h1] at e
      by_cases h0 : xs ≠ [] ∧ k = 0
      · rw [if_pos h0] at e
        cases e
        cases rx with
        | tup a1 a2 a3 a4 => exact .inl ⟨_, _, _, rfl, rfl, SqT.of a3, fun h => h0.1 (a4.ne.mpr h), .inr ⟨h0.2, fun p hp => q _ _ (same_upd hp) (RD.new_tup .nil hp (fr p hp).1 (fr p hp).2)⟩⟩
      · rw [if_neg h0] at e
        exact .inr (km m B H _ _ _ _ _ Q e rx (.int _) fr q)
end
section
variable {P : Da → Mem → Prop} {mu : Mem} {i : Int}
@[simp] theorem yes_repTn {a : List Da} : Yes (opt (mulTD (.tup a) (.int i)) mu) P ↔ (a ≠ [] ∧ 0 ≤ i ∧ i ≤ 1000 ∧ a.length ≤ 1000 ∧ P (.tup (repL i.toNat a)) mu) ∨ (a ≠ [] ∧ 0 ≤ i ∧ i ≤ 1 ∧ 1000 < a.length ∧ P (.tup (repL i.toNat a)) mu) := by
  show Yes (opt (if a ≠ [] ∧ i = 1 then some (Da.tup a) else if a ≠ [] ∧ i = 0 then some (Da.tup []) else mulD (.tup a) (.int i)) mu) P ↔ _
  by_cases ha : a = []
  · subst ha
    simp [yes_rep]
  by_cases h1 : i = 1
  · subst h1
    rw [if_pos ⟨ha, rfl⟩]
    simp [ha, repL]
    by_cases hl : a.length ≤ 1000
    · simp [hl]
    · simp [hl]
      omega
  · by_cases h0 : i = 0
    · subst h0
      rw [if_neg (fun z => h1 z.2), if_pos ⟨ha, rfl⟩]
      simp [ha, repL]
      by_cases hl : a.length ≤ 1000
      · simp [hl]
      · simp [hl]
        omega
    · rw [if_neg (fun z => h1 z.2), if_neg (fun z => h0 z.2), yes_rep]
      constructor
      · rintro ⟨⟨_, b, c, d⟩, p⟩
        exact .inl ⟨ha, by omega, c, d, p⟩
      · rintro (⟨_, b, c, d, p⟩ | ⟨_, b, c, d, p⟩)
        · exact ⟨⟨ha, by omega, c, d⟩, p⟩
        · omega
end
end Sk

/-! Sk Y: texts. -/
namespace Sk
open PySem PySem.Spec L2

def strsOf : List Da → Option (List Str)
  | [] => some []
  | .str i :: r => (strsOf r).map (i :: ·)
  | _ :: _ => none
theorem strsOf_map : ∀ ns : List Str, strsOf (ns.map Da.str) = some ns
  | [] => rfl
  | n :: ns => by
    show (strsOf (ns.map Da.str)).map (n :: ·) = _
    rw [strsOf_map ns]
    rfl
theorem strsOf_eq : ∀ {xs : List Da} {ps : List Str}, strsOf xs = some ps → xs = ps.map Da.str
  | [], ps, h => by cases h; rfl
  | x :: xs, ps, h => by
    cases x with
    | str i =>
      obtain ⟨cs, e1, e2⟩ := Option.map_eq_some_iff.mp (show (strsOf xs).map (i :: ·) = some ps from h)
      rw [strsOf_eq e1, ← e2]
      rfl
    | _ => cases h
theorem RDs.strs {m : List Addr} {B : Addr → Prop} {H : Hp} : ∀ {ns : List Str} {v : List V}, RDs m B H (ns.map Da.str) v → v = ns.map V.str
  | [], _, .nil => rfl
  | n :: ns, _, .cons h t => by
    cases h
    rw [RDs.strs t]
    rfl
theorem strs_rd {m : List Addr} {B : Addr → Prop} {H : Hp} : ∀ ns : List Str, RDs m B H (ns.map Da.str) (ns.map V.str)
  | [] => .nil
  | n :: ns => .cons (.str n) (strs_rd ns)
/-- a text's method with one argument -/
def eM1 (f : Str → Da → Option Da) (a b : EvD) : EvD := fun rho mu => bnd (a rho mu) fun x mu1 => match x with
  | .str s => bnd (b rho mu1) fun y mu2 => opt (f s y) mu2
  | _ => .bad
def joinSize (a : Str) (ys : List Str) : Nat := (ys.map (·.length)).sum + ys.length * a.length
def joinD (a : Str) : Da → Option Da
  | .lst xs => (strsOf xs).bind fun ys => if joinSize a ys ≤ 16777216 then some (.str (Str.join a ys)) else none
  | .tup xs => (strsOf xs).bind fun ys => if joinSize a ys ≤ 16777216 then some (.str (Str.join a ys)) else none
  | _ => none
def splitD (a : Str) : Da → Option Da
  | .str b => if b.length ≠ 0 ∧ a.length + 2 ≤ sizeLine then some (.lst ((Txt.split a b).map Da.str)) else none
  | _ => none
def partD (a : Str) : Da → Option Da
  | .str b => if b.length ≠ 0 ∧ a.length ≤ sizeLine then some (.tup [.str (Txt.partition a b).1, .str (Txt.partition a b).2.1, .str (Txt.partition a b).2.2]) else none
  | _ => none
section
variable {X : Cx} {G : Fr} {W : WX} {pos apos : Pos} {o e : Expr} {da db d : EvD}
theorem m1_to {f : Str → Da → Option Da} {r : V → List V → Hp → VK → Prop} {σ : L2.St} {H : Hp} {Q : VK} (h : TEx G W (eM1 f da db) σ H Q)
    (k : ∀ (m : List Addr) (B : Addr → Prop) (H : Hp) (s : Str) (y z : Da) (v : V) (Q : VK), f s y = some z → RD m B H y v → (∀ p, H p = none → p ∉ m ∧ ¬ B p) → (∀ v H', Same H H' → RD m B H' z v → Q v H') → r (.str s) [v] H Q) : tM1 r (TEx G W da) (TEx G W db) σ H Q := by
  obtain ⟨rho, mu, m, Own, S, h⟩ := h.un
  refine TEx.to S (wp_bnd h) fun x mu1 v H1 m1 h1 g1 S1 r1 => ?_
  cases x with
  | str s =>
    cases r1
    refine ⟨⟨s, rfl⟩, TEx.to S1 (wp_step g1 (wp_bnd h1)) fun y mu2 w H2 m2 h2 g2 S2 r2 => ?_⟩
    obtain ⟨z, ez, q⟩ := wp_opt h2
    exact k m2 _ H2 s y z w Q ez r2 (fun p hp => S2.fresh hp) fun v H' sm rd => q v H' m2 ((g1.trans g2).trans (Lf.of_same sm)) (S2.same sm) rd
  | _ => exact h1.elim
theorem c_join (ho : PE X o (TEx G W da)) (he : PE X e (TEx G W db)) (hs : starEach [e] X.env = [(false, eval e X.env)] := by rfl) (hbase : attributeBase o "join" X.env (eval o X.env) = eval o X.env := by rfl) (hline : (apos.endLine == pos.line) = true := by rfl) :
    PE X (.Call (.Attribute o "join" apos) [e] [] pos) (TEx G W (eM1 joinD da db)) := by
  refine PEw (pe_join ho he hs hbase hline) fun σ H Q h => m1_to h fun m B H s y z v Q ez rd fr q => ?_
  match y, ez, rd with
  | .lst xs, ez, .lst a1 a2 a3 a4 =>
    replace ez : ((strsOf xs).bind fun ys => if joinSize s ys ≤ 16777216 then some (Da.str (Str.join s ys)) else none) = some z := ez
    obtain ⟨ys, e1, e2⟩ := Option.bind_eq_some_iff.mp ez
    obtain ⟨hz, rfl⟩ := ite_inv e2
    have ev := RDs.strs (strsOf_eq e1 ▸ a4)
    subst ev
    exact ⟨s, _, ys, rfl, rfl, .inl (SqL.of a3), hz, q _ _ (Same.refl _) (by rw [TL.join_eq]; exact .str _)⟩
  | .tup xs, ez, .tup a1 a2 a3 a4 =>
    replace ez : ((strsOf xs).bind fun ys => if joinSize s ys ≤ 16777216 then some (Da.str (Str.join s ys)) else none) = some z := ez
    obtain ⟨ys, e1, e2⟩ := Option.bind_eq_some_iff.mp ez
    obtain ⟨hz, rfl⟩ := ite_inv e2
    have ev := RDs.strs (strsOf_eq e1 ▸ a4)
    subst ev
    exact ⟨s, _, ys, rfl, rfl, .inr (SqT.of a3), hz, q _ _ (Same.refl _) (by rw [TL.join_eq]; exact .str _)⟩
theorem c_split (ho : PE X o (TEx G W da)) (he : PE X e (TEx G W db)) (hs : starEach [e] X.env = [(false, eval e X.env)] := by rfl) (hbase : attributeBase o "split" X.env (eval o X.env) = eval o X.env := by rfl) (hline : (apos.endLine == pos.line) = true := by rfl) :
    PE X (.Call (.Attribute o "split" apos) [e] [] pos) (TEx G W (eM1 splitD da db)) := by
  refine PEw (pe_split ho he hs hbase hline) fun σ H Q h => m1_to h fun m B H s y z v Q ez rd fr q => ?_
  cases y with
  | str b =>
    cases rd
    obtain ⟨hz, rfl⟩ := ite_inv ez
    exact ⟨s, b, rfl, rfl, by rw [beq_eq_false_iff_ne]; exact hz.1, hz.2, fun p hp => q _ _ (same_upd hp) (RD.new_lst (strs_rd _) hp (fr p hp).1 (fr p hp).2)⟩
  | _ => cases ez
theorem c_part (ho : PE X o (TEx G W da)) (he : PE X e (TEx G W db)) (hs : starEach [e] X.env = [(false, eval e X.env)] := by rfl) (hbase : attributeBase o "partition" X.env (eval o X.env) = eval o X.env := by rfl) (hline : (apos.endLine == pos.line) = true := by rfl) :
    PE X (.Call (.Attribute o "partition" apos) [e] [] pos) (TEx G W (eM1 partD da db)) := by
  refine PEw (pe_partition ho he hs hbase hline) fun σ H Q h => m1_to h fun m B H s y z v Q ez rd fr q => ?_
  cases y with
  | str b =>
    cases rd
    obtain ⟨hz, rfl⟩ := ite_inv ez
    exact ⟨s, b, rfl, rfl, by rw [beq_eq_false_iff_ne]; exact hz.1, hz.2, fun p hp => q _ _ (same_upd hp) (RD.new_tup (.cons (.str _) (.cons (.str _) (.cons (.str _) .nil))) hp (fr p hp).1 (fr p hp).2)⟩
  | _ => cases ez
/-- str(x), int(text) -/
def strD : List Da → Option Da
  | [.int i] => if i.natAbs.log2 < 1920 then some (.str (Str.ofString (toString i))) else none
  | [.str a] => some (.str a)
  | _ => none
theorem b_str : CallD X (.type "str") strD := by
  refine ⟨_, call_str_int.or SkE.call_str_str, fun m B H xs z vs Q e r fr q => ?_⟩
  match xs, e, r with
  | [.int i], e, .cons (.int _) .nil =>
    obtain ⟨hz, rfl⟩ := ite_inv e
    exact .inl ⟨i, rfl, hz, q _ _ (Same.refl _) (.str _)⟩
  | [.str a], e, .cons (.str _) .nil =>
    cases e
    exact .inr ⟨a, rfl, q _ _ (Same.refl _) (.str _)⟩
def intSD : List Da → Option Da
  | [.str a] => (PySem.intText? a).bind fun n => if a.length ≤ 640 then some (.int n) else none
  | _ => none
theorem b_intS : CallD X (.type "int") intSD := by
  refine ⟨_, call_int_str, fun m B H xs z vs Q e r fr q => ?_⟩
  match xs, e, r with
  | [.str a], e, .cons (.str _) .nil =>
    obtain ⟨n, e1, e2⟩ := Option.bind_eq_some_iff.mp (show ((PySem.intText? a).bind fun n => if a.length ≤ 640 then some (Da.int n) else none) = some z from e)
    obtain ⟨hz, rfl⟩ := ite_inv e2
    exact ⟨a, n, rfl, e1, hz, q _ _ (Same.refl _) (.int _)⟩
/-- sign in text -/
def inSD : Da → Da → Option Da
  | .str x, .str z => (match x.cps.toList with
    | [c] => some (.bl (decide (c ∈ z.cps.toList)))
    | _ => none)
  | _, _ => none
theorem o_inS : OpD X (compareOp .In) inSD := by
  refine ⟨_, op_in_sign, fun m B H x y z a b Q e rx ry fr q => ?_⟩
  match x, y, e, rx, ry with
  | .str x, .str y, e, .str _, .str _ =>
    replace e : (match x.cps.toList with | [c] => some (Da.bl (decide (c ∈ y.cps.toList))) | _ => none) = some z := e
    split at e
    · rename_i c ec
      cases e
      have ex : x = ⟨#[c]⟩ := TL.ext_tl (by show x.cps.toList = _; rw [ec])
      rw [ex]
      exact ⟨c, y, rfl, rfl, q _ _ (Same.refl _) (.bl _)⟩
    · cases e
/-- text[i] -/
def ixSD : Da → Da → Option Da
  | .str z, .int i => if 0 ≤ i ∧ i < 2 ^ 63 ∧ i < z.length then (z.cps[i.toNat]?).map fun c => .str ⟨#[c]⟩ else none
  | _, _ => none
theorem c_ixS {a b : Expr} (ha : PE X a (TEx G W da)) (hb : PE X b (TEx G W db)) (hs : PlainIxT b := by intro _ _; rfl) : PE X (.Subscript a b pos) (TEx G W (e2 ixSD da db)) := by
  refine PEw (pe_item_str ha hb hs) fun σ H Q h => ?_
  obtain ⟨rho, mu, m, Own, S, h⟩ := h.un
  unfold tOp
  refine two S h (r := fun x y H Q => ∃ (z : Str) (i : Int) (c : Nat), x = .str z ∧ y = .int i ∧ 0 ≤ i ∧ i < 2 ^ 63 ∧ i < z.length ∧ z.cps[i.toNat]? = some c ∧ Q (.str ⟨#[c]⟩) H) fun m B H x y z a b Q e rx ry fr q => ?_
  match x, y, e, rx, ry with
  | .str s, .int i, e, .str _, .int _ =>
    replace e : (if 0 ≤ i ∧ i < 2 ^ 63 ∧ i < s.length then (s.cps[i.toNat]?).map fun c => Da.str ⟨#[c]⟩ else none) = some z := e
    by_cases hz : 0 ≤ i ∧ i < 2 ^ 63 ∧ i < s.length
    · rw [if_pos hz] at e
      obtain ⟨c, ec, rfl⟩ := Option.map_eq_some_iff.mp e
      exact ⟨s, i, c, rfl, rfl, hz.1, hz.2.1, hz.2.2, ec, q _ _ (Same.refl _) (.str _)⟩
    · rw [if_neg hz] at e; cases e
/-- for sign in text -/
def signsD (x : Str) : List Da := x.cps.toList.map fun c => .str ⟨#[c]⟩
def iSgn (e : EvD) : EvI := fun rho mu => bnd (e rho mu) fun d mu' => match d with
  | .str x => .ok (signsD x) mu'
  | _ => .bad
theorem walks_str {x : Str} {m : List Addr} {B : Addr → Prop} {H : Hp} : Walks (Its x) (signsD x) m B H := by
  intro m2 B2 H2 _ _
  refine ⟨fun i d ed => ?_, by unfold signsD; rw [List.length_map, Array.length_toList]; exact Nat.le_refl _⟩
  unfold signsD at ed
  rw [List.getElem?_map] at ed
  obtain ⟨c, ec, rfl⟩ := Option.map_eq_some_iff.mp ed
  rw [Array.getElem?_toList] at ec
  refine ⟨(Array.getElem?_eq_some_iff.mp ec).1, fun v H3 ⟨eq, c2, ec2, ev⟩ => ?_⟩
  subst eq
  rw [ec] at ec2
  cases ec2
  rw [ev]
  exact ⟨Same.refl _, .str _⟩
theorem i_sgn {tg : Expr} (he : PE X e (TEx G W d)) : PI X tg e (TIx G W (iSgn d)) := by
  refine PIw (pi_str he) fun σ H R ⟨rho, mu, m, Own, S, h⟩ => TEx.to S (wp_bnd h) fun z mu1 v H1 m1 h1 g1 S1 r1 => ?_
  cases z with
  | str x =>
    cases r1
    exact ⟨x, rfl, h1 _ H1 m1 g1 S1 walks_str⟩
  | _ => exact h1.elim
end
section
variable {rho : Ev} {mu : Mem} {P : Da → Mem → Prop} {Q : List Da → Mem → Prop} {a b e : EvD}
@[simp] theorem yes_eM1 {f : Str → Da → Option Da} : Yes (eM1 f a b rho mu) P ↔ Yes (a rho mu) fun x m => match x with | .str s => Yes (b rho m) fun y m2 => Yes (opt (f s y) m2) P | _ => False := by
  unfold eM1; rw [yes_bnd]
  cases a rho mu with
  | ok d m => cases d <;> first | exact yes_bnd | exact Iff.rfl
  | _ => exact Iff.rfl
@[simp] theorem yes_iSgn : Yes (iSgn e rho mu) Q ↔ Yes (e rho mu) fun d m => match d with | .str x => Q (signsD x) m | _ => False := by
  unfold iSgn; rw [yes_bnd]
  cases e rho mu with
  | ok d m => cases d <;> exact Iff.rfl
  | _ => exact Iff.rfl
end
end Sk

/-! Sk Z: text * n; texts of texts. -/
namespace Sk
open PySem PySem.Spec L2

def repS (k : Nat) (z : Str) : Str := ⟨(List.replicate k z.cps).foldl (· ++ ·) #[]⟩
def mulSD : Da → Da → Option Da
  | .str z, .int k => if 2 ≤ k ∧ k ≤ 1000 ∧ 1 ≤ z.length ∧ z.length ≤ 1000 then some (.str (repS k.toNat z)) else none
  | _, _ => none
def rMulS : R2 := fun x y H Q => ∃ (z : Str) (k : Int), x = .str z ∧ y = .int k ∧ (2 ≤ k ∧ k ≤ 1000 ∧ 1 ≤ z.length ∧ z.length ≤ 1000) ∧ Q (.str (repS k.toNat z)) H
theorem fold_size (a : Array Nat) : ∀ (n : Nat) (b : Array Nat), ((List.replicate n a).foldl (· ++ ·) b).size = b.size + n * a.size
  | 0, b => by simp
  | n + 1, b => by
    rw [List.replicate_succ, List.foldl_cons, fold_size a n, Array.size_append, Nat.succ_mul]
    omega
theorem repS_len {k : Nat} {z : Str} : (repS k z).length = k * z.length := by
  show ((List.replicate k z.cps).foldl (· ++ ·) #[]).size = _
  rw [fold_size]
  simp [Str.length]
section
variable {X : Cx}
theorem op_mulS : OpR X (binaryOp .Mult) rMulS := by
  intro pins s σ H x y v u Q I rx ry h
  obtain ⟨z, k, rfl, rfl, ⟨k0, k1, z0, z1⟩, q⟩ := h
  obtain ⟨t, rfl⟩ := rx
  obtain ⟨t2, rfl⟩ := ry
  have sz : (z.length : Int) * k ≤ 1000000 := by
    have := Int.mul_le_mul (show (z.length : Int) ≤ 1000 by omega) k1 (by omega) (by decide)
    omega
  refine P.mul_str ?_ (fun _ _ => ?_) (fun _ _ => ?_) ?_
  · rw [decide_eq_false (by omega), decide_eq_false (by omega)]
    rfl
  · have : (2 ^ 63 - 1) / 1000 ≤ (2 ^ 63 - 1) / k := by
      refine (Int.le_ediv_iff_mul_le (by omega)).mpr ?_
      have := Int.mul_le_mul_of_nonneg_left k1 (show (0 : Int) ≤ (2 ^ 63 - 1) / 1000 by decide)
      omega
    omega
  · have e : ((z.length * k.toNat : Nat) : Int) = (z.length : Int) * k := by
      rw [Int.natCast_mul, Int.toNat_of_nonneg (by omega)]
    unfold Builtin.Str.tooLong
    refine decide_eq_false ?_
    rw [sizeLine_eq]
    omega
  · rw [if_neg (by omega), if_neg (by
      rw [Bool.or_eq_true, beq_iff_eq, beq_iff_eq]
      omega)]
    refine ⟨?_, ⟨.str (repS k.toNat z), H, I.tok _, ⟨_, rfl⟩, q⟩⟩
    have := repS_len (k := k.toNat) (z := z)
    have e : k.toNat * z.length ≤ 1000 * 1000 := Nat.mul_le_mul (by omega) z1
    show (repS k.toNat z).length ≤ sizeLine
    rw [this, sizeLine_eq]
    omega
theorem o_mulS : OpD X (binaryOp .Mult) mulSD := by
  refine ⟨_, op_mulS, fun m B H x y z a b Q e rx ry fr q => ?_⟩
  match x, y, e, rx, ry with
  | .str s, .int k, e, .str _, .int _ =>
    obtain ⟨hz, rfl⟩ := ite_inv (show (if 2 ≤ k ∧ k ≤ 1000 ∧ 1 ≤ s.length ∧ s.length ≤ 1000 then some (Da.str (repS k.toNat s)) else none) = some z from e)
    exact ⟨s, k, rfl, rfl, hz, q _ _ (Same.refl _) (.str _)⟩
end
/-! ### the text of a text -/
theorem digit_ok (c n : Nat) : ∀ d ∈ (Nat.toDigits 16 n).map Char.toNat, d < 0x110000 := by
  intro d hd
  obtain ⟨ch, _, rfl⟩ := List.mem_map.mp hd
  rcases ch.valid with h | h
  · exact Nat.lt_trans h (by decide)
  · exact h.2
theorem reprChar_ok (q c : Nat) (hc : c < 0x110000) : ∀ d ∈ Builtin.Str.reprChar q c, d < 0x110000 := by
  have hx : ∀ (k : Nat) (l : List Nat), (∀ d ∈ l, d < 0x110000) → ∀ d ∈ l ++ (List.replicate (k - ((Nat.toDigits 16 c).map Char.toNat).length) 48 ++ (Nat.toDigits 16 c).map Char.toNat), d < 0x110000 := fun k l hl d hd => by
    rcases List.mem_append.mp hd with h | h
    · exact hl d h
    · rcases List.mem_append.mp h with h | h
      · rw [List.eq_of_mem_replicate h]; decide
      · exact digit_ok c c d h
  unfold Builtin.Str.reprChar
  dsimp only
  split
  · intro d hd
    simp at hd
    rcases hd with rfl | rfl
    · decide
    · exact hc
  split
  · decide
  split
  · decide
  split
  · decide
  split
  · intro d hd
    rw [List.mem_singleton.mp hd]
    exact hc
  split
  · exact hx 2 _ (by decide)
  split
  · exact hx 4 _ (by decide)
  · exact hx 8 _ (by decide)
theorem sok_repr {x : Str} (h : SO2 x) : SO2 (reprText x) := by
  have hx : ∀ c ∈ x.cps.toList, c < 0x110000 := fun c hc => by
    have z : x.cps.all (fun c => decide (c < 0x110000)) = true := h
    rw [← Array.all_toList] at z
    exact of_decide_eq_true (List.all_eq_true.mp z c hc)
  have hq : reprQuote x < 0x110000 := by
    unfold reprQuote
    split <;> decide
  have go : ∀ (l : List Nat) (acc : Array Nat), (∀ c ∈ l, c < 0x110000) → (∀ c ∈ acc.toList, c < 0x110000) → ∀ c ∈ (l.foldl (fun out c => out ++ (Builtin.Str.reprChar (reprQuote x) c).toArray) acc).toList, c < 0x110000 := by
    intro l
    induction l with
    | nil => intro acc _ h; exact h
    | cons a l ih =>
      intro acc hl ha
      refine ih _ (fun c hc => hl c (List.mem_cons_of_mem _ hc)) fun c hc => ?_
      rw [Array.toList_append] at hc
      rcases List.mem_append.mp hc with hc | hc
      · exact ha c hc
      · exact reprChar_ok _ a (hl a List.mem_cons_self) c (by simpa using hc)
  show (reprText x).cps.all (fun c => decide (c < 0x110000)) = true
  rw [← Array.all_toList, List.all_eq_true]
  intro c hc
  refine decide_eq_true ?_
  unfold reprText at hc
  rw [Array.toList_push] at hc
  rcases List.mem_append.mp hc with hc | hc
  · rw [← Array.foldl_toList] at hc
    exact go x.cps.toList #[reprQuote x] hx (by
      intro c hc
      have hc : c ∈ [reprQuote x] := hc
      rw [List.mem_singleton.mp hc]
      exact hq) c hc
  · rw [List.mem_singleton.mp hc]
    exact hq
/-- a list of texts can be told -/
theorem texts_told {ts : List Str} (h : ∀ t ∈ ts, SO2 t ∧ t.length ≤ 10000) (hl : ts.length ≤ 100) : reprD [.lst (ts.map Da.str)] = some (.str (listText (ts.map reprText))) ∧ SO2 (listText (ts.map reprText)) := by
  have e : toPys (ts.map Da.str) = ts.map PyData.str := by
    rw [toPys_map, List.map_map]
    rfl
  have sh : PyData.shownAll (ts.map PyData.str) = ts.map reprText := by
    clear h hl e
    induction ts with
    | nil => rfl
    | cons t ts ih => exact congrArg (reprText t :: ·) ih
  have f : isDs (ts.map Da.str) = true ∧ PyData.showableAll (ts.map PyData.str) = true ∧ PyData.depthAll (ts.map PyData.str) = 0 := by
    clear h hl e sh
    induction ts with
    | nil => exact ⟨rfl, rfl, rfl⟩
    | cons t ts ih =>
      refine ⟨ih.1, ih.2.1, ?_⟩
      show max 0 (PyData.depthAll (ts.map PyData.str)) = 0
      rw [ih.2.2]
      rfl
  have so : SO2 (listText (ts.map reprText)) := sok_list fun t ht => by
    obtain ⟨x, hx, rfl⟩ := List.mem_map.mp ht
    exact sok_repr (h x hx).1
  have len : (listText (ts.map reprText)).length ≤ sizeLine := by
    have l1 := textFrom_len_le (ts.map reprText) 0 (Str.ofString "[")
    have l2 : ((ts.map reprText).map (·.length)).sum ≤ 100002 * ts.length := by
      clear l1 so f sh e hl
      induction ts with
      | nil => exact Nat.le_refl _
      | cons t ts ih =>
        have hx := (h t List.mem_cons_self)
        have z := StrLaws.reprText_len t fun c hc => by
          have z : t.cps.all (fun c => decide (c < 0x110000)) = true := hx.1
          rw [← Array.all_toList] at z
          exact Nat.lt_trans (of_decide_eq_true (List.all_eq_true.mp z c hc)) (by decide)
        have i := ih fun t ht => h t (List.mem_cons_of_mem _ ht)
        simp only [List.map_cons, List.sum_cons, List.length_cons] at i ⊢
        omega
    have l3 : (listText (ts.map reprText)).length = (textFrom 0 (Str.ofString "[") (ts.map reprText)).length + 1 := by
      unfold listText
      rw [Str.length_append]
      rfl
    rw [List.length_map] at l1
    have l4 : (Str.ofString "[").length = 1 := rfl
    rw [l3, sizeLine_eq]
    omega
  refine ⟨?_, so⟩
  have tp : (toPy (.lst (ts.map Da.str))).shown = listText (ts.map reprText) := by
    show listText (PyData.shownAll (toPys (ts.map Da.str))) = _
    rw [e, sh]
  have ok : okRepr (.lst (ts.map Da.str)) = true := by
    unfold okRepr
    rw [tp, decide_eq_true len]
    show (isDs (ts.map Da.str) && PyData.showableAll (toPys (ts.map Da.str)) && decide (PyData.depthAll (toPys (ts.map Da.str)) + 1 ≤ 60) && true) = true
    rw [e, f.1, f.2.1, f.2.2]
    rfl
  show (if okRepr (.lst (ts.map Da.str)) = true then some (Da.str (toPy (.lst (ts.map Da.str))).shown) else none) = _
  rw [if_pos ok, tp]
end Sk

/-! Sk Za: sorted(set(list of ints)). -/
namespace Sk
open PySem PySem.Spec L2 PyProof.Rows
/-- a set as it is made -/
abbrev bareSet (w : World) : Obj := { cls := .type "set", dict := none, data := .set #[] 0 (.fresh 0 0 (!w.params.followText "set-order")) }
abbrev withSet (w : World) (h : Heap) : Heap := h.push (bareSet w)
section
variable {P : Program} {w : World} {A : Around} {E : Value → Shared → Prop} {s : Shared}
/-- its list is walked, all are put in -/
theorem fill_lst {A : Around} {D l : Addr} {g : Heap} {vs : Array Value} (ks : List Int) {R : Result → Shared → Prop} (hh : A.in1.handled = none) (hg : s.heap = withSet w g) (hD : D = g.objs.size) (hl : g.IsList l vs) (hv : IntsAre vs.toList ks) (hb : ks.length + 1 < scanBound)
    (h : ∀ g' t c, SetR w g' D (fun j => decide (j ∈ ks)) c → c ≤ ks.length → (∀ b o, g.get? b = some o → g'.get? b = some o) → R (.ok (.ret .none)) { s with heap := g', toks := t }) :
    codeAny (model P w) A (.builtin "set.update.loop" ⟨[.ref D, .ref s.heap.objs.size], []⟩) R { s with heap := s.heap.push { cls := .type "list_iterator", data := .fields #[.ref l, .int 0 0] } } := by
  obtain ⟨g0, gg, dd, tt, oo⟩ := s
  simp only at hg
  subst hg hD
  have lt : l < g.objs.size := by
    obtain ⟨_, e, _⟩ := hl
    exact Heap.lt_size e
  have z1 : (withSet w g).objs.size = g.objs.size + 1 := Heap.size_push _ _
  have n1 : l ≠ (withSet w g).objs.size := by rw [z1]; exact Nat.ne_of_lt (Nat.lt_succ_of_lt lt)
  have sz : vs.size = ks.length := by rw [← IntsAre.length hv, Array.length_toList]
  refine set_update_ints ((Walks.list (by first | exact hh | simpa using hh) _ l n1 vs).toS) g.objs.size (by
    simp only [z1, List.mem_cons, List.not_mem_nil, or_false, not_or]
    exact ⟨Nat.ne_of_lt (Nat.lt_succ_self _), Nat.ne_of_gt lt⟩) ks sz hb (fun i v e => ?_) (vs.size - 0) 0 _ (by omega) (Nat.zero_le _)
    ⟨⟨_, Heap.get?_push_size _ rfl, rfl, rfl⟩, hl.push _ |>.push _⟩ ⟨0, Nat.le_refl 0, setR_new_at (Heap.get?_push_of_some _ (Heap.get?_push_size _ rfl))⟩ fun s2 c mv lc R2 => ?_
  · have hi : i < ks.length := sz ▸ (Array.getElem?_eq_some_iff.mp e).1
    obtain ⟨t, q⟩ := IntsAre.int_at hv i v (by rw [Array.getElem?_toList]; exact e)
    exact ⟨ks[i], t, List.getElem?_eq_getElem hi, by rw [q, List.getD_eq_getElem?_getD, List.getElem?_eq_getElem hi]; rfl⟩
  · obtain ⟨g2, g3, d3, t3, o3⟩ := s2
    cases (show g3 = gg from mv.gens)
    cases (show d3 = dd from mv.drawn)
    cases (show o3 = oo from mv.os)
    refine h g2 t3 c R2 (sz ▸ lc) fun b o e => ?_
    have q := Heap.lt_size e
    exact mv.heap b o (by
      simp only [z1, List.mem_cons, List.not_mem_nil, or_false, not_or]
      exact ⟨Nat.ne_of_lt q, Nat.ne_of_lt (Nat.lt_succ_of_lt q)⟩) (Heap.get?_push_of_some _ (Heap.get?_push_of_some _ e))
/-- set(list of ints) -/
theorem set_lst {l : Addr} {vs : Array Value} (ks : List Int) {Q : Value → Shared → Prop} (hh : A.handled = none) (hl : s.heap.IsList l vs) (hv : IntsAre vs.toList ks) (hb : ks.length + 1 < scanBound)
    (k : ∀ g t c, SetR w g s.heap.objs.size (fun j => decide (j ∈ ks)) c → c ≤ ks.length → (∀ b o, s.heap.get? b = some o → g.get? b = some o) → Q (.ref s.heap.objs.size) { s with heap := g, toks := t }) : wpAny (model P w) A (call (.type "set") [.ref l]) Q E s := by
  obtain ⟨c0, t0, mro⟩ := F.called_set.mro
  have z0 := F.called_set.made; have z1 := F.called_set.sub; have z2 := F.called_set.notType; have z3 := F.called_set.canCreate
  refine wpAny_call (codeAny_of_tree (show wpAny _ _ (callAny (.type "set") _) _ _ _ from wpAny_pure ⟨Code.quiet_builtin _ (by decide +kernel), codeAny_builtin F.entry_type_call ?_⟩))
  rw [Around.under_plain (weight_type_call_type "set" [.ref l] []) rfl]
  have z4 := F.typeCall_set_1 (.ref l)
  repeat (any_goals (first | assumption | wp_step))
  refine codeAny_mono (code_set_led1 (.ref l) (E := E) (Q₁ := fun x u => x = .ref s.heap.objs.size ∧ u = { s with heap := withSet w s.heap }) ⟨rfl, rfl⟩) fun r u hr => ?_
  match r, hr with
  | .error _, hr => exact hr
  | .ok (.ret x), hr =>
    obtain ⟨rfl, rfl⟩ := hr
    have e0 : (withSet w s.heap).get? s.heap.objs.size = some (bareSet w) := Heap.get?_push_size _ rfl
    have e1 : Shared.TypeIs { s with heap := withSet w s.heap } (.ref s.heap.objs.size) "set" := ⟨_, e0, rfl⟩
    have z5 := F.called_set.init.lookup; have z6 := F.called_set.init.bind (.ref s.heap.objs.size)
    repeat (any_goals (first | assumption | wp_step))
    refine codeAny_mono (codeAny_call_builtin (R := wants (fun x u => x = .none ∧ ∃ g t c, u = { s with heap := g, toks := t } ∧ SetR w g s.heap.objs.size (fun j => decide (j ∈ ks)) c ∧ c ≤ ks.length ∧ ∀ b o, s.heap.get? b = some o → g.get? b = some o) E) F.called_set.init.plain F.entry_set_init (check_set_init_1 e1 ?_)) fun r2 u2 hr2 => ?_
    · obtain ⟨⟨oc, od, ox, os⟩, ho, hc, hn, hx⟩ := id hl
      cases (show oc = .type "list" from hc)
      cases (show ox = .seq vs hn from hx)
      have e2 := Heap.get?_push_of_some (bareSet w) ho
      have z7 := F.sub_list_set; have z8 := F.sub_list_frozenset
      have z9 : (Value.type "list" == Value.type "dict") = false := by decide
      unfold Builtin.«set.__init__» noKeywords
      unfold Builtin.Frozenset.updateFrom
      generalize pi : pyIter = it
      wp_walk
      subst pi
      refine wpAny_pyIter_list (hl.push _) (wpAny_bind (wpAny_runValue ?_))
      refine fill_lst (s := { s with heap := withSet w s.heap }) (g := s.heap) ks (by simp [hh]) rfl rfl hl hv hb fun g t c r1 r2 r3 => ?_
      show wpAny _ _ _ _ _ _
      exact wpAny_pure (wpAny_pure ⟨rfl, g, t, c, rfl, r1, r2, r3⟩)
    · match r2, hr2 with
      | .error _, hr2 => exact hr2
      | .ok (.ret _), hr2 =>
        obtain ⟨rfl, g, t, c, rfl, q1, q2, q3⟩ := hr2
        repeat (any_goals (first | assumption | wp_step))
        exact k _ _ _ q1 q2 q3
end
section
variable {X : Cx}
def rSetL (K : PySem.W.Frag) (w : World) : List V → Hp → VK → Prop := fun vs H Q => ∃ (a : Addr) (ks : List Int), vs = [V.ref a] ∧ SqL K H a (ks.map V.int) ∧ ks.length < 64 ∧ ∀ p c, H p = none → c ≤ ks.length → Q (.ref p) (upd H p (SetO w p (fun j => decide (j ∈ ks)) c))
theorem cr_setL (hc : X.calm = true) : CallR X (.type "set") (rSetL X.K X.w) := by
  intro pins s σ H vs us Q I r h
  obtain ⟨a, ks, rfl, hs, hl, q⟩ := h
  obtain rfl := Vals.ref1 r
  obtain ⟨its, rv, il, _⟩ := I.list hs
  refine set_lst ks (I.ok.hd hc) il.isList (ints_of_vals rv) (by unfold scanBound; omega) fun g t c r1 r2 r3 => ?_
  exact ⟨.ref s.heap.objs.size, upd H s.heap.objs.size (SetO X.w s.heap.objs.size (fun j => decide (j ∈ ks)) c), I.laid (t' := t) r3 (Nat.le_refl _) (setO_new r1), rfl, q _ c (I.hok.fresh (Nat.le_refl _)) r2⟩
end
end Sk

/-! Sk Zb: sorted(set(..)), list of a dict comprehension's keys. -/
namespace Sk
open PySem PySem.Spec L2
/-- each once, as first met -/
def addI (a : List Int) (k : Int) : List Int := if k ∈ a then a else a ++ [k]
def dedI (ks : List Int) : List Int := ks.foldl addI []
theorem addI_mem {a : List Int} {k j : Int} : j ∈ addI a k ↔ j ∈ a ∨ j = k := by
  unfold addI
  split
  · exact ⟨.inl, fun h => h.elim id fun e => by subst e; assumption⟩
  · simp
theorem addI_nd {a : List Int} {k : Int} (h : a.Nodup) : (addI a k).Nodup := by
  unfold addI
  split
  · exact h
  · rename_i n
    refine List.nodup_append.mpr ⟨h, by simp, fun x hx y hy e => n ?_⟩
    rw [← List.mem_singleton.mp hy, ← e]
    exact hx
theorem addI_len (a : List Int) (k : Int) : (addI a k).length ≤ a.length + 1 := by
  unfold addI
  split <;> simp
theorem fold_mem : ∀ (ks a : List Int) (j : Int), j ∈ ks.foldl addI a ↔ j ∈ a ∨ j ∈ ks
  | [], a, j => by simp
  | k :: ks, a, j => by
    rw [List.foldl_cons, fold_mem ks, addI_mem, List.mem_cons]
    exact or_assoc
theorem fold_nd : ∀ (ks a : List Int), a.Nodup → (ks.foldl addI a).Nodup
  | [], _, h => h
  | k :: ks, a, h => fold_nd ks _ (addI_nd h)
theorem fold_len : ∀ (ks a : List Int), (ks.foldl addI a).length ≤ a.length + ks.length
  | [], a => Nat.le_refl _
  | k :: ks, a => by
    have := fold_len ks (addI a k)
    have := addI_len a k
    rw [List.foldl_cons, List.length_cons]
    omega
theorem dedI_mem (ks : List Int) (j : Int) : j ∈ dedI ks ↔ j ∈ ks := (fold_mem ks [] j).trans (by simp)
theorem dedI_nd (ks : List Int) : (dedI ks).Nodup := fold_nd ks [] List.nodup_nil
theorem dedI_len (ks : List Int) : (dedI ks).length ≤ ks.length := by
  have := fold_len ks []
  rw [List.length_nil, Nat.zero_add] at this
  exact this
theorem dedI_snoc (ks : List Int) (k : Int) : dedI (ks ++ [k]) = addI (dedI ks) k := by
  unfold dedI
  rw [List.foldl_append]
  rfl
def sorSetD : List Da → Option Da
  | [.lst xs] => (intsOf xs).bind fun ns => if ns.length < 64 then some (.lst ((sortI (dedI ns)).map Da.int)) else none
  | _ => none
def chkI : Da → Option Da
  | .int i => some (.int i)
  | _ => none
def dedD : Da → Option Da
  | .lst xs => (intsOf xs).map fun ns => .lst ((dedI ns).map Da.int)
  | _ => none
/-- list({e: .. for .. in it}) -/
def eDk (it : EvI) (vs : List Nat) (bd : Da → Ev → Option Ev) (e : EvD) : EvD := e1 dedD (eCmp it vs bd tT (e1 chkI e))
theorem putI {a : List Int} {kvs : List (Key × V)} {k : Int} {z : V} (h : kvs.map (·.1) = a.map Sum.inl) : (putK kvs (Sum.inl k) z).map (·.1) = (addI a k).map Sum.inl := by
  have ea : (kvs.any fun kv => decide (kv.1 = Sum.inl k)) = true ↔ k ∈ a := by
    rw [List.any_eq_true]
    constructor
    · rintro ⟨kv, hm, e⟩
      have e := of_decide_eq_true e
      have : (Sum.inl k : Key) ∈ a.map Sum.inl := by
        rw [← h, ← e]
        exact List.mem_map.mpr ⟨kv, hm, rfl⟩
      obtain ⟨j, hj, ej⟩ := List.mem_map.mp this
      cases ej
      exact hj
    · intro hk
      have : (Sum.inl k : Key) ∈ kvs.map (·.1) := by
        rw [h]
        exact List.mem_map.mpr ⟨k, hk, rfl⟩
      obtain ⟨kv, hm, e⟩ := List.mem_map.mp this
      exact ⟨kv, hm, decide_eq_true e⟩
  unfold putK addI
  by_cases hk : k ∈ a
  · rw [if_pos (ea.mpr hk), if_pos hk, List.map_map, ← h]
    refine List.map_congr_left fun kv _ => ?_
    show (if kv.1 = Sum.inl k then (kv.1, z) else kv).1 = kv.1
    split <;> rfl
  · rw [if_neg (fun q => hk (ea.mp q)), if_neg hk, List.map_append, List.map_append, h]
    rfl
section
variable {X : Cx} {G : Fr} {W : WX} {pos pos' : Pos}
theorem c_sorSet {p p2 pos2 : Pos} {e : Expr} {r : Ev → Mem → Out (List Da)} (hm : X.mg "sorted" = none) (hm2 : X.mg "set" = none) (ha : PA X [e] (TAx G W r)) (hg : Gl X "sorted" := by rfl) (hg2 : Gl X "set" := by rfl) (hc : X.calm = true := by rfl)
    (na : starEach [e] X.env = (false, eval e X.env) :: starEach [] X.env := by rfl) (nb : starEach [.Call (.Name "set" p2) [e] [] pos2] X.env = (false, eval (.Call (.Name "set" p2) [e] [] pos2) X.env) :: starEach [] X.env := by rfl)
    (npl : (backTo pos2 (starEach [] X.env)).any (·.1) = false := by rfl) (nql : (backTo pos (starEach [] X.env)).any (·.1) = false := by rfl) :
    PE X (.Call (.Name "sorted" p) [.Call (.Name "set" p2) [e] [] pos2] [] pos) (TEx G W (eB sorSetD r)) := by
  refine PEw (pe_callB (id := "sorted") (cr_sortedSet hc) hg hm rfl (pa_cons (pe_callTy (cr_setL hc) hg2 hm2 rfl ha (by decide) (by decide) na npl) pa_nil nb) (by decide) (by decide) nb nql) fun σ H Q h => ?_
  obtain ⟨rho, mu, m, Own, S, h⟩ := h.un
  refine TAx.to S (wp_bnd h) fun x mu1 v1 H1 m1 h1 g1 S1 r1 => ?_
  obtain ⟨z, e, q⟩ := wp_opt h1
  match x, e with
  | [.lst xs], e =>
    cases r1 with
    | cons r1 r2 =>
      cases r2
      cases r1 with
      | lst a1 a2 a3 a4 =>
        obtain ⟨ns, e1, e2⟩ := Option.bind_eq_some_iff.mp (show ((intsOf xs).bind fun ns => if ns.length < 64 then some (Da.lst ((sortI (dedI ns)).map Da.int)) else none) = some z from e)
        obtain ⟨h64, e2⟩ := ite_inv e2
        subst e2
        have ev := RDs.ints (intsOf_eq e1 ▸ a4)
        subst ev
        refine ⟨_, ns, rfl, SqL.of a3, h64, fun p c hp hcn => ⟨p, _, c, rfl, upd_same, by omega, fun ms p2 hs hm hl hp2 => ?_⟩⟩
        have sm1 := same_upd (o := SetO X.w p (fun j => decide (j ∈ ns)) c) hp
        have sm2 := same_upd (o := HO.lst (ms.map V.int)) hp2
        have eq : ms = sortI (dedI ns) := by
          refine sortI_unique ((List.perm_ext_iff_of_nodup (hs.imp fun h => Int.ne_of_lt h) (dedI_nd ns)).mpr fun j => ?_) (hs.imp Int.le_of_lt)
          rw [hm j, dedI_mem]
          exact decide_eq_true_iff
        have S2 := S1.same sm1
        have q2 := q (.ref p2) (upd (upd H1 p (SetO X.w p (fun j => decide (j ∈ ns)) c)) p2 (.lst (ms.map V.int))) m1 ((g1.trans (Lf.of_same sm1)).trans (Lf.of_same sm2)) (S2.same sm2)
        rw [eq] at q2 ⊢
        exact q2 (RD.new_lst (ints_rd _) hp2 (S2.fresh hp2).1 (S2.fresh hp2).2)
theorem chk_inv {o : Out Da} {Q : Da → Mem → Prop} {E : Exn → Mem → Prop} (h : (bnd o fun x mu => opt (chkI x) mu).wp Q E) : o.wp (fun z mu => ∃ i, z = .int i ∧ Q (.int i) mu) E := by
  refine wp_and (wp_bnd h) fun z mu q => ?_
  obtain ⟨d, e, q⟩ := wp_opt q
  cases z with
  | int i => cases e; exact ⟨i, rfl, q⟩
  | _ => cases e
theorem ints_snoc {ns : List Int} {i : Int} {ys : List Da} : ns.map Da.int ++ Da.int i :: ys = (ns ++ [i]).map Da.int ++ ys := by
  rw [List.map_append, List.append_assoc]
  rfl
theorem dk_le {it : EvI} {bd : Da → Ev → Option Ev} {vs : List Nat} {e : EvD} {b : Da} {σ : L2.St} {H : Hp} {Q : VK} (h : TEx G W (eDk it vs bd e) σ H Q) : tDc (TIx G W it) (TGx G vs bd) (TTx G WF tT) (TEx G WF e) (TEx G WF (eK (.bl true))) vs σ H fun x H1 => ∃ (a : Addr) (kvs : List (Key × V)), [x] = [V.ref a] ∧ Rd H1 a (.dK kvs) ∧ ∀ p, H1 p = none → Q (.ref p) (upd H1 p (.lst (kvs.map fun kv => kV kv.1))) := by
  obtain ⟨rho, mu, m, Own, S, h⟩ := h.un
  have h : (eCmp it vs bd tT (e1 chkI e) rho mu).wp _ _ := wp_bnd h
  refine ⟨rho, mu, m, Own, S, wp_and (wp_bnd h) fun items mu1 h1 J H1 m1 g1 S1 wk => ?_⟩
  by_cases hlen : items.length < sizeLine
  · rw [if_pos hlen] at h1
    have h1 := wp_bnd h1
    intro D hD
    have ns := S1.noslot hD
    obtain ⟨S2, le2⟩ := S1.bar1 (o := .dK []) hD
    refine ⟨fun i k H' => k = items.length - i ∧ i ≤ items.length ∧ ∃ mu' m' js kvs, Le m1 (G.bar Own) H1 m' (G.bar (fun a => Own a ∨ a = D)) H' ∧ Lf m1 H1 m' H' ∧ StR G rho mu' σ H' m' (fun a => Own a ∨ a = D) ∧ H' D = some (.dK kvs) ∧ kvs.map (·.1) = (dedI js).map Sum.inl ∧ js.length ≤ i ∧
        (cLoop bd tT (e1 chkI e) (wipeE rho vs) (items.drop i) mu').wp (fun ys mu2 => (opt (dedD (.lst (js.map Da.int ++ ys))) mu2).wp (QE G rho σ Own m H Q) fun _ _ => False) (fun _ _ => False), ⟨items.length, by simp, Nat.zero_le _, mu1, m1, [], [], le2, Lf.of_same (same_upd hD), S2, upd_same, rfl, Nat.zero_le _, ?_⟩, ?_⟩
    · rw [List.drop_zero]
      have cl : ∀ (xs : List Da) (u : Mem), (∃ x v, cLoop bd tT (e1 chkI e) (wipeE rho vs) xs u = .exc x v) → False := by
        intro xs
        induction xs with
        | nil => rintro u ⟨x, v, e⟩; cases e
        | cons y ys ih =>
          rintro u ⟨x, v, q⟩
          unfold cLoop at q
          cases eb : bd y (wipeE rho vs) with
          | none => rw [eb] at q; cases q
          | some r1 =>
            rw [eb] at q
            simp only [tT, noX, bnd, if_true] at q
            cases ee : e1 chkI e r1 u with
            | ok z u2 =>
              rw [ee] at q
              dsimp only at q
              cases ec : cLoop bd tT (e1 chkI e) (wipeE rho vs) ys u2 with
              | ok zs u3 => rw [ec] at q; cases q
              | exc x' u3 => exact ih u2 ⟨x', u3, ec⟩
              | bad => rw [ec] at q; cases q
            | exc x' u2 => rw [ee] at q; cases q
            | bad => rw [ee] at q; cases q
      cases ec : cLoop bd tT (e1 chkI e) (wipeE rho vs) items mu1 with
      | ok zs u3 =>
        rw [ec] at h1
        have h2 : (opt (dedD (.lst zs)) u3).wp (QE G rho σ Own m H Q) _ := h1
        obtain ⟨d, e1, e2⟩ := wp_opt h2
        show (opt (dedD (.lst zs)) u3).wp _ _
        rw [e1]
        exact e2
      | exc x' u3 => exact cl _ _ ⟨x', u3, ec⟩
      | bad => rw [ec] at h1; exact h1
    · rintro i k H2 ⟨rfl, hi2, mu2, m2, js, kvs, g2, l2, S2, hDv, ek, hal, hw⟩
      obtain ⟨w1, w2⟩ := wk m2 _ H2 g2 fun p hp => S2.fresh hp
      by_cases hlt : i < items.length
      · have ed : items[i]? = some items[i] := List.getElem?_eq_getElem hlt
        rw [List.drop_eq_getElem_cons hlt] at hw
        unfold cLoop at hw
        obtain ⟨k1, k2⟩ := w1 i _ ed
        refine .inr ⟨k1, fun H' => i + 1 ≤ items.length ∧ ∃ mu' m' js kvs, Le m1 (G.bar Own) H1 m' (G.bar (fun a => Own a ∨ a = D)) H' ∧ Lf m1 H1 m' H' ∧ StR G rho mu' σ H' m' (fun a => Own a ∨ a = D) ∧ H' D = some (.dK kvs) ∧ kvs.map (·.1) = (dedI js).map Sum.inl ∧ js.length ≤ i + 1 ∧
          (cLoop bd tT (e1 chkI e) (wipeE rho vs) (items.drop (i + 1)) mu').wp (fun ys mu2 => (opt (dedD (.lst (js.map Da.int ++ ys))) mu2).wp (QE G rho σ Own m H Q) fun _ _ => False) (fun _ _ => False), fun H' z => ⟨items.length - (i + 1), by omega, rfl, z⟩, fun x H3 y => ?_⟩
        obtain ⟨sm, rx⟩ := k2 x H3 y
        cases eb : bd items[i] (wipeE rho vs) with
        | none => rw [eb] at hw; exact hw.elim
        | some rho3 =>
          rw [eb] at hw
          dsimp only at hw
          have S3 := S2.same sm
          refine ⟨items[i], wipeE rho vs, rho3, mu2, m2, (fun a => Own a ∨ a = D), S3.wipe _, rx, eb, fun σ4 S4 ew => ⟨ew.trans (wipe_idem _ _), ?_⟩⟩
          refine TTx.to S4 (wp_noX (E' := ES G WF rho3 σ4 (fun a => Own a ∨ a = D) m2 H3) (wp_bnd hw)) fun b mu5 H5 m5 h5 g5 S5 => ?_
          have lf3 : Lf m2 H2 m5 H5 := (Lf.of_same sm).trans g5
          have nD : D ∉ m2 := fun z => S2.wd.dis D z (.inr (.inr rfl))
          have S5' := (S2.call lf3 S5.wd)
          have hD5 : H5 D = some (.dK kvs) := lf3.keep D _ hDv (fun _ z => nomatch z) nD id
          cases b with
          | false =>
            have h5' : (cLoop bd tT (e1 chkI e) (wipeE rho vs) (items.drop (i + 1)) mu5).wp _ _ := h5
            exact ⟨hlt, mu5, m5, js, kvs, g2.trans (lf3.le _), l2.trans lf3, S5', hD5, ek, Nat.le_succ_of_le hal, h5'⟩
          | true =>
            simp only [if_true] at h5
            refine TEx.to S5 (chk_inv (wp_noX (E' := ES G WF rho3 σ4 (fun a => Own a ∨ a = D) m5 H5) (wp_bnd h5))) fun z mu6 v H6 m6 h6 g6 S6 r6 => ?_
            obtain ⟨n, rfl, h6⟩ := h6
            refine TEx.to (A := fun z mu => z = .bl true ∧ mu = mu6) S6 ⟨rfl, rfl⟩ fun z7 mu7 v7 H7 m7 h7 g7 S7 r7 => ?_
            obtain ⟨rfl, rfl⟩ := h7
            have lf7 : Lf m2 H2 m7 H7 := (lf3.trans g6).trans g7
            have S7' := (S2.call lf7 S7.wd)
            have hD7 : H7 D = some (.dK kvs) := lf7.keep D _ hDv (fun _ z => nomatch z) nD id
            obtain ⟨S8, le8⟩ := S7'.write (.dK (putK kvs (Sum.inl n) v7)) (.inr rfl) ns
            have ln : kvs.length ≤ js.length := by
              have q := congrArg List.length ek
              rw [List.length_map, List.length_map] at q
              have := dedI_len js
              omega
            cases r6
            refine ⟨kvs, Sum.inl n, rfl, hD7, by omega, hlt, mu7, m7, js ++ [n], putK kvs (Sum.inl n) v7, g2.trans ((lf7.le _).trans le8), ?_, S8, upd_same, by rw [dedI_snoc]; exact putI ek, by rw [List.length_append, List.length_singleton]; omega, ?_⟩
            · refine ⟨(l2.trans lf7).pre, fun a u e n n1 n2 => ?_, fun a e => (l2.trans lf7).dom a (le8.dom a e), fun a z => z.elim⟩
              rw [upd_ne (fun (q : a = D) => by rw [q, hD] at e; cases e)]
              exact (l2.trans lf7).keep a u e n n1 n2
            · refine wp_and (wp_bnd h6) fun ys mu8 h8 => ?_
              rw [← ints_snoc]
              exact h8
      · have ei : i = items.length := Nat.le_antisymm hi2 (Nat.not_lt.mp hlt)
        rw [List.drop_eq_nil_of_le (Nat.not_lt.mp hlt)] at hw
        refine .inl ⟨by rw [ei]; exact w2, D, kvs, rfl, .of hDv, fun p hp => ?_⟩
        have hw' : (opt (dedD (.lst (js.map Da.int ++ []))) mu2).wp (QE G rho σ Own m H Q) fun _ _ => False := hw
        rw [List.append_nil] at hw'
        rw [show dedD (.lst (js.map Da.int)) = some (.lst ((dedI js).map Da.int)) by
          show (intsOf (js.map Da.int)).map _ = _
          rw [intsOf_map]
          rfl] at hw'
        have q : QE G rho σ Own m H Q (.lst ((dedI js).map Da.int)) mu2 := hw'
        have Sf := S2.unbar ns
        have sm := same_upd (o := HO.lst (kvs.map fun kv => kV kv.1)) hp
        have ev : (kvs.map fun kv => kV kv.1) = (dedI js).map V.int := by
          have z := congrArg (List.map kV) ek
          rw [List.map_map, List.map_map] at z
          exact z
        rw [ev] at sm ⊢
        exact q (.ref p) _ m2 ((g1.trans l2).trans (Lf.of_same sm)) (Sf.same sm) (RD.new_lst (ints_rd _) hp (Sf.fresh hp).1 (Sf.fresh hp).2)
  · rw [if_neg hlen] at h1
    exact h1.elim
theorem c_dkeys {p : Pos} {kx tg iter : Expr} {scope : Scope} {own : List (Str × Nat)} {it : EvI} {bd : Da → Ev → Option Ev} {e : EvD} {j : Nat} {p3 : Pos} (hm : X.mg "list" = none) (hN : X.N.Nodup) (hi : PI X tg iter (TIx G W it)) (ok : BlkOk X.N X.env.scope scope own)
    (hg : ∀ (s : Shared) (H : Hp) (C : Addr) (cl : List (Str × Addr)) (fp : List Addr), PG (X.blk s H scope (compEnvC scope cl C X.env) fp) tg (TGx G (own.map (·.2)) bd)) (hk : ∀ (s : Shared) (H : Hp) (C : Addr) (cl : List (Str × Addr)) (fp : List Addr), PE (X.blk s H scope (compEnvC scope cl C X.env) fp) kx (TEx G WF e))
    (hgl : Gl X "list" := by rfl) (hc : X.calm = true := by rfl) (hs : ∀ x, foldedSetIterable iter X.env x = pure x := by intro _; rfl)
    (nb : starEach [.DictComp kx (.Constant (.bool true) j p3) [⟨tg, iter, [], 0⟩] scope pos'] X.env = (false, eval (.DictComp kx (.Constant (.bool true) j p3) [⟨tg, iter, [], 0⟩] scope pos') X.env) :: starEach [] X.env := by rfl) (npl : (backTo pos (starEach [] X.env)).any (·.1) = false := by rfl) :
    PE X (.Call (.Name "list" p) [.DictComp kx (.Constant (.bool true) j p3) [⟨tg, iter, [], 0⟩] scope pos'] [] pos) (TEx G W (eDk it (own.map (·.2)) bd e)) :=
  PEw (pe_callTy (call_listD hc) hgl hm rfl (pa_cons (pe_dc hc hN hi ok hg (fun _ _ _ _ _ => ts_nil) hk (fun _ _ _ _ _ => c_bl) hs) pa_nil nb) (by decide) (by decide) nb npl) fun σ H Q h => dk_le (b := .non) h
/-- f() -/
theorem c_f0 {x : Str} {lv k : Nat} {st : Stmt} {ps : List Str} {fn : Fn} {p : Pos} (F : Df X.prog X.w X.K X.mg X.base k x st ps fn) (hb : BindOk x st ps) (hK : G.K = X.K) (hr : Rm lv X.A) (tk : Takes X W) (hlv : k ≤ lv := by decide) (hg : Gl X x := by rfl) (hdb : (x == ("__debug__" : Str)) = false := by decide) :
    PE X (.Call (.Name x p) [] [] pos) (TEx G W (eC fn aN)) := by
  obtain ⟨fd, F1, F2⟩ := F.ex
  exact c_call0 hK F2 (hr.mono hlv) F.mg F1.kp (F1.bindsN hb) tk hg hdb
end
end Sk

/-! Sk Zc: own errors made: the class calls its base's __init__ with a text, then lays one field. -/
namespace Sk
open PySem PySem.Spec L2
/-- what the text must have of an own error class at C over the built-in B -/
structure XC (K : PySem.W.Frag) (C : Addr) (B newId initId : String) (bmB : List Value) : Prop where
  base : ExcBaseFacts B newId initId bmB
  store : StoreFacts B bmB "object.__setattr__" "object"
  ini : PySem.W.excInitIn K C bmB newId = true
  ovr : PySem.W.excOver K C bmB = true
  hd : PySem.W.hasDictIn K C = true
  sa : PySem.W.findIn K (.ref C) "__setattr__" = some (some (.builtin "object.__setattr__"))
  exC : PySem.W.subIn K (.ref C) (.type "BaseException") = some true
  tyC : PySem.W.typeIn K (.ref C) = some (.type "type")
  kC : PySem.W.keepIn K (.ref C) = true
section
variable {X : Cx} {pins : List (Addr × Obj)} {σ : L2.St} {H : Hp} {s : Shared} {a C dx : Addr} {f : Str} {y : V} {u : Value} {fs : List (Str × V)} {E : Value → Shared → Prop} {A : Around} {B newId initId : String} {bmB : List Value}
/-- self.f = y, the first field -/
theorem xset (T : XC X.K C B newId initId bmB) (I : Inv X pins σ H s) (e : H a = some (exo a C none)) (ht : PySem.W.takerIn X.K C f = some none) (ry : RelV y u) {Q : Unit → Shared → Prop}
    (h : ∀ dx s', H dx = none → dx ≠ a → Inv X pins σ (upd (upd H dx (exd dx [(f, y)])) a (exo a C (some dx))) s' → Q () s') : wpAny (model X.prog X.w) A (setAttr (.ref a) f u) Q E s := by
  obtain ⟨t1, ho⟩ := exo_at I.hok e
  obtain ⟨hp, g, d, t, os⟩ := s
  have J : PySem.W.InstAt hp a { cls := .ref C, dict := none, data := .fields #[.ref t1, .none, .none, .none, .bool false, .none] } C none := ⟨ho, rfl, rfl, trivial⟩
  refine PySem.W.set_plain I.kIn (od := none) J T.sa (PySem.W.osa_openX T.store I.kIn J T.ovr ht fun b => ?_)
  obtain ⟨cd, hc, hd'⟩ := PySem.W.any_some T.hd
  have las : a < hp.objs.size := Heap.lt_size ho
  refine wpAny_bind (wpAny_pure (wpAny_bind (PySem.W.instanceDict_exc (s := ⟨hp, g, d, t + 1, os⟩) ho (PySem.W.looks_clsIn I.kIn hc) hd' ?_)))
  show wpAny _ _ (Builtin.ObjectAttr.storeInDict hp.objs.size (.str f t) f u) _ _ _
  have old : ∀ {b : Addr} {o : Obj}, b ≠ a → hp.get? b = some o → ((hp.push (PySem.W.dictOf [] 0)).update a fun o => { o with dict := some hp.objs.size }).get? b = some o := fun {b o} hb q =>
    (Heap.get?_update_ne _ _ _ _ hb).trans (Heap.get?_push_of_some _ q)
  refine PySem.HandSPX.store_in_new ⟨_, #[], _, (Heap.get?_update_ne _ _ _ _ (Nat.ne_of_gt las)).trans (Heap.get?_push_at rfl rfl), rfl, fun e he => absurd he (by simp), fun _ => rfl⟩ fun h' tk' hn sb => ?_
  have hax : a ≠ hp.objs.size := Nat.ne_of_lt las
  have hx : h'.get? a = some ({ cls := .ref C, dict := some hp.objs.size, data := .fields #[.ref t1, .none, .none, .none, .bool false, .none] } : Obj) := (sb.2 a hax).trans (Heap.get?_update_self _ (Heap.get?_push_of_some _ ho) rfl)
  have k : ∀ b o, b ≠ a → hp.get? b = some o → h'.get? b = some o := fun b o hb q => (sb.2 b (Nat.ne_of_lt (Heap.lt_size q))).trans (old hb q)
  have hnd : H hp.objs.size = none := I.hok.fresh (Nat.le_refl _)
  have na : ∀ {b : Addr}, H b = none → b ≠ a := fun {b} n z => by rw [z, e] at n; cases n
  have nd : ∀ {b : Addr} {o : Obj}, hp.get? b = some o → b ≠ hp.objs.size := fun {b o} q => Nat.ne_of_lt (Heap.lt_size q)
  have two : ∀ {b : Addr} {o : HO}, H b = some o → exo a C none ≠ o → (upd (upd H hp.objs.size (exd hp.objs.size [(f, y)])) a (exo a C (some hp.objs.size))) b = some o := fun {b o} q ne => by
    rw [upd_ne (at_ne e q ne), upd_ne (ne_of_none q hnd)]; exact q
  have un : Un X.fs [] H (upd (upd H hp.objs.size (exd hp.objs.size [(f, y)])) a (exo a C (some hp.objs.size))) hp h' :=
    ⟨fun b o q n _ _ => k b o (na n) q, fun b o q n _ _ => ⟨o.slots, k b o (na n) q⟩, fun b o q n _ => by rw [upd_ne (na n), upd_ne (nd q)]; exact n,
      fun b o q _ => by
        by_cases hb : b = a
        · exact ⟨_, hb ▸ hx⟩
        · exact ⟨o, k b o hb q⟩, fun b xs q => two q exo_tup, fun b o v q => two q exo_frz, fun b ps q => ⟨#[], by rw [two q exo_tbl]; simp⟩⟩
  refine h hp.objs.size _ hnd hax.symm (I.un (t' := tk') un fun b o q => ?_)
  by_cases hb : b = a
  · subst hb; rw [upd_same] at q; cases q; exact exo_ok hx
  · rw [upd_ne hb] at q
    by_cases hd : b = hp.objs.size
    · subst hd; rw [upd_same] at q; cases q; exact exd_ok hn (relO_put (fs := []) ry fun g => True.intro)
    · rw [upd_ne hd] at q
      refine (I.hok b o q).stay (fun c v hc z => k c v ?_ z) (fun c hc => two hc exo_own) fun c xs hc => two hc exo_tup
      rcases hc with hc | hc
      · rw [hc]; exact hb
      · exact at_ne e hc exo_own
/-- B.__init__(self, ..) -/
theorem xinit {us : List Value} {Q : Value → Shared → Prop} (T : XC X.K C B newId initId bmB) (I : Inv X pins σ H s) (e : H a = some (exo a C none)) (hl : us.length ≤ sizeLine) (h : ∀ s', Inv X pins σ H s' → Q .none s') :
    wpAny (model X.prog X.w) A (call (.builtin initId) (.ref a :: us)) Q E s := by
  obtain ⟨t1, ho⟩ := exo_at I.hok e
  obtain ⟨nm, N, qn, bs, bm, hdct, sn, sub, ab, col, dd, k0, k1, k2, k3, k5, hC, hT⟩ := PySem.W.excInit_of I.kIn T.ini
  obtain ⟨hp, g, d, t, os⟩ := s
  refine wpAny_call (PySem.HandSPX.init_base T.base hT hC ho hl fun h' t2 k hx => ?_)
  have J := I.write (t' := t) (x := a) (e := a) (o := exo a C none) (by rw [e]; exact True.intro) (.inl rfl) k ⟨_, hx⟩ (exo_ok hx)
  rw [show upd H a (exo a C none) = H from funext fun b => by
    by_cases hb : b = a
    · rw [hb, upd_same, e]
    · rw [upd_ne hb]] at J
  exact h _ J
end
end Sk

/-! Sk Zd: own errors' __init__ as defs; raise. -/
namespace Sk
open PySem PySem.Spec L2
/-- v.__init__ is the built-in id -/
def GetsB (X : Cx) (v : Value) (id : String) : Prop := ∀ (pl : Sem Bool) (pins : List (Addr × Obj)) (σ : L2.St) (H : Hp) (s : Shared) (Q : Value × List Value → Shared → Prop) (E : Value → Shared → Prop), Inv X pins σ H s →
  (∀ s', Inv X pins σ H s' → Q (.builtin id, []) s') → wpAny (model X.prog X.w) X.A (getMethod v "__init__" pl) Q E s
theorem getsB_cls {X : Cx} {C : Addr} {id : String} {mc : Value} (hr : PySem.W.readsIn X.K C mc = true) (hg : PySem.W.specialIn X.K (.ref C) "__getattribute__" = some (some (.builtin "type.__getattribute__"))) (hf : PySem.W.findCls X.K (.ref C) mc "__init__" = some (.val (.builtin id))) (hh : PySem.W.handedIn (.builtin id) = true) : GetsB X (.ref C) id :=
  fun pl pins σ H s Q E I h => PySem.W.method_cls I.kIn hg (PySem.W.cls_value I.kIn hr hf hh (h _ (I.tok _)))
theorem getsB_typ {X : Cx} {T id : String} (ht : typeOf (.type T) = pure (.type "type")) (hs : Manifest.isStub T = false) (hf : PySem.W.findCls X.K (.type T) (.type "type") "__init__" = some (.val (.builtin id))) (hh : PySem.W.handedIn (.builtin id) = true) : GetsB X (.type T) id :=
  fun pl pins σ H s Q E I h => by
    obtain ⟨m, fr⟩ := I.fr
    exact PySem.W.method_type fr I.ok.mod.kin ht hs hf hh (h _ (I.tok _))
/-- B.__init__(self, 'text') -/
def tXi (K : PySem.W.Frag) (id : String) (ta : TA) : TE := fun σ H Q => ta σ H fun vs H1 => ∃ (a C : Addr) (B newId : String) (bmB : List Value) (ws : List V), vs = .ref a :: ws ∧ ws.length ≤ 1000 ∧ XC K C B newId id bmB ∧ H1 a = some (exo a C none) ∧ Q .non H1
/-- self.f = e, the first field -/
def tXs (K : PySem.W.Frag) (f : Str) (to te : TE) : TS := fun D σ H => te σ H fun y H1 => to σ H1 fun x H2 => ∃ (a C : Addr) (B newId id : String) (bmB : List Value), x = .ref a ∧ XC K C B newId id bmB ∧ PySem.W.takerIn K C f = some none ∧ H2 a = some (exo a C none) ∧
  ∀ dx, H2 dx = none → dx ≠ a → D.nx σ (upd (upd H2 dx (exd dx [(f, y)])) a (exo a C (some dx)))
section
variable {X : Cx} {x f : Str} {v : Value} {id : String} {o e : Expr} {es : List Expr} {ta : TA} {to te : TE} {p p' p1 p2 pos : Pos}
theorem pe_xinit {pl : Sem Bool} (hx : Names X x v) (hg : GetsB X v id) (ha : PA X (e :: es) ta)
    (hc : eval (.Call (.Attribute (.Name x p1) "__init__" p2) (e :: es) [] pos) X.env = (do
      let ov ← eval (.Name x p1) X.env
      standAt p2.atName
      let (f, first) ← holding [ov] (getMethod ov "__init__" pl)
      callWith pos f first (backTo pos (starEach (e :: es) X.env)) (backToKw pos (keywordEach [] X.env))) := by rfl)
    (he : starEach (e :: es) X.env = (false, eval e X.env) :: starEach es X.env := by rfl) (hpl : (backTo pos (starEach es X.env)).any (·.1) = false := by rfl) :
    PE X (.Call (.Attribute (.Name x p1) "__init__" p2) (e :: es) [] pos) (tXi X.K id ta) := by
  refine ⟨fun pins s σ H Q I h => ?_⟩
  have rd : ∀ {Q' : Value → Shared → Prop}, Q' v s → wpAny (model X.prog X.w) X.A (eval (.Name x p1) X.env) Q' X.xe s := fun {Q'} q => by
    obtain ⟨hgl, hdb, hm | ⟨hm, hv, hnn⟩⟩ := hx
    · exact ld_glob I hgl hm q hdb
    · exact ld_blt I hgl hm hv q hnn hdb
  refine PySem.W.methodCall_KW (rd ?_) hc
  refine hg _ pins σ H s _ _ I fun s0 I0 => ?_
  show wpAny _ _ (callWith pos (Value.builtin id) [] (backTo pos (starEach (e :: es) X.env)) []) _ _ _
  refine PyProof.Rows.callWith_method1 (thn (ha.run pos pins _ σ H _ I0 h) fun us s1 ⟨vs, H1, I1, r1, a, C, B, newId, bmB, ws, ev, hl, T, ea, q⟩ => ?_) he hpl
  subst ev
  cases r1 with
  | @cons _ u0 _ ur ra rw' =>
    obtain rfl : u0 = Value.ref a := ra
    have hlen : ur.length ≤ sizeLine := by
      rw [← Paired.length rw', sizeLine_eq]
      omega
    exact xinit T I1 ea hlen fun s' J => ⟨.non, H1, J, rfl, q⟩
theorem ps_xset (ho : PE X o to) (he : PE X e te) (hs : swapsWith e (some (.Attribute o f p')) pos.line X.env = pure false := by rfl) : PS X (.Assign [.Attribute o f p'] e pos) (tXs X.K f to te) := by
  refine ⟨fun pins s σ H D I h => ?_⟩
  refine plainObj_wpAny_Assign_Attribute (thn (he.run pins s σ H _ I h) fun v s1 ⟨y, H1, I1, r1, q1⟩ => thn (ho.run pins s1 σ H1 _ I1 q1) fun u s2 ⟨x, H2, I2, r2, a, C, B, newId, id, bmB, ex, T, ht, ea, q⟩ => ?_) hs
  subst ex
  obtain rfl : u = Value.ref a := r2
  exact xset T I2 ea ht r1 fun dx s' n ne J => ⟨σ, _, J, q dx n ne⟩
end
/-! ### a def that keeps any promise -/
section
variable {P : Program} {w : World} {K : PySem.W.Frag} {mg : Str → Option Value} {base : Heap} {k : Nat} {f : Addr} {fd : FuncData} {ps N : List Str} {x qual : Str} {params : Arguments} {body : List Stmt} {scope : Scope} {dvs : List V} {kws : List (Str × V)} {sp : Sp}
theorem fnG_any {t : TS} (F : FunD K x qual params body scope dvs kws f fd) (S : FnScope N ps scope) (len : ∀ vs H Q E, sp vs H Q E → vs.length = ps.length)
    (hb : ∀ (cdv : Value) (A : Around) (out : List Env) (s : Shared) (H : Hp) (E : XK), Rm k (A.deeper (PyProof.Rows.envOfC qual scope s.heap.objs.size f cdv)) → PSs (cxOf (CXx P w) P w K mg base N qual scope f cdv A out s H E) body t)
    (ht : ∀ vs H Q E, sp vs H Q E → t { nx := fun _ H' => Q .non H', rt := Q } (L2.start N vs) H) : FnG P w K mg base (k + 1) f fd ps sp := by
  obtain ⟨oc, od, dV, kV, doc, pm, an, cdv, ct, osl, rfl, lk, hcd, _, _⟩ := F.ex
  refine ⟨len, fun A out s H args us vs Q E hr e0 hbt rv hsp => ?_⟩
  have hl := len vs H Q E hsp
  have low : ∀ b o, base.get? b = some o → s.heap.get? b = some o := fun b o e => (e0.bs b o e).1
  have inK : K.In s.heap := e0.mod.kin.keeps low
  have kinds : ∀ y ∈ ps.zip us, scope.names.lookup y.1 = some .local ∨ (scope.names.lookup y.1 = some .cell ∧ ((cellsFrom (s.heap.objs.size + 1) scope.names []).lookup y.1).isSome = true) := fun y hy =>
    (S.par y.1 (List.of_mem_zip hy).1).elim .inl fun q => .inr ⟨q, PySem.W.cellsFrom_some _ _ _ (.inl q)⟩
  refine codeAny_call_function hr.r.depth (inK _ _ lk) rfl S.co S.gen rfl (PySem.W.codeRec_of inK hcd) (hbt _ _ _ _ ?_)
  refine wpAny_newFunctionEnv_cells S.kind kinds fun env he s1 inC => ?_
  subst he
  refine ⟨(e0.mod.nolimit.keeps low).keeps inC.toInCall.keep, codeAny_func ?_⟩
  have I := inv_start (CX := CXx P w) (E := E) (cd := cdv) S hr.r.hd e0 hl rv inC
  refine wpAny_mono ((hb cdv A out s H E (hr.deeper _)).run [] s1 (L2.start N vs) H { nx := fun _ H' => Q .non H', rt := Q } I (ht vs H Q E hsp)) (fun fl s' hs => ?_) fun _ _ hs => hs
  cases fl with
  | ret u =>
    obtain ⟨v, σ', H', J, rv', q⟩ := hs
    exact ⟨v, H', J.os, J.bare, J.base, J.hok, rv', q⟩
  | next =>
    obtain ⟨σ', H', J, q⟩ := hs
    exact ⟨V.non, H', J.os, J.bare, J.base, J.hok, rfl, q⟩
  | brk => exact hs.elim fun _ h => h.elim fun _ h => h.2.elim
  | cont => exact hs.elim fun _ h => h.elim fun _ h => h.2.elim
end
/-- what __init__(self, y) of the error class at C does: one field -/
def spX1 (K : PySem.W.Frag) (C : Addr) (f : Str) : Sp := fun vs H Q _ => ∃ (a : Addr) (v : V), vs = [.ref a, v] ∧ H a = some (exo a C none) ∧ ∀ d, H d = none → d ≠ a → Q .non (upd (upd H d (exd d [(f, v)])) a (exo a C (some d)))
section
variable {X : Cx} {CX : CXT} {x f : Str} {C fI : Addr} {k : Nat} {fd : FuncData} {ps : List Str} {e : Expr} {es : List Expr} {ta : TA} {p pos : Pos} {B newId id : String} {bmB : List Value}
/-- C(e) -/
theorem pmk_x1 (T : XC X.K C B newId id bmB) (iC : PySem.W.findIn X.K (.ref C) "__init__" = some (some (.ref fI))) (tI : PySem.W.typeIn X.K (.ref fI) = some (.type "function")) (F : FnG X.prog X.w X.K X.mg X.base k fI fd ps (spX1 X.K C f)) (hr : Rm (k + 1) X.A) (hb : Binds X.K fd ps [])
    (hg : Gl X x) (hm : X.mg x = some (.ref C)) (ha : PA X (e :: es) ta) (hdb : (x == ("__debug__" : Str)) = false := by decide) (he : starEach (e :: es) X.env = (false, eval e X.env) :: starEach es X.env := by rfl) (hpl : (backTo pos (starEach es X.env)).any (·.1) = false := by rfl) :
    PMk X (.Call (.Name x p) (e :: es) [] pos) (fun σ H Q => ta σ H fun vs H1 => ∃ v, vs = [v] ∧ ∀ d, H1 d = none → Q (.ref C) (some d) (upd H1 d (.xd [(f, v)]))) := by
  intro pins s σ H Q I h
  refine wpAny_Call_Name_kw (ld_glob I hg hm ?_ hdb)
  refine PySem.W.callWith_K (h₀ := X.base) I.ok.mod.kin T.kC (thn (ha.run pos pins s σ H _ I h) fun us s1 ⟨vs, H1, I1, r1, v, ev, q1⟩ => ⟨I1.kIn, ?_⟩) he hpl
  subst ev
  show wpAny _ _ (call (.ref C) us) _ _ _
  obtain ⟨nm, N, qn, bs, bm, hdct, sn, sub, ab, col, dd, k0, k1, k2, k3, k5, hC, hT⟩ := PySem.W.excInit_of I1.kIn T.ini
  obtain ⟨hp, g, dr, tk, os⟩ := s1
  have hsz : hp.objs.size ≤ hp.objs.size + 1 := Nat.le_succ _
  generalize ea : hp.objs.size + 1 = a at *
  have hn : H1 a = none := I1.hok.fresh hsz
  have kk : ∀ b o, hp.get? b = some o → ((hp.push (PySem.W.kdv_tup us)).push (PySem.HandSPX.excO C hp.objs.size)).get? b = some o := fun b o e => Heap.get?_push_of_some _ (Heap.get?_push_of_some _ e)
  have hget : ((hp.push (PySem.W.kdv_tup us)).push (PySem.HandSPX.excO C hp.objs.size)).get? a = some (PySem.HandSPX.excO C hp.objs.size) := by subst ea; heap_get
  have I2 : Inv X pins σ (upd H1 a (exo a C none)) ⟨(hp.push (PySem.W.kdv_tup us)).push (PySem.HandSPX.excO C hp.objs.size), g, dr, tk, os⟩ := I1.laid (t' := tk) (a := a) (o := exo a C none) kk hsz (exo_ok hget)
  have r2 : Vals (V.ref a :: [v]) (Value.ref a :: us) := .cons rfl r1
  have hq : spX1 X.K C f (V.ref a :: [v]) (upd H1 a (exo a C none)) (fun u H2 => u = .non ∧ ∃ (d : Addr), H2 a = some (exo a C (some d)) ∧ H2 d = some (exd d [(f, v)]) ∧ H1 d = none ∧ Q (.ref C) (some d) (upd (del H2 a) d (.xd [(f, v)]))) (fun _ _ _ => False) := by
    refine ⟨a, v, rfl, upd_same, fun d hd ne => ⟨rfl, d, upd_same, by rw [upd_ne ne, upd_same], by rw [upd_ne ne] at hd; exact hd, ?_⟩⟩
    rw [upd_ne ne] at hd
    rw [show upd (del (upd (upd (upd H1 a (exo a C none)) d (exd d [(f, v)])) a (exo a C (some d))) a) d (.xd [(f, v)]) = upd H1 d (.xd [(f, v)]) from funext fun b => by
      by_cases h1 : b = d
      · rw [h1, upd_same, upd_same]
      · rw [upd_ne h1, upd_ne h1]
        by_cases h2 : b = a
        · rw [h2, del_same, hn]
        · rw [del_ne h2, upd_ne h2, upd_ne h1, upd_ne h2]]
    exact q1 d hd
  have hl : (Value.ref a :: us ++ []).length = ps.length := by
    have e1 := r2.length
    rw [F.len _ _ _ _ hq] at e1
    rw [List.append_nil]
    exact e1.symm
  have b2 := hb ⟨(hp.push (PySem.W.kdv_tup us)).push (PySem.HandSPX.excO C hp.objs.size), g, dr, tk, os⟩ (Value.ref a :: us) I2.kIn hl
  rw [List.append_nil] at b2
  have hus : us.length ≤ sizeLine := by
    rw [← Paired.length r1]
    show 1 ≤ sizeLine
    rw [sizeLine_eq]
    decide
  refine wpAny_call (PySem.HandSPX.call_own T.base hT hC (PySem.W.looks_findIn I1.kIn iC) (fun self => PySem.W.bind_fn I1.kIn self tI) hus ?_)
  rw [ea]
  refine codeAny_mono (F.run _ X.stack _ _ ⟨Value.ref a :: us, []⟩ (Value.ref a :: us) _ _ (fun _ _ _ => False) ⟨hr.r.make C us [], hr.gd⟩ (I2.env0.make C us []) b2 r2 hq) fun r s' hq' => ?_
  cases r with
  | error er =>
    obtain ⟨_, _, _, _, _, _, _, _, _, _, _, _, z⟩ := hq'
    exact z.elim
  | ok fl =>
    cases fl with
    | ret u =>
      obtain ⟨v2, H2, os2, bare2, un2, hok2, rv, ev, d, ea2, ed, hd1, q2⟩ := hq'
      subst ev
      obtain ⟨h2, g2, d2, t2, os'⟩ := s'
      subst ea
      exact ⟨rv, mk_end (raises_own T.exC T.tyC) I1 hsz kk un2 hok2 os2 bare2 ea2 ed hd1 q2⟩
    | next => exact False.elim hq'
    | brk => exact False.elim hq'
    | cont => exact False.elim hq'
end
end Sk

/-! Sk Ze: instances of own classes: fields, methods, properties, making. -/
namespace Sk
open PySem PySem.Spec L2
abbrev RF (m : List Addr) (B : Addr → Prop) (H : Hp) : List (Str × Da) → List (Str × V) → Prop := Paired (fun (p : Str × Da) (q : Str × V) => q.1 = p.1 ∧ RD m B H p.2 q.2)
section
variable {m : List Addr} {B : Addr → Prop} {H : Hp} {f : Str}
theorem look_cons {g : Str} {x : V} {r : List (Str × V)} : ((g, x) :: r).lookup f = if f = g then some x else r.lookup f := by
  by_cases h : f = g
  · subst h
    simp [List.lookup]
  · rw [if_neg h]
    simp [List.lookup, show (f == g) = false from beq_eq_false_iff_ne.mpr h]
theorem RF.look : ∀ {fs : List (Str × Da)} {us : List (Str × V)} {d : Da}, RF m B H fs us → dLook f fs = some d → ∃ v, us.lookup f = some v ∧ RD m B H d v
  | _, _, _, .nil, e => by cases e
  | _, _, d, .cons (a := p) (b := (g, v)) h t, e => by
    obtain ⟨rfl, h2⟩ := h
    unfold dLook at e
    rw [look_cons]
    by_cases hk : p.1 = f
    · rw [if_pos hk] at e
      cases e
      exact ⟨v, if_pos hk.symm, h2⟩
    · rw [if_neg hk] at e
      rw [if_neg (fun z => hk z.symm)]
      exact RF.look t e
theorem RF.none : ∀ {fs : List (Str × Da)} {us : List (Str × V)}, RF m B H fs us → dLook f fs = none → us.lookup f = none
  | _, _, .nil, _ => rfl
  | _, _, .cons (a := p) (b := (g, v)) h t, e => by
    obtain ⟨rfl, h2⟩ := h
    unfold dLook at e
    rw [look_cons]
    by_cases hk : p.1 = f
    · rw [if_pos hk] at e
      cases e
    · rw [if_neg hk] at e
      rw [if_neg (fun z => hk z.symm)]
      exact RF.none t e
theorem RF.put {d : Da} {v : V} (r : RD m B H d v) : ∀ {fs : List (Str × Da)} {us : List (Str × V)}, RF m B H fs us → RF m B H (dPut f d fs) (putF f v us)
  | _, _, .nil => .cons ⟨rfl, r⟩ .nil
  | _, _, .cons (a := p) (b := (g, u)) h t => by
    obtain ⟨rfl, h2⟩ := h
    unfold dPut putF
    by_cases hk : p.1 = f
    · rw [if_pos hk, if_pos hk]
      exact .cons ⟨rfl, r⟩ t
    · rw [if_neg hk, if_neg hk]
      exact .cons ⟨rfl, h2⟩ (RF.put r t)
end
/-- the numbered instance of the class c -/
def insAt (c : Str) (mu : Mem) : Da → Option (Nat × List (Str × Da))
  | .ref n => match mu[n]? with
    | some (.ins c' fs) => if c' = c then some (n, fs) else none
    | _ => none
  | _ => none
theorem ins_inv {c : Str} {mu : Mem} {x : Da} {n : Nat} {fs : List (Str × Da)} (h : insAt c mu x = some (n, fs)) : x = .ref n ∧ mu[n]? = some (.ins c fs) := by
  cases x with
  | ref k =>
    have h : (match mu[k]? with
      | some (.ins c' fs) => if c' = c then some (k, fs) else none
      | _ => none) = some (n, fs) := h
    cases e : mu[k]? with
    | none => rw [e] at h; cases h
    | some o =>
      rw [e] at h
      cases o with
      | ins c' gs =>
        obtain ⟨e1, e2⟩ := ite_inv (show (if c' = c then some (k, gs) else none) = some (n, fs) from h)
        cases e2
        exact ⟨rfl, by rw [e, e1]⟩
      | _ => cases h
  | _ => cases h
/-- e.f -/
def eAt (c f : Str) (a : EvD) : EvD := fun rho mu => bnd (a rho mu) fun x mu1 => opt ((insAt c mu1 x).bind fun p => dLook f p.2) mu1
/-- e.f = v -/
def sAt (c f : Str) (a v : EvD) : StD := fun rho mu => sUse (v rho mu) rho fun d mu1 => sUse (a rho mu1) rho fun x mu2 => match insAt c mu2 x with
  | some p => if p.2.length < 1000 then .nx rho (mu2.set p.1 (.ins c (dPut f d p.2))) else .bad
  | none => .bad
/-- o.m(..) -/
def eMc (c m : Str) (fn : Fn) (dfl : List Da) (o : EvD) (r : Ev → Mem → Out (List Da)) : EvD := fun rho mu => bnd (o rho mu) fun x mu1 => match insAt c mu1 x with
  | some p => if (dLook m p.2).isNone = true then bnd (r rho mu1) fun xs mu2 => fn (x :: (xs ++ dfl)) mu2 else .bad
  | none => .bad
/-- o.p, a property -/
def ePr (c : Str) (fn : Fn) (o : EvD) : EvD := fun rho mu => bnd (o rho mu) fun x mu1 => match insAt c mu1 x with
  | some _ => noX (fn [x] mu1)
  | none => .bad
/-- c(..) -/
def eMk (c : Str) (fn : Fn) (dfl : List Da) (r : Ev → Mem → Out (List Da)) : EvD := fun rho mu => bnd (r rho mu) fun xs mu1 => bnd (fn (.ref mu1.length :: (xs ++ dfl)) (mu1 ++ [.ins c []])) fun d mu2 => match d with
  | .non => .ok (.ref mu1.length) mu2
  | _ => .bad
section
variable {X : Cx} {G : Fr} {W : WX} {c f mn : Str} {a e o : Expr} {es : List Expr} {da db : EvD} {p pos pos' apos : Pos}
theorem StR.ins {rho : Ev} {mu : Mem} {σ : L2.St} {H : Hp} {m : List Addr} {Own : Addr → Prop} (S : StR G rho mu σ H m Own) {x : Da} {v : V} {n : Nat} {fs : List (Str × Da)} (h : insAt c mu x = some (n, fs)) (r : RD m (G.bar Own) H x v) :
    ∃ ad dx us, v = .ref ad ∧ x = .ref n ∧ m[n]? = some ad ∧ H ad = some (.ins (He.ga G.K c) dx us) ∧ RF m (G.bar Own) H fs us := by
  obtain ⟨rfl, eo⟩ := ins_inv h
  cases r with
  | ref hn =>
    obtain ⟨dx, us, e, p⟩ := S.num hn eo
    exact ⟨_, dx, us, rfl, rfl, hn, e, p⟩
theorem c_at (hK : G.K = X.K) (hc : Cls X.K (He.ga X.K c)) (hn : NoAttr X.K (He.ga X.K c) f) (ha : PE X a (TEx G W da)) (hb : attributeBase a f X.env (eval a X.env) = eval a X.env := by rfl) : PE X (.Attribute a f pos) (TEx G W (eAt c f da)) := by
  refine PEw (pe_fld ha hb) fun σ H Q h => ?_
  obtain ⟨rho, mu, m, Own, S, h⟩ := h.un
  refine TEx.to S (wp_bnd h) fun x mu1 v H1 m1 h1 g1 S1 r1 => ?_
  obtain ⟨d, ed, q⟩ := wp_opt h1
  obtain ⟨⟨n, fs⟩, ei, el⟩ := Option.bind_eq_some_iff.mp ed
  obtain ⟨ad, dx, us, rfl, rfl, hn1, e, p⟩ := S1.ins ei r1
  obtain ⟨v, ev, rv⟩ := RF.look p el
  rw [hK] at e
  exact ⟨ad, _, dx, us, v, rfl, e, hc, hn, ev, q v H1 m1 g1 S1 rv⟩
theorem s_at (hK : G.K = X.K) (hc : Cls X.K (He.ga X.K c)) (hn : NoAttr X.K (He.ga X.K c) f) (ha : PE X a (TEx G W da)) (he : PE X e (TEx G W db)) (hs : swapsWith e (some (.Attribute a f pos')) pos.line X.env = pure false := by rfl) : PS X (.Assign [.Attribute a f pos'] e pos) (TSx G W (sAt c f da db)) := by
  refine PSw (ps_fld ha he hs) fun D σ H ⟨rho, mu, m, Own, S, h⟩ => ?_
  refine TEx.to S (use_wp (σ := σ) h) fun z mu1 v H1 m1 h1 g1 S1 r1 => TEx.to S1 (use_wp (σ := σ) (SOk.step (g1.le (G.bar Own)) h1)) fun x mu2 u H2 m2 h2 g2 S2 r2 => ?_
  cases ei : insAt c mu2 x with
  | none => rw [ei] at h2; exact h2.elim
  | some q =>
    obtain ⟨n, fs⟩ := q
    rw [ei] at h2
    dsimp only at h2
    obtain ⟨ad, dx, us, rfl, rfl, hn1, e, p⟩ := S2.ins ei r2
    by_cases hl : fs.length < 1000
    · rw [if_pos hl] at h2
      obtain ⟨S', g⟩ := S2.numset (o := .ins (He.ga G.K c) dx (putF f v us)) (ob := .ins c (dPut f z fs)) hn1 fun m' B' le => ⟨dx, _, upd_same, RF.put ((r1.mono (g2.le _)).mono le) (paired_imp (fun _ _ ⟨x, y⟩ => ⟨x, y.mono le⟩) p)⟩
      rw [hK] at e S' g
      exact ⟨ad, _, dx, us, rfl, e, hc, hn, by rw [← paired_len p]; exact hl, h2 σ _ m2 Own (Lf.le (g2.trans g) _) S'⟩
    · rw [if_neg hl] at h2
      exact h2.elim
end
/-! ### calls of methods -/
section
variable {X : Cx} {G : Fr} {W : WX} {k lv : Nat} {c mn x : Str} {C f : Addr} {fd : FuncData} {ps : List Str} {sp : Sp} {fn : Fn} {e o : Expr} {es : List Expr} {dv : EvD} {r : Ev → Mem → Out (List Da)} {ta : TE} {t : TA} {p pos apos : Pos} {dvs : List V} {ds : List Value} {dfl : List Da} {E : L2.St → XK}
def tMcG (C : Addr) (mn : Str) (sp : Sp) (dvs : List V) (E : L2.St → XK) (ta : TE) (t : TA) : TE := fun σ H Q => ta σ H fun x H1 => ∃ a dx fs, x = .ref a ∧ H1 a = some (.ins C dx fs) ∧ fs.lookup mn = none ∧ t σ H1 fun vs H2 => sp (.ref a :: (vs ++ dvs)) H2 Q (E σ)
theorem pe_mcG {pl : Sem Bool} (he : PE X o ta) (c : Cls X.K C) (hm : Meth X.K C mn f) (F : FnG X.prog X.w X.K X.mg X.base k f fd ps sp) (hr : Rm k X.A) (hb : Binds X.K fd ps ds) (hd : Vals dvs ds) (hx : ∀ σ, PassesAt (CXx X.prog X.w) X σ (E σ)) (ha : PA X (e :: es) t)
    (hst : starEach (e :: es) X.env = (false, eval e X.env) :: starEach es X.env) (hpl : (backTo pos (starEach es X.env)).any (·.1) = false)
    (ht : eval (.Call (.Attribute o mn apos) (e :: es) [] pos) X.env = (do
      let ov ← eval o X.env
      standAt apos.atName
      let (f, first) ← holding [ov] (getMethod ov mn pl)
      callWith pos f first (backTo pos (starEach (e :: es) X.env)) (backToKw pos (keywordEach [] X.env)))) :
    PE X (.Call (.Attribute o mn apos) (e :: es) [] pos) (tMcG C mn sp dvs E ta t) := by
  refine ⟨fun pins s σ H Q I h => PySem.W.methodCall_KW (pl := pl) (thn (he.run pins s σ H _ I h) fun u s1 ⟨x, H1, I1, rx, a, dx, fs, ex, ea, l, q⟩ => ?_) ht⟩
  subst ex
  obtain rfl : u = Value.ref a := rx
  refine getmeth_ok I1 ea c hm l (PySem.W.callWith_K (first := [.ref a]) (h₀ := X.base) I.ok.mod.kin hm.kp (thn (ha.run pos pins s1 σ H1 _ I1 q) fun us s2 ⟨vs, H2, I2, r, q2⟩ => ⟨I2.kIn, ?_⟩) hst hpl)
  exact runG' (us := .ref a :: us) (vs := .ref a :: vs) F hr hb hd (hx σ) I2 (.cons rfl r) q2
theorem pe_mcG0 {pl : Sem Bool} (he : PE X o ta) (c : Cls X.K C) (hm : Meth X.K C mn f) (F : FnG X.prog X.w X.K X.mg X.base k f fd ps sp) (hr : Rm k X.A) (hb : Binds X.K fd ps ds) (hd : Vals dvs ds) (hx : ∀ σ, PassesAt (CXx X.prog X.w) X σ (E σ))
    (ht : eval (.Call (.Attribute o mn apos) [] [] pos) X.env = (do
      let ov ← eval o X.env
      standAt apos.atName
      let (f, first) ← holding [ov] (getMethod ov mn pl)
      callWith pos f first (backTo pos (starEach [] X.env)) (backToKw pos (keywordEach [] X.env)))) :
    PE X (.Call (.Attribute o mn apos) [] [] pos) (tMcG C mn sp dvs E ta tNil) := by
  refine ⟨fun pins s σ H Q I h => PySem.W.methodCall_KW (pl := pl) (thn (he.run pins s σ H _ I h) fun u s1 ⟨x, H1, I1, rx, a, dx, fs, ex, ea, l, q⟩ => ?_) ht⟩
  subst ex
  obtain rfl : u = Value.ref a := rx
  exact getmeth_ok I1 ea c hm l (PySem.W.callWith_K0 (first := [.ref a]) I1.kIn hm.kp (runG' (us := [.ref a]) (vs := [.ref a]) F hr hb hd (hx σ) I1 (.cons rfl .nil) q))
theorem mc_le (hK : G.K = X.K) (hd : ∀ m B H, RDs m B H dfl dvs) {σ : L2.St} {H : Hp} {Q : VK} (h : TEx G W (eMc c mn fn dfl dv r) σ H Q) : tMcG (He.ga X.K c) mn (spOf X.K fn) dvs (fun σ c d H' => W c d σ H') (TEx G W dv) (TAx G W r) σ H Q := by
  obtain ⟨rho, mu, m, Own, S, h⟩ := h.un
  refine TEx.to S (wp_bnd h) fun x mu1 v H1 m1 h1 g1 S1 r1 => ?_
  cases ei : insAt c mu1 x with
  | none => rw [ei] at h1; exact h1.elim
  | some q =>
    obtain ⟨n, fs⟩ := q
    rw [ei] at h1
    dsimp only at h1
    obtain ⟨ad, dx, us, rfl, rfl, hn1, e, p⟩ := S1.ins ei r1
    rw [hK] at e
    by_cases hl : (dLook mn fs).isNone = true
    · rw [if_pos hl] at h1
      refine ⟨ad, dx, us, rfl, e, RF.none p (Option.isNone_iff_eq_none.mp hl), TAx.to S1 (wp_step g1 (wp_bnd h1)) fun xs mu2 vs H2 m2 h2 g2 S2 r2 => ?_⟩
      rw [← hK]
      exact sp_of S2 (g1.trans g2) (.cons (r1.mono (g2.le _)) (r2.append (hd _ _ _))) h2
    · rw [if_neg hl] at h1
      exact h1.elim
theorem c_mc (hK : G.K = X.K) (hc : Cls X.K (He.ga X.K c)) (hm : Meth X.K (He.ga X.K c) mn f) (F : FnG X.prog X.w X.K X.mg X.base k f fd ps (spOf X.K fn)) (hr : Rm lv X.A) (hb : Binds X.K fd ps ds) (hd : Vals dvs ds) (hdd : ∀ m B H, RDs m B H dfl dvs) (tk : Takes X W) (ho : PE X o (TEx G W dv)) (ha : PA X (e :: es) (TAx G W r)) (hlv : k ≤ lv := by decide)
    (he : starEach (e :: es) X.env = (false, eval e X.env) :: starEach es X.env := by rfl) (hpl : (backTo pos (starEach es X.env)).any (·.1) = false := by rfl) {pl : Sem Bool}
    (ht : eval (.Call (.Attribute o mn apos) (e :: es) [] pos) X.env = (do
      let ov ← eval o X.env
      standAt apos.atName
      let (f, first) ← holding [ov] (getMethod ov mn pl)
      callWith pos f first (backTo pos (starEach (e :: es) X.env)) (backToKw pos (keywordEach [] X.env))) := by rfl) : PE X (.Call (.Attribute o mn apos) (e :: es) [] pos) (TEx G W (eMc c mn fn dfl dv r)) :=
  PEw (pe_mcG (E := fun σ c d H' => W c d σ H') ho hc hm F (hr.mono hlv) hb hd (fun σ => passAt tk σ) ha he hpl ht) fun σ H Q h => mc_le hK hdd h
theorem c_mc0 (hK : G.K = X.K) (hc : Cls X.K (He.ga X.K c)) (hm : Meth X.K (He.ga X.K c) mn f) (F : FnG X.prog X.w X.K X.mg X.base k f fd ps (spOf X.K fn)) (hr : Rm lv X.A) (hb : Binds X.K fd ps ds) (hd : Vals dvs ds) (hdd : ∀ m B H, RDs m B H dfl dvs) (tk : Takes X W) (ho : PE X o (TEx G W dv)) (hlv : k ≤ lv := by decide) {pl : Sem Bool}
    (ht : eval (.Call (.Attribute o mn apos) [] [] pos) X.env = (do
      let ov ← eval o X.env
      standAt apos.atName
      let (f, first) ← holding [ov] (getMethod ov mn pl)
      callWith pos f first (backTo pos (starEach [] X.env)) (backToKw pos (keywordEach [] X.env))) := by rfl) : PE X (.Call (.Attribute o mn apos) [] [] pos) (TEx G W (eMc c mn fn dfl dv aN)) :=
  PEw (pe_mcG0 (E := fun σ c d H' => W c d σ H') ho hc hm F (hr.mono hlv) hb hd (fun σ => passAt tk σ) ht) fun σ H Q h => by
    obtain ⟨rho, mu, m, Own, S, h⟩ := (mc_le (dvs := dvs) hK hdd h : tMcG _ _ _ _ _ _ (TAx G W aN) σ H Q)
    refine ⟨rho, mu, m, Own, S, ?_⟩
    cases e0 : dv rho mu with
    | ok z mu1 =>
      rw [e0] at h
      intro v H' m' g S' rd
      obtain ⟨a, dx, fs, e1, e2, e3, rho2, mu2, m2, O2, S2, q⟩ := h v H' m' g S' rd
      exact ⟨a, dx, fs, e1, e2, e3, q [] H' m2 Lf.refl S2 .nil⟩
    | exc y mu1 => rw [e0] at h; exact h
    | bad => rw [e0] at h; exact h
/-! ### properties -/
theorem Rm.in1 {k : Nat} {A : Around} (h : Rm (k + 1) A) : Rm k A.in1 := ⟨h.r.in1, h.gd⟩
theorem c_pr {pp g : Addr} {an : Str} {a : Expr} {da : EvD} (hK : G.K = X.K) (hc : Cls X.K (He.ga X.K c)) (hp : PropOf X.K (He.ga X.K c) an pp g) (F : FnG X.prog X.w X.K X.mg X.base k g fd ps (spOf X.K fn)) (hr : Rm lv X.A) (hb : Binds X.K fd ps []) (ha : PE X a (TEx G W da)) (hlv : k + 1 ≤ lv := by decide)
    (hab : attributeBase a an X.env (eval a X.env) = eval a X.env := by rfl) : PE X (.Attribute a an pos) (TEx G W (ePr c fn da)) := by
  refine ⟨fun pins s σ H Q I h => ?_⟩
  obtain ⟨rho, mu, m, Own, S, h⟩ := h.un
  refine attr_of hab (thn (ha.run pins s σ H (fun v H1 => ∃ a dx fs, v = .ref a ∧ H1 a = some (.ins (He.ga X.K c) dx fs) ∧ spOf X.K fn [.ref a] H1 Q fun _ _ _ => False) I (TEx.to S (wp_bnd h) fun x mu1 v H1 m1 h1 g1 S1 r1 => ?_)) fun u s1 ⟨x, H1, I1, rx, ad, dx, fs, ex, ea, q⟩ => ?_)
  · cases ei : insAt c mu1 x with
    | none => rw [ei] at h1; exact h1.elim
    | some q =>
      obtain ⟨n, fs⟩ := q
      rw [ei] at h1
      dsimp only at h1
      obtain ⟨ad, dx, us, rfl, rfl, hn1, e, p⟩ := S1.ins ei r1
      rw [hK] at e
      refine ⟨ad, dx, us, rfl, e, ?_⟩
      rw [← hK]
      exact sp_of (W := WF) S1 g1 (.cons r1 .nil) (wp_noX h1)
  · subst ex
    obtain rfl : u = Value.ref ad := rx
    obtain ⟨mA, O, _, _, _, _⟩ := ins_get I1.hok ea
    obtain ⟨od, J, _⟩ := O.look
    obtain ⟨rest, hrec⟩ := hp.rec_
    have I2 := I1.tok (s1.toks + 1)
    have hcl : (PySem.W.clsIn X.K (He.ga X.K c)).isSome = true := by
      obtain ⟨cd, hc, _⟩ := PySem.W.any_some hc.hd
      rw [hc]; rfl
    have hl : [Value.ref ad].length = ps.length := F.len _ _ _ _ q
    refine PySem.W.get_bind I1.kIn J (PySem.W.plainGet_of (hc.get an)).1 (PySem.W.findObj_data hcl hp.at_ hp.get hp.tak) (PySem.W.plainGet_of (hc.get an)).2 (wpAny_call (PySem.W.prop_get (s := { s1 with toks := s1.toks + 1 }) I1.kIn hrec ?_))
    refine codeAny_mono (F.run X.A.in1 X.stack { s1 with toks := s1.toks + 1 } H1 ⟨[.ref ad], []⟩ [.ref ad] [.ref ad] Q (fun _ _ _ => False) ((hr.mono hlv).in1) I2.env0.in1 (by
      have b := hb { s1 with toks := s1.toks + 1 } [.ref ad] I2.kIn hl
      rw [List.append_nil] at b
      exact b) (.cons rfl .nil) q) fun rr s' hq => ?_
    cases rr with
    | error er =>
      obtain ⟨_, _, _, _, _, _, _, _, _, _, _, _, z⟩ := hq
      exact z.elim
    | ok fl =>
      cases fl with
      | ret u =>
        obtain ⟨v, H', I3, rv, q3⟩ := I2.after hq
        show wpAny _ _ (handedOut u) _ _ _
        rw [PySem.W.handedOut_of (handed_of rv)]
        exact wpAny_pure ⟨v, H', I3, rv, q3⟩
      | next => exact hq.elim
      | brk => exact hq.elim
      | cont => exact hq.elim
/-! ### making -/
def tMkG (C : Addr) (sp : Sp) (dvs : List V) (E : L2.St → XK) (t : TA) : TE := fun σ H Q => t σ H fun vs H1 => ∀ x dx, H1 x = none → H1 dx = none → dx ≠ x → sp (.ref x :: (vs ++ dvs)) (upd (upd H1 dx (.own x)) x (.ins C dx [])) (fun v H2 => v = .non ∧ Q (.ref x) H2) (E σ)
theorem pe_mkG (M : Mk X.K C f) (F : FnG X.prog X.w X.K X.mg X.base k f fd ps sp) (hr : Rm (k + 1) X.A) (hg : Gl X x) (hm : X.mg x = some (.ref C)) (hb : Binds X.K fd ps ds) (hd : Vals dvs ds) (hx : ∀ σ, PassesAt (CXx X.prog X.w) X σ (E σ)) (ha : PA X (e :: es) t)
    (hdb : (x == ("__debug__" : Str)) = false) (he : starEach (e :: es) X.env = (false, eval e X.env) :: starEach es X.env) (hpl : (backTo pos (starEach es X.env)).any (·.1) = false) :
    PE X (.Call (.Name x p) (e :: es) [] pos) (tMkG C sp dvs E t) := by
  refine ⟨fun pins s0 σ H0 Q I0 h => wpAny_Call_Name_kw (ld_glob I0 hg hm ?_ hdb)⟩
  refine PySem.W.callWith_K (h₀ := X.base) I0.ok.mod.kin M.kp (thn (ha.run pos pins s0 σ H0 _ I0 h) fun us s ⟨vs, H, I, r, h⟩ => ⟨I.kIn, ?_⟩) he hpl
  have hq := h (s.heap.objs.size + 1) s.heap.objs.size (I.hok.fresh (Nat.le_succ _)) (I.hok.fresh (Nat.le_refl _)) (Nat.ne_of_lt (Nat.lt_succ_self _))
  have I2 := Inv.made (C := C) I
  have r2 : Vals (V.ref (s.heap.objs.size + 1) :: (vs ++ dvs)) (Value.ref (s.heap.objs.size + 1) :: (us ++ ds)) := .cons rfl (r.append hd)
  have hl : (Value.ref (s.heap.objs.size + 1) :: us ++ ds).length = ps.length := r2.length.symm.trans (F.len _ _ _ _ hq)
  refine wpAny_call (make_map (f := f) I.kIn M.makes M.init (beq_iff_eq.mp M.fn) (codeAny_mono (F.run _ X.stack _ _ ⟨Value.ref (s.heap.objs.size + 1) :: us, []⟩ (Value.ref (s.heap.objs.size + 1) :: (us ++ ds)) _ _ (E σ) ⟨hr.r.make C us [], hr.gd⟩
    (I2.env0.make C us []) (hb _ (Value.ref (s.heap.objs.size + 1) :: us) I2.kIn hl) r2 hq) fun r s' hq' => ?_))
  cases r with
  | error e => exact hx σ pins _ _ e s' I2 hq'
  | ok fl =>
    cases fl with
    | ret u =>
      obtain ⟨v, H', I3, rv, ev, q3⟩ := I2.after hq'
      subst ev
      exact ⟨rv, ⟨V.ref (s.heap.objs.size + 1), H', I3, rfl, q3⟩⟩
    | next => exact hq'.elim
    | brk => exact hq'.elim
    | cont => exact hq'.elim
theorem c_mk (hK : G.K = X.K) (M : Mk X.K (He.ga X.K c) f) (F : FnG X.prog X.w X.K X.mg X.base k f fd ps (spOf X.K fn)) (hr : Rm lv X.A) (hm : X.mg c = some (.ref (He.ga X.K c))) (hb : Binds X.K fd ps ds) (hd : Vals dvs ds) (hdd : ∀ m B H, RDs m B H dfl dvs) (tk : Takes X W) (ha : PA X (e :: es) (TAx G W r)) (hlv : k + 1 ≤ lv := by decide)
    (hg : Gl X c := by rfl) (hdb : (c == ("__debug__" : Str)) = false := by decide) (he : starEach (e :: es) X.env = (false, eval e X.env) :: starEach es X.env := by rfl) (hpl : (backTo pos (starEach es X.env)).any (·.1) = false := by rfl) :
    PE X (.Call (.Name c p) (e :: es) [] pos) (TEx G W (eMk c fn dfl r)) := by
  refine PEw (pe_mkG (E := fun σ c d H' => W c d σ H') M F (hr.mono hlv) hg hm hb hd (fun σ => passAt tk σ) ha hdb he hpl) fun σ H Q h => ?_
  obtain ⟨rho, mu, m, Own, S, h⟩ := h.un
  refine TAx.to S (wp_bnd h) fun xs mu1 vs H1 m1 h1 g1 S1 r1 y dx hy hdx ne => ?_
  -- the dict, then the instance
  have sm1 := same_upd (o := HO.own y) hdx
  have S2 := S1.same sm1
  have hy2 : (upd H1 dx (.own y)) y = none := by rw [upd_ne ne.symm]; exact hy
  obtain ⟨f1, f2⟩ := S2.fresh hy2
  have ns := S2.noslot hy2
  obtain ⟨S3, le3⟩ := S2.bar1 (o := .dK []) hy2
  have S4 := S3.numnew (o := .ins (He.ga G.K c) dx []) (ob := .ins c []) ns (S2.le.dom y hy2) f2 ⟨dx, [], upd_same, .nil⟩
  have e4 : upd (upd (upd H1 dx (.own y)) y (.dK [])) y (.ins (He.ga G.K c) dx []) = upd (upd H1 dx (.own y)) y (.ins (He.ga G.K c) dx []) := funext fun b => by
    by_cases hb : b = y
    · rw [hb, upd_same, upd_same]
    · rw [upd_ne hb, upd_ne hb, upd_ne hb]
  rw [e4] at S4
  have l0 : Lf m1 H1 (m1 ++ [y]) (upd (upd H1 dx (.own y)) y (.ins (He.ga G.K c) dx [])) := by
    refine ⟨⟨[y], rfl, fun a z => by rw [show a = y by simpa using z]; exact hy⟩, fun a u e n n1 n2 => ?_, fun a e => ?_, fun a z => z.elim⟩
    · rw [upd_ne (fun (q : a = y) => by rw [q, hy] at e; cases e), upd_ne (fun (q : a = dx) => by rw [q, hdx] at e; cases e)]
      exact e
    · by_cases h1 : a = y
      · rw [h1, upd_same] at e; cases e
      · rw [upd_ne h1] at e
        by_cases h2 : a = dx
        · rw [h2, upd_same] at e; cases e
        · rw [upd_ne h2] at e; exact e
  have l1 := g1.trans l0
  have ry : RD (m1 ++ [y]) (G.bar Own) (upd (upd H1 dx (.own y)) y (.ins (He.ga G.K c) dx [])) (.ref mu1.length) (.ref y) := .ref (by rw [← paired_len S1.wd.ob, List.getElem?_append_right (Nat.le_refl _), Nat.sub_self]; rfl)
  have rr : RDs (m1 ++ [y]) (G.bar Own) (upd (upd H1 dx (.own y)) y (.ins (He.ga G.K c) dx [])) (.ref mu1.length :: (xs ++ dfl)) (.ref y :: (vs ++ dvs)) := .cons ry ((RDs.mono (l0.le _) r1).append (hdd _ _ _))

  have hk : (m1 ++ [y])[mu1.length]? = some y := by rw [← paired_len S1.wd.ob, List.getElem?_append_right (Nat.le_refl _), Nat.sub_self]; rfl
  rw [← hK]
  refine sp_of (Q := fun v H2 => v = .non ∧ Q (.ref y) H2) S4 Lf.refl rr ?_
  have h2 := wp_bnd h1
  cases eo : fn (.ref mu1.length :: (xs ++ dfl)) (mu1 ++ [.ins c []]) with
  | ok d mu2 =>
    rw [eo] at h2
    cases d with
    | non =>
      intro v H' m' g S' rd
      cases rd
      exact ⟨rfl, h2 (.ref y) H' m' (l1.trans g) S' (.ref (g.num hk))⟩
    | _ => exact h2.elim
  | exc z mu2 => rw [eo] at h2; exact ES.step l1 h2
  | bad => rw [eo] at h2; exact h2
end
end Sk

/-! Sk Zf: except (A, B, ..), the caught error used behind its suite. -/
namespace Sk
open PySem PySem.Spec L2
/-! ### which classes catch -/
section
variable {M : Model} {K : PySem.W.Frag}
theorem loop_all {h : Heap} {f : Value → PUnit → Sem (ForInStep PUnit)} : ∀ {l : List Value}, (∀ c ∈ l, PySem.W.Looks M h (f c PUnit.unit) (.yield PUnit.unit)) → PySem.W.Looks M h (forIn l PUnit.unit f) PUnit.unit
  | [], _ => .now
  | c :: l, hf => by
    rw [List.forIn_cons]
    exact (hf c List.mem_cons_self).andThen (loop_all fun d hd => hf d (List.mem_cons_of_mem _ hd))
theorem loop_any {h : Heap} {p : Value → Bool} {f : Value → (Option Bool × PUnit) → Sem (ForInStep ((Option Bool × PUnit)))} : ∀ {l : List Value}, (∀ c ∈ l, PySem.W.Looks M h (f c (none, PUnit.unit)) (if p c = true then .done (some true, PUnit.unit) else .yield (none, PUnit.unit))) →
    PySem.W.Looks M h (forIn l (none, PUnit.unit) f) (if l.any p = true then (some true, PUnit.unit) else (none, PUnit.unit))
  | [], _ => .now
  | c :: l, hf => by
    rw [List.forIn_cons, List.any_cons]
    have h1 := hf c List.mem_cons_self
    by_cases hp : p c = true
    · rw [if_pos hp] at h1
      rw [hp, Bool.true_or, if_pos rfl]
      exact h1.andThen .now
    · rw [if_neg hp] at h1
      rw [Bool.eq_false_iff.mpr hp, Bool.false_or]
      exact h1.andThen (loop_any fun d hd => hf d (List.mem_cons_of_mem _ hd))
def oneB (K : PySem.W.Frag) (cls c : Value) : Bool := (PySem.W.exmOne K cls c).getD false
theorem any_one {cls : Value} : ∀ {l : List Value} {b : Bool}, PySem.W.exmAny K cls l = some b → (∀ c ∈ l, PySem.W.exmOne K cls c = some (oneB K cls c)) ∧ l.any (oneB K cls) = b
  | [], b, h => ⟨fun _ z => (nomatch z), Option.some.inj h⟩
  | c :: l, b, h => by
    obtain ⟨b1, d1, h1, h2, rfl⟩ := PySem.W.exmAny_cons h
    obtain ⟨i1, i2⟩ := any_one h2
    have e1 : oneB K cls c = b1 := by unfold oneB; rw [h1]; rfl
    refine ⟨fun d hd => ?_, by rw [List.any_cons, e1, i2]⟩
    rcases List.mem_cons.mp hd with rfl | hd
    · rw [e1]; exact h1
    · exact i1 d hd
theorem exm_tupN {l : List Value} {cls : Value} {tp e : Addr} {b : Bool} {h : Heap} (X : K.In h) (LT : PySem.W.Looks M h (typeOf (.ref e)) cls) (hp : h.get? tp = some { cls := .type "tuple", data := .seq l.toArray }) (hx : PySem.W.exmAny K cls l = some b) :
    PySem.W.Looks M h (excMatches (.ref e) (.ref tp)) b := by
  intro A Q E s k0 q
  obtain ⟨hh, g, d, tk, os⟩ := s
  have k : ∀ b o, h.get? b = some o → hh.get? b = some o := k0
  obtain ⟨i1, i2⟩ := any_one hx
  have L0 : PySem.W.Looks M h (isInstance (.ref tp) (.type "tuple")) true := ((PySem.W.Looks.ld hp).andThen .now).andThen (PySem.W.Looks.of_pure isSubtype_tuple_tuple)
  unfold excMatches
  refine wpAny_bind ((L0.keeps k).at ?_)
  dsimp only
  rw [if_pos rfl]
  first
    | refine wpAny_bind (wpAny_seqItems (k _ _ hp) rfl ?_)
    | refine wpAny_bind (wpAny_bind (wpAny_seqItems (k _ _ hp) rfl (wpAny_pure ?_)))
  dsimp only [Option.getD_some, Option.getD]
  refine wpAny_bind (wpAny_pure ?_)
  refine wpAny_bind ((loop_all (M := M) (h := hh) (l := l) fun c hc => ?_).at ?_)
  · exact ((PySem.W.exm_cls (M := M) X (i1 c hc)).1.keeps k).andThen .now
  refine wpAny_bind ((LT.keeps k).at ?_)
  refine wpAny_bind ((loop_any (M := M) (h := hh) (p := oneB K cls) (l := l) fun c hc => ?_).at ?_)
  · refine ((PySem.W.exm_cls (M := M) X (i1 c hc)).2.keeps k).andThen ?_
    cases oneB K cls c with
    | true => exact .now
    | false => exact .now
  · rw [i2]
    cases b with
    | true => exact wpAny_pure q
    | false => exact wpAny_pure q
end
/-! ### the test of a clause -/
structure TestR (X : Cx) (tst : Expr) (hit : Value → Bool → Prop) : Prop where
  run : ∀ (a : Addr) (oe : Obj) (pn : List (Addr × Obj)) (σ : L2.St) (H : Hp) (s : Shared), Inv (X.suite a ((a, oe) :: pn)) [] σ H s → ∀ (Q : Value → Shared → Prop) (E : Value → Shared → Prop),
    (∀ (tv : Value) (g : Heap), (∀ b o, s.heap.get? b = some o → g.get? b = some o) → (∀ cls b, hit cls b → PySem.W.Looks (model X.prog X.w) s.heap (typeOf (.ref a)) cls → PySem.W.Looks (model X.prog X.w) g (excMatches (.ref a) tv) b) → Q tv { s with heap := g }) →
    wpAny (model X.prog X.w) (X.A.mark (some (.ref a))) (eval tst X.env) Q E s
section
variable {X : Cx}
theorem name_run {x : Str} {c : Value} {np : Pos} (hc : Names X x c) {a : Addr} {oe : Obj} {pn : List (Addr × Obj)} {σ : L2.St} {H : Hp} {s : Shared} (I : Inv (X.suite a ((a, oe) :: pn)) [] σ H s) {Q : Value → Shared → Prop} {E : Value → Shared → Prop} (q : Q c s) :
    wpAny (model X.prog X.w) (X.A.mark (some (.ref a))) (eval (.Name x np) X.env) Q E s := by
  obtain ⟨h1, h2, h3⟩ := hc
  rcases h3 with h3 | ⟨h3, h4, h5⟩
  · exact ld_glob (X := X.suite a ((a, oe) :: pn)) I h1 h3 q h2
  · exact ld_blt (X := X.suite a ((a, oe) :: pn)) I h1 h3 h4 q h5 h2
theorem test_one {x : Str} {c : Value} {np : Pos} (hc : Names X x c) : TestR X (.Name x np) (fun cls b => PySem.W.exmOne X.K cls c = some b) :=
  ⟨fun a oe pn σ H s I Q E q => name_run hc I (q c s.heap (fun _ _ z => z) fun cls b h L => PySem.W.exm_one I.kIn L h)⟩
theorem names_run {pos : Pos} {a : Addr} {oe : Obj} {pn : List (Addr × Obj)} {σ : L2.St} {H : Hp} {s : Shared} (I : Inv (X.suite a ((a, oe) :: pn)) [] σ H s) {E : Value → Shared → Prop} : ∀ (l : List ((Str × Pos) × Value)) (Q : List Value → Shared → Prop), (∀ p ∈ l, Names X p.1.1 p.2) → Q (l.map (·.2)) s →
    wpAny (model X.prog X.w) (X.A.mark (some (.ref a))) (spliced (backTo pos (starEach (l.map fun p => Expr.Name p.1.1 p.1.2) X.env))) Q E s
  | [], Q, _, q => wpAny_items_nil q
  | p :: l, Q, h, q => wpAny_items_cons (name_run (h p List.mem_cons_self) I (names_run I l _ (fun r hr => h r (List.mem_cons_of_mem _ hr)) q))
theorem test_tup {kk : Nat} {tpos : Pos} (l : List ((Str × Pos) × Value)) (h : ∀ p ∈ l, Names X p.1.1 p.2) (hl : l.length ≤ 30) : TestR X (.Tuple (l.map fun p => Expr.Name p.1.1 p.1.2) kk tpos) (fun cls b => PySem.W.exmAny X.K cls (l.map (·.2)) = some b) := by
  refine ⟨fun a oe pn σ H s I Q E q => wpAny_Tuple (names_run I l _ h ⟨by rw [List.length_map, sizeLine_eq]; omega, ?_⟩)⟩
  have kp : ∀ b o, s.heap.get? b = some o → (s.heap.push { cls := .type "tuple", data := .seq (l.map (·.2)).toArray }).get? b = some o := fun b o z => Heap.get?_push_of_some _ z
  exact q _ _ kp fun cls b hx L => exm_tupN (I.kIn.keeps kp) (L.keeps kp) (Heap.get?_push_size s.heap rfl) hx
end
theorem flyZ_keeps {B h h' : Heap} {l : List Env} {e : Addr} {Z : Obj → Prop} (x : PySem.HandSPX.FlyingZ B l e Z h) (k : ∀ b o, h.get? b = some o → h'.get? b = some o) : PySem.HandSPX.FlyingZ B l e Z h' := by
  obtain ⟨f1, f2, f3, oe, vs, T, oT, ts, e1, e2, e3, e4, e5, e6, e7, e8, e9⟩ := x
  exact ⟨fun b o q => k b o (f1 b o q), f2, f3.of_keeps fun b o q _ => ⟨o, k b o q, rfl⟩, oe, vs, T, oT, ts, k _ _ e1, e2, e3, e4, e5, e6, k _ _ e7, e8, e9⟩
end Sk

/-! Sk Zg: try. -/
namespace Sk
open PySem PySem.Spec L2
/-- an error at a, which was caught -/
def exQ (a : Addr) (cls : Value) (d : Option Addr) : HO := .ext fun h => ∃ (oe : Obj) (vs : Array Value), h.get? a = some oe ∧ Zc cls d oe ∧ oe.data = .fields vs
theorem exQ_ok {P : Program} {w : World} {H : Hp} {h : Heap} {a : Addr} {cls : Value} {d : Option Addr} {oe : Obj} {vs : Array Value} (e : h.get? a = some oe) (z : Zc cls d oe) (v : oe.data = .fields vs) : ObjOk P w H h a (exQ a cls d) :=
  ⟨⟨oe, vs, e, z, v⟩, ⟨oe, e⟩, fun _ _ ⟨o, v, q, r⟩ k => ⟨o, v, k o q, r⟩⟩
section
variable {X : Cx} {pins : List (Addr × Obj)} {σ σ2 : L2.St} {H : Hp} {sI s : Shared} {a : Addr} {o : HO}
/-- an object that was new to the state is tracked -/
theorem Inv.track (J : Inv X pins σ H sI) (na : sI.heap.get? a = none) (hn : H a = none) (I : Inv X pins σ2 H s) (new : ObjOk X.prog X.w (upd H a o) s.heap a o) : Inv X pins σ2 (upd H a o) s := by
  have n0 : ∀ b u, X.s_0.heap.get? b = some u → b ∉ X.ex → b ≠ a := fun b u e hx z => by
    obtain ⟨u2, e2⟩ := J.base.there b u e hx
    rw [z, na] at e2
    cases e2
  have nL : X.env.locals ≠ a := fun z => by
    obtain ⟨m, ⟨ob, _, _, e, _⟩, _⟩ := J.loc
    rw [z, na] at e
    cases e
  have nC : ∀ x c, X.env.cells.lookup x = some c → c ≠ a := fun x c e z => by
    obtain ⟨v, ob, e2, _⟩ := J.cell x c e
    rw [z, na] at e2
    cases e2
  refine ⟨I.ok, I.os, I.bare, ?_, I.loc, I.cell, by rw [upd_ne nL]; exact I.free, fun x c e => by rw [upd_ne (nC x c e)]; exact I.freeC x c e, fun p hp => ?_, HOk.laidN I.hok (fun _ _ e => e) hn new, I.len⟩
  · exact ⟨I.base.keep, I.base.slot, fun b u e n hx => by rw [upd_ne (n0 b u e hx)]; exact I.base.free b u e n hx, I.base.there,
      fun b xs e => by rw [upd_ne (ne_of_none (I.base.tups b xs e) hn)]; exact I.base.tups b xs e,
      fun b u v e => by rw [upd_ne (ne_of_none (I.base.frzs b u v e) hn)]; exact I.base.frzs b u v e,
      fun b ps e => by
        obtain ⟨m, q⟩ := I.base.tbls b ps e
        exact ⟨m, by rw [upd_ne (ne_of_none q hn)]; exact q⟩⟩
  · obtain ⟨p1, p2, p3⟩ := I.pin p hp
    refine ⟨p1, ?_, p3⟩
    rw [upd_ne (fun z => ?_)]
    · exact p2
    · obtain ⟨q1, _⟩ := J.pin p hp
      rw [z, na] at q1
      cases q1
end
/-! ### try: .. except T: suite -/
def wE (hit : Value → Bool → Prop) (ts : Addr → Value → Option Addr → TS) (Wout : WX) (D : Ends) : WX := fun cls d σ H => ∃ b, hit cls b ∧ (b = true → ∀ a, H a = none → ts a cls d D σ H) ∧ (b = false → Wout cls d σ H)
/-- .. as n: the suite changes no tracked thing and goes on; the error is tracked from there -/
def wA (hit : Value → Bool → Prop) (i : Nat) (ts : Addr → Value → Option Addr → TS) (Wout : WX) (D : Ends) : WX := fun cls d σ H => ∃ b, hit cls b ∧
  (b = true → ∀ a, H a = none → ts a cls d { nx := fun σ' H' => H' = H ∧ D.nx (σ'.set i none) (upd H a (exQ a cls d)), rt := fun _ _ => False } (σ.set i (some (.ref a))) H) ∧ (b = false → Wout cls d σ H)
section
variable {X : Cx} {n : Str} {i : Nat} {tst : Expr} {body suite : List Stmt} {b0 : Stmt} {hpos pos : Pos} {tb : WX → TS} {ts : Addr → Value → Option Addr → TS} {Wout : WX} {hit : Value → Bool → Prop}
/-- what a caught error is like; the rest of the catch by its two ends -/
theorem catch_at {W : WX} {nm : Option Str} {pins : List (Addr × Obj)} {D : Ends} {u : Value} {s1 : Shared} (ok : X.Ok) (hs : X.stack = X.env :: X.outer) (hf : X.env.frame = some X.env.locals) (hT : TestR X tst hit) (tk : Takes X Wout) {xe2 : Value → Shared → Prop} (xx : XE (X.tr (X.pn ++ pins) xe2) W u s1)
    {W2 : Value → Option Addr → Addr → L2.St → Hp → Prop} (hW : ∀ cls d σ H, W cls d σ H → ∃ b, hit cls b ∧ (b = true → ∀ a, H a = none → W2 cls d a σ H) ∧ (b = false → Wout cls d σ H))
    (yes : ∀ (a : Addr) (cls : Value) (d : Option Addr) (σ : L2.St) (H : Hp) (sI : Shared) (B : Heap) (g : Heap), W2 cls d a σ H → H a = none → Inv X pins σ H sI → sI.heap.get? a = none → PySem.HandSPX.FlyingZ B (X.env :: X.outer) a (Zc cls d) g →
      (∀ (g2 : Heap) (oe : Obj) (vs : Array Value), PySem.HandSPX.FlyingZ B (X.env :: X.outer) a (Zc cls d) g2 → g.UpToSlots g2 → g2.get? a = some oe → Zc cls d oe → oe.data = .fields vs → Inv (X.suite a ((a, oe) :: (X.pn ++ pins))) [] σ H { s1 with heap := g2 }) →
      codeAny (model X.prog X.w) (X.A.mark (some (.ref a))) (.handlers (.ref a) [.ExceptHandler none nm (b0 :: suite) hpos] X.env) (fun r s2 => match r with
        | .ok f => (match nm with
          | none => L2.SP X pins D f s2
          | some n => wpAny (model X.prog X.w) X.A (do bindName X.env n .none; unbindBehindTheSuite X.env n hpos) (fun _ s3 => L2.SP X pins D f s3) X.xe s2)
        | .error x => cameBackBy (model X.prog X.w) X.A X.env X.xe x s2) { s1 with heap := g }) :
    wpAny (model X.prog X.w) X.A (noteFrame u X.env) (fun _ s2 => wpAny (model X.prog X.w) X.A (setFlight u none) (fun _ s3 => wpAny (model X.prog X.w) X.A (handleBy u X.env [.ExceptHandler (some tst) nm (b0 :: suite) hpos]) (L2.SP X pins D) X.xe s3) X.xe s2) X.xe s1 := by
  obtain ⟨a, B, sI, pins', σ, H, cls, d, rfl, J0, nb, up, sky, na, os, ag, w⟩ := xx
  obtain ⟨b, hb, hyes, hno⟩ := hW _ _ _ _ w
  have J : Inv X pins σ H sI := J0.ofTry ok
  have hfr : X.A.frames = some (X.env :: X.outer) := by rw [ok.frames, hs]
  refine Sky.land (L := X.env.locals) Zc.steady hfr hf (by rw [← hs]; exact sky) fun g3 fl3 up3 => ?_
  have out : ∀ {g : Heap}, PySem.HandSPX.FlyingZ B (X.env :: X.outer) a (Zc cls d) g → a ∉ frs (X.env :: X.outer) := fun {g} fl hm => by
    obtain ⟨oe, vs, e1, _, e3⟩ := fl.there
    obtain ⟨_, o', e', q⟩ := fl.2.2.1.mem hm
    rw [e1] at e'
    cases e'
    exact q _ e3
  have nfr := out fl3
  have nL : a ≠ X.env.locals := fun z => nfr (List.mem_filterMap.mpr ⟨X.env, List.mem_cons_self, by rw [hf, z]⟩)
  have nF : a ∉ X.fs := fun hm => by
    obtain ⟨e, he, q⟩ := List.mem_filterMap.mp hm
    exact nfr (List.mem_filterMap.mpr ⟨e, List.mem_cons_of_mem _ he, q⟩)
  have nI : sI.heap.get? a = none := by
    cases e : sI.heap.get? a with
    | none => rfl
    | some o =>
      have z := nb a o e (by rw [hs]; exact nfr)
      rw [fl3.2.1] at z
      cases z
  have inv : ∀ {g : Heap}, PySem.HandSPX.FlyingZ B (X.env :: X.outer) a (Zc cls d) g → s1.heap.UpToSlots g → Inv X pins σ H { s1 with heap := g } := fun {g} fl ug => J.landed nb fl.1 (up.trans ug) os ag
  obtain ⟨oe3, vs3, he3, hz3, hd3⟩ := fl3.there
  refine wpAny_handleBy_cons (codeAny_handlers_test ?_) (by intro q; cases q)
  refine hT.run a oe3 (X.pn ++ pins) σ H { s1 with heap := g3 } ((inv fl3 up3).suite he3 hd3 na nL nF) _ _ fun tv g kg L => ?_
  have LT : PySem.W.Looks (model X.prog X.w) g3 (typeOf (.ref a)) cls := fun A Q E s k q => wpAny_typeOf_ref (k _ _ he3) (by rw [hz3.1]; exact q)
  have fl := flyZ_keeps fl3 kg
  have upg : s1.heap.UpToSlots g := up3.trans (Heap.UpToSlots.of_keeps kg)
  refine (L cls b hb LT).here ?_
  cases b with
  | true =>
    exact yes a cls d σ H sI B g (hyes rfl a na) na J nI fl fun g2 oe vs fl2 u2 e1 e2 e3 => (inv fl2 (upg.trans u2)).suite e1 e3 na nL nF
  | false =>
    show wpAny _ X.A (handleBy (.ref a) X.env []) _ _ _
    refine wpAny_handleBy_nil ?_
    obtain ⟨_, _, _, oe, vs, T, oT, ts', he, hz, hd, h1, hr⟩ := id fl
    unfold PySem.passOn
    refine wpAny_bind (wpAny_field he hd h1 ?_)
    rw [if_neg (show ¬ ((Value.ref T == Value.none) = true) from by simp)]
    have fin : wpAny (model X.prog X.w) X.A (setFlight (.ref a) X.env.frame) (fun _ s4 => wpAny (model X.prog X.w) X.A (throw (.ref a) : Sem Flow) (L2.SP X pins D) X.xe s4) X.xe { s1 with heap := g } := by
      rw [hf]
      refine PySem.HandSPX.setFlight_upZ fl fun g4 hh4 up4 => wpAny_throw (tk _ _ ?_)
      exact ⟨a, B, sI, pins, σ, H, cls, d, rfl, J, nb, (up.trans upg).trans up4, .inr (.inr (by rw [hs]; exact hh4)), na, os, ag, hno rfl⟩
    first
      | exact wpAny_bind (wpAny_pure (wpAny_bind fin))
      | exact wpAny_bind fin
/-- the body's other ends -/
theorem try_ends {pins : List (Addr × Obj)} {D : Ends} {xe2 : Value → Shared → Prop} {s1 : Shared} (ok : X.Ok) {fl : Flow} (h : L2.SP (X.tr (X.pn ++ pins) xe2) [] D fl s1) : L2.SP X pins D fl s1 := by
  cases fl with
  | next => obtain ⟨σ', H', J, q⟩ := h; exact ⟨σ', H', J.ofTry ok, q⟩
  | brk => obtain ⟨σ', H', J, q⟩ := h; exact ⟨σ', H', J.ofTry ok, q⟩
  | cont => obtain ⟨σ', H', J, q⟩ := h; exact ⟨σ', H', J.ofTry ok, q⟩
  | ret u => obtain ⟨v, σ', H', J, r, q⟩ := h; exact ⟨v, σ', H', J.ofTry ok, r, q⟩
theorem ps_tryE (hs : X.stack = X.env :: X.outer) (hf : X.env.frame = some X.env.locals) (hT : TestR X tst hit) (tk : Takes X Wout)
    (hb : ∀ (W : WX) (pn : List (Addr × Obj)) (xe : Value → Shared → Prop), Takes (X.tr pn xe) W → PassesOwn (model X.prog X.w) X.A X.env xe → PSs (X.tr pn xe) body (tb W))
    (hsu : ∀ (a : Addr) (oe : Obj) (cls : Value) (d : Option Addr) (pn : List (Addr × Obj)), Zc cls d oe → (∃ vs, oe.data = .fields vs) → PSs (X.suite a ((a, oe) :: pn)) (b0 :: suite) (ts a cls d)) :
    PS X (.Try body [.ExceptHandler (some tst) none (b0 :: suite) hpos] [] [] pos) (fun D σ H => tb (wE hit ts Wout D) D σ H) := by
  refine ⟨fun pins s σ H D I h => wpAny_Try_except ?_⟩
  have ok := I.ok
  refine wpAny_mono ((hb (wE hit ts Wout D) (X.pn ++ pins) _ (fun u s' xx => catch_at (nm := none) (D := D) ok hs hf hT tk xx (W2 := fun cls d a σ H => ts a cls d D σ H) (fun cls d σ H h => h) ?_) PassesOwn.looking).run [] s σ H D (I.toTry _) h) (fun fl s1 hsp => ?_) fun e s1 he => he
  · intro a cls d σ H sI B g w na J nI fl inv
    refine codeAny_handlers_suite (PySem.HandSPX.lands_againZ fl fun g2 fl2 up2 => ?_)
    obtain ⟨oe, vs, e1, e2, e3⟩ := fl2.there
    refine wpAny_mono ((hsu a oe cls d (X.pn ++ pins) e2 ⟨_, e3⟩).run [] _ σ H D (inv g2 oe vs fl2 up2 e1 e2 e3) w) (fun f s6 hsp => ?_) fun _ _ z => z.elim
    cases f with
    | next => obtain ⟨σ6, H6, S6, q6⟩ := hsp; exact ⟨σ6, H6, S6.unsuite ok, q6⟩
    | brk => obtain ⟨σ6, H6, S6, q6⟩ := hsp; exact ⟨σ6, H6, S6.unsuite ok, q6⟩
    | cont => obtain ⟨σ6, H6, S6, q6⟩ := hsp; exact ⟨σ6, H6, S6.unsuite ok, q6⟩
    | ret u => obtain ⟨v6, σ6, H6, S6, r6, q6⟩ := hsp; exact ⟨v6, σ6, H6, S6.unsuite ok, r6, q6⟩
  · cases fl with
    | next => exact wpAny_execs_nil (try_ends ok hsp)
    | brk => exact try_ends ok hsp
    | cont => exact try_ends ok hsp
    | ret u => exact try_ends ok hsp
/-- .. as n -/
theorem ps_tryA (hs : X.stack = X.env :: X.outer) (hf : X.env.frame = some X.env.locals) (hN : X.N.Nodup) (hi : X.N[i]? = some n) (hln : X.env.kindOf n = some .local) (hT : TestR X tst hit) (tk : Takes X Wout)
    (hb : ∀ (W : WX) (pn : List (Addr × Obj)) (xe : Value → Shared → Prop), Takes (X.tr pn xe) W → PassesOwn (model X.prog X.w) X.A X.env xe → PSs (X.tr pn xe) body (tb W))
    (hsu : ∀ (a : Addr) (oe : Obj) (cls : Value) (d : Option Addr) (pn : List (Addr × Obj)), Zc cls d oe → (∃ vs, oe.data = .fields vs) → PSs (X.suite a ((a, oe) :: pn)) (b0 :: suite) (ts a cls d)) :
    PS X (.Try body [.ExceptHandler (some tst) (some n) (b0 :: suite) hpos] [] [] pos) (fun D σ H => tb (wA hit i ts Wout D) D σ H) := by
  refine ⟨fun pins s σ H D I h => wpAny_Try_except ?_⟩
  have ok := I.ok
  have hloc : Loc X.env.scope n := .inl hln
  refine wpAny_mono ((hb (wA hit i ts Wout D) (X.pn ++ pins) _ (fun u s' xx => catch_at (nm := some n) (D := D) ok hs hf hT tk xx
    (W2 := fun cls d a σ H => ts a cls d { nx := fun σ' H' => H' = H ∧ D.nx (σ'.set i none) (upd H a (exQ a cls d)), rt := fun _ _ => False } (σ.set i (some (.ref a))) H) (fun cls d σ H h => h) ?_) PassesOwn.looking).run [] s σ H D (I.toTry _) h) (fun fl s1 hsp => ?_) fun e s1 he => he
  · intro a cls d σ H sI B g w na J nI fl inv
    refine codeAny_handlers_suite_as (PySem.HandSPX.lands_againZ fl fun g2 fl2 up2 => ?_)
    obtain ⟨oe, vs, e1, e2, e3⟩ := fl2.there
    refine store_ok (X := X.suite a ((a, oe) :: (X.pn ++ pins))) (v := .ref a) (inv g2 oe vs fl2 up2 e1 e2 e3) hN hi hloc rfl (fun s5 S5 => ?_) (.inr hln)
    refine wpAny_mono ((hsu a oe cls d (X.pn ++ pins) e2 ⟨_, e3⟩).run [] s5 _ H _ S5 w) (fun f s6 hsp => ?_) fun _ _ z => z.elim
    cases f with
    | next =>
      obtain ⟨σ6, H6, S6, e6, q6⟩ := hsp
      subst e6
      have pn := (S6.pin (a, oe) (List.mem_append_left _ List.mem_cons_self)).1
      have J6 := Inv.track J nI na (S6.unsuite ok) (exQ_ok pn e2 e3)
      exact gone_ok J6 hN hi hln fun s7 J7 => ⟨_, _, J7, q6⟩
    | brk => obtain ⟨_, _, _, q6⟩ := hsp; exact q6.elim
    | cont => obtain ⟨_, _, _, q6⟩ := hsp; exact q6.elim
    | ret u => obtain ⟨_, _, _, _, _, q6⟩ := hsp; exact q6.elim
  · cases fl with
    | next => exact wpAny_execs_nil (try_ends ok hsp)
    | brk => exact try_ends ok hsp
    | cont => exact try_ends ok hsp
    | ret u => exact try_ends ok hsp
end
end Sk

/-! Sk Zh: raise and try over mirrors; a caught error asked. -/
namespace Sk
open PySem PySem.Spec L2
/-- an own error class c with one field f, as a def -/
structure Dx (P : Program) (w : World) (K : PySem.W.Frag) (mg : Str → Option Value) (base : Heap) (c f : Str) : Prop where
  ex : ∃ (B newId id : String) (bmB : List Value) (fI : Addr) (fd : FuncData) (ps : List Str), XC K (He.ga K c) B newId id bmB ∧ PySem.W.findIn K (.ref (He.ga K c)) "__init__" = some (some (.ref fI)) ∧ PySem.W.typeIn K (.ref fI) = some (.type "function") ∧
    FnG P w K mg base 1 fI fd ps (spX1 K (He.ga K c) f) ∧ Binds K fd ps []
  mg : mg c = some (.ref (He.ga K c))
/-- raise c(e) -/
def sRaise (c f : Str) (e : EvD) : StD := fun rho mu => sUse (e rho mu) rho fun z mu' => .exc ⟨c, [(f, z)]⟩ rho mu'
/-- try: b, except the classes that hit tells: h -/
def sTryE (hit : Str → Option Bool) (b h : StD) : StD := fun rho mu => match b rho mu with
  | .exc x rho1 mu1 => (match hit x.cls with
    | some true => h rho1 mu1
    | some false => .exc x rho1 mu1
    | none => .bad)
  | o => o
/-- .. as (slot i): (slot j) is it -/
def sTryA (hit : Str → Option Bool) (i j : Nat) (b : StD) : StD := fun rho mu => match b rho mu with
  | .exc x rho1 mu1 => (match hit x.cls with
    | some true => if i < rho1.length then .nx ((rho1.set j (.val (.ref mu1.length))).set i .un) (mu1 ++ [.err x.cls x.fs]) else .bad
    | some false => .exc x rho1 mu1
    | none => .bad)
  | o => o
section
variable {X : Cx} {G : Fr} {W : WX} {c f n y : Str} {i j lv : Nat} {e tst : Expr} {d : EvD} {body suite : List Stmt} {b0 : Stmt} {b h : StD} {p pos pos' hpos py pn : Pos} {hitV : Value → Bool → Prop} {hit : Str → Option Bool}
theorem s_raise (T : Dx X.prog X.w X.K X.mg X.base c f) (hK : G.K = X.K) (hr : Rm lv X.A) (tk : Takes X W) (he : PE X e (TEx G W d)) (hlv : 2 ≤ lv := by decide) (hc : X.calm = true := by rfl) (hg : Gl X c := by rfl) (hdb : (c == ("__debug__" : Str)) = false := by decide)
    (hs : starEach [e] X.env = (false, eval e X.env) :: starEach [] X.env := by rfl) (hpl : (backTo pos (starEach [] X.env)).any (·.1) = false := by rfl) : PS X (.Raise (some (.Call (.Name c p) [e] [] pos)) none pos') (TSx G W (sRaise c f d)) := by
  obtain ⟨B, newId, id, bmB, fI, fd, ps, t1, t2, t3, t4, t5⟩ := T.ex
  refine PSw (ps_raise hc tk (pmk_x1 t1 t2 t3 t4 (hr.mono hlv) t5 hg T.mg (pa_cons he pa_nil hs) hdb hs hpl)) fun D σ H ⟨rho, mu, m, Own, S, h⟩ => ?_
  refine TEx.to S (use_wp (σ := σ) h) fun z mu1 v H1 m1 h1 g1 S1 r1 => ⟨v, rfl, fun d hd => ?_⟩
  have sm := same_upd (o := HO.xd [(f, v)]) hd
  obtain ⟨f1, f2⟩ := S1.fresh hd
  exact h1 _ (some d) σ _ m1 Own (Lf.le (g1.trans (Lf.of_same sm)) _) (S1.same sm) ⟨by rw [hK], d, _, rfl, f1, f2, upd_same, .cons ⟨rfl, r1.mono (Lf.le (Lf.of_same sm) _)⟩ .nil⟩
theorem s_tryE (hs : X.stack = X.env :: X.outer) (hf : X.env.frame = some X.env.locals) (hK : G.K = X.K) (hT : TestR X tst hitV) (hh : ∀ x b, hit x = some b → hitV (.ref (He.ga X.K x)) b) (tk : Takes X W)
    (hb : ∀ (W : WX) (pn : List (Addr × Obj)) (xe : Value → Shared → Prop), Takes (X.tr pn xe) W → PassesOwn (model X.prog X.w) X.A X.env xe → PSs (X.tr pn xe) body (TSx G W b))
    (hsu : ∀ (a : Addr) (oe : Obj) (pn : List (Addr × Obj)), PSs (X.suite a ((a, oe) :: pn)) (b0 :: suite) (TSx G W h)) :
    PS X (.Try body [.ExceptHandler (some tst) none (b0 :: suite) hpos] [] [] pos) (TSx G W (sTryE hit b h)) := by
  refine PSw (ps_tryE (tb := fun W => TSx G W b) (ts := fun _ _ _ => TSx G W h) hs hf hT tk hb fun a oe cls d pn _ _ => hsu a oe pn) fun D σ H ⟨rho, mu, m, Own, S, q⟩ => ⟨rho, mu, m, Own, S, ?_⟩
  unfold sTryE at q
  cases eb : b rho mu with
  | exc x rho1 mu1 =>
    rw [eb] at q
    dsimp only at q
    intro cc dd σ' H' m' O' le S' xr
    have ec : cc = .ref (He.ga X.K x.cls) := by rw [xr.1, hK]
    cases eh : hit x.cls with
    | none => rw [eh] at q; exact q.elim
    | some k =>
      rw [eh] at q
      refine ⟨k, ec ▸ hh _ _ eh, fun z a _ => ?_, fun z => ?_⟩
      · subst z
        exact ⟨rho1, mu1, m', O', S', SOk.step le q⟩
      · subst z
        exact q cc dd σ' H' m' O' le S' xr
  | nx r u => rw [eb] at q; exact q
  | rt z u => rw [eb] at q; exact q
  | bk r u => rw [eb] at q; exact q
  | ct r u => rw [eb] at q; exact q
  | bad => rw [eb] at q; exact q
theorem tryA_core {rho : Ev} {mu : Mem} {m : List Addr} {Own : Addr → Prop} {D : Ends} {σ : L2.St} {H : Hp} (hK : G.K = X.K) (hij : i ≠ j) (hh : ∀ x b, hit x = some b → hitV (.ref (He.ga X.K x)) b) (S : StR G rho mu σ H m Own) (q : SOk G W D m Own H (sTryA hit i j b rho mu)) :
    SOk G (wA hitV i (fun _ _ _ => tAsg (tVar i) (gName j)) W D) D m Own H (b rho mu) := by
  unfold sTryA at q
  cases eb : b rho mu with
  | exc x rho1 mu1 =>
    rw [eb] at q
    dsimp only at q
    intro cc dd σ' H' m' O' le S' xr
    have ec : cc = .ref (He.ga X.K x.cls) := by rw [xr.1, hK]
    cases eh : hit x.cls with
    | none => rw [eh] at q; exact q.elim
    | some k =>
      rw [eh] at q
      refine ⟨k, ec ▸ hh _ _ eh, fun z a ha => ?_, fun z => ?_⟩
      · subst z
        obtain ⟨e1, ad, us, rfl, n1, n2, ed, pr⟩ := xr
        obtain ⟨f1, f2⟩ := S'.fresh ha
        have ns := S'.noslot ha
        by_cases hil : i < rho1.length
        · rw [if_pos hil] at q
          refine ⟨.ref a, by rw [List.getElem?_set_self (by rw [← paired_len S'.sl]; exact hil)], rfl, ?_⟩
          obtain ⟨S3, le3⟩ := S'.bar1 (o := .dK []) ha
          obtain ⟨_, g3w⟩ := S3.write (exQ a cc (some ad)) (.inr rfl) ns
          have nad : ad ≠ a := fun z => by rw [z, ha] at ed; cases ed
          have e4 : upd (upd H' a (.dK [])) a (exQ a cc (some ad)) = upd H' a (exQ a cc (some ad)) := funext fun b => by
            by_cases hb : b = a
            · rw [hb, upd_same, upd_same]
            · rw [upd_ne hb, upd_ne hb, upd_ne hb]
          have S4 := S3.numnew (o := exQ a cc (some ad)) (ob := .err x.cls x.fs) ns (S'.le.dom a ha) f2 ⟨ad, us, by rw [upd_same, e1]; rfl, n1, fun z => z.elim (fun q => n2 (.inl q)) fun q => q.elim (fun q => n2 (.inr q)) fun q => nad q, by rw [upd_ne nad, upd_ne nad]; exact ed,
            paired_imp (fun _ _ ⟨x, y⟩ => ⟨x, y.mono (le3.trans g3w)⟩) pr⟩
          rw [e4] at S4
          have hk : (m' ++ [a])[mu1.length]? = some a := by rw [← paired_len S'.wd.ob, List.getElem?_append_right (Nat.le_refl _), Nat.sub_self]; rfl
          have S6 := (S4.setv j (.ref hk)).forget i
          have el : ((σ'.set i (some (V.ref a))).set j (some (.ref a))).set i none = (σ'.set j (some (.ref a))).set i none := by
            rw [List.set_comm _ _ hij, List.set_set]
          rw [el]
          refine q _ _ _ O' (le.trans ⟨⟨[a], rfl, fun b z => by rw [show b = a by simpa using z]; exact ha⟩, fun b u e _ _ _ => ?_, fun b e => ?_, fun b z => .inl z⟩) S6
          · rw [upd_ne (fun z => by rw [z, ha] at e; cases e)]; exact e
          · by_cases hb : b = a
            · rw [hb]; exact ha
            · rw [upd_ne hb] at e; exact e
        · rw [if_neg hil] at q
          exact q.elim
      · subst z
        exact q cc dd σ' H' m' O' le S' xr
  | nx r u => rw [eb] at q; exact q
  | rt z u => rw [eb] at q; exact q
  | bk r u => rw [eb] at q; exact q
  | ct r u => rw [eb] at q; exact q
  | bad => rw [eb] at q; exact q
theorem s_tryA (hs : X.stack = X.env :: X.outer) (hf : X.env.frame = some X.env.locals) (hK : G.K = X.K) (hN : X.N.Nodup) (hi : X.N[i]? = some n) (hj : X.N[j]? = some y) (hij : i ≠ j) (hln : X.env.kindOf n = some .local) (hly : X.env.scope.names.lookup y = some .local) (hT : TestR X tst hitV) (hh : ∀ x b, hit x = some b → hitV (.ref (He.ga X.K x)) b) (tk : Takes X W)
    (hb : ∀ (W : WX) (pn : List (Addr × Obj)) (xe : Value → Shared → Prop), Takes (X.tr pn xe) W → PassesOwn (model X.prog X.w) X.A X.env xe → PSs (X.tr pn xe) body (TSx G W b))
    (hsw : ∀ (a : Addr) (oe : Obj) (pn : List (Addr × Obj)), PSs (X.suite a ((a, oe) :: pn)) [.Assign [.Name y py] (.Name n p) pos'] (tAsg (tVar i) (gName j))) :
    PS X (.Try body [.ExceptHandler (some tst) (some n) [.Assign [.Name y py] (.Name n p) pos'] hpos] [] [] pos) (TSx G W (sTryA hit i j b)) := by
  exact PSw (ps_tryA (tb := fun W => TSx G W b) (ts := fun _ _ _ => tAsg (tVar i) (gName j)) hs hf hN hi hln hT tk hb fun a oe cls d pn _ _ => hsw a oe pn) fun D σ H ⟨rho, mu, m, Own, S, q⟩ => ⟨rho, mu, m, Own, S, tryA_core hK hij hh S q⟩
end
end Sk

/-! Sk Zi: a caught error asked: isinstance, its field. -/
namespace Sk
open PySem PySem.Spec L2
/-- what the text must have of an own error class, so that its instances are asked -/
structure IsC (K : PySem.W.Frag) (C : Addr) : Prop where
  cl : (PySem.W.clsIn K C).isSome = true
  ga : PySem.W.findIn K (.ref C) "__getattribute__" = some (some (.builtin "BaseException.__getattribute__"))
  gt : PySem.W.findIn K (.ref C) "__getattr__" = some none
  ex : PySem.W.subIn K (.ref C) (.type "BaseException") = some true
  hd : PySem.W.hasDictIn K C = true
  kc : PySem.W.findIn K (.ref C) "__class__" = some (some (.builtin "object.__class__"))
  kg : PySem.W.specialIn K (.builtin "object.__class__") "__get__" = some (some (.builtin "getset_descriptor.__get__"))
  kt : PySem.W.takesIn K (.builtin "object.__class__") = some true
  ob : PySem.W.mroIn K C (.type "object") = some true
theorem ite_inv2 {c : Prop} [Decidable c] {α : Type} {x : Option α} {z : α} (h : (if c then x else none) = some z) : c ∧ x = some z := by
  by_cases hc : c
  · rw [if_pos hc] at h; exact ⟨hc, h⟩
  · rw [if_neg hc] at h; cases h
def errAt (mu : Mem) : Da → Option (Str × List (Str × Da))
  | .ref n => match mu[n]? with
    | some (.err c fs) => some (c, fs)
    | _ => none
  | _ => none
/-- isinstance(e, D) -/
def eIsX (sub : Str → Str → Option Bool) (D : Str) (a : EvD) : EvD := fun rho mu => bnd (a rho mu) fun x mu1 => opt ((errAt mu1 x).bind fun p => (sub p.1 D).map Da.bl) mu1
/-- e.f -/
def eAtX (cls : List Str) (f : Str) (a : EvD) : EvD := fun rho mu => bnd (a rho mu) fun x mu1 => opt ((errAt mu1 x).bind fun p => if p.1 ∈ cls then dLook f p.2 else none) mu1
section
variable {X : Cx} {G : Fr} {W : WX} {a : Expr} {da : EvD} {f D : Str} {p p2 pos : Pos}
theorem StR.err {rho : Ev} {mu : Mem} {σ : L2.St} {H : Hp} {m : List Addr} {Own : Addr → Prop} (S : StR G rho mu σ H m Own) {x : Da} {v : V} {c : Str} {fs : List (Str × Da)} (h : errAt mu x = some (c, fs)) (r : RD m (G.bar Own) H x v) :
    ∃ ad d us, v = .ref ad ∧ H ad = some (exq ad (He.ga G.K c) d) ∧ H d = some (.xd us) ∧ RF m (G.bar Own) H fs us := by
  cases x with
  | ref n =>
    have h : (match mu[n]? with
      | some (.err c fs) => some (c, fs)
      | _ => none) = some (c, fs) := h
    cases eo : mu[n]? with
    | none => rw [eo] at h; cases h
    | some o =>
      rw [eo] at h
      cases o with
      | err c' gs =>
        cases h
        cases r with
        | ref hn =>
          obtain ⟨d, us, e, _, _, e2, pr⟩ := S.num hn eo
          exact ⟨_, d, us, rfl, e, e2, pr⟩
      | _ => cases h
  | _ => cases h
theorem inst_of {pins : List (Addr × Obj)} {σ : L2.St} {H : Hp} {s : Shared} {ad C d : Addr} {us : List (Str × V)} (I : Inv X pins σ H s) (e : H ad = some (exq ad C d)) (e2 : H d = some (.xd us)) :
    ∃ oe od, PySem.W.InstAt s.heap ad oe C (some od) ∧ ∀ f v, us.lookup f = some v → ∃ u, PySem.W.lookIn f od = some (some u) ∧ RelV v u := by
  have x1 : ∃ (oe : Obj) (vs : Array Value), s.heap.get? ad = some oe ∧ Zc (.ref C) (some d) oe ∧ oe.data = .fields vs := (I.hok ad _ e).1
  obtain ⟨oe, vs, h1, h2, h3⟩ := x1
  have x2 : ObjOk X.prog X.w H s.heap d (.xd us) := I.hok d _ e2
  obtain ⟨mA, hns, hr⟩ := x2
  obtain ⟨od, ho, hl⟩ := lookIn_ns hns
  refine ⟨oe, od, ⟨h1, h2.1, by unfold PySem.W.notCls; rw [h3] <;> rfl, by rw [h2.2]; exact ho⟩, fun f v el => ?_⟩
  obtain ⟨u, hu, ru⟩ := RelO.some_of (v := v) (o := mA f) (by rw [← el]; exact hr f)
  exact ⟨u, by rw [hl, hu], ru⟩
def rIsX (K : PySem.W.Frag) : List V → Hp → VK → Prop := fun xs H Q => ∃ (ad d C D : Addr) (us : List (Str × V)) (b : Bool), xs = [.ref ad, .ref D] ∧ H ad = some (exq ad C d) ∧ H d = some (.xd us) ∧ IsC K C ∧ PySem.W.kitOne K (.ref C) (.ref D) = some b ∧ Q (.bl b) H
theorem call_isx : CallR X (.builtin "isinstance") (rIsX X.K) := by
  intro pins s σ H xs us Q I r h
  obtain ⟨ad, d, C, D, us2, b, rfl, e1, e2, c, ek, q⟩ := h
  obtain ⟨u1, u2, rfl, r1, r2⟩ := vals2 r
  obtain rfl : u1 = Value.ref ad := r1
  obtain rfl : u2 = Value.ref D := r2
  obtain ⟨oe, od, J, _⟩ := inst_of I e1 e2
  exact PySem.W.kia_one (PySem.W.kitx_exc c.cl c.ga c.gt c.ex c.kc c.kg c.kt c.ob) I.kIn J ek (fun z => nomatch z) fun tk => ⟨.bl b, H, I.kept (t' := tk) fun _ _ z => z, rfl, q⟩
theorem c_isx {sub : Str → Str → Option Bool} (hK : G.K = X.K) (hm : X.mg "isinstance" = none) (hD : X.mg D = some (.ref (He.ga X.K D))) (hs : ∀ c b, sub c D = some b → IsC X.K (He.ga X.K c) ∧ PySem.W.kitOne X.K (.ref (He.ga X.K c)) (.ref (He.ga X.K D)) = some b) (ha : PE X a (TEx G W da))
    (hg : Gl X "isinstance" := by rfl) (hgD : Gl X D := by rfl) (hd : (D == ("__debug__" : Str)) = false := by decide) (h1 : starEach [a, .Name D p2] X.env = (false, eval a X.env) :: starEach [.Name D p2] X.env := by rfl) (h2 : starEach [.Name D p2] X.env = (false, eval (.Name D p2) X.env) :: starEach [] X.env := by rfl)
    (h3 : (backTo pos (starEach [.Name D p2] X.env)).any (·.1) = false := by rfl) : PE X (.Call (.Name "isinstance" p) [a, .Name D p2] [] pos) (TEx G W (eIsX sub D da)) := by
  refine PEw (pe_callB call_isx hg hm (by decide +kernel) (pa_cons ha (pa_cons (pe_glob (v := .ref (He.ga X.K D)) hgD hD rfl hd) pa_nil h2) h1) (by decide) (by decide) h1 h3) fun σ H Q h => ?_
  obtain ⟨rho, mu, m, Own, S, h⟩ := h.un
  refine TEx.to S (wp_bnd h) fun x mu1 v H1 m1 h1 g1 S1 r1 => ?_
  obtain ⟨z, e, q⟩ := wp_opt h1
  obtain ⟨⟨c, fs⟩, e1, e2⟩ := Option.bind_eq_some_iff.mp e
  obtain ⟨b, e3, rfl⟩ := Option.map_eq_some_iff.mp e2
  obtain ⟨ad, d, us, rfl, ea, ed, _⟩ := S1.err e1 r1
  obtain ⟨i1, i2⟩ := hs c b e3
  rw [hK] at ea
  exact ⟨ad, d, _, _, us, b, rfl, ea, ed, i1, i2, q _ H1 m1 g1 S1 (.bl b)⟩
theorem c_atx {cls : List Str} (hK : G.K = X.K) (hc : ∀ c ∈ cls, IsC X.K (He.ga X.K c) ∧ PySem.W.findIn X.K (.ref (He.ga X.K c)) f = some none) (ha : PE X a (TEx G W da)) (hb : attributeBase a f X.env (eval a X.env) = eval a X.env := by rfl) : PE X (.Attribute a f pos) (TEx G W (eAtX cls f da)) := by
  refine ⟨fun pins s σ H Q I h => attr_of hb (thn (ha.run pins s σ H (fun v H1 => ∃ ad d C us w, v = .ref ad ∧ H1 ad = some (exq ad C d) ∧ H1 d = some (.xd us) ∧ IsC X.K C ∧ PySem.W.findIn X.K (.ref C) f = some none ∧ us.lookup f = some w ∧ Q w H1) I ?_) fun u s1 hh => ?_)⟩
  · obtain ⟨rho, mu, m, Own, S, h⟩ := h.un
    refine TEx.to S (wp_bnd h) fun x mu1 v H1 m1 h1 g1 S1 r1 => ?_
    obtain ⟨z, e, q⟩ := wp_opt h1
    obtain ⟨⟨c, fs⟩, e1, e2⟩ := Option.bind_eq_some_iff.mp e
    obtain ⟨hm, e3⟩ := ite_inv2 e2
    obtain ⟨ad, d, us, rfl, ea, ed, pr⟩ := S1.err e1 r1
    obtain ⟨w, ew, rw'⟩ := RF.look pr e3
    rw [hK] at ea
    exact ⟨ad, d, _, us, w, rfl, ea, ed, (hc c hm).1, (hc c hm).2, ew, q w H1 m1 g1 S1 rw'⟩
  · obtain ⟨x, H1, I1, rx, ad, d, C, us, w, rfl, ea, ed, c, hn, el, q⟩ := hh
    obtain rfl : u = Value.ref ad := rx
    obtain ⟨oe, od, J, lk⟩ := inst_of I1 ea ed
    obtain ⟨u, hu, ru⟩ := lk f w el
    exact PySem.HandSPX.exc_get I1.kIn J c.ga c.gt c.ex (PySem.W.findObj_own c.hd hn rfl hu) (handed_of ru) ⟨w, H1, I1.tok _, ru, q⟩
end
end Sk

/-! Sk Zj: x in a tuple; (*xs, y); min of three. -/
namespace Sk
open PySem PySem.Spec L2
section
variable {X : Cx} {G : Fr} {W : WX}
/-! ### x in a tuple -/
def rInT (K : PySem.W.Frag) (neg : Bool) : R2 := fun x y H Q => ∃ d ds, Dp K H x d ∧ Dp K H y (.tuple ds) ∧ SeqAt.shaped d = true ∧ SeqAt.shaped (.tuple ds) = true ∧ Q (.bl (if neg = true then !ds.any fun z => PyData.eqv z d else ds.any fun z => PyData.eqv z d)) H
theorem lay_tup {ds : List PyData} (h : SeqAt.shaped (.tuple ds) = true) : PyData.canLayAll0 ds = true ∧ PyData.depthAll ds + 1 ≤ 64 := by
  have h : (PyData.canLayAll0 ds && decide (PyData.depthAll ds + 1 ≤ 64)) = true := h
  rw [Bool.and_eq_true, decide_eq_true_iff] at h
  exact h
theorem op_inT (hu : X.A.units + 65 < cLine) : OpR X (compareOp .In) (rInT X.K false) := by
  intro pins s σ H x y v u Q I rx ry h
  obtain ⟨d, ds, hd, he, sd, se, q⟩ := h
  obtain ⟨as, r1⟩ := Dp.reads I d x v hd rx
  obtain ⟨bs, r2⟩ := Dp.reads I (.tuple ds) y u he ry
  obtain ⟨l1, l2⟩ := lay_tup se
  exact SeqAt.in_tuple_reads r2 r1 l1 (SeqAt.canLay_of_shaped sd) (by omega) ⟨.bl _, H, I, rfl, q⟩
theorem op_notInT (hu : X.A.units + 65 < cLine) : OpR X (compareOp .NotIn) (rInT X.K true) := by
  intro pins s σ H x y v u Q I rx ry h
  obtain ⟨d, ds, hd, he, sd, se, q⟩ := h
  obtain ⟨as, r1⟩ := Dp.reads I d x v hd rx
  obtain ⟨bs, r2⟩ := Dp.reads I (.tuple ds) y u he ry
  obtain ⟨l1, l2⟩ := lay_tup se
  exact SeqAt.notIn_tuple_reads r2 r1 l1 (SeqAt.canLay_of_shaped sd) (by omega) ⟨.bl _, H, I, rfl, q⟩
def inTD : Da → Da → Option Da
  | x, .tup ys => if okEq x (.tup ys) = true then some (.bl (ys.any fun z => PyData.eqv (toPy z) (toPy x))) else none
  | _, _ => none
def ninTD : Da → Da → Option Da
  | x, .tup ys => if okEq x (.tup ys) = true then some (.bl (!ys.any fun z => PyData.eqv (toPy z) (toPy x))) else none
  | _, _ => none
theorem o_inT (hu : X.A.units + 65 < cLine) : OpD X (compareOp .In) inTD := by
  refine ⟨_, op_inT hu, fun m B H x y z a b Q e rx ry fr q => ?_⟩
  cases y with
  | tup ys =>
    obtain ⟨hz, rfl⟩ := ite_inv e
    unfold okEq at hz
    simp only [Bool.and_eq_true] at hz
    refine ⟨_, _, RD.dp rx hz.1.1.1, RD.dp ry hz.1.1.2, hz.1.2, hz.2, ?_⟩
    rw [any_py]
    exact q _ _ (Same.refl _) (.bl _)
  | _ => cases e
theorem o_ninT (hu : X.A.units + 65 < cLine) : OpD X (compareOp .NotIn) ninTD := by
  refine ⟨_, op_notInT hu, fun m B H x y z a b Q e rx ry fr q => ?_⟩
  cases y with
  | tup ys =>
    obtain ⟨hz, rfl⟩ := ite_inv e
    unfold okEq at hz
    simp only [Bool.and_eq_true] at hz
    refine ⟨_, _, RD.dp rx hz.1.1.1, RD.dp ry hz.1.1.2, hz.1.2, hz.2, ?_⟩
    rw [any_py]
    exact q _ _ (Same.refl _) (.bl _)
  | _ => cases e
/-! ### (*xs, y) -/
def aS (a : EvD) (r : Ev → Mem → Out (List Da)) : Ev → Mem → Out (List Da) := fun rho mu => bnd (a rho mu) fun x mu1 => match x with
  | .tup xs => bnd (r rho mu1) fun ys mu2 => .ok (xs ++ ys) mu2
  | _ => .bad
def eTupZ (r : Ev → Mem → Out (List Da)) : EvD := fun rho mu => bnd (r rho mu) fun xs mu1 => if xs.length ≤ sizeLine then .ok (.tup xs) mu1 else .bad
theorem c_star {e : Expr} {es : List Expr} {d : EvD} {r : Ev → Mem → Out (List Da)} {p : Pos} (he : PE X e (TEx G W d)) (hr : PA X es (TAx G W r)) (hs : starEach (.Starred e p :: es) X.env = (true, eval e X.env) :: starEach es X.env := by rfl) : PA X (.Starred e p :: es) (TAx G W (aS d r)) := by
  refine PAw (StX.pa_star he hr hs) fun σ H Q h => ?_
  obtain ⟨rho, mu, m, Own, S, h⟩ := h.un
  refine TEx.to S (wp_bnd h) fun x mu1 v H1 m1 h1 g1 S1 r1 => ?_
  cases x with
  | tup xs =>
    cases r1 with
    | tup a1 a2 a3 a4 =>
      refine ⟨_, _, rfl, .inl (SqT.of a3), TAx.to S1 (wp_step g1 (wp_bnd h1)) fun ys mu2 vs H2 m2 h2 g2 S2 r2 => ?_⟩
      exact h2 _ H2 m2 (g1.trans g2) S2 ((RDs.mono (g2.le _) a4).append r2)
  | _ => exact h1.elim
theorem c_tupZ {es : List Expr} {x1} {pos : Pos} {r : Ev → Mem → Out (List Da)} (h : PA X es (TAx G W r)) : PE X (.Tuple es x1 pos) (TEx G W (eTupZ r)) := by
  refine PEw (pe_tup h) fun σ H Q h => ?_
  obtain ⟨rho, mu, m, Own, S, h⟩ := h.un
  refine TAx.to S (wp_bnd h) fun x mu1 v1 H1 m1 h1 g1 S1 r1 => ?_
  by_cases hl : x.length ≤ sizeLine
  · rw [if_pos hl] at h1
    refine ⟨by rw [← r1.length]; exact hl, fun p hp => ?_⟩
    obtain ⟨f1, f2⟩ := S1.fresh hp
    exact h1 _ _ m1 (g1.trans (Lf.of_same (same_upd hp))) (S1.same (same_upd hp)) (RD.new_tup r1 hp f1 f2)
  · rw [if_neg hl] at h1
    exact h1.elim
/-! ### min of three -/
def min3D : List Da → Option Da
  | [.int i, .int j, .int k] => some (.int (min (min i j) k))
  | _ => none
theorem b_min3 (hc : X.calm = true) : CallD X (.builtin "min") min3D := by
  refine ⟨_, call_min3Nu hc, fun m B H xs z vs Q e r fr q => ?_⟩
  match xs, e with
  | [.int i, .int j, .int k], e =>
    cases e
    cases r with
    | cons r1 r2 => cases r2 with
      | cons r2 r3 => cases r3 with
        | cons r3 r4 =>
          cases r4
          cases r1
          cases r2
          cases r3
          refine ⟨.int i, .int j, .int k, .int (min (min i j) k), rfl, ?_, q _ _ (Same.refl _) (.int _)⟩
          have two : ∀ a b : Int, nuMin2 (.int a) (.int b) = some (.int (min a b)) := fun a b => by
            show some (if decide (b < a) = true then V.int b else V.int a) = _
            by_cases h : b < a
            · rw [if_pos (decide_eq_true h), Int.min_eq_right (by omega)]
            · rw [if_neg (by simpa using h), Int.min_eq_left (by omega)]
          show (nuMin2 (.int i) (.int j)).bind (fun m => nuMin2 m (.int k)) = _
          rw [two, Option.bind_some, two]
end
end Sk

/-! Sk Zk: the head's facts of classes: methods, properties, own errors. -/
namespace Sk
open PySem PySem.Spec L2
/-- where a def stands -/
inductive Whr where
  | glo (x : Str) | meth (c m : Str) | prop (c p : Str)
def propG (K : PySem.W.Frag) (p : Addr) : Addr := match PySem.W.recIn K p "property" with
  | some (.ref g :: _) => g
  | _ => 0
def Whr.ad (K : PySem.W.Frag) : Whr → Addr
  | .glo x => He.ga K x
  | .meth c m => He.ma K (He.ga K c) m
  | .prop c p => propG K (He.ma K (He.ga K c) p)
/-- a def as a datum -/
structure DA where
  at_ : Whr
  name : Str
  qual : Str
  params : Arguments
  body : List Stmt
  scope : Scope
  dfl : List He.Dv := []
def fnWA (K : PySem.W.Frag) (a : Addr) : He.FnW := match K.lookup a with
  | some ⟨_, _, .func fd, _⟩ => some (fd.name, fd.qualname, fd.params, fd.body, fd.scope, fd.globals, fd.closure, fd.builtins)
  | _ => none
def DA.val (d : DA) : He.FnW := some (d.name, d.qual, d.params, .stmts d.body, d.scope, mainGlobals, [], builtinsNs)
def DA.dvs (K : PySem.W.Frag) (d : DA) : List V := d.dfl.map (He.Dv.v K)
def DA.ok (K : PySem.W.Frag) (d : DA) : Bool := PySem.W.keepIn K (.ref (d.at_.ad K)) && (match K.lookup (d.at_.ad K) with
  | some ⟨_, _, .func fd, _⟩ => PySem.W.codeIn K fd.code d.qual && He.dflB K fd.defaults (d.dvs K)
  | _ => false)
theorem DA.funD {K : PySem.W.Frag} {d : DA} (e : fnWA K (d.at_.ad K) = d.val) (c : d.ok K = true) : ∃ fd, FunD K d.name d.qual d.params d.body d.scope (d.dvs K) [] (d.at_.ad K) fd := by
  obtain ⟨kp, c2⟩ := He.ba c
  unfold fnWA at e
  cases q : K.lookup (d.at_.ad K) with
  | none => rw [q] at c2; cases c2
  | some o =>
    obtain ⟨oc, od, dt, osl⟩ := o
    rw [q] at c2 e
    cases dt with
    | func fd =>
      obtain ⟨n1, n2, n3, n4, n5, n6, n7, n8, n9, n10, n11, n12, n13, n14, n15⟩ := fd
      have e2 : (some (n1, n2, n3, n4, n5, n6, n7, n15) : He.FnW) = some (d.name, d.qual, d.params, .stmts d.body, d.scope, mainGlobals, [], builtinsNs) := e
      simp only [Option.some.injEq, Prod.mk.injEq] at e2
      obtain ⟨h1, h2, h3, h4, h5, h6, h7, h8⟩ := e2
      subst h1 h2 h3 h4 h5 h6 h7 h8
      obtain ⟨k1, k2⟩ := He.ba (show (PySem.W.codeIn K n13 d.qual && He.dflB K n8 (d.dvs K)) = true from c2)
      exact ⟨_, ⟨oc, od, n8, n9, n10, n11, n12, n13, n14, osl, rfl, q, k1, He.dflB_ok k2, .inl rfl⟩, kp⟩
    | _ => cases c2
/-! ### what the head reads -/
abbrev AlA : Type := (Bool × List He.FnW) × Bool
def obsK (fa : List He.Fa) (fn : List DA) (ex : PySem.W.Frag → Bool) (K : PySem.W.Frag) : AlA := (((fa.all fun f => f.ok K) && fn.all fun d => d.ok K, fn.map fun d => fnWA K (d.at_.ad K)), ex K && noList K)
def valA (fn : List DA) : AlA := ((true, fn.map DA.val), true)
def SaysA (fa : List He.Fa) (fn : List DA) (ex : PySem.W.Frag → Bool) (K : PySem.W.Frag) : Prop := obsK fa fn ex K = valA fn
def obsA (n : Nat) (fa : List He.Fa) (fn : List DA) (ex : PySem.W.Frag → Bool) (g : Addr → Option Obj) : AlA × Bool := (obsK fa fn ex (He.frG g (asT g n)), tbB g (He.frG g (asT g n)))
def hookA (n : Nat) (fa : List He.Fa) (fn : List DA) (ex : PySem.W.Frag → Bool) : PySem.W.Hook where
  α := AlA × Bool
  obs := fun s => obsA n fa fn ex s.heap.get?
  val := fun _ => (valA fn, true)
  says := fun _ h => ∃ K : PySem.W.Frag, K.In h ∧ SaysA fa fn ex K ∧ TbHd K h
  of := fun _ _ e => ⟨_, He.frG_in, congrArg Prod.fst e, tbB_ok (congrArg Prod.snd e)⟩
  keeps := fun _ _ _ ⟨K, hK, c, t⟩ k => ⟨K, PySem.W.Frag.In.keeps hK k, c, t.keeps k⟩
theorem obsA_eq {n : Nat} {fa : List He.Fa} {fn : List DA} {ex : PySem.W.Frag → Bool} {g : Addr → Option Obj} {s : Shared} (h : ∀ a, g a = s.heap.get? a) : obsA n fa fn ex g = (hookA n fa fn ex).obs s := by
  have e : g = s.heap.get? := funext h
  rw [e]
  rfl
section
variable {fa : List He.Fa} {fn : List DA} {ex : PySem.W.Frag → Bool} {K : PySem.W.Frag}
theorem SaysA.fact (c : SaysA fa fn ex K) (i : Nat) {f : He.Fa} (h : fa[i]? = some f := by rfl) : f.ok K = true :=
  List.all_eq_true.mp (He.ba (congrArg (fun z : AlA => z.1.1) c)).1 f (List.mem_of_getElem? h)
theorem SaysA.more (c : SaysA fa fn ex K) : ex K = true := (He.ba (congrArg (fun z : AlA => z.2) c)).1
theorem SaysA.noL (c : SaysA fa fn ex K) : noList K = true := (He.ba (congrArg (fun z : AlA => z.2) c)).2
theorem SaysA.def_ (c : SaysA fa fn ex K) (i : Nat) {d : DA} (h : fn[i]? = some d := by rfl) : ∃ fd, FunD K d.name d.qual d.params d.body d.scope (d.dvs K) [] (d.at_.ad K) fd := by
  have c2 := (He.ba (congrArg (fun z : AlA => z.1.1) c)).2
  have e : fn.map (fun d => fnWA K (d.at_.ad K)) = fn.map DA.val := congrArg (fun z : AlA => z.1.2) c
  have e2 : (fn.map fun d => fnWA K (d.at_.ad K))[i]? = (fn.map DA.val)[i]? := by rw [e]
  rw [List.getElem?_map, List.getElem?_map, h] at e2
  exact DA.funD (Option.some.inj e2) (List.all_eq_true.mp c2 d (List.mem_of_getElem? h))
end
/-- the program's names -/
structure Ty (K : PySem.W.Frag) (mg : Str → Option Value) (h : Heap) (fa : List He.Fa) (fn : List DA) (ex : PySem.W.Frag → Bool) : Prop where
  kin : K.In h
  ns : h.Ns mainGlobals mg
  says : SaysA fa fn ex K
section
variable {K : PySem.W.Frag} {mg : Str → Option Value} {h : Heap} {fa : List He.Fa} {fn : List DA} {ex : PySem.W.Frag → Bool}
theorem Ty.fact (T : Ty K mg h fa fn ex) (i : Nat) {f : He.Fa} (e : fa[i]? = some f := by rfl) : f.ok K = true := T.says.fact i e
theorem Ty.free (T : Ty K mg h fa fn ex) (i : Nat) {x : Str} (e : fa[i]? = some (.free x) := by rfl) : mg x = none := He.free_ok T.kin T.ns (T.fact i e)
theorem Ty.glo (T : Ty K mg h fa fn ex) (i : Nat) {x : Str} (e : fa[i]? = some (.glo x) := by rfl) : mg x = some (.ref (He.ga K x)) := He.glo_ok T.kin T.ns (T.fact i e)
theorem Ty.int (T : Ty K mg h fa fn ex) (i : Nat) {x : Str} {z : Int} (e : fa[i]? = some (.int x z) := by rfl) : ∃ t, mg x = some (.int z t) := He.int_ok T.kin T.ns (T.fact i e)
theorem Ty.str (T : Ty K mg h fa fn ex) (i : Nat) {x z : Str} (e : fa[i]? = some (.str x z) := by rfl) : ∃ t, mg x = some (.str z t) := He.str_ok T.kin T.ns (T.fact i e)
end
abbrev dOfA (x : Str) (st : Stmt) : DA := { at_ := .glo x, name := x, qual := x, params := defArgs st, body := defBody st, scope := defScope st }
theorem Df.ofA {P : Program} {w : World} {K : PySem.W.Frag} {mg : Str → Option Value} {base : Heap} {h : Heap} {fa : List He.Fa} {fn : List DA} {ex : PySem.W.Frag → Bool} {k n z : Nat} {x : Str} {st : Stmt} {N ps : List Str} {bd : StD} (T : Ty K mg h fa fn ex) (i j : Nat) (S : FnScope N ps (defScope st))
    (hb : ∀ (cdv : Value) (A : Around) (out : List Env) (s : Shared) (H : Hp) (E : XK) (G : Fr), G.K = K → Rm k (A.deeper (PyProof.Rows.envOfC x (defScope st) s.heap.objs.size (He.ga K x) cdv)) →
      Takes (cxOf (CXx P w) P w K mg base N x (defScope st) (He.ga K x) cdv A out s H E) (fun c d _ H' => E c d H') →
      PassesOwn (model P w) (A.deeper (PyProof.Rows.envOfC x (defScope st) s.heap.objs.size (He.ga K x) cdv)) (PyProof.Rows.envOfC x (defScope st) s.heap.objs.size (He.ga K x) cdv) (cxOf (CXx P w) P w K mg base N x (defScope st) (He.ga K x) cdv A out s H E).xe →
      PSs (cxOf (CXx P w) P w K mg base N x (defScope st) (He.ga K x) cdv A out s H E) (defBody st) (TSx G (fun c d _ H' => E c d H') bd))
    (hd : fn[i]? = some (dOfA x st) := by rfl) (hf : fa[j]? = some (.glo x) := by rfl) (hn : ps.length = n := by rfl) (hN : N.length = n + z := by rfl) : Df P w K mg base (k + 1) x st ps (fnD n z bd) := by
  obtain ⟨fd, F⟩ := T.says.def_ i hd
  exact ⟨⟨fd, F, fnG_ok F S hn hN fun cdv A out s H E G e hr => hb cdv A out s H E G e hr (takes_of rfl rfl rfl rfl) (passes_of rfl)⟩, T.glo j hf⟩
/-! ### methods and properties -/
abbrev dOfM (c m : Str) (st : Stmt) (dfl : List He.Dv := []) : DA := { at_ := .meth c m, name := m, qual := c ++ ("." : Str) ++ m, params := defArgs st, body := defBody st, scope := defScope st, dfl := dfl }
abbrev dOfP (c m : Str) (st : Stmt) : DA := { at_ := .prop c m, name := m, qual := c ++ ("." : Str) ++ m, params := defArgs st, body := defBody st, scope := defScope st }
/-- a def at an address that does what f does -/
structure Dm (P : Program) (w : World) (K : PySem.W.Frag) (mg : Str → Option Value) (base : Heap) (k : Nat) (wh : Whr) (name qual : Str) (st : Stmt) (dvs : List V) (ps : List Str) (fn : Fn) : Prop where
  ex : ∃ fd, FunD K name qual (defArgs st) (defBody st) (defScope st) dvs [] (wh.ad K) fd ∧ FnG P w K mg base k (wh.ad K) fd ps (spOf K fn)
theorem Dm.of {P : Program} {w : World} {K : PySem.W.Frag} {mg : Str → Option Value} {base : Heap} {h : Heap} {fa : List He.Fa} {fn : List DA} {ex : PySem.W.Frag → Bool} {k n z : Nat} {wh : Whr} {name qual : Str} {st : Stmt} {dfl : List He.Dv} {N ps : List Str} {bd : StD} (T : Ty K mg h fa fn ex) (i : Nat) (S : FnScope N ps (defScope st))
    (hb : ∀ (cdv : Value) (A : Around) (out : List Env) (s : Shared) (H : Hp) (E : XK) (G : Fr), G.K = K → Rm k (A.deeper (PyProof.Rows.envOfC qual (defScope st) s.heap.objs.size (wh.ad K) cdv)) →
      Takes (cxOf (CXx P w) P w K mg base N qual (defScope st) (wh.ad K) cdv A out s H E) (fun c d _ H' => E c d H') →
      PassesOwn (model P w) (A.deeper (PyProof.Rows.envOfC qual (defScope st) s.heap.objs.size (wh.ad K) cdv)) (PyProof.Rows.envOfC qual (defScope st) s.heap.objs.size (wh.ad K) cdv) (cxOf (CXx P w) P w K mg base N qual (defScope st) (wh.ad K) cdv A out s H E).xe →
      PSs (cxOf (CXx P w) P w K mg base N qual (defScope st) (wh.ad K) cdv A out s H E) (defBody st) (TSx G (fun c d _ H' => E c d H') bd))
    (hd : fn[i]? = some { at_ := wh, name := name, qual := qual, params := defArgs st, body := defBody st, scope := defScope st, dfl := dfl } := by rfl) {dvs : List V} (hdv : dfl.map (He.Dv.v K) = dvs := by rfl) (hn : ps.length = n := by rfl) (hN : N.length = n + z := by rfl) : Dm P w K mg base (k + 1) wh name qual st dvs ps (fnD n z bd) := by
  obtain ⟨fd, F⟩ := T.says.def_ i hd
  subst hdv
  exact ⟨fd, F, fnG_ok F S hn hN fun cdv A out s H E G e hr => hb cdv A out s H E G e hr (takes_of rfl rfl rfl rfl) (passes_of rfl)⟩
end Sk

/-! Sk Zl: classes by names: calls, properties, making; own errors by names. -/
namespace Sk
open PySem PySem.Spec L2
theorem ba3 {a b : Bool} (h : (a && b) = true) : a = true ∧ b = true := Bool.and_eq_true_iff.mp h
/-! ### own errors -/
inductive Xb where
  | ve | oe | re
def Xb.B : Xb → String
  | .ve => "ValueError" | .oe => "OverflowError" | .re => "RuntimeError"
def Xb.nw : Xb → String
  | .ve => "ValueError.__new__" | .oe => "OverflowError.__new__" | .re => "RuntimeError.__new__"
def Xb.ini : Xb → String
  | .ve => "ValueError.__init__" | .oe => "OverflowError.__init__" | .re => "RuntimeError.__init__"
def Xb.bm : Xb → List Value
  | .ve => [.type "ValueError", .type "Exception", .type "BaseException", .type "object"]
  | .oe => [.type "OverflowError", .type "ArithmeticError", .type "Exception", .type "BaseException", .type "object"]
  | .re => [.type "RuntimeError", .type "Exception", .type "BaseException", .type "object"]
theorem Xb.base (x : Xb) : ExcBaseFacts x.B x.nw x.ini x.bm := by
  cases x
  · exact F.excBase_ValueError
  · exact F.excBase_OverflowError
  · exact F.excBase_RuntimeError
theorem Xb.store (x : Xb) : StoreFacts x.B x.bm "object.__setattr__" "object" := by
  cases x
  · exact F.store_ValueError
  · exact F.store_OverflowError
  · exact F.store_RuntimeError
/-- what is read of the class of an own error with the field f -/
def xcB (K : PySem.W.Frag) (c f : Str) (x : Xb) : Bool :=
  PySem.W.excInitIn K (He.ga K c) x.bm x.nw && (PySem.W.excOver K (He.ga K c) x.bm && (PySem.W.hasDictIn K (He.ga K c) && (He.eqO (PySem.W.findIn K (.ref (He.ga K c)) "__setattr__") (some (some (.builtin "object.__setattr__"))) &&
  (decide (PySem.W.subIn K (.ref (He.ga K c)) (.type "BaseException") = some true) && (decide (PySem.W.typeIn K (.ref (He.ga K c)) = some (.type "type")) && (PySem.W.keepIn K (.ref (He.ga K c)) &&
  (decide (PySem.W.takerIn K (He.ga K c) f = some none) && (He.eqO (PySem.W.findIn K (.ref (He.ga K c)) "__init__") (some (some (.ref (He.ma K (He.ga K c) "__init__")))) && decide (PySem.W.typeIn K (.ref (He.ma K (He.ga K c) "__init__")) = some (.type "function"))))))))))
structure XcF (K : PySem.W.Frag) (c f : Str) (x : Xb) : Prop where
  xc : XC K (He.ga K c) x.B x.nw x.ini x.bm
  tk : PySem.W.takerIn K (He.ga K c) f = some none
  ini : PySem.W.findIn K (.ref (He.ga K c)) "__init__" = some (some (.ref (He.ma K (He.ga K c) "__init__")))
  ty : PySem.W.typeIn K (.ref (He.ma K (He.ga K c) "__init__")) = some (.type "function")
theorem xcB_ok {K : PySem.W.Frag} {c f : Str} {x : Xb} (h : xcB K c f x = true) : XcF K c f x := by
  obtain ⟨h1, h⟩ := ba3 h
  obtain ⟨h2, h⟩ := ba3 h
  obtain ⟨h3, h⟩ := ba3 h
  obtain ⟨h4, h⟩ := ba3 h
  obtain ⟨h5, h⟩ := ba3 h
  obtain ⟨h6, h⟩ := ba3 h
  obtain ⟨h7, h⟩ := ba3 h
  obtain ⟨h8, h⟩ := ba3 h
  obtain ⟨h9, h10⟩ := ba3 h
  exact ⟨⟨x.base, x.store, h1, h2, h3, He.eqO_ok h4, of_decide_eq_true h5, of_decide_eq_true h6, h7⟩, of_decide_eq_true h8, He.eqO_ok h9, of_decide_eq_true h10⟩
/-- a class of the text whose __init__ is the built-in id -/
def giB (K : PySem.W.Frag) (c : Str) (id : String) : Bool := PySem.W.readsIn K (He.ga K c) (.type "type") && (He.eqO (PySem.W.specialIn K (.ref (He.ga K c)) "__getattribute__") (some (some (.builtin "type.__getattribute__"))) && (match PySem.W.findCls K (.ref (He.ga K c)) (.type "type") "__init__" with
  | some (.val (.builtin i)) => decide (i = id)
  | _ => false))
theorem giB_ok {X : Cx} {c : Str} {id : String} (h : giB X.K c id = true) (hh : PySem.W.handedIn (.builtin id) = true) : GetsB X (.ref (He.ga X.K c)) id := by
  obtain ⟨h1, h⟩ := ba3 h
  obtain ⟨h2, h3⟩ := ba3 h
  refine getsB_cls h1 (He.eqO_ok h2) ?_ hh
  split at h3
  · rename_i i e
    rw [e, of_decide_eq_true h3]
  · cases h3
theorem gets_oe {X : Cx} : GetsB X (.type "OverflowError") "OverflowError.__init__" := getsB_typ (by kernel_rfl) (by decide +kernel) (by kernel_rfl) (by decide +kernel)
theorem gets_re {X : Cx} : GetsB X (.type "RuntimeError") "RuntimeError.__init__" := getsB_typ (by kernel_rfl) (by decide +kernel) (by kernel_rfl) (by decide +kernel)
theorem spX1_len {K : PySem.W.Frag} {C : Addr} {f : Str} {ps : List Str} (hp : ps.length = 2) : ∀ vs H Q E, spX1 K C f vs H Q E → vs.length = ps.length := by
  rintro vs H Q E ⟨a, v, rfl, _⟩
  rw [hp]
  rfl
/-- what __init__(self, y) of such a class does, by its two rows -/
abbrev tIni (K : PySem.W.Frag) (id : String) (txt f : Str) : TS := tSeq (tDrop (tXi K id (tCons (tVar 0) (tCons (tC (.str txt)) tNil)))) (tXs K f (tVar 0) (tVar 1))
theorem Dx.of {P : Program} {w : World} {K : PySem.W.Frag} {mg : Str → Option Value} {base : Heap} {h : Heap} {fa : List He.Fa} {fn : List DA} {ex : PySem.W.Frag → Bool} {c f txt y : Str} {x : Xb} {st : Stmt} (T : Ty K mg h fa fn ex) (i j : Nat) (F : XcF K c f x) (S : FnScope ["self", y] ["self", y] (defScope st))
    (hb : ∀ (cdv : Value) (A : Around) (out : List Env) (s : Shared) (H : Hp) (E : XK), PSs (cxOf (CXx P w) P w K mg base ["self", y] (c ++ ("." : Str) ++ "__init__") (defScope st) (He.ma K (He.ga K c) "__init__") cdv A out s H E) (defBody st) (tIni K x.ini txt f))
    (hbd : ∀ (kV doc pm : Value) (an : Option Addr) (cdv ct : Value) (us : List Value), us.length = 2 → bindArgs (PySem.W.fnOf "__init__" (c ++ ("." : Str) ++ "__init__") (defArgs st) (defBody st) (defScope st) .none kV doc pm an cdv ct) ⟨us, []⟩ = pure ([("self" : Str), y].zip us))
    (hd : fn[i]? = some (dOfM c "__init__" st) := by rfl) (hf : fa[j]? = some (.glo c) := by rfl) : Dx P w K mg base c f := by
  obtain ⟨fd, hfd⟩ := T.says.def_ i hd
  refine ⟨⟨x.B, x.nw, x.ini, x.bm, _, fd, ["self", y], F.xc, F.ini, F.ty, ?_, FunD.bindsN (ps := ["self", y]) hfd hbd⟩, T.glo j hf⟩
  refine fnG_any (k := 0) (N := ["self", y]) (t := tIni K x.ini txt f) hfd S (spX1_len rfl) (fun cdv A out s H E hr => hb cdv A out s H E) fun vs H Q E h => ?_
  obtain ⟨a, v, rfl, e, q⟩ := h
  refine ⟨.ref a, rfl, a, He.ga K c, x.B, x.nw, x.bm, [.str txt], rfl, by show 1 ≤ 1000; decide, F.xc, e, ?_⟩
  exact ⟨v, rfl, .ref a, rfl, a, He.ga K c, x.B, x.nw, x.ini, x.bm, rfl, F.xc, F.tk, e, q⟩
/-! ### methods, properties, making by names -/
abbrev BindQ (x qual : Str) (st : Stmt) (ps : List Str) : Prop := ∀ (kV doc pm : Value) (an : Option Addr) (cdv ct : Value) (us : List Value), us.length = ps.length → bindArgs (PySem.W.fnOf x qual (defArgs st) (defBody st) (defScope st) .none kV doc pm an cdv ct) ⟨us, []⟩ = pure (ps.zip us)
/-- one default at the end, left out -/
abbrev BindQ1 (x qual : Str) (st : Stmt) (ps : List Str) : Prop := ∀ (T : Addr) (kV doc pm : Value) (an : Option Addr) (cdv ct : Value) (us its : List Value), us.length + 1 = ps.length → its.length = 1 →
  ∃ k, bindArgs (PySem.W.fnOf x qual (defArgs st) (defBody st) (defScope st) (.ref T) kV doc pm an cdv ct) ⟨us, []⟩ = seqItems? (.ref T) >>= k ∧ k (some its.toArray) = pure (ps.zip (us ++ its.drop 0))
section
variable {X : Cx} {G : Fr} {W : WX} {k lv : Nat} {c mn qual : Str} {st : Stmt} {ps : List Str} {fn : Fn} {e o : Expr} {es : List Expr} {dv : EvD} {r : Ev → Mem → Out (List Da)} {p pos apos : Pos}
theorem c_mcD (hK : G.K = X.K) (hc : Cls X.K (He.ga X.K c)) (hm : Meth X.K (He.ga X.K c) mn (He.ma X.K (He.ga X.K c) mn)) (T : Dm X.prog X.w X.K X.mg X.base k (.meth c mn) mn qual st [] ps fn) (hb : BindQ mn qual st ps) (hr : Rm lv X.A) (tk : Takes X W) (ho : PE X o (TEx G W dv)) (ha : PA X (e :: es) (TAx G W r)) (hlv : k ≤ lv := by decide)
    (he : starEach (e :: es) X.env = (false, eval e X.env) :: starEach es X.env := by rfl) (hpl : (backTo pos (starEach es X.env)).any (·.1) = false := by rfl) {pl : Sem Bool}
    (ht : eval (.Call (.Attribute o mn apos) (e :: es) [] pos) X.env = (do
      let ov ← eval o X.env
      standAt apos.atName
      let (f, first) ← holding [ov] (getMethod ov mn pl)
      callWith pos f first (backTo pos (starEach (e :: es) X.env)) (backToKw pos (keywordEach [] X.env))) := by rfl) : PE X (.Call (.Attribute o mn apos) (e :: es) [] pos) (TEx G W (eMc c mn fn [] dv r)) := by
  obtain ⟨fd, F1, F2⟩ := T.ex
  exact c_mc (dvs := []) (ds := []) hK hc hm F2 hr (F1.bindsN hb) .nil (fun _ _ _ => .nil) tk ho ha hlv he hpl ht
theorem c_mcD0 (hK : G.K = X.K) (hc : Cls X.K (He.ga X.K c)) (hm : Meth X.K (He.ga X.K c) mn (He.ma X.K (He.ga X.K c) mn)) (T : Dm X.prog X.w X.K X.mg X.base k (.meth c mn) mn qual st [] ps fn) (hb : BindQ mn qual st ps) (hr : Rm lv X.A) (tk : Takes X W) (ho : PE X o (TEx G W dv)) (hlv : k ≤ lv := by decide) {pl : Sem Bool}
    (ht : eval (.Call (.Attribute o mn apos) [] [] pos) X.env = (do
      let ov ← eval o X.env
      standAt apos.atName
      let (f, first) ← holding [ov] (getMethod ov mn pl)
      callWith pos f first (backTo pos (starEach [] X.env)) (backToKw pos (keywordEach [] X.env))) := by rfl) : PE X (.Call (.Attribute o mn apos) [] [] pos) (TEx G W (eMc c mn fn [] dv aN)) := by
  obtain ⟨fd, F1, F2⟩ := T.ex
  exact c_mc0 (dvs := []) (ds := []) hK hc hm F2 hr (F1.bindsN hb) .nil (fun _ _ _ => .nil) tk ho hlv ht
/-- .. with one int as default -/
theorem c_mcI0 {n : Int} (hK : G.K = X.K) (hc : Cls X.K (He.ga X.K c)) (hm : Meth X.K (He.ga X.K c) mn (He.ma X.K (He.ga X.K c) mn)) (T : Dm X.prog X.w X.K X.mg X.base k (.meth c mn) mn qual st [.int n] ps fn) (hb : BindQ1 mn qual st ps) (hps : ps.length = 2) (hr : Rm lv X.A) (tk : Takes X W) (ho : PE X o (TEx G W dv)) (hlv : k ≤ lv := by decide) {pl : Sem Bool}
    (ht : eval (.Call (.Attribute o mn apos) [] [] pos) X.env = (do
      let ov ← eval o X.env
      standAt apos.atName
      let (f, first) ← holding [ov] (getMethod ov mn pl)
      callWith pos f first (backTo pos (starEach [] X.env)) (backToKw pos (keywordEach [] X.env))) := by rfl) : PE X (.Call (.Attribute o mn apos) [] [] pos) (TEx G W (eMc c mn fn [.int n] dv aN)) := by
  obtain ⟨fd, F1, F2⟩ := T.ex
  obtain ⟨ds, v1, b1⟩ := F1.binds1 (ps := ps) 1 0 (by simp) (by rw [hps]; rfl) fun T kV doc pm an cdv ct us its h1 h2 => hb T kV doc pm an cdv ct us its (by rw [h1, hps]) h2
  exact c_mc0 (dvs := [.int n]) hK hc hm F2 hr b1 v1 (fun _ _ _ => .cons (.int n) .nil) tk ho hlv ht
def propB (K : PySem.W.Frag) (c q : Str) : Bool := He.eqO (PySem.W.findIn K (.ref (He.ga K c)) q) (some (some (.ref (He.ma K (He.ga K c) q)))) && (He.eqO (PySem.W.specialIn K (.ref (He.ma K (He.ga K c) q)) "__get__") (some (some (.builtin "property.__get__"))) &&
  (decide (PySem.W.takesIn K (.ref (He.ma K (He.ga K c) q)) = some true) && (match PySem.W.recIn K (He.ma K (He.ga K c) q) "property" with
    | some (.ref _ :: _) => true
    | _ => false)))
theorem propB_ok {K : PySem.W.Frag} {c q : Str} (h : propB K c q = true) : PropOf K (He.ga K c) q (He.ma K (He.ga K c) q) (Whr.ad K (.prop c q)) := by
  obtain ⟨h1, h⟩ := ba3 h
  obtain ⟨h2, h⟩ := ba3 h
  obtain ⟨h3, h4⟩ := ba3 h
  refine ⟨He.eqO_ok h1, He.eqO_ok h2, of_decide_eq_true h3, ?_⟩
  show ∃ rest, PySem.W.recIn K (He.ma K (He.ga K c) q) "property" = some (.ref (propG K (He.ma K (He.ga K c) q)) :: rest)
  unfold propG
  cases e : PySem.W.recIn K (He.ma K (He.ga K c) q) "property" with
  | none => rw [e] at h4; cases h4
  | some l =>
    rw [e] at h4
    cases l with
    | nil => cases h4
    | cons v l =>
      cases v with
      | ref g => exact ⟨l, rfl⟩
      | _ => cases h4
theorem c_prD {an : Str} {a : Expr} {da : EvD} (hK : G.K = X.K) (hc : Cls X.K (He.ga X.K c)) (hp : propB X.K c an = true) (T : Dm X.prog X.w X.K X.mg X.base k (.prop c an) an qual st [] ps fn) (hb : BindQ an qual st ps) (hr : Rm lv X.A) (ha : PE X a (TEx G W da)) (hlv : k + 1 ≤ lv := by decide)
    (hab : attributeBase a an X.env (eval a X.env) = eval a X.env := by rfl) : PE X (.Attribute a an pos) (TEx G W (ePr c fn da)) := by
  obtain ⟨fd, F1, F2⟩ := T.ex
  exact c_pr hK hc (propB_ok hp) F2 hr (F1.bindsN hb) ha hlv hab
theorem c_mkD (hK : G.K = X.K) (M : Mk X.K (He.ga X.K c) (He.ma X.K (He.ga X.K c) "__init__")) (T : Dm X.prog X.w X.K X.mg X.base k (.meth c "__init__") "__init__" qual st [] ps fn) (hb : BindQ "__init__" qual st ps) (hr : Rm lv X.A) (hm : X.mg c = some (.ref (He.ga X.K c))) (tk : Takes X W) (ha : PA X (e :: es) (TAx G W r)) (hlv : k + 1 ≤ lv := by decide)
    (hg : Gl X c := by rfl) (hdb : (c == ("__debug__" : Str)) = false := by decide) (he : starEach (e :: es) X.env = (false, eval e X.env) :: starEach es X.env := by rfl) (hpl : (backTo pos (starEach es X.env)).any (·.1) = false := by rfl) : PE X (.Call (.Name c p) (e :: es) [] pos) (TEx G W (eMk c fn [] r)) := by
  obtain ⟨fd, F1, F2⟩ := T.ex
  exact c_mk (dvs := []) (ds := []) hK M F2 hr hm (F1.bindsN hb) .nil (fun _ _ _ => .nil) tk ha hlv hg hdb he hpl
end
end Sk

/-! Sk Zm: what the printed texts of laws with classes lean on. -/
namespace Sk
open PySem PySem.Spec L2
/-- a member of a class's body -/
def mem (s : Stmt) (j : Nat) : Stmt := match s with
  | .ClassDef _ _ _ body _ _ _ _ _ _ _ => body.getD j (.Pass ⟨0, 0, 0, 0⟩)
  | _ => .Pass ⟨0, 0, 0, 0⟩
abbrev exL (ps : List (PySem.W.Frag → Bool)) : PySem.W.Frag → Bool := fun K => ps.all fun p => p K
section
variable {K : PySem.W.Frag} {mg : Str → Option Value} {h : Heap} {fa : List He.Fa} {fn : List DA} {ps : List (PySem.W.Frag → Bool)}
theorem Ty.pred (T : Ty K mg h fa fn (exL ps)) (i : Nat) {p : PySem.W.Frag → Bool} (e : ps[i]? = some p := by rfl) : p K = true := List.all_eq_true.mp T.says.more p (List.mem_of_getElem? e)
theorem Ty.cls (T : Ty K mg h fa fn (exL ps)) (i : Nat) {c : Str} (e : fa[i]? = some (.cls c) := by rfl) : Cls K (He.ga K c) := He.cls_ok (T.fact i e)
theorem Ty.noat (T : Ty K mg h fa fn (exL ps)) (i : Nat) {c f : Str} (e : fa[i]? = some (.noat c f) := by rfl) : NoAttr K (He.ga K c) f := He.noat_ok (T.fact i e)
theorem Ty.meth (T : Ty K mg h fa fn (exL ps)) (i : Nat) {c m : Str} (e : fa[i]? = some (.meth c m) := by rfl) : Meth K (He.ga K c) m (He.ma K (He.ga K c) m) := He.meth_ok (T.fact i e)
theorem Ty.mkr (T : Ty K mg h fa fn (exL ps)) (i : Nat) {c : Str} (e : fa[i]? = some (.mkr c) := by rfl) : Mk K (He.ga K c) (He.ma K (He.ga K c) "__init__") := He.mkr_ok (T.fact i e)
theorem Ty.prop (T : Ty K mg h fa fn (exL ps)) (i : Nat) {c q : Str} (e : ps[i]? = some (fun K => propB K c q) := by rfl) : propB K c q = true := T.pred i e
end
end Sk

/-! Sk Zn: the calculus of instances. -/
namespace Sk
open PySem PySem.Spec L2
section
variable {rho : Ev} {mu : Mem} {P : Da → Mem → Prop} {Q : List Da → Mem → Prop} {D : Po} {a b : EvD} {r : Ev → Mem → Out (List Da)} {c f : Str} {fn : Fn} {dfl : List Da}
@[simp] theorem yes_eAt : Yes (eAt c f a rho mu) P ↔ Yes (a rho mu) fun x m => Yes (opt ((insAt c m x).bind fun p => dLook f p.2) m) P := yes_bnd
theorem at_yes {m : Mem} {x d : Da} {n : Nat} {fs : List (Str × Da)} (h : insAt c m x = some (n, fs)) (e : dLook f fs = some d) : (insAt c m x).bind (fun p => dLook f p.2) = some d := by rw [h]; exact e
@[simp] theorem sp_sAt : SP (sAt c f a b rho mu) D ↔ Yes (b rho mu) fun d m1 => Yes (a rho m1) fun x m2 => ∃ p, insAt c m2 x = some p ∧ p.2.length < 1000 ∧ D.nx rho (m2.set p.1 (.ins c (dPut f d p.2))) := by
  unfold sAt; simp only [sp_use]
  cases b rho mu with
  | ok d m =>
    simp only [yes_ok]
    cases a rho m with
    | ok x m2 =>
      simp only [yes_ok]
      cases h : insAt c m2 x with
      | none => exact ⟨fun z => z.elim, fun ⟨_, z, _⟩ => nomatch z⟩
      | some p =>
        dsimp only
        by_cases hl : p.2.length < 1000
        · rw [if_pos hl]; exact ⟨fun z => ⟨p, rfl, hl, z⟩, fun ⟨_, z, _, w⟩ => by cases z; exact w⟩
        · rw [if_neg hl]; exact ⟨fun z => z.elim, fun ⟨_, z, w, _⟩ => by cases z; exact (hl w).elim⟩
    | _ => exact Iff.rfl
  | _ => exact Iff.rfl
@[simp] theorem yes_eMc {m : Str} : Yes (eMc c m fn dfl a r rho mu) P ↔ Yes (a rho mu) fun x m1 => ∃ p, insAt c m1 x = some p ∧ (dLook m p.2).isNone = true ∧ Yes (r rho m1) fun xs m2 => Yes (fn (x :: (xs ++ dfl)) m2) P := by
  unfold eMc; rw [yes_bnd]
  cases a rho mu with
  | ok x m1 =>
    simp only [yes_ok]
    cases h : insAt c m1 x with
    | none => exact ⟨fun z => z.elim, fun ⟨_, z, _⟩ => nomatch z⟩
    | some p =>
      dsimp only
      by_cases hl : (dLook m p.2).isNone = true
      · rw [if_pos hl, yes_bnd]; exact ⟨fun z => ⟨p, rfl, hl, z⟩, fun ⟨_, z, _, w⟩ => by cases z; exact w⟩
      · rw [if_neg hl]; exact ⟨fun z => z.elim, fun ⟨_, z, w, _⟩ => by cases z; exact (hl w).elim⟩
  | _ => exact Iff.rfl
@[simp] theorem yes_ePr : Yes (ePr c fn a rho mu) P ↔ Yes (a rho mu) fun x m1 => ∃ p, insAt c m1 x = some p ∧ Yes (fn [x] m1) P := by
  unfold ePr; rw [yes_bnd]
  cases a rho mu with
  | ok x m1 =>
    simp only [yes_ok]
    cases h : insAt c m1 x with
    | none => exact ⟨fun z => z.elim, fun ⟨_, z, _⟩ => nomatch z⟩
    | some p =>
      dsimp only
      cases fn [x] m1 with
      | ok d m => exact ⟨fun z => ⟨p, rfl, z⟩, fun ⟨_, _, w⟩ => w⟩
      | _ => exact ⟨fun z => z.elim, fun ⟨_, _, w⟩ => w⟩
  | _ => exact Iff.rfl
@[simp] theorem yes_eMk : Yes (eMk c fn dfl r rho mu) P ↔ Yes (r rho mu) fun xs m1 => Yes (fn (.ref m1.length :: (xs ++ dfl)) (m1 ++ [.ins c []])) fun d m2 => d = .non ∧ P (.ref m1.length) m2 := by
  unfold eMk; rw [yes_bnd]
  simp only [yes_bnd]
  cases r rho mu with
  | ok xs m1 =>
    simp only [yes_ok]
    cases fn (.ref m1.length :: (xs ++ dfl)) (m1 ++ [.ins c []]) with
    | ok d m2 =>
      simp only [yes_ok]
      cases d with
      | non => exact ⟨fun z => ⟨rfl, z⟩, fun z => z.2⟩
      | _ => exact ⟨fun z => z.elim, fun z => nomatch z.1⟩
    | _ => exact Iff.rfl
  | _ => exact Iff.rfl
@[simp] theorem yes_aS : Yes (aS a r rho mu) Q ↔ Yes (a rho mu) fun x m1 => ∃ xs, x = .tup xs ∧ Yes (r rho m1) fun ys m2 => Q (xs ++ ys) m2 := by
  unfold aS; rw [yes_bnd]
  cases a rho mu with
  | ok x m1 =>
    simp only [yes_ok]
    cases x with
    | tup xs => simp only [yes_bnd, yes_ok]; exact ⟨fun z => ⟨xs, rfl, z⟩, fun ⟨_, e, z⟩ => by cases e; exact z⟩
    | _ => exact ⟨fun z => z.elim, fun ⟨_, e, _⟩ => nomatch e⟩
  | _ => exact Iff.rfl
@[simp] theorem yes_eTupZ : Yes (eTupZ r rho mu) P ↔ Yes (r rho mu) fun xs m => xs.length ≤ sizeLine ∧ P (.tup xs) m := by
  unfold eTupZ; rw [yes_bnd]
  cases r rho mu with
  | ok xs m =>
    simp only [yes_ok]
    by_cases h : xs.length ≤ sizeLine
    · rw [if_pos h]; exact ⟨fun z => ⟨h, z⟩, fun z => z.2⟩
    · rw [if_neg h]; exact ⟨fun z => z.elim, fun z => (h z.1).elim⟩
  | _ => exact Iff.rfl
@[simp] theorem yes_min3 {i j k : Int} : Yes (opt (min3D [.int i, .int j, .int k]) mu) P ↔ P (.int (min (min i j) k)) mu := Iff.rfl
end
/-- the last numbered thing -/
theorem insAt_last {mu : Mem} {c : Str} {fs : List (Str × Da)} : insAt c (mu ++ [.ins c fs]) (.ref mu.length) = some (mu.length, fs) := by
  have e : (mu ++ [Ob.ins c fs])[mu.length]? = some (.ins c fs) := by
    rw [List.getElem?_append_right (Nat.le_refl _), Nat.sub_self]
    rfl
  show (match (mu ++ [Ob.ins c fs])[mu.length]? with
    | some (.ins c' fs) => if c' = c then some (mu.length, fs) else none
    | _ => none) = _
  rw [e]
  exact if_pos rfl
theorem set_last {mu : Mem} {x y : Ob} : (mu ++ [x]).set mu.length y = mu ++ [y] := by
  rw [List.set_append_right _ _ (Nat.le_refl _), Nat.sub_self]
  rfl
end Sk

/-! Sk Zo: except by names; the defs of error classes by names. -/
namespace Sk
open PySem PySem.Spec L2
/-- which own error classes a clause catches -/
def hitL (l : List (Str × Bool)) : Str → Option Bool := fun x => l.lookup x
theorem lookup_in : ∀ {l : List (Str × Bool)} {x : Str} {b : Bool}, l.lookup x = some b → (x, b) ∈ l
  | [], _, _, h => nomatch h
  | (y, d) :: l, x, b, h => by
    rw [List.lookup_cons] at h
    cases e : x == y with
    | true =>
      rw [e] at h
      cases h
      rw [eq_of_beq e]
      exact List.mem_cons_self
    | false =>
      rw [e] at h
      exact List.mem_cons_of_mem _ (lookup_in h)
def hit1B (K : PySem.W.Frag) (c : Str) (l : List (Str × Bool)) : Bool := l.all fun p => decide (PySem.W.exmOne K (.ref (He.ga K p.1)) (.ref (He.ga K c)) = some p.2)
def hit2B (K : PySem.W.Frag) (c d : Str) (l : List (Str × Bool)) : Bool := l.all fun p => decide (PySem.W.exmAny K (.ref (He.ga K p.1)) [.ref (He.ga K c), .ref (He.ga K d)] = some p.2)
section
variable {X : Cx} {G : Fr} {W : WX} {c d f txt : Str} {l : List (Str × Bool)} {body suite : List Stmt} {b0 : Stmt} {b h : StD} {pos hpos np np2 tpos : Pos} {kk : Nat}
theorem s_try1 (hs : X.stack = X.env :: X.outer) (hf : X.env.frame = some X.env.locals) (hK : G.K = X.K) (hm : X.mg c = some (.ref (He.ga X.K c))) (hp : hit1B X.K c l = true) (tk : Takes X W)
    (hb : ∀ (W : WX) (pn : List (Addr × Obj)) (xe : Value → Shared → Prop), Takes (X.tr pn xe) W → PassesOwn (model X.prog X.w) X.A X.env xe → PSs (X.tr pn xe) body (TSx G W b))
    (hsu : ∀ (a : Addr) (oe : Obj) (pn : List (Addr × Obj)), PSs (X.suite a ((a, oe) :: pn)) (b0 :: suite) (TSx G W h)) (hg : Gl X c := by rfl) (hdb : (c == ("__debug__" : Str)) = false := by decide) :
    PS X (.Try body [.ExceptHandler (some (.Name c np)) none (b0 :: suite) hpos] [] [] pos) (TSx G W (sTryE (hitL l) b h)) :=
  s_tryE hs hf hK (test_one ⟨hg, hdb, .inl hm⟩) (fun x b e => of_decide_eq_true (List.all_eq_true.mp hp _ (lookup_in e))) tk hb hsu
theorem s_try2 (hs : X.stack = X.env :: X.outer) (hf : X.env.frame = some X.env.locals) (hK : G.K = X.K) (hm : X.mg c = some (.ref (He.ga X.K c))) (hm2 : X.mg d = some (.ref (He.ga X.K d))) (hp : hit2B X.K c d l = true) (tk : Takes X W)
    (hb : ∀ (W : WX) (pn : List (Addr × Obj)) (xe : Value → Shared → Prop), Takes (X.tr pn xe) W → PassesOwn (model X.prog X.w) X.A X.env xe → PSs (X.tr pn xe) body (TSx G W b))
    (hsu : ∀ (a : Addr) (oe : Obj) (pn : List (Addr × Obj)), PSs (X.suite a ((a, oe) :: pn)) (b0 :: suite) (TSx G W h)) (hg : Gl X c := by rfl) (hg2 : Gl X d := by rfl) (hdb : (c == ("__debug__" : Str)) = false := by decide) (hdb2 : (d == ("__debug__" : Str)) = false := by decide) :
    PS X (.Try body [.ExceptHandler (some (.Tuple [.Name c np, .Name d np2] kk tpos)) none (b0 :: suite) hpos] [] [] pos) (TSx G W (sTryE (hitL l) b h)) :=
  s_tryE hs hf hK (test_tup [((c, np), .ref (He.ga X.K c)), ((d, np2), .ref (He.ga X.K d))] (fun p hp => by
    rcases List.mem_cons.mp hp with rfl | hp
    · exact ⟨hg, hdb, .inl hm⟩
    · rcases List.mem_cons.mp hp with rfl | hp
      · exact ⟨hg2, hdb2, .inl hm2⟩
      · cases hp) (by show 2 ≤ 30; decide)) (fun x b e => of_decide_eq_true (List.all_eq_true.mp hp _ (lookup_in e))) tk hb hsu
/-- the two rows of an error class's __init__, its base a class of the text -/
theorem ini_own {a : Str} {id : String} {e : Expr} {es : List Expr} {ta : TA} {p1 p2 cp pos1 p3 : Pos} {o v : Expr} {to te : TE} {pl : Sem Bool} (hm : X.mg a = some (.ref (He.ga X.K a))) (hg : GetsB X (.ref (He.ga X.K a)) id) (ha : PA X (e :: es) ta) (ho : PE X o to) (hv : PE X v te)
    (hgl : Gl X a := by rfl) (hdb : (a == ("__debug__" : Str)) = false := by decide)
    (hc : eval (.Call (.Attribute (.Name a p1) "__init__" p2) (e :: es) [] cp) X.env = (do
      let ov ← eval (.Name a p1) X.env
      standAt p2.atName
      let (f, first) ← holding [ov] (getMethod ov "__init__" pl)
      callWith cp f first (backTo cp (starEach (e :: es) X.env)) (backToKw cp (keywordEach [] X.env))) := by rfl)
    (he : starEach (e :: es) X.env = (false, eval e X.env) :: starEach es X.env := by rfl) (hpl : (backTo cp (starEach es X.env)).any (·.1) = false := by rfl)
    (hs1 : swapsWith (.Call (.Attribute (.Name a p1) "__init__" p2) (e :: es) [] cp) none pos1.line X.env = pure false := by rfl) (hs2 : swapsWith v (some (.Attribute o f p3)) pos.line X.env = pure false := by rfl) :
    PSs X [.Expr (.Call (.Attribute (.Name a p1) "__init__" p2) (e :: es) [] cp) pos1, .Assign [.Attribute o f p3] v pos] (tSeq (tDrop (tXi X.K id ta)) (tXs X.K f to te)) :=
  pss_cons (ps_expr (pe_xinit ⟨hgl, hdb, .inl hm⟩ hg ha hc he hpl) hs1) (pss_one (ps_xset ho hv hs2))
/-- .. its base a built-in class -/
theorem ini_typ {a B id : String} {e : Expr} {es : List Expr} {ta : TA} {p1 p2 cp pos1 p3 : Pos} {o v : Expr} {to te : TE} {pl : Sem Bool} (hm : X.mg a = none) (hb : bootBuiltins a = some (.type B)) (hg : GetsB X (.type B) id) (ha : PA X (e :: es) ta) (ho : PE X o to) (hv : PE X v te)
    (hgl : Gl X a := by rfl) (hdb : ((a : Str) == ("__debug__" : Str)) = false := by decide) (hna : (a : Str) ≠ "__name__" := by decide)
    (hc : eval (.Call (.Attribute (.Name a p1) "__init__" p2) (e :: es) [] cp) X.env = (do
      let ov ← eval (.Name a p1) X.env
      standAt p2.atName
      let (f, first) ← holding [ov] (getMethod ov "__init__" pl)
      callWith cp f first (backTo cp (starEach (e :: es) X.env)) (backToKw cp (keywordEach [] X.env))) := by rfl)
    (he : starEach (e :: es) X.env = (false, eval e X.env) :: starEach es X.env := by rfl) (hpl : (backTo cp (starEach es X.env)).any (·.1) = false := by rfl)
    (hs1 : swapsWith (.Call (.Attribute (.Name a p1) "__init__" p2) (e :: es) [] cp) none pos1.line X.env = pure false := by rfl) (hs2 : swapsWith v (some (.Attribute o f p3)) pos.line X.env = pure false := by rfl) :
    PSs X [.Expr (.Call (.Attribute (.Name a p1) "__init__" p2) (e :: es) [] cp) pos1, .Assign [.Attribute o f p3] v pos] (tSeq (tDrop (tXi X.K id ta)) (tXs X.K f to te)) :=
  pss_cons (ps_expr (pe_xinit ⟨hgl, hdb, .inr ⟨hm, hb, hna⟩⟩ hg ha hc he hpl) hs1) (pss_one (ps_xset ho hv hs2))
end
end Sk

/-! Sk Zp: the calculus of errors over mirrors. -/
namespace Sk
open PySem PySem.Spec L2
/-- o ends in an error of which P holds -/
def Ex {α : Type} (o : Out α) (P : Exn → Mem → Prop) : Prop := match o with
  | .exc x mu => P x mu
  | _ => False
/-- .. with the slots behind it -/
def SE (o : SO) (P : Exn → Ev → Mem → Prop) : Prop := match o with
  | .exc x r mu => P x r mu
  | _ => False
section
variable {α β : Type} {o : Out α} {f : α → Mem → Out β} {P : Exn → Mem → Prop} {Q : Exn → Ev → Mem → Prop} {D : Po} {rho : Ev} {mu : Mem} {e a : EvD} {r : Ev → Mem → Out (List Da)} {x : Exn} {t : EvT} {u v : StD} {i : Nat} {fn : Fn}
@[simp] theorem ex_ok {z : α} : Ex (.ok z mu) P ↔ False := Iff.rfl
@[simp] theorem ex_exc : Ex (.exc x mu : Out α) P ↔ P x mu := Iff.rfl
@[simp] theorem ex_opt {z : Option α} : Ex (opt z mu) P ↔ False := by cases z <;> exact Iff.rfl
@[simp] theorem ex_bnd : Ex (bnd o f) P ↔ Ex o P ∨ Yes o fun z m => Ex (f z m) P := by
  cases o with
  | ok z m => exact ⟨.inr, fun h => h.elim (fun w => w.elim) id⟩
  | exc x m => exact ⟨.inl, fun h => h.elim id fun w => w.elim⟩
  | bad => exact ⟨fun w => w.elim, fun h => h.elim id id⟩
@[simp] theorem se_use {g : α → Mem → SO} : SE (sUse o rho g) Q ↔ Ex o (fun x m => Q x rho m) ∨ Yes o fun z m => SE (g z m) Q := by
  cases o with
  | ok z m => exact ⟨.inr, fun h => h.elim (fun w => w.elim) id⟩
  | exc x m => exact ⟨.inl, fun h => h.elim id fun w => w.elim⟩
  | bad => exact ⟨fun w => w.elim, fun h => h.elim id id⟩
@[simp] theorem se_seq : SE (sSeq u v rho mu) Q ↔ SE (u rho mu) Q ∨ SP (u rho mu) ⟨fun r m => SE (v r m) Q, fun _ _ => False, fun _ _ => False, fun _ _ => False⟩ := by
  unfold sSeq
  cases u rho mu with
  | nx r m => exact ⟨.inr, fun h => h.elim (fun w => w.elim) id⟩
  | exc x r m => exact ⟨.inl, fun h => h.elim id fun w => w.elim⟩
  | rt d m => exact ⟨fun w => w.elim, fun h => h.elim id id⟩
  | bk r m => exact ⟨fun w => w.elim, fun h => h.elim id id⟩
  | ct r m => exact ⟨fun w => w.elim, fun h => h.elim id id⟩
  | bad => exact ⟨fun w => w.elim, fun h => h.elim id id⟩
@[simp] theorem yes_never : (Yes o fun _ _ => False) ↔ False := by cases o <;> exact Iff.rfl
@[simp] theorem ex_eV : Ex (eV i rho mu) P ↔ False := by
  unfold eV
  cases rho[i]? with
  | none => exact Iff.rfl
  | some z => cases z <;> exact Iff.rfl
@[simp] theorem ex_eK {d : Da} : Ex (eK d rho mu) P ↔ False := Iff.rfl
@[simp] theorem ex_aN : Ex (aN rho mu) P ↔ False := Iff.rfl
@[simp] theorem ex_e1 {g : Da → Option Da} : Ex (e1 g a rho mu) P ↔ Ex (a rho mu) P := by unfold e1; simp
@[simp] theorem ex_e2 {g : Da → Da → Option Da} {b : EvD} : Ex (e2 g a b rho mu) P ↔ Ex (a rho mu) P ∨ Yes (a rho mu) fun _ m => Ex (b rho m) P := by unfold e2; simp
@[simp] theorem ex_aC : Ex (aC a r rho mu) P ↔ Ex (a rho mu) P ∨ Yes (a rho mu) fun _ m => Ex (r rho m) P := by unfold aC; simp
@[simp] theorem ex_eTup : Ex (eTup r rho mu) P ↔ Ex (r rho mu) P := by unfold eTup; simp
@[simp] theorem ex_eB {g : List Da → Option Da} : Ex (eB g r rho mu) P ↔ Ex (r rho mu) P := by unfold eB; simp
@[simp] theorem ex_eC : Ex (eC fn r rho mu) P ↔ Ex (r rho mu) P ∨ Yes (r rho mu) fun xs m => Ex (fn xs m) P := by unfold eC; simp
@[simp] theorem ex_tV : Ex (tV a rho mu) P ↔ Ex (a rho mu) P := by
  unfold tV
  rw [ex_bnd]
  refine ⟨fun h => h.elim id fun h => ?_, .inl⟩
  cases e : a rho mu with
  | ok z m => rw [e] at h; cases z <;> exact h.elim
  | _ => rw [e] at h; exact h.elim
@[simp] theorem ex_tNot : Ex (tNot t rho mu) P ↔ Ex (t rho mu) P := by unfold tNot; simp
@[simp] theorem ex_tAnd {t2 : EvT} : Ex (tAnd t t2 rho mu) P ↔ Ex (t rho mu) P ∨ Yes (t rho mu) fun x m => x = true ∧ Ex (t2 rho m) P := by
  unfold tAnd
  rw [ex_bnd]
  cases t rho mu with
  | ok x m => cases x <;> simp
  | _ => exact Iff.rfl
@[simp] theorem ex_tOr {t2 : EvT} : Ex (tOr t t2 rho mu) P ↔ Ex (t rho mu) P ∨ Yes (t rho mu) fun x m => x = false ∧ Ex (t2 rho m) P := by
  unfold tOr
  rw [ex_bnd]
  cases t rho mu with
  | ok x m => cases x <;> simp
  | _ => exact Iff.rfl
@[simp] theorem ex_eIf {b : EvD} : Ex (eIf t a b rho mu) P ↔ Ex (t rho mu) P ∨ Yes (t rho mu) fun x m => if x = true then Ex (a rho m) P else Ex (b rho m) P := by
  unfold eIf
  rw [ex_bnd]
  cases t rho mu with
  | ok x m => cases x <;> simp
  | _ => exact Iff.rfl
@[simp] theorem ex_eAt {c f : Str} : Ex (eAt c f a rho mu) P ↔ Ex (a rho mu) P := by unfold eAt; simp
@[simp] theorem ex_eMc {c m : Str} {dfl : List Da} : Ex (eMc c m fn dfl a r rho mu) P ↔ Ex (a rho mu) P ∨ Yes (a rho mu) fun x m1 => ∃ p, insAt c m1 x = some p ∧ (dLook m p.2).isNone = true ∧ (Ex (r rho m1) P ∨ Yes (r rho m1) fun xs m2 => Ex (fn (x :: (xs ++ dfl)) m2) P) := by
  unfold eMc
  rw [ex_bnd]
  cases a rho mu with
  | ok x m1 =>
    simp only [yes_ok, ex_ok, false_or]
    cases h : insAt c m1 x with
    | none => exact ⟨fun z => z.elim, fun ⟨_, z, _⟩ => nomatch z⟩
    | some p =>
      dsimp only
      by_cases hl : (dLook m p.2).isNone = true
      · rw [if_pos hl, ex_bnd]; exact ⟨fun z => ⟨p, rfl, hl, z⟩, fun ⟨_, z, _, w⟩ => by cases z; exact w⟩
      · rw [if_neg hl]; exact ⟨fun z => z.elim, fun ⟨_, z, w, _⟩ => by cases z; exact (hl w).elim⟩
  | exc x m => exact ⟨fun h => h.elim .inl fun w => w.elim, fun h => h.elim .inl fun w => w.elim⟩
  | bad => exact ⟨fun h => h.elim .inl fun w => w.elim, fun h => h.elim .inl fun w => w.elim⟩
theorem ex_fnD {n z : Nat} {bd : Ev → Mem → SO} {ds : List Da} (h : ds.length = n) : Ex (fnD n z bd ds mu) P ↔ SE (bd (ds.map Sl.val ++ List.replicate z .un) mu) fun x _ m => P x m := by
  unfold fnD
  rw [if_pos h]
  cases bd (ds.map Sl.val ++ List.replicate z .un) mu <;> exact Iff.rfl
@[simp] theorem se_set : SE (sSet i a rho mu) Q ↔ Ex (a rho mu) fun x m => Q x rho m := by unfold sSet; rw [se_use]; exact ⟨fun h => h.elim id fun w => (by cases e : a rho mu with | ok z m => (rw [e] at w; exact w.elim) | _ => (rw [e] at w; exact w.elim)), .inl⟩
@[simp] theorem se_do : SE (sDo a rho mu) Q ↔ Ex (a rho mu) fun x m => Q x rho m := by unfold sDo; rw [se_use]; exact ⟨fun h => h.elim id fun w => (by cases e : a rho mu with | ok z m => (rw [e] at w; exact w.elim) | _ => (rw [e] at w; exact w.elim)), .inl⟩
@[simp] theorem se_ret : SE (sRet a rho mu) Q ↔ Ex (a rho mu) fun x m => Q x rho m := by unfold sRet; rw [se_use]; exact ⟨fun h => h.elim id fun w => (by cases e : a rho mu with | ok z m => (rw [e] at w; exact w.elim) | _ => (rw [e] at w; exact w.elim)), .inl⟩
@[simp] theorem se_if : SE (sIf t u v rho mu) Q ↔ Ex (t rho mu) (fun x m => Q x rho m) ∨ Yes (t rho mu) fun k m => if k = true then SE (u rho m) Q else SE (v rho m) Q := by
  unfold sIf
  rw [se_use]
  cases t rho mu with
  | ok x m => cases x <;> simp
  | _ => exact Iff.rfl
@[simp] theorem se_nx : SE (sNx rho mu) Q ↔ False := Iff.rfl
@[simp] theorem se_raise {c f : Str} : SE (sRaise c f a rho mu) Q ↔ Ex (a rho mu) (fun x m => Q x rho m) ∨ Yes (a rho mu) fun z m => Q ⟨c, [(f, z)]⟩ rho m := by
  unfold sRaise
  rw [se_use]
  exact Iff.rfl
@[simp] theorem sp_tryE {hit : Str → Option Bool} : SP (sTryE hit u v rho mu) D ↔ SP (u rho mu) D ∨ SE (u rho mu) fun x r m => hit x.cls = some true ∧ SP (v r m) D := by
  unfold sTryE
  cases u rho mu with
  | exc x r m =>
    dsimp only
    cases e : hit x.cls with
    | none => exact ⟨fun w => w.elim, fun h => h.elim (fun w => w.elim) fun w => by have := w.1; rw [e] at this; cases this⟩
    | some k => cases k with
      | true => exact ⟨fun w => .inr ⟨e, w⟩, fun h => h.elim (fun w => w.elim) fun w => w.2⟩
      | false => exact ⟨fun w => w.elim, fun h => h.elim (fun w => w.elim) fun w => by have := w.1; rw [e] at this; cases this⟩
  | nx r m => exact ⟨.inl, fun h => h.elim id fun w => w.elim⟩
  | rt r m => exact ⟨.inl, fun h => h.elim id fun w => w.elim⟩
  | bk r m => exact ⟨.inl, fun h => h.elim id fun w => w.elim⟩
  | ct r m => exact ⟨.inl, fun h => h.elim id fun w => w.elim⟩
  | bad => exact ⟨fun w => w.elim, fun h => h.elim id id⟩
theorem eq_of_ex {α : Type} {o : Out α} {x : Exn} (h : Ex o fun y m => y = x ∧ m = mu) : o = .exc x mu := by
  cases o with
  | exc y m => obtain ⟨rfl, rfl⟩ := h; rfl
  | _ => exact h.elim
end
end Sk

/-! Sk Zq: lambdas without arguments, handed to a def. -/
namespace Sk
open PySem PySem.Spec PyProof.Rows L2
/-! ### a lambda is made -/
/-- the table at P behind it, its code object at c' -/
def Grow (H : Hp) (P c' : Addr) (q : Str) (H1 : Hp) : Prop := ∃ ps : Array Value, H P = some (.tbl ps) ∧ ((H1 = H ∧ ∃ pos, codeAmong pos ps.toList = some (.ref c')) ∨
  (H c' = none ∧ ∃ more : Array Value, H1 = upd (upd H P (.tbl (ps ++ more))) c' (LamX.CodeO c' q) ∧ TriplesOk (ps ++ more).toList ∧ ∀ pos cv, codeAmong pos (ps ++ more).toList = some cv → codeAmong pos ps.toList = some cv ∨ cv = .ref c'))
/-- the function object -/
abbrev lamO (q : Str) (params : Arguments) (body : Expr) (scope : Scope) (cl : List (Str × Addr)) (dV doc pm : Value) (c' : Addr) (ctv : Value) : Obj := PySem.W.kdv_obj "<lambda>" q params (.expr body) scope cl dV doc pm c' ctv
abbrev lamFd (q : Str) (params : Arguments) (body : Expr) (scope : Scope) (cl : List (Str × Addr)) (dV doc pm : Value) (c' : Addr) (ctv : Value) : FuncData := PySem.W.kdv_fn "<lambda>" q params (.expr body) scope cl dV doc pm (.ref c') ctv
section
variable {X : Cx} {pins : List (Addr × Obj)} {σ : L2.St} {H : Hp} {s : Shared}
theorem tail_mk {c P : Addr} {q : Str} {params : Arguments} {body : Expr} {scope : Scope} {pos : Pos} {dV : Value} {E Q : Value → Shared → Prop} (I : Inv X pins σ H s) (TB : LamX.TabB X.base X.mg c P) (hcode : X.env.code = .ref c)
    (t : ∃ ps : Array Value, H P = some (.tbl ps) ∧ TriplesOk ps.toList ∧ ∀ pos cv, codeAmong pos ps.toList = some cv → ∃ c', cv = .ref c' ∧ H c' = some (LamX.CodeO c' q)) (hfree : ∀ y ∈ scope.names, y.2 = .free → ∃ c, X.env.cells.lookup y.1 = some c)
    (h : ∀ (f c' : Addr) (ctv doc pm : Value) (H1 : Hp) (s' : Shared), Inv X pins σ H1 s' → Grow H P c' q H1 → (∀ b o, b ≠ P → s.heap.get? b = some o → s'.heap.get? b = some o) → (∀ b o, s.heap.get? b = some o → H b = none → H1 b = none) → s'.heap.get? f = some (lamO q params body scope (cloFrom X.env.cells scope.names []) dV doc pm c' ctv) → H1 f = none → f ∉ frs X.stack → H1 c' = some (LamX.CodeO c' q) → Q (.ref f) s') :
    wpAny (model X.prog X.w) X.A (makeTail "<lambda>" q params (.expr body) scope X.env dV .none none pos pos.line) Q E s := by
  obtain ⟨ps, hP, ht, ha⟩ := t
  have kb : s.heap.BuiltinsAt X.mg P := TB.bm.keeps I.bk
  have hp : s.heap.get? P = some (PySem.W.tabObj ps) := I.hok P _ hP
  have far : ∀ f, s.heap.objs.size ≤ f → f ∉ frs X.stack := fun f hf z => (List.mem_cons.mp (I.stkSub _ z)).elim (fun e => by
    have l := I.lt
    rw [← e] at l
    exact Nat.lt_irrefl _ (Nat.lt_of_lt_of_le l hf)) fun e => I.nofs hf e
  cases hc : codeAmong pos ps.toList with
  | none =>
    refine PySem.W.kdv_makeTail (mg := X.mg) (c := c) (P := P) (ps := ps) (closure_ok hfree) I.ok.glob (I.mod.glob.keeps I.bk) hcode (TB.code.keeps I.bk) hp ht hc TB.gP kb fun c' ctv doc h' tk hx hge hlt hrec htb => ?_
    obtain ⟨c2, oc, us, tq, e2, ho, hd, hv⟩ := hrec
    cases e2
    have sz : s.heap.objs.size ≤ h'.objs.size := Nat.le_trans hge (Nat.le_of_lt hlt)
    have nC : H c' = none := I.hok.fresh hge
    have eL : (ps ++ #[rawInt pos.line, rawInt pos.col, .ref c']).toList = ps.toList ++ [rawInt pos.line, rawInt pos.col, .ref c'] := by simp
    have I1 := LamX.inv_table (q := q) (t' := tk) (more := #[rawInt pos.line, rawInt pos.col, .ref c']) (h' := h'.push (lamO q params body scope (cloFrom X.env.cells scope.names []) dV doc ((X.mg "__name__").getD .none) c' ctv)) I hP (fun b o hb e => Heap.get?_push_of_some _ (hx b o hb e)) (Heap.get?_push_of_some _ htb) hge ⟨oc, us, tq, Heap.get?_push_of_some _ ho, hd, hv⟩
    refine h h'.objs.size c' ctv doc _ _ _ I1 ⟨ps, hP, .inr ⟨nC, _, rfl, by rw [eL]; exact PySem.TriplesOk_snoc _ _ _ _ ht, fun p2 cv hcv => ?_⟩⟩ (fun b o hb e => Heap.get?_push_of_some _ (hx b o hb e)) (fun b o e n => ?_) (Heap.get?_push_size _ rfl) ?_ (far _ sz) upd_same
    · rw [eL] at hcv
      exact LamX.among_app _ ht hcv
    · rw [upd_ne (Nat.ne_of_lt (Nat.lt_of_lt_of_le (Heap.lt_size e) hge)), upd_ne (fun z => by rw [z, hP] at n; cases n)]
      exact n
    · rw [upd_ne (Nat.ne_of_gt hlt), upd_ne (Nat.ne_of_gt (Nat.lt_of_lt_of_le (Heap.lt_size hp) sz))]
      exact I.hok.fresh sz
  | some cv =>
    obtain ⟨c', rfl, hco⟩ := ha pos cv hc
    refine PySem.W.kdv_makeTailHit (mg := X.mg) (c := c) (P := P) (ps := ps) (closure_ok hfree) I.ok.glob (I.mod.glob.keeps I.bk) hcode (TB.code.keeps I.bk) hp ht hc kb fun ctv doc h' tk hx sz => ?_
    have I1 : Inv X pins σ H { s with heap := h'.push (lamO q params body scope (cloFrom X.env.cells scope.names []) dV doc ((X.mg "__name__").getD .none) c' ctv), toks := tk } := I.kept fun b o e => Heap.get?_push_of_some _ (hx b o e)
    exact h h'.objs.size c' ctv doc _ H _ I1 ⟨ps, hP, .inl ⟨rfl, pos, hc⟩⟩ (fun b o _ e => Heap.get?_push_of_some _ (hx b o e)) (fun _ _ _ n => n) (Heap.get?_push_size _ rfl) (I.hok.fresh sz) (far _ sz) hco
/-- how the defaults of a lambda lie: none, or one that is a constant -/
def DfO (s : Shared) (H : Hp) (X : Cx) (dV : Value) : List Value → Prop
  | [] => dV = .none
  | d :: ds => ∃ t, dV = .ref t ∧ s.heap.get? t = some (PySem.W.kdv_tup (d :: ds)) ∧ H t = none ∧ t ∉ frs X.stack
/-- the lambda is made, without defaults or with constant ones -/
theorem lam_mk {c P : Addr} {params : Arguments} {body : Expr} {scope : Scope} {pos : Pos} {dn : Option Expr} {E Q : Value → Shared → Prop} (I : Inv X pins σ H s) (TB : LamX.TabB X.base X.mg c P) (hcode : X.env.code = .ref c)
    (t : ∃ ps : Array Value, H P = some (.tbl ps) ∧ TriplesOk ps.toList ∧ ∀ pos cv, codeAmong pos ps.toList = some cv → ∃ c', cv = .ref c' ∧ H c' = some (LamX.CodeO c' (X.env.qual ++ "<lambda>"))) (hfree : ∀ y ∈ scope.names, y.2 = .free → ∃ c, X.env.cells.lookup y.1 = some c)
    (hdef : (dn = none ∧ defaultsOf params X.env = ([], [])) ∨ ∃ z pz, dn = some (.Constant (.int z) 0 pz) ∧ params.defaults = [.Constant (.int z) 0 pz] ∧ params.kw_defaults = [])
    (h : ∀ (f c' : Addr) (ctv doc pm dV : Value) (ds : List Value) (H1 : Hp) (s' : Shared), Inv X pins σ H1 s' → Grow H P c' (X.env.qual ++ "<lambda>") H1 → ds.length = dn.toList.length → DfO s' H1 X dV ds → s'.heap.get? f = some (lamO (X.env.qual ++ "<lambda>") params body scope (cloFrom X.env.cells scope.names []) dV doc pm c' ctv) →
      H1 f = none → f ∉ frs X.stack → H1 c' = some (LamX.CodeO c' (X.env.qual ++ "<lambda>")) → Q (.ref f) s') :
    wpAny (model X.prog X.w) X.A (eval (.Lambda params body scope pos) X.env) Q E s := by
  rcases hdef with ⟨rfl, hdef⟩ | ⟨z, pz, rfl, hd, hk⟩
  · refine PySem.W.kla_eval hdef ?_
    rw [makeFunction_eq]
    simp only [List.zip_nil_right, List.filterMap_nil, List.isEmpty_nil, if_true, pure_bind]
    exact tail_mk I TB hcode t hfree fun f c' ctv doc pm H1 s' I1 g kp kn hf hn hr hc => h f c' ctv doc pm _ [] H1 s' I1 g rfl rfl hf hn hr hc
  · refine PySem.W.kdv_lam (by rw [hd]; rfl) hk ?_
    rw [hd]
    refine PySem.W.kdv_all1 (thn ((pe_int (i := z) (j := 0) (pos := pz)).run pins s σ H (fun _ H1 => H1 = H) I rfl) fun u s1 ⟨v, H1, I1, rv, eH⟩ => PySem.W.kdv_all0 ?_)
    rw [eH] at I1
    rw [makeFunction_eq]
    simp only [List.zip_nil_right, List.filterMap_nil, List.isEmpty_nil, if_true, pure_bind, List.isEmpty_cons, Bool.false_eq_true, if_false]
    refine wpAny_bind (wpAny_newTextTuple ?_)
    have I2 : Inv X pins σ H { s1 with heap := s1.heap.push (PySem.W.kdv_tup [u]) } := I1.kept fun b o e => Heap.get?_push_of_some _ e
    have nP : ∀ ps : Array Value, H P = some (.tbl ps) → s1.heap.objs.size ≠ P := fun ps e z => by
      have q := I1.hok.fresh (a := P) (by omega)
      rw [e] at q
      cases q
    obtain ⟨ps, hP, ht⟩ := t
    refine tail_mk I2 TB hcode ⟨ps, hP, ht⟩ hfree fun f c' ctv doc pm H1 s' I3 g kp kn hf hn hr hc => h f c' ctv doc pm _ [u] H1 s' I3 g rfl ⟨s1.heap.objs.size, rfl, kp _ _ (nP ps hP) (Heap.get?_push_size _ rfl), kn _ _ (Heap.get?_push_size _ rfl) (I1.hok.fresh (Nat.le_refl _)), ?_⟩ hf hn hr hc
    · exact fun z => (List.mem_cons.mp (I1.stkSub _ z)).elim (fun e => by
        have l := I1.lt
        rw [← e] at l
        exact Nat.lt_irrefl _ l) fun e => I1.nofs (Nat.le_refl _) e
end
/-! ### the frame behind it -/
section
variable {G : Fr} {rho : Ev} {mu : Mem} {σ : L2.St} {H H1 : Hp} {m : List Addr} {Own : Addr → Prop}
theorem StR.tabAt (S : StR G rho mu σ H m Own) {x : Str} (hx : x ∈ mkrs) {c P : Addr} (e : PySem.W.tabIn G.K x = some (c, P)) :
    ∃ ps : Array Value, H P = some (.tbl ps) ∧ TriplesOk ps.toList ∧ ∀ pos cv, codeAmong pos ps.toList = some cv → ∃ c', cv = .ref c' ∧ H c' = some (LamX.CodeO c' (lamQ x)) := by
  obtain ⟨_, _, ps, h1, h2, h3⟩ := S.wd.tb x hx c P e
  exact ⟨ps, h1, h2, fun pos cv hc => (h3 pos cv hc).elim fun c' h => ⟨c', h.1, h.2.2.2⟩⟩
theorem StR.grow (S : StR G rho mu σ H m Own) (td : TbD G.K) {x : Str} (hx : x ∈ mkrs) {c P c' : Addr} (e : PySem.W.tabIn G.K x = some (c, P)) (g : Grow H P c' (lamQ x) H1) : StR G rho mu σ H1 m Own ∧ Lf m H m H1 := by
  obtain ⟨nm, nb, ps0, t1, t2, t3⟩ := S.wd.tb x hx c P e
  obtain ⟨ps, hP, ⟨rfl, _⟩ | ⟨nC, more, rfl, tr, among⟩⟩ := g
  · exact ⟨S, Lf.refl⟩
  have e0 : ps = ps0 := by
    rw [t1] at hP
    cases hP
    rfl
  subst e0
  have nPc : P ≠ c' := fun z => by rw [← z, t1] at nC; cases nC
  obtain ⟨f1, f2⟩ := S.fresh nC
  have at_ : ∀ b, b ≠ P → b ≠ c' → upd (upd H P (.tbl (ps ++ more))) c' (LamX.CodeO c' (lamQ x)) b = H b := fun b h1 h2 => by rw [upd_ne h2, upd_ne h1]
  have nN : ∀ {b o}, H b = some o → NT o → b ≠ P ∧ b ≠ c' := fun {b o} e n => ⟨fun z => by rw [z, t1] at e; cases e; exact n _ rfl, fun z => by rw [z, nC] at e; cases e⟩
  have l : Lf m H m (upd (upd H P (.tbl (ps ++ more))) c' (LamX.CodeO c' (lamQ x))) := by
    refine ⟨⟨[], by simp, by simp⟩, fun b o e n _ _ => ?_, fun b e => ?_, fun _ z => .inl z⟩
    · obtain ⟨h1, h2⟩ := nN e n
      rw [at_ b h1 h2]
      exact e
    · by_cases h2 : b = c'
      · rw [h2, upd_same] at e; cases e
      · rw [upd_ne h2] at e
        by_cases h1 : b = P
        · rw [h1, upd_same] at e; cases e
        · rw [upd_ne h1] at e; exact e
  have num : ∀ b ∈ m, upd (upd H P (.tbl (ps ++ more))) c' (LamX.CodeO c' (lamQ x)) b = H b := fun b hb => at_ b (fun z => nm (z ▸ hb)) (fun z => f1 (z ▸ hb))
  have bar : ∀ b, G.bar Own b → upd (upd H P (.tbl (ps ++ more))) c' (LamX.CodeO c' (lamQ x)) b = H b := fun b hb => at_ b (fun z => nb (z ▸ hb)) (fun z => f2 (z ▸ hb))
  have lb := l.le (G.bar Own)
  refine ⟨⟨S.le.trans l, ⟨fun y hy d Q ey => ?_, ?_, S.wd.nd, S.wd.dis, fun b z => ?_⟩, ?_, S.ow, S.dj⟩, l⟩
  · obtain ⟨u1, u2, us, u3, u4, u5⟩ := S.wd.tb y hy d Q ey
    have old : ∀ {c2 : Addr} {z : Str}, c2 ∉ m → ¬ G.bar Own c2 → H c2 = some (LamX.CodeO c2 z) → upd (upd H P (.tbl (ps ++ more))) c' (LamX.CodeO c' (lamQ x)) c2 = some (LamX.CodeO c2 z) := fun {c2 z} _ _ h => by
      obtain ⟨h1, h2⟩ := nN h (fun ps => LamX.codeO_ne ps)
      rw [at_ _ h1 h2]
      exact h
    by_cases hQ : Q = P
    · subst hQ
      have exy := td x hx y hy c d Q e ey
      subst exy
      rw [t1] at u3
      cases u3
      refine ⟨u1, u2, _, by rw [upd_ne nPc, upd_same], tr, fun pos cv hc => ?_⟩
      rcases among pos cv hc with z | z
      · obtain ⟨c2, e1, e2, e3, e4⟩ := u5 pos cv z
        exact ⟨c2, e1, e2, e3, old e2 e3 e4⟩
      · exact ⟨c', z, f1, f2, upd_same⟩
    · refine ⟨u1, u2, us, by rw [at_ Q hQ (fun z => by rw [z, nC] at u3; cases u3)]; exact u3, u4, fun pos cv hc => ?_⟩
      obtain ⟨c2, e1, e2, e3, e4⟩ := u5 pos cv hc
      exact ⟨c2, e1, e2, e3, old e2 e3 e4⟩
  · refine paired_mem S.wd.ob fun a ha o h => ?_
    have ea := num a ha
    cases o with
    | dct kvs => obtain ⟨us, e, p⟩ := h; exact ⟨us, by rw [ea]; exact e, paired_imp (fun _ _ ⟨x, y⟩ => ⟨x, y.mono lb⟩) p⟩
    | ins c fs => obtain ⟨dx, us, e, p⟩ := h; exact ⟨dx, us, by rw [ea]; exact e, paired_imp (fun _ _ ⟨x, y⟩ => ⟨x, y.mono lb⟩) p⟩
    | scr xs => obtain ⟨o, us, e, r⟩ := h; exact ⟨o, us, by rw [ea]; exact e, RDs.mono lb r⟩
    | err c fs =>
      obtain ⟨dd, us, e, h1, h2, h3, p⟩ := h
      obtain ⟨a1, a2, a3⟩ := lb.rd h3 (fun _ z => nomatch z) h1 h2
      exact ⟨dd, us, by rw [ea]; exact e, a2, a3, a1, paired_imp (fun _ _ ⟨x, y⟩ => ⟨x, y.mono lb⟩) p⟩
    | tab q =>
      obtain ⟨ps, e, h1, h2⟩ := h
      refine ⟨ps, by rw [ea]; exact e, h1, fun pos cv hc => ?_⟩
      obtain ⟨c, e1, e2, e3, e4⟩ := h2 pos cv hc
      obtain ⟨a1, a2, a3⟩ := lb.rd e4 (fun ps => LamX.codeO_ne ps) e2 e3
      exact ⟨c, e1, a2, a3, a1⟩
    | dead => obtain ⟨o, e⟩ := h; exact ⟨o, by rw [ea]; exact e⟩
  · obtain ⟨o, e⟩ := S.wd.dom b z
    exact ⟨o, by rw [bar b z]; exact e⟩
  · refine paired_imp (fun z o h => ?_) S.sl
    cases z with
    | un => trivial
    | val d => obtain ⟨v, e, r⟩ := h; exact ⟨v, e, r.mono lb⟩
    | own xs => obtain ⟨a, us, e1, e2, e3, e4⟩ := h; exact ⟨a, us, e1, e2, by rw [bar a (.inr e2)]; exact e3, RDs.mono lb e4⟩
end
/-! ### the lambda's names, its start -/
/-- captured names, globals, parameters that the maker does not have -/
structure LamT (N bn : List Str) (sc scope : Scope) : Prop where
  kind : scope.kind = .function
  co : scope.isCoroutine = false
  gen : scope.isGenerator = false
  cell : ∀ y ∈ scope.names, y.2 ≠ .cell
  own : ∀ y ∈ N, scope.names.lookup y ≠ some .local
  bind : ∀ y ∈ bn, scope.names.lookup y = some .local
  free : ∀ y ∈ scope.names, y.2 = .free → sc.names.lookup y.1 = some .cell ∨ sc.names.lookup y.1 = some .free
section
variable {X : Cx} {pins : List (Addr × Obj)} {σ : L2.St} {H HZ : Hp} {s s1 : Shared} {bn : List Str}
theorem LamT.has {scope : Scope} (L : LamT X.N bn X.env.scope scope) (ok : X.Ok) : ∀ y ∈ scope.names, y.2 = .free → ∃ c, X.env.cells.lookup y.1 = some c := fun y hy e => ok.has _ (L.free y hy e)
theorem lam_in {A : Around} {outer : List Env} {E : XK} {scope : Scope} {f c' : Addr} {h1 : Heap} {tk : Nat} {mm : Str → Option Value} (I : Inv X pins σ H s) (L : LamT X.N bn X.env.scope scope) (e0 : Env0 X.prog X.w X.K X.mg X.base A outer s1 HZ) (hd : A.handled = none)
    (un : Un (frs X.stack) [] H HZ s.heap s1.heap) (hns : h1.Ns s1.heap.objs.size mm) (kp : ∀ b o, s1.heap.get? b = some o → h1.get? b = some o) :
    Inv (LamX.lamCx X A outer s1 HZ E scope f c') [] σ HZ { s1 with heap := h1, toks := tk } := by
  have has := L.has I.ok
  have mine : ∀ {y c}, (cloFrom X.env.cells scope.names []).lookup y = some c → X.env.cells.lookup y = some c := fun {y c} e => by
    rcases cloFrom_mem (PySem.mem_of_lookup e) with hm | ⟨h1, h2⟩
    · cases hm
    · obtain ⟨c1, hc⟩ := has _ h1 rfl
      have hc : X.env.cells.lookup y = some c1 := hc
      have e2 : c = c1 := by
        rw [h2, hc] <;> rfl
      exact e2 ▸ hc
  have theirs : ∀ {y}, scope.names.lookup y = some .free → ∃ c, (cloFrom X.env.cells scope.names []).lookup y = some c := fun {y} hl => mem_lookup (cloFrom_has (cells := X.env.cells) (acc := []) (PySem.mem_of_lookup hl))
  have cellS : ∀ {c : Addr} {v : Option Value}, H c = none → s.heap.IsCell c v → h1.IsCell c v := fun {c v} n ⟨o, ho, hd⟩ => (un.any ho n (by simp)).elim fun sl q => ⟨_, kp _ _ q, hd⟩
  have none_ : ∀ b : Addr, b ∉ (LamX.lamCx X A outer s1 HZ E scope f c').ex := fun b z => nomatch (show b ∈ ([] : List Addr) from z)
  refine ⟨⟨e0.mod, L.kind, rfl, rfl, Nat.le_refl _, fun y z c k1 k2 => I.ok.inj y z c (mine k1) (mine k2), fun y hy => ?_, fun y c z _ => (nomatch (show false = true from z)), fun _ => hd, Around.frames_deeper e0.frames, .inr ⟨rfl, rfl⟩, fun b z => absurd z (none_ b), e0.bs, e0.bsz, fun b _ _ => none_ b, fun b z => absurd z (none_ b), e0.funs, e0.frf⟩,
    rfl, e0.bare, Un.kept kp, ⟨mm, hns, fun i y v k1 k2 k3 => ?_⟩, fun y c e => ?_, e0.hok.fresh (Nat.le_refl _), fun y c e => ?_, fun q hq => (nomatch (show q ∈ ([] : List (Addr × Obj)) ++ [] from hq)), e0.hok.kept kp, I.len⟩
  · have hy : scope.names.lookup y = some .cell ∨ scope.names.lookup y = some .free := hy
    exact hy.elim (fun hy => absurd rfl (L.cell _ (PySem.mem_of_lookup hy))) theirs
  · have k3 : Vis scope y := k3
    rcases k3 with k | k | k
    · exact absurd k (L.own y (List.mem_of_getElem? k1))
    · exact absurd rfl (L.cell _ (PySem.mem_of_lookup k))
    · obtain ⟨mX, hn, hl⟩ := I.loc
      have cf := L.free _ (PySem.mem_of_lookup k) rfl
      obtain ⟨w', r, q⟩ := hl i y v k1 k2 (cf.elim (fun k => .inr (.inl k)) (fun k => .inr (.inr k)))
      obtain ⟨c2, h2⟩ := theirs k
      refine ⟨w', r, .inr ⟨.inr k, c2, h2, ?_⟩⟩
      have h3 := mine h2
      rcases q with ⟨k', _⟩ | ⟨_, c3, e', z⟩
      · have k' : X.env.scope.names.lookup y = some .local := k'
        rcases cf with k2 | k2 <;> rw [show X.env.scope.names.lookup y = _ from k2] at k' <;> cases k'
      · rw [h3] at e'
        cases e'
        exact cellS (I.freeC y _ h3) z
  · obtain ⟨w', z⟩ := I.cell y c (mine e)
    exact ⟨w', cellS (I.freeC y c (mine e)) z⟩
  · obtain ⟨v, o, ho, hd⟩ := I.cell y c (mine e)
    exact un.free c o ho (I.freeC y c (mine e)) (by simp)
/-- x(), in the def that got the lambda: that def was entered at s -/
theorem act_ok {CXg : CXT} {Eg : XK} {Ng : List Str} {qg q : Str} {sg : Scope} {g f c' : Addr} {cdg dV doc pm ctv : Value} {params : Arguments} {body : Expr} {scope : Scope} {k i : Nat} {a : Str} {pn : List (Addr × Obj)} {xe : Value → Shared → Prop} {W : WX} {tb : XK → TE} {p1 p2 : Pos} {vs : List Value}
    (I : Inv X pins σ H s) (L : LamT X.N bn X.env.scope scope) (hf : s.heap.get? f = some (lamO q params body scope (cloFrom X.env.cells scope.names []) dV doc pm c' ctv)) (hfn : H f = none) (hfr : f ∉ frs X.stack) (hq : q = X.env.qual ++ "<lambda>")
    (hbind : ∀ s2 : Shared, (∀ b o, s.heap.get? b = some o → H b = none → b ∉ frs X.stack → s2.heap.get? b = some o) → BindsTo s2 (lamFd q params body scope (cloFrom X.env.cells scope.names []) dV doc pm c' ctv) ⟨[], []⟩ (bn.zip vs))
    (tk : Takes ((cxOf CXg X.prog X.w X.K X.mg X.base Ng qg sg g cdg X.A X.stack s H Eg).tr pn xe) W) (hr : Rm (k + 1) (X.A.deeper (envOfC qg sg s.heap.objs.size g cdg)))
    (hbody : ∀ (A : Around) (outer : List Env) (s : Shared) (H : Hp) (E : XK), Rm k (A.deeper (LamX.lamEnv X scope s.heap.objs.size f c')) → PE (LamX.lamCx X A outer s H E scope f c') body (tb E))
    (hN : Ng[i]? = some a) (hv : Vis sg a) (hd : (a == ("__debug__" : Str)) = false := by decide) (hcd : (a == ("__classdict__" : Str)) = false := by decide) :
    PE ((cxOf CXg X.prog X.w X.K X.mg X.base Ng qg sg g cdg X.A X.stack s H Eg).tr pn xe) (.Call (.Name a p1) [] [] p2) (fun σZ HZ Q => σZ[i]? = some (some (.ref f)) ∧ HZ c' = some (LamX.CodeO c' q) ∧ tb (fun c d H' => W c d σZ H') σ HZ Q) := by
  subst hq
  refine ⟨fun pinsZ sZ σZ HZ Q IZ ⟨hs, hc, ht⟩ => ?_⟩
  refine wpAny_Call_Name_kw (thn ((pe_var (pos := p1) (i := i) hN hv hd hcd).run pinsZ sZ σZ HZ (fun v H1 => v = .ref f ∧ H1 = HZ) IZ ⟨.ref f, hs, rfl, rfl⟩) fun u s1 ⟨v, H1, I1, r1, ev, eH⟩ => ?_)
  subst ev eH
  obtain rfl : u = Value.ref f := r1
  have un : Un (frs X.stack) [] H H1 s.heap s1.heap := I1.base
  have kept : ∀ b o, s.heap.get? b = some o → H b = none → b ∉ frs X.stack → s1.heap.get? b = some o := fun b o e n z => un.keep b o e n z (fun z => nomatch z)
  have of1 := kept f _ hf hfn hfr
  refine PySem.W.callWith_F0 ⟨_, _, _, _, of1⟩ ?_
  obtain ⟨⟨oc, us, t, hoc, hdc, hvc⟩, _, _⟩ := I1.hok c' _ hc
  have rc : codeAny (model X.prog X.w) (X.A.deeper (envOfC qg sg s.heap.objs.size g cdg)) (.call (.ref f) ⟨[], []⟩) (CR (L2.CX X.prog X.w) (envOfC qg sg s.heap.objs.size g cdg :: X.stack) X.prog X.w H1 s1 Q (fun c d H' => W c d σZ H')) s1 := by
    refine PySem.W.kla_callFunE hr.r.depth of1 rfl L.co L.gen rfl ⟨c', oc, us, t, rfl, hoc, hdc, hvc⟩ (hbind s1 kept _ _ _ _ ?_)
    refine wpAny_newFunctionEnv L.cell (fun y hy => L.bind _ (List.of_mem_zip hy).1) (fun h2 hns hsb => ⟨I1.nolimit.fresh _ hsb, ?_⟩) L.kind
    have kp : ∀ b o, s1.heap.get? b = some o → h2.get? b = some o := fun b o e => hsb.extBut b o (Nat.ne_of_lt (Heap.lt_size e)) (Heap.get?_push_of_some _ e)
    have J := lam_in (E := fun c d H' => W c d σZ H') (f := f) (c' := c') (tk := s1.toks + (bn.zip vs).length) I L I1.env0 hr.r.hd un hns kp
    refine PySem.W.kla_codeExpr (wpAny_mono ((hbody _ _ s1 H1 _ (hr.deeper _)).run [] _ _ H1 Q J ht) (fun v s' hq => ?_) fun e s' hq => hq)
    obtain ⟨w', H', J', rv, q⟩ := hq
    exact ⟨w', H', J'.os, J'.bare, J'.base, J'.hok, rv, q⟩
  refine wpAny_call (codeAny_mono rc fun r s' hq => ?_)
  cases r with
  | error e => exact passAt tk σZ pinsZ H1 s1 e s' I1 hq
  | ok fl => cases fl with
    | ret u => exact I1.after hq
    | next => exact hq.elim
    | brk => exact hq.elim
    | cont => exact hq.elim
end
end Sk

/-! Sk Zr: defs that take a lambda: said. -/
namespace Sk
open PySem PySem.Spec PyProof.Rows L2
abbrev Thk := Mem → Out Da
abbrev FnS := Thk → Thk
/-- what a lambda gives that does what th does, from the world m0, B, H0 on -/
def ThR (K : PySem.W.Frag) (m0 : List Addr) (B : Addr → Prop) (H0 : Hp) (th : Thk) (E : XK) (H : Hp) (Q : VK) : Prop := ∃ m mu, Lf m0 H0 m H ∧ Wd K m B H mu ∧
  (th mu).wp (fun z mu' => ∀ v H' m', Lf m H m' H' → Wd K m' B H' mu' → RD m' B H' z v → Q v H') (fun x mu' => ∀ c dd H' m', Lf m H m' H' → Wd K m' B H' mu' → ExR K m' B H' x c dd → E c dd H')
/-- a() calls the lambda at f in Z -/
def Act (Z : Cx) (a : Str) (f : Addr) (T : XK → Hp → VK → Prop) : Prop := ∀ (pn : List (Addr × Obj)) (xe : Value → Shared → Prop) (W : WX) (p1 p2 : Pos), Takes (Z.tr pn xe) W →
  PE (Z.tr pn xe) (.Call (.Name a p1) [] [] p2) (fun σZ HZ Q => σZ[0]? = some (some (.ref f)) ∧ T (fun c d H' => W c d σZ H') HZ Q)
/-- a def of a lambda alone -/
structure FnT (P : Program) (w : World) (K : PySem.W.Frag) (mg : Str → Option Value) (base : Heap) (k : Nat) (g : Addr) (x a : Str) (N : List Str) (scope : Scope) (said : FnS) : Prop where
  run : ∀ (A : Around) (out : List Env) (s : Shared) (H : Hp) (f : Addr) (th : Thk) (m : List Addr) (B : Addr → Prop) (mu : Mem) (Q : VK) (E : XK), Rm k A → Env0 P w K mg base A out s H →
    (∀ (cdv : Value) (Eg : XK), Act (cxOf (CXx P w) P w K mg base N x scope g cdv A out s H Eg) a f (ThR K m B H th)) → Wd K m B H mu →
    (said th mu).wp (fun z mu' => ∀ v H' m', Lf m H m' H' → Wd K m' B H' mu' → RD m' B H' z v → Q v H') (fun x mu' => ∀ c dd H' m', Lf m H m' H' → Wd K m' B H' mu' → ExR K m' B H' x c dd → E c dd H') →
    codeAny (model P w) A (.call (.ref g) ⟨[.ref f], []⟩) (CR (CXx P w) out P w H s Q E) s
  var : N[0]? = some a
  vis : Vis scope a
section
variable {P : Program} {w : World} {K : PySem.W.Frag} {mg : Str → Option Value} {base : Heap} {k : Nat} {g : Addr} {x a : Str} {N : List Str} {params : Arguments} {body : List Stmt} {scope : Scope} {fd : FuncData} {said : FnS}
theorem FnT.of (F : FunD K x x params body scope [] [] g fd) (S : FnScope N [a] scope) (hN : N[0]? = some a) (hv : Vis scope a) (hp : ∀ (kV doc pm : Value) (an : Option Addr) (cdv ct : Value) (u : Value), bindArgs (PySem.W.fnOf x x params body scope .none kV doc pm an cdv ct) ⟨[u], []⟩ = pure [(a, u)])
    (hb : ∀ (cdv : Value) (A : Around) (out : List Env) (s : Shared) (H : Hp) (E : XK) (f : Addr) (th : Thk) (m : List Addr) (B : Addr → Prop) (mu : Mem) (Q : VK), Rm k (A.deeper (envOfC x scope s.heap.objs.size g cdv)) →
      Act (cxOf (CXx P w) P w K mg base N x scope g cdv A out s H E) a f (ThR K m B H th) → Wd K m B H mu →
      (said th mu).wp (fun z mu' => ∀ v H' m', Lf m H m' H' → Wd K m' B H' mu' → RD m' B H' z v → Q v H') (fun x mu' => ∀ c dd H' m', Lf m H m' H' → Wd K m' B H' mu' → ExR K m' B H' x c dd → E c dd H') →
      ∃ t, PSs (cxOf (CXx P w) P w K mg base N x scope g cdv A out s H E) body t ∧ t { nx := fun _ H' => Q .non H', rt := Q } (L2.start N [.ref f]) H) : FnT P w K mg base (k + 1) g x a N scope said := by
  refine ⟨fun A out s H f th m B mu Q E hr e0 act wd hw => ?_, hN, hv⟩
  obtain ⟨oc, od, dV, kV, doc, pm, an, cdv, ct, osl, rfl, lk, hcd, hD, _⟩ := F.ex
  have edV : dV = .none := hD.elim (fun z => z.2) fun z => absurd rfl z.1
  subst edV
  have low : ∀ b o, base.get? b = some o → s.heap.get? b = some o := fun b o e => (e0.bs b o e).1
  have inK : K.In s.heap := e0.mod.kin.keeps low
  have kinds : ∀ y ∈ [a].zip [Value.ref f], scope.names.lookup y.1 = some .local ∨ (scope.names.lookup y.1 = some .cell ∧ ((cellsFrom (s.heap.objs.size + 1) scope.names []).lookup y.1).isSome = true) := by
    rintro ⟨nm, val⟩ hy
    exact (S.par nm (List.of_mem_zip hy).1).elim .inl fun q => .inr ⟨q, PySem.W.cellsFrom_some _ _ _ (.inl q)⟩
  refine codeAny_call_function hr.r.depth (inK _ _ lk) rfl S.co S.gen rfl (PySem.W.codeRec_of inK hcd) (BindsTo.of_eq (hp kV doc pm an cdv ct (.ref f)) _ _ _ _ ?_)
  refine wpAny_newFunctionEnv_cells S.kind kinds fun env he s1 inC => ?_
  subst he
  refine ⟨(e0.mod.nolimit.keeps low).keeps inC.toInCall.keep, codeAny_func ?_⟩
  have I := inv_start (CX := CXx P w) (E := E) (cd := cdv) (vs := [.ref f]) (us := [.ref f]) S hr.r.hd e0 rfl (.cons rfl .nil) inC
  obtain ⟨t, ht, hq⟩ := hb cdv A out s H E f th m B mu Q (hr.deeper _) (act cdv E) wd hw
  refine wpAny_mono (ht.run [] s1 _ H { nx := fun _ H' => Q .non H', rt := Q } I hq) (fun fl s' hs => ?_) fun _ _ hs => hs
  cases fl with
  | ret u => exact hs.elim fun v h => h.elim fun σ' h => h.elim fun H' h => ⟨v, H', h.1.os, h.1.bare, h.1.base, h.1.hok, h.2.1, h.2.2⟩
  | next => exact hs.elim fun σ' h => h.elim fun H' h => ⟨V.non, H', h.1.os, h.1.bare, h.1.base, h.1.hok, rfl, h.2⟩
  | brk => exact hs.elim fun _ h => h.elim fun _ h => h.2.elim
  | cont => exact hs.elim fun _ h => h.elim fun _ h => h.2.elim
end
/-! ### the parts of said -/
section
variable {X : Cx} {G : Fr} {W : WX} {i j : Nat} {y z n : Str} {p1 p2 p3 p4 p5 p6 pos py pn hpos : Pos} {k1 k2 j1 j2 : Nat} {f : Addr} {th : Thk} {tst : Expr} {hitV : Value → Bool → Prop} {hit : Str → Option Bool}
/-- y, z = None, None -/
theorem s_nones (hN : X.N.Nodup) (hi : X.N[i]? = some y := by rfl) (hj : X.N[j]? = some z := by rfl) (hy : X.env.scope.names.lookup y = some .local := by rfl) (hz : X.env.scope.names.lookup z = some .local := by rfl) (hc : X.calm = true := by rfl)
    (g1 : (assignEach [.Name y p1, .Name z p2] X.env).map (·.2) = assign (.Name y p1) X.env :: (assignEach [.Name z p2] X.env).map (·.2) := by rfl) (g2 : (assignEach [.Name z p2] X.env).map (·.2) = assign (.Name z p2) X.env :: (assignEach [] X.env).map (·.2) := by rfl)
    (hl : (assignEach [.Name y p1, .Name z p2] X.env).length = 2 := by rfl) (hst : (assignEach [.Name y p1, .Name z p2] X.env).findIdx? (·.1) = none := by rfl) (hs1 : starEach [.Constant .none j1 p4, .Constant .none j2 p5] X.env = (false, eval (.Constant .none j1 p4) X.env) :: starEach [.Constant .none j2 p5] X.env := by rfl)
    (hs2 : starEach [.Constant .none j2 p5] X.env = (false, eval (.Constant .none j2 p5) X.env) :: starEach [] X.env := by rfl) (hs : swapsWithSole [.Tuple [.Name y p1, .Name z p2] k1 p3] (.Tuple [.Constant .none j1 p4, .Constant .none j2 p5] k2 p6) pos.line X.env = pure false := by rfl)
    (hw : swappedStores [.Tuple [.Name y p1, .Name z p2] k1 p3] (.Tuple [.Constant .none j1 p4, .Constant .none j2 p5] k2 p6) X.env = pure none := by rfl) (h1 : (assignEach [.Tuple [.Name y p1, .Name z p2] k1 p3] X.env).map (·.2) = [assign (.Tuple [.Name y p1, .Name z p2] k1 p3) X.env] := by rfl) :
    PS X (.Assign [.Tuple [.Name y p1, .Name z p2] k1 p3] (.Tuple [.Constant .none j1 p4, .Constant .none j2 p5] k2 p6) pos) (fun D σ H => ∀ t, H t = none → D.nx ((σ.set i (some .non)).set j (some .non)) (upd H t (.tup [.non, .non]))) := by
  refine PSw (ps_asg (pe_tup (pa_cons pe_non (pa_cons pe_non pa_nil hs2) hs1)) (pg_tup hc (gs_cons (is := [j]) (gs_cons gs_nil hN hj (.inl hz) (.inr hz) g2) hN hi (.inl hy) (.inr hy) g1) hl hst) hs hw h1) fun D σ H h => ?_
  exact ⟨by show 2 ≤ sizeLine; exact sz_le (by decide), fun t ht => ⟨t, _, rfl, SqT.of upd_same, rfl, gNames_set (is := [i, j]) (vs := [.non, .non]) rfl (h t ht)⟩⟩
/-- try: y = call except .. as n: z = n -/
theorem s_trySaid (hs : X.stack = X.env :: X.outer) (hf : X.env.frame = some X.env.locals) (hK : G.K = X.K) (hN : X.N.Nodup) {l : Nat} {a : Str} (hl : X.N[l]? = some n) (hi : X.N[i]? = some y) (hj : X.N[j]? = some z) (hlj : l ≠ j) (hln : X.env.kindOf n = some .local) (hy : X.env.scope.names.lookup y = some .local)
    (hT : TestR X tst hitV) (hh : ∀ x b, hit x = some b → hitV (.ref (He.ga X.K x)) b) (tk : Takes X W) (act : Act X a f (ThR G.K G.m G.B G.H th))
    (hsw : ∀ (a : Addr) (oe : Obj) (pn' : List (Addr × Obj)), PSs (X.suite a ((a, oe) :: pn')) [.Assign [.Name z py] (.Name n pn) p4] (tAsg (tVar l) (gName j)))
    (hs0 : ∀ pn' xe, swapsWith (.Call (.Name a p1) [] [] p2) (some (.Name y p3)) pos.line (X.tr pn' xe).env = pure false) :
    PS X (.Try [.Assign [.Name y p3] (.Call (.Name a p1) [] [] p2) pos] [.ExceptHandler (some tst) (some n) [.Assign [.Name z py] (.Name n pn) p4] hpos] [] [] p5)
      (fun D σ H => ∃ rho mu m, StR G rho mu σ H m NoB ∧ σ[0]? = some (some (.ref f)) ∧ SOk G W D m NoB H (sTryA hit l j (sSet i fun _ mu => th mu) rho mu)) := by
  refine PSw (ps_tryA (tb := fun W D σ H => ∃ rho mu m, StR G rho mu σ H m NoB ∧ σ[0]? = some (some (.ref f)) ∧ SOk G W D m NoB H (sSet i (fun _ mu => th mu) rho mu)) (ts := fun _ _ _ => tAsg (tVar l) (gName j)) hs hf hN hl hln hT tk (fun W' pn' xe tk' _ => ?_) fun a oe cls d pn _ _ => hsw a oe pn)
    fun D σ H ⟨rho, mu, m, S, e, q⟩ => ⟨rho, mu, m, S, e, tryA_core hK hlj hh S q⟩
  refine pss_one (PSw (ps_set (X := X.tr pn' xe) hN hi (.inl hy) (act pn' xe W' p1 p2 tk') (hs0 pn' xe) (.inr hy)) fun D σ H ⟨rho, mu, m, S, e, q⟩ => ⟨e, m, mu, S.le, S.wd.less fun a z => .inl z, ?_⟩)
  have wb : ∀ {m' H' mu'}, Wd G.K m' G.B H' mu' → Wd G.K m' (G.bar NoB) H' mu' := fun w => w.less fun a z => z.elim id (fun q => q.elim)
  have q2 : (th mu).wp _ _ := use_wp (σ := σ) q
  cases et : th mu with
  | ok d mu1 =>
    rw [et] at q2
    exact fun v H' m' g w r => q2 _ H' m' NoB (g.le _) ((S.call g (wb w)).setv i (r.mono (Le.less fun a z => z.elim id (fun q => q.elim))))
  | exc x mu1 =>
    rw [et] at q2
    exact fun c dd H' m' g w r => q2 c dd H' m' g (S.call g (wb w)) (r.less fun a z => z.elim id (fun q => q.elim))
  | bad => rw [et] at q2; exact q2.elim
theorem seq_ok {D : Ends} {m : List Addr} {Own : Addr → Prop} {H : Hp} {a b : StD} {rho : Ev} {mu : Mem} (h : SOk G W D m Own H (sSeq a b rho mu)) : SOk G W { D with nx := fun σ H => TSx G W b D σ H } m Own H (a rho mu) := by
  unfold sSeq at h
  cases e : a rho mu with
  | nx r u => rw [e] at h; exact fun σ' H' m' O' g S' => tsx_mk S' (h.step g)
  | rt z u => rw [e] at h; exact h
  | bk r u => rw [e] at h; exact h
  | ct r u => rw [e] at h; exact h
  | exc x r u => rw [e] at h; exact h
  | bad => rw [e] at h; exact h
theorem out_ok {K : PySem.W.Frag} {m0 m : List Addr} {B : Addr → Prop} {H0 H : Hp} {Q : VK} {E : XK} {o : SO} (h : o.out.wp (fun z mu' => ∀ v H' m', Lf m0 H0 m' H' → Wd K m' B H' mu' → RD m' B H' z v → Q v H') (fun x mu' => ∀ c dd H' m', Lf m0 H0 m' H' → Wd K m' B H' mu' → ExR K m' B H' x c dd → E c dd H')) :
    SOk ⟨K, m0, B, H0⟩ (fun c d _ H' => E c d H') { nx := fun _ H' => Q .non H', rt := Q } m NoB H o := by
  have low : ∀ {Own : Addr → Prop} a, B a → (⟨K, m0, B, H0⟩ : Fr).bar Own a := fun a z => .inl z
  cases o with
  | nx rho' mu' => exact fun σ' H' m' Own' _ S' => h .non H' m' S'.le (S'.wd.less low) .non
  | rt d mu' => exact fun v H' m' g w' r' => h v H' m' g w' r'
  | exc x rho' mu' => exact fun c dd σ' H' m' Own' _ S' xr => h c dd H' m' S'.le (S'.wd.less low) (xr.less low)
  | bk rho' mu' => exact h.elim
  | ct rho' mu' => exact h.elim
  | bad => exact h.elim
end
/-- said as a function of what the lambda does: 0 the lambda, 1 what was caught, 2 what was found, 3 the clause's name -/
def saidD (hit : Str → Option Bool) (ret : StD) : FnS := fun th mu => (sSeq (sTryA hit 3 1 (sSet 2 fun _ mu => th mu)) ret [.un, .val .non, .val .non, .un] mu).out
end Sk

/-! Sk Zs: a def called with a lambda. -/
namespace Sk
open PySem PySem.Spec PyProof.Rows L2
theorem tab_code {K : PySem.W.Frag} {x : Str} {c P : Addr} {cdv : Value} (h : PySem.W.tabIn K x = some (c, P)) (hc : CdOf K (He.ga K x) cdv) : cdv = .ref c := by
  obtain ⟨oc, od, fd, osl, lk, rfl⟩ := hc
  unfold PySem.W.tabIn at h
  unfold He.ga at lk
  split at h
  · rename_i f hf
    rw [hf] at lk
    dsimp only at lk
    rw [lk] at h
    dsimp only at h
    split at h
    · rename_i c2 h2
      split at h
      · split at h
        · cases h
          exact h2
        · cases h
      · cases h
    · cases h
  · cases h
/-- how a lambda's defaults lie in s -/
def DfS (s : Shared) (dV : Value) : List Value → Prop
  | [] => dV = .none
  | d :: ds => ∃ t, dV = .ref t ∧ s.heap.get? t = some (PySem.W.kdv_tup (d :: ds))
def LamB (params : Arguments) (body : Expr) (scope : Scope) (bn : List Str) : Prop := ∀ (q : Str) (cl : List (Str × Addr)) (dV doc pm ctv : Value) (c' : Addr) (ds : List Value) (s : Shared), ds.length = bn.length → DfS s dV ds → BindsTo s (lamFd q params body scope cl dV doc pm c' ctv) ⟨[], []⟩ (bn.zip ds)
theorem lamB0 {params : Arguments} {body : Expr} {scope : Scope} (h : ∀ (q : Str) (cl : List (Str × Addr)) (doc pm ctv : Value) (c' : Addr), bindArgs (lamFd q params body scope cl .none doc pm c' ctv) ⟨[], []⟩ = pure []) : LamB params body scope [] := fun q cl dV doc pm ctv c' ds s hl hd => by
  cases ds with
  | nil =>
    have e : dV = .none := hd
    subst e
    exact .of_eq (h q cl doc pm ctv c')
  | cons d ds => cases hl
theorem lamB1 {params : Arguments} {body : Expr} {scope : Scope} {n : Str} (h : ∀ (q : Str) (cl : List (Str × Addr)) (t : Addr) (doc pm ctv : Value) (c' : Addr), ∃ k, bindArgs (lamFd q params body scope cl (.ref t) doc pm c' ctv) ⟨[], []⟩ = seqItems? (.ref t) >>= k ∧ ∀ d, k (some #[d]) = pure [(n, d)]) : LamB params body scope [n] := fun q cl dV doc pm ctv c' ds s hl hd => by
  match ds, hl, hd with
  | [d], _, hd =>
    obtain ⟨t, rfl, ht⟩ := hd
    obtain ⟨k, h1, h2⟩ := h q cl t doc pm ctv c'
    exact .of_defaults rfl ht rfl h1 (h2 d)
/-- said(lambda: e) -/
def eSaid (said : FnS) (e : EvD) : EvD := fun rho mu => said (fun mu' => e rho mu') mu
/-- the lambda's default -/
def LamD (X : Cx) (params : Arguments) (bn : List Str) : Prop := (bn = [] ∧ defaultsOf params X.env = ([], [])) ∨ ∃ n z pz, bn = [n] ∧ params.defaults = [.Constant (.int z) 0 pz] ∧ params.kw_defaults = []
section
variable {X : Cx} {G : Fr} {W : WX} {kS kb lv : Nat} {x a mk : Str} {N bn : List Str} {sg scope : Scope} {said : FnS} {params : Arguments} {body : Expr} {e : EvD} {p pos lpos : Pos}
theorem c_said (F : FnT X.prog X.w X.K X.mg X.base kS (He.ga X.K x) x a N sg said) (hmg : X.mg x = some (.ref (He.ga X.K x))) (hkp : PySem.W.keepIn X.K (.ref (He.ga X.K x)) = true) (hK : G.K = X.K) (TB : TbOk X.K X.mg X.base) (htab : (PySem.W.tabIn X.K mk).isSome = true) (hcd : CdOf X.K (He.ga X.K mk) X.env.code) (hr : Rm lv X.A) (tk : Takes X W)
    (L : LamT X.N bn X.env.scope scope) (hdef : LamD X params bn) (hbd : LamB params body scope bn)
    (hbody : ∀ (A : Around) (outer : List Env) (s : Shared) (H : Hp) (E : XK) (f c' : Addr), Rm kb (A.deeper (LamX.lamEnv X scope s.heap.objs.size f c')) → Takes (LamX.lamCx X A outer s H E scope f c') (fun c d _ H' => E c d H') → PE (LamX.lamCx X A outer s H E scope f c') body (TEx G (fun c d _ H' => E c d H') e))
    (hmk : mk ∈ mkrs := by decide) (hq : X.env.qual ++ "<lambda>" = lamQ mk := by rfl) (hk1 : kS ≤ lv := by decide) (hk2 : kb + 2 ≤ lv := by decide) (hg : Gl X x := by rfl) (hdb : (x == ("__debug__" : Str)) = false := by decide) (hda : (a == ("__debug__" : Str)) = false := by decide) (hca : (a == ("__classdict__" : Str)) = false := by decide)
    (hst : starEach [.Lambda params body scope lpos] X.env = (false, eval (.Lambda params body scope lpos) X.env) :: starEach [] X.env := by rfl) (hpl : (backTo pos (starEach [] X.env)).any (·.1) = false := by rfl) :
    PE X (.Call (.Name x p) [.Lambda params body scope lpos] [] pos) (TEx G W (eSaid said e)) := by
  refine ⟨fun pins s σ H Q I h => ?_⟩
  obtain ⟨rho, mu, m, Own, S, h⟩ := h.un
  obtain ⟨⟨c, P⟩, et⟩ := Option.isSome_iff_exists.mp htab
  have hcode := tab_code et hcd
  have etG : PySem.W.tabIn G.K mk = some (c, P) := by rw [hK]; exact et
  obtain ⟨td, tb⟩ := TB
  have tab := S.tabAt hmk etG
  rw [← hq] at tab
  obtain ⟨dn, hdn, hln⟩ : ∃ dn : Option Expr, ((dn = none ∧ defaultsOf params X.env = ([], [])) ∨ ∃ z pz, dn = some (.Constant (.int z) 0 pz) ∧ params.defaults = [.Constant (.int z) 0 pz] ∧ params.kw_defaults = []) ∧ dn.toList.length = bn.length := by
    rcases hdef with ⟨rfl, hdef⟩ | ⟨n, z, pz, rfl, h1, h2⟩
    · exact ⟨none, .inl ⟨rfl, hdef⟩, rfl⟩
    · exact ⟨some (.Constant (.int z) 0 pz), .inr ⟨z, pz, rfl, h1, h2⟩, rfl⟩
  refine wpAny_Call_Name_kw (ld_glob I hg hmg ?_ hdb)
  refine PySem.W.callWith_K (h₀ := X.base) I.ok.mod.kin hkp (Calls.spliced_cons (lam_mk (dn := dn) I (tb mk hmk c P et) hcode tab (L.has I.ok) hdn fun f c' ctv doc pm dV ds H1 s' I1 g hl hd hf hfn hfr hco => Calls.spliced_nil ⟨I1.kIn, ?_⟩)) hst hpl
  · have hl : ds.length = bn.length := hl.trans hln
    rw [hq] at g
    obtain ⟨S1, l1⟩ := S.grow (hK ▸ td) hmk etG g
    have act : ∀ (cdv : Value) (Eg : XK), Act (cxOf (CXx X.prog X.w) X.prog X.w X.K X.mg X.base N x sg (He.ga X.K x) cdv X.A X.stack s' H1 Eg) a f (ThR X.K m (G.bar Own) H1 fun mu' => e rho mu') := fun cdv Eg pn xe W2 p1 p2 tk2 => by
      refine PEw (act_ok (bn := bn) (vs := ds) (k := kb) (i := 0) (tb := fun E => TEx G (fun c d _ H' => E c d H') e) I1 L hf hfn hfr rfl (fun s2 kept => hbd _ _ _ _ _ _ _ ds s2 hl ?_) tk2 ((hr.mono hk2).deeper _) (fun A outer s H E hr2 => hbody A outer s H E f c' hr2 (takes_of rfl rfl rfl rfl)) F.var F.vis hda hca) fun σZ HZ Q' ⟨h1, m2, mu2, l2, w2, h2⟩ => ⟨h1, ?_, ?_⟩
      · cases ds with
        | nil => exact hd
        | cons d ds =>
          obtain ⟨t, e1, e2, e3, e4⟩ := hd
          exact ⟨t, e1, kept t _ e2 e3 e4⟩
      · rw [hq] at hco ⊢
        obtain ⟨_, _, ps, u1, u2, u3⟩ := S1.wd.tb mk hmk c P etG
        obtain ⟨c2, z1, z2, z3, z4⟩ : ∃ c2, Value.ref c' = .ref c2 ∧ c2 ∉ m ∧ ¬ G.bar Own c2 ∧ H1 c2 = some (LamX.CodeO c2 (lamQ mk)) := by
          obtain ⟨qs, k1, ⟨k2, pos2, k3⟩ | ⟨k2, more, k3, k4, k5⟩⟩ := g
          · subst k2
            rw [k1] at u1
            cases u1
            exact u3 pos2 _ k3
          · obtain ⟨f1, f2⟩ := S.fresh k2
            exact ⟨c', rfl, f1, f2, hco⟩
        cases z1
        exact l2.keep _ _ z4 (fun ps => LamX.codeO_ne ps) z2 id
      · have S2 : StR G rho mu2 σ HZ m2 Own := S1.call l2 (hK ▸ w2)
        refine TEx.to (A := fun z mu' => ∀ v H' m', Lf m2 HZ m' H' → Wd X.K m' (G.bar Own) H' mu' → RD m' (G.bar Own) H' z v → Q' v H') S2 ?_ fun z mu3 v H3 m3 k1 g3 S3 r3 => k1 v H3 m3 g3 (hK ▸ S3.wd) r3
        have h2 : (e rho mu2).wp _ _ := h2
        cases eo : e rho mu2 with
        | ok z mu3 => rw [eo] at h2; exact h2
        | exc y mu3 => rw [eo] at h2; exact fun cc dd H' m' g' S' xr => h2 cc dd H' m' g' (hK ▸ S'.wd) (hK ▸ xr)
        | bad => rw [eo] at h2; exact h2
    refine wpAny_call (codeAny_mono (F.run X.A X.stack s' H1 f (fun mu' => e rho mu') m (G.bar Own) mu Q (fun c d H' => W c d σ H') (hr.mono hk1) I1.env0 act (hK ▸ S1.wd) ?_) fun r s2 hq => ?_)
    · have h0 : (said (fun mu' => e rho mu') mu).wp _ _ := h
      cases eo : said (fun mu' => e rho mu') mu with
      | ok z mu3 => rw [eo] at h0; exact fun v H' m' g' w' r' => h0 v H' m' (l1.trans g') (S1.call g' (hK ▸ w')) r'
      | exc y mu3 => rw [eo] at h0; exact fun cc dd H' m' g' w' xr => h0 cc dd H' m' (l1.trans g') (S1.call g' (hK ▸ w')) (hK ▸ xr)
      | bad => rw [eo] at h0; exact h0
    · cases r with
      | error er => exact passAt tk σ pins H1 s' er s2 I1 hq
      | ok fl => cases fl with
        | ret u => exact I1.after hq
        | next => exact hq.elim
        | brk => exact hq.elim
        | cont => exact hq.elim
end
end Sk

/-! Sk Zt: said by names; errors asked by names. -/
namespace Sk
open PySem PySem.Spec PyProof.Rows L2
def lamTB (N bn : List Str) (sc scope : Scope) : Bool := decide (scope.kind = .function) && (!scope.isCoroutine && (!scope.isGenerator && ((scope.names.all fun y => !decide (y.2 = .cell)) && ((N.all fun y => !decide (scope.names.lookup y = some .local)) && ((bn.all fun y => decide (scope.names.lookup y = some .local)) &&
  scope.names.all fun y => !decide (y.2 = .free) || (decide (sc.names.lookup y.1 = some .cell) || decide (sc.names.lookup y.1 = some .free)))))))
theorem lamT_by {N bn : List Str} {sc scope : Scope} (h : lamTB N bn sc scope = true) : LamT N bn sc scope := by
  unfold lamTB at h
  simp only [Bool.and_eq_true, Bool.or_eq_true, Bool.not_eq_true', decide_eq_true_eq, decide_eq_false_iff_not, List.all_eq_true] at h
  obtain ⟨h1, h2, h3, h4, h5, h6, h7⟩ := h
  exact ⟨h1, h2, h3, h4, h5, h6, fun y hy e => (h7 y hy).elim (fun z => absurd e z) id⟩
/-- a def of the text that takes a lambda -/
structure Dsd (P : Program) (w : World) (K : PySem.W.Frag) (mg : Str → Option Value) (base : Heap) (k : Nat) (x a : Str) (N : List Str) (scope : Scope) (said : FnS) : Prop where
  t : FnT P w K mg base k (He.ga K x) x a N scope said
  mg : mg x = some (.ref (He.ga K x))
  kp : PySem.W.keepIn K (.ref (He.ga K x)) = true
/-- the text's names, the tables of the base -/
structure TyL (K : PySem.W.Frag) (mg : Str → Option Value) (h base : Heap) (fa : List He.Fa) (fn : List DA) (ex : PySem.W.Frag → Bool) : Prop extends Ty K mg h fa fn ex where
  tb : TbOk K mg base
theorem Df.ofC {P : Program} {w : World} {K : PySem.W.Frag} {mg : Str → Option Value} {base : Heap} {h : Heap} {fa : List He.Fa} {fn : List DA} {ex : PySem.W.Frag → Bool} {k n z : Nat} {x : Str} {st : Stmt} {N ps : List Str} {bd : StD} (T : Ty K mg h fa fn ex) (i j : Nat) (S : FnScope N ps (defScope st))
    (hb : ∀ (cdv : Value) (A : Around) (out : List Env) (s : Shared) (H : Hp) (E : XK) (G : Fr), CdOf K (He.ga K x) cdv → G.K = K → Rm k (A.deeper (envOfC x (defScope st) s.heap.objs.size (He.ga K x) cdv)) →
      Takes (cxOf (CXx P w) P w K mg base N x (defScope st) (He.ga K x) cdv A out s H E) (fun c d _ H' => E c d H') →
      PassesOwn (model P w) (A.deeper (envOfC x (defScope st) s.heap.objs.size (He.ga K x) cdv)) (envOfC x (defScope st) s.heap.objs.size (He.ga K x) cdv) (cxOf (CXx P w) P w K mg base N x (defScope st) (He.ga K x) cdv A out s H E).xe →
      PSs (cxOf (CXx P w) P w K mg base N x (defScope st) (He.ga K x) cdv A out s H E) (defBody st) (TSx G (fun c d _ H' => E c d H') bd))
    (hd : fn[i]? = some (dOfA x st) := by rfl) (hf : fa[j]? = some (.glo x) := by rfl) (hn : ps.length = n := by rfl) (hN : N.length = n + z := by rfl) : Df P w K mg base (k + 1) x st ps (fnD n z bd) := by
  obtain ⟨fd, F⟩ := T.says.def_ i hd
  exact ⟨⟨fd, F, fnG_okC F S hn hN fun cdv A out s H E G e0 e hr => hb cdv A out s H E G e0 e hr (takes_of rfl rfl rfl rfl) (passes_of rfl)⟩, T.glo j hf⟩
/-- said, by the three parts of its text -/
theorem Dsd.of {P : Program} {w : World} {K : PySem.W.Frag} {mg : Str → Option Value} {base : Heap} {h : Heap} {fa : List He.Fa} {fn : List DA} {ex : PySem.W.Frag → Bool} {k : Nat} {x a c1 c2 n : Str} {st s1 s2 s3 : Stmt} {hit : Str → Option Bool} {ret : StD} (T : Ty K mg h fa fn ex) (i j : Nat) (S : FnScope [a, c1, c2, n] [a] (defScope st))
    (hb : ∀ (cdv : Value) (A : Around) (out : List Env) (s : Shared) (H : Hp) (E : XK) (G : Fr) (f : Addr) (th : Thk), G.K = K → Rm k (A.deeper (envOfC x (defScope st) s.heap.objs.size (He.ga K x) cdv)) →
      Takes (cxOf (CXx P w) P w K mg base [a, c1, c2, n] x (defScope st) (He.ga K x) cdv A out s H E) (fun c d _ H' => E c d H') →
      Act (cxOf (CXx P w) P w K mg base [a, c1, c2, n] x (defScope st) (He.ga K x) cdv A out s H E) a f (ThR G.K G.m G.B G.H th) →
      PS (cxOf (CXx P w) P w K mg base [a, c1, c2, n] x (defScope st) (He.ga K x) cdv A out s H E) s1 (fun D σ H => ∀ t, H t = none → D.nx ((σ.set 1 (some .non)).set 2 (some .non)) (upd H t (.tup [.non, .non]))) ∧
      PS (cxOf (CXx P w) P w K mg base [a, c1, c2, n] x (defScope st) (He.ga K x) cdv A out s H E) s2 (fun D σ H => ∃ rho mu m, StR G rho mu σ H m NoB ∧ σ[0]? = some (some (.ref f)) ∧ SOk G (fun c d _ H' => E c d H') D m NoB H (sTryA hit 3 1 (sSet 2 fun _ mu => th mu) rho mu)) ∧
      PS (cxOf (CXx P w) P w K mg base [a, c1, c2, n] x (defScope st) (He.ga K x) cdv A out s H E) s3 (TSx G (fun c d _ H' => E c d H') ret))
    (hst : defBody st = [s1, s2, s3] := by rfl) (hv : Vis (defScope st) a := by first | exact Or.inl rfl | exact Or.inr (Or.inl rfl)) (hp : ∀ (kV doc pm : Value) (an : Option Addr) (cdv ct : Value) (u : Value), bindArgs (PySem.W.fnOf x x (defArgs st) (defBody st) (defScope st) .none kV doc pm an cdv ct) ⟨[u], []⟩ = pure [(a, u)] := by intro _ _ _ _ _ _ _; rfl)
    (hd : fn[i]? = some (dOfA x st) := by rfl) (hf : fa[j]? = some (.glo x) := by rfl) : Dsd P w K mg base (k + 1) x a [a, c1, c2, n] (defScope st) (saidD hit ret) := by
  obtain ⟨fd, F⟩ := T.says.def_ i hd
  refine ⟨FnT.of F S rfl hv hp fun cdv A out s H E f th m B mu Q hr act wd hw => ?_, T.glo j hf, F.kp⟩
  obtain ⟨p1, p2, p3⟩ := hb cdv A out s H E ⟨K, m, B, H⟩ f th rfl hr (takes_of rfl rfl rfl rfl) act
  have eb : (dOfA x st).body = [s1, s2, s3] := hst
  rw [eb]
  refine ⟨_, pss_cons p1 (pss_cons p2 (pss_one p3)), fun t ht => ?_⟩
  have nob : ∀ a, (⟨K, m, B, H⟩ : Fr).bar NoB a → B a := fun a z => z.elim id (fun q => q.elim)
  have st : StR ⟨K, m, B, H⟩ [.un, .un, .un, .un] mu [some (.ref f), none, none, none] H m NoB := by
    refine ⟨Lf.refl, wd.less nob, .cons trivial (.cons trivial (.cons trivial (.cons trivial .nil))), fun a z => z.elim, fun i j a xs ys _ h1 => ?_⟩
    match i with
    | 0 => cases h1
    | 1 => cases h1
    | 2 => cases h1
    | 3 => cases h1
    | i + 4 => cases h1
  have S2 := ((st.setv 1 (d := .non) .non).setv 2 (d := .non) .non).same (same_upd (o := .tup [.non, .non]) ht)
  exact ⟨_, mu, m, S2, rfl, seq_ok (out_ok hw)⟩
/-! ### the nine classes -/
def nineV (K : PySem.W.Frag) : List Value := (["BadBook", "BadHeard", "BadLoss", "BadNumber", "BadPaper", "BadStart", "BadText", "TooMany", "NothingLeft"] : List Str).map fun c => .ref (He.ga K c)
theorem test_nine {X : Cx} {kk : Nat} {tpos q1 q2 q3 q4 q5 q6 q7 q8 q9 : Pos} (h : ∀ c ∈ (["BadBook", "BadHeard", "BadLoss", "BadNumber", "BadPaper", "BadStart", "BadText", "TooMany", "NothingLeft"] : List Str), Gl X c ∧ X.mg c = some (.ref (He.ga X.K c))) :
    TestR X (.Tuple [.Name "BadBook" q1, .Name "BadHeard" q2, .Name "BadLoss" q3, .Name "BadNumber" q4, .Name "BadPaper" q5, .Name "BadStart" q6, .Name "BadText" q7, .Name "TooMany" q8, .Name "NothingLeft" q9] kk tpos) (fun cls b => PySem.W.exmAny X.K cls (nineV X.K) = some b) := by
  have nm : ∀ c ∈ (["BadBook", "BadHeard", "BadLoss", "BadNumber", "BadPaper", "BadStart", "BadText", "TooMany", "NothingLeft"] : List Str), Names X c (.ref (He.ga X.K c)) := fun c hc => ⟨(h c hc).1, by
    have key : (["BadBook", "BadHeard", "BadLoss", "BadNumber", "BadPaper", "BadStart", "BadText", "TooMany", "NothingLeft"] : List Str).all (fun c => !(c == ("__debug__" : Str))) = true := by decide +kernel
    have z := List.all_eq_true.mp key c hc
    simpa using z, .inl (h c hc).2⟩
  refine test_tup [(("BadBook", q1), .ref (He.ga X.K "BadBook")), (("BadHeard", q2), .ref (He.ga X.K "BadHeard")), (("BadLoss", q3), .ref (He.ga X.K "BadLoss")), (("BadNumber", q4), .ref (He.ga X.K "BadNumber")), (("BadPaper", q5), .ref (He.ga X.K "BadPaper")), (("BadStart", q6), .ref (He.ga X.K "BadStart")), (("BadText", q7), .ref (He.ga X.K "BadText")), (("TooMany", q8), .ref (He.ga X.K "TooMany")), (("NothingLeft", q9), .ref (He.ga X.K "NothingLeft"))] (fun p hp => ?_) (by show 9 ≤ 30; decide)
  simp only [List.mem_cons, List.not_mem_nil, or_false] at hp
  rcases hp with rfl | rfl | rfl | rfl | rfl | rfl | rfl | rfl | rfl <;> exact nm _ (by simp)
def hit9B (K : PySem.W.Frag) (l : List (Str × Bool)) : Bool := l.all fun p => decide (PySem.W.exmAny K (.ref (He.ga K p.1)) (nineV K) = some p.2)
theorem hit9_ok {K : PySem.W.Frag} {l : List (Str × Bool)} (h : hit9B K l = true) (x : Str) (b : Bool) (e : hitL l x = some b) : PySem.W.exmAny K (.ref (He.ga K x)) (nineV K) = some b := of_decide_eq_true (List.all_eq_true.mp h _ (lookup_in e))
/-! ### what is asked of a caught error -/
def iscB (K : PySem.W.Frag) (c : Str) : Bool := (PySem.W.clsIn K (He.ga K c)).isSome && (He.eqO (PySem.W.findIn K (.ref (He.ga K c)) "__getattribute__") (some (some (.builtin "BaseException.__getattribute__"))) && (He.eqO (PySem.W.findIn K (.ref (He.ga K c)) "__getattr__") (some none) && (decide (PySem.W.subIn K (.ref (He.ga K c)) (.type "BaseException") = some true) &&
  (PySem.W.hasDictIn K (He.ga K c) && (He.eqO (PySem.W.findIn K (.ref (He.ga K c)) "__class__") (some (some (.builtin "object.__class__"))) && (He.eqO (PySem.W.specialIn K (.builtin "object.__class__") "__get__") (some (some (.builtin "getset_descriptor.__get__"))) && (decide (PySem.W.takesIn K (.builtin "object.__class__") = some true) && decide (PySem.W.mroIn K (He.ga K c) (.type "object") = some true))))))))
theorem iscB_ok {K : PySem.W.Frag} {c : Str} (h : iscB K c = true) : IsC K (He.ga K c) := by
  obtain ⟨h1, h⟩ := ba3 h
  obtain ⟨h2, h⟩ := ba3 h
  obtain ⟨h3, h⟩ := ba3 h
  obtain ⟨h4, h⟩ := ba3 h
  obtain ⟨h5, h⟩ := ba3 h
  obtain ⟨h6, h⟩ := ba3 h
  obtain ⟨h7, h⟩ := ba3 h
  obtain ⟨h8, h9⟩ := ba3 h
  exact ⟨h1, He.eqO_ok h2, He.eqO_ok h3, of_decide_eq_true h4, h5, He.eqO_ok h6, He.eqO_ok h7, of_decide_eq_true h8, of_decide_eq_true h9⟩
def isxB (K : PySem.W.Frag) (D : Str) (l : List (Str × Bool)) : Bool := l.all fun p => iscB K p.1 && decide (PySem.W.kitOne K (.ref (He.ga K p.1)) (.ref (He.ga K D)) = some p.2)
theorem isx_ok {K : PySem.W.Frag} {D : Str} {l : List (Str × Bool)} (h : isxB K D l = true) (c : Str) (b : Bool) (e : (fun c (_ : Str) => hitL l c) c D = some b) : IsC K (He.ga K c) ∧ PySem.W.kitOne K (.ref (He.ga K c)) (.ref (He.ga K D)) = some b := by
  obtain ⟨h1, h2⟩ := He.ba (List.all_eq_true.mp h _ (lookup_in e))
  exact ⟨iscB_ok h1, of_decide_eq_true h2⟩
def atxB (K : PySem.W.Frag) (f : Str) (l : List Str) : Bool := l.all fun c => iscB K c && He.eqO (PySem.W.findIn K (.ref (He.ga K c)) f) (some none)
theorem atx_ok {K : PySem.W.Frag} {f : Str} {l : List Str} (h : atxB K f l = true) (c : Str) (hc : c ∈ l) : IsC K (He.ga K c) ∧ PySem.W.findIn K (.ref (He.ga K c)) f = some none := by
  obtain ⟨h1, h2⟩ := He.ba (List.all_eq_true.mp h _ hc)
  exact ⟨iscB_ok h1, He.eqO_ok h2⟩
def tabB (K : PySem.W.Frag) (x : Str) : Bool := (PySem.W.tabIn K x).isSome
end Sk

/-! Sk Zu: methods and classes called by names of parameters; len of an own class. -/
namespace Sk
open PySem PySem.Spec PyProof.Rows L2
/-- the keywords' values in the parameters' order -/
def aPick (perm : List Nat) (r : Ev → Mem → Out (List Da)) : Ev → Mem → Out (List Da) := fun rho mu => bnd (r rho mu) fun xs mu1 => .ok (pick perm xs) mu1
/-- len(o) by the class's own -/
def eLenI (c : Str) (fn : Fn) (o : EvD) : EvD := fun rho mu => bnd (ePr c fn o rho mu) fun d mu1 => match d with
  | .int n => if 0 ≤ n ∧ n < 2 ^ 63 then .ok (.int n) mu1 else .bad
  | _ => .bad
/-- all parameters given, one of them has a default -/
abbrev BindQF (x qual : Str) (st : Stmt) (ps : List Str) : Prop := ∀ (T : Addr) (kV doc pm : Value) (an : Option Addr) (cdv ct : Value) (us its : List Value), us.length = ps.length → its.length = 1 → ∃ k, bindArgs (PySem.W.fnOf x qual (defArgs st) (defBody st) (defScope st) (.ref T) kV doc pm an cdv ct) ⟨us, []⟩ = seqItems? (.ref T) >>= k ∧ k (some its.toArray) = pure (ps.zip (us ++ its.drop 1))
/-- the object, then keywords, no defaults -/
abbrev BindQK (x qual : Str) (st : Stmt) (ps ks : List Str) (perm : List Nat) : Prop := ∀ (kV doc pm : Value) (an : Option Addr) (cdv ct u : Value) (ws : List Value), ws.length = ks.length → bindArgs (PySem.W.fnOf x qual (defArgs st) (defBody st) (defScope st) .none kV doc pm an cdv ct) ⟨[u], ks.zip ws⟩ = pure (ps.zip (u :: pick perm ws))
/-- .. with defaults -/
abbrev BindQKF (x qual : Str) (st : Stmt) (ps ks : List Str) (perm : List Nat) : Prop := ∀ (T : Addr) (kV doc pm : Value) (an : Option Addr) (cdv ct u : Value) (ws its : List Value), ws.length = ks.length → its.length = 1 → ∃ k, bindArgs (PySem.W.fnOf x qual (defArgs st) (defBody st) (defScope st) (.ref T) kV doc pm an cdv ct) ⟨[u], ks.zip ws⟩ = seqItems? (.ref T) >>= k ∧ k (some its.toArray) = pure (ps.zip (u :: pick perm ws))
abbrev KwT (K : PySem.W.Frag) (fd : FuncData) (ps ks : List Str) (perm : List Nat) : Prop := ∀ (s : Shared) (u : Value) (ws : List Value), K.In s.heap → ws.length = ks.length → BindsTo s fd ⟨[u], ks.zip ws⟩ (ps.zip (u :: pick perm ws))
section
variable {K : PySem.W.Frag} {x qual : Str} {st : Stmt} {dvs : List V} {f : Addr} {fd : FuncData} {ps ks : List Str} {perm : List Nat}
theorem bindsF {v : V} (F : FunD K x qual (defArgs st) (defBody st) (defScope st) [v] [] f fd) (h : BindQF x qual st ps) : Binds K fd ps [] := by
  obtain ⟨ds, v1, b1⟩ := F.binds1 (ps := ps) ps.length 1 (fun z => nomatch z) (by simp) fun T kV doc pm an cdv ct us its h1 h2 => h T kV doc pm an cdv ct us its h1 h2
  cases v1
  exact b1
theorem kwT (F : FunD K x qual (defArgs st) (defBody st) (defScope st) [] [] f fd) (h : BindQK x qual st ps ks perm) : KwT K fd ps ks perm := by
  obtain ⟨oc, od, dV, kV, doc, pm, an, cdv, ct, osl, rfl, lk, hcd, hD, hK⟩ := F.ex
  rcases hD with ⟨_, rfl⟩ | ⟨e, _⟩
  · exact fun s u ws _ hl => .of_eq (h kV doc pm an cdv ct u ws hl)
  · exact absurd rfl e
theorem kwTF {v : V} (F : FunD K x qual (defArgs st) (defBody st) (defScope st) [v] [] f fd) (h : BindQKF x qual st ps ks perm) : KwT K fd ps ks perm := by
  obtain ⟨oc, od, dV, kV, doc, pm, an, cdv, ct, osl, rfl, lk, hcd, hD, hK⟩ := F.ex
  rcases hD with ⟨e, _⟩ | ⟨_, T, o, its, m, rfl, lT, oT, rT⟩
  · exact nomatch e
  · intro s u ws X hl
    obtain ⟨k, e1, e2⟩ := h T kV doc pm an cdv ct u ws its hl rT.length.symm
    refine BindsTo.of_looks fun M => ?_
    rw [e1]
    exact looks_items X lT oT (.of_pure e2)
end
section
variable {X : Cx} {G : Fr} {W : WX} {k lv : Nat} {c mn qual x : Str} {st : Stmt} {ps ks : List Str} {perm : List Nat} {fn : Fn} {e o : Expr} {es : List Expr} {kws : List Keyword} {dv : EvD} {r : Ev → Mem → Out (List Da)} {p pos apos : Pos} {C f : Addr} {fd : FuncData} {sp : Sp} {ta : TE} {t : TA} {E : L2.St → XK}
/-- o.m(e, ..) where m has a default that is not wanted -/
theorem c_mcA {n : Int} (hK : G.K = X.K) (hc : Cls X.K (He.ga X.K c)) (hm : Meth X.K (He.ga X.K c) mn (He.ma X.K (He.ga X.K c) mn)) (T : Dm X.prog X.w X.K X.mg X.base k (.meth c mn) mn qual st [.int n] ps fn) (hb : BindQF mn qual st ps) (hr : Rm lv X.A) (tk : Takes X W) (ho : PE X o (TEx G W dv)) (ha : PA X (e :: es) (TAx G W r)) (hlv : k ≤ lv := by decide)
    (he : starEach (e :: es) X.env = (false, eval e X.env) :: starEach es X.env := by rfl) (hpl : (backTo pos (starEach es X.env)).any (·.1) = false := by rfl) {pl : Sem Bool}
    (ht : eval (.Call (.Attribute o mn apos) (e :: es) [] pos) X.env = (do
      let ov ← eval o X.env
      standAt apos.atName
      let (f, first) ← holding [ov] (getMethod ov mn pl)
      callWith pos f first (backTo pos (starEach (e :: es) X.env)) (backToKw pos (keywordEach [] X.env))) := by rfl) : PE X (.Call (.Attribute o mn apos) (e :: es) [] pos) (TEx G W (eMc c mn fn [] dv r)) := by
  obtain ⟨fd, F1, F2⟩ := T.ex
  exact c_mc (dvs := []) (ds := []) hK hc hm F2 hr (bindsF F1 hb) .nil (fun _ _ _ => .nil) tk ho ha hlv he hpl ht
/-! ### keywords -/
theorem pick_ta {σ : L2.St} {H : Hp} {F : List V → Hp → Prop} (hln : ∀ rho mu xs mu', r rho mu = .ok xs mu' → xs.length = ks.length) (h : TAx G W (aPick perm r) σ H F) : TAx G W r σ H fun zs H2 => zs.length = ks.length ∧ F (pick perm zs) H2 := by
  obtain ⟨rho, mu, m, Own, S, h⟩ := h
  refine ⟨rho, mu, m, Own, S, ?_⟩
  unfold aPick at h
  have e0 := hln rho mu
  cases e : r rho mu with
  | ok xs mu1 =>
    rw [e] at h
    exact fun vs H' m' g S' rd => ⟨by rw [← rd.length, e0 _ _ e], h _ H' m' g S' (rd.pick perm)⟩
  | exc y mu1 => rw [e] at h; exact h
  | bad => rw [e] at h; exact h.elim
theorem pe_mcGK {pl : Sem Bool} {tk' : TA} (he : PE X o ta) (c : Cls X.K C) (hm : Meth X.K C mn f) (F : FnG X.prog X.w X.K X.mg X.base k f fd ps sp) (hr : Rm k X.A) (hb : KwT X.K fd ps ks perm) (hx : ∀ σ, PassesAt (CXx X.prog X.w) X σ (E σ)) (ha : PK X kws tk')
    (hl : ∀ σ H F, t σ H F → tk' σ H fun zs H2 => zs.length = ks.length ∧ F (pick perm zs) H2)
    (hall : (backToKw pos (keywordEach kws X.env)).all (·.1.isSome) = true) (hks : (backToKw pos (keywordEach kws X.env)).filterMap (·.1) = ks) (hpl : ((backTo pos (starEach [] X.env)).any (·.1) || (backToKw pos (keywordEach kws X.env)).any (·.1.isNone)) = false)
    (ht : eval (.Call (.Attribute o mn apos) [] kws pos) X.env = (do
      let ov ← eval o X.env
      standAt apos.atName
      let (f, first) ← holding [ov] (getMethod ov mn pl)
      callWith pos f first (backTo pos (starEach [] X.env)) (backToKw pos (keywordEach kws X.env)))) :
    PE X (.Call (.Attribute o mn apos) [] kws pos) (tMcG C mn sp [] E ta t) := by
  refine ⟨fun pins s σ H Q I h => PySem.W.methodCall_KW (pl := pl) (thn (he.run pins s σ H _ I h) fun u s1 ⟨x, H1, I1, rx, a, dx, fs, ex, ea, l, q⟩ => ?_) ht⟩
  subst ex
  obtain rfl : u = Value.ref a := rx
  refine getmeth_ok I1 ea c hm l (PySem.W.callWith_KW0 (first := [.ref a]) (h₀ := X.base) I.ok.mod.kin hm.kp hall (thn (ha.run pos pins s1 σ H1 _ I1 (hl _ _ _ q)) fun ws s2 ⟨zs, H2, I2, rz, hz, q2⟩ => ⟨I2.kIn, ?_⟩) hpl)
  rw [hks]
  rw [List.append_nil] at q2
  have r2 : Vals (V.ref a :: pick perm zs) (Value.ref a :: pick perm ws) := .cons rfl (Vals.pick rz perm)
  refine wpAny_call (codeAny_mono (runG F hr (hx σ) I2 (hb s2 (.ref a) ws I2.kIn (by rw [← rz.length, hz])) r2 q2) fun res s' hq => ?_)
  cases res with
  | error er => exact hq
  | ok fl => cases fl with
    | ret u => exact hq
    | next => exact hq.elim
    | brk => exact hq.elim
    | cont => exact hq.elim
theorem c_mcKT (hK : G.K = X.K) (hc : Cls X.K (He.ga X.K c)) (hm : Meth X.K (He.ga X.K c) mn f) (F : FnG X.prog X.w X.K X.mg X.base k f fd ps (spOf X.K fn)) (hb : KwT X.K fd ps ks perm) (hr : Rm lv X.A) (tk : Takes X W) (ho : PE X o (TEx G W dv)) (ha : PK X kws (TAx G W r)) (hln : ∀ rho mu xs mu', r rho mu = .ok xs mu' → xs.length = ks.length) (hlv : k ≤ lv)
    (hall : (backToKw pos (keywordEach kws X.env)).all (·.1.isSome) = true) (hks : (backToKw pos (keywordEach kws X.env)).filterMap (·.1) = ks) (hpl : ((backTo pos (starEach [] X.env)).any (·.1) || (backToKw pos (keywordEach kws X.env)).any (·.1.isNone)) = false) {pl : Sem Bool}
    (ht : eval (.Call (.Attribute o mn apos) [] kws pos) X.env = (do
      let ov ← eval o X.env
      standAt apos.atName
      let (f, first) ← holding [ov] (getMethod ov mn pl)
      callWith pos f first (backTo pos (starEach [] X.env)) (backToKw pos (keywordEach kws X.env)))) : PE X (.Call (.Attribute o mn apos) [] kws pos) (TEx G W (eMc c mn fn [] dv (aPick perm r))) :=
  PEw (pe_mcGK (t := TAx G W (aPick perm r)) (E := fun σ c d H' => W c d σ H') ho hc hm F (hr.mono hlv) hb (fun σ => passAt tk σ) ha (fun _ _ _ h => pick_ta hln h) hall hks hpl ht) fun σ H Q h => mc_le (dvs := []) hK (fun _ _ _ => .nil) h
/-- o.m(k = v, ..) -/
theorem c_mcK (hK : G.K = X.K) (hc : Cls X.K (He.ga X.K c)) (hm : Meth X.K (He.ga X.K c) mn (He.ma X.K (He.ga X.K c) mn)) (T : Dm X.prog X.w X.K X.mg X.base k (.meth c mn) mn qual st [] ps fn) (hb : BindQK mn qual st ps ks perm) (hr : Rm lv X.A) (tk : Takes X W) (ho : PE X o (TEx G W dv)) (ha : PK X kws (TAx G W r)) (hln : ∀ rho mu xs mu', r rho mu = .ok xs mu' → xs.length = ks.length) (hlv : k ≤ lv := by decide)
    (hall : (backToKw pos (keywordEach kws X.env)).all (·.1.isSome) = true := by rfl) (hks : (backToKw pos (keywordEach kws X.env)).filterMap (·.1) = ks := by rfl) (hpl : ((backTo pos (starEach [] X.env)).any (·.1) || (backToKw pos (keywordEach kws X.env)).any (·.1.isNone)) = false := by rfl) {pl : Sem Bool}
    (ht : eval (.Call (.Attribute o mn apos) [] kws pos) X.env = (do
      let ov ← eval o X.env
      standAt apos.atName
      let (f, first) ← holding [ov] (getMethod ov mn pl)
      callWith pos f first (backTo pos (starEach [] X.env)) (backToKw pos (keywordEach kws X.env))) := by rfl) : PE X (.Call (.Attribute o mn apos) [] kws pos) (TEx G W (eMc c mn fn [] dv (aPick perm r))) := by
  obtain ⟨fd, F1, F2⟩ := T.ex
  exact c_mcKT hK hc hm F2 (kwT F1 hb) hr tk ho ha hln hlv hall hks hpl ht
/-- .. where m has a default that is not wanted -/
theorem c_mcKF {n : Int} (hK : G.K = X.K) (hc : Cls X.K (He.ga X.K c)) (hm : Meth X.K (He.ga X.K c) mn (He.ma X.K (He.ga X.K c) mn)) (T : Dm X.prog X.w X.K X.mg X.base k (.meth c mn) mn qual st [.int n] ps fn) (hb : BindQKF mn qual st ps ks perm) (hr : Rm lv X.A) (tk : Takes X W) (ho : PE X o (TEx G W dv)) (ha : PK X kws (TAx G W r)) (hln : ∀ rho mu xs mu', r rho mu = .ok xs mu' → xs.length = ks.length) (hlv : k ≤ lv := by decide)
    (hall : (backToKw pos (keywordEach kws X.env)).all (·.1.isSome) = true := by rfl) (hks : (backToKw pos (keywordEach kws X.env)).filterMap (·.1) = ks := by rfl) (hpl : ((backTo pos (starEach [] X.env)).any (·.1) || (backToKw pos (keywordEach kws X.env)).any (·.1.isNone)) = false := by rfl) {pl : Sem Bool}
    (ht : eval (.Call (.Attribute o mn apos) [] kws pos) X.env = (do
      let ov ← eval o X.env
      standAt apos.atName
      let (f, first) ← holding [ov] (getMethod ov mn pl)
      callWith pos f first (backTo pos (starEach [] X.env)) (backToKw pos (keywordEach kws X.env))) := by rfl) : PE X (.Call (.Attribute o mn apos) [] kws pos) (TEx G W (eMc c mn fn [] dv (aPick perm r))) := by
  obtain ⟨fd, F1, F2⟩ := T.ex
  exact c_mcKT hK hc hm F2 (kwTF F1 hb) hr tk ho ha hln hlv hall hks hpl ht
/-! ### making by keywords -/
theorem mk_le (hK : G.K = X.K) {σ : L2.St} {H : Hp} {Q : VK} (h : TEx G W (eMk c fn [] r) σ H Q) : tMkG (He.ga X.K c) (spOf X.K fn) [] (fun σ c d H' => W c d σ H') (TAx G W r) σ H Q := by
  obtain ⟨rho, mu, m, Own, S, h⟩ := h.un
  refine TAx.to S (wp_bnd h) fun xs mu1 vs H1 m1 h1 g1 S1 r1 y dx hy hdx ne => ?_
  have sm1 := same_upd (o := HO.own y) hdx
  have S2 := S1.same sm1
  have hy2 : (upd H1 dx (.own y)) y = none := by rw [upd_ne ne.symm]; exact hy
  obtain ⟨f1, f2⟩ := S2.fresh hy2
  have ns := S2.noslot hy2
  obtain ⟨S3, le3⟩ := S2.bar1 (o := .dK []) hy2
  have S4 := S3.numnew (o := .ins (He.ga G.K c) dx []) (ob := .ins c []) ns (S2.le.dom y hy2) f2 ⟨dx, [], upd_same, .nil⟩
  have e4 : upd (upd (upd H1 dx (.own y)) y (.dK [])) y (.ins (He.ga G.K c) dx []) = upd (upd H1 dx (.own y)) y (.ins (He.ga G.K c) dx []) := funext fun b => by
    by_cases hb : b = y
    · rw [hb, upd_same, upd_same]
    · rw [upd_ne hb, upd_ne hb, upd_ne hb]
  rw [e4] at S4
  have l0 : Lf m1 H1 (m1 ++ [y]) (upd (upd H1 dx (.own y)) y (.ins (He.ga G.K c) dx [])) := by
    refine ⟨⟨[y], rfl, fun a z => by rw [show a = y by simpa using z]; exact hy⟩, fun a u e n n1 n2 => ?_, fun a e => ?_, fun a z => z.elim⟩
    · rw [upd_ne (fun (q : a = y) => by rw [q, hy] at e; cases e), upd_ne (fun (q : a = dx) => by rw [q, hdx] at e; cases e)]
      exact e
    · by_cases h1 : a = y
      · rw [h1, upd_same] at e; cases e
      · rw [upd_ne h1] at e
        by_cases h2 : a = dx
        · rw [h2, upd_same] at e; cases e
        · rw [upd_ne h2] at e; exact e
  have l1 := g1.trans l0
  have ry : RD (m1 ++ [y]) (G.bar Own) (upd (upd H1 dx (.own y)) y (.ins (He.ga G.K c) dx [])) (.ref mu1.length) (.ref y) := .ref (by rw [← paired_len S1.wd.ob, List.getElem?_append_right (Nat.le_refl _), Nat.sub_self]; rfl)
  have rr : RDs (m1 ++ [y]) (G.bar Own) (upd (upd H1 dx (.own y)) y (.ins (He.ga G.K c) dx [])) (.ref mu1.length :: (xs ++ [])) (.ref y :: (vs ++ [])) := .cons ry ((RDs.mono (l0.le _) r1).append .nil)
  have hk : (m1 ++ [y])[mu1.length]? = some y := by rw [← paired_len S1.wd.ob, List.getElem?_append_right (Nat.le_refl _), Nat.sub_self]; rfl
  rw [← hK]
  refine sp_of (Q := fun v H2 => v = .non ∧ Q (.ref y) H2) S4 Lf.refl rr ?_
  have h2 := wp_bnd h1
  cases eo : fn (.ref mu1.length :: (xs ++ [])) (mu1 ++ [.ins c []]) with
  | ok d mu2 =>
    rw [eo] at h2
    cases d with
    | non =>
      intro v H' m' g S' rd
      cases rd
      exact ⟨rfl, h2 (.ref y) H' m' (l1.trans g) S' (.ref (g.num hk))⟩
    | _ => exact h2.elim
  | exc z mu2 => rw [eo] at h2; exact ES.step l1 h2
  | bad => rw [eo] at h2; exact h2
theorem pe_mkGK {tk' : TA} (M : Mk X.K C f) (F : FnG X.prog X.w X.K X.mg X.base k f fd ps sp) (hr : Rm (k + 1) X.A) (hg : Gl X x) (hm : X.mg x = some (.ref C)) (hb : KwT X.K fd ps ks perm) (hx : ∀ σ, PassesAt (CXx X.prog X.w) X σ (E σ)) (ha : PK X kws tk')
    (hl : ∀ σ H F, t σ H F → tk' σ H fun zs H2 => zs.length = ks.length ∧ F (pick perm zs) H2) (hdb : (x == ("__debug__" : Str)) = false)
    (hall : (backToKw pos (keywordEach kws X.env)).all (·.1.isSome) = true) (hks : (backToKw pos (keywordEach kws X.env)).filterMap (·.1) = ks) (hpl : ((backTo pos (starEach [] X.env)).any (·.1) || (backToKw pos (keywordEach kws X.env)).any (·.1.isNone)) = false) :
    PE X (.Call (.Name x p) [] kws pos) (tMkG C sp [] E t) := by
  refine ⟨fun pins s0 σ H0 Q I0 h => wpAny_Call_Name_kw (ld_glob I0 hg hm ?_ hdb)⟩
  refine PySem.W.callWith_KW0 (first := []) (h₀ := X.base) I0.ok.mod.kin M.kp hall (thn (ha.run pos pins s0 σ H0 _ I0 (hl _ _ _ h)) fun ws s ⟨zs, H, I, rz, hz, h⟩ => ⟨I.kIn, ?_⟩) hpl
  rw [hks]
  have hq := h (s.heap.objs.size + 1) s.heap.objs.size (I.hok.fresh (Nat.le_succ _)) (I.hok.fresh (Nat.le_refl _)) (Nat.ne_of_lt (Nat.lt_succ_self _))
  rw [List.append_nil] at hq
  have I2 := Inv.made (C := C) I
  have r2 : Vals (V.ref (s.heap.objs.size + 1) :: pick perm zs) (Value.ref (s.heap.objs.size + 1) :: pick perm ws) := .cons rfl (Vals.pick rz perm)
  have hl2 : ws.length = ks.length := by rw [← rz.length, hz]
  refine wpAny_call (make_map (f := f) I.kIn M.makes M.init (beq_iff_eq.mp M.fn) (codeAny_mono (F.run _ X.stack _ _ ⟨Value.ref (s.heap.objs.size + 1) :: [], ks.zip ws⟩ (Value.ref (s.heap.objs.size + 1) :: pick perm ws) _ _ (E σ) ⟨hr.r.make C [] (ks.zip ws), hr.gd⟩
    (I2.env0.make C [] (ks.zip ws)) (hb _ (Value.ref (s.heap.objs.size + 1)) ws I2.kIn hl2) r2 hq) fun r s' hq' => ?_))
  cases r with
  | error e => exact hx σ pins _ _ e s' I2 hq'
  | ok fl =>
    cases fl with
    | ret u =>
      obtain ⟨v, H', I3, rv, ev, q3⟩ := I2.after hq'
      subst ev
      exact ⟨rv, ⟨V.ref (s.heap.objs.size + 1), H', I3, rfl, q3⟩⟩
    | next => exact hq'.elim
    | brk => exact hq'.elim
    | cont => exact hq'.elim
/-- c(k = v, ..) -/
theorem c_mkK (hK : G.K = X.K) (M : Mk X.K (He.ga X.K c) (He.ma X.K (He.ga X.K c) "__init__")) (T : Dm X.prog X.w X.K X.mg X.base k (.meth c "__init__") "__init__" qual st [] ps fn) (hb : BindQK "__init__" qual st ps ks perm) (hr : Rm lv X.A) (hm : X.mg c = some (.ref (He.ga X.K c))) (tk : Takes X W) (ha : PK X kws (TAx G W r)) (hln : ∀ rho mu xs mu', r rho mu = .ok xs mu' → xs.length = ks.length) (hlv : k + 1 ≤ lv := by decide)
    (hg : Gl X c := by rfl) (hdb : (c == ("__debug__" : Str)) = false := by decide) (hall : (backToKw pos (keywordEach kws X.env)).all (·.1.isSome) = true := by rfl) (hks : (backToKw pos (keywordEach kws X.env)).filterMap (·.1) = ks := by rfl) (hpl : ((backTo pos (starEach [] X.env)).any (·.1) || (backToKw pos (keywordEach kws X.env)).any (·.1.isNone)) = false := by rfl) :
    PE X (.Call (.Name c p) [] kws pos) (TEx G W (eMk c fn [] (aPick perm r))) := by
  obtain ⟨fd, F1, F2⟩ := T.ex
  exact PEw (pe_mkGK (t := TAx G W (aPick perm r)) (E := fun σ c d H' => W c d σ H') M F2 (hr.mono hlv) hg hm (kwT F1 hb) (fun σ => passAt tk σ) ha (fun _ _ _ h => pick_ta hln h) hdb hall hks hpl) fun σ H Q h => mk_le hK h
/-! ### len -/
theorem call_lenI (hm : Meth X.K C "__len__" f) (F : FnG X.prog X.w X.K X.mg X.base k f fd ps sp) (hr : Rm (k + 1) X.A) (hb : Binds X.K fd ps []) : CallR X (.builtin "len") (fun xs H Q => ∃ a dx fs, xs = [.ref a] ∧ H a = some (.ins C dx fs) ∧ sp [.ref a] H (fun v H' => ∃ n : Int, v = .int n ∧ (0 ≤ n ∧ n < 2 ^ 63) ∧ Q (.int n) H') fun _ _ _ => False) := by
  intro pins s σ H xs us Q I rv ⟨a, dx, fs, ex, ea, q⟩
  subst ex
  obtain ⟨u, rfl, ru⟩ := vals1 rv
  obtain rfl : u = Value.ref a := ru
  obtain ⟨mA, O, _, _, _, _⟩ := ins_get I.hok ea
  obtain ⟨od, J, _⟩ := O.look
  have hl : [Value.ref a].length = ps.length := F.len _ _ _ _ q
  refine Calls.call_function_entry kind_len plain_len entry_len (args_len1 _) ?_
  unfold Builtin.«len»
  refine wpAny_bind (m := oneArg "len" _) (wpAny_pure ?_)
  refine wpAny_bind (m := callSpecial? (.ref a) (Str.ofString "__len__")) (PySem.W.special_fn I.kIn J hm.at_ (beq_iff_eq.mp hm.fn) (wpAny_call (codeAny_mono (F.run X.A.in1 X.stack s H ⟨[.ref a], []⟩ [.ref a] [.ref a] _ (fun _ _ _ => False) (hr.in1) I.env0.in1 (by
      have b := hb s [.ref a] I.kIn hl
      rw [List.append_nil] at b
      exact b) (.cons rfl .nil) q) fun rr s' hq => ?_)))
  cases rr with
  | error er =>
    obtain ⟨_, _, _, _, _, _, _, _, _, _, _, _, z⟩ := hq
    exact z.elim
  | ok fl =>
    cases fl with
    | ret u =>
      obtain ⟨v, H', I3, rv, n, ev, ⟨n0, n1⟩, q3⟩ := I.after hq
      subst ev
      obtain ⟨t, rfl⟩ := rv
      refine wpAny_bind (wpAny_holding (wpAny_pure ?_))
      refine wpAny_bind (wpAny_letGo ?_)
      show wpAny _ _ (if n < 0 then _ else _) _ _ _
      rw [if_neg (by omega)]
      show wpAny _ _ (if n ≥ 2 ^ 63 then _ else _) _ _ _
      rw [if_neg (by omega)]
      exact wpAny_bind (wpAny_mkInt (wpAny_pure ⟨_, rfl, .int n, H', I3.tok _, ⟨_, rfl⟩, q3⟩))
    | next => exact hq.elim
    | brk => exact hq.elim
    | cont => exact hq.elim
/-- len(o) -/
theorem c_lenI {a : Expr} {da : EvD} (hK : G.K = X.K) (hf : X.mg "len" = none) (hm : Meth X.K (He.ga X.K c) "__len__" (He.ma X.K (He.ga X.K c) "__len__")) (T : Dm X.prog X.w X.K X.mg X.base k (.meth c "__len__") "__len__" qual st [] ps fn) (hb : BindQ "__len__" qual st ps) (hr : Rm lv X.A) (ha : PE X a (TEx G W da)) (hlv : k + 1 ≤ lv := by decide)
    (hg : Gl X "len" := by rfl) (hs : starEach [a] X.env = (false, eval a X.env) :: starEach [] X.env := by rfl) : PE X (.Call (.Name "len" p) [a] [] pos) (TEx G W (eLenI c fn da)) := by
  obtain ⟨fd, F1, F2⟩ := T.ex
  refine PEw (pe_callB (call_lenI hm F2 (hr.mono hlv) (F1.bindsN hb)) hg hf PySem.boot_len (pa_cons ha pa_nil hs) (by decide) (by decide) hs) fun σ H Q h => ?_
  obtain ⟨rho, mu, m, Own, S, h⟩ := h.un
  have h := wp_bnd h
  refine TEx.to S (wp_bnd h) fun x mu1 v H1 m1 h1 g1 S1 r1 => ?_
  cases ei : insAt c mu1 x with
  | none => rw [ei] at h1; exact h1.elim
  | some q =>
    obtain ⟨n, fs⟩ := q
    rw [ei] at h1
    dsimp only at h1
    obtain ⟨ad, dx, us, rfl, rfl, hn1, e, p⟩ := S1.ins ei r1
    rw [hK] at e
    refine ⟨ad, dx, us, rfl, e, ?_⟩
    rw [← hK]
    refine sp_of (W := WF) S1 g1 (.cons r1 .nil) ?_
    have h2 := wp_noX (E' := ES G WF rho σ Own m H) h1
    cases eo : fn [.ref n] mu1 with
    | ok d mu2 =>
      rw [eo] at h2
      intro v H' m' g S' rd
      have h2 := h2
      cases d with
      | int z =>
        by_cases hz : 0 ≤ z ∧ z < 2 ^ 63
        · have h3 : (if 0 ≤ z ∧ z < 2 ^ 63 then Out.ok (Da.int z) mu2 else .bad).wp _ _ := h2
          rw [if_pos hz] at h3
          cases rd
          exact ⟨z, rfl, hz, h3 _ H' m' g S' (.int z)⟩
        · have h3 : (if 0 ≤ z ∧ z < 2 ^ 63 then Out.ok (Da.int z) mu2 else .bad).wp _ _ := h2
          rw [if_neg hz] at h3
          exact h3.elim
      | _ => exact h2.elim
    | exc y mu2 => rw [eo] at h2; exact h2
    | bad => rw [eo] at h2; exact h2
end
end Sk

/-! Sk Zv: == and != by a class's own __eq__. -/
namespace Sk
open PySem PySem.Spec PyProof.Rows L2
/-- what is read of the class beside the method -/
def eqB (K : PySem.W.Frag) (c : Str) : Bool := decide (PySem.W.subIn K (.ref (He.ga K c)) (.type "int") = some false) && (decide (PySem.W.subIn K (.ref (He.ga K c)) (.type "tuple") = some false) &&
  (decide (PySem.W.subIn K (.ref (He.ga K c)) (.type "object") = some true) && He.eqO (PySem.W.findIn K (.ref (He.ga K c)) "__ne__") (some (some (.builtin "object.__ne__")))))
section
variable {prog : Program} {w : World} {A : Around} {E : Value → Shared → Prop} {s : Shared} {K : PySem.W.Frag} {x C f a b : Addr} {ox : Obj} {od : Option Obj} {Q : Value → Shared → Prop}
/-- the instance's own special, a built-in one -/
theorem ifB {M : Model} {name : Str} {id : String} {args : List Value} {R : Option Value → Shared → Prop} (X : K.In s.heap) (I : PySem.W.InstAt s.heap x ox C od) (hs : PySem.W.findIn K (.ref C) name = some (some (.builtin id))) (S : Slot "object" name id)
    (h : wpAny M A (call (.builtin id) (.ref x :: args)) (fun v => R (some v)) E s) : wpAny M A (callSpecialIfBound? (.ref x) name args) R E s := by
  simp only [callSpecialIfBound?, bindSpecialIfBound?]
  refine wpAny_holding (wpAny_bind (wpAny_bind (wpAny_bind (I.type.here ((PySem.W.looks_findIn X hs).here ?_)))))
  simp only [S.bind]
  refine wpAny_bind (wpAny_askSetting (wpAny_ite ?_))
  have fin : wpAny M A (call (.builtin id) ([.ref x] ++ args) >>= fun v => pure (some v)) R E s := wpAny_bind (wpAny_mono h (fun v s' q => wpAny_pure q) fun _ _ q => q)
  split
  · exact wpAny_bind (wpAny_pure (wpAny_pure fin))
  · exact wpAny_tryCatch (wpAny_bind (wpAny_pure (wpAny_pure fin)))
theorem tryc_own {name : Str} {v : Value} (X : K.In s.heap) (I : PySem.W.InstAt s.heap x ox C od) (hs : PySem.W.findIn K (.ref C) name = some (some (.ref f))) (hf : PySem.W.isFn K (.ref f) = true)
    (h : wpAny (model prog w) A (call (.ref f) [.ref x, v]) (fun r s' => ∃ k, r = .bool k ∧ Q (.bool k) s') E s) : wpAny (model prog w) A (tryCompare (.ref x) name v) (fun r s' => ∃ k, r = some (.bool k) ∧ Q (.bool k) s') E s := by
  unfold tryCompare
  refine wpAny_bind (PySem.W.ifBound_K X I hs hf (wpAny_mono h (fun r s' q => ?_) fun _ _ q => q))
  obtain ⟨k, rfl, q⟩ := q
  exact wpAny_pure ⟨k, rfl, q⟩
theorem neq_own (hu : A.units + 1 < cLine) (X : K.In s.heap) (I : PySem.W.InstAt s.heap x ox C od) (J : PySem.W.Looks (model prog w) s.heap (typeOf (.ref b)) (.ref C)) (hn : PySem.W.findIn K (.ref C) "__ne__" = some (some (.builtin "object.__ne__"))) (ho : PySem.W.subIn K (.ref C) (.type "object") = some true)
    (hs : PySem.W.findIn K (.ref C) "__eq__" = some (some (.ref f))) (hf : PySem.W.isFn K (.ref f) = true)
    (h : wpAny (model prog w) A.in1 (call (.ref f) [.ref x, .ref b]) (fun r s' => ∃ k, r = .bool k ∧ Q (.bool (!k)) s') E s) : wpAny (model prog w) A (richCompare .NotEq (.ref x) (.ref b)) Q E s := by
  have body : wpAny (model prog w) A.in1 (Builtin.«object.__ne__» ⟨[.ref x, .ref b], []⟩) (fun fin s' => ∃ k, fin = .done (.ret (.bool k)) ∧ Q (.bool k) s') E s := by
    unfold Builtin.«object.__ne__»
    refine wpAny_bind (m := slotArgs _ _ _) (wpAny_pure ?_)
    refine wpAny_bind (wpAny_cRoomFor (show A.in1.units < cLine from hu) ?_)
    refine wpAny_bind (m := callSpecialIfBound? (.ref x) (Str.ofString "__eq__") [.ref b]) (PySem.W.ifBound_K X I hs hf (wpAny_mono h (fun r s' q => ?_) fun _ _ q => q))
    obtain ⟨k, rfl, q⟩ := q
    exact wpAny_bind (wpAny_truthy_bool (wpAny_pure ⟨!k, rfl, q⟩))
  have hi2 : PySem.W.Looks (model prog w) s.heap (isInstance (.ref x) (.type "object")) true := I.type.andThen (PySem.W.looks_subIn X ho)
  have one : wpAny (model prog w) A (tryCompare (.ref x) "__ne__" (.ref b)) (fun r s' => ∃ k, r = some (.bool k) ∧ Q (.bool k) s') E s := by
    unfold tryCompare
    refine wpAny_bind (ifB X I hn PySem.F.cmp_object.ne (wpAny_call (codeAny_call_builtin PySem.F.cmp_object.ne.plain PySem.F.cmpEntry_ne (PySem.W.check_slot PySem.F.cmpKind_ne PySem.F.cmpSplit_ne hi2 (PySem.F.cmpArgs_ne _ _) (wpAny_mono body (fun fin s' q => ?_) fun _ _ q => q)))))
    obtain ⟨k, rfl, q⟩ := q
    exact wpAny_pure ⟨k, rfl, q⟩
  unfold richCompare
  simp only [oneThing_ref]
  refine wpAny_holding (wpAny_bind (wpAny_cRoomFor (Nat.lt_of_succ_lt hu) ?_))
  rw [cmpInfo_NotEq]
  dsimp only
  refine wpAny_bind (I.type.here (wpAny_bind (J.here ?_)))
  rw [show (Value.ref C != Value.ref C) = false from by simp]
  simp only [Bool.false_eq_true, if_false]
  refine wpAny_bind (wpAny_pure ?_)
  simp only [Bool.false_eq_true, if_false]
  refine wpAny_bind (wpAny_mono one (fun r s' q => ?_) fun _ _ q => q)
  obtain ⟨k, rfl, q⟩ := q
  exact wpAny_pure q
/-- v == x, v of a built-in kind that declines -/
theorem eqr_own {T id : String} {v : Value} (hu : A.units < cLine) (hT : s.TypeIs v T) (X : K.In s.heap) (I : PySem.W.InstAt s.heap x ox C od) (hi : PySem.W.subIn K (.ref C) (.type T) = some false) (S : Slot T (cmpInfo .Eq).2.1 id)
    (hd : ∀ R : Value → Shared → Prop, R .notImplemented s → wpAny (model prog w) A (call (.builtin id) [v, .ref x]) R E s)
    (hs : PySem.W.findIn K (.ref C) "__eq__" = some (some (.ref f))) (hf : PySem.W.isFn K (.ref f) = true)
    (h : wpAny (model prog w) A (call (.ref f) [.ref x, v]) (fun r s' => ∃ k, r = .bool k ∧ Q (.bool k) s') E s) : wpAny (model prog w) A (richCompare .Eq v (.ref x)) Q E s := by
  rcases hc : cmpInfo CmpOp.Eq with ⟨sym, f1, r1⟩
  have e1 : r1 = "__eq__" := by
    have : (cmpInfo CmpOp.Eq).2.2 = r1 := by rw [hc]
    rw [← this]
    rfl
  rw [hc] at S
  unfold richCompare
  simp only [hc, hT.oneThing_none]
  refine wpAny_holding (wpAny_bind (wpAny_cRoomFor hu ?_))
  refine wpAny_bind (wpAny_typeOf hT (wpAny_bind (I.type.here ?_)))
  rw [show (Value.type T != Value.ref C) = true from by simp]
  simp only [if_true]
  refine wpAny_bind ((PySem.W.looks_subIn X hi).here ?_)
  simp only [Bool.false_eq_true, if_false, Bool.not_false, if_true]
  refine wpAny_bind (m := tryCompare v _ (.ref x)) (wpAny_tryCompare_declines hT S (hd _ ⟨rfl, ?_⟩))
  subst e1
  refine wpAny_bind (m := tryCompare (.ref x) _ v) (wpAny_mono (tryc_own (Q := Q) X I hs hf h) (fun r s' q => ?_) fun _ _ q => q)
  obtain ⟨k, rfl, q⟩ := q
  exact wpAny_pure q
theorem int_decl {n : Int} {t : Tok} {R : Value → Shared → Prop} (I : s.heap.get? x = some (PySem.W.instObj C a)) (h : R .notImplemented s) : wpAny (model prog w) A (call (.builtin "int.__eq__") [.int n t, .ref x]) R E s := by
  refine wpAny_call (codeAny_call_builtin PySem.F.slot_int_eq.plain PySem.F.entry_int_eq (PySem.F.slot_int_eq.check _ _ _ _ _ _ _ _ (typeIs_int _ _ _) (PySem.F.args_int_eq_2 _ _) ?_))
  obtain ⟨hp, g, d, tk, os⟩ := s
  wp_walk using AutoSeq1.wpAny_loadPart' I, wpAny_load I
  exact h
theorem tup_decl {R : Value → Shared → Prop} (hl : s.TypeIs (.ref b) "tuple") (X : K.In s.heap) (I : PySem.W.InstAt s.heap x ox C od) (hi : PySem.W.subIn K (.ref C) (.type "tuple") = some false) (h : R .notImplemented s) : wpAny (model prog w) A (call (.builtin "tuple.__eq__") [.ref b, .ref x]) R E s := by
  refine wpAny_call (codeAny_call_builtin PySem.F.slot_tuple_eq.plain PySem.F.entry_tuple_eq (PySem.F.slot_tuple_eq.check _ _ _ _ _ _ _ _ hl (PySem.F.args_tuple_eq_2 _ _) ?_))
  have hi2 : PySem.W.Looks (model prog w) s.heap (isInstance (.ref x) (.type "tuple")) false := I.type.andThen (PySem.W.looks_subIn X hi)
  show wpAny _ _ (slotArgs "__eq__" 1 ⟨[.ref b, .ref x], []⟩ >>= _) _ _ _
  refine wpAny_bind (m := slotArgs _ _ _) (wpAny_pure ?_)
  refine wpAny_bind (hi2.here ?_)
  exact wpAny_pure h
end
/-! ### by the calculus -/
/-- what the own == tells of the two -/
def rEqI (C : Addr) (sp : Sp) : R2 := fun x y H Q => (∃ a b da db fa fb, x = .ref a ∧ y = .ref b ∧ H a = some (.ins C da fa) ∧ H b = some (.ins C db fb) ∧ sp [.ref a, .ref b] H (fun v H' => ∃ k, v = .bl k ∧ Q (.bl k) H') fun _ _ _ => False) ∨
  ∃ b db fb, ((∃ n, x = .int n) ∨ ∃ a xs, x = .ref a ∧ H a = some (.tup xs)) ∧ y = .ref b ∧ H b = some (.ins C db fb) ∧ sp [.ref b, x] H (fun v H' => ∃ k, v = .bl k ∧ Q (.bl k) H') fun _ _ _ => False
def rNeI (C : Addr) (sp : Sp) : R2 := fun x y H Q => ∃ a b da db fa fb, x = .ref a ∧ y = .ref b ∧ H a = some (.ins C da fa) ∧ H b = some (.ins C db fb) ∧ sp [.ref a, .ref b] H (fun v H' => ∃ k, v = .bl k ∧ Q (.bl (!k)) H') fun _ _ _ => False
section
variable {X : Cx} {C f : Addr} {k : Nat} {fd : FuncData} {ps : List Str} {sp : Sp}
theorem own_run {A : Around} {pins : List (Addr × Obj)} {σ : L2.St} {H : Hp} {s : Shared} {vs : List V} {us : List Value} {R : Bool → Hp → Prop} (F : FnG X.prog X.w X.K X.mg X.base k f fd ps sp) (hb : Binds X.K fd ps []) (hr : Rm k A) (I : Inv X pins σ H s) (e0 : Env0 X.prog X.w X.K X.mg X.base A X.stack s H)
    (rv : Vals vs us) (q : sp vs H (fun v H' => ∃ k, v = .bl k ∧ R k H') fun _ _ _ => False) : wpAny (model X.prog X.w) A (call (.ref f) us) (fun r s' => ∃ k, r = .bool k ∧ ∃ H', Inv X pins σ H' s' ∧ R k H') X.xe s := by
  have hl : us.length = ps.length := rv.length.symm.trans (F.len _ _ _ _ q)
  refine wpAny_call (codeAny_mono (F.run A X.stack s H ⟨us, []⟩ us vs _ (fun _ _ _ => False) hr e0 (by
      have b := hb s us I.kIn (by rw [List.append_nil]; exact hl)
      rw [List.append_nil] at b
      exact b) rv q) fun rr s' hq => ?_)
  cases rr with
  | error er =>
    obtain ⟨_, _, _, _, _, _, _, _, _, _, _, _, z⟩ := hq
    exact z.elim
  | ok fl =>
    cases fl with
    | ret u =>
      obtain ⟨v, H', I3, rv, j, ev, q3⟩ := I.after hq
      subst ev
      cases rv
      exact ⟨j, rfl, H', I3, q3⟩
    | next => exact hq.elim
    | brk => exact hq.elim
    | cont => exact hq.elim
theorem op_eqI {c : Str} (hC : C = He.ga X.K c) (e : eqB X.K c = true) (hm : Meth X.K C "__eq__" f) (F : FnG X.prog X.w X.K X.mg X.base k f fd ps sp) (hb : Binds X.K fd ps []) (hr : Rm (k + 1) X.A) : OpR X (compareOp .Eq) (rEqI C sp) := by
  subst hC
  obtain ⟨e1, e⟩ := ba3 e
  obtain ⟨e2, _⟩ := ba3 e
  have e1 := of_decide_eq_true e1
  have e2 := of_decide_eq_true e2
  have hu : X.A.units < cLine := by have := hr.r.units; omega
  have hrk : Rm k X.A := hr.mono (Nat.le_succ k)
  intro pins s σ H x y v u Q I rx ry h
  show wpAny (model X.prog X.w) X.A (richCompare .Eq v u) (EP X pins σ Q) X.xe s
  rcases h with ⟨a, b, da, db, fa, fb, rfl, rfl, ea, eb, q⟩ | ⟨b, db, fb, hx, rfl, eb, q⟩
  · cases rx
    cases ry
    obtain ⟨mA, O, _⟩ := ins_get I.hok ea
    obtain ⟨mB, O', _⟩ := ins_get I.hok eb
    obtain ⟨od, J, _⟩ := O.look
    obtain ⟨od', J', _⟩ := O'.look
    obtain ⟨m, hF⟩ := I.fr
    refine PySem.W.cmp_K (op := .Eq) (tb := .ref (He.ga X.K c)) hu hF I.ok.mod.kin J J'.type (by simp [PySem.W.notFirst]) hm.at_ hm.fn (wpAny_mono (own_run (vs := [.ref a, .ref b]) F hb hrk I I.env0 (.cons rfl (.cons rfl .nil)) q) (fun r s' hq => ?_) fun _ _ z => z)
    obtain ⟨j, rfl, H', I', q'⟩ := hq
    exact ⟨.bl j, H', I', rfl, q'⟩
  · cases ry
    obtain ⟨mB, O', _⟩ := ins_get I.hok eb
    obtain ⟨od', J', _⟩ := O'.look
    have run : ∀ w, RelV x w → wpAny (model X.prog X.w) X.A (call (.ref f) [.ref b, w]) (fun r s' => ∃ k, r = .bool k ∧ EP X pins σ Q (.bool k) s') X.xe s := fun w rw_ => wpAny_mono (own_run (vs := [.ref b, x]) F hb hrk I I.env0 (.cons rfl (.cons rw_ .nil)) q) (fun r s' ⟨j, e, H', I', q'⟩ => ⟨j, e, .bl j, H', I', rfl, q'⟩) fun _ _ z => z
    rcases hx with ⟨n, rfl⟩ | ⟨a, xs, rfl, ha⟩
    · obtain ⟨t, rfl⟩ := rx
      obtain ⟨_, _, _, hi, _⟩ := I.hok b _ eb
      exact eqr_own hu (typeIs_int _ _ _) I.kIn J' e1 PySem.F.slot_int_eq (fun R hR => int_decl hi hR) hm.at_ hm.fn (run _ ⟨t, rfl⟩)
    · cases rx
      obtain ⟨its, r, ⟨o, ho, hc, _⟩, z⟩ := I.tuple (SqT.of ha)
      exact eqr_own hu ⟨o, ho, hc⟩ I.kIn J' e2 PySem.F.slot_tuple_eq (fun R hR => tup_decl ⟨o, ho, hc⟩ I.kIn J' e2 hR) hm.at_ hm.fn (run _ rfl)
theorem op_neI {c : Str} (hC : C = He.ga X.K c) (e : eqB X.K c = true) (hm : Meth X.K C "__eq__" f) (F : FnG X.prog X.w X.K X.mg X.base k f fd ps sp) (hb : Binds X.K fd ps []) (hr : Rm (k + 1) X.A) : OpR X (compareOp .NotEq) (rNeI C sp) := by
  subst hC
  obtain ⟨_, e⟩ := ba3 e
  obtain ⟨_, e⟩ := ba3 e
  obtain ⟨e3, e4⟩ := ba3 e
  have e3 := of_decide_eq_true e3
  have e4 := He.eqO_ok e4
  have hu : X.A.units + 1 < cLine := by have := hr.r.units; omega
  intro pins s σ H x y v u Q I rx ry ⟨a, b, da, db, fa, fb, ex, ey, ea, eb, q⟩
  subst ex ey
  cases rx
  cases ry
  show wpAny (model X.prog X.w) X.A (richCompare .NotEq (.ref a) (.ref b)) (EP X pins σ Q) X.xe s
  obtain ⟨mA, O, _⟩ := ins_get I.hok ea
  obtain ⟨mB, O', _⟩ := ins_get I.hok eb
  obtain ⟨od, J, _⟩ := O.look
  obtain ⟨od', J', _⟩ := O'.look
  exact neq_own hu I.kIn J J'.type e4 e3 hm.at_ hm.fn (wpAny_mono (own_run (vs := [.ref a, .ref b]) F hb hr.in1 I I.env0.in1 (.cons rfl (.cons rfl .nil)) q) (fun r s' ⟨j, e, H', I', q'⟩ => ⟨j, e, .bl (!j), H', I', rfl, q'⟩) fun _ _ z => z)
end
/-- an operation on data that looks into the memory -/
def OpM (X : Cx) (G : Fr) (sem : Value → Value → Sem Value) (f : Da → Da → Mem → Out Da) : Prop :=
  ∃ r : R2, OpR X sem r ∧ ∀ (rho : Ev) (mu : Mem) (σ : L2.St) (H H0 : Hp) (m m0 : List Addr) (Own : Addr → Prop) (x y : Da) (v u : V) (Q : VK), StR G rho mu σ H m Own → Lf m0 H0 m H → RD m (G.bar Own) H x v → RD m (G.bar Own) H y u →
    (f x y mu).wp (QE G rho σ Own m0 H0 Q) (fun _ _ => False) → r v u H Q
/-- both, then the operation, which does not fail -/
def eM (f : Da → Da → Mem → Out Da) (da db : EvD) : EvD := fun rho mu => bnd (da rho mu) fun x mu1 => bnd (db rho mu1) fun y mu2 => noX (f x y mu2)
def boolO (neg : Bool) (o : Out Da) : Out Da := bnd (noX o) fun d mu => match d with
  | .bl k => .ok (.bl (k != neg)) mu
  | _ => .bad
def declD : Da → Bool
  | .int _ => true
  | .tup _ => true
  | _ => false
/-- x == y by the __eq__ of c -/
def eqF (c : Str) (fn : Fn) : Da → Da → Mem → Out Da := fun x y mu => if (insAt c mu y).isSome then (if (insAt c mu x).isSome then boolO false (fn [x, y] mu) else if declD x then boolO false (fn [y, x] mu) else .bad) else .bad
/-- x != y -/
def neF (c : Str) (fn : Fn) : Da → Da → Mem → Out Da := fun x y mu => if (insAt c mu y).isSome && (insAt c mu x).isSome then boolO true (fn [x, y] mu) else .bad
section
variable {X : Cx} {G : Fr} {W : WX} {k lv : Nat} {c qual : Str} {st : Stmt} {ps : List Str} {fn : Fn} {pos : Pos} {a b : Expr} {da db : EvD}
theorem boolO_sp {neg : Bool} {rho : Ev} {mu : Mem} {σ : L2.St} {H H0 : Hp} {m m0 : List Addr} {Own : Addr → Prop} {xs : List Da} {vs : List V} {Q : VK} (S : StR G rho mu σ H m Own) (g : Lf m0 H0 m H) (r : RDs m (G.bar Own) H xs vs) (h : (boolO neg (fn xs mu)).wp (QE G rho σ Own m0 H0 Q) (fun _ _ => False)) :
    spOf G.K fn vs H (fun v H' => ∃ k, v = .bl k ∧ Q (.bl (k != neg)) H') fun _ _ _ => False := by
  refine sp_of (W := WF) S g r ?_
  have h := wp_noX (E' := ES G WF rho σ Own m0 H0) (wp_bnd h)
  cases eo : fn xs mu with
  | ok d mu2 =>
    rw [eo] at h
    intro v H' m' g S' rd
    cases d with
    | bl j =>
      cases rd
      have h : (Out.ok (Da.bl (j != neg)) mu2).wp (QE G rho σ Own m0 H0 Q) (fun _ _ => False) := h
      exact ⟨j, rfl, h _ H' m' g S' (.bl _)⟩
    | _ => exact h.elim
  | exc y mu2 => rw [eo] at h; exact h
  | bad => rw [eo] at h; exact h
theorem o_eqI (hK : G.K = X.K) (e : eqB X.K c = true) (hm : Meth X.K (He.ga X.K c) "__eq__" (He.ma X.K (He.ga X.K c) "__eq__")) (T : Dm X.prog X.w X.K X.mg X.base k (.meth c "__eq__") "__eq__" qual st [] ps fn) (hb : BindQ "__eq__" qual st ps) (hr : Rm lv X.A) (hlv : k + 1 ≤ lv := by decide) : OpM X G (compareOp .Eq) (eqF c fn) := by
  obtain ⟨fd, F1, F2⟩ := T.ex
  refine ⟨_, op_eqI rfl e hm F2 (F1.bindsN hb) (hr.mono hlv), fun rho mu σ H H0 m m0 Own x y v u Q S g rx ry h => ?_⟩
  unfold eqF at h
  cases ey : insAt c mu y with
  | none => rw [ey] at h; exact h.elim
  | some q =>
    obtain ⟨n, fs⟩ := q
    rw [ey] at h
    obtain ⟨b, dx, us, rfl, rfl, hn1, eb, p⟩ := S.ins ey ry
    rw [hK] at eb
    cases ex : insAt c mu x with
    | some q =>
      obtain ⟨n', fs'⟩ := q
      rw [ex] at h
      obtain ⟨a, dx', us', rfl, rfl, hn1', ea, p'⟩ := S.ins ex rx
      rw [hK] at ea
      refine .inl ⟨a, b, dx', dx, us', us, rfl, rfl, ea, eb, ?_⟩
      have z := boolO_sp (neg := false) S g (.cons rx (.cons ry .nil)) h
      rw [hK] at z
      simpa using z
    | none =>
      rw [ex] at h
      have h : (if declD x then boolO false (fn [.ref n, x] mu) else .bad).wp (QE G rho σ Own m0 H0 Q) (fun _ _ => False) := h
      cases hd : declD x with
      | false => rw [hd] at h; exact h.elim
      | true =>
        rw [hd] at h
        have h : (boolO false (fn [.ref n, x] mu)).wp (QE G rho σ Own m0 H0 Q) (fun _ _ => False) := h
        have z := boolO_sp (neg := false) S g (.cons ry (.cons rx .nil)) h
        rw [hK] at z
        refine .inr ⟨b, dx, us, ?_, rfl, eb, by simpa using z⟩
        cases x with
        | int i => cases rx; exact .inl ⟨i, rfl⟩
        | tup xs =>
          cases rx with
          | tup h1 h2 h3 h4 => exact .inr ⟨_, _, rfl, h3⟩
        | _ => cases hd
theorem o_neI (hK : G.K = X.K) (e : eqB X.K c = true) (hm : Meth X.K (He.ga X.K c) "__eq__" (He.ma X.K (He.ga X.K c) "__eq__")) (T : Dm X.prog X.w X.K X.mg X.base k (.meth c "__eq__") "__eq__" qual st [] ps fn) (hb : BindQ "__eq__" qual st ps) (hr : Rm lv X.A) (hlv : k + 1 ≤ lv := by decide) : OpM X G (compareOp .NotEq) (neF c fn) := by
  obtain ⟨fd, F1, F2⟩ := T.ex
  refine ⟨_, op_neI rfl e hm F2 (F1.bindsN hb) (hr.mono hlv), fun rho mu σ H H0 m m0 Own x y v u Q S g rx ry h => ?_⟩
  unfold neF at h
  cases ey : insAt c mu y with
  | none => rw [ey] at h; exact h.elim
  | some q =>
    obtain ⟨n, fs⟩ := q
    rw [ey] at h
    obtain ⟨b, dx, us, rfl, rfl, hn1, eb, p⟩ := S.ins ey ry
    rw [hK] at eb
    cases ex : insAt c mu x with
    | none => rw [ex] at h; exact h.elim
    | some q =>
      obtain ⟨n', fs'⟩ := q
      rw [ex] at h
      obtain ⟨a, dx', us', rfl, rfl, hn1', ea, p'⟩ := S.ins ex rx
      rw [hK] at ea
      refine ⟨a, b, dx', dx, us', us, rfl, rfl, ea, eb, ?_⟩
      have z := boolO_sp (neg := true) S g (.cons rx (.cons ry .nil)) h
      rw [hK] at z
      simpa using z
theorem twoM {f : Da → Da → Mem → Out Da} {rho : Ev} {mu : Mem} {σ : L2.St} {H : Hp} {m : List Addr} {Own : Addr → Prop} {Q : VK} {r : R2} (S : StR G rho mu σ H m Own) (h : (eM f da db rho mu).wp (QE G rho σ Own m H Q) (ES G W rho σ Own m H))
    (k : ∀ (rho : Ev) (mu : Mem) (σ : L2.St) (H H0 : Hp) (m m0 : List Addr) (Own : Addr → Prop) (x y : Da) (v u : V) (Q : VK), StR G rho mu σ H m Own → Lf m0 H0 m H → RD m (G.bar Own) H x v → RD m (G.bar Own) H y u → (f x y mu).wp (QE G rho σ Own m0 H0 Q) (fun _ _ => False) → r v u H Q) :
    TEx G W da σ H fun x H1 => TEx G W db σ H1 fun y H2 => r x y H2 Q := by
  refine TEx.to S (wp_bnd h) fun x mu1 v1 H1 m1 h1 g1 S1 r1 => TEx.to S1 (wp_step g1 (wp_bnd h1)) fun y mu2 v2 H2 m2 h2 g2 S2 r2 => ?_
  exact k rho mu2 σ H2 H m2 m Own x y v1 v2 Q S2 (g1.trans g2) (r1.mono (g2.le _)) r2 (by
    cases eo : f x y mu2 with
    | ok z mu3 => rw [eo] at h2; exact fun v H' m' g S' rd => h2 v H' m' (by first | exact g | exact g) S' rd
    | exc z mu3 => rw [eo] at h2; exact h2.elim
    | bad => rw [eo] at h2; exact h2.elim)
theorem c_cmpM {f : Da → Da → Mem → Out Da} {op : CmpOp} (ho : OpM X G (compareOp op) f) (ha : PE X a (TEx G W da)) (hb : PE X b (TEx G W db)) (hm : behindInMarks op b = false) : PE X (.Compare a [op] [b] pos) (TEx G W (eM f da db)) := by
  obtain ⟨r, hr, k⟩ := ho
  refine PEw (pe_cmpR hr ha hb hm) fun σ H Q h => ?_
  obtain ⟨rho, mu, m, Own, S, h⟩ := h.un
  exact twoM S h k
theorem c_tcmpM {f : Da → Da → Mem → Out Da} {op : CmpOp} (ho : OpM X G (compareOp op) f) (ha : PE X a (TEx G W da)) (hb : PE X b (TEx G W db)) (hm : behindInMarks op b = false) : PT X (.Compare a [op] [b] pos) (TTx G W (tV (eM f da db))) := by
  obtain ⟨r, hr, k⟩ := ho
  refine PTw (pt_cmpR hr ha hb hm) fun σ H Q h => ?_
  obtain ⟨rho, mu, m, Own, S, h⟩ := h.un
  refine twoM (W := W) (Q := fun x H' => ∃ k, x = .bl k ∧ Q k H') S (wp_and (wp_bnd h) fun x mu1 h1 => ?_) k
  intro v H' m' g S' r1
  cases x with
  | bl j =>
    cases r1
    exact ⟨j, rfl, h1 H' m' g S'⟩
  | _ => exact h1.elim
end
section
variable {f : Da → Da → Mem → Out Da} {rho : Ev} {mu : Mem} {P : Da → Mem → Prop} {da db : EvD} {c : Str} {fn : Fn}
@[simp] theorem yes_eM : Yes (eM f da db rho mu) P ↔ Yes (da rho mu) fun x m1 => Yes (db rho m1) fun y m2 => Yes (f x y m2) P := by
  unfold eM; rw [yes_bnd]; simp only [yes_bnd, yes_noX]
end
/-! ### isinstance(x, c), c a class of one's own -/
def insB (K : PySem.W.Frag) (c : Str) : Bool := He.eqO (PySem.W.findIn K (.ref (He.ga K c)) "__class__") (some (some (.builtin "object.__class__"))) && (He.eqO (PySem.W.specialIn K (.builtin "object.__class__") "__get__") (some (some (.builtin "getset_descriptor.__get__"))) &&
  (decide (PySem.W.takesIn K (.builtin "object.__class__") = some true) && (decide (PySem.W.mroIn K (He.ga K c) (.type "object") = some true) && (decide (PySem.W.kitOne K (.type "int") (.ref (He.ga K c)) = some false) && decide (PySem.W.kitOne K (.type "tuple") (.ref (He.ga K c)) = some false)))))
/-- x is an instance of c: of instances of c, ints, tuples -/
def eIns (c : Str) (a : EvD) : EvD := fun rho mu => bnd (a rho mu) fun x mu1 => if (insAt c mu1 x).isSome then .ok (.bl true) mu1 else if declD x then .ok (.bl false) mu1 else .bad
theorem c_isc {X : Cx} {G : Fr} {W : WX} {c : Str} {a : Expr} {da : EvD} {p p2 pos : Pos} (hK : G.K = X.K) (hf : X.mg "isinstance" = none) (hD : X.mg c = some (.ref (He.ga X.K c))) (hc : Cls X.K (He.ga X.K c)) (hb : insB X.K c = true) (ha : PE X a (TEx G W da))
    (hg : Gl X "isinstance" := by rfl) (hgD : Gl X c := by rfl) (hd : (c == ("__debug__" : Str)) = false := by decide) (h1 : starEach [a, .Name c p2] X.env = (false, eval a X.env) :: starEach [.Name c p2] X.env := by rfl) (h2 : starEach [.Name c p2] X.env = (false, eval (.Name c p2) X.env) :: starEach [] X.env := by rfl)
    (h3 : (backTo pos (starEach [.Name c p2] X.env)).any (·.1) = false := by rfl) : PE X (.Call (.Name "isinstance" p) [a, .Name c p2] [] pos) (TEx G W (eIns c da)) := by
  obtain ⟨b1, hb⟩ := ba3 hb
  obtain ⟨b2, hb⟩ := ba3 hb
  obtain ⟨b3, hb⟩ := ba3 hb
  obtain ⟨b4, hb⟩ := ba3 hb
  obtain ⟨b5, b6⟩ := ba3 hb
  refine PEw (pe_callB call_isi hg hf (by decide +kernel) (pa_cons ha (pa_cons (pe_glob (v := .ref (He.ga X.K c)) hgD hD rfl hd) pa_nil h2) h1) (by decide) (by decide) h1 h3) fun σ H Q h => ?_
  obtain ⟨rho, mu, m, Own, S, h⟩ := h.un
  refine TEx.to S (wp_bnd h) fun x mu1 v H1 m1 h1 g1 S1 r1 => ?_
  cases ex : insAt c mu1 x with
  | some q =>
    obtain ⟨n, fs⟩ := q
    rw [ex] at h1
    obtain ⟨ad, dx, us, rfl, rfl, hn1, ea, _⟩ := S1.ins ex r1
    rw [hK] at ea
    exact ⟨_, _, _, _, true, rfl, .own _, .base (.ins ea hc (He.eqO_ok b1) (He.eqO_ok b2) (of_decide_eq_true b3) (of_decide_eq_true b4)), by unfold PySem.W.kitOne; rw [if_pos (by simp)], h1 _ H1 m1 g1 S1 (.bl true)⟩
  | none =>
    rw [ex] at h1
    cases x with
    | int i =>
      cases r1
      exact ⟨_, _, _, _, false, rfl, .own _, .base (.int i), of_decide_eq_true b5, h1 _ H1 m1 g1 S1 (.bl false)⟩
    | tup xs =>
      cases r1 with
      | tup k1 k2 k3 k4 => exact ⟨_, _, _, _, false, rfl, .own _, .base (.tup k3), of_decide_eq_true b6, h1 _ H1 m1 g1 S1 (.bl false)⟩
    | _ => exact h1.elim
@[simp] theorem yes_eIns {c : Str} {a : EvD} {rho : Ev} {mu : Mem} {P : Da → Mem → Prop} : Yes (eIns c a rho mu) P ↔ Yes (a rho mu) fun x m => if (insAt c m x).isSome then P (.bl true) m else if declD x then P (.bl false) m else False := by
  unfold eIns
  rw [yes_bnd]
  refine iff_of_eq (congrArg _ (funext fun x => funext fun m => ?_))
  cases (insAt c m x).isSome <;> cases declD x <;> rfl
end Sk

/-! Sk Zw: own errors as values, made by position and by name. -/
namespace Sk
open PySem PySem.Spec L2
section
open Builtin
variable {prog : Program} {w : World} {A : Around} {E : Value → Shared → Prop} {R : Result → Shared → Prop} {h : Heap} {g : Array GenState} {d : Drawn} {t : Nat} {os : OsState}
variable {nm q : Str} {C N fI : Addr} {bs bm bmB rest : List Value} {kws : List (Str × Value)} {hdct : Bool} {sn : List Str} {sub : List Value} {ab : Bool} {col : Option Bool} {dd : Option Addr} {k0 k1 k2 k3 k5 : Option Value} {B newId initId : String}
abbrev ecO (nm q : Str) (C N : Addr) (bs bm : List Value) (hdct : Bool) (sn : List Str) (sub : List Value) (ab : Bool) (col : Option Bool) (dd : Option Addr) (k0 k1 k2 k3 k5 : Option Value) (newId : String) : Obj := excClassObj nm q C N bs bm hdct sn sub ab col dd k0 k1 k2 k3 k5 newId
/-- the class's __new__ is let, whatever the names -/
theorem new_let {M : Model} {Q : Unit → Shared → Prop} (F : ExcBaseFacts B newId initId bmB) (hT : ∀ X : String, bm.contains (.type X) = bmB.contains (.type X)) (hC : h.get? C = some (ecO nm q C N bs bm hdct sn sub ab col dd k0 k1 k2 k3 k5 newId))
    (z : Q () ⟨h, g, d, t, os⟩) : wpAny M A (checkBuiltinCall newId ⟨.ref C :: rest, kws⟩) Q E ⟨h, g, d, t, os⟩ := by
  have has : (Value.ref C :: bm).contains (.type B) = true := by rw [List.contains_cons, hT, F.hasB, Bool.or_true]
  have star := F.noStar
  simp only [checkBuiltinCall, F.newKind, F.newSplit, F.newRow]
  repeat (first
    | refine wpAny_loadPart_at hC ?_
    | (refine wpAny_isSubtype_exc hC ?_
       rw [has])
    | refine wpAny_staticBase_exc hC ?_
    | refine wpAny_madeBy_exc hC ?_
    | simp only [bne_self_eq_false, Bool.false_eq_true, if_false]
    | wp_step)
  exact z
/-- the object is made: its args are the values by position -/
theorem new_made (F : ExcBaseFacts B newId initId bmB) (hT : ∀ X : String, bm.contains (.type X) = bmB.contains (.type X)) (hC : h.get? C = some (ecO nm q C N bs bm hdct sn sub ab col dd k0 k1 k2 k3 k5 newId)) (hrest : rest.length ≤ sizeLine)
    (z : R (.ok (.ret (.ref (h.objs.size + 1)))) ⟨(h.push (PySem.W.kdv_tup rest)).push (PySem.HandSPX.excO C h.objs.size), g, d, t, os⟩) : codeAny (model prog w) A (.builtin newId ⟨.ref C :: rest, kws⟩) R ⟨h, g, d, t, os⟩ := by
  have ends := F.ends
  have has : ∀ T : String, (Value.ref C :: bm).contains (.type T) = bmB.contains (.type T) := fun T => by rw [List.contains_cons, hT]; rfl
  refine codeAny_builtinAt F.entry ?_
  unfold Builtin.«BaseException.__new__»
  refine wpAt_bind ?_
  show wpAt _ _ _ (stack >>= _) _ _ _
  refine wpAt_bind (wpAt_stack fun p below => wpAt_of_wpAny ?_)
  wp_walk
  refine wpAt_of_wpAny ?_
  rw [F.owner]
  repeat (first
    | with_reducible refine wpAny_madeHere_exc F.canon hC ?_
    | with_reducible refine wpAny_loadPart_at hC ?_
    | (with_reducible refine wpAny_isSubtype_exc hC ?_
       rw [has]
       first | rw [F.hasB] | rw [F.noAttr] | rw [F.noName])
    | wp_step)
  show R _ _
  rw [Heap.size_push]
  exact z
/-- type.__call__: __new__, then the class's own __init__ -/
theorem call_kw (F : ExcBaseFacts B newId initId bmB) (hT : ∀ X : String, bm.contains (.type X) = bmB.contains (.type X)) (hC : h.get? C = some (ecO nm q C N bs bm hdct sn sub ab col dd k0 k1 k2 k3 k5 newId)) (hrest : rest.length ≤ sizeLine)
    (hi : PySem.W.Looks (model prog w) h (typeLookup (.ref C) "__init__") (some (.ref fI))) (hb : ∀ self, PySem.W.Looks (model prog w) h (bindSpecial (.ref fI) self) (.ref fI, [self]))
    (z : codeAny (model prog w) (A.under (.builtin "type.__call__" ⟨.ref C :: rest, kws⟩)) (.call (.ref fI) ⟨.ref (h.objs.size + 1) :: rest, kws⟩) (PySem.W.InitBack (h.objs.size + 1) R) ⟨(h.push (PySem.W.kdv_tup rest)).push (PySem.HandSPX.excO C h.objs.size), g, d, t, os⟩) :
    codeAny (model prog w) A (.call (.ref C) ⟨rest, kws⟩) R ⟨h, g, d, t, os⟩ := by
  have body : wpAny (model prog w) (A.under (.builtin "type.__call__" ⟨.ref C :: rest, kws⟩)) (Builtin.«type.__call__» ⟨.ref C :: rest, kws⟩) (fun f s' => ∃ fl, f = .done fl ∧ R (.ok fl) s') (fun e s' => R (.error e) s') ⟨h, g, d, t, os⟩ := by
    repeat (first
      | with_reducible refine wpAny_loadPart_at hC ?_
      | with_reducible refine wpAny_madeBy_exc hC ?_
      | wp_step)
    refine codeAny_call_builtin_code (Code.quiet_builtin _ F.quiet) (new_let F hT hC ?_)
    refine new_made F hT hC hrest ?_
    show wpAny _ _ _ _ _ _
    have kp : ∀ b o, h.get? b = some o → ((h.push (PySem.W.kdv_tup rest)).push (PySem.HandSPX.excO C h.objs.size)).get? b = some o := fun b o e => Heap.get?_push_of_some _ (Heap.get?_push_of_some _ e)
    have cls2 := kp _ _ hC
    have obj2 : ((h.push (PySem.W.kdv_tup rest)).push (PySem.HandSPX.excO C h.objs.size)).get? (h.objs.size + 1) = some (PySem.HandSPX.excO C h.objs.size) := by heap_get
    have self2 : (Value.ref C :: bm).contains (.ref C) = true := by simp
    have ini2 := hi.keeps kp
    have bnd2 := (hb (.ref (h.objs.size + 1))).keeps kp
    unfold isInstance
    repeat (first
      | with_reducible refine wpAny_loadPart_at obj2 ?_
      | (with_reducible refine wpAny_isSubtype_exc cls2 ?_
         rw [self2])
      | wp_step)
    show wpAny _ _ (typeLookup (.ref C) _) _ _ _
    refine ini2.at ?_
    refine wpAny_holding (wpAny_bind (bnd2.at ?_))
    refine wpAny_bind (wpAny_call (codeAny_mono z fun r s' y => ?_))
    rcases r with e | (v | _ | _ | _) <;> first | exact y | exact y.elim | skip
    obtain ⟨rfl, y⟩ := y
    first
      | exact wpAny_pure (wpAny_pure ⟨_, rfl, y⟩)
      | (wp_walk
         exact ⟨_, rfl, y⟩)
  have look := tc_lookup
  have bind := tc_bind (.ref C)
  have isT : (⟨h, g, d, t, os⟩ : Shared).TypeIs (.ref C) "type" := ⟨_, hC, rfl⟩
  have chk : ∀ {M : Model} {A : Around} {E : Value → Shared → Prop} {Q : Unit → Shared → Prop}, Q () ⟨h, g, d, t, os⟩ → wpAny M A (checkBuiltinCall "type.__call__" ⟨.ref C :: rest, kws⟩) Q E ⟨h, g, d, t, os⟩ := fun {M A E Q} hq => by
    have sub3 := tc_sub
    simp only [checkBuiltinCall, tc_kind, tc_split]
    repeat (any_goals (first
      | assumption
      | with_reducible refine wpAny_loadPart_at hC ?_
      | with_reducible refine wpAny_onRaise ?_
      | with_reducible refine wpAny_map ?_
      | wp_step))
  refine codeAny_of_tree ?_
  show wpAny _ _ (callAny (.ref C) _) _ _ _
  repeat (any_goals (first
    | assumption
    | with_reducible refine wpAny_loadPart_at hC ?_
    | wp_step))
  refine ⟨rfl, ?_⟩
  refine codeAny_call_builtin_at (Code.quiet_builtin _ (by decide +kernel)) entry_typeCall (chk ?_)
  refine wpAny_mono body (fun f s' y => ?_) fun _ _ y => y
  obtain ⟨fl, rfl, y⟩ := y
  exact y
end
/-- what an error's own __init__ does: its fields, of the values behind self -/
def spXf (C : Addr) (fl : List V → List (Str × V)) (n : Nat) : Sp := fun vs H Q _ => ∃ (a : Addr) (ws : List V), vs = .ref a :: ws ∧ ws.length = n ∧ H a = some (exo a C none) ∧ ∀ d, H d = none → d ≠ a → Q .non (upd (upd H d (exd d (fl ws))) a (exo a C (some d)))
theorem FnG.imp {P : Program} {w : World} {K : PySem.W.Frag} {mg : Str → Option Value} {base : Heap} {k : Nat} {f : Addr} {fd : FuncData} {ps : List Str} {sp sp' : Sp} (F : FnG P w K mg base k f fd ps sp) (h : ∀ vs H Q E, sp' vs H Q E → sp vs H Q E) : FnG P w K mg base k f fd ps sp' :=
  ⟨fun vs H Q E q => F.len vs H Q E (h _ _ _ _ q), fun A out s H args us vs Q E hr e0 hb rv q => F.run A out s H args us vs Q E hr e0 hb rv (h _ _ _ _ q)⟩
section
variable {X : Cx} {f : Str} {C fI : Addr} {k n : Nat} {fd : FuncData} {ps : List Str} {fl : List V → List (Str × V)} {B newId id : String} {bmB : List Value} {pins : List (Addr × Obj)} {σ : L2.St} {H1 : Hp} {s1 : Shared} {us ows : List Value} {kw : List (Str × Value)} {vs : List V} {Q : VK}
/-- the error is called: an object, tracked with its dict -/
theorem mkx_core (T : XC X.K C B newId id bmB) (iC : PySem.W.findIn X.K (.ref C) "__init__" = some (some (.ref fI))) (tI : PySem.W.typeIn X.K (.ref fI) = some (.type "function")) (F : FnG X.prog X.w X.K X.mg X.base k fI fd ps (spXf C fl n)) (hr : Rm (k + 1) X.A)
    (I1 : Inv X pins σ H1 s1) (rv : Vals vs ows) (hn : vs.length = n) (hus : us.length ≤ sizeLine) (hb : ∀ (s' : Shared) (a : Addr), X.K.In s'.heap → BindsTo s' fd ⟨.ref a :: us, kw⟩ (ps.zip (.ref a :: ows)))
    (hQ : ∀ a d, H1 a = none → H1 d = none → d ≠ a → Q (.ref a) (upd (upd H1 a (exq a C d)) d (.xd (fl vs)))) : wpAny (model X.prog X.w) X.A (call (.ref C) us kw) (EP X pins σ Q) X.xe s1 := by
  obtain ⟨nm, N, qn, bs, bm, hdct, sn, sub, ab, col, dd, k0, k1, k2, k3, k5, hC, hT⟩ := PySem.W.excInit_of I1.kIn T.ini
  obtain ⟨hp, g, dr, tk, os⟩ := s1
  have hsz : hp.objs.size ≤ hp.objs.size + 1 := Nat.le_succ _
  generalize ea : hp.objs.size + 1 = a at *
  have na : H1 a = none := I1.hok.fresh hsz
  have kk : ∀ b o, hp.get? b = some o → ((hp.push (PySem.W.kdv_tup us)).push (PySem.HandSPX.excO C hp.objs.size)).get? b = some o := fun b o e => Heap.get?_push_of_some _ (Heap.get?_push_of_some _ e)
  have hget : ((hp.push (PySem.W.kdv_tup us)).push (PySem.HandSPX.excO C hp.objs.size)).get? a = some (PySem.HandSPX.excO C hp.objs.size) := by subst ea; heap_get
  have I2 : Inv X pins σ (upd H1 a (exo a C none)) ⟨(hp.push (PySem.W.kdv_tup us)).push (PySem.HandSPX.excO C hp.objs.size), g, dr, tk, os⟩ := I1.laid (t' := tk) (a := a) (o := exo a C none) kk hsz (exo_ok hget)
  have r2 : Vals (V.ref a :: vs) (Value.ref a :: ows) := .cons rfl rv
  have hq : spXf C fl n (V.ref a :: vs) (upd H1 a (exo a C none)) (fun u H2 => u = .non ∧ ∃ d : Addr, H1 d = none ∧ d ≠ a ∧ H2 = upd (upd (upd H1 a (exo a C none)) d (exd d (fl vs))) a (exo a C (some d))) (fun _ _ _ => False) :=
    ⟨a, vs, rfl, hn, upd_same, fun d hd ne => ⟨rfl, d, by rw [upd_ne ne] at hd; exact hd, ne, rfl⟩⟩
  have b2 := hb ⟨(hp.push (PySem.W.kdv_tup us)).push (PySem.HandSPX.excO C hp.objs.size), g, dr, tk, os⟩ a I2.kIn
  refine wpAny_call (call_kw T.base hT hC hus (PySem.W.looks_findIn I1.kIn iC) (fun self => PySem.W.bind_fn I1.kIn self tI) ?_)
  rw [ea]
  refine codeAny_mono (F.run _ X.stack _ _ ⟨Value.ref a :: us, kw⟩ (Value.ref a :: ows) _ _ (fun _ _ _ => False) ⟨hr.r.make C us kw, hr.gd⟩ (I2.env0.make C us kw) b2 r2 hq) fun r s' hq' => ?_
  cases r with
  | error er =>
    obtain ⟨_, _, _, _, _, _, _, _, _, _, _, _, z⟩ := hq'
    exact z.elim
  | ok fl' =>
    cases fl' with
    | ret u =>
      obtain ⟨v2, H2, J, rv2, ev, d, hd1, ne, eH⟩ := I2.after hq'
      subst ev
      have ea2 : H2 a = some (exo a C (some d)) := by rw [eH, upd_same]
      have ed2 : H2 d = some (exd d (fl vs)) := by rw [eH, upd_ne ne, upd_same]
      obtain ⟨t1, ho⟩ := exo_at J.hok ea2
      obtain ⟨mA, hns, rel⟩ := exd_at J.hok ed2
      obtain ⟨hp2, g2, d2, tk2, os2⟩ := s'
      have J1 := J.write (t' := tk2) (x := a) (e := a) (o := exq a C d) (by rw [ea2]; exact True.intro) (.inl rfl) (fun b u _ e => e) ⟨_, ho⟩ (exQ_ok (cls := .ref C) (d := some d) ho ⟨rfl, rfl⟩ rfl)
      have J2 := J1.write (t' := tk2) (x := d) (e := d) (o := .xd (fl vs)) (by rw [upd_ne ne, ed2]; exact True.intro) (.inl rfl) (fun b u _ e => e) (by obtain ⟨o, _, _, e, _⟩ := hns; exact ⟨o, e⟩) ⟨mA, hns, rel⟩
      have eq : upd (upd H2 a (exq a C d)) d (.xd (fl vs)) = upd (upd H1 a (exq a C d)) d (.xd (fl vs)) := funext fun b => by
        by_cases h1 : b = d
        · rw [h1, upd_same, upd_same]
        · rw [upd_ne h1, upd_ne h1]
          by_cases h2 : b = a
          · rw [h2, upd_same, upd_same]
          · rw [upd_ne h2, upd_ne h2, eH, upd_ne h2, upd_ne h1, upd_ne h2]
      rw [eq] at J2
      exact ⟨rv2, V.ref a, _, J2, rfl, hQ a d na hd1 ne⟩
    | next => exact False.elim hq'
    | brk => exact False.elim hq'
    | cont => exact False.elim hq'
end
section
open Builtin.ObjectAttr
variable {X : Cx} {pins : List (Addr × Obj)} {σ : L2.St} {H : Hp} {s : Shared} {a C dx : Addr} {f : Str} {y : V} {u : Value} {fs : List (Str × V)} {E : Value → Shared → Prop} {A : Around} {B newId initId : String} {bmB : List Value}
/-- self.f = y, a later field -/
theorem xset2 (T : XC X.K C B newId initId bmB) (I : Inv X pins σ H s) (e : H a = some (exo a C (some dx))) (ed : H dx = some (exd dx fs)) (hl : fs.length ≤ 900) (ht : PySem.W.takerIn X.K C f = some none) (ry : RelV y u) {Q : Unit → Shared → Prop}
    (h : ∀ s', Inv X pins σ (upd H dx (exd dx ((f, y) :: fs))) s' → Q () s') : wpAny (model X.prog X.w) A (setAttr (.ref a) f u) Q E s := by
  obtain ⟨t1, ho⟩ := exo_at I.hok e
  obtain ⟨mA, hns, rel⟩ := exd_at I.hok ed
  have hw := within_of rel
  obtain ⟨hp, g, d, t, os⟩ := s
  obtain ⟨oD, _, _, hoD, _, _⟩ := hns.count hw
  have J : PySem.W.InstAt hp a { cls := .ref C, dict := some dx, data := .fields #[.ref t1, .none, .none, .none, .bool false, .none] } C (some oD) := ⟨ho, rfl, rfl, hoD⟩
  refine PySem.W.set_plain I.kIn (od := some oD) J T.sa (PySem.W.osa_openX T.store I.kIn J T.ovr ht fun b => ?_)
  obtain ⟨cd, hc, hd'⟩ := PySem.W.any_some T.hd
  have hcls : PySem.W.Looks (model X.prog X.w) hp (classData C) cd := PySem.W.looks_clsIn I.kIn hc
  have fin : ∀ h' tk', (∀ b o, b ≠ dx → hp.get? b = some o → h'.get? b = some o) → h'.Ns1 dx (fun y => if y = f then some u else mA y) → Q () ⟨h', g, d, tk', os⟩ := fun h' tk' k hn => by
    have hd : ∃ o, h'.get? dx = some o := by
      obtain ⟨o, _, _, q, _⟩ := hn
      exact ⟨o, q⟩
    exact h _ (I.write (t' := tk') (x := dx) (e := dx) (o := exd dx ((f, y) :: fs)) (by rw [ed]; exact True.intro) (.inl rfl) k hd (exd_ok hn (relO_put ry rel)))
  show wpAny _ _ (storeInOwnDict (.ref a) (.ref C) (.str f t) f u b) _ _ _
  unfold storeInOwnDict ownDictForStores
  repeat (first
    | with_reducible refine PySem.OEX.store_in_old hns hw (by rw [List.length_map]; omega) ?_
    | with_reducible refine wpAny_loadPart_at ho ?_
    | with_reducible refine hcls.at ?_
    | wp_step)
  intro h' tk' hn sb
  exact fin h' tk' (fun b o hb q => (sb.2 b hb).trans q) hn
end
/-- self.f = e, a later field -/
def tXs2 (K : PySem.W.Frag) (f : Str) (to te : TE) : TS := fun D σ H => te σ H fun y H1 => to σ H1 fun x H2 => ∃ (a C : Addr) (B newId id : String) (bmB : List Value) (dx : Addr) (fs : List (Str × V)), x = .ref a ∧ XC K C B newId id bmB ∧ PySem.W.takerIn K C f = some none ∧ H2 a = some (exo a C (some dx)) ∧ H2 dx = some (exd dx fs) ∧ fs.length ≤ 900 ∧
  D.nx σ (upd H2 dx (exd dx ((f, y) :: fs)))
theorem ps_xset2 {X : Cx} {f : Str} {o e : Expr} {to te : TE} {p' pos : Pos} (ho : PE X o to) (he : PE X e te) (hs : swapsWith e (some (.Attribute o f p')) pos.line X.env = pure false := by rfl) : PS X (.Assign [.Attribute o f p'] e pos) (tXs2 X.K f to te) := by
  refine ⟨fun pins s σ H D I h => ?_⟩
  refine plainObj_wpAny_Assign_Attribute (thn (he.run pins s σ H _ I h) fun v s1 ⟨y, H1, I1, r1, q1⟩ => thn (ho.run pins s1 σ H1 _ I1 q1) fun u s2 ⟨x, H2, I2, r2, a, C, B, newId, id0, bmB, dx, fs, ex, T, ht, ea, ed, hl, q⟩ => ?_) hs
  subst ex
  obtain rfl : u = Value.ref a := r2
  exact xset2 T I2 ea ed hl ht r1 fun s' J => ⟨σ, _, J, q⟩
/-- what __init__(self, y, z) of such a class does, by its three rows -/
abbrev tIni2 (K : PySem.W.Frag) (id : String) (txt f g : Str) : TS := tSeq (tDrop (tXi K id (tCons (tVar 0) (tCons (tC (.str txt)) tNil)))) (tSeq (tXs K f (tVar 0) (tVar 1)) (tXs2 K g (tVar 0) (tVar 2)))
theorem ini_own2 {X : Cx} {a f g : Str} {id : String} {e : Expr} {es : List Expr} {ta : TA} {p1 p2 cp pos1 p3 p4 pos pos2 : Pos} {o v o2 v2 : Expr} {to te to2 te2 : TE} {pl : Sem Bool} (hm : X.mg a = some (.ref (He.ga X.K a))) (hg : GetsB X (.ref (He.ga X.K a)) id) (ha : PA X (e :: es) ta) (ho : PE X o to) (hv : PE X v te) (ho2 : PE X o2 to2) (hv2 : PE X v2 te2)
    (hgl : Gl X a := by rfl) (hdb : (a == ("__debug__" : Str)) = false := by decide)
    (hc : eval (.Call (.Attribute (.Name a p1) "__init__" p2) (e :: es) [] cp) X.env = (do
      let ov ← eval (.Name a p1) X.env
      standAt p2.atName
      let (f, first) ← holding [ov] (getMethod ov "__init__" pl)
      callWith cp f first (backTo cp (starEach (e :: es) X.env)) (backToKw cp (keywordEach [] X.env))) := by rfl)
    (he : starEach (e :: es) X.env = (false, eval e X.env) :: starEach es X.env := by rfl) (hpl : (backTo cp (starEach es X.env)).any (·.1) = false := by rfl)
    (hs1 : swapsWith (.Call (.Attribute (.Name a p1) "__init__" p2) (e :: es) [] cp) none pos1.line X.env = pure false := by rfl) (hs2 : swapsWith v (some (.Attribute o f p3)) pos.line X.env = pure false := by rfl) (hs3 : swapsWith v2 (some (.Attribute o2 g p4)) pos2.line X.env = pure false := by rfl) :
    PSs X [.Expr (.Call (.Attribute (.Name a p1) "__init__" p2) (e :: es) [] cp) pos1, .Assign [.Attribute o f p3] v pos, .Assign [.Attribute o2 g p4] v2 pos2] (tSeq (tDrop (tXi X.K id ta)) (tSeq (tXs X.K f to te) (tXs2 X.K g to2 te2))) :=
  pss_cons (ps_expr (pe_xinit ⟨hgl, hdb, .inl hm⟩ hg ha hc he hpl) hs1) (pss_cons (ps_xset ho hv hs2) (pss_one (ps_xset2 ho2 hv2 hs3)))
/-! ### own errors by names -/
abbrev zipR {α : Type} (fs : List Str) (xs : List α) : List (Str × α) := (fs.zip xs).reverse
/-- the error class c with the fields fs: its __init__ is st -/
structure DxN (P : Program) (w : World) (K : PySem.W.Frag) (mg : Str → Option Value) (base : Heap) (c : Str) (fs ps : List Str) (st : Stmt) : Prop where
  ex : ∃ (B newId id : String) (bmB : List Value) (fI : Addr) (fd : FuncData), XC K (He.ga K c) B newId id bmB ∧ PySem.W.findIn K (.ref (He.ga K c)) "__init__" = some (some (.ref fI)) ∧ PySem.W.typeIn K (.ref fI) = some (.type "function") ∧
    FunD K "__init__" (c ++ ("." : Str) ++ "__init__") (defArgs st) (defBody st) (defScope st) [] [] fI fd ∧ FnG P w K mg base 1 fI fd ps (spXf (He.ga K c) (zipR fs) fs.length)
  mg : mg c = some (.ref (He.ga K c))
theorem spXf_len {C : Addr} {fl : List V → List (Str × V)} {n : Nat} {ps : List Str} (hp : ps.length = n + 1) : ∀ vs H Q E, spXf C fl n vs H Q E → vs.length = ps.length := by
  rintro vs H Q E ⟨a, ws, rfl, hw, _⟩
  rw [hp, List.length_cons, hw]
section
variable {P : Program} {w : World} {K : PySem.W.Frag} {mg : Str → Option Value} {base : Heap} {h : Heap} {fa : List He.Fa} {fn : List DA} {ex : PySem.W.Frag → Bool} {c f g txt y z : Str} {x : Xb} {st : Stmt}
theorem DxN.of1 (T : Ty K mg h fa fn ex) (i j : Nat) (F : XcF K c f x) (S : FnScope ["self", y] ["self", y] (defScope st))
    (hb : ∀ (cdv : Value) (A : Around) (out : List Env) (s : Shared) (H : Hp) (E : XK), PSs (cxOf (CXx P w) P w K mg base ["self", y] (c ++ ("." : Str) ++ "__init__") (defScope st) (He.ma K (He.ga K c) "__init__") cdv A out s H E) (defBody st) (tIni K x.ini txt f))
    (hd : fn[i]? = some (dOfM c "__init__" st) := by rfl) (hf : fa[j]? = some (.glo c) := by rfl) : DxN P w K mg base c [f] ["self", y] st := by
  obtain ⟨fd, hfd⟩ := T.says.def_ i hd
  refine ⟨⟨x.B, x.nw, x.ini, x.bm, _, fd, F.xc, F.ini, F.ty, hfd, ?_⟩, T.glo j hf⟩
  refine fnG_any (k := 0) (N := ["self", y]) (t := tIni K x.ini txt f) hfd S (spXf_len rfl) (fun cdv A out s H E hr => hb cdv A out s H E) fun vs H Q E h => ?_
  obtain ⟨a, ws, rfl, hw, e, q⟩ := h
  match ws, hw with
  | [v], _ =>
    refine ⟨.ref a, rfl, a, He.ga K c, x.B, x.nw, x.bm, [.str txt], rfl, by show 1 ≤ 1000; decide, F.xc, e, ?_⟩
    exact ⟨v, rfl, .ref a, rfl, a, He.ga K c, x.B, x.nw, x.ini, x.bm, rfl, F.xc, F.tk, e, q⟩
theorem DxN.of2 (T : Ty K mg h fa fn ex) (i j : Nat) (F : XcF K c f x) (F2 : XcF K c g x) (S : FnScope ["self", y, z] ["self", y, z] (defScope st))
    (hb : ∀ (cdv : Value) (A : Around) (out : List Env) (s : Shared) (H : Hp) (E : XK), PSs (cxOf (CXx P w) P w K mg base ["self", y, z] (c ++ ("." : Str) ++ "__init__") (defScope st) (He.ma K (He.ga K c) "__init__") cdv A out s H E) (defBody st) (tIni2 K x.ini txt f g))
    (hd : fn[i]? = some (dOfM c "__init__" st) := by rfl) (hf : fa[j]? = some (.glo c) := by rfl) : DxN P w K mg base c [f, g] ["self", y, z] st := by
  obtain ⟨fd, hfd⟩ := T.says.def_ i hd
  refine ⟨⟨x.B, x.nw, x.ini, x.bm, _, fd, F.xc, F.ini, F.ty, hfd, ?_⟩, T.glo j hf⟩
  refine fnG_any (k := 0) (N := ["self", y, z]) (t := tIni2 K x.ini txt f g) hfd S (spXf_len rfl) (fun cdv A out s H E hr => hb cdv A out s H E) fun vs H Q E h => ?_
  obtain ⟨a, ws, rfl, hw, e, q⟩ := h
  match ws, hw with
  | [v, u], _ =>
    refine ⟨.ref a, rfl, a, He.ga K c, x.B, x.nw, x.bm, [.str txt], rfl, by show 1 ≤ 1000; decide, F.xc, e, ?_⟩
    refine ⟨v, rfl, .ref a, rfl, a, He.ga K c, x.B, x.nw, x.ini, x.bm, rfl, F.xc, F.tk, e, fun dx hdx ne => ?_⟩
    refine ⟨u, rfl, .ref a, rfl, a, He.ga K c, x.B, x.nw, x.ini, x.bm, dx, [(f, v)], rfl, F.xc, F2.tk, upd_same, by rw [upd_ne ne, upd_same], by show 1 ≤ 900; decide, ?_⟩
    have z := q dx hdx ne
    have eq : upd (upd (upd H dx (exd dx [(f, v)])) a (exo a (He.ga K c) (some dx))) dx (exd dx ((g, u) :: [(f, v)])) = upd (upd H dx (exd dx (zipR [f, g] [v, u]))) a (exo a (He.ga K c) (some dx)) := funext fun b => by
      by_cases h1 : b = dx
      · rw [h1, upd_same, upd_ne ne, upd_same]
        rfl
      · rw [upd_ne h1]
        by_cases h2 : b = a
        · rw [h2, upd_same, upd_same]
        · rw [upd_ne h2, upd_ne h1, upd_ne h2, upd_ne h1]
    rw [← eq] at z
    exact z
end
/-- c(..) as a value -/
def eXm (c : Str) (fs : List Str) (r : Ev → Mem → Out (List Da)) : EvD := fun rho mu => bnd (r rho mu) fun xs mu1 => if xs.length = fs.length then .ok (.ref mu1.length) (mu1 ++ [.err c (zipR fs xs)]) else .bad
theorem paired_app {α β : Type} {F : α → β → Prop} : ∀ {l l2 : List α} {k k2 : List β}, Paired F l k → Paired F l2 k2 → Paired F (l ++ l2) (k ++ k2)
  | _, _, _, _, .nil, b => b
  | _, _, _, _, .cons a t, b => .cons a (paired_app t b)
theorem paired_rev {α β : Type} {F : α → β → Prop} : ∀ {l : List α} {k : List β}, Paired F l k → Paired F l.reverse k.reverse
  | _, _, .nil => .nil
  | _, _, .cons a t => by
    rw [List.reverse_cons, List.reverse_cons]
    exact paired_app (paired_rev t) (.cons a .nil)
theorem rf_zip {m : List Addr} {B : Addr → Prop} {H : Hp} : ∀ {fs : List Str} {xs : List Da} {vs : List V}, RDs m B H xs vs → Paired (fun (p : Str × Da) (q : Str × V) => q.1 = p.1 ∧ RD m B H p.2 q.2) (fs.zip xs) (fs.zip vs)
  | [], _, _, _ => .nil
  | _ :: _, _, _, .nil => .nil
  | f :: fs, _, _, .cons a t => .cons ⟨rfl, a⟩ (rf_zip t)
section
variable {X : Cx} {G : Fr} {W : WX} {c : Str} {fs ps ks : List Str} {perm : List Nat} {st : Stmt} {lv : Nat} {r : Ev → Mem → Out (List Da)} {e : Expr} {es : List Expr} {kws : List Keyword} {p pos : Pos}
theorem mkx_le (hK : G.K = X.K) {σ : L2.St} {H : Hp} {Q : VK} (h : TEx G W (eXm c fs r) σ H Q) : TAx G W r σ H fun vs H1 => vs.length = fs.length ∧ ∀ a d, H1 a = none → H1 d = none → d ≠ a → Q (.ref a) (upd (upd H1 a (exq a (He.ga X.K c) d)) d (.xd (zipR fs vs))) := by
  obtain ⟨rho, mu, m, Own, S, h⟩ := h.un
  refine TAx.to S (wp_bnd h) fun xs mu1 vs H1 m1 h1 g1 S1 r1 => ?_
  by_cases hl : xs.length = fs.length
  · rw [if_pos hl] at h1
    refine ⟨by rw [← r1.length, hl], fun a d ha hd ne => ?_⟩
    have smd := same_upd (o := HO.xd (zipR fs vs)) hd
    have S0 := S1.same smd
    have ha0 : upd H1 d (.xd (zipR fs vs)) a = none := by rw [upd_ne ne.symm]; exact ha
    obtain ⟨f1, f2⟩ := S0.fresh ha0
    obtain ⟨d1, d2⟩ := S1.fresh hd
    have ns := S0.noslot ha0
    obtain ⟨S3, le3⟩ := S0.bar1 (o := .dK []) ha0
    obtain ⟨_, g3w⟩ := S3.write (exq a (He.ga G.K c) d) (.inr rfl) ns
    have e4 : upd (upd (upd H1 d (.xd (zipR fs vs))) a (.dK [])) a (exq a (He.ga G.K c) d) = upd (upd H1 a (exq a (He.ga X.K c) d)) d (.xd (zipR fs vs)) := funext fun b => by
      by_cases hb : b = a
      · rw [hb, upd_same, upd_ne ne.symm, upd_same, hK]
      · rw [upd_ne hb, upd_ne hb]
        by_cases hb2 : b = d
        · rw [hb2, upd_same, upd_same]
        · rw [upd_ne hb2, upd_ne hb2, upd_ne hb]
    have rf : Paired (fun (p : Str × Da) (q : Str × V) => q.1 = p.1 ∧ RD m1 (G.bar Own) H1 p.2 q.2) (zipR fs xs) (zipR fs vs) := paired_rev (rf_zip r1)
    have S4 := S3.numnew (o := exq a (He.ga G.K c) d) (ob := .err c (zipR fs xs)) ns (S0.le.dom a ha0) f2 ⟨d, _, by rw [upd_same], d1, fun z => z.elim (fun q => d2 (.inl q)) fun q => q.elim (fun q => d2 (.inr q)) fun q => ne q, by rw [upd_ne ne, upd_ne ne, upd_same],
      paired_imp (fun _ _ ⟨x, y⟩ => ⟨x, (y.mono (Lf.le (Lf.of_same smd) _)).mono (le3.trans g3w)⟩) rf⟩
    rw [e4] at S4
    have hk : (m1 ++ [a])[mu1.length]? = some a := by rw [← paired_len S1.wd.ob, List.getElem?_append_right (Nat.le_refl _), Nat.sub_self]; rfl
    refine h1 (.ref a) _ (m1 ++ [a]) (g1.trans ⟨⟨[a], rfl, fun b z => by rw [show b = a by simpa using z]; exact ha⟩, fun b u q _ _ _ => ?_, fun b q => ?_, fun b z => z.elim⟩) S4 (.ref hk)
    · rw [upd_ne (fun z => by rw [z, hd] at q; cases q), upd_ne (fun z => by rw [z, ha] at q; cases q)]
      exact q
    · by_cases hb : b = d
      · rw [hb]; exact hd
      · rw [upd_ne hb] at q
        by_cases hb2 : b = a
        · rw [hb2]; exact ha
        · rw [upd_ne hb2] at q; exact q
  · rw [if_neg hl] at h1
    exact h1.elim
/-- c(e, ..) -/
theorem c_mkX (hK : G.K = X.K) (T : DxN X.prog X.w X.K X.mg X.base c fs ps st) (hb : BindQ "__init__" (c ++ ("." : Str) ++ "__init__") st ps) (hps : ps.length = fs.length + 1) (hr : Rm lv X.A) (ha : PA X (e :: es) (TAx G W r)) (hlv : 2 ≤ lv := by decide) (hf : fs.length ≤ 10 := by decide)
    (hg : Gl X c := by rfl) (hdb : (c == ("__debug__" : Str)) = false := by decide) (he : starEach (e :: es) X.env = (false, eval e X.env) :: starEach es X.env := by rfl) (hpl : (backTo pos (starEach es X.env)).any (·.1) = false := by rfl) : PE X (.Call (.Name c p) (e :: es) [] pos) (TEx G W (eXm c fs r)) := by
  obtain ⟨B, newId, id, bmB, fI, fd, t1, t2, t3, t4, t5⟩ := T.ex
  refine ⟨fun pins s σ H Q I h => wpAny_Call_Name_kw (ld_glob I hg T.mg ?_ hdb)⟩
  refine PySem.W.callWith_K (h₀ := X.base) I.ok.mod.kin t1.kC (thn (ha.run pos pins s σ H _ I (mkx_le hK h)) fun us s1 ⟨vs, H1, I1, r1, hl, q⟩ => ⟨I1.kIn, ?_⟩) he hpl
  have hul : us.length = fs.length := by rw [← r1.length, hl]
  have bn := FunD.bindsN (ps := ps) t4 hb
  refine mkx_core (us := us) (kw := []) t1 t2 t3 t5 (hr.mono hlv) I1 r1 hl (by rw [hul, sizeLine_eq]; omega) (fun s' a hin => ?_) q
  have z := bn s' (.ref a :: us) hin (by rw [List.append_nil, List.length_cons, hul, hps])
  rw [List.append_nil] at z
  exact z
/-- c(k = e, ..) -/
theorem c_mkXK (hK : G.K = X.K) (T : DxN X.prog X.w X.K X.mg X.base c fs ps st) (hb : BindQK "__init__" (c ++ ("." : Str) ++ "__init__") st ps ks perm) (hln : ∀ rho mu xs mu', r rho mu = .ok xs mu' → xs.length = ks.length) (hr : Rm lv X.A) (ha : PK X kws (TAx G W r)) (hlv : 2 ≤ lv := by decide) (hf : fs.length ≤ 10 := by decide)
    (hg : Gl X c := by rfl) (hdb : (c == ("__debug__" : Str)) = false := by decide) (hall : (backToKw pos (keywordEach kws X.env)).all (·.1.isSome) = true := by rfl) (hks : (backToKw pos (keywordEach kws X.env)).filterMap (·.1) = ks := by rfl) (hpl : ((backTo pos (starEach [] X.env)).any (·.1) || (backToKw pos (keywordEach kws X.env)).any (·.1.isNone)) = false := by rfl) :
    PE X (.Call (.Name c p) [] kws pos) (TEx G W (eXm c fs (aPick perm r))) := by
  obtain ⟨B, newId, id, bmB, fI, fd, t1, t2, t3, t4, t5⟩ := T.ex
  refine ⟨fun pins s σ H Q I h => wpAny_Call_Name_kw (ld_glob I hg T.mg ?_ hdb)⟩
  refine PySem.W.callWith_KW0 (first := []) (h₀ := X.base) I.ok.mod.kin t1.kC hall (thn (ha.run pos pins s σ H _ I (pick_ta hln (mkx_le hK h))) fun ws s1 ⟨zs, H1, I1, rz, hz, hl, q⟩ => ⟨I1.kIn, ?_⟩) hpl
  rw [hks]
  exact mkx_core (us := []) t1 t2 t3 t5 (hr.mono hlv) I1 (Vals.pick rz perm) hl (by decide) (fun s' a hin => kwT t4 hb s' (.ref a) ws hin (by rw [← rz.length, hz])) q
end
end Sk

/-! Sk Zx: {} as a thing: its text; isinstance of errors of built-in classes. -/
namespace Sk
open PySem PySem.Spec PyProof.Rows L2
/-! ### isinstance(e, T), e an error, T a built-in class -/
def isxTB (K : PySem.W.Frag) (n : String) (l : List (Str × Bool)) : Bool := l.all fun p => iscB K p.1 && decide (PySem.W.kitOne K (.ref (He.ga K p.1)) (.type n) = some p.2)
def rIsXT (K : PySem.W.Frag) (n : String) : List V → Hp → VK → Prop := fun xs H Q => ∃ (ad d C : Addr) (us : List (Str × V)) (b : Bool), xs = [.ref ad, .ty n] ∧ H ad = some (exq ad C d) ∧ H d = some (.xd us) ∧ IsC K C ∧ PySem.W.kitOne K (.ref C) (.type n) = some b ∧ Q (.bl b) H
section
variable {X : Cx} {G : Fr} {W : WX} {a : Expr} {da : EvD} {p p2 pos : Pos} {n : String} {x : Str} {l : List (Str × Bool)}
theorem call_isxT : CallR X (.builtin "isinstance") (rIsXT X.K n) := by
  intro pins s σ H xs us Q I r h
  obtain ⟨ad, d, C, us2, b, rfl, e1, e2, c, ek, q⟩ := h
  obtain ⟨u1, u2, rfl, r1, r2⟩ := vals2 r
  obtain rfl : u1 = Value.ref ad := r1
  obtain rfl : u2 = Value.type n := r2
  obtain ⟨oe, od, J, _⟩ := inst_of I e1 e2
  exact PySem.W.kia_one (PySem.W.kitx_exc c.cl c.ga c.gt c.ex c.kc c.kg c.kt c.ob) I.kIn J ek (fun z => nomatch z) fun tk => ⟨.bl b, H, I.kept (t' := tk) fun _ _ z => z, rfl, q⟩
theorem c_isxT (hK : G.K = X.K) (hm : X.mg "isinstance" = none) (hT : X.mg x = none) (hb : bootBuiltins x = some (.type n)) (hl : isxTB X.K n l = true) (ha : PE X a (TEx G W da)) (hg : Gl X "isinstance" := by rfl) (hgT : Gl X x := by rfl) (hn : x ≠ "__name__" := by decide) (hd : (x == ("__debug__" : Str)) = false := by decide)
    (h1 : starEach [a, .Name x p2] X.env = (false, eval a X.env) :: starEach [.Name x p2] X.env := by rfl) (h2 : starEach [.Name x p2] X.env = (false, eval (.Name x p2) X.env) :: starEach [] X.env := by rfl) (h3 : (backTo pos (starEach [.Name x p2] X.env)).any (·.1) = false := by rfl) :
    PE X (.Call (.Name "isinstance" p) [a, .Name x p2] [] pos) (TEx G W (eIsX (fun c _ => hitL l c) x da)) := by
  refine PEw (pe_callB (call_isxT (n := n)) hg hm (by decide +kernel) (pa_cons ha (pa_cons (pe_bltn (v := .ty n) hgT hT hb rfl hn hd) pa_nil h2) h1) (by decide) (by decide) h1 h3) fun σ H Q h => ?_
  obtain ⟨rho, mu, m, Own, S, h⟩ := h.un
  refine TEx.to S (wp_bnd h) fun z mu1 v H1 m1 h1 g1 S1 r1 => ?_
  obtain ⟨y, e, q⟩ := wp_opt h1
  obtain ⟨⟨c, fs⟩, e1, e2⟩ := Option.bind_eq_some_iff.mp e
  obtain ⟨b, e3, rfl⟩ := Option.map_eq_some_iff.mp e2
  obtain ⟨ad, d, us, rfl, ea, ed, _⟩ := S1.err e1 r1
  obtain ⟨i1, i2⟩ := He.ba (List.all_eq_true.mp hl _ (lookup_in e3))
  rw [hK] at ea
  exact ⟨ad, d, _, us, b, rfl, ea, ed, iscB_ok i1, of_decide_eq_true i2, q _ H1 m1 g1 S1 (.bl b)⟩
end
/-! ### repr, {} among the parts -/
mutual
inductive DpE (H : Hp) : V → PyData → Prop
  | non : DpE H .non .none
  | bl (b : Bool) : DpE H (.bl b) (.bool b)
  | int (i : Int) : DpE H (.int i) (.int i)
  | str (x : Str) : DpE H (.str x) (.str x)
  | lst {a : Addr} {xs : List V} {ds : List PyData} : H a = some (.lst xs) → DpEs H xs ds → DpE H (.ref a) (.list ds)
  | tup {a : Addr} {xs : List V} {ds : List PyData} : H a = some (.tup xs) → DpEs H xs ds → DpE H (.ref a) (.tuple ds)
  | emp {a : Addr} : H a = some (.dK []) → DpE H (.ref a) (.dict [])
inductive DpEs (H : Hp) : List V → List PyData → Prop
  | nil : DpEs H [] []
  | cons {v : V} {vs : List V} {d : PyData} {ds : List PyData} : DpE H v d → DpEs H vs ds → DpEs H (v :: vs) (d :: ds)
end
def sysB (K : PySem.W.Frag) : Bool := (K.lookup sysModules).isSome
section
variable {X : Cx} {pins : List (Addr × Obj)} {σ : L2.St} {H : Hp} {s : Shared}
theorem no_sys (hs : sysB X.K = true) (I : Inv X pins σ H s) : H sysModules = none := by
  obtain ⟨o, e⟩ := Option.isSome_iff_exists.mp hs
  exact (I.bs _ _ (I.ok.mod.kin _ _ e)).2
mutual
theorem DpE.reads (hs : H sysModules = none) (I : Inv X pins σ H s) : ∀ (d : PyData) (v : V) (u : Value), DpE H v d → RelV v u → ∃ as, Reads s.heap u d as ∧ sysModules ∉ as
  | .none, _, _, h, r => by cases h; cases r; exact ⟨_, .none, by simp⟩
  | .bool b, _, _, h, r => by cases h; cases r; exact ⟨_, .bool b, by simp⟩
  | .int i, _, _, h, r => by
    cases h
    obtain ⟨t, rfl⟩ := r
    exact ⟨_, .int i t, by simp⟩
  | .str x, _, _, h, r => by
    cases h
    obtain ⟨t, rfl⟩ := r
    exact ⟨_, .str x t, by simp⟩
  | .list ds, _, _, h, r => by
    cases h with
    | @lst a xs _ ha hd =>
      cases r
      obtain ⟨_, its, n, rv, ho⟩ := I.hok a _ ha
      obtain ⟨as, hr, hn⟩ := DpE.readsAll hs I ds _ its hd rv
      refine ⟨a :: as, .list ho rfl rfl (by simpa using hr), fun z => ?_⟩
      rcases List.mem_cons.mp z with z | z
      · rw [← z, hs] at ha; cases ha
      · exact hn z
  | .tuple ds, _, _, h, r => by
    cases h with
    | @tup a xs _ ha hd =>
      cases r
      obtain ⟨its, rv, ⟨o, ho, hc, n, hdt⟩, _⟩ := I.tuple (SqT.of ha)
      obtain ⟨as, hr, hn⟩ := DpE.readsAll hs I ds _ its hd rv
      exact ⟨as, .tuple ho hc hdt (by simpa using hr), hn⟩
  | .dict kvs, _, _, h, r => by
    cases h with
    | @emp a ha =>
      cases r
      obtain ⟨_, _, vs, kv, o, es, ep, ho, hx, hd, _, hp, _⟩ := I.hok a _ ha
      cases kv
      have e : es.toList = [] := by
        cases e : es.toList with
        | nil => rfl
        | cons x l => rw [e] at hp; cases hp
      refine ⟨a :: [] ++ [], .dict ho hx.1 hd (by rw [e]; exact .nil) (by rw [e]; exact .nil), fun z => ?_⟩
      rcases List.mem_cons.mp z with z | z
      · rw [← z, hs] at ha; cases ha
      · cases z
theorem DpE.readsAll (hs : H sysModules = none) (I : Inv X pins σ H s) : ∀ (ds : List PyData) (vs : List V) (us : List Value), DpEs H vs ds → Vals vs us → ∃ as, ReadsAll s.heap us ds as ∧ sysModules ∉ as
  | [], _, _, h, r => by cases h; cases r; exact ⟨_, .nil, by simp⟩
  | d :: ds, _, _, h, r => by
    cases h with
    | cons h1 h2 =>
      cases r with
      | cons r1 r2 =>
        obtain ⟨as, q1, n1⟩ := DpE.reads hs I d _ _ h1 r1
        obtain ⟨bs, q2, n2⟩ := DpE.readsAll hs I ds _ _ h2 r2
        exact ⟨_, .cons q1 q2, fun z => (List.mem_append.mp z).elim n1 n2⟩
end
end
def okShown (p : PyData) : Bool := p.showable && decide (p.depth ≤ 60) && decide (p.shown.length ≤ sizeLine)
def rRepE : List V → Hp → VK → Prop := fun xs H Q => ∃ a p, xs = [.ref a] ∧ DpE H (.ref a) p ∧ okShown p = true ∧ Q (.str p.shown) H
theorem callr_repE {X : Cx} (hs : sysB X.K = true) (hu : X.A.units + 64 < cLine) (hg : X.A.guards = some []) : CallR X (.builtin "repr") rRepE := by
  intro pins s σ H xs us Q I r h
  obtain ⟨a, p, rfl, hd, ok, q⟩ := h
  cases r with
  | cons r rr =>
    cases rr
    obtain ⟨ok, k3⟩ := ba3 ok
    obtain ⟨k1, k2⟩ := ba3 ok
    have k2 := of_decide_eq_true k2
    have k3 := of_decide_eq_true k3
    obtain ⟨as, rd, hn⟩ := DpE.reads (no_sys hs I) I p _ _ hd r
    cases r
    exact repr_of_reads' rd k1 (fun _ => hn) hg (by omega) (fun _ _ e => e) (fun h' u tk k => ⟨.str _, H, I.kept k, ⟨u, rfl⟩, q⟩) k3
/-! ### data of things and {} -/
mutual
def toPyM (mu : Mem) : Da → Option PyData
  | .non => some .none
  | .bl b => some (.bool b)
  | .int i => some (.int i)
  | .str x => some (.str x)
  | .tup xs => (toPysM mu xs).map .tuple
  | .lst xs => (toPysM mu xs).map .list
  | .ref n => match mu[n]? with
    | some (.dct []) => some (.dict [])
    | _ => none
def toPysM (mu : Mem) : List Da → Option (List PyData)
  | [] => some []
  | d :: ds => (toPyM mu d).bind fun p => (toPysM mu ds).map fun ps => p :: ps
end
section
variable {G : Fr} {rho : Ev} {mu : Mem} {σ : L2.St} {H : Hp} {m : List Addr} {Own : Addr → Prop}
mutual
theorem dpE_of (S : StR G rho mu σ H m Own) : ∀ {d : Da} {v : V} {p : PyData}, RD m (G.bar Own) H d v → toPyM mu d = some p → DpE H v p
  | .non, _, _, .non, e => by cases e; exact .non
  | .bl b, _, _, .bl _, e => by cases e; exact .bl b
  | .int i, _, _, .int _, e => by cases e; exact .int i
  | .str x, _, _, .str _, e => by cases e; exact .str x
  | .tup xs, _, _, .tup h1 h2 h3 h4, e => by
    obtain ⟨ps, ep, rfl⟩ := Option.map_eq_some_iff.mp e
    exact .tup h3 (dpEs_of S h4 ep)
  | .lst xs, _, _, .lst h1 h2 h3 h4, e => by
    obtain ⟨ps, ep, rfl⟩ := Option.map_eq_some_iff.mp e
    exact .lst h3 (dpEs_of S h4 ep)
  | .ref n, _, p, .ref hn, e => by
    have e : (match mu[n]? with
      | some (.dct []) => some (PyData.dict [])
      | _ => none) = some p := e
    cases eo : mu[n]? with
    | none => rw [eo] at e; cases e
    | some o =>
      rw [eo] at e
      cases o with
      | dct kvs =>
        cases kvs with
        | nil =>
          cases e
          obtain ⟨us, h1, h2⟩ := S.num hn eo
          cases h2
          exact .emp h1
        | cons _ _ => cases e
      | _ => cases e
theorem dpEs_of (S : StR G rho mu σ H m Own) : ∀ {d : List Da} {v : List V} {p : List PyData}, RDs m (G.bar Own) H d v → toPysM mu d = some p → DpEs H v p
  | [], _, _, .nil, e => by cases e; exact .nil
  | d :: ds, _, _, .cons h t, e => by
    obtain ⟨p, ep, e⟩ := Option.bind_eq_some_iff.mp e
    obtain ⟨ps, eps, rfl⟩ := Option.map_eq_some_iff.mp e
    exact .cons (dpE_of S h ep) (dpEs_of S t eps)
end
end
/-- repr(e), a list or tuple with {} among its parts -/
def eRepE (a : EvD) : EvD := fun rho mu => bnd (a rho mu) fun x mu1 => match x with
  | .lst _ | .tup _ => (match toPyM mu1 x with
    | some p => if okShown p = true then .ok (.str p.shown) mu1 else .bad
    | none => .bad)
  | _ => .bad
theorem c_repE {X : Cx} {G : Fr} {W : WX} {a : Expr} {da : EvD} {p pos : Pos} {k : Nat} (hf : X.mg "repr" = none) (hs : sysB X.K = true) (hr : Rm k X.A) (ha : PE X a (TEx G W da)) (hg : Gl X "repr" := by rfl) (h1 : starEach [a] X.env = (false, eval a X.env) :: starEach [] X.env := by rfl) : PE X (.Call (.Name "repr" p) [a] [] pos) (TEx G W (eRepE da)) := by
  refine PEw (pe_callB (callr_repE hs hr.r.units hr.gd) hg hf (by decide +kernel) (pa_cons ha pa_nil h1) (by decide) (by decide) h1) fun σ H Q h => ?_
  obtain ⟨rho, mu, m, Own, S, h⟩ := h.un
  refine TEx.to S (wp_bnd h) fun x mu1 v H1 m1 h1 g1 S1 r1 => ?_
  have go : ∀ a, v = .ref a → (match toPyM mu1 x with
      | some p => if okShown p = true then Out.ok (Da.str p.shown) mu1 else .bad
      | none => .bad).wp (QE G rho σ Own m H Q) (ES G W rho σ Own m H) → rRepE [v] H1 Q := fun a ev h => by
    subst ev
    cases ep : toPyM mu1 x with
    | none => rw [ep] at h; exact h.elim
    | some p =>
      rw [ep] at h
      by_cases ok : okShown p = true
      · have h : (if okShown p = true then Out.ok (Da.str p.shown) mu1 else .bad).wp (QE G rho σ Own m H Q) (ES G W rho σ Own m H) := h
        rw [if_pos ok] at h
        exact ⟨a, p, rfl, dpE_of S1 r1 ep, ok, h _ H1 m1 g1 S1 (.str _)⟩
      · have h : (if okShown p = true then Out.ok (Da.str p.shown) mu1 else .bad).wp (QE G rho σ Own m H Q) (ES G W rho σ Own m H) := h
        rw [if_neg ok] at h
        exact h.elim
  cases x with
  | lst xs => cases r1 with
    | lst k1 k2 k3 k4 => exact go _ rfl h1
  | tup xs => cases r1 with
    | tup k1 k2 k3 k4 => exact go _ rfl h1
  | _ => exact h1.elim
/-! ### {} -/
theorem c_disp0 {X : Cx} {G : Fr} {W : WX} {pos : Pos} : PE X (.Dict [] [] pos) (TEx G W (eDisp [] aN)) := by
  refine PEw pe_dnewK fun σ H Q h a ha => ?_
  obtain ⟨rho, mu, m, Own, S, h⟩ := h.un
  have h : QE G rho σ Own m H Q (.ref mu.length) (mu ++ [.dct []]) := h
  obtain ⟨f1, f2⟩ := S.fresh ha
  have ns := S.noslot ha
  obtain ⟨S1, _⟩ := S.bar1 (o := .dK []) ha
  have S2 := S1.numnew (o := .dK []) (ob := .dct []) ns (S.le.dom a ha) f2 ⟨[], by rw [upd_same], .nil⟩
  have e4 : upd (upd H a (.dK [])) a (.dK []) = upd H a (.dK []) := funext fun b => by
    by_cases hb : b = a
    · rw [hb, upd_same, upd_same]
    · rw [upd_ne hb, upd_ne hb]
  rw [e4] at S2
  have hk : (m ++ [a])[mu.length]? = some a := by rw [← paired_len S.wd.ob, List.getElem?_append_right (Nat.le_refl _), Nat.sub_self]; rfl
  refine h (.ref a) _ (m ++ [a]) ⟨⟨[a], rfl, fun b z => by rw [show b = a by simpa using z]; exact ha⟩, fun b u q _ _ _ => ?_, fun b q => ?_, fun b z => z.elim⟩ S2 (.ref hk)
  · rw [upd_ne (fun z => by rw [z, ha] at q; cases q)]
    exact q
  · by_cases hb : b = a
    · rw [hb]; exact ha
    · rw [upd_ne hb] at q; exact q
end Sk

/-! Sk Zy: with, and a lambda of one parameter that is handed to a def. -/
namespace Sk
open PySem PySem.Spec PyProof.Rows L2
/-! ### with .. as y, the suite ends without an error -/
def wOut (fX : Fn) (z : Da) (o : SO) : SO := match o with
  | .nx rho mu => sUse (fX [z, .non, .non, .non] mu) rho fun _ mu2 => .nx rho mu2
  | _ => .bad
/-- .. of a frame that owns no list -/
def TSn (G : Fr) (W : WX) (b : StD) : TS := fun D σ H => ∃ rho mu m, StR G rho mu σ H m NoB ∧ SOk G W D m NoB H (b rho mu)
def sWith (c : Str) (fE fX : Fn) (i : Nat) (a : EvD) (b : StD) : StD := fun rho mu => sUse (a rho mu) rho fun z mu1 => match insAt c mu1 z with
  | some _ => sUse (fE [z] mu1) rho fun v mu2 => wOut fX z (b (rho.set i (.val v)) mu2)
  | none => .bad
section
variable {X : Cx} {G : Fr} {W : WX} {kE kX lv i : Nat} {c y : Str} {fe fx : Addr} {fdE fdX : FuncData} {psE psX : List Str} {fE fX : Fn} {a : Expr} {da : EvD} {body : List Stmt} {b : StD} {pos py : Pos} {P : L2.St → Prop}
theorem takes_no {pn : List (Addr × Obj)} {xe : Value → Shared → Prop} : Takes (X.tr pn xe) WF := fun u s' ⟨_, _, _, _, _, _, _, _, _, _, _, _, _, _, _, _, w⟩ => w.elim
theorem s_with (hK : G.K = X.K) (hN : X.N.Nodup) (hi : X.N[i]? = some y) (hE : Meth X.K (He.ga X.K c) "__enter__" fe) (hX : Meth X.K (He.ga X.K c) "__exit__" fx) (FE : FnG X.prog X.w X.K X.mg X.base kE fe fdE psE (spOf X.K fE)) (hbE : Binds X.K fdE psE []) (FX : FnG X.prog X.w X.K X.mg X.base kX fx fdX psX (spOf X.K fX)) (hbX : Binds X.K fdX psX [])
    (hr : Rm lv X.A) (tk : Takes X W) (ha : PE X a (TEx G W da)) (hP : ∀ (σ : L2.St) (v : V), P σ → P (σ.set i (some v))) (hb : ∀ (pn : List (Addr × Obj)) (xe : Value → Shared → Prop), Takes (X.tr pn xe) WF → PSs (X.tr pn xe) body (fun D σ H => P σ ∧ TSn G WF b D σ H)) (h1 : kE ≤ lv := by decide) (h2 : kX ≤ lv := by decide) (hy : X.env.scope.names.lookup y = some .local := by rfl) :
    PS X (.With [⟨a, some (.Name y py)⟩] body pos) (fun D σ H => P σ ∧ TSn G W (sWith c fE fX i da b) D σ H) := by
  refine ⟨fun pins s σ H D I h => PySem.W.kw_execN ?_⟩
  have ok := I.ok
  have hloc : Loc X.env.scope y := .inl hy
  obtain ⟨pσ, rho, mu, m, S, h⟩ := h
  refine thn (ha.run pins s σ H (fun v H1 => ∃ ad dx us z mu1 m1, v = .ref ad ∧ H1 ad = some (.ins (He.ga X.K c) dx us) ∧ StR G rho mu1 σ H1 m1 NoB ∧ RD m1 (G.bar NoB) H1 z (.ref ad) ∧ SOk G W D m1 NoB H1 (sUse (fE [z] mu1) rho fun v mu2 => wOut fX z (b (rho.set i (.val v)) mu2))) I (TEx.to S (use_wp (σ := σ) h) fun z mu1 v H1 m1 h1 g1 S1 r1 => ?_)) fun u s1 ⟨v, H1, I1, rv, ad, dx, us, z, mu1, m1, ev, ea, S1, rz, h1⟩ => ?_
  · cases ei : insAt c mu1 z with
    | none => rw [ei] at h1; exact h1.elim
    | some q =>
      obtain ⟨n, fs⟩ := q
      rw [ei] at h1
      dsimp only at h1
      obtain ⟨ad, dx, us, rfl, ez, hn1, e, p⟩ := S1.ins ei r1
      rw [hK] at e
      exact ⟨ad, dx, us, z, mu1, m1, rfl, e, S1, r1, SOk.step (g1.le (G.bar NoB)) h1⟩
  · subst ev
    obtain rfl : u = Value.ref ad := rv
    obtain ⟨mA, O, _, _, _, _⟩ := ins_get I1.hok ea
    obtain ⟨od, J, _⟩ := O.look
    refine PySem.W.kw_core (b := assign (.Name y py) X.env) I1.kIn J hE.at_ hE.fn hX.at_ hX.fn ?_
    refine thn (runG' (E := fun σ c d H' => W c d σ H') (ds := []) (dvs := []) (us := [.ref ad]) (vs := [.ref ad]) (Q := fun w2 H2 => ∃ v mu2 m2, StR G rho mu2 σ H2 m2 NoB ∧ RD m2 (G.bar NoB) H2 v w2 ∧ RD m2 (G.bar NoB) H2 z (.ref ad) ∧ SOk G W D m2 NoB H2 (wOut fX z (b (rho.set i (.val v)) mu2))) FE (hr.mono ‹kE ≤ lv›) hbE .nil (passAt tk σ) I1 (.cons rfl .nil) ?_) fun u2 s2 ⟨w2, H2, I2, rv2, v, mu2, m2, S2, rd, rz2, h2⟩ => ?_
    · rw [List.append_nil, ← hK]
      refine sp_of S1 Lf.refl (.cons rz .nil) ?_
      cases eE : fE [z] mu1 with
      | ok v mu2 => rw [eE] at h1; exact fun w2 H2 m2 g2 S2 r2 => ⟨v, mu2, m2, S2, r2, rz.mono (g2.le _), SOk.step (g2.le (G.bar NoB)) h1⟩
      | exc x mu2 => rw [eE] at h1; exact fun cc dd H' m' g S' r => h1 cc dd σ H' m' NoB (g.le _) S' r
      | bad => rw [eE] at h1; exact h1.elim
    · refine wpAny_assign_Name (store_ok I2 hN hi hloc rv2 (fun s3 I3 => ?_) (.inr hy))
      refine wpAny_mono ((hb (X.pn ++ pins) (fun _ _ => False) takes_no).run [] s3 _ H2 { nx := fun σ' H' => ∃ rho' mu3 m' Own', StR G rho' mu3 σ' H' m' Own' ∧ RD m' (G.bar Own') H' z (.ref ad) ∧ SOk G W D m' Own' H' (sUse (fX [z, .non, .non, .non] mu3) rho' fun _ mu2 => .nx rho' mu2), rt := fun _ _ => False } (I3.toTry _) ⟨hP σ w2 pσ, _, _, _, S2.setv i rd, ?_⟩) (fun fl s4 hsp => ?_) fun e s4 he => he
      · cases eb : b (rho.set i (.val v)) mu2 with
        | nx rho' mu3 =>
          rw [eb] at h2
          exact fun σ' H' m' Own' g S' => ⟨rho', mu3, m', Own', S', rz2.mono g, SOk.step g h2⟩
        | rt d mu3 => rw [eb] at h2; exact h2.elim
        | bk r mu3 => rw [eb] at h2; exact h2.elim
        | ct r mu3 => rw [eb] at h2; exact h2.elim
        | exc x r mu3 => rw [eb] at h2; exact h2.elim
        | bad => rw [eb] at h2; exact h2.elim
      · cases fl with
        | next =>
          obtain ⟨σ', H', J', rho', mu3, m', Own', S', rz3, h3⟩ := hsp
          refine thn (runG' (E := fun σ c d H' => W c d σ H') (ds := []) (dvs := []) (us := [.ref ad, .none, .none, .none]) (vs := [.ref ad, .non, .non, .non]) (Q := fun _ H5 => D.nx σ' H5) FX (hr.mono ‹kX ≤ lv›) hbX .nil (passAt tk σ') (J'.ofTry ok) (.cons rfl (.cons rfl (.cons rfl (.cons rfl .nil)))) ?_) fun u5 s5 ⟨w5, H5, I5, _, q5⟩ => ⟨σ', H5, I5, q5⟩
          rw [List.append_nil, ← hK]
          refine sp_of S' Lf.refl (.cons rz3 (.cons .non (.cons .non (.cons .non .nil)))) ?_
          cases eX : fX [z, .non, .non, .non] mu3 with
          | ok d mu4 => rw [eX] at h3; exact fun w H5 m5 g5 S5 _ => h3 σ' H5 m5 Own' (g5.le _) S5
          | exc x mu4 => rw [eX] at h3; exact fun cc dd H' m' g S' r => h3 cc dd σ' H' m' Own' (g.le _) S' r
          | bad => rw [eX] at h3; exact h3.elim
        | brk => obtain ⟨_, _, _, q⟩ := hsp; exact q.elim
        | cont => obtain ⟨_, _, _, q⟩ := hsp; exact q.elim
        | ret u => obtain ⟨_, _, _, _, _, q⟩ := hsp; exact q.elim
end
/-! ### a lambda of one parameter -/
abbrev lamCxP (X : Cx) (A : Around) (outer : List Env) (s : Shared) (H : Hp) (E : XK) (scope : Scope) (f c' : Addr) (p : Str) : Cx := { LamX.lamCx X A outer s H E scope f c' with N := X.N ++ [p] }
section
variable {X : Cx} {pins : List (Addr × Obj)} {σ : L2.St} {H HZ : Hp} {s s1 : Shared} {p : Str}
theorem lam_inP {A : Around} {outer : List Env} {E : XK} {scope : Scope} {f c' : Addr} {h1 : Heap} {tk : Nat} {mm : Str → Option Value} {u : Value} {v : V} (I : Inv X pins σ H s) (L : LamT X.N [p] X.env.scope scope) (e0 : Env0 X.prog X.w X.K X.mg X.base A outer s1 HZ) (hd : A.handled = none)
    (un : Un (frs X.stack) [] H HZ s.heap s1.heap) (hns : h1.Ns s1.heap.objs.size mm) (kp : ∀ b o, s1.heap.get? b = some o → h1.get? b = some o) (hp : mm p = some u) (r : RelV v u) :
    Inv (lamCxP X A outer s1 HZ E scope f c' p) [] (σ ++ [some v]) HZ { s1 with heap := h1, toks := tk } := by
  have J : Inv (LamX.lamCx X A outer s1 HZ E scope f c') [] σ HZ { s1 with heap := h1, toks := tk } := lam_in I L e0 hd un hns kp
  obtain ⟨m', hn', hl'⟩ := J.loc
  refine ⟨⟨J.ok.mod, J.ok.kind, J.ok.glob, J.ok.blt, J.ok.above, J.ok.inj, J.ok.has, J.ok.cab, J.ok.hd, J.ok.frames, J.ok.stk, J.ok.exf, J.ok.bs, J.ok.bsz, J.ok.noex, J.ok.exfs, J.ok.funs, J.ok.frf⟩, J.os, J.bare, J.base, ⟨mm, hns, fun i y w k1 k2 k3 => ?_⟩, J.cell, J.free, J.freeC, J.pin, J.hok, ?_⟩
  · have k1 : (X.N ++ [p])[i]? = some y := k1
    by_cases hi : i < X.N.length
    · rw [List.getElem?_append_left hi] at k1
      rw [List.getElem?_append_left (by rw [I.len]; exact hi)] at k2
      obtain ⟨w', rw', q⟩ := hl' i y w k1 k2 k3
      rcases q with ⟨k', _⟩ | q
      · exact absurd k' (L.own y (List.mem_of_getElem? k1))
      · exact ⟨w', rw', .inr q⟩
    · have hi : X.N.length ≤ i := Nat.le_of_not_lt hi
      rw [List.getElem?_append_right hi] at k1
      rw [List.getElem?_append_right (by rw [I.len]; exact hi)] at k2
      have hl : i - X.N.length < 1 := (List.getElem?_eq_some_iff.mp k1).1
      have e0 : i - X.N.length = 0 := by omega
      rw [e0] at k1
      rw [I.len, e0] at k2
      cases k1
      cases k2
      exact ⟨u, r, .inl ⟨L.bind p (List.mem_singleton.mpr rfl), hp⟩⟩
  · show (σ ++ [some v]).length = (X.N ++ [p]).length
    rw [List.length_append, List.length_append, I.len]
    rfl
/-- a(b), in the def that got the lambda: that def was entered at s -/
theorem act1_ok {CXg : CXT} {Eg : XK} {Ng : List Str} {qg q : Str} {sg : Scope} {g f c' : Addr} {cdg doc pm ctv : Value} {params : Arguments} {body : Expr} {scope : Scope} {k i j : Nat} {a b : Str} {pn : List (Addr × Obj)} {xe : Value → Shared → Prop} {W : WX} {tb : XK → TE} {p1 p2 p3 : Pos}
    (I : Inv X pins σ H s) (L : LamT X.N [p] X.env.scope scope) (hf : s.heap.get? f = some (lamO q params body scope (cloFrom X.env.cells scope.names []) .none doc pm c' ctv)) (hfn : H f = none) (hfr : f ∉ frs X.stack) (hq : q = X.env.qual ++ "<lambda>")
    (hbind : ∀ u : Value, bindArgs (lamFd q params body scope (cloFrom X.env.cells scope.names []) .none doc pm c' ctv) ⟨[u], []⟩ = pure [(p, u)])
    (tk : Takes ((cxOf CXg X.prog X.w X.K X.mg X.base Ng qg sg g cdg X.A X.stack s H Eg).tr pn xe) W) (hr : Rm (k + 1) (X.A.deeper (envOfC qg sg s.heap.objs.size g cdg)))
    (hbody : ∀ (A : Around) (outer : List Env) (s : Shared) (H : Hp) (E : XK), Rm k (A.deeper (LamX.lamEnv X scope s.heap.objs.size f c')) → PE (lamCxP X A outer s H E scope f c' p) body (tb E))
    (hN : Ng[i]? = some a) (hv : Vis sg a) (hNb : Ng[j]? = some b) (hvb : Vis sg b) (hd : (a == ("__debug__" : Str)) = false := by decide) (hcd : (a == ("__classdict__" : Str)) = false := by decide) (hdb : (b == ("__debug__" : Str)) = false := by decide) (hcb : (b == ("__classdict__" : Str)) = false := by decide) :
    PE ((cxOf CXg X.prog X.w X.K X.mg X.base Ng qg sg g cdg X.A X.stack s H Eg).tr pn xe) (.Call (.Name a p1) [.Name b p3] [] p2) (fun σZ HZ Q => σZ[i]? = some (some (.ref f)) ∧ HZ c' = some (LamX.CodeO c' q) ∧ ∃ v, σZ[j]? = some (some v) ∧ tb (fun c d H' => W c d σZ H') (σ ++ [some v]) HZ Q) := by
  subst hq
  refine ⟨fun pinsZ sZ σZ HZ Q IZ ⟨hs, hc, v, hv1, ht⟩ => ?_⟩
  refine wpAny_Call_Name_kw (thn ((pe_var (pos := p1) (i := i) hN hv hd hcd).run pinsZ sZ σZ HZ (fun v H1 => v = .ref f ∧ H1 = HZ) IZ ⟨.ref f, hs, rfl, rfl⟩) fun u0 s1 ⟨v0, H1, I1, r1, ev, eH⟩ => ?_)
  subst ev eH
  obtain rfl : u0 = Value.ref f := r1
  have kept : ∀ {s2 : Shared} {H2 : Hp}, Inv ((cxOf CXg X.prog X.w X.K X.mg X.base Ng qg sg g cdg X.A X.stack s H Eg).tr pn xe) pinsZ σZ H2 s2 → s2.heap.get? f = some (lamO (X.env.qual ++ "<lambda>") params body scope (cloFrom X.env.cells scope.names []) .none doc pm c' ctv) := fun {s2 H2} I2 => (show Un (frs X.stack) [] H H2 s.heap s2.heap from I2.base).keep f _ hf hfn hfr (fun z => nomatch z)
  refine PySem.W.callWith_F ⟨_, _, _, _, kept I1⟩ (Calls.spliced_cons (thn ((pe_var (pos := p3) (i := j) hNb hvb hdb hcb).run pinsZ s1 σZ H1 (fun w H2 => w = v ∧ H2 = H1) I1 ⟨v, hv1, rfl, rfl⟩) fun u s2 ⟨w, H2, I2, r2, ew, eH2⟩ => Calls.spliced_nil ⟨⟨_, _, _, _, kept I2⟩, ?_⟩)) rfl rfl
  subst ew eH2
  have un : Un (frs X.stack) [] H H2 s.heap s2.heap := I2.base
  have of2 := kept I2
  obtain ⟨⟨oc, us, t, hoc, hdc, hvc⟩, _, _⟩ := I2.hok c' _ hc
  have rc : codeAny (model X.prog X.w) (X.A.deeper (envOfC qg sg s.heap.objs.size g cdg)) (.call (.ref f) ⟨[u], []⟩) (CR (L2.CX X.prog X.w) (envOfC qg sg s.heap.objs.size g cdg :: X.stack) X.prog X.w H2 s2 Q (fun c d H' => W c d σZ H')) s2 := by
    refine PySem.W.kla_callFunE hr.r.depth of2 rfl L.co L.gen rfl ⟨c', oc, us, t, rfl, hoc, hdc, hvc⟩ (BindsTo.of_eq (hbind u) _ _ _ _ ?_)
    refine wpAny_newFunctionEnv L.cell (fun y hy => L.bind _ (by rw [List.mem_singleton.mp hy]; exact List.mem_singleton.mpr rfl)) (fun h2 hns hsb => ⟨I2.nolimit.fresh _ hsb, ?_⟩) L.kind
    have kp : ∀ b o, s2.heap.get? b = some o → h2.get? b = some o := fun b o e => hsb.extBut b o (Nat.ne_of_lt (Heap.lt_size e)) (Heap.get?_push_of_some _ e)
    have J := lam_inP (E := fun c d H' => W c d σZ H') (f := f) (c' := c') (tk := s2.toks + [(p, u)].length) I L I2.env0 hr.r.hd un hns kp (by show List.lookup p [(p, u)] = some u; simp) r2
    refine PySem.W.kla_codeExpr (wpAny_mono ((hbody _ _ s2 H2 _ (hr.deeper _)).run [] _ _ H2 Q J ht) (fun v s' hq => ?_) fun e s' hq => hq)
    obtain ⟨w', H', J', rv, q⟩ := hq
    exact ⟨w', H', J'.os, J'.bare, J'.base, J'.hok, rv, q⟩
  refine wpAny_call (codeAny_mono rc fun r s' hq => ?_)
  cases r with
  | error e => exact passAt tk σZ pinsZ H2 s2 e s' I2 hq
  | ok fl => cases fl with
    | ret u => exact I2.after hq
    | next => exact hq.elim
    | brk => exact hq.elim
    | cont => exact hq.elim
end
/-! ### a def of a manager and a lambda -/
abbrev Thk1 := Da → Thk
abbrev FnW := Thk1 → Da → Thk
def ThR1 (K : PySem.W.Frag) (m0 : List Addr) (B : Addr → Prop) (H0 : Hp) (th : Thk1) (v : V) (E : XK) (H : Hp) (Q : VK) : Prop := ∃ m mu z, Lf m0 H0 m H ∧ Wd K m B H mu ∧ RD m B H z v ∧
  (th z mu).wp (fun z mu' => ∀ v H' m', Lf m H m' H' → Wd K m' B H' mu' → RD m' B H' z v → Q v H') (fun x mu' => ∀ c dd H' m', Lf m H m' H' → Wd K m' B H' mu' → ExR K m' B H' x c dd → E c dd H')
def Act1 (Z : Cx) (a b : Str) (i j : Nat) (f : Addr) (T : V → XK → Hp → VK → Prop) : Prop := ∀ (pn : List (Addr × Obj)) (xe : Value → Shared → Prop) (W : WX) (p1 p2 p3 : Pos), Takes (Z.tr pn xe) W →
  PE (Z.tr pn xe) (.Call (.Name a p1) [.Name b p3] [] p2) (fun σZ HZ Q => σZ[i]? = some (some (.ref f)) ∧ ∃ v, σZ[j]? = some (some v) ∧ T v (fun c d H' => W c d σZ H') HZ Q)
abbrev BindA (x : Str) (params : Arguments) (body : List Stmt) (scope : Scope) (args : Args) (r : List (Str × Value)) : Prop := ∀ (kV doc pm : Value) (an : Option Addr) (cdv ct : Value), bindArgs (PySem.W.fnOf x x params body scope .none kV doc pm an cdv ct) args = pure r
structure FnU (P : Program) (w : World) (K : PySem.W.Frag) (mg : Str → Option Value) (base : Heap) (k : Nat) (g : Addr) (x a0 a1 b : Str) (N : List Str) (params : Arguments) (body : List Stmt) (scope : Scope) (und : FnW) : Prop where
  run : ∀ (A : Around) (out : List Env) (s : Shared) (H : Hp) (f : Addr) (args : Args) (uM : Value) (vM : V) (zM : Da) (th : Thk1) (m : List Addr) (B : Addr → Prop) (mu : Mem) (Q : VK) (E : XK), Rm k A → Env0 P w K mg base A out s H → RelV vM uM → BindA x params body scope args [(a0, uM), (a1, .ref f)] →
    (∀ (cdv : Value) (Eg : XK), Act1 (cxOf (CXx P w) P w K mg base N x scope g cdv A out s H Eg) a1 b 1 3 f (ThR1 K m B H th)) → Wd K m B H mu → RD m B H zM vM →
    (und th zM mu).wp (fun z mu' => ∀ v H' m', Lf m H m' H' → Wd K m' B H' mu' → RD m' B H' z v → Q v H') (fun x mu' => ∀ c dd H' m', Lf m H m' H' → Wd K m' B H' mu' → ExR K m' B H' x c dd → E c dd H') →
    codeAny (model P w) A (.call (.ref g) args) (CR (CXx P w) out P w H s Q E) s
  n1 : N[1]? = some a1
  s1 : Vis scope a1
  n3 : N[3]? = some b
  s3 : Vis scope b
section
variable {P : Program} {w : World} {K : PySem.W.Frag} {mg : Str → Option Value} {base : Heap} {k : Nat} {g : Addr} {x a0 a1 b : Str} {N : List Str} {params : Arguments} {body : List Stmt} {scope : Scope} {fd : FuncData} {und : FnW}
theorem FnU.of (F : FunD K x x params body scope [] [] g fd) (S : FnScope N [a0, a1] scope) (hN1 : N[1]? = some a1) (hv1 : Vis scope a1) (hN3 : N[3]? = some b) (hv3 : Vis scope b)
    (hb : ∀ (cdv : Value) (A : Around) (out : List Env) (s : Shared) (H : Hp) (E : XK) (f : Addr) (vM : V) (zM : Da) (th : Thk1) (m : List Addr) (B : Addr → Prop) (mu : Mem) (Q : VK), Rm k (A.deeper (envOfC x scope s.heap.objs.size g cdv)) →
      Act1 (cxOf (CXx P w) P w K mg base N x scope g cdv A out s H E) a1 b 1 3 f (ThR1 K m B H th) → Wd K m B H mu → RD m B H zM vM →
      (und th zM mu).wp (fun z mu' => ∀ v H' m', Lf m H m' H' → Wd K m' B H' mu' → RD m' B H' z v → Q v H') (fun x mu' => ∀ c dd H' m', Lf m H m' H' → Wd K m' B H' mu' → ExR K m' B H' x c dd → E c dd H') →
      ∃ t, PSs (cxOf (CXx P w) P w K mg base N x scope g cdv A out s H E) body t ∧ t { nx := fun _ H' => Q .non H', rt := Q } (L2.start N [vM, .ref f]) H) : FnU P w K mg base (k + 1) g x a0 a1 b N params body scope und := by
  refine ⟨fun A out s H f args uM vM zM th m B mu Q E hr e0 rM hba act wd rz hw => ?_, hN1, hv1, hN3, hv3⟩
  obtain ⟨oc, od, dV, kV, doc, pm, an, cdv, ct, osl, rfl, lk, hcd, hD, _⟩ := F.ex
  have edV : dV = .none := hD.elim (fun z => z.2) fun z => absurd rfl z.1
  subst edV
  have low : ∀ b o, base.get? b = some o → s.heap.get? b = some o := fun b o e => (e0.bs b o e).1
  have inK : K.In s.heap := e0.mod.kin.keeps low
  have kinds : ∀ y ∈ [a0, a1].zip [uM, Value.ref f], scope.names.lookup y.1 = some .local ∨ (scope.names.lookup y.1 = some .cell ∧ ((cellsFrom (s.heap.objs.size + 1) scope.names []).lookup y.1).isSome = true) := by
    rintro ⟨nm, val⟩ hy
    exact (S.par nm (List.of_mem_zip hy).1).elim .inl fun q => .inr ⟨q, PySem.W.cellsFrom_some _ _ _ (.inl q)⟩
  refine codeAny_call_function hr.r.depth (inK _ _ lk) rfl S.co S.gen rfl (PySem.W.codeRec_of inK hcd) (BindsTo.of_eq (hba kV doc pm an cdv ct) _ _ _ _ ?_)
  refine wpAny_newFunctionEnv_cells S.kind kinds fun env he s1 inC => ?_
  subst he
  refine ⟨(e0.mod.nolimit.keeps low).keeps inC.toInCall.keep, codeAny_func ?_⟩
  have I := inv_start (CX := CXx P w) (E := E) (cd := cdv) (vs := [vM, .ref f]) (us := [uM, .ref f]) S hr.r.hd e0 rfl (.cons rM (.cons rfl .nil)) inC
  obtain ⟨t, ht, hq⟩ := hb cdv A out s H E f vM zM th m B mu Q (hr.deeper _) (act cdv E) wd rz hw
  refine wpAny_mono (ht.run [] s1 _ H { nx := fun _ H' => Q .non H', rt := Q } I hq) (fun fl s' hs => ?_) fun _ _ hs => hs
  cases fl with
  | ret u => exact hs.elim fun v h => h.elim fun σ' h => h.elim fun H' h => ⟨v, H', h.1.os, h.1.bare, h.1.base, h.1.hok, h.2.1, h.2.2⟩
  | next => exact hs.elim fun σ' h => h.elim fun H' h => ⟨V.non, H', h.1.os, h.1.bare, h.1.base, h.1.hok, rfl, h.2⟩
  | brk => exact hs.elim fun _ h => h.elim fun _ h => h.2.elim
  | cont => exact hs.elim fun _ h => h.elim fun _ h => h.2.elim
end
/-! ### the call -/
theorem paired_snoc {α β : Type} {F : α → β → Prop} {a : α} {b : β} (h : F a b) : ∀ {l : List α} {k : List β}, Paired F l k → Paired F (l ++ [a]) (k ++ [b])
  | _, _, .nil => .cons h .nil
  | _, _, .cons x t => .cons x (paired_snoc h t)
section
variable {G : Fr} {rho : Ev} {mu : Mem} {σ : L2.St} {H : Hp} {m : List Addr} {Own : Addr → Prop}
theorem StR.snoc (S : StR G rho mu σ H m Own) {d : Da} {v : V} (r : RD m (G.bar Own) H d v) : StR G (rho ++ [.val d]) mu (σ ++ [some v]) H m Own := by
  have el : rho.length = σ.length := paired_len S.sl
  have own : ∀ (i : Nat) (xs : List Da), (rho ++ [Sl.val d])[i]? = some (.own xs) → i < rho.length := fun i xs e => by
    by_cases h : i < rho.length
    · exact h
    · rw [List.getElem?_append_right (Nat.le_of_not_lt h)] at e
      have hl : i - rho.length < 1 := (List.getElem?_eq_some_iff.mp e).1
      rw [show i - rho.length = 0 by omega] at e
      cases e
  refine ⟨S.le, S.wd, paired_snoc ⟨v, rfl, r⟩ S.sl, S.ow, fun i j a xs ys hij h1 h2 h3 => ?_⟩
  have li := own i xs h1
  have lj := own j ys h2
  rw [List.getElem?_append_left li] at h1
  rw [List.getElem?_append_left lj] at h2
  rw [List.getElem?_append_left (el ▸ li)] at h3
  rw [List.getElem?_append_left (el ▸ lj)]
  exact S.dj i j a xs ys hij h1 h2 h3
end
/-- under(a, lambda x: e) -/
def eUnd (und : FnW) (e a : EvD) : EvD := fun rho mu => bnd (a rho mu) fun z mu1 => und (fun d mu' => e (rho ++ [.val d]) mu') z mu1
abbrev LamP (params : Arguments) (body : Expr) (scope : Scope) (p : Str) : Prop := ∀ (q : Str) (cl : List (Str × Addr)) (doc pm ctv : Value) (c' : Addr) (u : Value), bindArgs (lamFd q params body scope cl .none doc pm c' ctv) ⟨[u], []⟩ = pure [(p, u)]
section
variable {X : Cx} {G : Fr} {W : WX} {kS kb lv : Nat} {x a0 a1 b mk p : Str} {N : List Str} {prs params : Arguments} {bd : List Stmt} {sg scope : Scope} {und : FnW} {body ea : Expr} {e da : EvD} {pos p1 lpos : Pos}
theorem und_core {pins : List (Addr × Obj)} {σ : L2.St} {H H0 : Hp} {s : Shared} {rho : Ev} {mu : Mem} {m m0 : List Addr} {Own : Addr → Prop} {f c' : Addr} {doc pm ctv uM : Value} {vM : V} {zM : Da} {args : Args} {Q : VK}
    (F : FnU X.prog X.w X.K X.mg X.base kS (He.ga X.K x) x a0 a1 b N prs bd sg und) (hK : G.K = X.K) (hr : Rm lv X.A) (tk : Takes X W) (L : LamT X.N [p] X.env.scope scope) (hbl : LamP params body scope p) (hba : BindA x prs bd sg args [(a0, uM), (a1, .ref f)])
    (hbody : ∀ (A : Around) (outer : List Env) (s : Shared) (H : Hp) (E : XK) (f c' : Addr), Rm kb (A.deeper (LamX.lamEnv X scope s.heap.objs.size f c')) → Takes (lamCxP X A outer s H E scope f c' p) (fun c d _ H' => E c d H') → PE (lamCxP X A outer s H E scope f c' p) body (TEx G (fun c d _ H' => E c d H') e))
    (hk1 : kS ≤ lv) (hk2 : kb + 2 ≤ lv) (hda : (a1 == ("__debug__" : Str)) = false) (hca : (a1 == ("__classdict__" : Str)) = false) (hdb : (b == ("__debug__" : Str)) = false) (hcb : (b == ("__classdict__" : Str)) = false)
    (I : Inv X pins σ H s) (S : StR G rho mu σ H m Own) (g : Lf m0 H0 m H) (hf : s.heap.get? f = some (lamO (X.env.qual ++ "<lambda>") params body scope (cloFrom X.env.cells scope.names []) .none doc pm c' ctv)) (hfn : H f = none) (hfr : f ∉ frs X.stack) (hc : H c' = some (LamX.CodeO c' (X.env.qual ++ "<lambda>"))) (hcm : c' ∉ m) (hcb' : ¬ G.bar Own c')
    (rM : RelV vM uM) (rz : RD m (G.bar Own) H zM vM) (hw : (und (fun d mu' => e (rho ++ [.val d]) mu') zM mu).wp (QE G rho σ Own m0 H0 Q) (ES G W rho σ Own m0 H0)) :
    codeAny (model X.prog X.w) X.A (.call (.ref (He.ga X.K x)) args) (fun res s' => match res with
      | .ok (.ret u) => EP X pins σ Q u s'
      | .ok _ => False
      | .error e => X.xe e s') s := by
  have act : ∀ (cdv : Value) (Eg : XK), Act1 (cxOf (CXx X.prog X.w) X.prog X.w X.K X.mg X.base N x sg (He.ga X.K x) cdv X.A X.stack s H Eg) a1 b 1 3 f (ThR1 X.K m (G.bar Own) H fun d mu' => e (rho ++ [.val d]) mu') := fun cdv Eg pn xe W2 p1 p2 p3 tk2 => by
    refine PEw (act1_ok (p := p) (k := kb) (i := 1) (j := 3) (tb := fun E => TEx G (fun c d _ H' => E c d H') e) I L hf hfn hfr rfl (fun u => hbl _ _ _ _ _ _ u) tk2 ((hr.mono hk2).deeper _) (fun A outer s H E hr2 => hbody A outer s H E f c' hr2 (takes_of rfl rfl rfl rfl)) F.n1 F.s1 F.n3 F.s3 hda hca hdb hcb) fun σZ HZ Q' ⟨h1, v, hv, m2, mu2, z2, l2, w2, rz2, h2⟩ => ⟨h1, l2.keep _ _ hc (fun ps => LamX.codeO_ne ps) hcm id, v, hv, ?_⟩
    have S2 : StR G rho mu2 σ HZ m2 Own := S.call l2 (hK ▸ w2)
    have S3 := S2.snoc rz2
    refine TEx.to (A := fun z mu' => ∀ v H' m', Lf m2 HZ m' H' → Wd X.K m' (G.bar Own) H' mu' → RD m' (G.bar Own) H' z v → Q' v H') S3 ?_ fun z mu3 v H3 m3 k1 g3 S3 r3 => k1 v H3 m3 g3 (hK ▸ S3.wd) r3
    have h2 : (e (rho ++ [.val z2]) mu2).wp _ _ := h2
    cases eo : e (rho ++ [.val z2]) mu2 with
    | ok z mu3 => rw [eo] at h2; exact h2
    | exc y mu3 => rw [eo] at h2; exact fun cc dd H' m' g' S' xr => h2 cc dd H' m' g' (hK ▸ S'.wd) (hK ▸ xr)
    | bad => rw [eo] at h2; exact h2
  refine codeAny_mono (F.run X.A X.stack s H f args uM vM zM (fun d mu' => e (rho ++ [.val d]) mu') m (G.bar Own) mu Q (fun c d H' => W c d σ H') (hr.mono hk1) I.env0 rM hba act (hK ▸ S.wd) rz ?_) fun r s2 hq => ?_
  · cases eo : und (fun d mu' => e (rho ++ [.val d]) mu') zM mu with
    | ok z mu3 => rw [eo] at hw; exact fun v H' m' g' w' r' => hw v H' m' (g.trans g') (S.call g' (hK ▸ w')) r'
    | exc y mu3 => rw [eo] at hw; exact fun cc dd H' m' g' w' xr => hw cc dd H' m' (g.trans g') (S.call g' (hK ▸ w')) (hK ▸ xr)
    | bad => rw [eo] at hw; exact hw
  · cases r with
    | error er => exact passAt tk σ pins H s er s2 I hq
    | ok fl => cases fl with
      | ret u => exact I.after hq
      | next => exact hq.elim
      | brk => exact hq.elim
      | cont => exact hq.elim
/-- where the code object of a lambda just made lies -/
theorem StR.codeAt {rho : Ev} {mu : Mem} {σ : L2.St} {H H1 : Hp} {m : List Addr} {Own : Addr → Prop} {c P c' : Addr} (S : StR G rho mu σ H m Own) (S1 : StR G rho mu σ H1 m Own) (hmk : mk ∈ mkrs) (et : PySem.W.tabIn G.K mk = some (c, P)) (g : Grow H P c' (lamQ mk) H1) : c' ∉ m ∧ ¬ G.bar Own c' := by
  obtain ⟨_, _, ps, u1, u2, u3⟩ := S1.wd.tb mk hmk c P et
  obtain ⟨qs, k1, ⟨k2, pos2, k3⟩ | ⟨k2, more, k3, k4, k5⟩⟩ := g
  · subst k2
    rw [k1] at u1
    cases u1
    obtain ⟨c2, z1, z2, z3, z4⟩ := u3 pos2 _ k3
    cases z1
    exact ⟨z2, z3⟩
  · exact S.fresh k2
theorem c_und (F : FnU X.prog X.w X.K X.mg X.base kS (He.ga X.K x) x a0 a1 b N prs bd sg und) (hmg : X.mg x = some (.ref (He.ga X.K x))) (hkp : PySem.W.keepIn X.K (.ref (He.ga X.K x)) = true) (hK : G.K = X.K) (TB : TbOk X.K X.mg X.base) (htab : (PySem.W.tabIn X.K mk).isSome = true) (hcd : CdOf X.K (He.ga X.K mk) X.env.code) (hr : Rm lv X.A) (tk : Takes X W)
    (L : LamT X.N [p] X.env.scope scope) (hdef : defaultsOf params X.env = ([], [])) (hbl : LamP params body scope p) (hba : ∀ u1 u2 : Value, BindA x prs bd sg ⟨[u1, u2], []⟩ [(a0, u1), (a1, u2)]) (ha : PE X ea (TEx G W da))
    (hbody : ∀ (A : Around) (outer : List Env) (s : Shared) (H : Hp) (E : XK) (f c' : Addr), Rm kb (A.deeper (LamX.lamEnv X scope s.heap.objs.size f c')) → Takes (lamCxP X A outer s H E scope f c' p) (fun c d _ H' => E c d H') → PE (lamCxP X A outer s H E scope f c' p) body (TEx G (fun c d _ H' => E c d H') e))
    (hmk : mk ∈ mkrs := by decide) (hq : X.env.qual ++ "<lambda>" = lamQ mk := by rfl) (hk1 : kS ≤ lv := by decide) (hk2 : kb + 2 ≤ lv := by decide) (hg : Gl X x := by rfl) (hdx : (x == ("__debug__" : Str)) = false := by decide) (hda : (a1 == ("__debug__" : Str)) = false := by decide) (hca : (a1 == ("__classdict__" : Str)) = false := by decide) (hdb : (b == ("__debug__" : Str)) = false := by decide) (hcb : (b == ("__classdict__" : Str)) = false := by decide)
    (hst : starEach [ea, .Lambda params body scope lpos] X.env = (false, eval ea X.env) :: starEach [.Lambda params body scope lpos] X.env := by rfl) (hst2 : starEach [.Lambda params body scope lpos] X.env = [(false, eval (.Lambda params body scope lpos) X.env)] := by rfl) (hpl : (backTo pos (starEach [.Lambda params body scope lpos] X.env)).any (·.1) = false := by rfl) :
    PE X (.Call (.Name x p1) [ea, .Lambda params body scope lpos] [] pos) (TEx G W (eUnd und e da)) := by
  refine ⟨fun pins s σ H Q I h => ?_⟩
  obtain ⟨rho, mu, m, Own, S, h⟩ := h.un
  obtain ⟨⟨c, P⟩, et⟩ := Option.isSome_iff_exists.mp htab
  have hcode := tab_code et hcd
  have etG : PySem.W.tabIn G.K mk = some (c, P) := by rw [hK]; exact et
  obtain ⟨td, tb⟩ := TB
  refine wpAny_Call_Name_kw (ld_glob I hg hmg ?_ hdx)
  refine PySem.W.callWith_K (h₀ := X.base) I.ok.mod.kin hkp ?_ hst hpl
  rw [hst, hst2]
  show wpAny _ _ (spliced [(false, eval ea X.env), (false, eval (.Lambda params body scope lpos) X.env)]) _ _ s
  refine Calls.spliced_cons (thn (ha.run pins s σ H (fun vM H1 => ∃ zM mu1 m1, Lf m H m1 H1 ∧ StR G rho mu1 σ H1 m1 Own ∧ RD m1 (G.bar Own) H1 zM vM ∧ (und (fun d mu' => e (rho ++ [.val d]) mu') zM mu1).wp (QE G rho σ Own m H Q) (ES G W rho σ Own m H)) I (TEx.to S (wp_bnd h) fun z mu1 v H1 m1 h1 g1 S1 r1 => ⟨z, mu1, m1, g1, S1, r1, h1⟩)) fun uM s1 ⟨vM, H1, I1, rM, zM, mu1, m1, g1, S1, rz, h1⟩ => ?_)
  have tab := S1.tabAt hmk etG
  rw [← hq] at tab
  refine Calls.spliced_cons (lam_mk (dn := none) I1 (tb mk hmk c P et) hcode tab (L.has I1.ok) (.inl ⟨rfl, hdef⟩) fun f c' ctv doc pm dV ds H2 s2 I2 g hl hd hf hfn hfr hco => Calls.spliced_nil ⟨I2.kIn, ?_⟩)
  have e0 : ds = [] := List.length_eq_zero_iff.mp hl
  subst e0
  have ed : dV = .none := hd
  subst ed
  rw [hq] at g
  obtain ⟨S2, l2⟩ := S1.grow (hK ▸ td) hmk etG g
  obtain ⟨n1, n2⟩ := S1.codeAt S2 hmk etG g
  refine wpAny_call (codeAny_mono (und_core F hK hr tk L hbl (hba uM (.ref f)) hbody hk1 hk2 hda hca hdb hcb I2 S2 (g1.trans l2) hf hfn hfr hco n1 n2 rM (rz.mono (l2.le _)) h1) fun r s3 hq => ?_)
  cases r with
  | error er => exact hq
  | ok fl => cases fl with
    | ret u => exact hq
    | next => exact hq.elim
    | brk => exact hq.elim
    | cont => exact hq.elim
/-- under(a1 = lambda x: e, a0 = a) -/
theorem c_undK {ka kb2 : Pos} (F : FnU X.prog X.w X.K X.mg X.base kS (He.ga X.K x) x a0 a1 b N prs bd sg und) (hmg : X.mg x = some (.ref (He.ga X.K x))) (hkp : PySem.W.keepIn X.K (.ref (He.ga X.K x)) = true) (hK : G.K = X.K) (TB : TbOk X.K X.mg X.base) (htab : (PySem.W.tabIn X.K mk).isSome = true) (hcd : CdOf X.K (He.ga X.K mk) X.env.code) (hr : Rm lv X.A) (tk : Takes X W)
    (hs : X.stack = X.env :: X.outer) (hfrm : X.env.frame = some X.env.locals) (L : LamT X.N [p] X.env.scope scope) (hdef : defaultsOf params X.env = ([], [])) (hbl : LamP params body scope p) (hba : ∀ u1 u2 : Value, BindA x prs bd sg ⟨[], [(a1, u2), (a0, u1)]⟩ [(a0, u1), (a1, u2)]) (ha : PE X ea (TEx G W da))
    (hbody : ∀ (A : Around) (outer : List Env) (s : Shared) (H : Hp) (E : XK) (f c' : Addr), Rm kb (A.deeper (LamX.lamEnv X scope s.heap.objs.size f c')) → Takes (lamCxP X A outer s H E scope f c' p) (fun c d _ H' => E c d H') → PE (lamCxP X A outer s H E scope f c' p) body (TEx G (fun c d _ H' => E c d H') e))
    (hmk : mk ∈ mkrs := by decide) (hq : X.env.qual ++ "<lambda>" = lamQ mk := by rfl) (hk1 : kS ≤ lv := by decide) (hk2 : kb + 2 ≤ lv := by decide) (hg : Gl X x := by rfl) (hdx : (x == ("__debug__" : Str)) = false := by decide) (hda : (a1 == ("__debug__" : Str)) = false := by decide) (hca : (a1 == ("__classdict__" : Str)) = false := by decide) (hdb : (b == ("__debug__" : Str)) = false := by decide) (hcb : (b == ("__classdict__" : Str)) = false := by decide)
    (hall : (backToKw pos (keywordEach [⟨some a1, .Lambda params body scope lpos, ka⟩, ⟨some a0, ea, kb2⟩] X.env)).all (·.1.isSome) = true := by rfl) (hks : (backToKw pos (keywordEach [⟨some a1, .Lambda params body scope lpos, ka⟩, ⟨some a0, ea, kb2⟩] X.env)).filterMap (·.1) = [a1, a0] := by rfl) (hpl : ((backTo pos (starEach [] X.env)).any (·.1) || (backToKw pos (keywordEach [⟨some a1, .Lambda params body scope lpos, ka⟩, ⟨some a0, ea, kb2⟩] X.env)).any (·.1.isNone)) = false := by rfl) :
    PE X (.Call (.Name x p1) [] [⟨some a1, .Lambda params body scope lpos, ka⟩, ⟨some a0, ea, kb2⟩] pos) (TEx G W (eUnd und e da)) := by
  refine ⟨fun pins s σ H Q I h => ?_⟩
  obtain ⟨rho, mu, m, Own, S, h⟩ := h.un
  obtain ⟨⟨c, P⟩, et⟩ := Option.isSome_iff_exists.mp htab
  have hcode := tab_code et hcd
  have etG : PySem.W.tabIn G.K mk = some (c, P) := by rw [hK]; exact et
  obtain ⟨td, tb⟩ := TB
  have tab := S.tabAt hmk etG
  rw [← hq] at tab
  refine wpAny_Call_Name_kw (ld_glob I hg hmg ?_ hdx)
  refine PySem.W.callWith_KW0 (h₀ := X.base) I.ok.mod.kin hkp hall ?_ hpl
  rw [hks]
  show wpAny _ _ (evalAll [(do let v ← eval (.Lambda params body scope lpos) X.env; standAt pos; pure v), (do let v ← eval ea X.env; standAt pos; pure v)]) _ _ s
  refine wpAny_evalAll_cons (wpAny_bind (lam_mk (dn := none) I (tb mk hmk c P et) hcode tab (L.has I.ok) (.inl ⟨rfl, hdef⟩) fun f c' ctv doc pm dV ds H1 s1 I1 g hl hd hf hfn hfr hco => wpAny_bind (wpAny_standAt (wpAny_pure ?_))))
  have e0 : ds = [] := List.length_eq_zero_iff.mp hl
  subst e0
  have ed : dV = .none := hd
  subst ed
  rw [hq] at g
  obtain ⟨S1, l1⟩ := S.grow (hK ▸ td) hmk etG g
  obtain ⟨n1, n2⟩ := S.codeAt S1 hmk etG g
  have nfr : f ∉ frs (X.env :: X.outer) := by rw [← hs]; exact hfr
  have nL : f ≠ X.env.locals := fun z => nfr (List.mem_filterMap.mpr ⟨X.env, List.mem_cons_self, by rw [hfrm, z]⟩)
  have nF : f ∉ X.fs := fun hm => by
    obtain ⟨e, he, q⟩ := List.mem_filterMap.mp hm
    exact nfr (List.mem_filterMap.mpr ⟨e, List.mem_cons_of_mem _ he, q⟩)
  have I1p : Inv X ((f, lamO (X.env.qual ++ "<lambda>") params body scope (cloFrom X.env.cells scope.names []) .none doc pm c' ctv) :: pins) σ H1 s1 := ⟨I1.ok, I1.os, I1.bare, I1.base, I1.loc, I1.cell, I1.free, I1.freeC, fun q hq => by
    rcases List.mem_append.mp hq with z | z
    · exact I1.pin q (List.mem_append_left _ z)
    · rcases List.mem_cons.mp z with z | z
      · subst z
        exact ⟨hf, hfn, nL, nF, fun _ z => nomatch z⟩
      · exact I1.pin q (List.mem_append_right _ z), I1.hok, I1.len⟩
  refine wpAny_evalAll_cons (wpAny_bind (thn (ha.run _ s1 σ H1 (fun vM H2 => ∃ zM mu1 m1, Lf m H1 m1 H2 ∧ StR G rho mu1 σ H2 m1 Own ∧ RD m1 (G.bar Own) H2 zM vM ∧ (und (fun d mu' => e (rho ++ [.val d]) mu') zM mu1).wp (QE G rho σ Own m H Q) (ES G W rho σ Own m H)) I1p (TEx.to S1 (wp_step l1 (wp_bnd h)) fun z mu1 v H2 m1 h1 g1 S2 r1 => ⟨z, mu1, m1, g1, S2, r1, h1⟩)) fun uM s2 ⟨vM, H2, I2p, rM, zM, mu1, m1, g2, S2, rz, h1⟩ => wpAny_bind (wpAny_standAt (wpAny_pure (wpAny_evalAll_nil ⟨?_, ?_⟩)))))
  · exact I2p.kIn
  · have I2 : Inv X pins σ H2 s2 := ⟨I2p.ok, I2p.os, I2p.bare, I2p.base, I2p.loc, I2p.cell, I2p.free, I2p.freeC, fun q hq => I2p.pin q ((List.mem_append.mp hq).elim (List.mem_append_left _) fun z => List.mem_append_right _ (List.mem_cons_of_mem _ z)), I2p.hok, I2p.len⟩
    obtain ⟨q1, q2, _, _, _⟩ := I2p.pin (f, lamO (X.env.qual ++ "<lambda>") params body scope (cloFrom X.env.cells scope.names []) .none doc pm c' ctv) (List.mem_append_right _ List.mem_cons_self)
    obtain ⟨k1, k2, k3⟩ := (g2.le (G.bar Own)).rd hco (fun ps => LamX.codeO_ne ps) n1 n2
    refine wpAny_call (codeAny_mono (und_core F hK hr tk L hbl (hba uM (.ref f)) hbody hk1 hk2 hda hca hdb hcb I2 S2 (l1.trans g2) q1 q2 hfr k1 k2 k3 rM rz h1) fun r s3 hq => ?_)
    cases r with
    | error er => exact hq
    | ok fl => cases fl with
      | ret u => exact hq
      | next => exact hq.elim
      | brk => exact hq.elim
      | cont => exact hq.elim
end
/-! ### under -/
def eDeed (th : Thk1) (j : Nat) : EvD := fun rho mu => match rho[j]? with
  | some (.val d) => th d mu
  | _ => .bad
def undD (c : Str) (fE fX : Fn) : FnW := fun th z mu => (sSeq (sWith c fE fX 3 (eV 0) (sSet 2 (eDeed th 3))) (sRet (eV 2)) [.val z, .un, .val .non, .un] mu).out
section
variable {X : Cx} {G : Fr} {a1 b n : Str} {f : Addr} {th : Thk1} {p1 p2 p3 py pos : Pos}
theorem s_deed {pn : List (Addr × Obj)} {xe : Value → Shared → Prop} (hN : X.N.Nodup) (hi : X.N[2]? = some n) (hy : X.env.scope.names.lookup n = some .local) (tk : Takes (X.tr pn xe) WF) (act : Act1 X a1 b 1 3 f (ThR1 G.K G.m G.B G.H th))
    (hs : swapsWith (.Call (.Name a1 p1) [.Name b p3] [] p2) (some (.Name n py)) pos.line (X.tr pn xe).env = pure false := by rfl) :
    PS (X.tr pn xe) (.Assign [.Name n py] (.Call (.Name a1 p1) [.Name b p3] [] p2) pos) (fun D σ H => σ[1]? = some (some (.ref f)) ∧ TSn G WF (sSet 2 (eDeed th 3)) D σ H) := by
  refine PSw (ps_set (X := X.tr pn xe) hN hi (.inl hy) (act pn xe WF p1 p2 p3 tk) hs (.inr hy)) fun D σ H ⟨e, rho, mu, m, S, q⟩ => ?_
  have wb : ∀ {m' H' mu'}, Wd G.K m' G.B H' mu' → Wd G.K m' (G.bar NoB) H' mu' := fun w => w.less fun a z => z.elim id (fun q => q.elim)
  have q2 : (eDeed th 3 rho mu).wp _ _ := use_wp (σ := σ) q
  unfold eDeed at q2
  cases e3 : rho[3]? with
  | none => rw [e3] at q2; exact q2.elim
  | some z =>
    rw [e3] at q2
    obtain ⟨v, ev, rv⟩ := paired_get S.sl e3
    cases z with
    | un => exact q2.elim
    | own xs => exact q2.elim
    | val d =>
      obtain ⟨v, rfl, rd⟩ := rv
      refine ⟨e, v, ev, m, mu, d, S.le, S.wd.less (fun a z => .inl z), rd.mono (Le.less fun a z => .inl z), ?_⟩
      have q2 : (th d mu).wp _ _ := q2
      cases et : th d mu with
      | ok d mu1 =>
        rw [et] at q2
        exact fun v H' m' g w r => q2 _ H' m' NoB (g.le _) ((S.call g (wb w)).setv 2 (r.mono (Le.less fun a z => z.elim id (fun q => q.elim))))
      | exc x mu1 =>
        rw [et] at q2
        exact fun c dd H' m' g w r => q2 c dd H' m' g (S.call g (wb w)) (r.less fun a z => z.elim id (fun q => q.elim))
      | bad => rw [et] at q2; exact q2.elim
end
section
variable {X : Cx} {G : Fr} {W : WX} {kE kX lv i : Nat} {c y qE qX : Str} {stE stX : Stmt} {psE psX : List Str} {fE fX : Fn} {a : Expr} {da : EvD} {body : List Stmt} {b : StD} {pos py : Pos} {P : L2.St → Prop}
theorem s_withD (hK : G.K = X.K) (hN : X.N.Nodup) (hi : X.N[i]? = some y) (hE : Meth X.K (He.ga X.K c) "__enter__" (He.ma X.K (He.ga X.K c) "__enter__")) (hX : Meth X.K (He.ga X.K c) "__exit__" (He.ma X.K (He.ga X.K c) "__exit__")) (TE : Dm X.prog X.w X.K X.mg X.base kE (.meth c "__enter__") "__enter__" qE stE [] psE fE) (bE : BindQ "__enter__" qE stE psE)
    (TX : Dm X.prog X.w X.K X.mg X.base kX (.meth c "__exit__") "__exit__" qX stX [] psX fX) (bX : BindQ "__exit__" qX stX psX) (hr : Rm lv X.A) (tk : Takes X W) (ha : PE X a (TEx G W da)) (hP : ∀ (σ : L2.St) (v : V), P σ → P (σ.set i (some v))) (hb : ∀ (pn : List (Addr × Obj)) (xe : Value → Shared → Prop), Takes (X.tr pn xe) WF → PSs (X.tr pn xe) body (fun D σ H => P σ ∧ TSn G WF b D σ H))
    (h1 : kE ≤ lv := by decide) (h2 : kX ≤ lv := by decide) (hy : X.env.scope.names.lookup y = some .local := by rfl) :
    PS X (.With [⟨a, some (.Name y py)⟩] body pos) (fun D σ H => P σ ∧ TSn G W (sWith c fE fX i da b) D σ H) := by
  obtain ⟨fdE, E1, E2⟩ := TE.ex
  obtain ⟨fdX, X1, X2⟩ := TX.ex
  exact s_with hK hN hi hE hX E2 (E1.bindsN bE) X2 (X1.bindsN bX) hr tk ha hP hb h1 h2 hy
end
/-- a def of the text that takes a manager and a lambda -/
structure Dsu (P : Program) (w : World) (K : PySem.W.Frag) (mg : Str → Option Value) (base : Heap) (k : Nat) (x a0 a1 b : Str) (N : List Str) (st : Stmt) (und : FnW) : Prop where
  t : FnU P w K mg base k (He.ga K x) x a0 a1 b N (defArgs st) (defBody st) (defScope st) und
  mg : mg x = some (.ref (He.ga K x))
  kp : PySem.W.keepIn K (.ref (He.ga K x)) = true
theorem Dsu.of {P : Program} {w : World} {K : PySem.W.Frag} {mg : Str → Option Value} {base : Heap} {h : Heap} {fa : List He.Fa} {fn : List DA} {ex : PySem.W.Frag → Bool} {k : Nat} {x a0 a1 c b cl : Str} {fE fX : Fn} {st s1 s2 s3 : Stmt} (T : Ty K mg h fa fn ex) (i j : Nat) (S : FnScope [a0, a1, c, b] [a0, a1] (defScope st))
    (hb : ∀ (cdv : Value) (A : Around) (out : List Env) (s : Shared) (H : Hp) (E : XK) (G : Fr) (f : Addr) (th : Thk1), G.K = K → Rm k (A.deeper (envOfC x (defScope st) s.heap.objs.size (He.ga K x) cdv)) →
      Takes (cxOf (CXx P w) P w K mg base [a0, a1, c, b] x (defScope st) (He.ga K x) cdv A out s H E) (fun c d _ H' => E c d H') →
      Act1 (cxOf (CXx P w) P w K mg base [a0, a1, c, b] x (defScope st) (He.ga K x) cdv A out s H E) a1 b 1 3 f (ThR1 G.K G.m G.B G.H th) →
      PS (cxOf (CXx P w) P w K mg base [a0, a1, c, b] x (defScope st) (He.ga K x) cdv A out s H E) s1 (tAsg (tC .non) (gName 2)) ∧
      PS (cxOf (CXx P w) P w K mg base [a0, a1, c, b] x (defScope st) (He.ga K x) cdv A out s H E) s2 (fun D σ H => σ[1]? = some (some (.ref f)) ∧ TSn G (fun c d _ H' => E c d H') (sWith cl fE fX 3 (eV 0) (sSet 2 (eDeed th 3))) D σ H) ∧
      PS (cxOf (CXx P w) P w K mg base [a0, a1, c, b] x (defScope st) (He.ga K x) cdv A out s H E) s3 (TSx G (fun c d _ H' => E c d H') (sRet (eV 2))))
    (hst : defBody st = [s1, s2, s3] := by rfl) (hv1 : Vis (defScope st) a1 := by first | exact Or.inl rfl | exact Or.inr (Or.inl rfl)) (hv3 : Vis (defScope st) b := by first | exact Or.inl rfl | exact Or.inr (Or.inl rfl))
    (hd : fn[i]? = some (dOfA x st) := by rfl) (hf : fa[j]? = some (.glo x) := by rfl) : Dsu P w K mg base (k + 1) x a0 a1 b [a0, a1, c, b] st (undD cl fE fX) := by
  obtain ⟨fd, F⟩ := T.says.def_ i hd
  refine ⟨FnU.of F S rfl hv1 rfl hv3 fun cdv A out s H E f vM zM th m B mu Q hr act wd rz hw => ?_, T.glo j hf, F.kp⟩
  obtain ⟨p1, p2, p3⟩ := hb cdv A out s H E ⟨K, m, B, H⟩ f th rfl hr (takes_of rfl rfl rfl rfl) act
  rw [hst]
  refine ⟨_, pss_cons p1 (pss_cons p2 (pss_one p3)), ?_⟩
  have nob : ∀ a, (⟨K, m, B, H⟩ : Fr).bar NoB a → B a := fun a z => z.elim id (fun q => q.elim)
  have st : StR ⟨K, m, B, H⟩ [.val zM, .un, .un, .un] mu [some vM, some (.ref f), none, none] H m NoB := by
    refine ⟨Lf.refl, wd.less nob, .cons ⟨vM, rfl, rz.mono (Le.less nob)⟩ (.cons trivial (.cons trivial (.cons trivial .nil))), fun a z => z.elim, fun i j a xs ys _ h1 => ?_⟩
    match i with
    | 0 => cases h1
    | 1 => cases h1
    | 2 => cases h1
    | 3 => cases h1
    | i + 4 => cases h1
  have S2 := st.setv 2 (d := .non) .non
  exact ⟨rfl, _, mu, m, S2, seq_ok (out_ok hw)⟩
end Sk

/-! Sk Zz: isinstance, == () and repr of things that may be or hold {}; a def that calls itself. -/
namespace Sk
open PySem PySem.Spec PyProof.Rows L2
/-! ### isinstance -/
def tyM (mu : Mem) : Da → Option String
  | .ref n => match mu[n]? with
    | some (.dct _) => some "dict"
    | _ => none
  | d => tyD d
def eIsiM (T : String) (a : EvD) : EvD := fun rho mu => bnd (a rho mu) fun x mu1 => opt ((tyM mu1 x).bind fun t => (kitB t T).map Da.bl) mu1
section
variable {X : Cx} {G : Fr} {W : WX} {pos : Pos} {a : Expr} {da : EvD}
theorem StR.tyx {rho : Ev} {mu : Mem} {σ : L2.St} {H : Hp} {m : List Addr} {Own : Addr → Prop} {K : PySem.W.Frag} (S : StR G rho mu σ H m Own) {d : Da} {v : V} {t : String} (r : RD m (G.bar Own) H d v) (h : tyM mu d = some t) : TyX K H v (.type t) := by
  cases d with
  | ref n =>
    have h : (match mu[n]? with
      | some (.dct _) => some "dict"
      | _ => none) = some t := h
    cases r with
    | ref hn =>
      cases eo : mu[n]? with
      | none => rw [eo] at h; cases h
      | some o =>
        rw [eo] at h
        cases o with
        | dct kvs =>
          cases h
          obtain ⟨us, h1, _⟩ := S.num hn eo
          exact .base (.dK h1)
        | _ => cases h
  | non => exact RD.tyx r h
  | bl b => exact RD.tyx r h
  | int i => exact RD.tyx r h
  | str x => exact RD.tyx r h
  | tup xs => exact RD.tyx r h
  | lst xs => exact RD.tyx r h
theorem c_isiM {T x : Str} {Ts : String} {p p2 : Pos} (hm : X.mg "isinstance" = none) (hT : X.mg x = none) (hb : bootBuiltins x = some (.type Ts)) (ha : PE X a (TEx G W da)) (hg : Gl X "isinstance" := by rfl) (hgT : Gl X x := by rfl) (hn : x ≠ "__name__" := by decide) (hd : (x == ("__debug__" : Str)) = false := by decide)
    (h1 : starEach [a, .Name x p2] X.env = (false, eval a X.env) :: starEach [.Name x p2] X.env := by rfl) (h2 : starEach [.Name x p2] X.env = (false, eval (.Name x p2) X.env) :: starEach [] X.env := by rfl) (h3 : (backTo pos (starEach [.Name x p2] X.env)).any (·.1) = false := by rfl) :
    PE X (.Call (.Name "isinstance" p) [a, .Name x p2] [] pos) (TEx G W (eIsiM Ts da)) := by
  refine PEw (pe_callB call_isi hg hm (by decide +kernel) (pa_cons ha (pa_cons (pe_bltn (v := .ty Ts) hgT hT hb rfl hn hd) pa_nil h2) h1) (by decide) (by decide) h1 h3) fun σ H Q h => ?_
  obtain ⟨rho, mu, m, Own, S, h⟩ := h.un
  refine TEx.to S (wp_bnd h) fun x mu1 v H1 m1 h1 g1 S1 r1 => ?_
  obtain ⟨z, e, q⟩ := wp_opt h1
  obtain ⟨t, et, e⟩ := Option.bind_eq_some_iff.mp e
  obtain ⟨k, ek, rfl⟩ := Option.map_eq_some_iff.mp e
  exact ⟨v, .ty Ts, .type t, .type Ts, k, rfl, .ty Ts, S1.tyx r1 et, kit_ty ek, q _ H1 m1 g1 S1 (.bl _)⟩
end
/-! ### a tuple == () -/
def eq0D : Da → Da → Option Da
  | .tup xs, .tup [] => some (.bl xs.isEmpty)
  | x, y => eqD x y
theorem o_eq0 {X : Cx} (hu : X.A.units + 64 < cLine) : OpD X (compareOp .Eq) eq0D := by
  refine ⟨fun x y H Q => (∃ a b xs, x = .ref a ∧ y = .ref b ∧ H a = some (.tup xs) ∧ H b = some (.tup []) ∧ Q (.bl xs.isEmpty) H) ∨ rEqD X.K x y H Q, ?_, ?_⟩
  · intro pins s σ H x y v u Q I rx ry h
    rcases h with ⟨a, b, xs, rfl, rfl, ha, hb, q⟩ | h
    · obtain rfl : v = Value.ref a := rx
      obtain rfl : u = Value.ref b := ry
      obtain ⟨its, rv, ht, _⟩ := I.tuple (SqT.of ha)
      obtain ⟨its2, rv2, ht2, _⟩ := I.tuple (SqT.of hb)
      have e2 : its2 = [] := by
        have := rv2.length
        cases its2 with
        | nil => rfl
        | cons x l => cases this
      subst e2
      have go := PySem.SeqAt.RcAt.tuples (A := X.A) (e := fun _ => true) ht ht2 (by omega) fun j h1 h2 => absurd h2 (by simp)
      have ee : ((List.range (min its.toArray.size ([] : List Value).toArray.size)).all (fun _ => true) && its.toArray.size == ([] : List Value).toArray.size) = xs.isEmpty := by
        have := rv.length
        cases its with
        | nil => cases xs with
          | nil => rfl
          | cons x xs => cases this
        | cons y l => cases xs with
          | nil => cases this
          | cons x xs => simp
      rw [ee] at go
      exact go X.prog X.w X.xe _ ⟨.bl _, H, I, rfl, q⟩
    · exact op_eqD hu pins s σ H x y v u Q I rx ry h
  · intro m B H x y z a b Q e rx ry fr q
    have gen : eqD x y = some z → rEqD X.K a b H Q := fun e => by
      obtain ⟨hz, rfl⟩ := ite_inv e
      unfold okEq at hz
      simp only [Bool.and_eq_true] at hz
      exact ⟨_, _, RD.dp rx hz.1.1.1, RD.dp ry hz.1.1.2, hz.1.2, hz.2, q _ _ (Same.refl _) (.bl _)⟩
    unfold eq0D at e
    split at e
    · cases e
      cases rx with
      | tup h1 h2 h3 h4 =>
        cases ry with
        | tup k1 k2 k3 k4 =>
          cases k4
          refine .inl ⟨_, _, _, rfl, rfl, h3, k3, ?_⟩
          have el := h4.length
          rename_i xs _ _ _ _
          have e2 : ∀ {l : List Da} {k : List V}, l.length = k.length → l.isEmpty = k.isEmpty := fun {l k} h => by cases l <;> cases k <;> first | rfl | cases h
          rw [← e2 el]
          exact q _ _ (Same.refl _) (.bl _)
    · exact .inr (gen e)
/-! ### repr of a thing of whatever kind -/
def rRepM : List V → Hp → VK → Prop := fun xs H Q => ∃ v p, xs = [v] ∧ DpE H v p ∧ okShown p = true ∧ Q (.str p.shown) H
theorem callr_repM {X : Cx} (hs : sysB X.K = true) (hu : X.A.units + 64 < cLine) (hg : X.A.guards = some []) : CallR X (.builtin "repr") rRepM := by
  intro pins s σ H xs us Q I r h
  obtain ⟨v, p, rfl, hd, ok, q⟩ := h
  have go := fun (a : Addr) (e : v = .ref a) => callr_repE hs hu hg pins s σ H [v] us Q I r ⟨a, p, by rw [e], by rw [← e]; exact hd, ok, q⟩
  cases r with
  | cons r rr =>
    cases rr
    obtain ⟨ok, k3⟩ := ba3 ok
    obtain ⟨k1, k2⟩ := ba3 ok
    have k3 := of_decide_eq_true k3
    cases hd with
    | non =>
      cases r
      exact PySem.P.repr_of_none ⟨.str _, H, I.tok _, ⟨_, rfl⟩, by simpa only [PyData.shown] using q⟩
    | bl b =>
      cases r
      exact PySem.P.repr_of_bool ⟨.str _, H, I.tok _, ⟨_, rfl⟩, by simpa only [PyData.shown] using q⟩
    | int i =>
      obtain ⟨t, rfl⟩ := r
      exact PySem.P.repr_of_int (by simpa [PyData.showable] using k1) ⟨.str _, H, I.tok _, ⟨_, rfl⟩, by simpa only [PyData.shown] using q⟩
    | str y =>
      obtain ⟨t, rfl⟩ := r
      exact PySem.P.repr_of_str ⟨.str _, H, I.tok _, ⟨_, rfl⟩, by simpa only [PyData.shown] using q⟩ (by simpa only [PyData.shown] using k3)
    | lst => exact go _ rfl
    | tup => exact go _ rfl
    | emp => exact go _ rfl
def eRepM (a : EvD) : EvD := fun rho mu => bnd (a rho mu) fun x mu1 => match toPyM mu1 x with
  | some p => if okShown p = true then .ok (.str p.shown) mu1 else .bad
  | none => .bad
theorem c_repM {X : Cx} {G : Fr} {W : WX} {a : Expr} {da : EvD} {p pos : Pos} {k : Nat} (hf : X.mg "repr" = none) (hs : sysB X.K = true) (hr : Rm k X.A) (ha : PE X a (TEx G W da)) (hg : Gl X "repr" := by rfl) (h1 : starEach [a] X.env = (false, eval a X.env) :: starEach [] X.env := by rfl) : PE X (.Call (.Name "repr" p) [a] [] pos) (TEx G W (eRepM da)) := by
  refine PEw (pe_callB (callr_repM hs hr.r.units hr.gd) hg hf (by decide +kernel) (pa_cons ha pa_nil h1) (by decide) (by decide) h1) fun σ H Q h => ?_
  obtain ⟨rho, mu, m, Own, S, h⟩ := h.un
  refine TEx.to S (wp_bnd h) fun x mu1 v H1 m1 h1 g1 S1 r1 => ?_
  cases ep : toPyM mu1 x with
  | none => rw [ep] at h1; exact h1.elim
  | some p =>
    rw [ep] at h1
    dsimp only at h1
    by_cases ok : okShown p = true
    · rw [if_pos ok] at h1
      exact ⟨v, p, rfl, dpE_of S1 r1 ep, ok, h1 _ H1 m1 g1 S1 (.str _)⟩
    · rw [if_neg ok] at h1
      exact h1.elim
/-! ### a def that calls itself: no fuel left -/
theorem Df.bad {P : Program} {w : World} {K : PySem.W.Frag} {mg : Str → Option Value} {base : Heap} {h : Heap} {fa : List He.Fa} {fn : List DA} {ex : PySem.W.Frag → Bool} {k : Nat} {x : Str} {st : Stmt} {ps : List Str} (T : Ty K mg h fa fn ex) (i j : Nat)
    (hd : fn[i]? = some (dOfA x st) := by rfl) (hf : fa[j]? = some (.glo x) := by rfl) : Df P w K mg base k x st ps (fun _ _ => .bad) := by
  obtain ⟨fd, F⟩ := T.says.def_ i hd
  exact ⟨⟨fd, F, fun vs H Q E h => by obtain ⟨m, B, ds, mu, _, _, z⟩ := h; exact z.elim, fun A out s H args us vs Q E hr e0 hb r h => by obtain ⟨m, B, ds, mu, _, _, z⟩ := h; exact z.elim⟩, T.glo j hf⟩
/-! ### a tuple of one, so many times -/
def mulW : Da → Da → Option Da
  | .tup [x], .int k => if 2 ≤ k ∧ k ≤ 2000 then some (.tup (List.replicate k.toNat x)) else none
  | x, y => mulD x y
def rOneT (K : PySem.W.Frag) : R2 := fun x y H Q => ∃ l k z, x = .ref l ∧ y = .int k ∧ SqT K H l [z] ∧ 2 ≤ k ∧ k ≤ 2000 ∧ ∀ p, H p = none → Q (.ref p) (upd H p (.tup (List.replicate k.toNat z)))
theorem flat_one {α : Type} (x : α) : ∀ n, (List.replicate n [x]).flatten = List.replicate n x
  | 0 => rfl
  | n + 1 => by
    rw [List.replicate_succ, List.replicate_succ, List.flatten_cons, flat_one x n]
    rfl
theorem vals_rep {z : V} {w : Value} (r : RelV z w) : ∀ n, Vals (List.replicate n z) (List.replicate n w)
  | 0 => .nil
  | n + 1 => .cons r (vals_rep r n)
theorem op_oneT {X : Cx} : OpR X (binaryOp .Mult) (rOneT X.K) := by
  intro pins s σ H x y v u Q I rx ry h
  obtain ⟨l, k, z, rfl, rfl, hT, h1, h2, q⟩ := h
  obtain rfl : v = Value.ref l := rx
  obtain ⟨t, rfl⟩ := ry
  obtain ⟨its, r, ⟨o, ho, hc, n, hd⟩, _⟩ := I.tuple hT
  obtain ⟨w, rfl, rz⟩ : ∃ w, its = [w] ∧ RelV z w := by
    cases r with
    | cons a b => cases b; exact ⟨_, rfl, a⟩
  obtain ⟨cls, dd, data, sl⟩ := o
  obtain rfl : cls = Value.type "tuple" := hc
  obtain rfl : data = Data.seq [w].toArray n := hd
  have fl : List.foldl (fun x1 x2 => x1 ++ x2) #[] (List.replicate k.toNat [w].toArray) = (List.replicate k.toNat w).toArray := by rw [size_rep, flat_one]
  have kz : k.toNat ≤ sizeLine := by rw [sizeLine_eq]; omega
  have sz1 : (([w].toArray.size : Nat) : Int) * k = k := by show (1 : Int) * k = k; rw [Int.one_mul]
  have mul := tuple_mulW l [w].toArray n dd sl k t (by rw [decide_eq_false (by omega), decide_eq_false (by omega)]; rfl) (by show (k == 1) = false; exact beq_eq_false_iff_ne.mpr (by omega)) (by rw [decide_eq_false (by omega)]; rfl) (by rw [sz1]; omega)
    (by rw [sz1]; unfold Builtin.Tuple.tupleTooMany; rw [sizeLine_eq]; exact decide_eq_false (by omega)) (by rw [fl, List.size_toArray, List.length_replicate]; exact kz)
  refine wpAny_binaryOp_repeat_ref (T := "tuple") (U := "int") (by decide) ⟨_, ho, rfl⟩ (fun s' => typeIs_int s' k t) noFill_tuple_mul F.fills_int_mul F.slot_int_rmul repeat_tuple F.slot_int_index.lookup
    (call_meets F.slot_int_rmul (typeIs_int s k t) F.entry_int_rmul (F.args_int_rmul_2 _ _) (int_rmul_tuple k t l _ n dd sl) ⟨ho, rfl, ⟨_, ho, rfl⟩, call_meets F.slot_tuple_mul ⟨_, ho, rfl⟩ F.entry_tuple_mul (F.args_tuple_mul_2 _ _) mul ⟨ho, ?_⟩⟩)
  rw [fl]
  have new := I.hok.fresh (Nat.le_refl s.heap.objs.size)
  refine ⟨.ref s.heap.objs.size, _, I.laid (t' := s.toks) (o := .tup (List.replicate k.toNat z)) (fun b ob e => Heap.get?_push_of_some _ e) (Nat.le_refl _) ⟨?_, _, vals_rep rz k.toNat, IsTup.new _ _⟩, rfl, q _ new⟩
  rw [List.length_replicate]
  exact kz
theorem o_mulW {X : Cx} : OpD X (binaryOp .Mult) mulW := by
  obtain ⟨rm, om, hm⟩ := o_mul (X := X)
  refine ⟨fun x y H Q => rOneT X.K x y H Q ∨ rm x y H Q, fun pins s σ H x y v u Q I rx ry h => ?_, fun m B H x y z a b Q e rx ry fr q => ?_⟩
  · rcases h with h | h
    · exact op_oneT pins s σ H x y v u Q I rx ry h
    · exact om pins s σ H x y v u Q I rx ry h
  · unfold mulW at e
    split at e
    · obtain ⟨hz, rfl⟩ := ite_inv e
      cases ry
      cases rx with
      | tup a1 a2 a3 a4 =>
        cases a4 with
        | cons c1 c2 =>
          cases c2
          refine .inl ⟨_, _, _, rfl, rfl, SqT.of a3, hz.1, hz.2, fun p hp => ?_⟩
          refine q _ _ (same_upd hp) (RD.new_tup ?_ hp (fr p hp).1 (fr p hp).2)
          have rr : ∀ n, RDs m B H (List.replicate n _) (List.replicate n _) := fun n => by
            induction n with
            | zero => exact .nil
            | succ n ih => exact .cons c1 ih
          exact rr _
    · exact .inr (hm m B H x y z a b Q e rx ry fr q)
end Sk

/-! Sk Xa: lambdas that lie in a list. -/
namespace Sk
open PySem PySem.Spec PyProof.Rows L2
/-- the lambda at f (no defaults), as a tracked thing -/
def FunO (f : Addr) (q : Str) (params : Arguments) (body : Expr) (scope : Scope) (cl : List (Str × Addr)) (c' : Addr) : HO := .ext fun h => ∃ doc pm ctv, h.get? f = some (lamO q params body scope cl .none doc pm c' ctv)
theorem funO_ok {P : Program} {w : World} {H : Hp} {h : Heap} {f : Addr} {q : Str} {params : Arguments} {body : Expr} {scope : Scope} {cl : List (Str × Addr)} {c' : Addr} {doc pm ctv : Value} (e : h.get? f = some (lamO q params body scope cl .none doc pm c' ctv)) : ObjOk P w H h f (FunO f q params body scope cl c') :=
  ⟨⟨doc, pm, ctv, e⟩, ⟨_, e⟩, fun _ _ ⟨a, b, c, k⟩ st => ⟨a, b, c, st _ k⟩⟩
theorem funO_nt {f : Addr} {q : Str} {params : Arguments} {body : Expr} {scope : Scope} {cl : List (Str × Addr)} {c' : Addr} : NT (FunO f q params body scope cl c') := fun ps z => by
  unfold FunO at z
  cases z
section
variable {X : Cx} {pins : List (Addr × Obj)} {σ : L2.St} {H : Hp} {s : Shared}
theorem tail_mkF {c P : Addr} {q : Str} {params : Arguments} {body : Expr} {scope : Scope} {pos : Pos} {E Q : Value → Shared → Prop} (I : Inv X pins σ H s) (TB : LamX.TabB X.base X.mg c P) (hcode : X.env.code = .ref c)
    (t : ∃ ps : Array Value, H P = some (.tbl ps) ∧ TriplesOk ps.toList ∧ ∀ pos cv, codeAmong pos ps.toList = some cv → ∃ c', cv = .ref c' ∧ H c' = some (LamX.CodeO c' q)) (hfree : ∀ y ∈ scope.names, y.2 = .free → ∃ c, X.env.cells.lookup y.1 = some c)
    (h : ∀ (f c' : Addr) (H1 : Hp) (s' : Shared), Inv X pins σ (upd H1 f (FunO f q params body scope (cloFrom X.env.cells scope.names []) c')) s' → Grow H P c' q H1 → H1 f = none → f ∉ frs X.stack → H1 c' = some (LamX.CodeO c' q) → Q (.ref f) s') :
    wpAny (model X.prog X.w) X.A (makeTail "<lambda>" q params (.expr body) scope X.env .none .none none pos pos.line) Q E s := by
  obtain ⟨ps, hP, ht, ha⟩ := t
  have kb : s.heap.BuiltinsAt X.mg P := TB.bm.keeps I.bk
  have hp : s.heap.get? P = some (PySem.W.tabObj ps) := I.hok P _ hP
  have far : ∀ f, s.heap.objs.size ≤ f → f ∉ frs X.stack := fun f hf z => (List.mem_cons.mp (I.stkSub _ z)).elim (fun e => by
    have l := I.lt
    rw [← e] at l
    exact Nat.lt_irrefl _ (Nat.lt_of_lt_of_le l hf)) fun e => I.nofs hf e
  cases hc : codeAmong pos ps.toList with
  | none =>
    refine PySem.W.kdv_makeTail (mg := X.mg) (c := c) (P := P) (ps := ps) (closure_ok hfree) I.ok.glob (I.mod.glob.keeps I.bk) hcode (TB.code.keeps I.bk) hp ht hc TB.gP kb fun c' ctv doc h' tk hx hge hlt hrec htb => ?_
    obtain ⟨c2, oc, us, tq, e2, ho, hd, hv⟩ := hrec
    cases e2
    have sz : s.heap.objs.size ≤ h'.objs.size := Nat.le_trans hge (Nat.le_of_lt hlt)
    have nC : H c' = none := I.hok.fresh hge
    have eL : (ps ++ #[rawInt pos.line, rawInt pos.col, .ref c']).toList = ps.toList ++ [rawInt pos.line, rawInt pos.col, .ref c'] := by simp
    have I1 := LamX.inv_table (q := q) (t' := tk) (more := #[rawInt pos.line, rawInt pos.col, .ref c']) (h' := h') I hP (fun b o hb e => hx b o hb e) htb hge ⟨oc, us, tq, ho, hd, hv⟩
    have I2 := I1.laid (a := h'.objs.size) (t' := tk) (h' := h'.push (lamO q params body scope (cloFrom X.env.cells scope.names []) .none doc ((X.mg "__name__").getD .none) c' ctv)) (fun b o e => Heap.get?_push_of_some _ e) (Nat.le_refl _) (funO_ok (Heap.get?_push_size _ rfl))
    refine h h'.objs.size c' _ _ I2 ⟨ps, hP, .inr ⟨nC, _, rfl, by rw [eL]; exact PySem.TriplesOk_snoc _ _ _ _ ht, fun p2 cv hcv => ?_⟩⟩ (I1.hok.fresh (Nat.le_refl _)) (far _ sz) upd_same
    rw [eL] at hcv
    exact LamX.among_app _ ht hcv
  | some cv =>
    obtain ⟨c', rfl, hco⟩ := ha pos cv hc
    refine PySem.W.kdv_makeTailHit (mg := X.mg) (c := c) (P := P) (ps := ps) (closure_ok hfree) I.ok.glob (I.mod.glob.keeps I.bk) hcode (TB.code.keeps I.bk) hp ht hc kb fun ctv doc h' tk hx sz => ?_
    have I1 : Inv X pins σ H { s with heap := h', toks := tk } := I.kept fun b o e => hx b o e
    have I2 := I1.laid (a := h'.objs.size) (t' := tk) (h' := h'.push (lamO q params body scope (cloFrom X.env.cells scope.names []) .none doc ((X.mg "__name__").getD .none) c' ctv)) (fun b o e => Heap.get?_push_of_some _ e) (Nat.le_refl _) (funO_ok (Heap.get?_push_size _ rfl))
    exact h h'.objs.size c' H _ I2 ⟨ps, hP, .inl ⟨rfl, pos, hc⟩⟩ (I.hok.fresh sz) (far _ sz) hco
end
/-- a lambda of the maker X at f -/
structure FnAt (X : Cx) (mk : Str) (m : List Addr) (B : Addr → Prop) (H : Hp) (f c' : Addr) (params : Arguments) (body : Expr) (scope : Scope) : Prop where
  fo : H f = some (FunO f (lamQ mk) params body scope (cloFrom X.env.cells scope.names []) c')
  fm : f ∉ m
  fb : ¬ B f
  fr : f ∉ frs X.stack
  co : H c' = some (LamX.CodeO c' (lamQ mk))
  cm : c' ∉ m
  cb : ¬ B c'
theorem FnAt.mono {X : Cx} {mk : Str} {m m' : List Addr} {B B' : Addr → Prop} {H H' : Hp} {f c' : Addr} {params : Arguments} {body : Expr} {scope : Scope} (F : FnAt X mk m B H f c' params body scope) (g : Le m B H m' B' H') : FnAt X mk m' B' H' f c' params body scope := by
  obtain ⟨a1, a2, a3⟩ := g.rd F.fo funO_nt F.fm F.fb
  obtain ⟨b1, b2, b3⟩ := g.rd F.co (fun ps => LamX.codeO_ne ps) F.cm F.cb
  exact ⟨a1, a2, a3, F.fr, b1, b2, b3⟩
section
variable {X : Cx} {G : Fr} {W : WX} {kb lv : Nat} {mk p : Str} {bn : List Str} {params : Arguments} {body : Expr} {scope : Scope} {lpos : Pos}
/-- a lambda without defaults, as a thing -/
theorem pe_lamF (hK : G.K = X.K) (TB : TbOk X.K X.mg X.base) (htab : (PySem.W.tabIn X.K mk).isSome = true) (hcd : CdOf X.K (He.ga X.K mk) X.env.code) (L : LamT X.N bn X.env.scope scope) (hdef : defaultsOf params X.env = ([], [])) (hmk : mk ∈ mkrs) (hq : X.env.qual ++ "<lambda>" = lamQ mk) :
    PE X (.Lambda params body scope lpos) (fun σ H Q => ∃ rho mu m Own, StR G rho mu σ H m Own ∧ ∀ f c' H1, Lf m H m H1 → StR G rho mu σ H1 m Own → FnAt X mk m (G.bar Own) H1 f c' params body scope → H f = none → Q (.ref f) H1) := by
  refine ⟨fun pins s σ H Q I ⟨rho, mu, m, Own, S, h⟩ => ?_⟩
  obtain ⟨⟨c, P⟩, et⟩ := Option.isSome_iff_exists.mp htab
  have hcode := tab_code et hcd
  have etG : PySem.W.tabIn G.K mk = some (c, P) := by rw [hK]; exact et
  obtain ⟨td, tb⟩ := TB
  have tab := S.tabAt hmk etG
  refine PySem.W.kla_eval hdef ?_
  rw [makeFunction_eq]
  simp only [List.zip_nil_right, List.filterMap_nil, List.isEmpty_nil, if_true, pure_bind]
  rw [hq]
  refine tail_mkF I (tb mk hmk c P et) hcode tab (L.has I.ok) fun f c' H1 s' I1 g hn hfr hco => ?_
  obtain ⟨S1, l1⟩ := S.grow (hK ▸ td) hmk etG g
  obtain ⟨n1, n2⟩ := S.codeAt S1 hmk etG g
  obtain ⟨f1, f2⟩ := S1.fresh hn
  have sm := same_upd (o := FunO f (lamQ mk) params body scope (cloFrom X.env.cells scope.names []) c') hn
  refine ⟨.ref f, _, I1, rfl, h f c' _ (l1.trans (Lf.of_same sm)) (S1.same sm) ⟨upd_same, f1, f2, hfr, sm _ _ hco, n1, n2⟩ (l1.dom f hn)⟩
/-! ### the call of such a lambda, in a def entered at s -/
theorem act_okT {pins : List (Addr × Obj)} {σ : L2.St} {H : Hp} {s : Shared} {CXg : CXT} {Eg : XK} {Ng : List Str} {qg q : Str} {sg : Scope} {g f c' : Addr} {cdg : Value} {k i : Nat} {a : Str} {pn : List (Addr × Obj)} {xe : Value → Shared → Prop} {tb : XK → TE} {p1 p2 : Pos}
    (I : Inv X pins σ H s) (L : LamT X.N [] X.env.scope scope) (hq : q = X.env.qual ++ "<lambda>") (hbind : ∀ (q : Str) (cl : List (Str × Addr)) (doc pm ctv : Value) (c' : Addr), bindArgs (lamFd q params body scope cl .none doc pm c' ctv) ⟨[], []⟩ = pure [])
    (tk : Takes ((cxOf CXg X.prog X.w X.K X.mg X.base Ng qg sg g cdg X.A X.stack s H Eg).tr pn xe) W) (hr : Rm (k + 1) (X.A.deeper (envOfC qg sg s.heap.objs.size g cdg)))
    (hbody : ∀ (A : Around) (outer : List Env) (s : Shared) (H : Hp) (E : XK), Rm k (A.deeper (LamX.lamEnv X scope s.heap.objs.size f c')) → PE (LamX.lamCx X A outer s H E scope f c') body (tb E))
    (hN : Ng[i]? = some a) (hv : Vis sg a) (hd : (a == ("__debug__" : Str)) = false := by decide) (hcd : (a == ("__classdict__" : Str)) = false := by decide) :
    PE ((cxOf CXg X.prog X.w X.K X.mg X.base Ng qg sg g cdg X.A X.stack s H Eg).tr pn xe) (.Call (.Name a p1) [] [] p2) (fun σZ HZ Q => σZ[i]? = some (some (.ref f)) ∧ HZ f = some (FunO f q params body scope (cloFrom X.env.cells scope.names []) c') ∧ HZ c' = some (LamX.CodeO c' q) ∧ tb (fun c d H' => W c d σZ H') σ HZ Q) := by
  subst hq
  refine ⟨fun pinsZ sZ σZ HZ Q IZ ⟨hs, hf, hc, ht⟩ => ?_⟩
  refine wpAny_Call_Name_kw (thn ((pe_var (pos := p1) (i := i) hN hv hd hcd).run pinsZ sZ σZ HZ (fun v H1 => v = .ref f ∧ H1 = HZ) IZ ⟨.ref f, hs, rfl, rfl⟩) fun u s1 ⟨v, H1, I1, r1, ev, eH⟩ => ?_)
  subst ev eH
  obtain rfl : u = Value.ref f := r1
  have un : Un (frs X.stack) [] H H1 s.heap s1.heap := I1.base
  obtain ⟨⟨doc, pm, ctv, of1⟩, _, _⟩ := I1.hok f _ hf
  refine PySem.W.callWith_F0 ⟨_, _, _, _, of1⟩ ?_
  obtain ⟨⟨oc, us, t, hoc, hdc, hvc⟩, _, _⟩ := I1.hok c' _ hc
  have rc : codeAny (model X.prog X.w) (X.A.deeper (envOfC qg sg s.heap.objs.size g cdg)) (.call (.ref f) ⟨[], []⟩) (CR (L2.CX X.prog X.w) (envOfC qg sg s.heap.objs.size g cdg :: X.stack) X.prog X.w H1 s1 Q (fun c d H' => W c d σZ H')) s1 := by
    refine PySem.W.kla_callFunE hr.r.depth of1 rfl L.co L.gen rfl ⟨c', oc, us, t, rfl, hoc, hdc, hvc⟩ (BindsTo.of_eq (hbind _ _ _ _ _ _) _ _ _ _ ?_)
    refine wpAny_newFunctionEnv L.cell (fun y hy => nomatch hy) (fun h2 hns hsb => ⟨I1.nolimit.fresh _ hsb, ?_⟩) L.kind
    have kp : ∀ b o, s1.heap.get? b = some o → h2.get? b = some o := fun b o e => hsb.extBut b o (Nat.ne_of_lt (Heap.lt_size e)) (Heap.get?_push_of_some _ e)
    have J := lam_in (E := fun c d H' => W c d σZ H') (f := f) (c' := c') (tk := s1.toks + ([] : List (Str × Value)).length) I L I1.env0 hr.r.hd un hns kp
    refine PySem.W.kla_codeExpr (wpAny_mono ((hbody _ _ s1 H1 _ (hr.deeper _)).run [] _ _ H1 Q J ht) (fun v s' hq => ?_) fun e s' hq => hq)
    obtain ⟨w', H', J', rv, q⟩ := hq
    exact ⟨w', H', J'.os, J'.bare, J'.base, J'.hok, rv, q⟩
  refine wpAny_call (codeAny_mono rc fun r s' hq => ?_)
  cases r with
  | error e => exact passAt tk σZ pinsZ H1 s1 e s' I1 hq
  | ok fl => cases fl with
    | ret u => exact I1.after hq
    | next => exact hq.elim
    | brk => exact hq.elim
    | cont => exact hq.elim
end
/-- u is a lambda without parameters that does what e does, made by X (its maker is mk) -/
def FnE (X : Cx) (G : Fr) (kb : Nat) (mk : Str) (m : List Addr) (B : Addr → Prop) (H : Hp) (u : V) (e : EvD) : Prop := ∃ (f c' : Addr) (params : Arguments) (body : Expr) (scope : Scope), u = .ref f ∧ FnAt X mk m B H f c' params body scope ∧ LamT X.N [] X.env.scope scope ∧
  (∀ (q : Str) (cl : List (Str × Addr)) (doc pm ctv : Value) (c' : Addr), bindArgs (lamFd q params body scope cl .none doc pm c' ctv) ⟨[], []⟩ = pure []) ∧
  ∀ (A : Around) (outer : List Env) (s : Shared) (H : Hp) (E : XK) (f c' : Addr), Rm kb (A.deeper (LamX.lamEnv X scope s.heap.objs.size f c')) → Takes (LamX.lamCx X A outer s H E scope f c') (fun c d _ H' => E c d H') → PE (LamX.lamCx X A outer s H E scope f c') body (TEx G (fun c d _ H' => E c d H') e)
theorem FnE.mono {X : Cx} {G : Fr} {kb : Nat} {mk : Str} {m m' : List Addr} {B B' : Addr → Prop} {H H' : Hp} {u : V} {e : EvD} (F : FnE X G kb mk m B H u e) (g : Le m B H m' B' H') : FnE X G kb mk m' B' H' u e := by
  obtain ⟨f, c', params, body, scope, e, a, r⟩ := F
  exact ⟨f, c', params, body, scope, e, a.mono g, r⟩
end Sk

/-! Sk Xb: [said(call) for call in calls], calls a list of lambdas of the same def. -/
namespace Sk
open PySem PySem.Spec PyProof.Rows L2
/-- the list at slot k is gone through; the element's proof may go back to the maker's frame -/
theorem comp_calls {X : Cx} {pins : List (Addr × Obj)} {σ : L2.St} {H : Hp} {s : Shared} {k v : Nat} {cs y : Str} {a : Addr} {us : List V} {elt : Expr} {scope : Scope} {te : TE} {py pc cp : Pos} {Q : VK}
    (I : Inv X pins σ H s) (calm : X.calm = true) (nd : X.N.Nodup) (bo : BlkOk X.N X.env.scope scope [(y, v)]) (hk : X.N[k]? = some cs) (vk : Vis X.env.scope cs) (hd1 : (cs == ("__debug__" : Str)) = false) (hd2 : (cs == ("__classdict__" : Str)) = false) (sk : σ[k]? = some (some (.ref a))) (ha : H a = some (.lst us))
    (tgt : ∀ (s : Shared) (H : Hp) (C : Addr) (cl : List (Str × Addr)) (fp : List Addr), PG (X.blk s H scope (compEnvC scope cl C X.env) fp) (.Name y py) (gName v))
    (el : ∀ (s1 : Shared) (H1 : Hp) (C : Addr) (cl : List (Str × Addr)) (fp : List Addr), (∀ pn' σ' H' s', Inv (X.blk s1 H1 scope (compEnvC scope cl C X.env) fp) pn' σ' H' s' → Inv X pins σ H' s') → PE (X.blk s1 H1 scope (compEnvC scope cl C X.env) fp) elt te)
    (h : ∀ D, H D = none → ∃ W : Nat → Hp → Prop, W 0 (upd H D (.lst [])) ∧ ∀ i H', W i H' → H' a = some (.lst us) ∧ (us.length ≤ i → Q (.ref D) H') ∧ ∀ u, us[i]? = some u → te ((wipe σ [v]).set v (some u)) H' fun z H2 => ∃ acc, H2 D = some (.lst acc) ∧ acc.length < sizeLine ∧ W (i + 1) (upd H2 D (.lst (acc ++ [z])))) :
    wpAny (model X.prog X.w) X.A (eval (.ListComp elt [⟨.Name y py, .Name cs pc, [], 0⟩] scope cp) X.env) (EP X pins σ Q) X.xe s := by
  rw [eval_ListComp]
  have fr : ∀ z ∈ scope.names, z.2 = .free → ∃ c, X.env.cells.lookup z.1 = some c := fun z hz e => (bo.free z hz e).elim (fun q => I.ok.has _ (.inl q)) fun q => I.ok.has _ (.inr q)
  refine wpAny_comprehension_free (use := none) rfl (fun _ => rfl) (closure_ok fr) bo.kind (fun z hz e => by rw [bo.uniq z hz, e]) ?_
  refine thn ((pi_list (tg := .Name y py) (pe_var (pos := pc) hk vk hd1 hd2)).run pins s σ H (fun J H1 => J = Itl X.K a ∧ H1 = H) I ⟨_, sk, a, rfl, ⟨us, SqL.of ha⟩, rfl, rfl⟩) fun xv s1 hx => thn hx fun itv s2 ⟨it, fp, tn, J, H2, ei, I2, T, t2, f2, eJ, eH⟩ => ?_
  subst ei eJ eH
  refine wpAny_newObj_type (newEnv_comp ?_) (by show 0 ≤ sizeLine; decide)
  generalize eD : s2.heap.objs.size = D
  have nD : H2 D = none := I2.hok.fresh (Nat.le_of_eq eD)
  obtain ⟨W, w0, turn⟩ := h D nD
  generalize e3 : ({ s2 with heap := s2.heap.push { cls := .type "list", data := .seq ([] : List Value).toArray } } : Shared) = s3
  have h3 : s3.heap = s2.heap.push { cls := .type "list", data := .seq ([] : List Value).toArray } := by rw [← e3]
  have I3 : Inv X pins σ (upd H2 D (.lst [])) s3 := by
    rw [← e3]
    refine I2.laid (t' := s2.toks) (fun b o q => Heap.get?_push_of_some _ q) (Nat.le_of_eq eD) ⟨Nat.zero_le _, [], 0, .nil, ?_⟩
    rw [← eD]
    exact Heap.get?_push_size _ rfl
  have low : ∀ b ∈ fp, b < s2.heap.objs.size := fun b hb => (T.obj _ _ t2 b hb).elim fun o q => Heap.lt_size q.1
  have f3 : ∀ b ∈ fp, FpOk X pins (upd H2 D (.lst [])) b ∧ b < s3.heap.objs.size := fun b hb => by
    have l := low b hb
    refine ⟨⟨by rw [upd_ne (by rw [← eD]; exact Nat.ne_of_lt l)]; exact (f2 b hb).1, (f2 b hb).2⟩, ?_⟩
    rw [h3, Heap.size_push]
    exact Nat.lt_succ_of_lt l
  have t3 : tn 0 s3.heap := T.keep _ _ _ t2 fun b _ o q => by rw [h3]; exact Heap.get?_push_of_some _ q
  have I4 := block_start I3 bo nd f3
  have target := tgt s3 (upd H2 D (.lst [])) s3.heap.objs.size (cellsFrom (s3.heap.objs.size + 1) scope.names (cloFrom X.env.cells scope.names [])) fp
  have element := el s3 (upd H2 D (.lst [])) s3.heap.objs.size (cellsFrom (s3.heap.objs.size + 1) scope.names (cloFrom X.env.cells scope.names [])) fp fun pn' σ' H' s' J => I3.call' (ch := fp) J.os J.base J.hok J.bare fun b hb => ⟨(f3 b hb).1.2.2.2.1, (f3 b hb).1.2.1, (f3 b hb).1.2.2.2.2.1, (f3 b hb).1.2.2.2.2.2⟩
  have n3 : ∀ b ∈ fp, (upd H2 D (.lst [])) b = none := fun b hb => (f3 b hb).1.1
  show codeAny _ _ (.compStart (.ListComp elt [⟨.Name y py, .Name cs pc, [], 0⟩] scope cp) 0 (.ref it) (.ref D) (compEnvC scope (cellsFrom (s3.heap.objs.size + 1) scope.names (cloFrom X.env.cells scope.names [])) s3.heap.objs.size X.env)) (compPost (model X.prog X.w) X.A X.xe none (EP X pins σ Q) (.ref D) s3.heap.objs.size) { s3 with heap := pushCells (s3.heap.push { cls := .type "dict", data := .dict #[] }) scope.names }
  generalize ee : compEnvC scope (cellsFrom (s3.heap.objs.size + 1) scope.names (cloFrom X.env.cells scope.names [])) s3.heap.objs.size X.env = ce at I4 target element ⊢
  have eL : ce.locals = s3.heap.objs.size := by subst ee; rfl
  generalize eH3 : upd H2 D (.lst []) = H3 at I3 I4 target element w0 n3 f3
  generalize e4 : ({ s3 with heap := pushCells (s3.heap.push { cls := .type "dict", data := .dict #[] }) scope.names } : Shared) = s4 at I4 ⊢
  have t4 : tn 0 s4.heap := T.keep _ _ _ t3 fun b _ o q => by rw [← e4]; exact pushCells_keeps _ _ _ _ (Heap.get?_push_of_some _ q)
  have steady : ∀ {σ' : L2.St} {H' : Hp} {s' : Shared}, Inv (X.blk s3 H3 scope ce fp) [] σ' H' s' → (∀ b ∈ fp, H' b = none) → ∀ b ∈ fp, FpOk (X.blk s3 H3 scope ce fp) [] H' b := fun {σ' H' s'} J hn b hb =>
    ⟨hn b hb, (J.ok.exf b hb).1, J.ok.exfs b hb, .inl hb, fun x c q => (J.ok.exf b hb).2 x c q, fun q hq => nomatch (show q ∈ ([] : List (Addr × Obj)) ++ [] from hq)⟩
  have all : codeAny (model X.prog X.w) X.A (.compLoop (.ListComp elt [⟨.Name y py, .Name cs pc, [], 0⟩] scope cp) 0 (.ref it) (.ref D) ce) (compPost (model X.prog X.w) X.A X.xe none (EP X pins σ Q) (.ref D) s3.heap.objs.size) s4 := by
    refine compLoop_any (fun n s' => ∃ i H', n = us.length - i ∧ Inv (X.blk s3 H3 scope ce fp) [] (wipe σ [v]) H' s' ∧ tn i s'.heap ∧ (∀ b ∈ fp, H' b = none) ∧ W i H') ?_ us.length ⟨0, H3, rfl, I4, t4, n3, w0⟩
    rintro n s5 ⟨i, H5, rfl, I5, t5, n5, w5⟩
    obtain ⟨a5, fin, more⟩ := turn i H5 w5
    by_cases hi : us.length ≤ i
    · refine thnF (T.done (X.blk s3 H3 scope ce fp) rfl rfl rfl calm i [] s5 _ H5 (fun _ _ => False) I5 (steady I5 n5) t5 ⟨us, SqL.of a5, hi⟩) fun r s6 ⟨er, I6⟩ => ?_
      subst er
      have I7 : Inv X pins σ H5 s6 := I3.call' (ch := fp) I6.os I6.base I6.hok I6.bare fun b hb => ⟨(f3 b hb).1.2.2.2.1, (f3 b hb).1.2.1, (f3 b hb).1.2.2.2.2.1, (f3 b hb).1.2.2.2.2.2⟩
      have nC : H5 s3.heap.objs.size = none := eL ▸ (show H5 ce.locals = none from I6.free)
      obtain ⟨mm, hn, _⟩ := I6.loc
      have hn : s6.heap.Ns ce.locals mm := hn
      rw [eL] at hn
      obtain ⟨q0, q1, q2, q3, q4, q5⟩ := I3.fpOk (b := s3.heap.objs.size) (Nat.le_refl _) nC
      exact ⟨mm, hn, fun h'' sb => ⟨.ref D, H5, I7.turned (t' := s6.toks) (fun b o hb q => (sb.2 b hb).trans q) q0 q1 q3 q4 q5, rfl, fin hi⟩⟩
    · have hi : i < us.length := Nat.not_le.mp hi
      have eu : us[i]? = some us[i] := List.getElem?_eq_getElem hi
      refine thnF (T.item (X.blk s3 H3 scope ce fp) rfl rfl rfl calm i [] s5 _ H5 (fun _ _ => False) I5 (steady I5 n5) t5 ⟨us, _, SqL.of a5, eu⟩) fun r s6 ⟨u, er, h6⟩ => ?_
      subst er
      refine thnF h6 fun _ s7 ⟨x, H7, I7, r7, ⟨e7, k7⟩, t7, n7⟩ => ?_
      subst e7
      have ex : x = us[i] := by
        have q := k7 us (SqL.of a5)
        rw [eu] at q
        exact (Option.some.inj q).symm
      subst ex
      have P7 := I7.pinned (steady I7 n7) (T.obj _ _ t7)
      refine thnF (target.run _ s7 _ H7 us[i] u (fun σ8 H8 => σ8 = (wipe σ [v]).set v (some us[i]) ∧ H8 = H7) P7 r7 ⟨rfl, rfl⟩) fun _ s8 ⟨σ8, H8, I8, eσ, eH8⟩ => ?_
      subst eσ eH8
      refine thnF ((pts_nil (X := X.blk s3 H3 scope ce fp)).run _ s8 _ H8 (fun b H9 => b = true ∧ H9 = H8) I8 ⟨rfl, rfl⟩) fun b s9 ⟨H9, I9, eb, e9⟩ => ?_
      subst eb e9
      simp only [if_true]
      refine thnF (element.run _ s9 _ H9 _ I9 (more _ eu)) fun z s10 ⟨zv, H10, I10, r10, acc, d10, l10, w10⟩ => ?_
      refine app_ok (X := X.blk s3 H3 scope ce fp) I10 d10 l10 r10 fun s11 I11 => ?_
      have pin : ∀ b ∈ fp, ∀ o, s7.heap.get? b = some o → s11.heap.get? b = some o ∧ (upd H10 D (.lst (acc ++ [zv]))) b = none := fun b hb o q =>
        let z := I11.pin (b, o) (List.mem_append_right _ (List.mem_append_right _ (mem_pinsAt hb q)))
        ⟨z.1, z.2.1⟩
      refine ⟨us.length - (i + 1), by omega, i + 1, _, rfl, (I11.unpinned (pins := [])).weak (by simp) (fun j w q => ?_), T.keep _ _ _ t7 fun b hb o q => (pin b hb o q).1, fun b hb => ?_, w10⟩
      · by_cases hj : v = j
        · subst hj
          exact absurd (wipe_some q).2 (by simp)
        · rw [List.getElem?_set_ne hj]
          exact q
      · obtain ⟨o, q, _⟩ := T.obj _ _ t7 b hb
        exact (pin b hb o q).2
  exact codeAny_compStart_list all (T.self X.A 0 _ _ _ t4 all)
/-! ### the call of said in it -/
section
variable {X : Cx} {G : Fr} {kS kb lv v : Nat} {x y mk a : Str} {N : List Str} {sg : Scope} {said : FnS} {scope : Scope} {p qy pos : Pos} {rho : Ev} {σ : L2.St} {pins : List (Addr × Obj)} {s1 : Shared} {H1 : Hp} {C : Addr} {cl : List (Str × Addr)} {fp : List Addr}
/-- what is asked at a turn: the thing at slot v is a lambda that does what e does -/
def tSays (X : Cx) (G : Fr) (kb : Nat) (mk : Str) (said : FnS) (v : Nat) (rho : Ev) (σ : L2.St) : TE := fun σ' H' F => ∃ u e mu m Own, σ'[v]? = some (some u) ∧ StR G rho mu σ H' m Own ∧ FnE X G kb mk m (G.bar Own) H' u e ∧
  (said (fun mu => e rho mu) mu).wp (fun z mu2 => ∀ w H2 m2, Lf m H' m2 H2 → StR G rho mu2 σ H2 m2 Own → RD m2 (G.bar Own) H2 z w → F w H2) (fun _ _ => False)
theorem c_saidF (back : ∀ pn' σ' H' s', Inv (X.blk s1 H1 scope (compEnvC scope cl C X.env) fp) pn' σ' H' s' → Inv X pins σ H' s') (F : FnT X.prog X.w X.K X.mg X.base kS (He.ga X.K x) x a N sg said) (hmg : X.mg x = some (.ref (He.ga X.K x))) (hkp : PySem.W.keepIn X.K (.ref (He.ga X.K x)) = true) (hK : G.K = X.K) (hr : Rm lv X.A)
    (hy : X.N[v]? = some y) (vy : Vis (relS scope X.env.scope) y) (hq : X.env.qual ++ "<lambda>" = lamQ mk) (hk1 : kS ≤ lv) (hk2 : kb + 2 ≤ lv) (hg : Gl (X.blk s1 H1 scope (compEnvC scope cl C X.env) fp) x) (hdb : (x == ("__debug__" : Str)) = false) (hy1 : (y == ("__debug__" : Str)) = false) (hy2 : (y == ("__classdict__" : Str)) = false) (hda : (a == ("__debug__" : Str)) = false) (hca : (a == ("__classdict__" : Str)) = false)
    (hst : starEach [.Name y qy] (compEnvC scope cl C X.env) = (false, eval (.Name y qy) (compEnvC scope cl C X.env)) :: starEach [] (compEnvC scope cl C X.env) := by rfl) (hpl : (backTo pos (starEach [] (compEnvC scope cl C X.env))).any (·.1) = false := by rfl) :
    PE (X.blk s1 H1 scope (compEnvC scope cl C X.env) fp) (.Call (.Name x p) [.Name y qy] [] pos) (tSays X G kb mk said v rho σ) := by
  refine ⟨fun pn s σ' H' Q IB ⟨u, e, mu, m, Own, hu, S, FE, hw⟩ => ?_⟩
  refine wpAny_Call_Name_kw (ld_glob IB hg hmg ?_ hdb)
  refine PySem.W.callWith_K (h₀ := X.base) IB.ok.mod.kin hkp (Calls.spliced_cons (thn ((pe_var (X := X.blk s1 H1 scope (compEnvC scope cl C X.env) fp) (pos := qy) hy vy hy1 hy2).run pn s σ' H' (fun w H2 => w = u ∧ H2 = H') IB ⟨u, hu, rfl, rfl⟩) fun u0 s2 ⟨w, H2, I2, r2, ew, eH⟩ => Calls.spliced_nil ⟨I2.kIn, ?_⟩)) hst hpl
  subst ew eH
  obtain ⟨f, c', params, body, sc2, rfl, at_, L, hbind, hbody⟩ := FE
  obtain rfl : u0 = Value.ref f := r2
  have IM := back _ _ _ _ I2
  have act : ∀ (cdv : Value) (Eg : XK), Act (cxOf (CXx X.prog X.w) X.prog X.w X.K X.mg X.base N x sg (He.ga X.K x) cdv X.A X.stack s2 H2 Eg) a f (ThR X.K m (G.bar Own) H2 fun mu' => e rho mu') := fun cdv Eg pn2 xe W2 p1 p2 tk2 => by
    refine PEw (act_okT (k := kb) (i := 0) (tb := fun E => TEx G (fun c d _ H' => E c d H') e) IM L hq.symm hbind tk2 ((hr.mono hk2).deeper _) (fun A outer s H E hr2 => hbody A outer s H E f c' hr2 (takes_of rfl rfl rfl rfl)) F.var F.vis hda hca) fun σZ HZ Q' ⟨h1, m2, mu2, l2, w2, h2⟩ => ?_
    have a2 := at_.mono (l2.le (G.bar Own))
    refine ⟨h1, a2.fo, a2.co, ?_⟩
    have S2 : StR G rho mu2 σ HZ m2 Own := S.call l2 (hK ▸ w2)
    refine TEx.to (A := fun z mu' => ∀ v H' m', Lf m2 HZ m' H' → Wd X.K m' (G.bar Own) H' mu' → RD m' (G.bar Own) H' z v → Q' v H') S2 ?_ fun z mu3 v H3 m3 k1 g3 S3 r3 => k1 v H3 m3 g3 (hK ▸ S3.wd) r3
    have h2 : (e rho mu2).wp _ _ := h2
    cases eo : e rho mu2 with
    | ok z mu3 => rw [eo] at h2; exact h2
    | exc y mu3 => rw [eo] at h2; exact fun cc dd H' m' g' S' xr => h2 cc dd H' m' g' (hK ▸ S'.wd) (hK ▸ xr)
    | bad => rw [eo] at h2; exact h2
  refine wpAny_call (codeAny_mono (F.run X.A X.stack s2 H2 f (fun mu' => e rho mu') m (G.bar Own) mu Q (fun _ _ _ => False) (hr.mono hk1) I2.env0 act (hK ▸ S.wd) ?_) fun r s3 hq => ?_)
  · cases eo : said (fun mu' => e rho mu') mu with
    | ok z mu3 => rw [eo] at hw; exact fun v H' m' g' w' r' => hw v H' m' g' (S.call g' (hK ▸ w')) r'
    | exc y mu3 => rw [eo] at hw; exact hw.elim
    | bad => rw [eo] at hw; exact hw
  · cases r with
    | error er => exact passAt (W := WF) takesF σ' pn H2 s2 er s3 I2 hq
    | ok fl => cases fl with
      | ret u => exact I2.after hq
      | next => exact hq.elim
      | brk => exact hq.elim
      | cont => exact hq.elim
end
/-! ### the def: a list of lambdas is filled, each one is called -/
/-- what said tells of each -/
def saysL (said : FnS) : List EvD → Ev → Mem → Out (List Da)
  | [], _, mu => .ok [] mu
  | e :: es, rho, mu => bnd (noX (said (fun mu' => e rho mu') mu)) fun z mu1 => bnd (saysL said es rho mu1) fun zs mu2 => .ok (z :: zs) mu2
def unAt (k : Nat) (rho : Ev) : Bool := (match rho[k]? with
  | some .un => true
  | _ => false) && rho.all fun s => !s.isOwn
/-- k: the slot of the list -/
def callsD (said : FnS) (k : Nat) (es : List EvD) : StD := fun rho mu => if unAt k rho = true then (match saysL said es rho mu with
  | .ok zs mu1 => .rt (.lst zs) mu1
  | _ => .bad) else .bad
theorem callsD_bad {said : FnS} {k : Nat} {es : List EvD} {rho : Ev} {mu : Mem} (h : unAt k rho = false) : callsD said k es rho mu = .bad := by
  unfold callsD
  rw [h]
  rfl
theorem saysL_exc {said : FnS} : ∀ {es : List EvD} {rho : Ev} {mu : Mem} {x : Exn} {mu1 : Mem}, saysL said es rho mu ≠ .exc x mu1
  | [], _, _, _, _ => by intro h; cases h
  | e :: es, rho, mu, x, mu1 => by
    intro h
    unfold saysL at h
    cases e1 : said (fun mu' => e rho mu') mu with
    | ok z mu2 =>
      rw [e1] at h
      simp only [noX, bnd] at h
      cases e2 : saysL said es rho mu2 with
      | ok zs mu3 => rw [e2] at h; cases h
      | exc x2 mu3 => exact saysL_exc e2
      | bad => rw [e2] at h; cases h
    | exc x2 mu2 => rw [e1] at h; cases h
    | bad => rw [e1] at h; cases h
theorem un_at {k : Nat} {rho : Ev} (h : unAt k rho = true) : rho[k]? = some .un ∧ ∀ (i : Nat) (xs : List Da), rho[i]? ≠ some (Sl.own xs) := by
  unfold unAt at h
  rw [Bool.and_eq_true, List.all_eq_true] at h
  refine ⟨?_, fun i xs e => ?_⟩
  · have h1 := h.1
    split at h1
    · assumption
    · cases h1
  · have z := h.2 _ (List.mem_of_getElem? e)
    cases z
section
variable {G : Fr} {rho : Ev} {mu : Mem} {σ : L2.St} {H : Hp} {m : List Addr} {Own : Addr → Prop}
/-- a slot of which nothing is told may hold any thing -/
theorem StR.setu (S : StR G rho mu σ H m Own) {k : Nat} (h : rho[k]? = some .un) (x : Option V) : StR G rho mu (σ.set k x) H m Own := by
  have er : rho.set k .un = rho := by
    obtain ⟨hl, e⟩ := List.getElem?_eq_some_iff.mp h
    rw [← e]
    exact List.set_getElem_self hl
  refine ⟨S.le, S.wd, ?_, S.ow, fun i j a xs ys hij h1 h2 h3 => ?_⟩
  · have z := paired_set (F := fun (s : Sl) (o : Option V) => SlR m (G.bar Own) H Own s o) (x := .un) (y := x) True.intro k S.sl
    rw [er] at z
    exact z
  · have ni : k ≠ i := fun z => by subst z; rw [h] at h1; cases h1
    have nj : k ≠ j := fun z => by subst z; rw [h] at h2; cases h2
    rw [List.getElem?_set_ne ni] at h3
    rw [List.getElem?_set_ne nj]
    exact S.dj i j a xs ys hij h1 h2 h3
end
/-- the list at slot k holds lambdas that do what ls do -/
def TCalls (X : Cx) (G : Fr) (W : WX) (kb : Nat) (mk : Str) (k : Nat) (ls : List EvD) (b : StD) : TS := fun D σ H => ∃ rho mu m Own, StR G rho mu σ H m Own ∧ unAt k rho = true ∧
  (∃ a us, σ[k]? = some (some (.ref a)) ∧ Own a ∧ H a = some (.lst us) ∧ Paired (fun u e => FnE X G kb mk m (G.bar Own) H u e) us ls) ∧ SOk G W D m Own H (b rho mu)
section
variable {X : Cx} {G : Fr} {W : WX} {kS kb lv k v : Nat} {x y cs mk a : Str} {N bn : List Str} {sg scope : Scope} {said : FnS} {params : Arguments} {body : Expr} {b : StD} {e : EvD} {ls all : List EvD} {rest : List Stmt} {lpos p1 p2 p3 ap cpos pos : Pos}
/-- what is asked of each lambda -/
structure LamG (X : Cx) (G : Fr) (kb : Nat) (params : Arguments) (body : Expr) (scope : Scope) (e : EvD) : Prop where
  lt : LamT X.N [] X.env.scope scope
  df : defaultsOf params X.env = ([], [])
  bd : ∀ (q : Str) (cl : List (Str × Addr)) (doc pm ctv : Value) (c' : Addr), bindArgs (lamFd q params body scope cl .none doc pm c' ctv) ⟨[], []⟩ = pure []
  by_ : ∀ (A : Around) (outer : List Env) (s : Shared) (H : Hp) (E : XK) (f c' : Addr), Rm kb (A.deeper (LamX.lamEnv X scope s.heap.objs.size f c')) → Takes (LamX.lamCx X A outer s H E scope f c') (fun c d _ H' => E c d H') → PE (LamX.lamCx X A outer s H E scope f c') body (TEx G (fun c d _ H' => E c d H') e)
/-- the maker: its names, its table -/
structure MakG (X : Cx) (G : Fr) (mk : Str) : Prop where
  K : G.K = X.K
  tb : TbOk X.K X.mg X.base
  ta : (PySem.W.tabIn X.K mk).isSome = true
  cd : CdOf X.K (He.ga X.K mk) X.env.code
  mem : mk ∈ mkrs
  q : X.env.qual ++ "<lambda>" = lamQ mk
theorem k_first (M : MakG X G mk) (L : LamG X G kb params body scope e) (hN : X.N.Nodup) (hk : X.N[k]? = some cs) (hb : ∀ rho mu, unAt k rho = false → b rho mu = .bad) (ht : PSs X rest (TCalls X G W kb mk k [e] b)) (hx : Loc X.env.scope cs := by first | exact Or.inl rfl | exact Or.inr rfl) (hf : X.fn cs = true ∨ X.env.scope.names.lookup cs = some .local := by first | exact .inl rfl | exact .inr rfl)
    (hs : swapsWith (.List [.Lambda params body scope lpos] p1) (some (.Name cs p2)) pos.line X.env = pure false := by rfl) (hst : starEach [.Lambda params body scope lpos] X.env = (false, eval (.Lambda params body scope lpos) X.env) :: starEach [] X.env := by rfl) :
    PSs X (.Assign [.Name cs p2] (.List [.Lambda params body scope lpos] p1) pos :: rest) (TSx G W b) := by
  refine PSsw (pss_cons (ps_set hN hk hx (pe_lst (pa_cons (pe_lamF M.K M.tb M.ta M.cd L.lt L.df M.mem M.q) pa_nil hst)) hs hf) ht) fun D σ H ⟨rho, mu, m, Own, S, h⟩ => ?_
  cases eu : unAt k rho with
  | false => rw [hb rho mu eu] at h; exact h.elim
  | true =>
    obtain ⟨u1, u2⟩ := un_at eu
    refine ⟨rho, mu, m, Own, S, fun f c' H1 l1 S1 F1 nf => ⟨by show 1 ≤ sizeLine; exact sz_le (by decide), fun p hp => ?_⟩⟩
    obtain ⟨S2, g2⟩ := S1.bar1 (o := .lst [.ref f]) hp
    exact ⟨rho, mu, m, _, S2.setu u1 _, eu, ⟨p, [.ref f], by rw [List.getElem?_set_self]; rw [← paired_len S.sl]; exact (List.getElem?_eq_some_iff.mp u1).1, .inr rfl, upd_same, .cons ⟨f, c', params, body, scope, rfl, F1.mono g2, L.lt, L.bd, L.by_⟩ .nil⟩, h.step ((l1.le _).trans g2)⟩
theorem k_more (M : MakG X G mk) (L : LamG X G kb params body scope e) (hk : X.N[k]? = some cs) (vk : Vis X.env.scope cs) (hd1 : (cs == ("__debug__" : Str)) = false) (hd2 : (cs == ("__classdict__" : Str)) = false) (hlen : ls.length ≤ 100) (ht : PSs X rest (TCalls X G W kb mk k (ls ++ [e]) b))
    (hs : swapsWith (.Call (.Attribute (.Name cs p1) "append" ap) [.Lambda params body scope lpos] [] cpos) none pos.line X.env = pure false := by rfl) (hbase : attributeBase (.Name cs p1) "append" X.env (eval (.Name cs p1) X.env) = eval (.Name cs p1) X.env := by rfl)
    (hfew : ((backTo cpos (starEach [.Lambda params body scope lpos] X.env)).all (fun x => !x.1) && (backToKw cpos (keywordEach [] X.env)).all (fun x => x.1.isSome) && decide ([Expr.Lambda params body scope lpos].length + ([] : List Keyword).length + (if ([] : List Keyword).isEmpty then 0 else 1) < 30)) = true := by rfl)
    (hline : (ap.endLine == cpos.line) = true := by rfl) (hst : starEach [.Lambda params body scope lpos] X.env = (false, eval (.Lambda params body scope lpos) X.env) :: starEach [] X.env := by rfl) (hpl : (backTo cpos (starEach [] X.env)).any (·.1) = false := by rfl) :
    PSs X (.Expr (.Call (.Attribute (.Name cs p1) "append" ap) [.Lambda params body scope lpos] [] cpos) pos :: rest) (TCalls X G W kb mk k ls b) := by
  refine PSsw (pss_cons (ps_expr (pe_bm PySem.F.plainAttrs_list PySem.F.slot_list_append PySem.F.type_list_append mt_append (pe_var hk vk hd1 hd2) (pa_cons (pe_lamF M.K M.tb M.ta M.cd L.lt L.df M.mem M.q) pa_nil hst) hbase hfew hline hst hpl) hs) ht) fun D σ H ⟨rho, mu, m, Own, S, eu, ⟨a, us, e1, e2, e3, pr⟩, h⟩ => ?_
  refine ⟨_, e1, .inl ⟨rfl, _, SqL.of e3⟩, rho, mu, m, Own, S, fun f c' H1 l1 S1 F1 nf => ?_⟩
  have nm : a ∉ m := fun z => S.wd.dis a z (.inr e2)
  have e4 : H1 a = some (.lst us) := l1.keep a _ e3 (fun _ z => nomatch z) nm id
  have lu : us.length ≤ 100 := by rw [paired_len pr]; exact hlen
  refine ⟨a, us, .ref f, rfl, rfl, e4, Nat.lt_of_le_of_lt lu (by show 100 < sizeLine; exact sz_le (by decide)), ?_⟩
  obtain ⟨S2, g2⟩ := S1.write (.lst (us ++ [.ref f])) e2 fun i xs q => absurd q ((un_at eu).2 i xs)
  exact ⟨rho, mu, m, Own, S2, eu, ⟨a, us ++ [.ref f], e1, e2, upd_same, paired_snoc ⟨f, c', params, body, scope, rfl, F1.mono g2, L.lt, L.bd, L.by_⟩ (paired_imp (fun _ _ z => z.mono ((l1.le _).trans g2)) pr)⟩, h.step ((l1.le _).trans g2)⟩
theorem k_ret {all : List EvD} {scope : Scope} {py qy pc cp p : Pos} (F : FnT X.prog X.w X.K X.mg X.base kS (He.ga X.K x) x a N sg said) (hmg : X.mg x = some (.ref (He.ga X.K x))) (hkp : PySem.W.keepIn X.K (.ref (He.ga X.K x)) = true) (M : MakG X G mk) (hr : Rm lv X.A) (calm : X.calm = true) (nd : X.N.Nodup) (hk : X.N[k]? = some cs) (vk : Vis X.env.scope cs) (hv : X.N[v]? = some y)
    (bo : BlkOk X.N X.env.scope scope [(y, v)]) (tgt : ∀ (s : Shared) (H : Hp) (C : Addr) (cl : List (Str × Addr)) (fp : List Addr), PG (X.blk s H scope (compEnvC scope cl C X.env) fp) (.Name y py) (gName v)) (vy : Vis (relS scope X.env.scope) y) (hk1 : kS ≤ lv) (hk2 : kb + 2 ≤ lv) (hlen : all.length ≤ 100)
    (hg : ∀ (s : Shared) (H : Hp) (C : Addr) (cl : List (Str × Addr)) (fp : List Addr), Gl (X.blk s H scope (compEnvC scope cl C X.env) fp) x) (hdx : (x == ("__debug__" : Str)) = false := by decide) (hy1 : (y == ("__debug__" : Str)) = false := by decide) (hy2 : (y == ("__classdict__" : Str)) = false := by decide) (hda : (a == ("__debug__" : Str)) = false := by decide) (hca : (a == ("__classdict__" : Str)) = false := by decide) (hd1 : (cs == ("__debug__" : Str)) = false := by decide) (hd2 : (cs == ("__classdict__" : Str)) = false := by decide)
    (hst : ∀ (C : Addr) (cl : List (Str × Addr)), starEach [.Name y qy] (compEnvC scope cl C X.env) = (false, eval (.Name y qy) (compEnvC scope cl C X.env)) :: starEach [] (compEnvC scope cl C X.env) := by intro _ _; rfl) (hpl : ∀ (C : Addr) (cl : List (Str × Addr)), (backTo cpos (starEach [] (compEnvC scope cl C X.env))).any (·.1) = false := by intro _ _; rfl) :
    PSs X [.Return (some (.ListComp (.Call (.Name x p) [.Name y qy] [] cpos) [⟨.Name y py, .Name cs pc, [], 0⟩] scope cp)) pos] (TCalls X G W kb mk k all (callsD said k all)) := by
  refine pss_one (PSw (ps_ret (te := fun σ H Q => ∃ rho mu m Own a us, StR G rho mu σ H m Own ∧ unAt k rho = true ∧ σ[k]? = some (some (.ref a)) ∧ Own a ∧ H a = some (.lst us) ∧ Paired (fun u e => FnE X G kb mk m (G.bar Own) H u e) us all ∧
    (saysL said all rho mu).wp (fun zs mu' => ∀ v H' m', Lf m H m' H' → StR G rho mu' σ H' m' Own → RD m' (G.bar Own) H' (.lst zs) v → Q v H') (fun _ _ => False)) ⟨fun pins s σ H Q I ⟨rho, mu, m, Own, l, us, S, eu, e1, e2, e3, pr, hw⟩ => ?_⟩) ?_)
  · refine comp_calls (te := tSays X G kb mk said v rho σ) I calm nd bo hk vk hd1 hd2 e1 e3 tgt (fun s1 H1 C cl fp back => c_saidF back F hmg hkp M.K hr hv vy M.q hk1 hk2 (hg _ _ _ _ _) hdx hy1 hy2 hda hca (hst C cl) (hpl C cl)) fun D nD => ?_
    obtain ⟨f1, f2⟩ := S.fresh nD
    have nS := fun (i : Nat) (xs : List Da) => (un_at eu).2 i xs
    obtain ⟨S0, g0⟩ := S.bar1 (o := .lst []) nD
    have nl : l ∉ m := fun z => S.wd.dis l z (.inr e2)
    have nlD : l ≠ D := fun z => by rw [z, nD] at e3; cases e3
    have lu : us.length = all.length := paired_len pr
    refine ⟨fun i H' => i ≤ us.length ∧ ∃ mu' m' acc av, Lf m H m' H' ∧ StR G rho mu' σ H' m' (fun b => Own b ∨ b = D) ∧ H' D = some (.lst av) ∧ RDs m' (G.bar fun b => Own b ∨ b = D) H' acc av ∧ acc.length = i ∧ H' l = some (.lst us) ∧
      Paired (fun u e => FnE X G kb mk m' (G.bar fun b => Own b ∨ b = D) H' u e) us all ∧ (saysL said (all.drop i) rho mu').wp (fun zs mu2 => ∀ v H2 m2, Lf m H m2 H2 → StR G rho mu2 σ H2 m2 Own → RD m2 (G.bar Own) H2 (.lst (acc ++ zs)) v → Q v H2) (fun _ _ => False),
      ⟨Nat.zero_le _, mu, m, [], [], Lf.of_same (same_upd nD), S0, upd_same, .nil, rfl, by rw [upd_ne nlD]; exact e3, paired_imp (fun _ _ z => z.mono g0) pr, hw⟩, ?_⟩
    rintro i H5 ⟨hi, mu5, m5, acc, av, l5, S5, d5, r5, la, c5, p5, w5⟩
    have nD5 : D ∉ m5 := fun z => S5.wd.dis D z (.inr (.inr rfl))
    have nl5 : l ∉ m5 := fun z => S5.wd.dis l z (.inr (.inl e2))
    refine ⟨c5, fun hu => ?_, fun u hu => ?_⟩
    · rw [List.drop_eq_nil_of_le (by omega)] at w5
      have w5 : ∀ v H2 m2, Lf m H m2 H2 → StR G rho mu5 σ H2 m2 Own → RD m2 (G.bar Own) H2 (.lst (acc ++ [])) v → Q v H2 := w5
      rw [List.append_nil] at w5
      exact w5 (.ref D) H5 m5 l5 (S5.unbar fun i xs q => absurd q (nS i xs)) (.lst nD5 f2 d5 (RDs.mono (Le.less fun a z => z.elim .inl fun q => .inr (.inl q)) r5))
    · obtain ⟨e, ee, fe⟩ := paired_get p5 hu
      have ia : i < all.length := (List.getElem?_eq_some_iff.mp ee).1
      have ed : all.drop i = e :: all.drop (i + 1) := by
        rw [List.drop_eq_getElem_cons ia]
        rw [List.getElem?_eq_getElem ia] at ee
        rw [Option.some.inj ee]
      rw [ed] at w5
      unfold saysL at w5
      have hiv : v < σ.length := by rw [I.len]; exact (List.getElem?_eq_some_iff.mp hv).1
      refine ⟨u, e, mu5, m5, _, by rw [List.getElem?_set_self]; rw [wipe_length]; exact hiv, S5, fe, ?_⟩
      cases es : said (fun mu => e rho mu) mu5 with
      | exc x u => rw [es] at w5; exact w5.elim
      | bad => rw [es] at w5; exact w5.elim
      | ok z mu6 =>
        rw [es] at w5
        simp only [noX, bnd] at w5
        intro zv H6 m6 l6 S6 r6
        have d6 : H6 D = some (.lst av) := l6.keep D _ d5 (fun _ z => nomatch z) nD5 id
        have c6 : H6 l = some (.lst us) := l6.keep l _ c5 (fun _ z => nomatch z) nl5 id
        obtain ⟨S7, g7⟩ := S6.write (.lst (av ++ [zv])) (.inr rfl) fun i xs q => absurd q (nS i xs)
        have r7 := RDs.mono g7 ((RDs.mono (l6.le (G.bar fun b => Own b ∨ b = D)) r5).append (.cons r6 .nil))
        have hlt : i < us.length := (List.getElem?_eq_some_iff.mp hu).1
        refine ⟨av, d6, by rw [← r5.length, la]; exact Nat.lt_of_lt_of_le hlt (by rw [lu]; exact Nat.le_trans hlen (sz_le (by decide))), hlt, mu6, m6, acc ++ [z], av ++ [zv], ?_, S7, upd_same, r7, by rw [List.length_append, la]; rfl, by rw [upd_ne nlD]; exact c6, paired_imp (fun _ _ z => z.mono ((l6.le _).trans g7)) p5, ?_⟩
        · have l7 := l5.trans l6
          refine ⟨l7.pre, fun b o q n n1 n2 => ?_, fun b q => l7.dom b (g7.dom b q), fun b z => z.elim⟩
          rw [upd_ne (fun (t : b = D) => by rw [t, nD] at q; cases q)]
          exact l7.keep b o q n n1 n2
        · cases er : saysL said (all.drop (i + 1)) rho mu6 with
          | exc x u => exact absurd er saysL_exc
          | bad => rw [er] at w5; exact w5.elim
          | ok zs mu7 =>
            rw [er] at w5
            have w5 : ∀ v H2 m2, Lf m H m2 H2 → StR G rho mu7 σ H2 m2 Own → RD m2 (G.bar Own) H2 (.lst (acc ++ z :: zs)) v → Q v H2 := w5
            intro v2 H2 m2
            rw [List.append_assoc]
            exact w5 v2 H2 m2
  · intro D σ H ⟨rho, mu, m, Own, S, eu, ⟨l, us, e1, e2, e3, pr⟩, h⟩
    refine ⟨rho, mu, m, Own, l, us, S, eu, e1, e2, e3, pr, ?_⟩
    unfold callsD at h
    rw [if_pos eu] at h
    cases es : saysL said all rho mu with
    | exc x u => rw [es] at h; exact h.elim
    | bad => rw [es] at h; exact h.elim
    | ok zs mu1 =>
      rw [es] at h
      exact fun v H' m' l1 S1 r1 => ret_ok S1 (h.step (l1.le _)) S1 r1
end
end Sk

/-! ### what the head reads -/
namespace Sk
open PySem PySem.Spec L2
def top (i : Nat) : Stmt := PySem.Challenge.pw_strokesheard_k21_refused_at_each_door.main.body.getD i (.Pass ⟨0, 0, 0, 0⟩)
abbrev st_law_begin : Stmt := top 87
abbrev st_law_next : Stmt := top 88
abbrev st_law_pick : Stmt := top 89
abbrev st_is_integer : Stmt := top 17
abbrev st_is_whole : Stmt := top 18
abbrev st_book_fault : Stmt := top 19
abbrev st_need_book : Stmt := top 20
abbrev st_is_start : Stmt := top 24
abbrev st_need_start : Stmt := top 25
abbrev st_struck : Stmt := top 28
abbrev st_need_marks : Stmt := top 26
abbrev st_strokes_at : Stmt := top 29
abbrev st_need_pair : Stmt := top 42
abbrev st_over_by : Stmt := top 40
abbrev st_common_round : Stmt := top 30
abbrev st_rises_of : Stmt := top 39
abbrev st_over_in : Stmt := top 41
abbrev st_over : Stmt := top 43
abbrev st_need_loss : Stmt := top 21
abbrev st_heard_fault : Stmt := top 22
abbrev st_need_heard : Stmt := top 23
abbrev st_need_all : Stmt := top 56
abbrev st_all_starts : Stmt := top 27
abbrev st_missed_in : Stmt := top 52
abbrev st_fits : Stmt := top 54
abbrev st_fitting_in : Stmt := top 55
abbrev st_fitting : Stmt := top 57
abbrev st_reach_of : Stmt := top 46
abbrev st_longest_in : Stmt := top 47
abbrev st_longest : Stmt := top 48
abbrev st_law_fault : Stmt := top 90
abbrev st_law_said : Stmt := top 91
abbrev st_normal_of : Stmt := top 34
abbrev st_need_clock : Stmt := top 33
abbrev st_normal : Stmt := top 35
abbrev st_are_alike : Stmt := top 36
abbrev st_numbers_text : Stmt := top 83
abbrev st_book_text : Stmt := top 84
abbrev st_are_same_in : Stmt := top 31
abbrev st_tolerance : Stmt := top 71
abbrev st_law_books : Stmt := top 97
abbrev st_can_confuse_in : Stmt := top 44
abbrev st_can_confuse : Stmt := top 45
abbrev st_row_in : Stmt := top 49
abbrev st_confused_row : Stmt := top 50
abbrev st_wait_in : Stmt := top 65
abbrev st_wait_of : Stmt := top 66
abbrev st_worst_in : Stmt := top 67
abbrev st_worst_wait : Stmt := top 68
abbrev st_best_starts : Stmt := top 69
abbrev st_clock_wait : Stmt := top 70
abbrev st_are_sure : Stmt := top 58
abbrev st_known_behind : Stmt := top 59
abbrev st_next_in : Stmt := top 60
abbrev st_next_strokes : Stmt := top 61
abbrev st_stretches : Stmt := top 62
abbrev st_may_hear : Stmt := top 63
abbrev st_need_asked : Stmt := top 75
abbrev st_known_paper : Stmt := top 76
abbrev st_does_confuse : Stmt := top 77
abbrev st_check_known : Stmt := top 78
abbrev st_law_losses : Stmt := top 92
abbrev st_are_same : Stmt := top 32
abbrev st_missed : Stmt := top 53
abbrev st_law_starts_so : Stmt := top 93
abbrev st_law_clocks : Stmt := top 98
abbrev st_law_seconds : Stmt := top 94
abbrev st_heard_text : Stmt := top 85
abbrev st_law_rows : Stmt := top 95
abbrev st_law_marks : Stmt := top 96
abbrev st_law : Stmt := top 99
abbrev st_BadBook_ini : Stmt := mem (top 2) 0
abbrev st_BadStart_ini : Stmt := mem (top 5) 0
abbrev st_BadNumber_ini : Stmt := mem (top 6) 0
abbrev st_BadLoss_ini : Stmt := mem (top 3) 0
abbrev st_BadHeard_ini : Stmt := mem (top 4) 0
def fn : List DA := [dOfA "_law_begin" st_law_begin,
 dOfA "_law_next" st_law_next,
 dOfA "_law_pick" st_law_pick,
 dOfA "is_integer" st_is_integer,
 dOfA "is_whole" st_is_whole,
 dOfA "book_fault" st_book_fault,
 dOfA "need_book" st_need_book,
 dOfA "is_start" st_is_start,
 dOfA "need_start" st_need_start,
 dOfA "struck" st_struck,
 dOfA "need_marks" st_need_marks,
 dOfA "strokes_at" st_strokes_at,
 dOfA "need_pair" st_need_pair,
 dOfA "over_by" st_over_by,
 dOfA "common_round" st_common_round,
 dOfA "rises_of" st_rises_of,
 dOfA "over_in" st_over_in,
 dOfA "over" st_over,
 dOfA "need_loss" st_need_loss,
 dOfA "heard_fault" st_heard_fault,
 dOfA "need_heard" st_need_heard,
 dOfA "need_all" st_need_all,
 dOfA "all_starts" st_all_starts,
 dOfA "missed_in" st_missed_in,
 dOfA "fits" st_fits,
 dOfA "fitting_in" st_fitting_in,
 dOfA "fitting" st_fitting,
 dOfA "reach_of" st_reach_of,
 dOfA "longest_in" st_longest_in,
 dOfA "longest" st_longest,
 dOfA "_law_fault" st_law_fault,
 dOfA "_law_said" st_law_said,
 dOfA "normal_of" st_normal_of,
 dOfA "need_clock" st_need_clock,
 dOfA "normal" st_normal,
 dOfA "are_alike" st_are_alike,
 dOfA "numbers_text" st_numbers_text,
 dOfA "book_text" st_book_text,
 dOfA "are_same_in" st_are_same_in,
 dOfA "tolerance" st_tolerance,
 dOfA "_law_books" st_law_books,
 dOfA "can_confuse_in" st_can_confuse_in,
 dOfA "can_confuse" st_can_confuse,
 dOfA "row_in" st_row_in,
 dOfA "confused_row" st_confused_row,
 dOfA "wait_in" st_wait_in,
 dOfA "wait_of" st_wait_of,
 dOfA "worst_in" st_worst_in,
 dOfA "worst_wait" st_worst_wait,
 dOfA "best_starts" st_best_starts,
 dOfA "clock_wait" st_clock_wait,
 dOfA "are_sure" st_are_sure,
 dOfA "known_behind" st_known_behind,
 dOfA "next_in" st_next_in,
 dOfA "next_strokes" st_next_strokes,
 dOfA "stretches" st_stretches,
 dOfA "may_hear" st_may_hear,
 dOfA "need_asked" st_need_asked,
 dOfA "known_paper" st_known_paper,
 dOfA "does_confuse" st_does_confuse,
 dOfA "check_known" st_check_known,
 dOfA "_law_losses" st_law_losses,
 dOfA "are_same" st_are_same,
 dOfA "missed" st_missed,
 dOfA "_law_starts_so" st_law_starts_so,
 dOfA "_law_clocks" st_law_clocks,
 dOfA "_law_seconds" st_law_seconds,
 dOfA "heard_text" st_heard_text,
 dOfA "_law_rows" st_law_rows,
 dOfA "_law_marks" st_law_marks,
 dOfA "law" st_law,
 dOfM "BadBook" "__init__" st_BadBook_ini,
 dOfM "BadStart" "__init__" st_BadStart_ini,
 dOfM "BadNumber" "__init__" st_BadNumber_ini,
 dOfM "BadLoss" "__init__" st_BadLoss_ini,
 dOfM "BadHeard" "__init__" st_BadHeard_ini]
def exs : List (PySem.W.Frag → Bool) := [fun K => xcB K "BadBook" "place" .ve, fun K => giB K "HearError" "ValueError.__init__", fun K => xcB K "BadStart" "given" .ve, fun K => xcB K "BadNumber" "given" .ve, fun K => xcB K "BadLoss" "part" .ve, fun K => xcB K "BadHeard" "number" .ve, fun K => isxB K "BadBook" [("BadBook", true), ("BadLoss", false), ("BadStart", false), ("BadHeard", false), ("BadNumber", false)], fun K => atxB K "place" ["BadBook"], fun K => isxB K "BadLoss" [("BadBook", false), ("BadLoss", true), ("BadStart", false), ("BadHeard", false), ("BadNumber", false)], fun K => atxB K "part" ["BadLoss"], fun K => isxB K "BadHeard" [("BadBook", false), ("BadLoss", false), ("BadStart", false), ("BadHeard", true), ("BadNumber", false)], fun K => atxB K "number" ["BadHeard"], fun K => isxB K "BadStart" [("BadBook", false), ("BadLoss", false), ("BadStart", true), ("BadHeard", false), ("BadNumber", false)], fun K => atxB K "given" ["BadStart", "BadNumber"], fun K => isxB K "BadNumber" [("BadBook", false), ("BadLoss", false), ("BadStart", false), ("BadHeard", false), ("BadNumber", true)], fun K => isxB K "BadPaper" [("BadBook", false), ("BadLoss", false), ("BadStart", false), ("BadHeard", false), ("BadNumber", false)], fun K => isxB K "BadText" [("BadBook", false), ("BadLoss", false), ("BadStart", false), ("BadHeard", false), ("BadNumber", false)], fun K => atxB K "word" [], fun K => atxB K "line" [], fun K => isxB K "TooMany" [("BadBook", false), ("BadLoss", false), ("BadStart", false), ("BadHeard", false), ("BadNumber", false)], fun K => atxB K "most" [], fun K => isxB K "NothingLeft" [("BadBook", false), ("BadLoss", false), ("BadStart", false), ("BadHeard", false), ("BadNumber", false)], fun K => atxB K "many" [], fun K => hit9B K [("BadBook", true), ("BadLoss", true), ("BadStart", true), ("BadHeard", true), ("BadNumber", true)], fun K => tabB K "_law_books", fun K => tabB K "_law_losses", fun K => tabB K "_law_starts_so", fun K => tabB K "_law_clocks", fun K => tabB K "_law_seconds", fun K => tabB K "_law_rows", fun K => tabB K "_law_marks"]
def fa : List He.Fa := [.glo "_law_begin", .glo "_law_next", .glo "_law_pick", .glo "is_integer", .glo "is_whole", .glo "book_fault", .glo "need_book", .glo "is_start", .glo "need_start", .glo "struck", .glo "need_marks", .glo "strokes_at", .glo "need_pair", .glo "over_by", .glo "common_round", .glo "rises_of", .glo "over_in", .glo "over", .glo "need_loss", .glo "heard_fault", .glo "need_heard", .glo "need_all", .glo "all_starts", .glo "missed_in", .glo "fits", .glo "fitting_in", .glo "fitting", .glo "reach_of", .glo "longest_in", .glo "longest"] ++ [.glo "_law_fault", .glo "_law_said", .glo "normal_of", .glo "need_clock", .glo "normal", .glo "are_alike", .glo "numbers_text", .glo "book_text", .glo "are_same_in", .glo "tolerance", .glo "_law_books", .glo "can_confuse_in", .glo "can_confuse", .glo "row_in", .glo "confused_row", .glo "wait_in", .glo "wait_of", .glo "worst_in", .glo "worst_wait", .glo "best_starts", .glo "clock_wait", .glo "are_sure", .glo "known_behind", .glo "next_in", .glo "next_strokes", .glo "stretches", .glo "may_hear", .glo "need_asked", .glo "known_paper", .glo "does_confuse"] ++ [.glo "check_known", .glo "_law_losses", .glo "are_same", .glo "missed", .glo "_law_starts_so", .glo "_law_clocks", .glo "_law_seconds", .glo "heard_text", .glo "_law_rows", .glo "_law_marks", .glo "law", .free "len", .free "isinstance", .free "int", .free "bool", .free "tuple", .int "MOST_CLOCKS" 3, .free "enumerate", .int "MOST_MARKS" 24, .int "MOST_STROKES" 99, .glo "BadBook", .glo "HearError", .glo "BadStart", .int "MOST_NUMBER" 1000000000000000000000000000000, .glo "BadNumber", .free "range", .free "max", .glo "BadLoss", .int "MOST_HEARD" 1000, .glo "BadHeard"] ++ [.free "min", .glo "BadPaper", .glo "BadText", .glo "TooMany", .glo "NothingLeft", .str "BLANK" " ", .free "str", .str "LINE_END" "\n", .free "all", .int "MOST_SHOWN" 1000, .free "list", .free "sorted", .str "CONFUSED" "confused", .str "KNOWN" "known", .str "NONE" "-", .free "repr"]
end Sk
/-! ### the head -/
namespace Sk
open PySem PySem.Spec PyProof.Rows L2
abbrev RR : PySem.W.OpenRow := PySem.W.OpenLaw.row PySem.Challenge.rw_strokesheard_k21_refused_at_each_door
abbrev hk : PySem.W.Hook := hookA 7 fa fn (exL exs)
def ob (s : PySem.W.SharedT) : AlA × Bool := obsA 7 fa fn (exL exs) (HandSHeadRun.getT s)
theorem ob_eq (s : PySem.W.SharedT) : ob s = hk.obs s.abs := obsA_eq (HandSHeadRun.getT_eq s)
def loose : List Str := (["HearError", "BadBook", "BadLoss", "BadHeard", "BadStart", "BadNumber", "BadPaper", "BadText", "TooMany", "NothingLeft", "MOST_CLOCKS", "MOST_MARKS", "MOST_STROKES", "MOST_HEARD", "MOST_NUMBER", "is_integer", "is_whole", "book_fault", "need_book", "need_loss", "heard_fault", "need_heard", "is_start", "need_start", "need_marks", "all_starts", "struck", "strokes_at", "common_round", "are_same_in"] : List Str) ++ (["are_same", "need_clock", "normal_of", "normal", "are_alike", "MOST_SHOWN", "rises_of", "over_by", "over_in", "need_pair", "over", "can_confuse_in", "can_confuse", "reach_of", "longest_in", "longest", "row_in", "confused_row", "missed_in", "missed", "fits", "fitting_in", "need_all", "fitting", "are_sure", "known_behind", "next_in", "next_strokes", "stretches", "may_hear"] : List Str) ++ (["wait_in", "wait_of", "worst_in", "worst_wait", "best_starts", "clock_wait", "tolerance", "KNOWN", "CONFUSED", "need_asked", "known_paper", "does_confuse", "check_known", "BLANK", "LINE_END", "NONE", "numbers_text", "book_text", "heard_text", "_law_begin", "_law_next", "_law_pick", "_law_fault", "_law_said", "_law_losses", "_law_starts_so", "_law_seconds", "_law_rows", "_law_marks", "_law_books"] : List Str) ++ (["_law_clocks"] : List Str)
theorem run (w : World) : HandSHeadRun.RunEq RR (PySem.W.view RR.prog [99]) hk ob 20000 loose w := by
  intro os
  kernel_rfl
end Sk
/-! ### the mirrors -/
namespace Sk
/-- names: 0 _law_script -/
@[irreducible] def m_law_begin : Fn := fnD 1 0
 (sRet (eDisp ["cells", "at", "left", "used"] (aC (eScr (eV 0) (eLst (aC (eK (.int 0)) aN))) (aC (eK (.int 0)) (aC (eK (.int 0)) (aC (eK (.int 0)) aN))))))
/-- names: 0 _law_draw, 1 _law_many, 2 _law_cells, 3 _law_cell, 4 _law_number, 5 _law_k -/
@[irreducible] def m_law_next : Fn := fnD 2 4
 (sSeq (sIf (tV (e2 gtD (eDGet (eV 0) "left") (eK (.int 0))))
 (sSeq (sPD 3 (eV 0) "left" (eDGet (eV 0) "left") (e2 fdivD (eDGet (eV 0) "left") (eV 1)))
 (sRet (e2 modD (eV 3) (eV 1))))
 sNx)
 (sSeq (sSet 2 (eDGet (eV 0) "cells"))
 (sSeq (sSet 3 (e2 ixD (eV 2) (e2 modD (eDGet (eV 0) "at") (eB lenD (aC (eV 2) aN)))))
 (sSeq (sDSet (eV 0) "at" (e2 addD (eDGet (eV 0) "at") (eK (.int 1))))
 (sSeq (sIf (tAnd (tV (e2 geD (eV 3) (e2 powD (eK (.int 10)) (eK (.int 18))))) (tV (e2 leD (eDGet (eV 0) "at") (eB lenD (aC (eV 2) aN)))))
 (sSeq (sDSet (eV 0) "left" (e2 fdivD (eV 3) (eV 1)))
 (sRet (e2 modD (eV 3) (eV 1))))
 sNx)
 (sSeq (sDSet (eV 0) "used" (e2 addD (eDGet (eV 0) "used") (eK (.int 1))))
 (sSeq (sSet 4 (e2 addD (e2 modD (eV 3) (eK (.int 1000000007))) (e2 mulD (e2 mulD (eK (.int 7919)) (eDGet (eV 0) "used")) (eDGet (eV 0) "used"))))
 (sSeq (sFor (iSeq (eTup (aC (eDGet (eV 0) "at") (aC (eDGet (eV 0) "used") aN)))) (bName 5)
 (sSeq (sSet 4 (e2 modD (e2 mulD (e2 addD (e2 addD (eV 4) (e2 mulD (eK (.int 31)) (eV 5))) (eK (.int 7))) (eK (.int 48271))) (eK (.int 2147483647))))
 (sSet 4 (e2 modD (e2 mulD (eV 4) (e2 addD (eK (.int 69621)) (e2 mulD (eK (.int 2)) (e2 modD (eV 5) (eK (.int 1000)))))) (eK (.int 2147483629))))))
 (sRet (e2 modD (e2 fdivD (eV 4) (eK (.int 7))) (eV 1)))))))))))
/-- names: 0 _law_draw, 1 _law_some -/
@[irreducible] def m_law_pick : Fn := fnD 2 0
 (sRet (e2 ixD (eV 1) (eC m_law_next (aC (eV 0) (aC (eB lenD (aC (eV 1) aN)) aN)))))
/-- names: 0 thing -/
@[irreducible] def m_is_integer : Fn := fnD 1 0
 (sRet (eAnd (e1 (isiB "int") (eV 0)) (eNot (e1 (isiB "bool") (eV 0)))))
/-- names: 0 thing, 1 least, 2 most -/
@[irreducible] def m_is_whole : Fn := fnD 3 0
 (sRet (eAnd (eC m_is_integer (aC (eV 0) aN)) (eCh leD leD (eV 1) (eV 0) (eV 2))))
/-- names: 0 thing, 1 number, 2 clock, 3 mark, 4 strokes -/
@[irreducible] def m_book_fault : Fn := fnD 1 4
 (sSeq (sIf (tOr (tNot (tV (e1 (isiB "tuple") (eV 0)))) (tNot (tV (eCh leD leD (eK (.int 1)) (eB lenD (aC (eV 0) aN)) (eK (.int 3))))))
 (sRet (eTup aN))
 sNx)
 (sSeq (sFor (iEnum (aC (eV 0) aN)) (bTup [1, 2])
 (sSeq (sIf (tOr (tNot (tV (e1 (isiB "tuple") (eV 2)))) (tNot (tV (eCh leD leD (eK (.int 1)) (eB lenD (aC (eV 2) aN)) (eK (.int 24))))))
 (sRet (eTup (aC (eV 1) aN)))
 sNx)
 (sFor (iEnum (aC (eV 2) aN)) (bTup [3, 4])
 (sIf (tNot (tV (eC m_is_whole (aC (eV 4) (aC (eK (.int 0)) (aC (eK (.int 99)) aN))))))
 (sRet (eTup (aC (eV 1) (aC (eV 3) aN))))
 sNx))))
 (sRet (eK .non))))
/-- names: 0 thing, 1 place -/
@[irreducible] def m_need_book : Fn := fnD 1 1
 (sSeq (sSet 1 (eC m_book_fault (aC (eV 0) aN)))
 (sSeq (sIf (tV (e2 notND (eV 1) (eK .non)))
 (sRaise "BadBook" "place" (eV 1))
 sNx)
 (sRet (eV 0))))
/-- names: 0 book, 1 thing -/
@[irreducible] def m_is_start : Fn := fnD 2 0
 (sSeq (sIf (tOr (tNot (tV (e1 (isiB "tuple") (eV 1)))) (tOr (tV (e2 neD (eB lenD (aC (eV 1) aN)) (eK (.int 2)))) (tNot (tV (eC m_is_whole (aC (e2 ixD (eV 1) (eK (.int 0))) (aC (eK (.int 0)) (aC (e2 subD (eB lenD (aC (eV 0) aN)) (eK (.int 1))) aN))))))))
 (sRet (eK (.bl false)))
 sNx)
 (sRet (eC m_is_whole (aC (e2 ixD (eV 1) (eK (.int 1))) (aC (eK (.int 0)) (aC (e2 subD (eB lenD (aC (e2 ixD (eV 0) (e2 ixD (eV 1) (eK (.int 0)))) aN)) (eK (.int 1))) aN))))))
/-- names: 0 book, 1 thing -/
@[irreducible] def m_need_start : Fn := fnD 2 0
 (sSeq (sIf (tNot (tV (eC m_is_start (aC (eV 0) (aC (eV 1) aN)))))
 (sRaise "BadStart" "given" (eV 1))
 sNx)
 (sRet (eV 1)))
/-- names: 0 book, 1 start, 2 later, 3 clock -/
@[irreducible] def m_struck : Fn := fnD 3 1
 (sSeq (sSet 3 (e2 ixD (eV 0) (e2 ixD (eV 1) (eK (.int 0)))))
 (sRet (e2 ixD (eV 3) (e2 modD (eB intD (aC (e2 addD (e2 ixD (eV 1) (eK (.int 1))) (eV 2)) aN)) (eB lenD (aC (eV 3) aN))))))
/-- names: 0 thing -/
@[irreducible] def m_need_marks : Fn := fnD 1 0
 (sSeq (sIf (tNot (tV (eC m_is_whole (aC (eV 0) (aC (eK (.int 0)) (aC (eK (.int 1000000000000000000000000000000)) aN))))))
 (sRaise "BadNumber" "given" (eV 0))
 sNx)
 (sRet (eV 0)))
/-- names: 0 book, 1 start, 2 marks -/
@[irreducible] def m_strokes_at : Fn := fnD 3 0
 (sSeq (sDo (eC m_need_book (aC (eV 0) aN)))
 (sSeq (sDo (eC m_need_start (aC (eV 0) (aC (eV 1) aN))))
 (sRet (eC m_struck (aC (eV 0) (aC (eV 1) (aC (eC m_need_marks (aC (eV 2) aN)) aN)))))))
/-- names: 0 book, 1 one, 2 other -/
@[irreducible] def m_need_pair : Fn := fnD 3 0
 (sSeq (sDo (eC m_need_book (aC (eV 0) aN)))
 (sSeq (sDo (eC m_need_start (aC (eV 0) (aC (eV 1) aN))))
 (sDo (eC m_need_start (aC (eV 0) (aC (eV 2) aN))))))
/-- names: 0 rises, 1 marks, 2 size, 3 rounds -/
@[irreducible] def m_over_by : Fn := fnD 2 2
 (sSeq (sSet 2 (e2 subD (eB lenD (aC (eV 0) aN)) (eK (.int 1))))
 (sSeq (sSet 3 (e2 fdivD (eV 1) (eV 2)))
 (sRet (e2 addD (e2 mulD (eV 3) (e2 ixD (eV 0) (e1 negD (eK (.int 1))))) (e2 ixD (eV 0) (e2 subD (eV 1) (e2 mulD (eV 3) (eV 2))))))))
/-- names: 0 book, 1 one, 2 other, 3 found, 4 mine, 5 yours -/
@[irreducible] def m_common_round : Fn := fnD 3 3
 (sSeq (sPar [4, 5] (pC (eB lenD (aC (e2 ixD (eV 0) (e2 ixD (eV 1) (eK (.int 0)))) aN)) (pC (eB lenD (aC (e2 ixD (eV 0) (e2 ixD (eV 2) (eK (.int 0)))) aN)) pN)))
 (sSeq (sSet 3 (eV 4))
 (sSeq (sWhile (tV (e2 neD (e2 modD (eB intD (aC (eV 3) aN)) (eV 5)) (eK (.int 0))))
 (sAug 3 (· + ·) (eV 4)) 2000)
 (sRet (eV 3)))))
/-- names: 0 book, 1 one, 2 other, 3 found, 4 later -/
@[irreducible] def m_rises_of : Fn := fnD 3 2
 (sSeq (sOwn 3 (aC (eK (.int 0)) aN))
 (sSeq (sFor (iRng1 (aC (eC m_common_round (aC (eV 0) (aC (eV 1) (aC (eV 2) aN)))) aN)) (bName 4)
 (sApp 3 (e2 addD (eIxO 3 (e1 negD (eK (.int 1)))) (eB max2D (aC (eK (.int 0)) (aC (e2 subD (eC m_struck (aC (eV 0) (aC (eV 1) (aC (eV 4) aN)))) (eC m_struck (aC (eV 0) (aC (eV 2) (aC (eV 4) aN))))) aN))))))
 (sFrz 3 (sRet (eV 3)))))
/-- names: 0 book, 1 one, 2 other, 3 marks -/
@[irreducible] def m_over_in : Fn := fnD 4 0
 (sRet (eC m_over_by (aC (eC m_rises_of (aC (eV 0) (aC (eV 1) (aC (eV 2) aN)))) (aC (eV 3) aN))))
/-- names: 0 book, 1 one, 2 other, 3 marks -/
@[irreducible] def m_over : Fn := fnD 4 0
 (sSeq (sDo (eC m_need_pair (aC (eV 0) (aC (eV 1) (aC (eV 2) aN)))))
 (sRet (eC m_over_in (aC (eV 0) (aC (eV 1) (aC (eV 2) (aC (eC m_need_marks (aC (eV 3) aN)) aN)))))))
/-- names: 0 thing -/
@[irreducible] def m_need_loss : Fn := fnD 1 0
 (sSeq (sIf (tOr (tNot (tV (e1 (isiB "tuple") (eV 0)))) (tV (e2 neD (eB lenD (aC (eV 0) aN)) (eK (.int 2)))))
 (sRaise "BadLoss" "part" (eK (.str "form")))
 sNx)
 (sSeq (sIf (tNot (tV (eC m_is_whole (aC (e2 ixD (eV 0) (eK (.int 0))) (aC (eK (.int 0)) (aC (eK (.int 1000000000000000000000000000000)) aN))))))
 (sRaise "BadLoss" "part" (eK (.str "lost")))
 sNx)
 (sSeq (sIf (tNot (tV (eC m_is_whole (aC (e2 ixD (eV 0) (eK (.int 1))) (aC (eK (.int 0)) (aC (eK (.int 1000000000000000000000000000000)) aN))))))
 (sRaise "BadLoss" "part" (eK (.str "added")))
 sNx)
 (sRet (eV 0)))))
/-- names: 0 thing, 1 number, 2 count -/
@[irreducible] def m_heard_fault : Fn := fnD 1 2
 (sSeq (sIf (tOr (tNot (tV (e1 (isiB "tuple") (eV 0)))) (tV (e2 gtD (eB lenD (aC (eV 0) aN)) (eK (.int 1000)))))
 (sRet (eLst (aC (eK .non) aN)))
 sNx)
 (sSeq (sFor (iEnum (aC (eV 0) aN)) (bTup [1, 2])
 (sIf (tNot (tV (eC m_is_whole (aC (eV 2) (aC (eK (.int 0)) (aC (eK (.int 1000000000000000000000000000000)) aN))))))
 (sRet (eLst (aC (eV 1) aN)))
 sNx))
 (sRet (eLst aN))))
/-- names: 0 thing, 1 number -/
@[irreducible] def m_need_heard : Fn := fnD 1 1
 (sSeq (sFor (iSeq (eC m_heard_fault (aC (eV 0) aN))) (bName 1)
 (sRaise "BadHeard" "number" (eV 1)))
 (sRet (eV 0)))
/-- names: 0 book, 1 loss, 2 heard -/
@[irreducible] def m_need_all : Fn := fnD 3 0
 (sSeq (sDo (eC m_need_book (aC (eV 0) aN)))
 (sSeq (sDo (eC m_need_loss (aC (eV 1) aN)))
 (sDo (eC m_need_heard (aC (eV 2) aN)))))
/-- names: 0 book, 1 mark, 2 number, 3 clock -/
@[irreducible] def m_all_starts : Fn := fnD 1 3
 (sRet (eCmp2 (iEnum (aC (eV 0) aN)) [2, 3, 1] (bTup [2, 3]) (iRng1 (aC (eB lenD (aC (eV 3) aN)) aN)) [1] (bName 1) (eTup (aC (eV 2) (aC (eV 1) aN)))))
/-- names: 0 book, 1 start, 2 heard, 3 lost, 4 added, 5 later, 6 count, 7 strokes -/
@[irreducible] def m_missed_in : Fn := fnD 3 5
 (sSeq (sPar [3, 4] (pC (eK (.int 0)) (pC (eK (.int 0)) pN)))
 (sSeq (sFor (iEnum (aC (eV 2) aN)) (bTup [5, 6])
 (sSeq (sSet 7 (eC m_struck (aC (eV 0) (aC (eV 1) (aC (eV 5) aN)))))
 (sSeq (sAug 3 (· + ·) (eB max2D (aC (eK (.int 0)) (aC (e2 subD (eV 7) (eV 6)) aN))))
 (sAug 4 (· + ·) (eB max2D (aC (eK (.int 0)) (aC (e2 subD (eV 6) (eV 7)) aN)))))))
 (sRet (eTup (aC (eV 3) (aC (eV 4) aN))))))
/-- names: 0 book, 1 loss, 2 start, 3 heard, 4 lost, 5 added -/
@[irreducible] def m_fits : Fn := fnD 4 2
 (sSeq (sUnp (bTup [4, 5]) (eC m_missed_in (aC (eV 0) (aC (eV 2) (aC (eV 3) aN)))))
 (sRet (eAnd (e2 leD (eV 4) (e2 ixD (eV 1) (eK (.int 0)))) (e2 leD (eV 5) (e2 ixD (eV 1) (eK (.int 1)))))))
/-- names: 0 book, 1 loss, 2 heard, 3 start -/
@[irreducible] def m_fitting_in : Fn := fnD 3 1
 (sRet (eCmp (iSeq (eC m_all_starts (aC (eV 0) aN))) [3] (bName 3) (tV (eC m_fits (aC (eV 0) (aC (eV 1) (aC (eV 3) (aC (eV 2) aN)))))) (eV 3)))
/-- names: 0 book, 1 loss, 2 heard -/
@[irreducible] def m_fitting : Fn := fnD 3 0
 (sSeq (sDo (eC m_need_all (aC (eV 0) (aC (eV 1) (aC (eV 2) aN)))))
 (sRet (eB tupD (aC (eC m_fitting_in (aC (eV 0) (aC (eV 1) (aC (eV 2) aN)))) aN))))
/-- names: 0 rises, 1 most, 2 rounds, 3 left, 4 size, 5 whole, 6 one -/
@[irreducible] def m_reach_of : Fn := fnD 2 5
 (sSeq (sPar [4, 5] (pC (e2 subD (eB lenD (aC (eV 0) aN)) (eK (.int 1))) (pC (e2 ixD (eV 0) (e1 negD (eK (.int 1)))) pN)))
 (sSeq (sIf (tV (e2 eqD (eV 5) (eK (.int 0))))
 (sRet (eK .non))
 sNx)
 (sSeq (sSet 2 (e2 fdivD (eV 1) (eV 5)))
 (sSeq (sSet 3 (e2 subD (eV 1) (e2 mulD (eV 2) (eV 5))))
 (sRet (e2 addD (e2 mulD (eV 2) (eV 4)) (eB lenD (aC (eCmp (iSeq (eSl (eV 0) (oS (eK (.int 1))) oN)) [6] (bName 6) (tV (e2 leD (eV 6) (eV 3))) (eV 6)) aN))))))))
/-- names: 0 book, 1 loss, 2 one, 3 other, 4 most, 5 some, 6 reach -/
@[irreducible] def m_longest_in : Fn := fnD 4 3
 (sSeq (sSet 4 (e2 addD (e2 ixD (eV 1) (eK (.int 0))) (e2 ixD (eV 1) (eK (.int 1)))))
 (sSeq (sSet 5 (eLst (aC (eC m_reach_of (aC (eC m_rises_of (aC (eV 0) (aC (eV 2) (aC (eV 3) aN)))) (aC (eV 4) aN))) (aC (eC m_reach_of (aC (eC m_rises_of (aC (eV 0) (aC (eV 3) (aC (eV 2) aN)))) (aC (eV 4) aN))) aN))))
 (sRet (e1 minDefD (eCmp (iSeq (eV 5)) [6] (bName 6) (tV (e2 notND (eV 6) (eK .non))) (eV 6))))))
/-- names: 0 book, 1 loss, 2 one, 3 other -/
@[irreducible] def m_longest : Fn := fnD 4 0
 (sSeq (sDo (eC m_need_book (aC (eV 0) aN)))
 (sSeq (sDo (eC m_need_loss (aC (eV 1) aN)))
 (sSeq (sDo (eC m_need_pair (aC (eV 0) (aC (eV 2) (aC (eV 3) aN)))))
 (sRet (eC m_longest_in (aC (eV 0) (aC (eV 1) (aC (eV 2) (aC (eV 3) aN)))))))))
/-- names: 0 _law_error, 1 _law_found -/
@[irreducible] def m_law_fault : Fn := fnD 1 1
 (sSeq (sOwn 1 aN)
 (sSeq (sIf (tV (eIsX (fun c _ => hitL [("BadBook", true), ("BadLoss", false), ("BadStart", false), ("BadHeard", false), ("BadNumber", false)] c) "BadBook" (eV 0)))
 (sApp 1 (eTup (aC (eK (.str "book")) (aC (eAtX ["BadBook"] "place" (eV 0)) aN))))
 sNx)
 (sSeq (sIf (tV (eIsX (fun c _ => hitL [("BadBook", false), ("BadLoss", true), ("BadStart", false), ("BadHeard", false), ("BadNumber", false)] c) "BadLoss" (eV 0)))
 (sApp 1 (eTup (aC (eK (.str "loss")) (aC (eAtX ["BadLoss"] "part" (eV 0)) aN))))
 sNx)
 (sSeq (sIf (tV (eIsX (fun c _ => hitL [("BadBook", false), ("BadLoss", false), ("BadStart", false), ("BadHeard", true), ("BadNumber", false)] c) "BadHeard" (eV 0)))
 (sApp 1 (eTup (aC (eK (.str "heard")) (aC (eAtX ["BadHeard"] "number" (eV 0)) aN))))
 sNx)
 (sSeq (sIf (tV (eIsX (fun c _ => hitL [("BadBook", false), ("BadLoss", false), ("BadStart", true), ("BadHeard", false), ("BadNumber", false)] c) "BadStart" (eV 0)))
 (sApp 1 (eTup (aC (eK (.str "start")) (aC (eAtX ["BadStart", "BadNumber"] "given" (eV 0)) aN))))
 sNx)
 (sSeq (sIf (tV (eIsX (fun c _ => hitL [("BadBook", false), ("BadLoss", false), ("BadStart", false), ("BadHeard", false), ("BadNumber", true)] c) "BadNumber" (eV 0)))
 (sApp 1 (eTup (aC (eK (.str "number")) (aC (eAtX ["BadStart", "BadNumber"] "given" (eV 0)) aN))))
 sNx)
 (sSeq (sIf (tV (eIsX (fun c _ => hitL [("BadBook", false), ("BadLoss", false), ("BadStart", false), ("BadHeard", false), ("BadNumber", false)] c) "BadPaper" (eV 0)))
 (sApp 1 (eTup (aC (eK (.str "paper")) (aC (eAtX ["BadLoss"] "part" (eV 0)) aN))))
 sNx)
 (sSeq (sIf (tV (eIsX (fun c _ => hitL [("BadBook", false), ("BadLoss", false), ("BadStart", false), ("BadHeard", false), ("BadNumber", false)] c) "BadText" (eV 0)))
 (sApp 1 (eTup (aC (eK (.str "text")) (aC (eAtX [] "line" (eV 0)) (aC (eAtX [] "word" (eV 0)) aN)))))
 sNx)
 (sSeq (sIf (tV (eIsX (fun c _ => hitL [("BadBook", false), ("BadLoss", false), ("BadStart", false), ("BadHeard", false), ("BadNumber", false)] c) "TooMany" (eV 0)))
 (sApp 1 (eTup (aC (eK (.str "many")) (aC (eAtX [] "most" (eV 0)) aN))))
 sNx)
 (sSeq (sIf (tV (eIsX (fun c _ => hitL [("BadBook", false), ("BadLoss", false), ("BadStart", false), ("BadHeard", false), ("BadNumber", false)] c) "NothingLeft" (eV 0)))
 (sApp 1 (eTup (aC (eK (.str "left")) (aC (eAtX [] "many" (eV 0)) aN))))
 sNx)
 (sRet (eIf (tV (e2 eqD (eLenO 1) (eK (.int 1)))) (eIxO 1 (eK (.int 0))) (eTup (aC (eK (.str "odd")) (aC (eLenO 1) aN)))))))))))))))
/-- names: 0 _law_call, 1 _law_caught, 2 _law_found, 3 e -/
abbrev saidHit : PySem.Str → Option Bool := hitL [("BadBook", true), ("BadLoss", true), ("BadStart", true), ("BadHeard", true), ("BadNumber", true)]
@[irreducible] def m_law_said : FnS := saidD saidHit
 (sRet (eIf (tV (e2 isND (eV 1) (eK .non))) (eLst (aC (eV 2) aN)) (eC m_law_fault (aC (eV 1) aN))))
/-- names: 0 clock, 1 many, 2 size, 3 round_so, 4 part, 5 mark -/
@[irreducible] def m_normal_of : Fn := fnD 1 5
 (sSeq (sSet 1 (eB lenD (aC (eV 0) aN)))
 (sSeq (sSet 2 (eB minLD (aC (eCmp (iRng2 (aC (eK (.int 1)) (aC (e2 addD (eV 1) (eK (.int 1))) aN))) [4] (bName 4) (tAnd (tV (e2 eqD (e2 modD (eB intD (aC (eV 1) aN)) (eV 4)) (eK (.int 0)))) (tV (e2 eqD (eSl (eV 0) (oS (eV 4)) oN) (eSl (eV 0) oN (oS (e2 subD (eV 1) (eV 4))))))) (eV 4)) aN)))
 (sSeq (sSet 3 (eSl (eV 0) oN (oS (eV 2))))
 (sRet (eB minDD (aC (eCmp (iRng1 (aC (eV 2) aN)) [5] (bName 5) tT (e2 addD (eSl (eV 3) (oS (eV 5)) oN) (eSl (eV 3) oN (oS (eV 5))))) aN))))))
/-- names: 0 book, 1 thing -/
@[irreducible] def m_need_clock : Fn := fnD 2 0
 (sSeq (sIf (tNot (tV (eC m_is_whole (aC (eV 1) (aC (eK (.int 0)) (aC (e2 subD (eB lenD (aC (eV 0) aN)) (eK (.int 1))) aN))))))
 (sRaise "BadNumber" "given" (eV 1))
 sNx)
 (sRet (eV 1)))
/-- names: 0 book, 1 clock -/
@[irreducible] def m_normal : Fn := fnD 2 0
 (sSeq (sDo (eC m_need_book (aC (eV 0) aN)))
 (sRet (eC m_normal_of (aC (e2 ixD (eV 0) (eC m_need_clock (aC (eV 0) (aC (eV 1) aN)))) aN))))
/-- names: 0 book, 1 clock, 2 second -/
@[irreducible] def m_are_alike : Fn := fnD 3 0
 (sSeq (sDo (eC m_need_book (aC (eV 0) aN)))
 (sSeq (sDo (eC m_need_clock (aC (eV 0) (aC (eV 1) aN))))
 (sRet (e2 eqD (eC m_normal_of (aC (e2 ixD (eV 0) (eV 1)) aN)) (eC m_normal_of (aC (e2 ixD (eV 0) (eC m_need_clock (aC (eV 0) (aC (eV 2) aN)))) aN))))))
/-- names: 0 numbers, 1 number -/
@[irreducible] def m_numbers_text : Fn := fnD 1 1
 (sRet (eM1 joinD (eK (.str " ")) (eCmp (iSeq (eV 0)) [1] (bName 1) tT (eB strD (aC (eV 1) aN)))))
/-- names: 0 book, 1 clock -/
@[irreducible] def m_book_text : Fn := fnD 1 1
 (sRet (eM1 joinD (eK (.str "\n")) (eCmp (iSeq (eC m_need_book (aC (eV 0) aN))) [1] (bName 1) tT (eC m_numbers_text (aC (eV 1) aN)))))
/-- names: 0 book, 1 one, 2 other, 3 many, 4 later -/
@[irreducible] def m_are_same_in : Fn := fnD 3 2
 (sSeq (sSet 3 (eC m_common_round (aC (eV 0) (aC (eV 1) (aC (eV 2) aN)))))
 (sRet (eB allD (aC (eCmp (iRng1 (aC (eV 3) aN)) [4] (bName 4) tT (e2 eqD (eC m_struck (aC (eV 0) (aC (eV 1) (aC (eV 4) aN)))) (eC m_struck (aC (eV 0) (aC (eV 2) (aC (eV 4) aN)))))) aN))))
/-- names: 0 book, 1 marks, 2 starts, 3 found, 4 place, 5 one, 6 other -/
@[irreducible] def m_tolerance : Fn := fnD 2 5
 (sSeq (sDo (eC m_need_book (aC (eV 0) aN)))
 (sSeq (sDo (eC m_need_marks (aC (eV 1) aN)))
 (sSeq (sPar [2, 3] (pC (eC m_all_starts (aC (eV 0) aN)) (pO aN pN)))
 (sSeq (sFor (iEnum (aC (eV 2) aN)) (bTup [4, 5])
 (sFor (iSeq (eSl (eV 2) (oS (e2 addD (eV 4) (eK (.int 1)))) oN)) (bName 6)
 (sIf (tNot (tV (eC m_are_same_in (aC (eV 0) (aC (eV 5) (aC (eV 6) aN))))))
 (sApp 3 (e2 subD (eB max2D (aC (eC m_over_in (aC (eV 0) (aC (eV 5) (aC (eV 6) (aC (eV 1) aN))))) (aC (eC m_over_in (aC (eV 0) (aC (eV 6) (aC (eV 5) (aC (eV 1) aN))))) aN))) (eK (.int 1))))
 sNx)))
 (sFrz 3 (sRet (e1 minDefD (eV 3))))))))
/-- names: 0 _law_bad, 1 _law_calls, 2 _law_call -/
@[irreducible] def m_law_books : Fn := fnD 1 2
 (callsD m_law_said 1
 [(eC m_normal (aC (eV 0) (aC (eK .non) aN))),
 (eC m_are_alike (aC (eV 0) (aC (eK .non) (aC (eK .non) aN)))),
 (eC m_book_text (aC (eV 0) aN)),
 (eC m_tolerance (aC (eV 0) (aC (eK .non) aN)))])
/-- names: 0 book, 1 loss, 2 one, 3 other, 4 marks, 5 most -/
@[irreducible] def m_can_confuse_in : Fn := fnD 5 1
 (sSeq (sSet 5 (e2 addD (e2 ixD (eV 1) (eK (.int 0))) (e2 ixD (eV 1) (eK (.int 1)))))
 (sRet (eAnd (e2 leD (eC m_over_in (aC (eV 0) (aC (eV 2) (aC (eV 3) (aC (eV 4) aN))))) (eV 5)) (e2 leD (eC m_over_in (aC (eV 0) (aC (eV 3) (aC (eV 2) (aC (eV 4) aN))))) (eV 5)))))
/-- names: 0 book, 1 loss, 2 one, 3 other, 4 marks -/
@[irreducible] def m_can_confuse : Fn := fnD 5 0
 (sSeq (sDo (eC m_need_book (aC (eV 0) aN)))
 (sSeq (sDo (eC m_need_loss (aC (eV 1) aN)))
 (sSeq (sDo (eC m_need_pair (aC (eV 0) (aC (eV 2) (aC (eV 3) aN)))))
 (sRet (eC m_can_confuse_in (aC (eV 0) (aC (eV 1) (aC (eV 2) (aC (eV 3) (aC (eC m_need_marks (aC (eV 4) aN)) aN))))))))))
/-- names: 0 book, 1 loss, 2 one, 3 other, 4 marks, 5 later, 6 found, 7 mine, 8 yours, 9 near, 10 far, 11 less -/
@[irreducible] def m_row_in : Fn := fnD 5 7
 (sSeq (sPar [6, 7, 8] (pO aN (pC (e2 ixD (eV 1) (eK (.int 0))) (pC (e2 ixD (eV 1) (eK (.int 0))) pN))))
 (sSeq (sFor (iRng1 (aC (eV 4) aN)) (bName 5)
 (sSeq (sPar [9, 10] (pC (eC m_struck (aC (eV 0) (aC (eV 2) (aC (eV 5) aN)))) (pC (eC m_struck (aC (eV 0) (aC (eV 3) (aC (eV 5) aN)))) pN)))
 (sIf (tV (e2 gtD (eV 9) (eV 10)))
 (sSeq (sSet 11 (eB min2D (aC (e2 subD (eV 9) (eV 10)) (aC (eV 7) aN))))
 (sSeq (sAug 7 (· - ·) (eV 11))
 (sApp 6 (e2 subD (eV 9) (eV 11)))))
 (sSeq (sSet 11 (eB min2D (aC (e2 subD (eV 10) (eV 9)) (aC (eV 8) aN))))
 (sSeq (sAug 8 (· - ·) (eV 11))
 (sApp 6 (e2 subD (eV 10) (eV 11))))))))
 (sFrz 6 (sRet (eB tupD (aC (eV 6) aN))))))
/-- names: 0 book, 1 loss, 2 one, 3 other, 4 marks -/
@[irreducible] def m_confused_row : Fn := fnD 5 0
 (sSeq (sIf (tNot (tV (eC m_can_confuse (aC (eV 0) (aC (eV 1) (aC (eV 2) (aC (eV 3) (aC (eV 4) aN))))))))
 (sRet (eK .non))
 sNx)
 (sSeq (sIf (tV (e2 gtD (eV 4) (eK (.int 1000))))
 (fun _ _ => .bad)
 sNx)
 (sRet (eC m_row_in (aC (eV 0) (aC (eV 1) (aC (eV 2) (aC (eV 3) (aC (eV 4) aN)))))))))
/-- names: 0 book, 1 loss, 2 start, 3 some, 4 other, 5 reach -/
@[irreducible] def m_wait_in : Fn := fnD 3 3
 (sSeq (sSet 3 (eCmp (iSeq (eC m_all_starts (aC (eV 0) aN))) [4] (bName 4) tT (eC m_longest_in (aC (eV 0) (aC (eV 1) (aC (eV 2) (aC (eV 4) aN)))))))
 (sRet (eB maxLD (aC (e2 addD (eLst (aC (eK (.int 0)) aN)) (eCmp (iSeq (eV 3)) [5] (bName 5) (tV (e2 notND (eV 5) (eK .non))) (e2 addD (eK (.int 1)) (eV 5)))) aN))))
/-- names: 0 book, 1 loss, 2 start -/
@[irreducible] def m_wait_of : Fn := fnD 3 0
 (sSeq (sDo (eC m_need_book (aC (eV 0) aN)))
 (sSeq (sDo (eC m_need_loss (aC (eV 1) aN)))
 (sRet (eC m_wait_in (aC (eV 0) (aC (eV 1) (aC (eC m_need_start (aC (eV 0) (aC (eV 2) aN))) aN)))))))
/-- names: 0 book, 1 loss, 2 start -/
@[irreducible] def m_worst_in : Fn := fnD 2 1
 (sRet (eB maxLD (aC (eCmp (iSeq (eC m_all_starts (aC (eV 0) aN))) [2] (bName 2) tT (eC m_wait_in (aC (eV 0) (aC (eV 1) (aC (eV 2) aN))))) aN)))
/-- names: 0 book, 1 loss -/
@[irreducible] def m_worst_wait : Fn := fnD 2 0
 (sSeq (sDo (eC m_need_book (aC (eV 0) aN)))
 (sRet (eC m_worst_in (aC (eV 0) (aC (eC m_need_loss (aC (eV 1) aN)) aN)))))
/-- names: 0 book, 1 loss, 2 rows, 3 least, 4 start, 5 many -/
@[irreducible] def m_best_starts : Fn := fnD 2 4
 (sSeq (sDo (eC m_need_book (aC (eV 0) aN)))
 (sSeq (sDo (eC m_need_loss (aC (eV 1) aN)))
 (sSeq (sSet 2 (eCmp (iSeq (eC m_all_starts (aC (eV 0) aN))) [4] (bName 4) tT (eTup (aC (eC m_wait_in (aC (eV 0) (aC (eV 1) (aC (eV 4) aN)))) (aC (eV 4) aN)))))
 (sSeq (sSet 3 (e2 ixD (eB minDD (aC (eV 2) aN)) (eK (.int 0))))
 (sRet (eB tupD (aC (eCmp (iSeq (eV 2)) [5, 4] (bTup [5, 4]) (tV (e2 eqD (eV 5) (eV 3))) (eV 4)) aN)))))))
/-- names: 0 book, 1 loss, 2 start, 3 others, 4 some, 5 other, 6 reach -/
@[irreducible] def m_clock_wait : Fn := fnD 3 4
 (sSeq (sDo (eC m_need_book (aC (eV 0) aN)))
 (sSeq (sDo (eC m_need_loss (aC (eV 1) aN)))
 (sSeq (sDo (eC m_need_start (aC (eV 0) (aC (eV 2) aN))))
 (sSeq (sSet 3 (eCmp (iSeq (eC m_all_starts (aC (eV 0) aN))) [5] (bName 5) (tV (e2 neD (e2 ixD (eV 5) (eK (.int 0))) (e2 ixD (eV 2) (eK (.int 0))))) (eV 5)))
 (sSeq (sSet 4 (eCmp (iSeq (eV 3)) [5] (bName 5) tT (eC m_longest_in (aC (eV 0) (aC (eV 1) (aC (eV 2) (aC (eV 5) aN)))))))
 (sRet (eIf (tV (e2 inD (eK .non) (eV 4))) (eK .non) (eB maxLD (aC (e2 addD (eLst (aC (eK (.int 0)) aN)) (eCmp (iSeq (eV 4)) [6] (bName 6) tT (e2 addD (eK (.int 1)) (eV 6)))) aN)))))))))
/-- names: 0 book, 1 starts, 2 other -/
@[irreducible] def m_are_sure : Fn := fnD 2 1
 (sRet (eAnd (e2 neD (eV 1) (eLst aN)) (eB allD (aC (eCmp (iSeq (eSl (eV 1) (oS (eK (.int 1))) oN)) [2] (bName 2) tT (eC m_are_same_in (aC (eV 0) (aC (e2 ixD (eV 1) (eK (.int 0))) (aC (eV 2) aN))))) aN))))
/-- names: 0 book, 1 loss, 2 heard, 3 many -/
@[irreducible] def m_known_behind : Fn := fnD 3 1
 (sSeq (sDo (eC m_need_all (aC (eV 0) (aC (eV 1) (aC (eV 2) aN)))))
 (sSeq (sFor (iRng1 (aC (e2 addD (eB lenD (aC (eV 2) aN)) (eK (.int 1))) aN)) (bName 3)
 (sIf (tV (eC m_are_sure (aC (eV 0) (aC (eC m_fitting_in (aC (eV 0) (aC (eV 1) (aC (eSl (eV 2) oN (oS (eV 3))) aN)))) aN))))
 (sRet (eV 3))
 sNx))
 (sRet (eK .non))))
/-- names: 0 book, 1 loss, 2 heard, 3 start -/
@[irreducible] def m_next_in : Fn := fnD 3 1
 (sRet (eB sortedD (aC (eDk (iSeq (eC m_fitting_in (aC (eV 0) (aC (eV 1) (aC (eV 2) aN))))) [3] (bName 3) (eC m_struck (aC (eV 0) (aC (eV 3) (aC (eB lenD (aC (eV 2) aN)) aN))))) aN)))
/-- names: 0 book, 1 loss, 2 heard -/
@[irreducible] def m_next_strokes : Fn := fnD 3 0
 (sSeq (sDo (eC m_need_all (aC (eV 0) (aC (eV 1) (aC (eV 2) aN)))))
 (sRet (eB tupD (aC (eC m_next_in (aC (eV 0) (aC (eV 1) (aC (eV 2) aN)))) aN))))
/-- names: 0 pairs, 1 found, 2 low, 3 high -/
@[irreducible] def m_stretches : Fn := fnD 1 3
 (sSeq (sOwn 1 aN)
 (sSeq (sFor (iSeq (eB sortedPD (aC (eV 0) aN))) (bTup [2, 3])
 (sIf (tAnd (tV (eNeO 1 (eLst aN))) (tV (e2 leD (eV 2) (e2 addD (e2 ixD (eIxO 1 (e1 negD (eK (.int 1)))) (eK (.int 1))) (eK (.int 1))))))
 (sSetI 1 (e1 negD (eK (.int 1))) (eTup (aC (e2 ixD (eIxO 1 (e1 negD (eK (.int 1)))) (eK (.int 0))) (aC (eB max2D (aC (e2 ixD (eIxO 1 (e1 negD (eK (.int 1)))) (eK (.int 1))) (aC (eV 3) aN))) aN))))
 (sApp 1 (eTup (aC (eV 2) (aC (eV 3) aN))))))
 (sFrz 1 (sRet (eV 1)))))
/-- names: 0 book, 1 loss, 2 heard, 3 pairs, 4 start, 5 strokes, 6 lost, 7 added -/
@[irreducible] def m_may_hear : Fn := fnD 3 5
 (sSeq (sDo (eC m_need_all (aC (eV 0) (aC (eV 1) (aC (eV 2) aN)))))
 (sSeq (sOwn 3 aN)
 (sSeq (sFor (iSeq (eC m_fitting_in (aC (eV 0) (aC (eV 1) (aC (eV 2) aN))))) (bName 4)
 (sSeq (sUnp (bTup [6, 7]) (eC m_missed_in (aC (eV 0) (aC (eV 4) (aC (eV 2) aN)))))
 (sSeq (sSet 5 (eC m_struck (aC (eV 0) (aC (eV 4) (aC (eB lenD (aC (eV 2) aN)) aN)))))
 (sApp 3 (eTup (aC (eB max2D (aC (eK (.int 0)) (aC (e2 addD (e2 subD (eV 5) (e2 ixD (eV 1) (eK (.int 0)))) (eV 6)) aN))) (aC (e2 subD (e2 addD (eV 5) (e2 ixD (eV 1) (eK (.int 1)))) (eV 7)) aN)))))))
 (sFrz 3 (sRet (eB tupD (aC (eC m_stretches (aC (eV 3) aN)) aN)))))))
/-- names: 0 book, 1 loss, 2 marks -/
@[irreducible] def m_need_asked : Fn := fnD 3 0
 (sSeq (sDo (eC m_need_book (aC (eV 0) aN)))
 (sSeq (sDo (eC m_need_loss (aC (eV 1) aN)))
 (sDo (eC m_need_marks (aC (eV 2) aN)))))
/-- names: 0 book, 1 loss, 2 marks, 3 starts, 4 place, 5 one, 6 other -/
@[irreducible] def m_known_paper : Fn := fnD 3 4
 (sSeq (sDo (eC m_need_asked (aC (eV 0) (aC (eV 1) (aC (eV 2) aN)))))
 (sSeq (sSet 3 (eC m_all_starts (aC (eV 0) aN)))
 (sSeq (sFor (iEnum (aC (eV 3) aN)) (bTup [4, 5])
 (sFor (iSeq (eSl (eV 3) (oS (e2 addD (eV 4) (eK (.int 1)))) oN)) (bName 6)
 (sIf (tAnd (tNot (tV (eC m_are_same_in (aC (eV 0) (aC (eV 5) (aC (eV 6) aN)))))) (tV (eC m_can_confuse_in (aC (eV 0) (aC (eV 1) (aC (eV 5) (aC (eV 6) (aC (eV 2) aN))))))))
 (sSeq (sIf (tV (e2 gtD (eV 2) (eK (.int 1000))))
 (fun _ _ => .bad)
 sNx)
 (sRet (eTup (aC (eK (.str "confused")) (aC (eV 5) (aC (eV 6) (aC (eC m_row_in (aC (eV 0) (aC (eV 1) (aC (eV 5) (aC (eV 6) (aC (eV 2) aN)))))) aN)))))))
 sNx)))
 (sRet (eTup (aC (eK (.str "known")) aN))))))
/-- names: 0 book, 1 loss, 2 marks, 3 some, 4 one, 5 other, 6 heard -/
@[irreducible] def m_does_confuse : Fn := fnD 4 3
 (sSeq (sUnp (bTup [4, 5, 6]) (eV 3))
 (sSeq (sIf (tOr (tNot (tV (eC m_is_start (aC (eV 0) (aC (eV 4) aN))))) (tOr (tNot (tV (eC m_is_start (aC (eV 0) (aC (eV 5) aN))))) (tOr (tV (e2 neD (eC m_heard_fault (aC (eV 6) aN)) (eLst aN))) (tV (e2 neD (eB lenD (aC (eV 6) aN)) (eV 2))))))
 (sRet (eK (.bl false)))
 sNx)
 (sRet (eAnd (eNot (eC m_are_same_in (aC (eV 0) (aC (eV 4) (aC (eV 5) aN))))) (eAnd (eC m_fits (aC (eV 0) (aC (eV 1) (aC (eV 4) (aC (eV 6) aN))))) (eC m_fits (aC (eV 0) (aC (eV 1) (aC (eV 5) (aC (eV 6) aN))))))))))
/-- names: 0 book, 1 loss, 2 marks, 3 paper, 4 is_so -/
@[irreducible] def m_check_known : Fn := fnD 4 1
 (sSeq (sDo (eC m_need_asked (aC (eV 0) (aC (eV 1) (aC (eV 2) aN)))))
 (sSeq (sIf (tOr (tNot (tV (e1 (isiB "tuple") (eV 3)))) (tOr (tV (e2 ninTD (eB lenD (aC (eV 3) aN)) (eTup (aC (eK (.int 1)) (aC (eK (.int 4)) aN))))) (tNot (tV (e1 (isiB "str") (e2 ixD (eV 3) (eK (.int 0))))))))
 (fun _ _ => .bad)
 sNx)
 (sSeq (sIf (tV (e2 neD (e2 ixD (eV 3) (eK (.int 0))) (eIf (tV (e2 eqD (eB lenD (aC (eV 3) aN)) (eK (.int 1)))) (eK (.str "known")) (eK (.str "confused")))))
 (fun _ _ => .bad)
 sNx)
 (sSeq (sSet 4 (eIf (tV (e2 eqD (eB lenD (aC (eV 3) aN)) (eK (.int 1)))) (e2 leD (eC m_worst_in (aC (eV 0) (aC (eV 1) aN))) (eV 2)) (eC m_does_confuse (aC (eV 0) (aC (eV 1) (aC (eV 2) (aC (eSl (eV 3) (oS (eK (.int 1))) oN) aN)))))))
 (sSeq (sIf (tNot (tV (eV 4)))
 (fun _ _ => .bad)
 sNx)
 (sRet (e2 ixD (eV 3) (eK (.int 0)))))))))
/-- names: 0 _law_book, 1 _law_loss, 2 _law_calls, 3 _law_call -/
@[irreducible] def m_law_losses : Fn := fnD 2 2
 (callsD m_law_said 2
 [(eC m_can_confuse (aC (eV 0) (aC (eV 1) (aC (eK .non) (aC (eK .non) (aC (eK .non) aN)))))),
 (eC m_longest (aC (eV 0) (aC (eV 1) (aC (eK .non) (aC (eK .non) aN))))),
 (eC m_confused_row (aC (eV 0) (aC (eV 1) (aC (eK .non) (aC (eK .non) (aC (eK .non) aN)))))),
 (eC m_wait_of (aC (eV 0) (aC (eV 1) (aC (eK .non) aN)))),
 (eC m_worst_wait (aC (eV 0) (aC (eV 1) aN))),
 (eC m_best_starts (aC (eV 0) (aC (eV 1) aN))),
 (eC m_clock_wait (aC (eV 0) (aC (eV 1) (aC (eK .non) aN)))),
 (eC m_fitting (aC (eV 0) (aC (eV 1) (aC (eK .non) aN)))),
 (eC m_known_behind (aC (eV 0) (aC (eV 1) (aC (eK .non) aN)))),
 (eC m_next_strokes (aC (eV 0) (aC (eV 1) (aC (eK .non) aN)))),
 (eC m_may_hear (aC (eV 0) (aC (eV 1) (aC (eK .non) aN)))),
 (eC m_known_paper (aC (eV 0) (aC (eV 1) (aC (eK .non) aN)))),
 (eC m_check_known (aC (eV 0) (aC (eV 1) (aC (eK .non) (aC (eK .non) aN)))))])
/-- names: 0 book, 1 one, 2 other -/
@[irreducible] def m_are_same : Fn := fnD 3 0
 (sSeq (sDo (eC m_need_book (aC (eV 0) aN)))
 (sSeq (sDo (eC m_need_start (aC (eV 0) (aC (eV 1) aN))))
 (sRet (eC m_are_same_in (aC (eV 0) (aC (eV 1) (aC (eC m_need_start (aC (eV 0) (aC (eV 2) aN))) aN)))))))
/-- names: 0 book, 1 start, 2 heard -/
@[irreducible] def m_missed : Fn := fnD 3 0
 (sSeq (sDo (eC m_need_book (aC (eV 0) aN)))
 (sSeq (sDo (eC m_need_start (aC (eV 0) (aC (eV 1) aN))))
 (sRet (eC m_missed_in (aC (eV 0) (aC (eV 1) (aC (eC m_need_heard (aC (eV 2) aN)) aN)))))))
/-- names: 0 _law_book, 1 _law_start, 2 _law_calls, 3 _law_call -/
@[irreducible] def m_law_starts_so : Fn := fnD 2 2
 (callsD m_law_said 2
 [(eC m_strokes_at (aC (eV 0) (aC (eV 1) (aC (eK .non) aN)))),
 (eC m_are_same (aC (eV 0) (aC (eV 1) (aC (eK .non) aN)))),
 (eC m_over (aC (eV 0) (aC (eV 1) (aC (eK .non) (aC (eK .non) aN))))),
 (eC m_missed (aC (eV 0) (aC (eV 1) (aC (eK .non) aN)))),
 (eC m_can_confuse (aC (eV 0) (aC (eTup (aC (eK (.int 0)) (aC (eK (.int 0)) aN))) (aC (eV 1) (aC (eK .non) (aC (eK .non) aN)))))),
 (eC m_longest (aC (eV 0) (aC (eTup (aC (eK (.int 0)) (aC (eK (.int 0)) aN))) (aC (eV 1) (aC (eK .non) aN))))),
 (eC m_confused_row (aC (eV 0) (aC (eTup (aC (eK (.int 0)) (aC (eK (.int 0)) aN))) (aC (eV 1) (aC (eK .non) (aC (eK .non) aN)))))),
 (eC m_wait_of (aC (eV 0) (aC (eTup (aC (eK (.int 0)) (aC (eK (.int 0)) aN))) (aC (eV 1) aN)))),
 (eC m_clock_wait (aC (eV 0) (aC (eTup (aC (eK (.int 0)) (aC (eK (.int 0)) aN))) (aC (eV 1) aN))))])
/-- names: 0 _law_book, 1 _law_odd, 2 _law_calls, 3 _law_call -/
@[irreducible] def m_law_clocks : Fn := fnD 2 2
 (callsD m_law_said 2
 [(eC m_normal (aC (eV 0) (aC (eV 1) aN))),
 (eC m_are_alike (aC (eV 0) (aC (eV 1) (aC (eK .non) aN)))),
 (eC m_are_alike (aC (eV 0) (aC (eK (.int 0)) (aC (eV 1) aN))))])
/-- names: 0 _law_book, 1 _law_start, 2 _law_calls, 3 _law_call -/
@[irreducible] def m_law_seconds : Fn := fnD 2 2
 (callsD m_law_said 2
 [(eC m_are_same (aC (eV 0) (aC (eTup (aC (eK (.int 0)) (aC (eK (.int 0)) aN))) (aC (eV 1) aN)))),
 (eC m_over (aC (eV 0) (aC (eTup (aC (eK (.int 0)) (aC (eK (.int 0)) aN))) (aC (eV 1) (aC (eK .non) aN))))),
 (eC m_can_confuse (aC (eV 0) (aC (eTup (aC (eK (.int 0)) (aC (eK (.int 0)) aN))) (aC (eTup (aC (eK (.int 0)) (aC (eK (.int 0)) aN))) (aC (eV 1) (aC (eK .non) aN)))))),
 (eC m_longest (aC (eV 0) (aC (eTup (aC (eK (.int 0)) (aC (eK (.int 0)) aN))) (aC (eTup (aC (eK (.int 0)) (aC (eK (.int 0)) aN))) (aC (eV 1) aN))))),
 (eC m_confused_row (aC (eV 0) (aC (eTup (aC (eK (.int 0)) (aC (eK (.int 0)) aN))) (aC (eTup (aC (eK (.int 0)) (aC (eK (.int 0)) aN))) (aC (eV 1) (aC (eK .non) aN))))))])
/-- names: 0 heard -/
@[irreducible] def m_heard_text : Fn := fnD 1 0
 (sRet (eIf (tV (e2 neD (eV 0) (eTup aN))) (eC m_numbers_text (aC (eC m_need_heard (aC (eV 0) aN)) aN)) (eK (.str "-"))))
/-- names: 0 _law_book, 1 _law_row, 2 _law_calls, 3 _law_call -/
@[irreducible] def m_law_rows : Fn := fnD 2 2
 (callsD m_law_said 2
 [(eC m_fitting (aC (eV 0) (aC (eTup (aC (eK (.int 0)) (aC (eK (.int 0)) aN))) (aC (eV 1) aN)))),
 (eC m_known_behind (aC (eV 0) (aC (eTup (aC (eK (.int 0)) (aC (eK (.int 0)) aN))) (aC (eV 1) aN)))),
 (eC m_next_strokes (aC (eV 0) (aC (eTup (aC (eK (.int 0)) (aC (eK (.int 0)) aN))) (aC (eV 1) aN)))),
 (eC m_may_hear (aC (eV 0) (aC (eTup (aC (eK (.int 0)) (aC (eK (.int 0)) aN))) (aC (eV 1) aN)))),
 (eC m_missed (aC (eV 0) (aC (eTup (aC (eK (.int 0)) (aC (eK (.int 0)) aN))) (aC (eV 1) aN)))),
 (eC m_heard_text (aC (eV 1) aN))])
/-- names: 0 _law_book, 1 _law_marks_here, 2 _law_calls, 3 _law_call -/
@[irreducible] def m_law_marks : Fn := fnD 2 2
 (callsD m_law_said 2
 [(eC m_strokes_at (aC (eV 0) (aC (eTup (aC (eK (.int 0)) (aC (eK (.int 0)) aN))) (aC (eV 1) aN)))),
 (eC m_over (aC (eV 0) (aC (eTup (aC (eK (.int 0)) (aC (eK (.int 0)) aN))) (aC (eTup (aC (eK (.int 0)) (aC (eK (.int 1)) aN))) (aC (eV 1) aN))))),
 (eC m_can_confuse (aC (eV 0) (aC (eTup (aC (eK (.int 0)) (aC (eK (.int 0)) aN))) (aC (eTup (aC (eK (.int 0)) (aC (eK (.int 0)) aN))) (aC (eTup (aC (eK (.int 0)) (aC (eK (.int 1)) aN))) (aC (eV 1) aN)))))),
 (eC m_confused_row (aC (eV 0) (aC (eTup (aC (eK (.int 0)) (aC (eK (.int 0)) aN))) (aC (eTup (aC (eK (.int 0)) (aC (eK (.int 0)) aN))) (aC (eTup (aC (eK (.int 0)) (aC (eK (.int 1)) aN))) (aC (eV 1) aN)))))),
 (eC m_tolerance (aC (eV 0) (aC (eV 1) aN))),
 (eC m_known_paper (aC (eV 0) (aC (eTup (aC (eK (.int 0)) (aC (eK (.int 0)) aN))) (aC (eV 1) aN)))),
 (eC m_check_known (aC (eV 0) (aC (eTup (aC (eK (.int 0)) (aC (eK (.int 0)) aN))) (aC (eV 1) (aC (eK .non) aN)))))])
/-- names: 0 _law_script, 1 _law_draw, 2 _law_book, 3 _law_turn, 4 _law_far, 5 _law_told, 6 _law_some, 7 _law_odd, 8 _law_bad, 9 _law_place, 10 _law_part -/
@[irreducible] def m_law_f1 : StD :=
 (sSeq (sSet 6 (eLst (aC (eTup (aC (eK .non) (aC (eTup aN) aN))) (aC (eTup (aC (eTup aN) (aC (eTup aN) aN))) (aC (eTup (aC (eLst (aC (eTup (aC (eK (.int 1)) aN)) aN)) (aC (eTup aN) aN))) (aC (eTup (aC (eTup (aC (eTup (aC (eK (.int 1)) (aC (eK (.int 2)) aN))) (aC (eK (.int 5)) aN))) (aC (eTup (aC (eK (.int 1)) aN)) aN))) (aC (eTup (aC (eTup (aC (eTup aN) (aC (eK .non) aN))) (aC (eTup (aC (eK (.int 0)) aN)) aN))) aN)))))))
 (sSeq (sUnp (bTup [8, 9]) (eC m_law_pick (aC (eV 1) (aC (e2 addD (eV 6) (eLst (aC (eTup (aC (eTup (aC (eTup (aC (eK (.int 1)) (aC (eK (.int 100)) aN))) (aC (eTup aN) aN))) (aC (eTup (aC (eK (.int 0)) (aC (eK (.int 1)) aN))) aN))) aN))) aN))))
 (sSeq (sSet 5 (e2 addD (e2 addD (eC m_law_losses (aC (eV 8) (aC (eK .non) aN))) (eC m_law_starts_so (aC (eV 8) (aC (eK .non) aN)))) (eC m_law_books (aC (eV 8) aN))))
 (sSeq (sIf (tV (e2 neD (eB reprD (aC (eV 5) aN)) (eB reprD (aC (e2 mulD (eLst (aC (eTup (aC (eK (.str "book")) (aC (eV 9) aN))) aN)) (eK (.int 26))) aN))))
 (sRet (eK (.bl false)))
 sNx)
 (sSeq (sSet 6 (eLst (aC (eTup (aC (eK .non) (aC (eK (.str "form")) aN))) (aC (eTup (aC (eTup (aC (eK (.int 1)) aN)) (aC (eK (.str "form")) aN))) (aC (eTup (aC (eLst (aC (eK (.int 1)) (aC (eK (.int 1)) aN))) (aC (eK (.str "form")) aN))) aN)))))
 (sSeq (sSet 6 (e2 addD (eV 6) (eLst (aC (eTup (aC (eTup (aC (e1 negD (eK (.int 1))) (aC (eK .non) aN))) (aC (eK (.str "lost")) aN))) (aC (eTup (aC (eTup (aC (eK (.int 0)) (aC (eK (.bl true)) aN))) (aC (eK (.str "added")) aN))) aN)))))
 (sSeq (sUnp (bTup [8, 10]) (eC m_law_pick (aC (eV 1) (aC (e2 addD (eV 6) (eLst (aC (eTup (aC (eTup (aC (eK (.int 0)) (aC (e2 addD (e2 powD (eK (.int 10)) (eK (.int 30))) (eK (.int 1))) aN))) (aC (eK (.str "added")) aN))) aN))) aN))))
 (sSeq (sIf (tV (e2 neD (eB reprD (aC (e2 mulD (eC m_law_losses (aC (eV 2) (aC (eV 8) aN))) (eK (.int 2))) aN)) (eB reprD (aC (e2 mulD (eLst (aC (eTup (aC (eK (.str "loss")) (aC (eV 10) aN))) aN)) (eK (.int 26))) aN))))
 (sRet (eK (.bl false)))
 sNx)
 (sSeq (sSet 7 (eC m_law_pick (aC (eV 1) (aC (eLst (aC (eK .non) (aC (eK (.int 0)) (aC (eTup (aC (eK (.int 0)) aN)) (aC (eLst (aC (eK (.int 0)) (aC (eK (.int 0)) aN))) (aC (eTup (aC (eK (.int 0)) (aC (eK (.int 2)) aN))) (aC (eTup (aC (eK (.int 2)) (aC (eK (.int 0)) aN))) (aC (eTup (aC (eK (.int 1)) (aC (eK (.int 1)) aN))) (aC (eTup (aC (eK (.bl true)) (aC (eK (.int 0)) aN))) (aC (eTup (aC (eK (.int 0)) (aC (e1 negD (eK (.int 1))) aN))) (aC (eK (.str "00")) aN))))))))))) aN))))
 (sSeq (sIf (tV (e2 neD (eB reprD (aC (e2 addD (eC m_law_starts_so (aC (eV 2) (aC (eV 7) aN))) (eC m_law_seconds (aC (eV 2) (aC (eV 7) aN)))) aN)) (eB reprD (aC (e2 mulD (eLst (aC (eTup (aC (eK (.str "start")) (aC (eV 7) aN))) aN)) (eK (.int 14))) aN))))
 (sRet (eK (.bl false)))
 sNx)
 (sSeq (sSet 7 (eC m_law_pick (aC (eV 1) (aC (eLst (aC (eK .non) (aC (eK (.int 5)) (aC (eLst (aC (eK (.int 1)) aN)) (aC (eTup (aC (eK (.int 1)) (aC (e1 negD (eK (.int 1))) aN))) (aC (eTup (aC (eK (.int 1)) (aC (eK (.bl true)) aN))) (aC (eTup (aC (eK (.int 2)) (aC (eK (.str "1")) aN))) (aC (eTup (aC (eK (.int 0)) (aC (e2 addD (e2 powD (eK (.int 10)) (eK (.int 30))) (eK (.int 1))) aN))) aN)))))))) aN))))
 (sSeq (sIf (tV (e2 neD (eB reprD (aC (e2 mulD (eC m_law_rows (aC (eV 2) (aC (eV 7) aN))) (eK (.int 2))) aN)) (eB reprD (aC (e2 mulD (eLst (aC (eTup (aC (eK (.str "heard")) (aC (eIf (tV (e1 (isiB "tuple") (eV 7))) (eK (.int 1)) (eK .non)) aN))) aN)) (eK (.int 12))) aN))))
 (sRet (eK (.bl false)))
 sNx)
 (sSeq (sSet 7 (eC m_law_pick (aC (eV 1) (aC (eLst (aC (eK .non) (aC (e1 negD (eK (.int 1))) (aC (eK (.bl true)) (aC (eK (.str "5")) (aC (eTup (aC (eK (.int 5)) aN)) (aC (eLst aN) (aC (e2 addD (e2 powD (eK (.int 10)) (eK (.int 30))) (eK (.int 1))) aN)))))))) aN))))
 (sSeq (sIf (tV (e2 neD (eB reprD (aC (e2 mulD (eC m_law_marks (aC (eV 2) (aC (eV 7) aN))) (eK (.int 2))) aN)) (eB reprD (aC (e2 mulD (eLst (aC (eTup (aC (eK (.str "number")) (aC (eV 7) aN))) aN)) (eK (.int 14))) aN))))
 (sRet (eK (.bl false)))
 sNx)
 (sSeq (sSet 7 (eC m_law_pick (aC (eV 1) (aC (eLst (aC (eK .non) (aC (e1 negD (eK (.int 1))) (aC (eK (.int 2)) (aC (eK (.bl true)) (aC (eK (.str "0")) (aC (eTup (aC (eK (.int 0)) aN)) (aC (e2 powD (eK (.int 10)) (eK (.int 30))) aN)))))))) aN))))
 (sIf (tV (e2 neD (eB reprD (aC (eC m_law_clocks (aC (eV 2) (aC (eV 7) aN))) aN)) (eB reprD (aC (e2 mulD (eLst (aC (eTup (aC (eK (.str "number")) (aC (eV 7) aN))) aN)) (eK (.int 3))) aN))))
 (sRet (eK (.bl false)))
 sNx))))))))))))))))
@[irreducible] def m_law : Fn := fnD 1 10
 (sSeq (sSet 1 (eC m_law_begin (aC (eV 0) aN)))
 (sSeq (sSet 2 (eTup (aC (eTup (aC (eK (.int 1)) (aC (eK (.int 2)) aN))) (aC (eTup (aC (eK (.int 3)) aN)) aN))))
 (sSeq (sFor (iRng1 (aC (eK (.int 4)) aN)) (bName 3)
 m_law_f1)
 (sSeq (sSet 4 (e2 powD (eK (.int 10)) (eK (.int 30))))
 (sSeq (sSet 5 (eLst (aC (eC m_strokes_at (aC (eV 2) (aC (eTup (aC (eK (.int 1)) (aC (eK (.int 0)) aN))) (aC (eV 4) aN)))) (aC (eC m_over (aC (eV 2) (aC (eTup (aC (eK (.int 1)) (aC (eK (.int 0)) aN))) (aC (eTup (aC (eK (.int 0)) (aC (eK (.int 0)) aN))) (aC (eV 4) aN))))) aN))))
 (sSeq (sSet 5 (e2 addD (eV 5) (eLst (aC (eC m_tolerance (aC (eV 2) (aC (eK (.int 0)) aN))) (aC (eC m_normal (aC (eV 2) (aC (eK (.int 1)) aN))) aN)))))
 (sSeq (sIf (tV (e2 neD (eV 5) (eLst (aC (eK (.int 3)) (aC (e2 fdivD (e2 mulD (eK (.int 3)) (eV 4)) (eK (.int 2))) (aC (e1 negD (eK (.int 1))) (aC (eTup (aC (eK (.int 3)) aN)) aN)))))))
 (sRet (eK (.bl false)))
 sNx)
 (sSeq (sIf (tV (e2 neD (eC m_fitting (aC (eV 2) (aC (eTup (aC (eV 4) (aC (eV 4) aN))) (aC (eTup (aC (eV 4) aN)) aN)))) (eTup (aC (eTup (aC (eK (.int 0)) (aC (eK (.int 0)) aN))) (aC (eTup (aC (eK (.int 0)) (aC (eK (.int 1)) aN))) (aC (eTup (aC (eK (.int 1)) (aC (eK (.int 0)) aN))) aN))))))
 (sRet (eK (.bl false)))
 sNx)
 (sRet (e2 eqD (eC m_longest (aC (eV 2) (aC (eTup (aC (eV 4) (aC (eV 4) aN))) (aC (eTup (aC (eK (.int 1)) (aC (eK (.int 0)) aN))) (aC (eTup (aC (eK (.int 0)) (aC (eK (.int 0)) aN))) aN))))) (e2 addD (e2 mulD (eK (.int 2)) (e2 fdivD (e2 mulD (eK (.int 2)) (eV 4)) (eK (.int 3)))) (eK (.int 1)))))))))))))
end Sk

/-! ### draws -/
namespace Sk
open PySem
def dwK (cs : List Int) (a l u : Int) : List (Str × Da) := [("cells", .lst (cs.map Da.int)), ("at", .int a), ("left", .int l), ("used", .int u)]
/-- the second thing in store is a draw's state, of at most n draws; rest: what lies behind it -/
def Dw (rest : Mem) (n : Nat) (mu : Mem) : Prop := ∃ o cs a l u, mu = o :: .dct (dwK cs a l u) :: rest ∧ cs ≠ [] ∧ 0 ≤ a ∧ a ≤ (n : Int) ∧ 0 ≤ u ∧ u ≤ (n : Int)
theorem Dw.mono {rest : Mem} {n k : Nat} {mu : Mem} (h : Dw rest n mu) (e : n ≤ k) : Dw rest k mu := by
  obtain ⟨o, cs, a, l, u, rfl, h1, h2, h3, h4, h5⟩ := h
  exact ⟨o, cs, a, l, u, rfl, h1, h2, by omega, h4, by omega⟩
section
variable {cs : List Int} {a l u : Int} {o : Ob} {rest : Mem} {i : Int}
theorem look_cells : dLook "cells" (dwK cs a l u) = some (.lst (cs.map Da.int)) := rfl
theorem look_at : dLook "at" (dwK cs a l u) = some (.int a) := rfl
theorem look_left : dLook "left" (dwK cs a l u) = some (.int l) := rfl
theorem look_used : dLook "used" (dwK cs a l u) = some (.int u) := rfl
theorem put_any {k : Str} {d : Da} : numput 1 k d (o :: .dct (dwK cs a l u) :: rest) = some (o :: .dct (dPut k d (dwK cs a l u)) :: rest) := by
  unfold numput
  show (if ((dwK cs a l u).map (·.1)).Nodup ∧ (dwK cs a l u).length < 1000 then _ else _) = _
  rw [if_pos ⟨by show (["cells", "at", "left", "used"] : List Str).Nodup; decide, by show 4 < 1000; decide⟩]
  rfl
theorem put_at : numput 1 "at" (.int i) (o :: .dct (dwK cs a l u) :: rest) = some (o :: .dct (dwK cs i l u) :: rest) := put_any
theorem put_left : numput 1 "left" (.int i) (o :: .dct (dwK cs a l u) :: rest) = some (o :: .dct (dwK cs a i u) :: rest) := put_any
theorem put_used : numput 1 "used" (.int i) (o :: .dct (dwK cs a l u) :: rest) = some (o :: .dct (dwK cs a l i) :: rest) := put_any
end
/-- one draw -/
theorem next_yes {rest : Mem} {n : Nat} {mu : Mem} {many : Int} {P : Da → Mem → Prop} (h : Dw rest n mu) (h0 : 0 < many) (h1 : Sm 200 many) (hn : n < 10 ^ 9) (k : ∀ r mu', 0 ≤ r → r < many → Dw rest (n + 1) mu' → P (.int r) mu') : Yes (m_law_next [.ref 1, .int many] mu) P := by
  obtain ⟨o, cs, a, l, u, rfl, hcs, ha0, ha, hu0, hu⟩ := h
  have hd : DivOk many := divOk h0 h1
  unfold m_law_next
  refine (yes_fnD (by rfl)).mpr ?_
  have fin : ∀ (r a l u : Int), 0 ≤ a → a ≤ (n : Int) + 1 → 0 ≤ u → u ≤ (n : Int) + 1 → P (.int (r % many)) (o :: .dct (dwK cs a l u) :: rest) := fun r a l u e1 e2 e3 e4 =>
    k _ _ (Int.emod_nonneg _ (Int.ne_of_gt h0)) (Int.emod_lt_of_pos _ h0) ⟨o, cs, a, l, u, rfl, hcs, e1, by omega, e3, by omega⟩
  have sk : ∀ x : Int, 0 ≤ x → x ≤ (n : Int) + 1 → Sm 31 x := fun x e1 e2 => Sm.of e1 (by omega)
  have l0 : 0 < cs.length := List.length_pos_iff.mpr hcs
  obtain ⟨c, hc⟩ : ∃ c, L2.atI (cs.map Da.int) (a % (cs.length : Int)) = some (Da.int c) := by
    have b0 := Int.emod_nonneg a (b := (cs.length : Int)) (by omega)
    have b1 := Int.emod_lt_of_pos a (b := (cs.length : Int)) (by omega)
    have hl : (a % (cs.length : Int)).toNat < cs.length := by omega
    exact ⟨cs[(a % (cs.length : Int)).toNat], ix_nat b0 (by rw [List.getElem?_map, List.getElem?_eq_getElem hl]; rfl)⟩
  simp [look_left, look_cells, look_at, look_used, put_at, put_left, put_used, hc, hd, h0, l0]
  have small : ∀ x : Int, Sm 80 x → ∀ b : Int, 0 ≤ b → b ≤ (n : Int) + 1 → MulOk 31 b ∧ MulOk (x + 31 * b + 7) 48271 ∧ MulOk 2 (b % 1000) ∧ MulOk ((x + 31 * b + 7) * 48271 % 2147483647) (69621 + 2 * (b % 1000)) := fun x s1 b b0 b1 => by
    have s2 := sk b b0 b1
    have s3 : Sm 5 31 := by decide
    have s4 : Sm 16 48271 := by decide
    have s5 : Sm 10 (b % 1000) := Sm.mod (by decide) (by decide)
    have s6 : Sm 31 ((x + 31 * b + 7) * 48271 % 2147483647) := Sm.mod (by decide) (by decide)
    exact ⟨mulOk s3 s2, mulOk (Sm.add (Sm.add s1 (s3.mul s2).mono) (Sm.mono (k := 3) (by decide))) s4, mulOk (k := 2) (by decide) s5, mulOk s6 (Sm.add (k := 20) (Sm.mono (k := 17) (by decide)) (Sm.mono (Sm.mul (k := 2) (by decide) s5)))⟩
  have after : ∀ l : Int, MulOk 7919 (u + 1) ∧ MulOk (7919 * (u + 1)) (u + 1) ∧ SP (sLoop (bName 5)
      (sSeq (sSet 4 (e2 modD (e2 mulD (e2 addD (e2 addD (eV 4) (e2 mulD (eK (Da.int 31)) (eV 5))) (eK (Da.int 7))) (eK (Da.int 48271))) (eK (Da.int 2147483647))))
        (sSet 4 (e2 modD (e2 mulD (eV 4) (e2 addD (eK (Da.int 69621)) (e2 mulD (eK (Da.int 2)) (e2 modD (eV 5) (eK (Da.int 1000)))))) (eK (Da.int 2147483629)))))
      [Da.int (a + 1), Da.int (u + 1)] [Sl.val (Da.ref 1), Sl.val (Da.int many), Sl.val (Da.lst (List.map Da.int cs)), Sl.val (Da.int c), Sl.val (Da.int (c % 1000000007 + 7919 * (u + 1) * (u + 1))), Sl.un] (o :: Ob.dct (dwK cs (a + 1) l (u + 1)) :: rest))
      { nx := fun r m => match r[4]? with
          | some (Sl.val d) => Yes (opt (fdivD d (Da.int 7)) m) fun x m => match r[1]? with
            | some (Sl.val d) => Yes (opt (modD x d) m) fun d m => P d m
            | x => False
          | x => False,
        rt := P, bk := fun x x_1 => False, ct := fun x x_1 => False } := fun l => by
    have s0 : Sm 13 7919 := by decide
    have s1 := sk (u + 1) (by omega) (by omega)
    have s2 := sk (a + 1) (by omega) (by omega)
    have s3 : Sm 31 (c % 1000000007) := Sm.mod (by decide) (by decide)
    have n0 : Sm 80 (c % 1000000007 + 7919 * (u + 1) * (u + 1)) := (Sm.add (k := 79) s3.mono ((s0.mul s1).mul s1).mono).mono
    refine ⟨mulOk s0 s1, mulOk (s0.mul s1) s1, ?_⟩
    have q1 := small _ n0 (a + 1) (by omega) (by omega)
    simp [sp_loop_cons, sp_loop_nil, q1]
    have q2 := small _ (Sm.mono (k := 31) (Sm.mod (i := (c % 1000000007 + 7919 * (u + 1) * (u + 1) + 31 * (a + 1) + 7) * 48271 % 2147483647 * (69621 + 2 * ((a + 1) % 1000))) (m := 2147483629) (by decide) (by decide))) (u + 1) (by omega) (by omega)
    simp [q2, h0]
    exact ⟨divOk (k := 3) (by decide) (by decide), fin _ _ _ _ (by omega) (by omega) (by omega) (by omega)⟩
  split
  · exact fin _ _ _ _ ha0 (by omega) hu0 (by omega)
  · split
    · split
      · exact fin _ _ _ _ (by omega) (by omega) hu0 (by omega)
      · exact after _
    · exact after _
/-- one of some -/
theorem pick_yes {rest : Mem} {n : Nat} {mu : Mem} {some_ : List Da} {P : Da → Mem → Prop} (h : Dw rest n mu) (h0 : some_ ≠ []) (h1 : some_.length < 2 ^ 60) (hn : n < 10 ^ 9) (k : ∀ d mu', d ∈ some_ → Dw rest (n + 1) mu' → P d mu') : Yes (m_law_pick [.ref 1, .lst some_] mu) P := by
  have l0 : 0 < some_.length := List.length_pos_iff.mpr h0
  unfold m_law_pick
  refine (yes_fnD (by rfl)).mpr ?_
  simp
  refine next_yes h (by omega) (Sm.mono (k := 60) (Sm.of (by omega) (by omega))) hn fun r mu' r0 r1 h' => ?_
  have hl : r.toNat < some_.length := by omega
  rw [ixD_lst, ix_nat r0 (List.getElem?_eq_getElem hl)]
  exact k _ _ (List.getElem_mem _) h'
theorem pick_yesT {rest : Mem} {n : Nat} {mu : Mem} {some_ : List Da} {P : Da → Mem → Prop} (h : Dw rest n mu) (h0 : some_ ≠ []) (h1 : some_.length < 2 ^ 60) (hn : n < 10 ^ 9) (k : ∀ d mu', d ∈ some_ → Dw rest (n + 1) mu' → P d mu') : Yes (m_law_pick [.ref 1, .tup some_] mu) P := by
  have l0 : 0 < some_.length := List.length_pos_iff.mpr h0
  unfold m_law_pick
  refine (yes_fnD (by rfl)).mpr ?_
  simp
  refine next_yes h (by omega) (Sm.mono (k := 60) (Sm.of (by omega) (by omega))) hn fun r mu' r0 r1 h' => ?_
  have hl : r.toNat < some_.length := by omega
  rw [ixD_tup, ix_nat r0 (List.getElem?_eq_getElem hl)]
  exact k _ _ (List.getElem_mem _) h'
/-- the draws begin -/
theorem begin_yes {ns : List Int} {P : Da → Mem → Prop} (hl : ns.length ≤ 63) (k : ∀ mu', Dw [] 0 mu' → P (.ref 1) mu') : Yes (m_law_begin [.ref 0] [.scr (ns.map Da.int)]) P := by
  unfold m_law_begin
  refine (yes_fnD (by rfl)).mpr ?_
  simp
  refine ⟨Nat.le_trans (Nat.succ_le_succ hl) (by decide), k _ ⟨.scr (ns.map Da.int), ns ++ [0], 0, 0, 0, ?_, by simp, by omega, by omega, by omega, by omega⟩⟩
  unfold dwK
  rw [List.map_append]
  rfl
end Sk

/-! ### drawn clocks and books -/
namespace Sk
open PySem
abbrev encC (c : List Int) : Da := .tup (c.map Da.int)
abbrev encB (b : List (List Int)) : Da := .tup (b.map encC)
structure Ck (m : Nat) (c : List Int) : Prop where
  ge : 1 ≤ c.length
  le : c.length ≤ m
  st : ∀ x ∈ c, 0 ≤ x ∧ x ≤ 99
structure Bk (b : List (List Int)) : Prop where
  ge : 1 ≤ b.length
  le : b.length ≤ 3
  ck : ∀ c ∈ b, Ck 24 c
theorem getB {b : List (List Int)} {i : Int} (h0 : 0 ≤ i) (h1 : i < (b.length : Int)) : ∃ c, c ∈ b ∧ b[i.toNat]? = some c ∧ L2.atI (b.map encC) i = some (encC c) := by
  have hl : i.toNat < b.length := by omega
  exact ⟨b[i.toNat], List.getElem_mem _, List.getElem?_eq_getElem hl, ix_nat h0 (by rw [List.getElem?_map, List.getElem?_eq_getElem hl]; rfl)⟩
end Sk

/-! ### drawn clocks and books -/
namespace Sk
open PySem
end Sk

/-! ### books, starts, numbers: what the program looks at -/
namespace Sk
open PySem
theorem eq_of_yes {α : Type} {o : Out α} {a : α} {mu : Mem} (h : Yes o fun b m => b = a ∧ m = mu) : o = .ok a mu := by
  obtain ⟨b, m, e, rfl, rfl⟩ := h.eq
  exact e
@[simp] theorem isi_int_int {i : Int} : isiB "int" (.int i) = some (.bl true) := rfl
@[simp] theorem isi_bool_int {i : Int} : isiB "bool" (.int i) = some (.bl false) := rfl
@[simp] theorem isi_tuple_tup {xs : List Da} : isiB "tuple" (.tup xs) = some (.bl true) := rfl
@[simp] theorem isi_list_lst {xs : List Da} : isiB "list" (.lst xs) = some (.bl true) := rfl
theorem is_integer_int {i : Int} {mu : Mem} : m_is_integer [.int i] mu = .ok (.bl true) mu := by
  refine eq_of_yes ?_
  unfold m_is_integer
  refine (yes_fnD (by rfl)).mpr ?_
  simp
theorem is_whole_int {x lo hi : Int} {mu : Mem} : m_is_whole [.int x, .int lo, .int hi] mu = .ok (.bl (decide (lo ≤ x ∧ x ≤ hi))) mu := by
  refine eq_of_yes ?_
  unfold m_is_whole
  refine (yes_fnD (by rfl)).mpr ?_
  simp [is_integer_int]
  by_cases h : lo ≤ x <;> simp [h]
theorem enum_get {xs : List Da} {j : Nat} {x : Da} (h : (enumD 0 xs)[j]? = some x) : ∃ y, xs[j]? = some y ∧ x = .tup [.int (j : Int), y] := by
  rw [enumD_get] at h
  cases e : xs[j]? with
  | none => rw [e] at h; cases h
  | some y => rw [e] at h; simp at h; exact ⟨y, rfl, h.symm⟩
theorem enum_len (xs : List Da) : ∀ k, (enumD k xs).length = xs.length := by
  induction xs with
  | nil => intro k; rfl
  | cons x xs ih => intro k; exact congrArg (· + 1) (ih (k + 1))
theorem book_fault_ok {b : List (List Int)} (hb : Bk b) {mu : Mem} : m_book_fault [encB b] mu = .ok .non mu := by
  refine eq_of_yes ?_
  have h1 := hb.ge
  have h2 := hb.le
  unfold m_book_fault
  refine (yes_fnD (by rfl)).mpr ?_
  simp
  refine ⟨by omega, by omega, ?_⟩
  refine sp_loop (k := 0) (fun _ rho m => ∃ v1 v2 v3 v4, rho = [Sl.val (encB b), v1, v2, v3, v4] ∧ m = mu) ⟨_, _, _, _, rfl, rfl⟩ (fun j x rho m ex i => ?_) fun rho m ⟨_, _, _, _, _, e⟩ => e
  obtain ⟨v1, v2, v3, v4, rfl, rfl⟩ := i
  obtain ⟨y, ey, rfl⟩ := enum_get ex
  rw [List.getElem?_map] at ey
  obtain ⟨c, ec, rfl⟩ := Option.map_eq_some_iff.mp ey
  have ck := hb.ck c (List.mem_of_getElem? ec)
  have h3 := ck.ge
  have h4 := ck.le
  refine ⟨_, rfl, ?_⟩
  simp
  refine ⟨by omega, by omega, ?_⟩
  refine sp_loop (k := 0) (fun _ rho m2 => ∃ v1 v2 v3 v4, rho = [Sl.val (encB b), v1, v2, v3, v4] ∧ m2 = m) ⟨_, _, _, _, rfl, rfl⟩ (fun j2 x2 rho2 m2 ex2 i2 => ?_) fun rho m ⟨_, _, _, _, e1, e2⟩ => ⟨⟨_, _, _, _, e1⟩, e2⟩
  obtain ⟨w1, w2, w3, w4, rfl, rfl⟩ := i2
  obtain ⟨y, ey, rfl⟩ := enum_get ex2
  rw [List.getElem?_map] at ey
  obtain ⟨s, es, rfl⟩ := Option.map_eq_some_iff.mp ey
  have hs := ck.st s (List.mem_of_getElem? es)
  refine ⟨_, rfl, ?_⟩
  simp [is_whole_int, hs]
theorem need_book_ok {b : List (List Int)} (hb : Bk b) {mu : Mem} : m_need_book [encB b] mu = .ok (encB b) mu := by
  refine eq_of_yes ?_
  unfold m_need_book
  refine (yes_fnD (by rfl)).mpr ?_
  simp [book_fault_ok hb, notND]
/-- a start of a book -/
abbrev encS (s : Int × Int) : Da := .tup [.int s.1, .int s.2]
structure St (b : List (List Int)) (s : Int × Int) : Prop where
  n0 : 0 ≤ s.1
  n1 : s.1 < b.length
  m0 : 0 ≤ s.2
  m1 : ∀ c, b[s.1.toNat]? = some c → s.2 < c.length
def Sts (b : List (List Int)) (L : List (Int × Int)) : Prop := ∀ s ∈ L, St b s
/-- the clock of a start -/
def ckOf (b : List (List Int)) (s : Int × Int) : List Int := (b[s.1.toNat]?).getD []
theorem St.ck {b : List (List Int)} {s : Int × Int} (h : St b s) : b[s.1.toNat]? = some (ckOf b s) := by
  have hl : s.1.toNat < b.length := by have := h.n0; have := h.n1; omega
  unfold ckOf
  rw [List.getElem?_eq_getElem hl]
  rfl
theorem St.at {b : List (List Int)} {s : Int × Int} (h : St b s) : L2.atI (b.map encC) s.1 = some (encC (ckOf b s)) := ix_nat h.n0 (by rw [List.getElem?_map, h.ck]; rfl)
theorem St.mem {b : List (List Int)} {s : Int × Int} (h : St b s) : ckOf b s ∈ b := List.mem_of_getElem? h.ck
theorem at0 {x y : Da} : L2.atI [x, y] 0 = some x := rfl
theorem at1 {x y : Da} : L2.atI [x, y] 1 = some y := rfl
theorem is_start_ok {b : List (List Int)} {s : Int × Int} (h : St b s) {mu : Mem} : m_is_start [encB b, encS s] mu = .ok (.bl true) mu := by
  refine eq_of_yes ?_
  have h0 := h.n0; have h1 := h.n1; have h2 := h.m0; have h3 := h.m1 _ h.ck
  unfold m_is_start
  refine (yes_fnD (by rfl)).mpr ?_
  simp [is_whole_int, h.at, at0, at1]
  omega
theorem need_start_ok {b : List (List Int)} {s : Int × Int} (h : St b s) {mu : Mem} : m_need_start [encB b, encS s] mu = .ok (encS s) mu := by
  refine eq_of_yes ?_
  unfold m_need_start
  refine (yes_fnD (by rfl)).mpr ?_
  simp [is_start_ok h]
theorem need_marks_ok {i : Int} (h0 : 0 ≤ i) (h1 : i ≤ 10 ^ 30) {mu : Mem} : m_need_marks [.int i] mu = .ok (.int i) mu := by
  refine eq_of_yes ?_
  unfold m_need_marks
  refine (yes_fnD (by rfl)).mpr ?_
  simp [is_whole_int]
  omega
/-- what a start strikes so many marks later -/
def stk (b : List (List Int)) (s : Int × Int) (k : Int) : Int := (ckOf b s)[((s.2 + k) % ((ckOf b s).length : Int)).toNat]?.getD 0
theorem stk_at {b : List (List Int)} {s : Int × Int} (hb : Bk b) (h : St b s) (k : Int) : L2.atI ((ckOf b s).map Da.int) ((s.2 + k) % ((ckOf b s).length : Int)) = some (.int (stk b s k)) := by
  have ge := (hb.ck _ h.mem).ge
  have b0 := Int.emod_nonneg (s.2 + k) (b := ((ckOf b s).length : Int)) (by omega)
  have b1 := Int.emod_lt_of_pos (s.2 + k) (b := ((ckOf b s).length : Int)) (by omega)
  have hl : ((s.2 + k) % ((ckOf b s).length : Int)).toNat < (ckOf b s).length := by omega
  refine ix_nat b0 ?_
  unfold stk
  rw [List.getElem?_map, List.getElem?_eq_getElem hl]
  rfl
theorem stk_bd {b : List (List Int)} {s : Int × Int} (hb : Bk b) (h : St b s) (k : Int) : 0 ≤ stk b s k ∧ stk b s k ≤ 99 := by
  have ge := (hb.ck _ h.mem).ge
  have b0 := Int.emod_nonneg (s.2 + k) (b := ((ckOf b s).length : Int)) (by omega)
  have b1 := Int.emod_lt_of_pos (s.2 + k) (b := ((ckOf b s).length : Int)) (by omega)
  have hl : ((s.2 + k) % ((ckOf b s).length : Int)).toNat < (ckOf b s).length := by omega
  unfold stk
  rw [List.getElem?_eq_getElem hl]
  exact (hb.ck _ h.mem).st _ (List.getElem_mem _)
theorem struck_ok {b : List (List Int)} {s : Int × Int} (hb : Bk b) (h : St b s) {k : Int} {mu : Mem} : m_struck [encB b, encS s, .int k] mu = .ok (.int (stk b s k)) mu := by
  refine eq_of_yes ?_
  have ge := (hb.ck _ h.mem).ge
  unfold m_struck
  refine (yes_fnD (by rfl)).mpr ?_
  simp [h.at, at0, at1, stk_at hb h]
  omega
/-- the common round: a multiple of both, not above the product -/
theorem common_round_ok {b : List (List Int)} {s t : Int × Int} (hb : Bk b) (hs : St b s) (ht : St b t) (mu : Mem) : ∃ R : Int, 0 < R ∧ R ≤ 576 ∧ ((ckOf b s).length : Int) ∣ R ∧ ((ckOf b t).length : Int) ∣ R ∧ m_common_round [encB b, encS s, encS t] mu = .ok (.int R) mu := by
  have g1 := (hb.ck _ hs.mem).ge
  have g2 := (hb.ck _ ht.mem).ge
  have g3 := (hb.ck _ hs.mem).le
  have g4 := (hb.ck _ ht.mem).le
  have y : Yes (m_common_round [encB b, encS s, encS t] mu) fun d m => (∃ R : Int, d = .int R ∧ 0 < R ∧ R ≤ 576 ∧ ((ckOf b s).length : Int) ∣ R ∧ ((ckOf b t).length : Int) ∣ R) ∧ m = mu := by
    unfold m_common_round
    refine (yes_fnD (by rfl)).mpr ?_
    simp [hs.at, ht.at, at0, at1]
    refine sp_while (k := (ckOf b t).length - 1) (fun k rho m => ∃ j : Nat, rho = [Sl.val (encB b), Sl.val (encS s), Sl.val (encS t), Sl.val (.int ((ckOf b s).length * (j : Int))), Sl.val (.int (ckOf b s).length), Sl.val (.int (ckOf b t).length)] ∧ m = mu ∧ 1 ≤ j ∧ j ≤ (ckOf b t).length ∧ k = (ckOf b t).length - j) (by omega) ⟨1, by simp, rfl, by omega, by omega, rfl⟩ fun k rho m i => ?_
    obtain ⟨j, rfl, rfl, j1, j2, rfl⟩ := i
    have p1 : (ckOf b s).length * j ≤ 24 * 24 := Nat.mul_le_mul g3 (by omega)
    have p2 : 1 * 1 ≤ (ckOf b s).length * j := Nat.mul_le_mul g1 j1
    have p3 : (((ckOf b s).length * j : Nat) : Int) = ((ckOf b s).length : Int) * (j : Int) := Int.natCast_mul _ _
    simp
    refine ⟨by omega, ?_⟩
    split
    · rename_i q
      exact ⟨by omega, by omega, Int.dvd_of_emod_eq_zero q⟩
    · rename_i q
      have ne : j ≠ (ckOf b t).length := fun z => q (by rw [z]; exact Int.mul_emod_left _ _)
      refine ⟨(ckOf b t).length - j - 1, by omega, j + 1, ?_, by omega, by omega, by omega⟩
      rw [Int.natCast_add, Int.mul_add, Int.natCast_one, Int.mul_one]
  obtain ⟨d, m, e, ⟨R, rfl, h⟩, rfl⟩ := y.eq
  exact ⟨R, h.1, h.2.1, h.2.2.1, h.2.2.2, e⟩
end Sk

/-! ### caught errors asked; said -/
namespace Sk
open PySem
section
variable {mu : Mem} {P : Da → Mem → Prop} {rho : Ev} {a e : EvD} {sub : Str → Str → Option Bool} {D c f : Str} {cls : List Str} {fs : List (Str × Da)} {said : FnS}
@[simp] theorem yes_isx : Yes (eIsX sub D a rho mu) P ↔ Yes (a rho mu) fun x m => Yes (opt ((errAt m x).bind fun p => (sub p.1 D).map Da.bl) m) P := by
  unfold eIsX
  rw [yes_bnd]
@[simp] theorem yes_atx : Yes (eAtX cls f a rho mu) P ↔ Yes (a rho mu) fun x m => Yes (opt ((errAt m x).bind fun p => if p.1 ∈ cls then dLook f p.2 else none) m) P := by
  unfold eAtX
  rw [yes_bnd]
theorem errAt_last : errAt (mu ++ [.err c fs]) (.ref mu.length) = some (c, fs) := by
  have e : (mu ++ [Ob.err c fs])[mu.length]? = some (.err c fs) := by
    rw [List.getElem?_append_right (Nat.le_refl _), Nat.sub_self]
    rfl
  show (match (mu ++ [Ob.err c fs])[mu.length]? with
    | some (.err c fs) => some (c, fs)
    | _ => none) = _
  rw [e]
@[simp] theorem yes_said : Yes (eSaid said e rho mu) P ↔ Yes (said (fun mu' => e rho mu') mu) P := Iff.rfl
end
theorem isx_no {n : Nat} {m : Mem} {xs : List Da} {u : StD} {Q : Po} (h : errAt m (.ref n) = some (c, fs)) (hs : sub c D = some false) (hq : Q.nx [Sl.val (.ref n), Sl.own xs] m) : SP (sIf (tV (eIsX sub D (eV 0))) u sNx [Sl.val (.ref n), Sl.own xs] m) Q := by
  simp [h, hs]
  exact hq
theorem isx_yes {n : Nat} {m : Mem} {w : Str} {v : Da} {Q : Po} (h : errAt m (.ref n) = some (c, fs)) (hs : sub c D = some true) (hc : c ∈ cls) (hl : dLook f fs = some v) (hq : Q.nx [Sl.val (.ref n), Sl.own [.tup [.str w, v]]] m) :
    SP (sIf (tV (eIsX sub D (eV 0))) (sApp 1 (eTup (aC (eK (.str w)) (aC (eAtX cls f (eV 0)) aN)))) sNx [Sl.val (.ref n), Sl.own []] m) Q := by
  have e : (0 : Nat) < sizeLine := sz_lt (by omega)
  simp [h, hs, hc, hl, e]
  exact hq
theorem fault_end {n : Nat} {m : Mem} {x : Da} {u : EvD} {Q : Po} (hq : Q.rt x m) : SP (sRet (eIf (tV (e2 eqD (eLenO 1) (eK (.int 1)))) (eIxO 1 (eK (.int 0))) u) [Sl.val (.ref n), Sl.own [x]] m) Q := by
  have i0 : L2.atI [x] 0 = some x := rfl
  simp [i0]
  exact hq
theorem saidD_exc {hit : Str → Option Bool} {ret : StD} {th : Thk} {x : Exn} {mu mu' : Mem} (h : th mu = .exc x mu') (hh : hit x.cls = some true) : saidD hit ret th mu = (ret [.un, .val (.ref mu'.length), .val .non, .un] (mu' ++ [.err x.cls x.fs])).out := by
  show (sSeq (sTryA hit 3 1 (sSet 2 fun _ mu => th mu)) ret [.un, .val .non, .val .non, .un] mu).out = _
  have e : (sSet 2 fun _ mu => th mu) [.un, .val .non, .val .non, .un] mu = .exc x [.un, .val .non, .val .non, .un] mu' := by
    show sUse (th mu) _ _ = _
    rw [h]
    rfl
  unfold sSeq sTryA
  rw [e]
  dsimp only
  rw [hh]
  rfl
theorem out_ret {e : EvD} {rho : Ev} {mu : Mem} : (sRet e rho mu).out = e rho mu := by
  unfold sRet sUse
  cases e rho mu <;> rfl
/-- said where nothing is raised -/
theorem said_ret {th : Thk} {z : Da} {mu mu' : Mem} (h : th mu = .ok z mu') : m_law_said th mu = .ok (.lst [z]) mu' := by
  unfold m_law_said saidD
  show (sSeq (sTryA _ 3 1 (sSet 2 fun _ mu => th mu)) _ [.un, .val .non, .val .non, .un] mu).out = _
  have e : (sSet 2 fun _ mu => th mu) [.un, .val .non, .val .non, .un] mu = .nx [.un, .val .non, .val z, .un] mu' := by
    show sUse (th mu) _ _ = _
    rw [h]
    rfl
  unfold sSeq sTryA
  rw [e]
  rfl
/-- said where x is raised -/
theorem said_exc {th : Thk} {x : Exn} {v : Da} {mu mu' m : Mem} (h : th mu = .exc x mu') (hh : saidHit x.cls = some true) (hf : m_law_fault [.ref mu'.length] (mu' ++ [.err x.cls x.fs]) = .ok v m) : m_law_said th mu = .ok v m := by
  unfold m_law_said
  rw [saidD_exc h hh, out_ret]
  refine eq_of_yes ?_
  have i : isND (.ref mu'.length) .non = some (.bl false) := rfl
  simp [i, hf]
theorem Dw.app {rest : Mem} {k : Nat} {mu : Mem} (h : Dw rest k mu) (o : Ob) : Dw (rest ++ [o]) k (mu ++ [o]) := by
  obtain ⟨o0, cs, a, l, u, rfl, h1⟩ := h
  exact ⟨o0, cs, a, l, u, rfl, h1⟩
theorem Dw.apps {rest : Mem} {k : Nat} {mu : Mem} (h : Dw rest k mu) (os : Mem) : Dw (rest ++ os) k (mu ++ os) := by
  obtain ⟨o0, cs, a, l, u, rfl, h1⟩ := h
  exact ⟨o0, cs, a, l, u, rfl, h1⟩
theorem Dw.len {rest : Mem} {k : Nat} {mu : Mem} (h : Dw rest k mu) : mu.length = rest.length + 2 := by
  obtain ⟨o0, cs, a, l, u, rfl, h1⟩ := h
  rfl
theorem Dw.split {rest os : Mem} {k : Nat} {mu : Mem} (h : Dw (rest ++ os) k mu) : ∃ m, mu = m ++ os ∧ Dw rest k m := by
  obtain ⟨o0, cs, a, l, u, rfl, h1⟩ := h
  exact ⟨o0 :: .dct (dwK cs a l u) :: rest, rfl, o0, cs, a, l, u, rfl, h1⟩
end Sk

/-! ### what is told of a caught error: printed by mkfault.py -/
namespace Sk
open PySem
theorem fault_book (z : Da) (mu : Mem) : m_law_fault [.ref mu.length] (mu ++ [.err "BadBook" [("place", z)]]) = .ok (.tup [.str "book", z]) (mu ++ [.err "BadBook" [("place", z)]]) := by
  refine eq_of_yes ?_
  have he := errAt_last (mu := mu) (c := "BadBook") (fs := [("place", z)])
  have hBadBook : hitL [("BadBook", true), ("BadLoss", false), ("BadStart", false), ("BadHeard", false), ("BadNumber", false)] "BadBook" = some true := by kernel_rfl
  have hBadLoss : hitL [("BadBook", false), ("BadLoss", true), ("BadStart", false), ("BadHeard", false), ("BadNumber", false)] "BadBook" = some false := by kernel_rfl
  have hBadStart : hitL [("BadBook", false), ("BadLoss", false), ("BadStart", true), ("BadHeard", false), ("BadNumber", false)] "BadBook" = some false := by kernel_rfl
  have hBadHeard : hitL [("BadBook", false), ("BadLoss", false), ("BadStart", false), ("BadHeard", true), ("BadNumber", false)] "BadBook" = some false := by kernel_rfl
  have hBadNumber : hitL [("BadBook", false), ("BadLoss", false), ("BadStart", false), ("BadHeard", false), ("BadNumber", true)] "BadBook" = some false := by kernel_rfl
  have hN : hitL [("BadBook", false), ("BadLoss", false), ("BadStart", false), ("BadHeard", false), ("BadNumber", false)] "BadBook" = some false := by kernel_rfl
  unfold m_law_fault
  rw [yes_fn1, sp_seq, sp_own]
  refine sp_seq.mpr (isx_yes (v := z) he hBadBook (by decide) rfl ?_)
  refine sp_seq.mpr (isx_no he hBadLoss ?_)
  refine sp_seq.mpr (isx_no he hBadHeard ?_)
  refine sp_seq.mpr (isx_no he hBadStart ?_)
  refine sp_seq.mpr (isx_no he hBadNumber ?_)
  refine sp_seq.mpr (isx_no he hN ?_)
  refine sp_seq.mpr (isx_no he hN ?_)
  refine sp_seq.mpr (isx_no he hN ?_)
  refine sp_seq.mpr (isx_no he hN ?_)
  dsimp only
  refine fault_end ?_
  exact ⟨rfl, rfl⟩
theorem said_book {e : EvD} {rho : Ev} {z : Da} {mu mu2 : Mem} (h : e rho mu = .exc ⟨"BadBook", [("place", z)]⟩ mu2) : m_law_said (fun mu2 => e rho mu2) mu = .ok (.tup [.str "book", z]) (mu2 ++ [.err "BadBook" [("place", z)]]) := said_exc h (by kernel_rfl) (fault_book z mu2)
theorem fault_loss (z : Da) (mu : Mem) : m_law_fault [.ref mu.length] (mu ++ [.err "BadLoss" [("part", z)]]) = .ok (.tup [.str "loss", z]) (mu ++ [.err "BadLoss" [("part", z)]]) := by
  refine eq_of_yes ?_
  have he := errAt_last (mu := mu) (c := "BadLoss") (fs := [("part", z)])
  have hBadBook : hitL [("BadBook", true), ("BadLoss", false), ("BadStart", false), ("BadHeard", false), ("BadNumber", false)] "BadLoss" = some false := by kernel_rfl
  have hBadLoss : hitL [("BadBook", false), ("BadLoss", true), ("BadStart", false), ("BadHeard", false), ("BadNumber", false)] "BadLoss" = some true := by kernel_rfl
  have hBadStart : hitL [("BadBook", false), ("BadLoss", false), ("BadStart", true), ("BadHeard", false), ("BadNumber", false)] "BadLoss" = some false := by kernel_rfl
  have hBadHeard : hitL [("BadBook", false), ("BadLoss", false), ("BadStart", false), ("BadHeard", true), ("BadNumber", false)] "BadLoss" = some false := by kernel_rfl
  have hBadNumber : hitL [("BadBook", false), ("BadLoss", false), ("BadStart", false), ("BadHeard", false), ("BadNumber", true)] "BadLoss" = some false := by kernel_rfl
  have hN : hitL [("BadBook", false), ("BadLoss", false), ("BadStart", false), ("BadHeard", false), ("BadNumber", false)] "BadLoss" = some false := by kernel_rfl
  unfold m_law_fault
  rw [yes_fn1, sp_seq, sp_own]
  refine sp_seq.mpr (isx_no he hBadBook ?_)
  refine sp_seq.mpr (isx_yes (v := z) he hBadLoss (by decide) rfl ?_)
  refine sp_seq.mpr (isx_no he hBadHeard ?_)
  refine sp_seq.mpr (isx_no he hBadStart ?_)
  refine sp_seq.mpr (isx_no he hBadNumber ?_)
  refine sp_seq.mpr (isx_no he hN ?_)
  refine sp_seq.mpr (isx_no he hN ?_)
  refine sp_seq.mpr (isx_no he hN ?_)
  refine sp_seq.mpr (isx_no he hN ?_)
  dsimp only
  refine fault_end ?_
  exact ⟨rfl, rfl⟩
theorem said_loss {e : EvD} {rho : Ev} {z : Da} {mu mu2 : Mem} (h : e rho mu = .exc ⟨"BadLoss", [("part", z)]⟩ mu2) : m_law_said (fun mu2 => e rho mu2) mu = .ok (.tup [.str "loss", z]) (mu2 ++ [.err "BadLoss" [("part", z)]]) := said_exc h (by kernel_rfl) (fault_loss z mu2)
theorem fault_start (z : Da) (mu : Mem) : m_law_fault [.ref mu.length] (mu ++ [.err "BadStart" [("given", z)]]) = .ok (.tup [.str "start", z]) (mu ++ [.err "BadStart" [("given", z)]]) := by
  refine eq_of_yes ?_
  have he := errAt_last (mu := mu) (c := "BadStart") (fs := [("given", z)])
  have hBadBook : hitL [("BadBook", true), ("BadLoss", false), ("BadStart", false), ("BadHeard", false), ("BadNumber", false)] "BadStart" = some false := by kernel_rfl
  have hBadLoss : hitL [("BadBook", false), ("BadLoss", true), ("BadStart", false), ("BadHeard", false), ("BadNumber", false)] "BadStart" = some false := by kernel_rfl
  have hBadStart : hitL [("BadBook", false), ("BadLoss", false), ("BadStart", true), ("BadHeard", false), ("BadNumber", false)] "BadStart" = some true := by kernel_rfl
  have hBadHeard : hitL [("BadBook", false), ("BadLoss", false), ("BadStart", false), ("BadHeard", true), ("BadNumber", false)] "BadStart" = some false := by kernel_rfl
  have hBadNumber : hitL [("BadBook", false), ("BadLoss", false), ("BadStart", false), ("BadHeard", false), ("BadNumber", true)] "BadStart" = some false := by kernel_rfl
  have hN : hitL [("BadBook", false), ("BadLoss", false), ("BadStart", false), ("BadHeard", false), ("BadNumber", false)] "BadStart" = some false := by kernel_rfl
  unfold m_law_fault
  rw [yes_fn1, sp_seq, sp_own]
  refine sp_seq.mpr (isx_no he hBadBook ?_)
  refine sp_seq.mpr (isx_no he hBadLoss ?_)
  refine sp_seq.mpr (isx_no he hBadHeard ?_)
  refine sp_seq.mpr (isx_yes (v := z) he hBadStart (by decide) rfl ?_)
  refine sp_seq.mpr (isx_no he hBadNumber ?_)
  refine sp_seq.mpr (isx_no he hN ?_)
  refine sp_seq.mpr (isx_no he hN ?_)
  refine sp_seq.mpr (isx_no he hN ?_)
  refine sp_seq.mpr (isx_no he hN ?_)
  dsimp only
  refine fault_end ?_
  exact ⟨rfl, rfl⟩
theorem said_start {e : EvD} {rho : Ev} {z : Da} {mu mu2 : Mem} (h : e rho mu = .exc ⟨"BadStart", [("given", z)]⟩ mu2) : m_law_said (fun mu2 => e rho mu2) mu = .ok (.tup [.str "start", z]) (mu2 ++ [.err "BadStart" [("given", z)]]) := said_exc h (by kernel_rfl) (fault_start z mu2)
theorem fault_heard (z : Da) (mu : Mem) : m_law_fault [.ref mu.length] (mu ++ [.err "BadHeard" [("number", z)]]) = .ok (.tup [.str "heard", z]) (mu ++ [.err "BadHeard" [("number", z)]]) := by
  refine eq_of_yes ?_
  have he := errAt_last (mu := mu) (c := "BadHeard") (fs := [("number", z)])
  have hBadBook : hitL [("BadBook", true), ("BadLoss", false), ("BadStart", false), ("BadHeard", false), ("BadNumber", false)] "BadHeard" = some false := by kernel_rfl
  have hBadLoss : hitL [("BadBook", false), ("BadLoss", true), ("BadStart", false), ("BadHeard", false), ("BadNumber", false)] "BadHeard" = some false := by kernel_rfl
  have hBadStart : hitL [("BadBook", false), ("BadLoss", false), ("BadStart", true), ("BadHeard", false), ("BadNumber", false)] "BadHeard" = some false := by kernel_rfl
  have hBadHeard : hitL [("BadBook", false), ("BadLoss", false), ("BadStart", false), ("BadHeard", true), ("BadNumber", false)] "BadHeard" = some true := by kernel_rfl
  have hBadNumber : hitL [("BadBook", false), ("BadLoss", false), ("BadStart", false), ("BadHeard", false), ("BadNumber", true)] "BadHeard" = some false := by kernel_rfl
  have hN : hitL [("BadBook", false), ("BadLoss", false), ("BadStart", false), ("BadHeard", false), ("BadNumber", false)] "BadHeard" = some false := by kernel_rfl
  unfold m_law_fault
  rw [yes_fn1, sp_seq, sp_own]
  refine sp_seq.mpr (isx_no he hBadBook ?_)
  refine sp_seq.mpr (isx_no he hBadLoss ?_)
  refine sp_seq.mpr (isx_yes (v := z) he hBadHeard (by decide) rfl ?_)
  refine sp_seq.mpr (isx_no he hBadStart ?_)
  refine sp_seq.mpr (isx_no he hBadNumber ?_)
  refine sp_seq.mpr (isx_no he hN ?_)
  refine sp_seq.mpr (isx_no he hN ?_)
  refine sp_seq.mpr (isx_no he hN ?_)
  refine sp_seq.mpr (isx_no he hN ?_)
  dsimp only
  refine fault_end ?_
  exact ⟨rfl, rfl⟩
theorem said_heard {e : EvD} {rho : Ev} {z : Da} {mu mu2 : Mem} (h : e rho mu = .exc ⟨"BadHeard", [("number", z)]⟩ mu2) : m_law_said (fun mu2 => e rho mu2) mu = .ok (.tup [.str "heard", z]) (mu2 ++ [.err "BadHeard" [("number", z)]]) := said_exc h (by kernel_rfl) (fault_heard z mu2)
theorem fault_number (z : Da) (mu : Mem) : m_law_fault [.ref mu.length] (mu ++ [.err "BadNumber" [("given", z)]]) = .ok (.tup [.str "number", z]) (mu ++ [.err "BadNumber" [("given", z)]]) := by
  refine eq_of_yes ?_
  have he := errAt_last (mu := mu) (c := "BadNumber") (fs := [("given", z)])
  have hBadBook : hitL [("BadBook", true), ("BadLoss", false), ("BadStart", false), ("BadHeard", false), ("BadNumber", false)] "BadNumber" = some false := by kernel_rfl
  have hBadLoss : hitL [("BadBook", false), ("BadLoss", true), ("BadStart", false), ("BadHeard", false), ("BadNumber", false)] "BadNumber" = some false := by kernel_rfl
  have hBadStart : hitL [("BadBook", false), ("BadLoss", false), ("BadStart", true), ("BadHeard", false), ("BadNumber", false)] "BadNumber" = some false := by kernel_rfl
  have hBadHeard : hitL [("BadBook", false), ("BadLoss", false), ("BadStart", false), ("BadHeard", true), ("BadNumber", false)] "BadNumber" = some false := by kernel_rfl
  have hBadNumber : hitL [("BadBook", false), ("BadLoss", false), ("BadStart", false), ("BadHeard", false), ("BadNumber", true)] "BadNumber" = some true := by kernel_rfl
  have hN : hitL [("BadBook", false), ("BadLoss", false), ("BadStart", false), ("BadHeard", false), ("BadNumber", false)] "BadNumber" = some false := by kernel_rfl
  unfold m_law_fault
  rw [yes_fn1, sp_seq, sp_own]
  refine sp_seq.mpr (isx_no he hBadBook ?_)
  refine sp_seq.mpr (isx_no he hBadLoss ?_)
  refine sp_seq.mpr (isx_no he hBadHeard ?_)
  refine sp_seq.mpr (isx_no he hBadStart ?_)
  refine sp_seq.mpr (isx_yes (v := z) he hBadNumber (by decide) rfl ?_)
  refine sp_seq.mpr (isx_no he hN ?_)
  refine sp_seq.mpr (isx_no he hN ?_)
  refine sp_seq.mpr (isx_no he hN ?_)
  refine sp_seq.mpr (isx_no he hN ?_)
  dsimp only
  refine fault_end ?_
  exact ⟨rfl, rfl⟩
theorem said_number {e : EvD} {rho : Ev} {z : Da} {mu mu2 : Mem} (h : e rho mu = .exc ⟨"BadNumber", [("given", z)]⟩ mu2) : m_law_said (fun mu2 => e rho mu2) mu = .ok (.tup [.str "number", z]) (mu2 ++ [.err "BadNumber" [("given", z)]]) := said_exc h (by kernel_rfl) (fault_number z mu2)
end Sk

/-! ### each door refuses -/
namespace Sk
open PySem
/-- as many errors -/
abbrev ers (n : Nat) (c f : Str) (z : Da) : Mem := List.replicate n (.err c [(f, z)])
abbrev tws (n : Nat) (w : Str) (z : Da) : List Da := List.replicate n (.tup [.str w, z])
theorem says_exc {rho : Ev} {c f w : Str} {z : Da} (hs : ∀ (e : EvD) (mu mu2 : Mem), e rho mu = .exc ⟨c, [(f, z)]⟩ mu2 → m_law_said (fun m => e rho m) mu = .ok (.tup [.str w, z]) (mu2 ++ [.err c [(f, z)]])) :
    ∀ {es : List EvD} (h : ∀ mu, es.map (fun e => e rho mu) = List.replicate es.length (.exc ⟨c, [(f, z)]⟩ mu)) (mu : Mem), saysL m_law_said es rho mu = .ok (tws es.length w z) (mu ++ ers es.length c f z)
  | [], _, mu => by
    show Out.ok [] mu = .ok [] (mu ++ [])
    rw [List.append_nil]
  | e :: es, h, mu => by
    have h0 : ∀ mu, e rho mu = .exc ⟨c, [(f, z)]⟩ mu := fun mu => (List.cons.inj (h mu)).1
    have h1 : ∀ mu, es.map (fun e => e rho mu) = List.replicate es.length (.exc ⟨c, [(f, z)]⟩ mu) := fun mu => (List.cons.inj (h mu)).2
    unfold saysL
    rw [hs e mu mu (h0 mu)]
    simp only [noX, bnd]
    rw [says_exc hs h1]
    simp only [List.append_assoc, List.length_cons, List.replicate_succ, List.singleton_append]
theorem calls_fn {n k j : Nat} {es : List EvD} {ds : List Da} {c f w : Str} {z : Da} (hs : ∀ (e : EvD) (rho : Ev) (mu mu2 : Mem), e rho mu = .exc ⟨c, [(f, z)]⟩ mu2 → m_law_said (fun m => e rho m) mu = .ok (.tup [.str w, z]) (mu2 ++ [.err c [(f, z)]])) (hl : ds.length = n) (hu : unAt j (ds.map Sl.val ++ List.replicate k .un) = true)
    (h : ∀ mu, es.map (fun e => e (ds.map Sl.val ++ List.replicate k .un) mu) = List.replicate es.length (.exc ⟨c, [(f, z)]⟩ mu)) (mu : Mem) : fnD n k (callsD m_law_said j es) ds mu = .ok (.lst (tws es.length w z)) (mu ++ ers es.length c f z) := by
  unfold fnD
  rw [if_pos hl]
  unfold callsD
  rw [if_pos hu, says_exc (fun e mu mu2 => hs e _ mu mu2) h mu]
  rfl
def badBooks : List (Da × Da) := [(.non, .tup []), (.tup [], .tup []), (.lst [.tup [.int 1]], .tup []), (.tup [.tup [.int 1, .int 2], .int 5], .tup [.int 1]), (.tup [.tup [], .non], .tup [.int 0]), (.tup [.tup [.int 1, .int 100], .tup []], .tup [.int 0, .int 1])]
def bk21 : Da := .tup [.tup [.int 1, .int 2], .tup [.int 3]]
def badLosses : List (Da × Da) := [(.non, .str "form"), (.tup [.int 1], .str "form"), (.lst [.int 1, .int 1], .str "form"), (.tup [.int (-1), .non], .str "lost"), (.tup [.int 0, .bl true], .str "added"), (.tup [.int 0, .int (10 ^ 30 + 1)], .str "added")]
def badStarts : List Da := [.non, .int 0, .tup [.int 0], .lst [.int 0, .int 0], .tup [.int 0, .int 2], .tup [.int 2, .int 0], .tup [.int 1, .int 1], .tup [.bl true, .int 0], .tup [.int 0, .int (-1)], .str "00"]
def badRows : List (Da × Da) := [(.non, .non), (.int 5, .non), (.lst [.int 1], .non), (.tup [.int 1, .int (-1)], .int 1), (.tup [.int 1, .bl true], .int 1), (.tup [.int 2, .str "1"], .int 1), (.tup [.int 0, .int (10 ^ 30 + 1)], .int 1)]
def badMarks : List Da := [.non, .int (-1), .bl true, .str "5", .tup [.int 5], .lst [], .int (10 ^ 30 + 1)]
def badClocks : List Da := [.non, .int (-1), .int 2, .bl true, .str "0", .tup [.int 0], .int (10 ^ 30)]
theorem books_losses : ∀ p ∈ badBooks, ∀ mu, m_law_losses [p.1, .non] mu = .ok (.lst (tws 13 "book" p.2)) (mu ++ ers 13 "BadBook" "place" p.2) := by
  intro p hp mu
  unfold m_law_losses
  simp only [badBooks, List.mem_cons, List.not_mem_nil, or_false] at hp
  rcases hp with rfl | rfl | rfl | rfl | rfl | rfl <;> exact calls_fn (fun _ _ _ _ h => said_book h) rfl rfl (fun mu => by kernel_rfl) mu
theorem books_starts : ∀ p ∈ badBooks, ∀ mu, m_law_starts_so [p.1, .non] mu = .ok (.lst (tws 9 "book" p.2)) (mu ++ ers 9 "BadBook" "place" p.2) := by
  intro p hp mu
  unfold m_law_starts_so
  simp only [badBooks, List.mem_cons, List.not_mem_nil, or_false] at hp
  rcases hp with rfl | rfl | rfl | rfl | rfl | rfl <;> exact calls_fn (fun _ _ _ _ h => said_book h) rfl rfl (fun mu => by kernel_rfl) mu
theorem books_books : ∀ p ∈ badBooks, ∀ mu, m_law_books [p.1] mu = .ok (.lst (tws 4 "book" p.2)) (mu ++ ers 4 "BadBook" "place" p.2) := by
  intro p hp mu
  unfold m_law_books
  simp only [badBooks, List.mem_cons, List.not_mem_nil, or_false] at hp
  rcases hp with rfl | rfl | rfl | rfl | rfl | rfl <;> exact calls_fn (fun _ _ _ _ h => said_book h) rfl rfl (fun mu => by kernel_rfl) mu
theorem losses_losses : ∀ p ∈ badLosses, ∀ mu, m_law_losses [bk21, p.1] mu = .ok (.lst (tws 13 "loss" p.2)) (mu ++ ers 13 "BadLoss" "part" p.2) := by
  intro p hp mu
  unfold m_law_losses
  simp only [badLosses, List.mem_cons, List.not_mem_nil, or_false] at hp
  rcases hp with rfl | rfl | rfl | rfl | rfl | rfl <;> exact calls_fn (fun _ _ _ _ h => said_loss h) rfl rfl (fun mu => by kernel_rfl) mu
theorem starts_starts : ∀ p ∈ badStarts, ∀ mu, m_law_starts_so [bk21, p] mu = .ok (.lst (tws 9 "start" p)) (mu ++ ers 9 "BadStart" "given" p) := by
  intro p hp mu
  unfold m_law_starts_so
  simp only [badStarts, List.mem_cons, List.not_mem_nil, or_false] at hp
  rcases hp with rfl | rfl | rfl | rfl | rfl | rfl | rfl | rfl | rfl | rfl <;> exact calls_fn (fun _ _ _ _ h => said_start h) rfl rfl (fun mu => by kernel_rfl) mu
theorem starts_seconds : ∀ p ∈ badStarts, ∀ mu, m_law_seconds [bk21, p] mu = .ok (.lst (tws 5 "start" p)) (mu ++ ers 5 "BadStart" "given" p) := by
  intro p hp mu
  unfold m_law_seconds
  simp only [badStarts, List.mem_cons, List.not_mem_nil, or_false] at hp
  rcases hp with rfl | rfl | rfl | rfl | rfl | rfl | rfl | rfl | rfl | rfl <;> exact calls_fn (fun _ _ _ _ h => said_start h) rfl rfl (fun mu => by kernel_rfl) mu
theorem rows_rows : ∀ p ∈ badRows, ∀ mu, m_law_rows [bk21, p.1] mu = .ok (.lst (tws 6 "heard" p.2)) (mu ++ ers 6 "BadHeard" "number" p.2) := by
  intro p hp mu
  unfold m_law_rows
  simp only [badRows, List.mem_cons, List.not_mem_nil, or_false] at hp
  rcases hp with rfl | rfl | rfl | rfl | rfl | rfl | rfl <;> exact calls_fn (fun _ _ _ _ h => said_heard h) rfl rfl (fun mu => by kernel_rfl) mu
theorem marks_marks : ∀ p ∈ badMarks, ∀ mu, m_law_marks [bk21, p] mu = .ok (.lst (tws 7 "number" p)) (mu ++ ers 7 "BadNumber" "given" p) := by
  intro p hp mu
  unfold m_law_marks
  simp only [badMarks, List.mem_cons, List.not_mem_nil, or_false] at hp
  rcases hp with rfl | rfl | rfl | rfl | rfl | rfl | rfl <;> exact calls_fn (fun _ _ _ _ h => said_number h) rfl rfl (fun mu => by kernel_rfl) mu
theorem clocks_clocks : ∀ p ∈ badClocks, ∀ mu, m_law_clocks [bk21, p] mu = .ok (.lst (tws 3 "number" p)) (mu ++ ers 3 "BadNumber" "given" p) := by
  intro p hp mu
  unfold m_law_clocks
  simp only [badClocks, List.mem_cons, List.not_mem_nil, or_false] at hp
  rcases hp with rfl | rfl | rfl | rfl | rfl | rfl | rfl <;> exact calls_fn (fun _ _ _ _ h => said_number h) rfl rfl (fun mu => by kernel_rfl) mu
theorem rp_books : ∀ p ∈ badBooks, Rp (.lst (tws 26 "book" p.2)) := by
  have h : ∀ p ∈ badBooks, fine (.lst (tws 26 "book" p.2)) = true ∧ bulkD (.lst (tws 26 "book" p.2)) ≤ 50000 ∧ depD (.lst (tws 26 "book" p.2)) ≤ 60 := by decide +kernel
  exact fun p hp => ⟨(h p hp).1, (h p hp).2.1, (h p hp).2.2⟩
theorem rp_losses : ∀ p ∈ badLosses, Rp (.lst (tws 26 "loss" p.2)) := by
  have h : ∀ p ∈ badLosses, fine (.lst (tws 26 "loss" p.2)) = true ∧ bulkD (.lst (tws 26 "loss" p.2)) ≤ 50000 ∧ depD (.lst (tws 26 "loss" p.2)) ≤ 60 := by decide +kernel
  exact fun p hp => ⟨(h p hp).1, (h p hp).2.1, (h p hp).2.2⟩
theorem rp_starts : ∀ p ∈ badStarts, Rp (.lst (tws 14 "start" p)) := by
  have h : ∀ p ∈ badStarts, fine (.lst (tws 14 "start" p)) = true ∧ bulkD (.lst (tws 14 "start" p)) ≤ 50000 ∧ depD (.lst (tws 14 "start" p)) ≤ 60 := by decide +kernel
  exact fun p hp => ⟨(h p hp).1, (h p hp).2.1, (h p hp).2.2⟩
theorem rp_rows : ∀ p ∈ badRows, Rp (.lst (tws 12 "heard" p.2)) := by
  have h : ∀ p ∈ badRows, fine (.lst (tws 12 "heard" p.2)) = true ∧ bulkD (.lst (tws 12 "heard" p.2)) ≤ 50000 ∧ depD (.lst (tws 12 "heard" p.2)) ≤ 60 := by decide +kernel
  exact fun p hp => ⟨(h p hp).1, (h p hp).2.1, (h p hp).2.2⟩
theorem rp_marks : ∀ p ∈ badMarks, Rp (.lst (tws 14 "number" p)) := by
  have h : ∀ p ∈ badMarks, fine (.lst (tws 14 "number" p)) = true ∧ bulkD (.lst (tws 14 "number" p)) ≤ 50000 ∧ depD (.lst (tws 14 "number" p)) ≤ 60 := by decide +kernel
  exact fun p hp => ⟨(h p hp).1, (h p hp).2.1, (h p hp).2.2⟩
theorem rp_clocks : ∀ p ∈ badClocks, Rp (.lst (tws 3 "number" p)) := by
  have h : ∀ p ∈ badClocks, fine (.lst (tws 3 "number" p)) = true ∧ bulkD (.lst (tws 3 "number" p)) ≤ 50000 ∧ depD (.lst (tws 3 "number" p)) ≤ 60 := by decide +kernel
  exact fun p hp => ⟨(h p hp).1, (h p hp).2.1, (h p hp).2.2⟩
theorem row_kind : ∀ p ∈ badRows, ∃ b, isiB "tuple" p.1 = some (.bl b) ∧ p.2 = if b then .int 1 else .non := by
  intro p hp
  simp only [badRows, List.mem_cons, List.not_mem_nil, or_false] at hp
  rcases hp with rfl | rfl | rfl | rfl | rfl | rfl | rfl
  · exact ⟨false, rfl, rfl⟩
  · exact ⟨false, rfl, rfl⟩
  · exact ⟨false, rfl, rfl⟩
  · exact ⟨true, rfl, rfl⟩
  · exact ⟨true, rfl, rfl⟩
  · exact ⟨true, rfl, rfl⟩
  · exact ⟨true, rfl, rfl⟩
/-! ### statements -/
section
variable {rho : Ev} {mu m1 m2 : Mem} {a b : EvD} {x y z : Da} {D : Po} {c : StD} {args : Ev → Mem → Out (List Da)} {xs : List Da}
theorem cut21 (rho' : Ev) (mu' : Mem) {u : StD} (h : u rho mu = .nx rho' mu') (k : SP (c rho' mu') D) : SP (sSeq u c rho mu) D := by
  refine sp_seq.mpr ?_
  rw [h]
  exact k
theorem e2_ok {f : Da → Da → Option Da} (h1 : a rho mu = .ok x m1) (h2 : b rho m1 = .ok y m2) (h3 : f x y = some z) : e2 f a b rho mu = .ok z m2 := by
  unfold e2
  rw [h1, bnd_ok, h2, bnd_ok, h3]
  rfl
theorem eC_ok {fn : Fn} (h1 : args rho mu = .ok xs m1) (h2 : fn xs m1 = .ok z m2) : eC fn args rho mu = .ok z m2 := by
  unfold eC
  rw [h1, bnd_ok, h2]
theorem set_ok {i : Nat} (h : a rho mu = .ok z m1) : sSet i a rho mu = .nx (rho.set i (.val z)) m1 := by
  unfold sSet sUse
  rw [h]
theorem pick_unp {bd : Da → Ev → Option Ev} {rest : Mem} {n : Nat} {L : List Da} (h : Dw rest n mu) (hn : n < 10 ^ 9) (ha : args rho mu = .ok [.ref 1, .lst L] mu) (h0 : L ≠ []) (h1 : L.length ≤ 1000) (k : ∀ d ∈ L, ∀ mu', Dw rest (n + 1) mu' → ∃ r, bd d rho = some r ∧ SP (c r mu') D) :
    SP (sSeq (sUnp bd (eC m_law_pick args)) c rho mu) D := by
  have y := pick_yes (P := fun d m => ∃ r, bd d rho = some r ∧ SP (c r m) D) h h0 (by omega) hn fun d m hd h => k d hd m h
  refine sp_seq.mpr ?_
  unfold sUnp sUse eC
  rw [ha, bnd_ok]
  cases e : m_law_pick [.ref 1, .lst L] mu with
  | ok d m =>
    rw [e] at y
    obtain ⟨r, e1, h2⟩ := y
    dsimp only
    rw [e1]
    exact h2
  | exc x m => rw [e] at y; exact y.elim
  | bad => rw [e] at y; exact y.elim
theorem pick_set {i : Nat} {rest : Mem} {n : Nat} {L : List Da} (h : Dw rest n mu) (hn : n < 10 ^ 9) (ha : args rho mu = .ok [.ref 1, .lst L] mu) (h0 : L ≠ []) (h1 : L.length ≤ 1000) (k : ∀ d ∈ L, ∀ mu', Dw rest (n + 1) mu' → SP (c (rho.set i (.val d)) mu') D) :
    SP (sSeq (sSet i (eC m_law_pick args)) c rho mu) D := by
  have y := pick_yes (P := fun d m => SP (c (rho.set i (.val d)) m) D) h h0 (by omega) hn fun d m hd h => k d hd m h
  refine sp_seq.mpr ?_
  unfold sSet sUse eC
  rw [ha, bnd_ok]
  cases e : m_law_pick [.ref 1, .lst L] mu with
  | ok d m => rw [e] at y; exact y
  | exc x m => rw [e] at y; exact y.elim
  | bad => rw [e] at y; exact y.elim
/-- the texts of both sides are alike -/
theorem same_if (ha : a rho mu = .ok x m1) (hb : b rho m1 = .ok x m1) (hx : Rp x) : sIf (tV (e2 neD (eB reprD (aC a aN)) (eB reprD (aC b aN)))) (sRet (eK (.bl false))) sNx rho mu = .nx rho m1 := by
  have r1 : eB reprD (aC a aN) rho mu = .ok (.str (toPy x).shown) m1 := by
    unfold eB aC
    rw [ha, bnd_ok, show aN rho m1 = .ok [] m1 from rfl, bnd_ok, bnd_ok, hx.repr]
    rfl
  have r2 : eB reprD (aC b aN) rho m1 = .ok (.str (toPy x).shown) m1 := by
    unfold eB aC
    rw [hb, bnd_ok, show aN rho m1 = .ok [] m1 from rfl, bnd_ok, bnd_ok, hx.repr]
    rfl
  have r3 := e2_ok r1 r2 (ne_str hx.sok)
  unfold sIf tV sUse
  rw [r3]
  rfl
end
section
variable {rho : Ev} {mu m1 m2 : Mem} {a : EvD} {x : Da} {r : Ev → Mem → Out (List Da)} {xs : List Da}
theorem aC_ok (h1 : a rho mu = .ok x m1) (h2 : r rho m1 = .ok xs m2) : aC a r rho mu = .ok (x :: xs) m2 := by
  unfold aC
  rw [h1, bnd_ok, h2]
  rfl
theorem eTup_ok (h1 : r rho mu = .ok xs m1) : eTup r rho mu = .ok (.tup xs) m1 := by
  unfold eTup
  rw [h1]
  rfl
theorem eLst_ok (h1 : r rho mu = .ok xs m1) : eLst r rho mu = .ok (.lst xs) m1 := by
  unfold eLst
  rw [h1]
  rfl
end
theorem kind21 {rho : Ev} {m : Mem} {x y : Da} {b : Bool} (h1 : isiB "tuple" x = some (.bl b)) (h2 : y = if b then .int 1 else .non) (h3 : rho[7]? = some (.val x)) : eLst (aC (eTup (aC (eK (.str "heard")) (aC (eIf (tV (e1 (isiB "tuple") (eV 7))) (eK (.int 1)) (eK .non)) aN))) aN) rho m = .ok (.lst [.tup [.str "heard", y]]) m := by
  subst h2
  have e0 : eV 7 rho m = .ok x m := by
    unfold eV
    rw [h3]
  have e1 : tV (e1 (isiB "tuple") (eV 7)) rho m = .ok b m := by
    unfold tV Sk.e1
    rw [e0, bnd_ok, h1]
    rfl
  have e2 : eIf (tV (Sk.e1 (isiB "tuple") (eV 7))) (eK (.int 1)) (eK .non) rho m = .ok (if b then .int 1 else .non) m := by
    unfold eIf
    rw [e1]
    cases b <;> rfl
  exact eLst_ok (aC_ok (eTup_ok (aC_ok rfl (aC_ok e2 rfl))) rfl)
theorem sp_of_eq {u : StD} {rho rho' : Ev} {mu mu' : Mem} {D : Po} (h : u rho mu = .nx rho' mu') (k : D.nx rho' mu') : SP (u rho mu) D := by
  rw [h]
  exact k
theorem pair_of {L : List (Da × Da)} {d : Da} (h : d ∈ L.map fun p => .tup [p.1, p.2]) : ∃ p ∈ L, d = .tup [p.1, p.2] := by
  obtain ⟨p, hp, e⟩ := List.mem_map.mp h
  exact ⟨p, hp, e.symm⟩
/-- one turn -/
theorem turn_ok {rest : Mem} {k : Nat} (hk : k + 100 < 10 ^ 9) {v0 v3 v4 v5 v6 v7 v8 v9 v10 : Sl} {m : Mem} (h : Dw rest k m) {D : Po}
    (kn : ∀ v5 v6 v7 v8 v9 v10 m' rest', Dw rest' (k + 10) m' → D.nx [v0, Sl.val (.ref 1), Sl.val bk21, v3, v4, v5, v6, v7, v8, v9, v10] m') :
    SP (m_law_f1 [v0, Sl.val (.ref 1), Sl.val bk21, v3, v4, v5, v6, v7, v8, v9, v10] m) D := by
  unfold m_law_f1
  refine cut21 [v0, .val (.ref 1), .val bk21, v3, v4, v5, .val (.lst ((badBooks.take 5).map fun p => .tup [p.1, p.2])), v7, v8, v9, v10] m (by kernel_rfl) ?_
  refine pick_unp (L := badBooks.map fun p => .tup [p.1, p.2]) h (by omega) (by kernel_rfl) (by decide) (by decide) fun d hd m h => ?_
  obtain ⟨p, hp, rfl⟩ := pair_of hd
  refine ⟨_, rfl, ?_⟩
  refine cut21 _ _ (set_ok (e2_ok (e2_ok (eC_ok rfl (books_losses p hp _)) (eC_ok rfl (books_starts p hp _)) (z := .lst (tws 22 "book" p.2)) rfl) (eC_ok rfl (books_books p hp _)) (z := .lst (tws 26 "book" p.2)) rfl)) ?_
  refine cut21 _ _ (same_if rfl (e2_ok (x := .lst [.tup [.str "book", p.2]]) rfl rfl rfl) (rp_books p hp)) ?_
  have h := ((h.apps (ers 13 "BadBook" "place" p.2)).apps (ers 9 "BadBook" "place" p.2)).apps (ers 4 "BadBook" "place" p.2)
  generalize m ++ ers 13 "BadBook" "place" p.2 ++ ers 9 "BadBook" "place" p.2 ++ ers 4 "BadBook" "place" p.2 = m at h ⊢
  refine cut21 [v0, .val (.ref 1), .val bk21, v3, v4, .val (.lst (tws 26 "book" p.2)), .val (.lst ((badLosses.take 3).map fun p => .tup [p.1, p.2])), v7, .val p.1, .val p.2, v10] m (by kernel_rfl) ?_
  refine cut21 [v0, .val (.ref 1), .val bk21, v3, v4, .val (.lst (tws 26 "book" p.2)), .val (.lst ((badLosses.take 5).map fun p => .tup [p.1, p.2])), v7, .val p.1, .val p.2, v10] m (by kernel_rfl) ?_
  refine pick_unp (L := badLosses.map fun p => .tup [p.1, p.2]) h (by omega) (by kernel_rfl) (by decide) (by decide) fun d hd m h => ?_
  obtain ⟨q, hq, rfl⟩ := pair_of hd
  refine ⟨_, rfl, ?_⟩
  refine cut21 _ _ (same_if (e2_ok (eC_ok rfl (losses_losses q hq _)) rfl (z := .lst (tws 26 "loss" q.2)) rfl) (e2_ok (x := .lst [.tup [.str "loss", q.2]]) rfl rfl rfl) (rp_losses q hq)) ?_
  have h := h.apps (ers 13 "BadLoss" "part" q.2)
  generalize m ++ ers 13 "BadLoss" "part" q.2 = m at h ⊢
  refine pick_set (L := badStarts) h (by omega) (by kernel_rfl) (by decide) (by decide) fun d hd m h => ?_
  refine cut21 _ _ (same_if (e2_ok (eC_ok rfl (starts_starts d hd _)) (eC_ok rfl (starts_seconds d hd _)) (z := .lst (tws 14 "start" d)) rfl) (e2_ok (x := .lst [.tup [.str "start", d]]) rfl rfl rfl) (rp_starts d hd)) ?_
  have h := (h.apps (ers 9 "BadStart" "given" d)).apps (ers 5 "BadStart" "given" d)
  generalize m ++ ers 9 "BadStart" "given" d ++ ers 5 "BadStart" "given" d = m at h ⊢
  refine pick_set (L := badRows.map (·.1)) h (by omega) (by kernel_rfl) (by decide) (by decide) fun d hd m h => ?_
  obtain ⟨r, hr, rfl⟩ := List.mem_map.mp hd
  obtain ⟨b, b1, b2⟩ := row_kind r hr
  refine cut21 _ _ (same_if (e2_ok (eC_ok rfl (rows_rows r hr _)) rfl (z := .lst (tws 12 "heard" r.2)) rfl) (e2_ok (x := .lst [.tup [.str "heard", r.2]]) (kind21 b1 b2 rfl) rfl rfl) (rp_rows r hr)) ?_
  have h := h.apps (ers 6 "BadHeard" "number" r.2)
  generalize m ++ ers 6 "BadHeard" "number" r.2 = m at h ⊢
  refine pick_set (L := badMarks) h (by omega) (by kernel_rfl) (by decide) (by decide) fun d hd m h => ?_
  refine cut21 _ _ (same_if (e2_ok (eC_ok rfl (marks_marks d hd _)) rfl (z := .lst (tws 14 "number" d)) rfl) (e2_ok (x := .lst [.tup [.str "number", d]]) rfl rfl rfl) (rp_marks d hd)) ?_
  have h := h.apps (ers 7 "BadNumber" "given" d)
  generalize m ++ ers 7 "BadNumber" "given" d = m at h ⊢
  refine pick_set (L := badClocks) h (by omega) (by kernel_rfl) (by decide) (by decide) fun e he m h => ?_
  have h := h.apps (ers 3 "BadNumber" "given" e)
  refine sp_of_eq (same_if (eC_ok rfl (clocks_clocks e he m)) (e2_ok (x := .lst [.tup [.str "number", e]]) rfl rfl rfl) (rp_clocks e he)) ?_
  exact kn _ _ _ _ _ _ _ _ (h.mono (by omega))
theorem begin_set {rho : Ev} {ns : List Int} {i : Nat} {args : Ev → Mem → Out (List Da)} {c : StD} {D : Po} (hl : ns.length ≤ 63) (ha : args rho [.scr (ns.map Da.int)] = .ok [.ref 0] [.scr (ns.map Da.int)]) (k : ∀ mu', Dw [] 0 mu' → SP (c (rho.set i (.val (.ref 1))) mu') D) :
    SP (sSeq (sSet i (eC m_law_begin args)) c rho [.scr (ns.map Da.int)]) D := by
  have y := begin_yes (P := fun d m => SP (c (rho.set i (.val d)) m) D) hl fun m h => k m h
  refine sp_seq.mpr ?_
  unfold sSet sUse eC
  rw [ha, bnd_ok]
  cases e : m_law_begin [.ref 0] [.scr (ns.map Da.int)] with
  | ok d m => rw [e] at y; exact y
  | exc x m => rw [e] at y; exact y.elim
  | bad => rw [e] at y; exact y.elim
theorem lawful : Lawful m_law := by
  intro ns hl
  have y : Yes (m_law [.ref 0] [.scr (ns.map Da.int)]) fun d m => d = .bl true := by
    unfold m_law
    rw [yes_fn1]
    refine begin_set hl rfl fun mu h => ?_
    refine cut21 [.val (.ref 0), .val (.ref 1), .val bk21, .un, .un, .un, .un, .un, .un, .un, .un] mu (by kernel_rfl) ?_
    rw [sp_seq]
    generalize hT : (sSeq (sSet 4 _) _ : StD) = tail
    simp
    refine ⟨sz_of (by omega) (by omega), ?_⟩
    refine sp_range (fun j rho m => ∃ v3 v4 v5 v6 v7 v8 v9 v10 rest, rho = [Sl.val (.ref 0), Sl.val (.ref 1), .val bk21, v3, v4, v5, v6, v7, v8, v9, v10] ∧ Dw rest (10 * j) m) ⟨_, _, _, _, _, _, _, _, _, rfl, h⟩ (fun j rho m hj i => ⟨_, rfl, ?_⟩) fun rho m i => ?_
    · obtain ⟨v3, v4, v5, v6, v7, v8, v9, v10, rest, rfl, h⟩ := i
      refine turn_ok (by omega) h fun v5 v6 v7 v8 v9 v10 m' rest' h' => ?_
      exact ⟨_, _, _, _, _, _, _, _, _, rfl, h'⟩
    · obtain ⟨v3, v4, v5, v6, v7, v8, v9, v10, rest, rfl, _⟩ := i
      have e : tail [Sl.val (.ref 0), Sl.val (.ref 1), .val bk21, v3, v4, v5, v6, v7, v8, v9, v10] m = .rt (.bl true) m := by
        subst hT
        kernel_rfl
      show SP (tail _ m) _
      rw [e]
      exact rfl
  obtain ⟨d, m, e, rfl⟩ := y.eq
  exact ⟨m, e⟩
end Sk

/-! ### the text does what the mirrors do -/
namespace Sk
open PySem PySem.Spec L2
theorem sc_law_begin : FnScope ["_law_script"] ["_law_script"] (defScope st_law_begin) := ⟨rfl, rfl, rfl, by decide +kernel, rfl, by decide +kernel, by decide +kernel⟩
theorem bd_law_begin : BindOk "_law_begin" st_law_begin ["_law_script"] := fun _ _ _ _ _ _ us hl => match us, hl with | [_], _ => rfl
theorem sc_law_next : FnScope ["_law_draw", "_law_many", "_law_cells", "_law_cell", "_law_number", "_law_k"] ["_law_draw", "_law_many"] (defScope st_law_next) := ⟨rfl, rfl, rfl, by decide +kernel, rfl, by decide +kernel, by decide +kernel⟩
theorem bd_law_next : BindOk "_law_next" st_law_next ["_law_draw", "_law_many"] := fun _ _ _ _ _ _ us hl => match us, hl with | [_, _], _ => rfl
theorem sc_law_pick : FnScope ["_law_draw", "_law_some"] ["_law_draw", "_law_some"] (defScope st_law_pick) := ⟨rfl, rfl, rfl, by decide +kernel, rfl, by decide +kernel, by decide +kernel⟩
theorem bd_law_pick : BindOk "_law_pick" st_law_pick ["_law_draw", "_law_some"] := fun _ _ _ _ _ _ us hl => match us, hl with | [_, _], _ => rfl
theorem sc_is_integer : FnScope ["thing"] ["thing"] (defScope st_is_integer) := ⟨rfl, rfl, rfl, by decide +kernel, rfl, by decide +kernel, by decide +kernel⟩
theorem bd_is_integer : BindOk "is_integer" st_is_integer ["thing"] := fun _ _ _ _ _ _ us hl => match us, hl with | [_], _ => rfl
theorem sc_is_whole : FnScope ["thing", "least", "most"] ["thing", "least", "most"] (defScope st_is_whole) := ⟨rfl, rfl, rfl, by decide +kernel, rfl, by decide +kernel, by decide +kernel⟩
theorem bd_is_whole : BindOk "is_whole" st_is_whole ["thing", "least", "most"] := fun _ _ _ _ _ _ us hl => match us, hl with | [_, _, _], _ => rfl
theorem sc_book_fault : FnScope ["thing", "number", "clock", "mark", "strokes"] ["thing"] (defScope st_book_fault) := ⟨rfl, rfl, rfl, by decide +kernel, rfl, by decide +kernel, by decide +kernel⟩
theorem bd_book_fault : BindOk "book_fault" st_book_fault ["thing"] := fun _ _ _ _ _ _ us hl => match us, hl with | [_], _ => rfl
theorem sc_need_book : FnScope ["thing", "place"] ["thing"] (defScope st_need_book) := ⟨rfl, rfl, rfl, by decide +kernel, rfl, by decide +kernel, by decide +kernel⟩
theorem bd_need_book : BindOk "need_book" st_need_book ["thing"] := fun _ _ _ _ _ _ us hl => match us, hl with | [_], _ => rfl
theorem sc_is_start : FnScope ["book", "thing"] ["book", "thing"] (defScope st_is_start) := ⟨rfl, rfl, rfl, by decide +kernel, rfl, by decide +kernel, by decide +kernel⟩
theorem bd_is_start : BindOk "is_start" st_is_start ["book", "thing"] := fun _ _ _ _ _ _ us hl => match us, hl with | [_, _], _ => rfl
theorem sc_need_start : FnScope ["book", "thing"] ["book", "thing"] (defScope st_need_start) := ⟨rfl, rfl, rfl, by decide +kernel, rfl, by decide +kernel, by decide +kernel⟩
theorem bd_need_start : BindOk "need_start" st_need_start ["book", "thing"] := fun _ _ _ _ _ _ us hl => match us, hl with | [_, _], _ => rfl
theorem sc_struck : FnScope ["book", "start", "later", "clock"] ["book", "start", "later"] (defScope st_struck) := ⟨rfl, rfl, rfl, by decide +kernel, rfl, by decide +kernel, by decide +kernel⟩
theorem bd_struck : BindOk "struck" st_struck ["book", "start", "later"] := fun _ _ _ _ _ _ us hl => match us, hl with | [_, _, _], _ => rfl
theorem sc_need_marks : FnScope ["thing"] ["thing"] (defScope st_need_marks) := ⟨rfl, rfl, rfl, by decide +kernel, rfl, by decide +kernel, by decide +kernel⟩
theorem bd_need_marks : BindOk "need_marks" st_need_marks ["thing"] := fun _ _ _ _ _ _ us hl => match us, hl with | [_], _ => rfl
theorem sc_strokes_at : FnScope ["book", "start", "marks"] ["book", "start", "marks"] (defScope st_strokes_at) := ⟨rfl, rfl, rfl, by decide +kernel, rfl, by decide +kernel, by decide +kernel⟩
theorem bd_strokes_at : BindOk "strokes_at" st_strokes_at ["book", "start", "marks"] := fun _ _ _ _ _ _ us hl => match us, hl with | [_, _, _], _ => rfl
theorem sc_need_pair : FnScope ["book", "one", "other"] ["book", "one", "other"] (defScope st_need_pair) := ⟨rfl, rfl, rfl, by decide +kernel, rfl, by decide +kernel, by decide +kernel⟩
theorem bd_need_pair : BindOk "need_pair" st_need_pair ["book", "one", "other"] := fun _ _ _ _ _ _ us hl => match us, hl with | [_, _, _], _ => rfl
theorem sc_over_by : FnScope ["rises", "marks", "size", "rounds"] ["rises", "marks"] (defScope st_over_by) := ⟨rfl, rfl, rfl, by decide +kernel, rfl, by decide +kernel, by decide +kernel⟩
theorem bd_over_by : BindOk "over_by" st_over_by ["rises", "marks"] := fun _ _ _ _ _ _ us hl => match us, hl with | [_, _], _ => rfl
theorem sc_common_round : FnScope ["book", "one", "other", "found", "mine", "yours"] ["book", "one", "other"] (defScope st_common_round) := ⟨rfl, rfl, rfl, by decide +kernel, rfl, by decide +kernel, by decide +kernel⟩
theorem bd_common_round : BindOk "common_round" st_common_round ["book", "one", "other"] := fun _ _ _ _ _ _ us hl => match us, hl with | [_, _, _], _ => rfl
theorem sc_rises_of : FnScope ["book", "one", "other", "found", "later"] ["book", "one", "other"] (defScope st_rises_of) := ⟨rfl, rfl, rfl, by decide +kernel, rfl, by decide +kernel, by decide +kernel⟩
theorem bd_rises_of : BindOk "rises_of" st_rises_of ["book", "one", "other"] := fun _ _ _ _ _ _ us hl => match us, hl with | [_, _, _], _ => rfl
theorem sc_over_in : FnScope ["book", "one", "other", "marks"] ["book", "one", "other", "marks"] (defScope st_over_in) := ⟨rfl, rfl, rfl, by decide +kernel, rfl, by decide +kernel, by decide +kernel⟩
theorem bd_over_in : BindOk "over_in" st_over_in ["book", "one", "other", "marks"] := fun _ _ _ _ _ _ us hl => match us, hl with | [_, _, _, _], _ => rfl
theorem sc_over : FnScope ["book", "one", "other", "marks"] ["book", "one", "other", "marks"] (defScope st_over) := ⟨rfl, rfl, rfl, by decide +kernel, rfl, by decide +kernel, by decide +kernel⟩
theorem bd_over : BindOk "over" st_over ["book", "one", "other", "marks"] := fun _ _ _ _ _ _ us hl => match us, hl with | [_, _, _, _], _ => rfl
theorem sc_need_loss : FnScope ["thing"] ["thing"] (defScope st_need_loss) := ⟨rfl, rfl, rfl, by decide +kernel, rfl, by decide +kernel, by decide +kernel⟩
theorem bd_need_loss : BindOk "need_loss" st_need_loss ["thing"] := fun _ _ _ _ _ _ us hl => match us, hl with | [_], _ => rfl
theorem sc_heard_fault : FnScope ["thing", "number", "count"] ["thing"] (defScope st_heard_fault) := ⟨rfl, rfl, rfl, by decide +kernel, rfl, by decide +kernel, by decide +kernel⟩
theorem bd_heard_fault : BindOk "heard_fault" st_heard_fault ["thing"] := fun _ _ _ _ _ _ us hl => match us, hl with | [_], _ => rfl
theorem sc_need_heard : FnScope ["thing", "number"] ["thing"] (defScope st_need_heard) := ⟨rfl, rfl, rfl, by decide +kernel, rfl, by decide +kernel, by decide +kernel⟩
theorem bd_need_heard : BindOk "need_heard" st_need_heard ["thing"] := fun _ _ _ _ _ _ us hl => match us, hl with | [_], _ => rfl
theorem sc_need_all : FnScope ["book", "loss", "heard"] ["book", "loss", "heard"] (defScope st_need_all) := ⟨rfl, rfl, rfl, by decide +kernel, rfl, by decide +kernel, by decide +kernel⟩
theorem bd_need_all : BindOk "need_all" st_need_all ["book", "loss", "heard"] := fun _ _ _ _ _ _ us hl => match us, hl with | [_, _, _], _ => rfl
theorem sc_all_starts : FnScope ["book", "mark", "number", "clock"] ["book"] (defScope st_all_starts) := ⟨rfl, rfl, rfl, by decide +kernel, rfl, by decide +kernel, by decide +kernel⟩
theorem bd_all_starts : BindOk "all_starts" st_all_starts ["book"] := fun _ _ _ _ _ _ us hl => match us, hl with | [_], _ => rfl
theorem sc_missed_in : FnScope ["book", "start", "heard", "lost", "added", "later", "count", "strokes"] ["book", "start", "heard"] (defScope st_missed_in) := ⟨rfl, rfl, rfl, by decide +kernel, rfl, by decide +kernel, by decide +kernel⟩
theorem bd_missed_in : BindOk "missed_in" st_missed_in ["book", "start", "heard"] := fun _ _ _ _ _ _ us hl => match us, hl with | [_, _, _], _ => rfl
theorem sc_fits : FnScope ["book", "loss", "start", "heard", "lost", "added"] ["book", "loss", "start", "heard"] (defScope st_fits) := ⟨rfl, rfl, rfl, by decide +kernel, rfl, by decide +kernel, by decide +kernel⟩
theorem bd_fits : BindOk "fits" st_fits ["book", "loss", "start", "heard"] := fun _ _ _ _ _ _ us hl => match us, hl with | [_, _, _, _], _ => rfl
theorem sc_fitting_in : FnScope ["book", "loss", "heard", "start"] ["book", "loss", "heard"] (defScope st_fitting_in) := ⟨rfl, rfl, rfl, by decide +kernel, rfl, by decide +kernel, by decide +kernel⟩
theorem bd_fitting_in : BindOk "fitting_in" st_fitting_in ["book", "loss", "heard"] := fun _ _ _ _ _ _ us hl => match us, hl with | [_, _, _], _ => rfl
theorem sc_fitting : FnScope ["book", "loss", "heard"] ["book", "loss", "heard"] (defScope st_fitting) := ⟨rfl, rfl, rfl, by decide +kernel, rfl, by decide +kernel, by decide +kernel⟩
theorem bd_fitting : BindOk "fitting" st_fitting ["book", "loss", "heard"] := fun _ _ _ _ _ _ us hl => match us, hl with | [_, _, _], _ => rfl
theorem sc_reach_of : FnScope ["rises", "most", "rounds", "left", "size", "whole", "one"] ["rises", "most"] (defScope st_reach_of) := ⟨rfl, rfl, rfl, by decide +kernel, rfl, by decide +kernel, by decide +kernel⟩
theorem bd_reach_of : BindOk "reach_of" st_reach_of ["rises", "most"] := fun _ _ _ _ _ _ us hl => match us, hl with | [_, _], _ => rfl
theorem sc_longest_in : FnScope ["book", "loss", "one", "other", "most", "some", "reach"] ["book", "loss", "one", "other"] (defScope st_longest_in) := ⟨rfl, rfl, rfl, by decide +kernel, rfl, by decide +kernel, by decide +kernel⟩
theorem bd_longest_in : BindOk "longest_in" st_longest_in ["book", "loss", "one", "other"] := fun _ _ _ _ _ _ us hl => match us, hl with | [_, _, _, _], _ => rfl
theorem sc_longest : FnScope ["book", "loss", "one", "other"] ["book", "loss", "one", "other"] (defScope st_longest) := ⟨rfl, rfl, rfl, by decide +kernel, rfl, by decide +kernel, by decide +kernel⟩
theorem bd_longest : BindOk "longest" st_longest ["book", "loss", "one", "other"] := fun _ _ _ _ _ _ us hl => match us, hl with | [_, _, _, _], _ => rfl
theorem sc_law_fault : FnScope ["_law_error", "_law_found"] ["_law_error"] (defScope st_law_fault) := ⟨rfl, rfl, rfl, by decide +kernel, rfl, by decide +kernel, by decide +kernel⟩
theorem bd_law_fault : BindOk "_law_fault" st_law_fault ["_law_error"] := fun _ _ _ _ _ _ us hl => match us, hl with | [_], _ => rfl
theorem sc_law_said : FnScope ["_law_call", "_law_caught", "_law_found", "e"] ["_law_call"] (defScope st_law_said) := ⟨rfl, rfl, rfl, by decide +kernel, rfl, by decide +kernel, by decide +kernel⟩
theorem bd_law_said : BindOk "_law_said" st_law_said ["_law_call"] := fun _ _ _ _ _ _ us hl => match us, hl with | [_], _ => rfl
theorem sc_normal_of : FnScope ["clock", "many", "size", "round_so", "part", "mark"] ["clock"] (defScope st_normal_of) := ⟨rfl, rfl, rfl, by decide +kernel, rfl, by decide +kernel, by decide +kernel⟩
theorem bd_normal_of : BindOk "normal_of" st_normal_of ["clock"] := fun _ _ _ _ _ _ us hl => match us, hl with | [_], _ => rfl
theorem sc_need_clock : FnScope ["book", "thing"] ["book", "thing"] (defScope st_need_clock) := ⟨rfl, rfl, rfl, by decide +kernel, rfl, by decide +kernel, by decide +kernel⟩
theorem bd_need_clock : BindOk "need_clock" st_need_clock ["book", "thing"] := fun _ _ _ _ _ _ us hl => match us, hl with | [_, _], _ => rfl
theorem sc_normal : FnScope ["book", "clock"] ["book", "clock"] (defScope st_normal) := ⟨rfl, rfl, rfl, by decide +kernel, rfl, by decide +kernel, by decide +kernel⟩
theorem bd_normal : BindOk "normal" st_normal ["book", "clock"] := fun _ _ _ _ _ _ us hl => match us, hl with | [_, _], _ => rfl
theorem sc_are_alike : FnScope ["book", "clock", "second"] ["book", "clock", "second"] (defScope st_are_alike) := ⟨rfl, rfl, rfl, by decide +kernel, rfl, by decide +kernel, by decide +kernel⟩
theorem bd_are_alike : BindOk "are_alike" st_are_alike ["book", "clock", "second"] := fun _ _ _ _ _ _ us hl => match us, hl with | [_, _, _], _ => rfl
theorem sc_numbers_text : FnScope ["numbers", "number"] ["numbers"] (defScope st_numbers_text) := ⟨rfl, rfl, rfl, by decide +kernel, rfl, by decide +kernel, by decide +kernel⟩
theorem bd_numbers_text : BindOk "numbers_text" st_numbers_text ["numbers"] := fun _ _ _ _ _ _ us hl => match us, hl with | [_], _ => rfl
theorem sc_book_text : FnScope ["book", "clock"] ["book"] (defScope st_book_text) := ⟨rfl, rfl, rfl, by decide +kernel, rfl, by decide +kernel, by decide +kernel⟩
theorem bd_book_text : BindOk "book_text" st_book_text ["book"] := fun _ _ _ _ _ _ us hl => match us, hl with | [_], _ => rfl
theorem sc_are_same_in : FnScope ["book", "one", "other", "many", "later"] ["book", "one", "other"] (defScope st_are_same_in) := ⟨rfl, rfl, rfl, by decide +kernel, rfl, by decide +kernel, by decide +kernel⟩
theorem bd_are_same_in : BindOk "are_same_in" st_are_same_in ["book", "one", "other"] := fun _ _ _ _ _ _ us hl => match us, hl with | [_, _, _], _ => rfl
theorem sc_tolerance : FnScope ["book", "marks", "starts", "found", "place", "one", "other"] ["book", "marks"] (defScope st_tolerance) := ⟨rfl, rfl, rfl, by decide +kernel, rfl, by decide +kernel, by decide +kernel⟩
theorem bd_tolerance : BindOk "tolerance" st_tolerance ["book", "marks"] := fun _ _ _ _ _ _ us hl => match us, hl with | [_, _], _ => rfl
theorem sc_law_books : FnScope ["_law_bad", "_law_calls", "_law_call"] ["_law_bad"] (defScope st_law_books) := ⟨rfl, rfl, rfl, by decide +kernel, rfl, by decide +kernel, by decide +kernel⟩
theorem bd_law_books : BindOk "_law_books" st_law_books ["_law_bad"] := fun _ _ _ _ _ _ us hl => match us, hl with | [_], _ => rfl
theorem sc_can_confuse_in : FnScope ["book", "loss", "one", "other", "marks", "most"] ["book", "loss", "one", "other", "marks"] (defScope st_can_confuse_in) := ⟨rfl, rfl, rfl, by decide +kernel, rfl, by decide +kernel, by decide +kernel⟩
theorem bd_can_confuse_in : BindOk "can_confuse_in" st_can_confuse_in ["book", "loss", "one", "other", "marks"] := fun _ _ _ _ _ _ us hl => match us, hl with | [_, _, _, _, _], _ => rfl
theorem sc_can_confuse : FnScope ["book", "loss", "one", "other", "marks"] ["book", "loss", "one", "other", "marks"] (defScope st_can_confuse) := ⟨rfl, rfl, rfl, by decide +kernel, rfl, by decide +kernel, by decide +kernel⟩
theorem bd_can_confuse : BindOk "can_confuse" st_can_confuse ["book", "loss", "one", "other", "marks"] := fun _ _ _ _ _ _ us hl => match us, hl with | [_, _, _, _, _], _ => rfl
theorem sc_row_in : FnScope ["book", "loss", "one", "other", "marks", "later", "found", "mine", "yours", "near", "far", "less"] ["book", "loss", "one", "other", "marks"] (defScope st_row_in) := ⟨rfl, rfl, rfl, by decide +kernel, rfl, by decide +kernel, by decide +kernel⟩
theorem bd_row_in : BindOk "row_in" st_row_in ["book", "loss", "one", "other", "marks"] := fun _ _ _ _ _ _ us hl => match us, hl with | [_, _, _, _, _], _ => rfl
theorem sc_confused_row : FnScope ["book", "loss", "one", "other", "marks"] ["book", "loss", "one", "other", "marks"] (defScope st_confused_row) := ⟨rfl, rfl, rfl, by decide +kernel, rfl, by decide +kernel, by decide +kernel⟩
theorem bd_confused_row : BindOk "confused_row" st_confused_row ["book", "loss", "one", "other", "marks"] := fun _ _ _ _ _ _ us hl => match us, hl with | [_, _, _, _, _], _ => rfl
theorem sc_wait_in : FnScope ["book", "loss", "start", "some", "other", "reach"] ["book", "loss", "start"] (defScope st_wait_in) := ⟨rfl, rfl, rfl, by decide +kernel, rfl, by decide +kernel, by decide +kernel⟩
theorem bd_wait_in : BindOk "wait_in" st_wait_in ["book", "loss", "start"] := fun _ _ _ _ _ _ us hl => match us, hl with | [_, _, _], _ => rfl
theorem sc_wait_of : FnScope ["book", "loss", "start"] ["book", "loss", "start"] (defScope st_wait_of) := ⟨rfl, rfl, rfl, by decide +kernel, rfl, by decide +kernel, by decide +kernel⟩
theorem bd_wait_of : BindOk "wait_of" st_wait_of ["book", "loss", "start"] := fun _ _ _ _ _ _ us hl => match us, hl with | [_, _, _], _ => rfl
theorem sc_worst_in : FnScope ["book", "loss", "start"] ["book", "loss"] (defScope st_worst_in) := ⟨rfl, rfl, rfl, by decide +kernel, rfl, by decide +kernel, by decide +kernel⟩
theorem bd_worst_in : BindOk "worst_in" st_worst_in ["book", "loss"] := fun _ _ _ _ _ _ us hl => match us, hl with | [_, _], _ => rfl
theorem sc_worst_wait : FnScope ["book", "loss"] ["book", "loss"] (defScope st_worst_wait) := ⟨rfl, rfl, rfl, by decide +kernel, rfl, by decide +kernel, by decide +kernel⟩
theorem bd_worst_wait : BindOk "worst_wait" st_worst_wait ["book", "loss"] := fun _ _ _ _ _ _ us hl => match us, hl with | [_, _], _ => rfl
theorem sc_best_starts : FnScope ["book", "loss", "rows", "least", "start", "many"] ["book", "loss"] (defScope st_best_starts) := ⟨rfl, rfl, rfl, by decide +kernel, rfl, by decide +kernel, by decide +kernel⟩
theorem bd_best_starts : BindOk "best_starts" st_best_starts ["book", "loss"] := fun _ _ _ _ _ _ us hl => match us, hl with | [_, _], _ => rfl
theorem sc_clock_wait : FnScope ["book", "loss", "start", "others", "some", "other", "reach"] ["book", "loss", "start"] (defScope st_clock_wait) := ⟨rfl, rfl, rfl, by decide +kernel, rfl, by decide +kernel, by decide +kernel⟩
theorem bd_clock_wait : BindOk "clock_wait" st_clock_wait ["book", "loss", "start"] := fun _ _ _ _ _ _ us hl => match us, hl with | [_, _, _], _ => rfl
theorem sc_are_sure : FnScope ["book", "starts", "other"] ["book", "starts"] (defScope st_are_sure) := ⟨rfl, rfl, rfl, by decide +kernel, rfl, by decide +kernel, by decide +kernel⟩
theorem bd_are_sure : BindOk "are_sure" st_are_sure ["book", "starts"] := fun _ _ _ _ _ _ us hl => match us, hl with | [_, _], _ => rfl
theorem sc_known_behind : FnScope ["book", "loss", "heard", "many"] ["book", "loss", "heard"] (defScope st_known_behind) := ⟨rfl, rfl, rfl, by decide +kernel, rfl, by decide +kernel, by decide +kernel⟩
theorem bd_known_behind : BindOk "known_behind" st_known_behind ["book", "loss", "heard"] := fun _ _ _ _ _ _ us hl => match us, hl with | [_, _, _], _ => rfl
theorem sc_next_in : FnScope ["book", "loss", "heard", "start"] ["book", "loss", "heard"] (defScope st_next_in) := ⟨rfl, rfl, rfl, by decide +kernel, rfl, by decide +kernel, by decide +kernel⟩
theorem bd_next_in : BindOk "next_in" st_next_in ["book", "loss", "heard"] := fun _ _ _ _ _ _ us hl => match us, hl with | [_, _, _], _ => rfl
theorem sc_next_strokes : FnScope ["book", "loss", "heard"] ["book", "loss", "heard"] (defScope st_next_strokes) := ⟨rfl, rfl, rfl, by decide +kernel, rfl, by decide +kernel, by decide +kernel⟩
theorem bd_next_strokes : BindOk "next_strokes" st_next_strokes ["book", "loss", "heard"] := fun _ _ _ _ _ _ us hl => match us, hl with | [_, _, _], _ => rfl
theorem sc_stretches : FnScope ["pairs", "found", "low", "high"] ["pairs"] (defScope st_stretches) := ⟨rfl, rfl, rfl, by decide +kernel, rfl, by decide +kernel, by decide +kernel⟩
theorem bd_stretches : BindOk "stretches" st_stretches ["pairs"] := fun _ _ _ _ _ _ us hl => match us, hl with | [_], _ => rfl
theorem sc_may_hear : FnScope ["book", "loss", "heard", "pairs", "start", "strokes", "lost", "added"] ["book", "loss", "heard"] (defScope st_may_hear) := ⟨rfl, rfl, rfl, by decide +kernel, rfl, by decide +kernel, by decide +kernel⟩
theorem bd_may_hear : BindOk "may_hear" st_may_hear ["book", "loss", "heard"] := fun _ _ _ _ _ _ us hl => match us, hl with | [_, _, _], _ => rfl
theorem sc_need_asked : FnScope ["book", "loss", "marks"] ["book", "loss", "marks"] (defScope st_need_asked) := ⟨rfl, rfl, rfl, by decide +kernel, rfl, by decide +kernel, by decide +kernel⟩
theorem bd_need_asked : BindOk "need_asked" st_need_asked ["book", "loss", "marks"] := fun _ _ _ _ _ _ us hl => match us, hl with | [_, _, _], _ => rfl
theorem sc_known_paper : FnScope ["book", "loss", "marks", "starts", "place", "one", "other"] ["book", "loss", "marks"] (defScope st_known_paper) := ⟨rfl, rfl, rfl, by decide +kernel, rfl, by decide +kernel, by decide +kernel⟩
theorem bd_known_paper : BindOk "known_paper" st_known_paper ["book", "loss", "marks"] := fun _ _ _ _ _ _ us hl => match us, hl with | [_, _, _], _ => rfl
theorem sc_does_confuse : FnScope ["book", "loss", "marks", "some", "one", "other", "heard"] ["book", "loss", "marks", "some"] (defScope st_does_confuse) := ⟨rfl, rfl, rfl, by decide +kernel, rfl, by decide +kernel, by decide +kernel⟩
theorem bd_does_confuse : BindOk "does_confuse" st_does_confuse ["book", "loss", "marks", "some"] := fun _ _ _ _ _ _ us hl => match us, hl with | [_, _, _, _], _ => rfl
theorem sc_check_known : FnScope ["book", "loss", "marks", "paper", "is_so"] ["book", "loss", "marks", "paper"] (defScope st_check_known) := ⟨rfl, rfl, rfl, by decide +kernel, rfl, by decide +kernel, by decide +kernel⟩
theorem bd_check_known : BindOk "check_known" st_check_known ["book", "loss", "marks", "paper"] := fun _ _ _ _ _ _ us hl => match us, hl with | [_, _, _, _], _ => rfl
theorem sc_law_losses : FnScope ["_law_book", "_law_loss", "_law_calls", "_law_call"] ["_law_book", "_law_loss"] (defScope st_law_losses) := ⟨rfl, rfl, rfl, by decide +kernel, rfl, by decide +kernel, by decide +kernel⟩
theorem bd_law_losses : BindOk "_law_losses" st_law_losses ["_law_book", "_law_loss"] := fun _ _ _ _ _ _ us hl => match us, hl with | [_, _], _ => rfl
theorem sc_are_same : FnScope ["book", "one", "other"] ["book", "one", "other"] (defScope st_are_same) := ⟨rfl, rfl, rfl, by decide +kernel, rfl, by decide +kernel, by decide +kernel⟩
theorem bd_are_same : BindOk "are_same" st_are_same ["book", "one", "other"] := fun _ _ _ _ _ _ us hl => match us, hl with | [_, _, _], _ => rfl
theorem sc_missed : FnScope ["book", "start", "heard"] ["book", "start", "heard"] (defScope st_missed) := ⟨rfl, rfl, rfl, by decide +kernel, rfl, by decide +kernel, by decide +kernel⟩
theorem bd_missed : BindOk "missed" st_missed ["book", "start", "heard"] := fun _ _ _ _ _ _ us hl => match us, hl with | [_, _, _], _ => rfl
theorem sc_law_starts_so : FnScope ["_law_book", "_law_start", "_law_calls", "_law_call"] ["_law_book", "_law_start"] (defScope st_law_starts_so) := ⟨rfl, rfl, rfl, by decide +kernel, rfl, by decide +kernel, by decide +kernel⟩
theorem bd_law_starts_so : BindOk "_law_starts_so" st_law_starts_so ["_law_book", "_law_start"] := fun _ _ _ _ _ _ us hl => match us, hl with | [_, _], _ => rfl
theorem sc_law_clocks : FnScope ["_law_book", "_law_odd", "_law_calls", "_law_call"] ["_law_book", "_law_odd"] (defScope st_law_clocks) := ⟨rfl, rfl, rfl, by decide +kernel, rfl, by decide +kernel, by decide +kernel⟩
theorem bd_law_clocks : BindOk "_law_clocks" st_law_clocks ["_law_book", "_law_odd"] := fun _ _ _ _ _ _ us hl => match us, hl with | [_, _], _ => rfl
theorem sc_law_seconds : FnScope ["_law_book", "_law_start", "_law_calls", "_law_call"] ["_law_book", "_law_start"] (defScope st_law_seconds) := ⟨rfl, rfl, rfl, by decide +kernel, rfl, by decide +kernel, by decide +kernel⟩
theorem bd_law_seconds : BindOk "_law_seconds" st_law_seconds ["_law_book", "_law_start"] := fun _ _ _ _ _ _ us hl => match us, hl with | [_, _], _ => rfl
theorem sc_heard_text : FnScope ["heard"] ["heard"] (defScope st_heard_text) := ⟨rfl, rfl, rfl, by decide +kernel, rfl, by decide +kernel, by decide +kernel⟩
theorem bd_heard_text : BindOk "heard_text" st_heard_text ["heard"] := fun _ _ _ _ _ _ us hl => match us, hl with | [_], _ => rfl
theorem sc_law_rows : FnScope ["_law_book", "_law_row", "_law_calls", "_law_call"] ["_law_book", "_law_row"] (defScope st_law_rows) := ⟨rfl, rfl, rfl, by decide +kernel, rfl, by decide +kernel, by decide +kernel⟩
theorem bd_law_rows : BindOk "_law_rows" st_law_rows ["_law_book", "_law_row"] := fun _ _ _ _ _ _ us hl => match us, hl with | [_, _], _ => rfl
theorem sc_law_marks : FnScope ["_law_book", "_law_marks_here", "_law_calls", "_law_call"] ["_law_book", "_law_marks_here"] (defScope st_law_marks) := ⟨rfl, rfl, rfl, by decide +kernel, rfl, by decide +kernel, by decide +kernel⟩
theorem bd_law_marks : BindOk "_law_marks" st_law_marks ["_law_book", "_law_marks_here"] := fun _ _ _ _ _ _ us hl => match us, hl with | [_, _], _ => rfl
theorem sc_law : FnScope ["_law_script", "_law_draw", "_law_book", "_law_turn", "_law_far", "_law_told", "_law_some", "_law_odd", "_law_bad", "_law_place", "_law_part"] ["_law_script"] (defScope st_law) := ⟨rfl, rfl, rfl, by decide +kernel, rfl, by decide +kernel, by decide +kernel⟩
theorem bd_law : BindOk "law" st_law ["_law_script"] := fun _ _ _ _ _ _ us hl => match us, hl with | [_], _ => rfl
theorem sc_BadBook_ini : FnScope ["self", "place"] ["self", "place"] (defScope st_BadBook_ini) := ⟨rfl, rfl, rfl, by decide +kernel, rfl, by decide +kernel, by decide +kernel⟩
theorem sc_BadStart_ini : FnScope ["self", "given"] ["self", "given"] (defScope st_BadStart_ini) := ⟨rfl, rfl, rfl, by decide +kernel, rfl, by decide +kernel, by decide +kernel⟩
theorem sc_BadNumber_ini : FnScope ["self", "given"] ["self", "given"] (defScope st_BadNumber_ini) := ⟨rfl, rfl, rfl, by decide +kernel, rfl, by decide +kernel, by decide +kernel⟩
theorem sc_BadLoss_ini : FnScope ["self", "part"] ["self", "part"] (defScope st_BadLoss_ini) := ⟨rfl, rfl, rfl, by decide +kernel, rfl, by decide +kernel, by decide +kernel⟩
theorem sc_BadHeard_ini : FnScope ["self", "number"] ["self", "number"] (defScope st_BadHeard_ini) := ⟨rfl, rfl, rfl, by decide +kernel, rfl, by decide +kernel, by decide +kernel⟩
section
variable {K : PySem.W.Frag} {mg : Str → Option Value} {h : Heap} {P : Program} {w : World} {base : Heap}
theorem dx_BadBook (T : TyL K mg h base fa fn (exL exs)) : Dx P w K mg base "BadBook" "place" :=
  Dx.of (txt := "no book") (y := "place") (x := .ve) (st := st_BadBook_ini) T.toTy 71 80 (xcB_ok (T.pred 0)) sc_BadBook_ini (fun cdv A out s H E =>
   ini_own (T.glo 81 (x := "HearError") rfl) (giB_ok (T.pred 1) (by decide +kernel)) (pa_cons (pv 0) (pa_cons pe_str pa_nil (by rfl)) (by rfl)) (pv 0) (pv 1))
   (fun _ _ _ _ _ _ us hl => match us, hl with | [_, _], _ => rfl)
theorem dx_BadStart (T : TyL K mg h base fa fn (exL exs)) : Dx P w K mg base "BadStart" "given" :=
  Dx.of (txt := "no start") (y := "given") (x := .ve) (st := st_BadStart_ini) T.toTy 72 82 (xcB_ok (T.pred 2)) sc_BadStart_ini (fun cdv A out s H E =>
   ini_own (T.glo 81 (x := "HearError") rfl) (giB_ok (T.pred 1) (by decide +kernel)) (pa_cons (pv 0) (pa_cons pe_str pa_nil (by rfl)) (by rfl)) (pv 0) (pv 1))
   (fun _ _ _ _ _ _ us hl => match us, hl with | [_, _], _ => rfl)
theorem dx_BadNumber (T : TyL K mg h base fa fn (exL exs)) : Dx P w K mg base "BadNumber" "given" :=
  Dx.of (txt := "no number that is wanted") (y := "given") (x := .ve) (st := st_BadNumber_ini) T.toTy 73 84 (xcB_ok (T.pred 3)) sc_BadNumber_ini (fun cdv A out s H E =>
   ini_own (T.glo 81 (x := "HearError") rfl) (giB_ok (T.pred 1) (by decide +kernel)) (pa_cons (pv 0) (pa_cons pe_str pa_nil (by rfl)) (by rfl)) (pv 0) (pv 1))
   (fun _ _ _ _ _ _ us hl => match us, hl with | [_, _], _ => rfl)
theorem dx_BadLoss (T : TyL K mg h base fa fn (exL exs)) : Dx P w K mg base "BadLoss" "part" :=
  Dx.of (txt := "no loss") (y := "part") (x := .ve) (st := st_BadLoss_ini) T.toTy 74 87 (xcB_ok (T.pred 4)) sc_BadLoss_ini (fun cdv A out s H E =>
   ini_own (T.glo 81 (x := "HearError") rfl) (giB_ok (T.pred 1) (by decide +kernel)) (pa_cons (pv 0) (pa_cons pe_str pa_nil (by rfl)) (by rfl)) (pv 0) (pv 1))
   (fun _ _ _ _ _ _ us hl => match us, hl with | [_, _], _ => rfl)
theorem dx_BadHeard (T : TyL K mg h base fa fn (exL exs)) : Dx P w K mg base "BadHeard" "number" :=
  Dx.of (txt := "nothing heard") (y := "number") (x := .ve) (st := st_BadHeard_ini) T.toTy 75 89 (xcB_ok (T.pred 5)) sc_BadHeard_ini (fun cdv A out s H E =>
   ini_own (T.glo 81 (x := "HearError") rfl) (giB_ok (T.pred 1) (by decide +kernel)) (pa_cons (pv 0) (pa_cons pe_str pa_nil (by rfl)) (by rfl)) (pv 0) (pv 1))
   (fun _ _ _ _ _ _ us hl => match us, hl with | [_, _], _ => rfl)
theorem ok_law_begin (T : TyL K mg h base fa fn (exL exs)) : Df P w K mg base 1 "_law_begin" st_law_begin ["_law_script"] m_law_begin := by
  unfold m_law_begin
  exact Df.ofA T.toTy 0 0 sc_law_begin fun cdv A out s H E G hK hr tk hp =>
   (s_one (s_ret (c_disp (d_cons (c_scr (c_var (pv 0)) (c_lst (c_cons c_int c_nil) (by decide) (aC_len aN_len))) (d_cons c_int (d_cons c_int (d_cons c_int d_nil)))) (by decide))))
theorem ok_law_next (T : TyL K mg h base fa fn (exL exs)) : Df P w K mg base 1 "_law_next" st_law_next ["_law_draw", "_law_many"] m_law_next := by
  unfold m_law_next
  exact Df.ofA T.toTy 1 1 sc_law_next fun cdv A out s H E G hK hr tk hp =>
   (s_cons (s_if (c_tcmp o_gt (c_dget hr (c_var (pv 0))) c_int rfl)
 (s_cons (s_pd hr (c_dget hr (c_var (pv 0))) (c_op o_fdiv (c_dget hr (c_var (pv 0))) (c_var (pv 1))) (c_var (pv 0)) sc_law_next.nd)
 (s_one (s_ret (c_op o_mod (c_var (pv 3)) (c_var (pv 1))))))
 s_nil)
 (s_cons (s_set (c_dget hr (c_var (pv 0))) sc_law_next.nd)
 (s_cons (s_set (c_ix (c_var (pv 2)) (c_op o_mod (c_dget hr (c_var (pv 0))) (c_callB b_len (T.free 71) rfl (c_cons (c_var (pv 2)) c_nil)))) sc_law_next.nd)
 (s_cons (s_dset hr (c_var (pv 0)) (c_op o_add (c_dget hr (c_var (pv 0))) c_int))
 (s_cons (s_if (PW.pt (c_and (c_tcmp o_ge (c_var (pv 3)) (c_op o_pow c_int c_int) rfl) (c_and1 (c_tcmp o_le (c_dget hr (c_var (pv 0))) (c_callB b_len (T.free 71) rfl (c_cons (c_var (pv 2)) c_nil)) rfl))))
 (s_cons (s_dset hr (c_var (pv 0)) (c_op o_fdiv (c_var (pv 3)) (c_var (pv 1))))
 (s_one (s_ret (c_op o_mod (c_var (pv 3)) (c_var (pv 1))))))
 s_nil)
 (s_cons (s_dset hr (c_var (pv 0)) (c_op o_add (c_dget hr (c_var (pv 0))) c_int))
 (s_cons (s_set (c_op o_add (c_op o_mod (c_var (pv 3)) c_int) (c_op o_mul (c_op o_mul c_int (c_dget hr (c_var (pv 0)))) (c_dget hr (c_var (pv 0))))) sc_law_next.nd)
 (s_cons (s_for hp (i_seq (c_tup (c_cons (c_dget hr (c_var (pv 0))) (c_cons (c_dget hr (c_var (pv 0))) c_nil)) (by decide) (aC_len (aC_len aN_len)))) (g_name sc_law_next.nd)
 (s_cons (s_set (c_op o_mod (c_op o_mul (c_op o_add (c_op o_add (c_var (pv 4)) (c_op o_mul c_int (c_var (pv 5)))) c_int) c_int) c_int) sc_law_next.nd)
 (s_one (s_set (c_op o_mod (c_op o_mul (c_var (pv 4)) (c_op o_add c_int (c_op o_mul c_int (c_op o_mod (c_var (pv 5)) c_int)))) c_int) sc_law_next.nd))))
 (s_one (s_ret (c_op o_mod (c_op o_fdiv (c_var (pv 4)) c_int) (c_var (pv 1)))))))))))))
theorem ok_law_pick (T : TyL K mg h base fa fn (exL exs)) : Df P w K mg base 2 "_law_pick" st_law_pick ["_law_draw", "_law_some"] m_law_pick := by
  unfold m_law_pick
  exact Df.ofA T.toTy 2 2 sc_law_pick fun cdv A out s H E G hK hr tk hp =>
   (s_one (s_ret (c_ix (c_var (pv 1)) (c_f (ok_law_next T) bd_law_next hK hr tk (c_cons (c_var (pv 0)) (c_cons (c_callB b_len (T.free 71) rfl (c_cons (c_var (pv 1)) c_nil)) c_nil))))))
theorem ok_is_integer (T : TyL K mg h base fa fn (exL exs)) : Df P w K mg base 1 "is_integer" st_is_integer ["thing"] m_is_integer := by
  unfold m_is_integer
  exact Df.ofA T.toTy 3 3 sc_is_integer fun cdv A out s H E G hK hr tk hp =>
   (s_one (s_ret (c_eand (c_isi (T := "int") (T.free 72) (T.free 73) rfl (c_var (pv 0))) (c_eone (c_enot (c_isi (T := "bool") (T.free 72) (T.free 74) rfl (c_var (pv 0))))))))
theorem ok_is_whole (T : TyL K mg h base fa fn (exL exs)) : Df P w K mg base 2 "is_whole" st_is_whole ["thing", "least", "most"] m_is_whole := by
  unfold m_is_whole
  exact Df.ofA T.toTy 4 4 sc_is_whole fun cdv A out s H E G hK hr tk hp =>
   (s_one (s_ret (c_eand (c_f (ok_is_integer T) bd_is_integer hK hr tk (c_cons (c_var (pv 0)) c_nil)) (c_eone (c_chain o_le o_le (c_var (pv 1)) (c_var (pv 0)) (c_var (pv 2)))))))
theorem ok_book_fault (T : TyL K mg h base fa fn (exL exs)) : Df P w K mg base 3 "book_fault" st_book_fault ["thing"] m_book_fault := by
  unfold m_book_fault
  exact Df.ofA T.toTy 5 5 sc_book_fault fun cdv A out s H E G hK hr tk hp =>
   (s_cons (s_if (PW.pt (c_or (c_not (c_val (c_isi (T := "tuple") (T.free 72) (T.free 75) rfl (c_var (pv 0))))) (c_or1 (c_not (c_tchain o_le o_le c_int (c_callB b_len (T.free 71) rfl (c_cons (c_var (pv 0)) c_nil)) (c_gint (T.int 76)))))))
 (s_one (s_ret (c_tup c_nil (by decide) aN_len)))
 s_nil)
 (s_cons (s_for hp (i_enum (T.free 77) (c_cons (c_var (pv 0)) c_nil)) (g_tup rfl (gs_cons (gs_cons gs_nil sc_book_fault.nd) sc_book_fault.nd))
 (s_cons (s_if (PW.pt (c_or (c_not (c_val (c_isi (T := "tuple") (T.free 72) (T.free 75) rfl (c_var (pv 2))))) (c_or1 (c_not (c_tchain o_le o_le c_int (c_callB b_len (T.free 71) rfl (c_cons (c_var (pv 2)) c_nil)) (c_gint (T.int 78)))))))
 (s_one (s_ret (c_tup (c_cons (c_var (pv 1)) c_nil) (by decide) (aC_len aN_len))))
 s_nil)
 (s_one (s_for hp (i_enum (T.free 77) (c_cons (c_var (pv 2)) c_nil)) (g_tup rfl (gs_cons (gs_cons gs_nil sc_book_fault.nd) sc_book_fault.nd))
 (s_one (s_if (c_not (c_val (c_f (ok_is_whole T) bd_is_whole hK hr tk (c_cons (c_var (pv 4)) (c_cons c_int (c_cons (c_gint (T.int 79)) c_nil))))))
 (s_one (s_ret (c_tup (c_cons (c_var (pv 1)) (c_cons (c_var (pv 3)) c_nil)) (by decide) (aC_len (aC_len aN_len)))))
 s_nil))))))
 (s_one (s_ret c_non))))
theorem ok_need_book (T : TyL K mg h base fa fn (exL exs)) : Df P w K mg base 4 "need_book" st_need_book ["thing"] m_need_book := by
  unfold m_need_book
  exact Df.ofA T.toTy 6 6 sc_need_book fun cdv A out s H E G hK hr tk hp =>
   (s_cons (s_set (c_f (ok_book_fault T) bd_book_fault hK hr tk (c_cons (c_var (pv 0)) c_nil)) sc_need_book.nd)
 (s_cons (s_if (c_tcmp o_notN (c_var (pv 1)) c_non rfl)
 (s_one (s_raise (dx_BadBook T) hK hr tk (c_var (pv 1))))
 s_nil)
 (s_one (s_ret (c_var (pv 0))))))
theorem ok_is_start (T : TyL K mg h base fa fn (exL exs)) : Df P w K mg base 3 "is_start" st_is_start ["book", "thing"] m_is_start := by
  unfold m_is_start
  exact Df.ofA T.toTy 7 7 sc_is_start fun cdv A out s H E G hK hr tk hp =>
   (s_cons (s_if (PW.pt (c_or (c_not (c_val (c_isi (T := "tuple") (T.free 72) (T.free 75) rfl (c_var (pv 1))))) (c_or (c_tcmp (o_ne hr.r.units) (c_callB b_len (T.free 71) rfl (c_cons (c_var (pv 1)) c_nil)) c_int rfl) (c_or1 (c_not (c_val (c_f (ok_is_whole T) bd_is_whole hK hr tk (c_cons (c_ix (c_var (pv 1)) c_int) (c_cons c_int (c_cons (c_op o_sub (c_callB b_len (T.free 71) rfl (c_cons (c_var (pv 0)) c_nil)) c_int) c_nil))))))))))
 (s_one (s_ret c_bl))
 s_nil)
 (s_one (s_ret (c_f (ok_is_whole T) bd_is_whole hK hr tk (c_cons (c_ix (c_var (pv 1)) c_int) (c_cons c_int (c_cons (c_op o_sub (c_callB b_len (T.free 71) rfl (c_cons (c_ix (c_var (pv 0)) (c_ix (c_var (pv 1)) c_int)) c_nil)) c_int) c_nil)))))))
theorem ok_need_start (T : TyL K mg h base fa fn (exL exs)) : Df P w K mg base 4 "need_start" st_need_start ["book", "thing"] m_need_start := by
  unfold m_need_start
  exact Df.ofA T.toTy 8 8 sc_need_start fun cdv A out s H E G hK hr tk hp =>
   (s_cons (s_if (c_not (c_val (c_f (ok_is_start T) bd_is_start hK hr tk (c_cons (c_var (pv 0)) (c_cons (c_var (pv 1)) c_nil)))))
 (s_one (s_raise (dx_BadStart T) hK hr tk (c_var (pv 1))))
 s_nil)
 (s_one (s_ret (c_var (pv 1)))))
theorem ok_struck (T : TyL K mg h base fa fn (exL exs)) : Df P w K mg base 1 "struck" st_struck ["book", "start", "later"] m_struck := by
  unfold m_struck
  exact Df.ofA T.toTy 9 9 sc_struck fun cdv A out s H E G hK hr tk hp =>
   (s_cons (s_set (c_ix (c_var (pv 0)) (c_ix (c_var (pv 1)) c_int)) sc_struck.nd)
 (s_one (s_ret (c_ix (c_var (pv 3)) (c_op o_mod (c_callTy b_int (T.free 73) rfl (c_cons (c_op o_add (c_ix (c_var (pv 1)) c_int) (c_var (pv 2))) c_nil)) (c_callB b_len (T.free 71) rfl (c_cons (c_var (pv 3)) c_nil)))))))
theorem ok_need_marks (T : TyL K mg h base fa fn (exL exs)) : Df P w K mg base 3 "need_marks" st_need_marks ["thing"] m_need_marks := by
  unfold m_need_marks
  exact Df.ofA T.toTy 10 10 sc_need_marks fun cdv A out s H E G hK hr tk hp =>
   (s_cons (s_if (c_not (c_val (c_f (ok_is_whole T) bd_is_whole hK hr tk (c_cons (c_var (pv 0)) (c_cons c_int (c_cons (c_gint (T.int 83)) c_nil))))))
 (s_one (s_raise (dx_BadNumber T) hK hr tk (c_var (pv 0))))
 s_nil)
 (s_one (s_ret (c_var (pv 0)))))
theorem ok_strokes_at (T : TyL K mg h base fa fn (exL exs)) : Df P w K mg base 5 "strokes_at" st_strokes_at ["book", "start", "marks"] m_strokes_at := by
  unfold m_strokes_at
  exact Df.ofA T.toTy 11 11 sc_strokes_at fun cdv A out s H E G hK hr tk hp =>
   (s_cons (s_do (c_f (ok_need_book T) bd_need_book hK hr tk (c_cons (c_var (pv 0)) c_nil)))
 (s_cons (s_do (c_f (ok_need_start T) bd_need_start hK hr tk (c_cons (c_var (pv 0)) (c_cons (c_var (pv 1)) c_nil))))
 (s_one (s_ret (c_f (ok_struck T) bd_struck hK hr tk (c_cons (c_var (pv 0)) (c_cons (c_var (pv 1)) (c_cons (c_f (ok_need_marks T) bd_need_marks hK hr tk (c_cons (c_var (pv 2)) c_nil)) c_nil))))))))
theorem ok_need_pair (T : TyL K mg h base fa fn (exL exs)) : Df P w K mg base 5 "need_pair" st_need_pair ["book", "one", "other"] m_need_pair := by
  unfold m_need_pair
  exact Df.ofA T.toTy 12 12 sc_need_pair fun cdv A out s H E G hK hr tk hp =>
   (s_cons (s_do (c_f (ok_need_book T) bd_need_book hK hr tk (c_cons (c_var (pv 0)) c_nil)))
 (s_cons (s_do (c_f (ok_need_start T) bd_need_start hK hr tk (c_cons (c_var (pv 0)) (c_cons (c_var (pv 1)) c_nil))))
 (s_one (s_do (c_f (ok_need_start T) bd_need_start hK hr tk (c_cons (c_var (pv 0)) (c_cons (c_var (pv 2)) c_nil)))))))
theorem ok_over_by (T : TyL K mg h base fa fn (exL exs)) : Df P w K mg base 1 "over_by" st_over_by ["rises", "marks"] m_over_by := by
  unfold m_over_by
  exact Df.ofA T.toTy 13 13 sc_over_by fun cdv A out s H E G hK hr tk hp =>
   (s_cons (s_set (c_op o_sub (c_callB b_len (T.free 71) rfl (c_cons (c_var (pv 0)) c_nil)) c_int) sc_over_by.nd)
 (s_cons (s_set (c_op o_fdiv (c_var (pv 1)) (c_var (pv 2))) sc_over_by.nd)
 (s_one (s_ret (c_op o_add (c_op o_mul (c_var (pv 3)) (c_ix (c_var (pv 0)) (c_neg c_int))) (c_ix (c_var (pv 0)) (c_op o_sub (c_var (pv 1)) (c_op o_mul (c_var (pv 3)) (c_var (pv 2))))))))))
theorem ok_common_round (T : TyL K mg h base fa fn (exL exs)) : Df P w K mg base 1 "common_round" st_common_round ["book", "one", "other"] m_common_round := by
  unfold m_common_round
  exact Df.ofA T.toTy 14 14 sc_common_round fun cdv A out s H E G hK hr tk hp =>
   (s_cons (s_par2 (p_cons (c_callB b_len (T.free 71) rfl (c_cons (c_ix (c_var (pv 0)) (c_ix (c_var (pv 1)) c_int)) c_nil)) (p_cons (c_callB b_len (T.free 71) rfl (c_cons (c_ix (c_var (pv 0)) (c_ix (c_var (pv 2)) c_int)) c_nil)) p_nil)) sc_common_round.nd)
 (s_cons (s_set (c_var (pv 4)) sc_common_round.nd)
 (s_cons (s_while 2000 hp (c_tcmp (o_ne hr.r.units) (c_op o_mod (c_callTy b_int (T.free 73) rfl (c_cons (c_var (pv 3)) c_nil)) (c_var (pv 5))) c_int rfl)
 (s_one (s_aug ip_add (c_var (pv 4)) sc_common_round.nd)))
 (s_one (s_ret (c_var (pv 3)))))))
theorem ok_rises_of (T : TyL K mg h base fa fn (exL exs)) : Df P w K mg base 2 "rises_of" st_rises_of ["book", "one", "other"] m_rises_of := by
  unfold m_rises_of
  exact Df.ofA T.toTy 15 15 sc_rises_of fun cdv A out s H E G hK hr tk hp =>
   (s_cons (s_own (c_cons c_int c_nil) (by decide) (aC_len aN_len) sc_rises_of.nd)
 (s_cons (s_for hp (i_rng1 (T.free 85) (c_cons (c_f (ok_common_round T) bd_common_round hK hr tk (c_cons (c_var (pv 0)) (c_cons (c_var (pv 1)) (c_cons (c_var (pv 2)) c_nil)))) c_nil)) (g_name sc_rises_of.nd)
 (s_one (s_app (pv 3) (c_op o_add (c_ixO (pv 3) (c_neg c_int)) (c_callB (b_max2 rfl) (T.free 86) rfl (c_cons c_int (c_cons (c_op o_sub (c_f (ok_struck T) bd_struck hK hr tk (c_cons (c_var (pv 0)) (c_cons (c_var (pv 1)) (c_cons (c_var (pv 4)) c_nil)))) (c_f (ok_struck T) bd_struck hK hr tk (c_cons (c_var (pv 0)) (c_cons (c_var (pv 2)) (c_cons (c_var (pv 4)) c_nil))))) c_nil)))))))
 (s_frz 3 (s_one (s_ret (c_var (pv 3)))))))
theorem ok_over_in (T : TyL K mg h base fa fn (exL exs)) : Df P w K mg base 3 "over_in" st_over_in ["book", "one", "other", "marks"] m_over_in := by
  unfold m_over_in
  exact Df.ofA T.toTy 16 16 sc_over_in fun cdv A out s H E G hK hr tk hp =>
   (s_one (s_ret (c_f (ok_over_by T) bd_over_by hK hr tk (c_cons (c_f (ok_rises_of T) bd_rises_of hK hr tk (c_cons (c_var (pv 0)) (c_cons (c_var (pv 1)) (c_cons (c_var (pv 2)) c_nil)))) (c_cons (c_var (pv 3)) c_nil)))))
theorem ok_over (T : TyL K mg h base fa fn (exL exs)) : Df P w K mg base 6 "over" st_over ["book", "one", "other", "marks"] m_over := by
  unfold m_over
  exact Df.ofA T.toTy 17 17 sc_over fun cdv A out s H E G hK hr tk hp =>
   (s_cons (s_do (c_f (ok_need_pair T) bd_need_pair hK hr tk (c_cons (c_var (pv 0)) (c_cons (c_var (pv 1)) (c_cons (c_var (pv 2)) c_nil)))))
 (s_one (s_ret (c_f (ok_over_in T) bd_over_in hK hr tk (c_cons (c_var (pv 0)) (c_cons (c_var (pv 1)) (c_cons (c_var (pv 2)) (c_cons (c_f (ok_need_marks T) bd_need_marks hK hr tk (c_cons (c_var (pv 3)) c_nil)) c_nil))))))))
theorem ok_need_loss (T : TyL K mg h base fa fn (exL exs)) : Df P w K mg base 3 "need_loss" st_need_loss ["thing"] m_need_loss := by
  unfold m_need_loss
  exact Df.ofA T.toTy 18 18 sc_need_loss fun cdv A out s H E G hK hr tk hp =>
   (s_cons (s_if (PW.pt (c_or (c_not (c_val (c_isi (T := "tuple") (T.free 72) (T.free 75) rfl (c_var (pv 0))))) (c_or1 (c_tcmp (o_ne hr.r.units) (c_callB b_len (T.free 71) rfl (c_cons (c_var (pv 0)) c_nil)) c_int rfl))))
 (s_one (s_raise (dx_BadLoss T) hK hr tk c_str))
 s_nil)
 (s_cons (s_if (c_not (c_val (c_f (ok_is_whole T) bd_is_whole hK hr tk (c_cons (c_ix (c_var (pv 0)) c_int) (c_cons c_int (c_cons (c_gint (T.int 83)) c_nil))))))
 (s_one (s_raise (dx_BadLoss T) hK hr tk c_str))
 s_nil)
 (s_cons (s_if (c_not (c_val (c_f (ok_is_whole T) bd_is_whole hK hr tk (c_cons (c_ix (c_var (pv 0)) c_int) (c_cons c_int (c_cons (c_gint (T.int 83)) c_nil))))))
 (s_one (s_raise (dx_BadLoss T) hK hr tk c_str))
 s_nil)
 (s_one (s_ret (c_var (pv 0)))))))
theorem ok_heard_fault (T : TyL K mg h base fa fn (exL exs)) : Df P w K mg base 3 "heard_fault" st_heard_fault ["thing"] m_heard_fault := by
  unfold m_heard_fault
  exact Df.ofA T.toTy 19 19 sc_heard_fault fun cdv A out s H E G hK hr tk hp =>
   (s_cons (s_if (PW.pt (c_or (c_not (c_val (c_isi (T := "tuple") (T.free 72) (T.free 75) rfl (c_var (pv 0))))) (c_or1 (c_tcmp o_gt (c_callB b_len (T.free 71) rfl (c_cons (c_var (pv 0)) c_nil)) (c_gint (T.int 88)) rfl))))
 (s_one (s_ret (c_lst (c_cons c_non c_nil) (by decide) (aC_len aN_len))))
 s_nil)
 (s_cons (s_for hp (i_enum (T.free 77) (c_cons (c_var (pv 0)) c_nil)) (g_tup rfl (gs_cons (gs_cons gs_nil sc_heard_fault.nd) sc_heard_fault.nd))
 (s_one (s_if (c_not (c_val (c_f (ok_is_whole T) bd_is_whole hK hr tk (c_cons (c_var (pv 2)) (c_cons c_int (c_cons (c_gint (T.int 83)) c_nil))))))
 (s_one (s_ret (c_lst (c_cons (c_var (pv 1)) c_nil) (by decide) (aC_len aN_len))))
 s_nil)))
 (s_one (s_ret (c_lst c_nil (by decide) aN_len)))))
theorem ok_need_heard (T : TyL K mg h base fa fn (exL exs)) : Df P w K mg base 4 "need_heard" st_need_heard ["thing"] m_need_heard := by
  unfold m_need_heard
  exact Df.ofA T.toTy 20 20 sc_need_heard fun cdv A out s H E G hK hr tk hp =>
   (s_cons (s_for hp (i_seq (c_f (ok_heard_fault T) bd_heard_fault hK hr tk (c_cons (c_var (pv 0)) c_nil))) (g_name sc_need_heard.nd)
 (s_one (s_raise (dx_BadHeard T) hK hr tk (c_var (pv 1)))))
 (s_one (s_ret (c_var (pv 0)))))
theorem ok_need_all (T : TyL K mg h base fa fn (exL exs)) : Df P w K mg base 5 "need_all" st_need_all ["book", "loss", "heard"] m_need_all := by
  unfold m_need_all
  exact Df.ofA T.toTy 21 21 sc_need_all fun cdv A out s H E G hK hr tk hp =>
   (s_cons (s_do (c_f (ok_need_book T) bd_need_book hK hr tk (c_cons (c_var (pv 0)) c_nil)))
 (s_cons (s_do (c_f (ok_need_loss T) bd_need_loss hK hr tk (c_cons (c_var (pv 1)) c_nil)))
 (s_one (s_do (c_f (ok_need_heard T) bd_need_heard hK hr tk (c_cons (c_var (pv 2)) c_nil))))))
theorem ok_all_starts (T : TyL K mg h base fa fn (exL exs)) : Df P w K mg base 1 "all_starts" st_all_starts ["book"] m_all_starts := by
  unfold m_all_starts
  exact Df.ofA T.toTy 22 22 sc_all_starts fun cdv A out s H E G hK hr tk hp =>
   (s_one (s_ret (c_comp2 (own := [("number", 2), ("clock", 3), ("mark", 1)]) (vs1 := [1]) sc_all_starts.nd (i_enum (T.free 77) (c_cons (c_var (pv 0)) c_nil)) (blkOk_by (by kernel_rfl)) bTup_v (by decide) (fun _ _ _ _ _ => (g_up (g_tup rfl (gs_cons (gs_cons gs_nil sc_all_starts.nd) sc_all_starts.nd)) (by decide))) (fun _ _ _ _ _ => (i_rng1 (T.free 85) (c_cons (c_callB b_len (T.free 71) rfl (c_cons (c_var (pv 3)) c_nil)) c_nil))) (fun _ _ _ _ _ => (g_name sc_all_starts.nd)) (fun _ _ _ _ _ => (c_tup (c_cons (c_var (pv 2)) (c_cons (c_var (pv 1)) c_nil)) (by decide) (aC_len (aC_len aN_len)))))))
theorem ok_missed_in (T : TyL K mg h base fa fn (exL exs)) : Df P w K mg base 2 "missed_in" st_missed_in ["book", "start", "heard"] m_missed_in := by
  unfold m_missed_in
  exact Df.ofA T.toTy 23 23 sc_missed_in fun cdv A out s H E G hK hr tk hp =>
   (s_cons (s_parT (is := [3, 4]) (p_cons c_int (p_cons c_int p_nil)) (pgs_cons (pg_name sc_missed_in.nd rfl (by first | exact Or.inl rfl | exact Or.inr rfl)) (pgs_cons (pg_name sc_missed_in.nd rfl (by first | exact Or.inl rfl | exact Or.inr rfl)) pgs_nil)))
 (s_cons (s_for hp (i_enum (T.free 77) (c_cons (c_var (pv 2)) c_nil)) (g_tup rfl (gs_cons (gs_cons gs_nil sc_missed_in.nd) sc_missed_in.nd))
 (s_cons (s_set (c_f (ok_struck T) bd_struck hK hr tk (c_cons (c_var (pv 0)) (c_cons (c_var (pv 1)) (c_cons (c_var (pv 5)) c_nil)))) sc_missed_in.nd)
 (s_cons (s_aug ip_add (c_callB (b_max2 rfl) (T.free 86) rfl (c_cons c_int (c_cons (c_op o_sub (c_var (pv 7)) (c_var (pv 6))) c_nil))) sc_missed_in.nd)
 (s_one (s_aug ip_add (c_callB (b_max2 rfl) (T.free 86) rfl (c_cons c_int (c_cons (c_op o_sub (c_var (pv 6)) (c_var (pv 7))) c_nil))) sc_missed_in.nd)))))
 (s_one (s_ret (c_tup (c_cons (c_var (pv 3)) (c_cons (c_var (pv 4)) c_nil)) (by decide) (aC_len (aC_len aN_len)))))))
theorem ok_fits (T : TyL K mg h base fa fn (exL exs)) : Df P w K mg base 3 "fits" st_fits ["book", "loss", "start", "heard"] m_fits := by
  unfold m_fits
  exact Df.ofA T.toTy 24 24 sc_fits fun cdv A out s H E G hK hr tk hp =>
   (s_cons (s_unp (c_f (ok_missed_in T) bd_missed_in hK hr tk (c_cons (c_var (pv 0)) (c_cons (c_var (pv 2)) (c_cons (c_var (pv 3)) c_nil)))) (g_tup rfl (gs_cons (gs_cons gs_nil sc_fits.nd) sc_fits.nd)))
 (s_one (s_ret (c_eand (c_cmp o_le (c_var (pv 4)) (c_ix (c_var (pv 1)) c_int) rfl) (c_eone (c_cmp o_le (c_var (pv 5)) (c_ix (c_var (pv 1)) c_int) rfl))))))
theorem ok_fitting_in (T : TyL K mg h base fa fn (exL exs)) : Df P w K mg base 4 "fitting_in" st_fitting_in ["book", "loss", "heard"] m_fitting_in := by
  unfold m_fitting_in
  exact Df.ofA T.toTy 25 25 sc_fitting_in fun cdv A out s H E G hK hr tk hp =>
   (s_one (s_ret (c_comp (own := [("start", 3)]) sc_fitting_in.nd (i_seq (c_f (ok_all_starts T) bd_all_starts hK hr tk (c_cons (c_var (pv 0)) c_nil))) (blkOk_by (by kernel_rfl)) (fun _ _ _ _ _ => (g_name sc_fitting_in.nd)) (fun _ _ _ _ _ => (ts_one (c_val (c_f (ok_fits T) bd_fits hK hr takesF (c_cons (c_var (pv 0)) (c_cons (c_var (pv 1)) (c_cons (c_var (pv 3)) (c_cons (c_var (pv 2)) c_nil)))))))) (fun _ _ _ _ _ => (c_var (pv 3))))))
theorem ok_fitting (T : TyL K mg h base fa fn (exL exs)) : Df P w K mg base 6 "fitting" st_fitting ["book", "loss", "heard"] m_fitting := by
  unfold m_fitting
  exact Df.ofA T.toTy 26 26 sc_fitting fun cdv A out s H E G hK hr tk hp =>
   (s_cons (s_do (c_f (ok_need_all T) bd_need_all hK hr tk (c_cons (c_var (pv 0)) (c_cons (c_var (pv 1)) (c_cons (c_var (pv 2)) c_nil)))))
 (s_one (s_ret (c_callTy b_tuple (T.free 75) rfl (c_cons (c_f (ok_fitting_in T) bd_fitting_in hK hr tk (c_cons (c_var (pv 0)) (c_cons (c_var (pv 1)) (c_cons (c_var (pv 2)) c_nil)))) c_nil)))))
theorem ok_reach_of (T : TyL K mg h base fa fn (exL exs)) : Df P w K mg base 1 "reach_of" st_reach_of ["rises", "most"] m_reach_of := by
  unfold m_reach_of
  exact Df.ofA T.toTy 27 27 sc_reach_of fun cdv A out s H E G hK hr tk hp =>
   (s_cons (s_par2 (p_cons (c_op o_sub (c_callB b_len (T.free 71) rfl (c_cons (c_var (pv 0)) c_nil)) c_int) (p_cons (c_ix (c_var (pv 0)) (c_neg c_int)) p_nil)) sc_reach_of.nd)
 (s_cons (s_if (c_tcmp (o_eq hr.r.units) (c_var (pv 5)) c_int rfl)
 (s_one (s_ret c_non))
 s_nil)
 (s_cons (s_set (c_op o_fdiv (c_var (pv 1)) (c_var (pv 5))) sc_reach_of.nd)
 (s_cons (s_set (c_op o_sub (c_var (pv 1)) (c_op o_mul (c_var (pv 2)) (c_var (pv 5)))) sc_reach_of.nd)
 (s_one (s_ret (c_op o_add (c_op o_mul (c_var (pv 2)) (c_var (pv 4))) (c_callB b_len (T.free 71) rfl (c_cons (c_comp (own := [("one", 6)]) sc_reach_of.nd (i_seq (c_sl (c_var (pv 0)) (o_some c_int) o_none)) (blkOk_by (by kernel_rfl)) (fun _ _ _ _ _ => (g_name sc_reach_of.nd)) (fun _ _ _ _ _ => (ts_one (c_tcmp o_le (c_var (pv 6)) (c_var (pv 3)) rfl))) (fun _ _ _ _ _ => (c_var (pv 6)))) c_nil)))))))))
theorem ok_longest_in (T : TyL K mg h base fa fn (exL exs)) : Df P w K mg base 3 "longest_in" st_longest_in ["book", "loss", "one", "other"] m_longest_in := by
  unfold m_longest_in
  exact Df.ofA T.toTy 28 28 sc_longest_in fun cdv A out s H E G hK hr tk hp =>
   (s_cons (s_set (c_op o_add (c_ix (c_var (pv 1)) c_int) (c_ix (c_var (pv 1)) c_int)) sc_longest_in.nd)
 (s_cons (s_set (c_lst (c_cons (c_f (ok_reach_of T) bd_reach_of hK hr tk (c_cons (c_f (ok_rises_of T) bd_rises_of hK hr tk (c_cons (c_var (pv 0)) (c_cons (c_var (pv 2)) (c_cons (c_var (pv 3)) c_nil)))) (c_cons (c_var (pv 4)) c_nil))) (c_cons (c_f (ok_reach_of T) bd_reach_of hK hr tk (c_cons (c_f (ok_rises_of T) bd_rises_of hK hr tk (c_cons (c_var (pv 0)) (c_cons (c_var (pv 3)) (c_cons (c_var (pv 2)) c_nil)))) (c_cons (c_var (pv 4)) c_nil))) c_nil)) (by decide) (aC_len (aC_len aN_len))) sc_longest_in.nd)
 (s_one (s_ret (c_minDef hr (T.free 90) (c_comp (own := [("reach", 6)]) sc_longest_in.nd (i_seq (c_var (pv 5))) (blkOk_by (by kernel_rfl)) (fun _ _ _ _ _ => (g_name sc_longest_in.nd)) (fun _ _ _ _ _ => (ts_one (c_tcmp o_notN (c_var (pv 6)) c_non rfl))) (fun _ _ _ _ _ => (c_var (pv 6)))))))))
theorem ok_longest (T : TyL K mg h base fa fn (exL exs)) : Df P w K mg base 6 "longest" st_longest ["book", "loss", "one", "other"] m_longest := by
  unfold m_longest
  exact Df.ofA T.toTy 29 29 sc_longest fun cdv A out s H E G hK hr tk hp =>
   (s_cons (s_do (c_f (ok_need_book T) bd_need_book hK hr tk (c_cons (c_var (pv 0)) c_nil)))
 (s_cons (s_do (c_f (ok_need_loss T) bd_need_loss hK hr tk (c_cons (c_var (pv 1)) c_nil)))
 (s_cons (s_do (c_f (ok_need_pair T) bd_need_pair hK hr tk (c_cons (c_var (pv 0)) (c_cons (c_var (pv 2)) (c_cons (c_var (pv 3)) c_nil)))))
 (s_one (s_ret (c_f (ok_longest_in T) bd_longest_in hK hr tk (c_cons (c_var (pv 0)) (c_cons (c_var (pv 1)) (c_cons (c_var (pv 2)) (c_cons (c_var (pv 3)) c_nil))))))))))
theorem ok_law_fault (T : TyL K mg h base fa fn (exL exs)) : Df P w K mg base 1 "_law_fault" st_law_fault ["_law_error"] m_law_fault := by
  unfold m_law_fault
  exact Df.ofA T.toTy 30 30 sc_law_fault fun cdv A out s H E G hK hr tk hp =>
   (s_cons (s_own c_nil (by decide) aN_len sc_law_fault.nd)
 (s_cons (s_if (c_val (c_isx (sub := fun c _ => hitL [("BadBook", true), ("BadLoss", false), ("BadStart", false), ("BadHeard", false), ("BadNumber", false)] c) hK (T.free 72) (T.glo 80) (isx_ok (T.pred 6)) (c_var (pv 0))))
 (s_one (s_app (pv 1) (c_tup (c_cons c_str (c_cons (c_atx hK (atx_ok (T.pred 7)) (c_var (pv 0))) c_nil)) (by decide) (aC_len (aC_len aN_len)))))
 s_nil)
 (s_cons (s_if (c_val (c_isx (sub := fun c _ => hitL [("BadBook", false), ("BadLoss", true), ("BadStart", false), ("BadHeard", false), ("BadNumber", false)] c) hK (T.free 72) (T.glo 87) (isx_ok (T.pred 8)) (c_var (pv 0))))
 (s_one (s_app (pv 1) (c_tup (c_cons c_str (c_cons (c_atx hK (atx_ok (T.pred 9)) (c_var (pv 0))) c_nil)) (by decide) (aC_len (aC_len aN_len)))))
 s_nil)
 (s_cons (s_if (c_val (c_isx (sub := fun c _ => hitL [("BadBook", false), ("BadLoss", false), ("BadStart", false), ("BadHeard", true), ("BadNumber", false)] c) hK (T.free 72) (T.glo 89) (isx_ok (T.pred 10)) (c_var (pv 0))))
 (s_one (s_app (pv 1) (c_tup (c_cons c_str (c_cons (c_atx hK (atx_ok (T.pred 11)) (c_var (pv 0))) c_nil)) (by decide) (aC_len (aC_len aN_len)))))
 s_nil)
 (s_cons (s_if (c_val (c_isx (sub := fun c _ => hitL [("BadBook", false), ("BadLoss", false), ("BadStart", true), ("BadHeard", false), ("BadNumber", false)] c) hK (T.free 72) (T.glo 82) (isx_ok (T.pred 12)) (c_var (pv 0))))
 (s_one (s_app (pv 1) (c_tup (c_cons c_str (c_cons (c_atx hK (atx_ok (T.pred 13)) (c_var (pv 0))) c_nil)) (by decide) (aC_len (aC_len aN_len)))))
 s_nil)
 (s_cons (s_if (c_val (c_isx (sub := fun c _ => hitL [("BadBook", false), ("BadLoss", false), ("BadStart", false), ("BadHeard", false), ("BadNumber", true)] c) hK (T.free 72) (T.glo 84) (isx_ok (T.pred 14)) (c_var (pv 0))))
 (s_one (s_app (pv 1) (c_tup (c_cons c_str (c_cons (c_atx hK (atx_ok (T.pred 13)) (c_var (pv 0))) c_nil)) (by decide) (aC_len (aC_len aN_len)))))
 s_nil)
 (s_cons (s_if (c_val (c_isx (sub := fun c _ => hitL [("BadBook", false), ("BadLoss", false), ("BadStart", false), ("BadHeard", false), ("BadNumber", false)] c) hK (T.free 72) (T.glo 91) (isx_ok (T.pred 15)) (c_var (pv 0))))
 (s_one (s_app (pv 1) (c_tup (c_cons c_str (c_cons (c_atx hK (atx_ok (T.pred 9)) (c_var (pv 0))) c_nil)) (by decide) (aC_len (aC_len aN_len)))))
 s_nil)
 (s_cons (s_if (c_val (c_isx (sub := fun c _ => hitL [("BadBook", false), ("BadLoss", false), ("BadStart", false), ("BadHeard", false), ("BadNumber", false)] c) hK (T.free 72) (T.glo 92) (isx_ok (T.pred 16)) (c_var (pv 0))))
 (s_one (s_app (pv 1) (c_tup (c_cons c_str (c_cons (c_atx hK (atx_ok (T.pred 18)) (c_var (pv 0))) (c_cons (c_atx hK (atx_ok (T.pred 17)) (c_var (pv 0))) c_nil))) (by decide) (aC_len (aC_len (aC_len aN_len))))))
 s_nil)
 (s_cons (s_if (c_val (c_isx (sub := fun c _ => hitL [("BadBook", false), ("BadLoss", false), ("BadStart", false), ("BadHeard", false), ("BadNumber", false)] c) hK (T.free 72) (T.glo 93) (isx_ok (T.pred 19)) (c_var (pv 0))))
 (s_one (s_app (pv 1) (c_tup (c_cons c_str (c_cons (c_atx hK (atx_ok (T.pred 20)) (c_var (pv 0))) c_nil)) (by decide) (aC_len (aC_len aN_len)))))
 s_nil)
 (s_cons (s_if (c_val (c_isx (sub := fun c _ => hitL [("BadBook", false), ("BadLoss", false), ("BadStart", false), ("BadHeard", false), ("BadNumber", false)] c) hK (T.free 72) (T.glo 94) (isx_ok (T.pred 21)) (c_var (pv 0))))
 (s_one (s_app (pv 1) (c_tup (c_cons c_str (c_cons (c_atx hK (atx_ok (T.pred 22)) (c_var (pv 0))) c_nil)) (by decide) (aC_len (aC_len aN_len)))))
 s_nil)
 (s_one (s_ret (c_if (c_tcmp (o_eq hr.r.units) (c_lenO (T.free 71) (pv 1)) c_int rfl) (c_ixO (pv 1) c_int) (c_tup (c_cons c_str (c_cons (c_lenO (T.free 71) (pv 1)) c_nil)) (by decide) (aC_len (aC_len aN_len))))))))))))))))
theorem ok_law_said (T : TyL K mg h base fa fn (exL exs)) : Dsd P w K mg base 2 "_law_said" "_law_call" ["_law_call", "_law_caught", "_law_found", "e"] (defScope st_law_said) m_law_said := by
  unfold m_law_said
  exact Dsd.of (st := st_law_said) (s1 := (defBody st_law_said).getD 0 (.Pass ⟨0, 0, 0, 0⟩)) (s2 := (defBody st_law_said).getD 1 (.Pass ⟨0, 0, 0, 0⟩)) (s3 := (defBody st_law_said).getD 2 (.Pass ⟨0, 0, 0, 0⟩)) T.toTy 31 31 sc_law_said fun cdv A out s H E G f th hK hr tk act =>
   ⟨s_nones sc_law_said.nd,
   s_trySaid rfl rfl hK sc_law_said.nd rfl rfl rfl (by decide) rfl rfl (test_nine (fun c hc => by
    simp only [List.mem_cons, List.not_mem_nil, or_false] at hc
    rcases hc with rfl | rfl | rfl | rfl | rfl | rfl | rfl | rfl | rfl
    · exact ⟨rfl, T.glo 80 (x := "BadBook") rfl⟩
    · exact ⟨rfl, T.glo 89 (x := "BadHeard") rfl⟩
    · exact ⟨rfl, T.glo 87 (x := "BadLoss") rfl⟩
    · exact ⟨rfl, T.glo 84 (x := "BadNumber") rfl⟩
    · exact ⟨rfl, T.glo 91 (x := "BadPaper") rfl⟩
    · exact ⟨rfl, T.glo 82 (x := "BadStart") rfl⟩
    · exact ⟨rfl, T.glo 92 (x := "BadText") rfl⟩
    · exact ⟨rfl, T.glo 93 (x := "TooMany") rfl⟩
    · exact ⟨rfl, T.glo 94 (x := "NothingLeft") rfl⟩)) (hit9_ok (T.pred 23)) tk act (fun _ _ _ => pss_one (ps_asg (pv 3) (pg_name sc_law_said.nd rfl (.inl rfl) (.inr rfl)))) (fun _ _ => rfl),
   (s_ret (c_if (c_tcmp o_isN (c_var (pv 1)) c_non rfl) (c_lst (c_cons (c_var (pv 2)) c_nil) (by decide) (aC_len aN_len)) (c_f (ok_law_fault T) bd_law_fault hK hr tk (c_cons (c_var (pv 1)) c_nil))))⟩
theorem ok_normal_of (T : TyL K mg h base fa fn (exL exs)) : Df P w K mg base 1 "normal_of" st_normal_of ["clock"] m_normal_of := by
  unfold m_normal_of
  exact Df.ofA T.toTy 32 32 sc_normal_of fun cdv A out s H E G hK hr tk hp =>
   (s_cons (s_set (c_callB b_len (T.free 71) rfl (c_cons (c_var (pv 0)) c_nil)) sc_normal_of.nd)
 (s_cons (s_set (c_callB (b_minL rfl) (T.free 90) rfl (c_cons (c_comp (own := [("part", 4)]) sc_normal_of.nd (i_rng2 (T.free 85) (c_cons c_int (c_cons (c_op o_add (c_var (pv 1)) c_int) c_nil))) (blkOk_by (by kernel_rfl)) (fun _ _ _ _ _ => (g_name sc_normal_of.nd)) (fun _ _ _ _ _ => (ts_one (PW.pt (c_and (c_tcmp (o_eq hr.r.units) (c_op o_mod (c_callTy b_int (T.free 73) rfl (c_cons (c_var (pv 1)) c_nil)) (c_var (pv 4))) c_int rfl) (c_and1 (c_tcmp (o_eq hr.r.units) (c_sl (c_var (pv 0)) (o_some (c_var (pv 4))) o_none) (c_sl (c_var (pv 0)) o_none (o_some (c_op o_sub (c_var (pv 1)) (c_var (pv 4))))) rfl)))))) (fun _ _ _ _ _ => (c_var (pv 4)))) c_nil)) sc_normal_of.nd)
 (s_cons (s_set (c_sl (c_var (pv 0)) o_none (o_some (c_var (pv 2)))) sc_normal_of.nd)
 (s_one (s_ret (c_callB (b_minD rfl hr.r.units) (T.free 90) rfl (c_cons (c_comp (own := [("mark", 5)]) sc_normal_of.nd (i_rng1 (T.free 85) (c_cons (c_var (pv 2)) c_nil)) (blkOk_by (by kernel_rfl)) (fun _ _ _ _ _ => (g_name sc_normal_of.nd)) (fun _ _ _ _ _ => ts_nil) (fun _ _ _ _ _ => (c_op o_add (c_sl (c_var (pv 3)) (o_some (c_var (pv 5))) o_none) (c_sl (c_var (pv 3)) o_none (o_some (c_var (pv 5))))))) c_nil)))))))
theorem ok_need_clock (T : TyL K mg h base fa fn (exL exs)) : Df P w K mg base 3 "need_clock" st_need_clock ["book", "thing"] m_need_clock := by
  unfold m_need_clock
  exact Df.ofA T.toTy 33 33 sc_need_clock fun cdv A out s H E G hK hr tk hp =>
   (s_cons (s_if (c_not (c_val (c_f (ok_is_whole T) bd_is_whole hK hr tk (c_cons (c_var (pv 1)) (c_cons c_int (c_cons (c_op o_sub (c_callB b_len (T.free 71) rfl (c_cons (c_var (pv 0)) c_nil)) c_int) c_nil))))))
 (s_one (s_raise (dx_BadNumber T) hK hr tk (c_var (pv 1))))
 s_nil)
 (s_one (s_ret (c_var (pv 1)))))
theorem ok_normal (T : TyL K mg h base fa fn (exL exs)) : Df P w K mg base 5 "normal" st_normal ["book", "clock"] m_normal := by
  unfold m_normal
  exact Df.ofA T.toTy 34 34 sc_normal fun cdv A out s H E G hK hr tk hp =>
   (s_cons (s_do (c_f (ok_need_book T) bd_need_book hK hr tk (c_cons (c_var (pv 0)) c_nil)))
 (s_one (s_ret (c_f (ok_normal_of T) bd_normal_of hK hr tk (c_cons (c_ix (c_var (pv 0)) (c_f (ok_need_clock T) bd_need_clock hK hr tk (c_cons (c_var (pv 0)) (c_cons (c_var (pv 1)) c_nil)))) c_nil)))))
theorem ok_are_alike (T : TyL K mg h base fa fn (exL exs)) : Df P w K mg base 5 "are_alike" st_are_alike ["book", "clock", "second"] m_are_alike := by
  unfold m_are_alike
  exact Df.ofA T.toTy 35 35 sc_are_alike fun cdv A out s H E G hK hr tk hp =>
   (s_cons (s_do (c_f (ok_need_book T) bd_need_book hK hr tk (c_cons (c_var (pv 0)) c_nil)))
 (s_cons (s_do (c_f (ok_need_clock T) bd_need_clock hK hr tk (c_cons (c_var (pv 0)) (c_cons (c_var (pv 1)) c_nil))))
 (s_one (s_ret (c_cmp (o_eq hr.r.units) (c_f (ok_normal_of T) bd_normal_of hK hr tk (c_cons (c_ix (c_var (pv 0)) (c_var (pv 1))) c_nil)) (c_f (ok_normal_of T) bd_normal_of hK hr tk (c_cons (c_ix (c_var (pv 0)) (c_f (ok_need_clock T) bd_need_clock hK hr tk (c_cons (c_var (pv 0)) (c_cons (c_var (pv 2)) c_nil)))) c_nil)) rfl)))))
theorem ok_numbers_text (T : TyL K mg h base fa fn (exL exs)) : Df P w K mg base 1 "numbers_text" st_numbers_text ["numbers"] m_numbers_text := by
  unfold m_numbers_text
  exact Df.ofA T.toTy 36 36 sc_numbers_text fun cdv A out s H E G hK hr tk hp =>
   (s_one (s_ret (c_join (c_gstr (T.str 95)) (c_comp (own := [("number", 1)]) sc_numbers_text.nd (i_seq (c_var (pv 0))) (blkOk_by (by kernel_rfl)) (fun _ _ _ _ _ => (g_name sc_numbers_text.nd)) (fun _ _ _ _ _ => ts_nil) (fun _ _ _ _ _ => (c_callTy b_str (T.free 96) rfl (c_cons (c_var (pv 1)) c_nil)))))))
theorem ok_book_text (T : TyL K mg h base fa fn (exL exs)) : Df P w K mg base 5 "book_text" st_book_text ["book"] m_book_text := by
  unfold m_book_text
  exact Df.ofA T.toTy 37 37 sc_book_text fun cdv A out s H E G hK hr tk hp =>
   (s_one (s_ret (c_join (c_gstr (T.str 97)) (c_comp (own := [("clock", 1)]) sc_book_text.nd (i_seq (c_f (ok_need_book T) bd_need_book hK hr tk (c_cons (c_var (pv 0)) c_nil))) (blkOk_by (by kernel_rfl)) (fun _ _ _ _ _ => (g_name sc_book_text.nd)) (fun _ _ _ _ _ => ts_nil) (fun _ _ _ _ _ => (c_f (ok_numbers_text T) bd_numbers_text hK hr takesF (c_cons (c_var (pv 1)) c_nil)))))))
theorem ok_are_same_in (T : TyL K mg h base fa fn (exL exs)) : Df P w K mg base 2 "are_same_in" st_are_same_in ["book", "one", "other"] m_are_same_in := by
  unfold m_are_same_in
  exact Df.ofA T.toTy 38 38 sc_are_same_in fun cdv A out s H E G hK hr tk hp =>
   (s_cons (s_set (c_f (ok_common_round T) bd_common_round hK hr tk (c_cons (c_var (pv 0)) (c_cons (c_var (pv 1)) (c_cons (c_var (pv 2)) c_nil)))) sc_are_same_in.nd)
 (s_one (s_ret (c_callB (b_all rfl) (T.free 98) rfl (c_cons (c_comp (own := [("later", 4)]) sc_are_same_in.nd (i_rng1 (T.free 85) (c_cons (c_var (pv 3)) c_nil)) (blkOk_by (by kernel_rfl)) (fun _ _ _ _ _ => (g_name sc_are_same_in.nd)) (fun _ _ _ _ _ => ts_nil) (fun _ _ _ _ _ => (c_cmp (o_eq hr.r.units) (c_f (ok_struck T) bd_struck hK hr takesF (c_cons (c_var (pv 0)) (c_cons (c_var (pv 1)) (c_cons (c_var (pv 4)) c_nil)))) (c_f (ok_struck T) bd_struck hK hr takesF (c_cons (c_var (pv 0)) (c_cons (c_var (pv 2)) (c_cons (c_var (pv 4)) c_nil)))) rfl))) c_nil)))))
theorem ok_tolerance (T : TyL K mg h base fa fn (exL exs)) : Df P w K mg base 5 "tolerance" st_tolerance ["book", "marks"] m_tolerance := by
  unfold m_tolerance
  exact Df.ofA T.toTy 39 39 sc_tolerance fun cdv A out s H E G hK hr tk hp =>
   (s_cons (s_do (c_f (ok_need_book T) bd_need_book hK hr tk (c_cons (c_var (pv 0)) c_nil)))
 (s_cons (s_do (c_f (ok_need_marks T) bd_need_marks hK hr tk (c_cons (c_var (pv 1)) c_nil)))
 (s_cons (s_par2 (p_cons (c_f (ok_all_starts T) bd_all_starts hK hr tk (c_cons (c_var (pv 0)) c_nil)) (p_own c_nil (by decide) aN_len p_nil)) sc_tolerance.nd)
 (s_cons (s_for hp (i_enum (T.free 77) (c_cons (c_var (pv 2)) c_nil)) (g_tup rfl (gs_cons (gs_cons gs_nil sc_tolerance.nd) sc_tolerance.nd))
 (s_one (s_for hp (i_seq (c_sl (c_var (pv 2)) (o_some (c_op o_add (c_var (pv 4)) c_int)) o_none)) (g_name sc_tolerance.nd)
 (s_one (s_if (c_not (c_val (c_f (ok_are_same_in T) bd_are_same_in hK hr tk (c_cons (c_var (pv 0)) (c_cons (c_var (pv 5)) (c_cons (c_var (pv 6)) c_nil))))))
 (s_one (s_app (pv 3) (c_op o_sub (c_callB (b_max2 rfl) (T.free 86) rfl (c_cons (c_f (ok_over_in T) bd_over_in hK hr tk (c_cons (c_var (pv 0)) (c_cons (c_var (pv 5)) (c_cons (c_var (pv 6)) (c_cons (c_var (pv 1)) c_nil))))) (c_cons (c_f (ok_over_in T) bd_over_in hK hr tk (c_cons (c_var (pv 0)) (c_cons (c_var (pv 6)) (c_cons (c_var (pv 5)) (c_cons (c_var (pv 1)) c_nil))))) c_nil))) c_int)))
 s_nil)))))
 (s_frz 3 (s_one (s_ret (c_minDef hr (T.free 90) (c_var (pv 3))))))))))
theorem ok_law_books (T : TyL K mg h base fa fn (exL exs)) : Df P w K mg base 8 "_law_books" st_law_books ["_law_bad"] m_law_books := by
  unfold m_law_books
  exact Df.ofC T.toTy 40 40 sc_law_books fun cdv A out s H E G hc hK hr tk hp =>
   k_first (mk := "_law_books") ⟨hK, T.tb, T.pred 24, hc, by decide, rfl⟩ (e := (eC m_normal (aC (eV 0) (aC (eK .non) aN)))) (kb := 5) ⟨lamT_by (by kernel_rfl), rfl, fun _ _ _ _ _ _ => rfl, fun A outer s H E f c' hr tk => (c_f (ok_normal T) bd_normal hK hr tk (c_cons (c_var (pv 0)) (c_cons c_non c_nil)))⟩ sc_law_books.nd rfl (fun _ _ h => callsD_bad h)
   (k_more (mk := "_law_books") ⟨hK, T.tb, T.pred 24, hc, by decide, rfl⟩ (e := (eC m_are_alike (aC (eV 0) (aC (eK .non) (aC (eK .non) aN))))) (kb := 5) ⟨lamT_by (by kernel_rfl), rfl, fun _ _ _ _ _ _ => rfl, fun A outer s H E f c' hr tk => (c_f (ok_are_alike T) bd_are_alike hK hr tk (c_cons (c_var (pv 0)) (c_cons c_non (c_cons c_non c_nil))))⟩ rfl (by first | exact Or.inl rfl | exact Or.inr (Or.inl rfl)) (by decide) (by decide) (by decide)
   (k_more (mk := "_law_books") ⟨hK, T.tb, T.pred 24, hc, by decide, rfl⟩ (e := (eC m_book_text (aC (eV 0) aN))) (kb := 5) ⟨lamT_by (by kernel_rfl), rfl, fun _ _ _ _ _ _ => rfl, fun A outer s H E f c' hr tk => (c_f (ok_book_text T) bd_book_text hK hr tk (c_cons (c_var (pv 0)) c_nil))⟩ rfl (by first | exact Or.inl rfl | exact Or.inr (Or.inl rfl)) (by decide) (by decide) (by decide)
   (k_more (mk := "_law_books") ⟨hK, T.tb, T.pred 24, hc, by decide, rfl⟩ (e := (eC m_tolerance (aC (eV 0) (aC (eK .non) aN)))) (kb := 5) ⟨lamT_by (by kernel_rfl), rfl, fun _ _ _ _ _ _ => rfl, fun A outer s H E f c' hr tk => (c_f (ok_tolerance T) bd_tolerance hK hr tk (c_cons (c_var (pv 0)) (c_cons c_non c_nil)))⟩ rfl (by first | exact Or.inl rfl | exact Or.inr (Or.inl rfl)) (by decide) (by decide) (by decide)
   (k_ret (kb := 5) (ok_law_said T).t (ok_law_said (P := P) (w := w) (base := base) T).mg (ok_law_said (P := P) (w := w) (base := base) T).kp ⟨hK, T.tb, T.pred 24, hc, by decide, rfl⟩ hr rfl sc_law_books.nd rfl (by first | exact Or.inl rfl | exact Or.inr (Or.inl rfl)) rfl (blkOk_by (own := [("_law_call", 2)]) (by kernel_rfl)) (fun _ _ _ _ _ => pg_name sc_law_books.nd rfl (.inl rfl) (.inr rfl)) (.inl rfl) (by decide) (by decide) (by decide) (fun _ _ _ _ _ => rfl)))))
theorem ok_can_confuse_in (T : TyL K mg h base fa fn (exL exs)) : Df P w K mg base 4 "can_confuse_in" st_can_confuse_in ["book", "loss", "one", "other", "marks"] m_can_confuse_in := by
  unfold m_can_confuse_in
  exact Df.ofA T.toTy 41 41 sc_can_confuse_in fun cdv A out s H E G hK hr tk hp =>
   (s_cons (s_set (c_op o_add (c_ix (c_var (pv 1)) c_int) (c_ix (c_var (pv 1)) c_int)) sc_can_confuse_in.nd)
 (s_one (s_ret (c_eand (c_cmp o_le (c_f (ok_over_in T) bd_over_in hK hr tk (c_cons (c_var (pv 0)) (c_cons (c_var (pv 2)) (c_cons (c_var (pv 3)) (c_cons (c_var (pv 4)) c_nil))))) (c_var (pv 5)) rfl) (c_eone (c_cmp o_le (c_f (ok_over_in T) bd_over_in hK hr tk (c_cons (c_var (pv 0)) (c_cons (c_var (pv 3)) (c_cons (c_var (pv 2)) (c_cons (c_var (pv 4)) c_nil))))) (c_var (pv 5)) rfl))))))
theorem ok_can_confuse (T : TyL K mg h base fa fn (exL exs)) : Df P w K mg base 6 "can_confuse" st_can_confuse ["book", "loss", "one", "other", "marks"] m_can_confuse := by
  unfold m_can_confuse
  exact Df.ofA T.toTy 42 42 sc_can_confuse fun cdv A out s H E G hK hr tk hp =>
   (s_cons (s_do (c_f (ok_need_book T) bd_need_book hK hr tk (c_cons (c_var (pv 0)) c_nil)))
 (s_cons (s_do (c_f (ok_need_loss T) bd_need_loss hK hr tk (c_cons (c_var (pv 1)) c_nil)))
 (s_cons (s_do (c_f (ok_need_pair T) bd_need_pair hK hr tk (c_cons (c_var (pv 0)) (c_cons (c_var (pv 2)) (c_cons (c_var (pv 3)) c_nil)))))
 (s_one (s_ret (c_f (ok_can_confuse_in T) bd_can_confuse_in hK hr tk (c_cons (c_var (pv 0)) (c_cons (c_var (pv 1)) (c_cons (c_var (pv 2)) (c_cons (c_var (pv 3)) (c_cons (c_f (ok_need_marks T) bd_need_marks hK hr tk (c_cons (c_var (pv 4)) c_nil)) c_nil)))))))))))
theorem ok_row_in (T : TyL K mg h base fa fn (exL exs)) : Df P w K mg base 2 "row_in" st_row_in ["book", "loss", "one", "other", "marks"] m_row_in := by
  unfold m_row_in
  exact Df.ofA T.toTy 43 43 sc_row_in fun cdv A out s H E G hK hr tk hp =>
   (s_cons (s_par3 (p_own c_nil (by decide) aN_len (p_cons (c_ix (c_var (pv 1)) c_int) (p_cons (c_ix (c_var (pv 1)) c_int) p_nil))) sc_row_in.nd)
 (s_cons (s_for hp (i_rng1 (T.free 85) (c_cons (c_var (pv 4)) c_nil)) (g_name sc_row_in.nd)
 (s_cons (s_par2 (p_cons (c_f (ok_struck T) bd_struck hK hr tk (c_cons (c_var (pv 0)) (c_cons (c_var (pv 2)) (c_cons (c_var (pv 5)) c_nil)))) (p_cons (c_f (ok_struck T) bd_struck hK hr tk (c_cons (c_var (pv 0)) (c_cons (c_var (pv 3)) (c_cons (c_var (pv 5)) c_nil)))) p_nil)) sc_row_in.nd)
 (s_one (s_if (c_tcmp o_gt (c_var (pv 9)) (c_var (pv 10)) rfl)
 (s_cons (s_set (c_callB (b_min2 rfl) (T.free 90) rfl (c_cons (c_op o_sub (c_var (pv 9)) (c_var (pv 10))) (c_cons (c_var (pv 7)) c_nil))) sc_row_in.nd)
 (s_cons (s_aug ip_sub (c_var (pv 11)) sc_row_in.nd)
 (s_one (s_app (pv 6) (c_op o_sub (c_var (pv 9)) (c_var (pv 11)))))))
 (s_cons (s_set (c_callB (b_min2 rfl) (T.free 90) rfl (c_cons (c_op o_sub (c_var (pv 10)) (c_var (pv 9))) (c_cons (c_var (pv 8)) c_nil))) sc_row_in.nd)
 (s_cons (s_aug ip_sub (c_var (pv 11)) sc_row_in.nd)
 (s_one (s_app (pv 6) (c_op o_sub (c_var (pv 10)) (c_var (pv 11)))))))))))
 (s_frz 6 (s_one (s_ret (c_callTy b_tuple (T.free 75) rfl (c_cons (c_var (pv 6)) c_nil)))))))
theorem ok_confused_row (T : TyL K mg h base fa fn (exL exs)) : Df P w K mg base 7 "confused_row" st_confused_row ["book", "loss", "one", "other", "marks"] m_confused_row := by
  unfold m_confused_row
  exact Df.ofA T.toTy 44 44 sc_confused_row fun cdv A out s H E G hK hr tk hp =>
   (s_cons (s_if (c_not (c_val (c_f (ok_can_confuse T) bd_can_confuse hK hr tk (c_cons (c_var (pv 0)) (c_cons (c_var (pv 1)) (c_cons (c_var (pv 2)) (c_cons (c_var (pv 3)) (c_cons (c_var (pv 4)) c_nil))))))))
 (s_one (s_ret c_non))
 s_nil)
 (s_cons (s_if (c_tcmp o_gt (c_var (pv 4)) (c_gint (T.int 99)) rfl)
 (s_one s_never)
 s_nil)
 (s_one (s_ret (c_f (ok_row_in T) bd_row_in hK hr tk (c_cons (c_var (pv 0)) (c_cons (c_var (pv 1)) (c_cons (c_var (pv 2)) (c_cons (c_var (pv 3)) (c_cons (c_var (pv 4)) c_nil))))))))))
theorem ok_wait_in (T : TyL K mg h base fa fn (exL exs)) : Df P w K mg base 4 "wait_in" st_wait_in ["book", "loss", "start"] m_wait_in := by
  unfold m_wait_in
  exact Df.ofA T.toTy 45 45 sc_wait_in fun cdv A out s H E G hK hr tk hp =>
   (s_cons (s_setC (own := [("other", 4)]) sc_wait_in.nd (i_seq (c_f (ok_all_starts T) bd_all_starts hK hr tk (c_cons (c_var (pv 0)) c_nil))) (blkOk_by (by kernel_rfl)) (fun _ _ _ _ _ => (g_name sc_wait_in.nd)) (fun _ _ _ _ _ => ts_nil) (fun _ _ _ _ _ => (c_f (ok_longest_in T) bd_longest_in hK hr takesF (c_cons (c_var (pv 0)) (c_cons (c_var (pv 1)) (c_cons (c_var (pv 2)) (c_cons (c_var (pv 4)) c_nil)))))))
 (s_one (s_ret (c_callB (b_maxL rfl) (T.free 86) rfl (c_cons (c_op o_add (c_lst (c_cons c_int c_nil) (by decide) (aC_len aN_len)) (c_comp (own := [("reach", 5)]) sc_wait_in.nd (i_seq (c_var (pv 3))) (blkOk_by (by kernel_rfl)) (fun _ _ _ _ _ => (g_name sc_wait_in.nd)) (fun _ _ _ _ _ => (ts_one (c_tcmp o_notN (c_var (pv 5)) c_non rfl))) (fun _ _ _ _ _ => (c_op o_add c_int (c_var (pv 5)))))) c_nil)))))
theorem ok_wait_of (T : TyL K mg h base fa fn (exL exs)) : Df P w K mg base 5 "wait_of" st_wait_of ["book", "loss", "start"] m_wait_of := by
  unfold m_wait_of
  exact Df.ofA T.toTy 46 46 sc_wait_of fun cdv A out s H E G hK hr tk hp =>
   (s_cons (s_do (c_f (ok_need_book T) bd_need_book hK hr tk (c_cons (c_var (pv 0)) c_nil)))
 (s_cons (s_do (c_f (ok_need_loss T) bd_need_loss hK hr tk (c_cons (c_var (pv 1)) c_nil)))
 (s_one (s_ret (c_f (ok_wait_in T) bd_wait_in hK hr tk (c_cons (c_var (pv 0)) (c_cons (c_var (pv 1)) (c_cons (c_f (ok_need_start T) bd_need_start hK hr tk (c_cons (c_var (pv 0)) (c_cons (c_var (pv 2)) c_nil))) c_nil))))))))
theorem ok_worst_in (T : TyL K mg h base fa fn (exL exs)) : Df P w K mg base 5 "worst_in" st_worst_in ["book", "loss"] m_worst_in := by
  unfold m_worst_in
  exact Df.ofA T.toTy 47 47 sc_worst_in fun cdv A out s H E G hK hr tk hp =>
   (s_one (s_ret (c_callB (b_maxL rfl) (T.free 86) rfl (c_cons (c_comp (own := [("start", 2)]) sc_worst_in.nd (i_seq (c_f (ok_all_starts T) bd_all_starts hK hr tk (c_cons (c_var (pv 0)) c_nil))) (blkOk_by (by kernel_rfl)) (fun _ _ _ _ _ => (g_name sc_worst_in.nd)) (fun _ _ _ _ _ => ts_nil) (fun _ _ _ _ _ => (c_f (ok_wait_in T) bd_wait_in hK hr takesF (c_cons (c_var (pv 0)) (c_cons (c_var (pv 1)) (c_cons (c_var (pv 2)) c_nil)))))) c_nil))))
theorem ok_worst_wait (T : TyL K mg h base fa fn (exL exs)) : Df P w K mg base 6 "worst_wait" st_worst_wait ["book", "loss"] m_worst_wait := by
  unfold m_worst_wait
  exact Df.ofA T.toTy 48 48 sc_worst_wait fun cdv A out s H E G hK hr tk hp =>
   (s_cons (s_do (c_f (ok_need_book T) bd_need_book hK hr tk (c_cons (c_var (pv 0)) c_nil)))
 (s_one (s_ret (c_f (ok_worst_in T) bd_worst_in hK hr tk (c_cons (c_var (pv 0)) (c_cons (c_f (ok_need_loss T) bd_need_loss hK hr tk (c_cons (c_var (pv 1)) c_nil)) c_nil))))))
theorem ok_best_starts (T : TyL K mg h base fa fn (exL exs)) : Df P w K mg base 5 "best_starts" st_best_starts ["book", "loss"] m_best_starts := by
  unfold m_best_starts
  exact Df.ofA T.toTy 49 49 sc_best_starts fun cdv A out s H E G hK hr tk hp =>
   (s_cons (s_do (c_f (ok_need_book T) bd_need_book hK hr tk (c_cons (c_var (pv 0)) c_nil)))
 (s_cons (s_do (c_f (ok_need_loss T) bd_need_loss hK hr tk (c_cons (c_var (pv 1)) c_nil)))
 (s_cons (s_setC (own := [("start", 4)]) sc_best_starts.nd (i_seq (c_f (ok_all_starts T) bd_all_starts hK hr tk (c_cons (c_var (pv 0)) c_nil))) (blkOk_by (by kernel_rfl)) (fun _ _ _ _ _ => (g_name sc_best_starts.nd)) (fun _ _ _ _ _ => ts_nil) (fun _ _ _ _ _ => (c_tup (c_cons (c_f (ok_wait_in T) bd_wait_in hK hr takesF (c_cons (c_var (pv 0)) (c_cons (c_var (pv 1)) (c_cons (c_var (pv 4)) c_nil)))) (c_cons (c_var (pv 4)) c_nil)) (by decide) (aC_len (aC_len aN_len)))))
 (s_cons (s_set (c_ix (c_callB (b_minD rfl hr.r.units) (T.free 90) rfl (c_cons (c_var (pv 2)) c_nil)) c_int) sc_best_starts.nd)
 (s_one (s_ret (c_callTy b_tuple (T.free 75) rfl (c_cons (c_comp (own := [("many", 5), ("start", 4)]) sc_best_starts.nd (i_seq (c_var (pv 2))) (blkOk_by (by kernel_rfl)) (fun _ _ _ _ _ => (g_tup rfl (gs_cons (gs_cons gs_nil sc_best_starts.nd) sc_best_starts.nd))) (fun _ _ _ _ _ => (ts_one (c_tcmp (o_eq hr.r.units) (c_var (pv 5)) (c_var (pv 3)) rfl))) (fun _ _ _ _ _ => (c_var (pv 4)))) c_nil))))))))
theorem ok_clock_wait (T : TyL K mg h base fa fn (exL exs)) : Df P w K mg base 5 "clock_wait" st_clock_wait ["book", "loss", "start"] m_clock_wait := by
  unfold m_clock_wait
  exact Df.ofA T.toTy 50 50 sc_clock_wait fun cdv A out s H E G hK hr tk hp =>
   (s_cons (s_do (c_f (ok_need_book T) bd_need_book hK hr tk (c_cons (c_var (pv 0)) c_nil)))
 (s_cons (s_do (c_f (ok_need_loss T) bd_need_loss hK hr tk (c_cons (c_var (pv 1)) c_nil)))
 (s_cons (s_do (c_f (ok_need_start T) bd_need_start hK hr tk (c_cons (c_var (pv 0)) (c_cons (c_var (pv 2)) c_nil))))
 (s_cons (s_setC (own := [("other", 5)]) sc_clock_wait.nd (i_seq (c_f (ok_all_starts T) bd_all_starts hK hr tk (c_cons (c_var (pv 0)) c_nil))) (blkOk_by (by kernel_rfl)) (fun _ _ _ _ _ => (g_name sc_clock_wait.nd)) (fun _ _ _ _ _ => (ts_one (c_tcmp (o_ne hr.r.units) (c_ix (c_var (pv 5)) c_int) (c_ix (c_var (pv 2)) c_int) rfl))) (fun _ _ _ _ _ => (c_var (pv 5))))
 (s_cons (s_setC (own := [("other", 5)]) sc_clock_wait.nd (i_seq (c_var (pv 3))) (blkOk_by (by kernel_rfl)) (fun _ _ _ _ _ => (g_name sc_clock_wait.nd)) (fun _ _ _ _ _ => ts_nil) (fun _ _ _ _ _ => (c_f (ok_longest_in T) bd_longest_in hK hr takesF (c_cons (c_var (pv 0)) (c_cons (c_var (pv 1)) (c_cons (c_var (pv 2)) (c_cons (c_var (pv 5)) c_nil)))))))
 (s_one (s_ret (c_if (c_tcmp (o_in hr.u65) c_non (c_var (pv 4)) rfl) c_non (c_callB (b_maxL rfl) (T.free 86) rfl (c_cons (c_op o_add (c_lst (c_cons c_int c_nil) (by decide) (aC_len aN_len)) (c_comp (own := [("reach", 6)]) sc_clock_wait.nd (i_seq (c_var (pv 4))) (blkOk_by (by kernel_rfl)) (fun _ _ _ _ _ => (g_name sc_clock_wait.nd)) (fun _ _ _ _ _ => ts_nil) (fun _ _ _ _ _ => (c_op o_add c_int (c_var (pv 6)))))) c_nil))))))))))
theorem ok_are_sure (T : TyL K mg h base fa fn (exL exs)) : Df P w K mg base 3 "are_sure" st_are_sure ["book", "starts"] m_are_sure := by
  unfold m_are_sure
  exact Df.ofA T.toTy 51 51 sc_are_sure fun cdv A out s H E G hK hr tk hp =>
   (s_one (s_ret (c_eand (c_cmp (o_ne hr.r.units) (c_var (pv 1)) (c_lst c_nil (by decide) aN_len) rfl) (c_eone (c_callB (b_all rfl) (T.free 98) rfl (c_cons (c_comp (own := [("other", 2)]) sc_are_sure.nd (i_seq (c_sl (c_var (pv 1)) (o_some c_int) o_none)) (blkOk_by (by kernel_rfl)) (fun _ _ _ _ _ => (g_name sc_are_sure.nd)) (fun _ _ _ _ _ => ts_nil) (fun _ _ _ _ _ => (c_f (ok_are_same_in T) bd_are_same_in hK hr takesF (c_cons (c_var (pv 0)) (c_cons (c_ix (c_var (pv 1)) c_int) (c_cons (c_var (pv 2)) c_nil)))))) c_nil))))))
theorem ok_known_behind (T : TyL K mg h base fa fn (exL exs)) : Df P w K mg base 6 "known_behind" st_known_behind ["book", "loss", "heard"] m_known_behind := by
  unfold m_known_behind
  exact Df.ofA T.toTy 52 52 sc_known_behind fun cdv A out s H E G hK hr tk hp =>
   (s_cons (s_do (c_f (ok_need_all T) bd_need_all hK hr tk (c_cons (c_var (pv 0)) (c_cons (c_var (pv 1)) (c_cons (c_var (pv 2)) c_nil)))))
 (s_cons (s_for hp (i_rng1 (T.free 85) (c_cons (c_op o_add (c_callB b_len (T.free 71) rfl (c_cons (c_var (pv 2)) c_nil)) c_int) c_nil)) (g_name sc_known_behind.nd)
 (s_one (s_if (c_val (c_f (ok_are_sure T) bd_are_sure hK hr tk (c_cons (c_var (pv 0)) (c_cons (c_f (ok_fitting_in T) bd_fitting_in hK hr tk (c_cons (c_var (pv 0)) (c_cons (c_var (pv 1)) (c_cons (c_sl (c_var (pv 2)) o_none (o_some (c_var (pv 3)))) c_nil)))) c_nil))))
 (s_one (s_ret (c_var (pv 3))))
 s_nil)))
 (s_one (s_ret c_non))))
theorem ok_next_in (T : TyL K mg h base fa fn (exL exs)) : Df P w K mg base 5 "next_in" st_next_in ["book", "loss", "heard"] m_next_in := by
  unfold m_next_in
  exact Df.ofA T.toTy 53 53 sc_next_in fun cdv A out s H E G hK hr tk hp =>
   (s_one (s_ret (c_callB b_sorted (T.free 101) rfl (c_cons (c_dkeys (own := [("start", 3)]) (T.free 100) sc_next_in.nd (i_seq (c_f (ok_fitting_in T) bd_fitting_in hK hr tk (c_cons (c_var (pv 0)) (c_cons (c_var (pv 1)) (c_cons (c_var (pv 2)) c_nil))))) (blkOk_by (by kernel_rfl)) (fun _ _ _ _ _ => (g_name sc_next_in.nd)) (fun _ _ _ _ _ => (c_f (ok_struck T) bd_struck hK hr takesF (c_cons (c_var (pv 0)) (c_cons (c_var (pv 3)) (c_cons (c_callB b_len (T.free 71) rfl (c_cons (c_var (pv 2)) c_nil)) c_nil)))))) c_nil))))
theorem ok_next_strokes (T : TyL K mg h base fa fn (exL exs)) : Df P w K mg base 6 "next_strokes" st_next_strokes ["book", "loss", "heard"] m_next_strokes := by
  unfold m_next_strokes
  exact Df.ofA T.toTy 54 54 sc_next_strokes fun cdv A out s H E G hK hr tk hp =>
   (s_cons (s_do (c_f (ok_need_all T) bd_need_all hK hr tk (c_cons (c_var (pv 0)) (c_cons (c_var (pv 1)) (c_cons (c_var (pv 2)) c_nil)))))
 (s_one (s_ret (c_callTy b_tuple (T.free 75) rfl (c_cons (c_f (ok_next_in T) bd_next_in hK hr tk (c_cons (c_var (pv 0)) (c_cons (c_var (pv 1)) (c_cons (c_var (pv 2)) c_nil)))) c_nil)))))
theorem ok_stretches (T : TyL K mg h base fa fn (exL exs)) : Df P w K mg base 1 "stretches" st_stretches ["pairs"] m_stretches := by
  unfold m_stretches
  exact Df.ofA T.toTy 55 55 sc_stretches fun cdv A out s H E G hK hr tk hp =>
   (s_cons (s_own c_nil (by decide) aN_len sc_stretches.nd)
 (s_cons (s_for hp (i_seq (c_callB b_sortedP (T.free 101) rfl (c_cons (c_var (pv 0)) c_nil))) (g_tup rfl (gs_cons (gs_cons gs_nil sc_stretches.nd) sc_stretches.nd))
 (s_one (s_if (PW.pt (c_and (c_tneO hr.r.units (pv 1) (c_lst c_nil (by decide) aN_len) rfl) (c_and1 (c_tcmp o_le (c_var (pv 2)) (c_op o_add (c_ix (c_ixO (pv 1) (c_neg c_int)) c_int) c_int) rfl))))
 (s_one (s_seti rfl (pv 1) (c_neg c_int) (c_tup (c_cons (c_ix (c_ixO (pv 1) (c_neg c_int)) c_int) (c_cons (c_callB (b_max2 rfl) (T.free 86) rfl (c_cons (c_ix (c_ixO (pv 1) (c_neg c_int)) c_int) (c_cons (c_var (pv 3)) c_nil))) c_nil)) (by decide) (aC_len (aC_len aN_len)))))
 (s_one (s_app (pv 1) (c_tup (c_cons (c_var (pv 2)) (c_cons (c_var (pv 3)) c_nil)) (by decide) (aC_len (aC_len aN_len))))))))
 (s_frz 1 (s_one (s_ret (c_var (pv 1)))))))
theorem ok_may_hear (T : TyL K mg h base fa fn (exL exs)) : Df P w K mg base 6 "may_hear" st_may_hear ["book", "loss", "heard"] m_may_hear := by
  unfold m_may_hear
  exact Df.ofA T.toTy 56 56 sc_may_hear fun cdv A out s H E G hK hr tk hp =>
   (s_cons (s_do (c_f (ok_need_all T) bd_need_all hK hr tk (c_cons (c_var (pv 0)) (c_cons (c_var (pv 1)) (c_cons (c_var (pv 2)) c_nil)))))
 (s_cons (s_own c_nil (by decide) aN_len sc_may_hear.nd)
 (s_cons (s_for hp (i_seq (c_f (ok_fitting_in T) bd_fitting_in hK hr tk (c_cons (c_var (pv 0)) (c_cons (c_var (pv 1)) (c_cons (c_var (pv 2)) c_nil))))) (g_name sc_may_hear.nd)
 (s_cons (s_unp (c_f (ok_missed_in T) bd_missed_in hK hr tk (c_cons (c_var (pv 0)) (c_cons (c_var (pv 4)) (c_cons (c_var (pv 2)) c_nil)))) (g_tup rfl (gs_cons (gs_cons gs_nil sc_may_hear.nd) sc_may_hear.nd)))
 (s_cons (s_set (c_f (ok_struck T) bd_struck hK hr tk (c_cons (c_var (pv 0)) (c_cons (c_var (pv 4)) (c_cons (c_callB b_len (T.free 71) rfl (c_cons (c_var (pv 2)) c_nil)) c_nil)))) sc_may_hear.nd)
 (s_one (s_app (pv 3) (c_tup (c_cons (c_callB (b_max2 rfl) (T.free 86) rfl (c_cons c_int (c_cons (c_op o_add (c_op o_sub (c_var (pv 5)) (c_ix (c_var (pv 1)) c_int)) (c_var (pv 6))) c_nil))) (c_cons (c_op o_sub (c_op o_add (c_var (pv 5)) (c_ix (c_var (pv 1)) c_int)) (c_var (pv 7))) c_nil)) (by decide) (aC_len (aC_len aN_len))))))))
 (s_frz 3 (s_one (s_ret (c_callTy b_tuple (T.free 75) rfl (c_cons (c_f (ok_stretches T) bd_stretches hK hr tk (c_cons (c_var (pv 3)) c_nil)) c_nil))))))))
theorem ok_need_asked (T : TyL K mg h base fa fn (exL exs)) : Df P w K mg base 5 "need_asked" st_need_asked ["book", "loss", "marks"] m_need_asked := by
  unfold m_need_asked
  exact Df.ofA T.toTy 57 57 sc_need_asked fun cdv A out s H E G hK hr tk hp =>
   (s_cons (s_do (c_f (ok_need_book T) bd_need_book hK hr tk (c_cons (c_var (pv 0)) c_nil)))
 (s_cons (s_do (c_f (ok_need_loss T) bd_need_loss hK hr tk (c_cons (c_var (pv 1)) c_nil)))
 (s_one (s_do (c_f (ok_need_marks T) bd_need_marks hK hr tk (c_cons (c_var (pv 2)) c_nil))))))
theorem ok_known_paper (T : TyL K mg h base fa fn (exL exs)) : Df P w K mg base 6 "known_paper" st_known_paper ["book", "loss", "marks"] m_known_paper := by
  unfold m_known_paper
  exact Df.ofA T.toTy 58 58 sc_known_paper fun cdv A out s H E G hK hr tk hp =>
   (s_cons (s_do (c_f (ok_need_asked T) bd_need_asked hK hr tk (c_cons (c_var (pv 0)) (c_cons (c_var (pv 1)) (c_cons (c_var (pv 2)) c_nil)))))
 (s_cons (s_set (c_f (ok_all_starts T) bd_all_starts hK hr tk (c_cons (c_var (pv 0)) c_nil)) sc_known_paper.nd)
 (s_cons (s_for hp (i_enum (T.free 77) (c_cons (c_var (pv 3)) c_nil)) (g_tup rfl (gs_cons (gs_cons gs_nil sc_known_paper.nd) sc_known_paper.nd))
 (s_one (s_for hp (i_seq (c_sl (c_var (pv 3)) (o_some (c_op o_add (c_var (pv 4)) c_int)) o_none)) (g_name sc_known_paper.nd)
 (s_one (s_if (PW.pt (c_and (c_not (c_val (c_f (ok_are_same_in T) bd_are_same_in hK hr tk (c_cons (c_var (pv 0)) (c_cons (c_var (pv 5)) (c_cons (c_var (pv 6)) c_nil)))))) (c_and1 (c_val (c_f (ok_can_confuse_in T) bd_can_confuse_in hK hr tk (c_cons (c_var (pv 0)) (c_cons (c_var (pv 1)) (c_cons (c_var (pv 5)) (c_cons (c_var (pv 6)) (c_cons (c_var (pv 2)) c_nil))))))))))
 (s_cons (s_if (c_tcmp o_gt (c_var (pv 2)) (c_gint (T.int 99)) rfl)
 (s_one s_never)
 s_nil)
 (s_one (s_ret (c_tup (c_cons (c_gstr (T.str 102)) (c_cons (c_var (pv 5)) (c_cons (c_var (pv 6)) (c_cons (c_f (ok_row_in T) bd_row_in hK hr tk (c_cons (c_var (pv 0)) (c_cons (c_var (pv 1)) (c_cons (c_var (pv 5)) (c_cons (c_var (pv 6)) (c_cons (c_var (pv 2)) c_nil)))))) c_nil)))) (by decide) (aC_len (aC_len (aC_len (aC_len aN_len))))))))
 s_nil)))))
 (s_one (s_ret (c_tup (c_cons (c_gstr (T.str 103)) c_nil) (by decide) (aC_len aN_len)))))))
theorem ok_does_confuse (T : TyL K mg h base fa fn (exL exs)) : Df P w K mg base 4 "does_confuse" st_does_confuse ["book", "loss", "marks", "some"] m_does_confuse := by
  unfold m_does_confuse
  exact Df.ofA T.toTy 59 59 sc_does_confuse fun cdv A out s H E G hK hr tk hp =>
   (s_cons (s_unp (c_var (pv 3)) (g_tup rfl (gs_cons (gs_cons (gs_cons gs_nil sc_does_confuse.nd) sc_does_confuse.nd) sc_does_confuse.nd)))
 (s_cons (s_if (PW.pt (c_or (c_not (c_val (c_f (ok_is_start T) bd_is_start hK hr tk (c_cons (c_var (pv 0)) (c_cons (c_var (pv 4)) c_nil))))) (c_or (c_not (c_val (c_f (ok_is_start T) bd_is_start hK hr tk (c_cons (c_var (pv 0)) (c_cons (c_var (pv 5)) c_nil))))) (c_or (c_tcmp (o_ne hr.r.units) (c_f (ok_heard_fault T) bd_heard_fault hK hr tk (c_cons (c_var (pv 6)) c_nil)) (c_lst c_nil (by decide) aN_len) rfl) (c_or1 (c_tcmp (o_ne hr.r.units) (c_callB b_len (T.free 71) rfl (c_cons (c_var (pv 6)) c_nil)) (c_var (pv 2)) rfl))))))
 (s_one (s_ret c_bl))
 s_nil)
 (s_one (s_ret (c_eand (c_enot (c_f (ok_are_same_in T) bd_are_same_in hK hr tk (c_cons (c_var (pv 0)) (c_cons (c_var (pv 4)) (c_cons (c_var (pv 5)) c_nil))))) (c_eand (c_f (ok_fits T) bd_fits hK hr tk (c_cons (c_var (pv 0)) (c_cons (c_var (pv 1)) (c_cons (c_var (pv 4)) (c_cons (c_var (pv 6)) c_nil))))) (c_eone (c_f (ok_fits T) bd_fits hK hr tk (c_cons (c_var (pv 0)) (c_cons (c_var (pv 1)) (c_cons (c_var (pv 5)) (c_cons (c_var (pv 6)) c_nil))))))))))))
theorem ok_check_known (T : TyL K mg h base fa fn (exL exs)) : Df P w K mg base 6 "check_known" st_check_known ["book", "loss", "marks", "paper"] m_check_known := by
  unfold m_check_known
  exact Df.ofA T.toTy 60 60 sc_check_known fun cdv A out s H E G hK hr tk hp =>
   (s_cons (s_do (c_f (ok_need_asked T) bd_need_asked hK hr tk (c_cons (c_var (pv 0)) (c_cons (c_var (pv 1)) (c_cons (c_var (pv 2)) c_nil)))))
 (s_cons (s_if (PW.pt (c_or (c_not (c_val (c_isi (T := "tuple") (T.free 72) (T.free 75) rfl (c_var (pv 3))))) (c_or (c_tcmp (o_ninT hr.u65) (c_callB b_len (T.free 71) rfl (c_cons (c_var (pv 3)) c_nil)) (c_tup (c_cons c_int (c_cons c_int c_nil)) (by decide) (aC_len (aC_len aN_len))) rfl) (c_or1 (c_not (c_val (c_isi (T := "str") (T.free 72) (T.free 96) rfl (c_ix (c_var (pv 3)) c_int))))))))
 (s_one s_never)
 s_nil)
 (s_cons (s_if (c_tcmp (o_ne hr.r.units) (c_ix (c_var (pv 3)) c_int) (c_if (c_tcmp (o_eq hr.r.units) (c_callB b_len (T.free 71) rfl (c_cons (c_var (pv 3)) c_nil)) c_int rfl) (c_gstr (T.str 103)) (c_gstr (T.str 102))) rfl)
 (s_one s_never)
 s_nil)
 (s_cons (s_set (c_if (c_tcmp (o_eq hr.r.units) (c_callB b_len (T.free 71) rfl (c_cons (c_var (pv 3)) c_nil)) c_int rfl) (c_cmp o_le (c_f (ok_worst_in T) bd_worst_in hK hr tk (c_cons (c_var (pv 0)) (c_cons (c_var (pv 1)) c_nil))) (c_var (pv 2)) rfl) (c_f (ok_does_confuse T) bd_does_confuse hK hr tk (c_cons (c_var (pv 0)) (c_cons (c_var (pv 1)) (c_cons (c_var (pv 2)) (c_cons (c_sl (c_var (pv 3)) (o_some c_int) o_none) c_nil)))))) sc_check_known.nd)
 (s_cons (s_if (c_not (c_val (c_var (pv 4))))
 (s_one s_never)
 s_nil)
 (s_one (s_ret (c_ix (c_var (pv 3)) c_int))))))))
theorem ok_law_losses (T : TyL K mg h base fa fn (exL exs)) : Df P w K mg base 10 "_law_losses" st_law_losses ["_law_book", "_law_loss"] m_law_losses := by
  unfold m_law_losses
  exact Df.ofC T.toTy 61 61 sc_law_losses fun cdv A out s H E G hc hK hr tk hp =>
   k_first (mk := "_law_losses") ⟨hK, T.tb, T.pred 25, hc, by decide, rfl⟩ (e := (eC m_can_confuse (aC (eV 0) (aC (eV 1) (aC (eK .non) (aC (eK .non) (aC (eK .non) aN))))))) (kb := 7) ⟨lamT_by (by kernel_rfl), rfl, fun _ _ _ _ _ _ => rfl, fun A outer s H E f c' hr tk => (c_f (ok_can_confuse T) bd_can_confuse hK hr tk (c_cons (c_var (pv 0)) (c_cons (c_var (pv 1)) (c_cons c_non (c_cons c_non (c_cons c_non c_nil))))))⟩ sc_law_losses.nd rfl (fun _ _ h => callsD_bad h)
   (k_more (mk := "_law_losses") ⟨hK, T.tb, T.pred 25, hc, by decide, rfl⟩ (e := (eC m_longest (aC (eV 0) (aC (eV 1) (aC (eK .non) (aC (eK .non) aN)))))) (kb := 7) ⟨lamT_by (by kernel_rfl), rfl, fun _ _ _ _ _ _ => rfl, fun A outer s H E f c' hr tk => (c_f (ok_longest T) bd_longest hK hr tk (c_cons (c_var (pv 0)) (c_cons (c_var (pv 1)) (c_cons c_non (c_cons c_non c_nil)))))⟩ rfl (by first | exact Or.inl rfl | exact Or.inr (Or.inl rfl)) (by decide) (by decide) (by decide)
   (k_more (mk := "_law_losses") ⟨hK, T.tb, T.pred 25, hc, by decide, rfl⟩ (e := (eC m_confused_row (aC (eV 0) (aC (eV 1) (aC (eK .non) (aC (eK .non) (aC (eK .non) aN))))))) (kb := 7) ⟨lamT_by (by kernel_rfl), rfl, fun _ _ _ _ _ _ => rfl, fun A outer s H E f c' hr tk => (c_f (ok_confused_row T) bd_confused_row hK hr tk (c_cons (c_var (pv 0)) (c_cons (c_var (pv 1)) (c_cons c_non (c_cons c_non (c_cons c_non c_nil))))))⟩ rfl (by first | exact Or.inl rfl | exact Or.inr (Or.inl rfl)) (by decide) (by decide) (by decide)
   (k_more (mk := "_law_losses") ⟨hK, T.tb, T.pred 25, hc, by decide, rfl⟩ (e := (eC m_wait_of (aC (eV 0) (aC (eV 1) (aC (eK .non) aN))))) (kb := 7) ⟨lamT_by (by kernel_rfl), rfl, fun _ _ _ _ _ _ => rfl, fun A outer s H E f c' hr tk => (c_f (ok_wait_of T) bd_wait_of hK hr tk (c_cons (c_var (pv 0)) (c_cons (c_var (pv 1)) (c_cons c_non c_nil))))⟩ rfl (by first | exact Or.inl rfl | exact Or.inr (Or.inl rfl)) (by decide) (by decide) (by decide)
   (k_more (mk := "_law_losses") ⟨hK, T.tb, T.pred 25, hc, by decide, rfl⟩ (e := (eC m_worst_wait (aC (eV 0) (aC (eV 1) aN)))) (kb := 7) ⟨lamT_by (by kernel_rfl), rfl, fun _ _ _ _ _ _ => rfl, fun A outer s H E f c' hr tk => (c_f (ok_worst_wait T) bd_worst_wait hK hr tk (c_cons (c_var (pv 0)) (c_cons (c_var (pv 1)) c_nil)))⟩ rfl (by first | exact Or.inl rfl | exact Or.inr (Or.inl rfl)) (by decide) (by decide) (by decide)
   (k_more (mk := "_law_losses") ⟨hK, T.tb, T.pred 25, hc, by decide, rfl⟩ (e := (eC m_best_starts (aC (eV 0) (aC (eV 1) aN)))) (kb := 7) ⟨lamT_by (by kernel_rfl), rfl, fun _ _ _ _ _ _ => rfl, fun A outer s H E f c' hr tk => (c_f (ok_best_starts T) bd_best_starts hK hr tk (c_cons (c_var (pv 0)) (c_cons (c_var (pv 1)) c_nil)))⟩ rfl (by first | exact Or.inl rfl | exact Or.inr (Or.inl rfl)) (by decide) (by decide) (by decide)
   (k_more (mk := "_law_losses") ⟨hK, T.tb, T.pred 25, hc, by decide, rfl⟩ (e := (eC m_clock_wait (aC (eV 0) (aC (eV 1) (aC (eK .non) aN))))) (kb := 7) ⟨lamT_by (by kernel_rfl), rfl, fun _ _ _ _ _ _ => rfl, fun A outer s H E f c' hr tk => (c_f (ok_clock_wait T) bd_clock_wait hK hr tk (c_cons (c_var (pv 0)) (c_cons (c_var (pv 1)) (c_cons c_non c_nil))))⟩ rfl (by first | exact Or.inl rfl | exact Or.inr (Or.inl rfl)) (by decide) (by decide) (by decide)
   (k_more (mk := "_law_losses") ⟨hK, T.tb, T.pred 25, hc, by decide, rfl⟩ (e := (eC m_fitting (aC (eV 0) (aC (eV 1) (aC (eK .non) aN))))) (kb := 7) ⟨lamT_by (by kernel_rfl), rfl, fun _ _ _ _ _ _ => rfl, fun A outer s H E f c' hr tk => (c_f (ok_fitting T) bd_fitting hK hr tk (c_cons (c_var (pv 0)) (c_cons (c_var (pv 1)) (c_cons c_non c_nil))))⟩ rfl (by first | exact Or.inl rfl | exact Or.inr (Or.inl rfl)) (by decide) (by decide) (by decide)
   (k_more (mk := "_law_losses") ⟨hK, T.tb, T.pred 25, hc, by decide, rfl⟩ (e := (eC m_known_behind (aC (eV 0) (aC (eV 1) (aC (eK .non) aN))))) (kb := 7) ⟨lamT_by (by kernel_rfl), rfl, fun _ _ _ _ _ _ => rfl, fun A outer s H E f c' hr tk => (c_f (ok_known_behind T) bd_known_behind hK hr tk (c_cons (c_var (pv 0)) (c_cons (c_var (pv 1)) (c_cons c_non c_nil))))⟩ rfl (by first | exact Or.inl rfl | exact Or.inr (Or.inl rfl)) (by decide) (by decide) (by decide)
   (k_more (mk := "_law_losses") ⟨hK, T.tb, T.pred 25, hc, by decide, rfl⟩ (e := (eC m_next_strokes (aC (eV 0) (aC (eV 1) (aC (eK .non) aN))))) (kb := 7) ⟨lamT_by (by kernel_rfl), rfl, fun _ _ _ _ _ _ => rfl, fun A outer s H E f c' hr tk => (c_f (ok_next_strokes T) bd_next_strokes hK hr tk (c_cons (c_var (pv 0)) (c_cons (c_var (pv 1)) (c_cons c_non c_nil))))⟩ rfl (by first | exact Or.inl rfl | exact Or.inr (Or.inl rfl)) (by decide) (by decide) (by decide)
   (k_more (mk := "_law_losses") ⟨hK, T.tb, T.pred 25, hc, by decide, rfl⟩ (e := (eC m_may_hear (aC (eV 0) (aC (eV 1) (aC (eK .non) aN))))) (kb := 7) ⟨lamT_by (by kernel_rfl), rfl, fun _ _ _ _ _ _ => rfl, fun A outer s H E f c' hr tk => (c_f (ok_may_hear T) bd_may_hear hK hr tk (c_cons (c_var (pv 0)) (c_cons (c_var (pv 1)) (c_cons c_non c_nil))))⟩ rfl (by first | exact Or.inl rfl | exact Or.inr (Or.inl rfl)) (by decide) (by decide) (by decide)
   (k_more (mk := "_law_losses") ⟨hK, T.tb, T.pred 25, hc, by decide, rfl⟩ (e := (eC m_known_paper (aC (eV 0) (aC (eV 1) (aC (eK .non) aN))))) (kb := 7) ⟨lamT_by (by kernel_rfl), rfl, fun _ _ _ _ _ _ => rfl, fun A outer s H E f c' hr tk => (c_f (ok_known_paper T) bd_known_paper hK hr tk (c_cons (c_var (pv 0)) (c_cons (c_var (pv 1)) (c_cons c_non c_nil))))⟩ rfl (by first | exact Or.inl rfl | exact Or.inr (Or.inl rfl)) (by decide) (by decide) (by decide)
   (k_more (mk := "_law_losses") ⟨hK, T.tb, T.pred 25, hc, by decide, rfl⟩ (e := (eC m_check_known (aC (eV 0) (aC (eV 1) (aC (eK .non) (aC (eK .non) aN)))))) (kb := 7) ⟨lamT_by (by kernel_rfl), rfl, fun _ _ _ _ _ _ => rfl, fun A outer s H E f c' hr tk => (c_f (ok_check_known T) bd_check_known hK hr tk (c_cons (c_var (pv 0)) (c_cons (c_var (pv 1)) (c_cons c_non (c_cons c_non c_nil)))))⟩ rfl (by first | exact Or.inl rfl | exact Or.inr (Or.inl rfl)) (by decide) (by decide) (by decide)
   (k_ret (kb := 7) (ok_law_said T).t (ok_law_said (P := P) (w := w) (base := base) T).mg (ok_law_said (P := P) (w := w) (base := base) T).kp ⟨hK, T.tb, T.pred 25, hc, by decide, rfl⟩ hr rfl sc_law_losses.nd rfl (by first | exact Or.inl rfl | exact Or.inr (Or.inl rfl)) rfl (blkOk_by (own := [("_law_call", 3)]) (by kernel_rfl)) (fun _ _ _ _ _ => pg_name sc_law_losses.nd rfl (.inl rfl) (.inr rfl)) (.inl rfl) (by decide) (by decide) (by decide) (fun _ _ _ _ _ => rfl))))))))))))))
theorem ok_are_same (T : TyL K mg h base fa fn (exL exs)) : Df P w K mg base 5 "are_same" st_are_same ["book", "one", "other"] m_are_same := by
  unfold m_are_same
  exact Df.ofA T.toTy 62 62 sc_are_same fun cdv A out s H E G hK hr tk hp =>
   (s_cons (s_do (c_f (ok_need_book T) bd_need_book hK hr tk (c_cons (c_var (pv 0)) c_nil)))
 (s_cons (s_do (c_f (ok_need_start T) bd_need_start hK hr tk (c_cons (c_var (pv 0)) (c_cons (c_var (pv 1)) c_nil))))
 (s_one (s_ret (c_f (ok_are_same_in T) bd_are_same_in hK hr tk (c_cons (c_var (pv 0)) (c_cons (c_var (pv 1)) (c_cons (c_f (ok_need_start T) bd_need_start hK hr tk (c_cons (c_var (pv 0)) (c_cons (c_var (pv 2)) c_nil))) c_nil))))))))
theorem ok_missed (T : TyL K mg h base fa fn (exL exs)) : Df P w K mg base 5 "missed" st_missed ["book", "start", "heard"] m_missed := by
  unfold m_missed
  exact Df.ofA T.toTy 63 63 sc_missed fun cdv A out s H E G hK hr tk hp =>
   (s_cons (s_do (c_f (ok_need_book T) bd_need_book hK hr tk (c_cons (c_var (pv 0)) c_nil)))
 (s_cons (s_do (c_f (ok_need_start T) bd_need_start hK hr tk (c_cons (c_var (pv 0)) (c_cons (c_var (pv 1)) c_nil))))
 (s_one (s_ret (c_f (ok_missed_in T) bd_missed_in hK hr tk (c_cons (c_var (pv 0)) (c_cons (c_var (pv 1)) (c_cons (c_f (ok_need_heard T) bd_need_heard hK hr tk (c_cons (c_var (pv 2)) c_nil)) c_nil))))))))
theorem ok_law_starts_so (T : TyL K mg h base fa fn (exL exs)) : Df P w K mg base 10 "_law_starts_so" st_law_starts_so ["_law_book", "_law_start"] m_law_starts_so := by
  unfold m_law_starts_so
  exact Df.ofC T.toTy 64 64 sc_law_starts_so fun cdv A out s H E G hc hK hr tk hp =>
   k_first (mk := "_law_starts_so") ⟨hK, T.tb, T.pred 26, hc, by decide, rfl⟩ (e := (eC m_strokes_at (aC (eV 0) (aC (eV 1) (aC (eK .non) aN))))) (kb := 7) ⟨lamT_by (by kernel_rfl), rfl, fun _ _ _ _ _ _ => rfl, fun A outer s H E f c' hr tk => (c_f (ok_strokes_at T) bd_strokes_at hK hr tk (c_cons (c_var (pv 0)) (c_cons (c_var (pv 1)) (c_cons c_non c_nil))))⟩ sc_law_starts_so.nd rfl (fun _ _ h => callsD_bad h)
   (k_more (mk := "_law_starts_so") ⟨hK, T.tb, T.pred 26, hc, by decide, rfl⟩ (e := (eC m_are_same (aC (eV 0) (aC (eV 1) (aC (eK .non) aN))))) (kb := 7) ⟨lamT_by (by kernel_rfl), rfl, fun _ _ _ _ _ _ => rfl, fun A outer s H E f c' hr tk => (c_f (ok_are_same T) bd_are_same hK hr tk (c_cons (c_var (pv 0)) (c_cons (c_var (pv 1)) (c_cons c_non c_nil))))⟩ rfl (by first | exact Or.inl rfl | exact Or.inr (Or.inl rfl)) (by decide) (by decide) (by decide)
   (k_more (mk := "_law_starts_so") ⟨hK, T.tb, T.pred 26, hc, by decide, rfl⟩ (e := (eC m_over (aC (eV 0) (aC (eV 1) (aC (eK .non) (aC (eK .non) aN)))))) (kb := 7) ⟨lamT_by (by kernel_rfl), rfl, fun _ _ _ _ _ _ => rfl, fun A outer s H E f c' hr tk => (c_f (ok_over T) bd_over hK hr tk (c_cons (c_var (pv 0)) (c_cons (c_var (pv 1)) (c_cons c_non (c_cons c_non c_nil)))))⟩ rfl (by first | exact Or.inl rfl | exact Or.inr (Or.inl rfl)) (by decide) (by decide) (by decide)
   (k_more (mk := "_law_starts_so") ⟨hK, T.tb, T.pred 26, hc, by decide, rfl⟩ (e := (eC m_missed (aC (eV 0) (aC (eV 1) (aC (eK .non) aN))))) (kb := 7) ⟨lamT_by (by kernel_rfl), rfl, fun _ _ _ _ _ _ => rfl, fun A outer s H E f c' hr tk => (c_f (ok_missed T) bd_missed hK hr tk (c_cons (c_var (pv 0)) (c_cons (c_var (pv 1)) (c_cons c_non c_nil))))⟩ rfl (by first | exact Or.inl rfl | exact Or.inr (Or.inl rfl)) (by decide) (by decide) (by decide)
   (k_more (mk := "_law_starts_so") ⟨hK, T.tb, T.pred 26, hc, by decide, rfl⟩ (e := (eC m_can_confuse (aC (eV 0) (aC (eTup (aC (eK (.int 0)) (aC (eK (.int 0)) aN))) (aC (eV 1) (aC (eK .non) (aC (eK .non) aN))))))) (kb := 7) ⟨lamT_by (by kernel_rfl), rfl, fun _ _ _ _ _ _ => rfl, fun A outer s H E f c' hr tk => (c_f (ok_can_confuse T) bd_can_confuse hK hr tk (c_cons (c_var (pv 0)) (c_cons (c_tup (c_cons c_int (c_cons c_int c_nil)) (by decide) (aC_len (aC_len aN_len))) (c_cons (c_var (pv 1)) (c_cons c_non (c_cons c_non c_nil))))))⟩ rfl (by first | exact Or.inl rfl | exact Or.inr (Or.inl rfl)) (by decide) (by decide) (by decide)
   (k_more (mk := "_law_starts_so") ⟨hK, T.tb, T.pred 26, hc, by decide, rfl⟩ (e := (eC m_longest (aC (eV 0) (aC (eTup (aC (eK (.int 0)) (aC (eK (.int 0)) aN))) (aC (eV 1) (aC (eK .non) aN)))))) (kb := 7) ⟨lamT_by (by kernel_rfl), rfl, fun _ _ _ _ _ _ => rfl, fun A outer s H E f c' hr tk => (c_f (ok_longest T) bd_longest hK hr tk (c_cons (c_var (pv 0)) (c_cons (c_tup (c_cons c_int (c_cons c_int c_nil)) (by decide) (aC_len (aC_len aN_len))) (c_cons (c_var (pv 1)) (c_cons c_non c_nil)))))⟩ rfl (by first | exact Or.inl rfl | exact Or.inr (Or.inl rfl)) (by decide) (by decide) (by decide)
   (k_more (mk := "_law_starts_so") ⟨hK, T.tb, T.pred 26, hc, by decide, rfl⟩ (e := (eC m_confused_row (aC (eV 0) (aC (eTup (aC (eK (.int 0)) (aC (eK (.int 0)) aN))) (aC (eV 1) (aC (eK .non) (aC (eK .non) aN))))))) (kb := 7) ⟨lamT_by (by kernel_rfl), rfl, fun _ _ _ _ _ _ => rfl, fun A outer s H E f c' hr tk => (c_f (ok_confused_row T) bd_confused_row hK hr tk (c_cons (c_var (pv 0)) (c_cons (c_tup (c_cons c_int (c_cons c_int c_nil)) (by decide) (aC_len (aC_len aN_len))) (c_cons (c_var (pv 1)) (c_cons c_non (c_cons c_non c_nil))))))⟩ rfl (by first | exact Or.inl rfl | exact Or.inr (Or.inl rfl)) (by decide) (by decide) (by decide)
   (k_more (mk := "_law_starts_so") ⟨hK, T.tb, T.pred 26, hc, by decide, rfl⟩ (e := (eC m_wait_of (aC (eV 0) (aC (eTup (aC (eK (.int 0)) (aC (eK (.int 0)) aN))) (aC (eV 1) aN))))) (kb := 7) ⟨lamT_by (by kernel_rfl), rfl, fun _ _ _ _ _ _ => rfl, fun A outer s H E f c' hr tk => (c_f (ok_wait_of T) bd_wait_of hK hr tk (c_cons (c_var (pv 0)) (c_cons (c_tup (c_cons c_int (c_cons c_int c_nil)) (by decide) (aC_len (aC_len aN_len))) (c_cons (c_var (pv 1)) c_nil))))⟩ rfl (by first | exact Or.inl rfl | exact Or.inr (Or.inl rfl)) (by decide) (by decide) (by decide)
   (k_more (mk := "_law_starts_so") ⟨hK, T.tb, T.pred 26, hc, by decide, rfl⟩ (e := (eC m_clock_wait (aC (eV 0) (aC (eTup (aC (eK (.int 0)) (aC (eK (.int 0)) aN))) (aC (eV 1) aN))))) (kb := 7) ⟨lamT_by (by kernel_rfl), rfl, fun _ _ _ _ _ _ => rfl, fun A outer s H E f c' hr tk => (c_f (ok_clock_wait T) bd_clock_wait hK hr tk (c_cons (c_var (pv 0)) (c_cons (c_tup (c_cons c_int (c_cons c_int c_nil)) (by decide) (aC_len (aC_len aN_len))) (c_cons (c_var (pv 1)) c_nil))))⟩ rfl (by first | exact Or.inl rfl | exact Or.inr (Or.inl rfl)) (by decide) (by decide) (by decide)
   (k_ret (kb := 7) (ok_law_said T).t (ok_law_said (P := P) (w := w) (base := base) T).mg (ok_law_said (P := P) (w := w) (base := base) T).kp ⟨hK, T.tb, T.pred 26, hc, by decide, rfl⟩ hr rfl sc_law_starts_so.nd rfl (by first | exact Or.inl rfl | exact Or.inr (Or.inl rfl)) rfl (blkOk_by (own := [("_law_call", 3)]) (by kernel_rfl)) (fun _ _ _ _ _ => pg_name sc_law_starts_so.nd rfl (.inl rfl) (.inr rfl)) (.inl rfl) (by decide) (by decide) (by decide) (fun _ _ _ _ _ => rfl))))))))))
theorem ok_law_clocks (T : TyL K mg h base fa fn (exL exs)) : Df P w K mg base 8 "_law_clocks" st_law_clocks ["_law_book", "_law_odd"] m_law_clocks := by
  unfold m_law_clocks
  exact Df.ofC T.toTy 65 65 sc_law_clocks fun cdv A out s H E G hc hK hr tk hp =>
   k_first (mk := "_law_clocks") ⟨hK, T.tb, T.pred 27, hc, by decide, rfl⟩ (e := (eC m_normal (aC (eV 0) (aC (eV 1) aN)))) (kb := 5) ⟨lamT_by (by kernel_rfl), rfl, fun _ _ _ _ _ _ => rfl, fun A outer s H E f c' hr tk => (c_f (ok_normal T) bd_normal hK hr tk (c_cons (c_var (pv 0)) (c_cons (c_var (pv 1)) c_nil)))⟩ sc_law_clocks.nd rfl (fun _ _ h => callsD_bad h)
   (k_more (mk := "_law_clocks") ⟨hK, T.tb, T.pred 27, hc, by decide, rfl⟩ (e := (eC m_are_alike (aC (eV 0) (aC (eV 1) (aC (eK .non) aN))))) (kb := 5) ⟨lamT_by (by kernel_rfl), rfl, fun _ _ _ _ _ _ => rfl, fun A outer s H E f c' hr tk => (c_f (ok_are_alike T) bd_are_alike hK hr tk (c_cons (c_var (pv 0)) (c_cons (c_var (pv 1)) (c_cons c_non c_nil))))⟩ rfl (by first | exact Or.inl rfl | exact Or.inr (Or.inl rfl)) (by decide) (by decide) (by decide)
   (k_more (mk := "_law_clocks") ⟨hK, T.tb, T.pred 27, hc, by decide, rfl⟩ (e := (eC m_are_alike (aC (eV 0) (aC (eK (.int 0)) (aC (eV 1) aN))))) (kb := 5) ⟨lamT_by (by kernel_rfl), rfl, fun _ _ _ _ _ _ => rfl, fun A outer s H E f c' hr tk => (c_f (ok_are_alike T) bd_are_alike hK hr tk (c_cons (c_var (pv 0)) (c_cons c_int (c_cons (c_var (pv 1)) c_nil))))⟩ rfl (by first | exact Or.inl rfl | exact Or.inr (Or.inl rfl)) (by decide) (by decide) (by decide)
   (k_ret (kb := 5) (ok_law_said T).t (ok_law_said (P := P) (w := w) (base := base) T).mg (ok_law_said (P := P) (w := w) (base := base) T).kp ⟨hK, T.tb, T.pred 27, hc, by decide, rfl⟩ hr rfl sc_law_clocks.nd rfl (by first | exact Or.inl rfl | exact Or.inr (Or.inl rfl)) rfl (blkOk_by (own := [("_law_call", 3)]) (by kernel_rfl)) (fun _ _ _ _ _ => pg_name sc_law_clocks.nd rfl (.inl rfl) (.inr rfl)) (.inl rfl) (by decide) (by decide) (by decide) (fun _ _ _ _ _ => rfl))))
theorem ok_law_seconds (T : TyL K mg h base fa fn (exL exs)) : Df P w K mg base 10 "_law_seconds" st_law_seconds ["_law_book", "_law_start"] m_law_seconds := by
  unfold m_law_seconds
  exact Df.ofC T.toTy 66 66 sc_law_seconds fun cdv A out s H E G hc hK hr tk hp =>
   k_first (mk := "_law_seconds") ⟨hK, T.tb, T.pred 28, hc, by decide, rfl⟩ (e := (eC m_are_same (aC (eV 0) (aC (eTup (aC (eK (.int 0)) (aC (eK (.int 0)) aN))) (aC (eV 1) aN))))) (kb := 7) ⟨lamT_by (by kernel_rfl), rfl, fun _ _ _ _ _ _ => rfl, fun A outer s H E f c' hr tk => (c_f (ok_are_same T) bd_are_same hK hr tk (c_cons (c_var (pv 0)) (c_cons (c_tup (c_cons c_int (c_cons c_int c_nil)) (by decide) (aC_len (aC_len aN_len))) (c_cons (c_var (pv 1)) c_nil))))⟩ sc_law_seconds.nd rfl (fun _ _ h => callsD_bad h)
   (k_more (mk := "_law_seconds") ⟨hK, T.tb, T.pred 28, hc, by decide, rfl⟩ (e := (eC m_over (aC (eV 0) (aC (eTup (aC (eK (.int 0)) (aC (eK (.int 0)) aN))) (aC (eV 1) (aC (eK .non) aN)))))) (kb := 7) ⟨lamT_by (by kernel_rfl), rfl, fun _ _ _ _ _ _ => rfl, fun A outer s H E f c' hr tk => (c_f (ok_over T) bd_over hK hr tk (c_cons (c_var (pv 0)) (c_cons (c_tup (c_cons c_int (c_cons c_int c_nil)) (by decide) (aC_len (aC_len aN_len))) (c_cons (c_var (pv 1)) (c_cons c_non c_nil)))))⟩ rfl (by first | exact Or.inl rfl | exact Or.inr (Or.inl rfl)) (by decide) (by decide) (by decide)
   (k_more (mk := "_law_seconds") ⟨hK, T.tb, T.pred 28, hc, by decide, rfl⟩ (e := (eC m_can_confuse (aC (eV 0) (aC (eTup (aC (eK (.int 0)) (aC (eK (.int 0)) aN))) (aC (eTup (aC (eK (.int 0)) (aC (eK (.int 0)) aN))) (aC (eV 1) (aC (eK .non) aN))))))) (kb := 7) ⟨lamT_by (by kernel_rfl), rfl, fun _ _ _ _ _ _ => rfl, fun A outer s H E f c' hr tk => (c_f (ok_can_confuse T) bd_can_confuse hK hr tk (c_cons (c_var (pv 0)) (c_cons (c_tup (c_cons c_int (c_cons c_int c_nil)) (by decide) (aC_len (aC_len aN_len))) (c_cons (c_tup (c_cons c_int (c_cons c_int c_nil)) (by decide) (aC_len (aC_len aN_len))) (c_cons (c_var (pv 1)) (c_cons c_non c_nil))))))⟩ rfl (by first | exact Or.inl rfl | exact Or.inr (Or.inl rfl)) (by decide) (by decide) (by decide)
   (k_more (mk := "_law_seconds") ⟨hK, T.tb, T.pred 28, hc, by decide, rfl⟩ (e := (eC m_longest (aC (eV 0) (aC (eTup (aC (eK (.int 0)) (aC (eK (.int 0)) aN))) (aC (eTup (aC (eK (.int 0)) (aC (eK (.int 0)) aN))) (aC (eV 1) aN)))))) (kb := 7) ⟨lamT_by (by kernel_rfl), rfl, fun _ _ _ _ _ _ => rfl, fun A outer s H E f c' hr tk => (c_f (ok_longest T) bd_longest hK hr tk (c_cons (c_var (pv 0)) (c_cons (c_tup (c_cons c_int (c_cons c_int c_nil)) (by decide) (aC_len (aC_len aN_len))) (c_cons (c_tup (c_cons c_int (c_cons c_int c_nil)) (by decide) (aC_len (aC_len aN_len))) (c_cons (c_var (pv 1)) c_nil)))))⟩ rfl (by first | exact Or.inl rfl | exact Or.inr (Or.inl rfl)) (by decide) (by decide) (by decide)
   (k_more (mk := "_law_seconds") ⟨hK, T.tb, T.pred 28, hc, by decide, rfl⟩ (e := (eC m_confused_row (aC (eV 0) (aC (eTup (aC (eK (.int 0)) (aC (eK (.int 0)) aN))) (aC (eTup (aC (eK (.int 0)) (aC (eK (.int 0)) aN))) (aC (eV 1) (aC (eK .non) aN))))))) (kb := 7) ⟨lamT_by (by kernel_rfl), rfl, fun _ _ _ _ _ _ => rfl, fun A outer s H E f c' hr tk => (c_f (ok_confused_row T) bd_confused_row hK hr tk (c_cons (c_var (pv 0)) (c_cons (c_tup (c_cons c_int (c_cons c_int c_nil)) (by decide) (aC_len (aC_len aN_len))) (c_cons (c_tup (c_cons c_int (c_cons c_int c_nil)) (by decide) (aC_len (aC_len aN_len))) (c_cons (c_var (pv 1)) (c_cons c_non c_nil))))))⟩ rfl (by first | exact Or.inl rfl | exact Or.inr (Or.inl rfl)) (by decide) (by decide) (by decide)
   (k_ret (kb := 7) (ok_law_said T).t (ok_law_said (P := P) (w := w) (base := base) T).mg (ok_law_said (P := P) (w := w) (base := base) T).kp ⟨hK, T.tb, T.pred 28, hc, by decide, rfl⟩ hr rfl sc_law_seconds.nd rfl (by first | exact Or.inl rfl | exact Or.inr (Or.inl rfl)) rfl (blkOk_by (own := [("_law_call", 3)]) (by kernel_rfl)) (fun _ _ _ _ _ => pg_name sc_law_seconds.nd rfl (.inl rfl) (.inr rfl)) (.inl rfl) (by decide) (by decide) (by decide) (fun _ _ _ _ _ => rfl))))))
theorem ok_heard_text (T : TyL K mg h base fa fn (exL exs)) : Df P w K mg base 5 "heard_text" st_heard_text ["heard"] m_heard_text := by
  unfold m_heard_text
  exact Df.ofA T.toTy 67 67 sc_heard_text fun cdv A out s H E G hK hr tk hp =>
   (s_one (s_ret (c_if (c_tcmp (o_ne hr.r.units) (c_var (pv 0)) (c_tup c_nil (by decide) aN_len) rfl) (c_f (ok_numbers_text T) bd_numbers_text hK hr tk (c_cons (c_f (ok_need_heard T) bd_need_heard hK hr tk (c_cons (c_var (pv 0)) c_nil)) c_nil)) (c_gstr (T.str 104)))))
theorem ok_law_rows (T : TyL K mg h base fa fn (exL exs)) : Df P w K mg base 9 "_law_rows" st_law_rows ["_law_book", "_law_row"] m_law_rows := by
  unfold m_law_rows
  exact Df.ofC T.toTy 68 68 sc_law_rows fun cdv A out s H E G hc hK hr tk hp =>
   k_first (mk := "_law_rows") ⟨hK, T.tb, T.pred 29, hc, by decide, rfl⟩ (e := (eC m_fitting (aC (eV 0) (aC (eTup (aC (eK (.int 0)) (aC (eK (.int 0)) aN))) (aC (eV 1) aN))))) (kb := 6) ⟨lamT_by (by kernel_rfl), rfl, fun _ _ _ _ _ _ => rfl, fun A outer s H E f c' hr tk => (c_f (ok_fitting T) bd_fitting hK hr tk (c_cons (c_var (pv 0)) (c_cons (c_tup (c_cons c_int (c_cons c_int c_nil)) (by decide) (aC_len (aC_len aN_len))) (c_cons (c_var (pv 1)) c_nil))))⟩ sc_law_rows.nd rfl (fun _ _ h => callsD_bad h)
   (k_more (mk := "_law_rows") ⟨hK, T.tb, T.pred 29, hc, by decide, rfl⟩ (e := (eC m_known_behind (aC (eV 0) (aC (eTup (aC (eK (.int 0)) (aC (eK (.int 0)) aN))) (aC (eV 1) aN))))) (kb := 6) ⟨lamT_by (by kernel_rfl), rfl, fun _ _ _ _ _ _ => rfl, fun A outer s H E f c' hr tk => (c_f (ok_known_behind T) bd_known_behind hK hr tk (c_cons (c_var (pv 0)) (c_cons (c_tup (c_cons c_int (c_cons c_int c_nil)) (by decide) (aC_len (aC_len aN_len))) (c_cons (c_var (pv 1)) c_nil))))⟩ rfl (by first | exact Or.inl rfl | exact Or.inr (Or.inl rfl)) (by decide) (by decide) (by decide)
   (k_more (mk := "_law_rows") ⟨hK, T.tb, T.pred 29, hc, by decide, rfl⟩ (e := (eC m_next_strokes (aC (eV 0) (aC (eTup (aC (eK (.int 0)) (aC (eK (.int 0)) aN))) (aC (eV 1) aN))))) (kb := 6) ⟨lamT_by (by kernel_rfl), rfl, fun _ _ _ _ _ _ => rfl, fun A outer s H E f c' hr tk => (c_f (ok_next_strokes T) bd_next_strokes hK hr tk (c_cons (c_var (pv 0)) (c_cons (c_tup (c_cons c_int (c_cons c_int c_nil)) (by decide) (aC_len (aC_len aN_len))) (c_cons (c_var (pv 1)) c_nil))))⟩ rfl (by first | exact Or.inl rfl | exact Or.inr (Or.inl rfl)) (by decide) (by decide) (by decide)
   (k_more (mk := "_law_rows") ⟨hK, T.tb, T.pred 29, hc, by decide, rfl⟩ (e := (eC m_may_hear (aC (eV 0) (aC (eTup (aC (eK (.int 0)) (aC (eK (.int 0)) aN))) (aC (eV 1) aN))))) (kb := 6) ⟨lamT_by (by kernel_rfl), rfl, fun _ _ _ _ _ _ => rfl, fun A outer s H E f c' hr tk => (c_f (ok_may_hear T) bd_may_hear hK hr tk (c_cons (c_var (pv 0)) (c_cons (c_tup (c_cons c_int (c_cons c_int c_nil)) (by decide) (aC_len (aC_len aN_len))) (c_cons (c_var (pv 1)) c_nil))))⟩ rfl (by first | exact Or.inl rfl | exact Or.inr (Or.inl rfl)) (by decide) (by decide) (by decide)
   (k_more (mk := "_law_rows") ⟨hK, T.tb, T.pred 29, hc, by decide, rfl⟩ (e := (eC m_missed (aC (eV 0) (aC (eTup (aC (eK (.int 0)) (aC (eK (.int 0)) aN))) (aC (eV 1) aN))))) (kb := 6) ⟨lamT_by (by kernel_rfl), rfl, fun _ _ _ _ _ _ => rfl, fun A outer s H E f c' hr tk => (c_f (ok_missed T) bd_missed hK hr tk (c_cons (c_var (pv 0)) (c_cons (c_tup (c_cons c_int (c_cons c_int c_nil)) (by decide) (aC_len (aC_len aN_len))) (c_cons (c_var (pv 1)) c_nil))))⟩ rfl (by first | exact Or.inl rfl | exact Or.inr (Or.inl rfl)) (by decide) (by decide) (by decide)
   (k_more (mk := "_law_rows") ⟨hK, T.tb, T.pred 29, hc, by decide, rfl⟩ (e := (eC m_heard_text (aC (eV 1) aN))) (kb := 6) ⟨lamT_by (by kernel_rfl), rfl, fun _ _ _ _ _ _ => rfl, fun A outer s H E f c' hr tk => (c_f (ok_heard_text T) bd_heard_text hK hr tk (c_cons (c_var (pv 1)) c_nil))⟩ rfl (by first | exact Or.inl rfl | exact Or.inr (Or.inl rfl)) (by decide) (by decide) (by decide)
   (k_ret (kb := 6) (ok_law_said T).t (ok_law_said (P := P) (w := w) (base := base) T).mg (ok_law_said (P := P) (w := w) (base := base) T).kp ⟨hK, T.tb, T.pred 29, hc, by decide, rfl⟩ hr rfl sc_law_rows.nd rfl (by first | exact Or.inl rfl | exact Or.inr (Or.inl rfl)) rfl (blkOk_by (own := [("_law_call", 3)]) (by kernel_rfl)) (fun _ _ _ _ _ => pg_name sc_law_rows.nd rfl (.inl rfl) (.inr rfl)) (.inl rfl) (by decide) (by decide) (by decide) (fun _ _ _ _ _ => rfl)))))))
theorem ok_law_marks (T : TyL K mg h base fa fn (exL exs)) : Df P w K mg base 10 "_law_marks" st_law_marks ["_law_book", "_law_marks_here"] m_law_marks := by
  unfold m_law_marks
  exact Df.ofC T.toTy 69 69 sc_law_marks fun cdv A out s H E G hc hK hr tk hp =>
   k_first (mk := "_law_marks") ⟨hK, T.tb, T.pred 30, hc, by decide, rfl⟩ (e := (eC m_strokes_at (aC (eV 0) (aC (eTup (aC (eK (.int 0)) (aC (eK (.int 0)) aN))) (aC (eV 1) aN))))) (kb := 7) ⟨lamT_by (by kernel_rfl), rfl, fun _ _ _ _ _ _ => rfl, fun A outer s H E f c' hr tk => (c_f (ok_strokes_at T) bd_strokes_at hK hr tk (c_cons (c_var (pv 0)) (c_cons (c_tup (c_cons c_int (c_cons c_int c_nil)) (by decide) (aC_len (aC_len aN_len))) (c_cons (c_var (pv 1)) c_nil))))⟩ sc_law_marks.nd rfl (fun _ _ h => callsD_bad h)
   (k_more (mk := "_law_marks") ⟨hK, T.tb, T.pred 30, hc, by decide, rfl⟩ (e := (eC m_over (aC (eV 0) (aC (eTup (aC (eK (.int 0)) (aC (eK (.int 0)) aN))) (aC (eTup (aC (eK (.int 0)) (aC (eK (.int 1)) aN))) (aC (eV 1) aN)))))) (kb := 7) ⟨lamT_by (by kernel_rfl), rfl, fun _ _ _ _ _ _ => rfl, fun A outer s H E f c' hr tk => (c_f (ok_over T) bd_over hK hr tk (c_cons (c_var (pv 0)) (c_cons (c_tup (c_cons c_int (c_cons c_int c_nil)) (by decide) (aC_len (aC_len aN_len))) (c_cons (c_tup (c_cons c_int (c_cons c_int c_nil)) (by decide) (aC_len (aC_len aN_len))) (c_cons (c_var (pv 1)) c_nil)))))⟩ rfl (by first | exact Or.inl rfl | exact Or.inr (Or.inl rfl)) (by decide) (by decide) (by decide)
   (k_more (mk := "_law_marks") ⟨hK, T.tb, T.pred 30, hc, by decide, rfl⟩ (e := (eC m_can_confuse (aC (eV 0) (aC (eTup (aC (eK (.int 0)) (aC (eK (.int 0)) aN))) (aC (eTup (aC (eK (.int 0)) (aC (eK (.int 0)) aN))) (aC (eTup (aC (eK (.int 0)) (aC (eK (.int 1)) aN))) (aC (eV 1) aN))))))) (kb := 7) ⟨lamT_by (by kernel_rfl), rfl, fun _ _ _ _ _ _ => rfl, fun A outer s H E f c' hr tk => (c_f (ok_can_confuse T) bd_can_confuse hK hr tk (c_cons (c_var (pv 0)) (c_cons (c_tup (c_cons c_int (c_cons c_int c_nil)) (by decide) (aC_len (aC_len aN_len))) (c_cons (c_tup (c_cons c_int (c_cons c_int c_nil)) (by decide) (aC_len (aC_len aN_len))) (c_cons (c_tup (c_cons c_int (c_cons c_int c_nil)) (by decide) (aC_len (aC_len aN_len))) (c_cons (c_var (pv 1)) c_nil))))))⟩ rfl (by first | exact Or.inl rfl | exact Or.inr (Or.inl rfl)) (by decide) (by decide) (by decide)
   (k_more (mk := "_law_marks") ⟨hK, T.tb, T.pred 30, hc, by decide, rfl⟩ (e := (eC m_confused_row (aC (eV 0) (aC (eTup (aC (eK (.int 0)) (aC (eK (.int 0)) aN))) (aC (eTup (aC (eK (.int 0)) (aC (eK (.int 0)) aN))) (aC (eTup (aC (eK (.int 0)) (aC (eK (.int 1)) aN))) (aC (eV 1) aN))))))) (kb := 7) ⟨lamT_by (by kernel_rfl), rfl, fun _ _ _ _ _ _ => rfl, fun A outer s H E f c' hr tk => (c_f (ok_confused_row T) bd_confused_row hK hr tk (c_cons (c_var (pv 0)) (c_cons (c_tup (c_cons c_int (c_cons c_int c_nil)) (by decide) (aC_len (aC_len aN_len))) (c_cons (c_tup (c_cons c_int (c_cons c_int c_nil)) (by decide) (aC_len (aC_len aN_len))) (c_cons (c_tup (c_cons c_int (c_cons c_int c_nil)) (by decide) (aC_len (aC_len aN_len))) (c_cons (c_var (pv 1)) c_nil))))))⟩ rfl (by first | exact Or.inl rfl | exact Or.inr (Or.inl rfl)) (by decide) (by decide) (by decide)
   (k_more (mk := "_law_marks") ⟨hK, T.tb, T.pred 30, hc, by decide, rfl⟩ (e := (eC m_tolerance (aC (eV 0) (aC (eV 1) aN)))) (kb := 7) ⟨lamT_by (by kernel_rfl), rfl, fun _ _ _ _ _ _ => rfl, fun A outer s H E f c' hr tk => (c_f (ok_tolerance T) bd_tolerance hK hr tk (c_cons (c_var (pv 0)) (c_cons (c_var (pv 1)) c_nil)))⟩ rfl (by first | exact Or.inl rfl | exact Or.inr (Or.inl rfl)) (by decide) (by decide) (by decide)
   (k_more (mk := "_law_marks") ⟨hK, T.tb, T.pred 30, hc, by decide, rfl⟩ (e := (eC m_known_paper (aC (eV 0) (aC (eTup (aC (eK (.int 0)) (aC (eK (.int 0)) aN))) (aC (eV 1) aN))))) (kb := 7) ⟨lamT_by (by kernel_rfl), rfl, fun _ _ _ _ _ _ => rfl, fun A outer s H E f c' hr tk => (c_f (ok_known_paper T) bd_known_paper hK hr tk (c_cons (c_var (pv 0)) (c_cons (c_tup (c_cons c_int (c_cons c_int c_nil)) (by decide) (aC_len (aC_len aN_len))) (c_cons (c_var (pv 1)) c_nil))))⟩ rfl (by first | exact Or.inl rfl | exact Or.inr (Or.inl rfl)) (by decide) (by decide) (by decide)
   (k_more (mk := "_law_marks") ⟨hK, T.tb, T.pred 30, hc, by decide, rfl⟩ (e := (eC m_check_known (aC (eV 0) (aC (eTup (aC (eK (.int 0)) (aC (eK (.int 0)) aN))) (aC (eV 1) (aC (eK .non) aN)))))) (kb := 7) ⟨lamT_by (by kernel_rfl), rfl, fun _ _ _ _ _ _ => rfl, fun A outer s H E f c' hr tk => (c_f (ok_check_known T) bd_check_known hK hr tk (c_cons (c_var (pv 0)) (c_cons (c_tup (c_cons c_int (c_cons c_int c_nil)) (by decide) (aC_len (aC_len aN_len))) (c_cons (c_var (pv 1)) (c_cons c_non c_nil)))))⟩ rfl (by first | exact Or.inl rfl | exact Or.inr (Or.inl rfl)) (by decide) (by decide) (by decide)
   (k_ret (kb := 7) (ok_law_said T).t (ok_law_said (P := P) (w := w) (base := base) T).mg (ok_law_said (P := P) (w := w) (base := base) T).kp ⟨hK, T.tb, T.pred 30, hc, by decide, rfl⟩ hr rfl sc_law_marks.nd rfl (by first | exact Or.inl rfl | exact Or.inr (Or.inl rfl)) rfl (blkOk_by (own := [("_law_call", 3)]) (by kernel_rfl)) (fun _ _ _ _ _ => pg_name sc_law_marks.nd rfl (.inl rfl) (.inr rfl)) (.inl rfl) (by decide) (by decide) (by decide) (fun _ _ _ _ _ => rfl))))))))
theorem ok_law (T : TyL K mg h base fa fn (exL exs)) : Df P w K mg base 11 "law" st_law ["_law_script"] m_law := by
  unfold m_law m_law_f1
  exact Df.ofA T.toTy 70 70 sc_law fun cdv A out s H E G hK hr tk hp =>
   (s_cons (s_set (c_f (ok_law_begin T) bd_law_begin hK hr tk (c_cons (c_var (pv 0)) c_nil)) sc_law.nd)
 (s_cons (s_set (c_tup (c_cons (c_tup (c_cons c_int (c_cons c_int c_nil)) (by decide) (aC_len (aC_len aN_len))) (c_cons (c_tup (c_cons c_int c_nil) (by decide) (aC_len aN_len)) c_nil)) (by decide) (aC_len (aC_len aN_len))) sc_law.nd)
 (s_cons (s_for hp (i_rng1 (T.free 85) (c_cons c_int c_nil)) (g_name sc_law.nd)
 (s_cons (s_set (c_lst (c_cons (c_tup (c_cons c_non (c_cons (c_tup c_nil (by decide) aN_len) c_nil)) (by decide) (aC_len (aC_len aN_len))) (c_cons (c_tup (c_cons (c_tup c_nil (by decide) aN_len) (c_cons (c_tup c_nil (by decide) aN_len) c_nil)) (by decide) (aC_len (aC_len aN_len))) (c_cons (c_tup (c_cons (c_lst (c_cons (c_tup (c_cons c_int c_nil) (by decide) (aC_len aN_len)) c_nil) (by decide) (aC_len aN_len)) (c_cons (c_tup c_nil (by decide) aN_len) c_nil)) (by decide) (aC_len (aC_len aN_len))) (c_cons (c_tup (c_cons (c_tup (c_cons (c_tup (c_cons c_int (c_cons c_int c_nil)) (by decide) (aC_len (aC_len aN_len))) (c_cons c_int c_nil)) (by decide) (aC_len (aC_len aN_len))) (c_cons (c_tup (c_cons c_int c_nil) (by decide) (aC_len aN_len)) c_nil)) (by decide) (aC_len (aC_len aN_len))) (c_cons (c_tup (c_cons (c_tup (c_cons (c_tup c_nil (by decide) aN_len) (c_cons c_non c_nil)) (by decide) (aC_len (aC_len aN_len))) (c_cons (c_tup (c_cons c_int c_nil) (by decide) (aC_len aN_len)) c_nil)) (by decide) (aC_len (aC_len aN_len))) c_nil))))) (by decide) (aC_len (aC_len (aC_len (aC_len (aC_len aN_len)))))) sc_law.nd)
 (s_cons (s_unp (c_f (ok_law_pick T) bd_law_pick hK hr tk (c_cons (c_var (pv 1)) (c_cons (c_op o_add (c_var (pv 6)) (c_lst (c_cons (c_tup (c_cons (c_tup (c_cons (c_tup (c_cons c_int (c_cons c_int c_nil)) (by decide) (aC_len (aC_len aN_len))) (c_cons (c_tup c_nil (by decide) aN_len) c_nil)) (by decide) (aC_len (aC_len aN_len))) (c_cons (c_tup (c_cons c_int (c_cons c_int c_nil)) (by decide) (aC_len (aC_len aN_len))) c_nil)) (by decide) (aC_len (aC_len aN_len))) c_nil) (by decide) (aC_len aN_len))) c_nil))) (g_tup rfl (gs_cons (gs_cons gs_nil sc_law.nd) sc_law.nd)))
 (s_cons (s_set (c_op o_add (c_op o_add (c_f (ok_law_losses T) bd_law_losses hK hr tk (c_cons (c_var (pv 8)) (c_cons c_non c_nil))) (c_f (ok_law_starts_so T) bd_law_starts_so hK hr tk (c_cons (c_var (pv 8)) (c_cons c_non c_nil)))) (c_f (ok_law_books T) bd_law_books hK hr tk (c_cons (c_var (pv 8)) c_nil))) sc_law.nd)
 (s_cons (s_if (c_tcmp (o_ne hr.r.units) (c_callB (b_repr hr) (T.free 105) rfl (c_cons (c_var (pv 5)) c_nil)) (c_callB (b_repr hr) (T.free 105) rfl (c_cons (c_op o_mul (c_lst (c_cons (c_tup (c_cons c_str (c_cons (c_var (pv 9)) c_nil)) (by decide) (aC_len (aC_len aN_len))) c_nil) (by decide) (aC_len aN_len)) c_int) c_nil)) rfl)
 (s_one (s_ret c_bl))
 s_nil)
 (s_cons (s_set (c_lst (c_cons (c_tup (c_cons c_non (c_cons c_str c_nil)) (by decide) (aC_len (aC_len aN_len))) (c_cons (c_tup (c_cons (c_tup (c_cons c_int c_nil) (by decide) (aC_len aN_len)) (c_cons c_str c_nil)) (by decide) (aC_len (aC_len aN_len))) (c_cons (c_tup (c_cons (c_lst (c_cons c_int (c_cons c_int c_nil)) (by decide) (aC_len (aC_len aN_len))) (c_cons c_str c_nil)) (by decide) (aC_len (aC_len aN_len))) c_nil))) (by decide) (aC_len (aC_len (aC_len aN_len)))) sc_law.nd)
 (s_cons (s_set (c_op o_add (c_var (pv 6)) (c_lst (c_cons (c_tup (c_cons (c_tup (c_cons (c_neg c_int) (c_cons c_non c_nil)) (by decide) (aC_len (aC_len aN_len))) (c_cons c_str c_nil)) (by decide) (aC_len (aC_len aN_len))) (c_cons (c_tup (c_cons (c_tup (c_cons c_int (c_cons c_bl c_nil)) (by decide) (aC_len (aC_len aN_len))) (c_cons c_str c_nil)) (by decide) (aC_len (aC_len aN_len))) c_nil)) (by decide) (aC_len (aC_len aN_len)))) sc_law.nd)
 (s_cons (s_unp (c_f (ok_law_pick T) bd_law_pick hK hr tk (c_cons (c_var (pv 1)) (c_cons (c_op o_add (c_var (pv 6)) (c_lst (c_cons (c_tup (c_cons (c_tup (c_cons c_int (c_cons (c_op o_add (c_op o_pow c_int c_int) c_int) c_nil)) (by decide) (aC_len (aC_len aN_len))) (c_cons c_str c_nil)) (by decide) (aC_len (aC_len aN_len))) c_nil) (by decide) (aC_len aN_len))) c_nil))) (g_tup rfl (gs_cons (gs_cons gs_nil sc_law.nd) sc_law.nd)))
 (s_cons (s_if (c_tcmp (o_ne hr.r.units) (c_callB (b_repr hr) (T.free 105) rfl (c_cons (c_op o_mul (c_f (ok_law_losses T) bd_law_losses hK hr tk (c_cons (c_var (pv 2)) (c_cons (c_var (pv 8)) c_nil))) c_int) c_nil)) (c_callB (b_repr hr) (T.free 105) rfl (c_cons (c_op o_mul (c_lst (c_cons (c_tup (c_cons c_str (c_cons (c_var (pv 10)) c_nil)) (by decide) (aC_len (aC_len aN_len))) c_nil) (by decide) (aC_len aN_len)) c_int) c_nil)) rfl)
 (s_one (s_ret c_bl))
 s_nil)
 (s_cons (s_set (c_f (ok_law_pick T) bd_law_pick hK hr tk (c_cons (c_var (pv 1)) (c_cons (c_lst (c_cons c_non (c_cons c_int (c_cons (c_tup (c_cons c_int c_nil) (by decide) (aC_len aN_len)) (c_cons (c_lst (c_cons c_int (c_cons c_int c_nil)) (by decide) (aC_len (aC_len aN_len))) (c_cons (c_tup (c_cons c_int (c_cons c_int c_nil)) (by decide) (aC_len (aC_len aN_len))) (c_cons (c_tup (c_cons c_int (c_cons c_int c_nil)) (by decide) (aC_len (aC_len aN_len))) (c_cons (c_tup (c_cons c_int (c_cons c_int c_nil)) (by decide) (aC_len (aC_len aN_len))) (c_cons (c_tup (c_cons c_bl (c_cons c_int c_nil)) (by decide) (aC_len (aC_len aN_len))) (c_cons (c_tup (c_cons c_int (c_cons (c_neg c_int) c_nil)) (by decide) (aC_len (aC_len aN_len))) (c_cons c_str c_nil)))))))))) (by decide) (aC_len (aC_len (aC_len (aC_len (aC_len (aC_len (aC_len (aC_len (aC_len (aC_len aN_len))))))))))) c_nil))) sc_law.nd)
 (s_cons (s_if (c_tcmp (o_ne hr.r.units) (c_callB (b_repr hr) (T.free 105) rfl (c_cons (c_op o_add (c_f (ok_law_starts_so T) bd_law_starts_so hK hr tk (c_cons (c_var (pv 2)) (c_cons (c_var (pv 7)) c_nil))) (c_f (ok_law_seconds T) bd_law_seconds hK hr tk (c_cons (c_var (pv 2)) (c_cons (c_var (pv 7)) c_nil)))) c_nil)) (c_callB (b_repr hr) (T.free 105) rfl (c_cons (c_op o_mul (c_lst (c_cons (c_tup (c_cons c_str (c_cons (c_var (pv 7)) c_nil)) (by decide) (aC_len (aC_len aN_len))) c_nil) (by decide) (aC_len aN_len)) c_int) c_nil)) rfl)
 (s_one (s_ret c_bl))
 s_nil)
 (s_cons (s_set (c_f (ok_law_pick T) bd_law_pick hK hr tk (c_cons (c_var (pv 1)) (c_cons (c_lst (c_cons c_non (c_cons c_int (c_cons (c_lst (c_cons c_int c_nil) (by decide) (aC_len aN_len)) (c_cons (c_tup (c_cons c_int (c_cons (c_neg c_int) c_nil)) (by decide) (aC_len (aC_len aN_len))) (c_cons (c_tup (c_cons c_int (c_cons c_bl c_nil)) (by decide) (aC_len (aC_len aN_len))) (c_cons (c_tup (c_cons c_int (c_cons c_str c_nil)) (by decide) (aC_len (aC_len aN_len))) (c_cons (c_tup (c_cons c_int (c_cons (c_op o_add (c_op o_pow c_int c_int) c_int) c_nil)) (by decide) (aC_len (aC_len aN_len))) c_nil))))))) (by decide) (aC_len (aC_len (aC_len (aC_len (aC_len (aC_len (aC_len aN_len)))))))) c_nil))) sc_law.nd)
 (s_cons (s_if (c_tcmp (o_ne hr.r.units) (c_callB (b_repr hr) (T.free 105) rfl (c_cons (c_op o_mul (c_f (ok_law_rows T) bd_law_rows hK hr tk (c_cons (c_var (pv 2)) (c_cons (c_var (pv 7)) c_nil))) c_int) c_nil)) (c_callB (b_repr hr) (T.free 105) rfl (c_cons (c_op o_mul (c_lst (c_cons (c_tup (c_cons c_str (c_cons (c_if (c_val (c_isi (T := "tuple") (T.free 72) (T.free 75) rfl (c_var (pv 7)))) c_int c_non) c_nil)) (by decide) (aC_len (aC_len aN_len))) c_nil) (by decide) (aC_len aN_len)) c_int) c_nil)) rfl)
 (s_one (s_ret c_bl))
 s_nil)
 (s_cons (s_set (c_f (ok_law_pick T) bd_law_pick hK hr tk (c_cons (c_var (pv 1)) (c_cons (c_lst (c_cons c_non (c_cons (c_neg c_int) (c_cons c_bl (c_cons c_str (c_cons (c_tup (c_cons c_int c_nil) (by decide) (aC_len aN_len)) (c_cons (c_lst c_nil (by decide) aN_len) (c_cons (c_op o_add (c_op o_pow c_int c_int) c_int) c_nil))))))) (by decide) (aC_len (aC_len (aC_len (aC_len (aC_len (aC_len (aC_len aN_len)))))))) c_nil))) sc_law.nd)
 (s_cons (s_if (c_tcmp (o_ne hr.r.units) (c_callB (b_repr hr) (T.free 105) rfl (c_cons (c_op o_mul (c_f (ok_law_marks T) bd_law_marks hK hr tk (c_cons (c_var (pv 2)) (c_cons (c_var (pv 7)) c_nil))) c_int) c_nil)) (c_callB (b_repr hr) (T.free 105) rfl (c_cons (c_op o_mul (c_lst (c_cons (c_tup (c_cons c_str (c_cons (c_var (pv 7)) c_nil)) (by decide) (aC_len (aC_len aN_len))) c_nil) (by decide) (aC_len aN_len)) c_int) c_nil)) rfl)
 (s_one (s_ret c_bl))
 s_nil)
 (s_cons (s_set (c_f (ok_law_pick T) bd_law_pick hK hr tk (c_cons (c_var (pv 1)) (c_cons (c_lst (c_cons c_non (c_cons (c_neg c_int) (c_cons c_int (c_cons c_bl (c_cons c_str (c_cons (c_tup (c_cons c_int c_nil) (by decide) (aC_len aN_len)) (c_cons (c_op o_pow c_int c_int) c_nil))))))) (by decide) (aC_len (aC_len (aC_len (aC_len (aC_len (aC_len (aC_len aN_len)))))))) c_nil))) sc_law.nd)
 (s_one (s_if (c_tcmp (o_ne hr.r.units) (c_callB (b_repr hr) (T.free 105) rfl (c_cons (c_f (ok_law_clocks T) bd_law_clocks hK hr tk (c_cons (c_var (pv 2)) (c_cons (c_var (pv 7)) c_nil))) c_nil)) (c_callB (b_repr hr) (T.free 105) rfl (c_cons (c_op o_mul (c_lst (c_cons (c_tup (c_cons c_str (c_cons (c_var (pv 7)) c_nil)) (by decide) (aC_len (aC_len aN_len))) c_nil) (by decide) (aC_len aN_len)) c_int) c_nil)) rfl)
 (s_one (s_ret c_bl))
 s_nil))))))))))))))))))
 (s_cons (s_set (c_op o_pow c_int c_int) sc_law.nd)
 (s_cons (s_set (c_lst (c_cons (c_f (ok_strokes_at T) bd_strokes_at hK hr tk (c_cons (c_var (pv 2)) (c_cons (c_tup (c_cons c_int (c_cons c_int c_nil)) (by decide) (aC_len (aC_len aN_len))) (c_cons (c_var (pv 4)) c_nil)))) (c_cons (c_f (ok_over T) bd_over hK hr tk (c_cons (c_var (pv 2)) (c_cons (c_tup (c_cons c_int (c_cons c_int c_nil)) (by decide) (aC_len (aC_len aN_len))) (c_cons (c_tup (c_cons c_int (c_cons c_int c_nil)) (by decide) (aC_len (aC_len aN_len))) (c_cons (c_var (pv 4)) c_nil))))) c_nil)) (by decide) (aC_len (aC_len aN_len))) sc_law.nd)
 (s_cons (s_set (c_op o_add (c_var (pv 5)) (c_lst (c_cons (c_f (ok_tolerance T) bd_tolerance hK hr tk (c_cons (c_var (pv 2)) (c_cons c_int c_nil))) (c_cons (c_f (ok_normal T) bd_normal hK hr tk (c_cons (c_var (pv 2)) (c_cons c_int c_nil))) c_nil)) (by decide) (aC_len (aC_len aN_len)))) sc_law.nd)
 (s_cons (s_if (c_tcmp (o_ne hr.r.units) (c_var (pv 5)) (c_lst (c_cons c_int (c_cons (c_op o_fdiv (c_op o_mul c_int (c_var (pv 4))) c_int) (c_cons (c_neg c_int) (c_cons (c_tup (c_cons c_int c_nil) (by decide) (aC_len aN_len)) c_nil)))) (by decide) (aC_len (aC_len (aC_len (aC_len aN_len))))) rfl)
 (s_one (s_ret c_bl))
 s_nil)
 (s_cons (s_if (c_tcmp (o_ne hr.r.units) (c_f (ok_fitting T) bd_fitting hK hr tk (c_cons (c_var (pv 2)) (c_cons (c_tup (c_cons (c_var (pv 4)) (c_cons (c_var (pv 4)) c_nil)) (by decide) (aC_len (aC_len aN_len))) (c_cons (c_tup (c_cons (c_var (pv 4)) c_nil) (by decide) (aC_len aN_len)) c_nil)))) (c_tup (c_cons (c_tup (c_cons c_int (c_cons c_int c_nil)) (by decide) (aC_len (aC_len aN_len))) (c_cons (c_tup (c_cons c_int (c_cons c_int c_nil)) (by decide) (aC_len (aC_len aN_len))) (c_cons (c_tup (c_cons c_int (c_cons c_int c_nil)) (by decide) (aC_len (aC_len aN_len))) c_nil))) (by decide) (aC_len (aC_len (aC_len aN_len)))) rfl)
 (s_one (s_ret c_bl))
 s_nil)
 (s_one (s_ret (c_cmp (o_eq hr.r.units) (c_f (ok_longest T) bd_longest hK hr tk (c_cons (c_var (pv 2)) (c_cons (c_tup (c_cons (c_var (pv 4)) (c_cons (c_var (pv 4)) c_nil)) (by decide) (aC_len (aC_len aN_len))) (c_cons (c_tup (c_cons c_int (c_cons c_int c_nil)) (by decide) (aC_len (aC_len aN_len))) (c_cons (c_tup (c_cons c_int (c_cons c_int c_nil)) (by decide) (aC_len (aC_len aN_len))) c_nil))))) (c_op o_add (c_op o_mul c_int (c_op o_fdiv (c_op o_mul c_int (c_var (pv 4))) c_int)) c_int) rfl)))))))))))
end
end Sk

/-! ### the end -/
namespace Sk
open PySem PySem.Spec PyProof.Rows L2
theorem law_facts {P : Program} {w : World} {K : PySem.W.Frag} {h : Heap} {mg : Str → Option Value} {f : Addr} (X : K.In h) (G : h.Ns mainGlobals mg) (hfa : mg ("law" : Str) = some (.ref f)) (c : SaysA fa fn (exL exs) K) :
    ∃ fd : FuncData, (∀ (s : Shared) (v : Value), BindsTo s fd ⟨[v], []⟩ [("_law_script", v)]) ∧ ∀ base : Heap, K.In base → base.Ns mainGlobals mg → TbOk K mg base → FnG P w K mg base 11 f fd ["_law_script"] (spOf K m_law) := by
  have T0 : Ty K mg h fa fn (exL exs) := ⟨X, G, c⟩
  have e := hfa.symm.trans (T0.glo 70 (x := "law") rfl)
  cases e
  obtain ⟨fd, F⟩ := c.def_ 70 (d := dOfA "law" st_law) rfl
  have b := FunD.bindsA (ps := ["_law_script"]) F bd_law
  refine ⟨fd, fun s v => b s [v] rfl, fun base _ _ tbo => ?_⟩
  have T : TyL K mg h base fa fn (exL exs) := ⟨T0, tbo⟩
  obtain ⟨fd2, F2, G2⟩ := (ok_law (P := P) (w := w) (base := base) T).ex
  have e2 : fd2 = fd := fd_eq F2 F
  subst e2
  exact G2
end Sk
open PySem PySem.W PySem.Calls PyProof.Rows
theorem PySem.Challenge.cw_strokesheard_k21_refused_at_each_door_holds : PySem.Challenge.rw_strokesheard_k21_refused_at_each_door.Holds := by
  w_on; o_law
  refine HandSHeadRun.head_any (r := OpenLaw.row PySem.Challenge.rw_strokesheard_k21_refused_at_each_door) (q := view (OpenLaw.row PySem.Challenge.rw_strokesheard_k21_refused_at_each_door).prog [99]) (H := Sk.hk) (ob := Sk.ob) (M := 20000) (loose := Sk.loose) (d := HandSHeadRun.topDef (OpenLaw.row PySem.Challenge.rw_strokesheard_k21_refused_at_each_door).prog 99) (kwd := []) Sk.ob_eq
    (by kernel_rfl) (fun s => by kernel_rfl) Sk.run (by kernel_rfl) (by kernel_rfl) (by kernel_rfl) (by rfl) (by first | assumption | decide +kernel) (by decide +kernel) ⟨rfl, rfl, rfl, rfl, rfl, by decide +kernel⟩ ?hw ?hc
  case hw => w_witness2
  case hc =>
    refine Sk.walk_law (l := PySem.Challenge.rw_strokesheard_k21_refused_at_each_door) (n := 63) (k := 11) (x := "_law_script") rfl (by decide) (by kernel_rfl) ⟨⟨rfl, by decide, by decide⟩, rfl⟩ ?F
    intro w mg fa h Y G hmg0
    obtain ⟨K, KX, c, hT⟩ := Y
    have nl := c.noL
    have hmg : mg ("law" : PySem.Str) = some (.ref fa) := by
      have e : (HandSHeadRun.topDef (OpenLaw.row PySem.Challenge.rw_strokesheard_k21_refused_at_each_door).prog 99).name = ("law" : PySem.Str) := by kernel_rfl
      rw [← e]
      exact hmg0
    obtain ⟨fd, hb, hF⟩ := Sk.law_facts (P := (PySem.Challenge.rw_strokesheard_k21_refused_at_each_door).prog) (w := w) KX G hmg c
    exact ⟨K, fd, Sk.spOf K Sk.m_law, KX, nl, hT, hb, fun H a ns o hl hS ht => Sk.law_sp Sk.lawful ⟨a, ns, o, rfl, hS, hl, ht, fun _ => rfl⟩, hF⟩

