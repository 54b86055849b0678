import PyProof.Rows.All
import Wide.All
import OpenK.AllK
import Wide.FinOn
import HandS.ForMost
import HandS.Evl
import HandS.Star
import HandS.Lambda
import HandS.ClsMeth
import HandS.TupAny
import HandS.Wide
import HandS.Style
import HandS.Conv
import HandS.Defaults
import HandS.IsInst
import HandS.Deep
import HandS.SortInts
import HandS.FStr
import HandS.DictComp
import PySem.Challenge.RW_copyvotes_k65_whole_all_families
import HandS.Head0
import HandS.Head1
import HandS.Head2
import HandS.HeadEnd
import HandS.HeadHook1
import HandS.HeadHook2
import HandS.HeadHook3
import HandS.HeadHook4
import HandS.EndTab
import KE.GoesMore
import PyProof.Draws
import PyProof.EnumMake
import PyProof.Rows.SortShellAny
import HandS.DeepEq
import KE.SortKeyHeap
import KE.SortData
import KE.KSortKey
import PyProof.Runs
import PyProof.GenQ
import HandS.GenList
import PyProof.ReprBulk
import PyProof.Rows.StrMeet
import HandS.EndBits
set_option Elab.async false
set_option linter.all false
set_option maxRecDepth 100000
section
/-! Kb1: data that values denote, heap pairs, environments; evaluation of readings without heaps. -/
namespace Kb
open PySem PySem.Spec PyProof.Rows L2
abbrev Ex := Evl.Ex

/-- a datum: what a value is at a heap; kept while the heap grows -/
structure D where
  p : V → Hp → Prop
  mono : ∀ {v : V} {H H' : Hp}, Ex H H' → p v H → p v H'
abbrev Dn (ds : List D) (vs : List V) (H : Hp) : Prop := Paired (fun (d : D) (v : V) => d.p v H) ds vs
theorem Dn.mono {H H' : Hp} (e : Ex H H') : ∀ {ds : List D} {vs : List V}, Dn ds vs H → Dn ds vs H'
  | _, _, .nil => .nil
  | d :: _, _, .cons a r => .cons (d.mono e a) (Dn.mono e r)
theorem Dn.len {H : Hp} {ds : List D} {vs : List V} (h : Dn ds vs H) : ds.length = vs.length := Paired.length h
theorem Dn.at_ {H : Hp} : ∀ {ds : List D} {vs : List V} {i : Nat} {v : V}, Dn ds vs H → vs[i]? = some v → ∃ d, ds[i]? = some d ∧ d.p v H
  | _, _, _, _, .nil, e => by simp at e
  | _, _, 0, _, .cons a _, e => by simp at e; subst e; exact ⟨_, rfl, a⟩
  | _, _, i + 1, v, .cons _ r, e => by
    obtain ⟨d, h1, h2⟩ := Dn.at_ (i := i) (v := v) r (by simpa using e)
    exact ⟨d, by simpa using h1, h2⟩
theorem Dn.get {H : Hp} : ∀ {ds : List D} {vs : List V} {i : Nat} {d : D}, Dn ds vs H → ds[i]? = some d → ∃ v, vs[i]? = some v ∧ d.p v H
  | _, _, _, _, .nil, e => by simp at e
  | _, _, 0, _, .cons a _, e => by simp at e; subst e; exact ⟨_, rfl, a⟩
  | _, _, i + 1, d, .cons _ r, e => by
    obtain ⟨v, h1, h2⟩ := Dn.get (i := i) (d := d) r (by simpa using e)
    exact ⟨v, by simpa using h1, h2⟩
theorem Dn.app {H : Hp} : ∀ {ds es : List D} {vs ws : List V}, Dn ds vs H → Dn es ws H → Dn (ds ++ es) (vs ++ ws) H
  | _, _, _, _, .nil, s => s
  | _, _, _, _, .cons a r, s => .cons a (Dn.app r s)
/-- a scalar -/
def dv (x : V) : D := ⟨fun v _ => v = x, fun _ h => h⟩
abbrev di (i : Int) : D := dv (.int i)
abbrev db (b : Bool) : D := dv (.bl b)
abbrev dn : D := dv .non
abbrev ds (x : Str) : D := dv (.str x)
/-- a list, a tuple -/
def dl (xs : List D) : D := ⟨fun v H => ∃ a vs, v = .ref a ∧ H a = some (.lst vs) ∧ Dn xs vs H,
  fun e ⟨a, vs, h1, h2, h3⟩ => ⟨a, vs, h1, e a _ h2, h3.mono e⟩⟩
def dt (K : PySem.W.Frag) (xs : List D) : D := ⟨fun v H => ∃ a vs, v = .ref a ∧ H a = some (.tup vs) ∧ Dn xs vs H,
  fun e ⟨a, vs, h1, h2, h3⟩ => ⟨a, vs, h1, e a _ h2, h3.mono e⟩⟩
theorem sq_t {K : PySem.W.Frag} {p : Addr} {vs : List V} {Hb H : Hp} (e : Ex Hb H) (h : Hb p = some (.tup vs)) : SqT K H p vs := Evl.st_of (e p _ h)
/-- an instance of the class at C, its attributes -/
def dobj (C : Addr) (ns : List Str) (xs : List D) : D := ⟨fun v H => ∃ a dx fs, v = .ref a ∧ H a = some (.ins C dx fs) ∧ fs.map (·.1) = ns ∧ Dn xs (fs.map (·.2)) H,
  fun e h => by
    obtain ⟨a, dx, fs, h1, h2, h3, h4⟩ := h
    exact ⟨a, dx, fs, h1, e a _ h2, h3, h4.mono e⟩⟩
/-- the script: a list of ints that stands somewhere -/
def dscr (K : PySem.W.Frag) (ns : List Int) : D := ⟨fun v H => ∃ a, v = .ref a ∧ SqL K H a (ns.map V.int),
  fun e ⟨a, h1, h2⟩ => ⟨a, h1, Evl.ex_l e h2⟩⟩

/-- the name of the one lambda that the program makes -/
def qLam : Str := "growing_sets.<locals>.<lambda>"
abbrev QL := {q : Str // q = qLam}
/-- growth of the heap: all stays but the tables of code objects, and those keep what they tell -/
structure Gx (H H2 : Hp) : Prop where
  k1 : ∀ (a : Addr) (u : HO), H a = some u → (∀ ps, u ≠ .tbl ps) → H2 a = some u
  tb : ∀ (a : Addr) (ps : Array Value), H a = some (.tbl ps) → ∃ qs, H2 a = some (.tbl qs)
  ts : ∀ (P : Addr) (q : QL), LamX.TabS H P q → LamX.TabS H2 P q
theorem Gx.k {H H2 : Hp} {a : Addr} {u : HO} (g : Gx H H2) (e : H a = some u) (n : ∀ ps, u ≠ .tbl ps := by intro _ z; cases z) : H2 a = some u := g.k1 a u e n
theorem tbl_or (u : HO) : (∃ ps, u = .tbl ps) ∨ ∀ ps, u ≠ .tbl ps := by
  cases u <;> first
    | exact .inl ⟨_, rfl⟩
    | exact .inr fun _ z => by cases z
theorem Gx.no {H H2 : Hp} {a : Addr} (g : Gx H H2) (h : H2 a = none) : H a = none := by
  cases e : H a with
  | none => rfl
  | some u =>
    rcases tbl_or u with ⟨ps, rfl⟩ | n
    · obtain ⟨qs, z⟩ := g.tb a ps e
      rw [h] at z
      cases z
    · rw [g.k1 a u e n] at h
      cases h
theorem Gx.of {H H2 : Hp} (e : Ex H H2) : Gx H H2 := ⟨fun a u h _ => e a u h, fun a ps h => ⟨ps, e a _ h⟩, fun P q t => t.ext fun b o h => e b o h⟩
theorem Gx.refl (H : Hp) : Gx H H := .of (Evl.Ex.refl _)
theorem Gx.trans {H H2 H3 : Hp} (a : Gx H H2) (b : Gx H2 H3) : Gx H H3 := ⟨fun c u h n => b.k1 c u (a.k1 c u h n) n, fun c ps h => let ⟨qs, e⟩ := a.tb c ps h; b.tb c qs e, fun P q t => b.ts P q (a.ts P q t)⟩
theorem tabs_put {H : Hp} {a P : Addr} {u o : HO} {q : Str} (h : H a = some u) (n1 : ∀ ps, u ≠ .tbl ps) (n2 : ∀ f, u ≠ .ext f) (t : LamX.TabS H P q) : LamX.TabS (upd H a o) P q := by
  obtain ⟨ps, h1, h2, h3⟩ := t
  have ne : P ≠ a := fun z => by
    rw [z, h] at h1
    exact n1 ps (Option.some.inj h1)
  refine ⟨ps, by rw [upd_ne ne]; exact h1, h2, fun pos cv hc => ?_⟩
  obtain ⟨c, e1, e2⟩ := h3 pos cv hc
  have nc : c ≠ a := fun z => by
    rw [z, h] at e2
    unfold LamX.CodeO at e2
    exact n2 _ (Option.some.inj e2)
  exact ⟨c, e1, by rw [upd_ne nc]; exact e2⟩
/-- an object that is new since H, written -/
theorem Gx.over {H H3 : Hp} {a : Addr} {u o : HO} (g : Gx H H3) (n : H a = none) (h3 : H3 a = some u) (n1 : ∀ ps, u ≠ .tbl ps := by intro _ z; cases z) (n2 : ∀ f, u ≠ .ext f := by intro _ z; cases z) : Gx H (upd H3 a o) := by
  have ne : ∀ (c : Addr) (w : HO), H c = some w → c ≠ a := fun c w h z => by rw [z, n] at h; cases h
  exact ⟨fun c w h nt => by rw [upd_ne (ne c w h)]; exact g.k1 c w h nt, fun c ps h => by rw [upd_ne (ne c _ h)]; exact g.tb c ps h, fun P q t => tabs_put h3 n1 n2 (g.ts P q t)⟩
/-- something other than a tuple stands at a -/
def Mu (H : Hp) (a : Addr) : Prop := ∃ u, H a = some u ∧ ∀ vs, u ≠ .tup vs
theorem Mu.mono {H H2 : Hp} {a : Addr} (h : Mu H a) (e : Gx H H2) : Mu H2 a := by
  obtain ⟨u, h1, h2⟩ := h
  rcases tbl_or u with ⟨ps, rfl⟩ | n
  · obtain ⟨qs, z⟩ := e.tb a ps h1
    exact ⟨_, z, fun _ z => by cases z⟩
  · exact ⟨u, e.k1 a u h1 n, h2⟩
theorem Mu.ne {H : Hp} {a p : Addr} (h : Mu H a) (hp : H p = none) : a ≠ p := fun z => by
  obtain ⟨u, h1, _⟩ := h
  rw [z, hp] at h1
  cases h1
/-- Hb, H: the base (what is denoted lies there) and the heap; growth -/
structure Fr (Hb H Hb2 H2 : Hp) : Prop where
  b : Ex Hb Hb2
  s : Ex Hb2 H2
  h : Gx H H2
  o : ∀ a, Mu H a → Hb a = none → Hb2 a = none
section
variable {Hb H Hb2 H2 Hb3 H3 : Hp} {p : Addr} {o : HO}
theorem Fr.refl (e : Ex Hb H) : Fr Hb H Hb H := ⟨Evl.Ex.refl _, e, Gx.refl _, fun _ _ h => h⟩
theorem some_ne {a : Addr} (h : H a ≠ none) (e : Ex H H2) : H2 a ≠ none := by
  cases q : H a with
  | none => exact absurd q h
  | some u => rw [e a u q]; exact fun z => by cases z
theorem Fr.trans (a : Fr Hb H Hb2 H2) (b : Fr Hb2 H2 Hb3 H3) : Fr Hb H Hb3 H3 :=
  ⟨a.b.trans b.b, b.s, a.h.trans b.h, fun c h1 h2 => b.o c (h1.mono a.h) (a.o c h1 h2)⟩
theorem no_of (e : Ex Hb H) (hp : H p = none) : Hb p = none := Evl.fresh_back e hp
theorem ex_upd (e : Ex Hb H) (hp : H p = none) : Ex (upd Hb p o) (upd H p o) := fun a u h => by
  by_cases q : a = p
  · subst q
    rw [upd_same] at h ⊢
    exact h
  · rw [upd_ne q] at h ⊢
    exact e a u h
theorem Fr.new (e : Ex Hb H) (hp : H p = none) : Fr Hb H (upd Hb p o) (upd H p o) :=
  ⟨Evl.Ex.new (no_of e hp), ex_upd e hp, .of (Evl.Ex.new hp), fun a h1 h2 => by
    rw [upd_ne (h1.ne hp)]
    exact h2⟩
/-- new, and not in the base -/
theorem Fr.newO (e : Ex Hb H) (hp : H p = none) : Fr Hb H Hb (upd H p o) :=
  ⟨Evl.Ex.refl _, e.trans (Evl.Ex.new hp), .of (Evl.Ex.new hp), fun _ _ h => h⟩
end

/-- what a slot holds: nothing known; a datum; a list of our own that may grow -/
inductive Sl where
  | no
  | d (x : D)
  | own (xs : List D)
  | dict (b : Bool) (kvs : List (List Int × D))
  | dictI (b : Bool) (kvs : List (Int × D))
  | dP (P : Addr) (q : QL) (x : D)
/-- a dict with tuples of ints as keys -/
abbrev Kvs (kvs : List (List Int × D)) (ws : List (List Key × V)) (H : Hp) : Prop := Paired (fun (k : List Int × D) (w : List Key × V) => w.1 = k.1.map Sum.inl ∧ k.2.p w.2 H) kvs ws
theorem Kvs.mono {H H' : Hp} (e : Ex H H') : ∀ {kvs : List (List Int × D)} {ws : List (List Key × V)}, Kvs kvs ws H → Kvs kvs ws H'
  | _, _, .nil => .nil
  | k :: _, _, .cons a r => .cons ⟨a.1, k.2.mono e a.2⟩ (Kvs.mono e r)
abbrev KvsI (kvs : List (Int × D)) (ws : List (Key × V)) (H : Hp) : Prop := Paired (fun (k : Int × D) (w : Key × V) => w.1 = Sum.inl k.1 ∧ k.2.p w.2 H) kvs ws
theorem KvsI.mono {H H' : Hp} (e : Ex H H') : ∀ {kvs : List (Int × D)} {ws : List (Key × V)}, KvsI kvs ws H → KvsI kvs ws H'
  | _, _, .nil => .nil
  | k :: _, _, .cons a r => .cons ⟨a.1, k.2.mono e a.2⟩ (KvsI.mono e r)
def SlOk (x : Sl) (v : Option (Option V)) (Hb H : Hp) : Prop := match x with
  | .no => True
  | .d d => ∃ u, v = some (some u) ∧ d.p u Hb
  | .own xs => ∃ a vs, v = some (some (.ref a)) ∧ Hb a = none ∧ H a = some (.lst vs) ∧ Dn xs vs Hb
  | .dict b kvs => ∃ a ws, v = some (some (.ref a)) ∧ Hb a = none ∧ (if b = true then ∃ o, H a = some (.frz o (.dT ws)) else H a = some (.dT ws)) ∧ Kvs kvs ws Hb
  | .dictI b kvs => ∃ a ws, v = some (some (.ref a)) ∧ Hb a = none ∧ (if b = true then ∃ o, H a = some (.frz o (.dK ws)) else H a = some (.dK ws)) ∧ KvsI kvs ws Hb
  | .dP P q d => (∃ u, v = some (some u) ∧ d.p u Hb) ∧ LamX.TabS H P q ∧ Hb P = none
abbrev Env' := List Sl
structure EnvOk (env : Env') (σ : L2.St) (Hb H : Hp) : Prop where
  len : σ.length = env.length
  at_ : ∀ (i : Nat) (x : Sl), env[i]? = some x → SlOk x (σ[i]?) Hb H
theorem SlOk.fr {x : Sl} {v : Option (Option V)} {Hb H Hb2 H2 : Hp} (h : SlOk x v Hb H) (f : Fr Hb H Hb2 H2) : SlOk x v Hb2 H2 := by
  cases x with
  | no => exact trivial
  | d d =>
    obtain ⟨u, h1, h2⟩ := h
    exact ⟨u, h1, d.mono f.b h2⟩
  | own xs =>
    obtain ⟨a, vs, h1, h2, h3, h4⟩ := h
    exact ⟨a, vs, h1, f.o a ⟨_, h3, fun _ z => by cases z⟩ h2, f.h.k h3, h4.mono f.b⟩
  | dict b kvs =>
    obtain ⟨a, ws, h1, h2, h3, h4⟩ := h
    cases b with
    | true =>
      obtain ⟨ob, h3⟩ := h3
      exact ⟨a, ws, h1, f.o a ⟨_, h3, fun _ z => by cases z⟩ h2, ⟨ob, f.h.k h3⟩, h4.mono f.b⟩
    | false =>
      have h3 : H a = some (.dT ws) := h3
      exact ⟨a, ws, h1, f.o a ⟨_, h3, fun _ z => by cases z⟩ h2, f.h.k h3, h4.mono f.b⟩
  | dictI b kvs =>
    obtain ⟨a, ws, h1, h2, h3, h4⟩ := h
    cases b with
    | true =>
      obtain ⟨ob, h3⟩ := h3
      exact ⟨a, ws, h1, f.o a ⟨_, h3, fun _ z => by cases z⟩ h2, ⟨ob, f.h.k h3⟩, h4.mono f.b⟩
    | false =>
      have h3 : H a = some (.dK ws) := h3
      exact ⟨a, ws, h1, f.o a ⟨_, h3, fun _ z => by cases z⟩ h2, f.h.k h3, h4.mono f.b⟩
  | dP P q d =>
    obtain ⟨⟨u, h1, h2⟩, t, n⟩ := h
    exact ⟨⟨u, h1, d.mono f.b h2⟩, f.h.ts P q t, f.o P ⟨_, t.choose_spec.1, fun _ z => by cases z⟩ n⟩
theorem EnvOk.fr {env : Env'} {σ : L2.St} {Hb H Hb2 H2 : Hp} (h : EnvOk env σ Hb H) (f : Fr Hb H Hb2 H2) : EnvOk env σ Hb2 H2 := ⟨h.len, fun i x e => (h.at_ i x e).fr f⟩

/-! ### judgements -/
/-- the reading te, where the slots hold env, gives d -/
def ED (te : TE) (env : Env') (d : D) : Prop := ∀ σ Hb H (Q : VK), Ex Hb H → EnvOk env σ Hb H → (∀ v Hb2 H2, Fr Hb H Hb2 H2 → d.p v Hb2 → Q v H2) → te σ H Q
/-- .. a new list of its own -/
def EO (te : TE) (env : Env') (xs : List D) : Prop := ∀ σ Hb H (Q : VK), Ex Hb H → EnvOk env σ Hb H → (∀ p vs Hb2 H2, H p = none → Hb2 p = none → Fr Hb H Hb2 H2 → H2 p = some (.lst vs) → Dn xs vs Hb2 → Q (.ref p) H2) → te σ H Q
def ET (tt : TT) (env : Env') (b : Bool) : Prop := ∀ σ Hb H (Q : Bool → Hp → Prop), Ex Hb H → EnvOk env σ Hb H → (∀ Hb2 H2, Fr Hb H Hb2 H2 → Q b H2) → tt σ H Q
def EA (ta : TA) (env : Env') (xs : List D) : Prop := ∀ σ Hb H (Q : List V → Hp → Prop), Ex Hb H → EnvOk env σ Hb H → (∀ vs Hb2 H2, Fr Hb H Hb2 H2 → Dn xs vs Hb2 → Q vs H2) → ta σ H Q
/-- by values -/
def OD (r : R2) (x y z : D) : Prop := ∀ u v Hb H (Q : VK), Ex Hb H → x.p u Hb → y.p v Hb → (∀ w Hb2 H2, Fr Hb H Hb2 H2 → z.p w Hb2 → Q w H2) → r u v H Q
def UD (r : V → Hp → VK → Prop) (x z : D) : Prop := ∀ u Hb H (Q : VK), Ex Hb H → x.p u Hb → (∀ w Hb2 H2, Fr Hb H Hb2 H2 → z.p w Hb2 → Q w H2) → r u H Q
def CD (r : List V → Hp → VK → Prop) (xs : List D) (z : D) : Prop := ∀ us Hb H (Q : VK), Ex Hb H → Dn xs us Hb → (∀ w Hb2 H2, Fr Hb H Hb2 H2 → z.p w Hb2 → Q w H2) → r us H Q
section
variable {env : Env'} {ta tb te : TE} {t u : TT} {tr : TA} {x y z d : D} {xs ys : List D} {r : R2} {a b : Bool} {K : PySem.W.Frag}
theorem ed_var {i : Nat} (h : env[i]? = some (.d d)) : ED (tVar i) env d := fun σ Hb H Q e o q => by
  obtain ⟨v, h1, h2⟩ := o.at_ i _ h
  exact ⟨v, h1, q v Hb H (Fr.refl e) h2⟩
theorem ed_varP {i : Nat} {P : Addr} {q : QL} (h : env[i]? = some (.dP P q d)) : ED (tVar i) env d := fun σ Hb H Q e o k => by
  obtain ⟨⟨v, h1, h2⟩, _⟩ := o.at_ i _ h
  exact ⟨v, h1, k v Hb H (Fr.refl e) h2⟩
theorem ed_c {v : V} : ED (tC v) env (dv v) := fun σ Hb H Q e o q => q v Hb H (Fr.refl e) rfl
theorem ed_op (ha : ED ta env x) (hb : ED tb env y) (hr : OD r x y z) : ED (tOp r ta tb) env z := fun σ Hb H Q e o q =>
  ha σ Hb H _ e o fun v Hb2 H2 f2 p2 => hb σ Hb2 H2 _ f2.s (o.fr f2) fun w Hb3 H3 f3 p3 => hr v w Hb3 H3 Q f3.s (x.mono f3.b p2) p3 fun w' Hb4 H4 f4 p4 => q w' Hb4 H4 ((f2.trans f3).trans f4) p4
theorem ed_un {r : V → Hp → VK → Prop} (ha : ED ta env x) (hr : UD r x z) : ED (tUn r ta) env z := fun σ Hb H Q e o q =>
  ha σ Hb H _ e o fun v Hb2 H2 f2 p2 => hr v Hb2 H2 Q f2.s p2 fun w' Hb4 H4 f4 p4 => q w' Hb4 H4 (f2.trans f4) p4
theorem ed_is (h : ED te env x) (e : x = y) : ED te env y := e ▸ h
theorem et_is (h : ET t env a) (e : a = b) : ET t env b := e ▸ h
theorem ea_nil : EA tNil env [] := fun σ Hb H Q e o q => q [] Hb H (Fr.refl e) .nil
theorem ea_cons (h : ED te env x) (hr : EA tr env xs) : EA (tCons te tr) env (x :: xs) := fun σ Hb H Q e o q =>
  h σ Hb H _ e o fun v Hb2 H2 f2 p2 => hr σ Hb2 H2 _ f2.s (o.fr f2) fun vs Hb3 H3 f3 p3 => q (v :: vs) Hb3 H3 (f2.trans f3) (.cons (x.mono f3.b p2) p3)
/-- *e of a tuple, of a list -/
theorem ea_starT (h : ED te env (dt K xs)) (hr : EA tr env ys) : EA (StX.tStar K te tr) env (xs ++ ys) := fun σ Hb H Q e o q =>
  h σ Hb H _ e o fun v Hb2 H2 f2 ⟨p, vs, ev, hp, hd⟩ => ⟨p, vs, ev, Or.inl (sq_t f2.s hp), hr σ Hb2 H2 _ f2.s (o.fr f2) fun ws Hb3 H3 f3 p3 => q (vs ++ ws) Hb3 H3 (f2.trans f3) ((hd.mono f3.b).app p3)⟩
theorem ea_starL (h : ED te env (dl xs)) (hr : EA tr env ys) : EA (StX.tStar K te tr) env (xs ++ ys) := fun σ Hb H Q e o q =>
  h σ Hb H _ e o fun v Hb2 H2 f2 ⟨p, vs, ev, hp, hd⟩ => ⟨p, vs, ev, Or.inr (Evl.sq_of (f2.s p _ hp)), hr σ Hb2 H2 _ f2.s (o.fr f2) fun ws Hb3 H3 f3 p3 => q (vs ++ ws) Hb3 H3 (f2.trans f3) ((hd.mono f3.b).app p3)⟩
theorem ed_cb {r : List V → Hp → VK → Prop} (h : EA tr env xs) (hr : CD r xs z) : ED (tCB r tr) env z := fun σ Hb H Q e o q =>
  h σ Hb H _ e o fun vs Hb2 H2 f2 p2 => hr vs Hb2 H2 Q f2.s p2 fun w Hb3 H3 f3 p3 => q w Hb3 H3 (f2.trans f3) p3
/-! tests -/
theorem et_test (h : ED te env (db b)) : ET (tTest te) env b := fun σ Hb H Q e o q => h σ Hb H _ e o fun v Hb2 H2 f2 p2 => ⟨b, p2, q Hb2 H2 f2⟩
theorem et_B (h : ED te env (db b)) : ET (tB te) env b := fun σ Hb H Q e o q => h σ Hb H _ e o fun v Hb2 H2 f2 p2 => ⟨b, p2, q Hb2 H2 f2⟩
theorem et_and (h1 : ET t env a) (h2 : a = true → ET u env b) : ET (tAnd t u) env (a && b) := fun σ Hb H Q e o q => h1 σ Hb H _ e o fun Hb2 H2 f2 => by
  cases a with
  | true =>
    show u σ H2 Q
    exact h2 rfl σ Hb2 H2 Q f2.s (o.fr f2) fun Hb3 H3 f3 => q Hb3 H3 (f2.trans f3)
  | false => exact q Hb2 H2 f2
theorem et_or (h1 : ET t env a) (h2 : a = false → ET u env b) : ET (tOr t u) env (a || b) := fun σ Hb H Q e o q => h1 σ Hb H _ e o fun Hb2 H2 f2 => by
  cases a with
  | false =>
    show u σ H2 Q
    exact h2 rfl σ Hb2 H2 Q f2.s (o.fr f2) fun Hb3 H3 f3 => q Hb3 H3 (f2.trans f3)
  | true => exact q Hb2 H2 f2
theorem et_not (h1 : ET t env a) : ET (tNot t) env (!a) := fun σ Hb H Q e o q => h1 σ Hb H _ e o fun Hb2 H2 f2 => q Hb2 H2 f2
theorem et_yes : ET tYes env true := fun σ Hb H Q e o q => q Hb H (Fr.refl e)
theorem ed_and (h1 : ED ta env (db a)) (h2 : a = true → ED tb env (db b)) : ED (tAndV ta tb) env (db (a && b)) := fun σ Hb H Q e o q => h1 σ Hb H _ e o fun v Hb2 H2 f2 p2 => ⟨a, p2, by
  cases a with
  | true =>
    show tb σ H2 Q
    exact h2 rfl σ Hb2 H2 Q f2.s (o.fr f2) fun w Hb3 H3 f3 p3 => q w Hb3 H3 (f2.trans f3) p3
  | false => exact q _ Hb2 H2 f2 rfl⟩
theorem ed_or (h1 : ED ta env (db a)) (h2 : a = false → ED tb env (db b)) : ED (tOrV ta tb) env (db (a || b)) := fun σ Hb H Q e o q => h1 σ Hb H _ e o fun v Hb2 H2 f2 p2 => ⟨a, p2, by
  cases a with
  | false =>
    show tb σ H2 Q
    exact h2 rfl σ Hb2 H2 Q f2.s (o.fr f2) fun w Hb3 H3 f3 p3 => q w Hb3 H3 (f2.trans f3) p3
  | true => exact q _ Hb2 H2 f2 rfl⟩
theorem ed_not (h1 : ED ta env (db a)) : ED (tNotV ta) env (db (!a)) := fun σ Hb H Q e o q => h1 σ Hb H _ e o fun v Hb2 H2 f2 p2 => ⟨a, p2, q _ Hb2 H2 f2 rfl⟩
theorem ed_ifT (h : ET t env true) (h1 : ED ta env x) : ED (tIf t ta tb) env x := fun σ Hb H Q e o q => h σ Hb H _ e o fun Hb2 H2 f2 => by
  show ta σ H2 Q
  exact h1 σ Hb2 H2 Q f2.s (o.fr f2) fun w Hb3 H3 f3 p3 => q w Hb3 H3 (f2.trans f3) p3
theorem ed_ifF (h : ET t env false) (h1 : ED tb env x) : ED (tIf t ta tb) env x := fun σ Hb H Q e o q => h σ Hb H _ e o fun Hb2 H2 f2 => by
  show tb σ H2 Q
  exact h1 σ Hb2 H2 Q f2.s (o.fr f2) fun w Hb3 H3 f3 p3 => q w Hb3 H3 (f2.trans f3) p3
theorem ed_if (h : ET t env b) (h1 : b = true → ED ta env x) (h2 : b = false → ED tb env x) : ED (tIf t ta tb) env x := by
  cases b with
  | true => exact ed_ifT h (h1 rfl)
  | false => exact ed_ifF h (h2 rfl)
/-- a op1 b op2 c -/
theorem ed_chain {r' : R2} {tc : TE} {w : D} (ha : ED ta env x) (hb : ED tb env y) (hr : OD r x y (db a)) (hc : a = true → ED tc env w) (hr' : a = true → OD r' y w (db b)) : ED (tChain r r' ta tb tc) env (db (a && b)) := fun σ Hb H Q e o q =>
  ha σ Hb H _ e o fun v Hb2 H2 f2 p2 => hb σ Hb2 H2 _ f2.s (o.fr f2) fun w Hb3 H3 f3 p3 => hr v w Hb3 H3 _ f3.s (x.mono f3.b p2) p3 fun k Hb4 H4 f4 p4 => ⟨a, p4, by
    cases a with
    | false => exact q _ Hb4 H4 ((f2.trans f3).trans f4) rfl
    | true =>
      show tc σ H4 _
      exact hc rfl σ Hb4 H4 _ f4.s (o.fr ((f2.trans f3).trans f4)) fun w' Hb5 H5 f5 p5 => hr' rfl w w' Hb5 H5 Q f5.s (y.mono (f4.b.trans f5.b) p3) p5 fun k' Hb6 H6 f6 p6 => q k' Hb6 H6 ((((f2.trans f3).trans f4).trans f5).trans f6) p6⟩
/-! displays -/
theorem ed_tup (h : EA tr env xs) (hz : Nat.ble xs.length 100000 = true) : ED (tTup tr) env (dt K xs) := fun σ Hb H Q e o q =>
  h σ Hb H _ e o fun vs Hb2 H2 f2 p2 => ⟨Evl.sz_of (by rw [← p2.len]; exact Nat.le_of_ble_eq_true hz), fun p hp => q (.ref p) _ _ (f2.trans (Fr.new f2.s hp)) ⟨p, vs, rfl, upd_same, p2.mono (Fr.new f2.s hp).b⟩⟩
theorem eo_lst (h : EA tr env xs) (hz : Nat.ble xs.length 100000 = true) : EO (tLst tr) env xs := fun σ Hb H Q e o q =>
  h σ Hb H _ e o fun vs Hb2 H2 f2 p2 => ⟨Evl.sz_of (by rw [← p2.len]; exact Nat.le_of_ble_eq_true hz), fun p hp => q p vs _ _ (f2.h.no hp) (no_of f2.s hp) (f2.trans (Fr.newO f2.s hp)) upd_same p2⟩
/-- a list of its own, kept from now on -/
theorem EO.ed (h : EO te env xs) : ED te env (dl xs) := fun σ Hb H Q e o q =>
  h σ Hb H _ e o fun p vs Hb2 H2 hp hb f2 hl hd => q (.ref p) (upd Hb2 p (.lst vs)) H2
    ⟨f2.b.trans (Evl.Ex.new hb), fun a u ha => by
      by_cases z : a = p
      · subst z
        rw [upd_same] at ha
        rw [hl]
        exact ha
      · rw [upd_ne z] at ha
        exact f2.s a u ha, f2.h, fun a h1 h2 => by
      rw [upd_ne (h1.ne hp)]
      exact f2.o a h1 h2⟩ ⟨p, vs, rfl, upd_same, hd.mono (Evl.Ex.new hb)⟩
theorem ed_lst (h : EA tr env xs) (hz : Nat.ble xs.length 100000 = true) : ED (tLst tr) env (dl xs) := (eo_lst h hz).ed
theorem look_of {H : Hp} {f : Str} : ∀ {fs : List (Str × V)} {xs : List D}, Dn xs (fs.map (·.2)) H → ((fs.map (·.1)).zip xs).lookup f = some x → ∃ v, fs.lookup f = some v ∧ x.p v H
  | [], [], _, e => by simp at e
  | (k, w) :: r, y :: ys, .cons a t, e => by
    rw [List.map_cons, List.zip_cons_cons, List.lookup_cons] at e
    rw [List.lookup_cons]
    cases q : f == k with
    | true =>
      rw [q] at e
      have e1 : y = x := Option.some.inj e
      subst e1
      exact ⟨w, rfl, a⟩
    | false =>
      rw [q] at e
      exact look_of t e
/-- an attribute -/
theorem ed_fld {C : Addr} {ns : List Str} {f : Str} (h : ED ta env (dobj C ns xs)) (c : Cls K C) (n : NoAttr K C f) (hx : (ns.zip xs).lookup f = some x) : ED (tFld K ta f) env x := fun σ Hb H Q e o q =>
  h σ Hb H _ e o fun v Hb2 H2 f2 hp => by
    obtain ⟨a, dx, fs, ev, ha, hn, hd⟩ := hp
    subst hn
    obtain ⟨v', h1, h2⟩ := look_of hd hx
    exact ⟨a, C, dx, fs, v', ev, f2.s a _ ha, c, n, h1, q v' Hb2 H2 f2 h2⟩
end
end Kb
end
section
/-! Kb2: promises by data; calls of defs, methods, classes, static methods; own operators. -/
namespace Kb
open PySem PySem.Spec PyProof.Rows L2
/-- a def that takes data and gives a datum, and only makes objects -/
def Pr (R : List D → D → Prop) : Sp := fun vs H Q _ => ∃ xs r Hb, R xs r ∧ Ex Hb H ∧ Dn xs vs Hb ∧ ∀ v Hb2 H2, Fr Hb H Hb2 H2 → r.p v Hb2 → Q v H2
/-- .. that gives a new list of its own -/
def PrO (R : List D → List D → Prop) : Sp := fun vs H Q _ => ∃ xs r Hb, R xs r ∧ Ex Hb H ∧ Dn xs vs Hb ∧ ∀ p ws Hb2 H2, H p = none → Hb2 p = none → Fr Hb H Hb2 H2 → H2 p = some (.lst ws) → Dn r ws Hb2 → Q (.ref p) H2
def tCl (sp : Sp) (t : TA) : TE := fun σ H Q => t σ H fun vs H1 => sp vs H1 Q E0
def tMt (C : Addr) (m : Str) (sp : Sp) (ta : TE) (t : TA) : TE := fun σ H Q => ta σ H fun x H1 => ∃ a dx fs, x = .ref a ∧ H1 a = some (.ins C dx fs) ∧ fs.lookup m = none ∧ t σ H1 fun vs H2 => sp (x :: vs) H2 Q E0
section
variable {env : Env'} {ta tb te : TE} {tr : TA} {x y z d : D} {xs ys : List D} {R : List D → D → Prop} {ns ns' : List Str} {C : Addr}
theorem pr_go {vs : List V} {Hb H : Hp} {Q : VK} {E : XK} (e : Ex Hb H) (hd : Dn xs vs Hb) (h : R xs z) (q : ∀ v Hb2 H2, Fr Hb H Hb2 H2 → z.p v Hb2 → Q v H2) : Pr R vs H Q E := ⟨xs, z, Hb, h, e, hd, q⟩
theorem ed_call (h : EA tr env xs) (hR : R xs z) : ED (tCl (Pr R) tr) env z := fun σ Hb H Q e o q =>
  h σ Hb H _ e o fun vs Hb2 H2 f2 p2 => pr_go f2.s p2 hR fun v Hb3 H3 f3 p3 => q v Hb3 H3 (f2.trans f3) p3
theorem eo_call {R : List D → List D → Prop} {r : List D} (h : EA tr env xs) (hR : R xs r) : EO (tCl (PrO R) tr) env r := fun σ Hb H Q e o q =>
  h σ Hb H _ e o fun vs Hb2 H2 f2 p2 => ⟨xs, r, Hb2, hR, f2.s, p2, fun p ws Hb3 H3 hp hb f3 h3 d3 => q p ws Hb3 H3 (f2.h.no hp) hb (f2.trans f3) h3 d3⟩
theorem no_look {m : Str} : ∀ {fs : List (Str × V)}, (fs.map (·.1)).contains m = false → fs.lookup m = none
  | [], _ => rfl
  | (k, w) :: r, h => by
    rw [List.map_cons, List.contains_cons] at h
    have h1 : (m == k) = false := (Bool.or_eq_false_iff.mp h).1
    rw [List.lookup_cons, h1]
    exact no_look (Bool.or_eq_false_iff.mp h).2
theorem ed_meth {m : Str} (h : ED ta env (dobj C ns xs)) (hm : ns.contains m = false) (ht : EA tr env ys) (hR : R (dobj C ns xs :: ys) z) : ED (tMt C m (Pr R) ta tr) env z := fun σ Hb H Q e o q =>
  h σ Hb H _ e o fun v Hb2 H2 f2 hp => by
    obtain ⟨a, dx, fs, ev, ha, hn, hd⟩ := id hp
    refine ⟨a, dx, fs, ev, f2.s a _ ha, no_look (by rw [hn]; exact hm), ?_⟩
    exact ht σ Hb2 H2 _ f2.s (o.fr f2) fun vs Hb3 H3 f3 p3 => pr_go (xs := dobj C ns xs :: ys) f3.s (.cons ((dobj C ns xs).mono f3.b hp) p3) hR fun v Hb4 H4 f4 p4 => q v Hb4 H4 ((f2.trans f3).trans f4) p4
end

/-! ### rules: calls -/
/-- a def of the module's name x -/
structure GF (P : Program) (w : World) (K : PySem.W.Frag) (mg : Str → Option Value) (base : Heap) (k : Nat) (x : Str) (sp : Sp) : Prop where
  ex : ∃ f, FnR P w K mg base CX0 k f sp ∧ PySem.W.keepIn K (.ref f) = true ∧ mg x = some (.ref f)
/-- a class of the module's name x, made -/
structure MF (P : Program) (w : World) (K : PySem.W.Frag) (mg : Str → Option Value) (base : Heap) (k : Nat) (x : Str) (sp : Sp) : Prop where
  ex : ∃ C f spI, FnR P w K mg base CX0 k f spI ∧ Mk K C f ∧ mg x = some (.ref C) ∧ ∀ vs H Q, sp vs H Q E0 → ∀ o dx, H o = none → H dx = none → dx ≠ o → spI (.ref o :: vs) (upd (upd H dx (.own o)) o (.ins C dx [])) (fun v H2 => v = .non ∧ Q (.ref o) H2) E0
/-- a method m of the class at C -/
structure TF (P : Program) (w : World) (K : PySem.W.Frag) (mg : Str → Option Value) (base : Heap) (k : Nat) (C : Addr) (m : Str) (sp : Sp) : Prop where
  cls : Cls K C
  ex : ∃ f, FnR P w K mg base CX0 k f sp ∧ Meth K C m f
/-- a static method m of the class at C -/
structure UF (P : Program) (w : World) (K : PySem.W.Frag) (mg : Str → Option Value) (base : Heap) (k : Nat) (C : Addr) (m : Str) (sp : Sp) : Prop where
  ex : ∃ f p mc, FnR P w K mg base CX0 k f sp ∧ PySem.W.keepIn K (.ref f) = true ∧ ClX.CRead K C mc ∧ PySem.W.findCls K (.ref C) mc m = some (.get (.builtin "staticmethod.__get__") (.ref p) .none (.ref C)) ∧ ∃ rest, PySem.W.recIn K p "staticmethod" = some (.ref f :: rest)
section
variable {X : Cx} {k j : Nat} {f C : Addr} {sp : Sp} {x m : Str} {p pos apos : Pos} {e o : Expr} {es : List Expr} {ta : TE} {t : TA}
theorem pe_g (G : GF X.prog X.w X.K X.mg X.base k x sp) (hr : Room j X.A) (hk : k ≤ j) (hg : Gl X x) (ha : PA X (e :: es) t) (hdb : (x == ("__debug__" : Str)) = false := by decide)
    (he : starEach (e :: es) X.env = (false, eval e X.env) :: starEach es X.env := by rfl) (hpl : (backTo pos (starEach es X.env)).any (·.1) = false := by rfl) : PE X (.Call (.Name x p) (e :: es) [] pos) (tCl sp t) := by
  obtain ⟨f, F, kp, hm⟩ := G.ex
  refine ⟨fun pins s σ H Q I h => ?_⟩
  refine wpAny_Call_Name_kw (ld_glob I hg hm ?_ hdb)
  refine PySem.W.callWith_K (h₀ := X.base) I.ok.mod.kin kp (thn (ha.run pos pins s σ H _ I h) fun us s1 ⟨vs, H1, I1, r, q⟩ => ⟨I1.kIn, ?_⟩) he hpl
  exact wpAny_call (run_fnR F (hr.mono hk) pass0 I1 r q)
theorem pe_mk (G : MF X.prog X.w X.K X.mg X.base k x sp) (hr : Room j X.A) (hk : k + 1 ≤ j) (hg : Gl X x) (ha : PA X (e :: es) t) (hdb : (x == ("__debug__" : Str)) = false := by decide)
    (he : starEach (e :: es) X.env = (false, eval e X.env) :: starEach es X.env := by rfl) (hpl : (backTo pos (starEach es X.env)).any (·.1) = false := by rfl) : PE X (.Call (.Name x p) (e :: es) [] pos) (tCl sp t) := by
  obtain ⟨C, f, spI, F, M, hm, hs⟩ := G.ex
  refine ⟨fun pins s σ H Q I h => ?_⟩
  refine wpAny_Call_Name_kw (ld_glob I hg hm ?_ hdb)
  refine PySem.W.callWith_K (h₀ := X.base) I.ok.mod.kin M.kp (thn (ha.run pos pins s σ H _ I h) fun us s1 ⟨vs, H1, I1, r, q⟩ => ⟨I1.kIn, ?_⟩) he hpl
  exact StX.run_makeR M F (hr.mono hk) pass0 I1 r (hs vs H1 Q q)
/-- C(e, .., *y) -/
theorem pe_mkS (G : MF X.prog X.w X.K X.mg X.base k x sp) (hr : Room j X.A) (hk : k + 1 ≤ j) (hg : Gl X x) (ha : PA X (e :: es) t) (hdb : (x == ("__debug__" : Str)) = false := by decide)
    (he : starEach (e :: es) X.env = (false, eval e X.env) :: starEach es X.env := by rfl) (hst : (backTo pos (starEach es X.env)).any (·.1) = true := by rfl) : PE X (.Call (.Name x p) (e :: es) [] pos) (tCl sp t) := by
  obtain ⟨C, f, spI, F, M, hm, hs⟩ := G.ex
  refine ⟨fun pins s σ H Q I h => ?_⟩
  refine wpAny_Call_Name_kw (ld_glob I hg hm ?_ hdb)
  refine PySem.W.callWith_S2 (h₀ := X.base) I.ok.mod.kin M.kp (thn (ha.run pos pins s σ H _ I h) fun us s1 ⟨vs, H1, I1, r, q⟩ => ⟨I1.kIn, ?_⟩) he hst
  exact StX.run_makeR M F (hr.mono hk) pass0 I1 r (hs vs H1 Q q)
/-- C( *y) -/
def tCl1 (K : PySem.W.Frag) (sp : Sp) (te : TE) : TE := fun σ H Q => te σ H fun y H1 => ∃ a xs, y = V.ref a ∧ (SqT K H1 a xs ∨ SqL K H1 a xs) ∧ sp xs H1 Q E0
theorem pe_mkS1 {te : TE} {sp_ : Pos} (G : MF X.prog X.w X.K X.mg X.base k x sp) (hr : Room j X.A) (hk : k + 1 ≤ j) (hg : Gl X x) (ha : PE X e te) (hdb : (x == ("__debug__" : Str)) = false := by decide)
    (hst : starEach [.Starred e sp_] X.env = [(true, eval e X.env)] := by rfl) : PE X (.Call (.Name x p) [.Starred e sp_] [] pos) (tCl1 X.K sp te) := by
  obtain ⟨C, f, spI, F, M, hm, hs⟩ := G.ex
  refine ⟨fun pins s σ H Q I h => ?_⟩
  refine wpAny_Call_Name_kw (ld_glob I hg hm ?_ hdb)
  refine PySem.W.callWith_S (h₀ := X.base) I.ok.mod.kin M.kp (thn (ha.run pins s σ H _ I h) fun v s1 ⟨y, H1, I1, ry, a, xs, ey, hxs, q⟩ => ?_) hst
  subst ey
  obtain rfl : v = Value.ref a := ry
  exact StX.star_any I1 hxs fun us s2 I2 rv => ⟨I2.kIn, StX.run_makeR M F (hr.mono hk) pass0 I2 rv (hs xs H1 Q q)⟩
theorem pe_t {pl : Sem Bool} (he : PE X o ta) (G : TF X.prog X.w X.K X.mg X.base k C m sp) (hr : Room j X.A) (hk : k ≤ j) (ha : PA X (e :: es) t)
    (hst : starEach (e :: es) X.env = (false, eval e X.env) :: starEach es X.env := by rfl) (hpl : (backTo pos (starEach es X.env)).any (·.1) = false := by rfl)
    (ht : eval (.Call (.Attribute o m apos) (e :: es) [] pos) X.env = (do
      let ov ← eval o X.env
      standAt apos.atName
      let (f, first) ← holding [ov] (getMethod ov m pl)
      callWith pos f first (backTo pos (starEach (e :: es) X.env)) (backToKw pos (keywordEach [] X.env))) := by rfl) : PE X (.Call (.Attribute o m apos) (e :: es) [] pos) (tMt C m sp ta t) := by
  obtain ⟨f, F, hm⟩ := G.ex
  refine ⟨fun pins s σ H Q I h => ?_⟩
  refine PySem.W.methodCall_KW (pl := pl) (thn (he.run pins s σ H _ I h) fun u s1 ⟨x, H1, I1, rx, a, dx, fs, ex, ea, l, q⟩ => ?_) ht
  subst ex
  obtain rfl : u = Value.ref a := rx
  refine getmeth_ok I1 ea G.cls hm l ?_
  refine PySem.W.callWith_K (first := [.ref a]) (h₀ := X.base) I.ok.mod.kin hm.kp (thn (ha.run pos pins s1 σ H1 _ I1 q) fun us s2 ⟨vs, H2, I2, r, q2⟩ => ⟨I2.kIn, ?_⟩) hst hpl
  exact wpAny_call (run_fnR (us := .ref a :: us) (vs := .ref a :: vs) F (hr.mono hk) pass0 I2 (.cons rfl r) q2)
theorem pe_t0 {pl : Sem Bool} (he : PE X o ta) (G : TF X.prog X.w X.K X.mg X.base k C m sp) (hr : Room j X.A) (hk : k ≤ j)
    (ht : eval (.Call (.Attribute o m apos) [] [] pos) X.env = (do
      let ov ← eval o X.env
      standAt apos.atName
      let (f, first) ← holding [ov] (getMethod ov m pl)
      callWith pos f first (backTo pos (starEach [] X.env)) (backToKw pos (keywordEach [] X.env))) := by rfl) : PE X (.Call (.Attribute o m apos) [] [] pos) (tMt C m sp ta tNil) := by
  obtain ⟨f, F, hm⟩ := G.ex
  refine ⟨fun pins s σ H Q I h => ?_⟩
  refine PySem.W.methodCall_KW (pl := pl) (thn (he.run pins s σ H _ I h) fun u s1 ⟨x, H1, I1, rx, a, dx, fs, ex, ea, l, q⟩ => ?_) ht
  subst ex
  obtain rfl : u = Value.ref a := rx
  refine getmeth_ok I1 ea G.cls hm l ?_
  exact PySem.W.callWith_K0 (first := [.ref a]) I1.kIn hm.kp (wpAny_call (run_fnR (us := [.ref a]) (vs := [.ref a]) F (hr.mono hk) pass0 I1 (.cons rfl .nil) q))
/-- the static method, read off the class -/
theorem getsm_ok {pins : List (Addr × Obj)} {σ : L2.St} {H : Hp} {s : Shared} {A : Around} {E : Value → Shared → Prop} {Q : Value × List Value → Shared → Prop} {pl : Sem Bool} {q g : Addr} {mc : Value} {rest : List Value} (I : Inv X pins σ H s) (r : ClX.CRead X.K C mc)
    (k1 : PySem.W.findCls X.K (.ref C) mc m = some (.get (.builtin "staticmethod.__get__") (.ref q) .none (.ref C))) (k2 : PySem.W.recIn X.K q "staticmethod" = some (.ref g :: rest)) (h : ∀ s', Inv X pins σ H s' → Q (.ref g, []) s') :
    wpAny (model X.prog X.w) A (getMethod (.ref C) m pl) Q E s := by
  refine PySem.W.method_cls I.kIn r.ga ?_
  refine PySem.W.cls_bind I.kIn r.rd k1 ?_
  refine wpAny_call (PySem.W.sm_get (s := { s with toks := s.toks + 1 }) I.kIn k2 (PySem.W.handed_on rfl ?_))
  exact h _ (I.tok _)
def tUt (sp : Sp) (t : TA) : TE := tCl sp t
theorem pe_u {pl : Sem Bool} (G : UF X.prog X.w X.K X.mg X.base k C m sp) (hg : Gl X x) (hx : X.mg x = some (.ref C)) (hr : Room j X.A) (hk : k ≤ j) (ha : PA X (e :: es) t) (hdb : (x == ("__debug__" : Str)) = false := by decide)
    (hst : starEach (e :: es) X.env = (false, eval e X.env) :: starEach es X.env := by rfl) (hpl : (backTo pos (starEach es X.env)).any (·.1) = false := by rfl)
    (ht : eval (.Call (.Attribute (.Name x p) m apos) (e :: es) [] pos) X.env = (do
      let ov ← eval (.Name x p) X.env
      standAt apos.atName
      let (f, first) ← holding [ov] (getMethod ov m pl)
      callWith pos f first (backTo pos (starEach (e :: es) X.env)) (backToKw pos (keywordEach [] X.env))) := by rfl) : PE X (.Call (.Attribute (.Name x p) m apos) (e :: es) [] pos) (tCl sp t) := by
  obtain ⟨f, q, mc, F, kp, r, k1, rest, k2⟩ := G.ex
  refine ⟨fun pins s σ H Q I h => ?_⟩
  refine PySem.W.methodCall_KW (pl := pl) (ld_glob I hg hx ?_ hdb) ht
  refine getsm_ok I r k1 k2 fun s1 I1 => ?_
  refine PySem.W.callWith_K (first := []) (h₀ := X.base) I1.ok.mod.kin kp (thn (ha.run pos pins s1 σ H _ I1 h) fun us s2 ⟨vs, H2, I2, rv, q2⟩ => ⟨I2.kIn, ?_⟩) hst hpl
  exact wpAny_call (run_fnR F (hr.mono hk) pass0 I2 rv q2)
theorem pe_u0 {pl : Sem Bool} (G : UF X.prog X.w X.K X.mg X.base k C m sp) (hg : Gl X x) (hx : X.mg x = some (.ref C)) (hr : Room j X.A) (hk : k ≤ j) (hdb : (x == ("__debug__" : Str)) = false := by decide)
    (ht : eval (.Call (.Attribute (.Name x p) m apos) [] [] pos) X.env = (do
      let ov ← eval (.Name x p) X.env
      standAt apos.atName
      let (f, first) ← holding [ov] (getMethod ov m pl)
      callWith pos f first (backTo pos (starEach [] X.env)) (backToKw pos (keywordEach [] X.env))) := by rfl) : PE X (.Call (.Attribute (.Name x p) m apos) [] [] pos) (tCl sp tNil) := by
  obtain ⟨f, q, mc, F, kp, r, k1, rest, k2⟩ := G.ex
  refine ⟨fun pins s σ H Q I h => ?_⟩
  refine PySem.W.methodCall_KW (pl := pl) (ld_glob I hg hx ?_ hdb) ht
  refine getsm_ok I r k1 k2 fun s1 I1 => ?_
  exact PySem.W.callWith_K0 (first := []) I1.kIn kp (wpAny_call (run_fnR (us := []) (vs := []) F (hr.mono hk) pass0 I1 .nil h))
end

/-! ### own operators -/
theorem cmp_back {X : Cx} {pins : List (Addr × Obj)} {σ : L2.St} {Q : VK} {v : Value} {s : Shared} (h : EP X pins σ Q v s) : PySem.W.CmpBack (EP X pins σ Q) v s := by
  obtain ⟨x, H, I, r, q⟩ := id h
  cases v <;> first
    | exact h
    | (cases x <;> first | (cases r; done) | (obtain ⟨_, z⟩ := r; cases z))
/-- both instances of the class at C, the left one's def f -/
def rOw (C : Addr) (sp : Sp) : R2 := fun x y H Q => (∃ a dx fs, x = .ref a ∧ H a = some (.ins C dx fs)) ∧ (∃ a dx fs, y = .ref a ∧ H a = some (.ins C dx fs)) ∧ sp [x, y] H Q E0
/-- the right one an int -/
def rOwI (C : Addr) (sp : Sp) : R2 := fun x y H Q => (∃ a dx fs, x = .ref a ∧ H a = some (.ins C dx fs)) ∧ (∃ i, y = .int i) ∧ sp [x, y] H Q E0
/-- the left one an int, the right one's def -/
def rOwR (C : Addr) (sp : Sp) : R2 := fun x y H Q => (∃ i, x = .int i) ∧ (∃ a dx fs, y = .ref a ∧ H a = some (.ins C dx fs)) ∧ sp [y, x] H Q E0
/-- what of the text an operator's method is -/
structure OpF (P : Program) (w : World) (K : PySem.W.Frag) (mg : Str → Option Value) (base : Heap) (k : Nat) (C : Addr) (m : Str) (sp : Sp) : Prop where
  ex : ∃ f, FnR P w K mg base CX0 k f sp ∧ Meth K C m f
  sf : PySem.W.selfFirst K C = true
section
variable {X : Cx} {k j : Nat} {C : Addr} {sp : Sp}
theorem inst_of {pins : List (Addr × Obj)} {σ : L2.St} {H : Hp} {s : Shared} {a dx : Addr} {fs : List (Str × V)} (I : Inv X pins σ H s) (h : H a = some (.ins C dx fs)) : ∃ od, PySem.W.InstAt s.heap a (PySem.W.instObj C dx) C (some od) := by
  obtain ⟨mA, O, _⟩ := ins_get I.hok h
  obtain ⟨od, J, _⟩ := O.look
  exact ⟨od, J⟩
theorem op_own {op : Operator} (G : OpF X.prog X.w X.K X.mg X.base k C (PySem.dunder op.info.2) sp) (hr : Room j X.A) (hk : k ≤ j) : OpR X (binaryOp op) (rOw C sp) := by
  obtain ⟨f, F, M⟩ := G.ex
  intro pins s σ H x y v u Q I rx ry h
  obtain ⟨⟨a, dx, fs, rfl, ha⟩, ⟨b, dy, gs, rfl, hb⟩, q⟩ := h
  cases rx
  cases ry
  obtain ⟨od, J⟩ := inst_of I ha
  obtain ⟨od2, J2⟩ := inst_of I hb
  obtain ⟨m, hF⟩ := I.fr
  refine PySem.W.binop_K hF I.ok.mod.kin J J2.type G.sf M.at_ M.fn ?_
  refine wpAny_mono (wpAny_call (run_fnR (us := [.ref a, .ref b]) (vs := [.ref a, .ref b]) F (hr.mono hk) pass0 I (.cons rfl (.cons rfl .nil)) q)) (fun v s' z => cmp_back z) fun _ _ z => z
theorem cmp_own {op : CmpOp} (G : OpF X.prog X.w X.K X.mg X.base k C (PySem.cmpInfo op).2.1 sp) (hr : Room j X.A) (hk : k ≤ j) (hop : ∀ a b, compareOp op a b = richCompare op a b := by intro _ _; rfl) : OpR X (compareOp op) (rOw C sp) := by
  obtain ⟨f, F, M⟩ := G.ex
  intro pins s σ H x y v u Q I rx ry h
  obtain ⟨⟨a, dx, fs, rfl, ha⟩, ⟨b, dy, gs, rfl, hb⟩, q⟩ := h
  cases rx
  cases ry
  obtain ⟨od, J⟩ := inst_of I ha
  obtain ⟨od2, J2⟩ := inst_of I hb
  obtain ⟨m, hF⟩ := I.fr
  rw [hop]
  refine PySem.W.cmp_K (op := op) (tb := .ref C) (hr.mono hk).units0 hF I.ok.mod.kin J J2.type (by simp [PySem.W.notFirst]) M.at_ M.fn ?_
  refine wpAny_mono (wpAny_call (run_fnR (us := [.ref a, .ref b]) (vs := [.ref a, .ref b]) F (hr.mono hk) pass0 I (.cons rfl (.cons rfl .nil)) q)) (fun v s' z => cmp_back z) fun _ _ z => z
theorem cmp_ownI {op : CmpOp} (G : OpF X.prog X.w X.K X.mg X.base k C (PySem.cmpInfo op).2.1 sp) (hr : Room j X.A) (hk : k ≤ j) (nf : PySem.W.notFirst X.K C (.type "int") = true) (hop : ∀ a b, compareOp op a b = richCompare op a b := by intro _ _; rfl) : OpR X (compareOp op) (rOwI C sp) := by
  obtain ⟨f, F, M⟩ := G.ex
  intro pins s σ H x y v u Q I rx ry h
  obtain ⟨⟨a, dx, fs, rfl, ha⟩, ⟨i, rfl⟩, q⟩ := h
  cases rx
  obtain ⟨t, rfl⟩ := ry
  obtain ⟨od, J⟩ := inst_of I ha
  obtain ⟨m, hF⟩ := I.fr
  rw [hop]
  refine PySem.W.cmp_K (op := op) (tb := .type "int") (hr.mono hk).units0 hF I.ok.mod.kin J (PySem.W.Looks.of_pure rfl) nf M.at_ M.fn ?_
  refine wpAny_mono (wpAny_call (run_fnR (us := [.ref a, .int i t]) (vs := [.ref a, .int i]) F (hr.mono hk) pass0 I (.cons rfl (.cons ⟨t, rfl⟩ .nil)) q)) (fun v s' z => cmp_back z) fun _ _ z => z
end
section
variable {C : Addr} {R : List D → D → Prop} {ns ns' : List Str} {xs ys : List D} {z : D}
theorem ins_of {v : V} {Hb H : Hp} (e : Ex Hb H) (h : (dobj C ns xs).p v Hb) : ∃ a dx fs, v = .ref a ∧ H a = some (.ins C dx fs) := by
  obtain ⟨a, dx, fs, ev, ha, _⟩ := h
  exact ⟨a, dx, fs, ev, e a _ ha⟩
theorem od_own (hR : R [dobj C ns xs, dobj C ns' ys] z) : OD (rOw C (Pr R)) (dobj C ns xs) (dobj C ns' ys) z := fun u v Hb H Q e hu hv q =>
  ⟨ins_of e hu, ins_of e hv, pr_go e (.cons hu (.cons hv .nil)) hR q⟩
theorem od_ownI {i : Int} (hR : R [dobj C ns xs, di i] z) : OD (rOwI C (Pr R)) (dobj C ns xs) (di i) z := fun u v Hb H Q e hu hv q =>
  ⟨ins_of e hu, ⟨i, hv⟩, pr_go e (.cons hu (.cons hv .nil)) hR q⟩
theorem od_ownR {i : Int} (hR : R [dobj C ns xs, di i] z) : OD (rOwR C (Pr R)) (di i) (dobj C ns xs) z := fun u v Hb H Q e hu hv q =>
  ⟨⟨i, hu⟩, ins_of e hv, pr_go e (.cons hv (.cons hu .nil)) hR q⟩
end
end Kb
end
section
/-! Kb3: int - instance. -/
namespace Kb
open PySem PySem.Spec PyProof.Rows L2
theorem int_sub_inst (a : Int) (t : Tok) (l : Addr) (o : Obj) (hd : o.data = .plain) :
    Meets (Builtin.«int.__sub__» ⟨[.int a t, .ref l], []⟩) (fun _ R s => s.heap.get? l = some o ∧ R (.ok (.ret Value.notImplemented)) s) :=
  .of_wp fun prog w A R s h => by
    obtain ⟨hp, g, d, tk, os⟩ := s
    obtain ⟨hl, h⟩ := h
    obtain ⟨oc, od, dt, sl⟩ := o
    simp only at hd
    subst hd
    wp_walk
    exact ⟨_, rfl, h⟩
theorem int_sub_no {prog : Program} {w : World} {A : Around} {E : Value → Shared → Prop} {s : Shared} {b : Addr} {o : Obj} {i : Int} {t : Tok} (hd : o.data = .plain) (ho : s.heap.get? b = some o) :
   wpAny (model prog w) A (tryMethod (.int i t) (PySem.dunder "sub") (.ref b)) (fun r s' => r = none ∧ s' = s) E s := by
  have z : wpAny (model prog w) A (call (.builtin "int.__sub__") [.int i t, .ref b]) (fun v s' => v = .notImplemented ∧ s' = s) E s :=
    call_meets F.slot_int_sub (typeIs_int s i t) F.entry_int_sub (F.args_int_sub_2 _ _) (int_sub_inst i t b o hd) ⟨ho, rfl, rfl⟩
  have ht : s.TypeIs (.int i t) "int" := typeIs_int s i t
  have hs : Slot "int" (PySem.dunder "sub") "int.__sub__" := F.slot_int_sub
  generalize PySem.dunder "sub" = nm at hs ⊢
  refine wpAny_tryMethod_declines ht hs ?_
  refine wpAny_mono z (fun v s' q => ?_) fun _ _ e => e
  exact ⟨q.1, rfl, q.2⟩
open PySem.W in

theorem ksp_rsub {prog : Program} {w : World} {A : Around} {E : Value → Shared → Prop} {s : Shared} {K : Frag} {b C f f2 : Addr} {od : Option Obj} {i : Int} {t : Tok} {dx : Addr} {Q : Value → Shared → Prop} (X : K.In s.heap) (I : InstAt s.heap b (instObj C dx) C od) (hc : selfFirst K C = true)
    (hsub : subIn K (.ref C) (.type "int") = some false) (hs : findIn K (.ref C) "__sub__" = some (some (.ref f))) (hr : findIn K (.ref C) "__rsub__" = some (some (.ref f2))) (hf : isFn K (.ref f2) = true)
    (h : wpAny (model prog w) A (call (.ref f2) [.ref b, .int i t]) (PySem.W.CmpBack Q) E s) : wpAny (model prog w) A (binaryOp .Sub (.int i t) (.ref b)) Q E s := by
  obtain ⟨cd, rest, hcd, hm⟩ := ksp_first hc
  have one := ksp_try X I hr hf h
  have dec : wpAny (model prog w) A (tryMethod (.int i t) (PySem.dunder "sub") (.ref b)) (fun r s' => r = none ∧ s' = s) E s := int_sub_no rfl I.at_
  have L1 : Looks (model prog w) s.heap (typeOf (.int i t)) (.type "int") := Looks.of_pure rfl
  have L2 : Looks (model prog w) s.heap (typeOf (.ref b)) (.ref C) := I.type
  have L3 : Looks (model prog w) s.heap (fillsNumberSlot (.type "int") "sub") true := Looks.of_pure SiftDown.fills_int_sub
  have L4 : Looks (model prog w) s.heap (fillsNumberSlot (.ref C) "sub") true := fills_K X hcd hm hs
  have L5 : Looks (model prog w) s.heap (isSubtype (.ref C) (.type "int")) false := looks_subIn X hsub
  have L6 : Looks (model prog w) s.heap (numberSlotInPython (.type "int") "sub") false := Looks.of_pure rfl
  have hne : (Value.type "int" == Value.ref C) = false := Bool.eq_false_iff.mpr fun q => by cases beq_iff_eq.mp q
  have go : ∀ {P : Option Value → Shared → Prop}, (∀ v s', Q v s' → P (some v) s') → wpAny (model prog w) A (binaryOp1 "sub" (.int i t) (.ref b)) P E s := by
    intro P hP
    clear h
    obtain ⟨hh, g, d, tt, os⟩ := s
    simp only [binaryOp1]
    refine wpAny_bind (L1.at (wpAny_bind (L2.at (wpAny_bind (L3.at ?_)))))
    simp only [hne, Bool.false_eq_true, if_false]
    refine wpAny_bind (L4.at ?_)
    simp only [Bool.and_self, if_true, pure_bind]
    refine wpAny_bind (L5.at ?_)
    simp only [Bool.false_eq_true, if_false, Bool.not_false, Bool.and_self, if_true, pure_bind]
    refine wpAny_bind (L6.at ?_)
    simp only [Bool.false_eq_true, if_false, pure_bind, if_true, Bool.not_true, Bool.and_false]
    refine wpAny_bind (wpAny_mono dec (fun r s' hr' => ?_) fun _ _ e => e)
    obtain ⟨rfl, rfl⟩ := hr'
    simp only [Bool.false_eq_true, if_false, pure_bind, if_true]
    refine wpAny_bind (wpAny_mono one (fun r s' hr' => ?_) fun _ _ e => e)
    obtain ⟨v, rfl, hq⟩ := hr'
    refine wpAny_bind (wpAny_rule (wpAny_pure ?_))
    exact hP v s' hq
  simp only [binaryOp]
  refine wpAny_holding (wpAny_bind (go fun v s' hq => ?_))
  exact wpAny_pure hq
section
variable {X : Cx} {k j : Nat} {C : Addr} {sp : Sp}
theorem op_rsub {f : Addr} (G : OpF X.prog X.w X.K X.mg X.base k C "__rsub__" sp) (hr : Room j X.A) (hk : k ≤ j) (hsub : PySem.W.subIn X.K (.ref C) (.type "int") = some false) (hs : PySem.W.findIn X.K (.ref C) "__sub__" = some (some (.ref f))) : OpR X (binaryOp .Sub) (rOwR C sp) := by
  obtain ⟨f2, F, M⟩ := G.ex
  intro pins s σ H x y v u Q I rx ry h
  obtain ⟨⟨i, rfl⟩, ⟨a, dx, fs, rfl, ha⟩, q⟩ := h
  cases ry
  obtain ⟨t, rfl⟩ := rx
  obtain ⟨od, J⟩ := inst_of I ha
  refine ksp_rsub I.kIn J G.sf hsub hs M.at_ M.fn ?_
  refine wpAny_mono (wpAny_call (run_fnR (us := [.ref a, .int i t]) (vs := [.ref a, .int i]) F (hr.mono hk) pass0 I (.cons rfl (.cons ⟨t, rfl⟩ .nil)) q)) (fun v s' z => cmp_back z) fun _ _ z => z
end
end Kb
end
section
/-! Kb4: comprehensions, statements, loops, the body of a def. -/
namespace Kb
open PySem PySem.Spec PyProof.Rows L2

/-! ### the block of a comprehension: its own slots forgotten -/
def wipeE (env : Env') : List Nat → Env'
  | [] => env
  | v :: vs => (wipeE env vs).set v .no
theorem wipeE_len (env : Env') : ∀ vs : List Nat, (wipeE env vs).length = env.length
  | [] => rfl
  | v :: vs => by unfold wipeE; rw [List.length_set, wipeE_len env vs]
theorem EnvOk.set {env : Env'} {σ : L2.St} {Hb H : Hp} {j : Nat} {x : Sl} {v : Option V} (o : EnvOk env σ Hb H) (h : SlOk x (some v) Hb H) : EnvOk (env.set j x) (σ.set j v) Hb H := by
  refine ⟨by rw [List.length_set, List.length_set, o.len], fun i y e => ?_⟩
  by_cases q : j = i
  · subst q
    by_cases l : j < env.length
    · rw [List.getElem?_set_self l] at e
      cases e
      rw [List.getElem?_set_self (by rw [o.len]; exact l)]
      exact h
    · rw [List.getElem?_eq_none (by rw [List.length_set]; omega)] at e
      cases e
  · rw [List.getElem?_set_ne q] at e ⊢
    exact o.at_ i y e
theorem EnvOk.wipe {env : Env'} {σ : L2.St} {Hb H : Hp} (o : EnvOk env σ Hb H) : ∀ vs : List Nat, EnvOk (wipeE env vs) (L2.wipe σ vs) Hb H
  | [] => o
  | v :: vs => by
    unfold wipeE L2.wipe
    exact (EnvOk.wipe o vs).set trivial
theorem wipe_get (τ : L2.St) (i : Nat) : ∀ vs : List Nat, (L2.wipe τ vs)[i]? = if i ∈ vs ∧ i < τ.length then some none else τ[i]?
  | [] => by simp [L2.wipe]
  | v :: vs => by
    unfold L2.wipe
    by_cases q : v = i
    · subst q
      by_cases l : v < τ.length
      · rw [List.getElem?_set_self (by rw [wipe_length]; exact l), if_pos ⟨by simp, l⟩]
      · rw [List.getElem?_eq_none (by rw [List.length_set, wipe_length]; omega), if_neg (fun z => l z.2), List.getElem?_eq_none (by omega)]
    · rw [List.getElem?_set_ne q, wipe_get τ i vs]
      have e : i ∈ v :: vs ↔ i ∈ vs := by
        rw [List.mem_cons]
        exact ⟨fun z => z.elim (fun z => absurd z.symm q) id, .inr⟩
      by_cases m : i ∈ vs ∧ i < τ.length
      · rw [if_pos m, if_pos ⟨e.mpr m.1, m.2⟩]
      · rw [if_neg m, if_neg (fun z => m ⟨e.mp z.1, z.2⟩)]
theorem wipe_set {σ : L2.St} {vs : List Nat} {j : Nat} {x : V} (hj : j ∈ vs) : L2.wipe ((L2.wipe σ vs).set j (some x)) vs = L2.wipe σ vs := by
  apply List.ext_getElem?
  intro i
  rw [wipe_get, wipe_get, List.length_set, wipe_length]
  by_cases m : i ∈ vs ∧ i < σ.length
  · rw [if_pos m, if_pos m]
  · rw [if_neg m, if_neg m]
    by_cases q : j = i
    · subst q
      have l : ¬ j < σ.length := fun z => m ⟨hj, z⟩
      rw [List.getElem?_eq_none (by rw [List.length_set, wipe_length]; omega), List.getElem?_eq_none (by omega)]
    · rw [List.getElem?_set_ne q, wipe_get, if_neg m]

/-! ### comprehensions -/
/-- what a comprehension keeps: the new list at Dl holds acc -/
def LcOk (Hb H1 : Hp) (Dl : Addr) (acc : List D) (H : Hp) : Prop := ∃ Hi vs, Fr Hb H1 Hi H ∧ Hi Dl = none ∧ H Dl = some (.lst vs) ∧ Dn acc vs Hi
theorem lc_turn {env2 : Env'} {tt : TT} {te : TE} {σ2 : L2.St} {Hb H1 : Hp} {Dl : Addr} {acc : List D} {H : Hp} {b : Bool} {d : D} {N : Hp → Prop} (hz : acc.length < 90000) (hD : H1 Dl = none)
    (p : LcOk Hb H1 Dl acc H) (o : ∀ Hi, Fr Hb H1 Hi H → EnvOk env2 σ2 Hi H) (ht : ET tt env2 b) (he : b = true → ED te env2 d)
    (hN : ∀ H', LcOk Hb H1 Dl (if b = true then acc ++ [d] else acc) H' → N H') :
    tt σ2 H fun b H3 => if b = true then te σ2 H3 fun y H4 => ∃ acc, H4 Dl = some (.lst acc) ∧ acc.length < sizeLine ∧ N (upd H4 Dl (.lst (acc ++ [y]))) else N H3 := by
  obtain ⟨Hi, ws, f, h1, h2, h3⟩ := p
  have hne : Mu H Dl := ⟨_, h2, fun _ z => by cases z⟩
  refine ht σ2 Hi H _ f.s (o Hi f) fun Hb2 H2 f2 => ?_
  have hne2 : Mu H2 Dl := hne.mono f2.h
  cases b with
  | false =>
    show N H2
    exact hN H2 ⟨Hb2, ws, f.trans f2, f2.o Dl hne h1, f2.h.k h2, h3.mono f2.b⟩
  | true =>
    show te σ2 H2 _
    refine he rfl σ2 Hb2 H2 _ f2.s ((o Hi f).fr f2) fun y Hb3 H3 f3 py => ?_
    have hb3 : Hb3 Dl = none := f3.o Dl hne2 (f2.o Dl hne h1)
    refine ⟨ws, f3.h.k (f2.h.k h2), Evl.sz_lt (by rw [← h3.len]; omega), hN _ ⟨Hb3, ws ++ [y], ?_, hb3, upd_same, ((h3.mono f2.b).mono f3.b).app (.cons py .nil)⟩⟩
    have F := (f.trans f2).trans f3
    exact ⟨F.b, fun a u ha => by rw [upd_ne (fun z => by rw [z, hb3] at ha; cases ha)]; exact F.s a u ha, F.h.over hD (f3.h.k (f2.h.k h2)), F.o⟩
section
variable {α : Type} {env : Env'} {tl te : TE} {ta : TA} {t : TT} {K : PySem.W.Frag} {j : Nat} {vs : List Nat}
theorem lc_end {Hb H Hb1 H1 H' : Hp} {Dl : Addr} {r : List D} {Q : VK} (f : Fr Hb H Hb1 H1) (hD : H1 Dl = none) (p : LcOk Hb1 H1 Dl r H')
    (q : ∀ p vs Hb2 H2, H p = none → Hb2 p = none → Fr Hb H Hb2 H2 → H2 p = some (.lst vs) → Dn r vs Hb2 → Q (.ref p) H2) : Q (.ref Dl) H' := by
  obtain ⟨Hi, ws, g, h1, h2, h3⟩ := p
  exact q Dl ws Hi H' (f.h.no hD) h1 (f.trans g) h2 h3
theorem lc_0 {Hb1 H1 : Hp} {Dl : Addr} (e : Ex Hb1 H1) (hD : H1 Dl = none) : LcOk Hb1 H1 Dl [] (upd H1 Dl (.lst [])) := ⟨Hb1, [], Fr.newO e hD, no_of e hD, upd_same, .nil⟩
theorem fil_snoc (l : List α) (f : α → Bool) (h : α → D) (i : Nat) (a : α) (e : l[i]? = some a) :
    ((l.take (i + 1)).filter f).map h = if f a = true then ((l.take i).filter f).map h ++ [h a] else ((l.take i).filter f).map h := by
  rw [List.take_add_one, e, List.filter_append, List.map_append]
  show _ ++ List.map h (List.filter f [a]) = _
  cases q : f a with
  | true => rw [List.filter_cons_of_pos q, if_pos rfl]; rfl
  | false => rw [List.filter_cons_of_neg (by rw [q]; exact Bool.false_ne_true), if_neg Bool.false_ne_true]; simp
/-- where the walked thing's items lie: at each growth of the base -/
structure Its (S : Hp → List V → Prop) (l : List α) (g : α → D) (Hb : Hp) (ws : List V) : Prop where
  dn : Dn (l.map g) ws Hb
  st : ∀ Hi H, Ex Hb Hi → Ex Hi H → S H ws
/-- over a list: a datum, or one of our own -/
theorem eo_lcG {wi : TI} {J : Addr → It} {S : Addr → Hp → List V → Prop} (l : List α) (g : α → D) (f : α → Bool) (h : α → D) (hz : l.length < 90000) (hj : j ∈ vs)
    (hw : ∀ σ Hb H (R : It → Hp → Prop), Ex Hb H → EnvOk env σ Hb H → (∀ a ws Hb1 H1, Fr Hb H Hb1 H1 → Dn (l.map g) ws Hb1 → (∀ Hi H2, Fr Hb1 H1 Hi H2 → S a H2 ws) → R (J a) H1) → wi σ H R)
    (lc : ∀ (a : Addr) (xs : List V) (te : TE) (tt : TT) (vs : List Nat) (σ : L2.St) (H1 : Hp) (D : Addr) (Qd : Hp → Prop) (Pv : Nat → Hp → Prop), Pv 0 (upd H1 D (.lst [])) → (∀ i H, i ≤ xs.length → Pv i H → S a H xs) →
      (∀ i x H, xs[i]? = some x → Pv i H → gName j x (L2.wipe σ vs) H fun σ2 H2 => L2.wipe σ2 vs = L2.wipe σ vs ∧ tt σ2 H2 fun b H3 =>
        if b = true then te σ2 H3 fun y H4 => ∃ acc, H4 D = some (.lst acc) ∧ acc.length < sizeLine ∧ Pv (i + 1) (upd H4 D (.lst (acc ++ [y]))) else Pv (i + 1) H3) → (∀ H, Pv xs.length H → Qd H) →
      ∃ W : Nat → Nat → Hp → Prop, (∃ m, W 0 m (upd H1 D (.lst []))) ∧ ∀ i m H, W i m H → ((J a).stop i H ∧ Qd H) ∨ ((J a).go i H ∧ ∃ Nx : Hp → Prop, (∀ H', Nx H' → ∃ m', m' < m ∧ W (i + 1) m' H') ∧ ∀ x H', (J a).yld i H x H' → gName j x (L2.wipe σ vs) H' fun σ2 H2 => L2.wipe σ2 vs = L2.wipe σ vs ∧ tt σ2 H2 fun b H3 =>
        if b = true then te σ2 H3 fun y H4 => ∃ acc, H4 D = some (.lst acc) ∧ acc.length < sizeLine ∧ Nx (upd H4 D (.lst (acc ++ [y]))) else Nx H3))
    (ht : ∀ a ∈ l, ET t ((wipeE env vs).set j (.d (g a))) (f a)) (he : ∀ a ∈ l, f a = true → ED te ((wipeE env vs).set j (.d (g a))) (h a)) : EO (tLc wi (gName j) t te vs) env ((l.filter f).map h) := fun σ Hb H Q e o q => by
  refine hw σ Hb H _ e o fun a ws Hb1 H1 f1 dn st Dl hD => ?_
  have hlen : ws.length = l.length := by have := dn.len; rw [List.length_map] at this; exact this.symm
  refine lc a ws te t vs σ H1 Dl _ (fun i H' => LcOk Hb1 H1 Dl (((l.take i).filter f).map h) H') (lc_0 f1.s hD) (fun i H' _ p => ?_) (fun i x H' hi p => ?_) (fun H' p => ?_)
  · obtain ⟨Hi, vs', g', _, _, _⟩ := p
    exact st Hi H' g'
  · obtain ⟨d, hd, px⟩ := dn.at_ hi
    rw [List.getElem?_map] at hd
    obtain ⟨a', ha', ed⟩ := Option.map_eq_some_iff.mp hd
    subst ed
    have ml := List.mem_of_getElem? ha'
    refine ⟨wipe_set hj, lc_turn (env2 := (wipeE env vs).set j (.d (g a'))) ?_ hD p (fun Hi fi => ?_) (ht a' ml) (he a' ml) fun H2 p2 => ?_⟩
    · rw [List.length_map]
      have h1 := List.length_filter_le f (l.take i)
      have h2 : (l.take i).length ≤ l.length := by rw [List.length_take]; exact Nat.min_le_right _ _
      omega
    · exact (((o.fr f1).fr fi).wipe vs).set ⟨x, rfl, (g a').mono fi.b px⟩
    · rw [fil_snoc l f h i a' ha']
      exact p2
  · rw [hlen, List.take_length] at p
    exact lc_end f1 hD p q
theorem eo_lcL (l : List α) (g : α → D) (f : α → Bool) (h : α → D) (hl : ED tl env (dl (l.map g))) (hz : l.length < 90000) (hj : j ∈ vs)
    (ht : ∀ a ∈ l, ET t ((wipeE env vs).set j (.d (g a))) (f a)) (he : ∀ a ∈ l, f a = true → ED te ((wipeE env vs).set j (.d (g a))) (h a)) : EO (tLc (iList K tl) (gName j) t te vs) env ((l.filter f).map h) := by
  refine eo_lcG (S := fun a H xs => SqL K H a xs) l g f h hz hj (fun σ Hb H R e o q => ?_) (fun a xs te tt vs σ H1 D Qd Pv h0 hl hs hd => lc_list Pv h0 hl hs hd) ht he
  refine hl σ Hb H _ e o fun v Hb1 H1 f1 hp => ?_
  obtain ⟨a, ws, ev, ha, dn⟩ := hp
  exact ⟨a, ev, ⟨ws, Evl.sq_of (f1.s a _ ha)⟩, q a ws Hb1 H1 f1 dn fun Hi H2 fi => Evl.sq_of (fi.s a _ (fi.b a _ ha))⟩
theorem eo_lcT (l : List α) (g : α → D) (f : α → Bool) (h : α → D) (hl : ED tl env (dt K (l.map g))) (hz : l.length < 90000) (hj : j ∈ vs)
    (ht : ∀ a ∈ l, ET t ((wipeE env vs).set j (.d (g a))) (f a)) (he : ∀ a ∈ l, f a = true → ED te ((wipeE env vs).set j (.d (g a))) (h a)) : EO (tLc (iTup K tl) (gName j) t te vs) env ((l.filter f).map h) := by
  refine eo_lcG (S := fun a H xs => SqT K H a xs) l g f h hz hj (fun σ Hb H R e o q => ?_) (fun a xs te tt vs σ H1 D Qd Pv h0 hl hs hd => lc_tup Pv h0 hl hs hd) ht he
  refine hl σ Hb H _ e o fun v Hb1 H1 f1 hp => ?_
  obtain ⟨a, ws, ev, ha, dn⟩ := hp
  exact ⟨a, ev, ⟨ws, sq_t f1.s ha⟩, q a ws Hb1 H1 f1 dn fun Hi H2 fi => sq_t fi.s (fi.b a _ ha)⟩
/-- over a list of our own, at slot i -/
theorem eo_lcO {i : Nat} (l : List α) (g : α → D) (f : α → Bool) (h : α → D) (hl : env[i]? = some (.own (l.map g))) (hz : l.length < 90000) (hj : j ∈ vs)
    (ht : ∀ a ∈ l, ET t ((wipeE env vs).set j (.d (g a))) (f a)) (he : ∀ a ∈ l, f a = true → ED te ((wipeE env vs).set j (.d (g a))) (h a)) : EO (tLc (iList K (tVar i)) (gName j) t te vs) env ((l.filter f).map h) := by
  refine eo_lcG (S := fun a H xs => SqL K H a xs) l g f h hz hj (fun σ Hb H R e o q => ?_) (fun a xs te tt vs σ H1 D Qd Pv h0 hl hs hd => lc_list Pv h0 hl hs hd) ht he
  obtain ⟨a, ws, h1, h2, h3, h4⟩ := o.at_ i _ hl
  exact ⟨.ref a, h1, a, rfl, ⟨ws, Evl.sq_of h3⟩, q a ws Hb H (Fr.refl e) h4 fun Hi H2 fi => Evl.sq_of (fi.h.k h3)⟩
/-- over range(n), range(a, b) -/
theorem eo_lcR {n : Nat} {lo : Int} (f : Nat → Bool) (h : Nat → D) {wi : TI} (hw : ∀ σ Hb H (R : It → Hp → Prop), Ex Hb H → EnvOk env σ Hb H → (∀ Hb1 H1, Fr Hb H Hb1 H1 → R (Itr lo n) H1) → wi σ H R) (hz : n < 90000) (hj : j ∈ vs)
    (ht : ∀ a < n, ET t ((wipeE env vs).set j (.d (di (lo + a)))) (f a)) (he : ∀ a < n, f a = true → ED te ((wipeE env vs).set j (.d (di (lo + a)))) (h a)) : EO (tLc wi (gName j) t te vs) env (((List.range n).filter f).map h) := fun σ Hb H Q e o q => by
  refine hw σ Hb H _ e o fun Hb1 H1 f1 Dl hD => ?_
  refine lc_range (lo := lo) (n := n) (fun i H' => LcOk Hb1 H1 Dl ((((List.range n).take i).filter f).map h) H') (lc_0 f1.s hD) (fun i H' hi p => ?_) (fun H' p => ?_)
  · have ha' : (List.range n)[i]? = some i := by rw [List.getElem?_range hi]
    refine ⟨wipe_set hj, lc_turn (env2 := (wipeE env vs).set j (.d (di (lo + i)))) ?_ hD p (fun Hi fi => ?_) (ht i hi) (he i hi) fun H2 p2 => ?_⟩
    · rw [List.length_map]
      have h1 := List.length_filter_le f ((List.range n).take i)
      have h2 : ((List.range n).take i).length ≤ n := by rw [List.length_take, List.length_range]; exact Nat.min_le_right _ _
      omega
    · exact (((o.fr f1).fr fi).wipe vs).set ⟨_, rfl, rfl⟩
    · rw [fil_snoc _ f h i i ha']
      exact p2
  · rw [show (List.range n).take n = List.range n from List.take_of_length_le (by rw [List.length_range]; exact Nat.le_refl _)] at p
    exact lc_end f1 hD p q
theorem rg1 {n : Nat} (h : EA ta env [di (n : Int)]) (hz : n < 90000) : ∀ σ Hb H (R : It → Hp → Prop), Ex Hb H → EnvOk env σ Hb H → (∀ Hb1 H1, Fr Hb H Hb1 H1 → R (Itr 0 n) H1) → iRng1 ta σ H R := fun σ Hb H R e o q =>
  h σ Hb H _ e o fun vs Hb1 H1 f1 dn => by
    cases dn with
    | cons a r =>
      cases r
      have a' : _ = V.int (n : Int) := a
      subst a'
      exact ⟨n, rfl, by omega, by omega, by rw [Int.toNat_natCast]; exact q Hb1 H1 f1⟩
theorem eo_lcR1 {n : Nat} (f : Nat → Bool) (h : Nat → D) (hn : EA ta env [di (n : Int)]) (hz : n < 90000) (hj : j ∈ vs)
    (ht : ∀ a < n, ET t ((wipeE env vs).set j (.d (di (a : Int)))) (f a)) (he : ∀ a < n, f a = true → ED te ((wipeE env vs).set j (.d (di (a : Int)))) (h a)) : EO (tLc (iRng1 ta) (gName j) t te vs) env (((List.range n).filter f).map h) :=
  eo_lcR (lo := 0) f h (rg1 hn hz) hz hj (fun a ha => by rw [Int.zero_add]; exact ht a ha) fun a ha hf => by rw [Int.zero_add]; exact he a ha hf
end
theorem fil_all {α : Type} (l : List α) : l.filter (fun _ => true) = l := List.filter_eq_self.mpr fun _ _ => rfl

/-! ### statements -/
/-- the state in a def's body: E its entry -/
structure StOk (Hb0 H0 : Hp) (env : Env') (σ : L2.St) (Hb H : Hp) : Prop where
  sl : EnvOk env σ Hb H
  fr : Fr Hb0 H0 Hb H
  own : ∀ (i : Nat) (xs : List D), env[i]? = some (.own xs) → ∀ a, σ[i]? = some (some (.ref a)) → H0 a = none
  one : ∀ (i j : Nat) (xs ys : List D), env[i]? = some (.own xs) → env[j]? = some (.own ys) → ∀ a, σ[i]? = some (some (.ref a)) → σ[j]? = some (some (.ref a)) → i = j
/-- the block t leads from env to env' -/
def SB (t : TS) (env env' : Env') : Prop := ∀ Hb0 H0 σ Hb H (D : Ends), StOk Hb0 H0 env σ Hb H → (∀ σ' Hb' H', StOk Hb0 H0 env' σ' Hb' H' → Ex Hb Hb' → D.nx σ' H') → t D σ H
/-- the block t hands back r -/
def SR (t : TS) (env : Env') (r : D) : Prop := ∀ Hb0 H0 σ Hb H (D : Ends), StOk Hb0 H0 env σ Hb H → (∀ v Hb' H', Fr Hb0 H0 Hb' H' → r.p v Hb' → D.rt v H') → t D σ H
theorem StOk.fr2 {Hb0 H0 : Hp} {env : Env'} {σ : L2.St} {Hb H Hb2 H2 : Hp} (o : StOk Hb0 H0 env σ Hb H) (f : Fr Hb H Hb2 H2) : StOk Hb0 H0 env σ Hb2 H2 := ⟨o.sl.fr f, o.fr.trans f, o.own, o.one⟩
theorem set_own {env : Env'} {i j : Nat} {x : Sl} {xs : List D} (h : (env.set j x)[i]? = some (.own xs)) : (i = j ∧ x = .own xs ∧ j < env.length) ∨ (i ≠ j ∧ env[i]? = some (.own xs)) := by
  by_cases q : j = i
  · subst q
    by_cases l : j < env.length
    · rw [List.getElem?_set_self l] at h
      exact .inl ⟨rfl, Option.some.inj h, l⟩
    · rw [List.getElem?_eq_none (by rw [List.length_set]; omega)] at h
      cases h
  · rw [List.getElem?_set_ne q] at h
    exact .inr ⟨fun z => q z.symm, h⟩
/-- a slot stored -/
theorem StOk.set {Hb0 H0 : Hp} {env : Env'} {σ : L2.St} {Hb H : Hp} {j : Nat} {x : Sl} {v : V} (o : StOk Hb0 H0 env σ Hb H) (h : SlOk x (some (some v)) Hb H) (hx : ∀ xs, x ≠ .own xs) : StOk Hb0 H0 (env.set j x) (σ.set j (some v)) Hb H := by
  refine ⟨o.sl.set h, o.fr, fun i xs e a ea => ?_, fun i k xs ys e e' a ea ea' => ?_⟩
  · rcases set_own e with ⟨_, z, _⟩ | ⟨ne, e1⟩
    · exact absurd z (hx xs)
    · rw [List.getElem?_set_ne (fun z => ne z.symm)] at ea
      exact o.own i xs e1 a ea
  · rcases set_own e with ⟨_, z, _⟩ | ⟨ne, e1⟩
    · exact absurd z (hx xs)
    · rcases set_own e' with ⟨_, z, _⟩ | ⟨ne', e1'⟩
      · exact absurd z (hx ys)
      · rw [List.getElem?_set_ne (fun z => ne z.symm)] at ea
        rw [List.getElem?_set_ne (fun z => ne' z.symm)] at ea'
        exact o.one i k xs ys e1 e1' a ea ea'
/-- a new list of our own -/
theorem StOk.setO {Hb0 H0 : Hp} {env : Env'} {σ : L2.St} {Hb H H1 : Hp} {j : Nat} {xs : List D} {p : Addr} {vs : List V} (o : StOk Hb0 H0 env σ Hb H) (e1 : Gx H1 H) (o1 : ∀ (i : Nat) (ys : List D), env[i]? = some (.own ys) → ∀ a, σ[i]? = some (some (.ref a)) → H1 a ≠ none) (h01 : Gx H0 H1)
    (hp : H1 p = none) (hb : Hb p = none) (hl : H p = some (.lst vs)) (hd : Dn xs vs Hb) : StOk Hb0 H0 (env.set j (.own xs)) (σ.set j (some (.ref p))) Hb H := by
  refine ⟨o.sl.set ⟨p, vs, rfl, hb, hl, hd⟩, o.fr, fun i ys e a ea => ?_, fun i k ys zs e e' a ea ea' => ?_⟩
  · rcases set_own e with ⟨z, _, l⟩ | ⟨ne, e2⟩
    · subst z
      rw [List.getElem?_set_self (by rw [o.sl.len]; exact l)] at ea
      cases ea
      exact h01.no hp
    · rw [List.getElem?_set_ne (fun z => ne z.symm)] at ea
      exact o.own i ys e2 a ea
  · rcases set_own e with ⟨z, _, l⟩ | ⟨ne, e2⟩
    · rcases set_own e' with ⟨z', _, _⟩ | ⟨ne', e2'⟩
      · rw [z, z']
      · subst z
        rw [List.getElem?_set_self (by rw [o.sl.len]; exact l)] at ea
        rw [List.getElem?_set_ne (fun z => ne' z.symm)] at ea'
        cases ea
        exact absurd hp (o1 k zs e2' p ea')
    · rcases set_own e' with ⟨z', _, l⟩ | ⟨ne', e2'⟩
      · subst z'
        rw [List.getElem?_set_self (by rw [o.sl.len]; exact l)] at ea'
        rw [List.getElem?_set_ne (fun z => ne z.symm)] at ea
        cases ea'
        exact absurd hp (o1 i ys e2 p ea)
      · rw [List.getElem?_set_ne (fun z => ne z.symm)] at ea
        rw [List.getElem?_set_ne (fun z => ne' z.symm)] at ea'
        exact o.one i k ys zs e2 e2' a ea ea'
theorem StOk.live {Hb0 H0 : Hp} {env : Env'} {σ : L2.St} {Hb H : Hp} (o : StOk Hb0 H0 env σ Hb H) : ∀ (i : Nat) (ys : List D), env[i]? = some (.own ys) → ∀ a, σ[i]? = some (some (.ref a)) → H a ≠ none := fun i ys e a ea => by
  obtain ⟨b, vs, h1, _, h3, _⟩ := o.sl.at_ i _ e
  rw [ea] at h1
  cases h1
  rw [h3]
  exact fun z => by cases z
section
variable {env env' env2 : Env'} {ta tb te : TE} {t u : TT} {tr : TA} {x y d r : D} {xs ys : List D} {s s' s2 : TS} {b : Bool} {K : PySem.W.Frag} {i j : Nat}
theorem sb_seq (h : SB s env env') (h2 : SB s' env' env2) : SB (tSeq s s') env env2 := fun Hb0 H0 σ Hb H D o k => h Hb0 H0 σ Hb H { D with nx := s' D } o fun σ1 Hb1 H1 o1 x1 => h2 Hb0 H0 σ1 Hb1 H1 D o1 fun σ2 Hb2 H2 o2 x2 => k σ2 Hb2 H2 o2 (x1.trans x2)
theorem sr_seq (h : SB s env env') (h2 : SR s' env' r) : SR (tSeq s s') env r := fun Hb0 H0 σ Hb H D o k => h Hb0 H0 σ Hb H { D with nx := s' D } o fun σ1 Hb1 H1 o1 _ => h2 Hb0 H0 σ1 Hb1 H1 D o1 k
theorem sb_next : SB tNext env env := fun Hb0 H0 σ Hb H D o k => k σ Hb H o (Evl.Ex.refl _)
theorem sb_asg (h : ED te env d) : SB (tAsg te (gName i)) env (env.set i (.d d)) := fun Hb0 H0 σ Hb H D o k =>
  h σ Hb H _ o.fr.s o.sl fun v Hb2 H2 f p => k _ Hb2 H2 ((o.fr2 f).set ⟨v, rfl, p⟩ fun _ z => by cases z) f.b
theorem sb_own (h : EO te env xs) : SB (tAsg te (gName i)) env (env.set i (.own xs)) := fun Hb0 H0 σ Hb H D o k =>
  h σ Hb H _ o.fr.s o.sl fun p vs Hb2 H2 hp hb f hl hd => k _ Hb2 H2 ((o.fr2 f).setO (H1 := H) f.h o.live o.fr.h hp hb hl hd) f.b
theorem sr_ret (h : ED te env r) : SR (tRet te) env r := fun Hb0 H0 σ Hb H D o k => h σ Hb H _ o.fr.s o.sl fun v Hb2 H2 f p => k v Hb2 H2 (o.fr.trans f) p
theorem sb_drop (h : ED te env d) : SB (tDrop te) env env := fun Hb0 H0 σ Hb H D o k => h σ Hb H _ o.fr.s o.sl fun v Hb2 H2 f p => k σ Hb2 H2 (o.fr2 f) f.b
theorem sr_if (h : ET t env b) (h1 : b = true → SR s env r) (h2 : b = false → SR s' env r) : SR (tIfS t s s') env r := fun Hb0 H0 σ Hb H D o k => h σ Hb H _ o.fr.s o.sl fun Hb2 H2 f => by
  cases b with
  | true => exact h1 rfl Hb0 H0 σ Hb2 H2 D (o.fr2 f) k
  | false => exact h2 rfl Hb0 H0 σ Hb2 H2 D (o.fr2 f) k
/-- if c: return ..; then the rest -/
theorem sr_when (h : ET t env b) (h1 : b = true → SR s env r) (h2 : b = false → SR s2 env r) : SR (tSeq (tIfS t s tNext) s2) env r := fun Hb0 H0 σ Hb H D o k => h σ Hb H _ o.fr.s o.sl fun Hb2 H2 f => by
  cases b with
  | true => exact h1 rfl Hb0 H0 σ Hb2 H2 { D with nx := s2 D } (o.fr2 f) k
  | false => exact h2 rfl Hb0 H0 σ Hb2 H2 D (o.fr2 f) k
/-- .. never taken -/
theorem sb_not (h : ET t env false) : SB (tIfS t s tNext) env env := fun Hb0 H0 σ Hb H D o k => h σ Hb H _ o.fr.s o.sl fun Hb2 H2 f => k σ Hb2 H2 (o.fr2 f) f.b
theorem sb_if (h : ET t env b) (h1 : b = true → SB s env env') (h2 : b = false → SB s' env env') : SB (tIfS t s s') env env' := fun Hb0 H0 σ Hb H D o k => h σ Hb H _ o.fr.s o.sl fun Hb2 H2 f => by
  cases b with
  | true => exact h1 rfl Hb0 H0 σ Hb2 H2 D (o.fr2 f) fun σ' Hb' H' o' x => k σ' Hb' H' o' (f.b.trans x)
  | false => exact h2 rfl Hb0 H0 σ Hb2 H2 D (o.fr2 f) fun σ' Hb' H' o' x => k σ' Hb' H' o' (f.b.trans x)
/-- a list of our own, kept from now on -/
theorem StOk.keep {Hb0 H0 : Hp} {σ : L2.St} {Hb H : Hp} (o : StOk Hb0 H0 env σ Hb H) (h : env[i]? = some (.own xs)) : ∃ Hb2, StOk Hb0 H0 (env.set i (.d (dl xs))) σ Hb2 H ∧ Ex Hb Hb2 := by
  obtain ⟨a, vs, h1, h2, h3, h4⟩ := o.sl.at_ i _ h
  have fb : Ex Hb (upd Hb a (.lst vs)) := Evl.Ex.new h2
  have fs : Ex (upd Hb a (.lst vs)) H := fun c u hc => by
    by_cases z : c = a
    · subst z
      rw [upd_same] at hc
      rw [h3]
      exact hc
    · rw [upd_ne z] at hc
      exact o.fr.s c u hc
  refine ⟨upd Hb a (.lst vs), ⟨⟨by rw [List.length_set]; exact o.sl.len, fun k y e => ?_⟩, ⟨o.fr.b.trans fb, fs, o.fr.h, fun c h1' h2' => ?_⟩, fun k ys e c ec => ?_, fun k l ys zs e e' c ec ec' => ?_⟩, fb⟩
  · by_cases q : i = k
    · subst q
      have l : i < env.length := (List.getElem?_eq_some_iff.mp h).1
      rw [List.getElem?_set_self l] at e
      cases e
      exact ⟨.ref a, h1, a, vs, rfl, upd_same, h4.mono fb⟩
    · rw [List.getElem?_set_ne q] at e
      have z := o.sl.at_ k y e
      cases y with
      | no => exact trivial
      | d d' =>
        obtain ⟨v, e1, e2⟩ := z
        exact ⟨v, e1, d'.mono fb e2⟩
      | own zs =>
        obtain ⟨b', ws, e1, e2, e3, e4⟩ := z
        have ne : b' ≠ a := fun w => q (o.one i k xs zs h e a h1 (by rw [← w]; exact e1))
        exact ⟨b', ws, e1, by rw [upd_ne ne]; exact e2, e3, e4.mono fb⟩
      | dict bb kvs =>
        obtain ⟨b', ws, e1, e2, e3, e4⟩ := z
        have ne : b' ≠ a := fun w => by
          subst w
          cases bb with
          | true => obtain ⟨ob, e3⟩ := e3; rw [h3] at e3; cases e3
          | false => have e3 : H b' = some (.dT ws) := e3; rw [h3] at e3; cases e3
        exact ⟨b', ws, e1, by rw [upd_ne ne]; exact e2, e3, e4.mono fb⟩
      | dictI bb kvs =>
        obtain ⟨b', ws, e1, e2, e3, e4⟩ := z
        have ne : b' ≠ a := fun w => by
          subst w
          cases bb with
          | true => obtain ⟨ob, e3⟩ := e3; rw [h3] at e3; cases e3
          | false => have e3 : H b' = some (.dK ws) := e3; rw [h3] at e3; cases e3
        exact ⟨b', ws, e1, by rw [upd_ne ne]; exact e2, e3, e4.mono fb⟩
      | dP P q' d' =>
        obtain ⟨⟨v, e1, e2⟩, t, tn⟩ := z
        have ne : P ≠ a := fun w => by
          obtain ⟨ps, hp, _⟩ := t
          rw [w, h3] at hp
          cases hp
        exact ⟨⟨v, e1, d'.mono fb e2⟩, t, by rw [upd_ne ne]; exact tn⟩
  · rw [upd_ne (h1'.ne (o.own i xs h a h1))]
    exact o.fr.o c h1' h2'
  · rcases set_own e with ⟨_, z, _⟩ | ⟨_, e1⟩
    · cases z
    · exact o.own k ys e1 c ec
  · rcases set_own e with ⟨_, z, _⟩ | ⟨_, e1⟩
    · cases z
    · rcases set_own e' with ⟨_, z, _⟩ | ⟨_, e1'⟩
      · cases z
      · exact o.one k l ys zs e1 e1' c ec ec'
theorem sr_keep (i : Nat) (h : env[i]? = some (.own xs)) (h2 : SR s (env.set i (.d (dl xs))) r) : SR s env r := fun Hb0 H0 σ Hb H D o k => by
  obtain ⟨Hb2, o2, _⟩ := o.keep h
  exact h2 Hb0 H0 σ Hb2 H D o2 k
theorem sb_keep (i : Nat) (h : env[i]? = some (.own xs)) (h2 : SB s (env.set i (.d (dl xs))) env') : SB s env env' := fun Hb0 H0 σ Hb H D o k => by
  obtain ⟨Hb2, o2, x⟩ := o.keep h
  exact h2 Hb0 H0 σ Hb2 H D o2 fun σ' Hb' H' o' x' => k σ' Hb' H' o' (x.trans x')
theorem sb_eq (h : SB s env env') (e : env' = env2) : SB s env env2 := e ▸ h
/-- our own list written -/
theorem StOk.put {Hb0 H0 : Hp} {σ : L2.St} {Hb H : Hp} {ws : List V} {a : Addr} (o : StOk Hb0 H0 env σ Hb H) (h : env[i]? = some (.own xs)) (ea : σ[i]? = some (some (.ref a))) (hd : Dn ys ws Hb) : StOk Hb0 H0 (env.set i (.own ys)) σ Hb (upd H a (.lst ws)) := by
  obtain ⟨a', vs, h1, h2, h3, h4⟩ := o.sl.at_ i _ h
  rw [ea] at h1
  cases h1
  have l : i < env.length := (List.getElem?_eq_some_iff.mp h).1
  have h0 := o.own i xs h a ea
  refine ⟨⟨by rw [List.length_set]; exact o.sl.len, fun k y e => ?_⟩, ⟨o.fr.b, fun c u hc => ?_, o.fr.h.over h0 h3, o.fr.o⟩, fun k zs e c ec => ?_, fun k m zs us e e' c ec ec' => ?_⟩
  · by_cases q : i = k
    · subst q
      rw [List.getElem?_set_self l] at e
      cases e
      exact ⟨a, ws, ea, h2, upd_same, hd⟩
    · rw [List.getElem?_set_ne q] at e
      have z := o.sl.at_ k y e
      cases y with
      | no => exact trivial
      | d d' => exact z
      | own zs =>
        obtain ⟨b', us, e1, e2, e3, e4⟩ := z
        have ne : b' ≠ a := fun w => q (o.one i k xs zs h e a ea (by rw [← w]; exact e1))
        exact ⟨b', us, e1, e2, by rw [upd_ne ne]; exact e3, e4⟩
      | dict bb kvs =>
        obtain ⟨b', us, e1, e2, e3, e4⟩ := z
        have ne : b' ≠ a := fun w => by
          subst w
          cases bb with
          | true => obtain ⟨ob, e3⟩ := e3; rw [h3] at e3; cases e3
          | false => have e3 : H b' = some (.dT us) := e3; rw [h3] at e3; cases e3
        exact ⟨b', us, e1, e2, by rw [upd_ne ne]; exact e3, e4⟩
      | dictI bb kvs =>
        obtain ⟨b', us, e1, e2, e3, e4⟩ := z
        have ne : b' ≠ a := fun w => by
          subst w
          cases bb with
          | true => obtain ⟨ob, e3⟩ := e3; rw [h3] at e3; cases e3
          | false => have e3 : H b' = some (.dK us) := e3; rw [h3] at e3; cases e3
        exact ⟨b', us, e1, e2, by rw [upd_ne ne]; exact e3, e4⟩
      | dP P q' d' => exact ⟨z.1, tabs_put h3 (fun _ z => by cases z) (fun _ z => by cases z) z.2.1, z.2.2⟩
  · rw [upd_ne (fun z => by rw [z, h2] at hc; cases hc)]
    exact o.fr.s c u hc
  · rcases set_own e with ⟨z, _, _⟩ | ⟨_, e1⟩
    · subst z
      rw [ea] at ec
      cases ec
      exact h0
    · exact o.own k zs e1 c ec
  · have back : ∀ {n : Nat} {vs : List D}, (env.set i (.own ys))[n]? = some (.own vs) → ∃ vs', env[n]? = some (.own vs') := fun {n vs} e => by
      rcases set_own e with ⟨z, _, _⟩ | ⟨_, e1⟩
      · exact ⟨xs, by rw [z]; exact h⟩
      · exact ⟨vs, e1⟩
    obtain ⟨_, e1⟩ := back e
    obtain ⟨_, e2⟩ := back e'
    exact o.one k m _ _ e1 e2 c ec ec'
/-- found.append(e) -/
theorem sb_app (h : env[i]? = some (.own xs)) (he : ED te env d) (hz : xs.length < 90000) : SB (tDrop (tBM K "list" rAppend (tVar i) (tCons te tNil))) env (env.set i (.own (xs ++ [d]))) := fun Hb0 H0 σ Hb H D o k => by
  obtain ⟨a, vs, h1, h2, h3, h4⟩ := o.sl.at_ i _ h
  refine ⟨.ref a, h1, .inl ⟨rfl, _, .inl (.inl h3)⟩, he σ Hb H _ o.fr.s o.sl fun v Hb2 H2 f p => ⟨a, vs, v, rfl, rfl, f.h.k h3, Evl.sz_lt (by rw [← h4.len]; omega), ?_⟩⟩
  exact k σ Hb2 _ ((o.fr2 f).put h h1 ((h4.mono f.b).app (.cons p .nil))) f.b
end
end Kb
end
section
/-! Kb5: operators and calls by data; loops; defs. -/
namespace Kb
open PySem PySem.Spec PyProof.Rows L2

/-! ### operators -/
section
variable {K : PySem.W.Frag} {a b : Int} {xs ys : List D}
theorem od_i0 {g : Int → Int → V} : OD (rI0 g) (di a) (di b) (dv (g a b)) := fun u v Hb H Q e hu hv q => ⟨a, b, hu, hv, q _ Hb H (Fr.refl e) rfl⟩
theorem od_iC {C : Int → Int → Prop} {g : Int → Int → V} (h : C a b) : OD (rI C g) (di a) (di b) (dv (g a b)) := fun u v Hb H Q e hu hv q => ⟨a, b, hu, hv, h, q _ Hb H (Fr.refl e) rfl⟩
theorem od_eqi : OD rEq (di a) (di b) (db (decide (a = b))) := fun u v Hb H Q e hu hv q => by
  have hu' : u = .int a := hu
  have hv' : v = .int b := hv
  subst hu' hv'
  exact ⟨rfl, q _ Hb H (Fr.refl e) (by show V.bl _ = V.bl _; congr 1; simp)⟩
theorem od_nei : OD rNe (di a) (di b) (db (!decide (a = b))) := fun u v Hb H Q e hu hv q => by
  have hu' : u = .int a := hu
  have hv' : v = .int b := hv
  subst hu' hv'
  exact ⟨rfl, q _ Hb H (Fr.refl e) (by show V.bl _ = V.bl _; congr 2; simp)⟩
theorem od_eqs {x y : V} (h : scal x y = true) : OD rEq (dv x) (dv y) (db (decide (x = y))) := fun u v Hb H Q e hu hv q => by
  have hu' : u = x := hu
  have hv' : v = y := hv
  subst hu' hv'
  exact ⟨h, q _ Hb H (Fr.refl e) rfl⟩
theorem od_nes {x y : V} (h : scal x y = true) : OD rNe (dv x) (dv y) (db (!decide (x = y))) := fun u v Hb H Q e hu hv q => by
  have hu' : u = x := hu
  have hv' : v = y := hv
  subst hu' hv'
  exact ⟨h, q _ Hb H (Fr.refl e) rfl⟩
theorem ud_neg : UD (rU fun i => .int (-i)) (di a) (di (-a)) := fun u Hb H Q e hu q => ⟨a, hu, q _ Hb H (Fr.refl e) rfl⟩
theorem Dn.eq_map {α : Type} {f : α → V} {l : List α} {vs : List V} {H : Hp} (h : Dn (l.map fun a => dv (f a)) vs H) : vs = l.map f := by
  induction l generalizing vs with
  | nil => cases h; rfl
  | cons a r ih =>
    cases h with
    | cons p q =>
      have p' : _ = f a := p
      rw [p', ih q]
      rfl
theorem sq_l {p : Addr} {vs : List V} {Hb H : Hp} (e : Ex Hb H) (h : Hb p = some (.lst vs)) : SqL K H p vs := Evl.sq_of (e p _ h)
theorem od_cat (hz : xs.length + ys.length ≤ 100000) : OD rCat (dl xs) (dl ys) (dl (xs ++ ys)) := fun u v Hb H Q e hu hv q => by
  obtain ⟨a, vs, rfl, h1, d1⟩ := hu
  obtain ⟨b, ws, rfl, h2, d2⟩ := hv
  exact ⟨a, b, vs, ws, rfl, rfl, e a _ h1, e b _ h2, Evl.sz_of (by rw [← d1.len, ← d2.len]; exact hz), fun p hp => q _ _ _ (Fr.new e hp) ⟨p, _, rfl, upd_same, (d1.app d2).mono (Fr.new e hp).b⟩⟩
theorem od_catA (hz : xs.length + ys.length ≤ 100000) : OD (rCatA K) (dt K xs) (dt K ys) (dt K (xs ++ ys)) := fun u v Hb H Q e hu hv q => by
  obtain ⟨a, vs, rfl, h1, d1⟩ := hu
  obtain ⟨b, ws, rfl, h2, d2⟩ := hv
  refine ⟨a, b, vs, ws, rfl, rfl, sq_t e h1, sq_t e h2, Evl.sz_of (by rw [← d1.len, ← d2.len]; exact hz), fun z => ?_, fun z w => ?_, fun z w p hp => ?_⟩
  · subst z
    cases d1
    exact q _ _ _ (Fr.refl e) ⟨b, ws, rfl, h2, d2⟩
  · subst w
    cases d2
    exact q _ _ _ (Fr.refl e) ⟨a, vs, rfl, h1, by rw [List.append_nil]; exact d1⟩
  · exact q _ _ _ (Fr.new e hp) ⟨p, _, rfl, upd_same, (d1.app d2).mono (Fr.new e hp).b⟩
theorem inV_int (x : Int) (l : List Int) : inV (.int x) (l.map V.int) = decide (x ∈ l) := by
  unfold inV
  induction l with
  | nil => rfl
  | cons y r ih =>
    rw [List.map_cons, List.any_cons, ih]
    by_cases h : y = x
    · subst h; simp [eqV]
    · have h' : ¬ x = y := fun z => h z.symm
      simp [eqV, h, h']
theorem flat_int (l : List Int) : (l.map V.int).all flatV = true := by
  rw [List.all_map]
  exact List.all_eq_true.mpr fun _ _ => rfl
theorem od_inT {neg : Bool} {l : List Int} : OD (rIn K neg) (di a) (dt K (l.map fun i => di i)) (db (if neg then !decide (a ∈ l) else decide (a ∈ l))) := fun u v Hb H Q e hu hv q => by
  obtain ⟨p, vs, rfl, h1, d1⟩ := hv
  have hu' : u = .int a := hu
  subst hu'
  obtain rfl := Dn.eq_map (f := V.int) d1
  refine ⟨p, _, rfl, .inr (sq_t e h1), rfl, flat_int l, q _ _ _ (Fr.refl e) ?_⟩
  rw [inV_int]
  rfl
theorem od_inL {neg : Bool} {l : List Int} : OD (rIn K neg) (di a) (dl (l.map fun i => di i)) (db (if neg then !decide (a ∈ l) else decide (a ∈ l))) := fun u v Hb H Q e hu hv q => by
  obtain ⟨p, vs, rfl, h1, d1⟩ := hv
  have hu' : u = .int a := hu
  subst hu'
  obtain rfl := Dn.eq_map (f := V.int) d1
  refine ⟨p, _, rfl, .inl (sq_l e h1), rfl, flat_int l, q _ _ _ (Fr.refl e) ?_⟩
  rw [inV_int]
  rfl
theorem atI_nat' {xs : List V} {i : Nat} {v : V} (h : xs[i]? = some v) : atI xs (i : Int) = some v := by
  have l := (List.getElem?_eq_some_iff.mp h).1
  unfold atI ixN
  rw [if_pos (by omega), if_pos (by omega)]
  simpa using h
theorem od_ixL {i : Nat} {x : D} (h : xs[i]? = some x) : OD (rIxL K) (dl xs) (di (i : Int)) x := fun u v Hb H Q e hu hv q => by
  obtain ⟨p, vs, rfl, h1, d1⟩ := hu
  have hv' : v = .int i := hv
  subst hv'
  obtain ⟨w, hw, pw⟩ := d1.get h
  exact ⟨p, vs, i, w, rfl, rfl, sq_l e h1, atI_nat' hw, q _ _ _ (Fr.refl e) pw⟩
theorem od_ixT {i : Nat} {x : D} (h : xs[i]? = some x) : OD (rIxT K) (dt K xs) (di (i : Int)) x := fun u v Hb H Q e hu hv q => by
  obtain ⟨p, vs, rfl, h1, d1⟩ := hu
  have hv' : v = .int i := hv
  subst hv'
  obtain ⟨w, hw, pw⟩ := d1.get h
  exact ⟨p, vs, i, w, rfl, rfl, sq_t e h1, atI_nat' hw, q _ _ _ (Fr.refl e) pw⟩
end

/-! ### calls of built-ins -/
section
variable {K : PySem.W.Frag} {a b : Int} {xs ys : List D} {env : Env'} {te : TE} {x : D}
abbrev rLenS (K : PySem.W.Frag) : List V → Hp → VK → Prop := fun xs H Q => ∃ p ys, xs = [.ref p] ∧ (SqL K H p ys ∨ SqT K H p ys) ∧ Q (.int ys.length) H
theorem cd1 {r : List V → Hp → VK → Prop} (h : ∀ u Hb H Q, Ex Hb H → x.p u Hb → (∀ w Hb2 H2, Fr Hb H Hb2 H2 → b2.p w Hb2 → Q w H2) → r [u] H Q) : CD r [x] b2 := fun us Hb H Q e d q => by
  cases d with
  | cons p t =>
    cases t
    exact h _ Hb H Q e p q
theorem cd_lenL : CD (rLenS K) [dl xs] (di xs.length) := cd1 fun u Hb H Q e hu q => by
  obtain ⟨p, vs, rfl, h1, d1⟩ := hu
  exact ⟨p, vs, rfl, .inl (sq_l e h1), q _ _ _ (Fr.refl e) (by rw [d1.len]; rfl)⟩
theorem cd_lenT : CD (rLenS K) [dt K xs] (di xs.length) := cd1 fun u Hb H Q e hu q => by
  obtain ⟨p, vs, rfl, h1, d1⟩ := hu
  exact ⟨p, vs, rfl, .inr (sq_t e h1), q _ _ _ (Fr.refl e) (by rw [d1.len]; rfl)⟩
theorem cd_sum {l : List Int} : CD (rSum K) [dl (l.map fun i => di i)] (di l.sum) := cd1 fun u Hb H Q e hu q => by
  obtain ⟨p, vs, rfl, h1, d1⟩ := hu
  obtain rfl := Dn.eq_map (f := V.int) d1
  exact ⟨p, l, rfl, sq_l e h1, q _ _ _ (Fr.refl e) rfl⟩
theorem cd_any {l : List Bool} : CD (rAny K) [dl (l.map fun i => db i)] (db (l.any id)) := cd1 fun u Hb H Q e hu q => by
  obtain ⟨p, vs, rfl, h1, d1⟩ := hu
  obtain rfl := Dn.eq_map (f := V.bl) d1
  exact ⟨p, l, rfl, sq_l e h1, q _ _ _ (Fr.refl e) rfl⟩
theorem cd_all {l : List Bool} : CD (rAll K) [dl (l.map fun i => db i)] (db (l.all id)) := cd1 fun u Hb H Q e hu q => by
  obtain ⟨p, vs, rfl, h1, d1⟩ := hu
  obtain rfl := Dn.eq_map (f := V.bl) d1
  exact ⟨p, l, rfl, sq_l e h1, q _ _ _ (Fr.refl e) rfl⟩
theorem cd_abs : CD (fun xs H Q => ∃ i, xs = [V.int i] ∧ Q (.int (if i < 0 then -i else i)) H) [di a] (di (a.natAbs : Int)) := cd1 fun u Hb H Q e hu q =>
  ⟨a, by rw [show u = V.int a from hu], q _ _ _ (Fr.refl e) (by show V.int _ = V.int _; congr 1; split <;> omega)⟩
theorem cd_int : CD (fun xs H Q => (∃ i, xs = [V.int i] ∧ Q (.int i) H) ∨ ∃ k, xs = [V.bl k] ∧ Q (.int (if k then 1 else 0)) H) [di a] (di a) := cd1 fun u Hb H Q e hu q =>
  .inl ⟨a, by rw [show u = V.int a from hu], q _ _ _ (Fr.refl e) rfl⟩
theorem cd_intB {k : Bool} : CD (fun xs H Q => (∃ i, xs = [V.int i] ∧ Q (.int i) H) ∨ ∃ k, xs = [V.bl k] ∧ Q (.int (if k then 1 else 0)) H) [db k] (di (if k then 1 else 0)) := cd1 fun u Hb H Q e hu q =>
  .inr ⟨k, by rw [show u = V.bl k from hu], q _ _ _ (Fr.refl e) rfl⟩
theorem cd_str (h : a.natAbs.log2 < 1920) : CD (fun xs H Q => ∃ i, xs = [V.int i] ∧ i.natAbs.log2 < 1920 ∧ Q (.str (toString i)) H) [di a] (ds (toString a)) := cd1 fun u Hb H Q e hu q =>
  ⟨a, by rw [show u = V.int a from hu], h, q _ _ _ (Fr.refl e) rfl⟩
theorem dn_map {α : Type} {f : α → V} {l : List α} {H : Hp} : Dn (l.map fun a => dv (f a)) (l.map f) H := by
  induction l with
  | nil => exact .nil
  | cons a r ih => exact .cons rfl ih
theorem Dn.rev {H : Hp} : ∀ {ds : List D} {vs : List V}, Dn ds vs H → Dn ds.reverse vs.reverse H
  | _, _, .nil => .nil
  | _, _, .cons a r => by
    rw [List.reverse_cons, List.reverse_cons]
    exact Dn.app (Dn.rev r) (.cons a .nil)
/-- sorted of ints: the sorted list -/
theorem ed_sorted {l l' : List Int} {t : TA} (ht : EA t env [dl (l.map fun i => di i)]) (hz : l.length < 64) (h : ∀ m : List Int, m.Perm l → m.Pairwise (· ≤ ·) → m = l') : EO (tCB (rSorted K) t) env (l'.map fun i => di i) := fun σ Hb H Q e o q =>
  ht σ Hb H _ e o fun us Hb2 H2 f2 d => by
    cases d with
    | cons hu t =>
      cases t
      obtain ⟨p, vs, rfl, h1, d1⟩ := hu
      obtain rfl := Dn.eq_map (f := V.int) d1
      refine ⟨p, l, rfl, sq_l f2.s h1, hz, fun m p' hm hs hp => ?_⟩
      rw [h m hm hs]
      refine q p' _ _ _ (f2.h.no hp) (no_of f2.s hp) (f2.trans (Fr.newO f2.s hp)) upd_same dn_map
/-- tuple(a list) -/
theorem ed_tupL (h : ED te env (dl xs)) : ED (tThen te (kTup K)) env (dt K xs) := fun σ Hb H Q e o q =>
  h σ Hb H _ e o fun v Hb2 H2 f2 hp => by
    obtain ⟨p, vs, rfl, h1, d1⟩ := hp
    exact .inl ⟨p, vs, rfl, sq_l f2.s h1, fun r hr => q _ _ _ (f2.trans (Fr.new f2.s hr)) ⟨r, vs, rfl, upd_same, d1.mono (Fr.new f2.s hr).b⟩⟩
theorem ed_tupT (h : ED te env (dt K xs)) : ED (tThen te (kTup K)) env (dt K xs) := fun σ Hb H Q e o q =>
  h σ Hb H _ e o fun v Hb2 H2 f2 hp => by
    obtain ⟨p, vs, rfl, h1, d1⟩ := hp
    exact .inr ⟨p, vs, rfl, sq_t f2.s h1, q _ _ _ f2 ⟨p, vs, rfl, h1, d1⟩⟩
/-- list(range(n)), tuple(range(n)) -/
theorem rgV_nat (n : Nat) : rgV 0 (n : Int) = (List.range n).map fun (i : Nat) => V.int (i : Int) := by
  unfold rgV
  simp
theorem ed_tupRg {n : Nat} (h : ED te env (di (n : Int))) (hz : n < 90000) : ED (tTupRg (tRg1 te)) env (dt K ((List.range n).map fun (i : Nat) => di (i : Int))) := fun σ Hb H Q e o q =>
  h σ Hb H _ e o fun v Hb2 H2 f2 hp => ⟨n, hp, ⟨by omega, by omega, by omega, by omega, by simp; omega⟩, fun r hr => q _ _ _ (f2.trans (Fr.new f2.s hr)) ⟨r, _, rfl, upd_same, by rw [rgV_nat]; exact dn_map⟩⟩
theorem eo_lstRg {n : Nat} (h : ED te env (di (n : Int))) (hz : n < 90000) : EO (tLstRg (tRg1 te)) env ((List.range n).map fun (i : Nat) => di (i : Int)) := fun σ Hb H Q e o q =>
  h σ Hb H _ e o fun v Hb2 H2 f2 hp => ⟨n, hp, ⟨by omega, by omega, by omega, by omega, by simp; omega⟩, fun r hr => q r _ _ _ (f2.h.no hr) (no_of f2.s hr) (f2.trans (Fr.newO f2.s hr)) upd_same (by rw [rgV_nat]; exact dn_map)⟩
/-- list(list) -/
theorem eo_lstL {t : TA} (ht : EA t env [dl xs]) : EO (tCB (fun xs H Q => ∃ p ys, xs = [V.ref p] ∧ (SqL K H p ys ∨ SqT K H p ys) ∧ ∀ l, H l = none → Q (.ref l) (upd H l (.lst ys))) t) env xs := fun σ Hb H Q e o q =>
  ht σ Hb H _ e o fun us Hb2 H2 f2 d => by
    cases d with
    | cons hu t =>
      cases t
      obtain ⟨p, vs, rfl, h1, d1⟩ := hu
      exact ⟨p, vs, rfl, .inl (sq_l f2.s h1), fun r hr => q r _ _ _ (f2.h.no hr) (no_of f2.s hr) (f2.trans (Fr.newO f2.s hr)) upd_same d1⟩
/-- xs[::-1] -/
theorem eo_rev (h : ED te env (dl xs)) : EO (tRevL K te) env xs.reverse := fun σ Hb H Q e o q =>
  h σ Hb H _ e o fun v Hb2 H2 f2 hp => by
    obtain ⟨p, vs, rfl, h1, d1⟩ := hp
    refine ⟨p, vs, rfl, sq_l f2.s h1, fun r hr => q r _ _ _ (f2.h.no hr) (no_of f2.s hr) (f2.trans (Fr.newO f2.s hr)) upd_same d1.rev⟩
theorem ed_isN {v : V} (h : ED te env (dv v)) : ED (tIsN te) env (db (decide (v = .non))) := fun σ Hb H Q e o q =>
  h σ Hb H _ e o fun u Hb2 H2 f2 hp => q _ _ _ f2 (by rw [show u = v from hp]; rfl)
/-- xs[1:] -/
theorem eo_sl1 {xs : List D} (h : ED te env (dl xs)) : EO (tSl (rSlL K) te (tPart (tC (.int 1))) tNoPart) env (xs.drop 1) := fun σ Hb H Q e o q =>
  h σ Hb H _ e o fun v Hb2 H2 f2 hp => by
    obtain ⟨p, vs, rfl, h1, d1⟩ := hp
    refine ⟨1, rfl, p, vs, rfl, sq_l f2.s h1, fun r hr => q r _ _ _ (f2.h.no hr) (no_of f2.s hr) (f2.trans (Fr.newO f2.s hr)) upd_same ?_⟩
    have e1 : cutV vs (some 1) none = vs.drop 1 := by
      unfold cutV HT.sIx
      cases vs with
      | nil => rfl
      | cons a r => simp [HT.sIx] <;> omega
    rw [e1]
    cases d1 with
    | nil => exact .nil
    | cons _ t => exact t
end
end Kb
end
section
/-! Kb6: targets, loops, defs. -/
namespace Kb
open PySem PySem.Spec PyProof.Rows L2

/-! ### targets -/
def TJ (g : TG) (env : Env') (d : D) (env1 : Env') : Prop := ∀ Hb0 H0 σ Hb H v (Q : L2.St → Hp → Prop), StOk Hb0 H0 env σ Hb H → d.p v Hb → (∀ σ', StOk Hb0 H0 env1 σ' Hb H → Q σ' H) → g v σ H Q
section
variable {env env' env1 env2 : Env'} {ta tb te tl : TE} {t u : TT} {tr : TA} {x y d r : D} {xs ys : List D} {s s' s2 body : TS} {b : Bool} {K : PySem.W.Frag} {i j n : Nat} {g : TG} {α : Type}
theorem tj_name : TJ (gName i) env d (env.set i (.d d)) := fun Hb0 H0 σ Hb H v Q o p q => q _ (o.set ⟨v, rfl, p⟩ fun _ z => by cases z)
theorem tj_tup2 : TJ (gTup K 2 (gCons (gName i) (gCons (gName j) gNil))) env (dt K [x, y]) ((env.set i (.d x)).set j (.d y)) := fun Hb0 H0 σ Hb H v Q o p q => by
  obtain ⟨a, vs, rfl, h1, d1⟩ := p
  cases d1 with
  | cons p1 t =>
    cases t with
    | cons p2 t =>
      cases t
      exact ⟨a, _, rfl, sq_t o.fr.s h1, rfl, _, _, rfl, _, _, rfl, rfl, q _ ((o.set (x := .d x) ⟨_, rfl, p1⟩ fun _ z => by cases z).set (x := .d y) ⟨_, rfl, p2⟩ fun _ z => by cases z)⟩
theorem sb_asgT (h : ED te env d) (hg : TJ g env d env1) : SB (tAsg te g) env env1 := fun Hb0 H0 σ Hb H D o k =>
  h σ Hb H _ o.fr.s o.sl fun v Hb2 H2 f p => hg Hb0 H0 σ Hb2 H2 v _ (o.fr2 f) p fun σ' o' => k σ' Hb2 H2 o' f.b
/-- slots forgotten -/
inductive Fg : Env' → Env' → Prop where
  | nil : Fg [] []
  | eq {x : Sl} {r r' : Env'} : Fg r r' → Fg (x :: r) (x :: r')
  | no {x : Sl} {r r' : Env'} : Fg r r' → Fg (x :: r) (.no :: r')
theorem Fg.at_ {e e' : Env'} (h : Fg e e') : e.length = e'.length ∧ ∀ (i : Nat) (x : Sl), e'[i]? = some x → x = .no ∨ e[i]? = some x := by
  induction h with
  | nil => exact ⟨rfl, fun i x q => .inr q⟩
  | eq _ ih => exact ⟨congrArg Nat.succ ih.1, fun i x q => by
      cases i with
      | zero => exact .inr q
      | succ i => exact ih.2 i x (by simpa using q)⟩
  | no _ ih => exact ⟨congrArg Nat.succ ih.1, fun i x q => by
      cases i with
      | zero => simp at q; exact .inl q.symm
      | succ i => exact ih.2 i x (by simpa using q)⟩
theorem Fg.refl : ∀ e : Env', Fg e e
  | [] => .nil
  | _ :: r => .eq (Fg.refl r)
theorem StOk.fg {Hb0 H0 : Hp} {σ : L2.St} {Hb H : Hp} (o : StOk Hb0 H0 env σ Hb H) (f : Fg env env') : StOk Hb0 H0 env' σ Hb H := by
  refine ⟨⟨o.sl.len.trans f.at_.1, fun i x e => ?_⟩, o.fr, fun i xs e => ?_, fun i j xs ys e e' => ?_⟩
  · rcases f.at_.2 i x e with rfl | h
    · exact trivial
    · exact o.sl.at_ i x h
  · rcases f.at_.2 i _ e with z | h
    · cases z
    · exact o.own i xs h
  · rcases f.at_.2 i _ e with z | h
    · cases z
    · rcases f.at_.2 j _ e' with z | h'
      · cases z
      · exact o.one i j xs ys h h'
theorem sb_fg (h : SB s env env1) (f : Fg env1 env') : SB s env env' := fun Hb0 H0 σ Hb H D o k => h Hb0 H0 σ Hb H D o fun σ' Hb' H' o' x => k σ' Hb' H' (o'.fg f) x
theorem sr_fg (h : SR s env' r) (f : Fg env env') : SR s env r := fun Hb0 H0 σ Hb H D o k => h Hb0 H0 σ Hb H D (o.fg f) k
theorem sb_fg0 (h : SB s env' env1) (f : Fg env env') : SB s env env1 := fun Hb0 H0 σ Hb H D o k => h Hb0 H0 σ Hb H D (o.fg f) k

/-! ### loops -/
theorem turn_of {Hb0 H0 : Hp} {σ : L2.St} {Hb H : Hp} {v : V} {D : Ends} {N : L2.St → Hp → Prop} (hg : TJ g env d env1) (hb : SB body env1 env2) (o : StOk Hb0 H0 env σ Hb H) (p : d.p v Hb)
    (hN : ∀ σ' Hb' H', StOk Hb0 H0 env2 σ' Hb' H' → Ex Hb Hb' → N σ' H') : g v σ H fun σ2 H2 => body { D with nx := N, ct := N, bk := D.nx } σ2 H2 :=
  hg Hb0 H0 σ Hb H v _ o p fun σ' o' => hb Hb0 H0 σ' Hb H _ o' fun σ2 Hb2 H2 o2 x => hN σ2 Hb2 H2 o2 x
/-- what a for keeps -/
def FvOk (Hb0 H0 : Hp) (Ev : Nat → Env') (Hb1 : Hp) (i : Nat) (σ : L2.St) (H : Hp) : Prop := ∃ Hb, StOk Hb0 H0 (Ev i) σ Hb H ∧ Ex Hb1 Hb
theorem sb_forL (l : List α) (gd : α → D) (Ev : Nat → Env') (hl : ED tl env (dl (l.map gd))) (h0 : Fg env (Ev 0)) (E1 : Nat → α → Env') (hg : ∀ (i : Nat) (a : α), l[i]? = some a → TJ g (Ev i) (gd a) (E1 i a))
    (hb : ∀ (i : Nat) (a : α), l[i]? = some a → SB body (E1 i a) (Ev (i + 1))) : SB (tFor (iList K tl) g body) env (Ev l.length) := fun Hb0 H0 σ Hb H D o k =>
  hl σ Hb H _ o.fr.s o.sl fun v Hb1 H1 f1 hp => by
    obtain ⟨a, ws, rfl, ha, dn⟩ := hp
    have hlen : ws.length = l.length := by have := dn.len; rw [List.length_map] at this; exact this.symm
    refine ⟨a, rfl, ⟨ws, Evl.sq_of (f1.s a _ ha)⟩, for_list (xs := ws) (FvOk Hb0 H0 Ev Hb1) ⟨Hb1, (o.fr2 f1).fg h0, Evl.Ex.refl _⟩ (fun i σ' H' _ p => ?_) (fun i x σ' H' hi p => ?_) fun σ' H' p => ?_⟩
    · obtain ⟨Hb', o', x'⟩ := p
      exact Evl.sq_of (o'.fr.s a _ (x' a _ ha))
    · obtain ⟨Hb', o', x'⟩ := p
      obtain ⟨d, hd, px⟩ := dn.at_ hi
      rw [List.getElem?_map] at hd
      obtain ⟨a', ha', ed⟩ := Option.map_eq_some_iff.mp hd
      subst ed
      exact turn_of (hg i a' ha') (hb i a' ha') o' ((gd a').mono x' px) fun σ2 Hb2 H2 o2 x2 => ⟨Hb2, o2, x'.trans x2⟩
    · obtain ⟨Hb', o', x'⟩ := p
      rw [hlen] at o'
      exact k σ' Hb' H' o' (f1.b.trans x')
theorem sb_forT (l : List α) (gd : α → D) (Ev : Nat → Env') (hl : ED tl env (dt K (l.map gd))) (h0 : Fg env (Ev 0)) (E1 : Nat → α → Env') (hg : ∀ (i : Nat) (a : α), l[i]? = some a → TJ g (Ev i) (gd a) (E1 i a))
    (hb : ∀ (i : Nat) (a : α), l[i]? = some a → SB body (E1 i a) (Ev (i + 1))) : SB (tFor (iTup K tl) g body) env (Ev l.length) := fun Hb0 H0 σ Hb H D o k =>
  hl σ Hb H _ o.fr.s o.sl fun v Hb1 H1 f1 hp => by
    obtain ⟨a, ws, rfl, ha, dn⟩ := hp
    have hlen : ws.length = l.length := by have := dn.len; rw [List.length_map] at this; exact this.symm
    refine ⟨a, rfl, ⟨ws, sq_t f1.s ha⟩, for_tup (xs := ws) (FvOk Hb0 H0 Ev Hb1) ⟨Hb1, (o.fr2 f1).fg h0, Evl.Ex.refl _⟩ (fun i σ' H' _ p => ?_) (fun i x σ' H' hi p => ?_) fun σ' H' p => ?_⟩
    · obtain ⟨Hb', o', x'⟩ := p
      exact sq_t o'.fr.s (x' a _ ha)
    · obtain ⟨Hb', o', x'⟩ := p
      obtain ⟨d, hd, px⟩ := dn.at_ hi
      rw [List.getElem?_map] at hd
      obtain ⟨a', ha', ed⟩ := Option.map_eq_some_iff.mp hd
      subst ed
      exact turn_of (hg i a' ha') (hb i a' ha') o' ((gd a').mono x' px) fun σ2 Hb2 H2 o2 x2 => ⟨Hb2, o2, x'.trans x2⟩
    · obtain ⟨Hb', o', x'⟩ := p
      rw [hlen] at o'
      exact k σ' Hb' H' o' (f1.b.trans x')
/-- what a range reads as -/
def RgJ (wi : TI) (env : Env') (J : It) : Prop := ∀ σ Hb H (R : It → Hp → Prop), Ex Hb H → EnvOk env σ Hb H → (∀ Hb1 H1, Fr Hb H Hb1 H1 → R J H1) → wi σ H R
theorem rj1 (h : EA tr env [di (n : Int)]) (hz : n < 90000) : RgJ (iRng1 tr) env (Itr 0 n) := rg1 h hz
theorem rj3 {lo hi : Int} (h : EA tr env [di lo, di hi, di (-1)]) (hn : (lo - hi).toNat = n) (hz : -90000 < lo ∧ lo < 90000 ∧ -90000 < hi ∧ hi < 90000) : RgJ (iRng3 tr) env (Itc lo (-1) n) := fun σ Hb H R e o q =>
  h σ Hb H _ e o fun vs Hb1 H1 f1 dn => by
    cases dn with
    | cons a r =>
      cases r with
      | cons b r =>
        cases r with
        | cons c r =>
          cases r
          have a' : _ = V.int lo := a
          have b' : _ = V.int hi := b
          have c' : _ = V.int (-1) := c
          subst a' b' c'
          exact ⟨lo, hi, -1, n, rfl, by rw [← hn]; exact RgC.neg (by omega) (by omega) (by omega) (by omega), q Hb1 H1 f1⟩
theorem sb_forR {wi : TI} (Ev : Nat → Env') (hw : RgJ wi env (Itr 0 n)) (h0 : Fg env (Ev 0)) (E1 : Nat → Env') (hg : ∀ i, i < n → TJ g (Ev i) (di (i : Int)) (E1 i)) (hb : ∀ i, i < n → SB body (E1 i) (Ev (i + 1))) :
    SB (tFor wi g body) env (Ev n) := fun Hb0 H0 σ Hb H D o k =>
  hw σ Hb H _ o.fr.s o.sl fun Hb1 H1 f1 => by
    refine for_range (FvOk Hb0 H0 Ev Hb1) ⟨Hb1, (o.fr2 f1).fg h0, Evl.Ex.refl _⟩ (fun i σ' H' hi p => ?_) fun σ' H' p => ?_
    · obtain ⟨Hb', o', x'⟩ := p
      exact turn_of (hg i hi) (hb i hi) o' (by show V.int _ = V.int _; congr 1; omega) fun σ2 Hb2 H2 o2 x2 => ⟨Hb2, o2, x'.trans x2⟩
    · obtain ⟨Hb', o', x'⟩ := p
      exact k σ' Hb' H' o' (f1.b.trans x')
theorem sb_forC {wi : TI} {lo : Int} (Ev : Nat → Env') (hw : RgJ wi env (Itc lo (-1) n)) (h0 : Fg env (Ev 0)) (E1 : Nat → Env') (hg : ∀ (i : Nat), i < n → TJ g (Ev i) (di (lo - i)) (E1 i)) (hb : ∀ i, i < n → SB body (E1 i) (Ev (i + 1))) :
    SB (tFor wi g body) env (Ev n) := fun Hb0 H0 σ Hb H D o k =>
  hw σ Hb H _ o.fr.s o.sl fun Hb1 H1 f1 => by
    refine for_rangeC (FvOk Hb0 H0 Ev Hb1) ⟨Hb1, (o.fr2 f1).fg h0, Evl.Ex.refl _⟩ (fun i σ' H' hi p => ?_) fun σ' H' p => ?_
    · obtain ⟨Hb', o', x'⟩ := p
      exact turn_of (hg i hi) (hb i hi) o' (by show V.int _ = V.int _; congr 1; omega) fun σ2 Hb2 H2 o2 x2 => ⟨Hb2, o2, x'.trans x2⟩
    · obtain ⟨Hb', o', x'⟩ := p
      exact k σ' Hb' H' o' (f1.b.trans x')
/-- while -/
theorem sb_while (Ev : α → Env') (c : α → Bool) (f : α → α) (μ : α → Nat) (I : α → Prop) (a0 : α) (h0 : env = Ev a0) (i0 : I a0) (ht : ∀ a, I a → ET t (Ev a) (c a)) (hb : ∀ a, I a → c a = true → SB body (Ev a) (Ev (f a)) ∧ I (f a) ∧ μ (f a) < μ a)
    (hd : ∀ a, I a → c a = false → Ev a = env') : SB (tWhile t body) env env' := fun Hb0 H0 σ Hb H D o k => by
  refine ⟨fun m σ' H' => ∃ a Hb', I a ∧ m = μ a ∧ StOk Hb0 H0 (Ev a) σ' Hb' H' ∧ Ex Hb Hb', ⟨μ a0, a0, Hb, i0, rfl, h0 ▸ o, Evl.Ex.refl _⟩, ?_⟩
  rintro m σ' H' ⟨a, Hb', ia, rfl, o', x'⟩
  refine ht a ia σ' Hb' H' _ o'.fr.s o'.sl fun Hb2 H2 f2 => ?_
  cases hc : c a with
  | false =>
    have e := hd a ia hc
    rw [e] at o'
    exact k σ' Hb2 H2 (o'.fr2 f2) (x'.trans f2.b)
  | true =>
    obtain ⟨b1, b2, b3⟩ := hb a ia hc
    refine ⟨fun σ3 H3 => ∃ Hb3, StOk Hb0 H0 (Ev (f a)) σ3 Hb3 H3 ∧ Ex Hb Hb3, fun σ3 H3 ⟨Hb3, o3, x3⟩ => ⟨μ (f a), b3, f a, Hb3, b2, rfl, o3, x3⟩, ?_⟩
    exact b1 Hb0 H0 σ' Hb2 H2 _ (o'.fr2 f2) fun σ3 Hb3 H3 o3 x3 => ⟨Hb3, o3, (x'.trans f2.b).trans x3⟩
theorem sb_par (h : EA tr env [x, y]) : SB (tPar i j tr) env ((env.set i (.d x)).set j (.d y)) := fun Hb0 H0 σ Hb H D o k =>
  h σ Hb H _ o.fr.s o.sl fun vs Hb2 H2 f dn => by
    cases dn with
    | cons p1 r =>
      cases r with
      | cons p2 r =>
        cases r
        exact ⟨_, _, rfl, k _ Hb2 H2 (((o.fr2 f).set (x := .d x) ⟨_, rfl, p1⟩ fun _ z => by cases z).set (x := .d y) ⟨_, rfl, p2⟩ fun _ z => by cases z) f.b⟩
/-- x op= e -/
theorem sb_aug {ti : R2} (h1 : env[i]? = some (.d x)) (h : ED te env y) (ho : OD ti x y d) : SB (tAug i te ti) env (env.set i (.d d)) := fun Hb0 H0 σ Hb H D o k => by
  obtain ⟨v, e1, p1⟩ := o.sl.at_ i _ h1
  refine ⟨v, e1, h σ Hb H _ o.fr.s o.sl fun w Hb2 H2 f p => ho v w Hb2 H2 _ f.s (x.mono f.b p1) p fun z Hb3 H3 f3 p3 => ?_⟩
  exact k _ Hb3 H3 ((o.fr2 (f.trans f3)).set ⟨z, rfl, p3⟩ fun _ z => by cases z) (f.trans f3).b
/-- xs.extend(ys) -/
theorem sb_ext (h : env[i]? = some (.own xs)) (he : EO te env ys) (hz : xs.length + ys.length < 90000) : SB (tDrop (tBM K "list" rExtend (tVar i) (tCons te tNil))) env (env.set i (.own (xs ++ ys))) := fun Hb0 H0 σ Hb H D o k => by
  obtain ⟨a, vs, h1, h2, h3, h4⟩ := o.sl.at_ i _ h
  refine ⟨.ref a, h1, .inl ⟨rfl, _, .inl (.inl h3)⟩, he σ Hb H _ o.fr.s o.sl fun p ws Hb2 H2 hp hb f hl hd => ?_⟩
  refine ⟨a, p, vs, ws, rfl, rfl, f.h.k h3, hl, Evl.sz_of (by rw [← h4.len, ← hd.len]; omega), ?_⟩
  exact k σ Hb2 _ ((o.fr2 f).put h h1 ((h4.mono f.b).app hd)) f.b
/-- the block t falls off its end or returns: None -/
theorem sr_none (h : SB s env env') : ∀ Hb0 H0 σ Hb H (Q : VK), StOk Hb0 H0 env σ Hb H → (∀ v Hb' H', Fr Hb0 H0 Hb' H' → dn.p v Hb' → Q v H') → s { nx := fun _ H' => Q .non H', rt := Q } σ H := fun Hb0 H0 σ Hb H Q o q =>
  h Hb0 H0 σ Hb H _ o fun σ' Hb' H' o' _ => q .non Hb' H' o'.fr rfl
end

/-! ### defs -/
/-- the slots at a def's entry -/
def startE (n : Nat) (xs : List D) : Env' := xs.map Sl.d ++ List.replicate (n - xs.length) .no
theorem EnvOk.start {N : List Str} {xs : List D} {vs : List V} {Hb H : Hp} (d : Dn xs vs Hb) (hl : xs.length ≤ N.length) : EnvOk (startE N.length xs) (L2.start N vs) Hb H := by
  have e := d.len
  refine ⟨?_, fun i x h => ?_⟩
  · unfold L2.start startE
    rw [List.length_append, List.length_append, List.length_map, List.length_map, List.length_replicate, List.length_replicate, e]
  · unfold startE at h
    unfold L2.start
    by_cases l : i < xs.length
    · rw [List.getElem?_append_left (by simpa using l), List.getElem?_map] at h
      obtain ⟨d', hd, ed⟩ := Option.map_eq_some_iff.mp h
      subst ed
      obtain ⟨v, hv, pv⟩ := d.get hd
      exact ⟨v, by rw [List.getElem?_append_left (by rw [List.length_map, ← e]; exact l), List.getElem?_map, hv]; rfl, pv⟩
    · rw [List.getElem?_append_right (by simpa using l), List.getElem?_replicate] at h
      split at h
      · cases h
        exact trivial
      · cases h
theorem StOk.start {N : List Str} {xs : List D} {vs : List V} {Hb H : Hp} (e : Ex Hb H) (d : Dn xs vs Hb) (hl : xs.length ≤ N.length) : StOk Hb H (startE N.length xs) (L2.start N vs) Hb H := by
  have no : ∀ (i : Nat) (ys : List D), (startE N.length xs)[i]? ≠ some (.own ys) := fun i ys h => by
    unfold startE at h
    by_cases l : i < xs.length
    · rw [List.getElem?_append_left (by simpa using l), List.getElem?_map] at h
      obtain ⟨d', hd, ed⟩ := Option.map_eq_some_iff.mp h
      cases ed
    · rw [List.getElem?_append_right (by simpa using l), List.getElem?_replicate] at h
      split at h
      · cases h
      · cases h
  exact ⟨.start d hl, Fr.refl e, fun i ys h => absurd h (no i ys), fun i j ys zs h => absurd h (no i ys)⟩
section
variable {P : Program} {w : World} {K : PySem.W.Frag} {mg : Str → Option Value} {base : Heap} {x qual : Str} {params : Arguments} {body : List Stmt} {scope : Scope} {f : Addr} {fd : FuncData} {N ps : List Str} {k : Nat} {R : List D → D → Prop}
/-- the body of a def without defaults -/
theorem fn_pr (F : FunD K x qual params body scope [] [] f fd) (S : FnScope N ps scope) (hl : ∀ xs z, R xs z → xs.length = ps.length)
    (hb : ∀ (doc pm : Value) (an : Option Addr) (cdv ct kV : Value) (us : List Value), us.length = ps.length → bindArgs (PySem.W.fnOf x qual params body scope .none kV doc pm an cdv ct) ⟨us, []⟩ = pure (ps.zip us))
    (h : ∀ (cdv : Value) (A : Around) (outer : List Env) (s : Shared) (H : Hp) (E : XK), Room k (A.deeper (envOfC qual scope s.heap.objs.size f cdv)) →
      ∃ t, PSs (cxOf CX0 P w K mg base N qual scope f cdv A outer s H E) body t ∧ ∀ xs z, R xs z → SR t (startE N.length xs) z ∨ (z = dn ∧ ∃ env', SB t (startE N.length xs) env')) : FnR P w K mg base CX0 (k + 1) f (Pr R) := by
  have ok := FunD.ok (CX := CX0) (P := P) (w := w) (mg := mg) (base := base) (k := k) (sp := Pr R) F S (fun vs H Q E q => by
    obtain ⟨xs, r, Hb, hR, _, d, _⟩ := q
    rw [← d.len]
    exact hl xs r hR) fun cdv A outer s H vs Q E hr q => by
      obtain ⟨t, ht, hq⟩ := h cdv A outer s H E hr
      obtain ⟨xs, r, Hb, hR, e, d, q⟩ := q
      have hle : xs.length ≤ N.length := by
        have := congrArg List.length S.pre
        rw [List.length_take] at this
        rw [hl xs r hR]
        omega
      refine ⟨t, ht, ?_⟩
      have o := StOk.start (N := N) e d hle
      rcases hq xs r hR with z | ⟨z, env', z2⟩
      · exact z Hb H _ Hb H _ o fun v Hb' H' f p => q v Hb' H' f p
      · subst z
        exact sr_none z2 Hb H _ Hb H Q o fun v Hb' H' f p => q v Hb' H' f p
  have b : Binds K fd ps [] := F.bindsN fun kV doc pm an cdv ct us hus => hb doc pm an cdv ct kV us hus
  exact (ok.raw b .nil).imp fun vs H Q E q => by rw [List.append_nil]; exact q
end
end Kb
end
section
/-! Kp: the text's places, the built-ins' names. -/
namespace Kb
open PySem PySem.Spec PyProof.Rows L2
def top (i : Nat) : Stmt := PySem.Challenge.pw_copyvotes_k65_whole_all_families.main.body.getD i (.Pass ⟨0, 0, 0, 0⟩)
def clsOf : Stmt → List Stmt
  | .ClassDef (body := b) .. => b
  | _ => []
def cdef (i j : Nat) : Stmt := (clsOf (top i)).getD j (.Pass ⟨0, 0, 0, 0⟩)
/-- the names that the top leaves to the built-ins -/
structure Bi (mg : Str → Option Value) : Prop where
  range : mg "range" = none
  len : mg "len" = none
  sum : mg "sum" = none
  any : mg "any" = none
  all : mg "all" = none
  sorted : mg "sorted" = none
  int : mg "int" = none
  str : mg "str" = none
  abs : mg "abs" = none
  tuple : mg "tuple" = none
  list : mg "list" = none
  bool : mg "bool" = none
  isinstance : mg "isinstance" = none
  enumerate : mg "enumerate" = none
theorem bb_sum : bootBuiltins "sum" = some (.builtin "sum") := by decide +kernel
theorem bb_any : bootBuiltins "any" = some (.builtin "any") := by decide +kernel
theorem bb_all : bootBuiltins "all" = some (.builtin "all") := by decide +kernel
theorem bb_sorted : bootBuiltins "sorted" = some (.builtin "sorted") := by decide +kernel
theorem bb_abs : bootBuiltins "abs" = some (.builtin "abs") := by decide +kernel
theorem bb_isinstance : bootBuiltins "isinstance" = some (.builtin "isinstance") := by decide +kernel
theorem bb_enumerate : bootBuiltins "enumerate" = some (.type "enumerate") := by decide +kernel
theorem bb_len : bootBuiltins "len" = some (.builtin "len") := PySem.boot_len
theorem bb_int : bootBuiltins "int" = some (.type "int") := boot_int
theorem bb_str : bootBuiltins "str" = some (.type "str") := boot_str
theorem bb_list : bootBuiltins "list" = some (.type "list") := boot_list
theorem bb_tuple : bootBuiltins "tuple" = some (.type "tuple") := boot_tuple
theorem bb_bool : bootBuiltins "bool" = some (.type "bool") := boot_bool
abbrev cAbs : List V → Hp → VK → Prop := fun xs H Q => ∃ i, xs = [V.int i] ∧ Q (.int (if i < 0 then -i else i)) H
abbrev cInt : List V → Hp → VK → Prop := fun xs H Q => (∃ i, xs = [V.int i] ∧ Q (.int i) H) ∨ ∃ k, xs = [V.bl k] ∧ Q (.int (if k then 1 else 0)) H
abbrev cStr : List V → Hp → VK → Prop := fun xs H Q => ∃ i, xs = [V.int i] ∧ i.natAbs.log2 < 1920 ∧ Q (.str (toString i)) H
abbrev cList (K : PySem.W.Frag) : List V → Hp → VK → Prop := fun xs H Q => ∃ p ys, xs = [V.ref p] ∧ (SqL K H p ys ∨ SqT K H p ys) ∧ ∀ l, H l = none → Q (.ref l) (upd H l (.lst ys))
abbrev qAdd : R2 := rI0 fun i j => .int (i + j)
abbrev qSub : R2 := rI0 fun i j => .int (i - j)
abbrev qMul : R2 := rI CMulW fun i j => .int (i * j)
abbrev qDiv : R2 := rI CDivW fun i j => .int (i / j)
abbrev qMod : R2 := rI (fun _ j => 0 < j) fun i j => .int (i % j)
abbrev qPow : R2 := rI CPow fun i j => .int (i ^ j.toNat)
abbrev qLt : R2 := rI0 fun i j => .bl (decide (i < j))
abbrev qLe : R2 := rI0 fun i j => .bl (decide (i ≤ j))
abbrev qGt : R2 := rI0 fun i j => .bl (decide (j < i))
abbrev qGe : R2 := rI0 fun i j => .bl (decide (j ≤ i))
/-- a def as it stands behind the top, by its place -/
structure Df (K : PySem.W.Frag) (x qual : Str) (st : Stmt) (f : Addr) : Prop where
  ex : ∃ fd, FunD K x qual (defArgs st) (defBody st) (defScope st) [] [] f fd
/-- isinstance of an int -/
theorem cd_isiII {K : PySem.W.Frag} {i : Int} : CD (rIsi K) [di i, dv (.ty "int")] (db true) := fun us Hb H Q e d q => by
  cases d with
  | cons p1 t =>
    cases t with
    | cons p2 t =>
      cases t
      exact ⟨_, _, .type "int", .type "int", true, by rw [show _ = V.int i from p1, show _ = V.ty "int" from p2], .ty _, .base (.int i), kit_ty (by decide +kernel), q _ _ _ (Fr.refl e) rfl⟩
theorem cd_isiIB {K : PySem.W.Frag} {i : Int} : CD (rIsi K) [di i, dv (.ty "bool")] (db false) := fun us Hb H Q e d q => by
  cases d with
  | cons p1 t =>
    cases t with
    | cons p2 t =>
      cases t
      exact ⟨_, _, .type "int", .type "bool", false, by rw [show _ = V.int i from p1, show _ = V.ty "bool" from p2], .ty _, .base (.int i), kit_ty (by decide +kernel), q _ _ _ (Fr.refl e) rfl⟩
/-- isinstance of a list or tuple against an own class is not asked; of an instance of C against C -/
structure IsC (K : PySem.W.Frag) (C : Addr) : Prop where
  ty : ∀ {H : Hp} {a dx : Addr} {fs : List (Str × V)}, H a = some (.ins C dx fs) → TyX K H (.ref a) (.ref C)
  me : PySem.W.kitOne K (.ref C) (.ref C) = some true
  no : PySem.W.kitOne K (.type "int") (.ref C) = some false
theorem cd_isiC {K : PySem.W.Frag} {C : Addr} {ns : List Str} {xs : List D} (c : IsC K C) : CD (rIsi K) [dobj C ns xs, dv (.ref C)] (db true) := fun us Hb H Q e d q => by
  cases d with
  | cons p1 t =>
    cases t with
    | cons p2 t =>
      cases t
      obtain ⟨a, dx, fs, rfl, ha, _⟩ := p1
      exact ⟨_, _, .ref C, .ref C, true, by rw [show _ = V.ref C from p2], .own _, c.ty (e a _ ha), c.me, q _ _ _ (Fr.refl e) rfl⟩
theorem cd_isiIC {K : PySem.W.Frag} {C : Addr} {i : Int} (c : IsC K C) : CD (rIsi K) [di i, dv (.ref C)] (db false) := fun us Hb H Q e d q => by
  cases d with
  | cons p1 t =>
    cases t with
    | cons p2 t =>
      cases t
      exact ⟨_, _, .type "int", .ref C, false, by rw [show _ = V.int i from p1, show _ = V.ref C from p2], .own _, .base (.int i), c.no, q _ _ _ (Fr.refl e) rfl⟩
/-! deep equality -/
theorem dp_ints {K : PySem.W.Frag} {H : Hp} : ∀ l : List Int, DpAll K H (l.map V.int) (l.map PyData.int)
  | [] => .nil
  | a :: r => .cons (.int a) (dp_ints r)
theorem eqvAll_ints : ∀ l m : List Int, PyData.eqvAll (l.map PyData.int) (m.map PyData.int) = decide (l = m)
  | [], [] => by simp [PyData.eqvAll]
  | [], b :: m => by simp [PyData.eqvAll]
  | a :: l, [] => by simp [PyData.eqvAll]
  | a :: l, b :: m => by
    have ih := eqvAll_ints l m
    simp only [List.map_cons, PyData.eqvAll, PyData.eqv, ih]
    by_cases h : a = b <;> by_cases h2 : l = m <;> simp [h, h2]
theorem layAll_ints : ∀ l : List Int, PyData.canLayAll0 (l.map PyData.int) = true
  | [] => by simp [PyData.canLayAll0]
  | a :: l => by simp [PyData.canLayAll0, PyData.canLay0, layAll_ints l]
theorem depthAll_ints : ∀ l : List Int, PyData.depthAll (l.map PyData.int) ≤ 1
  | [] => by simp [PyData.depthAll]
  | a :: l => by
    have := depthAll_ints l
    simp [PyData.depthAll, PyData.depth]
    omega
theorem shaped_l (l : List Int) : SeqAt.shaped (.list (l.map PyData.int)) = true := by
  have := depthAll_ints l
  have h2 := layAll_ints l
  simp [SeqAt.shaped, PyData.canLay0, PyData.depth, h2]
  omega
theorem shaped_t (l : List Int) : SeqAt.shaped (.tuple (l.map PyData.int)) = true := by
  have := depthAll_ints l
  have h2 := layAll_ints l
  simp [SeqAt.shaped, PyData.canLay0, PyData.depth, h2]
  omega
section
variable {K : PySem.W.Frag} {l m : List Int} {ls : List (List Int)}
theorem dp_l {u : V} {Hb H : Hp} (e : Ex Hb H) (h : (dl (l.map fun i => di i)).p u Hb) : Dp K H u (.list (l.map PyData.int)) := by
  obtain ⟨a, vs, rfl, h1, d1⟩ := h
  obtain rfl := Dn.eq_map (f := V.int) d1
  exact .lst (sq_l e h1) (dp_ints l)
theorem dp_t {u : V} {Hb H : Hp} (e : Ex Hb H) (h : (dt K (l.map fun i => di i)).p u Hb) : Dp K H u (.tuple (l.map PyData.int)) := by
  obtain ⟨a, vs, rfl, h1, d1⟩ := h
  obtain rfl := Dn.eq_map (f := V.int) d1
  exact .tup (sq_t e h1) (dp_ints l)
theorem od_eqL : OD (rEqD K) (dl (l.map fun i => di i)) (dl (m.map fun i => di i)) (db (decide (l = m))) := fun u v Hb H Q e hu hv q =>
  ⟨_, _, dp_l e hu, dp_l e hv, shaped_l l, shaped_l m, q _ _ _ (Fr.refl e) (by show V.bl _ = V.bl _; rw [PyData.eqv, eqvAll_ints])⟩
theorem od_neL : OD (rNeD K) (dl (l.map fun i => di i)) (dl (m.map fun i => di i)) (db (!decide (l = m))) := fun u v Hb H Q e hu hv q =>
  ⟨_, _, dp_l e hu, dp_l e hv, shaped_l l, shaped_l m, q _ _ _ (Fr.refl e) (by show V.bl _ = V.bl _; rw [PyData.eqv, eqvAll_ints])⟩
theorem od_eqT : OD (rEqD K) (dt K (l.map fun i => di i)) (dt K (m.map fun i => di i)) (db (decide (l = m))) := fun u v Hb H Q e hu hv q =>
  ⟨_, _, dp_t e hu, dp_t e hv, shaped_t l, shaped_t m, q _ _ _ (Fr.refl e) (by show V.bl _ = V.bl _; rw [PyData.eqv, eqvAll_ints])⟩
theorem od_neT : OD (rNeD K) (dt K (l.map fun i => di i)) (dt K (m.map fun i => di i)) (db (!decide (l = m))) := fun u v Hb H Q e hu hv q =>
  ⟨_, _, dp_t e hu, dp_t e hv, shaped_t l, shaped_t m, q _ _ _ (Fr.refl e) (by show V.bl _ = V.bl _; rw [PyData.eqv, eqvAll_ints])⟩
theorem dpAll_ls {g : List Int → D} {f : List Int → PyData} {Hb H : Hp} (hg : ∀ (l : List Int) (u : V), (g l).p u Hb → Dp K H u (f l)) : ∀ {ls : List (List Int)} {vs : List V}, Dn (ls.map g) vs Hb → DpAll K H vs (ls.map f)
  | [], _, .nil => .nil
  | l :: ls, _, .cons a r => .cons (hg l _ a) (dpAll_ls hg r)
theorem any_ls {f : List Int → PyData} (hf : ∀ l m, PyData.eqv (f l) (f m) = decide (l = m)) : ((ls.map f).any fun z => PyData.eqv z (f l)) = decide (l ∈ ls) := by
  induction ls with
  | nil => simp
  | cons a r ih =>
    rw [List.map_cons, List.any_cons, ih, hf]
    by_cases h : a = l
    · simp [h]
    · have h' : ¬ l = a := fun z => h z.symm
      simp [h, h']
theorem shaped_ll {f : List Int → PyData} (h1 : ∀ l, PyData.canLay0 (f l) = true) (h2 : ∀ l, PyData.depth (f l) ≤ 2) : SeqAt.shaped (.list (ls.map f)) = true := by
  have a : PyData.canLayAll0 (ls.map f) = true := by
    induction ls with
    | nil => simp [PyData.canLayAll0]
    | cons a r ih => simp [PyData.canLayAll0, h1, ih]
  have b : PyData.depthAll (ls.map f) ≤ 2 := by
    clear a
    induction ls with
    | nil => simp [PyData.depthAll]
    | cons a r ih =>
      have := h2 a
      simp [PyData.depthAll]
      omega
  simp [SeqAt.shaped, PyData.canLay0, PyData.depth, a]
  omega
/-- a list of ints in a list of such -/
theorem od_inLL : OD (rInD K) (dl (l.map fun i => di i)) (dl (ls.map fun m => dl (m.map fun i => di i))) (db (decide (l ∈ ls))) := fun u v Hb H Q e hu hv q => by
  obtain ⟨a, vs, rfl, h1, d1⟩ := hv
  refine ⟨_, _, dp_l e hu, .lst (sq_l e h1) (dpAll_ls (f := fun l => .list (l.map PyData.int)) (fun l u h => dp_l e h) d1), shaped_l l, shaped_ll (fun l => by simp [PyData.canLay0, layAll_ints]) (fun l => by have := depthAll_ints l; simp [PyData.depth]; omega), q _ _ _ (Fr.refl e) ?_⟩
  show V.bl _ = V.bl _
  rw [any_ls (f := fun l => .list (l.map PyData.int)) fun l m => by rw [PyData.eqv, eqvAll_ints]]
theorem od_notInLL : OD (rNotInD K) (dl (l.map fun i => di i)) (dl (ls.map fun m => dl (m.map fun i => di i))) (db (!decide (l ∈ ls))) := fun u v Hb H Q e hu hv q => by
  obtain ⟨a, vs, rfl, h1, d1⟩ := hv
  refine ⟨_, _, dp_l e hu, .lst (sq_l e h1) (dpAll_ls (f := fun l => .list (l.map PyData.int)) (fun l u h => dp_l e h) d1), shaped_l l, shaped_ll (fun l => by simp [PyData.canLay0, layAll_ints]) (fun l => by have := depthAll_ints l; simp [PyData.depth]; omega), q _ _ _ (Fr.refl e) ?_⟩
  show V.bl _ = V.bl _
  rw [any_ls (f := fun l => .list (l.map PyData.int)) fun l m => by rw [PyData.eqv, eqvAll_ints]]
theorem od_inLT : OD (rInD K) (dt K (l.map fun i => di i)) (dl (ls.map fun m => dt K (m.map fun i => di i))) (db (decide (l ∈ ls))) := fun u v Hb H Q e hu hv q => by
  obtain ⟨a, vs, rfl, h1, d1⟩ := hv
  refine ⟨_, _, dp_t e hu, .lst (sq_l e h1) (dpAll_ls (f := fun l => .tuple (l.map PyData.int)) (fun l u h => dp_t e h) d1), shaped_t l, shaped_ll (fun l => by simp [PyData.canLay0, layAll_ints]) (fun l => by have := depthAll_ints l; simp [PyData.depth]; omega), q _ _ _ (Fr.refl e) ?_⟩
  show V.bl _ = V.bl _
  rw [any_ls (f := fun l => .tuple (l.map PyData.int)) fun l m => by rw [PyData.eqv, eqvAll_ints]]
end
/-- sorted of ints, any number -/
theorem eo_sortedI {K : PySem.W.Frag} {env : Env'} {l l' : List Int} {t : TA} (ht : EA t env [dl (l.map fun i => di i)]) (h : ∀ m : List Int, m.Perm l → m.Pairwise (· ≤ ·) → m = l') : EO (tCB (rSortedI K) t) env (l'.map fun i => di i) := fun σ Hb H Q e o q =>
  ht σ Hb H _ e o fun us Hb2 H2 f2 d => by
    cases d with
    | cons hu t =>
      cases t
      obtain ⟨p, vs, rfl, h1, d1⟩ := hu
      obtain rfl := Dn.eq_map (f := V.int) d1
      refine ⟨p, l, rfl, sq_l f2.s h1, fun m p' hm hs hp => ?_⟩
      rw [h m hm hs]
      exact q p' _ _ _ (f2.h.no hp) (no_of f2.s hp) (f2.trans (Fr.newO f2.s hp)) upd_same dn_map
end Kb
namespace Kb
open PySem PySem.Spec PyProof.Rows L2
/-! x in a tuple of data -/
def rInDT (K : PySem.W.Frag) : R2 := fun x y H Q => ∃ d ds, Dp K H x d ∧ Dp K H y (.tuple ds) ∧ SeqAt.shaped d = true ∧ SeqAt.shaped (.tuple ds) = true ∧ Q (.bl (ds.any fun z => PyData.eqv z d)) H
theorem op_inDT {X : Cx} (hu : X.A.units + 65 < cLine) : OpR X (compareOp .In) (rInDT X.K) := by
  intro pins s σ H x y v u Q I rx ry h
  obtain ⟨d, ds, hd, he, sd, se, q⟩ := h
  obtain ⟨as, r1⟩ := Dp.reads I d x v hd rx
  obtain ⟨bs, r2⟩ := Dp.reads I (.tuple ds) y u he ry
  have hroom : X.A.units + 1 + min (PyData.depthAll ds) d.depth < cLine := by
    have := SeqAt.depth_of_shaped sd
    omega
  exact SeqAt.in_tuple_reads r2 r1 (SeqAt.canLay_of_shaped se) (SeqAt.canLay_of_shaped sd) hroom ⟨.bl _, H, I, rfl, q⟩
theorem shaped_tt {α : Type} {ls : List α} {f : α → PyData} (h1 : ∀ l, PyData.canLay0 (f l) = true) (h2 : ∀ l, PyData.depth (f l) ≤ 2) : SeqAt.shaped (.tuple (ls.map f)) = true := by
  have a : PyData.canLayAll0 (ls.map f) = true := by
    induction ls with
    | nil => simp [PyData.canLayAll0]
    | cons a r ih => simp [PyData.canLayAll0, h1, ih]
  have b : PyData.depthAll (ls.map f) ≤ 2 := by
    clear a
    induction ls with
    | nil => simp [PyData.depthAll]
    | cons a r ih =>
      have := h2 a
      simp [PyData.depthAll]
      omega
  simp [SeqAt.shaped, PyData.canLay0, PyData.depth, a]
  omega
theorem od_inTT {K : PySem.W.Frag} {l : List Int} {ls : List (List Int)} : OD (rInDT K) (dt K (l.map fun i => di i)) (dt K (ls.map fun m => dt K (m.map fun i => di i))) (db (decide (l ∈ ls))) := fun u v Hb H Q e hu hv q => by
  obtain ⟨a, vs, rfl, h1, d1⟩ := hv
  refine ⟨_, _, dp_t e hu, .tup (sq_t e h1) (dpAll_ls (f := fun l => .tuple (l.map PyData.int)) (fun l u h => dp_t e h) d1), shaped_t l, shaped_tt (fun l => by simp [PyData.canLay0, layAll_ints]) (fun l => by have := depthAll_ints l; simp [PyData.depth]; omega), q _ _ _ (Fr.refl e) ?_⟩
  show V.bl _ = V.bl _
  rw [any_ls (f := fun l => .tuple (l.map PyData.int)) fun l m => by rw [PyData.eqv, eqvAll_ints]]
end Kb
end
section
/-! K39: what the head tells: facts by names, static methods, a table. -/
namespace Kb
open PySem PySem.Spec PyProof.Rows L2 He
/-- the part of the heap at these addresses -/
def Kof (n : List Addr) (g : Addr → Option Obj) : PySem.W.Frag := frT g n
/-- the record of the static method m, its function -/
def stP (C m : Str) (K : PySem.W.Frag) : Addr := match PySem.W.findCls K (.ref (ga K C)) (.type "type") m with
  | some (.get _ (.ref p) _ _) => p
  | _ => 0
def stAd (C m : Str) (K : PySem.W.Frag) : Addr := match PySem.W.recIn K (stP C m K) "staticmethod" with
  | some (.ref f :: _) => f
  | _ => 0
def isStat (K : PySem.W.Frag) (C m : Str) : Bool := match PySem.W.findCls K (.ref (ga K C)) (.type "type") m with
  | some (.get (.builtin b) (.ref _) .none (.ref c)) => decide (b = "staticmethod.__get__") && decide (c = ga K C)
  | _ => false
def isRec (K : PySem.W.Frag) (C m : Str) : Bool := match PySem.W.recIn K (stP C m K) "staticmethod" with
  | some (.ref _ :: _) => true
  | _ => false
def clsRead (K : PySem.W.Frag) (C : Str) : Bool := PySem.W.readsIn K (ga K C) (.type "type") && eqO (PySem.W.specialIn K (.ref (ga K C)) "__getattribute__") (some (some (.builtin "type.__getattribute__")))
def fnAt (K : PySem.W.Frag) (a : Addr) : FnW := match K.lookup a with
  | some ⟨_, _, .func fd, _⟩ => some (fd.name, fd.qualname, fd.params, fd.body, fd.scope, fd.globals, fd.closure, fd.builtins)
  | _ => none
def isNo : Value → Bool
  | .none => true
  | _ => false
def okAt (K : PySem.W.Frag) (a : Addr) (q : Str) : Bool := PySem.W.keepIn K (.ref a) && match K.lookup a with
  | some ⟨_, _, .func fd, _⟩ => PySem.W.codeIn K fd.code q && isNo fd.defaults
  | _ => false
def fnVal (m qual : Str) (st : Stmt) : FnW := some (m, qual, defArgs st, .stmts (defBody st), defScope st, mainGlobals, [], builtinsNs)
/-- what is told -/
structure SaysH (fa : List Fa) (fn : List DefD) (ex : PySem.W.Frag → Bool) (st : List (Str × Str)) (sv : List FnW) (p : Defn) (h : Heap) (K : PySem.W.Frag) : Prop where
  d : SaysD fa fn K
  ex : ex K = true
  st : st.map (fun q => fnAt K (stAd q.1 q.2 K)) = sv
  hd : PySem.W.codeHdIn K (cT K p).1 (cT K p).2 = true
  out : K.lookup (cT K p).2 = none
  empty : h.get? (cT K p).2 = some { cls := .none, data := .fields #[] }
abbrev AlH : Type := AlD × Bool × List FnW
def obsK (g : Addr → Option Obj) (fa : List Fa) (fn : List DefD) (ex : PySem.W.Frag → Bool) (st : List (Str × Str)) (p : Defn) (K : PySem.W.Frag) : AlH := (obsD fa fn K, ex K && tabsB g [p] K, st.map fun q => fnAt K (stAd q.1 q.2 K))
def obsH (n : List Addr) (fa : List Fa) (fn : List DefD) (ex : PySem.W.Frag → Bool) (st : List (Str × Str)) (p : Defn) (g : Addr → Option Obj) : AlH := obsK g fa fn ex st p (Kof n g)
theorem saysH_of {n : List Addr} {fa : List Fa} {fn : List DefD} {ex : PySem.W.Frag → Bool} {st : List (Str × Str)} {sv : List FnW} {p : Defn} {h : Heap} (e : obsH n fa fn ex st p h.get? = (valD fn, true, sv)) : SaysH fa fn ex st sv p h (Kof n h.get?) := by
  have e1 : obsD fa fn (Kof n h.get?) = valD fn := congrArg (fun z : AlH => z.1) e
  have e2 : (ex (Kof n h.get?) && tabsB h.get? [p] (Kof n h.get?)) = true := congrArg (fun z : AlH => z.2.1) e
  have e3 : st.map (fun q => fnAt (Kof n h.get?) (stAd q.1 q.2 (Kof n h.get?))) = sv := congrArg (fun z : AlH => z.2.2) e
  obtain ⟨h1, h2⟩ := ba e2
  obtain ⟨h3, h4⟩ := ba (List.all_eq_true.mp h2 p (List.mem_singleton.mpr rfl))
  cases q : h.get? (cT (Kof n h.get?) p).2 with
  | none => rw [q] at h4; cases h4
  | some o =>
    rw [q] at h4
    exact ⟨e1, h1, e3, h3, frT_none q h4, by rw [q, emptyTab_eq h4]⟩
def hookH (n : List Addr) (fa : List Fa) (fn : List DefD) (ex : PySem.W.Frag → Bool) (st : List (Str × Str)) (sv : List FnW) (p : Defn) : PySem.W.Hook where
  α := AlH
  obs := fun s => obsH n fa fn ex st p s.heap.get?
  val := fun _ => (valD fn, true, sv)
  says := fun _ h => ∃ K : PySem.W.Frag, K.In h ∧ SaysH fa fn ex st sv p h K
  of := fun _ _ e => ⟨_, frT_in, saysH_of e⟩
  keeps := fun _ _ _ ⟨K, hK, c⟩ k => ⟨K, PySem.W.Frag.In.keeps hK k, ⟨c.d, c.ex, c.st, c.hd, c.out, k _ _ c.empty⟩⟩
theorem obsH_eq {n : List Addr} {fa : List Fa} {fn : List DefD} {ex : PySem.W.Frag → Bool} {st : List (Str × Str)} {sv : List FnW} {p : Defn} {g : Addr → Option Obj} {s : Shared} (h : ∀ a, g a = s.heap.get? a) : obsH n fa fn ex st p g = (hookH n fa fn ex st sv p).obs s := by
  have e : g = s.heap.get? := funext h
  rw [e] <;> rfl
end Kb
end
section
set_option maxHeartbeats 0
/-! Kh2: the head's facts and its run, printed by hk.py. -/
namespace Kb
open PySem PySem.Spec PyProof.Rows L2 He
def hat : List Addr := ([3, 2, 325, 324, 563, 562, 462, 461, 145, 137, 136, 144, 143, 150, 149, 155, 154, 160, 159, 175, 174, 180, 179, 185, 184, 165, 164, 170, 169, 190] : List Addr) ++ ([189, 209, 208, 232, 231, 239, 238, 258, 257, 265, 264, 310, 309, 317, 316, 322, 321, 336, 335, 358, 357, 351, 343, 342, 365, 364, 372, 371, 379, 378] : List Addr) ++ ([386, 385, 393, 392, 400, 399, 414, 413, 428, 427, 421, 420, 473, 472, 480, 479, 492, 491, 513, 512, 527, 526, 541, 540, 574, 573, 607, 606, 595, 594] : List Addr) ++ ([600, 599, 612, 611, 617, 616, 622, 621, 634, 633, 629, 628, 660, 659, 667, 666, 672, 671, 581, 580, 726, 725, 733, 732, 740, 739, 747, 746, 752, 751] : List Addr) ++ ([766, 765, 773, 772, 759, 758, 778, 777, 783, 782, 788, 787, 810, 809, 795, 794, 805, 804, 815, 814, 639, 638, 553, 552, 588, 587, 679, 678, 686, 685] : List Addr) ++ ([693, 692, 646, 645, 653, 652, 707, 706, 721, 720, 700, 699, 714, 713, 800, 799, 820, 819, 825, 824, 830, 829, 291, 290, 218, 216, 215, 458, 456, 455] : List Addr)
def hfn : List DefD := ([⟨("is_integer", none), "is_integer", "is_integer", defArgs (top 9), defBody (top 9), defScope (top 9), [], []⟩, ⟨("check_number", none), "check_number", "check_number", defArgs (top 10), defBody (top 10), defScope (top 10), [], []⟩, ⟨("lot_of", none), "lot_of", "lot_of", defArgs (top 14), defBody (top 14), defScope (top 14), [], []⟩, ⟨("others", none), "others", "others", defArgs (top 15), defBody (top 15), defScope (top 15), [], []⟩, ⟨("all_lots", none), "all_lots", "all_lots", defArgs (top 16), defBody (top 16), defScope (top 16), [], []⟩, ⟨("holds", none), "holds", "holds", defArgs (top 19), defBody (top 19), defScope (top 19), [], []⟩, ⟨("meet", none), "meet", "meet", defArgs (top 20), defBody (top 20), defScope (top 20), [], []⟩, ⟨("middle_lots", none), "middle_lots", "middle_lots", defArgs (top 21), defBody (top 21), defScope (top 21), [], []⟩, ⟨("code_of", none), "code_of", "code_of", defArgs (top 17), defBody (top 17), defScope (top 17), [], []⟩, ⟨("ascending", none), "ascending", "ascending", defArgs (top 18), defBody (top 18), defScope (top 18), [], []⟩, ⟨("least_lots", none), "least_lots", "least_lots", defArgs (top 23), defBody (top 23), defScope (top 23), [], []⟩, ⟨("Family", some "__init__"), "__init__", "Family.__init__", defArgs (cdef 25 0), defBody (cdef 25 0), defScope (cdef 25 0), [], []⟩] : List DefD) ++ ([⟨("Family", some "contains"), "contains", "Family.contains", defArgs (cdef 25 3), defBody (cdef 25 3), defScope (cdef 25 3), [], []⟩, ⟨("Family", some "check_like"), "check_like", "Family.check_like", defArgs (cdef 25 4), defBody (cdef 25 4), defScope (cdef 25 4), [], []⟩, ⟨("Family", some "__le__"), "__le__", "Family.__le__", defArgs (cdef 25 7), defBody (cdef 25 7), defScope (cdef 25 7), [], []⟩, ⟨("Family", some "__or__"), "__or__", "Family.__or__", defArgs (cdef 25 8), defBody (cdef 25 8), defScope (cdef 25 8), [], []⟩, ⟨("Family", some "meets"), "meets", "Family.meets", defArgs (cdef 25 15), defBody (cdef 25 15), defScope (cdef 25 15), [], []⟩, ⟨("Family", some "is_strict"), "is_strict", "Family.is_strict", defArgs (cdef 25 16), defBody (cdef 25 16), defScope (cdef 25 16), [], []⟩, ⟨("Family", some "dual"), "dual", "Family.dual", defArgs (cdef 25 17), defBody (cdef 25 17), defScope (cdef 25 17), [], []⟩, ⟨("common_part", none), "common_part", "common_part", defArgs (top 27), defBody (top 27), defScope (top 27), [], []⟩, ⟨("Ratio", some "__init__"), "__init__", "Ratio.__init__", defArgs (cdef 29 0), defBody (cdef 29 0), defScope (cdef 29 0), [.int 1], []⟩, ⟨("ratio_of", none), "ratio_of", "ratio_of", defArgs (top 28), defBody (top 28), defScope (top 28), [], []⟩, ⟨("Ratio", some "__eq__"), "__eq__", "Ratio.__eq__", defArgs (cdef 29 1), defBody (cdef 29 1), defScope (cdef 29 1), [], []⟩, ⟨("Ratio", some "__lt__"), "__lt__", "Ratio.__lt__", defArgs (cdef 29 2), defBody (cdef 29 2), defScope (cdef 29 2), [], []⟩] : List DefD) ++ ([⟨("Ratio", some "__le__"), "__le__", "Ratio.__le__", defArgs (cdef 29 3), defBody (cdef 29 3), defScope (cdef 29 3), [], []⟩, ⟨("Ratio", some "__gt__"), "__gt__", "Ratio.__gt__", defArgs (cdef 29 4), defBody (cdef 29 4), defScope (cdef 29 4), [], []⟩, ⟨("Ratio", some "__ge__"), "__ge__", "Ratio.__ge__", defArgs (cdef 29 5), defBody (cdef 29 5), defScope (cdef 29 5), [], []⟩, ⟨("Ratio", some "__add__"), "__add__", "Ratio.__add__", defArgs (cdef 29 6), defBody (cdef 29 6), defScope (cdef 29 6), [], []⟩, ⟨("Ratio", some "__sub__"), "__sub__", "Ratio.__sub__", defArgs (cdef 29 8), defBody (cdef 29 8), defScope (cdef 29 8), [], []⟩, ⟨("Ratio", some "__mul__"), "__mul__", "Ratio.__mul__", defArgs (cdef 29 10), defBody (cdef 29 10), defScope (cdef 29 10), [], []⟩, ⟨("Ratio", some "__rsub__"), "__rsub__", "Ratio.__rsub__", defArgs (cdef 29 9), defBody (cdef 29 9), defScope (cdef 29 9), [], []⟩, ⟨("total", none), "total", "total", defArgs (top 30), defBody (top 30), defScope (top 30), [], []⟩, ⟨("check_chance", none), "check_chance", "check_chance", defArgs (top 33), defBody (top 33), defScope (top 33), [], []⟩, ⟨("Chances", some "__init__"), "__init__", "Chances.__init__", defArgs (cdef 34 0), defBody (cdef 34 0), defScope (cdef 34 0), [], []⟩, ⟨("Chances", some "__len__"), "__len__", "Chances.__len__", defArgs (cdef 34 3), defBody (cdef 34 3), defScope (cdef 34 3), [], []⟩, ⟨("Chances", some "__add__"), "__add__", "Chances.__add__", defArgs (cdef 34 5), defBody (cdef 34 5), defScope (cdef 34 5), [], []⟩] : List DefD) ++ ([⟨("Chances", some "chance_of"), "chance_of", "Chances.chance_of", defArgs (cdef 34 7), defBody (cdef 34 7), defScope (cdef 34 7), [], []⟩, ⟨("check_share", none), "check_share", "check_share", defArgs (top 36), defBody (top 36), defScope (top 36), [], []⟩, ⟨("whole_lot", none), "whole_lot", "whole_lot", defArgs (top 44), defBody (top 44), defScope (top 44), [], []⟩, ⟨("gain_of", none), "gain_of", "gain_of", defArgs (top 39), defBody (top 39), defScope (top 39), [], []⟩, ⟨("middle_gains", none), "middle_gains", "middle_gains", defArgs (top 43), defBody (top 43), defScope (top 43), [], []⟩, ⟨("most_worth", none), "most_worth", "most_worth", defArgs (top 45), defBody (top 45), defScope (top 45), [], []⟩, ⟨("least_writes", none), "least_writes", "least_writes", defArgs (top 46), defBody (top 46), defScope (top 46), [], []⟩, ⟨("greatest_writes", none), "greatest_writes", "greatest_writes", defArgs (top 47), defBody (top 47), defScope (top 47), [], []⟩, ⟨("level_lots", none), "level_lots", "level_lots", defArgs (top 49), defBody (top 49), defScope (top 49), [], []⟩, ⟨("is_best", none), "is_best", "is_best", defArgs (top 48), defBody (top 48), defScope (top 48), [], []⟩, ⟨("weight_of", none), "weight_of", "weight_of", defArgs (top 54), defBody (top 54), defScope (top 54), [], []⟩, ⟨("is_heavier", none), "is_heavier", "is_heavier", defArgs (top 55), defBody (top 55), defScope (top 55), [], []⟩] : List DefD) ++ ([⟨("heavy", none), "heavy", "heavy", defArgs (top 56), defBody (top 56), defScope (top 56), [], []⟩, ⟨("check_meeting", none), "check_meeting", "check_meeting", defArgs (top 37), defBody (top 37), defScope (top 37), [], []⟩, ⟨("_law_ratios", none), "_law_ratios", "_law_ratios", defArgs (top 65), defBody (top 65), defScope (top 65), [], []⟩, ⟨("_law_made", none), "_law_made", "_law_made", defArgs (top 66), defBody (top 66), defScope (top 66), [], []⟩, ⟨("_law_power", none), "_law_power", "_law_power", defArgs (top 67), defBody (top 67), defScope (top 67), [], []⟩, ⟨("_law_has", none), "_law_has", "_law_has", defArgs (top 68), defBody (top 68), defScope (top 68), [], []⟩, ⟨("_law_lot", none), "_law_lot", "_law_lot", defArgs (top 69), defBody (top 69), defScope (top 69), [], []⟩, ⟨("_law_under", none), "_law_under", "_law_under", defArgs (top 71), defBody (top 71), defScope (top 71), [], []⟩, ⟨("_law_is", none), "_law_is", "_law_is", defArgs (top 72), defBody (top 72), defScope (top 72), [], []⟩, ⟨("_law_alone", none), "_law_alone", "_law_alone", defArgs (top 70), defBody (top 70), defScope (top 70), [], []⟩, ⟨("_law_codes_by_size", none), "_law_codes_by_size", "_law_codes_by_size", defArgs (top 73), defBody (top 73), defScope (top 73), [], []⟩, ⟨("_law_families", none), "_law_families", "_law_families", defArgs (top 74), defBody (top 74), defScope (top 74), [], []⟩] : List DefD) ++ ([⟨("_law_dual", none), "_law_dual", "_law_dual", defArgs (top 75), defBody (top 75), defScope (top 75), [], []⟩, ⟨("_law_table", none), "_law_table", "_law_table", defArgs (top 79), defBody (top 79), defScope (top 79), [], []⟩, ⟨("_law_family", none), "_law_family", "_law_family", defArgs (top 76), defBody (top 76), defScope (top 76), [], []⟩, ⟨("_law_value", none), "_law_value", "_law_value", defArgs (top 78), defBody (top 78), defScope (top 78), [], []⟩, ⟨("_law_bests", none), "_law_bests", "_law_bests", defArgs (top 80), defBody (top 80), defScope (top 80), [], []⟩, ⟨("growing_sets", none), "growing_sets", "growing_sets", defArgs (top 50), defBody (top 50), defScope (top 50), [], []⟩, ⟨("Chances", some "up"), "up", "Chances.up", defArgs (cdef 34 9), defBody (cdef 34 9), defScope (cdef 34 9), [], []⟩, ⟨("worth", none), "worth", "worth", defArgs (top 38), defBody (top 38), defScope (top 38), [], []⟩, ⟨("strict_writes", none), "strict_writes", "strict_writes", defArgs (top 57), defBody (top 57), defScope (top 57), [], []⟩, ⟨("most_strict", none), "most_strict", "most_strict", defArgs (top 58), defBody (top 58), defScope (top 58), [], []⟩, ⟨("is_best_strict", none), "is_best_strict", "is_best_strict", defArgs (top 59), defBody (top 59), defScope (top 59), [], []⟩, ⟨("count_best", none), "count_best", "count_best", defArgs (top 51), defBody (top 51), defScope (top 51), [], []⟩] : List DefD) ++ ([⟨("best_writes", none), "best_writes", "best_writes", defArgs (top 52), defBody (top 52), defScope (top 52), [], []⟩, ⟨("_law_draw", none), "_law_draw", "_law_draw", defArgs (top 62), defBody (top 62), defScope (top 62), [], []⟩, ⟨("_law_share", none), "_law_share", "_law_share", defArgs (top 64), defBody (top 64), defScope (top 64), [], []⟩, ⟨("_law_start", none), "_law_start", "_law_start", defArgs (top 61), defBody (top 61), defScope (top 61), [], []⟩, ⟨("_law_chances", none), "_law_chances", "_law_chances", defArgs (top 63), defBody (top 63), defScope (top 63), [], []⟩, ⟨("_law_codes", none), "_law_codes", "_law_codes", defArgs (top 77), defBody (top 77), defScope (top 77), [], []⟩, ⟨("_law_free_holds", none), "_law_free_holds", "_law_free_holds", defArgs (top 81), defBody (top 81), defScope (top 81), [], []⟩, ⟨("_law_some_hold", none), "_law_some_hold", "_law_some_hold", defArgs (top 82), defBody (top 82), defScope (top 82), [], []⟩, ⟨("law", none), "law", "law", defArgs (top 83), defBody (top 83), defScope (top 83), [], []⟩, ⟨("Family", some "every"), "every", "Family.every", defArgs (cdef 25 12), defBody (cdef 25 12), defScope (cdef 25 12), [], []⟩] : List DefD)
def hfa : List Fa := ([.glo "is_integer", .glo "check_number", .int "MOST_COPIES" 8, .glo "lot_of", .glo "others", .glo "all_lots", .glo "holds", .glo "meet", .glo "middle_lots", .glo "code_of", .glo "ascending", .glo "least_lots"] : List Fa) ++ ([.mkr "Family", .meth "Family" "contains", .meth "Family" "check_like", .meth "Family" "__le__", .meth "Family" "__or__", .meth "Family" "meets", .meth "Family" "is_strict", .meth "Family" "dual", .glo "common_part", .mkr "Ratio", .glo "ratio_of", .meth "Ratio" "__eq__"] : List Fa) ++ ([.meth "Ratio" "__lt__", .meth "Ratio" "__le__", .meth "Ratio" "__gt__", .meth "Ratio" "__ge__", .meth "Ratio" "__add__", .meth "Ratio" "__sub__", .meth "Ratio" "__mul__", .meth "Ratio" "__rsub__", .glo "total", .int "MOST_UNDER" 1000, .glo "check_chance", .mkr "Chances"] : List Fa) ++ ([.meth "Chances" "__len__", .meth "Chances" "__add__", .meth "Chances" "chance_of", .glo "check_share", .glo "whole_lot", .glo "gain_of", .glo "middle_gains", .glo "most_worth", .glo "least_writes", .glo "greatest_writes", .glo "level_lots", .glo "is_best"] : List Fa) ++ ([.glo "weight_of", .glo "is_heavier", .glo "heavy", .glo "check_meeting", .glo "_law_ratios", .glo "_law_made", .glo "_law_power", .glo "_law_has", .glo "_law_lot", .glo "_law_under", .glo "_law_is", .glo "_law_alone"] : List Fa) ++ ([.glo "_law_codes_by_size", .glo "_law_families", .glo "_law_dual", .glo "_law_table", .glo "_law_family", .glo "_law_value", .glo "_law_bests", .glo "growing_sets", .meth "Chances" "up", .glo "worth", .glo "strict_writes", .glo "most_strict"] : List Fa) ++ ([.glo "is_best_strict", .int "MOST_COUNTED" 5, .glo "count_best", .int "MOST_LISTED" 4, .glo "best_writes", .glo "_law_draw", .glo "_law_share", .glo "_law_start", .glo "_law_chances", .glo "_law_codes", .glo "_law_free_holds", .glo "_law_some_hold"] : List Fa) ++ ([.glo "law", .meth "Family" "every", .glo "Family", .cls "Family", .glo "Chances", .cls "Chances", .glo "Ratio", .cls "Ratio", .glo "CODES", .noat "Family" "copies", .noat "Family" "lots", .noat "Chances" "ratios"] : List Fa) ++ ([.noat "Ratio" "over", .noat "Ratio" "under", .free "range", .free "len", .free "sum", .free "any", .free "all", .free "sorted", .free "int", .free "str", .free "abs", .free "tuple"] : List Fa) ++ ([.free "list", .free "bool", .free "isinstance", .free "enumerate"] : List Fa)
def hst : List (Str × Str) := [("Family", "whole"), ("Ratio", "half")]
def hsv : List FnW := [fnVal "whole" "Family.whole" (cdef 25 1), fnVal "half" "Ratio.half" (cdef 29 14)]
def hexL (K : PySem.W.Frag) : List Bool := [eqO (PySem.W.specialIn K (.builtin "object.__class__") "__get__") (some (some (.builtin "getset_descriptor.__get__"))), decide (PySem.W.takesIn K (.builtin "object.__class__") = some true), decide (PySem.W.mroIn K (ga K "Family") (.type "object") = some true), eqO (PySem.W.findIn K (.ref (ga K "Family")) "__class__") (some (some (.builtin "object.__class__"))), PySem.W.selfFirst K (ga K "Family"), decide (PySem.W.kitOne K (.ref (ga K "Family")) (.ref (ga K "Family")) = some true), decide (PySem.W.kitOne K (.type "int") (.ref (ga K "Family")) = some false), decide (PySem.W.mroIn K (ga K "Chances") (.type "object") = some true), eqO (PySem.W.findIn K (.ref (ga K "Chances")) "__class__") (some (some (.builtin "object.__class__"))), PySem.W.selfFirst K (ga K "Chances"), decide (PySem.W.kitOne K (.ref (ga K "Chances")) (.ref (ga K "Chances")) = some true), decide (PySem.W.kitOne K (.type "int") (.ref (ga K "Chances")) = some false), decide (PySem.W.mroIn K (ga K "Ratio") (.type "object") = some true), eqO (PySem.W.findIn K (.ref (ga K "Ratio")) "__class__") (some (some (.builtin "object.__class__"))), PySem.W.selfFirst K (ga K "Ratio"), decide (PySem.W.kitOne K (.ref (ga K "Ratio")) (.ref (ga K "Ratio")) = some true), decide (PySem.W.kitOne K (.type "int") (.ref (ga K "Ratio")) = some false), PySem.W.notFirst K (ga K "Ratio") (.type "int"), decide (PySem.W.subIn K (.ref (ga K "Ratio")) (.type "int") = some false), tupB K "CODES" [.int 1, .int 2, .int 4, .int 8, .int 16, .int 32, .int 64, .int 128], isStat K "Family" "whole", isRec K "Family" "whole", clsRead K "Family", okAt K (stAd "Family" "whole" K) "Family.whole", isStat K "Ratio" "half", isRec K "Ratio" "half", clsRead K "Ratio", okAt K (stAd "Ratio" "half" K) "Ratio.half"]
def hex (K : PySem.W.Frag) : Bool := (hexL K).all id
abbrev hp0 : Defn := ("growing_sets", none)
def hnames : List Str := (["_wall", "VoteError", "BadNumber", "BadLot", "NoMeeting", "TooMany", "Unlike", "is_integer", "check_number", "MOST_COPIES", "CODES", "lot_of", "others", "all_lots", "code_of", "ascending"] : List Str) ++ (["holds", "meet", "middle_lots", "least_lots", "is_lot_like", "Family", "common_part", "ratio_of", "Ratio", "total", "MOST_UNDER", "check_chance", "Chances", "check_share", "check_meeting", "worth"] : List Str) ++ (["gain_of", "MOST_COUNTED", "MOST_LISTED", "middle_gains", "whole_lot", "most_worth", "least_writes", "greatest_writes", "is_best", "level_lots", "growing_sets", "count_best", "best_writes", "weight_of", "is_heavier", "heavy"] : List Str) ++ (["strict_writes", "most_strict", "is_best_strict", "_law_start", "_law_draw", "_law_chances", "_law_share", "_law_ratios", "_law_made", "_law_power", "_law_has", "_law_lot", "_law_alone", "_law_under", "_law_is", "_law_codes_by_size"] : List Str) ++ (["_law_families", "_law_dual", "_law_family", "_law_codes", "_law_value", "_law_table", "_law_bests", "_law_free_holds", "_law_some_hold"] : List Str)
abbrev hR : PySem.W.OpenRow := PySem.W.OpenLaw.row PySem.Challenge.rw_copyvotes_k65_whole_all_families
abbrev hview : Program := PySem.W.view hR.prog [83]
abbrev hHook : PySem.W.Hook := hookH hat hfa hfn hex hst hsv hp0
def hob (s : PySem.W.SharedT) : AlH := obsH hat hfa hfn hex hst hp0 (HandSHeadRun.getT s)
theorem hob_eq (s : PySem.W.SharedT) : hob s = hHook.obs s.abs := obsH_eq (HandSHeadRun.getT_eq s)
theorem hrun (w : World) : HandSHeadRun.RunEq hR hview hHook hob 6000 hnames w := by
  intro os
  kernel_rfl
end Kb
end
section
set_option maxHeartbeats 0
/-! Kz: what the row's form asks. -/
namespace Kb
open PySem PySem.W PySem.Calls PyProof.Rows
abbrev hd83 : DefRec := HandSHeadRun.topDef hR.prog 83
theorem z1 : opening hR.prog = plainProg hR.prog.main.scope.names := by kernel_rfl
theorem z2 (s) : fenceModules? hR.prog s = some s := by kernel_rfl
theorem z3 : defOf hview hR.name = some (hd83, []) := by kernel_rfl
theorem z4 : hR.prog.theDef hR.name = some (hd83.params, hd83.body, hd83.scope) := by kernel_rfl
theorem z5 : kwWritten? hd83.params.kwonlyargs hd83.params.kw_defaults = some [] := by kernel_rfl
theorem z6 : (!hR.writes || hR.records.isEmpty) = true := by rfl
theorem z7 : hR.wellSaid = true := by decide +kernel
theorem z8 : (chainsOk hview && opensWell hR.prog && (frees hR.toRowW && hR.within.isEmpty)) = true := by decide +kernel
theorem z9 : hR.prog.bare := ⟨rfl, rfl, rfl, rfl, rfl, by decide +kernel⟩
theorem z10 : hR.toRowW.promised := by w_witness2
theorem z11 : hd83.params.defaults = [] := by kernel_rfl
theorem z12 : hd83.name = ("law" : PySem.Str) := by kernel_rfl
end Kb
end
section
/-! Kb7: enumerate over a tuple. -/
namespace Kb
open PySem PySem.Spec PyProof.Rows L2
open AutoSeq1 (wpAny_loadPart')
theorem meets_enumerate_newT (l : Addr) (items : Array Value) (n : Nat) (dct : Option Addr) (sl : Array (Option Value)) :
    Meets (Builtin.«enumerate.__new__» ⟨[.type "enumerate", .ref l], []⟩) (fun _ R s => s.heap.get? l = some { cls := .type "tuple", dict := dct, data := .seq items n, slots := sl } ∧
      R (.ok (.ret (.ref (s.heap.push { cls := .type "tuple_iterator", data := .fields #[.ref l, .int 0 0] }).objs.size)))
        { s with heap := (s.heap.push { cls := .type "tuple_iterator", data := .fields #[.ref l, .int 0 0] }).push { cls := .type "enumerate", data := .fields #[.none, .bool false, .ref s.heap.objs.size, rawInt 0, .none, .none] } }) :=
  .of_wp fun prog w A R s h => by
    obtain ⟨hp, g, d, tk, os⟩ := s; obtain ⟨hl, h⟩ := h
    have hsub := sub_enumerate
    have hL : Heap.IsTuple (Shared.heap ⟨hp, g, d, tk, os⟩) l items := ⟨_, hl, rfl, n, rfl⟩
    wp_walk using wpAny_loadPart' hl
    refine wpAny_stack_any fun st => wpAny_pure ?_
    split
    · rename_i c _ _ _ _ _
      cases (c == Value.type "enumerate")
      · wp_walk using wpAny_loadPart' hl, wpAny_pyIter_tuple hL
        exact ⟨_, rfl, h⟩
      · wp_walk using wpAny_loadPart' hl, wpAny_pyIter_tuple hL
        exact ⟨_, rfl, h⟩
    · wp_walk using wpAny_loadPart' hl, wpAny_pyIter_tuple hL
      exact ⟨_, rfl, h⟩
theorem call_enumerate_tuple {prog : Program} {w : World} {A : Around} {E : Value → Shared → Prop} {s : Shared} {l : Addr} {items : Array Value} {Q : Value → Shared → Prop} (hL : s.heap.IsTuple l items)
    (h : ∀ h', IsEnum h' (s.heap.objs.size + 1) s.heap.objs.size 0 .none → h'.IsTupleIter s.heap.objs.size l 0 → h'.objs.size = s.heap.objs.size + 2 →
      (∀ b o, s.heap.get? b = some o → h'.get? b = some o) → Q (.ref (s.heap.objs.size + 1)) { s with heap := h' }) :
    wpAny (model prog w) A (call (.type "enumerate") [.ref l]) Q E s := by
  obtain ⟨⟨c, dct, dt, sl⟩, hl, hc, n, hd⟩ := hL
  replace hc : c = .type "tuple" := hc
  replace hd : dt = .seq items n := hd
  subst hc hd
  refine callType_new F.called_enumerate (by decide) (F.typeCall_enumerate_1 _) (F.newCall_enumerate_1 _) (fun obj => F.args_object_init_2 obj _) F.entry_enumerate_new
    (meets_enumerate_newT l items n dct sl) ⟨hl, ?_⟩
  have hz : (s.heap.push { cls := .type "tuple_iterator", data := .fields #[.ref l, .int 0 0] }).objs.size = s.heap.objs.size + 1 := Heap.size_push ..
  show _ ∧ _
  rw [hz]
  have he : IsEnum ((s.heap.push { cls := .type "tuple_iterator", data := .fields #[.ref l, .int 0 0] }).push
      { cls := .type "enumerate", data := .fields #[.none, .bool false, .ref s.heap.objs.size, rawInt 0, .none, .none] }) (s.heap.objs.size + 1) s.heap.objs.size 0 .none := by
    have := Heap.get?_push_size (s.heap.push { cls := .type "tuple_iterator", data := .fields #[.ref l, .int 0 0] })
      (o := { cls := .type "enumerate", data := .fields #[.none, .bool false, .ref s.heap.objs.size, rawInt 0, .none, .none] }) rfl
    rw [hz] at this; exact this
  refine ⟨⟨_, he, rfl⟩, h _ he ⟨_, Heap.get?_push_of_some _ (Heap.get?_push_size _ rfl), rfl, rfl⟩ (by rw [Heap.size_push, hz]) fun b o x => Heap.get?_push_of_some _ (Heap.get?_push_of_some _ x)⟩
/-- the tuple at a, each item in a new pair -/
def IteT (K : PySem.W.Frag) (a : Addr) : It :=
  ⟨fun i H => ∃ (xs : List V) (x : V), SqT K H a xs ∧ xs[i]? = some x, fun i H v H' => ∃ T x, v = .ref T ∧ H T = none ∧ H' = upd H T (.tup [.int (i : Nat), x]) ∧ ∀ xs, SqT K H a xs → xs[i]? = some x, fun i H => ∃ xs : List V, SqT K H a xs ∧ xs.length = i⟩
theorem turn_enumT {P : Program} {w : World} {K : PySem.W.Frag} {elts : List Expr} {kk : Nat} {tpos : Pos} (a e it : Addr) (hai : a ≠ it) (hae : a ≠ e) :
    Turn P w K (.Tuple elts kk tpos) (IteT K a) [e, it] e (fun i h => (∃ old, IsEnum h e it ((i : Nat) : Int) old) ∧ h.IsTupleIter it a i ∧ e ≠ it) where
  mem := by simp
  obj := fun i h st b hb => by
    obtain ⟨⟨old, he⟩, ⟨o, ho, hc, hd⟩, _⟩ := st
    have e' : b = e ∨ b = it := by simpa using hb
    rcases e' with z | z
    · rw [z]; exact ⟨_, he, fun v q => nomatch q⟩
    · rw [z]; exact ⟨o, ho, fun v q => by rw [hd] at q; cases q⟩
  keep := fun i h h' st k => let ⟨⟨old, he⟩, hi, hne⟩ := st; ⟨⟨old, k e (by simp) _ he⟩, hi.at fun o q => k it (by simp) o q, hne⟩
  item := by
    intro X hP hw hK hc i pins s σ H E I hf st hg
    subst hP hw hK
    obtain ⟨⟨old, he⟩, hit, hne⟩ := st
    obtain ⟨xs, x, hq, hx⟩ := hg
    obtain ⟨its, rv, p, hz⟩ := I.tuple hq
    obtain ⟨u, hu, ru⟩ := rv.get hx
    have hel : e < s.heap.objs.size := Heap.lt_size he
    have hil : it < s.heap.objs.size := by obtain ⟨_, q, _⟩ := hit; exact Heap.lt_size q
    have hlt : i < its.toArray.size := by
      have := (List.getElem?_eq_some_iff.mp hu).1
      simpa using this
    have D := Draws.tuple (prog := X.prog) (w := X.w) (A := X.A.in1) (show X.A.in1.handled = none from I.ok.hd hc) it a hai its.toArray
    refine wpAny_pyNext_enum_itemD D he ⟨hit, p⟩ hlt hne (by simp [hne]; exact fun z => hae z.symm) fun x1 h' tk hP ho hst hT hsz hk => ?_
    have ex : x1 = u := by
      have h1 : its.toArray[i]? = some u := by simpa using hu
      rw [h1] at hP
      exact (Option.some.inj hP).symm
    subst ex
    obtain ⟨hit', _⟩ := hst
    refine ⟨_, rfl, wpAny_letOwnedTupleGo_enum (s := { s with heap := h', toks := tk + 1 }) ho fun h'' he' sb => ?_⟩
    have hT2 : h''.get? s.heap.objs.size = some { cls := .type "tuple", data := .seq #[.int i tk, x1] } := (sb.2 _ (Nat.ne_of_gt hel)).trans hT
    have new : ObjOk X.prog X.w (upd H s.heap.objs.size (.tup [.int (i : Nat), x])) h'' s.heap.objs.size (.tup [.int (i : Nat), x]) :=
      ⟨by show 2 ≤ sizeLine; decide, [.int i tk, x1], .cons ⟨_, rfl⟩ (.cons ru .nil), ⟨_, hT2, rfl, _, rfl⟩⟩
    have I1 : Inv X pins σ (upd H s.heap.objs.size (.tup [.int (i : Nat), x])) { s with heap := h'', toks := tk + 1 } :=
      I.turnedNew (ch := [e, it]) (fun b ob hb q => (sb.2 b (fun z => hb (by simp [z]))).trans (hk b ob (fun z => hb (by simp [z])) (fun z => hb (by simp [z])) q)) hf (Nat.le_refl _) new
    refine ⟨.ref s.heap.objs.size, _, I1, rfl, ⟨_, x, rfl, I.hok.fresh (Nat.le_refl _), rfl, fun ys hy => by rw [I.tuple_inj hy hq]; exact hx⟩, ⟨⟨x1, ?_⟩, hit'.at fun o q => (sb.2 it (Ne.symm hne)).trans q, hne⟩, fun b hb => ?_⟩
    · have e1 : ((i + 1 : Nat) : Int) = (i : Int) + 1 := by omega
      rw [e1]; exact he'
    · have hb' : b < s.heap.objs.size := by
        have e' : b = e ∨ b = it := by simpa using hb
        rcases e' with z | z
        · rw [z]; exact hel
        · rw [z]; exact hil
      rw [upd_ne (Nat.ne_of_lt hb')]
      exact (hf b hb).1
  done := by
    intro X hP hw hK hc i pins s σ H E I hf st hg
    subst hP hw hK
    obtain ⟨⟨old, he⟩, hit, hne⟩ := st
    obtain ⟨xs, hq, hx⟩ := hg
    obtain ⟨its, rv, p, hz⟩ := I.tuple hq
    obtain ⟨f0, f1, f2, f3, f4, f5⟩ := hf it (by simp)
    have hl := rv.length
    have en : i = its.toArray.size := by simp; omega
    have D := Draws.tuple (prog := X.prog) (w := X.w) (A := X.A.in1) (show X.A.in1.handled = none from I.ok.hd hc) it a hai its.toArray
    exact wpAny_pyNext_enum_endD D he ⟨by rw [← en]; exact hit, p⟩ fun h' eb => ⟨rfl, I.turned (t' := s.toks) (fun b o hb q => eb b o hb q) f0 f1 f3 f4 f5⟩
  self := fun A i s Q E st h => let ⟨⟨_, he⟩, _⟩ := st; wpAny_pyIter_enum he h
def iEnumT (K : PySem.W.Frag) (ta : TA) : TI := fun σ H R => ta σ H fun vs H1 => ∃ a xs, vs = [.ref a] ∧ SqT K H1 a xs ∧ R (IteT K a) H1
theorem pi_enumT {X : Cx} {e : Expr} {ta : TA} {p pos tpos : Pos} {elts : List Expr} {kk : Nat} (hg : Gl X "enumerate") (hm : X.mg "enumerate" = none) (ha : PA X [e] ta) (hs : starEach [e] X.env = [(false, eval e X.env)] := by rfl) :
    PI X (.Tuple elts kk tpos) (.Call (.Name "enumerate" p) [e] [] pos) (iEnumT X.K ta) := by
  refine ⟨fun pins s σ H R I h => ?_⟩
  refine Call_ (ld_blt I hg hm boot_enumerate (PyProof.Rows.callWith_type1 (thn (ha.run pos pins s σ H _ I h) fun us s1 ⟨vs, H1, I1, r1, q1⟩ => ?_) hs rfl))
  obtain ⟨a, xs, ex, hq, q⟩ := q1
  subst ex
  cases r1 with
  | cons r rr =>
    cases rr
    cases r
    obtain ⟨its, rv, p', hz⟩ := I1.tuple hq
    have hal : a < s1.heap.objs.size := by obtain ⟨o, ho, _⟩ := p'; exact Heap.lt_size ho
    refine call_enumerate_tuple p' fun h' he hit hsz hk => wpAny_pyIter_enum he ?_
    have I2 : Inv X pins σ H1 { s1 with heap := h' } := I1.kept (t' := s1.toks) hk
    refine ⟨s1.heap.objs.size + 1, [s1.heap.objs.size + 1, s1.heap.objs.size], _, _, H1, rfl, I2, turn_enumT a (s1.heap.objs.size + 1) s1.heap.objs.size (Nat.ne_of_lt hal) (Nat.ne_of_lt (Nat.lt_succ_of_lt hal)), ⟨⟨.none, he⟩, hit, Nat.succ_ne_self _⟩, fun b hb => ?_, q⟩
    have e' : b = s1.heap.objs.size + 1 ∨ b = s1.heap.objs.size := by simpa using hb
    have hle : s1.heap.objs.size ≤ b := by
      rcases e' with z | z
      · rw [z]; exact Nat.le_add_right _ _
      · rw [z]; exact Nat.le_refl _
    exact I1.fpOk hle (I1.hok.fresh hle)
/-- the loop by data -/
theorem sb_forE {α : Type} {env : Env'} {ta : TA} {g : TG} {body : TS} {K : PySem.W.Frag} (l : List α) (gd : α → D) (Ev : Nat → Env') (hl : EA ta env [dt K (l.map gd)]) (h0 : Fg env (Ev 0)) (E1 : Nat → α → Env')
    (hg : ∀ (i : Nat) (a : α), l[i]? = some a → TJ g (Ev i) (dt K [di (i : Int), gd a]) (E1 i a))
    (hb : ∀ (i : Nat) (a : α), l[i]? = some a → SB body (E1 i a) (Ev (i + 1))) : SB (tFor (iEnumT K ta) g body) env (Ev l.length) := fun Hb0 H0 σ Hb H D o k =>
  hl σ Hb H _ o.fr.s o.sl fun vs Hb1 H1 f1 hp => by
    cases hp with
    | cons hp t =>
    cases t
    obtain ⟨a, ws, rfl, ha, dn⟩ := hp
    have hlen : ws.length = l.length := by have := dn.len; rw [List.length_map] at this; exact this.symm
    have ha1 : SqT K H1 a ws := sq_t f1.s ha
    refine ⟨a, ws, rfl, ha1, fun i m σ' H' => i ≤ l.length ∧ m = l.length - i ∧ FvOk Hb0 H0 Ev Hb1 i σ' H', ⟨l.length, Nat.zero_le _, by simp, Hb1, (o.fr2 f1).fg h0, Evl.Ex.refl _⟩, ?_⟩
    rintro i m σ' H' ⟨hi, rfl, Hb', o', x'⟩
    have hs : SqT K H' a ws := sq_t o'.fr.s (x' a _ ha)
    by_cases hlt : i < l.length
    · have hw : i < ws.length := by omega
      refine .inr ⟨⟨ws, ws[i], hs, by simp [hw]⟩, FvOk Hb0 H0 Ev Hb1 (i + 1), fun σ2 H2 p => ⟨l.length - (i + 1), by omega, by omega, rfl, p⟩, fun v H2 y => ?_⟩
      obtain ⟨T, x, rfl, hT, rfl, hx⟩ := y
      have hx := hx ws hs
      obtain ⟨d, hd, px⟩ := dn.at_ hx
      rw [List.getElem?_map] at hd
      obtain ⟨a', ha', ed⟩ := Option.map_eq_some_iff.mp hd
      subst ed
      have hn := Fr.new (o := .tup [.int (i : Nat), x]) o'.fr.s hT
      refine turn_of (hg i a' ha') (hb i a' ha') (o'.fr2 hn) ⟨T, _, rfl, upd_same, .cons rfl (.cons ((gd a').mono (x'.trans hn.b) px) .nil)⟩ fun σ2 Hb2 H2 o2 x2 => ⟨Hb2, o2, (x'.trans hn.b).trans x2⟩
    · have e : i = l.length := by omega
      subst e
      exact .inl ⟨⟨ws, hs, hlen⟩, k σ' Hb' H' o' (f1.b.trans x')⟩
end Kb
end
section
/-! Kb8: dicts whose keys are tuples: made by a comprehension, read under a lock. -/
namespace Kb
open PySem PySem.Spec PyProof.Rows L2
/-- d[k] = v by a comprehension, k a tuple -/
theorem d_dictSetT {X : Cx} {pins : List (Addr × Obj)} {σ : L2.St} {H : Hp} {s : Shared} {E : Value → Shared → Prop} {D b : Addr} {kvs : List (List Key × V)} {k : List Key} {v : V} {r : Value} {Q : Unit → Shared → Prop} (hu : X.A.units < cLine) (I : Inv X pins σ H s) (isD : H D = some (.dT kvs)) (isT : H b = some (.tup (k.map kV))) (lz : kvs.length < sizeLine)
    (rv : RelV v r) (next : ∀ s', Inv X pins σ (upd H D (.dT (putK kvs k v))) s' → Q () s') : wpAny (model X.prog X.w) X.A (dictSet D (.ref b) r) Q E s := by
  obtain ⟨z, nsm, xs, rel, dd⟩ := dt_of I.hok isD
  have zx : xs.length ≤ sizeLine := by rw [← Paired.length rel]; exact z
  have zp : (putK kvs k v).length ≤ sizeLine := by have := length_putK kvs k v; omega
  refine wpAny_dictSet_heap (hsz := zx) (show X.A.units < cLine from hu) (key_of I.hok isT) dd fun h' dd' sb => next _ ?_
  obtain ⟨q, es, ep, hq, p2, p3, p4, _, p5⟩ := dd'
  refine d_write I (by rw [isD]; exact True.intro) sb ⟨q, hq⟩ ⟨zp, nsm, _, (rel.put k isT rv).keeps fun c ys ec => ?_, q, es, ep, hq, p2, p3, p4, p5⟩
  rw [upd_ne (ne_of ec isD (fun z => nomatch z))]
  exact ec
section
variable {X : Cx}
def tDcT (wi : TI) (g : TG) (tt : TT) (tk tv : TE) (vs : List Nat) : TE := fun σ H Q => wi σ H fun J H1 => ∀ D, H1 D = none → ∃ W : Nat → Nat → Hp → Prop, (∃ mm, W 0 mm (upd H1 D (.dT []))) ∧ ∀ i mm H, W i mm H →
  (J.stop i H ∧ Q (.ref D) H) ∨ (J.go i H ∧ ∃ Nx : Hp → Prop, (∀ H', Nx H' → ∃ m', m' < mm ∧ W (i + 1) m' H') ∧ ∀ x H', J.yld i H x H' → g x (wipe σ vs) H' fun σ2 H2 => wipe σ2 vs = wipe σ vs ∧ tt σ2 H2 fun b H3 =>
    if b = true then tk σ2 H3 fun y H4 => tv σ2 H4 fun z H5 => ∃ kvs k b, y = .ref b ∧ H5 b = some (.tup (k.map kV)) ∧ H5 D = some (.dT kvs) ∧ kvs.length < sizeLine ∧ Nx (upd H5 D (.dT (putK kvs k z))) else Nx H3)
theorem dcT_core {pins : List (Addr × Obj)} {s : Shared} {σ : L2.St} {H : Hp} {Q : VK} {kx vx tg iter : Expr} {ifs : List Expr} {scope : Scope} {own : List (Str × Nat)} {pos pos' : Pos} {wi : TI} {g : TG} {tt : TT} {tk tv : TE} {use : Option (Value → Sem Unit)} {Qf : Value → Shared → Prop}
    (hu : X.A.units < cLine) (calm : X.calm = true) (nod : X.N.Nodup) (I : Inv X pins σ H s) (src : PI X tg iter wi) (blk : BlkOk X.N X.env.scope scope own)
    (tgt : ∀ (s : Shared) (H : Hp) (C : Addr) (cl : List (Str × Addr)) (fps : List Addr), PG (X.blk s H scope (compEnvC scope cl C X.env) fps) tg g) (tst : ∀ (s : Shared) (H : Hp) (C : Addr) (cl : List (Str × Addr)) (fps : List Addr), PTs (X.blk s H scope (compEnvC scope cl C X.env) fps) ifs tt)
    (kyp : ∀ (s : Shared) (H : Hp) (C : Addr) (cl : List (Str × Addr)) (fps : List Addr), PE (X.blk s H scope (compEnvC scope cl C X.env) fps) kx tk)
    (vlp : ∀ (s : Shared) (H : Hp) (C : Addr) (cl : List (Str × Addr)) (fps : List Addr), PE (X.blk s H scope (compEnvC scope cl C X.env) fps) vx tv) (fol : ∀ x, foldedSetIterable iter X.env x = pure x)
    (h : tDcT wi g tt tk tv (own.map (·.2)) σ H Q)
    (fin0 : ∀ D C s' mm H', Inv X pins σ H' s' → Q (.ref D) H' → s'.heap.Ns C mm → FpOk X pins H' C → compPost (model X.prog X.w) X.A X.xe use Qf (.ref D) C (.ok .next) s') :
    wpAny (model X.prog X.w) X.A (comprehension (.DictComp kx vx [⟨tg, iter, ifs, 0⟩] scope pos) scope X.env pos' newDict false (eval iter X.env) use) Qf X.xe s := by
  have frees : ∀ y ∈ scope.names, y.2 = .free → ∃ c, X.env.cells.lookup y.1 = some c := fun y hy e => by
    rcases blk.free y hy e with k | k
    · exact I.ok.has _ (.inl k)
    · exact I.ok.has _ (.inr k)
  refine wpAny_comprehension_free (use := use) rfl fol (closure_ok frees) blk.kind (fun y hy e => by rw [blk.uniq y hy, e])
    (thn (src.run pins s σ H _ I h) fun xv s1 gx => thn gx fun itv s2 g2 => ?_)
  obtain ⟨it, fps, tn, J, H2, e, J2, T, stn2, fok2, qq0⟩ := g2
  subst e
  refine wpAny_newObj_type (newEnv_comp ?_)
  generalize atD : s2.heap.objs.size = D
  have newD : H2 D = none := J2.hok.fresh (Nat.le_of_eq atD)
  obtain ⟨W, ⟨mz, wz⟩, trn⟩ := qq0 D newD
  -- the new list
  generalize es3 : ({ s2 with heap := s2.heap.push { cls := .type "dict", data := .dict #[] } } : Shared) = s3
  have J3 : Inv X pins σ (upd H2 D (.dT [])) s3 := by
    rw [← es3]
    refine J2.laid (t' := s2.toks) (fun b o e => Heap.get?_push_of_some _ e) (Nat.le_of_eq atD) ?_
    rw [← atD]
    exact dt_empty s2.heap J2.big
  have es3h : s3.heap = s2.heap.push { cls := .type "dict", data := .dict #[] } := by rw [← es3]
  have szs : ∀ b ∈ fps, b < s2.heap.objs.size := fun b hb => by
    obtain ⟨o, e, _⟩ := T.obj _ _ stn2 b hb
    exact Heap.lt_size e
  have fok3 : ∀ b ∈ fps, FpOk X pins (upd H2 D (.dT [])) b ∧ b < s3.heap.objs.size := fun b hb => by
    have lt0 := szs b hb
    refine ⟨⟨?_, (fok2 b hb).2⟩, by rw [es3h, Heap.size_push]; exact Nat.lt_succ_of_lt lt0⟩
    rw [upd_ne (by rw [← atD]; exact Nat.ne_of_lt lt0)]
    exact (fok2 b hb).1
  have stn3 : tn 0 s3.heap := T.keep _ _ _ stn2 fun b _ o e => by rw [es3h]; exact Heap.get?_push_of_some _ e
  have J4 := block_start J3 blk nod fok3
  have qg := tgt s3 (upd H2 D (.dT [])) s3.heap.objs.size (cellsFrom (s3.heap.objs.size + 1) scope.names (cloFrom X.env.cells scope.names [])) fps
  have qt := tst s3 (upd H2 D (.dT [])) s3.heap.objs.size (cellsFrom (s3.heap.objs.size + 1) scope.names (cloFrom X.env.cells scope.names [])) fps
  have qk := kyp s3 (upd H2 D (.dT [])) s3.heap.objs.size (cellsFrom (s3.heap.objs.size + 1) scope.names (cloFrom X.env.cells scope.names [])) fps
  have qe := vlp s3 (upd H2 D (.dT [])) s3.heap.objs.size (cellsFrom (s3.heap.objs.size + 1) scope.names (cloFrom X.env.cells scope.names [])) fps
  show codeAny _ _ (.compStart (.DictComp kx vx [⟨tg, iter, ifs, 0⟩] scope pos) 0 (.ref it) (.ref D) (compEnvC scope (cellsFrom (s3.heap.objs.size + 1) scope.names (cloFrom X.env.cells scope.names [])) s3.heap.objs.size X.env)) (compPost (model X.prog X.w) X.A X.xe use Qf (.ref D) s3.heap.objs.size) { s3 with heap := pushCells (s3.heap.push { cls := .type "dict", data := .dict #[] }) scope.names }
  have nofp : ∀ b ∈ fps, (upd H2 D (.dT [])) b = none := fun b hb => (fok3 b hb).1.1
  generalize ece : compEnvC scope (cellsFrom (s3.heap.objs.size + 1) scope.names (cloFrom X.env.cells scope.names [])) s3.heap.objs.size X.env = cenv at J4 qg qt qk qe ⊢
  have locL : cenv.locals = s3.heap.objs.size := by subst ece; rfl
  generalize eH3 : upd H2 D (.dT []) = H3 at J3 J4 qg qt qk qe wz nofp fok3
  generalize es4 : ({ s3 with heap := pushCells (s3.heap.push { cls := .type "dict", data := .dict #[] }) scope.names } : Shared) = s4 at J4 ⊢
  have stn4 : tn 0 s4.heap := T.keep _ _ _ stn3 fun b _ o e => by rw [← es4]; exact pushCells_keeps _ _ _ _ (Heap.get?_push_of_some _ e)
  have stays : ∀ {σ' : L2.St} {H' : Hp} {s' : Shared}, Inv (X.blk s3 H3 scope cenv fps) [] σ' H' s' → (∀ b ∈ fps, H' b = none) → ∀ b ∈ fps, FpOk (X.blk s3 H3 scope cenv fps) [] H' b := fun {σ' H' s'} J' nsC b hb =>
    ⟨nsC b hb, (J'.ok.exf b hb).1, J'.ok.exfs b hb, .inl hb, fun x c e => (J'.ok.exf b hb).2 x c e, fun p hp => absurd (show p ∈ ([] : List (Addr × Obj)) ++ [] from hp) (by simp)⟩
  have lp : codeAny (model X.prog X.w) X.A (.compLoop (.DictComp kx vx [⟨tg, iter, ifs, 0⟩] scope pos) 0 (.ref it) (.ref D) cenv) (compPost (model X.prog X.w) X.A X.xe use Qf (.ref D) s3.heap.objs.size) s4 := by
    refine compLoop_anyD (fun n s' => ∃ i H', Inv (X.blk s3 H3 scope cenv fps) [] (wipe σ (own.map (·.2))) H' s' ∧ tn i s'.heap ∧ (∀ b ∈ fps, H' b = none) ∧ W i n H') ?_ mz ⟨0, H3, J4, stn4, nofp, wz⟩
    rintro n s5 ⟨i, H5, J5, stn5, no5, wa5⟩
    rcases trn i n H5 wa5 with ⟨halt, qq1⟩ | ⟨goes, Nx, nxt, stp⟩
    · have dn0 := T.done (X.blk s3 H3 scope cenv fps) rfl rfl rfl calm i [] s5 _ H5 (fun _ _ => False) J5 (stays J5 no5) stn5 halt
      refine thnF dn0 fun r s6 ⟨er, J6⟩ => ?_
      subst er
      -- back in the def's context
      have J7 : Inv X pins σ H5 s6 := J3.call' (ch := fps) J6.os J6.base J6.hok J6.bare fun b hb => ⟨(fok3 b hb).1.2.2.2.1, (fok3 b hb).1.2.1, (fok3 b hb).1.2.2.2.2.1, (fok3 b hb).1.2.2.2.2.2⟩
      have noC : H5 s3.heap.objs.size = none := by
        have z : H5 cenv.locals = none := J6.free
        rw [locL] at z
        exact z
      obtain ⟨mm, nsC, _⟩ := J6.loc
      have nsC : s6.heap.Ns cenv.locals mm := nsC
      rw [locL] at nsC
      exact fin0 D s3.heap.objs.size s6 mm H5 J7 qq1 nsC (J3.fpOk (Nat.le_refl _) noC)
    · have it0 := T.item (X.blk s3 H3 scope cenv fps) rfl rfl rfl calm i [] s5 _ H5 (fun _ _ => False) J5 (stays J5 no5) stn5 goes
      refine thnF it0 fun r s6 ⟨u, er, h6⟩ => ?_
      subst er
      refine thnF h6 fun _ s7 ⟨x, H7, J7, rr7, yy7, stn7, no7⟩ => ?_
      have J7' := J7.pinned (stays J7 no7) (T.obj _ _ stn7)
      refine thnF (qg.run _ s7 _ H7 x u _ J7' rr7 (stp x H7 yy7)) fun _ s8 ⟨σ8, H8, J8, ew8, qq8⟩ => ?_
      refine thnF (qt.run _ s8 σ8 H8 _ J8 qq8) fun b s9 ⟨H9, J9, qq9⟩ => ?_
      -- the turn's end
      have fin1 : ∀ {s' : Shared} {H' : Hp}, Inv (X.blk s3 H3 scope cenv fps) ([] ++ pinsAt fps s7.heap) σ8 H' s' → Nx H' → ∃ mm, mm < n ∧ ∃ i H', Inv (X.blk s3 H3 scope cenv fps) [] (wipe σ (own.map (·.2))) H' s' ∧ tn i s'.heap ∧ (∀ b ∈ fps, H' b = none) ∧ W i mm H' := fun {s' H'} J' nx0 => by
        obtain ⟨m', lm, w'⟩ := nxt H' nx0
        have pinz : ∀ b ∈ fps, ∀ o, s7.heap.get? b = some o → s'.heap.get? b = some o ∧ H' b = none := fun b hb o e =>
          let z := J'.pin (b, o) (List.mem_append_right _ (List.mem_append_right _ (mem_pinsAt hb e)))
          ⟨z.1, z.2.1⟩
        have len0 : (wipe σ (own.map (·.2))).length = σ8.length := by rw [← ew8, wipe_length]
        refine ⟨m', lm, i + 1, H', (J'.unpinned (pins := [])).weak len0 (fun j v e => ?_), T.keep _ _ _ stn7 fun b hb o e => (pinz b hb o e).1, fun b hb => ?_, w'⟩
        · rw [← ew8] at e
          exact (wipe_some e).1
        · obtain ⟨o, e, _⟩ := T.obj _ _ stn7 b hb
          exact (pinz b hb o e).2
      cases b with
      | false =>
        simp only [Bool.false_eq_true, if_false] at qq9 ⊢
        exact fin1 J9 qq9
      | true =>
        simp only [if_true] at qq9 ⊢
        refine thnF (qk.run _ s9 σ8 H9 _ J9 qq9) fun z s10 ⟨yk, H10, J10, r10, qq10⟩ => ?_
        refine thnF (qe.run _ s10 σ8 H10 _ J10 qq10) fun z2 s11 ⟨yv, H11, J11, r11, kvs, k, b, ek, hb11, hD11, hz11, nx0⟩ => ?_
        subst ek
        cases (show z = Value.ref b from r10)
        exact d_dictSetT (X := X.blk s3 H3 scope cenv fps) hu J11 hD11 hb11 hz11 r11 fun s12 J12 => fin1 J12 nx0
  exact codeAny_compStart_dict lp (T.self X.A 0 _ _ _ stn4 lp)
/-- as a value -/
theorem pe_dcT {kx vx tg iter : Expr} {ifs : List Expr} {scope : Scope} {own : List (Str × Nat)} {pos : Pos} {wi : TI} {g : TG} {tt : TT} {tk tv : TE} (hu : X.A.units < cLine) (calm : X.calm = true) (nod : X.N.Nodup) (src : PI X tg iter wi) (blk : BlkOk X.N X.env.scope scope own)
    (tgt : ∀ (s : Shared) (H : Hp) (C : Addr) (cl : List (Str × Addr)) (fps : List Addr), PG (X.blk s H scope (compEnvC scope cl C X.env) fps) tg g) (tst : ∀ (s : Shared) (H : Hp) (C : Addr) (cl : List (Str × Addr)) (fps : List Addr), PTs (X.blk s H scope (compEnvC scope cl C X.env) fps) ifs tt)
    (kyp : ∀ (s : Shared) (H : Hp) (C : Addr) (cl : List (Str × Addr)) (fps : List Addr), PE (X.blk s H scope (compEnvC scope cl C X.env) fps) kx tk)
    (vlp : ∀ (s : Shared) (H : Hp) (C : Addr) (cl : List (Str × Addr)) (fps : List Addr), PE (X.blk s H scope (compEnvC scope cl C X.env) fps) vx tv) (fol : ∀ x, foldedSetIterable iter X.env x = pure x := by intro _; rfl) :
    PE X (.DictComp kx vx [⟨tg, iter, ifs, 0⟩] scope pos) (tDcT wi g tt tk tv (own.map (·.2))) := by
  refine ⟨fun pins s σ H Q I h => ?_⟩
  rw [arm_eval_DictComp]
  refine dcT_core hu calm nod I src blk tgt tst kyp vlp fol h fun D C s' mm H' J' qq0 nsC f => ⟨mm, nsC, fun h'' sb => ?_⟩
  obtain ⟨f0, f1, fok2, fok3, f4, f5⟩ := f
  exact ⟨.ref D, H', J'.turned (t' := s'.toks) (fun b o hb e => (sb.2 b hb).trans e) f0 f1 fok3 f4 f5, rfl, qq0⟩
end
end Kb
end
section
/-! Kb9: dicts by data. -/
namespace Kb
open PySem PySem.Spec PyProof.Rows L2

/-- gives a new dict with tuple keys, of its own -/
def EDc (te : TE) (env : Env') (kvs : List (List Int × D)) : Prop := ∀ σ Hb H (Q : VK), Ex Hb H → EnvOk env σ Hb H → (∀ p ws Hb2 H2, H p = none → Hb2 p = none → Fr Hb H Hb2 H2 → H2 p = some (.dT ws) → Kvs kvs ws Hb2 → Q (.ref p) H2) → te σ H Q
def EDi (te : TE) (env : Env') (kvs : List (Int × D)) : Prop := ∀ σ Hb H (Q : VK), Ex Hb H → EnvOk env σ Hb H → (∀ p ws Hb2 H2, H p = none → Hb2 p = none → Fr Hb H Hb2 H2 → H2 p = some (.dK ws) → KvsI kvs ws Hb2 → Q (.ref p) H2) → te σ H Q
def PrD (R : List D → List (List Int × D) → Prop) : Sp := fun vs H Q _ => ∃ xs r Hb, R xs r ∧ Ex Hb H ∧ Dn xs vs Hb ∧ ∀ p ws Hb2 H2, H p = none → Hb2 p = none → Fr Hb H Hb2 H2 → H2 p = some (.dT ws) → Kvs r ws Hb2 → Q (.ref p) H2
section
variable {env : Env'} {ta te tk tv tl : TE} {tr : TA} {xs : List D} {d : D} {K : PySem.W.Frag} {i j : Nat} {vs : List Nat} {t : TT}
theorem edc_call {R : List D → List (List Int × D) → Prop} {r : List (List Int × D)} (h : EA tr env xs) (hR : R xs r) : EDc (tCl (PrD R) tr) env r := fun σ Hb H Q e o q =>
  h σ Hb H _ e o fun vs Hb2 H2 f2 p2 => ⟨xs, r, Hb2, hR, f2.s, p2, fun p ws Hb3 H3 hp hb f3 h3 d3 => q p ws Hb3 H3 (f2.h.no hp) hb (f2.trans f3) h3 d3⟩
theorem sb_dict {kvs : List (List Int × D)} (h : EDc te env kvs) : SB (tAsg te (gName i)) env (env.set i (.dict false kvs)) := fun Hb0 H0 σ Hb H D o k =>
  h σ Hb H _ o.fr.s o.sl fun p ws Hb2 H2 hp hb f hl hd => k _ Hb2 H2 ((o.fr2 f).set (x := .dict false kvs) ⟨p, ws, rfl, hb, hl, hd⟩ fun _ z => by cases z) f.b
theorem sb_dictI {kvs : List (Int × D)} (h : EDi te env kvs) : SB (tAsg te (gName i)) env (env.set i (.dictI false kvs)) := fun Hb0 H0 σ Hb H D o k =>
  h σ Hb H _ o.fr.s o.sl fun p ws Hb2 H2 hp hb f hl hd => k _ Hb2 H2 ((o.fr2 f).set (x := .dictI false kvs) ⟨p, ws, rfl, hb, hl, hd⟩ fun _ z => by cases z) f.b
/-- return a new dict -/
def SRD (t : TS) (env : Env') (r : List (List Int × D)) : Prop := ∀ Hb0 H0 σ Hb H (D : Ends), StOk Hb0 H0 env σ Hb H → (∀ p ws Hb' H', H0 p = none → Hb' p = none → Fr Hb0 H0 Hb' H' → H' p = some (.dT ws) → Kvs r ws Hb' → D.rt (.ref p) H') → t D σ H
theorem srd_ret {r : List (List Int × D)} (h : EDc te env r) : SRD (tRet te) env r := fun Hb0 H0 σ Hb H D o k => h σ Hb H _ o.fr.s o.sl fun p ws Hb2 H2 hp hb f hl hd => k p ws Hb2 H2 (o.fr.h.no hp) hb (o.fr.trans f) hl hd
theorem kvs_find {kvs : List (List Int × D)} {ws : List (List Key × V)} {H : Hp} {k : List Int} (h : Kvs kvs ws H) (e : kvs.lookup k = some d) : ∃ v, valV ws (k.map Sum.inl) = some v ∧ d.p v H := by
  induction h with
  | nil => cases e
  | @cons a b r r' p _ ih =>
    rw [List.lookup_cons] at e
    by_cases z : k = a.1
    · rw [beq_iff_eq.mpr z] at e
      have e1 : a.2 = d := Option.some.inj e
      exact ⟨b.2, valV_pos (by rw [p.1, z]), e1 ▸ p.2⟩
    · rw [Bool.eq_false_iff.mpr fun q => z (beq_iff_eq.mp q)] at e
      obtain ⟨v, h1, h2⟩ := ih e
      refine ⟨v, ?_, h2⟩
      rw [valV_neg fun q => z ?_]
      · exact h1
      · rw [p.1] at q
        exact (List.map_inj_right (fun x y w => by cases w; rfl)).mp q.symm
theorem kvsI_find {kvs : List (Int × D)} {ws : List (Key × V)} {H : Hp} {k : Int} (h : KvsI kvs ws H) (e : kvs.lookup k = some d) : ∃ v, valV ws (Sum.inl k) = some v ∧ d.p v H := by
  induction h with
  | nil => cases e
  | @cons a b r r' p _ ih =>
    rw [List.lookup_cons] at e
    by_cases z : k = a.1
    · rw [beq_iff_eq.mpr z] at e
      have e1 : a.2 = d := Option.some.inj e
      exact ⟨b.2, valV_pos (by rw [p.1, z]), e1 ▸ p.2⟩
    · rw [Bool.eq_false_iff.mpr fun q => z (beq_iff_eq.mp q)] at e
      obtain ⟨v, h1, h2⟩ := ih e
      refine ⟨v, ?_, h2⟩
      rw [valV_neg fun q => z ?_]
      · exact h1
      · rw [p.1] at q
        cases q
        rfl
theorem kv_map (k : List Int) : (k.map Sum.inl).map kV = k.map V.int := by rw [List.map_map]; rfl
theorem dget_of {b : Bool} {kvs : List (List Int × D)} {a : Addr} {ws : List (List Key × V)} {H : Hp} {p : Addr} {k : List Int} (h : if b = true then ∃ o, H a = some (.frz o (.dT ws)) else H a = some (.dT ws)) (hp : H p = some (.tup (k.map V.int))) : DGet H a (.ref p) (valV ws (k.map Sum.inl)) := by
  refine .inr ⟨ws, k.map Sum.inl, p, ?_, rfl, by rw [kv_map]; exact hp, rfl⟩
  cases b with
  | true => obtain ⟨o, h⟩ := h; exact .inr ⟨o, h⟩
  | false => exact .inl h
/-- gains[lot] -/
theorem ed_dget {b : Bool} {kvs : List (List Int × D)} {k : List Int} (h : env[i]? = some (.dict b kvs)) (hk : ED te env (dt K (k.map fun n => di n))) (e : kvs.lookup k = some d) : ED (tDGet (tVar i) te) env d := fun σ Hb H Q ex o q => by
  obtain ⟨a, ws, h1, h2, h3, h4⟩ := o.at_ i _ h
  refine ⟨_, h1, hk σ Hb H _ ex o fun y Hb2 H2 f py => ?_⟩
  obtain ⟨p, us, rfl, hp, dn⟩ := py
  obtain rfl := Dn.eq_map (f := V.int) dn
  obtain ⟨v, e1, e2⟩ := kvs_find (h4.mono f.b) e
  have h3' : if b = true then ∃ o, H2 a = some (.frz o (.dT ws)) else H2 a = some (.dT ws) := by
    cases b with
    | true => obtain ⟨ob, h3⟩ := h3; exact ⟨ob, f.h.k h3⟩
    | false => exact f.h.k h3
  exact ⟨a, v, rfl, e1 ▸ dget_of (kvs := kvs) h3' (f.s p _ hp), q v Hb2 H2 f e2⟩
theorem ed_dgetI {b : Bool} {kvs : List (Int × D)} {k : Int} (h : env[i]? = some (.dictI b kvs)) (hk : ED te env (di k)) (e : kvs.lookup k = some d) : ED (tDGet (tVar i) te) env d := fun σ Hb H Q ex o q => by
  obtain ⟨a, ws, h1, h2, h3, h4⟩ := o.at_ i _ h
  refine ⟨_, h1, hk σ Hb H _ ex o fun y Hb2 H2 f py => ?_⟩
  have py' : y = .int k := py
  subst py'
  obtain ⟨v, e1, e2⟩ := kvsI_find (h4.mono f.b) e
  refine ⟨a, v, rfl, .inl ⟨ws, Sum.inl k, ?_, rfl, e1.symm⟩, q v Hb2 H2 f e2⟩
  cases b with
  | true => obtain ⟨ob, h3⟩ := h3; exact .inr ⟨ob, f.h.k h3⟩
  | false => exact .inl (f.h.k h3)
/-- under the lock -/
theorem env_lock {kvs : List (List Int × D)} {σ : L2.St} {Hb H : Hp} {a : Addr} {ws : List (List Key × V)} {ob : Obj} (o : EnvOk env σ Hb H) (h : env[i]? = some (.dict false kvs)) (ea : σ[i]? = some (some (.ref a))) (hb : Hb a = none) (ha : H a = some (.dT ws)) (kv : Kvs kvs ws Hb)
    (only : ∀ (k : Nat) (b : Bool) (l : List (List Int × D)), env[k]? = some (.dict b l) → k = i) : EnvOk (env.set i (.dict true kvs)) σ Hb (upd H a (.frz ob (.dT ws))) := by
  have l : i < env.length := (List.getElem?_eq_some_iff.mp h).1
  refine ⟨by rw [List.length_set]; exact o.len, fun k y e => ?_⟩
  by_cases q : i = k
  · subst q
    rw [List.getElem?_set_self l] at e
    cases e
    exact ⟨a, ws, ea, hb, ⟨ob, upd_same⟩, kv⟩
  · rw [List.getElem?_set_ne q] at e
    have z := o.at_ k y e
    cases y with
    | no => exact trivial
    | d d' => exact z
    | own zs =>
      obtain ⟨b', us, e1, e2, e3, e4⟩ := z
      have ne : b' ≠ a := fun w => by rw [w, ha] at e3; cases e3
      exact ⟨b', us, e1, e2, by rw [upd_ne ne]; exact e3, e4⟩
    | dict bb l => exact absurd (only k bb l e).symm q
    | dictI bb l =>
      obtain ⟨b', us, e1, e2, e3, e4⟩ := z
      cases bb with
      | true =>
        obtain ⟨o2, e3⟩ := e3
        have ne : b' ≠ a := fun w => by rw [w, ha] at e3; cases e3
        exact ⟨b', us, e1, e2, ⟨o2, by rw [upd_ne ne]; exact e3⟩, e4⟩
      | false =>
        have e3 : H b' = some (.dK us) := e3
        have ne : b' ≠ a := fun w => by rw [w, ha] at e3; cases e3
        exact ⟨b', us, e1, e2, by show upd H a _ b' = _; rw [upd_ne ne]; exact e3, e4⟩
    | dP P q' d' => exact ⟨z.1, tabs_put ha (fun _ z => by cases z) (fun _ z => by cases z) z.2.1, z.2.2⟩
theorem env_lockI {kvs : List (Int × D)} {σ : L2.St} {Hb H : Hp} {a : Addr} {ws : List (Key × V)} {ob : Obj} (o : EnvOk env σ Hb H) (h : env[i]? = some (.dictI false kvs)) (ea : σ[i]? = some (some (.ref a))) (hb : Hb a = none) (ha : H a = some (.dK ws)) (kv : KvsI kvs ws Hb)
    (only : ∀ (k : Nat) (b : Bool) (l : List (Int × D)), env[k]? = some (.dictI b l) → k = i) : EnvOk (env.set i (.dictI true kvs)) σ Hb (upd H a (.frz ob (.dK ws))) := by
  have l : i < env.length := (List.getElem?_eq_some_iff.mp h).1
  refine ⟨by rw [List.length_set]; exact o.len, fun k y e => ?_⟩
  by_cases q : i = k
  · subst q
    rw [List.getElem?_set_self l] at e
    cases e
    exact ⟨a, ws, ea, hb, ⟨ob, upd_same⟩, kv⟩
  · rw [List.getElem?_set_ne q] at e
    have z := o.at_ k y e
    cases y with
    | no => exact trivial
    | d d' => exact z
    | own zs =>
      obtain ⟨b', us, e1, e2, e3, e4⟩ := z
      have ne : b' ≠ a := fun w => by rw [w, ha] at e3; cases e3
      exact ⟨b', us, e1, e2, by rw [upd_ne ne]; exact e3, e4⟩
    | dictI bb l => exact absurd (only k bb l e).symm q
    | dict bb l =>
      obtain ⟨b', us, e1, e2, e3, e4⟩ := z
      cases bb with
      | true =>
        obtain ⟨o2, e3⟩ := e3
        have ne : b' ≠ a := fun w => by rw [w, ha] at e3; cases e3
        exact ⟨b', us, e1, e2, ⟨o2, by rw [upd_ne ne]; exact e3⟩, e4⟩
      | false =>
        have e3 : H b' = some (.dT us) := e3
        have ne : b' ≠ a := fun w => by rw [w, ha] at e3; cases e3
        exact ⟨b', us, e1, e2, by show upd H a _ b' = _; rw [upd_ne ne]; exact e3, e4⟩
    | dP P q' d' => exact ⟨z.1, tabs_put ha (fun _ z => by cases z) (fun _ z => by cases z) z.2.1, z.2.2⟩
/-- the heap behind the lock -/
theorem fr_unlock {Hb H Hb2 H2 : Hp} {a : Addr} {u f : HO} (e : Ex Hb H) (hb : Hb a = none) (ha : H a = some u) (hm : ∀ vs, u ≠ .tup vs) (hm2 : ∀ vs, f ≠ .tup vs) (n1 : ∀ ps, u ≠ .tbl ps) (n2 : ∀ g, u ≠ .ext g) (n3 : ∀ ps, f ≠ .tbl ps) (n4 : ∀ g, f ≠ .ext g) (fr : Fr Hb (upd H a f) Hb2 H2) : Fr Hb H Hb2 (upd H2 a u) ∧ H2 a = some f ∧ Hb2 a = none := by
  have h2 : H2 a = some f := fr.h.k upd_same n3
  have hb2 : Hb2 a = none := fr.o a ⟨f, upd_same, hm2⟩ hb
  refine ⟨⟨fr.b, fun c w hc => ?_, ⟨fun c w hc n => ?_, fun c ps hc => ?_, fun P q t => tabs_put h2 n3 n4 (fr.h.ts P q (tabs_put ha n1 n2 t))⟩, fun c hc hn => ?_⟩, h2, hb2⟩
  · rw [upd_ne (fun z => by rw [z, hb2] at hc; cases hc)]
    exact fr.s c w hc
  · by_cases z : c = a
    · rw [z, ha] at hc
      rw [z, upd_same]
      exact hc
    · rw [upd_ne z]
      exact fr.h.k1 c w (by rw [upd_ne z]; exact hc) n
  · have z : c ≠ a := fun z => by
      rw [z, ha] at hc
      exact n1 ps (Option.some.inj hc)
    rw [upd_ne z]
    exact fr.h.tb c ps (by rw [upd_ne z]; exact hc)
  · by_cases z : c = a
    · rw [z]; exact hb2
    · refine fr.o c ?_ hn
      obtain ⟨w, h1, h3⟩ := hc
      exact ⟨w, by rw [upd_ne z]; exact h1, h3⟩
theorem eo_lock {kvs : List (List Int × D)} (h : env[i]? = some (.dict false kvs)) (only : ∀ (k : Nat) (b : Bool) (l : List (List Int × D)), env[k]? = some (.dict b l) → k = i) (hi : EO te (env.set i (.dict true kvs)) xs) : EO (tLockE te) env xs := fun σ Hb H Q e o q => by
  obtain ⟨a, ws, h1, h2, h3, h4⟩ := o.at_ i _ h
  have h3 : H a = some (.dT ws) := h3
  refine ⟨a, _, h3, trivial, fun od => ?_⟩
  have e' : Ex Hb (upd H a (.frz od (.dT ws))) := fun c u hc => by
    rw [upd_ne (fun z => by rw [z, h2] at hc; cases hc)]
    exact e c u hc
  refine hi σ Hb _ _ e' (env_lock o h h1 h2 h3 h4 only) fun p us Hb2 H2 hp hb f hl hd => ?_
  obtain ⟨f', g1, g2⟩ := fr_unlock e h2 h3 (fun _ z => by cases z) (fun _ z => by cases z) (fun _ z => by cases z) (fun _ z => by cases z) (fun _ z => by cases z) (fun _ z => by cases z) f
  have ne : p ≠ a := fun z => by rw [z, g1] at hl; cases hl
  refine ⟨g1, q p us Hb2 _ ?_ hb f' (by rw [upd_ne ne]; exact hl) hd⟩
  rw [upd_ne ne] at hp
  exact hp
theorem eo_lockI {kvs : List (Int × D)} (h : env[i]? = some (.dictI false kvs)) (only : ∀ (k : Nat) (b : Bool) (l : List (Int × D)), env[k]? = some (.dictI b l) → k = i) (hi : EO te (env.set i (.dictI true kvs)) xs) : EO (tLockE te) env xs := fun σ Hb H Q e o q => by
  obtain ⟨a, ws, h1, h2, h3, h4⟩ := o.at_ i _ h
  have h3 : H a = some (.dK ws) := h3
  refine ⟨a, _, h3, trivial, fun od => ?_⟩
  have e' : Ex Hb (upd H a (.frz od (.dK ws))) := fun c u hc => by
    rw [upd_ne (fun z => by rw [z, h2] at hc; cases hc)]
    exact e c u hc
  refine hi σ Hb _ _ e' (env_lockI o h h1 h2 h3 h4 only) fun p us Hb2 H2 hp hb f hl hd => ?_
  obtain ⟨f', g1, g2⟩ := fr_unlock e h2 h3 (fun _ z => by cases z) (fun _ z => by cases z) (fun _ z => by cases z) (fun _ z => by cases z) (fun _ z => by cases z) (fun _ z => by cases z) f
  have ne : p ≠ a := fun z => by rw [z, g1] at hl; cases hl
  refine ⟨g1, q p us Hb2 _ ?_ hb f' (by rw [upd_ne ne]; exact hl) hd⟩
  rw [upd_ne ne] at hp
  exact hp
/-- a tuple of ints that stands somewhere: in the base from now on -/
theorem add_tup {Hb H : Hp} {p : Addr} {vs : List V} (e : Ex Hb H) (h : H p = some (.tup vs)) : ∃ Hb2, Fr Hb H Hb2 H ∧ Hb2 p = some (.tup vs) := by
  cases q : Hb p with
  | some u =>
    have := e p u q
    rw [h] at this
    cases this
    exact ⟨Hb, Fr.refl e, q⟩
  | none =>
    refine ⟨upd Hb p (.tup vs), ⟨Evl.Ex.new q, fun c u hc => ?_, Gx.refl _, fun c hc hn => ?_⟩, upd_same⟩
    · by_cases z : c = p
      · rw [z, upd_same] at hc
        rw [z, h]
        exact hc
      · rw [upd_ne z] at hc
        exact e c u hc
    · rw [upd_ne (fun z => ?_)]
      · exact hn
      · obtain ⟨u, h1, h2⟩ := hc
        rw [z, h] at h1
        exact h2 vs (Option.some.inj h1).symm
/-- a walk that leaves the heap -/
theorem eo_lcW {α : Type} {wi : TI} (l : List α) (g : α → D) (f : α → Bool) (h : α → D) (hz : l.length < 90000) (hj : j ∈ vs)
    (hw : ∀ σ Hb H (R : It → Hp → Prop), Ex Hb H → EnvOk env σ Hb H → (∀ J Hb1 H1, Fr Hb H Hb1 H1 → (∀ i Hi Hx, Fr Hb1 H1 Hi Hx → (l.length ≤ i → J.stop i Hx) ∧ (i < l.length → J.go i Hx) ∧ ∀ x H' a, l[i]? = some a → J.yld i Hx x H' → H' = Hx ∧ ∃ Hi', Fr Hi Hx Hi' Hx ∧ (g a).p x Hi') → R J H1) → wi σ H R)
    (ht : ∀ a ∈ l, ET t ((wipeE env vs).set j (.d (g a))) (f a)) (he : ∀ a ∈ l, f a = true → ED te ((wipeE env vs).set j (.d (g a))) (h a)) : EO (tLc wi (gName j) t te vs) env ((l.filter f).map h) := fun σ Hb H Q e o q => by
  refine hw σ Hb H _ e o fun J Hb1 H1 f1 st Dl hD => ?_
  refine ⟨fun i m H' => i ≤ l.length ∧ m = l.length - i ∧ LcOk Hb1 H1 Dl (((l.take i).filter f).map h) H', ⟨l.length, Nat.zero_le _, by simp, lc_0 f1.s hD⟩, ?_⟩
  rintro i m H' ⟨hi, rfl, p⟩
  obtain ⟨Hi, ws, f2, n1, n2, n3⟩ := id p
  obtain ⟨s1, s2, s3⟩ := st i Hi H' f2
  by_cases lt : i < l.length
  · refine .inr ⟨s2 lt, fun H2 => LcOk Hb1 H1 Dl (((l.take (i + 1)).filter f).map h) H2, fun H2 p2 => ⟨l.length - (i + 1), by omega, by omega, rfl, p2⟩, fun x H2 y => ?_⟩
    have ha : l[i]? = some l[i] := by simp [lt]
    obtain ⟨rfl, Hi', f3, px⟩ := s3 x H2 l[i] ha y
    have ml := List.mem_of_getElem? ha
    have p' : LcOk Hb1 H1 Dl (((l.take i).filter f).map h) H2 := ⟨Hi', ws, f2.trans f3, f3.o Dl ⟨_, n2, fun _ z => by cases z⟩ n1, n2, n3.mono f3.b⟩
    refine ⟨wipe_set hj, ?_⟩
    refine ht l[i] ml _ Hi' H2 _ f3.s ((((o.fr f1).fr (f2.trans f3)).wipe vs).set (x := .d (g l[i])) ⟨x, rfl, px⟩) fun Hb2 H3 f4 => ?_
    have mu : Mu H2 Dl := ⟨_, n2, fun _ z => by cases z⟩
    have nb : Hi' Dl = none := f3.o Dl mu n1
    have F := f2.trans f3
    cases hf : f l[i] with
    | false =>
      show LcOk Hb1 H1 Dl _ H3
      rw [fil_snoc l f h i _ ha, hf]
      exact ⟨Hb2, ws, F.trans f4, f4.o Dl mu nb, f4.h.k n2, (n3.mono f3.b).mono f4.b⟩
    | true =>
      show te _ H3 _
      refine he l[i] ml hf _ Hb2 H3 _ f4.s (((((o.fr f1).fr (f2.trans f3)).wipe vs).set (x := .d (g l[i])) ⟨x, rfl, px⟩).fr f4) fun y Hb3 H4 f5 py => ?_
      have nb3 : Hb3 Dl = none := f5.o Dl (mu.mono f4.h) (f4.o Dl mu nb)
      have hzl : ws.length < 90000 := by
        rw [← n3.len, List.length_map]
        have h1 := List.length_filter_le f (l.take i)
        have h2 : (l.take i).length ≤ l.length := by rw [List.length_take]; exact Nat.min_le_right _ _
        omega
      refine ⟨ws, f5.h.k (f4.h.k n2), Evl.sz_lt (by omega), ?_⟩
      show LcOk Hb1 H1 Dl _ _
      rw [fil_snoc l f h i _ ha, hf, if_pos rfl]
      have G := (F.trans f4).trans f5
      exact ⟨Hb3, ws ++ [y], ⟨G.b, fun a u hc => by rw [upd_ne (fun z => by rw [z, nb3] at hc; cases hc)]; exact G.s a u hc, G.h.over hD (f5.h.k (f4.h.k n2)), G.o⟩, nb3, upd_same, (((n3.mono f3.b).mono f4.b).mono f5.b).app (.cons py .nil)⟩
  · have ei : i = l.length := by omega
    subst ei
    rw [List.take_length] at p
    exact .inl ⟨s1 (Nat.le_refl _), lc_end f1 hD p q⟩
theorem kvs_at {kvs : List (List Int × D)} {ws : List (List Key × V)} {H : Hp} {n : Nat} {k : List Int} {d : D} (h : Kvs kvs ws H) (e : kvs[n]? = some (k, d)) : ∃ v, ws[n]? = some (k.map Sum.inl, v) := by
  induction h generalizing n with
  | nil => simp at e
  | @cons a b r r' p _ ih =>
    cases n with
    | zero =>
      simp at e
      subst e
      exact ⟨b.2, by simp [← p.1]⟩
    | succ n => exact ih (by simpa using e)
theorem kvsI_at {kvs : List (Int × D)} {ws : List (Key × V)} {H : Hp} {n : Nat} {k : Int} {d : D} (h : KvsI kvs ws H) (e : kvs[n]? = some (k, d)) : ∃ v, ws[n]? = some (Sum.inl k, v) := by
  induction h generalizing n with
  | nil => simp at e
  | @cons a b r r' p _ ih =>
    cases n with
    | zero =>
      simp at e
      subst e
      exact ⟨b.2, by simp [← p.1]⟩
    | succ n => exact ih (by simpa using e)
/-- [.. for lot in gains ..], gains locked -/
theorem eo_lcD {α : Type} (l : List α) (kf : α → List Int) (df : α → D) (f : α → Bool) (h : α → D) (hi : env[i]? = some (.dict true (l.map fun a => (kf a, df a)))) (hz : l.length < 90000) (hj : j ∈ vs)
    (ht : ∀ a ∈ l, ET t ((wipeE env vs).set j (.d (dt K ((kf a).map fun n => di n)))) (f a)) (he : ∀ a ∈ l, f a = true → ED te ((wipeE env vs).set j (.d (dt K ((kf a).map fun n => di n)))) (h a)) : EO (tLc (iKeys (tVar i)) (gName j) t te vs) env ((l.filter f).map h) := by
  refine eo_lcW l (fun a => dt K ((kf a).map fun n => di n)) f h hz hj (fun σ Hb H R e o q => ?_) ht he
  obtain ⟨a, ws, h1, h2, ⟨ob, h3⟩, h4⟩ := o.at_ i _ hi
  refine ⟨.ref a, h1, a, ob, rfl, .inr ⟨ws, h3, q _ Hb H (Fr.refl e) fun n Hi Hx fi => ?_⟩⟩
  have hx := fi.h.k h3
  have hlen : ws.length = l.length := by have := Paired.length h4; rw [List.length_map] at this; exact this.symm
  refine ⟨fun z => ⟨hx, by omega⟩, fun z => ⟨hx, by omega⟩, fun x H' b hb y => ?_⟩
  obtain ⟨rfl, k, v, p, hk, rfl, hp⟩ := y
  obtain ⟨v', hv⟩ := kvs_at (n := n) (k := kf b) (d := df b) h4 (by rw [List.getElem?_map, hb]; rfl)
  rw [hv] at hk
  cases hk
  rw [kv_map] at hp
  obtain ⟨Hi', g1, g2⟩ := add_tup fi.s hp
  exact ⟨rfl, Hi', g1, p, _, rfl, g2, dn_map⟩
theorem eo_lcDI {α : Type} (l : List α) (kf : α → Int) (df : α → D) (f : α → Bool) (h : α → D) (hi : env[i]? = some (.dictI true (l.map fun a => (kf a, df a)))) (hz : l.length < 90000) (hj : j ∈ vs)
    (ht : ∀ a ∈ l, ET t ((wipeE env vs).set j (.d (di (kf a)))) (f a)) (he : ∀ a ∈ l, f a = true → ED te ((wipeE env vs).set j (.d (di (kf a)))) (h a)) : EO (tLc (iKeys (tVar i)) (gName j) t te vs) env ((l.filter f).map h) := by
  refine eo_lcW l (fun a => di (kf a)) f h hz hj (fun σ Hb H R e o q => ?_) ht he
  obtain ⟨a, ws, h1, h2, ⟨ob, h3⟩, h4⟩ := o.at_ i _ hi
  refine ⟨.ref a, h1, a, ob, rfl, .inl ⟨ws, h3, q _ Hb H (Fr.refl e) fun n Hi Hx fi => ?_⟩⟩
  have hx := fi.h.k h3
  have hlen : ws.length = l.length := by have := Paired.length h4; rw [List.length_map] at this; exact this.symm
  refine ⟨fun z => ⟨hx, by omega⟩, fun z => ⟨hx, by omega⟩, fun x H' b hb y => ?_⟩
  obtain ⟨rfl, k, v, hk, rfl⟩ := y
  obtain ⟨v', hv⟩ := kvsI_at (n := n) (k := kf b) (d := df b) h4 (by rw [List.getElem?_map, hb]; rfl)
  rw [hv] at hk
  cases hk
  exact ⟨rfl, Hi, Fr.refl fi.s, rfl⟩
end
end Kb
end
section
/-! Kb10: dict comprehensions by data. -/
namespace Kb
open PySem PySem.Spec PyProof.Rows L2
section
variable {env : Env'} {ta te tk tv tl : TE} {tr : TA} {xs : List D} {d : D} {K : PySem.W.Frag} {i j : Nat} {vs : List Nat} {t : TT} {α : Type}
theorem kvs_none {kvs : List (List Int × D)} {ws : List (List Key × V)} {H : Hp} {k : List Int} (h : Kvs kvs ws H) (e : ∀ p ∈ kvs, p.1 ≠ k) : valV ws (k.map Sum.inl) = none := by
  induction h with
  | nil => rfl
  | @cons a b r r' p _ ih =>
    rw [valV_neg fun q => e a (List.mem_cons_self ..) ?_]
    · exact ih fun p hp => e p (List.mem_cons_of_mem _ hp)
    · rw [p.1] at q
      exact (List.map_inj_right (fun x y w => by cases w; rfl)).mp q
theorem kvs_snoc {kvs : List (List Int × D)} {ws : List (List Key × V)} {H : Hp} {k : List Int} {v : V} (h : Kvs kvs ws H) (hd : d.p v H) : Kvs (kvs ++ [(k, d)]) (ws ++ [(k.map Sum.inl, v)]) H := by
  induction h with
  | nil => exact .cons ⟨rfl, hd⟩ .nil
  | cons p _ ih => exact .cons p ih
/-- {k: v for lot in lots}, keys tuples, none twice -/
theorem edc_comp (l : List α) (g : α → D) (kf : α → List Int) (df : α → D) (hl : ED tl env (dl (l.map g))) (hz : l.length < 90000) (hj : j ∈ vs) (nd : (l.map kf).Nodup)
    (hk : ∀ a ∈ l, ED tk ((wipeE env vs).set j (.d (g a))) (dt K ((kf a).map fun n => di n))) (hv : ∀ a ∈ l, ED tv ((wipeE env vs).set j (.d (g a))) (df a)) :
    EDc (tDcT (iList K tl) (gName j) tYes tk tv vs) env (l.map fun a => (kf a, df a)) := fun σ Hb H Q e o q => by
  refine hl σ Hb H _ e o fun v Hb1 H1 f1 hp => ?_
  obtain ⟨a, us, rfl, ha, dn⟩ := hp
  have hlen : us.length = l.length := by have := dn.len; rw [List.length_map] at this; exact this.symm
  refine ⟨a, rfl, ⟨us, Evl.sq_of (f1.s a _ ha)⟩, fun D0 hD => ?_⟩
  refine ⟨fun i m H' => i ≤ l.length ∧ m = l.length - i ∧ ∃ Hi ws, Fr Hb1 H1 Hi H' ∧ Hi D0 = none ∧ H' D0 = some (.dT ws) ∧ Kvs ((l.take i).map fun a => (kf a, df a)) ws Hi, ⟨l.length, Nat.zero_le _, by simp, Hb1, [], Fr.newO f1.s hD, no_of f1.s hD, upd_same, .nil⟩, ?_⟩
  rintro i m H' ⟨hi, rfl, Hi, ws, f2, n1, n2, n3⟩
  have sq : SqL K H' a us := Evl.sq_of (f2.s a _ (f2.b a _ ha))
  by_cases lt : i < l.length
  · have lu : i < us.length := by omega
    refine .inr ⟨⟨us, us[i], sq, by simp [lu]⟩, fun H2 => ∃ Hi ws, Fr Hb1 H1 Hi H2 ∧ Hi D0 = none ∧ H2 D0 = some (.dT ws) ∧ Kvs ((l.take (i + 1)).map fun a => (kf a, df a)) ws Hi, fun H2 p2 => ⟨l.length - (i + 1), by omega, by omega, rfl, p2⟩, fun x H2 y => ?_⟩
    obtain ⟨rfl, y⟩ := y
    have hx := y us sq
    obtain ⟨d, hd, px⟩ := dn.at_ hx
    rw [List.getElem?_map] at hd
    obtain ⟨b, hb, ed⟩ := Option.map_eq_some_iff.mp hd
    subst ed
    have ml := List.mem_of_getElem? hb
    refine ⟨wipe_set hj, ?_⟩
    have oe : EnvOk ((wipeE env vs).set j (.d (g b))) ((L2.wipe σ vs).set j (some x)) Hi H2 := (((o.fr f1).fr f2).wipe vs).set (x := .d (g b)) ⟨x, rfl, (g b).mono f2.b px⟩
    refine hk b ml _ Hi H2 _ f2.s oe fun y Hb2 H3 f4 py => ?_
    refine hv b ml _ Hb2 H3 _ f4.s (oe.fr f4) fun z Hb3 H4 f5 pz => ?_
    obtain ⟨p, zs, rfl, hp, dz⟩ := py
    obtain rfl := Dn.eq_map (f := V.int) dz
    have mu : Mu H2 D0 := ⟨_, n2, fun _ z => by cases z⟩
    have nb3 : Hb3 D0 = none := f5.o D0 (mu.mono f4.h) (f4.o D0 mu n1)
    have kv3 := (n3.mono f4.b).mono f5.b
    have hzl : ws.length < 90000 := by
      rw [← Paired.length n3, List.length_map]
      have h2 : (l.take i).length ≤ l.length := by rw [List.length_take]; exact Nat.min_le_right _ _
      omega
    refine ⟨ws, (kf b).map Sum.inl, p, rfl, by rw [kv_map]; exact f5.h.k (f4.s p _ hp), f5.h.k (f4.h.k n2), Evl.sz_lt (by omega), ?_⟩
    have hn : valV ws ((kf b).map Sum.inl) = none := by
      refine kvs_none n3 fun q hq => ?_
      obtain ⟨c, hc, rfl⟩ := List.mem_map.mp hq
      obtain ⟨k, hk1, hk2⟩ := List.mem_take_iff_getElem.mp hc
      intro eq
      have h1 : (l.map kf)[k]? = some (kf b) := by
        rw [List.getElem?_map, List.getElem?_eq_getElem (by omega)]
        exact congrArg some (by rw [hk2]; exact eq)
      have h2 : (l.map kf)[i]? = some (kf b) := by rw [List.getElem?_map, hb]; rfl
      have : k = i := (List.getElem?_inj (by rw [List.length_map]; omega) nd).mp (h1.trans h2.symm)
      omega
    rw [putK_new z hn]
    have G := (f2.trans f4).trans f5
    have et : (l.take (i + 1)).map (fun a => (kf a, df a)) = (l.take i).map (fun a => (kf a, df a)) ++ [(kf b, df b)] := by rw [List.take_add_one, hb, List.map_append]; rfl
    refine ⟨Hb3, _, ⟨G.b, fun a u hc => by rw [upd_ne (fun z => by rw [z, nb3] at hc; cases hc)]; exact G.s a u hc, G.h.over hD (f5.h.k (f4.h.k n2)), G.o⟩, nb3, upd_same, ?_⟩
    rw [et]
    exact kvs_snoc kv3 pz
  · have ei : i = l.length := by omega
    subst ei
    rw [List.take_length] at n3
    exact .inl ⟨⟨us, sq, by omega⟩, q D0 ws Hi H' (f1.h.no hD) n1 (f1.trans f2) n2 n3⟩
/-- the keys in their order -/
def kadd (ks : List Int) (k : Int) : List Int := if k ∈ ks then ks else ks ++ [k]
def keysOf (l : List Int) : List Int := l.foldl kadd []
theorem keysOf_snoc (l : List Int) (k : Int) : keysOf (l ++ [k]) = kadd (keysOf l) k := by unfold keysOf; rw [List.foldl_append]; rfl
theorem keysOf_len (l : List Int) : (keysOf l).length ≤ l.length := by
  have : ∀ (l ks : List Int), (l.foldl kadd ks).length ≤ ks.length + l.length := by
    intro l
    induction l with
    | nil => intro ks; simp
    | cons a r ih =>
      intro ks
      have h1 := ih (kadd ks a)
      have h2 : (kadd ks a).length ≤ ks.length + 1 := by unfold kadd; split <;> simp
      simp only [List.foldl_cons, List.length_cons]
      omega
  have h := this l []
  unfold keysOf
  simpa using h
theorem kvsI_put {vf : Int → D} {ks : List Int} {ws : List (Key × V)} {H : Hp} {k : Int} {v : V} (h : KvsI (ks.map fun k => (k, vf k)) ws H) (hd : (vf k).p v H) : KvsI ((kadd ks k).map fun k => (k, vf k)) (putK ws (Sum.inl k) v) H := by
  have hany : (ws.any fun kv => decide (kv.1 = Sum.inl k)) = decide (k ∈ ks) := by
    induction ks generalizing ws with
    | nil => cases h; simp
    | cons a r ih =>
      cases h with
      | @cons x b y r' p q =>
        rw [List.any_cons, ih q]
        have e1 : b.1 = Sum.inl a := p.1
        by_cases z : a = k
        · simp [e1, z]
        · have z' : ¬ k = a := fun w => z w.symm
          simp [e1, z, z']
  unfold putK kadd
  by_cases m : k ∈ ks
  · rw [if_pos m, hany, if_pos (by simpa using m)]
    clear hany m
    induction ks generalizing ws with
    | nil => cases h; exact .nil
    | cons a r ih =>
      cases h with
      | @cons x b y r' p q =>
        refine .cons ?_ (ih q)
        have e1 : b.1 = Sum.inl a := p.1
        by_cases z : a = k
        · subst z
          dsimp only
          rw [if_pos e1]
          exact ⟨e1, hd⟩
        · dsimp only
          rw [if_neg (fun w => z (by rw [e1] at w; cases w; rfl))]
          exact p
  · rw [if_neg m, hany, if_neg (by simpa using m)]
    rw [List.map_append]
    clear hany m
    induction ks generalizing ws with
    | nil => cases h; exact .cons ⟨rfl, hd⟩ .nil
    | cons a r ih =>
      cases h with
      | @cons x b y r' p q => exact .cons p (ih q)
/-- {code: v for ..}, keys ints, the value told by the key -/
theorem edi_comp (l : List α) (g : α → D) (kf : α → Int) (vf : Int → D) (hl : ED tl env (dl (l.map g))) (hz : l.length < 90000) (hj : j ∈ vs)
    (hk : ∀ a ∈ l, ED tk ((wipeE env vs).set j (.d (g a))) (di (kf a))) (hv : ∀ a ∈ l, ED tv ((wipeE env vs).set j (.d (g a))) (vf (kf a))) :
    EDi (tDc (iList K tl) (gName j) tYes tk tv vs) env ((keysOf (l.map kf)).map fun k => (k, vf k)) := fun σ Hb H Q e o q => by
  refine hl σ Hb H _ e o fun v Hb1 H1 f1 hp => ?_
  obtain ⟨a, us, rfl, ha, dn⟩ := hp
  have hlen : us.length = l.length := by have := dn.len; rw [List.length_map] at this; exact this.symm
  refine ⟨a, rfl, ⟨us, Evl.sq_of (f1.s a _ ha)⟩, fun D0 hD => ?_⟩
  refine ⟨fun i m H' => i ≤ l.length ∧ m = l.length - i ∧ ∃ Hi ws, Fr Hb1 H1 Hi H' ∧ Hi D0 = none ∧ H' D0 = some (.dK ws) ∧ KvsI ((keysOf ((l.take i).map kf)).map fun k => (k, vf k)) ws Hi, ⟨l.length, Nat.zero_le _, by simp, Hb1, [], Fr.newO f1.s hD, no_of f1.s hD, upd_same, .nil⟩, ?_⟩
  rintro i m H' ⟨hi, rfl, Hi, ws, f2, n1, n2, n3⟩
  have sq : SqL K H' a us := Evl.sq_of (f2.s a _ (f2.b a _ ha))
  by_cases lt : i < l.length
  · have lu : i < us.length := by omega
    refine .inr ⟨⟨us, us[i], sq, by simp [lu]⟩, fun H2 => ∃ Hi ws, Fr Hb1 H1 Hi H2 ∧ Hi D0 = none ∧ H2 D0 = some (.dK ws) ∧ KvsI ((keysOf ((l.take (i + 1)).map kf)).map fun k => (k, vf k)) ws Hi, fun H2 p2 => ⟨l.length - (i + 1), by omega, by omega, rfl, p2⟩, fun x H2 y => ?_⟩
    obtain ⟨rfl, y⟩ := y
    have hx := y us sq
    obtain ⟨d, hd, px⟩ := dn.at_ hx
    rw [List.getElem?_map] at hd
    obtain ⟨b, hb, ed⟩ := Option.map_eq_some_iff.mp hd
    subst ed
    have ml := List.mem_of_getElem? hb
    refine ⟨wipe_set hj, ?_⟩
    have oe : EnvOk ((wipeE env vs).set j (.d (g b))) ((L2.wipe σ vs).set j (some x)) Hi H2 := (((o.fr f1).fr f2).wipe vs).set (x := .d (g b)) ⟨x, rfl, (g b).mono f2.b px⟩
    refine hk b ml _ Hi H2 _ f2.s oe fun y Hb2 H3 f4 py => ?_
    refine hv b ml _ Hb2 H3 _ f4.s (oe.fr f4) fun z Hb3 H4 f5 pz => ?_
    have py' : y = .int (kf b) := py
    subst py'
    have mu : Mu H2 D0 := ⟨_, n2, fun _ z => by cases z⟩
    have nb3 : Hb3 D0 = none := f5.o D0 (mu.mono f4.h) (f4.o D0 mu n1)
    have kv3 := (n3.mono f4.b).mono f5.b
    have hzl : ws.length < 90000 := by
      rw [← Paired.length n3, List.length_map]
      have h1 := keysOf_len ((l.take i).map kf)
      have h2 : (l.take i).length ≤ l.length := by rw [List.length_take]; exact Nat.min_le_right _ _
      rw [List.length_map] at h1
      omega
    refine ⟨ws, Sum.inl (kf b), rfl, f5.h.k (f4.h.k n2), Evl.sz_lt (by omega), ?_⟩
    have G := (f2.trans f4).trans f5
    have et : (l.take (i + 1)).map kf = (l.take i).map kf ++ [kf b] := by rw [List.take_add_one, hb, List.map_append]; rfl
    refine ⟨Hb3, _, ⟨G.b, fun a u hc => by rw [upd_ne (fun z => by rw [z, nb3] at hc; cases hc)]; exact G.s a u hc, G.h.over hD (f5.h.k (f4.h.k n2)), G.o⟩, nb3, upd_same, ?_⟩
    rw [et, keysOf_snoc]
    exact kvsI_put kv3 pz
  · have ei : i = l.length := by omega
    subst ei
    rw [List.take_length] at n3
    exact .inl ⟨⟨us, sq, by omega⟩, q D0 ws Hi H' (f1.h.no hD) n1 (f1.trans f2) n2 n3⟩
end
end Kb
end
section
/-! Kb11: len of an own object, sorted texts, str of a list of ints, *=. -/
namespace Kb
open PySem PySem.Spec PyProof.Rows L2
section
variable {X : Cx} {k j : Nat} {C : Addr} {sp : Sp}
/-- len(o), o an instance of C -/
def rLenO (C : Addr) (sp : Sp) : List V → Hp → VK → Prop := fun xs H Q => ∃ a dx fs, xs = [V.ref a] ∧ H a = some (.ins C dx fs) ∧ sp [.ref a] H (fun v H2 => ∃ n : Int, v = .int n ∧ (0 ≤ n ∧ n < 2 ^ 63) ∧ Q (.int n) H2) E0
theorem call_lenO (G : OpF X.prog X.w X.K X.mg X.base k C "__len__" sp) (hr : Room j X.A) (hk : k + 1 ≤ j) : CallR X (.builtin "len") (rLenO C sp) := by
  obtain ⟨f, F, M⟩ := G.ex
  intro pins s σ H xs us Q I r h
  obtain ⟨a, dx, fs, rfl, ha, q⟩ := h
  obtain rfl := Vals.ref1 r
  obtain ⟨od, J⟩ := inst_of I ha
  obtain ⟨m, hF⟩ := I.fr
  refine PySem.W.len_K hF I.ok.mod.kin J M.at_ M.fn ?_
  refine wpAny_call ?_
  have c := F X.A.in1 X.stack s H [.ref a] [.ref a] _ E0 (hr.mono hk).in1 I.env0.in1 (.cons rfl .nil) q
  refine codeAny_mono c fun rr s' z => ?_
  cases rr with
  | error e => exact (z : False).elim
  | ok fl =>
    cases fl with
    | ret u =>
      obtain ⟨v, H', I', rv, n, rfl, hn, hq⟩ := I.after z
      obtain ⟨t, rfl⟩ := rv
      exact ⟨hn, .int n, H', I'.tok _, ⟨_, rfl⟩, hq⟩
    | next => exact (z : False).elim
    | brk => exact (z : False).elim
    | cont => exact (z : False).elim
/-- sorted(texts), any number of them -/
def rSortedStr (K : PySem.W.Frag) : List V → Hp → VK → Prop := fun vs H Q => ∃ (a : Addr) (xs : List Str), vs = [V.ref a] ∧ SqL K H a (xs.map V.str) ∧ ∀ (ys : List Str) (p : Addr), ys.Perm xs → sortedS ys = true → H p = none → Q (.ref p) (upd H p (.lst (ys.map V.str)))
theorem cr_sortedStr : CallR X (.builtin "sorted") (rSortedStr X.K) := by
  intro pins s σ H vs us Q I r h
  obtain ⟨a, xs, rfl, sq, q⟩ := h
  obtain ⟨its, rv, isl, sz⟩ := I.list sq
  rw [Vals.ref1 r]
  have len0 := rv.length
  refine PyProof.Rows.sorted_strsAny isl.isList rv.strs (by rw [← len0]; exact sz) fun out ys h1 h2 h3 => ?_
  obtain ⟨ep, he'⟩ := PyProof.Rows.sortedAll_at s.heap its out
  have leny : (ys.map V.str).length ≤ sizeLine := by rw [List.length_map, h2.length_eq]; rw [List.length_map] at sz; exact sz
  have new : ObjOk X.prog X.w (upd H (s.heap.objs.size + 1) (.lst (ys.map V.str))) (PyProof.Rows.sortedAll s.heap its out) (s.heap.objs.size + 1) (.lst (ys.map V.str)) := ⟨leny, out.toList, ep, vals_of_strs h1, he'⟩
  exact ⟨.ref _, _, I.laid (t' := s.toks) (fun _ _ => PyProof.Rows.sortedAll_old) (Nat.le_succ _) new, rfl, q ys _ h2 h3 (I.hok.fresh (Nat.le_succ _))⟩
/-- the text of a list of ints -/
def txtL (l : List Int) : Str := (PyData.list (l.map PyData.int)).shown
def rStrL (K : PySem.W.Frag) : List V → Hp → VK → Prop := fun vs H Q => ∃ (x : V) (l : List Int), vs = [x] ∧ Dp K H x (.list (l.map PyData.int)) ∧ (∀ i ∈ l, i.natAbs.log2 < 1920) ∧ (txtL l).length ≤ sizeLine ∧ Q (.str (txtL l)) H
theorem show_all : ∀ l : List Int, (∀ i ∈ l, i.natAbs.log2 < 1920) → PyData.showableAll (l.map PyData.int) = true
  | [], _ => by simp [PyData.showableAll]
  | a :: l, h => by
    simp only [List.map_cons, PyData.showableAll, PyData.showable, Bool.and_eq_true, decide_eq_true_eq]
    exact ⟨h a (List.mem_cons_self ..), show_all l fun i hi => h i (List.mem_cons_of_mem _ hi)⟩
theorem nodict_all : ∀ l : List Int, PyData.hasDictAll (l.map PyData.int) = false
  | [] => by simp [PyData.hasDictAll]
  | a :: l => by simp [PyData.hasDictAll, PyData.hasDict, nodict_all l]
theorem call_strL (hg : X.A.guards = some []) (hu : X.A.units + 64 < cLine) : CallR X (.type "str") (rStrL X.K) := by
  intro pins s σ H vs us Q I r h
  obtain ⟨x, l, rfl, hd, hl, hz, q⟩ := h
  obtain ⟨a, rfl⟩ : ∃ a, x = V.ref a := by cases hd; exact ⟨_, rfl⟩
  obtain rfl := Vals.ref1 r
  obtain ⟨as, rd⟩ := Dp.reads I _ _ (.ref a) hd rfl
  have dp := depthAll_ints l
  refine str_of_reads rd (by rw [PyData.showable]; exact show_all l hl) (by rw [PyData.hasDict, nodict_all]; intro z; cases z) hg (by rw [PyData.depth]; omega) (fun _ _ e => e) (fun h' u tk hk => ?_) hz
  exact ⟨.str (txtL l), H, I.kept hk, ⟨u, rfl⟩, q⟩
theorem iop_mulW : OpR X (inplaceOp .Mult) (rI CMulW fun i j => .int (i * j)) := opI fun _ _ _ _ _ _ _ c q => imul_int q c.ok
theorem pip_of {op : Operator} {r : R2} (h : OpR X (inplaceOp op) r) : PIp X op r := h
end
section
variable {K : PySem.W.Frag} {env : Env'} {t : TA} {C : Addr} {ns : List Str} {xs : List D}
theorem cd_lenO {R : List D → D → Prop} {n : Nat} (hR : R [dobj C ns xs] (di n)) (hz : n < 90000) : CD (rLenO C (Pr R)) [dobj C ns xs] (di n) := cd1 fun u Hb H Q e hu q => by
  obtain ⟨a, dx, fs, rfl, ha⟩ := ins_of e hu
  exact ⟨a, dx, fs, rfl, ha, pr_go e (.cons hu .nil) hR fun v Hb2 H2 f p => ⟨n, p, ⟨by omega, by omega⟩, q _ Hb2 H2 f rfl⟩⟩
theorem ed_sortedStr {l l' : List Str} (ht : EA t env [dl (l.map fun x => ds x)]) (h : ∀ m : List Str, m.Perm l → sortedS m = true → m = l') : ED (tCB (rSortedStr K) t) env (dl (l'.map fun x => ds x)) := fun σ Hb H Q e o q =>
  ht σ Hb H _ e o fun us Hb2 H2 f2 d => by
    cases d with
    | cons hu t =>
      cases t
      obtain ⟨p, vs, rfl, h1, d1⟩ := hu
      obtain rfl := Dn.eq_map (f := V.str) d1
      refine ⟨p, l, rfl, sq_l f2.s h1, fun m p' hm hs hp => ?_⟩
      rw [h m hm hs]
      exact q (.ref p') _ _ (f2.trans (Fr.new f2.s hp)) ⟨p', _, rfl, upd_same, dn_map⟩
theorem cd_strL {l : List Int} (hl : ∀ i ∈ l, i.natAbs.log2 < 1920) (hz : (txtL l).length ≤ sizeLine) : CD (rStrL K) [dl (l.map fun i => di i)] (ds (txtL l)) := cd1 fun u Hb H Q e hu q =>
  ⟨u, l, rfl, dp_l e hu, hl, hz, q _ _ _ (Fr.refl e) rfl⟩
end
end Kb
end
section
/-! Kb12: defs that know that no guard stands; a lock around an assignment; equal lists of texts; fields written. -/
namespace Kb
open PySem PySem.Spec PyProof.Rows L2
/-- a promise where no guard of repr stands -/
def FnRG (P : Program) (w : World) (K : PySem.W.Frag) (mg : Str → Option Value) (base : Heap) (CX : CXT) (k : Nat) (f : Addr) (sp : Sp) : Prop :=
  ∀ (A : Around) (outer : List Env) (s : Shared) (H : Hp) (us : List Value) (vs : List V) (Q : VK) (E : XK), A.guards = some [] → Room k A → Env0 P w K mg base A outer s H → Vals vs us → sp vs H Q E → codeAny (model P w) A (.call (.ref f) ⟨us, []⟩) (CR CX outer P w H s Q E) s
structure GG (P : Program) (w : World) (K : PySem.W.Frag) (mg : Str → Option Value) (base : Heap) (k : Nat) (x : Str) (sp : Sp) : Prop where
  ex : ∃ f, FnRG P w K mg base CX0 k f sp ∧ PySem.W.keepIn K (.ref f) = true ∧ mg x = some (.ref f)
section
variable {X : Cx} {k j : Nat} {f C : Addr} {sp : Sp} {x m : Str} {p pos apos : Pos} {e o : Expr} {es : List Expr} {ta : TE} {t : TA}
theorem pe_gG (G : GG X.prog X.w X.K X.mg X.base k x sp) (gd : X.A.guards = some []) (hr : Room j X.A) (hk : k ≤ j) (hg : Gl X x) (ha : PA X (e :: es) t) (hdb : (x == ("__debug__" : Str)) = false := by decide)
    (he : starEach (e :: es) X.env = (false, eval e X.env) :: starEach es X.env := by rfl) (hpl : (backTo pos (starEach es X.env)).any (·.1) = false := by rfl) : PE X (.Call (.Name x p) (e :: es) [] pos) (tCl sp t) := by
  obtain ⟨f, F, kp, hm⟩ := G.ex
  refine ⟨fun pins s σ H Q I h => ?_⟩
  refine wpAny_Call_Name_kw (ld_glob I hg hm ?_ hdb)
  refine PySem.W.callWith_K (h₀ := X.base) I.ok.mod.kin kp (thn (ha.run pos pins s σ H _ I h) fun us s1 ⟨vs, H1, I1, r, q⟩ => ⟨I1.kIn, ?_⟩) he hpl
  refine wpAny_call (codeAny_mono (F X.A X.stack s1 H1 us vs _ E0 gd (hr.mono hk) I1.env0 r q) fun rr s' hq => ?_)
  cases rr with
  | error e => exact (hq : False).elim
  | ok fl =>
    cases fl with
    | ret u => exact I1.after hq
    | next => exact (hq : False).elim
    | brk => exact (hq : False).elim
    | cont => exact (hq : False).elim
end
section
variable {P : Program} {w : World} {K : PySem.W.Frag} {mg : Str → Option Value} {base : Heap} {x qual : Str} {params : Arguments} {body : List Stmt} {scope : Scope} {f : Addr} {fd : FuncData} {N ps : List Str} {k : Nat} {sp : Sp}
/-- the body of a def without defaults, no guard standing -/
theorem fn_rawG (F : FunD K x qual params body scope [] [] f fd) (S : FnScope N ps scope) (hl : ∀ vs H Q E, sp vs H Q E → vs.length = ps.length)
    (hb : ∀ (doc pm : Value) (an : Option Addr) (cdv ct kV : Value) (us : List Value), us.length = ps.length → bindArgs (PySem.W.fnOf x qual params body scope .none kV doc pm an cdv ct) ⟨us, []⟩ = pure (ps.zip us))
    (h : ∀ (cdv : Value) (A : Around) (outer : List Env) (s : Shared) (H : Hp) (vs : List V) (Q : VK) (E : XK), A.guards = some [] → Room k (A.deeper (envOfC qual scope s.heap.objs.size f cdv)) → sp vs H Q E →
      ∃ t, PSs (cxOf CX0 P w K mg base N qual scope f cdv A outer s H E) body t ∧ t { nx := fun _ H' => Q .non H', rt := Q } (L2.start N vs) H) : FnRG P w K mg base CX0 (k + 1) f sp := by
  obtain ⟨oc, od, dV, kV, doc, pm, an, cdv, ct, osl, rfl, lk, hcd, hD, hK⟩ := F.ex
  rcases hD with ⟨_, rfl⟩ | ⟨e, _⟩
  · intro A outer s H us vs Q E gd hr e0 r hsp
    have lv := hl vs H Q E hsp
    refine StX.run_bnd lk hcd S hr e0 (G := fun xs H2 => xs = vs ∧ H2 = H) (fun A' Ex Q' q => ?_) fun s2 H2 xs hx hr' => ?_
    · rw [hb doc pm an cdv ct kV us (by rw [← r.length]; exact lv)]
      exact wpAny_pure (q s H vs us e0 Un.refl rfl (fun _ _ z => z) r lv ⟨rfl, rfl⟩)
    · obtain ⟨rfl, rfl⟩ := hx
      exact h cdv A outer s2 H2 xs Q E gd hr' hsp
  · exact absurd rfl e
theorem fn_prG {R : List D → D → Prop} (F : FunD K x qual params body scope [] [] f fd) (S : FnScope N ps scope) (hl : ∀ xs z, R xs z → xs.length = ps.length)
    (hb : ∀ (doc pm : Value) (an : Option Addr) (cdv ct kV : Value) (us : List Value), us.length = ps.length → bindArgs (PySem.W.fnOf x qual params body scope .none kV doc pm an cdv ct) ⟨us, []⟩ = pure (ps.zip us))
    (h : ∀ (cdv : Value) (A : Around) (outer : List Env) (s : Shared) (H : Hp) (E : XK), A.guards = some [] → Room k (A.deeper (envOfC qual scope s.heap.objs.size f cdv)) →
      ∃ t, PSs (cxOf CX0 P w K mg base N qual scope f cdv A outer s H E) body t ∧ ∀ xs z, R xs z → SR t (startE N.length xs) z) : FnRG P w K mg base CX0 (k + 1) f (Pr R) := by
  refine fn_rawG F S (fun vs H Q E q => ?_) hb fun cdv A outer s H vs Q E gd hr q => ?_
  · obtain ⟨xs, r, Hb, hR, _, d, _⟩ := q
    rw [← d.len]
    exact hl xs r hR
  · obtain ⟨t, ht, hq⟩ := h cdv A outer s H E gd hr
    obtain ⟨xs, r, Hb, hR, e, d, q⟩ := q
    have hle : xs.length ≤ N.length := by
      have := congrArg List.length S.pre
      rw [List.length_take] at this
      rw [hl xs r hR]
      omega
    exact ⟨t, ht, hq xs r hR Hb H _ Hb H _ (StOk.start (N := N) e d hle) fun v Hb' H' f p => q v Hb' H' f p⟩
end
section
variable {env : Env'} {te ta : TE} {xs ys : List D} {i : Nat} {K : PySem.W.Frag} {d : D} {C : Addr} {ns : List Str}
theorem sb_lockO {j : Nat} {kvs : List (List Int × D)} (h : env[i]? = some (.dict false kvs)) (only : ∀ (k : Nat) (b : Bool) (l : List (List Int × D)), env[k]? = some (.dict b l) → k = i) (hi : EO te (env.set i (.dict true kvs)) xs) : SB (tLock (tAsg te (gName j))) env (env.set j (.own xs)) := fun Hb0 H0 σ Hb H D o k => by
  have e := eo_lock h only hi
  obtain ⟨a, ws, h1, h2, h3, h4⟩ := o.sl.at_ i _ h
  have h3 : H a = some (.dT ws) := h3
  refine ⟨a, _, h3, trivial, fun od => ?_⟩
  have e' : Ex Hb (upd H a (.frz od (.dT ws))) := fun c u hc => by
    rw [upd_ne (fun z => by rw [z, h2] at hc; cases hc)]
    exact o.fr.s c u hc
  refine hi σ Hb _ _ e' (env_lock o.sl h h1 h2 h3 h4 only) fun p us Hb2 H2 hp hb f hl hd => ?_
  obtain ⟨f', g1, g2⟩ := fr_unlock o.fr.s h2 h3 (fun _ z => by cases z) (fun _ z => by cases z) (fun _ z => by cases z) (fun _ z => by cases z) (fun _ z => by cases z) (fun _ z => by cases z) f
  have ne : p ≠ a := fun z => by rw [z, g1] at hl; cases hl
  have hp' : H p = none := by rw [upd_ne ne] at hp; exact hp
  exact ⟨g1, k _ Hb2 _ ((o.fr2 f').setO (H1 := H) f'.h o.live o.fr.h hp' hb (by rw [upd_ne ne]; exact hl) hd) f'.b⟩
theorem dn_paired_str {K : PySem.W.Frag} {H : Hp} (n : Nat) : ∀ l : List Str, Paired (EqV K H (n + 1)) (l.map V.str) (l.map V.str)
  | [] => .nil
  | a :: l => .cons (.inl ⟨rfl, rfl⟩) (dn_paired_str n l)
/-- two lists of the same texts -/
theorem od_eqV {l : List Str} : OD (rEqV K) (dl (l.map fun x => ds x)) (dl (l.map fun x => ds x)) (db true) := fun u v Hb H Q e hu hv q => by
  obtain ⟨a, vs, rfl, h1, d1⟩ := hu
  obtain ⟨b, us, rfl, h2, d2⟩ := hv
  obtain rfl := Dn.eq_map (f := V.str) d1
  obtain rfl := Dn.eq_map (f := V.str) d2
  exact ⟨2, by omega, .inl ⟨a, b, _, _, rfl, rfl, sq_l e h1, sq_l e h2, dn_paired_str 1 l⟩, q _ _ _ (Fr.refl e) rfl⟩
theorem ed_notN {v : V} (h : ED te env (dv v)) : ED (tNotN te) env (db (!decide (v = .non))) := fun σ Hb H Q e o q =>
  h σ Hb H _ e o fun u Hb2 H2 f2 hp => q _ _ _ f2 (by rw [show u = v from hp]; rfl)
end
end Kb
end
section
/-! Kb13: __init__: an object under way. -/
namespace Kb
open PySem PySem.Spec PyProof.Rows L2
/-- the heap with the new object -/
abbrev Hmk (H : Hp) (o dx C : Addr) : Hp := upd (upd H dx (.own o)) o (.ins C dx [])
theorem hmk_o {H : Hp} {o dx C : Addr} : Hmk H o dx C o = some (.ins C dx []) := upd_same
theorem hmk_ex {H : Hp} {o dx C : Addr} (h1 : H o = none) (h2 : H dx = none) (h3 : dx ≠ o) : Ex H (Hmk H o dx C) := (Evl.Ex.new h2).trans (Evl.Ex.new (by rw [upd_ne h3.symm]; exact h1))
/-- an object other than a list, a dict, a tuple, not in the base: written -/
theorem EnvOk.poke {env : Env'} {σ : L2.St} {Hb H : Hp} {a C dx : Addr} {fs gs : List (Str × V)} (o : EnvOk env σ Hb H) (ha : H a = some (.ins C dx fs)) (hb : Hb a = none) : EnvOk env σ Hb (upd H a (.ins C dx gs)) := by
  refine ⟨o.len, fun k y e => ?_⟩
  have z := o.at_ k y e
  cases y with
  | no => exact trivial
  | d d' => exact z
  | own zs =>
    obtain ⟨b', us, e1, e2, e3, e4⟩ := z
    have ne : b' ≠ a := fun w => by rw [w, ha] at e3; cases e3
    exact ⟨b', us, e1, e2, by rw [upd_ne ne]; exact e3, e4⟩
  | dict bb l =>
    obtain ⟨b', us, e1, e2, e3, e4⟩ := z
    cases bb with
    | true =>
      obtain ⟨o2, e3⟩ := e3
      have ne : b' ≠ a := fun w => by rw [w, ha] at e3; cases e3
      exact ⟨b', us, e1, e2, ⟨o2, by rw [upd_ne ne]; exact e3⟩, e4⟩
    | false =>
      have e3 : H b' = some (.dT us) := e3
      have ne : b' ≠ a := fun w => by rw [w, ha] at e3; cases e3
      exact ⟨b', us, e1, e2, by show upd H a _ b' = _; rw [upd_ne ne]; exact e3, e4⟩
  | dictI bb l =>
    obtain ⟨b', us, e1, e2, e3, e4⟩ := z
    cases bb with
    | true =>
      obtain ⟨o2, e3⟩ := e3
      have ne : b' ≠ a := fun w => by rw [w, ha] at e3; cases e3
      exact ⟨b', us, e1, e2, ⟨o2, by rw [upd_ne ne]; exact e3⟩, e4⟩
    | false =>
      have e3 : H b' = some (.dK us) := e3
      have ne : b' ≠ a := fun w => by rw [w, ha] at e3; cases e3
      exact ⟨b', us, e1, e2, by show upd H a _ b' = _; rw [upd_ne ne]; exact e3, e4⟩
  | dP P q' d' => exact ⟨z.1, tabs_put ha (fun _ z => by cases z) (fun _ z => by cases z) z.2.1, z.2.2⟩
/-- the tail t of an __init__, self's slot known: fields ns with xs stand already, at its end the fields ms with ys -/
structure SI (t : TS) (K : PySem.W.Frag) (env : Env') (C : Addr) (ns : List Str) (xs : List D) (ms : List Str) (ys : List D) : Prop where
  run : ∀ (Hb0 H0 : Hp) (o dx : Addr) (σ : L2.St) (Hb H : Hp) (fs : List (Str × V)) (D : Ends), H0 o = none → env[0]? = some (.d (dv (.ref o))) → EnvOk env σ Hb H → Ex Hb0 Hb → Ex Hb H → Gx H0 H → (∀ a, Mu H0 a → Hb0 a = none → Hb a = none) → Hb o = none →
    H o = some (.ins C dx fs) → fs.map (·.1) = ns → Dn xs (fs.map (·.2)) Hb →
    (∀ σ' Hb' H', Fr Hb0 H0 Hb' H' → (dobj C ms ys).p (.ref o) Hb' → D.nx σ' H') → t D σ H
/-- .. ahead of the first field -/
structure SP (t : TS) (env : Env') (C : Addr) (ms : List Str) (ys : List D) : Prop where
  run : ∀ (Hb0 H0 : Hp) (o dx : Addr) (σ : L2.St) (Hb H : Hp) (D : Ends), H0 o = none → H0 dx = none → dx ≠ o → Hb0 o = none → env[0]? = some (.d (dv (.ref o))) → StOk Hb0 (Hmk H0 o dx C) env σ Hb H → (∀ σ' Hb' H', Fr Hb0 H0 Hb' H' → (dobj C ms ys).p (.ref o) Hb' → D.nx σ' H') → t D σ H
section
variable {t s : TS} {K : PySem.W.Frag} {env env' : Env'} {C : Addr} {ns ms : List Str} {xs ys : List D} {te : TE} {f : Str} {d : D}
theorem sp_seq (hs : SB s env env') (ht : SP t env' C ms ys) (h : ∀ o : Addr, env[0]? = some (.d (dv (.ref o))) → env'[0]? = some (.d (dv (.ref o))) := by intro _ e; exact e) : SP (tSeq s t) env C ms ys := ⟨fun Hb0 H0 o dx σ Hb H D n1 n2 n3 nb e0 so k =>
  hs Hb0 _ σ Hb H _ so fun σ1 Hb1 H1 o1 _ => ht.run Hb0 H0 o dx σ1 Hb1 H1 D n1 n2 n3 nb (h o e0) o1 k⟩
theorem sp_si (ht : SI t K env C [] [] ms ys) : SP t env C ms ys := ⟨fun Hb0 H0 o dx σ Hb H D n1 n2 n3 nb e0 so k => by
  have g : Gx H0 (Hmk H0 o dx C) := .of (hmk_ex n1 n2 n3)
  have mo : Mu (Hmk H0 o dx C) o := ⟨_, hmk_o, fun _ z => by cases z⟩
  exact ht.run Hb0 H0 o dx σ Hb H [] D n1 e0 so.sl so.fr.b so.fr.s (g.trans so.fr.h) (fun a m z => so.fr.o a (m.mono g) z) (so.fr.o o mo nb) (so.fr.h.k hmk_o) rfl .nil k⟩
theorem putF_new {fs : List (Str × V)} {v : V} (h : (fs.map (·.1)).contains f = false) : putF f v fs = fs ++ [(f, v)] := by
  induction fs with
  | nil => rfl
  | cons a r ih =>
    rw [List.map_cons, List.contains_cons] at h
    have h1 : (f == a.1) = false := (Bool.or_eq_false_iff.mp h).1
    unfold putF
    rw [if_neg (fun z => by rw [z] at h1; simp at h1), ih (Bool.or_eq_false_iff.mp h).2]
    rfl
theorem write_fld {Hb0 H0 : Hp} {o dx : Addr} {σ : L2.St} {Hb H : Hp} {fs : List (Str × V)} (n : H0 o = none) (x0 : Ex Hb0 Hb) (x1 : Ex Hb H) (g : Gx H0 H) (nb : Hb o = none) (ha : H o = some (.ins C dx fs)) {gs : List (Str × V)} : Ex Hb (upd H o (.ins C dx gs)) ∧ Gx H0 (upd H o (.ins C dx gs)) :=
  ⟨fun c u hc => by rw [upd_ne (fun z => by rw [z, nb] at hc; cases hc)]; exact x1 c u hc, g.over n ha⟩
/-- self.f = e -/
theorem si_fld (hc : ns.contains f = false) (hz : ns.length < 900) (c : Cls K C) (na : NoAttr K C f) (he : ED te env d) (ht : SI t K env C (ns ++ [f]) (xs ++ [d]) ms ys) : SI (tSeq (sFld K (tVar 0) te f) t) K env C ns xs ms ys := ⟨fun Hb0 H0 o dx σ Hb H fs D n e0 oe x0 x1 g mu nb ha hf hd k => by
  refine he σ Hb H _ x1 oe fun v Hb2 H2 f2 p2 => ?_
  have mo : Mu H o := ⟨_, ha, fun _ z => by cases z⟩
  have ha2 := f2.h.k ha
  have nb2 := f2.o o mo nb
  obtain ⟨w, e1, e2⟩ := oe.at_ 0 _ e0
  have e2 : w = .ref o := e2
  subst e2
  refine ⟨.ref o, e1, o, C, dx, fs, rfl, ha2, c, na, by have := congrArg List.length hf; rw [List.length_map] at this; omega, ?_⟩
  rw [putF_new (by rw [hf]; exact hc)]
  obtain ⟨y1, y2⟩ := write_fld (σ := σ) (gs := fs ++ [(f, v)]) n (x0.trans f2.b) f2.s (g.trans f2.h) nb2 ha2
  refine ht.run Hb0 H0 o dx σ Hb2 _ (fs ++ [(f, v)]) D n e0 ((oe.fr f2).poke ha2 nb2) (x0.trans f2.b) y1 y2 (fun a m z => f2.o a (m.mono g) (mu a m z)) nb2 upd_same (by rw [List.map_append, hf]; rfl) ?_ k
  rw [List.map_append]
  exact (hd.mono f2.b).app (.cons p2 .nil)⟩
/-- .. the last -/
theorem si_last (hc : ns.contains f = false) (hz : ns.length < 900) (c : Cls K C) (na : NoAttr K C f) (he : ED te env d) : SI (sFld K (tVar 0) te f) K env C ns xs (ns ++ [f]) (xs ++ [d]) := ⟨fun Hb0 H0 o dx σ Hb H fs D n e0 oe x0 x1 g mu nb ha hf hd k => by
  refine he σ Hb H _ x1 oe fun v Hb2 H2 f2 p2 => ?_
  have mo : Mu H o := ⟨_, ha, fun _ z => by cases z⟩
  have ha2 := f2.h.k ha
  have nb2 := f2.o o mo nb
  obtain ⟨w, e1, e2⟩ := oe.at_ 0 _ e0
  have e2 : w = .ref o := e2
  subst e2
  refine ⟨.ref o, e1, o, C, dx, fs, rfl, ha2, c, na, by have := congrArg List.length hf; rw [List.length_map] at this; omega, ?_⟩
  rw [putF_new (by rw [hf]; exact hc)]
  obtain ⟨y1, y2⟩ := write_fld (σ := σ) (gs := fs ++ [(f, v)]) n (x0.trans f2.b) f2.s (g.trans f2.h) nb2 ha2
  have xb : Ex Hb2 (upd Hb2 o (.ins C dx (fs ++ [(f, v)]))) := Evl.Ex.new nb2
  refine k σ (upd Hb2 o (.ins C dx (fs ++ [(f, v)]))) _ ⟨(x0.trans f2.b).trans xb, fun c u hu => ?_, y2, fun a m z => ?_⟩ ⟨o, dx, fs ++ [(f, v)], rfl, upd_same, by rw [List.map_append, hf]; rfl, ?_⟩
  · by_cases z : c = o
    · rw [z, upd_same] at hu ⊢
      exact hu
    · rw [upd_ne z] at hu ⊢
      exact f2.s c u hu
  · rw [upd_ne (m.ne n)]
    exact f2.o a (m.mono g) (mu a m z)
  · rw [List.map_append]
    exact ((hd.mono f2.b).app (.cons p2 .nil)).mono xb⟩
end
section
variable {P : Program} {w : World} {K : PySem.W.Frag} {mg : Str → Option Value} {base : Heap} {x qual : Str} {params : Arguments} {body : List Stmt} {scope : Scope} {f C : Addr} {fd : FuncData} {N ps : List Str} {k : Nat} {R : List D → D → Prop}
/-- what a class's making promises, from its __init__ of fixed parameters -/
def spInit (C : Addr) (n : Nat) (Rx : List D → List Str → List D → Prop) : Sp := fun vs H Q _ => ∃ xs ms ys Hb H0 o dx vs', vs = .ref o :: vs' ∧ xs.length = n ∧ Rx xs ms ys ∧ Ex Hb H0 ∧ Dn xs vs' Hb ∧ H0 o = none ∧ H0 dx = none ∧ dx ≠ o ∧ H = Hmk H0 o dx C ∧ ∀ Hb2 H2, Fr Hb H0 Hb2 H2 → (dobj C ms ys).p (.ref o) Hb2 → Q .non H2
theorem fn_init {dvs : List V} {Rx : List D → List Str → List D → Prop} {n : Nat} (F : FunD K x qual params body scope dvs [] f fd) (S : FnScope N ps scope) (hn : ps.length = n + 1)
    (h : ∀ (cdv : Value) (A : Around) (outer : List Env) (s : Shared) (H : Hp) (E : XK), Room k (A.deeper (envOfC qual scope s.heap.objs.size f cdv)) →
      ∃ t, PSs (cxOf CX0 P w K mg base N qual scope f cdv A outer s H E) body t ∧ ∀ xs ms ys, Rx xs ms ys → xs.length = n → ∀ o : Addr, SP t (startE N.length (dv (.ref o) :: xs)) C ms ys) : FnOk P w K mg base CX0 (k + 1) f fd ps (spInit C n Rx) := by
  refine FunD.ok F S (fun vs H Q E q => ?_) fun cdv A outer s H vs Q E hr q => ?_
  · obtain ⟨xs, ms, ys, Hb, H0, o, dx, vs', rfl, hl, _, _, d, _⟩ := q
    rw [List.length_cons, ← d.len, hl, hn]
  · obtain ⟨t, ht, hq⟩ := h cdv A outer s H E hr
    obtain ⟨xs, ms, ys, Hb, H0, o, dx, vs', rfl, hl, hR, e, d, h1, h2, h3, rfl, q⟩ := q
    have hle : xs.length + 1 ≤ N.length := by
      have := congrArg List.length S.pre
      rw [List.length_take] at this
      omega
    refine ⟨t, ht, ?_⟩
    have ex := hmk_ex (C := C) h1 h2 h3
    exact (hq xs ms ys hR hl o).run Hb H0 o dx _ Hb (Hmk H0 o dx C) _ h1 h2 h3 (no_of e h1) rfl (StOk.start (xs := dv (.ref o) :: xs) (e.trans ex) (.cons rfl d) hle) fun σ' Hb' H' f p => q Hb' H' f p
/-- the class made -/
theorem mf_of {spI : Sp} (F : FnR P w K mg base CX0 k f spI) (M : Mk K C f) (hm : mg x = some (.ref C)) (hR : ∀ xs z, R xs z → ∃ ms ys, z = dobj C ms ys ∧ ∀ vs' H0 o dx Hb (Q : VK), Ex Hb H0 → Dn xs vs' Hb → H0 o = none → H0 dx = none → dx ≠ o → (∀ Hb2 H2, Fr Hb H0 Hb2 H2 → z.p (.ref o) Hb2 → Q (.ref o) H2) →
    spI (.ref o :: vs') (Hmk H0 o dx C) (fun v H2 => v = .non ∧ Q (.ref o) H2) E0) : MF P w K mg base k x (Pr R) := by
  refine ⟨C, f, spI, F, M, hm, fun vs H Q q o dx h1 h2 h3 => ?_⟩
  obtain ⟨xs, z, Hb, hr, e, d, q⟩ := q
  obtain ⟨ms, ys, rfl, h⟩ := hR xs z hr
  exact h vs H o dx Hb Q e d h1 h2 h3 fun Hb2 H2 f p => q _ Hb2 H2 f p
theorem spInit_go {Rx : List D → List Str → List D → Prop} {n : Nat} {xs ys : List D} {ms : List Str} (hx : Rx xs ms ys) (hl : xs.length = n) {vs' : List V} {H0 Hb : Hp} {o dx : Addr} {Q : VK} (e : Ex Hb H0) (d : Dn xs vs' Hb) (h1 : H0 o = none) (h2 : H0 dx = none) (h3 : dx ≠ o)
    (q : ∀ Hb2 H2, Fr Hb H0 Hb2 H2 → (dobj C ms ys).p (.ref o) Hb2 → Q (.ref o) H2) : spInit C n Rx (.ref o :: vs') (Hmk H0 o dx C) (fun v H2 => v = .non ∧ Q (.ref o) H2) E0 :=
  ⟨xs, ms, ys, Hb, H0, o, dx, vs', rfl, hl, hx, e, d, h1, h2, h3, rfl, fun Hb2 H2 f p => ⟨rfl, q Hb2 H2 f p⟩⟩
/-- __init__(self, a, .., *rest): m parameters ahead of the star -/
def spInitS (C : Addr) (m : Nat) (Rx : List D → List D → List Str → List D → Prop) : Sp := fun vs H Q _ => ∃ xs1 xs2 ms ys Hb H0 o dx vs', vs = .ref o :: vs' ∧ xs1.length = m ∧ Rx xs1 xs2 ms ys ∧ Ex Hb H0 ∧ Dn (xs1 ++ xs2) vs' Hb ∧ xs2.length ≤ 90000 ∧ H0 o = none ∧ H0 dx = none ∧ dx ≠ o ∧ H = Hmk H0 o dx C ∧ ∀ Hb2 H2, Fr Hb H0 Hb2 H2 → (dobj C ms ys).p (.ref o) Hb2 → Q .non H2
theorem dn_split {H : Hp} {xs2 : List D} : ∀ {xs1 : List D} {vs : List V}, Dn (xs1 ++ xs2) vs H → ∃ v1 v2, vs = v1 ++ v2 ∧ Dn xs1 v1 H ∧ Dn xs2 v2 H
  | [], vs, h => ⟨[], vs, rfl, .nil, h⟩
  | d :: xs1, _, .cons a r => by
    obtain ⟨v1, v2, rfl, h1, h2⟩ := dn_split (xs1 := xs1) r
    exact ⟨_ :: v1, v2, rfl, .cons a h1, h2⟩
theorem fn_initS {Rx : List D → List D → List Str → List D → Prop} {m : Nat} {pv : Str} (F : FunD K x qual params body scope [] [] f fd) (S : FnScope N (ps ++ [pv]) scope) (hn : ps.length = m + 1)
    (hb : ∀ (doc pm : Value) (an : Option Addr) (cdv ct kV : Value) (us rest : List Value), us.length = ps.length → bindArgs (PySem.W.fnOf x qual params body scope .none kV doc pm an cdv ct) ⟨us ++ rest, []⟩ = (newTuple rest >>= fun t => pure (ps.zip us ++ [(pv, t)])))
    (h : ∀ (cdv : Value) (A : Around) (outer : List Env) (s : Shared) (H : Hp) (E : XK), Room k (A.deeper (envOfC qual scope s.heap.objs.size f cdv)) →
      ∃ t, PSs (cxOf CX0 P w K mg base N qual scope f cdv A outer s H E) body t ∧ ∀ xs1 xs2 ms ys, Rx xs1 xs2 ms ys → xs1.length = m → ∀ o : Addr, SP t (startE N.length (dv (.ref o) :: (xs1 ++ [dt K xs2]))) C ms ys) : FnR P w K mg base CX0 (k + 1) f (spInitS C m Rx) := by
  obtain ⟨oc, od, dV, kV, doc, pm, an, cdv, ct, osl, rfl, lk, hcd, hD, hK⟩ := F.ex
  rcases hD with ⟨_, rfl⟩ | ⟨e, _⟩
  · have z := StX.fn_star (CX := CX0) (P := P) (w := w) (mg := mg) (base := base) (k := k) (sp := fun vs H Q E => ∃ xs1 xs2 ms ys Hb H0 o dx v1 p v2, vs = .ref o :: (v1 ++ [.ref p]) ∧ xs1.length = m ∧ Rx xs1 xs2 ms ys ∧ Ex Hb H0 ∧ Dn xs1 v1 Hb ∧ Dn xs2 v2 Hb ∧ H0 o = none ∧ H0 dx = none ∧ dx ≠ o ∧ (Hmk H0 o dx C) p = none ∧ H = upd (Hmk H0 o dx C) p (.tup v2) ∧ ∀ Hb2 H2, Fr Hb H0 Hb2 H2 → (dobj C ms ys).p (.ref o) Hb2 → Q .non H2)
      lk hcd S (fun _ _ _ _ _ _ _ _ _ _ _ z => z) (fun us rest hl => hb doc pm an cdv ct kV us rest hl) fun A outer s H vs Q E hr q => ?_
    · refine z.imp fun vs H Q E q => ?_
      obtain ⟨xs1, xs2, ms, ys, Hb, H0, o, dx, vs', rfl, hl, hR, e, d, hz, h1, h2, h3, rfl, q⟩ := q
      obtain ⟨v1, v2, rfl, d1, d2⟩ := dn_split d
      refine ⟨.ref o :: v1, v2, rfl, by rw [List.length_cons, ← d1.len, hl, hn], Evl.sz_of (by rw [← d2.len]; omega), fun p hp => ⟨xs1, xs2, ms, ys, Hb, H0, o, dx, v1, p, v2, rfl, hl, hR, e, d1, d2, h1, h2, h3, hp, rfl, q⟩⟩
    · obtain ⟨xs1, xs2, ms, ys, Hb, H0, o, dx, v1, p, v2, rfl, hl, hR, e, d1, d2, h1, h2, h3, hp, rfl, q⟩ := q
      obtain ⟨t, ht, hq⟩ := h cdv A outer s (upd (Hmk H0 o dx C) p (.tup v2)) E hr
      refine ⟨t, ht, ?_⟩
      have hle : xs1.length + 2 ≤ N.length := by
        have := congrArg List.length S.pre
        rw [List.length_take, List.length_append, hn] at this
        simp at this
        omega
      have ex := hmk_ex (C := C) h1 h2 h3
      have fr := Fr.new (o := .tup v2) (e.trans ex) hp
      have st := StOk.start (N := N) (xs := dv (.ref o) :: (xs1 ++ [dt K xs2])) (vs := .ref o :: (v1 ++ [.ref p])) fr.s (.cons rfl ((d1.mono fr.b).app (.cons ⟨p, v2, rfl, upd_same, d2.mono fr.b⟩ .nil))) (by simp; omega)
      have st2 : StOk Hb (Hmk H0 o dx C) (startE N.length (dv (.ref o) :: (xs1 ++ [dt K xs2]))) (L2.start N (.ref o :: (v1 ++ [.ref p]))) (upd Hb p (.tup v2)) (upd (Hmk H0 o dx C) p (.tup v2)) :=
        ⟨st.sl, fr, fun i xs e a ea => fr.h.no (st.own i xs e a ea), st.one⟩
      exact (hq xs1 xs2 ms ys hR hl o).run Hb H0 o dx _ _ _ _ h1 h2 h3 (no_of e h1) rfl st2 fun σ' Hb' H' f p => q Hb' H' f p
  · exact absurd rfl e
theorem spInitS_go {Rx : List D → List D → List Str → List D → Prop} {m : Nat} {xs1 xs2 ys : List D} {ms : List Str} (hx : Rx xs1 xs2 ms ys) (hl : xs1.length = m) (hz : xs2.length ≤ 90000) {vs' : List V} {H0 Hb : Hp} {o dx : Addr} {Q : VK} (e : Ex Hb H0) (d : Dn (xs1 ++ xs2) vs' Hb) (h1 : H0 o = none) (h2 : H0 dx = none) (h3 : dx ≠ o)
    (q : ∀ Hb2 H2, Fr Hb H0 Hb2 H2 → (dobj C ms ys).p (.ref o) Hb2 → Q (.ref o) H2) : spInitS C m Rx (.ref o :: vs') (Hmk H0 o dx C) (fun v H2 => v = .non ∧ Q (.ref o) H2) E0 :=
  ⟨xs1, xs2, ms, ys, Hb, H0, o, dx, vs', rfl, hl, hx, e, d, hz, h1, h2, h3, rfl, fun Hb2 H2 f p => ⟨rfl, q Hb2 H2 f p⟩⟩
end
end Kb
end
section
/-! Kb14: forms for use. -/
namespace Kb
open PySem PySem.Spec PyProof.Rows L2
section
variable {α : Type} {env : Env'} {tl te : TE} {ta : TA} {t : TT} {K : PySem.W.Frag} {i j : Nat} {vs : List Nat}
theorem EO.is {xs ys : List D} (h : EO te env xs) (e : xs = ys) : EO te env ys := e ▸ h
theorem eo_L0 (l : List α) (g : α → D) (h : α → D) (hl : ED tl env (dl (l.map g))) (hz : l.length < 90000) (hj : j ∈ vs) (he : ∀ a ∈ l, ED te ((wipeE env vs).set j (.d (g a))) (h a)) : EO (tLc (iList K tl) (gName j) tYes te vs) env (l.map h) :=
  (eo_lcL l g (fun _ => true) h hl hz hj (fun _ _ => et_yes) fun a ha _ => he a ha).is (by rw [fil_all])
theorem eo_T0 (l : List α) (g : α → D) (h : α → D) (hl : ED tl env (dt K (l.map g))) (hz : l.length < 90000) (hj : j ∈ vs) (he : ∀ a ∈ l, ED te ((wipeE env vs).set j (.d (g a))) (h a)) : EO (tLc (iTup K tl) (gName j) tYes te vs) env (l.map h) :=
  (eo_lcT l g (fun _ => true) h hl hz hj (fun _ _ => et_yes) fun a ha _ => he a ha).is (by rw [fil_all])
theorem eo_R0 {n : Nat} (h : Nat → D) (hn : EA ta env [di (n : Int)]) (hz : n < 90000) (hj : j ∈ vs) (he : ∀ a < n, ED te ((wipeE env vs).set j (.d (di (a : Int)))) (h a)) : EO (tLc (iRng1 ta) (gName j) tYes te vs) env ((List.range n).map h) :=
  (eo_lcR1 (fun _ => true) h hn hz hj (fun _ _ => et_yes) fun a ha _ => he a ha).is (by rw [fil_all])
/-- [i for i in range(n) if ..] -/
theorem eo_RI {n : Nat} (f : Nat → Bool) (hn : EA ta env [di (n : Int)]) (hz : n < 90000) (hj : j ∈ vs) (hl : Nat.blt j env.length = true) (ht : ∀ a < n, ET t ((wipeE env vs).set j (.d (di (a : Int)))) (f a)) :
    EO (tLc (iRng1 ta) (gName j) t (tVar j) vs) env ((((List.range n).filter f).map fun (i : Nat) => (i : Int)).map fun i => di i) :=
  (eo_lcR1 f (fun i => di (i : Int)) hn hz hj ht fun a ha _ => ed_var (by rw [List.getElem?_set_self (by rw [wipeE_len]; exact Nat.le_of_ble_eq_true hl)])).is (by rw [List.map_map]; rfl)
/-- [x for x in xs if ..] -/
theorem eo_LI (l : List α) (g : α → D) (f : α → Bool) (hl : ED tl env (dl (l.map g))) (hz : l.length < 90000) (hj : j ∈ vs) (hj2 : Nat.blt j env.length = true) (ht : ∀ a ∈ l, ET t ((wipeE env vs).set j (.d (g a))) (f a)) : EO (tLc (iList K tl) (gName j) t (tVar j) vs) env ((l.filter f).map g) :=
  eo_lcL l g f g hl hz hj ht fun a ha _ => ed_var (by rw [List.getElem?_set_self (by rw [wipeE_len]; exact Nat.le_of_ble_eq_true hj2)])
theorem cd_anyF {l : List α} {f : α → Bool} : CD (rAny K) [dl (l.map fun a => db (f a))] (db (l.any f)) := by
  have h := cd_any (K := K) (l := l.map f)
  rw [List.map_map, List.any_map] at h
  exact h
theorem cd_allF {l : List α} {f : α → Bool} : CD (rAll K) [dl (l.map fun a => db (f a))] (db (l.all f)) := by
  have h := cd_all (K := K) (l := l.map f)
  rw [List.map_map, List.all_map] at h
  exact h
theorem cd_sumF {l : List α} {f : α → Int} : CD (rSum K) [dl (l.map fun a => di (f a))] (di (l.map f).sum) := by
  have h := cd_sum (K := K) (l := l.map f)
  rw [List.map_map] at h
  exact h
end
abbrev lotD (K : PySem.W.Frag) (l : List Int) : D := dt K (l.map fun i => di i)
abbrev lotsL (K : PySem.W.Frag) (ls : List (List Int)) : D := dl (ls.map fun l => lotD K l)
abbrev lotsT (K : PySem.W.Frag) (ls : List (List Int)) : D := dt K (ls.map fun l => lotD K l)
abbrev intsL (l : List Int) : D := dl (l.map fun i => di i)
abbrev rowsL (ls : List (List Int)) : D := dl (ls.map fun l => intsL l)
abbrev famD (K : PySem.W.Frag) (aF : Addr) (n : Nat) (ls : List (List Int)) : D := dobj aF ["copies", "lots"] [di (n : Int), lotsT K ls]
abbrev ratD (aR : Addr) (q : Rat) : D := dobj aR ["over", "under"] [di q.num, di (q.den : Int)]
abbrev chD (K : PySem.W.Frag) (aC aR : Addr) (qs : List Rat) : D := dobj aC ["ratios"] [dt K (qs.map fun q => ratD aR q)]
abbrev prD (K : PySem.W.Frag) (p : Int × Int) : D := dt K [di p.1, di p.2]
abbrev rawD (K : PySem.W.Frag) (l : List (Int × Int)) : D := dl (l.map fun p => prD K p)
end Kb
end
section
/-! Kb15: a def's fact from its reading and its data. -/
namespace Kb
open PySem PySem.Spec PyProof.Rows L2
/-- the def of the module's name x, at the place st -/
structure DfG (K : PySem.W.Frag) (mg : Str → Option Value) (x : Str) (st : Stmt) : Prop where
  ex : ∃ f, mg x = some (.ref f) ∧ ∃ fd, FunD K x x (defArgs st) (defBody st) (defScope st) [] [] f fd
/-- the method m of the class at C -/
structure DfM (K : PySem.W.Frag) (C : Addr) (m qual : Str) (st : Stmt) : Prop where
  ex : ∃ f, Meth K C m f ∧ ∃ fd, FunD K m qual (defArgs st) (defBody st) (defScope st) [] [] f fd
/-- the static method m -/
structure DfS (K : PySem.W.Frag) (C : Addr) (m qual : Str) (st : Stmt) : Prop where
  ex : ∃ f p mc, PySem.W.keepIn K (.ref f) = true ∧ ClX.CRead K C mc ∧ PySem.W.findCls K (.ref C) mc m = some (.get (.builtin "staticmethod.__get__") (.ref p) .none (.ref C)) ∧ (∃ rest, PySem.W.recIn K p "staticmethod" = some (.ref f :: rest)) ∧ ∃ fd, FunD K m qual (defArgs st) (defBody st) (defScope st) [] [] f fd
section
variable {P : Program} {w : World} {K : PySem.W.Frag} {mg : Str → Option Value} {base : Heap} {x qual m : Str} {st : Stmt} {N ps : List Str} {k : Nat} {R : List D → D → Prop} {C : Addr}
abbrev Binds0 (x qual : Str) (st : Stmt) (ps : List Str) : Prop := ∀ (doc pm : Value) (an : Option Addr) (cdv ct kV : Value) (us : List Value), us.length = ps.length → bindArgs (PySem.W.fnOf x qual (defArgs st) (defBody st) (defScope st) .none kV doc pm an cdv ct) ⟨us, []⟩ = pure (ps.zip us)
/-- the body read, by data -/
abbrev Body (P : Program) (w : World) (K : PySem.W.Frag) (mg : Str → Option Value) (base : Heap) (N : List Str) (qual : Str) (st : Stmt) (k : Nat) (t : TS) : Prop := ∀ (f : Addr) (cdv : Value) (A : Around) (outer : List Env) (s : Shared) (H : Hp) (E : XK), Room k (A.deeper (envOfC qual (defScope st) s.heap.objs.size f cdv)) →
  PSs (cxOf CX0 P w K mg base N qual (defScope st) f cdv A outer s H E) (defBody st) t
theorem fnr_of {f : Addr} {fd : FuncData} {t : TS} (F : FunD K x qual (defArgs st) (defBody st) (defScope st) [] [] f fd) (S : FnScope N ps (defScope st)) (hl : ∀ xs z, R xs z → xs.length = ps.length) (hb : Binds0 x qual st ps) (rd : Body P w K mg base N qual st k t)
    (dd : ∀ xs z, R xs z → SR t (startE N.length xs) z ∨ (z = dn ∧ ∃ env', SB t (startE N.length xs) env')) : FnR P w K mg base CX0 (k + 1) f (Pr R) :=
  fn_pr F S hl (fun doc pm an cdv ct kV us h => hb doc pm an cdv ct kV us h) fun cdv A outer s H E hr => ⟨t, rd f cdv A outer s H E hr, dd⟩
theorem gf_of {t : TS} (D : DfG K mg x st) (S : FnScope N ps (defScope st)) (hl : ∀ xs z, R xs z → xs.length = ps.length) (hb : Binds0 x x st ps) (rd : Body P w K mg base N x st k t) (dd : ∀ xs z, R xs z → SR t (startE N.length xs) z) : GF P w K mg base (k + 1) x (Pr R) := by
  obtain ⟨f, hm, fd, F⟩ := D.ex
  exact ⟨f, fnr_of F S hl hb rd fun xs z h => .inl (dd xs z h), F.kp, hm⟩
theorem gf_ofN {t : TS} (D : DfG K mg x st) (S : FnScope N ps (defScope st)) (hl : ∀ xs z, R xs z → xs.length = ps.length) (hb : Binds0 x x st ps) (rd : Body P w K mg base N x st k t) (dd : ∀ xs z, R xs z → z = dn ∧ ∃ env', SB t (startE N.length xs) env') : GF P w K mg base (k + 1) x (Pr R) := by
  obtain ⟨f, hm, fd, F⟩ := D.ex
  exact ⟨f, fnr_of F S hl hb rd fun xs z h => .inr (dd xs z h), F.kp, hm⟩
theorem tf_of {t : TS} (c : Cls K C) (D : DfM K C m qual st) (S : FnScope N ps (defScope st)) (hl : ∀ xs z, R xs z → xs.length = ps.length) (hb : Binds0 m qual st ps) (rd : Body P w K mg base N qual st k t) (dd : ∀ xs z, R xs z → SR t (startE N.length xs) z) : TF P w K mg base (k + 1) C m (Pr R) := by
  obtain ⟨f, M, fd, F⟩ := D.ex
  exact ⟨c, f, fnr_of F S hl hb rd fun xs z h => .inl (dd xs z h), M⟩
theorem tf_ofN {t : TS} (c : Cls K C) (D : DfM K C m qual st) (S : FnScope N ps (defScope st)) (hl : ∀ xs z, R xs z → xs.length = ps.length) (hb : Binds0 m qual st ps) (rd : Body P w K mg base N qual st k t) (dd : ∀ xs z, R xs z → z = dn ∧ ∃ env', SB t (startE N.length xs) env') : TF P w K mg base (k + 1) C m (Pr R) := by
  obtain ⟨f, M, fd, F⟩ := D.ex
  exact ⟨c, f, fnr_of F S hl hb rd fun xs z h => .inr (dd xs z h), M⟩
theorem of_of {t : TS} (sf : PySem.W.selfFirst K C = true) (D : DfM K C m qual st) (S : FnScope N ps (defScope st)) (hl : ∀ xs z, R xs z → xs.length = ps.length) (hb : Binds0 m qual st ps) (rd : Body P w K mg base N qual st k t) (dd : ∀ xs z, R xs z → SR t (startE N.length xs) z) : OpF P w K mg base (k + 1) C m (Pr R) := by
  obtain ⟨f, M, fd, F⟩ := D.ex
  exact ⟨⟨f, fnr_of F S hl hb rd fun xs z h => .inl (dd xs z h), M⟩, sf⟩
theorem uf_of {t : TS} (D : DfS K C m qual st) (S : FnScope N ps (defScope st)) (hl : ∀ xs z, R xs z → xs.length = ps.length) (hb : Binds0 m qual st ps) (rd : Body P w K mg base N qual st k t) (dd : ∀ xs z, R xs z → SR t (startE N.length xs) z) : UF P w K mg base (k + 1) C m (Pr R) := by
  obtain ⟨f, p, mc, kp, r, fc, rc, fd, F⟩ := D.ex
  exact ⟨f, p, mc, fnr_of F S hl hb rd fun xs z h => .inl (dd xs z h), kp, r, fc, rc⟩
end
end Kb
end
section
/-! Kr: readings, printed by gen.py. -/
namespace Kb
open PySem PySem.Spec PyProof.Rows L2
/-! is_integer -/
abbrev N_is_integer : List Str := ["value"]
theorem N_is_integer_nd : (N_is_integer).Nodup := by decide +kernel
theorem sc_is_integer : FnScope N_is_integer ["value"] (defScope (top 9)) := ⟨rfl, rfl, rfl, N_is_integer_nd, rfl, by decide +kernel, by decide +kernel⟩
abbrev t_is_integer (K : PySem.W.Frag) : TS := (tRet (tAndV (tCB (rIsi K) (tCons (tVar 0) (tCons (tC (.ty "int")) tNil))) (tNotV (tCB (rIsi K) (tCons (tVar 0) (tCons (tC (.ty "bool")) tNil))))))
theorem rd_is_integer {P : Program} {w : World} {K : PySem.W.Frag} {mg : Str → Option Value} {base : Heap} (B : Bi mg)  {f : Addr} {cdv : Value} {A : Around} {outer : List Env} {s : Shared} {H : Hp} {E : XK} (hr : Room 0 (A.deeper (envOfC "is_integer" (defScope (top 9)) s.heap.objs.size f cdv))) : PSs (cxOf CX0 P w K mg base N_is_integer "is_integer" (defScope (top 9)) f cdv A outer s H E) (defBody (top 9)) (t_is_integer K ) := by
  exact PSs.nox (pss_one (ps_ret (pe_and (pe_callB call_isi (by rfl) B.isinstance bb_isinstance (pa_cons (pv 0) (pa_cons (pe_bltn (by rfl) B.int bb_int rfl) pa_nil))) (pe_one (pe_not (pe_callB call_isi (by rfl) B.isinstance bb_isinstance (pa_cons (pv 0) (pa_cons (pe_bltn (by rfl) B.bool bb_bool rfl) pa_nil))))))))

/-! check_number -/
abbrev N_check_number : List Str := ["what", "value", "low", "high"]
theorem N_check_number_nd : (N_check_number).Nodup := by decide +kernel
theorem sc_check_number : FnScope N_check_number ["what", "value", "low", "high"] (defScope (top 10)) := ⟨rfl, rfl, rfl, N_check_number_nd, rfl, by decide +kernel, by decide +kernel⟩
abbrev t_check_number (K : PySem.W.Frag) (s_is_integer : Sp) : TS := (tSeq (tIfS (tOr (tNot (tB (tCl s_is_integer (tCons (tVar 1) tNil)))) (tOr (tAnd (tB (tNotN (tVar 2))) (tTest (tOp qLt (tVar 1) (tVar 2)))) (tAnd (tB (tNotN (tVar 3))) (tTest (tOp qGt (tVar 1) (tVar 3)))))) tNever tNext) (tRet (tVar 1)))
theorem rd_check_number {P : Program} {w : World} {K : PySem.W.Frag} {mg : Str → Option Value} {base : Heap} {s_is_integer : Sp} (B : Bi mg) (g_is_integer : GF P w K mg base 1 "is_integer" s_is_integer) {f : Addr} {cdv : Value} {A : Around} {outer : List Env} {s : Shared} {H : Hp} {E : XK} (hr : Room 1 (A.deeper (envOfC "check_number" (defScope (top 10)) s.heap.objs.size f cdv))) : PSs (cxOf CX0 P w K mg base N_check_number "check_number" (defScope (top 10)) f cdv A outer s H E) (defBody (top 10)) (t_check_number K s_is_integer) := by
  exact PSs.nox (pss_cons (ps_if (PW.pt (pw_or (pt_not (pt_val (pe_g g_is_integer hr (by decide) (by rfl) (pa_cons (pv 1) pa_nil)))) (pw_or (PW.pt (pw_and (pt_cmp (pc_notN (pv 2))) (pw_and1 (pt_cmpR op_lt (pv 1) (pv 2) (nomark _))))) (pw_or1 (PW.pt (pw_and (pt_cmp (pc_notN (pv 3))) (pw_and1 (pt_cmpR op_gt (pv 1) (pv 3) (nomark _))))))))) pss_never pss_nil) (pss_one (ps_ret (pv 1))))

/-! lot_of -/
abbrev N_lot_of : List Str := ["copies", "numbers", "number", "copy"]
theorem N_lot_of_nd : (N_lot_of).Nodup := by decide +kernel
theorem sc_lot_of : FnScope N_lot_of ["copies", "numbers"] (defScope (top 14)) := ⟨rfl, rfl, rfl, N_lot_of_nd, rfl, by decide +kernel, by decide +kernel⟩
abbrev t_lot_of (K : PySem.W.Frag) (s_check_number : Sp) : TS := (tSeq (tDrop (tCl s_check_number (tCons (tC (.str "copies")) (tCons (tVar 0) (tCons (tC (.int 1)) (tCons (tC (.int 8)) tNil)))))) (tSeq (tFor (iTup K (tVar 1)) (gName 2) (tDrop (tCl s_check_number (tCons (tC (.str "copy")) (tCons (tVar 2) (tCons (tC (.int 0)) (tCons (tOp qSub (tVar 0) (tC (.int 1))) tNil))))))) (tRet (tThen (tLc (iRng1 (tCons (tVar 0) tNil)) (gName 3) (tTest (tOp (rIn K false) (tVar 3) (tVar 1))) (tVar 3) [3]) (kTup K)))))
theorem rd_lot_of {P : Program} {w : World} {K : PySem.W.Frag} {mg : Str → Option Value} {base : Heap} {s_check_number : Sp} (B : Bi mg) (g_check_number : GF P w K mg base 2 "check_number" s_check_number) (c_MOST_COPIES : ∃ t, mg "MOST_COPIES" = some (.int 8 t)) {f : Addr} {cdv : Value} {A : Around} {outer : List Env} {s : Shared} {H : Hp} {E : XK} (hr : Room 2 (A.deeper (envOfC "lot_of" (defScope (top 14)) s.heap.objs.size f cdv))) : PSs (cxOf CX0 P w K mg base N_lot_of "lot_of" (defScope (top 14)) f cdv A outer s H E) (defBody (top 14)) (t_lot_of K s_check_number) := by
  exact PSs.nox (pss_cons (ps_expr (pe_g g_check_number hr (by decide) (by rfl) (pa_cons pe_str (pa_cons (pv 0) (pa_cons pe_int (pa_cons (pe_glob (by rfl) c_MOST_COPIES.choose_spec ⟨_, rfl⟩) pa_nil)))))) (pss_cons (ps_for PassesOwn.never rfl (pi_tup (pv 1)) (pg_name (i := 2) N_lot_of_nd rfl (by first | exact Or.inl rfl | exact Or.inr rfl)) (pss_one (ps_expr (pe_g g_check_number hr (by decide) (by rfl) (pa_cons pe_str (pa_cons (pv 2) (pa_cons pe_int (pa_cons (pe_op op_sub (pv 0) pe_int) pa_nil)))))))) (pss_one (ps_ret (pe_tupleOf (by rfl) B.tuple (pe_lc (own := [("copy", 3)]) (g := (gName 3)) (tt := (tTest (tOp (rIn K false) (tVar 3) (tVar 1)))) (te := (tVar 3)) rfl N_lot_of_nd (pi_range1 (by rfl) B.range (pa_cons (pv 0) pa_nil)) (blkOk_by (by kernel_rfl)) (fun _ _ _ _ _ => (pg_name (i := 3) N_lot_of_nd rfl (by first | exact Or.inl rfl | exact Or.inr rfl))) (fun _ _ _ _ _ => (pts_one (pt_cmpR op_in_seq (pv 3) (pv 1) (by rfl)))) (fun _ _ _ _ _ => (pv 3))))))))

/-! others -/
abbrev N_others : List Str := ["copies", "lot", "copy"]
theorem N_others_nd : (N_others).Nodup := by decide +kernel
theorem sc_others : FnScope N_others ["copies", "lot"] (defScope (top 15)) := ⟨rfl, rfl, rfl, N_others_nd, rfl, by decide +kernel, by decide +kernel⟩
abbrev t_others (K : PySem.W.Frag) (s_lot_of : Sp) : TS := (tSeq (tAsg (tCl s_lot_of (tCons (tVar 0) (tCons (tVar 1) tNil))) (gName 1)) (tRet (tThen (tLc (iRng1 (tCons (tVar 0) tNil)) (gName 2) (tTest (tOp (rIn K true) (tVar 2) (tVar 1))) (tVar 2) [2]) (kTup K))))
theorem rd_others {P : Program} {w : World} {K : PySem.W.Frag} {mg : Str → Option Value} {base : Heap} {s_lot_of : Sp} (B : Bi mg) (g_lot_of : GF P w K mg base 3 "lot_of" s_lot_of) {f : Addr} {cdv : Value} {A : Around} {outer : List Env} {s : Shared} {H : Hp} {E : XK} (hr : Room 3 (A.deeper (envOfC "others" (defScope (top 15)) s.heap.objs.size f cdv))) : PSs (cxOf CX0 P w K mg base N_others "others" (defScope (top 15)) f cdv A outer s H E) (defBody (top 15)) (t_others K s_lot_of) := by
  exact PSs.nox (pss_cons (ps_set (i := 1) N_others_nd rfl (by first | exact Or.inl rfl | exact Or.inr rfl) (pe_g g_lot_of hr (by decide) (by rfl) (pa_cons (pv 0) (pa_cons (pv 1) pa_nil)))) (pss_one (ps_ret (pe_tupleOf (by rfl) B.tuple (pe_lc (own := [("copy", 2)]) (g := (gName 2)) (tt := (tTest (tOp (rIn K true) (tVar 2) (tVar 1)))) (te := (tVar 2)) rfl N_others_nd (pi_range1 (by rfl) B.range (pa_cons (pv 0) pa_nil)) (blkOk_by (by kernel_rfl)) (fun _ _ _ _ _ => (pg_name (i := 2) N_others_nd rfl (by first | exact Or.inl rfl | exact Or.inr rfl))) (fun _ _ _ _ _ => (pts_one (pt_cmpR op_notIn_seq (pv 2) (pv 1) (by rfl)))) (fun _ _ _ _ _ => (pv 2)))))))

/-! all_lots -/
abbrev N_all_lots : List Str := ["copies", "lots", "copy", "lot"]
theorem N_all_lots_nd : (N_all_lots).Nodup := by decide +kernel
theorem sc_all_lots : FnScope N_all_lots ["copies"] (defScope (top 16)) := ⟨rfl, rfl, rfl, N_all_lots_nd, rfl, by decide +kernel, by decide +kernel⟩
abbrev t_all_lots (K : PySem.W.Frag) (s_check_number : Sp) : TS := (tSeq (tDrop (tCl s_check_number (tCons (tC (.str "copies")) (tCons (tVar 0) (tCons (tC (.int 1)) (tCons (tC (.int 8)) tNil)))))) (tSeq (tAsg (tLst (tCons (tTup tNil) tNil)) (gName 1)) (tSeq (tFor (iRng1 (tCons (tVar 0) tNil)) (gName 2) (tAsg (tOp rCat (tVar 1) (tLc (iList K (tVar 1)) (gName 3) tYes (tOp (rCatA K) (tVar 3) (tTup (tCons (tVar 2) tNil))) [3])) (gName 1))) (tRet (tVar 1)))))
theorem rd_all_lots {P : Program} {w : World} {K : PySem.W.Frag} {mg : Str → Option Value} {base : Heap} {s_check_number : Sp} (B : Bi mg) (g_check_number : GF P w K mg base 2 "check_number" s_check_number) (c_MOST_COPIES : ∃ t, mg "MOST_COPIES" = some (.int 8 t)) {f : Addr} {cdv : Value} {A : Around} {outer : List Env} {s : Shared} {H : Hp} {E : XK} (hr : Room 2 (A.deeper (envOfC "all_lots" (defScope (top 16)) s.heap.objs.size f cdv))) : PSs (cxOf CX0 P w K mg base N_all_lots "all_lots" (defScope (top 16)) f cdv A outer s H E) (defBody (top 16)) (t_all_lots K s_check_number) := by
  exact PSs.nox (pss_cons (ps_expr (pe_g g_check_number hr (by decide) (by rfl) (pa_cons pe_str (pa_cons (pv 0) (pa_cons pe_int (pa_cons (pe_glob (by rfl) c_MOST_COPIES.choose_spec ⟨_, rfl⟩) pa_nil)))))) (pss_cons (ps_set (i := 1) N_all_lots_nd rfl (by first | exact Or.inl rfl | exact Or.inr rfl) (pe_lst (pa_cons (pe_tup pa_nil) pa_nil))) (pss_cons (ps_for PassesOwn.never rfl (pi_range1 (by rfl) B.range (pa_cons (pv 0) pa_nil)) (pg_name (i := 2) N_all_lots_nd rfl (by first | exact Or.inl rfl | exact Or.inr rfl)) (pss_one (ps_set (i := 1) N_all_lots_nd rfl (by first | exact Or.inl rfl | exact Or.inr rfl) (pe_op op_cat (pv 1) (pe_lc (own := [("lot", 3)]) (g := (gName 3)) (tt := tYes) (te := (tOp (rCatA K) (tVar 3) (tTup (tCons (tVar 2) tNil)))) rfl N_all_lots_nd (pi_list (pv 1)) (blkOk_by (by kernel_rfl)) (fun _ _ _ _ _ => (pg_name (i := 3) N_all_lots_nd rfl (by first | exact Or.inl rfl | exact Or.inr rfl))) (fun _ _ _ _ _ => pts_nil) (fun _ _ _ _ _ => (pe_op op_catA (pv 3) (pe_tup (pa_cons (pv 2) pa_nil))))))))) (pss_one (ps_ret (pv 1))))))

/-! code_of -/
abbrev N_code_of : List Str := ["lot", "copy"]
theorem N_code_of_nd : (N_code_of).Nodup := by decide +kernel
theorem sc_code_of : FnScope N_code_of ["lot"] (defScope (top 17)) := ⟨rfl, rfl, rfl, N_code_of_nd, rfl, by decide +kernel, by decide +kernel⟩
abbrev t_code_of (K : PySem.W.Frag) (aCODES : Addr) : TS := (tRet (tCB (rSum K) (tCons (tLc (iTup K (tVar 0)) (gName 1) tYes (tOp (rIxT K) (tC (.ref aCODES)) (tVar 1)) [1]) tNil)))
theorem rd_code_of {P : Program} {w : World} {K : PySem.W.Frag} {mg : Str → Option Value} {base : Heap} {aCODES : Addr} (B : Bi mg) (c_CODES : mg "CODES" = some (.ref aCODES)) {f : Addr} {cdv : Value} {A : Around} {outer : List Env} {s : Shared} {H : Hp} {E : XK} (hr : Room 0 (A.deeper (envOfC "code_of" (defScope (top 17)) s.heap.objs.size f cdv))) : PSs (cxOf CX0 P w K mg base N_code_of "code_of" (defScope (top 17)) f cdv A outer s H E) (defBody (top 17)) (t_code_of K aCODES) := by
  exact PSs.nox (pss_one (ps_ret (pe_callB (cr_sum rfl) (by rfl) B.sum bb_sum (pa_cons (pe_lc (own := [("copy", 1)]) (g := (gName 1)) (tt := tYes) (te := (tOp (rIxT K) (tC (.ref aCODES)) (tVar 1))) rfl N_code_of_nd (pi_tup (pv 0)) (blkOk_by (by kernel_rfl)) (fun _ _ _ _ _ => (pg_name (i := 1) N_code_of_nd rfl (by first | exact Or.inl rfl | exact Or.inr rfl))) (fun _ _ _ _ _ => pts_nil) (fun _ _ _ _ _ => (pe_ix ix_tup (pe_glob (by rfl) c_CODES rfl) (pv 1) (fun _ _ => rfl)))) pa_nil))))

/-! ascending -/
abbrev N_ascending : List Str := ["lots", "by_code", "lot", "code"]
theorem N_ascending_nd : (N_ascending).Nodup := by decide +kernel
theorem sc_ascending : FnScope N_ascending ["lots"] (defScope (top 18)) := ⟨rfl, rfl, rfl, N_ascending_nd, rfl, by decide +kernel, by decide +kernel⟩
abbrev t_ascending (K : PySem.W.Frag) (s_code_of : Sp) : TS := (tSeq (tAsg (tDc (iList K (tVar 0)) (gName 2) tYes (tCl s_code_of (tCons (tVar 2) tNil)) (tVar 2) [2]) (gName 1)) (tRet (tLc (iList K (tCB (rSortedI K) (tCons (tLockE (tLc (iKeys (tVar 1)) (gName 3) tYes (tCB cInt (tCons (tVar 3) tNil)) [3])) tNil))) (gName 3) tYes (tDGet (tVar 1) (tVar 3)) [3])))
theorem rd_ascending {P : Program} {w : World} {K : PySem.W.Frag} {mg : Str → Option Value} {base : Heap} {s_code_of : Sp} (B : Bi mg) (g_code_of : GF P w K mg base 1 "code_of" s_code_of) {f : Addr} {cdv : Value} {A : Around} {outer : List Env} {s : Shared} {H : Hp} {E : XK} (hr : Room 1 (A.deeper (envOfC "ascending" (defScope (top 18)) s.heap.objs.size f cdv))) : PSs (cxOf CX0 P w K mg base N_ascending "ascending" (defScope (top 18)) f cdv A outer s H E) (defBody (top 18)) (t_ascending K s_code_of) := by
  have hu1 : (A.deeper (envOfC "ascending" (defScope (top 18)) s.heap.objs.size f cdv)).units + 1 < cLine := hu_of hr
  exact PSs.nox (pss_cons (ps_set (i := 1) N_ascending_nd rfl (by first | exact Or.inl rfl | exact Or.inr rfl) (pe_dc (own := [("lot", 2)]) (g := (gName 2)) (tt := tYes) (tk := (tCl s_code_of (tCons (tVar 2) tNil))) (tv := (tVar 2)) rfl N_ascending_nd (pi_list (pv 0)) (blkOk_by (by kernel_rfl)) (fun _ _ _ _ _ => (pg_name (i := 2) N_ascending_nd rfl (by first | exact Or.inl rfl | exact Or.inr rfl))) (fun _ _ _ _ _ => pts_nil) (fun _ _ _ _ _ => (pe_g g_code_of hr (by decide) (by rfl) (pa_cons (pv 2) pa_nil))) (fun _ _ _ _ _ => (pv 2)))) (pss_one (ps_ret (pe_lc (own := [("code", 3)]) (g := (gName 3)) (tt := tYes) (te := (tDGet (tVar 1) (tVar 3))) rfl N_ascending_nd (pi_list (pe_callB cr_sortedI (by rfl) B.sorted bb_sorted (pa_cons (pe_lock (pe_lc (own := [("code", 3)]) (g := (gName 3)) (tt := tYes) (te := (tCB cInt (tCons (tVar 3) tNil))) rfl N_ascending_nd (pi_keys (pv 1)) (blkOk_by (by kernel_rfl)) (fun _ _ _ _ _ => (pg_name (i := 3) N_ascending_nd rfl (by first | exact Or.inl rfl | exact Or.inr rfl))) (fun _ _ _ _ _ => pts_nil) (fun _ _ _ _ _ => (pe_callTy call_int1 (by rfl) B.int bb_int (pa_cons (pv 3) pa_nil))))) pa_nil))) (blkOk_by (by kernel_rfl)) (fun _ _ _ _ _ => (pg_name (i := 3) N_ascending_nd rfl (by first | exact Or.inl rfl | exact Or.inr rfl))) (fun _ _ _ _ _ => pts_nil) (fun _ _ _ _ _ => (pe_dget hu1 (pv 1) (pv 3) (fun _ _ => rfl)))))))

/-! holds -/
abbrev N_holds : List Str := ["lot", "part", "copy"]
theorem N_holds_nd : (N_holds).Nodup := by decide +kernel
theorem sc_holds : FnScope N_holds ["lot", "part"] (defScope (top 19)) := ⟨rfl, rfl, rfl, N_holds_nd, rfl, by decide +kernel, by decide +kernel⟩
abbrev t_holds (K : PySem.W.Frag) : TS := (tRet (tCB (rAll K) (tCons (tLc (iTup K (tVar 1)) (gName 2) tYes (tOp (rIn K false) (tVar 2) (tVar 0)) [2]) tNil)))
theorem rd_holds {P : Program} {w : World} {K : PySem.W.Frag} {mg : Str → Option Value} {base : Heap} (B : Bi mg)  {f : Addr} {cdv : Value} {A : Around} {outer : List Env} {s : Shared} {H : Hp} {E : XK} (hr : Room 0 (A.deeper (envOfC "holds" (defScope (top 19)) s.heap.objs.size f cdv))) : PSs (cxOf CX0 P w K mg base N_holds "holds" (defScope (top 19)) f cdv A outer s H E) (defBody (top 19)) (t_holds K ) := by
  exact PSs.nox (pss_one (ps_ret (pe_callB (cr_all rfl) (by rfl) B.all bb_all (pa_cons (pe_lc (own := [("copy", 2)]) (g := (gName 2)) (tt := tYes) (te := (tOp (rIn K false) (tVar 2) (tVar 0))) rfl N_holds_nd (pi_tup (pv 1)) (blkOk_by (by kernel_rfl)) (fun _ _ _ _ _ => (pg_name (i := 2) N_holds_nd rfl (by first | exact Or.inl rfl | exact Or.inr rfl))) (fun _ _ _ _ _ => pts_nil) (fun _ _ _ _ _ => (pe_cmpR op_in_seq (pv 2) (pv 0) (by rfl)))) pa_nil))))

/-! meet -/
abbrev N_meet : List Str := ["first", "second", "copy"]
theorem N_meet_nd : (N_meet).Nodup := by decide +kernel
theorem sc_meet : FnScope N_meet ["first", "second"] (defScope (top 20)) := ⟨rfl, rfl, rfl, N_meet_nd, rfl, by decide +kernel, by decide +kernel⟩
abbrev t_meet (K : PySem.W.Frag) : TS := (tRet (tCB (rAny K) (tCons (tLc (iTup K (tVar 0)) (gName 2) tYes (tOp (rIn K false) (tVar 2) (tVar 1)) [2]) tNil)))
theorem rd_meet {P : Program} {w : World} {K : PySem.W.Frag} {mg : Str → Option Value} {base : Heap} (B : Bi mg)  {f : Addr} {cdv : Value} {A : Around} {outer : List Env} {s : Shared} {H : Hp} {E : XK} (hr : Room 0 (A.deeper (envOfC "meet" (defScope (top 20)) s.heap.objs.size f cdv))) : PSs (cxOf CX0 P w K mg base N_meet "meet" (defScope (top 20)) f cdv A outer s H E) (defBody (top 20)) (t_meet K ) := by
  exact PSs.nox (pss_one (ps_ret (pe_callB (cr_any rfl) (by rfl) B.any bb_any (pa_cons (pe_lc (own := [("copy", 2)]) (g := (gName 2)) (tt := tYes) (te := (tOp (rIn K false) (tVar 2) (tVar 1))) rfl N_meet_nd (pi_tup (pv 0)) (blkOk_by (by kernel_rfl)) (fun _ _ _ _ _ => (pg_name (i := 2) N_meet_nd rfl (by first | exact Or.inl rfl | exact Or.inr rfl))) (fun _ _ _ _ _ => pts_nil) (fun _ _ _ _ _ => (pe_cmpR op_in_seq (pv 2) (pv 1) (by rfl)))) pa_nil))))

/-! middle_lots -/
abbrev N_middle_lots : List Str := ["copies", "lot"]
theorem N_middle_lots_nd : (N_middle_lots).Nodup := by decide +kernel
theorem sc_middle_lots : FnScope N_middle_lots ["copies"] (defScope (top 21)) := ⟨rfl, rfl, rfl, N_middle_lots_nd, rfl, by decide +kernel, by decide +kernel⟩
abbrev t_middle_lots (K : PySem.W.Frag) (s_all_lots : Sp) : TS := (tRet (tLc (iList K (tCl s_all_lots (tCons (tVar 0) tNil))) (gName 1) (tTest (tChain qLt qLt (tC (.int 0)) (tCB (rLenS K) (tCons (tVar 1) tNil)) (tVar 0))) (tVar 1) [1]))
theorem rd_middle_lots {P : Program} {w : World} {K : PySem.W.Frag} {mg : Str → Option Value} {base : Heap} {s_all_lots : Sp} (B : Bi mg) (g_all_lots : GF P w K mg base 3 "all_lots" s_all_lots) {f : Addr} {cdv : Value} {A : Around} {outer : List Env} {s : Shared} {H : Hp} {E : XK} (hr : Room 3 (A.deeper (envOfC "middle_lots" (defScope (top 21)) s.heap.objs.size f cdv))) : PSs (cxOf CX0 P w K mg base N_middle_lots "middle_lots" (defScope (top 21)) f cdv A outer s H E) (defBody (top 21)) (t_middle_lots K s_all_lots) := by
  exact PSs.nox (pss_one (ps_ret (pe_lc (own := [("lot", 1)]) (g := (gName 1)) (tt := (tTest (tChain qLt qLt (tC (.int 0)) (tCB (rLenS K) (tCons (tVar 1) tNil)) (tVar 0)))) (te := (tVar 1)) rfl N_middle_lots_nd (pi_list (pe_g g_all_lots hr (by decide) (by rfl) (pa_cons (pv 0) pa_nil))) (blkOk_by (by kernel_rfl)) (fun _ _ _ _ _ => (pg_name (i := 1) N_middle_lots_nd rfl (by first | exact Or.inl rfl | exact Or.inr rfl))) (fun _ _ _ _ _ => (pts_one (pt_chain op_lt op_lt pe_int (pe_callB call_len_seq (by rfl) B.len bb_len (pa_cons (pv 1) pa_nil)) (pv 0)))) (fun _ _ _ _ _ => (pv 1)))))

/-! least_lots -/
abbrev N_least_lots : List Str := ["lots", "found", "lot", "other"]
theorem N_least_lots_nd : (N_least_lots).Nodup := by decide +kernel
theorem sc_least_lots : FnScope N_least_lots ["lots"] (defScope (top 23)) := ⟨rfl, rfl, rfl, N_least_lots_nd, rfl, by decide +kernel, by decide +kernel⟩
abbrev t_least_lots (K : PySem.W.Frag) (s_ascending s_holds : Sp) : TS := (tSeq (tAsg (tCl s_ascending (tCons (tVar 0) tNil)) (gName 1)) (tRet (tLc (iList K (tVar 1)) (gName 2) (tNot (tB (tCB (rAny K) (tCons (tLc (iList K (tVar 1)) (gName 3) tYes (tAndV (tOp (rNeD K) (tVar 3) (tVar 2)) (tCl s_holds (tCons (tVar 2) (tCons (tVar 3) tNil)))) [3]) tNil)))) (tVar 2) [2])))
theorem rd_least_lots {P : Program} {w : World} {K : PySem.W.Frag} {mg : Str → Option Value} {base : Heap} {s_ascending s_holds : Sp} (B : Bi mg) (g_ascending : GF P w K mg base 2 "ascending" s_ascending) (g_holds : GF P w K mg base 1 "holds" s_holds) {f : Addr} {cdv : Value} {A : Around} {outer : List Env} {s : Shared} {H : Hp} {E : XK} (hr : Room 2 (A.deeper (envOfC "least_lots" (defScope (top 23)) s.heap.objs.size f cdv))) : PSs (cxOf CX0 P w K mg base N_least_lots "least_lots" (defScope (top 23)) f cdv A outer s H E) (defBody (top 23)) (t_least_lots K s_ascending s_holds) := by
  have hu64 : (A.deeper (envOfC "least_lots" (defScope (top 23)) s.heap.objs.size f cdv)).units + 64 < cLine := by have := hr.un; omega
  exact PSs.nox (pss_cons (ps_set (i := 1) N_least_lots_nd rfl (by first | exact Or.inl rfl | exact Or.inr rfl) (pe_g g_ascending hr (by decide) (by rfl) (pa_cons (pv 0) pa_nil))) (pss_one (ps_ret (pe_lc (own := [("lot", 2)]) (g := (gName 2)) (tt := (tNot (tB (tCB (rAny K) (tCons (tLc (iList K (tVar 1)) (gName 3) tYes (tAndV (tOp (rNeD K) (tVar 3) (tVar 2)) (tCl s_holds (tCons (tVar 2) (tCons (tVar 3) tNil)))) [3]) tNil))))) (te := (tVar 2)) rfl N_least_lots_nd (pi_list (pv 1)) (blkOk_by (by kernel_rfl)) (fun _ _ _ _ _ => (pg_name (i := 2) N_least_lots_nd rfl (by first | exact Or.inl rfl | exact Or.inr rfl))) (fun _ _ _ _ _ => (pts_one (pt_not (pt_val (pe_callB (cr_any rfl) (by rfl) B.any bb_any (pa_cons (pe_lc (own := [("other", 3)]) (g := (gName 3)) (tt := tYes) (te := (tAndV (tOp (rNeD K) (tVar 3) (tVar 2)) (tCl s_holds (tCons (tVar 2) (tCons (tVar 3) tNil))))) rfl N_least_lots_nd (pi_list (pv 1)) (blkOk_by (by kernel_rfl)) (fun _ _ _ _ _ => (pg_name (i := 3) N_least_lots_nd rfl (by first | exact Or.inl rfl | exact Or.inr rfl))) (fun _ _ _ _ _ => pts_nil) (fun _ _ _ _ _ => (pe_and (pe_cmpR (op_neD hu64) (pv 3) (pv 2) (nomark _)) (pe_one (pe_g g_holds hr (by decide) (by rfl) (pa_cons (pv 2) (pa_cons (pv 3) pa_nil))))))) pa_nil)))))) (fun _ _ _ _ _ => (pv 2))))))

/-! Family.__init__ -/
abbrev N_Familyx_initx : List Str := ["self", "copies", "lots", "found", "place", "lot", "made"]
theorem N_Familyx_initx_nd : (N_Familyx_initx).Nodup := by decide +kernel
theorem sc_Familyx_initx : FnScope N_Familyx_initx ["self", "copies", "lots"] (defScope (cdef 25 0)) := ⟨rfl, rfl, rfl, N_Familyx_initx_nd, rfl, by decide +kernel, by decide +kernel⟩
abbrev t_Familyx_initx (K : PySem.W.Frag) (s_check_number s_lot_of s_least_lots : Sp) : TS := (tSeq (tDrop (tCl s_check_number (tCons (tC (.str "copies")) (tCons (tVar 1) (tCons (tC (.int 1)) (tCons (tC (.int 8)) tNil)))))) (tSeq (tIfS (tTest (tOp rEq (tCB (rLenS K) (tCons (tVar 2) tNil)) (tC (.int 0)))) tNever tNext) (tSeq (tAsg (tLst tNil) (gName 3)) (tSeq (tFor (iEnumT K (tCons (tVar 2) tNil)) (gTup K 2 (gCons (gName 4) (gCons (gName 5) gNil))) (tSeq (tAsg (tCl s_lot_of (tCons (tVar 1) (tCons (tVar 5) tNil))) (gName 6)) (tSeq (tIfS (tTest (tOp rEq (tCB (rLenS K) (tCons (tVar 6) tNil)) (tC (.int 0)))) tNever tNext) (tDrop (tBM K "list" rAppend (tVar 3) (tCons (tVar 6) tNil)))))) (tSeq (sFld K (tVar 0) (tVar 1) "copies") (sFld K (tVar 0) (tThen (tCl s_least_lots (tCons (tVar 3) tNil)) (kTup K)) "lots"))))))
theorem rd_Familyx_initx {P : Program} {w : World} {K : PySem.W.Frag} {mg : Str → Option Value} {base : Heap} {s_check_number s_lot_of s_least_lots : Sp} (B : Bi mg) (g_check_number : GF P w K mg base 2 "check_number" s_check_number) (c_MOST_COPIES : ∃ t, mg "MOST_COPIES" = some (.int 8 t)) (g_lot_of : GF P w K mg base 3 "lot_of" s_lot_of) (g_least_lots : GF P w K mg base 3 "least_lots" s_least_lots) {f : Addr} {cdv : Value} {A : Around} {outer : List Env} {s : Shared} {H : Hp} {E : XK} (hr : Room 3 (A.deeper (envOfC "Family.__init__" (defScope (cdef 25 0)) s.heap.objs.size f cdv))) : PSs (cxOf CX0 P w K mg base N_Familyx_initx "Family.__init__" (defScope (cdef 25 0)) f cdv A outer s H E) (defBody (cdef 25 0)) (t_Familyx_initx K s_check_number s_lot_of s_least_lots) := by
  exact PSs.nox (pss_cons (ps_expr (pe_g g_check_number hr (by decide) (by rfl) (pa_cons pe_str (pa_cons (pv 1) (pa_cons pe_int (pa_cons (pe_glob (by rfl) c_MOST_COPIES.choose_spec ⟨_, rfl⟩) pa_nil)))))) (pss_cons (ps_if (pt_cmpR op_eq (pe_callB call_len_seq (by rfl) B.len bb_len (pa_cons (pv 2) pa_nil)) pe_int (nomark _)) pss_never pss_nil) (pss_cons (ps_set (i := 3) N_Familyx_initx_nd rfl (by first | exact Or.inl rfl | exact Or.inr rfl) (pe_lst pa_nil)) (pss_cons (ps_for PassesOwn.never rfl (pi_enumT (by rfl) B.enumerate (pa_cons (pv 2) pa_nil)) (pg_tup rfl (pgs_cons (pg_name (i := 4) N_Familyx_initx_nd rfl (by first | exact Or.inl rfl | exact Or.inr rfl)) (pgs_cons (pg_name (i := 5) N_Familyx_initx_nd rfl (by first | exact Or.inl rfl | exact Or.inr rfl)) pgs_nil))) (pss_cons (ps_set (i := 6) N_Familyx_initx_nd rfl (by first | exact Or.inl rfl | exact Or.inr rfl) (pe_g g_lot_of hr (by decide) (by rfl) (pa_cons (pv 1) (pa_cons (pv 5) pa_nil)))) (pss_cons (ps_if (pt_cmpR op_eq (pe_callB call_len_seq (by rfl) B.len bb_len (pa_cons (pv 6) pa_nil)) pe_int (nomark _)) pss_never pss_nil) (pss_one (ps_expr (pe_bm PySem.F.plainAttrs_list PySem.F.slot_list_append PySem.F.type_list_append mt_append (pv 3) (pa_cons (pv 6) pa_nil))))))) (pss_cons (ps_fld (pv 0) (pv 1) rfl) (pss_one (ps_fld (pv 0) (pe_tupleOf (by rfl) B.tuple (pe_g g_least_lots hr (by decide) (by rfl) (pa_cons (pv 3) pa_nil))) rfl)))))))

/-! Family.whole -/
abbrev N_Family_whole : List Str := ["copies", "lot"]
theorem N_Family_whole_nd : (N_Family_whole).Nodup := by decide +kernel
theorem sc_Family_whole : FnScope N_Family_whole ["copies"] (defScope (cdef 25 1)) := ⟨rfl, rfl, rfl, N_Family_whole_nd, rfl, by decide +kernel, by decide +kernel⟩
abbrev t_Family_whole (K : PySem.W.Frag) (s_check_number s_Familyx_initx : Sp) : TS := (tSeq (tDrop (tCl s_check_number (tCons (tC (.str "copies")) (tCons (tVar 0) (tCons (tC (.int 1)) (tCons (tC (.int 8)) tNil)))))) (tSeq (tAsg (tTupRg (tRg1 (tVar 0))) (gName 1)) (tRet (tCl s_Familyx_initx (tCons (tVar 0) (tCons (tVar 1) tNil))))))
theorem rd_Family_whole {P : Program} {w : World} {K : PySem.W.Frag} {mg : Str → Option Value} {base : Heap} {s_check_number s_Familyx_initx : Sp} (B : Bi mg) (g_check_number : GF P w K mg base 2 "check_number" s_check_number) (c_MOST_COPIES : ∃ t, mg "MOST_COPIES" = some (.int 8 t)) (m_Family : MF P w K mg base 4 "Family" s_Familyx_initx) {f : Addr} {cdv : Value} {A : Around} {outer : List Env} {s : Shared} {H : Hp} {E : XK} (hr : Room 5 (A.deeper (envOfC "Family.whole" (defScope (cdef 25 1)) s.heap.objs.size f cdv))) : PSs (cxOf CX0 P w K mg base N_Family_whole "Family.whole" (defScope (cdef 25 1)) f cdv A outer s H E) (defBody (cdef 25 1)) (t_Family_whole K s_check_number s_Familyx_initx) := by
  exact PSs.nox (pss_cons (ps_expr (pe_g g_check_number hr (by decide) (by rfl) (pa_cons pe_str (pa_cons (pv 0) (pa_cons pe_int (pa_cons (pe_glob (by rfl) c_MOST_COPIES.choose_spec ⟨_, rfl⟩) pa_nil)))))) (pss_cons (ps_set (i := 1) N_Family_whole_nd rfl (by first | exact Or.inl rfl | exact Or.inr rfl) (pe_tupRg rfl (by rfl) B.tuple (prg_1 (by rfl) B.range (pv 0)))) (pss_one (ps_ret (pe_mk m_Family hr (by decide) (by rfl) (pa_cons (pv 0) (pa_cons (pv 1) pa_nil)))))))

/-! Family.contains -/
abbrev N_Family_contains : List Str := ["self", "lot", "least"]
theorem N_Family_contains_nd : (N_Family_contains).Nodup := by decide +kernel
theorem sc_Family_contains : FnScope N_Family_contains ["self", "lot"] (defScope (cdef 25 3)) := ⟨rfl, rfl, rfl, N_Family_contains_nd, rfl, by decide +kernel, by decide +kernel⟩
abbrev t_Family_contains (K : PySem.W.Frag) (s_holds : Sp) : TS := (tRet (tCB (rAny K) (tCons (tLc (iTup K (tFld K (tVar 0) "lots")) (gName 2) tYes (tCl s_holds (tCons (tVar 1) (tCons (tVar 2) tNil))) [2]) tNil)))
theorem rd_Family_contains {P : Program} {w : World} {K : PySem.W.Frag} {mg : Str → Option Value} {base : Heap} {s_holds : Sp} (B : Bi mg) (g_holds : GF P w K mg base 1 "holds" s_holds) {f : Addr} {cdv : Value} {A : Around} {outer : List Env} {s : Shared} {H : Hp} {E : XK} (hr : Room 1 (A.deeper (envOfC "Family.contains" (defScope (cdef 25 3)) s.heap.objs.size f cdv))) : PSs (cxOf CX0 P w K mg base N_Family_contains "Family.contains" (defScope (cdef 25 3)) f cdv A outer s H E) (defBody (cdef 25 3)) (t_Family_contains K s_holds) := by
  exact PSs.nox (pss_one (ps_ret (pe_callB (cr_any rfl) (by rfl) B.any bb_any (pa_cons (pe_lc (own := [("least", 2)]) (g := (gName 2)) (tt := tYes) (te := (tCl s_holds (tCons (tVar 1) (tCons (tVar 2) tNil)))) rfl N_Family_contains_nd (pi_tup (pe_fld (pv 0) rfl)) (blkOk_by (by kernel_rfl)) (fun _ _ _ _ _ => (pg_name (i := 2) N_Family_contains_nd rfl (by first | exact Or.inl rfl | exact Or.inr rfl))) (fun _ _ _ _ _ => pts_nil) (fun _ _ _ _ _ => (pe_g g_holds hr (by decide) (by rfl) (pa_cons (pv 1) (pa_cons (pv 2) pa_nil))))) pa_nil))))

/-! Family.check_like -/
abbrev N_Family_check_like : List Str := ["self", "other"]
theorem N_Family_check_like_nd : (N_Family_check_like).Nodup := by decide +kernel
theorem sc_Family_check_like : FnScope N_Family_check_like ["self", "other"] (defScope (cdef 25 4)) := ⟨rfl, rfl, rfl, N_Family_check_like_nd, rfl, by decide +kernel, by decide +kernel⟩
abbrev t_Family_check_like (K : PySem.W.Frag) : TS := (tIfS (tTest (tOp rNe (tFld K (tVar 0) "copies") (tFld K (tVar 1) "copies"))) tNever tNext)
theorem rd_Family_check_like {P : Program} {w : World} {K : PySem.W.Frag} {mg : Str → Option Value} {base : Heap} (B : Bi mg)  {f : Addr} {cdv : Value} {A : Around} {outer : List Env} {s : Shared} {H : Hp} {E : XK} (hr : Room 0 (A.deeper (envOfC "Family.check_like" (defScope (cdef 25 4)) s.heap.objs.size f cdv))) : PSs (cxOf CX0 P w K mg base N_Family_check_like "Family.check_like" (defScope (cdef 25 4)) f cdv A outer s H E) (defBody (cdef 25 4)) (t_Family_check_like K ) := by
  exact PSs.nox (pss_one (ps_if (pt_cmpR op_ne (pe_fld (pv 0) rfl) (pe_fld (pv 1) rfl) (nomark _)) pss_never pss_nil))

/-! Family.__le__ -/
abbrev N_Familyx_lex : List Str := ["self", "other", "lot"]
theorem N_Familyx_lex_nd : (N_Familyx_lex).Nodup := by decide +kernel
theorem sc_Familyx_lex : FnScope N_Familyx_lex ["self", "other"] (defScope (cdef 25 7)) := ⟨rfl, rfl, rfl, N_Familyx_lex_nd, rfl, by decide +kernel, by decide +kernel⟩
abbrev t_Familyx_lex (K : PySem.W.Frag) (aFamily : Addr) (s_Family_check_like s_Family_contains : Sp) : TS := (tSeq (tIfS (tNot (tB (tCB (rIsi K) (tCons (tVar 1) (tCons (tC (.ref aFamily)) tNil))))) tNever tNext) (tSeq (tDrop (tMt aFamily "check_like" s_Family_check_like (tVar 0) (tCons (tVar 1) tNil))) (tRet (tCB (rAll K) (tCons (tLc (iTup K (tFld K (tVar 0) "lots")) (gName 2) tYes (tMt aFamily "contains" s_Family_contains (tVar 1) (tCons (tVar 2) tNil)) [2]) tNil)))))
theorem rd_Familyx_lex {P : Program} {w : World} {K : PySem.W.Frag} {mg : Str → Option Value} {base : Heap} {aFamily : Addr} {s_Family_check_like s_Family_contains : Sp} (B : Bi mg) (n_Family : mg "Family" = some (.ref aFamily)) (t_Family_check_like : TF P w K mg base 1 aFamily "check_like" s_Family_check_like) (t_Family_contains : TF P w K mg base 2 aFamily "contains" s_Family_contains) {f : Addr} {cdv : Value} {A : Around} {outer : List Env} {s : Shared} {H : Hp} {E : XK} (hr : Room 2 (A.deeper (envOfC "Family.__le__" (defScope (cdef 25 7)) s.heap.objs.size f cdv))) : PSs (cxOf CX0 P w K mg base N_Familyx_lex "Family.__le__" (defScope (cdef 25 7)) f cdv A outer s H E) (defBody (cdef 25 7)) (t_Familyx_lex K aFamily s_Family_check_like s_Family_contains) := by
  exact PSs.nox (pss_cons (ps_if (pt_not (pt_val (pe_callB call_isi (by rfl) B.isinstance bb_isinstance (pa_cons (pv 1) (pa_cons (pe_glob (by rfl) n_Family rfl) pa_nil))))) pss_never pss_nil) (pss_cons (ps_expr (pe_t (pv 0) t_Family_check_like hr (by decide) (pa_cons (pv 1) pa_nil))) (pss_one (ps_ret (pe_callB (cr_all rfl) (by rfl) B.all bb_all (pa_cons (pe_lc (own := [("lot", 2)]) (g := (gName 2)) (tt := tYes) (te := (tMt aFamily "contains" s_Family_contains (tVar 1) (tCons (tVar 2) tNil))) rfl N_Familyx_lex_nd (pi_tup (pe_fld (pv 0) rfl)) (blkOk_by (by kernel_rfl)) (fun _ _ _ _ _ => (pg_name (i := 2) N_Familyx_lex_nd rfl (by first | exact Or.inl rfl | exact Or.inr rfl))) (fun _ _ _ _ _ => pts_nil) (fun _ _ _ _ _ => (pe_t (pv 1) t_Family_contains hr (by decide) (pa_cons (pv 2) pa_nil)))) pa_nil))))))

/-! Family.__or__ -/
abbrev N_Familyx_orx : List Str := ["self", "other", "lots"]
theorem N_Familyx_orx_nd : (N_Familyx_orx).Nodup := by decide +kernel
theorem sc_Familyx_orx : FnScope N_Familyx_orx ["self", "other"] (defScope (cdef 25 8)) := ⟨rfl, rfl, rfl, N_Familyx_orx_nd, rfl, by decide +kernel, by decide +kernel⟩
abbrev t_Familyx_orx (K : PySem.W.Frag) (aFamily : Addr) (s_Family_check_like s_Familyx_initx : Sp) : TS := (tSeq (tIfS (tNot (tB (tCB (rIsi K) (tCons (tVar 1) (tCons (tC (.ref aFamily)) tNil))))) tNever tNext) (tSeq (tDrop (tMt aFamily "check_like" s_Family_check_like (tVar 0) (tCons (tVar 1) tNil))) (tSeq (tAsg (tOp (rCatA K) (tFld K (tVar 0) "lots") (tFld K (tVar 1) "lots")) (gName 2)) (tRet (tCl s_Familyx_initx (tCons (tFld K (tVar 0) "copies") (StX.tStar K (tVar 2) tNil)))))))
theorem rd_Familyx_orx {P : Program} {w : World} {K : PySem.W.Frag} {mg : Str → Option Value} {base : Heap} {aFamily : Addr} {s_Family_check_like s_Familyx_initx : Sp} (B : Bi mg) (n_Family : mg "Family" = some (.ref aFamily)) (t_Family_check_like : TF P w K mg base 1 aFamily "check_like" s_Family_check_like) (m_Family : MF P w K mg base 4 "Family" s_Familyx_initx) {f : Addr} {cdv : Value} {A : Around} {outer : List Env} {s : Shared} {H : Hp} {E : XK} (hr : Room 5 (A.deeper (envOfC "Family.__or__" (defScope (cdef 25 8)) s.heap.objs.size f cdv))) : PSs (cxOf CX0 P w K mg base N_Familyx_orx "Family.__or__" (defScope (cdef 25 8)) f cdv A outer s H E) (defBody (cdef 25 8)) (t_Familyx_orx K aFamily s_Family_check_like s_Familyx_initx) := by
  exact PSs.nox (pss_cons (ps_if (pt_not (pt_val (pe_callB call_isi (by rfl) B.isinstance bb_isinstance (pa_cons (pv 1) (pa_cons (pe_glob (by rfl) n_Family rfl) pa_nil))))) pss_never pss_nil) (pss_cons (ps_expr (pe_t (pv 0) t_Family_check_like hr (by decide) (pa_cons (pv 1) pa_nil))) (pss_cons (ps_set (i := 2) N_Familyx_orx_nd rfl (by first | exact Or.inl rfl | exact Or.inr rfl) (pe_op op_catA (pe_fld (pv 0) rfl) (pe_fld (pv 1) rfl))) (pss_one (ps_ret (pe_mkS m_Family hr (by decide) (by rfl) (pa_cons (pe_fld (pv 0) rfl) (StX.pa_star (pv 2) pa_nil))))))))

/-! Family.meets -/
abbrev N_Family_meets : List Str := ["self", "other", "first", "second"]
theorem N_Family_meets_nd : (N_Family_meets).Nodup := by decide +kernel
theorem sc_Family_meets : FnScope N_Family_meets ["self", "other"] (defScope (cdef 25 15)) := ⟨rfl, rfl, rfl, N_Family_meets_nd, rfl, by decide +kernel, by decide +kernel⟩
abbrev t_Family_meets (K : PySem.W.Frag) (aFamily : Addr) (s_Family_check_like s_meet : Sp) : TS := (tSeq (tDrop (tMt aFamily "check_like" s_Family_check_like (tVar 0) (tCons (tVar 1) tNil))) (tRet (tCB (rAll K) (tCons (tLc2 (iTup K (tFld K (tVar 0) "lots")) (gName 2) tYes (iTup K (tFld K (tVar 1) "lots")) (gName 3) tYes (tCl s_meet (tCons (tVar 2) (tCons (tVar 3) tNil))) [2, 3] [3]) tNil))))
theorem rd_Family_meets {P : Program} {w : World} {K : PySem.W.Frag} {mg : Str → Option Value} {base : Heap} {aFamily : Addr} {s_Family_check_like s_meet : Sp} (B : Bi mg) (t_Family_check_like : TF P w K mg base 1 aFamily "check_like" s_Family_check_like) (g_meet : GF P w K mg base 1 "meet" s_meet) {f : Addr} {cdv : Value} {A : Around} {outer : List Env} {s : Shared} {H : Hp} {E : XK} (hr : Room 1 (A.deeper (envOfC "Family.meets" (defScope (cdef 25 15)) s.heap.objs.size f cdv))) : PSs (cxOf CX0 P w K mg base N_Family_meets "Family.meets" (defScope (cdef 25 15)) f cdv A outer s H E) (defBody (cdef 25 15)) (t_Family_meets K aFamily s_Family_check_like s_meet) := by
  exact PSs.nox (pss_cons (ps_expr (pe_t (pv 0) t_Family_check_like hr (by decide) (pa_cons (pv 1) pa_nil))) (pss_one (ps_ret (pe_callB (cr_all rfl) (by rfl) B.all bb_all (pa_cons (pe_lc2 (own := [("first", 2), ("second", 3)]) (vs1 := [3]) (g := (gName 2)) (tt := tYes) (wi1 := (iTup K (tFld K (tVar 1) "lots"))) (g1 := (gName 3)) (tt1 := tYes) (te := (tCl s_meet (tCons (tVar 2) (tCons (tVar 3) tNil)))) rfl N_Family_meets_nd (pi_tup (pe_fld (pv 0) rfl)) (blkOk_by (by kernel_rfl)) (by decide) (fun _ _ _ _ _ => (pg_name (i := 2) N_Family_meets_nd rfl (by first | exact Or.inl rfl | exact Or.inr rfl))) (fun _ _ _ _ _ => pts_nil) (fun _ _ _ _ _ => (pi_tup (pe_fld (pv 1) rfl))) (fun _ _ _ _ _ => (pg_name (i := 3) N_Family_meets_nd rfl (by first | exact Or.inl rfl | exact Or.inr rfl))) (fun _ _ _ _ _ => pts_nil) (fun _ _ _ _ _ => (pe_g g_meet hr (by decide) (by rfl) (pa_cons (pv 2) (pa_cons (pv 3) pa_nil))))) pa_nil)))))

/-! Family.is_strict -/
abbrev N_Family_is_strict : List Str := ["self"]
theorem N_Family_is_strict_nd : (N_Family_is_strict).Nodup := by decide +kernel
theorem sc_Family_is_strict : FnScope N_Family_is_strict ["self"] (defScope (cdef 25 16)) := ⟨rfl, rfl, rfl, N_Family_is_strict_nd, rfl, by decide +kernel, by decide +kernel⟩
abbrev t_Family_is_strict (K : PySem.W.Frag) (aFamily : Addr) (s_Family_meets : Sp) : TS := (tRet (tMt aFamily "meets" s_Family_meets (tVar 0) (tCons (tVar 0) tNil)))
theorem rd_Family_is_strict {P : Program} {w : World} {K : PySem.W.Frag} {mg : Str → Option Value} {base : Heap} {aFamily : Addr} {s_Family_meets : Sp} (B : Bi mg) (t_Family_meets : TF P w K mg base 2 aFamily "meets" s_Family_meets) {f : Addr} {cdv : Value} {A : Around} {outer : List Env} {s : Shared} {H : Hp} {E : XK} (hr : Room 2 (A.deeper (envOfC "Family.is_strict" (defScope (cdef 25 16)) s.heap.objs.size f cdv))) : PSs (cxOf CX0 P w K mg base N_Family_is_strict "Family.is_strict" (defScope (cdef 25 16)) f cdv A outer s H E) (defBody (cdef 25 16)) (t_Family_is_strict K aFamily s_Family_meets) := by
  exact PSs.nox (pss_one (ps_ret (pe_t (pv 0) t_Family_meets hr (by decide) (pa_cons (pv 0) pa_nil))))

/-! Family.dual -/
abbrev N_Family_dual : List Str := ["self", "lots", "lot"]
theorem N_Family_dual_nd : (N_Family_dual).Nodup := by decide +kernel
theorem sc_Family_dual : FnScope N_Family_dual ["self"] (defScope (cdef 25 17)) := ⟨rfl, rfl, rfl, N_Family_dual_nd, rfl, by decide +kernel, by decide +kernel⟩
abbrev t_Family_dual (K : PySem.W.Frag) (aFamily : Addr) (s_all_lots s_Family_contains s_others s_Familyx_initx : Sp) : TS := (tSeq (tAsg (tLc (iList K (tCl s_all_lots (tCons (tFld K (tVar 0) "copies") tNil))) (gName 2) (tNot (tB (tMt aFamily "contains" s_Family_contains (tVar 0) (tCons (tCl s_others (tCons (tFld K (tVar 0) "copies") (tCons (tVar 2) tNil))) tNil)))) (tVar 2) [2]) (gName 1)) (tRet (tCl s_Familyx_initx (tCons (tFld K (tVar 0) "copies") (StX.tStar K (tVar 1) tNil)))))
theorem rd_Family_dual {P : Program} {w : World} {K : PySem.W.Frag} {mg : Str → Option Value} {base : Heap} {aFamily : Addr} {s_all_lots s_Family_contains s_others s_Familyx_initx : Sp} (B : Bi mg) (g_all_lots : GF P w K mg base 3 "all_lots" s_all_lots) (t_Family_contains : TF P w K mg base 2 aFamily "contains" s_Family_contains) (g_others : GF P w K mg base 4 "others" s_others) (m_Family : MF P w K mg base 4 "Family" s_Familyx_initx) {f : Addr} {cdv : Value} {A : Around} {outer : List Env} {s : Shared} {H : Hp} {E : XK} (hr : Room 5 (A.deeper (envOfC "Family.dual" (defScope (cdef 25 17)) s.heap.objs.size f cdv))) : PSs (cxOf CX0 P w K mg base N_Family_dual "Family.dual" (defScope (cdef 25 17)) f cdv A outer s H E) (defBody (cdef 25 17)) (t_Family_dual K aFamily s_all_lots s_Family_contains s_others s_Familyx_initx) := by
  exact PSs.nox (pss_cons (ps_setLc (i := 1) (own := [("lot", 2)]) (g := (gName 2)) (tt := (tNot (tB (tMt aFamily "contains" s_Family_contains (tVar 0) (tCons (tCl s_others (tCons (tFld K (tVar 0) "copies") (tCons (tVar 2) tNil))) tNil))))) (te := (tVar 2))  rfl N_Family_dual_nd rfl rfl (sw_true rfl rfl rfl (by kernel_rfl)) (pi_list (pe_g g_all_lots hr (by decide) (by rfl) (pa_cons (pe_fld (pv 0) rfl) pa_nil))) (blkOk_by (by kernel_rfl)) (fun _ _ _ _ _ => (pg_name (i := 2) N_Family_dual_nd rfl (by first | exact Or.inl rfl | exact Or.inr rfl))) (fun _ _ _ _ _ => (pts_one (pt_not (pt_val (pe_t (pv 0) t_Family_contains hr (by decide) (pa_cons (pe_g g_others hr (by decide) (by rfl) (pa_cons (pe_fld (pv 0) rfl) (pa_cons (pv 2) pa_nil))) pa_nil)))))) (fun _ _ _ _ _ => (pv 2))) (pss_one (ps_ret (pe_mkS m_Family hr (by decide) (by rfl) (pa_cons (pe_fld (pv 0) rfl) (StX.pa_star (pv 1) pa_nil))))))

/-! common_part -/
abbrev N_common_part : List Str := ["first", "second"]
theorem N_common_part_nd : (N_common_part).Nodup := by decide +kernel
theorem sc_common_part : FnScope N_common_part ["first", "second"] (defScope (top 27)) := ⟨rfl, rfl, rfl, N_common_part_nd, rfl, by decide +kernel, by decide +kernel⟩
abbrev t_common_part (K : PySem.W.Frag) : TS := (tSeq (tWhile (tTest (tOp rNe (tVar 1) (tC (.int 0)))) (tPar 0 1 (tCons (tVar 1) (tCons (tOp qMod (tVar 0) (tVar 1)) tNil)))) (tRet (tVar 0)))
theorem rd_common_part {P : Program} {w : World} {K : PySem.W.Frag} {mg : Str → Option Value} {base : Heap} (B : Bi mg)  {f : Addr} {cdv : Value} {A : Around} {outer : List Env} {s : Shared} {H : Hp} {E : XK} (hr : Room 0 (A.deeper (envOfC "common_part" (defScope (top 27)) s.heap.objs.size f cdv))) : PSs (cxOf CX0 P w K mg base N_common_part "common_part" (defScope (top 27)) f cdv A outer s H E) (defBody (top 27)) (t_common_part K ) := by
  exact PSs.nox (pss_cons (ps_while PassesOwn.never (pt_cmpR op_ne (pv 1) pe_int (nomark _)) (pss_one (ps_par rfl N_common_part_nd rfl rfl (by decide) rfl rfl (pa_cons (pv 1) (pa_cons (pe_op op_mod (pv 0) (pv 1)) pa_nil)) (by rfl)))) (pss_one (ps_ret (pv 0))))

/-! Ratio.__init__ -/
abbrev N_Ratiox_initx : List Str := ["self", "over", "under", "part"]
theorem N_Ratiox_initx_nd : (N_Ratiox_initx).Nodup := by decide +kernel
theorem sc_Ratiox_initx : FnScope N_Ratiox_initx ["self", "over", "under"] (defScope (cdef 29 0)) := ⟨rfl, rfl, rfl, N_Ratiox_initx_nd, rfl, by decide +kernel, by decide +kernel⟩
abbrev t_Ratiox_initx (K : PySem.W.Frag) (s_check_number s_common_part : Sp) : TS := (tSeq (tDrop (tCl s_check_number (tCons (tC (.str "over")) (tCons (tVar 1) (tCons (tC .non) (tCons (tC .non) tNil)))))) (tSeq (tDrop (tCl s_check_number (tCons (tC (.str "under")) (tCons (tVar 2) (tCons (tC .non) (tCons (tC .non) tNil)))))) (tSeq (tIfS (tTest (tOp rEq (tVar 2) (tC (.int 0)))) tNever tNext) (tSeq (tAsg (tCl s_common_part (tCons (tCB cAbs (tCons (tCB cInt (tCons (tVar 1) tNil)) tNil)) (tCons (tCB cAbs (tCons (tCB cInt (tCons (tVar 2) tNil)) tNil)) tNil))) (gName 3)) (tSeq (tIfS (tTest (tOp qLt (tVar 2) (tC (.int 0)))) (tAsg (tUn (rU fun i => .int (-i)) (tVar 3)) (gName 3)) tNext) (tSeq (sFld K (tVar 0) (tOp qDiv (tVar 1) (tVar 3)) "over") (sFld K (tVar 0) (tOp qDiv (tVar 2) (tVar 3)) "under")))))))
theorem rd_Ratiox_initx {P : Program} {w : World} {K : PySem.W.Frag} {mg : Str → Option Value} {base : Heap} {s_check_number s_common_part : Sp} (B : Bi mg) (g_check_number : GF P w K mg base 2 "check_number" s_check_number) (g_common_part : GF P w K mg base 1 "common_part" s_common_part) {f : Addr} {cdv : Value} {A : Around} {outer : List Env} {s : Shared} {H : Hp} {E : XK} (hr : Room 2 (A.deeper (envOfC "Ratio.__init__" (defScope (cdef 29 0)) s.heap.objs.size f cdv))) : PSs (cxOf CX0 P w K mg base N_Ratiox_initx "Ratio.__init__" (defScope (cdef 29 0)) f cdv A outer s H E) (defBody (cdef 29 0)) (t_Ratiox_initx K s_check_number s_common_part) := by
  exact PSs.nox (pss_cons (ps_expr (pe_g g_check_number hr (by decide) (by rfl) (pa_cons pe_str (pa_cons (pv 1) (pa_cons pe_non (pa_cons pe_non pa_nil)))))) (pss_cons (ps_expr (pe_g g_check_number hr (by decide) (by rfl) (pa_cons pe_str (pa_cons (pv 2) (pa_cons pe_non (pa_cons pe_non pa_nil)))))) (pss_cons (ps_if (pt_cmpR op_eq (pv 2) pe_int (nomark _)) pss_never pss_nil) (pss_cons (ps_set (i := 3) N_Ratiox_initx_nd rfl (by first | exact Or.inl rfl | exact Or.inr rfl) (pe_g g_common_part hr (by decide) (by rfl) (pa_cons (pe_callB call_abs (by rfl) B.abs bb_abs (pa_cons (pe_callTy call_int1 (by rfl) B.int bb_int (pa_cons (pv 1) pa_nil)) pa_nil)) (pa_cons (pe_callB call_abs (by rfl) B.abs bb_abs (pa_cons (pe_callTy call_int1 (by rfl) B.int bb_int (pa_cons (pv 2) pa_nil)) pa_nil)) pa_nil)))) (pss_cons (ps_if (pt_cmpR op_lt (pv 2) pe_int (nomark _)) (pss_one (ps_set (i := 3) N_Ratiox_initx_nd rfl (by first | exact Or.inl rfl | exact Or.inr rfl) (pe_un un_neg (pv 3)))) pss_nil) (pss_cons (ps_fld (pv 0) (pe_op op_fdivW (pv 1) (pv 3)) rfl) (pss_one (ps_fld (pv 0) (pe_op op_fdivW (pv 2) (pv 3)) rfl))))))))

/-! ratio_of -/
abbrev N_ratio_of : List Str := ["value"]
theorem N_ratio_of_nd : (N_ratio_of).Nodup := by decide +kernel
theorem sc_ratio_of : FnScope N_ratio_of ["value"] (defScope (top 28)) := ⟨rfl, rfl, rfl, N_ratio_of_nd, rfl, by decide +kernel, by decide +kernel⟩
abbrev t_ratio_of (K : PySem.W.Frag) (aRatio : Addr) (s_is_integer s_Ratiox_initx : Sp) : TS := (tSeq (tIfS (tB (tCB (rIsi K) (tCons (tVar 0) (tCons (tC (.ref aRatio)) tNil)))) (tRet (tVar 0)) tNext) (tSeq (tIfS (tB (tCl s_is_integer (tCons (tVar 0) tNil))) (tRet (tCl s_Ratiox_initx (tCons (tVar 0) tNil))) tNext) (tRet (tC .non))))
theorem rd_ratio_of {P : Program} {w : World} {K : PySem.W.Frag} {mg : Str → Option Value} {base : Heap} {aRatio : Addr} {s_is_integer s_Ratiox_initx : Sp} (B : Bi mg) (n_Ratio : mg "Ratio" = some (.ref aRatio)) (g_is_integer : GF P w K mg base 1 "is_integer" s_is_integer) (m_Ratio : MF P w K mg base 3 "Ratio" s_Ratiox_initx) {f : Addr} {cdv : Value} {A : Around} {outer : List Env} {s : Shared} {H : Hp} {E : XK} (hr : Room 4 (A.deeper (envOfC "ratio_of" (defScope (top 28)) s.heap.objs.size f cdv))) : PSs (cxOf CX0 P w K mg base N_ratio_of "ratio_of" (defScope (top 28)) f cdv A outer s H E) (defBody (top 28)) (t_ratio_of K aRatio s_is_integer s_Ratiox_initx) := by
  exact PSs.nox (pss_cons (ps_if (pt_val (pe_callB call_isi (by rfl) B.isinstance bb_isinstance (pa_cons (pv 0) (pa_cons (pe_glob (by rfl) n_Ratio rfl) pa_nil)))) (pss_one (ps_ret (pv 0))) pss_nil) (pss_cons (ps_if (pt_val (pe_g g_is_integer hr (by decide) (by rfl) (pa_cons (pv 0) pa_nil))) (pss_one (ps_ret (pe_mk m_Ratio hr (by decide) (by rfl) (pa_cons (pv 0) pa_nil)))) pss_nil) (pss_one (ps_ret pe_non))))

/-! Ratio.__eq__ -/
abbrev N_Ratiox_eqx : List Str := ["self", "other"]
theorem N_Ratiox_eqx_nd : (N_Ratiox_eqx).Nodup := by decide +kernel
theorem sc_Ratiox_eqx : FnScope N_Ratiox_eqx ["self", "other"] (defScope (cdef 29 1)) := ⟨rfl, rfl, rfl, N_Ratiox_eqx_nd, rfl, by decide +kernel, by decide +kernel⟩
abbrev t_Ratiox_eqx (K : PySem.W.Frag) (aRatio : Addr) : TS := (tSeq (tIfS (tNot (tB (tCB (rIsi K) (tCons (tVar 1) (tCons (tC (.ref aRatio)) tNil))))) tNever tNext) (tRet (tAndV (tOp rEq (tFld K (tVar 0) "over") (tFld K (tVar 1) "over")) (tOp rEq (tFld K (tVar 0) "under") (tFld K (tVar 1) "under")))))
theorem rd_Ratiox_eqx {P : Program} {w : World} {K : PySem.W.Frag} {mg : Str → Option Value} {base : Heap} {aRatio : Addr} (B : Bi mg) (n_Ratio : mg "Ratio" = some (.ref aRatio)) {f : Addr} {cdv : Value} {A : Around} {outer : List Env} {s : Shared} {H : Hp} {E : XK} (hr : Room 0 (A.deeper (envOfC "Ratio.__eq__" (defScope (cdef 29 1)) s.heap.objs.size f cdv))) : PSs (cxOf CX0 P w K mg base N_Ratiox_eqx "Ratio.__eq__" (defScope (cdef 29 1)) f cdv A outer s H E) (defBody (cdef 29 1)) (t_Ratiox_eqx K aRatio) := by
  exact PSs.nox (pss_cons (ps_if (pt_not (pt_val (pe_callB call_isi (by rfl) B.isinstance bb_isinstance (pa_cons (pv 1) (pa_cons (pe_glob (by rfl) n_Ratio rfl) pa_nil))))) pss_never pss_nil) (pss_one (ps_ret (pe_and (pe_cmpR op_eq (pe_fld (pv 0) rfl) (pe_fld (pv 1) rfl) (nomark _)) (pe_one (pe_cmpR op_eq (pe_fld (pv 0) rfl) (pe_fld (pv 1) rfl) (nomark _)))))))

/-! Ratio.__lt__ -/
abbrev N_Ratiox_ltx : List Str := ["self", "other", "value"]
theorem N_Ratiox_ltx_nd : (N_Ratiox_ltx).Nodup := by decide +kernel
theorem sc_Ratiox_ltx : FnScope N_Ratiox_ltx ["self", "other"] (defScope (cdef 29 2)) := ⟨rfl, rfl, rfl, N_Ratiox_ltx_nd, rfl, by decide +kernel, by decide +kernel⟩
abbrev t_Ratiox_ltx (K : PySem.W.Frag) (s_ratio_of : Sp) : TS := (tSeq (tAsg (tCl s_ratio_of (tCons (tVar 1) tNil)) (gName 2)) (tSeq (tIfS (tB (tIsN (tVar 2))) tNever tNext) (tRet (tOp qLt (tOp qMul (tFld K (tVar 0) "over") (tFld K (tVar 2) "under")) (tOp qMul (tFld K (tVar 2) "over") (tFld K (tVar 0) "under"))))))
theorem rd_Ratiox_ltx {P : Program} {w : World} {K : PySem.W.Frag} {mg : Str → Option Value} {base : Heap} {s_ratio_of : Sp} (B : Bi mg) (g_ratio_of : GF P w K mg base 5 "ratio_of" s_ratio_of) {f : Addr} {cdv : Value} {A : Around} {outer : List Env} {s : Shared} {H : Hp} {E : XK} (hr : Room 5 (A.deeper (envOfC "Ratio.__lt__" (defScope (cdef 29 2)) s.heap.objs.size f cdv))) : PSs (cxOf CX0 P w K mg base N_Ratiox_ltx "Ratio.__lt__" (defScope (cdef 29 2)) f cdv A outer s H E) (defBody (cdef 29 2)) (t_Ratiox_ltx K s_ratio_of) := by
  exact PSs.nox (pss_cons (ps_set (i := 2) N_Ratiox_ltx_nd rfl (by first | exact Or.inl rfl | exact Or.inr rfl) (pe_g g_ratio_of hr (by decide) (by rfl) (pa_cons (pv 1) pa_nil))) (pss_cons (ps_if (pt_cmp (pc_isN (pv 2))) pss_never pss_nil) (pss_one (ps_ret (pe_cmpR op_lt (pe_op op_mulW (pe_fld (pv 0) rfl) (pe_fld (pv 2) rfl)) (pe_op op_mulW (pe_fld (pv 2) rfl) (pe_fld (pv 0) rfl)) (nomark _))))))

/-! Ratio.__le__ -/
abbrev N_Ratiox_lex : List Str := ["self", "other", "value"]
theorem N_Ratiox_lex_nd : (N_Ratiox_lex).Nodup := by decide +kernel
theorem sc_Ratiox_lex : FnScope N_Ratiox_lex ["self", "other"] (defScope (cdef 29 3)) := ⟨rfl, rfl, rfl, N_Ratiox_lex_nd, rfl, by decide +kernel, by decide +kernel⟩
abbrev t_Ratiox_lex (K : PySem.W.Frag) (s_ratio_of : Sp) : TS := (tSeq (tAsg (tCl s_ratio_of (tCons (tVar 1) tNil)) (gName 2)) (tSeq (tIfS (tB (tIsN (tVar 2))) tNever tNext) (tRet (tOp qLe (tOp qMul (tFld K (tVar 0) "over") (tFld K (tVar 2) "under")) (tOp qMul (tFld K (tVar 2) "over") (tFld K (tVar 0) "under"))))))
theorem rd_Ratiox_lex {P : Program} {w : World} {K : PySem.W.Frag} {mg : Str → Option Value} {base : Heap} {s_ratio_of : Sp} (B : Bi mg) (g_ratio_of : GF P w K mg base 5 "ratio_of" s_ratio_of) {f : Addr} {cdv : Value} {A : Around} {outer : List Env} {s : Shared} {H : Hp} {E : XK} (hr : Room 5 (A.deeper (envOfC "Ratio.__le__" (defScope (cdef 29 3)) s.heap.objs.size f cdv))) : PSs (cxOf CX0 P w K mg base N_Ratiox_lex "Ratio.__le__" (defScope (cdef 29 3)) f cdv A outer s H E) (defBody (cdef 29 3)) (t_Ratiox_lex K s_ratio_of) := by
  exact PSs.nox (pss_cons (ps_set (i := 2) N_Ratiox_lex_nd rfl (by first | exact Or.inl rfl | exact Or.inr rfl) (pe_g g_ratio_of hr (by decide) (by rfl) (pa_cons (pv 1) pa_nil))) (pss_cons (ps_if (pt_cmp (pc_isN (pv 2))) pss_never pss_nil) (pss_one (ps_ret (pe_cmpR op_le (pe_op op_mulW (pe_fld (pv 0) rfl) (pe_fld (pv 2) rfl)) (pe_op op_mulW (pe_fld (pv 2) rfl) (pe_fld (pv 0) rfl)) (nomark _))))))

/-! Ratio.__gt__ -/
abbrev N_Ratiox_gtx : List Str := ["self", "other", "value"]
theorem N_Ratiox_gtx_nd : (N_Ratiox_gtx).Nodup := by decide +kernel
theorem sc_Ratiox_gtx : FnScope N_Ratiox_gtx ["self", "other"] (defScope (cdef 29 4)) := ⟨rfl, rfl, rfl, N_Ratiox_gtx_nd, rfl, by decide +kernel, by decide +kernel⟩
abbrev t_Ratiox_gtx (K : PySem.W.Frag) (s_ratio_of : Sp) : TS := (tSeq (tAsg (tCl s_ratio_of (tCons (tVar 1) tNil)) (gName 2)) (tSeq (tIfS (tB (tIsN (tVar 2))) tNever tNext) (tRet (tOp qGt (tOp qMul (tFld K (tVar 0) "over") (tFld K (tVar 2) "under")) (tOp qMul (tFld K (tVar 2) "over") (tFld K (tVar 0) "under"))))))
theorem rd_Ratiox_gtx {P : Program} {w : World} {K : PySem.W.Frag} {mg : Str → Option Value} {base : Heap} {s_ratio_of : Sp} (B : Bi mg) (g_ratio_of : GF P w K mg base 5 "ratio_of" s_ratio_of) {f : Addr} {cdv : Value} {A : Around} {outer : List Env} {s : Shared} {H : Hp} {E : XK} (hr : Room 5 (A.deeper (envOfC "Ratio.__gt__" (defScope (cdef 29 4)) s.heap.objs.size f cdv))) : PSs (cxOf CX0 P w K mg base N_Ratiox_gtx "Ratio.__gt__" (defScope (cdef 29 4)) f cdv A outer s H E) (defBody (cdef 29 4)) (t_Ratiox_gtx K s_ratio_of) := by
  exact PSs.nox (pss_cons (ps_set (i := 2) N_Ratiox_gtx_nd rfl (by first | exact Or.inl rfl | exact Or.inr rfl) (pe_g g_ratio_of hr (by decide) (by rfl) (pa_cons (pv 1) pa_nil))) (pss_cons (ps_if (pt_cmp (pc_isN (pv 2))) pss_never pss_nil) (pss_one (ps_ret (pe_cmpR op_gt (pe_op op_mulW (pe_fld (pv 0) rfl) (pe_fld (pv 2) rfl)) (pe_op op_mulW (pe_fld (pv 2) rfl) (pe_fld (pv 0) rfl)) (nomark _))))))

/-! Ratio.__ge__ -/
abbrev N_Ratiox_gex : List Str := ["self", "other", "value"]
theorem N_Ratiox_gex_nd : (N_Ratiox_gex).Nodup := by decide +kernel
theorem sc_Ratiox_gex : FnScope N_Ratiox_gex ["self", "other"] (defScope (cdef 29 5)) := ⟨rfl, rfl, rfl, N_Ratiox_gex_nd, rfl, by decide +kernel, by decide +kernel⟩
abbrev t_Ratiox_gex (K : PySem.W.Frag) (s_ratio_of : Sp) : TS := (tSeq (tAsg (tCl s_ratio_of (tCons (tVar 1) tNil)) (gName 2)) (tSeq (tIfS (tB (tIsN (tVar 2))) tNever tNext) (tRet (tOp qGe (tOp qMul (tFld K (tVar 0) "over") (tFld K (tVar 2) "under")) (tOp qMul (tFld K (tVar 2) "over") (tFld K (tVar 0) "under"))))))
theorem rd_Ratiox_gex {P : Program} {w : World} {K : PySem.W.Frag} {mg : Str → Option Value} {base : Heap} {s_ratio_of : Sp} (B : Bi mg) (g_ratio_of : GF P w K mg base 5 "ratio_of" s_ratio_of) {f : Addr} {cdv : Value} {A : Around} {outer : List Env} {s : Shared} {H : Hp} {E : XK} (hr : Room 5 (A.deeper (envOfC "Ratio.__ge__" (defScope (cdef 29 5)) s.heap.objs.size f cdv))) : PSs (cxOf CX0 P w K mg base N_Ratiox_gex "Ratio.__ge__" (defScope (cdef 29 5)) f cdv A outer s H E) (defBody (cdef 29 5)) (t_Ratiox_gex K s_ratio_of) := by
  exact PSs.nox (pss_cons (ps_set (i := 2) N_Ratiox_gex_nd rfl (by first | exact Or.inl rfl | exact Or.inr rfl) (pe_g g_ratio_of hr (by decide) (by rfl) (pa_cons (pv 1) pa_nil))) (pss_cons (ps_if (pt_cmp (pc_isN (pv 2))) pss_never pss_nil) (pss_one (ps_ret (pe_cmpR op_ge (pe_op op_mulW (pe_fld (pv 0) rfl) (pe_fld (pv 2) rfl)) (pe_op op_mulW (pe_fld (pv 2) rfl) (pe_fld (pv 0) rfl)) (nomark _))))))

/-! Ratio.__add__ -/
abbrev N_Ratiox_addx : List Str := ["self", "other", "value"]
theorem N_Ratiox_addx_nd : (N_Ratiox_addx).Nodup := by decide +kernel
theorem sc_Ratiox_addx : FnScope N_Ratiox_addx ["self", "other"] (defScope (cdef 29 6)) := ⟨rfl, rfl, rfl, N_Ratiox_addx_nd, rfl, by decide +kernel, by decide +kernel⟩
abbrev t_Ratiox_addx (K : PySem.W.Frag) (s_ratio_of s_Ratiox_initx : Sp) : TS := (tSeq (tAsg (tCl s_ratio_of (tCons (tVar 1) tNil)) (gName 2)) (tSeq (tIfS (tB (tIsN (tVar 2))) tNever tNext) (tRet (tCl s_Ratiox_initx (tCons (tOp qAdd (tOp qMul (tFld K (tVar 0) "over") (tFld K (tVar 2) "under")) (tOp qMul (tFld K (tVar 2) "over") (tFld K (tVar 0) "under"))) (tCons (tOp qMul (tFld K (tVar 0) "under") (tFld K (tVar 2) "under")) tNil))))))
theorem rd_Ratiox_addx {P : Program} {w : World} {K : PySem.W.Frag} {mg : Str → Option Value} {base : Heap} {s_ratio_of s_Ratiox_initx : Sp} (B : Bi mg) (g_ratio_of : GF P w K mg base 5 "ratio_of" s_ratio_of) (m_Ratio : MF P w K mg base 3 "Ratio" s_Ratiox_initx) {f : Addr} {cdv : Value} {A : Around} {outer : List Env} {s : Shared} {H : Hp} {E : XK} (hr : Room 5 (A.deeper (envOfC "Ratio.__add__" (defScope (cdef 29 6)) s.heap.objs.size f cdv))) : PSs (cxOf CX0 P w K mg base N_Ratiox_addx "Ratio.__add__" (defScope (cdef 29 6)) f cdv A outer s H E) (defBody (cdef 29 6)) (t_Ratiox_addx K s_ratio_of s_Ratiox_initx) := by
  exact PSs.nox (pss_cons (ps_set (i := 2) N_Ratiox_addx_nd rfl (by first | exact Or.inl rfl | exact Or.inr rfl) (pe_g g_ratio_of hr (by decide) (by rfl) (pa_cons (pv 1) pa_nil))) (pss_cons (ps_if (pt_cmp (pc_isN (pv 2))) pss_never pss_nil) (pss_one (ps_ret (pe_mk m_Ratio hr (by decide) (by rfl) (pa_cons (pe_op op_add (pe_op op_mulW (pe_fld (pv 0) rfl) (pe_fld (pv 2) rfl)) (pe_op op_mulW (pe_fld (pv 2) rfl) (pe_fld (pv 0) rfl))) (pa_cons (pe_op op_mulW (pe_fld (pv 0) rfl) (pe_fld (pv 2) rfl)) pa_nil)))))))

/-! Ratio.__sub__ -/
abbrev N_Ratiox_subx : List Str := ["self", "other", "value"]
theorem N_Ratiox_subx_nd : (N_Ratiox_subx).Nodup := by decide +kernel
theorem sc_Ratiox_subx : FnScope N_Ratiox_subx ["self", "other"] (defScope (cdef 29 8)) := ⟨rfl, rfl, rfl, N_Ratiox_subx_nd, rfl, by decide +kernel, by decide +kernel⟩
abbrev t_Ratiox_subx (K : PySem.W.Frag) (s_ratio_of s_Ratiox_initx : Sp) : TS := (tSeq (tAsg (tCl s_ratio_of (tCons (tVar 1) tNil)) (gName 2)) (tSeq (tIfS (tB (tIsN (tVar 2))) tNever tNext) (tRet (tCl s_Ratiox_initx (tCons (tOp qSub (tOp qMul (tFld K (tVar 0) "over") (tFld K (tVar 2) "under")) (tOp qMul (tFld K (tVar 2) "over") (tFld K (tVar 0) "under"))) (tCons (tOp qMul (tFld K (tVar 0) "under") (tFld K (tVar 2) "under")) tNil))))))
theorem rd_Ratiox_subx {P : Program} {w : World} {K : PySem.W.Frag} {mg : Str → Option Value} {base : Heap} {s_ratio_of s_Ratiox_initx : Sp} (B : Bi mg) (g_ratio_of : GF P w K mg base 5 "ratio_of" s_ratio_of) (m_Ratio : MF P w K mg base 3 "Ratio" s_Ratiox_initx) {f : Addr} {cdv : Value} {A : Around} {outer : List Env} {s : Shared} {H : Hp} {E : XK} (hr : Room 5 (A.deeper (envOfC "Ratio.__sub__" (defScope (cdef 29 8)) s.heap.objs.size f cdv))) : PSs (cxOf CX0 P w K mg base N_Ratiox_subx "Ratio.__sub__" (defScope (cdef 29 8)) f cdv A outer s H E) (defBody (cdef 29 8)) (t_Ratiox_subx K s_ratio_of s_Ratiox_initx) := by
  exact PSs.nox (pss_cons (ps_set (i := 2) N_Ratiox_subx_nd rfl (by first | exact Or.inl rfl | exact Or.inr rfl) (pe_g g_ratio_of hr (by decide) (by rfl) (pa_cons (pv 1) pa_nil))) (pss_cons (ps_if (pt_cmp (pc_isN (pv 2))) pss_never pss_nil) (pss_one (ps_ret (pe_mk m_Ratio hr (by decide) (by rfl) (pa_cons (pe_op op_sub (pe_op op_mulW (pe_fld (pv 0) rfl) (pe_fld (pv 2) rfl)) (pe_op op_mulW (pe_fld (pv 2) rfl) (pe_fld (pv 0) rfl))) (pa_cons (pe_op op_mulW (pe_fld (pv 0) rfl) (pe_fld (pv 2) rfl)) pa_nil)))))))

/-! Ratio.__rsub__ -/
abbrev N_Ratiox_rsubx : List Str := ["self", "other", "value"]
theorem N_Ratiox_rsubx_nd : (N_Ratiox_rsubx).Nodup := by decide +kernel
theorem sc_Ratiox_rsubx : FnScope N_Ratiox_rsubx ["self", "other"] (defScope (cdef 29 9)) := ⟨rfl, rfl, rfl, N_Ratiox_rsubx_nd, rfl, by decide +kernel, by decide +kernel⟩
abbrev t_Ratiox_rsubx (K : PySem.W.Frag) (aRatio : Addr) (s_ratio_of s_Ratiox_subx : Sp) : TS := (tSeq (tAsg (tCl s_ratio_of (tCons (tVar 1) tNil)) (gName 2)) (tSeq (tIfS (tB (tIsN (tVar 2))) tNever tNext) (tRet (tOp (rOw aRatio s_Ratiox_subx) (tVar 2) (tVar 0)))))
theorem rd_Ratiox_rsubx {P : Program} {w : World} {K : PySem.W.Frag} {mg : Str → Option Value} {base : Heap} {aRatio : Addr} {s_ratio_of s_Ratiox_subx : Sp} (B : Bi mg) (g_ratio_of : GF P w K mg base 5 "ratio_of" s_ratio_of) (o_Ratiox_subx : OpF P w K mg base 6 aRatio "__sub__" s_Ratiox_subx) {f : Addr} {cdv : Value} {A : Around} {outer : List Env} {s : Shared} {H : Hp} {E : XK} (hr : Room 6 (A.deeper (envOfC "Ratio.__rsub__" (defScope (cdef 29 9)) s.heap.objs.size f cdv))) : PSs (cxOf CX0 P w K mg base N_Ratiox_rsubx "Ratio.__rsub__" (defScope (cdef 29 9)) f cdv A outer s H E) (defBody (cdef 29 9)) (t_Ratiox_rsubx K aRatio s_ratio_of s_Ratiox_subx) := by
  exact PSs.nox (pss_cons (ps_set (i := 2) N_Ratiox_rsubx_nd rfl (by first | exact Or.inl rfl | exact Or.inr rfl) (pe_g g_ratio_of hr (by decide) (by rfl) (pa_cons (pv 1) pa_nil))) (pss_cons (ps_if (pt_cmp (pc_isN (pv 2))) pss_never pss_nil) (pss_one (ps_ret (pe_op (op_own o_Ratiox_subx hr (by decide)) (pv 2) (pv 0))))))

/-! Ratio.__mul__ -/
abbrev N_Ratiox_mulx : List Str := ["self", "other", "value"]
theorem N_Ratiox_mulx_nd : (N_Ratiox_mulx).Nodup := by decide +kernel
theorem sc_Ratiox_mulx : FnScope N_Ratiox_mulx ["self", "other"] (defScope (cdef 29 10)) := ⟨rfl, rfl, rfl, N_Ratiox_mulx_nd, rfl, by decide +kernel, by decide +kernel⟩
abbrev t_Ratiox_mulx (K : PySem.W.Frag) (s_ratio_of s_Ratiox_initx : Sp) : TS := (tSeq (tAsg (tCl s_ratio_of (tCons (tVar 1) tNil)) (gName 2)) (tSeq (tIfS (tB (tIsN (tVar 2))) tNever tNext) (tRet (tCl s_Ratiox_initx (tCons (tOp qMul (tFld K (tVar 0) "over") (tFld K (tVar 2) "over")) (tCons (tOp qMul (tFld K (tVar 0) "under") (tFld K (tVar 2) "under")) tNil))))))
theorem rd_Ratiox_mulx {P : Program} {w : World} {K : PySem.W.Frag} {mg : Str → Option Value} {base : Heap} {s_ratio_of s_Ratiox_initx : Sp} (B : Bi mg) (g_ratio_of : GF P w K mg base 5 "ratio_of" s_ratio_of) (m_Ratio : MF P w K mg base 3 "Ratio" s_Ratiox_initx) {f : Addr} {cdv : Value} {A : Around} {outer : List Env} {s : Shared} {H : Hp} {E : XK} (hr : Room 5 (A.deeper (envOfC "Ratio.__mul__" (defScope (cdef 29 10)) s.heap.objs.size f cdv))) : PSs (cxOf CX0 P w K mg base N_Ratiox_mulx "Ratio.__mul__" (defScope (cdef 29 10)) f cdv A outer s H E) (defBody (cdef 29 10)) (t_Ratiox_mulx K s_ratio_of s_Ratiox_initx) := by
  exact PSs.nox (pss_cons (ps_set (i := 2) N_Ratiox_mulx_nd rfl (by first | exact Or.inl rfl | exact Or.inr rfl) (pe_g g_ratio_of hr (by decide) (by rfl) (pa_cons (pv 1) pa_nil))) (pss_cons (ps_if (pt_cmp (pc_isN (pv 2))) pss_never pss_nil) (pss_one (ps_ret (pe_mk m_Ratio hr (by decide) (by rfl) (pa_cons (pe_op op_mulW (pe_fld (pv 0) rfl) (pe_fld (pv 2) rfl)) (pa_cons (pe_op op_mulW (pe_fld (pv 0) rfl) (pe_fld (pv 2) rfl)) pa_nil)))))))

/-! Ratio.half -/
abbrev N_Ratio_half : List Str := []
theorem N_Ratio_half_nd : (N_Ratio_half).Nodup := by decide +kernel
theorem sc_Ratio_half : FnScope N_Ratio_half [] (defScope (cdef 29 14)) := ⟨rfl, rfl, rfl, N_Ratio_half_nd, rfl, by decide +kernel, by decide +kernel⟩
abbrev t_Ratio_half (K : PySem.W.Frag) (s_Ratiox_initx : Sp) : TS := (tRet (tCl s_Ratiox_initx (tCons (tC (.int 1)) (tCons (tC (.int 2)) tNil))))
theorem rd_Ratio_half {P : Program} {w : World} {K : PySem.W.Frag} {mg : Str → Option Value} {base : Heap} {s_Ratiox_initx : Sp} (B : Bi mg) (m_Ratio : MF P w K mg base 3 "Ratio" s_Ratiox_initx) {f : Addr} {cdv : Value} {A : Around} {outer : List Env} {s : Shared} {H : Hp} {E : XK} (hr : Room 4 (A.deeper (envOfC "Ratio.half" (defScope (cdef 29 14)) s.heap.objs.size f cdv))) : PSs (cxOf CX0 P w K mg base N_Ratio_half "Ratio.half" (defScope (cdef 29 14)) f cdv A outer s H E) (defBody (cdef 29 14)) (t_Ratio_half K s_Ratiox_initx) := by
  exact PSs.nox (pss_one (ps_ret (pe_mk m_Ratio hr (by decide) (by rfl) (pa_cons pe_int (pa_cons pe_int pa_nil)))))

/-! total -/
abbrev N_total : List Str := ["values", "found", "value"]
theorem N_total_nd : (N_total).Nodup := by decide +kernel
theorem sc_total : FnScope N_total ["values"] (defScope (top 30)) := ⟨rfl, rfl, rfl, N_total_nd, rfl, by decide +kernel, by decide +kernel⟩
abbrev t_total (K : PySem.W.Frag) (aRatio : Addr) (s_Ratiox_initx s_Ratiox_addx : Sp) : TS := (tSeq (tAsg (tCl s_Ratiox_initx (tCons (tC (.int 0)) tNil)) (gName 1)) (tSeq (tFor (iList K (tVar 0)) (gName 2) (tAsg (tOp (rOw aRatio s_Ratiox_addx) (tVar 1) (tVar 2)) (gName 1))) (tRet (tVar 1))))
theorem rd_total {P : Program} {w : World} {K : PySem.W.Frag} {mg : Str → Option Value} {base : Heap} {aRatio : Addr} {s_Ratiox_initx s_Ratiox_addx : Sp} (B : Bi mg) (m_Ratio : MF P w K mg base 3 "Ratio" s_Ratiox_initx) (o_Ratiox_addx : OpF P w K mg base 6 aRatio "__add__" s_Ratiox_addx) {f : Addr} {cdv : Value} {A : Around} {outer : List Env} {s : Shared} {H : Hp} {E : XK} (hr : Room 6 (A.deeper (envOfC "total" (defScope (top 30)) s.heap.objs.size f cdv))) : PSs (cxOf CX0 P w K mg base N_total "total" (defScope (top 30)) f cdv A outer s H E) (defBody (top 30)) (t_total K aRatio s_Ratiox_initx s_Ratiox_addx) := by
  exact PSs.nox (pss_cons (ps_set (i := 1) N_total_nd rfl (by first | exact Or.inl rfl | exact Or.inr rfl) (pe_mk m_Ratio hr (by decide) (by rfl) (pa_cons pe_int pa_nil))) (pss_cons (ps_for PassesOwn.never rfl (pi_list (pv 0)) (pg_name (i := 2) N_total_nd rfl (by first | exact Or.inl rfl | exact Or.inr rfl)) (pss_one (ps_set (i := 1) N_total_nd rfl (by first | exact Or.inl rfl | exact Or.inr rfl) (pe_op (op_own o_Ratiox_addx hr (by decide)) (pv 1) (pv 2))))) (pss_one (ps_ret (pv 1)))))

/-! check_chance -/
abbrev N_check_chance : List Str := ["value"]
theorem N_check_chance_nd : (N_check_chance).Nodup := by decide +kernel
theorem sc_check_chance : FnScope N_check_chance ["value"] (defScope (top 33)) := ⟨rfl, rfl, rfl, N_check_chance_nd, rfl, by decide +kernel, by decide +kernel⟩
abbrev t_check_chance (K : PySem.W.Frag) (aRatio : Addr) (s_Ratio_half s_Ratiox_ltx s_Ratiox_gex : Sp) : TS := (tSeq (tIfS (tOr (tNot (tB (tCB (rIsi K) (tCons (tVar 0) (tCons (tC (.ref aRatio)) tNil))))) (tOr (tTest (tOp (rOw aRatio s_Ratiox_ltx) (tVar 0) (tCl s_Ratio_half tNil))) (tOr (tTest (tOp (rOwI aRatio s_Ratiox_gex) (tVar 0) (tC (.int 1)))) (tTest (tOp qGt (tFld K (tVar 0) "under") (tC (.int 1000))))))) tNever tNext) (tRet (tVar 0)))
theorem rd_check_chance {P : Program} {w : World} {K : PySem.W.Frag} {mg : Str → Option Value} {base : Heap} {aRatio : Addr} {s_Ratio_half s_Ratiox_ltx s_Ratiox_gex : Sp} (B : Bi mg) (n_Ratio : mg "Ratio" = some (.ref aRatio)) (u_Ratio_half : UF P w K mg base 5 aRatio "half" s_Ratio_half) (o_Ratiox_ltx : OpF P w K mg base 6 aRatio "__lt__" s_Ratiox_ltx) (o_Ratiox_gex : OpF P w K mg base 6 aRatio "__ge__" s_Ratiox_gex) (hnotI : PySem.W.notFirst K aRatio (.type "int") = true) (c_MOST_UNDER : ∃ t, mg "MOST_UNDER" = some (.int 1000 t)) {f : Addr} {cdv : Value} {A : Around} {outer : List Env} {s : Shared} {H : Hp} {E : XK} (hr : Room 6 (A.deeper (envOfC "check_chance" (defScope (top 33)) s.heap.objs.size f cdv))) : PSs (cxOf CX0 P w K mg base N_check_chance "check_chance" (defScope (top 33)) f cdv A outer s H E) (defBody (top 33)) (t_check_chance K aRatio s_Ratio_half s_Ratiox_ltx s_Ratiox_gex) := by
  exact PSs.nox (pss_cons (ps_if (PW.pt (pw_or (pt_not (pt_val (pe_callB call_isi (by rfl) B.isinstance bb_isinstance (pa_cons (pv 0) (pa_cons (pe_glob (by rfl) n_Ratio rfl) pa_nil))))) (pw_or (pt_cmpR (cmp_own o_Ratiox_ltx hr (by decide)) (pv 0) (pe_u0 u_Ratio_half (by rfl) n_Ratio hr (by decide)) (nomark _)) (pw_or (pt_cmpR (cmp_ownI o_Ratiox_gex hr (by decide) hnotI) (pv 0) pe_int (nomark _)) (pw_or1 (pt_cmpR op_gt (pe_fld (pv 0) rfl) (pe_glob (by rfl) c_MOST_UNDER.choose_spec ⟨_, rfl⟩) (nomark _))))))) pss_never pss_nil) (pss_one (ps_ret (pv 0))))

/-! Chances.__init__ -/
abbrev N_Chancesx_initx : List Str := ["self", "chances", "chance"]
theorem N_Chancesx_initx_nd : (N_Chancesx_initx).Nodup := by decide +kernel
theorem sc_Chancesx_initx : FnScope N_Chancesx_initx ["self", "chances"] (defScope (cdef 34 0)) := ⟨rfl, rfl, rfl, N_Chancesx_initx_nd, rfl, by decide +kernel, by decide +kernel⟩
abbrev t_Chancesx_initx (K : PySem.W.Frag) (s_check_number s_check_chance : Sp) : TS := (tSeq (tDrop (tCl s_check_number (tCons (tC (.str "copies")) (tCons (tCB (rLenS K) (tCons (tVar 1) tNil)) (tCons (tC (.int 1)) (tCons (tC (.int 8)) tNil)))))) (sFld K (tVar 0) (tThen (tLc (iTup K (tVar 1)) (gName 2) tYes (tCl s_check_chance (tCons (tVar 2) tNil)) [2]) (kTup K)) "ratios"))
theorem rd_Chancesx_initx {P : Program} {w : World} {K : PySem.W.Frag} {mg : Str → Option Value} {base : Heap} {s_check_number s_check_chance : Sp} (B : Bi mg) (g_check_number : GF P w K mg base 2 "check_number" s_check_number) (c_MOST_COPIES : ∃ t, mg "MOST_COPIES" = some (.int 8 t)) (g_check_chance : GF P w K mg base 7 "check_chance" s_check_chance) {f : Addr} {cdv : Value} {A : Around} {outer : List Env} {s : Shared} {H : Hp} {E : XK} (hr : Room 7 (A.deeper (envOfC "Chances.__init__" (defScope (cdef 34 0)) s.heap.objs.size f cdv))) : PSs (cxOf CX0 P w K mg base N_Chancesx_initx "Chances.__init__" (defScope (cdef 34 0)) f cdv A outer s H E) (defBody (cdef 34 0)) (t_Chancesx_initx K s_check_number s_check_chance) := by
  exact PSs.nox (pss_cons (ps_expr (pe_g g_check_number hr (by decide) (by rfl) (pa_cons pe_str (pa_cons (pe_callB call_len_seq (by rfl) B.len bb_len (pa_cons (pv 1) pa_nil)) (pa_cons pe_int (pa_cons (pe_glob (by rfl) c_MOST_COPIES.choose_spec ⟨_, rfl⟩) pa_nil)))))) (pss_one (ps_fld (pv 0) (pe_tupleOf (by rfl) B.tuple (pe_lc (own := [("chance", 2)]) (g := (gName 2)) (tt := tYes) (te := (tCl s_check_chance (tCons (tVar 2) tNil))) rfl N_Chancesx_initx_nd (pi_tup (pv 1)) (blkOk_by (by kernel_rfl)) (fun _ _ _ _ _ => (pg_name (i := 2) N_Chancesx_initx_nd rfl (by first | exact Or.inl rfl | exact Or.inr rfl))) (fun _ _ _ _ _ => pts_nil) (fun _ _ _ _ _ => (pe_g g_check_chance hr (by decide) (by rfl) (pa_cons (pv 2) pa_nil))))) rfl)))

/-! Chances.__len__ -/
abbrev N_Chancesx_lenx : List Str := ["self"]
theorem N_Chancesx_lenx_nd : (N_Chancesx_lenx).Nodup := by decide +kernel
theorem sc_Chancesx_lenx : FnScope N_Chancesx_lenx ["self"] (defScope (cdef 34 3)) := ⟨rfl, rfl, rfl, N_Chancesx_lenx_nd, rfl, by decide +kernel, by decide +kernel⟩
abbrev t_Chancesx_lenx (K : PySem.W.Frag) : TS := (tRet (tCB (rLenS K) (tCons (tFld K (tVar 0) "ratios") tNil)))
theorem rd_Chancesx_lenx {P : Program} {w : World} {K : PySem.W.Frag} {mg : Str → Option Value} {base : Heap} (B : Bi mg)  {f : Addr} {cdv : Value} {A : Around} {outer : List Env} {s : Shared} {H : Hp} {E : XK} (hr : Room 0 (A.deeper (envOfC "Chances.__len__" (defScope (cdef 34 3)) s.heap.objs.size f cdv))) : PSs (cxOf CX0 P w K mg base N_Chancesx_lenx "Chances.__len__" (defScope (cdef 34 3)) f cdv A outer s H E) (defBody (cdef 34 3)) (t_Chancesx_lenx K ) := by
  exact PSs.nox (pss_one (ps_ret (pe_callB call_len_seq (by rfl) B.len bb_len (pa_cons (pe_fld (pv 0) rfl) pa_nil))))

/-! Chances.__add__ -/
abbrev N_Chancesx_addx : List Str := ["self", "other", "ratios"]
theorem N_Chancesx_addx_nd : (N_Chancesx_addx).Nodup := by decide +kernel
theorem sc_Chancesx_addx : FnScope N_Chancesx_addx ["self", "other"] (defScope (cdef 34 5)) := ⟨rfl, rfl, rfl, N_Chancesx_addx_nd, rfl, by decide +kernel, by decide +kernel⟩
abbrev t_Chancesx_addx (K : PySem.W.Frag) (aChances : Addr) (s_Chancesx_initx : Sp) : TS := (tSeq (tIfS (tNot (tB (tCB (rIsi K) (tCons (tVar 1) (tCons (tC (.ref aChances)) tNil))))) tNever tNext) (tSeq (tAsg (tOp (rCatA K) (tFld K (tVar 0) "ratios") (tFld K (tVar 1) "ratios")) (gName 2)) (tRet (tCl1 K s_Chancesx_initx (tVar 2)))))
theorem rd_Chancesx_addx {P : Program} {w : World} {K : PySem.W.Frag} {mg : Str → Option Value} {base : Heap} {aChances : Addr} {s_Chancesx_initx : Sp} (B : Bi mg) (n_Chances : mg "Chances" = some (.ref aChances)) (m_Chances : MF P w K mg base 8 "Chances" s_Chancesx_initx) {f : Addr} {cdv : Value} {A : Around} {outer : List Env} {s : Shared} {H : Hp} {E : XK} (hr : Room 9 (A.deeper (envOfC "Chances.__add__" (defScope (cdef 34 5)) s.heap.objs.size f cdv))) : PSs (cxOf CX0 P w K mg base N_Chancesx_addx "Chances.__add__" (defScope (cdef 34 5)) f cdv A outer s H E) (defBody (cdef 34 5)) (t_Chancesx_addx K aChances s_Chancesx_initx) := by
  exact PSs.nox (pss_cons (ps_if (pt_not (pt_val (pe_callB call_isi (by rfl) B.isinstance bb_isinstance (pa_cons (pv 1) (pa_cons (pe_glob (by rfl) n_Chances rfl) pa_nil))))) pss_never pss_nil) (pss_cons (ps_set (i := 2) N_Chancesx_addx_nd rfl (by first | exact Or.inl rfl | exact Or.inr rfl) (pe_op op_catA (pe_fld (pv 0) rfl) (pe_fld (pv 1) rfl))) (pss_one (ps_ret (pe_mkS1 m_Chances hr (by decide) (by rfl) (pv 2))))))

/-! Chances.chance_of -/
abbrev N_Chances_chance_of : List Str := ["self", "lot", "over", "under", "copy", "ratio"]
theorem N_Chances_chance_of_nd : (N_Chances_chance_of).Nodup := by decide +kernel
theorem sc_Chances_chance_of : FnScope N_Chances_chance_of ["self", "lot"] (defScope (cdef 34 7)) := ⟨rfl, rfl, rfl, N_Chances_chance_of_nd, rfl, by decide +kernel, by decide +kernel⟩
abbrev t_Chances_chance_of (K : PySem.W.Frag) (s_Ratiox_initx : Sp) : TS := (tSeq (tAsg (tC (.int 1)) (gName 2)) (tSeq (tAsg (tC (.int 1)) (gName 3)) (tSeq (tFor (iEnumT K (tCons (tFld K (tVar 0) "ratios") tNil)) (gTup K 2 (gCons (gName 4) (gCons (gName 5) gNil))) (tSeq (tAug 2 (tIf (tTest (tOp (rIn K false) (tVar 4) (tVar 1))) (tFld K (tVar 5) "over") (tOp qSub (tFld K (tVar 5) "under") (tFld K (tVar 5) "over"))) qMul) (tAug 3 (tFld K (tVar 5) "under") qMul))) (tRet (tCl s_Ratiox_initx (tCons (tVar 2) (tCons (tVar 3) tNil)))))))
theorem rd_Chances_chance_of {P : Program} {w : World} {K : PySem.W.Frag} {mg : Str → Option Value} {base : Heap} {s_Ratiox_initx : Sp} (B : Bi mg) (m_Ratio : MF P w K mg base 3 "Ratio" s_Ratiox_initx) {f : Addr} {cdv : Value} {A : Around} {outer : List Env} {s : Shared} {H : Hp} {E : XK} (hr : Room 4 (A.deeper (envOfC "Chances.chance_of" (defScope (cdef 34 7)) s.heap.objs.size f cdv))) : PSs (cxOf CX0 P w K mg base N_Chances_chance_of "Chances.chance_of" (defScope (cdef 34 7)) f cdv A outer s H E) (defBody (cdef 34 7)) (t_Chances_chance_of K s_Ratiox_initx) := by
  exact PSs.nox (pss_cons (ps_set (i := 2) N_Chances_chance_of_nd rfl (by first | exact Or.inl rfl | exact Or.inr rfl) pe_int) (pss_cons (ps_set (i := 3) N_Chances_chance_of_nd rfl (by first | exact Or.inl rfl | exact Or.inr rfl) pe_int) (pss_cons (ps_for PassesOwn.never rfl (pi_enumT (by rfl) B.enumerate (pa_cons (pe_fld (pv 0) rfl) pa_nil)) (pg_tup rfl (pgs_cons (pg_name (i := 4) N_Chances_chance_of_nd rfl (by first | exact Or.inl rfl | exact Or.inr rfl)) (pgs_cons (pg_name (i := 5) N_Chances_chance_of_nd rfl (by first | exact Or.inl rfl | exact Or.inr rfl)) pgs_nil))) (pss_cons (ps_aug (i := 2) N_Chances_chance_of_nd rfl (by first | exact Or.inl rfl | exact Or.inr rfl) (pe_ifExp (pt_cmpR op_in_seq (pv 4) (pv 1) (by rfl)) (pe_fld (pv 5) rfl) (pe_op op_sub (pe_fld (pv 5) rfl) (pe_fld (pv 5) rfl))) (pip_of iop_mulW)) (pss_one (ps_aug (i := 3) N_Chances_chance_of_nd rfl (by first | exact Or.inl rfl | exact Or.inr rfl) (pe_fld (pv 5) rfl) (pip_of iop_mulW))))) (pss_one (ps_ret (pe_mk m_Ratio hr (by decide) (by rfl) (pa_cons (pv 2) (pa_cons (pv 3) pa_nil))))))))

/-! check_share -/
abbrev N_check_share : List Str := ["share"]
theorem N_check_share_nd : (N_check_share).Nodup := by decide +kernel
theorem sc_check_share : FnScope N_check_share ["share"] (defScope (top 36)) := ⟨rfl, rfl, rfl, N_check_share_nd, rfl, by decide +kernel, by decide +kernel⟩
abbrev t_check_share (K : PySem.W.Frag) (aRatio : Addr) (s_Ratiox_ltx s_Ratiox_gtx : Sp) : TS := (tSeq (tIfS (tOr (tNot (tB (tCB (rIsi K) (tCons (tVar 0) (tCons (tC (.ref aRatio)) tNil))))) (tOr (tTest (tOp (rOwI aRatio s_Ratiox_ltx) (tVar 0) (tC (.int 0)))) (tOr (tTest (tOp (rOwI aRatio s_Ratiox_gtx) (tVar 0) (tC (.int 1)))) (tTest (tOp qGt (tFld K (tVar 0) "under") (tC (.int 1000))))))) tNever tNext) (tRet (tVar 0)))
theorem rd_check_share {P : Program} {w : World} {K : PySem.W.Frag} {mg : Str → Option Value} {base : Heap} {aRatio : Addr} {s_Ratiox_ltx s_Ratiox_gtx : Sp} (B : Bi mg) (n_Ratio : mg "Ratio" = some (.ref aRatio)) (o_Ratiox_ltx : OpF P w K mg base 6 aRatio "__lt__" s_Ratiox_ltx) (hnotI : PySem.W.notFirst K aRatio (.type "int") = true) (o_Ratiox_gtx : OpF P w K mg base 6 aRatio "__gt__" s_Ratiox_gtx) (c_MOST_UNDER : ∃ t, mg "MOST_UNDER" = some (.int 1000 t)) {f : Addr} {cdv : Value} {A : Around} {outer : List Env} {s : Shared} {H : Hp} {E : XK} (hr : Room 6 (A.deeper (envOfC "check_share" (defScope (top 36)) s.heap.objs.size f cdv))) : PSs (cxOf CX0 P w K mg base N_check_share "check_share" (defScope (top 36)) f cdv A outer s H E) (defBody (top 36)) (t_check_share K aRatio s_Ratiox_ltx s_Ratiox_gtx) := by
  exact PSs.nox (pss_cons (ps_if (PW.pt (pw_or (pt_not (pt_val (pe_callB call_isi (by rfl) B.isinstance bb_isinstance (pa_cons (pv 0) (pa_cons (pe_glob (by rfl) n_Ratio rfl) pa_nil))))) (pw_or (pt_cmpR (cmp_ownI o_Ratiox_ltx hr (by decide) hnotI) (pv 0) pe_int (nomark _)) (pw_or (pt_cmpR (cmp_ownI o_Ratiox_gtx hr (by decide) hnotI) (pv 0) pe_int (nomark _)) (pw_or1 (pt_cmpR op_gt (pe_fld (pv 0) rfl) (pe_glob (by rfl) c_MOST_UNDER.choose_spec ⟨_, rfl⟩) (nomark _))))))) pss_never pss_nil) (pss_one (ps_ret (pv 0))))

/-! check_meeting -/
abbrev N_check_meeting : List Str := ["copies", "reads", "writes", "read", "write"]
theorem N_check_meeting_nd : (N_check_meeting).Nodup := by decide +kernel
theorem sc_check_meeting : FnScope N_check_meeting ["copies", "reads", "writes"] (defScope (top 37)) := ⟨rfl, rfl, rfl, N_check_meeting_nd, rfl, by decide +kernel, by decide +kernel⟩
abbrev t_check_meeting (K : PySem.W.Frag) (s_meet : Sp) : TS := (tSeq (tIfS (tOr (tTest (tOp rNe (tFld K (tVar 1) "copies") (tVar 0))) (tTest (tOp rNe (tFld K (tVar 2) "copies") (tVar 0)))) tNever tNext) (tFor (iTup K (tFld K (tVar 1) "lots")) (gName 3) (tFor (iTup K (tFld K (tVar 2) "lots")) (gName 4) (tIfS (tNot (tB (tCl s_meet (tCons (tVar 3) (tCons (tVar 4) tNil))))) tNever tNext))))
theorem rd_check_meeting {P : Program} {w : World} {K : PySem.W.Frag} {mg : Str → Option Value} {base : Heap} {s_meet : Sp} (B : Bi mg) (g_meet : GF P w K mg base 1 "meet" s_meet) {f : Addr} {cdv : Value} {A : Around} {outer : List Env} {s : Shared} {H : Hp} {E : XK} (hr : Room 1 (A.deeper (envOfC "check_meeting" (defScope (top 37)) s.heap.objs.size f cdv))) : PSs (cxOf CX0 P w K mg base N_check_meeting "check_meeting" (defScope (top 37)) f cdv A outer s H E) (defBody (top 37)) (t_check_meeting K s_meet) := by
  exact PSs.nox (pss_cons (ps_if (PW.pt (pw_or (pt_cmpR op_ne (pe_fld (pv 1) rfl) (pv 0) (nomark _)) (pw_or1 (pt_cmpR op_ne (pe_fld (pv 2) rfl) (pv 0) (nomark _))))) pss_never pss_nil) (pss_one (ps_for PassesOwn.never rfl (pi_tup (pe_fld (pv 1) rfl)) (pg_name (i := 3) N_check_meeting_nd rfl (by first | exact Or.inl rfl | exact Or.inr rfl)) (pss_one (ps_for PassesOwn.never rfl (pi_tup (pe_fld (pv 2) rfl)) (pg_name (i := 4) N_check_meeting_nd rfl (by first | exact Or.inl rfl | exact Or.inr rfl)) (pss_one (ps_if (pt_not (pt_val (pe_g g_meet hr (by decide) (by rfl) (pa_cons (pv 3) (pa_cons (pv 4) pa_nil))))) pss_never pss_nil)))))))

/-! worth -/
abbrev N_worth : List Str := ["chances", "share", "reads", "writes"]
theorem N_worth_nd : (N_worth).Nodup := by decide +kernel
theorem sc_worth : FnScope N_worth ["chances", "share", "reads", "writes"] (defScope (top 38)) := ⟨rfl, rfl, rfl, N_worth_nd, rfl, by decide +kernel, by decide +kernel⟩
abbrev t_worth (K : PySem.W.Frag) (aChances aRatio : Addr) (s_check_share s_check_meeting s_Chancesx_lenx s_Chances_up s_Ratiox_mulx s_Ratiox_rsubx s_Ratiox_addx : Sp) : TS := (tSeq (tDrop (tCl s_check_share (tCons (tVar 1) tNil))) (tSeq (tDrop (tCl s_check_meeting (tCons (tCB (rLenO aChances s_Chancesx_lenx) (tCons (tVar 0) tNil)) (tCons (tVar 2) (tCons (tVar 3) tNil))))) (tRet (tOp (rOw aRatio s_Ratiox_addx) (tOp (rOw aRatio s_Ratiox_mulx) (tVar 1) (tMt aChances "up" s_Chances_up (tVar 0) (tCons (tVar 2) tNil))) (tOp (rOw aRatio s_Ratiox_mulx) (tOp (rOwR aRatio s_Ratiox_rsubx) (tC (.int 1)) (tVar 1)) (tMt aChances "up" s_Chances_up (tVar 0) (tCons (tVar 3) tNil)))))))
theorem rd_worth {P : Program} {w : World} {K : PySem.W.Frag} {mg : Str → Option Value} {base : Heap} {aChances aRatio : Addr} {fsub : Addr} {s_check_share s_check_meeting s_Chancesx_lenx s_Chances_up s_Ratiox_mulx s_Ratiox_rsubx s_Ratiox_addx : Sp} (B : Bi mg) (g_check_share : GF P w K mg base 7 "check_share" s_check_share) (g_check_meeting : GF P w K mg base 2 "check_meeting" s_check_meeting) (o_Chancesx_lenx : OpF P w K mg base 1 aChances "__len__" s_Chancesx_lenx) (t_Chances_up : TF P w K mg base 8 aChances "up" s_Chances_up) (o_Ratiox_mulx : OpF P w K mg base 6 aRatio "__mul__" s_Ratiox_mulx) (o_Ratiox_rsubx : OpF P w K mg base 7 aRatio "__rsub__" s_Ratiox_rsubx) (hsubI : PySem.W.subIn K (.ref aRatio) (.type "int") = some false) (hsubF : PySem.W.findIn K (.ref aRatio) "__sub__" = some (some (.ref fsub))) (o_Ratiox_addx : OpF P w K mg base 6 aRatio "__add__" s_Ratiox_addx) {f : Addr} {cdv : Value} {A : Around} {outer : List Env} {s : Shared} {H : Hp} {E : XK} (hr : Room 8 (A.deeper (envOfC "worth" (defScope (top 38)) s.heap.objs.size f cdv))) : PSs (cxOf CX0 P w K mg base N_worth "worth" (defScope (top 38)) f cdv A outer s H E) (defBody (top 38)) (t_worth K aChances aRatio s_check_share s_check_meeting s_Chancesx_lenx s_Chances_up s_Ratiox_mulx s_Ratiox_rsubx s_Ratiox_addx) := by
  exact PSs.nox (pss_cons (ps_expr (pe_g g_check_share hr (by decide) (by rfl) (pa_cons (pv 1) pa_nil))) (pss_cons (ps_expr (pe_g g_check_meeting hr (by decide) (by rfl) (pa_cons (pe_callB (call_lenO o_Chancesx_lenx hr (by decide)) (by rfl) B.len bb_len (pa_cons (pv 0) pa_nil)) (pa_cons (pv 2) (pa_cons (pv 3) pa_nil))))) (pss_one (ps_ret (pe_op (op_own o_Ratiox_addx hr (by decide)) (pe_op (op_own o_Ratiox_mulx hr (by decide)) (pv 1) (pe_t (pv 0) t_Chances_up hr (by decide) (pa_cons (pv 2) pa_nil))) (pe_op (op_own o_Ratiox_mulx hr (by decide)) (pe_op (op_rsub o_Ratiox_rsubx hr (by decide) hsubI hsubF) pe_int (pv 1)) (pe_t (pv 0) t_Chances_up hr (by decide) (pa_cons (pv 3) pa_nil))))))))

/-! gain_of -/
abbrev N_gain_of : List Str := ["chances", "share", "lot"]
theorem N_gain_of_nd : (N_gain_of).Nodup := by decide +kernel
theorem sc_gain_of : FnScope N_gain_of ["chances", "share", "lot"] (defScope (top 39)) := ⟨rfl, rfl, rfl, N_gain_of_nd, rfl, by decide +kernel, by decide +kernel⟩
abbrev t_gain_of (K : PySem.W.Frag) (aChances aRatio : Addr) (s_Ratiox_rsubx s_Chances_chance_of s_Ratiox_mulx s_others s_Chancesx_lenx s_Ratiox_subx : Sp) : TS := (tRet (tOp (rOw aRatio s_Ratiox_subx) (tOp (rOw aRatio s_Ratiox_mulx) (tOp (rOwR aRatio s_Ratiox_rsubx) (tC (.int 1)) (tVar 1)) (tMt aChances "chance_of" s_Chances_chance_of (tVar 0) (tCons (tVar 2) tNil))) (tOp (rOw aRatio s_Ratiox_mulx) (tVar 1) (tMt aChances "chance_of" s_Chances_chance_of (tVar 0) (tCons (tCl s_others (tCons (tCB (rLenO aChances s_Chancesx_lenx) (tCons (tVar 0) tNil)) (tCons (tVar 2) tNil))) tNil)))))
theorem rd_gain_of {P : Program} {w : World} {K : PySem.W.Frag} {mg : Str → Option Value} {base : Heap} {aChances aRatio : Addr} {fsub : Addr} {s_Ratiox_rsubx s_Chances_chance_of s_Ratiox_mulx s_others s_Chancesx_lenx s_Ratiox_subx : Sp} (B : Bi mg) (o_Ratiox_rsubx : OpF P w K mg base 7 aRatio "__rsub__" s_Ratiox_rsubx) (hsubI : PySem.W.subIn K (.ref aRatio) (.type "int") = some false) (hsubF : PySem.W.findIn K (.ref aRatio) "__sub__" = some (some (.ref fsub))) (t_Chances_chance_of : TF P w K mg base 5 aChances "chance_of" s_Chances_chance_of) (o_Ratiox_mulx : OpF P w K mg base 6 aRatio "__mul__" s_Ratiox_mulx) (g_others : GF P w K mg base 4 "others" s_others) (o_Chancesx_lenx : OpF P w K mg base 1 aChances "__len__" s_Chancesx_lenx) (o_Ratiox_subx : OpF P w K mg base 6 aRatio "__sub__" s_Ratiox_subx) {f : Addr} {cdv : Value} {A : Around} {outer : List Env} {s : Shared} {H : Hp} {E : XK} (hr : Room 7 (A.deeper (envOfC "gain_of" (defScope (top 39)) s.heap.objs.size f cdv))) : PSs (cxOf CX0 P w K mg base N_gain_of "gain_of" (defScope (top 39)) f cdv A outer s H E) (defBody (top 39)) (t_gain_of K aChances aRatio s_Ratiox_rsubx s_Chances_chance_of s_Ratiox_mulx s_others s_Chancesx_lenx s_Ratiox_subx) := by
  exact PSs.nox (pss_one (ps_ret (pe_op (op_own o_Ratiox_subx hr (by decide)) (pe_op (op_own o_Ratiox_mulx hr (by decide)) (pe_op (op_rsub o_Ratiox_rsubx hr (by decide) hsubI hsubF) pe_int (pv 1)) (pe_t (pv 0) t_Chances_chance_of hr (by decide) (pa_cons (pv 2) pa_nil))) (pe_op (op_own o_Ratiox_mulx hr (by decide)) (pv 1) (pe_t (pv 0) t_Chances_chance_of hr (by decide) (pa_cons (pe_g g_others hr (by decide) (by rfl) (pa_cons (pe_callB (call_lenO o_Chancesx_lenx hr (by decide)) (by rfl) B.len bb_len (pa_cons (pv 0) pa_nil)) (pa_cons (pv 2) pa_nil))) pa_nil))))))

/-! middle_gains -/
abbrev N_middle_gains : List Str := ["chances", "share", "lot"]
theorem N_middle_gains_nd : (N_middle_gains).Nodup := by decide +kernel
theorem sc_middle_gains : FnScope N_middle_gains ["chances", "share"] (defScope (top 43)) := ⟨rfl, rfl, rfl, N_middle_gains_nd, rfl, by decide +kernel, by decide +kernel⟩
abbrev t_middle_gains (K : PySem.W.Frag) (aChances : Addr) (s_middle_lots s_Chancesx_lenx s_gain_of : Sp) : TS := (tRet (tDcT (iList K (tCl s_middle_lots (tCons (tCB (rLenO aChances s_Chancesx_lenx) (tCons (tVar 0) tNil)) tNil))) (gName 2) tYes (tVar 2) (tCl s_gain_of (tCons (tVar 0) (tCons (tVar 1) (tCons (tVar 2) tNil)))) [2]))
theorem rd_middle_gains {P : Program} {w : World} {K : PySem.W.Frag} {mg : Str → Option Value} {base : Heap} {aChances : Addr} {s_middle_lots s_Chancesx_lenx s_gain_of : Sp} (B : Bi mg) (g_middle_lots : GF P w K mg base 4 "middle_lots" s_middle_lots) (o_Chancesx_lenx : OpF P w K mg base 1 aChances "__len__" s_Chancesx_lenx) (g_gain_of : GF P w K mg base 8 "gain_of" s_gain_of) {f : Addr} {cdv : Value} {A : Around} {outer : List Env} {s : Shared} {H : Hp} {E : XK} (hr : Room 8 (A.deeper (envOfC "middle_gains" (defScope (top 43)) s.heap.objs.size f cdv))) : PSs (cxOf CX0 P w K mg base N_middle_gains "middle_gains" (defScope (top 43)) f cdv A outer s H E) (defBody (top 43)) (t_middle_gains K aChances s_middle_lots s_Chancesx_lenx s_gain_of) := by
  have hu0 : (A.deeper (envOfC "middle_gains" (defScope (top 43)) s.heap.objs.size f cdv)).units + 0 < cLine := by have := hr.un; omega
  exact PSs.nox (pss_one (ps_ret (pe_dcT (own := [("lot", 2)]) (g := (gName 2)) (tt := tYes) (tk := (tVar 2)) (tv := (tCl s_gain_of (tCons (tVar 0) (tCons (tVar 1) (tCons (tVar 2) tNil))))) hu0 rfl N_middle_gains_nd (pi_list (pe_g g_middle_lots hr (by decide) (by rfl) (pa_cons (pe_callB (call_lenO o_Chancesx_lenx hr (by decide)) (by rfl) B.len bb_len (pa_cons (pv 0) pa_nil)) pa_nil))) (blkOk_by (by kernel_rfl)) (fun _ _ _ _ _ => (pg_name (i := 2) N_middle_gains_nd rfl (by first | exact Or.inl rfl | exact Or.inr rfl))) (fun _ _ _ _ _ => pts_nil) (fun _ _ _ _ _ => (pv 2)) (fun _ _ _ _ _ => (pe_g g_gain_of hr (by decide) (by rfl) (pa_cons (pv 0) (pa_cons (pv 1) (pa_cons (pv 2) pa_nil))))))))

/-! whole_lot -/
abbrev N_whole_lot : List Str := ["chances"]
theorem N_whole_lot_nd : (N_whole_lot).Nodup := by decide +kernel
theorem sc_whole_lot : FnScope N_whole_lot ["chances"] (defScope (top 44)) := ⟨rfl, rfl, rfl, N_whole_lot_nd, rfl, by decide +kernel, by decide +kernel⟩
abbrev t_whole_lot (K : PySem.W.Frag) (aChances : Addr) (s_Chancesx_lenx : Sp) : TS := (tRet (tTupRg (tRg1 (tCB (rLenO aChances s_Chancesx_lenx) (tCons (tVar 0) tNil)))))
theorem rd_whole_lot {P : Program} {w : World} {K : PySem.W.Frag} {mg : Str → Option Value} {base : Heap} {aChances : Addr} {s_Chancesx_lenx : Sp} (B : Bi mg) (o_Chancesx_lenx : OpF P w K mg base 1 aChances "__len__" s_Chancesx_lenx) {f : Addr} {cdv : Value} {A : Around} {outer : List Env} {s : Shared} {H : Hp} {E : XK} (hr : Room 2 (A.deeper (envOfC "whole_lot" (defScope (top 44)) s.heap.objs.size f cdv))) : PSs (cxOf CX0 P w K mg base N_whole_lot "whole_lot" (defScope (top 44)) f cdv A outer s H E) (defBody (top 44)) (t_whole_lot K aChances s_Chancesx_lenx) := by
  exact PSs.nox (pss_one (ps_ret (pe_tupRg rfl (by rfl) B.tuple (prg_1 (by rfl) B.range (pe_callB (call_lenO o_Chancesx_lenx hr (by decide)) (by rfl) B.len bb_len (pa_cons (pv 0) pa_nil))))))

/-! most_worth -/
abbrev N_most_worth : List Str := ["chances", "share", "gains", "positive", "lot"]
theorem N_most_worth_nd : (N_most_worth).Nodup := by decide +kernel
theorem sc_most_worth : FnScope N_most_worth ["chances", "share"] (defScope (top 45)) := ⟨rfl, rfl, rfl, N_most_worth_nd, rfl, by decide +kernel, by decide +kernel⟩
abbrev t_most_worth (K : PySem.W.Frag) (aRatio : Addr) (s_check_share s_middle_gains s_Ratiox_gtx s_gain_of s_whole_lot s_Ratiox_addx s_total : Sp) : TS := (tSeq (tDrop (tCl s_check_share (tCons (tVar 1) tNil))) (tSeq (tAsg (tCl s_middle_gains (tCons (tVar 0) (tCons (tVar 1) tNil))) (gName 2)) (tSeq (tLock (tAsg (tLc (iKeys (tVar 2)) (gName 4) (tTest (tOp (rOwI aRatio s_Ratiox_gtx) (tDGet (tVar 2) (tVar 4)) (tC (.int 0)))) (tDGet (tVar 2) (tVar 4)) [4]) (gName 3))) (tRet (tOp (rOw aRatio s_Ratiox_addx) (tOp (rOw aRatio s_Ratiox_addx) (tVar 1) (tCl s_gain_of (tCons (tVar 0) (tCons (tVar 1) (tCons (tCl s_whole_lot (tCons (tVar 0) tNil)) tNil))))) (tCl s_total (tCons (tVar 3) tNil)))))))
theorem rd_most_worth {P : Program} {w : World} {K : PySem.W.Frag} {mg : Str → Option Value} {base : Heap} {aRatio : Addr} {s_check_share s_middle_gains s_Ratiox_gtx s_gain_of s_whole_lot s_Ratiox_addx s_total : Sp} (B : Bi mg) (g_check_share : GF P w K mg base 7 "check_share" s_check_share) (g_middle_gains : GF P w K mg base 9 "middle_gains" s_middle_gains) (o_Ratiox_gtx : OpF P w K mg base 6 aRatio "__gt__" s_Ratiox_gtx) (hnotI : PySem.W.notFirst K aRatio (.type "int") = true) (g_gain_of : GF P w K mg base 8 "gain_of" s_gain_of) (g_whole_lot : GF P w K mg base 3 "whole_lot" s_whole_lot) (o_Ratiox_addx : OpF P w K mg base 6 aRatio "__add__" s_Ratiox_addx) (g_total : GF P w K mg base 7 "total" s_total) {f : Addr} {cdv : Value} {A : Around} {outer : List Env} {s : Shared} {H : Hp} {E : XK} (hr : Room 9 (A.deeper (envOfC "most_worth" (defScope (top 45)) s.heap.objs.size f cdv))) : PSs (cxOf CX0 P w K mg base N_most_worth "most_worth" (defScope (top 45)) f cdv A outer s H E) (defBody (top 45)) (t_most_worth K aRatio s_check_share s_middle_gains s_Ratiox_gtx s_gain_of s_whole_lot s_Ratiox_addx s_total) := by
  have hu1 : (A.deeper (envOfC "most_worth" (defScope (top 45)) s.heap.objs.size f cdv)).units + 1 < cLine := hu_of hr
  exact PSs.nox (pss_cons (ps_expr (pe_g g_check_share hr (by decide) (by rfl) (pa_cons (pv 1) pa_nil))) (pss_cons (ps_set (i := 2) N_most_worth_nd rfl (by first | exact Or.inl rfl | exact Or.inr rfl) (pe_g g_middle_gains hr (by decide) (by rfl) (pa_cons (pv 0) (pa_cons (pv 1) pa_nil)))) (pss_cons (ps_lock (ps_setLc (i := 3) (own := [("lot", 4)]) (g := (gName 4)) (tt := (tTest (tOp (rOwI aRatio s_Ratiox_gtx) (tDGet (tVar 2) (tVar 4)) (tC (.int 0))))) (te := (tDGet (tVar 2) (tVar 4)))  rfl N_most_worth_nd rfl rfl (sw_true rfl rfl rfl (by kernel_rfl)) (pi_keys (pv 2)) (blkOk_by (by kernel_rfl)) (fun _ _ _ _ _ => (pg_name (i := 4) N_most_worth_nd rfl (by first | exact Or.inl rfl | exact Or.inr rfl))) (fun _ _ _ _ _ => (pts_one (pt_cmpR (cmp_ownI o_Ratiox_gtx hr (by decide) hnotI) (pe_dget hu1 (pv 2) (pv 4) (fun _ _ => rfl)) pe_int (nomark _)))) (fun _ _ _ _ _ => (pe_dget hu1 (pv 2) (pv 4) (fun _ _ => rfl))))) (pss_one (ps_ret (pe_op (op_own o_Ratiox_addx hr (by decide)) (pe_op (op_own o_Ratiox_addx hr (by decide)) (pv 1) (pe_g g_gain_of hr (by decide) (by rfl) (pa_cons (pv 0) (pa_cons (pv 1) (pa_cons (pe_g g_whole_lot hr (by decide) (by rfl) (pa_cons (pv 0) pa_nil)) pa_nil))))) (pe_g g_total hr (by decide) (by rfl) (pa_cons (pv 3) pa_nil))))))))

/-! least_writes -/
abbrev N_least_writes : List Str := ["chances", "share", "gains", "lots", "lot"]
theorem N_least_writes_nd : (N_least_writes).Nodup := by decide +kernel
theorem sc_least_writes : FnScope N_least_writes ["chances", "share"] (defScope (top 46)) := ⟨rfl, rfl, rfl, N_least_writes_nd, rfl, by decide +kernel, by decide +kernel⟩
abbrev t_least_writes (K : PySem.W.Frag) (aChances aRatio : Addr) (s_check_share s_middle_gains s_Ratiox_gtx s_whole_lot s_Familyx_initx s_Chancesx_lenx : Sp) : TS := (tSeq (tDrop (tCl s_check_share (tCons (tVar 1) tNil))) (tSeq (tAsg (tCl s_middle_gains (tCons (tVar 0) (tCons (tVar 1) tNil))) (gName 2)) (tSeq (tAsg (tOp rCat (tLockE (tLc (iKeys (tVar 2)) (gName 4) (tTest (tOp (rOwI aRatio s_Ratiox_gtx) (tDGet (tVar 2) (tVar 4)) (tC (.int 0)))) (tVar 4) [4])) (tLst (tCons (tCl s_whole_lot (tCons (tVar 0) tNil)) tNil))) (gName 3)) (tRet (tCl s_Familyx_initx (tCons (tCB (rLenO aChances s_Chancesx_lenx) (tCons (tVar 0) tNil)) (StX.tStar K (tVar 3) tNil)))))))
theorem rd_least_writes {P : Program} {w : World} {K : PySem.W.Frag} {mg : Str → Option Value} {base : Heap} {aChances aRatio : Addr} {s_check_share s_middle_gains s_Ratiox_gtx s_whole_lot s_Familyx_initx s_Chancesx_lenx : Sp} (B : Bi mg) (g_check_share : GF P w K mg base 7 "check_share" s_check_share) (g_middle_gains : GF P w K mg base 9 "middle_gains" s_middle_gains) (o_Ratiox_gtx : OpF P w K mg base 6 aRatio "__gt__" s_Ratiox_gtx) (hnotI : PySem.W.notFirst K aRatio (.type "int") = true) (g_whole_lot : GF P w K mg base 3 "whole_lot" s_whole_lot) (m_Family : MF P w K mg base 4 "Family" s_Familyx_initx) (o_Chancesx_lenx : OpF P w K mg base 1 aChances "__len__" s_Chancesx_lenx) {f : Addr} {cdv : Value} {A : Around} {outer : List Env} {s : Shared} {H : Hp} {E : XK} (hr : Room 9 (A.deeper (envOfC "least_writes" (defScope (top 46)) s.heap.objs.size f cdv))) : PSs (cxOf CX0 P w K mg base N_least_writes "least_writes" (defScope (top 46)) f cdv A outer s H E) (defBody (top 46)) (t_least_writes K aChances aRatio s_check_share s_middle_gains s_Ratiox_gtx s_whole_lot s_Familyx_initx s_Chancesx_lenx) := by
  have hu1 : (A.deeper (envOfC "least_writes" (defScope (top 46)) s.heap.objs.size f cdv)).units + 1 < cLine := hu_of hr
  exact PSs.nox (pss_cons (ps_expr (pe_g g_check_share hr (by decide) (by rfl) (pa_cons (pv 1) pa_nil))) (pss_cons (ps_set (i := 2) N_least_writes_nd rfl (by first | exact Or.inl rfl | exact Or.inr rfl) (pe_g g_middle_gains hr (by decide) (by rfl) (pa_cons (pv 0) (pa_cons (pv 1) pa_nil)))) (pss_cons (ps_set (i := 3) N_least_writes_nd rfl (by first | exact Or.inl rfl | exact Or.inr rfl) (pe_op op_cat (pe_lock (pe_lc (own := [("lot", 4)]) (g := (gName 4)) (tt := (tTest (tOp (rOwI aRatio s_Ratiox_gtx) (tDGet (tVar 2) (tVar 4)) (tC (.int 0))))) (te := (tVar 4)) rfl N_least_writes_nd (pi_keys (pv 2)) (blkOk_by (by kernel_rfl)) (fun _ _ _ _ _ => (pg_name (i := 4) N_least_writes_nd rfl (by first | exact Or.inl rfl | exact Or.inr rfl))) (fun _ _ _ _ _ => (pts_one (pt_cmpR (cmp_ownI o_Ratiox_gtx hr (by decide) hnotI) (pe_dget hu1 (pv 2) (pv 4) (fun _ _ => rfl)) pe_int (nomark _)))) (fun _ _ _ _ _ => (pv 4)))) (pe_lst (pa_cons (pe_g g_whole_lot hr (by decide) (by rfl) (pa_cons (pv 0) pa_nil)) pa_nil)))) (pss_one (ps_ret (pe_mkS m_Family hr (by decide) (by rfl) (pa_cons (pe_callB (call_lenO o_Chancesx_lenx hr (by decide)) (by rfl) B.len bb_len (pa_cons (pv 0) pa_nil)) (StX.pa_star (pv 3) pa_nil))))))))

/-! greatest_writes -/
abbrev N_greatest_writes : List Str := ["chances", "share", "gains", "lots", "lot"]
theorem N_greatest_writes_nd : (N_greatest_writes).Nodup := by decide +kernel
theorem sc_greatest_writes : FnScope N_greatest_writes ["chances", "share"] (defScope (top 47)) := ⟨rfl, rfl, rfl, N_greatest_writes_nd, rfl, by decide +kernel, by decide +kernel⟩
abbrev t_greatest_writes (K : PySem.W.Frag) (aChances aRatio : Addr) (s_check_share s_middle_gains s_Ratiox_gex s_whole_lot s_Familyx_initx s_Chancesx_lenx : Sp) : TS := (tSeq (tDrop (tCl s_check_share (tCons (tVar 1) tNil))) (tSeq (tAsg (tCl s_middle_gains (tCons (tVar 0) (tCons (tVar 1) tNil))) (gName 2)) (tSeq (tAsg (tOp rCat (tLockE (tLc (iKeys (tVar 2)) (gName 4) (tTest (tOp (rOwI aRatio s_Ratiox_gex) (tDGet (tVar 2) (tVar 4)) (tC (.int 0)))) (tVar 4) [4])) (tLst (tCons (tCl s_whole_lot (tCons (tVar 0) tNil)) tNil))) (gName 3)) (tRet (tCl s_Familyx_initx (tCons (tCB (rLenO aChances s_Chancesx_lenx) (tCons (tVar 0) tNil)) (StX.tStar K (tVar 3) tNil)))))))
theorem rd_greatest_writes {P : Program} {w : World} {K : PySem.W.Frag} {mg : Str → Option Value} {base : Heap} {aChances aRatio : Addr} {s_check_share s_middle_gains s_Ratiox_gex s_whole_lot s_Familyx_initx s_Chancesx_lenx : Sp} (B : Bi mg) (g_check_share : GF P w K mg base 7 "check_share" s_check_share) (g_middle_gains : GF P w K mg base 9 "middle_gains" s_middle_gains) (o_Ratiox_gex : OpF P w K mg base 6 aRatio "__ge__" s_Ratiox_gex) (hnotI : PySem.W.notFirst K aRatio (.type "int") = true) (g_whole_lot : GF P w K mg base 3 "whole_lot" s_whole_lot) (m_Family : MF P w K mg base 4 "Family" s_Familyx_initx) (o_Chancesx_lenx : OpF P w K mg base 1 aChances "__len__" s_Chancesx_lenx) {f : Addr} {cdv : Value} {A : Around} {outer : List Env} {s : Shared} {H : Hp} {E : XK} (hr : Room 9 (A.deeper (envOfC "greatest_writes" (defScope (top 47)) s.heap.objs.size f cdv))) : PSs (cxOf CX0 P w K mg base N_greatest_writes "greatest_writes" (defScope (top 47)) f cdv A outer s H E) (defBody (top 47)) (t_greatest_writes K aChances aRatio s_check_share s_middle_gains s_Ratiox_gex s_whole_lot s_Familyx_initx s_Chancesx_lenx) := by
  have hu1 : (A.deeper (envOfC "greatest_writes" (defScope (top 47)) s.heap.objs.size f cdv)).units + 1 < cLine := hu_of hr
  exact PSs.nox (pss_cons (ps_expr (pe_g g_check_share hr (by decide) (by rfl) (pa_cons (pv 1) pa_nil))) (pss_cons (ps_set (i := 2) N_greatest_writes_nd rfl (by first | exact Or.inl rfl | exact Or.inr rfl) (pe_g g_middle_gains hr (by decide) (by rfl) (pa_cons (pv 0) (pa_cons (pv 1) pa_nil)))) (pss_cons (ps_set (i := 3) N_greatest_writes_nd rfl (by first | exact Or.inl rfl | exact Or.inr rfl) (pe_op op_cat (pe_lock (pe_lc (own := [("lot", 4)]) (g := (gName 4)) (tt := (tTest (tOp (rOwI aRatio s_Ratiox_gex) (tDGet (tVar 2) (tVar 4)) (tC (.int 0))))) (te := (tVar 4)) rfl N_greatest_writes_nd (pi_keys (pv 2)) (blkOk_by (by kernel_rfl)) (fun _ _ _ _ _ => (pg_name (i := 4) N_greatest_writes_nd rfl (by first | exact Or.inl rfl | exact Or.inr rfl))) (fun _ _ _ _ _ => (pts_one (pt_cmpR (cmp_ownI o_Ratiox_gex hr (by decide) hnotI) (pe_dget hu1 (pv 2) (pv 4) (fun _ _ => rfl)) pe_int (nomark _)))) (fun _ _ _ _ _ => (pv 4)))) (pe_lst (pa_cons (pe_g g_whole_lot hr (by decide) (by rfl) (pa_cons (pv 0) pa_nil)) pa_nil)))) (pss_one (ps_ret (pe_mkS m_Family hr (by decide) (by rfl) (pa_cons (pe_callB (call_lenO o_Chancesx_lenx hr (by decide)) (by rfl) B.len bb_len (pa_cons (pv 0) pa_nil)) (StX.pa_star (pv 3) pa_nil))))))))

/-! is_best -/
abbrev N_is_best : List Str := ["chances", "share", "writes"]
theorem N_is_best_nd : (N_is_best).Nodup := by decide +kernel
theorem sc_is_best : FnScope N_is_best ["chances", "share", "writes"] (defScope (top 48)) := ⟨rfl, rfl, rfl, N_is_best_nd, rfl, by decide +kernel, by decide +kernel⟩
abbrev t_is_best (K : PySem.W.Frag) (aChances aFamily : Addr) (s_check_share s_Chancesx_lenx s_least_writes s_Familyx_lex s_greatest_writes : Sp) : TS := (tSeq (tDrop (tCl s_check_share (tCons (tVar 1) tNil))) (tSeq (tIfS (tTest (tOp rNe (tFld K (tVar 2) "copies") (tCB (rLenO aChances s_Chancesx_lenx) (tCons (tVar 0) tNil)))) tNever tNext) (tRet (tAndV (tOp (rOw aFamily s_Familyx_lex) (tCl s_least_writes (tCons (tVar 0) (tCons (tVar 1) tNil))) (tVar 2)) (tOp (rOw aFamily s_Familyx_lex) (tVar 2) (tCl s_greatest_writes (tCons (tVar 0) (tCons (tVar 1) tNil))))))))
theorem rd_is_best {P : Program} {w : World} {K : PySem.W.Frag} {mg : Str → Option Value} {base : Heap} {aChances aFamily : Addr} {s_check_share s_Chancesx_lenx s_least_writes s_Familyx_lex s_greatest_writes : Sp} (B : Bi mg) (g_check_share : GF P w K mg base 7 "check_share" s_check_share) (o_Chancesx_lenx : OpF P w K mg base 1 aChances "__len__" s_Chancesx_lenx) (g_least_writes : GF P w K mg base 10 "least_writes" s_least_writes) (o_Familyx_lex : OpF P w K mg base 3 aFamily "__le__" s_Familyx_lex) (g_greatest_writes : GF P w K mg base 10 "greatest_writes" s_greatest_writes) {f : Addr} {cdv : Value} {A : Around} {outer : List Env} {s : Shared} {H : Hp} {E : XK} (hr : Room 10 (A.deeper (envOfC "is_best" (defScope (top 48)) s.heap.objs.size f cdv))) : PSs (cxOf CX0 P w K mg base N_is_best "is_best" (defScope (top 48)) f cdv A outer s H E) (defBody (top 48)) (t_is_best K aChances aFamily s_check_share s_Chancesx_lenx s_least_writes s_Familyx_lex s_greatest_writes) := by
  exact PSs.nox (pss_cons (ps_expr (pe_g g_check_share hr (by decide) (by rfl) (pa_cons (pv 1) pa_nil))) (pss_cons (ps_if (pt_cmpR op_ne (pe_fld (pv 2) rfl) (pe_callB (call_lenO o_Chancesx_lenx hr (by decide)) (by rfl) B.len bb_len (pa_cons (pv 0) pa_nil)) (nomark _)) pss_never pss_nil) (pss_one (ps_ret (pe_and (pe_cmpR (cmp_own o_Familyx_lex hr (by decide)) (pe_g g_least_writes hr (by decide) (by rfl) (pa_cons (pv 0) (pa_cons (pv 1) pa_nil))) (pv 2) (nomark _)) (pe_one (pe_cmpR (cmp_own o_Familyx_lex hr (by decide)) (pv 2) (pe_g g_greatest_writes hr (by decide) (by rfl) (pa_cons (pv 0) (pa_cons (pv 1) pa_nil))) (nomark _))))))))

/-! level_lots -/
abbrev N_level_lots : List Str := ["chances", "share", "gains", "lot"]
theorem N_level_lots_nd : (N_level_lots).Nodup := by decide +kernel
theorem sc_level_lots : FnScope N_level_lots ["chances", "share"] (defScope (top 49)) := ⟨rfl, rfl, rfl, N_level_lots_nd, rfl, by decide +kernel, by decide +kernel⟩
abbrev t_level_lots (K : PySem.W.Frag) (s_middle_gains : Sp) : TS := (tSeq (tAsg (tCl s_middle_gains (tCons (tVar 0) (tCons (tVar 1) tNil))) (gName 2)) (tRet (tLockE (tLc (iKeys (tVar 2)) (gName 3) (tTest (tOp rEq (tFld K (tDGet (tVar 2) (tVar 3)) "over") (tC (.int 0)))) (tVar 3) [3]))))
theorem rd_level_lots {P : Program} {w : World} {K : PySem.W.Frag} {mg : Str → Option Value} {base : Heap} {s_middle_gains : Sp} (B : Bi mg) (g_middle_gains : GF P w K mg base 9 "middle_gains" s_middle_gains) {f : Addr} {cdv : Value} {A : Around} {outer : List Env} {s : Shared} {H : Hp} {E : XK} (hr : Room 9 (A.deeper (envOfC "level_lots" (defScope (top 49)) s.heap.objs.size f cdv))) : PSs (cxOf CX0 P w K mg base N_level_lots "level_lots" (defScope (top 49)) f cdv A outer s H E) (defBody (top 49)) (t_level_lots K s_middle_gains) := by
  have hu1 : (A.deeper (envOfC "level_lots" (defScope (top 49)) s.heap.objs.size f cdv)).units + 1 < cLine := hu_of hr
  exact PSs.nox (pss_cons (ps_set (i := 2) N_level_lots_nd rfl (by first | exact Or.inl rfl | exact Or.inr rfl) (pe_g g_middle_gains hr (by decide) (by rfl) (pa_cons (pv 0) (pa_cons (pv 1) pa_nil)))) (pss_one (ps_ret (pe_lock (pe_lc (own := [("lot", 3)]) (g := (gName 3)) (tt := (tTest (tOp rEq (tFld K (tDGet (tVar 2) (tVar 3)) "over") (tC (.int 0))))) (te := (tVar 3)) rfl N_level_lots_nd (pi_keys (pv 2)) (blkOk_by (by kernel_rfl)) (fun _ _ _ _ _ => (pg_name (i := 3) N_level_lots_nd rfl (by first | exact Or.inl rfl | exact Or.inr rfl))) (fun _ _ _ _ _ => (pts_one (pt_cmpR op_eq (pe_fld (pe_dget hu1 (pv 2) (pv 3) (fun _ _ => rfl)) rfl) pe_int (nomark _)))) (fun _ _ _ _ _ => (pv 3)))))))

/-! count_best -/
abbrev N_count_best : List Str := ["chances", "share"]
theorem N_count_best_nd : (N_count_best).Nodup := by decide +kernel
theorem sc_count_best : FnScope N_count_best ["chances", "share"] (defScope (top 51)) := ⟨rfl, rfl, rfl, N_count_best_nd, rfl, by decide +kernel, by decide +kernel⟩
abbrev t_count_best (K : PySem.W.Frag) (aChances : Addr) (s_check_share s_Chancesx_lenx s_growing_sets s_level_lots : Sp) : TS := (tSeq (tDrop (tCl s_check_share (tCons (tVar 1) tNil))) (tSeq (tIfS (tTest (tOp qGt (tCB (rLenO aChances s_Chancesx_lenx) (tCons (tVar 0) tNil)) (tC (.int 5)))) tNever tNext) (tRet (tCB (rLenS K) (tCons (tCl s_growing_sets (tCons (tCl s_level_lots (tCons (tVar 0) (tCons (tVar 1) tNil))) tNil)) tNil)))))
theorem rd_count_best {P : Program} {w : World} {K : PySem.W.Frag} {mg : Str → Option Value} {base : Heap} {aChances : Addr} {s_check_share s_Chancesx_lenx s_growing_sets s_level_lots : Sp} (B : Bi mg) (g_check_share : GF P w K mg base 7 "check_share" s_check_share) (o_Chancesx_lenx : OpF P w K mg base 1 aChances "__len__" s_Chancesx_lenx) (c_MOST_COUNTED : ∃ t, mg "MOST_COUNTED" = some (.int 5 t)) (g_growing_sets : GF P w K mg base 2 "growing_sets" s_growing_sets) (g_level_lots : GF P w K mg base 10 "level_lots" s_level_lots) {f : Addr} {cdv : Value} {A : Around} {outer : List Env} {s : Shared} {H : Hp} {E : XK} (hr : Room 10 (A.deeper (envOfC "count_best" (defScope (top 51)) s.heap.objs.size f cdv))) : PSs (cxOf CX0 P w K mg base N_count_best "count_best" (defScope (top 51)) f cdv A outer s H E) (defBody (top 51)) (t_count_best K aChances s_check_share s_Chancesx_lenx s_growing_sets s_level_lots) := by
  exact PSs.nox (pss_cons (ps_expr (pe_g g_check_share hr (by decide) (by rfl) (pa_cons (pv 1) pa_nil))) (pss_cons (ps_if (pt_cmpR op_gt (pe_callB (call_lenO o_Chancesx_lenx hr (by decide)) (by rfl) B.len bb_len (pa_cons (pv 0) pa_nil)) (pe_glob (by rfl) c_MOST_COUNTED.choose_spec ⟨_, rfl⟩) (nomark _)) pss_never pss_nil) (pss_one (ps_ret (pe_callB call_len_seq (by rfl) B.len bb_len (pa_cons (pe_g g_growing_sets hr (by decide) (by rfl) (pa_cons (pe_g g_level_lots hr (by decide) (by rfl) (pa_cons (pv 0) (pa_cons (pv 1) pa_nil))) pa_nil)) pa_nil))))))

/-! best_writes -/
abbrev N_best_writes : List Str := ["chances", "share", "least", "found", "chosen", "lots"]
theorem N_best_writes_nd : (N_best_writes).Nodup := by decide +kernel
theorem sc_best_writes : FnScope N_best_writes ["chances", "share"] (defScope (top 52)) := ⟨rfl, rfl, rfl, N_best_writes_nd, rfl, by decide +kernel, by decide +kernel⟩
abbrev t_best_writes (K : PySem.W.Frag) (aChances : Addr) (s_check_share s_Chancesx_lenx s_least_writes s_growing_sets s_level_lots s_Familyx_initx : Sp) : TS := (tSeq (tDrop (tCl s_check_share (tCons (tVar 1) tNil))) (tSeq (tIfS (tTest (tOp qGt (tCB (rLenO aChances s_Chancesx_lenx) (tCons (tVar 0) tNil)) (tC (.int 4)))) tNever tNext) (tSeq (tAsg (tCl s_least_writes (tCons (tVar 0) (tCons (tVar 1) tNil))) (gName 2)) (tSeq (tAsg (tLst tNil) (gName 3)) (tSeq (tFor (iList K (tCl s_growing_sets (tCons (tCl s_level_lots (tCons (tVar 0) (tCons (tVar 1) tNil))) tNil))) (gName 4) (tSeq (tAsg (tOp (rCatA K) (tFld K (tVar 2) "lots") (tVar 4)) (gName 5)) (tDrop (tBM K "list" rAppend (tVar 3) (tCons (tCl s_Familyx_initx (tCons (tCB (rLenO aChances s_Chancesx_lenx) (tCons (tVar 0) tNil)) (StX.tStar K (tVar 5) tNil))) tNil))))) (tRet (tVar 3)))))))
theorem rd_best_writes {P : Program} {w : World} {K : PySem.W.Frag} {mg : Str → Option Value} {base : Heap} {aChances : Addr} {s_check_share s_Chancesx_lenx s_least_writes s_growing_sets s_level_lots s_Familyx_initx : Sp} (B : Bi mg) (g_check_share : GF P w K mg base 7 "check_share" s_check_share) (o_Chancesx_lenx : OpF P w K mg base 1 aChances "__len__" s_Chancesx_lenx) (c_MOST_LISTED : ∃ t, mg "MOST_LISTED" = some (.int 4 t)) (g_least_writes : GF P w K mg base 10 "least_writes" s_least_writes) (g_growing_sets : GF P w K mg base 2 "growing_sets" s_growing_sets) (g_level_lots : GF P w K mg base 10 "level_lots" s_level_lots) (m_Family : MF P w K mg base 4 "Family" s_Familyx_initx) {f : Addr} {cdv : Value} {A : Around} {outer : List Env} {s : Shared} {H : Hp} {E : XK} (hr : Room 10 (A.deeper (envOfC "best_writes" (defScope (top 52)) s.heap.objs.size f cdv))) : PSs (cxOf CX0 P w K mg base N_best_writes "best_writes" (defScope (top 52)) f cdv A outer s H E) (defBody (top 52)) (t_best_writes K aChances s_check_share s_Chancesx_lenx s_least_writes s_growing_sets s_level_lots s_Familyx_initx) := by
  exact PSs.nox (pss_cons (ps_expr (pe_g g_check_share hr (by decide) (by rfl) (pa_cons (pv 1) pa_nil))) (pss_cons (ps_if (pt_cmpR op_gt (pe_callB (call_lenO o_Chancesx_lenx hr (by decide)) (by rfl) B.len bb_len (pa_cons (pv 0) pa_nil)) (pe_glob (by rfl) c_MOST_LISTED.choose_spec ⟨_, rfl⟩) (nomark _)) pss_never pss_nil) (pss_cons (ps_set (i := 2) N_best_writes_nd rfl (by first | exact Or.inl rfl | exact Or.inr rfl) (pe_g g_least_writes hr (by decide) (by rfl) (pa_cons (pv 0) (pa_cons (pv 1) pa_nil)))) (pss_cons (ps_set (i := 3) N_best_writes_nd rfl (by first | exact Or.inl rfl | exact Or.inr rfl) (pe_lst pa_nil)) (pss_cons (ps_for PassesOwn.never rfl (pi_list (pe_g g_growing_sets hr (by decide) (by rfl) (pa_cons (pe_g g_level_lots hr (by decide) (by rfl) (pa_cons (pv 0) (pa_cons (pv 1) pa_nil))) pa_nil))) (pg_name (i := 4) N_best_writes_nd rfl (by first | exact Or.inl rfl | exact Or.inr rfl)) (pss_cons (ps_set (i := 5) N_best_writes_nd rfl (by first | exact Or.inl rfl | exact Or.inr rfl) (pe_op op_catA (pe_fld (pv 2) rfl) (pv 4))) (pss_one (ps_expr (pe_bm PySem.F.plainAttrs_list PySem.F.slot_list_append PySem.F.type_list_append mt_append (pv 3) (pa_cons (pe_mkS m_Family hr (by decide) (by rfl) (pa_cons (pe_callB (call_lenO o_Chancesx_lenx hr (by decide)) (by rfl) B.len bb_len (pa_cons (pv 0) pa_nil)) (StX.pa_star (pv 5) pa_nil))) pa_nil)))))) (pss_one (ps_ret (pv 3))))))))

/-! weight_of -/
abbrev N_weight_of : List Str := ["chances", "lot", "found", "copy", "ratio"]
theorem N_weight_of_nd : (N_weight_of).Nodup := by decide +kernel
theorem sc_weight_of : FnScope N_weight_of ["chances", "lot"] (defScope (top 54)) := ⟨rfl, rfl, rfl, N_weight_of_nd, rfl, by decide +kernel, by decide +kernel⟩
abbrev t_weight_of (K : PySem.W.Frag) (aRatio : Addr) (s_Ratiox_initx s_Ratiox_mulx : Sp) : TS := (tSeq (tAsg (tCl s_Ratiox_initx (tCons (tC (.int 1)) tNil)) (gName 2)) (tSeq (tFor (iTup K (tVar 1)) (gName 3) (tSeq (tAsg (tOp (rIxT K) (tFld K (tVar 0) "ratios") (tVar 3)) (gName 4)) (tAsg (tOp (rOw aRatio s_Ratiox_mulx) (tVar 2) (tCl s_Ratiox_initx (tCons (tFld K (tVar 4) "over") (tCons (tOp qSub (tFld K (tVar 4) "under") (tFld K (tVar 4) "over")) tNil)))) (gName 2)))) (tRet (tVar 2))))
theorem rd_weight_of {P : Program} {w : World} {K : PySem.W.Frag} {mg : Str → Option Value} {base : Heap} {aRatio : Addr} {s_Ratiox_initx s_Ratiox_mulx : Sp} (B : Bi mg) (m_Ratio : MF P w K mg base 3 "Ratio" s_Ratiox_initx) (o_Ratiox_mulx : OpF P w K mg base 6 aRatio "__mul__" s_Ratiox_mulx) {f : Addr} {cdv : Value} {A : Around} {outer : List Env} {s : Shared} {H : Hp} {E : XK} (hr : Room 6 (A.deeper (envOfC "weight_of" (defScope (top 54)) s.heap.objs.size f cdv))) : PSs (cxOf CX0 P w K mg base N_weight_of "weight_of" (defScope (top 54)) f cdv A outer s H E) (defBody (top 54)) (t_weight_of K aRatio s_Ratiox_initx s_Ratiox_mulx) := by
  exact PSs.nox (pss_cons (ps_set (i := 2) N_weight_of_nd rfl (by first | exact Or.inl rfl | exact Or.inr rfl) (pe_mk m_Ratio hr (by decide) (by rfl) (pa_cons pe_int pa_nil))) (pss_cons (ps_for PassesOwn.never rfl (pi_tup (pv 1)) (pg_name (i := 3) N_weight_of_nd rfl (by first | exact Or.inl rfl | exact Or.inr rfl)) (pss_cons (ps_set (i := 4) N_weight_of_nd rfl (by first | exact Or.inl rfl | exact Or.inr rfl) (pe_ix ix_tup (pe_fld (pv 0) rfl) (pv 3) (fun _ _ => rfl))) (pss_one (ps_set (i := 2) N_weight_of_nd rfl (by first | exact Or.inl rfl | exact Or.inr rfl) (pe_op (op_own o_Ratiox_mulx hr (by decide)) (pv 2) (pe_mk m_Ratio hr (by decide) (by rfl) (pa_cons (pe_fld (pv 4) rfl) (pa_cons (pe_op op_sub (pe_fld (pv 4) rfl) (pe_fld (pv 4) rfl)) pa_nil)))))))) (pss_one (ps_ret (pv 2)))))

/-! is_heavier -/
abbrev N_is_heavier : List Str := ["chances", "lot", "mine", "theirs"]
theorem N_is_heavier_nd : (N_is_heavier).Nodup := by decide +kernel
theorem sc_is_heavier : FnScope N_is_heavier ["chances", "lot"] (defScope (top 55)) := ⟨rfl, rfl, rfl, N_is_heavier_nd, rfl, by decide +kernel, by decide +kernel⟩
abbrev t_is_heavier (K : PySem.W.Frag) (aChances aRatio : Addr) (s_weight_of s_others s_Chancesx_lenx s_Ratiox_eqx s_Ratiox_gtx : Sp) : TS := (tSeq (tAsg (tCl s_weight_of (tCons (tVar 0) (tCons (tVar 1) tNil))) (gName 2)) (tSeq (tAsg (tCl s_weight_of (tCons (tVar 0) (tCons (tCl s_others (tCons (tCB (rLenO aChances s_Chancesx_lenx) (tCons (tVar 0) tNil)) (tCons (tVar 1) tNil))) tNil))) (gName 3)) (tSeq (tIfS (tTest (tOp (rOw aRatio s_Ratiox_eqx) (tVar 2) (tVar 3))) (tRet (tOp (rIn K false) (tC (.int 0)) (tVar 1))) tNext) (tRet (tOp (rOw aRatio s_Ratiox_gtx) (tVar 2) (tVar 3))))))
theorem rd_is_heavier {P : Program} {w : World} {K : PySem.W.Frag} {mg : Str → Option Value} {base : Heap} {aChances aRatio : Addr} {s_weight_of s_others s_Chancesx_lenx s_Ratiox_eqx s_Ratiox_gtx : Sp} (B : Bi mg) (g_weight_of : GF P w K mg base 7 "weight_of" s_weight_of) (g_others : GF P w K mg base 4 "others" s_others) (o_Chancesx_lenx : OpF P w K mg base 1 aChances "__len__" s_Chancesx_lenx) (o_Ratiox_eqx : OpF P w K mg base 1 aRatio "__eq__" s_Ratiox_eqx) (o_Ratiox_gtx : OpF P w K mg base 6 aRatio "__gt__" s_Ratiox_gtx) {f : Addr} {cdv : Value} {A : Around} {outer : List Env} {s : Shared} {H : Hp} {E : XK} (hr : Room 7 (A.deeper (envOfC "is_heavier" (defScope (top 55)) s.heap.objs.size f cdv))) : PSs (cxOf CX0 P w K mg base N_is_heavier "is_heavier" (defScope (top 55)) f cdv A outer s H E) (defBody (top 55)) (t_is_heavier K aChances aRatio s_weight_of s_others s_Chancesx_lenx s_Ratiox_eqx s_Ratiox_gtx) := by
  exact PSs.nox (pss_cons (ps_set (i := 2) N_is_heavier_nd rfl (by first | exact Or.inl rfl | exact Or.inr rfl) (pe_g g_weight_of hr (by decide) (by rfl) (pa_cons (pv 0) (pa_cons (pv 1) pa_nil)))) (pss_cons (ps_set (i := 3) N_is_heavier_nd rfl (by first | exact Or.inl rfl | exact Or.inr rfl) (pe_g g_weight_of hr (by decide) (by rfl) (pa_cons (pv 0) (pa_cons (pe_g g_others hr (by decide) (by rfl) (pa_cons (pe_callB (call_lenO o_Chancesx_lenx hr (by decide)) (by rfl) B.len bb_len (pa_cons (pv 0) pa_nil)) (pa_cons (pv 1) pa_nil))) pa_nil)))) (pss_cons (ps_if (pt_cmpR (cmp_own o_Ratiox_eqx hr (by decide)) (pv 2) (pv 3) (nomark _)) (pss_one (ps_ret (pe_cmpR op_in_seq pe_int (pv 1) (by rfl)))) pss_nil) (pss_one (ps_ret (pe_cmpR (cmp_own o_Ratiox_gtx hr (by decide)) (pv 2) (pv 3) (nomark _)))))))

/-! heavy -/
abbrev N_heavy : List Str := ["chances", "lots", "lot"]
theorem N_heavy_nd : (N_heavy).Nodup := by decide +kernel
theorem sc_heavy : FnScope N_heavy ["chances"] (defScope (top 56)) := ⟨rfl, rfl, rfl, N_heavy_nd, rfl, by decide +kernel, by decide +kernel⟩
abbrev t_heavy (K : PySem.W.Frag) (aChances : Addr) (s_all_lots s_Chancesx_lenx s_is_heavier s_Familyx_initx : Sp) : TS := (tSeq (tAsg (tLc (iList K (tCl s_all_lots (tCons (tCB (rLenO aChances s_Chancesx_lenx) (tCons (tVar 0) tNil)) tNil))) (gName 2) (tB (tCl s_is_heavier (tCons (tVar 0) (tCons (tVar 2) tNil)))) (tVar 2) [2]) (gName 1)) (tRet (tCl s_Familyx_initx (tCons (tCB (rLenO aChances s_Chancesx_lenx) (tCons (tVar 0) tNil)) (StX.tStar K (tVar 1) tNil)))))
theorem rd_heavy {P : Program} {w : World} {K : PySem.W.Frag} {mg : Str → Option Value} {base : Heap} {aChances : Addr} {s_all_lots s_Chancesx_lenx s_is_heavier s_Familyx_initx : Sp} (B : Bi mg) (g_all_lots : GF P w K mg base 3 "all_lots" s_all_lots) (o_Chancesx_lenx : OpF P w K mg base 1 aChances "__len__" s_Chancesx_lenx) (g_is_heavier : GF P w K mg base 8 "is_heavier" s_is_heavier) (m_Family : MF P w K mg base 4 "Family" s_Familyx_initx) {f : Addr} {cdv : Value} {A : Around} {outer : List Env} {s : Shared} {H : Hp} {E : XK} (hr : Room 8 (A.deeper (envOfC "heavy" (defScope (top 56)) s.heap.objs.size f cdv))) : PSs (cxOf CX0 P w K mg base N_heavy "heavy" (defScope (top 56)) f cdv A outer s H E) (defBody (top 56)) (t_heavy K aChances s_all_lots s_Chancesx_lenx s_is_heavier s_Familyx_initx) := by
  exact PSs.nox (pss_cons (ps_setLc (i := 1) (own := [("lot", 2)]) (g := (gName 2)) (tt := (tB (tCl s_is_heavier (tCons (tVar 0) (tCons (tVar 2) tNil))))) (te := (tVar 2))  rfl N_heavy_nd rfl rfl (sw_true rfl rfl rfl (by kernel_rfl)) (pi_list (pe_g g_all_lots hr (by decide) (by rfl) (pa_cons (pe_callB (call_lenO o_Chancesx_lenx hr (by decide)) (by rfl) B.len bb_len (pa_cons (pv 0) pa_nil)) pa_nil))) (blkOk_by (by kernel_rfl)) (fun _ _ _ _ _ => (pg_name (i := 2) N_heavy_nd rfl (by first | exact Or.inl rfl | exact Or.inr rfl))) (fun _ _ _ _ _ => (pts_one (pt_val (pe_g g_is_heavier hr (by decide) (by rfl) (pa_cons (pv 0) (pa_cons (pv 2) pa_nil)))))) (fun _ _ _ _ _ => (pv 2))) (pss_one (ps_ret (pe_mkS m_Family hr (by decide) (by rfl) (pa_cons (pe_callB (call_lenO o_Chancesx_lenx hr (by decide)) (by rfl) B.len bb_len (pa_cons (pv 0) pa_nil)) (StX.pa_star (pv 1) pa_nil))))))

/-! strict_writes -/
abbrev N_strict_writes : List Str := ["chances", "share"]
theorem N_strict_writes_nd : (N_strict_writes).Nodup := by decide +kernel
theorem sc_strict_writes : FnScope N_strict_writes ["chances", "share"] (defScope (top 57)) := ⟨rfl, rfl, rfl, N_strict_writes_nd, rfl, by decide +kernel, by decide +kernel⟩
abbrev t_strict_writes (K : PySem.W.Frag) (aRatio : Addr) (s_check_share s_Ratio_half s_Ratiox_gex s_least_writes s_heavy : Sp) : TS := (tSeq (tDrop (tCl s_check_share (tCons (tVar 1) tNil))) (tSeq (tIfS (tTest (tOp (rOw aRatio s_Ratiox_gex) (tVar 1) (tCl s_Ratio_half tNil))) (tRet (tCl s_least_writes (tCons (tVar 0) (tCons (tVar 1) tNil)))) tNext) (tRet (tCl s_heavy (tCons (tVar 0) tNil)))))
theorem rd_strict_writes {P : Program} {w : World} {K : PySem.W.Frag} {mg : Str → Option Value} {base : Heap} {aRatio : Addr} {s_check_share s_Ratio_half s_Ratiox_gex s_least_writes s_heavy : Sp} (B : Bi mg) (g_check_share : GF P w K mg base 7 "check_share" s_check_share) (n_Ratio : mg "Ratio" = some (.ref aRatio)) (u_Ratio_half : UF P w K mg base 5 aRatio "half" s_Ratio_half) (o_Ratiox_gex : OpF P w K mg base 6 aRatio "__ge__" s_Ratiox_gex) (g_least_writes : GF P w K mg base 10 "least_writes" s_least_writes) (g_heavy : GF P w K mg base 9 "heavy" s_heavy) {f : Addr} {cdv : Value} {A : Around} {outer : List Env} {s : Shared} {H : Hp} {E : XK} (hr : Room 10 (A.deeper (envOfC "strict_writes" (defScope (top 57)) s.heap.objs.size f cdv))) : PSs (cxOf CX0 P w K mg base N_strict_writes "strict_writes" (defScope (top 57)) f cdv A outer s H E) (defBody (top 57)) (t_strict_writes K aRatio s_check_share s_Ratio_half s_Ratiox_gex s_least_writes s_heavy) := by
  exact PSs.nox (pss_cons (ps_expr (pe_g g_check_share hr (by decide) (by rfl) (pa_cons (pv 1) pa_nil))) (pss_cons (ps_if (pt_cmpR (cmp_own o_Ratiox_gex hr (by decide)) (pv 1) (pe_u0 u_Ratio_half (by rfl) n_Ratio hr (by decide)) (nomark _)) (pss_one (ps_ret (pe_g g_least_writes hr (by decide) (by rfl) (pa_cons (pv 0) (pa_cons (pv 1) pa_nil))))) pss_nil) (pss_one (ps_ret (pe_g g_heavy hr (by decide) (by rfl) (pa_cons (pv 0) pa_nil))))))

/-! most_strict -/
abbrev N_most_strict : List Str := ["chances", "share"]
theorem N_most_strict_nd : (N_most_strict).Nodup := by decide +kernel
theorem sc_most_strict : FnScope N_most_strict ["chances", "share"] (defScope (top 58)) := ⟨rfl, rfl, rfl, N_most_strict_nd, rfl, by decide +kernel, by decide +kernel⟩
abbrev t_most_strict (K : PySem.W.Frag) (aChances aRatio : Addr) (s_check_share s_Ratio_half s_Ratiox_gex s_most_worth s_Chances_up s_heavy : Sp) : TS := (tSeq (tDrop (tCl s_check_share (tCons (tVar 1) tNil))) (tSeq (tIfS (tTest (tOp (rOw aRatio s_Ratiox_gex) (tVar 1) (tCl s_Ratio_half tNil))) (tRet (tCl s_most_worth (tCons (tVar 0) (tCons (tVar 1) tNil)))) tNext) (tRet (tMt aChances "up" s_Chances_up (tVar 0) (tCons (tCl s_heavy (tCons (tVar 0) tNil)) tNil)))))
theorem rd_most_strict {P : Program} {w : World} {K : PySem.W.Frag} {mg : Str → Option Value} {base : Heap} {aChances aRatio : Addr} {s_check_share s_Ratio_half s_Ratiox_gex s_most_worth s_Chances_up s_heavy : Sp} (B : Bi mg) (g_check_share : GF P w K mg base 7 "check_share" s_check_share) (n_Ratio : mg "Ratio" = some (.ref aRatio)) (u_Ratio_half : UF P w K mg base 5 aRatio "half" s_Ratio_half) (o_Ratiox_gex : OpF P w K mg base 6 aRatio "__ge__" s_Ratiox_gex) (g_most_worth : GF P w K mg base 10 "most_worth" s_most_worth) (t_Chances_up : TF P w K mg base 8 aChances "up" s_Chances_up) (g_heavy : GF P w K mg base 9 "heavy" s_heavy) {f : Addr} {cdv : Value} {A : Around} {outer : List Env} {s : Shared} {H : Hp} {E : XK} (hr : Room 10 (A.deeper (envOfC "most_strict" (defScope (top 58)) s.heap.objs.size f cdv))) : PSs (cxOf CX0 P w K mg base N_most_strict "most_strict" (defScope (top 58)) f cdv A outer s H E) (defBody (top 58)) (t_most_strict K aChances aRatio s_check_share s_Ratio_half s_Ratiox_gex s_most_worth s_Chances_up s_heavy) := by
  exact PSs.nox (pss_cons (ps_expr (pe_g g_check_share hr (by decide) (by rfl) (pa_cons (pv 1) pa_nil))) (pss_cons (ps_if (pt_cmpR (cmp_own o_Ratiox_gex hr (by decide)) (pv 1) (pe_u0 u_Ratio_half (by rfl) n_Ratio hr (by decide)) (nomark _)) (pss_one (ps_ret (pe_g g_most_worth hr (by decide) (by rfl) (pa_cons (pv 0) (pa_cons (pv 1) pa_nil))))) pss_nil) (pss_one (ps_ret (pe_t (pv 0) t_Chances_up hr (by decide) (pa_cons (pe_g g_heavy hr (by decide) (by rfl) (pa_cons (pv 0) pa_nil)) pa_nil))))))

/-! is_best_strict -/
abbrev N_is_best_strict : List Str := ["chances", "share", "writes"]
theorem N_is_best_strict_nd : (N_is_best_strict).Nodup := by decide +kernel
theorem sc_is_best_strict : FnScope N_is_best_strict ["chances", "share", "writes"] (defScope (top 59)) := ⟨rfl, rfl, rfl, N_is_best_strict_nd, rfl, by decide +kernel, by decide +kernel⟩
abbrev t_is_best_strict (K : PySem.W.Frag) (aChances aFamily aRatio : Addr) (s_check_share s_Chancesx_lenx s_Family_is_strict s_worth s_Family_dual s_most_strict s_Ratiox_eqx : Sp) : TS := (tSeq (tDrop (tCl s_check_share (tCons (tVar 1) tNil))) (tSeq (tIfS (tTest (tOp rNe (tFld K (tVar 2) "copies") (tCB (rLenO aChances s_Chancesx_lenx) (tCons (tVar 0) tNil)))) tNever tNext) (tRet (tAndV (tMt aFamily "is_strict" s_Family_is_strict (tVar 2) tNil) (tOp (rOw aRatio s_Ratiox_eqx) (tCl s_worth (tCons (tVar 0) (tCons (tVar 1) (tCons (tMt aFamily "dual" s_Family_dual (tVar 2) tNil) (tCons (tVar 2) tNil))))) (tCl s_most_strict (tCons (tVar 0) (tCons (tVar 1) tNil))))))))
theorem rd_is_best_strict {P : Program} {w : World} {K : PySem.W.Frag} {mg : Str → Option Value} {base : Heap} {aChances aFamily aRatio : Addr} {s_check_share s_Chancesx_lenx s_Family_is_strict s_worth s_Family_dual s_most_strict s_Ratiox_eqx : Sp} (B : Bi mg) (g_check_share : GF P w K mg base 7 "check_share" s_check_share) (o_Chancesx_lenx : OpF P w K mg base 1 aChances "__len__" s_Chancesx_lenx) (t_Family_is_strict : TF P w K mg base 3 aFamily "is_strict" s_Family_is_strict) (g_worth : GF P w K mg base 9 "worth" s_worth) (t_Family_dual : TF P w K mg base 6 aFamily "dual" s_Family_dual) (g_most_strict : GF P w K mg base 11 "most_strict" s_most_strict) (o_Ratiox_eqx : OpF P w K mg base 1 aRatio "__eq__" s_Ratiox_eqx) {f : Addr} {cdv : Value} {A : Around} {outer : List Env} {s : Shared} {H : Hp} {E : XK} (hr : Room 11 (A.deeper (envOfC "is_best_strict" (defScope (top 59)) s.heap.objs.size f cdv))) : PSs (cxOf CX0 P w K mg base N_is_best_strict "is_best_strict" (defScope (top 59)) f cdv A outer s H E) (defBody (top 59)) (t_is_best_strict K aChances aFamily aRatio s_check_share s_Chancesx_lenx s_Family_is_strict s_worth s_Family_dual s_most_strict s_Ratiox_eqx) := by
  exact PSs.nox (pss_cons (ps_expr (pe_g g_check_share hr (by decide) (by rfl) (pa_cons (pv 1) pa_nil))) (pss_cons (ps_if (pt_cmpR op_ne (pe_fld (pv 2) rfl) (pe_callB (call_lenO o_Chancesx_lenx hr (by decide)) (by rfl) B.len bb_len (pa_cons (pv 0) pa_nil)) (nomark _)) pss_never pss_nil) (pss_one (ps_ret (pe_and (pe_t0 (pv 2) t_Family_is_strict hr (by decide)) (pe_one (pe_cmpR (cmp_own o_Ratiox_eqx hr (by decide)) (pe_g g_worth hr (by decide) (by rfl) (pa_cons (pv 0) (pa_cons (pv 1) (pa_cons (pe_t0 (pv 2) t_Family_dual hr (by decide)) (pa_cons (pv 2) pa_nil))))) (pe_g g_most_strict hr (by decide) (by rfl) (pa_cons (pv 0) (pa_cons (pv 1) pa_nil))) (nomark _))))))))

/-! _law_start -/
abbrev N_law_start : List Str := ["_law_script", "_law_first"]
theorem N_law_start_nd : (N_law_start).Nodup := by decide +kernel
theorem sc_law_start : FnScope N_law_start ["_law_script"] (defScope (top 61)) := ⟨rfl, rfl, rfl, N_law_start_nd, rfl, by decide +kernel, by decide +kernel⟩
abbrev t_law_start (K : PySem.W.Frag) : TS := (tSeq (tAsg (tC (.int 0)) (gName 1)) (tSeq (tIfS (tTest (tOp qGt (tCB (rLenS K) (tCons (tVar 0) tNil)) (tC (.int 0)))) (tAsg (tOp (rIxL K) (tVar 0) (tC (.int 0))) (gName 1)) tNext) (tRet (tLst (tCons (tCB cAbs (tCons (tCB cInt (tCons (tVar 1) tNil)) tNil)) (tCons (tCB cInt (tCons (tOp qGe (tCB cAbs (tCons (tCB cInt (tCons (tVar 1) tNil)) tNil)) (tOp qPow (tC (.int 10)) (tC (.int 18)))) tNil)) (tCons (tC (.int 1)) (tCons (tC (.int 0)) tNil))))))))
theorem rd_law_start {P : Program} {w : World} {K : PySem.W.Frag} {mg : Str → Option Value} {base : Heap} (B : Bi mg)  {f : Addr} {cdv : Value} {A : Around} {outer : List Env} {s : Shared} {H : Hp} {E : XK} (hr : Room 0 (A.deeper (envOfC "_law_start" (defScope (top 61)) s.heap.objs.size f cdv))) : PSs (cxOf CX0 P w K mg base N_law_start "_law_start" (defScope (top 61)) f cdv A outer s H E) (defBody (top 61)) (t_law_start K ) := by
  exact PSs.nox (pss_cons (ps_set (i := 1) N_law_start_nd rfl (by first | exact Or.inl rfl | exact Or.inr rfl) pe_int) (pss_cons (ps_if (pt_cmpR op_gt (pe_callB call_len_seq (by rfl) B.len bb_len (pa_cons (pv 0) pa_nil)) pe_int (nomark _)) (pss_one (ps_set (i := 1) N_law_start_nd rfl (by first | exact Or.inl rfl | exact Or.inr rfl) (pe_ix ix_list (pv 0) pe_int (fun _ _ => rfl)))) pss_nil) (pss_one (ps_ret (pe_lst (pa_cons (pe_callB call_abs (by rfl) B.abs bb_abs (pa_cons (pe_callTy call_int1 (by rfl) B.int bb_int (pa_cons (pv 1) pa_nil)) pa_nil)) (pa_cons (pe_callTy call_int1 (by rfl) B.int bb_int (pa_cons (pe_cmpR op_ge (pe_callB call_abs (by rfl) B.abs bb_abs (pa_cons (pe_callTy call_int1 (by rfl) B.int bb_int (pa_cons (pv 1) pa_nil)) pa_nil)) (pe_op op_pow pe_int pe_int) (nomark _)) pa_nil)) (pa_cons pe_int (pa_cons pe_int pa_nil)))))))))

/-! _law_draw -/
abbrev N_law_draw : List Str := ["_law_script", "_law_state", "_law_limit", "_law_cell", "_law_mixed", "_law_number"]
theorem N_law_draw_nd : (N_law_draw).Nodup := by decide +kernel
theorem sc_law_draw : FnScope N_law_draw ["_law_script", "_law_state", "_law_limit"] (defScope (top 62)) := ⟨rfl, rfl, rfl, N_law_draw_nd, rfl, by decide +kernel, by decide +kernel⟩
abbrev t_law_draw (K : PySem.W.Frag) : TS := (tSeq (tAsg (tOp qAdd (tOp (rIxL K) (tVar 1) (tC (.int 3))) (tC (.int 1))) (gSub (tVar 1) (tC (.int 3)) rSetL)) (tSeq (tIfS (tAnd (tTest (tOp rEq (tOp (rIxL K) (tVar 1) (tC (.int 1))) (tC (.int 1)))) (tTest (tOp qGt (tOp (rIxL K) (tVar 1) (tC (.int 0))) (tC (.int 0))))) (tSeq (tAsg (tOp qMod (tCB cInt (tCons (tOp (rIxL K) (tVar 1) (tC (.int 0))) tNil)) (tVar 2)) (gName 5)) (tSeq (tAsg (tOp qDiv (tOp (rIxL K) (tVar 1) (tC (.int 0))) (tVar 2)) (gSub (tVar 1) (tC (.int 0)) rSetL)) (tRet (tVar 5)))) tNext) (tSeq (tAsg (tC (.int 0)) (gSub (tVar 1) (tC (.int 1)) rSetL)) (tSeq (tAsg (tC (.int 0)) (gName 3)) (tSeq (tIfS (tTest (tOp qGt (tCB (rLenS K) (tCons (tVar 0) tNil)) (tC (.int 0)))) (tAsg (tOp (rIxL K) (tVar 0) (tOp qMod (tCB cInt (tCons (tOp (rIxL K) (tVar 1) (tC (.int 2))) tNil)) (tCB (rLenS K) (tCons (tVar 0) tNil)))) (gName 3)) tNext) (tSeq (tAsg (tOp qAdd (tOp (rIxL K) (tVar 1) (tC (.int 2))) (tC (.int 1))) (gSub (tVar 1) (tC (.int 2)) rSetL)) (tSeq (tAsg (tOp qMul (tOp qMod (tCB cInt (tCons (tOp (rIxL K) (tVar 1) (tC (.int 0))) tNil)) (tC (.int 2147483647))) (tC (.int 48271))) (gName 4)) (tSeq (tAsg (tOp qAdd (tOp qAdd (tOp qAdd (tVar 4) (tOp qMod (tCB cInt (tCons (tVar 3) tNil)) (tC (.int 2147483629)))) (tOp qMul (tC (.int 7)) (tOp (rIxL K) (tVar 1) (tC (.int 3))))) (tC (.int 11))) (gName 4)) (tSeq (tAsg (tOp qMod (tCB cInt (tCons (tVar 4) tNil)) (tC (.int 2147483647))) (gSub (tVar 1) (tC (.int 0)) rSetL)) (tSeq (tAsg (tOp qMod (tCB cInt (tCons (tOp qAdd (tOp qMul (tOp (rIxL K) (tVar 1) (tC (.int 0))) (tC (.int 69621))) (tOp (rIxL K) (tVar 1) (tC (.int 3)))) tNil)) (tC (.int 2147483629))) (gName 4)) (tRet (tOp qMod (tCB cInt (tCons (tOp qDiv (tVar 4) (tC (.int 13))) tNil)) (tVar 2)))))))))))))
theorem rd_law_draw {P : Program} {w : World} {K : PySem.W.Frag} {mg : Str → Option Value} {base : Heap} (B : Bi mg)  {f : Addr} {cdv : Value} {A : Around} {outer : List Env} {s : Shared} {H : Hp} {E : XK} (hr : Room 0 (A.deeper (envOfC "_law_draw" (defScope (top 62)) s.heap.objs.size f cdv))) : PSs (cxOf CX0 P w K mg base N_law_draw "_law_draw" (defScope (top 62)) f cdv A outer s H E) (defBody (top 62)) (t_law_draw K ) := by
  exact PSs.nox (pss_cons (ps_asg (pe_op op_add (pe_ix ix_list (pv 1) pe_int (fun _ _ => rfl)) pe_int) (pg_sub (pv 1) pe_int set_list)) (pss_cons (ps_if (PW.pt (pw_and (pt_cmpR op_eq (pe_ix ix_list (pv 1) pe_int (fun _ _ => rfl)) pe_int (nomark _)) (pw_and1 (pt_cmpR op_gt (pe_ix ix_list (pv 1) pe_int (fun _ _ => rfl)) pe_int (nomark _))))) (pss_cons (ps_set (i := 5) N_law_draw_nd rfl (by first | exact Or.inl rfl | exact Or.inr rfl) (pe_op op_mod (pe_callTy call_int1 (by rfl) B.int bb_int (pa_cons (pe_ix ix_list (pv 1) pe_int (fun _ _ => rfl)) pa_nil)) (pv 2))) (pss_cons (ps_asg (pe_op op_fdivW (pe_ix ix_list (pv 1) pe_int (fun _ _ => rfl)) (pv 2)) (pg_sub (pv 1) pe_int set_list)) (pss_one (ps_ret (pv 5))))) pss_nil) (pss_cons (ps_asg pe_int (pg_sub (pv 1) pe_int set_list)) (pss_cons (ps_set (i := 3) N_law_draw_nd rfl (by first | exact Or.inl rfl | exact Or.inr rfl) pe_int) (pss_cons (ps_if (pt_cmpR op_gt (pe_callB call_len_seq (by rfl) B.len bb_len (pa_cons (pv 0) pa_nil)) pe_int (nomark _)) (pss_one (ps_set (i := 3) N_law_draw_nd rfl (by first | exact Or.inl rfl | exact Or.inr rfl) (pe_ix ix_list (pv 0) (pe_op op_mod (pe_callTy call_int1 (by rfl) B.int bb_int (pa_cons (pe_ix ix_list (pv 1) pe_int (fun _ _ => rfl)) pa_nil)) (pe_callB call_len_seq (by rfl) B.len bb_len (pa_cons (pv 0) pa_nil))) (fun _ _ => rfl)))) pss_nil) (pss_cons (ps_asg (pe_op op_add (pe_ix ix_list (pv 1) pe_int (fun _ _ => rfl)) pe_int) (pg_sub (pv 1) pe_int set_list)) (pss_cons (ps_set (i := 4) N_law_draw_nd rfl (by first | exact Or.inl rfl | exact Or.inr rfl) (pe_op op_mulW (pe_op op_mod (pe_callTy call_int1 (by rfl) B.int bb_int (pa_cons (pe_ix ix_list (pv 1) pe_int (fun _ _ => rfl)) pa_nil)) pe_int) pe_int)) (pss_cons (ps_set (i := 4) N_law_draw_nd rfl (by first | exact Or.inl rfl | exact Or.inr rfl) (pe_op op_add (pe_op op_add (pe_op op_add (pv 4) (pe_op op_mod (pe_callTy call_int1 (by rfl) B.int bb_int (pa_cons (pv 3) pa_nil)) pe_int)) (pe_op op_mulW pe_int (pe_ix ix_list (pv 1) pe_int (fun _ _ => rfl)))) pe_int)) (pss_cons (ps_asg (pe_op op_mod (pe_callTy call_int1 (by rfl) B.int bb_int (pa_cons (pv 4) pa_nil)) pe_int) (pg_sub (pv 1) pe_int set_list)) (pss_cons (ps_set (i := 4) N_law_draw_nd rfl (by first | exact Or.inl rfl | exact Or.inr rfl) (pe_op op_mod (pe_callTy call_int1 (by rfl) B.int bb_int (pa_cons (pe_op op_add (pe_op op_mulW (pe_ix ix_list (pv 1) pe_int (fun _ _ => rfl)) pe_int) (pe_ix ix_list (pv 1) pe_int (fun _ _ => rfl))) pa_nil)) pe_int)) (pss_one (ps_ret (pe_op op_mod (pe_callTy call_int1 (by rfl) B.int bb_int (pa_cons (pe_op op_fdivW (pv 4) pe_int) pa_nil)) (pv 2))))))))))))))

/-! _law_chances -/
abbrev N_law_chances : List Str := ["_law_script", "_law_state", "_law_most", "_law_kind", "_law_chances_here", "_law_k", "_law_under_here", "_law_least", "_law_chance"]
theorem N_law_chances_nd : (N_law_chances).Nodup := by decide +kernel
theorem sc_law_chances : FnScope N_law_chances ["_law_script", "_law_state", "_law_most"] (defScope (top 63)) := ⟨rfl, rfl, rfl, N_law_chances_nd, rfl, by decide +kernel, by decide +kernel⟩
abbrev t_law_chances (K : PySem.W.Frag) (s_law_draw : Sp) : TS := (tSeq (tAsg (tCl s_law_draw (tCons (tVar 0) (tCons (tVar 1) (tCons (tC (.int 4)) tNil)))) (gName 3)) (tSeq (tAsg (tLst tNil) (gName 4)) (tSeq (tFor (iRng1 (tCons (tOp qAdd (tC (.int 1)) (tCl s_law_draw (tCons (tVar 0) (tCons (tVar 1) (tCons (tVar 2) tNil))))) tNil)) (gName 5) (tSeq (tAsg (tOp qAdd (tC (.int 2)) (tCl s_law_draw (tCons (tVar 0) (tCons (tVar 1) (tCons (tC (.int 7)) tNil))))) (gName 6)) (tSeq (tAsg (tOp qDiv (tOp qAdd (tVar 6) (tC (.int 1))) (tC (.int 2))) (gName 7)) (tSeq (tAsg (tTup (tCons (tOp qAdd (tVar 7) (tCl s_law_draw (tCons (tVar 0) (tCons (tVar 1) (tCons (tOp qSub (tVar 6) (tVar 7)) tNil))))) (tCons (tVar 6) tNil))) (gName 8)) (tSeq (tIfS (tAnd (tTest (tOp rEq (tVar 3) (tC (.int 0)))) (tTest (tOp qGt (tVar 5) (tC (.int 0))))) (tAsg (tOp (rIxL K) (tVar 4) (tC (.int 0))) (gName 8)) tNext) (tSeq (tIfS (tTest (tOp rEq (tVar 3) (tC (.int 1)))) (tAsg (tOp (rIxL K) (tLst (tCons (tTup (tCons (tC (.int 1)) (tCons (tC (.int 2)) tNil))) (tCons (tTup (tCons (tC (.int 3)) (tCons (tC (.int 4)) tNil))) tNil))) (tCl s_law_draw (tCons (tVar 0) (tCons (tVar 1) (tCons (tC (.int 2)) tNil))))) (gName 8)) tNext) (tDrop (tBM K "list" rAppend (tVar 4) (tCons (tVar 8) tNil))))))))) (tRet (tVar 4)))))
theorem rd_law_chances {P : Program} {w : World} {K : PySem.W.Frag} {mg : Str → Option Value} {base : Heap} {s_law_draw : Sp} (B : Bi mg) (g_law_draw : GF P w K mg base 1 "_law_draw" s_law_draw) {f : Addr} {cdv : Value} {A : Around} {outer : List Env} {s : Shared} {H : Hp} {E : XK} (hr : Room 1 (A.deeper (envOfC "_law_chances" (defScope (top 63)) s.heap.objs.size f cdv))) : PSs (cxOf CX0 P w K mg base N_law_chances "_law_chances" (defScope (top 63)) f cdv A outer s H E) (defBody (top 63)) (t_law_chances K s_law_draw) := by
  exact PSs.nox (pss_cons (ps_set (i := 3) N_law_chances_nd rfl (by first | exact Or.inl rfl | exact Or.inr rfl) (pe_g g_law_draw hr (by decide) (by rfl) (pa_cons (pv 0) (pa_cons (pv 1) (pa_cons pe_int pa_nil))))) (pss_cons (ps_set (i := 4) N_law_chances_nd rfl (by first | exact Or.inl rfl | exact Or.inr rfl) (pe_lst pa_nil)) (pss_cons (ps_for PassesOwn.never rfl (pi_range1 (by rfl) B.range (pa_cons (pe_op op_add pe_int (pe_g g_law_draw hr (by decide) (by rfl) (pa_cons (pv 0) (pa_cons (pv 1) (pa_cons (pv 2) pa_nil))))) pa_nil)) (pg_name (i := 5) N_law_chances_nd rfl (by first | exact Or.inl rfl | exact Or.inr rfl)) (pss_cons (ps_set (i := 6) N_law_chances_nd rfl (by first | exact Or.inl rfl | exact Or.inr rfl) (pe_op op_add pe_int (pe_g g_law_draw hr (by decide) (by rfl) (pa_cons (pv 0) (pa_cons (pv 1) (pa_cons pe_int pa_nil)))))) (pss_cons (ps_set (i := 7) N_law_chances_nd rfl (by first | exact Or.inl rfl | exact Or.inr rfl) (pe_op op_fdivW (pe_op op_add (pv 6) pe_int) pe_int)) (pss_cons (ps_set (i := 8) N_law_chances_nd rfl (by first | exact Or.inl rfl | exact Or.inr rfl) (pe_tup (pa_cons (pe_op op_add (pv 7) (pe_g g_law_draw hr (by decide) (by rfl) (pa_cons (pv 0) (pa_cons (pv 1) (pa_cons (pe_op op_sub (pv 6) (pv 7)) pa_nil))))) (pa_cons (pv 6) pa_nil)))) (pss_cons (ps_if (PW.pt (pw_and (pt_cmpR op_eq (pv 3) pe_int (nomark _)) (pw_and1 (pt_cmpR op_gt (pv 5) pe_int (nomark _))))) (pss_one (ps_set (i := 8) N_law_chances_nd rfl (by first | exact Or.inl rfl | exact Or.inr rfl) (pe_ix ix_list (pv 4) pe_int (fun _ _ => rfl)))) pss_nil) (pss_cons (ps_if (pt_cmpR op_eq (pv 3) pe_int (nomark _)) (pss_one (ps_set (i := 8) N_law_chances_nd rfl (by first | exact Or.inl rfl | exact Or.inr rfl) (pe_ix ix_list (pe_lst (pa_cons (pe_tup (pa_cons pe_int (pa_cons pe_int pa_nil))) (pa_cons (pe_tup (pa_cons pe_int (pa_cons pe_int pa_nil))) pa_nil))) (pe_g g_law_draw hr (by decide) (by rfl) (pa_cons (pv 0) (pa_cons (pv 1) (pa_cons pe_int pa_nil)))) (fun _ _ => rfl)))) pss_nil) (pss_one (ps_expr (pe_bm PySem.F.plainAttrs_list PySem.F.slot_list_append PySem.F.type_list_append mt_append (pv 4) (pa_cons (pv 8) pa_nil)))))))))) (pss_one (ps_ret (pv 4))))))

/-! _law_share -/
abbrev N_law_share : List Str := ["_law_script", "_law_state", "_law_under_here"]
theorem N_law_share_nd : (N_law_share).Nodup := by decide +kernel
theorem sc_law_share : FnScope N_law_share ["_law_script", "_law_state"] (defScope (top 64)) := ⟨rfl, rfl, rfl, N_law_share_nd, rfl, by decide +kernel, by decide +kernel⟩
abbrev t_law_share (K : PySem.W.Frag) (s_law_draw : Sp) : TS := (tSeq (tAsg (tOp qAdd (tC (.int 1)) (tCl s_law_draw (tCons (tVar 0) (tCons (tVar 1) (tCons (tC (.int 8)) tNil))))) (gName 2)) (tRet (tTup (tCons (tCl s_law_draw (tCons (tVar 0) (tCons (tVar 1) (tCons (tOp qAdd (tVar 2) (tC (.int 1))) tNil)))) (tCons (tVar 2) tNil)))))
theorem rd_law_share {P : Program} {w : World} {K : PySem.W.Frag} {mg : Str → Option Value} {base : Heap} {s_law_draw : Sp} (B : Bi mg) (g_law_draw : GF P w K mg base 1 "_law_draw" s_law_draw) {f : Addr} {cdv : Value} {A : Around} {outer : List Env} {s : Shared} {H : Hp} {E : XK} (hr : Room 1 (A.deeper (envOfC "_law_share" (defScope (top 64)) s.heap.objs.size f cdv))) : PSs (cxOf CX0 P w K mg base N_law_share "_law_share" (defScope (top 64)) f cdv A outer s H E) (defBody (top 64)) (t_law_share K s_law_draw) := by
  exact PSs.nox (pss_cons (ps_set (i := 2) N_law_share_nd rfl (by first | exact Or.inl rfl | exact Or.inr rfl) (pe_op op_add pe_int (pe_g g_law_draw hr (by decide) (by rfl) (pa_cons (pv 0) (pa_cons (pv 1) (pa_cons pe_int pa_nil)))))) (pss_one (ps_ret (pe_tup (pa_cons (pe_g g_law_draw hr (by decide) (by rfl) (pa_cons (pv 0) (pa_cons (pv 1) (pa_cons (pe_op op_add (pv 2) pe_int) pa_nil)))) (pa_cons (pv 2) pa_nil))))))

/-! _law_ratios -/
abbrev N_law_ratios : List Str := ["_law_chances_here", "_law_chance"]
theorem N_law_ratios_nd : (N_law_ratios).Nodup := by decide +kernel
theorem sc_law_ratios : FnScope N_law_ratios ["_law_chances_here"] (defScope (top 65)) := ⟨rfl, rfl, rfl, N_law_ratios_nd, rfl, by decide +kernel, by decide +kernel⟩
abbrev t_law_ratios (K : PySem.W.Frag) (s_Ratiox_initx : Sp) : TS := (tRet (tLc (iList K (tVar 0)) (gName 1) tYes (tCl s_Ratiox_initx (tCons (tOp (rIxT K) (tVar 1) (tC (.int 0))) (tCons (tOp (rIxT K) (tVar 1) (tC (.int 1))) tNil))) [1]))
theorem rd_law_ratios {P : Program} {w : World} {K : PySem.W.Frag} {mg : Str → Option Value} {base : Heap} {s_Ratiox_initx : Sp} (B : Bi mg) (m_Ratio : MF P w K mg base 3 "Ratio" s_Ratiox_initx) {f : Addr} {cdv : Value} {A : Around} {outer : List Env} {s : Shared} {H : Hp} {E : XK} (hr : Room 4 (A.deeper (envOfC "_law_ratios" (defScope (top 65)) s.heap.objs.size f cdv))) : PSs (cxOf CX0 P w K mg base N_law_ratios "_law_ratios" (defScope (top 65)) f cdv A outer s H E) (defBody (top 65)) (t_law_ratios K s_Ratiox_initx) := by
  exact PSs.nox (pss_one (ps_ret (pe_lc (own := [("_law_chance", 1)]) (g := (gName 1)) (tt := tYes) (te := (tCl s_Ratiox_initx (tCons (tOp (rIxT K) (tVar 1) (tC (.int 0))) (tCons (tOp (rIxT K) (tVar 1) (tC (.int 1))) tNil)))) rfl N_law_ratios_nd (pi_list (pv 0)) (blkOk_by (by kernel_rfl)) (fun _ _ _ _ _ => (pg_name (i := 1) N_law_ratios_nd rfl (by first | exact Or.inl rfl | exact Or.inr rfl))) (fun _ _ _ _ _ => pts_nil) (fun _ _ _ _ _ => (pe_mk m_Ratio hr (by decide) (by rfl) (pa_cons (pe_ix ix_tup (pv 1) pe_int (fun _ _ => rfl)) (pa_cons (pe_ix ix_tup (pv 1) pe_int (fun _ _ => rfl)) pa_nil)))))))

/-! _law_made -/
abbrev N_law_made : List Str := ["_law_chances_here", "_law_ratios_here", "_law_made_here", "_law_ratio"]
theorem N_law_made_nd : (N_law_made).Nodup := by decide +kernel
theorem sc_law_made : FnScope N_law_made ["_law_chances_here"] (defScope (top 66)) := ⟨rfl, rfl, rfl, N_law_made_nd, rfl, by decide +kernel, by decide +kernel⟩
abbrev t_law_made (K : PySem.W.Frag) (aChances : Addr) (s_law_ratios s_Chancesx_initx s_Chancesx_addx : Sp) : TS := (tSeq (tAsg (tCl s_law_ratios (tCons (tVar 0) tNil)) (gName 1)) (tSeq (tAsg (tCl s_Chancesx_initx (tCons (tOp (rIxL K) (tVar 1) (tC (.int 0))) tNil)) (gName 2)) (tSeq (tFor (iList K (tSl (rSlL K) (tVar 1) (tPart (tC (.int 1))) tNoPart)) (gName 3) (tAsg (tOp (rOw aChances s_Chancesx_addx) (tVar 2) (tCl s_Chancesx_initx (tCons (tVar 3) tNil))) (gName 2))) (tRet (tVar 2)))))
theorem rd_law_made {P : Program} {w : World} {K : PySem.W.Frag} {mg : Str → Option Value} {base : Heap} {aChances : Addr} {s_law_ratios s_Chancesx_initx s_Chancesx_addx : Sp} (B : Bi mg) (g_law_ratios : GF P w K mg base 5 "_law_ratios" s_law_ratios) (m_Chances : MF P w K mg base 8 "Chances" s_Chancesx_initx) (o_Chancesx_addx : OpF P w K mg base 10 aChances "__add__" s_Chancesx_addx) {f : Addr} {cdv : Value} {A : Around} {outer : List Env} {s : Shared} {H : Hp} {E : XK} (hr : Room 10 (A.deeper (envOfC "_law_made" (defScope (top 66)) s.heap.objs.size f cdv))) : PSs (cxOf CX0 P w K mg base N_law_made "_law_made" (defScope (top 66)) f cdv A outer s H E) (defBody (top 66)) (t_law_made K aChances s_law_ratios s_Chancesx_initx s_Chancesx_addx) := by
  exact PSs.nox (pss_cons (ps_set (i := 1) N_law_made_nd rfl (by first | exact Or.inl rfl | exact Or.inr rfl) (pe_g g_law_ratios hr (by decide) (by rfl) (pa_cons (pv 0) pa_nil))) (pss_cons (ps_set (i := 2) N_law_made_nd rfl (by first | exact Or.inl rfl | exact Or.inr rfl) (pe_mk m_Chances hr (by decide) (by rfl) (pa_cons (pe_ix ix_list (pv 1) pe_int (fun _ _ => rfl)) pa_nil))) (pss_cons (ps_for PassesOwn.never rfl (pi_list (pe_slice sl_list (pv 1) (po_some pe_int) po_none)) (pg_name (i := 3) N_law_made_nd rfl (by first | exact Or.inl rfl | exact Or.inr rfl)) (pss_one (ps_set (i := 2) N_law_made_nd rfl (by first | exact Or.inl rfl | exact Or.inr rfl) (pe_op (op_own o_Chancesx_addx hr (by decide)) (pv 2) (pe_mk m_Chances hr (by decide) (by rfl) (pa_cons (pv 3) pa_nil)))))) (pss_one (ps_ret (pv 2))))))

/-! _law_power -/
abbrev N_law_power : List Str := ["_law_many", "_law_found", "_law_k"]
theorem N_law_power_nd : (N_law_power).Nodup := by decide +kernel
theorem sc_law_power : FnScope N_law_power ["_law_many"] (defScope (top 67)) := ⟨rfl, rfl, rfl, N_law_power_nd, rfl, by decide +kernel, by decide +kernel⟩
abbrev t_law_power (K : PySem.W.Frag) : TS := (tSeq (tAsg (tC (.int 1)) (gName 1)) (tSeq (tFor (iRng1 (tCons (tVar 0) tNil)) (gName 2) (tAsg (tOp qMul (tVar 1) (tC (.int 2))) (gName 1))) (tRet (tVar 1))))
theorem rd_law_power {P : Program} {w : World} {K : PySem.W.Frag} {mg : Str → Option Value} {base : Heap} (B : Bi mg)  {f : Addr} {cdv : Value} {A : Around} {outer : List Env} {s : Shared} {H : Hp} {E : XK} (hr : Room 0 (A.deeper (envOfC "_law_power" (defScope (top 67)) s.heap.objs.size f cdv))) : PSs (cxOf CX0 P w K mg base N_law_power "_law_power" (defScope (top 67)) f cdv A outer s H E) (defBody (top 67)) (t_law_power K ) := by
  exact PSs.nox (pss_cons (ps_set (i := 1) N_law_power_nd rfl (by first | exact Or.inl rfl | exact Or.inr rfl) pe_int) (pss_cons (ps_for PassesOwn.never rfl (pi_range1 (by rfl) B.range (pa_cons (pv 0) pa_nil)) (pg_name (i := 2) N_law_power_nd rfl (by first | exact Or.inl rfl | exact Or.inr rfl)) (pss_one (ps_set (i := 1) N_law_power_nd rfl (by first | exact Or.inl rfl | exact Or.inr rfl) (pe_op op_mulW (pv 1) pe_int)))) (pss_one (ps_ret (pv 1)))))

/-! _law_has -/
abbrev N_law_has : List Str := ["_law_code", "_law_copy"]
theorem N_law_has_nd : (N_law_has).Nodup := by decide +kernel
theorem sc_law_has : FnScope N_law_has ["_law_code", "_law_copy"] (defScope (top 68)) := ⟨rfl, rfl, rfl, N_law_has_nd, rfl, by decide +kernel, by decide +kernel⟩
abbrev t_law_has (K : PySem.W.Frag) (s_law_power : Sp) : TS := (tRet (tOp rEq (tOp qMod (tOp qDiv (tVar 0) (tCl s_law_power (tCons (tVar 1) tNil))) (tC (.int 2))) (tC (.int 1))))
theorem rd_law_has {P : Program} {w : World} {K : PySem.W.Frag} {mg : Str → Option Value} {base : Heap} {s_law_power : Sp} (B : Bi mg) (g_law_power : GF P w K mg base 1 "_law_power" s_law_power) {f : Addr} {cdv : Value} {A : Around} {outer : List Env} {s : Shared} {H : Hp} {E : XK} (hr : Room 1 (A.deeper (envOfC "_law_has" (defScope (top 68)) s.heap.objs.size f cdv))) : PSs (cxOf CX0 P w K mg base N_law_has "_law_has" (defScope (top 68)) f cdv A outer s H E) (defBody (top 68)) (t_law_has K s_law_power) := by
  exact PSs.nox (pss_one (ps_ret (pe_cmpR op_eq (pe_op op_mod (pe_op op_fdivW (pv 0) (pe_g g_law_power hr (by decide) (by rfl) (pa_cons (pv 1) pa_nil))) pe_int) pe_int (nomark _))))

/-! _law_lot -/
abbrev N_law_lot : List Str := ["_law_many", "_law_code", "_law_copy"]
theorem N_law_lot_nd : (N_law_lot).Nodup := by decide +kernel
theorem sc_law_lot : FnScope N_law_lot ["_law_many", "_law_code"] (defScope (top 69)) := ⟨rfl, rfl, rfl, N_law_lot_nd, rfl, by decide +kernel, by decide +kernel⟩
abbrev t_law_lot (K : PySem.W.Frag) (s_law_has : Sp) : TS := (tRet (tThen (tLc (iRng1 (tCons (tVar 0) tNil)) (gName 2) (tB (tCl s_law_has (tCons (tVar 1) (tCons (tVar 2) tNil)))) (tVar 2) [2]) (kTup K)))
theorem rd_law_lot {P : Program} {w : World} {K : PySem.W.Frag} {mg : Str → Option Value} {base : Heap} {s_law_has : Sp} (B : Bi mg) (g_law_has : GF P w K mg base 2 "_law_has" s_law_has) {f : Addr} {cdv : Value} {A : Around} {outer : List Env} {s : Shared} {H : Hp} {E : XK} (hr : Room 2 (A.deeper (envOfC "_law_lot" (defScope (top 69)) s.heap.objs.size f cdv))) : PSs (cxOf CX0 P w K mg base N_law_lot "_law_lot" (defScope (top 69)) f cdv A outer s H E) (defBody (top 69)) (t_law_lot K s_law_has) := by
  exact PSs.nox (pss_one (ps_ret (pe_tupleOf (by rfl) B.tuple (pe_lc (own := [("_law_copy", 2)]) (g := (gName 2)) (tt := (tB (tCl s_law_has (tCons (tVar 1) (tCons (tVar 2) tNil))))) (te := (tVar 2)) rfl N_law_lot_nd (pi_range1 (by rfl) B.range (pa_cons (pv 0) pa_nil)) (blkOk_by (by kernel_rfl)) (fun _ _ _ _ _ => (pg_name (i := 2) N_law_lot_nd rfl (by first | exact Or.inl rfl | exact Or.inr rfl))) (fun _ _ _ _ _ => (pts_one (pt_val (pe_g g_law_has hr (by decide) (by rfl) (pa_cons (pv 1) (pa_cons (pv 2) pa_nil)))))) (fun _ _ _ _ _ => (pv 2))))))

/-! _law_alone -/
abbrev N_law_alone : List Str := ["_law_chances_here", "_law_code", "_law_found", "_law_copy", "_law_over", "_law_under_here"]
theorem N_law_alone_nd : (N_law_alone).Nodup := by decide +kernel
theorem sc_law_alone : FnScope N_law_alone ["_law_chances_here", "_law_code"] (defScope (top 70)) := ⟨rfl, rfl, rfl, N_law_alone_nd, rfl, by decide +kernel, by decide +kernel⟩
abbrev t_law_alone (K : PySem.W.Frag) (s_law_has : Sp) : TS := (tSeq (tAsg (tC (.int 1)) (gName 2)) (tSeq (tFor (iRng1 (tCons (tCB (rLenS K) (tCons (tVar 0) tNil)) tNil)) (gName 3) (tSeq (tAsg (tOp (rIxL K) (tVar 0) (tVar 3)) (gTup K 2 (gCons (gName 4) (gCons (gName 5) gNil)))) (tAsg (tOp qMul (tVar 2) (tOp (rIxL K) (tLst (tCons (tOp qSub (tVar 5) (tVar 4)) (tCons (tVar 4) tNil))) (tCB cInt (tCons (tCl s_law_has (tCons (tVar 1) (tCons (tVar 3) tNil))) tNil)))) (gName 2)))) (tRet (tVar 2))))
theorem rd_law_alone {P : Program} {w : World} {K : PySem.W.Frag} {mg : Str → Option Value} {base : Heap} {s_law_has : Sp} (B : Bi mg) (g_law_has : GF P w K mg base 2 "_law_has" s_law_has) {f : Addr} {cdv : Value} {A : Around} {outer : List Env} {s : Shared} {H : Hp} {E : XK} (hr : Room 2 (A.deeper (envOfC "_law_alone" (defScope (top 70)) s.heap.objs.size f cdv))) : PSs (cxOf CX0 P w K mg base N_law_alone "_law_alone" (defScope (top 70)) f cdv A outer s H E) (defBody (top 70)) (t_law_alone K s_law_has) := by
  exact PSs.nox (pss_cons (ps_set (i := 2) N_law_alone_nd rfl (by first | exact Or.inl rfl | exact Or.inr rfl) pe_int) (pss_cons (ps_for PassesOwn.never rfl (pi_range1 (by rfl) B.range (pa_cons (pe_callB call_len_seq (by rfl) B.len bb_len (pa_cons (pv 0) pa_nil)) pa_nil)) (pg_name (i := 3) N_law_alone_nd rfl (by first | exact Or.inl rfl | exact Or.inr rfl)) (pss_cons (ps_asg (pe_ix ix_list (pv 0) (pv 3) (fun _ _ => rfl)) (pg_tup rfl (pgs_cons (pg_name (i := 4) N_law_alone_nd rfl (by first | exact Or.inl rfl | exact Or.inr rfl)) (pgs_cons (pg_name (i := 5) N_law_alone_nd rfl (by first | exact Or.inl rfl | exact Or.inr rfl)) pgs_nil)))) (pss_one (ps_set (i := 2) N_law_alone_nd rfl (by first | exact Or.inl rfl | exact Or.inr rfl) (pe_op op_mulW (pv 2) (pe_ix ix_list (pe_lst (pa_cons (pe_op op_sub (pv 5) (pv 4)) (pa_cons (pv 4) pa_nil))) (pe_callTy call_int1 (by rfl) B.int bb_int (pa_cons (pe_g g_law_has hr (by decide) (by rfl) (pa_cons (pv 1) (pa_cons (pv 3) pa_nil))) pa_nil)) (fun _ _ => rfl))))))) (pss_one (ps_ret (pv 2)))))

/-! _law_under -/
abbrev N_law_under : List Str := ["_law_chances_here", "_law_found", "_law_over", "_law_under_here"]
theorem N_law_under_nd : (N_law_under).Nodup := by decide +kernel
theorem sc_law_under : FnScope N_law_under ["_law_chances_here"] (defScope (top 71)) := ⟨rfl, rfl, rfl, N_law_under_nd, rfl, by decide +kernel, by decide +kernel⟩
abbrev t_law_under (K : PySem.W.Frag) : TS := (tSeq (tAsg (tC (.int 1)) (gName 1)) (tSeq (tFor (iList K (tVar 0)) (gTup K 2 (gCons (gName 2) (gCons (gName 3) gNil))) (tAsg (tOp qMul (tVar 1) (tVar 3)) (gName 1))) (tRet (tVar 1))))
theorem rd_law_under {P : Program} {w : World} {K : PySem.W.Frag} {mg : Str → Option Value} {base : Heap} (B : Bi mg)  {f : Addr} {cdv : Value} {A : Around} {outer : List Env} {s : Shared} {H : Hp} {E : XK} (hr : Room 0 (A.deeper (envOfC "_law_under" (defScope (top 71)) s.heap.objs.size f cdv))) : PSs (cxOf CX0 P w K mg base N_law_under "_law_under" (defScope (top 71)) f cdv A outer s H E) (defBody (top 71)) (t_law_under K ) := by
  exact PSs.nox (pss_cons (ps_set (i := 1) N_law_under_nd rfl (by first | exact Or.inl rfl | exact Or.inr rfl) pe_int) (pss_cons (ps_for PassesOwn.never rfl (pi_list (pv 0)) (pg_tup rfl (pgs_cons (pg_name (i := 2) N_law_under_nd rfl (by first | exact Or.inl rfl | exact Or.inr rfl)) (pgs_cons (pg_name (i := 3) N_law_under_nd rfl (by first | exact Or.inl rfl | exact Or.inr rfl)) pgs_nil))) (pss_one (ps_set (i := 1) N_law_under_nd rfl (by first | exact Or.inl rfl | exact Or.inr rfl) (pe_op op_mulW (pv 1) (pv 3))))) (pss_one (ps_ret (pv 1)))))

/-! _law_is -/
abbrev N_law_is : List Str := ["_law_ratio", "_law_over", "_law_under_here"]
theorem N_law_is_nd : (N_law_is).Nodup := by decide +kernel
theorem sc_law_is : FnScope N_law_is ["_law_ratio", "_law_over", "_law_under_here"] (defScope (top 72)) := ⟨rfl, rfl, rfl, N_law_is_nd, rfl, by decide +kernel, by decide +kernel⟩
abbrev t_law_is (K : PySem.W.Frag) (aRatio : Addr) : TS := (tRet (tAndV (tCB (rIsi K) (tCons (tVar 0) (tCons (tC (.ref aRatio)) tNil))) (tOp rEq (tOp qMul (tFld K (tVar 0) "over") (tVar 2)) (tOp qMul (tVar 1) (tFld K (tVar 0) "under")))))
theorem rd_law_is {P : Program} {w : World} {K : PySem.W.Frag} {mg : Str → Option Value} {base : Heap} {aRatio : Addr} (B : Bi mg) (n_Ratio : mg "Ratio" = some (.ref aRatio)) {f : Addr} {cdv : Value} {A : Around} {outer : List Env} {s : Shared} {H : Hp} {E : XK} (hr : Room 0 (A.deeper (envOfC "_law_is" (defScope (top 72)) s.heap.objs.size f cdv))) : PSs (cxOf CX0 P w K mg base N_law_is "_law_is" (defScope (top 72)) f cdv A outer s H E) (defBody (top 72)) (t_law_is K aRatio) := by
  exact PSs.nox (pss_one (ps_ret (pe_and (pe_callB call_isi (by rfl) B.isinstance bb_isinstance (pa_cons (pv 0) (pa_cons (pe_glob (by rfl) n_Ratio rfl) pa_nil))) (pe_one (pe_cmpR op_eq (pe_op op_mulW (pe_fld (pv 0) rfl) (pv 2)) (pe_op op_mulW (pv 1) (pe_fld (pv 0) rfl)) (nomark _))))))

/-! _law_codes_by_size -/
abbrev N_law_codes_by_size : List Str := ["_law_many", "_law_found", "_law_size", "_law_code"]
theorem N_law_codes_by_size_nd : (N_law_codes_by_size).Nodup := by decide +kernel
theorem sc_law_codes_by_size : FnScope N_law_codes_by_size ["_law_many"] (defScope (top 73)) := ⟨rfl, rfl, rfl, N_law_codes_by_size_nd, rfl, by decide +kernel, by decide +kernel⟩
abbrev t_law_codes_by_size (K : PySem.W.Frag) (s_law_power s_law_lot : Sp) : TS := (tSeq (tAsg (tLst tNil) (gName 1)) (tSeq (tFor (iRng3 (tCons (tOp qSub (tVar 0) (tC (.int 1))) (tCons (tC (.int 0)) (tCons (tUn (rU fun i => .int (-i)) (tC (.int 1))) tNil)))) (gName 2) (tAsg (tOp rCat (tVar 1) (tLc (iRng1 (tCons (tCl s_law_power (tCons (tVar 0) tNil)) tNil)) (gName 3) (tTest (tOp rEq (tCB (rLenS K) (tCons (tCl s_law_lot (tCons (tVar 0) (tCons (tVar 3) tNil))) tNil)) (tVar 2))) (tVar 3) [3])) (gName 1))) (tRet (tVar 1))))
theorem rd_law_codes_by_size {P : Program} {w : World} {K : PySem.W.Frag} {mg : Str → Option Value} {base : Heap} {s_law_power s_law_lot : Sp} (B : Bi mg) (g_law_power : GF P w K mg base 1 "_law_power" s_law_power) (g_law_lot : GF P w K mg base 3 "_law_lot" s_law_lot) {f : Addr} {cdv : Value} {A : Around} {outer : List Env} {s : Shared} {H : Hp} {E : XK} (hr : Room 3 (A.deeper (envOfC "_law_codes_by_size" (defScope (top 73)) s.heap.objs.size f cdv))) : PSs (cxOf CX0 P w K mg base N_law_codes_by_size "_law_codes_by_size" (defScope (top 73)) f cdv A outer s H E) (defBody (top 73)) (t_law_codes_by_size K s_law_power s_law_lot) := by
  exact PSs.nox (pss_cons (ps_set (i := 1) N_law_codes_by_size_nd rfl (by first | exact Or.inl rfl | exact Or.inr rfl) (pe_lst pa_nil)) (pss_cons (ps_for PassesOwn.never rfl (pi_range3 (by rfl) B.range (pa_cons (pe_op op_sub (pv 0) pe_int) (pa_cons pe_int (pa_cons (pe_un un_neg pe_int) pa_nil)))) (pg_name (i := 2) N_law_codes_by_size_nd rfl (by first | exact Or.inl rfl | exact Or.inr rfl)) (pss_one (ps_set (i := 1) N_law_codes_by_size_nd rfl (by first | exact Or.inl rfl | exact Or.inr rfl) (pe_op op_cat (pv 1) (pe_lc (own := [("_law_code", 3)]) (g := (gName 3)) (tt := (tTest (tOp rEq (tCB (rLenS K) (tCons (tCl s_law_lot (tCons (tVar 0) (tCons (tVar 3) tNil))) tNil)) (tVar 2)))) (te := (tVar 3)) rfl N_law_codes_by_size_nd (pi_range1 (by rfl) B.range (pa_cons (pe_g g_law_power hr (by decide) (by rfl) (pa_cons (pv 0) pa_nil)) pa_nil)) (blkOk_by (by kernel_rfl)) (fun _ _ _ _ _ => (pg_name (i := 3) N_law_codes_by_size_nd rfl (by first | exact Or.inl rfl | exact Or.inr rfl))) (fun _ _ _ _ _ => (pts_one (pt_cmpR op_eq (pe_callB call_len_seq (by rfl) B.len bb_len (pa_cons (pe_g g_law_lot hr (by decide) (by rfl) (pa_cons (pv 0) (pa_cons (pv 3) pa_nil))) pa_nil)) (pv 2) (nomark _)))) (fun _ _ _ _ _ => (pv 3))))))) (pss_one (ps_ret (pv 1)))))

/-! _law_families -/
abbrev N_law_families : List Str := ["_law_many", "_law_found", "_law_code", "_law_above", "_law_copy", "_law_row", "_law_one"]
theorem N_law_families_nd : (N_law_families).Nodup := by decide +kernel
theorem sc_law_families : FnScope N_law_families ["_law_many"] (defScope (top 74)) := ⟨rfl, rfl, rfl, N_law_families_nd, rfl, by decide +kernel, by decide +kernel⟩
abbrev t_law_families (K : PySem.W.Frag) (s_law_power s_law_codes_by_size s_law_has : Sp) : TS := (tSeq (tAsg (tLst (tCons (tLst (tCons (tOp qSub (tCl s_law_power (tCons (tVar 0) tNil)) (tC (.int 1))) tNil)) tNil)) (gName 1)) (tSeq (tFor (iList K (tCl s_law_codes_by_size (tCons (tVar 0) tNil))) (gName 2) (tSeq (tAsg (tLc (iRng1 (tCons (tVar 0) tNil)) (gName 4) (tNot (tB (tCl s_law_has (tCons (tVar 2) (tCons (tVar 4) tNil))))) (tOp qAdd (tVar 2) (tCl s_law_power (tCons (tVar 4) tNil))) [4]) (gName 3)) (tAsg (tOp rCat (tVar 1) (tLc (iList K (tVar 1)) (gName 5) (tB (tCB (rAll K) (tCons (tLc (iList K (tVar 3)) (gName 6) tYes (tOp (rIn K false) (tVar 6) (tVar 5)) [6]) tNil))) (tOp rCat (tVar 5) (tLst (tCons (tVar 2) tNil))) [5])) (gName 1)))) (tRet (tVar 1))))
theorem rd_law_families {P : Program} {w : World} {K : PySem.W.Frag} {mg : Str → Option Value} {base : Heap} {s_law_power s_law_codes_by_size s_law_has : Sp} (B : Bi mg) (g_law_power : GF P w K mg base 1 "_law_power" s_law_power) (g_law_codes_by_size : GF P w K mg base 4 "_law_codes_by_size" s_law_codes_by_size) (g_law_has : GF P w K mg base 2 "_law_has" s_law_has) {f : Addr} {cdv : Value} {A : Around} {outer : List Env} {s : Shared} {H : Hp} {E : XK} (hr : Room 4 (A.deeper (envOfC "_law_families" (defScope (top 74)) s.heap.objs.size f cdv))) : PSs (cxOf CX0 P w K mg base N_law_families "_law_families" (defScope (top 74)) f cdv A outer s H E) (defBody (top 74)) (t_law_families K s_law_power s_law_codes_by_size s_law_has) := by
  exact PSs.nox (pss_cons (ps_set (i := 1) N_law_families_nd rfl (by first | exact Or.inl rfl | exact Or.inr rfl) (pe_lst (pa_cons (pe_lst (pa_cons (pe_op op_sub (pe_g g_law_power hr (by decide) (by rfl) (pa_cons (pv 0) pa_nil)) pe_int) pa_nil)) pa_nil))) (pss_cons (ps_for PassesOwn.never rfl (pi_list (pe_g g_law_codes_by_size hr (by decide) (by rfl) (pa_cons (pv 0) pa_nil))) (pg_name (i := 2) N_law_families_nd rfl (by first | exact Or.inl rfl | exact Or.inr rfl)) (pss_cons (ps_set (i := 3) N_law_families_nd rfl (by first | exact Or.inl rfl | exact Or.inr rfl) (pe_lc (own := [("_law_copy", 4)]) (g := (gName 4)) (tt := (tNot (tB (tCl s_law_has (tCons (tVar 2) (tCons (tVar 4) tNil)))))) (te := (tOp qAdd (tVar 2) (tCl s_law_power (tCons (tVar 4) tNil)))) rfl N_law_families_nd (pi_range1 (by rfl) B.range (pa_cons (pv 0) pa_nil)) (blkOk_by (by kernel_rfl)) (fun _ _ _ _ _ => (pg_name (i := 4) N_law_families_nd rfl (by first | exact Or.inl rfl | exact Or.inr rfl))) (fun _ _ _ _ _ => (pts_one (pt_not (pt_val (pe_g g_law_has hr (by decide) (by rfl) (pa_cons (pv 2) (pa_cons (pv 4) pa_nil))))))) (fun _ _ _ _ _ => (pe_op op_add (pv 2) (pe_g g_law_power hr (by decide) (by rfl) (pa_cons (pv 4) pa_nil)))))) (pss_one (ps_set (i := 1) N_law_families_nd rfl (by first | exact Or.inl rfl | exact Or.inr rfl) (pe_op op_cat (pv 1) (pe_lc (own := [("_law_row", 5)]) (g := (gName 5)) (tt := (tB (tCB (rAll K) (tCons (tLc (iList K (tVar 3)) (gName 6) tYes (tOp (rIn K false) (tVar 6) (tVar 5)) [6]) tNil)))) (te := (tOp rCat (tVar 5) (tLst (tCons (tVar 2) tNil)))) rfl N_law_families_nd (pi_list (pv 1)) (blkOk_by (by kernel_rfl)) (fun _ _ _ _ _ => (pg_name (i := 5) N_law_families_nd rfl (by first | exact Or.inl rfl | exact Or.inr rfl))) (fun _ _ _ _ _ => (pts_one (pt_val (pe_callB (cr_all rfl) (by rfl) B.all bb_all (pa_cons (pe_lc (own := [("_law_one", 6)]) (g := (gName 6)) (tt := tYes) (te := (tOp (rIn K false) (tVar 6) (tVar 5))) rfl N_law_families_nd (pi_list (pv 3)) (blkOk_by (by kernel_rfl)) (fun _ _ _ _ _ => (pg_name (i := 6) N_law_families_nd rfl (by first | exact Or.inl rfl | exact Or.inr rfl))) (fun _ _ _ _ _ => pts_nil) (fun _ _ _ _ _ => (pe_cmpR op_in_seq (pv 6) (pv 5) (by rfl)))) pa_nil))))) (fun _ _ _ _ _ => (pe_op op_cat (pv 5) (pe_lst (pa_cons (pv 2) pa_nil)))))))))) (pss_one (ps_ret (pv 1)))))

/-! _law_dual -/
abbrev N_law_dual : List Str := ["_law_many", "_law_row", "_law_whole", "_law_code"]
theorem N_law_dual_nd : (N_law_dual).Nodup := by decide +kernel
theorem sc_law_dual : FnScope N_law_dual ["_law_many", "_law_row"] (defScope (top 75)) := ⟨rfl, rfl, rfl, N_law_dual_nd, rfl, by decide +kernel, by decide +kernel⟩
abbrev t_law_dual (K : PySem.W.Frag) (s_law_power : Sp) : TS := (tSeq (tAsg (tOp qSub (tCl s_law_power (tCons (tVar 0) tNil)) (tC (.int 1))) (gName 2)) (tRet (tLc (iRng1 (tCons (tOp qAdd (tVar 2) (tC (.int 1))) tNil)) (gName 3) (tTest (tOp (rIn K true) (tOp qSub (tVar 2) (tVar 3)) (tVar 1))) (tVar 3) [3])))
theorem rd_law_dual {P : Program} {w : World} {K : PySem.W.Frag} {mg : Str → Option Value} {base : Heap} {s_law_power : Sp} (B : Bi mg) (g_law_power : GF P w K mg base 1 "_law_power" s_law_power) {f : Addr} {cdv : Value} {A : Around} {outer : List Env} {s : Shared} {H : Hp} {E : XK} (hr : Room 1 (A.deeper (envOfC "_law_dual" (defScope (top 75)) s.heap.objs.size f cdv))) : PSs (cxOf CX0 P w K mg base N_law_dual "_law_dual" (defScope (top 75)) f cdv A outer s H E) (defBody (top 75)) (t_law_dual K s_law_power) := by
  exact PSs.nox (pss_cons (ps_set (i := 2) N_law_dual_nd rfl (by first | exact Or.inl rfl | exact Or.inr rfl) (pe_op op_sub (pe_g g_law_power hr (by decide) (by rfl) (pa_cons (pv 0) pa_nil)) pe_int)) (pss_one (ps_ret (pe_lc (own := [("_law_code", 3)]) (g := (gName 3)) (tt := (tTest (tOp (rIn K true) (tOp qSub (tVar 2) (tVar 3)) (tVar 1)))) (te := (tVar 3)) rfl N_law_dual_nd (pi_range1 (by rfl) B.range (pa_cons (pe_op op_add (pv 2) pe_int) pa_nil)) (blkOk_by (by kernel_rfl)) (fun _ _ _ _ _ => (pg_name (i := 3) N_law_dual_nd rfl (by first | exact Or.inl rfl | exact Or.inr rfl))) (fun _ _ _ _ _ => (pts_one (pt_cmpR op_notIn_seq (pe_op op_sub (pv 2) (pv 3)) (pv 1) (by rfl)))) (fun _ _ _ _ _ => (pv 3))))))

/-! _law_family -/
abbrev N_law_family : List Str := ["_law_many", "_law_row", "_law_made_here", "_law_code"]
theorem N_law_family_nd : (N_law_family).Nodup := by decide +kernel
theorem sc_law_family : FnScope N_law_family ["_law_many", "_law_row"] (defScope (top 76)) := ⟨rfl, rfl, rfl, N_law_family_nd, rfl, by decide +kernel, by decide +kernel⟩
abbrev t_law_family (K : PySem.W.Frag) (aFamily : Addr) (s_Family_whole s_Familyx_initx s_law_lot s_Familyx_orx : Sp) : TS := (tSeq (tAsg (tCl s_Family_whole (tCons (tVar 0) tNil)) (gName 2)) (tSeq (tFor (iList K (tVar 1)) (gName 3) (tAsg (tOp (rOw aFamily s_Familyx_orx) (tVar 2) (tCl s_Familyx_initx (tCons (tVar 0) (tCons (tCl s_law_lot (tCons (tVar 0) (tCons (tVar 3) tNil))) tNil)))) (gName 2))) (tRet (tVar 2))))
theorem rd_law_family {P : Program} {w : World} {K : PySem.W.Frag} {mg : Str → Option Value} {base : Heap} {aFamily : Addr} {s_Family_whole s_Familyx_initx s_law_lot s_Familyx_orx : Sp} (B : Bi mg) (n_Family : mg "Family" = some (.ref aFamily)) (u_Family_whole : UF P w K mg base 6 aFamily "whole" s_Family_whole) (m_Family : MF P w K mg base 4 "Family" s_Familyx_initx) (g_law_lot : GF P w K mg base 3 "_law_lot" s_law_lot) (o_Familyx_orx : OpF P w K mg base 6 aFamily "__or__" s_Familyx_orx) {f : Addr} {cdv : Value} {A : Around} {outer : List Env} {s : Shared} {H : Hp} {E : XK} (hr : Room 6 (A.deeper (envOfC "_law_family" (defScope (top 76)) s.heap.objs.size f cdv))) : PSs (cxOf CX0 P w K mg base N_law_family "_law_family" (defScope (top 76)) f cdv A outer s H E) (defBody (top 76)) (t_law_family K aFamily s_Family_whole s_Familyx_initx s_law_lot s_Familyx_orx) := by
  exact PSs.nox (pss_cons (ps_set (i := 2) N_law_family_nd rfl (by first | exact Or.inl rfl | exact Or.inr rfl) (pe_u u_Family_whole (by rfl) n_Family hr (by decide) (pa_cons (pv 0) pa_nil))) (pss_cons (ps_for PassesOwn.never rfl (pi_list (pv 1)) (pg_name (i := 3) N_law_family_nd rfl (by first | exact Or.inl rfl | exact Or.inr rfl)) (pss_one (ps_set (i := 2) N_law_family_nd rfl (by first | exact Or.inl rfl | exact Or.inr rfl) (pe_op (op_own o_Familyx_orx hr (by decide)) (pv 2) (pe_mk m_Family hr (by decide) (by rfl) (pa_cons (pv 0) (pa_cons (pe_g g_law_lot hr (by decide) (by rfl) (pa_cons (pv 0) (pa_cons (pv 3) pa_nil))) pa_nil))))))) (pss_one (ps_ret (pv 2)))))

/-! _law_value -/
abbrev N_law_value : List Str := ["_law_table_here", "_law_many", "_law_share_here", "_law_row", "_law_reads", "_law_code"]
theorem N_law_value_nd : (N_law_value).Nodup := by decide +kernel
theorem sc_law_value : FnScope N_law_value ["_law_table_here", "_law_many", "_law_share_here", "_law_row"] (defScope (top 78)) := ⟨rfl, rfl, rfl, N_law_value_nd, rfl, by decide +kernel, by decide +kernel⟩
abbrev t_law_value (K : PySem.W.Frag) (s_law_dual : Sp) : TS := (tSeq (tAsg (tCB (rSum K) (tCons (tLc (iList K (tCl s_law_dual (tCons (tVar 1) (tCons (tVar 3) tNil)))) (gName 5) tYes (tOp (rIxL K) (tVar 0) (tVar 5)) [5]) tNil)) (gName 4)) (tRet (tOp qAdd (tOp qMul (tOp (rIxT K) (tVar 2) (tC (.int 0))) (tVar 4)) (tOp qMul (tOp qSub (tOp (rIxT K) (tVar 2) (tC (.int 1))) (tOp (rIxT K) (tVar 2) (tC (.int 0)))) (tCB (rSum K) (tCons (tLc (iList K (tVar 3)) (gName 5) tYes (tOp (rIxL K) (tVar 0) (tVar 5)) [5]) tNil))))))
theorem rd_law_value {P : Program} {w : World} {K : PySem.W.Frag} {mg : Str → Option Value} {base : Heap} {s_law_dual : Sp} (B : Bi mg) (g_law_dual : GF P w K mg base 2 "_law_dual" s_law_dual) {f : Addr} {cdv : Value} {A : Around} {outer : List Env} {s : Shared} {H : Hp} {E : XK} (hr : Room 2 (A.deeper (envOfC "_law_value" (defScope (top 78)) s.heap.objs.size f cdv))) : PSs (cxOf CX0 P w K mg base N_law_value "_law_value" (defScope (top 78)) f cdv A outer s H E) (defBody (top 78)) (t_law_value K s_law_dual) := by
  exact PSs.nox (pss_cons (ps_set (i := 4) N_law_value_nd rfl (by first | exact Or.inl rfl | exact Or.inr rfl) (pe_callB (cr_sum rfl) (by rfl) B.sum bb_sum (pa_cons (pe_lc (own := [("_law_code", 5)]) (g := (gName 5)) (tt := tYes) (te := (tOp (rIxL K) (tVar 0) (tVar 5))) rfl N_law_value_nd (pi_list (pe_g g_law_dual hr (by decide) (by rfl) (pa_cons (pv 1) (pa_cons (pv 3) pa_nil)))) (blkOk_by (by kernel_rfl)) (fun _ _ _ _ _ => (pg_name (i := 5) N_law_value_nd rfl (by first | exact Or.inl rfl | exact Or.inr rfl))) (fun _ _ _ _ _ => pts_nil) (fun _ _ _ _ _ => (pe_ix ix_list (pv 0) (pv 5) (fun _ _ => rfl)))) pa_nil))) (pss_one (ps_ret (pe_op op_add (pe_op op_mulW (pe_ix ix_tup (pv 2) pe_int (fun _ _ => rfl)) (pv 4)) (pe_op op_mulW (pe_op op_sub (pe_ix ix_tup (pv 2) pe_int (fun _ _ => rfl)) (pe_ix ix_tup (pv 2) pe_int (fun _ _ => rfl))) (pe_callB (cr_sum rfl) (by rfl) B.sum bb_sum (pa_cons (pe_lc (own := [("_law_code", 5)]) (g := (gName 5)) (tt := tYes) (te := (tOp (rIxL K) (tVar 0) (tVar 5))) rfl N_law_value_nd (pi_list (pv 3)) (blkOk_by (by kernel_rfl)) (fun _ _ _ _ _ => (pg_name (i := 5) N_law_value_nd rfl (by first | exact Or.inl rfl | exact Or.inr rfl))) (fun _ _ _ _ _ => pts_nil) (fun _ _ _ _ _ => (pe_ix ix_list (pv 0) (pv 5) (fun _ _ => rfl)))) pa_nil)))))))

/-! _law_table -/
abbrev N_law_table : List Str := ["_law_chances_here", "_law_code"]
theorem N_law_table_nd : (N_law_table).Nodup := by decide +kernel
theorem sc_law_table : FnScope N_law_table ["_law_chances_here"] (defScope (top 79)) := ⟨rfl, rfl, rfl, N_law_table_nd, rfl, by decide +kernel, by decide +kernel⟩
abbrev t_law_table (K : PySem.W.Frag) (s_law_power s_law_alone : Sp) : TS := (tRet (tLc (iRng1 (tCons (tCl s_law_power (tCons (tCB (rLenS K) (tCons (tVar 0) tNil)) tNil)) tNil)) (gName 1) tYes (tCl s_law_alone (tCons (tVar 0) (tCons (tVar 1) tNil))) [1]))
theorem rd_law_table {P : Program} {w : World} {K : PySem.W.Frag} {mg : Str → Option Value} {base : Heap} {s_law_power s_law_alone : Sp} (B : Bi mg) (g_law_power : GF P w K mg base 1 "_law_power" s_law_power) (g_law_alone : GF P w K mg base 3 "_law_alone" s_law_alone) {f : Addr} {cdv : Value} {A : Around} {outer : List Env} {s : Shared} {H : Hp} {E : XK} (hr : Room 3 (A.deeper (envOfC "_law_table" (defScope (top 79)) s.heap.objs.size f cdv))) : PSs (cxOf CX0 P w K mg base N_law_table "_law_table" (defScope (top 79)) f cdv A outer s H E) (defBody (top 79)) (t_law_table K s_law_power s_law_alone) := by
  exact PSs.nox (pss_one (ps_ret (pe_lc (own := [("_law_code", 1)]) (g := (gName 1)) (tt := tYes) (te := (tCl s_law_alone (tCons (tVar 0) (tCons (tVar 1) tNil)))) rfl N_law_table_nd (pi_range1 (by rfl) B.range (pa_cons (pe_g g_law_power hr (by decide) (by rfl) (pa_cons (pe_callB call_len_seq (by rfl) B.len bb_len (pa_cons (pv 0) pa_nil)) pa_nil)) pa_nil)) (blkOk_by (by kernel_rfl)) (fun _ _ _ _ _ => (pg_name (i := 1) N_law_table_nd rfl (by first | exact Or.inl rfl | exact Or.inr rfl))) (fun _ _ _ _ _ => pts_nil) (fun _ _ _ _ _ => (pe_g g_law_alone hr (by decide) (by rfl) (pa_cons (pv 0) (pa_cons (pv 1) pa_nil)))))))

/-! _law_bests -/
abbrev N_law_bests : List Str := ["_law_chances_here", "_law_share_here", "_law_rows", "_law_table_here", "_law_best", "_law_found", "_law_row", "_law_value_here", "_law_code"]
theorem N_law_bests_nd : (N_law_bests).Nodup := by decide +kernel
theorem sc_law_bests : FnScope N_law_bests ["_law_chances_here", "_law_share_here", "_law_rows"] (defScope (top 80)) := ⟨rfl, rfl, rfl, N_law_bests_nd, rfl, by decide +kernel, by decide +kernel⟩
abbrev t_law_bests (K : PySem.W.Frag) (s_law_table s_law_value : Sp) : TS := (tSeq (tAsg (tCl s_law_table (tCons (tVar 0) tNil)) (gName 3)) (tSeq (tAsg (tC .non) (gName 4)) (tSeq (tAsg (tLst tNil) (gName 5)) (tSeq (tFor (iList K (tVar 2)) (gName 6) (tSeq (tAsg (tCl s_law_value (tCons (tVar 3) (tCons (tCB (rLenS K) (tCons (tVar 0) tNil)) (tCons (tVar 1) (tCons (tVar 6) tNil))))) (gName 7)) (tSeq (tIfS (tOr (tB (tIsN (tVar 4))) (tTest (tOp qGt (tVar 7) (tVar 4)))) (tSeq (tAsg (tVar 7) (gName 4)) (tAsg (tLst tNil) (gName 5))) tNext) (tIfS (tTest (tOp rEq (tVar 7) (tVar 4))) (tDrop (tBM K "list" rAppend (tVar 5) (tCons (tCB (rSortedI K) (tCons (tLc (iList K (tVar 6)) (gName 8) tYes (tCB cInt (tCons (tVar 8) tNil)) [8]) tNil)) tNil))) tNext)))) (tRet (tTup (tCons (tVar 4) (tCons (tVar 5) tNil))))))))
theorem rd_law_bests {P : Program} {w : World} {K : PySem.W.Frag} {mg : Str → Option Value} {base : Heap} {s_law_table s_law_value : Sp} (B : Bi mg) (g_law_table : GF P w K mg base 4 "_law_table" s_law_table) (g_law_value : GF P w K mg base 3 "_law_value" s_law_value) {f : Addr} {cdv : Value} {A : Around} {outer : List Env} {s : Shared} {H : Hp} {E : XK} (hr : Room 4 (A.deeper (envOfC "_law_bests" (defScope (top 80)) s.heap.objs.size f cdv))) : PSs (cxOf CX0 P w K mg base N_law_bests "_law_bests" (defScope (top 80)) f cdv A outer s H E) (defBody (top 80)) (t_law_bests K s_law_table s_law_value) := by
  exact PSs.nox (pss_cons (ps_set (i := 3) N_law_bests_nd rfl (by first | exact Or.inl rfl | exact Or.inr rfl) (pe_g g_law_table hr (by decide) (by rfl) (pa_cons (pv 0) pa_nil))) (pss_cons (ps_set (i := 4) N_law_bests_nd rfl (by first | exact Or.inl rfl | exact Or.inr rfl) pe_non) (pss_cons (ps_set (i := 5) N_law_bests_nd rfl (by first | exact Or.inl rfl | exact Or.inr rfl) (pe_lst pa_nil)) (pss_cons (ps_for PassesOwn.never rfl (pi_list (pv 2)) (pg_name (i := 6) N_law_bests_nd rfl (by first | exact Or.inl rfl | exact Or.inr rfl)) (pss_cons (ps_set (i := 7) N_law_bests_nd rfl (by first | exact Or.inl rfl | exact Or.inr rfl) (pe_g g_law_value hr (by decide) (by rfl) (pa_cons (pv 3) (pa_cons (pe_callB call_len_seq (by rfl) B.len bb_len (pa_cons (pv 0) pa_nil)) (pa_cons (pv 1) (pa_cons (pv 6) pa_nil)))))) (pss_cons (ps_if (PW.pt (pw_or (pt_cmp (pc_isN (pv 4))) (pw_or1 (pt_cmpR op_gt (pv 7) (pv 4) (nomark _))))) (pss_cons (ps_set (i := 4) N_law_bests_nd rfl (by first | exact Or.inl rfl | exact Or.inr rfl) (pv 7)) (pss_one (ps_set (i := 5) N_law_bests_nd rfl (by first | exact Or.inl rfl | exact Or.inr rfl) (pe_lst pa_nil)))) pss_nil) (pss_one (ps_if (pt_cmpR op_eq (pv 7) (pv 4) (nomark _)) (pss_one (ps_expr (pe_bm PySem.F.plainAttrs_list PySem.F.slot_list_append PySem.F.type_list_append mt_append (pv 5) (pa_cons (pe_callB cr_sortedI (by rfl) B.sorted bb_sorted (pa_cons (pe_lc (own := [("_law_code", 8)]) (g := (gName 8)) (tt := tYes) (te := (tCB cInt (tCons (tVar 8) tNil))) rfl N_law_bests_nd (pi_list (pv 6)) (blkOk_by (by kernel_rfl)) (fun _ _ _ _ _ => (pg_name (i := 8) N_law_bests_nd rfl (by first | exact Or.inl rfl | exact Or.inr rfl))) (fun _ _ _ _ _ => pts_nil) (fun _ _ _ _ _ => (pe_callTy call_int1 (by rfl) B.int bb_int (pa_cons (pv 8) pa_nil)))) pa_nil)) pa_nil)))) pss_nil))))) (pss_one (ps_ret (pe_tup (pa_cons (pv 4) (pa_cons (pv 5) pa_nil)))))))))

/-! _law_free_holds -/
abbrev N_law_free_holds : List Str := ["_law_chances_here", "_law_share_here", "_law_raw", "_law_pair", "_law_rows", "_law_best", "_law_found", "_law_whole", "_law_least", "_law_greatest", "_law_listed", "_law_code", "_law_row", "_law_family_here"]
theorem N_law_free_holds_nd : (N_law_free_holds).Nodup := by decide +kernel
theorem sc_law_free_holds : FnScope N_law_free_holds ["_law_chances_here", "_law_share_here", "_law_raw", "_law_pair", "_law_rows", "_law_best", "_law_found"] (defScope (top 81)) := ⟨rfl, rfl, rfl, N_law_free_holds_nd, rfl, by decide +kernel, by decide +kernel⟩
abbrev t_law_free_holds (K : PySem.W.Frag) (s_law_power s_law_is s_law_under s_most_worth s_law_codes s_least_writes s_greatest_writes s_best_writes s_count_best : Sp) : TS := (tSeq (tAsg (tLstRg (tRg1 (tCl s_law_power (tCons (tCB (rLenS K) (tCons (tVar 2) tNil)) tNil)))) (gName 7)) (tSeq (tIfS (tNot (tB (tCl s_law_is (tCons (tCl s_most_worth (tCons (tVar 0) (tCons (tVar 1) tNil))) (tCons (tVar 5) (tCons (tOp qMul (tCl s_law_under (tCons (tVar 2) tNil)) (tOp (rIxT K) (tVar 3) (tC (.int 1)))) tNil)))))) (tRet (tC (.bl false))) tNext) (tSeq (tAsg (tLc (iList K (tVar 7)) (gName 11) (tB (tCB (rAll K) (tCons (tLc (iList K (tVar 6)) (gName 12) tYes (tOp (rIn K false) (tVar 11) (tVar 12)) [12]) tNil))) (tVar 11) [11]) (gName 8)) (tSeq (tAsg (tLc (iList K (tVar 7)) (gName 11) (tB (tCB (rAny K) (tCons (tLc (iList K (tVar 6)) (gName 12) tYes (tOp (rIn K false) (tVar 11) (tVar 12)) [12]) tNil))) (tVar 11) [11]) (gName 9)) (tSeq (tIfS (tOr (tTest (tOp (rNeD K) (tCl s_law_codes (tCons (tCl s_least_writes (tCons (tVar 0) (tCons (tVar 1) tNil))) tNil)) (tVar 8))) (tTest (tOp (rNeD K) (tCl s_law_codes (tCons (tCl s_greatest_writes (tCons (tVar 0) (tCons (tVar 1) tNil))) tNil)) (tVar 9)))) (tRet (tC (.bl false))) tNext) (tSeq (tAsg (tCB (rSortedStr K) (tCons (tLc (iList K (tCl s_best_writes (tCons (tVar 0) (tCons (tVar 1) tNil)))) (gName 13) tYes (tCB (rStrL K) (tCons (tCl s_law_codes (tCons (tVar 13) tNil)) tNil)) [13]) tNil)) (gName 10)) (tRet (tAndV (tOp rEq (tCl s_count_best (tCons (tVar 0) (tCons (tVar 1) tNil))) (tCB (rLenS K) (tCons (tVar 6) tNil))) (tOp (rEqV K) (tVar 10) (tCB (rSortedStr K) (tCons (tLc (iList K (tVar 6)) (gName 12) tYes (tCB (rStrL K) (tCons (tVar 12) tNil)) [12]) tNil)))))))))))
theorem rd_law_free_holds {P : Program} {w : World} {K : PySem.W.Frag} {mg : Str → Option Value} {base : Heap} {s_law_power s_law_is s_law_under s_most_worth s_law_codes s_least_writes s_greatest_writes s_best_writes s_count_best : Sp} (B : Bi mg) (g_law_power : GF P w K mg base 1 "_law_power" s_law_power) (g_law_is : GF P w K mg base 1 "_law_is" s_law_is) (g_law_under : GF P w K mg base 1 "_law_under" s_law_under) (g_most_worth : GF P w K mg base 10 "most_worth" s_most_worth) (g_law_codes : GF P w K mg base 6 "_law_codes" s_law_codes) (g_least_writes : GF P w K mg base 10 "least_writes" s_least_writes) (g_greatest_writes : GF P w K mg base 10 "greatest_writes" s_greatest_writes) (g_best_writes : GF P w K mg base 11 "best_writes" s_best_writes) (g_count_best : GF P w K mg base 11 "count_best" s_count_best) {f : Addr} {cdv : Value} {A : Around} {outer : List Env} {s : Shared} {H : Hp} {E : XK} (hgd0 : A.guards = some []) (hr : Room 11 (A.deeper (envOfC "_law_free_holds" (defScope (top 81)) s.heap.objs.size f cdv))) : PSs (cxOf CX0 P w K mg base N_law_free_holds "_law_free_holds" (defScope (top 81)) f cdv A outer s H E) (defBody (top 81)) (t_law_free_holds K s_law_power s_law_is s_law_under s_most_worth s_law_codes s_least_writes s_greatest_writes s_best_writes s_count_best) := by
  have hgd : (A.deeper (envOfC "_law_free_holds" (defScope (top 81)) s.heap.objs.size f cdv)).guards = some [] := hgd0
  have hu64 : (A.deeper (envOfC "_law_free_holds" (defScope (top 81)) s.heap.objs.size f cdv)).units + 64 < cLine := by have := hr.un; omega
  exact PSs.nox (pss_cons (ps_set (i := 7) N_law_free_holds_nd rfl (by first | exact Or.inl rfl | exact Or.inr rfl) (pe_listRg rfl (by rfl) B.list (prg_1 (by rfl) B.range (pe_g g_law_power hr (by decide) (by rfl) (pa_cons (pe_callB call_len_seq (by rfl) B.len bb_len (pa_cons (pv 2) pa_nil)) pa_nil))))) (pss_cons (ps_if (pt_not (pt_val (pe_g g_law_is hr (by decide) (by rfl) (pa_cons (pe_g g_most_worth hr (by decide) (by rfl) (pa_cons (pv 0) (pa_cons (pv 1) pa_nil))) (pa_cons (pv 5) (pa_cons (pe_op op_mulW (pe_g g_law_under hr (by decide) (by rfl) (pa_cons (pv 2) pa_nil)) (pe_ix ix_tup (pv 3) pe_int (fun _ _ => rfl))) pa_nil)))))) (pss_one (ps_ret pe_bl)) pss_nil) (pss_cons (ps_setLc (i := 8) (own := [("_law_code", 11)]) (g := (gName 11)) (tt := (tB (tCB (rAll K) (tCons (tLc (iList K (tVar 6)) (gName 12) tYes (tOp (rIn K false) (tVar 11) (tVar 12)) [12]) tNil)))) (te := (tVar 11))  rfl N_law_free_holds_nd rfl rfl (sw_true rfl rfl rfl (by kernel_rfl)) (pi_list (pv 7)) (blkOk_by (by kernel_rfl)) (fun _ _ _ _ _ => (pg_name (i := 11) N_law_free_holds_nd rfl (by first | exact Or.inl rfl | exact Or.inr rfl))) (fun _ _ _ _ _ => (pts_one (pt_val (pe_callB (cr_all rfl) (by rfl) B.all bb_all (pa_cons (pe_lc (own := [("_law_row", 12)]) (g := (gName 12)) (tt := tYes) (te := (tOp (rIn K false) (tVar 11) (tVar 12))) rfl N_law_free_holds_nd (pi_list (pv 6)) (blkOk_by (by kernel_rfl)) (fun _ _ _ _ _ => (pg_name (i := 12) N_law_free_holds_nd rfl (by first | exact Or.inl rfl | exact Or.inr rfl))) (fun _ _ _ _ _ => pts_nil) (fun _ _ _ _ _ => (pe_cmpR op_in_seq (pv 11) (pv 12) (by rfl)))) pa_nil))))) (fun _ _ _ _ _ => (pv 11))) (pss_cons (ps_setLc (i := 9) (own := [("_law_code", 11)]) (g := (gName 11)) (tt := (tB (tCB (rAny K) (tCons (tLc (iList K (tVar 6)) (gName 12) tYes (tOp (rIn K false) (tVar 11) (tVar 12)) [12]) tNil)))) (te := (tVar 11))  rfl N_law_free_holds_nd rfl rfl (sw_true rfl rfl rfl (by kernel_rfl)) (pi_list (pv 7)) (blkOk_by (by kernel_rfl)) (fun _ _ _ _ _ => (pg_name (i := 11) N_law_free_holds_nd rfl (by first | exact Or.inl rfl | exact Or.inr rfl))) (fun _ _ _ _ _ => (pts_one (pt_val (pe_callB (cr_any rfl) (by rfl) B.any bb_any (pa_cons (pe_lc (own := [("_law_row", 12)]) (g := (gName 12)) (tt := tYes) (te := (tOp (rIn K false) (tVar 11) (tVar 12))) rfl N_law_free_holds_nd (pi_list (pv 6)) (blkOk_by (by kernel_rfl)) (fun _ _ _ _ _ => (pg_name (i := 12) N_law_free_holds_nd rfl (by first | exact Or.inl rfl | exact Or.inr rfl))) (fun _ _ _ _ _ => pts_nil) (fun _ _ _ _ _ => (pe_cmpR op_in_seq (pv 11) (pv 12) (by rfl)))) pa_nil))))) (fun _ _ _ _ _ => (pv 11))) (pss_cons (ps_if (PW.pt (pw_or (pt_cmpR (op_neD hu64) (pe_g g_law_codes hr (by decide) (by rfl) (pa_cons (pe_g g_least_writes hr (by decide) (by rfl) (pa_cons (pv 0) (pa_cons (pv 1) pa_nil))) pa_nil)) (pv 8) (nomark _)) (pw_or1 (pt_cmpR (op_neD hu64) (pe_g g_law_codes hr (by decide) (by rfl) (pa_cons (pe_g g_greatest_writes hr (by decide) (by rfl) (pa_cons (pv 0) (pa_cons (pv 1) pa_nil))) pa_nil)) (pv 9) (nomark _))))) (pss_one (ps_ret pe_bl)) pss_nil) (pss_cons (ps_set (i := 10) N_law_free_holds_nd rfl (by first | exact Or.inl rfl | exact Or.inr rfl) (pe_callB cr_sortedStr (by rfl) B.sorted bb_sorted (pa_cons (pe_lc (own := [("_law_family_here", 13)]) (g := (gName 13)) (tt := tYes) (te := (tCB (rStrL K) (tCons (tCl s_law_codes (tCons (tVar 13) tNil)) tNil))) rfl N_law_free_holds_nd (pi_list (pe_g g_best_writes hr (by decide) (by rfl) (pa_cons (pv 0) (pa_cons (pv 1) pa_nil)))) (blkOk_by (by kernel_rfl)) (fun _ _ _ _ _ => (pg_name (i := 13) N_law_free_holds_nd rfl (by first | exact Or.inl rfl | exact Or.inr rfl))) (fun _ _ _ _ _ => pts_nil) (fun _ _ _ _ _ => (pe_callTy (call_strL hgd hu64) (by rfl) B.str bb_str (pa_cons (pe_g g_law_codes hr (by decide) (by rfl) (pa_cons (pv 13) pa_nil)) pa_nil)))) pa_nil))) (pss_one (ps_ret (pe_and (pe_cmpR op_eq (pe_g g_count_best hr (by decide) (by rfl) (pa_cons (pv 0) (pa_cons (pv 1) pa_nil))) (pe_callB call_len_seq (by rfl) B.len bb_len (pa_cons (pv 6) pa_nil)) (nomark _)) (pe_one (pe_cmpR (op_eqV hu64) (pv 10) (pe_callB cr_sortedStr (by rfl) B.sorted bb_sorted (pa_cons (pe_lc (own := [("_law_row", 12)]) (g := (gName 12)) (tt := tYes) (te := (tCB (rStrL K) (tCons (tVar 12) tNil))) rfl N_law_free_holds_nd (pi_list (pv 6)) (blkOk_by (by kernel_rfl)) (fun _ _ _ _ _ => (pg_name (i := 12) N_law_free_holds_nd rfl (by first | exact Or.inl rfl | exact Or.inr rfl))) (fun _ _ _ _ _ => pts_nil) (fun _ _ _ _ _ => (pe_callTy (call_strL hgd hu64) (by rfl) B.str bb_str (pa_cons (pv 12) pa_nil)))) pa_nil)) (nomark _))))))))))))

/-! _law_some_hold -/
abbrev N_law_some_hold : List Str := ["_law_script", "_law_state", "_law_chances_here", "_law_share_here", "_law_rows", "_law_found", "_law_strict_found", "_law_k", "_law_row", "_law_family_here", "_law_code"]
theorem N_law_some_hold_nd : (N_law_some_hold).Nodup := by decide +kernel
theorem sc_law_some_hold : FnScope N_law_some_hold ["_law_script", "_law_state", "_law_chances_here", "_law_share_here", "_law_rows", "_law_found", "_law_strict_found"] (defScope (top 82)) := ⟨rfl, rfl, rfl, N_law_some_hold_nd, rfl, by decide +kernel, by decide +kernel⟩
abbrev t_law_some_hold (K : PySem.W.Frag) (aChances : Addr) (s_law_draw s_law_family s_Chancesx_lenx s_is_best s_is_best_strict : Sp) : TS := (tSeq (tFor (iRng1 (tCons (tC (.int 6)) tNil)) (gName 7) (tSeq (tAsg (tCB (rSortedI K) (tCons (tLc (iList K (tOp (rIxL K) (tVar 4) (tCl s_law_draw (tCons (tVar 0) (tCons (tVar 1) (tCons (tCB (rLenS K) (tCons (tVar 4) tNil)) tNil)))))) (gName 10) tYes (tCB cInt (tCons (tVar 10) tNil)) [10]) tNil)) (gName 8)) (tSeq (tIfS (tTest (tOp rEq (tVar 7) (tC (.int 0)))) (tAsg (tOp (rIxL K) (tVar 5) (tCl s_law_draw (tCons (tVar 0) (tCons (tVar 1) (tCons (tCB (rLenS K) (tCons (tVar 5) tNil)) tNil))))) (gName 8)) tNext) (tSeq (tIfS (tTest (tOp rEq (tVar 7) (tC (.int 1)))) (tAsg (tOp (rIxL K) (tVar 6) (tCl s_law_draw (tCons (tVar 0) (tCons (tVar 1) (tCons (tCB (rLenS K) (tCons (tVar 6) tNil)) tNil))))) (gName 8)) tNext) (tSeq (tAsg (tCl s_law_family (tCons (tCB (rLenO aChances s_Chancesx_lenx) (tCons (tVar 2) tNil)) (tCons (tVar 8) tNil))) (gName 9)) (tSeq (tIfS (tTest (tOp rNe (tCl s_is_best (tCons (tVar 2) (tCons (tVar 3) (tCons (tVar 9) tNil)))) (tOp (rInD K) (tVar 8) (tVar 5)))) (tRet (tC (.bl false))) tNext) (tIfS (tTest (tOp rNe (tCl s_is_best_strict (tCons (tVar 2) (tCons (tVar 3) (tCons (tVar 9) tNil)))) (tOp (rInD K) (tVar 8) (tVar 6)))) (tRet (tC (.bl false))) tNext))))))) (tRet (tC (.bl true))))
theorem rd_law_some_hold {P : Program} {w : World} {K : PySem.W.Frag} {mg : Str → Option Value} {base : Heap} {aChances : Addr} {s_law_draw s_law_family s_Chancesx_lenx s_is_best s_is_best_strict : Sp} (B : Bi mg) (g_law_draw : GF P w K mg base 1 "_law_draw" s_law_draw) (g_law_family : GF P w K mg base 7 "_law_family" s_law_family) (o_Chancesx_lenx : OpF P w K mg base 1 aChances "__len__" s_Chancesx_lenx) (g_is_best : GF P w K mg base 11 "is_best" s_is_best) (g_is_best_strict : GF P w K mg base 12 "is_best_strict" s_is_best_strict) {f : Addr} {cdv : Value} {A : Around} {outer : List Env} {s : Shared} {H : Hp} {E : XK} (hr : Room 12 (A.deeper (envOfC "_law_some_hold" (defScope (top 82)) s.heap.objs.size f cdv))) : PSs (cxOf CX0 P w K mg base N_law_some_hold "_law_some_hold" (defScope (top 82)) f cdv A outer s H E) (defBody (top 82)) (t_law_some_hold K aChances s_law_draw s_law_family s_Chancesx_lenx s_is_best s_is_best_strict) := by
  have hu65 : (A.deeper (envOfC "_law_some_hold" (defScope (top 82)) s.heap.objs.size f cdv)).units + 65 < cLine := by have := hr.un; omega
  exact PSs.nox (pss_cons (ps_for PassesOwn.never rfl (pi_range1 (by rfl) B.range (pa_cons pe_int pa_nil)) (pg_name (i := 7) N_law_some_hold_nd rfl (by first | exact Or.inl rfl | exact Or.inr rfl)) (pss_cons (ps_set (i := 8) N_law_some_hold_nd rfl (by first | exact Or.inl rfl | exact Or.inr rfl) (pe_callB cr_sortedI (by rfl) B.sorted bb_sorted (pa_cons (pe_lc (own := [("_law_code", 10)]) (g := (gName 10)) (tt := tYes) (te := (tCB cInt (tCons (tVar 10) tNil))) rfl N_law_some_hold_nd (pi_list (pe_ix ix_list (pv 4) (pe_g g_law_draw hr (by decide) (by rfl) (pa_cons (pv 0) (pa_cons (pv 1) (pa_cons (pe_callB call_len_seq (by rfl) B.len bb_len (pa_cons (pv 4) pa_nil)) pa_nil)))) (fun _ _ => rfl))) (blkOk_by (by kernel_rfl)) (fun _ _ _ _ _ => (pg_name (i := 10) N_law_some_hold_nd rfl (by first | exact Or.inl rfl | exact Or.inr rfl))) (fun _ _ _ _ _ => pts_nil) (fun _ _ _ _ _ => (pe_callTy call_int1 (by rfl) B.int bb_int (pa_cons (pv 10) pa_nil)))) pa_nil))) (pss_cons (ps_if (pt_cmpR op_eq (pv 7) pe_int (nomark _)) (pss_one (ps_set (i := 8) N_law_some_hold_nd rfl (by first | exact Or.inl rfl | exact Or.inr rfl) (pe_ix ix_list (pv 5) (pe_g g_law_draw hr (by decide) (by rfl) (pa_cons (pv 0) (pa_cons (pv 1) (pa_cons (pe_callB call_len_seq (by rfl) B.len bb_len (pa_cons (pv 5) pa_nil)) pa_nil)))) (fun _ _ => rfl)))) pss_nil) (pss_cons (ps_if (pt_cmpR op_eq (pv 7) pe_int (nomark _)) (pss_one (ps_set (i := 8) N_law_some_hold_nd rfl (by first | exact Or.inl rfl | exact Or.inr rfl) (pe_ix ix_list (pv 6) (pe_g g_law_draw hr (by decide) (by rfl) (pa_cons (pv 0) (pa_cons (pv 1) (pa_cons (pe_callB call_len_seq (by rfl) B.len bb_len (pa_cons (pv 6) pa_nil)) pa_nil)))) (fun _ _ => rfl)))) pss_nil) (pss_cons (ps_set (i := 9) N_law_some_hold_nd rfl (by first | exact Or.inl rfl | exact Or.inr rfl) (pe_g g_law_family hr (by decide) (by rfl) (pa_cons (pe_callB (call_lenO o_Chancesx_lenx hr (by decide)) (by rfl) B.len bb_len (pa_cons (pv 2) pa_nil)) (pa_cons (pv 8) pa_nil)))) (pss_cons (ps_if (pt_cmpR op_ne (pe_g g_is_best hr (by decide) (by rfl) (pa_cons (pv 2) (pa_cons (pv 3) (pa_cons (pv 9) pa_nil)))) (pe_cmpR (op_inD hu65) (pv 8) (pv 5) (by rfl)) (nomark _)) (pss_one (ps_ret pe_bl)) pss_nil) (pss_one (ps_if (pt_cmpR op_ne (pe_g g_is_best_strict hr (by decide) (by rfl) (pa_cons (pv 2) (pa_cons (pv 3) (pa_cons (pv 9) pa_nil)))) (pe_cmpR (op_inD hu65) (pv 8) (pv 6) (by rfl)) (nomark _)) (pss_one (ps_ret pe_bl)) pss_nil)))))))) (pss_one (ps_ret pe_bl)))

/-! law -/
abbrev N_law : List Str := ["_law_script", "_law_state", "_law_raw", "_law_pair", "_law_chances_here", "_law_share_here", "_law_rows", "_law_best", "_law_found", "_law_strict_rows", "_law_strict_found", "_law_row", "_law_code"]
theorem N_law_nd : (N_law).Nodup := by decide +kernel
theorem sc_law : FnScope N_law ["_law_script"] (defScope (top 83)) := ⟨rfl, rfl, rfl, N_law_nd, rfl, by decide +kernel, by decide +kernel⟩
abbrev t_law (K : PySem.W.Frag) (s_law_start s_law_chances s_law_draw s_law_share s_law_made s_Ratiox_initx s_law_families s_law_bests s_law_free_holds s_law_dual s_law_is s_law_under s_most_strict s_law_codes s_strict_writes s_law_some_hold : Sp) : TS := (tSeq (tAsg (tCl s_law_start (tCons (tVar 0) tNil)) (gName 1)) (tSeq (tAsg (tCl s_law_chances (tCons (tVar 0) (tCons (tVar 1) (tCons (tOp (rIxL K) (tLst (tCons (tC (.int 3)) (tCons (tC (.int 3)) (tCons (tC (.int 3)) (tCons (tC (.int 4)) tNil))))) (tCl s_law_draw (tCons (tVar 0) (tCons (tVar 1) (tCons (tC (.int 4)) tNil))))) tNil)))) (gName 2)) (tSeq (tAsg (tCl s_law_share (tCons (tVar 0) (tCons (tVar 1) tNil))) (gName 3)) (tSeq (tAsg (tCl s_law_made (tCons (tVar 2) tNil)) (gName 4)) (tSeq (tAsg (tCl s_Ratiox_initx (tCons (tOp (rIxT K) (tVar 3) (tC (.int 0))) (tCons (tOp (rIxT K) (tVar 3) (tC (.int 1))) tNil))) (gName 5)) (tSeq (tAsg (tCl s_law_families (tCons (tCB (rLenS K) (tCons (tVar 2) tNil)) tNil)) (gName 6)) (tSeq (tAsg (tCl s_law_bests (tCons (tVar 2) (tCons (tVar 3) (tCons (tVar 6) tNil)))) (gTup K 2 (gCons (gName 7) (gCons (gName 8) gNil)))) (tSeq (tIfS (tNot (tB (tCl s_law_free_holds (tCons (tVar 4) (tCons (tVar 5) (tCons (tVar 2) (tCons (tVar 3) (tCons (tVar 6) (tCons (tVar 7) (tCons (tVar 8) tNil)))))))))) (tRet (tC (.bl false))) tNext) (tSeq (tAsg (tLc (iList K (tVar 6)) (gName 11) (tB (tCB (rAll K) (tCons (tLc (iList K (tVar 11)) (gName 12) tYes (tOp (rIn K false) (tVar 12) (tCl s_law_dual (tCons (tCB (rLenS K) (tCons (tVar 2) tNil)) (tCons (tVar 11) tNil)))) [12]) tNil))) (tVar 11) [11]) (gName 9)) (tSeq (tAsg (tCl s_law_bests (tCons (tVar 2) (tCons (tVar 3) (tCons (tVar 9) tNil)))) (gTup K 2 (gCons (gName 7) (gCons (gName 10) gNil)))) (tSeq (tIfS (tNot (tB (tCl s_law_is (tCons (tCl s_most_strict (tCons (tVar 4) (tCons (tVar 5) tNil))) (tCons (tVar 7) (tCons (tOp qMul (tCl s_law_under (tCons (tVar 2) tNil)) (tOp (rIxT K) (tVar 3) (tC (.int 1)))) tNil)))))) (tRet (tC (.bl false))) tNext) (tSeq (tIfS (tTest (tOp (rNotInD K) (tCl s_law_codes (tCons (tCl s_strict_writes (tCons (tVar 4) (tCons (tVar 5) tNil))) tNil)) (tVar 10))) (tRet (tC (.bl false))) tNext) (tRet (tCl s_law_some_hold (tCons (tVar 0) (tCons (tVar 1) (tCons (tVar 4) (tCons (tVar 5) (tCons (tVar 6) (tCons (tVar 8) (tCons (tVar 10) tNil)))))))))))))))))))))
theorem rd_law {P : Program} {w : World} {K : PySem.W.Frag} {mg : Str → Option Value} {base : Heap} {s_law_start s_law_chances s_law_draw s_law_share s_law_made s_Ratiox_initx s_law_families s_law_bests s_law_free_holds s_law_dual s_law_is s_law_under s_most_strict s_law_codes s_strict_writes s_law_some_hold : Sp} (B : Bi mg) (g_law_start : GF P w K mg base 1 "_law_start" s_law_start) (g_law_chances : GF P w K mg base 2 "_law_chances" s_law_chances) (g_law_draw : GF P w K mg base 1 "_law_draw" s_law_draw) (g_law_share : GF P w K mg base 2 "_law_share" s_law_share) (g_law_made : GF P w K mg base 11 "_law_made" s_law_made) (m_Ratio : MF P w K mg base 3 "Ratio" s_Ratiox_initx) (g_law_families : GF P w K mg base 5 "_law_families" s_law_families) (g_law_bests : GF P w K mg base 5 "_law_bests" s_law_bests) (g_law_free_holds : GG P w K mg base 12 "_law_free_holds" s_law_free_holds) (g_law_dual : GF P w K mg base 2 "_law_dual" s_law_dual) (g_law_is : GF P w K mg base 1 "_law_is" s_law_is) (g_law_under : GF P w K mg base 1 "_law_under" s_law_under) (g_most_strict : GF P w K mg base 11 "most_strict" s_most_strict) (g_law_codes : GF P w K mg base 6 "_law_codes" s_law_codes) (g_strict_writes : GF P w K mg base 11 "strict_writes" s_strict_writes) (g_law_some_hold : GF P w K mg base 13 "_law_some_hold" s_law_some_hold) {f : Addr} {cdv : Value} {A : Around} {outer : List Env} {s : Shared} {H : Hp} {E : XK} (hgd0 : A.guards = some []) (hr : Room 13 (A.deeper (envOfC "law" (defScope (top 83)) s.heap.objs.size f cdv))) : PSs (cxOf CX0 P w K mg base N_law "law" (defScope (top 83)) f cdv A outer s H E) (defBody (top 83)) (t_law K s_law_start s_law_chances s_law_draw s_law_share s_law_made s_Ratiox_initx s_law_families s_law_bests s_law_free_holds s_law_dual s_law_is s_law_under s_most_strict s_law_codes s_strict_writes s_law_some_hold) := by
  have hgd : (A.deeper (envOfC "law" (defScope (top 83)) s.heap.objs.size f cdv)).guards = some [] := hgd0
  have hu65 : (A.deeper (envOfC "law" (defScope (top 83)) s.heap.objs.size f cdv)).units + 65 < cLine := by have := hr.un; omega
  exact PSs.nox (pss_cons (ps_set (i := 1) N_law_nd rfl (by first | exact Or.inl rfl | exact Or.inr rfl) (pe_g g_law_start hr (by decide) (by rfl) (pa_cons (pv 0) pa_nil))) (pss_cons (ps_set (i := 2) N_law_nd rfl (by first | exact Or.inl rfl | exact Or.inr rfl) (pe_g g_law_chances hr (by decide) (by rfl) (pa_cons (pv 0) (pa_cons (pv 1) (pa_cons (pe_ix ix_list (pe_lst (pa_cons pe_int (pa_cons pe_int (pa_cons pe_int (pa_cons pe_int pa_nil))))) (pe_g g_law_draw hr (by decide) (by rfl) (pa_cons (pv 0) (pa_cons (pv 1) (pa_cons pe_int pa_nil)))) (fun _ _ => rfl)) pa_nil))))) (pss_cons (ps_set (i := 3) N_law_nd rfl (by first | exact Or.inl rfl | exact Or.inr rfl) (pe_g g_law_share hr (by decide) (by rfl) (pa_cons (pv 0) (pa_cons (pv 1) pa_nil)))) (pss_cons (ps_set (i := 4) N_law_nd rfl (by first | exact Or.inl rfl | exact Or.inr rfl) (pe_g g_law_made hr (by decide) (by rfl) (pa_cons (pv 2) pa_nil))) (pss_cons (ps_set (i := 5) N_law_nd rfl (by first | exact Or.inl rfl | exact Or.inr rfl) (pe_mk m_Ratio hr (by decide) (by rfl) (pa_cons (pe_ix ix_tup (pv 3) pe_int (fun _ _ => rfl)) (pa_cons (pe_ix ix_tup (pv 3) pe_int (fun _ _ => rfl)) pa_nil)))) (pss_cons (ps_set (i := 6) N_law_nd rfl (by first | exact Or.inl rfl | exact Or.inr rfl) (pe_g g_law_families hr (by decide) (by rfl) (pa_cons (pe_callB call_len_seq (by rfl) B.len bb_len (pa_cons (pv 2) pa_nil)) pa_nil))) (pss_cons (ps_asg (pe_g g_law_bests hr (by decide) (by rfl) (pa_cons (pv 2) (pa_cons (pv 3) (pa_cons (pv 6) pa_nil)))) (pg_tup rfl (pgs_cons (pg_name (i := 7) N_law_nd rfl (by first | exact Or.inl rfl | exact Or.inr rfl)) (pgs_cons (pg_name (i := 8) N_law_nd rfl (by first | exact Or.inl rfl | exact Or.inr rfl)) pgs_nil)))) (pss_cons (ps_if (pt_not (pt_val (pe_gG g_law_free_holds hgd hr (by decide) (by rfl) (pa_cons (pv 4) (pa_cons (pv 5) (pa_cons (pv 2) (pa_cons (pv 3) (pa_cons (pv 6) (pa_cons (pv 7) (pa_cons (pv 8) pa_nil)))))))))) (pss_one (ps_ret pe_bl)) pss_nil) (pss_cons (ps_setLc (i := 9) (own := [("_law_row", 11)]) (g := (gName 11)) (tt := (tB (tCB (rAll K) (tCons (tLc (iList K (tVar 11)) (gName 12) tYes (tOp (rIn K false) (tVar 12) (tCl s_law_dual (tCons (tCB (rLenS K) (tCons (tVar 2) tNil)) (tCons (tVar 11) tNil)))) [12]) tNil)))) (te := (tVar 11))  rfl N_law_nd rfl rfl (sw_true rfl rfl rfl (by kernel_rfl)) (pi_list (pv 6)) (blkOk_by (by kernel_rfl)) (fun _ _ _ _ _ => (pg_name (i := 11) N_law_nd rfl (by first | exact Or.inl rfl | exact Or.inr rfl))) (fun _ _ _ _ _ => (pts_one (pt_val (pe_callB (cr_all rfl) (by rfl) B.all bb_all (pa_cons (pe_lc (own := [("_law_code", 12)]) (g := (gName 12)) (tt := tYes) (te := (tOp (rIn K false) (tVar 12) (tCl s_law_dual (tCons (tCB (rLenS K) (tCons (tVar 2) tNil)) (tCons (tVar 11) tNil))))) rfl N_law_nd (pi_list (pv 11)) (blkOk_by (by kernel_rfl)) (fun _ _ _ _ _ => (pg_name (i := 12) N_law_nd rfl (by first | exact Or.inl rfl | exact Or.inr rfl))) (fun _ _ _ _ _ => pts_nil) (fun _ _ _ _ _ => (pe_cmpR op_in_seq (pv 12) (pe_g g_law_dual hr (by decide) (by rfl) (pa_cons (pe_callB call_len_seq (by rfl) B.len bb_len (pa_cons (pv 2) pa_nil)) (pa_cons (pv 11) pa_nil))) (by rfl)))) pa_nil))))) (fun _ _ _ _ _ => (pv 11))) (pss_cons (ps_asg (pe_g g_law_bests hr (by decide) (by rfl) (pa_cons (pv 2) (pa_cons (pv 3) (pa_cons (pv 9) pa_nil)))) (pg_tup rfl (pgs_cons (pg_name (i := 7) N_law_nd rfl (by first | exact Or.inl rfl | exact Or.inr rfl)) (pgs_cons (pg_name (i := 10) N_law_nd rfl (by first | exact Or.inl rfl | exact Or.inr rfl)) pgs_nil)))) (pss_cons (ps_if (pt_not (pt_val (pe_g g_law_is hr (by decide) (by rfl) (pa_cons (pe_g g_most_strict hr (by decide) (by rfl) (pa_cons (pv 4) (pa_cons (pv 5) pa_nil))) (pa_cons (pv 7) (pa_cons (pe_op op_mulW (pe_g g_law_under hr (by decide) (by rfl) (pa_cons (pv 2) pa_nil)) (pe_ix ix_tup (pv 3) pe_int (fun _ _ => rfl))) pa_nil)))))) (pss_one (ps_ret pe_bl)) pss_nil) (pss_cons (ps_if (pt_cmpR (op_notInD hu65) (pe_g g_law_codes hr (by decide) (by rfl) (pa_cons (pe_g g_strict_writes hr (by decide) (by rfl) (pa_cons (pv 4) (pa_cons (pv 5) pa_nil))) pa_nil)) (pv 10) (by rfl)) (pss_one (ps_ret pe_bl)) pss_nil) (pss_one (ps_ret (pe_g g_law_some_hold hr (by decide) (by rfl) (pa_cons (pv 0) (pa_cons (pv 1) (pa_cons (pv 4) (pa_cons (pv 5) (pa_cons (pv 6) (pa_cons (pv 8) (pa_cons (pv 10) pa_nil))))))))))))))))))))))
end Kb
end
section
/-! M1: what the defs compute, in plain Lean: lots, families. -/
namespace M
def lotOf (n : Nat) (l : List Int) : List Int := ((List.range n).filter fun (i : Nat) => decide ((i : Int) ∈ l)).map fun (i : Nat) => (i : Int)
def others (n : Nat) (l : List Int) : List Int := ((List.range n).filter fun (i : Nat) => !decide ((i : Int) ∈ lotOf n l)).map fun (i : Nat) => (i : Int)
def allLots : Nat → List (List Int)
  | 0 => [[]]
  | n + 1 => allLots n ++ (allLots n).map fun l => l ++ [(n : Int)]
def codeOf (l : List Int) : Int := (l.map fun i => (2 : Int) ^ i.toNat).sum
def lotOfCode (c : Int) : List Int := ((List.range 8).filter fun (i : Nat) => decide (c / 2 ^ i % 2 = 1)).map fun (i : Nat) => (i : Int)
/-- an ascending tuple of copies below 8 -/
def Norm (l : List Int) : Prop := lotOfCode (codeOf l) = l ∧ 0 ≤ codeOf l ∧ codeOf l < 256 ∧ ∀ i ∈ l, 0 ≤ i ∧ i < 8
def codes (ls : List (List Int)) : List Int := ((List.range 256).filter fun (c : Nat) => decide ((c : Int) ∈ ls.map codeOf)).map fun (c : Nat) => (c : Int)
def asc (ls : List (List Int)) : List (List Int) := (codes ls).map lotOfCode
def hold (l p : List Int) : Bool := p.all fun c => decide (c ∈ l)
def meet (a b : List Int) : Bool := a.any fun c => decide (c ∈ b)
def middle (n : Nat) : List (List Int) := (allLots n).filter fun l => decide ((0 : Int) < l.length) && decide ((l.length : Int) < n)
def leastLots (ls : List (List Int)) : List (List Int) := (asc ls).filter fun l => !((asc ls).any fun o => !decide (o = l) && hold l o)
def contains (ls : List (List Int)) (l : List Int) : Bool := ls.any fun m => hold l m
end M
end
section
/-! M2: codes, keys in order. -/
namespace M
theorem mem_lotOf {n : Nat} {l : List Int} {i : Int} : i ∈ lotOf n l ↔ i ∈ l ∧ 0 ≤ i ∧ i < n := by
  unfold lotOf
  simp only [List.mem_map, List.mem_filter, List.mem_range, decide_eq_true_eq]
  constructor
  · rintro ⟨a, ⟨h1, h2⟩, rfl⟩
    exact ⟨h2, by omega, by omega⟩
  · rintro ⟨h1, h2, h3⟩
    exact ⟨i.toNat, ⟨by omega, by rw [Int.toNat_of_nonneg h2]; exact h1⟩, Int.toNat_of_nonneg h2⟩
theorem mem_codes {ls : List (List Int)} {c : Int} : c ∈ codes ls ↔ c ∈ ls.map codeOf ∧ 0 ≤ c ∧ c < 256 := by
  unfold codes
  simp only [List.mem_map, List.mem_filter, List.mem_range, decide_eq_true_eq]
  constructor
  · rintro ⟨a, ⟨h1, h2⟩, rfl⟩
    exact ⟨h2, by omega, by omega⟩
  · rintro ⟨h1, h2, h3⟩
    exact ⟨c.toNat, ⟨by omega, by rw [Int.toNat_of_nonneg h2]; exact h1⟩, Int.toNat_of_nonneg h2⟩
theorem codes_lt (ls : List (List Int)) : (codes ls).Pairwise (· < ·) := by
  unfold codes
  refine List.pairwise_map.mpr (List.Pairwise.imp ?_ (List.pairwise_lt_range.filter _))
  intro a b h
  omega
/-- the sorted one of the same members, none twice -/
theorem sorted_eq {m l : List Int} (hm : m.Pairwise (· ≤ ·)) (hl : l.Pairwise (· < ·)) (p : m.Perm l) : m = l :=
  List.Perm.eq_of_pairwise (le := (· ≤ ·)) (fun a b _ _ h1 h2 => Int.le_antisymm h1 h2) hm (hl.imp fun h => Int.le_of_lt h) p
theorem perm_of_mem {m l : List Int} (hm : m.Nodup) (hl : l.Pairwise (· < ·)) (h : ∀ a, a ∈ m ↔ a ∈ l) : m.Perm l :=
  (List.perm_ext_iff_of_nodup hm (hl.imp fun h => Int.ne_of_lt h)).mpr h
end M
end
section
/-! Kd1: lots. -/
namespace Kb
open PySem PySem.Spec PyProof.Rows L2 M
section
variable {P : Program} {w : World} {K : PySem.W.Frag} {mg : Str → Option Value} {base : Heap}
inductive Ris_integer : List D → D → Prop
  | mk {i : Int} : Ris_integer [di i] (db true)
inductive Rcheck_number : List D → D → Prop
  | mk {w : Str} {i lo hi : Int} : lo ≤ i → i ≤ hi → Rcheck_number [ds w, di i, di lo, di hi] (di i)
  | mk0 {w : Str} {i : Int} : Rcheck_number [ds w, di i, dn, dn] (di i)
theorem fn_is_integer (B : Bi mg) (D : DfG K mg "is_integer" (top 9)) : GF P w K mg base 1 "is_integer" (Pr Ris_integer) :=
  gf_of D sc_is_integer (fun _ _ h => by cases h; rfl) (fun _ _ _ _ _ _ us h => match us, h with | [_], _ => rfl) (fun _ _ _ _ _ _ _ hr => rd_is_integer B hr) fun xs z h => by
    cases h
    exact sr_ret (ed_is (ed_and (ed_cb (ea_cons (ed_var rfl) (ea_cons ed_c ea_nil)) cd_isiII) fun _ => (ed_not (ed_cb (ea_cons (ed_var rfl) (ea_cons ed_c ea_nil)) cd_isiIB))) rfl)
theorem fn_check_number (B : Bi mg) (g : GF P w K mg base 1 "is_integer" (Pr Ris_integer)) (D : DfG K mg "check_number" (top 10)) : GF P w K mg base 2 "check_number" (Pr Rcheck_number) :=
  gf_of D sc_check_number (fun _ _ h => by cases h <;> rfl) (fun _ _ _ _ _ _ us h => match us, h with | [_, _, _, _], _ => rfl) (fun _ _ _ _ _ _ _ hr => rd_check_number B g hr) fun xs z h => by
    cases h with
    | mk h1 h2 =>
      refine (sr_seq (sb_not (et_is (et_or (et_not (et_B (ed_call (ea_cons (ed_var rfl) ea_nil) .mk))) fun _ => (et_or (et_and (et_B (ed_notN (ed_var rfl))) fun _ => (et_test (ed_op (ed_var rfl) (ed_var rfl) od_i0))) fun _ => (et_and (et_B (ed_notN (ed_var rfl))) fun _ => (et_test (ed_op (ed_var rfl) (ed_var rfl) od_i0))))) ?_))
    (sr_ret (ed_var rfl)))
      simp
      omega
    | mk0 =>
      refine (sr_seq (sb_not (et_is (et_or (et_not (et_B (ed_call (ea_cons (ed_var rfl) ea_nil) .mk))) fun _ => (et_or (et_and (b := false) (et_B (ed_notN (ed_var rfl))) fun h => by simp at h) fun _ => (et_and (b := false) (et_B (ed_notN (ed_var rfl))) fun h => by simp at h))) ?_))
    (sr_ret (ed_var rfl)))
      simp
/-- a lot's numbers lie below n -/
def Below (n : Nat) (l : List Int) : Prop := l.length < 1000 ∧ ∀ i ∈ l, 0 ≤ i ∧ i < n
inductive Rlot_of (K : PySem.W.Frag) : List D → D → Prop
  | mk {n : Nat} {l : List Int} : 1 ≤ n → n ≤ 8 → Below n l → Rlot_of K [di (n : Int), lotD K l] (lotD K (lotOf n l))
theorem fn_lot_of (B : Bi mg) (g : GF P w K mg base 2 "check_number" (Pr Rcheck_number)) (c : ∃ t, mg "MOST_COPIES" = some (.int 8 t)) (D : DfG K mg "lot_of" (top 14)) : GF P w K mg base 3 "lot_of" (Pr (Rlot_of K)) :=
  gf_of D sc_lot_of (fun _ _ h => by cases h; rfl) (fun _ _ _ _ _ _ us h => match us, h with | [_, _], _ => rfl) (fun _ _ _ _ _ _ _ hr => rd_lot_of B g c hr) fun xs z h => by
    cases h with
    | @mk n l h1 h2 h3 =>
      refine (sr_seq (sb_drop (ed_call (ea_cons ed_c (ea_cons (ed_var rfl) (ea_cons ed_c (ea_cons ed_c ea_nil)))) (.mk (by omega) (by omega))))
    (sr_seq (env' := [.d (di n), .d (lotD K l), .no, .no]) (sb_fg (sb_forT l (fun i => di i) (fun _ => [.d (di n), .d (lotD K l), .no, .no]) (ed_var rfl) (.eq (.eq (.no (.no .nil)))) _ (fun i a ha => tj_name) fun i a ha => (sb_fg (sb_drop (ed_call (ea_cons ed_c (ea_cons (ed_var rfl) (ea_cons ed_c (ea_cons (ed_op (ed_var rfl) ed_c od_i0) ea_nil)))) (.mk ?_ ?_))) (.eq (.eq (.no (.no .nil)))))) (Fg.refl _))
    (sr_ret (ed_tupL (EO.ed (eo_RI _ (ea_cons (ed_var rfl) ea_nil) (by omega) (by decide) rfl fun i hi => (et_test (ed_op (ed_var rfl) (ed_var rfl) od_inT))))))))
      · exact (h3.2 a (List.mem_of_getElem? ha)).1
      · have := (h3.2 a (List.mem_of_getElem? ha)).2
        omega
inductive Rothers (K : PySem.W.Frag) : List D → D → Prop
  | mk {n : Nat} {l : List Int} : 1 ≤ n → n ≤ 8 → Below n l → Rothers K [di (n : Int), lotD K l] (lotD K (others n l))
theorem fn_others (B : Bi mg) (g : GF P w K mg base 3 "lot_of" (Pr (Rlot_of K))) (D : DfG K mg "others" (top 15)) : GF P w K mg base 4 "others" (Pr (Rothers K)) :=
  gf_of D sc_others (fun _ _ h => by cases h; rfl) (fun _ _ _ _ _ _ us h => match us, h with | [_, _], _ => rfl) (fun _ _ _ _ _ _ _ hr => rd_others B g hr) fun xs z h => by
    cases h with
    | @mk n l h1 h2 h3 =>
      exact (sr_seq (sb_asg (ed_call (ea_cons (ed_var rfl) (ea_cons (ed_var rfl) ea_nil)) (.mk h1 h2 h3)))
    (sr_ret (ed_tupL (EO.ed (eo_RI _ (ea_cons (ed_var rfl) ea_nil) (by omega) (by decide) rfl fun i hi => (et_test (ed_op (ed_var rfl) (ed_var rfl) od_inT)))))))
inductive Rall_lots (K : PySem.W.Frag) : List D → D → Prop
  | mk {n : Nat} : 1 ≤ n → n ≤ 8 → Rall_lots K [di (n : Int)] (lotsL K (allLots n))
theorem allLots_len : ∀ n, (allLots n).length = 2 ^ n
  | 0 => rfl
  | n + 1 => by rw [allLots, List.length_append, List.length_map, allLots_len n, Nat.pow_succ]; omega
theorem allLots_len8 {n : Nat} (h : n ≤ 8) : (allLots n).length ≤ 256 := by
  rw [allLots_len]
  exact Nat.pow_le_pow_right (by decide) h
theorem allLots_mem {n : Nat} : ∀ l ∈ allLots n, l.length ≤ n ∧ ∀ i ∈ l, 0 ≤ i ∧ i < n := by
  induction n with
  | zero => intro l h; simp [allLots] at h; subst h; simp
  | succ n ih =>
    intro l h
    rw [allLots, List.mem_append, List.mem_map] at h
    rcases h with h | ⟨m, h, rfl⟩
    · obtain ⟨h1, h2⟩ := ih l h
      exact ⟨by omega, fun i hi => by have := h2 i hi; omega⟩
    · obtain ⟨h1, h2⟩ := ih m h
      refine ⟨by simp; omega, fun i hi => ?_⟩
      rcases List.mem_append.mp hi with hi | hi
      · have := h2 i hi; omega
      · simp at hi; omega
theorem fn_all_lots (B : Bi mg) (g : GF P w K mg base 2 "check_number" (Pr Rcheck_number)) (c : ∃ t, mg "MOST_COPIES" = some (.int 8 t)) (D : DfG K mg "all_lots" (top 16)) : GF P w K mg base 3 "all_lots" (Pr (Rall_lots K)) :=
  gf_of D sc_all_lots (fun _ _ h => by cases h; rfl) (fun _ _ _ _ _ _ us h => match us, h with | [_], _ => rfl) (fun _ _ _ _ _ _ _ hr => rd_all_lots B g c hr) fun xs z h => by
    cases h with
    | @mk n h1 h2 =>
      refine (sr_seq (sb_drop (ed_call (ea_cons ed_c (ea_cons (ed_var rfl) (ea_cons ed_c (ea_cons ed_c ea_nil)))) (.mk (by omega) (by omega))))
    (sr_seq (sb_asg (ed_lst (ea_cons (ed_tup ea_nil rfl) ea_nil) rfl))
    (sr_seq (env' := [.d (di n), .d (lotsL K (allLots n)), .no, .no]) (sb_fg (sb_forR (n := n) (fun i => [.d (di n), .d (lotsL K (allLots i)), .no, .no]) (rj1 (ea_cons (ed_var rfl) ea_nil) (by omega)) (.eq (.eq (.no (.no .nil)))) _ (fun i hi => tj_name) fun i hi => (sb_fg (sb_asg (ed_is (ed_op (ed_var rfl) (EO.ed (eo_L0 (allLots i) (fun l => lotD K l) (fun l => lotD K (l ++ [(i : Int)])) (ed_var rfl) ?_ (by decide) fun a ha => (ed_is (ed_op (ed_var rfl) (ed_tup (ea_cons (ed_var rfl) ea_nil) rfl) (od_catA ?_)) ?_))) (od_cat ?_)) ?_)) (.eq (.eq (.no (.no .nil)))))) (Fg.refl _))
    (sr_ret (ed_var rfl)))))
      · have := allLots_len8 (n := i) (by omega); omega
      · have := (allLots_mem a ha).1; simp; omega
      · rw [lotD, List.map_append]; rfl
      · have := allLots_len8 (n := i) (by omega); simp; omega
      · rw [lotsL, allLots, List.map_append, List.map_map]; rfl
inductive Rholds (K : PySem.W.Frag) : List D → D → Prop
  | mk {l p : List Int} : p.length < 1000 → Rholds K [lotD K l, lotD K p] (db (hold l p))
theorem fn_holds (B : Bi mg) (D : DfG K mg "holds" (top 19)) : GF P w K mg base 1 "holds" (Pr (Rholds K)) :=
  gf_of D sc_holds (fun _ _ h => by cases h; rfl) (fun _ _ _ _ _ _ us h => match us, h with | [_, _], _ => rfl) (fun _ _ _ _ _ _ _ hr => rd_holds B hr) fun xs z h => by
    cases h with
    | @mk l p h1 => exact (sr_ret (ed_cb (ea_cons (EO.ed (eo_T0 p (fun i => di i) _ (ed_var rfl) (by omega) (by decide) fun a ha => (ed_op (ed_var rfl) (ed_var rfl) od_inT))) ea_nil) cd_allF))
inductive Rmeet (K : PySem.W.Frag) : List D → D → Prop
  | mk {a b : List Int} : a.length < 1000 → Rmeet K [lotD K a, lotD K b] (db (meet a b))
theorem fn_meet (B : Bi mg) (D : DfG K mg "meet" (top 20)) : GF P w K mg base 1 "meet" (Pr (Rmeet K)) :=
  gf_of D sc_meet (fun _ _ h => by cases h; rfl) (fun _ _ _ _ _ _ us h => match us, h with | [_, _], _ => rfl) (fun _ _ _ _ _ _ _ hr => rd_meet B hr) fun xs z h => by
    cases h with
    | @mk l p h1 => exact (sr_ret (ed_cb (ea_cons (EO.ed (eo_T0 l (fun i => di i) _ (ed_var rfl) (by omega) (by decide) fun a ha => (ed_op (ed_var rfl) (ed_var rfl) od_inT))) ea_nil) cd_anyF))
inductive Rmiddle_lots (K : PySem.W.Frag) : List D → D → Prop
  | mk {n : Nat} : 1 ≤ n → n ≤ 8 → Rmiddle_lots K [di (n : Int)] (lotsL K (middle n))
theorem fn_middle_lots (B : Bi mg) (g : GF P w K mg base 3 "all_lots" (Pr (Rall_lots K))) (D : DfG K mg "middle_lots" (top 21)) : GF P w K mg base 4 "middle_lots" (Pr (Rmiddle_lots K)) :=
  gf_of D sc_middle_lots (fun _ _ h => by cases h; rfl) (fun _ _ _ _ _ _ us h => match us, h with | [_], _ => rfl) (fun _ _ _ _ _ _ _ hr => rd_middle_lots B g hr) fun xs z h => by
    cases h with
    | @mk n h1 h2 =>
      exact (sr_ret (EO.ed (eo_LI (allLots n) (fun l => lotD K l) _ (ed_call (ea_cons (ed_var rfl) ea_nil) (.mk h1 h2)) (by have := allLots_len8 h2; omega) (by decide) rfl fun a ha => (et_test (ed_is (ed_chain ed_c (ed_cb (ea_cons (ed_var rfl) ea_nil) cd_lenT) od_i0 (fun _ => (ed_var rfl)) fun _ => od_i0) (by rw [List.length_map]))))))
inductive Rcode_of (K : PySem.W.Frag) : List D → D → Prop
  | mk {l : List Int} : Below 8 l → Rcode_of K [lotD K l] (di (codeOf l))
/-- the tuple of powers, in the written part -/
def CodesAt (K : PySem.W.Frag) (a : Addr) : Prop := ∀ H : Hp, SqT K H a ([1, 2, 4, 8, 16, 32, 64, 128].map V.int)
theorem fn_code_of {aCODES : Addr} (B : Bi mg) (cc : CodesAt K aCODES) (c : mg "CODES" = some (.ref aCODES)) (D : DfG K mg "code_of" (top 17)) : GF P w K mg base 1 "code_of" (Pr (Rcode_of K)) :=
  gf_of D sc_code_of (fun _ _ h => by cases h; rfl) (fun _ _ _ _ _ _ us h => match us, h with | [_], _ => rfl) (fun _ _ _ _ _ _ _ hr => rd_code_of B c hr) fun xs z h => by
    cases h with
    | @mk l h1 =>
      refine (sr_ret (ed_cb (ea_cons (EO.ed (eo_T0 l (fun i => di i) (fun i => di (2 ^ i.toNat)) (ed_var rfl) (by have := h1.1; omega) (by decide) fun a ha => ?_)) ea_nil) cd_sumF))
      obtain ⟨h2, h3⟩ := h1.2 a ha
      intro σ Hb H Q e o q
      refine ⟨.int a, ?_, ?_⟩
      · obtain ⟨v, e1, e2⟩ := o.at_ 1 (.d (di a)) rfl
        rw [e1, show v = V.int a from e2]
      · refine ⟨aCODES, _, a, .int (2 ^ a.toNat), rfl, rfl, cc H, ?_, q _ Hb H (Fr.refl e) rfl⟩
        have h4 : a = 0 ∨ a = 1 ∨ a = 2 ∨ a = 3 ∨ a = 4 ∨ a = 5 ∨ a = 6 ∨ a = 7 := by omega
        rcases h4 with rfl | rfl | rfl | rfl | rfl | rfl | rfl | rfl <;> rfl
end
end Kb
end
section
/-! Kb16: two fors in a comprehension. -/
namespace Kb
open PySem PySem.Spec PyProof.Rows L2
section
variable {env : Env'} {tl tl2 te : TE} {K : PySem.W.Frag} {j j2 : Nat} {α β : Type}
theorem lc_put {Hb1 H1 Hi H Hb2 H2 : Hp} {Dl : Addr} {acc : List D} {d : D} {vs : List V} {y : V} (f : Fr Hb1 H1 Hi H) (n0 : H1 Dl = none) (n1 : Hi Dl = none) (n2 : H Dl = some (.lst vs)) (n3 : Dn acc vs Hi) (f2 : Fr Hi H Hb2 H2) (py : d.p y Hb2) : LcOk Hb1 H1 Dl (acc ++ [d]) (upd H2 Dl (.lst (vs ++ [y]))) := by
  have mu : Mu H Dl := ⟨_, n2, fun _ z => by cases z⟩
  have nb := f2.o Dl mu n1
  have F := f.trans f2
  exact ⟨Hb2, vs ++ [y], ⟨F.b, fun a u hc => by rw [upd_ne (fun z => by rw [z, nb] at hc; cases hc)]; exact F.s a u hc, F.h.over n0 (f2.h.k n2), F.o⟩, nb, upd_same, (n3.mono f2.b).app (.cons py .nil)⟩
theorem LcOk.fr {Hb1 H1 Hi H Hb2 H2 : Hp} {Dl : Addr} {acc : List D} {vs : List V} (f : Fr Hb1 H1 Hi H) (n1 : Hi Dl = none) (n2 : H Dl = some (.lst vs)) (n3 : Dn acc vs Hi) (f2 : Fr Hi H Hb2 H2) : LcOk Hb1 H1 Dl acc H2 :=
  ⟨Hb2, vs, f.trans f2, f2.o Dl ⟨_, n2, fun _ z => by cases z⟩ n1, f2.h.k n2, n3.mono f2.b⟩
theorem eo_two (l : List α) (g : α → D) (l2 : List β) (g2 : β → D) (h : α → β → D) (hl : ED tl env (dt K (l.map g))) (hz : l.length * l2.length < 90000) (hl2 : ∀ a ∈ l, ED tl2 ((wipeE env [j, j2]).set j (.d (g a))) (dt K (l2.map g2)))
    (he : ∀ a ∈ l, ∀ b ∈ l2, ED te ((wipeE ((wipeE env [j, j2]).set j (.d (g a))) [j2]).set j2 (.d (g2 b))) (h a b)) : EO (tLc2 (iTup K tl) (gName j) tYes (iTup K tl2) (gName j2) tYes te [j, j2] [j2]) env (l.flatMap fun a => l2.map (h a)) := fun σ Hb H Q e o q => by
  refine hl σ Hb H _ e o fun v Hb1 H1 f1 hp => ?_
  obtain ⟨a0, us, rfl, ha, dn⟩ := hp
  have hlen : us.length = l.length := by have := dn.len; rw [List.length_map] at this; exact this.symm
  refine ⟨a0, rfl, ⟨us, sq_t f1.s ha⟩, fun Dl hD => ?_⟩
  refine ⟨fun i m H' => i ≤ l.length ∧ m = l.length - i ∧ LcOk Hb1 H1 Dl ((l.take i).flatMap fun a => l2.map (h a)) H', ⟨l.length, Nat.zero_le _, by simp, lc_0 f1.s hD⟩, ?_⟩
  rintro i m H' ⟨hi, rfl, p⟩
  obtain ⟨Hi, ws, f2, n1, n2, n3⟩ := id p
  have sq : SqT K H' a0 us := sq_t f2.s (f2.b a0 _ ha)
  by_cases lt : i < l.length
  · have lu : i < us.length := by omega
    refine .inr ⟨⟨us, us[i], sq, by simp [lu]⟩, fun H2 => LcOk Hb1 H1 Dl ((l.take (i + 1)).flatMap fun a => l2.map (h a)) H2, fun H2 p2 => ⟨l.length - (i + 1), by omega, by omega, rfl, p2⟩, fun x H2 y => ?_⟩
    obtain ⟨rfl, y⟩ := y
    have hx := y us sq
    obtain ⟨d, hd, px⟩ := dn.at_ hx
    rw [List.getElem?_map] at hd
    obtain ⟨b, hb, ed⟩ := Option.map_eq_some_iff.mp hd
    subst ed
    have ml := List.mem_of_getElem? hb
    have oe : EnvOk ((wipeE env [j, j2]).set j (.d (g b))) ((L2.wipe σ [j, j2]).set j (some x)) Hi H2 := (((o.fr f1).fr f2).wipe [j, j2]).set (x := .d (g b)) ⟨x, rfl, (g b).mono f2.b px⟩
    refine ⟨wipe_set (by simp), ?_⟩
    have et : (l.take (i + 1)).flatMap (fun a => l2.map (h a)) = (l.take i).flatMap (fun a => l2.map (h a)) ++ l2.map (h b) := by rw [List.take_add_one, hb, List.flatMap_append]; simp
    refine hl2 b ml _ Hi H2 _ f2.s oe fun v2 Hb2 H3 f3 hp2 => ?_
    obtain ⟨c0, zs, rfl, hc, dz⟩ := hp2
    have zlen : zs.length = l2.length := by have := dz.len; rw [List.length_map] at this; exact this.symm
    refine ⟨c0, rfl, ⟨zs, sq_t f3.s hc⟩, fun k m2 H4 => k ≤ l2.length ∧ m2 = l2.length - k ∧ ∃ Hk vs4, Fr Hb1 H1 Hk H4 ∧ Ex Hb2 Hk ∧ Ex Hi Hk ∧ Hk Dl = none ∧ H4 Dl = some (.lst vs4) ∧ Dn ((l.take i).flatMap (fun a => l2.map (h a)) ++ (l2.take k).map (h b)) vs4 Hk, ⟨l2.length, Nat.zero_le _, by simp, Hb2, ws, f2.trans f3, Evl.Ex.refl _, f3.b, f3.o Dl ⟨_, n2, fun _ z => by cases z⟩ n1, f3.h.k n2, by simpa using n3.mono f3.b⟩, ?_⟩
    rintro k m2 H4 ⟨hk, rfl, Hk, vs4, g1, g2', g3, k1, k2, k3⟩
    have sz : SqT K H4 c0 zs := sq_t g1.s (g2' c0 _ hc)
    by_cases lt2 : k < l2.length
    · have lu2 : k < zs.length := by omega
      refine .inr ⟨⟨zs, zs[k], sz, by simp [lu2]⟩, fun H5 => ∃ Hk vs4, Fr Hb1 H1 Hk H5 ∧ Ex Hb2 Hk ∧ Ex Hi Hk ∧ Hk Dl = none ∧ H5 Dl = some (.lst vs4) ∧ Dn ((l.take i).flatMap (fun a => l2.map (h a)) ++ (l2.take (k + 1)).map (h b)) vs4 Hk, fun H5 p5 => ⟨l2.length - (k + 1), by omega, lt2, rfl, p5⟩, fun x2 H5 y2 => ?_⟩
      obtain ⟨rfl, y2⟩ := y2
      have hx2 := y2 zs sz
      obtain ⟨d2, hd2, px2⟩ := dz.at_ hx2
      rw [List.getElem?_map] at hd2
      obtain ⟨c, hcc, ed2⟩ := Option.map_eq_some_iff.mp hd2
      subst ed2
      have ml2 := List.mem_of_getElem? hcc
      -- the slots, at the heap of now: from the entry
      have o1 : EnvOk ((wipeE env [j, j2]).set j (.d (g b))) ((L2.wipe σ [j, j2]).set j (some x)) Hk H5 := (((o.fr f1).fr g1).wipe [j, j2]).set (x := .d (g b)) ⟨x, rfl, (g b).mono (f2.b.trans g3) px⟩
      have oe2 : EnvOk ((wipeE ((wipeE env [j, j2]).set j (.d (g b))) [j2]).set j2 (.d (g2 c))) ((L2.wipe ((L2.wipe σ [j, j2]).set j (some x)) [j2]).set j2 (some x2)) Hk H5 := (o1.wipe [j2]).set (x := .d (g2 c)) ⟨x2, rfl, (g2 c).mono g2' px2⟩
      refine ⟨wipe_set (by simp), ?_⟩
      show te _ H5 _
      refine he b ml c ml2 _ Hk H5 _ g1.s oe2 fun y3 Hb5 H6 f5 py => ?_
      have lv : vs4.length < 90000 := by
        rw [← k3.len, List.length_append, List.length_map]
        have h1 : ((l.take i).flatMap fun a => l2.map (h a)).length = (l.take i).length * l2.length := by
          clear et n3 k3 p
          induction l.take i with
          | nil => simp
          | cons a r ih => rw [List.flatMap_cons, List.length_append, ih, List.length_map, List.length_cons, Nat.add_mul]; omega
        have h2 : (l.take i).length = i := by rw [List.length_take]; omega
        have h3 : (l2.take k).length = k := by rw [List.length_take]; omega
        rw [h1, h2, h3]
        have h4 : (i + 1) * l2.length ≤ l.length * l2.length := Nat.mul_le_mul_right _ lt
        rw [Nat.add_mul] at h4
        omega
      refine ⟨vs4, f5.h.k k2, Evl.sz_lt (by omega), ?_⟩
      obtain ⟨Hx, vx, r1, r2, r3, r4⟩ := lc_put g1 hD k1 k2 k3 f5 py
      have e2 : (l2.take (k + 1)).map (h b) = (l2.take k).map (h b) ++ [h b c] := by rw [List.take_add_one, hcc, List.map_append]; rfl
      have F := g1.trans f5
      have nb := f5.o Dl ⟨_, k2, fun _ z => by cases z⟩ k1
      refine ⟨Hb5, vs4 ++ [y3], ⟨F.b, fun a u hc => by rw [upd_ne (fun z => by rw [z, nb] at hc; cases hc)]; exact F.s a u hc, F.h.over hD (f5.h.k k2), F.o⟩, g2'.trans f5.b, g3.trans f5.b, nb, upd_same, ?_⟩
      rw [e2, ← List.append_assoc]
      exact (k3.mono f5.b).app (.cons py .nil)
    · have ek : k = l2.length := by omega
      subst ek
      refine .inl ⟨⟨zs, sz, by omega⟩, ?_⟩
      rw [et]
      rw [List.take_length] at k3
      exact ⟨Hk, vs4, g1, k1, k2, k3⟩
  · have ei : i = l.length := by omega
    subst ei
    rw [List.take_length] at p
    exact .inl ⟨⟨us, sq, by omega⟩, lc_end f1 hD p q⟩
end
end Kb
end
section
set_option maxRecDepth 10000
/-! M3: normal lots. -/
namespace M
theorem sum_go (a b : Int) (l : List Int) : (a :: l).sum = a + l.sum := by simp
/-- the lots of a choice of copies -/
def pick (n : Nat) (f : Nat → Bool) : List Int := ((List.range n).filter f).map fun (i : Nat) => (i : Int)
theorem lotOf_pick (n : Nat) (l : List Int) : lotOf n l = pick n fun i => decide ((i : Int) ∈ l) := rfl
theorem others_pick (n : Nat) (l : List Int) : others n l = pick n fun i => !decide ((i : Int) ∈ lotOf n l) := rfl
instance (l : List Int) : Decidable (Norm l) := by unfold Norm; infer_instance
def pickB (n : Nat) (b : List Bool) : List Int := pick n fun i => b.getD i false
theorem pick_B (n : Nat) (hn : n ≤ 8) (f : Nat → Bool) : pick n f = pickB n [f 0, f 1, f 2, f 3, f 4, f 5, f 6, f 7] := by
  unfold pickB pick
  congr 1
  refine List.filter_congr fun i hi => ?_
  rw [List.mem_range] at hi
  have : i = 0 ∨ i = 1 ∨ i = 2 ∨ i = 3 ∨ i = 4 ∨ i = 5 ∨ i = 6 ∨ i = 7 := by omega
  rcases this with rfl | rfl | rfl | rfl | rfl | rfl | rfl | rfl <;> rfl
theorem norm_B : ∀ n : Fin 9, ∀ a b c d e f g h : Bool, Norm (pickB n [a, b, c, d, e, f, g, h]) := by decide +kernel
theorem norm_pick {n : Nat} (hn : n ≤ 8) (f : Nat → Bool) : Norm (pick n f) := by
  rw [pick_B n hn]
  exact norm_B ⟨n, by omega⟩ _ _ _ _ _ _ _ _
theorem norm_lotOf {n : Nat} (hn : n ≤ 8) (l : List Int) : Norm (lotOf n l) := norm_pick hn _
theorem norm_others {n : Nat} (hn : n ≤ 8) (l : List Int) : Norm (others n l) := norm_pick hn _
theorem Norm.len {l : List Int} (h : Norm l) : l.length ≤ 8 := by
  rw [← h.1]
  unfold lotOfCode
  rw [List.length_map]
  exact Nat.le_trans (List.length_filter_le _ _) (by simp)
theorem norm_code {c : Int} (h0 : 0 ≤ c) (h : c < 256) : Norm (lotOfCode c) ∧ codeOf (lotOfCode c) = c := by
  have : ∀ c : Fin 256, Norm (lotOfCode (c.val : Int)) ∧ codeOf (lotOfCode (c.val : Int)) = (c.val : Int) := by decide +kernel
  have z := this ⟨c.toNat, by omega⟩
  rw [show ((⟨c.toNat, by omega⟩ : Fin 256).val : Int) = c from Int.toNat_of_nonneg h0] at z
  exact z
theorem asc_len (ls : List (List Int)) : (asc ls).length ≤ 256 := by
  unfold asc codes
  rw [List.length_map, List.length_map]
  exact Nat.le_trans (List.length_filter_le _ _) (by simp)
theorem least_len (ls : List (List Int)) : (leastLots ls).length ≤ 256 := Nat.le_trans (List.length_filter_le _ _) (asc_len ls)
theorem mem_asc {ls : List (List Int)} (hn : ∀ l ∈ ls, Norm l) {l : List Int} : l ∈ asc ls ↔ l ∈ ls := by
  unfold asc
  rw [List.mem_map]
  constructor
  · rintro ⟨c, hc, rfl⟩
    obtain ⟨h1, h2, h3⟩ := mem_codes.mp hc
    obtain ⟨m, hm, rfl⟩ := List.mem_map.mp h1
    rw [(hn m hm).1]
    exact hm
  · intro h
    exact ⟨codeOf l, mem_codes.mpr ⟨List.mem_map_of_mem h, (hn l h).2.1, (hn l h).2.2.1⟩, (hn l h).1⟩
theorem mem_least {ls : List (List Int)} (hn : ∀ l ∈ ls, Norm l) {l : List Int} (h : l ∈ leastLots ls) : l ∈ ls := (mem_asc hn).mp (List.mem_filter.mp h).1
end M
end
section
/-! Kd2: ascending, least lots, families. -/
namespace Kb
open PySem PySem.Spec PyProof.Rows L2 M
theorem keysOf_mem (l : List Int) (a : Int) : a ∈ keysOf l ↔ a ∈ l := by
  have : ∀ (l ks : List Int), a ∈ l.foldl kadd ks ↔ a ∈ ks ∨ a ∈ l := by
    intro l
    induction l with
    | nil => intro ks; simp
    | cons b r ih =>
      intro ks
      rw [List.foldl_cons, ih, List.mem_cons]
      have : a ∈ kadd ks b ↔ a ∈ ks ∨ a = b := by
        unfold kadd
        split
        · constructor
          · exact .inl
          · rintro (h | rfl) <;> assumption
        · simp
      rw [this, or_assoc]
  rw [show keysOf l = l.foldl kadd [] from rfl, this]
  simp
theorem keysOf_nodup (l : List Int) : (keysOf l).Nodup := by
  have : ∀ (l ks : List Int), ks.Nodup → (l.foldl kadd ks).Nodup := by
    intro l
    induction l with
    | nil => intro ks h; exact h
    | cons b r ih =>
      intro ks h
      rw [List.foldl_cons]
      refine ih _ ?_
      unfold kadd
      split
      · exact h
      · rename_i hb
        rw [List.nodup_append]
        exact ⟨h, by simp, fun x hx y hy z => hb (by simp at hy; rw [← hy, ← z]; exact hx)⟩
  exact this l [] (by simp)
theorem lookup_map {vf : Int → D} {c : Int} : ∀ {l : List Int}, c ∈ l → (l.map fun k => (k, vf k)).lookup c = some (vf c)
  | a :: r, h => by
    rw [List.map_cons, List.lookup_cons]
    by_cases z : c = a
    · subst z; simp
    · rw [Bool.eq_false_iff.mpr fun q => z (beq_iff_eq.mp q)]
      exact lookup_map ((List.mem_cons.mp h).resolve_left z)
section
variable {P : Program} {w : World} {K : PySem.W.Frag} {mg : Str → Option Value} {base : Heap}
inductive Rascending (K : PySem.W.Frag) : List D → D → Prop
  | mk {ls : List (List Int)} : (∀ l ∈ ls, Norm l) → ls.length < 1000 → Rascending K [lotsL K ls] (lotsL K (asc ls))
theorem fn_ascending (B : Bi mg) (g : GF P w K mg base 1 "code_of" (Pr (Rcode_of K))) (D : DfG K mg "ascending" (top 18)) : GF P w K mg base 2 "ascending" (Pr (Rascending K)) :=
  gf_of D sc_ascending (fun _ _ h => by cases h; rfl) (fun _ _ _ _ _ _ us h => match us, h with | [_], _ => rfl) (fun _ _ _ _ _ _ _ hr => rd_ascending B g hr) fun xs z h => by
    cases h with
    | @mk ls h1 h2 =>
      have hk := keysOf_len (ls.map codeOf)
      rw [List.length_map] at hk
      refine (sr_seq (sb_dictI (edi_comp ls (fun l => lotD K l) codeOf (fun c => lotD K (lotOfCode c)) (ed_var rfl) (by omega) (by decide) (fun a ha => ed_call (ea_cons (ed_var rfl) ea_nil) (.mk ?_)) fun a ha => ed_is (ed_var rfl) ?_))
    (sr_ret (ed_is (EO.ed (eo_L0 (codes ls) (fun c => di c) (fun c => lotD K (lotOfCode c)) (EO.ed (eo_sortedI (l := keysOf (ls.map codeOf)) (ea_cons (EO.ed (eo_lockI (i := 1) rfl ?_ ((eo_lcDI (keysOf (ls.map codeOf)) (fun c => c) (fun c => lotD K (lotOfCode c)) (fun _ => true) (fun c => di c) rfl (by omega) (by decide) (fun _ _ => et_yes) fun a ha _ => (ed_cb (ea_cons (ed_var rfl) ea_nil) cd_int)).is (by rw [fil_all])))) ea_nil) ?_)) ?_ (by decide) fun a ha => (ed_dgetI rfl (ed_var rfl) ?_))) ?_)))
      · have hn := h1 a ha
        exact ⟨by have := hn.len; omega, hn.2.2.2⟩
      · rw [(h1 a ha).1]
      · intro k b l e
        match k, e with
        | 1, _ => rfl
        | 0, e => simp [startE] at e
        | 2, e => simp [startE] at e
        | 3, e => simp [startE] at e
        | k + 4, e => simp [startE] at e
      · intro m hm hs
        refine sorted_eq hs (codes_lt ls) (hm.trans (perm_of_mem (keysOf_nodup _) (codes_lt ls) fun a => ?_))
        rw [keysOf_mem, mem_codes]
        constructor
        · intro h
          obtain ⟨l, hl, rfl⟩ := List.mem_map.mp h
          exact ⟨h, (h1 l hl).2.1, (h1 l hl).2.2.1⟩
        · exact fun h => h.1
      · have := asc_len ls
        rw [asc, List.length_map] at this
        omega
      · exact lookup_map ((keysOf_mem _ _).mpr (mem_codes.mp ha).1)
      · rw [lotsL, asc, List.map_map]; rfl
inductive Rleast_lots (K : PySem.W.Frag) : List D → D → Prop
  | mk {ls : List (List Int)} : (∀ l ∈ ls, Norm l) → ls.length < 1000 → Rleast_lots K [lotsL K ls] (lotsL K (leastLots ls))
theorem fn_least_lots (B : Bi mg) (g : GF P w K mg base 2 "ascending" (Pr (Rascending K))) (g2 : GF P w K mg base 1 "holds" (Pr (Rholds K))) (D : DfG K mg "least_lots" (top 23)) : GF P w K mg base 3 "least_lots" (Pr (Rleast_lots K)) :=
  gf_of D sc_least_lots (fun _ _ h => by cases h; rfl) (fun _ _ _ _ _ _ us h => match us, h with | [_], _ => rfl) (fun _ _ _ _ _ _ _ hr => rd_least_lots B g g2 hr) fun xs z h => by
    cases h with
    | @mk ls h1 h2 =>
      have hz := asc_len ls
      refine (sr_seq (sb_asg (ed_call (ea_cons (ed_var rfl) ea_nil) (.mk h1 h2)))
    (sr_ret (EO.ed (eo_LI (asc ls) (fun l => lotD K l) _ (ed_var rfl) (by omega) (by decide) rfl fun a ha => (et_not (et_B (ed_cb (ea_cons (EO.ed (eo_L0 (asc ls) (fun l => lotD K l) _ (ed_var rfl) (by omega) (by decide) fun b hb => (ed_and (ed_op (ed_var rfl) (ed_var rfl) od_neT) fun _ => (ed_call (ea_cons (ed_var rfl) (ea_cons (ed_var rfl) ea_nil)) (.mk ?_))))) ea_nil) cd_anyF)))))))
      have := (h1 b ((mem_asc h1).mp hb)).len
      omega
/-! families -/
structure KFam (K : PySem.W.Frag) (mg : Str → Option Value) (aF : Addr) : Prop where
  cl : Cls K aF
  copies : NoAttr K aF "copies"
  lots : NoAttr K aF "lots"
  isC : IsC K aF
  nm : mg "Family" = some (.ref aF)
  sf : PySem.W.selfFirst K aF = true
def LotOk (n : Nat) (l : List Int) : Prop := l ≠ [] ∧ Below n l
inductive RFamilyI (K : PySem.W.Frag) : List D → List D → List Str → List D → Prop
  | mk {n : Nat} {ls : List (List Int)} : 1 ≤ n → n ≤ 8 → ls ≠ [] → (∀ l ∈ ls, LotOk n l) → ls.length < 500 → RFamilyI K [di (n : Int)] (ls.map fun l => lotD K l) ["copies", "lots"] [di (n : Int), lotsT K (leastLots (ls.map (lotOf n)))]
theorem sp_keep {t : TS} {env : Env'} {C : Addr} {ms : List Str} {ys xs : List D} (i : Nat) (h : env[i]? = some (.own xs)) (hi : i ≠ 0) (h2 : SP t (env.set i (.d (dl xs))) C ms ys) : SP t env C ms ys := ⟨fun Hb0 H0 o dx σ Hb H D n1 n2 n3 nb e0 so k => by
  obtain ⟨Hb2, o2, _⟩ := so.keep h
  exact h2.run Hb0 H0 o dx σ Hb2 H D n1 n2 n3 nb (by rw [List.getElem?_set_ne hi]; exact e0) o2 k⟩
theorem lotOf_ne {n : Nat} {l : List Int} (h : LotOk n l) : lotOf n l ≠ [] := by
  intro z
  obtain ⟨a, r, e⟩ := List.exists_cons_of_ne_nil h.1
  have ha : a ∈ l := by rw [e]; exact List.mem_cons_self ..
  have := mem_lotOf.mpr ⟨ha, h.2.2 a ha⟩
  rw [z] at this
  cases this
/-- the class Family, made -/
inductive RFamily (K : PySem.W.Frag) (aF : Addr) : List D → D → Prop
  | mk {n : Nat} {ls : List (List Int)} : 1 ≤ n → n ≤ 8 → ls ≠ [] → (∀ l ∈ ls, LotOk n l) → ls.length < 500 → RFamily K aF (di (n : Int) :: ls.map fun l => lotD K l) (famD K aF n (leastLots (ls.map (lotOf n))))
theorem fn_Family {aF : Addr} (B : Bi mg) (kf : KFam K mg aF) (gn : GF P w K mg base 2 "check_number" (Pr Rcheck_number)) (gl : GF P w K mg base 3 "lot_of" (Pr (Rlot_of K))) (gt : GF P w K mg base 3 "least_lots" (Pr (Rleast_lots K))) (c : ∃ t, mg "MOST_COPIES" = some (.int 8 t))
    (D : ∃ f, Mk K aF f ∧ ∃ fd, FunD K "__init__" "Family.__init__" (defArgs (cdef 25 0)) (defBody (cdef 25 0)) (defScope (cdef 25 0)) [] [] f fd) : MF P w K mg base 4 "Family" (Pr (RFamily K aF)) := by
  obtain ⟨f, M, fd, F⟩ := D
  have fi := fn_initS (P := P) (w := w) (mg := mg) (base := base) (k := 3) (C := aF) (Rx := RFamilyI K) (m := 1) (ps := ["self", "copies"]) (pv := "lots") F sc_Familyx_initx rfl
    (fun doc pm an cdv ct kV us rest hl => StX.bind_star2 (B := fun us => bindArgs (PySem.W.fnOf "__init__" "Family.__init__" (defArgs (cdef 25 0)) (defBody (cdef 25 0)) (defScope (cdef 25 0)) .none kV doc pm an cdv ct) ⟨us, []⟩) (fun _ _ => rfl) (fun _ _ _ _ => rfl) us rest hl)
    (fun cdv A outer s H E hr => ⟨_, rd_Familyx_initx B gn c gl gt hr, fun xs1 xs2 ms ys h _ o => by
      cases h with
      | @mk n ls h1 h2 h3 h4 h5 =>
        have hz := least_len (ls.map (lotOf n))
        have hlen : 0 < ls.length := List.length_pos_iff.mpr h3
        refine (sp_seq (sb_drop (ed_call (ea_cons ed_c (ea_cons (ed_var rfl) (ea_cons ed_c (ea_cons ed_c ea_nil)))) (.mk (by omega) (by omega))))
    (sp_seq (sb_not (et_is (et_test (ed_op (ed_cb (ea_cons (ed_var rfl) ea_nil) cd_lenT) ed_c od_eqi)) ?_))
    (sp_seq (sb_own (eo_lst ea_nil rfl))
    (sp_seq (env' := [.d (dv (.ref o)), .d (di n), .d (lotsT K ls), .own ((ls.map (lotOf n)).map fun l => lotD K l), .no, .no, .no]) (sb_eq (sb_forE ls (fun l => lotD K l) (fun i => [.d (dv (.ref o)), .d (di n), .d (lotsT K ls), .own (((ls.take i).map (lotOf n)).map fun l => lotD K l), .no, .no, .no]) (ea_cons (ed_var rfl) ea_nil) (.eq (.eq (.eq (.eq (.no (.no (.no .nil))))))) _ (fun i a ha => tj_tup2) fun i a ha => sb_fg (sb_seq (sb_asg (ed_call (ea_cons (ed_var rfl) (ea_cons (ed_var rfl) ea_nil)) (.mk h1 h2 ?_))) (sb_seq (sb_not (et_is (et_test (ed_op (ed_cb (ea_cons (ed_var rfl) ea_nil) cd_lenT) ed_c od_eqi)) ?_)) (sb_eq (sb_app rfl (ed_var rfl) ?_) (env2 := [.d (dv (.ref o)), .d (di n), .d (lotsT K ls), .own (((ls.take (i + 1)).map (lotOf n)).map fun l => lotD K l), .d (di i), .d (lotD K a), .d (lotD K (lotOf n a))]) ?_))) (.eq (.eq (.eq (.eq (.no (.no (.no .nil)))))))) ?_)
    (sp_keep 3 rfl (by decide) (sp_si (si_fld rfl (by decide) kf.cl kf.copies (ed_var rfl)
    (si_last rfl (by decide) kf.cl kf.lots (ed_tupL (ed_call (ea_cons (ed_var rfl) ea_nil) (.mk ?_ ?_)))))))))))
        · simp
          exact h3
        · exact (h4 a (List.mem_of_getElem? ha)).2
        · have := lotOf_ne (h4 a (List.mem_of_getElem? ha))
          simp
          exact this
        · have h6 := (List.getElem?_eq_some_iff.mp ha).1
          rw [List.length_map, List.length_map, List.length_take]
          omega
        · have e : (ls.take (i + 1)).map (lotOf n) = (ls.take i).map (lotOf n) ++ [lotOf n a] := by rw [List.take_add_one, ha, List.map_append]; rfl
          rw [e, List.map_append]
          rfl
        · rw [List.take_length]
        · intro l hl
          obtain ⟨m, hm, rfl⟩ := List.mem_map.mp hl
          exact norm_lotOf h2 m
        · rw [List.length_map]
          omega⟩)
  refine mf_of fi M kf.nm fun xs z h => ?_
  cases h with
  | @mk n ls h1 h2 h3 h4 h5 =>
    exact ⟨["copies", "lots"], _, rfl, fun vs' H0 o dx Hb Q e d n1 n2 n3 q => spInitS_go (xs1 := [di (n : Int)]) (.mk h1 h2 h3 h4 h5) rfl (by rw [List.length_map]; omega) e d n1 n2 n3 q⟩
end
end Kb
end
section
/-! M4: families. -/
namespace M
def mkFam (n : Nat) (ls : List (List Int)) : List (List Int) := leastLots (ls.map (lotOf n))
def up (n : Nat) : List Int := (List.range n).map fun (i : Nat) => (i : Int)
def le (a b : List (List Int)) : Bool := a.all fun l => contains b l
def meetsF (a b : List (List Int)) : Bool := a.all fun x => b.all fun y => meet x y
def dualLots (n : Nat) (ls : List (List Int)) : List (List Int) := (allLots n).filter fun l => !contains ls (others n l)
end M
end
section
/-! Kd3: methods of Family. -/
namespace Kb
open PySem PySem.Spec PyProof.Rows L2 M
section
variable {P : Program} {w : World} {K : PySem.W.Frag} {mg : Str → Option Value} {base : Heap} {aF : Addr}
theorem famR {aF : Addr} {n : Nat} {ls : List (List Int)} (h1 : 1 ≤ n) (h2 : n ≤ 8) (h3 : ls ≠ []) (h4 : ∀ l ∈ ls, LotOk n l) (h5 : ls.length < 500) : RFamily K aF (di (n : Int) :: (ls.map (fun l => lotD K l) ++ [])) (famD K aF n (mkFam n ls)) := by
  rw [List.append_nil]
  exact .mk h1 h2 h3 h4 h5
theorem up_ok {n : Nat} (h : 1 ≤ n) (h8 : n ≤ 8) : LotOk n (up n) := by
  refine ⟨fun z => ?_, ?_, fun i hi => ?_⟩
  · have := congrArg List.length z
    simp [up] at this
    omega
  · simp [up]; omega
  · simp [up] at hi
    obtain ⟨a, ha, rfl⟩ := hi
    omega
inductive Rwhole (K : PySem.W.Frag) (aF : Addr) : List D → D → Prop
  | mk {n : Nat} : 1 ≤ n → n ≤ 8 → Rwhole K aF [di (n : Int)] (famD K aF n (mkFam n [up n]))
theorem fn_whole (B : Bi mg) (gn : GF P w K mg base 2 "check_number" (Pr Rcheck_number)) (m : MF P w K mg base 4 "Family" (Pr (RFamily K aF))) (c : ∃ t, mg "MOST_COPIES" = some (.int 8 t)) (D : DfS K aF "whole" "Family.whole" (cdef 25 1)) : UF P w K mg base 6 aF "whole" (Pr (Rwhole K aF)) :=
  uf_of D sc_Family_whole (fun _ _ h => by cases h; rfl) (fun _ _ _ _ _ _ us h => match us, h with | [_], _ => rfl) (fun _ _ _ _ _ _ _ hr => rd_Family_whole B gn c m hr) fun xs z h => by
    cases h with
    | @mk n h1 h2 =>
      exact (sr_seq (sb_drop (ed_call (ea_cons ed_c (ea_cons (ed_var rfl) (ea_cons ed_c (ea_cons ed_c ea_nil)))) (.mk (by omega) (by omega))))
    (sr_seq (sb_asg (ed_is (ed_tupRg (n := n) (ed_var rfl) (by omega)) (show _ = lotD K (up n) from by rw [lotD, up, List.map_map]; rfl)))
    (sr_ret (ed_call (ea_cons (ed_var rfl) (ea_cons (ed_var rfl) ea_nil)) (show RFamily K aF (di (n : Int) :: [up n].map fun l => lotD K l) _ from .mk h1 h2 (by simp) (fun l hl => by simp at hl; rw [hl]; exact up_ok h1 h2) (by simp))))))
inductive Rcontains (K : PySem.W.Frag) (aF : Addr) : List D → D → Prop
  | mk {n : Nat} {ls : List (List Int)} {l : List Int} : (∀ m ∈ ls, m.length < 1000) → ls.length < 1000 → Rcontains K aF [famD K aF n ls, lotD K l] (db (contains ls l))
theorem fn_contains (B : Bi mg) (kf : KFam K mg aF) (g : GF P w K mg base 1 "holds" (Pr (Rholds K))) (D : DfM K aF "contains" "Family.contains" (cdef 25 3)) : TF P w K mg base 2 aF "contains" (Pr (Rcontains K aF)) :=
  tf_of kf.cl D sc_Family_contains (fun _ _ h => by cases h; rfl) (fun _ _ _ _ _ _ us h => match us, h with | [_, _], _ => rfl) (fun _ _ _ _ _ _ _ hr => rd_Family_contains B g hr) fun xs z h => by
    cases h with
    | @mk n ls l h1 h2 =>
      exact (sr_ret (ed_cb (ea_cons (EO.ed (eo_T0 ls (fun l => lotD K l) _ (ed_fld (ed_var rfl) kf.cl kf.lots rfl) (by omega) (by decide) fun a ha => (ed_call (ea_cons (ed_var rfl) (ea_cons (ed_var rfl) ea_nil)) (.mk (h1 a ha))))) ea_nil) cd_anyF))
inductive Rcheck_like (K : PySem.W.Frag) (aF : Addr) : List D → D → Prop
  | mk {n : Nat} {a b : List (List Int)} : Rcheck_like K aF [famD K aF n a, famD K aF n b] dn
theorem fn_check_like (B : Bi mg) (kf : KFam K mg aF) (D : DfM K aF "check_like" "Family.check_like" (cdef 25 4)) : TF P w K mg base 1 aF "check_like" (Pr (Rcheck_like K aF)) :=
  tf_ofN kf.cl D sc_Family_check_like (fun _ _ h => by cases h; rfl) (fun _ _ _ _ _ _ us h => match us, h with | [_, _], _ => rfl) (fun _ _ _ _ _ _ _ hr => rd_Family_check_like B hr) fun xs z h => by
    cases h with
    | @mk n a b =>
      refine ⟨rfl, _, (sb_not (et_is (et_test (ed_op (ed_fld (ed_var rfl) kf.cl kf.copies rfl) (ed_fld (ed_var rfl) kf.cl kf.copies rfl) od_nei)) ?_))⟩
      simp
inductive Rle (K : PySem.W.Frag) (aF : Addr) : List D → D → Prop
  | mk {n : Nat} {a b : List (List Int)} : (∀ m ∈ b, m.length < 1000) → b.length < 1000 → a.length < 1000 → Rle K aF [famD K aF n a, famD K aF n b] (db (le a b))
theorem fn_le (B : Bi mg) (kf : KFam K mg aF) (g : TF P w K mg base 2 aF "contains" (Pr (Rcontains K aF))) (g2 : TF P w K mg base 1 aF "check_like" (Pr (Rcheck_like K aF))) (D : DfM K aF "__le__" "Family.__le__" (cdef 25 7)) : OpF P w K mg base 3 aF "__le__" (Pr (Rle K aF)) :=
  of_of kf.sf D sc_Familyx_lex (fun _ _ h => by cases h; rfl) (fun _ _ _ _ _ _ us h => match us, h with | [_, _], _ => rfl) (fun _ _ _ _ _ _ _ hr => rd_Familyx_lex B kf.nm g2 g hr) fun xs z h => by
    cases h with
    | @mk n a b h1 h2 h3 =>
      exact (sr_seq (sb_not (et_is (et_not (et_B (ed_cb (ea_cons (ed_var rfl) (ea_cons ed_c ea_nil)) (cd_isiC kf.isC)))) rfl))
    (sr_seq (sb_drop (ed_meth (ed_var rfl) rfl (ea_cons (ed_var rfl) ea_nil) .mk))
    (sr_ret (ed_cb (ea_cons (EO.ed (eo_T0 a (fun l => lotD K l) _ (ed_fld (ed_var rfl) kf.cl kf.lots rfl) (by omega) (by decide) fun a ha => (ed_meth (ed_var rfl) rfl (ea_cons (ed_var rfl) ea_nil) (.mk h1 h2)))) ea_nil) cd_allF))))
inductive Ror (K : PySem.W.Frag) (aF : Addr) : List D → D → Prop
  | mk {n : Nat} {a b : List (List Int)} : 1 ≤ n → n ≤ 8 → a ≠ [] → (∀ l ∈ a ++ b, LotOk n l) → a.length + b.length < 500 → Ror K aF [famD K aF n a, famD K aF n b] (famD K aF n (mkFam n (a ++ b)))
theorem fn_or (B : Bi mg) (kf : KFam K mg aF) (m : MF P w K mg base 4 "Family" (Pr (RFamily K aF))) (g2 : TF P w K mg base 1 aF "check_like" (Pr (Rcheck_like K aF))) (D : DfM K aF "__or__" "Family.__or__" (cdef 25 8)) : OpF P w K mg base 6 aF "__or__" (Pr (Ror K aF)) :=
  of_of kf.sf D sc_Familyx_orx (fun _ _ h => by cases h; rfl) (fun _ _ _ _ _ _ us h => match us, h with | [_, _], _ => rfl) (fun _ _ _ _ _ _ _ hr => rd_Familyx_orx B kf.nm g2 m hr) fun xs z h => by
    cases h with
    | @mk n a b h1 h2 h3 h4 h5 =>
      exact (sr_seq (sb_not (et_is (et_not (et_B (ed_cb (ea_cons (ed_var rfl) (ea_cons ed_c ea_nil)) (cd_isiC kf.isC)))) rfl))
    (sr_seq (sb_drop (ed_meth (ed_var rfl) rfl (ea_cons (ed_var rfl) ea_nil) .mk))
    (sr_seq (sb_asg (ed_is (ed_op (ed_fld (ed_var rfl) kf.cl kf.lots rfl) (ed_fld (ed_var rfl) kf.cl kf.lots rfl) (od_catA (by simp; omega))) (show _ = lotsT K (a ++ b) from by rw [lotsT, List.map_append])))
    (sr_ret (ed_call (ea_cons (ed_fld (ed_var rfl) kf.cl kf.copies rfl) (ea_starT (ed_var rfl) ea_nil)) (famR h1 h2 (by simp [h3]) h4 (by simp; omega)))))))
inductive Rmeets (K : PySem.W.Frag) (aF : Addr) : List D → D → Prop
  | mk {n : Nat} {a b : List (List Int)} : (∀ m ∈ a, m.length < 1000) → a.length ≤ 256 → b.length ≤ 256 → Rmeets K aF [famD K aF n a, famD K aF n b] (db (meetsF a b))
theorem fn_meets (B : Bi mg) (kf : KFam K mg aF) (g : GF P w K mg base 1 "meet" (Pr (Rmeet K))) (g2 : TF P w K mg base 1 aF "check_like" (Pr (Rcheck_like K aF))) (D : DfM K aF "meets" "Family.meets" (cdef 25 15)) : TF P w K mg base 2 aF "meets" (Pr (Rmeets K aF)) :=
  tf_of kf.cl D sc_Family_meets (fun _ _ h => by cases h; rfl) (fun _ _ _ _ _ _ us h => match us, h with | [_, _], _ => rfl) (fun _ _ _ _ _ _ _ hr => rd_Family_meets B g2 g hr) fun xs z h => by
    cases h with
    | @mk n a b h1 h2 h3 =>
      refine (sr_seq (sb_drop (ed_meth (ed_var rfl) rfl (ea_cons (ed_var rfl) ea_nil) .mk))
    (sr_ret (ed_is (ed_cb (ea_cons (ed_is (EO.ed (eo_two a (fun l => lotD K l) b (fun l => lotD K l) (fun x y => db (meet x y)) (ed_fld (ed_var rfl) kf.cl kf.lots rfl) ?_ (fun x hx => (ed_fld (ed_var rfl) kf.cl kf.lots rfl)) fun x hx y hy => (ed_call (ea_cons (ed_var rfl) (ea_cons (ed_var rfl) ea_nil)) (.mk (h1 x hx))))) (show _ = dl ((a.flatMap fun x => b.map fun y => meet x y).map fun i => db i) from ?_)) ea_nil) cd_all) ?_)))
      · have := Nat.mul_le_mul h2 h3; omega
      · rw [List.map_flatMap]
        congr 2
        funext x
        rw [List.map_map]
        rfl
      · congr 1
        rw [meetsF, List.all_flatMap]
        congr 1
        simp [List.all_map]
inductive Ris_strict (K : PySem.W.Frag) (aF : Addr) : List D → D → Prop
  | mk {n : Nat} {a : List (List Int)} : (∀ m ∈ a, m.length < 1000) → a.length ≤ 256 → Ris_strict K aF [famD K aF n a] (db (meetsF a a))
theorem fn_is_strict (B : Bi mg) (kf : KFam K mg aF) (g : TF P w K mg base 2 aF "meets" (Pr (Rmeets K aF))) (D : DfM K aF "is_strict" "Family.is_strict" (cdef 25 16)) : TF P w K mg base 3 aF "is_strict" (Pr (Ris_strict K aF)) :=
  tf_of kf.cl D sc_Family_is_strict (fun _ _ h => by cases h; rfl) (fun _ _ _ _ _ _ us h => match us, h with | [_], _ => rfl) (fun _ _ _ _ _ _ _ hr => rd_Family_is_strict B g hr) fun xs z h => by
    cases h with
    | @mk n a h1 h2 => exact (sr_ret (ed_meth (ed_var rfl) rfl (ea_cons (ed_var rfl) ea_nil) (.mk h1 h2 h2)))
inductive Rdual (K : PySem.W.Frag) (aF : Addr) : List D → D → Prop
  | mk {n : Nat} {a : List (List Int)} : 1 ≤ n → n ≤ 8 → (∀ m ∈ a, m.length < 1000) → a.length ≤ 256 → dualLots n a ≠ [] → (∀ l ∈ dualLots n a, l ≠ []) → Rdual K aF [famD K aF n a] (famD K aF n (mkFam n (dualLots n a)))
theorem fn_dual (B : Bi mg) (kf : KFam K mg aF) (ga : GF P w K mg base 3 "all_lots" (Pr (Rall_lots K))) (gc : TF P w K mg base 2 aF "contains" (Pr (Rcontains K aF))) (go : GF P w K mg base 4 "others" (Pr (Rothers K))) (m : MF P w K mg base 4 "Family" (Pr (RFamily K aF))) (D : DfM K aF "dual" "Family.dual" (cdef 25 17)) : TF P w K mg base 6 aF "dual" (Pr (Rdual K aF)) :=
  tf_of kf.cl D sc_Family_dual (fun _ _ h => by cases h; rfl) (fun _ _ _ _ _ _ us h => match us, h with | [_], _ => rfl) (fun _ _ _ _ _ _ _ hr => rd_Family_dual B ga gc go m hr) fun xs z h => by
    cases h with
    | @mk n a h1 h2 h3 h4 h5 h6 =>
      have hz := allLots_len8 h2
      refine (sr_seq (sb_own (eo_LI (allLots n) (fun l => lotD K l) (fun l => !contains a (others n l)) (ed_call (ea_cons (ed_fld (ed_var rfl) kf.cl kf.copies rfl) ea_nil) (.mk h1 h2)) (by omega) (by decide) rfl fun l hl => (et_not (et_B (ed_meth (ed_var rfl) rfl (ea_cons (ed_call (ea_cons (ed_fld (ed_var rfl) kf.cl kf.copies rfl) (ea_cons (ed_var rfl) ea_nil)) (.mk h1 h2 ?_)) ea_nil) (.mk h3 (by omega)))))))
    (sr_keep 1 rfl (sr_ret (ed_call (ea_cons (ed_fld (ed_var rfl) kf.cl kf.copies rfl) (ea_starL (ed_var rfl) ea_nil)) (famR (ls := dualLots n a) h1 h2 h5 ?_ ?_)))))
      · have := allLots_mem l hl
        exact ⟨by omega, this.2⟩
      · intro l hl
        have := allLots_mem l (List.mem_filter.mp hl).1
        exact ⟨h6 l hl, by omega, this.2⟩
      · exact Nat.lt_of_le_of_lt (List.length_filter_le _ _) (by omega)
end
end Kb
end
section
/-! M5: fractions: their numbers and how large they are. -/
namespace M
/-- both numbers lie below 2 ^ b -/
def Bd (b : Nat) (q : Rat) : Prop := q.num.natAbs < 2 ^ b ∧ q.den < 2 ^ b
theorem Bd.mono {b c : Nat} {q : Rat} (h : Bd b q) (hc : b ≤ c) : Bd c q :=
  ⟨Nat.lt_of_lt_of_le h.1 (Nat.pow_le_pow_right (by decide) hc), Nat.lt_of_lt_of_le h.2 (Nat.pow_le_pow_right (by decide) hc)⟩
theorem num_div {a b : Int} (hb : 0 < b) : (Rat.divInt a b).num = a / (Nat.gcd a.natAbs b.natAbs : Nat) := by
  rw [Rat.num_divInt, Int.sign_eq_one_of_pos hb, Int.one_mul, Int.gcd, Nat.gcd_comm]
theorem den_div {a b : Int} (hb : 0 < b) : ((Rat.divInt a b).den : Int) = b / (Nat.gcd a.natAbs b.natAbs : Nat) := by
  rw [Rat.den_divInt, if_neg (by omega), Int.gcd, Nat.gcd_comm]
  have : b = (b.natAbs : Int) := by omega
  rw [Int.natCast_ediv, ← this]
theorem bd_div {a b : Int} {k : Nat} (hb : 0 < b) (ha : a.natAbs < 2 ^ k) (hk : b.natAbs < 2 ^ k) : Bd k (Rat.divInt a b) := by
  constructor
  · rw [num_div hb]
    refine Nat.lt_of_le_of_lt ?_ ha
    rw [Int.natAbs_ediv]
    split
    · simp
      exact Nat.le_trans (Nat.div_le_self _ _) (Nat.le_refl _)
    · rename_i h
      have hg : 0 < Nat.gcd a.natAbs b.natAbs := Nat.gcd_pos_of_pos_right _ (by omega)
      exfalso
      apply h
      right
      exact .inr (Int.ofNat_dvd_left.mpr (Nat.gcd_dvd_left _ _))
  · have h := den_div (a := a) hb
    have : (Rat.divInt a b).den ≤ b.natAbs := by
      have h2 : b / (Nat.gcd a.natAbs b.natAbs : Nat) ≤ b := Int.ediv_le_self _ (by omega)
      omega
    omega
theorem add_eq (p q : Rat) : p + q = Rat.divInt (p.num * q.den + q.num * p.den) ((p.den : Int) * q.den) := by
  rw [Rat.add_def', ← Rat.divInt_ofNat, Int.natCast_mul]
theorem sub_eq (p q : Rat) : p - q = Rat.divInt (p.num * q.den - q.num * p.den) ((p.den : Int) * q.den) := by
  rw [Rat.sub_def', ← Rat.divInt_ofNat, Int.natCast_mul]
theorem mul_eq (p q : Rat) : p * q = Rat.divInt (p.num * q.num) ((p.den : Int) * q.den) := by
  rw [Rat.mul_def', ← Rat.divInt_ofNat, Int.natCast_mul]
theorem den_pos (q : Rat) : 0 < (q.den : Int) := by have := q.den_pos; omega
theorem mul_bits {i j : Int} {a b : Nat} (ha : i.natAbs < 2 ^ a) (hb : j.natAbs < 2 ^ b) : (i * j).natAbs < 2 ^ (a + b) := by
  rw [Int.natAbs_mul, Nat.pow_add]
  exact Nat.mul_lt_mul'' ha hb
theorem add_bits {i j : Int} {a : Nat} (ha : i.natAbs < 2 ^ a) (hb : j.natAbs < 2 ^ a) : (i + j).natAbs < 2 ^ (a + 1) := by
  rw [Nat.pow_succ]
  omega
theorem sub_bits {i j : Int} {a : Nat} (ha : i.natAbs < 2 ^ a) (hb : j.natAbs < 2 ^ a) : (i - j).natAbs < 2 ^ (a + 1) := by
  rw [Nat.pow_succ]
  omega
theorem Bd.d {b : Nat} {q : Rat} (h : Bd b q) : (q.den : Int).natAbs < 2 ^ b := by have := h.2; omega
theorem dd_pos (p q : Rat) : 0 < (p.den : Int) * q.den := Int.mul_pos (den_pos p) (den_pos q)
theorem Bd.add {a b : Nat} {p q : Rat} (h : Bd a p) (h2 : Bd b q) : Bd (a + b + 1) (p + q) := by
  rw [add_eq]
  refine bd_div (dd_pos p q) ?_ ?_
  · refine add_bits (mul_bits h.1 h2.d) ?_
    rw [Nat.add_comm a b]
    exact mul_bits h2.1 h.d
  · exact Nat.lt_trans (mul_bits h.d h2.d) (Nat.pow_lt_pow_right (by decide) (by omega))
theorem Bd.sub {a b : Nat} {p q : Rat} (h : Bd a p) (h2 : Bd b q) : Bd (a + b + 1) (p - q) := by
  rw [sub_eq]
  refine bd_div (dd_pos p q) ?_ ?_
  · refine sub_bits (mul_bits h.1 h2.d) ?_
    rw [Nat.add_comm a b]
    exact mul_bits h2.1 h.d
  · exact Nat.lt_trans (mul_bits h.d h2.d) (Nat.pow_lt_pow_right (by decide) (by omega))
theorem Bd.mul {a b : Nat} {p q : Rat} (h : Bd a p) (h2 : Bd b q) : Bd (a + b) (p * q) := by
  rw [mul_eq]
  exact bd_div (dd_pos p q) (mul_bits h.1 h2.1) (mul_bits h.d h2.d)
theorem bd_int {i : Int} {b : Nat} (h : i.natAbs < 2 ^ b) (hb : 0 < b) : Bd b (i : Rat) := by
  refine ⟨h, ?_⟩
  rw [Rat.den_intCast]
  exact Nat.one_lt_two_pow (by omega)
end M
end
section
/-! Kd4: ratios. -/
namespace Kb
open PySem PySem.Spec PyProof.Rows L2 M
theorem ed_isNo {te : TE} {env : Env'} {C : Addr} {ns : List Str} {xs : List D} (h : ED te env (dobj C ns xs)) : ED (tIsN te) env (db false) := fun σ Hb H Q e o q =>
  h σ Hb H _ e o fun u Hb2 H2 f2 hp => q _ _ _ f2 (by
    obtain ⟨a, dx, fs, rfl, _⟩ := hp
    rfl)
structure KRat (K : PySem.W.Frag) (mg : Str → Option Value) (aR : Addr) : Prop where
  cl : Cls K aR
  over : NoAttr K aR "over"
  under : NoAttr K aR "under"
  isC : IsC K aR
  nm : mg "Ratio" = some (.ref aR)
  sf : PySem.W.selfFirst K aR = true
  nI : PySem.W.notFirst K aR (.type "int") = true
  subI : PySem.W.subIn K (.ref aR) (.type "int") = some false
section
variable {P : Program} {w : World} {K : PySem.W.Frag} {mg : Str → Option Value} {base : Heap} {aR : Addr}
inductive Rcommon_part : List D → D → Prop
  | mk {a b : Nat} : Rcommon_part [di (a : Int), di (b : Int)] (di (Nat.gcd a b : Nat))
theorem fn_common_part (B : Bi mg) (D : DfG K mg "common_part" (top 27)) : GF P w K mg base 1 "common_part" (Pr Rcommon_part) :=
  gf_of D sc_common_part (fun _ _ h => by cases h; rfl) (fun _ _ _ _ _ _ us h => match us, h with | [_, _], _ => rfl) (fun _ _ _ _ _ _ _ hr => rd_common_part B hr) fun xs z h => by
    cases h with
    | @mk a b =>
      refine (sr_seq (env' := [.d (di (Nat.gcd a b : Nat)), .d (di (0 : Nat))]) (sb_while (α := Nat × Nat) (fun p => [.d (di p.1), .d (di p.2)]) (fun p => !decide ((p.2 : Int) = 0)) (fun p => (p.2, p.1 % p.2)) (fun p => p.2) (fun p => Nat.gcd p.1 p.2 = Nat.gcd a b) (a, b) rfl rfl (fun p _ => et_test (ed_op (ed_var rfl) ed_c od_nei)) (fun p hp hc => ?_) fun p hp hc => ?_)
    (sr_ret (ed_var rfl)))
      · have h0 : 0 < p.2 := by simp at hc; omega
        refine ⟨sb_eq (sb_par (ea_cons (ed_var rfl) (ea_cons (ed_op (ed_var rfl) (ed_var rfl) (od_iC (C := fun _ j => 0 < j) ?_)) ea_nil))) ?_, ?_, Nat.mod_lt _ h0⟩
        · show (0 : Int) < (p.2 : Int)
          omega
        · show [Sl.d (di p.2), Sl.d (di ((p.1 : Int) % (p.2 : Int)))] = [Sl.d (di p.2), Sl.d (di ((p.1 % p.2 : Nat) : Int))]
          rw [Int.natCast_emod]
        · rw [← hp]
          show Nat.gcd p.2 (p.1 % p.2) = _
          rw [Nat.gcd_comm p.2, ← Nat.gcd_rec, Nat.gcd_comm]
      · have h0 : p.2 = 0 := by simp at hc; omega
        show [Sl.d (di p.1), Sl.d (di p.2)] = _
        rw [h0, Nat.gcd_zero_right] at hp
        rw [h0, hp]
inductive RRatioI : List D → List Str → List D → Prop
  | mk {a b : Int} : 0 < b → b.natAbs < 2 ^ 8000 → RRatioI [di a, di b] ["over", "under"] [di (Rat.divInt a b).num, di ((Rat.divInt a b).den : Int)]
inductive RRatio (aR : Addr) : List D → D → Prop
  | mk1 {i : Int} : RRatio aR [di i] (ratD aR (i : Rat))
  | mk2 {a b : Int} : 0 < b → b.natAbs < 2 ^ 8000 → RRatio aR [di a, di b] (ratD aR (Rat.divInt a b))
theorem fn_Ratio (B : Bi mg) (kr : KRat K mg aR) (gn : GF P w K mg base 2 "check_number" (Pr Rcheck_number)) (gc : GF P w K mg base 1 "common_part" (Pr Rcommon_part))
    (D : ∃ f, Mk K aR f ∧ ∃ fd, FunD K "__init__" "Ratio.__init__" (defArgs (cdef 29 0)) (defBody (cdef 29 0)) (defScope (cdef 29 0)) [V.int 1] [] f fd) : MF P w K mg base 3 "Ratio" (Pr (RRatio aR)) := by
  obtain ⟨f, M, fd, F⟩ := D
  have ok := fn_init (P := P) (w := w) (mg := mg) (base := base) (k := 2) (C := aR) (Rx := RRatioI) (n := 2) (ps := ["self", "over", "under"]) F sc_Ratiox_initx rfl
    (fun cdv A outer s H E hr => ⟨_, rd_Ratiox_initx B gn gc hr, fun xs ms ys h _ o => by
      cases h with
      | @mk a b h1 h2 =>
        have hg : 0 < Nat.gcd a.natAbs b.natAbs := Nat.gcd_pos_of_pos_right _ (by omega)
        have hd : CDivW a ((Nat.gcd a.natAbs b.natAbs : Nat) : Int) ∧ CDivW b ((Nat.gcd a.natAbs b.natAbs : Nat) : Int) := by
          have h3 : ((Nat.gcd a.natAbs b.natAbs : Nat) : Int).natAbs < 2 ^ 8000 := by
            have := Nat.gcd_le_right a.natAbs (n := b.natAbs) (by omega)
            simp
            omega
          exact ⟨wide_div (by omega) h3 (by decide) (by decide), wide_div (by omega) h3 (by decide) (by decide)⟩
        refine (sp_seq (sb_drop (ed_call (ea_cons ed_c (ea_cons (ed_var rfl) (ea_cons ed_c (ea_cons ed_c ea_nil)))) .mk0))
    (sp_seq (sb_drop (ed_call (ea_cons ed_c (ea_cons (ed_var rfl) (ea_cons ed_c (ea_cons ed_c ea_nil)))) .mk0))
    (sp_seq (sb_not (et_is (et_test (ed_op (ed_var rfl) ed_c od_eqi)) ?_))
    (sp_seq (sb_asg (ed_call (ea_cons (ed_cb (ea_cons (ed_cb (ea_cons (ed_var rfl) ea_nil) cd_int) ea_nil) cd_abs) (ea_cons (ed_cb (ea_cons (ed_cb (ea_cons (ed_var rfl) ea_nil) cd_int) ea_nil) cd_abs) ea_nil)) .mk))
    (sp_seq (sb_not (et_is (et_test (ed_op (ed_var rfl) ed_c od_i0)) ?_))
    (sp_si (si_fld rfl (by decide) kr.cl kr.over (ed_is (ed_op (ed_var rfl) (ed_var rfl) (od_iC hd.1)) ?_)
    (si_last rfl (by decide) kr.cl kr.under (ed_is (ed_op (ed_var rfl) (ed_var rfl) (od_iC hd.2)) ?_)))))))))
        · simp
          omega
        · simp
          omega
        · rw [num_div h1]
        · rw [den_div h1]⟩)
  have b3 := F.binds1 (ps := ["self", "over", "under"]) 3 1 (by simp) rfl (fun T kV doc pm an cdv ct us its hu hi => match us, hu, its, hi with | [a, b, c], _, [d], _ => ⟨_, rfl, rfl⟩)
  have b2 := F.binds1 (ps := ["self", "over", "under"]) 2 0 (by simp) rfl (fun T kV doc pm an cdv ct us its hu hi => match us, hu, its, hi with | [a, b], _, [d], _ => ⟨_, rfl, rfl⟩)
  obtain ⟨ds3, v3, b3⟩ := b3
  obtain ⟨ds2, v2, b2⟩ := b2
  have r3 := ok.raw b3 v3
  have r2 := ok.raw b2 v2
  have fi : FnR P w K mg base CX0 3 f (fun vs H Q E => spInit aR 2 RRatioI (vs ++ [V.int 1].drop 1) H Q E ∨ spInit aR 2 RRatioI (vs ++ [V.int 1].drop 0) H Q E) := fun A outer s H us vs Q E hr e0 r h => by
    rcases h with h | h
    · exact r3 A outer s H us vs Q E hr e0 r h
    · exact r2 A outer s H us vs Q E hr e0 r h
  refine mf_of fi M kr.nm fun xs z h => ?_
  cases h with
  | @mk1 i =>
    refine ⟨["over", "under"], _, rfl, fun vs' H0 o dx Hb Q e d n1 n2 n3 q => .inr ?_⟩
    have h1 : (Rat.divInt i 1) = (i : Rat) := by rw [Rat.divInt_eq_div]; grind
    have z := spInit_go (C := aR) (Rx := RRatioI) (n := 2) (xs := [di i, di 1]) (vs' := vs' ++ [V.int 1]) (Q := Q) (.mk (by omega) (by decide)) rfl e (d.app (.cons rfl .nil)) n1 n2 n3 (by rw [h1]; exact q)
    exact z
  | @mk2 a b h1 h2 =>
    refine ⟨["over", "under"], _, rfl, fun vs' H0 o dx Hb Q e d n1 n2 n3 q => .inl ?_⟩
    have z := spInit_go (C := aR) (Rx := RRatioI) (n := 2) (xs := [di a, di b]) (vs' := vs') (Q := Q) (.mk h1 h2) rfl e d n1 n2 n3 q
    rw [show (V.ref o :: vs') ++ [V.int 1].drop 1 = V.ref o :: vs' from by simp]
    exact z
inductive Rratio_of (aR : Addr) : List D → D → Prop
  | mk {q : Rat} : Rratio_of aR [ratD aR q] (ratD aR q)
  | mkI {i : Int} : Rratio_of aR [di i] (ratD aR (i : Rat))
theorem fn_ratio_of (B : Bi mg) (kr : KRat K mg aR) (gi : GF P w K mg base 1 "is_integer" (Pr Ris_integer)) (m : MF P w K mg base 3 "Ratio" (Pr (RRatio aR))) (D : DfG K mg "ratio_of" (top 28)) : GF P w K mg base 5 "ratio_of" (Pr (Rratio_of aR)) :=
  gf_of D sc_ratio_of (fun _ _ h => by cases h <;> rfl) (fun _ _ _ _ _ _ us h => match us, h with | [_], _ => rfl) (fun _ _ _ _ _ _ _ hr => rd_ratio_of B kr.nm gi m hr) fun xs z h => by
    cases h with
    | @mk q => exact (sr_when (et_B (ed_cb (ea_cons (ed_var rfl) (ea_cons ed_c ea_nil)) (cd_isiC kr.isC))) (fun h => (sr_ret (ed_var rfl))) fun h => absurd h (by decide))
    | @mkI i => exact (sr_when (et_B (ed_cb (ea_cons (ed_var rfl) (ea_cons ed_c ea_nil)) (cd_isiIC kr.isC))) (fun h => absurd h (by decide)) fun h => (sr_when (et_B (ed_call (ea_cons (ed_var rfl) ea_nil) .mk)) (fun h => (sr_ret (ed_call (ea_cons (ed_var rfl) ea_nil) .mk1))) fun h => absurd h (by decide)))
end
end Kb
end
section
/-! Kd5: ratios compared, reckoned. -/
namespace Kb
open PySem PySem.Spec PyProof.Rows L2 M
theorem cmul_of {i j : Int} {a b : Nat} (ha : i.natAbs < 2 ^ a) (hb : j.natAbs < 2 ^ b) (h : a ≤ 4000) (h2 : b ≤ 4000) : CMulW i j :=
  wide_mul (a := a + 1) (b := b + 1) (Nat.lt_of_lt_of_le ha (Nat.pow_le_pow_right (by decide) (by omega))) (Nat.lt_of_lt_of_le hb (Nat.pow_le_pow_right (by decide) (by omega))) (by omega) (by omega) (by omega)
section
variable {P : Program} {w : World} {K : PySem.W.Frag} {mg : Str → Option Value} {base : Heap} {aR : Addr}
inductive Req (aR : Addr) : List D → D → Prop
  | mk {p q : Rat} : Req aR [ratD aR p, ratD aR q] (db (decide (p = q)))
theorem fn_req (B : Bi mg) (kr : KRat K mg aR) (D : DfM K aR "__eq__" "Ratio.__eq__" (cdef 29 1)) : OpF P w K mg base 1 aR "__eq__" (Pr (Req aR)) :=
  of_of kr.sf D sc_Ratiox_eqx (fun _ _ h => by cases h; rfl) (fun _ _ _ _ _ _ us h => match us, h with | [_, _], _ => rfl) (fun _ _ _ _ _ _ _ hr => rd_Ratiox_eqx B kr.nm hr) fun xs z h => by
    cases h with
    | @mk p q =>
      refine (sr_seq (sb_not (et_is (et_not (et_B (ed_cb (ea_cons (ed_var rfl) (ea_cons ed_c ea_nil)) (cd_isiC kr.isC)))) rfl))
    (sr_ret (ed_is (ed_and (ed_op (ed_fld (ed_var rfl) kr.cl kr.over rfl) (ed_fld (ed_var rfl) kr.cl kr.over rfl) od_eqi) fun _ => (ed_op (ed_fld (ed_var rfl) kr.cl kr.under rfl) (ed_fld (ed_var rfl) kr.cl kr.under rfl) od_eqi)) ?_)))
      congr 2
      by_cases h : p = q
      · subst h; simp
      · have : ¬ (p.num = q.num ∧ p.den = q.den) := fun z => h (Rat.ext z.1 z.2)
        have h2 : ¬ (p.num = q.num ∧ (p.den : Int) = q.den) := fun z => this ⟨z.1, by omega⟩
        rw [← Bool.decide_and, decide_eq_false h2, decide_eq_false h]
inductive Rrlt (aR : Addr) : List D → D → Prop
  | mk {p q : Rat} : Bd 2000 p → Bd 2000 q → Rrlt aR [ratD aR p, ratD aR q] (db (decide (p < q)))
  | mkI {p : Rat} {i : Int} : Bd 2000 p → i.natAbs < 2 ^ 2000 → Rrlt aR [ratD aR p, di i] (db (decide (p < (i : Rat))))
theorem fn_rlt (B : Bi mg) (kr : KRat K mg aR) (g : GF P w K mg base 5 "ratio_of" (Pr (Rratio_of aR))) (D : DfM K aR "__lt__" "Ratio.__lt__" (cdef 29 2)) : OpF P w K mg base 6 aR "__lt__" (Pr (Rrlt aR)) :=
  of_of kr.sf D sc_Ratiox_ltx (fun _ _ h => by cases h <;> rfl) (fun _ _ _ _ _ _ us h => match us, h with | [_, _], _ => rfl) (fun _ _ _ _ _ _ _ hr => rd_Ratiox_ltx B g hr) fun xs z h => by
    have go : ∀ (p q : Rat) (y : Kb.D), Bd 2000 p → Bd 2000 q → Rratio_of aR [y] (ratD aR q) → SR (t_Ratiox_ltx K (Pr (Rratio_of aR))) (startE N_Ratiox_ltx.length [ratD aR p, y]) (db (decide (p < q))) := fun p q y hp hq hy => by
      refine (sr_seq (sb_asg (ed_call (ea_cons (ed_var rfl) ea_nil) hy))
    (sr_seq (sb_not (et_is (et_B (ed_isNo (ed_var rfl))) rfl))
    (sr_ret (ed_is (ed_op (ed_op (ed_fld (ed_var rfl) kr.cl kr.over rfl) (ed_fld (ed_var rfl) kr.cl kr.under rfl) (od_iC (cmul_of hp.1 hq.d (by decide) (by decide)))) (ed_op (ed_fld (ed_var rfl) kr.cl kr.over rfl) (ed_fld (ed_var rfl) kr.cl kr.under rfl) (od_iC (cmul_of hq.1 hp.d (by decide) (by decide)))) od_i0) ?_))))
      show db _ = db _
      congr 2
      exact propext (Rat.lt_iff _ _).symm
    cases h with
    | @mk p q h1 h2 => exact go p q _ h1 h2 .mk
    | @mkI p i h1 h2 => exact go p (i : Rat) _ h1 (bd_int h2 (by decide)) .mkI
inductive Rrle (aR : Addr) : List D → D → Prop
  | mk {p q : Rat} : Bd 2000 p → Bd 2000 q → Rrle aR [ratD aR p, ratD aR q] (db (decide (p ≤ q)))
  | mkI {p : Rat} {i : Int} : Bd 2000 p → i.natAbs < 2 ^ 2000 → Rrle aR [ratD aR p, di i] (db (decide (p ≤ (i : Rat))))
theorem fn_rle (B : Bi mg) (kr : KRat K mg aR) (g : GF P w K mg base 5 "ratio_of" (Pr (Rratio_of aR))) (D : DfM K aR "__le__" "Ratio.__le__" (cdef 29 3)) : OpF P w K mg base 6 aR "__le__" (Pr (Rrle aR)) :=
  of_of kr.sf D sc_Ratiox_lex (fun _ _ h => by cases h <;> rfl) (fun _ _ _ _ _ _ us h => match us, h with | [_, _], _ => rfl) (fun _ _ _ _ _ _ _ hr => rd_Ratiox_lex B g hr) fun xs z h => by
    have go : ∀ (p q : Rat) (y : Kb.D), Bd 2000 p → Bd 2000 q → Rratio_of aR [y] (ratD aR q) → SR (t_Ratiox_lex K (Pr (Rratio_of aR))) (startE N_Ratiox_lex.length [ratD aR p, y]) (db (decide (p ≤ q))) := fun p q y hp hq hy => by
      refine (sr_seq (sb_asg (ed_call (ea_cons (ed_var rfl) ea_nil) hy))
    (sr_seq (sb_not (et_is (et_B (ed_isNo (ed_var rfl))) rfl))
    (sr_ret (ed_is (ed_op (ed_op (ed_fld (ed_var rfl) kr.cl kr.over rfl) (ed_fld (ed_var rfl) kr.cl kr.under rfl) (od_iC (cmul_of hp.1 hq.d (by decide) (by decide)))) (ed_op (ed_fld (ed_var rfl) kr.cl kr.over rfl) (ed_fld (ed_var rfl) kr.cl kr.under rfl) (od_iC (cmul_of hq.1 hp.d (by decide) (by decide)))) od_i0) ?_))))
      show db _ = db _
      congr 2
      exact propext (Rat.le_iff _ _).symm
    cases h with
    | @mk p q h1 h2 => exact go p q _ h1 h2 .mk
    | @mkI p i h1 h2 => exact go p (i : Rat) _ h1 (bd_int h2 (by decide)) .mkI
inductive Rrgt (aR : Addr) : List D → D → Prop
  | mk {p q : Rat} : Bd 2000 p → Bd 2000 q → Rrgt aR [ratD aR p, ratD aR q] (db (decide (q < p)))
  | mkI {p : Rat} {i : Int} : Bd 2000 p → i.natAbs < 2 ^ 2000 → Rrgt aR [ratD aR p, di i] (db (decide ((i : Rat) < p)))
theorem fn_rgt (B : Bi mg) (kr : KRat K mg aR) (g : GF P w K mg base 5 "ratio_of" (Pr (Rratio_of aR))) (D : DfM K aR "__gt__" "Ratio.__gt__" (cdef 29 4)) : OpF P w K mg base 6 aR "__gt__" (Pr (Rrgt aR)) :=
  of_of kr.sf D sc_Ratiox_gtx (fun _ _ h => by cases h <;> rfl) (fun _ _ _ _ _ _ us h => match us, h with | [_, _], _ => rfl) (fun _ _ _ _ _ _ _ hr => rd_Ratiox_gtx B g hr) fun xs z h => by
    have go : ∀ (p q : Rat) (y : Kb.D), Bd 2000 p → Bd 2000 q → Rratio_of aR [y] (ratD aR q) → SR (t_Ratiox_gtx K (Pr (Rratio_of aR))) (startE N_Ratiox_gtx.length [ratD aR p, y]) (db (decide (q < p))) := fun p q y hp hq hy => by
      refine (sr_seq (sb_asg (ed_call (ea_cons (ed_var rfl) ea_nil) hy))
    (sr_seq (sb_not (et_is (et_B (ed_isNo (ed_var rfl))) rfl))
    (sr_ret (ed_is (ed_op (ed_op (ed_fld (ed_var rfl) kr.cl kr.over rfl) (ed_fld (ed_var rfl) kr.cl kr.under rfl) (od_iC (cmul_of hp.1 hq.d (by decide) (by decide)))) (ed_op (ed_fld (ed_var rfl) kr.cl kr.over rfl) (ed_fld (ed_var rfl) kr.cl kr.under rfl) (od_iC (cmul_of hq.1 hp.d (by decide) (by decide)))) od_i0) ?_))))
      show db _ = db _
      congr 2
      exact propext (Rat.lt_iff _ _).symm
    cases h with
    | @mk p q h1 h2 => exact go p q _ h1 h2 .mk
    | @mkI p i h1 h2 => exact go p (i : Rat) _ h1 (bd_int h2 (by decide)) .mkI
inductive Rrge (aR : Addr) : List D → D → Prop
  | mk {p q : Rat} : Bd 2000 p → Bd 2000 q → Rrge aR [ratD aR p, ratD aR q] (db (decide (q ≤ p)))
  | mkI {p : Rat} {i : Int} : Bd 2000 p → i.natAbs < 2 ^ 2000 → Rrge aR [ratD aR p, di i] (db (decide ((i : Rat) ≤ p)))
theorem fn_rge (B : Bi mg) (kr : KRat K mg aR) (g : GF P w K mg base 5 "ratio_of" (Pr (Rratio_of aR))) (D : DfM K aR "__ge__" "Ratio.__ge__" (cdef 29 5)) : OpF P w K mg base 6 aR "__ge__" (Pr (Rrge aR)) :=
  of_of kr.sf D sc_Ratiox_gex (fun _ _ h => by cases h <;> rfl) (fun _ _ _ _ _ _ us h => match us, h with | [_, _], _ => rfl) (fun _ _ _ _ _ _ _ hr => rd_Ratiox_gex B g hr) fun xs z h => by
    have go : ∀ (p q : Rat) (y : Kb.D), Bd 2000 p → Bd 2000 q → Rratio_of aR [y] (ratD aR q) → SR (t_Ratiox_gex K (Pr (Rratio_of aR))) (startE N_Ratiox_gex.length [ratD aR p, y]) (db (decide (q ≤ p))) := fun p q y hp hq hy => by
      refine (sr_seq (sb_asg (ed_call (ea_cons (ed_var rfl) ea_nil) hy))
    (sr_seq (sb_not (et_is (et_B (ed_isNo (ed_var rfl))) rfl))
    (sr_ret (ed_is (ed_op (ed_op (ed_fld (ed_var rfl) kr.cl kr.over rfl) (ed_fld (ed_var rfl) kr.cl kr.under rfl) (od_iC (cmul_of hp.1 hq.d (by decide) (by decide)))) (ed_op (ed_fld (ed_var rfl) kr.cl kr.over rfl) (ed_fld (ed_var rfl) kr.cl kr.under rfl) (od_iC (cmul_of hq.1 hp.d (by decide) (by decide)))) od_i0) ?_))))
      show db _ = db _
      congr 2
      exact propext (Rat.le_iff _ _).symm
    cases h with
    | @mk p q h1 h2 => exact go p q _ h1 h2 .mk
    | @mkI p i h1 h2 => exact go p (i : Rat) _ h1 (bd_int h2 (by decide)) .mkI
inductive Radd (aR : Addr) : List D → D → Prop
  | mk {p q : Rat} : Bd 2000 p → Bd 2000 q → Radd aR [ratD aR p, ratD aR q] (ratD aR (p + q))
theorem fn_radd (B : Bi mg) (kr : KRat K mg aR) (g : GF P w K mg base 5 "ratio_of" (Pr (Rratio_of aR))) (m : MF P w K mg base 3 "Ratio" (Pr (RRatio aR))) (D : DfM K aR "__add__" "Ratio.__add__" (cdef 29 6)) : OpF P w K mg base 6 aR "__add__" (Pr (Radd aR)) :=
  of_of kr.sf D sc_Ratiox_addx (fun _ _ h => by cases h; rfl) (fun _ _ _ _ _ _ us h => match us, h with | [_, _], _ => rfl) (fun _ _ _ _ _ _ _ hr => rd_Ratiox_addx B g m hr) fun xs z h => by
    cases h with
    | @mk p q h1 h2 =>
      rw [add_eq]
      exact (sr_seq (sb_asg (ed_call (ea_cons (ed_var rfl) ea_nil) .mk))
    (sr_seq (sb_not (et_is (et_B (ed_isNo (ed_var rfl))) rfl))
    (sr_ret (ed_call (ea_cons (ed_op (ed_op (ed_fld (ed_var rfl) kr.cl kr.over rfl) (ed_fld (ed_var rfl) kr.cl kr.under rfl) (od_iC (cmul_of h1.1 h2.d (by decide) (by decide)))) (ed_op (ed_fld (ed_var rfl) kr.cl kr.over rfl) (ed_fld (ed_var rfl) kr.cl kr.under rfl) (od_iC (cmul_of h2.1 h1.d (by decide) (by decide)))) od_i0) (ea_cons (ed_op (ed_fld (ed_var rfl) kr.cl kr.under rfl) (ed_fld (ed_var rfl) kr.cl kr.under rfl) (od_iC (cmul_of h1.d h2.d (by decide) (by decide)))) ea_nil)) (.mk2 (dd_pos p q) (Nat.lt_of_lt_of_le (mul_bits h1.d h2.d) (Nat.pow_le_pow_right (by decide) (by decide))))))))
inductive Rsub (aR : Addr) : List D → D → Prop
  | mk {p q : Rat} : Bd 2000 p → Bd 2000 q → Rsub aR [ratD aR p, ratD aR q] (ratD aR (p - q))
theorem fn_rsub (B : Bi mg) (kr : KRat K mg aR) (g : GF P w K mg base 5 "ratio_of" (Pr (Rratio_of aR))) (m : MF P w K mg base 3 "Ratio" (Pr (RRatio aR))) (D : DfM K aR "__sub__" "Ratio.__sub__" (cdef 29 8)) : OpF P w K mg base 6 aR "__sub__" (Pr (Rsub aR)) :=
  of_of kr.sf D sc_Ratiox_subx (fun _ _ h => by cases h; rfl) (fun _ _ _ _ _ _ us h => match us, h with | [_, _], _ => rfl) (fun _ _ _ _ _ _ _ hr => rd_Ratiox_subx B g m hr) fun xs z h => by
    cases h with
    | @mk p q h1 h2 =>
      rw [sub_eq]
      exact (sr_seq (sb_asg (ed_call (ea_cons (ed_var rfl) ea_nil) .mk))
    (sr_seq (sb_not (et_is (et_B (ed_isNo (ed_var rfl))) rfl))
    (sr_ret (ed_call (ea_cons (ed_op (ed_op (ed_fld (ed_var rfl) kr.cl kr.over rfl) (ed_fld (ed_var rfl) kr.cl kr.under rfl) (od_iC (cmul_of h1.1 h2.d (by decide) (by decide)))) (ed_op (ed_fld (ed_var rfl) kr.cl kr.over rfl) (ed_fld (ed_var rfl) kr.cl kr.under rfl) (od_iC (cmul_of h2.1 h1.d (by decide) (by decide)))) od_i0) (ea_cons (ed_op (ed_fld (ed_var rfl) kr.cl kr.under rfl) (ed_fld (ed_var rfl) kr.cl kr.under rfl) (od_iC (cmul_of h1.d h2.d (by decide) (by decide)))) ea_nil)) (.mk2 (dd_pos p q) (Nat.lt_of_lt_of_le (mul_bits h1.d h2.d) (Nat.pow_le_pow_right (by decide) (by decide))))))))
inductive Rmul (aR : Addr) : List D → D → Prop
  | mk {p q : Rat} : Bd 2000 p → Bd 2000 q → Rmul aR [ratD aR p, ratD aR q] (ratD aR (p * q))
theorem fn_rmul (B : Bi mg) (kr : KRat K mg aR) (g : GF P w K mg base 5 "ratio_of" (Pr (Rratio_of aR))) (m : MF P w K mg base 3 "Ratio" (Pr (RRatio aR))) (D : DfM K aR "__mul__" "Ratio.__mul__" (cdef 29 10)) : OpF P w K mg base 6 aR "__mul__" (Pr (Rmul aR)) :=
  of_of kr.sf D sc_Ratiox_mulx (fun _ _ h => by cases h; rfl) (fun _ _ _ _ _ _ us h => match us, h with | [_, _], _ => rfl) (fun _ _ _ _ _ _ _ hr => rd_Ratiox_mulx B g m hr) fun xs z h => by
    cases h with
    | @mk p q h1 h2 =>
      rw [mul_eq]
      exact (sr_seq (sb_asg (ed_call (ea_cons (ed_var rfl) ea_nil) .mk))
    (sr_seq (sb_not (et_is (et_B (ed_isNo (ed_var rfl))) rfl))
    (sr_ret (ed_call (ea_cons (ed_op (ed_fld (ed_var rfl) kr.cl kr.over rfl) (ed_fld (ed_var rfl) kr.cl kr.over rfl) (od_iC (cmul_of h1.1 h2.1 (by decide) (by decide)))) (ea_cons (ed_op (ed_fld (ed_var rfl) kr.cl kr.under rfl) (ed_fld (ed_var rfl) kr.cl kr.under rfl) (od_iC (cmul_of h1.d h2.d (by decide) (by decide)))) ea_nil)) (.mk2 (dd_pos p q) (Nat.lt_of_lt_of_le (mul_bits h1.d h2.d) (Nat.pow_le_pow_right (by decide) (by decide))))))))
inductive Rrsub (aR : Addr) : List D → D → Prop
  | mk {p : Rat} {i : Int} : Bd 2000 p → i.natAbs < 2 ^ 2000 → Rrsub aR [ratD aR p, di i] (ratD aR ((i : Rat) - p))
theorem fn_rrsub (B : Bi mg) (kr : KRat K mg aR) (g : GF P w K mg base 5 "ratio_of" (Pr (Rratio_of aR))) (os : OpF P w K mg base 6 aR "__sub__" (Pr (Rsub aR))) (D : DfM K aR "__rsub__" "Ratio.__rsub__" (cdef 29 9)) : OpF P w K mg base 7 aR "__rsub__" (Pr (Rrsub aR)) :=
  of_of kr.sf D sc_Ratiox_rsubx (fun _ _ h => by cases h; rfl) (fun _ _ _ _ _ _ us h => match us, h with | [_, _], _ => rfl) (fun _ _ _ _ _ _ _ hr => rd_Ratiox_rsubx B g os hr) fun xs z h => by
    cases h with
    | @mk p i h1 h2 =>
      exact (sr_seq (sb_asg (ed_call (ea_cons (ed_var rfl) ea_nil) .mkI))
    (sr_seq (sb_not (et_is (et_B (ed_isNo (ed_var rfl))) rfl))
    (sr_ret (ed_op (ed_var rfl) (ed_var rfl) (od_own (.mk (bd_int h2 (by decide)) h1))))))
inductive Rhalf (aR : Addr) : List D → D → Prop
  | mk : Rhalf aR [] (ratD aR (Rat.divInt 1 2))
theorem fn_half (B : Bi mg) (m : MF P w K mg base 3 "Ratio" (Pr (RRatio aR))) (D : DfS K aR "half" "Ratio.half" (cdef 29 14)) : UF P w K mg base 5 aR "half" (Pr (Rhalf aR)) :=
  uf_of D sc_Ratio_half (fun _ _ h => by cases h; rfl) (fun _ _ _ _ _ _ us h => match us, h with | [], _ => rfl) (fun _ _ _ _ _ _ _ hr => rd_Ratio_half B m hr) fun xs z h => by
    cases h with
    | mk => exact (sr_ret (ed_call (ea_cons ed_c (ea_cons ed_c ea_nil)) (.mk2 (by decide) (by decide))))
inductive Rtotal (aR : Addr) : List D → D → Prop
  | mk {c : Nat} {l : List Rat} : (∀ q ∈ l, Bd c q) → (c + 1) * l.length + 1 ≤ 2000 → c ≤ 2000 → Rtotal aR [dl (l.map fun q => ratD aR q)] (ratD aR (l.foldl (· + ·) 0))
theorem fold_bd (c : Nat) : ∀ (l : List Rat) (k : Nat) (q : Rat), (∀ q ∈ l, Bd c q) → Bd k q → Bd (k + (c + 1) * l.length) (l.foldl (· + ·) q)
  | [], k, q, _, h => h
  | a :: l, k, q, hl, h => by
    have := fold_bd c l (k + c + 1) (q + a) (fun x hx => hl x (List.mem_cons_of_mem _ hx)) (h.add (hl a (List.mem_cons_self ..)))
    refine this.mono ?_
    rw [List.length_cons, Nat.mul_add]
    omega
theorem fn_total (B : Bi mg) (m : MF P w K mg base 3 "Ratio" (Pr (RRatio aR))) (oa : OpF P w K mg base 6 aR "__add__" (Pr (Radd aR))) (D : DfG K mg "total" (top 30)) : GF P w K mg base 7 "total" (Pr (Rtotal aR)) :=
  gf_of D sc_total (fun _ _ h => by cases h; rfl) (fun _ _ _ _ _ _ us h => match us, h with | [_], _ => rfl) (fun _ _ _ _ _ _ _ hr => rd_total B m oa hr) fun xs z h => by
    cases h with
    | @mk c l h1 h2 hc =>
      have hz : l.length ≤ 2000 := by
        have : l.length ≤ (c + 1) * l.length := Nat.le_mul_of_pos_left _ (by omega)
        omega
      refine (sr_seq (sb_asg (ed_call (ea_cons ed_c ea_nil) .mk1))
    (sr_seq (env' := [.d (dl (l.map fun q => ratD aR q)), .d (ratD aR (l.foldl (· + ·) 0)), .no]) (sb_eq (sb_forL l (fun q => ratD aR q) (fun i => [.d (dl (l.map fun q => ratD aR q)), .d (ratD aR ((l.take i).foldl (· + ·) 0)), .no]) (ed_var rfl) (.eq (.eq (.no .nil))) _ (fun i a ha => tj_name) fun i a ha => (sb_fg (sb_asg (ed_is (ed_op (ed_var rfl) (ed_var rfl) (od_own (.mk ?_ ?_))) (show _ = ratD aR ((l.take (i + 1)).foldl (· + ·) 0) from ?_))) (.eq (.eq (.no .nil))))) (by rw [List.take_length]))
    (sr_ret (ed_var rfl))))
      · have h3 := fold_bd c (l.take i) 1 0 (fun q hq => h1 q (List.mem_of_mem_take hq)) (by unfold Bd; decide)
        refine h3.mono ?_
        have : (c + 1) * (l.take i).length ≤ (c + 1) * l.length := Nat.mul_le_mul_left _ (by rw [List.length_take]; omega)
        omega
      · exact (h1 a (List.mem_of_getElem? ha)).mono hc
      · rw [List.take_add_one, ha, List.foldl_append]
        rfl
end
end Kb
end
section
/-! M6: chances. -/
namespace M
/-- a chance: at least a half, less than one, small numbers -/
structure ChOk (q : Rat) : Prop where
  lo : ¬ q < Rat.divInt 1 2
  hi : ¬ ((1 : Int) : Rat) ≤ q
  n0 : 0 ≤ q.num
  n1 : q.num < q.den
  d : q.den < 16
structure ShOk (q : Rat) : Prop where
  lo : ¬ q < ((0 : Int) : Rat)
  hi : ¬ ((1 : Int) : Rat) < q
  n0 : 0 ≤ q.num
  n1 : q.num ≤ q.den
  d : q.den < 16
theorem ChOk.bd {q : Rat} (h : ChOk q) : Bd 4 q := ⟨by have := h.n0; have := h.n1; have := h.d; omega, h.d⟩
theorem ShOk.bd {q : Rat} (h : ShOk q) : Bd 4 q := ⟨by have := h.n0; have := h.n1; have := h.d; omega, h.d⟩
/-- the factors of the first i copies -/
def facO (qs : List Rat) (l : List Int) (i : Nat) : Int := if (i : Int) ∈ l then (qs.getD i 0).num else (qs.getD i 0).den - (qs.getD i 0).num
def ovN (qs : List Rat) (l : List Int) : Nat → Int
  | 0 => 1
  | i + 1 => ovN qs l i * facO qs l i
def unN (qs : List Rat) : Nat → Int
  | 0 => 1
  | i + 1 => unN qs i * (qs.getD i 0).den
def fac (qs : List Rat) (l : List Int) (i : Nat) : Rat := if (i : Int) ∈ l then qs.getD i 0 else 1 - qs.getD i 0
def prN (qs : List Rat) (l : List Int) : Nat → Rat
  | 0 => 1
  | i + 1 => prN qs l i * fac qs l i
/-- the chance that just the copies of l are up -/
def prob (qs : List Rat) (l : List Int) : Rat := prN qs l qs.length
theorem unN_pos (qs : List Rat) : ∀ i, 0 < unN qs i
  | 0 => (by decide : (0 : Int) < 1)
  | i + 1 => Int.mul_pos (unN_pos qs i) (den_pos _)
theorem one_sub (q : Rat) : 1 - q = Rat.divInt (q.den - q.num) q.den := by
  rw [sub_eq]
  simp
theorem prN_eq (qs : List Rat) (l : List Int) : ∀ i, Rat.divInt (ovN qs l i) (unN qs i) = prN qs l i
  | 0 => (by decide : Rat.divInt 1 1 = 1)
  | i + 1 => by
    rw [ovN, unN, prN, ← prN_eq qs l i, ← Rat.divInt_mul_divInt]
    congr 1
    unfold facO fac
    split
    · exact Rat.num_divInt_den _
    · rw [one_sub]
theorem getD_ok {qs : List Rat} (h : ∀ q ∈ qs, ChOk q) {i : Nat} (hi : i < qs.length) : ChOk (qs.getD i 0) := by
  rw [List.getD_eq_getElem?_getD, List.getElem?_eq_getElem hi]
  exact h _ (List.getElem_mem hi)
theorem ov_bits {qs : List Rat} (h : ∀ q ∈ qs, ChOk q) (l : List Int) : ∀ i, i ≤ qs.length → (ovN qs l i).natAbs < 2 ^ (4 * i + 1) ∧ (unN qs i).natAbs < 2 ^ (4 * i + 1)
  | 0, _ => (by decide : (1 : Int).natAbs < 2 ^ 1 ∧ (1 : Int).natAbs < 2 ^ 1)
  | i + 1, hi => by
    obtain ⟨h1, h2⟩ := ov_bits h l i (by omega)
    have hq := getD_ok h (i := i) (by omega)
    have a := hq.n0
    have b := hq.n1
    have c := hq.d
    have e : 4 * (i + 1) + 1 = (4 * i + 1) + 4 := by omega
    rw [e, ovN, unN]
    refine ⟨mul_bits h1 ?_, mul_bits h2 ?_⟩
    · unfold facO
      split <;> omega
    · omega
theorem prob_bd {qs : List Rat} (h : ∀ q ∈ qs, ChOk q) (l : List Int) : Bd (4 * qs.length + 1) (prob qs l) := by
  obtain ⟨h1, h2⟩ := ov_bits h l qs.length (Nat.le_refl _)
  unfold prob
  rw [← prN_eq]
  exact bd_div (unN_pos _ _) h1 h2
end M
end
section
/-! Kd6: chances, worths. -/
namespace Kb
open PySem PySem.Spec PyProof.Rows L2 M
structure KCh (K : PySem.W.Frag) (mg : Str → Option Value) (aC : Addr) : Prop where
  cl : Cls K aC
  ratios : NoAttr K aC "ratios"
  isC : IsC K aC
  nm : mg "Chances" = some (.ref aC)
  sf : PySem.W.selfFirst K aC = true
/-- the class made of a tuple's items alone -/
theorem ed_call1 {K : PySem.W.Frag} {R : List D → D → Prop} {te : TE} {env : Env'} {xs : List D} {z : D} (h : ED te env (dt K xs)) (hR : R xs z) : ED (tCl1 K (Pr R) te) env z := fun σ Hb H Q e o q =>
  h σ Hb H _ e o fun v Hb2 H2 f2 hp => by
    obtain ⟨a, vs, rfl, h1, d1⟩ := hp
    exact ⟨a, vs, rfl, .inl (sq_t f2.s h1), pr_go f2.s d1 hR fun v Hb3 H3 f3 p3 => q v Hb3 H3 (f2.trans f3) p3⟩
section
variable {P : Program} {w : World} {K : PySem.W.Frag} {mg : Str → Option Value} {base : Heap} {aR aC aF : Addr}
inductive Rcheck_chance (aR : Addr) : List D → D → Prop
  | mk {q : Rat} : ChOk q → Rcheck_chance aR [ratD aR q] (ratD aR q)
theorem fn_check_chance (B : Bi mg) (kr : KRat K mg aR) (uh : UF P w K mg base 5 aR "half" (Pr (Rhalf aR))) (ol : OpF P w K mg base 6 aR "__lt__" (Pr (Rrlt aR))) (og : OpF P w K mg base 6 aR "__ge__" (Pr (Rrge aR))) (c : ∃ t, mg "MOST_UNDER" = some (.int 1000 t)) (D : DfG K mg "check_chance" (top 33)) : GF P w K mg base 7 "check_chance" (Pr (Rcheck_chance aR)) :=
  gf_of D sc_check_chance (fun _ _ h => by cases h; rfl) (fun _ _ _ _ _ _ us h => match us, h with | [_], _ => rfl) (fun _ _ _ _ _ _ _ hr => rd_check_chance B kr.nm uh ol og kr.nI c hr) fun xs z h => by
    cases h with
    | @mk q h =>
      refine (sr_seq (sb_not (et_is (et_or (et_not (et_B (ed_cb (ea_cons (ed_var rfl) (ea_cons ed_c ea_nil)) (cd_isiC kr.isC)))) fun _ => (et_or (et_test (ed_op (ed_var rfl) (ed_call ea_nil .mk) (od_own (.mk (h.bd.mono (by decide)) (by unfold Bd; decide))))) fun _ => (et_or (et_test (ed_op (ed_var rfl) ed_c (od_ownI (.mkI (h.bd.mono (by decide)) (by decide))))) fun _ => (et_test (ed_op (ed_fld (ed_var rfl) kr.cl kr.under rfl) ed_c od_i0))))) ?_))
    (sr_ret (ed_var rfl)))
      have h1 := h.lo
      have h2 := h.hi
      have h3 := h.d
      rw [decide_eq_false h1, decide_eq_false h2, decide_eq_false (by omega)]
      rfl
inductive RChancesI (K : PySem.W.Frag) (aR : Addr) : List D → List D → List Str → List D → Prop
  | mk {qs : List Rat} : 1 ≤ qs.length → qs.length ≤ 8 → (∀ q ∈ qs, ChOk q) → RChancesI K aR [] (qs.map fun q => ratD aR q) ["ratios"] [dt K (qs.map fun q => ratD aR q)]
inductive RChances (K : PySem.W.Frag) (aC aR : Addr) : List D → D → Prop
  | mk {qs : List Rat} : 1 ≤ qs.length → qs.length ≤ 8 → (∀ q ∈ qs, ChOk q) → RChances K aC aR (qs.map fun q => ratD aR q) (chD K aC aR qs)
theorem fn_Chances (B : Bi mg) (kc : KCh K mg aC) (gn : GF P w K mg base 2 "check_number" (Pr Rcheck_number)) (gc : GF P w K mg base 7 "check_chance" (Pr (Rcheck_chance aR))) (c : ∃ t, mg "MOST_COPIES" = some (.int 8 t))
    (D : ∃ f, Mk K aC f ∧ ∃ fd, FunD K "__init__" "Chances.__init__" (defArgs (cdef 34 0)) (defBody (cdef 34 0)) (defScope (cdef 34 0)) [] [] f fd) : MF P w K mg base 8 "Chances" (Pr (RChances K aC aR)) := by
  obtain ⟨f, M, fd, F⟩ := D
  have fi := fn_initS (P := P) (w := w) (mg := mg) (base := base) (k := 7) (C := aC) (Rx := RChancesI K aR) (m := 0) (ps := ["self"]) (pv := "chances") F sc_Chancesx_initx rfl
    (fun doc pm an cdv ct kV us rest hl => StX.bind_star1 (B := fun us => bindArgs (PySem.W.fnOf "__init__" "Chances.__init__" (defArgs (cdef 34 0)) (defBody (cdef 34 0)) (defScope (cdef 34 0)) .none kV doc pm an cdv ct) ⟨us, []⟩) (fun _ => rfl) (fun _ _ _ => rfl) us rest hl)
    (fun cdv A outer s H E hr => ⟨_, rd_Chancesx_initx B gn c gc hr, fun xs1 xs2 ms ys h _ o => by
      cases h with
      | @mk qs h1 h2 h3 =>
        refine (sp_seq (sb_drop (ed_call (ea_cons ed_c (ea_cons (ed_cb (ea_cons (ed_var rfl) ea_nil) cd_lenT) (ea_cons ed_c (ea_cons ed_c ea_nil)))) (.mk ?_ ?_)))
    (sp_si (si_last rfl (by decide) kc.cl kc.ratios (ed_tupL (EO.ed (eo_T0 qs (fun q => ratD aR q) (fun q => ratD aR q) (ed_var rfl) (by omega) (by decide) fun a ha => (ed_call (ea_cons (ed_var rfl) ea_nil) (.mk (h3 a ha)))))))))
        · rw [List.length_map]
          omega
        · rw [List.length_map]
          omega⟩)
  refine mf_of fi M kc.nm fun xs z h => ?_
  cases h with
  | @mk qs h1 h2 h3 =>
    exact ⟨["ratios"], _, rfl, fun vs' H0 o dx Hb Q e d n1 n2 n3 q => spInitS_go (xs1 := []) (.mk h1 h2 h3) rfl (by rw [List.length_map]; omega) e d n1 n2 n3 q⟩
inductive Rlen (K : PySem.W.Frag) (aC aR : Addr) : List D → D → Prop
  | mk {qs : List Rat} : Rlen K aC aR [chD K aC aR qs] (di (qs.length : Nat))
theorem fn_len (B : Bi mg) (kc : KCh K mg aC) (D : DfM K aC "__len__" "Chances.__len__" (cdef 34 3)) : OpF P w K mg base 1 aC "__len__" (Pr (Rlen K aC aR)) :=
  of_of kc.sf D sc_Chancesx_lenx (fun _ _ h => by cases h; rfl) (fun _ _ _ _ _ _ us h => match us, h with | [_], _ => rfl) (fun _ _ _ _ _ _ _ hr => rd_Chancesx_lenx B hr) fun xs z h => by
    cases h with
    | @mk qs => exact (sr_ret (ed_is (ed_cb (ea_cons (ed_fld (ed_var rfl) kc.cl kc.ratios rfl) ea_nil) cd_lenT) (by rw [List.length_map])))
inductive Rcadd (K : PySem.W.Frag) (aC aR : Addr) : List D → D → Prop
  | mk {a b : List Rat} : 1 ≤ (a ++ b).length → (a ++ b).length ≤ 8 → (∀ q ∈ a ++ b, ChOk q) → Rcadd K aC aR [chD K aC aR a, chD K aC aR b] (chD K aC aR (a ++ b))
theorem fn_cadd (B : Bi mg) (kc : KCh K mg aC) (m : MF P w K mg base 8 "Chances" (Pr (RChances K aC aR))) (D : DfM K aC "__add__" "Chances.__add__" (cdef 34 5)) : OpF P w K mg base 10 aC "__add__" (Pr (Rcadd K aC aR)) :=
  of_of kc.sf D sc_Chancesx_addx (fun _ _ h => by cases h; rfl) (fun _ _ _ _ _ _ us h => match us, h with | [_, _], _ => rfl) (fun _ _ _ _ _ _ _ hr => rd_Chancesx_addx B kc.nm m hr) fun xs z h => by
    cases h with
    | @mk a b h1 h2 h3 =>
      have hz : a.length + b.length ≤ 8 := by rw [List.length_append] at h2; exact h2
      exact (sr_seq (sb_not (et_is (et_not (et_B (ed_cb (ea_cons (ed_var rfl) (ea_cons ed_c ea_nil)) (cd_isiC kc.isC)))) rfl))
    (sr_seq (sb_asg (ed_is (ed_op (ed_fld (ed_var rfl) kc.cl kc.ratios rfl) (ed_fld (ed_var rfl) kc.cl kc.ratios rfl) (od_catA (by simp; omega))) (show _ = dt K ((a ++ b).map fun q => ratD aR q) from by rw [List.map_append])))
    (sr_ret (ed_call1 (ed_var rfl) (.mk h1 h2 h3)))))
inductive Rchance_of (K : PySem.W.Frag) (aC aR : Addr) : List D → D → Prop
  | mk {qs : List Rat} {l : List Int} : qs.length ≤ 8 → (∀ q ∈ qs, ChOk q) → Rchance_of K aC aR [chD K aC aR qs, lotD K l] (ratD aR (prob qs l))
theorem fn_chance_of (B : Bi mg) (kc : KCh K mg aC) (kr : KRat K mg aR) (m : MF P w K mg base 3 "Ratio" (Pr (RRatio aR))) (D : DfM K aC "chance_of" "Chances.chance_of" (cdef 34 7)) : TF P w K mg base 5 aC "chance_of" (Pr (Rchance_of K aC aR)) :=
  tf_of kc.cl D sc_Chances_chance_of (fun _ _ h => by cases h; rfl) (fun _ _ _ _ _ _ us h => match us, h with | [_, _], _ => rfl) (fun _ _ _ _ _ _ _ hr => rd_Chances_chance_of B m hr) fun xs z h => by
    cases h with
    | @mk qs l h1 h2 =>
      have hb := ov_bits h2 l
      have fin := hb qs.length (Nat.le_refl _)
      refine (sr_seq (sb_asg ed_c)
    (sr_seq (sb_asg ed_c)
    (sr_seq (env' := [.d (chD K aC aR qs), .d (lotD K l), .d (di (ovN qs l qs.length)), .d (di (unN qs qs.length)), .no, .no]) (sb_forE qs (fun q => ratD aR q) (fun i => [.d (chD K aC aR qs), .d (lotD K l), .d (di (ovN qs l i)), .d (di (unN qs i)), .no, .no]) (ea_cons (ed_fld (ed_var rfl) kc.cl kc.ratios rfl) ea_nil) (.eq (.eq (.eq (.eq (.no (.no .nil)))))) _ (fun i a ha => tj_tup2) fun i a ha => sb_fg (sb_seq (sb_aug (y := di (facO qs l i)) rfl ?_ (od_iC ?_)) (sb_aug rfl (ed_fld (ed_var rfl) kr.cl kr.under rfl) (od_iC ?_))) ?_)
    (sr_ret (ed_is (ed_call (ea_cons (ed_var rfl) (ea_cons (ed_var rfl) ea_nil)) (.mk2 (unN_pos qs qs.length) (Nat.lt_of_lt_of_le fin.2 (Nat.pow_le_pow_right (by decide) (by omega))))) (by rw [prob, ← prN_eq]))))))
      · have e : qs.getD i 0 = a := by rw [List.getD_eq_getElem?_getD, ha]; rfl
        refine ed_is (ed_if (x := di (facO qs l i)) (et_test (ed_op (ed_var rfl) (ed_var rfl) od_inT)) (fun h => ed_is (ed_fld (ed_var rfl) kr.cl kr.over rfl) ?_) fun h => ed_is (ed_op (ed_fld (ed_var rfl) kr.cl kr.under rfl) (ed_fld (ed_var rfl) kr.cl kr.over rfl) od_i0) ?_) rfl
        · have h' : (i : Int) ∈ l := by simpa using h
          rw [facO, if_pos h', e]
        · have h' : ¬ (i : Int) ∈ l := by simpa using h
          rw [facO, if_neg h', e]
      · have hi := (List.getElem?_eq_some_iff.mp ha).1
        have h3 := hb i (by omega)
        have hq := getD_ok h2 hi
        have a0 := hq.n0
        have a1 := hq.n1
        have a2 := hq.d
        refine cmul_of (b := 4) h3.1 ?_ (by omega) (by decide)
        unfold facO
        split <;> omega
      · have hi := (List.getElem?_eq_some_iff.mp ha).1
        have h3 := hb i (by omega)
        have hq := h2 a (List.mem_of_getElem? ha)
        have a2 := hq.d
        exact cmul_of (b := 4) h3.2 (by omega) (by omega) (by decide)
      · have e : qs.getD i 0 = a := by rw [List.getD_eq_getElem?_getD, ha]; rfl
        rw [ovN, unN, e]
        exact .eq (.eq (.eq (.eq (.no (.no .nil)))))
inductive Rcheck_share (aR : Addr) : List D → D → Prop
  | mk {q : Rat} : ShOk q → Rcheck_share aR [ratD aR q] (ratD aR q)
theorem fn_check_share (B : Bi mg) (kr : KRat K mg aR) (ol : OpF P w K mg base 6 aR "__lt__" (Pr (Rrlt aR))) (og : OpF P w K mg base 6 aR "__gt__" (Pr (Rrgt aR))) (c : ∃ t, mg "MOST_UNDER" = some (.int 1000 t)) (D : DfG K mg "check_share" (top 36)) : GF P w K mg base 7 "check_share" (Pr (Rcheck_share aR)) :=
  gf_of D sc_check_share (fun _ _ h => by cases h; rfl) (fun _ _ _ _ _ _ us h => match us, h with | [_], _ => rfl) (fun _ _ _ _ _ _ _ hr => rd_check_share B kr.nm ol kr.nI og c hr) fun xs z h => by
    cases h with
    | @mk q h =>
      refine (sr_seq (sb_not (et_is (et_or (et_not (et_B (ed_cb (ea_cons (ed_var rfl) (ea_cons ed_c ea_nil)) (cd_isiC kr.isC)))) fun _ => (et_or (et_test (ed_op (ed_var rfl) ed_c (od_ownI (.mkI (h.bd.mono (by decide)) (by decide))))) fun _ => (et_or (et_test (ed_op (ed_var rfl) ed_c (od_ownI (.mkI (h.bd.mono (by decide)) (by decide))))) fun _ => (et_test (ed_op (ed_fld (ed_var rfl) kr.cl kr.under rfl) ed_c od_i0))))) ?_))
    (sr_ret (ed_var rfl)))
      have h1 := h.lo
      have h2 := h.hi
      have h3 := h.d
      rw [decide_eq_false h1, decide_eq_false h2, decide_eq_false (by omega)]
      rfl
end
end Kb
end
section
/-! M7: gains, the families that the defs make. -/
namespace M
def gain (qs : List Rat) (s : Rat) (l : List Int) : Rat := (((1 : Int) : Rat) - s) * prob qs l - s * prob qs (others qs.length l)
def totalQ (l : List Rat) : Rat := l.foldl (· + ·) 0
def mostWorth (qs : List Rat) (s : Rat) : Rat := s + gain qs s (up qs.length) + totalQ (((middle qs.length).filter fun l => decide (((0 : Int) : Rat) < gain qs s l)).map (gain qs s))
def leastW (qs : List Rat) (s : Rat) : List (List Int) := mkFam qs.length (((middle qs.length).filter fun l => decide (((0 : Int) : Rat) < gain qs s l)) ++ [up qs.length])
def greatW (qs : List Rat) (s : Rat) : List (List Int) := mkFam qs.length (((middle qs.length).filter fun l => decide (((0 : Int) : Rat) ≤ gain qs s l)) ++ [up qs.length])
def levelL (qs : List Rat) (s : Rat) : List (List Int) := (middle qs.length).filter fun l => decide ((gain qs s l).num = 0)
def wfac (qs : List Rat) (i : Int) : Rat := Rat.divInt (qs.getD i.toNat 0).num ((qs.getD i.toNat 0).den - (qs.getD i.toNat 0).num)
def weight (qs : List Rat) (l : List Int) : Rat := (l.map (wfac qs)).foldl (· * ·) 1
def heavier (qs : List Rat) (l : List Int) : Bool := if decide (weight qs l = weight qs (others qs.length l)) = true then decide ((0 : Int) ∈ l) else decide (weight qs (others qs.length l) < weight qs l)
def heavyF (qs : List Rat) : List (List Int) := mkFam qs.length ((allLots qs.length).filter (heavier qs))
theorem gain_bd {qs : List Rat} {s : Rat} (h : ∀ q ∈ qs, ChOk q) (h8 : qs.length ≤ 8) (hs : Bd 4 s) (l : List Int) : Bd 77 (gain qs s l) := by
  have p1 := (prob_bd h l).mono (show 4 * qs.length + 1 ≤ 33 by omega)
  have p2 := (prob_bd h (others qs.length l)).mono (show 4 * qs.length + 1 ≤ 33 by omega)
  have a := (bd_int (i := 1) (b := 1) (by decide) (by decide)).sub hs
  exact ((a.mul p1).sub (hs.mul p2)).mono (by decide)
end M
end
section
/-! Kd7: gains, worths, families of writes. -/
namespace Kb
open PySem PySem.Spec PyProof.Rows L2 M
def isDict : Sl → Bool
  | .dict _ _ => true
  | _ => false
def onlyB : Nat → Nat → Env' → Bool
  | _, _, [] => true
  | k, i, x :: r => (!(isDict x) || k == i) && onlyB (k + 1) i r
theorem only_of {i : Nat} : ∀ {env : Env'} {k : Nat}, onlyB k i env = true → ∀ (j : Nat) (b : Bool) (l : List (List Int × D)), env[j]? = some (.dict b l) → k + j = i
  | [], _, _, j, b, l, e => by simp at e
  | x :: r, k, h, 0, b, l, e => by
    simp at e
    subst e
    simp [onlyB, isDict] at h
    omega
  | x :: r, k, h, j + 1, b, l, e => by
    have h2 := (Bool.and_eq_true_iff.mp h).2
    have := only_of (k := k + 1) h2 j b l (by simpa using e)
    omega
theorem only_at {i : Nat} {env : Env'} (h : onlyB 0 i env = true) : ∀ (j : Nat) (b : Bool) (l : List (List Int × D)), env[j]? = some (.dict b l) → j = i := fun j b l e => by
  have := only_of h j b l e
  omega
theorem lookup_kv {α β : Type} [BEq α] [LawfulBEq α] {f : α → β} {a : α} : ∀ {l : List α}, a ∈ l → (l.map fun k => (k, f k)).lookup a = some (f a)
  | b :: r, h => by
    rw [List.map_cons, List.lookup_cons]
    by_cases z : a = b
    · subst z; simp
    · rw [Bool.eq_false_iff.mpr fun q => z (beq_iff_eq.mp q)]
      exact lookup_kv ((List.mem_cons.mp h).resolve_left z)
section
variable {P : Program} {w : World} {K : PySem.W.Frag} {mg : Str → Option Value} {base : Heap} {aR aC aF : Addr}
/-- a def that gives a new dict -/
theorem gf_ofD {x : Str} {st : Stmt} {N ps : List Str} {k : Nat} {t : TS} {R : List D → List (List Int × D) → Prop} (Df : DfG K mg x st) (S : FnScope N ps (defScope st)) (hl : ∀ xs z, R xs z → xs.length = ps.length) (hb : Binds0 x x st ps) (rd : Body P w K mg base N x st k t) (dd : ∀ xs z, R xs z → SRD t (startE N.length xs) z) : GF P w K mg base (k + 1) x (PrD R) := by
  obtain ⟨f, hm, fd, F⟩ := Df.ex
  have ok := FunD.ok (CX := CX0) (P := P) (w := w) (mg := mg) (base := base) (k := k) (sp := PrD R) F S (fun vs H Q E q => by
    obtain ⟨xs, r, Hb, hR, _, d, _⟩ := q
    rw [← d.len]
    exact hl xs r hR) fun cdv A outer s H vs Q E hr q => by
      obtain ⟨xs, r, Hb, hR, e, d, q⟩ := q
      have hle : xs.length ≤ N.length := by
        have := congrArg List.length S.pre
        rw [List.length_take] at this
        rw [hl xs r hR]
        omega
      exact ⟨t, rd f cdv A outer s H E hr, dd xs r hR Hb H _ Hb H _ (StOk.start (N := N) e d hle) fun p ws Hb' H' h1 h2 f h3 h4 => q p ws Hb' H' h1 h2 f h3 h4⟩
  have b : Binds K fd ps [] := F.bindsN fun kV doc pm an cdv ct us hus => hb doc pm an cdv ct kV us hus
  exact ⟨f, (ok.raw b .nil).imp fun vs H Q E q => by rw [List.append_nil]; exact q, F.kp, hm⟩
theorem srd_seq {s s' : TS} {env env' : Env'} {r : List (List Int × D)} (h : SB s env env') (h2 : SRD s' env' r) : SRD (tSeq s s') env r := fun Hb0 H0 σ Hb H D o k => h Hb0 H0 σ Hb H { D with nx := s' D } o fun σ1 Hb1 H1 o1 _ => h2 Hb0 H0 σ1 Hb1 H1 D o1 k
/-- the facts of Ratio together -/
structure RatF (P : Program) (w : World) (K : PySem.W.Frag) (mg : Str → Option Value) (base : Heap) (aR : Addr) : Prop where
  kr : KRat K mg aR
  make : MF P w K mg base 3 "Ratio" (Pr (RRatio aR))
  half : UF P w K mg base 5 aR "half" (Pr (Rhalf aR))
  lt : OpF P w K mg base 6 aR "__lt__" (Pr (Rrlt aR))
  le : OpF P w K mg base 6 aR "__le__" (Pr (Rrle aR))
  gt : OpF P w K mg base 6 aR "__gt__" (Pr (Rrgt aR))
  ge : OpF P w K mg base 6 aR "__ge__" (Pr (Rrge aR))
  eq : OpF P w K mg base 1 aR "__eq__" (Pr (Req aR))
  add : OpF P w K mg base 6 aR "__add__" (Pr (Radd aR))
  sub : OpF P w K mg base 6 aR "__sub__" (Pr (Rsub aR))
  mul : OpF P w K mg base 6 aR "__mul__" (Pr (Rmul aR))
  rsub : OpF P w K mg base 7 aR "__rsub__" (Pr (Rrsub aR))
  fs : ∃ f, PySem.W.findIn K (.ref aR) "__sub__" = some (some (.ref f))
  total : GF P w K mg base 7 "total" (Pr (Rtotal aR))
/-- what of chances and a share is asked -/
structure InOk (qs : List Rat) (s : Rat) : Prop where
  n1 : 1 ≤ qs.length
  n8 : qs.length ≤ 8
  ch : ∀ q ∈ qs, ChOk q
  sh : ShOk s
inductive Rwhole_lot (K : PySem.W.Frag) (aC aR : Addr) : List D → D → Prop
  | mk {qs : List Rat} : qs.length ≤ 8 → Rwhole_lot K aC aR [chD K aC aR qs] (lotD K (up qs.length))
theorem fn_whole_lot (B : Bi mg) (ln : OpF P w K mg base 1 aC "__len__" (Pr (Rlen K aC aR))) (Df : DfG K mg "whole_lot" (top 44)) : GF P w K mg base 3 "whole_lot" (Pr (Rwhole_lot K aC aR)) :=
  gf_of Df sc_whole_lot (fun _ _ h => by cases h; rfl) (fun _ _ _ _ _ _ us h => match us, h with | [_], _ => rfl) (fun _ _ _ _ _ _ _ hr => rd_whole_lot B ln hr) fun xs z h => by
    cases h with
    | @mk qs h => exact (sr_ret (ed_is (ed_tupRg (n := qs.length) (ed_cb (ea_cons (ed_var rfl) ea_nil) (cd_lenO .mk (by omega))) (by omega)) (show _ = lotD K (up qs.length) from by rw [lotD, up, List.map_map]; rfl)))
inductive Rgain_of (K : PySem.W.Frag) (aC aR : Addr) : List D → D → Prop
  | mk {qs : List Rat} {s : Rat} {l : List Int} : InOk qs s → Below qs.length l → Rgain_of K aC aR [chD K aC aR qs, ratD aR s, lotD K l] (ratD aR (gain qs s l))
theorem fn_gain_of (B : Bi mg) (rf : RatF P w K mg base aR) (ln : OpF P w K mg base 1 aC "__len__" (Pr (Rlen K aC aR))) (co : TF P w K mg base 5 aC "chance_of" (Pr (Rchance_of K aC aR))) (go : GF P w K mg base 4 "others" (Pr (Rothers K))) (Df : DfG K mg "gain_of" (top 39)) : GF P w K mg base 8 "gain_of" (Pr (Rgain_of K aC aR)) := by
  obtain ⟨fs, hfs⟩ := rf.fs
  exact gf_of Df sc_gain_of (fun _ _ h => by cases h; rfl) (fun _ _ _ _ _ _ us h => match us, h with | [_, _, _], _ => rfl) (fun _ _ _ _ _ _ _ hr => rd_gain_of B rf.rsub rf.kr.subI hfs co rf.mul go ln rf.sub hr) fun xs z h => by
    cases h with
    | @mk qs s l h1 h2 =>
      have bs := h1.sh.bd
      have p1 := (prob_bd h1.ch l).mono (show 4 * qs.length + 1 ≤ 33 by have := h1.n8; omega)
      have p2 := (prob_bd h1.ch (others qs.length l)).mono (show 4 * qs.length + 1 ≤ 33 by have := h1.n8; omega)
      have a := (bd_int (i := 1) (b := 1) (by decide) (by decide)).sub bs
      exact (sr_ret (ed_op (ed_op (ed_op ed_c (ed_var rfl) (od_ownR (.mk (bs.mono (by decide)) (by decide)))) (ed_meth (ed_var rfl) rfl (ea_cons (ed_var rfl) ea_nil) (.mk h1.n8 h1.ch)) (od_own (.mk (a.mono (by decide)) (p1.mono (by decide))))) (ed_op (ed_var rfl) (ed_meth (ed_var rfl) rfl (ea_cons (ed_call (ea_cons (ed_cb (ea_cons (ed_var rfl) ea_nil) (cd_lenO .mk (by have := h1.n8; omega))) (ea_cons (ed_var rfl) ea_nil)) (.mk h1.n1 h1.n8 h2)) ea_nil) (.mk h1.n8 h1.ch)) (od_own (.mk (bs.mono (by decide)) (p2.mono (by decide))))) (od_own (.mk ((a.mul p1).mono (by decide)) ((bs.mul p2).mono (by decide))))))
theorem middle_ok {n : Nat} {l : List Int} (h8 : n ≤ 8) (h : l ∈ M.middle n) : LotOk n l := by
  obtain ⟨h1, h2⟩ := List.mem_filter.mp h
  have h3 := allLots_mem l h1
  refine ⟨fun z => ?_, by omega, h3.2⟩
  subst z
  simp at h2
theorem allLots_sublist (n : Nat) : (M.middle n).length ≤ (allLots n).length := List.length_filter_le _ _
theorem allLots_nodup : ∀ n, (allLots n).Nodup
  | 0 => by simp [allLots]
  | n + 1 => by
    rw [allLots, List.nodup_append]
    refine ⟨allLots_nodup n, ?_, fun a ha b hb e => ?_⟩
    · exact List.pairwise_map.mpr ((allLots_nodup n).imp fun h e => h (List.append_cancel_right e))
    · obtain ⟨m, hm, rfl⟩ := List.mem_map.mp hb
      have := (allLots_mem a ha).2 n (by rw [e]; simp)
      omega
theorem middle_nodup (n : Nat) : (M.middle n).Nodup := (allLots_nodup n).filter _
inductive Rmiddle_gains (K : PySem.W.Frag) (aC aR : Addr) : List D → List (List Int × D) → Prop
  | mk {qs : List Rat} {s : Rat} : InOk qs s → Rmiddle_gains K aC aR [chD K aC aR qs, ratD aR s] ((M.middle qs.length).map fun l => (l, ratD aR (gain qs s l)))
theorem fn_middle_gains (B : Bi mg) (ln : OpF P w K mg base 1 aC "__len__" (Pr (Rlen K aC aR))) (gm : GF P w K mg base 4 "middle_lots" (Pr (Rmiddle_lots K))) (gg : GF P w K mg base 8 "gain_of" (Pr (Rgain_of K aC aR))) (Df : DfG K mg "middle_gains" (top 43)) : GF P w K mg base 9 "middle_gains" (PrD (Rmiddle_gains K aC aR)) :=
  gf_ofD Df sc_middle_gains (fun _ _ h => by cases h; rfl) (fun _ _ _ _ _ _ us h => match us, h with | [_, _], _ => rfl) (fun _ _ _ _ _ _ _ hr => rd_middle_gains B gm ln gg hr) fun xs z h => by
    cases h with
    | @mk qs s h1 =>
      have hz := allLots_len8 h1.n8
      have hz2 := allLots_sublist qs.length
      exact srd_ret (edc_comp (M.middle qs.length) (fun l => lotD K l) (fun l => l) (fun l => ratD aR (gain qs s l)) (ed_call (ea_cons (ed_cb (ea_cons (ed_var rfl) ea_nil) (cd_lenO .mk (by have := h1.n8; omega))) ea_nil) (.mk h1.n1 h1.n8)) (by omega) (by decide) (by rw [List.map_id']; exact middle_nodup _) (fun a ha => ed_var rfl) fun a ha => ed_call (ea_cons (ed_var rfl) (ea_cons (ed_var rfl) (ea_cons (ed_var rfl) ea_nil))) (.mk h1 (middle_ok h1.n8 ha).2))
inductive Rmost_worth (K : PySem.W.Frag) (aC aR : Addr) : List D → D → Prop
  | mk {qs : List Rat} {s : Rat} : InOk qs s → qs.length ≤ 4 → Rmost_worth K aC aR [chD K aC aR qs, ratD aR s] (ratD aR (mostWorth qs s))
theorem fn_most_worth (B : Bi mg) (rf : RatF P w K mg base aR) (cs : GF P w K mg base 7 "check_share" (Pr (Rcheck_share aR))) (gm : GF P w K mg base 9 "middle_gains" (PrD (Rmiddle_gains K aC aR))) (gg : GF P w K mg base 8 "gain_of" (Pr (Rgain_of K aC aR))) (gw : GF P w K mg base 3 "whole_lot" (Pr (Rwhole_lot K aC aR))) (Df : DfG K mg "most_worth" (top 45)) : GF P w K mg base 10 "most_worth" (Pr (Rmost_worth K aC aR)) :=
  gf_of Df sc_most_worth (fun _ _ h => by cases h; rfl) (fun _ _ _ _ _ _ us h => match us, h with | [_, _], _ => rfl) (fun _ _ _ _ _ _ _ hr => rd_most_worth B cs gm rf.gt rf.kr.nI gg gw rf.add rf.total hr) fun xs z h => by
    cases h with
    | @mk qs s h1 h4 =>
      have bg : ∀ l, Bd 77 (gain qs s l) := gain_bd h1.ch h1.n8 h1.sh.bd
      have hz := allLots_len (n := qs.length)
      have h16 : 2 ^ qs.length ≤ 2 ^ 4 := Nat.pow_le_pow_right (by decide) h4
      have hz2 := allLots_sublist qs.length
      have hf := List.length_filter_le (fun l => decide (((0 : Int) : Rat) < gain qs s l)) (M.middle qs.length)
      have bt : Bd 1700 (totalQ (((M.middle qs.length).filter fun l => decide (((0 : Int) : Rat) < gain qs s l)).map (gain qs s))) := by
        have := fold_bd 77 (((M.middle qs.length).filter fun l => decide (((0 : Int) : Rat) < gain qs s l)).map (gain qs s)) 1 0 (fun q hq => by
          obtain ⟨l, _, rfl⟩ := List.mem_map.mp hq
          exact bg l) (by unfold Bd; decide)
        refine this.mono ?_
        rw [List.length_map]
        omega
      refine (sr_seq (sb_drop (ed_call (ea_cons (ed_var rfl) ea_nil) (.mk h1.sh)))
    (sr_seq (sb_dict (edc_call (ea_cons (ed_var rfl) (ea_cons (ed_var rfl) ea_nil)) (.mk h1)))
    (sr_seq (sb_lockO (i := 2) rfl (only_at rfl) (eo_lcD (K := K) (M.middle qs.length) (fun l => l) (fun l => ratD aR (gain qs s l)) (fun l => decide (((0 : Int) : Rat) < gain qs s l)) (fun l => ratD aR (gain qs s l)) rfl (by omega) (by decide) (fun a ha => (et_test (ed_op (ed_dget rfl (ed_var rfl) (lookup_kv ha)) ed_c (od_ownI (.mkI ((bg a).mono (by decide)) (by decide)))))) fun a ha _ => (ed_dget rfl (ed_var rfl) (lookup_kv ha))))
    (sr_keep 3 rfl (sr_ret (ed_op (ed_op (ed_var rfl) (ed_call (ea_cons (ed_var rfl) (ea_cons (ed_var rfl) (ea_cons (ed_call (ea_cons (ed_var rfl) ea_nil) (.mk h1.n8)) ea_nil))) (.mk h1 (up_ok h1.n1 h1.n8).2)) (od_own (.mk (h1.sh.bd.mono (by decide)) ((bg _).mono (by decide))))) (ed_call (ea_cons (ed_is (ed_var rfl) (show _ = dl ((((M.middle qs.length).filter fun l => decide (((0 : Int) : Rat) < gain qs s l)).map (gain qs s)).map fun q => ratD aR q) from by rw [List.map_map]; rfl)) ea_nil) (.mk (c := 77) (fun q hq => ?_) ?_ (by decide))) (od_own (.mk ((h1.sh.bd.add (bg _)).mono (by decide)) (bt.mono (by decide))))))))))
      · obtain ⟨l, _, rfl⟩ := List.mem_map.mp hq
        exact bg l
      · rw [List.length_map]
        omega
inductive Rleast_writes (K : PySem.W.Frag) (aF aC aR : Addr) : List D → D → Prop
  | mk {qs : List Rat} {s : Rat} : InOk qs s → Rleast_writes K aF aC aR [chD K aC aR qs, ratD aR s] (famD K aF qs.length (leastW qs s))
theorem fn_least_writes (B : Bi mg) (rf : RatF P w K mg base aR) (cs : GF P w K mg base 7 "check_share" (Pr (Rcheck_share aR))) (gm : GF P w K mg base 9 "middle_gains" (PrD (Rmiddle_gains K aC aR))) (gw : GF P w K mg base 3 "whole_lot" (Pr (Rwhole_lot K aC aR))) (m : MF P w K mg base 4 "Family" (Pr (RFamily K aF))) (ln : OpF P w K mg base 1 aC "__len__" (Pr (Rlen K aC aR))) (Df : DfG K mg "least_writes" (top 46)) : GF P w K mg base 10 "least_writes" (Pr (Rleast_writes K aF aC aR)) :=
  gf_of Df sc_least_writes (fun _ _ h => by cases h; rfl) (fun _ _ _ _ _ _ us h => match us, h with | [_, _], _ => rfl) (fun _ _ _ _ _ _ _ hr => rd_least_writes B cs gm rf.gt rf.kr.nI gw m ln hr) fun xs z h => by
    cases h with
    | @mk qs s h1 =>
      have bg : ∀ l, Bd 77 (gain qs s l) := gain_bd h1.ch h1.n8 h1.sh.bd
      have hz := allLots_len8 h1.n8
      have hz2 := allLots_sublist qs.length
      have hf := List.length_filter_le (fun l => decide (((0 : Int) : Rat) < gain qs s l)) (M.middle qs.length)
      refine (sr_seq (sb_drop (ed_call (ea_cons (ed_var rfl) ea_nil) (.mk h1.sh)))
    (sr_seq (sb_dict (edc_call (ea_cons (ed_var rfl) (ea_cons (ed_var rfl) ea_nil)) (.mk h1)))
    (sr_seq (sb_asg (ed_is (ed_op (EO.ed (eo_lock (i := 2) rfl (only_at rfl) (eo_lcD (K := K) (M.middle qs.length) (fun l => l) (fun l => ratD aR (gain qs s l)) (fun l => decide (((0 : Int) : Rat) < gain qs s l)) (fun l => lotD K l) rfl (by omega) (by decide) (fun a ha => (et_test (ed_op (ed_dget (K := K) rfl (ed_var rfl) (lookup_kv ha)) ed_c (od_ownI (.mkI ((bg a).mono (by decide)) (by decide)))))) fun a ha _ => (ed_var rfl)))) (ed_lst (ea_cons (ed_call (ea_cons (ed_var rfl) ea_nil) (.mk h1.n8)) ea_nil) rfl) (od_cat ?_)) (show _ = lotsL K (((M.middle qs.length).filter fun l => decide (((0 : Int) : Rat) < gain qs s l)) ++ [up qs.length]) from by rw [lotsL, List.map_append]; rfl)))
    (sr_ret (ed_call (ea_cons (ed_cb (ea_cons (ed_var rfl) ea_nil) (cd_lenO .mk (by have := h1.n8; omega))) (ea_starL (ed_var rfl) ea_nil)) (famR h1.n1 h1.n8 (by simp) ?_ ?_))))))
      · rw [List.length_map]
        show _ + 1 ≤ 100000
        omega
      · intro l hl
        rcases List.mem_append.mp hl with hl | hl
        · exact middle_ok h1.n8 (List.mem_filter.mp hl).1
        · simp at hl
          rw [hl]
          exact up_ok h1.n1 h1.n8
      · rw [List.length_append]
        show _ + 1 < 500
        omega
inductive Rgreatest_writes (K : PySem.W.Frag) (aF aC aR : Addr) : List D → D → Prop
  | mk {qs : List Rat} {s : Rat} : InOk qs s → Rgreatest_writes K aF aC aR [chD K aC aR qs, ratD aR s] (famD K aF qs.length (greatW qs s))
theorem fn_greatest_writes (B : Bi mg) (rf : RatF P w K mg base aR) (cs : GF P w K mg base 7 "check_share" (Pr (Rcheck_share aR))) (gm : GF P w K mg base 9 "middle_gains" (PrD (Rmiddle_gains K aC aR))) (gw : GF P w K mg base 3 "whole_lot" (Pr (Rwhole_lot K aC aR))) (m : MF P w K mg base 4 "Family" (Pr (RFamily K aF))) (ln : OpF P w K mg base 1 aC "__len__" (Pr (Rlen K aC aR))) (Df : DfG K mg "greatest_writes" (top 47)) : GF P w K mg base 10 "greatest_writes" (Pr (Rgreatest_writes K aF aC aR)) :=
  gf_of Df sc_greatest_writes (fun _ _ h => by cases h; rfl) (fun _ _ _ _ _ _ us h => match us, h with | [_, _], _ => rfl) (fun _ _ _ _ _ _ _ hr => rd_greatest_writes B cs gm rf.ge rf.kr.nI gw m ln hr) fun xs z h => by
    cases h with
    | @mk qs s h1 =>
      have bg : ∀ l, Bd 77 (gain qs s l) := gain_bd h1.ch h1.n8 h1.sh.bd
      have hz := allLots_len8 h1.n8
      have hz2 := allLots_sublist qs.length
      have hf := List.length_filter_le (fun l => decide (((0 : Int) : Rat) ≤ gain qs s l)) (M.middle qs.length)
      refine (sr_seq (sb_drop (ed_call (ea_cons (ed_var rfl) ea_nil) (.mk h1.sh)))
    (sr_seq (sb_dict (edc_call (ea_cons (ed_var rfl) (ea_cons (ed_var rfl) ea_nil)) (.mk h1)))
    (sr_seq (sb_asg (ed_is (ed_op (EO.ed (eo_lock (i := 2) rfl (only_at rfl) (eo_lcD (K := K) (M.middle qs.length) (fun l => l) (fun l => ratD aR (gain qs s l)) (fun l => decide (((0 : Int) : Rat) ≤ gain qs s l)) (fun l => lotD K l) rfl (by omega) (by decide) (fun a ha => (et_test (ed_op (ed_dget (K := K) rfl (ed_var rfl) (lookup_kv ha)) ed_c (od_ownI (.mkI ((bg a).mono (by decide)) (by decide)))))) fun a ha _ => (ed_var rfl)))) (ed_lst (ea_cons (ed_call (ea_cons (ed_var rfl) ea_nil) (.mk h1.n8)) ea_nil) rfl) (od_cat ?_)) (show _ = lotsL K (((M.middle qs.length).filter fun l => decide (((0 : Int) : Rat) ≤ gain qs s l)) ++ [up qs.length]) from by rw [lotsL, List.map_append]; rfl)))
    (sr_ret (ed_call (ea_cons (ed_cb (ea_cons (ed_var rfl) ea_nil) (cd_lenO .mk (by have := h1.n8; omega))) (ea_starL (ed_var rfl) ea_nil)) (famR h1.n1 h1.n8 (by simp) ?_ ?_))))))
      · rw [List.length_map]
        show _ + 1 ≤ 100000
        omega
      · intro l hl
        rcases List.mem_append.mp hl with hl | hl
        · exact middle_ok h1.n8 (List.mem_filter.mp hl).1
        · simp at hl
          rw [hl]
          exact up_ok h1.n1 h1.n8
      · rw [List.length_append]
        show _ + 1 < 500
        omega
inductive Rlevel_lots (K : PySem.W.Frag) (aC aR : Addr) : List D → D → Prop
  | mk {qs : List Rat} {s : Rat} : InOk qs s → Rlevel_lots K aC aR [chD K aC aR qs, ratD aR s] (lotsL K (levelL qs s))
theorem fn_level_lots (B : Bi mg) (kr : KRat K mg aR) (gm : GF P w K mg base 9 "middle_gains" (PrD (Rmiddle_gains K aC aR))) (Df : DfG K mg "level_lots" (top 49)) : GF P w K mg base 10 "level_lots" (Pr (Rlevel_lots K aC aR)) :=
  gf_of Df sc_level_lots (fun _ _ h => by cases h; rfl) (fun _ _ _ _ _ _ us h => match us, h with | [_, _], _ => rfl) (fun _ _ _ _ _ _ _ hr => rd_level_lots B gm hr) fun xs z h => by
    cases h with
    | @mk qs s h1 =>
      have hz := allLots_len8 h1.n8
      have hz2 := allLots_sublist qs.length
      exact (sr_seq (sb_dict (edc_call (ea_cons (ed_var rfl) (ea_cons (ed_var rfl) ea_nil)) (.mk h1)))
    (sr_ret (EO.ed (eo_lock (i := 2) rfl (only_at rfl) (eo_lcD (K := K) (M.middle qs.length) (fun l => l) (fun l => ratD aR (gain qs s l)) (fun l => decide ((gain qs s l).num = 0)) (fun l => lotD K l) rfl (by omega) (by decide) (fun a ha => (et_test (ed_op (ed_fld (ed_dget (K := K) rfl (ed_var rfl) (lookup_kv ha)) kr.cl kr.over rfl) ed_c od_eqi))) fun a ha _ => (ed_var rfl))))))
theorem fam_bounds {n : Nat} {ls : List (List Int)} (h8 : n ≤ 8) : (∀ m ∈ mkFam n ls, m.length < 1000) ∧ (mkFam n ls).length ≤ 256 := by
  refine ⟨fun m hm => ?_, least_len _⟩
  have hn : ∀ l ∈ ls.map (lotOf n), Norm l := fun l hl => by
    obtain ⟨x, _, rfl⟩ := List.mem_map.mp hl
    exact norm_lotOf h8 x
  have := (hn m (mem_least hn hm)).len
  omega
inductive Ris_best (K : PySem.W.Frag) (aF aC aR : Addr) : List D → D → Prop
  | mk {qs : List Rat} {s : Rat} {ls : List (List Int)} : InOk qs s → (∀ m ∈ ls, m.length < 1000) → ls.length ≤ 256 → Ris_best K aF aC aR [chD K aC aR qs, ratD aR s, famD K aF qs.length ls] (db (M.le (leastW qs s) ls && M.le ls (greatW qs s)))
theorem fn_is_best (B : Bi mg) (kf : KFam K mg aF) (cs : GF P w K mg base 7 "check_share" (Pr (Rcheck_share aR))) (ln : OpF P w K mg base 1 aC "__len__" (Pr (Rlen K aC aR))) (gl : GF P w K mg base 10 "least_writes" (Pr (Rleast_writes K aF aC aR))) (ol : OpF P w K mg base 3 aF "__le__" (Pr (Rle K aF))) (gg : GF P w K mg base 10 "greatest_writes" (Pr (Rgreatest_writes K aF aC aR))) (Df : DfG K mg "is_best" (top 48)) : GF P w K mg base 11 "is_best" (Pr (Ris_best K aF aC aR)) :=
  gf_of Df sc_is_best (fun _ _ h => by cases h; rfl) (fun _ _ _ _ _ _ us h => match us, h with | [_, _, _], _ => rfl) (fun _ _ _ _ _ _ _ hr => rd_is_best B cs ln gl ol gg hr) fun xs z h => by
    cases h with
    | @mk qs s ls h1 h2 h3 =>
      have b1 := fam_bounds (ls := ((M.middle qs.length).filter fun l => decide (((0 : Int) : Rat) < gain qs s l)) ++ [up qs.length]) h1.n8
      have b2 := fam_bounds (ls := ((M.middle qs.length).filter fun l => decide (((0 : Int) : Rat) ≤ gain qs s l)) ++ [up qs.length]) h1.n8
      refine (sr_seq (sb_drop (ed_call (ea_cons (ed_var rfl) ea_nil) (.mk h1.sh)))
    (sr_seq (sb_not (et_is (et_test (ed_op (ed_fld (ed_var rfl) kf.cl kf.copies rfl) (ed_cb (ea_cons (ed_var rfl) ea_nil) (cd_lenO .mk (by have := h1.n8; omega))) od_nei)) ?_))
    (sr_ret (ed_and (ed_op (ed_call (ea_cons (ed_var rfl) (ea_cons (ed_var rfl) ea_nil)) (.mk h1)) (ed_var rfl) (od_own (.mk h2 (by omega) (Nat.lt_of_le_of_lt b1.2 (by decide))))) fun _ => (ed_op (ed_var rfl) (ed_call (ea_cons (ed_var rfl) (ea_cons (ed_var rfl) ea_nil)) (.mk h1)) (od_own (.mk b2.1 (Nat.lt_of_le_of_lt b2.2 (by decide)) (by omega))))))))
      simp
end
end Kb
end
section
/-! Kd8: weights, heavy lots, meetings. -/
namespace Kb
open PySem PySem.Spec PyProof.Rows L2 M
section
variable {P : Program} {w : World} {K : PySem.W.Frag} {mg : Str → Option Value} {base : Heap} {aR aC aF : Addr}
theorem wfac_ok {qs : List Rat} (h : ∀ q ∈ qs, ChOk q) {a : Int} (h0 : 0 ≤ a) (h1 : a < qs.length) : Bd 4 (wfac qs a) ∧ 0 < ((qs.getD a.toNat 0).den : Int) - (qs.getD a.toNat 0).num ∧ (((qs.getD a.toNat 0).den : Int) - (qs.getD a.toNat 0).num).natAbs < 2 ^ 4 := by
  have hq := getD_ok h (i := a.toNat) (by omega)
  have a0 := hq.n0
  have a1 := hq.n1
  have a2 := hq.d
  exact ⟨bd_div (by omega) (by omega) (by omega), by omega, by omega⟩
theorem wfold_bd {qs : List Rat} (h : ∀ q ∈ qs, ChOk q) : ∀ (l : List Int) (k : Nat) (q : Rat), (∀ i ∈ l, 0 ≤ i ∧ i < qs.length) → Bd k q → Bd (k + 4 * l.length) ((l.map (wfac qs)).foldl (· * ·) q)
  | [], k, q, _, h => h
  | a :: l, k, q, hl, hq => by
    have h1 := hl a (List.mem_cons_self ..)
    have := wfold_bd h l (k + 4) (q * wfac qs a) (fun x hx => hl x (List.mem_cons_of_mem _ hx)) (hq.mul (wfac_ok h h1.1 h1.2).1)
    refine this.mono ?_
    rw [List.length_cons]
    omega
theorem weight_bd {qs : List Rat} (h : ∀ q ∈ qs, ChOk q) {l : List Int} (hl : Below qs.length l) (h8 : l.length ≤ 8) : Bd 33 (weight qs l) := by
  have := wfold_bd h l 1 1 hl.2 (by unfold Bd; decide)
  exact this.mono (by omega)
inductive Rweight_of (K : PySem.W.Frag) (aC aR : Addr) : List D → D → Prop
  | mk {qs : List Rat} {l : List Int} : (∀ q ∈ qs, ChOk q) → Below qs.length l → l.length ≤ 8 → Rweight_of K aC aR [chD K aC aR qs, lotD K l] (ratD aR (weight qs l))
theorem fn_weight_of (B : Bi mg) (rf : RatF P w K mg base aR) (kc : KCh K mg aC) (Df : DfG K mg "weight_of" (top 54)) : GF P w K mg base 7 "weight_of" (Pr (Rweight_of K aC aR)) :=
  gf_of Df sc_weight_of (fun _ _ h => by cases h; rfl) (fun _ _ _ _ _ _ us h => match us, h with | [_, _], _ => rfl) (fun _ _ _ _ _ _ _ hr => rd_weight_of B rf.make rf.mul hr) fun xs z h => by
    cases h with
    | @mk qs l h1 h2 h3 =>
      refine (sr_seq (sb_asg (ed_call (ea_cons ed_c ea_nil) .mk1))
    (sr_seq (env' := [.d (chD K aC aR qs), .d (lotD K l), .d (ratD aR (weight qs l)), .no, .no]) (sb_eq (sb_forT l (fun i => di i) (fun i => [.d (chD K aC aR qs), .d (lotD K l), .d (ratD aR (weight qs (l.take i))), .no, .no]) (ed_var rfl) (.eq (.eq (.eq (.no (.no .nil))))) _ (fun i a ha => tj_name) fun i a ha => sb_fg (sb_seq (sb_asg (ed_op (ed_fld (ed_var rfl) kc.cl kc.ratios rfl) (ed_is (ed_var rfl) (show di a = di (a.toNat : Int) from ?_)) (od_ixT (x := ratD aR (qs.getD a.toNat 0)) ?_))) (sb_asg (ed_op (ed_var rfl) (ed_call (ea_cons (ed_fld (ed_var rfl) rf.kr.cl rf.kr.over rfl) (ea_cons (ed_op (ed_fld (ed_var rfl) rf.kr.cl rf.kr.under rfl) (ed_fld (ed_var rfl) rf.kr.cl rf.kr.over rfl) od_i0) ea_nil)) (.mk2 ?_ ?_)) (od_own (.mk ?_ ?_))))) ?_) (by rw [List.take_length]))
    (sr_ret (ed_var rfl))))
      all_goals
        have hm := List.mem_of_getElem? ha
        have ha2 := h2.2 a hm
        have hw := wfac_ok h1 ha2.1 ha2.2
      · congr 2
        omega
      · rw [List.getElem?_map, List.getD_eq_getElem?_getD, List.getElem?_eq_getElem (by omega)]
        rfl
      · exact hw.2.1
      · exact Nat.lt_of_lt_of_le hw.2.2 (Nat.pow_le_pow_right (by decide) (by decide))
      · refine (weight_bd h1 (l := l.take i) ⟨?_, fun x hx => h2.2 x (List.mem_of_mem_take hx)⟩ ?_).mono (by decide)
        · rw [List.length_take]; omega
        · rw [List.length_take]; omega
      · exact hw.1.mono (by decide)
      · have e : weight qs (l.take (i + 1)) = weight qs (l.take i) * wfac qs a := by
          unfold weight
          rw [List.take_add_one, ha, List.map_append, List.foldl_append]
          rfl
        rw [e]
        exact .eq (.eq (.eq (.no (.no .nil))))
inductive Ris_heavier (K : PySem.W.Frag) (aC aR : Addr) : List D → D → Prop
  | mk {qs : List Rat} {l : List Int} : 1 ≤ qs.length → qs.length ≤ 8 → (∀ q ∈ qs, ChOk q) → Below qs.length l → l.length ≤ 8 → Ris_heavier K aC aR [chD K aC aR qs, lotD K l] (db (heavier qs l))
theorem others_below {n : Nat} (h8 : n ≤ 8) (l : List Int) : Below n (others n l) ∧ (others n l).length ≤ 8 := by
  have hl := (norm_others h8 l).len
  refine ⟨⟨by omega, fun i hi => ?_⟩, hl⟩
  unfold others at hi
  simp at hi
  obtain ⟨a, ⟨h1, _⟩, rfl⟩ := hi
  omega
theorem fn_is_heavier (B : Bi mg) (rf : RatF P w K mg base aR) (gw : GF P w K mg base 7 "weight_of" (Pr (Rweight_of K aC aR))) (go : GF P w K mg base 4 "others" (Pr (Rothers K))) (ln : OpF P w K mg base 1 aC "__len__" (Pr (Rlen K aC aR))) (Df : DfG K mg "is_heavier" (top 55)) : GF P w K mg base 8 "is_heavier" (Pr (Ris_heavier K aC aR)) :=
  gf_of Df sc_is_heavier (fun _ _ h => by cases h; rfl) (fun _ _ _ _ _ _ us h => match us, h with | [_, _], _ => rfl) (fun _ _ _ _ _ _ _ hr => rd_is_heavier B gw go ln rf.eq rf.gt hr) fun xs z h => by
    cases h with
    | @mk qs l h1 h8 h2 h3 h4 =>
      have ho := others_below h8 l
      refine (sr_seq (sb_asg (ed_call (ea_cons (ed_var rfl) (ea_cons (ed_var rfl) ea_nil)) (.mk h2 h3 h4)))
    (sr_seq (sb_asg (ed_call (ea_cons (ed_var rfl) (ea_cons (ed_call (ea_cons (ed_cb (ea_cons (ed_var rfl) ea_nil) (cd_lenO .mk (by omega))) (ea_cons (ed_var rfl) ea_nil)) (.mk h1 h8 h3)) ea_nil)) (.mk h2 ho.1 ho.2)))
    (sr_when (et_test (ed_op (ed_var rfl) (ed_var rfl) (od_own .mk))) (fun h => (sr_ret (ed_is (ed_op ed_c (ed_var rfl) (od_inT (a := 0))) ?_))) fun h => (sr_ret (ed_is (ed_op (ed_var rfl) (ed_var rfl) (od_own (.mk ((weight_bd h2 h3 h4).mono (by decide)) ((weight_bd h2 ho.1 ho.2).mono (by decide))))) ?_)))))
      · unfold heavier
        rw [if_pos h]
        rfl
      · unfold heavier
        rw [if_neg (by rw [h]; decide)]
inductive Rheavy (K : PySem.W.Frag) (aF aC aR : Addr) : List D → D → Prop
  | mk {qs : List Rat} : 1 ≤ qs.length → qs.length ≤ 8 → (∀ q ∈ qs, ChOk q) → (allLots qs.length).filter (heavier qs) ≠ [] → (∀ l ∈ (allLots qs.length).filter (heavier qs), l ≠ []) → Rheavy K aF aC aR [chD K aC aR qs] (famD K aF qs.length (heavyF qs))
theorem fn_heavy (B : Bi mg) (ga : GF P w K mg base 3 "all_lots" (Pr (Rall_lots K))) (ln : OpF P w K mg base 1 aC "__len__" (Pr (Rlen K aC aR))) (gh : GF P w K mg base 8 "is_heavier" (Pr (Ris_heavier K aC aR))) (m : MF P w K mg base 4 "Family" (Pr (RFamily K aF))) (Df : DfG K mg "heavy" (top 56)) : GF P w K mg base 9 "heavy" (Pr (Rheavy K aF aC aR)) :=
  gf_of Df sc_heavy (fun _ _ h => by cases h; rfl) (fun _ _ _ _ _ _ us h => match us, h with | [_], _ => rfl) (fun _ _ _ _ _ _ _ hr => rd_heavy B ga ln gh m hr) fun xs z h => by
    cases h with
    | @mk qs h1 h8 h2 h3 h4 =>
      have hz := allLots_len8 h8
      have hb : ∀ l ∈ allLots qs.length, Below qs.length l ∧ l.length ≤ 8 := fun l hl => by
        have := allLots_mem l hl
        exact ⟨⟨by omega, this.2⟩, by omega⟩
      refine (sr_seq (sb_own (eo_LI (allLots qs.length) (fun l => lotD K l) (heavier qs) (ed_call (ea_cons (ed_cb (ea_cons (ed_var rfl) ea_nil) (cd_lenO .mk (by omega))) ea_nil) (.mk h1 h8)) (by omega) (by decide) rfl fun a ha => (et_B (ed_call (ea_cons (ed_var rfl) (ea_cons (ed_var rfl) ea_nil)) (.mk h1 h8 h2 (hb a ha).1 (hb a ha).2)))))
    (sr_keep 1 rfl (sr_ret (ed_call (ea_cons (ed_cb (ea_cons (ed_var rfl) ea_nil) (cd_lenO .mk (by omega))) (ea_starL (ed_var rfl) ea_nil)) (famR (ls := (allLots qs.length).filter (heavier qs)) h1 h8 h3 ?_ ?_)))))
      · intro l hl
        exact ⟨h4 l hl, (hb l (List.mem_filter.mp hl).1).1⟩
      · exact Nat.lt_of_le_of_lt (List.length_filter_le _ _) (by omega)
inductive Rcheck_meeting (K : PySem.W.Frag) (aF : Addr) : List D → D → Prop
  | mk {n : Nat} {a b : List (List Int)} : meetsF a b = true → (∀ m ∈ a, m.length < 1000) → Rcheck_meeting K aF [di (n : Int), famD K aF n a, famD K aF n b] dn
theorem fn_check_meeting (B : Bi mg) (kf : KFam K mg aF) (g : GF P w K mg base 1 "meet" (Pr (Rmeet K))) (Df : DfG K mg "check_meeting" (top 37)) : GF P w K mg base 2 "check_meeting" (Pr (Rcheck_meeting K aF)) :=
  gf_ofN Df sc_check_meeting (fun _ _ h => by cases h; rfl) (fun _ _ _ _ _ _ us h => match us, h with | [_, _, _], _ => rfl) (fun _ _ _ _ _ _ _ hr => rd_check_meeting B g hr) fun xs z h => by
    cases h with
    | @mk n a b h1 h2 =>
      refine ⟨rfl, [.d (di n), .d (famD K aF n a), .d (famD K aF n b), .no, .no], (sb_seq (sb_not (et_is (et_or (et_test (ed_op (ed_fld (ed_var rfl) kf.cl kf.copies rfl) (ed_var rfl) od_nei)) fun _ => (et_test (ed_op (ed_fld (ed_var rfl) kf.cl kf.copies rfl) (ed_var rfl) od_nei))) ?_))
    (sb_forT a (fun l => lotD K l) (fun i => [.d (di n), .d (famD K aF n a), .d (famD K aF n b), .no, .no]) (ed_fld (ed_var rfl) kf.cl kf.lots rfl) (.eq (.eq (.eq (.no (.no .nil))))) _ (fun i x hx => tj_name) fun i x hx => sb_fg (sb_forT b (fun l => lotD K l) (fun j => [.d (di n), .d (famD K aF n a), .d (famD K aF n b), .d (lotD K x), .no]) (ed_fld (ed_var rfl) kf.cl kf.lots rfl) (.eq (.eq (.eq (.eq (.no .nil))))) _ (fun j y hy => tj_name) fun j y hy => sb_fg (sb_not (et_is (et_not (et_B (ed_call (ea_cons (ed_var rfl) (ea_cons (ed_var rfl) ea_nil)) (.mk (h2 x (List.mem_of_getElem? hx)))))) ?_)) (.eq (.eq (.eq (.eq (.no .nil)))))) (.eq (.eq (.eq (.no (.no .nil)))))))⟩
      · simp
      · unfold meetsF at h1
        have h3 := List.all_eq_true.mp (List.all_eq_true.mp h1 x (List.mem_of_getElem? hx)) y (List.mem_of_getElem? hy)
        rw [h3]
        rfl
end
end Kb
end
section
/-! M8: what the law's own defs compute. -/
namespace M
def ratOf (p : Int × Int) : Rat := Rat.divInt p.1 p.2
def has (c : Int) (i : Nat) : Bool := decide (c / 2 ^ i % 2 = 1)
def lLot (n : Nat) (c : Int) : List Int := ((List.range n).filter (has c)).map fun (i : Nat) => (i : Int)
def lFac (raw : List (Int × Int)) (c : Int) (i : Nat) : Int := if has c i = true then (raw.getD i (0, 1)).1 else (raw.getD i (0, 1)).2 - (raw.getD i (0, 1)).1
def lAlone (raw : List (Int × Int)) (c : Int) : Nat → Int
  | 0 => 1
  | i + 1 => lAlone raw c i * lFac raw c i
def lUnder (raw : List (Int × Int)) : Int := raw.foldl (fun a p => a * p.2) 1
def ofSize (n : Nat) (k : Nat) : List Int := ((List.range (2 ^ n)).filter fun (c : Nat) => decide (((lLot n c).length : Int) = (n : Int) - 1 - k)).map fun (c : Nat) => (c : Int)
def bySize (n : Nat) : Nat → List Int
  | 0 => []
  | k + 1 => bySize n k ++ ofSize n k
def above (n : Nat) (c : Int) : List Int := ((List.range n).filter fun i => !has c i).map fun i => c + 2 ^ i
def grown (n : Nat) (found : List (List Int)) (c : Int) : List (List Int) := found ++ (found.filter fun row => (above n c).all fun o => decide (o ∈ row)).map fun row => row ++ [c]
def families (n : Nat) : List (List Int) := (bySize n (n - 1)).foldl (grown n) [[2 ^ n - 1]]
def lDual (n : Nat) (row : List Int) : List Int := ((List.range (2 ^ n)).filter fun (c : Nat) => !decide ((2 ^ n - 1 - (c : Int)) ∈ row)).map fun (c : Nat) => (c : Int)
def lFam (n : Nat) (row : List Int) : List (List Int) := row.foldl (fun m c => mkFam n (m ++ mkFam n [lLot n c])) (mkFam n [up n])
def lTable (raw : List (Int × Int)) : List Int := (List.range (2 ^ raw.length)).map fun (c : Nat) => lAlone raw c raw.length
def lValue (tb : List Int) (n : Nat) (sh : Int × Int) (row : List Int) : Int := sh.1 * ((lDual n row).map fun c => tb.getD c.toNat 0).sum + (sh.2 - sh.1) * (row.map fun c => tb.getD c.toNat 0).sum
def srt (row : List Int) : List Int := ((List.range 16).filter fun (c : Nat) => decide ((c : Int) ∈ row)).map fun (c : Nat) => (c : Int)
def bestStep (val : List Int → Int) (acc : Option Int × List (List Int)) (row : List Int) : Option Int × List (List Int) :=
  match acc.1 with
  | none => (some (val row), [srt row])
  | some b => if b < val row then (some (val row), [srt row]) else if val row = b then (some b, acc.2 ++ [srt row]) else acc
def bests (val : List Int → Int) (rows : List (List Int)) : Option Int × List (List Int) := rows.foldl (bestStep val) (none, [])
/-- a row of codes below 16 -/
structure RowOk (n : Nat) (row : List Int) : Prop where
  nd : row.Nodup
  rg : ∀ c ∈ row, 0 ≤ c ∧ c < 2 ^ n
theorem srt_lt (row : List Int) : (srt row).Pairwise (· < ·) := by
  unfold srt
  refine List.pairwise_map.mpr (List.Pairwise.imp ?_ (List.pairwise_lt_range.filter _))
  intro a b h
  omega
theorem mem_srt {row : List Int} {c : Int} : c ∈ srt row ↔ c ∈ row ∧ 0 ≤ c ∧ c < 16 := by
  unfold srt
  simp only [List.mem_map, List.mem_filter, List.mem_range, decide_eq_true_eq]
  constructor
  · rintro ⟨a, ⟨h1, h2⟩, rfl⟩
    exact ⟨h2, by omega, by omega⟩
  · rintro ⟨h1, h2, h3⟩
    exact ⟨c.toNat, ⟨by omega, by rw [Int.toNat_of_nonneg h2]; exact h1⟩, Int.toNat_of_nonneg h2⟩
theorem RowOk.lt {n : Nat} {row : List Int} (h : RowOk n row) (hn : n ≤ 4) {c : Int} (hc : c ∈ row) : 0 ≤ c ∧ c < 16 := by
  have h1 := h.rg c hc
  have h2 : (2 : Int) ^ n ≤ 16 := by
    have : n = 0 ∨ n = 1 ∨ n = 2 ∨ n = 3 ∨ n = 4 := by omega
    rcases this with rfl | rfl | rfl | rfl | rfl <;> decide
  omega
theorem srt_perm {n : Nat} {row : List Int} (h : RowOk n row) (hn : n ≤ 4) : row.Perm (srt row) :=
  perm_of_mem h.nd (srt_lt row) fun c => ⟨fun hc => mem_srt.mpr ⟨hc, h.lt hn hc⟩, fun hc => (mem_srt.mp hc).1⟩
theorem row_len {n : Nat} {row : List Int} (h : RowOk n row) (hn : n ≤ 4) : row.length ≤ 16 := by
  rw [(srt_perm h hn).length_eq]
  unfold srt
  rw [List.length_map]
  exact Nat.le_trans (List.length_filter_le _ _) (by simp)
theorem srt_sorted {n : Nat} {row : List Int} (h : RowOk n row) (hn : n ≤ 4) : ∀ m : List Int, m.Perm row → m.Pairwise (· ≤ ·) → m = srt row := fun m p s => sorted_eq s (srt_lt row) (p.trans (srt_perm h hn))
/-- the rows, for few copies: seen by reckoning -/
theorem fam_ok : ∀ n : Fin 5, (families n.val).length ≤ 166 ∧ ∀ row ∈ families n.val, row.Nodup ∧ row ≠ [] ∧ ∀ c ∈ row, 0 ≤ c ∧ c < 2 ^ n.val := by decide +kernel
end M
end
section
/-! Kd9: the law's own defs: ratios, powers, lots by code. -/
namespace Kb
open PySem PySem.Spec PyProof.Rows L2 M
section
variable {P : Program} {w : World} {K : PySem.W.Frag} {mg : Str → Option Value} {base : Heap} {aR aC aF : Addr}
inductive Rlaw_ratios (K : PySem.W.Frag) (aR : Addr) : List D → D → Prop
  | mk {raw : List (Int × Int)} : raw.length < 1000 → (∀ p ∈ raw, 0 < p.2 ∧ p.2.natAbs < 2 ^ 8000) → Rlaw_ratios K aR [rawD K raw] (dl (raw.map fun p => ratD aR (ratOf p)))
theorem fn_law_ratios (B : Bi mg) (m : MF P w K mg base 3 "Ratio" (Pr (RRatio aR))) (Df : DfG K mg "_law_ratios" (top 65)) : GF P w K mg base 5 "_law_ratios" (Pr (Rlaw_ratios K aR)) :=
  gf_of Df sc_law_ratios (fun _ _ h => by cases h; rfl) (fun _ _ _ _ _ _ us h => match us, h with | [_], _ => rfl) (fun _ _ _ _ _ _ _ hr => rd_law_ratios B m hr) fun xs z h => by
    cases h with
    | @mk raw h1 h2 =>
      exact (sr_ret (EO.ed (eo_L0 raw (fun p => prD K p) (fun p => ratD aR (ratOf p)) (ed_var rfl) (by omega) (by decide) fun a ha => (ed_call (ea_cons (ed_op (ed_var rfl) ed_c (od_ixT (i := 0) rfl)) (ea_cons (ed_op (ed_var rfl) ed_c (od_ixT (i := 1) rfl)) ea_nil)) (.mk2 (h2 a ha).1 (h2 a ha).2)))))
inductive Rlaw_made (K : PySem.W.Frag) (aC aR : Addr) : List D → D → Prop
  | mk {raw : List (Int × Int)} : 1 ≤ raw.length → raw.length ≤ 8 → (∀ p ∈ raw, 0 < p.2 ∧ p.2.natAbs < 2 ^ 8000 ∧ ChOk (ratOf p)) → Rlaw_made K aC aR [rawD K raw] (chD K aC aR (raw.map ratOf))
theorem fn_law_made (B : Bi mg) (gr : GF P w K mg base 5 "_law_ratios" (Pr (Rlaw_ratios K aR))) (m : MF P w K mg base 8 "Chances" (Pr (RChances K aC aR))) (oa : OpF P w K mg base 10 aC "__add__" (Pr (Rcadd K aC aR))) (Df : DfG K mg "_law_made" (top 66)) : GF P w K mg base 11 "_law_made" (Pr (Rlaw_made K aC aR)) :=
  gf_of Df sc_law_made (fun _ _ h => by cases h; rfl) (fun _ _ _ _ _ _ us h => match us, h with | [_], _ => rfl) (fun _ _ _ _ _ _ _ hr => rd_law_made B gr m oa hr) fun xs z h => by
    cases h with
    | @mk raw h1 h8 h2 =>
      obtain ⟨p, r, rfl⟩ : ∃ p r, raw = p :: r := match raw, h1 with | p :: r, _ => ⟨p, r, rfl⟩
      have ho : ∀ q ∈ (p :: r).map ratOf, ChOk q := fun q hq => by
        obtain ⟨a, ha, rfl⟩ := List.mem_map.mp hq
        exact (h2 a ha).2.2
      have hd : ∀ a ∈ r, ChOk (ratOf a) := fun a ha => (h2 a (List.mem_cons_of_mem _ ha)).2.2
      have hl : r.length + 1 ≤ 8 := h8
      let ch := fun (i : Nat) => chD K aC aR (ratOf p :: (r.take i).map ratOf)
      let rl := dl ((p :: r).map fun p => ratD aR (ratOf p))
      refine (sr_seq (sb_asg (ed_call (ea_cons (ed_var rfl) ea_nil) (.mk (by omega) fun a ha => ⟨(h2 a ha).1, (h2 a ha).2.1⟩)))
    (sr_seq (sb_asg (ed_call (ea_cons (ed_op (ed_var rfl) ed_c (od_ixL (i := 0) rfl)) ea_nil) (show RChances K aC aR ([ratOf p].map fun q => ratD aR q) _ from .mk (by simp) (by simp) fun q hq => by
        rw [List.mem_singleton] at hq
        rw [hq]
        exact ho _ (List.mem_cons_self ..))))
    (sr_seq (env' := [.d (rawD K (p :: r)), .d rl, .d (ch r.length), .no]) (sb_forL r (fun a => ratD aR (ratOf a)) (fun i => [.d (rawD K (p :: r)), .d rl, .d (ch i), .no]) (ed_is (EO.ed (eo_sl1 (xs := (p :: r).map fun p => ratD aR (ratOf p)) (ed_var rfl))) rfl) (.eq (.eq (.eq (.eq .nil)))) _ (fun i a ha => tj_name) fun i a ha => sb_fg (sb_asg (ed_op (ed_var rfl) (ed_call (ea_cons (ed_var rfl) ea_nil) (show RChances K aC aR ([ratOf a].map fun q => ratD aR q) _ from .mk (by simp) (by simp) fun q hq => ?_)) (od_own (.mk ?_ ?_ ?_)))) ?_)
    (sr_ret (ed_is (ed_var rfl) ?_)))))
      · rw [List.mem_singleton] at hq
        rw [hq]
        exact hd a (List.mem_of_getElem? ha)
      · simp
      · have hi : i < r.length := (List.getElem?_eq_some_iff.mp ha).1
        simp
        omega
      · intro q hq
        rcases List.mem_append.mp hq with hq | hq
        · refine ho q ?_
          rcases List.mem_cons.mp hq with rfl | hq
          · exact List.mem_cons_self ..
          · exact List.mem_cons_of_mem _ (by
              obtain ⟨b, hb, rfl⟩ := List.mem_map.mp hq
              exact List.mem_map_of_mem (List.mem_of_mem_take hb))
        · rw [List.mem_singleton] at hq
          rw [hq]
          exact hd a (List.mem_of_getElem? ha)
      · have e : ch (i + 1) = chD K aC aR ((ratOf p :: (r.take i).map ratOf) ++ [ratOf a]) := by
          show chD K aC aR _ = _
          rw [List.take_add_one, ha, List.map_append]
          rfl
        show Fg _ [_, _, .d (ch (i + 1)), _]
        rw [e]
        exact .eq (.eq (.eq (.no .nil)))
      · show chD K aC aR _ = _
        rw [List.take_length]
        rfl
inductive Rlaw_power : List D → D → Prop
  | mk {n : Nat} : n ≤ 64 → Rlaw_power [di (n : Int)] (di (2 ^ n))
theorem fn_law_power (B : Bi mg) (Df : DfG K mg "_law_power" (top 67)) : GF P w K mg base 1 "_law_power" (Pr Rlaw_power) :=
  gf_of Df sc_law_power (fun _ _ h => by cases h; rfl) (fun _ _ _ _ _ _ us h => match us, h with | [_], _ => rfl) (fun _ _ _ _ _ _ _ hr => rd_law_power B hr) fun xs z h => by
    cases h with
    | @mk n hn =>
      refine (sr_seq (sb_asg ed_c)
    (sr_seq (env' := [.d (di (n : Int)), .d (di (2 ^ n)), .no]) (sb_forR (n := n) (fun i => [.d (di (n : Int)), .d (di (2 ^ i)), .no]) (rj1 (ea_cons (ed_var rfl) ea_nil) (by omega)) (.eq (.eq (.eq .nil))) _ (fun i hi => tj_name) fun i hi => sb_fg (sb_asg (ed_op (ed_var rfl) ed_c (od_iC ?_))) ?_)
    (sr_ret (ed_var rfl))))
      · refine cmul_of (a := 65) (b := 2) ?_ (by decide) (by decide) (by decide)
        rw [show ((2 : Int) ^ i) = ((2 ^ i : Nat) : Int) from by simp]
        exact Nat.pow_lt_pow_right (by decide) (by omega)
      · rw [← Int.pow_succ]
        exact .eq (.eq (.no .nil))
inductive Rlaw_has : List D → D → Prop
  | mk {c : Int} {i : Nat} : i ≤ 64 → Rlaw_has [di c, di (i : Int)] (db (has c i))
theorem two_pow_pos (i : Nat) : (0 : Int) < 2 ^ i := by
  rw [show ((2 : Int) ^ i) = ((2 ^ i : Nat) : Int) from by simp]
  have := Nat.two_pow_pos i
  omega
theorem fn_law_has (B : Bi mg) (g : GF P w K mg base 1 "_law_power" (Pr Rlaw_power)) (Df : DfG K mg "_law_has" (top 68)) : GF P w K mg base 2 "_law_has" (Pr Rlaw_has) :=
  gf_of Df sc_law_has (fun _ _ h => by cases h; rfl) (fun _ _ _ _ _ _ us h => match us, h with | [_, _], _ => rfl) (fun _ _ _ _ _ _ _ hr => rd_law_has B g hr) fun xs z h => by
    cases h with
    | @mk c i hi =>
      refine (sr_ret (ed_op (ed_op (ed_op (ed_var rfl) (ed_call (ea_cons (ed_var rfl) ea_nil) (.mk hi)) (od_iC ?_)) ed_c (od_iC (by decide))) ed_c od_eqi))
      refine wide_div (b := 65) (two_pow_pos i) ?_ (by decide) (by decide)
      rw [show ((2 : Int) ^ i) = ((2 ^ i : Nat) : Int) from by simp]
      exact Nat.pow_lt_pow_right (by decide) (by omega)
inductive Rlaw_lot (K : PySem.W.Frag) : List D → D → Prop
  | mk {n : Nat} {c : Int} : n ≤ 64 → Rlaw_lot K [di (n : Int), di c] (lotD K (lLot n c))
theorem fn_law_lot (B : Bi mg) (g : GF P w K mg base 2 "_law_has" (Pr Rlaw_has)) (Df : DfG K mg "_law_lot" (top 69)) : GF P w K mg base 3 "_law_lot" (Pr (Rlaw_lot K)) :=
  gf_of Df sc_law_lot (fun _ _ h => by cases h; rfl) (fun _ _ _ _ _ _ us h => match us, h with | [_, _], _ => rfl) (fun _ _ _ _ _ _ _ hr => rd_law_lot B g hr) fun xs z h => by
    cases h with
    | @mk n c hn =>
      exact (sr_ret (ed_tupL (EO.ed (eo_RI (n := n) (has c) (ea_cons (ed_var rfl) ea_nil) (by omega) (by decide) rfl fun i hi => (et_B (ed_call (ea_cons (ed_var rfl) (ea_cons (ed_var rfl) ea_nil)) (.mk (by omega))))))))
inductive Rlaw_under (K : PySem.W.Frag) : List D → D → Prop
  | mk {raw : List (Int × Int)} : raw.length ≤ 8 → (∀ p ∈ raw, p.2.natAbs < 2 ^ 4) → Rlaw_under K [rawD K raw] (di (lUnder raw))
theorem under_bits : ∀ (raw : List (Int × Int)) (a : Int) (k : Nat), a.natAbs < 2 ^ k → (∀ p ∈ raw, p.2.natAbs < 2 ^ 4) → (raw.foldl (fun a p => a * p.2) a).natAbs < 2 ^ (k + 4 * raw.length)
  | [], a, k, h, _ => h
  | p :: r, a, k, h, hr => by
    have := under_bits r (a * p.2) (k + 4) (mul_bits h (hr p (List.mem_cons_self ..))) fun q hq => hr q (List.mem_cons_of_mem _ hq)
    rw [List.length_cons, show k + 4 * (r.length + 1) = k + 4 + 4 * r.length by omega]
    exact this
theorem fn_law_under (B : Bi mg) (Df : DfG K mg "_law_under" (top 71)) : GF P w K mg base 1 "_law_under" (Pr (Rlaw_under K)) :=
  gf_of Df sc_law_under (fun _ _ h => by cases h; rfl) (fun _ _ _ _ _ _ us h => match us, h with | [_], _ => rfl) (fun _ _ _ _ _ _ _ hr => rd_law_under B hr) fun xs z h => by
    cases h with
    | @mk raw h1 h2 =>
      refine (sr_seq (sb_asg ed_c)
    (sr_seq (env' := [.d (rawD K raw), .d (di (lUnder raw)), .no, .no]) (sb_eq (sb_forL raw (fun p => prD K p) (fun i => [.d (rawD K raw), .d (di (lUnder (raw.take i))), .no, .no]) (ed_var rfl) (.eq (.eq (.eq (.eq .nil)))) _ (fun i a ha => tj_tup2) fun i a ha => sb_fg (sb_asg (ed_op (ed_var rfl) (ed_var rfl) (od_iC ?_))) ?_) (by rw [List.take_length]))
    (sr_ret (ed_var rfl))))
      · refine cmul_of (a := 1 + 4 * (raw.take i).length) (b := 4) (under_bits (raw.take i) 1 1 (by decide) fun q hq => h2 q (List.mem_of_mem_take hq)) (h2 a (List.mem_of_getElem? ha)) ?_ (by decide)
        rw [List.length_take]
        omega
      · have e : lUnder (raw.take (i + 1)) = lUnder (raw.take i) * a.2 := by
          unfold lUnder
          rw [List.take_add_one, ha, List.foldl_append]
          rfl
        rw [e]
        exact .eq (.eq (.no (.no .nil)))
inductive Rlaw_is (aR : Addr) : List D → D → Prop
  | mk {q : Rat} {o u : Int} : Bd 2000 q → o.natAbs < 2 ^ 2000 → u.natAbs < 2 ^ 2000 → Rlaw_is aR [ratD aR q, di o, di u] (db (decide (q.num * u = o * q.den)))
theorem fn_law_is (B : Bi mg) (kr : KRat K mg aR) (Df : DfG K mg "_law_is" (top 72)) : GF P w K mg base 1 "_law_is" (Pr (Rlaw_is aR)) :=
  gf_of Df sc_law_is (fun _ _ h => by cases h; rfl) (fun _ _ _ _ _ _ us h => match us, h with | [_, _, _], _ => rfl) (fun _ _ _ _ _ _ _ hr => rd_law_is B kr.nm hr) fun xs z h => by
    cases h with
    | @mk q o u h1 h2 h3 =>
      exact (sr_ret (ed_is (ed_and (ed_cb (ea_cons (ed_var rfl) (ea_cons ed_c ea_nil)) (cd_isiC kr.isC)) fun _ => (ed_op (ed_op (ed_fld (ed_var rfl) kr.cl kr.over rfl) (ed_var rfl) (od_iC (cmul_of h1.1 h3 (by decide) (by decide)))) (ed_op (ed_var rfl) (ed_fld (ed_var rfl) kr.cl kr.under rfl) (od_iC (cmul_of h2 h1.d (by decide) (by decide)))) od_eqi)) rfl))
end
end Kb
end
section
/-! Kd10: the law's families, tables, bests. -/
namespace Kb
open PySem PySem.Spec PyProof.Rows L2 M
section
variable {P : Program} {w : World} {K : PySem.W.Frag} {mg : Str → Option Value} {base : Heap} {aR aC aF : Addr}
theorem pow_nat (n : Nat) : ((2 : Int) ^ n) = ((2 ^ n : Nat) : Int) := by simp
theorem pow_le16 {n : Nat} (hn : n ≤ 4) : 2 ^ n ≤ 16 := Nat.pow_le_pow_right (n := 2) (by decide) hn
/-- what of the chances is asked: at most four, under at most 15 -/
structure RawOk (raw : List (Int × Int)) : Prop where
  n1 : 1 ≤ raw.length
  n4 : raw.length ≤ 4
  rg : ∀ p ∈ raw, 0 ≤ p.1 ∧ p.1 < p.2 ∧ p.2 < 16 ∧ ChOk (ratOf p)
theorem RawOk.at_ {raw : List (Int × Int)} (h : RawOk raw) {i : Nat} (hi : i < raw.length) : raw[i]? = some (raw.getD i (0, 1)) ∧ 0 ≤ (raw.getD i (0, 1)).1 ∧ (raw.getD i (0, 1)).1 < (raw.getD i (0, 1)).2 ∧ (raw.getD i (0, 1)).2 < 16 := by
  have e : raw[i]? = some (raw.getD i (0, 1)) := by rw [List.getD_eq_getElem?_getD, List.getElem?_eq_getElem hi]; rfl
  have := h.rg _ (List.mem_of_getElem? e)
  exact ⟨e, this.1, this.2.1, this.2.2.1⟩
theorem alone_bits {raw : List (Int × Int)} (h : RawOk raw) (c : Int) : ∀ i, i ≤ raw.length → (lAlone raw c i).natAbs < 2 ^ (1 + 4 * i) ∧ 0 ≤ lAlone raw c i
  | 0, _ => by
    unfold lAlone
    decide
  | i + 1, hi => by
    have h1 := alone_bits h c i (by omega)
    have h2 := h.at_ (i := i) (by omega)
    have h3 : (lFac raw c i).natAbs < 2 ^ 4 ∧ 0 ≤ lFac raw c i := by
      unfold lFac
      split <;> constructor <;> omega
    rw [lAlone, show 1 + 4 * (i + 1) = 1 + 4 * i + 4 by omega]
    exact ⟨mul_bits h1.1 h3.1, Int.mul_nonneg h1.2 h3.2⟩
inductive Rlaw_alone (K : PySem.W.Frag) : List D → D → Prop
  | mk {raw : List (Int × Int)} {c : Int} : RawOk raw → Rlaw_alone K [rawD K raw, di c] (di (lAlone raw c raw.length))
theorem fn_law_alone (B : Bi mg) (g : GF P w K mg base 2 "_law_has" (Pr Rlaw_has)) (Df : DfG K mg "_law_alone" (top 70)) : GF P w K mg base 3 "_law_alone" (Pr (Rlaw_alone K)) :=
  gf_of Df sc_law_alone (fun _ _ h => by cases h; rfl) (fun _ _ _ _ _ _ us h => match us, h with | [_, _], _ => rfl) (fun _ _ _ _ _ _ _ hr => rd_law_alone B g hr) fun xs z h => by
    cases h with
    | @mk raw c h =>
      have n4 := h.n4
      refine (sr_seq (sb_asg ed_c)
    (sr_seq (env' := [.d (rawD K raw), .d (di c), .d (di (lAlone raw c raw.length)), .no, .no, .no]) (sb_forR (n := raw.length) (fun i => [.d (rawD K raw), .d (di c), .d (di (lAlone raw c i)), .no, .no, .no]) (rj1 (ea_cons (ed_is (ed_cb (ea_cons (ed_var rfl) ea_nil) cd_lenL) (by rw [List.length_map])) ea_nil) (by omega)) (.eq (.eq (.eq (.eq (.eq (.eq .nil)))))) _ (fun i hi => tj_name) fun i hi => sb_fg (sb_seq (sb_asgT (ed_op (ed_var rfl) (ed_var rfl) (od_ixL (x := prD K (raw.getD i (0, 1))) ?_)) tj_tup2) (sb_asg (ed_op (ed_var rfl) (ed_op (ed_lst (ea_cons (ed_op (ed_var rfl) (ed_var rfl) od_i0) (ea_cons (ed_var rfl) ea_nil)) rfl) (ed_is (ed_cb (ea_cons (ed_call (ea_cons (ed_var rfl) (ea_cons (ed_var rfl) ea_nil)) (.mk (by omega))) ea_nil) cd_intB) (show _ = di (((if has c i = true then 1 else 0 : Nat)) : Int) from ?_)) (od_ixL (x := di (lFac raw c i)) ?_)) (od_iC ?_)))) ?_)
    (sr_ret (ed_var rfl))))
      · rw [List.getElem?_map, (h.at_ hi).1]
        rfl
      · cases has c i <;> rfl
      · unfold lFac
        cases has c i <;> rfl
      · have h2 := h.at_ hi
        refine cmul_of (a := 1 + 4 * i) (b := 4) (alone_bits h c i (by omega)).1 ?_ (by omega) (by decide)
        unfold lFac
        split <;> omega
      · exact .eq (.eq (.eq (.no (.no (.no .nil)))))
inductive Rlaw_codes_by_size : List D → D → Prop
  | mk {n : Nat} : 1 ≤ n → n ≤ 4 → Rlaw_codes_by_size [di (n : Int)] (intsL (bySize n (n - 1)))
theorem ofSize_len {n : Nat} (hn : n ≤ 4) (k : Nat) : (ofSize n k).length ≤ 16 := by
  unfold ofSize
  rw [List.length_map]
  exact Nat.le_trans (List.length_filter_le _ _) (by rw [List.length_range]; exact pow_le16 hn)
theorem bySize_len {n : Nat} (hn : n ≤ 4) : ∀ k, (bySize n k).length ≤ 16 * k
  | 0 => by simp [bySize]
  | k + 1 => by
    rw [bySize, List.length_append]
    have := bySize_len hn k
    have := ofSize_len hn k
    omega
theorem fn_law_codes_by_size (B : Bi mg) (gp : GF P w K mg base 1 "_law_power" (Pr Rlaw_power)) (gl : GF P w K mg base 3 "_law_lot" (Pr (Rlaw_lot K))) (Df : DfG K mg "_law_codes_by_size" (top 73)) : GF P w K mg base 4 "_law_codes_by_size" (Pr Rlaw_codes_by_size) :=
  gf_of Df sc_law_codes_by_size (fun _ _ h => by cases h; rfl) (fun _ _ _ _ _ _ us h => match us, h with | [_], _ => rfl) (fun _ _ _ _ _ _ _ hr => rd_law_codes_by_size B gp gl hr) fun xs z h => by
    cases h with
    | @mk n h1 h4 =>
      have hp := pow_le16 h4
      refine (sr_seq (sb_asg (ed_lst ea_nil rfl))
    (sr_seq (env' := [.d (di (n : Int)), .d (intsL (bySize n (n - 1))), .no, .no]) (sb_forC (n := n - 1) (lo := (n : Int) - 1) (fun i => [.d (di (n : Int)), .d (intsL (bySize n i)), .no, .no]) (rj3 (hi := 0) (ea_cons (ed_op (ed_var rfl) ed_c od_i0) (ea_cons ed_c (ea_cons (ed_un ed_c ud_neg) ea_nil))) (by omega) (by omega)) (.eq (.eq (.eq (.eq .nil)))) _ (fun i hi => tj_name) fun i hi => sb_fg (sb_asg (ed_op (ed_var rfl) (EO.ed (eo_RI (n := 2 ^ n) (fun c => decide (((lLot n (c : Int)).length : Int) = (n : Int) - 1 - i)) (ea_cons (ed_is (ed_call (ea_cons (ed_var rfl) ea_nil) (.mk (by omega))) (by rw [pow_nat])) ea_nil) (by omega) (by decide) rfl fun i hi => (et_test (ed_is (ed_op (ed_cb (ea_cons (ed_call (ea_cons (ed_var rfl) (ea_cons (ed_var rfl) ea_nil)) (.mk (by omega))) ea_nil) cd_lenT) (ed_var rfl) od_eqi) (by rw [List.length_map]))))) (od_cat ?_))) ?_)
    (sr_ret (ed_var rfl))))
      · have a := bySize_len h4 i
        have b := ofSize_len h4 i
        unfold ofSize at b
        rw [List.length_map, List.length_map]
        omega
      · rw [← List.map_append]
        exact .eq (.eq (.no (.no .nil)))
end
end Kb
end
section
/-! Kd11: the law's families, values, bests. -/
namespace Kb
open PySem PySem.Spec PyProof.Rows L2 M
section
variable {P : Program} {w : World} {K : PySem.W.Frag} {mg : Str → Option Value} {base : Heap} {aR aC aF : Addr}
abbrev famTo (n k : Nat) : List (List Int) := ((bySize n (n - 1)).take k).foldl (grown n) [[2 ^ n - 1]]
theorem famTo_ok : ∀ n : Fin 5, ∀ k : Fin 20, (famTo n.val k.val).length ≤ 166 ∧ ∀ row ∈ famTo n.val k.val, row.length ≤ 20 := by decide +kernel
theorem bySize_few : ∀ n : Fin 5, (bySize n.val (n.val - 1)).length < 16 := by decide +kernel
inductive Rlaw_families : List D → D → Prop
  | mk {n : Nat} : 1 ≤ n → n ≤ 4 → Rlaw_families [di (n : Int)] (rowsL (families n))
theorem fn_law_families (B : Bi mg) (gp : GF P w K mg base 1 "_law_power" (Pr Rlaw_power)) (gc : GF P w K mg base 4 "_law_codes_by_size" (Pr Rlaw_codes_by_size)) (gh : GF P w K mg base 2 "_law_has" (Pr Rlaw_has)) (Df : DfG K mg "_law_families" (top 74)) : GF P w K mg base 5 "_law_families" (Pr Rlaw_families) :=
  gf_of Df sc_law_families (fun _ _ h => by cases h; rfl) (fun _ _ _ _ _ _ us h => match us, h with | [_], _ => rfl) (fun _ _ _ _ _ _ _ hr => rd_law_families B gp gc gh hr) fun xs z h => by
    cases h with
    | @mk n h1 h4 =>
      have hb := bySize_few ⟨n, by omega⟩
      have hf : ∀ i, i < 20 → (famTo n i).length ≤ 166 ∧ ∀ row ∈ famTo n i, row.length ≤ 20 := fun i hi => famTo_ok ⟨n, by omega⟩ ⟨i, hi⟩
      refine (sr_seq (sb_asg (ed_lst (ea_cons (ed_lst (ea_cons (ed_op (ed_call (ea_cons (ed_var rfl) ea_nil) (.mk (by omega))) ed_c od_i0) ea_nil) rfl) ea_nil) rfl))
    (sr_seq (env' := [.d (di (n : Int)), .d (rowsL (families n)), .no, .no, .no, .no, .no]) (sb_eq (sb_forL (bySize n (n - 1)) (fun c => di c) (fun i => [.d (di (n : Int)), .d (rowsL (famTo n i)), .no, .no, .no, .no, .no]) (ed_call (ea_cons (ed_var rfl) ea_nil) (.mk h1 h4)) (.eq (.eq (.eq (.eq (.eq (.eq (.eq .nil))))))) _ (fun i a ha => tj_name) fun i a ha => sb_fg (sb_seq (sb_asg (ed_is (EO.ed (eo_lcR1 (n := n) (fun i => !has a i) (fun i => di (a + 2 ^ i)) (ea_cons (ed_var rfl) ea_nil) (by omega) (by decide) (fun i hi => (et_not (et_B (ed_call (ea_cons (ed_var rfl) (ea_cons (ed_var rfl) ea_nil)) (.mk (by omega)))))) fun i hi _ => (ed_op (ed_var rfl) (ed_call (ea_cons (ed_var rfl) ea_nil) (.mk (by omega))) od_i0))) (show _ = intsL (above n a) from ?_))) (sb_asg (ed_op (ed_var rfl) (EO.ed (eo_lcL (famTo n i) (fun row => intsL row) (fun row => (above n a).all fun o => decide (o ∈ row)) (fun row => intsL (row ++ [a])) (ed_var rfl) ?_ (by decide) (fun row hrow => (et_B (ed_cb (ea_cons (EO.ed (eo_L0 (above n a) (fun o => di o) (fun o => db (decide (o ∈ row))) (ed_var rfl) ?_ (by decide) fun o ho => (ed_is (ed_op (ed_var rfl) (ed_var rfl) od_inL) rfl))) ea_nil) cd_allF))) fun row hrow _ => (ed_is (ed_op (ed_var rfl) (ed_lst (ea_cons (ed_var rfl) ea_nil) rfl) (od_cat ?_)) ?_))) (od_cat ?_)))) ?_) (by unfold famTo families; rw [List.take_length]))
    (sr_ret (ed_var rfl))))
      all_goals have hi : i < 16 := Nat.lt_trans (List.getElem?_eq_some_iff.mp ha).1 hb
      · show dl _ = dl _
        rw [above, List.map_map]
        rfl
      · have := (hf i (by omega)).1
        omega
      · unfold above
        rw [List.length_map]
        have := List.length_filter_le (fun i => !has a i) (List.range n)
        rw [List.length_range] at this
        omega
      · have := (hf i (by omega)).2 row hrow
        rw [List.length_map, List.length_cons, List.length_nil]
        omega
      · show dl _ = dl _
        rw [List.map_append]
        rfl
      · have a1 := (hf i (by omega)).1
        have a2 := List.length_filter_le (fun row => (above n a).all fun o => decide (o ∈ row)) (famTo n i)
        rw [List.length_map, List.length_map]
        omega
      · have e : famTo n (i + 1) = famTo n i ++ ((famTo n i).filter fun row => (above n a).all fun o => decide (o ∈ row)).map fun row => row ++ [a] := by
          unfold famTo
          rw [List.take_add_one, ha, List.foldl_append]
          rfl
        have e2 : rowsL (famTo n (i + 1)) = dl ((famTo n i).map (fun l => intsL l) ++ ((famTo n i).filter fun row => (above n a).all fun o => decide (o ∈ row)).map fun row => intsL (row ++ [a])) := by
          rw [e]
          show dl _ = dl _
          rw [List.map_append, List.map_map]
          rfl
        show Fg _ [_, .d (rowsL (famTo n (i + 1))), _, _, _, _, _]
        rw [e2]
        exact .eq (.eq (.no (.no (.no (.no (.no .nil))))))
inductive Rlaw_dual : List D → D → Prop
  | mk {n : Nat} {row : List Int} : n ≤ 4 → Rlaw_dual [di (n : Int), intsL row] (intsL (lDual n row))
theorem fn_law_dual (B : Bi mg) (gp : GF P w K mg base 1 "_law_power" (Pr Rlaw_power)) (Df : DfG K mg "_law_dual" (top 75)) : GF P w K mg base 2 "_law_dual" (Pr Rlaw_dual) :=
  gf_of Df sc_law_dual (fun _ _ h => by cases h; rfl) (fun _ _ _ _ _ _ us h => match us, h with | [_, _], _ => rfl) (fun _ _ _ _ _ _ _ hr => rd_law_dual B gp hr) fun xs z h => by
    cases h with
    | @mk n row h4 =>
      have hp := pow_le16 h4
      exact (sr_seq (sb_asg (ed_op (ed_call (ea_cons (ed_var rfl) ea_nil) (.mk (by omega))) ed_c od_i0))
    (sr_ret (EO.ed (eo_RI (n := 2 ^ n) (fun c => !decide ((2 ^ n - 1 - (c : Int)) ∈ row)) (ea_cons (ed_is (ed_op (ed_var rfl) ed_c od_i0) (by rw [pow_nat]; congr 2; omega)) ea_nil) (by omega) (by decide) rfl fun i hi => (et_test (ed_is (ed_op (ed_op (ed_var rfl) (ed_var rfl) od_i0) (ed_var rfl) od_inL) rfl))))))
inductive Rlaw_table (K : PySem.W.Frag) : List D → D → Prop
  | mk {raw : List (Int × Int)} : RawOk raw → Rlaw_table K [rawD K raw] (intsL (lTable raw))
theorem fn_law_table (B : Bi mg) (gp : GF P w K mg base 1 "_law_power" (Pr Rlaw_power)) (ga : GF P w K mg base 3 "_law_alone" (Pr (Rlaw_alone K))) (Df : DfG K mg "_law_table" (top 79)) : GF P w K mg base 4 "_law_table" (Pr (Rlaw_table K)) :=
  gf_of Df sc_law_table (fun _ _ h => by cases h; rfl) (fun _ _ _ _ _ _ us h => match us, h with | [_], _ => rfl) (fun _ _ _ _ _ _ _ hr => rd_law_table B gp ga hr) fun xs z h => by
    cases h with
    | @mk raw h =>
      have n4 := h.n4
      have hp := pow_le16 n4
      exact (sr_ret (ed_is (EO.ed (eo_R0 (n := 2 ^ raw.length) (fun c => di (lAlone raw c raw.length)) (ea_cons (ed_is (ed_call (ea_cons (ed_is (ed_cb (ea_cons (ed_var rfl) ea_nil) cd_lenL) (by rw [List.length_map])) ea_nil) (.mk (n := raw.length) (by omega))) (by rw [pow_nat])) ea_nil) (by omega) (by decide) fun i hi => (ed_call (ea_cons (ed_var rfl) (ea_cons (ed_var rfl) ea_nil)) (.mk h)))) (show dl _ = dl _ by rw [lTable, List.map_map]; rfl)))
end
end Kb
end
section
/-! M9: a family's lots: what it contains. -/
namespace M
theorem hold_iff {l p : List Int} : hold l p = true ↔ ∀ c ∈ p, c ∈ l := by
  unfold hold
  simp [List.all_eq_true]
theorem contains_iff {ls : List (List Int)} {l : List Int} : contains ls l = true ↔ ∃ m ∈ ls, ∀ c ∈ m, c ∈ l := by
  unfold contains
  simp only [List.any_eq_true, hold_iff]
theorem mem_pick {n : Nat} {f : Nat → Bool} {c : Int} : c ∈ pick n f ↔ ∃ i, i < n ∧ f i = true ∧ c = (i : Int) := by
  unfold pick
  simp only [List.mem_map, List.mem_filter, List.mem_range]
  constructor
  · rintro ⟨a, ⟨h1, h2⟩, rfl⟩
    exact ⟨a, h1, h2, rfl⟩
  · rintro ⟨a, h1, h2, rfl⟩
    exact ⟨a, ⟨h1, h2⟩, rfl⟩
theorem norm_is {l : List Int} (h : Norm l) : ∃ f, l = pick 8 f := ⟨_, h.1.symm⟩
theorem sub_len {l o : List Int} (hl : Norm l) (ho : Norm o) (h : ∀ c ∈ o, c ∈ l) (ne : o ≠ l) : o.length < l.length := by
  obtain ⟨f, rfl⟩ := norm_is hl
  obtain ⟨g, rfl⟩ := norm_is ho
  have hgf : ∀ i, i < 8 → g i = true → f i = true := fun i hi hg => by
    obtain ⟨j, _, h2, h3⟩ := mem_pick.mp (h i (mem_pick.mpr ⟨i, hi, hg, rfl⟩))
    have : i = j := by omega
    rw [this]
    exact h2
  have e : (List.range 8).filter g = ((List.range 8).filter f).filter g := by
    rw [List.filter_filter]
    refine List.filter_congr fun i hi => ?_
    have := hgf i (List.mem_range.mp hi)
    cases hg : g i <;> simp_all
  unfold pick at ne ⊢
  rw [List.length_map, List.length_map, e]
  by_cases hx : ∃ x ∈ (List.range 8).filter f, ¬ g x = true
  · exact List.length_filter_lt_length_iff_exists.mpr hx
  · exfalso
    apply ne
    rw [e, List.filter_eq_self.mpr]
    intro a ha
    by_cases hg : g a = true
    · exact hg
    · exact absurd ⟨a, ha, hg⟩ hx
theorem least_below {ls : List (List Int)} (hn : ∀ l ∈ ls, Norm l) : ∀ (k : Nat) (l : List Int), l ∈ ls → l.length ≤ k → ∃ m ∈ leastLots ls, ∀ c ∈ m, c ∈ l
  | k, l, hl, hk => by
    by_cases hx : ∃ o ∈ asc ls, o ≠ l ∧ hold l o = true
    · obtain ⟨o, ho, ne, h⟩ := hx
      have ho' := (mem_asc hn).mp ho
      have h' := hold_iff.mp h
      have lt := sub_len (hn l hl) (hn o ho') h' ne
      match k, hk with
      | 0, hk => omega
      | k + 1, hk =>
        obtain ⟨m, hm, hs⟩ := least_below hn k o ho' (by omega)
        exact ⟨m, hm, fun c hc => h' c (hs c hc)⟩
    · refine ⟨l, List.mem_filter.mpr ⟨(mem_asc hn).mpr hl, ?_⟩, fun c hc => hc⟩
      rw [Bool.not_eq_true', Bool.eq_false_iff]
      intro z
      obtain ⟨o, ho, hz⟩ := List.any_eq_true.mp z
      have hz := Bool.and_eq_true_iff.mp hz
      exact hx ⟨o, ho, by simpa using hz.1, hz.2⟩
theorem norm_lots {n : Nat} (hn : n ≤ 8) (ls : List (List Int)) : ∀ l ∈ ls.map (lotOf n), Norm l := fun l hl => by
  obtain ⟨x, _, rfl⟩ := List.mem_map.mp hl
  exact norm_lotOf hn x
/-- what a family of given lots contains -/
theorem contains_mk {n : Nat} (hn : n ≤ 8) {ls : List (List Int)} {l : List Int} : contains (mkFam n ls) l = true ↔ ∃ m ∈ ls, ∀ c ∈ m, 0 ≤ c → c < n → c ∈ l := by
  rw [contains_iff]
  unfold mkFam
  constructor
  · rintro ⟨m, hm, h⟩
    obtain ⟨x, hx, rfl⟩ := List.mem_map.mp (mem_least (norm_lots hn ls) hm)
    exact ⟨x, hx, fun c hc h0 h1 => h c (mem_lotOf.mpr ⟨hc, h0, h1⟩)⟩
  · rintro ⟨m, hm, h⟩
    obtain ⟨y, hy, hs⟩ := least_below (norm_lots hn ls) _ (lotOf n m) (List.mem_map_of_mem hm) (Nat.le_refl _)
    refine ⟨y, hy, fun c hc => ?_⟩
    obtain ⟨h1, h2, h3⟩ := mem_lotOf.mp (hs c hc)
    exact h c h1 h2 h3
theorem mkFam_ne {n : Nat} (hn : n ≤ 8) {ls : List (List Int)} (h : ls ≠ []) : mkFam n ls ≠ [] := by
  obtain ⟨x, r, rfl⟩ : ∃ x r, ls = x :: r := match ls, h with | x :: r, _ => ⟨x, r, rfl⟩
  obtain ⟨y, hy, _⟩ := least_below (norm_lots hn (x :: r)) _ (lotOf n x) (List.mem_map_of_mem (List.mem_cons_self ..)) (Nat.le_refl _)
  exact List.ne_nil_of_mem hy
theorem mem_mk {n : Nat} (hn : n ≤ 8) {ls : List (List Int)} {m : List Int} (h : m ∈ mkFam n ls) : ∃ x ∈ ls, m = lotOf n x := by
  obtain ⟨x, hx, rfl⟩ := List.mem_map.mp (mem_least (norm_lots hn ls) h)
  exact ⟨x, hx, rfl⟩
theorem lLot_ne : ∀ n : Fin 5, ∀ c : Fin 16, 0 < c.val → c.val < 2 ^ n.val → lLot n.val c.val ≠ [] := by decide +kernel
end M
end
section
/-! Kd12: the law's family of a row, values, bests. -/
namespace M
theorem mkFam_len {n : Nat} (ls : List (List Int)) : (mkFam n ls).length ≤ ls.length := by
  unfold mkFam leastLots
  refine Nat.le_trans (List.length_filter_le _ _) ?_
  unfold asc
  rw [List.length_map]
  have h : (codes (ls.map (lotOf n))).Nodup := (codes_lt _).imp fun h => Int.ne_of_lt h
  have := h.length_le_of_subset (l₂ := (ls.map (lotOf n)).map codeOf) fun c hc => (mem_codes.mp hc).1
  rw [List.length_map, List.length_map] at this
  exact this
theorem sum_bits {B : Nat} : ∀ l : List Int, (∀ x ∈ l, x.natAbs ≤ B) → l.sum.natAbs ≤ l.length * B
  | [], _ => by simp
  | a :: r, h => by
    have h1 := sum_bits r fun x hx => h x (List.mem_cons_of_mem _ hx)
    have h2 := h a (List.mem_cons_self ..)
    rw [List.sum_cons, List.length_cons, Nat.add_mul]
    omega
end M
namespace Kb
open PySem PySem.Spec PyProof.Rows L2 M
section
variable {P : Program} {w : World} {K : PySem.W.Frag} {mg : Str → Option Value} {base : Heap} {aR aC aF : Addr}
theorem mk_ok {n : Nat} (h8 : n ≤ 8) {ls : List (List Int)} (h : ∀ l ∈ ls, LotOk n l) : ∀ l ∈ mkFam n ls, LotOk n l := fun l hl => by
  obtain ⟨x, hx, rfl⟩ := mem_mk h8 hl
  refine ⟨lotOf_ne (h x hx), ?_, fun i hi => ?_⟩
  · have := (norm_lotOf h8 x).len
    omega
  · exact (mem_lotOf.mp hi).2
theorem lLot_ok {n : Nat} (hn : n ≤ 4) {c : Int} (h0 : 0 < c) (h1 : c < 2 ^ n) : LotOk n (lLot n c) := by
  have hp := pow_le16 hn
  rw [pow_nat] at h1
  refine ⟨?_, ?_, fun i hi => ?_⟩
  · have := lLot_ne ⟨n, by omega⟩ ⟨c.toNat, by omega⟩ (show 0 < c.toNat by omega) (show c.toNat < 2 ^ n by omega)
    rw [show ((c.toNat : Nat) : Int) = c from Int.toNat_of_nonneg (by omega)] at this
    exact this
  · unfold lLot
    rw [List.length_map]
    have := List.length_filter_le (has c) (List.range n)
    rw [List.length_range] at this
    omega
  · unfold lLot at hi
    simp at hi
    obtain ⟨a, ⟨ha, _⟩, rfl⟩ := hi
    omega
theorem lFam_ok {n : Nat} (h1 : 1 ≤ n) (hn : n ≤ 4) : ∀ (row : List Int) (m : List (List Int)), m ≠ [] → m.length ≤ 256 → (∀ l ∈ m, LotOk n l) → (∀ c ∈ row, 0 < c ∧ c < 2 ^ n) → (row.foldl (fun m c => mkFam n (m ++ mkFam n [lLot n c])) m) ≠ [] ∧ (row.foldl (fun m c => mkFam n (m ++ mkFam n [lLot n c])) m).length ≤ 256 ∧ ∀ l ∈ row.foldl (fun m c => mkFam n (m ++ mkFam n [lLot n c])) m, LotOk n l
  | [], m, a, b, c, _ => ⟨a, b, c⟩
  | x :: r, m, a, b, c, hr => by
    have hx := hr x (List.mem_cons_self ..)
    refine lFam_ok h1 hn r (mkFam n (m ++ mkFam n [lLot n x])) (mkFam_ne (by omega) (by simp [a])) (least_len _) (mk_ok (by omega) fun l hl => ?_) fun y hy => hr y (List.mem_cons_of_mem _ hy)
    rcases List.mem_append.mp hl with hl | hl
    · exact c l hl
    · refine mk_ok (by omega) (fun y hy => ?_) l hl
      rw [List.mem_singleton] at hy
      rw [hy]
      exact lLot_ok hn hx.1 hx.2
inductive Rlaw_family (K : PySem.W.Frag) (aF : Addr) : List D → D → Prop
  | mk {n : Nat} {row : List Int} : 1 ≤ n → n ≤ 4 → row.length < 1000 → (∀ c ∈ row, 0 < c ∧ c < 2 ^ n) → Rlaw_family K aF [di (n : Int), intsL row] (famD K aF n (lFam n row))
theorem fn_law_family (B : Bi mg) (kf : KFam K mg aF) (u : UF P w K mg base 6 aF "whole" (Pr (Rwhole K aF))) (m : MF P w K mg base 4 "Family" (Pr (RFamily K aF))) (gl : GF P w K mg base 3 "_law_lot" (Pr (Rlaw_lot K))) (oo : OpF P w K mg base 6 aF "__or__" (Pr (Ror K aF))) (Df : DfG K mg "_law_family" (top 76)) : GF P w K mg base 7 "_law_family" (Pr (Rlaw_family K aF)) :=
  gf_of Df sc_law_family (fun _ _ h => by cases h; rfl) (fun _ _ _ _ _ _ us h => match us, h with | [_, _], _ => rfl) (fun _ _ _ _ _ _ _ hr => rd_law_family B kf.nm u m gl oo hr) fun xs z h => by
    cases h with
    | @mk n row h1 h4 hz h2 =>
      have hk : ∀ i, lFam n (row.take i) ≠ [] ∧ (lFam n (row.take i)).length ≤ 256 ∧ ∀ l ∈ lFam n (row.take i), LotOk n l := fun i =>
        lFam_ok h1 h4 (row.take i) (mkFam n [up n]) (mkFam_ne (by omega) (by simp)) (least_len _) (mk_ok (by omega) fun l hl => by rw [List.mem_singleton] at hl; rw [hl]; exact up_ok h1 (by omega)) fun c hc => h2 c (List.mem_of_mem_take hc)
      refine (sr_seq (sb_asg (ed_call (ea_cons (ed_var rfl) ea_nil) (.mk h1 (by omega))))
    (sr_seq (env' := [.d (di (n : Int)), .d (intsL row), .d (famD K aF n (lFam n row)), .no]) (sb_eq (sb_forL row (fun c => di c) (fun i => [.d (di (n : Int)), .d (intsL row), .d (famD K aF n (lFam n (row.take i))), .no]) (ed_var rfl) (.eq (.eq (.eq (.eq .nil)))) _ (fun i a ha => tj_name) fun i a ha => sb_fg (sb_asg (ed_op (ed_var rfl) (ed_call (ea_cons (ed_var rfl) (ea_cons (ed_call (ea_cons (ed_var rfl) (ea_cons (ed_var rfl) ea_nil)) (.mk (by omega))) ea_nil)) (show RFamily K aF (di (n : Int) :: [lLot n a].map fun l => lotD K l) _ from .mk h1 (by omega) (by simp) (fun l hl => ?_) (by simp))) (od_own (.mk h1 (by omega) (hk i).1 (fun l hl => ?_) ?_)))) ?_) (by rw [List.take_length]))
    (sr_ret (ed_var rfl))))
      all_goals have ha2 := h2 a (List.mem_of_getElem? ha)
      · rw [List.mem_singleton] at hl
        rw [hl]
        exact lLot_ok h4 ha2.1 ha2.2
      · rcases List.mem_append.mp hl with hl | hl
        · exact (hk i).2.2 l hl
        · refine mk_ok (n := n) (ls := [lLot n a]) (by omega) (fun y hy => ?_) l hl
          rw [List.mem_singleton] at hy
          rw [hy]
          exact lLot_ok h4 ha2.1 ha2.2
      · have a1 := (hk i).2.1
        have a2 := mkFam_len (n := n) [lLot n a]
        unfold mkFam at a2
        rw [List.length_singleton] at a2
        omega
      · have e : lFam n (row.take (i + 1)) = mkFam n (lFam n (row.take i) ++ leastLots ([lLot n a].map (lotOf n))) := by
          unfold lFam
          rw [List.take_add_one, ha, List.foldl_append]
          rfl
        show Fg _ [_, _, .d (famD K aF n (lFam n (row.take (i + 1)))), _]
        rw [e]
        exact .eq (.eq (.eq (.no .nil)))
/-- what of the table and the share is asked -/
structure TbOk (tb : List Int) (n : Nat) (sh : Int × Int) : Prop where
  n4 : n ≤ 4
  len : tb.length = 2 ^ n
  bit : ∀ x ∈ tb, x.natAbs ≤ 2 ^ 20
  s1 : sh.1.natAbs < 2 ^ 4
  s2 : (sh.2 - sh.1).natAbs < 2 ^ 4
theorem TbOk.get {tb : List Int} {n : Nat} {sh : Int × Int} (h : TbOk tb n sh) {c : Int} (h0 : 0 ≤ c) (h1 : c < 2 ^ n) : tb[c.toNat]? = some (tb.getD c.toNat 0) ∧ (tb.getD c.toNat 0).natAbs ≤ 2 ^ 20 := by
  rw [pow_nat] at h1
  have hl := h.len
  have e : tb[c.toNat]? = some (tb.getD c.toNat 0) := by rw [List.getD_eq_getElem?_getD, List.getElem?_eq_getElem (by omega)]; rfl
  exact ⟨e, h.bit _ (List.mem_of_getElem? e)⟩
theorem dual_rg {n : Nat} {row : List Int} {c : Int} (h : c ∈ lDual n row) : 0 ≤ c ∧ c < 2 ^ n := by
  unfold lDual at h
  simp only [List.mem_map, List.mem_filter, List.mem_range] at h
  obtain ⟨a, ⟨h1, _⟩, rfl⟩ := h
  rw [pow_nat]
  omega
theorem dual_len {n : Nat} (hn : n ≤ 4) (row : List Int) : (lDual n row).length ≤ 16 := by
  unfold lDual
  rw [List.length_map]
  exact Nat.le_trans (List.length_filter_le _ _) (by rw [List.length_range]; exact pow_le16 hn)
theorem TbOk.sum {tb : List Int} {n : Nat} {sh : Int × Int} (h : TbOk tb n sh) {l : List Int} (hl : l.length ≤ 16) (hr : ∀ c ∈ l, 0 ≤ c ∧ c < 2 ^ n) : ((l.map fun c => tb.getD c.toNat 0).sum).natAbs < 2 ^ 30 := by
  have := sum_bits (B := 2 ^ 20) (l.map fun c => tb.getD c.toNat 0) fun x hx => by
    obtain ⟨c, hc, rfl⟩ := List.mem_map.mp hx
    exact (h.get (hr c hc).1 (hr c hc).2).2
  rw [List.length_map] at this
  have h2 := Nat.mul_le_mul_right (2 ^ 20) hl
  omega
inductive Rlaw_value (K : PySem.W.Frag) : List D → D → Prop
  | mk {tb : List Int} {n : Nat} {sh : Int × Int} {row : List Int} : TbOk tb n sh → RowOk n row → Rlaw_value K [intsL tb, di (n : Int), prD K sh, intsL row] (di (lValue tb n sh row))
theorem fn_law_value (B : Bi mg) (g : GF P w K mg base 2 "_law_dual" (Pr Rlaw_dual)) (Df : DfG K mg "_law_value" (top 78)) : GF P w K mg base 3 "_law_value" (Pr (Rlaw_value K)) :=
  gf_of Df sc_law_value (fun _ _ h => by cases h; rfl) (fun _ _ _ _ _ _ us h => match us, h with | [_, _, _, _], _ => rfl) (fun _ _ _ _ _ _ _ hr => rd_law_value B g hr) fun xs z h => by
    cases h with
    | @mk tb n sh row h hr =>
      have d1 := dual_len h.n4 row
      have r1 := row_len hr h.n4
      have ix : ∀ c : Int, 0 ≤ c → c < 2 ^ n → (tb.map fun i => di i)[c.toNat]? = some (di (tb.getD c.toNat 0)) := fun c h0 h1 => by rw [List.getElem?_map, (h.get h0 h1).1]; rfl
      refine (sr_seq (sb_asg (ed_cb (ea_cons (EO.ed (eo_L0 (lDual n row) (fun c => di c) (fun c => di (tb.getD c.toNat 0)) (ed_call (ea_cons (ed_var rfl) (ea_cons (ed_var rfl) ea_nil)) (.mk h.n4)) (by omega) (by decide) fun a ha => (ed_op (ed_var rfl) (ed_is (ed_var rfl) (show di a = di ((a.toNat : Nat) : Int) from ?_)) (od_ixL (ix a (dual_rg ha).1 (dual_rg ha).2))))) ea_nil) cd_sumF))
    (sr_ret (ed_op (ed_op (ed_op (ed_var rfl) ed_c (od_ixT (i := 0) rfl)) (ed_var rfl) (od_iC ?_)) (ed_op (ed_op (ed_op (ed_var rfl) ed_c (od_ixT (i := 1) rfl)) (ed_op (ed_var rfl) ed_c (od_ixT (i := 0) rfl)) od_i0) (ed_cb (ea_cons (EO.ed (eo_L0 row (fun c => di c) (fun c => di (tb.getD c.toNat 0)) (ed_var rfl) (by omega) (by decide) fun a ha => (ed_op (ed_var rfl) (ed_is (ed_var rfl) (show di a = di ((a.toNat : Nat) : Int) from ?_)) (od_ixL (ix a (hr.rg a ha).1 (hr.rg a ha).2))))) ea_nil) cd_sumF) (od_iC ?_)) od_i0)))
      · rw [Int.toNat_of_nonneg (dual_rg ha).1]
      · exact cmul_of h.s1 (h.sum d1 fun c hc => dual_rg hc) (by decide) (by decide)
      · rw [Int.toNat_of_nonneg (hr.rg a ha).1]
      · exact cmul_of h.s2 (h.sum r1 hr.rg) (by decide) (by decide)
theorem table_ok {raw : List (Int × Int)} (h : RawOk raw) {sh : Int × Int} (h1 : sh.1.natAbs < 2 ^ 4) (h2 : (sh.2 - sh.1).natAbs < 2 ^ 4) : TbOk (lTable raw) raw.length sh := by
  refine ⟨h.n4, ?_, fun x hx => ?_, h1, h2⟩
  · unfold lTable
    rw [List.length_map, List.length_range]
  · unfold lTable at hx
    obtain ⟨c, _, rfl⟩ := List.mem_map.mp hx
    have a := (alone_bits h c raw.length (Nat.le_refl _)).1
    have b : 2 ^ (1 + 4 * raw.length) ≤ 2 ^ 20 := Nat.pow_le_pow_right (by decide) (by have := h.n4; omega)
    exact Nat.le_of_lt (Nat.lt_of_lt_of_le a b)
def optD : Option Int → D
  | none => dn
  | some b => di b
inductive Rlaw_bests (K : PySem.W.Frag) : List D → D → Prop
  | mk {raw : List (Int × Int)} {sh : Int × Int} {rows : List (List Int)} {b : Int} {found : List (List Int)} : RawOk raw → sh.1.natAbs < 2 ^ 4 → (sh.2 - sh.1).natAbs < 2 ^ 4 → (∀ row ∈ rows, RowOk raw.length row) → rows.length < 1000 → bests (lValue (lTable raw) raw.length sh) rows = (some b, found) → Rlaw_bests K [rawD K raw, prD K sh, rowsL rows] (dt K [di b, rowsL found])
theorem bests_len (val : List Int → Int) : ∀ (rows : List (List Int)) (acc : Option Int × List (List Int)), (rows.foldl (bestStep val) acc).2.length ≤ acc.2.length + rows.length
  | [], acc => by simp
  | r :: rs, acc => by
    have h := bests_len val rs (bestStep val acc r)
    have h2 : (bestStep val acc r).2.length ≤ acc.2.length + 1 := by
      unfold bestStep
      split
      · simp
      · split
        · simp
        · split
          · simp
          · simp
    rw [List.foldl_cons, List.length_cons]
    omega
end
end Kb
end
section
/-! Kd13: the bests. -/
namespace Kb
open PySem PySem.Spec PyProof.Rows L2 M
section
variable {P : Program} {w : World} {K : PySem.W.Frag} {mg : Str → Option Value} {base : Heap} {aR aC aF : Addr}
abbrev bestE (K : PySem.W.Frag) (raw : List (Int × Int)) (sh : Int × Int) (rows : List (List Int)) (acc : Option Int × List (List Int)) : Env' := [.d (rawD K raw), .d (prD K sh), .d (rowsL rows), .d (intsL (lTable raw)), .d (optD acc.1), .own (acc.2.map fun l => intsL l), .no, .no, .no]
theorem fn_law_bests (B : Bi mg) (gt : GF P w K mg base 4 "_law_table" (Pr (Rlaw_table K))) (gv : GF P w K mg base 3 "_law_value" (Pr (Rlaw_value K))) (Df : DfG K mg "_law_bests" (top 80)) : GF P w K mg base 5 "_law_bests" (Pr (Rlaw_bests K)) :=
  gf_of Df sc_law_bests (fun _ _ h => by cases h; rfl) (fun _ _ _ _ _ _ us h => match us, h with | [_, _, _], _ => rfl) (fun _ _ _ _ _ _ _ hr => rd_law_bests B gt gv hr) fun xs z h => by
    cases h with
    | @mk raw sh rows b found h h1 h2 hr hz he =>
      let val := lValue (lTable raw) raw.length sh
      let acc := fun (i : Nat) => (rows.take i).foldl (bestStep val) (none, [])
      refine (sr_seq (sb_asg (ed_call (ea_cons (ed_var rfl) ea_nil) (.mk h)))
    (sr_seq (sb_asg ed_c)
    (sr_seq (sb_own (eo_lst ea_nil rfl))
    (sr_seq (env' := bestE K raw sh rows (some b, found)) (sb_eq (sb_forL rows (fun row => intsL row) (fun i => bestE K raw sh rows (acc i)) (ed_var rfl) (.eq (.eq (.eq (.eq (.eq (.eq (.eq (.eq (.eq .nil))))))))) _ (fun i a ha => tj_name) fun i a ha => sb_fg (env1 := [.d (rawD K raw), .d (prD K sh), .d (rowsL rows), .d (intsL (lTable raw)), .d (optD (acc (i + 1)).1), .own ((acc (i + 1)).2.map fun l => intsL l), .d (intsL a), .d (di (val a)), .no]) (sb_seq (sb_asg (ed_call (ea_cons (ed_var rfl) (ea_cons (ed_is (ed_cb (ea_cons (ed_var rfl) ea_nil) cd_lenL) (by rw [List.length_map])) (ea_cons (ed_var rfl) (ea_cons (ed_var rfl) ea_nil)))) (.mk (table_ok h h1 h2) (hr a (List.mem_of_getElem? ha))))) ?_) ?_) ?_)
    (sr_keep 5 rfl (sr_ret (ed_tup (ea_cons (ed_var rfl) (ea_cons (ed_var rfl) ea_nil)) rfl)))))))
      · have hra := hr a (List.mem_of_getElem? ha)
        have hi : i < rows.length := (List.getElem?_eq_some_iff.mp ha).1
        have hla := row_len hra h.n4
        have e : acc (i + 1) = bestStep val (acc i) a := by
          show (rows.take (i + 1)).foldl _ _ = _
          rw [List.take_add_one, ha, List.foldl_append]
          rfl
        have hl : (acc i).2.length < 90000 := by
          have := bests_len val (rows.take i) (none, [])
          rw [List.length_take] at this
          show ((rows.take i).foldl (bestStep val) (none, [])).2.length < 90000
          simp at this
          omega
        rw [e]
        generalize acc i = ac at hl
        obtain ⟨ob, fo⟩ := ac
        have hl : fo.length < 90000 := hl
        have tail : ∀ (bb : Int) (f2 : List (List Int)), f2.length < 90000 → SB (tIfS (tTest (tOp rEq (tVar 7) (tVar 4))) (tDrop (tBM K "list" rAppend (tVar 5) (tCons (tCB (rSortedI K) (tCons (tLc (iList K (tVar 6)) (gName 8) tYes (tCB cInt (tCons (tVar 8) tNil)) [8]) tNil)) tNil))) tNext) [.d (rawD K raw), .d (prD K sh), .d (rowsL rows), .d (intsL (lTable raw)), .d (di bb), .own (f2.map fun l => intsL l), .d (intsL a), .d (di (val a)), .no] [.d (rawD K raw), .d (prD K sh), .d (rowsL rows), .d (intsL (lTable raw)), .d (di bb), .own ((if val a = bb then f2 ++ [srt a] else f2).map fun l => intsL l), .d (intsL a), .d (di (val a)), .no] := fun bb f2 hf2 =>
          (sb_if (et_test (ed_op (ed_var rfl) (ed_var rfl) od_eqi)) (fun hc => (sb_eq (sb_app rfl (EO.ed (eo_sortedI (l' := srt a) (ea_cons (EO.ed (eo_L0 a (fun c => di c) (fun c => di c) (ed_var rfl) (by omega) (by decide) fun c hc => (ed_cb (ea_cons (ed_var rfl) ea_nil) cd_int))) ea_nil) (srt_sorted hra h.n4))) (by rw [List.length_map]; omega)) (by rw [if_pos (of_decide_eq_true hc), List.map_append]; rfl))) fun hc => sb_eq sb_next (by rw [if_neg (of_decide_eq_false hc)]))
        cases ob with
        | none =>
          refine (sb_seq (sb_if (env' := [.d (rawD K raw), .d (prD K sh), .d (rowsL rows), .d (intsL (lTable raw)), .d (di (val a)), .own (([] : List (List Int)).map fun l => intsL l), .d (intsL a), .d (di (val a)), .no]) (et_is (b := true) (et_or (b := true) (et_B (ed_isN (v := .non) (ed_var rfl))) fun z => absurd z (by decide)) rfl) (fun h => (sb_seq (sb_asg (ed_var rfl)) (sb_own (eo_lst ea_nil rfl)))) fun z => absurd z (by decide)) (sb_eq (tail (val a) [] (by simp)) ?_))
          rw [if_pos rfl]
          rfl
        | some b0 =>
          by_cases hb : b0 < val a
          · refine (sb_seq (sb_if (env' := [.d (rawD K raw), .d (prD K sh), .d (rowsL rows), .d (intsL (lTable raw)), .d (di (val a)), .own (([] : List (List Int)).map fun l => intsL l), .d (intsL a), .d (di (val a)), .no]) (et_or (et_B (ed_isN (v := .int b0) (ed_var rfl))) fun _ => (et_test (ed_op (ed_var rfl) (ed_var rfl) od_i0))) (fun h => (sb_seq (sb_asg (ed_var rfl)) (sb_own (eo_lst ea_nil rfl)))) fun z => ?_) (sb_eq (tail (val a) [] (by simp)) ?_))
            · have z2 : decide (b0 < val a) = false := by simpa using z
              rw [decide_eq_true hb] at z2
              cases z2
            · rw [if_pos rfl]
              show _ = [_, _, _, _, Sl.d (optD (if b0 < val a then (some (val a), [srt a]) else if val a = b0 then (some b0, fo ++ [srt a]) else (some b0, fo)).1), Sl.own (List.map (fun l => intsL l) (if b0 < val a then (some (val a), [srt a]) else if val a = b0 then (some b0, fo ++ [srt a]) else (some b0, fo)).2), _, _, _]
              rw [if_pos hb]
              rfl
          · refine (sb_seq (sb_if (env' := [.d (rawD K raw), .d (prD K sh), .d (rowsL rows), .d (intsL (lTable raw)), .d (di b0), .own (fo.map fun l => intsL l), .d (intsL a), .d (di (val a)), .no]) (et_or (et_B (ed_isN (v := .int b0) (ed_var rfl))) fun _ => (et_test (ed_op (ed_var rfl) (ed_var rfl) od_i0))) (fun z => ?_) fun _ => sb_next) (sb_eq (tail b0 fo hl) ?_))
            · have z2 : decide (b0 < val a) = true := by simpa using z
              exact absurd (of_decide_eq_true z2) hb
            · show _ = [_, _, _, _, Sl.d (optD (if b0 < val a then (some (val a), [srt a]) else if val a = b0 then (some b0, fo ++ [srt a]) else (some b0, fo)).1), Sl.own (List.map (fun l => intsL l) (if b0 < val a then (some (val a), [srt a]) else if val a = b0 then (some b0, fo ++ [srt a]) else (some b0, fo)).2), _, _, _]
              rw [if_neg hb]
              split <;> rfl
      · exact .eq (.eq (.eq (.eq (.eq (.eq (.no (.no (.no .nil))))))))
      · show bestE K raw sh rows (acc rows.length) = _
        have : acc rows.length = (some b, found) := by
          show (rows.take rows.length).foldl _ _ = _
          rw [List.take_length]
          exact he
        rw [this]
end
end Kb
end
section
/-! Kb17: sorted(xs, key=lambda y: str(len(y))). -/
namespace Kb
open PySem PySem.Spec PyProof.Rows L2
/-- the lambda's body -/
abbrev keyBody (y : Str) (p1 p2 p3 p4 p5 : Pos) : Expr := .Call (.Name "str" p1) [.Call (.Name "len" p2) [.Name y p3] [] p4] [] p5
structure KeyLam (y : Str) (params : Arguments) (scope : Scope) : Prop where
  S : FnScope [y] [y] scope
  def_ : ∀ env, defaultsOf params env = ([], [])
  bind : ∀ (q : Str) (body : Expr) (cl : List (Str × Addr)) (pm cv ctv v : Value), bindArgs (PySem.W.kla_fn "<lambda>" q params body scope cl pm cv ctv) ⟨[v], []⟩ = pure [(y, v)]
  clo : ∀ cells, cloFrom cells scope.names [] = []
  vis : Vis scope y
  gs : scope.names.lookup ("str" : Str) = some .globalImplicit
  gl : scope.names.lookup ("len" : Str) = some .globalImplicit
  d1 : (y == ("__debug__" : Str)) = false
  d2 : (y == ("__classdict__" : Str)) = false
section
variable {X : Cx} {pins : List (Addr × Obj)} {σ : L2.St} {H : Hp} {s : Shared}
theorem ld_own {i : Nat} {x : Str} {pos : Pos} {v : V} {E : Value → Shared → Prop} {Q : Value → Shared → Prop} (I : Inv X pins σ H s) (hN : X.N[i]? = some x) (e : σ[i]? = some (some v)) (hv : Vis X.env.scope x) (hd : (x == ("__debug__" : Str)) = false) (hcd : (x == ("__classdict__" : Str)) = false)
    (h : ∀ u, L2.RelV v u → Q u s) : wpAny (model X.prog X.w) X.A (eval (.Name x pos) X.env) Q E s := by
  obtain ⟨m, hn, hl⟩ := I.loc
  obtain ⟨u, r, l⟩ := hl i x v hN e hv
  have fin : Q u s := h u r
  rcases l with ⟨hk, hm⟩ | ⟨hk, c, hc, hcell⟩
  · exact wpAny_Name (wpAny_loadName_local I.ok.kind hk hn hm fin) hd
  · rcases hk with hk | hk
    · exact wpAny_Name (wpAny_loadName_cell I.ok.kind hk hc hcell fin) hd
    · exact wpAny_Name (wpAny_loadName_free I.ok.kind hk hc hcell fin hcd) hd
theorem key_turn {A : Around} {y : Str} {params : Arguments} {scope : Scope} {p1 p2 p3 p4 p5 : Pos} {q : Str} {f c' p : Addr} {pm ctv : Value} {vs : List V} (B : Bi X.mg) (L : KeyLam y params scope) (I : Inv X pins σ H s) (hr : Room 0 A) (e0 : Env0 X.prog X.w X.K X.mg X.base A X.stack s H)
    (hf : s.heap.get? f = some (PySem.W.kla_obj "<lambda>" q params (keyBody y p1 p2 p3 p4 p5) scope [] pm c' ctv)) (hc : H c' = some (LamX.CodeO c' q)) (sq : SqT X.K H p vs) (hn : vs.length < 1000) :
    wpAny (model X.prog X.w) A (call (.ref f) [.ref p]) (PySem.W.KeyPure (.str (Str.ofString (toString ((vs.length : Nat) : Int)))) s) (fun _ _ => False) s := by
  obtain ⟨⟨oc, ws, t, hoc, hdc, hvc⟩, _, _⟩ := I.hok c' _ hc
  refine wpAny_call ?_
  refine PySem.W.kla_callFunE hr.depth hf rfl L.S.co L.S.gen rfl ⟨c', oc, ws, t, rfl, hoc, hdc, hvc⟩ ?_
  rw [L.bind]
  refine wpAny_pure ?_
  have hkind : ∀ z ∈ [(y, Value.ref p)], scope.names.lookup z.1 = some .local ∨ (scope.names.lookup z.1 = some .cell ∧ ((cellsFrom (s.heap.objs.size + 1) scope.names []).lookup z.1).isSome = true) := fun z hz => by
    rw [List.mem_singleton] at hz
    rw [hz]
    rcases L.S.par y (List.mem_singleton.mpr rfl) with k | k
    · exact .inl k
    · exact .inr ⟨k, PySem.W.cellsFrom_some _ _ _ (.inl k)⟩
  refine wpAny_newFunctionEnv_cells L.S.kind hkind fun env he s1 x => ?_
  subst he
  have lim : s.heap.NoLimit := e0.mod.nolimit.keeps fun b o e => (e0.bs b o e).1
  refine ⟨lim.keeps x.toInCall.keep, PySem.W.kla_codeExpr ?_⟩
  have J : Inv (cxOf CX0 X.prog X.w X.K X.mg X.base [y] q scope f (.ref c') A X.stack s H E0) [] (L2.start [y] [.ref p]) H s1 := inv_start (us := [.ref p]) (vs := [.ref p]) L.S hr.hd e0 rfl (.cons rfl .nil) x
  obtain ⟨h1, tk, rfl, hk⟩ := x.done
  obtain ⟨its, r', pl, hz⟩ := J.tuple sq
  have hlen := r'.length
  refine wpAny_Call_Name_kw (ld_blt J L.gs B.str bb_str ?_)
  refine PyProof.Rows.callWith_type1 ?_ (by rfl) (by rfl)
  refine Calls.spliced_cons ?_
  refine wpAny_Call_Name_kw (ld_blt J L.gl B.len bb_len ?_)
  refine PyProof.Rows.callWith_builtin1 ?_ (by rfl) (by rfl)
  refine Calls.spliced_cons ?_
  refine ld_own (i := 0) (v := .ref p) J rfl rfl L.vis L.d1 L.d2 fun u hu => ?_
  obtain rfl : u = Value.ref p := hu
  refine Calls.spliced_nil ?_
  refine len_tuple pl (by have := line63; simp only [List.size_toArray]; omega) ?_
  refine Calls.spliced_nil ?_
  refine PySem.P.str_of_int ?_ ?_
  · have e : its.toArray.size = vs.length := by rw [List.size_toArray, hlen]
    rw [e]
    refine Nat.lt_of_le_of_lt (Nat.log2_le_self _) ?_
    omega
  · have e : its.toArray.size = vs.length := by rw [List.size_toArray, hlen]
    rw [e]
    exact ⟨_, _, rfl, hk, .str _ _⟩
end
end Kb
end
section
/-! Kb18: the lambda made; the sort. -/
namespace Kb
open PySem PySem.Spec PyProof.Rows L2
section
variable {X : Cx} {pins : List (Addr × Obj)} {σ : L2.St} {H : Hp} {s : Shared}
/-- one more code object in the table -/
theorem gx_table {P c2 : Addr} {ps : Array Value} {l1 l2 : Int} {H : Hp} (hP : H P = some (.tbl ps)) (ht : TriplesOk ps.toList) (nC : H c2 = none) (pos : Pos) :
    Gx H (upd (upd H P (.tbl (ps ++ #[rawInt pos.line, rawInt pos.col, .ref c2]))) c2 (LamX.CodeO c2 qLam)) ∧ ∀ a u, a ≠ P → H a = some u → upd (upd H P (.tbl (ps ++ #[rawInt pos.line, rawInt pos.col, .ref c2]))) c2 (LamX.CodeO c2 qLam) a = some u := by
  have keep : ∀ (a : Addr) (u : HO), H a = some u → (∀ qs, u ≠ .tbl qs) → upd (upd H P (.tbl (ps ++ #[rawInt pos.line, rawInt pos.col, .ref c2]))) c2 (LamX.CodeO c2 qLam) a = some u := fun a u e n => by
    rw [upd_ne (ne_of_none e nC), upd_ne (show a ≠ P from fun z => by rw [z, hP] at e; exact n ps (Option.some.inj e).symm)]
    exact e
  have neP : P ≠ c2 := ne_of_none hP nC
  refine ⟨⟨keep, fun a qs e => ?_, fun P2 q ⟨ps2, e1, e2, e3⟩ => ?_⟩, fun a u n e => by rw [upd_ne (ne_of_none e nC), upd_ne n]; exact e⟩
  · by_cases z : a = P
    · exact ⟨_, by rw [z, upd_ne neP, upd_same]⟩
    · exact ⟨qs, by rw [upd_ne (ne_of_none e nC), upd_ne z]; exact e⟩
  · obtain ⟨q, rfl⟩ := q
    by_cases z : P2 = P
    · subst z
      rw [hP] at e1
      cases e1
      have el : (ps ++ #[rawInt pos.line, rawInt pos.col, .ref c2]).toList = ps.toList ++ [rawInt pos.line, rawInt pos.col, .ref c2] := by simp
      refine ⟨_, by rw [upd_ne neP, upd_same], by rw [el]; exact PySem.TriplesOk_snoc _ _ _ _ ht, fun pos2 cv hcv => ?_⟩
      rw [el] at hcv
      rcases LamX.among_app _ ht hcv with w | w
      · obtain ⟨c0, a1, a2⟩ := e3 pos2 cv w
        exact ⟨c0, a1, keep c0 _ a2 LamX.codeO_ne⟩
      · exact ⟨c2, w, upd_same⟩
    · refine ⟨ps2, by rw [upd_ne (ne_of_none e1 nC), upd_ne z]; exact e1, e2, fun pos2 cv hcv => ?_⟩
      obtain ⟨c0, a1, a2⟩ := e3 pos2 cv hcv
      exact ⟨c0, a1, keep c0 _ a2 LamX.codeO_ne⟩
theorem lam_new {c P : Addr} {params : Arguments} {body : Expr} {scope : Scope} {pos : Pos} {E : Value → Shared → Prop} {Q : Value → Shared → Prop} (I : Inv X pins σ H s) (TB : LamX.TabB X.base X.mg c P) (hcode : X.env.code = .ref c) (hq : X.env.qual ++ "<lambda>" = qLam)
    (T : LamX.TabS H P qLam) (hdef : defaultsOf params X.env = ([], [])) (hclo : cloFrom X.env.cells scope.names [] = []) (hfree : ∀ y ∈ scope.names, y.2 = .free → ∃ c, X.env.cells.lookup y.1 = some c)
    (h : ∀ (f c2 : Addr) (pm ctv : Value) (H1 : Hp) (s2 : Shared), Inv X pins σ H1 s2 → Gx H H1 → (∀ a u, a ≠ P → H a = some u → H1 a = some u) → s2.heap.get? f = some (PySem.W.kla_obj "<lambda>" qLam params body scope [] pm c2 ctv) → H1 c2 = some (LamX.CodeO c2 qLam) → Q (.ref f) s2) :
    wpAny (model X.prog X.w) X.A (eval (.Lambda params body scope pos) X.env) Q E s := by
  obtain ⟨ps, hP, ht, ha⟩ := T
  refine PySem.W.kla_eval hdef ?_
  have bP : s.heap.BuiltinsAt X.mg P := TB.bm.keeps I.bk
  have hP2 : s.heap.get? P = some { cls := .none, data := .fields ps } := I.hok P _ hP
  have hcl : closureFor scope X.env = pure [] := by rw [closure_ok hfree, hclo]
  cases hc : codeAmong pos ps.toList with
  | none =>
    refine PySem.W.kla_makeFunction (mg := X.mg) (c := c) (P := P) (ps := ps) hcl I.ok.glob (I.mod.glob.keeps I.bk) hcode (TB.code.keeps I.bk) hP2 ht hc TB.gP bP fun c2 ctv h2 tk hx hge hlt hrec htb => ?_
    obtain ⟨c3, oc, vs, t, e3, hoc, hd, hv⟩ := hrec
    cases e3
    rw [hq] at hv ⊢
    have I1 := LamX.inv_table (q := qLam) (t' := tk) (more := #[rawInt pos.line, rawInt pos.col, .ref c2]) (h' := h2.push (PySem.W.kla_obj "<lambda>" qLam params body scope [] ((X.mg "__name__").getD .none) c2 ctv)) I hP (fun b o hb e => Heap.get?_push_of_some _ (hx b o hb e)) (Heap.get?_push_of_some _ htb) hge ⟨oc, vs, t, Heap.get?_push_of_some _ hoc, hd, hv⟩
    exact h h2.objs.size c2 _ ctv _ _ I1 (gx_table (l1 := 0) (l2 := 0) hP ht (I.hok.fresh hge) pos).1 (gx_table (l1 := 0) (l2 := 0) hP ht (I.hok.fresh hge) pos).2 (Heap.get?_push_size _ rfl) upd_same
  | some cv =>
    obtain ⟨c2, e, hco⟩ := ha pos cv hc
    subst e
    refine PySem.W.kla_makeFunctionHit (mg := X.mg) (c := c) (P := P) (ps := ps) hcl I.ok.glob (I.mod.glob.keeps I.bk) hcode (TB.code.keeps I.bk) hP2 ht hc bP fun ctv h2 tk hx hsz => ?_
    rw [hq]
    have I1 : Inv X pins σ H { s with heap := h2.push (PySem.W.kla_obj "<lambda>" qLam params body scope [] ((X.mg "__name__").getD .none) c2 ctv), toks := tk } := I.kept fun b o e => Heap.get?_push_of_some _ (hx b o e)
    exact h h2.objs.size c2 _ ctv H _ I1 (Gx.refl H) (fun _ _ _ e => e) (Heap.get?_push_size _ rfl) hco
/-- the order of the keys -/
def keyLe : V × Nat → V × Nat → Bool := PySem.W.dataLe false fun b : V × Nat => .str (Str.ofString (toString ((b.2 : Nat) : Int)))
structure TupN (K : PySem.W.Frag) (H : Hp) (b : V × Nat) : Prop where
  ex : ∃ p vs, b.1 = .ref p ∧ SqT K H p vs ∧ vs.length = b.2 ∧ b.2 < 1000
def tSortKey (K : PySem.W.Frag) (P : Addr) (t : TA) : TE := fun σ H Q => t σ H fun us H1 => ∃ (a : Addr) (bs : List (V × Nat)), us = [.ref a] ∧ SqL K H1 a (bs.map (·.1)) ∧ (∀ b ∈ bs, TupN K H1 b) ∧ LamX.TabS H1 P qLam ∧ (∀ H2, Gx H1 H2 → SqL K H2 a (bs.map (·.1)) ∧ ∀ b ∈ bs, TupN K H2 b) ∧
  ∀ H2 p, Gx H1 H2 → (∀ a u, a ≠ P → H1 a = some u → H2 a = some u) → H2 p = none → Q (.ref p) (upd H2 p (.lst ((bs.mergeSort keyLe).map (·.1))))
theorem each_of_vals {R : Value → V × Nat → Prop} : ∀ {bs : List (V × Nat)} {vs : List Value}, Vals (bs.map (·.1)) vs → (∀ b ∈ bs, ∀ v, L2.RelV b.1 v → R v b) → PySem.W.EachIs R vs bs
  | [], _, h, _ => by cases h; exact .nil
  | b :: r, _, h, k => by
    cases h with
    | cons a t => exact .cons (k b (List.mem_cons_self ..) _ a) (each_of_vals t fun b hb => k b (List.mem_cons_of_mem _ hb))
theorem vals_of_each {R : Value → V × Nat → Prop} (k : ∀ b v, R v b → L2.RelV b.1 v) : ∀ {bs : List (V × Nat)} {vs : List Value}, PySem.W.EachIs R vs bs → Vals (bs.map (·.1)) vs
  | _, _, .nil => .nil
  | _, _, .cons a t => .cons (k _ _ a) (vals_of_each k t)
theorem pe_sortkey {c P : Addr} {y : Str} {params : Arguments} {scope : Scope} {p1 p2 p3 p4 p5 lp p pos kp : Pos} {e : Expr} {es : List Expr} {t : TA} (B : Bi X.mg) (L : KeyLam y params scope) (TB : LamX.TabB X.base X.mg c P) (hcode : X.env.code = .ref c) (hq : X.env.qual ++ "<lambda>" = qLam) (hg : Gl X "sorted") (hr : Room 1 X.A)
    (ha : PA X (e :: es) t) (he : backTo pos (starEach (e :: es) X.env) = (false, eval e X.env) :: backTo pos (starEach es X.env) := by rfl) (hpl : (backTo pos (starEach (e :: es) X.env)).any (·.1) = false := by rfl) :
    PE X (.Call (.Name "sorted" p) (e :: es) [.mk (some "key") (.Lambda params (keyBody y p1 p2 p3 p4 p5) scope lp) kp] pos) (tSortKey X.K P t) := by
  refine ⟨fun pins s σ H Q I h => ?_⟩
  refine wpAny_Call_Name_kw (ld_blt I hg B.sorted bb_sorted ?_)
  refine PyProof.Rows.callWith_kw (thn (ha.run pos pins s σ H _ I h) fun us s1 ⟨vs, H1, I1, r1, a, bs, e1, q1, q2, q3, q5, q4⟩ => ?_) he hpl (by rfl) (by rfl)
  subst e1
  obtain rfl := Vals.ref1 r1
  refine wpAny_evalAll_cons (wpAny_bind (lam_new I1 TB hcode hq q3 (L.def_ _) (L.clo _) (fun y hy z => absurd z (L.S.nofree y hy)) fun f c2 pm ctv H2 s2 I2 gx gp hf hco => wpAny_bind (wpAny_standAt (wpAny_pure ?_))))
  refine wpAny_evalAll_nil ?_
  obtain ⟨sl, st⟩ := q5 H2 gx
  obtain ⟨its, rv, isl, sz⟩ := I2.list sl
  have len0 := rv.length
  rw [List.length_map] at len0 sz
  have r0 : Room 0 X.A.in1.in1 := ⟨hr.hd, by have := hr.dp; show X.A.depth + 3 * 0 + 5 < _; omega, by have := hr.un; show X.A.units + 1 + 1 + 16 * 0 + 200 < _; omega⟩
  refine PySem.W.sorted_key_data (b := false) (R := fun v (b : V × Nat) => L2.RelV b.1 v ∧ TupN X.K H2 b) (fun b : V × Nat => .str (Str.ofString (toString ((b.2 : Nat) : Int)))) isl.isList (each_of_vals rv fun b hb v hv => ⟨hv, st b hb⟩) (PySem.W.AllAlike.of fun _ _ => by simp [PySem.W.alike]) (PySem.W.Sortable.others fun _ => ⟨by simp, by simp⟩) sz
    (fun b _ => by have := hr.un; simp [PyData.depth]; omega) (PyProof.Rows.ksk_s1 _ _) (fun _ => PyProof.Rows.ksk_l1 _ _) (fun _ => PyProof.Rows.ksk_t1 _ _) (fun v b hR hb h tk kp => ?_) fun out c0 h2 tk kp hn hD hlen eo => ?_
  · obtain ⟨rb, p, vs, eb, sq, hl, hz⟩ := hR
    rw [eb] at rb
    obtain rfl : v = Value.ref p := rb
    rw [← hl]
    have I3 : Inv X pins σ H2 { s2 with heap := h, toks := tk } := I2.kept kp
    exact key_turn B L I3 r0 I3.env0.in1.in1 (kp _ _ hf) hco sq (by omega)
  · have rv2 : Vals ((bs.mergeSort keyLe).map (·.1)) out := vals_of_each (R := fun v (b : V × Nat) => L2.RelV b.1 v ∧ TupN X.K H2 b) (fun b v z => z.1) eo
    have new : ObjOk X.prog X.w (upd H2 (s2.heap.objs.size + 1) (.lst ((bs.mergeSort keyLe).map (·.1)))) h2 (s2.heap.objs.size + 1) (.lst ((bs.mergeSort keyLe).map (·.1))) := ⟨by rw [List.length_map, List.length_mergeSort]; exact sz, out, c0, rv2, hD⟩
    exact ⟨.ref _, _, I2.laid (t' := tk) kp (Nat.le_succ _) new, rfl, q4 H2 _ gx gp (I2.hok.fresh (Nat.le_succ _))⟩
end
end Kb
end
section
/-! M10: the sets that grow. -/
namespace M
/-- by the number of copies -/
def byLen (ls : List (List Int)) : List (List Int) := ls.mergeSort fun a b => decide (a.length ≤ b.length)
def larger (ls : List (List Int)) (l : List Int) : List (List Int) := ls.filter fun o => !decide (o = l) && hold o l
def growOne (ls : List (List Int)) (found : List (List (List Int))) (l : List Int) : List (List (List Int)) := found ++ (found.filter fun ch => (larger ls l).all fun o => decide (o ∈ ch)).map fun ch => ch ++ [l]
def growing (ls : List (List Int)) : List (List (List Int)) := (byLen ls).reverse.foldl (growOne ls) [[]]
end M
end
section
/-! Kb19: the sort by the lambda, by data. -/
namespace Kb
open PySem PySem.Spec PyProof.Rows L2
/-- keys of one digit -/
theorem key_dig : ∀ a b : Fin 10, PySem.W.dataLt (.str (Str.ofString (toString ((b.val : Nat) : Int)))) (.str (Str.ofString (toString ((a.val : Nat) : Int)))) = decide (b.val < a.val) := by decide +kernel
theorem keyLe_dig {x y : V × Nat} (hx : x.2 < 10) (hy : y.2 < 10) : keyLe x y = decide (x.2 ≤ y.2) := by
  have h := key_dig ⟨x.2, hx⟩ ⟨y.2, hy⟩
  show (!PySem.W.dataLt (.str (Str.ofString (toString ((y.2 : Nat) : Int)))) (.str (Str.ofString (toString ((x.2 : Nat) : Int))))) = _
  rw [h]
  by_cases z : y.2 < x.2
  · have : ¬ x.2 ≤ y.2 := by omega
    simp [z, this]
  · have : x.2 ≤ y.2 := by omega
    simp [z, this]
theorem dn_pairs {α : Type} {H : Hp} (g : α → D) : ∀ {z : List (V × α)}, (∀ x ∈ z, (g x.2).p x.1 H) → Dn ((z.map (·.2)).map g) (z.map (·.1)) H
  | [], _ => .nil
  | x :: r, h => .cons (h x (List.mem_cons_self ..)) (dn_pairs g fun y hy => h y (List.mem_cons_of_mem _ hy))
theorem dn_zip {α : Type} {H : Hp} {g : α → D} : ∀ {ls : List α} {us : List V}, Dn (ls.map g) us H → ∀ x ∈ us.zip ls, (g x.2).p x.1 H
  | [], _, h, x, hx => by cases h; simp at hx
  | a :: r, _, h, x, hx => by
    cases h with
    | cons p t =>
      rw [List.zip_cons_cons] at hx
      rcases List.mem_cons.mp hx with rfl | hx
      · exact p
      · exact dn_zip t x hx
section
variable {K : PySem.W.Frag} {env : Env'} {P : Addr} {q : QL} {i : Nat}
theorem eo_sortkey {ls : List (List Int)} (h : env[i]? = some (.dP P q (lotsL K ls))) (hz : ∀ l ∈ ls, l.length < 10) : EO (tSortKey K P (tCons (tVar i) tNil)) env ((M.byLen ls).map fun l => lotD K l) := fun σ Hb H Q e o k => by
  obtain ⟨⟨u, h1, a, us, rfl, ha, dn⟩, T, nP⟩ := o.at_ i _ h
  obtain ⟨q, rfl⟩ := q
  have lz : us.length = ls.length := by have := dn.len; rw [List.length_map] at this; exact this.symm
  have zp := dn_zip dn
  let zs := us.zip ls
  let g : V × List Int → V × Nat := fun x => (x.1, x.2.length)
  let le2 : V × List Int → V × List Int → Bool := fun x y => decide (x.2.length ≤ y.2.length)
  have z1 : zs.map (·.1) = us := List.map_fst_zip (by omega)
  have z2 : zs.map (·.2) = ls := List.map_snd_zip (by omega)
  have zm : ∀ x ∈ zs, x.2 ∈ ls := fun x hx => by rw [← z2]; exact List.mem_map_of_mem hx
  have b1 : (zs.map g).map (·.1) = us := by rw [List.map_map]; exact z1
  have srt : (zs.map g).mergeSort keyLe = (zs.mergeSort le2).map g := (List.map_mergeSort fun x hx y hy => by
    show le2 x y = keyLe (g x) (g y)
    rw [keyLe_dig (hz _ (zm x hx)) (hz _ (zm y hy))]).symm
  have srt2 : (zs.mergeSort le2).map (·.2) = M.byLen ls := by
    rw [List.map_mergeSort (r := le2) (f := fun x : V × List Int => x.2) (s := fun (a b : List Int) => decide (a.length ≤ b.length)) fun x hx y hy => rfl, z2]
    rfl
  have tn : ∀ H2, (∀ p vs, Hb p = some (.tup vs) → H2 p = some (.tup vs)) → ∀ b ∈ zs.map g, TupN K H2 b := fun H2 hk b hb => by
    obtain ⟨x, hx, rfl⟩ := List.mem_map.mp hb
    obtain ⟨p, vs, e1, e2, e3⟩ := zp x hx
    have lv : vs.length = x.2.length := by have := e3.len; rw [List.length_map] at this; exact this.symm
    have := hz _ (zm x hx)
    exact ⟨p, vs, e1, Evl.st_of (hk p vs e2), lv, by show x.2.length < 1000; omega⟩
  refine ⟨.ref a, h1, a, zs.map g, rfl, by rw [b1]; exact sq_l e ha, tn H fun p vs h => e p _ h, T, fun H2 gx => ⟨by rw [b1]; exact Evl.sq_of (gx.k (e a _ ha)), tn H2 fun p vs h => gx.k (e p _ h)⟩, fun H2 p gx gp hp => ?_⟩
  have exX : Ex Hb H2 := fun c u hc => gp c u (fun z => by rw [z, nP] at hc; cases hc) (e c u hc)
  have hp0 : H p = none := gx.no hp
  have e3 : ((zs.mergeSort le2).map g).map (·.1) = (zs.mergeSort le2).map (·.1) := by rw [List.map_map]; rfl
  rw [srt, e3]
  rw [← srt2] at k
  exact k p _ Hb _ hp0 (no_of e hp0) ⟨Evl.Ex.refl _, exX.trans (Evl.Ex.new hp), gx.trans (.of (Evl.Ex.new hp)), fun _ _ h => h⟩ upd_same (dn_pairs (fun l => lotD K l) fun x hx => zp x (List.mem_mergeSort.mp hx))
end
end Kb
end
section
namespace Kb
open PySem PySem.Spec PyProof.Rows L2
/-! growing_sets -/
abbrev N_growing_sets : List Str := ["lots", "by_size", "found", "lot", "larger", "longer", "other", "chosen"]
theorem N_growing_sets_nd : (N_growing_sets).Nodup := by decide +kernel
theorem sc_growing_sets : FnScope N_growing_sets ["lots"] (defScope (top 50)) := ⟨rfl, rfl, rfl, N_growing_sets_nd, rfl, by decide +kernel, by decide +kernel⟩
abbrev t_growing_sets (K : PySem.W.Frag) (tabP : Addr) (s_holds : Sp) : TS := (tSeq (tAsg (tSortKey K tabP (tCons (tVar 0) tNil)) (gName 1)) (tSeq (tAsg (tLst (tCons (tTup tNil) tNil)) (gName 2)) (tSeq (tFor (iList K (tRevL K (tVar 1))) (gName 3) (tSeq (tAsg (tLc (iList K (tVar 0)) (gName 6) (tAnd (tTest (tOp (rNeD K) (tVar 6) (tVar 3))) (tB (tCl s_holds (tCons (tVar 6) (tCons (tVar 3) tNil))))) (tVar 6) [6]) (gName 4)) (tSeq (tAsg (tLc (iList K (tVar 2)) (gName 7) (tB (tCB (rAll K) (tCons (tLc (iList K (tVar 4)) (gName 6) tYes (tOp (rInDT K) (tVar 6) (tVar 7)) [6]) tNil))) (tOp (rCatA K) (tVar 7) (tTup (tCons (tVar 3) tNil))) [7]) (gName 5)) (tDrop (tBM K "list" rExtend (tVar 2) (tCons (tCB (cList K) (tCons (tVar 5) tNil)) tNil)))))) (tRet (tVar 2)))))
theorem rd_growing_sets {P : Program} {w : World} {K : PySem.W.Frag} {mg : Str → Option Value} {base : Heap} {s_holds : Sp} {cc tabP : Addr} (TB : LamX.TabB base mg cc tabP) (B : Bi mg) (g_holds : GF P w K mg base 1 "holds" s_holds) {f : Addr} {cdv : Value} (hcode : cdv = .ref cc) {A : Around} {outer : List Env} {s : Shared} {H : Hp} {E : XK} (hr : Room 1 (A.deeper (envOfC "growing_sets" (defScope (top 50)) s.heap.objs.size f cdv))) : PSs (cxOf CX0 P w K mg base N_growing_sets "growing_sets" (defScope (top 50)) f cdv A outer s H E) (defBody (top 50)) (t_growing_sets K tabP s_holds) := by
  have hu64 : (A.deeper (envOfC "growing_sets" (defScope (top 50)) s.heap.objs.size f cdv)).units + 64 < cLine := by have := hr.un; omega
  have hu65 : (A.deeper (envOfC "growing_sets" (defScope (top 50)) s.heap.objs.size f cdv)).units + 65 < cLine := by have := hr.un; omega
  exact PSs.nox (pss_cons (ps_set (i := 1) N_growing_sets_nd rfl (by first | exact Or.inl rfl | exact Or.inr rfl) (pe_sortkey B (by exact ⟨⟨rfl, rfl, rfl, by decide, rfl, by decide +kernel, by decide +kernel⟩, fun _ => rfl, fun _ _ _ _ _ _ _ => rfl, fun _ => rfl, .inl rfl, rfl, rfl, by decide, by decide⟩) TB hcode (by rfl) (by rfl) hr (pa_cons (pv 0) pa_nil))) (pss_cons (ps_set (i := 2) N_growing_sets_nd rfl (by first | exact Or.inl rfl | exact Or.inr rfl) (pe_lst (pa_cons (pe_tup pa_nil) pa_nil))) (pss_cons (ps_for PassesOwn.never rfl (pi_list (pe_revL (pv 1))) (pg_name (i := 3) N_growing_sets_nd rfl (by first | exact Or.inl rfl | exact Or.inr rfl)) (pss_cons (ps_set (i := 4) N_growing_sets_nd rfl (by first | exact Or.inl rfl | exact Or.inr rfl) (pe_lc (own := [("other", 6)]) (g := (gName 6)) (tt := (tAnd (tTest (tOp (rNeD K) (tVar 6) (tVar 3))) (tB (tCl s_holds (tCons (tVar 6) (tCons (tVar 3) tNil)))))) (te := (tVar 6)) rfl N_growing_sets_nd (pi_list (pv 0)) (blkOk_by (by kernel_rfl)) (fun _ _ _ _ _ => (pg_name (i := 6) N_growing_sets_nd rfl (by first | exact Or.inl rfl | exact Or.inr rfl))) (fun _ _ _ _ _ => (pts_one (PW.pt (pw_and (pt_cmpR (op_neD hu64) (pv 6) (pv 3) (nomark _)) (pw_and1 (pt_val (pe_g g_holds hr (by decide) (by rfl) (pa_cons (pv 6) (pa_cons (pv 3) pa_nil))))))))) (fun _ _ _ _ _ => (pv 6)))) (pss_cons (ps_setLc (i := 5) (own := [("chosen", 7)]) (g := (gName 7)) (tt := (tB (tCB (rAll K) (tCons (tLc (iList K (tVar 4)) (gName 6) tYes (tOp (rInDT K) (tVar 6) (tVar 7)) [6]) tNil)))) (te := (tOp (rCatA K) (tVar 7) (tTup (tCons (tVar 3) tNil))))  rfl N_growing_sets_nd rfl rfl (sw_true rfl rfl rfl (by kernel_rfl)) (pi_list (pv 2)) (blkOk_by (by kernel_rfl)) (fun _ _ _ _ _ => (pg_name (i := 7) N_growing_sets_nd rfl (by first | exact Or.inl rfl | exact Or.inr rfl))) (fun _ _ _ _ _ => (pts_one (pt_val (pe_callB (cr_all rfl) (by rfl) B.all bb_all (pa_cons (pe_lc (own := [("other", 6)]) (g := (gName 6)) (tt := tYes) (te := (tOp (rInDT K) (tVar 6) (tVar 7))) rfl N_growing_sets_nd (pi_list (pv 4)) (blkOk_by (by kernel_rfl)) (fun _ _ _ _ _ => (pg_name (i := 6) N_growing_sets_nd rfl (by first | exact Or.inl rfl | exact Or.inr rfl))) (fun _ _ _ _ _ => pts_nil) (fun _ _ _ _ _ => (pe_cmpR (op_inDT hu65) (pv 6) (pv 7) (by rfl)))) pa_nil))))) (fun _ _ _ _ _ => (pe_op op_catA (pv 7) (pe_tup (pa_cons (pv 3) pa_nil))))) (pss_one (ps_expr (pe_bm PySem.F.plainAttrs_list PySem.F.slot_list_extend PySem.F.type_list_extend mt_extend (pv 2) (pa_cons (pe_callTy call_list_of (by rfl) B.list bb_list (pa_cons (pv 5) pa_nil)) pa_nil))))))) (pss_one (ps_ret (pv 2))))))

end Kb
end
section
/-! Kb20: promises that ask for the table of code objects. -/
namespace Kb
open PySem PySem.Spec PyProof.Rows L2
abbrev qL : QL := ⟨qLam, rfl⟩
def PT (P : Addr) (R : List D → D → Prop) : Sp := fun vs H Q _ => ∃ xs r Hb, R xs r ∧ Ex Hb H ∧ Dn xs vs Hb ∧ LamX.TabS H P qLam ∧ Hb P = none ∧ ∀ v Hb2 H2, Fr Hb H Hb2 H2 → r.p v Hb2 → Q v H2
theorem ed_callP {env : Env'} {tr : TA} {xs : List D} {z y : D} {P : Addr} {R : List D → D → Prop} (j : Nat) (h0 : env[j]? = some (.dP P qL y)) (h : EA tr env xs) (hR : R xs z) : ED (tCl (PT P R) tr) env z := fun σ Hb H Q e o q =>
  h σ Hb H _ e o fun vs Hb2 H2 f2 p2 => by
    have t := (o.at_ j _ h0).fr f2
    exact ⟨xs, z, Hb2, hR, f2.s, p2, t.2.1, t.2.2, fun v Hb3 H3 f3 p3 => q v Hb3 H3 (f2.trans f3) p3⟩
/-- the slots at the entry, the first with the table -/
def startP (P : Addr) (n : Nat) (xs : List D) : Env' := match xs with
  | [] => startE n []
  | x :: r => (startE n (x :: r)).set 0 (.dP P qL x)
theorem StOk.startP {N : List Str} {xs : List D} {vs : List V} {Hb H : Hp} {P : Addr} (e : Ex Hb H) (d : Dn xs vs Hb) (hl : xs.length ≤ N.length) (t : LamX.TabS H P qLam) (n : Hb P = none) : StOk Hb H (startP P N.length xs) (L2.start N vs) Hb H := by
  have o := StOk.start (N := N) e d hl
  cases xs with
  | nil => exact o
  | cons x r =>
    refine ⟨⟨by show _ = List.length (List.set _ _ _); rw [List.length_set]; exact o.sl.len, fun i y h => ?_⟩, o.fr, fun i ys h => ?_, fun i j ys zs h => ?_⟩
    · have h : ((startE N.length (x :: r)).set 0 (.dP P qL x))[i]? = some y := h
      by_cases z : i = 0
      · subst z
        rw [List.getElem?_set_self (by unfold startE; simp)] at h
        cases h
        exact ⟨o.sl.at_ 0 (.d x) rfl, t, n⟩
      · rw [List.getElem?_set_ne (fun w => z w.symm)] at h
        exact o.sl.at_ i y h
    · rcases set_own h with ⟨_, z, _⟩ | ⟨_, z⟩
      · cases z
      · exact o.own i ys z
    · rcases set_own h with ⟨_, z, _⟩ | ⟨_, z⟩
      · cases z
      · intro h2
        rcases set_own h2 with ⟨_, w, _⟩ | ⟨_, w⟩
        · cases w
        · exact o.one i j ys zs z w
/-- the def x at st whose code object is at c, with the table at P -/
structure DfT (K : PySem.W.Frag) (mg : Str → Option Value) (base : Heap) (x : Str) (st : Stmt) (P : Addr) : Prop where
  ex : ∃ c f fd oc od dV kV doc pm an ct osl, mg x = some (.ref f) ∧ PySem.W.keepIn K (.ref f) = true ∧ fd = PySem.W.fnOf x x (defArgs st) (defBody st) (defScope st) dV kV doc pm an (.ref c) ct ∧ K.lookup f = some ⟨oc, od, .func fd, osl⟩ ∧ PySem.W.codeIn K (.ref c) x = true ∧ DflV K dV [] ∧ KwdV K kV [] ∧ LamX.TabB base mg c P
section
variable {P : Program} {w : World} {K : PySem.W.Frag} {mg : Str → Option Value} {base : Heap} {x : Str} {st : Stmt} {N ps : List Str} {k : Nat} {R : List D → D → Prop} {tP : Addr}
theorem pt_len (hl : ∀ xs z, R xs z → xs.length = ps.length) : ∀ vs H Q E, PT tP R vs H Q E → vs.length = ps.length := fun vs H Q E q => by
  obtain ⟨xs, r, Hb, hR, _, d, _⟩ := q
  rw [← d.len]
  exact hl xs r hR
theorem pt_le (S : FnScope N ps (defScope st)) {xs : List D} (h : xs.length = ps.length) : xs.length ≤ N.length := by
  have := congrArg List.length S.pre
  rw [List.length_take] at this
  omega
theorem gf_ofP {t : TS} (Df : DfG K mg x st) (S : FnScope N ps (defScope st)) (hl : ∀ xs z, R xs z → xs.length = ps.length) (hb : Binds0 x x st ps) (rd : Body P w K mg base N x st k t) (dd : ∀ xs z, R xs z → SR t (startP tP N.length xs) z) : GF P w K mg base (k + 1) x (PT tP R) := by
  obtain ⟨f, hm, fd, F⟩ := Df.ex
  have ok := FunD.ok (CX := CX0) (P := P) (w := w) (mg := mg) (base := base) (k := k) (sp := PT tP R) F S (pt_len hl) fun cdv A outer s H vs Q E hr q => by
    obtain ⟨xs, r, Hb, hR, e, d, T, n, q⟩ := q
    exact ⟨t, rd f cdv A outer s H E hr, dd xs r hR Hb H _ Hb H _ (StOk.startP e d (pt_le S (hl xs r hR)) T n) fun v Hb2 H2 f p => q v Hb2 H2 f p⟩
  have b : Binds K fd ps [] := F.bindsN fun kV doc pm an cdv ct us hus => hb doc pm an cdv ct kV us hus
  exact ⟨f, (ok.raw b .nil).imp fun vs H Q E q => by rw [List.append_nil]; exact q, F.kp, hm⟩
/-- .. the reading asked for its own code object alone -/
theorem gf_ofT {t : TS} (Df : DfT K mg base x st tP) (S : FnScope N ps (defScope st)) (hl : ∀ xs z, R xs z → xs.length = ps.length) (hb : Binds0 x x st ps)
    (rd : ∀ (c f : Addr) (A : Around) (outer : List Env) (s : Shared) (H : Hp) (E : XK), LamX.TabB base mg c tP → Room k (A.deeper (envOfC x (defScope st) s.heap.objs.size f (.ref c))) → PSs (cxOf CX0 P w K mg base N x (defScope st) f (.ref c) A outer s H E) (defBody st) t)
    (dd : ∀ xs z, R xs z → SR t (startP tP N.length xs) z) : GF P w K mg base (k + 1) x (PT tP R) := by
  obtain ⟨c, f, fd, oc, od, dV, kV, doc, pm, an, ct, osl, hm, kp, efd, lk, hcd, hD, hK, TB⟩ := Df.ex
  have F : FunD K x x (defArgs st) (defBody st) (defScope st) [] [] f fd := ⟨⟨oc, od, dV, kV, doc, pm, an, .ref c, ct, osl, efd, lk, hcd, hD, hK⟩, kp⟩
  subst efd
  have ok := fn_of (CX := CX0) (P := P) (w := w) (mg := mg) (base := base) (k := k) (sp := PT tP R) lk hcd S (pt_len hl) fun A outer s H vs Q E hr q => by
    obtain ⟨xs, r, Hb, hR, e, d, T, n, q⟩ := q
    exact ⟨t, rd c f A outer s H E TB hr, dd xs r hR Hb H _ Hb H _ (StOk.startP e d (pt_le S (hl xs r hR)) T n) fun v Hb2 H2 f p => q v Hb2 H2 f p⟩
  have b : Binds K _ ps [] := F.bindsN fun kV doc pm an cdv ct us hus => hb doc pm an cdv ct kV us hus
  exact ⟨f, (ok.raw b .nil).imp fun vs H Q E q => by rw [List.append_nil]; exact q, kp, hm⟩
/-- .. where no guard stands -/
theorem gg_ofP {t : TS} (Df : DfG K mg x st) (S : FnScope N ps (defScope st)) (hl : ∀ xs z, R xs z → xs.length = ps.length) (hb : Binds0 x x st ps)
    (rd : ∀ (f : Addr) (cdv : Value) (A : Around) (outer : List Env) (s : Shared) (H : Hp) (E : XK), A.guards = some [] → Room k (A.deeper (envOfC x (defScope st) s.heap.objs.size f cdv)) → PSs (cxOf CX0 P w K mg base N x (defScope st) f cdv A outer s H E) (defBody st) t)
    (dd : ∀ xs z, R xs z → SR t (startP tP N.length xs) z) : GG P w K mg base (k + 1) x (PT tP R) := by
  obtain ⟨f, hm, fd, F⟩ := Df.ex
  refine ⟨f, fn_rawG F S (pt_len hl) (fun doc pm an cdv ct kV us h => hb doc pm an cdv ct kV us h) fun cdv A outer s H vs Q E gd hr q => ?_, F.kp, hm⟩
  obtain ⟨xs, r, Hb, hR, e, d, T, n, q⟩ := q
  exact ⟨t, rd f cdv A outer s H E gd hr, dd xs r hR Hb H _ Hb H _ (StOk.startP e d (pt_le S (hl xs r hR)) T n) fun v Hb2 H2 f p => q v Hb2 H2 f p⟩
end
end Kb
end
section
/-! Kd14: growing_sets. -/
namespace Kb
open PySem PySem.Spec PyProof.Rows L2 M
section
variable {P : Program} {w : World} {K : PySem.W.Frag} {mg : Str → Option Value} {base : Heap} {aR aC aF tP : Addr}
abbrev setsL (K : PySem.W.Frag) (cs : List (List (List Int))) : D := dl (cs.map fun c => lotsT K c)
theorem grow_len (ls : List (List Int)) : ∀ (bs : List (List Int)) (found : List (List (List Int))) (a b : Nat), found.length ≤ 2 ^ a → (∀ c ∈ found, c.length ≤ b) → (bs.foldl (growOne ls) found).length ≤ 2 ^ (a + bs.length) ∧ ∀ c ∈ bs.foldl (growOne ls) found, c.length ≤ b + bs.length
  | [], found, a, b, h, h2 => ⟨h, h2⟩
  | x :: r, found, a, b, h, h2 => by
    have := grow_len ls r (growOne ls found x) (a + 1) (b + 1) (by
      unfold growOne
      rw [List.length_append, List.length_map, Nat.pow_succ]
      have := List.length_filter_le (fun ch => (larger ls x).all fun o => decide (o ∈ ch)) found
      omega) fun c hc => by
        unfold growOne at hc
        rcases List.mem_append.mp hc with hc | hc
        · have := h2 c hc
          omega
        · obtain ⟨d, hd, rfl⟩ := List.mem_map.mp hc
          have := h2 d (List.mem_filter.mp hd).1
          simp
          omega
    rw [List.foldl_cons, List.length_cons, show a + (r.length + 1) = a + 1 + r.length by omega, show b + (r.length + 1) = b + 1 + r.length by omega]
    exact this
inductive Rgrowing_sets (K : PySem.W.Frag) : List D → D → Prop
  | mk {ls : List (List Int)} : ls.length ≤ 14 → (∀ l ∈ ls, l.length < 10) → Rgrowing_sets K [lotsL K ls] (setsL K (growing ls))
theorem fn_growing_sets (B : Bi mg) (g : GF P w K mg base 1 "holds" (Pr (Rholds K))) (Df : DfT K mg base "growing_sets" (top 50) tP) : GF P w K mg base 2 "growing_sets" (PT tP (Rgrowing_sets K)) :=
  gf_ofT Df sc_growing_sets (fun _ _ h => by cases h; rfl) (fun _ _ _ _ _ _ us h => match us, h with | [_], _ => rfl) (fun _ _ _ _ _ _ _ TB hr => rd_growing_sets TB B g rfl hr) fun xs z h => by
    cases h with
    | @mk ls h1 h2 =>
      let bs := (byLen ls).reverse
      have hbl : bs.length ≤ 14 := by
        show ((byLen ls).reverse).length ≤ 14
        unfold byLen
        rw [List.length_reverse, List.length_mergeSort]
        exact h1
      have hbm : ∀ l ∈ bs, l.length < 10 := fun l hl => h2 l (by
        have : l ∈ (byLen ls).reverse := hl
        unfold byLen at this
        exact List.mem_mergeSort.mp (List.mem_reverse.mp this))
      let F := fun (i : Nat) => (bs.take i).foldl (growOne ls) [[]]
      have hF : ∀ i, (F i).length ≤ 16384 ∧ ∀ c ∈ F i, c.length ≤ 14 := fun i => by
        have ht : (bs.take i).length ≤ 14 := by rw [List.length_take]; omega
        have := grow_len ls (bs.take i) [[]] 0 0 (by simp) (by simp)
        refine ⟨Nat.le_trans this.1 (Nat.le_trans (Nat.pow_le_pow_right (by decide) (show 0 + (bs.take i).length ≤ 14 by omega)) (by decide)), fun c hc => ?_⟩
        have := this.2 c hc
        omega
      refine (sr_seq (sb_asg (EO.ed (eo_sortkey (i := 0) rfl h2)))
    (sr_seq (sb_own (eo_lst (ea_cons (ed_tup ea_nil rfl) ea_nil) rfl))
    (sr_seq (env' := [.dP tP qL (lotsL K ls), .d (lotsL K (byLen ls)), .own ((growing ls).map fun c => lotsT K c), .no, .no, .no, .no, .no]) (sb_eq (sb_forL bs (fun l => lotD K l) (fun i => [.dP tP qL (lotsL K ls), .d (lotsL K (byLen ls)), .own ((F i).map fun c => lotsT K c), .no, .no, .no, .no, .no]) (ed_is (EO.ed (eo_rev (xs := (byLen ls).map fun l => lotD K l) (ed_var rfl))) (by show dl _ = dl _; rw [List.map_reverse])) (.eq (.eq (.eq (.eq (.eq (.eq (.eq (.eq .nil)))))))) _ (fun i a ha => tj_name) fun i a ha => sb_fg (sb_seq (sb_asg (ed_is (EO.ed (eo_LI ls (fun l => lotD K l) (fun o => !decide (o = a) && hold o a) (ed_varP rfl) (by omega) (by decide) rfl fun o ho => (et_and (et_test (ed_op (ed_var rfl) (ed_var rfl) od_neT)) fun _ => (et_B (ed_call (ea_cons (ed_var rfl) (ea_cons (ed_var rfl) ea_nil)) (.mk ?_)))))) (show _ = lotsL K (larger ls a) from rfl))) (sb_seq (sb_asg (EO.ed (eo_lcO (i := 2) (F i) (fun c => lotsT K c) (fun ch => (larger ls a).all fun o => decide (o ∈ ch)) (fun ch => lotsT K (ch ++ [a])) rfl ?_ (by decide) (fun ch hch => (et_B (ed_cb (ea_cons (EO.ed (eo_L0 (larger ls a) (fun o => lotD K o) (fun o => db (decide (o ∈ ch))) (ed_var rfl) ?_ (by decide) fun o ho => (ed_op (ed_var rfl) (ed_var rfl) od_inTT))) ea_nil) cd_allF))) fun ch hch _ => (ed_is (ed_op (ed_var rfl) (ed_tup (ea_cons (ed_var rfl) ea_nil) rfl) (od_catA ?_)) ?_)))) (sb_ext rfl (eo_lstL (ea_cons (ed_var rfl) ea_nil)) ?_))) ?_) ?_)
    (sr_keep 2 rfl (sr_ret (ed_var rfl))))))
      · have := hbm a (List.mem_of_getElem? ha)
        omega
      · have := (hF i).1
        omega
      · have := List.length_filter_le (fun o => !decide (o = a) && hold o a) ls
        show (ls.filter fun o => !decide (o = a) && hold o a).length < 90000
        omega
      · have := (hF i).2 ch hch
        rw [List.length_map, List.length_cons, List.length_nil]
        omega
      · show dt K _ = dt K _
        rw [List.map_append]
        rfl
      · have := (hF i).1
        have := List.length_filter_le (fun ch => (larger ls a).all fun o => decide (o ∈ ch)) (F i)
        rw [List.length_map, List.length_map]
        omega
      · have e : F (i + 1) = F i ++ ((F i).filter fun ch => (larger ls a).all fun o => decide (o ∈ ch)).map fun ch => ch ++ [a] := by
          show (bs.take (i + 1)).foldl _ _ = _
          rw [List.take_add_one, ha, List.foldl_append]
          rfl
        have e2 : (F (i + 1)).map (fun c => lotsT K c) = (F i).map (fun c => lotsT K c) ++ ((F i).filter fun ch => (larger ls a).all fun o => decide (o ∈ ch)).map fun ch => lotsT K (ch ++ [a]) := by
          rw [e, List.map_append, List.map_map]
          rfl
        show Fg _ [_, _, .own ((F (i + 1)).map fun c => lotsT K c), _, _, _, _, _]
        rw [e2]
        exact .eq (.eq (.eq (.no (.no (.no (.no (.no .nil)))))))
      · have : F bs.length = growing ls := by
          show (bs.take bs.length).foldl _ _ = _
          rw [List.take_length]
          rfl
        rw [this]
end
end Kb
end
section
/-! M11: all lots of a family, chances of a family, worths. -/
namespace M
def every (n : Nat) (ls : List (List Int)) : List (List Int) := (allLots n).filter fun l => contains ls l
def upQ (qs : List Rat) (ls : List (List Int)) : Rat := totalQ ((every qs.length ls).map (prob qs))
def worthQ (qs : List Rat) (s : Rat) (reads writes : List (List Int)) : Rat := s * upQ qs reads + (((1 : Int) : Rat) - s) * upQ qs writes
def mostStrict (qs : List Rat) (s : Rat) : Rat := if Rat.divInt 1 2 ≤ s then mostWorth qs s else upQ qs (heavyF qs)
def strictW (qs : List Rat) (s : Rat) : List (List Int) := if Rat.divInt 1 2 ≤ s then leastW qs s else heavyF qs
end M
end
section
/-! Kd15: worths and the strict ones, from the chances of a family. -/
namespace M
theorem every_len {n : Nat} (ls : List (List Int)) : (every n ls).length ≤ 2 ^ n := by
  unfold every
  refine Nat.le_trans (List.length_filter_le _ _) ?_
  have : ∀ n, (allLots n).length = 2 ^ n := fun n => by
    induction n with
    | zero => rfl
    | succ n ih => rw [allLots, List.length_append, List.length_map, ih, Nat.pow_succ]; omega
  rw [this]
  exact Nat.le_refl _
end M
namespace Kb
open PySem PySem.Spec PyProof.Rows L2 M
section
variable {P : Program} {w : World} {K : PySem.W.Frag} {mg : Str → Option Value} {base : Heap} {aR aC aF tP : Addr}
theorem up_bd {qs : List Rat} (h : ∀ q ∈ qs, ChOk q) (h4 : qs.length ≤ 4) (ls : List (List Int)) : Bd 300 (upQ qs ls) := by
  have hl := every_len (n := qs.length) ls
  have hp := pow_le16 h4
  have := fold_bd 17 ((every qs.length ls).map (prob qs)) 1 0 (fun q hq => by
    obtain ⟨l, _, rfl⟩ := List.mem_map.mp hq
    exact (prob_bd h l).mono (by omega)) (by unfold Bd; decide)
  refine this.mono ?_
  rw [List.length_map]
  omega
inductive Rup (K : PySem.W.Frag) (aF aC aR : Addr) : List D → D → Prop
  | mk {qs : List Rat} {ls : List (List Int)} : 1 ≤ qs.length → qs.length ≤ 4 → (∀ q ∈ qs, ChOk q) → (∀ m ∈ ls, m.length < 1000) → ls.length ≤ 256 → Rup K aF aC aR [chD K aC aR qs, famD K aF qs.length ls] (ratD aR (upQ qs ls))
inductive Rworth (K : PySem.W.Frag) (aF aC aR : Addr) : List D → D → Prop
  | mk {qs : List Rat} {s : Rat} {a b : List (List Int)} : InOk qs s → qs.length ≤ 4 → meetsF a b = true → (∀ m ∈ a, m.length < 1000) → a.length ≤ 256 → (∀ m ∈ b, m.length < 1000) → b.length ≤ 256 → Rworth K aF aC aR [chD K aC aR qs, ratD aR s, famD K aF qs.length a, famD K aF qs.length b] (ratD aR (worthQ qs s a b))
theorem fn_worth (B : Bi mg) (rf : RatF P w K mg base aR) (kc : KCh K mg aC) (cs : GF P w K mg base 7 "check_share" (Pr (Rcheck_share aR))) (cm : GF P w K mg base 2 "check_meeting" (Pr (Rcheck_meeting K aF))) (ln : OpF P w K mg base 1 aC "__len__" (Pr (Rlen K aC aR))) (tu : TF P w K mg base 8 aC "up" (Pr (Rup K aF aC aR))) (Df : DfG K mg "worth" (top 38)) : GF P w K mg base 9 "worth" (Pr (Rworth K aF aC aR)) := by
  obtain ⟨fs, hfs⟩ := rf.fs
  exact gf_of Df sc_worth (fun _ _ h => by cases h; rfl) (fun _ _ _ _ _ _ us h => match us, h with | [_, _, _, _], _ => rfl) (fun _ _ _ _ _ _ _ hr => rd_worth B cs cm ln tu rf.mul rf.rsub rf.kr.subI hfs rf.add hr) fun xs z h => by
    cases h with
    | @mk qs s a b h1 h4 h2 ha ha2 hb hb2 =>
      have bs := h1.sh.bd
      have u1 := up_bd h1.ch h4 a
      have u2 := up_bd h1.ch h4 b
      have a1 := (bd_int (i := 1) (b := 1) (by decide) (by decide)).sub bs
      exact (sr_seq (sb_drop (ed_call (ea_cons (ed_var rfl) ea_nil) (.mk h1.sh)))
    (sr_seq (sb_drop (ed_call (ea_cons (ed_cb (ea_cons (ed_var rfl) ea_nil) (cd_lenO .mk (by omega))) (ea_cons (ed_var rfl) (ea_cons (ed_var rfl) ea_nil))) (.mk h2 ha)))
    (sr_ret (ed_op (ed_op (ed_var rfl) (ed_meth (ed_var rfl) rfl (ea_cons (ed_var rfl) ea_nil) (.mk h1.n1 h4 h1.ch ha ha2)) (od_own (.mk (bs.mono (by decide)) (u1.mono (by decide))))) (ed_op (ed_op ed_c (ed_var rfl) (od_ownR (.mk (bs.mono (by decide)) (by decide)))) (ed_meth (ed_var rfl) rfl (ea_cons (ed_var rfl) ea_nil) (.mk h1.n1 h4 h1.ch hb hb2)) (od_own (.mk (a1.mono (by decide)) (u2.mono (by decide))))) (od_own (.mk ((bs.mul u1).mono (by decide)) ((a1.mul u2).mono (by decide))))))))
/-- what of the heavy lots is asked -/
structure HvOk (qs : List Rat) : Prop where
  ne : (allLots qs.length).filter (heavier qs) ≠ []
  no : ∀ l ∈ (allLots qs.length).filter (heavier qs), l ≠ []
inductive Rstrict_writes (K : PySem.W.Frag) (aF aC aR : Addr) : List D → D → Prop
  | mk {qs : List Rat} {s : Rat} : InOk qs s → HvOk qs → Rstrict_writes K aF aC aR [chD K aC aR qs, ratD aR s] (famD K aF qs.length (strictW qs s))
theorem fn_strict_writes (B : Bi mg) (rf : RatF P w K mg base aR) (cs : GF P w K mg base 7 "check_share" (Pr (Rcheck_share aR))) (gl : GF P w K mg base 10 "least_writes" (Pr (Rleast_writes K aF aC aR))) (gh : GF P w K mg base 9 "heavy" (Pr (Rheavy K aF aC aR))) (Df : DfG K mg "strict_writes" (top 57)) : GF P w K mg base 11 "strict_writes" (Pr (Rstrict_writes K aF aC aR)) :=
  gf_of Df sc_strict_writes (fun _ _ h => by cases h; rfl) (fun _ _ _ _ _ _ us h => match us, h with | [_, _], _ => rfl) (fun _ _ _ _ _ _ _ hr => rd_strict_writes B cs rf.kr.nm rf.half rf.ge gl gh hr) fun xs z h => by
    cases h with
    | @mk qs s h1 h2 =>
      exact (sr_seq (sb_drop (ed_call (ea_cons (ed_var rfl) ea_nil) (.mk h1.sh)))
    (sr_when (et_test (ed_op (ed_var rfl) (ed_call ea_nil .mk) (od_own (.mk (h1.sh.bd.mono (by decide)) (by unfold Bd; decide))))) (fun h => (sr_ret (ed_is (ed_call (ea_cons (ed_var rfl) (ea_cons (ed_var rfl) ea_nil)) (.mk h1)) (by unfold strictW; rw [if_pos (of_decide_eq_true h)])))) fun h => (sr_ret (ed_is (ed_call (ea_cons (ed_var rfl) ea_nil) (.mk h1.n1 h1.n8 h1.ch h2.ne h2.no)) (by unfold strictW; rw [if_neg (of_decide_eq_false h)])))))
inductive Rmost_strict (K : PySem.W.Frag) (aC aR : Addr) : List D → D → Prop
  | mk {qs : List Rat} {s : Rat} : InOk qs s → qs.length ≤ 4 → HvOk qs → Rmost_strict K aC aR [chD K aC aR qs, ratD aR s] (ratD aR (mostStrict qs s))
theorem fn_most_strict (B : Bi mg) (rf : RatF P w K mg base aR) (kc : KCh K mg aC) (cs : GF P w K mg base 7 "check_share" (Pr (Rcheck_share aR))) (gw : GF P w K mg base 10 "most_worth" (Pr (Rmost_worth K aC aR))) (tu : TF P w K mg base 8 aC "up" (Pr (Rup K aF aC aR))) (gh : GF P w K mg base 9 "heavy" (Pr (Rheavy K aF aC aR))) (Df : DfG K mg "most_strict" (top 58)) : GF P w K mg base 11 "most_strict" (Pr (Rmost_strict K aC aR)) :=
  gf_of Df sc_most_strict (fun _ _ h => by cases h; rfl) (fun _ _ _ _ _ _ us h => match us, h with | [_, _], _ => rfl) (fun _ _ _ _ _ _ _ hr => rd_most_strict B cs rf.kr.nm rf.half rf.ge gw tu gh hr) fun xs z h => by
    cases h with
    | @mk qs s h1 h4 h2 =>
      have fb := fam_bounds (ls := (allLots qs.length).filter (heavier qs)) h1.n8
      exact (sr_seq (sb_drop (ed_call (ea_cons (ed_var rfl) ea_nil) (.mk h1.sh)))
    (sr_when (et_test (ed_op (ed_var rfl) (ed_call ea_nil .mk) (od_own (.mk (h1.sh.bd.mono (by decide)) (by unfold Bd; decide))))) (fun h => (sr_ret (ed_is (ed_call (ea_cons (ed_var rfl) (ea_cons (ed_var rfl) ea_nil)) (.mk h1 h4)) (by unfold mostStrict; rw [if_pos (of_decide_eq_true h)])))) fun h => (sr_ret (ed_is (ed_meth (ed_var rfl) rfl (ea_cons (ed_call (ea_cons (ed_var rfl) ea_nil) (.mk h1.n1 h1.n8 h1.ch h2.ne h2.no)) ea_nil) (.mk h1.n1 h4 h1.ch fb.1 fb.2)) (by unfold mostStrict; rw [if_neg (of_decide_eq_false h)])))))
end
end Kb
end
section
/-! Kd16: best writes counted, listed; is_best_strict. -/
namespace Kb
open PySem PySem.Spec PyProof.Rows L2 M
section
variable {P : Program} {w : World} {K : PySem.W.Frag} {mg : Str → Option Value} {base : Heap} {aR aC aF tP : Addr}
inductive Ris_best_strict (K : PySem.W.Frag) (aF aC aR : Addr) : List D → D → Prop
  | mk {qs : List Rat} {s : Rat} {ls : List (List Int)} : InOk qs s → qs.length ≤ 4 → HvOk qs → (∀ m ∈ ls, m.length < 1000) → ls.length ≤ 256 → dualLots qs.length ls ≠ [] → (∀ l ∈ dualLots qs.length ls, l ≠ []) → (meetsF ls ls = true → meetsF (mkFam qs.length (dualLots qs.length ls)) ls = true) →
      Ris_best_strict K aF aC aR [chD K aC aR qs, ratD aR s, famD K aF qs.length ls] (db (meetsF ls ls && decide (worthQ qs s (mkFam qs.length (dualLots qs.length ls)) ls = mostStrict qs s)))
theorem fn_is_best_strict (B : Bi mg) (kf : KFam K mg aF) (rf : RatF P w K mg base aR) (cs : GF P w K mg base 7 "check_share" (Pr (Rcheck_share aR))) (ln : OpF P w K mg base 1 aC "__len__" (Pr (Rlen K aC aR))) (ts : TF P w K mg base 3 aF "is_strict" (Pr (Ris_strict K aF))) (gw : GF P w K mg base 9 "worth" (Pr (Rworth K aF aC aR))) (td : TF P w K mg base 6 aF "dual" (Pr (Rdual K aF))) (gm : GF P w K mg base 11 "most_strict" (Pr (Rmost_strict K aC aR))) (Df : DfG K mg "is_best_strict" (top 59)) : GF P w K mg base 12 "is_best_strict" (Pr (Ris_best_strict K aF aC aR)) :=
  gf_of Df sc_is_best_strict (fun _ _ h => by cases h; rfl) (fun _ _ _ _ _ _ us h => match us, h with | [_, _, _], _ => rfl) (fun _ _ _ _ _ _ _ hr => rd_is_best_strict B cs ln ts gw td gm rf.eq hr) fun xs z h => by
    cases h with
    | @mk qs s ls h1 h4 h2 h3 h5 h6 h7 h8 =>
      have fb := fam_bounds (ls := dualLots qs.length ls) h1.n8
      refine (sr_seq (sb_drop (ed_call (ea_cons (ed_var rfl) ea_nil) (.mk h1.sh)))
    (sr_seq (sb_not (et_is (et_test (ed_op (ed_fld (ed_var rfl) kf.cl kf.copies rfl) (ed_cb (ea_cons (ed_var rfl) ea_nil) (cd_lenO .mk (by omega))) od_nei)) ?_))
    (sr_ret (ed_and (ed_meth (ed_var rfl) rfl ea_nil (.mk h3 h5)) fun hm => (ed_op (ed_call (ea_cons (ed_var rfl) (ea_cons (ed_var rfl) (ea_cons (ed_meth (ed_var rfl) rfl ea_nil (.mk h1.n1 h1.n8 h3 h5 h6 h7)) (ea_cons (ed_var rfl) ea_nil)))) (.mk h1 h4 (h8 hm) fb.1 fb.2 h3 h5)) (ed_call (ea_cons (ed_var rfl) (ea_cons (ed_var rfl) ea_nil)) (.mk h1 h4 h2)) (od_own .mk))))))
      simp
theorem level_ok {n : Nat} (h4 : n ≤ 4) (f : List Int → Bool) : ((M.middle n).filter f).length ≤ 14 ∧ ∀ l ∈ (M.middle n).filter f, l.length < 10 := by
  have hm : ∀ n : Fin 5, (M.middle n.val).length ≤ 14 ∧ ∀ l ∈ M.middle n.val, l.length < 10 := by decide +kernel
  have := hm ⟨n, by omega⟩
  exact ⟨Nat.le_trans (List.length_filter_le _ _) this.1, fun l hl => this.2 l (List.mem_filter.mp hl).1⟩
inductive Rcount_best (K : PySem.W.Frag) (aC aR : Addr) : List D → D → Prop
  | mk {qs : List Rat} {s : Rat} : InOk qs s → qs.length ≤ 4 → Rcount_best K aC aR [chD K aC aR qs, ratD aR s] (di ((growing (levelL qs s)).length : Nat))
theorem fn_count_best (B : Bi mg) (cs : GF P w K mg base 7 "check_share" (Pr (Rcheck_share aR))) (ln : OpF P w K mg base 1 aC "__len__" (Pr (Rlen K aC aR))) (c : ∃ t, mg "MOST_COUNTED" = some (.int 5 t)) (gg : GF P w K mg base 2 "growing_sets" (PT tP (Rgrowing_sets K))) (gl : GF P w K mg base 10 "level_lots" (Pr (Rlevel_lots K aC aR))) (Df : DfG K mg "count_best" (top 51)) : GF P w K mg base 11 "count_best" (PT tP (Rcount_best K aC aR)) :=
  gf_ofP Df sc_count_best (fun _ _ h => by cases h; rfl) (fun _ _ _ _ _ _ us h => match us, h with | [_, _], _ => rfl) (fun _ _ _ _ _ _ _ hr => rd_count_best B cs ln c gg gl hr) fun xs z h => by
    cases h with
    | @mk qs s h1 h4 =>
      have lv := level_ok h4 fun l => decide ((gain qs s l).num = 0)
      refine (sr_seq (sb_drop (ed_call (ea_cons (ed_var rfl) ea_nil) (.mk h1.sh)))
    (sr_seq (sb_not (et_is (et_test (ed_op (ed_cb (ea_cons (ed_varP rfl) ea_nil) (cd_lenO .mk (by omega))) ed_c od_i0)) ?_))
    (sr_ret (ed_is (ed_cb (ea_cons (ed_callP 0 rfl (ea_cons (ed_call (ea_cons (ed_varP rfl) (ea_cons (ed_var rfl) ea_nil)) (.mk h1)) ea_nil) (.mk lv.1 lv.2)) ea_nil) cd_lenL) (by rw [List.length_map])))))
      simp
      omega
inductive Rbest_writes (K : PySem.W.Frag) (aF aC aR : Addr) : List D → D → Prop
  | mk {qs : List Rat} {s : Rat} : InOk qs s → qs.length ≤ 4 → Rbest_writes K aF aC aR [chD K aC aR qs, ratD aR s] (dl ((growing (levelL qs s)).map fun ch => famD K aF qs.length (mkFam qs.length (leastW qs s ++ ch))))
theorem grow_sub (ls : List (List Int)) : ∀ (bs : List (List Int)) (found : List (List (List Int))) (p : List Int → Prop), (∀ l ∈ bs, p l) → (∀ c ∈ found, ∀ l ∈ c, p l) → ∀ c ∈ bs.foldl (growOne ls) found, ∀ l ∈ c, p l
  | [], _, _, _, h => h
  | x :: r, found, p, hb, h => grow_sub ls r (growOne ls found x) p (fun l hl => hb l (List.mem_cons_of_mem _ hl)) fun c hc l hl => by
    unfold growOne at hc
    rcases List.mem_append.mp hc with hc | hc
    · exact h c hc l hl
    · obtain ⟨d, hd, rfl⟩ := List.mem_map.mp hc
      rcases List.mem_append.mp hl with hl | hl
      · exact h d (List.mem_filter.mp hd).1 l hl
      · rw [List.mem_singleton] at hl
        rw [hl]
        exact hb x (List.mem_cons_self ..)
theorem growing_sub {ls : List (List Int)} {p : List Int → Prop} (h : ∀ l ∈ ls, p l) : ∀ c ∈ growing ls, ∀ l ∈ c, p l := grow_sub ls _ [[]] p (fun l hl => h l (by
  unfold byLen at hl
  exact List.mem_mergeSort.mp (List.mem_reverse.mp hl))) (by simp)
theorem growing_len {ls : List (List Int)} (h : ls.length ≤ 14) : (growing ls).length ≤ 16384 ∧ ∀ c ∈ growing ls, c.length ≤ 14 := by
  have hl : (byLen ls).reverse.length = ls.length := by unfold byLen; rw [List.length_reverse, List.length_mergeSort]
  have := grow_len ls (byLen ls).reverse [[]] 0 0 (by simp) (by simp)
  rw [hl] at this
  refine ⟨Nat.le_trans this.1 (Nat.le_trans (Nat.pow_le_pow_right (by decide) (show 0 + ls.length ≤ 14 by omega)) (by decide)), fun c hc => ?_⟩
  have := this.2 c hc
  omega
theorem fn_best_writes (B : Bi mg) (kf : KFam K mg aF) (cs : GF P w K mg base 7 "check_share" (Pr (Rcheck_share aR))) (ln : OpF P w K mg base 1 aC "__len__" (Pr (Rlen K aC aR))) (c : ∃ t, mg "MOST_LISTED" = some (.int 4 t)) (gw : GF P w K mg base 10 "least_writes" (Pr (Rleast_writes K aF aC aR))) (gg : GF P w K mg base 2 "growing_sets" (PT tP (Rgrowing_sets K))) (gl : GF P w K mg base 10 "level_lots" (Pr (Rlevel_lots K aC aR))) (m : MF P w K mg base 4 "Family" (Pr (RFamily K aF))) (Df : DfG K mg "best_writes" (top 52)) : GF P w K mg base 11 "best_writes" (PT tP (Rbest_writes K aF aC aR)) :=
  gf_ofP Df sc_best_writes (fun _ _ h => by cases h; rfl) (fun _ _ _ _ _ _ us h => match us, h with | [_, _], _ => rfl) (fun _ _ _ _ _ _ _ hr => rd_best_writes B cs ln c gw gg gl m hr) fun xs z h => by
    cases h with
    | @mk qs s h1 h4 =>
      have lv := level_ok h4 fun l => decide ((gain qs s l).num = 0)
      have gz := growing_len lv.1
      have lw : ∀ l ∈ leastW qs s, LotOk qs.length l := mk_ok h1.n8 fun l hl => by
        rcases List.mem_append.mp hl with hl | hl
        · exact middle_ok h1.n8 (List.mem_filter.mp hl).1
        · rw [List.mem_singleton] at hl
          rw [hl]
          exact up_ok h1.n1 h1.n8
      have lz : (leastW qs s).length ≤ 256 := least_len _
      have ne : leastW qs s ≠ [] := mkFam_ne h1.n8 (by simp)
      let gs := growing (levelL qs s)
      let F := fun (ch : List (List Int)) => famD K aF qs.length (mkFam qs.length (leastW qs s ++ ch))
      refine (sr_seq (sb_drop (ed_call (ea_cons (ed_var rfl) ea_nil) (.mk h1.sh)))
    (sr_seq (sb_not (et_is (et_test (ed_op (ed_cb (ea_cons (ed_varP rfl) ea_nil) (cd_lenO .mk (by omega))) ed_c od_i0)) ?_))
    (sr_seq (sb_asg (ed_call (ea_cons (ed_varP rfl) (ea_cons (ed_var rfl) ea_nil)) (.mk h1)))
    (sr_seq (sb_own (eo_lst ea_nil rfl))
    (sr_seq (env' := [.dP tP qL (chD K aC aR qs), .d (ratD aR s), .d (famD K aF qs.length (leastW qs s)), .own (gs.map F), .no, .no]) (sb_eq (sb_forL gs (fun ch => lotsT K ch) (fun i => [.dP tP qL (chD K aC aR qs), .d (ratD aR s), .d (famD K aF qs.length (leastW qs s)), .own ((gs.take i).map F), .no, .no]) (ed_callP 0 rfl (ea_cons (ed_call (ea_cons (ed_varP rfl) (ea_cons (ed_var rfl) ea_nil)) (.mk h1)) ea_nil) (.mk lv.1 lv.2)) (.eq (.eq (.eq (.eq (.eq (.eq .nil)))))) _ (fun i a ha => tj_name) fun i a ha => sb_fg (sb_seq (sb_asg (ed_is (ed_op (ed_fld (ed_var rfl) kf.cl kf.lots rfl) (ed_var rfl) (od_catA ?_)) (show _ = lotsT K (leastW qs s ++ a) by show dt K _ = dt K _; rw [List.map_append]))) (sb_app rfl (ed_call (ea_cons (ed_cb (ea_cons (ed_varP rfl) ea_nil) (cd_lenO .mk (by omega))) (ea_starT (ed_var rfl) ea_nil)) (famR (ls := leastW qs s ++ a) h1.n1 h1.n8 (by simp [ne]) ?_ ?_)) ?_)) ?_) (by rw [List.take_length]))
    (sr_keep 3 rfl (sr_ret (ed_var rfl))))))))
      · simp
        omega
      all_goals have hm : a ∈ gs := List.mem_of_getElem? ha
      · have := gz.2 a hm
        rw [List.length_map, List.length_map]
        omega
      · intro l hl
        rcases List.mem_append.mp hl with hl | hl
        · exact lw l hl
        · exact growing_sub (p := LotOk qs.length) (fun l hl => middle_ok h1.n8 (List.mem_filter.mp hl).1) a hm l hl
      · have := gz.2 a hm
        rw [List.length_append]
        omega
      · have : gs.length ≤ 16384 := gz.1
        rw [List.length_map, List.length_take]
        omega
      · have e : (gs.take (i + 1)).map F = (gs.take i).map F ++ [F a] := by
          rw [List.take_add_one, ha, List.map_append]
          rfl
        rw [e]
        exact .eq (.eq (.eq (.eq (.no (.no .nil)))))
end
end Kb
end
section
/-! Kb21: generators that sleep are kept: a run that does well beside poisoned ones does the same beside the real ones. -/
namespace Kb
open PySem
def isRet : Frame → Bool
  | .ret .. => true
  | .gen .. => false
def NGf (fs : List Frame) : Prop := ∀ f ∈ fs, isRet f = true
def poiF (f : Frame) : Frame := .ret (fun _ => .unsupported "") none false [] f.where_.1 f.where_.2 []
def poi : GenState → GenState
  | .suspended _ l c p fs cl => .suspended (fun _ => .unsupported "") l c p (fs.map poiF) cl
  | x => x
theorem seen_poi (x : GenState) : (poi x).seen = x.seen := by
  cases x with
  | suspended k l c p fs cl =>
    show (GenStatus.suspended, some ((c, p) :: (fs.map poiF).map Frame.where_)) = (GenStatus.suspended, some ((c, p) :: fs.map Frame.where_))
    rw [List.map_map]
    rfl
  | _ => rfl
theorem bare_poi (x : GenState) : (poi x).bare = x.bare := by cases x <;> rfl
def NGs (x : GenState) : Prop := ∀ k l c p fs cl, x = .suspended k l c p fs cl → NGf fs
theorem ngs_poi (x : GenState) : NGs (poi x) := fun k l c p fs cl e => by
  cases x with
  | suspended k2 l2 c2 p2 fs2 cl2 =>
    unfold poi at e
    injection e with _ _ _ _ e _
    subst e
    intro f hf
    obtain ⟨g, _, rfl⟩ := List.mem_map.mp hf
    rfl
  | _ => cases e
def NGe (e : End) : Prop := ∀ v g l k c p fs, e = .susp v g l k c p fs → NGf fs
theorem NGe.state {e : End} (h : NGe e) : NGs e.genState := fun k l c p fs cl z => by
  cases e with
  | ret r => cases z
  | susp v g l2 k2 c2 p2 fs2 =>
    unfold End.genState at z
    injection z with _ _ _ _ z _
    subst z
    exact h _ _ _ _ _ _ _ rfl
theorem ng_split : ∀ {fs : List Frame}, NGf fs → splitAtGen fs = none
  | [], _ => rfl
  | .ret .. :: r, h => by
    show (splitAtGen r).map _ = none
    rw [ng_split (fs := r) fun f hf => h f (List.mem_cons_of_mem _ hf)]
    rfl
  | .gen .. :: r, h => by
    have := h _ (List.mem_cons_self ..)
    cases this
variable {D : Nat → Option GenState}
structure Rel (D : Nat → Option GenState) (G0 G1 : Array GenState) : Prop where
  fr : ∀ i y, D i = some y → (∃ k l c p fs cl, y = .suspended k l c p fs cl) ∧ G0[i]? = some (poi y) ∧ G1[i]? = some y
  eq : ∀ i, D i = none → G0[i]? = G1[i]?
  ng : ∀ i x, D i = none → G0[i]? = some x → NGs x
  sz : G0.size = G1.size
theorem Rel.see {G0 G1 : Array GenState} (r : Rel D G0 G1) {i : Nat} {st : GenState} (h : G0[i]? = some st) : ∃ st1, G1[i]? = some st1 ∧ st1.seen = st.seen := by
  cases e : D i with
  | none => exact ⟨st, by rw [← r.eq i e]; exact h, rfl⟩
  | some y =>
    obtain ⟨_, h1, h2⟩ := r.fr i y e
    rw [h] at h1
    cases h1
    exact ⟨y, h2, (seen_poi y).symm⟩
/-- not asleep: not one of the kept ones -/
theorem Rel.awake {G0 G1 : Array GenState} (r : Rel D G0 G1) {i : Nat} {st : GenState} (h : G0[i]? = some st) (n : ∀ k l c p fs cl, st ≠ .suspended k l c p fs cl) : D i = none ∧ G1[i]? = some st := by
  cases e : D i with
  | none => exact ⟨rfl, by rw [← r.eq i e]; exact h⟩
  | some y =>
    obtain ⟨⟨k, l, c, p, fs, cl, rfl⟩, h1, h2⟩ := r.fr i y e
    rw [h] at h1
    exact absurd (Option.some.inj h1) (n _ _ _ _ _ _)
theorem Rel.set {G0 G1 : Array GenState} (r : Rel D G0 G1) {g : Nat} {x : GenState} (h : D g = none) (n : NGs x) : Rel D (G0.setIfInBounds g x) (G1.setIfInBounds g x) := by
  refine ⟨fun i y e => ?_, fun i e => ?_, fun i y e z => ?_, by simp [r.sz]⟩
  · have ne : g ≠ i := fun z => by rw [z, e] at h; cases h
    rw [Array.getElem?_setIfInBounds_ne ne, Array.getElem?_setIfInBounds_ne ne]
    exact r.fr i y e
  · by_cases z : g = i
    · subst z
      by_cases l : g < G0.size
      · rw [Array.getElem?_setIfInBounds_self_of_lt l, Array.getElem?_setIfInBounds_self_of_lt (by rw [← r.sz]; exact l)]
      · rw [Array.getElem?_eq_none (by simp; omega), Array.getElem?_eq_none (by have := r.sz; simp; omega)]
    · rw [Array.getElem?_setIfInBounds_ne z, Array.getElem?_setIfInBounds_ne z]
      exact r.eq i e
  · by_cases q : g = i
    · subst q
      by_cases l : g < G0.size
      · rw [Array.getElem?_setIfInBounds_self_of_lt l] at z
        cases z
        exact n
      · rw [Array.getElem?_eq_none (by simp; omega)] at z
        cases z
    · rw [Array.getElem?_setIfInBounds_ne q] at z
      exact r.ng i y e z
theorem Rel.lt {G0 G1 : Array GenState} (r : Rel D G0 G1) {i : Nat} {y : GenState} (h : D i = some y) : i < G0.size := (Array.getElem?_eq_some_iff.mp (r.fr i y h).2.1).1
theorem Rel.push {G0 G1 : Array GenState} (r : Rel D G0 G1) {x : GenState} (n : NGs x) : Rel D (G0.push x) (G1.push x) := by
  have hs := r.sz
  refine ⟨fun i y e => ?_, fun i e => ?_, fun i y e z => ?_, by simp [r.sz]⟩
  · have l := r.lt e
    rw [Array.getElem?_push_lt l, Array.getElem?_push_lt (by omega)]
    have := r.fr i y e
    rw [Array.getElem?_eq_getElem l, Array.getElem?_eq_getElem (by omega)] at this
    exact this
  · have := r.eq i e
    rw [Array.getElem?_push, Array.getElem?_push, ← hs, this]
  · rw [Array.getElem?_push] at z
    split at z
    · cases z
      exact n
    · exact r.ng i y e z
theorem no_unsup {M : Model} {Γ : Ctx} {p : Pos} {t : Sem PySem.Fin} {fs : List Frame} {s s' : Shared} {e : End} (h : Runs M Γ p t fs s e s') : ∀ w, t ≠ .unsupported w := by
  induction h <;> intro w z <;> first
    | (cases z; done)
    | (rename_i ih _; exact ih w z)
    | (rename_i ih; exact ih w z)
    | skip
  all_goals first
    | (subst z; simp_all; done)
    | assumption
end Kb
end
section
/-! Kb22: the run beside the real generators. -/
namespace Kb
open PySem
variable {D : Nat → Option GenState}
abbrev withG (s : Shared) (G : Array GenState) : Shared := { s with gens := G }
theorem swap {M : Model} {Γ : Ctx} {p : Pos} {t : Sem PySem.Fin} {fs : List Frame} {s s' : Shared} {e : End} (h : Runs M Γ p t fs s e s') :
    ∀ G1, NGf fs → Rel D s.gens G1 → ∃ G2, Rel D s'.gens G2 ∧ NGe e ∧ Runs M Γ p t fs { s with gens := G1 } e { s' with gens := G2 } := by
  induction h with
  | done => intro G1 n r; exact ⟨G1, r, (fun _ _ _ _ _ _ _ z => by cases z), .done⟩
  | raise => intro G1 n r; exact ⟨G1, r, (fun _ _ _ _ _ _ _ z => by cases z), .raise⟩
  | again q _ ih => intro G1 n r; obtain ⟨G2, a, b, c⟩ := ih G1 n r; exact ⟨G2, a, b, .again q c⟩
  | rule _ ih => intro G1 n r; obtain ⟨G2, a, b, c⟩ := ih G1 n r; exact ⟨G2, a, b, .rule c⟩
  | «at» _ ih => intro G1 n r; obtain ⟨G2, a, b, c⟩ := ih G1 n r; exact ⟨G2, a, b, .at c⟩
  | load q _ ih => intro G1 n r; obtain ⟨G2, a, b, c⟩ := ih G1 n r; exact ⟨G2, a, b, .load q c⟩
  | update q _ ih => intro G1 n r; obtain ⟨G2, a, b, c⟩ := ih G1 n r; exact ⟨G2, a, b, .update q c⟩
  | loadIfAlive _ ih => intro G1 n r; obtain ⟨G2, a, b, c⟩ := ih G1 n r; exact ⟨G2, a, b, .loadIfAlive c⟩
  | point _ ih => intro G1 n r; obtain ⟨G2, a, b, c⟩ := ih G1 n r; exact ⟨G2, a, b, .point c⟩
  | alloc _ ih => intro G1 n r; obtain ⟨G2, a, b, c⟩ := ih G1 n r; exact ⟨G2, a, b, .alloc c⟩
  | fresh _ ih => intro G1 n r; obtain ⟨G2, a, b, c⟩ := ih G1 n r; exact ⟨G2, a, b, .fresh c⟩
  | ask _ ih => intro G1 n r; obtain ⟨G2, a, b, c⟩ := ih G1 n r; exact ⟨G2, a, b, .ask c⟩
  | choose q _ ih => intro G1 n r; obtain ⟨G2, a, b, c⟩ := ih G1 n r; exact ⟨G2, a, b, .choose q c⟩
  | os _ ih => intro G1 n r; obtain ⟨G2, a, b, c⟩ := ih G1 n r; exact ⟨G2, a, b, .os c⟩
  | handled _ ih => intro G1 n r; obtain ⟨G2, a, b, c⟩ := ih G1 n r; exact ⟨G2, a, b, .handled c⟩
  | genState q _ ih =>
    intro G1 n r
    obtain ⟨G2, a, b, c⟩ := ih G1 n r
    obtain ⟨st1, h1, h2⟩ := r.see q
    exact ⟨G2, a, b, .genState (s := withG _ G1) h1 (by rw [h2]; exact c)⟩
  | stack _ ih => intro G1 n r; obtain ⟨G2, a, b, c⟩ := ih G1 n r; exact ⟨G2, a, b, .stack c⟩
  | thread _ ih => intro G1 n r; obtain ⟨G2, a, b, c⟩ := ih G1 n r; exact ⟨G2, a, b, .thread c⟩
  | newGen _ ih =>
    intro G1 n r
    obtain ⟨G2, a, b, c⟩ := ih (G1.push (.fresh _)) n (r.push fun _ _ _ _ _ _ z => by cases z)
    refine ⟨G2, a, b, .newGen (s := withG _ G1) ?_⟩
    rw [r.sz] at c
    exact c
  | call _ _ ih1 ih2 =>
    intro G1 n r
    obtain ⟨G2, a, b, c⟩ := ih1 G1 (fun _ h => by cases h) r
    obtain ⟨G3, a3, b3, c3⟩ := ih2 G2 n a
    exact ⟨G3, a3, b3, .call c c3⟩
  | callSusp _ ih =>
    intro G1 n r
    obtain ⟨G2, a, b, c⟩ := ih G1 (fun _ h => by cases h) r
    refine ⟨G2, a, fun v g l k c2 p2 fs2 z => ?_, .callSusp c⟩
    injection z with _ _ _ _ _ _ z
    subst z
    intro f hf
    rcases List.mem_append.mp hf with hf | hf
    · exact b _ _ _ _ _ _ _ rfl f hf
    · rw [List.mem_singleton] at hf
      rw [hf]
      rfl
  | yield =>
    intro G1 n r
    refine ⟨G1, r, fun v g l k c2 p2 fs2 z => ?_, .yield⟩
    injection z with _ _ _ _ _ _ z
    subst z
    intro f hf
    cases hf
  | resumeFresh q _ q2 _ ih1 ih2 =>
    intro G1 n r
    obtain ⟨dn, h1⟩ := r.awake q (fun _ _ _ _ _ _ z => by cases z)
    obtain ⟨G2, a, b, c⟩ := ih1 _ (fun _ h => by cases h) (r.set (x := .running) dn fun _ _ _ _ _ _ z => by cases z)
    obtain ⟨G3, a3, b3, c3⟩ := ih2 _ n (a.set dn b.state)
    exact ⟨G3, a3, b3, .resumeFresh (s := withG _ G1) (s₁ := withG _ G2) h1 c q2 c3⟩
  | @resumeSuspended Γ p g rr l k s k₀ l₀ c₀ p₀ fs cl e₁ s₁ e s' q h q2 _ ih1 ih2 =>
    intro G1 n r
    cases dn : D g with
    | some y =>
      obtain ⟨⟨k3, l3, c3, p3, fs3, cl3, rfl⟩, h1, _⟩ := r.fr g y dn
      rw [q] at h1
      have := Option.some.inj h1
      unfold poi at this
      injection this with z1 _ _ _ _ _
      subst z1
      exact absurd rfl (no_unsup h "")
    | none =>
      have h1 : G1[g]? = some (.suspended k₀ l₀ c₀ p₀ fs cl) := by rw [← r.eq g dn]; exact q
      have nf := r.ng g _ dn q _ _ _ _ _ _ rfl
      obtain ⟨G2, a, b, c⟩ := ih1 _ nf (r.set (x := .running) dn fun _ _ _ _ _ _ z => by cases z)
      obtain ⟨G3, a3, b3, c3⟩ := ih2 _ n (a.set dn b.state)
      exact ⟨G3, a3, b3, .resumeSuspended (s := { s with gens := G1 }) (s₁ := { s₁ with gens := G2 }) h1 c q2 c3⟩
  | resumeJustStarted q nv _ ih =>
    intro G1 n r
    obtain ⟨dn, h1⟩ := r.awake q (fun _ _ _ _ _ _ z => by cases z)
    obtain ⟨G2, a, b, c⟩ := ih G1 n r
    exact ⟨G2, a, b, .resumeJustStarted (s := withG _ G1) h1 nv c⟩
  | resumeThrowFresh q _ ih =>
    intro G1 n r
    obtain ⟨dn, h1⟩ := r.awake q (fun _ _ _ _ _ _ z => by cases z)
    obtain ⟨G2, a, b, c⟩ := ih _ n (r.set (x := .finished) dn fun _ _ _ _ _ _ z => by cases z)
    exact ⟨G2, a, b, .resumeThrowFresh (s := withG _ G1) h1 c⟩
  | resumeRunning q _ ih =>
    intro G1 n r
    obtain ⟨dn, h1⟩ := r.awake q (fun _ _ _ _ _ _ z => by cases z)
    obtain ⟨G2, a, b, c⟩ := ih G1 n r
    exact ⟨G2, a, b, .resumeRunning (s := withG _ G1) h1 c⟩
  | resumeFinished q _ ih =>
    intro G1 n r
    obtain ⟨dn, h1⟩ := r.awake q (fun _ _ _ _ _ _ z => by cases z)
    obtain ⟨G2, a, b, c⟩ := ih G1 n r
    exact ⟨G2, a, b, .resumeFinished (s := withG _ G1) h1 c⟩
  | segRet _ _ ih1 ih2 =>
    intro G1 n r
    obtain ⟨G2, a, b, c⟩ := ih1 G1 (fun _ h => by cases h) r
    obtain ⟨G3, a3, b3, c3⟩ := ih2 G2 (fun f hf => n f (List.mem_cons_of_mem _ hf)) a
    exact ⟨G3, a3, b3, .segRet c c3⟩
  | segGen _ _ _ _ =>
    intro G1 n r
    have := n _ (List.mem_cons_self ..)
    cases this
  | segSuspOut q _ ih =>
    intro G1 n r
    obtain ⟨G2, a, b, c⟩ := ih G1 (fun _ h => by cases h) r
    refine ⟨G2, a, fun v g l k c2 p2 fs2 z => ?_, .segSuspOut q c⟩
    injection z with _ _ _ _ _ _ z
    subst z
    intro f hf
    rcases List.mem_append.mp hf with hf | hf
    · exact b _ _ _ _ _ _ _ rfl f hf
    · exact n f hf
  | segSuspGen q _ _ _ _ _ =>
    intro G1 n r
    rw [ng_split n] at q
    cases q
end Kb
end
section
/-! Kb23: the same for wp. -/
namespace Kb
open PySem PyProof.Rows
open Sem (wp)
variable {D : Nat → Option GenState}
theorem wakes_swap {M : Model} {Γ : Ctx} {p : Pos} {g : Nat} {r : Resume} {s s' : Shared} {res : GenResult} (h : Wakes M Γ p g r s res s') {G1 : Array GenState} (rl : Rel D s.gens G1) : ∃ G2, Rel D s'.gens G2 ∧ Wakes M Γ p g r (withG s G1) res (withG s' G2) := by
  unfold Wakes at h
  cases q : s.gens[g]? with
  | none => rw [q] at h; exact h.elim
  | some st =>
    rw [q] at h
    cases st with
    | fresh c =>
      obtain ⟨dn, h1⟩ := rl.awake q (fun _ _ _ _ _ _ z => by cases z)
      cases r with
      | send v =>
        cases v with
        | none =>
          obtain ⟨e1, s1, hr, hq, e2, rfl⟩ := h
          obtain ⟨G2, a, b, c2⟩ := swap hr _ (fun _ h => by cases h) (rl.set (x := .running) dn fun _ _ _ _ _ _ z => by cases z)
          refine ⟨_, a.set dn b.state, ?_⟩
          unfold Wakes
          rw [show (withG s G1).gens[g]? = some (.fresh c) from h1]
          exact ⟨e1, withG s1 G2, c2, hq, e2, rfl⟩
        | _ =>
          obtain ⟨e1, rfl⟩ := h
          refine ⟨G1, rl, ?_⟩
          unfold Wakes
          rw [show (withG s' G1).gens[g]? = some (.fresh c) from h1]
          exact ⟨e1, rfl⟩
      | throw x =>
        obtain ⟨e1, rfl⟩ := h
        refine ⟨_, rl.set (x := .finished) dn (fun _ _ _ _ _ _ z => by cases z), ?_⟩
        unfold Wakes
        rw [show (withG s G1).gens[g]? = some (.fresh c) from h1]
        exact ⟨e1, rfl⟩
    | suspended k l c p2 fs cl =>
      obtain ⟨e1, s1, hr, hq, e2, rfl⟩ := h
      cases dn : D g with
      | some y =>
        obtain ⟨⟨k3, l3, c3, p3, fs3, cl3, rfl⟩, h1, _⟩ := rl.fr g y dn
        rw [q] at h1
        have := Option.some.inj h1
        unfold poi at this
        injection this with z1 _ _ _ _ _
        subst z1
        exact absurd rfl (no_unsup hr "")
      | none =>
        have h1 : G1[g]? = some (.suspended k l c p2 fs cl) := by rw [← rl.eq g dn]; exact q
        have nf := rl.ng g _ dn q _ _ _ _ _ _ rfl
        obtain ⟨G2, a, b, c2⟩ := swap hr _ nf (rl.set (x := .running) dn fun _ _ _ _ _ _ z => by cases z)
        refine ⟨_, a.set dn b.state, ?_⟩
        unfold Wakes
        rw [show (withG s G1).gens[g]? = some (.suspended k l c p2 fs cl) from h1]
        exact ⟨e1, withG s1 G2, c2, hq, e2, rfl⟩
    | running =>
      obtain ⟨dn, h1⟩ := rl.awake q (fun _ _ _ _ _ _ z => by cases z)
      obtain ⟨e1, rfl⟩ := h
      refine ⟨G1, rl, ?_⟩
      unfold Wakes
      rw [show (withG s' G1).gens[g]? = some .running from h1]
      exact ⟨e1, rfl⟩
    | finished =>
      obtain ⟨dn, h1⟩ := rl.awake q (fun _ _ _ _ _ _ z => by cases z)
      obtain ⟨e1, rfl⟩ := h
      refine ⟨G1, rl, ?_⟩
      unfold Wakes
      rw [show (withG s' G1).gens[g]? = some .finished from h1]
      exact ⟨e1, rfl⟩
theorem wp_swap {α : Type} (M : Model) (Γ : Ctx) (t : Sem α) : ∀ (Q : α → Pos → Shared → Prop) (E : Value → Pos → Shared → Prop) (p : Pos) (s : Shared) (G1 : Array GenState), Rel D s.gens G1 → wp M Γ t Q E p s →
    wp M Γ t (fun a p' s' => ∃ G0, Rel D G0 s'.gens ∧ Q a p' (withG s' G0)) (fun e p' s' => ∃ G0, Rel D G0 s'.gens ∧ E e p' (withG s' G0)) p (withG s G1) := by
  induction t with
  | pure a => intro Q E p s G1 r h; exact ⟨s.gens, r, h⟩
  | raise e => intro Q E p s G1 r h; exact ⟨s.gens, r, h⟩
  | unsupported _ => intro Q E p s G1 _ h; exact h
  | finish _ => intro Q E p s G1 _ h; exact h
  | rule _ k ih => intro Q E p s G1 r h; exact ih () Q E p s G1 r h
  | «at» p' k ih => intro Q E p s G1 r h; exact ih () Q E p' s G1 r h
  | load a _ k ih => intro Q E p s G1 r h; obtain ⟨o, ho, h⟩ := h; exact ⟨o, ho, ih o Q E p s G1 r h⟩
  | update a _ f k ih => intro Q E p s G1 r h; exact ⟨h.1, ih () Q E p { s with heap := s.heap.update a f } G1 r h.2⟩
  | loadIfAlive a k ih => intro Q E p s G1 r h; exact ih _ Q E p s G1 r h
  | point _ k ih => intro Q E p s G1 r h; exact ih () Q E p s G1 r h
  | register _ _ => intro Q E p s G1 _ h; exact h
  | alloc o k ih => intro Q E p s G1 r h; exact ih _ Q E p { s with heap := s.heap.push o } G1 r h
  | fresh k ih => intro Q E p s G1 r h; exact ih _ Q E p { s with toks := s.toks + 1 } G1 r h
  | ask k ih => intro Q E p s G1 r h; exact ih _ Q E p s G1 r h
  | choose src m k ih => intro Q E p s G1 r h; exact ⟨h.1, ih _ Q E p { s with drawn := s.drawn.bump src } G1 r h.2⟩
  | os q _ k ih => intro Q E p s G1 r h; exact ih _ Q E p { s with os := (Os.step s.os q).1 } G1 r h
  | call c hd _ _ k ih =>
    intro Q E p s G1 r h
    obtain ⟨x, s', hr, h⟩ := h
    obtain ⟨G2, a, _, c2⟩ := swap hr G1 (fun _ h => by cases h) r
    exact ⟨x, withG s' G2, c2, ih x Q E p s' G2 a h⟩
  | handled own k ih => intro Q E p s G1 r h; exact ih _ Q E p s G1 r h
  | genState g k ih =>
    intro Q E p s G1 r h
    obtain ⟨st, hs, h⟩ := h
    obtain ⟨st1, h1, h2⟩ := r.see hs
    exact ⟨st1, h1, by rw [h2]; exact ih _ Q E p s G1 r h⟩
  | newGen c k ih =>
    intro Q E p s G1 r h
    have := ih _ Q E p { s with gens := s.gens.push (.fresh c) } (G1.push (.fresh c)) (r.push fun _ _ _ _ _ _ z => by cases z) h
    rw [r.sz] at this
    exact this
  | resume g x _ k ih =>
    intro Q E p s G1 r h
    obtain ⟨res, s', hw, h⟩ := h
    obtain ⟨G2, a, c2⟩ := wakes_swap hw r
    exact ⟨res, withG s' G2, c2, ih res Q E p s' G2 a h⟩
  | yield _ _ _ _ => intro Q E p s G1 _ h; exact h
  | stack k ih => intro Q E p s G1 r h; exact ih _ Q E p s G1 r h
  | fork _ _ => intro Q E p s G1 _ h; exact h
  | thread k ih => intro Q E p s G1 r h; exact ih _ Q E p s G1 r h
  | await _ _ _ _ _ => intro Q E p s G1 _ h; exact h
/-- the sleeping ones of G -/
def asleep (G : Array GenState) : Nat → Option GenState := fun i => match G[i]? with
  | some (.suspended k l c p fs cl) => some (.suspended k l c p fs cl)
  | _ => none
def poiA (G : Array GenState) : Array GenState := G.map poi
theorem rel_asleep (G : Array GenState) : Rel (asleep G) (poiA G) G := by
  have e : ∀ i, (poiA G)[i]? = G[i]?.map poi := fun i => by unfold poiA; rw [Array.getElem?_map]
  refine ⟨fun i y h => ?_, fun i h => ?_, fun i x h z => ?_, by simp [poiA]⟩
  · unfold asleep at h
    rw [e]
    split at h
    · rename_i k l c p fs cl q
      cases h
      exact ⟨⟨k, l, c, p, fs, cl, rfl⟩, by rw [q]; rfl, q⟩
    · cases h
  · unfold asleep at h
    rw [e]
    cases q : G[i]? with
    | none => rfl
    | some st =>
      rw [q] at h
      cases st <;> first
        | rfl
        | cases h
  · rw [e] at z
    cases q : G[i]? with
    | none => rw [q] at z; cases z
    | some st =>
      rw [q] at z
      cases z
      exact ngs_poi st
theorem bare_poiA {G : Array GenState} (h : AllBare G) : AllBare (poiA G) := fun y hy => by
  unfold poiA at hy
  obtain ⟨x, hx, rfl⟩ := Array.mem_map.mp hy
  rw [bare_poi]
  exact h x hx
theorem Rel.bare {G G0 G1 : Array GenState} (r : Rel (asleep G) G0 G1) (h : AllBare G) (h0 : AllBare G0) : AllBare G1 := fun y hy => by
  obtain ⟨i, hi, e⟩ := Array.mem_iff_getElem.mp hy
  have q : G1[i]? = some y := by rw [Array.getElem?_eq_getElem hi, e]
  cases d : asleep G i with
  | none =>
    have := r.eq i d
    rw [q] at this
    exact h0 y (Array.mem_of_getElem? this)
  | some z =>
    have z1 := (r.fr i z d).2.2
    rw [q] at z1
    cases z1
    unfold asleep at d
    split at d
    · rename_i k l c p fs cl w
      cases d
      exact h _ (Array.mem_of_getElem? w)
    · cases d
/-- one that slept is as it was -/
theorem Rel.kept {G G0 G1 : Array GenState} (r : Rel (asleep G) G0 G1) {g : Nat} {k : Resume → Sem PySem.Fin} {l : List Value} {c : Code} {p : Pos} {fs : List Frame} {cl : Bool} (h : G[g]? = some (.suspended k l c p fs cl)) : G1[g]? = some (.suspended k l c p fs cl) :=
  (r.fr g _ (by unfold asleep; rw [h])).2.2
/-- THE RULE: what holds beside the poisoned ones holds beside the real ones, and these are kept -/
theorem any_swap {α : Type} {M : Model} {A : Around} {t : Sem α} {Q : α → Shared → Prop} {E : Value → Shared → Prop} {s : Shared} (h : wpAny M A t Q E (withG s (poiA s.gens))) :
    wpAny M A t (fun a s' => ∃ G0, Rel (asleep s.gens) G0 s'.gens ∧ Q a (withG s' G0)) (fun e s' => ∃ G0, Rel (asleep s.gens) G0 s'.gens ∧ E e (withG s' G0)) s := fun Γ p hΓ =>
  wp_swap M Γ t _ _ p (withG s (poiA s.gens)) s.gens (rel_asleep s.gens) (h Γ p hΓ)
end Kb
end
section
/-! Kb24: effects on lists of our own inside expressions; outcomes not fixed. -/
namespace Kb
open PySem PySem.Spec PyProof.Rows L2
/-- te gives some d and leaves some env2, as P tells -/
def EXn (te : TE) (env : Env') (P : D → Env' → Prop) : Prop := ∀ Hb0 H0 σ Hb H (Q : VK), StOk Hb0 H0 env σ Hb H → (∀ d env2 v Hb2 H2, P d env2 → StOk Hb0 H0 env2 σ Hb2 H2 → Ex Hb Hb2 → d.p v Hb2 → Q v H2) → te σ H Q
def EAn (ta : TA) (env : Env') (P : List D → Env' → Prop) : Prop := ∀ Hb0 H0 σ Hb H (Q : List V → Hp → Prop), StOk Hb0 H0 env σ Hb H → (∀ ds env2 vs Hb2 H2, P ds env2 → StOk Hb0 H0 env2 σ Hb2 H2 → Ex Hb Hb2 → Dn ds vs Hb2 → Q vs H2) → ta σ H Q
def SBn (t : TS) (env : Env') (P : Env' → Prop) : Prop := ∀ Hb0 H0 σ Hb H (D : Ends), StOk Hb0 H0 env σ Hb H → (∀ env2 σ' Hb' H', P env2 → StOk Hb0 H0 env2 σ' Hb' H' → Ex Hb Hb' → σ'[1]? = σ[1]? → D.nx σ' H') → t D σ H
/-- the block returns some d, the slots then hold some env2 -/
def SRn (t : TS) (env : Env') (P : D → Env' → Prop) : Prop := ∀ Hb0 H0 σ Hb H (D : Ends), StOk Hb0 H0 env σ Hb H → (∀ d env2 σ' v Hb' H', P d env2 → StOk Hb0 H0 env2 σ' Hb' H' → σ'[1]? = σ[1]? → d.p v Hb' → D.rt v H') → t D σ H
section
variable {env : Env'} {ta tb te : TE} {tr : TA} {t : TT} {s s' : TS} {r : R2} {K : PySem.W.Frag} {P : D → Env' → Prop} {i j n : Nat} {b : Bool}
theorem ex_of {d : D} (h : ED te env d) (p : P d env) : EXn te env P := fun Hb0 H0 σ Hb H Q o q => h σ Hb H _ o.fr.s o.sl fun v Hb2 H2 f pv => q d env v Hb2 H2 p (o.fr2 f) f.b pv
theorem ex_op {Pa : D → Env' → Prop} (ha : EXn ta env Pa) (hb : ∀ x e, Pa x e → EXn tb e fun y e2 => ∃ z, OD r x y z ∧ P z e2) : EXn (tOp r ta tb) env P := fun Hb0 H0 σ Hb H Q o q =>
  ha Hb0 H0 σ Hb H _ o fun x e v Hb2 H2 px o2 x2 pv => hb x e px Hb0 H0 σ Hb2 H2 _ o2 fun y e2 w Hb3 H3 ⟨z, od, pz⟩ o3 x3 pw => od v w Hb3 H3 Q o3.fr.s (x.mono x3 pv) pw fun u Hb4 H4 f4 pu => q z e2 u Hb4 H4 pz (o3.fr2 f4) (x2.trans (x3.trans f4.b)) pu
theorem ean_nil {P : List D → Env' → Prop} (p : P [] env) : EAn tNil env P := fun Hb0 H0 σ Hb H Q o q => q [] env [] Hb H p o (Evl.Ex.refl _) .nil
theorem ean_cons {Pa : D → Env' → Prop} {P : List D → Env' → Prop} (ha : EXn te env Pa) (hr : ∀ x e, Pa x e → EAn tr e fun ds e2 => P (x :: ds) e2) : EAn (tCons te tr) env P := fun Hb0 H0 σ Hb H Q o q =>
  ha Hb0 H0 σ Hb H _ o fun x e v Hb2 H2 px o2 x2 pv => hr x e px Hb0 H0 σ Hb2 H2 _ o2 fun ds e2 vs Hb3 H3 p3 o3 x3 d3 => q (x :: ds) e2 (v :: vs) Hb3 H3 p3 o3 (x2.trans x3) (.cons (x.mono x3 pv) d3)
theorem ex_tup {Pa : List D → Env' → Prop} (ha : EAn tr env Pa) (hp : ∀ ds e, Pa ds e → ds.length ≤ 100000 ∧ P (dt K ds) e) : EXn (tTup tr) env P := fun Hb0 H0 σ Hb H Q o q =>
  ha Hb0 H0 σ Hb H _ o fun ds e vs Hb2 H2 p2 o2 x2 d2 => ⟨Evl.sz_of (by rw [← d2.len]; exact (hp ds e p2).1), fun p hn => by
    have f := Fr.new (o := .tup vs) o2.fr.s hn
    exact q (dt K ds) e (.ref p) _ _ (hp ds e p2).2 (o2.fr2 f) (x2.trans f.b) ⟨p, vs, rfl, upd_same, d2.mono f.b⟩⟩
theorem sbn_asg {P : Env' → Prop} (hi : i ≠ 1) (h : EXn te env fun d e => P (e.set i (.d d))) : SBn (tAsg te (gName i)) env P := fun Hb0 H0 σ Hb H D o k =>
  h Hb0 H0 σ Hb H _ o fun d e v Hb2 H2 p o2 x2 pv => k _ _ Hb2 H2 p (o2.set ⟨v, rfl, pv⟩ fun _ z => by cases z) x2 (List.getElem?_set_ne hi)
theorem sbn_next {P : Env' → Prop} (p : P env) : SBn tNext env P := fun Hb0 H0 σ Hb H D o k => k env σ Hb H p o (Evl.Ex.refl _) rfl
theorem sbn_own {P : Env' → Prop} {xs : List D} (hi : i ≠ 1) (h : EO te env xs) (p : P (env.set i (.own xs))) : SBn (tAsg te (gName i)) env P := fun Hb0 H0 σ Hb H D o k =>
  h σ Hb H _ o.fr.s o.sl fun q vs Hb2 H2 hp hb f hl hd => k _ _ Hb2 H2 p ((o.fr2 f).setO (H1 := H) f.h o.live o.fr.h hp hb hl hd) f.b (List.getElem?_set_ne hi)
theorem sbn_app {P : Env' → Prop} {xs : List D} {d : D} (h : env[i]? = some (.own xs)) (he : ED te env d) (hz : xs.length < 90000) (p : P (env.set i (.own (xs ++ [d])))) : SBn (tDrop (tBM K "list" rAppend (tVar i) (tCons te tNil))) env P := fun Hb0 H0 σ Hb H D o k => by
  obtain ⟨a, vs, h1, h2, h3, h4⟩ := o.sl.at_ i _ h
  refine ⟨.ref a, h1, .inl ⟨rfl, _, .inl (.inl h3)⟩, he σ Hb H _ o.fr.s o.sl fun v Hb2 H2 f pv => ⟨a, vs, v, rfl, rfl, f.h.k h3, Evl.sz_lt (by rw [← h4.len]; omega), ?_⟩⟩
  exact k _ σ Hb2 _ p ((o.fr2 f).put h h1 ((h4.mono f.b).app (.cons pv .nil))) f.b rfl
theorem sbn_fg {P P2 : Env' → Prop} (h : SBn s env P) (f : ∀ e, P e → ∃ e2, Fg e e2 ∧ P2 e2) : SBn s env P2 := fun Hb0 H0 σ Hb H D o k => h Hb0 H0 σ Hb H D o fun e σ' Hb' H' p o' x z => by
  obtain ⟨e2, g, p2⟩ := f e p
  exact k e2 σ' Hb' H' p2 (o'.fg g) x z
theorem sbn_seq {P1 P : Env' → Prop} (h : SBn s env P1) (h2 : ∀ e, P1 e → SBn s' e P) : SBn (tSeq s s') env P := fun Hb0 H0 σ Hb H D o k =>
  h Hb0 H0 σ Hb H { D with nx := s' D } o fun e σ1 Hb1 H1 p o1 x1 z1 => h2 e p Hb0 H0 σ1 Hb1 H1 D o1 fun e2 σ2 Hb2 H2 p2 o2 x2 z2 => k e2 σ2 Hb2 H2 p2 o2 (x1.trans x2) (z2.trans z1)
theorem srn_seq {P1 : Env' → Prop} (h : SBn s env P1) (h2 : ∀ e, P1 e → SRn s' e P) : SRn (tSeq s s') env P := fun Hb0 H0 σ Hb H D o k =>
  h Hb0 H0 σ Hb H { D with nx := s' D } o fun e σ1 Hb1 H1 p o1 _ z1 => h2 e p Hb0 H0 σ1 Hb1 H1 D o1 fun d e2 σ2 v Hb2 H2 p2 o2 z2 pv => k d e2 σ2 v Hb2 H2 p2 o2 (z2.trans z1) pv
theorem srn_ret (h : EXn te env P) : SRn (tRet te) env P := fun Hb0 H0 σ Hb H D o k => h Hb0 H0 σ Hb H _ o fun d e v Hb2 H2 p o2 _ pv => k d e σ v Hb2 H2 p o2 rfl pv
theorem sbn_if {P : Env' → Prop} (h : ET t env b) (h1 : b = true → SBn s env P) (h2 : b = false → SBn s' env P) : SBn (tIfS t s s') env P := fun Hb0 H0 σ Hb H D o k => h σ Hb H _ o.fr.s o.sl fun Hb2 H2 f => by
  cases b with
  | true => exact h1 rfl Hb0 H0 σ Hb2 H2 D (o.fr2 f) fun e σ' Hb' H' p o' x z => k e σ' Hb' H' p o' (f.b.trans x) z
  | false => exact h2 rfl Hb0 H0 σ Hb2 H2 D (o.fr2 f) fun e σ' Hb' H' p o' x z => k e σ' Hb' H' p o' (f.b.trans x) z
theorem srn_when (h : ET t env b) (h1 : b = true → SRn s env P) (h2 : b = false → SRn s' env P) : SRn (tSeq (tIfS t s tNext) s') env P := fun Hb0 H0 σ Hb H D o k => h σ Hb H _ o.fr.s o.sl fun Hb2 H2 f => by
  cases b with
  | true => exact h1 rfl Hb0 H0 σ Hb2 H2 _ (o.fr2 f) k
  | false => exact h2 rfl Hb0 H0 σ Hb2 H2 D (o.fr2 f) k
theorem srn_keep {xs : List D} (k : Nat) (h : env[k]? = some (.own xs)) (h2 : SRn s (env.set k (.d (dl xs))) P) : SRn s env P := fun Hb0 H0 σ Hb H D o q => by
  obtain ⟨Hb2, o2, x⟩ := o.keep h
  exact h2 Hb0 H0 σ Hb2 H D o2 q
def FvN (s1 : Option (Option V)) (Hb0 H0 : Hp) (I : Nat → Env' → Prop) (Hb1 : Hp) (i : Nat) (σ : L2.St) (H : Hp) : Prop := ∃ e Hb, I i e ∧ StOk Hb0 H0 e σ Hb H ∧ Ex Hb1 Hb ∧ σ[1]? = s1
/-- for j in range(..): outcomes not fixed -/
theorem sbn_forR {body : TS} {g : TG} {Pa : List D → Env' → Prop} (hj : j ≠ 1) (I : Nat → Env' → Prop) (hn : EAn tr env fun ds e => ds = [di (n : Int)] ∧ I 0 e) (hz : n < 90000) (hb : ∀ i e, i < n → I i e → SBn body (e.set j (.d (di (i : Int)))) (I (i + 1))) : SBn (tFor (iRng1 tr) (gName j) body) env (I n) := fun Hb0 H0 σ Hb H D o k =>
  hn Hb0 H0 σ Hb H _ o fun ds e vs Hb1 H1 ⟨eds, i0⟩ o1 x1 dn => by
    subst eds
    cases dn with
    | cons a r =>
      cases r
      have a' : _ = V.int (n : Int) := a
      subst a'
      refine ⟨(n : Int), rfl, by omega, by omega, ?_⟩
      show (fun (J : It) (H1 : Hp) => _) (Itr 0 ((n : Int)).toNat) H1
      rw [Int.toNat_natCast]
      refine for_range (FvN σ[1]? Hb0 H0 I Hb1) ⟨e, Hb1, i0, o1, Evl.Ex.refl _, rfl⟩ (fun i σ' H' hi p => ?_) fun σ' H' p => ?_
      · obtain ⟨e', Hb', ii, o', x', z'⟩ := p
        refine hb i e' hi ii Hb0 H0 _ Hb' H' _ (o'.set (x := .d (di (i : Int))) ⟨_, rfl, show V.int (0 + (i : Int)) = V.int (i : Int) from by rw [Int.zero_add]⟩ fun _ z => by cases z) fun e3 σ3 Hb3 H3 p3 o3 x3 z3 => ⟨e3, Hb3, p3, o3, x'.trans x3, z3.trans ((List.getElem?_set_ne hj).trans z')⟩
      · obtain ⟨e', Hb', ii, o', x', z'⟩ := p
        exact k e' σ' Hb' H' ii o' (x1.trans x') z'
end
end Kb
end
section
/-! Kb25: defs that write into a list that they are given. -/
namespace Kb
open PySem PySem.Spec PyProof.Rows L2
/-- H without S -/
def er (H : Hp) (S : Addr) : Hp := fun a => if a = S then none else H a
theorem er_ne {H : Hp} {S a : Addr} (h : a ≠ S) : er H S a = H a := by unfold er; rw [if_neg h]
theorem er_same {H : Hp} {S : Addr} : er H S S = none := by unfold er; rw [if_pos rfl]
theorem gx_er {H : Hp} {S : Addr} {vs : List V} (h : H S = some (.lst vs)) : Gx (er H S) H := by
  have ne : ∀ (a : Addr) (u : HO), er H S a = some u → a ≠ S := fun a u e z => by rw [z, er_same] at e; cases e
  refine ⟨fun a u e _ => by rw [er_ne (ne a u e)] at e; exact e, fun a ps e => ⟨ps, by rw [er_ne (ne a _ e)] at e; exact e⟩, fun P q t => t.ext fun b o e => by rw [er_ne (ne b o e)] at e; exact e⟩
theorem tabs_er {H : Hp} {S P : Addr} {q : Str} {vs : List V} (h : H S = some (.lst vs)) (t : LamX.TabS H P q) : LamX.TabS (er H S) P q := by
  obtain ⟨ps, h1, h2, h3⟩ := t
  have np : P ≠ S := fun z => by rw [z, h] at h1; cases h1
  refine ⟨ps, by rw [er_ne np]; exact h1, h2, fun pos cv hc => ?_⟩
  obtain ⟨c, e1, e2⟩ := h3 pos cv hc
  have nc : c ≠ S := fun z => by
    rw [z, h] at e2
    unfold LamX.CodeO at e2
    cases e2
  exact ⟨c, e1, by rw [er_ne nc]; exact e2⟩
/-- back from a def that wrote into the list at S -/
theorem StOk.wrote {Hb0 H0 : Hp} {env : Env'} {σ : L2.St} {Hb H Hb2 H2 : Hp} {j : Nat} {S : Addr} {xs ys : List D} {ws : List V} (o : StOk Hb0 H0 env σ Hb H) (h : env[j]? = some (.own xs)) (ea : σ[j]? = some (some (.ref S))) (f : Fr Hb (er H S) Hb2 H2) (h2 : H2 S = some (.lst ws)) (n2 : Hb2 S = none) (dn : Dn ys ws Hb2) : StOk Hb0 H0 (env.set j (.own ys)) σ Hb2 H2 := by
  obtain ⟨a, vs, e1, e2, e3, e4⟩ := o.sl.at_ j _ h
  rw [ea] at e1
  cases e1
  let Hx := upd H2 S (.lst vs)
  have g : Fr Hb H Hb2 Hx := by
    refine ⟨f.b, fun c u hc => ?_, ⟨fun c u hc nt => ?_, fun c ps hc => ?_, fun P q t => tabs_put h2 (fun _ z => by cases z) (fun _ z => by cases z) (f.h.ts P q (tabs_er e3 t))⟩, fun c hm hn => ?_⟩
    · have nc : c ≠ S := fun z => by rw [z, n2] at hc; cases hc
      show upd H2 S _ c = _
      rw [upd_ne nc]
      exact f.s c u hc
    · by_cases z : c = S
      · subst z
        rw [e3] at hc
        cases hc
        exact upd_same
      · show upd H2 S _ c = _
        rw [upd_ne z]
        exact f.h.k1 c u (by rw [er_ne z]; exact hc) nt
    · have z : c ≠ S := fun z => by rw [z, e3] at hc; cases hc
      obtain ⟨qs, w⟩ := f.h.tb c ps (by rw [er_ne z]; exact hc)
      exact ⟨qs, by show upd H2 S _ c = _; rw [upd_ne z]; exact w⟩
    · by_cases z : c = S
      · rw [z]; exact n2
      · obtain ⟨u, w1, w2⟩ := hm
        exact f.o c ⟨u, by rw [er_ne z]; exact w1, w2⟩ hn
  have o2 := (o.fr2 g).put h ea dn
  have e : upd Hx S (.lst ws) = H2 := by
    funext c
    by_cases z : c = S
    · subst z
      rw [upd_same, h2]
    · rw [upd_ne z]
      show upd H2 S _ c = _
      rw [upd_ne z]
  rw [e] at o2
  exact o2
/-- R tells of the data, the list's content and what may come out -/
def PM (R : List D → List D → (D → List D → Prop) → Prop) : Sp := fun vs H Q _ => ∃ x0 xs st O v0 us S ws Hb, vs = v0 :: .ref S :: us ∧ R (x0 :: xs) st O ∧ Ex Hb H ∧ Dn (x0 :: xs) (v0 :: us) Hb ∧ Hb S = none ∧ H S = some (.lst ws) ∧ Dn st ws Hb ∧
  ∀ d st2 v ws2 Hb2 H2, O d st2 → Fr Hb (er H S) Hb2 H2 → H2 S = some (.lst ws2) → Hb2 S = none → Dn st2 ws2 Hb2 → d.p v Hb2 → Q v H2
section
variable {env : Env'} {tr : TA} {R : List D → List D → (D → List D → Prop) → Prop} {P : D → Env' → Prop} {i j : Nat}
/-- f(x, state, ..) -/
theorem ex_callM {x0 : D} {xs st : List D} {O : D → List D → Prop} (h0 : env[i]? = some (.d x0)) (h1 : env[j]? = some (.own st)) (hr : EA tr env xs) (hR : R (x0 :: xs) st O) (hP : ∀ d st2, O d st2 → P d (env.set j (.own st2))) : EXn (tCl (PM R) (tCons (tVar i) (tCons (tVar j) tr))) env P := fun Hb0 H0 σ Hb H Q o q => by
  obtain ⟨v0, e0, p0⟩ := o.sl.at_ i _ h0
  obtain ⟨S, ws, e1, n1, l1, d1⟩ := o.sl.at_ j _ h1
  refine ⟨v0, e0, .ref S, e1, ?_⟩
  show tr σ H _
  refine hr σ Hb H _ o.fr.s o.sl fun us Hb2 H2 f dn => ?_
  have n2 := f.o S ⟨_, l1, fun _ z => by cases z⟩ n1
  refine ⟨x0, xs, st, O, v0, us, S, ws, Hb2, rfl, hR, f.s, .cons (x0.mono f.b p0) dn, n2, f.h.k l1, d1.mono f.b, fun d st2 v ws2 Hb3 H3 ho f3 l3 n3 d3 pv => ?_⟩
  exact q d _ v Hb3 H3 (hP d st2 ho) ((o.fr2 f).wrote h1 e1 f3 l3 n3 d3) (f.b.trans f3.b) pv
end
end Kb
end
section
/-! Kb26: the entry of a def that writes into its second parameter's list. -/
namespace Kb
open PySem PySem.Spec PyProof.Rows L2
def dany : D := ⟨fun _ _ => True, fun _ h => h⟩
def startM (n : Nat) (x0 : D) (st xs : List D) : Env' := (startE n (x0 :: dany :: xs)).set 1 (.own st)
theorem StOk.startM {N : List Str} {x0 : D} {xs st : List D} {v0 : V} {us ws : List V} {S : Addr} {Hb H : Hp} (e : Ex Hb H) (d : Dn (x0 :: xs) (v0 :: us) Hb) (n : Hb S = none) (l : H S = some (.lst ws)) (ds : Dn st ws Hb) (hl : xs.length + 2 ≤ N.length) : StOk Hb (er H S) (startM N.length x0 st xs) (L2.start N (v0 :: .ref S :: us)) Hb H := by
  have d2 : Dn (x0 :: dany :: xs) (v0 :: .ref S :: us) Hb := by
    cases d with
    | cons a r => exact .cons a (.cons True.intro r)
  have o := StOk.start (N := N) e d2 (by simp only [List.length_cons]; omega)
  have s1 : (L2.start N (v0 :: .ref S :: us))[1]? = some (some (.ref S)) := rfl
  refine ⟨⟨by unfold Kb.startM; rw [List.length_set]; exact o.sl.len, fun i y h => ?_⟩, ⟨Evl.Ex.refl _, e, gx_er l, fun _ _ h => h⟩, fun i ys h a ea => ?_, fun i j ys zs h h2 a ea ea2 => ?_⟩
  · unfold Kb.startM at h
    by_cases z : i = 1
    · subst z
      rw [List.getElem?_set_self (by unfold startE; simp)] at h
      cases h
      exact ⟨S, ws, s1, n, l, ds⟩
    · rw [List.getElem?_set_ne (fun w => z w.symm)] at h
      exact o.sl.at_ i y h
  · rcases set_own h with ⟨z, _, _⟩ | ⟨_, z⟩
    · subst z
      rw [s1] at ea
      cases ea
      exact er_same
    · have := o.own i ys z a ea
      unfold er
      split
      · rfl
      · exact this
  · rcases set_own h with ⟨z, _, _⟩ | ⟨_, z⟩
    · rcases set_own h2 with ⟨w, _, _⟩ | ⟨_, w⟩
      · rw [z, w]
      · have := o.own j zs w a ea2
        subst z
        rw [s1] at ea
        cases ea
        rw [this] at l
        cases l
    · rcases set_own h2 with ⟨w, _, _⟩ | ⟨_, w⟩
      · have := o.own i ys z a ea
        subst w
        rw [s1] at ea2
        cases ea2
        rw [this] at l
        cases l
      · exact o.one i j ys zs z w a ea ea2
section
variable {P : Program} {w : World} {K : PySem.W.Frag} {mg : Str → Option Value} {base : Heap} {x : Str} {st : Stmt} {N ps : List Str} {k : Nat} {R : List D → List D → (D → List D → Prop) → Prop}
theorem gf_ofM {t : TS} (Df : DfG K mg x st) (S : FnScope N ps (defScope st)) (hl : ∀ xs s O, R xs s O → xs.length + 1 = ps.length) (hb : Binds0 x x st ps) (rd : Body P w K mg base N x st k t)
    (dd : ∀ x0 xs s O, R (x0 :: xs) s O → SRn t (startM N.length x0 s xs) fun d e => ∃ s2, O d s2 ∧ e[1]? = some (.own s2)) : GF P w K mg base (k + 1) x (PM R) := by
  obtain ⟨f, hm, fd, F⟩ := Df.ex
  have ok := FunD.ok (CX := CX0) (P := P) (w := w) (mg := mg) (base := base) (k := k) (sp := PM R) F S (fun vs H Q E q => by
    obtain ⟨x0, xs, s, O, v0, us, Sa, ws, Hb, rfl, hR, _, d, _⟩ := q
    have := hl _ _ _ hR
    have := d.len
    simp only [List.length_cons] at *
    omega) fun cdv A outer s H vs Q E hr q => by
      obtain ⟨x0, xs, st0, O, v0, us, Sa, ws, Hb, rfl, hR, e, d, n, l, ds, q⟩ := q
      have hle : xs.length + 2 ≤ N.length := by
        have := congrArg List.length S.pre
        rw [List.length_take] at this
        have h2 := hl _ _ _ hR
        simp only [List.length_cons] at h2
        omega
      refine ⟨t, rd f cdv A outer s H E hr, dd x0 xs st0 O hR Hb (er H Sa) _ Hb H _ (StOk.startM e d n l ds hle) fun d2 e2 σ' v Hb2 H2 ⟨s2, ho, h1⟩ o2 z pv => ?_⟩
      obtain ⟨a, ws2, e1, n2, l2, dn2⟩ := o2.sl.at_ 1 _ h1
      rw [z] at e1
      have e1 : some (some (V.ref Sa)) = some (some (V.ref a)) := e1
      cases e1
      exact q d2 s2 v ws2 Hb2 H2 ho o2.fr l2 n2 dn2 pv
  have b : Binds K fd ps [] := F.bindsN fun kV doc pm an cdv ct us hus => hb doc pm an cdv ct kV us hus
  exact ⟨f, (ok.raw b .nil).imp fun vs H Q E q => by rw [List.append_nil]; exact q, F.kp, hm⟩
end
end Kb
end
section
/-! Kb27: own lists read and written by an index. -/
namespace Kb
open PySem PySem.Spec PyProof.Rows L2
theorem Dn.set {H : Hp} {d : D} {v : V} (p : d.p v H) : ∀ {ds : List D} {vs : List V} (i : Nat), Dn ds vs H → Dn (ds.set i d) (vs.set i v) H
  | _, _, _, .nil => .nil
  | _, _, 0, .cons _ r => .cons p r
  | _, _, i + 1, .cons a r => .cons a (Dn.set p i r)
section
variable {env : Env'} {te : TE} {K : PySem.W.Frag} {j : Nat} {xs : List D}
theorem ed_ixO {x : D} (i : Nat) {k : Int} (h : env[j]? = some (.own xs)) (hx : xs[i]? = some x) (hk : k = (i : Int)) : ED (tOp (rIxL K) (tVar j) (tC (.int k))) env x := fun σ Hb H Q e o q => by
  obtain ⟨a, vs, h1, h2, h3, h4⟩ := o.at_ j _ h
  obtain ⟨v, hv, pv⟩ := h4.get hx
  subst hk
  exact ⟨.ref a, h1, a, vs, (i : Int), v, rfl, rfl, Evl.sq_of h3, atI_nat' hv, q v Hb H (Fr.refl e) pv⟩
theorem sbn_setO {P : Env' → Prop} {d : D} (i : Nat) {k : Int} (h : env[j]? = some (.own xs)) (he : ED te env d) (hk : ixN xs.length k = some i) (p : P (env.set j (.own (xs.set i d)))) : SBn (tAsg te (gSub (tVar j) (tC (.int k)) rSetL)) env P := fun Hb0 H0 σ Hb H D o q =>
  he σ Hb H _ o.fr.s o.sl fun v Hb2 H2 f pv => by
    obtain ⟨a, vs, h1, h2, h3, h4⟩ := o.sl.at_ j _ h
    refine ⟨.ref a, h1, a, vs, k, i, rfl, rfl, f.h.k h3, by rw [← h4.len]; exact hk, ?_⟩
    exact q _ σ Hb2 _ p ((o.fr2 f).put h h1 ((h4.mono f.b).set pv i)) f.b rfl
end
/-- the script's length, an item -/
theorem scr_len {K : PySem.W.Frag} {ns : List Int} : CD (rLenS K) [dscr K ns] (di (ns.length : Nat)) := cd1 fun u Hb H Q e hu q => by
  obtain ⟨a, rfl, h⟩ := hu
  refine ⟨a, ns.map V.int, rfl, .inl (Evl.ex_l e h), ?_⟩
  rw [List.length_map]
  exact q _ Hb H (Fr.refl e) rfl
theorem scr_ix {K : PySem.W.Frag} {ns : List Int} {i : Nat} {x : Int} (h : ns[i]? = some x) : OD (rIxL K) (dscr K ns) (di (i : Int)) (di x) := fun u v Hb H Q e hu hv q => by
  obtain ⟨a, rfl, h1⟩ := hu
  have hv : v = V.int (i : Int) := hv
  subst hv
  exact ⟨a, ns.map V.int, (i : Int), .int x, rfl, rfl, Evl.ex_l e h1, atI_nat' (by rw [List.getElem?_map, h]; rfl), q _ Hb H (Fr.refl e) rfl⟩
end Kb
end
section
/-! Kd17: the draws. -/
namespace Kb
open PySem PySem.Spec PyProof.Rows L2 M
section
variable {P : Program} {w : World} {K : PySem.W.Frag} {mg : Str → Option Value} {base : Heap} {s s' : TS} {te : TE} {env e1 : Env'} {Pr0 : D → Env' → Prop}
theorem srn_seq1 (e1 : Env') (h : SBn s env (fun e => e = e1)) (h2 : SRn s' e1 Pr0) : SRn (tSeq s s') env Pr0 := srn_seq h fun e he => by subst he; exact h2
theorem sbn_asg1 {i : Nat} {d : D} (hi : i ≠ 1) (h : ED te env d) (e : env.set i (.d d) = e1) : SBn (tAsg te (gName i)) env (fun e => e = e1) := sbn_asg hi (ex_of h e)
inductive Rlaw_draw (K : PySem.W.Frag) : List D → List D → (D → List D → Prop) → Prop
  | mk {ns : List Int} {lim a b c d : Int} : 0 < lim → lim < 2 ^ 60 → 0 ≤ d → d < 2 ^ 60 → Rlaw_draw K [dscr K ns, di lim] [di a, di b, di c, di d] (fun r st2 => ∃ k a' b' c' : Int, 0 ≤ k ∧ k < lim ∧ r = di k ∧ st2 = [di a', di b', di c', di (d + 1)])
theorem fn_law_draw (B : Bi mg) (Df : DfG K mg "_law_draw" (top 62)) : GF P w K mg base 1 "_law_draw" (PM (Rlaw_draw K)) :=
  gf_ofM Df sc_law_draw (fun _ _ _ h => by cases h; rfl) (fun _ _ _ _ _ _ us h => match us, h with | [_, _, _], _ => rfl) (fun _ _ _ _ _ _ _ hr => rd_law_draw B hr) fun x0 xs st O h => by
    cases h with
    | @mk ns lim a b c d hl hl2 hd hd2 =>
      refine srn_seq1 [.d (dscr K ns), .own [di a, di b, di c, di (d + 1)], .d (di lim), .no, .no, .no] (sbn_setO 3 rfl (ed_op (ed_ixO 3 rfl rfl rfl) ed_c od_i0) rfl rfl) ?_
      refine srn_when (et_and (et_test (ed_op (ed_ixO 1 rfl rfl rfl) ed_c od_eqi)) fun _ => (et_test (ed_op (ed_ixO 0 rfl rfl rfl) ed_c od_i0))) (fun _ => ?_) fun _ => ?_
      · refine srn_seq1 [.d (dscr K ns), .own [di a, di b, di c, di (d + 1)], .d (di lim), .no, .no, .d (di (a % lim))] (sbn_asg1 (by decide) (ed_op (ed_cb (ea_cons (ed_ixO 0 rfl rfl rfl) ea_nil) cd_int) (ed_var rfl) (od_iC hl)) rfl) ?_
        refine srn_seq1 [.d (dscr K ns), .own [di (a / lim), di b, di c, di (d + 1)], .d (di lim), .no, .no, .d (di (a % lim))] (sbn_setO 0 rfl (ed_op (ed_ixO 0 rfl rfl rfl) (ed_var rfl) (od_iC (wide_div (b := 60) hl (by omega) (by decide) (by decide)))) rfl rfl) ?_
        exact srn_ret (ex_of (ed_var rfl) ⟨_, ⟨a % lim, a / lim, b, c, Int.emod_nonneg _ (by omega), Int.emod_lt_of_pos _ hl, rfl, rfl⟩, rfl⟩)
      · let E := fun (cell mix : Sl) (a0 c0 : Int) => ([.d (dscr K ns), .own [di a0, di 0, di c0, di (d + 1)], .d (di lim), cell, mix, .no] : Env')
        refine srn_seq1 (E .no .no a c) (sbn_setO 1 rfl ed_c rfl rfl) ?_
        refine srn_seq1 (E (.d (di 0)) .no a c) (sbn_asg1 (by decide) ed_c rfl) ?_
        refine srn_seq (P1 := fun e => ∃ x : Int, e = E (.d (di x)) .no a c) (sbn_if (et_test (ed_op (ed_cb (ea_cons (ed_var rfl) ea_nil) scr_len) ed_c od_i0)) (fun h => ?_) fun _ => sbn_next ⟨0, rfl⟩) ?_
        · have h0 : (0 : Int) < (ns.length : Nat) := of_decide_eq_true h
          have n0 := Int.emod_nonneg c (show ((ns.length : Nat) : Int) ≠ 0 by omega)
          have n1 := Int.emod_lt_of_pos c h0
          exact sbn_asg (by decide) (ex_of (ed_op (ed_var rfl) (ed_is (ed_op (ed_cb (ea_cons (ed_ixO 2 rfl rfl rfl) ea_nil) cd_int) (ed_cb (ea_cons (ed_var rfl) ea_nil) scr_len) (od_iC h0)) (show di _ = di (((c % (ns.length : Nat)).toNat : Nat) : Int) by rw [Int.toNat_of_nonneg n0])) (scr_ix (x := ns[(c % (ns.length : Nat)).toNat]'(by omega)) (List.getElem?_eq_getElem _))) ⟨_, rfl⟩)
        rintro e ⟨x, rfl⟩
        have m1 := Int.emod_nonneg a (show (2147483647 : Int) ≠ 0 by decide)
        have m2 := Int.emod_lt_of_pos a (show (0 : Int) < 2147483647 by decide)
        refine srn_seq1 (E (.d (di x)) .no a (c + 1)) (sbn_setO 2 rfl (ed_op (ed_ixO 2 rfl rfl rfl) ed_c od_i0) rfl rfl) ?_
        refine srn_seq1 (E (.d (di x)) (.d (di (a % 2147483647 * 48271))) a (c + 1)) (sbn_asg1 (by decide) (ed_op (ed_op (ed_cb (ea_cons (ed_ixO 0 rfl rfl rfl) ea_nil) cd_int) ed_c (od_iC (by decide))) ed_c (od_iC (cmul_of (a := 31) (b := 16) (by omega) (by decide) (by decide) (by decide)))) rfl) ?_
        generalize a % 2147483647 * 48271 = y1
        refine srn_seq1 (E (.d (di x)) (.d (di (y1 + x % 2147483629 + 7 * (d + 1) + 11))) a (c + 1)) (sbn_asg1 (by decide) (ed_op (ed_op (ed_op (ed_var rfl) (ed_op (ed_cb (ea_cons (ed_var rfl) ea_nil) cd_int) ed_c (od_iC (by decide))) od_i0) (ed_op ed_c (ed_ixO 3 rfl rfl rfl) (od_iC (cmul_of (a := 3) (b := 61) (by decide) (by omega) (by decide) (by decide)))) od_i0) ed_c od_i0) rfl) ?_
        generalize y1 + x % 2147483629 + 7 * (d + 1) + 11 = y2
        have k1 := Int.emod_nonneg y2 (show (2147483647 : Int) ≠ 0 by decide)
        have k2 := Int.emod_lt_of_pos y2 (show (0 : Int) < 2147483647 by decide)
        refine srn_seq1 (E (.d (di x)) (.d (di y2)) (y2 % 2147483647) (c + 1)) (sbn_setO 0 rfl (ed_op (ed_cb (ea_cons (ed_var rfl) ea_nil) cd_int) ed_c (od_iC (by decide))) rfl rfl) ?_
        refine srn_seq1 (E (.d (di x)) (.d (di ((y2 % 2147483647 * 69621 + (d + 1)) % 2147483629))) (y2 % 2147483647) (c + 1)) (sbn_asg1 (by decide) (ed_op (ed_cb (ea_cons (ed_op (ed_op (ed_ixO 0 rfl rfl rfl) ed_c (od_iC (cmul_of (a := 31) (b := 17) (by omega) (by decide) (by decide) (by decide)))) (ed_ixO 3 rfl rfl rfl) od_i0) ea_nil) cd_int) ed_c (od_iC (by decide))) rfl) ?_
        generalize (y2 % 2147483647 * 69621 + (d + 1)) % 2147483629 = y3
        exact srn_ret (ex_of (ed_op (ed_cb (ea_cons (ed_op (ed_var rfl) ed_c (od_iC (wide_div (b := 4) (by decide) (by decide) (by decide) (by decide)))) ea_nil) cd_int) (ed_var rfl) (od_iC hl)) ⟨_, ⟨y3 / 13 % lim, y2 % 2147483647, 0, c + 1, Int.emod_nonneg _ (by omega), Int.emod_lt_of_pos _ hl, rfl, rfl⟩, rfl⟩)
end
end Kb
end
section
/-! Kd18: the share drawn. -/
namespace Kb
open PySem PySem.Spec PyProof.Rows L2 M
section
variable {P : Program} {w : World} {K : PySem.W.Frag} {mg : Str → Option Value} {base : Heap} {tr : TA} {tl : TE} {env : Env'} {P0 : D → Env' → Prop}
/-- a draw below lim -/
theorem ex_draw {i j : Nat} {ns : List Int} {lim a b c d : Int} (h0 : env[i]? = some (.d (dscr K ns))) (h1 : env[j]? = some (.own [di a, di b, di c, di d])) (hl : ED tl env (di lim)) (l0 : 0 < lim) (l1 : lim < 2 ^ 60) (d0 : 0 ≤ d) (d1 : d < 2 ^ 60)
    (hP : ∀ k a' b' c' : Int, 0 ≤ k → k < lim → P0 (di k) (env.set j (.own [di a', di b', di c', di (d + 1)]))) : EXn (tCl (PM (Rlaw_draw K)) (tCons (tVar i) (tCons (tVar j) (tCons tl tNil)))) env P0 :=
  ex_callM h0 h1 (ea_cons hl ea_nil) (.mk l0 l1 d0 d1) fun r st2 ⟨k, a', b', c', k0, k1, er, es⟩ => by
    subst er es
    exact hP k a' b' c' k0 k1
inductive Rlaw_share (K : PySem.W.Frag) : List D → List D → (D → List D → Prop) → Prop
  | mk {ns : List Int} {a b c d : Int} : 0 ≤ d → d < 2 ^ 50 → Rlaw_share K [dscr K ns] [di a, di b, di c, di d] (fun r st2 => ∃ p q a' b' c' : Int, 0 ≤ p ∧ p ≤ q ∧ 1 ≤ q ∧ q ≤ 8 ∧ r = prD K (p, q) ∧ st2 = [di a', di b', di c', di (d + 2)])
theorem fn_law_share (B : Bi mg) (g : GF P w K mg base 1 "_law_draw" (PM (Rlaw_draw K))) (Df : DfG K mg "_law_share" (top 64)) : GF P w K mg base 2 "_law_share" (PM (Rlaw_share K)) :=
  gf_ofM Df sc_law_share (fun _ _ _ h => by cases h; rfl) (fun _ _ _ _ _ _ us h => match us, h with | [_, _], _ => rfl) (fun _ _ _ _ _ _ _ hr => rd_law_share B g hr) fun x0 xs st O h => by
    cases h with
    | @mk ns a b c d hd hd2 =>
      refine srn_seq (P1 := fun e => ∃ q a' b' c' : Int, 1 ≤ q ∧ q ≤ 8 ∧ e = [.d (dscr K ns), .own [di a', di b', di c', di (d + 1)], .d (di q)]) (sbn_asg (by decide) (ex_op (Pa := fun x e => x = di 1 ∧ e = [.d (dscr K ns), .own [di a, di b, di c, di d], .no]) (ex_of ed_c ⟨rfl, rfl⟩) ?_)) ?_
      · rintro x e ⟨rfl, rfl⟩
        exact ex_draw (i := 0) (j := 1) rfl rfl ed_c (by decide) (by decide) hd (by omega) fun k a' b' c' k0 k1 => ⟨_, od_i0, 1 + k, a', b', c', by omega, by omega, rfl⟩
      · rintro e ⟨q, a', b', c', q1, q8, rfl⟩
        refine srn_ret (ex_tup (K := K) (Pa := fun ds e => ∃ p a2 b2 c2 : Int, 0 ≤ p ∧ p ≤ q ∧ ds = [di p, di q] ∧ e = [.d (dscr K ns), .own [di a2, di b2, di c2, di (d + 1 + 1)], .d (di q)]) (ean_cons (Pa := fun x e => ∃ p a2 b2 c2 : Int, 0 ≤ p ∧ p ≤ q ∧ x = di p ∧ e = [.d (dscr K ns), .own [di a2, di b2, di c2, di (d + 1 + 1)], .d (di q)]) (ex_draw (i := 0) (j := 1) rfl rfl (ed_op (ed_var rfl) ed_c od_i0) (by omega) (by omega) (by omega) (by omega) fun k a2 b2 c2 k0 k1 => ⟨k, a2, b2, c2, k0, by omega, rfl, rfl⟩) ?_) ?_)
        · rintro x e ⟨p, a2, b2, c2, p0, p1, rfl, rfl⟩
          exact ean_cons (Pa := fun y e => y = di q ∧ e = [.d (dscr K ns), .own [di a2, di b2, di c2, di (d + 1 + 1)], .d (di q)]) (ex_of (ed_var rfl) ⟨rfl, rfl⟩) fun y e ⟨ey, ee⟩ => by
            subst ey ee
            exact ean_nil ⟨p, a2, b2, c2, p0, p1, rfl, rfl⟩
        · rintro ds e ⟨p, a2, b2, c2, p0, p1, rfl, rfl⟩
          exact ⟨by simp, _, ⟨p, q, a2, b2, c2, p0, p1, q1, q8, rfl, by rw [Int.add_assoc]; rfl⟩, rfl⟩
end
end Kb
end
section
/-! Kb28: defs that give a new list of its own. -/
namespace Kb
open PySem PySem.Spec PyProof.Rows L2
def SRO (t : TS) (env : Env') (xs : List D) : Prop := ∀ Hb0 H0 σ Hb H (D : Ends), StOk Hb0 H0 env σ Hb H → (∀ p ws Hb' H', H0 p = none → Hb' p = none → Fr Hb0 H0 Hb' H' → H' p = some (.lst ws) → Dn xs ws Hb' → D.rt (.ref p) H') → t D σ H
section
variable {P : Program} {w : World} {K : PySem.W.Frag} {mg : Str → Option Value} {base : Heap} {x : Str} {st : Stmt} {N ps : List Str} {k : Nat} {R : List D → List D → Prop} {s s' : TS} {env env' : Env'} {xs : List D} {te : TE}
theorem sro_seq (h : SB s env env') (h2 : SRO s' env' xs) : SRO (tSeq s s') env xs := fun Hb0 H0 σ Hb H D o k => h Hb0 H0 σ Hb H { D with nx := s' D } o fun σ1 Hb1 H1 o1 _ => h2 Hb0 H0 σ1 Hb1 H1 D o1 k
theorem sro_ret (h : EO te env xs) : SRO (tRet te) env xs := fun Hb0 H0 σ Hb H D o k => h σ Hb H _ o.fr.s o.sl fun p vs Hb2 H2 hp hb f hl hd => k p vs Hb2 H2 (o.fr.h.no hp) hb (o.fr.trans f) hl hd
theorem gf_ofO {t : TS} (Df : DfG K mg x st) (S : FnScope N ps (defScope st)) (hl : ∀ xs z, R xs z → xs.length = ps.length) (hb : Binds0 x x st ps) (rd : Body P w K mg base N x st k t) (dd : ∀ xs z, R xs z → SRO t (startE N.length xs) z) : GF P w K mg base (k + 1) x (PrO R) := by
  obtain ⟨f, hm, fd, F⟩ := Df.ex
  have ok := FunD.ok (CX := CX0) (P := P) (w := w) (mg := mg) (base := base) (k := k) (sp := PrO R) F S (fun vs H Q E q => by
    obtain ⟨xs, r, Hb, hR, _, d, _⟩ := q
    rw [← d.len]
    exact hl xs r hR) fun cdv A outer s H vs Q E hr q => by
      obtain ⟨xs, r, Hb, hR, e, d, q⟩ := q
      have hle : xs.length ≤ N.length := by
        have := congrArg List.length S.pre
        rw [List.length_take] at this
        rw [hl xs r hR]
        omega
      exact ⟨t, rd f cdv A outer s H E hr, dd xs r hR Hb H _ Hb H _ (StOk.start (N := N) e d hle) fun p ws Hb' H' h1 h2 f h3 h4 => q p ws Hb' H' h1 h2 f h3 h4⟩
  have b : Binds K fd ps [] := F.bindsN fun kV doc pm an cdv ct us hus => hb doc pm an cdv ct kV us hus
  exact ⟨f, (ok.raw b .nil).imp fun vs H Q E q => by rw [List.append_nil]; exact q, F.kp, hm⟩
end
end Kb
end
section
/-! Kd19: the start of the state. -/
namespace Kb
open PySem PySem.Spec PyProof.Rows L2 M
section
variable {P : Program} {w : World} {K : PySem.W.Frag} {mg : Str → Option Value} {base : Heap}
inductive Rlaw_start (K : PySem.W.Frag) : List D → List D → Prop
  | mk {ns : List Int} : Rlaw_start K [dscr K ns] [di ((ns.headD 0).natAbs : Int), di (if decide ((10 : Int) ^ 18 ≤ ((ns.headD 0).natAbs : Int)) then 1 else 0), di 1, di 0]
theorem fn_law_start (B : Bi mg) (Df : DfG K mg "_law_start" (top 61)) : GF P w K mg base 1 "_law_start" (PrO (Rlaw_start K)) :=
  gf_ofO Df sc_law_start (fun _ _ h => by cases h; rfl) (fun _ _ _ _ _ _ us h => match us, h with | [_], _ => rfl) (fun _ _ _ _ _ _ _ hr => rd_law_start B hr) fun xs z h => by
    cases h with
    | @mk ns =>
      refine sro_seq (sb_asg ed_c) (sro_seq (env' := [.d (dscr K ns), .d (di (ns.headD 0))]) (sb_if (et_test (ed_op (ed_cb (ea_cons (ed_var rfl) ea_nil) scr_len) ed_c od_i0)) (fun h => ?_) fun h => ?_) (sro_ret (eo_lst (ea_cons (ed_cb (ea_cons (ed_cb (ea_cons (ed_var rfl) ea_nil) cd_int) ea_nil) cd_abs) (ea_cons (ed_cb (ea_cons (ed_op (ed_cb (ea_cons (ed_cb (ea_cons (ed_var rfl) ea_nil) cd_int) ea_nil) cd_abs) (ed_op ed_c ed_c (od_iC ?_)) od_i0) ea_nil) cd_intB) (ea_cons ed_c (ea_cons ed_c ea_nil)))) rfl)))
      · cases ns with
        | nil => exact absurd h (by decide)
        | cons a r => exact sb_asg (ed_op (ed_var rfl) ed_c (scr_ix (i := 0) rfl))
      · cases ns with
        | nil => exact sb_next
        | cons a r =>
          have := of_decide_eq_false h
          simp at this
      · unfold CPow
        decide
end
end Kb
end
section
/-! Kb29: a for over a range whose end is an outcome. -/
namespace Kb
open PySem PySem.Spec PyProof.Rows L2
section
variable {env : Env'} {tr : TA} {K : PySem.W.Frag} {j m : Nat}
theorem sbn_forE {body : TS} {P : Env' → Prop} (hj : j ≠ 1) (I : Nat → Env' → Prop) (hn : EAn tr env fun ds e => ∃ n : Nat, 1 ≤ n ∧ n ≤ m ∧ ds = [di (n : Int)] ∧ I 0 e) (hz : m < 90000) (hb : ∀ i e, i < m → I i e → SBn body (e.set j (.d (di (i : Int)))) (I (i + 1))) (hP : ∀ n e, 1 ≤ n → n ≤ m → I n e → P e) : SBn (tFor (iRng1 tr) (gName j) body) env P := fun Hb0 H0 σ Hb H D o k =>
  hn Hb0 H0 σ Hb H _ o fun ds e vs Hb1 H1 ⟨n, n1, nm, eds, i0⟩ o1 x1 dn => by
    subst eds
    cases dn with
    | cons a r =>
      cases r
      have a' : _ = V.int (n : Int) := a
      subst a'
      refine ⟨(n : Int), rfl, by omega, by omega, ?_⟩
      show (fun (J : It) (H1 : Hp) => _) (Itr 0 ((n : Int)).toNat) H1
      rw [Int.toNat_natCast]
      refine for_range (FvN σ[1]? Hb0 H0 I Hb1) ⟨e, Hb1, i0, o1, Evl.Ex.refl _, rfl⟩ (fun i σ' H' hi p => ?_) fun σ' H' p => ?_
      · obtain ⟨e', Hb', ii, o', x', z'⟩ := p
        refine hb i e' (by omega) ii Hb0 H0 _ Hb' H' _ (o'.set (x := .d (di (i : Int))) ⟨_, rfl, show V.int (0 + (i : Int)) = V.int (i : Int) from by rw [Int.zero_add]⟩ fun _ z => by cases z) fun e3 σ3 Hb3 H3 p3 o3 x3 z3 => ⟨e3, Hb3, p3, o3, x'.trans x3, z3.trans ((List.getElem?_set_ne hj).trans z')⟩
      · obtain ⟨e', Hb', ii, o', x', z'⟩ := p
        exact k e' σ' Hb' H' (hP n e' n1 nm ii) o' (x1.trans x') z'
end
end Kb
end
section
/-! Kd20: the chances drawn. -/
namespace Kb
open PySem PySem.Spec PyProof.Rows L2 M
/-- a chance as drawn -/
structure ChP (p : Int × Int) : Prop where
  h1 : p.2 ≤ 2 * p.1
  h2 : p.1 < p.2
  h3 : 2 ≤ p.2
  h4 : p.2 ≤ 8
section
variable {P : Program} {w : World} {K : PySem.W.Frag} {mg : Str → Option Value} {base : Heap}
inductive Rlaw_chances (K : PySem.W.Frag) : List D → List D → (D → List D → Prop) → Prop
  | mk {ns : List Int} {m : Nat} {a b c d : Int} : 1 ≤ m → m ≤ 8 → 0 ≤ d → d < 2 ^ 40 → Rlaw_chances K [dscr K ns, di (m : Int)] [di a, di b, di c, di d] (fun r st2 => ∃ (raw : List (Int × Int)) (a' b' c' d' : Int), 1 ≤ raw.length ∧ raw.length ≤ m ∧ (∀ p ∈ raw, ChP p) ∧ 0 ≤ d' ∧ d' ≤ d + 100 ∧ r = rawD K raw ∧ st2 = [di a', di b', di c', di d'])
def chE (K : PySem.W.Frag) (ns : List Int) (m : Nat) (a b c d : Int) (kd : Int) (raw : List (Int × Int)) (x5 x6 x7 x8 : Sl) : Env' := [.d (dscr K ns), .own [di a, di b, di c, di d], .d (di (m : Int)), .d (di kd), .own (raw.map fun p => prD K p), x5, x6, x7, x8]
theorem fn_law_chances (B : Bi mg) (g : GF P w K mg base 1 "_law_draw" (PM (Rlaw_draw K))) (Df : DfG K mg "_law_chances" (top 63)) : GF P w K mg base 2 "_law_chances" (PM (Rlaw_chances K)) :=
  gf_ofM Df sc_law_chances (fun _ _ _ h => by cases h; rfl) (fun _ _ _ _ _ _ us h => match us, h with | [_, _, _], _ => rfl) (fun _ _ _ _ _ _ _ hr => rd_law_chances B g hr) fun x0 xs st O h => by
    cases h with
    | @mk ns m a b c d m1 m8 hd hd2 =>
      refine srn_seq (P1 := fun e => ∃ kd a b c : Int, e = [.d (dscr K ns), .own [di a, di b, di c, di (d + 1)], .d (di (m : Int)), .d (di kd), .no, .no, .no, .no, .no]) (sbn_asg (by decide) (ex_draw (i := 0) (j := 1) rfl rfl ed_c (by decide) (by decide) hd (by omega) fun k a b c k0 k1 => ⟨k, a, b, c, rfl⟩)) ?_
      rintro e ⟨kd, a, b, c, rfl⟩
      refine srn_seq1 (chE K ns m a b c (d + 1) kd [] .no .no .no .no) (sbn_own (by decide) (eo_lst ea_nil rfl) rfl) ?_
      let I := fun (i : Nat) (e : Env') => ∃ (raw : List (Int × Int)) (a b c d2 : Int) (x5 x6 x7 x8 : Sl), raw.length = i ∧ (∀ p ∈ raw, ChP p) ∧ 0 ≤ d2 ∧ d2 ≤ d + 2 + 3 * i ∧ e = chE K ns m a b c d2 kd raw x5 x6 x7 x8
      refine srn_seq (P1 := fun e => ∃ n, 1 ≤ n ∧ n ≤ m ∧ I n e) (sbn_forE (m := m) (by decide) I ?_ (by omega) ?_ fun n e n1 nm h => ⟨n, n1, nm, h⟩) ?_
      · refine ean_cons (Pa := fun x e => ∃ n : Nat, 1 ≤ n ∧ n ≤ m ∧ x = di (n : Int) ∧ I 0 e) (ex_op (Pa := fun x e => x = di 1 ∧ e = chE K ns m a b c (d + 1) kd [] .no .no .no .no) (ex_of ed_c ⟨rfl, rfl⟩) ?_) ?_
        · rintro x e ⟨rfl, rfl⟩
          refine ex_draw (i := 0) (j := 1) rfl rfl (ed_var rfl) (by omega) (by omega) (by omega) (by omega) fun k a b c k0 k1 => ⟨di (1 + k), od_i0, (1 + k).toNat, by omega, by omega, by rw [Int.toNat_of_nonneg (by omega)], [], a, b, c, d + 1 + 1, .no, .no, .no, .no, rfl, by simp, by omega, by omega, rfl⟩
        · rintro x e ⟨n, n1, nm, rfl, h⟩
          exact ean_nil ⟨n, n1, nm, rfl, h⟩
      · rintro i e hi ⟨raw, a, b, c, d2, x5, x6, x7, x8, rl, rc, d0, d1, rfl⟩
        show SBn _ (chE K ns m a b c d2 kd raw (.d (di (i : Int))) x6 x7 x8) _
        refine sbn_seq (P1 := fun e => ∃ u a b c : Int, 2 ≤ u ∧ u ≤ 8 ∧ e = chE K ns m a b c (d2 + 1) kd raw (.d (di (i : Int))) (.d (di u)) x7 x8) (sbn_asg (by decide) (ex_op (Pa := fun x e => x = di 2 ∧ e = chE K ns m a b c d2 kd raw (.d (di (i : Int))) x6 x7 x8) (ex_of ed_c ⟨rfl, rfl⟩) ?_)) ?_
        · rintro x e ⟨rfl, rfl⟩
          exact ex_draw (i := 0) (j := 1) rfl rfl ed_c (by decide) (by decide) d0 (by omega) fun k a b c k0 k1 => ⟨_, od_i0, 2 + k, a, b, c, by omega, by omega, rfl⟩
        rintro e ⟨u, a, b, c, u2, u8, rfl⟩
        have w1 : (u + 1) / 2 * 2 ≤ u + 1 := by omega
        have w2 : u + 1 < (u + 1) / 2 * 2 + 2 := by omega
        refine sbn_seq (P1 := fun e => e = chE K ns m a b c (d2 + 1) kd raw (.d (di (i : Int))) (.d (di u)) (.d (di ((u + 1) / 2))) x8) (sbn_asg1 (by decide) (ed_op (ed_op (ed_var rfl) ed_c od_i0) ed_c (od_iC (wide_div (b := 2) (by decide) (by decide) (by decide) (by decide)))) rfl) ?_
        rintro e rfl
        generalize (u + 1) / 2 = l at w1 w2
        let E := fun (a b c d3 : Int) (p : Int × Int) => chE K ns m a b c d3 kd raw (.d (di (i : Int))) (.d (di u)) (.d (di l)) (.d (prD K p))
        refine sbn_seq (P1 := fun e => ∃ (a b c : Int) (p : Int × Int), ChP p ∧ e = E a b c (d2 + 1 + 1) p) (sbn_asg (by decide) (ex_tup (K := K) (Pa := fun ds e => ∃ (a b c p : Int), l ≤ p ∧ p < u ∧ ds = [di p, di u] ∧ e = chE K ns m a b c (d2 + 1 + 1) kd raw (.d (di (i : Int))) (.d (di u)) (.d (di l)) x8) (ean_cons (Pa := fun x e => ∃ (a b c p : Int), l ≤ p ∧ p < u ∧ x = di p ∧ e = chE K ns m a b c (d2 + 1 + 1) kd raw (.d (di (i : Int))) (.d (di u)) (.d (di l)) x8) (ex_op (Pa := fun x e => x = di l ∧ e = chE K ns m a b c (d2 + 1) kd raw (.d (di (i : Int))) (.d (di u)) (.d (di l)) x8) (ex_of (ed_var rfl) ⟨rfl, rfl⟩) ?_) ?_) ?_)) ?_
        · rintro x e ⟨rfl, rfl⟩
          exact ex_draw (i := 0) (j := 1) rfl rfl (ed_op (ed_var rfl) (ed_var rfl) od_i0) (by omega) (by omega) (by omega) (by omega) fun k a b c k0 k1 => ⟨_, od_i0, a, b, c, l + k, by omega, by omega, rfl, rfl⟩
        · rintro x e ⟨a, b, c, p, p0, p1, rfl, rfl⟩
          exact ean_cons (Pa := fun y e => y = di u ∧ e = chE K ns m a b c (d2 + 1 + 1) kd raw (.d (di (i : Int))) (.d (di u)) (.d (di l)) x8) (ex_of (ed_var rfl) ⟨rfl, rfl⟩) fun y e ⟨ey, ee⟩ => by
            subst ey ee
            exact ean_nil ⟨a, b, c, p, p0, p1, rfl, rfl⟩
        · rintro ds e ⟨a, b, c, p, p0, p1, rfl, rfl⟩
          exact ⟨by simp, a, b, c, (p, u), ⟨by show u ≤ 2 * p; omega, p1, u2, u8⟩, rfl⟩
        rintro e ⟨a, b, c, p, hp, rfl⟩
        refine sbn_seq (P1 := fun e => ∃ (a b c : Int) (p : Int × Int), ChP p ∧ e = E a b c (d2 + 1 + 1) p) (sbn_if (b := decide (kd = 0) && decide ((0 : Int) < i)) (et_and (et_test (ed_op (ed_var rfl) ed_c od_eqi)) fun _ => (et_test (ed_op (ed_var rfl) ed_c od_i0))) (fun h => ?_) fun _ => sbn_next ⟨a, b, c, p, hp, rfl⟩) ?_
        · have hi0 : (0 : Int) < i := of_decide_eq_true (Bool.and_eq_true_iff.mp h).2
          have h0 : 0 < raw.length := by omega
          exact sbn_asg (by decide) (ex_of (ed_ixO (K := K) (x := prD K raw[0]) 0 rfl (by rw [List.getElem?_map, List.getElem?_eq_getElem h0]; rfl) rfl) ⟨a, b, c, raw[0], rc _ (List.getElem_mem h0), rfl⟩)
        rintro e ⟨a, b, c, p, hp, rfl⟩
        refine sbn_seq (P1 := fun e => ∃ (a b c d3 : Int) (p : Int × Int), 0 ≤ d3 ∧ d3 ≤ d2 + 3 ∧ ChP p ∧ e = E a b c d3 p) (sbn_if (et_test (ed_op (ed_var rfl) ed_c od_eqi)) (fun h => sbn_asg (by decide) (ex_op (Pa := fun x e => x = dl [prD K (1, 2), prD K (3, 4)] ∧ e = E a b c (d2 + 1 + 1) p) (ex_of (ed_lst (ea_cons (ed_tup (ea_cons ed_c (ea_cons ed_c ea_nil)) rfl) (ea_cons (ed_tup (ea_cons ed_c (ea_cons ed_c ea_nil)) rfl) ea_nil)) rfl) ⟨rfl, rfl⟩) ?_)) fun _ => sbn_next ⟨a, b, c, d2 + 1 + 1, p, by omega, by omega, hp, rfl⟩) ?_
        · rintro x e ⟨rfl, rfl⟩
          refine ex_draw (i := 0) (j := 1) rfl rfl ed_c (by decide) (by decide) (by omega) (by omega) fun k a b c k0 k1 => ?_
          have : k = 0 ∨ k = 1 := by omega
          rcases this with rfl | rfl
          · exact ⟨_, od_ixL (i := 0) rfl, a, b, c, d2 + 1 + 1 + 1, (1, 2), by omega, by omega, ⟨by decide, by decide, by decide, by decide⟩, rfl⟩
          · exact ⟨_, od_ixL (i := 1) rfl, a, b, c, d2 + 1 + 1 + 1, (3, 4), by omega, by omega, ⟨by decide, by decide, by decide, by decide⟩, rfl⟩
        rintro e ⟨a, b, c, d3, p, e0, e1, hp, rfl⟩
        refine sbn_app (d := prD K p) rfl (ed_var rfl) (by rw [List.length_map]; omega) ⟨raw ++ [p], a, b, c, d3, .d (di (i : Int)), .d (di u), .d (di l), .d (prD K p), by rw [List.length_append, rl]; rfl, fun q hq => ?_, e0, by omega, ?_⟩
        · rcases List.mem_append.mp hq with hq | hq
          · exact rc q hq
          · rw [List.mem_singleton] at hq
            rw [hq]
            exact hp
        · show _ = ([_, _, _, _, Sl.own ((raw ++ [p]).map fun p => prD K p), _, _, _, _] : Env')
          rw [List.map_append]
          rfl
      · rintro e ⟨n, n1, nm, raw, a, b, c, d2, x5, x6, x7, x8, rl, rc, d0, d1, rfl⟩
        exact srn_keep 4 rfl (srn_ret (ex_of (ed_var rfl) ⟨_, ⟨raw, a, b, c, d2, by omega, by omega, rc, d0, by omega, rfl, rfl⟩, rfl⟩))
end
end Kb
end
section
/-! K30: a generator's frame, seen from the state at which it is woken. -/
namespace Kb
open PySem PySem.Spec PyProof.Rows L2
/-- the objects older than n -/
def cut (h : Heap) (n : Nat) : Heap := { h with objs := h.objs.extract 0 n }
theorem cut_size {h : Heap} {n : Nat} (l : n ≤ h.objs.size) : (cut h n).objs.size = n := by
  unfold cut
  simp
  omega
theorem cut_get {h : Heap} {n b : Nat} (l : b < n) : (cut h n).get? b = h.get? b := by
  unfold cut Heap.get?
  rw [Array.getElem?_extract]
  simp only [Nat.zero_add, Nat.sub_zero]
  by_cases hb : b < h.objs.size
  · rw [if_pos (show b < min n h.objs.size by omega)]
  · rw [if_neg (show ¬ b < min n h.objs.size by omega), Array.getElem?_eq_none (by omega)]
theorem cut_none {h : Heap} {n b : Nat} (l : n ≤ b) : (cut h n).get? b = none := by
  unfold cut Heap.get?
  rw [Array.getElem?_extract, if_neg (show ¬ b < min n h.objs.size - 0 by omega)]
theorem of_cut {h : Heap} {n b : Nat} {o : Obj} (e : (cut h n).get? b = some o) : b < n ∧ h.get? b = some o := by
  by_cases l : b < n
  · rw [cut_get l] at e
    exact ⟨l, e⟩
  · rw [cut_none (by omega)] at e
    cases e
theorem cut_fun {h base : Heap} {n : Nat} : ∀ {l : List Env}, (∀ b ∈ frs l, b < n) → h.FunFrames base l → (cut h n).FunFrames base l
  | [], _, _ => trivial
  | e :: r, hs, hl => by
    obtain ⟨hk, ⟨L, o, hf, hn, ho, hd⟩, hr⟩ := hl
    have hL : L < n := hs L (by unfold frs; rw [List.filterMap_cons, hf]; exact List.mem_cons_self)
    exact ⟨hk, ⟨L, o, hf, hn, by rw [cut_get hL]; exact ho, hd⟩, cut_fun (fun b hb => hs b (by
      unfold frs at hb ⊢
      rw [List.filterMap_cons, hf]
      exact List.mem_cons_of_mem _ hb)) hr⟩
/-- the state as the generator's frame sees it: what is older than the frame -/
def cutS (s : Shared) (n : Nat) : Shared := { s with heap := cut s.heap n }
/-- a scope all of whose names are locals (or come from the module) -/
structure GSc (N : List Str) (sc : Scope) : Prop where
  kind : sc.kind = .function
  noc : ∀ y ∈ sc.names, y.2 ≠ .cell ∧ y.2 ≠ .free
theorem GSc.look {N : List Str} {sc : Scope} (S : GSc N sc) {x : Str} : sc.names.lookup x ≠ some .cell ∧ sc.names.lookup x ≠ some .free :=
  ⟨fun h => (S.noc _ (PySem.mem_of_lookup h)).1 rfl, fun h => (S.noc _ (PySem.mem_of_lookup h)).2 rfl⟩
theorem GSc.cells {N : List Str} {sc : Scope} (S : GSc N sc) (n : Nat) (x : Str) : (cellsFrom n sc.names []).lookup x = none := by
  have : ∀ (l : List (Str × NameKind)) (n : Nat), (∀ y ∈ l, y.2 ≠ .cell ∧ y.2 ≠ .free) → cellsFrom n l [] = [] := by
    intro l
    induction l with
    | nil => intro n _; rfl
    | cons y r ih =>
      intro n h
      obtain ⟨nm, k⟩ := y
      have hy := h _ (List.mem_cons_self ..)
      have hr := ih n fun z hz => h z (List.mem_cons_of_mem _ hz)
      cases k <;> first
        | exact absurd rfl hy.1
        | exact absurd rfl hy.2
        | (unfold cellsFrom; exact hr)
  rw [this sc.names n S.noc]
  rfl
section
variable {P : Program} {w : World} {K : PySem.W.Frag} {mg : Str → Option Value} {base : Heap} {N : List Str} {qual : Str} {sc : Scope} {f : Addr} {cd : Value} {A : Around} {outer : List Env} {s : Shared} {H : Hp} {E : XK} {n : Nat}
abbrev gX (P : Program) (w : World) (K : PySem.W.Frag) (mg : Str → Option Value) (base : Heap) (N : List Str) (qual : Str) (sc : Scope) (f : Addr) (cd : Value) (A : Around) (outer : List Env) (s : Shared) (H : Hp) (E : XK) (n : Nat) : Cx :=
  (cxOf CX0 P w K mg base N qual sc f cd A outer (cutS s n) H E).nox
theorem gX_env (l : n ≤ s.heap.objs.size) : (gX P w K mg base N qual sc f cd A outer s H E n).env = envOfC qual sc n f cd := by
  show envOfC qual sc (cutS s n).heap.objs.size f cd = _
  rw [show (cutS s n).heap.objs.size = n from cut_size l]
/-- what the frame's names hold -/
def FrOk (N : List Str) (sc : Scope) (σ : L2.St) (h : Heap) (n : Nat) : Prop := σ.length = N.length ∧ ∃ m, h.Ns n m ∧ ∀ (i : Nat) (x : Str) (v : V), N[i]? = some x → σ[i]? = some (some v) → Vis sc x → ∃ u, RelV v u ∧ sc.names.lookup x = some .local ∧ m x = some u
theorem inv_gen {σ : L2.St} {pins : List (Addr × Obj)} (S : GSc N sc) (hd : A.handled = none) (e0 : Env0 P w K mg base A outer s H) (l : n ≤ s.heap.objs.size) (bn : base.objs.size ≤ n) (fn : ∀ b ∈ frs outer, b < n) (fo : FrOk N sc σ s.heap n) (hn : H n = none)
    (hp : ∀ p ∈ pins, s.heap.get? p.1 = some p.2 ∧ H p.1 = none ∧ p.1 ≠ n ∧ p.1 ∉ frs outer ∧ ∀ v, p.2.data ≠ .cell v) : Inv (gX P w K mg base N qual sc f cd A outer s H E n) pins σ H s := by
  have el : (gX P w K mg base N qual sc f cd A outer s H E n).env.locals = n := by rw [gX_env l]; rfl
  have ec : ∀ x, (gX P w K mg base N qual sc f cd A outer s H E n).env.cells.lookup x = none := fun x => S.cells _ x
  have ek : ∀ x, (gX P w K mg base N qual sc f cd A outer s H E n).env.kindOf x = sc.names.lookup x := fun x => rfl
  have cz : (gX P w K mg base N qual sc f cd A outer s H E n).s_0.heap.objs.size = n := cut_size l
  refine ⟨⟨e0.mod, S.kind, rfl, rfl, by rw [el, cz]; exact Nat.le_refl _, fun y z c h1 _ => ?_, fun y hy => ?_, fun y c _ h => ?_, fun _ => hd, Around.frames_deeper e0.frames, .inr ⟨rfl, rfl⟩, (fun b z => nomatch z), fun b o e => ?_, by rw [cz]; exact bn, (fun b o _ z => nomatch z), (fun b z => nomatch z), cut_fun fn e0.funs, e0.frf⟩,
    rfl, e0.bare, ?_, ?_, fun y c h => ?_, by rw [el]; exact hn, fun y c h => ?_, fun p hpp => ?_, e0.hok, fo.1⟩
  · rw [ec] at h1
    cases h1
  · rw [ek] at hy
    rcases hy with hy | hy
    · exact absurd hy S.look.1
    · exact absurd hy S.look.2
  · rw [ec] at h
    cases h
  · have h1 := e0.bs b o e
    refine ⟨?_, h1.2⟩
    show (cut s.heap n).get? b = some o
    rw [cut_get (Nat.lt_of_lt_of_le (Heap.lt_size e) bn)]
    exact h1.1
  · exact ⟨fun b o e _ _ _ => (of_cut e).2, fun b o e _ _ _ => ⟨o.slots, (of_cut e).2⟩, fun _ _ _ h _ => h, fun b o e _ => ⟨o, (of_cut e).2⟩, fun _ _ q => q, fun _ _ _ q => q, fun _ ps q => ⟨#[], by rw [Array.append_empty]; exact q⟩⟩
  · obtain ⟨_, m, hm, hl⟩ := fo
    refine ⟨m, by rw [el]; exact hm, fun i x v h1 h2 h3 => ?_⟩
    obtain ⟨u, r, k, e⟩ := hl i x v h1 h2 h3
    exact ⟨u, r, .inl ⟨k, e⟩⟩
  · rw [ec] at h
    cases h
  · rw [ec] at h
    cases h
  · have hpp : p ∈ pins := by
      rcases List.mem_append.mp hpp with z | z
      · exact nomatch z
      · exact z
    obtain ⟨h1, h2, h3, h4, h5⟩ := hp p hpp
    exact ⟨h1, h2, by rw [el]; exact h3, h4, h5⟩
/-- and back: what the frame's names hold -/
theorem inv_fr {σ : L2.St} {pins : List (Addr × Obj)} {H' : Hp} {s' : Shared} (S : GSc N sc) (l : n ≤ s.heap.objs.size) (I : Inv (gX P w K mg base N qual sc f cd A outer s H E n) pins σ H' s') : FrOk N sc σ s'.heap n := by
  have el : (gX P w K mg base N qual sc f cd A outer s H E n).env.locals = n := by rw [gX_env l]; rfl
  refine ⟨I.len, ?_⟩
  obtain ⟨m, hm, hl⟩ := I.loc
  rw [el] at hm
  refine ⟨m, hm, fun i x v h1 h2 h3 => ?_⟩
  obtain ⟨u, r, q⟩ := hl i x v h1 h2 h3
  rcases q with ⟨k, e⟩ | ⟨k, c, e, _⟩
  · exact ⟨u, r, k, e⟩
  · rw [show (gX P w K mg base N qual sc f cd A outer s H E n).env.cells.lookup x = none from S.cells _ x] at e
    cases e
end
end Kb
end
section
/-! K31: the consumer's state behind a wake. -/
namespace Kb
open PySem PySem.Spec PyProof.Rows L2
/-- what a wake changes: older objects as a call does, younger ones (but the generator's own at fp) not at all -/
structure Out (P : Program) (w : World) (outer : List Env) (n : Nat) (fp : List Addr) (H H1 : Hp) (s s1 : Shared) : Prop where
  os : s1.os = s.os
  bare : AllBare s1.gens
  hok : HOk P w H1 s1.heap
  un : Un (frs outer) [] H H1 (cut s.heap n) s1.heap
  yg : ∀ b o, n ≤ b → b ∉ fp → s.heap.get? b = some o → H b = none → (∀ v, o.data ≠ .cell v) → s1.heap.get? b = some o ∧ H1 b = none
theorem obj_there {P : Program} {w : World} {H : Hp} {h : Heap} {a : Addr} {o : HO} (x : ObjOk P w H h a o) : ∃ u, h.get? a = some u := by
  cases o with
  | lst xs => obtain ⟨_, _, _, _, e⟩ := x; exact ⟨_, e⟩
  | tup xs => obtain ⟨_, _, _, ob, e, _⟩ := x; exact ⟨ob, e⟩
  | dK kvs => obtain ⟨_, _, _, _, o, _, _, e, _⟩ := x; exact ⟨o, e⟩
  | dT kvs => obtain ⟨_, _, _, _, o, _, _, e, _⟩ := x; exact ⟨o, e⟩
  | set S n => obtain ⟨o, _, _, _, e, _⟩ := x; exact ⟨o, e⟩
  | ins C dx fs => obtain ⟨_, _, _, e, _⟩ := x; exact ⟨_, e⟩
  | own y => exact x
  | xd fs => obtain ⟨_, ⟨o, _, _, e, _⟩, _⟩ := x; exact ⟨o, e⟩
  | rng lo hi => obtain ⟨_, _, _, e⟩ := x; exact ⟨_, e⟩
  | frz ob u => exact ⟨ob, x.1⟩
  | tbl ps => exact ⟨_, x⟩
  | met f y => exact ⟨_, x⟩
  | ext φ => exact x.2.1
section
variable {X : Cx} {pins : List (Addr × Obj)} {σ : L2.St} {H H1 : Hp} {s s1 : Shared} {n : Nat} {fp : List Addr}
theorem Inv.woke (I : Inv X pins σ H s) (u : Out X.prog X.w X.stack n fp H H1 s s1) (hf : ∀ b ∈ fp, FpOk X pins H b)
    (h0 : ∀ b o, n ≤ b → X.s_0.heap.get? b = some o → X.H_0 b = none → b ∈ X.ex) (h2 : ∀ b o, n ≤ b → X.s_0.heap.get? b = some o → X.H_0 b ≠ none → H1 b ≠ none)
    (hc : ∀ x c, X.env.cells.lookup x = some c → c < n) : Inv X pins σ H1 s1 := by
  have old : ∀ b o, b < n → s.heap.get? b = some o → (cut s.heap n).get? b = some o := fun b o l e => by rw [cut_get l]; exact e
  have any : ∀ b o, b < n → s.heap.get? b = some o → H b = none → ∃ sl, s1.heap.get? b = some { o with slots := sl } := fun b o l e z => u.un.any (old b o l e) z (by simp)
  have nst : ∀ b, b ≠ X.env.locals → b ∉ X.fs → b ∉ frs X.stack := fun b h1 h2 hm => by
    rcases List.mem_cons.mp (I.stkSub b hm) with z | z
    · exact h1 z
    · exact h2 z
  have neL : ∀ b o, X.s_0.heap.get? b = some o → b ≠ X.env.locals := fun b o e => Nat.ne_of_lt (Nat.lt_of_lt_of_le (Heap.lt_size e) I.ok.above)
  have cellK : ∀ x c, X.env.cells.lookup x = some c → ∀ v, s.heap.IsCell c v → s1.heap.IsCell c v := fun x c e v ⟨o, ho, hd⟩ => by
    obtain ⟨sl, z⟩ := any c o (hc x c e) ho (I.freeC x c e)
    exact ⟨_, z, hd⟩
  refine ⟨I.ok, u.os.trans I.os, u.bare, ⟨fun b o e z hb hx => ?_, fun b o e z hb hx => ?_, fun b o e z hx => ?_, fun b o e hx => ?_, fun b xs e => u.un.tups b xs (I.base.tups b xs e), fun b o xs e => u.un.frzs b o xs (I.base.frzs b o xs e), fun b ps e => ?_⟩, ?_, fun x c e => ?_, ?_, fun x c e => ?_, fun p hp => ?_, u.hok, I.len⟩
  · by_cases l : b < n
    · exact u.un.keep b o (old b o l (I.base.keep b o e z hb hx)) (I.base.free b o e z hx) (nst b (neL b o e) hb) (by simp)
    · exact absurd (h0 b o (Nat.le_of_not_lt l) e z) hx
  · by_cases l : b < n
    · obtain ⟨sl, e1⟩ := I.base.slot b o e z hb hx
      obtain ⟨sl2, e2⟩ := any b _ l e1 (I.base.free b o e z hx)
      exact ⟨sl2, e2⟩
    · exact absurd (h0 b o (Nat.le_of_not_lt l) e z) hx
  · by_cases l : b < n
    · obtain ⟨o', e1⟩ := I.base.there b o e hx
      exact u.un.free b o' (old b o' l e1) (I.base.free b o e z hx) (by simp)
    · exact absurd (h0 b o (Nat.le_of_not_lt l) e z) hx
  · by_cases l : b < n
    · obtain ⟨o', e1⟩ := I.base.there b o e hx
      exact u.un.there b o' (old b o' l e1) (by simp)
    · by_cases z : X.H_0 b = none
      · exact absurd (h0 b o (Nat.le_of_not_lt l) e z) hx
      · have q := h2 b o (Nat.le_of_not_lt l) e z
        cases r : H1 b with
        | none => exact absurd r q
        | some t =>
          exact obj_there (u.hok b t r)
  · obtain ⟨m1, e1⟩ := I.base.tbls b ps e
    obtain ⟨m2, e2⟩ := u.un.tbls b _ e1
    exact ⟨m1 ++ m2, by rw [e2, Array.append_assoc]⟩
  · obtain ⟨m, hn, hl⟩ := I.loc
    refine ⟨m, ?_, fun i x v e1 e2 e3 => ?_⟩
    · obtain ⟨o, es, ep, ho, hd, r⟩ := hn
      by_cases l : X.env.locals < n
      · obtain ⟨sl, z⟩ := any _ o l ho I.free
        exact ⟨_, es, ep, z, hd, r⟩
      · obtain ⟨z, _⟩ := u.yg _ o (Nat.le_of_not_lt l) (fun z => (hf _ z).2.1 rfl) ho I.free fun v q => by rw [hd] at q; cases q
        exact ⟨o, es, ep, z, hd, r⟩
    · obtain ⟨t, r, q⟩ := hl i x v e1 e2 e3
      refine ⟨t, r, ?_⟩
      rcases q with q | ⟨k, c, e, z⟩
      · exact .inl q
      · exact .inr ⟨k, c, e, cellK x c e _ z⟩
  · obtain ⟨v, z⟩ := I.cell x c e
    exact ⟨v, cellK x c e v z⟩
  · obtain ⟨m, ⟨o, es, ep, ho, hd, r⟩, _⟩ := I.loc
    by_cases l : X.env.locals < n
    · exact u.un.free _ o (old _ o l ho) I.free (by simp)
    · exact (u.yg _ o (Nat.le_of_not_lt l) (fun z => (hf _ z).2.1 rfl) ho I.free fun v q => by rw [hd] at q; cases q).2
  · obtain ⟨v, o, ho, _⟩ := I.cell x c e
    exact u.un.free c o (old c o (hc x c e) ho) (I.freeC x c e) (by simp)
  · obtain ⟨e, z, ne, nf, d⟩ := I.pin p hp
    by_cases l : p.1 < n
    · exact ⟨u.un.keep p.1 p.2 (old _ _ l e) z (nst _ ne nf) (by simp), u.un.free p.1 p.2 (old _ _ l e) z (by simp), ne, nf, d⟩
    · obtain ⟨e1, z1⟩ := u.yg p.1 p.2 (Nat.le_of_not_lt l) (fun q => (hf _ q).2.2.2.2.2 p hp rfl) e z d
      exact ⟨e1, z1, ne, nf, d⟩
end
end Kb
end
section
/-! K32: a for, an if, within a generator's body; nothing is raised. -/
namespace Kb
open PySem PySem.Spec PyProof.Rows L2 GenW
section
variable {P : Program} {w : World} {A : Around} {R : GenEnd} {Y : Protocol} {n : Nat} {s₀ s : Shared} {c : Code} {fs : List Frame} {env : Env} {K : Flow → Sem PySem.Fin} {J : Value → Sem PySem.Fin} {gd : Bool → Bool} {lv : List Value → List Value}
/-- what never raises -/
theorem nx {α : Type} {M : Model} {A : Around} {m : Sem α} {Q : α → Shared → Prop} {E : Value → Shared → Prop} {s : Shared} (h : wpAny M A m Q (fun _ _ => False) s) : wpAny M A m Q E s := wpAny_mono h (fun _ _ x => x) fun _ _ x => x.elim
/-- where a for's own code goes back to -/
abbrev backF (env : Env) (K : Flow → Sem PySem.Fin) (J : Value → Sem PySem.Fin) (gd : Bool → Bool) (lv : List Value → List Value) : Result → Sem PySem.Fin := fun r => ((match r with | .ok f => (.pure f : Sem Flow) | .error e => .raise e).onRaise (cameBack env)).wrap K J gd lv
theorem seg_forS {tg it : Expr} {body : List Stmt} {pos : Pos} (hs : ∀ x, foldedSetIterable it env x = pure x)
    (h : wpAny (model P w) (A.over c fs) (eval it env) (fun v s1 => wpAny (model P w) (A.over c fs) (pyIter v) (fun u s2 => ∀ p, Seg (model P w) A R Y n s₀ (.forLoop tg u body [] env) ((model P w).den (.forLoop tg u body [] env)) (.ret (backF env K J gd lv) none (gd false) (lv []) c p [] :: fs) s2) (fun _ _ => False) s1) (fun _ _ => False) s) :
    Seg (model P w) A R Y n s₀ c ((exec (.For tg it body [] pos) env).wrap K J gd lv) fs s := by
  rw [exec_For]
  refine seg_bind_wrap (wpAny_standAt ?_)
  refine seg_bind_wrap (nx (wpAny_mono h (fun v s1 h1 => ?_) fun _ _ x => x))
  refine seg_bind_wrap (wpAny_of_eq (hs v) ?_)
  refine seg_bind_wrap (wpAny_standAt ?_)
  refine seg_bind_wrap (wpAny_holding (nx (wpAny_mono h1 (fun u s2 h2 => ?_) fun _ _ x => x)))
  exact seg_call h2
/-- behind the body of a turn -/
abbrev turnK (tg : Expr) (it : Value) (body : List Stmt) (env : Env) : Flow → Sem PySem.Fin := fun f => match f with
  | .next | .cont => .pure (.again (.forLoop tg it body [] env))
  | .brk => .pure (.done .next)
  | .ret v => .pure (.done (.ret v))
abbrev turnJ (env : Env) : Value → Sem PySem.Fin := fun e => (do noteFrame e env; theTreesLotGoes e : Sem Unit).wrap (fun _ => .raise e) .raise id id
theorem seg_turn {tg : Expr} {it : Value} {body : List Stmt}
    (h : wpAny (model P w) (A.over (.forLoop tg it body [] env) fs) (pyNext it) (fun r s1 => match r with
      | none => Seg (model P w) A R Y n s₀ (.block [] env) (.pure (.done .next)) fs s1
      | some v => wpAny (model P w) (A.over (.forLoop tg it body [] env) fs) (letOwnedTupleGo tg it v) (fun _ s2 => wpAny (model P w) (A.over (.forLoop tg it body [] env) fs) (assign tg env v) (fun _ s3 =>
          Seg (model P w) A R Y n s₀ (.forLoop tg it body [] env) ((execs body env).wrap (turnK tg it body env) (turnJ env) id id) fs s3) (fun _ _ => False) s2) (fun _ _ => False) s1) (fun _ _ => False) s) :
    Seg (model P w) A R Y n s₀ (.forLoop tg it body [] env) ((model P w).den (.forLoop tg it body [] env)) fs s := by
  show Seg _ A R Y n s₀ _ ((forTurn tg it body [] env).onRaise (fun x => do noteFrame x env; theTreesLotGoes x)) fs s
  unfold forTurn
  rw [Sem.onRaise_eq_wrap]
  refine seg_bind_wrap (wpAny_standAt ?_)
  refine seg_bind_wrap (wpAny_onRaise (wpAny_mono h (fun r s1 h1 => ?_) fun _ _ x => x.elim))
  cases r with
  | none =>
    refine seg_again rfl ?_
    exact h1
  | some v =>
    refine seg_bind_wrap (nx (wpAny_mono h1 (fun _ s2 h2 => ?_) fun _ _ x => x))
    refine seg_bind_wrap (nx (wpAny_mono h2 (fun _ s3 h3 => ?_) fun _ _ x => x))
    rw [Sem.bind_eq_wrap', Sem.wrap_wrap]
    rw [Sem.wrap_congr (execs body env) _ _ (K' := turnK tg it body env) (H' := turnJ env) (fun f => by cases f <;> rfl) (fun e => by first | exact Sem.bind_eq_wrap _ _ | (show (do noteFrame e env; theTreesLotGoes e : Sem Unit).bind (fun _ => .raise e) = _; rw [Sem.bind_eq_wrap]))]
    exact h3
theorem seg_if1 {t : Expr} {body orelse rest : List Stmt} {pos : Pos}
    (h : wpAny (model P w) (A.over c fs) (isTrue t env (eval t env)) (fun b s1 => Seg (model P w) A R Y n s₀ c ((if b = true then execs body env else execs orelse env).wrap (fun f => match f with | .next => (execs rest env).wrap K J gd lv | f => K f) J gd lv) fs s1) (fun _ _ => False) s) :
    Seg (model P w) A R Y n s₀ c ((execs (.If t body orelse pos :: rest) env).wrap K J gd lv) fs s := by
  refine seg_execs_cons ?_
  rw [PySem.exec_If]
  refine seg_bind_wrap (wpAny_standAt ?_)
  exact seg_bind_wrap (nx (wpAny_mono h (fun b s1 h1 => h1) fun _ _ x => x))
end
end Kb
end
section
/-! Kd21: the text of Family.every, read. -/
namespace Kb
open PySem PySem.Spec PyProof.Rows L2 M
abbrev stE : Stmt := cdef 25 12
def forP : List Stmt → Expr × Expr × List Stmt × Pos
  | [.For tg it b _ p] => (tg, it, b, p)
  | _ => (.Name "" ⟨0, 0, 0, 0⟩, .Name "" ⟨0, 0, 0, 0⟩, [], ⟨0, 0, 0, 0⟩)
def ifP : List Stmt → Expr × List Stmt × Pos
  | [.If t b _ p] => (t, b, p)
  | _ => (.Name "" ⟨0, 0, 0, 0⟩, [], ⟨0, 0, 0, 0⟩)
def yldP : List Stmt → Expr × Pos × Pos
  | [.Expr (.Yield (some e) yp) p] => (e, yp, p)
  | _ => (.Name "" ⟨0, 0, 0, 0⟩, ⟨0, 0, 0, 0⟩, ⟨0, 0, 0, 0⟩)
def evTg : Expr := (forP (defBody stE)).1
def evIt : Expr := (forP (defBody stE)).2.1
def evB : List Stmt := (forP (defBody stE)).2.2.1
def evP : Pos := (forP (defBody stE)).2.2.2
def evT : Expr := (ifP evB).1
def evIB : List Stmt := (ifP evB).2.1
def evIP : Pos := (ifP evB).2.2
def evY : Expr := (yldP evIB).1
def evYp : Pos := (yldP evIB).2.1
def evYe : Pos := (yldP evIB).2.2
theorem ev_body : defBody stE = [.For evTg evIt evB [] evP] := by kernel_rfl
theorem ev_b : evB = [.If evT evIB [] evIP] := by kernel_rfl
theorem ev_ib : evIB = [.Expr (.Yield (some evY) evYp) evYe] := by kernel_rfl
abbrev N_ev : List Str := ["self", "lot"]
theorem ev_sc : GSc N_ev (defScope stE) := ⟨rfl, by decide +kernel⟩
theorem ev_gen : (defScope stE).isGenerator = true ∧ (defScope stE).isCoroutine = false := ⟨rfl, rfl⟩
abbrev evX (P : Program) (w : World) (K : PySem.W.Frag) (mg : Str → Option Value) (base : Heap) (f : Addr) (cd : Value) (A : Around) (outer : List Env) (s : Shared) (H : Hp) (E : XK) (n : Nat) : Cx := gX P w K mg base N_ev "Family.every" (defScope stE) f cd A outer s H E n
section
variable {P : Program} {w : World} {K : PySem.W.Frag} {mg : Str → Option Value} {base : Heap} {aF : Addr} {s1 s2 : Sp} {f : Addr} {cd : Value} {A : Around} {outer : List Env} {s : Shared} {H : Hp} {E : XK} {n : Nat}
abbrev teIt (K : PySem.W.Frag) (sp : Sp) : TE := tCl sp (tCons (tFld K (tVar 0) "copies") tNil)
theorem pe_evIt (g : GF P w K mg base 3 "all_lots" s1) (hr : Room 3 (evX P w K mg base f cd A outer s H E n).A) : PE (evX P w K mg base f cd A outer s H E n) evIt (teIt K s1) := by
  exact pe_g g hr (by decide) (by rfl) (pa_cons (pe_fld (pv 0) rfl) pa_nil)
abbrev teT (aF : Addr) (sp : Sp) : TT := tB (tMt aF "contains" sp (tVar 0) (tCons (tVar 1) tNil))
theorem pt_evT (t : TF P w K mg base 2 aF "contains" s2) (hr : Room 3 (evX P w K mg base f cd A outer s H E n).A) : L2.PT (evX P w K mg base f cd A outer s H E n) evT (teT aF s2) := by
  exact pt_val (pe_t (pv 0) t hr (by decide) (pa_cons (pv 1) pa_nil))
theorem pe_evY : PE (evX P w K mg base f cd A outer s H E n) evY (tVar 1) := by
  exact pv 1
theorem pg_evTg : PG (evX P w K mg base f cd A outer s H E n) evTg (gName 1) := by
  exact pg_name (i := 1) (x := "lot") (by show (N_ev).Nodup; decide +kernel) rfl (by first | exact Or.inl rfl | exact Or.inr rfl)
end
end Kb
end
section
/-! Kd22: Family.every runs. -/
namespace M
def cnt (m : Nat) (ls : List (List Int)) (p : Nat) : Nat := (((allLots m).take p).filter (contains ls)).length
theorem cnt_step {m : Nat} {ls : List (List Int)} {p : Nat} {l : List Int} (h : (allLots m)[p]? = some l) : cnt m ls (p + 1) = cnt m ls p + if contains ls l = true then 1 else 0 := by
  unfold cnt
  rw [List.take_add_one, h, List.filter_append, List.length_append]
  congr 1
  show (List.filter (contains ls) [l]).length = _
  rw [List.filter_cons]
  split <;> rfl
theorem every_split {m : Nat} {ls : List (List Int)} {p : Nat} {l : List Int} (h : (allLots m)[p]? = some l) (hc : contains ls l = true) : (every m ls)[cnt m ls p]? = some l := by
  unfold every cnt
  obtain ⟨hp, e⟩ := List.getElem?_eq_some_iff.mp h
  have : allLots m = (allLots m).take p ++ l :: (allLots m).drop (p + 1) := by
    have q := (List.take_append_drop p (allLots m)).symm
    rw [List.drop_eq_getElem_cons hp, e] at q
    exact q
  have e2 : (allLots m).filter (contains ls) = ((allLots m).take p).filter (contains ls) ++ l :: ((allLots m).drop (p + 1)).filter (contains ls) := by
    conv => lhs; rw [this]
    rw [List.filter_append, List.filter_cons, if_pos hc]
  rw [e2, List.getElem?_append_right (Nat.le_refl _), Nat.sub_self]
  rfl
theorem cnt_all {m : Nat} {ls : List (List Int)} : cnt m ls (allLots m).length = (every m ls).length := by
  unfold cnt every
  rw [List.take_length]
end M
namespace Kb
open PySem PySem.Spec PyProof.Rows L2 M GenW
/-- what stands younger than the frame and is not the iterator, untracked -/
def isCell (o : Obj) : Bool := match o.data with
  | .cell _ => true
  | _ => false
theorem not_cell {o : Obj} : isCell o = false ↔ ∀ v, o.data ≠ .cell v := by
  unfold isCell
  constructor
  · intro h v z
    rw [z] at h
    cases h
  · intro h
    split
    · rename_i v z
      exact absurd z (h v)
    · rfl
def yPin (n it : Addr) (h : Heap) (H : Hp) (b : Nat) : Option (Addr × Obj) := match h.get? b with
  | some o => if (decide (n < b) && !decide (b = it) && (H b).isNone && !isCell o) = true then some (b, o) else none
  | none => none
def yPins (n it : Addr) (h : Heap) (H : Hp) : List (Addr × Obj) := (List.range h.objs.size).filterMap (yPin n it h H)
theorem mem_yPins {n it b : Addr} {h : Heap} {H : Hp} {o : Obj} (h1 : n < b) (h2 : b ≠ it) (h3 : H b = none) (e : h.get? b = some o) (c : ∀ v, o.data ≠ .cell v) : (b, o) ∈ yPins n it h H := by
  refine List.mem_filterMap.mpr ⟨b, List.mem_range.mpr (Heap.lt_size e), ?_⟩
  unfold yPin
  rw [e]
  show (if _ then _ else _) = _
  rw [if_pos]
  simp [h1, h2, h3, not_cell.mpr c]
theorem of_yPins {n it : Addr} {h : Heap} {H : Hp} {p : Addr × Obj} (hp : p ∈ yPins n it h H) : n < p.1 ∧ p.1 ≠ it ∧ H p.1 = none ∧ h.get? p.1 = some p.2 ∧ ∀ v, p.2.data ≠ .cell v := by
  obtain ⟨b, _, e⟩ := List.mem_filterMap.mp hp
  unfold yPin at e
  cases q : h.get? b with
  | none => rw [q] at e; cases e
  | some o =>
    rw [q] at e
    have e : (if (decide (n < b) && !decide (b = it) && (H b).isNone && !isCell o) = true then some (b, o) else none) = some p := e
    split at e
    · rename_i c
      have e := Option.some.inj e
      subst e
      simp only [Bool.and_eq_true, decide_eq_true_eq, Bool.not_eq_true', decide_eq_false_iff_not, Option.isNone_iff_eq_none] at c
      exact ⟨c.1.1.1, c.1.1.2, c.1.2, q, not_cell.mp c.2⟩
    · cases e
abbrev Lks := Nat → Addr → Shared → Hp → Hp → Prop
/-- what the run of every leans on -/
structure EvC (P : Program) (w : World) (K : PySem.W.Frag) (mg : Str → Option Value) (base : Heap) (aF : Addr) (A : Around) (outer : List Env) (n : Addr) (m : Nat) (ls : List (List Int)) (Lk : Lks) : Prop where
  hr : Room 4 A
  fr : A.frames = some outer
  fn : ∀ b ∈ frs outer, b < n
  bn : base.objs.size ≤ n
  ga : GF P w K mg base 3 "all_lots" (Pr (Rall_lots K))
  gc : TF P w K mg base 2 aF "contains" (Pr (Rcontains K aF))
  kf : KFam K mg aF
  m1 : 1 ≤ m
  m8 : m ≤ 8
  l1 : ∀ x ∈ ls, x.length < 1000
  l2 : ls.length < 1000
  lk : ∀ i a s Hb H, Lk i a s Hb H → Env0 P w K mg base A outer s H ∧ Ex Hb H ∧ n < s.heap.objs.size ∧ H n = none
/-- an item is handed out -/
def evY' (P : Program) (w : World) (K : PySem.W.Frag) (outer : List Env) (n : Addr) (m : Nat) (ls : List (List Int)) (Lk : Lks) : Protocol := fun k s₀ v s1 kap =>
  ∃ (i : Nat) (a0 it : Addr) (Hb0 H0 Hb1 H1 : Hp) (x : V) (l : List Int), k + i = (every m ls).length ∧ Lk i a0 s₀ Hb0 H0 ∧ (it = a0 ∨ s₀.heap.objs.size ≤ it) ∧ n < it ∧ Fr Hb0 H0 Hb1 H1 ∧ RelV x v ∧ (every m ls)[i]? = some l ∧ (lotD K l).p x Hb1 ∧
    (∃ o, s1.heap.get? n = some o ∧ H1 n = none ∧ ∀ v, o.data ≠ .cell v) ∧ (∃ o, s1.heap.get? it = some o ∧ H1 it = none ∧ ∀ v, o.data ≠ .cell v) ∧ Out P w outer n [n, it] H0 H1 s₀ s1 ∧
    ∀ s2 Hb2 H2, Lk (i + 1) it s2 Hb2 H2 → Ex Hb1 Hb2 → (∀ b, b = n ∨ b = it → s2.heap.get? b = s1.heap.get? b ∧ H2 b = none) → kap (.send .none) s2
def evF (P : Program) (w : World) (outer : List Env) (n : Addr) (m : Nat) (ls : List (List Int)) (Lk : Lks) : Nat → Shared → Shared → Prop := fun k s₀ s1 =>
  k = 1 ∧ ∃ (a0 it : Addr) (Hb0 H0 Hb1 H1 : Hp), Lk (every m ls).length a0 s₀ Hb0 H0 ∧ (it = a0 ∨ s₀.heap.objs.size ≤ it) ∧ n < it ∧ Fr Hb0 H0 Hb1 H1 ∧ Out P w outer n [n, it] H0 H1 s₀ s1
/-- the end of the run -/
abbrev evR (P : Program) (w : World) (outer : List Env) (n : Addr) (m : Nat) (ls : List (List Int)) (Lk : Lks) : GenEnd := fun k s₀ r s1 =>
  ((r = .ok (.ret .none) ∨ r = .ok .next) ∧ evF P w outer n m ls Lk k s₀ s1) ∨ ∃ e, r = .error e ∧ (fun (_ : Value) (_ : Shared) => False) e s1
abbrev evEnv (f : Addr) (cd : Value) (n : Addr) : Env := envOfC "Family.every" (defScope stE) n f cd
section
variable {P : Program} {w : World} {K : PySem.W.Frag} {mg : Str → Option Value} {base : Heap} {aF : Addr} {A : Around} {outer : List Env} {n : Addr} {m : Nat} {ls : List (List Int)} {Lk : Lks} {f : Addr} {cd : Value} {E : XK}
theorem ev_out {s₀ s : Shared} {H0 H : Hp} {it : Addr} {pins : List (Addr × Obj)} {σ : L2.St} (hp : ∀ p ∈ yPins n it s₀.heap H0, p ∈ pins) (I : Inv (evX P w K mg base f cd A outer s₀ H0 E n) pins σ H s) : Out P w outer n [n, it] H0 H s₀ s := by
  refine ⟨I.os, I.bare, I.hok, I.base, fun b o h1 h2 e z c => ?_⟩
  have h3 : b ≠ n := fun z => h2 (by rw [z]; simp)
  have h4 : b ≠ it := fun z => h2 (by rw [z]; simp)
  have q := I.pin (b, o) (List.mem_append_right _ (hp _ (mem_yPins (Nat.lt_of_le_of_ne h1 (Ne.symm h3)) h4 z e c)))
  exact ⟨q.1, q.2.1⟩
/-- the state at a wake -/
theorem ev_inv {s : Shared} {Hb H : Hp} {i : Nat} {a0 it : Addr} {σ : L2.St} (C : EvC P w K mg base aF A outer n m ls Lk) (h : Lk i a0 s Hb H) (fo : FrOk N_ev (defScope stE) σ s.heap n) : Inv (evX P w K mg base f cd A outer s H E n) (yPins n it s.heap H) σ H s := by
  obtain ⟨e0, _, l, hn⟩ := C.lk _ _ _ _ _ h
  refine inv_gen ev_sc C.hr.hd e0 (Nat.le_of_lt l) C.bn C.fn fo hn fun p hp => ?_
  obtain ⟨h1, h2, h3, h4, h5⟩ := of_yPins hp
  exact ⟨h4, h3, Nat.ne_of_gt h1, fun z => absurd (C.fn _ z) (Nat.not_lt_of_lt h1), h5⟩
theorem ev_loop (C : EvC P w K mg base aF A outer n m ls Lk) (Kf : Flow → Sem PySem.Fin) (J : Value → Sem PySem.Fin) (pp : Pos)
    (hK : ∀ k s₀ s, evF P w outer n m ls Lk k s₀ s → Seg (model P w) A (evR P w outer n m ls Lk) (evY' P w K outer n m ls Lk) k s₀ (.func (defBody stE) (evEnv f cd n)) (Kf .next) [] s) :
    ∀ (r p : Nat), p + r = (allLots m).length → ∀ (a0 it L : Addr) (s₀ s : Shared) (Hb0 H0 Hb H : Hp) (vs : List V) (σ : L2.St) (sl : Sl), Lk (cnt m ls p) a0 s₀ Hb0 H0 → (it = a0 ∨ s₀.heap.objs.size ≤ it) → n < it →
      Inv (evX P w K mg base f cd A outer s₀ H0 E n) (yPins n it s₀.heap H0) σ H s → Fr Hb0 H0 Hb H → EnvOk [.d (famD K aF m ls), sl] σ Hb H → Hb L = some (.lst vs) → Dn ((allLots m).map fun l => lotD K l) vs Hb → s.heap.IsListIter it L p → H it = none →
      Seg (model P w) A (evR P w outer n m ls Lk) (evY' P w K outer n m ls Lk) ((every m ls).length - cnt m ls p + 1) s₀ (.forLoop evTg (.ref it) evB [] (evEnv f cd n)) ((model P w).den (.forLoop evTg (.ref it) evB [] (evEnv f cd n))) (.ret (backF (evEnv f cd n) Kf J id id) none (id false) (id []) (.func (defBody stE) (evEnv f cd n)) pp [] :: []) s := by
  intro r
  induction r with
  | zero =>
    intro p hp a0 it L s₀ s Hb0 H0 Hb H vs σ sl hk hit hni I fr o hL dn st hin
    have hpl : p = (allLots m).length := by omega
    obtain ⟨_, _, l0, _⟩ := C.lk _ _ _ _ _ hk
    have xe : (evX P w K mg base f cd A outer s₀ H0 E n).env = evEnv f cd n := gX_env (Nat.le_of_lt l0)
    have xA : (evX P w K mg base f cd A outer s₀ H0 E n).A = A.deeper (evEnv f cd n) := by rw [← xe]; rfl
    refine seg_turn ?_
    rw [over_loop rfl rfl, over_func, ← xA]
    have fo : ∀ b ∈ [it], FpOk (evX P w K mg base f cd A outer s₀ H0 E n) (yPins n it s₀.heap H0) H b := fun b hb => by
      rw [List.mem_singleton] at hb
      subst hb
      refine ⟨hin, by rw [xe]; exact Nat.ne_of_gt hni, fun z => absurd (C.fn _ z) (Nat.not_lt_of_lt hni), .inr (by rw [show (evX P w K mg base f cd A outer s₀ H0 E n).s_0.heap.objs.size = n from cut_size (Nat.le_of_lt l0)]; exact Nat.le_of_lt hni), fun x c e => ?_, fun p hp => ?_⟩
      · rw [xe, show (evEnv f cd n).cells.lookup x = none from ev_sc.cells (n + 1) x] at e
        cases e
      · exact (of_yPins (show p ∈ yPins n b s₀.heap H0 from hp)).2.1
    refine wpAny_mono ((turn_list (tg := evTg) L it).done (evX P w K mg base f cd A outer s₀ H0 E n) rfl rfl rfl rfl p _ s σ H (fun _ _ => False) I fo st ⟨vs, Evl.sq_of (fr.s L _ hL), by rw [← dn.len, List.length_map]; omega⟩) (fun rr s1 h1 => ?_) fun _ _ x => x
    obtain ⟨e, I1⟩ := h1
    subst e
    have hc : cnt m ls p = (every m ls).length := by rw [hpl]; exact cnt_all
    rw [hc] at hk
    exact seg_leaf (.ok .next) (hK _ _ _ ⟨by omega, a0, it, Hb0, H0, Hb, H, hk, hit, hni, fr, ev_out (fun _ z => z) I1⟩)
  | succ r ih =>
    intro p hp a0 it L s₀ s Hb0 H0 Hb H vs σ sl hk hit hni I fr o hL dn st hin
    obtain ⟨_, _, l0, _⟩ := C.lk _ _ _ _ _ hk
    have xe : (evX P w K mg base f cd A outer s₀ H0 E n).env = evEnv f cd n := gX_env (Nat.le_of_lt l0)
    have xA : (evX P w K mg base f cd A outer s₀ H0 E n).A = A.deeper (evEnv f cd n) := by rw [← xe]; rfl
    have hr3 : Room 3 (evX P w K mg base f cd A outer s₀ H0 E n).A := by rw [xA]; exact C.hr.deeper _
    have ov : ∀ (fs : List Frame) (k : Result → Sem PySem.Fin) (g : Bool) (lv kp : List Value) (q : Pos), A.over (.forLoop evTg (.ref it) evB [] (evEnv f cd n)) (.ret k none g lv (.func (defBody stE) (evEnv f cd n)) q kp :: []) = (evX P w K mg base f cd A outer s₀ H0 E n).A := fun fs k g lv kp q => by
      rw [over_loop rfl rfl, over_func, ← xA]
    obtain ⟨lt, hlt⟩ : ∃ lt, (allLots m)[p]? = some lt := ⟨_, List.getElem?_eq_getElem (by omega)⟩
    have hstep := cnt_step (ls := ls) hlt
    have fo : ∀ b ∈ [it], FpOk (evX P w K mg base f cd A outer s₀ H0 E n) (yPins n it s₀.heap H0) H b := fun b hb => by
      rw [List.mem_singleton] at hb
      subst hb
      refine ⟨hin, by rw [xe]; exact Nat.ne_of_gt hni, fun z => absurd (C.fn _ z) (Nat.not_lt_of_lt hni), .inr (by rw [show (evX P w K mg base f cd A outer s₀ H0 E n).s_0.heap.objs.size = n from cut_size (Nat.le_of_lt l0)]; exact Nat.le_of_lt hni), fun x c e => ?_, fun p hp => ?_⟩
      · rw [xe, show (evEnv f cd n).cells.lookup x = none from ev_sc.cells (n + 1) x] at e
        cases e
      · exact (of_yPins (show p ∈ yPins n b s₀.heap H0 from hp)).2.1
    obtain ⟨x0, hx0, dx0⟩ := Dn.get (i := p) (d := lotD K lt) dn (by rw [List.getElem?_map, hlt]; rfl)
    have sq : SqL K H L vs := Evl.sq_of (fr.s L _ hL)
    refine seg_turn ?_
    rw [ov []]
    refine wpAny_mono ((turn_list (tg := evTg) L it).item (evX P w K mg base f cd A outer s₀ H0 E n) rfl rfl rfl rfl p _ s σ H (fun _ _ => False) I fo st ⟨vs, x0, sq, hx0⟩) (fun rr s1 h1 => ?_) fun _ _ x => x
    obtain ⟨u, e, h1⟩ := h1
    subst e
    refine wpAny_mono h1 (fun _ s2 h2 => ?_) fun _ _ x => x
    obtain ⟨x, H', I2, rx, ⟨eH, hx⟩, st2, hin2⟩ := h2
    subst eH
    have ex : x = x0 := by
      have := hx vs sq
      rw [hx0] at this
      exact (Option.some.inj this).symm
    subst ex
    have I2' := I2.pinned fo fun b hb => by
      rw [List.mem_singleton] at hb
      subst hb
      obtain ⟨ob, e, c, d⟩ := st2
      exact ⟨ob, e, fun v z => by rw [d] at z; cases z⟩
    have kit : ∀ {s' : Shared} {σ' : L2.St} {H2 : Hp}, Inv (evX P w K mg base f cd A outer s₀ H0 E n) (yPins n it s₀.heap H0 ++ pinsAt [it] s2.heap) σ' H2 s' → s'.heap.IsListIter it L (p + 1) ∧ H2 it = none ∧ ∃ ob, s'.heap.get? it = some ob ∧ ∀ v, ob.data ≠ .cell v := fun {s' σ' H2} J => by
      obtain ⟨ob, e, c, d⟩ := id st2
      have q := J.pin (it, ob) (List.mem_append_right _ (List.mem_append_right _ (mem_pinsAt (List.mem_singleton.mpr rfl) e)))
      exact ⟨⟨ob, q.1, c, d⟩, q.2.1, ob, q.1, q.2.2.2.2⟩
    have tgr := (pg_evTg (P := P) (w := w) (K := K) (mg := mg) (base := base) (f := f) (cd := cd) (A := A) (outer := outer) (s := s₀) (H := H0) (E := E) (n := n)).run _ s2 σ H' x u (fun σ' H2 => σ' = σ.set 1 (some x) ∧ H2 = H') I2' rx ⟨rfl, rfl⟩
    rw [xe] at tgr
    refine wpAny_mono tgr (fun _ s3 h3 => ?_) fun _ _ x => x
    obtain ⟨σ3, H3, I3, e3, e3'⟩ := h3
    subst e3 e3'
    have o3 : EnvOk [.d (famD K aF m ls), .d (lotD K lt)] (σ.set 1 (some x)) Hb H3 := by
      refine ⟨by rw [List.length_set]; exact o.len, fun i y hi => ?_⟩
      match i, hi with
      | 0, hi =>
        cases hi
        rw [List.getElem?_set_ne (by decide)]
        exact o.at_ 0 _ rfl
      | 1, hi =>
        cases hi
        have : 1 < σ.length := by rw [o.len]; show 1 < 2; decide
        rw [List.getElem?_set_self this]
        exact ⟨x, rfl, dx0⟩
      | i + 2, hi => simp at hi
    rw [show ((execs evB (evEnv f cd n)).wrap (turnK evTg (.ref it) evB (evEnv f cd n)) (turnJ (evEnv f cd n)) id id) = ((execs [.If evT evIB [] evIP] (evEnv f cd n)).wrap (turnK evTg (.ref it) evB (evEnv f cd n)) (turnJ (evEnv f cd n)) id id) from by rw [← ev_b]]
    refine seg_if1 ?_
    rw [ov []]
    have tt := (pt_evT (P := P) (w := w) (K := K) (mg := mg) (base := base) (f := f) (cd := cd) (A := A) (outer := outer) (s := s₀) (H := H0) (E := E) (n := n) C.gc hr3).run _ s3 _ H3 (fun b H2 => b = contains ls lt ∧ ∃ Hb2, Fr Hb H3 Hb2 H2) I3
      ((et_B (ed_meth (ed_var rfl) rfl (ea_cons (ed_var rfl) ea_nil) (Rcontains.mk C.l1 C.l2))) _ Hb H3 _ fr.s o3 fun Hb2 H2 f2 => ⟨rfl, Hb2, f2⟩)
    rw [xe] at tt
    refine wpAny_mono tt (fun b s4 h4 => ?_) fun _ _ x => x
    obtain ⟨H4, I4, eb, Hb4, f4⟩ := h4
    subst eb
    have fr4 := fr.trans f4
    have o4 := o3.fr f4
    obtain ⟨st4, hin4, ob4, eb4, cb4⟩ := kit I4
    cases hb : contains ls lt with
    | false =>
      rw [hb, if_neg (by decide)] at hstep
      refine seg_again rfl ?_
      have hc : cnt m ls (p + 1) = cnt m ls p := by omega
      rw [← hc] at hk ⊢
      exact ih (p + 1) (by omega) a0 it L s₀ s4 Hb0 H0 Hb4 H4 vs _ _ hk hit hni I4.unpinned fr4 o4 (f4.b L _ hL) (dn.mono f4.b) st4 hin4
    | true =>
      rw [hb, if_pos rfl] at hstep
      have hev := every_split hlt hb
      have hlen := (List.getElem?_eq_some_iff.mp hev).1
      show Seg _ _ _ _ _ _ _ ((execs evIB (evEnv f cd n)).wrap _ _ _ _) _ _
      rw [ev_ib]
      refine seg_execs_cons ?_
      refine seg_Expr_Yield rfl rfl rfl ?_
      rw [ov []]
      have yy := (pe_evY (P := P) (w := w) (K := K) (mg := mg) (base := base) (f := f) (cd := cd) (A := A) (outer := outer) (s := s₀) (H := H0) (E := E) (n := n)).run _ s4 _ H4 (fun y H2 => H2 = H4 ∧ y = x) I4 ⟨x, by
        have : 1 < σ.length := by rw [o.len]; show 1 < 2; decide
        rw [List.getElem?_set_self this], rfl, rfl⟩
      rw [xe] at yy
      refine wpAny_mono yy (fun v s5 h5 => ?_) fun _ _ x => x.elim
      obtain ⟨y, H5, I5, ry, e5, ey⟩ := h5
      subst e5 ey
      intro kap hkap
      obtain ⟨st5, hin5, ob5, eb5, cb5⟩ := kit I5
      have fo5 := inv_fr ev_sc (Nat.le_of_lt l0) I5
      have nn : ∃ o, s5.heap.get? n = some o ∧ H5 n = none ∧ ∀ v, o.data ≠ .cell v := by
        obtain ⟨_, mm, ⟨ob, es, ep, ho, hd, _⟩, _⟩ := fo5
        have := I5.free
        rw [xe] at this
        exact ⟨ob, ho, this, fun v z => by rw [hd] at z; cases z⟩
      refine ⟨cnt m ls p, a0, it, Hb0, H0, Hb4, H5, y, lt, by omega, hk, hit, hni, fr4, ry, hev, (lotD K lt).mono f4.b dx0, nn, ⟨ob5, eb5, hin5, cb5⟩, ev_out (fun q z => List.mem_append_left _ z) I5, fun s6 Hb6 H6 hk6 ex6 same => hkap .none s6 ?_⟩
      show Seg _ _ _ _ _ _ _ _ _ _
      have sn := same n (.inl rfl)
      have si := same it (.inr rfl)
      have fo6 : FrOk N_ev (defScope stE) (σ.set 1 (some y)) s6.heap n := by
        obtain ⟨z1, mm, ⟨ob, es, ep, ho, hd, z2⟩, z3⟩ := fo5
        exact ⟨z1, mm, ⟨ob, es, ep, sn.1.trans ho, hd, z2⟩, z3⟩
      have I6 := ev_inv (f := f) (cd := cd) (E := E) (it := it) C hk6 fo6
      obtain ⟨_, ex6', l6, _⟩ := C.lk _ _ _ _ _ hk6
      refine seg_again rfl ?_
      have hc : cnt m ls (p + 1) = cnt m ls p + 1 := by omega
      have hk2 : (every m ls).length - cnt m ls p = (every m ls).length - cnt m ls (p + 1) + 1 := by omega
      rw [hk2]
      rw [← hc] at hk6
      refine ih (p + 1) (by omega) it it L s6 s6 Hb6 H6 Hb6 H6 vs _ (.d (lotD K lt)) hk6 (.inl rfl) hni I6 (Fr.refl ex6') ?_ (ex6 L _ (f4.b L _ hL)) ((dn.mono f4.b).mono ex6) ?_ si.2
      · refine ⟨o3.len, fun i z hi => ?_⟩
        match i, hi with
        | 0, hi =>
          cases hi
          obtain ⟨u0, e0, d0⟩ := o4.at_ 0 _ rfl
          exact ⟨u0, e0, D.mono _ ex6 d0⟩
        | 1, hi =>
          cases hi
          obtain ⟨u0, e0, d0⟩ := o4.at_ 1 _ rfl
          exact ⟨u0, e0, D.mono _ ex6 d0⟩
        | i + 2, hi => simp at hi
      · obtain ⟨ob, e, c, d⟩ := st5
        exact ⟨ob, si.1.trans e, c, d⟩
end
end Kb
end
section
/-! K33: the heap never grows smaller. -/
namespace Kb
open PySem
open Sem (wp)
abbrev hz (s : Shared) : Nat := s.heap.objs.size
theorem hz_gen (s : Shared) (g : Nat) (x : GenState) : hz (s.setGen g x) = hz s := rfl
theorem hz_upd (h : Heap) (a : Addr) (g : Obj → Obj) : (h.update a g).objs.size = h.objs.size := by
  first
    | exact Heap.size_update ..
    | simp [Heap.update]
theorem runs_hz {M : Model} {Γ : Ctx} {p : Pos} {t : Sem PySem.Fin} {fs : List Frame} {s s' : Shared} {e : End} (h : Runs M Γ p t fs s e s') : hz s ≤ hz s' := by
  induction h <;> (try simp only [hz, Shared.setGen, Heap.size_push, hz_upd] at *) <;> omega
theorem wakes_hz {M : Model} {Γ : Ctx} {p : Pos} {g : Nat} {r : Resume} {s s' : Shared} {res : GenResult} (h : Wakes M Γ p g r s res s') : hz s ≤ hz s' := by
  unfold Wakes at h
  split at h
  · exact h.elim
  · split at h
    · obtain ⟨_, s1, hr, _, _, rfl⟩ := h
      have := runs_hz hr
      exact this
    · rw [h.2]; exact Nat.le_refl _
    · rw [h.2]; exact Nat.le_refl _
  · obtain ⟨_, s1, hr, _, _, rfl⟩ := h
    have := runs_hz hr
    exact this
  · rw [h.2]; exact Nat.le_refl _
  · rw [h.2]; exact Nat.le_refl _
theorem wp_hz {α : Type} (M : Model) (Γ : Ctx) (n : Nat) (t : Sem α) : ∀ (Q : α → Pos → Shared → Prop) (E : Value → Pos → Shared → Prop) (p : Pos) (s : Shared), n ≤ hz s → wp M Γ t Q E p s →
    wp M Γ t (fun a p' s' => n ≤ hz s' ∧ Q a p' s') (fun e p' s' => n ≤ hz s' ∧ E e p' s') p s := by
  induction t with
  | pure a => intro Q E p s l h; exact ⟨l, h⟩
  | raise e => intro Q E p s l h; exact ⟨l, h⟩
  | unsupported _ => intro Q E p s _ h; exact h
  | finish _ => intro Q E p s _ h; exact h
  | rule _ k ih => intro Q E p s l h; exact ih () Q E p s l h
  | «at» p' k ih => intro Q E p s l h; exact ih () Q E p' s l h
  | load a _ k ih => intro Q E p s l h; obtain ⟨o, ho, h⟩ := h; exact ⟨o, ho, ih o Q E p s l h⟩
  | update a _ f k ih =>
    intro Q E p s l h
    refine ⟨h.1, ih () Q E p _ ?_ h.2⟩
    show n ≤ (s.heap.update a f).objs.size
    rw [hz_upd]
    exact l
  | loadIfAlive a k ih => intro Q E p s l h; exact ih _ Q E p s l h
  | point _ k ih => intro Q E p s l h; exact ih () Q E p s l h
  | register _ _ => intro Q E p s _ h; exact h
  | alloc o k ih =>
    intro Q E p s l h
    refine ih _ Q E p _ ?_ h
    show n ≤ (s.heap.push o).objs.size
    rw [Heap.size_push]
    exact Nat.le_succ_of_le l
  | fresh k ih => intro Q E p s l h; exact ih _ Q E p _ l h
  | ask k ih => intro Q E p s l h; exact ih _ Q E p s l h
  | choose src m k ih => intro Q E p s l h; exact ⟨h.1, ih _ Q E p _ l h.2⟩
  | os q _ k ih => intro Q E p s l h; exact ih _ Q E p _ l h
  | call c hd _ _ k ih => intro Q E p s l h; obtain ⟨r, s', hr, h⟩ := h; exact ⟨r, s', hr, ih r Q E p s' (Nat.le_trans l (runs_hz hr)) h⟩
  | handled own k ih => intro Q E p s l h; exact ih _ Q E p s l h
  | newGen c k ih => intro Q E p s l h; exact ih _ Q E p _ l h
  | genState g k ih => intro Q E p s l h; obtain ⟨st, hs, h⟩ := h; exact ⟨st, hs, ih _ Q E p s l h⟩
  | resume g r _ k ih => intro Q E p s l h; obtain ⟨res, s', hw, h⟩ := h; exact ⟨res, s', hw, ih res Q E p s' (Nat.le_trans l (wakes_hz hw)) h⟩
  | yield _ _ _ _ => intro Q E p s _ h; exact h
  | stack k ih => intro Q E p s l h; exact ih _ Q E p s l h
  | fork _ _ => intro Q E p s _ h; exact h
  | thread k ih => intro Q E p s l h; exact ih _ Q E p s l h
  | await _ _ _ _ _ => intro Q E p s _ h; exact h
theorem any_hz {α : Type} {M : Model} {A : Around} {s : Shared} {t : Sem α} {Q : α → Shared → Prop} {E : Value → Shared → Prop} (h : wpAny M A t (fun a s' => hz s ≤ hz s' → Q a s') E s) : wpAny M A t Q E s :=
  wpAny_mono (fun Γ p hΓ => wp_hz M Γ (hz s) t _ _ p s (Nat.le_refl _) (h Γ p hΓ) : wpAny M A t (fun a s' => hz s ≤ hz s' ∧ (hz s ≤ hz s' → Q a s')) (fun e s' => hz s ≤ hz s' ∧ E e s') s) (fun _ _ x => x.2 x.1) fun _ _ x => x.2
theorem any_gz {α : Type} {M : Model} {A : Around} {s : Shared} {t : Sem α} {Q : α → Shared → Prop} {E : Value → Shared → Prop} (h : wpAny M A t (fun a s' => s.gens.size ≤ s'.gens.size → Q a s') E s) : wpAny M A t Q E s :=
  GenW.wpAny_gsz (Nat.le_refl _) (wpAny_mono h (fun _ _ x => x) fun _ _ x _ => x)
end Kb
end
section
/-! Kd23: the first wake of every; the call that makes it. -/
namespace Kb
open PySem PySem.Spec PyProof.Rows L2 M GenW
section
variable {P : Program} {w : World} {K : PySem.W.Frag} {mg : Str → Option Value} {base : Heap} {aF : Addr} {A : Around} {outer : List Env} {n : Addr} {m : Nat} {ls : List (List Int)} {Lk : Lks} {f : Addr} {cd : Value} {E : XK}
theorem ev_fold (env : Env) : ∀ x, foldedSetIterable evIt env x = pure x := by intro x; rfl
theorem ev_fresh (C : EvC P w K mg base aF A outer n m ls Lk) {a0 : Addr} {s : Shared} {Hb H : Hp} {v : V} (hk : Lk 0 a0 s Hb H) (fo : FrOk N_ev (defScope stE) [some v, none] s.heap n) (dv : (famD K aF m ls).p v Hb) :
    Seg (model P w) A (evR P w outer n m ls Lk) (evY' P w K outer n m ls Lk) ((every m ls).length + 1) s (.func (defBody stE) (evEnv f cd n)) ((model P w).den (.func (defBody stE) (evEnv f cd n))) [] s := by
  have I := ev_inv (f := f) (cd := cd) (E := fun _ _ _ => False) (it := n) C hk fo
  obtain ⟨_, ex, l0, hn⟩ := C.lk _ _ _ _ _ hk
  have xe : (evX P w K mg base f cd A outer s H (fun _ _ _ => False) n).env = evEnv f cd n := gX_env (Nat.le_of_lt l0)
  have xA : (evX P w K mg base f cd A outer s H (fun _ _ _ => False) n).A = A.deeper (evEnv f cd n) := by rw [← xe]; rfl
  have hr3 : Room 3 (evX P w K mg base f cd A outer s H (fun _ _ _ => False) n).A := by rw [xA]; exact C.hr.deeper _
  refine seg_func ?_
  rw [show execs (defBody stE) (evEnv f cd n) = execs [.For evTg evIt evB [] evP] (evEnv f cd n) from by rw [ev_body]]
  refine seg_execs_cons ?_
  refine seg_forS (ev_fold _) ?_
  rw [over_func, ← xA]
  have o : EnvOk [.d (famD K aF m ls), .no] [some v, none] Hb H := by
    refine ⟨rfl, fun i y hi => ?_⟩
    match i, hi with
    | 0, hi => cases hi; exact ⟨v, rfl, dv⟩
    | 1, hi => cases hi; trivial
    | i + 2, hi => simp at hi
  have pp := (pe_evIt (P := P) (w := w) (K := K) (mg := mg) (base := base) (f := f) (cd := cd) (A := A) (outer := outer) (s := s) (H := H) (E := fun _ _ _ => False) (n := n) C.ga hr3).run _ s _ H (fun u H2 => ∃ Hb2, Fr Hb H Hb2 H2 ∧ (lotsL K (allLots m)).p u Hb2) I
    ((ed_call (ea_cons (ed_fld (ed_var rfl) C.kf.cl C.kf.copies rfl) ea_nil) (Rall_lots.mk C.m1 C.m8)) _ Hb H _ ex o fun u Hb2 H2 f2 p2 => ⟨Hb2, f2, p2⟩)
  rw [xe] at pp
  refine any_hz (wpAny_mono pp (fun vv s1 h1 hsz => ?_) fun _ _ x => x)
  obtain ⟨u, H1, I1, ru, Hb1, f1, L, vs, eu, hL, dn⟩ := h1
  subst eu
  obtain rfl : vv = Value.ref L := ru
  have sq : SqL K H1 L vs := Evl.sq_of (f1.s L _ hL)
  obtain ⟨its, rv, pl, _⟩ := I1.list sq
  refine wpAny_pyIter_list pl.isList fun q => ?_
  have I2 := I1.kept (t' := s1.toks) (h' := s1.heap.push { cls := .type "list_iterator", data := .fields #[.ref L, .int 0 0] }) fun b o e => Heap.get?_push_of_some _ e
  have ni : n < s1.heap.objs.size := Nat.lt_of_lt_of_le l0 hsz
  have kp : ∀ p ∈ yPins n s1.heap.objs.size s.heap H, p ∈ yPins n n s.heap H := fun p hp => by
    obtain ⟨h1, h2, h3, h4, h5⟩ := of_yPins hp
    exact mem_yPins h1 (Nat.ne_of_gt h1) h3 h4 h5
  have I3 := I2.pins_of (pins' := yPins n s1.heap.objs.size s.heap H) fun p hp => I2.pin p (List.mem_append_right _ (kp p hp))
  refine ev_loop C _ _ _ (fun k s₀ s' hF => ?_) (allLots m).length 0 (by omega) a0 s1.heap.objs.size L s _ Hb H Hb1 H1 vs _ .no hk (.inr hsz) ni I3 f1 (o.fr f1) hL dn ⟨_, Heap.get?_push_size _ rfl, rfl, rfl⟩ (I1.hok.fresh (Nat.le_refl _))
  exact seg_end (.ok (.ret .none)) (.inl ⟨.inl rfl, hF⟩)
theorem ev_gsc : GScope N_ev ["self"] (defScope stE) := ⟨rfl, rfl, rfl, by decide +kernel, rfl, by decide +kernel, by decide +kernel⟩
/-- the generator, made -/
structure EvM (f : Addr) (cd : Value) (a : Addr) (g : Nat) (s s' : Shared) : Prop where
  lt1 : s.heap.objs.size < a
  lt2 : a < s'.heap.objs.size
  gen : s'.heap.IsGen a g
  st : s'.gens[g]? = some (.fresh (.func (defBody stE) (evEnv f cd s.heap.objs.size)))
end
section
variable {X : Cx} {pins : List (Addr × Obj)} {σ : L2.St} {H : Hp} {s : Shared} {f : Addr} {fd : FuncData}
theorem ev_made {E : Value → Shared → Prop} {v : V} {u : Value} (I : Inv X pins σ H s) (hr : Room 1 X.A) (F : FunD X.K "every" "Family.every" (defArgs stE) (defBody stE) (defScope stE) [] [] f fd) (rv : RelV v u) :
    wpAny (model X.prog X.w) X.A (call (.ref f) [u]) (fun r s' => ∃ a g cd, r = .ref a ∧ EvM f cd a g s s' ∧ Inv X pins σ H s' ∧ FrOk N_ev (defScope stE) [some v, none] s'.heap s.heap.objs.size) E s := by
  have bd : Binds X.K fd ["self"] [] := F.bindsN fun kV doc pm an cdv ct us hus => match us, hus with | [_], _ => rfl
  have hb := bd s [u] I.kIn rfl
  obtain ⟨oc, od, dV, kV, doc, pm, an, cdv, ct, osl, rfl, lk, hcd, _, _⟩ := F.ex
  have e0 := I.env0
  have r : Vals [v] [u] := .cons rv .nil
  have hkind : ∀ y ∈ (["self"] : List Str).zip [u], (defScope stE).names.lookup y.1 = some .local ∨ ((defScope stE).names.lookup y.1 = some .cell ∧ ((cellsFrom (s.heap.objs.size + 1) (defScope stE).names []).lookup y.1).isSome = true) := fun ⟨nm, y⟩ hy => by
    rcases ev_gsc.par nm (List.of_mem_zip hy).1 with q | q
    · exact .inl q
    · exact absurd q ev_sc.look.1
  refine wpAny_call (codeAny_call_generator hr.depth (I.kIn _ _ lk) rfl rfl rfl rfl (PySem.W.codeRec_of I.kIn hcd) (hb _ _ _ _ ?_))
  refine wpAny_newFunctionEnv_cells ev_gsc.kind hkind fun env he s1 x => ?_
  subst he
  have lim1 : s1.heap.NoLimit := I.nolimit.keeps x.toInCall.keep
  have Jg := inv_startG (E := fun _ _ _ => False) ev_gsc hr.hd e0 rfl r x
  have lt1 : s.heap.objs.size < s1.heap.objs.size := x.toInCall.ns.lt
  have fo1 : FrOk N_ev (defScope stE) [some v, none] s1.heap s.heap.objs.size := by
    refine ⟨rfl, ?_⟩
    obtain ⟨mm, hm, hl⟩ := Jg.loc
    refine ⟨mm, hm, fun i y t h1 h2 h3 => ?_⟩
    obtain ⟨z, rz, q⟩ := hl i y t h1 h2 h3
    rcases q with ⟨k, e⟩ | ⟨k, c, e, _⟩
    · exact ⟨z, rz, k, e⟩
    · rcases k with k | k
      · exact absurd k ev_sc.look.1
      · exact absurd k ev_sc.look.2
  refine ⟨lim1, ?_⟩
  have kp1 := x.toInCall.keep
  obtain ⟨h1, tk, es1, hk1⟩ := x.done
  have hgen : ∀ (nm qn : Value) (h : Heap), (h.push { cls := .type "generator", data := .fields #[.int s1.gens.size 0, nm, qn] }).IsGen h.objs.size s1.gens.size := fun nm qn h => ⟨_, nm, qn, Heap.get?_push_size _ rfl, rfl, rfl, rfl⟩
  refine ⟨s1.heap.objs.size, s1.gens.size, cdv, rfl, ⟨lt1, ?_, hgen _ _ _, Array.getElem?_push_size ..⟩, ?_, ?_⟩
  · show _ < (s1.heap.push _).objs.size
    rw [Heap.size_push]
    exact Nat.lt_succ_self _
  · have kp2 : ∀ (o : Obj) b ob, s.heap.get? b = some ob → (s1.heap.push o).get? b = some ob := fun o b ob e => Heap.get?_push_of_some _ (kp1 b ob e)
    have os1 : s1.os = s.os := by rw [es1]
    refine I.call' (ch := []) ?_ (Un.kept (kp2 _)) (I.hok.kept (kp2 _)) ?_ fun b z => nomatch z
    · exact os1
    · refine AllBare.push ?_ rfl
      rw [es1]
      exact I.bare
  · obtain ⟨z1, mm, ⟨ob, es, ep, ho, hd, z2⟩, z3⟩ := fo1
    exact ⟨z1, mm, ⟨ob, es, ep, Heap.get?_push_of_some _ ho, hd, z2⟩, z3⟩
end
end Kb
end
section
/-! K34: next of a generator that raises nothing; behind a yield it sleeps. -/
namespace Kb
open PySem PySem.Spec PyProof.Rows L2 GenW
open Sem (wp)
/-- asleep, with nothing to clean up -/
def Asl (G : Array GenState) (g : Nat) (k : Resume → Sem PySem.Fin) (c : Code) (fs : List Frame) : Prop := ∃ l p, G[g]? = some (.suspended k l c p fs false)
section
variable {M : Model} {A : Around} {R : GenEnd} {Y : Protocol}
/-- what is owed by one that sleeps -/
def owed (M : Model) (A : Around) (R : GenEnd) (Y : Protocol) (n : Nat) (k : Resume → Sem PySem.Fin) (c : Code) (fs : List Frame) : Resume → Shared → Prop := fun r s => match n with
  | 0 => False
  | j + 1 => Seg M A R Y j s c (k r) fs s
theorem resumeS {α : Type} {n g : Nat} {s : Shared} {x : GenState} {r : Resume} {lv : List Value} {kk : GenResult → Sem α} {Q : α → Shared → Prop} {E : Value → Shared → Prop} (h0 : s.gens[g]? = some x) (go : x.Goes M A R Y n r (s.setGen g .running))
    (onR : ∀ res t, R n (s.setGen g .running) res t → wpAny M A (kk (End.ret res).result) Q E (t.setGen g .finished))
    (onY : ∀ v t k l c p fs, Y (n - 1) (s.setGen g .running) v t (owed M A R Y n k c fs) → wpAny M A (kk (.yielded v)) Q E (t.setGen g (.suspended k l c p fs false))) :
    wpAny M A (.resume g r lv kk) Q E s := by
  intro Γ p hΓ
  rw [Sem.wp_resume]
  have fin : ∀ e t, SegEnd R Y n (Seg.next M A R Y n) (s.setGen g .running) e t → e.quiet = true ∧ wp M Γ (kk e.result) (fun a _ s' => Q a s') (fun z _ s' => E z s') p (t.setGen g e.genState) := by
    intro e t he
    cases e with
    | ret res => exact ⟨rfl, onR res t he Γ p hΓ⟩
    | susp v b l k c q fs =>
      obtain ⟨hq, hy⟩ := he
      have hb : (b || fs.any Frame.guarded) = false := by
        have hq : (!(b || fs.any Frame.guarded)) = true := hq
        simpa using hq
      refine ⟨hq, ?_⟩
      show wp M Γ (kk (.yielded v)) _ _ p (t.setGen g (.suspended k l c q fs (b || fs.any Frame.guarded)))
      rw [hb]
      refine onY v t k l c q fs ?_ Γ p hΓ
      cases n with
      | zero => exact hy
      | succ j => exact hy
  cases x with
  | running => exact go.elim
  | finished => exact go.elim
  | fresh c =>
    obtain ⟨er, hs⟩ := go
    subst er
    obtain ⟨e, t, hr, he⟩ := seg_iff.mp hs (Γ.wake c p) p rfl (hΓ.wake c p)
    obtain ⟨f1, f2⟩ := fin e t he
    exact ⟨_, _, (by unfold Wakes; rw [h0]; exact ⟨e, t, hr, f1, rfl, rfl⟩), f2⟩
  | suspended k l c q fs cl =>
    obtain ⟨e, t, hr, he⟩ := seg_iff.mp go (Γ.wake c p) q rfl (hΓ.wake c p)
    obtain ⟨f1, f2⟩ := fin e t he
    exact ⟨_, _, (by unfold Wakes; rw [h0]; exact ⟨e, t, hr, f1, rfl, rfl⟩), f2⟩
end
section
variable {P : Program} {w : World} {A : Around} {Y : Protocol} {F : Nat → Shared → Shared → Prop}
abbrev okR (F : Nat → Shared → Shared → Prop) : GenEnd := fun n t res t' => ((res = .ok (.ret .none) ∨ res = .ok .next) ∧ F n t t') ∨ ∃ e, res = .error e ∧ (fun (_ : Value) (_ : Shared) => False) e t'
theorem nextS {a : Addr} {g n : Nat} {x : GenState} {s : Shared} {Q : Option Value → Shared → Prop} {E : Value → Shared → Prop} (ho : A.handled = none) (nl : s.heap.NoLimit) (dp : A.depth < recursionLimit) (ig : s.heap.IsGen a g) (h0 : s.gens[g]? = some x)
    (go : x.Goes (model P w) A.in1 (okR F) Y n (.send .none) (s.setGen g .running))
    (onY : ∀ v t k l c p fs, Y (n - 1) (s.setGen g .running) v t (owed (model P w) A.in1 (okR F) Y n k c fs) → Q (some v) (t.setGen g (.suspended k l c p fs false)))
    (onR : ∀ t, F n (s.setGen g .running) t → ∀ h', (∀ b o, t.heap.get? b = some o → h'.get? b = some o) → Q none { t.setGen g .finished with heap := h' }) :
    wpAny (model P w) A (pyNext (.ref a)) Q E s := by
  unfold pyNext
  refine wpAny_bind (wpAny_attempt (wpAny_callSpecial?_slot (name := Str.ofString "__next__") ig.typeIs slot_gen_next (wpAny_call_entry slot_gen_next ig.typeIs entry_gen_next ?_ (args_gen_next _))))
  show wpAny _ A.in1 (Builtin.Generator.genWake (Value.ref a) (Resume.send Value.none)) _ _ s
  unfold Builtin.Generator.genWake
  refine wpAny_bind (wpAny_holding (wpAny_genNumber ig (wpAny_bind (wpAny_genState h0 ?_))))
  cases x with
  | running => exact go.elim
  | finished => exact go.elim
  | _ =>
    refine wpAny_bind (wpAny_roomToWake nl dp ?_)
    show wpAny _ A.in1 (Sem.resume g (Resume.send Value.none) [] _) _ _ s
    refine resumeS h0 go (fun res t hx => ?_) (fun v t k l c p fs hv => wpAny_pure ⟨v, rfl, wpAny_pure (onY v t k l c p fs hv)⟩)
    rcases hx with ⟨hr, hp⟩ | ⟨_, _, hf⟩
    · have hres : End.result (.ret res) = .returned .none := by
        rcases hr with hr | hr <;> rw [hr] <;> rfl
      first | rw [hres] | simp only [hres]
      show wpAny _ A.in1 (newExc (Value.type "StopIteration") [] >>= _) _ _ _
      refine wpAny_bind ?_
      simp only [newExc, newTuple]
      refine wpAny_bind (wpAny_newObj_type ?_ (by size_fits))
      refine wpAny_bind (m := firstArgMember _ _) (wpAny_of_eq (a := Value.none) (by first | exact rfl | (simp only [firstArgMember]; exact rfl)) ?_)
      refine wpAny_newObj_type ?_ (by size_fits)
      simp only [raiseNew]
      refine wpAny_bind (wpAny_bind (wpAny_handled ?_))
      first | rw [show A.in1.handled = none from ho] | rw [ho]
      refine wpAny_throw ?_
      refine wpAny_bind (wpAny_isInstance (b := true) (T := "StopIteration") ⟨_, Heap.get?_push_size _ rfl, rfl⟩ isSubtype_stop ?_)
      exact wpAny_pure (onR t hp _ fun b o e => Heap.get?_push_of_some _ (Heap.get?_push_of_some _ e))
    · exact hf.elim
end
end Kb
end
section
/-! Kd24: one turn of a loop over every, seen by the one who loops. -/
namespace Kb
open PySem PySem.Spec PyProof.Rows L2 M GenW
abbrev Wcs := Nat → L2.St → Hp → Hp → Prop
/-- where the one who loops stands -/
def CLk (X : Cx) (pins : List (Addr × Obj)) (n a : Addr) (g : Nat) (Wc : Wcs) : Lks := fun i it s Hb H =>
  ∃ σ, Inv X pins σ H s ∧ Ex Hb H ∧ n < s.heap.objs.size ∧ FpOk X pins H n ∧ FpOk X pins H a ∧ FpOk X pins H it ∧ a ≠ it ∧ n ≤ it ∧ s.heap.IsGen a g ∧ Wc i σ Hb H
structure GenC (X : Cx) (aF : Addr) (n a : Addr) (m : Nat) (ls : List (List Int)) (Wc : Wcs) : Prop where
  hr : Room 5 X.A
  fn : ∀ b ∈ frs X.stack, b < n
  bn : X.base.objs.size ≤ n
  ga : GF X.prog X.w X.K X.mg X.base 3 "all_lots" (Pr (Rall_lots X.K))
  gc : TF X.prog X.w X.K X.mg X.base 2 aF "contains" (Pr (Rcontains X.K aF))
  kf : KFam X.K X.mg aF
  m1 : 1 ≤ m
  m8 : m ≤ 8
  l1 : ∀ x ∈ ls, x.length < 1000
  l2 : ls.length < 1000
  na : n < a
  h0 : ∀ b o, n ≤ b → X.s_0.heap.get? b = some o → X.H_0 b = none → b ∈ X.ex
  hD : ∀ i σ Hb H b o, Wc i σ Hb H → n ≤ b → X.s_0.heap.get? b = some o → X.H_0 b ≠ none → H b ≠ none
  hc : ∀ x c, X.env.cells.lookup x = some c → c < n
section
variable {X : Cx} {pins : List (Addr × Obj)} {aF n a : Addr} {g m : Nat} {ls : List (List Int)} {Wc : Wcs}
theorem GenC.evc (G : GenC X aF n a m ls Wc) {s : Shared} {σ : L2.St} {H : Hp} (I : Inv X pins σ H s) : EvC X.prog X.w X.K X.mg X.base aF X.A.in1 X.stack n m ls (CLk X pins n a g Wc) := by
  refine ⟨G.hr.in1, I.ok.frames, G.fn, G.bn, G.ga, G.gc, G.kf, G.m1, G.m8, G.l1, G.l2, fun i it s Hb H h => ?_⟩
  obtain ⟨σ, J, ex, lt, fn, _⟩ := h
  have e := J.env0
  exact ⟨⟨e.frames, e.mod, e.bs, e.bsz, e.funs, e.frf, e.hok, e.bare⟩, ex, lt, fn.1⟩
/-- the generator at rest, i lots handed out -/
def EvAt (X : Cx) (pins : List (Addr × Obj)) (n a : Addr) (g : Nat) (m : Nat) (ls : List (List Int)) (Wc : Wcs) (i : Nat) (it : Addr) (Hb : Hp) (s : Shared) : Prop :=
  ∃ x, s.gens[g]? = some x ∧ ∀ (s2 : Shared) (Hb2 H2 : Hp), CLk X pins n a g Wc i it (s2.setGen g .running) Hb2 H2 → Ex Hb Hb2 → (∀ b, b = n ∨ b = it → s2.heap.get? b = s.heap.get? b ∧ H2 b = none) →
    x.Goes (model X.prog X.w) X.A.in1 (okR (evF X.prog X.w X.stack n m ls (CLk X pins n a g Wc))) (evY' X.prog X.w X.K X.stack n m ls (CLk X pins n a g Wc)) ((every m ls).length - i + 1) (.send .none) (s2.setGen g .running)
/-- behind a turn -/
structure EvS (X : Cx) (pins : List (Addr × Obj)) (n a : Addr) (g : Nat) (m : Nat) (ls : List (List Int)) (Wc : Wcs) (i : Nat) (it : Addr) (Hb H : Hp) (s : Shared) : Prop where
  fn : FpOk X pins H n
  fa : FpOk X pins H a
  fi : FpOk X pins H it
  ne : a ≠ it
  ni : n ≤ it
  lt : n < s.heap.objs.size
  on : ∃ o, s.heap.get? n = some o ∧ ∀ v, o.data ≠ .cell v
  oi : ∃ o, s.heap.get? it = some o ∧ ∀ v, o.data ≠ .cell v
  ig : s.heap.IsGen a g
  at_ : EvAt X pins n a g m ls Wc i it Hb s
theorem gen_obj {h : Heap} {a : Addr} {g : Nat} (x : h.IsGen a g) : ∃ o, h.get? a = some o ∧ (∀ v, o.data ≠ .cell v) ∧ ∀ h2 : Heap, h2.get? a = some o → h2.IsGen a g := by
  obtain ⟨o, nm, qn, ho, c, d, sl⟩ := x
  exact ⟨o, ho, (fun v z => by rw [d] at z; cases z), fun h2 e => ⟨o, nm, qn, e, c, d, sl⟩⟩
/-- what the state behind a turn is, for the one who loops -/
theorem ev_back (G : GenC X aF n a m ls Wc) {i : Nat} {s t : Shared} {a0 it : Addr} {Hb0 H0 Hb1 H1 : Hp} (h : CLk X pins n a g Wc i a0 s Hb0 H0) (hit : it = a0 ∨ s.heap.objs.size ≤ it) (ni : n < it) (fr : Fr Hb0 H0 Hb1 H1) (u : Out X.prog X.w X.stack n [n, it] H0 H1 s t) :
    ∃ σ, Inv X pins σ H1 t ∧ Wc i σ Hb0 H0 ∧ FpOk X pins H1 a ∧ a ≠ it ∧ t.heap.IsGen a g ∧ (H1 n = none → FpOk X pins H1 n) ∧ (H1 it = none → FpOk X pins H1 it) := by
  obtain ⟨σ, J, ex, lt, fn, fa, fi, ne, _, ig, wc⟩ := h
  have fit : FpOk X pins H0 it ∧ a ≠ it := by
    rcases hit with e | l
    · rw [e]
      exact ⟨fi, ne⟩
    · obtain ⟨o, ho, _⟩ := gen_obj ig
      exact ⟨J.fpOk l (J.hok.fresh l), Nat.ne_of_lt (Nat.lt_of_lt_of_le (Heap.lt_size ho) l)⟩
  have J1 : Inv X pins σ H1 t := Kb.Inv.woke J u (fun b hb => by
    rcases List.mem_cons.mp hb with e | hb
    · rw [e]; exact fn
    · rw [List.mem_singleton.mp hb]; exact fit.1) G.h0 (fun b o l e z q => G.hD i σ Hb0 H0 b o wc l e z (fr.h.no q)) G.hc
  obtain ⟨o, ho, oc, mk⟩ := gen_obj ig
  have ua := u.yg a o (Nat.le_of_lt G.na) (fun z => by
    rcases List.mem_cons.mp z with e | z
    · exact absurd e (Nat.ne_of_gt G.na)
    · exact fit.2 (List.mem_singleton.mp z)) ho fa.1 oc
  exact ⟨σ, J1, wc, ⟨ua.2, fa.2⟩, fit.2, mk _ ua.1, fun z => ⟨z, fn.2⟩, fun z => ⟨z, fit.1.2⟩⟩
theorem setGen_inv {s : Shared} {σ : L2.St} {H : Hp} {x : GenState} (J : Inv X pins σ H s) (hx : x.bare = true) : Inv X pins σ H (s.setGen g x) :=
  J.call' (ch := []) rfl Un.refl J.hok (allBare_setGen J.bare hx) fun b z => nomatch z
theorem ev_turn {E : Value → Shared → Prop} (G : GenC X aF n a m ls Wc) {i : Nat} {it : Addr} {s : Shared} {Hb H : Hp} {σ : L2.St} (hi : i < (every m ls).length) (I : Inv X pins σ H s) (ex : Ex Hb H) (S : EvS X pins n a g m ls Wc i it Hb H s) (wc : Wc i σ Hb H) :
    wpAny (model X.prog X.w) X.A (pyNext (.ref a)) (fun r s1 => ∃ v it2 Hb0 H0 Hb1 H1 σ x l, r = some v ∧ Inv X pins σ H1 s1 ∧ RelV x v ∧ (every m ls)[i]? = some l ∧ (lotD X.K l).p x Hb1 ∧ Wc i σ Hb0 H0 ∧ Fr Hb0 H0 Hb1 H1 ∧ EvS X pins n a g m ls Wc (i + 1) it2 Hb1 H1 s1 ∧ ∃ k c fs, Asl s1.gens g k c fs) E s := by
  obtain ⟨x, hx, pr⟩ := S.at_
  have lk : CLk X pins n a g Wc i it (s.setGen g .running) Hb H := ⟨σ, setGen_inv I rfl, ex, S.lt, S.fn, S.fa, S.fi, S.ne, S.ni, S.ig, wc⟩
  have go := pr s Hb H lk (Evl.Ex.refl _) fun b hb => ⟨rfl, by
    rcases hb with e | e
    · rw [e]; exact S.fn.1
    · rw [e]; exact S.fi.1⟩
  have gl : g < s.gens.size := (Array.getElem?_eq_some_iff.mp hx).1
  refine any_gz (nextS G.hr.hd I.nolimit G.hr.depth S.ig hx go (fun v t k l c p fs hy hg => ?_) fun t hF => ?_)
  · obtain ⟨i2, a0, it2, Hb0, H0, Hb1, H1, y, lo, hk, hl, hit, ni, fr, rv, hev, dl, ⟨o1, e1, z1, c1⟩, ⟨o2, e2, z2, c2⟩, u, kap⟩ := hy
    have : i2 = i := by omega
    subst this
    obtain ⟨σ2, J, wc2, fa2, ne2, ig2, f1, f2⟩ := ev_back G hl hit ni fr u
    have gt : g < t.gens.size := by
      have q : (t.setGen g (.suspended k l c p fs false)).gens.size = t.gens.size := GenW.setGen_size _ _ _
      rw [q] at hg
      exact Nat.lt_of_lt_of_le gl hg
    refine ⟨v, it2, Hb0, H0, Hb1, H1, σ2, y, lo, rfl, setGen_inv J rfl, rv, hev, dl, wc2, fr, ⟨f1 z1, fa2, f2 z2, ne2, Nat.le_of_lt ni, Heap.lt_size e1, ⟨o1, e1, c1⟩, ⟨o2, e2, c2⟩, ig2, .suspended k l c p fs false, setGen_at gt, fun s2 Hb2 H2 hk2 hex same => ?_⟩, k, c, fs, l, p, setGen_at gt⟩
    have q := kap (s2.setGen g .running) Hb2 H2 hk2 hex same
    obtain ⟨j, hj⟩ : ∃ j, (every m ls).length - i2 = j + 1 := ⟨(every m ls).length - i2 - 1, by omega⟩
    have hj2 : (every m ls).length - (i2 + 1) + 1 = j + 1 := by omega
    rw [hj2]
    have q : owed (model X.prog X.w) X.A.in1 (okR (evF X.prog X.w X.stack n m ls (CLk X pins n a g Wc))) (evY' X.prog X.w X.K X.stack n m ls (CLk X pins n a g Wc)) ((every m ls).length - i2 + 1) k c fs (.send .none) (s2.setGen g .running) := q
    rw [hj] at q
    exact q
  · obtain ⟨hk, _⟩ := hF
    omega
theorem ev_done {E : Value → Shared → Prop} (G : GenC X aF n a m ls Wc) {it : Addr} {s : Shared} {Hb H : Hp} {σ : L2.St} (I : Inv X pins σ H s) (ex : Ex Hb H) (S : EvS X pins n a g m ls Wc (every m ls).length it Hb H s) (wc : Wc (every m ls).length σ Hb H) :
    wpAny (model X.prog X.w) X.A (pyNext (.ref a)) (fun r s1 => ∃ Hb0 H0 Hb1 H1 σ, r = none ∧ Inv X pins σ H1 s1 ∧ Wc (every m ls).length σ Hb0 H0 ∧ Fr Hb0 H0 Hb1 H1) E s := by
  obtain ⟨x, hx, pr⟩ := S.at_
  have lk : CLk X pins n a g Wc (every m ls).length it (s.setGen g .running) Hb H := ⟨σ, setGen_inv I rfl, ex, S.lt, S.fn, S.fa, S.fi, S.ne, S.ni, S.ig, wc⟩
  have go := pr s Hb H lk (Evl.Ex.refl _) fun b hb => ⟨rfl, by
    rcases hb with e | e
    · rw [e]; exact S.fn.1
    · rw [e]; exact S.fi.1⟩
  refine nextS G.hr.hd I.nolimit G.hr.depth S.ig hx go (fun v t k l c p fs hy => ?_) fun t hF h' kp => ?_
  · obtain ⟨i2, a0, it2, Hb0, H0, Hb1, H1, y, lo, hk, hl, hit, ni, fr, rv, hev, _⟩ := hy
    have := (List.getElem?_eq_some_iff.mp hev).1
    omega
  · obtain ⟨_, a0, it2, Hb0, H0, Hb1, H1, hl, hit, ni, fr, u⟩ := hF
    obtain ⟨σ2, J, wc2, _⟩ := ev_back G hl hit ni fr u
    exact ⟨Hb0, H0, Hb1, H1, σ2, rfl, (setGen_inv (g := g) (x := .finished) J rfl).kept (t' := t.toks) kp, wc2, fr⟩
end
end Kb
end
section
/-! Kd25: a generator made by o.every(), about to be walked. -/
namespace Kb
open PySem PySem.Spec PyProof.Rows L2 M GenW
/-- made, not yet woken -/
structure EvB (X : Cx) (pins : List (Addr × Obj)) (aF n a : Addr) (g : Nat) (m : Nat) (ls : List (List Int)) (f : Addr) (cd : Value) (v : V) (Hb H : Hp) (s : Shared) : Prop where
  na : n < a
  lt : a < s.heap.objs.size
  ig : s.heap.IsGen a g
  st : s.gens[g]? = some (.fresh (.func (defBody stE) (evEnv f cd n)))
  fo : FrOk N_ev (defScope stE) [some v, none] s.heap n
  dv : (famD X.K aF m ls).p v Hb
  un : ∀ b, n ≤ b → FpOk X pins H b
  s0 : X.s_0.heap.objs.size ≤ n
  hc : ∀ x c, X.env.cells.lookup x = some c → c < n
  fs : ∀ b ∈ frs X.stack, b < n
  bn : X.base.objs.size ≤ n
theorem fun_lt {h base : Heap} : ∀ {l : List Env}, h.FunFrames base l → ∀ b ∈ frs l, b < h.objs.size
  | [], _, b, hb => by simp [frs] at hb
  | e :: r, hl, b, hb => by
    obtain ⟨_, ⟨L, o, hf, _, ho, _⟩, hr⟩ := hl
    unfold frs at hb
    rw [List.filterMap_cons, hf] at hb
    rcases List.mem_cons.mp hb with z | z
    · rw [z]
      exact Heap.lt_size ho
    · exact fun_lt hr b z
section
variable {X : Cx} {pins : List (Addr × Obj)} {σ : L2.St} {H : Hp} {s : Shared} {aF : Addr} {m : Nat} {ls : List (List Int)} {o : Expr} {te : TE} {apos pos : Pos}
theorem fam_no {K : PySem.W.Frag} {v : V} {Hb : Hp} (h : (famD K aF m ls).p v Hb) : ∃ a dx fs, v = .ref a ∧ Hb a = some (.ins aF dx fs) ∧ fs.lookup ("every" : Str) = none := by
  obtain ⟨a, dx, fs, h1, h2, h3, _⟩ := h
  refine ⟨a, dx, fs, h1, h2, ?_⟩
  have : ∀ l : List (Str × V), ("every" : Str) ∉ l.map (·.1) → l.lookup ("every" : Str) = none := by
    intro l
    induction l with
    | nil => intro _; rfl
    | cons p r ih =>
      intro hn
      obtain ⟨k, t⟩ := p
      rw [List.lookup_cons]
      have h1 : (("every" : Str) == k) = false := by
        rw [beq_eq_false_iff_ne]
        intro z
        exact hn (by rw [List.map_cons, ← z]; exact List.mem_cons_self ..)
      rw [h1]
      exact ih fun z => hn (List.mem_cons_of_mem _ z)
  refine this fs ?_
  rw [h3]
  decide
theorem ev_begin {pl : Sem Bool} {Q : Hp → Hp → Prop} (he : PE X o te) (kf : KFam X.K X.mg aF) (D : DfM X.K aF "every" "Family.every" stE) (hr : Room 1 X.A)
    (ht : eval (.Call (.Attribute o "every" apos) [] [] pos) X.env = (do
      let ov ← eval o X.env
      standAt apos.atName
      let (f, first) ← holding [ov] (getMethod ov "every" pl)
      callWith pos f first (backTo pos (starEach [] X.env)) (backToKw pos (keywordEach [] X.env))))
    (I : Inv X pins σ H s) (h : te σ H fun v H1 => ∃ Hb1, Ex Hb1 H1 ∧ (famD X.K aF m ls).p v Hb1 ∧ Q Hb1 H1) :
    wpAny (model X.prog X.w) X.A (eval (.Call (.Attribute o "every" apos) [] [] pos) X.env) (fun r s1 => wpAny (model X.prog X.w) X.A (pyIter r) (fun u s2 => ∃ a g n f cd v Hb1 H1, u = .ref a ∧ Inv X pins σ H1 s2 ∧ Ex Hb1 H1 ∧ EvB X pins aF n a g m ls f cd v Hb1 H1 s2 ∧ Q Hb1 H1) X.xe s1) X.xe s := by
  obtain ⟨f, hm, fd, F⟩ := D.ex
  refine PySem.W.methodCall_KW (pl := pl) (thn (he.run pins s σ H _ I h) fun u s1 ⟨x, H1, I1, rx, Hb1, ex, dv, q⟩ => ?_) ht
  obtain ⟨a0, dx, fs, e1, e2, e3⟩ := fam_no dv
  subst e1
  obtain rfl : u = Value.ref a0 := rx
  refine getmeth_ok I1 (ex a0 _ e2) kf.cl hm e3 ?_
  refine PySem.W.callWith_K0 (first := [.ref a0]) I1.kIn hm.kp (wpAny_mono (ev_made I1 hr F (v := .ref a0) rfl) (fun r s2 h2 => ?_) fun _ _ x => x)
  obtain ⟨a, g, cd, e, mk, I2, fo⟩ := h2
  subst e
  refine wpAny_pyIter_gen mk.gen ⟨a, g, s1.heap.objs.size, f, cd, .ref a0, Hb1, H1, rfl, I2, ex, ⟨mk.lt1, mk.lt2, mk.gen, mk.st, fo, dv, fun b hb => I1.fpOk hb (I1.hok.fresh hb), I1.sz, fun x c e => ?_, fun_lt I1.stack, Nat.le_trans I1.ok.bsz I1.sz⟩, q⟩
  obtain ⟨t, ob, ho, _⟩ := I1.cell x c e
  exact Heap.lt_size ho
theorem ev_at0 {n a : Addr} {g : Nat} {f : Addr} {cd : Value} {v : V} {Hb Hx : Hp} {Wc : Wcs} {s2 : Shared} {Y : Cx} {pins2 : List (Addr × Obj)} {H2 : Hp} {σ2 : L2.St} (G : GenC Y aF n a m ls Wc) (J : Inv Y pins2 σ2 H2 s2) (st : s2.gens[g]? = some (.fresh (.func (defBody stE) (evEnv f cd n)))) (fo : FrOk N_ev (defScope stE) [some v, none] s2.heap n) (dv : (famD Y.K aF m ls).p v Hb) :
    EvAt Y pins2 n a g m ls Wc 0 n Hb s2 := by
  refine ⟨_, st, fun s3 Hb3 H3 lk ex same => ⟨rfl, ?_⟩⟩
  have C := G.evc (g := g) J
  refine ev_fresh C lk ?_ (D.mono _ ex dv)
  obtain ⟨z1, mm, ⟨ob, es, ep, ho, hd, z2⟩, z3⟩ := fo
  exact ⟨z1, mm, ⟨ob, es, ep, (same n (.inl rfl)).1.trans ho, hd, z2⟩, z3⟩
end
end Kb
end
section
/-! Kd26: a for over a generator. -/
namespace Kb
open PySem PySem.Spec PyProof.Rows L2 M GenW
section
variable {X : Cx} {pins : List (Addr × Obj)} {σ : L2.St} {H : Hp} {s : Shared}
/-- a step beside poisoned sleepers -/
theorem inv_poi (J : Inv X pins σ H s) : Inv X pins σ H (withG s (poiA s.gens)) := J.call' (ch := []) rfl Un.refl J.hok (bare_poiA J.bare) fun b z => nomatch z
theorem inv_back {G G0 : Array GenState} {s' : Shared} (J : Inv X pins σ H (withG s' G0)) (r : Rel (asleep G) G0 s'.gens) (hb : AllBare G) : Inv X pins σ H s' := J.call' (ch := []) (s' := s') rfl Un.refl J.hok (r.bare hb J.bare) fun b z => nomatch z
theorem nxX {α : Type} {t : Sem α} {A : Around} {M : Model} {Q : α → Shared → Prop} {E : Value → Shared → Prop} (hx : ∀ e s, X.xe e s → False) (h : wpAny M A t Q X.xe s) : wpAny M A t Q E s := wpAny_mono h (fun _ _ x => x) fun e s' z => (hx e s' z).elim
theorem run_swap {α : Type} {M : Model} {A : Around} {t : Sem α} {Q : α → Shared → Prop} {E : Value → Shared → Prop} (hx : ∀ e s, X.xe e s → False) (h : wpAny M A t Q X.xe (withG s (poiA s.gens))) : wpAny M A t (fun a s' => ∃ G0, Rel (asleep s.gens) G0 s'.gens ∧ Q a (withG s' G0)) E s :=
  wpAny_mono (any_swap h) (fun _ _ x => x) fun e s' ⟨_, _, z⟩ => (hx e _ z).elim
variable {aF n a : Addr} {g m : Nat} {ls : List (List Int)} {Wc : Wcs}
/-- the generator's objects as they stand -/
abbrev evPins (n a it : Addr) (h : Heap) : List (Addr × Obj) := pinsAt [n, it, a] h
theorem EvS.pinned {i : Nat} {it : Addr} {Hb : Hp} (S : EvS X pins n a g m ls Wc i it Hb H s) (J : Inv X pins σ H s) : Inv X (pins ++ evPins n a it s.heap) σ H s := by
  refine J.pinned (fun b hb => ?_) fun b hb => ?_
  · rcases List.mem_cons.mp hb with e | hb
    · rw [e]; exact S.fn
    · rcases List.mem_cons.mp hb with e | hb
      · rw [e]; exact S.fi
      · rw [List.mem_singleton.mp hb]; exact S.fa
  · rcases List.mem_cons.mp hb with e | hb
    · rw [e]; exact S.on
    · rcases List.mem_cons.mp hb with e | hb
      · rw [e]; exact S.oi
      · rw [List.mem_singleton.mp hb]
        obtain ⟨o, ho, oc, _⟩ := gen_obj S.ig
        exact ⟨o, ho, oc⟩
/-- behind a step that kept the generator's objects and the sleepers -/
theorem EvS.kept {i : Nat} {it : Addr} {Hb Hb2 H2 : Hp} {s' : Shared} {σ2 : L2.St} {k : Resume → Sem PySem.Fin} {c : Code} {fs : List Frame} {G0 : Array GenState} (S : EvS X pins n a g m ls Wc i it Hb H s) (ex : Ex Hb Hb2) (J2 : Inv X (pins ++ evPins n a it s.heap) σ2 H2 (withG s' G0)) (r : Rel (asleep s.gens) G0 s'.gens) (as : Asl s.gens g k c fs) :
    EvS X pins n a g m ls Wc i it Hb2 H2 s' ∧ Asl s'.gens g k c fs ∧ evPins n a it s'.heap = evPins n a it s.heap := by
  obtain ⟨on, hon, con⟩ := S.on
  obtain ⟨oi, hoi, coi⟩ := S.oi
  obtain ⟨oa, hoa, _, mka⟩ := gen_obj S.ig
  have pin : ∀ b ob, b ∈ [n, it, a] → s.heap.get? b = some ob → s'.heap.get? b = some ob ∧ H2 b = none := fun b ob hb e => by
    have z := J2.pin (b, ob) (List.mem_append_right _ (List.mem_append_right _ (mem_pinsAt hb e)))
    exact ⟨z.1, z.2.1⟩
  have pn := pin n on (by simp) hon
  have pi := pin it oi (by simp) hoi
  have pa := pin a oa (by simp) hoa
  obtain ⟨l, p, hl⟩ := as
  have kp := r.kept hl
  refine ⟨⟨⟨pn.2, S.fn.2⟩, ⟨pa.2, S.fa.2⟩, ⟨pi.2, S.fi.2⟩, S.ne, S.ni, Heap.lt_size pn.1, ⟨on, pn.1, con⟩, ⟨oi, pi.1, coi⟩, mka _ pa.1, ?_⟩, ⟨l, p, kp⟩, ?_⟩
  · obtain ⟨x, hx, pr⟩ := S.at_
    rw [hl] at hx
    cases hx
    refine ⟨_, kp, fun s3 Hb3 H3 lk ex3 same => pr s3 Hb3 H3 lk (ex.trans ex3) fun b hb => ?_⟩
    have q := same b hb
    refine ⟨q.1.trans ?_, q.2⟩
    rcases hb with e | e
    · rw [e, pn.1, hon]
    · rw [e, pi.1, hoi]
  · unfold evPins pinsAt
    simp only [List.filterMap_cons, List.filterMap_nil, pn.1, pi.1, pa.1, hon, hoi, hoa]
end
/-- over all lots of a family: W by the turn, the base and the heap -/
def tForEv (K : PySem.W.Frag) (aF : Addr) (m : Nat) (ls : List (List Int)) (te : TE) (gg : TG) (tb : TS) : TS := fun D σ H => ∃ W : Wcs, (∀ i σ Hb H, W i σ Hb H → Ex Hb H) ∧
  te σ H (fun v H1 => ∃ Hb1, Ex Hb1 H1 ∧ (famD K aF m ls).p v Hb1 ∧ W 0 σ Hb1 H1) ∧
  (∀ i σ Hb H x Hb2 H2 l, W i σ Hb H → (every m ls)[i]? = some l → Fr Hb H Hb2 H2 → (lotD K l).p x Hb2 → gg x σ H2 fun σ3 H3 => tb { nx := fun σ' H' => ∃ Hb', Ex Hb2 Hb' ∧ W (i + 1) σ' Hb' H', rt := fun _ _ => False, bk := fun _ _ => False, ct := fun _ _ => False } σ3 H3) ∧
  ∀ σ Hb H Hb2 H2, W (every m ls).length σ Hb H → Fr Hb H Hb2 H2 → D.nx σ H2
section
variable {X : Cx} {aF : Addr} {m : Nat} {ls : List (List Int)} {o tg : Expr} {te : TE} {gg : TG} {tb : TS} {body : List Stmt} {apos pos pos' : Pos}
theorem ps_forEv {pl : Sem Bool} (hx : ∀ e s, X.xe e s → False) (hr : Room 5 X.A) (ga : GF X.prog X.w X.K X.mg X.base 3 "all_lots" (Pr (Rall_lots X.K))) (gc : TF X.prog X.w X.K X.mg X.base 2 aF "contains" (Pr (Rcontains X.K aF))) (kf : KFam X.K X.mg aF) (Dm : DfM X.K aF "every" "Family.every" stE)
    (m1 : 1 ≤ m) (m8 : m ≤ 8) (l1 : ∀ x ∈ ls, x.length < 1000) (l2 : ls.length < 1000) (he : PE X o te) (hg : PG X tg gg) (hb : PSs X body tb)
    (ht : eval (.Call (.Attribute o "every" apos) [] [] pos) X.env = (do
      let ov ← eval o X.env
      standAt apos.atName
      let (f, first) ← holding [ov] (getMethod ov "every" pl)
      callWith pos f first (backTo pos (starEach [] X.env)) (backToKw pos (keywordEach [] X.env))) := by rfl)
    (hs : ∀ x, foldedSetIterable (.Call (.Attribute o "every" apos) [] [] pos) X.env x = pure x := by intro _; rfl) : PS X (.For tg (.Call (.Attribute o "every" apos) [] [] pos) body [] pos') (tForEv X.K aF m ls te gg tb) := by
  refine ⟨fun pins s σ H D I h => ?_⟩
  obtain ⟨W, wx, h1, hstep, hend⟩ := h
  refine wpAny_For (thn (ev_begin he kf Dm (hr.mono (by decide)) ht I h1) fun r s1 q => thn q fun u s2 q2 => ?_) hs
  obtain ⟨a, g, n, f, cd, v, Hb1, H1, e, I2, ex, B, w0⟩ := q2
  subst e
  have G : GenC X aF n a m ls W := ⟨hr, B.fs, B.bn, ga, gc, kf, m1, m8, l1, l2, B.na, fun b o l e _ => absurd (Nat.lt_of_lt_of_le (Heap.lt_size e) (Nat.le_trans B.s0 l)) (Nat.lt_irrefl _), fun i σ Hb H b o _ l e _ => absurd (Nat.lt_of_lt_of_le (Heap.lt_size e) (Nat.le_trans B.s0 l)) (Nat.lt_irrefl _), B.hc⟩
  have on0 : ∃ o, s2.heap.get? n = some o ∧ ∀ v, o.data ≠ .cell v := by
    obtain ⟨_, mm, ⟨ob, es, ep, ho, hd, _⟩, _⟩ := B.fo
    exact ⟨ob, ho, fun v z => by rw [hd] at z; cases z⟩
  have S0 : EvS X pins n a g m ls W 0 n Hb1 H1 s2 := ⟨B.un n (Nat.le_refl _), B.un a (Nat.le_of_lt B.na), B.un n (Nat.le_refl _), Nat.ne_of_gt B.na, Nat.le_refl _, Nat.lt_trans B.na B.lt, on0, on0, B.ig, ev_at0 (Hx := H1) G I2 B.st B.fo B.dv⟩
  refine codeAny_forLoop_any (fun k s' => ∃ i it σ' Hb H', k = (every m ls).length - i ∧ i ≤ (every m ls).length ∧ Inv X pins σ' H' s' ∧ EvS X pins n a g m ls W i it Hb H' s' ∧ W i σ' Hb H') ?_ _ ⟨0, n, σ, Hb1, H1, rfl, Nat.zero_le _, I2, S0, w0⟩
  rintro k s3 ⟨i, it, σ3, Hb3, H3, rfl, hi, I3, S3, w3⟩
  by_cases hlt : i < (every m ls).length
  · refine wpAny_mono (ev_turn G hlt I3 (wx _ _ _ _ w3) S3 w3) (fun r s4 h4 => ?_) fun _ _ x => x
    obtain ⟨v4, it2, Hb4, H4, Hb5, H5, σ4, x, l, e, I4, rv, hl, dl, w4, fr, S4, k4, c4, fs4, as4⟩ := h4
    subst e
    obtain ⟨og, hog, _, _⟩ := gen_obj S4.ig
    obtain ⟨og, nm, qn, hog, hcls, hdat, _⟩ := id S4.ig
    refine go_of hog hcls hdat (by decide) ?_
    have P4 := S4.pinned I4
    have st := hstep i σ4 Hb4 H4 x Hb5 H5 l w4 hl fr dl
    refine wpAny_mono (run_swap (E := fun _ _ => False) hx (hg.run _ _ σ4 H5 x v4 _ (inv_poi P4) rv st)) (fun _ s5 h5 => ?_) fun _ _ x => x.elim
    obtain ⟨G0, r5, σ5, H6, J5, st5⟩ := h5
    obtain ⟨S5, as5, ep5⟩ := S4.kept (Evl.Ex.refl _) J5 r5 as4
    have I5 := inv_back J5 r5 I4.bare
    rw [← ep5] at I5
    refine wpAny_mono (run_swap (E := fun _ _ => False) hx (hb.run _ _ σ5 H6 _ (inv_poi I5) st5)) (fun fl s6 h6 => ?_) fun _ _ x => x.elim
    obtain ⟨G1, r6, h6⟩ := h6
    cases fl with
    | next =>
      obtain ⟨σ7, H7, J7, Hb7, ex7, w7⟩ := h6
      obtain ⟨S7, _, ep7⟩ := S5.kept ex7 J7 r6 as5
      exact ⟨(every m ls).length - (i + 1), by omega, i + 1, it2, σ7, Hb7, H7, rfl, hlt, (inv_back J7 r6 I5.bare).unpinned, S7, w7⟩
    | cont => obtain ⟨_, _, _, z⟩ := h6; exact z.elim
    | brk => obtain ⟨_, _, _, z⟩ := h6; exact z.elim
    | ret u => obtain ⟨_, _, _, _, _, z⟩ := h6; exact z.elim
  · have e : i = (every m ls).length := by omega
    subst e
    refine wpAny_mono (ev_done G I3 (wx _ _ _ _ w3) S3 w3) (fun r s4 h4 => ?_) fun _ _ x => x
    obtain ⟨Hb4, H4, Hb5, H5, σ4, e, I4, w4, fr⟩ := h4
    subst e
    exact wpAny_execs_nil ⟨σ4, H5, I4, hend σ4 Hb4 H4 Hb5 H5 w4 fr⟩
end
end Kb
end
section
/-! Kd27: a list comprehension over a generator. -/
namespace Kb
open PySem PySem.Spec PyProof.Rows L2 M GenW
/-- [e for t in o.every()]: D the new list; W by the turn, the base and the heap -/
def tLcEv (K : PySem.W.Frag) (aF : Addr) (m : Nat) (ls : List (List Int)) (t0 : TE) (gg : TG) (te : TE) (vs : List Nat) : TE := fun σ H Q => t0 σ H fun v H1 => ∃ Hb1, Ex Hb1 H1 ∧ (famD K aF m ls).p v Hb1 ∧ ∀ D, H1 D = none →
  ∃ W : Nat → Hp → Hp → Prop, (∀ i Hb H, W i Hb H → Ex Hb H ∧ H D ≠ none) ∧ W 0 Hb1 (upd H1 D (.lst [])) ∧
  (∀ i Hb H x Hb2 H2 l, W i Hb H → (every m ls)[i]? = some l → Fr Hb H Hb2 H2 → (lotD K l).p x Hb2 → gg x (L2.wipe σ vs) H2 fun σ3 H3 => L2.wipe σ3 vs = L2.wipe σ vs ∧ te σ3 H3 fun y H4 => ∃ acc, H4 D = some (.lst acc) ∧ acc.length < sizeLine ∧ ∃ Hb', Ex Hb2 Hb' ∧ W (i + 1) Hb' (upd H4 D (.lst (acc ++ [y])))) ∧
  ∀ Hb H Hb2 H2, W (every m ls).length Hb H → Fr Hb H Hb2 H2 → Q (.ref D) H2
theorem cellsFrom_no : ∀ (l : List (Str × NameKind)) (k : Nat) (acc : List (Str × Addr)), (∀ y ∈ l, y.2 ≠ .cell) → cellsFrom k l acc = acc
  | [], _, _, _ => rfl
  | (y, kd) :: r, k, acc, h => by
    have h1 := h _ (List.mem_cons_self ..)
    have ih := cellsFrom_no r k acc fun z hz => h z (List.mem_cons_of_mem _ hz)
    cases kd <;> first
      | exact absurd rfl h1
      | (unfold cellsFrom; exact ih)
theorem pushCells_no : ∀ (l : List (Str × NameKind)) (h : Heap), (∀ y ∈ l, y.2 ≠ .cell) → pushCells h l = h
  | [], _, _ => rfl
  | (y, kd) :: r, h, hn => by
    have h1 := hn _ (List.mem_cons_self ..)
    have ih := pushCells_no r h fun z hz => hn z (List.mem_cons_of_mem _ hz)
    cases kd <;> first
      | exact absurd rfl h1
      | (unfold pushCells; exact ih)
section
variable {X : Cx} {aF : Addr} {m : Nat} {ls : List (List Int)} {o tg elt : Expr} {t0 te : TE} {gg : TG} {scope : Scope} {own : List (Str × Nat)} {apos pos pos' : Pos}
abbrev evCall (o : Expr) (apos pos : Pos) : Expr := .Call (.Attribute o "every" apos) [] [] pos
theorem pe_lcEv {pl : Sem Bool} (hx : ∀ e s, X.xe e s → False) (hN : X.N.Nodup) (hr : Room 5 X.A) (ga : GF X.prog X.w X.K X.mg X.base 3 "all_lots" (Pr (Rall_lots X.K))) (gc : TF X.prog X.w X.K X.mg X.base 2 aF "contains" (Pr (Rcontains X.K aF))) (kf : KFam X.K X.mg aF) (Dm : DfM X.K aF "every" "Family.every" stE)
    (m1 : 1 ≤ m) (m8 : m ≤ 8) (l1 : ∀ x ∈ ls, x.length < 1000) (l2 : ls.length < 1000) (he : PE X o t0) (ok : BlkOk X.N X.env.scope scope own) (noc : ∀ y ∈ scope.names, y.2 ≠ .cell)
    (hg : ∀ (s : Shared) (H : Hp) (C : Addr) (cl : List (Str × Addr)) (fp : List Addr), PG (X.blk s H scope (compEnvC scope cl C X.env) fp) tg gg)
    (hel : ∀ (s : Shared) (H : Hp) (C : Addr) (cl : List (Str × Addr)) (fp : List Addr), PE (X.blk s H scope (compEnvC scope cl C X.env) fp) elt te)
    (ht : eval (evCall o apos pos) X.env = (do
      let ov ← eval o X.env
      standAt apos.atName
      let (f, first) ← holding [ov] (getMethod ov "every" pl)
      callWith pos f first (backTo pos (starEach [] X.env)) (backToKw pos (keywordEach [] X.env))) := by rfl)
    (hs : ∀ x, foldedSetIterable (evCall o apos pos) X.env x = pure x := by intro _; rfl) : PE X (.ListComp elt [⟨tg, evCall o apos pos, [], 0⟩] scope pos') (tLcEv X.K aF m ls t0 gg te (own.map (·.2))) := by
  refine ⟨fun pins s σ H Q I h => ?_⟩
  rw [eval_ListComp]
  have hfree : ∀ y ∈ scope.names, y.2 = .free → ∃ c, X.env.cells.lookup y.1 = some c := fun y hy e => by
    rcases ok.free y hy e with k | k
    · exact I.ok.has _ (.inl k)
    · exact I.ok.has _ (.inr k)
  refine wpAny_comprehension_free (use := none) rfl hs (closure_ok hfree) ok.kind (fun y hy e => by rw [ok.uniq y hy, e]) (thn (ev_begin he kf Dm (hr.mono (by decide)) ht I h) fun rv s1 q => thn q fun u s2 q2 => ?_)
  obtain ⟨a, g, n, f, cd, v, Hb1, H2, e, I2, ex, B, hd⟩ := q2
  subst e
  refine wpAny_newObj_type (newEnv_comp ?_) (by show 0 ≤ sizeLine; exact Nat.zero_le _)
  rw [pushCells_no _ _ noc]
  generalize hDe : s2.heap.objs.size = Dl
  have dn : H2 Dl = none := I2.hok.fresh (Nat.le_of_eq hDe)
  obtain ⟨W, wx, w0, hstep, hend⟩ := hd Dl dn
  generalize e3 : ({ s2 with heap := s2.heap.push { cls := .type "list", data := .seq ([] : List Value).toArray } } : Shared) = s3
  have h3 : s3.heap = s2.heap.push { cls := .type "list", data := .seq ([] : List Value).toArray } := by rw [← e3]
  have g3 : s3.gens = s2.gens := by rw [← e3]
  have z3 : s3.heap.objs.size = Dl + 1 := by rw [h3, Heap.size_push, hDe]
  have kp3 : ∀ b ob, s2.heap.get? b = some ob → s3.heap.get? b = some ob := fun b ob e => by rw [h3]; exact Heap.get?_push_of_some _ e
  have I3 : Inv X pins σ (upd H2 Dl (.lst [])) s3 := by
    rw [← e3]
    refine I2.laid (t' := s2.toks) (fun b ob e => Heap.get?_push_of_some _ e) (Nat.le_of_eq hDe) ⟨Nat.zero_le _, [], 0, .nil, ?_⟩
    rw [← hDe]
    exact Heap.get?_push_size _ rfl
  generalize eH3 : upd H2 Dl (.lst []) = H3 at I3 w0
  have n2 : n < Dl := by rw [← hDe]; exact Nat.lt_trans B.na B.lt
  have a2 : a < Dl := by rw [← hDe]; exact B.lt
  have f3 : ∀ b, n ≤ b → b ≠ Dl → FpOk X pins H3 b := fun b l ne => by
    refine ⟨?_, (B.un b l).2⟩
    rw [← eH3, upd_ne ne]
    exact (B.un b l).1
  -- what the making left: all that is younger than the frame
  generalize efp : (List.range Dl).filter (fun b => decide (n ≤ b)) = fp
  have mfp : ∀ b, b ∈ fp ↔ n ≤ b ∧ b < Dl := fun b => by
    rw [← efp, List.mem_filter, List.mem_range, decide_eq_true_eq]
    exact And.comm
  have I4 := block_start (fp := fp) I3 ok hN fun b hb => by
    obtain ⟨q1, q2⟩ := (mfp b).mp hb
    exact ⟨f3 b q1 (Nat.ne_of_lt q2), by rw [z3]; exact Nat.lt_succ_of_lt q2⟩
  have pg := hg s3 H3 s3.heap.objs.size (cellsFrom (s3.heap.objs.size + 1) scope.names (cloFrom X.env.cells scope.names [])) fp
  have pe := hel s3 H3 s3.heap.objs.size (cellsFrom (s3.heap.objs.size + 1) scope.names (cloFrom X.env.cells scope.names [])) fp
  rw [pushCells_no _ _ noc] at I4
  show codeAny _ _ (.compStart (.ListComp elt [⟨tg, evCall o apos pos, [], 0⟩] scope pos') 0 (.ref a) (.ref Dl) (compEnvC scope (cellsFrom (s3.heap.objs.size + 1) scope.names (cloFrom X.env.cells scope.names [])) s3.heap.objs.size X.env)) (compPost (model X.prog X.w) X.A X.xe none _ (.ref Dl) s3.heap.objs.size) { s3 with heap := s3.heap.push { cls := .type "dict", data := .dict #[] } }
  have cells_lt : ∀ y c, (compEnvC scope (cellsFrom (s3.heap.objs.size + 1) scope.names (cloFrom X.env.cells scope.names [])) s3.heap.objs.size X.env).cells.lookup y = some c → c < n := fun y c e => by
    have e : (cellsFrom (s3.heap.objs.size + 1) scope.names (cloFrom X.env.cells scope.names [])).lookup y = some c := e
    rw [cellsFrom_no _ _ _ noc] at e
    rcases cloFrom_mem (PySem.mem_of_lookup e) with hm | ⟨h1, e1⟩
    · cases hm
    · obtain ⟨c2, hc2⟩ := hfree _ h1 rfl
      subst e1
      rw [hc2]
      exact B.hc _ c2 hc2
  generalize ece : compEnvC scope (cellsFrom (s3.heap.objs.size + 1) scope.names (cloFrom X.env.cells scope.names [])) s3.heap.objs.size X.env = ce at I4 pg pe cells_lt ⊢
  have cL : ce.locals = s3.heap.objs.size := by rw [← ece]; rfl
  generalize e4 : ({ s3 with heap := s3.heap.push { cls := .type "dict", data := .dict #[] } } : Shared) = s4 at I4 ⊢
  have kp4 : ∀ b ob, s2.heap.get? b = some ob → s4.heap.get? b = some ob := fun b ob e => by rw [← e4]; exact Heap.get?_push_of_some _ (kp3 b ob e)
  have g4 : s4.gens = s2.gens := by rw [← e4]; exact g3
  -- the block's own view
  generalize eW : (fun (i : Nat) (σ' : L2.St) (Hb H : Hp) => σ' = L2.wipe σ (own.map (·.2)) ∧ W i Hb H : Wcs) = Wc
  have wc_of : ∀ {i : Nat} {Hb H : Hp}, W i Hb H → Wc i (L2.wipe σ (own.map (·.2))) Hb H := fun {i Hb H} w => by rw [← eW]; exact ⟨rfl, w⟩
  have of_wc : ∀ {i : Nat} {σ' : L2.St} {Hb H : Hp}, Wc i σ' Hb H → σ' = L2.wipe σ (own.map (·.2)) ∧ W i Hb H := fun {i σ' Hb H} w => by rw [← eW] at w; exact w
  have G : GenC (X.blk s3 H3 scope ce fp) aF n a m ls Wc := by
    refine ⟨hr, B.fs, B.bn, ga, gc, kf, m1, m8, l1, l2, B.na, fun b ob l e z => ?_, fun i σ' Hb H b ob w l e z => ?_, cells_lt⟩
    · have hb : b < Dl + 1 := by rw [← z3]; exact Heap.lt_size (show s3.heap.get? b = some ob from e)
      refine (mfp b).mpr ⟨l, Nat.lt_of_le_of_ne (Nat.le_of_lt_succ hb) fun q => ?_⟩
      have z : H3 b = none := z
      rw [← eH3, q, upd_same] at z
      cases z
    · have q : b = Dl := by
        by_cases q : b = Dl
        · exact q
        · exact absurd (f3 b l q).1 z
      rw [q]
      exact (wx _ _ _ (of_wc w).2).2
  have fpB : ∀ b, n ≤ b → b < Dl → FpOk (X.blk s3 H3 scope ce fp) [] H3 b := fun b l l2 =>
    ⟨(f3 b l (Nat.ne_of_lt l2)).1, (I4.ok.exf b ((mfp b).mpr ⟨l, l2⟩)).1, I4.ok.exfs b ((mfp b).mpr ⟨l, l2⟩), .inl ((mfp b).mpr ⟨l, l2⟩), fun y c e => (I4.ok.exf b ((mfp b).mpr ⟨l, l2⟩)).2 y c e, fun p hp => nomatch hp⟩
  obtain ⟨q1, mm, ⟨on, es, ep, hon, hdn, q2⟩, q3⟩ := B.fo
  have on4 : ∃ ob, s4.heap.get? n = some ob ∧ ∀ t, ob.data ≠ .cell t := ⟨on, kp4 _ _ hon, fun t z => by rw [hdn] at z; cases z⟩
  have ig4 : s4.heap.IsGen a g := B.ig.keeps kp4
  have S0 : EvS (X.blk s3 H3 scope ce fp) [] n a g m ls Wc 0 n Hb1 H3 s4 := by
    refine ⟨fpB n (Nat.le_refl _) n2, fpB a (Nat.le_of_lt B.na) a2, fpB n (Nat.le_refl _) n2, Nat.ne_of_gt B.na, Nat.le_refl _, Heap.lt_size on4.choose_spec.1, on4, on4, ig4, ?_⟩
    exact ev_at0 (Hx := H3) G I4 (by rw [g4]; exact B.st) ⟨q1, mm, ⟨on, es, ep, kp4 _ _ hon, hdn, q2⟩, q3⟩ B.dv
  have hxB : ∀ (e : Value) (t : Shared), (X.blk s3 H3 scope ce fp).xe e t → False := fun _ _ z => z
  have loop : codeAny (model X.prog X.w) X.A (.compLoop (.ListComp elt [⟨tg, evCall o apos pos, [], 0⟩] scope pos') 0 (.ref a) (.ref Dl) ce) (compPost (model X.prog X.w) X.A X.xe none (EP X pins σ Q) (.ref Dl) s3.heap.objs.size) s4 := by
    refine compLoop_any (fun k t => ∃ i it Hb H', k = (every m ls).length - i ∧ i ≤ (every m ls).length ∧ Inv (X.blk s3 H3 scope ce fp) [] (L2.wipe σ (own.map (·.2))) H' t ∧ EvS (X.blk s3 H3 scope ce fp) [] n a g m ls Wc i it Hb H' t ∧ W i Hb H') ?_ _ ⟨0, n, Hb1, H3, rfl, Nat.zero_le _, I4, S0, w0⟩
    rintro k s5 ⟨i, it, Hb5, H5, rfl, hi, I5, S5, w5⟩
    by_cases hlt : i < (every m ls).length
    · refine wpAny_mono (ev_turn G hlt I5 (wx _ _ _ w5).1 S5 (wc_of w5)) (fun r s6 h6 => ?_) fun _ _ x => x
      obtain ⟨v6, it2, Hb6, H6, Hb7, H7, σ6, x, l, e, I6, r6, hl, dl, w6, fr, S6, k6, c6, fs6, as6⟩ := h6
      subst e
      obtain ⟨eσ, ww⟩ := of_wc w6
      subst eσ
      obtain ⟨og, nm, qn, hog, hcls, hdat, _⟩ := id S6.ig
      refine go_of hog hcls hdat (by decide) ?_
      have P6 := S6.pinned I6
      have st := hstep i Hb6 H6 x Hb7 H7 l ww hl fr dl
      refine wpAny_mono (run_swap (E := fun _ _ => False) hxB (pg.run _ _ _ H7 x v6 _ (inv_poi P6) r6 st)) (fun _ s8 h8 => ?_) fun _ _ x => x.elim
      obtain ⟨G0, r8, σ8, H8, J8, hw8, st8⟩ := h8
      obtain ⟨S8, as8, ep8⟩ := S6.kept (Evl.Ex.refl _) J8 r8 as6
      have I8 := inv_back J8 r8 I6.bare
      rw [← ep8] at I8
      refine wpAny_tests_nil ?_
      rw [if_pos rfl]
      refine wpAny_mono (run_swap (E := fun _ _ => False) hxB (pe.run _ _ σ8 H8 _ (inv_poi I8) st8)) (fun y s9 h9 => ?_) fun _ _ x => x.elim
      obtain ⟨G1, r9, yv, H9, J9, ry, acc, hD9, hz9, Hb9, ex9, w9⟩ := h9
      obtain ⟨S9, as9, ep9⟩ := S8.kept (Evl.Ex.refl _) J9 r9 as8
      have I9 := inv_back J9 r9 I8.bare
      rw [← ep9] at I9
      refine wpAny_mono (run_swap (X := X.blk s3 H3 scope ce fp) (E := fun _ _ => False) hxB (app_ok (X := X.blk s3 H3 scope ce fp) (Q := fun (_ : Value) t => Inv (X.blk s3 H3 scope ce fp) ([] ++ evPins n a it2 s9.heap) σ8 (upd H9 Dl (.lst (acc ++ [yv]))) t) (inv_poi I9) hD9 hz9 ry fun t J => J)) (fun _ s10 h10 => ?_) fun _ _ x => x.elim
      obtain ⟨G2, r10, J10⟩ := h10
      obtain ⟨S10, _, _⟩ := S9.kept ex9 J10 r10 as9
      have hlw : (L2.wipe σ (own.map (·.2))).length = σ8.length := by rw [← hw8, wipe_length]
      refine ⟨(every m ls).length - (i + 1), by omega, i + 1, it2, Hb9, _, rfl, hlt, ((inv_back J10 r10 I9.bare).unpinned (pins := [])).weak hlw (fun j t e => ?_), S10, w9⟩
      rw [← hw8] at e
      exact (wipe_some e).1
    · have e : i = (every m ls).length := by omega
      subst e
      refine wpAny_mono (ev_done G I5 (wx _ _ _ w5).1 S5 (wc_of w5)) (fun r s6 h6 => ?_) fun _ _ x => x
      obtain ⟨Hb6, H6, Hb7, H7, σ6, e, I6, w6, fr⟩ := h6
      subst e
      obtain ⟨eσ, ww⟩ := of_wc w6
      subst eσ
      have I7 : Inv X pins σ H7 s6 := I3.call' (ch := fp) I6.os I6.base I6.hok I6.bare fun b hb => by
        obtain ⟨q1, q2⟩ := (mfp b).mp hb
        have ff := f3 b q1 (Nat.ne_of_lt q2)
        exact ⟨ff.2.2.2.1, ff.2.1, ff.2.2.2.2.1, ff.2.2.2.2.2⟩
      have nC : H7 s3.heap.objs.size = none := by
        have z : H7 ce.locals = none := I6.free
        rw [cL] at z
        exact z
      obtain ⟨m7, hn7, _⟩ := I6.loc
      have hn7 : s6.heap.Ns ce.locals m7 := hn7
      rw [cL] at hn7
      obtain ⟨f0, f1, f2, f3', f4, f5⟩ := I3.fpOk (Nat.le_refl _) nC
      exact ⟨m7, hn7, fun hh sb => ⟨.ref Dl, H7, I7.turned (t' := s6.toks) (fun b ob hb e => (sb.2 b hb).trans e) f0 f1 f3' f4 f5, rfl, hend Hb6 H6 Hb7 H7 ww fr⟩⟩
  exact codeAny_compStart_list loop (wpAny_pyIter_gen ig4 loop)
end
end Kb
end
section
/-! Kd28: loops over every, by data. -/
namespace Kb
open PySem PySem.Spec PyProof.Rows L2 M
section
variable {env : Env'} {t0 te : TE} {K : PySem.W.Frag} {j : Nat} {vs : List Nat} {aF : Addr} {m : Nat} {ls : List (List Int)} {g : TG} {body : TS}
theorem eo_lcEv (h : List Int → D) (h0 : ED t0 env (famD K aF m ls)) (hz : (every m ls).length < 90000) (hj : j ∈ vs) (he : ∀ l ∈ every m ls, ED te ((wipeE env vs).set j (.d (lotD K l))) (h l)) : EO (tLcEv K aF m ls t0 (gName j) te vs) env ((every m ls).map h) := fun σ Hb H Q e o q =>
  h0 σ Hb H _ e o fun v Hb1 H1 f1 pv => ⟨Hb1, f1.s, pv, fun Dl hD => by
    have hb1 : Hb1 Dl = none := no_of f1.s hD
    refine ⟨fun i Hi Hx => ∃ ws, Fr Hb1 H1 Hi Hx ∧ Hi Dl = none ∧ Hx Dl = some (.lst ws) ∧ Dn (((every m ls).take i).map h) ws Hi, fun i Hi Hx w => ?_, ?_, fun i Hi Hx x Hb2 H2 l w hl f2 px => ?_, fun Hi Hx Hb2 H2 w f2 => ?_⟩
    · obtain ⟨ws, f, _, h2, _⟩ := w
      exact ⟨f.s, fun z => by rw [h2] at z; cases z⟩
    · exact ⟨[], Fr.newO f1.s hD, hb1, upd_same, .nil⟩
    · obtain ⟨ws, f, hn, h2, dn⟩ := w
      have mu : Mu Hx Dl := ⟨_, h2, fun _ z => by cases z⟩
      refine ⟨wipe_set hj, ?_⟩
      have o2 : EnvOk ((wipeE env vs).set j (.d (lotD K l))) ((L2.wipe σ vs).set j (some x)) Hb2 H2 := ((((o.fr f1).fr f).fr f2).wipe vs).set ⟨x, rfl, px⟩
      refine he l (List.mem_of_getElem? hl) _ Hb2 H2 _ f2.s o2 fun y Hb3 H3 f3 py => ?_
      have mu2 : Mu H2 Dl := mu.mono f2.h
      have n2 : Hb2 Dl = none := f2.o Dl mu hn
      have n3 : Hb3 Dl = none := f3.o Dl mu2 n2
      have e3 : H3 Dl = some (.lst ws) := f3.h.k (f2.h.k h2)
      have lt : i < (every m ls).length := (List.getElem?_eq_some_iff.mp hl).1
      refine ⟨ws, e3, Evl.sz_lt (by rw [← dn.len, List.length_map, List.length_take]; omega), Hb3, f3.b, ws ++ [y], ?_, n3, upd_same, ?_⟩
      · have F := (f.trans f2).trans f3
        exact ⟨F.b, fun a u ha => by rw [upd_ne (fun z => by rw [z, n3] at ha; cases ha)]; exact F.s a u ha, F.h.over hD e3, F.o⟩
      · rw [List.take_add_one, hl, List.map_append]
        exact ((dn.mono f2.b).mono f3.b).app (.cons py .nil)
    · obtain ⟨ws, f, hn, h2, dn⟩ := w
      rw [List.take_length] at dn
      have mu : Mu Hx Dl := ⟨_, h2, fun _ z => by cases z⟩
      exact q Dl ws Hb2 H2 (f1.h.no hD) (f2.o Dl mu hn) ((f1.trans f).trans f2) (f2.h.k h2) (dn.mono f2.b)⟩
theorem sb_forEv {env : Env'} (Ev : Nat → Env') (h0 : ED t0 env (famD K aF m ls)) (hf : Fg env (Ev 0)) (E1 : Nat → List Int → Env') (hg : ∀ (i : Nat) (l : List Int), (every m ls)[i]? = some l → TJ g (Ev i) (lotD K l) (E1 i l))
    (hb : ∀ (i : Nat) (l : List Int), (every m ls)[i]? = some l → SB body (E1 i l) (Ev (i + 1))) : SB (tForEv K aF m ls t0 g body) env (Ev (every m ls).length) := fun Hb0 H0 σ Hb H D o k => by
  refine ⟨fun i σ' Hi Hx => StOk Hb0 H0 (Ev i) σ' Hi Hx ∧ Ex Hb Hi, fun i σ' Hi Hx w => w.1.fr.s, ?_, fun i σ' Hi Hx x Hb2 H2 l w hl f2 px => ?_, fun σ' Hi Hx Hb2 H2 w f2 => ?_⟩
  · exact h0 σ Hb H _ o.fr.s o.sl fun v Hb1 H1 f1 pv => ⟨Hb1, f1.s, pv, (o.fr2 f1).fg hf, f1.b⟩
  · exact hg i l hl Hb0 H0 σ' Hb2 H2 x _ (w.1.fr2 f2) px fun σ2 o2 => hb i l hl Hb0 H0 σ2 Hb2 H2 _ o2 fun σ3 Hb3 H3 o3 x3 => ⟨Hb3, x3, o3, (w.2.trans f2.b).trans x3⟩
  · exact k σ' Hb2 H2 (w.1.fr2 f2) (w.2.trans f2.b)
end
end Kb
end
section
set_option maxRecDepth 20000
/-! M12: codes of lots, for few copies: seen by reckoning. -/
namespace M
def sub (n c d : Nat) : Bool := (List.range n).all fun i => !has c i || has d i
def cpl (n c : Nat) : Nat := 2 ^ n - 1 - c
def mid (n c : Nat) : Bool := decide (0 < c) && decide (c < 2 ^ n - 1)
theorem f_all : ∀ n : Fin 5, allLots n.val = (List.range (2 ^ n.val)).map fun (c : Nat) => lLot n.val (c : Int) := by decide +kernel
theorem f_middle : ∀ n : Fin 5, 1 ≤ n.val → middle n.val = ((List.range (2 ^ n.val)).filter (mid n.val)).map fun (c : Nat) => lLot n.val (c : Int) := by decide +kernel
theorem f_one : ∀ n : Fin 5, ∀ c : Fin 16, c.val < 2 ^ n.val → codeOf (lLot n.val c.val) = (c.val : Int) ∧ others n.val (lLot n.val c.val) = lLot n.val (cpl n.val c.val) ∧ lotOf n.val (lLot n.val c.val) = lLot n.val c.val := by decide +kernel
theorem f_up : ∀ n : Fin 5, up n.val = lLot n.val ((2 ^ n.val - 1 : Nat) : Int) := by decide +kernel
theorem f_hold : ∀ n : Fin 5, ∀ c d : Fin 16, c.val < 2 ^ n.val → d.val < 2 ^ n.val → hold (lLot n.val d.val) (lLot n.val c.val) = sub n.val c.val d.val := by decide +kernel
theorem f_meet : ∀ n : Fin 5, ∀ c d : Fin 16, c.val < 2 ^ n.val → d.val < 2 ^ n.val → meet (lLot n.val c.val) (lLot n.val d.val) = !sub n.val c.val (cpl n.val d.val) := by decide +kernel
theorem f_step : ∀ n : Fin 5, ∀ c d : Fin 16, c.val < 2 ^ n.val → d.val < 2 ^ n.val → sub n.val c.val d.val = true → c.val ≠ d.val → ∃ i : Fin 4, i.val < n.val ∧ has c.val i.val = false ∧ c.val + 2 ^ i.val < 2 ^ n.val ∧ sub n.val (c.val + 2 ^ i.val) d.val = true := by decide +kernel
theorem f_sub : ∀ n : Fin 5, ∀ c d : Fin 16, c.val < 2 ^ n.val → d.val < 2 ^ n.val → (sub n.val c.val d.val = true → c.val ≤ d.val ∧ sub n.val (cpl n.val d.val) (cpl n.val c.val) = true) ∧ sub n.val c.val c.val = true ∧ sub n.val c.val (2 ^ n.val - 1) = true ∧ sub n.val 0 c.val = true ∧ (0 < n.val → cpl n.val c.val ≠ c.val) := by decide +kernel
theorem f_by : ∀ n : Fin 5, (bySize n.val (n.val - 1)).Perm (((List.range (2 ^ n.val)).filter (mid n.val)).map fun (c : Nat) => (c : Int)) := by decide +kernel
theorem f_order : ∀ n : Fin 5, ∀ i : Fin 14, ∀ c ∈ (bySize n.val (n.val - 1))[i.val]?, ∀ o ∈ above n.val c, o = 2 ^ n.val - 1 ∨ o ∈ (bySize n.val (n.val - 1)).take i.val := by decide +kernel
theorem f_rows : ∀ n : Fin 5, ∀ row ∈ families n.val, row = (2 ^ n.val - 1) :: (bySize n.val (n.val - 1)).filter (fun c => decide (c ∈ row)) ∧ (1 ≤ n.val → (0 : Int) ∉ row) ∧ ∀ c ∈ row, ∀ o ∈ above n.val c, o ∈ row := by decide +kernel
theorem f_nodup : ∀ n : Fin 5, (families n.val).Nodup := by decide +kernel
end M
end
section
set_option maxRecDepth 20000
/-! M13: rows and the sets that they write. -/
namespace M
/-- a set of codes that is a row's: it holds the whole, not the empty lot, and with a lot each that holds it -/
structure UpS (n : Nat) (S : Nat → Bool) : Prop where
  w : S (2 ^ n - 1) = true
  z : S 0 = false
  up : ∀ c d, c < 2 ^ n → d < 2 ^ n → sub n c d = true → S c = true → S d = true
def setOf (row : List Int) (c : Nat) : Bool := decide ((c : Int) ∈ row)
def rowOf (n : Nat) (S : Nat → Bool) : List Int := (2 ^ n - 1) :: (bySize n (n - 1)).filter fun c => S c.toNat
theorem pow_lt {n : Nat} (hn : n ≤ 4) : 2 ^ n ≤ 16 := by
  have : n = 0 ∨ n = 1 ∨ n = 2 ∨ n = 3 ∨ n = 4 := by omega
  rcases this with rfl | rfl | rfl | rfl | rfl <;> decide
theorem pow_two {n : Nat} (hn : 1 ≤ n) : 2 ≤ 2 ^ n := by
  have : 2 ^ 1 ≤ 2 ^ n := Nat.pow_le_pow_right (by decide) hn
  omega
theorem pow_cast (n : Nat) : (2 : Int) ^ n - 1 = ((2 ^ n - 1 : Nat) : Int) := by
  have := Nat.one_le_two_pow (n := n)
  rw [Int.natCast_sub this, Int.natCast_pow]
  rfl
section
variable {n : Nat}
theorem sub_refl (hn : n ≤ 4) {c : Nat} (hc : c < 2 ^ n) : sub n c c = true := by
  have := pow_lt hn
  exact (f_sub ⟨n, by omega⟩ ⟨c, by omega⟩ ⟨c, by omega⟩ hc hc).2.1
theorem sub_top (hn : n ≤ 4) {c : Nat} (hc : c < 2 ^ n) : sub n c (2 ^ n - 1) = true := by
  have := pow_lt hn
  exact (f_sub ⟨n, by omega⟩ ⟨c, by omega⟩ ⟨c, by omega⟩ hc hc).2.2.1
theorem sub_bot (hn : n ≤ 4) {c : Nat} (hc : c < 2 ^ n) : sub n 0 c = true := by
  have := pow_lt hn
  exact (f_sub ⟨n, by omega⟩ ⟨c, by omega⟩ ⟨c, by omega⟩ hc hc).2.2.2.1
theorem cpl_ne (hn : n ≤ 4) (h1 : 1 ≤ n) {c : Nat} (hc : c < 2 ^ n) : cpl n c ≠ c := by
  have := pow_lt hn
  exact (f_sub ⟨n, by omega⟩ ⟨c, by omega⟩ ⟨c, by omega⟩ hc hc).2.2.2.2 h1
theorem sub_le (hn : n ≤ 4) {c d : Nat} (hc : c < 2 ^ n) (hd : d < 2 ^ n) (h : sub n c d = true) : c ≤ d := by
  have := pow_lt hn
  exact ((f_sub ⟨n, by omega⟩ ⟨c, by omega⟩ ⟨d, by omega⟩ hc hd).1 h).1
theorem sub_cpl (hn : n ≤ 4) {c d : Nat} (hc : c < 2 ^ n) (hd : d < 2 ^ n) (h : sub n c d = true) : sub n (cpl n d) (cpl n c) = true := by
  have := pow_lt hn
  exact ((f_sub ⟨n, by omega⟩ ⟨c, by omega⟩ ⟨d, by omega⟩ hc hd).1 h).2
theorem cpl_lt {c : Nat} : cpl n c < 2 ^ n := by
  have := Nat.one_le_two_pow (n := n)
  unfold cpl
  omega
theorem cpl_cpl {c : Nat} (hc : c < 2 ^ n) : cpl n (cpl n c) = c := by
  unfold cpl
  omega
theorem mid_iff {c : Nat} : mid n c = true ↔ 0 < c ∧ c < 2 ^ n - 1 := by
  unfold mid
  simp
theorem hold_sub (hn : n ≤ 4) {c d : Nat} (hc : c < 2 ^ n) (hd : d < 2 ^ n) : hold (lLot n d) (lLot n c) = sub n c d := by
  have := pow_lt hn
  exact f_hold ⟨n, by omega⟩ ⟨c, by omega⟩ ⟨d, by omega⟩ hc hd
theorem meet_sub (hn : n ≤ 4) {c d : Nat} (hc : c < 2 ^ n) (hd : d < 2 ^ n) : meet (lLot n c) (lLot n d) = !sub n c (cpl n d) := by
  have := pow_lt hn
  exact f_meet ⟨n, by omega⟩ ⟨c, by omega⟩ ⟨d, by omega⟩ hc hd
theorem code_lot (hn : n ≤ 4) {c : Nat} (hc : c < 2 ^ n) : codeOf (lLot n c) = (c : Int) := by
  have := pow_lt hn
  exact (f_one ⟨n, by omega⟩ ⟨c, by omega⟩ hc).1
theorem others_lot (hn : n ≤ 4) {c : Nat} (hc : c < 2 ^ n) : others n (lLot n c) = lLot n (cpl n c : Nat) := by
  have := pow_lt hn
  exact (f_one ⟨n, by omega⟩ ⟨c, by omega⟩ hc).2.1
theorem lotOf_lot (hn : n ≤ 4) {c : Nat} (hc : c < 2 ^ n) : lotOf n (lLot n c) = lLot n c := by
  have := pow_lt hn
  exact (f_one ⟨n, by omega⟩ ⟨c, by omega⟩ hc).2.2
theorem lot_inj (hn : n ≤ 4) {c d : Nat} (hc : c < 2 ^ n) (hd : d < 2 ^ n) (h : lLot n c = lLot n d) : c = d := by
  have := code_lot hn hc
  rw [h, code_lot hn hd] at this
  omega
theorem up_lot (hn : n ≤ 4) : up n = lLot n ((2 ^ n - 1 : Nat) : Int) := f_up ⟨n, by omega⟩
theorem all_lot (hn : n ≤ 4) : allLots n = (List.range (2 ^ n)).map fun (c : Nat) => lLot n (c : Int) := f_all ⟨n, by omega⟩
theorem middle_lot (hn : n ≤ 4) (h1 : 1 ≤ n) : middle n = ((List.range (2 ^ n)).filter (mid n)).map fun (c : Nat) => lLot n (c : Int) := f_middle ⟨n, by omega⟩ h1
theorem by_mem (hn : n ≤ 4) {c : Int} : c ∈ bySize n (n - 1) ↔ ∃ d : Nat, c = d ∧ mid n d = true := by
  rw [(f_by ⟨n, by omega⟩).mem_iff]
  simp only [List.mem_map, List.mem_filter, List.mem_range]
  constructor
  · rintro ⟨a, ⟨_, h⟩, rfl⟩
    exact ⟨a, rfl, h⟩
  · rintro ⟨a, rfl, h⟩
    have := mid_iff.mp h
    exact ⟨a, ⟨by omega, h⟩, rfl⟩
theorem rowOf_mem (hn : n ≤ 4) (h1 : 1 ≤ n) {S : Nat → Bool} (u : UpS n S) {c : Nat} (hc : c < 2 ^ n) : (c : Int) ∈ rowOf n S ↔ S c = true := by
  unfold rowOf
  rw [List.mem_cons, List.mem_filter, pow_cast, by_mem hn]
  constructor
  · rintro (h | ⟨_, h⟩)
    · rw [show c = 2 ^ n - 1 by omega]
      exact u.w
    · simpa using h
  · intro h
    by_cases hw : c = 2 ^ n - 1
    · left
      rw [hw]
    · right
      refine ⟨⟨c, rfl, mid_iff.mpr ⟨?_, by omega⟩⟩, by simpa using h⟩
      rcases Nat.eq_zero_or_pos c with rfl | hp
      · rw [u.z] at h
        cases h
      · exact hp
theorem climb (hn : n ≤ 4) {T : Nat → Prop} (step : ∀ (c i : Nat), c < 2 ^ n → i < n → has (c : Int) i = false → c + 2 ^ i < 2 ^ n → T c → T (c + 2 ^ i)) {c d : Nat} (hd : d < 2 ^ n) : ∀ k c, d - c ≤ k → c < 2 ^ n → sub n c d = true → T c → T d
  | 0, c, hk, hc, h, t => by
    have := sub_le hn hc hd h
    rw [show d = c by omega]
    exact t
  | k + 1, c, hk, hc, h, t => by
    by_cases e : c = d
    · rw [← e]
      exact t
    · have := pow_lt hn
      obtain ⟨i, h1, h2, h3, h4⟩ := f_step ⟨n, by omega⟩ ⟨c, by omega⟩ ⟨d, by omega⟩ hc hd h e
      have h3 : c + 2 ^ i.val < 2 ^ n := h3
      have := Nat.one_le_two_pow (n := i.val)
      exact climb hn step (c := c) hd k (c + 2 ^ i.val) (by omega) h3 h4 (step c i hc h1 h2 h3 t)
theorem mem_above {c : Int} {o : Int} : o ∈ above n c ↔ ∃ i, i < n ∧ has c i = false ∧ o = c + 2 ^ i := by
  unfold above
  simp only [List.mem_map, List.mem_filter, List.mem_range, Bool.not_eq_true']
  constructor
  · rintro ⟨i, ⟨h1, h2⟩, rfl⟩
    exact ⟨i, h1, h2, rfl⟩
  · rintro ⟨i, h1, h2, rfl⟩
    exact ⟨i, ⟨h1, h2⟩, rfl⟩
/-- each row is the row of its own set -/
theorem row_set (hn : n ≤ 4) (h1 : 1 ≤ n) {row : List Int} (h : row ∈ families n) : UpS n (setOf row) ∧ row = rowOf n (setOf row) := by
  obtain ⟨e, z, a⟩ := f_rows ⟨n, by omega⟩ row h
  have e2 : row = rowOf n (setOf row) := by
    unfold rowOf
    refine e.trans ?_
    congr 1
    refine List.filter_congr fun c hc => ?_
    obtain ⟨d, rfl, _⟩ := (by_mem hn).mp hc
    rfl
  refine ⟨⟨?_, ?_, fun c d hc hd hs h => ?_⟩, e2⟩
  · unfold setOf
    rw [e, ← pow_cast]
    simp
  · unfold setOf
    have := z h1
    simpa using this
  · refine climb hn (T := fun c => setOf row c = true) (fun c i hc hi hh hl t => ?_) (c := c) hd _ c (Nat.le_refl _) hc hs h
    have t : decide ((c : Int) ∈ row) = true := t
    have := a c (of_decide_eq_true t) (c + 2 ^ i) (mem_above.mpr ⟨i, hi, hh, rfl⟩)
    show decide (((c + 2 ^ i : Nat) : Int) ∈ row) = true
    rw [Int.natCast_add, Int.natCast_pow]
    exact decide_eq_true this
theorem take_filter {S : Nat → Bool} (hn : n ≤ 4) (h1 : 1 ≤ n) (u : UpS n S) : ∀ i, i ≤ (bySize n (n - 1)).length → (2 ^ n - 1 : Int) :: ((bySize n (n - 1)).take i).filter (fun c => S c.toNat) ∈ ((bySize n (n - 1)).take i).foldl (grown n) [[2 ^ n - 1]]
  | 0, _ => by simp
  | i + 1, hi => by
    have ih := take_filter hn h1 u i (by omega)
    obtain ⟨c, hc⟩ : ∃ c, (bySize n (n - 1))[i]? = some c := ⟨_, List.getElem?_eq_getElem (by omega)⟩
    rw [List.take_add_one, hc, List.foldl_append, List.filter_append]
    show _ ∈ grown n (((bySize n (n - 1)).take i).foldl (grown n) [[2 ^ n - 1]]) c
    unfold grown
    rw [List.mem_append]
    have hm := List.mem_of_getElem? hc
    obtain ⟨d, rfl, hd⟩ := (by_mem hn).mp hm
    have hl : (bySize n (n - 1)).length ≤ 14 := by
      rw [(f_by ⟨n, by omega⟩).length_eq, List.length_map]
      show (List.filter (mid n) (List.range (2 ^ n))).length ≤ 14
      have : ∀ n : Fin 5, (List.filter (mid n.val) (List.range (2 ^ n.val))).length ≤ 14 := by decide +kernel
      exact this ⟨n, by omega⟩
    have dm := mid_iff.mp hd
    by_cases hs : S d = true
    · right
      refine List.mem_map.mpr ⟨_, List.mem_filter.mpr ⟨ih, ?_⟩, ?_⟩
      · rw [List.all_eq_true]
        intro o ho
        rw [decide_eq_true_eq]
        rcases f_order ⟨n, by omega⟩ ⟨i, by omega⟩ d (by rw [show (bySize (⟨n, by omega⟩ : Fin 5).val ((⟨n, by omega⟩ : Fin 5).val - 1))[(⟨i, by omega⟩ : Fin 14).val]? = (bySize n (n - 1))[i]? from rfl, hc]; rfl) o ho with h | h
        · have h : o = 2 ^ n - 1 := h
          rw [h]
          exact List.mem_cons_self ..
        · refine List.mem_cons_of_mem _ (List.mem_filter.mpr ⟨h, ?_⟩)
          obtain ⟨j, hj, hh, rfl⟩ := mem_above.mp ho
          have h : ((d : Int) + 2 ^ j) ∈ (bySize n (n - 1)).take i := h
          obtain ⟨e, he, hme⟩ := (by_mem hn).mp (List.mem_of_mem_take h)
          have em := mid_iff.mp hme
          rw [he, Int.toNat_natCast]
          refine u.up d e (by omega) (by omega) ?_ hs
          have := (show (d : Int) + 2 ^ j = ((d + 2 ^ j : Nat) : Int) by rw [Int.natCast_add, Int.natCast_pow]; rfl)
          have ee : e = d + 2 ^ j := by omega
          rw [ee]
          have f := (show ∀ n : Fin 5, ∀ d : Fin 16, ∀ j : Fin 4, j.val < n.val → d.val + 2 ^ j.val < 2 ^ n.val → has (d.val : Int) j.val = false → sub n.val d.val (d.val + 2 ^ j.val) = true by decide +kernel)
          have := pow_lt hn
          exact f ⟨n, by omega⟩ ⟨d, by omega⟩ ⟨j, by omega⟩ hj (by show d + 2 ^ j < 2 ^ n; omega) hh
      · simp [hs]
    · left
      have : S d = false := by simpa using hs
      simp [this]
      exact ih
theorem rowOf_in (hn : n ≤ 4) (h1 : 1 ≤ n) {S : Nat → Bool} (u : UpS n S) : rowOf n S ∈ families n := by
  have := take_filter hn h1 u _ (Nat.le_refl _)
  rw [List.take_length] at this
  exact this
theorem rowOf_congr {S T : Nat → Bool} (hn : n ≤ 4) (h : ∀ c, c < 2 ^ n → S c = T c) : rowOf n S = rowOf n T := by
  unfold rowOf
  congr 1
  refine List.filter_congr fun c hc => ?_
  obtain ⟨d, rfl, hd⟩ := (by_mem hn).mp hc
  have := mid_iff.mp hd
  exact h _ (by rw [Int.toNat_natCast]; omega)
theorem row_ok (hn : n ≤ 4) {row : List Int} (h : row ∈ families n) : RowOk n row := by
  have := (fam_ok ⟨n, by omega⟩).2 row h
  exact ⟨this.1, this.2.2⟩
end
/-- the bests of some rows -/
theorem bests_go (val : List Int → Int) : ∀ (rows : List (List Int)) (b : Int) (f : List (List Int)), ∃ b', rows.foldl (bestStep val) (some b, f) = (some b', if b' = b then f ++ (rows.filter fun r => decide (val r = b')).map srt else (rows.filter fun r => decide (val r = b')).map srt) ∧ b ≤ b' ∧ (∀ r ∈ rows, val r ≤ b') ∧ (b' = b ∨ ∃ r ∈ rows, val r = b')
  | [], b, f => ⟨b, by simp, Int.le_refl _, by simp, .inl rfl⟩
  | x :: r, b, f => by
    rw [List.foldl_cons]
    show ∃ b', r.foldl (bestStep val) (if b < val x then (some (val x), [srt x]) else if val x = b then (some b, f ++ [srt x]) else (some b, f)) = _ ∧ _
    by_cases h1 : b < val x
    · rw [if_pos h1]
      obtain ⟨b', e, h2, h3, h4⟩ := bests_go val r (val x) [srt x]
      refine ⟨b', ?_, by omega, fun y hy => ?_, .inr ?_⟩
      · rw [e, if_neg (show ¬ b' = b by omega)]
        by_cases h5 : b' = val x
        · rw [if_pos h5, List.filter_cons, if_pos (by simp [h5])]
          rfl
        · rw [if_neg h5, List.filter_cons, if_neg (by simp; omega)]
      · rcases List.mem_cons.mp hy with rfl | hy
        · exact h2
        · exact h3 y hy
      · rcases h4 with h4 | ⟨y, hy, h⟩
        · exact ⟨x, List.mem_cons_self .., h4.symm⟩
        · exact ⟨y, List.mem_cons_of_mem _ hy, h⟩
    · rw [if_neg h1]
      by_cases h2 : val x = b
      · rw [if_pos h2]
        obtain ⟨b', e, h3, h4, h5⟩ := bests_go val r b (f ++ [srt x])
        refine ⟨b', ?_, h3, fun y hy => ?_, ?_⟩
        · rw [e]
          by_cases h6 : b' = b
          · rw [if_pos h6, if_pos h6, List.filter_cons, if_pos (by simp; omega), List.map_cons, List.append_assoc]
            rfl
          · rw [if_neg h6, if_neg h6, List.filter_cons, if_neg (by simp; omega)]
        · rcases List.mem_cons.mp hy with rfl | hy
          · omega
          · exact h4 y hy
        · rcases h5 with h5 | ⟨y, hy, h⟩
          · exact .inl h5
          · exact .inr ⟨y, List.mem_cons_of_mem _ hy, h⟩
      · rw [if_neg h2]
        obtain ⟨b', e, h3, h4, h5⟩ := bests_go val r b f
        refine ⟨b', ?_, h3, fun y hy => ?_, ?_⟩
        · have nx : ¬ decide (val x = b') = true := by rw [decide_eq_true_eq]; omega
          rw [e]
          simp only [List.filter_cons, if_neg nx]
        · rcases List.mem_cons.mp hy with rfl | hy
          · omega
          · exact h4 y hy
        · rcases h5 with h5 | ⟨y, hy, h⟩
          · exact .inl h5
          · exact .inr ⟨y, List.mem_cons_of_mem _ hy, h⟩
theorem bests_eq (val : List Int → Int) {rows : List (List Int)} (h : rows ≠ []) : ∃ b, bests val rows = (some b, (rows.filter fun r => decide (val r = b)).map srt) ∧ (∀ r ∈ rows, val r ≤ b) ∧ ∃ r ∈ rows, val r = b := by
  match rows, h with
  | x :: r, _ =>
    obtain ⟨b, e, h1, h2, h3⟩ := bests_go val r (val x) [srt x]
    refine ⟨b, ?_, fun y hy => ?_, ?_⟩
    · unfold bests
      rw [List.foldl_cons]
      show r.foldl (bestStep val) (some (val x), [srt x]) = _
      rw [e]
      by_cases h4 : b = val x
      · rw [if_pos h4, List.filter_cons, if_pos (by simp [h4])]
        rfl
      · rw [if_neg h4, List.filter_cons, if_neg (by simp; omega)]
    · rcases List.mem_cons.mp hy with rfl | hy
      · exact h1
      · exact h2 y hy
    · rcases h3 with h3 | ⟨y, hy, h⟩
      · exact ⟨x, List.mem_cons_self .., h3.symm⟩
      · exact ⟨y, List.mem_cons_of_mem _ hy, h⟩
/-- the greatest value known: so are the bests -/
theorem bests_of (val : List Int → Int) {rows : List (List Int)} {b : Int} (h1 : ∀ r ∈ rows, val r ≤ b) (h2 : ∃ r ∈ rows, val r = b) : bests val rows = (some b, (rows.filter fun r => decide (val r = b)).map srt) := by
  obtain ⟨r, hr, e⟩ := h2
  obtain ⟨b', e1, h3, x, hx, e2⟩ := bests_eq val (rows := rows) (List.ne_nil_of_mem hr)
  have a := h3 r hr
  have c := h1 x hx
  rw [e1, show b' = b by omega]
end M
end
section
set_option maxRecDepth 20000
/-! M14: sums over codes; the products of chances. -/
namespace M
def sumTo (f : Nat → Int) : Nat → Int
  | 0 => 0
  | n + 1 => sumTo f n + f n
theorem sum_congr {f g : Nat → Int} : ∀ {n : Nat}, (∀ c, c < n → f c = g c) → sumTo f n = sumTo g n
  | 0, _ => rfl
  | n + 1, h => by rw [sumTo, sumTo, sum_congr fun c hc => h c (by omega), h n (by omega)]
theorem sum_add (f g : Nat → Int) : ∀ n, sumTo (fun c => f c + g c) n = sumTo f n + sumTo g n
  | 0 => rfl
  | n + 1 => by rw [sumTo, sumTo, sumTo, sum_add f g n]; omega
theorem sum_sub (f g : Nat → Int) : ∀ n, sumTo (fun c => f c - g c) n = sumTo f n - sumTo g n
  | 0 => rfl
  | n + 1 => by rw [sumTo, sumTo, sumTo, sum_sub f g n]; omega
theorem sum_mul (k : Int) (f : Nat → Int) : ∀ n, sumTo (fun c => k * f c) n = k * sumTo f n
  | 0 => by simp [sumTo]
  | n + 1 => by rw [sumTo, sumTo, sum_mul k f n, Int.mul_add]
theorem sum_le {f g : Nat → Int} : ∀ {n : Nat}, (∀ c, c < n → f c ≤ g c) → sumTo f n ≤ sumTo g n
  | 0, _ => Int.le_refl _
  | n + 1, h => by
    have a := sum_le (n := n) fun c hc => h c (by omega)
    have b := h n (by omega)
    rw [sumTo, sumTo]
    omega
theorem sum_eq_of {f g : Nat → Int} : ∀ {n : Nat}, (∀ c, c < n → f c ≤ g c) → sumTo f n = sumTo g n → ∀ c, c < n → f c = g c
  | 0, _, _, c, hc => by omega
  | n + 1, h, e, c, hc => by
    have a := sum_le (n := n) fun c hc => h c (by omega)
    have b := h n (by omega)
    rw [sumTo, sumTo] at e
    by_cases hn : c = n
    · subst hn
      omega
    · exact sum_eq_of (n := n) (fun c hc => h c (by omega)) (by omega) c (by omega)
theorem sum_split (f : Nat → Int) (a : Nat) : ∀ b, sumTo f (a + b) = sumTo f a + sumTo (fun c => f (a + c)) b
  | 0 => by simp [sumTo]
  | b + 1 => by rw [← Nat.add_assoc, sumTo, sumTo, sum_split f a b]; omega
theorem sum_head (f : Nat → Int) (n : Nat) : sumTo f (n + 1) = f 0 + sumTo (fun c => f (c + 1)) n := by
  rw [Nat.add_comm, sum_split f 1 n]
  simp only [sumTo, Nat.add_comm 1]
  omega
theorem sum_flip : ∀ (n : Nat) (f : Nat → Int), sumTo (fun c => f (n - 1 - c)) n = sumTo f n
  | 0, f => rfl
  | n + 1, f => by
    rw [sum_head, sumTo]
    have : sumTo (fun c => f (n + 1 - 1 - (c + 1))) n = sumTo (fun c => f (n - 1 - c)) n := sum_congr fun c hc => by congr 1; omega
    rw [this, sum_flip n f]
    simp
    omega
theorem perm_sum {l m : List Int} (p : l.Perm m) : l.sum = m.sum := by
  induction p with
  | nil => rfl
  | cons x _ ih => rw [List.sum_cons, List.sum_cons, ih]
  | swap x y l => simp only [List.sum_cons]; omega
  | trans _ _ a b => exact a.trans b
theorem sum_filter (S : Nat → Bool) (f : Nat → Int) : ∀ n, (((List.range n).filter S).map f).sum = sumTo (fun c => if S c = true then f c else 0) n
  | 0 => rfl
  | n + 1 => by
    rw [List.range_succ, List.filter_append, List.map_append, List.sum_append, sum_filter S f n, sumTo]
    congr 1
    by_cases h : S n = true
    · rw [if_pos h, List.filter_cons, if_pos h]
      simp
    · rw [if_neg h, List.filter_cons, if_neg h]
      rfl
theorem set_perm {n : Nat} {row : List Int} (h : RowOk n row) : row.Perm (((List.range (2 ^ n)).filter (setOf row)).map fun (c : Nat) => (c : Int)) := by
  refine perm_of_mem h.nd ?_ fun c => ?_
  · refine List.pairwise_map.mpr (List.Pairwise.imp ?_ (List.pairwise_lt_range.filter _))
    intro a b h
    omega
  · simp only [List.mem_map, List.mem_filter, List.mem_range]
    constructor
    · intro hc
      have := h.rg c hc
      have e : ((c.toNat : Nat) : Int) = c := Int.toNat_of_nonneg this.1
      refine ⟨c.toNat, ⟨?_, ?_⟩, e⟩
      · have h2 := this.2
        rw [← e] at h2
        exact_mod_cast h2
      · unfold setOf
        rw [e]
        exact decide_eq_true hc
    · rintro ⟨a, ⟨_, h⟩, rfl⟩
      exact of_decide_eq_true h
theorem row_sum {n : Nat} {row : List Int} (h : RowOk n row) (f : Int → Int) : (row.map f).sum = sumTo (fun c => if setOf row c = true then f c else 0) (2 ^ n) := by
  rw [perm_sum ((set_perm h).map f), List.map_map]
  exact sum_filter (setOf row) (fun c => f c) (2 ^ n)
/-- the raw input: chances of at least a half and less than one, a share -/
structure Inp (raw : List (Int × Int)) (sh : Int × Int) : Prop where
  n1 : 1 ≤ raw.length
  n4 : raw.length ≤ 4
  ch : ∀ p ∈ raw, p.2 ≤ 2 * p.1 ∧ p.1 < p.2 ∧ 2 ≤ p.2
  s0 : 0 ≤ sh.1
  s1 : sh.1 ≤ sh.2
  s2 : 1 ≤ sh.2
def tb (raw : List (Int × Int)) (c : Nat) : Int := lAlone raw (c : Int) raw.length
def uN (raw : List (Int × Int)) : Nat → Int
  | 0 => 1
  | i + 1 => uN raw i * (raw.getD i (0, 1)).2
section
variable {raw : List (Int × Int)} {sh : Int × Int}
theorem Inp.at_ (h : Inp raw sh) {i : Nat} (hi : i < raw.length) : (raw.getD i (0, 1)).2 ≤ 2 * (raw.getD i (0, 1)).1 ∧ (raw.getD i (0, 1)).1 < (raw.getD i (0, 1)).2 ∧ 2 ≤ (raw.getD i (0, 1)).2 := by
  have e : raw.getD i (0, 1) = raw[i] := by rw [List.getD_eq_getElem?_getD, List.getElem?_eq_getElem hi]; rfl
  rw [e]
  exact h.ch _ (List.getElem_mem hi)
theorem fac_pos (h : Inp raw sh) (c : Int) {i : Nat} (hi : i < raw.length) : 0 < lFac raw c i := by
  have := h.at_ hi
  unfold lFac
  split <;> omega
theorem alone_pos (h : Inp raw sh) (c : Int) : ∀ i, i ≤ raw.length → 0 < lAlone raw c i
  | 0, _ => (by decide : (0 : Int) < 1)
  | i + 1, hi => Int.mul_pos (alone_pos h c i (by omega)) (fac_pos h c (by omega))
theorem tb_pos (h : Inp raw sh) (c : Nat) : 0 < tb raw c := alone_pos h c _ (Nat.le_refl _)
theorem sub_has {n c d : Nat} (h : sub n c d = true) {i : Nat} (hi : i < n) (hc : has (c : Int) i = true) : has (d : Int) i = true := by
  unfold sub at h
  have := List.all_eq_true.mp h i (List.mem_range.mpr hi)
  simpa [hc] using this
theorem alone_mono (h : Inp raw sh) {c d : Nat} (s : sub raw.length c d = true) : ∀ i, i ≤ raw.length → lAlone raw c i ≤ lAlone raw d i
  | 0, _ => Int.le_refl _
  | i + 1, hi => by
    have a := alone_mono h s i (by omega)
    have b : lFac raw c i ≤ lFac raw d i := by
      have := h.at_ (i := i) (by omega)
      unfold lFac
      by_cases hc : has (c : Int) i = true
      · rw [if_pos hc, if_pos (sub_has s (by omega) hc)]
        exact Int.le_refl _
      · rw [if_neg hc]
        split <;> omega
    exact Int.mul_le_mul a b (Int.le_of_lt (fac_pos h c (by omega))) (Int.le_of_lt (alone_pos h d i (by omega)))
theorem tb_mono (h : Inp raw sh) {c d : Nat} (s : sub raw.length c d = true) : tb raw c ≤ tb raw d := alone_mono h s _ (Nat.le_refl _)
theorem has_low : ∀ i : Fin 4, ∀ c : Fin 8, c.val < 2 ^ i.val → has (c.val : Int) i.val = false ∧ has ((2 ^ i.val + c.val : Nat) : Int) i.val = true ∧ ∀ j : Fin 4, j.val < i.val → has ((2 ^ i.val + c.val : Nat) : Int) j.val = has (c.val : Int) j.val := by decide +kernel
theorem alone_high {i c : Nat} (hi : i < 4) (hc : c < 2 ^ i) : ∀ j, j ≤ i → lAlone raw ((2 ^ i + c : Nat) : Int) j = lAlone raw c j
  | 0, _ => rfl
  | j + 1, hj => by
    have p : 2 ^ i ≤ 8 := by
      have : 2 ^ i ≤ 2 ^ 3 := Nat.pow_le_pow_right (by decide) (by omega)
      omega
    have e : has ((2 ^ i + c : Nat) : Int) j = has (c : Int) j := (has_low ⟨i, hi⟩ ⟨c, by omega⟩ hc).2.2 ⟨j, by omega⟩ (by show j < i; omega)
    rw [lAlone, lAlone, alone_high hi hc j (by omega)]
    unfold lFac
    rw [e]
theorem alone_sum : ∀ i, i ≤ 4 → sumTo (fun c => lAlone raw (c : Int) i) (2 ^ i) = uN raw i
  | 0, _ => (by decide : (0 : Int) + 1 = 1)
  | i + 1, hi => by
    have p : 2 ^ i ≤ 8 := by
      have : 2 ^ i ≤ 2 ^ 3 := Nat.pow_le_pow_right (by decide) (by omega)
      omega
    rw [show 2 ^ (i + 1) = 2 ^ i + 2 ^ i by rw [Nat.pow_succ]; omega, sum_split, uN, ← alone_sum i (by omega), Int.mul_comm, ← sum_mul, ← sum_add]
    refine sum_congr fun c hc => ?_
    have e := has_low ⟨i, by omega⟩ ⟨c, by omega⟩ hc
    have e1 : has (c : Int) i = false := e.1
    have e2 : has ((2 ^ i + c : Nat) : Int) i = true := e.2.1
    rw [lAlone, lAlone, alone_high (by omega) hc i (Nat.le_refl _)]
    unfold lFac
    rw [e1, e2, if_pos rfl, if_neg (by decide), ← Int.mul_add, Int.mul_comm]
    congr 1
    omega
theorem tb_sum (h : Inp raw sh) : sumTo (tb raw) (2 ^ raw.length) = uN raw raw.length := alone_sum raw.length h.n4
theorem under_take (raw : List (Int × Int)) : ∀ i, i ≤ raw.length → (raw.take i).foldl (fun a p => a * p.2) 1 = uN raw i
  | 0, _ => rfl
  | i + 1, hi => by
    rw [List.take_add_one, List.getElem?_eq_getElem (by omega), List.foldl_append, under_take raw i (by omega), uN, List.getD_eq_getElem?_getD, List.getElem?_eq_getElem (by omega)]
    rfl
theorem under_eq (raw : List (Int × Int)) : lUnder raw = uN raw raw.length := by
  have := under_take raw raw.length (Nat.le_refl _)
  rw [List.take_length] at this
  exact this
theorem table_get {c : Nat} (hc : c < 2 ^ raw.length) : (lTable raw).getD c 0 = tb raw c := by
  unfold lTable
  rw [List.getD_eq_getElem?_getD, List.getElem?_map, List.getElem?_range hc]
  rfl
/-- what a lot adds, times the unders -/
def gn (raw : List (Int × Int)) (sh : Int × Int) (c : Nat) : Int := (sh.2 - sh.1) * tb raw c - sh.1 * tb raw (cpl raw.length c)
theorem gn_mono (h : Inp raw sh) {c d : Nat} (hc : c < 2 ^ raw.length) (hd : d < 2 ^ raw.length) (s : sub raw.length c d = true) : gn raw sh c ≤ gn raw sh d := by
  have a := tb_mono h s
  have b := tb_mono h (sub_cpl h.n4 hc hd s)
  have := h.s0
  have := h.s1
  have c1 := Int.mul_le_mul_of_nonneg_left (c := sh.2 - sh.1) a (by omega)
  have c2 := Int.mul_le_mul_of_nonneg_left (c := sh.1) b (by omega)
  unfold gn
  omega
theorem dual_sum {n : Nat} (hn : n ≤ 4) (row : List Int) (f : Int → Int) : ((lDual n row).map f).sum = sumTo (fun c => if setOf row (cpl n c) = true then 0 else f c) (2 ^ n) := by
  unfold lDual
  rw [List.map_map]
  refine (sum_filter (fun (c : Nat) => !decide ((2 ^ n - 1 - (c : Int)) ∈ row)) (fun c => f c) (2 ^ n)).trans (sum_congr fun c hc => ?_)
  have e : (2 : Int) ^ n - 1 - (c : Int) = ((cpl n c : Nat) : Int) := by
    rw [pow_cast]
    unfold cpl
    omega
  rw [e]
  unfold setOf
  cases decide ((cpl n c : Int) ∈ row) <;> simp
/-- a row's value -/
theorem value_eq (h : Inp raw sh) {row : List Int} (hr : RowOk raw.length row) : lValue (lTable raw) raw.length sh row = sh.1 * uN raw raw.length + sumTo (fun c => if setOf row c = true then gn raw sh c else 0) (2 ^ raw.length) := by
  unfold lValue
  rw [dual_sum h.n4, row_sum hr, ← tb_sum h]
  have e1 : sumTo (fun c => if setOf row (cpl raw.length c) = true then (0 : Int) else (lTable raw).getD (c : Int).toNat 0) (2 ^ raw.length) = sumTo (fun c => tb raw c - (if setOf row (cpl raw.length c) = true then tb raw c else 0)) (2 ^ raw.length) := sum_congr fun c hc => by
    rw [Int.toNat_natCast, table_get hc]
    split <;> omega
  have e2 : sumTo (fun c => if setOf row (c : Nat) = true then (lTable raw).getD (c : Int).toNat 0 else 0) (2 ^ raw.length) = sumTo (fun c => if setOf row c = true then tb raw c else 0) (2 ^ raw.length) := sum_congr fun c hc => by
    rw [Int.toNat_natCast, table_get hc]
  rw [e1, e2, sum_sub]
  have e3 : sumTo (fun c => if setOf row (cpl raw.length c) = true then tb raw c else 0) (2 ^ raw.length) = sumTo (fun c => if setOf row c = true then tb raw (cpl raw.length c) else 0) (2 ^ raw.length) := by
    rw [← sum_flip (2 ^ raw.length) fun c => if setOf row c = true then tb raw (cpl raw.length c) else 0]
    refine sum_congr fun c hc => ?_
    show (if setOf row (cpl raw.length c) = true then tb raw c else 0) = if setOf row (cpl raw.length c) = true then tb raw (cpl raw.length (cpl raw.length c)) else 0
    rw [cpl_cpl hc]
  rw [e3, Int.mul_sub, ← sum_mul sh.1 fun c => if setOf row c = true then tb raw (cpl raw.length c) else 0, ← sum_mul (sh.2 - sh.1) fun c => if setOf row c = true then tb raw c else 0]
  have e4 : ∀ a b c d : Int, d = c - b → a - b + c = a + d := fun a b c d h => by omega
  refine e4 _ _ _ _ ?_
  rw [← sum_sub]
  refine sum_congr fun c hc => ?_
  unfold gn
  split <;> simp
end
end M
end
section
set_option maxRecDepth 20000
/-! M15: chances, gains and worths as whole numbers over one under. -/
namespace M
theorem div_mul {a b : Int} (hb : 0 < b) : (b : Rat) * Rat.divInt a b = (a : Rat) := by
  have : (b : Rat) ≠ 0 := by
    intro e
    have := Rat.intCast_inj.mp (show ((b : Int) : Rat) = ((0 : Int) : Rat) from e)
    omega
  rw [Rat.divInt_eq_div]
  grind
theorem mem_lLot {n : Nat} {c : Int} {i : Nat} : (i : Int) ∈ lLot n c ↔ i < n ∧ has c i = true := by
  rw [show lLot n c = pick n (has c) from rfl, mem_pick]
  constructor
  · rintro ⟨j, h1, h2, e⟩
    rw [show i = j by omega]
    exact ⟨h1, h2⟩
  · rintro ⟨h1, h2⟩
    exact ⟨i, h1, h2, rfl⟩
theorem uN_pos {raw : List (Int × Int)} {sh : Int × Int} (h : Inp raw sh) : ∀ i, i ≤ raw.length → 0 < uN raw i
  | 0, _ => (by decide : (0 : Int) < 1)
  | i + 1, hi => Int.mul_pos (uN_pos h i (by omega)) (by have := h.at_ (i := i) (by omega); omega)
section
variable {raw : List (Int × Int)} {sh : Int × Int}
abbrev qsOf (raw : List (Int × Int)) : List Rat := raw.map ratOf
theorem qs_len : (qsOf raw).length = raw.length := by simp
theorem qs_get {i : Nat} (hi : i < raw.length) : (qsOf raw).getD i 0 = ratOf (raw.getD i (0, 1)) := by
  rw [List.getD_eq_getElem?_getD, List.getElem?_map, List.getD_eq_getElem?_getD, List.getElem?_eq_getElem hi]
  rfl
theorem prob_go (h : Inp raw sh) (c : Nat) : ∀ i, i ≤ raw.length → ((uN raw i : Int) : Rat) * prN (qsOf raw) (lLot raw.length c) i = ((lAlone raw c i : Int) : Rat)
  | 0, _ => by simp [uN, prN, lAlone]
  | i + 1, hi => by
    have ih := prob_go h c i (by omega)
    have hp := h.at_ (i := i) (by omega)
    have dm := div_mul (a := (raw.getD i (0, 1)).1) (b := (raw.getD i (0, 1)).2) (by omega)
    have e : (((raw.getD i (0, 1)).2 : Int) : Rat) * fac (qsOf raw) (lLot raw.length c) i = ((lFac raw c i : Int) : Rat) := by
      unfold fac lFac
      rw [qs_get (by omega)]
      by_cases hc : has (c : Int) i = true
      · rw [if_pos hc, if_pos (mem_lLot.mpr ⟨by omega, hc⟩)]
        exact dm
      · rw [if_neg hc, if_neg (fun z => hc (mem_lLot.mp z).2), Rat.intCast_sub]
        unfold ratOf
        grind
    rw [uN, prN, lAlone, Rat.intCast_mul, Rat.intCast_mul]
    grind
/-- the under of all worths -/
def Dn (raw : List (Int × Int)) (sh : Int × Int) : Rat := ((uN raw raw.length * sh.2 : Int) : Rat)
theorem Dn_pos (h : Inp raw sh) : 0 < Dn raw sh := by
  unfold Dn
  exact Rat.intCast_pos.mpr (Int.mul_pos (uN_pos h _ (Nat.le_refl _)) (by have := h.s2; omega))
theorem prob_tb (h : Inp raw sh) (c : Nat) : ((uN raw raw.length : Int) : Rat) * prob (qsOf raw) (lLot raw.length c) = ((tb raw c : Int) : Rat) := by
  unfold prob
  rw [qs_len]
  exact prob_go h c _ (Nat.le_refl _)
theorem share_mul (h : Inp raw sh) : ((sh.2 : Int) : Rat) * ratOf sh = ((sh.1 : Int) : Rat) := div_mul (by have := h.s2; omega)
theorem gain_gn (h : Inp raw sh) {c : Nat} (hc : c < 2 ^ raw.length) : Dn raw sh * gain (qsOf raw) (ratOf sh) (lLot raw.length c) = ((gn raw sh c : Int) : Rat) := by
  have a := prob_tb h c
  have b := prob_tb h (cpl raw.length c)
  have s := share_mul h
  unfold gain
  rw [qs_len, others_lot h.n4 hc]
  unfold gn Dn
  rw [Rat.intCast_sub, Rat.intCast_mul, Rat.intCast_mul, Rat.intCast_mul, Rat.intCast_sub]
  grind
theorem pos_iff (h : Inp raw sh) {x : Rat} {y : Int} (e : Dn raw sh * x = (y : Rat)) : (((0 : Int) : Rat) < x ↔ 0 < y) ∧ (((0 : Int) : Rat) ≤ x ↔ 0 ≤ y) ∧ (x = 0 ↔ y = 0) := by
  have d := Dn_pos h
  refine ⟨?_, ?_, ?_⟩
  · rw [← Rat.intCast_pos, ← e]
    exact (Rat.mul_pos_iff_of_pos_left d).symm
  · rw [← Rat.intCast_nonneg, ← e]
    constructor
    · intro hx
      exact Rat.mul_nonneg (Rat.le_of_lt d) hx
    · intro hx
      rw [← Rat.not_lt]
      intro hn
      have h0 : x < 0 := hn
      have := Rat.mul_pos d (show 0 < -x by grind)
      grind
  · have : (y = 0) ↔ ((y : Rat) = 0) := by
      constructor
      · rintro rfl
        rfl
      · intro z
        exact Rat.intCast_inj.mp z
    rw [this, ← e]
    constructor
    · rintro rfl
      exact Rat.mul_zero _
    · intro z
      rcases Rat.mul_eq_zero.mp z with z | z
      · rw [z] at d
        exact absurd d (Rat.lt_irrefl)
      · exact z
end
end M
end
section
set_option maxRecDepth 20000
/-! M16: the greatest value; what families contain. -/
namespace M
section
variable {raw : List (Int × Int)} {sh : Int × Int} {n : Nat}
/-- the lots that a best row must have, and those that it may have -/
def must (raw : List (Int × Int)) (sh : Int × Int) (c : Nat) : Bool := decide (c = 2 ^ raw.length - 1) || (mid raw.length c && decide (0 < gn raw sh c))
def may (raw : List (Int × Int)) (sh : Int × Int) (c : Nat) : Bool := decide (c = 2 ^ raw.length - 1) || (mid raw.length c && decide (0 ≤ gn raw sh c))
def bestV (raw : List (Int × Int)) (sh : Int × Int) : Int := sh.1 * uN raw raw.length + sumTo (fun c => if must raw sh c = true then gn raw sh c else 0) (2 ^ raw.length)
theorem must_iff {c : Nat} : must raw sh c = true ↔ c = 2 ^ raw.length - 1 ∨ (mid raw.length c = true ∧ 0 < gn raw sh c) := by
  unfold must
  simp
theorem may_iff {c : Nat} : may raw sh c = true ↔ c = 2 ^ raw.length - 1 ∨ (mid raw.length c = true ∧ 0 ≤ gn raw sh c) := by
  unfold may
  simp
theorem must_may {c : Nat} (h : must raw sh c = true) : may raw sh c = true := by
  rcases must_iff.mp h with h | ⟨h, h2⟩
  · exact may_iff.mpr (.inl h)
  · exact may_iff.mpr (.inr ⟨h, by omega⟩)
theorem not_mid0 : mid n 0 = false := rfl
theorem mid_up (hn : n ≤ 4) {c d : Nat} (hc : c < 2 ^ n) (hd : d < 2 ^ n) (s : sub n c d = true) (h : mid n c = true) : d = 2 ^ n - 1 ∨ mid n d = true := by
  have a := mid_iff.mp h
  have b := sub_le hn hc hd s
  by_cases e : d = 2 ^ n - 1
  · exact .inl e
  · exact .inr (mid_iff.mpr ⟨by omega, by omega⟩)
theorem top_up (hn : n ≤ 4) {d : Nat} (hd : d < 2 ^ n) (s : sub n (2 ^ n - 1) d = true) : d = 2 ^ n - 1 := by
  have b := sub_le hn (by omega) hd s
  omega
theorem upS_must (h : Inp raw sh) : UpS raw.length (must raw sh) := by
  have p2 := pow_two h.n1
  refine ⟨must_iff.mpr (.inl rfl), ?_, fun c d hc hd s hm => ?_⟩
  · rw [Bool.eq_false_iff]
    intro z
    rcases must_iff.mp z with z | ⟨z, _⟩
    · omega
    · rw [not_mid0] at z
      cases z
  · rcases must_iff.mp hm with rfl | ⟨hm, hg⟩
    · exact must_iff.mpr (.inl (top_up h.n4 hd s))
    · rcases mid_up h.n4 hc hd s hm with e | e
      · exact must_iff.mpr (.inl e)
      · have := gn_mono h hc hd s
        exact must_iff.mpr (.inr ⟨e, by omega⟩)
theorem upS_may (h : Inp raw sh) : UpS raw.length (may raw sh) := by
  have p2 := pow_two h.n1
  refine ⟨may_iff.mpr (.inl rfl), ?_, fun c d hc hd s hm => ?_⟩
  · rw [Bool.eq_false_iff]
    intro z
    rcases may_iff.mp z with z | ⟨z, _⟩
    · omega
    · rw [not_mid0] at z
      cases z
  · rcases may_iff.mp hm with rfl | ⟨hm, hg⟩
    · exact may_iff.mpr (.inl (top_up h.n4 hd s))
    · rcases mid_up h.n4 hc hd s hm with e | e
      · exact may_iff.mpr (.inl e)
      · have := gn_mono h hc hd s
        exact may_iff.mpr (.inr ⟨e, by omega⟩)
theorem setS_le (h : Inp raw sh) {S : Nat → Bool} (u : UpS raw.length S) : ∀ c, c < 2 ^ raw.length → (if S c = true then gn raw sh c else 0) ≤ if must raw sh c = true then gn raw sh c else 0 := fun c hc => by
  by_cases e : c = 2 ^ raw.length - 1
  · rw [if_pos (show must raw sh c = true from must_iff.mpr (.inl e)), e, if_pos u.w]
    exact Int.le_refl _
  · by_cases z : c = 0
    · subst z
      rw [u.z, (upS_must h).z]
      exact Int.le_refl _
    · have m : mid raw.length c = true := mid_iff.mpr ⟨by omega, by omega⟩
      by_cases g : 0 < gn raw sh c
      · rw [if_pos (show must raw sh c = true from must_iff.mpr (.inr ⟨m, g⟩))]
        split <;> omega
      · rw [if_neg (show ¬ must raw sh c = true from fun w => by
          rcases must_iff.mp w with w | w
          · exact e w
          · exact g w.2)]
        split <;> omega
/-- S lies between -/
def Mid (raw : List (Int × Int)) (sh : Int × Int) (S : Nat → Bool) : Prop := ∀ c, c < 2 ^ raw.length → (must raw sh c = true → S c = true) ∧ (S c = true → may raw sh c = true)
theorem setS_eq (h : Inp raw sh) {S : Nat → Bool} (u : UpS raw.length S) : sumTo (fun c => if S c = true then gn raw sh c else 0) (2 ^ raw.length) = sumTo (fun c => if must raw sh c = true then gn raw sh c else 0) (2 ^ raw.length) ↔ Mid raw sh S := by
  constructor
  · intro e c hc
    have q := sum_eq_of (setS_le h u) e c hc
    have q : (if S c = true then gn raw sh c else 0) = if must raw sh c = true then gn raw sh c else 0 := q
    constructor
    · intro hm
      rw [if_pos hm] at q
      by_cases hs : S c = true
      · exact hs
      · rw [if_neg hs] at q
        rcases must_iff.mp hm with w | w
        · rw [w]
          exact u.w
        · have := w.2
          omega
    · intro hs
      rw [if_pos hs] at q
      by_cases e : c = 2 ^ raw.length - 1
      · exact may_iff.mpr (.inl e)
      · by_cases z : c = 0
        · subst z
          rw [u.z] at hs
          cases hs
        · refine may_iff.mpr (.inr ⟨mid_iff.mpr ⟨by omega, by omega⟩, ?_⟩)
          split at q
          · rename_i hm
            rcases must_iff.mp hm with w | w
            · exact absurd w e
            · have := w.2
              omega
          · omega
  · intro m
    refine sum_congr fun c hc => ?_
    obtain ⟨a, b⟩ := m c hc
    by_cases hm : must raw sh c = true
    · rw [if_pos hm, if_pos (a hm)]
    · rw [if_neg hm]
      split
      · rename_i hs
        rcases may_iff.mp (b hs) with w | w
        · exact absurd (must_iff.mpr (.inl w)) hm
        · have : ¬ 0 < gn raw sh c := fun z => hm (must_iff.mpr (.inr ⟨w.1, z⟩))
          have := w.2
          omega
      · rfl
theorem val_le (h : Inp raw sh) {row : List Int} (hr : row ∈ families raw.length) : lValue (lTable raw) raw.length sh row ≤ bestV raw sh := by
  have := sum_le (setS_le h (row_set h.n4 h.n1 hr).1)
  rw [value_eq h (row_ok h.n4 hr)]
  unfold bestV
  omega
theorem val_eq (h : Inp raw sh) {row : List Int} (hr : row ∈ families raw.length) : lValue (lTable raw) raw.length sh row = bestV raw sh ↔ Mid raw sh (setOf row) := by
  rw [← setS_eq h (row_set h.n4 h.n1 hr).1, value_eq h (row_ok h.n4 hr)]
  unfold bestV
  omega
theorem set_rowOf (hn : n ≤ 4) (h1 : 1 ≤ n) {S : Nat → Bool} (u : UpS n S) {c : Nat} (hc : c < 2 ^ n) : setOf (rowOf n S) c = S c := by
  unfold setOf
  rw [Bool.eq_iff_iff, decide_eq_true_eq]
  exact rowOf_mem hn h1 u hc
theorem mid_must (h : Inp raw sh) : Mid raw sh (must raw sh) := fun c hc => ⟨id, must_may⟩
theorem mid_may (h : Inp raw sh) : Mid raw sh (may raw sh) := fun c hc => ⟨must_may, id⟩
theorem mid_row (h : Inp raw sh) {S : Nat → Bool} (u : UpS raw.length S) (m : Mid raw sh S) : rowOf raw.length S ∈ families raw.length ∧ lValue (lTable raw) raw.length sh (rowOf raw.length S) = bestV raw sh := by
  refine ⟨rowOf_in h.n4 h.n1 u, (val_eq h (rowOf_in h.n4 h.n1 u)).mpr fun c hc => ?_⟩
  rw [set_rowOf h.n4 h.n1 u hc]
  exact m c hc
def found (raw : List (Int × Int)) (sh : Int × Int) : List (List Int) := ((families raw.length).filter fun r => decide (lValue (lTable raw) raw.length sh r = bestV raw sh)).map srt
theorem bests_rows (h : Inp raw sh) : bests (lValue (lTable raw) raw.length sh) (families raw.length) = (some (bestV raw sh), found raw sh) :=
  bests_of _ (fun r hr => val_le h hr) ⟨_, mid_row h (upS_must h) (mid_must h)⟩
theorem total_mul (D : Rat) (f : Nat → Rat) (g : Nat → Int) : ∀ (l : List Nat) (a : Rat) (b : Int), D * a = (b : Rat) → (∀ c ∈ l, D * f c = (g c : Rat)) → D * (l.map f).foldl (· + ·) a = ((b + (l.map g).sum : Int) : Rat)
  | [], a, b, h, _ => by simpa using h
  | c :: r, a, b, h, hl => by
    rw [List.map_cons, List.foldl_cons, total_mul D f g r (a + f c) (b + g c) ?_ fun c hc => hl c (List.mem_cons_of_mem _ hc), List.map_cons, List.sum_cons, Int.add_assoc]
    have := hl c (List.mem_cons_self ..)
    rw [Rat.intCast_add]
    grind
theorem filter_lots {p : List Int → Bool} {q : Nat → Bool} {f : Nat → Bool} {N : Nat} (hq : ∀ c, c < N → f c = true → p (lLot n (c : Int)) = q c) : ((((List.range N).filter f).map fun (c : Nat) => lLot n (c : Int)).filter p) = ((List.range N).filter fun c => f c && q c).map fun (c : Nat) => lLot n (c : Int) := by
  rw [List.filter_map, List.filter_filter]
  congr 1
  refine List.filter_congr fun c hc => ?_
  have hc := List.mem_range.mp hc
  show ((p ∘ fun (c : Nat) => lLot n (c : Int)) c && f c) = (f c && q c)
  cases hf : f c
  · simp
  · have := hq c hc hf
    show (p (lLot n c) && true) = (true && q c)
    rw [this]
    simp
theorem sum_top (f : Nat → Int) {k : Nat} (hk : 1 ≤ k) (S : Nat → Bool) (hs : S (k - 1) = false) : sumTo (fun c => if (decide (c = k - 1) || S c) = true then f c else 0) k = f (k - 1) + sumTo (fun c => if S c = true then f c else 0) k := by
  obtain ⟨j, rfl⟩ : ∃ j, k = j + 1 := ⟨k - 1, by omega⟩
  rw [sumTo, sumTo]
  simp only [Nat.add_sub_cancel] at hs ⊢
  rw [hs, sum_congr (g := fun c => if S c = true then f c else 0) fun c hc => by
    rw [decide_eq_false (show ¬ c = j by omega), Bool.false_or]]
  simp
  omega
theorem most_mul (h : Inp raw sh) : Dn raw sh * mostWorth (qsOf raw) (ratOf sh) = ((bestV raw sh : Int) : Rat) := by
  have p2 := pow_two h.n1
  have s := share_mul h
  have gw := gain_gn h (c := 2 ^ raw.length - 1) (by omega)
  unfold mostWorth totalQ
  rw [qs_len, up_lot h.n4, middle_lot h.n4 h.n1, filter_lots (q := fun c => decide (0 < gn raw sh c)) fun c hc _ => by
    rw [decide_eq_decide]
    exact (pos_iff h (gain_gn h hc)).1, List.map_map]
  have t := total_mul (Dn raw sh) (gain (qsOf raw) (ratOf sh) ∘ fun (c : Nat) => lLot raw.length (c : Int)) (gn raw sh) ((List.range (2 ^ raw.length)).filter fun c => mid raw.length c && decide (0 < gn raw sh c)) 0 0 (by simp) fun c hc => gain_gn h (List.mem_range.mp (List.mem_filter.mp hc).1)
  rw [Rat.mul_add, Rat.mul_add, t, gw, sum_filter]
  unfold bestV must
  rw [sum_top (gn raw sh) (by omega) (fun c => mid raw.length c && decide (0 < gn raw sh c)) (by
    rw [show mid raw.length (2 ^ raw.length - 1) = false by
      rw [Bool.eq_false_iff]
      intro z
      have := mid_iff.mp z
      omega]
    rfl)]
  rw [Rat.intCast_add, Rat.intCast_add, Rat.intCast_add, Rat.intCast_mul]
  have : Dn raw sh * ratOf sh = ((sh.1 : Int) : Rat) * ((uN raw raw.length : Int) : Rat) := by
    unfold Dn
    rw [Rat.intCast_mul]
    grind
  rw [this]
  simp only [Rat.intCast_zero]
  grind
end
end M
end
section
set_option maxRecDepth 20000
/-! M17: the families made: what they contain, by codes. -/
namespace M
section
variable {raw : List (Int × Int)} {sh : Int × Int} {n : Nat}
/-- does a family contain the lot of a code -/
def cont (n : Nat) (fm : List (List Int)) (c : Nat) : Bool := contains fm (lLot n (c : Int))
def cds (n : Nat) (fm : List (List Int)) : List Int := (every n fm).map codeOf
/-- each lot is that of a code -/
def Coded (n : Nat) (fm : List (List Int)) : Prop := ∀ m ∈ fm, ∃ c, c < 2 ^ n ∧ m = lLot n (c : Nat)
theorem f_pick : ∀ n : Fin 5, ∀ a b c d : Bool, ∃ k : Fin 16, k.val < 2 ^ n.val ∧ pickB n.val [a, b, c, d] = lLot n.val (k.val : Int) := by decide +kernel
theorem pick_lot (hn : n ≤ 4) (f : Nat → Bool) : ∃ c, c < 2 ^ n ∧ pick n f = lLot n (c : Nat) := by
  obtain ⟨k, h1, h2⟩ := f_pick ⟨n, by omega⟩ (f 0) (f 1) (f 2) (f 3)
  refine ⟨k.val, h1, h2 ▸ ?_⟩
  unfold pickB pick
  congr 1
  refine List.filter_congr fun i hi => ?_
  rw [List.mem_range] at hi
  have : i = 0 ∨ i = 1 ∨ i = 2 ∨ i = 3 := by
    have : i < n := hi
    omega
  rcases this with rfl | rfl | rfl | rfl <;> rfl
theorem coded_mk (hn : n ≤ 4) (ls : List (List Int)) : Coded n (mkFam n ls) := fun m hm => by
  obtain ⟨x, _, rfl⟩ := mem_mk (by omega) hm
  exact pick_lot hn _
theorem cont_iff (hn : n ≤ 4) {fm : List (List Int)} (h : Coded n fm) {c : Nat} (hc : c < 2 ^ n) : cont n fm c = true ↔ ∃ d, d < 2 ^ n ∧ lLot n (d : Nat) ∈ fm ∧ sub n d c = true := by
  unfold cont contains
  rw [List.any_eq_true]
  constructor
  · rintro ⟨m, hm, hh⟩
    obtain ⟨d, hd, rfl⟩ := h m hm
    exact ⟨d, hd, hm, by rw [← hold_sub hn hd hc]; exact hh⟩
  · rintro ⟨d, hd, hm, s⟩
    exact ⟨_, hm, by rw [hold_sub hn hd hc]; exact s⟩
theorem sub_trans {a b c : Nat} (h : sub n a b = true) (h2 : sub n b c = true) : sub n a c = true := by
  unfold sub
  rw [List.all_eq_true]
  intro i hi
  have hi := List.mem_range.mp hi
  by_cases ha : has (a : Int) i = true
  · rw [sub_has h2 hi (sub_has h hi ha)]
    simp
  · simp [ha]
/-- a made family contains what holds one of the lots given -/
theorem cont_mk (hn : n ≤ 4) {ls : List (List Int)} (h : Coded n ls) {c : Nat} (hc : c < 2 ^ n) : cont n (mkFam n ls) c = true ↔ ∃ d, d < 2 ^ n ∧ lLot n (d : Nat) ∈ ls ∧ sub n d c = true := by
  unfold cont
  rw [contains_mk (by omega)]
  constructor
  · rintro ⟨m, hm, hh⟩
    obtain ⟨d, hd, rfl⟩ := h m hm
    refine ⟨d, hd, hm, ?_⟩
    rw [← hold_sub hn hd hc]
    refine hold_iff.mpr fun x hx => ?_
    obtain ⟨i, hi, _, rfl⟩ := mem_pick.mp (show x ∈ pick n (has d) from hx)
    exact hh _ hx (by omega) (by omega)
  · rintro ⟨d, hd, hm, s⟩
    refine ⟨_, hm, fun x hx _ _ => ?_⟩
    rw [← hold_sub hn hd hc] at s
    exact hold_iff.mp s x hx
theorem cont_up (hn : n ≤ 4) {fm : List (List Int)} (h : Coded n fm) {c d : Nat} (hc : c < 2 ^ n) (hd : d < 2 ^ n) (s : sub n c d = true) (t : cont n fm c = true) : cont n fm d = true := by
  obtain ⟨e, he, hm, s2⟩ := (cont_iff hn h hc).mp t
  exact (cont_iff hn h hd).mpr ⟨e, he, hm, sub_trans s2 s⟩
theorem le_iff (hn : n ≤ 4) {a b : List (List Int)} (ha : Coded n a) (hb : Coded n b) : le a b = true ↔ ∀ c, c < 2 ^ n → cont n a c = true → cont n b c = true := by
  unfold le
  rw [List.all_eq_true]
  constructor
  · intro h c hc t
    obtain ⟨d, hd, hm, s⟩ := (cont_iff hn ha hc).mp t
    exact cont_up hn hb hd hc s (h _ hm)
  · intro h m hm
    obtain ⟨d, hd, rfl⟩ := ha m hm
    exact h d hd ((cont_iff hn ha hd).mpr ⟨d, hd, hm, sub_refl hn hd⟩)
theorem every_codes (hn : n ≤ 4) (fm : List (List Int)) : every n fm = ((List.range (2 ^ n)).filter (cont n fm)).map fun (c : Nat) => lLot n (c : Int) := by
  unfold every
  rw [all_lot hn, List.filter_map]
  rfl
theorem cds_eq (hn : n ≤ 4) (fm : List (List Int)) : cds n fm = ((List.range (2 ^ n)).filter (cont n fm)).map fun (c : Nat) => (c : Int) := by
  unfold cds
  rw [every_codes hn, List.map_map]
  refine List.map_congr_left fun c hc => ?_
  exact code_lot hn (List.mem_range.mp (List.mem_filter.mp hc).1)
theorem coded_mid (hn : n ≤ 4) (h1 : 1 ≤ n) (p : List Int → Bool) : Coded n ((middle n).filter p ++ [up n]) := fun m hm => by
  rcases List.mem_append.mp hm with hm | hm
  · have hm := (List.mem_filter.mp hm).1
    rw [middle_lot hn h1] at hm
    obtain ⟨c, hc, rfl⟩ := List.mem_map.mp hm
    exact ⟨c, List.mem_range.mp (List.mem_filter.mp hc).1, rfl⟩
  · rw [List.mem_singleton] at hm
    exact ⟨2 ^ n - 1, by have := Nat.one_le_two_pow (n := n); omega, by rw [hm, up_lot hn]⟩
theorem mid_mem (hn : n ≤ 4) (h1 : 1 ≤ n) {c : Nat} (hc : c < 2 ^ n) : lLot n (c : Int) ∈ middle n ↔ mid n c = true := by
  rw [middle_lot hn h1]
  simp only [List.mem_map, List.mem_filter, List.mem_range]
  constructor
  · rintro ⟨a, ⟨h1, h2⟩, e⟩
    rw [← lot_inj hn h1 hc e]
    exact h2
  · intro h
    exact ⟨c, ⟨hc, h⟩, rfl⟩
/-- the family of an up-set of middle lots and the whole -/
theorem cont_mid (hn : n ≤ 4) (h1 : 1 ≤ n) {p : List Int → Bool} {S : Nat → Bool} (u : UpS n S) (hp : ∀ c, mid n c = true → p (lLot n (c : Int)) = S c) {c : Nat} (hc : c < 2 ^ n) : cont n (mkFam n ((middle n).filter p ++ [up n])) c = S c := by
  have p2 := pow_two h1
  rw [Bool.eq_iff_iff, cont_mk hn (coded_mid hn h1 p) hc]
  constructor
  · rintro ⟨d, hd, hm, s⟩
    rcases List.mem_append.mp hm with hm | hm
    · obtain ⟨a, b⟩ := List.mem_filter.mp hm
      have a := (mid_mem hn h1 hd).mp a
      exact u.up d c hd hc s (by rw [← hp d a]; exact b)
    · rw [List.mem_singleton, up_lot hn] at hm
      have := lot_inj hn hd (by omega) hm
      subst this
      rw [top_up hn hc s]
      exact u.w
  · intro h
    refine ⟨c, hc, List.mem_append.mpr ?_, sub_refl hn hc⟩
    by_cases e : c = 2 ^ n - 1
    · right
      rw [List.mem_singleton, up_lot hn, e]
    · left
      have m : mid n c = true := by
        by_cases z : c = 0
        · subst z
          rw [u.z] at h
          cases h
        · exact mid_iff.mpr ⟨by omega, by omega⟩
      exact List.mem_filter.mpr ⟨(mid_mem hn h1 hc).mpr m, by rw [hp c m]; exact h⟩
theorem must_mid {c : Nat} (h : mid raw.length c = true) : must raw sh c = decide (0 < gn raw sh c) := by
  have := mid_iff.mp h
  unfold must
  rw [h, decide_eq_false (show ¬ c = 2 ^ raw.length - 1 by omega)]
  simp
theorem may_mid {c : Nat} (h : mid raw.length c = true) : may raw sh c = decide (0 ≤ gn raw sh c) := by
  have := mid_iff.mp h
  unfold may
  rw [h, decide_eq_false (show ¬ c = 2 ^ raw.length - 1 by omega)]
  simp
theorem mid_lt {c : Nat} (h : mid n c = true) : c < 2 ^ n := by
  have := mid_iff.mp h
  omega
theorem least_cont (h : Inp raw sh) {c : Nat} (hc : c < 2 ^ raw.length) : cont raw.length (leastW (qsOf raw) (ratOf sh)) c = must raw sh c := by
  unfold leastW
  rw [qs_len]
  refine cont_mid h.n4 h.n1 (upS_must h) (fun c m => ?_) hc
  rw [must_mid m, decide_eq_decide]
  exact (pos_iff h (gain_gn h (mid_lt m))).1
theorem great_cont (h : Inp raw sh) {c : Nat} (hc : c < 2 ^ raw.length) : cont raw.length (greatW (qsOf raw) (ratOf sh)) c = may raw sh c := by
  unfold greatW
  rw [qs_len]
  refine cont_mid h.n4 h.n1 (upS_may h) (fun c m => ?_) hc
  rw [may_mid m, decide_eq_decide]
  exact (pos_iff h (gain_gn h (mid_lt m))).2.1
theorem least_coded (h : Inp raw sh) : Coded raw.length (leastW (qsOf raw) (ratOf sh)) := by
  unfold leastW
  rw [qs_len]
  exact coded_mk h.n4 _
theorem great_coded (h : Inp raw sh) : Coded raw.length (greatW (qsOf raw) (ratOf sh)) := by
  unfold greatW
  rw [qs_len]
  exact coded_mk h.n4 _
theorem mem_filter_cast {N : Nat} {S : Nat → Bool} {c : Nat} : (c : Int) ∈ ((List.range N).filter S).map (fun (c : Nat) => (c : Int)) ↔ c < N ∧ S c = true := by
  simp only [List.mem_map, List.mem_filter, List.mem_range]
  constructor
  · rintro ⟨a, ⟨h1, h2⟩, e⟩
    rw [show c = a by omega]
    exact ⟨h1, h2⟩
  · intro h
    exact ⟨c, h, rfl⟩
theorem filter_inj {N : Nat} {S T : Nat → Bool} (h : ((List.range N).filter S).map (fun (c : Nat) => (c : Int)) = ((List.range N).filter T).map fun (c : Nat) => (c : Int)) : ∀ c, c < N → S c = T c := fun c hc => by
  rw [Bool.eq_iff_iff]
  have a := mem_filter_cast (N := N) (S := S) (c := c)
  have b := mem_filter_cast (N := N) (S := T) (c := c)
  rw [h] at a
  constructor
  · intro z
    exact (b.mp (a.mpr ⟨hc, z⟩)).2
  · intro z
    exact (a.mp (b.mpr ⟨hc, z⟩)).2
theorem srt_set (hn : n ≤ 4) {row : List Int} (hr : RowOk n row) : srt row = ((List.range (2 ^ n)).filter (setOf row)).map fun (c : Nat) => (c : Int) := by
  symm
  refine sorted_eq ?_ (srt_lt row) ((set_perm hr).symm.trans (srt_perm hr hn))
  refine List.pairwise_map.mpr (List.Pairwise.imp ?_ (List.pairwise_lt_range.filter _))
  intro a b h
  omega
theorem set_srt (hn : n ≤ 4) {row : List Int} (hr : RowOk n row) (c : Nat) : setOf (srt row) c = setOf row c := by
  unfold setOf
  rw [decide_eq_decide]
  exact ((srt_perm hr hn).mem_iff).symm
/-- rows with the same codes are the same -/
theorem row_inj (hn : n ≤ 4) (h1 : 1 ≤ n) {a b : List Int} (ha : a ∈ families n) (hb : b ∈ families n) (h : ∀ c, c < 2 ^ n → setOf a c = setOf b c) : a = b := by
  rw [(row_set hn h1 ha).2, (row_set hn h1 hb).2]
  exact rowOf_congr hn h
theorem srt_inj (hn : n ≤ 4) (h1 : 1 ≤ n) {a b : List Int} (ha : a ∈ families n) (hb : b ∈ families n) (h : srt a = srt b) : a = b := by
  refine row_inj hn h1 ha hb fun c hc => ?_
  rw [← set_srt hn (row_ok hn ha), h, set_srt hn (row_ok hn hb)]
theorem found_mem (h : Inp raw sh) {r : List Int} (hr : r ∈ families raw.length) : srt r ∈ found raw sh ↔ Mid raw sh (setOf r) := by
  unfold found
  rw [List.mem_map]
  constructor
  · rintro ⟨a, ha, e⟩
    obtain ⟨h1, h2⟩ := List.mem_filter.mp ha
    rw [srt_inj h.n4 h.n1 h1 hr e] at h2
    exact (val_eq h hr).mp (of_decide_eq_true h2)
  · intro m
    exact ⟨r, List.mem_filter.mpr ⟨hr, decide_eq_true ((val_eq h hr).mpr m)⟩, rfl⟩
/-- a set between, as a row found -/
theorem found_set (h : Inp raw sh) {S : Nat → Bool} (u : UpS raw.length S) (m : Mid raw sh S) : ((List.range (2 ^ raw.length)).filter S).map (fun (c : Nat) => (c : Int)) ∈ found raw sh := by
  obtain ⟨a, b⟩ := mid_row h u m
  have e : srt (rowOf raw.length S) = ((List.range (2 ^ raw.length)).filter S).map (fun (c : Nat) => (c : Int)) := by
    rw [srt_set h.n4 (row_ok h.n4 a)]
    congr 1
    exact List.filter_congr fun c hc => set_rowOf h.n4 h.n1 u (List.mem_range.mp hc)
  rw [← e]
  exact List.mem_map.mpr ⟨_, List.mem_filter.mpr ⟨a, decide_eq_true b⟩, rfl⟩
theorem found_is (h : Inp raw sh) {x : List Int} (hx : x ∈ found raw sh) : ∃ r, r ∈ families raw.length ∧ UpS raw.length (setOf r) ∧ Mid raw sh (setOf r) ∧ x = ((List.range (2 ^ raw.length)).filter (setOf r)).map (fun (c : Nat) => (c : Int)) := by
  unfold found at hx
  obtain ⟨r, hr, rfl⟩ := List.mem_map.mp hx
  obtain ⟨h1, h2⟩ := List.mem_filter.mp hr
  exact ⟨r, h1, (row_set h.n4 h.n1 h1).1, (val_eq h h1).mp (of_decide_eq_true h2), srt_set h.n4 (row_ok h.n4 h1)⟩
theorem least_codes (h : Inp raw sh) : cds raw.length (leastW (qsOf raw) (ratOf sh)) = ((List.range (2 ^ raw.length)).filter fun (c : Nat) => (found raw sh).all fun row => decide ((c : Int) ∈ row)).map fun (c : Nat) => (c : Int) := by
  rw [cds_eq h.n4]
  congr 1
  refine List.filter_congr fun c hc => ?_
  have hc := List.mem_range.mp hc
  rw [least_cont h hc, Bool.eq_iff_iff, List.all_eq_true]
  constructor
  · intro m x hx
    obtain ⟨r, _, _, md, rfl⟩ := found_is h hx
    exact decide_eq_true (mem_filter_cast.mpr ⟨hc, (md c hc).1 m⟩)
  · intro a
    have := of_decide_eq_true (a _ (found_set h (upS_must h) (mid_must h)))
    exact (mem_filter_cast.mp this).2
theorem great_codes (h : Inp raw sh) : cds raw.length (greatW (qsOf raw) (ratOf sh)) = ((List.range (2 ^ raw.length)).filter fun (c : Nat) => (found raw sh).any fun row => decide ((c : Int) ∈ row)).map fun (c : Nat) => (c : Int) := by
  rw [cds_eq h.n4]
  congr 1
  refine List.filter_congr fun c hc => ?_
  have hc := List.mem_range.mp hc
  rw [great_cont h hc, Bool.eq_iff_iff, List.any_eq_true]
  constructor
  · intro m
    exact ⟨_, found_set h (upS_may h) (mid_may h), decide_eq_true (mem_filter_cast.mpr ⟨hc, m⟩)⟩
  · rintro ⟨x, hx, hm⟩
    obtain ⟨r, _, _, md, rfl⟩ := found_is h hx
    exact (md c hc).2 (mem_filter_cast.mp (of_decide_eq_true hm)).2
/-- is_best tells the rows found -/
theorem is_best_row (h : Inp raw sh) {fm : List (List Int)} (hf : Coded raw.length fm) {r : List Int} (hr : r ∈ families raw.length) (hc : ∀ c, c < 2 ^ raw.length → cont raw.length fm c = setOf r c) : (le (leastW (qsOf raw) (ratOf sh)) fm && le fm (greatW (qsOf raw) (ratOf sh))) = decide (srt r ∈ found raw sh) := by
  rw [Bool.eq_iff_iff, Bool.and_eq_true, le_iff h.n4 (least_coded h) hf, le_iff h.n4 hf (great_coded h), decide_eq_true_eq, found_mem h hr]
  constructor
  · rintro ⟨a, b⟩ c hl
    have a := a c hl
    have b := b c hl
    rw [hc c hl, least_cont h hl] at a
    rw [hc c hl, great_cont h hl] at b
    exact ⟨a, b⟩
  · intro m
    refine ⟨fun c hl => ?_, fun c hl => ?_⟩
    · rw [hc c hl, least_cont h hl]
      exact (m c hl).1
    · rw [hc c hl, great_cont h hl]
      exact (m c hl).2
end
end M
end
section
/-! Kd29: Chances.up, _law_codes. -/
namespace Kb
open PySem PySem.Spec PyProof.Rows L2 M
/-- the bounds that a family's walk asks -/
structure FamB (m : Nat) (ls : List (List Int)) : Prop where
  m1 : 1 ≤ m
  m8 : m ≤ 8
  l1 : ∀ x ∈ ls, x.length < 1000
  l2 : ls.length < 1000
def tLcEvX (K : PySem.W.Frag) (aF : Addr) (t0 : TE) (gg : TG) (te : TE) (vs : List Nat) : TE := fun σ H Q => ∃ m ls, FamB m ls ∧ tLcEv K aF m ls t0 gg te vs σ H Q
def tForEvX (K : PySem.W.Frag) (aF : Addr) (te : TE) (gg : TG) (tb : TS) : TS := fun D σ H => ∃ m ls, FamB m ls ∧ tForEv K aF m ls te gg tb D σ H
section
variable {P : Program} {w : World} {K : PySem.W.Frag} {mg : Str → Option Value} {base : Heap} {aR aC aF : Addr} {s1 s2 s3 : Sp}
/-- what the call of every leans on -/
structure EvK (P : Program) (w : World) (K : PySem.W.Frag) (mg : Str → Option Value) (base : Heap) (aF : Addr) : Prop where
  ga : GF P w K mg base 3 "all_lots" (Pr (Rall_lots K))
  gc : TF P w K mg base 2 aF "contains" (Pr (Rcontains K aF))
  kf : KFam K mg aF
  dm : DfM K aF "every" "Family.every" stE
abbrev N_Chances_up : List Str := ["self", "family", "lot"]
theorem N_Chances_up_nd : (N_Chances_up).Nodup := by decide +kernel
theorem sc_Chances_up : FnScope N_Chances_up ["self", "family"] (defScope (cdef 34 9)) := ⟨rfl, rfl, rfl, N_Chances_up_nd, rfl, by decide +kernel, by decide +kernel⟩
abbrev t_Chances_up (K : PySem.W.Frag) (aC aF : Addr) (s1 s2 : Sp) : TS := (tSeq (tIfS (tTest (tOp rNe (tFld K (tVar 1) "copies") (tCB (rLenS K) (tCons (tFld K (tVar 0) "ratios") tNil)))) tNever tNext) (tRet (tCl s1 (tCons (tLcEvX K aF (tVar 1) (gName 2) (tMt aC "chance_of" s2 (tVar 0) (tCons (tVar 2) tNil)) [2]) tNil))))
theorem rd_Chances_up (B : Bi mg) (ev : EvK P w K mg base aF) (g1 : GF P w K mg base 7 "total" s1) (t2 : TF P w K mg base 5 aC "chance_of" s2) {f : Addr} {cdv : Value} {A : Around} {outer : List Env} {s : Shared} {H : Hp} {E : XK} (hr : Room 7 (A.deeper (envOfC "Chances.up" (defScope (cdef 34 9)) s.heap.objs.size f cdv))) : PSs (cxOf CX0 P w K mg base N_Chances_up "Chances.up" (defScope (cdef 34 9)) f cdv A outer s H E) (defBody (cdef 34 9)) (t_Chances_up K aC aF s1 s2) := by
  exact PSs.nox (pss_cons (ps_if (pt_cmpR op_ne (pe_fld (pv 1) rfl) (pe_callB call_len_seq (by rfl) B.len bb_len (pa_cons (pe_fld (pv 0) rfl) pa_nil)) (nomark _)) pss_never pss_nil) (pss_one (ps_ret (pe_g g1 hr (by decide) (by rfl) (pa_cons (⟨fun pins st σ H Q I ⟨m, ls, fb, h⟩ => (pe_lcEv (own := [("lot", 2)]) (gg := gName 2) (te := (tMt aC "chance_of" s2 (tVar 0) (tCons (tVar 2) tNil))) (fun _ _ z => z) N_Chances_up_nd (hr.mono (by decide)) ev.ga ev.gc ev.kf ev.dm fb.m1 fb.m8 fb.l1 fb.l2 (pv 1) (blkOk_by (by kernel_rfl)) (by decide +kernel) (fun _ _ _ _ _ => (pg_name (i := 2) N_Chances_up_nd rfl (by first | exact Or.inl rfl | exact Or.inr rfl))) (fun _ _ _ _ _ => (pe_t (pv 0) t2 hr (by decide) (pa_cons (pv 2) pa_nil)))).run pins st σ H Q I h⟩) pa_nil)))))
theorem fn_up (B : Bi mg) (ev : EvK P w K mg base aF) (kc : KCh K mg aC) (gt : GF P w K mg base 7 "total" (Pr (Rtotal aR))) (t2 : TF P w K mg base 5 aC "chance_of" (Pr (Rchance_of K aC aR))) (D : DfM K aC "up" "Chances.up" (cdef 34 9)) : TF P w K mg base 8 aC "up" (Pr (Rup K aF aC aR)) :=
  tf_of kc.cl D sc_Chances_up (fun _ _ h => by cases h; rfl) (fun _ _ _ _ _ _ us h => match us, h with | [_, _], _ => rfl) (fun _ _ _ _ _ _ _ hr => rd_Chances_up B ev gt t2 hr) fun xs z h => by
    cases h with
    | @mk qs ls h1 h4 hc l1 l2 =>
      have hz := every_len (n := qs.length) ls
      have hp := pow_le16 h4
      refine (sr_seq (sb_not (et_is (et_test (ed_op (ed_fld (ed_var rfl) ev.kf.cl ev.kf.copies rfl) (ed_cb (ea_cons (ed_fld (ed_var rfl) kc.cl kc.ratios rfl) ea_nil) cd_lenT) od_nei)) ?_))
    (sr_ret (ed_is (ed_call (ea_cons (ed_is (EO.ed (fun σ Hb H Q e o q => ⟨qs.length, ls, ⟨h1, by omega, l1, by omega⟩, eo_lcEv (fun l => ratD aR (prob qs l)) (ed_var rfl) (by omega) (by decide) (fun l hl => ed_meth (ed_var rfl) rfl (ea_cons (ed_var rfl) ea_nil) (.mk (by omega) hc)) σ Hb H Q e o q⟩)) (show _ = dl (((every qs.length ls).map (prob qs)).map fun q => ratD aR q) from by rw [List.map_map]; rfl)) ea_nil) (.mk (c := 17) (fun q hq => ?_) ?_ (by decide))) rfl)))
      · simp
      · obtain ⟨l, _, rfl⟩ := List.mem_map.mp hq
        exact (prob_bd hc l).mono (by omega)
      · rw [List.length_map]
        omega
abbrev N_law_codes : List Str := ["_law_family_here", "_law_found", "_law_lot_here", "_law_copy"]
theorem N_law_codes_nd : (N_law_codes).Nodup := by decide +kernel
theorem sc_law_codes : FnScope N_law_codes ["_law_family_here"] (defScope (top 77)) := ⟨rfl, rfl, rfl, N_law_codes_nd, rfl, by decide +kernel, by decide +kernel⟩
abbrev t_law_codesB (K : PySem.W.Frag) (s2 : Sp) : TS := (tDrop (tBM K "list" rAppend (tVar 1) (tCons (tCB (rSum K) (tCons (tLc (iTup K (tVar 2)) (gName 3) tYes (tCl s2 (tCons (tVar 3) tNil)) [3]) tNil)) tNil)))
abbrev t_law_codes (K : PySem.W.Frag) (aF : Addr) (s2 : Sp) : TS := (tSeq (tAsg (tLst tNil) (gName 1)) (tSeq (tForEvX K aF (tVar 0) (gName 2) (t_law_codesB K s2)) (tRet (tVar 1))))
theorem rd_law_codes (B : Bi mg) (ev : EvK P w K mg base aF) (g2 : GF P w K mg base 1 "_law_power" s2) {f : Addr} {cdv : Value} {A : Around} {outer : List Env} {s : Shared} {H : Hp} {E : XK} (hr : Room 5 (A.deeper (envOfC "_law_codes" (defScope (top 77)) s.heap.objs.size f cdv))) : PSs (cxOf CX0 P w K mg base N_law_codes "_law_codes" (defScope (top 77)) f cdv A outer s H E) (defBody (top 77)) (t_law_codes K aF s2) := by
  exact PSs.nox (pss_cons (ps_set (i := 1) N_law_codes_nd rfl (by first | exact Or.inl rfl | exact Or.inr rfl) (pe_lst pa_nil)) (pss_cons ⟨fun pins st σ H D I ⟨m, ls, fb, h⟩ => (ps_forEv (gg := gName 2) (tb := t_law_codesB K s2) (fun _ _ z => z) hr ev.ga ev.gc ev.kf ev.dm fb.m1 fb.m8 fb.l1 fb.l2 (pv 0) (pg_name (i := 2) N_law_codes_nd rfl (by first | exact Or.inl rfl | exact Or.inr rfl)) (pss_one (ps_expr (pe_bm PySem.F.plainAttrs_list PySem.F.slot_list_append PySem.F.type_list_append mt_append (pv 1) (pa_cons (pe_callB (cr_sum rfl) (by rfl) B.sum bb_sum (pa_cons (pe_lc (own := [("_law_copy", 3)]) (g := (gName 3)) (tt := tYes) (te := (tCl s2 (tCons (tVar 3) tNil))) rfl N_law_codes_nd (pi_tup (pv 2)) (blkOk_by (by kernel_rfl)) (fun _ _ _ _ _ => (pg_name (i := 3) N_law_codes_nd rfl (by first | exact Or.inl rfl | exact Or.inr rfl))) (fun _ _ _ _ _ => pts_nil) (fun _ _ _ _ _ => (pe_g g2 hr (by decide) (by rfl) (pa_cons (pv 3) pa_nil)))) pa_nil)) pa_nil))))).run pins st σ H D I h⟩ (pss_one (ps_ret (pv 1)))))
inductive Rlaw_codes (K : PySem.W.Frag) (aF : Addr) : List D → D → Prop
  | mk {n : Nat} {ls : List (List Int)} : 1 ≤ n → n ≤ 4 → (∀ m ∈ ls, m.length < 1000) → ls.length ≤ 256 → Rlaw_codes K aF [famD K aF n ls] (intsL (cds n ls))
theorem fn_law_codes (B : Bi mg) (ev : EvK P w K mg base aF) (g2 : GF P w K mg base 1 "_law_power" (Pr Rlaw_power)) (Df : DfG K mg "_law_codes" (top 77)) : GF P w K mg base 6 "_law_codes" (Pr (Rlaw_codes K aF)) :=
  gf_of Df sc_law_codes (fun _ _ h => by cases h; rfl) (fun _ _ _ _ _ _ us h => match us, h with | [_], _ => rfl) (fun _ _ _ _ _ _ _ hr => rd_law_codes B ev g2 hr) fun xs z h => by
    cases h with
    | @mk n ls h1 h4 l1 l2 =>
      have hz := every_len (n := n) ls
      have hp := pow_le16 h4
      let cd := fun (l : List Int) => codeOf l
      refine (sr_seq (sb_own (eo_lst ea_nil rfl))
    (sr_seq (env' := [.d (famD K aF n ls), .own (((every n ls).map cd).map fun i => di i), .no, .no]) (sb_eq (fun Hb0 H0 σ Hb H D o k => ⟨n, ls, ⟨h1, by omega, l1, by omega⟩, sb_forEv (fun i => [.d (famD K aF n ls), .own ((((every n ls).take i).map cd).map fun i => di i), .no, .no]) (ed_var rfl) (.eq (.eq (.no (.no .nil)))) _ (fun i l hl => tj_name) (fun i l hl => sb_fg (sb_app rfl (ed_cb (ea_cons (EO.ed (eo_T0 l (fun c => di c) (fun c => di ((2 : Int) ^ c.toNat)) (ed_var rfl) ?_ (by decide) fun c hc => ed_is (ed_call (ea_cons (ed_is (ed_var rfl) ?_) ea_nil) (Rlaw_power.mk (n := c.toNat) ?_)) rfl)) ea_nil) cd_sumF) ?_) ?_) Hb0 H0 σ Hb H D o k⟩) (by rw [List.take_length]))
    (sr_keep 1 rfl (sr_ret (ed_is (ed_var rfl) (show _ = intsL (cds n ls) from rfl))))))
      all_goals have hm := allLots_mem l (List.mem_filter.mp (List.mem_of_getElem? hl)).1
      · omega
      · rw [Int.toNat_of_nonneg (hm.2 c hc).1]
      · have := hm.2 c hc
        omega
      · rw [List.length_map, List.length_map, List.length_take]
        omega
      · have e : (((every n ls).take (i + 1)).map cd).map (fun i => di i) = (((every n ls).take i).map cd).map (fun i => di i) ++ [di (l.map fun c => (2 : Int) ^ c.toNat).sum] := by
          rw [List.take_add_one, hl, List.map_append, List.map_append]
          rfl
        rw [e]
        exact .eq (.eq (.no (.no .nil)))
end
end Kb
end
section
/-! K36: sorted texts are one; the text of a short list of codes. -/
namespace Kb
open PySem PySem.Spec PyProof.Rows L2
def leS (a b : Str) : Prop := a.cps.toList ≤ b.cps.toList
theorem le_of_cps {x p : Str} (h : (!ltCps x.cps.toList p.cps.toList) = true) : leS p x := by
  rw [ltCps_eq] at h
  have : ¬ x.cps.toList < p.cps.toList := by simpa using h
  exact List.not_lt.mp this
theorem cps_of_le {x p : Str} (h : leS p x) : ltCps x.cps.toList p.cps.toList = false := by
  rw [ltCps_eq]
  exact decide_eq_false (List.not_lt.mpr h)
theorem leS_trans {a b c : Str} (h : leS a b) (h2 : leS b c) : leS a c := List.le_trans h h2
theorem leS_anti {a b : Str} (h : leS a b) (h2 : leS b a) : a = b := by
  have := List.le_antisymm h h2
  obtain ⟨x⟩ := a
  obtain ⟨y⟩ := b
  have : x = y := Array.toList_inj.mp this
  rw [this]
theorem leS_total (a b : Str) : leS a b ∨ leS b a := List.le_total _ _
theorem rising_pw : ∀ (l : List Str) (p : Str), risingS p l = true → (∀ x ∈ l, leS p x) ∧ l.Pairwise leS
  | [], _, _ => ⟨fun _ h => by simp at h, .nil⟩
  | x :: r, p, h => by
    have h : (!ltCps x.cps.toList p.cps.toList && risingS x r) = true := h
    rw [Bool.and_eq_true] at h
    have l := le_of_cps h.1
    obtain ⟨a, b⟩ := rising_pw r x h.2
    refine ⟨fun y hy => ?_, List.pairwise_cons.mpr ⟨a, b⟩⟩
    rcases List.mem_cons.mp hy with e | hy
    · rw [e]
      exact l
    · exact leS_trans l (a y hy)
theorem sorted_pw {l : List Str} (h : sortedS l = true) : l.Pairwise leS := by
  cases l with
  | nil => exact .nil
  | cons x r =>
    obtain ⟨a, b⟩ := rising_pw r x h
    exact List.pairwise_cons.mpr ⟨a, b⟩
theorem sorted_one {m l : List Str} (p : m.Perm l) (hm : sortedS m = true) (hl : sortedS l = true) : m = l :=
  List.Perm.eq_of_pairwise (le := leS) (fun a b _ _ h1 h2 => leS_anti h1 h2) (sorted_pw hm) (sorted_pw hl) p
/-- texts in order -/
theorem sorted_some (l : List Str) : ∃ m : List Str, m.Perm l ∧ sortedS m = true := by
  refine ⟨l.mergeSort fun a b => !ltCps b.cps.toList a.cps.toList, List.mergeSort_perm .., ?_⟩
  refine sortedS_of_pairwise _ ?_
  have := List.pairwise_mergeSort (le := fun (a b : Str) => !ltCps b.cps.toList a.cps.toList) (fun a b c h1 h2 => by
    have := cps_of_le (leS_trans (le_of_cps h1) (le_of_cps h2))
    rw [this]
    rfl) (fun a b => by
    rcases leS_total a b with h | h
    · rw [cps_of_le h]
      rfl
    · rw [cps_of_le h]
      simp) l
  exact this.imp fun h => by simpa using h
theorem int_len : ∀ i : Fin 16, (PyData.shown (.int (i.val : Int))).length ≤ 8 := by decide +kernel
theorem short_all : ∀ l : List Int, (∀ i ∈ l, 0 ≤ i ∧ i < 16) → PyData.leavesShortAll 8 (l.map PyData.int) = true ∧ PyData.bulkAll (l.map PyData.int) ≤ 2 * l.length
  | [], _ => by simp [PyData.leavesShortAll, PyData.bulkAll]
  | a :: l, h => by
    obtain ⟨h1, h2⟩ := short_all l fun i hi => h i (List.mem_cons_of_mem _ hi)
    have ha := h a (List.mem_cons_self ..)
    have q := int_len ⟨a.toNat, by omega⟩
    rw [show ((⟨a.toNat, by omega⟩ : Fin 16).val : Int) = a from Int.toNat_of_nonneg ha.1] at q
    simp only [List.map_cons, PyData.leavesShortAll, PyData.leavesShort, PyData.bulkAll, PyData.bulk, Bool.and_eq_true, decide_eq_true_eq, List.length_cons]
    exact ⟨⟨q, h1⟩, by omega⟩
theorem txt_len {l : List Int} (h : ∀ i ∈ l, 0 ≤ i ∧ i < 16) (hl : l.length ≤ 100) : (txtL l).length ≤ sizeLine := by
  obtain ⟨h1, h2⟩ := short_all l h
  have := PyData.shown_le_bulk 8 (Nat.le_refl _) (.list (l.map PyData.int)) (by simpa only [PyData.leavesShort] using h1)
  unfold txtL
  refine Nat.le_trans this ?_
  simp only [PyData.bulk]
  show _ ≤ 2 ^ 24
  omega
end Kb
end
section
set_option maxRecDepth 20000
/-! M18: the sets that grow are the level ones of the best rows. -/
namespace M
/-- S has, with a lot of L, all larger ones -/
def Closed (ls L : List (List Int)) (S : List Int → Bool) : Prop := ∀ l ∈ L, S l = true → ∀ o ∈ larger ls l, S o = true
theorem nodup_map {α β : Type} {f : α → β} : ∀ {l : List α}, l.Nodup → (∀ a ∈ l, ∀ b ∈ l, f a = f b → a = b) → (l.map f).Nodup
  | [], _, _ => List.nodup_nil
  | x :: r, h, hf => by
    rw [List.map_cons, List.nodup_cons]
    obtain ⟨h1, h2⟩ := List.nodup_cons.mp h
    refine ⟨fun hm => ?_, nodup_map h2 fun a ha b hb => hf a (List.mem_cons_of_mem _ ha) b (List.mem_cons_of_mem _ hb)⟩
    obtain ⟨y, hy, e⟩ := List.mem_map.mp hm
    have := hf y (List.mem_cons_of_mem _ hy) x (List.mem_cons_self ..) e
    rw [this] at hy
    exact h1 hy
structure Grown (ls A : List (List Int)) (found : List (List (List Int))) : Prop where
  nd : found.Nodup
  mem : ∀ ch, ch ∈ found ↔ ∃ S, Closed ls A S ∧ ch = A.filter S
theorem grown_step {ls A : List (List Int)} {l : List Int} {found : List (List (List Int))} (g : Grown ls A found) (hn : l ∉ A) (ho : ∀ o ∈ larger ls l, o ∈ A) (hp : ∀ a ∈ A, l ∉ larger ls a) : Grown ls (A ++ [l]) (growOne ls found l) := by
  have nl : ∀ ch ∈ found, l ∉ ch := fun ch hc hl => by
    obtain ⟨S, _, rfl⟩ := (g.mem ch).mp hc
    exact hn (List.mem_filter.mp hl).1
  constructor
  · unfold growOne
    rw [List.nodup_append]
    refine ⟨g.nd, nodup_map (g.nd.filter _) fun a _ b _ e => List.append_cancel_right e, ?_⟩
    intro a ha b hb e
    subst e
    obtain ⟨c, _, rfl⟩ := List.mem_map.mp hb
    exact nl _ ha (List.mem_append.mpr (.inr (List.mem_singleton.mpr rfl)))
  · intro ch
    unfold growOne
    rw [List.mem_append, List.mem_map]
    constructor
    · rintro (hc | ⟨d, hd, rfl⟩)
      · obtain ⟨S, cl, rfl⟩ := (g.mem ch).mp hc
        refine ⟨fun x => S x && !decide (x = l), fun x hx hs o hox => ?_, ?_⟩
        · rw [Bool.and_eq_true] at hs ⊢
          rcases List.mem_append.mp hx with hx | hx
          · refine ⟨cl x hx hs.1 o hox, ?_⟩
            have : o ≠ l := fun e => hp x hx (e ▸ hox)
            simp [this]
          · rw [List.mem_singleton] at hx
            rw [hx] at hs
            simp at hs
        · rw [List.filter_append, List.filter_cons, if_neg (by simp), List.filter_nil, List.append_nil]
          refine List.filter_congr fun x hx => ?_
          have : x ≠ l := fun e => hn (e ▸ hx)
          simp [this]
      · obtain ⟨h1, h2⟩ := List.mem_filter.mp hd
        obtain ⟨S, cl, rfl⟩ := (g.mem d).mp h1
        refine ⟨fun x => S x || decide (x = l), fun x hx hs o hox => ?_, ?_⟩
        · rw [Bool.or_eq_true]
          by_cases e : x = l
          · left
            rw [e] at hox
            exact (List.mem_filter.mp (of_decide_eq_true (List.all_eq_true.mp h2 o hox))).2
          · rcases List.mem_append.mp hx with hx | hx
            · left
              refine cl x hx ?_ o hox
              simpa [e] using hs
            · exact absurd (List.mem_singleton.mp hx) e
        · rw [List.filter_append, List.filter_cons, if_pos (by simp), List.filter_nil]
          congr 1
          refine List.filter_congr fun x hx => ?_
          have : x ≠ l := fun e => hn (e ▸ hx)
          simp [this]
    · rintro ⟨S, cl, rfl⟩
      have clA : Closed ls A S := fun x hx => cl x (List.mem_append.mpr (.inl hx))
      by_cases hs : S l = true
      · right
        refine ⟨A.filter S, List.mem_filter.mpr ⟨(g.mem _).mpr ⟨S, clA, rfl⟩, ?_⟩, ?_⟩
        · rw [List.all_eq_true]
          intro o hox
          exact decide_eq_true (List.mem_filter.mpr ⟨ho o hox, cl l (List.mem_append.mpr (.inr (List.mem_singleton.mpr rfl))) hs o hox⟩)
        · rw [List.filter_append, List.filter_cons, if_pos hs, List.filter_nil]
      · left
        rw [List.filter_append, List.filter_cons, if_neg hs, List.filter_nil, List.append_nil]
        exact (g.mem _).mpr ⟨S, clA, rfl⟩
theorem grown_fold {ls : List (List Int)} : ∀ (B A : List (List Int)) (found : List (List (List Int))), (A ++ B).Nodup → (∀ X l Y, A ++ B = X ++ l :: Y → ∀ o ∈ larger ls l, o ∈ X) → Grown ls A found → Grown ls (A ++ B) (B.foldl (growOne ls) found)
  | [], A, found, _, _, g => by rw [List.append_nil]; exact g
  | l :: B, A, found, nd, ho, g => by
    rw [List.foldl_cons, show A ++ l :: B = (A ++ [l]) ++ B by simp]
    rw [show A ++ l :: B = (A ++ [l]) ++ B by simp] at nd
    refine grown_fold B (A ++ [l]) _ nd (fun X x Y e => ho X x Y (by rw [← e]; simp)) (grown_step g ?_ (ho A l B rfl) fun a ha hl => ?_)
    · intro hm
      have := (List.nodup_append.mp (List.nodup_append.mp nd).1).2.2 l hm l (List.mem_singleton.mpr rfl)
      exact this rfl
    · obtain ⟨X, Y, e⟩ := List.append_of_mem ha
      have := ho X a (Y ++ l :: B) (by rw [e]; simp) l hl
      have nd2 := (List.nodup_append.mp (List.nodup_append.mp nd).1).2.2 l (by rw [e]; exact List.mem_append.mpr (.inl this)) l (List.mem_singleton.mpr rfl)
      exact nd2 rfl
def order (ls : List (List Int)) : List (List Int) := (byLen ls).reverse
theorem order_mem {ls : List (List Int)} {l : List Int} : l ∈ order ls ↔ l ∈ ls := by
  unfold order byLen
  rw [List.mem_reverse, List.mem_mergeSort]
theorem order_nodup {ls : List (List Int)} (h : ls.Nodup) : (order ls).Nodup := by
  unfold order byLen
  exact (List.reverse_perm _).nodup_iff.mpr ((List.mergeSort_perm ls _).nodup_iff.mpr h)
theorem order_desc (ls : List (List Int)) : (order ls).Pairwise fun a b => b.length ≤ a.length := by
  unfold order byLen
  rw [List.pairwise_reverse]
  have := List.pairwise_mergeSort (le := fun (a b : List Int) => decide (a.length ≤ b.length)) (fun a b c h1 h2 => by simp at h1 h2 ⊢; omega) (fun a b => by simp; omega) ls
  exact this.imp fun h => by simpa using h
theorem growing_is {ls : List (List Int)} (h : ls.Nodup) (hn : ∀ l ∈ ls, Norm l) : Grown ls (order ls) (growing ls) := by
  have := grown_fold (ls := ls) (order ls) [] [[]] (by simpa using order_nodup h) ?_ ⟨by simp, fun ch => ?_⟩
  · exact this
  · intro X l Y e o ho
    rw [List.nil_append] at e
    obtain ⟨o1, o2⟩ := List.mem_filter.mp ho
    have o2 := Bool.and_eq_true_iff.mp o2
    have ne : o ≠ l := by simpa using o2.1
    have lm : l ∈ ls := order_mem.mp (by rw [e]; simp)
    have lt := sub_len (hn o o1) (hn l lm) (hold_iff.mp o2.2) (fun z => ne z.symm)
    have om : o ∈ order ls := order_mem.mpr o1
    rw [e] at om
    rcases List.mem_append.mp om with om | om
    · exact om
    · rcases List.mem_cons.mp om with om | om
      · exact absurd om ne
      · have d := order_desc ls
        rw [e, List.pairwise_append] at d
        have := (List.pairwise_cons.mp d.2.1).1 o om
        omega
  · simp only [List.mem_singleton, List.filter_nil]
    constructor
    · intro e
      exact ⟨fun _ => false, fun l hl => by simp at hl, e⟩
    · rintro ⟨_, _, e⟩
      exact e
section
variable {raw : List (Int × Int)} {sh : Int × Int} {n : Nat}
def lev (raw : List (Int × Int)) (sh : Int × Int) (c : Nat) : Bool := mid raw.length c && decide (gn raw sh c = 0)
theorem lev_iff {c : Nat} : lev raw sh c = true ↔ mid raw.length c = true ∧ gn raw sh c = 0 := by
  unfold lev
  simp
theorem level_eq (h : Inp raw sh) : levelL (qsOf raw) (ratOf sh) = ((List.range (2 ^ raw.length)).filter (lev raw sh)).map fun (c : Nat) => lLot raw.length (c : Int) := by
  unfold levelL
  rw [qs_len, middle_lot h.n4 h.n1, filter_lots (q := fun c => decide (gn raw sh c = 0)) fun c hc _ => ?_]
  · rfl
  · rw [decide_eq_decide, ← (pos_iff h (gain_gn h hc)).2.2]
    exact Rat.num_eq_zero
theorem level_mem (h : Inp raw sh) {c : Nat} (hc : c < 2 ^ raw.length) : lLot raw.length (c : Int) ∈ levelL (qsOf raw) (ratOf sh) ↔ lev raw sh c = true := by
  rw [level_eq h]
  simp only [List.mem_map, List.mem_filter, List.mem_range]
  constructor
  · rintro ⟨a, ⟨h1, h2⟩, e⟩
    rw [← lot_inj h.n4 h1 hc e]
    exact h2
  · intro z
    exact ⟨c, ⟨hc, z⟩, rfl⟩
theorem level_is (h : Inp raw sh) {l : List Int} (hl : l ∈ levelL (qsOf raw) (ratOf sh)) : ∃ c, c < 2 ^ raw.length ∧ lev raw sh c = true ∧ l = lLot raw.length (c : Nat) := by
  rw [level_eq h] at hl
  obtain ⟨c, hc, rfl⟩ := List.mem_map.mp hl
  obtain ⟨h1, h2⟩ := List.mem_filter.mp hc
  exact ⟨c, List.mem_range.mp h1, h2, rfl⟩
theorem level_nodup (h : Inp raw sh) : (levelL (qsOf raw) (ratOf sh)).Nodup := by
  rw [level_eq h]
  refine nodup_map (List.nodup_range.filter _) fun a ha b hb e => ?_
  exact lot_inj h.n4 (List.mem_range.mp (List.mem_filter.mp ha).1) (List.mem_range.mp (List.mem_filter.mp hb).1) e
theorem level_norm (h : Inp raw sh) : ∀ l ∈ levelL (qsOf raw) (ratOf sh), Norm l := fun l hl => by
  obtain ⟨c, _, _, rfl⟩ := level_is h hl
  exact norm_pick (by have := h.n4; omega) _
/-- the set of codes of a choice of level lots -/
def setC (raw : List (Int × Int)) (sh : Int × Int) (S : List Int → Bool) (c : Nat) : Bool := must raw sh c || (lev raw sh c && S (lLot raw.length (c : Int)))
theorem setC_iff {S : List Int → Bool} {c : Nat} : setC raw sh S c = true ↔ must raw sh c = true ∨ (lev raw sh c = true ∧ S (lLot raw.length (c : Int)) = true) := by
  unfold setC
  simp
theorem lev_may {c : Nat} (h : lev raw sh c = true) : may raw sh c = true := by
  obtain ⟨a, b⟩ := lev_iff.mp h
  exact may_iff.mpr (.inr ⟨a, by omega⟩)
theorem lev_not {c : Nat} (h : lev raw sh c = true) : must raw sh c = false := by
  obtain ⟨a, b⟩ := lev_iff.mp h
  rw [must_mid a, b]
  rfl
theorem may_split {c : Nat} (h : may raw sh c = true) : must raw sh c = true ∨ lev raw sh c = true := by
  rcases may_iff.mp h with h | ⟨h, g⟩
  · exact .inl (must_iff.mpr (.inl h))
  · by_cases z : gn raw sh c = 0
    · exact .inr (lev_iff.mpr ⟨h, z⟩)
    · exact .inl (must_iff.mpr (.inr ⟨h, by omega⟩))
theorem lev_larger (h : Inp raw sh) {c d : Nat} (hc : c < 2 ^ raw.length) (hd : d < 2 ^ raw.length) (ld : lev raw sh d = true) (s : sub raw.length c d = true) (ne : c ≠ d) : lLot raw.length (d : Int) ∈ larger (levelL (qsOf raw) (ratOf sh)) (lLot raw.length (c : Int)) := by
  refine List.mem_filter.mpr ⟨(level_mem h hd).mpr ld, ?_⟩
  rw [Bool.and_eq_true, hold_sub h.n4 hc hd]
  refine ⟨?_, s⟩
  have : lLot raw.length (d : Int) ≠ lLot raw.length (c : Int) := fun e => ne (lot_inj h.n4 hd hc e).symm
  simp [this]
theorem setC_up (h : Inp raw sh) {S : List Int → Bool} (cl : Closed (levelL (qsOf raw) (ratOf sh)) (order (levelL (qsOf raw) (ratOf sh))) S) : UpS raw.length (setC raw sh S) := by
  have um := upS_must h
  refine ⟨setC_iff.mpr (.inl um.w), ?_, fun c d hc hd s t => ?_⟩
  · rw [Bool.eq_false_iff]
    intro z
    rcases setC_iff.mp z with z | ⟨z, _⟩
    · rw [um.z] at z
      cases z
    · have := (lev_iff.mp z).1
      rw [not_mid0] at this
      cases this
  · rcases setC_iff.mp t with t | ⟨t, t2⟩
    · exact setC_iff.mpr (.inl (um.up c d hc hd s t))
    · rcases may_split ((upS_may h).up c d hc hd s (lev_may t)) with e | e
      · exact setC_iff.mpr (.inl e)
      · refine setC_iff.mpr (.inr ⟨e, ?_⟩)
        by_cases ne : c = d
        · rw [← ne]
          exact t2
        · exact cl _ (order_mem.mpr ((level_mem h hc).mpr t)) t2 _ (lev_larger h hc hd e s ne)
theorem setC_mid (h : Inp raw sh) (S : List Int → Bool) : Mid raw sh (setC raw sh S) := fun c hc => ⟨fun m => setC_iff.mpr (.inl m), fun t => by
  rcases setC_iff.mp t with t | t
  · exact must_may t
  · exact lev_may t.1⟩
theorem choice_mem (h : Inp raw sh) {S : List Int → Bool} {c : Nat} (hc : c < 2 ^ raw.length) : lLot raw.length (c : Int) ∈ (order (levelL (qsOf raw) (ratOf sh))).filter S ↔ lev raw sh c = true ∧ S (lLot raw.length (c : Int)) = true := by
  rw [List.mem_filter, order_mem, level_mem h hc]
theorem choice_coded (h : Inp raw sh) (S : List Int → Bool) : Coded raw.length (leastW (qsOf raw) (ratOf sh) ++ (order (levelL (qsOf raw) (ratOf sh))).filter S) := fun m hm => by
  rcases List.mem_append.mp hm with hm | hm
  · exact least_coded h m hm
  · obtain ⟨c, hc, _, e⟩ := level_is h (order_mem.mp (List.mem_filter.mp hm).1)
    exact ⟨c, hc, e⟩
/-- the family of a choice -/
theorem cont_choice (h : Inp raw sh) {S : List Int → Bool} (cl : Closed (levelL (qsOf raw) (ratOf sh)) (order (levelL (qsOf raw) (ratOf sh))) S) {c : Nat} (hc : c < 2 ^ raw.length) : cont raw.length (mkFam raw.length (leastW (qsOf raw) (ratOf sh) ++ (order (levelL (qsOf raw) (ratOf sh))).filter S)) c = setC raw sh S c := by
  rw [Bool.eq_iff_iff, cont_mk h.n4 (choice_coded h S) hc]
  constructor
  · rintro ⟨d, hd, hm, s⟩
    refine (setC_up h cl).up d c hd hc s ?_
    rcases List.mem_append.mp hm with hm | hm
    · refine setC_iff.mpr (.inl ?_)
      rw [← least_cont h hd]
      exact (cont_iff h.n4 (least_coded h) hd).mpr ⟨d, hd, hm, sub_refl h.n4 hd⟩
    · exact setC_iff.mpr (.inr ((choice_mem h hd).mp hm))
  · intro t
    rcases setC_iff.mp t with t | t
    · rw [← least_cont h hc] at t
      obtain ⟨d, hd, hm, s⟩ := (cont_iff h.n4 (least_coded h) hc).mp t
      exact ⟨d, hd, List.mem_append.mpr (.inl hm), s⟩
    · exact ⟨c, hc, List.mem_append.mpr (.inr ((choice_mem h hc).mpr t)), sub_refl h.n4 hc⟩
theorem cds_choice (h : Inp raw sh) {S : List Int → Bool} (cl : Closed (levelL (qsOf raw) (ratOf sh)) (order (levelL (qsOf raw) (ratOf sh))) S) : cds raw.length (mkFam raw.length (leastW (qsOf raw) (ratOf sh) ++ (order (levelL (qsOf raw) (ratOf sh))).filter S)) = ((List.range (2 ^ raw.length)).filter (setC raw sh S)).map fun (c : Nat) => (c : Int) := by
  rw [cds_eq h.n4]
  exact congrArg (List.map fun (c : Nat) => (c : Int)) (List.filter_congr fun c hc => cont_choice h cl (List.mem_range.mp hc))
def codesOf (raw : List (Int × Int)) (sh : Int × Int) (ch : List (List Int)) : List Int := cds raw.length (mkFam raw.length (leastW (qsOf raw) (ratOf sh) ++ ch))
theorem found_nodup (h : Inp raw sh) : (found raw sh).Nodup := by
  have f : (families raw.length).Nodup := f_nodup ⟨raw.length, by have := h.n4; omega⟩
  unfold found
  refine nodup_map (List.Pairwise.filter _ f) fun a ha b hb e => ?_
  exact srt_inj h.n4 h.n1 (List.mem_filter.mp ha).1 (List.mem_filter.mp hb).1 e
theorem best_perm (h : Inp raw sh) : ((growing (levelL (qsOf raw) (ratOf sh))).map (codesOf raw sh)).Perm (found raw sh) := by
  have g := growing_is (level_nodup h) (level_norm h)
  rw [List.perm_ext_iff_of_nodup ?_ (found_nodup h)]
  · intro x
    rw [List.mem_map]
    constructor
    · rintro ⟨ch, hc, rfl⟩
      obtain ⟨S, cl, rfl⟩ := (g.mem ch).mp hc
      unfold codesOf
      rw [cds_choice h cl]
      exact found_set h (setC_up h cl) (setC_mid h S)
    · intro hx
      obtain ⟨r, hr, u, md, rfl⟩ := found_is h hx
      let S : List Int → Bool := fun l => setOf r (codeOf l).toNat
      have hS : ∀ c, c < 2 ^ raw.length → S (lLot raw.length (c : Nat)) = setOf r c := fun c hc => by
        show setOf r (codeOf (lLot raw.length (c : Int))).toNat = _
        rw [code_lot h.n4 hc, Int.toNat_natCast]
      have cl : Closed (levelL (qsOf raw) (ratOf sh)) (order (levelL (qsOf raw) (ratOf sh))) S := fun l hl hs o ho => by
        obtain ⟨c, hc, lc, rfl⟩ := level_is h (order_mem.mp hl)
        obtain ⟨o1, o2⟩ := List.mem_filter.mp ho
        obtain ⟨d, hd, ld, rfl⟩ := level_is h o1
        have o2 := (Bool.and_eq_true_iff.mp o2).2
        rw [hold_sub h.n4 hc hd] at o2
        rw [hS c hc] at hs
        rw [hS d hd]
        exact u.up c d hc hd o2 hs
      refine ⟨_, (g.mem _).mpr ⟨S, cl, rfl⟩, ?_⟩
      unfold codesOf
      rw [cds_choice h cl]
      refine congrArg (List.map fun (c : Nat) => (c : Int)) (List.filter_congr fun c hc => ?_)
      have hc := List.mem_range.mp hc
      rw [Bool.eq_iff_iff, setC_iff, hS c hc]
      constructor
      · rintro (t | t)
        · exact (md c hc).1 t
        · exact t.2
      · intro t
        rcases may_split ((md c hc).2 t) with e | e
        · exact .inl e
        · exact .inr ⟨e, t⟩
  · refine nodup_map g.nd fun a ha b hb e => ?_
    obtain ⟨S, cS, rfl⟩ := (g.mem a).mp ha
    obtain ⟨T, cT, rfl⟩ := (g.mem b).mp hb
    unfold codesOf at e
    rw [cds_choice h cS, cds_choice h cT] at e
    refine List.filter_congr fun l hl => ?_
    obtain ⟨c, hc, lc, rfl⟩ := level_is h (order_mem.mp hl)
    have := filter_inj e c hc
    unfold setC at this
    rw [lev_not lc, lc] at this
    simpa using this
theorem count_eq (h : Inp raw sh) : (growing (levelL (qsOf raw) (ratOf sh))).length = (found raw sh).length := by
  rw [← (best_perm h).length_eq, List.length_map]
end
end M
end
section
set_option maxRecDepth 20000
/-! M19: rows that meet themselves. -/
namespace M
section
variable {raw : List (Int × Int)} {sh : Int × Int} {n : Nat}
def Strict (n : Nat) (S : Nat → Bool) : Prop := ∀ c, c < 2 ^ n → S c = true → S (cpl n c) = false
def sRows (n : Nat) : List (List Int) := (families n).filter fun row => row.all fun c => decide (c ∈ lDual n row)
theorem mem_dual {row : List Int} {c : Nat} : (c : Int) ∈ lDual n row ↔ c < 2 ^ n ∧ setOf row (cpl n c) = false := by
  unfold lDual
  rw [mem_filter_cast]
  constructor
  · rintro ⟨h1, h2⟩
    refine ⟨h1, ?_⟩
    rw [pow_cast, show ((2 ^ n - 1 : Nat) : Int) - (c : Int) = ((cpl n c : Nat) : Int) by unfold cpl; omega] at h2
    unfold setOf
    simpa using h2
  · rintro ⟨h1, h2⟩
    refine ⟨h1, ?_⟩
    rw [pow_cast, show ((2 ^ n - 1 : Nat) : Int) - (c : Int) = ((cpl n c : Nat) : Int) by unfold cpl; omega]
    unfold setOf at h2
    simpa using h2
theorem nat_of (hn : n ≤ 4) {row : List Int} (hr : RowOk n row) {x : Int} (hx : x ∈ row) : ∃ c : Nat, x = c ∧ c < 2 ^ n := by
  have := (set_perm hr).mem_iff.mp hx
  obtain ⟨c, hc, rfl⟩ := List.mem_map.mp this
  exact ⟨c, rfl, List.mem_range.mp (List.mem_filter.mp hc).1⟩
theorem sRows_iff (hn : n ≤ 4) {row : List Int} : row ∈ sRows n ↔ row ∈ families n ∧ Strict n (setOf row) := by
  unfold sRows
  rw [List.mem_filter, List.all_eq_true]
  refine and_congr_right fun hr => ?_
  have ok := row_ok hn hr
  constructor
  · intro a c hc hs
    have := of_decide_eq_true (a c (of_decide_eq_true hs))
    exact (mem_dual.mp this).2
  · intro s x hx
    obtain ⟨c, rfl, hc⟩ := nat_of hn ok hx
    exact decide_eq_true (mem_dual.mpr ⟨hc, s c hc (decide_eq_true hx)⟩)
/-- the heavier one of a lot and the others -/
def hv (raw : List (Int × Int)) (c : Nat) : Bool := if tb raw c = tb raw (cpl raw.length c) then has (c : Int) 0 else decide (tb raw (cpl raw.length c) < tb raw c)
theorem f_has0 : ∀ n : Fin 5, 1 ≤ n.val → ∀ c : Fin 16, c.val < 2 ^ n.val → has ((cpl n.val c.val : Nat) : Int) 0 = !has (c.val : Int) 0 := by decide +kernel
theorem hv_cpl (h : Inp raw sh) {c : Nat} (hc : c < 2 ^ raw.length) : hv raw (cpl raw.length c) = !hv raw c := by
  have p := pow_lt h.n4
  have f : has ((cpl raw.length c : Nat) : Int) 0 = !has (c : Int) 0 := f_has0 ⟨raw.length, by have := h.n4; omega⟩ h.n1 ⟨c, by omega⟩ hc
  unfold hv
  rw [cpl_cpl hc]
  by_cases e : tb raw c = tb raw (cpl raw.length c)
  · rw [if_pos e, if_pos e.symm, f]
  · rw [if_neg e, if_neg (fun z => e z.symm), ← decide_not, decide_eq_decide]
    omega
theorem upS_hv (h : Inp raw sh) : UpS raw.length (hv raw) := by
  have p2 := pow_two h.n1
  have z : hv raw 0 = false := by
    have m := tb_mono h (sub_bot h.n4 (c := cpl raw.length 0) cpl_lt)
    unfold hv
    split
    · rfl
    · exact decide_eq_false (by omega)
  refine ⟨?_, z, fun c d hc hd s t => ?_⟩
  · have := hv_cpl h (c := 0) (by omega)
    rw [z] at this
    exact this
  · have a := tb_mono h s
    have b := tb_mono h (sub_cpl h.n4 hc hd s)
    unfold hv at t ⊢
    by_cases e : tb raw c = tb raw (cpl raw.length c)
    · rw [if_pos e] at t
      split
      · exact sub_has s (by have := h.n1; omega) t
      · exact decide_eq_true (by omega)
    · rw [if_neg e] at t
      have t := of_decide_eq_true t
      rw [if_neg (by omega)]
      exact decide_eq_true (by omega)
theorem strict_hv (h : Inp raw sh) : Strict raw.length (hv raw) := fun c hc s => by rw [hv_cpl h hc, s]; rfl
theorem sum_pair (n : Nat) (f g : Nat → Int) (h : ∀ c, c < 2 ^ n → f c + f (cpl n c) ≤ g c + g (cpl n c)) : sumTo f (2 ^ n) ≤ sumTo g (2 ^ n) := by
  have a := sum_le h
  rw [sum_add, sum_add] at a
  have e : ∀ f : Nat → Int, sumTo (fun c => f (cpl n c)) (2 ^ n) = sumTo f (2 ^ n) := fun f => sum_flip (2 ^ n) f
  rw [e f, e g] at a
  omega
def heavyV (raw : List (Int × Int)) (sh : Int × Int) : Int := sh.2 * sumTo (fun c => if hv raw c = true then tb raw c else 0) (2 ^ raw.length)
theorem hv_max (h : Inp raw sh) {c : Nat} (hc : c < 2 ^ raw.length) : (if hv raw c = true then tb raw c else 0) + (if hv raw (cpl raw.length c) = true then tb raw (cpl raw.length c) else 0) = max (tb raw c) (tb raw (cpl raw.length c)) := by
  rw [hv_cpl h hc]
  unfold hv
  by_cases e : tb raw c = tb raw (cpl raw.length c)
  · rw [if_pos e]
    cases has (c : Int) 0 <;> simp <;> omega
  · rw [if_neg e]
    by_cases l : tb raw (cpl raw.length c) < tb raw c
    · rw [decide_eq_true l]
      simp
      omega
    · rw [decide_eq_false l]
      simp
      omega
/-- a row's value as a sum -/
theorem value_sum (h : Inp raw sh) {row : List Int} (hr : RowOk raw.length row) : lValue (lTable raw) raw.length sh row = sumTo (fun c => sh.1 * tb raw c + if setOf row c = true then gn raw sh c else 0) (2 ^ raw.length) := by
  rw [value_eq h hr, sum_add, sum_mul, tb_sum h]
theorem pair_le {a b x y m : Int} {s t : Bool} (h0 : 0 ≤ a) (h1 : 2 * a < b) (hx : 0 ≤ x) (hy : 0 ≤ y) (hm : m = max x y) (hs : s = true → t = false) : (a * x + if s = true then (b - a) * x - a * y else 0) + (a * y + if t = true then (b - a) * y - a * x else 0) ≤ b * m := by
  have b0 : 0 ≤ b := by omega
  have mx : x ≤ m := by omega
  have my : y ≤ m := by omega
  have k1 := Int.mul_le_mul_of_nonneg_left mx b0
  have k2 := Int.mul_le_mul_of_nonneg_left my b0
  rw [Int.sub_mul, Int.sub_mul]
  cases s
  · cases t
    · simp
      have l1 := Int.mul_le_mul_of_nonneg_left mx h0
      have l2 := Int.mul_le_mul_of_nonneg_left my h0
      have l3 : (2 * a) * m ≤ b * m := Int.mul_le_mul_of_nonneg_right (by omega) (by omega)
      rw [Int.mul_assoc] at l3
      omega
    · simp
      omega
  · rw [hs rfl]
    simp
    omega
theorem strict_le (h : Inp raw sh) (h2 : 2 * sh.1 < sh.2) {row : List Int} (hr : row ∈ sRows raw.length) : lValue (lTable raw) raw.length sh row ≤ heavyV raw sh := by
  obtain ⟨hf, hs⟩ := (sRows_iff h.n4).mp hr
  rw [value_sum h (row_ok h.n4 hf)]
  unfold heavyV
  rw [← sum_mul]
  refine sum_pair _ _ _ fun c hc => ?_
  rw [← Int.mul_add, hv_max h hc]
  unfold gn
  rw [cpl_cpl hc]
  exact pair_le h.s0 h2 (Int.le_of_lt (tb_pos h _)) (Int.le_of_lt (tb_pos h _)) rfl (hs c hc)
theorem heavy_row (h : Inp raw sh) : rowOf raw.length (hv raw) ∈ sRows raw.length ∧ lValue (lTable raw) raw.length sh (rowOf raw.length (hv raw)) = heavyV raw sh := by
  have u := upS_hv h
  have hi := rowOf_in h.n4 h.n1 u
  refine ⟨(sRows_iff h.n4).mpr ⟨hi, fun c hc s => ?_⟩, ?_⟩
  · rw [set_rowOf h.n4 h.n1 u hc] at s
    rw [set_rowOf h.n4 h.n1 u cpl_lt]
    exact strict_hv h c hc s
  · rw [value_sum h (row_ok h.n4 hi)]
    unfold heavyV
    rw [← sum_mul]
    have key : ∀ c, c < 2 ^ raw.length → (sh.1 * tb raw c + if setOf (rowOf raw.length (hv raw)) c = true then gn raw sh c else 0) + (sh.1 * tb raw (cpl raw.length c) + if setOf (rowOf raw.length (hv raw)) (cpl raw.length c) = true then gn raw sh (cpl raw.length c) else 0) = sh.2 * (if hv raw c = true then tb raw c else 0) + sh.2 * (if hv raw (cpl raw.length c) = true then tb raw (cpl raw.length c) else 0) := fun c hc => by
      rw [set_rowOf h.n4 h.n1 u hc, set_rowOf h.n4 h.n1 u cpl_lt, hv_cpl h hc]
      unfold gn
      rw [cpl_cpl hc, Int.sub_mul, Int.sub_mul]
      cases hv raw c <;> simp <;> omega
    exact Int.le_antisymm (sum_pair _ _ _ fun c hc => Int.le_of_eq (key c hc)) (sum_pair _ _ _ fun c hc => Int.le_of_eq (key c hc).symm)
theorem must_strict (h : Inp raw sh) (h2 : sh.2 ≤ 2 * sh.1) : Strict raw.length (must raw sh) := fun c hc s => by
  rw [Bool.eq_false_iff]
  intro t
  have p2 := pow_two h.n1
  have c0 : cpl raw.length c ≠ 0 := fun z => by rw [z, (upS_must h).z] at t; cases t
  have c1 : c ≠ 0 := fun z => by rw [z, (upS_must h).z] at s; cases s
  have d0 : c ≠ 2 ^ raw.length - 1 := by unfold cpl at c0; omega
  have d1 : cpl raw.length c ≠ 2 ^ raw.length - 1 := by unfold cpl; omega
  rcases must_iff.mp s with s | ⟨_, s⟩
  · exact d0 s
  · rcases must_iff.mp t with t | ⟨_, t⟩
    · exact d1 t
    · unfold gn at s t
      rw [cpl_cpl hc] at t
      have px := tb_pos h c
      have py := tb_pos h (cpl raw.length c)
      generalize tb raw c = x at *
      generalize tb raw (cpl raw.length c) = y at *
      rw [Int.sub_mul] at s t
      have k : sh.2 * (x + y) ≤ 2 * sh.1 * (x + y) := Int.mul_le_mul_of_nonneg_right h2 (by omega)
      rw [Int.mul_assoc, Int.mul_add, Int.mul_add] at k
      omega
def strictV (raw : List (Int × Int)) (sh : Int × Int) : Int := if sh.2 ≤ 2 * sh.1 then bestV raw sh else heavyV raw sh
/-- the set that strict_writes writes -/
def sSet (raw : List (Int × Int)) (sh : Int × Int) : Nat → Bool := if sh.2 ≤ 2 * sh.1 then must raw sh else hv raw
theorem sSet_up (h : Inp raw sh) : UpS raw.length (sSet raw sh) := by
  unfold sSet
  split
  · exact upS_must h
  · exact upS_hv h
theorem strict_best (h : Inp raw sh) : (∀ r ∈ sRows raw.length, lValue (lTable raw) raw.length sh r ≤ strictV raw sh) ∧ rowOf raw.length (sSet raw sh) ∈ sRows raw.length ∧ lValue (lTable raw) raw.length sh (rowOf raw.length (sSet raw sh)) = strictV raw sh := by
  unfold strictV sSet
  by_cases h2 : sh.2 ≤ 2 * sh.1
  · rw [if_pos h2, if_pos h2]
    obtain ⟨a, b⟩ := mid_row h (upS_must h) (mid_must h)
    refine ⟨fun r hr => val_le h ((sRows_iff h.n4).mp hr).1, (sRows_iff h.n4).mpr ⟨a, fun c hc s => ?_⟩, b⟩
    rw [set_rowOf h.n4 h.n1 (upS_must h) hc] at s
    rw [set_rowOf h.n4 h.n1 (upS_must h) cpl_lt]
    exact must_strict h h2 c hc s
  · rw [if_neg h2, if_neg h2]
    exact ⟨fun r hr => strict_le h (by omega) hr, heavy_row h⟩
def sFound (raw : List (Int × Int)) (sh : Int × Int) : List (List Int) := ((sRows raw.length).filter fun r => decide (lValue (lTable raw) raw.length sh r = strictV raw sh)).map srt
theorem bests_strict (h : Inp raw sh) : bests (lValue (lTable raw) raw.length sh) (sRows raw.length) = (some (strictV raw sh), sFound raw sh) := by
  obtain ⟨a, b, c⟩ := strict_best h
  exact bests_of _ a ⟨_, b, c⟩
theorem sFound_mem (h : Inp raw sh) {r : List Int} (hr : r ∈ families raw.length) : srt r ∈ sFound raw sh ↔ Strict raw.length (setOf r) ∧ lValue (lTable raw) raw.length sh r = strictV raw sh := by
  unfold sFound
  rw [List.mem_map]
  constructor
  · rintro ⟨a, ha, e⟩
    obtain ⟨h1, h2⟩ := List.mem_filter.mp ha
    obtain ⟨h3, h4⟩ := (sRows_iff h.n4).mp h1
    rw [srt_inj h.n4 h.n1 h3 hr e] at h4 h2
    exact ⟨h4, of_decide_eq_true h2⟩
  · rintro ⟨s, v⟩
    exact ⟨r, List.mem_filter.mpr ⟨(sRows_iff h.n4).mpr ⟨hr, s⟩, decide_eq_true v⟩, rfl⟩
end
end M
end
section
set_option maxRecDepth 20000
/-! M20: weights, chances of families, strict worths. -/
namespace M
section
variable {raw : List (Int × Int)} {sh : Int × Int} {n : Nat}
/-- a chance's odds -/
theorem odds_mul {p : Int × Int} (h1 : p.1 < p.2) (h2 : 1 ≤ p.2) : ((p.2 - p.1 : Int) : Rat) * Rat.divInt (ratOf p).num ((ratOf p).den - (ratOf p).num) = ((p.1 : Int) : Rat) := by
  have e1 : ((p.2 : Int) : Rat) * ratOf p = ((p.1 : Int) : Rat) := div_mul (by omega)
  generalize ratOf p = q at *
  have e2 : ((q.den : Int) : Rat) * q = ((q.num : Int) : Rat) := by
    have := div_mul (a := q.num) (b := (q.den : Int)) (den_pos q)
    rw [Rat.num_divInt_den] at this
    exact this
  have e3 : (q.den : Int) * p.1 = q.num * p.2 := by
    have : (((q.den : Int) * p.1 : Int) : Rat) = ((q.num * p.2 : Int) : Rat) := by
      rw [Rat.intCast_mul, Rat.intCast_mul, ← e1, ← e2]
      grind
    exact Rat.intCast_inj.mp this
  have dp := den_pos q
  have lt : q.num < (q.den : Int) := by
    have : (q.den : Int) * p.1 < (q.den : Int) * p.2 := Int.mul_lt_mul_of_pos_left h1 dp
    rw [e3] at this
    exact Int.lt_of_mul_lt_mul_right this (by omega)
  have e4 := div_mul (a := q.num) (b := (q.den : Int) - q.num) (by omega)
  generalize Rat.divInt q.num ((q.den : Int) - q.num) = w at *
  have e5 : (q.den : Int) * (p.2 - p.1) = p.2 * ((q.den : Int) - q.num) := by
    rw [Int.mul_sub, Int.mul_sub, e3, Int.mul_comm p.2 q.num, Int.mul_comm p.2]
  have e6 : ((q.den : Int) : Rat) * (((p.2 - p.1 : Int) : Rat) * w) = ((q.den : Int) : Rat) * ((p.1 : Int) : Rat) := by
    have a : ((q.den : Int) : Rat) * ((p.2 - p.1 : Int) : Rat) = ((p.2 : Int) : Rat) * (((q.den : Int) - q.num : Int) : Rat) := by
      rw [← Rat.intCast_mul, ← Rat.intCast_mul, e5]
    have b : ((q.den : Int) : Rat) * ((p.1 : Int) : Rat) = ((q.num : Int) : Rat) * ((p.2 : Int) : Rat) := by
      rw [← Rat.intCast_mul, ← Rat.intCast_mul, e3]
    grind
  have d0 : ((q.den : Int) : Rat) ≠ 0 := by
    intro e
    have := Rat.intCast_inj.mp (show (((q.den : Int) : Int) : Rat) = ((0 : Int) : Rat) from e)
    omega
  grind
/-- the product of what a chance lacks -/
def lackN (raw : List (Int × Int)) : Nat → Int
  | 0 => 1
  | i + 1 => lackN raw i * ((raw.getD i (0, 1)).2 - (raw.getD i (0, 1)).1)
theorem lack_pos (h : Inp raw sh) : ∀ i, i ≤ raw.length → 0 < lackN raw i
  | 0, _ => (by decide : (0 : Int) < 1)
  | i + 1, hi => Int.mul_pos (lack_pos h i (by omega)) (by have := h.at_ (i := i) (by omega); omega)
theorem weight_go (h : Inp raw sh) (c : Nat) : ∀ i, i ≤ raw.length → ((lackN raw i : Int) : Rat) * weight (qsOf raw) (((List.range i).filter (has (c : Int))).map fun (i : Nat) => (i : Int)) = ((lAlone raw c i : Int) : Rat)
  | 0, _ => by simp [lackN, weight, lAlone]
  | i + 1, hi => by
    have ih := weight_go h c i (by omega)
    have hp := h.at_ (i := i) (by omega)
    have o := odds_mul (p := raw.getD i (0, 1)) (by omega) (by omega)
    rw [List.range_succ, List.filter_append, List.map_append]
    unfold weight at ih ⊢
    rw [List.map_append, List.foldl_append, lackN, lAlone, Rat.intCast_mul, Rat.intCast_mul]
    unfold lFac
    by_cases hc : has (c : Int) i = true
    · rw [if_pos hc, List.filter_cons, if_pos hc, List.filter_nil, List.map_cons, List.map_nil, List.map_cons, List.map_nil, List.foldl_cons, List.foldl_nil]
      unfold wfac
      rw [Int.toNat_natCast, qs_get (by omega)]
      unfold wfac at ih
      grind
    · rw [if_neg hc, List.filter_cons, if_neg hc, List.filter_nil, List.map_nil, List.map_nil, List.foldl_nil]
      grind
theorem weight_tb (h : Inp raw sh) (c : Nat) : ((lackN raw raw.length : Int) : Rat) * weight (qsOf raw) (lLot raw.length (c : Int)) = ((tb raw c : Int) : Rat) := weight_go h c _ (Nat.le_refl _)
theorem mul_cmp {W x y : Rat} {a b : Int} (hW : 0 < W) (ha : W * x = (a : Rat)) (hb : W * y = (b : Rat)) : (x = y ↔ a = b) ∧ (x < y ↔ a < b) := by
  constructor
  · constructor
    · intro e
      have : (a : Rat) = (b : Rat) := by rw [← ha, ← hb, e]
      exact Rat.intCast_inj.mp this
    · intro e
      rw [e, ← hb] at ha
      have : W ≠ 0 := fun z => by rw [z] at hW; exact absurd hW Rat.lt_irrefl
      grind
  · rw [← Rat.mul_lt_mul_left hW, ha, hb]
    exact Rat.intCast_lt_intCast
theorem heavier_hv (h : Inp raw sh) {c : Nat} (hc : c < 2 ^ raw.length) : heavier (qsOf raw) (lLot raw.length (c : Int)) = hv raw c := by
  have W : (0 : Rat) < ((lackN raw raw.length : Int) : Rat) := Rat.intCast_pos.mpr (lack_pos h _ (Nat.le_refl _))
  have m := mul_cmp W (weight_tb h c) (weight_tb h (cpl raw.length c))
  have m2 := mul_cmp W (weight_tb h (cpl raw.length c)) (weight_tb h c)
  unfold heavier hv
  rw [qs_len, others_lot h.n4 hc]
  by_cases e : tb raw c = tb raw (cpl raw.length c)
  · rw [if_pos e, if_pos (decide_eq_true (m.1.mpr e)), Bool.eq_iff_iff, decide_eq_true_eq]
    have := mem_lLot (n := raw.length) (c := (c : Int)) (i := 0)
    rw [show ((0 : Nat) : Int) = 0 from rfl] at this
    rw [this]
    have := h.n1
    constructor
    · exact fun z => z.2
    · exact fun z => ⟨by omega, z⟩
  · rw [if_neg e, if_neg (by rw [decide_eq_true_eq]; exact fun z => e (m.1.mp z)), decide_eq_decide]
    exact m2.2
theorem heavy_lots (h : Inp raw sh) : (allLots raw.length).filter (heavier (qsOf raw)) = ((List.range (2 ^ raw.length)).filter (hv raw)).map fun (c : Nat) => lLot raw.length (c : Int) := by
  rw [all_lot h.n4, List.filter_map]
  exact congrArg (List.map fun (c : Nat) => lLot raw.length (c : Int)) (List.filter_congr fun c hc => heavier_hv h (List.mem_range.mp hc))
theorem lot_nil (hn : n ≤ 4) {c : Nat} (hc : c < 2 ^ n) (e : lLot n (c : Int) = []) : c = 0 := by
  have a := code_lot hn hc
  rw [e] at a
  have : codeOf [] = 0 := rfl
  omega
/-- the lots of a set of codes -/
theorem coded_set (S : Nat → Bool) : Coded n (((List.range (2 ^ n)).filter S).map fun (c : Nat) => lLot n (c : Int)) := fun m hm => by
  obtain ⟨c, hc, rfl⟩ := List.mem_map.mp hm
  exact ⟨c, List.mem_range.mp (List.mem_filter.mp hc).1, rfl⟩
theorem cont_set (hn : n ≤ 4) {S : Nat → Bool} (up : ∀ c d, c < 2 ^ n → d < 2 ^ n → sub n c d = true → S c = true → S d = true) {c : Nat} (hc : c < 2 ^ n) : cont n (mkFam n (((List.range (2 ^ n)).filter S).map fun (c : Nat) => lLot n (c : Int))) c = S c := by
  rw [Bool.eq_iff_iff, cont_mk hn (coded_set S) hc]
  constructor
  · rintro ⟨d, hd, hm, s⟩
    obtain ⟨e, he, z⟩ := List.mem_map.mp hm
    have he := List.mem_filter.mp he
    rw [lot_inj hn (List.mem_range.mp he.1) hd z] at he
    exact up d c hd hc s he.2
  · intro t
    exact ⟨c, hc, List.mem_map.mpr ⟨c, List.mem_filter.mpr ⟨List.mem_range.mpr hc, t⟩, rfl⟩, sub_refl hn hc⟩
theorem set_ne (hn : n ≤ 4) (h1 : 1 ≤ n) {S : Nat → Bool} (w : S (2 ^ n - 1) = true) (z : S 0 = false) : ((List.range (2 ^ n)).filter S).map (fun (c : Nat) => lLot n (c : Int)) ≠ [] ∧ ∀ l ∈ ((List.range (2 ^ n)).filter S).map (fun (c : Nat) => lLot n (c : Int)), l ≠ [] := by
  have p2 := pow_two h1
  constructor
  · exact List.ne_nil_of_mem (List.mem_map_of_mem (List.mem_filter.mpr ⟨List.mem_range.mpr (by omega), w⟩))
  · intro l hl e
    obtain ⟨c, hc, rfl⟩ := List.mem_map.mp hl
    have hc := List.mem_filter.mp hc
    rw [lot_nil hn (List.mem_range.mp hc.1) e, z] at hc
    cases hc.2
theorem heavy_ok (h : Inp raw sh) : (allLots raw.length).filter (heavier (qsOf raw)) ≠ [] ∧ ∀ l ∈ (allLots raw.length).filter (heavier (qsOf raw)), l ≠ [] := by
  rw [heavy_lots h]
  exact set_ne h.n4 h.n1 (upS_hv h).w (upS_hv h).z
theorem heavy_cont (h : Inp raw sh) {c : Nat} (hc : c < 2 ^ raw.length) : cont raw.length (heavyF (qsOf raw)) c = hv raw c := by
  unfold heavyF
  rw [qs_len, heavy_lots h]
  exact cont_set h.n4 (upS_hv h).up hc
/-- the chance that a family is up -/
theorem up_mul (h : Inp raw sh) (fm : List (List Int)) : ((uN raw raw.length : Int) : Rat) * upQ (qsOf raw) fm = ((sumTo (fun c => if cont raw.length fm c = true then tb raw c else 0) (2 ^ raw.length) : Int) : Rat) := by
  unfold upQ totalQ
  rw [qs_len, every_codes h.n4, List.map_map]
  have t := total_mul ((uN raw raw.length : Int) : Rat) (prob (qsOf raw) ∘ fun (c : Nat) => lLot raw.length (c : Int)) (tb raw) ((List.range (2 ^ raw.length)).filter (cont raw.length fm)) 0 0 (by simp) fun c _ => prob_tb h c
  rw [t, sum_filter]
  simp
theorem heavy_mul (h : Inp raw sh) : Dn raw sh * upQ (qsOf raw) (heavyF (qsOf raw)) = ((heavyV raw sh : Int) : Rat) := by
  have u := up_mul h (heavyF (qsOf raw))
  rw [sum_congr (g := fun c => if hv raw c = true then tb raw c else 0) fun c hc => by rw [heavy_cont h hc]] at u
  unfold Dn heavyV
  rw [Rat.intCast_mul, Rat.intCast_mul, ← u]
  grind
theorem half_le (h : Inp raw sh) : Rat.divInt 1 2 ≤ ratOf sh ↔ sh.2 ≤ 2 * sh.1 := by
  have s := share_mul h
  have hd : ((2 : Int) : Rat) * Rat.divInt 1 2 = ((1 : Int) : Rat) := div_mul (by decide)
  have p : (0 : Rat) < (((2 * sh.2 : Int)) : Rat) := Rat.intCast_pos.mpr (by have := h.s2; omega)
  have m := mul_cmp (W := (((2 * sh.2 : Int)) : Rat)) (x := ratOf sh) (y := Rat.divInt 1 2) (a := 2 * sh.1) (b := sh.2) p (by rw [Rat.intCast_mul, Rat.intCast_mul]; grind) (by rw [Rat.intCast_mul]; grind)
  rw [← Rat.not_lt, m.2]
  omega
theorem strict_mul (h : Inp raw sh) : Dn raw sh * mostStrict (qsOf raw) (ratOf sh) = ((strictV raw sh : Int) : Rat) := by
  unfold mostStrict strictV
  by_cases e : sh.2 ≤ 2 * sh.1
  · rw [if_pos e, if_pos ((half_le h).mpr e)]
    exact most_mul h
  · rw [if_neg e, if_neg (fun z => e ((half_le h).mp z))]
    exact heavy_mul h
theorem strict_cont (h : Inp raw sh) {c : Nat} (hc : c < 2 ^ raw.length) : cont raw.length (strictW (qsOf raw) (ratOf sh)) c = sSet raw sh c := by
  unfold strictW sSet
  by_cases e : sh.2 ≤ 2 * sh.1
  · rw [if_pos e, if_pos ((half_le h).mpr e)]
    exact least_cont h hc
  · rw [if_neg e, if_neg (fun z => e ((half_le h).mp z))]
    exact heavy_cont h hc
/-- strict_writes writes one of the strict best rows -/
theorem strict_codes (h : Inp raw sh) : cds raw.length (strictW (qsOf raw) (ratOf sh)) ∈ sFound raw sh := by
  obtain ⟨_, b, c⟩ := strict_best h
  have bf := ((sRows_iff h.n4).mp b).1
  have e : srt (rowOf raw.length (sSet raw sh)) = cds raw.length (strictW (qsOf raw) (ratOf sh)) := by
    rw [srt_set h.n4 (row_ok h.n4 bf), cds_eq h.n4]
    refine congrArg (List.map fun (c : Nat) => (c : Int)) (List.filter_congr fun c hc => ?_)
    have hc := List.mem_range.mp hc
    rw [set_rowOf h.n4 h.n1 (sSet_up h) hc, strict_cont h hc]
  rw [← e]
  exact List.mem_map.mpr ⟨_, List.mem_filter.mpr ⟨b, decide_eq_true c⟩, rfl⟩
/-- a family that contains just a row -/
structure FamRow (n : Nat) (fm : List (List Int)) (r : List Int) : Prop where
  cd : Coded n fm
  ct : ∀ c, c < 2 ^ n → cont n fm c = setOf r c
theorem fam_strict (hn : n ≤ 4) (h1 : 1 ≤ n) {fm : List (List Int)} {r : List Int} (f : FamRow n fm r) (u : UpS n (setOf r)) : meetsF fm fm = true ↔ Strict n (setOf r) := by
  unfold meetsF
  simp only [List.all_eq_true]
  constructor
  · intro m c hc s
    rw [Bool.eq_false_iff]
    intro t
    rw [← f.ct c hc] at s
    rw [← f.ct _ cpl_lt] at t
    obtain ⟨a, ha, am, as⟩ := (cont_iff hn f.cd hc).mp s
    obtain ⟨b, hb, bm, bs⟩ := (cont_iff hn f.cd cpl_lt).mp t
    have := m _ am _ bm
    rw [meet_sub hn ha hb] at this
    have q := sub_cpl hn hb cpl_lt bs
    rw [cpl_cpl hc] at q
    rw [sub_trans as q] at this
    cases this
  · intro s x hx y hy
    obtain ⟨a, ha, rfl⟩ := f.cd x hx
    obtain ⟨b, hb, rfl⟩ := f.cd y hy
    rw [meet_sub hn ha hb]
    have sa : setOf r a = true := by rw [← f.ct a ha]; exact (cont_iff hn f.cd ha).mpr ⟨a, ha, hx, sub_refl hn ha⟩
    have sb : setOf r b = true := by rw [← f.ct b hb]; exact (cont_iff hn f.cd hb).mpr ⟨b, hb, hy, sub_refl hn hb⟩
    rw [Bool.not_eq_true', Bool.eq_false_iff]
    intro z
    have := u.up a _ ha cpl_lt z sa
    rw [s b hb sb] at this
    cases this
def duS (n : Nat) (S : Nat → Bool) (c : Nat) : Bool := !S (cpl n c)
theorem dual_lots (hn : n ≤ 4) {fm : List (List Int)} {r : List Int} (f : FamRow n fm r) : dualLots n fm = ((List.range (2 ^ n)).filter (duS n (setOf r))).map fun (c : Nat) => lLot n (c : Int) := by
  unfold dualLots
  rw [all_lot hn, List.filter_map]
  refine congrArg (List.map fun (c : Nat) => lLot n (c : Int)) (List.filter_congr fun c hc => ?_)
  have hc := List.mem_range.mp hc
  show (!contains fm (others n (lLot n (c : Int)))) = _
  rw [others_lot hn hc]
  show (!cont n fm (cpl n c)) = _
  rw [f.ct _ cpl_lt]
  rfl
theorem du_up (hn : n ≤ 4) {S : Nat → Bool} (u : UpS n S) : ∀ c d, c < 2 ^ n → d < 2 ^ n → sub n c d = true → duS n S c = true → duS n S d = true := fun c d hc hd s t => by
  unfold duS at t ⊢
  rw [Bool.not_eq_true', Bool.eq_false_iff] at t ⊢
  exact fun z => t (u.up _ _ cpl_lt cpl_lt (sub_cpl hn hc hd s) z)
theorem dual_ok (hn : n ≤ 4) (h1 : 1 ≤ n) {fm : List (List Int)} {r : List Int} (f : FamRow n fm r) (u : UpS n (setOf r)) : dualLots n fm ≠ [] ∧ ∀ l ∈ dualLots n fm, l ≠ [] := by
  rw [dual_lots hn f]
  refine set_ne hn h1 ?_ ?_
  · unfold duS
    rw [show cpl n (2 ^ n - 1) = 0 by unfold cpl; omega, u.z]
    rfl
  · unfold duS
    rw [show cpl n 0 = 2 ^ n - 1 by unfold cpl; omega, u.w]
    rfl
theorem dual_cont (hn : n ≤ 4) {fm : List (List Int)} {r : List Int} (f : FamRow n fm r) (u : UpS n (setOf r)) {c : Nat} (hc : c < 2 ^ n) : cont n (mkFam n (dualLots n fm)) c = duS n (setOf r) c := by
  rw [dual_lots hn f]
  exact cont_set hn (du_up hn u) hc
theorem dual_meets (hn : n ≤ 4) {fm : List (List Int)} {r : List Int} (f : FamRow n fm r) (u : UpS n (setOf r)) : meetsF (mkFam n (dualLots n fm)) fm = true := by
  unfold meetsF
  simp only [List.all_eq_true]
  intro x hx y hy
  have cd := coded_mk hn (dualLots n fm)
  obtain ⟨a, ha, rfl⟩ := cd x hx
  obtain ⟨b, hb, rfl⟩ := f.cd y hy
  rw [meet_sub hn ha hb, Bool.not_eq_true', Bool.eq_false_iff]
  intro z
  have q := sub_cpl hn ha cpl_lt z
  rw [cpl_cpl hb] at q
  have sb : setOf r b = true := by rw [← f.ct b hb]; exact (cont_iff hn f.cd hb).mpr ⟨b, hb, hy, sub_refl hn hb⟩
  have sa : duS n (setOf r) a = true := by rw [← dual_cont hn f u ha]; exact (cont_iff hn cd ha).mpr ⟨a, ha, hx, sub_refl hn ha⟩
  unfold duS at sa
  rw [u.up b _ hb cpl_lt q sb] at sa
  cases sa
theorem worth_mul (h : Inp raw sh) {fm : List (List Int)} {r : List Int} (hr : r ∈ families raw.length) (f : FamRow raw.length fm r) : Dn raw sh * worthQ (qsOf raw) (ratOf sh) (mkFam raw.length (dualLots raw.length fm)) fm = ((lValue (lTable raw) raw.length sh r : Int) : Rat) := by
  have u := (row_set h.n4 h.n1 hr).1
  have s := share_mul h
  have a := up_mul h (mkFam raw.length (dualLots raw.length fm))
  have b := up_mul h fm
  rw [sum_congr (g := fun c => if setOf r (cpl raw.length c) = true then 0 else (lTable raw).getD (c : Int).toNat 0) fun c hc => by
    rw [dual_cont h.n4 f u hc, Int.toNat_natCast, table_get hc]
    unfold duS
    cases setOf r (cpl raw.length c) <;> rfl] at a
  rw [sum_congr (g := fun c => if setOf r c = true then (lTable raw).getD (c : Int).toNat 0 else 0) fun c hc => by
    rw [f.ct c hc, Int.toNat_natCast, table_get hc]] at b
  unfold worthQ lValue
  rw [dual_sum h.n4, row_sum (row_ok h.n4 hr)]
  unfold Dn
  rw [Rat.intCast_add, Rat.intCast_mul, Rat.intCast_mul, Rat.intCast_mul, Rat.intCast_sub]
  rw [← a, ← b]
  grind
theorem strict_row (h : Inp raw sh) {fm : List (List Int)} {r : List Int} (hr : r ∈ families raw.length) (f : FamRow raw.length fm r) : (meetsF fm fm && decide (worthQ (qsOf raw) (ratOf sh) (mkFam raw.length (dualLots raw.length fm)) fm = mostStrict (qsOf raw) (ratOf sh))) = decide (srt r ∈ sFound raw sh) := by
  have u := (row_set h.n4 h.n1 hr).1
  rw [Bool.eq_iff_iff, Bool.and_eq_true, decide_eq_true_eq, decide_eq_true_eq, sFound_mem h hr, fam_strict h.n4 h.n1 f u, (mul_cmp (Dn_pos h) (worth_mul h hr f) (strict_mul h)).1]
/-- a family made of a row -/
theorem fam_fold (hn : n ≤ 4) : ∀ (l : List Nat) (m : List (List Int)), Coded n m → (∀ c ∈ l, c < 2 ^ n) → Coded n ((l.map fun (c : Nat) => (c : Int)).foldl (fun m c => mkFam n (m ++ mkFam n [lLot n c])) m) ∧ ∀ d, d < 2 ^ n → (cont n ((l.map fun (c : Nat) => (c : Int)).foldl (fun m c => mkFam n (m ++ mkFam n [lLot n c])) m) d = true ↔ cont n m d = true ∨ ∃ c ∈ l, sub n c d = true)
  | [], m, hm, _ => ⟨hm, fun d hd => by simp⟩
  | c :: r, m, hm, hl => by
    have hc := hl c (List.mem_cons_self ..)
    have one : Coded n [lLot n (c : Int)] := fun x hx => by
      rw [List.mem_singleton] at hx
      exact ⟨c, hc, hx⟩
    have co := coded_mk hn [lLot n (c : Int)]
    have app : Coded n (m ++ mkFam n [lLot n (c : Int)]) := fun x hx => by
      rcases List.mem_append.mp hx with hx | hx
      · exact hm x hx
      · exact co x hx
    obtain ⟨i1, i2⟩ := fam_fold hn r (mkFam n (m ++ mkFam n [lLot n (c : Int)])) (coded_mk hn _) fun x hx => hl x (List.mem_cons_of_mem _ hx)
    refine ⟨i1, fun d hd => ?_⟩
    rw [List.map_cons, List.foldl_cons, i2 d hd, cont_mk hn app hd]
    constructor
    · rintro (⟨e, he, hm2, s⟩ | ⟨e, he, s⟩)
      · rcases List.mem_append.mp hm2 with hm2 | hm2
        · exact .inl ((cont_iff hn hm hd).mpr ⟨e, he, hm2, s⟩)
        · right
          have t : cont n (mkFam n [lLot n (c : Int)]) d = true := (cont_iff hn co hd).mpr ⟨e, he, hm2, s⟩
          obtain ⟨f, hf, fm, s2⟩ := (cont_mk hn one hd).mp t
          rw [List.mem_singleton] at fm
          rw [lot_inj hn hf hc fm] at s2
          exact ⟨c, List.mem_cons_self .., s2⟩
      · exact .inr ⟨e, List.mem_cons_of_mem _ he, s⟩
    · rintro (t | ⟨e, he, s⟩)
      · obtain ⟨e, he, hm2, s⟩ := (cont_iff hn hm hd).mp t
        exact .inl ⟨e, he, List.mem_append.mpr (.inl hm2), s⟩
      · rcases List.mem_cons.mp he with rfl | he
        · left
          obtain ⟨f, hf, fm, s2⟩ := (cont_iff hn co hd).mp ((cont_mk hn one hd).mpr ⟨e, hc, List.mem_singleton.mpr rfl, s⟩)
          exact ⟨f, hf, List.mem_append.mpr (.inr fm), s2⟩
        · exact .inr ⟨e, he, s⟩
theorem lFam_row (hn : n ≤ 4) (h1 : 1 ≤ n) {r : List Int} (hr : r ∈ families n) : FamRow n (lFam n (srt r)) r := by
  have u := (row_set hn h1 hr).1
  have p2 := pow_two h1
  have cu : Coded n (mkFam n [up n]) := coded_mk hn _
  have one : Coded n [up n] := fun x hx => by
    rw [List.mem_singleton] at hx
    exact ⟨2 ^ n - 1, by omega, by rw [hx, up_lot hn]⟩
  rw [srt_set hn (row_ok hn hr)]
  unfold lFam
  obtain ⟨a, b⟩ := fam_fold hn ((List.range (2 ^ n)).filter (setOf r)) (mkFam n [up n]) cu fun c hc => List.mem_range.mp (List.mem_filter.mp hc).1
  refine ⟨a, fun d hd => ?_⟩
  rw [Bool.eq_iff_iff, b d hd, cont_mk hn one hd]
  constructor
  · rintro (⟨e, he, m, s⟩ | ⟨e, he, s⟩)
    · rw [List.mem_singleton, up_lot hn] at m
      have := lot_inj hn he (by omega) m
      subst this
      rw [top_up hn hd s]
      exact u.w
    · have he := List.mem_filter.mp he
      exact u.up e d (List.mem_range.mp he.1) hd s he.2
  · intro t
    exact .inr ⟨d, List.mem_filter.mpr ⟨List.mem_range.mpr hd, t⟩, sub_refl hn hd⟩
end
end M
end
section
set_option maxRecDepth 20000
/-! M21: the fractions drawn are chances, shares. -/
namespace M
theorem ch_all : ∀ a b : Fin 9, b.val ≤ 2 * a.val → a.val < b.val → 2 ≤ b.val → ¬ Rat.divInt (a.val : Int) (b.val : Int) < Rat.divInt 1 2 ∧ ¬ ((1 : Int) : Rat) ≤ Rat.divInt (a.val : Int) (b.val : Int) ∧ 0 ≤ (Rat.divInt (a.val : Int) (b.val : Int)).num ∧ (Rat.divInt (a.val : Int) (b.val : Int)).num < (Rat.divInt (a.val : Int) (b.val : Int)).den ∧ (Rat.divInt (a.val : Int) (b.val : Int)).den < 16 := by decide +kernel
theorem sh_all : ∀ a b : Fin 9, a.val ≤ b.val → 1 ≤ b.val → ¬ Rat.divInt (a.val : Int) (b.val : Int) < ((0 : Int) : Rat) ∧ ¬ ((1 : Int) : Rat) < Rat.divInt (a.val : Int) (b.val : Int) ∧ 0 ≤ (Rat.divInt (a.val : Int) (b.val : Int)).num ∧ (Rat.divInt (a.val : Int) (b.val : Int)).num ≤ (Rat.divInt (a.val : Int) (b.val : Int)).den ∧ (Rat.divInt (a.val : Int) (b.val : Int)).den < 16 := by decide +kernel
theorem ch_ok {p : Int × Int} (h1 : p.2 ≤ 2 * p.1) (h2 : p.1 < p.2) (h3 : 2 ≤ p.2) (h4 : p.2 ≤ 8) : ChOk (ratOf p) := by
  have q := ch_all ⟨p.1.toNat, by omega⟩ ⟨p.2.toNat, by omega⟩ (by show p.2.toNat ≤ 2 * p.1.toNat; omega) (by show p.1.toNat < p.2.toNat; omega) (by show 2 ≤ p.2.toNat; omega)
  have e : Rat.divInt (((⟨p.1.toNat, by omega⟩ : Fin 9).val : Nat) : Int) (((⟨p.2.toNat, by omega⟩ : Fin 9).val : Nat) : Int) = ratOf p := by
    show Rat.divInt ((p.1.toNat : Nat) : Int) ((p.2.toNat : Nat) : Int) = Rat.divInt p.1 p.2
    rw [Int.toNat_of_nonneg (by omega), Int.toNat_of_nonneg (by omega)]
  rw [e] at q
  exact ⟨q.1, q.2.1, q.2.2.1, q.2.2.2.1, q.2.2.2.2⟩
theorem sh_ok {p : Int × Int} (h0 : 0 ≤ p.1) (h1 : p.1 ≤ p.2) (h2 : 1 ≤ p.2) (h3 : p.2 ≤ 8) : ShOk (ratOf p) := by
  have q := sh_all ⟨p.1.toNat, by omega⟩ ⟨p.2.toNat, by omega⟩ (by show p.1.toNat ≤ p.2.toNat; omega) (by show 1 ≤ p.2.toNat; omega)
  have e : Rat.divInt (((⟨p.1.toNat, by omega⟩ : Fin 9).val : Nat) : Int) (((⟨p.2.toNat, by omega⟩ : Fin 9).val : Nat) : Int) = ratOf p := by
    show Rat.divInt ((p.1.toNat : Nat) : Int) ((p.2.toNat : Nat) : Int) = Rat.divInt p.1 p.2
    rw [Int.toNat_of_nonneg (by omega), Int.toNat_of_nonneg (by omega)]
  rw [e] at q
  exact ⟨q.1, q.2.1, q.2.2.1, q.2.2.2.1, q.2.2.2.2⟩
/-- the numbers told: over the common under -/
theorem is_of {q : Rat} {a d : Int} (hd : 0 < d) (h : ((d : Int) : Rat) * q = ((a : Int) : Rat)) : q.num * d = a * q.den := by
  have e2 : ((q.den : Int) : Rat) * q = ((q.num : Int) : Rat) := by
    have := div_mul (a := q.num) (b := (q.den : Int)) (den_pos q)
    rw [Rat.num_divInt_den] at this
    exact this
  have : ((q.num * d : Int) : Rat) = ((a * q.den : Int) : Rat) := by
    rw [Rat.intCast_mul, Rat.intCast_mul, ← h, ← e2]
    grind
  exact Rat.intCast_inj.mp this
theorem found_ne {raw : List (Int × Int)} {sh : Int × Int} (h : Inp raw sh) : found raw sh ≠ [] := by
  obtain ⟨a, b⟩ := mid_row h (upS_must h) (mid_must h)
  exact List.ne_nil_of_mem (List.mem_map.mpr ⟨_, List.mem_filter.mpr ⟨a, decide_eq_true b⟩, rfl⟩)
theorem sFound_ne {raw : List (Int × Int)} {sh : Int × Int} (h : Inp raw sh) : sFound raw sh ≠ [] := List.ne_nil_of_mem (strict_codes h)
theorem fam_len {n : Nat} (hn : n ≤ 4) : (families n).length ≤ 166 := (fam_ok ⟨n, by omega⟩).1
theorem found_len {raw : List (Int × Int)} {sh : Int × Int} (h : Inp raw sh) : (found raw sh).length ≤ 166 := by
  unfold found
  rw [List.length_map]
  exact Nat.le_trans (List.length_filter_le _ _) (fam_len h.n4)
theorem sFound_len {raw : List (Int × Int)} {sh : Int × Int} (h : Inp raw sh) : (sFound raw sh).length ≤ 166 := by
  unfold sFound sRows
  rw [List.length_map]
  exact Nat.le_trans (List.length_filter_le _ _) (Nat.le_trans (List.length_filter_le _ _) (fam_len h.n4))
/-- each row found is a row in order -/
theorem found_srt {raw : List (Int × Int)} {sh : Int × Int} {x : List Int} (hx : x ∈ found raw sh) : ∃ r ∈ families raw.length, x = srt r := by
  unfold found at hx
  obtain ⟨r, hr, rfl⟩ := List.mem_map.mp hx
  exact ⟨r, (List.mem_filter.mp hr).1, rfl⟩
theorem sFound_srt {raw : List (Int × Int)} {sh : Int × Int} {x : List Int} (hx : x ∈ sFound raw sh) : ∃ r ∈ families raw.length, x = srt r := by
  unfold sFound sRows at hx
  obtain ⟨r, hr, rfl⟩ := List.mem_map.mp hx
  exact ⟨r, (List.mem_filter.mp (List.mem_filter.mp hr).1).1, rfl⟩
theorem srt_len (r : List Int) : (srt r).length ≤ 16 := by
  unfold srt
  rw [List.length_map]
  exact Nat.le_trans (List.length_filter_le _ _) (by simp)
theorem srt_rg (r : List Int) : ∀ c ∈ srt r, 0 ≤ c ∧ c < 16 := fun c hc => (mem_srt.mp hc).2
end M
end
section
/-! Kd30: _law_free_holds. -/
namespace M
theorem bv_bits {q : Rat} {a d : Int} {j k : Nat} (hq : Bd k q) (hd : d.natAbs < 2 ^ j) (e : q.num * d = a * q.den) : a.natAbs < 2 ^ (k + j) := by
  have h := mul_bits hq.1 hd
  rw [e, Int.natAbs_mul] at h
  have := q.den_pos
  have h2 : a.natAbs * 1 ≤ a.natAbs * (q.den : Int).natAbs := Nat.mul_le_mul_left _ (by omega)
  omega
end M
namespace Kb
open PySem PySem.Spec PyProof.Rows L2 M
section
variable {P : Program} {w : World} {K : PySem.W.Frag} {mg : Str → Option Value} {base : Heap} {aR aC aF tP : Addr}
theorem ints_cast (l : List Nat) : dl (l.map fun (i : Nat) => di (i : Int)) = intsL (l.map fun (c : Nat) => (c : Int)) := by
  show dl _ = dl _
  rw [List.map_map]
  rfl
theorem mw_bd {qs : List Rat} {s : Rat} (h : InOk qs s) (h4 : qs.length ≤ 4) : Bd 1783 (mostWorth qs s) := by
  have bg : ∀ l, Bd 77 (gain qs s l) := gain_bd h.ch h.n8 h.sh.bd
  have hz := allLots_len (n := qs.length)
  have h16 : 2 ^ qs.length ≤ 2 ^ 4 := Nat.pow_le_pow_right (by decide) h4
  have hz2 := allLots_sublist qs.length
  have hf := List.length_filter_le (fun l => decide (((0 : Int) : Rat) < gain qs s l)) (M.middle qs.length)
  have bt : Bd 1700 (totalQ (((M.middle qs.length).filter fun l => decide (((0 : Int) : Rat) < gain qs s l)).map (gain qs s))) := by
    have := fold_bd 77 (((M.middle qs.length).filter fun l => decide (((0 : Int) : Rat) < gain qs s l)).map (gain qs s)) 1 0 (fun q hq => by
      obtain ⟨l, _, rfl⟩ := List.mem_map.mp hq
      exact bg l) (by unfold Bd; decide)
    refine this.mono ?_
    rw [List.length_map]
    omega
  exact ((h.sh.bd.add (bg _)).add bt).mono (by decide)
theorem ms_bd {qs : List Rat} {s : Rat} (h : InOk qs s) (h4 : qs.length ≤ 4) : Bd 1783 (mostStrict qs s) := by
  unfold mostStrict
  split
  · exact mw_bd h h4
  · exact (up_bd h.ch h4 _).mono (by decide)
/-- the input of the checks -/
structure LawIn (raw : List (Int × Int)) (sh : Int × Int) : Prop where
  rw_ : RawOk raw
  ip : Inp raw sh
  so : ShOk (ratOf sh)
  s8 : sh.2 ≤ 8
theorem LawIn.io {raw : List (Int × Int)} {sh : Int × Int} (h : LawIn raw sh) : InOk (qsOf raw) (ratOf sh) := by
  have h1 := h.ip.n1
  have h4 := h.ip.n4
  refine ⟨by rw [qs_len]; omega, by rw [qs_len]; omega, fun q hq => ?_, h.so⟩
  obtain ⟨p, hp, rfl⟩ := List.mem_map.mp hq
  exact (h.rw_.rg p hp).2.2.2
theorem LawIn.q4 {raw : List (Int × Int)} {sh : Int × Int} (h : LawIn raw sh) : (qsOf raw).length ≤ 4 := by rw [qs_len]; exact h.ip.n4
theorem LawIn.ub {raw : List (Int × Int)} {sh : Int × Int} (h : LawIn raw sh) : (lUnder raw).natAbs < 2 ^ 17 ∧ (lUnder raw * sh.2).natAbs < 2 ^ 21 ∧ 0 < lUnder raw * sh.2 := by
  have a := under_bits raw 1 1 (by decide) fun p hp => by
    have := h.rw_.rg p hp
    omega
  have a2 : (lUnder raw).natAbs < 2 ^ 17 := Nat.lt_of_lt_of_le a (Nat.pow_le_pow_right (by decide) (by have := h.ip.n4; omega))
  have s2 := h.ip.s2
  have s8 := h.s8
  have b := mul_bits a2 (show sh.2.natAbs < 2 ^ 4 by omega)
  have c := uN_pos h.ip raw.length (Nat.le_refl _)
  rw [← under_eq] at c
  exact ⟨a2, b, Int.mul_pos c (by omega)⟩
theorem LawIn.is {raw : List (Int × Int)} {sh : Int × Int} {q : Rat} {v : Int} (h : LawIn raw sh) (e : M.Dn raw sh * q = ((v : Int) : Rat)) : q.num * (lUnder raw * sh.2) = v * q.den := by
  refine is_of h.ub.2.2 ?_
  rw [under_eq]
  exact e
inductive Rlaw_free_holds (K : PySem.W.Frag) (aC aR : Addr) : List D → D → Prop
  | mk {raw : List (Int × Int)} {sh : Int × Int} : LawIn raw sh → Rlaw_free_holds K aC aR [chD K aC aR (qsOf raw), ratD aR (ratOf sh), rawD K raw, prD K sh, rowsL (families raw.length), di (bestV raw sh), rowsL (found raw sh)] (db true)
theorem fn_law_free_holds (B : Bi mg) (gp : GF P w K mg base 1 "_law_power" (Pr Rlaw_power)) (gi : GF P w K mg base 1 "_law_is" (Pr (Rlaw_is aR))) (gu : GF P w K mg base 1 "_law_under" (Pr (Rlaw_under K))) (gm : GF P w K mg base 10 "most_worth" (Pr (Rmost_worth K aC aR))) (gc : GF P w K mg base 6 "_law_codes" (Pr (Rlaw_codes K aF)))
    (gl : GF P w K mg base 10 "least_writes" (Pr (Rleast_writes K aF aC aR))) (gg : GF P w K mg base 10 "greatest_writes" (Pr (Rgreatest_writes K aF aC aR))) (gb : GF P w K mg base 11 "best_writes" (PT tP (Rbest_writes K aF aC aR))) (gk : GF P w K mg base 11 "count_best" (PT tP (Rcount_best K aC aR))) (Df : DfG K mg "_law_free_holds" (top 81)) : GG P w K mg base 12 "_law_free_holds" (PT tP (Rlaw_free_holds K aC aR)) :=
  gg_ofP Df sc_law_free_holds (fun _ _ h => by cases h; rfl) (fun _ _ _ _ _ _ us h => match us, h with | [_, _, _, _, _, _, _], _ => rfl) (fun _ _ _ _ _ _ _ gd hr => rd_law_free_holds B gp gi gu gm gc gl gg gb gk gd hr) fun xs z h => by
    cases h with
    | @mk raw sh hL =>
      have ip := hL.ip
      have io := hL.io
      have q4 := hL.q4
      have ql : (qsOf raw).length = raw.length := qs_len
      have hp := pow_lt ip.n4
      have fl := found_len ip
      have ub := hL.ub
      have mw := mw_bd io q4
      have his := hL.is (most_mul ip)
      have bb := bv_bits mw ub.2.1 his
      have lb := fam_bounds (ls := ((M.middle (qsOf raw).length).filter fun l => decide (((0 : Int) : Rat) < gain (qsOf raw) (ratOf sh) l)) ++ [up (qsOf raw).length]) io.n8
      have gb2 := fam_bounds (ls := ((M.middle (qsOf raw).length).filter fun l => decide (((0 : Int) : Rat) ≤ gain (qsOf raw) (ratOf sh) l)) ++ [up (qsOf raw).length]) io.n8
      have c1 := io.n1
      let gr := growing (levelL (qsOf raw) (ratOf sh))
      have lv := level_ok q4 fun l => decide ((gain (qsOf raw) (ratOf sh) l).num = 0)
      have gz := growing_len (ls := levelL (qsOf raw) (ratOf sh)) lv.1
      have gz1 : gr.length ≤ 16384 := gz.1
      have bp := best_perm ip
      obtain ⟨srtd, sp1, sp2⟩ := sorted_some ((found raw sh).map txtL)
      have rowT : ∀ x ∈ found raw sh, (∀ c ∈ x, 0 ≤ c ∧ c < 16) ∧ x.length ≤ 100 := fun x hx => by
        obtain ⟨r, _, rfl⟩ := found_srt hx
        exact ⟨srt_rg r, Nat.le_trans (srt_len r) (by decide)⟩
      have codeT : ∀ ch ∈ gr, (∀ c ∈ codesOf raw sh ch, 0 ≤ c ∧ c < 16) ∧ (codesOf raw sh ch).length ≤ 100 := fun ch hc => rowT _ ((bp.mem_iff).mp (List.mem_map_of_mem hc))
      have lg : ∀ i : Int, 0 ≤ i ∧ i < 16 → i.natAbs.log2 < 1920 := fun i hi => by
        have h1 : i.natAbs < 2 ^ 4 := by omega
        by_cases z : i.natAbs = 0
        · rw [z]
          decide
        · exact Nat.lt_trans ((Nat.log2_lt z).mpr h1) (by decide)
      refine (sr_seq (sb_asg (EO.ed (eo_lstRg (n := 2 ^ raw.length) (ed_is (ed_call (ea_cons (ed_is (ed_cb (ea_cons (ed_var rfl) ea_nil) cd_lenL) (by rw [List.length_map])) ea_nil) (Rlaw_power.mk (n := raw.length) (by have := ip.n4; omega))) (by rw [Int.natCast_pow]; rfl)) (by omega))))
    (sr_seq (sb_not (et_is (et_not (et_B (ed_call (ea_cons (ed_call (ea_cons (ed_varP rfl) (ea_cons (ed_var rfl) ea_nil)) (.mk io q4)) (ea_cons (ed_var rfl) (ea_cons (ed_op (ed_call (ea_cons (ed_var rfl) ea_nil) (.mk (by have := ip.n4; omega) (fun p hp => by have := hL.rw_.rg p hp; omega))) (ed_op (ed_var rfl) ed_c (od_ixT (i := 1) rfl)) (od_iC ?_)) ea_nil))) (.mk (mw.mono (by decide)) (Nat.lt_of_lt_of_le bb (Nat.pow_le_pow_right (by decide) (by decide))) (Nat.lt_of_lt_of_le ub.2.1 (Nat.pow_le_pow_right (by decide) (by decide))))))) ?_))
    (sr_seq (sb_asg (EO.ed (eo_LI (List.range (2 ^ raw.length)) (fun (i : Nat) => di (i : Int)) (fun (c : Nat) => (found raw sh).all fun row => decide ((c : Int) ∈ row)) (ed_var rfl) (by simp; omega) (by decide) rfl fun a ha => (et_B (ed_cb (ea_cons (EO.ed (eo_L0 (found raw sh) (fun l => intsL l) (fun row => db (decide ((a : Int) ∈ row))) (ed_var rfl) (by omega) (by decide) fun row hr => (ed_op (ed_var rfl) (ed_var rfl) od_inL))) ea_nil) cd_allF)))))
    (sr_seq (sb_asg (EO.ed (eo_LI (List.range (2 ^ raw.length)) (fun (i : Nat) => di (i : Int)) (fun (c : Nat) => (found raw sh).any fun row => decide ((c : Int) ∈ row)) (ed_var rfl) (by simp; omega) (by decide) rfl fun a ha => (et_B (ed_cb (ea_cons (EO.ed (eo_L0 (found raw sh) (fun l => intsL l) (fun row => db (decide ((a : Int) ∈ row))) (ed_var rfl) (by omega) (by decide) fun row hr => (ed_op (ed_var rfl) (ed_var rfl) od_inL))) ea_nil) cd_anyF)))))
    (sr_seq (sb_not (et_is (et_or (et_test (ed_op (ed_call (ea_cons (ed_call (ea_cons (ed_varP rfl) (ea_cons (ed_var rfl) ea_nil)) (.mk io)) ea_nil) (.mk c1 q4 lb.1 lb.2)) (ed_is (ed_var rfl) (show _ = intsL (((List.range (2 ^ raw.length)).filter fun (c : Nat) => (found raw sh).all fun row => decide ((c : Int) ∈ row)).map fun (c : Nat) => (c : Int)) from ints_cast _)) od_neL)) fun _ => (et_test (ed_op (ed_call (ea_cons (ed_call (ea_cons (ed_varP rfl) (ea_cons (ed_var rfl) ea_nil)) (.mk io)) ea_nil) (.mk c1 q4 gb2.1 gb2.2)) (ed_is (ed_var rfl) (show _ = intsL (((List.range (2 ^ raw.length)).filter fun (c : Nat) => (found raw sh).any fun row => decide ((c : Int) ∈ row)).map fun (c : Nat) => (c : Int)) from ints_cast _)) od_neL))) ?_))
    (sr_seq (sb_asg (ed_sortedStr (l := gr.map fun ch => txtL (codesOf raw sh ch)) (l' := srtd) (ea_cons (ed_is (EO.ed (eo_L0 gr (fun ch => famD K aF (qsOf raw).length (mkFam (qsOf raw).length (leastW (qsOf raw) (ratOf sh) ++ ch))) (fun ch => ds (txtL (codesOf raw sh ch))) (ed_callP 0 rfl (ea_cons (ed_varP rfl) (ea_cons (ed_var rfl) ea_nil)) (.mk io q4)) (by omega) (by decide) fun ch hc => (ed_cb (ea_cons (ed_is (ed_call (ea_cons (ed_var rfl) ea_nil) (Rlaw_codes.mk c1 q4 (fam_bounds io.n8).1 (fam_bounds io.n8).2)) ?_) ea_nil) (cd_strL (fun i hi => lg i ((codeT ch hc).1 i hi)) (txt_len (codeT ch hc).1 (codeT ch hc).2))))) (by rw [List.map_map]; rfl)) ea_nil) ?_))
    (sr_ret (ed_is (ed_and (ed_op (ed_callP 0 rfl (ea_cons (ed_varP rfl) (ea_cons (ed_var rfl) ea_nil)) (Rcount_best.mk io q4)) (ed_cb (ea_cons (ed_var rfl) ea_nil) cd_lenL) od_eqi) fun _ => (ed_op (ed_var rfl) (ed_sortedStr (l := (found raw sh).map txtL) (l' := srtd) (ea_cons (ed_is (EO.ed (eo_L0 (found raw sh) (fun l => intsL l) (fun l => ds (txtL l)) (ed_var rfl) (by omega) (by decide) fun row hr => (ed_cb (ea_cons (ed_var rfl) ea_nil) (cd_strL (fun i hi => lg i ((rowT row hr).1 i hi)) (txt_len (rowT row hr).1 (rowT row hr).2))))) (by rw [List.map_map]; rfl)) ea_nil) fun m hm hs => sorted_one (hm.trans sp1.symm) hs sp2) od_eqV)) ?_))))))))
      · exact cmul_of ub.1 (show sh.2.natAbs < 2 ^ 4 by have := hL.s8; have := ip.s2; omega) (by decide) (by decide)
      · rw [his, decide_eq_true rfl]
        rfl
      · rw [ql, least_codes ip, great_codes ip]
        simp
      · unfold codesOf
        rw [ql]
      · intro m hm hs
        refine sorted_one (hm.trans ?_) hs sp2
        have e : (gr.map fun ch => txtL (codesOf raw sh ch)) = (gr.map (codesOf raw sh)).map txtL := by rw [List.map_map]; rfl
        rw [e]
        exact (bp.map txtL).trans sp1.symm
      · rw [count_eq ip, List.length_map]
        simp
end
end Kb
end
section
/-! K37: a comprehension over an outcome, sorted. -/
namespace Kb
open PySem PySem.Spec PyProof.Rows L2
section
variable {env : Env'} {te te1 : TE} {K : PySem.W.Frag} {j : Nat} {vs : List Nat} {P : D → Env' → Prop}
theorem ex_L0 {Pa : D → Env' → Prop} (h : Int → D) (hj : j ∈ vs) (ha : EXn te1 env Pa) (hp : ∀ x e, Pa x e → ∃ l : List Int, x = dl (l.map fun i => di i) ∧ l.length < 90000 ∧ P (dl (l.map h)) e ∧ ∀ c ∈ l, ED te ((wipeE e vs).set j (.d (di c))) (h c)) :
    EXn (tLc (iList K te1) (gName j) tYes te vs) env P := fun Hb0 H0 σ Hb H Q o q => ha Hb0 H0 σ Hb H _ o fun x e v Hb2 H2 px o2 x2 pv => by
  obtain ⟨l, rfl, hz, pP, he⟩ := hp x e px
  obtain ⟨a, ws, rfl, hA, dn⟩ := pv
  have hlen : ws.length = l.length := by have := dn.len; rw [List.length_map] at this; exact this.symm
  refine ⟨a, rfl, ⟨ws, Evl.sq_of (o2.fr.s a _ hA)⟩, fun Dl hD => ?_⟩
  refine lc_list (xs := ws) (fun i H' => LcOk Hb2 H2 Dl ((l.take i).map h) H') (lc_0 o2.fr.s hD) (fun i H' _ p => ?_) (fun i x H' hi p => ?_) fun H' p => ?_
  · obtain ⟨Hi, _, g, _⟩ := p
    exact Evl.sq_of (g.s a _ (g.b a _ hA))
  · obtain ⟨d, hd, px⟩ := dn.at_ hi
    rw [List.getElem?_map] at hd
    obtain ⟨c, hc, ed⟩ := Option.map_eq_some_iff.mp hd
    subst ed
    refine ⟨wipe_set hj, lc_turn (env2 := (wipeE e vs).set j (.d (di c))) (b := true) (d := h c) ?_ hD p (fun Hi fi => ((o2.sl.fr fi).wipe vs).set ⟨x, rfl, D.mono _ fi.b px⟩) et_yes (fun _ => he c (List.mem_of_getElem? hc)) fun H3 p3 => ?_⟩
    · rw [List.length_map, List.length_take]
      omega
    · rw [List.take_add_one, hc, List.map_append]
      exact p3
  · rw [hlen, List.take_length] at p
    obtain ⟨Hi, us, g, h1, h2, h3⟩ := p
    -- the new list is kept
    have n0 : upd Hi Dl (.lst us) Dl = some (.lst us) := upd_same
    refine q (dl (l.map h)) e (.ref Dl) (upd Hi Dl (.lst us)) H' pP (o2.fr2 ?_) ((x2.trans g.b).trans (Evl.Ex.new h1)) ⟨Dl, us, rfl, upd_same, h3.mono (Evl.Ex.new h1)⟩
    refine ⟨g.b.trans (Evl.Ex.new h1), fun c u hc => ?_, g.h, fun c hm hn => ?_⟩
    · by_cases z : c = Dl
      · subst z
        rw [upd_same] at hc
        rw [h2]
        exact hc
      · rw [upd_ne z] at hc
        exact g.s c u hc
    · rw [upd_ne (hm.ne hD)]
      exact g.o c hm hn
theorem ex_sortedI {Pa : D → Env' → Prop} (ha : EXn te env Pa) (hp : ∀ x e, Pa x e → ∃ l l' : List Int, x = dl (l.map fun i => di i) ∧ (∀ m : List Int, m.Perm l → m.Pairwise (· ≤ ·) → m = l') ∧ P (dl (l'.map fun i => di i)) e) : EXn (tCB (rSortedI K) (tCons te tNil)) env P := fun Hb0 H0 σ Hb H Q o q => ha Hb0 H0 σ Hb H _ o fun x e v Hb2 H2 px o2 x2 pv => by
  obtain ⟨l, l', rfl, hs, pP⟩ := hp x e px
  obtain ⟨a, ws, rfl, hA, dn⟩ := pv
  obtain rfl := Dn.eq_map (f := V.int) dn
  refine ⟨a, l, rfl, sq_l o2.fr.s hA, fun m p hm hw hn => ?_⟩
  have em := hs m hm hw
  subst em
  have f := Fr.new (o := .lst (m.map V.int)) o2.fr.s hn
  exact q _ e (.ref p) _ _ pP (o2.fr2 f) (x2.trans f.b) ⟨p, _, rfl, upd_same, dn_map⟩
end
end Kb
end
section
/-! Kd31: _law_some_hold. -/
namespace Kb
open PySem PySem.Spec PyProof.Rows L2 M
section
variable {P : Program} {w : World} {K : PySem.W.Frag} {mg : Str → Option Value} {base : Heap} {aR aC aF tP : Addr}
inductive Rlaw_some_hold (K : PySem.W.Frag) (aC aR : Addr) : List D → List D → (D → List D → Prop) → Prop
  | mk {ns : List Int} {raw : List (Int × Int)} {sh : Int × Int} {a b c d : Int} : LawIn raw sh → 0 ≤ d → d < 2 ^ 50 → Rlaw_some_hold K aC aR [dscr K ns, chD K aC aR (qsOf raw), ratD aR (ratOf sh), rowsL (families raw.length), rowsL (found raw sh), rowsL (sFound raw sh)] [di a, di b, di c, di d] (fun r st2 => r = db true)
abbrev shE (K : PySem.W.Frag) (aC aR : Addr) (ns : List Int) (raw : List (Int × Int)) (sh : Int × Int) (a b c d : Int) (x7 x8 x9 : Sl) : Env' := [.d (dscr K ns), .own [di a, di b, di c, di d], .d (chD K aC aR (qsOf raw)), .d (ratD aR (ratOf sh)), .d (rowsL (families raw.length)), .d (rowsL (found raw sh)), .d (rowsL (sFound raw sh)), x7, x8, x9, .no]
/-- an item of some rows, drawn -/
theorem ex_drawn {env : Env'} {ns : List Int} {a b c d : Int} {i : Nat} {rows : List (List Int)} {P0 : D → Env' → Prop} (h0 : env[0]? = some (.d (dscr K ns))) (h1 : env[1]? = some (.own [di a, di b, di c, di d])) (hi : env[i]? = some (.d (rowsL rows))) (ne : rows ≠ []) (hl : rows.length < 1000) (d0 : 0 ≤ d) (d1 : d < 2 ^ 60)
    (hP : ∀ x a' b' c', x ∈ rows → P0 (intsL x) (env.set 1 (.own [di a', di b', di c', di (d + 1)]))) : EXn (tOp (rIxL K) (tVar i) (tCl (PM (Rlaw_draw K)) (tCons (tVar 0) (tCons (tVar 1) (tCons (tCB (rLenS K) (tCons (tVar i) tNil)) tNil))))) env P0 := by
  have l0 : 0 < rows.length := List.length_pos_iff.mpr ne
  refine ex_op (Pa := fun x e => x = rowsL rows ∧ e = env) (ex_of (ed_var hi) ⟨rfl, rfl⟩) ?_
  rintro x e ⟨rfl, rfl⟩
  refine ex_draw (i := 0) (j := 1) h0 h1 (ed_is (ed_cb (ea_cons (ed_var hi) ea_nil) cd_lenL) (by rw [List.length_map])) (by omega) (by omega) d0 d1 fun k a' b' c' k0 k1 => ?_
  have hk : k.toNat < rows.length := by omega
  refine ⟨intsL rows[k.toNat], ?_, hP _ a' b' c' (List.getElem_mem hk)⟩
  have q := od_ixL (K := K) (xs := rows.map fun l => intsL l) (i := k.toNat) (x := intsL rows[k.toNat]) (by rw [List.getElem?_map, List.getElem?_eq_getElem hk]; rfl)
  rw [Int.toNat_of_nonneg k0] at q
  exact q
theorem fn_law_some_hold (B : Bi mg) (gd : GF P w K mg base 1 "_law_draw" (PM (Rlaw_draw K))) (gf : GF P w K mg base 7 "_law_family" (Pr (Rlaw_family K aF))) (ln : OpF P w K mg base 1 aC "__len__" (Pr (Rlen K aC aR))) (gb : GF P w K mg base 11 "is_best" (Pr (Ris_best K aF aC aR))) (gs : GF P w K mg base 12 "is_best_strict" (Pr (Ris_best_strict K aF aC aR))) (Df : DfG K mg "_law_some_hold" (top 82)) : GF P w K mg base 13 "_law_some_hold" (PM (Rlaw_some_hold K aC aR)) :=
  gf_ofM Df sc_law_some_hold (fun _ _ _ h => by cases h; rfl) (fun _ _ _ _ _ _ us h => match us, h with | [_, _, _, _, _, _, _], _ => rfl) (fun _ _ _ _ _ _ _ hr => rd_law_some_hold B gd gf ln gb gs hr) fun x0 xs st O h => by
    cases h with
    | @mk ns raw sh a b c d hL hd hd2 =>
      have ip := hL.ip
      have io := hL.io
      have q4 := hL.q4
      have ql : (qsOf raw).length = raw.length := qs_len
      have n4 := ip.n4
      have n1 := ip.n1
      let E := shE K aC aR ns raw sh
      let I := fun (i : Nat) (e : Env') => ∃ (a b c d2 : Int) (x7 x8 x9 : Sl), 0 ≤ d2 ∧ d2 ≤ d + 3 * i ∧ e = E a b c d2 x7 x8 x9
      have ne : families raw.length ≠ [] := List.ne_nil_of_mem (mid_row ip (upS_must ip) (mid_must ip)).1
      have fl := fam_len n4
      refine srn_seq (P1 := fun e => ∃ n, I n e) (sbn_forE (m := 6) (by decide) I (ean_cons (Pa := fun x e => x = di 6 ∧ e = E a b c d .no .no .no) (ex_of ed_c ⟨rfl, rfl⟩) ?_) (by decide) ?_ fun n e _ _ h => ⟨n, h⟩) ?_
      · rintro x e ⟨rfl, rfl⟩
        exact ean_nil ⟨6, by decide, by decide, rfl, a, b, c, d, .no, .no, .no, hd, by omega, rfl⟩
      · rintro i e hi ⟨a, b, c, d2, x7, x8, x9, d0, d1, rfl⟩
        show SBn _ (E a b c d2 (.d (di (i : Int))) x8 x9) _
        let Rw := fun (x : List Int) => ∃ r ∈ families raw.length, x = srt r
        -- a row of all rows
        refine sbn_seq (P1 := fun e => ∃ (a b c : Int) (x : List Int), Rw x ∧ e = E a b c (d2 + 1) (.d (di (i : Int))) (.d (intsL x)) x9) (sbn_asg (by decide) (ex_sortedI (Pa := fun y e => ∃ (a b c : Int) (r : List Int), r ∈ families raw.length ∧ y = intsL r ∧ e = E a b c (d2 + 1) (.d (di (i : Int))) x8 x9) (ex_L0 (Pa := fun y e => ∃ (a b c : Int) (r : List Int), r ∈ families raw.length ∧ y = intsL r ∧ e = E a b c (d2 + 1) (.d (di (i : Int))) x8 x9) (fun c => di c) (by decide) (ex_drawn (i := 4) rfl rfl rfl ne (by omega) d0 (by omega) fun x a' b' c' hx => ⟨a', b', c', x, hx, rfl, rfl⟩) ?_) ?_)) ?_
        · rintro y e ⟨a, b, c, r, hr, rfl, rfl⟩
          have := row_len (row_ok n4 hr) n4
          exact ⟨r, rfl, by omega, ⟨a, b, c, r, hr, rfl, rfl⟩, fun x hx => (ed_cb (ea_cons (ed_var rfl) ea_nil) cd_int)⟩
        · rintro y e ⟨a, b, c, r, hr, rfl, rfl⟩
          exact ⟨r, srt r, rfl, srt_sorted (row_ok n4 hr) n4, a, b, c, srt r, ⟨r, hr, rfl⟩, rfl⟩
        rintro e ⟨a, b, c, x, hx, rfl⟩
        refine sbn_seq (P1 := fun e => ∃ (a b c d3 : Int) (x : List Int), 0 ≤ d3 ∧ d3 ≤ d2 + 2 ∧ Rw x ∧ e = E a b c d3 (.d (di (i : Int))) (.d (intsL x)) x9) (sbn_if (et_test (ed_op (ed_var rfl) ed_c od_eqi)) (fun _ => sbn_asg (by decide) (ex_drawn (i := 5) rfl rfl rfl (found_ne ip) (by have := found_len ip; omega) (by omega) (by omega) fun x a' b' c' hx => ⟨a', b', c', d2 + 1 + 1, x, by omega, by omega, found_srt hx, rfl⟩)) fun _ => sbn_next ⟨a, b, c, d2 + 1, x, by omega, by omega, hx, rfl⟩) ?_
        rintro e ⟨a, b, c, d3, x, e0, e1, hx, rfl⟩
        refine sbn_seq (P1 := fun e => ∃ (a b c d4 : Int) (x : List Int), 0 ≤ d4 ∧ d4 ≤ d2 + 3 ∧ Rw x ∧ e = E a b c d4 (.d (di (i : Int))) (.d (intsL x)) x9) (sbn_if (et_test (ed_op (ed_var rfl) ed_c od_eqi)) (fun _ => sbn_asg (by decide) (ex_drawn (i := 6) rfl rfl rfl (sFound_ne ip) (by have := sFound_len ip; omega) (by omega) (by omega) fun x a' b' c' hx => ⟨a', b', c', d3 + 1, x, by omega, by omega, sFound_srt hx, rfl⟩)) fun _ => sbn_next ⟨a, b, c, d3, x, by omega, by omega, hx, rfl⟩) ?_
        rintro e ⟨a, b, c, d4, x, f0, f1, ⟨r, hr, rfl⟩, rfl⟩
        -- the row's family
        have u := (row_set n4 n1 hr).1
        have fr := lFam_row n4 n1 hr
        have hcs : ∀ c ∈ srt r, 0 < c ∧ c < 2 ^ raw.length := fun c hc => by
          obtain ⟨hc1, hc0, _⟩ := mem_srt.mp hc
          have hg := (row_ok n4 hr).rg c hc1
          refine ⟨?_, hg.2⟩
          by_cases z : c = 0
          · rw [z] at hc1
            have := u.z
            unfold setOf at this
            simp at this
            exact absurd hc1 this
          · omega
        have lo := lFam_ok n1 n4 (srt r) (mkFam raw.length [up raw.length]) (mkFam_ne (by omega) (by simp)) (least_len _) (mk_ok (by omega) fun l hl => by
          rw [List.mem_singleton] at hl
          rw [hl]
          exact up_ok n1 (by omega)) hcs
        have l1 : ∀ m ∈ lFam raw.length (srt r), m.length < 1000 := fun m hm => (lo.2.2 m hm).2.1
        have l2 : (lFam raw.length (srt r)).length ≤ 256 := lo.2.1
        have sl := srt_len r
        have hv : HvOk (qsOf raw) := by
          have := heavy_ok ip
          exact ⟨by rw [ql]; exact this.1, by rw [ql]; exact this.2⟩
        have du := dual_ok n4 n1 fr u
        refine sbn_seq (P1 := fun e => e = E a b c d4 (.d (di (i : Int))) (.d (intsL (srt r))) (.d (famD K aF (qsOf raw).length (lFam raw.length (srt r))))) (sbn_asg1 (by decide) (ed_is (ed_call (ea_cons (ed_cb (ea_cons (ed_var rfl) ea_nil) (cd_lenO .mk (by omega))) (ea_cons (ed_var rfl) ea_nil)) (Rlaw_family.mk (by omega) q4 (by omega) (by rw [ql]; exact hcs))) (by rw [ql])) rfl) ?_
        rintro e rfl
        refine sbn_seq (P1 := fun e => e = E a b c d4 (.d (di (i : Int))) (.d (intsL (srt r))) (.d (famD K aF (qsOf raw).length (lFam raw.length (srt r))))) (sbn_if (b := false) (et_is (et_test (ed_op (ed_call (ea_cons (ed_var rfl) (ea_cons (ed_var rfl) (ea_cons (ed_var rfl) ea_nil))) (.mk io l1 l2)) (ed_op (ed_var rfl) (ed_var rfl) od_inLL) (od_nes rfl))) ?_) (fun z => nomatch z) fun _ => sbn_next rfl) ?_
        · rw [is_best_row ip fr.cd hr fr.ct]
          simp
        rintro e rfl
        refine sbn_if (b := false) (et_is (et_test (ed_op (ed_call (ea_cons (ed_var rfl) (ea_cons (ed_var rfl) (ea_cons (ed_var rfl) ea_nil))) (.mk io q4 hv l1 l2 (by rw [ql]; exact du.1) (by rw [ql]; exact du.2) (by rw [ql]; exact fun _ => dual_meets n4 fr u))) (ed_op (ed_var rfl) (ed_var rfl) od_inLL) (od_nes rfl))) ?_) (fun z => nomatch z) fun _ => sbn_next ⟨a, b, c, d4, _, _, _, f0, by omega, rfl⟩
        rw [ql, strict_row ip hr fr]
        simp
      · rintro e ⟨n, a, b, c, d2, x7, x8, x9, d0, d1, rfl⟩
        exact srn_ret (ex_of ed_c ⟨_, rfl, rfl⟩)
end
end Kb
end
section
/-! Kd32: law. -/
namespace Kb
open PySem PySem.Spec PyProof.Rows L2 M
section
variable {env : Env'} {tr : TA} {te : TE} {R : List D → List D → (D → List D → Prop) → Prop} {P : D → Env' → Prop} {i j : Nat} {P0 : Addr} {q0 : QL} {K : PySem.W.Frag}
/-- f(x, state, ..), where x bears the table and the rest may write into state -/
theorem ex_callME {x0 : D} {st0 : List D} {Pa : List D → Env' → Prop} (h0 : env[i]? = some (.dP P0 q0 x0)) (h1 : env[j]? = some (.own st0)) (hr : EAn tr env Pa)
    (hp : ∀ ds e, Pa ds e → e[i]? = some (.dP P0 q0 x0) ∧ ∃ st O, e[j]? = some (.own st) ∧ R (x0 :: ds) st O ∧ ∀ d st2, O d st2 → P d (e.set j (.own st2))) : EXn (tCl (PM R) (tCons (tVar i) (tCons (tVar j) tr))) env P := fun Hb0 H0 σ Hb H Q o q => by
  obtain ⟨⟨v0, e0, _⟩, _⟩ := o.sl.at_ i _ h0
  obtain ⟨S, _, e1, _⟩ := o.sl.at_ j _ h1
  refine ⟨v0, e0, .ref S, e1, ?_⟩
  show tr σ H _
  refine hr Hb0 H0 σ Hb H _ o fun ds e vs Hb2 H2 pa o2 x2 dn => ?_
  obtain ⟨g0, st, O, g1, hR, hP⟩ := hp ds e pa
  obtain ⟨⟨v1, f0, p0⟩, _⟩ := o2.sl.at_ i _ g0
  rw [e0] at f0
  cases f0
  obtain ⟨S2, ws, f1, n1, l1, d1⟩ := o2.sl.at_ j _ g1
  rw [e1] at f1
  cases f1
  exact ⟨x0, ds, st, O, v0, vs, S, ws, Hb2, rfl, hR, o2.fr.s, .cons p0 dn, n1, l1, d1, fun d st2 v ws2 Hb3 H3 ho f3 l3 n3 d3 pv => q d _ v Hb3 H3 (hP d st2 ho) (o2.wrote g1 e1 f3 l3 n3 d3) (x2.trans f3.b) pv⟩
theorem ean_of {xs : List D} {Q0 : List D → Env' → Prop} (h : EA tr env xs) (p : Q0 xs env) : EAn tr env Q0 := fun Hb0 H0 σ Hb H Q o q => h σ Hb H _ o.fr.s o.sl fun vs Hb2 H2 f d => q xs env vs Hb2 H2 p (o.fr2 f) f.b d
theorem ex_callMP {x0 : D} {xs st : List D} {O : D → List D → Prop} (h0 : env[i]? = some (.dP P0 q0 x0)) (h1 : env[j]? = some (.own st)) (hr : EA tr env xs) (hR : R (x0 :: xs) st O) (hP : ∀ d st2, O d st2 → P d (env.set j (.own st2))) : EXn (tCl (PM R) (tCons (tVar i) (tCons (tVar j) tr))) env P :=
  ex_callME (Pa := fun ds e => ds = xs ∧ e = env) h0 h1 (ean_of hr ⟨rfl, rfl⟩) fun ds e ⟨ed, ee⟩ => by
    subst ed ee
    exact ⟨h0, st, O, h1, hR, hP⟩
theorem sr_of_srn {t : TS} {r : D} (h : SRn t env fun d _ => d = r) : SR t env r := fun Hb0 H0 σ Hb H D o k => h Hb0 H0 σ Hb H D o fun d e2 σ' v Hb' H' ed o' _ pv => by
  subst ed
  exact k v Hb' H' o'.fr pv
theorem sbn_asgT2 {x y : D} {a b : Nat} {e1 : Env'} (ha : a ≠ 1) (hb : b ≠ 1) (h : ED te env (dt K [x, y])) (e : (env.set a (.d x)).set b (.d y) = e1) : SBn (tAsg te (gTup K 2 (gCons (gName a) (gCons (gName b) gNil)))) env (fun e => e = e1) := fun Hb0 H0 σ Hb H D o k =>
  h σ Hb H _ o.fr.s o.sl fun v Hb2 H2 f p => by
    obtain ⟨c, vs, rfl, h1, d1⟩ := p
    cases d1 with
    | cons p1 t =>
      cases t with
      | cons p2 t =>
        cases t
        exact ⟨c, _, rfl, sq_t (o.fr2 f).fr.s h1, rfl, _, _, rfl, _, _, rfl, rfl, k _ _ Hb2 H2 e (((o.fr2 f).set (x := .d x) ⟨_, rfl, p1⟩ fun _ z => by cases z).set (x := .d y) ⟨_, rfl, p2⟩ fun _ z => by cases z) f.b ((List.getElem?_set_ne hb).trans (List.getElem?_set_ne ha))⟩
end
section
variable {P : Program} {w : World} {K : PySem.W.Frag} {mg : Str → Option Value} {base : Heap} {aR aC aF tP : Addr}
inductive Rlaw (K : PySem.W.Frag) : List D → D → Prop
  | mk {ns : List Int} : Rlaw K [dscr K ns] (db true)
theorem fn_law (B : Bi mg) (g1 : GF P w K mg base 1 "_law_start" (PrO (Rlaw_start K))) (g2 : GF P w K mg base 2 "_law_chances" (PM (Rlaw_chances K))) (g3 : GF P w K mg base 1 "_law_draw" (PM (Rlaw_draw K))) (g4 : GF P w K mg base 2 "_law_share" (PM (Rlaw_share K))) (g5 : GF P w K mg base 11 "_law_made" (Pr (Rlaw_made K aC aR))) (g6 : MF P w K mg base 3 "Ratio" (Pr (RRatio aR)))
    (g7 : GF P w K mg base 5 "_law_families" (Pr Rlaw_families)) (g8 : GF P w K mg base 5 "_law_bests" (Pr (Rlaw_bests K))) (g9 : GG P w K mg base 12 "_law_free_holds" (PT tP (Rlaw_free_holds K aC aR))) (g10 : GF P w K mg base 2 "_law_dual" (Pr Rlaw_dual)) (g11 : GF P w K mg base 1 "_law_is" (Pr (Rlaw_is aR))) (g12 : GF P w K mg base 1 "_law_under" (Pr (Rlaw_under K)))
    (g13 : GF P w K mg base 11 "most_strict" (Pr (Rmost_strict K aC aR))) (g14 : GF P w K mg base 6 "_law_codes" (Pr (Rlaw_codes K aF))) (g15 : GF P w K mg base 11 "strict_writes" (Pr (Rstrict_writes K aF aC aR))) (g16 : GF P w K mg base 13 "_law_some_hold" (PM (Rlaw_some_hold K aC aR))) (Df : DfG K mg "law" (top 83)) : GG P w K mg base 14 "law" (PT tP (Rlaw K)) :=
  gg_ofP Df sc_law (fun _ _ h => by cases h; rfl) (fun _ _ _ _ _ _ us h => match us, h with | [_], _ => rfl) (fun _ _ _ _ _ _ _ gd hr => rd_law B g1 g2 g3 g4 g5 g6 g7 g8 g9 g10 g11 g12 g13 g14 g15 g16 gd hr) fun xs z h => by
    cases h with
    | @mk ns =>
      let E := fun (a b c d : Int) (x2 x3 x4 x5 x6 x7 x8 x9 x10 : Sl) => ([.dP tP qL (dscr K ns), .own [di a, di b, di c, di d], x2, x3, x4, x5, x6, x7, x8, x9, x10, .no, .no] : Env')
      refine (sr_seq (sb_own (eo_call (ea_cons (ed_varP rfl) ea_nil) .mk)) ?_)
      refine sr_of_srn ?_
      show SRn _ (E _ _ _ _ .no .no .no .no .no .no .no .no .no) _
      generalize ((ns.headD 0).natAbs : Int) = a0
      generalize (if decide ((10 : Int) ^ 18 ≤ a0) = true then (1 : Int) else 0) = b0
      -- the chances, the share
      refine srn_seq (P1 := fun e => ∃ (raw : List (Int × Int)) (a b c d : Int), 1 ≤ raw.length ∧ raw.length ≤ 4 ∧ (∀ p ∈ raw, ChP p) ∧ 0 ≤ d ∧ d ≤ 200 ∧ e = E a b c d (.d (rawD K raw)) .no .no .no .no .no .no .no .no) (sbn_asg (by decide) (ex_callME (Pa := fun ds e => ∃ (m : Nat) (a b c : Int), 1 ≤ m ∧ m ≤ 4 ∧ ds = [di (m : Int)] ∧ e = E a b c 1 .no .no .no .no .no .no .no .no .no) rfl rfl (ean_cons (Pa := fun x e => ∃ (m : Nat) (a b c : Int), 1 ≤ m ∧ m ≤ 4 ∧ x = di (m : Int) ∧ e = E a b c 1 .no .no .no .no .no .no .no .no .no) (ex_op (Pa := fun x e => x = dl [di 3, di 3, di 3, di 4] ∧ e = E a0 b0 1 0 .no .no .no .no .no .no .no .no .no) (ex_of (ed_lst (ea_cons ed_c (ea_cons ed_c (ea_cons ed_c (ea_cons ed_c ea_nil)))) rfl) ⟨rfl, rfl⟩) ?_) ?_) ?_)) ?_
      · rintro x e ⟨rfl, rfl⟩
        refine ex_callMP (P0 := tP) (q0 := qL) (x0 := dscr K ns) rfl rfl (ea_cons ed_c ea_nil) (.mk (by decide) (by decide) (by decide) (by decide)) fun r st2 ⟨k, a, b, c, k0, k1, er, es⟩ => ?_
        subst er es
        have : k = 0 ∨ k = 1 ∨ k = 2 ∨ k = 3 := by omega
        rcases this with rfl | rfl | rfl | rfl
        · exact ⟨_, od_ixL (i := 0) rfl, 3, a, b, c, by decide, by decide, rfl, rfl⟩
        · exact ⟨_, od_ixL (i := 1) rfl, 3, a, b, c, by decide, by decide, rfl, rfl⟩
        · exact ⟨_, od_ixL (i := 2) rfl, 3, a, b, c, by decide, by decide, rfl, rfl⟩
        · exact ⟨_, od_ixL (i := 3) rfl, 4, a, b, c, by decide, by decide, rfl, rfl⟩
      · rintro x e ⟨m, a, b, c, m1, m4, rfl, rfl⟩
        exact ean_nil ⟨m, a, b, c, m1, m4, rfl, rfl⟩
      · rintro ds e ⟨m, a, b, c, m1, m4, rfl, rfl⟩
        refine ⟨rfl, _, _, rfl, .mk m1 (by omega) (by decide) (by decide), fun r st2 ⟨raw, a', b', c', d', r1, r2, r3, d0, d1, er, es⟩ => ?_⟩
        subst er es
        exact ⟨raw, a', b', c', d', r1, by omega, r3, d0, by omega, rfl⟩
      rintro e ⟨raw, a, b, c, d, r1, r4, rc, d0, d1, rfl⟩
      refine srn_seq (P1 := fun e => ∃ (sh : Int × Int) (a b c d : Int), 0 ≤ sh.1 ∧ sh.1 ≤ sh.2 ∧ 1 ≤ sh.2 ∧ sh.2 ≤ 8 ∧ 0 ≤ d ∧ d ≤ 300 ∧ e = E a b c d (.d (rawD K raw)) (.d (prD K sh)) .no .no .no .no .no .no .no) (sbn_asg (by decide) (ex_callMP (P0 := tP) (q0 := qL) (x0 := dscr K ns) rfl rfl ea_nil (.mk d0 (by omega)) fun r st2 ⟨p, q, a', b', c', p0, p1, q1, q8, er, es⟩ => ?_)) ?_
      · subst er es
        exact ⟨(p, q), a', b', c', d + 2, p0, p1, q1, q8, by omega, by omega, rfl⟩
      rintro e ⟨sh, a, b, c, d, s0, s1, s2, s8, e0, e1, rfl⟩
      have hL : LawIn raw sh := ⟨⟨r1, r4, fun p hp => by
        have h := rc p hp
        have := h.h1
        have := h.h2
        have := h.h3
        have := h.h4
        exact ⟨by omega, by omega, by omega, ch_ok h.h1 h.h2 h.h3 h.h4⟩⟩, ⟨r1, r4, fun p hp => ⟨(rc p hp).h1, (rc p hp).h2, (rc p hp).h3⟩, s0, s1, s2⟩, sh_ok s0 s1 s2 s8, s8⟩
      have ip := hL.ip
      have io := hL.io
      have q4 := hL.q4
      have ql : (qsOf raw).length = raw.length := qs_len
      have fl := fam_len r4
      have ub := hL.ub
      have hv : HvOk (qsOf raw) := by
        have := heavy_ok ip
        exact ⟨by rw [ql]; exact this.1, by rw [ql]; exact this.2⟩
      have ms := ms_bd io q4
      have his := hL.is (strict_mul ip)
      have bb := bv_bits ms ub.2.1 his
      have c1 := io.n1
      have srl : (sRows raw.length).length ≤ 166 := Nat.le_trans (List.length_filter_le _ _) fl
      have sw : (∀ m ∈ strictW (qsOf raw) (ratOf sh), m.length < 1000) ∧ (strictW (qsOf raw) (ratOf sh)).length ≤ 256 := by
        unfold strictW
        split
        · exact fam_bounds io.n8
        · exact fam_bounds io.n8
      refine srn_seq1 (E a b c d (.d (rawD K raw)) (.d (prD K sh)) (.d (chD K aC aR (qsOf raw))) .no .no .no .no .no .no) (sbn_asg1 (by decide) (ed_call (ea_cons (ed_var rfl) ea_nil) (.mk r1 (by omega) fun p hp => by
        have h := hL.rw_.rg p hp
        exact ⟨by omega, Nat.lt_of_lt_of_le (show p.2.natAbs < 2 ^ 4 by omega) (Nat.pow_le_pow_right (by decide) (by decide)), h.2.2.2⟩)) rfl) ?_
      refine srn_seq1 (E a b c d (.d (rawD K raw)) (.d (prD K sh)) (.d (chD K aC aR (qsOf raw))) (.d (ratD aR (ratOf sh))) .no .no .no .no .no) (sbn_asg1 (by decide) (ed_call (ea_cons (ed_op (ed_var rfl) ed_c (od_ixT (i := 0) rfl)) (ea_cons (ed_op (ed_var rfl) ed_c (od_ixT (i := 1) rfl)) ea_nil)) (.mk2 (by omega) (Nat.lt_of_lt_of_le (show sh.2.natAbs < 2 ^ 4 by omega) (Nat.pow_le_pow_right (by decide) (by decide))))) rfl) ?_
      refine srn_seq1 (E a b c d (.d (rawD K raw)) (.d (prD K sh)) (.d (chD K aC aR (qsOf raw))) (.d (ratD aR (ratOf sh))) (.d (rowsL (families raw.length))) .no .no .no .no) (sbn_asg1 (by decide) (ed_call (ea_cons (ed_is (ed_cb (ea_cons (ed_var rfl) ea_nil) cd_lenL) (by rw [List.length_map])) ea_nil) (.mk r1 r4)) rfl) ?_
      refine srn_seq1 (E a b c d (.d (rawD K raw)) (.d (prD K sh)) (.d (chD K aC aR (qsOf raw))) (.d (ratD aR (ratOf sh))) (.d (rowsL (families raw.length))) (.d (di (bestV raw sh))) (.d (rowsL (found raw sh))) .no .no) (sbn_asgT2 (by decide) (by decide) (ed_call (ea_cons (ed_var rfl) (ea_cons (ed_var rfl) (ea_cons (ed_var rfl) ea_nil))) (.mk hL.rw_ (by omega) (by omega) (fun row hr => row_ok r4 hr) (by omega) (bests_rows ip))) rfl) ?_
      refine srn_when (b := false) (et_is (et_not (et_B (ed_callP 0 rfl (ea_cons (ed_var rfl) (ea_cons (ed_var rfl) (ea_cons (ed_var rfl) (ea_cons (ed_var rfl) (ea_cons (ed_var rfl) (ea_cons (ed_var rfl) (ea_cons (ed_var rfl) ea_nil))))))) (.mk hL)))) rfl) (fun z => nomatch z) fun _ => ?_
      refine srn_seq1 (E a b c d (.d (rawD K raw)) (.d (prD K sh)) (.d (chD K aC aR (qsOf raw))) (.d (ratD aR (ratOf sh))) (.d (rowsL (families raw.length))) (.d (di (bestV raw sh))) (.d (rowsL (found raw sh))) (.d (rowsL (sRows raw.length))) .no) (sbn_asg1 (by decide) (EO.ed (eo_LI (families raw.length) (fun row => intsL row) (fun row => row.all fun c => decide (c ∈ lDual raw.length row)) (ed_var rfl) (by omega) (by decide) rfl fun row hr => (et_B (ed_cb (ea_cons (EO.ed (eo_L0 row (fun c => di c) (fun c => db (decide (c ∈ lDual raw.length row))) (ed_var rfl) ?_ (by decide) fun x hx => (ed_op (ed_var rfl) (ed_call (ea_cons (ed_is (ed_cb (ea_cons (ed_var rfl) ea_nil) cd_lenL) (by rw [List.length_map])) (ea_cons (ed_var rfl) ea_nil)) (.mk r4)) od_inL))) ea_nil) cd_allF)))) rfl) ?_
      · have := row_len (row_ok r4 hr) r4
        omega
      refine srn_seq1 (E a b c d (.d (rawD K raw)) (.d (prD K sh)) (.d (chD K aC aR (qsOf raw))) (.d (ratD aR (ratOf sh))) (.d (rowsL (families raw.length))) (.d (di (strictV raw sh))) (.d (rowsL (found raw sh))) (.d (rowsL (sRows raw.length))) (.d (rowsL (sFound raw sh)))) (sbn_asgT2 (by decide) (by decide) (ed_call (ea_cons (ed_var rfl) (ea_cons (ed_var rfl) (ea_cons (ed_var rfl) ea_nil))) (.mk hL.rw_ (by omega) (by omega) (fun row hr => row_ok r4 ((sRows_iff r4).mp hr).1) (by omega) (bests_strict ip))) rfl) ?_
      refine srn_when (b := false) (et_is (et_not (et_B (ed_call (ea_cons (ed_call (ea_cons (ed_var rfl) (ea_cons (ed_var rfl) ea_nil)) (.mk io q4 hv)) (ea_cons (ed_var rfl) (ea_cons (ed_op (ed_call (ea_cons (ed_var rfl) ea_nil) (.mk (by omega) (fun p hp => by have := hL.rw_.rg p hp; omega))) (ed_op (ed_var rfl) ed_c (od_ixT (i := 1) rfl)) (od_iC (cmul_of ub.1 (show sh.2.natAbs < 2 ^ 4 by omega) (by decide) (by decide)))) ea_nil))) (.mk (ms.mono (by decide)) (Nat.lt_of_lt_of_le bb (Nat.pow_le_pow_right (by decide) (by decide))) (Nat.lt_of_lt_of_le ub.2.1 (Nat.pow_le_pow_right (by decide) (by decide))))))) (by rw [his, decide_eq_true rfl]; rfl)) (fun z => nomatch z) fun _ => ?_
      refine srn_when (b := false) (et_is (et_test (ed_op (ed_call (ea_cons (ed_call (ea_cons (ed_var rfl) (ea_cons (ed_var rfl) ea_nil)) (.mk io hv)) ea_nil) (.mk c1 q4 sw.1 sw.2)) (ed_var rfl) od_notInLL)) ?_) (fun z => nomatch z) fun _ => ?_
      · rw [ql, decide_eq_true (strict_codes ip)]
        rfl
      exact srn_ret (ex_callMP (P0 := tP) (q0 := qL) (x0 := dscr K ns) rfl rfl (ea_cons (ed_var rfl) (ea_cons (ed_var rfl) (ea_cons (ed_var rfl) (ea_cons (ed_var rfl) (ea_cons (ed_var rfl) ea_nil))))) (.mk hL e0 (by omega)) fun r st2 er => er)
end
end Kb
end
section
/-! Kh1: the facts put together, printed by asm.py. -/
namespace Kb
open PySem PySem.Spec PyProof.Rows L2 M
structure Hd (K : PySem.W.Frag) (mg : Str → Option Value) (base : Heap) (aF aC aR aCODES tP : Addr) : Prop where
  B : Bi mg
  d_is_integer : DfG K mg "is_integer" (top 9)
  d_check_number : DfG K mg "check_number" (top 10)
  c_MOST_COPIES : ∃ t, mg "MOST_COPIES" = some (.int 8 t)
  d_lot_of : DfG K mg "lot_of" (top 14)
  d_others : DfG K mg "others" (top 15)
  d_all_lots : DfG K mg "all_lots" (top 16)
  d_holds : DfG K mg "holds" (top 19)
  d_meet : DfG K mg "meet" (top 20)
  d_middle_lots : DfG K mg "middle_lots" (top 21)
  cc : CodesAt K aCODES
  cn : mg "CODES" = some (.ref aCODES)
  d_code_of : DfG K mg "code_of" (top 17)
  d_ascending : DfG K mg "ascending" (top 18)
  d_least_lots : DfG K mg "least_lots" (top 23)
  kf : KFam K mg aF
  di_aF : ∃ f, Mk K aF f ∧ ∃ fd, FunD K "__init__" "Family.__init__" (defArgs (cdef 25 0)) (defBody (cdef 25 0)) (defScope (cdef 25 0)) [] [] f fd
  ds_aF_whole : DfS K aF "whole" "Family.whole" (cdef 25 1)
  dm_aF_contains : DfM K aF "contains" "Family.contains" (cdef 25 3)
  dm_aF_check_like : DfM K aF "check_like" "Family.check_like" (cdef 25 4)
  dm_aF___le__ : DfM K aF "__le__" "Family.__le__" (cdef 25 7)
  dm_aF___or__ : DfM K aF "__or__" "Family.__or__" (cdef 25 8)
  dm_aF_meets : DfM K aF "meets" "Family.meets" (cdef 25 15)
  dm_aF_is_strict : DfM K aF "is_strict" "Family.is_strict" (cdef 25 16)
  dm_aF_dual : DfM K aF "dual" "Family.dual" (cdef 25 17)
  d_common_part : DfG K mg "common_part" (top 27)
  kr : KRat K mg aR
  di_aR : ∃ f, Mk K aR f ∧ ∃ fd, FunD K "__init__" "Ratio.__init__" (defArgs (cdef 29 0)) (defBody (cdef 29 0)) (defScope (cdef 29 0)) [V.int 1] [] f fd
  d_ratio_of : DfG K mg "ratio_of" (top 28)
  dm_aR___eq__ : DfM K aR "__eq__" "Ratio.__eq__" (cdef 29 1)
  dm_aR___lt__ : DfM K aR "__lt__" "Ratio.__lt__" (cdef 29 2)
  dm_aR___le__ : DfM K aR "__le__" "Ratio.__le__" (cdef 29 3)
  dm_aR___gt__ : DfM K aR "__gt__" "Ratio.__gt__" (cdef 29 4)
  dm_aR___ge__ : DfM K aR "__ge__" "Ratio.__ge__" (cdef 29 5)
  dm_aR___add__ : DfM K aR "__add__" "Ratio.__add__" (cdef 29 6)
  dm_aR___sub__ : DfM K aR "__sub__" "Ratio.__sub__" (cdef 29 8)
  dm_aR___mul__ : DfM K aR "__mul__" "Ratio.__mul__" (cdef 29 10)
  dm_aR___rsub__ : DfM K aR "__rsub__" "Ratio.__rsub__" (cdef 29 9)
  ds_aR_half : DfS K aR "half" "Ratio.half" (cdef 29 14)
  d_total : DfG K mg "total" (top 30)
  c_MOST_UNDER : ∃ t, mg "MOST_UNDER" = some (.int 1000 t)
  d_check_chance : DfG K mg "check_chance" (top 33)
  kc : KCh K mg aC
  di_aC : ∃ f, Mk K aC f ∧ ∃ fd, FunD K "__init__" "Chances.__init__" (defArgs (cdef 34 0)) (defBody (cdef 34 0)) (defScope (cdef 34 0)) [] [] f fd
  dm_aC___len__ : DfM K aC "__len__" "Chances.__len__" (cdef 34 3)
  dm_aC___add__ : DfM K aC "__add__" "Chances.__add__" (cdef 34 5)
  dm_aC_chance_of : DfM K aC "chance_of" "Chances.chance_of" (cdef 34 7)
  d_check_share : DfG K mg "check_share" (top 36)
  d_whole_lot : DfG K mg "whole_lot" (top 44)
  d_gain_of : DfG K mg "gain_of" (top 39)
  d_middle_gains : DfG K mg "middle_gains" (top 43)
  d_most_worth : DfG K mg "most_worth" (top 45)
  d_least_writes : DfG K mg "least_writes" (top 46)
  d_greatest_writes : DfG K mg "greatest_writes" (top 47)
  d_level_lots : DfG K mg "level_lots" (top 49)
  d_is_best : DfG K mg "is_best" (top 48)
  d_weight_of : DfG K mg "weight_of" (top 54)
  d_is_heavier : DfG K mg "is_heavier" (top 55)
  d_heavy : DfG K mg "heavy" (top 56)
  d_check_meeting : DfG K mg "check_meeting" (top 37)
  d__law_ratios : DfG K mg "_law_ratios" (top 65)
  d__law_made : DfG K mg "_law_made" (top 66)
  d__law_power : DfG K mg "_law_power" (top 67)
  d__law_has : DfG K mg "_law_has" (top 68)
  d__law_lot : DfG K mg "_law_lot" (top 69)
  d__law_under : DfG K mg "_law_under" (top 71)
  d__law_is : DfG K mg "_law_is" (top 72)
  d__law_alone : DfG K mg "_law_alone" (top 70)
  d__law_codes_by_size : DfG K mg "_law_codes_by_size" (top 73)
  d__law_families : DfG K mg "_law_families" (top 74)
  d__law_dual : DfG K mg "_law_dual" (top 75)
  d__law_table : DfG K mg "_law_table" (top 79)
  d__law_family : DfG K mg "_law_family" (top 76)
  d__law_value : DfG K mg "_law_value" (top 78)
  d__law_bests : DfG K mg "_law_bests" (top 80)
  dt_growing_sets : DfT K mg base "growing_sets" (top 50) tP
  dm_aC_up : DfM K aC "up" "Chances.up" (cdef 34 9)
  d_worth : DfG K mg "worth" (top 38)
  d_strict_writes : DfG K mg "strict_writes" (top 57)
  d_most_strict : DfG K mg "most_strict" (top 58)
  d_is_best_strict : DfG K mg "is_best_strict" (top 59)
  c_MOST_COUNTED : ∃ t, mg "MOST_COUNTED" = some (.int 5 t)
  d_count_best : DfG K mg "count_best" (top 51)
  c_MOST_LISTED : ∃ t, mg "MOST_LISTED" = some (.int 4 t)
  d_best_writes : DfG K mg "best_writes" (top 52)
  d__law_draw : DfG K mg "_law_draw" (top 62)
  d__law_share : DfG K mg "_law_share" (top 64)
  d__law_start : DfG K mg "_law_start" (top 61)
  d__law_chances : DfG K mg "_law_chances" (top 63)
  d__law_codes : DfG K mg "_law_codes" (top 77)
  d__law_free_holds : DfG K mg "_law_free_holds" (top 81)
  d__law_some_hold : DfG K mg "_law_some_hold" (top 82)
  d_law : DfG K mg "law" (top 83)
  fs : ∃ f, PySem.W.findIn K (.ref aR) "__sub__" = some (some (.ref f))
  dm_aF_every : DfM K aF "every" "Family.every" stE
theorem law_all {P : Program} {w : World} {K : PySem.W.Frag} {mg : Str → Option Value} {base : Heap} {aF aC aR aCODES tP : Addr} (h : Hd K mg base aF aC aR aCODES tP) : GG P w K mg base 14 "law" (PT tP (Rlaw K)) := by
  have g_is_integer : GF P w K mg base 1 "is_integer" (Pr Ris_integer) := fn_is_integer h.B h.d_is_integer
  have g_check_number : GF P w K mg base 2 "check_number" (Pr Rcheck_number) := fn_check_number h.B g_is_integer h.d_check_number
  have g_lot_of : GF P w K mg base 3 "lot_of" (Pr (Rlot_of K)) := fn_lot_of h.B g_check_number h.c_MOST_COPIES h.d_lot_of
  have g_others : GF P w K mg base 4 "others" (Pr (Rothers K)) := fn_others h.B g_lot_of h.d_others
  have g_all_lots : GF P w K mg base 3 "all_lots" (Pr (Rall_lots K)) := fn_all_lots h.B g_check_number h.c_MOST_COPIES h.d_all_lots
  have g_holds : GF P w K mg base 1 "holds" (Pr (Rholds K)) := fn_holds h.B h.d_holds
  have g_meet : GF P w K mg base 1 "meet" (Pr (Rmeet K)) := fn_meet h.B h.d_meet
  have g_middle_lots : GF P w K mg base 4 "middle_lots" (Pr (Rmiddle_lots K)) := fn_middle_lots h.B g_all_lots h.d_middle_lots
  have g_code_of : GF P w K mg base 1 "code_of" (Pr (Rcode_of K)) := fn_code_of h.B h.cc h.cn h.d_code_of
  have g_ascending : GF P w K mg base 2 "ascending" (Pr (Rascending K)) := fn_ascending h.B g_code_of h.d_ascending
  have g_least_lots : GF P w K mg base 3 "least_lots" (Pr (Rleast_lots K)) := fn_least_lots h.B g_ascending g_holds h.d_least_lots
  have mk_Family : MF P w K mg base 4 "Family" (Pr (RFamily K aF)) := fn_Family h.B h.kf g_check_number g_lot_of g_least_lots h.c_MOST_COPIES h.di_aF
  have m_aF_whole : UF P w K mg base 6 aF "whole" (Pr (Rwhole K aF)) := fn_whole h.B g_check_number mk_Family h.c_MOST_COPIES h.ds_aF_whole
  have m_aF_contains : TF P w K mg base 2 aF "contains" (Pr (Rcontains K aF)) := fn_contains h.B h.kf g_holds h.dm_aF_contains
  have m_aF_check_like : TF P w K mg base 1 aF "check_like" (Pr (Rcheck_like K aF)) := fn_check_like h.B h.kf h.dm_aF_check_like
  have m_aF___le__ : OpF P w K mg base 3 aF "__le__" (Pr (Rle K aF)) := fn_le h.B h.kf m_aF_contains m_aF_check_like h.dm_aF___le__
  have m_aF___or__ : OpF P w K mg base 6 aF "__or__" (Pr (Ror K aF)) := fn_or h.B h.kf mk_Family m_aF_check_like h.dm_aF___or__
  have m_aF_meets : TF P w K mg base 2 aF "meets" (Pr (Rmeets K aF)) := fn_meets h.B h.kf g_meet m_aF_check_like h.dm_aF_meets
  have m_aF_is_strict : TF P w K mg base 3 aF "is_strict" (Pr (Ris_strict K aF)) := fn_is_strict h.B h.kf m_aF_meets h.dm_aF_is_strict
  have m_aF_dual : TF P w K mg base 6 aF "dual" (Pr (Rdual K aF)) := fn_dual h.B h.kf g_all_lots m_aF_contains g_others mk_Family h.dm_aF_dual
  have g_common_part : GF P w K mg base 1 "common_part" (Pr Rcommon_part) := fn_common_part h.B h.d_common_part
  have mk_Ratio : MF P w K mg base 3 "Ratio" (Pr (RRatio aR)) := fn_Ratio h.B h.kr g_check_number g_common_part h.di_aR
  have g_ratio_of : GF P w K mg base 5 "ratio_of" (Pr (Rratio_of aR)) := fn_ratio_of h.B h.kr g_is_integer mk_Ratio h.d_ratio_of
  have m_aR___eq__ : OpF P w K mg base 1 aR "__eq__" (Pr (Req aR)) := fn_req h.B h.kr h.dm_aR___eq__
  have m_aR___lt__ : OpF P w K mg base 6 aR "__lt__" (Pr (Rrlt aR)) := fn_rlt h.B h.kr g_ratio_of h.dm_aR___lt__
  have m_aR___le__ : OpF P w K mg base 6 aR "__le__" (Pr (Rrle aR)) := fn_rle h.B h.kr g_ratio_of h.dm_aR___le__
  have m_aR___gt__ : OpF P w K mg base 6 aR "__gt__" (Pr (Rrgt aR)) := fn_rgt h.B h.kr g_ratio_of h.dm_aR___gt__
  have m_aR___ge__ : OpF P w K mg base 6 aR "__ge__" (Pr (Rrge aR)) := fn_rge h.B h.kr g_ratio_of h.dm_aR___ge__
  have m_aR___add__ : OpF P w K mg base 6 aR "__add__" (Pr (Radd aR)) := fn_radd h.B h.kr g_ratio_of mk_Ratio h.dm_aR___add__
  have m_aR___sub__ : OpF P w K mg base 6 aR "__sub__" (Pr (Rsub aR)) := fn_rsub h.B h.kr g_ratio_of mk_Ratio h.dm_aR___sub__
  have m_aR___mul__ : OpF P w K mg base 6 aR "__mul__" (Pr (Rmul aR)) := fn_rmul h.B h.kr g_ratio_of mk_Ratio h.dm_aR___mul__
  have m_aR___rsub__ : OpF P w K mg base 7 aR "__rsub__" (Pr (Rrsub aR)) := fn_rrsub h.B h.kr g_ratio_of m_aR___sub__ h.dm_aR___rsub__
  have m_aR_half : UF P w K mg base 5 aR "half" (Pr (Rhalf aR)) := fn_half h.B mk_Ratio h.ds_aR_half
  have g_total : GF P w K mg base 7 "total" (Pr (Rtotal aR)) := fn_total h.B mk_Ratio m_aR___add__ h.d_total
  have g_check_chance : GF P w K mg base 7 "check_chance" (Pr (Rcheck_chance aR)) := fn_check_chance h.B h.kr m_aR_half m_aR___lt__ m_aR___ge__ h.c_MOST_UNDER h.d_check_chance
  have mk_Chances : MF P w K mg base 8 "Chances" (Pr (RChances K aC aR)) := fn_Chances h.B h.kc g_check_number g_check_chance h.c_MOST_COPIES h.di_aC
  have m_aC___len__ : OpF P w K mg base 1 aC "__len__" (Pr (Rlen K aC aR)) := fn_len h.B h.kc h.dm_aC___len__
  have m_aC___add__ : OpF P w K mg base 10 aC "__add__" (Pr (Rcadd K aC aR)) := fn_cadd h.B h.kc mk_Chances h.dm_aC___add__
  have m_aC_chance_of : TF P w K mg base 5 aC "chance_of" (Pr (Rchance_of K aC aR)) := fn_chance_of h.B h.kc h.kr mk_Ratio h.dm_aC_chance_of
  have g_check_share : GF P w K mg base 7 "check_share" (Pr (Rcheck_share aR)) := fn_check_share h.B h.kr m_aR___lt__ m_aR___gt__ h.c_MOST_UNDER h.d_check_share
  have g_whole_lot : GF P w K mg base 3 "whole_lot" (Pr (Rwhole_lot K aC aR)) := fn_whole_lot h.B m_aC___len__ h.d_whole_lot
  obtain ⟨fs0, hfs0⟩ := h.fs
  have rf : RatF P w K mg base aR := ⟨h.kr, mk_Ratio, m_aR_half, m_aR___lt__, m_aR___le__, m_aR___gt__, m_aR___ge__, m_aR___eq__, m_aR___add__, m_aR___sub__, m_aR___mul__, m_aR___rsub__, ⟨fs0, hfs0⟩, g_total⟩
  have g_gain_of : GF P w K mg base 8 "gain_of" (Pr (Rgain_of K aC aR)) := fn_gain_of h.B rf m_aC___len__ m_aC_chance_of g_others h.d_gain_of
  have g_middle_gains : GF P w K mg base 9 "middle_gains" (PrD (Rmiddle_gains K aC aR)) := fn_middle_gains h.B m_aC___len__ g_middle_lots g_gain_of h.d_middle_gains
  have g_most_worth : GF P w K mg base 10 "most_worth" (Pr (Rmost_worth K aC aR)) := fn_most_worth h.B rf g_check_share g_middle_gains g_gain_of g_whole_lot h.d_most_worth
  have g_least_writes : GF P w K mg base 10 "least_writes" (Pr (Rleast_writes K aF aC aR)) := fn_least_writes h.B rf g_check_share g_middle_gains g_whole_lot mk_Family m_aC___len__ h.d_least_writes
  have g_greatest_writes : GF P w K mg base 10 "greatest_writes" (Pr (Rgreatest_writes K aF aC aR)) := fn_greatest_writes h.B rf g_check_share g_middle_gains g_whole_lot mk_Family m_aC___len__ h.d_greatest_writes
  have g_level_lots : GF P w K mg base 10 "level_lots" (Pr (Rlevel_lots K aC aR)) := fn_level_lots h.B h.kr g_middle_gains h.d_level_lots
  have g_is_best : GF P w K mg base 11 "is_best" (Pr (Ris_best K aF aC aR)) := fn_is_best h.B h.kf g_check_share m_aC___len__ g_least_writes m_aF___le__ g_greatest_writes h.d_is_best
  have g_weight_of : GF P w K mg base 7 "weight_of" (Pr (Rweight_of K aC aR)) := fn_weight_of h.B rf h.kc h.d_weight_of
  have g_is_heavier : GF P w K mg base 8 "is_heavier" (Pr (Ris_heavier K aC aR)) := fn_is_heavier h.B rf g_weight_of g_others m_aC___len__ h.d_is_heavier
  have g_heavy : GF P w K mg base 9 "heavy" (Pr (Rheavy K aF aC aR)) := fn_heavy h.B g_all_lots m_aC___len__ g_is_heavier mk_Family h.d_heavy
  have g_check_meeting : GF P w K mg base 2 "check_meeting" (Pr (Rcheck_meeting K aF)) := fn_check_meeting h.B h.kf g_meet h.d_check_meeting
  have g__law_ratios : GF P w K mg base 5 "_law_ratios" (Pr (Rlaw_ratios K aR)) := fn_law_ratios h.B mk_Ratio h.d__law_ratios
  have g__law_made : GF P w K mg base 11 "_law_made" (Pr (Rlaw_made K aC aR)) := fn_law_made h.B g__law_ratios mk_Chances m_aC___add__ h.d__law_made
  have g__law_power : GF P w K mg base 1 "_law_power" (Pr Rlaw_power) := fn_law_power h.B h.d__law_power
  have g__law_has : GF P w K mg base 2 "_law_has" (Pr Rlaw_has) := fn_law_has h.B g__law_power h.d__law_has
  have g__law_lot : GF P w K mg base 3 "_law_lot" (Pr (Rlaw_lot K)) := fn_law_lot h.B g__law_has h.d__law_lot
  have g__law_under : GF P w K mg base 1 "_law_under" (Pr (Rlaw_under K)) := fn_law_under h.B h.d__law_under
  have g__law_is : GF P w K mg base 1 "_law_is" (Pr (Rlaw_is aR)) := fn_law_is h.B h.kr h.d__law_is
  have g__law_alone : GF P w K mg base 3 "_law_alone" (Pr (Rlaw_alone K)) := fn_law_alone h.B g__law_has h.d__law_alone
  have g__law_codes_by_size : GF P w K mg base 4 "_law_codes_by_size" (Pr Rlaw_codes_by_size) := fn_law_codes_by_size h.B g__law_power g__law_lot h.d__law_codes_by_size
  have g__law_families : GF P w K mg base 5 "_law_families" (Pr Rlaw_families) := fn_law_families h.B g__law_power g__law_codes_by_size g__law_has h.d__law_families
  have g__law_dual : GF P w K mg base 2 "_law_dual" (Pr Rlaw_dual) := fn_law_dual h.B g__law_power h.d__law_dual
  have g__law_table : GF P w K mg base 4 "_law_table" (Pr (Rlaw_table K)) := fn_law_table h.B g__law_power g__law_alone h.d__law_table
  have g__law_family : GF P w K mg base 7 "_law_family" (Pr (Rlaw_family K aF)) := fn_law_family h.B h.kf m_aF_whole mk_Family g__law_lot m_aF___or__ h.d__law_family
  have g__law_value : GF P w K mg base 3 "_law_value" (Pr (Rlaw_value K)) := fn_law_value h.B g__law_dual h.d__law_value
  have g__law_bests : GF P w K mg base 5 "_law_bests" (Pr (Rlaw_bests K)) := fn_law_bests h.B g__law_table g__law_value h.d__law_bests
  have g_growing_sets : GF P w K mg base 2 "growing_sets" (PT tP (Rgrowing_sets K)) := fn_growing_sets h.B g_holds h.dt_growing_sets
  have ev : EvK P w K mg base aF := ⟨g_all_lots, m_aF_contains, h.kf, h.dm_aF_every⟩
  have m_aC_up : TF P w K mg base 8 aC "up" (Pr (Rup K aF aC aR)) := fn_up h.B ev h.kc g_total m_aC_chance_of h.dm_aC_up
  have g_worth : GF P w K mg base 9 "worth" (Pr (Rworth K aF aC aR)) := fn_worth h.B rf h.kc g_check_share g_check_meeting m_aC___len__ m_aC_up h.d_worth
  have g_strict_writes : GF P w K mg base 11 "strict_writes" (Pr (Rstrict_writes K aF aC aR)) := fn_strict_writes h.B rf g_check_share g_least_writes g_heavy h.d_strict_writes
  have g_most_strict : GF P w K mg base 11 "most_strict" (Pr (Rmost_strict K aC aR)) := fn_most_strict h.B rf h.kc g_check_share g_most_worth m_aC_up g_heavy h.d_most_strict
  have g_is_best_strict : GF P w K mg base 12 "is_best_strict" (Pr (Ris_best_strict K aF aC aR)) := fn_is_best_strict h.B h.kf rf g_check_share m_aC___len__ m_aF_is_strict g_worth m_aF_dual g_most_strict h.d_is_best_strict
  have g_count_best : GF P w K mg base 11 "count_best" (PT tP (Rcount_best K aC aR)) := fn_count_best h.B g_check_share m_aC___len__ h.c_MOST_COUNTED g_growing_sets g_level_lots h.d_count_best
  have g_best_writes : GF P w K mg base 11 "best_writes" (PT tP (Rbest_writes K aF aC aR)) := fn_best_writes h.B h.kf g_check_share m_aC___len__ h.c_MOST_LISTED g_least_writes g_growing_sets g_level_lots mk_Family h.d_best_writes
  have g__law_draw : GF P w K mg base 1 "_law_draw" (PM (Rlaw_draw K)) := fn_law_draw h.B h.d__law_draw
  have g__law_share : GF P w K mg base 2 "_law_share" (PM (Rlaw_share K)) := fn_law_share h.B g__law_draw h.d__law_share
  have g__law_start : GF P w K mg base 1 "_law_start" (PrO (Rlaw_start K)) := fn_law_start h.B h.d__law_start
  have g__law_chances : GF P w K mg base 2 "_law_chances" (PM (Rlaw_chances K)) := fn_law_chances h.B g__law_draw h.d__law_chances
  have g__law_codes : GF P w K mg base 6 "_law_codes" (Pr (Rlaw_codes K aF)) := fn_law_codes h.B ev g__law_power h.d__law_codes
  have g__law_free_holds : GG P w K mg base 12 "_law_free_holds" (PT tP (Rlaw_free_holds K aC aR)) := fn_law_free_holds h.B g__law_power g__law_is g__law_under g_most_worth g__law_codes g_least_writes g_greatest_writes g_best_writes g_count_best h.d__law_free_holds
  have g__law_some_hold : GF P w K mg base 13 "_law_some_hold" (PM (Rlaw_some_hold K aC aR)) := fn_law_some_hold h.B g__law_draw g__law_family m_aC___len__ g_is_best g_is_best_strict h.d__law_some_hold
  have g_law : GG P w K mg base 14 "law" (PT tP (Rlaw K)) := fn_law h.B g__law_start g__law_chances g__law_draw g__law_share g__law_made mk_Ratio g__law_families g__law_bests g__law_free_holds g__law_dual g__law_is g__law_under g_most_strict g__law_codes g_strict_writes g__law_some_hold h.d_law
  exact g_law
end Kb
end
section
/-! K40: facts out of what the head tells. -/
namespace Kb
open PySem PySem.Spec PyProof.Rows L2 He
theorem funAt {K : PySem.W.Frag} {a : Addr} {m qual : Str} {st : Stmt} (e : fnAt K a = fnVal m qual st) (c : okAt K a qual = true) : ∃ fd, FunD K m qual (defArgs st) (defBody st) (defScope st) [] [] a fd := by
  obtain ⟨kp, c2⟩ := ba c
  unfold fnAt fnVal at e
  cases q : K.lookup a with
  | none => rw [q] at c2; cases c2
  | some o =>
    obtain ⟨oc, od, dt, osl⟩ := o
    rw [q] at c2 e
    cases dt with
    | func fd =>
      obtain ⟨n1, n2, n3, n4, n5, n6, n7, n8, n9, n10, n11, n12, n13, n14, n15⟩ := fd
      have e2 : (some (n1, n2, n3, n4, n5, n6, n7, n15) : FnW) = some (m, qual, defArgs st, .stmts (defBody st), defScope st, mainGlobals, [], builtinsNs) := e
      simp only [Option.some.injEq, Prod.mk.injEq] at e2
      obtain ⟨h1, h2, h3, h4, h5, h6, h7, h8⟩ := e2
      subst h1 h2 h3 h4 h5 h6 h7 h8
      have c3 : (PySem.W.codeIn K n13 n2 && isNo n8) = true := c2
      obtain ⟨k1, k2⟩ := ba c3
      have e8 : n8 = .none := by
        cases n8 <;> first
          | rfl
          | cases k2
      exact ⟨_, ⟨oc, od, n8, n9, n10, n11, n12, n13, n14, osl, rfl, q, k1, (.inl ⟨rfl, e8⟩), .inl rfl⟩, kp⟩
    | _ => cases c2
theorem dfS_of {K : PySem.W.Frag} {C m qual : Str} {st : Stmt} (c1 : isStat K C m = true) (c2 : isRec K C m = true) (c3 : clsRead K C = true) (e : fnAt K (stAd C m K) = fnVal m qual st) (c4 : okAt K (stAd C m K) qual = true) : DfS K (ga K C) m qual st := by
  obtain ⟨fd, F⟩ := funAt e c4
  obtain ⟨r1, r2⟩ := ba c3
  have q1 : PySem.W.findCls K (.ref (ga K C)) (.type "type") m = some (.get (.builtin "staticmethod.__get__") (.ref (stP C m K)) .none (.ref (ga K C))) := by
    unfold isStat at c1
    unfold stP
    split at c1
    · rename_i b p c q
      obtain ⟨z1, z2⟩ := ba c1
      rw [q, of_decide_eq_true z1, of_decide_eq_true z2]
    · cases c1
  have q2 : ∃ rest, PySem.W.recIn K (stP C m K) "staticmethod" = some (.ref (stAd C m K) :: rest) := by
    unfold isRec at c2
    unfold stAd
    split at c2
    · rename_i f r q
      exact ⟨r, by rw [q]⟩
    · cases c2
  exact ⟨stAd C m K, stP C m K, .type "type", F.kp, ⟨r1, eqO_ok r2⟩, q1, q2, fd, F⟩
section
variable {fa : List Fa} {fn : List DefD} {ex : PySem.W.Frag → Bool} {st : List (Str × Str)} {sv : List FnW} {p : Defn} {h h0 base : Heap} {K : PySem.W.Frag} {mg : Str → Option Value} {x C m qual : Str} {sm : Stmt}
theorem SaysH.gl (S : SaysH fa fn ex st sv p h0 K) (X : K.In h) (G : h.Ns mainGlobals mg) (i : Nat) (e : fa[i]? = some (.glo x)) : mg x = some (.ref (ga K x)) := glo_ok X G (S.d.fact i e)
theorem SaysH.dfG (S : SaysH fa fn ex st sv p h0 K) (X : K.In h) (G : h.Ns mainGlobals mg) (i j : Nat) (e : fa[i]? = some (.glo x)) (e2 : fn[j]? = some ⟨(x, none), x, x, defArgs sm, defBody sm, defScope sm, [], []⟩) : DfG K mg x sm := ⟨_, S.gl X G i e, S.d.def_ j e2⟩
theorem SaysH.dfM (S : SaysH fa fn ex st sv p h0 K) (i j : Nat) (e : fa[i]? = some (.meth C m)) (e2 : fn[j]? = some ⟨(C, some m), m, qual, defArgs sm, defBody sm, defScope sm, [], []⟩) : DfM K (ga K C) m qual sm := ⟨_, meth_ok (S.d.fact i e), S.d.def_ j e2⟩
theorem SaysH.mkr (S : SaysH fa fn ex st sv p h0 K) {dv : List Dv} (i j : Nat) (e : fa[i]? = some (.mkr C)) (e2 : fn[j]? = some ⟨(C, some "__init__"), "__init__", qual, defArgs sm, defBody sm, defScope sm, dv, []⟩) :
    ∃ f, Mk K (ga K C) f ∧ ∃ fd, FunD K "__init__" qual (defArgs sm) (defBody sm) (defScope sm) (dv.map (Dv.v K)) [] f fd := ⟨_, mkr_ok (S.d.fact i e), S.d.def_ j e2⟩
theorem SaysH.dfS (S : SaysH fa fn ex st sv p h0 K) (i : Nat) (e : st[i]? = some (C, m)) (e2 : sv[i]? = some (fnVal m qual sm)) (c1 : isStat K C m = true) (c2 : isRec K C m = true) (c3 : clsRead K C = true) (c4 : okAt K (stAd C m K) qual = true) : DfS K (ga K C) m qual sm := by
  have z := congrArg (fun l : List FnW => l[i]?) S.st
  have z : (st.map (fun q => fnAt K (stAd q.1 q.2 K)))[i]? = sv[i]? := z
  rw [List.getElem?_map, e, e2] at z
  exact dfS_of c1 c2 c3 (Option.some.inj z) c4
theorem SaysH.dfT (S : SaysH fa fn ex st sv (x, none) h0 K) (X : K.In h) (G : h.Ns mainGlobals mg) (i j : Nat) (e : fa[i]? = some (.glo x)) (e2 : fn[j]? = some ⟨(x, none), x, x, defArgs sm, defBody sm, defScope sm, [], []⟩) (T : LamX.TabB base mg (cT K (x, none)).1 (cT K (x, none)).2) : DfT K mg base x sm (cT K (x, none)).2 := by
  obtain ⟨fd, F⟩ := S.d.def_ j e2
  obtain ⟨oc, od, dV, kV, doc, pm, an, cdv, ct, osl, rfl, lk, hc, hd, hk⟩ := F.ex
  obtain ⟨c, rfl⟩ := codeIn_ref hc
  have lk2 : K.lookup (fAd K (x, none)) = some ⟨oc, od, .func (PySem.W.fnOf x x (defArgs sm) (defBody sm) (defScope sm) dV kV doc pm an (.ref c) ct), osl⟩ := lk
  have e3 : codeOf K (x, none) = c := codeOf_eq lk2 rfl
  refine ⟨c, ga K x, _, oc, od, dV, kV, doc, pm, an, ct, osl, S.gl X G i e, F.kp, rfl, lk, hc, hd, hk, ?_⟩
  have T : LamX.TabB base mg (codeOf K (x, none)) (cT K (x, none)).2 := T
  rw [e3] at T
  exact T
theorem isC_of {C : Addr} (g1 : eqO (PySem.W.specialIn K (.builtin "object.__class__") "__get__") (some (some (.builtin "getset_descriptor.__get__"))) = true) (g2 : decide (PySem.W.takesIn K (.builtin "object.__class__") = some true) = true) (g3 : decide (PySem.W.mroIn K C (.type "object") = some true) = true) (c : Cls K C) (h1 : eqO (PySem.W.findIn K (.ref C) "__class__") (some (some (.builtin "object.__class__"))) = true) (h2 : decide (PySem.W.kitOne K (.ref C) (.ref C) = some true) = true) (h3 : decide (PySem.W.kitOne K (.type "int") (.ref C) = some false) = true) : IsC K C := ⟨fun e => .base (.ins e c (eqO_ok h1) (eqO_ok g1) (of_decide_eq_true g2) (of_decide_eq_true g3)), of_decide_eq_true h2, of_decide_eq_true h3⟩
theorem all_at {l : List Bool} (h : l.all id = true) (i : Nat) {b : Bool} (e : l[i]? = some b) : b = true := List.all_eq_true.mp h b (List.mem_of_getElem? e)
end
end Kb
end
section
set_option maxHeartbeats 0
/-! Kh3: the facts out of the head, printed by h3.py. -/
namespace Kb
open PySem PySem.Spec PyProof.Rows L2 He
abbrev SH (h0 : Heap) (K : PySem.W.Frag) : Prop := SaysH hfa hfn hex hst hsv hp0 h0 K
theorem hd_of {h0 h base : Heap} {K : PySem.W.Frag} {mg : Str → Option Value} (S : SH h0 K) (X : K.In h) (G : h.Ns mainGlobals mg) (T : LamX.TabB base mg (cT K hp0).1 (cT K hp0).2) (x : (hexL K).all id = true) : Hd K mg base (ga K "Family") (ga K "Chances") (ga K "Ratio") (ga K "CODES") (cT K hp0).2 where
  B := ⟨free_ok X G (S.d.fact 98 rfl), free_ok X G (S.d.fact 99 rfl), free_ok X G (S.d.fact 100 rfl), free_ok X G (S.d.fact 101 rfl), free_ok X G (S.d.fact 102 rfl), free_ok X G (S.d.fact 103 rfl), free_ok X G (S.d.fact 104 rfl), free_ok X G (S.d.fact 105 rfl), free_ok X G (S.d.fact 106 rfl), free_ok X G (S.d.fact 107 rfl), free_ok X G (S.d.fact 108 rfl), free_ok X G (S.d.fact 109 rfl), free_ok X G (S.d.fact 110 rfl), free_ok X G (S.d.fact 111 rfl)⟩
  d_is_integer := S.dfG X G 0 0 rfl rfl
  d_check_number := S.dfG X G 1 1 rfl rfl
  c_MOST_COPIES := int_ok X G (S.d.fact 2 rfl)
  d_lot_of := S.dfG X G 3 2 rfl rfl
  d_others := S.dfG X G 4 3 rfl rfl
  d_all_lots := S.dfG X G 5 4 rfl rfl
  d_holds := S.dfG X G 6 5 rfl rfl
  d_meet := S.dfG X G 7 6 rfl rfl
  d_middle_lots := S.dfG X G 8 7 rfl rfl
  cc := fun H => tupB_ok (all_at x 19 rfl) H
  cn := S.gl X G 92 rfl
  d_code_of := S.dfG X G 9 8 rfl rfl
  d_ascending := S.dfG X G 10 9 rfl rfl
  d_least_lots := S.dfG X G 11 10 rfl rfl
  kf := ⟨cls_ok (S.d.fact 87 rfl), noat_ok (S.d.fact 93 rfl), noat_ok (S.d.fact 94 rfl), isC_of (all_at x 0 rfl) (all_at x 1 rfl) (all_at x 2 rfl) (cls_ok (S.d.fact 87 rfl)) (all_at x 3 rfl) (all_at x 5 rfl) (all_at x 6 rfl), S.gl X G 86 rfl, (all_at x 4 rfl)⟩
  di_aF := S.mkr (dv := []) 12 11 rfl rfl
  ds_aF_whole := S.dfS 0 rfl rfl (all_at x 20 rfl) (all_at x 21 rfl) (all_at x 22 rfl) (all_at x 23 rfl)
  dm_aF_contains := S.dfM 13 12 rfl rfl
  dm_aF_check_like := S.dfM 14 13 rfl rfl
  dm_aF___le__ := S.dfM 15 14 rfl rfl
  dm_aF___or__ := S.dfM 16 15 rfl rfl
  dm_aF_meets := S.dfM 17 16 rfl rfl
  dm_aF_is_strict := S.dfM 18 17 rfl rfl
  dm_aF_dual := S.dfM 19 18 rfl rfl
  d_common_part := S.dfG X G 20 19 rfl rfl
  kr := ⟨cls_ok (S.d.fact 91 rfl), noat_ok (S.d.fact 96 rfl), noat_ok (S.d.fact 97 rfl), isC_of (all_at x 0 rfl) (all_at x 1 rfl) (all_at x 12 rfl) (cls_ok (S.d.fact 91 rfl)) (all_at x 13 rfl) (all_at x 15 rfl) (all_at x 16 rfl), S.gl X G 90 rfl, (all_at x 14 rfl), (all_at x 17 rfl), of_decide_eq_true (all_at x 18 rfl)⟩
  di_aR := S.mkr (dv := [.int 1]) 21 20 rfl rfl
  d_ratio_of := S.dfG X G 22 21 rfl rfl
  dm_aR___eq__ := S.dfM 23 22 rfl rfl
  dm_aR___lt__ := S.dfM 24 23 rfl rfl
  dm_aR___le__ := S.dfM 25 24 rfl rfl
  dm_aR___gt__ := S.dfM 26 25 rfl rfl
  dm_aR___ge__ := S.dfM 27 26 rfl rfl
  dm_aR___add__ := S.dfM 28 27 rfl rfl
  dm_aR___sub__ := S.dfM 29 28 rfl rfl
  dm_aR___mul__ := S.dfM 30 29 rfl rfl
  dm_aR___rsub__ := S.dfM 31 30 rfl rfl
  ds_aR_half := S.dfS 1 rfl rfl (all_at x 24 rfl) (all_at x 25 rfl) (all_at x 26 rfl) (all_at x 27 rfl)
  d_total := S.dfG X G 32 31 rfl rfl
  c_MOST_UNDER := int_ok X G (S.d.fact 33 rfl)
  d_check_chance := S.dfG X G 34 32 rfl rfl
  kc := ⟨cls_ok (S.d.fact 89 rfl), noat_ok (S.d.fact 95 rfl), isC_of (all_at x 0 rfl) (all_at x 1 rfl) (all_at x 7 rfl) (cls_ok (S.d.fact 89 rfl)) (all_at x 8 rfl) (all_at x 10 rfl) (all_at x 11 rfl), S.gl X G 88 rfl, (all_at x 9 rfl)⟩
  di_aC := S.mkr (dv := []) 35 33 rfl rfl
  dm_aC___len__ := S.dfM 36 34 rfl rfl
  dm_aC___add__ := S.dfM 37 35 rfl rfl
  dm_aC_chance_of := S.dfM 38 36 rfl rfl
  d_check_share := S.dfG X G 39 37 rfl rfl
  d_whole_lot := S.dfG X G 40 38 rfl rfl
  d_gain_of := S.dfG X G 41 39 rfl rfl
  d_middle_gains := S.dfG X G 42 40 rfl rfl
  d_most_worth := S.dfG X G 43 41 rfl rfl
  d_least_writes := S.dfG X G 44 42 rfl rfl
  d_greatest_writes := S.dfG X G 45 43 rfl rfl
  d_level_lots := S.dfG X G 46 44 rfl rfl
  d_is_best := S.dfG X G 47 45 rfl rfl
  d_weight_of := S.dfG X G 48 46 rfl rfl
  d_is_heavier := S.dfG X G 49 47 rfl rfl
  d_heavy := S.dfG X G 50 48 rfl rfl
  d_check_meeting := S.dfG X G 51 49 rfl rfl
  d__law_ratios := S.dfG X G 52 50 rfl rfl
  d__law_made := S.dfG X G 53 51 rfl rfl
  d__law_power := S.dfG X G 54 52 rfl rfl
  d__law_has := S.dfG X G 55 53 rfl rfl
  d__law_lot := S.dfG X G 56 54 rfl rfl
  d__law_under := S.dfG X G 57 55 rfl rfl
  d__law_is := S.dfG X G 58 56 rfl rfl
  d__law_alone := S.dfG X G 59 57 rfl rfl
  d__law_codes_by_size := S.dfG X G 60 58 rfl rfl
  d__law_families := S.dfG X G 61 59 rfl rfl
  d__law_dual := S.dfG X G 62 60 rfl rfl
  d__law_table := S.dfG X G 63 61 rfl rfl
  d__law_family := S.dfG X G 64 62 rfl rfl
  d__law_value := S.dfG X G 65 63 rfl rfl
  d__law_bests := S.dfG X G 66 64 rfl rfl
  dt_growing_sets := S.dfT X G 67 65 rfl rfl T
  dm_aC_up := S.dfM 68 66 rfl rfl
  d_worth := S.dfG X G 69 67 rfl rfl
  d_strict_writes := S.dfG X G 70 68 rfl rfl
  d_most_strict := S.dfG X G 71 69 rfl rfl
  d_is_best_strict := S.dfG X G 72 70 rfl rfl
  c_MOST_COUNTED := int_ok X G (S.d.fact 73 rfl)
  d_count_best := S.dfG X G 74 71 rfl rfl
  c_MOST_LISTED := int_ok X G (S.d.fact 75 rfl)
  d_best_writes := S.dfG X G 76 72 rfl rfl
  d__law_draw := S.dfG X G 77 73 rfl rfl
  d__law_share := S.dfG X G 78 74 rfl rfl
  d__law_start := S.dfG X G 79 75 rfl rfl
  d__law_chances := S.dfG X G 80 76 rfl rfl
  d__law_codes := S.dfG X G 81 77 rfl rfl
  d__law_free_holds := S.dfG X G 82 78 rfl rfl
  d__law_some_hold := S.dfG X G 83 79 rfl rfl
  d_law := S.dfG X G 84 80 rfl rfl
  fs := ⟨_, (meth_ok (S.d.fact 29 rfl)).at_⟩
  dm_aF_every := S.dfM 85 81 rfl rfl
end Kb
end
section
/-! K38: the end: from a promise that asks for a table to the row. -/
namespace Kb
open PySem PySem.Spec PyProof.Rows L2
/-- what is tracked at the law's call: the table, the script if it is new -/
def hpAt (T a : Addr) (S : Option HO) : Hp := fun b => if b = T then some (.tbl #[]) else if b = a then S else none
def hpB (a : Addr) (S : Option HO) : Hp := fun b => if b = a then S else none
theorem hpAt_T {T a : Addr} {S : Option HO} : hpAt T a S T = some (.tbl #[]) := if_pos rfl
theorem hpAt_ne {T a b : Addr} {S : Option HO} (h : b ≠ T) : hpAt T a S b = hpB a S b := if_neg h
theorem hpB_ne {a b : Addr} {S : Option HO} (h : b ≠ a) : hpB a S b = none := if_neg h
theorem hpB_a {a : Addr} {S : Option HO} : hpB a S a = S := if_pos rfl
structure Row0 (P : Program) (w : World) (K : PySem.W.Frag) (mg mb : Str → Option Value) (c T a : Addr) (s : Shared) (vs : List Value) (ns : List Int) : Prop where
  kin : K.In s.heap
  g : s.heap.Ns mainGlobals mg
  b : s.heap.Ns builtinsNs mb
  bb : ∀ x : Str, x ≠ "__name__" → mb x = bootBuiltins x
  lim : s.heap.NoLimit
  gens : s.gens = #[]
  tab : s.heap.get? T = some { cls := .none, data := .fields #[] }
  out : K.lookup T = none
  hd : PySem.W.CodeHd s.heap c T
  bm : ∃ (m : Addr) (ob : Obj), mg "__builtins__" = some (.ref m) ∧ m ≠ builtinsNs ∧ s.heap.get? m = some ob ∧ ob.cls = .type "module" ∧ ob.dict = some builtinsNs ∧ ob.data = .plain
  scr : s.heap.get? a = some { cls := .type "list", data := .seq vs.toArray }
  iv : IntsAre vs ns
  few : ns.length ≤ sizeLine
section
variable {P : Program} {w : World} {K : PySem.W.Frag} {mg mb : Str → Option Value} {c T a fa : Addr} {s : Shared} {vs : List Value} {ns : List Int} {S : Option HO} {k : Nat}
/-- the script as it is tracked -/
abbrev frzL (vs : List Value) (ns : List Int) : HO := .frz { cls := .type "list", data := .seq vs.toArray } (.lst (ns.map V.int))
def Scr (K : PySem.W.Frag) (a : Addr) (vs : List Value) (ns : List Int) (S : Option HO) : Prop := S = none ∨ (S = some (frzL vs ns) ∧ K.lookup a = none)
theorem Row0.at_ (R : Row0 P w K mg mb c T a s vs ns) {b : Addr} {o : Obj} (e : s.heap.get? b = some o) (h1 : o.data ≠ .fields #[]) (h2 : ∀ v n, o.data ≠ .seq v n) : hpAt T a S b = none := by
  have z1 : b ≠ T := fun z => by
    rw [z, R.tab] at e
    exact h1 (congrArg Obj.data (Option.some.inj e)).symm
  have z2 : b ≠ a := fun z => by
    rw [z, R.scr] at e
    exact h2 _ _ (congrArg Obj.data (Option.some.inj e)).symm
  rw [hpAt_ne z1, hpB_ne z2]
theorem Row0.nsp (R : Row0 P w K mg mb c T a s vs ns) {b : Addr} {m : Str → Option Value} (h : s.heap.Ns b m) : (hidT s.heap (hpAt T a S)).Ns b m := by
  obtain ⟨o, es, ep, e, d, r⟩ := h
  refine ⟨o, es, ep, hidT_get e (R.at_ e ?_ ?_), d, r⟩
  · rw [d]
    exact fun z => by cases z
  · rw [d]
    exact fun v n z => by cases z
theorem Row0.kb (R : Row0 P w K mg mb c T a s vs ns) (q : Scr K a vs ns S) : K.In (hidT s.heap (hpAt T a S)) := fun b o e => by
  refine hidT_get (R.kin b o e) ?_
  have z1 : b ≠ T := fun z => by
    rw [z, R.out] at e
    cases e
  rw [hpAt_ne z1]
  by_cases z2 : b = a
  · rcases q with rfl | ⟨_, n⟩
    · rw [z2]
      exact hpB_a
    · rw [z2, n] at e
      cases e
  · exact hpB_ne z2
theorem Row0.tabB (R : Row0 P w K mg mb c T a s vs ns) : LamX.TabB (hidT s.heap (hpAt T a S)) mg c T := by
  refine ⟨?_, ?_, fun z => ?_⟩
  · obtain ⟨o, us, f, tf, fl, tg, inF, tx, tt, e, k1, k2, kr⟩ := R.hd
    refine ⟨o, us, f, tf, fl, tg, inF, tx, tt, hidT_get e (R.at_ e ?_ ?_), k1, k2, kr⟩
    · rw [k2]
      intro z
      have h := kr.1
      cases z
      simp at h
    · rw [k2]
      exact fun v n z => by cases z
  · obtain ⟨m, ob, b1, b2, b3, b4, b5, b6⟩ := R.bm
    refine ⟨m, ob, b1, b2, fun z => ?_, fun z => ?_, hidT_get b3 (R.at_ b3 ?_ ?_), b4, b5, b6⟩
    · obtain ⟨o, es, ep, e, d, _⟩ := R.g
      rw [z, e] at b3
      cases b3
      rw [d] at b6
      cases b6
    · rw [z, R.tab] at b3
      cases b3
      cases b6
    · rw [b6]
      exact fun z => by cases z
    · rw [b6]
      exact fun v n z => by cases z
  · obtain ⟨o, es, ep, e, d, _⟩ := R.g
    rw [z, R.tab] at e
    cases e
    cases d
theorem Row0.hok (R : Row0 P w K mg mb c T a s vs ns) (q : Scr K a vs ns S) : HOk P w (hpAt T a S) s.heap := fun b u e => by
  by_cases z : b = T
  · subst z
    rw [hpAt_T] at e
    cases e
    exact R.tab
  · rw [hpAt_ne z] at e
    by_cases z2 : b = a
    · subst z2
      rw [hpB_a] at e
      rcases q with rfl | ⟨rfl, _⟩
      · cases e
      · cases e
        exact ⟨R.scr, (List.length_map (f := V.int) (as := ns)).symm ▸ R.few, vs, _, vals_ints R.iv, R.scr⟩
    · rw [hpB_ne z2] at e
      cases e
theorem Row0.env (R : Row0 P w K mg mb c T a s vs ns) (q : Scr K a vs ns S) : Env0 P w K mg (hidT s.heap (hpAt T a S)) callerA [] s (hpAt T a S) where
  frames := rfl
  mod := ⟨R.kb q, R.nsp R.g, ⟨mb, R.nsp R.b, R.bb⟩, let ⟨m, h1, h2⟩ := R.lim; ⟨m, R.nsp h1, h2⟩⟩
  bs := fun _ _ e => of_hidT e
  bsz := Nat.le_of_eq (hidT_size _ _)
  funs := trivial
  frf := fun _ hb => nomatch hb
  hok := R.hok q
  bare := .of_eq R.gens
/-- behind the call all is as it was, but for the table -/
theorem Row0.old (R : Row0 P w K mg mb c T a s vs ns) (q : Scr K a vs ns S) {s' : Shared} {H' : Hp} (un : Un (frs []) [] (hpAt T a S) H' s.heap s'.heap) (hok : HOk P w H' s'.heap) : OldK s.heap s'.heap := by
  obtain ⟨more, tm⟩ := un.tbls T #[] hpAt_T
  have tm' : s'.heap.get? T = some { cls := .none, data := .fields (#[] ++ more) } := hok T _ tm
  rw [Array.empty_append] at tm'
  have keep : ∀ b o, b ≠ T → s.heap.get? b = some o → s'.heap.get? b = some o := fun b o z e => by
    cases h : hpAt T a S b with
    | none => exact un.keep b o e h (fun y => nomatch y) (fun y => nomatch y)
    | some u =>
      have h2 : hpB a S b = some u := by rw [← hpAt_ne z]; exact h
      by_cases z2 : b = a
      · subst z2
        rw [hpB_a] at h2
        rcases q with y | ⟨y, _⟩
        · rw [y] at h2
          cases h2
        · rw [y] at h2
          cases h2
          have w2 := hok b _ (un.frzs b _ _ h)
          rw [R.scr] at e
          cases e
          exact w2.1
      · rw [hpB_ne z2] at h2
        cases h2
  refine ⟨fun b o e => ?_, fun b o e => ?_⟩
  · by_cases z : b = T
    · subst z
      rw [R.tab] at e
      cases e
      exact .inr (.inl ⟨(R.hd.tab R.tab).isCodeTable, rfl, #[], more, rfl, by rw [Array.empty_append]; exact tm'⟩)
    · exact .inl (keep b o z e)
  · by_cases z : b = T
    · exact ⟨_, by rw [z]; exact tm'⟩
    · exact ⟨o, keep b o z e⟩
/-- the row's claim -/
theorem Row0.law (R : Row0 P w K mg mb c T a s vs ns) (hr : Room k callerA)
    (F : ∀ base : Heap, K.In base → base.Ns mainGlobals mg → LamX.TabB base mg c T → FnRG P w K mg base CX0 k fa (PT T (Rlaw K))) :
    codeAny (model P w) callerA (.call (.ref fa) ⟨[.ref a], []⟩) (fun r s' => r = .ok (.ret (.bool true)) ∧ OldK s.heap s'.heap ∧ s'.os = s.os ∧ AllBare s'.gens) s := by
  have main : ∀ S : Option HO, Scr K a vs ns S → SqL K (hpB a S) a (ns.map V.int) → codeAny (model P w) callerA (.call (.ref fa) ⟨[.ref a], []⟩) (fun r s' => r = .ok (.ret (.bool true)) ∧ OldK s.heap s'.heap ∧ s'.os = s.os ∧ AllBare s'.gens) s := fun S q l => by
    have ex : Ex (hpB a S) (hpAt T a S) := fun b u e => by
      have z : b ≠ T := fun y => by
        have ne : T ≠ a := fun y2 => by
          have e2 := R.scr
          rw [← y2, R.tab] at e2
          cases e2
        rw [y, hpB_ne ne] at e
        cases e
      rw [hpAt_ne z]
      exact e
    have nT : hpB a S T = none := hpB_ne fun y2 => by
      have e2 := R.scr
      rw [← y2, R.tab] at e2
      cases e2
    refine codeAny_mono (F _ (R.kb q) (R.nsp R.g) R.tabB callerA [] s (hpAt T a S) [.ref a] [.ref a] (fun v _ => v = .bl true) (fun _ _ _ => False) rfl hr (R.env q) (.cons rfl .nil) ⟨[dscr K ns], db true, hpB a S, .mk, ex, .cons ⟨a, rfl, l⟩ .nil, LamX.TabS.nil hpAt_T, nT, fun v _ _ _ p => p⟩) fun r s' h => ?_
    cases r with
    | error e => exact (h : False).elim
    | ok fl =>
      cases fl with
      | ret u =>
        obtain ⟨v, H', os, bare, un, hok', r', q'⟩ := h
        have q2 : v = .bl true := q'
        subst q2
        obtain rfl : u = Value.bool true := r'
        exact ⟨rfl, R.old q un hok', os, bare⟩
      | next => exact (h : False).elim
      | brk => exact (h : False).elim
      | cont => exact (h : False).elim
  cases e : K.lookup a with
  | none => exact main _ (.inr ⟨rfl, e⟩) (.inl (.inr ⟨_, hpB_a⟩))
  | some o =>
    have e2 := R.kin a o e
    rw [R.scr] at e2
    cases e2
    exact main none (.inl rfl) (.inr ⟨_, vs.toArray, _, e, rfl, rfl, rfl, by rw [List.size_toArray, IntsAre.length R.iv]; exact R.few, by simpa using vals_ints R.iv⟩)
end
end Kb
end
set_option maxHeartbeats 0
/-! Kh4: the row. -/
namespace Kb
open PySem PySem.W PySem.Calls PyProof.Rows
theorem zwalk : WalkO hview hnames (XL hview []) hHook.says hR.toRowW hd83 [] fun f vs => PySem.call f vs := by
  refine Att.attach_callB (l := PySem.Challenge.rw_copyvotes_k65_whole_all_families) (n := 63) rfl z11 fun w s₀ s₁ mg mb fa o pm cd doc a vs ns G Y ho hd hcd hmg0 hobj hints hlen hbits hg => ?_
  obtain ⟨K, KX, S⟩ := Y
  have hmg : mg ("law" : PySem.Str) = some (.ref fa) := by
    rw [← z12]
    exact hmg0
  have R : Row0 (PySem.Challenge.rw_copyvotes_k65_whole_all_families).prog w K mg mb (He.cT K hp0).1 (He.cT K hp0).2 a s₁ vs ns := ⟨KX, G.T.g, G.T.b, G.T.builtins, G.T.nolimit, hg, S.empty, S.out, PySem.W.codeHd_of_K KX S.hd, G.T.bmain, hobj, hints, Nat.le_trans hlen (by decide)⟩
  refine R.law (k := 14) ⟨rfl, by decide, by decide⟩ fun base XB GB T => ?_
  obtain ⟨f, F, kp, e⟩ := (law_all (P := (PySem.Challenge.rw_copyvotes_k65_whole_all_families).prog) (w := w) (hd_of S XB GB T S.ex)).ex
  have e2 : f = fa := by
    have z := e.symm.trans hmg
    injection z with z
    injection z
  exact e2 ▸ F
theorem zall : hR.Holds := HandSHeadRun.head_any (r := hR) (q := hview) (H := hHook) (ob := hob) (M := 6000) (loose := hnames) (d := hd83) (kwd := []) hob_eq z1 z2 hrun z3 z4 z5 z6 z7 z8 z9 z10 zwalk
end Kb
open PySem PySem.W PySem.W.X PyProof.Rows
theorem PySem.Challenge.cw_copyvotes_k65_whole_all_families_holds : PySem.Challenge.rw_copyvotes_k65_whole_all_families.Holds := by
  w_on; o_law
  exact Kb.zall
