import PyProof.Rows.All
import Wide.All
import OpenK.AllK
import Wide.FinOn
import HandS.ForMost
import HandS.ForExc
import HandS.Wide
import HandS.TupAny
import HandS.IsInst
import HandS.Lambda
import KE.GoesEnum
import HandS.TupMul
import KE.KRevSl
import HandS.Style
import KE.GoesZip
import KE.GoesMore
import HandS.Zip
import HandS.SortInts
import HandS.Sort
import HandS.More
import HandS.SetFor
import HandS.Strs
import HandS.SetKeys
import HandS.NoneIn
import HandS.Conv
import HandS.TupLe
import PyProof.ListIndex
import PyProof.ListIndexNeg
import KE.SortData
import HandS.SortRule
import HandS.List
import KE.DataMinMax
import KE.DataEq
import HandS.ExcInit
import HandS.Exc
import HandS.ExcField
import HandS.ExcIs
import HandS.ExcOwn
import KE.KExcIs
import KE.KExcInit
import HandS.Property
import KE.KCallOwn
import HandS.FStr
import HandS.Text
import HandS.Iter
import HandS.Small
import OpenK.KMeth
import HandS.HotCalls
import HandS.Words
import HandS.ExcValue
import KE.KNestM
import KE.KStateDown
import HandS.Head0
import HandS.Head1
import HandS.Head2
import HandS.HeadHook4
import OpenK.KCls
import PySem.Challenge.RW_keylesscells_k51_errors_and_bounds
set_option Elab.async false
set_option linter.all false
set_option maxRecDepth 100000
set_option maxHeartbeats 4000000
set_option exponentiation.threshold 5000
/-! DL: data values, worlds, and what an expression, a statement, a def computes, as plain functions. -/
namespace L2
open PySem PySem.Spec PyProof.Rows
/-- at a: an exception of this class with this dict -/
def exq (a : Addr) (cls : Value) (d : Option Addr) : HO := .ext fun h => ∃ (oe : Obj) (vs : Array Value), h.get? a = some oe ∧ Zc cls d oe ∧ oe.data = .fields vs
end L2
namespace DL
open PySem PySem.Spec PyProof.Rows L2

/-- plain data: what is never changed once it is made -/
inductive Dv where
  | non
  | bl (b : Bool)
  | int (i : Int)
  | str (x : Str)
  | tup (xs : List Dv)
  | lst (xs : List Dv)
  | scr (xs : List Dv)
  | dct (ks : List Key) (xs : List Dv)
  | ins (c : Nat) (xs : List Dv)
  | exc (c : Nat) (xs : List Dv)
  /-- a function object (what is handed to a def) -/
  | fn (a : Nat)

/-- data, or a reference to something that may change -/
inductive Wv where
  | d (x : Dv)
  | r (n : Nat)

/-- what may hold what may change, without ever being changed itself -/
inductive Bk where
  | lst
  | tup
  | exc (c : Nat)

/-- what may change -/
inductive DO where
  | lst (xs : List Dv)
  | dct (kvs : List (Key × Dv))
  | ins (c : Nat) (ws : List Wv)
  | box (k : Bk) (ws : List Wv)
  | gone

def DO.live : DO → Bool
  | .gone => false
  | .box _ _ => false
  | _ => true

abbrev DH := List DO
abbrev DS := List (Option Wv)

/-- the classes of the text: where they stand, their attributes in the order in which they are stored -/
structure CT where
  CA : Nat → Addr
  FS : Nat → List Str
  /-- data that stays known (what a lambda has captured) -/
  bZ : Hp
  /-- tables of code objects, each with the name that its lambdas bear -/
  TL : List (Addr × Str)
structure Ctx where
  K : PySem.W.Frag
  T : CT

mutual
def Rep (G : Ctx) (Z : Hp) : Dv → V → Prop
  | .non, v => v = V.non
  | .bl b, v => v = V.bl b
  | .int i, v => v = V.int i
  | .str x, v => v = V.str x
  | .tup xs, v => ∃ a vs, v = V.ref a ∧ SqT G.K Z a vs ∧ Reps G Z xs vs
  | .lst xs, v => ∃ a vs, v = V.ref a ∧ Z a = some (.lst vs) ∧ Reps G Z xs vs
  | .scr xs, v => ∃ a vs, v = V.ref a ∧ SqL G.K Z a vs ∧ Reps G Z xs vs
  | .dct ks xs, v => ∃ a kv, v = V.ref a ∧ Z a = some (.dK kv) ∧ kv.map (·.1) = ks ∧ Reps G Z xs (kv.map (·.2))
  | .ins c xs, v => ∃ a dx fv, v = V.ref a ∧ Z a = some (.ins (G.T.CA c) dx fv) ∧ fv.map (·.1) = G.T.FS c ∧ Reps G Z xs (fv.map (·.2))
  | .exc c xs, v => ∃ a d, v = V.ref a ∧ Z a = some (exq a (.ref (G.T.CA c)) d) ∧ ((xs = [] ∧ d = none) ∨ ∃ dd fv, d = some dd ∧ Z dd = some (.xd fv) ∧ fv.map (·.1) = G.T.FS c ∧ Reps G Z xs (fv.map (·.2)))
  | .fn a, v => v = V.ref a
def Reps (G : Ctx) (Z : Hp) : List Dv → List V → Prop
  | [], vs => vs = []
  | d :: ds, vs => ∃ v r, vs = v :: r ∧ Rep G Z d v ∧ Reps G Z ds r
end

def ZLe (Z Z' : Hp) : Prop := ∀ a o, Z a = some o → Z' a = some o
theorem ZLe.refl (Z : Hp) : ZLe Z Z := fun _ _ h => h
theorem ZLe.trans {A B C : Hp} (x : ZLe A B) (y : ZLe B C) : ZLe A C := fun a o h => y a o (x a o h)
theorem sqT_up {K : PySem.W.Frag} {Z Z' : Hp} (z : ZLe Z Z') {a : Addr} {vs : List V} (h : SqT K Z a vs) : SqT K Z' a vs := by
  rcases h with (h | ⟨o, h⟩) | h
  · exact .inl (.inl (z _ _ h))
  · exact .inl (.inr ⟨o, z _ _ h⟩)
  · exact .inr h
theorem sqL_up {K : PySem.W.Frag} {Z Z' : Hp} (z : ZLe Z Z') {a : Addr} {vs : List V} (h : SqL K Z a vs) : SqL K Z' a vs := by
  rcases h with (h | ⟨o, h⟩) | h
  · exact .inl (.inl (z _ _ h))
  · exact .inl (.inr ⟨o, z _ _ h⟩)
  · exact .inr h
mutual
theorem Rep.up {G : Ctx} {Z Z' : Hp} (z : ZLe Z Z') : ∀ {d : Dv} {v : V}, Rep G Z d v → Rep G Z' d v
  | .non, _, h => h
  | .bl _, _, h => h
  | .int _, _, h => h
  | .str _, _, h => h
  | .tup xs, v, h => by
    unfold Rep at h ⊢
    obtain ⟨a, vs, e, s, r⟩ := h
    exact ⟨a, vs, e, sqT_up z s, Reps.up z r⟩
  | .lst xs, v, h => by
    unfold Rep at h ⊢
    obtain ⟨a, vs, e, s, r⟩ := h
    exact ⟨a, vs, e, z _ _ s, Reps.up z r⟩
  | .scr xs, v, h => by
    unfold Rep at h ⊢
    obtain ⟨a, vs, e, s, r⟩ := h
    exact ⟨a, vs, e, sqL_up z s, Reps.up z r⟩
  | .dct ks xs, v, h => by
    unfold Rep at h ⊢
    obtain ⟨a, kv, e, s, k, r⟩ := h
    exact ⟨a, kv, e, z _ _ s, k, Reps.up z r⟩
  | .ins c xs, v, h => by
    unfold Rep at h ⊢
    obtain ⟨a, dx, fv, e, s, k, r⟩ := h
    exact ⟨a, dx, fv, e, z _ _ s, k, Reps.up z r⟩
  | .exc c xs, v, h => by
    unfold Rep at h ⊢
    obtain ⟨a, d, e, s, h⟩ := h
    refine ⟨a, d, e, z _ _ s, ?_⟩
    rcases h with h | ⟨dd, fv, e1, e2, e3, e4⟩
    · exact .inl h
    · exact .inr ⟨dd, fv, e1, z _ _ e2, e3, Reps.up z e4⟩
  | .fn _, _, h => by unfold Rep at h ⊢; exact h
theorem Reps.up {G : Ctx} {Z Z' : Hp} (z : ZLe Z Z') : ∀ {ds : List Dv} {vs : List V}, Reps G Z ds vs → Reps G Z' ds vs
  | [], vs, h => by unfold Reps at h ⊢; exact h
  | d :: ds, vs, h => by
    unfold Reps at h ⊢
    obtain ⟨v, r, e, p, q⟩ := h
    exact ⟨v, r, e, Rep.up z p, Reps.up z q⟩
end

theorem reps_nil {G : Ctx} {Z : Hp} {vs : List V} : Reps G Z [] vs ↔ vs = [] := by unfold Reps; exact Iff.rfl
theorem reps_cons {G : Ctx} {Z : Hp} {d : Dv} {ds : List Dv} {vs : List V} : Reps G Z (d :: ds) vs ↔ ∃ v r, vs = v :: r ∧ Rep G Z d v ∧ Reps G Z ds r := by
  constructor
  · intro h; unfold Reps at h; exact h
  · intro h; unfold Reps; exact h
theorem reps_cons' {G : Ctx} {Z : Hp} {d : Dv} {ds : List Dv} {v : V} {vs : List V} (h : Rep G Z d v) (t : Reps G Z ds vs) : Reps G Z (d :: ds) (v :: vs) := reps_cons.mpr ⟨v, vs, rfl, h, t⟩
theorem Reps.length {G : Ctx} {Z : Hp} : ∀ {ds : List Dv} {vs : List V}, Reps G Z ds vs → ds.length = vs.length
  | [], vs, h => by rw [reps_nil.mp h]; rfl
  | d :: ds, vs, h => by
    obtain ⟨v, r, e, _, q⟩ := reps_cons.mp h
    rw [e, List.length_cons, List.length_cons, Reps.length q]
theorem Reps.get {G : Ctx} {Z : Hp} : ∀ {ds : List Dv} {vs : List V} {i : Nat} {d : Dv}, Reps G Z ds vs → ds[i]? = some d → ∃ v, vs[i]? = some v ∧ Rep G Z d v
  | [], vs, i, d, h, e => by simp at e
  | x :: ds, vs, 0, d, h, e => by
    obtain ⟨v, r, e', p, q⟩ := reps_cons.mp h
    simp at e; subst e; subst e'
    exact ⟨v, rfl, p⟩
  | x :: ds, vs, i + 1, d, h, e => by
    obtain ⟨v, r, e', p, q⟩ := reps_cons.mp h
    subst e'
    obtain ⟨u, h1, h2⟩ := Reps.get (i := i) (d := d) q (by simpa using e)
    exact ⟨u, by simpa using h1, h2⟩
theorem Reps.append {G : Ctx} {Z : Hp} : ∀ {a b : List Dv} {u v : List V}, Reps G Z a u → Reps G Z b v → Reps G Z (a ++ b) (u ++ v)
  | [], b, u, v, h, k => by rw [reps_nil.mp h]; exact k
  | x :: a, b, u, v, h, k => by
    obtain ⟨w, r, e, p, q⟩ := reps_cons.mp h
    subst e
    exact reps_cons' p (Reps.append q k)
theorem Reps.take {G : Ctx} {Z : Hp} : ∀ (n : Nat) {a : List Dv} {u : List V}, Reps G Z a u → Reps G Z (a.take n) (u.take n)
  | 0, _, _, _ => by simp [reps_nil]
  | n + 1, [], u, h => by rw [reps_nil.mp h]; simp [reps_nil]
  | n + 1, x :: a, u, h => by
    obtain ⟨w, r, e, p, q⟩ := reps_cons.mp h
    subst e
    exact reps_cons' p (Reps.take n q)
theorem Reps.drop {G : Ctx} {Z : Hp} : ∀ (n : Nat) {a : List Dv} {u : List V}, Reps G Z a u → Reps G Z (a.drop n) (u.drop n)
  | 0, _, _, h => h
  | n + 1, [], u, h => by rw [reps_nil.mp h]; simp [reps_nil]
  | n + 1, x :: a, u, h => by
    obtain ⟨w, r, e, p, q⟩ := reps_cons.mp h
    subst e
    exact Reps.drop n q
theorem Reps.set {G : Ctx} {Z : Hp} {d : Dv} {v : V} (p : Rep G Z d v) : ∀ (n : Nat) {a : List Dv} {u : List V}, Reps G Z a u → Reps G Z (a.set n d) (u.set n v)
  | n, [], u, h => by rw [reps_nil.mp h]; simp [reps_nil]
  | 0, x :: a, u, h => by
    obtain ⟨w, r, e, _, q⟩ := reps_cons.mp h
    subst e
    exact reps_cons' p q
  | n + 1, x :: a, u, h => by
    obtain ⟨w, r, e, p', q⟩ := reps_cons.mp h
    subst e
    exact reps_cons' p' (Reps.set p n q)
/-! ### worlds -/
structure Wd where
  Z : Hp
  μ : Nat → Addr
  H : Hp
  h : DH

def RepW (G : Ctx) (S : Wd) : Wv → V → Prop
  | .d x, v => Rep G S.Z x v
  | .r n, v => n < S.h.length ∧ v = V.ref (S.μ n)
def RepWs (G : Ctx) (S : Wd) : List Wv → List V → Prop
  | [], vs => vs = []
  | w :: ws, vs => ∃ v r, vs = v :: r ∧ RepW G S w v ∧ RepWs G S ws r
def OR (G : Ctx) (S : Wd) : DO → Addr → Prop
  | .lst xs, a => ∃ vs, S.H a = some (.lst vs) ∧ Reps G S.Z xs vs
  | .dct kvs, a => ∃ kv, S.H a = some (.dK kv) ∧ kv.map (·.1) = kvs.map (·.1) ∧ Reps G S.Z (kvs.map (·.2)) (kv.map (·.2))
  | .ins c ws, a => ∃ dx fv, S.H a = some (.ins (G.T.CA c) dx fv) ∧ fv.map (·.1) = (G.T.FS c).take ws.length ∧ RepWs G S ws (fv.map (·.2))
  | .box .lst ws, a => ∃ vs, S.Z a = some (.lst vs) ∧ RepWs G S ws vs
  | .box .tup ws, a => ∃ vs, S.Z a = some (.tup vs) ∧ RepWs G S ws vs
  | .box (.exc c) ws, a => ∃ d, S.Z a = some (exq a (.ref (G.T.CA c)) d) ∧ ((ws = [] ∧ d = none) ∨ ∃ dd fv, d = some dd ∧ S.Z dd = some (.xd fv) ∧ fv.map (·.1) = G.T.FS c ∧ RepWs G S ws (fv.map (·.2)))
  | .gone, _ => True
/-- a is where something that may change stands -/
def Own (S : Wd) (a : Addr) : Prop := ∃ n o, S.h[n]? = some o ∧ o.live = true ∧ S.μ n = a
def Sub (Z H : Hp) : Prop := ∀ a o, Z a = some o → H a = some o ∨ (∃ kv ob, o = HO.dK kv ∧ H a = some (.frz ob (.dK kv))) ∨ ∃ ps ps', o = HO.tbl ps ∧ H a = some (.tbl ps')
/-- what stays through a step that changes own things alone -/
theorem tab_step {H H' : Hp} {P : Addr} {q : Str} (t : LamX.TabS H P q) (e : ∀ b o, H b = some o → ((∃ ps, o = HO.tbl ps) ∨ ∃ φ, o = HO.ext φ) → H' b = some o) : LamX.TabS H' P q := by
  obtain ⟨ps, h1, h2, h3⟩ := t
  refine ⟨ps, e _ _ h1 (.inl ⟨ps, rfl⟩), h2, fun pos cv hc => ?_⟩
  obtain ⟨c, e1, e2⟩ := h3 pos cv hc
  exact ⟨c, e1, e _ _ e2 (.inr ⟨_, rfl⟩)⟩
structure Ok (G : Ctx) (S : Wd) : Prop where
  sub : Sub S.Z S.H
  obj : ∀ (n : Nat) o, S.h[n]? = some o → OR G S o (S.μ n)
  sep : ∀ (n : Nat) o, S.h[n]? = some o → o.live = true → S.Z (S.μ n) = none
  inj : ∀ (n m : Nat) o p, S.h[n]? = some o → S.h[m]? = some p → o.live = true → p.live = true → S.μ n = S.μ m → n = m
  bz : ZLe G.T.bZ S.Z
  tb : ∀ p ∈ G.T.TL, LamX.TabS S.H p.1 p.2
structure Ext (S S' : Wd) : Prop where
  zz : ZLe S.Z S'.Z
  mm : ∀ n : Nat, n < S.h.length → S'.μ n = S.μ n
  ln : S.h.length ≤ S'.h.length
  gn : ∀ (n : Nat) (o : DO), S.h[n]? = some o → o.live = false → S'.h[n]? = some o
  fr : ∀ a o, S.H a = some o → ¬ Own S a → S'.H a = some o ∨ ∃ ps ps', o = HO.tbl ps ∧ S'.H a = some (.tbl ps')
  th : ∀ a o, S.H a = some o → ∃ o', S'.H a = some o'
  nw : ∀ (n : Nat) o, S.h.length ≤ n → S'.h[n]? = some o → o.live = true → S.H (S'.μ n) = none
  zn : ∀ a o, S'.Z a = some o → S.Z a = some o ∨ S.H a = none ∨ Own S a
theorem Ext.frN {S S' : Wd} (e : Ext S S') {a : Addr} {o : HO} (h : S.H a = some o) (n : ¬ Own S a) (t : ∀ ps, o ≠ HO.tbl ps) : S'.H a = some o := by
  rcases e.fr a o h n with z | ⟨ps, ps', z, _⟩
  · exact z
  · exact absurd z (t ps)
theorem Ext.refl (S : Wd) : Ext S S :=
  ⟨ZLe.refl _, fun _ _ => rfl, Nat.le_refl _, fun _ _ h _ => h, fun _ _ h _ => .inl h, fun _ o h => ⟨o, h⟩, fun n o h e _ => absurd (List.getElem?_eq_some_iff.mp e).1 (Nat.not_lt.mpr h), fun _ _ h => .inl h⟩
/-- what may change behind a step did so ahead of it, or is new -/
theorem Ext.own {S S' : Wd} (e : Ext S S') {a : Addr} (h : Own S' a) : Own S a ∨ S.H a = none := by
  obtain ⟨n, o, ho, hl, rfl⟩ := h
  by_cases hn : n < S.h.length
  · left
    refine ⟨n, S.h[n], List.getElem?_eq_getElem hn, ?_, (e.mm n hn).symm⟩
    cases q : S.h[n].live with
    | false =>
      have := e.gn n _ (List.getElem?_eq_getElem hn) q
      rw [this] at ho; cases ho; rw [q] at hl; cases hl
    | true => rfl
  · right
    exact e.nw n o (Nat.not_lt.mp hn) ho hl
theorem Ext.trans {S T U : Wd} (e : Ext S T) (f : Ext T U) : Ext S U where
  zz := e.zz.trans f.zz
  mm := fun n h => (f.mm n (Nat.lt_of_lt_of_le h e.ln)).trans (e.mm n h)
  ln := Nat.le_trans e.ln f.ln
  gn := fun n o h l => f.gn n o (e.gn n o h l) l
  fr := fun a o h hn => by
    have nT : ¬ Own T a := fun z => by
      rcases e.own z with z | z
      · exact hn z
      · rw [h] at z; cases z
    rcases e.fr a o h hn with z | ⟨ps, ps', z1, z2⟩
    · exact f.fr a o z nT
    · rcases f.fr a _ z2 nT with z | ⟨_, ps2, _, z⟩
      · exact .inr ⟨ps, ps', z1, z⟩
      · exact .inr ⟨ps, ps2, z1, z⟩
  th := fun a o h => let ⟨o', h'⟩ := e.th a o h; f.th a o' h'
  nw := fun n o hn ho hl => by
    by_cases hT : n < T.h.length
    · have hl' : ∃ p, T.h[n]? = some p ∧ p.live = true := by
        refine ⟨T.h[n], List.getElem?_eq_getElem hT, ?_⟩
        cases q : T.h[n].live with
        | false =>
          have := f.gn n _ (List.getElem?_eq_getElem hT) q
          rw [this] at ho; cases ho; rw [q] at hl; cases hl
        | true => rfl
      obtain ⟨p, hp, lp⟩ := hl'
      rw [f.mm n hT]
      exact e.nw n p hn hp lp
    · have z := f.nw n o (Nat.not_lt.mp hT) ho hl
      cases q : S.H (U.μ n) with
      | none => rfl
      | some x =>
        obtain ⟨y, hy⟩ := e.th _ x q
        rw [z] at hy; cases hy
  zn := fun a o h => by
    rcases f.zn a o h with z | z | z
    · exact e.zn a o z
    · right; left
      cases q : S.H a with
      | none => rfl
      | some x =>
        obtain ⟨y, hy⟩ := e.th _ x q
        rw [z] at hy; cases hy
    · rcases e.own z with z | z
      · exact .inr (.inr z)
      · exact .inr (.inl z)
theorem Ext.repW {G : Ctx} {S S' : Wd} (e : Ext S S') : ∀ {w : Wv} {v : V}, RepW G S w v → RepW G S' w v
  | .d x, v, h => Rep.up e.zz (show Rep G S.Z x v from h)
  | .r n, v, h => ⟨Nat.lt_of_lt_of_le h.1 e.ln, by rw [e.mm n h.1]; exact h.2⟩
theorem Ext.repWs {G : Ctx} {S S' : Wd} (e : Ext S S') : ∀ {ws : List Wv} {vs : List V}, RepWs G S ws vs → RepWs G S' ws vs
  | [], _, h => h
  | w :: ws, vs, ⟨v, r, a, p, q⟩ => ⟨v, r, a, e.repW p, e.repWs q⟩
theorem RepWs.length {G : Ctx} {S : Wd} : ∀ {ws : List Wv} {vs : List V}, RepWs G S ws vs → ws.length = vs.length
  | [], vs, h => by rw [show vs = [] from h]; rfl
  | w :: ws, vs, ⟨v, r, a, p, q⟩ => by rw [a, List.length_cons, List.length_cons, RepWs.length q]
/-- only the data of a world matters to a thing that it refers to -/
theorem RepW.of_eq {G : Ctx} {S S' : Wd} (hz : ZLe S.Z S'.Z) (hm : ∀ n, n < S.h.length → S'.μ n = S.μ n) (hl : S.h.length ≤ S'.h.length) : ∀ {w : Wv} {v : V}, RepW G S w v → RepW G S' w v
  | .d x, v, h => Rep.up hz (show Rep G S.Z x v from h)
  | .r n, v, h => ⟨Nat.lt_of_lt_of_le h.1 hl, by rw [hm n h.1]; exact h.2⟩
theorem RepWs.of_eq {G : Ctx} {S S' : Wd} (hz : ZLe S.Z S'.Z) (hm : ∀ n, n < S.h.length → S'.μ n = S.μ n) (hl : S.h.length ≤ S'.h.length) : ∀ {ws : List Wv} {vs : List V}, RepWs G S ws vs → RepWs G S' ws vs
  | [], _, h => h
  | w :: ws, vs, ⟨v, r, a, p, q⟩ => ⟨v, r, a, p.of_eq hz hm hl, q.of_eq hz hm hl⟩
theorem OR.of_eq {G : Ctx} {S S' : Wd} {o : DO} {a : Addr} (hz : ZLe S.Z S'.Z) (hm : ∀ n, n < S.h.length → S'.μ n = S.μ n) (hl : S.h.length ≤ S'.h.length) (hH : S'.H a = S.H a) (h : OR G S o a) : OR G S' o a := by
  cases o with
  | lst xs => obtain ⟨vs, e, r⟩ := h; exact ⟨vs, hH.trans e, Reps.up hz r⟩
  | dct kvs => obtain ⟨kv, e, k, r⟩ := h; exact ⟨kv, hH.trans e, k, Reps.up hz r⟩
  | ins c fs => obtain ⟨dx, fv, e, k, r⟩ := h; exact ⟨dx, fv, hH.trans e, k, r.of_eq hz hm hl⟩
  | box k ws =>
    cases k with
    | lst => obtain ⟨vs, e, r⟩ := h; exact ⟨vs, hz _ _ e, r.of_eq hz hm hl⟩
    | tup => obtain ⟨vs, e, r⟩ := h; exact ⟨vs, hz _ _ e, r.of_eq hz hm hl⟩
    | exc c =>
      obtain ⟨d, e, r⟩ := h
      refine ⟨d, hz _ _ e, ?_⟩
      rcases r with r | ⟨dd, fv, e1, e2, e3, e4⟩
      · exact .inl r
      · exact .inr ⟨dd, fv, e1, hz _ _ e2, e3, e4.of_eq hz hm hl⟩
  | gone => trivial
/-- what never changes itself needs no look at the heap -/
theorem OR.dead {G : Ctx} {S S' : Wd} {o : DO} {a : Addr} (l : ¬ o.live = true) (h : OR G S o a) (hz : ZLe S.Z S'.Z) (hm : ∀ n, n < S.h.length → S'.μ n = S.μ n) (hl : S.h.length ≤ S'.h.length) : OR G S' o a := by
  cases o with
  | lst xs => exact absurd rfl l
  | dct kvs => exact absurd rfl l
  | ins c fs => exact absurd rfl l
  | box k ws =>
    cases k with
    | lst => obtain ⟨vs, e, r⟩ := h; exact ⟨vs, hz _ _ e, r.of_eq hz hm hl⟩
    | tup => obtain ⟨vs, e, r⟩ := h; exact ⟨vs, hz _ _ e, r.of_eq hz hm hl⟩
    | exc c =>
      obtain ⟨d, e, r⟩ := h
      refine ⟨d, hz _ _ e, ?_⟩
      rcases r with r | ⟨dd, fv, e1, e2, e3, e4⟩
      · exact .inl r
      · exact .inr ⟨dd, fv, e1, hz _ _ e2, e3, e4.of_eq hz hm hl⟩
  | gone => trivial
theorem OR.has {G : Ctx} {S : Wd} {o : DO} {a : Addr} (l : o.live = true) (h : OR G S o a) : ∃ u, S.H a = some u := by
  cases o with
  | lst xs => obtain ⟨vs, e, r⟩ := h; exact ⟨_, e⟩
  | dct kvs => obtain ⟨kv, e, k, r⟩ := h; exact ⟨_, e⟩
  | ins c fs => obtain ⟨dx, fv, e, k, r⟩ := h; exact ⟨_, e⟩
  | box k ws => cases l
  | gone => cases l
/-- .. and it is no table and nothing told of an object alone -/
theorem OR.hasN {G : Ctx} {S : Wd} {o : DO} {a : Addr} (l : o.live = true) (h : OR G S o a) : ∃ u, S.H a = some u ∧ (∀ ps, u ≠ HO.tbl ps) ∧ ∀ φ, u ≠ HO.ext φ := by
  cases o with
  | lst xs => obtain ⟨vs, e, r⟩ := h; exact ⟨_, e, fun _ z => (by cases z), fun _ z => (by cases z)⟩
  | dct kvs => obtain ⟨kv, e, k, r⟩ := h; exact ⟨_, e, fun _ z => (by cases z), fun _ z => (by cases z)⟩
  | ins c fs => obtain ⟨dx, fv, e, k, r⟩ := h; exact ⟨_, e, fun _ z => (by cases z), fun _ z => (by cases z)⟩
  | box k ws => cases l
  | gone => cases l
theorem Ok.own {G : Ctx} {S : Wd} (ok : Ok G S) {a : Addr} (h : Own S a) : ∃ u, S.H a = some u := by
  obtain ⟨n, o, ho, l, rfl⟩ := h
  exact (ok.obj n o ho).has l
theorem Ok.z {G : Ctx} {S : Wd} (ok : Ok G S) {a : Addr} (h : S.H a = none) : S.Z a = none := by
  cases q : S.Z a with
  | none => rfl
  | some o =>
    rcases ok.sub a o q with z | ⟨_, _, _, z⟩ | ⟨_, _, _, z⟩
    · rw [h] at z; cases z
    · rw [h] at z; cases z
    · rw [h] at z; cases z
theorem Ok.free {G : Ctx} {S : Wd} (ok : Ok G S) {a : Addr} (h : S.H a = none) : ¬ Own S a := fun z => by
  obtain ⟨u, hu⟩ := ok.own z
  rw [h] at hu; cases hu

/-- a new thing that nothing knows yet -/
def Wd.raw (S : Wd) (p : Addr) (o : HO) : Wd := { S with H := upd S.H p o }
/-- a new thing that will never change -/
def Wd.put (S : Wd) (p : Addr) (o : HO) : Wd := { S with H := upd S.H p o, Z := upd S.Z p o }
/-- a new thing that may change -/
def Wd.reg (S : Wd) (p : Addr) (o : DO) : Wd := { S with μ := fun n => if n = S.h.length then p else S.μ n, h := S.h ++ [o] }
section
variable {G : Ctx} {S : Wd} {p : Addr} {o : HO}
theorem Ok.raw (ok : Ok G S) (hp : S.H p = none) : Ext S (S.raw p o) ∧ Ok G (S.raw p o) := by
  have ne : ∀ {a : Addr} {u : HO}, S.H a = some u → a ≠ p := fun {a u} h z => by rw [z, hp] at h; cases h
  have kp : ∀ b u, S.H b = some u → upd S.H p o b = some u := fun b u h => by rw [upd_ne (ne h)]; exact h
  have tb : ∀ P q, LamX.TabS S.H P q → LamX.TabS (upd S.H p o) P q := fun P q t => tab_step t fun b u h _ => kp b u h
  refine ⟨⟨ZLe.refl _, fun _ _ => rfl, Nat.le_refl _, fun _ _ h _ => h, fun a u h _ => .inl ?_, fun a u h => ⟨u, ?_⟩, fun n u h e _ => absurd (List.getElem?_eq_some_iff.mp e).1 (Nat.not_lt.mpr h), fun _ _ h => .inl h⟩, ⟨fun a u h => ?_, fun n u h => ?_, ok.sep, ok.inj, ok.bz, fun x hx => tb _ _ (ok.tb x hx)⟩⟩
  · show upd S.H p o a = some u
    rw [upd_ne (ne h)]; exact h
  · show upd S.H p o a = some u
    rw [upd_ne (ne h)]; exact h
  · rcases ok.sub a u h with z | ⟨kv, ob, e, z⟩ | ⟨ps, ps', e, z⟩
    · exact .inl (kp _ _ z)
    · exact .inr (.inl ⟨kv, ob, e, kp _ _ z⟩)
    · exact .inr (.inr ⟨ps, ps', e, kp _ _ z⟩)
  · by_cases l : u.live = true
    · obtain ⟨x, hx⟩ := (ok.obj n u h).has l
      exact OR.of_eq (S := S) (S' := S.raw p o) (h := ok.obj n u h) (ZLe.refl _) (fun _ _ => rfl) (Nat.le_refl _) (upd_ne (ne hx))
    · exact (ok.obj n u h).dead (S' := S.raw p o) l (ZLe.refl _) (fun _ _ => rfl) (Nat.le_refl _)
theorem Ok.put (ok : Ok G S) (hp : S.H p = none) : Ext S (S.put p o) ∧ Ok G (S.put p o) := by
  have ne : ∀ {a : Addr} {u : HO}, S.H a = some u → a ≠ p := fun {a u} h z => by rw [z, hp] at h; cases h
  have hz : ZLe S.Z (upd S.Z p o) := fun a u h => by
    have : a ≠ p := fun z => by rw [z, ok.z hp] at h; cases h
    rw [upd_ne this]; exact h
  have kp : ∀ b u, S.H b = some u → upd S.H p o b = some u := fun b u h => by rw [upd_ne (ne h)]; exact h
  have tb : ∀ P q, LamX.TabS S.H P q → LamX.TabS (upd S.H p o) P q := fun P q t => tab_step t fun b u h _ => kp b u h
  refine ⟨⟨hz, fun _ _ => rfl, Nat.le_refl _, fun _ _ h _ => h, fun a u h _ => .inl ?_, fun a u h => ⟨u, ?_⟩, fun n u h e _ => absurd (List.getElem?_eq_some_iff.mp e).1 (Nat.not_lt.mpr h), fun a u h => ?_⟩, ⟨fun a u h => ?_, fun n u h => ?_, fun n u h l => ?_, ok.inj, ok.bz.trans hz, fun x hx => tb _ _ (ok.tb x hx)⟩⟩
  · show upd S.H p o a = some u
    rw [upd_ne (ne h)]; exact h
  · show upd S.H p o a = some u
    rw [upd_ne (ne h)]; exact h
  · by_cases q : a = p
    · subst q; exact .inr (.inl hp)
    · left
      have h' : upd S.Z p o a = some u := h
      rw [upd_ne q] at h'; exact h'
  · have h' : upd S.Z p o a = some u := h
    by_cases q : a = p
    · subst q
      rw [upd_same] at h'
      left
      show upd S.H a o a = some u
      rw [upd_same]; exact h'
    · rw [upd_ne q] at h'
      rcases ok.sub a u h' with z | ⟨kv, ob, e, z⟩ | ⟨ps, ps', e, z⟩
      · exact .inl (kp _ _ z)
      · exact .inr (.inl ⟨kv, ob, e, kp _ _ z⟩)
      · exact .inr (.inr ⟨ps, ps', e, kp _ _ z⟩)
  · by_cases l : u.live = true
    · obtain ⟨x, hx⟩ := (ok.obj n u h).has l
      exact OR.of_eq (S := S) (S' := S.put p o) (h := ok.obj n u h) hz (fun _ _ => rfl) (Nat.le_refl _) (upd_ne (ne hx))
    · exact (ok.obj n u h).dead (S' := S.put p o) l hz (fun _ _ => rfl) (Nat.le_refl _)
  · obtain ⟨x, hx⟩ := (ok.obj n u h).has l
    show upd S.Z p o (S.μ n) = none
    rw [upd_ne (ne hx)]
    exact ok.sep n u h l
end
/-- an unknown thing is given an own number -/
theorem Ok.reg {G : Ctx} {S : Wd} {p : Addr} {o : DO} (ok : Ok G S) (hr : OR G S o p) (hz : S.Z p = none) (hn : ¬ Own S p) : Ok G (S.reg p o) := by
  have mu : ∀ n, n < S.h.length → (S.reg p o).μ n = S.μ n := fun n h => by
    show (if n = S.h.length then p else S.μ n) = S.μ n
    rw [if_neg (Nat.ne_of_lt h)]
  have mp : (S.reg p o).μ S.h.length = p := by
    show (if S.h.length = S.h.length then p else _) = p
    rw [if_pos rfl]
  have ll : S.h.length ≤ (S.reg p o).h.length := by
    show _ ≤ (S.h ++ [o]).length
    rw [List.length_append]; omega
  have cases_ : ∀ {n : Nat} {u : DO}, (S.reg p o).h[n]? = some u → (n < S.h.length ∧ S.h[n]? = some u) ∨ (n = S.h.length ∧ u = o) := fun {n u} h => by
    have h' : (S.h ++ [o])[n]? = some u := h
    by_cases hl : n < S.h.length
    · rw [List.getElem?_append_left hl] at h'
      exact .inl ⟨hl, h'⟩
    · rw [List.getElem?_append_right (Nat.not_lt.mp hl)] at h'
      obtain ⟨z, hz⟩ := List.getElem?_eq_some_iff.mp h'
      have e : n - S.h.length = 0 := by simpa using z
      refine .inr ⟨by omega, ?_⟩
      rw [e] at h'
      simpa using h'.symm
  have up : ∀ {u : DO} {a : Addr}, OR G S u a → OR G (S.reg p o) u a := fun {u a} h => OR.of_eq (S := S) (S' := S.reg p o) (h := h) (ZLe.refl _) mu ll rfl
  refine ⟨ok.sub, fun n u h => ?_, fun n u h l => ?_, fun n m u v h1 h2 l1 l2 e => ?_, ok.bz, ok.tb⟩
  · rcases cases_ h with ⟨hl, h'⟩ | ⟨rfl, rfl⟩
    · rw [mu n hl]; exact up (ok.obj n u h')
    · rw [mp]; exact up hr
  · rcases cases_ h with ⟨hl, h'⟩ | ⟨rfl, rfl⟩
    · rw [mu n hl]; exact ok.sep n u h' l
    · rw [mp]; exact hz
  · rcases cases_ h1 with ⟨hl, h'⟩ | ⟨rfl, rfl⟩
    · rcases cases_ h2 with ⟨hl2, h2'⟩ | ⟨rfl, rfl⟩
      · rw [mu n hl, mu m hl2] at e
        exact ok.inj n m u v h' h2' l1 l2 e
      · rw [mu n hl, mp] at e
        exact absurd ⟨n, u, h', l1, e⟩ hn
    · rcases cases_ h2 with ⟨hl2, h2'⟩ | ⟨rfl, rfl⟩
      · rw [mu m hl2, mp] at e
        exact absurd ⟨m, v, h2', l2, e.symm⟩ hn
      · rfl
/-- .. also one that never changes itself -/
theorem Ok.regD {G : Ctx} {S : Wd} {p : Addr} {o : DO} (ok : Ok G S) (hr : OR G S o p) (hd : o.live = false) : Ok G (S.reg p o) := by
  have mu : ∀ n, n < S.h.length → (S.reg p o).μ n = S.μ n := fun n h => by
    show (if n = S.h.length then p else S.μ n) = S.μ n
    rw [if_neg (Nat.ne_of_lt h)]
  have mp : (S.reg p o).μ S.h.length = p := by
    show (if S.h.length = S.h.length then p else _) = p
    rw [if_pos rfl]
  have ll : S.h.length ≤ (S.reg p o).h.length := by
    show _ ≤ (S.h ++ [o]).length
    rw [List.length_append]; omega
  have cases_ : ∀ {n : Nat} {u : DO}, (S.reg p o).h[n]? = some u → (n < S.h.length ∧ S.h[n]? = some u) ∨ (n = S.h.length ∧ u = o) := fun {n u} h => by
    have h' : (S.h ++ [o])[n]? = some u := h
    by_cases hl : n < S.h.length
    · rw [List.getElem?_append_left hl] at h'
      exact .inl ⟨hl, h'⟩
    · rw [List.getElem?_append_right (Nat.not_lt.mp hl)] at h'
      obtain ⟨z, hz⟩ := List.getElem?_eq_some_iff.mp h'
      have e : n - S.h.length = 0 := by simpa using z
      refine .inr ⟨by omega, ?_⟩
      rw [e] at h'
      simpa using h'.symm
  have up : ∀ {u : DO} {a : Addr}, OR G S u a → OR G (S.reg p o) u a := fun {u a} h => OR.of_eq (S := S) (S' := S.reg p o) (h := h) (ZLe.refl _) mu ll rfl
  refine ⟨ok.sub, fun n u h => ?_, fun n u h l => ?_, fun n m u v h1 h2 l1 l2 e => ?_, ok.bz, ok.tb⟩
  · rcases cases_ h with ⟨hl, h'⟩ | ⟨rfl, rfl⟩
    · rw [mu n hl]; exact up (ok.obj n u h')
    · rw [mp]; exact up hr
  · rcases cases_ h with ⟨hl, h'⟩ | ⟨rfl, rfl⟩
    · rw [mu n hl]; exact ok.sep n u h' l
    · rw [hd] at l; cases l
  · rcases cases_ h1 with ⟨hl, h'⟩ | ⟨rfl, rfl⟩
    · rcases cases_ h2 with ⟨hl2, h2'⟩ | ⟨rfl, rfl⟩
      · rw [mu n hl, mu m hl2] at e
        exact ok.inj n m u v h' h2' l1 l2 e
      · rw [hd] at l2; cases l2
    · rw [hd] at l1; cases l1
/-- .. where it came in this step -/
theorem Ext.reg {S T : Wd} {p : Addr} {o : DO} (e : Ext S T) (hp : S.H p = none) : Ext S (T.reg p o) := by
  have ll : T.h.length ≤ (T.reg p o).h.length := by
    show _ ≤ (T.h ++ [o]).length
    rw [List.length_append]; omega
  refine ⟨e.zz, fun n h => ?_, Nat.le_trans e.ln ll, fun n o h l => ?_, e.fr, e.th, fun n u hn hu l => ?_, e.zn⟩
  · show (if n = T.h.length then p else T.μ n) = S.μ n
    rw [if_neg (Nat.ne_of_lt (Nat.lt_of_lt_of_le h e.ln))]
    exact e.mm n h
  · have hl : n < T.h.length := (List.getElem?_eq_some_iff.mp (e.gn n _ h l)).1
    show (T.h ++ [_])[n]? = _
    rw [List.getElem?_append_left hl]
    exact e.gn n _ h l
  · show S.H (if n = T.h.length then p else T.μ n) = none
    by_cases q : n = T.h.length
    · rw [if_pos q]; exact hp
    · rw [if_neg q]
      have h' : (T.h ++ [o])[n]? = some u := hu
      have hl : n < T.h.length := by
        have z := (List.getElem?_eq_some_iff.mp h').1
        rw [List.length_append] at z
        simp at z
        omega
      rw [List.getElem?_append_left hl] at h'
      exact e.nw n u hn h' l
end DL
namespace DL
open PySem PySem.Spec PyProof.Rows L2

/-- a result: a value, an exception (its class and fields), or nothing that is told of -/
inductive Rs (α : Type) where
  | ok (a : α) (h : DH)
  | er (e : Dv) (h : DH)
  | bad

def ExR (G : Ctx) (S : Wd) : Dv → Value → Option Addr → Prop
  | .exc c xs, cls, d => cls = .ref (G.T.CA c) ∧ ((xs = [] ∧ d = none) ∨ ∃ dd fv, d = some dd ∧ S.Z dd = some (.xd fv) ∧ fv.map (·.1) = G.T.FS c ∧ Reps G S.Z xs (fv.map (·.2)))
  | _, _, _ => False
theorem ExR.up {G : Ctx} {S S' : Wd} (z : ZLe S.Z S'.Z) : ∀ {e : Dv} {cls : Value} {d : Option Addr}, ExR G S e cls d → ExR G S' e cls d
  | .exc c xs, cls, d, ⟨e, h⟩ => by
    refine ⟨e, ?_⟩
    rcases h with h | ⟨dd, fv, e1, e2, e3, e4⟩
    · exact .inl h
    · exact .inr ⟨dd, fv, e1, z _ _ e2, e3, Reps.up z e4⟩

def RelS (G : Ctx) (S : Wd) (ds : DS) (σ : L2.St) : Prop := ds.length = σ.length ∧ ∀ (i : Nat) w, ds[i]? = some (some w) → ∃ v, σ[i]? = some (some v) ∧ RepW G S w v
theorem RelS.up {G : Ctx} {S S' : Wd} {ds : DS} {σ : L2.St} (e : Ext S S') (h : RelS G S ds σ) : RelS G S' ds σ :=
  ⟨h.1, fun i w q => let ⟨v, a, b⟩ := h.2 i w q; ⟨v, a, e.repW b⟩⟩
theorem RelS.set {G : Ctx} {S : Wd} {ds : DS} {σ : L2.St} {w : Wv} {v : V} (h : RelS G S ds σ) (r : RepW G S w v) (i : Nat) : RelS G S (ds.set i (some w)) (σ.set i (some v)) := by
  refine ⟨by rw [List.length_set, List.length_set, h.1], fun j u q => ?_⟩
  by_cases e : i = j
  · subst e
    by_cases hl : i < ds.length
    · rw [List.getElem?_set_self hl] at q
      cases q
      exact ⟨v, by rw [List.getElem?_set_self (by rw [← h.1]; exact hl)], r⟩
    · rw [List.getElem?_eq_none (by rw [List.length_set]; exact Nat.not_lt.mp hl)] at q
      cases q
  · rw [List.getElem?_set_ne e] at q
    obtain ⟨u', a, b⟩ := h.2 j u q
    exact ⟨u', by rw [List.getElem?_set_ne e]; exact a, b⟩
theorem RelS.clear {G : Ctx} {S : Wd} {ds : DS} {σ : L2.St} (h : RelS G S ds σ) (i : Nat) : RelS G S (ds.set i none) (σ.set i none) := by
  refine ⟨by rw [List.length_set, List.length_set, h.1], fun j u q => ?_⟩
  by_cases e : i = j
  · subst e
    by_cases hl : i < ds.length
    · rw [List.getElem?_set_self hl] at q
      cases q
    · rw [List.getElem?_eq_none (by rw [List.length_set]; exact Nat.not_lt.mp hl)] at q
      cases q
  · rw [List.getElem?_set_ne e] at q
    obtain ⟨u', a, b⟩ := h.2 j u q
    exact ⟨u', by rw [List.getElem?_set_ne e]; exact a, b⟩

section
variable {α β γ δ ε ζ : Type}
/-- how a result lies in the model: from the world ahead of the step -/
abbrev RR (α β : Type) := Wd → Wd → α → β → Prop
def PostE (G : Ctx) (Wx : WX) (R : RR α β) (S : Wd) (σ : L2.St) (r : Rs α) (Q : β → Hp → Prop) : Prop :=
  match r with
  | .ok a h' => ∀ S' b, Ext S S' → S'.h = h' → Ok G S' → R S S' a b → Q b S'.H
  | .er e h' => ∀ S' cls d, Ext S S' → S'.h = h' → Ok G S' → ExR G S' e cls d → Wx cls d σ S'.H
  | .bad => False
def tE (G : Ctx) (Wx : WX) (R : RR α β) (f : DS → DH → Rs α) : L2.St → Hp → (β → Hp → Prop) → Prop := fun σ H Q =>
  ∃ S ds, S.H = H ∧ Ok G S ∧ RelS G S ds σ ∧ PostE G Wx R S σ (f ds S.h) Q
/-- told of a later start, it holds of an earlier one -/
def Shift (R : RR α β) : Prop := ∀ S T S' a b, Ext S T → Ext T S' → R T S' a b → R S S' a b
/-- it stays -/
def Stay (R : RR α β) : Prop := ∀ S T S' a b, Ext T S' → R S T a b → R S S' a b
theorem PostE.later {G : Ctx} {Wx : WX} {R : RR α β} {S T : Wd} {σ : L2.St} {r : Rs α} {Q : β → Hp → Prop} (hR : Shift R) (e : Ext S T) (h : PostE G Wx R S σ r Q) : PostE G Wx R T σ r Q := by
  cases r with
  | ok a h' => exact fun S' b e' hh ok rr => h S' b (e.trans e') hh ok (hR _ _ _ _ _ e e' rr)
  | er x h' => exact fun S' cls d e' hh ok rr => h S' cls d (e.trans e') hh ok rr
  | bad => exact h
theorem PostE.mono {G : Ctx} {Wx : WX} {R : RR α β} {S : Wd} {σ : L2.St} {r : Rs α} {Q Q' : β → Hp → Prop} (h : PostE G Wx R S σ r Q) (k : ∀ b H, Q b H → Q' b H) : PostE G Wx R S σ r Q' := by
  cases r with
  | ok a h' => exact fun S' b e' hh ok rr => k _ _ (h S' b e' hh ok rr)
  | er x h' => exact h
  | bad => exact h
theorem PostE.here {G : Ctx} {Wx : WX} {R : RR α β} {S : Wd} {σ : L2.St} {a : α} {b : β} {Q : β → Hp → Prop} (ok : Ok G S) (h : PostE G Wx R S σ (.ok a S.h) Q) (r : R S S a b) : Q b S.H :=
  h S b (Ext.refl S) rfl ok r
theorem PostE.at {G : Ctx} {Wx : WX} {R : RR α β} {S T : Wd} {σ : L2.St} {a : α} {b : β} {Q : β → Hp → Prop} (h : PostE G Wx R S σ (.ok a T.h) Q) (e : Ext S T) (ok : Ok G T) (r : R S T a b) : Q b T.H :=
  h T b e rfl ok r
theorem tE.mono {G : Ctx} {Wx : WX} {R : RR α β} {f : DS → DH → Rs α} {σ : L2.St} {H : Hp} {Q Q' : β → Hp → Prop} (h : tE G Wx R f σ H Q) (k : ∀ b H, Q b H → Q' b H) : tE G Wx R f σ H Q' := by
  obtain ⟨S, ds, a, b, c, p⟩ := h
  exact ⟨S, ds, a, b, c, p.mono k⟩

/-- one, then what is made of it -/
def b1 (f : DS → DH → Rs α) (F : α → DH → Rs γ) : DS → DH → Rs γ := fun ds h =>
  match f ds h with
  | .ok a h1 => F a h1
  | .er e h1 => .er e h1
  | .bad => .bad
/-- two, then what is made of them -/
def b2 (f : DS → DH → Rs α) (g : DS → DH → Rs γ) (F : α → γ → DH → Rs ε) : DS → DH → Rs ε := fun ds h =>
  match f ds h with
  | .ok a h1 => (match g ds h1 with
    | .ok b h2 => F a b h2
    | .er e h2 => .er e h2
    | .bad => .bad)
  | .er e h1 => .er e h1
  | .bad => .bad
theorem b1_imp {G : Ctx} {Wx : WX} {R1 : RR α β} {R : RR γ δ} {f : DS → DH → Rs α} {F : α → DH → Rs γ} {σ : L2.St} {H : Hp} {Q : δ → Hp → Prop} (h : tE G Wx R (b1 f F) σ H Q) :
    tE G Wx R1 f σ H fun x H1 => ∃ S0 S a, S.H = H1 ∧ Ext S0 S ∧ S0.H = H ∧ Ok G S ∧ R1 S0 S a x ∧ PostE G Wx R S0 σ (F a S.h) Q := by
  obtain ⟨S, ds, eH, ok, rs, p⟩ := h
  refine ⟨S, ds, eH, ok, rs, ?_⟩
  unfold b1 at p
  cases q : f ds S.h with
  | bad => rw [q] at p; exact p
  | er e h1 => rw [q] at p; exact p
  | ok a h1 =>
    rw [q] at p
    intro S1 x e1 hh ok1 r1
    subst hh
    exact ⟨S, S1, a, rfl, e1, eH, ok1, r1, p⟩
theorem b2_imp {G : Ctx} {Wx : WX} {R1 : RR α β} {R2 : RR γ δ} {R : RR ε ζ} {f : DS → DH → Rs α} {g : DS → DH → Rs γ} {F : α → γ → DH → Rs ε} {σ : L2.St} {H : Hp} {Q : ζ → Hp → Prop} (h1 : Stay R1) (h : tE G Wx R (b2 f g F) σ H Q) :
    tE G Wx R1 f σ H fun x H1 => tE G Wx R2 g σ H1 fun y H2 => ∃ S0 S1 S a b, S.H = H2 ∧ Ext S0 S1 ∧ Ext S1 S ∧ S0.H = H ∧ Ok G S ∧ R1 S0 S a x ∧ R2 S1 S b y ∧ PostE G Wx R S0 σ (F a b S.h) Q := by
  obtain ⟨S, ds, eH, ok, rs, p⟩ := h
  refine ⟨S, ds, eH, ok, rs, ?_⟩
  unfold b2 at p
  cases q : f ds S.h with
  | bad => rw [q] at p; exact p
  | er e h1 => rw [q] at p; exact p
  | ok a h1' =>
    rw [q] at p
    intro S1 x e1 hh ok1 r1
    subst hh
    dsimp only at p
    refine ⟨S1, ds, rfl, ok1, rs.up e1, ?_⟩
    cases q2 : g ds S1.h with
    | bad => rw [q2] at p; exact p
    | er e h2 =>
      rw [q2] at p
      exact fun S' cls d e' hh' ok' rr => p S' cls d (e1.trans e') hh' ok' rr
    | ok b h2 =>
      rw [q2] at p
      intro S2 y e2 hh2 ok2 r2
      subst hh2
      exact ⟨S, S1, S2, a, b, rfl, e1, e2, eH, ok2, h1 _ _ _ _ _ e2 r1, r2, p⟩
end

theorem Ext.none {S T : Wd} (e : Ext S T) {p : Addr} (c : T.H p = Option.none) : S.H p = Option.none := by
  cases q : S.H p with
  | none => rfl
  | some o =>
    obtain ⟨o', z⟩ := e.th p o q
    rw [c] at z
    cases z
/-! ### the four kinds of results -/
def RW (G : Ctx) : RR Wv V := fun _ S a v => RepW G S a v
def RB : RR Bool Bool := fun _ _ a b => a = b
def RL (G : Ctx) : RR (List Wv) (List V) := fun _ S a v => RepWs G S a v
/-- a thing that has just been made and that nobody knows -/
def RF (G : Ctx) : RR DO V := fun S S' o v => ∃ p, v = V.ref p ∧ OR G S' o p ∧ S.H p = none ∧ S'.Z p = none ∧ ¬ Own S' p
theorem RW.shift (G : Ctx) : Shift (RW G) := fun _ _ _ _ _ _ _ h => h
theorem RB.shift : Shift RB := fun _ _ _ _ _ _ _ h => h
theorem RL.shift (G : Ctx) : Shift (RL G) := fun _ _ _ _ _ _ _ h => h
theorem RF.shift (G : Ctx) : Shift (RF G) := fun S T _ _ _ e _ ⟨p, a, b, c, d⟩ => ⟨p, a, b, e.none c, d⟩
theorem RW.stay (G : Ctx) : Stay (RW G) := fun _ _ _ _ _ e h => e.repW h
theorem RB.stay : Stay RB := fun _ _ _ _ _ _ h => h
theorem RL.stay (G : Ctx) : Stay (RL G) := fun _ _ _ _ _ e h => e.repWs h

section
variable (X : Cx) (ca : CT) (Wx : WX)
abbrev gx : Ctx := ⟨X.K, ca⟩
/-- an expression; a test; arguments; an expression that makes a new thing -/
def PD (e : Expr) (f : DS → DH → Rs Wv) : Prop := PE X e (tE (gx X ca) Wx (RW (gx X ca)) f)
def PDT (e : Expr) (f : DS → DH → Rs Bool) : Prop := PT X e (tE (gx X ca) Wx RB f)
def PDA (es : List Expr) (f : DS → DH → Rs (List Wv)) : Prop := PA X es (tE (gx X ca) Wx (RL (gx X ca)) f)
def PF (e : Expr) (f : DS → DH → Rs DO) : Prop := PE X e (tE (gx X ca) Wx (RF (gx X ca)) f)
end
theorem PE.imp {X : Cx} {e : Expr} {t t' : TE} (h : PE X e t) (k : ∀ σ H Q, t' σ H Q → t σ H Q) : PE X e t' := ⟨fun pins s σ H Q I z => h.run pins s σ H Q I (k σ H Q z)⟩
theorem PT.imp {X : Cx} {e : Expr} {t t' : TT} (h : PT X e t) (k : ∀ σ H Q, t' σ H Q → t σ H Q) : PT X e t' := ⟨fun pins s σ H Q I z => h.run pins s σ H Q I (k σ H Q z)⟩
theorem PA.imp {X : Cx} {es : List Expr} {t t' : TA} (h : PA X es t) (k : ∀ σ H Q, t' σ H Q → t σ H Q) : PA X es t' := ⟨fun pos pins s σ H Q I z => h.run pos pins s σ H Q I (k σ H Q z)⟩

/-! ### values of the frame, constants -/
def eV (i : Nat) : DS → DH → Rs Wv := fun ds h =>
  match ds[i]? with
  | some (some w) => .ok w h
  | _ => .bad
def eC (x : Dv) : DS → DH → Rs Wv := fun _ h => .ok (.d x) h
section
variable {X : Cx} {ca : CT} {Wx : WX}
theorem pd_of {e : Expr} {t : TE} {f : DS → DH → Rs Wv} (h : PE X e t) (k : ∀ σ H Q, tE (gx X ca) Wx (RW (gx X ca)) f σ H Q → t σ H Q) : PD X ca Wx e f := PE.imp h k
theorem pd_v (i : Nat) {x : Str} {pos : Pos} (hN : X.N[i]? = some x := by rfl) (hv : Vis X.env.scope x := by first | exact Or.inl rfl | exact Or.inr (Or.inl rfl) | exact Or.inr (Or.inr rfl)) (hd : (x == ("__debug__" : Str)) = false := by decide)
    (hcd : (x == ("__classdict__" : Str)) = false := by decide) : PD X ca Wx (.Name x pos) (eV i) := by
  refine pd_of (pe_var hN hv hd hcd) fun σ H Q ⟨S, ds, eH, ok, rs, p⟩ => ?_
  subst eH
  unfold eV at p
  cases q : ds[i]? with
  | none => rw [q] at p; exact p.elim
  | some o =>
    cases o with
    | none => rw [q] at p; exact p.elim
    | some w =>
      rw [q] at p
      obtain ⟨v, h1, h2⟩ := rs.2 i w q
      exact ⟨v, h1, p.here ok h2⟩
theorem pd_c {e : Expr} {v : V} {x : Dv} (h : PE X e (tC v)) (hr : ∀ Z, Rep (gx X ca) Z x v) : PD X ca Wx e (eC x) := by
  refine pd_of h fun σ H Q ⟨S, ds, eH, ok, rs, p⟩ => ?_
  subst eH
  exact p.here ok (hr _)
theorem rep_int {G : Ctx} {Z : Hp} {i : Int} : Rep G Z (.int i) (V.int i) := by unfold Rep; rfl
theorem rep_bl {G : Ctx} {Z : Hp} {i : Bool} : Rep G Z (.bl i) (V.bl i) := by unfold Rep; rfl
theorem rep_str {G : Ctx} {Z : Hp} {i : Str} : Rep G Z (.str i) (V.str i) := by unfold Rep; rfl
theorem rep_non {G : Ctx} {Z : Hp} : Rep G Z .non V.non := by unfold Rep; rfl
theorem pd_int {i j pos} : PD X ca Wx (.Constant (.int i) j pos) (eC (.int i)) := pd_c pe_int fun _ => rep_int
theorem pd_bl {i j pos} : PD X ca Wx (.Constant (.bool i) j pos) (eC (.bl i)) := pd_c pe_bl fun _ => rep_bl
theorem pd_non {j pos} : PD X ca Wx (.Constant .none j pos) (eC .non) := pd_c pe_non fun _ => rep_non
theorem pd_str {i j pos} : PD X ca Wx (.Constant (.str i) j pos) (eC (.str i)) := pd_c pe_str fun _ => rep_str
end
end DL
namespace DL
open PySem PySem.Spec PyProof.Rows L2

/-- how a statement ends -/
inductive So where
  | nx (ds : DS) (h : DH)
  | rt (w : Wv) (h : DH)
  | bk (ds : DS) (h : DH)
  | ct (ds : DS) (h : DH)
  | er (e : Dv) (ds : DS) (h : DH)
  | bad
abbrev Sm := DS → DH → So
def PostS (G : Ctx) (Wx : WX) (S : Wd) (r : So) (D : Ends) : Prop :=
  match r with
  | .nx ds h' => ∀ S' σ', Ext S S' → S'.h = h' → Ok G S' → RelS G S' ds σ' → D.nx σ' S'.H
  | .rt w h' => ∀ S' v, Ext S S' → S'.h = h' → Ok G S' → RepW G S' w v → D.rt v S'.H
  | .bk ds h' => ∀ S' σ', Ext S S' → S'.h = h' → Ok G S' → RelS G S' ds σ' → D.bk σ' S'.H
  | .ct ds h' => ∀ S' σ', Ext S S' → S'.h = h' → Ok G S' → RelS G S' ds σ' → D.ct σ' S'.H
  | .er e ds h' => ∀ S' σ' cls d, Ext S S' → S'.h = h' → Ok G S' → RelS G S' ds σ' → ExR G S' e cls d → Wx cls d σ' S'.H
  | .bad => False
def tS (G : Ctx) (Wx : WX) (F : Sm) : TS := fun D σ H => ∃ S ds, S.H = H ∧ Ok G S ∧ RelS G S ds σ ∧ PostS G Wx S (F ds S.h) D
theorem PostS.later {G : Ctx} {Wx : WX} {S T : Wd} {r : So} {D : Ends} (e : Ext S T) (h : PostS G Wx S r D) : PostS G Wx T r D := by
  cases r with
  | nx ds h' => exact fun S' σ' e' => h S' σ' (e.trans e')
  | rt w h' => exact fun S' v e' => h S' v (e.trans e')
  | bk ds h' => exact fun S' σ' e' => h S' σ' (e.trans e')
  | ct ds h' => exact fun S' σ' e' => h S' σ' (e.trans e')
  | er x ds h' => exact fun S' σ' cls d e' => h S' σ' cls d (e.trans e')
  | bad => exact h
theorem PostS.mono {G : Ctx} {Wx : WX} {S : Wd} {r : So} {D D' : Ends} (h : PostS G Wx S r D) (h1 : ∀ σ H, D.nx σ H → D'.nx σ H) (h2 : ∀ v H, D.rt v H → D'.rt v H) (h3 : ∀ σ H, D.bk σ H → D'.bk σ H) (h4 : ∀ σ H, D.ct σ H → D'.ct σ H) : PostS G Wx S r D' := by
  cases r with
  | nx ds h' => exact fun S' σ' a b c d => h1 _ _ (h S' σ' a b c d)
  | rt w h' => exact fun S' v a b c d => h2 _ _ (h S' v a b c d)
  | bk ds h' => exact fun S' σ' a b c d => h3 _ _ (h S' σ' a b c d)
  | ct ds h' => exact fun S' σ' a b c d => h4 _ _ (h S' σ' a b c d)
  | er x ds h' => exact h
  | bad => exact h

section
variable (X : Cx) (ca : CT) (Wx : WX)
def PDS (st : Stmt) (F : Sm) : Prop := PS X st (tS (gx X ca) Wx F)
def PDSs (sts : List Stmt) (F : Sm) : Prop := PSs X sts (tS (gx X ca) Wx F)
end
theorem PS.imp {X : Cx} {st : Stmt} {t t' : TS} (h : PS X st t) (k : ∀ D σ H, t' D σ H → t D σ H) : PS X st t' := ⟨fun pins s σ H D I z => h.run pins s σ H D I (k D σ H z)⟩
theorem PSs.imp {X : Cx} {st : List Stmt} {t t' : TS} (h : PSs X st t) (k : ∀ D σ H, t' D σ H → t D σ H) : PSs X st t' := ⟨fun pins s σ H D I z => h.run pins s σ H D I (k D σ H z)⟩

def sNx : Sm := fun ds h => .nx ds h
def sSeq (F K : Sm) : Sm := fun ds h =>
  match F ds h with
  | .nx ds' h' => K ds' h'
  | .rt w h' => .rt w h'
  | .bk ds' h' => .bk ds' h'
  | .ct ds' h' => .ct ds' h'
  | .er e ds' h' => .er e ds' h'
  | .bad => .bad
def sRt (f : DS → DH → Rs Wv) : Sm := fun ds h =>
  match f ds h with
  | .ok w h' => .rt w h'
  | .er e h' => .er e ds h'
  | .bad => .bad
def sEx {α : Type} (f : DS → DH → Rs α) : Sm := fun ds h =>
  match f ds h with
  | .ok _ h' => .nx ds h'
  | .er e h' => .er e ds h'
  | .bad => .bad
def sIf (c : DS → DH → Rs Bool) (F K : Sm) : Sm := fun ds h =>
  match c ds h with
  | .ok b h' => if b = true then F ds h' else K ds h'
  | .er e h' => .er e ds h'
  | .bad => .bad
/-- a value, then what is done with it -/
abbrev Tg := Wv → Sm
def sTo (f : DS → DH → Rs Wv) (g : Tg) : Sm := fun ds h =>
  match f ds h with
  | .ok w h' => g w ds h'
  | .er e h' => .er e ds h'
  | .bad => .bad
def gV (i : Nat) : Tg := fun w ds h => .nx (ds.set i (some w)) h
abbrev sSet (i : Nat) (f : DS → DH → Rs Wv) : Sm := sTo f (gV i)

section
variable {X : Cx} {ca : CT} {Wx : WX} {st : Stmt} {rest : List Stmt} {F K : Sm} {e : Expr} {f : DS → DH → Rs Wv} {pos : Pos}
theorem pds_nil : PDSs X ca Wx [] sNx := PSs.imp pss_nil fun D σ H ⟨S, ds, eH, ok, rs, p⟩ => by
  subst eH
  exact p S σ (Ext.refl S) rfl ok rs
theorem pds_cons (h1 : PDS X ca Wx st F) (h2 : PDSs X ca Wx rest K) : PDSs X ca Wx (st :: rest) (sSeq F K) := by
  refine PSs.imp (pss_cons h1 h2) fun D σ H ⟨S, ds, eH, ok, rs, p⟩ => ?_
  refine ⟨S, ds, eH, ok, rs, ?_⟩
  unfold sSeq at p
  cases q : F ds S.h with
  | nx ds' h' =>
    rw [q] at p
    intro S' σ' e1 hh ok' rs'
    subst hh
    exact ⟨S', ds', rfl, ok', rs', p.later e1⟩
  | rt w h' => rw [q] at p; exact p
  | bk ds' h' => rw [q] at p; exact p
  | ct ds' h' => rw [q] at p; exact p
  | er x ds' h' => rw [q] at p; exact p
  | bad => rw [q] at p; exact p
theorem pds_one (h1 : PDS X ca Wx st F) : PDSs X ca Wx [st] F := pss_one h1
theorem pds_ret (he : PD X ca Wx e f) : PDS X ca Wx (.Return (some e) pos) (sRt f) := by
  refine PS.imp (ps_ret he) fun D σ H ⟨S, ds, eH, ok, rs, p⟩ => ?_
  refine ⟨S, ds, eH, ok, rs, ?_⟩
  unfold sRt at p
  cases q : f ds S.h with
  | ok w h' => rw [q] at p; exact p
  | er x h' => rw [q] at p; exact fun S' cls d e1 hh ok' x' => p S' σ cls d e1 hh ok' (rs.up e1) x'
  | bad => rw [q] at p; exact p
def sRtN : Sm := fun ds h => .rt (.d .non) h
theorem pds_expr (he : PD X ca Wx e f) (hs : swapsWith e none pos.line X.env = pure false := by rfl) : PDS X ca Wx (.Expr e pos) (sEx f) := by
  refine PS.imp (ps_expr he hs) fun D σ H ⟨S, ds, eH, ok, rs, p⟩ => ?_
  refine ⟨S, ds, eH, ok, rs, ?_⟩
  unfold sEx at p
  cases q : f ds S.h with
  | ok w h' => rw [q] at p; exact fun S' v e1 hh ok' r => p S' σ e1 hh ok' (rs.up e1)
  | er x h' => rw [q] at p; exact fun S' cls d e1 hh ok' x' => p S' σ cls d e1 hh ok' (rs.up e1) x'
  | bad => rw [q] at p; exact p
theorem pds_if {c : Expr} {a b : List Stmt} {fc : DS → DH → Rs Bool} (hc : PDT X ca Wx c fc) (ha : PDSs X ca Wx a F) (hb : PDSs X ca Wx b K) : PDS X ca Wx (.If c a b pos) (sIf fc F K) := by
  refine PS.imp (ps_if hc ha hb) fun D σ H ⟨S, ds, eH, ok, rs, p⟩ => ?_
  refine ⟨S, ds, eH, ok, rs, ?_⟩
  unfold sIf at p
  cases q : fc ds S.h with
  | ok w h' =>
    rw [q] at p
    intro S' b e1 hh ok' r
    subst hh
    have r' : w = b := r
    subst r'
    cases w with
    | true => rw [if_pos rfl]; dsimp only at p; rw [if_pos rfl] at p; exact ⟨S', ds, rfl, ok', rs.up e1, p.later e1⟩
    | false => rw [if_neg Bool.false_ne_true]; dsimp only at p; rw [if_neg Bool.false_ne_true] at p; exact ⟨S', ds, rfl, ok', rs.up e1, p.later e1⟩
  | er x h' => rw [q] at p; exact fun S' cls d e1 hh ok' x' => p S' σ cls d e1 hh ok' (rs.up e1) x'
  | bad => rw [q] at p; exact p
end

/-! ### targets -/
def tG (G : Ctx) (Wx : WX) (g : Tg) : TG := fun v σ H Q => ∃ S ds w, S.H = H ∧ Ok G S ∧ RelS G S ds σ ∧ RepW G S w v ∧ PostS G Wx S (g w ds S.h) ⟨Q, fun _ _ => False, fun _ _ => False, fun _ _ => False⟩
def PDG (X : Cx) (ca : CT) (Wx : WX) (tg : Expr) (g : Tg) : Prop := PG X tg (tG (gx X ca) Wx g)
theorem PG.imp {X : Cx} {e : Expr} {t t' : TG} (h : PG X e t) (k : ∀ v σ H Q, t' v σ H Q → t v σ H Q) : PG X e t' := ⟨fun pins s σ H v u Q I r z => h.run pins s σ H v u Q I r (k v σ H Q z)⟩
theorem PGs.imp {X : Cx} {e : List Expr} {t t' : TGs} (h : PGs X e t) (k : ∀ v σ H Q, t' v σ H Q → t v σ H Q) : PGs X e t' := ⟨fun pins s σ H v u Q I r z => h.run pins s σ H v u Q I r (k v σ H Q z)⟩
section
variable {X : Cx} {ca : CT} {Wx : WX} {pos : Pos}
theorem pdg_name {i : Nat} {x : Str} (hN : X.N.Nodup) (hi : X.N[i]? = some x) (hx : Loc X.env.scope x) (hf : X.fn x = true ∨ X.env.scope.names.lookup x = some .local := by first | exact .inl rfl | exact .inr rfl | assumption) : PDG X ca Wx (.Name x pos) (gV i) :=
  PG.imp (pg_name hN hi hx hf) fun v σ H Q ⟨S, ds, w, eH, ok, rs, r, p⟩ => by
    subst eH
    exact p S _ (Ext.refl S) rfl ok (rs.set r i)
/-- several targets, one behind the other -/
abbrev Tgs := List Dv → Sm
def gNil' : Tgs := fun xs ds h => match xs with | [] => .nx ds h | _ => .bad
def gCons' (g : Tg) (k : Tgs) : Tgs := fun xs ds h => match xs with
  | [] => .bad
  | x :: r => (match g (.d x) ds h with
    | .nx ds' h' => k r ds' h'
    | _ => .bad)
def gTup' (n : Nat) (k : Tgs) : Tg := fun w ds h => match w with
  | .d (.tup xs) => if xs.length = n then k xs ds h else .bad
  | _ => .bad
theorem pds_asg {tg e : Expr} {f : DS → DH → Rs Wv} {g : Tg} (he : PD X ca Wx e f) (hg : PDG X ca Wx tg g) (hs : swapsWithSole [tg] e pos.line X.env = pure false := by rfl) (hw : swappedStores [tg] e X.env = pure none := by rfl)
    (h1 : (assignEach [tg] X.env).map (·.2) = [assign tg X.env] := by rfl) (hgx : ∀ w ds h, ∀ r, g w ds h = r → (match r with | .nx _ _ => True | .bad => True | _ => False)) : PDS X ca Wx (.Assign [tg] e pos) (sTo f g) := by
  refine PS.imp (ps_asg he hg hs hw h1) fun D σ H ⟨S, ds, eH, ok, rs, p⟩ => ?_
  refine ⟨S, ds, eH, ok, rs, ?_⟩
  unfold sTo at p
  cases q : f ds S.h with
  | ok w h' =>
    rw [q] at p
    dsimp only at p
    intro S' v e1 hh ok' r
    subst hh
    refine ⟨S', ds, w, rfl, ok', rs.up e1, r, ?_⟩
    have z := hgx w ds S'.h _ rfl
    cases q2 : g w ds S'.h with
    | nx ds' h' => rw [q2] at p; exact fun T σ' a b c d => p T σ' (e1.trans a) b c d
    | bad => rw [q2] at p; exact p
    | rt w h' => rw [q2] at z; exact z.elim
    | bk ds' h' => rw [q2] at z; exact z.elim
    | ct ds' h' => rw [q2] at z; exact z.elim
    | er x ds' h' => rw [q2] at z; exact z.elim
  | er x h' => rw [q] at p; exact fun S' cls d e1 hh ok' x' => p S' σ cls d e1 hh ok' (rs.up e1) x'
  | bad => rw [q] at p; exact p
/-- targets only ever go on -/
def Goes (g : Tg) : Prop := ∀ w ds h, ∀ r, g w ds h = r → (match r with | .nx _ _ => True | .bad => True | _ => False)
/-- name = value -/
theorem pds_set {i : Nat} {x : Str} {e : Expr} {f : DS → DH → Rs Wv} {pos' : Pos} (hN : X.N.Nodup) (hi : X.N[i]? = some x) (hx : Loc X.env.scope x) (he : PD X ca Wx e f) (hs : swapsWith e (some (.Name x pos')) pos.line X.env = pure false := by rfl) (hf : X.fn x = true ∨ X.env.scope.names.lookup x = some .local := by first | exact .inl rfl | exact .inr rfl | assumption) :
    PDS X ca Wx (.Assign [.Name x pos'] e pos) (sSet i f) := by
  refine PS.imp (ps_set hN hi hx he hs hf) fun D σ H ⟨S, ds, eH, ok, rs, p⟩ => ?_
  refine ⟨S, ds, eH, ok, rs, ?_⟩
  unfold sSet sTo at p
  cases q : f ds S.h with
  | ok w h' =>
    rw [q] at p
    intro S' v e1 hh ok' r
    exact p S' _ e1 hh ok' ((rs.up e1).set r i)
  | er x h' => rw [q] at p; exact fun S' cls d e1 hh ok' x' => p S' σ cls d e1 hh ok' (rs.up e1) x'
  | bad => rw [q] at p; exact p
/-- a, b = x, y -/
def sPar (i j : Nat) (f : DS → DH → Rs (List Wv)) : Sm := fun ds h =>
  match f ds h with
  | .ok ws h' => (match ws with
    | [u, v] => .nx ((ds.set i (some u)).set j (some v)) h'
    | _ => .bad)
  | .er e h' => .er e ds h'
  | .bad => .bad
theorem pds_par {i j : Nat} {x y : Str} {a b : Expr} {f : DS → DH → Rs (List Wv)} {px py pt : Pos} {kt k2 pt2} (hc : X.calm = true) (hN : X.N.Nodup) (hi : X.N[i]? = some x) (hj : X.N[j]? = some y) (hij : i ≠ j)
    (hx : X.env.scope.names.lookup x = some .local) (hy : X.env.scope.names.lookup y = some .local) (ha : PDA X ca Wx [a, b] f)
    (hw : swappedStores [.Tuple [.Name x px, .Name y py] kt pt] (.Tuple [a, b] k2 pt2) X.env = pure (some [x, y]))
    (hs : swapsWithSole [.Tuple [.Name x px, .Name y py] kt pt] (.Tuple [a, b] k2 pt2) pos.line X.env = pure false := by rfl) :
    PDS X ca Wx (.Assign [.Tuple [.Name x px, .Name y py] kt pt] (.Tuple [a, b] k2 pt2) pos) (sPar i j f) := by
  refine PS.imp (ps_par hc hN hi hj hij hx hy ha hw hs) fun D σ H ⟨S, ds, eH, ok, rs, p⟩ => ?_
  refine ⟨S, ds, eH, ok, rs, ?_⟩
  unfold sPar at p
  cases q : f ds S.h with
  | ok ws h' =>
    rw [q] at p
    dsimp only at p
    intro S' vs e1 hh ok' r
    match ws, p, r with
    | [u, v], p, r =>
      obtain ⟨v1, r1, rfl, ru, v2, r2, rfl, rv, rfl⟩ := r
      exact ⟨v1, v2, rfl, p S' _ e1 hh ok' (((rs.up e1).set ru i).set rv j)⟩
    | [], p, _ => exact p.elim
    | [_], p, _ => exact p.elim
    | _ :: _ :: _ :: _, p, _ => exact p.elim
  | er x h' => rw [q] at p; exact fun S' cls d e1 hh ok' x' => p S' σ cls d e1 hh ok' (rs.up e1) x'
  | bad => rw [q] at p; exact p
end

/-! ### loops -/
/-- what an iterator hands out, from the world S on -/
structure ItR (G : Ctx) (J : It) (S0 : Wd) (xs : List Dv) : Prop where
  go : ∀ S, Ext S0 S → Ok G S → ∀ i, i < xs.length → J.go i S.H
  stop : ∀ S, Ext S0 S → Ok G S → ∀ i, xs.length ≤ i → J.stop i S.H
  yld : ∀ S, Ext S0 S → Ok G S → ∀ (i : Nat) x H' d, xs[i]? = some d → J.yld i S.H x H' → ∃ S', S'.H = H' ∧ S'.h = S.h ∧ Ext S S' ∧ Ok G S' ∧ Rep G S'.Z d x
/-- the things walked -/
def RI (G : Ctx) : RR (List Dv) It := fun _ S xs J => ItR G J S xs
theorem RI.shift (G : Ctx) : Shift (RI G) := fun _ _ _ _ _ _ _ h => h
def tI (G : Ctx) (Wx : WX) (f : DS → DH → Rs (List Dv)) : TI := tE G Wx (RI G) f
def PDI (X : Cx) (ca : CT) (Wx : WX) (tg iter : Expr) (f : DS → DH → Rs (List Dv)) : Prop := PI X tg iter (tI (gx X ca) Wx f)
theorem PI.imp {X : Cx} {tg e : Expr} {t t' : TI} (h : PI X tg e t) (k : ∀ σ H Q, t' σ H Q → t σ H Q) : PI X tg e t' := ⟨fun pins s σ H Q I z => h.run pins s σ H Q I (k σ H Q z)⟩
def forGo (g : Tg) (F : Sm) : List Dv → Sm
  | [] => fun ds h => .nx ds h
  | x :: r => fun ds h =>
    match g (.d x) ds h with
    | .nx ds1 h1 => (match F ds1 h1 with
      | .nx ds' h' => forGo g F r ds' h'
      | .ct ds' h' => forGo g F r ds' h'
      | .bk ds' h' => .nx ds' h'
      | .rt w h' => .rt w h'
      | .er e ds' h' => .er e ds' h'
      | .bad => .bad)
    | _ => .bad
def sFor (f : DS → DH → Rs (List Dv)) (g : Tg) (F : Sm) : Sm := fun ds h =>
  match f ds h with
  | .ok xs h' => forGo g F xs ds h'
  | .er e h' => .er e ds h'
  | .bad => .bad
theorem drop_get {α : Type} : ∀ (l : List α) (i : Nat) (x : α) (r : List α), l.drop i = x :: r → l[i]? = some x ∧ l.drop (i + 1) = r
  | [], i, x, r, h => by simp at h
  | a :: l, 0, x, r, h => by
    simp at h
    obtain ⟨rfl, rfl⟩ := h
    exact ⟨rfl, rfl⟩
  | a :: l, i + 1, x, r, h => by
    have h' : l.drop i = x :: r := h
    obtain ⟨p, q⟩ := drop_get l i x r h'
    exact ⟨by simpa using p, q⟩
theorem pds_for {X : Cx} {ca : CT} {Wx : WX} {pos : Pos} {tg iter : Expr} {body : List Stmt} {f : DS → DH → Rs (List Dv)} {g : Tg} {F : Sm} (hp : PassesOwn (model X.prog X.w) X.A X.env X.xe) (hc : X.calm = true) (hi : PDI X ca Wx tg iter f) (hg : PDG X ca Wx tg g) (hb : PDSs X ca Wx body F)
    (hs : ∀ x, foldedSetIterable iter X.env x = pure x := by intro _; rfl) : PDS X ca Wx (.For tg iter body [] pos) (sFor f g F) := by
  refine PS.imp (ps_for hp hc hi hg hb hs) fun D σ H ⟨S, ds, eH, ok, rs, p⟩ => ?_
  refine ⟨S, ds, eH, ok, rs, ?_⟩
  unfold sFor at p
  cases q : f ds S.h with
  | bad => rw [q] at p; exact p
  | er e h1 => rw [q] at p; exact fun S' cls d e1 hh ok' x' => p S' σ cls d e1 hh ok' (rs.up e1) x'
  | ok xs h1 =>
    rw [q] at p
    dsimp only at p
    intro S1 J e1 hh ok1 it
    subst hh
    refine ⟨fun i m σ H => ∃ T ds, T.H = H ∧ Ext S1 T ∧ Ok (gx X ca) T ∧ RelS (gx X ca) T ds σ ∧ m = xs.length - i ∧ i ≤ xs.length ∧ PostS (gx X ca) Wx T (forGo g F (xs.drop i) ds T.h) D,
      ⟨xs.length, S1, ds, rfl, Ext.refl S1, ok1, rs.up e1, rfl, Nat.zero_le _, p.later e1⟩, ?_⟩
    rintro i m σ H ⟨T, ds, rfl, eT, okT, rsT, rfl, hi, pT⟩
    by_cases hlt : i < xs.length
    · refine .inr ⟨it.go T eT okT i hlt, ?_⟩
      cases qd : xs.drop i with
      | nil =>
        have := congrArg List.length qd
        rw [List.length_drop] at this
        simp at this
        omega
      | cons x r =>
        obtain ⟨hx, hr⟩ := drop_get xs i x r qd
        rw [qd] at pT
        unfold forGo at pT
        refine ⟨fun σ' H' => ∃ T' ds', T'.H = H' ∧ Ext S1 T' ∧ Ok (gx X ca) T' ∧ RelS (gx X ca) T' ds' σ' ∧ PostS (gx X ca) Wx T' (forGo g F r ds' T'.h) D, ?_, ?_⟩
        · rintro σ' H' ⟨T', ds', a, b, c, d, e⟩
          refine ⟨xs.length - (i + 1), by omega, T', ds', a, b, c, d, rfl, hlt, ?_⟩
          rw [hr]; exact e
        · intro v H' y
          obtain ⟨T2, rfl, h2, e2, ok2, r2⟩ := it.yld T eT okT i v H' x hx y
          refine ⟨T2, ds, .d x, rfl, ok2, rsT.up e2, r2, ?_⟩
          rw [h2]
          cases q3 : g (.d x) ds T.h with
          | nx ds1 h1 =>
            rw [q3] at pT
            dsimp only at pT
            intro T3 σ3 e3 hh3 ok3 rs3
            subst hh3
            refine ⟨T3, ds1, rfl, ok3, rs3, ?_⟩
            have e23 := e2.trans e3
            cases q4 : F ds1 T3.h with
            | nx ds' h' => rw [q4] at pT; exact fun T' σ' e4 hh4 ok4 rs4 => ⟨T', ds', rfl, eT.trans (e23.trans e4), ok4, rs4, by subst hh4; exact pT.later (e23.trans e4)⟩
            | ct ds' h' => rw [q4] at pT; exact fun T' σ' e4 hh4 ok4 rs4 => ⟨T', ds', rfl, eT.trans (e23.trans e4), ok4, rs4, by subst hh4; exact pT.later (e23.trans e4)⟩
            | bk ds' h' => rw [q4] at pT; exact fun T' σ' e4 hh4 ok4 rs4 => pT T' σ' (e23.trans e4) hh4 ok4 rs4
            | rt w h' => rw [q4] at pT; exact fun T' v e4 hh4 ok4 r4 => pT T' v (e23.trans e4) hh4 ok4 r4
            | er x ds' h' => rw [q4] at pT; exact fun T' σ' cls d e4 hh4 ok4 rs4 x4 => pT T' σ' cls d (e23.trans e4) hh4 ok4 rs4 x4
            | bad => rw [q4] at pT; exact pT
          | rt w h' => rw [q3] at pT; exact pT.elim
          | bk ds' h' => rw [q3] at pT; exact pT.elim
          | ct ds' h' => rw [q3] at pT; exact pT.elim
          | er x ds' h' => rw [q3] at pT; exact pT.elim
          | bad => rw [q3] at pT; exact pT.elim
    · have e : i = xs.length := by omega
      subst e
      refine .inl ⟨it.stop T eT okT _ (Nat.le_refl _), ?_⟩
      rw [List.drop_length] at pT
      exact pT T σ (Ext.refl T) rfl okT rsT
end DL
namespace DL
open PySem PySem.Spec PyProof.Rows L2

theorem lim_le : (1000000 : Nat) ≤ sizeLine := by decide
theorem le_line {n : Nat} (h : n ≤ 1000000) : n ≤ sizeLine := Nat.le_trans h lim_le

/-! ### what is read of a world -/
section
variable {G : Ctx} {S : Wd}
theorem Ok.up1 (ok : Ok G S) {a : Addr} {o : HO} (h : S.Z a = some o) (hn : ∀ kv, o ≠ .dK kv) (ht : ∀ ps, o ≠ .tbl ps := by intro _ z; cases z) : S.H a = some o := by
  rcases ok.sub a o h with z | ⟨kv, _, e, _⟩ | ⟨ps, _, e, _⟩
  · exact z
  · exact absurd e (hn kv)
  · exact absurd e (ht ps)
theorem Ok.sqT (ok : Ok G S) {K : PySem.W.Frag} {a : Addr} {vs : List V} (h : SqT K S.Z a vs) : SqT K S.H a vs := by
  rcases h with (h | ⟨o, h⟩) | h
  · exact .inl (.inl (ok.up1 h fun _ z => by cases z))
  · exact .inl (.inr ⟨o, ok.up1 h fun _ z => by cases z⟩)
  · exact .inr h
theorem Ok.sqL (ok : Ok G S) {K : PySem.W.Frag} {a : Addr} {vs : List V} (h : SqL K S.Z a vs) : SqL K S.H a vs := by
  rcases h with (h | ⟨o, h⟩) | h
  · exact .inl (.inl (ok.up1 h fun _ z => by cases z))
  · exact .inl (.inr ⟨o, ok.up1 h fun _ z => by cases z⟩)
  · exact .inr h
theorem Ok.rdK (ok : Ok G S) {a : Addr} {kv : List (Key × V)} (h : S.Z a = some (.dK kv)) : Rd S.H a (.dK kv) := by
  rcases ok.sub a _ h with z | ⟨kv', ob, e, z⟩ | ⟨_, _, e, _⟩
  · exact .inl z
  · cases e; exact .inr ⟨ob, z⟩
  · cases e
theorem rep_tup {Z : Hp} {xs : List Dv} {v : V} : Rep G Z (.tup xs) v ↔ ∃ a vs, v = V.ref a ∧ SqT G.K Z a vs ∧ Reps G Z xs vs := by
  constructor
  · intro h; unfold Rep at h; exact h
  · intro h; unfold Rep; exact h
theorem rep_lst {Z : Hp} {xs : List Dv} {v : V} : Rep G Z (.lst xs) v ↔ ∃ a vs, v = V.ref a ∧ Z a = some (.lst vs) ∧ Reps G Z xs vs := by
  constructor
  · intro h; unfold Rep at h; exact h
  · intro h; unfold Rep; exact h
theorem rep_scr {Z : Hp} {xs : List Dv} {v : V} : Rep G Z (.scr xs) v ↔ ∃ a vs, v = V.ref a ∧ SqL G.K Z a vs ∧ Reps G Z xs vs := by
  constructor
  · intro h; unfold Rep at h; exact h
  · intro h; unfold Rep; exact h
theorem rep_dct {Z : Hp} {ks : List Key} {xs : List Dv} {v : V} : Rep G Z (.dct ks xs) v ↔ ∃ a kv, v = V.ref a ∧ Z a = some (.dK kv) ∧ kv.map (·.1) = ks ∧ Reps G Z xs (kv.map (·.2)) := by
  constructor
  · intro h; unfold Rep at h; exact h
  · intro h; unfold Rep; exact h
theorem rep_ins {Z : Hp} {c : Nat} {xs : List Dv} {v : V} : Rep G Z (.ins c xs) v ↔ ∃ a dx fv, v = V.ref a ∧ Z a = some (.ins (G.T.CA c) dx fv) ∧ fv.map (·.1) = G.T.FS c ∧ Reps G Z xs (fv.map (·.2)) := by
  constructor
  · intro h; unfold Rep at h; exact h
  · intro h; unfold Rep; exact h
theorem rep_i {Z : Hp} {i : Int} {v : V} : Rep G Z (.int i) v ↔ v = V.int i := by unfold Rep; exact Iff.rfl
theorem rep_b {Z : Hp} {i : Bool} {v : V} : Rep G Z (.bl i) v ↔ v = V.bl i := by unfold Rep; exact Iff.rfl
theorem rep_s {Z : Hp} {i : Str} {v : V} : Rep G Z (.str i) v ↔ v = V.str i := by unfold Rep; exact Iff.rfl
theorem rep_n {Z : Hp} {v : V} : Rep G Z .non v ↔ v = V.non := by unfold Rep; exact Iff.rfl
/-- a new tuple that will stay -/
theorem put_tup {p : Addr} {xs : List Dv} {vs : List V} (ok : Ok G S) (hp : S.H p = none) (r : Reps G S.Z xs vs) : Rep G (S.put p (.tup vs)).Z (.tup xs) (.ref p) :=
  rep_tup.mpr ⟨p, vs, rfl, .inl (.inl upd_same), Reps.up (ok.put hp).1.zz r⟩
theorem put_lst {p : Addr} {xs : List Dv} {vs : List V} (ok : Ok G S) (hp : S.H p = none) (r : Reps G S.Z xs vs) : Rep G (S.put p (.lst vs)).Z (.lst xs) (.ref p) :=
  rep_lst.mpr ⟨p, vs, rfl, upd_same, Reps.up (ok.put hp).1.zz r⟩
/-- a new list nobody knows -/
theorem raw_lst {p : Addr} {xs : List Dv} {vs : List V} (ok : Ok G S) (hp : S.H p = none) (r : Reps G S.Z xs vs) : RF G S (S.raw p (.lst vs)) (.lst xs) (.ref p) :=
  ⟨p, rfl, ⟨vs, upd_same, r⟩, hp, ok.z hp, fun z => ok.free hp z⟩
theorem raw_dct {p : Addr} {kvs : List (Key × Dv)} {kv : List (Key × V)} (ok : Ok G S) (hp : S.H p = none) (hk : kv.map (·.1) = kvs.map (·.1)) (r : Reps G S.Z (kvs.map (·.2)) (kv.map (·.2))) : RF G S (S.raw p (.dK kv)) (.dct kvs) (.ref p) :=
  ⟨p, rfl, ⟨kv, upd_same, hk, r⟩, hp, ok.z hp, fun z => ok.free hp z⟩
end

/-! ### a new thing: kept for good, or given a number -/
def DO.frz : DO → Option Dv
  | .lst xs => some (.lst xs)
  | .dct kvs => some (.dct (kvs.map (·.1)) (kvs.map (·.2)))
  | _ => none
/-- what stands at p will stay -/
def Wd.keep (S : Wd) (p : Addr) (o : HO) : Wd := { S with Z := upd S.Z p o }
theorem Ok.keep {G : Ctx} {S T : Wd} {p : Addr} {o : HO} (e : Ext S T) (ok : Ok G T) (hp : S.H p = none) (hT : T.H p = some o) (hz : T.Z p = none) (hn : ¬ Own T p) : Ext S (T.keep p o) ∧ Ok G (T.keep p o) := by
  have hzz : ZLe T.Z (upd T.Z p o) := fun a u h => by
    have : a ≠ p := fun z => by rw [z, hz] at h; cases h
    rw [upd_ne this]; exact h
  refine ⟨⟨e.zz.trans hzz, e.mm, e.ln, e.gn, e.fr, e.th, e.nw, fun a u h => ?_⟩, ⟨fun a u h => ?_, fun n u h => ?_, fun n u h l => ?_, ok.inj, ok.bz.trans hzz, ok.tb⟩⟩
  · have h' : upd T.Z p o a = some u := h
    by_cases q : a = p
    · subst q; exact .inr (.inl hp)
    · rw [upd_ne q] at h'; exact e.zn a u h'
  · have h' : upd T.Z p o a = some u := h
    by_cases q : a = p
    · subst q
      rw [upd_same] at h'
      cases h'
      exact .inl hT
    · rw [upd_ne q] at h'; exact ok.sub a u h'
  · exact OR.of_eq (S := T) (S' := T.keep p o) (h := ok.obj n u h) hzz (fun _ _ => rfl) (Nat.le_refl _) rfl
  · show upd T.Z p o (T.μ n) = none
    rw [upd_ne fun z => hn ⟨n, u, h, l, z⟩]
    exact ok.sep n u h l
theorem OR.keep {G : Ctx} {T : Wd} {p : Addr} {d : DO} {x : Dv} (h : OR G T d p) (hf : d.frz = some x) (hz : T.Z p = none) : ∃ o, T.H p = some o ∧ Rep G (T.keep p o).Z x (.ref p) := by
  have up : ∀ {o : HO}, ZLe T.Z (upd T.Z p o) := fun {o} a u h => by
    have : a ≠ p := fun z => by rw [z, hz] at h; cases h
    rw [upd_ne this]; exact h
  cases d with
  | lst xs =>
    obtain ⟨vs, e, r⟩ := h
    cases hf
    exact ⟨_, e, rep_lst.mpr ⟨p, vs, rfl, upd_same, Reps.up up r⟩⟩
  | dct kvs =>
    obtain ⟨kv, e, k, r⟩ := h
    cases hf
    exact ⟨_, e, rep_dct.mpr ⟨p, kv, rfl, upd_same, k, Reps.up up r⟩⟩
  | ins c ws => cases hf
  | box k ws => cases hf
  | gone => cases hf
def fzR (o : DO) (h : DH) : Rs Wv := match o.frz with
  | some x => .ok (.d x) h
  | none => .bad
/-- new, then never changed -/
def eFz (f : DS → DH → Rs DO) : DS → DH → Rs Wv := b1 f fzR
/-- new, with a number of its own -/
def eRg (f : DS → DH → Rs DO) : DS → DH → Rs Wv := b1 f fun o h => .ok (.r h.length) (h ++ [o])
section
variable {X : Cx} {ca : CT} {Wx : WX} {e : Expr} {f : DS → DH → Rs DO} {pos : Pos}
theorem pd_fz (h : PF X ca Wx e f) : PD X ca Wx e (eFz f) := PE.imp h fun σ H Q z => by
  refine (b1_imp (R1 := RF (gx X ca)) z).mono ?_
  rintro v H1 ⟨S0, S, o, rfl, e1, eH, ok, ⟨p, rfl, ho, hp, hz, hn⟩, q⟩
  unfold fzR at q
  cases hf : o.frz with
  | none => rw [hf] at q; exact q.elim
  | some x =>
    rw [hf] at q
    obtain ⟨ob, hob, rx⟩ := ho.keep hf hz
    obtain ⟨e2, ok2⟩ := Ok.keep e1 ok hp hob hz hn
    exact q (S.keep p ob) (.ref p) e2 rfl ok2 rx
theorem pd_rg (h : PF X ca Wx e f) : PD X ca Wx e (eRg f) := PE.imp h fun σ H Q z => by
  refine (b1_imp (R1 := RF (gx X ca)) z).mono ?_
  rintro v H1 ⟨S0, S, o, rfl, e1, eH, ok, ⟨p, rfl, ho, hp, hz, hn⟩, q⟩
  refine q (S.reg p o) (.ref p) (e1.reg hp) rfl (ok.reg ho hz hn) ⟨?_, ?_⟩
  · show S.h.length < (S.h ++ [o]).length
    rw [List.length_append]; simp
  · show V.ref p = V.ref (if S.h.length = S.h.length then p else _)
    rw [if_pos rfl]
end

/-! ### arguments, displays -/
def eNil : DS → DH → Rs (List Wv) := fun _ h => .ok [] h
def eCons (f : DS → DH → Rs Wv) (g : DS → DH → Rs (List Wv)) : DS → DH → Rs (List Wv) := b2 f g fun a as h => .ok (a :: as) h
def allD : List Wv → Option (List Dv)
  | [] => some []
  | .d x :: r => (allD r).map (x :: ·)
  | .r _ :: _ => none
theorem allD_reps {G : Ctx} {S : Wd} : ∀ {ws : List Wv} {xs : List Dv} {vs : List V}, allD ws = some xs → RepWs G S ws vs → Reps G S.Z xs vs
  | [], xs, vs, e, r => by
    cases e
    exact reps_nil.mpr r
  | .d x :: ws, xs, vs, e, ⟨v, t, a, p, q⟩ => by
    unfold allD at e
    cases h : allD ws with
    | none => rw [h] at e; cases e
    | some ys =>
      rw [h] at e
      cases e
      subst a
      exact reps_cons' p (allD_reps h q)
  | .r _ :: _, xs, vs, e, _ => by cases e
def tupR (ws : List Wv) (h : DH) : Rs Wv := match allD ws with
  | some xs => if xs.length ≤ 1000000 then .ok (.d (.tup xs)) h else .bad
  | none => .bad
def lstR (ws : List Wv) (h : DH) : Rs DO := match allD ws with
  | some xs => if xs.length ≤ 1000000 then .ok (.lst xs) h else .bad
  | none => .bad
def eTup (f : DS → DH → Rs (List Wv)) : DS → DH → Rs Wv := b1 f tupR
def eLst (f : DS → DH → Rs (List Wv)) : DS → DH → Rs DO := b1 f lstR
section
variable {X : Cx} {ca : CT} {Wx : WX} {e : Expr} {es : List Expr} {f : DS → DH → Rs Wv} {g : DS → DH → Rs (List Wv)} {pos : Pos}
theorem pda_nil : PDA X ca Wx [] eNil := PA.imp pa_nil fun σ H Q ⟨S, ds, eH, ok, rs, p⟩ => by
  subst eH
  exact p.here ok rfl
theorem pda_cons (ha : PD X ca Wx e f) (hr : PDA X ca Wx es g) (hs : starEach (e :: es) X.env = (false, eval e X.env) :: starEach es X.env := by rfl) : PDA X ca Wx (e :: es) (eCons f g) := PA.imp (pa_cons ha hr hs) fun σ H Q z => by
  refine (b2_imp (R1 := RW (gx X ca)) (R2 := RL (gx X ca)) (RW.stay _) z).mono fun x H1 z1 => z1.mono ?_
  rintro xs H2 ⟨S0, S1, S, a, b, rfl, e1, e2, eH, ok, r1, r2, q⟩
  exact q S _ (e1.trans e2) rfl ok ⟨x, xs, rfl, r1, r2⟩
theorem pd_tup {k : Nat} (h : PDA X ca Wx es g) : PD X ca Wx (.Tuple es k pos) (eTup g) := PE.imp (pe_tup h) fun σ H Q z => by
  refine (b1_imp (R1 := RL (gx X ca)) z).mono ?_
  rintro vs H1 ⟨S0, S, ws, rfl, e1, eH, ok, r, q⟩
  unfold tupR at q
  cases hf : allD ws with
  | none => rw [hf] at q; exact q.elim
  | some xs =>
    rw [hf] at q
    dsimp only at q
    by_cases hl : xs.length ≤ 1000000
    · rw [if_pos hl] at q
      have rr := allD_reps hf r
      refine ⟨by rw [← rr.length]; exact le_line hl, fun p hp => ?_⟩
      obtain ⟨e2, ok2⟩ := ok.put (o := .tup vs) hp
      exact q (S.put p (.tup vs)) (.ref p) (e1.trans e2) rfl ok2 (put_tup ok hp rr)
    · rw [if_neg hl] at q; exact q.elim
theorem pf_lst (h : PDA X ca Wx es g) : PF X ca Wx (.List es pos) (eLst g) := PE.imp (pe_lst h) fun σ H Q z => by
  refine (b1_imp (R1 := RL (gx X ca)) z).mono ?_
  rintro vs H1 ⟨S0, S, ws, rfl, e1, eH, ok, r, q⟩
  unfold lstR at q
  cases hf : allD ws with
  | none => rw [hf] at q; exact q.elim
  | some xs =>
    rw [hf] at q
    dsimp only at q
    by_cases hl : xs.length ≤ 1000000
    · rw [if_pos hl] at q
      have rr := allD_reps hf r
      refine ⟨by rw [← rr.length]; exact le_line hl, fun p hp => ?_⟩
      obtain ⟨e2, ok2⟩ := ok.raw (o := .lst vs) hp
      refine q (S.raw p (.lst vs)) (.ref p) (e1.trans e2) rfl ok2 (RF.shift _ _ _ _ _ _ e1 e2 (raw_lst ok hp rr))
    · rw [if_neg hl] at q; exact q.elim
end

/-! ### operations on two values -/
/-- F is what the reading r asks, in worlds -/
def VOR {γ δ : Type} (G : Ctx) (R : RR γ δ) (r : V → V → Hp → (δ → Hp → Prop) → Prop) (F : Wv → Wv → DH → Rs γ) : Prop :=
  ∀ (Wx : WX) (S : Wd) (σ : L2.St) (a b : Wv) (x y : V) (Q : δ → Hp → Prop), Ok G S → RepW G S a x → RepW G S b y → PostE G Wx R S σ (F a b S.h) Q → r x y S.H Q
def VUR {γ δ : Type} (G : Ctx) (R : RR γ δ) (r : V → Hp → (δ → Hp → Prop) → Prop) (F : Wv → DH → Rs γ) : Prop :=
  ∀ (Wx : WX) (S : Wd) (σ : L2.St) (a : Wv) (x : V) (Q : δ → Hp → Prop), Ok G S → RepW G S a x → PostE G Wx R S σ (F a S.h) Q → r x S.H Q
theorem b2_op {G : Ctx} {Wx : WX} {γ δ : Type} {R : RR γ δ} {f g : DS → DH → Rs Wv} {F : Wv → Wv → DH → Rs γ} {r : V → V → Hp → (δ → Hp → Prop) → Prop} {σ : L2.St} {H : Hp} {Q : δ → Hp → Prop} (hR : Shift R) (hv : VOR G R r F) (h : tE G Wx R (b2 f g F) σ H Q) :
    tE G Wx (RW G) f σ H fun x H1 => tE G Wx (RW G) g σ H1 fun y H2 => r x y H2 Q := by
  refine (b2_imp (R1 := RW G) (R2 := RW G) (RW.stay _) h).mono fun x H1 z1 => z1.mono ?_
  rintro y H2 ⟨S0, S1, S, a, b, rfl, e1, e2, eH, ok, r1, r2, q⟩
  exact hv Wx S σ a b x y Q ok r1 r2 (q.later hR (e1.trans e2))
theorem b1_op {G : Ctx} {Wx : WX} {γ δ : Type} {R : RR γ δ} {f : DS → DH → Rs Wv} {F : Wv → DH → Rs γ} {r : V → Hp → (δ → Hp → Prop) → Prop} {σ : L2.St} {H : Hp} {Q : δ → Hp → Prop} (hR : Shift R) (hv : VUR G R r F) (h : tE G Wx R (b1 f F) σ H Q) :
    tE G Wx (RW G) f σ H fun x H1 => r x H1 Q := by
  refine (b1_imp (R1 := RW G) h).mono ?_
  rintro x H2 ⟨S0, S, a, rfl, e1, eH, ok, r1, q⟩
  exact hv Wx S σ a x Q ok r1 (q.later hR e1)
/-- a truth as a value -/
def toV : Rs Bool → Rs Wv
  | .ok b h => .ok (.d (.bl b)) h
  | .er e h => .er e h
  | .bad => .bad
theorem PostE.toV {G : Ctx} {Wx : WX} {S : Wd} {σ : L2.St} {r : Rs Bool} {Q : VK} (h : PostE G Wx (RW G) S σ (toV r) Q) : PostE G Wx RB S σ r fun k H => Q (.bl k) H := by
  cases r with
  | ok b h' =>
    intro S' k e1 hh ok r
    have r' : b = k := r
    subst r'
    exact h S' (.bl b) e1 hh ok (rep_bl (G := G) (Z := S'.Z))
  | er x h' => exact h
  | bad => exact h
section
variable {X : Cx} {ca : CT} {Wx : WX} {a b : Expr} {f g : DS → DH → Rs Wv} {pos : Pos} {F : Wv → Wv → DH → Rs Wv} {FB : Wv → Wv → DH → Rs Bool} {FO : Wv → Wv → DH → Rs DO} {r : R2}
theorem pd_op {op : Operator} (ho : OpR X (binaryOp op) r) (hv : VOR (gx X ca) (RW (gx X ca)) r F) (ha : PD X ca Wx a f) (hb : PD X ca Wx b g) : PD X ca Wx (.BinOp a op b pos) (b2 f g F) :=
  PE.imp (pe_op ho ha hb) fun σ H Q z => b2_op (RW.shift _) hv z
theorem pd_un {op : UnaryOp} {r : V → Hp → VK → Prop} {F : Wv → DH → Rs Wv} (ho : UnR X (unaryOp op) r) (hv : VUR (gx X ca) (RW (gx X ca)) r F) (ha : PD X ca Wx a f) : PD X ca Wx (.UnaryOp op a pos) (b1 f F) :=
  PE.imp (pe_un ho ha) fun σ H Q z => b1_op (RW.shift _) hv z
/-- a comparison's reading: what it says is a truth -/
def VCR (G : Ctx) (r : R2) (F : Wv → Wv → DH → Rs Bool) : Prop := VOR G RB (fun x y H Q => r x y H fun v H' => ∃ k, v = V.bl k ∧ Q k H') F ∧ VOR G RB (fun x y H Q => ∀ Q' : VK, (∀ k H', Q k H' → Q' (.bl k) H') → r x y H Q') F
theorem pd_cmp {op : CmpOp} (ho : OpR X (compareOp op) r) (hv : VCR (gx X ca) r FB) (ha : PD X ca Wx a f) (hb : PD X ca Wx b g) (hm : behindInMarks op b = false) : PD X ca Wx (.Compare a [op] [b] pos) (b2 f g fun x y h => toV (FB x y h)) :=
  PE.imp (pe_cmpR ho ha hb hm) fun σ H Q z => b2_op (RW.shift _) (fun Wx S σ a b x y Q ok r1 r2 p => hv.2 Wx S σ a b x y _ ok r1 r2 p.toV Q fun k H' z => z) z
theorem pdt_cmp {op : CmpOp} (ho : OpR X (compareOp op) r) (hv : VCR (gx X ca) r FB) (ha : PD X ca Wx a f) (hb : PD X ca Wx b g) (hm : behindInMarks op b = false) : PDT X ca Wx (.Compare a [op] [b] pos) (b2 f g FB) :=
  PT.imp (pt_cmpR ho ha hb hm) fun σ H Q z => b2_op (R := RB) (r := fun x y H Q => r x y H fun v H' => ∃ k, v = V.bl k ∧ Q k H') RB.shift hv.1 z
theorem vcr_of {G : Ctx} {r : R2} {F : Wv → Wv → DH → Rs Bool} (h : ∀ (Wx : WX) (S : Wd) (σ : L2.St) (a b : Wv) (x y : V) (Q : VK), Ok G S → RepW G S a x → RepW G S b y → PostE G Wx RB S σ (F a b S.h) (fun k H => Q (.bl k) H) → r x y S.H Q) : VCR G r F :=
  ⟨fun Wx S σ a b x y Q ok r1 r2 p => h Wx S σ a b x y _ ok r1 r2 (p.mono fun k H' q => ⟨k, rfl, q⟩), fun Wx S σ a b x y Q ok r1 r2 p Q' k => h Wx S σ a b x y _ ok r1 r2 (p.mono k)⟩
end
end DL
namespace DL
open PySem PySem.Spec PyProof.Rows L2

/-! ### ints, texts, tuples: + - * // % ** -/
def opAdd (a b : Wv) (h : DH) : Rs Wv := match a, b with
  | .d (.int i), .d (.int j) => .ok (.d (.int (i + j))) h
  | .d (.str s), .d (.str t) => if s.length + t.length ≤ 1000000 then .ok (.d (.str (s ++ t))) h else .bad
  | .d (.tup xs), .d (.tup ys) => if xs.length + ys.length ≤ 1000000 then .ok (.d (.tup (xs ++ ys))) h else .bad
  | _, _ => .bad
def opSub (a b : Wv) (h : DH) : Rs Wv := match a, b with
  | .d (.int i), .d (.int j) => .ok (.d (.int (i - j))) h
  | _, _ => .bad
def opMul (a b : Wv) (h : DH) : Rs Wv := match a, b with
  | .d (.int i), .d (.int j) => if i.natAbs < 18446744073709551616 ∨ j.natAbs < 18446744073709551616 then .ok (.d (.int (i * j))) h else .bad
  | _, _ => .bad
def opFdiv (a b : Wv) (h : DH) : Rs Wv := match a, b with
  | .d (.int i), .d (.int j) => if 0 < j ∧ j.natAbs < 18446744073709551616 then .ok (.d (.int (i / j))) h else .bad
  | _, _ => .bad
def opMod (a b : Wv) (h : DH) : Rs Wv := match a, b with
  | .d (.int i), .d (.int j) => if 0 < j then .ok (.d (.int (i % j))) h else .bad
  | _, _ => .bad
def opPow (a b : Wv) (h : DH) : Rs Wv := match a, b with
  | .d (.int i), .d (.int j) => if 0 ≤ j ∧ j ≤ 1000 ∧ -18446744073709551616 < i ∧ i < 18446744073709551616 then .ok (.d (.int (i ^ j.toNat))) h else .bad
  | _, _ => .bad
def opNeg (a : Wv) (h : DH) : Rs Wv := match a with
  | .d (.int i) => .ok (.d (.int (-i))) h
  | _ => .bad
section
variable {G : Ctx}
theorem rw_int {S : Wd} {i : Int} {v : V} (h : RepW G S (.d (.int i)) v) : v = V.int i := rep_i.mp (show Rep G S.Z (.int i) v from h)
theorem rw_bl {S : Wd} {i : Bool} {v : V} (h : RepW G S (.d (.bl i)) v) : v = V.bl i := rep_b.mp (show Rep G S.Z (.bl i) v from h)
theorem rw_str {S : Wd} {i : Str} {v : V} (h : RepW G S (.d (.str i)) v) : v = V.str i := rep_s.mp (show Rep G S.Z (.str i) v from h)
theorem rw_non {S : Wd} {v : V} (h : RepW G S (.d .non) v) : v = V.non := rep_n.mp (show Rep G S.Z .non v from h)
theorem rw_tup {S : Wd} {xs : List Dv} {v : V} (h : RepW G S (.d (.tup xs)) v) : ∃ a vs, v = V.ref a ∧ SqT G.K S.Z a vs ∧ Reps G S.Z xs vs := rep_tup.mp (show Rep G S.Z (.tup xs) v from h)
theorem rw_lst {S : Wd} {xs : List Dv} {v : V} (h : RepW G S (.d (.lst xs)) v) : ∃ a vs, v = V.ref a ∧ S.Z a = some (.lst vs) ∧ Reps G S.Z xs vs := rep_lst.mp (show Rep G S.Z (.lst xs) v from h)
theorem rw_scr {S : Wd} {xs : List Dv} {v : V} (h : RepW G S (.d (.scr xs)) v) : ∃ a vs, v = V.ref a ∧ SqL G.K S.Z a vs ∧ Reps G S.Z xs vs := rep_scr.mp (show Rep G S.Z (.scr xs) v from h)
theorem rw_dct {S : Wd} {ks : List Key} {xs : List Dv} {v : V} (h : RepW G S (.d (.dct ks xs)) v) : ∃ a kv, v = V.ref a ∧ S.Z a = some (.dK kv) ∧ kv.map (·.1) = ks ∧ Reps G S.Z xs (kv.map (·.2)) := rep_dct.mp (show Rep G S.Z (.dct ks xs) v from h)
theorem rw_int' {S T : Wd} {i : Int} : RW G S T (.d (.int i)) (.int i) := rep_int (G := G) (Z := T.Z)
theorem rw_bl' {S T : Wd} {i : Bool} : RW G S T (.d (.bl i)) (.bl i) := rep_bl (G := G) (Z := T.Z)
theorem rw_str' {S T : Wd} {i : Str} : RW G S T (.d (.str i)) (.str i) := rep_str (G := G) (Z := T.Z)
abbrev rAddA (K : PySem.W.Frag) : R2 := fun x y H Q => (rI0 (fun i j => .int (i + j)) x y H Q ∨ (∃ i j, x = .str i ∧ y = .str j ∧ i.length + j.length ≤ sizeLine ∧ Q (.str (i ++ j)) H)) ∨ rCatA K x y H Q
theorem op_addA {X : Cx} : OpR X (binaryOp .Add) (rAddA X.K) := OpR.or (OpR.or op_add op_add_str) op_catA
theorem v_add : VOR G (RW G) (rAddA G.K) opAdd := fun Wx S σ a b x y Q ok r1 r2 p => by
  unfold opAdd at p
  split at p
  · rw [rw_int r1, rw_int r2]
    exact .inl (.inl ⟨_, _, rfl, rfl, p.here ok rw_int'⟩)
  · rename_i s t
    have e1 : x = V.str s := rw_str r1
    have e2 : y = V.str t := rw_str r2
    split at p
    · rename_i hl
      exact .inl (.inr ⟨s, t, e1, e2, le_line hl, p.here ok rw_str'⟩)
    · exact p.elim
  · rename_i xs ys
    split at p
    · rename_i hl
      obtain ⟨u, us, rfl, s1, q1⟩ := rw_tup r1
      obtain ⟨w, ws, rfl, s2, q2⟩ := rw_tup r2
      have l1 := q1.length
      have l2 := q2.length
      refine .inr ⟨u, w, us, ws, rfl, rfl, ok.sqT s1, ok.sqT s2, by rw [← l1, ← l2]; exact le_line hl, fun h => ?_, fun _ h => ?_, fun _ _ pp hp => ?_⟩
      · have z : xs = [] := List.eq_nil_of_length_eq_zero (by rw [l1, h]; rfl)
        subst z
        exact p.here ok r2
      · have z : ys = [] := List.eq_nil_of_length_eq_zero (by rw [l2, h]; rfl)
        subst z
        rw [List.append_nil] at p
        exact p.here ok r1
      · obtain ⟨e2, ok2⟩ := ok.put (o := .tup (us ++ ws)) hp
        exact p (S.put pp (.tup (us ++ ws))) (.ref pp) e2 rfl ok2 (put_tup ok hp (q1.append q2))
    · exact p.elim
  · exact p.elim
theorem v_sub : VOR G (RW G) (rI0 fun i j => .int (i - j)) opSub := fun Wx S σ a b x y Q ok r1 r2 p => by
  unfold opSub at p
  split at p
  · rw [rw_int r1, rw_int r2]
    exact ⟨_, _, rfl, rfl, p.here ok rw_int'⟩
  · exact p.elim
theorem v_mul : VOR G (RW G) (rI CMul fun i j => .int (i * j)) opMul := fun Wx S σ a b x y Q ok r1 r2 p => by
  unfold opMul at p
  split at p
  · split at p
    · rename_i hl
      rw [rw_int r1, rw_int r2]
      refine ⟨_, _, rfl, rfl, ?_, p.here ok rw_int'⟩
      rcases hl with h | h
      · exact .inl ⟨by omega, by omega⟩
      · exact .inr ⟨by omega, by omega⟩
    · exact p.elim
  · exact p.elim
theorem v_fdiv : VOR G (RW G) (rI CDivW fun i j => .int (i / j)) opFdiv := fun Wx S σ a b x y Q ok r1 r2 p => by
  unfold opFdiv at p
  split at p
  · split at p
    · rename_i hl
      rw [rw_int r1, rw_int r2]
      refine ⟨_, _, rfl, rfl, wide_div (b := 64) hl.1 ?_ (by decide) (by decide), p.here ok rw_int'⟩
      have := hl.1; have := hl.2
      omega
    · exact p.elim
  · exact p.elim
theorem v_mod : VOR G (RW G) (rI (fun _ j => 0 < j) fun i j => .int (i % j)) opMod := fun Wx S σ a b x y Q ok r1 r2 p => by
  unfold opMod at p
  split at p
  · split at p
    · rename_i hl
      rw [rw_int r1, rw_int r2]
      exact ⟨_, _, rfl, rfl, hl, p.here ok rw_int'⟩
    · exact p.elim
  · exact p.elim
theorem v_pow : VOR G (RW G) (rI CPow fun i j => .int (i ^ j.toNat)) opPow := fun Wx S σ a b x y Q ok r1 r2 p => by
  unfold opPow at p
  split at p
  · split at p
    · rename_i hl
      rw [rw_int r1, rw_int r2]
      refine ⟨_, _, rfl, rfl, ⟨hl.1, ?_, ?_⟩, p.here ok rw_int'⟩
      · have := hl.2.1; omega
      · have := hl.2.2.1; have := hl.2.2.2; omega
    · exact p.elim
  · exact p.elim
theorem v_neg : VUR G (RW G) (rU fun i => .int (-i)) opNeg := fun Wx S σ a x Q ok r1 p => by
  unfold opNeg at p
  split at p
  · rw [rw_int r1]
    exact ⟨_, rfl, p.here ok rw_int'⟩
  · exact p.elim
end

/-! ### comparisons of ints, is None -/
def cI (q : Int → Int → Bool) (a b : Wv) (h : DH) : Rs Bool := match a, b with
  | .d (.int i), .d (.int j) => .ok (q i j) h
  | _, _ => .bad
theorem v_cI {G : Ctx} {q : Int → Int → Bool} : VCR G (rI0 fun i j => .bl (q i j)) (cI q) := vcr_of fun Wx S σ a b x y Q ok r1 r2 p => by
  unfold cI at p
  split at p
  · rw [rw_int r1, rw_int r2]
    exact ⟨_, _, rfl, rfl, p.here (R := RB) ok rfl⟩
  · exact p.elim
def isN : Wv → Bool
  | .d .non => true
  | _ => false
def eIsN (f : DS → DH → Rs Wv) : DS → DH → Rs Bool := b1 f fun w h => .ok (isN w) h
def eNotN (f : DS → DH → Rs Wv) : DS → DH → Rs Bool := b1 f fun w h => .ok (!isN w) h
/-- a test as a value -/
def eB (f : DS → DH → Rs Bool) : DS → DH → Rs Wv := fun ds h => toV (f ds h)
theorem tE_toV {G : Ctx} {Wx : WX} {f : DS → DH → Rs Bool} {σ : L2.St} {H : Hp} {Q : VK} (h : tE G Wx (RW G) (eB f) σ H Q) : tE G Wx RB f σ H fun k H' => Q (.bl k) H' := by
  obtain ⟨S, ds, a, b, c, p⟩ := h
  exact ⟨S, ds, a, b, c, p.toV⟩
section
variable {X : Cx} {ca : CT} {Wx : WX} {a b c : Expr} {f g : DS → DH → Rs Wv} {pos : Pos} {t u : DS → DH → Rs Bool} {rest : List Expr}
/-! ### and, or, not, if -/
def eAnd (t u : DS → DH → Rs Bool) : DS → DH → Rs Bool := fun ds h =>
  match t ds h with
  | .ok b h1 => if b = true then u ds h1 else .ok false h1
  | .er e h1 => .er e h1
  | .bad => .bad
def eOr (t u : DS → DH → Rs Bool) : DS → DH → Rs Bool := fun ds h =>
  match t ds h with
  | .ok b h1 => if b = true then .ok true h1 else u ds h1
  | .er e h1 => .er e h1
  | .bad => .bad
def eNot (t : DS → DH → Rs Bool) : DS → DH → Rs Bool := b1 t fun b h => .ok (!b) h
def eIte {α : Type} (t : DS → DH → Rs Bool) (f g : DS → DH → Rs α) : DS → DH → Rs α := fun ds h =>
  match t ds h with
  | .ok b h1 => if b = true then f ds h1 else g ds h1
  | .er e h1 => .er e h1
  | .bad => .bad
theorem ite_imp {G : Ctx} {α β : Type} {R : RR α β} {t : DS → DH → Rs Bool} {f g : DS → DH → Rs α} {σ : L2.St} {H : Hp} {Q : β → Hp → Prop} (hR : Shift R) (z : tE G Wx R (eIte t f g) σ H Q) :
    tE G Wx RB t σ H fun b H1 => if b = true then tE G Wx R f σ H1 Q else tE G Wx R g σ H1 Q := by
  obtain ⟨S, ds, eH, ok, rs, p⟩ := z
  refine ⟨S, ds, eH, ok, rs, ?_⟩
  unfold eIte at p
  cases q : t ds S.h with
  | bad => rw [q] at p; exact p
  | er e h1 => rw [q] at p; exact p
  | ok b h1 =>
    rw [q] at p
    dsimp only at p
    intro S1 b' e1 hh ok1 r
    have r' : b = b' := r
    subst r'
    subst hh
    cases b with
    | true => rw [if_pos rfl] at p ⊢; exact ⟨S1, ds, rfl, ok1, rs.up e1, p.later hR e1⟩
    | false => rw [if_neg Bool.false_ne_true] at p ⊢; exact ⟨S1, ds, rfl, ok1, rs.up e1, p.later hR e1⟩
theorem or_ite (t u : DS → DH → Rs Bool) : eOr t u = eIte t (fun _ h => .ok true h) u := rfl
theorem tE_const {G : Ctx} {b : Bool} {σ : L2.St} {H : Hp} {Q : Bool → Hp → Prop} (z : tE G Wx RB (fun _ h => .ok b h) σ H Q) : Q b H := by
  obtain ⟨S, ds, eH, ok, rs, p⟩ := z
  subst eH
  exact p S b (Ext.refl S) rfl ok rfl
def PDW (X : Cx) (ca : CT) (Wx : WX) (e : Expr) (f : DS → DH → Rs Bool) : Prop := PW X e (tE (gx X ca) Wx RB f)
theorem PW.imp {X : Cx} {e : Expr} {t t' : TT} (h : PW X e t) (k : ∀ σ H Q, t' σ H Q → t σ H Q) : PW X e t' := ⟨fun w pins s σ H Q I z => h.run w pins s σ H Q I (k σ H Q z)⟩
theorem pdw_or1 (h : PDT X ca Wx a t) : PDW X ca Wx (.BoolOp .Or [a] pos) t := pw_or1 h
theorem pdw_or (ha : PDT X ca Wx a t) (hb : PDW X ca Wx (.BoolOp .Or (b :: rest) pos) u) : PDW X ca Wx (.BoolOp .Or (a :: b :: rest) pos) (eOr t u) :=
  PW.imp (pw_or ha hb) fun σ H Q z => (ite_imp RB.shift (by rw [or_ite] at z; exact z)).mono fun c H1 q => by
    cases c with
    | true => rw [if_pos rfl] at q ⊢; exact tE_const q
    | false => rw [if_neg Bool.false_ne_true] at q ⊢; exact q
theorem pdt_w (h : PDW X ca Wx a t) : PDT X ca Wx a t := h.pt
/-- a value that is a truth, as a test -/
def vT (w : Wv) (h : DH) : Rs Bool := match w with
  | .d (.bl b) => .ok b h
  | _ => .bad
def eT (f : DS → DH → Rs Wv) : DS → DH → Rs Bool := b1 f vT
theorem t_bool {G : Ctx} {σ : L2.St} {H : Hp} {Q : Bool → Hp → Prop} (z : tE G Wx RB (eT f) σ H Q) : tE G Wx (RW G) f σ H fun x H1 => ∃ c, x = V.bl c ∧ Q c H1 := by
  refine (b1_imp (R1 := RW G) z).mono ?_
  rintro x H1 ⟨S0, S, w, rfl, e1, eH, ok, r, q⟩
  unfold vT at q
  split at q
  · exact ⟨_, rw_bl r, q S _ e1 rfl ok rfl⟩
  · exact q.elim
theorem pdt_val (ha : PD X ca Wx a f) (he : ∀ whole, isTrue a X.env whole = (do let v ← whole; standAt a.pos; holding [v] (truthy v)) := by intro _; rfl) : PDT X ca Wx a (eT f) :=
  PT.imp (pt_val ha he) fun σ H Q z => t_bool z
def eAndV (f g : DS → DH → Rs Wv) : DS → DH → Rs Wv := eIte (eT f) g (fun _ h => .ok (.d (.bl false)) h)
def eOrV (f g : DS → DH → Rs Wv) : DS → DH → Rs Wv := eIte (eT f) (fun _ h => .ok (.d (.bl true)) h) g
def eNotV (f : DS → DH → Rs Wv) : DS → DH → Rs Wv := eB (eNot (eT f))
theorem pd_not (ha : PD X ca Wx a f) : PD X ca Wx (.UnaryOp .Not a pos) (eNotV f) :=
  PE.imp (pe_not ha) fun σ H Q z => by
    refine (t_bool (f := f) (Q := fun c H1 => Q (.bl (!c)) H1) ?_)
    have z2 : tE (gx X ca) Wx RB (b1 (eT f) fun b h => .ok (!b) h) σ H (fun k H' => Q (.bl k) H') := tE_toV z
    refine (b1_imp (R1 := RB) z2).mono ?_
    rintro c H1 ⟨S0, S, w, rfl, e1, eH, ok, r, q⟩
    have r' : w = c := r
    subst r'
    exact q S _ e1 rfl ok rfl
/-- a op b op' c -/
def b3 (t : Wv → Wv → DH → Rs Bool) (u : Wv → Wv → DH → Rs Bool) (f g k : DS → DH → Rs Wv) : DS → DH → Rs Bool := fun ds h =>
  match f ds h with
  | .ok x h1 => (match g ds h1 with
    | .ok y h2 => (match t x y h2 with
      | .ok b h3 => if b = true then (match k ds h3 with
        | .ok z h4 => u y z h4
        | .er e h4 => .er e h4
        | .bad => .bad) else .ok false h3
      | .er e h3 => .er e h3
      | .bad => .bad)
    | .er e h2 => .er e h2
    | .bad => .bad)
  | .er e h1 => .er e h1
  | .bad => .bad
end
end DL
namespace DL
open PySem PySem.Spec PyProof.Rows L2

/-! ### data as the model's own data -/
mutual
def py : Dv → PyData
  | .non => .none
  | .bl b => .bool b
  | .int i => .int i
  | .str x => .str x
  | .tup xs => .tuple (pys xs)
  | .lst xs => .list (pys xs)
  | .scr xs => .list (pys xs)
  | .dct _ _ => .none
  | .ins _ _ => .none
  | .exc _ _ => .none
  | .fn _ => .none
def pys : List Dv → List PyData
  | [] => []
  | x :: xs => py x :: pys xs
end
mutual
/-- it can be compared: texts that can be laid, no dicts, no instances -/
def lay : Dv → Bool
  | .non => true
  | .bl _ => true
  | .int _ => true
  | .str x => PyData.strOk x
  | .tup xs => lays xs
  | .lst xs => lays xs
  | .scr xs => lays xs
  | .dct _ _ => false
  | .ins _ _ => false
  | .exc _ _ => false
  | .fn _ => false
def lays : List Dv → Bool
  | [] => true
  | x :: xs => lay x && lays xs
end
mutual
theorem lay_py : ∀ {d : Dv}, lay d = true → (py d).canLay0 = true
  | .non, _ => by simp [py, PyData.canLay0]
  | .bl _, _ => by simp [py, PyData.canLay0]
  | .int _, _ => by simp [py, PyData.canLay0]
  | .str x, h => by
    have h' : PyData.strOk x = true := by simpa [lay] using h
    simpa [py, PyData.canLay0] using h'
  | .tup xs, h => by
    have h' : lays xs = true := by simpa [lay] using h
    simpa [py, PyData.canLay0] using lays_py h'
  | .lst xs, h => by
    have h' : lays xs = true := by simpa [lay] using h
    simpa [py, PyData.canLay0] using lays_py h'
  | .scr xs, h => by
    have h' : lays xs = true := by simpa [lay] using h
    simpa [py, PyData.canLay0] using lays_py h'
  | .dct _ _, h => by simp [lay] at h
  | .ins _ _, h => by simp [lay] at h
  | .exc _ _, h => by simp [lay] at h
  | .fn _, h => by simp [lay] at h
theorem lays_py : ∀ {ds : List Dv}, lays ds = true → PyData.canLayAll0 (pys ds) = true
  | [], _ => by simp [pys, PyData.canLayAll0]
  | d :: ds, h => by
    have h' : lay d = true ∧ lays ds = true := by simpa [lays] using h
    simp [pys, PyData.canLayAll0, lay_py h'.1, lays_py h'.2]
end
mutual
theorem rep_dp {G : Ctx} {S : Wd} (ok : Ok G S) : ∀ {d : Dv} {v : V}, lay d = true → Rep G S.Z d v → Dp G.K S.H v (py d)
  | .non, v, _, r => by rw [rep_n.mp r]; simp only [py]; exact .non
  | .bl b, v, _, r => by rw [rep_b.mp r]; simp only [py]; exact .bl b
  | .int i, v, _, r => by rw [rep_i.mp r]; simp only [py]; exact .int i
  | .str x, v, _, r => by rw [rep_s.mp r]; simp only [py]; exact .str x
  | .tup xs, v, h, r => by
    obtain ⟨a, vs, rfl, s, q⟩ := rep_tup.mp r
    simp only [py]
    exact .tup (ok.sqT s) (reps_dp ok (by simpa [lay] using h) q)
  | .lst xs, v, h, r => by
    obtain ⟨a, vs, rfl, s, q⟩ := rep_lst.mp r
    simp only [py]
    exact .lst (.inl (.inl (ok.up1 s fun _ z => by cases z))) (reps_dp ok (by simpa [lay] using h) q)
  | .scr xs, v, h, r => by
    obtain ⟨a, vs, rfl, s, q⟩ := rep_scr.mp r
    simp only [py]
    exact .lst (ok.sqL s) (reps_dp ok (by simpa [lay] using h) q)
  | .dct _ _, v, h, r => by simp [lay] at h
  | .ins _ _, v, h, r => by simp [lay] at h
  | .exc _ _, v, h, r => by simp [lay] at h
  | .fn _, v, h, r => by simp [lay] at h
theorem reps_dp {G : Ctx} {S : Wd} (ok : Ok G S) : ∀ {ds : List Dv} {vs : List V}, lays ds = true → Reps G S.Z ds vs → DpAll G.K S.H vs (pys ds)
  | [], vs, _, r => by rw [reps_nil.mp r]; simp only [pys]; exact .nil
  | d :: ds, vs, h, r => by
    obtain ⟨v, t, rfl, p, q⟩ := reps_cons.mp r
    have h' : lay d = true ∧ lays ds = true := by simpa [lays] using h
    simp only [pys]
    exact .cons (rep_dp ok h'.1 p) (reps_dp ok h'.2 q)
end

/-! ### == and != -/
def scD : Dv → Dv → Bool
  | .non, .non => true | .non, .int _ => true | .int _, .non => true | .non, .bl _ => true | .bl _, .non => true | .non, .str _ => true | .str _, .non => true
  | .int _, .int _ => true | .bl _, .bl _ => true | .str _, .str _ => true
  | .int _, .str _ => true | .str _, .int _ => true | .bl _, .str _ => true | .str _, .bl _ => true
  | _, _ => false
def eqS : Dv → Dv → Bool
  | .non, .non => true
  | .int i, .int j => decide (i = j)
  | .bl i, .bl j => decide (i = j)
  | .str i, .str j => decide (i = j)
  | _, _ => false
/-- one of the two is empty -/
def eqE : Dv → Dv → Option Bool
  | .tup xs, .tup [] => some xs.isEmpty
  | .tup [], .tup ys => some ys.isEmpty
  | .lst xs, .lst [] => some xs.isEmpty
  | .lst [], .lst ys => some ys.isEmpty
  | _, _ => none
def eqDeep (x y : Dv) : Option Bool := if lay x = true ∧ lay y = true ∧ (py x).depth ≤ 64 ∧ (py y).depth ≤ 64 then some (PyData.eqv (py x) (py y)) else none
def eqD (x y : Dv) : Option Bool := if scD x y = true then some (eqS x y) else match eqE x y with
  | some b => some b
  | none => eqDeep x y
/-- a list that may change, beside an empty one -/
def eqR : Option DO → Dv → Option Bool
  | some (.lst xs), .lst [] => some xs.isEmpty
  | _, _ => none
def opEq (a b : Wv) (h : DH) : Rs Bool := match a, b with
  | .d x, .d y => (match eqD x y with
    | some k => .ok k h
    | none => .bad)
  | .r n, .d y => (match eqR h[n]? y with
    | some k => .ok k h
    | none => .bad)
  | _, _ => .bad
def opNe (a b : Wv) (h : DH) : Rs Bool := match opEq a b h with
  | .ok k h1 => .ok (!k) h1
  | .er e h1 => .er e h1
  | .bad => .bad
/-- two lists or two tuples, one of them empty -/
def rEqE (K : PySem.W.Frag) (neg : Bool) : R2 := fun x y H Q => ∃ a b xs ys, x = V.ref a ∧ y = V.ref b ∧ (xs = [] ∨ ys = []) ∧ ((SqL K H a xs ∧ SqL K H b ys) ∨ (SqT K H a xs ∧ SqT K H b ys)) ∧ Q (.bl (xor neg (xs.isEmpty && ys.isEmpty))) H
theorem isEmpty_range {xs ys : List V} {us ws : List Value} {e : Nat → Bool} (r1 : Vals xs us) (r2 : Vals ys ws) (h : xs = [] ∨ ys = []) :
    ((List.range (min us.toArray.size ws.toArray.size)).all e && us.toArray.size == ws.toArray.size) = (xs.isEmpty && ys.isEmpty) := by
  have l1 := r1.length
  have l2 := r2.length
  rcases h with h | h
  · subst h
    have z : us.length = 0 := by rw [← l1]; rfl
    cases ys with
    | nil =>
      have z2 : ws.length = 0 := by rw [← l2]; rfl
      simp [z, z2]
    | cons y ys =>
      have z2 : ws.length = ys.length + 1 := by rw [← l2]; rfl
      simp [z, z2]
  · subst h
    have z : ws.length = 0 := by rw [← l2]; rfl
    cases xs with
    | nil =>
      have z2 : us.length = 0 := by rw [← l1]; rfl
      simp [z, z2]
    | cons y ys =>
      have z2 : us.length = ys.length + 1 := by rw [← l1]; rfl
      simp [z, z2]
theorem op_eqE {X : Cx} (hu : X.A.units < cLine) : OpR X (compareOp .Eq) (rEqE X.K false) := fun pins s σ H x y v u Q I rx ry ⟨a, b, xs, ys, ex, ey, he, hs, q⟩ => by
  subst ex
  subst ey
  obtain rfl : v = Value.ref a := rx
  obtain rfl : u = Value.ref b := ry
  rcases hs with ⟨h1, h2⟩ | ⟨h1, h2⟩
  · obtain ⟨us, r1, p1, _⟩ := I.list h1
    obtain ⟨ws, r2, p2, _⟩ := I.list h2
    have l1 := r1.length
    have l2 := r2.length
    have hz : us.toArray.size = 0 ∨ ws.toArray.size = 0 := by
      rcases he with z | z
      · left; rw [z] at l1; simpa using l1.symm
      · right; rw [z] at l2; simpa using l2.symm
    have e := isEmpty_range (e := fun _ => true) r1 r2 he
    by_cases hsz : us.toArray.size = ws.toArray.size
    · refine SeqAt.eq_listAt (e := fun _ => true) p1.isList p2.isList hsz hu (fun j g1 g2 => absurd g1 (by omega)) ?_
      refine ⟨V.bl _, H, I, rfl, ?_⟩
      have e2 : ((List.range us.toArray.size).all fun _ => true) = (xs.isEmpty && ys.isEmpty) := by
        rw [← e, hsz]; simp
      rw [e2]
      simpa using q
    · refine SeqAt.eq_list_lengthsAt p1.isList p2.isList (by simpa using hsz) hu ?_
      refine ⟨V.bl _, H, I, rfl, ?_⟩
      have e2 : (xs.isEmpty && ys.isEmpty) = false := by
        rw [← e]
        have : (us.toArray.size == ws.toArray.size) = false := by simpa using hsz
        rw [this, Bool.and_false]
      rw [e2] at q
      simpa using q
  · obtain ⟨us, r1, p1, _⟩ := I.tuple h1
    obtain ⟨ws, r2, p2, _⟩ := I.tuple h2
    have l1 := r1.length
    have l2 := r2.length
    have hz : us.toArray.size = 0 ∨ ws.toArray.size = 0 := by
      rcases he with z | z
      · left; rw [z] at l1; simpa using l1.symm
      · right; rw [z] at l2; simpa using l2.symm
    have e := isEmpty_range (e := fun _ => true) r1 r2 he
    refine SeqAt.eq_tupleAt (e := fun _ => true) p1 p2 hu (fun j g1 g2 => absurd g1 (by omega)) ?_
    refine ⟨V.bl _, H, I, rfl, ?_⟩
    rw [e]
    simpa using q
theorem op_neE {X : Cx} (hu : X.A.units < cLine) : OpR X (compareOp .NotEq) (rEqE X.K true) := fun pins s σ H x y v u Q I rx ry ⟨a, b, xs, ys, ex, ey, he, hs, q⟩ => by
  subst ex
  subst ey
  obtain rfl : v = Value.ref a := rx
  obtain rfl : u = Value.ref b := ry
  rcases hs with ⟨h1, h2⟩ | ⟨h1, h2⟩
  · obtain ⟨us, r1, p1, _⟩ := I.list h1
    obtain ⟨ws, r2, p2, _⟩ := I.list h2
    have l1 := r1.length
    have l2 := r2.length
    have hz : us.toArray.size = 0 ∨ ws.toArray.size = 0 := by
      rcases he with z | z
      · left; rw [z] at l1; simpa using l1.symm
      · right; rw [z] at l2; simpa using l2.symm
    have e := isEmpty_range (e := fun _ => true) r1 r2 he
    by_cases hsz : us.toArray.size = ws.toArray.size
    · refine SeqAt.RcNeAt.lists (e := fun _ => true) p1.isList p2.isList hsz hu (fun j g1 g2 => absurd g1 (by omega)) _ _ _ _ ?_
      refine ⟨V.bl _, H, I, rfl, ?_⟩
      have e2 : ((List.range us.toArray.size).all fun _ => true) = (xs.isEmpty && ys.isEmpty) := by
        rw [← e, hsz]; simp
      rw [e2]
      simpa using q
    · refine SeqAt.RcNeAt.lists_lengths p1.isList p2.isList (by simpa using hsz) hu _ _ _ _ ?_
      refine ⟨V.bl _, H, I, rfl, ?_⟩
      have e2 : (xs.isEmpty && ys.isEmpty) = false := by
        rw [← e]
        have : (us.toArray.size == ws.toArray.size) = false := by simpa using hsz
        rw [this, Bool.and_false]
      rw [e2] at q
      simpa using q
  · obtain ⟨us, r1, p1, _⟩ := I.tuple h1
    obtain ⟨ws, r2, p2, _⟩ := I.tuple h2
    have l1 := r1.length
    have l2 := r2.length
    have hz : us.toArray.size = 0 ∨ ws.toArray.size = 0 := by
      rcases he with z | z
      · left; rw [z] at l1; simpa using l1.symm
      · right; rw [z] at l2; simpa using l2.symm
    have e := isEmpty_range (e := fun _ => true) r1 r2 he
    refine SeqAt.RcNeAt.tuples (e := fun _ => true) p1 p2 hu (fun j g1 g2 => absurd g1 (by omega)) _ _ _ _ ?_
    refine ⟨V.bl _, H, I, rfl, ?_⟩
    rw [e]
    simpa using q
abbrev rEqA (K : PySem.W.Frag) : R2 := fun x y H Q => (rEq x y H Q ∨ rEqE K false x y H Q) ∨ rEqD K x y H Q
abbrev rNeA (K : PySem.W.Frag) : R2 := fun x y H Q => (rNe x y H Q ∨ rEqE K true x y H Q) ∨ rNeD K x y H Q
theorem op_eqA {X : Cx} (hu : X.A.units + 64 < cLine) : OpR X (compareOp .Eq) (rEqA X.K) := OpR.or (OpR.or op_eq (op_eqE (Nat.lt_of_le_of_lt (Nat.le_add_right _ _) hu))) (op_eqD hu)
theorem op_neA {X : Cx} (hu : X.A.units + 64 < cLine) : OpR X (compareOp .NotEq) (rNeA X.K) := OpR.or (OpR.or op_ne (op_neE (Nat.lt_of_le_of_lt (Nat.le_add_right _ _) hu))) (op_neD hu)
section
variable {G : Ctx} {S : Wd}
theorem sc_ok {x y : Dv} {u v : V} (h : scD x y = true) (r1 : Rep G S.Z x u) (r2 : Rep G S.Z y v) : scal u v = true ∧ decide (u = v) = eqS x y := by
  cases x <;> cases y <;> first
    | (exfalso; simp [scD] at h; done)
    | (first
        | rw [rep_n.mp r1]
        | rw [rep_b.mp r1]
        | rw [rep_i.mp r1]
        | rw [rep_s.mp r1]) <;>
      (first
        | rw [rep_n.mp r2]
        | rw [rep_b.mp r2]
        | rw [rep_i.mp r2]
        | rw [rep_s.mp r2]) <;>
      (refine ⟨rfl, ?_⟩; simp [eqS])
theorem eqE_ok (ok : Ok G S) {x y : Dv} {u v : V} {k : Bool} (h : eqE x y = some k) (r1 : Rep G S.Z x u) (r2 : Rep G S.Z y v) :
    ∃ a b xs ys, u = V.ref a ∧ v = V.ref b ∧ (xs = [] ∨ ys = []) ∧ ((SqL G.K S.H a xs ∧ SqL G.K S.H b ys) ∨ (SqT G.K S.H a xs ∧ SqT G.K S.H b ys)) ∧ (xs.isEmpty && ys.isEmpty) = k := by
  have emp : ∀ {ds : List Dv} {vs : List V}, Reps G S.Z ds vs → vs.isEmpty = ds.isEmpty := fun {ds vs} r => by
    have l := r.length
    cases ds <;> cases vs <;> first | rfl | simp at l
  unfold eqE at h
  split at h
  · obtain ⟨a, vs, rfl, s1, q1⟩ := rep_tup.mp r1
    obtain ⟨b, ws, rfl, s2, q2⟩ := rep_tup.mp r2
    cases h
    refine ⟨a, b, vs, ws, rfl, rfl, .inr (reps_nil.mp q2), .inr ⟨ok.sqT s1, ok.sqT s2⟩, ?_⟩
    rw [emp q1, emp q2]; simp
  · obtain ⟨a, vs, rfl, s1, q1⟩ := rep_tup.mp r1
    obtain ⟨b, ws, rfl, s2, q2⟩ := rep_tup.mp r2
    cases h
    refine ⟨a, b, vs, ws, rfl, rfl, .inl (reps_nil.mp q1), .inr ⟨ok.sqT s1, ok.sqT s2⟩, ?_⟩
    rw [emp q1, emp q2]; simp
  · obtain ⟨a, vs, rfl, s1, q1⟩ := rep_lst.mp r1
    obtain ⟨b, ws, rfl, s2, q2⟩ := rep_lst.mp r2
    cases h
    refine ⟨a, b, vs, ws, rfl, rfl, .inr (reps_nil.mp q2), .inl ⟨.inl (.inl (ok.up1 s1 fun _ z => by cases z)), .inl (.inl (ok.up1 s2 fun _ z => by cases z))⟩, ?_⟩
    rw [emp q1, emp q2]; simp
  · obtain ⟨a, vs, rfl, s1, q1⟩ := rep_lst.mp r1
    obtain ⟨b, ws, rfl, s2, q2⟩ := rep_lst.mp r2
    cases h
    refine ⟨a, b, vs, ws, rfl, rfl, .inl (reps_nil.mp q1), .inl ⟨.inl (.inl (ok.up1 s1 fun _ z => by cases z)), .inl (.inl (ok.up1 s2 fun _ z => by cases z))⟩, ?_⟩
    rw [emp q1, emp q2]; simp
  · cases h
theorem eqR_ok (ok : Ok G S) {n : Nat} {y : Dv} {v : V} {k : Bool} (h : eqR S.h[n]? y = some k) (r2 : Rep G S.Z y v) :
    ∃ b xs ys, v = V.ref b ∧ (xs = [] ∨ ys = []) ∧ SqL G.K S.H (S.μ n) xs ∧ SqL G.K S.H b ys ∧ (xs.isEmpty && ys.isEmpty) = k := by
  unfold eqR at h
  split at h
  · rename_i xs hx
    obtain ⟨vs, e, q1⟩ := ok.obj n _ hx
    obtain ⟨b, ws, rfl, s2, q2⟩ := rep_lst.mp r2
    cases h
    have l := q1.length
    refine ⟨b, vs, ws, rfl, .inr (reps_nil.mp q2), .inl (.inl e), .inl (.inl (ok.up1 s2 fun _ z => by cases z)), ?_⟩
    rw [reps_nil.mp q2]
    cases xs <;> cases vs <;> first | rfl | simp at l
  · cases h
theorem eqD_ok (ok : Ok G S) {x y : Dv} {u v : V} {k : Bool} {neg : Bool} (h : eqD x y = some k) (r1 : Rep G S.Z x u) (r2 : Rep G S.Z y v) :
    (scal u v = true ∧ decide (u = v) = k) ∨ (∃ a b xs ys, u = V.ref a ∧ v = V.ref b ∧ (xs = [] ∨ ys = []) ∧ ((SqL G.K S.H a xs ∧ SqL G.K S.H b ys) ∨ (SqT G.K S.H a xs ∧ SqT G.K S.H b ys)) ∧ (xs.isEmpty && ys.isEmpty) = k) ∨
      (∃ d e, Dp G.K S.H u d ∧ Dp G.K S.H v e ∧ SeqAt.shaped d = true ∧ SeqAt.shaped e = true ∧ PyData.eqv d e = k) := by
  unfold eqD at h
  split at h
  · rename_i hs
    cases h
    exact .inl (sc_ok hs r1 r2)
  · split at h
    · rename_i b hb
      cases h
      exact .inr (.inl (eqE_ok ok hb r1 r2))
    · unfold eqDeep at h
      split at h
      · rename_i hh
        cases h
        refine .inr (.inr ⟨_, _, rep_dp ok hh.1 r1, rep_dp ok hh.2.1 r2, ?_, ?_, rfl⟩)
        · unfold SeqAt.shaped
          rw [lay_py hh.1, decide_eq_true hh.2.2.1]; rfl
        · unfold SeqAt.shaped
          rw [lay_py hh.2.1, decide_eq_true hh.2.2.2]; rfl
      · cases h
end
theorem opEq_h {a b : Wv} {h h1 : DH} {k : Bool} (e : opEq a b h = .ok k h1) : h1 = h := by
  unfold opEq at e
  split at e <;> (try split at e) <;> cases e <;> rfl
theorem opEq_er {a b : Wv} {h h1 : DH} {x : Dv} : opEq a b h ≠ .er x h1 := fun e => by
  unfold opEq at e
  split at e <;> (try split at e) <;> cases e
theorem eq_case {G : Ctx} {S : Wd} (ok : Ok G S) {a b : Wv} {x y : V} {k : Bool} (h : opEq a b S.h = .ok k S.h) (r1 : RepW G S a x) (r2 : RepW G S b y) :
    (scal x y = true ∧ decide (x = y) = k) ∨ (∃ a b xs ys, x = V.ref a ∧ y = V.ref b ∧ (xs = [] ∨ ys = []) ∧ ((SqL G.K S.H a xs ∧ SqL G.K S.H b ys) ∨ (SqT G.K S.H a xs ∧ SqT G.K S.H b ys)) ∧ (xs.isEmpty && ys.isEmpty) = k) ∨
      (∃ d e, Dp G.K S.H x d ∧ Dp G.K S.H y e ∧ SeqAt.shaped d = true ∧ SeqAt.shaped e = true ∧ PyData.eqv d e = k) := by
  unfold opEq at h
  split at h
  · split at h
    · rename_i hk
      cases h
      exact eqD_ok (neg := false) ok hk r1 r2
    · cases h
  · split at h
    · rename_i hk
      cases h
      obtain ⟨b, xs, ys, e, h1, h2, h3, h4⟩ := eqR_ok ok hk r2
      exact .inr (.inl ⟨_, b, xs, ys, r1.2, e, h1, .inl ⟨h2, h3⟩, h4⟩)
    · cases h
  · cases h
theorem v_eq {G : Ctx} : VCR G (rEqA G.K) opEq := vcr_of fun Wx S σ a b x y Q ok r1 r2 p => by
  cases q : opEq a b S.h with
  | bad => rw [q] at p; exact p.elim
  | er e h1 => exact absurd q opEq_er
  | ok k h1 =>
    have eh := opEq_h q
    subst eh
    rw [q] at p
    have z : Q (.bl k) S.H := p.here (R := RB) ok rfl
    rcases eq_case ok q r1 r2 with ⟨h1, h2⟩ | ⟨a, b, xs, ys, e1, e2, h1, h2, h3⟩ | ⟨d, e, h1, h2, h3, h4, h5⟩
    · exact .inl (.inl ⟨h1, by rw [h2]; exact z⟩)
    · exact .inl (.inr ⟨a, b, xs, ys, e1, e2, h1, h2, by rw [h3]; simpa using z⟩)
    · exact .inr ⟨d, e, h1, h2, h3, h4, by rw [h5]; exact z⟩
theorem v_ne {G : Ctx} : VCR G (rNeA G.K) opNe := vcr_of fun Wx S σ a b x y Q ok r1 r2 p => by
  unfold opNe at p
  cases q : opEq a b S.h with
  | bad => rw [q] at p; exact p.elim
  | er e h1 => exact absurd q opEq_er
  | ok k h1 =>
    have eh := opEq_h q
    subst eh
    rw [q] at p
    have z : Q (.bl (!k)) S.H := p.here (R := RB) ok rfl
    rcases eq_case ok q r1 r2 with ⟨h1, h2⟩ | ⟨a, b, xs, ys, e1, e2, h1, h2, h3⟩ | ⟨d, e, h1, h2, h3, h4, h5⟩
    · exact .inl (.inl ⟨h1, by rw [h2]; exact z⟩)
    · exact .inl (.inr ⟨a, b, xs, ys, e1, e2, h1, h2, by rw [h3]; simpa using z⟩)
    · exact .inr ⟨d, e, h1, h2, h3, h4, by rw [h5]; exact z⟩
end DL
namespace DL
open PySem PySem.Spec PyProof.Rows L2

/-! ### flat data, keys -/
def keyOf : Wv → Option Key
  | .d (.int i) => some (.inl i)
  | .d (.str s) => some (.inr s)
  | _ => none
theorem keyOf_ok {G : Ctx} {S : Wd} {w : Wv} {v : V} {k : Key} (h : keyOf w = some k) (r : RepW G S w v) : v = kV k := by
  unfold keyOf at h
  split at h
  · cases h; exact rw_int r
  · cases h; exact rw_str r
  · cases h
/-- what stands under a key -/
def dgetD : List Key → List Dv → Key → Option Dv
  | k' :: ks, x :: xs, k => if k' = k then some x else dgetD ks xs k
  | _, _, _ => none
theorem dgetD_ok {G : Ctx} {Z : Hp} : ∀ {kv : List (Key × V)} {xs : List Dv} (k : Key), Reps G Z xs (kv.map (·.2)) →
    (∀ d, dgetD (kv.map (·.1)) xs k = some d → ∃ v, valV kv k = some v ∧ Rep G Z d v) ∧ (dgetD (kv.map (·.1)) xs k = none → valV kv k = none)
  | [], xs, k, r => by
    cases xs with
    | nil => exact ⟨fun d h => (by cases h), fun _ => rfl⟩
    | cons x xs => obtain ⟨_, _, e, _⟩ := reps_cons.mp r; cases e
  | (k', v) :: kv, xs, k, r => by
    cases xs with
    | nil => have := reps_nil.mp r; cases this
    | cons x xs =>
      obtain ⟨v', t, e, p, q⟩ := reps_cons.mp r
      have e' : v = v' ∧ kv.map (·.2) = t := by
        injection e with a b
        exact ⟨a, b⟩
      obtain ⟨rfl, rfl⟩ := e'
      show (∀ d, (if k' = k then some x else dgetD (kv.map (·.1)) xs k) = some d → _) ∧ ((if k' = k then some x else dgetD (kv.map (·.1)) xs k) = none → _)
      by_cases hk : k' = k
      · rw [if_pos hk, valV_pos (p := (k', v)) hk]
        exact ⟨fun d h => by cases h; exact ⟨v, rfl, p⟩, fun h => by cases h⟩
      · rw [if_neg hk, valV_neg (p := (k', v)) hk]
        exact dgetD_ok k q
/-- the dict that a thing is: its keys, its values -/
def dctOf (w : Wv) (h : DH) : Option (List Key × List Dv) := match w with
  | .d (.dct ks xs) => some (ks, xs)
  | .r n => (match h[n]? with
    | some (.dct kvs) => some (kvs.map (·.1), kvs.map (·.2))
    | _ => none)
  | _ => none
theorem dctOf_ok {G : Ctx} {S : Wd} (ok : Ok G S) {w : Wv} {v : V} {ks : List Key} {xs : List Dv} (h : dctOf w S.h = some (ks, xs)) (r : RepW G S w v) :
    ∃ a kv, v = V.ref a ∧ Rd S.H a (.dK kv) ∧ kv.map (·.1) = ks ∧ Reps G S.Z xs (kv.map (·.2)) := by
  unfold dctOf at h
  split at h
  · cases h
    obtain ⟨a, kv, e, z, hk, q⟩ := rw_dct r
    exact ⟨a, kv, e, ok.rdK z, hk, q⟩
  · split at h
    · rename_i hx
      cases h
      obtain ⟨kv, e, hk, q⟩ := ok.obj _ _ hx
      exact ⟨_, kv, r.2, .inl e, hk, q⟩
    · cases h
  · cases h
/-- the list, the tuple that a thing is -/
def seqOf (w : Wv) (h : DH) : Option (List Dv) := match w with
  | .d (.tup xs) => some xs
  | .d (.lst xs) => some xs
  | .d (.scr xs) => some xs
  | .r n => (match h[n]? with
    | some (.lst xs) => some xs
    | _ => none)
  | _ => none
theorem seqOf_ok {G : Ctx} {S : Wd} (ok : Ok G S) {w : Wv} {v : V} {xs : List Dv} (h : seqOf w S.h = some xs) (r : RepW G S w v) :
    ∃ a vs, v = V.ref a ∧ (SqL G.K S.H a vs ∨ SqT G.K S.H a vs) ∧ Reps G S.Z xs vs := by
  unfold seqOf at h
  split at h
  · cases h
    obtain ⟨a, vs, e, z, q⟩ := rw_tup r
    exact ⟨a, vs, e, .inr (ok.sqT z), q⟩
  · cases h
    obtain ⟨a, vs, e, z, q⟩ := rw_lst r
    exact ⟨a, vs, e, .inl (.inl (.inl (ok.up1 z fun _ z => by cases z))), q⟩
  · cases h
    obtain ⟨a, vs, e, z, q⟩ := rw_scr r
    exact ⟨a, vs, e, .inl (ok.sqL z), q⟩
  · split at h
    · rename_i hx
      cases h
      obtain ⟨vs, e, q⟩ := ok.obj _ _ hx
      exact ⟨_, vs, r.2, .inl (.inl (.inl e)), q⟩
    · cases h
  · cases h
/-- .. a list -/
def lstOf (w : Wv) (h : DH) : Option (List Dv) := match w with
  | .d (.lst xs) => some xs
  | .d (.scr xs) => some xs
  | .r n => (match h[n]? with
    | some (.lst xs) => some xs
    | _ => none)
  | _ => none
theorem lstOf_ok {G : Ctx} {S : Wd} (ok : Ok G S) {w : Wv} {v : V} {xs : List Dv} (h : lstOf w S.h = some xs) (r : RepW G S w v) :
    ∃ a vs, v = V.ref a ∧ SqL G.K S.H a vs ∧ Reps G S.Z xs vs := by
  unfold lstOf at h
  split at h
  · cases h
    obtain ⟨a, vs, e, z, q⟩ := rw_lst r
    exact ⟨a, vs, e, .inl (.inl (ok.up1 z fun _ z => by cases z)), q⟩
  · cases h
    obtain ⟨a, vs, e, z, q⟩ := rw_scr r
    exact ⟨a, vs, e, ok.sqL z, q⟩
  · split at h
    · rename_i hx
      cases h
      obtain ⟨vs, e, q⟩ := ok.obj _ _ hx
      exact ⟨_, vs, r.2, .inl (.inl e), q⟩
    · cases h
  · cases h
/-- .. a list that was made within -/
def lst1Of (w : Wv) (h : DH) : Option (List Dv) := match w with
  | .d (.lst xs) => some xs
  | .r n => (match h[n]? with
    | some (.lst xs) => some xs
    | _ => none)
  | _ => none
theorem lst1Of_ok {G : Ctx} {S : Wd} (ok : Ok G S) {w : Wv} {v : V} {xs : List Dv} (h : lst1Of w S.h = some xs) (r : RepW G S w v) :
    ∃ a vs, v = V.ref a ∧ S.H a = some (.lst vs) ∧ Reps G S.Z xs vs := by
  unfold lst1Of at h
  split at h
  · cases h
    obtain ⟨a, vs, e, z, q⟩ := rw_lst r
    exact ⟨a, vs, e, ok.up1 z (fun _ z => by cases z), q⟩
  · split at h
    · rename_i hx
      cases h
      obtain ⟨vs, e, q⟩ := ok.obj _ _ hx
      exact ⟨_, vs, r.2, e, q⟩
    · cases h
  · cases h

/-! ### in -/
/-! ### items -/
theorem reps_at {G : Ctx} {Z : Hp} {xs : List Dv} {vs : List V} {i : Int} {d : Dv} (r : Reps G Z xs vs) (h : atI xs i = some d) : ∃ v, atI vs i = some v ∧ Rep G Z d v := by
  unfold atI at h ⊢
  rw [← r.length]
  cases e : ixN xs.length i with
  | none => rw [e] at h; cases h
  | some j =>
    rw [e] at h
    exact r.get h
def opIx (a b : Wv) (h : DH) : Rs Wv := match b with
  | .d (.int i) => (match seqOf a h with
    | some xs => (match atI xs i with
      | some x => .ok (.d x) h
      | none => .bad)
    | none => (match a with
      | .d (.str s) => if s.length ≤ 1000000 then (match atI s.cps.toList i with
        | some c => .ok (.d (.str ⟨#[c]⟩)) h
        | none => .bad) else .bad
      | _ => .bad))
  | _ => .bad
theorem v_ix {G : Ctx} : VOR G (RW G) (rIx G.K) opIx := fun Wx S σ a b x y Q ok r1 r2 p => by
  unfold opIx at p
  split at p
  · rename_i i
    split at p
    · rename_i xs hs
      split at p
      · rename_i d hd
        obtain ⟨q, vs, rfl, sq, rr⟩ := seqOf_ok ok hs r1
        obtain ⟨v, h1, h2⟩ := reps_at rr hd
        have z := p.here ok (R := RW G) (b := v) h2
        rcases sq with sq | sq
        · exact .inl ⟨q, vs, i, v, rfl, rw_int r2, sq, h1, z⟩
        · exact .inr (.inl ⟨q, vs, i, v, rfl, rw_int r2, sq, h1, z⟩)
      · exact p.elim
    · split at p
      · rename_i s _
        split at p
        · rename_i hl
          split at p
          · rename_i c hc
            exact .inr (.inr ⟨s, i, c, rw_str r1, rw_int r2, le_line hl, hc, p.here ok rw_str'⟩)
          · exact p.elim
        · exact p.elim
      · exact p.elim
  · exact p.elim
def opDx (a b : Wv) (h : DH) : Rs Wv := match dctOf a h, keyOf b with
  | some (ks, xs), some k => (match dgetD ks xs k with
    | some x => .ok (.d x) h
    | none => .bad)
  | _, _ => .bad
section
variable {X : Cx} {ca : CT} {Wx : WX} {a b c : Expr} {f g : DS → DH → Rs Wv} {pos : Pos}
/-! ### slices -/
def RO : RR (Option Int) (Option Int) := fun _ _ a b => a = b
theorem RO.shift : Shift RO := fun _ _ _ _ _ _ _ h => h
theorem RO.stay : Stay RO := fun _ _ _ _ _ _ h => h
def PDO (X : Cx) (ca : CT) (Wx : WX) (e : Option Expr) (f : DS → DH → Rs (Option Int)) : Prop := PO X e (tE (gx X ca) Wx RO f)
def oNone : DS → DH → Rs (Option Int) := fun _ h => .ok none h
def oI (w : Wv) (h : DH) : Rs (Option Int) := match w with
  | .d (.int i) => .ok (some i) h
  | _ => .bad
def oSome (f : DS → DH → Rs Wv) : DS → DH → Rs (Option Int) := b1 f oI
theorem PO.imp {X : Cx} {e : Option Expr} {t t' : TO} (h : PO X e t) (k : ∀ σ H Q, t' σ H Q → t σ H Q) : PO X e t' := ⟨fun pins s σ H Q I z => h.run pins s σ H Q I (k σ H Q z)⟩
theorem pdo_none : PDO X ca Wx none oNone := PO.imp po_none fun σ H Q ⟨S, ds, eH, ok, rs, p⟩ => by
  subst eH
  exact p S none (Ext.refl S) rfl ok rfl
theorem pdo_some (h : PD X ca Wx a f) : PDO X ca Wx (some a) (oSome f) := PO.imp (po_some h) fun σ H Q z => by
  refine (b1_imp (R1 := RW (gx X ca)) z).mono ?_
  rintro x H1 ⟨S0, S, w, rfl, e1, eH, ok, r, q⟩
  unfold oI at q
  split at q
  · rename_i i
    exact ⟨i, rw_int r, q S _ e1 rfl ok rfl⟩
  · exact q.elim
/-- three, then what is made of them -/
def b3' {α β γ δ : Type} (f : DS → DH → Rs α) (g : DS → DH → Rs β) (k : DS → DH → Rs γ) (F : α → β → γ → DH → Rs δ) : DS → DH → Rs δ := fun ds h =>
  match f ds h with
  | .ok a h1 => (match g ds h1 with
    | .ok b h2 => (match k ds h2 with
      | .ok c h3 => F a b c h3
      | .er e h3 => .er e h3
      | .bad => .bad)
    | .er e h2 => .er e h2
    | .bad => .bad)
  | .er e h1 => .er e h1
  | .bad => .bad
theorem b3_imp {G : Ctx} {α β γ δ α' β' γ' δ' : Type} {R1 : RR α α'} {R2 : RR β β'} {R3 : RR γ γ'} {R : RR δ δ'} {f : DS → DH → Rs α} {g : DS → DH → Rs β} {k : DS → DH → Rs γ} {F : α → β → γ → DH → Rs δ} {σ : L2.St} {H : Hp} {Q : δ' → Hp → Prop} (h1 : Stay R1) (h2 : Stay R2) (h : tE G Wx R (b3' f g k F) σ H Q) :
    tE G Wx R1 f σ H fun x H1 => tE G Wx R2 g σ H1 fun y H2 => tE G Wx R3 k σ H2 fun z H3 => ∃ S0 S1 S2 S a b c, S.H = H3 ∧ Ext S0 S1 ∧ Ext S1 S2 ∧ Ext S2 S ∧ S0.H = H ∧ Ok G S ∧ R1 S0 S a x ∧ R2 S1 S b y ∧ R3 S2 S c z ∧ PostE G Wx R S0 σ (F a b c S.h) Q := by
  obtain ⟨S, ds, eH, ok, rs, p⟩ := h
  refine ⟨S, ds, eH, ok, rs, ?_⟩
  unfold b3' at p
  cases q : f ds S.h with
  | bad => rw [q] at p; exact p
  | er e h1 => rw [q] at p; exact p
  | ok a h1' =>
    rw [q] at p
    intro S1 x e1 hh ok1 r1
    subst hh
    dsimp only at p
    refine ⟨S1, ds, rfl, ok1, rs.up e1, ?_⟩
    cases q2 : g ds S1.h with
    | bad => rw [q2] at p; exact p
    | er e h2 =>
      rw [q2] at p
      exact fun S' cls d e1' hh' ok' rr => p S' cls d (e1.trans e1') hh' ok' rr
    | ok b h2' =>
      rw [q2] at p
      intro S2 y e2 hh2 ok2 r2
      subst hh2
      dsimp only at p
      refine ⟨S2, ds, rfl, ok2, (rs.up e1).up e2, ?_⟩
      cases q3 : k ds S2.h with
      | bad => rw [q3] at p; exact p
      | er e h3 =>
        rw [q3] at p
        exact fun S' cls d e' hh' ok' rr => p S' cls d ((e1.trans e2).trans e') hh' ok' rr
      | ok c h3 =>
        rw [q3] at p
        intro S3 z e3 hh3 ok3 r3
        subst hh3
        exact ⟨S, S1, S2, S3, a, b, c, rfl, e1, e2, e3, eH, ok3, h1 _ _ _ _ _ e3 (h1 _ _ _ _ _ e2 r1), h2 _ _ _ _ _ e3 r2, r3, p⟩
def cut {α : Type} (xs : List α) (lo hi : Option Int) : List α := (xs.drop (HT.sIx xs.length 0 lo)).take (HT.sIx xs.length xs.length hi - HT.sIx xs.length 0 lo)
theorem Reps.cut {G : Ctx} {Z : Hp} {xs : List Dv} {vs : List V} (r : Reps G Z xs vs) (lo hi : Option Int) : Reps G Z (DL.cut xs lo hi) (cutV vs lo hi) := by
  unfold DL.cut cutV
  rw [r.length]
  exact (r.drop _).take _
theorem cut_whole {α : Type} {xs : List α} {lo hi : Option Int} (h : HT.sIx xs.length 0 lo = 0 ∧ HT.sIx xs.length xs.length hi = xs.length) : cut xs lo hi = xs := by
  unfold cut
  rw [h.1, h.2]
  simp
def opSl (a : Wv) (lo hi : Option Int) (h : DH) : Rs Wv := match a with
  | .d (.tup xs) => .ok (.d (.tup (cut xs lo hi))) h
  | .d (.str s) => if s.length ≤ 1000000 then .ok (.d (.str (cutS s lo hi))) h else .bad
  | _ => .bad
end
end DL
namespace DL
open PySem PySem.Spec PyProof.Rows L2

/-! ### calls of built-ins -/
def VOC {γ δ : Type} (G : Ctx) (R : RR γ δ) (r : List V → Hp → (δ → Hp → Prop) → Prop) (F : List Wv → DH → Rs γ) : Prop :=
  ∀ (Wx : WX) (S : Wd) (σ : L2.St) (ws : List Wv) (xs : List V) (Q : δ → Hp → Prop), Ok G S → RepWs G S ws xs → PostE G Wx R S σ (F ws S.h) Q → r xs S.H Q
theorem b1_call {G : Ctx} {Wx : WX} {γ δ : Type} {R : RR γ δ} {f : DS → DH → Rs (List Wv)} {F : List Wv → DH → Rs γ} {r : List V → Hp → (δ → Hp → Prop) → Prop} {σ : L2.St} {H : Hp} {Q : δ → Hp → Prop} (hR : Shift R) (hv : VOC G R r F) (h : tE G Wx R (b1 f F) σ H Q) :
    tE G Wx (RL G) f σ H fun x H1 => r x H1 Q := by
  refine (b1_imp (R1 := RL G) h).mono ?_
  rintro x H2 ⟨S0, S, a, rfl, e1, eH, ok, r1, q⟩
  exact hv Wx S σ a x Q ok r1 (q.later hR e1)
section
variable {X : Cx} {ca : CT} {Wx : WX} {x : Str} {p pos : Pos} {e : Expr} {es : List Expr} {g : DS → DH → Rs (List Wv)} {id T : String} {F : List Wv → DH → Rs Wv} {FO : List Wv → DH → Rs DO} {r : List V → Hp → VK → Prop}
theorem pd_callB (hc : CallR X (.builtin id) r) (hv : VOC (gx X ca) (RW (gx X ca)) r F) (hg : Gl X x) (hm : X.mg x = none) (hb : bootBuiltins x = some (.builtin id)) (ha : PDA X ca Wx (e :: es) g) (hn : x ≠ "__name__" := by decide) (hdb : (x == ("__debug__" : Str)) = false := by decide)
    (he : starEach (e :: es) X.env = (false, eval e X.env) :: starEach es X.env := by rfl) (hpl : (backTo pos (starEach es X.env)).any (·.1) = false := by rfl) : PD X ca Wx (.Call (.Name x p) (e :: es) [] pos) (b1 g F) :=
  PE.imp (pe_callB hc hg hm hb ha hn hdb he hpl) fun σ H Q z => b1_call (RW.shift _) hv z
theorem pd_callT (hc : CallR X (.type T) r) (hv : VOC (gx X ca) (RW (gx X ca)) r F) (hg : Gl X x) (hm : X.mg x = none) (hb : bootBuiltins x = some (.type T)) (ha : PDA X ca Wx (e :: es) g) (hn : x ≠ "__name__" := by decide) (hdb : (x == ("__debug__" : Str)) = false := by decide)
    (he : starEach (e :: es) X.env = (false, eval e X.env) :: starEach es X.env := by rfl) (hpl : (backTo pos (starEach es X.env)).any (·.1) = false := by rfl) : PD X ca Wx (.Call (.Name x p) (e :: es) [] pos) (b1 g F) :=
  PE.imp (pe_callTy hc hg hm hb ha hn hdb he hpl) fun σ H Q z => b1_call (RW.shift _) hv z
end
/-- len -/
def fLen (ws : List Wv) (h : DH) : Rs Wv := match ws with
  | [w] => (match dctOf w h with
    | some (ks, _) => .ok (.d (.int ks.length)) h
    | none => (match seqOf w h with
      | some xs => .ok (.d (.int xs.length)) h
      | none => (match w with
        | .d (.str s) => if s.length ≤ 1000000 then .ok (.d (.int s.length)) h else .bad
        | _ => .bad)))
  | _ => .bad
def rLenA (K : PySem.W.Frag) : List V → Hp → VK → Prop := fun xs H Q => (∃ x n, xs = [x] ∧ LenV K x H n ∧ Q (.int n) H) ∨ (∃ a kvs, xs = [V.ref a] ∧ Rd H a (.dK kvs) ∧ Q (.int kvs.length) H)
theorem call_lenA {X : Cx} : CallR X (.builtin "len") (rLenA X.K) := CallR.or call_len fun pins s σ H xs us Q I r ⟨a, kvs, e, rd, q⟩ => by
  subst e
  have e := Vals.ref1 r
  subst e
  exact d_len I rd fun t s' I' => ⟨V.int _, H, I', ⟨t, rfl⟩, q⟩
theorem repWs1 {G : Ctx} {S : Wd} {w : Wv} {xs : List V} (r : RepWs G S [w] xs) : ∃ v, xs = [v] ∧ RepW G S w v := by
  obtain ⟨v, t, e, h1, h2⟩ := r
  have : t = [] := h2
  subst this
  exact ⟨v, e, h1⟩
theorem v_len {G : Ctx} : VOC G (RW G) (rLenA G.K) fLen := fun Wx S σ ws xs Q ok r p => by
  unfold fLen at p
  split at p
  · rename_i w
    obtain ⟨v, rfl, r1⟩ := repWs1 r
    split at p
    · rename_i ks ys hd
      obtain ⟨a, kv, rfl, rd, rfl, rr⟩ := dctOf_ok ok hd r1
      refine .inr ⟨a, kv, rfl, rd, ?_⟩
      have := p.here ok rw_int'
      rw [List.length_map] at this
      exact this
    · split at p
      · rename_i ys hs
        obtain ⟨a, vs, rfl, sq, rr⟩ := seqOf_ok ok hs r1
        refine .inl ⟨_, _, rfl, ?_, p.here ok rw_int'⟩
        rcases sq with sq | sq
        · exact .inl ⟨vs, sq, rr.length⟩
        · exact .inr ⟨vs, sq, rr.length⟩
      · split at p
        · split at p
          · rename_i hl
            rw [rw_str r1]
            exact .inl ⟨_, _, rfl, ⟨le_line hl, rfl⟩, p.here ok rw_int'⟩
          · exact p.elim
        · exact p.elim
  · exact p.elim
/-- int of an int, a truth -/
def fInt (ws : List Wv) (h : DH) : Rs Wv := match ws with
  | [.d (.int i)] => .ok (.d (.int i)) h
  | [.d (.bl b)] => .ok (.d (.int (if b then 1 else 0))) h
  | _ => .bad
theorem v_int {G : Ctx} : VOC G (RW G) (fun xs H Q => (∃ i, xs = [V.int i] ∧ Q (V.int i) H) ∨ ∃ k, xs = [V.bl k] ∧ Q (V.int (if k then 1 else 0)) H) fInt := fun Wx S σ ws xs Q ok r p => by
  unfold fInt at p
  split at p
  · obtain ⟨v, rfl, r1⟩ := repWs1 r
    rw [rw_int r1]
    exact .inl ⟨_, rfl, p.here ok rw_int'⟩
  · obtain ⟨v, rfl, r1⟩ := repWs1 r
    rw [rw_bl r1]
    exact .inr ⟨_, rfl, p.here ok rw_int'⟩
  · exact p.elim
def fAbs (ws : List Wv) (h : DH) : Rs Wv := match ws with
  | [.d (.int i)] => .ok (.d (.int (if i < 0 then -i else i))) h
  | _ => .bad
theorem v_abs {G : Ctx} : VOC G (RW G) (fun xs H Q => ∃ i, xs = [V.int i] ∧ Q (V.int (if i < 0 then -i else i)) H) fAbs := fun Wx S σ ws xs Q ok r p => by
  unfold fAbs at p
  split at p
  · obtain ⟨v, rfl, r1⟩ := repWs1 r
    rw [rw_int r1]
    exact ⟨_, rfl, p.here ok rw_int'⟩
  · exact p.elim
def fMin2 (ws : List Wv) (h : DH) : Rs Wv := match ws with
  | [.d (.int i), .d (.int j)] => .ok (.d (.int (if j < i then j else i))) h
  | _ => .bad
def fMax2 (ws : List Wv) (h : DH) : Rs Wv := match ws with
  | [.d (.int i), .d (.int j)] => .ok (.d (.int (if j > i then j else i))) h
  | _ => .bad
/-- tuple of a list, of a tuple -/
def fTuple (ws : List Wv) (h : DH) : Rs Wv := match ws with
  | [w] => (match seqOf w h with
    | some xs => .ok (.d (.tup xs)) h
    | none => .bad)
  | _ => .bad
/-- list of a list, of a tuple: a new one -/
def fList (ws : List Wv) (h : DH) : Rs DO := match ws with
  | [w] => (match seqOf w h with
    | some xs => .ok (.lst xs) h
    | none => .bad)
  | _ => .bad
/-! ### isinstance of a built-in type -/
inductive Ty where
  | int | bool | str | tuple | list | dict
def Ty.name : Ty → String
  | .int => "int" | .bool => "bool" | .str => "str" | .tuple => "tuple" | .list => "list" | .dict => "dict"
def tyN (w : Wv) (h : DH) : Option String := match w with
  | .d .non => some "NoneType"
  | .d (.bl _) => some "bool"
  | .d (.int _) => some "int"
  | .d (.str _) => some "str"
  | .d (.tup _) => some "tuple"
  | .d (.lst _) => some "list"
  | .d (.dct _ _) => some "dict"
  | .r n => (match h[n]? with
    | some (.lst _) => some "list"
    | some (.dct _) => some "dict"
    | _ => none)
  | _ => none
def isK (s : String) : Ty → Bool
  | .int => s == "int" || s == "bool"
  | t => s == t.name
def isT (t : Ty) (w : Wv) (h : DH) : Rs Wv := match tyN w h with
  | some s => .ok (.d (.bl (isK s t))) h
  | none => .bad
theorem kit_all (t : Ty) (s : String) (h : s = "NoneType" ∨ s = "bool" ∨ s = "int" ∨ s = "str" ∨ s = "tuple" ∨ s = "list" ∨ s = "dict") : kitB s t.name = some (isK s t) := by
  rcases h with rfl | rfl | rfl | rfl | rfl | rfl | rfl <;> cases t <;> decide +kernel
theorem sqT_ty {K : PySem.W.Frag} {H : Hp} {a : Addr} {vs : List V} (h : SqT K H a vs) : TyX K H (.ref a) (.type "tuple") := by
  rcases h with (h | ⟨o, h⟩) | ⟨o, its, n, h1, h2, _⟩
  · exact .base (.tup h)
  · exact .fTuple h
  · exact .kTuple h1 h2
theorem tyN_ok {G : Ctx} {S : Wd} (ok : Ok G S) {w : Wv} {v : V} {s : String} (h : tyN w S.h = some s) (r : RepW G S w v) :
    TyX G.K S.H v (.type s) ∧ (s = "NoneType" ∨ s = "bool" ∨ s = "int" ∨ s = "str" ∨ s = "tuple" ∨ s = "list" ∨ s = "dict") := by
  unfold tyN at h
  split at h
  · cases h; rw [rw_non r]; exact ⟨.base .non, by simp⟩
  · cases h; rw [rw_bl r]; exact ⟨.base (.bl _), by simp⟩
  · cases h; rw [rw_int r]; exact ⟨.base (.int _), by simp⟩
  · cases h; rw [rw_str r]; exact ⟨.base (.str _), by simp⟩
  · cases h; obtain ⟨a, vs, rfl, sq, rr⟩ := rw_tup r; exact ⟨sqT_ty (ok.sqT sq), by simp⟩
  · cases h; obtain ⟨a, vs, rfl, sq, rr⟩ := rw_lst r; exact ⟨.base (.lst (ok.up1 sq fun _ z => by cases z)), by simp⟩
  · cases h
    obtain ⟨a, kv, rfl, sq, _⟩ := rw_dct r
    rcases ok.rdK sq with z | ⟨o, z⟩
    · exact ⟨.base (.dK z), by simp⟩
    · exact ⟨.fDict z, by simp⟩
  · split at h
    · rename_i hx
      cases h
      obtain ⟨vs, e, q⟩ := ok.obj _ _ hx
      rw [r.2]
      exact ⟨.base (.lst e), by simp⟩
    · rename_i hx
      cases h
      obtain ⟨vs, e, q⟩ := ok.obj _ _ hx
      rw [r.2]
      exact ⟨.base (.dK e), by simp⟩
    · cases h
  · cases h
section
variable {X : Cx} {ca : CT} {Wx : WX} {p p2 pos : Pos} {e : Expr} {f : DS → DH → Rs Wv}
theorem pd_isT (t : Ty) {x : Str} (hg : Gl X "isinstance") (hm : X.mg "isinstance" = none) (hg2 : Gl X x) (hm2 : X.mg x = none) (hb : bootBuiltins x = some (.type t.name)) (ha : PD X ca Wx e f) (hn : x ≠ "__name__" := by decide) (hdb : (x == ("__debug__" : Str)) = false := by decide)
    (he : starEach [e, .Name x p2] X.env = (false, eval e X.env) :: starEach [.Name x p2] X.env := by rfl) (he2 : starEach [.Name x p2] X.env = (false, eval (.Name x p2) X.env) :: starEach [] X.env := by rfl) (hpl : (backTo pos (starEach [.Name x p2] X.env)).any (·.1) = false := by rfl) :
    PD X ca Wx (.Call (.Name "isinstance" p) [e, .Name x p2] [] pos) (b1 f (isT t)) := by
  have hty : PE X (.Name x p2) (tC (.ty t.name)) := pe_bltn hg2 hm2 hb rfl hn hdb
  refine PE.imp (pe_callB (r := rIsi X.K) call_isi hg hm (by decide +kernel) (pa_cons ha (pa_cons hty pa_nil he2) he) (by decide) (by decide) he hpl) fun σ H Q z => ?_
  refine (b1_imp (R1 := RW (gx X ca)) z).mono ?_
  rintro v H1 ⟨S0, S, w, rfl, e1, eH, ok, r, q⟩
  unfold isT at q
  cases hs : tyN w S.h with
  | none => rw [hs] at q; exact q.elim
  | some s =>
    rw [hs] at q
    obtain ⟨ty, hc⟩ := tyN_ok ok hs r
    exact ⟨v, .ty t.name, .type s, .type t.name, isK s t, rfl, .ty _, ty, kit_ty (kit_all t s hc), q S _ e1 rfl ok rw_bl'⟩
end
end DL
namespace DL
open PySem PySem.Spec PyProof.Rows L2

/-! ### defs -/
/-- what a def's body computes: N names, the parameters first -/
def defD (N : Nat) (B : Sm) : List Wv → DH → Rs Wv := fun ws h =>
  match B (ws.map some ++ List.replicate (N - ws.length) none) h with
  | .nx _ h' => .ok (.d .non) h'
  | .rt w h' => .ok w h'
  | .er e _ h' => .er e h'
  | _ => .bad
def wxE (E : XK) : WX := fun cls d _ H => E cls d H
/-- a def's promise -/
def spD (G : Ctx) (n : Nat) (F : List Wv → DH → Rs Wv) : Sp := fun vs H Q E => vs.length = n ∧ ∃ S ws, S.H = H ∧ Ok G S ∧ RepWs G S ws vs ∧ PostE G (wxE E) (RW G) S [] (F ws S.h) Q
theorem repWs_get {G : Ctx} {S : Wd} : ∀ {ws : List Wv} {vs : List V} {i : Nat} {w : Wv}, RepWs G S ws vs → ws[i]? = some w → ∃ v, vs[i]? = some v ∧ RepW G S w v
  | [], vs, i, w, r, e => by simp at e
  | x :: ws, vs, 0, w, ⟨v, t, a, p, q⟩, e => by
    simp at e; subst e; subst a
    exact ⟨v, rfl, p⟩
  | x :: ws, vs, i + 1, w, ⟨v, t, a, p, q⟩, e => by
    subst a
    obtain ⟨u, h1, h2⟩ := repWs_get (i := i) (w := w) q (by simpa using e)
    exact ⟨u, by simpa using h1, h2⟩
theorem relS_start {G : Ctx} {S : Wd} {N : List Str} {ws : List Wv} {vs : List V} (r : RepWs G S ws vs) : RelS G S (ws.map some ++ List.replicate (N.length - ws.length) none) (L2.start N vs) := by
  have l := r.length
  unfold L2.start
  refine ⟨by simp [l], fun i w e => ?_⟩
  by_cases h : i < ws.length
  · rw [List.getElem?_append_left (by simpa using h), List.getElem?_map] at e
    cases q : ws[i]? with
    | none => rw [q] at e; cases e
    | some u =>
      rw [q] at e
      cases e
      obtain ⟨v, h1, h2⟩ := repWs_get r q
      refine ⟨v, ?_, h2⟩
      rw [List.getElem?_append_left (by simpa [← l] using h), List.getElem?_map, h1]
      rfl
  · rw [List.getElem?_append_right (by simpa using Nat.not_lt.mp h)] at e
    have : ∀ (k m : Nat), (List.replicate m (none : Option Wv))[k]? ≠ some (some w) := fun k m => by
      rw [List.getElem?_replicate]
      split <;> intro z <;> cases z
    exact absurd e (this _ _)
section
variable {P : Program} {w : World} {K : PySem.W.Frag} {mg : Str → Option Value} {base : Heap}
/-- THE RULE for a def: its body computes B -/
theorem def_ok {x qual : Str} {st : Stmt} {f : Addr} {fd : FuncData} {N ps : List Str} {k : Nat} {ca : CT} {B : Sm} (F : Fun K x qual st f fd) (S : FnScope N ps (defScope st))
    (hb : ∀ (cdv : Value) (A : Around) (outer : List Env) (s : Shared) (H : Hp) (E : XK), Room k (A.deeper (envOfC qual (defScope st) s.heap.objs.size f cdv)) →
      PDSs (cxOf (L2.CX P w) P w K mg base N qual (defScope st) f cdv A outer s H E) ca (wxE E) (defBody st) B) :
    FnOk P w K mg base (L2.CX P w) (k + 1) f fd ps (spD ⟨K, ca⟩ ps.length (defD N.length B)) := by
  refine F.okX S (fun vs H Q E h => h.1) fun cdv A outer s H vs Q E hr h => ⟨_, hb cdv A outer s H E hr, ?_⟩
  obtain ⟨hl, T, ws, eH, ok, r, p⟩ := h
  refine ⟨T, _, eH, ok, relS_start r, ?_⟩
  show PostS _ _ _ (B (ws.map some ++ List.replicate (N.length - ws.length) none) T.h) _
  unfold defD at p
  cases q : B (ws.map some ++ List.replicate (N.length - ws.length) none) T.h with
  | nx ds h' => rw [q] at p; exact fun S' σ' e1 hh ok' rs => p S' V.non e1 hh ok' (rep_non (G := ⟨K, ca⟩) (Z := S'.Z))
  | rt w h' => rw [q] at p; exact fun S' v e1 hh ok' r' => p S' v e1 hh ok' r'
  | bk ds h' => rw [q] at p; exact p.elim
  | ct ds h' => rw [q] at p; exact p.elim
  | er e ds h' => rw [q] at p; exact fun S' σ' cls d e1 hh ok' rs x => p S' cls d e1 hh ok' x
  | bad => rw [q] at p; exact p
end
/-- where what a callee raises goes -/
def Pas (X : Cx) (Wx : WX) : Prop := ∀ σ, PassesAt (L2.CX X.prog X.w) X σ (WE Wx σ)
def W0 : WX := fun _ _ _ _ => False
theorem pas_of {X : Cx} {Wx : WX} (tk : L2.Takes X Wx) : Pas X Wx := fun σ => passAt tk σ
section
variable {X : Cx} {ca : CT} {Wx : WX} {x : Str} {p pos : Pos} {e : Expr} {es : List Expr} {g : DS → DH → Rs (List Wv)} {k n : Nat} {f : Addr} {fd : FuncData} {ps : List Str} {Fd : List Wv → DH → Rs Wv}
/-- a def called with what may change -/
theorem pd_call (F : FnOk X.prog X.w X.K X.mg X.base (L2.CX X.prog X.w) k f fd ps (spD (gx X ca) n Fd)) (hr : Room k X.A) (hg : Gl X x) (hm : X.mg x = some (.ref f)) (hk : PySem.W.keepIn X.K (.ref f) = true) (hb : Binds X.K fd ps []) (hx : Pas X Wx) (hn : (e :: es).length = n)
    (ha : PDA X ca Wx (e :: es) g) (hgl : ∀ ds h ws h', g ds h = .ok ws h' → ws.length = n) (hdb : (x == ("__debug__" : Str)) = false := by decide) (he : starEach (e :: es) X.env = (false, eval e X.env) :: starEach es X.env := by rfl) (hpl : (backTo pos (starEach es X.env)).any (·.1) = false := by rfl) :
    PD X ca Wx (.Call (.Name x p) (e :: es) [] pos) (b1 g Fd) :=
  PE.imp (pe_callS F hr hg hm hk hb hx ha hdb he hpl) fun σ H Q z => by
    obtain ⟨S, ds, eH, ok, rs, pp⟩ := z
    refine ⟨S, ds, eH, ok, rs, ?_⟩
    unfold b1 at pp
    cases q : g ds S.h with
    | bad => rw [q] at pp; exact pp
    | er e h1 => rw [q] at pp; exact pp
    | ok ws h1 =>
      rw [q] at pp
      intro S1 vs e1 hh ok1 r
      subst hh
      refine ⟨by rw [← RepWs.length r, hgl _ _ _ _ q], S1, ws, rfl, ok1, r, ?_⟩
      have z := pp.later (RW.shift _) e1
      cases q2 : Fd ws S1.h with
      | ok a h2 => dsimp only at z; rw [q2] at z; exact z
      | er e h2 => dsimp only at z; rw [q2] at z; exact z
      | bad => dsimp only at z; rw [q2] at z; exact z
end
theorem len_nil : ∀ ds h ws h', eNil ds h = .ok ws h' → ws.length = 0 := fun ds h ws h' e => by cases e; rfl
theorem len_cons {f : DS → DH → Rs Wv} {g : DS → DH → Rs (List Wv)} {n : Nat} (hg : ∀ ds h ws h', g ds h = .ok ws h' → ws.length = n) : ∀ ds h ws h', eCons f g ds h = .ok ws h' → ws.length = n + 1 := fun ds h ws h' e => by
  unfold eCons b2 at e
  split at e
  · split at e
    · rename_i q2
      cases e
      rw [List.length_cons, hg _ _ _ _ q2]
    · cases e
    · cases e
  · cases e
  · cases e

/-! ### defs whose arguments are data: a world of their own -/
inductive Pv where
  | ok (x : Dv)
  | er (e : Dv)
  | bad
/-- data, or a list, a dict that was made within and is handed out -/
def frzW (w : Wv) (h : DH) : Option Dv := match w with
  | .d x => some x
  | .r n => (match h[n]? with
    | some o => o.frz
    | none => none)
/-- back from a world of its own -/
def Wd.back (S T : Wd) : Wd := ⟨T.Z, S.μ, T.H, S.h⟩
def Wd.own0 (S : Wd) : Wd := ⟨S.Z, S.μ, S.H, []⟩
theorem own0_no {S : Wd} {a : Addr} : ¬ Own S.own0 a := fun ⟨n, o, h, _⟩ => by
  have h' : ([] : DH)[n]? = some o := h
  simp at h'
theorem Ok.own0 {G : Ctx} {S : Wd} (ok : Ok G S) : Ok G S.own0 :=
  ⟨ok.sub, fun n o h => by
    have h' : ([] : DH)[n]? = some o := h
    simp at h', fun n o h => by
    have h' : ([] : DH)[n]? = some o := h
    simp at h', fun n m o p h => by
    have h' : ([] : DH)[n]? = some o := h
    simp at h', ok.bz, ok.tb⟩
theorem Ok.back {G : Ctx} {S T : Wd} (ok : Ok G S) (e : Ext S.own0 T) (okT : Ok G T) : Ext S (S.back T) ∧ Ok G (S.back T) := by
  have hz : ∀ a, (∃ o, S.H a = some o) → S.Z a = none → T.Z a = none := fun a ⟨o, ho⟩ h => by
    cases q : T.Z a with
    | none => rfl
    | some x =>
      rcases e.zn a x q with z | z | z
      · have z' : S.Z a = some x := z
        rw [h] at z'; cases z'
      · have z' : S.H a = none := z
        rw [ho] at z'; cases z'
      · exact absurd z own0_no
  refine ⟨⟨e.zz, fun _ _ => rfl, Nat.le_refl _, fun _ _ h _ => h, fun a o h _ => e.fr a o h own0_no, e.th, fun n o h q _ => absurd (List.getElem?_eq_some_iff.mp q).1 (Nat.not_lt.mpr h), fun a o h => ?_⟩, ⟨okT.sub, fun n o h => ?_, fun n o h l => ?_, ok.inj, okT.bz, okT.tb⟩⟩
  · rcases e.zn a o h with z | z | z
    · exact .inl z
    · exact .inr (.inl z)
    · exact absurd z own0_no
  · by_cases l : o.live = true
    · obtain ⟨u, hu, nu, _⟩ := (ok.obj n o h).hasN l
      exact OR.of_eq (S := S) (S' := S.back T) (h := ok.obj n o h) e.zz (fun _ _ => rfl) (Nat.le_refl _) ((e.frN hu own0_no nu).trans hu.symm)
    · exact (ok.obj n o h).dead (S' := S.back T) l e.zz (fun _ _ => rfl) (Nat.le_refl _)
  · exact hz _ ((ok.obj n o h).has l) (ok.sep n o h l)
section
variable {X : Cx} {ca : CT} {Wx : WX} {x : Str} {p pos : Pos} {e : Expr} {es : List Expr} {g : DS → DH → Rs (List Wv)} {k n : Nat} {f : Addr} {fd : FuncData} {ps : List Str} {Fd : List Wv → DH → Rs Wv}
end
end DL
namespace DL
open PySem PySem.Spec PyProof.Rows L2

/-! ### what is walked -/
theorem itr_list {G : Ctx} {S : Wd} {xs : List Dv} {a : Addr} {vs : List V} (h : SqL G.K S.Z a vs) (r : Reps G S.Z xs vs) : ItR G (Itl G.K a) S xs where
  go := fun T e ok i hi => by
    obtain ⟨v, h1, _⟩ := r.get (List.getElem?_eq_getElem hi)
    exact ⟨vs, v, ok.sqL (sqL_up e.zz h), h1⟩
  stop := fun T e ok i hi => ⟨vs, ok.sqL (sqL_up e.zz h), by rw [← r.length]; exact hi⟩
  yld := fun T e ok i x H' d hd y => by
    obtain ⟨rfl, hx⟩ := y
    obtain ⟨v, h1, h2⟩ := r.get hd
    have := hx vs (ok.sqL (sqL_up e.zz h))
    rw [h1] at this
    cases this
    exact ⟨T, rfl, rfl, Ext.refl T, ok, Rep.up e.zz h2⟩
theorem itr_tup {G : Ctx} {S : Wd} {xs : List Dv} {a : Addr} {vs : List V} (h : SqT G.K S.Z a vs) (r : Reps G S.Z xs vs) : ItR G (Itt G.K a) S xs where
  go := fun T e ok i hi => by
    obtain ⟨v, h1, _⟩ := r.get (List.getElem?_eq_getElem hi)
    exact ⟨vs, v, ok.sqT (sqT_up e.zz h), h1⟩
  stop := fun T e ok i hi => ⟨vs, ok.sqT (sqT_up e.zz h), by rw [← r.length]; exact hi⟩
  yld := fun T e ok i x H' d hd y => by
    obtain ⟨rfl, hx⟩ := y
    obtain ⟨v, h1, h2⟩ := r.get hd
    have := hx vs (ok.sqT (sqT_up e.zz h))
    rw [h1] at this
    cases this
    exact ⟨T, rfl, rfl, Ext.refl T, ok, Rep.up e.zz h2⟩
/-- lo, lo + 1, .. -/
def rng (lo : Int) (n : Nat) : List Dv := (List.range n).map fun i => .int (lo + (i : Nat))
theorem rng_length (lo : Int) (n : Nat) : (rng lo n).length = n := by simp [rng]
theorem rng_get {lo : Int} {n i : Nat} {d : Dv} (h : (rng lo n)[i]? = some d) : i < n ∧ d = .int (lo + (i : Nat)) := by
  unfold rng at h
  rw [List.getElem?_map] at h
  by_cases hi : i < n
  · rw [List.getElem?_range hi] at h
    simp at h
    exact ⟨hi, h.symm⟩
  · rw [List.getElem?_eq_none (by simpa using hi)] at h
    cases h
theorem itr_rng {G : Ctx} {S : Wd} {lo : Int} {n : Nat} : ItR G (Itr lo n) S (rng lo n) where
  go := fun T e ok i hi => by rw [rng_length] at hi; exact hi
  stop := fun T e ok i hi => by rw [rng_length] at hi; exact hi
  yld := fun T e ok i x H' d hd y => by
    obtain ⟨rfl, rfl⟩ := y
    obtain ⟨_, rfl⟩ := rng_get hd
    exact ⟨T, rfl, rfl, Ext.refl T, ok, rep_int⟩
/-- a list or a tuple that stays -/
def fixOf (w : Wv) : Option (List Dv) := match w with
  | .d (.tup xs) => some xs
  | .d (.lst xs) => some xs
  | .d (.scr xs) => some xs
  | _ => none
def itS (w : Wv) (h : DH) : Rs (List Dv) := match fixOf w with
  | some xs => .ok xs h
  | none => .bad
section
variable {X : Cx} {ca : CT} {Wx : WX} {tg e : Expr} {es : List Expr} {f : DS → DH → Rs Wv} {g : DS → DH → Rs (List Wv)} {pos p : Pos}
theorem PI.or {tg e : Expr} {t t' : TI} (h : PI X tg e t) (h' : PI X tg e t') : PI X tg e (fun σ H R => t σ H R ∨ t' σ H R) := ⟨fun pins s σ H Q I z => z.elim (h.run pins s σ H Q I) (h'.run pins s σ H Q I)⟩
theorem pdi_seq (he : PD X ca Wx e f) : PDI X ca Wx tg e (b1 f itS) := PI.imp (PI.or (pi_list he) (pi_tup he)) fun σ H Q z => by
  obtain ⟨S, ds, eH, ok, rs, pp⟩ := z
  cases q : f ds S.h with
  | bad => unfold b1 at pp; rw [q] at pp; exact pp.elim
  | er x h1 =>
    left
    refine ⟨S, ds, eH, ok, rs, ?_⟩
    unfold b1 at pp; rw [q] at pp; rw [q]; exact pp
  | ok w h1 =>
    unfold b1 at pp
    rw [q] at pp
    unfold itS at pp
    dsimp only at pp
    cases q2 : fixOf w with
    | none => rw [q2] at pp; exact pp.elim
    | some xs =>
      rw [q2] at pp
      unfold fixOf at q2
      split at q2
      · cases q2
        right
        refine ⟨S, ds, eH, ok, rs, ?_⟩
        rw [q]
        intro S1 v e1 hh ok1 r
        subst hh
        obtain ⟨a, vs, rfl, sq, rr⟩ := rw_tup r
        exact ⟨a, rfl, ⟨vs, ok1.sqT sq⟩, pp S1 (Itt X.K a) e1 rfl ok1 (itr_tup sq rr)⟩
      · cases q2
        left
        refine ⟨S, ds, eH, ok, rs, ?_⟩
        rw [q]
        intro S1 v e1 hh ok1 r
        subst hh
        obtain ⟨a, vs, rfl, sq, rr⟩ := rw_lst r
        exact ⟨a, rfl, ⟨vs, .inl (.inl (ok1.up1 sq fun _ z => by cases z))⟩, pp S1 (Itl X.K a) e1 rfl ok1 (itr_list (.inl (.inl sq)) rr)⟩
      · cases q2
        left
        refine ⟨S, ds, eH, ok, rs, ?_⟩
        rw [q]
        intro S1 v e1 hh ok1 r
        subst hh
        obtain ⟨a, vs, rfl, sq, rr⟩ := rw_scr r
        exact ⟨a, rfl, ⟨vs, ok1.sqL sq⟩, pp S1 (Itl X.K a) e1 rfl ok1 (itr_list sq rr)⟩
      · cases q2
end
end DL
/-! enumerate over a tuple -/
namespace PySem
namespace DLE
open PyProof.Rows
section
variable {prog : Program} {w : World} {A : Around} {E : Value → Shared → Prop} {s : Shared}
end
end DLE
end PySem
namespace DL
open PySem PySem.Spec PyProof.Rows L2
end DL
namespace DL
open PySem PySem.Spec PyProof.Rows L2

/-! ### enumerate, range -/
def enumD (xs : List Dv) : List Dv := xs.mapIdx fun i x => .tup [.int (i : Nat), x]
def itEn (ws : List Wv) (h : DH) : Rs (List Dv) := match ws with
  | [w] => (match fixOf w with
    | some xs => .ok (enumD xs) h
    | none => .bad)
  | _ => .bad
section
variable {X : Cx} {ca : CT} {Wx : WX} {tg e e2 : Expr} {es : List Expr} {f : DS → DH → Rs Wv} {g : DS → DH → Rs (List Wv)} {pos p tpos : Pos} {elts : List Expr} {kk : Nat}
/-- range of one, of two -/
def itRa (w : Wv) (h : DH) : Rs (List Dv) := match w with
  | .d (.int i) => if i.natAbs < 1000000000 then .ok (rng 0 i.toNat) h else .bad
  | _ => .bad
def itRb (w u : Wv) (h : DH) : Rs (List Dv) := match w, u with
  | .d (.int i), .d (.int j) => if i.natAbs < 1000000000 ∧ j.natAbs < 1000000000 then .ok (rng i (j - i).toNat) h else .bad
  | _, _ => .bad
theorem pdi_range1 (hg : Gl X "range") (hm : X.mg "range" = none) (ha : PD X ca Wx e f) (hs : starEach [e] X.env = [(false, eval e X.env)] := by rfl) : PDI X ca Wx tg (.Call (.Name "range" p) [e] [] pos) (b1 f itRa) :=
  PI.imp (pi_range1 hg hm (pa_cons ha pa_nil hs) hs) fun σ H Q z => by
    refine (b1_imp (R1 := RW (gx X ca)) z).mono ?_
    rintro v H1 ⟨S0, S, w, rfl, e1, eH, ok, r, q⟩
    unfold itRa at q
    split at q
    · rename_i i
      split at q
      · rename_i hb
        exact ⟨i, by rw [rw_int r], by omega, by omega, q S (Itr 0 i.toNat) e1 rfl ok itr_rng⟩
      · exact q.elim
    · exact q.elim
end

/-! ### targets of a comprehension: which slots they store -/
def tGi (G : Ctx) (Wx : WX) (is : List Nat) (g : Tg) : TG := fun v σ H Q => ∃ S ds w, S.H = H ∧ Ok G S ∧ RelS G S ds σ ∧ RepW G S w v ∧
  PostS G Wx S (g w ds S.h) ⟨fun σ' H' => (σ'.length = σ.length ∧ ∀ j : Nat, j ∉ is → σ'[j]? = σ[j]?) → Q σ' H', fun _ _ => False, fun _ _ => False, fun _ _ => False⟩
def PDGi (X : Cx) (ca : CT) (Wx : WX) (tg : Expr) (is : List Nat) (g : Tg) : Prop := PG X tg (tGi (gx X ca) Wx is g)
section
variable {X : Cx} {ca : CT} {Wx : WX} {pos : Pos}
theorem pdgi_name {i : Nat} {x : Str} (hN : X.N.Nodup) (hi : X.N[i]? = some x) (hx : Loc X.env.scope x) (hf : X.fn x = true ∨ X.env.scope.names.lookup x = some .local := by first | exact .inl rfl | exact .inr rfl | assumption) : PDGi X ca Wx (.Name x pos) [i] (gV i) :=
  PG.imp (pg_name hN hi hx hf) fun v σ H Q ⟨S, ds, w, eH, ok, rs, r, p⟩ => by
    subst eH
    refine p S _ (Ext.refl S) rfl ok (rs.set r i) ⟨List.length_set .., fun j hj => ?_⟩
    have : i ≠ j := fun z => hj (by simp [z])
    rw [List.getElem?_set_ne this]
end

/-! ### comprehensions -/
def wipeD (ds : DS) : List Nat → DS
  | [] => ds
  | v :: vs => (wipeD ds vs).set v none
theorem RelS.wipe {G : Ctx} {S : Wd} {ds : DS} {σ : L2.St} (h : RelS G S ds σ) : ∀ vs : List Nat, RelS G S (wipeD ds vs) (L2.wipe σ vs)
  | [] => h
  | v :: vs => (RelS.wipe h vs).clear v
theorem wipe_at {σ : L2.St} {j : Nat} : ∀ {vs : List Nat}, j ∈ vs → (L2.wipe σ vs)[j]? = if j < σ.length then some none else none
  | v :: vs, h => by
    show ((L2.wipe σ vs).set v none)[j]? = _
    by_cases e : v = j
    · subst e
      by_cases hl : v < σ.length
      · rw [if_pos hl, List.getElem?_set_self (by rw [wipe_length]; exact hl)]
      · rw [if_neg hl, List.getElem?_eq_none (by rw [List.length_set, wipe_length]; exact Nat.not_lt.mp hl)]
    · rw [List.getElem?_set_ne e]
      rcases List.mem_cons.mp h with z | z
      · exact absurd z.symm e
      · exact wipe_at z
theorem wipe_same {σ σ2 : L2.St} {vs is : List Nat} (hl : σ2.length = (L2.wipe σ vs).length) (hs : ∀ i ∈ is, i ∈ vs) (h : ∀ j : Nat, j ∉ is → σ2[j]? = (L2.wipe σ vs)[j]?) : L2.wipe σ2 vs = L2.wipe σ vs := by
  refine List.ext_getElem? fun j => ?_
  by_cases hj : j ∈ vs
  · rw [wipe_at hj, wipe_at hj, hl, wipe_length]
  · rw [wipe_out hj, h j fun z => hj (hs j z)]
/-- the items that a comprehension makes of those that it walks -/
def lcGo (g : Tg) (t : DS → DH → Rs Bool) (f : DS → DH → Rs Wv) (ds : DS) : List Dv → DH → Rs (List Dv)
  | [], h => .ok [] h
  | x :: r, h =>
    match g (.d x) ds h with
    | .nx ds1 h1 => (match t ds1 h1 with
      | .ok b h2 => if b = true then (match f ds1 h2 with
        | .ok w h3 => (match w with
          | .d y => (match lcGo g t f ds r h3 with
            | .ok ys h4 => .ok (y :: ys) h4
            | .er e h4 => .er e h4
            | .bad => .bad)
          | .r _ => .bad)
        | _ => .bad) else lcGo g t f ds r h2
      | _ => .bad)
    | _ => .bad
/-- the list of them -/
def lcAll (it : DS → DH → Rs (List Dv)) (own : List Nat) (g : Tg) (t : DS → DH → Rs Bool) (f : DS → DH → Rs Wv) : DS → DH → Rs (List Dv) := fun ds h =>
  match it ds h with
  | .ok xs h1 => if xs.length ≤ 1000000 then lcGo g t f (wipeD ds own) xs h1 else .bad
  | .er e h1 => .er e h1
  | .bad => .bad
def eLc (it : DS → DH → Rs (List Dv)) (own : List Nat) (g : Tg) (t : DS → DH → Rs Bool) (f : DS → DH → Rs Wv) : DS → DH → Rs DO := b1 (lcAll it own g t f) fun xs h => .ok (.lst xs) h
theorem lcGo_er {g : Tg} {t : DS → DH → Rs Bool} {f : DS → DH → Rs Wv} {ds : DS} : ∀ {xs : List Dv} {h h' : DH} {e : Dv}, lcGo g t f ds xs h ≠ .er e h'
  | [], h, h', e, z => by cases z
  | x :: r, h, h', e, z => by
    unfold lcGo at z
    split at z
    · split at z
      · split at z
        · split at z
          · split at z
            · split at z
              · cases z
              · rename_i q; exact lcGo_er q
              · cases z
            · cases z
          · cases z
        · exact lcGo_er z
      · cases z
    · cases z
/-- the list that is being made is changed -/
theorem Ok.poke {G : Ctx} {S T : Wd} {p : Addr} {o u : HO} (e : Ext S T) (ok : Ok G T) (hp : S.H p = none) (hT : T.H p = some u) (hz : T.Z p = none) (hn : ¬ Own T p) (hu : (∀ ps, u ≠ .tbl ps) ∧ ∀ φ, u ≠ .ext φ := by exact ⟨fun _ z => (by cases z), fun _ z => (by cases z)⟩) : Ext S { T with H := upd T.H p o } ∧ Ok G { T with H := upd T.H p o } := by
  have tb : ∀ P q, LamX.TabS T.H P q → LamX.TabS (upd T.H p o) P q := fun P q t => tab_step t fun b x h hx => by
    have : b ≠ p := fun z => by
      rw [z, hT] at h
      cases h
      rcases hx with ⟨ps, e⟩ | ⟨φ, e⟩
      · exact hu.1 ps e
      · exact hu.2 φ e
    rw [upd_ne this]; exact h
  refine ⟨⟨e.zz, e.mm, e.ln, e.gn, fun a x h hn' => ?_, fun a x h => ?_, e.nw, e.zn⟩, ⟨fun a x h => ?_, fun n x h => ?_, ok.sep, ok.inj, ok.bz, fun x hx => tb _ _ (ok.tb x hx)⟩⟩
  · have : a ≠ p := fun z => by rw [z, hp] at h; cases h
    show upd T.H p o a = some x ∨ ∃ ps ps', x = HO.tbl ps ∧ upd T.H p o a = some (.tbl ps')
    rw [upd_ne this]; exact e.fr a x h hn'
  · have : a ≠ p := fun z => by rw [z, hp] at h; cases h
    obtain ⟨y, hy⟩ := e.th a x h
    exact ⟨y, by show upd T.H p o a = some y; rw [upd_ne this]; exact hy⟩
  · have : a ≠ p := fun z => by rw [z, hz] at h; cases h
    rcases ok.sub a x h with z | ⟨kv, ob, e', z⟩ | ⟨ps, ps', e', z⟩
    · left; show upd T.H p o a = some x; rw [upd_ne this]; exact z
    · right; left; exact ⟨kv, ob, e', by show upd T.H p o a = _; rw [upd_ne this]; exact z⟩
    · right; right; exact ⟨ps, ps', e', by show upd T.H p o a = _; rw [upd_ne this]; exact z⟩
  · by_cases l : x.live = true
    · have : T.μ n ≠ p := fun z => hn ⟨n, x, h, l, z⟩
      exact OR.of_eq (S := T) (S' := { T with H := upd T.H p o }) (h := ok.obj n x h) (ZLe.refl _) (fun _ _ => rfl) (Nat.le_refl _) (upd_ne this)
    · exact (ok.obj n x h).dead (S' := { T with H := upd T.H p o }) l (ZLe.refl _) (fun _ _ => rfl) (Nat.le_refl _)
section
variable {X : Cx} {ca : CT} {Wx : WX}
/-- the reading of a comprehension -/
theorem lc_post {it : DS → DH → Rs (List Dv)} {own : List (Str × Nat)} {is : List Nat} {g : Tg} {t : DS → DH → Rs Bool} {f : DS → DH → Rs Wv} (hs : ∀ i ∈ is, i ∈ own.map (·.2)) {σ : L2.St} {H : Hp} {Q : VK} (z : tE (gx X ca) Wx (RF (gx X ca)) (eLc it (own.map (·.2)) g t f) σ H Q) :
    tLc (tI (gx X ca) Wx it) (tGi (gx X ca) W0 is g) (tE (gx X ca) W0 RB t) (tE (gx X ca) W0 (RW (gx X ca)) f) (own.map (·.2)) σ H Q := by
  obtain ⟨S, ds, eH, ok, rs, p⟩ := z
  refine ⟨S, ds, eH, ok, rs, ?_⟩
  unfold eLc b1 lcAll at p
  cases q : it ds S.h with
  | bad => rw [q] at p; exact p
  | er e h1 => rw [q] at p; exact p
  | ok xs h1 =>
    rw [q] at p
    dsimp only at p
    intro S1 J e1 hh ok1 itr
    subst hh
    by_cases hlen : xs.length ≤ 1000000
    · rw [if_pos hlen] at p
      intro D hD
      have hDS : S.H D = none := e1.none hD
      obtain ⟨e2, ok2⟩ := ok1.raw (o := .lst []) hD
      -- what stands between two turns
      refine ⟨fun i m H => ∃ T acc vs, T.H = H ∧ Ext S1 T ∧ Ok (gx X ca) T ∧ T.H D = some (.lst vs) ∧ Reps (gx X ca) T.Z acc vs ∧ T.Z D = none ∧ ¬ Own T D ∧ acc.length ≤ i ∧ m = xs.length - i ∧ i ≤ xs.length ∧
        PostE (gx X ca) Wx (RF (gx X ca)) S σ (match lcGo g t f (wipeD ds (own.map (·.2))) (xs.drop i) T.h with | .ok ys h' => Rs.ok (DO.lst (acc ++ ys)) h' | .er e h' => .er e h' | .bad => .bad) Q,
        ⟨xs.length, S1.raw D (.lst []), [], [], rfl, e2, ok2, upd_same, reps_nil.mpr rfl, ok1.z hD, fun z => ok1.free hD z, Nat.zero_le _, rfl, Nat.zero_le _, ?_⟩, ?_⟩
      · show PostE _ _ _ _ _ (match lcGo g t f (wipeD ds (own.map (·.2))) xs S1.h with | .ok ys h' => Rs.ok (DO.lst ([] ++ ys)) h' | .er e h' => .er e h' | .bad => .bad) Q
        cases q2 : lcGo g t f (wipeD ds (own.map (·.2))) xs S1.h with
        | ok ys h' => rw [q2] at p; exact p
        | er e h' => exact absurd q2 lcGo_er
        | bad => rw [q2] at p; exact p
      · rintro i m H ⟨T, acc, vs, rfl, eT, okT, hTD, rT, zT, nT, la, rfl, hi, pT⟩
        by_cases hlt : i < xs.length
        · refine .inr ⟨itr.go T eT okT i hlt, ?_⟩
          cases qd : xs.drop i with
          | nil =>
            have := congrArg List.length qd
            rw [List.length_drop] at this
            simp at this
            omega
          | cons x r =>
            obtain ⟨hx, hr⟩ := drop_get xs i x r qd
            rw [qd] at pT
            unfold lcGo at pT
            refine ⟨fun H' => ∃ T' acc' vs', T'.H = H' ∧ Ext S1 T' ∧ Ok (gx X ca) T' ∧ T'.H D = some (.lst vs') ∧ Reps (gx X ca) T'.Z acc' vs' ∧ T'.Z D = none ∧ ¬ Own T' D ∧ acc'.length ≤ i + 1 ∧
              PostE (gx X ca) Wx (RF (gx X ca)) S σ (match lcGo g t f (wipeD ds (own.map (·.2))) r T'.h with | .ok ys h' => Rs.ok (DO.lst (acc' ++ ys)) h' | .er e h' => .er e h' | .bad => .bad) Q, ?_, ?_⟩
            · rintro H' ⟨T', acc', vs', a1, a2, a3, a4, a5, a6, a7, a8, a9⟩
              exact ⟨xs.length - (i + 1), by omega, T', acc', vs', a1, a2, a3, a4, a5, a6, a7, a8, rfl, hlt, by rw [hr]; exact a9⟩
            · intro v H' y
              obtain ⟨T2, rfl, h2, e3, ok3, r2⟩ := itr.yld T eT okT i v H' x hx y
              -- the list stays as it was through a step
              have stays : ∀ {T' : Wd}, Ext T T' → T'.H D = some (.lst vs) ∧ T'.Z D = none ∧ ¬ Own T' D := fun {T'} e => by
                refine ⟨e.frN hTD nT (fun _ z => by cases z), ?_, fun z => ?_⟩
                · cases qz : T'.Z D with
                  | none => rfl
                  | some o =>
                    rcases e.zn D o qz with z | z | z
                    · rw [zT] at z; cases z
                    · rw [hTD] at z; cases z
                    · exact absurd z nT
                · rcases e.own z with z | z
                  · exact nT z
                  · rw [hTD] at z; cases z
              have rsw := ((rs.up e1).up (eT.trans e3)).wipe (own.map (·.2))
              refine ⟨T2, wipeD ds (own.map (·.2)), .d x, rfl, ok3, rsw, r2, ?_⟩
              rw [h2]
              cases q3 : g (.d x) (wipeD ds (own.map (·.2))) T.h with
              | nx ds1 h1 =>
                rw [q3] at pT
                dsimp only at pT
                intro T3 σ3 e4 hh4 ok4 rs4 hj
                subst hh4
                refine ⟨wipe_same hj.1 hs hj.2, T3, ds1, rfl, ok4, rs4, ?_⟩
                have e34 := e3.trans e4
                cases q4 : t ds1 T3.h with
                | bad => rw [q4] at pT; exact pT.elim
                | er x h' => rw [q4] at pT; exact pT.elim
                | ok b h5 =>
                  rw [q4] at pT
                  dsimp only at pT
                  intro T4 b' e5 hh5 ok5 rb
                  have rb' : b = b' := rb
                  subst rb'
                  subst hh5
                  have e35 := e34.trans e5
                  cases b with
                  | false =>
                    rw [if_neg Bool.false_ne_true] at pT ⊢
                    obtain ⟨s1, s2, s3⟩ := stays e35
                    exact ⟨T4, acc, vs, rfl, eT.trans e35, ok5, s1, Reps.up e35.zz rT, s2, s3, Nat.le_succ_of_le la, pT⟩
                  | true =>
                    rw [if_pos rfl] at pT ⊢
                    refine ⟨T4, ds1, rfl, ok5, rs4.up e5, ?_⟩
                    cases q5 : f ds1 T4.h with
                    | bad => rw [q5] at pT; exact pT.elim
                    | er x h' => rw [q5] at pT; exact pT.elim
                    | ok w h6 =>
                      rw [q5] at pT
                      dsimp only at pT
                      intro T5 u e6 hh6 ok6 ru
                      subst hh6
                      have e36 := e35.trans e6
                      obtain ⟨s1, s2, s3⟩ := stays e36
                      cases w with
                      | r k => exact pT.elim
                      | d yd =>
                        dsimp only at pT
                        have ll : vs.length < sizeLine := by
                          have := rT.length
                          have := lim_le
                          omega
                        refine ⟨vs, s1, ll, ?_⟩
                        obtain ⟨e7, ok7⟩ := Ok.poke (S := S1) (o := .lst (vs ++ [u])) (eT.trans e36) ok6 hD s1 s2 s3
                        refine ⟨{ T5 with H := upd T5.H D (.lst (vs ++ [u])) }, acc ++ [yd], vs ++ [u], rfl, e7, ok7, upd_same, (Reps.up e36.zz rT).append (reps_cons' ru (reps_nil.mpr rfl)), s2, s3, by rw [List.length_append]; simp; omega, ?_⟩
                        show PostE _ _ _ _ _ (match lcGo g t f (wipeD ds (own.map (·.2))) r T5.h with | .ok ys h' => Rs.ok (DO.lst ((acc ++ [yd]) ++ ys)) h' | .er e h' => .er e h' | .bad => .bad) Q
                        cases q6 : lcGo g t f (wipeD ds (own.map (·.2))) r T5.h with
                        | ok ys h' => rw [q6] at pT; dsimp only at pT ⊢; rw [List.append_assoc]; exact pT
                        | er x h' => exact absurd q6 lcGo_er
                        | bad => rw [q6] at pT; exact pT
              | rt w h' => rw [q3] at pT; exact pT.elim
              | bk ds' h' => rw [q3] at pT; exact pT.elim
              | ct ds' h' => rw [q3] at pT; exact pT.elim
              | er x ds' h' => rw [q3] at pT; exact pT.elim
              | bad => rw [q3] at pT; exact pT.elim
        · have ei : i = xs.length := by omega
          subst ei
          refine .inl ⟨itr.stop T eT okT _ (Nat.le_refl _), ?_⟩
          rw [List.drop_length] at pT
          unfold lcGo at pT
          dsimp only at pT
          rw [List.append_nil] at pT
          exact pT T (.ref D) (e1.trans eT) rfl okT ⟨D, rfl, ⟨vs, hTD, rT⟩, hDS, zT, nT⟩
    · rw [if_neg hlen] at p; exact p.elim
theorem pf_lc {elt tg iter : Expr} {ifs : List Expr} {scope : Scope} {own : List (Str × Nat)} {is : List Nat} {pos : Pos} {it : DS → DH → Rs (List Dv)} {g : Tg} {t : DS → DH → Rs Bool} {f : DS → DH → Rs Wv} (hs : ∀ i ∈ is, i ∈ own.map (·.2)) (hc : X.calm = true) (hN : X.N.Nodup) (hi : PDI X ca Wx tg iter it) (ok : BlkOk X.N X.env.scope scope own)
    (hg : ∀ (s : Shared) (H : Hp) (C : Addr) (cl : List (Str × Addr)) (fp : List Addr), PDGi (X.blk s H scope (compEnvC scope cl C X.env) fp) ca W0 tg is g) (ht : ∀ (s : Shared) (H : Hp) (C : Addr) (cl : List (Str × Addr)) (fp : List Addr), PTs (X.blk s H scope (compEnvC scope cl C X.env) fp) ifs (tE (gx X ca) W0 RB t))
    (he : ∀ (s : Shared) (H : Hp) (C : Addr) (cl : List (Str × Addr)) (fp : List Addr), PD (X.blk s H scope (compEnvC scope cl C X.env) fp) ca W0 elt f) (hfs : ∀ x, foldedSetIterable iter X.env x = pure x := by intro _; rfl) :
    PF X ca Wx (.ListComp elt [⟨tg, iter, ifs, 0⟩] scope pos) (eLc it (own.map (·.2)) g t f) :=
  PE.imp (pe_lc (g := tGi (gx X ca) W0 is g) (tt := tE (gx X ca) W0 RB t) (te := tE (gx X ca) W0 (RW (gx X ca)) f) hc hN hi ok hg ht he hfs) fun σ H Q z => lc_post hs z
def tYes' : DS → DH → Rs Bool := fun _ h => .ok true h
theorem pts_no : PTs X [] (tE (gx X ca) W0 RB tYes') := ⟨fun pins s σ H Q I ⟨S, ds, eH, ok, rs, p⟩ => by
  subst eH
  exact pts_nil.run pins s σ S.H Q I (p S true (Ext.refl S) rfl ok rfl)⟩
end
end DL
namespace DL
open PySem PySem.Spec PyProof.Rows L2

/-! ### repr -/
def pyk : Key → PyData
  | .inl i => .int i
  | .inr x => .str x
mutual
def pyr : Dv → PyData
  | .non => .none
  | .bl b => .bool b
  | .int i => .int i
  | .str x => .str x
  | .tup xs => .tuple (pyrs xs)
  | .lst xs => .list (pyrs xs)
  | .scr xs => .list (pyrs xs)
  | .dct ks xs => .dict ((ks.map pyk).zip (pyrs xs))
  | .ins _ _ => .none
  | .exc _ _ => .none
  | .fn _ => .none
def pyrs : List Dv → List PyData
  | [] => []
  | x :: xs => pyr x :: pyrs xs
end
mutual
/-- no instance in it -/
def noI : Dv → Bool
  | .tup xs => noIs xs
  | .lst xs => noIs xs
  | .scr xs => noIs xs
  | .dct _ xs => noIs xs
  | .ins _ _ => false
  | .exc _ _ => false
  | .fn _ => false
  | _ => true
def noIs : List Dv → Bool
  | [] => true
  | x :: xs => noI x && noIs xs
end
mutual
/-- no list in it -/
def noL : Dv → Bool
  | .tup xs => noLs xs
  | .lst _ => false
  | .scr _ => false
  | .dct _ xs => noLs xs
  | _ => true
def noLs : List Dv → Bool
  | [] => true
  | x :: xs => noL x && noLs xs
end
theorem pyrs_len : ∀ xs : List Dv, (pyrs xs).length = xs.length
  | [] => by simp [pyrs]
  | x :: xs => by simp [pyrs, pyrs_len xs]
section
variable {P : Program} {w : World}
theorem pairs_vals : ∀ {es : List DictEntry} {kv : List (Key × V)} {vs : List (Key × Value)}, Pairs (mixKind P w) es vs → KV kv vs → Vals (kv.map (·.2)) (es.map (·.val)) := fun {es kv vs} hp => by
  induction hp generalizing kv with
  | nil => intro k; cases k; exact .nil
  | @cons e q es vs h1 h2 _ ih =>
    intro k
    cases k with
    | cons a b =>
      refine .cons ?_ (ih b)
      show L2.RelV _ e.val
      rw [h2]
      exact a.2
theorem pairs_keys {h : Heap} : ∀ {es : List DictEntry} {kv : List (Key × V)} {vs : List (Key × Value)}, Pairs (mixKind P w) es vs → KV kv vs → ReadsAll h (es.map (·.key)) ((kv.map (·.1)).map pyk) [] := fun {es kv vs} hp => by
  induction hp generalizing kv with
  | nil => intro k; cases k; exact .nil
  | @cons e q es vs h1 h2 _ ih =>
    intro k
    cases k with
    | @cons p _ ps _ a b =>
      have z : Reads h e.key (pyk p.1) [] := by
        have h1' : keyIs q.1 e.key = true := h1
        rw [← a.1] at h1'
        rcases keyIs_shape h1' with ⟨i, t, e1, e2⟩ | ⟨x, t, e1, e2⟩
        · rw [e1, e2]; exact .int i t
        · rw [e1, e2]; exact .str x t
      have z2 := ReadsAll.cons z (ih b)
      exact z2
end
/-- where the modules are kept lies a dict -/
def SysD (h : Heap) : Prop := ∃ ob es ep, h.get? sysModules = some ob ∧ ob.data = .dict es ep
theorem SysD.no {h : Heap} (x : SysD h) {a : Addr} {o : Obj} {its : Array Value} {n : Nat} (e : h.get? a = some o) (hd : o.data = .seq its n) : a ≠ sysModules := fun z => by
  obtain ⟨ob, es, ep, h1, h2⟩ := x
  rw [z, h1] at e
  cases e
  rw [h2] at hd
  cases hd
/-- .. and that is known of -/
def SysH (K : PySem.W.Frag) (H : Hp) : Prop := (∃ ob u es ep, H sysModules = some (.frz ob u) ∧ ob.data = .dict es ep) ∨ ∃ ob es ep, K.lookup sysModules = some ob ∧ ob.data = .dict es ep
theorem SysH.at {X : Cx} {pins : List (Addr × Obj)} {σ : L2.St} {H : Hp} {s : Shared} (x : SysH X.K X.H_0) (I : Inv X pins σ H s) : SysH X.K H := by
  rcases x with ⟨ob, u, es, ep, h1, h2⟩ | h
  · exact .inl ⟨ob, u, es, ep, I.base.frzs _ _ _ h1, h2⟩
  · exact .inr h
theorem SysH.d {X : Cx} {pins : List (Addr × Obj)} {σ : L2.St} {H : Hp} {s : Shared} (x : SysH X.K X.H_0) (I : Inv X pins σ H s) : SysD s.heap := by
  rcases x.at I with ⟨ob, u, es, ep, h1, h2⟩ | ⟨ob, es, ep, h1, h2⟩
  · exact ⟨ob, es, ep, (show ObjOk X.prog X.w H s.heap _ (.frz ob u) from I.hok _ _ h1).1, h2⟩
  · exact ⟨ob, es, ep, I.kIn _ _ h1, h2⟩
/-- no guard stands around, and the modules' dict is known of -/
def HG (K : PySem.W.Frag) (A : Around) (H : Hp) : Prop := A.guards = some [] ∧ SysH K H
section
variable {X : Cx} {ca : CT} {pins : List (Addr × Obj)} {σ : L2.St} {S : Wd} {s : Shared}
mutual
theorem rep_reads (I : Inv X pins σ S.H s) (ok : Ok (gx X ca) S) (hs : SysD s.heap) : ∀ (d : Dv) (v : V) (u : Value), noI d = true → Rep (gx X ca) S.Z d v → RelV v u → ∃ as, Reads s.heap u (pyr d) as ∧ sysModules ∉ as
  | .non, v, u, _, r, e => by
    rw [rep_n.mp r] at e
    cases (show u = Value.none from e)
    exact ⟨[], by simp only [pyr]; exact .none, fun h => by cases h⟩
  | .bl b, v, u, _, r, e => by
    rw [rep_b.mp r] at e
    cases (show u = Value.bool b from e)
    exact ⟨[], by simp only [pyr]; exact .bool b, fun h => by cases h⟩
  | .int i, v, u, _, r, e => by
    rw [rep_i.mp r] at e
    obtain ⟨t, rfl⟩ := e
    exact ⟨[], by simp only [pyr]; exact .int i t, fun h => by cases h⟩
  | .str i, v, u, _, r, e => by
    rw [rep_s.mp r] at e
    obtain ⟨t, rfl⟩ := e
    exact ⟨[], by simp only [pyr]; exact .str i t, fun h => by cases h⟩
  | .tup xs, v, u, n, r, e => by
    obtain ⟨a, vs, rfl, q, rs⟩ := rep_tup.mp r
    cases (show u = Value.ref a from e)
    obtain ⟨its, rv, ⟨o, ho, hc, k, hd⟩, _⟩ := I.tuple (ok.sqT q)
    obtain ⟨as, h1, h2⟩ := reps_reads I ok hs xs vs its (by simpa [noI] using n) rs rv
    refine ⟨as, by simp only [pyr]; exact .tuple ho hc hd h1, h2⟩
  | .lst xs, v, u, n, r, e => by
    obtain ⟨a, vs, rfl, q, rs⟩ := rep_lst.mp r
    cases (show u = Value.ref a from e)
    obtain ⟨its, rv, ⟨o, k, ho, hc, _, hd⟩, _⟩ := I.list (SqL.of (K := X.K) (ok.up1 q fun _ z => by cases z))
    obtain ⟨as, h1, h2⟩ := reps_reads I ok hs xs vs its (by simpa [noI] using n) rs rv
    refine ⟨a :: as, by simp only [pyr]; exact .list ho hc hd h1, fun hm => (List.mem_cons.mp hm).elim (fun e => hs.no ho hd e.symm) h2⟩
  | .scr xs, v, u, n, r, e => by
    obtain ⟨a, vs, rfl, q, rs⟩ := rep_scr.mp r
    cases (show u = Value.ref a from e)
    obtain ⟨its, rv, ⟨o, k, ho, hc, _, hd⟩, _⟩ := I.list (ok.sqL q)
    obtain ⟨as, h1, h2⟩ := reps_reads I ok hs xs vs its (by simpa [noI] using n) rs rv
    refine ⟨a :: as, by simp only [pyr]; exact .list ho hc hd h1, fun hm => (List.mem_cons.mp hm).elim (fun e => hs.no ho hd e.symm) h2⟩
  | .dct ks xs, v, u, n, r, e => by
    obtain ⟨a, kv, rfl, q, rfl, rs⟩ := rep_dct.mp r
    cases (show u = Value.ref a from e)
    have x : ObjOk X.prog X.w S.H s.heap a (.dK kv) := by
      rcases ok.rdK q with z | ⟨ob, z⟩
      · exact I.hok a _ z
      · exact (show ObjOk X.prog X.w S.H s.heap a (.frz ob (.dK kv)) from I.hok a _ z).2
    obtain ⟨_, hy, vs, hkv, o, es, ep, ho, hx, hd, _, hp, _⟩ := x
    obtain ⟨as, h1, h2⟩ := reps_reads I ok hs xs _ _ (by simpa [noI] using n) rs (pairs_vals hp hkv)
    have hl : ((kv.map (·.1)).map pyk).length = (pyrs xs).length := by
      rw [pyrs_len, rs.length]; simp
    refine ⟨a :: [] ++ as, ?_, fun hm => ?_⟩
    · simp only [pyr]
      refine .dict ho hx.1 hd ?_ ?_
      · rw [List.map_fst_zip (Nat.le_of_eq hl)]
        exact pairs_keys hp hkv
      · rw [List.map_snd_zip (Nat.le_of_eq hl.symm)]
        exact h1
    · rcases List.mem_cons.mp (show sysModules ∈ a :: as from hm) with h | h
      · rw [h] at hy; simp at hy
      · exact h2 h
  | .ins _ _, v, u, n, r, e => by simp [noI] at n
  | .exc _ _, v, u, n, r, e => by simp [noI] at n
  | .fn _, v, u, n, r, e => by simp [noI] at n
theorem reps_reads (I : Inv X pins σ S.H s) (ok : Ok (gx X ca) S) (hs : SysD s.heap) : ∀ (ds : List Dv) (vs : List V) (us : List Value), noIs ds = true → Reps (gx X ca) S.Z ds vs → Vals vs us → ∃ as, ReadsAll s.heap us (pyrs ds) as ∧ sysModules ∉ as
  | [], vs, us, _, r, e => by
    rw [reps_nil.mp r] at e
    cases e
    exact ⟨[], by simp only [pyrs]; exact .nil, fun h => by cases h⟩
  | d :: ds, vs, us, n, r, e => by
    obtain ⟨v, t, rfl, p, q⟩ := reps_cons.mp r
    cases e with
    | cons e1 e2 =>
      have n' : noI d = true ∧ noIs ds = true := by simpa [noIs] using n
      obtain ⟨as, h1, h2⟩ := rep_reads I ok hs d v _ n'.1 p e1
      obtain ⟨bs, h3, h4⟩ := reps_reads I ok hs ds t _ n'.2 q e2
      refine ⟨as ++ bs, by simp only [pyrs]; exact .cons h1 h3, fun hm => ?_⟩
      rcases List.mem_append.mp hm with h | h
      · exact h2 h
      · exact h4 h
end
end
/-- what repr tells -/
def reprD (x : Dv) : Option Str := if noI x = true ∧ (pyr x).showable = true ∧ (pyr x).depth ≤ 60 ∧ (pyr x).shown.length ≤ 1000000 then some (pyr x).shown else none
def rRepr (G : Ctx) : List V → Hp → VK → Prop := fun xs H Q => ∃ S w v x t, S.H = H ∧ Ok G S ∧ xs = [v] ∧ RepW G S w v ∧ frzW w S.h = some x ∧ reprD x = some t ∧ Q (.str t) H
theorem snap_reads {X : Cx} {ca : CT} {pins : List (Addr × Obj)} {σ : L2.St} {S : Wd} {s : Shared} (I : Inv X pins σ S.H s) (ok : Ok (gx X ca) S) (hs : SysD s.heap) {w : Wv} {v : V} {u : Value} {x : Dv} (hn : noI x = true) (hx : frzW w S.h = some x) (r : RepW (gx X ca) S w v) (e : RelV v u) :
    (∃ as, Reads s.heap u (pyr x) as ∧ sysModules ∉ as) ∧ ((∃ n, w = .r n) → ∃ a, u = .ref a) := by
  cases w with
  | d y =>
    cases hx
    exact ⟨rep_reads I ok hs _ v u hn r e, fun ⟨n, z⟩ => by cases z⟩
  | r n =>
    have hv : v = V.ref (S.μ n) := r.2
    subst hv
    cases (show u = Value.ref (S.μ n) from e)
    refine ⟨?_, fun _ => ⟨_, rfl⟩⟩
    unfold frzW at hx
    dsimp only at hx
    cases q : S.h[n]? with
    | none => rw [q] at hx; cases hx
    | some o =>
      rw [q] at hx
      dsimp only at hx
      have z := ok.obj n o q
      cases o with
      | lst xs =>
        cases hx
        obtain ⟨vs, q2, rs⟩ := z
        obtain ⟨its, rv, ⟨o, k, ho, hc, _, hd⟩, _⟩ := I.list (SqL.of (K := X.K) q2)
        obtain ⟨as, h1, h2⟩ := reps_reads I ok hs xs vs its (by simpa [noI] using hn) rs rv
        exact ⟨_ :: as, by simp only [pyr]; exact .list ho hc hd h1, fun hm => (List.mem_cons.mp hm).elim (fun e => hs.no ho hd e.symm) h2⟩
      | dct kvs =>
        cases hx
        obtain ⟨kv, q2, hk, rs⟩ := z
        obtain ⟨_, hy, vs, hkv, o, es, ep, ho, hxd, hd, _, hp, _⟩ := (show ObjOk X.prog X.w S.H s.heap _ (.dK kv) from I.hok _ _ q2)
        obtain ⟨as, h1, h2⟩ := reps_reads I ok hs _ _ _ (by simpa [noI] using hn) rs (pairs_vals hp hkv)
        have hl : ((kvs.map (·.1)).map pyk).length = (pyrs (kvs.map (·.2))).length := by
          rw [pyrs_len]; simp
        refine ⟨S.μ n :: [] ++ as, ?_, fun hm => ?_⟩
        · simp only [pyr]
          refine .dict ho hxd.1 hd ?_ ?_
          · rw [List.map_fst_zip (Nat.le_of_eq hl), ← hk]
            exact pairs_keys hp hkv
          · rw [List.map_snd_zip (Nat.le_of_eq hl.symm)]
            exact h1
        · rcases List.mem_cons.mp (show sysModules ∈ S.μ n :: as from hm) with h | h
          · rw [← h] at hy; simp at hy
          · exact h2 h
      | ins c ws => cases hx
      | box k ws => cases hx
      | gone => cases hx
theorem call_reprD {X : Cx} {ca : CT} (hg : HG X.K X.A X.H_0) (hu : X.A.units + 64 < cLine) : CallR X (.builtin "repr") (rRepr (gx X ca)) := by
  intro pins s σ H xs us Q I r h
  obtain ⟨S, w, v, x, t, rfl, ok, rfl, rw_, hx, ht, q⟩ := h
  obtain ⟨u, rfl, e⟩ := vals1 r
  unfold reprD at ht
  split at ht
  · rename_i hc
    obtain ⟨c1, c3, c4, c5⟩ := hc
    cases ht
    obtain ⟨⟨as, rd, hsm⟩, hr⟩ := snap_reads I ok (hg.2.d I) c1 hx rw_ e
    have fin : ∀ (a : Addr), u = .ref a → wpAny (model X.prog X.w) X.A (call (.builtin "repr") [u]) (EP X pins σ Q) X.xe s := fun a ea => by
      subst ea
      exact repr_of_reads' rd c3 (fun _ => hsm) hg.1 (by omega) (fun _ _ z => z) (fun h' u tk hk => ⟨.str _, S.H, I.kept hk, ⟨_, rfl⟩, q⟩) (le_line c5)
    cases w with
    | r n => obtain ⟨a, ea⟩ := hr ⟨n, rfl⟩; exact fin a ea
    | d y =>
      cases hx
      have rw' : Rep (gx X ca) S.Z x v := rw_
      cases x with
      | non =>
        rw [rep_n.mp rw'] at e
        cases (show u = Value.none from e)
        exact PySem.P.repr_of_none ⟨.str _, S.H, I.tok _, ⟨_, rfl⟩, by simpa only [pyr, PyData.shown] using q⟩
      | bl b =>
        rw [rep_b.mp rw'] at e
        cases (show u = Value.bool b from e)
        exact PySem.P.repr_of_bool ⟨.str _, S.H, I.tok _, ⟨_, rfl⟩, by simpa only [pyr, PyData.shown] using q⟩
      | int i =>
        rw [rep_i.mp rw'] at e
        obtain ⟨t, rfl⟩ := e
        exact PySem.P.repr_of_int (by simpa [pyr, PyData.showable] using c3) ⟨.str _, S.H, I.tok _, ⟨_, rfl⟩, by simpa only [pyr, PyData.shown] using q⟩
      | str z =>
        rw [rep_s.mp rw'] at e
        obtain ⟨t, rfl⟩ := e
        exact PySem.P.repr_of_str ⟨.str _, S.H, I.tok _, ⟨_, rfl⟩, by simpa only [pyr, PyData.shown] using q⟩ (by simpa only [pyr, PyData.shown] using le_line c5)
      | tup xs => obtain ⟨a, vs, rfl, _, _⟩ := rep_tup.mp rw'; exact fin a e
      | lst xs => obtain ⟨a, vs, rfl, _, _⟩ := rep_lst.mp rw'; exact fin a e
      | scr xs => obtain ⟨a, vs, rfl, _, _⟩ := rep_scr.mp rw'; exact fin a e
      | dct ks xs => obtain ⟨a, vs, rfl, _, _⟩ := rep_dct.mp rw'; exact fin a e
      | ins c xs => simp [noI] at c1
      | exc c xs => simp [noI] at c1
      | fn a => simp [noI] at c1
  · cases ht
end DL
namespace DL
open PySem PySem.Spec PyProof.Rows L2

/-! ### defs that use repr: no guard stands around them -/
structure FnG (P : Program) (w : World) (K : PySem.W.Frag) (mg : Str → Option Value) (base : Heap) (k : Nat) (f : Addr) (fd : FuncData) (ps : List Str) (sp : Sp) : Prop where
  ln : ∀ vs H Q E, sp vs H Q E → vs.length = ps.length
  go : ∀ (A : Around) (outer : List Env) (s : Shared) (H : Hp) (args : Args) (us : List Value) (vs : List V) (Q : VK) (E : XK),
    Room k A → HG K A H → Env0 P w K mg base A outer s H → BindsTo s fd args (ps.zip us) → Vals vs us → sp vs H Q E → codeAny (model P w) A (.call (.ref f) args) (CR (L2.CX P w) outer P w H s Q E) s
section
variable {P : Program} {w : World} {K : PySem.W.Frag} {mg : Str → Option Value} {base : Heap}
theorem def_okGc {x qual : Str} {st : Stmt} {f : Addr} {fd : FuncData} {N ps : List Str} {k : Nat} {ca : CT} {B : Sm} (F : Fun K x qual st f fd) (S : FnScope N ps (defScope st))
    (hb : ∀ (cdv : Value), fd.code = cdv → ∀ (A : Around) (outer : List Env) (s : Shared) (H : Hp) (E : XK), Room k (A.deeper (envOfC qual (defScope st) s.heap.objs.size f cdv)) → HG K (A.deeper (envOfC qual (defScope st) s.heap.objs.size f cdv)) H →
      PDSs (cxOf (L2.CX P w) P w K mg base N qual (defScope st) f cdv A outer s H E) ca (wxE E) (defBody st) B) :
    FnG P w K mg base (k + 1) f fd ps (spD ⟨K, ca⟩ ps.length (defD N.length B)) := by
  obtain ⟨oc, od, kV, doc, pm, an, cdv, ct, osl, rfl, lk, hcd⟩ := F.ex
  refine ⟨fun vs H Q E h => h.1, ?_⟩
  intro A outer s H args us vs Q E hr hg e0 hbd rv hsp
  have L := hsp.1
  have KX : K.In s.heap := e0.mod.kin.keeps fun b o z => (e0.bs b o z).1
  have NL : s.heap.NoLimit := e0.mod.nolimit.keeps fun b o z => (e0.bs b o z).1
  refine codeAny_call_function hr.depth (KX _ _ lk) rfl S.co S.gen rfl (PySem.W.codeRec_of KX hcd) (hbd _ _ _ _ ?_)
  refine wpAny_newFunctionEnv_cells S.kind ?_ ?_
  · rintro ⟨n, v⟩ hy
    rcases S.par n (List.of_mem_zip hy).1 with z | z
    · exact .inl z
    · exact .inr ⟨z, PySem.W.cellsFrom_some _ _ _ (.inl z)⟩
  intro env he s1 x
  subst he
  refine ⟨NL.keeps x.toInCall.keep, codeAny_func ?_⟩
  have J : Inv (cxOf (L2.CX P w) P w K mg base N qual (defScope st) f cdv A outer s H E) [] (L2.start N vs) H s1 := inv_start S hr.hd e0 L rv x
  obtain ⟨_, T, ws, eH, ok, r, p⟩ := hsp
  have tq : tS (gx (cxOf (L2.CX P w) P w K mg base N qual (defScope st) f cdv A outer s H E) ca) (wxE E) B { nx := fun _ H' => Q .non H', rt := Q } (L2.start N vs) H := by
    refine ⟨T, _, eH, ok, relS_start r, ?_⟩
    show PostS _ _ _ (B (ws.map some ++ List.replicate (N.length - ws.length) none) T.h) _
    unfold defD at p
    cases q : B (ws.map some ++ List.replicate (N.length - ws.length) none) T.h with
    | nx ds h' => rw [q] at p; exact fun S' σ' e1 hh ok' rs => p S' V.non e1 hh ok' (rep_non (G := ⟨K, ca⟩) (Z := S'.Z))
    | rt w h' => rw [q] at p; exact fun S' v e1 hh ok' r' => p S' v e1 hh ok' r'
    | bk ds h' => rw [q] at p; exact p.elim
    | ct ds h' => rw [q] at p; exact p.elim
    | er e ds h' => rw [q] at p; exact fun S' σ' cls d e1 hh ok' rs x => p S' cls d e1 hh ok' x
    | bad => rw [q] at p; exact p
  refine wpAny_mono ((hb cdv rfl A outer s H E (hr.deeper _) hg).run [] s1 _ H _ J tq) ?_ fun e s' z => z
  intro fl s' z
  cases fl with
  | next => obtain ⟨τ, H', J', q⟩ := z; exact ⟨V.non, H', J'.os, J'.bare, J'.base, J'.hok, rfl, q⟩
  | ret u => obtain ⟨v, τ, H', J', rv', q⟩ := z; exact ⟨v, H', J'.os, J'.bare, J'.base, J'.hok, rv', q⟩
  | brk => obtain ⟨_, _, _, q⟩ := z; exact q.elim
  | cont => obtain ⟨_, _, _, q⟩ := z; exact q.elim
theorem def_okG {x qual : Str} {st : Stmt} {f : Addr} {fd : FuncData} {N ps : List Str} {k : Nat} {ca : CT} {B : Sm} (F : Fun K x qual st f fd) (S : FnScope N ps (defScope st))
    (hb : ∀ (cdv : Value) (A : Around) (outer : List Env) (s : Shared) (H : Hp) (E : XK), Room k (A.deeper (envOfC qual (defScope st) s.heap.objs.size f cdv)) → HG K (A.deeper (envOfC qual (defScope st) s.heap.objs.size f cdv)) H →
      PDSs (cxOf (L2.CX P w) P w K mg base N qual (defScope st) f cdv A outer s H E) ca (wxE E) (defBody st) B) :
    FnG P w K mg base (k + 1) f fd ps (spD ⟨K, ca⟩ ps.length (defD N.length B)) := def_okGc F S fun cdv _ => hb cdv
/-- a def without repr stands in for one with -/
theorem FnG.of {k : Nat} {f : Addr} {fd : FuncData} {ps : List Str} {sp : Sp} (F : FnOk P w K mg base (L2.CX P w) k f fd ps sp) : FnG P w K mg base k f fd ps sp :=
  ⟨F.len, fun A outer s H args us vs Q E hr _ e0 hb rv h => F.run A outer s H args us vs Q E hr e0 hb rv h⟩
end
section
variable {X : Cx} {ca : CT} {Wx : WX} {x : Str} {p pos : Pos} {e : Expr} {es : List Expr} {g : DS → DH → Rs (List Wv)} {k n : Nat} {f : Addr} {fd : FuncData} {ps : List Str} {Fd : List Wv → DH → Rs Wv} {sp : Sp} {t : TA} {Es : L2.St → XK}
end

/-! ### the law's own def, called at the top -/
section
variable {P : Program} {w : World} {K : PySem.W.Frag} {mg mb : Str → Option Value} {k : Nat} {fa a : Addr} {fd : FuncData} {x : Str} {sp : Sp} {s₁ : Shared} {vs : List Value} {ns : List Int}
/-- the script, if no constant of the text, and the modules' dict -/
def scrH (K : PySem.W.Frag) (a : Addr) (o : Obj) (ns : List Int) (om : Obj) : Hp := fun b => if b = a ∧ (K.lookup a).isNone = true then some (.frz o (.lst (ns.map V.int))) else if b = sysModules ∧ (K.lookup sysModules).isNone = true then some (.frz om (.ext fun h => h.get? sysModules = some om)) else none
theorem scrH_at {b : Addr} {o om : Obj} {u : HO} (h : scrH K a o ns om b = some u) : (b = a ∧ K.lookup a = none ∧ u = .frz o (.lst (ns.map V.int))) ∨ (b = sysModules ∧ K.lookup sysModules = none ∧ u = .frz om (.ext fun h => h.get? sysModules = some om)) := by
  unfold scrH at h
  split at h
  · rename_i c
    cases h
    exact .inl ⟨c.1, by simpa using c.2, rfl⟩
  · split at h
    · rename_i c
      cases h
      exact .inr ⟨c.1, by simpa using c.2, rfl⟩
    · cases h
theorem scrH_sq {o om : Obj} (ha : K.lookup a = none ∨ ∃ (its : Array Value) (n : Nat), K.lookup a = some o ∧ o.cls = .type "list" ∧ o.dict = none ∧ o.data = .seq its n ∧ its.size ≤ sizeLine ∧ Vals (ns.map V.int) its.toList) : SqL K (scrH K a o ns om) a (ns.map V.int) := by
  rcases ha with h | ⟨its, n, h⟩
  · exact .inl (.inr ⟨o, if_pos ⟨rfl, by rw [h]; rfl⟩⟩)
  · exact .inr ⟨o, its, n, h⟩
end
/-- the script as data -/
def scrD (ns : List Int) : Dv := .scr (ns.map Dv.int)
theorem reps_ints {G : Ctx} {Z : Hp} : ∀ ns : List Int, Reps G Z (ns.map Dv.int) (ns.map V.int)
  | [] => reps_nil.mpr rfl
  | n :: ns => reps_cons' rep_int (reps_ints ns)
end DL
namespace DL
open PySem PySem.Spec PyProof.Rows L2

/-! ### a thing that may change is changed -/
def Wd.mut (S : Wd) (n : Nat) (o : DO) (ob : HO) : Wd := { S with H := upd S.H (S.μ n) ob, h := S.h.set n o }
theorem Ok.mut {G : Ctx} {S : Wd} (ok : Ok G S) {n : Nat} {o o' : DO} {ob : HO} (hn : S.h[n]? = some o) (hl : o.live = true) (hl' : o'.live = true) (hO : OR G (S.mut n o' ob) o' (S.μ n)) : Ext S (S.mut n o' ob) ∧ Ok G (S.mut n o' ob) := by
  have hlt : n < S.h.length := (List.getElem?_eq_some_iff.mp hn).1
  have hset : ∀ m, (S.h.set n o')[m]? = if n = m then some o' else S.h[m]? := fun m => by
    by_cases e : n = m
    · subst e; rw [if_pos rfl, List.getElem?_set_self hlt]
    · rw [if_neg e, List.getElem?_set_ne e]
  have hz := ok.sep n o hn hl
  have old : ∀ {m : Nat} {u : DO}, (S.h.set n o')[m]? = some u → (m = n ∧ u = o') ∨ (m ≠ n ∧ S.h[m]? = some u) := fun {m u} h => by
    rw [hset] at h
    by_cases e : n = m
    · rw [if_pos e] at h; cases h; exact .inl ⟨e.symm, rfl⟩
    · rw [if_neg e] at h; exact .inr ⟨fun z => e z.symm, h⟩
  obtain ⟨u0, hu0, nt, nx⟩ := (ok.obj n o hn).hasN hl
  have tb : ∀ P q, LamX.TabS S.H P q → LamX.TabS (upd S.H (S.μ n) ob) P q := fun P q t => tab_step t fun b x h hx => by
    have : b ≠ S.μ n := fun z => by
      rw [z, hu0] at h
      cases h
      rcases hx with ⟨ps, e⟩ | ⟨φ, e⟩
      · exact nt ps e
      · exact nx φ e
    rw [upd_ne this]; exact h
  refine ⟨⟨ZLe.refl _, fun _ _ => rfl, Nat.le_of_eq (List.length_set ..).symm, fun m v h lv => ?_, fun a u h hn' => .inl ?_, fun a u h => ?_, fun m u hm h => ?_, fun a u h => .inl h⟩, ⟨fun a u h => ?_, fun m u h => ?_, fun m u h l => ?_, fun m1 m2 u1 u2 h1 h2 l1 l2 e => ?_, ok.bz, fun x hx => tb _ _ (ok.tb x hx)⟩⟩
  · show (S.h.set n o')[m]? = _
    rw [hset, if_neg (fun e => by subst e; rw [hn] at h; cases h; rw [hl] at lv; cases lv)]
    exact h
  · show upd S.H (S.μ n) ob a = some u
    rw [upd_ne (fun e => hn' ⟨n, o, hn, hl, e.symm⟩)]
    exact h
  · show ∃ o', upd S.H (S.μ n) ob a = some o'
    by_cases e : a = S.μ n
    · exact ⟨ob, by rw [e]; exact upd_same⟩
    · exact ⟨u, by rw [upd_ne e]; exact h⟩
  · have h' : (S.h.set n o')[m]? = some u := h
    have := (List.getElem?_eq_some_iff.mp h').1
    rw [List.length_set] at this
    omega
  · have ne : a ≠ S.μ n := fun e => by
      have h' : S.Z a = some u := h
      rw [e, hz] at h'; cases h'
    have := ok.sub a u h
    rw [show (S.mut n o' ob).H a = S.H a from upd_ne ne]
    exact this
  · rcases old h with ⟨rfl, rfl⟩ | ⟨ne, h'⟩
    · exact hO
    · have q := ok.obj m u h'
      by_cases l : u.live = true
      · refine OR.of_eq (S := S) (S' := S.mut n o' ob) (h := q) (ZLe.refl _) (fun _ _ => rfl) (Nat.le_of_eq (List.length_set ..).symm) (upd_ne fun e => ?_)
        exact ne (ok.inj m n u o h' hn l hl e)
      · exact q.dead (S' := S.mut n o' ob) l (ZLe.refl _) (fun _ _ => rfl) (Nat.le_of_eq (List.length_set ..).symm)
  · rcases old h with ⟨rfl, rfl⟩ | ⟨ne, h'⟩
    · exact hz
    · exact ok.sep m u h' l
  · rcases old h1 with ⟨rfl, rfl⟩ | ⟨n1, h1'⟩
    · rcases old h2 with ⟨rfl, rfl⟩ | ⟨n2, h2'⟩
      · rfl
      · exact ok.inj _ _ _ _ hn h2' hl l2 e
    · rcases old h2 with ⟨rfl, rfl⟩ | ⟨n2, h2'⟩
      · exact ok.inj _ _ _ _ h1' hn l1 hl e
      · exact ok.inj _ _ _ _ h1' h2' l1 l2 e
theorem Ok.mutL {G : Ctx} {S : Wd} (ok : Ok G S) {n : Nat} {o : DO} {xs : List Dv} {vs : List V} (hn : S.h[n]? = some o) (hl : o.live = true) (r : Reps G S.Z xs vs) : Ext S (S.mut n (.lst xs) (.lst vs)) ∧ Ok G (S.mut n (.lst xs) (.lst vs)) :=
  ok.mut hn hl rfl ⟨vs, upd_same, r⟩
theorem Ok.mutK {G : Ctx} {S : Wd} (ok : Ok G S) {n : Nat} {o : DO} {kvs : List (Key × Dv)} {kv : List (Key × V)} (hn : S.h[n]? = some o) (hl : o.live = true) (hk : kv.map (·.1) = kvs.map (·.1)) (r : Reps G S.Z (kvs.map (·.2)) (kv.map (·.2))) : Ext S (S.mut n (.dct kvs) (.dK kv)) ∧ Ok G (S.mut n (.dct kvs) (.dK kv)) :=
  ok.mut hn hl rfl ⟨kv, upd_same, hk, r⟩

/-! ### stores -/
theorem b2_at {α β γ δ ε ζ : Type} {G : Ctx} {Wx : WX} {R1 : RR α β} {R2 : RR γ δ} {R : RR ε ζ} {f : DS → DH → Rs α} {g : DS → DH → Rs γ} {F : α → γ → DH → Rs ε} {σ : L2.St} {S : Wd} {ds : DS} {Q : ζ → Hp → Prop} (h1 : Stay R1) (ok : Ok G S) (rs : RelS G S ds σ) (p : PostE G Wx R S σ (b2 f g F ds S.h) Q) :
    tE G Wx R1 f σ S.H fun x H1 => tE G Wx R2 g σ H1 fun y H2 => ∃ S1 S2 a b, S2.H = H2 ∧ Ext S S1 ∧ Ext S1 S2 ∧ Ok G S2 ∧ R1 S S2 a x ∧ R2 S1 S2 b y ∧ PostE G Wx R S σ (F a b S2.h) Q := by
  refine ⟨S, ds, rfl, ok, rs, ?_⟩
  unfold b2 at p
  cases q : f ds S.h with
  | bad => rw [q] at p; exact p
  | er e h1 => rw [q] at p; exact p
  | ok a h1' =>
    rw [q] at p
    intro S1 x e1 hh ok1 r1
    subst hh
    dsimp only at p
    refine ⟨S1, ds, rfl, ok1, rs.up e1, ?_⟩
    cases q2 : g ds S1.h with
    | bad => rw [q2] at p; exact p
    | er e h2 =>
      rw [q2] at p
      exact fun S' cls d e' hh' ok' rr => p S' cls d (e1.trans e') hh' ok' rr
    | ok b h2 =>
      rw [q2] at p
      intro S2 y e2 hh2 ok2 r2
      subst hh2
      exact ⟨S1, S2, a, b, rfl, e1, e2, ok2, h1 _ _ _ _ _ e2 r1, r2, p⟩
def putD (kvs : List (Key × Dv)) (k : Key) (x : Dv) : List (Key × Dv) :=
  if (kvs.any fun kv => decide (kv.1 = k)) = true then kvs.map (fun kv => if kv.1 = k then (kv.1, x) else kv) else kvs ++ [(k, x)]
theorem any_keys {α β : Type} (k : Key) : ∀ {l : List (Key × α)} {m : List (Key × β)}, l.map (·.1) = m.map (·.1) → (l.any fun kv => decide (kv.1 = k)) = (m.any fun kv => decide (kv.1 = k))
  | [], [], _ => rfl
  | [], b :: m, h => by simp at h
  | a :: l, [], h => by simp at h
  | a :: l, b :: m, h => by
    have h' : a.1 = b.1 ∧ l.map (·.1) = m.map (·.1) := by simpa using h
    rw [List.any_cons, List.any_cons, any_keys k h'.2, h'.1]
theorem reps_putmap {G : Ctx} {Z : Hp} {k : Key} {x : Dv} {v : V} (rx : Rep G Z x v) : ∀ {kvs : List (Key × Dv)} {kv : List (Key × V)}, kv.map (·.1) = kvs.map (·.1) → Reps G Z (kvs.map (·.2)) (kv.map (·.2)) →
    ((kv.map fun p => if p.1 = k then (p.1, v) else p).map (·.1) = (kvs.map fun p => if p.1 = k then (p.1, x) else p).map (·.1)) ∧ Reps G Z ((kvs.map fun p => if p.1 = k then (p.1, x) else p).map (·.2)) ((kv.map fun p => if p.1 = k then (p.1, v) else p).map (·.2))
  | [], [], _, r => ⟨rfl, r⟩
  | [], b :: m, h, _ => by simp at h
  | a :: l, [], h, _ => by simp at h
  | a :: l, b :: m, h, r => by
    have h' : b.1 = a.1 ∧ m.map (·.1) = l.map (·.1) := by simpa using h
    obtain ⟨v0, t, e, r1, r2⟩ := reps_cons.mp r
    have e1 : b.2 = v0 := by injection e
    have e2 : m.map (·.2) = t := by injection e
    subst e1; subst e2
    obtain ⟨i1, i2⟩ := reps_putmap rx h'.2 r2
    by_cases c : a.1 = k
    · have c' : b.1 = k := h'.1.trans c
      refine ⟨?_, ?_⟩
      · simp only [List.map_cons, if_pos c, if_pos c']
        rw [h'.1]; exact congrArg _ i1
      · simp only [List.map_cons, if_pos c, if_pos c']
        exact reps_cons' rx i2
    · have c' : ¬ b.1 = k := fun z => c (h'.1.symm.trans z)
      refine ⟨?_, ?_⟩
      · simp only [List.map_cons, if_neg c, if_neg c']
        rw [h'.1]; exact congrArg _ i1
      · simp only [List.map_cons, if_neg c, if_neg c']
        exact reps_cons' r1 i2
theorem putD_ok {G : Ctx} {Z : Hp} {k : Key} {x : Dv} {v : V} (rx : Rep G Z x v) {kvs : List (Key × Dv)} {kv : List (Key × V)} (hk : kv.map (·.1) = kvs.map (·.1)) (r : Reps G Z (kvs.map (·.2)) (kv.map (·.2))) :
    (putK kv k v).map (·.1) = (putD kvs k x).map (·.1) ∧ Reps G Z ((putD kvs k x).map (·.2)) ((putK kv k v).map (·.2)) := by
  unfold putK putD
  rw [any_keys k hk]
  split
  · exact reps_putmap rx hk r
  · rw [List.map_append, List.map_append, List.map_append, List.map_append, hk]
    exact ⟨rfl, r.append (reps_cons' rx (reps_nil.mpr rfl))⟩
def RU : RR Unit Unit := fun _ _ _ _ => True
/-- o[i] = w -/
def stD (w a b : Wv) (h : DH) : Rs Unit := match a, w with
  | .r n, .d x => (match h[n]?, b with
    | some (.lst xs), .d (.int i) => (match ixN xs.length i with
      | some j => .ok () (h.set n (.lst (xs.set j x)))
      | none => .bad)
    | some (.dct kvs), b => (match keyOf b with
      | some k => if kvs.length < 1000000 then .ok () (h.set n (.dct (putD kvs k x))) else .bad
      | none => .bad)
    | _, _ => .bad)
  | _, _ => .bad
def gSb (f g : DS → DH → Rs Wv) : Tg := fun w ds h => match b2 f g (stD w) ds h with
  | .ok _ h' => .nx ds h'
  | _ => .bad
theorem goes_sb {f g : DS → DH → Rs Wv} : Goes (gSb f g) := fun w ds h r e => by
  subst e
  unfold gSb
  cases q : b2 f g (stD w) ds h with
  | ok a h' => trivial
  | er e h' => trivial
  | bad => trivial
def rSetA : TSet := fun o i v H Q => rSetL o i v H Q ∨ ∃ a H', o = V.ref a ∧ DPut H a i v H' ∧ Q H'
theorem set_any {X : Cx} (hu : X.A.units + 1 < cLine) : PSet X rSetA := fun pins s σ H o i v ov iv u Q I ro ri rv h => by
  rcases h with h | ⟨a, H', rfl, g, q⟩
  · exact set_list pins s σ H o i v ov iv u Q I ro ri rv h
  · cases (show ov = Value.ref a from ro)
    exact d_setItem hu I g ri rv fun s' I' => ⟨H', I', q⟩
theorem len_keys {α β : Type} {l : List (Key × α)} {m : List (Key × β)} (h : l.map (·.1) = m.map (·.1)) : l.length = m.length := by
  have := congrArg List.length h
  simpa using this
section
variable {X : Cx} {ca : CT} {Wx : WX} {pos : Pos}
theorem pdg_sub {o i : Expr} {f g : DS → DH → Rs Wv} (hu : X.A.units + 1 < cLine) (ho : PD X ca W0 o f) (hi : PD X ca W0 i g)
    (ha : ∀ v, assign (.Subscript o i pos) X.env v = (do
      let ov ← holding [v] (eval o X.env)
      let iv ← holding [v, ov] (eval i X.env)
      standAt pos
      holding [v, ov, iv] (setItem ov iv v)
      release [v, ov, iv] []) := by intro _; rfl) : PDG X ca Wx (.Subscript o i pos) (gSb f g) :=
  PG.imp (pg_sub ho hi (set_any hu) ha) fun v σ H Q ⟨S, ds, w, eH, ok, rs, r, p⟩ => by
    subst eH
    have p' : PostE (gx X ca) W0 RU S σ (b2 f g (stD w) ds S.h) (fun _ H' => Q σ H') := by
      unfold gSb at p
      cases q : b2 f g (stD w) ds S.h with
      | ok a h' => rw [q] at p; exact fun S' b e hh ok' _ => p S' σ e hh ok' (rs.up e)
      | er e h' => rw [q] at p; exact p.elim
      | bad => rw [q] at p; exact p.elim
    refine (b2_at (R1 := RW (gx X ca)) (R2 := RW (gx X ca)) (RW.stay _) ok rs p').mono fun x H1 z => z.mono fun y H2 z => ?_
    obtain ⟨S1, S2, a, b, rfl, e1, e2, ok2, r1, r2, q⟩ := z
    have e12 := e1.trans e2
    unfold stD at q
    split at q
    · rename_i n x0
      have rx : Rep (gx X ca) S2.Z x0 v := Rep.up e12.zz r
      have hx : x = V.ref (S2.μ n) := r1.2
      subst hx
      split at q
      · rename_i xs i hn
        split at q
        · rename_i j hj
          obtain ⟨vs, hH, rr⟩ := ok2.obj n _ hn
          obtain ⟨e3, ok3⟩ := ok2.mutL (xs := xs.set j x0) (vs := vs.set j v) hn rfl (Reps.set rx j rr)
          refine .inl ⟨_, vs, i, j, rfl, rw_int r2, hH, by rw [← rr.length]; exact hj, ?_⟩
          exact q (S2.mut n _ _) () (e12.trans e3) rfl ok3 trivial
        · exact q.elim
      · rename_i kvs b' hn
        split at q
        · rename_i k hk
          split at q
          · rename_i hl
            obtain ⟨kv, hH, hkk, rr⟩ := ok2.obj n _ hn
            obtain ⟨k1, k2⟩ := putD_ok (k := k) rx hkk rr
            obtain ⟨e3, ok3⟩ := ok2.mutK hn rfl k1 k2
            refine .inr ⟨_, _, rfl, .inl ⟨kv, k, hH, keyOf_ok hk r2, ?_, rfl⟩, ?_⟩
            · rw [len_keys hkk]; exact Nat.lt_of_lt_of_le hl lim_le
            · exact q (S2.mut n _ _) () (e12.trans e3) rfl ok3 trivial
          · exact q.elim
        · exact q.elim
      · exact q.elim
    · exact q.elim
end
end DL
namespace DL
open PySem PySem.Spec PyProof.Rows L2

/-! ### t * n where the very tuple comes back -/
theorem tup_same (l : Addr) (items : Array Value) (n : Nat) (dd : Option Addr) (sl : Array (Option Value)) (x : Int) (u : Tok) (c0 : (decide (x < -(2 ^ 63)) || decide (x ≥ 2 ^ 63)) = false) (c1 : (items.isEmpty || x == 1) = true) :
    Meets (Builtin.«tuple.__mul__» ⟨[.ref l, .int x u], []⟩) (fun _ R s => s.heap.get? l = some { cls := .type "tuple", dict := dd, data := .seq items n, slots := sl } ∧ R (.ok (.ret (Value.ref l))) s) :=
  .of_wp fun prog w A R s h => by
    obtain ⟨hp, g, d, tk, os⟩ := s
    obtain ⟨hl, h⟩ := h
    have f1 := AutoSeq1.idx_int
    wp_walk using wpAny_loadPart' hl
    repeat (first
      | (refine wpAny_ite_false (decide_eq_false (by rw [c0]; exact Bool.false_ne_true)) ?_; wp_walk using wpAny_loadPart' hl)
      | (refine wpAny_ite_true (decide_eq_true c1) ?_; wp_walk using wpAny_loadPart' hl))
    exact ⟨_, rfl, h⟩
def rRepS (K : PySem.W.Frag) : R2 := fun x y H Q => ∃ l k xs, x = V.ref l ∧ y = V.int k ∧ SqT K H l xs ∧ (xs = [] ∨ k = 1) ∧ -(2 ^ 63) ≤ k ∧ k < 2 ^ 63 ∧ Q (.ref l) H
theorem op_repS {X : Cx} : OpR X (binaryOp .Mult) (rRepS X.K) := by
  intro pins s σ H x y v u Q I rx ry h
  obtain ⟨l, k, xs, rfl, rfl, hT, hc, h1, h2, q⟩ := h
  cases (show v = Value.ref l from rx)
  obtain ⟨t, rfl⟩ := ry
  obtain ⟨its, r, ⟨⟨cls, dd, data, sl⟩, ho, hc', n, hd⟩, hs⟩ := I.tuple hT
  simp only at hc' hd
  subst hc' hd
  have c0 : (decide (k < -(2 ^ 63)) || decide (k ≥ 2 ^ 63)) = false := by
    rw [decide_eq_false (by omega), decide_eq_false (by omega)] <;> rfl
  have c1 : (its.toArray.isEmpty || k == 1) = true := by
    rcases hc with e | e
    · have : its = [] := List.eq_nil_of_length_eq_zero (by rw [← r.length, e]; rfl)
      rw [this]; rfl
    · rw [e]; simp
  exact wpAny_binaryOp_repeat_ref (T := "tuple") (U := "int") (by decide) ⟨_, ho, rfl⟩ (fun s' => typeIs_int s' k t) noFill_tuple_mul F.fills_int_mul F.slot_int_rmul repeat_tuple F.slot_int_index.lookup
    (call_meets F.slot_int_rmul (typeIs_int s k t) F.entry_int_rmul (F.args_int_rmul_2 _ _) (int_rmul_tuple k t l its.toArray n dd sl)
      ⟨ho, rfl, ⟨_, ho, rfl⟩, call_meets F.slot_tuple_mul ⟨_, ho, rfl⟩ F.entry_tuple_mul (F.args_tuple_mul_2 _ _) (tup_same l its.toArray n dd sl k t c0 c1) ⟨ho, ⟨.ref l, H, I, rfl, q⟩⟩⟩)

/-! ### t * 0 -/
theorem tup_zero (l : Addr) (items : Array Value) (n : Nat) (dd : Option Addr) (sl : Array (Option Value)) (x : Int) (u : Tok) (c0 : (decide (x < -(2 ^ 63)) || decide (x ≥ 2 ^ 63)) = false) (c1 : (items.isEmpty || x == 1) = false) (c2 : (decide (x ≤ 0) || items.isEmpty) = true) :
    Meets (Builtin.«tuple.__mul__» ⟨[.ref l, .int x u], []⟩) (fun _ R s => s.heap.get? l = some { cls := .type "tuple", dict := dd, data := .seq items n, slots := sl } ∧
      R (.ok (.ret (Value.ref s.heap.objs.size))) { s with heap := s.heap.push { cls := Value.type "tuple", data := Data.seq #[] }, toks := s.toks }) :=
  .of_wp fun prog w A R s h => by
    obtain ⟨hp, g, d, tk, os⟩ := s
    obtain ⟨hl, h⟩ := h
    have f1 := AutoSeq1.idx_int
    wp_walk using wpAny_loadPart' hl
    repeat (first
      | (refine wpAny_ite_false (decide_eq_false (by rw [c0]; exact Bool.false_ne_true)) ?_; wp_walk using wpAny_loadPart' hl)
      | (refine wpAny_ite_false (decide_eq_false (by rw [c1]; exact Bool.false_ne_true)) ?_; wp_walk using wpAny_loadPart' hl)
      | (refine wpAny_ite_true (decide_eq_true c2) ?_; wp_walk using wpAny_loadPart' hl))
    exact ⟨_, rfl, h⟩
def rRep0 (K : PySem.W.Frag) : R2 := fun x y H Q => ∃ l xs, x = V.ref l ∧ y = V.int 0 ∧ SqT K H l xs ∧ xs ≠ [] ∧ ∀ p, H p = none → Q (.ref p) (upd H p (.tup []))
theorem op_rep0 {X : Cx} : OpR X (binaryOp .Mult) (rRep0 X.K) := by
  intro pins s σ H x y v u Q I rx ry h
  obtain ⟨l, xs, rfl, rfl, hT, hne, q⟩ := h
  cases (show v = Value.ref l from rx)
  obtain ⟨t, rfl⟩ := ry
  obtain ⟨its, r, ⟨⟨cls, dd, data, sl⟩, ho, hc', n, hd⟩, hs⟩ := I.tuple hT
  simp only at hc' hd
  subst hc' hd
  have hi : its.toArray.isEmpty = false := by
    cases its with
    | nil => exact absurd (List.eq_nil_of_length_eq_zero r.length) hne
    | cons a b => rfl
  have c1 : (its.toArray.isEmpty || (0 : Int) == 1) = false := by rw [hi]; rfl
  refine wpAny_binaryOp_repeat_ref (T := "tuple") (U := "int") (by decide) ⟨_, ho, rfl⟩ (fun s' => typeIs_int s' 0 t) noFill_tuple_mul F.fills_int_mul F.slot_int_rmul repeat_tuple F.slot_int_index.lookup
    (call_meets F.slot_int_rmul (typeIs_int s 0 t) F.entry_int_rmul (F.args_int_rmul_2 _ _) (int_rmul_tuple 0 t l its.toArray n dd sl)
      ⟨ho, rfl, ⟨_, ho, rfl⟩, call_meets F.slot_tuple_mul ⟨_, ho, rfl⟩ F.entry_tuple_mul (F.args_tuple_mul_2 _ _) (tup_zero l its.toArray n dd sl 0 t (by decide) c1 (by rw [hi]; rfl)) ⟨ho, ?_⟩⟩)
  refine ⟨.ref s.heap.objs.size, _, I.laid (t' := s.toks) (o := .tup []) (fun b ob q => Heap.get?_push_of_some _ q) (Nat.le_refl _) ?_, rfl, q _ (I.hok.fresh (Nat.le_refl _))⟩
  exact ⟨by rw [sizeLine_eq]; decide, _, .nil, IsTup.new _ _⟩

/-! ### + and * of all kinds; lists that come of them will stay -/
def opAddZ (a b : Wv) (h : DH) : Rs Wv := match lst1Of a h, lst1Of b h with
  | some xs, some ys => if xs.length + ys.length ≤ 1000000 then .ok (.d (.lst (xs ++ ys))) h else .bad
  | _, _ => opAdd a b h
abbrev rAddZ (K : PySem.W.Frag) : R2 := fun x y H Q => rAddA K x y H Q ∨ rCat x y H Q
theorem op_addZ {X : Cx} : OpR X (binaryOp .Add) (rAddZ X.K) := OpR.or op_addA op_cat
theorem v_addZ {G : Ctx} : VOR G (RW G) (rAddZ G.K) opAddZ := fun Wx S σ a b x y Q ok r1 r2 p => by
  unfold opAddZ at p
  split at p
  · rename_i xs ys h1 h2
    split at p
    · rename_i hl
      obtain ⟨l, vs, rfl, e1, q1⟩ := lst1Of_ok ok h1 r1
      obtain ⟨m, ws, rfl, e2, q2⟩ := lst1Of_ok ok h2 r2
      refine .inr ⟨l, m, vs, ws, rfl, rfl, e1, e2, by rw [← q1.length, ← q2.length]; exact le_line hl, fun pp hp => ?_⟩
      obtain ⟨e3, ok3⟩ := ok.put (o := .lst (vs ++ ws)) hp
      exact p (S.put pp (.lst (vs ++ ws))) (.ref pp) e3 rfl ok3 (put_lst ok hp (q1.append q2))
    · exact p.elim
  · exact .inl (v_add Wx S σ a b x y Q ok r1 r2 p)
def repD (n : Nat) (xs : List Dv) : List Dv := (List.replicate n xs).flatten
theorem reps_rep {G : Ctx} {Z : Hp} {xs : List Dv} {vs : List V} (r : Reps G Z xs vs) : ∀ n : Nat, Reps G Z (repD n xs) (List.replicate n vs).flatten
  | 0 => reps_nil.mpr rfl
  | n + 1 => by
    unfold repD
    rw [List.replicate_succ, List.replicate_succ, List.flatten_cons, List.flatten_cons]
    exact r.append (reps_rep r n)
def mulL (a b : Wv) (h : DH) : Option (List Dv) := match lst1Of a h, b with
  | some xs, .d (.int k) => if 0 ≤ k ∧ k ≤ 1000 ∧ xs.length ≤ 1000 then some (repD k.toNat xs) else none
  | _, _ => none
theorem mul_line {n m : Nat} (h1 : n ≤ 1000) (h2 : m ≤ 1000) : n * m ≤ sizeLine := Nat.le_trans (Nat.mul_le_mul h1 h2) lim_le
theorem mulL_ok {G : Ctx} {S : Wd} (ok : Ok G S) {a b : Wv} {x y : V} {zs : List Dv} (h : mulL a b S.h = some zs) (r1 : RepW G S a x) (r2 : RepW G S b y) :
    ∃ l k vs, x = V.ref l ∧ y = V.int k ∧ S.H l = some (.lst vs) ∧ -(2 ^ 63) ≤ k ∧ k < 2 ^ 63 ∧ vs.length * k.toNat ≤ sizeLine ∧ Reps G S.Z zs (List.replicate k.toNat vs).flatten := by
  unfold mulL at h
  split at h
  · rename_i xs k h1
    split at h
    · rename_i hl
      cases h
      obtain ⟨l, vs, rfl, e1, q1⟩ := lst1Of_ok ok h1 r1
      exact ⟨l, k, vs, rfl, rw_int r2, e1, by omega, by omega, by rw [← q1.length]; exact mul_line hl.2.2 (by omega), reps_rep q1 _⟩
    · cases h
  · cases h
def opMulZ (a b : Wv) (h : DH) : Rs Wv := match mulL a b h with
  | some zs => .ok (.d (.lst zs)) h
  | none => (match a, b with
    | .d (.tup xs), .d (.int k) => if 0 ≤ k ∧ k ≤ 1000 ∧ xs.length ≤ 1000 then .ok (.d (.tup (repD k.toNat xs))) h else .bad
    | _, _ => opMul a b h)
abbrev rMulZ (K : PySem.W.Frag) : R2 := fun x y H Q => (((rI CMul (fun i j => .int (i * j)) x y H Q ∨ rRep x y H Q) ∨ rRepT K x y H Q) ∨ rRepS K x y H Q) ∨ rRep0 K x y H Q
theorem op_mulZ {X : Cx} : OpR X (binaryOp .Mult) (rMulZ X.K) := OpR.or (OpR.or (OpR.or (OpR.or op_mul op_rep) op_repT) op_repS) op_rep0
theorem repD_nil : ∀ n : Nat, repD n [] = []
  | 0 => rfl
  | n + 1 => by
    unfold repD
    rw [List.replicate_succ, List.flatten_cons, List.nil_append]
    exact repD_nil n
theorem repD_one (xs : List Dv) : repD 1 xs = xs := by simp [repD]
theorem v_mulZ {G : Ctx} : VOR G (RW G) (rMulZ G.K) opMulZ := fun Wx S σ a b x y Q ok r1 r2 p => by
  unfold opMulZ at p
  split at p
  · rename_i zs hz
    obtain ⟨l, k, vs, rfl, rfl, e1, k1, k2, k3, rr⟩ := mulL_ok ok hz r1 r2
    refine .inl (.inl (.inl (.inr ⟨l, k, vs, rfl, rfl, e1, k1, k2, k3, fun pp hp => ?_⟩)))
    obtain ⟨e3, ok3⟩ := ok.put (o := .lst (List.replicate k.toNat vs).flatten) hp
    exact p (S.put pp _) (.ref pp) e3 rfl ok3 (put_lst ok hp rr)
  · split at p
    · rename_i xs k _
      split at p
      · rename_i hl
        obtain ⟨l, vs, rfl, s1, q1⟩ := rw_tup r1
        have hy := rw_int r2
        subst hy
        by_cases c : xs = [] ∨ k = 1
        · refine .inl (.inr ⟨l, k, vs, rfl, rfl, ok.sqT s1, ?_, by omega, by omega, ?_⟩)
          · rcases c with c | c
            · left; rw [c] at q1; exact reps_nil.mp q1
            · exact .inr c
          · have e : repD k.toNat xs = xs := by
              rcases c with c | c
              · rw [c]; exact repD_nil _
              · rw [c]; exact repD_one _
            rw [e] at p
            exact p.here ok r1
        · have c1 : xs ≠ [] := fun e => c (.inl e)
          have c2 : k ≠ 1 := fun e => c (.inr e)
          have c3 : vs ≠ [] := fun e => by
            rw [e] at q1
            exact c1 (List.eq_nil_of_length_eq_zero (by rw [q1.length]; rfl))
          by_cases k0 : k = 0
          · subst k0
            refine .inr ⟨l, vs, rfl, rfl, ok.sqT s1, c3, fun pp hp => ?_⟩
            obtain ⟨e3, ok3⟩ := ok.put (o := .tup []) hp
            exact p (S.put pp _) (.ref pp) e3 rfl ok3 (put_tup (xs := []) ok hp (reps_nil.mpr rfl))
          · refine .inl (.inl (.inr ⟨l, k, vs, rfl, rfl, ok.sqT s1, c3, by omega, by omega, by rw [← q1.length]; omega, fun pp hp => ?_⟩))
            obtain ⟨e3, ok3⟩ := ok.put (o := .tup (List.replicate k.toNat vs).flatten) hp
            exact p (S.put pp _) (.ref pp) e3 rfl ok3 (put_tup ok hp (reps_rep q1 _))
      · exact p.elim
    · exact .inl (.inl (.inl (.inl (v_mul Wx S σ a b x y Q ok r1 r2 p))))
/-! ### methods of built-in types -/
/-- f.m(es): f first, which must pass c -/
def bM (c : Wv → DH → Bool) (f : DS → DH → Rs Wv) (g : DS → DH → Rs (List Wv)) (F : Wv → List Wv → DH → Rs Wv) : DS → DH → Rs Wv := fun ds h =>
  match f ds h with
  | .ok w h1 => if c w h1 = true then (match g ds h1 with
    | .ok ws h2 => F w ws h2
    | .er e h2 => .er e h2
    | .bad => .bad) else .bad
  | .er e h1 => .er e h1
  | .bad => .bad
def VOM (G : Ctx) (r : V → List V → Hp → VK → Prop) (F : Wv → List Wv → DH → Rs Wv) : Prop :=
  ∀ (Wx : WX) (S : Wd) (σ : L2.St) (w : Wv) (ws : List Wv) (x : V) (xs : List V) (Q : VK), Ok G S → RepW G S w x → RepWs G S ws xs → PostE G Wx (RW G) S σ (F w ws S.h) Q → r x xs S.H Q
def VTy (G : Ctx) (T : String) (c : Wv → DH → Bool) : Prop := ∀ (S : Wd) (w : Wv) (x : V), Ok G S → RepW G S w x → c w S.h = true → tyV G.K T x S.H
theorem bM_call {G : Ctx} {Wx : WX} {c : Wv → DH → Bool} {T : String} {f : DS → DH → Rs Wv} {g : DS → DH → Rs (List Wv)} {F : Wv → List Wv → DH → Rs Wv} {r : V → List V → Hp → VK → Prop} {σ : L2.St} {H : Hp} {Q : VK} (hT : VTy G T c) (hv : VOM G r F) (h : tE G Wx (RW G) (bM c f g F) σ H Q) :
    tE G Wx (RW G) f σ H fun x H1 => tyV G.K T x H1 ∧ tE G Wx (RL G) g σ H1 fun xs H2 => r x xs H2 Q := by
  obtain ⟨S, ds, eH, ok, rs, p⟩ := h
  refine ⟨S, ds, eH, ok, rs, ?_⟩
  unfold bM at p
  cases q : f ds S.h with
  | bad => rw [q] at p; exact p
  | er e h1 => rw [q] at p; exact p
  | ok w h1 =>
    rw [q] at p
    intro S1 x e1 hh ok1 r1
    subst hh
    dsimp only at p
    split at p
    · rename_i hc
      refine ⟨hT S1 w x ok1 r1 hc, S1, ds, rfl, ok1, rs.up e1, ?_⟩
      cases q2 : g ds S1.h with
      | bad => rw [q2] at p; exact p
      | er e h2 =>
        rw [q2] at p
        exact fun S' cls d e' hh' ok' rr => p S' cls d (e1.trans e') hh' ok' rr
      | ok ws h2 =>
        rw [q2] at p
        intro S2 xs e2 hh2 ok2 r2
        subst hh2
        exact hv Wx S2 σ w ws x xs Q ok2 (e2.repW r1) r2 (p.later (RW.shift _) (e1.trans e2))
    · exact p.elim
section
variable {X : Cx} {ca : CT} {Wx : WX} {o e : Expr} {es : List Expr} {f : DS → DH → Rs Wv} {g : DS → DH → Rs (List Wv)} {name : Str} {apos cpos : Pos} {T id : String} {r : V → List V → Hp → VK → Prop} {c : Wv → DH → Bool} {F : Wv → List Wv → DH → Rs Wv}
theorem pd_bm (pa : PlainAttrs T) (slot : Slot T name id) (hty : typeOf (.builtin id) = pure (.type "method_descriptor")) (hm : MtR X id r) (hT : VTy (gx X ca) T c) (hv : VOM (gx X ca) r F) (ho : PD X ca Wx o f) (ha : PDA X ca Wx (e :: es) g)
    (hbase : attributeBase o name X.env (eval o X.env) = eval o X.env := by rfl)
    (hfew : ((backTo cpos (starEach (e :: es) X.env)).all (fun x => !x.1) && (backToKw cpos (keywordEach [] X.env)).all (fun x => x.1.isSome)
      && decide ((e :: es).length + ([] : List Keyword).length + (if ([] : List Keyword).isEmpty then 0 else 1) < 30)) = true := by rfl)
    (hline : (apos.endLine == cpos.line) = true := by rfl) (hs : starEach (e :: es) X.env = (false, eval e X.env) :: starEach es X.env := by rfl) (hplain : (backTo cpos (starEach es X.env)).any (·.1) = false := by rfl) :
    PD X ca Wx (.Call (.Attribute o name apos) (e :: es) [] cpos) (bM c f g F) :=
  PE.imp (pe_bm pa slot hty hm ho ha hbase hfew hline hs hplain) fun σ H Q z => bM_call hT hv z
end
def cLst (w : Wv) (h : DH) : Bool := (lstOf w h).isSome
theorem ty_lst {G : Ctx} : VTy G "list" cLst := fun S w x ok r c => by
  unfold cLst at c
  cases q : lstOf w S.h with
  | none => rw [q] at c; cases c
  | some xs =>
    obtain ⟨a, vs, rfl, sq, _⟩ := lstOf_ok ok q r
    exact .inl ⟨rfl, vs, sq⟩
/-- xs.append(x) -/
def mAppend (w : Wv) (ws : List Wv) (h : DH) : Rs Wv := match w, ws with
  | .r n, [.d x] => (match h[n]? with
    | some (.lst xs) => if xs.length < 1000000 then .ok (.d .non) (h.set n (.lst (xs ++ [x]))) else .bad
    | _ => .bad)
  | _, _ => .bad
theorem v_append {G : Ctx} : VOM G rAppend mAppend := fun Wx S σ w ws x xs Q ok r1 r2 p => by
  unfold mAppend at p
  split at p
  · rename_i n x0
    obtain ⟨v, rfl, rv⟩ := repWs1 r2
    have rv' : Rep G S.Z x0 v := rv
    split at p
    · rename_i ys hn
      split at p
      · rename_i hl
        obtain ⟨vs, hH, rr⟩ := ok.obj n _ hn
        obtain ⟨e3, ok3⟩ := ok.mutL hn rfl (rr.append (reps_cons' rv' (reps_nil.mpr rfl)))
        refine ⟨_, vs, v, r1.2, rfl, hH, by rw [← rr.length]; exact Nat.lt_of_lt_of_le hl lim_le, ?_⟩
        exact p (S.mut n _ _) .non e3 rfl ok3 (rep_non (G := G) (Z := S.Z))
      · exact p.elim
    · exact p.elim
  · exact p.elim
end DL
namespace DL
open PySem PySem.Spec PyProof.Rows L2

/-! ### a op b op' c -/
section
variable {X : Cx} {ca : CT} {Wx : WX} {a b c : Expr} {f g k : DS → DH → Rs Wv} {r r' : R2} {FB FB' : Wv → Wv → DH → Rs Bool} {op op' : CmpOp} {pos : Pos}
end

/-! ### dict displays -/
abbrev EW := DS → DH → Rs Wv
def ePairs : List (EW × EW) → DS → DH → Rs (List (Key × Dv))
  | [], _, h => .ok [] h
  | (f, g) :: r, ds, h => match f ds h with
    | .ok a h1 => (match g ds h1 with
      | .ok b h2 => (match keyOf a, b with
        | some k, .d x => (match ePairs r ds h2 with
          | .ok l h3 => .ok ((k, x) :: l) h3
          | .er e h3 => .er e h3
          | .bad => .bad)
        | _, _ => .bad)
      | .er e h2 => .er e h2
      | .bad => .bad)
    | .er e h1 => .er e h1
    | .bad => .bad
def RP (G : Ctx) : RR (List (Key × Dv)) (List (V × V)) := fun _ S kvs ps => ∃ kv : List (Key × V), ps = kv.map (fun q => (kV q.1, q.2)) ∧ kv.map (·.1) = kvs.map (·.1) ∧ Reps G S.Z (kvs.map (·.2)) (kv.map (·.2))
def mergeD (kvs more : List (Key × Dv)) : List (Key × Dv) := more.foldl (fun acc kv => putD acc kv.1 kv.2) kvs
theorem merge_ok {G : Ctx} {Z : Hp} : ∀ {more : List (Key × Dv)} {mv : List (Key × V)} {kvs : List (Key × Dv)} {kv : List (Key × V)}, mv.map (·.1) = more.map (·.1) → Reps G Z (more.map (·.2)) (mv.map (·.2)) → kv.map (·.1) = kvs.map (·.1) → Reps G Z (kvs.map (·.2)) (kv.map (·.2)) →
    (mergeK kv mv).map (·.1) = (mergeD kvs more).map (·.1) ∧ Reps G Z ((mergeD kvs more).map (·.2)) ((mergeK kv mv).map (·.2))
  | [], [], _, _, _, _, h, r => ⟨h, r⟩
  | [], _ :: _, _, _, h, _, _, _ => by simp at h
  | _ :: _, [], _, _, h, _, _, _ => by simp at h
  | a :: more, b :: mv, kvs, kv, h, r, h2, r2 => by
    have h' : b.1 = a.1 ∧ mv.map (·.1) = more.map (·.1) := by simpa using h
    obtain ⟨v, t, e, q1, q2⟩ := reps_cons.mp r
    have e1 : b.2 = v := by injection e
    have e2 : mv.map (·.2) = t := by injection e
    subst e1; subst e2
    obtain ⟨p1, p2⟩ := putD_ok (k := b.1) q1 h2 r2
    rw [h'.1] at p1 p2
    have z := merge_ok (kvs := putD kvs a.1 a.2) (kv := putK kv a.1 b.2) h'.2 q2 p1 p2
    show (mergeK (putK kv b.1 b.2) mv).map (·.1) = (mergeD (putD kvs a.1 a.2) more).map (·.1) ∧ Reps G Z ((mergeD (putD kvs a.1 a.2) more).map (·.2)) ((mergeK (putK kv b.1 b.2) mv).map (·.2))
    rw [h'.1]
    exact z
def trOf (G : Ctx) (Wx : WX) (l : List (EW × EW)) : List (TE × TE) := l.map fun p => (tE G Wx (RW G) p.1, tE G Wx (RW G) p.2)
theorem pairs_imp {G : Ctx} {Wx : WX} {σ : L2.St} {ds : DS} : ∀ {l : List (EW × EW)} {S : Wd} {Q : List (V × V) → Hp → Prop}, Ok G S → RelS G S ds σ → PostE G Wx (RP G) S σ (ePairs l ds S.h) Q → tPairs (trOf G Wx l) σ S.H Q
  | [], S, Q, ok, rs, p => p.here (R := RP G) ok ⟨[], rfl, rfl, reps_nil.mpr rfl⟩
  | (f, g) :: l, S, Q, ok, rs, p => by
    refine ⟨S, ds, rfl, ok, rs, ?_⟩
    unfold ePairs at p
    show PostE G Wx (RW G) S σ (f ds S.h) _
    cases q : f ds S.h with
    | bad => rw [q] at p; exact p
    | er e h1 => rw [q] at p; exact p
    | ok a h1 =>
      rw [q] at p
      dsimp only at p
      intro S1 x e1 hh ok1 r1
      subst hh
      refine ⟨S1, ds, rfl, ok1, rs.up e1, ?_⟩
      show PostE G Wx (RW G) S1 σ (g ds S1.h) _
      cases q2 : g ds S1.h with
      | bad => rw [q2] at p; exact p
      | er e h2 => rw [q2] at p; exact fun S' cls d e' hh' ok' rr => p S' cls d (e1.trans e') hh' ok' rr
      | ok b h2 =>
        rw [q2] at p
        dsimp only at p
        intro S2 y e2 hh2 ok2 r2
        subst hh2
        have e12 := e1.trans e2
        split at p
        · rename_i k x0 hk
          refine pairs_imp (l := l) (S := S2) ok2 (rs.up e12) ?_
          cases q3 : ePairs l ds S2.h with
          | bad => rw [q3] at p; exact p
          | er e h3 => rw [q3] at p; exact fun S' cls d e' hh' ok' rr => p S' cls d (e12.trans e') hh' ok' rr
          | ok m h3 =>
            rw [q3] at p
            dsimp only at p
            intro S3 ps e3 hh3 ok3 r3
            subst hh3
            obtain ⟨kv, rfl, h1, h2⟩ := r3
            refine p S3 _ (e12.trans e3) rfl ok3 ⟨(k, y) :: kv, ?_, ?_, ?_⟩
            · rw [keyOf_ok hk r1]; rfl
            · rw [List.map_cons, List.map_cons, h1]
            · exact reps_cons' (Rep.up e3.zz r2) h2
        · exact p.elim
def dispR (l : List (Key × Dv)) (h : DH) : Rs DO := .ok (.dct (mergeD [] l)) h
def eDsp (l : List (EW × EW)) : DS → DH → Rs DO := b1 (ePairs l) dispR
structure PDP (X : Cx) (ca : CT) (Wx : WX) (pos : Pos) (keys : List (Option Expr)) (values : List Expr) (l : List (EW × EW)) : Prop where
  h : PPs X pos keys values (trOf (gx X ca) Wx l)
section
variable {X : Cx} {ca : CT} {Wx : WX} {pos : Pos} {k v : Expr} {ks : List (Option Expr)} {vs : List Expr} {f g : EW} {l : List (EW × EW)}
theorem pdp_nil : PDP X ca Wx pos [] [] [] := ⟨pps_nil⟩
theorem pdp_cons (hk : PD X ca Wx k f) (hv : PD X ca Wx v g) (hr : PDP X ca Wx pos ks vs l) : PDP X ca Wx pos (some k :: ks) (v :: vs) ((f, g) :: l) := ⟨pps_cons hk hv hr.h⟩
theorem ePairs_len : ∀ {l : List (EW × EW)} {ds : DS} {h h' : DH} {m : List (Key × Dv)}, ePairs l ds h = .ok m h' → m.length = l.length
  | [], _, _, _, _, e => by cases e; rfl
  | (f, g) :: l, ds, h, h', m, e => by
    unfold ePairs at e
    split at e
    · split at e
      · split at e
        · split at e
          · rename_i q
            cases e
            rw [List.length_cons, List.length_cons, ePairs_len q]
          · cases e
          · cases e
        · cases e
      · cases e
      · cases e
    · cases e
    · cases e
theorem pf_disp (h : PDP X ca Wx pos (some k :: ks) vs l) (hall : (some k :: ks).all (·.isSome) = true := by rfl) (hl : (some k :: ks).length = vs.length := by rfl) (h15 : (some k :: ks).length ≤ 15 := by decide) (hl15 : l.length ≤ 15 := by decide) :
    PF X ca Wx (.Dict (some k :: ks) vs pos) (eDsp l) :=
  PE.imp (pe_disp h.h hall hl (by simp) h15) fun σ H Q ⟨S, ds, eH, ok, rs, p⟩ => by
    subst eH
    intro q hq
    obtain ⟨e0, ok0⟩ := ok.raw (o := .dK []) hq
    have pz : (S.raw q (.dK [])).Z q = none := ok.z hq
    have pn : ¬ Own (S.raw q (.dK [])) q := fun z => ok.free hq z
    have hat : (S.raw q (.dK [])).H q = some (.dK []) := upd_same
    refine pairs_imp (S := S.raw q (.dK [])) ok0 (rs.up e0) ?_
    unfold eDsp b1 at p
    show PostE _ _ _ (S.raw q (.dK [])) _ (ePairs l ds S.h) _
    cases q1 : ePairs l ds S.h with
    | bad => rw [q1] at p; exact p
    | er e h1 => rw [q1] at p; exact fun S' cls d e' hh' ok' rr => p S' cls d (e0.trans e') hh' ok' rr
    | ok m h1 =>
      rw [q1] at p
      dsimp only at p
      intro S1 ps e1 hh ok1 r1
      subst hh
      obtain ⟨kv, rfl, k1, k2⟩ := r1
      have h2 : S1.H q = some (.dK []) := e1.frN hat pn (fun _ z => by cases z)
      have z1 : S1.Z q = none := by
        cases c : S1.Z q with
        | none => rfl
        | some o =>
          rcases e1.zn q o c with z | z | z
          · rw [pz] at z; cases z
          · rw [hat] at z; cases z
          · exact absurd z pn
      have n1 : ¬ Own S1 q := fun z => by
        rcases e1.own z with z | z
        · exact pn z
        · rw [hat] at z; cases z
      have lm := ePairs_len q1
      refine ⟨h2, kv, rfl, ?_, ?_⟩
      · rw [len_keys k1, lm]; exact hl15
      obtain ⟨g1, g2⟩ := merge_ok (kvs := []) (kv := []) k1 k2 rfl (reps_nil.mpr rfl)
      -- the heap behind the display
      obtain ⟨e2, ok2⟩ := Ok.poke (o := .dK (mergeK [] kv)) (e0.trans e1) ok1 hq h2 z1 n1
      exact p _ (.ref q) e2 rfl ok2 ⟨q, rfl, ⟨_, upd_same, g1, g2⟩, hq, z1, n1⟩
/-- {} -/
def eDct0 : DS → DH → Rs DO := fun _ h => .ok (.dct []) h
theorem pf_dct0 : PF X ca Wx (.Dict [] [] pos) eDct0 :=
  PE.imp pe_dnewK fun σ H Q ⟨S, ds, eH, ok, rs, p⟩ => by
    subst eH
    intro q hq
    obtain ⟨e0, ok0⟩ := ok.raw (o := .dK []) hq
    exact p (S.raw q (.dK [])) (.ref q) e0 rfl ok0 (raw_dct (kvs := []) (kv := []) ok hq rfl (reps_nil.mpr rfl))
end
end DL
namespace DL
open PySem PySem.Spec PyProof.Rows L2

/-! ### a[b] and a[b:c] of any kind; lists that are cut out will stay -/
def rIxK : R2 := fun x y H Q => ∃ a v, x = V.ref a ∧ DGet H a y (some v) ∧ Q v H
theorem ix_dct {X : Cx} (hu : X.A.units + 1 < cLine) : IxR X rIxK := by
  intro value slice pins s σ H x y v u Q I rx ry h hs
  obtain ⟨a, w, rfl, g, q⟩ := h
  cases (show v = Value.ref a from rx)
  have hT := dict_typeIs I g
  unfold subscriptTail
  refine wpAny_bind ?_
  rw [getitemInPython_of_ne hT.not_modules]
  refine wpAny_bind (wpAny_specialOf hT PySem.F.slot_dict_getitem.lookup ?_)
  have fin : wpAny (model X.prog X.w) X.A (subscripted slice false (.ref a) u) (fun r s₃ => wpAny (model X.prog X.w) X.A (letTemporaryGo value (.ref a) r >>= fun _ => pure r) (EP X pins σ Q) X.xe s₃) X.xe s := by
    rw [hs]
    refine wpAny_operating ?_
    exact d_getItem hu I g ry fun w' s3 I3 rw' => wpAny_bind (wpAny_letTemporaryGo (wpAny_pure ⟨w, H, I3, rw', q⟩))
  first
    | exact wpAny_pure (wpAny_bind fin)
    | exact wpAny_bind (wpAny_pure (wpAny_bind fin))
    | exact wpAny_bind fin
def opIxZ (a b : Wv) (h : DH) : Rs Wv := match dctOf a h with
  | some _ => opDx a b h
  | none => opIx a b h
theorem v_ixZ {G : Ctx} : VOR G (RW G) (fun x y H Q => rIx G.K x y H Q ∨ rIxK x y H Q) opIxZ := fun Wx S σ a b x y Q ok r1 r2 p => by
  unfold opIxZ at p
  split at p
  · unfold opDx at p
    split at p
    · rename_i ks xs k hd hk
      split at p
      · rename_i d hx
        obtain ⟨q, kv, rfl, rd, rfl, rr⟩ := dctOf_ok ok hd r1
        obtain ⟨v, e, rv⟩ := (dgetD_ok k rr).1 d hx
        exact .inr ⟨q, v, rfl, .inl ⟨kv, k, rd, keyOf_ok hk r2, e.symm⟩, p.here ok (R := RW G) (b := v) rv⟩
      · exact p.elim
    · exact p.elim
  · exact .inl (v_ix Wx S σ a b x y Q ok r1 r2 p)
def opSlZ (a : Wv) (lo hi : Option Int) (h : DH) : Rs Wv := match lstOf a h with
  | some xs => .ok (.d (.lst (cut xs lo hi))) h
  | none => opSl a lo hi h
section
variable {X : Cx} {ca : CT} {Wx : WX} {a b c : Expr} {f g : DS → DH → Rs Wv} {pos : Pos}
theorem pd_ixZ (hu : X.A.units + 1 < cLine) (ha : PD X ca Wx a f) (hb : PD X ca Wx b g) (hs : PlainIx b := by intro _ _; rfl) : PD X ca Wx (.Subscript a b pos) (b2 f g opIxZ) :=
  PE.imp (pe_ix (IxR.or ix_seq (ix_dct hu)) ha hb hs) fun σ H Q z => b2_op (RW.shift _) v_ixZ z
theorem pd_slZ {lo hi : Option Expr} {tl th : DS → DH → Rs (Option Int)} {p2 : Pos} (ha : PD X ca Wx a f) (hl : PDO X ca Wx lo tl) (hh : PDO X ca Wx hi th) : PD X ca Wx (.Subscript a (.Slice lo hi none p2) pos) (b3' f tl th opSlZ) :=
  PE.imp (pe_slice (SlR.or (SlR.or sl_tupA sl_str) sl_list) ha hl hh) fun σ H Q z => by
    refine (b3_imp (R1 := RW (gx X ca)) (R2 := RO) (R3 := RO) (RW.stay _) RO.stay z).mono fun x H1 z1 => z1.mono fun l H2 z2 => z2.mono ?_
    rintro u H3 ⟨S0, S1, S2, S, a, b, c, rfl, e1, e2, e3, eH, ok, r1, r2, r3, q⟩
    have r2' : b = l := r2
    have r3' : c = u := r3
    subst r2'
    subst r3'
    have q' := q.later (RW.shift _) ((e1.trans e2).trans e3)
    unfold opSlZ at q'
    split at q'
    · rename_i xs hx
      obtain ⟨p, vs, rfl, sq, rr⟩ := lstOf_ok ok hx r1
      refine .inr ⟨p, vs, rfl, sq, fun pp hp => ?_⟩
      obtain ⟨e4, ok4⟩ := ok.put (o := .lst (cutV vs b c)) hp
      exact q' (S.put pp (.lst (cutV vs b c))) (.ref pp) e4 rfl ok4 (put_lst ok hp (rr.cut b c))
    · unfold opSl at q'
      split at q'
      · rename_i xs _
        obtain ⟨p, vs, rfl, sq, rr⟩ := rw_tup r1
        refine .inl (.inl ⟨p, vs, rfl, ok.sqT sq, fun hw => ?_, fun hw pp hp => ?_⟩)
        · have : cut xs b c = xs := cut_whole (by rw [rr.length]; exact hw)
          rw [this] at q'
          exact q'.here ok r1
        · obtain ⟨e4, ok4⟩ := ok.put (o := .tup (cutV vs b c)) hp
          exact q' (S.put pp (.tup (cutV vs b c))) (.ref pp) e4 rfl ok4 (put_tup ok hp (rr.cut b c))
      · rename_i s _
        split at q'
        · rename_i hl
          exact .inl (.inr ⟨s, rw_str r1, le_line hl, q'.here ok rw_str'⟩)
        · exact q'.elim
      · exact q'.elim
end

/-! ### what the top has written -/
/-- a def of the module, under its name -/
def HasFn (K : PySem.W.Frag) (mg : Str → Option Value) (x : Str) (st : Stmt) (ps : List Str) : Prop := ∃ f fd, Fun K x x st f fd ∧ mg x = some (.ref f) ∧ Binds K fd ps []
/-- .. and what it computes -/
def Can (P : Program) (w : World) (K : PySem.W.Frag) (mg : Str → Option Value) (base : Heap) (ca : CT) (k : Nat) (x : Str) (n : Nat) (F : List Wv → DH → Rs Wv) : Prop :=
  ∃ f fd ps, FnOk P w K mg base (L2.CX P w) k f fd ps (spD ⟨K, ca⟩ n F) ∧ mg x = some (.ref f) ∧ Binds K fd ps [] ∧ PySem.W.keepIn K (.ref f) = true
def CanG (P : Program) (w : World) (K : PySem.W.Frag) (mg : Str → Option Value) (base : Heap) (ca : CT) (k : Nat) (x : Str) (n : Nat) (F : List Wv → DH → Rs Wv) : Prop :=
  ∃ f fd ps, FnG P w K mg base k f fd ps (spD ⟨K, ca⟩ n F) ∧ mg x = some (.ref f) ∧ Binds K fd ps [] ∧ PySem.W.keepIn K (.ref f) = true
section
variable {P : Program} {w : World} {K : PySem.W.Frag} {mg : Str → Option Value} {base : Heap} {ca : CT} {k : Nat} {x : Str} {st : Stmt} {N ps : List Str} {B : Sm}
theorem can_of (H : HasFn K mg x st ps) (S : FnScope N ps (defScope st))
    (hb : ∀ (f : Addr) (cdv : Value) (A : Around) (outer : List Env) (s : Shared) (H : Hp) (E : XK), Room k (A.deeper (envOfC x (defScope st) s.heap.objs.size f cdv)) →
      PDSs (cxOf (L2.CX P w) P w K mg base N x (defScope st) f cdv A outer s H E) ca (wxE E) (defBody st) B) : Can P w K mg base ca (k + 1) x ps.length (defD N.length B) := by
  obtain ⟨f, fd, F, m, b⟩ := H
  exact ⟨f, fd, ps, def_ok F S (hb f), m, b, F.kp⟩
end
section
variable {X : Cx} {ca : CT} {Wx : WX} {x : Str} {p pos : Pos} {e : Expr} {es : List Expr} {g : DS → DH → Rs (List Wv)} {k n : Nat} {Fd : List Wv → DH → Rs Wv}
/-- .. with what may change -/
theorem pd_ch (C : Can X.prog X.w X.K X.mg X.base ca k x n Fd) (hr : Room k X.A) (hg : Gl X x) (hx : Pas X Wx) (ha : PDA X ca Wx (e :: es) g) (hgl : ∀ ds h ws h', g ds h = .ok ws h' → ws.length = n) (hn : (e :: es).length = n := by rfl) (hdb : (x == ("__debug__" : Str)) = false := by decide)
    (he : starEach (e :: es) X.env = (false, eval e X.env) :: starEach es X.env := by rfl) (hpl : (backTo pos (starEach es X.env)).any (·.1) = false := by rfl) : PD X ca Wx (.Call (.Name x p) (e :: es) [] pos) (b1 g Fd) := by
  obtain ⟨f, fd, ps, F, m, b, kp⟩ := C
  exact pd_call F hr hg m kp b hx hn ha hgl hdb he hpl
/-- a whole number, a text of the module -/
theorem pd_gi {i : Int} (hg : Gl X x) (hm : ∃ t, X.mg x = some (.int i t)) (hd : (x == ("__debug__" : Str)) = false := by decide) : PD X ca Wx (.Name x pos) (eC (.int i)) := by
  obtain ⟨t, e⟩ := hm
  exact pd_c (v := .int i) (pe_glob hg e ⟨t, rfl⟩ hd) fun _ => rep_int
inductive StrsAre : List Value → List Str → Prop
  | nil : StrsAre [] []
  | cons {x : Str} {t : Tok} {vs : List Value} {xs : List Str} : StrsAre vs xs → StrsAre (.str x t :: vs) (x :: xs)
end
end DL
namespace DL
open PySem PySem.Spec PyProof.Rows L2

section
variable {P : Program} {w : World} {K : PySem.W.Frag} {mg : Str → Option Value} {base : Heap} {ca : CT} {k n : Nat} {x : Str} {F : List Wv → DH → Rs Wv}
theorem Can.g (c : Can P w K mg base ca k x n F) : CanG P w K mg base ca k x n F := by
  obtain ⟨f, fd, ps, G, m, b, kp⟩ := c
  exact ⟨f, fd, ps, .of G, m, b, kp⟩
end
section
variable {X : Cx} {ca : CT} {Wx : WX} {x : Str} {p pos : Pos} {e : Expr} {es : List Expr} {g : DS → DH → Rs (List Wv)} {k n : Nat} {Fd : List Wv → DH → Rs Wv}
end
/-- a block's scope, looked at -/
def blkC (N : List Str) (sc scope : Scope) (own : List (Str × Nat)) : Bool :=
  decide (scope.kind = .function) && scope.names.all (fun y => decide (scope.names.lookup y.1 = some y.2)) && own.all (fun p => decide (N[p.2]? = some p.1)) &&
  scope.names.all (fun y => !decide (y.2 = .free) || decide (sc.names.lookup y.1 = some .cell) || decide (sc.names.lookup y.1 = some .free)) &&
  scope.names.all (fun y => !(decide (y.2 = .local) || decide (y.2 = .cell)) || (own.map (·.1)).contains y.1 || !N.contains y.1)
theorem blk_by {N : List Str} {sc scope : Scope} {own : List (Str × Nat)} (h : blkC N sc scope own = true) : BlkOk N sc scope own := by
  unfold blkC at h
  simp only [Bool.and_eq_true, decide_eq_true_eq, List.all_eq_true, Bool.or_eq_true, Bool.not_eq_true', decide_eq_false_iff_not] at h
  obtain ⟨⟨⟨⟨h1, h2⟩, h3⟩, h4⟩, h5⟩ := h
  refine ⟨h1, h2, h3, fun y hy hf => ?_, fun y hy hf => ?_⟩
  · rcases h4 y hy with (z | z) | z
    · exact absurd hf z
    · exact .inl z
    · exact .inr z
  · rcases h5 y hy with (z | z) | z
    · exfalso
      have : ¬ (y.2 = .local ∨ y.2 = .cell) := by simpa using z
      exact this hf
    · left; simpa using z
    · right; simpa using z
/-- a def of the text as the top has written it -/
theorem hasFn_of {K : PySem.W.Frag} {h : Heap} {mg : Str → Option Value} {x : Str} {st : Stmt} {ps : List Str} {f : Addr} {oc kV doc pm cdv ct : Value} {od an : Option Addr} {osl : Array (Option Value)} (X : K.In h) (G : h.Ns mainGlobals mg)
    (a : PySem.W.nsIn K mainGlobals x = some (some (.ref f))) (l : K.lookup f = some ⟨oc, od, .func (PySem.W.fnOf x x (defArgs st) (defBody st) (defScope st) .none kV doc pm an cdv ct), osl⟩) (c : PySem.W.codeIn K cdv x = true) (k : PySem.W.keepIn K (.ref f) = true)
    (hb : ∀ (kV doc pm : Value) (an : Option Addr) (cdv ct : Value) (us : List Value), us.length = ps.length → bindArgs (PySem.W.fnOf x x (defArgs st) (defBody st) (defScope st) .none kV doc pm an cdv ct) ⟨us, []⟩ = pure (ps.zip us)) : HasFn K mg x st ps := by
  have F := fun_mk (st := st) l c k
  exact ⟨f, _, F, PySem.W.mg_of X G a, F.binds hb⟩
theorem int_of {K : PySem.W.Frag} {h : Heap} {mg : Str → Option Value} {x : Str} {i : Int} {t : Tok} (X : K.In h) (G : h.Ns mainGlobals mg) (a : PySem.W.nsIn K mainGlobals x = some (some (.int i t))) : ∃ t, mg x = some (.int i t) := ⟨t, PySem.W.mg_of X G a⟩
end DL
namespace DL
open PySem PySem.Spec PyProof.Rows L2
mutual
/-- no instance, no script in it -/
def pl : Dv → Bool
  | .tup xs => pls xs
  | .lst xs => pls xs
  | .scr _ => false
  | .dct _ xs => pls xs
  | .ins _ _ => false
  | .exc _ _ => false
  | .fn _ => false
  | _ => true
def pls : List Dv → Bool
  | [] => true
  | x :: xs => pl x && pls xs
end
/-- a loop that always comes to its end -/
theorem forGo_inv {g : Tg} {F : Sm} (I : DS → DH → Prop) : ∀ {xs : List Dv} {ds : DS} {h : DH},
    (∀ x ∈ xs, ∀ ds h, I ds h → ∃ ds1 h1 ds2 h2, g (.d x) ds h = .nx ds1 h1 ∧ F ds1 h1 = .nx ds2 h2 ∧ I ds2 h2) → I ds h → ∃ ds' h', forGo g F xs ds h = .nx ds' h' ∧ I ds' h'
  | [], ds, h, _, i => ⟨ds, h, rfl, i⟩
  | x :: xs, ds, h, st, i => by
    obtain ⟨ds1, h1, ds2, h2, e1, e2, i2⟩ := st x List.mem_cons_self ds h i
    obtain ⟨ds', h', e, i'⟩ := forGo_inv I (xs := xs) (fun y hy => st y (List.mem_cons_of_mem _ hy)) i2
    refine ⟨ds', h', ?_, i'⟩
    show (match g (.d x) ds h with | .nx ds1 h1 => _ | _ => _) = _
    rw [e1]
    dsimp only
    rw [e2]
    exact e
end DL
namespace DL
open PySem PySem.Spec PyProof.Rows L2
/-! ### what may be shown -/
def Cp (s : Str) : Prop := ∀ c ∈ s.cps.toList, c < 16 ^ 8
theorem Cp.of (s : String) : Cp (Str.ofString s) := fun c hc => by
  rw [Str.ofString_eq_toList] at hc
  simp at hc
  obtain ⟨a, _, rfl⟩ := hc
  have := a.valid
  have h2 : a.toNat < 1114112 := by
    rcases this with h | h
    · exact Nat.lt_trans h (by decide)
    · exact h.2
  omega
theorem Cp.app {a b : Str} (x : Cp a) (y : Cp b) : Cp (a ++ b) := fun c hc => by
  have h : c ∈ (a.cps ++ b.cps).toList := hc
  rw [Array.toList_append] at h
  rcases List.mem_append.mp h with z | z
  · exact x c z
  · exact y c z
theorem Cp.join {sep : Str} (hs : Cp sep) : ∀ {ts : List Str}, (∀ t ∈ ts, Cp t) → Cp (Str.join sep ts)
  | [], _ => fun c hc => by
    have h : c ∈ (#[] : Array Nat).toList := hc
    simp at h
  | [x], h => h x List.mem_cons_self
  | x :: y :: r, h => ((h x List.mem_cons_self).app hs).app (Cp.join hs (ts := y :: r) fun t ht => h t (List.mem_cons_of_mem _ ht))
theorem Cp.from : ∀ {ts : List Str} {k : Nat} {acc : Str}, Cp acc → (∀ t ∈ ts, Cp t) → Cp (textFrom k acc ts)
  | [], _, _, h, _ => h
  | t :: ts, k, acc, h, hs => by
    refine Cp.from (ts := ts) (k := k + 1) ((h.app (Cp.of _)).app (hs t List.mem_cons_self)) fun u hu => hs u (List.mem_cons_of_mem _ hu)
theorem Cp.lst {ts : List Str} (h : ∀ t ∈ ts, Cp t) : Cp (listText ts) := (Cp.from (Cp.of _) h).app (Cp.of _)
theorem Cp.tup {ts : List Str} (h : ∀ t ∈ ts, Cp t) : Cp (tupleText ts) := ((Cp.of _).app ((Cp.of _).join h)).app (Cp.of _)
def noD (x : Dv) : Bool := !(pyr x).hasDict
structure Okx (p : Dv → Bool) (n k : Nat) (x : Dv) : Prop where
  pl : pl x = true
  p : p x = true
  sh : (pyr x).showable = true
  dp : (pyr x).depth ≤ k
  ln : (pyr x).shown.length ≤ n
  cp : Cp (pyr x).shown
theorem Okx.mono {p : Dv → Bool} {n k m l : Nat} {x : Dv} (h : Okx p n k x) (h1 : n ≤ m) (h2 : k ≤ l) : Okx p m l x := ⟨h.pl, h.p, h.sh, Nat.le_trans h.dp h2, Nat.le_trans h.ln h1, h.cp⟩
mutual
theorem pl_noI : ∀ {x : Dv}, pl x = true → noI x = true
  | .non, _ => by simp [noI]
  | .bl _, _ => by simp [noI]
  | .int _, _ => by simp [noI]
  | .str _, _ => by simp [noI]
  | .tup xs, h => by simp only [noI]; exact pls_noIs (by simpa [pl] using h)
  | .lst xs, h => by simp only [noI]; exact pls_noIs (by simpa [pl] using h)
  | .scr xs, h => by simp [pl] at h
  | .dct ks xs, h => by simp only [noI]; exact pls_noIs (by simpa [pl] using h)
  | .ins _ _, h => by simp [pl] at h
  | .exc _ _, h => by simp [pl] at h
  | .fn _, h => by simp [pl] at h
theorem pls_noIs : ∀ {xs : List Dv}, pls xs = true → noIs xs = true
  | [], _ => by simp [noIs]
  | x :: xs, h => by
    have h' : pl x = true ∧ pls xs = true := by simpa [pls] using h
    simp [noIs, pl_noI h'.1, pls_noIs h'.2]
end
theorem Okx.repr {p : Dv → Bool} {n k : Nat} {x : Dv} (h : Okx p n k x) (hp : p = noL ∨ p = noD) (h1 : n ≤ 1000000) (h2 : k ≤ 60) : reprD x = some (pyr x).shown := by
  unfold reprD
  rw [if_pos]
  exact ⟨pl_noI h.pl, h.sh, Nat.le_trans h.dp h2, Nat.le_trans h.ln h1⟩
theorem Okx.int {p : Dv → Bool} (hp : p = noL ∨ p = noD) {i : Int} (h : i.natAbs < 10 ^ 40) : Okx p 41 0 (.int i) := by
  refine ⟨by simp [DL.pl], ?_, ?_, by simp [pyr, PyData.depth], ?_, ?_⟩
  · rcases hp with rfl | rfl
    · simp [noL]
    · simp [noD, pyr, PyData.hasDict]
  · simp only [pyr, PyData.showable, decide_eq_true_eq]
    have : i.natAbs.log2 < 1920 := by
      by_cases z : i.natAbs = 0
      · rw [z]; decide
      · exact (Nat.log2_lt z).mpr (Nat.lt_trans h (by decide))
    exact this
  · simp only [pyr, PyData.shown]
    have := int_text_length_le10 (a := i) (k := 40) (by decide) h
    rw [show ((toString i : String) : Str).length = (toString i).length from PySem.ofString_length _]
    omega
  · simp only [pyr, PyData.shown]
    exact Cp.of _
end DL
namespace DL
open PySem PySem.Spec PyProof.Rows L2 HT

/-! ### t[::-1], t a tuple -/
section
variable {prog : Program} {w : World} {A : Around} {E : Value → Shared → Prop} {s : Shared}
end
section
variable {X : Cx}
end
end DL
namespace DL
open PySem PySem.Spec PyProof.Rows L2

/-! ### zip of two lists, of two tuples, of one of each -/
/-! ### zip of a tuple, a list in any mix (true: a tuple) -/
def ObB (k : Bool) (h : Heap) (a : Addr) (its : Array Value) : Prop := cond k (h.IsTuple a its) (h.IsList a its)
def ItB (k : Bool) (h : Heap) (it a : Addr) (i : Nat) : Prop := cond k (h.IsTupleIter it a i) (h.IsListIter it a i)
def obB (k : Bool) (a : Addr) : Obj := { cls := .type (cond k "tuple_iterator" "list_iterator"), data := .fields #[.ref a, .int 0 0] }
theorem ObB.at {k : Bool} {h h' : Heap} {a : Addr} {its : Array Value} (x : ObB k h a its) (e : ∀ o, h.get? a = some o → h'.get? a = some o) : ObB k h' a its := by
  cases k
  · exact Heap.IsList.at x e
  · exact Heap.IsTuple.at x e
theorem ItB.at {k : Bool} {h h' : Heap} {it a : Addr} {i : Nat} (x : ItB k h it a i) (e : ∀ o, h.get? it = some o → h'.get? it = some o) : ItB k h' it a i := by
  cases k
  · exact Heap.IsListIter.at x e
  · exact Heap.IsTupleIter.at x e
theorem ItB.ob {k : Bool} {h : Heap} {it a : Addr} {i : Nat} (x : ItB k h it a i) : ∃ o, h.get? it = some o ∧ ∀ v, o.data ≠ .cell v := by
  cases k
  · obtain ⟨o, e, _, d⟩ := x
    exact ⟨o, e, fun v q => by rw [d] at q; cases q⟩
  · obtain ⟨o, e, _, d⟩ := x
    exact ⟨o, e, fun v q => by rw [d] at q; cases q⟩
theorem ItB.new {k : Bool} {h : Heap} {it a : Addr} (e : h.get? it = some (obB k a)) : ItB k h it a 0 := by
  cases k
  · exact ⟨_, e, rfl, rfl⟩
  · exact ⟨_, e, rfl, rfl⟩
section
variable {prog : Program} {w : World} {A : Around}
end
section
variable {X : Cx} {pins : List (Addr × Obj)} {σ : L2.St} {H : Hp} {s : Shared} {k : Bool} {a : Addr} {xs ys : List V}
end
section
variable {X : Cx} {ca : CT} {Wx : WX} {e e2 : Expr} {g : DS → DH → Rs (List Wv)} {pos p tpos : Pos} {elts : List Expr} {kk : Nat}
end
end DL
namespace DL
open PySem PySem.Spec PyProof.Rows L2

/-! ### sorted, of ints -/
end DL
namespace DL
open PySem PySem.Spec PyProof.Rows L2

/-! ### attributes -/
theorem lookup_at : ∀ {fv : List (Str × V)} {i : Nat} {f : Str} {v : V}, (fv.map (·.1)).Nodup → (fv.map (·.1))[i]? = some f → (fv.map (·.2))[i]? = some v → fv.lookup f = some v
  | [], i, f, v, _, h, _ => by simp at h
  | (g, u) :: fv, 0, f, v, _, h, k => by
    simp at h k
    subst h; subst k
    simp [List.lookup]
  | (g, u) :: fv, i + 1, f, v, n, h, k => by
    have n' := List.nodup_cons.mp n
    have h' : (fv.map (·.1))[i]? = some f := by simpa using h
    have k' : (fv.map (·.2))[i]? = some v := by simpa using k
    have ne : ¬ f = g := fun e => by
      subst e
      exact n'.1 (List.mem_of_getElem? h')
    have : (f == g) = false := beq_eq_false_iff_ne.mpr ne
    rw [List.lookup, this]
    exact lookup_at n'.2 h' k'
/-- where an attribute stands in its classes -/
structure Fld (K : PySem.W.Frag) (ca : CT) (f : Str) (t : List (Nat × Nat)) : Prop where
  ok : ∀ c i, t.lookup c = some i → (ca.FS c)[i]? = some f ∧ (ca.FS c).Nodup ∧ Cls K (ca.CA c) ∧ NoAttr K (ca.CA c) f
section
variable {X : Cx} {ca : CT} {Wx : WX} {e : Expr} {f : DS → DH → Rs Wv} {n : Str} {pos : Pos} {t : List (Nat × Nat)}
end
end DL
namespace DL
open PySem PySem.Spec PyProof.Rows L2

/-! ### an attribute is stored -/
theorem RepWs.app {G : Ctx} {S : Wd} : ∀ {a b : List Wv} {u v : List V}, RepWs G S a u → RepWs G S b v → RepWs G S (a ++ b) (u ++ v)
  | [], b, u, v, h, k => by rw [show u = [] from h]; exact k
  | x :: a, b, u, v, ⟨w, r, e, p, q⟩, k => by subst e; exact ⟨w, r ++ v, rfl, p, RepWs.app q k⟩
theorem RepWs.set {G : Ctx} {S : Wd} {d : Wv} {v : V} (p : RepW G S d v) : ∀ (n : Nat) {a : List Wv} {u : List V}, RepWs G S a u → RepWs G S (a.set n d) (u.set n v)
  | n, [], u, h => by rw [show u = [] from h]; rfl
  | 0, x :: a, u, ⟨w, r, e, _, q⟩ => by subst e; exact ⟨v, r, rfl, p, q⟩
  | n + 1, x :: a, u, ⟨w, r, e, p', q⟩ => by subst e; exact ⟨w, r.set n v, rfl, p', RepWs.set p n q⟩
section
variable {X : Cx} {ca : CT} {Wx : WX} {o value : Expr} {fo fv : DS → DH → Rs Wv} {n : Str} {pos pos' : Pos} {t : List (Nat × Nat)}
end
end DL
namespace DL
open PySem PySem.Spec PyProof.Rows L2

/-! ### methods that raise nothing -/
section
variable {X : Cx} {ca : CT} {Wx : WX} {o e : Expr} {es : List Expr} {f : DS → DH → Rs Wv} {g : DS → DH → Rs (List Wv)} {m : Str} {apos pos : Pos} {c k n : Nat} {F : List Wv → DH → Rs Wv}
end
end DL
namespace DL
open PySem PySem.Spec PyProof.Rows L2

/-! ### a thing that may change is sealed: from here on it is data -/
def DO.seal : DO → Option Dv
  | .lst xs => some (.lst xs)
  | .dct kvs => some (.dct (kvs.map (·.1)) (kvs.map (·.2)))
  | .ins c ws => (match allD ws with
    | some xs => some (.ins c xs)
    | none => none)
  | .box _ _ => none
  | .gone => none
def Wd.seal (S : Wd) (n : Nat) (ob : HO) : Wd := { S with Z := upd S.Z (S.μ n) ob, h := S.h.set n .gone }
theorem Ok.seal {G : Ctx} {S : Wd} (ok : Ok G S) {n : Nat} {o : DO} {ob : HO} (hn : S.h[n]? = some o) (hl : o.live = true) (hH : S.H (S.μ n) = some ob) : Ext S (S.seal n ob) ∧ Ok G (S.seal n ob) := by
  have hlt : n < S.h.length := (List.getElem?_eq_some_iff.mp hn).1
  have hz := ok.sep n o hn hl
  have hzz : ZLe S.Z (upd S.Z (S.μ n) ob) := fun a u h => by
    have : a ≠ S.μ n := fun z => by rw [z, hz] at h; cases h
    rw [upd_ne this]; exact h
  have old : ∀ {m : Nat} {u : DO}, (S.h.set n .gone)[m]? = some u → (u = .gone) ∨ (m ≠ n ∧ S.h[m]? = some u) := fun {m u} h => by
    by_cases e : n = m
    · subst e
      rw [List.getElem?_set_self hlt] at h
      cases h; exact .inl rfl
    · rw [List.getElem?_set_ne e] at h
      exact .inr ⟨fun z => e z.symm, h⟩
  have len : (S.seal n ob).h.length = S.h.length := List.length_set ..
  refine ⟨⟨hzz, fun _ _ => rfl, Nat.le_of_eq len.symm, fun m v h lv => ?_, fun a u h _ => .inl h, fun a u h => ⟨u, h⟩, fun m u hm h => ?_, fun a u h => ?_⟩, ⟨fun a u h => ?_, fun m u h => ?_, fun m u h l => ?_, fun m1 m2 u1 u2 h1 h2 l1 l2 e => ?_, ok.bz.trans hzz, ok.tb⟩⟩
  · show (S.h.set n .gone)[m]? = _
    by_cases e : n = m
    · subst e; rw [hn] at h; cases h; rw [hl] at lv; cases lv
    · rw [List.getElem?_set_ne e]; exact h
  · have := (List.getElem?_eq_some_iff.mp h).1
    rw [len] at this
    omega
  · have h' : upd S.Z (S.μ n) ob a = some u := h
    by_cases e : a = S.μ n
    · exact .inr (.inr ⟨n, o, hn, hl, e.symm⟩)
    · rw [upd_ne e] at h'; exact .inl h'
  · have h' : upd S.Z (S.μ n) ob a = some u := h
    by_cases e : a = S.μ n
    · subst e
      rw [upd_same] at h'
      cases h'
      exact .inl hH
    · rw [upd_ne e] at h'
      exact ok.sub a u h'
  · rcases old h with rfl | ⟨ne, h'⟩
    · trivial
    · exact OR.of_eq (S := S) (S' := S.seal n ob) (h := ok.obj m u h') hzz (fun _ _ => rfl) (Nat.le_of_eq len.symm) rfl
  · rcases old h with rfl | ⟨ne, h'⟩
    · cases l
    · show upd S.Z (S.μ n) ob (S.μ m) = none
      rw [upd_ne fun e => ne (ok.inj m n u o h' hn l hl e)]
      exact ok.sep m u h' l
  · rcases old h1 with rfl | ⟨n1, h1'⟩
    · cases l1
    · rcases old h2 with rfl | ⟨n2, h2'⟩
      · cases l2
      · exact ok.inj _ _ _ _ h1' h2' l1 l2 e
/-- how many attributes the classes have -/
def Ars (ca : CT) (t : List (Nat × Nat)) : Prop := ∀ c k, t.lookup c = some k → (ca.FS c).length = k
def slR (t : List (Nat × Nat)) (w : Wv) (h : DH) : Rs Wv := match w with
  | .d x => .ok (.d x) h
  | .r n => (match h[n]? with
    | some (.lst xs) => .ok (.d (.lst xs)) (h.set n .gone)
    | some (.dct kvs) => .ok (.d (.dct (kvs.map (·.1)) (kvs.map (·.2)))) (h.set n .gone)
    | some (.ins c ws) => if t.lookup c = some ws.length then (match allD ws with
      | some xs => .ok (.d (.ins c xs)) (h.set n .gone)
      | none => .bad) else .bad
    | _ => .bad)
theorem seal_post {G : Ctx} {Wx : WX} {S : Wd} {σ : L2.St} {t : List (Nat × Nat)} {w : Wv} {v : V} {Q : VK} (hA : Ars G.T t) (ok : Ok G S) (r : RepW G S w v) (p : PostE G Wx (RW G) S σ (slR t w S.h) Q) : Q v S.H := by
  unfold slR at p
  split at p
  · exact p.here ok r
  · rename_i n
    have hv : v = V.ref (S.μ n) := r.2
    subst hv
    split at p
    · rename_i xs hn
      obtain ⟨vs, hH, rr⟩ := ok.obj n _ hn
      obtain ⟨e, ok2⟩ := ok.seal hn rfl hH
      exact p (S.seal n (.lst vs)) _ e rfl ok2 (show RepW G _ (.d (.lst xs)) _ from rep_lst.mpr ⟨_, vs, rfl, upd_same, Reps.up e.zz rr⟩)
    · rename_i kvs hn
      obtain ⟨kv, hH, hk, rr⟩ := ok.obj n _ hn
      obtain ⟨e, ok2⟩ := ok.seal hn rfl hH
      exact p (S.seal n (.dK kv)) _ e rfl ok2 (show RepW G _ (.d (.dct _ _)) _ from rep_dct.mpr ⟨_, kv, rfl, upd_same, hk, Reps.up e.zz rr⟩)
    · rename_i c ws hn
      split at p
      · rename_i hc
        split at p
        · rename_i xs hx
          obtain ⟨dx, fv, hH, hf, rr⟩ := ok.obj n _ hn
          obtain ⟨e, ok2⟩ := ok.seal hn rfl hH
          have hl := hA c _ hc
          have hf' : fv.map (·.1) = G.T.FS c := by rw [hf, ← hl, List.take_length]
          exact p (S.seal n (.ins (G.T.CA c) dx fv)) _ e rfl ok2 (show RepW G _ (.d (.ins c xs)) _ from rep_ins.mpr ⟨_, dx, fv, rfl, upd_same, hf', Reps.up e.zz (allD_reps hx rr)⟩)
        · exact p.elim
      · exact p.elim
    · exact p.elim
theorem pd_seal {X : Cx} {ca : CT} {Wx : WX} {e : Expr} {f : DS → DH → Rs Wv} {t : List (Nat × Nat)} (hA : Ars ca t) (he : PD X ca Wx e f) : PD X ca Wx e (b1 f (slR t)) :=
  PE.imp he fun σ H Q z => by
    refine (b1_imp (R1 := RW (gx X ca)) z).mono ?_
    rintro x H1 ⟨S0, S, a, rfl, e1, eH, ok, r, q⟩
    exact seal_post (G := gx X ca) hA ok r (q.later (RW.shift _) e1)
end DL
namespace DL
open PySem PySem.Spec PyProof.Rows L2

/-! ### a new instance of a class whose __init__ raises nothing -/
section
variable {X : Cx} {ca : CT} {Wx : WX} {x : Str} {e : Expr} {es : List Expr} {g : DS → DH → Rs (List Wv)} {p pos : Pos} {c k n : Nat} {F : List Wv → DH → Rs Wv}
end
end DL
namespace DL
open PySem PySem.Spec PyProof.Rows L2

/-! ### dict(d) -/
end DL
namespace DL
open PySem PySem.Spec PyProof.Rows L2

/-! ### readings of loops, apart -/
theorem PE.or {X : Cx} {e : Expr} {t t' : TE} (h : PE X e t) (h' : PE X e t') : PE X e (fun σ H Q => t σ H Q ∨ t' σ H Q) := ⟨fun pins s σ H Q I z => z.elim (h.run pins s σ H Q I) (h'.run pins s σ H Q I)⟩
theorem PS.or {X : Cx} {e : Stmt} {t t' : TS} (h : PS X e t) (h' : PS X e t') : PS X e (fun D σ H => t D σ H ∨ t' D σ H) := ⟨fun pins s σ H D I z => z.elim (h.run pins s σ H D I) (h'.run pins s σ H D I)⟩
/-! ### a dict is locked while it is walked -/
def Wd.lock (S : Wd) (d : Addr) (u : HO) : Wd := { S with H := upd S.H d u }
section
variable {G : Ctx} {S : Wd} {d : Addr} {kv : List (Key × V)} {od : Obj}
theorem Ok.noOwn (ok : Ok G S) {u : HO} (hz : S.Z d = some u) : ¬ Own S d := fun ⟨n, o, h, l, e⟩ => by
  have := ok.sep n o h l
  rw [e, hz] at this
  cases this
theorem tab_lock {H : Hp} {d : Addr} {u : HO} (hd : ∀ o, H d = some o → (∀ ps, o ≠ .tbl ps) ∧ ∀ φ, o ≠ .ext φ) (o' : HO) : ∀ {P : Addr} {q : Str}, LamX.TabS H P q → LamX.TabS (upd H d o') P q := fun {P q} t => tab_step t fun b x h hx => by
  have : b ≠ d := fun z => by
    rw [z] at h
    rcases hx with ⟨ps, e⟩ | ⟨φ, e⟩
    · exact (hd _ h).1 ps e
    · exact (hd _ h).2 φ e
  rw [upd_ne this]; exact h
theorem Ok.lock_at (ok : Ok G S) (hz : S.Z d = some (.dK kv)) : ∀ o, S.H d = some o → (∀ ps, o ≠ .tbl ps) ∧ ∀ φ, o ≠ .ext φ := fun o h => by
  rcases ok.sub d _ hz with z | ⟨kv', ob, _, z⟩ | ⟨_, _, z, _⟩
  · rw [h] at z; cases z; exact ⟨fun _ z => (by cases z), fun _ z => (by cases z)⟩
  · rw [h] at z; cases z; exact ⟨fun _ z => (by cases z), fun _ z => (by cases z)⟩
  · cases z
theorem Ok.lock_tab (ok : Ok G S) (hz : S.Z d = some (.dK kv)) (o' : HO) {P : Addr} {q : Str} (t : LamX.TabS S.H P q) : LamX.TabS (upd S.H d o') P q := tab_lock (u := o') (ok.lock_at hz) o' t
theorem Ok.lock (ok : Ok G S) (hz : S.Z d = some (.dK kv)) : Ok G (S.lock d (.frz od (.dK kv))) := by
  refine ⟨fun a o h => ?_, fun n o h => ?_, ok.sep, ok.inj, ok.bz, fun x hx => ok.lock_tab hz _ (ok.tb x hx)⟩
  · by_cases e : a = d
    · subst e
      have h' : S.Z a = some o := h
      rw [hz] at h'
      cases h'
      exact .inr (.inl ⟨kv, od, rfl, upd_same⟩)
    · show upd S.H d _ a = _ ∨ _
      rcases ok.sub a o h with z | ⟨k2, ob, e1, e2⟩ | ⟨ps, ps', e1, e2⟩
      · left; rw [upd_ne e]; exact z
      · right; left; exact ⟨k2, ob, e1, (upd_ne e).trans e2⟩
      · right; right; exact ⟨ps, ps', e1, (upd_ne e).trans e2⟩
  · by_cases l : o.live = true
    · have ne : S.μ n ≠ d := fun e => ok.noOwn hz ⟨n, o, h, l, e⟩
      exact OR.of_eq (S := S) (S' := S.lock d _) (h := ok.obj n o h) (ZLe.refl _) (fun _ _ => rfl) (Nat.le_refl _) (upd_ne ne)
    · exact (ok.obj n o h).dead (S' := S.lock d _) l (ZLe.refl _) (fun _ _ => rfl) (Nat.le_refl _)
end
end DL
namespace DL
open PySem PySem.Spec PyProof.Rows L2

/-! ### d.get(k, x) -/
section
variable {X : Cx} {ca : CT} {Wx : WX} {o e1 e2 : Expr} {f g k : DS → DH → Rs Wv} {apos cpos : Pos}
end

/-! ### sorted of a list of ints, of a dict with int keys -/
/-! ### an instance is sealed with what its attributes refer to -/
/-! ### methods of an instance that is data, with data: a world of their own -/
section
variable {X : Cx} {ca : CT} {Wx : WX} {o e : Expr} {es : List Expr} {f : DS → DH → Rs Wv} {g : DS → DH → Rs (List Wv)} {m : Str} {apos pos : Pos} {c k n : Nat} {F : List Wv → DH → Rs Wv}
end
end DL
namespace DL
open PySem PySem.Spec PyProof.Rows L2

/-! ### what the top has written of classes -/
def mkCT (cs : List Addr) (fs : List (List Str)) : CT := ⟨fun i => cs.getD i 0, fun i => fs.getD i [], fun _ => none, []⟩
theorem ars_nil {ca : CT} : Ars ca [] := fun c k h => by cases h
section
variable {P : Program} {w : World} {K : PySem.W.Frag} {mg : Str → Option Value} {base : Heap} {ca : CT} {k c : Nat} {x m qual : Str} {st : Stmt} {N ps : List Str} {B : Sm}
end
/-! ### the end, whatever the classes' places are -/
def spT (K : PySem.W.Frag) (n : Nat) : Sp := fun vs H Q _ => ∃ (a : Addr) (ns : List Int), vs = [.ref a] ∧ SqL K H a (ns.map V.int) ∧ ns.length ≤ n ∧ ∀ H', Q (.bl true) H'
theorem FnG.toT {P : Program} {w : World} {K : PySem.W.Frag} {mg : Str → Option Value} {base : Heap} {ca : CT} {k n : Nat} {f : Addr} {fd : FuncData} {x : Str} {F : List Wv → DH → Rs Wv} (h : FnG P w K mg base k f fd [x] (spD ⟨K, ca⟩ 1 F))
    (hT : ∀ ns : List Int, ns.length ≤ n → ∃ h', F [.d (scrD ns)] [] = .ok (.d (.bl true)) h') (hbz : ca.bZ = fun _ => none := by rfl) (htl : ca.TL = [] := by rfl) : FnG P w K mg base k f fd [x] (spT K n) where
  ln := fun vs H Q E ⟨a, ns, e, _⟩ => by rw [e]; rfl
  go := fun A outer s H args us vs Q E hr hG e0 hb r ⟨a, ns, e, hs, hl, q⟩ => h.go A outer s H args us vs Q E hr hG e0 hb r (by
    subst e
    refine ⟨rfl, ⟨H, fun _ => 0, H, []⟩, [.d (scrD ns)], rfl, ?_, ?_, ?_⟩
    · exact ⟨fun a o h => .inl h, fun n o h => by simp at h, fun n o h => by simp at h, fun n m o p h => by simp at h, fun a o h => (by rw [hbz] at h; cases h), fun p hp => (by rw [htl] at hp; cases hp)⟩
    · exact ⟨_, [], rfl, rep_scr.mpr ⟨a, _, rfl, hs, reps_ints ns⟩, rfl⟩
    · obtain ⟨h', e⟩ := hT ns hl
      show PostE _ _ _ _ _ (F [.d (scrD ns)] []) _
      rw [e]
      intro S' b _ _ _ r
      rw [show b = V.bl true from rw_bl r]
      exact q S'.H)
end DL
namespace DLX
open PySem PySem.Spec PyProof.Rows L2
/-! ### set(xs), xs a list of ints: a set that can be walked -/
section
variable {P : Program} {w : World} {A : Around} {E : Value → Shared → Prop} {s : Shared}
end
end DLX
namespace DL
open PySem PySem.Spec PyProof.Rows L2

/-! ### sets of ints, made and used at once -/
section
variable {X : Cx} {ca : CT} {Wx : WX} {a : Expr} {g : DS → DH → Rs (List Wv)} {p p2 q pos : Pos}
/-! ### list(range(n)), tuple(range(n)) -/
variable {f : DS → DH → Rs Wv}
end

/-! ### (a, b) = a list -/
/-! ### d.setdefault(k, x) -/
/-! ### xs.pop(i) -/
end DL
namespace DL
open PySem PySem.Spec PyProof.Rows L2
end DL
namespace DL
open PySem PySem.Spec PyProof.Rows L2
section
variable {X : Cx} {ca : CT} {Wx : WX} {pos : Pos}
end
end DL
/-! DL36: a is b, of bools -/
namespace DL
open PySem PySem.Spec PyProof.Rows L2
end DL
/-! DL37: xs[i] += e, whole numbers -/
namespace DL
open PySem PySem.Spec PyProof.Rows L2
section
variable {X : Cx} {ca : CT} {Wx : WX} {o i e : Expr} {f g k : DS → DH → Rs Wv} {tpos pos : Pos}
end
end DL
/-! DL38: a list comprehension stored in a name whose list is changed later -/
namespace DL
open PySem PySem.Spec PyProof.Rows L2
section
variable {X : Cx} {ca : CT} {Wx : WX}
end
end DL
namespace DL
open PySem PySem.Spec PyProof.Rows L2

/-! ### sorted of a list of data -/
section
variable {X : Cx}
end
/-! ### the plain function -/
end DL
namespace DL
open PySem PySem.Spec PyProof.Rows L2
end DL
/-! DLV: rules by which a plain function is evaluated step by step (for the tactic of wip/ev.macro) -/
namespace DL
open PySem PySem.Spec PyProof.Rows L2
section
variable {α β γ δ ε : Type} {ds ds1 ds2 ds' : DS} {h h1 h2 h3 h4 h' : DH}
/-! what holds behind a statement -/
inductive wS (r : So) (Q : DS → DH → Prop) (R : Wv → DH → Prop) : Prop
  | i1 {ds : DS} {h : DH} (e : r = .nx ds h) (k : Q ds h) : wS r Q R
  | i2 {w : Wv} {h : DH} (e : r = .rt w h) (k : R w h) : wS r Q R
variable {Q : DS → DH → Prop} {R : Wv → DH → Prop}
theorem wS.mono {r : So} {Q Q' : DS → DH → Prop} {R R' : Wv → DH → Prop} (h : wS r Q R) (q : ∀ ds h, Q ds h → Q' ds h) (q' : ∀ w h, R w h → R' w h) : wS r Q' R' := by
  cases h with
  | i1 e k => exact .i1 e (q _ _ k)
  | i2 e k => exact .i2 e (q' _ _ k)
theorem wS.nx {r : So} {Q : DS → DH → Prop} (h : wS r Q (fun _ _ => False)) : ∃ ds' h', r = .nx ds' h' ∧ Q ds' h' := by
  cases h with
  | i1 e k => exact ⟨_, _, e, k⟩
  | i2 e k => exact k.elim
theorem wS.rt {r : So} {R : Wv → DH → Prop} (h : wS r (fun _ _ => False) R) : ∃ w h', r = .rt w h' ∧ R w h' := by
  cases h with
  | i1 e k => exact k.elim
  | i2 e k => exact ⟨_, _, e, k⟩
inductive wE {α : Type} (r : Rs α) (P : α → DH → Prop) : Prop
  | mk {a : α} {h : DH} (e : r = .ok a h) (k : P a h) : wE r P
section
variable {P : α → DH → Prop}
theorem wE.ok {r : Rs α} (k : wE r P) : ∃ a h', r = .ok a h' ∧ P a h' := by
  cases k with
  | mk e k => exact ⟨_, _, e, k⟩
end
theorem wE.mono {α : Type} {r : Rs α} {P P' : α → DH → Prop} (k : wE r P) (m : ∀ a h, P a h → P' a h) : wE r P' := by
  cases k with
  | mk e k => exact .mk e (m _ _ k)
section
variable {P : Wv → DH → Prop} {PL : List Wv → DH → Prop} {PB : Bool → DH → Prop} {PD : DO → DH → Prop} {PO : Option Int → DH → Prop}
theorem vV {i : Nat} {w : Wv} (e : ds[i]? = some (some w)) (k : P w h) : wE (eV i ds h) P := .mk (by simp only [eV, e]) k
theorem vC {x : Dv} (k : P (.d x) h) : wE (eC x ds h) P := .mk rfl k
end
theorem k_isT {t : Ty} {w : Wv} {s : String} {b : Bool} (e : tyN w h = some s) (e2 : isK s t = b) : isT t w h = .ok (.d (.bl b)) h := by simp only [isT, e, e2]
theorem k_neS {a b : Str} : opNe (.d (.str a)) (.d (.str b)) h = .ok (!decide (a = b)) h := by simp [opNe, opEq, eqD, scD, eqS]
theorem k_itRa {i : Int} {n : Nat} (g : i.natAbs < 1000000000) (e : i.toNat = n) : itRa (.d (.int i)) h = .ok (rng 0 n) h := by simp only [itRa, g, if_true, e]
theorem k_cL {n : Nat} {xs : List Dv} (e1 : h[n]? = some (.lst xs)) : cLst (.r n) h = true := by simp [cLst, lstOf, e1]
end
/-! bodies with break and continue -/
section
variable {ds : DS} {h : DH} {Q B : DS → DH → Prop} {R : Wv → DH → Prop}
/-- .. that may end the walk -/
inductive wU (r : So) (Q Q' : DS → DH → Prop) (R : Wv → DH → Prop) (B : DS → DH → Prop) : Prop
  | i1 {ds : DS} {h : DH} (e : r = .nx ds h) (k : Q ds h) : wU r Q Q' R B
  | i2 {w : Wv} {h : DH} (e : r = .rt w h) (k : R w h) : wU r Q Q' R B
  | i3 {ds : DS} {h : DH} (e : r = .bk ds h) (k : B ds h) : wU r Q Q' R B
  | i4 {ds : DS} {h : DH} (e : r = .ct ds h) (k : Q' ds h) : wU r Q Q' R B
section
variable {Q' : DS → DH → Prop}
theorem wU.of {r : So} (k : wS r Q R) : wU r Q Q' R B := by
  cases k with
  | i1 e k => exact .i1 e k
  | i2 e k => exact .i2 e k
end
end
end DL
namespace DL
open PySem PySem.Spec PyProof.Rows L2

/-! ### sorted of a tuple of data that are no tuples -/
section
variable {prog : Program} {w : World} {A : Around} {E : Value → Shared → Prop} {s : Shared}
end
section
variable {X : Cx}
end
end DL
namespace DL
open PySem PySem.Spec PyProof.Rows L2

/-! ### the greatest, the least of some whole numbers; the least of some tuples of whole numbers -/
section
variable {X : Cx}
end
end DL
namespace DL
open PySem PySem.Spec PyProof.Rows L2

/-! ### list(range(i, j, c)), sorted(set(..)) of many ints of which few are unlike -/
section
variable {X : Cx} {ca : CT} {Wx : WX} {a b c : Expr} {g : DS → DH → Rs (List Wv)} {p p2 q pos : Pos}
end
end DL
namespace DL
open PySem PySem.Spec PyProof.Rows L2
open PySem.SeqAt PySem.MeetsSeq
open PySem.AutoSeq1 (wpAny_loadPart')

/-! ### dicts are no tuples and no numbers -/
section
variable {A : Around} {s : Shared}
end

/-! ### x in a list of tuples of whole numbers, x of any kind -/
/-! ### == of lists that may change -/
end DL
namespace L2
open PySem PySem.Spec PyProof.Rows
section
variable {X : Cx} {x : Str} {CE : Addr} {ta : TA} {e : Expr} {es : List Expr} {p1 p2 pos : Pos}
/-- B.__init__(self, ..), B an own class without own __init__ whose first base with one is ValueError -/
theorem pe_cinit {pl : Sem Bool} (hg : Gl X x) (hm : X.mg x = some (.ref CE)) (gC : PySem.W.specialIn X.K (.ref CE) "__getattribute__" = some (some (.builtin "type.__getattribute__")))
    (tC : PySem.W.typeIn X.K (.ref CE) = some (.type "type")) (rC : PySem.W.readsIn X.K CE (.type "type") = true) (vC : PySem.W.findCls X.K (.ref CE) (.type "type") "__init__" = some (.val (.builtin "ValueError.__init__"))) (ha : PA X (e :: es) ta)
    (hd : (x == ("__debug__" : Str)) = false := by decide)
    (hc : eval (.Call (.Attribute (.Name x p1) "__init__" p2) (e :: es) [] pos) X.env = (do
      let ov ← eval (.Name x p1) X.env
      standAt p2.atName
      let (f, first) ← holding [ov] (getMethod ov "__init__" pl)
      callWith pos f first (backTo pos (starEach (e :: es) X.env)) (backToKw pos (keywordEach [] X.env))) := by rfl)
    (he : starEach (e :: es) X.env = (false, eval e X.env) :: starEach es X.env := by rfl) (hpl : (backTo pos (starEach es X.env)).any (·.1) = false := by rfl) :
    PE X (.Call (.Attribute (.Name x p1) "__init__" p2) (e :: es) [] pos) (tVeI X.K ta) := by
  refine ⟨fun pins s σ H Q I h => ?_⟩
  refine PySem.W.methodCall_KW (ld_glob I hg hm ?_ hd) hc
  obtain ⟨m, fr⟩ := I.fr
  refine PySem.W.method_of_cls fr I.ok.mod.kin gC (PySem.W.cls_val fr I.ok.mod.kin tC rC vC (by decide +kernel) ?_)
  show wpAny _ _ (callWith pos (Value.builtin "ValueError.__init__") [] (backTo pos (starEach (e :: es) X.env)) []) _ _ _
  refine PyProof.Rows.callWith_method1 (thn (ha.run pos pins _ σ H _ (I.tok _) h) fun us s1 ⟨vs, H1, I1, r1, a, C, ws, ev, hl, T, ea, q⟩ => ?_) he hpl
  subst ev
  cases r1 with
  | @cons _ u0 _ ur ra rw' =>
    obtain rfl : u0 = Value.ref a := ra
    have hlen : ur.length ≤ sizeLine := by
      rw [← Paired.length rw', sizeLine_eq]
      omega
    exact oinit_ok T I1 ea hlen fun s' J => ⟨.non, H1, J, rfl, q⟩
end
end L2
namespace DL
open PySem PySem.Spec PyProof.Rows L2

/-! ### dict(xs) of a list of pairs -/
end DL
namespace DL
open PySem PySem.Spec PyProof.Rows L2

/-! ### t > u of tuples of whole numbers -/
end DL
namespace DL
open PySem PySem.Spec PyProof.Rows L2

/-! ### a list that is changed no more is data from here on (no step of the program) -/
end DL
/-! DL48: a caught exception is a thing that is known of in its suite (try, fields, isinstance), under L2 -/
namespace L2
open PySem PySem.Spec PyProof.Rows

theorem exq_at {P : Program} {w : World} {H : Hp} {h : Heap} {a : Addr} {cls : Value} {d : Option Addr} (ok : HOk P w H h) (e : H a = some (exq a cls d)) : ∃ (oe : Obj) (vs : Array Value), h.get? a = some oe ∧ Zc cls d oe ∧ oe.data = .fields vs := by
  have x : ObjOk P w H h a (.ext fun h => ∃ (oe : Obj) (vs : Array Value), h.get? a = some oe ∧ Zc cls d oe ∧ oe.data = .fields vs) := ok a _ e
  exact x.1
section
variable {X : Cx} {pins : List (Addr × Obj)} {σ : St} {H : Hp} {s sI : Shared}
/-- an except suite, the exception tracked -/
abbrev Cx.su (X : Cx) (a : Addr) : Cx := { X with A := X.A.mark (some (.ref a)), calm := false, xe := fun _ _ => False }
theorem Cx.Ok.su {X : Cx} (ok : X.Ok) (a : Addr) : (X.su a).Ok :=
  ⟨ok.mod, ok.kind, ok.glob, ok.blt, ok.above, ok.inj, ok.has, ok.cab, (fun z => absurd (show false = true from z) Bool.false_ne_true), ok.frames, ok.stk, ok.exf, ok.bs, ok.bsz, ok.noex, ok.exfs, ok.funs, ok.frf⟩
end
inductive HdT (X : Cx) : List ExceptHandler → List (Value × Option Nat × TS) → Prop
  | nil : HdT X [] []
  | no {x : Str} {c : Value} {ts : TS} {b₀ : Stmt} {suite : List Stmt} {np pos' : Pos} {hds : List ExceptHandler} {l : List (Value × Option Nat × TS)} (hc : Names X x c) (hsu : ∀ a, PSs (X.su a) (b₀ :: suite) ts) (r : HdT X hds l) :
      HdT X (.ExceptHandler (some (.Name x np)) none (b₀ :: suite) pos' :: hds) ((c, none, ts) :: l)
  | as {x n : Str} {i : Nat} {c : Value} {ts : TS} {b₀ : Stmt} {suite : List Stmt} {np pos' : Pos} {hds : List ExceptHandler} {l : List (Value × Option Nat × TS)} (hc : Names X x c) (hi : X.N[i]? = some n) (hln : X.env.kindOf n = some .local) (hsu : ∀ a, PSs (X.su a) (b₀ :: suite) ts) (r : HdT X hds l) :
      HdT X (.ExceptHandler (some (.Name x np)) (some n) (b₀ :: suite) pos' :: hds) ((c, some i, ts) :: l)
section
variable {X : Cx} {body : List Stmt} {h₀ : ExceptHandler} {hds : List ExceptHandler} {l : List (Value × Option Nat × TS)} {pos : Pos} {tb : WX → TS} {Wout : WX}
end
/-! ### fields of a tracked exception, isinstance -/
def tXq (K : PySem.W.Frag) (f : Str) (te : TE) : TE := fun σ H Q => te σ H fun x H1 => ∃ (a C dd : Addr) (fs : List (Str × V)) (v : V), x = .ref a ∧ XfC K C ∧ PySem.W.findIn K (.ref C) f = some none ∧ H1 a = some (exq a (.ref C) (some dd)) ∧ H1 dd = some (.xd fs) ∧ fs.lookup f = some v ∧ Q v H1
theorem pe_xq {X : Cx} {e : Expr} {te : TE} {pos : Pos} {n : Str} (he : PE X e te) (hb : attributeBase e n X.env (eval e X.env) = eval e X.env := by rfl) : PE X (.Attribute e n pos) (tXq X.K n te) := by
  refine ⟨fun pins s σ H Q I h => ?_⟩
  refine attr_of hb (thn (he.run pins s σ H _ I h) fun u s1 hh => ?_)
  obtain ⟨x, H1, I1, rx, a, C, dd, fs, v, ex, T, hno, ea, ed, l, q⟩ := hh
  subst ex
  obtain rfl : u = Value.ref a := rx
  obtain ⟨oe, vs, ha, hz, hv⟩ := exq_at I1.hok ea
  have hx : ObjOk X.prog X.w H1 s1.heap dd (.xd fs) := I1.hok dd _ ed
  obtain ⟨mA, hns, hr⟩ := hx
  obtain ⟨od, ho, hl⟩ := lookIn_ns hns
  obtain ⟨u, hu, ru⟩ := RelO.some_of (v := v) (o := mA n) (by rw [← l]; exact hr n)
  have J : PySem.W.InstAt s1.heap a oe C (some od) := ⟨ha, hz.1, by unfold PySem.W.notCls; rw [hv] <;> rfl, by rw [hz.2]; exact ho⟩
  exact HandSPX.exc_get I1.kIn J T.ga T.gg T.exC (PySem.W.findObj_own T.hdC hno rfl (by rw [hl, hu])) (handed_of ru) ⟨v, H1, I1.tok _, ru, q⟩
/-- isinstance(e, c), e a tracked exception -/
def rIsQ (K : PySem.W.Frag) : List V → Hp → VK → Prop := fun xs H Q => ∃ (a D : Addr) (d : Option Addr) (c : V) (cv : Value) (b : Bool), xs = [.ref a, c] ∧ H a = some (exq a (.ref D) d) ∧ (∀ dd, d = some dd → ∃ fs, H dd = some (.xd fs)) ∧ ExcC K D ∧ (∀ u, RelV c u → u = cv) ∧ PySem.W.kitOne K (.ref D) cv = some b ∧ Q (.bl b) H
theorem call_isQ {X : Cx} : CallR X (.builtin "isinstance") (rIsQ X.K) := by
  intro pins s σ H xs us Q I r h
  obtain ⟨a, D, d, c, cv, b, rfl, ea, hdd, C, hcv, e, q⟩ := h
  cases r with
  | cons rx rr =>
    cases rr with
    | cons rt rr =>
      cases rr
      cases rx
      have ec := hcv _ rt
      subst ec
      obtain ⟨oe, vs, ha, hz, hv⟩ := exq_at I.hok ea
      have J : ∃ od, PySem.W.InstAt s.heap a oe D od := by
        obtain ⟨oc, od, oda, osl⟩ := oe
        obtain ⟨h1, h2⟩ := hz
        dsimp only at h1 h2 hv
        subst h1 h2 hv
        cases od with
        | none => exact ⟨none, ha, rfl, rfl, trivial⟩
        | some dd =>
          obtain ⟨fs, ed⟩ := hdd dd rfl
          have hx : ObjOk X.prog X.w H s.heap dd (.xd fs) := I.hok dd _ ed
          obtain ⟨mA, hns, _⟩ := hx
          obtain ⟨o, ho, _⟩ := lookIn_ns hns
          exact ⟨some o, ha, rfl, rfl, ho⟩
      obtain ⟨od, J⟩ := J
      have hcl : (PySem.W.clsIn X.K D).isSome = true := by
        have := C.hd
        unfold PySem.W.hasDictIn at this
        cases q : PySem.W.clsIn X.K D with
        | none => rw [q] at this; cases this
        | some _ => rfl
      exact PySem.W.kia_one (PySem.W.kitx_exc hcl C.hg C.hk C.hs C.ha C.hn C.ht C.hm) I.kIn J e (fun z => nomatch z) fun tk => ⟨.bl b, H, I.kept (t' := tk) fun _ _ z => z, rfl, q⟩
end L2
namespace DL
open PySem PySem.Spec PyProof.Rows L2

/-! ### exceptions of own classes with one field (over ValueError): made and raised -/
def spX1 (C : Addr) (f : Str) : Sp := fun vs H Q _ => ∃ (a : Addr) (y : V), vs = [.ref a, y] ∧ H a = some (exo a C none) ∧ ∀ dx, H dx = none → dx ≠ a → Q .non (upd (upd H dx (exd dx [(f, y)])) a (exo a C (some dx)))
/-- what the body of such an __init__ does -/
abbrev tX1 (K : PySem.W.Frag) (f : Str) : TS := tSeq (tDrop (tVeI K (tCons (tVar 0) tNil))) (tOst K f (tVar 0) (tVar 1))
/-- an own exception class with one field -/
def CanX (P : Program) (w : World) (K : PySem.W.Frag) (mg : Str → Option Value) (base : Heap) (ca : CT) (k c : Nat) (x f : Str) : Prop :=
  ∃ fI fd ps, OexC K (ca.CA c) ∧ mg x = some (.ref (ca.CA c)) ∧ ca.FS c = [f] ∧ PySem.W.findIn K (.ref (ca.CA c)) "__init__" = some (some (.ref fI)) ∧ PySem.W.typeIn K (.ref fI) = some (.type "function") ∧ Binds K fd ps [] ∧ FnOk P w K mg base (L2.CX P w) k fI fd ps (spX1 (ca.CA c) f)
def HasX (K : PySem.W.Frag) (mg : Str → Option Value) (ca : CT) (c : Nat) (x qual : Str) (st : Stmt) (ps : List Str) (f : Str) : Prop :=
  ∃ fI fd, Fun K "__init__" qual st fI fd ∧ Binds K fd ps [] ∧ OexC K (ca.CA c) ∧ mg x = some (.ref (ca.CA c)) ∧ ca.FS c = [f] ∧ PySem.W.findIn K (.ref (ca.CA c)) "__init__" = some (some (.ref fI)) ∧ PySem.W.typeIn K (.ref fI) = some (.type "function") ∧ PySem.W.findIn K (.ref (ca.CA c)) f = some none
section
variable {P : Program} {w : World} {K : PySem.W.Frag} {mg : Str → Option Value} {base : Heap} {ca : CT} {k c : Nat} {x f qual y : Str} {st : Stmt}
theorem canX_of (H : HasX K mg ca c x qual st ["self", y] f) (S : FnScope ["self", y] ["self", y] (defScope st))
    (hb : ∀ (fa : Addr) (cdv : Value) (A : Around) (outer : List Env) (s : Shared) (H : Hp) (E : XK), Room k (A.deeper (envOfC qual (defScope st) s.heap.objs.size fa cdv)) →
      PSs (cxOf (L2.CX P w) P w K mg base ["self", y] qual (defScope st) fa cdv A outer s H E) (defBody st) (tX1 K f)) : CanX P w K mg base ca (k + 1) c x f := by
  obtain ⟨fI, fd, F, hbn, T, hm, hfs, hi, ht, hno⟩ := H
  refine ⟨fI, fd, _, T, hm, hfs, hi, ht, hbn, F.okX S (fun vs H Q E h => ?_) fun cdv A outer s H vs Q E hr h => ⟨_, hb fI cdv A outer s H E hr, ?_⟩⟩
  · obtain ⟨a, y, rfl, _⟩ := h
    rfl
  · obtain ⟨a, u, rfl, ea, q⟩ := h
    refine ⟨.ref a, rfl, a, ca.CA c, [], rfl, by decide, T, ea, u, rfl, .ref a, rfl, a, ca.CA c, rfl, T, hno, .inl ⟨ea, fun dx h1 h2 => q dx h1 h2⟩⟩
end
theorem upd_exo {H : Hp} {a dx C : Addr} {u1 u2 u3 o : HO} (na : H a = none) (ne : dx ≠ a) : upd (del (upd (upd (upd H a u1) dx u2) a u3) a) dx o = upd H dx o := by
  funext b
  by_cases hb : b = dx
  · subst hb; rw [upd_same, upd_same]
  · rw [upd_ne hb, upd_ne hb]
    by_cases ha : b = a
    · subst ha; rw [del_same, na]
    · rw [del_ne ha, upd_ne ha, upd_ne hb, upd_ne ha]
section
variable {X : Cx} {ca : CT} {Wx : WX} {x f : Str} {p p2 pos pos2 : Pos} {e : Expr} {g : DS → DH → Rs (List Wv)} {c k : Nat}
end
/-! ### try .. except -/
abbrev Hnd := (Dv → Option Bool) × Option Nat × Sm
/-- which exceptions a clause takes: those of the first classes, not those of the others -/
def takT (yes no : List Nat) (e : Dv) : Option Bool := match e with
  | .exc c _ => if c ∈ yes then some true else if c ∈ no then some false else none
  | _ => none
def Exm (K : PySem.W.Frag) (ca : CT) (v : Value) (yes no : List Nat) : Prop := (∀ c ∈ yes, PySem.W.exmOne K (.ref (ca.CA c)) v = some true) ∧ ∀ c ∈ no, PySem.W.exmOne K (.ref (ca.CA c)) v = some false
inductive HdD (X : Cx) (ca : CT) : List ExceptHandler → List Hnd → Prop
  | nil : HdD X ca [] []
  | no {x : Str} {v : Value} {yes no : List Nat} {F : Sm} {b₀ : Stmt} {suite : List Stmt} {np pos' : Pos} {hds : List ExceptHandler} {l : List Hnd} (hc : Names X x v) (hx : Exm X.K ca v yes no) (hsu : ∀ a, PDSs (X.su a) ca W0 (b₀ :: suite) F) (r : HdD X ca hds l) :
      HdD X ca (.ExceptHandler (some (.Name x np)) none (b₀ :: suite) pos' :: hds) ((takT yes no, none, F) :: l)
  | as {x n : Str} {i : Nat} {v : Value} {yes no : List Nat} {F : Sm} {b₀ : Stmt} {suite : List Stmt} {np pos' : Pos} {hds : List ExceptHandler} {l : List Hnd} (hc : Names X x v) (hx : Exm X.K ca v yes no) (hi : X.N[i]? = some n) (hln : X.env.kindOf n = some .local) (hsu : ∀ a, PDSs (X.su a) ca W0 (b₀ :: suite) F) (r : HdD X ca hds l) :
      HdD X ca (.ExceptHandler (some (.Name x np)) (some n) (b₀ :: suite) pos' :: hds) ((takT yes no, some i, F) :: l)
section
variable {X : Cx} {ca : CT} {Wx : WX} {B : Sm} {body : List Stmt} {h₀ : ExceptHandler} {hds : List ExceptHandler} {l : List Hnd} {pos : Pos}
end
/-! ### a caught exception's field, its classes -/
structure XFl (K : PySem.W.Frag) (ca : CT) (f : Str) (t : List (Nat × Nat)) : Prop where
  ok : ∀ c i, t.lookup c = some i → (ca.FS c)[i]? = some f ∧ (ca.FS c).Nodup ∧ XfC K (ca.CA c) ∧ PySem.W.findIn K (.ref (ca.CA c)) f = some none
theorem xfl_nil {K : PySem.W.Frag} {ca : CT} {f : Str} : XFl K ca f [] := ⟨fun c i h => by cases h⟩
theorem xfl_cons {K : PySem.W.Frag} {ca : CT} {f : Str} {c i : Nat} {t : List (Nat × Nat)} (h1 : (ca.FS c)[i]? = some f) (h2 : (ca.FS c).Nodup) (h3 : XfC K (ca.CA c)) (h4 : PySem.W.findIn K (.ref (ca.CA c)) f = some none) (h : XFl K ca f t) : XFl K ca f ((c, i) :: t) := ⟨fun d j e => by
  unfold List.lookup at e
  split at e
  · rename_i q
    have q' : d = c := by simpa using q
    subst q'
    cases e
    exact ⟨h1, h2, h3, h4⟩
  · exact h.ok d j e⟩
def XIs (K : PySem.W.Frag) (ca : CT) (v : Value) (yes no : List Nat) : Prop := (∀ c ∈ yes, ExcC K (ca.CA c) ∧ PySem.W.kitOne K (.ref (ca.CA c)) v = some true) ∧ ∀ c ∈ no, ExcC K (ca.CA c) ∧ PySem.W.kitOne K (.ref (ca.CA c)) v = some false
section
variable {X : Cx} {ca : CT} {Wx : WX} {e : Expr} {f : DS → DH → Rs Wv} {n : Str} {pos p p2 : Pos} {t : List (Nat × Nat)}
end
/-! ### what the top has written of exception classes -/
def BasC (K : PySem.W.Frag) (mg : Str → Option Value) (x : Str) : Prop := ∃ CE, mg x = some (.ref CE) ∧ PySem.W.specialIn K (.ref CE) "__getattribute__" = some (some (.builtin "type.__getattribute__")) ∧ PySem.W.typeIn K (.ref CE) = some (.type "type") ∧ PySem.W.readsIn K CE (.type "type") = true ∧ PySem.W.findCls K (.ref CE) (.type "type") "__init__" = some (.val (.builtin "ValueError.__init__"))
theorem pe_bas {X : Cx} {x : Str} {e : Expr} {es : List Expr} {ta : TA} {p1 p2 pos : Pos} {pl : Sem Bool} (B : BasC X.K X.mg x) (hg : Gl X x) (ha : PA X (e :: es) ta) (hd : (x == ("__debug__" : Str)) = false := by decide)
    (hc : eval (.Call (.Attribute (.Name x p1) "__init__" p2) (e :: es) [] pos) X.env = (do
      let ov ← eval (.Name x p1) X.env
      standAt p2.atName
      let (f, first) ← holding [ov] (getMethod ov "__init__" pl)
      callWith pos f first (backTo pos (starEach (e :: es) X.env)) (backToKw pos (keywordEach [] X.env))) := by rfl)
    (he : starEach (e :: es) X.env = (false, eval e X.env) :: starEach es X.env := by rfl) (hpl : (backTo pos (starEach es X.env)).any (·.1) = false := by rfl) : PE X (.Call (.Attribute (.Name x p1) "__init__" p2) (e :: es) [] pos) (tVeI X.K ta) := by
  obtain ⟨CE, hm, gC, tC, rC, vC⟩ := B
  exact pe_cinit (pl := pl) hg hm gC tC rC vC ha hd hc he hpl
theorem hasX_of {K : PySem.W.Frag} {mg : Str → Option Value} {ca : CT} {c : Nat} {x f qual : Str} {st : Stmt} {ps : List Str} {C fI N : Addr} {nm q : Str} {bs bm sub : List Value} {sn : List Str} {ab : Bool} {col : Option Bool} {dd : Option Addr} {k0 k1 k2 k3 k5 : Option Value} {oc kV doc pm cdv ct : Value} {od an : Option Addr} {osl : Array (Option Value)} (hc : ca.CA c = C) (hm : mg x = some (.ref C)) (ox : K.lookup C = some (excClassObj nm q C N bs bm true sn sub ab col dd k0 k1 k2 k3 k5 "ValueError.__new__")) (orf : PySem.HandSPX.refsVE bm = true)
    (sa : PySem.W.findIn K (.ref C) "__setattr__" = some (some (.builtin "object.__setattr__"))) (exC : PySem.W.subIn K (.ref C) (.type "BaseException") = some true) (tyC : PySem.W.typeIn K (.ref C) = some (.type "type")) (kC : PySem.W.keepIn K (.ref C) = true) (hfs : ca.FS c = [f])
    (a : PySem.W.findIn K (.ref C) "__init__" = some (some (.ref fI))) (ti : PySem.W.typeIn K (.ref fI) = some (.type "function")) (no : PySem.W.findIn K (.ref C) f = some none)
    (l : K.lookup fI = some ⟨oc, od, .func (PySem.W.fnOf "__init__" qual (defArgs st) (defBody st) (defScope st) .none kV doc pm an cdv ct), osl⟩) (cd : PySem.W.codeIn K cdv qual = true) (kp : PySem.W.keepIn K (.ref fI) = true)
    (hb : ∀ (kV doc pm : Value) (an : Option Addr) (cdv ct : Value) (us : List Value), us.length = ps.length → bindArgs (PySem.W.fnOf "__init__" qual (defArgs st) (defBody st) (defScope st) .none kV doc pm an cdv ct) ⟨us, []⟩ = pure (ps.zip us)) : HasX K mg ca c x qual st ps f := by
  have F := fun_mk (st := st) l cd kp
  subst hc
  exact ⟨fI, _, F, F.binds hb, ⟨⟨_, _, _, _, _, _, _, _, _, _, _, _, _, _, _, ox, orf⟩, sa, exC, tyC, kC⟩, hm, hfs, a, ti, no⟩
theorem ex_nil {P : Nat → Prop} : ∀ c ∈ ([] : List Nat), P c := fun _ h => by cases h
theorem ex_cons {P : Nat → Prop} {c : Nat} {l : List Nat} (h : P c) (t : ∀ d ∈ l, P d) : ∀ d ∈ c :: l, P d := fun d hd => by
  rcases List.mem_cons.mp hd with rfl | hd
  · exact h
  · exact t d hd
end DL
namespace DL
open PySem PySem.Spec PyProof.Rows L2 HT

/-! ### t[1::-1], t a tuple of three -/
section
variable {prog : Program} {w : World} {A : Around} {E : Value → Shared → Prop} {s : Shared}
end
section
variable {X : Cx}
end
/-! ### x not in a list (one that may change, too) of plain data -/
end DL
namespace DL
open PySem PySem.Spec PyProof.Rows L2

/-! ### defs that call themselves: by how deep they may -/
section
variable {P : Program} {w : World} {K : PySem.W.Frag} {mg : Str → Option Value} {base : Heap} {ca : CT} {k : Nat} {x : Str} {st : Stmt} {N ps : List Str}
end
end DL
namespace DL
open PySem PySem.Spec PyProof.Rows L2

/-! ### a dict that is changed no more is data from here on (no step of the program) -/
end DL
/-! DL53: own exceptions over LookupError with one field -/
namespace L2
open PySem PySem.Spec PyProof.Rows

abbrev leTail : List Value := [.type "LookupError", .type "Exception", .type "BaseException", .type "object"]
/-- what the written part says of a class over LookupError -/
structure OexL (K : PySem.W.Frag) (C : Addr) : Prop where
  cl : ∃ (nm q : Str) (N : Addr) (bs bm : List Value) (sn : List Str) (sub : List Value) (ab : Bool) (col : Option Bool) (dd : Option Addr) (k0 k1 k2 k3 k5 : Option Value), K.lookup C = some (excClassObj nm q C N bs bm true sn sub ab col dd k0 k1 k2 k3 k5 "LookupError.__new__") ∧ PySem.W.excTail leTail bm = true
  st : PySem.W.findIn K (.ref C) "__setattr__" = some (some (.builtin "object.__setattr__"))
  be : PySem.W.subIn K (.ref C) (.type "BaseException") = some true
  ty : PySem.W.typeIn K (.ref C) = some (.type "type")
  kp : PySem.W.keepIn K (.ref C) = true
theorem OexL.has {K : PySem.W.Frag} {C : Addr} (T : OexL K C) (bm : List Value) (hb : PySem.W.excTail leTail bm = true) (Y : String) : bm.contains (.type Y) = leTail.contains (.type Y) := PySem.W.excTail_contains Y bm hb
section
variable {X : Cx} {pins : List (Addr × Obj)} {σ : St} {H : Hp} {s : Shared} {a C dx : Addr} {f : Str} {y : V} {u : Value} {fs : List (Str × V)} {Q : Unit → Shared → Prop} {E : Value → Shared → Prop} {A : Around}
/-- the first field's store -/
theorem ostL (T : OexL X.K C) (I : Inv X pins σ H s) (e : H a = some (exo a C none)) (hno : PySem.W.findIn X.K (.ref C) f = some none) (ry : RelV y u)
    (k : ∀ dx s', H dx = none → dx ≠ a → Inv X pins σ (upd (upd H dx (exd dx [(f, y)])) a (exo a C (some dx))) s' → Q () s') : wpAny (model X.prog X.w) A (setAttr (.ref a) f u) Q E s := by
  obtain ⟨nm, q, N, bs, bm, sn, sub, ab, col, dd, k0, k1, k2, k3, k5, hC, hbm⟩ := T.cl
  have cin : PySem.W.clsIn X.K C = some { name := nm, bases := bs, mro := .ref C :: bm, ns := N, qualname := q, hasDict := true, slotNames := sn, subclasses := sub, abstract := ab, collection := col, hasDel := false } := by
    unfold PySem.W.clsIn
    rw [hC] <;> rfl
  have over : PySem.W.excOver X.K C leTail = true := by
    unfold PySem.W.excOver
    rw [cin]
    show (C == C && PySem.W.excTail leTail bm) = true
    rw [hbm, Bool.and_true]
    exact beq_self_eq_true C
  have tk0 : PySem.W.takerIn X.K C f = some none := by
    unfold PySem.W.takerIn
    rw [hno]
    rfl
  obtain ⟨t1, ho⟩ := exo_at I.hok e
  obtain ⟨hp, g, d, t, os⟩ := s
  have lt : a < hp.objs.size := Heap.lt_size ho
  have ne : a ≠ hp.objs.size := Nat.ne_of_lt lt
  refine PySem.W.set_plain (od := none) I.kIn ⟨ho, rfl, rfl, trivial⟩ T.st ?_
  refine PySem.W.osa_openX (od := none) F.store_LookupError I.kIn ⟨ho, rfl, rfl, trivial⟩ over tk0 fun b => ?_
  refine wpAny_bind (wpAny_pure (wpAny_bind ?_))
  refine PySem.W.instanceDict_exc ho (PySem.W.looks_clsIn I.kIn cin) rfl ?_
  show wpAny _ _ (Builtin.ObjectAttr.storeInDict hp.objs.size _ f u) _ _ _
  refine PySem.HandSPX.store_in_new ?_ fun h' tk' hn' hs => ?_
  · exact ⟨PySem.W.dictOf [] 0, #[], _, (Heap.get?_update_ne _ _ _ _ ne.symm).trans (Heap.get?_push_at rfl rfl), rfl, fun _ z => absurd z (by simp), fun _ => rfl⟩
  · have hnd : H hp.objs.size = none := I.hok.fresh (Nat.le_refl _)
    have old : ∀ {b : Addr} {o : Obj}, hp.get? b = some o → b ≠ hp.objs.size := fun {b o} z => Nat.ne_of_lt (Heap.lt_size z)
    have stay : ∀ b o, b ≠ a → hp.get? b = some o → h'.get? b = some o := fun b o hb z => (hs.2 b (old z)).trans ((Heap.get?_update_ne _ _ _ _ hb).trans (Heap.get?_push_of_some _ z))
    have now : h'.get? a = some ({ cls := .ref C, dict := some hp.objs.size, data := .fields #[.ref t1, .none, .none, .none, .bool false, .none] } : Obj) := (hs.2 a ne).trans (Heap.get?_update_self _ (Heap.get?_push_of_some _ ho) rfl)
    have na : ∀ {b : Addr}, H b = none → b ≠ a := fun {b} n z => by
      subst z
      rw [e] at n
      cases n
    have to : ∀ {b : Addr} {o' : HO}, H b = some o' → (exo a C none ≠ o') → upd (upd H hp.objs.size (exd hp.objs.size [(f, y)])) a (exo a C (some hp.objs.size)) b = some o' := fun {b o'} z dn => by
      rw [upd_ne (at_ne e z dn), upd_ne (ne_of_none z hnd)]
      exact z
    refine k hp.objs.size _ hnd ne.symm (I.un (t' := tk') ⟨?_, ?_, ?_, ?_, ?_, ?_, ?_⟩ ?_)
    · exact fun b o z n _ _ => stay b o (na n) z
    · exact fun b o z n _ _ => ⟨_, stay b o (na n) z⟩
    · intro b o z n _
      rw [upd_ne (na n), upd_ne (old z)]
      exact n
    · intro b o z _
      by_cases hb : b = a
      · subst hb; exact ⟨_, now⟩
      · exact ⟨_, stay b o hb z⟩
    · exact fun b xs z => to z exo_tup
    · exact fun b o v z => to z exo_frz
    · intro b ps z
      exact ⟨#[], by rw [to z exo_tbl]; simp⟩
    · intro b o z
      by_cases hb : b = a
      · subst hb
        rw [upd_same] at z
        cases z
        exact exo_ok now
      · rw [upd_ne hb] at z
        by_cases hd : b = hp.objs.size
        · subst hd
          rw [upd_same] at z
          cases z
          exact exd_ok hn' (relO_put (fs := []) ry fun _ => trivial)
        · rw [upd_ne hd] at z
          refine (I.hok b o z).stay (fun c v hc w => ?_) (fun c hc => to hc exo_own) fun c xs hc => to hc exo_tup
          refine stay c v ?_ w
          rcases hc with rfl | hc
          · exact hb
          · exact at_ne e hc exo_own
/-- LookupError.__init__(self, ..) -/
theorem oinitL {us : List Value} {R : Value → Shared → Prop} (T : OexL X.K C) (I : Inv X pins σ H s) (e : H a = some (exo a C none)) (hl : us.length ≤ sizeLine) (k : ∀ s', Inv X pins σ H s' → R .none s') :
    wpAny (model X.prog X.w) A (call (.builtin "LookupError.__init__") (.ref a :: us)) R E s := by
  obtain ⟨nm, q, N, bs, bm, sn, sub, ab, col, dd, k0, k1, k2, k3, k5, hC, hbm⟩ := T.cl
  obtain ⟨t1, ho⟩ := exo_at I.hok e
  obtain ⟨hp, g, d, t, os⟩ := s
  have same : upd H a (exo a C none) = H := by
    funext b
    by_cases hb : b = a
    · subst hb; rw [upd_same]; exact e.symm
    · exact upd_ne hb
  refine wpAny_call (PySem.HandSPX.init_base F.excBase_LookupError (T.has bm hbm) (I.kIn _ _ hC) ho hl fun h' t2 stay hx => k _ ?_)
  have J := I.write (t' := t) (x := a) (e := a) (o := exo a C none) (by rw [e]; trivial) (.inl rfl) stay ⟨_, hx⟩ (exo_ok hx)
  rw [same] at J
  exact J
end
def tLeI (K : PySem.W.Frag) (ta : TA) : TE := fun σ H Q => ta σ H fun vs H1 => ∃ (a C : Addr) (ws : List V), vs = .ref a :: ws ∧ ws.length ≤ 1000 ∧ OexL K C ∧ H1 a = some (exo a C none) ∧ Q .non H1
def tOsL (K : PySem.W.Frag) (f : Str) (to te : TE) : TS := fun D σ H => te σ H fun y H1 => to σ H1 fun x H2 => ∃ a C : Addr, x = .ref a ∧ OexL K C ∧ PySem.W.findIn K (.ref C) f = some none ∧ H2 a = some (exo a C none) ∧ ∀ dx, H2 dx = none → dx ≠ a → D.nx σ (upd (upd H2 dx (exd dx [(f, y)])) a (exo a C (some dx)))
theorem typ_LE : typeOf (.type "LookupError") = pure (.type "type") := by kernel_rfl
section
variable {X : Cx} {o e : Expr} {es : List Expr} {to te : TE} {ta : TA} {f : Str} {p p' p1 p2 pos : Pos}
theorem pe_leinit {pl : Sem Bool} (hg : Gl X "LookupError") (hm : X.mg "LookupError" = none) (vV : PySem.W.findCls X.K (.type "LookupError") (.type "type") "__init__" = some (.val (.builtin "LookupError.__init__"))) (ha : PA X (e :: es) ta)
    (hc : eval (.Call (.Attribute (.Name "LookupError" p1) "__init__" p2) (e :: es) [] pos) X.env = ((eval (.Name "LookupError" p1) X.env) >>= fun ov => (standAt p2.atName) >>= fun _ => (holding [ov] (getMethod ov "__init__" pl)) >>= fun r =>
      callWith pos r.1 r.2 (backTo pos (starEach (e :: es) X.env)) (backToKw pos (keywordEach [] X.env))) := by rfl)
    (he : starEach (e :: es) X.env = (false, eval e X.env) :: starEach es X.env := by rfl) (hpl : (backTo pos (starEach es X.env)).any (·.1) = false := by rfl) :
    PE X (.Call (.Attribute (.Name "LookupError" p1) "__init__" p2) (e :: es) [] pos) (tLeI X.K ta) := by
  refine ⟨fun pins s σ H Q I h => PySem.W.methodCall_KW (ld_blt I hg hm PyProof.Rows.Boot.«LookupError» ?_ (by decide) (by decide)) hc⟩
  obtain ⟨m, fr⟩ := I.fr
  refine PySem.W.method_type fr I.ok.mod.kin typ_LE (by decide +kernel) vV (by decide +kernel) ?_
  refine PyProof.Rows.callWith_method1 (thn (ha.run pos pins _ σ H _ (I.tok _) h) fun us s1 hh => ?_) he hpl
  obtain ⟨vs, H1, I1, r1, a, C, ws, rfl, hl, T, ea, q⟩ := hh
  cases r1 with
  | @cons _ u0 _ ur ra rw' =>
    obtain rfl : u0 = Value.ref a := ra
    refine oinitL T I1 ea ?_ fun s' J => ⟨.non, H1, J, rfl, q⟩
    rw [← Paired.length rw', sizeLine_eq]
    omega
theorem ps_osL (ho : PE X o to) (he : PE X e te) (hs : swapsWith e (some (.Attribute o f p')) pos.line X.env = pure false := by rfl) : PS X (.Assign [.Attribute o f p'] e pos) (tOsL X.K f to te) :=
  ⟨fun pins s σ H D I h => plainObj_wpAny_Assign_Attribute (thn (he.run pins s σ H _ I h) fun v s1 h1 => by
    obtain ⟨y, H1, I1, r1, q1⟩ := h1
    refine thn (ho.run pins s1 σ H1 _ I1 q1) fun u s2 h2 => ?_
    obtain ⟨x, H2, I2, r2, a, C, rfl, T, hno, ea, q⟩ := h2
    obtain rfl : u = Value.ref a := r2
    exact ostL T I2 ea hno r1 fun dx s' n ne J => ⟨σ, _, J, q dx n ne⟩) hs⟩
theorem pmk_oexL {CX : CXT} {x : Str} {C fI : Addr} {k : Nat} {fd : FuncData} {ps : List Str} {sp : Sp} (T : OexL X.K C) (iC : PySem.W.findIn X.K (.ref C) "__init__" = some (some (.ref fI))) (tI : PySem.W.typeIn X.K (.ref fI) = some (.type "function"))
    (F1 : FnOk X.prog X.w X.K X.mg X.base CX k fI fd ps sp) (hr : Room (k + 1) X.A) (hb : Binds X.K fd ps []) (hx : Passes CX X (fun _ _ _ => False)) (hg : Gl X x) (hm : X.mg x = some (.ref C)) (ha : PA X (e :: es) ta)
    (hdb : (x == ("__debug__" : Str)) = false := by decide) (he : starEach (e :: es) X.env = (false, eval e X.env) :: starEach es X.env := by rfl) (hpl : (backTo pos (starEach es X.env)).any (·.1) = false := by rfl) :
    PMk X (.Call (.Name x p) (e :: es) [] pos) (tMkO C sp [] ta) := by
  intro pins s σ H Q I h
  obtain ⟨nm, q, N, bs, bm, sn, sub, ab, col, dd, k0, k1, k2, k3, k5, hC, hbm⟩ := T.cl
  refine wpAny_Call_Name_kw (ld_glob I hg hm ?_ hdb)
  refine PySem.W.callWith_K (h₀ := X.base) I.ok.mod.kin T.kp (thn (ha.run pos pins s σ H _ I h) fun us s1 hh => ?_) he hpl
  obtain ⟨vs, H1, I1, r1, hz, q1⟩ := hh
  refine ⟨I1.kIn, ?_⟩
  obtain ⟨hp, g, dr, tk, os⟩ := s1
  have up1 : hp.objs.size ≤ hp.objs.size + 1 := Nat.le_succ _
  have nn : H1 (hp.objs.size + 1) = none := I1.hok.fresh up1
  have hq := q1 _ nn
  rw [List.append_nil] at hq
  have more : ∀ b o, hp.get? b = some o → ((hp.push (PySem.W.kdv_tup us)).push (PySem.HandSPX.excO C hp.objs.size)).get? b = some o := fun b o z =>
    Heap.get?_push_of_some _ (Heap.get?_push_of_some _ z)
  have got : ((hp.push (PySem.W.kdv_tup us)).push (PySem.HandSPX.excO C hp.objs.size)).get? (hp.objs.size + 1) = some (PySem.HandSPX.excO C hp.objs.size) := by
    heap_get
  have I2 := I1.laid (t' := tk) (o := exo (hp.objs.size + 1) C none) more up1 (exo_ok got)
  have r2 : Vals (V.ref (hp.objs.size + 1) :: vs) (Value.ref (hp.objs.size + 1) :: us) := .cons rfl r1
  have ln : (Value.ref (hp.objs.size + 1) :: us).length = ps.length := r2.length.symm.trans (F1.len _ _ _ _ hq)
  have hus : us.length ≤ sizeLine := by
    rw [← Paired.length r1, sizeLine_eq]
    exact Nat.le_trans hz (by decide)
  have bd := hb _ (Value.ref (hp.objs.size + 1) :: us) I2.kIn (by rw [List.append_nil]; exact ln)
  rw [List.append_nil] at bd
  refine wpAny_call (PySem.HandSPX.call_own F.excBase_LookupError (T.has bm hbm) (I1.kIn _ _ hC) (PySem.W.looks_findIn I1.kIn iC) (fun self => PySem.W.bind_fn I1.kIn self tI) hus ?_)
  refine codeAny_mono (F1.run _ X.stack _ _ ⟨_, []⟩ _ _ _ (fun _ _ _ => False) (hr.make C us []) (I2.env0.make C us []) bd r2 hq) fun r s' hq' => ?_
  cases r with
  | error er => exact hx pins σ _ _ er s' I2 hq'
  | ok fl =>
    cases fl with
    | next => exact hq'.elim
    | brk => exact hq'.elim
    | cont => exact hq'.elim
    | ret u =>
      obtain ⟨v, H2, os2, bare2, un2, hok2, rv, rfl, d, fs, ea, ed, hd1, q2⟩ := hq'
      obtain ⟨h2, g2, d2, t2, os'⟩ := s'
      exact ⟨rv, mk_end (raises_own T.be T.ty) I1 up1 more un2 hok2 os2 bare2 ea ed hd1 q2⟩
end
end L2
namespace DL
open PySem PySem.Spec PyProof.Rows L2
abbrev tXL (K : PySem.W.Frag) (f : Str) : TS := tSeq (tDrop (tLeI K (tCons (tVar 0) tNil))) (tOsL K f (tVar 0) (tVar 1))
def CanXL (P : Program) (w : World) (K : PySem.W.Frag) (mg : Str → Option Value) (base : Heap) (ca : CT) (k c : Nat) (x f : Str) : Prop :=
  ∃ fI fd ps, OexL K (ca.CA c) ∧ mg x = some (.ref (ca.CA c)) ∧ ca.FS c = [f] ∧ PySem.W.findIn K (.ref (ca.CA c)) "__init__" = some (some (.ref fI)) ∧ PySem.W.typeIn K (.ref fI) = some (.type "function") ∧ Binds K fd ps [] ∧ FnOk P w K mg base (L2.CX P w) k fI fd ps (spX1 (ca.CA c) f)
def HasXL (K : PySem.W.Frag) (mg : Str → Option Value) (ca : CT) (c : Nat) (x qual : Str) (st : Stmt) (ps : List Str) (f : Str) : Prop :=
  ∃ fI fd, Fun K "__init__" qual st fI fd ∧ Binds K fd ps [] ∧ OexL K (ca.CA c) ∧ mg x = some (.ref (ca.CA c)) ∧ ca.FS c = [f] ∧ PySem.W.findIn K (.ref (ca.CA c)) "__init__" = some (some (.ref fI)) ∧ PySem.W.typeIn K (.ref fI) = some (.type "function") ∧ PySem.W.findIn K (.ref (ca.CA c)) f = some none
section
variable {P : Program} {w : World} {K : PySem.W.Frag} {mg : Str → Option Value} {base : Heap} {ca : CT} {k c : Nat} {x f qual y : Str} {st : Stmt}
theorem canXL_of (H : HasXL K mg ca c x qual st ["self", y] f) (S : FnScope ["self", y] ["self", y] (defScope st))
    (hb : ∀ (fa : Addr) (cdv : Value) (A : Around) (outer : List Env) (s : Shared) (H : Hp) (E : XK), Room k (A.deeper (envOfC qual (defScope st) s.heap.objs.size fa cdv)) →
      PSs (cxOf (L2.CX P w) P w K mg base ["self", y] qual (defScope st) fa cdv A outer s H E) (defBody st) (tXL K f)) : CanXL P w K mg base ca (k + 1) c x f := by
  obtain ⟨fI, fd, F, hbn, T, hm, hfs, hi, ht, hno⟩ := H
  refine ⟨fI, fd, _, T, hm, hfs, hi, ht, hbn, F.okX S (fun vs H Q E h => ?_) fun cdv A outer s H vs Q E hr h => ⟨_, hb fI cdv A outer s H E hr, ?_⟩⟩
  · obtain ⟨a, y, rfl, _⟩ := h
    rfl
  · obtain ⟨a, u, rfl, ea, q⟩ := h
    refine ⟨.ref a, rfl, a, ca.CA c, [], rfl, by decide, T, ea, u, rfl, .ref a, rfl, a, ca.CA c, rfl, T, hno, ea, fun dx h1 h2 => q dx h1 h2⟩
theorem hasXL_of {C fI N : Addr} {nm q : Str} {bs bm sub : List Value} {sn : List Str} {ab : Bool} {col : Option Bool} {dd : Option Addr} {k0 k1 k2 k3 k5 : Option Value} {oc kV doc pm cdv ct : Value} {od an : Option Addr} {osl : Array (Option Value)} {h : Heap} {ps : List Str} (hc : ca.CA c = C) (hm : mg x = some (.ref C)) (ox : K.lookup C = some (excClassObj nm q C N bs bm true sn sub ab col dd k0 k1 k2 k3 k5 "LookupError.__new__")) (orf : PySem.W.excTail leTail bm = true)
    (sa : PySem.W.findIn K (.ref C) "__setattr__" = some (some (.builtin "object.__setattr__"))) (exC : PySem.W.subIn K (.ref C) (.type "BaseException") = some true) (tyC : PySem.W.typeIn K (.ref C) = some (.type "type")) (kC : PySem.W.keepIn K (.ref C) = true) (hfs : ca.FS c = [f])
    (a : PySem.W.findIn K (.ref C) "__init__" = some (some (.ref fI))) (ti : PySem.W.typeIn K (.ref fI) = some (.type "function")) (no : PySem.W.findIn K (.ref C) f = some none)
    (l : K.lookup fI = some ⟨oc, od, .func (PySem.W.fnOf "__init__" qual (defArgs st) (defBody st) (defScope st) .none kV doc pm an cdv ct), osl⟩) (cd : PySem.W.codeIn K cdv qual = true) (kp : PySem.W.keepIn K (.ref fI) = true)
    (hb : ∀ (kV doc pm : Value) (an : Option Addr) (cdv ct : Value) (us : List Value), us.length = ps.length → bindArgs (PySem.W.fnOf "__init__" qual (defArgs st) (defBody st) (defScope st) .none kV doc pm an cdv ct) ⟨us, []⟩ = pure (ps.zip us)) : HasXL K mg ca c x qual st ps f := by
  have F := fun_mk (st := st) l cd kp
  subst hc
  exact ⟨fI, _, F, F.binds hb, ⟨⟨_, _, _, _, _, _, _, _, _, _, _, _, _, _, _, ox, orf⟩, sa, exC, tyC, kC⟩, hm, hfs, a, ti, no⟩
end
section
variable {X : Cx} {ca : CT} {Wx : WX} {x f : Str} {p p2 pos pos2 : Pos} {e : Expr} {g : DS → DH → Rs (List Wv)} {c k : Nat}
end
end DL
/-! DL54: methods and constructors that raise, properties, len(o) and str(o) by own defs -/
namespace L2
open PySem PySem.Spec PyProof.Rows

section
variable {X : Cx} {CX : CXT} {k : Nat} {f C : Addr} {fd : FuncData} {ps : List Str} {sp : Sp} {E : St → XK} {x m : Str} {p pos apos : Pos} {e o : Expr} {es : List Expr} {ta : TE} {t : TA}
end
end L2
namespace DL
open PySem PySem.Spec PyProof.Rows L2
/-! ### methods that may raise -/
section
variable {X : Cx} {ca : CT} {Wx : WX} {o e : Expr} {es : List Expr} {f : DS → DH → Rs Wv} {g : DS → DH → Rs (List Wv)} {m : Str} {apos pos : Pos} {c k n : Nat} {F : List Wv → DH → Rs Wv}
end
/-! ### constructors that may raise -/
section
variable {X : Cx} {ca : CT} {Wx : WX} {x : Str} {e : Expr} {es : List Expr} {g : DS → DH → Rs (List Wv)} {p pos : Pos} {c k n : Nat} {F : List Wv → DH → Rs Wv}
end
/-! ### properties that raise nothing -/
section
variable {X : Cx} {ca : CT} {Wx : WX} {e : Expr} {f : DS → DH → Rs Wv} {n x : Str} {p pos : Pos} {c k : Nat} {F : List Wv → DH → Rs Wv}
/-! ### len(o), str(o) -/
end
/-! ### str(int), f-strings -/
section
variable {X : Cx} {ca : CT} {Wx : WX} {e v1 v2 : Expr} {rest : List Expr} {f : DS → DH → Rs Wv} {fs : List (DS → DH → Rs Wv)} {pos : Pos}
inductive PDJ (X : Cx) (ca : CT) (Wx : WX) : List Expr → List (DS → DH → Rs Wv) → Prop
  | nil : PDJ X ca Wx [] []
  | cons {e : Expr} {f : DS → DH → Rs Wv} {es : List Expr} {fs : List (DS → DH → Rs Wv)} (h : PD X ca Wx e f) (r : PDJ X ca Wx es fs) : PDJ X ca Wx (e :: es) (f :: fs)
end
/-! ### what the top has written of properties and of __len__, __str__ -/
section
variable {P : Program} {w : World} {K : PySem.W.Frag} {mg : Str → Option Value} {base : Heap} {ca : CT} {k c : Nat} {m qual y : Str} {st : Stmt} {N : List Str} {B : Sm}
end
/-- LookupError.__init__ -/
def BasL (K : PySem.W.Frag) (mg : Str → Option Value) : Prop := mg "LookupError" = none ∧ PySem.W.findCls K (.type "LookupError") (.type "type") "__init__" = some (.val (.builtin "LookupError.__init__"))
end DL
/-! DL55: texts: sign by sign, split, join, int(text), text * int, constants -/
namespace DL
open PySem PySem.Spec PyProof.Rows L2
/-! ### for c in s -/
section
variable {X : Cx} {ca : CT} {Wx : WX} {tg e : Expr} {f : DS → DH → Rs Wv}
end
/-! ### methods of texts -/
/-! ### int(text) -/
/-! ### text * int -/
/-! ### constants of the module: a text, a tuple of texts and Nones -/
section
variable {X : Cx} {ca : CT} {Wx : WX} {x : Str} {pos : Pos}
end
inductive OptsAre : List Value → List (Option Str) → Prop
  | nil : OptsAre [] []
  | some {x : Str} {t : Tok} {vs : List Value} {xs : List (Option Str)} : OptsAre vs xs → OptsAre (.str x t :: vs) (some x :: xs)
  | none {vs : List Value} {xs : List (Option Str)} : OptsAre vs xs → OptsAre (.none :: vs) (none :: xs)
section
variable {X : Cx} {ca : CT} {Wx : WX} {x : Str} {pos : Pos}
end
end DL
/-! DL56: own exceptions over ValueError with two fields -/
namespace DL
open PySem PySem.Spec PyProof.Rows L2
def spX2 (C : Addr) (f g : Str) : Sp := fun vs H Q _ => ∃ (a : Addr) (y z : V), vs = [.ref a, y, z] ∧ H a = some (exo a C none) ∧ ∀ dx, H dx = none → dx ≠ a → Q .non (upd (upd (upd H dx (exd dx [(f, y)])) a (exo a C (some dx))) dx (exd dx [(g, z), (f, y)]))
abbrev tX2 (K : PySem.W.Frag) (f g : Str) : TS := tSeq (tDrop (tVeI K (tCons (tVar 0) tNil))) (tSeq (tOst K f (tVar 0) (tVar 1)) (tOst K g (tVar 0) (tVar 2)))
def CanX2 (P : Program) (w : World) (K : PySem.W.Frag) (mg : Str → Option Value) (base : Heap) (ca : CT) (k c : Nat) (x f g : Str) : Prop :=
  ∃ fI fd ps, OexC K (ca.CA c) ∧ mg x = some (.ref (ca.CA c)) ∧ ca.FS c = [g, f] ∧ PySem.W.findIn K (.ref (ca.CA c)) "__init__" = some (some (.ref fI)) ∧ PySem.W.typeIn K (.ref fI) = some (.type "function") ∧ Binds K fd ps [] ∧ FnOk P w K mg base (L2.CX P w) k fI fd ps (spX2 (ca.CA c) f g)
def HasX2 (K : PySem.W.Frag) (mg : Str → Option Value) (ca : CT) (c : Nat) (x qual : Str) (st : Stmt) (ps : List Str) (f g : Str) : Prop :=
  ∃ fI fd, Fun K "__init__" qual st fI fd ∧ Binds K fd ps [] ∧ OexC K (ca.CA c) ∧ mg x = some (.ref (ca.CA c)) ∧ ca.FS c = [g, f] ∧ PySem.W.findIn K (.ref (ca.CA c)) "__init__" = some (some (.ref fI)) ∧ PySem.W.typeIn K (.ref fI) = some (.type "function") ∧ PySem.W.findIn K (.ref (ca.CA c)) f = some none ∧ PySem.W.findIn K (.ref (ca.CA c)) g = some none
section
variable {P : Program} {w : World} {K : PySem.W.Frag} {mg : Str → Option Value} {base : Heap} {ca : CT} {k c : Nat} {x f g qual y z : Str} {st : Stmt}
theorem canX2_of (H : HasX2 K mg ca c x qual st ["self", y, z] f g) (S : FnScope ["self", y, z] ["self", y, z] (defScope st))
    (hb : ∀ (fa : Addr) (cdv : Value) (A : Around) (outer : List Env) (s : Shared) (H : Hp) (E : XK), Room k (A.deeper (envOfC qual (defScope st) s.heap.objs.size fa cdv)) →
      PSs (cxOf (L2.CX P w) P w K mg base ["self", y, z] qual (defScope st) fa cdv A outer s H E) (defBody st) (tX2 K f g)) : CanX2 P w K mg base ca (k + 1) c x f g := by
  obtain ⟨fI, fd, F, hbn, T, hm, hfs, hi, ht, hn1, hn2⟩ := H
  refine ⟨fI, fd, _, T, hm, hfs, hi, ht, hbn, F.okX S (fun vs H Q E h => ?_) fun cdv A outer s H vs Q E hr h => ⟨_, hb fI cdv A outer s H E hr, ?_⟩⟩
  · obtain ⟨a, y, z, rfl, _⟩ := h
    rfl
  · obtain ⟨a, u, v, rfl, ea, q⟩ := h
    refine ⟨.ref a, rfl, a, ca.CA c, [], rfl, by decide, T, ea, u, rfl, .ref a, rfl, a, ca.CA c, rfl, T, hn1, .inl ⟨ea, fun dx h1 h2 => ?_⟩⟩
    refine ⟨v, rfl, .ref a, rfl, a, ca.CA c, rfl, T, hn2, .inr ⟨dx, [(f, u)], upd_same, ?_, by simp, q dx h1 h2⟩⟩
    rw [upd_ne h2, upd_same]
theorem hasX2_of {C fI N : Addr} {nm q : Str} {bs bm sub : List Value} {sn : List Str} {ab : Bool} {col : Option Bool} {dd : Option Addr} {k0 k1 k2 k3 k5 : Option Value} {oc kV doc pm cdv ct : Value} {od an : Option Addr} {osl : Array (Option Value)} {ps : List Str} (hc : ca.CA c = C) (hm : mg x = some (.ref C)) (ox : K.lookup C = some (excClassObj nm q C N bs bm true sn sub ab col dd k0 k1 k2 k3 k5 "ValueError.__new__")) (orf : PySem.HandSPX.refsVE bm = true)
    (sa : PySem.W.findIn K (.ref C) "__setattr__" = some (some (.builtin "object.__setattr__"))) (exC : PySem.W.subIn K (.ref C) (.type "BaseException") = some true) (tyC : PySem.W.typeIn K (.ref C) = some (.type "type")) (kC : PySem.W.keepIn K (.ref C) = true) (hfs : ca.FS c = [g, f])
    (a : PySem.W.findIn K (.ref C) "__init__" = some (some (.ref fI))) (ti : PySem.W.typeIn K (.ref fI) = some (.type "function")) (no1 : PySem.W.findIn K (.ref C) f = some none) (no2 : PySem.W.findIn K (.ref C) g = some none)
    (l : K.lookup fI = some ⟨oc, od, .func (PySem.W.fnOf "__init__" qual (defArgs st) (defBody st) (defScope st) .none kV doc pm an cdv ct), osl⟩) (cd : PySem.W.codeIn K cdv qual = true) (kp : PySem.W.keepIn K (.ref fI) = true)
    (hb : ∀ (kV doc pm : Value) (an : Option Addr) (cdv ct : Value) (us : List Value), us.length = ps.length → bindArgs (PySem.W.fnOf "__init__" qual (defArgs st) (defBody st) (defScope st) .none kV doc pm an cdv ct) ⟨us, []⟩ = pure (ps.zip us)) : HasX2 K mg ca c x qual st ps f g := by
  have F := fun_mk (st := st) l cd kp
  subst hc
  exact ⟨fI, _, F, F.binds hb, ⟨⟨_, _, _, _, _, _, _, _, _, _, _, _, _, _, _, ox, orf⟩, sa, exC, tyC, kC⟩, hm, hfs, a, ti, no1, no2⟩
end
theorem upd_exo2 {H : Hp} {a dx : Addr} {u1 u2 u3 u4 o : HO} (na : H a = none) (ne : dx ≠ a) : upd (del (upd (upd (upd (upd H a u1) dx u2) a u3) dx u4) a) dx o = upd H dx o := by
  funext b
  by_cases hb : b = dx
  · subst hb; rw [upd_same, upd_same]
  · rw [upd_ne hb, upd_ne hb]
    by_cases ha : b = a
    · subst ha; rw [del_same, na]
    · rw [del_ne ha, upd_ne hb, upd_ne ha, upd_ne hb, upd_ne ha]
section
variable {X : Cx} {ca : CT} {Wx : WX} {x f f2 : Str} {p p2 pos pos2 : Pos} {e e2 : Expr} {g : DS → DH → Rs (List Wv)} {c k : Nat}
end
end DL
/-! DL57: t[::-1], t a tuple or a list -/
namespace DL
open PySem PySem.Spec PyProof.Rows L2 HT
section
variable {X : Cx}
end
end DL
/-! DL58: own exceptions without fields, o[i] by an own __getitem__, d.get(k) -/
namespace L2
open PySem PySem.Spec PyProof.Rows
section
variable {X : Cx} {C : Addr} {bmB : List Value} {B newId initId : String}
/-- X() -/
theorem pmk_own0 {x : Str} {p pos : Pos} (F : ExcBaseFacts B newId initId bmB) (q : PySem.W.excIn X.K C bmB newId = true) (gC : X.mg x = some (.ref C)) (kC : PySem.W.keepIn X.K (.ref C) = true) (r : Raises X (.ref C)) (hg : Gl X x)
    (hdb : (x == ("__debug__" : Str)) = false := by decide) : PMk X (.Call (.Name x p) [] [] pos) (fun _ H Q => Q (.ref C) none H) := by
  intro pins s σ H Q I h
  refine wpAny_Call_Name_kw (ld_glob I hg gC ?_ hdb)
  refine PySem.W.callWith_K0 (first := []) I.kIn kC ?_
  show wpAny _ _ (call (.ref C) []) _ _ _
  obtain ⟨bm, N, nm, qn, bs, hdct, sn, sub, ab, col, dd, k0, k1, k2, k3, k5, mN, hC, hN, hni, T⟩ := exc_obj I.kIn q
  obtain ⟨hp1, g1, d1, tk1, os1⟩ := s
  refine wpAny_call_exc_subT F T hC hN hni (fun h' e hm => ?_) (Nat.zero_le _)
  exact mk_of I hm r h (I.hok.gone hm.new)
end
section
variable {X : Cx} {CX : CXT} {k : Nat} {f C : Addr} {fd : FuncData} {ps : List Str} {sp : Sp} {E : St → XK} {pos : Pos} {o b : Expr} {to ti : TE}
end
end L2
namespace DL
open PySem PySem.Spec PyProof.Rows L2
/-! ### raise C() -/
structure CanX0 (K : PySem.W.Frag) (mg : Str → Option Value) (ca : CT) (c : Nat) (x : Str) : Prop where
  q : PySem.W.excIn K (ca.CA c) [.type "ValueError", .type "Exception", .type "BaseException", .type "object"] "ValueError.__new__" = true
  m : mg x = some (.ref (ca.CA c))
  k : PySem.W.keepIn K (.ref (ca.CA c)) = true
  b : PySem.W.subIn K (.ref (ca.CA c)) (.type "BaseException") = some true
  t : PySem.W.typeIn K (.ref (ca.CA c)) = some (.type "type")
section
variable {X : Cx} {ca : CT} {Wx : WX} {x : Str} {p pos pos2 : Pos} {c : Nat}
end
/-! ### o[i] -/
section
variable {X : Cx} {ca : CT} {Wx : WX} {o b : Expr} {f g : DS → DH → Rs Wv} {pos : Pos} {c k : Nat} {F : List Wv → DH → Rs Wv}
end
section
variable {P : Program} {w : World} {K : PySem.W.Frag} {mg : Str → Option Value} {base : Heap} {ca : CT} {k c : Nat} {m qual y z : Str} {st : Stmt} {N : List Str} {B : Sm}
end
/-! ### d.get(k) -/
section
variable {X : Cx} {ca : CT} {Wx : WX} {o e1 : Expr} {f g : DS → DH → Rs Wv} {apos cpos : Pos}
end
section
variable {X : Cx} {ca : CT} {Wx : WX} {pos : Pos}
end
end DL
/-! DL59: defs that raise nothing, called within an except suite, too -/
namespace L2
open PySem PySem.Spec PyProof.Rows
/-- what a def promises whatever is handled -/
structure FnC (P : Program) (w : World) (K : PySem.W.Frag) (mg : Str → Option Value) (base : Heap) (CX : CXT) (k : Nat) (f : Addr) (fd : FuncData) (ps : List Str) (sp : Sp) : Prop where
  len : ∀ vs H Q E, sp vs H Q E → vs.length = ps.length
  run : ∀ (A : Around) (outer : List Env) (s : Shared) (H : Hp) (args : Args) (us : List Value) (vs : List V) (Q : VK) (E : XK), L2H.RoomH k A → Env0 P w K mg base A outer s H → BindsTo s fd args (ps.zip us) → Vals vs us → sp vs H Q E →
    codeAny (model P w) A (.call (.ref f) args) (CR CX outer P w H s Q E) s
section
variable {X : Cx} {CX : CXT} {k : Nat} {f C : Addr} {fd : FuncData} {ps : List Str} {sp : Sp} {E : St → XK} {x m : Str} {q pos apos : Pos} {e o : Expr} {es : List Expr} {ta : TE} {t : TA}
end
end L2
namespace DL
open PySem PySem.Spec PyProof.Rows L2
section
variable {P : Program} {w : World} {K : PySem.W.Frag} {mg : Str → Option Value} {base : Heap}
end
section
variable {P : Program} {w : World} {K : PySem.W.Frag} {mg : Str → Option Value} {base : Heap} {ca : CT} {k : Nat} {x : Str} {st : Stmt} {N ps : List Str} {B : Sm}
end
section
variable {X : Cx} {ca : CT} {Wx : WX} {x : Str} {p pos : Pos} {e : Expr} {es : List Expr} {g : DS → DH → Rs (List Wv)} {k n : Nat} {Fd : List Wv → DH → Rs Wv}
end
end DL
/-! DL60: list(range(a, b)) -/
namespace DL
open PySem PySem.Spec PyProof.Rows L2
section
variable {X : Cx} {ca : CT} {Wx : WX} {a b c : Expr} {g : DS → DH → Rs (List Wv)} {p p2 q pos : Pos}
end
end DL
/-! DL61: boxes: lists, tuples, errors that hold what may change; walks over them -/
namespace DL
open PySem PySem.Spec PyProof.Rows L2
def bxR (k : Bk) (ws : List Wv) (h : DH) : Rs Wv := if ws.length ≤ 1000000 then .ok (.r h.length) (h ++ [.box k ws]) else .bad
def eBx (k : Bk) (g : DS → DH → Rs (List Wv)) : DS → DH → Rs Wv := b1 g (bxR k)
theorem Ext.hnone {S T : Wd} (e : Ext S T) {p : Addr} (h : T.H p = Option.none) : S.H p = Option.none := by
  cases q : S.H p with
  | none => rfl
  | some x =>
    obtain ⟨y, hy⟩ := e.th _ x q
    rw [h] at hy; cases hy
theorem RepWs.get {G : Ctx} {S : Wd} : ∀ {ws : List Wv} {vs : List V} {i : Nat} {w : Wv}, RepWs G S ws vs → ws[i]? = some w → ∃ v, vs[i]? = some v ∧ RepW G S w v
  | [], vs, i, w, h, e => by simp at e
  | x :: ws, vs, 0, w, ⟨v, r, a, p, q⟩, e => by
    simp at e; subst e; subst a
    exact ⟨v, rfl, p⟩
  | x :: ws, vs, i + 1, w, ⟨v, r, a, p, q⟩, e => by
    subst a
    obtain ⟨u, h1, h2⟩ := RepWs.get (i := i) (w := w) q (by simpa using e)
    exact ⟨u, by simpa using h1, h2⟩
section
variable {X : Cx} {ca : CT} {Wx : WX} {es : List Expr} {g : DS → DH → Rs (List Wv)} {pos : Pos}
theorem reg_rw {G : Ctx} {S : Wd} {p : Addr} {o : DO} : RepW G (S.reg p o) (.r S.h.length) (.ref p) := by
  refine ⟨?_, ?_⟩
  · show S.h.length < (S.h ++ [o]).length
    rw [List.length_append]; simp
  · show V.ref p = V.ref (if S.h.length = S.h.length then p else _)
    rw [if_pos rfl]
theorem pd_bxL (h : PDA X ca Wx es g) : PD X ca Wx (.List es pos) (eBx .lst g) := PE.imp (pe_lst h) fun σ H Q z => by
  refine (b1_imp (R1 := RL (gx X ca)) z).mono ?_
  rintro vs H1 ⟨S0, S, ws, rfl, e1, eH, ok, r, q⟩
  unfold bxR at q
  by_cases hl : ws.length ≤ 1000000
  · rw [if_pos hl] at q
    refine ⟨by rw [← r.length]; exact le_line hl, fun p hp => ?_⟩
    obtain ⟨e2, ok2⟩ := ok.put (o := .lst vs) hp
    have hz : (S.put p (.lst vs)).Z p = some (.lst vs) := upd_same
    have e3 := e2.repWs r
    have or : OR (gx X ca) (S.put p (.lst vs)) (.box .lst ws) p := ⟨vs, hz, e3⟩
    exact q ((S.put p (.lst vs)).reg p (.box .lst ws)) (.ref p) ((e1.trans e2).reg (e1.hnone hp)) rfl (ok2.regD or rfl) (reg_rw (S := S.put p (.lst vs)))
  · rw [if_neg hl] at q; exact q.elim
end
/-! ### walks over a box -/
structure ItRW (G : Ctx) (J : It) (S0 : Wd) (xs : List Wv) : Prop where
  go : ∀ S, Ext S0 S → Ok G S → ∀ i, i < xs.length → J.go i S.H
  stop : ∀ S, Ext S0 S → Ok G S → ∀ i, xs.length ≤ i → J.stop i S.H
  yld : ∀ S, Ext S0 S → Ok G S → ∀ (i : Nat) x H' d, xs[i]? = some d → J.yld i S.H x H' → ∃ S', S'.H = H' ∧ S'.h = S.h ∧ Ext S S' ∧ Ok G S' ∧ RepW G S' d x
section
variable {X : Cx} {ca : CT} {Wx : WX} {tg e : Expr} {f : DS → DH → Rs Wv}
end
end DL
/-! DL62: isinstance with an own class, == and != by an own __eq__ -/
namespace L2
open PySem PySem.Spec PyProof.Rows
section
variable {X : Cx} {pins : List (Addr × Obj)} {σ : St} {H : Hp} {s : Shared}
end
/-! ### own == -/
section
variable {prog : Program} {w : World} {A : Around} {E : Value → Shared → Prop} {s : Shared} {K : PySem.W.Frag} {x C f : Addr} {ox : Obj} {od : Option Obj} {b tb : Value}
end
section
variable {X : Cx} {k : Nat} {f C : Addr} {fd : FuncData} {ps : List Str} {sp : Sp}
end
end L2
/-! DL63: what kind a thing is of; isinstance, == and != with an own class, in worlds -/
namespace DL
open PySem PySem.Spec PyProof.Rows L2
inductive Tt where
  | bt (s : String)
  | ic (c : Nat)
  | xc (c : Nat)
def Tt.val (ca : CT) : Tt → Value
  | .bt s => .type s
  | .ic c => .ref (ca.CA c)
  | .xc c => .ref (ca.CA c)
/-- what a class must say, so that its instances are asked rightly -/
structure IcF (K : PySem.W.Frag) (D : Addr) : Prop where
  cl : Cls K D
  ha : PySem.W.findIn K (.ref D) "__class__" = some (some (.builtin "object.__class__"))
  hn : PySem.W.specialIn K (.builtin "object.__class__") "__get__" = some (some (.builtin "getset_descriptor.__get__"))
  ht : PySem.W.takesIn K (.builtin "object.__class__") = some true
  hm : PySem.W.mroIn K D (.type "object") = some true
def BtN (s : String) : Prop := s = "NoneType" ∨ s = "bool" ∨ s = "int" ∨ s = "str" ∨ s = "tuple" ∨ s = "list" ∨ s = "dict"
/-- what the text says of a class that things are asked for, held against -/
structure IsO (K : PySem.W.Frag) (ca : CT) (c : Nat) (ic xc : List Nat) : Prop where
  fi : ∀ d ∈ ic, IcF K (ca.CA d)
  fx : ∀ d ∈ xc, ExcC K (ca.CA d)
  b : ∀ s, BtN s → PySem.W.kitOne K (.type s) (.ref (ca.CA c)) = some false ∧ PySem.W.notFirst K (ca.CA c) (.type s) = true
  i : ∀ d ∈ ic, PySem.W.kitOne K (.ref (ca.CA d)) (.ref (ca.CA c)) = some (d == c) ∧ PySem.W.notFirst K (ca.CA c) (.ref (ca.CA d)) = true
  x : ∀ d ∈ xc, PySem.W.kitOne K (.ref (ca.CA d)) (.ref (ca.CA c)) = some false ∧ PySem.W.notFirst K (ca.CA c) (.ref (ca.CA d)) = true
section
variable {X : Cx} {ca : CT} {Wx : WX} {e : Expr} {f : DS → DH → Rs Wv} {pos p p2 : Pos} {ic xc : List Nat} {c : Nat}
end
/-! ### own == -/
section
variable {X : Cx} {ca : CT} {Wx : WX} {a b : Expr} {f g : DS → DH → Rs Wv} {pos : Pos} {ic xc : List Nat} {c k : Nat} {F : List Wv → DH → Rs Wv}
end
section
variable {P : Program} {w : World} {K : PySem.W.Frag} {mg : Str → Option Value} {base : Heap} {ca : CT} {k c : Nat} {m qual y z : Str} {st : Stmt} {N : List Str} {B : Sm}
end
end DL
/-! DL64: own exceptions made as values, held in a box -/
namespace L2
open PySem PySem.Spec PyProof.Rows
theorem pe_mk {X : Cx} {e : Expr} {t : St → Hp → XK → Prop} (he : PMk X e t) : PE X e (fun σ H Q => t σ H fun cls d H' => ∀ a, H' a = none → Q (.ref a) (upd H' a (exq a cls d))) := ⟨fun pins s σ H Q I h => by
  refine wpAny_mono (he pins s σ H _ I h) (fun u s1 hu => ?_) fun _ _ x => x
  obtain ⟨a, oe, vs, sI, H', cls, d, rfl, J, k, hne, ha, hz, hd, h1, na, os, ag, r, q⟩ := hu
  have J1 := J.laidN (h' := s1.heap) (o := exq a cls d) (t' := s1.toks) k hne na (show ObjOk X.prog X.w (upd H' a (exq a cls d)) s1.heap a (exq a cls d) from ⟨⟨oe, vs, ha, hz, hd⟩, ⟨oe, ha⟩, fun h1 h2 ⟨o2, vs2, e2, z2, d2⟩ kk => ⟨o2, vs2, kk _ e2, z2, d2⟩⟩)
  exact ⟨.ref a, upd H' a (exq a cls d), ⟨J1.ok, os.trans J1.os, ag, J1.base, J1.loc, J1.cell, J1.free, J1.freeC, J1.pin, J1.hok, J1.len⟩, rfl, q a na⟩⟩
end L2
namespace DL
open PySem PySem.Spec PyProof.Rows L2
def xcR (c n : Nat) (ws : List Wv) (h : DH) : Rs Wv := if ws.length = n then .ok (.r h.length) (h ++ [.box (.exc c) ws]) else .bad
section
variable {X : Cx} {ca : CT} {Wx : WX} {x f : Str} {p pos2 : Pos} {e : Expr} {g : DS → DH → Rs (List Wv)} {c k : Nat}
theorem pd_xc1 (C : CanX X.prog X.w X.K X.mg X.base ca k c x f) (hr : Room (k + 1) X.A) (hg : Gl X x) (ha : PDA X ca Wx [e] g) (hdb : (x == ("__debug__" : Str)) = false := by decide)
    (he : starEach [e] X.env = (false, eval e X.env) :: starEach [] X.env := by rfl) (hpl : (backTo pos2 (starEach [] X.env)).any (·.1) = false := by rfl) : PD X ca Wx (.Call (.Name x p) [e] [] pos2) (b1 g (xcR c 1)) := by
  obtain ⟨fI, fd, ps, T, hm, hfs, hi, ht, hb, F⟩ := C
  refine PE.imp (pe_mk (pmk_oex T hi ht F hr hb .nil passL hg hm ha hdb he hpl)) fun σ H Q ⟨S, ds, eH, ok, rs, pp⟩ => ?_
  refine ⟨S, ds, eH, ok, rs, ?_⟩
  unfold b1 at pp
  cases q : g ds S.h with
  | bad => rw [q] at pp; exact pp
  | er x h1 => rw [q] at pp; exact pp
  | ok ws h1 =>
    rw [q] at pp
    unfold xcR at pp
    dsimp only at pp
    match ws, pp with
    | [], pp => exact False.elim pp
    | _ :: _ :: _, pp => rw [if_neg (by simp)] at pp; exact False.elim pp
    | [w], pp =>
      rw [if_pos (show [w].length = 1 from rfl)] at pp
      intro S' vs e1 hh ok' r
      obtain ⟨v, t, rfl, rv, rt⟩ := r
      have rt : t = [] := rt
      subst rt
      refine ⟨by simp, fun a na => ⟨a, v, rfl, upd_same, fun dx hdx ne => ⟨rfl, dx, [(f, v)], upd_same, by rw [upd_ne ne, upd_same], ?_, ?_⟩⟩⟩
      · have := hdx
        rwa [upd_ne ne] at this
      · have hdx' : S'.H dx = none := by
          have := hdx
          rwa [upd_ne ne] at this
        rw [upd_exo (C := a) na ne]
        intro a' na'
        obtain ⟨e2, ok2⟩ := ok'.put (o := .xd [(f, v)]) hdx'
        obtain ⟨e3, ok3⟩ := ok2.put (o := exq a' (.ref (ca.CA c)) (some dx)) (p := a') na'
        have z1 : ((S'.put dx (.xd [(f, v)])).put a' (exq a' (.ref (ca.CA c)) (some dx))).Z dx = some (.xd [(f, v)]) := e3.zz _ _ upd_same
        have rw' := (e2.trans e3).repW rv
        have or : OR (gx X ca) ((S'.put dx (.xd [(f, v)])).put a' (exq a' (.ref (ca.CA c)) (some dx))) (.box (.exc c) [w]) a' :=
          ⟨some dx, upd_same, .inr ⟨dx, [(f, v)], rfl, z1, hfs.symm, ⟨_, _, rfl, rw', rfl⟩⟩⟩
        have nS : S.H a' = none := (e1.trans e2).hnone na'
        subst hh
        exact pp (((S'.put dx (.xd [(f, v)])).put a' (exq a' (.ref (ca.CA c)) (some dx))).reg a' (.box (.exc c) [w])) (.ref a') (((e1.trans e2).trans e3).reg nS) rfl (ok3.regD or rfl) (reg_rw (S := (S'.put dx (.xd [(f, v)])).put a' (exq a' (.ref (ca.CA c)) (some dx))))
end
end DL
namespace DL
open PySem PySem.Spec PyProof.Rows L2
/-! ### isinstance(x, (T, U)) of built-in types -/
section
variable {X : Cx} {ca : CT} {Wx : WX} {e : Expr} {f : DS → DH → Rs Wv} {p p1 p2 p3 pos : Pos} {k : Nat}
end
end DL
/-! DL66: lambdas (of one parameter at most): made, called; what they have captured -/
namespace L2
open PySem PySem.Spec PyProof.Rows LamX

/-- what a lambda may read: the names that it has captured, each in its cell -/
structure Cap (N : List Str) (σ : St) (sc : Scope) (cl : List (Str × Addr)) (H : Hp) (h : Heap) : Prop where
  inj : ∀ x y c, cl.lookup x = some c → cl.lookup y = some c → x = y
  has : ∀ y, sc.names.lookup y = some .free → ∃ c, cl.lookup y = some c
  cell : ∀ y c, cl.lookup y = some c → H c = none ∧ ∃ v, h.IsCell c v
  val : ∀ (i : Nat) y v, N[i]? = some y → σ[i]? = some (some v) → sc.names.lookup y = some .free → ∃ u c, RelV v u ∧ cl.lookup y = some c ∧ h.IsCell c (some u)
/-- its own names: one parameter at most, what its comprehensions bind; all others are captured or stand in the module -/
structure LamN (N ps : List Str) (sc : Scope) : Prop where
  kind : sc.kind = .function
  co : sc.isCoroutine = false
  gen : sc.isGenerator = false
  cel : ∀ y ∈ sc.names, y.2 ≠ .cell
  par : ∀ y ∈ ps, sc.names.lookup y = some .local
  out : ∀ y ∈ N, sc.names.lookup y ≠ some .local
  one : ps.length ≤ 1
section
variable {P : Program} {w : World} {K : PySem.W.Frag} {mg : Str → Option Value} {base : Heap} {N ps more : List Str} {σ : St} {q : Str} {sc : Scope} {cl : List (Str × Addr)} {A : Around} {outer : List Env} {s : Shared} {H : Hp} {E : XK} {f c : Addr} {vs : List V} {us : List Value}
end

/-! ### the making -/
/-- what stands behind the making: nothing told of has changed, or the table has grown by a new code object -/
inductive Made (H : Hp) (P c : Addr) (q : Str) : Hp → Prop
  | old : Made H P c q H
  | new {ps more : Array Value} (hP : H P = some (.tbl ps)) (hc : H c = none) : Made H P c q (upd (upd H P (.tbl (ps ++ more))) c (CodeO c q))
section
variable {X : Cx} {pins : List (Addr × Obj)} {σ : St} {H : Hp} {s : Shared}
end
end L2
/-! DL67: a lambda without parameters, handed to a def that calls it; what it reads is data -/
namespace DL
open PySem PySem.Spec PyProof.Rows L2 LamX
/-- the same texts, other things that stay known -/
def CT.wz (ca : CT) (Z : Hp) : CT := { ca with bZ := Z }
section
variable {K : PySem.W.Frag} {ca : CT} {Z Y : Hp}
mutual
theorem rep_wz : ∀ {d : Dv} {v : V}, Rep ⟨K, ca.wz Z⟩ Y d v ↔ Rep ⟨K, ca⟩ Y d v
  | .non, v => by unfold Rep; exact Iff.rfl
  | .bl _, v => by unfold Rep; exact Iff.rfl
  | .int _, v => by unfold Rep; exact Iff.rfl
  | .str _, v => by unfold Rep; exact Iff.rfl
  | .fn _, v => by unfold Rep; exact Iff.rfl
  | .tup xs, v => by
    unfold Rep
    exact ⟨fun ⟨a, vs, e, s, r⟩ => ⟨a, vs, e, s, reps_wz.mp r⟩, fun ⟨a, vs, e, s, r⟩ => ⟨a, vs, e, s, reps_wz.mpr r⟩⟩
  | .lst xs, v => by
    unfold Rep
    exact ⟨fun ⟨a, vs, e, s, r⟩ => ⟨a, vs, e, s, reps_wz.mp r⟩, fun ⟨a, vs, e, s, r⟩ => ⟨a, vs, e, s, reps_wz.mpr r⟩⟩
  | .scr xs, v => by
    unfold Rep
    exact ⟨fun ⟨a, vs, e, s, r⟩ => ⟨a, vs, e, s, reps_wz.mp r⟩, fun ⟨a, vs, e, s, r⟩ => ⟨a, vs, e, s, reps_wz.mpr r⟩⟩
  | .dct ks xs, v => by
    unfold Rep
    exact ⟨fun ⟨a, kv, e, s, k, r⟩ => ⟨a, kv, e, s, k, reps_wz.mp r⟩, fun ⟨a, kv, e, s, k, r⟩ => ⟨a, kv, e, s, k, reps_wz.mpr r⟩⟩
  | .ins c xs, v => by
    unfold Rep
    exact ⟨fun ⟨a, dx, fv, e, s, k, r⟩ => ⟨a, dx, fv, e, s, k, reps_wz.mp r⟩, fun ⟨a, dx, fv, e, s, k, r⟩ => ⟨a, dx, fv, e, s, k, reps_wz.mpr r⟩⟩
  | .exc c xs, v => by
    unfold Rep
    exact ⟨fun ⟨a, d, e, s, r⟩ => ⟨a, d, e, s, r.imp id fun ⟨dd, fv, e1, e2, e3, e4⟩ => ⟨dd, fv, e1, e2, e3, reps_wz.mp e4⟩⟩,
      fun ⟨a, d, e, s, r⟩ => ⟨a, d, e, s, r.imp id fun ⟨dd, fv, e1, e2, e3, e4⟩ => ⟨dd, fv, e1, e2, e3, reps_wz.mpr e4⟩⟩⟩
theorem reps_wz : ∀ {ds : List Dv} {vs : List V}, Reps ⟨K, ca.wz Z⟩ Y ds vs ↔ Reps ⟨K, ca⟩ Y ds vs
  | [], vs => by unfold Reps; exact Iff.rfl
  | d :: ds, vs => by
    unfold Reps
    exact ⟨fun ⟨v, r, e, p, q⟩ => ⟨v, r, e, rep_wz.mp p, reps_wz.mp q⟩, fun ⟨v, r, e, p, q⟩ => ⟨v, r, e, rep_wz.mpr p, reps_wz.mpr q⟩⟩
end
variable {S : Wd}
end
/-! ### what the def makes does not hang on the function object's place -/
section
variable {X : Cx} {ca : CT} {Wx : WX}
end
end DL
/-! DL68: the top of a law whose defs make lambdas: their code objects' tables are tracked -/
namespace DL
open PySem PySem.Spec PyProof.Rows L2 LamX
section
variable {P : Program} {w : World} {K : PySem.W.Frag} {mg mb : Str → Option Value} {k : Nat} {fa a : Addr} {fd : FuncData} {x : Str} {sp : Sp} {s₁ : Shared} {vs : List Value} {ns : List Int}
/-- the script, the modules' dict, the tables -/
def scrT (K : PySem.W.Frag) (a : Addr) (o : Obj) (ns : List Int) (om : Obj) (cs : List (Addr × Addr)) : Hp := fun b => if b ∈ cs.map (·.2) then some (.tbl #[]) else scrH K a o ns om b
theorem top_callT {cs : List (Addr × Addr)} (KX : K.In s₁.heap) (hns : s₁.heap.Ns mainGlobals mg) (hb : s₁.heap.Ns builtinsNs mb) (hbb : ∀ y : Str, y ≠ "__name__" → mb y = bootBuiltins y) (hlim : s₁.heap.NoLimit) (hg : s₁.gens = #[]) (hsys : ∃ mm, s₁.heap.Ns sysModules mm)
    (hbm : ∃ bm ob, mg "__builtins__" = some (.ref bm) ∧ bm ≠ builtinsNs ∧ s₁.heap.get? bm = some ob ∧ ob.cls = .type "module" ∧ ob.dict = some builtinsNs ∧ ob.data = .plain)
    (hT : ∀ p ∈ cs, s₁.heap.get? p.2 = some { cls := .none, data := .fields #[] }) (nT : ∀ p ∈ cs, K.lookup p.2 = none) (hC : ∀ p ∈ cs, PySem.W.CodeHd s₁.heap p.1 p.2)
    (ha : s₁.heap.get? a = some { cls := .type "list", data := .seq vs.toArray }) (hi : IntsAre vs ns) (hl : ns.length ≤ sizeLine) (hr : Room k callerA)
    (F : ∀ base : Heap, K.In base → base.Ns mainGlobals mg → (∀ p ∈ cs, TabB base mg p.1 p.2) → FnG P w K mg base k fa fd [x] sp) (hbind : ∀ (s : Shared) (u : Value), BindsTo s fd ⟨[u], []⟩ [(x, u)])
    (hsp : ∀ o om : Obj, SqL K (scrT K a o ns om cs) a (ns.map V.int) → (∀ p ∈ cs, scrT K a o ns om cs p.2 = some (.tbl #[])) → sp [.ref a] (scrT K a o ns om cs) (fun v _ => v = .bl true) fun _ _ _ => False) :
    codeAny (model P w) callerA (.call (.ref fa) ⟨[.ref a], []⟩) (fun r s' => r = .ok (.ret (.bool true)) ∧ OldK s₁.heap s'.heap ∧ s'.os = s₁.os ∧ AllBare s'.gens) s₁ := by
  have rv : Vals (ns.map V.int) vs := vals_ints hi
  have lv := hi.length
  generalize hob : ({ cls := .type "list", data := .seq vs.toArray } : Obj) = ob at ha
  obtain ⟨mm, om, esm, epm, hom, hdm, _⟩ := hsys
  have isT : ∀ {b : Addr}, b ∈ cs.map (·.2) → s₁.heap.get? b = some { cls := .none, data := .fields #[] } := fun {b} hb => by
    obtain ⟨p, hp, rfl⟩ := List.mem_map.mp hb
    exact hT p hp
  have inT : ∀ {p : Addr × Addr}, p ∈ cs → p.2 ∈ cs.map (·.2) := fun {p} hp => List.mem_map.mpr ⟨p, hp, rfl⟩
  have aT : a ∉ cs.map (·.2) := fun z => by
    have q := isT z
    rw [ha, ← hob] at q
    exact Data.noConfusion (congrArg Obj.data (Option.some.inj q))
  have mT : sysModules ∉ cs.map (·.2) := fun z => by
    have q := isT z
    rw [hom] at q
    rw [show om = _ from Option.some.inj q] at hdm
    exact Data.noConfusion hdm
  generalize hHH : scrT K a ob ns om cs = H
  have H_T : ∀ {b : Addr}, b ∈ cs.map (·.2) → H b = some (.tbl #[]) := fun {b} hb => by rw [← hHH]; exact if_pos hb
  have H_O : ∀ {b : Addr}, b ∉ cs.map (·.2) → H b = scrH K a ob ns om b := fun {b} hb => by rw [← hHH]; exact if_neg hb
  have cases_ : ∀ {b : Addr} {u : HO}, H b = some u → (b ∈ cs.map (·.2) ∧ u = .tbl #[]) ∨ (b = a ∧ K.lookup a = none ∧ u = .frz ob (.lst (ns.map V.int))) ∨ (b = sysModules ∧ K.lookup sysModules = none ∧ u = .frz om (.ext fun h => h.get? sysModules = some om)) := fun {b u} h => by
    by_cases hb : b ∈ cs.map (·.2)
    · rw [H_T hb] at h; exact .inl ⟨hb, (Option.some.inj h).symm⟩
    · rw [H_O hb] at h; exact .inr (scrH_at h)
  have hH : HOk P w H s₁.heap := fun b u z => by
    rcases cases_ z with ⟨hb, rfl⟩ | ⟨rfl, _, rfl⟩ | ⟨rfl, _, rfl⟩
    · exact isT hb
    · exact ⟨ha, by rw [List.length_map]; exact hl, vs, _, rv, by rw [← hob] at ha; exact ha⟩
    · exact ⟨hom, hom, ⟨_, hom⟩, fun h1 h2 z k => k _ z⟩
  have hS : SqL K H a (ns.map V.int) := by
    have z : SqL K (scrH K a ob ns om) a (ns.map V.int) := scrH_sq (by
      cases q : K.lookup a with
      | none => exact .inl rfl
      | some u =>
        have z := KX a u q
        rw [ha] at z
        cases z
        exact .inr ⟨vs.toArray, _, rfl, by rw [← hob], by rw [← hob], by rw [← hob], by rw [List.size_toArray, lv]; exact hl, rv⟩)
    rcases z with (z | ⟨o, z⟩) | z
    · exact .inl (.inl ((H_O aT).trans z))
    · exact .inl (.inr ⟨o, (H_O aT).trans z⟩)
    · exact .inr z
  have seen : ∀ {b : Addr} {o : Obj}, s₁.heap.get? b = some o → (b = a → K.lookup a ≠ none) → (b = sysModules → K.lookup sysModules ≠ none) → b ∉ cs.map (·.2) → (hidT s₁.heap H).get? b = some o := fun {b o} z c c2 c3 => hidT_get z (by
    cases q : H b with
    | none => rfl
    | some u =>
      rcases cases_ q with ⟨e, _⟩ | ⟨e, n, _⟩ | ⟨e, n, _⟩
      · exact absurd e c3
      · exact absurd n (c e)
      · exact absurd n (c2 e))
  have dif : ∀ {b : Addr} {o : Obj}, s₁.heap.get? b = some o → (∀ xs n, o.data ≠ .seq xs n) → (∀ es n, o.data ≠ .dict es n) → o.data ≠ .fields #[] → (hidT s₁.heap H).get? b = some o := fun {b o} z n1 n2 n3 => seen z (fun e => by
    subst e; rw [ha] at z; cases z; rw [← hob] at n1; exact absurd rfl (n1 _ _)) (fun e => by
    subst e; rw [hom] at z; cases z; exact absurd hdm (n2 _ _)) fun hb => by
    rw [isT hb] at z; cases z; exact n3 rfl
  have dct : ∀ {b : Addr} {m : Str → Option Value}, b ≠ sysModules → s₁.heap.Ns b m → (hidT s₁.heap H).Ns b m := by
    rintro b m nb ⟨o, es, ep, z, d, r⟩
    refine ⟨o, es, ep, seen z ?_ (fun e => absurd e nb) fun hb => ?_, d, r⟩
    · intro e
      subst e
      rw [ha] at z
      injection z with z
      rw [← z, ← hob] at d
      exact Data.noConfusion d
    · rw [isT hb] at z
      cases z
      exact Data.noConfusion d
  have hKb : K.In (hidT s₁.heap H) := fun b o z => seen (KX b o z) (fun e => by rw [← e, z]; exact Option.some_ne_none _) (fun e => by rw [← e, z]; exact Option.some_ne_none _) fun hb => by
    obtain ⟨p, hp, rfl⟩ := List.mem_map.mp hb
    rw [nT p hp] at z; cases z
  have hM : Mod K mg (hidT s₁.heap H) := ⟨hKb, dct (by decide) hns, ⟨mb, dct (by decide) hb, hbb⟩, let ⟨mc, h1, h2⟩ := hlim; ⟨mc, dct (by decide) h1, h2⟩⟩
  have TB : ∀ p ∈ cs, TabB (hidT s₁.heap H) mg p.1 p.2 := fun p hp => by
    have g0 : mainGlobals ≠ p.2 := fun e => by
      obtain ⟨o, es, ep, z, d, _⟩ := hns
      rw [e, hT p hp] at z; cases z; exact Data.noConfusion d
    refine ⟨?_, ?_, g0⟩
    · obtain ⟨o, us, file, tf, flags, tg, inF, text, tt, e1, r1, r2, r3, rest⟩ := hC p hp
      refine ⟨o, us, file, tf, flags, tg, inF, text, tt, dif e1 (fun _ _ z => ?_) (fun _ _ z => ?_) (fun z => ?_), r1, r2, r3, rest⟩
      · rw [r2] at z; exact Data.noConfusion z
      · rw [r2] at z; exact Data.noConfusion z
      · rw [r2] at z
        have : us = #[] := Data.fields.inj z
        rw [this] at r3
        simp at r3
    · obtain ⟨bm, o, b1, b2, b3, b4, b5, b6⟩ := hbm
      refine ⟨bm, o, b1, b2, fun e => ?_, fun e => ?_, dif b3 (fun _ _ z => ?_) (fun _ _ z => ?_) (fun z => ?_), b4, b5, b6⟩
      · obtain ⟨o2, es, ep, z, d, _⟩ := hns
        rw [← e, b3] at z; cases z; rw [b6] at d; exact Data.noConfusion d
      · rw [e, hT p hp] at b3; cases b3; exact Data.noConfusion b6
      · rw [b6] at z; exact Data.noConfusion z
      · rw [b6] at z; exact Data.noConfusion z
      · rw [b6] at z; exact Data.noConfusion z
  have am : a ≠ sysModules := fun e => by
    rw [e, hom] at ha
    cases ha
    rw [← hob] at hdm
    exact Data.noConfusion hdm
  have sy : SysH K H := by
    cases q : K.lookup sysModules with
    | some o2 =>
      have := KX _ _ q
      rw [hom] at this
      cases this
      exact .inr ⟨om, esm, epm, q, hdm⟩
    | none =>
      refine .inl ⟨om, .ext fun h => h.get? sysModules = some om, esm, epm, ?_, hdm⟩
      rw [H_O mT]
      unfold scrH
      rw [if_neg fun c => am c.1.symm, if_pos ⟨rfl, by rw [q]; rfl⟩]
  have e0 : Env0 P w K mg (hidT s₁.heap H) callerA [] s₁ H :=
    { frames := rfl, mod := hM, bs := fun b o e => of_hidT e, bsz := Nat.le_of_eq (hidT_size _ _), funs := trivial, frf := fun b z => (by cases z), hok := hH, bare := .of_eq hg }
  refine codeAny_mono ((F _ hKb (dct (by decide) hns) TB).go callerA [] s₁ H ⟨[.ref a], []⟩ [.ref a] [.ref a] _ _ hr ⟨rfl, sy⟩ e0 (hbind s₁ (.ref a)) (.cons rfl .nil) (by rw [← hHH]; exact hsp ob om (by rw [hHH]; exact hS) fun p hp => by rw [hHH]; exact H_T (inT hp))) ?_
  intro r s' z
  match r, z with
  | .error e, z =>
    obtain ⟨_, _, _, _, _, _, _, _, _, _, _, _, c⟩ := (show L2.CX P w [] _ _ _ _ _ from z)
    exact c.elim
  | .ok (.ret u), z =>
    obtain ⟨v, H', os, bare, un, hok', r', q⟩ := z
    have q' : v = .bl true := q
    subst q'
    obtain rfl : u = Value.bool true := r'
    have more : ∀ {b : Addr}, b ∈ cs.map (·.2) → ∃ ps : Array Value, s'.heap.get? b = some { cls := .none, data := .fields ps } := fun {b} hb => by
      obtain ⟨m, z⟩ := un.tbls b #[] (H_T hb)
      exact ⟨_, hok' b _ z⟩
    have old : ∀ {b : Addr} {o : Obj}, b ∉ cs.map (·.2) → s₁.heap.get? b = some o → s'.heap.get? b = some o := fun {b o} nb e => by
      cases q2 : H b with
      | none => exact un.keep b o e q2 (fun c => by cases c) (fun c => by cases c)
      | some u =>
        rcases cases_ q2 with ⟨hb, _⟩ | ⟨rfl, _, rfl⟩ | ⟨rfl, _, rfl⟩
        · exact absurd hb nb
        · rw [ha] at e
          cases e
          exact (hok' _ _ (un.frzs _ _ _ q2)).1
        · rw [hom] at e
          cases e
          exact (hok' _ _ (un.frzs _ _ _ q2)).1
    refine ⟨rfl, ⟨fun b o e => ?_, fun b o e => ?_⟩, os, bare⟩
    · by_cases hb : b ∈ cs.map (·.2)
      · obtain ⟨ps, hm⟩ := more hb
        obtain ⟨p, hp, rfl⟩ := List.mem_map.mp hb
        rw [hT p hp] at e
        cases e
        exact .inr (.inl ⟨((hC p hp).tab (hT p hp)).isCodeTable, rfl, #[], ps, rfl, by rw [Array.empty_append]; exact hm⟩)
      · exact .inl (old hb e)
    · by_cases hb : b ∈ cs.map (·.2)
      · obtain ⟨ps, hm⟩ := more hb
        exact ⟨_, hm⟩
      · exact ⟨o, old hb e⟩
end
/-- the tables that are told of -/
def CT.tl (ca : CT) (T : List (Addr × Str)) : CT := { ca with TL := T }
def spTT (K : PySem.W.Frag) (n : Nat) (cs : List (Addr × Addr)) : Sp := fun vs H Q _ => ∃ (a : Addr) (ns : List Int), vs = [.ref a] ∧ SqL K H a (ns.map V.int) ∧ (∀ p ∈ cs, H p.2 = some (.tbl #[])) ∧ ns.length ≤ n ∧ ∀ H', Q (.bl true) H'
end DL
/-! DL69: a head whose top is one run: what is known of what the top leaves, told by checks -/
namespace DL
open PySem PySem.Spec PyProof.Rows L2 LamX
abbrev KF := PySem.W.Frag
/-- a def: where its function object stands, its names, its text -/
structure Dfk where
  loc : KF → Addr
  name : Str
  qual : Str
  st : Stmt
abbrev FnK := Option (Str × Str × Arguments × FuncBody × Scope × Addr × List (Str × Addr) × Value × Addr)
def fnK (K : KF) (a : Addr) : FnK :=
  match K.lookup a with
  | some ⟨_, _, .func fd, _⟩ => some ⟨fd.name, fd.qualname, fd.params, fd.body, fd.scope, fd.globals, fd.closure, fd.defaults, fd.builtins⟩
  | _ => none
def Dfk.want (d : Dfk) : FnK := some ⟨d.name, d.qual, defArgs d.st, .stmts (defBody d.st), defScope d.st, mainGlobals, [], .none, builtinsNs⟩
def Dfk.chk (d : Dfk) (K : KF) : Bool :=
  match K.lookup (d.loc K) with
  | some ⟨_, _, .func fd, _⟩ => PySem.W.codeIn K fd.code d.qual
  | _ => false
theorem dfk_ok {K : KF} {d : Dfk} (h : d.chk K = true) (e : fnK K (d.loc K) = d.want) :
    ∃ (oc : Value) (od : Option Addr) (osl : Array (Option Value)) (kV doc pm : Value) (an : Option Addr) (cd ct : Value), K.lookup (d.loc K) = some ⟨oc, od, .func (PySem.W.fnOf d.name d.qual (defArgs d.st) (defBody d.st) (defScope d.st) .none kV doc pm an cd ct), osl⟩ ∧ PySem.W.codeIn K cd d.qual = true := by
  unfold Dfk.chk at h
  unfold fnK at e
  match q : K.lookup (d.loc K) with
  | none => rw [q] at h; cases h
  | some ⟨oc, od, dt, osl⟩ =>
    rw [q] at h e
    cases dt with
    | func fd =>
      obtain ⟨a1, a2, a3, a4, a5, a6, a7, a8, a9, a10, a11, a12, a13, a14, a15⟩ := fd
      have e' := Option.some.inj e
      dsimp only at e'
      simp only [Prod.mk.injEq] at e'
      obtain ⟨rfl, rfl, rfl, rfl, rfl, rfl, rfl, rfl, rfl⟩ := e'
      exact ⟨oc, od, osl, a9, a10, a11, a12, a13, a14, rfl, h⟩
    | _ => cases h
/-- the objects that are looked at: what the module's names stand for, the classes' dicts and what stands in them, all functions' code -/
def nxt (g : Addr → Option Obj) (p : Obj → Bool) (as : List Addr) : List Addr := as.flatMap fun a => match g a with
  | some o => if p o then He.refsD o else []
  | none => []
def isDc (o : Obj) : Bool := match o.data with
  | .dict _ _ => true
  | _ => false
def isFnO (o : Obj) : Bool := match o.data with
  | .func _ => true
  | .fields _ => true
  | _ => false
def noCode (o : Obj) : Bool := match o.cls with
  | .type "code" => false
  | .type "module" => false
  | _ => true
def asK (g : Addr → Option Obj) : List Addr :=
  let l1 := nxt g (fun _ => true) [mainGlobals]
  let l2 := nxt g noCode l1
  let l3 := nxt g isDc l2
  let l4 := nxt g (fun o => isFnO o && noCode o) l3
  let l5 := nxt g (fun o => isFnO o && noCode o) l4
  mainGlobals :: cStatics :: (l1 ++ l2 ++ l3 ++ l4 ++ l5)
def codeAt (K : KF) (a : Addr) : Addr := match K.lookup a with
  | some ⟨_, _, .func fd, _⟩ => (match fd.code with
    | .ref c => c
    | _ => 0)
  | _ => 0
def cTK (K : KF) (a : Addr) : Addr × Addr := (codeAt K a, He.tabOf K (codeAt K a))
/-- the function's code object tells its table; the table is empty -/
def tabK (g : Addr → Option Obj) (K : KF) (a : Addr) : Bool := PySem.W.codeHdIn K (cTK K a).1 (cTK K a).2 && match g (cTK K a).2 with
  | some o => He.emptyTab o
  | none => false
abbrev AlK := Bool × List FnK
def obsK0 (ex : List (KF → Bool)) (fn : List Dfk) (tf : List (KF → Addr)) (g : Addr → Option Obj) (K : KF) : AlK := ((ex.all fun f => f K) && ((fn.all fun d => d.chk K) && tf.all fun a => tabK g K (a K)), fn.map fun d => fnK K (d.loc K))
def obsK (ex : List (KF → Bool)) (fn : List Dfk) (tf : List (KF → Addr)) (g : Addr → Option Obj) : AlK := obsK0 ex fn tf g (He.frT g (asK g))
def wantK (fn : List Dfk) : AlK := (true, fn.map Dfk.want)
structure SaysK (ex : List (KF → Bool)) (fn : List Dfk) (tf : List (KF → Addr)) (h : Heap) (K : KF) : Prop where
  al : ∀ f ∈ ex, f K = true
  ck : ∀ d ∈ fn, d.chk K = true
  eq : fn.map (fun d => fnK K (d.loc K)) = fn.map Dfk.want
  hd : ∀ a ∈ tf, PySem.W.codeHdIn K (cTK K (a K)).1 (cTK K (a K)).2 = true
  out : ∀ a ∈ tf, K.lookup (cTK K (a K)).2 = none
  mt : ∀ a ∈ tf, h.get? (cTK K (a K)).2 = some { cls := .none, data := .fields #[] }
theorem says_of {ex : List (KF → Bool)} {fn : List Dfk} {tf : List (KF → Addr)} {h : Heap} (e : obsK ex fn tf h.get? = wantK fn) : SaysK ex fn tf h (He.frT h.get? (asK h.get?)) := by
  generalize hK : He.frT h.get? (asK h.get?) = K
  have e' : obsK0 ex fn tf h.get? K = wantK fn := by rw [← hK]; exact e
  have e1 := congrArg Prod.fst e'
  have e2 := congrArg Prod.snd e'
  have e3 : ((ex.all fun f => f K) && ((fn.all fun d => d.chk K) && tf.all fun a => tabK h.get? K (a K))) = true := e1
  simp only [Bool.and_eq_true, List.all_eq_true] at e3
  obtain ⟨c1, c2, c3⟩ := e3
  have c4 : ∀ a ∈ tf, PySem.W.codeHdIn K (cTK K (a K)).1 (cTK K (a K)).2 = true ∧ ∃ o, h.get? (cTK K (a K)).2 = some o ∧ He.emptyTab o = true := fun a ha => by
    have z := c3 a ha
    unfold tabK at z
    rw [Bool.and_eq_true] at z
    refine ⟨z.1, ?_⟩
    have z2 := z.2
    split at z2
    · rename_i o q; exact ⟨o, q, z2⟩
    · cases z2
  refine ⟨c1, c2, e2, fun a ha => (c4 a ha).1, fun a ha => ?_, fun a ha => ?_⟩
  · obtain ⟨_, o, q, z⟩ := c4 a ha
    rw [← hK] at q ⊢
    exact He.frT_none q z
  · obtain ⟨_, o, q, z⟩ := c4 a ha
    rw [q, He.emptyTab_eq z]
def hookK (ex : List (KF → Bool)) (fn : List Dfk) (tf : List (KF → Addr)) : PySem.W.Hook where
  α := AlK
  obs := fun s => obsK ex fn tf s.heap.get?
  val := fun _ => wantK fn
  says := fun _ h => ∃ K : KF, K.In h ∧ SaysK ex fn tf h K
  of := fun _ _ e => ⟨_, He.frT_in, says_of e⟩
  keeps := fun _ _ _ ⟨K, hK, c⟩ k => ⟨K, PySem.W.Frag.In.keeps hK k, c.al, c.ck, c.eq, c.hd, c.out, fun a ha => k _ _ (c.mt a ha)⟩
theorem obsK_eq {ex : List (KF → Bool)} {fn : List Dfk} {tf : List (KF → Addr)} (s : PySem.W.SharedT) : obsK ex fn tf (HandSHeadRun.getT s) = (hookK ex fn tf).obs s.abs := by
  have e : HandSHeadRun.getT s = s.abs.heap.get? := funext (HandSHeadRun.getT_eq s)
  rw [e]; rfl
section
variable {ex : List (KF → Bool)} {fn : List Dfk} {tf : List (KF → Addr)} {h : Heap} {K : KF}
theorem exK (c : SaysK ex fn tf h K) (i : Nat) {f : KF → Bool} (e : ex[i]? = some f) : f K = true := c.al f (List.mem_of_getElem? e)
theorem fnK_at (c : SaysK ex fn tf h K) (i : Nat) {d : Dfk} (e : fn[i]? = some d) :
    ∃ (oc : Value) (od : Option Addr) (osl : Array (Option Value)) (kV doc pm : Value) (an : Option Addr) (cd ct : Value), K.lookup (d.loc K) = some ⟨oc, od, .func (PySem.W.fnOf d.name d.qual (defArgs d.st) (defBody d.st) (defScope d.st) .none kV doc pm an cd ct), osl⟩ ∧ PySem.W.codeIn K cd d.qual = true := by
  have z := congrArg (fun l : List FnK => l[i]?) c.eq
  rw [List.getElem?_map, List.getElem?_map, e] at z
  exact dfk_ok (c.ck d (List.mem_of_getElem? e)) (Option.some.inj z)
end
/-! ### checks with unknown parts -/
section
variable {K : KF} {h : Heap} {mg : Str → Option Value}
def chkInt (x : Str) (i : Int) (K : KF) : Bool := match PySem.W.nsIn K mainGlobals x with
  | some (some (.int j _)) => decide (j = i)
  | _ => false
theorem int_at {x : Str} {i : Int} (c : chkInt x i K = true) : ∃ t, PySem.W.nsIn K mainGlobals x = some (some (.int i t)) := by
  unfold chkInt at c
  split at c
  · rename_i j t q; rw [q, of_decide_eq_true c]; exact ⟨t, rfl⟩
  · cases c
/-- a class of exceptions with an __init__ of its own -/
def chkXc (C : Addr) (nw : String) (tl : List Value → Bool) (K : KF) : Bool := match K.lookup C with
  | some ⟨.type c, _, .cls cd, sl⟩ => (match cd.mro, sl.toList with
    | .ref D :: bm, [_, _, _, _, some (.builtin n), _] => decide (c = "type") && (decide (D = C) && (decide (n = nw) && (cd.hasDict && (!cd.hasDel && tl bm))))
    | _, _ => false)
  | _ => false
theorem xc_at {C : Addr} {nw : String} {tl : List Value → Bool} (c : chkXc C nw tl K = true) :
    ∃ (nm q : Str) (N : Addr) (bs bm : List Value) (sn : List Str) (sub : List Value) (ab : Bool) (col : Option Bool) (dd : Option Addr) (k0 k1 k2 k3 k5 : Option Value), K.lookup C = some (excClassObj nm q C N bs bm true sn sub ab col dd k0 k1 k2 k3 k5 nw) ∧ tl bm = true := by
  unfold chkXc at c
  split at c
  · rename_i cl dd cd sl q
    split at c
    · rename_i D bm k0 k1 k2 k3 n k5 e1 e2
      simp only [Bool.and_eq_true, decide_eq_true_eq, Bool.not_eq_true'] at c
      obtain ⟨rfl, rfl, rfl, h1, h2, h3⟩ := c
      obtain ⟨c1, c2, c3, c4, c5, c6, c7, c8, c9, c10, c11⟩ := cd
      dsimp only at e1 h1 h2
      subst e1 h1 h2
      refine ⟨c1, c5, c4, c2, bm, c7, c8, c9, c10, dd, k0, k1, k2, k3, k5, ?_, h3⟩
      rw [q]
      have : sl = #[k0, k1, k2, k3, some (.builtin n), k5] := by rw [← e2]
      rw [this]
    · cases c
  · cases c
def chkCv (c : Value) (m : Str) (s : String) (K : KF) : Bool := match PySem.W.findCls K c (.type "type") m with
  | some (.val (.builtin z)) => decide (z = s)
  | _ => false
theorem cv_at {c : Value} {m : Str} {s : String} (e : chkCv c m s K = true) : PySem.W.findCls K c (.type "type") m = some (.val (.builtin s)) := by
  unfold chkCv at e
  split at e
  · rename_i z q; rw [q, of_decide_eq_true e]
  · cases e
end
theorem FnG.toE {P : Program} {w : World} {K : KF} {mg : Str → Option Value} {base : Heap} {k n : Nat} {f : Addr} {fd : FuncData} {x : Str} {cs : List (Addr × Addr)} (F : FnG P w K mg base k f fd [x] (spT K n)) : FnG P w K mg base k f fd [x] (spTT K n cs) where
  ln := fun vs H Q E ⟨a, ns, e, _⟩ => by rw [e]; rfl
  go := fun A outer s H args us vs Q E hr hG e0 hb r ⟨a, ns, e, hs, _, hl, q⟩ => F.go A outer s H args us vs Q E hr hG e0 hb r ⟨a, ns, e, hs, hl, q⟩
/-! ### the end -/
theorem walk_K {l : PySem.W.OpenLaw} {n k : Nat} {q : Program} {loose : List Str} {XP : (Str → Option Value) → Heap → Prop} {d : DefRec} {x : Str} {ex : List (KF → Bool)} {fn : List Dfk} {tf : List (KF → Addr)}
    (hn : l.most = some n) (hn2 : n ≤ sizeLine) (hdf : d.params.defaults = []) (hr : Room k callerA) (himp : PyProof.Rows.importsNone q = true)
    (hF : ∀ (w : World) (mg : Str → Option Value) (fa : Addr) (h : Heap) (K : KF), K.In h → SaysK ex fn tf h K → h.Ns mainGlobals mg → mg d.name = some (.ref fa) →
      ∃ fd : FuncData, (∀ (s : Shared) (u : Value), BindsTo s fd ⟨[u], []⟩ [(x, u)]) ∧
        ∀ base : Heap, K.In base → base.Ns mainGlobals mg → (∀ p ∈ tf.map (fun a => cTK K (a K)), TabB base mg p.1 p.2) → FnG l.prog w K mg base k fa fd [x] (spTT K n (tf.map fun a => cTK K (a K)))) :
    PySem.W.WalkO q loose XP (hookK ex fn tf).says l.row.toRowW d [] (fun f vs => PySem.call f vs) := by
  refine Att.attach_call hn hdf fun w s₀ s₁ mg mb fa o pm cd doc a vs ns G Y ho hd hcd hmg hobj hints hlen hg => ?_
  obtain ⟨K, KX, c⟩ := Y
  obtain ⟨fd, hb, hf⟩ := hF w mg fa _ K KX c G.T.g hmg
  have un : ∀ {R : Addr × Addr → Prop}, (∀ a ∈ tf, R (cTK K (a K))) → ∀ p ∈ tf.map (fun a => cTK K (a K)), R p := fun {R} z p hp => by
    obtain ⟨a, ha, rfl⟩ := List.mem_map.mp hp
    exact z a ha
  exact top_callT KX G.T.g G.T.b G.T.builtins G.T.nolimit hg (let ⟨mm, z, _⟩ := (G.T.seer himp).mods; ⟨mm, z⟩) G.T.bmain (un (R := fun p => _ = _) c.mt) (un (R := fun p => _ = _) c.out) (un (R := fun p => PySem.W.CodeHd _ p.1 p.2) fun a ha => PySem.W.codeHd_of_K KX (c.hd a ha)) hobj hints (Nat.le_trans hlen hn2) hr hf hb
    fun o om hS hT => ⟨a, ns, rfl, hS, hT, hlen, fun _ => rfl⟩
end DL
/-! DL70: lists that hold what may change: items, length, +, *, repr, enumerate; errors in boxes: made by hand, fields, isinstance -/
namespace DL
open PySem PySem.Spec PyProof.Rows L2
def bxL (w : Wv) (h : DH) : Option (List Wv) := match w with
  | .r n => (match h[n]? with
    | some (.box .lst ws) => some ws
    | _ => none)
  | _ => none
theorem bxL_ok {G : Ctx} {S : Wd} (ok : Ok G S) {w : Wv} {v : V} {ws : List Wv} (h : bxL w S.h = some ws) (r : RepW G S w v) : ∃ a vs, v = V.ref a ∧ S.Z a = some (.lst vs) ∧ RepWs G S ws vs := by
  unfold bxL at h
  split at h
  · rename_i n
    split at h
    · rename_i ws' hn
      cases h
      obtain ⟨_, rfl⟩ := r
      obtain ⟨vs, hz, rr⟩ := ok.obj n _ hn
      exact ⟨_, vs, rfl, hz, rr⟩
    · cases h
  · cases h
theorem Ok.lstZ {G : Ctx} {S : Wd} (ok : Ok G S) {a : Addr} {vs : List V} (h : S.Z a = some (.lst vs)) : S.H a = some (.lst vs) := ok.up1 h fun _ z => by cases z
/-! ### b[i], len(b) -/
def opIxB (a b : Wv) (h : DH) : Rs Wv := match bxL a h with
  | some ws => (match b with
    | .d (.int i) => (match atI ws i with
      | some w => .ok w h
      | none => .bad)
    | _ => .bad)
  | none => opIxZ a b h
theorem repWs_at {G : Ctx} {S : Wd} {ws : List Wv} {vs : List V} {i : Int} {w : Wv} (r : RepWs G S ws vs) (h : atI ws i = some w) : ∃ v, atI vs i = some v ∧ RepW G S w v := by
  unfold atI at h ⊢
  rw [← r.length]
  cases e : ixN ws.length i with
  | none => rw [e] at h; cases h
  | some j => rw [e] at h; exact r.get h
theorem v_ixB {G : Ctx} : VOR G (RW G) (fun x y H Q => rIx G.K x y H Q ∨ rIxK x y H Q) opIxB := fun Wx S σ a b x y Q ok r1 r2 p => by
  unfold opIxB at p
  split at p
  · rename_i ws hw
    split at p
    · rename_i i
      split at p
      · rename_i w hi
        obtain ⟨q, vs, rfl, hz, rr⟩ := bxL_ok ok hw r1
        obtain ⟨v, e, rv⟩ := repWs_at rr hi
        exact .inl (.inl ⟨q, vs, i, v, rfl, rw_int r2, .inl (.inl (ok.lstZ hz)), e, p.here ok (R := RW G) (b := v) rv⟩)
      · exact p.elim
    · exact p.elim
  · exact v_ixZ Wx S σ a b x y Q ok r1 r2 p
def fLenB (ws : List Wv) (h : DH) : Rs Wv := match ws with
  | [w] => (match bxL w h with
    | some xs => .ok (.d (.int xs.length)) h
    | none => fLen [w] h)
  | _ => .bad
theorem v_lenB {G : Ctx} : VOC G (RW G) (rLenA G.K) fLenB := fun Wx S σ ws xs Q ok r p => by
  unfold fLenB at p
  split at p
  · rename_i w
    split at p
    · rename_i ys hd
      obtain ⟨v, rfl, r1⟩ := repWs1 r
      obtain ⟨a, vs, rfl, hz, rr⟩ := bxL_ok ok hd r1
      exact .inl ⟨_, _, rfl, .inl ⟨vs, .inl (.inl (ok.lstZ hz)), rr.length⟩, p.here ok rw_int'⟩
    · exact v_len Wx S σ _ xs Q ok r p
  · exact p.elim
/-! ### b + c, b * k -/
def opCatB (a b : Wv) (h : DH) : Rs Wv := match bxL a h, bxL b h with
  | some ws, some us => if ws.length + us.length ≤ 1000000 then .ok (.r h.length) (h ++ [.box .lst (ws ++ us)]) else .bad
  | _, _ => .bad
/-- a new box -/
theorem box_new {G : Ctx} {Wx : WX} {S : Wd} {σ : L2.St} {p : Addr} {ws : List Wv} {vs : List V} {Q : VK} (ok : Ok G S) (hp : S.H p = none) (r : RepWs G S ws vs) (q : PostE G Wx (RW G) S σ (.ok (.r S.h.length) (S.h ++ [.box .lst ws])) Q) : Q (.ref p) (upd S.H p (.lst vs)) := by
  obtain ⟨e2, ok2⟩ := ok.put (o := .lst vs) hp
  have or : OR G (S.put p (.lst vs)) (.box .lst ws) p := ⟨vs, upd_same, e2.repWs r⟩
  exact q ((S.put p (.lst vs)).reg p (.box .lst ws)) (.ref p) (e2.reg hp) rfl (ok2.regD or rfl) (reg_rw (S := S.put p (.lst vs)))
theorem v_catB {G : Ctx} : VOR G (RW G) rCat opCatB := fun Wx S σ a b x y Q ok r1 r2 p => by
  unfold opCatB at p
  split at p
  · rename_i ws us h1 h2
    split at p
    · rename_i hl
      obtain ⟨l, vs, rfl, z1, q1⟩ := bxL_ok ok h1 r1
      obtain ⟨m, xs, rfl, z2, q2⟩ := bxL_ok ok h2 r2
      exact ⟨l, m, vs, xs, rfl, rfl, ok.lstZ z1, ok.lstZ z2, by rw [← q1.length, ← q2.length]; exact le_line hl, fun pp hp => box_new ok hp (q1.app q2) p⟩
    · exact p.elim
  · exact p.elim
def repB (n : Nat) (ws : List Wv) : List Wv := (List.replicate n ws).flatten
theorem repWs_rep {G : Ctx} {S : Wd} {ws : List Wv} {vs : List V} (r : RepWs G S ws vs) : ∀ n : Nat, RepWs G S (repB n ws) (List.replicate n vs).flatten
  | 0 => rfl
  | n + 1 => by
    unfold repB
    rw [List.replicate_succ, List.replicate_succ, List.flatten_cons, List.flatten_cons]
    exact r.app (repWs_rep r n)
def opMulB (a b : Wv) (h : DH) : Rs Wv := match bxL a h, b with
  | some ws, .d (.int k) => if 0 ≤ k ∧ k ≤ 1000 ∧ ws.length ≤ 1000 then .ok (.r h.length) (h ++ [.box .lst (repB k.toNat ws)]) else .bad
  | _, _ => .bad
theorem v_mulB {G : Ctx} : VOR G (RW G) (rMulZ G.K) opMulB := fun Wx S σ a b x y Q ok r1 r2 p => by
  unfold opMulB at p
  split at p
  · rename_i ws k h1
    split at p
    · rename_i hl
      obtain ⟨l, vs, rfl, z1, q1⟩ := bxL_ok ok h1 r1
      have hy := rw_int r2
      subst hy
      exact .inl (.inl (.inl (.inr ⟨l, k, vs, rfl, rfl, ok.lstZ z1, by omega, by omega, by rw [← q1.length]; exact mul_line hl.2.2 (by omega), fun pp hp => box_new ok hp (repWs_rep q1 _) p⟩)))
    · exact p.elim
  · exact p.elim
/-! ### repr(b) -/
def snapL (h : DH) : List Wv → Option (List Dv)
  | [] => some []
  | w :: ws => (match frzW w h with
    | some x => (match snapL h ws with
      | some xs => some (x :: xs)
      | none => none)
    | none => none)
def snapB (w : Wv) (h : DH) : Option Dv := match bxL w h with
  | some ws => (match snapL h ws with
    | some xs => some (.lst xs)
    | none => none)
  | none => frzW w h
def fReprB (ws : List Wv) (h : DH) : Rs Wv := match ws with
  | [w] => (match snapB w h with
    | some x => (match reprD x with
      | some t => .ok (.d (.str t)) h
      | none => .bad)
    | none => .bad)
  | _ => .bad
def rReprB (G : Ctx) : List V → Hp → VK → Prop := fun xs H Q => ∃ S w v x t, S.H = H ∧ Ok G S ∧ xs = [v] ∧ RepW G S w v ∧ snapB w S.h = some x ∧ reprD x = some t ∧ Q (.str t) H
theorem v_reprB {G : Ctx} : VOC G (RW G) (rReprB G) fReprB := fun Wx S σ ws xs Q ok r p => by
  unfold fReprB at p
  split at p
  · rename_i w
    obtain ⟨v, rfl, r1⟩ := repWs1 r
    split at p
    · rename_i x hx
      split at p
      · rename_i t ht
        exact ⟨S, w, v, x, t, rfl, ok, rfl, r1, hx, ht, p.here ok rw_str'⟩
      · exact p.elim
    · exact p.elim
  · exact p.elim
theorem snaps_reads {X : Cx} {ca : CT} {pins : List (Addr × Obj)} {σ : L2.St} {S : Wd} {s : Shared} (I : Inv X pins σ S.H s) (ok : Ok (gx X ca) S) (hs : SysD s.heap) : ∀ {ws : List Wv} {vs : List V} {us : List Value} {xs : List Dv}, noIs xs = true → snapL S.h ws = some xs → RepWs (gx X ca) S ws vs → Vals vs us →
    ∃ as, ReadsAll s.heap us (pyrs xs) as ∧ sysModules ∉ as
  | [], vs, us, xs, hn, hx, r, e => by
    have : vs = [] := r
    subst this
    cases e
    cases hx
    exact ⟨[], by simp only [pyrs]; exact .nil, fun h => by cases h⟩
  | w :: ws, vs, us, xs, hn, hx, r, e => by
    obtain ⟨v, t, rfl, r1, r2⟩ := r
    cases e with
    | cons e1 e2 =>
      unfold snapL at hx
      split at hx
      · rename_i x hx1
        split at hx
        · rename_i ys hx2
          cases hx
          have n' : noI x = true ∧ noIs ys = true := by simpa [noIs] using hn
          obtain ⟨⟨as, h1, h2⟩, _⟩ := snap_reads I ok hs n'.1 hx1 r1 e1
          obtain ⟨bs, h3, h4⟩ := snaps_reads I ok hs n'.2 hx2 r2 e2
          refine ⟨as ++ bs, by simp only [pyrs]; exact .cons h1 h3, fun hm => ?_⟩
          rcases List.mem_append.mp hm with h | h
          · exact h2 h
          · exact h4 h
        · cases hx
      · cases hx
theorem call_reprB {X : Cx} {ca : CT} (hg : HG X.K X.A X.H_0) (hu : X.A.units + 64 < cLine) : CallR X (.builtin "repr") (rReprB (gx X ca)) := by
  intro pins s σ H xs us Q I r h
  obtain ⟨S, w, v, x, t, rfl, ok, rfl, rw_, hx, ht, q⟩ := h
  unfold snapB at hx
  split at hx
  · rename_i ws hb
    split at hx
    · rename_i ys hy
      cases hx
      obtain ⟨a, vs, rfl, hz, rr⟩ := bxL_ok ok hb rw_
      obtain ⟨u, rfl, e⟩ := vals1 r
      cases (show u = Value.ref a from e)
      unfold reprD at ht
      split at ht
      · rename_i hc
        obtain ⟨c1, c3, c4, c5⟩ := hc
        cases ht
        have hs := hg.2.d I
        obtain ⟨its, rv, ⟨o, k, ho, hcl, _, hd⟩, _⟩ := I.list (SqL.of (K := X.K) (ok.lstZ hz))
        obtain ⟨as, h1, h2⟩ := snaps_reads I ok hs (by simpa [noI] using c1) hy rr rv
        have rd : Reads s.heap (.ref a) (pyr (.lst ys)) (a :: as) := by simp only [pyr]; exact .list ho hcl hd h1
        exact repr_of_reads' rd c3 (fun _ => fun hm => (List.mem_cons.mp hm).elim (fun e => hs.no ho hd e.symm) h2) hg.1 (by omega) (fun _ _ z => z) (fun h' u tk hk => ⟨.str _, S.H, I.kept hk, ⟨_, rfl⟩, q⟩) (le_line c5)
      · cases ht
    · cases hx
  · exact call_reprD (ca := ca) hg hu pins s σ _ _ us Q I r ⟨S, w, v, x, t, rfl, ok, rfl, rw_, hx, ht, q⟩
/-! ### errors in boxes -/
def xcR2 (c : Nat) (ws : List Wv) (h : DH) : Rs Wv := match ws with
  | [y, z] => .ok (.r h.length) (h ++ [.box (.exc c) [z, y]])
  | _ => .bad
def eXc0 (c : Nat) : DS → DH → Rs Wv := fun _ h => .ok (.r h.length) (h ++ [.box (.exc c) []])
section
variable {X : Cx} {ca : CT} {Wx : WX} {x f f2 : Str} {p pos2 : Pos} {e e2 : Expr} {g : DS → DH → Rs (List Wv)} {c k : Nat}
/-- what an error with fields becomes -/
theorem exc_new {G : Ctx} {S S' : Wd} {σ : L2.St} {ws : List Wv} {fv : List (Str × V)} {a dx : Addr} {Q : VK} (e1 : Ext S S') (ok : Ok G S') (hd : S'.H dx = none) (ha : upd S'.H dx (.xd fv) a = none) (hf : fv.map (·.1) = G.T.FS c) (r : RepWs G S' ws (fv.map (·.2)))
    (q : PostE G Wx (RW G) S σ (.ok (.r S'.h.length) (S'.h ++ [.box (.exc c) ws])) Q) : Q (.ref a) (upd (upd S'.H dx (.xd fv)) a (exq a (.ref (G.T.CA c)) (some dx))) := by
  obtain ⟨e2, ok2⟩ := ok.put (o := .xd fv) hd
  obtain ⟨e3, ok3⟩ := ok2.put (o := exq a (.ref (G.T.CA c)) (some dx)) (p := a) ha
  have z1 : ((S'.put dx (.xd fv)).put a (exq a (.ref (G.T.CA c)) (some dx))).Z dx = some (.xd fv) := e3.zz _ _ upd_same
  have rw' := (e2.trans e3).repWs r
  have or : OR G ((S'.put dx (.xd fv)).put a (exq a (.ref (G.T.CA c)) (some dx))) (.box (.exc c) ws) a := ⟨some dx, upd_same, .inr ⟨dx, fv, rfl, z1, hf, rw'⟩⟩
  have nS : S.H a = none := (e1.trans e2).hnone ha
  exact q (((S'.put dx (.xd fv)).put a (exq a (.ref (G.T.CA c)) (some dx))).reg a (.box (.exc c) ws)) (.ref a) (((e1.trans e2).trans e3).reg nS) rfl (ok3.regD or rfl) (reg_rw (S := (S'.put dx (.xd fv)).put a (exq a (.ref (G.T.CA c)) (some dx))))
theorem pd_xc2 (C : CanX2 X.prog X.w X.K X.mg X.base ca k c x f f2) (hr : Room (k + 1) X.A) (hg : Gl X x) (ha : PDA X ca Wx [e, e2] g) (hdb : (x == ("__debug__" : Str)) = false := by decide)
    (he : starEach [e, e2] X.env = (false, eval e X.env) :: starEach [e2] X.env := by rfl) (hpl : (backTo pos2 (starEach [e2] X.env)).any (·.1) = false := by rfl) : PD X ca Wx (.Call (.Name x p) [e, e2] [] pos2) (b1 g (xcR2 c)) := by
  obtain ⟨fI, fd, ps, T, hm, hfs, hi, ht, hb, F⟩ := C
  refine PE.imp (pe_mk (pmk_oex T hi ht F hr hb .nil passL hg hm ha hdb he hpl)) fun σ H Q ⟨S, ds, eH, ok, rs, pp⟩ => ?_
  refine ⟨S, ds, eH, ok, rs, ?_⟩
  unfold b1 at pp
  cases q : g ds S.h with
  | bad => rw [q] at pp; exact pp
  | er x h1 => rw [q] at pp; exact pp
  | ok ws h1 =>
    rw [q] at pp
    match ws, pp with
    | [], pp => exact False.elim pp
    | [_], pp => exact False.elim pp
    | _ :: _ :: _ :: _, pp => exact False.elim pp
    | [y, z], pp =>
      intro S' vs e1 hh ok' r
      obtain ⟨v, t, rfl, rv, t2, t3, rfl, rz, rt⟩ := r
      have rt : t3 = [] := rt
      subst rt
      refine ⟨by simp, fun a na => ⟨a, v, t2, rfl, upd_same, fun dx hdx ne => ⟨rfl, dx, [(f2, t2), (f, v)], by rw [upd_ne ne.symm, upd_same], upd_same, ?_, ?_⟩⟩⟩
      · have := hdx
        rwa [upd_ne ne] at this
      · have hdx' : S'.H dx = none := by
          have := hdx
          rwa [upd_ne ne] at this
        rw [upd_exo2 na ne]
        intro a' na'
        subst hh
        exact exc_new (G := gx X ca) (ws := [z, y]) e1 ok' hdx' na' hfs.symm ⟨_, _, rfl, rz, _, _, rfl, rv, rfl⟩ pp
theorem pd_xcL (C : CanXL X.prog X.w X.K X.mg X.base ca k c x f) (hr : Room (k + 1) X.A) (hg : Gl X x) (ha : PDA X ca Wx [e] g) (hdb : (x == ("__debug__" : Str)) = false := by decide)
    (he : starEach [e] X.env = (false, eval e X.env) :: starEach [] X.env := by rfl) (hpl : (backTo pos2 (starEach [] X.env)).any (·.1) = false := by rfl) : PD X ca Wx (.Call (.Name x p) [e] [] pos2) (b1 g (xcR c 1)) := by
  obtain ⟨fI, fd, ps, T, hm, hfs, hi, ht, hb, F⟩ := C
  refine PE.imp (pe_mk (pmk_oexL T hi ht F hr hb passL hg hm ha hdb he hpl)) fun σ H Q ⟨S, ds, eH, ok, rs, pp⟩ => ?_
  refine ⟨S, ds, eH, ok, rs, ?_⟩
  unfold b1 at pp
  cases q : g ds S.h with
  | bad => rw [q] at pp; exact pp
  | er x h1 => rw [q] at pp; exact pp
  | ok ws h1 =>
    rw [q] at pp
    unfold xcR at pp
    dsimp only at pp
    match ws, pp with
    | [], pp => exact False.elim pp
    | _ :: _ :: _, pp => rw [if_neg (by simp)] at pp; exact False.elim pp
    | [w], pp =>
      rw [if_pos (show [w].length = 1 from rfl)] at pp
      intro S' vs e1 hh ok' r
      obtain ⟨v, t, rfl, rv, rt⟩ := r
      have rt : t = [] := rt
      subst rt
      refine ⟨by simp, fun a na => ⟨a, v, rfl, upd_same, fun dx hdx ne => ⟨rfl, dx, [(f, v)], upd_same, by rw [upd_ne ne, upd_same], ?_, ?_⟩⟩⟩
      · have := hdx
        rwa [upd_ne ne] at this
      · have hdx' : S'.H dx = none := by
          have := hdx
          rwa [upd_ne ne] at this
        rw [upd_exo (C := a) na ne]
        intro a' na'
        subst hh
        exact exc_new (G := gx X ca) (ws := [w]) e1 ok' hdx' na' hfs.symm ⟨_, _, rfl, rv, rfl⟩ pp
theorem pd_xc0 (C : CanX0 X.K X.mg ca c x) (hg : Gl X x) (hdb : (x == ("__debug__" : Str)) = false := by decide) : PD X ca Wx (.Call (.Name x p) [] [] pos2) (eXc0 c) := by
  refine PE.imp (pe_mk (pmk_own0 PySem.F.excBase_ValueError C.q C.m C.k (raises_own C.b C.t) hg hdb)) fun σ H Q ⟨S, ds, eH, ok, rs, pp⟩ => ?_
  subst eH
  intro a na
  obtain ⟨e3, ok3⟩ := ok.put (o := exq a (.ref (ca.CA c)) none) (p := a) na
  have or : OR (gx X ca) (S.put a (exq a (.ref (ca.CA c)) none)) (.box (.exc c) []) a := ⟨none, upd_same, .inl ⟨rfl, rfl⟩⟩
  exact pp ((S.put a (exq a (.ref (ca.CA c)) none)).reg a (.box (.exc c) [])) (.ref a) (e3.reg na) rfl (ok3.regD or rfl) (reg_rw (S := S.put a (exq a (.ref (ca.CA c)) none)))
end
/-- the error that w is -/
def bxX (w : Wv) (h : DH) : Option (Nat × List Wv) := match w with
  | .r n => (match h[n]? with
    | some (.box (.exc c) ws) => some (c, ws)
    | _ => none)
  | _ => none
theorem bxX_ok {G : Ctx} {S : Wd} (ok : Ok G S) {w : Wv} {v : V} {c : Nat} {ws : List Wv} (h : bxX w S.h = some (c, ws)) (r : RepW G S w v) :
    ∃ a d, v = V.ref a ∧ S.Z a = some (exq a (.ref (G.T.CA c)) d) ∧ ((ws = [] ∧ d = none) ∨ ∃ dd fv, d = some dd ∧ S.Z dd = some (.xd fv) ∧ fv.map (·.1) = G.T.FS c ∧ RepWs G S ws (fv.map (·.2))) := by
  unfold bxX at h
  split at h
  · rename_i n
    split at h
    · rename_i c' ws' hn
      cases h
      obtain ⟨_, rfl⟩ := r
      obtain ⟨d, hz, rr⟩ := ok.obj n _ hn
      exact ⟨_, d, rfl, hz, rr⟩
    · cases h
  · cases h
def opXfB (t : List (Nat × Nat)) (w : Wv) (h : DH) : Rs Wv := match bxX w h with
  | some (c, ws) => (match t.lookup c with
    | some i => (match ws[i]? with
      | some x => .ok x h
      | none => .bad)
    | none => .bad)
  | none => .bad
def opXiB (yes no : List Nat) (w : Wv) (h : DH) : Rs Wv := match bxX w h with
  | some (c, _) => if c ∈ yes then .ok (.d (.bl true)) h else if c ∈ no then .ok (.d (.bl false)) h else .bad
  | none => .bad
section
variable {X : Cx} {ca : CT} {Wx : WX} {e : Expr} {f : DS → DH → Rs Wv} {n : Str} {pos p p2 : Pos} {t : List (Nat × Nat)}
theorem pd_xfB (hF : XFl X.K ca n t) (he : PD X ca Wx e f) (hb : attributeBase e n X.env (eval e X.env) = eval e X.env := by rfl) : PD X ca Wx (.Attribute e n pos) (b1 f (opXfB t)) :=
  PE.imp (pe_xq he hb) fun σ H Q z => by
    refine (b1_imp (R1 := RW (gx X ca)) z).mono ?_
    rintro x H1 ⟨S0, S, a, rfl, e1, eH, ok, r, q⟩
    have q' := q.later (RW.shift _) e1
    unfold opXfB at q'
    split at q'
    · rename_i c ws hw
      split at q'
      · rename_i i hi
        split at q'
        · rename_i d hd
          obtain ⟨k1, k2, k3, k4⟩ := hF.ok c i hi
          obtain ⟨ad, dd, rfl, hz, hx⟩ := bxX_ok ok hw r
          rcases hx with ⟨rfl, _⟩ | ⟨dp, fv, rfl, q2, q3, q4⟩
          · simp at hd
          · obtain ⟨v, hv, rv⟩ := q4.get hd
            have k1' : (fv.map (·.1))[i]? = some n := by rw [q3]; exact k1
            exact ⟨ad, ca.CA c, dp, fv, v, rfl, k3, k4, ok.up1 hz (fun _ z => by cases z), ok.up1 q2 (fun _ z => by cases z), lookup_at (by rw [q3]; exact k2) k1' hv, q'.here ok (R := RW (gx X ca)) rv⟩
        · exact q'.elim
      · exact q'.elim
    · exact q'.elim
theorem pd_xiB {yes no : List Nat} {x : Str} {c : V} {cv : Value} (hg : Gl X "isinstance") (hm : X.mg "isinstance" = none) (hx : XIs X.K ca cv yes no) (hcl : PE X (.Name x p2) (tC c)) (hcv : ∀ u, RelV c u → u = cv) (ha : PD X ca Wx e f)
    (he : starEach [e, .Name x p2] X.env = (false, eval e X.env) :: starEach [.Name x p2] X.env := by rfl) (he2 : starEach [.Name x p2] X.env = (false, eval (.Name x p2) X.env) :: starEach [] X.env := by rfl) (hpl : (backTo pos (starEach [.Name x p2] X.env)).any (·.1) = false := by rfl) :
    PD X ca Wx (.Call (.Name "isinstance" p) [e, .Name x p2] [] pos) (b1 f (opXiB yes no)) := by
  refine PE.imp (pe_callB (r := rIsQ X.K) call_isQ hg hm (by decide +kernel) (pa_cons ha (pa_cons hcl pa_nil he2) he) (by decide) (by decide) he hpl) fun σ H Q z => ?_
  refine (b1_imp (R1 := RW (gx X ca)) z).mono ?_
  rintro v H1 ⟨S0, S, w, rfl, e1, eH, ok, r, q⟩
  have q' := q.later (RW.shift _) e1
  unfold opXiB at q'
  split at q'
  · rename_i cc ws hw
    obtain ⟨ad, dd, rfl, hz, hxd⟩ := bxX_ok ok hw r
    have hd : ∀ d', dd = some d' → ∃ fs, S.H d' = some (.xd fs) := fun d' e => by
      rcases hxd with ⟨_, z⟩ | ⟨dp, fv, z, q2, _, _⟩
      · rw [z] at e; cases e
      · rw [z] at e; cases e
        exact ⟨fv, ok.up1 q2 (fun _ z => by cases z)⟩
    split at q'
    · rename_i h1
      obtain ⟨k1, k2⟩ := hx.1 cc h1
      exact ⟨ad, ca.CA cc, dd, c, cv, true, rfl, ok.up1 hz (fun _ z => by cases z), hd, k1, hcv, k2, q'.here ok (R := RW (gx X ca)) rw_bl'⟩
    · split at q'
      · rename_i h1
        obtain ⟨k1, k2⟩ := hx.2 cc h1
        exact ⟨ad, ca.CA cc, dd, c, cv, false, rfl, ok.up1 hz (fun _ z => by cases z), hd, k1, hcv, k2, q'.here ok (R := RW (gx X ca)) rw_bl'⟩
      · exact q'.elim
  · exact q'.elim
end
/-! ### for i, x in enumerate(b) -/
structure ItRA {α : Type} (G : Ctx) (RA : Wd → α → V → Prop) (J : It) (S0 : Wd) (xs : List α) : Prop where
  go : ∀ S, Ext S0 S → Ok G S → ∀ i, i < xs.length → J.go i S.H
  stop : ∀ S, Ext S0 S → Ok G S → ∀ i, xs.length ≤ i → J.stop i S.H
  yld : ∀ S, Ext S0 S → Ok G S → ∀ (i : Nat) x H' d, xs[i]? = some d → J.yld i S.H x H' → ∃ S', S'.H = H' ∧ S'.h = S.h ∧ Ext S S' ∧ Ok G S' ∧ RA S' d x
def forGoA {α : Type} (g : α → Sm) (F : Sm) : List α → Sm
  | [] => fun ds h => .nx ds h
  | x :: r => fun ds h =>
    match g x ds h with
    | .nx ds1 h1 => (match F ds1 h1 with
      | .nx ds' h' => forGoA g F r ds' h'
      | .ct ds' h' => forGoA g F r ds' h'
      | .bk ds' h' => .nx ds' h'
      | .rt w h' => .rt w h'
      | .er e ds' h' => .er e ds' h'
      | .bad => .bad)
    | _ => .bad
def sForA {α : Type} (f : DS → DH → Rs (List α)) (g : α → Sm) (F : Sm) : Sm := fun ds h =>
  match f ds h with
  | .ok xs h' => forGoA g F xs ds h'
  | .er e h' => .er e ds h'
  | .bad => .bad
def tGA {α : Type} (G : Ctx) (Wx : WX) (RA : Wd → α → V → Prop) (g : α → Sm) : TG := fun v σ H Q => ∃ S ds w, S.H = H ∧ Ok G S ∧ RelS G S ds σ ∧ RA S w v ∧ PostS G Wx S (g w ds S.h) ⟨Q, fun _ _ => False, fun _ _ => False, fun _ _ => False⟩
theorem pds_forA {α : Type} {RA : Wd → α → V → Prop} {X : Cx} {ca : CT} {Wx : WX} {pos : Pos} {tg iter : Expr} {body : List Stmt} {f : DS → DH → Rs (List α)} {g : α → Sm} {F : Sm} (hp : PassesOwn (model X.prog X.w) X.A X.env X.xe) (hc : X.calm = true)
    (hi : PI X tg iter (tE (gx X ca) Wx (fun _ S xs J => ItRA (gx X ca) RA J S xs) f)) (hg : PG X tg (tGA (gx X ca) Wx RA g)) (hb : PDSs X ca Wx body F)
    (hs : ∀ x, foldedSetIterable iter X.env x = pure x := by intro _; rfl) : PDS X ca Wx (.For tg iter body [] pos) (sForA f g F) := by
  refine PS.imp (ps_for hp hc hi hg hb hs) fun D σ H ⟨S, ds, eH, ok, rs, p⟩ => ?_
  refine ⟨S, ds, eH, ok, rs, ?_⟩
  unfold sForA at p
  cases q : f ds S.h with
  | bad => rw [q] at p; exact p
  | er e h1 => rw [q] at p; exact fun S' cls d e1 hh ok' x' => p S' σ cls d e1 hh ok' (rs.up e1) x'
  | ok xs h1 =>
    rw [q] at p
    dsimp only at p
    intro S1 J e1 hh ok1 it
    subst hh
    refine ⟨fun i m σ H => ∃ T ds, T.H = H ∧ Ext S1 T ∧ Ok (gx X ca) T ∧ RelS (gx X ca) T ds σ ∧ m = xs.length - i ∧ i ≤ xs.length ∧ PostS (gx X ca) Wx T (forGoA g F (xs.drop i) ds T.h) D,
      ⟨xs.length, S1, ds, rfl, Ext.refl S1, ok1, rs.up e1, rfl, Nat.zero_le _, p.later e1⟩, ?_⟩
    rintro i m σ H ⟨T, ds, rfl, eT, okT, rsT, rfl, hi, pT⟩
    by_cases hlt : i < xs.length
    · refine .inr ⟨it.go T eT okT i hlt, ?_⟩
      cases qd : xs.drop i with
      | nil =>
        have := congrArg List.length qd
        rw [List.length_drop] at this
        simp at this
        omega
      | cons x r =>
        obtain ⟨hx, hr⟩ := drop_get xs i x r qd
        rw [qd] at pT
        unfold forGoA at pT
        refine ⟨fun σ' H' => ∃ T' ds', T'.H = H' ∧ Ext S1 T' ∧ Ok (gx X ca) T' ∧ RelS (gx X ca) T' ds' σ' ∧ PostS (gx X ca) Wx T' (forGoA g F r ds' T'.h) D, ?_, ?_⟩
        · rintro σ' H' ⟨T', ds', a, b, c, d, e⟩
          refine ⟨xs.length - (i + 1), by omega, T', ds', a, b, c, d, rfl, hlt, ?_⟩
          rw [hr]; exact e
        · intro v H' y
          obtain ⟨T2, rfl, h2, e2, ok2, r2⟩ := it.yld T eT okT i v H' x hx y
          refine ⟨T2, ds, x, rfl, ok2, rsT.up e2, r2, ?_⟩
          rw [h2]
          cases q3 : g x ds T.h with
          | nx ds1 h1 =>
            rw [q3] at pT
            dsimp only at pT
            intro T3 σ3 e3 hh3 ok3 rs3
            subst hh3
            refine ⟨T3, ds1, rfl, ok3, rs3, ?_⟩
            have e23 := e2.trans e3
            cases q4 : F ds1 T3.h with
            | nx ds' h' => rw [q4] at pT; exact fun T' σ' e4 hh4 ok4 rs4 => ⟨T', ds', rfl, eT.trans (e23.trans e4), ok4, rs4, by subst hh4; exact pT.later (e23.trans e4)⟩
            | ct ds' h' => rw [q4] at pT; exact fun T' σ' e4 hh4 ok4 rs4 => ⟨T', ds', rfl, eT.trans (e23.trans e4), ok4, rs4, by subst hh4; exact pT.later (e23.trans e4)⟩
            | bk ds' h' => rw [q4] at pT; exact fun T' σ' e4 hh4 ok4 rs4 => pT T' σ' (e23.trans e4) hh4 ok4 rs4
            | rt w h' => rw [q4] at pT; exact fun T' v e4 hh4 ok4 r4 => pT T' v (e23.trans e4) hh4 ok4 r4
            | er x ds' h' => rw [q4] at pT; exact fun T' σ' cls d e4 hh4 ok4 rs4 x4 => pT T' σ' cls d (e23.trans e4) hh4 ok4 rs4 x4
            | bad => rw [q4] at pT; exact pT
          | rt w h' => rw [q3] at pT; exact pT.elim
          | bk ds' h' => rw [q3] at pT; exact pT.elim
          | ct ds' h' => rw [q3] at pT; exact pT.elim
          | er x ds' h' => rw [q3] at pT; exact pT.elim
          | bad => rw [q3] at pT; exact pT.elim
    · have e : i = xs.length := by omega
      subst e
      refine .inl ⟨it.stop T eT okT _ (Nat.le_refl _), ?_⟩
      rw [List.drop_length] at pT
      exact pT T σ (Ext.refl T) rfl okT rsT
/-- a pair of a number and what stands in a box -/
def RPx (G : Ctx) (S : Wd) (q : Nat × Wv) (x : V) : Prop := ∃ t v, x = .ref t ∧ S.Z t = some (.tup [.int (q.1 : Nat), v]) ∧ RepW G S q.2 v
def itEnB (ws : List Wv) (h : DH) : Rs (List (Nat × Wv)) := match ws with
  | [w] => (match bxL w h with
    | some xs => .ok (xs.mapIdx fun i x => (i, x)) h
    | none => .bad)
  | _ => .bad
theorem itrp_enum {G : Ctx} {S : Wd} {xs : List Wv} {a : Addr} {vs : List V} (h : SqL G.K S.Z a vs) (r : RepWs G S xs vs) : ItRA G (RPx G) (Ite G.K a) S (xs.mapIdx fun i x => (i, x)) where
  go := fun T e ok i hi => by
    have hi' : i < xs.length := by simpa using hi
    obtain ⟨v, h1, _⟩ := r.get (List.getElem?_eq_getElem hi')
    exact ⟨vs, v, ok.sqL (sqL_up e.zz h), h1⟩
  stop := fun T e ok i hi => ⟨vs, ok.sqL (sqL_up e.zz h), by rw [← r.length]; simpa using hi⟩
  yld := fun T e ok i x H' d hd y => by
    obtain ⟨p, v, rfl, hp, rfl, hx⟩ := y
    rw [List.getElem?_mapIdx] at hd
    cases q : xs[i]? with
    | none => rw [q] at hd; cases hd
    | some z =>
      rw [q] at hd
      cases hd
      obtain ⟨u, h1, h2⟩ := r.get q
      have := hx vs (ok.sqL (sqL_up e.zz h))
      rw [h1] at this
      have ev : v = u := (Option.some.inj this).symm
      subst ev
      obtain ⟨e2, ok2⟩ := ok.put (o := .tup [.int (i : Nat), v]) hp
      exact ⟨T.put p (.tup [.int (i : Nat), v]), rfl, rfl, e2, ok2, p, v, rfl, upd_same, e2.repW (e.repW h2)⟩
def gPair (i j : Nat) : Nat × Wv → Sm := fun q ds h => .nx ((ds.set i (some (.d (.int (q.1 : Nat))))).set j (some q.2)) h
section
variable {X : Cx} {ca : CT} {Wx : WX} {e : Expr} {g : DS → DH → Rs (List Wv)} {pos p tpos : Pos} {elts : List Expr} {kk : Nat}
theorem pdi_enB (hg : Gl X "enumerate") (hm : X.mg "enumerate" = none) (ha : PDA X ca Wx [e] g) (hs : starEach [e] X.env = [(false, eval e X.env)] := by rfl) :
    PI X (.Tuple elts kk tpos) (.Call (.Name "enumerate" p) [e] [] pos) (tE (gx X ca) Wx (fun _ S xs J => ItRA (gx X ca) (RPx (gx X ca)) J S xs) (b1 g itEnB)) :=
  PI.imp (pi_enum hg hm ha hs) fun σ H Q z => by
    refine (b1_imp (R1 := RL (gx X ca)) z).mono ?_
    rintro vs H1 ⟨S0, S, ws, rfl, e1, eH, ok, r, q⟩
    unfold itEnB at q
    split at q
    · rename_i w
      split at q
      · rename_i xs hx
        obtain ⟨v, rfl, r1⟩ := repWs1 r
        obtain ⟨a, us, rfl, hz, rr⟩ := bxL_ok ok hx r1
        exact ⟨a, us, rfl, .inl (.inl (ok.lstZ hz)), q S (Ite X.K a) e1 rfl ok (itrp_enum (.inl (.inl hz)) rr)⟩
      · exact q.elim
    · exact q.elim
theorem pdg_pair {x y : Str} {i j : Nat} {px py : Pos} (hc : X.calm = true) (hN : X.N.Nodup) (hi : X.N[i]? = some x) (hj : X.N[j]? = some y) (hx : Loc X.env.scope x) (hy : Loc X.env.scope y)
    (hf : X.fn x = true ∨ X.env.scope.names.lookup x = some .local := by first | exact .inl rfl | exact .inr rfl | assumption) (hf2 : X.fn y = true ∨ X.env.scope.names.lookup y = some .local := by first | exact .inl rfl | exact .inr rfl | assumption)
    (hs : (assignEach [.Name x px, .Name y py] X.env).map (·.2) = assign (.Name x px) X.env :: (assignEach [.Name y py] X.env).map (·.2) := by rfl) (hs2 : (assignEach [.Name y py] X.env).map (·.2) = assign (.Name y py) X.env :: (assignEach [] X.env).map (·.2) := by rfl)
    (hn : (assignEach [.Name x px, .Name y py] X.env).length = 2 := by rfl) (hst : (assignEach [.Name x px, .Name y py] X.env).findIdx? (·.1) = none := by rfl) : PG X (.Tuple [.Name x px, .Name y py] kk tpos) (tGA (gx X ca) Wx (RPx (gx X ca)) (gPair i j)) :=
  PG.imp (pg_tup hc (pgs_cons (pg_name hN hi hx hf) (pgs_cons (pg_name hN hj hy hf2) pgs_nil hs2) hs) hn hst) fun v σ H Q ⟨S, ds, w, eH, ok, rs, r, p⟩ => by
    subst eH
    obtain ⟨t, u, rfl, hz, ru⟩ := r
    refine ⟨t, _, rfl, .inl (.inl (ok.up1 hz fun _ z => by cases z)), rfl, _, _, rfl, _, _, rfl, rfl, ?_⟩
    exact p S _ (Ext.refl S) rfl ok ((rs.set (w := .d (.int (w.1 : Nat))) (show RepW (gx X ca) S (.d (.int (w.1 : Nat))) (.int (w.1 : Nat)) from rep_int (G := gx X ca) (Z := S.Z)) i).set ru j)
theorem pd_ixB {a b : Expr} {f1 f2 : DS → DH → Rs Wv} (hu : X.A.units + 1 < cLine) (ha : PD X ca Wx a f1) (hb : PD X ca Wx b f2) (hs : PlainIx b := by intro _ _; rfl) : PD X ca Wx (.Subscript a b pos) (b2 f1 f2 opIxB) :=
  PE.imp (pe_ix (IxR.or ix_seq (ix_dct hu)) ha hb hs) fun σ H Q z => b2_op (RW.shift _) v_ixB z
end
end DL
/-! DLW: more walks -/
namespace DL
open PySem PySem.Spec PyProof.Rows L2
section
variable {ds : DS} {h : DH}
end
end DL
/-! DLX: walks that end by an error, and try -/
namespace DL
open PySem PySem.Spec PyProof.Rows L2
section
variable {α : Type} {ds ds1 ds' : DS} {h h1 h' : DH}
inductive wX (r : So) (E : Dv → DS → DH → Prop) : Prop
  | mk {e : Dv} {ds : DS} {h : DH} (q : r = .er e ds h) (k : E e ds h) : wX r E
inductive rX {α : Type} (r : Rs α) (E : Dv → DH → Prop) : Prop
  | mk {e : Dv} {h : DH} (q : r = .er e h) (k : E e h) : rX r E
variable {E : Dv → DS → DH → Prop} {ER : Dv → DH → Prop} {Q : DS → DH → Prop} {R : Wv → DH → Prop}
theorem wX.er {r : So} (k : wX r E) : ∃ e ds h, r = .er e ds h ∧ E e ds h := by
  cases k with
  | mk q k => exact ⟨_, _, _, q, k⟩
theorem rX.er {r : Rs α} (k : rX r ER) : ∃ e h, r = .er e h ∧ ER e h := by
  cases k with
  | mk q k => exact ⟨_, _, q, k⟩
end
end DL
namespace Kc
open PySem PySem.Spec PyProof.Rows L2 DL

/-! ### the text by places -/
def top (i : Nat) : Stmt := PySem.Challenge.pw_keylesscells_k51_errors_and_bounds.main.body.getD i (.Pass ⟨0, 0, 0, 0⟩)
theorem bt_IndexError : bootBuiltins "IndexError" = some (.type "IndexError") := by decide +kernel
theorem bt_KeyError : bootBuiltins "KeyError" = some (.type "KeyError") := by decide +kernel
theorem bt_LookupError : bootBuiltins "LookupError" = some (.type "LookupError") := by decide +kernel
theorem bt_ValueError : bootBuiltins "ValueError" = some (.type "ValueError") := by decide +kernel
theorem bt_abs : bootBuiltins "abs" = some (.builtin "abs") := by decide +kernel
theorem bt_int : bootBuiltins "int" = some (.type "int") := by decide +kernel
theorem bt_len : bootBuiltins "len" = some (.builtin "len") := by decide +kernel
theorem bt_list : bootBuiltins "list" = some (.type "list") := by decide +kernel
theorem bt_repr : bootBuiltins "repr" = some (.builtin "repr") := by decide +kernel
structure Txt (K : PySem.W.Frag) (mg : Str → Option Value) (ca : CT) : Prop where
  n_IndexError : mg "IndexError" = none
  n_KeyError : mg "KeyError" = none
  n_LookupError : mg "LookupError" = none
  n_ValueError : mg "ValueError" = none
  n_abs : mg "abs" = none
  n_enumerate : mg "enumerate" = none
  n_int : mg "int" = none
  n_isinstance : mg "isinstance" = none
  n_len : mg "len" = none
  n_list : mg "list" = none
  n_range : mg "range" = none
  n_repr : mg "repr" = none
  g_MAX_CELLS : ∃ t, mg "MAX_CELLS" = some (.int 12 t)
  g_MAX_DEEDS : ∃ t, mg "MAX_DEEDS" = some (.int 20 t)
  g_MAX_KEYS : ∃ t, mg "MAX_KEYS" = some (.int 12 t)
  g_MAX_MODULUS : ∃ t, mg "MAX_MODULUS" = some (.int 1000000000000 t)
  g_MAX_RULED : ∃ t, mg "MAX_RULED" = some (.int 6 t)
  f__law_bag : HasFn K mg "_law_bag" (top 18) ["_law_script"]
  f__law_draw : HasFn K mg "_law_draw" (top 19) ["_law_bag_here", "_law_limit"]
  f__law_pick : HasFn K mg "_law_pick" (top 20) ["_law_bag_here", "_law_items"]
  f__law_odd : HasFn K mg "_law_odd" (top 21) ["_law_bag_here"]
  f__law_sorts : HasFn K mg "_law_sorts" (top 22) ["_law_error"]
  f_law : HasFn K mg "law" (top 23) ["_law_script"]
  bas_LookupError : BasL K mg
  x0_Full : CanX0 K mg ca 6 "Full"
  x0_NothingToUndo : CanX0 K mg ca 7 "NothingToUndo"
  x_BadKey : HasX K mg ca 1 "BadKey" "BadKey.__init__" (inClass (top 2) 0) ["self", "key"] "key"
  x_BadSheet : HasX K mg ca 2 "BadSheet" "BadSheet.__init__" (inClass (top 3) 0) ["self", "word"] "word"
  x_BadText : HasX2 K mg ca 3 "BadText" "BadText.__init__" (inClass (top 4) 0) ["self", "line", "number"] "line" "number"
  x_BadValue : HasX K mg ca 4 "BadValue" "BadValue.__init__" (inClass (top 5) 0) ["self", "value"] "value"
  x_Barred : HasX K mg ca 5 "Barred" "Barred.__init__" (inClass (top 6) 0) ["self", "numbers"] "numbers"
  x_TooMany : HasX K mg ca 8 "TooMany" "TooMany.__init__" (inClass (top 9) 0) ["self", "limit"] "limit"
  x_NoKey : HasXL K mg ca 9 "NoKey" "NoKey.__init__" (inClass (top 10) 0) ["self", "number"] "number"
  x_NoPart : HasXL K mg ca 10 "NoPart" "NoPart.__init__" (inClass (top 11) 0) ["self", "number"] "number"
  bas_CellError : BasC K mg "CellError"
  v_BadKey : mg "BadKey" = some (.ref (ca.CA 1))
  v_BadSheet : mg "BadSheet" = some (.ref (ca.CA 2))
  v_BadText : mg "BadText" = some (.ref (ca.CA 3))
  v_BadValue : mg "BadValue" = some (.ref (ca.CA 4))
  v_Barred : mg "Barred" = some (.ref (ca.CA 5))
  v_CellError : mg "CellError" = some (.ref (ca.CA 0))
  v_Full : mg "Full" = some (.ref (ca.CA 6))
  v_NoKey : mg "NoKey" = some (.ref (ca.CA 9))
  v_NoPart : mg "NoPart" = some (.ref (ca.CA 10))
  v_NothingToUndo : mg "NothingToUndo" = some (.ref (ca.CA 7))
  v_TooMany : mg "TooMany" = some (.ref (ca.CA 8))
  xf_key : XFl K ca "key" [(1, 0)]
  xf_limit : XFl K ca "limit" [(8, 0)]
  xf_line : XFl K ca "line" [(3, 1)]
  xf_number : XFl K ca "number" [(3, 0), (9, 0), (10, 0)]
  xf_numbers : XFl K ca "numbers" [(5, 0)]
  xf_value : XFl K ca "value" [(4, 0)]
  xf_word : XFl K ca "word" [(2, 0)]
  xis_BadKey : XIs K ca (.ref (ca.CA 1)) [1] [2, 3, 4, 5, 6, 7, 8, 9, 10]
  xis_BadSheet : XIs K ca (.ref (ca.CA 2)) [2] [1, 3, 4, 5, 6, 7, 8, 9, 10]
  xis_BadText : XIs K ca (.ref (ca.CA 3)) [3] [1, 2, 4, 5, 6, 7, 8, 9, 10]
  xis_BadValue : XIs K ca (.ref (ca.CA 4)) [4] [1, 2, 3, 5, 6, 7, 8, 9, 10]
  xis_Barred : XIs K ca (.ref (ca.CA 5)) [5] [1, 2, 3, 4, 6, 7, 8, 9, 10]
  xis_CellError : XIs K ca (.ref (ca.CA 0)) [1, 2, 3, 4, 5, 6, 7, 8] [9, 10]
  xis_Full : XIs K ca (.ref (ca.CA 6)) [6] [1, 2, 3, 4, 5, 7, 8, 9, 10]
  xis_IndexError : XIs K ca (.type "IndexError") [] [1, 2, 3, 4, 5, 6, 7, 8, 9, 10]
  xis_KeyError : XIs K ca (.type "KeyError") [] [1, 2, 3, 4, 5, 6, 7, 8, 9, 10]
  xis_LookupError : XIs K ca (.type "LookupError") [9, 10] [1, 2, 3, 4, 5, 6, 7, 8]
  xis_NoKey : XIs K ca (.ref (ca.CA 9)) [9] [1, 2, 3, 4, 5, 6, 7, 8, 10]
  xis_NoPart : XIs K ca (.ref (ca.CA 10)) [10] [1, 2, 3, 4, 5, 6, 7, 8, 9]
  xis_NothingToUndo : XIs K ca (.ref (ca.CA 7)) [7] [1, 2, 3, 4, 5, 6, 8, 9, 10]
  xis_TooMany : XIs K ca (.ref (ca.CA 8)) [8] [1, 2, 3, 4, 5, 6, 7, 9, 10]
  xis_ValueError : XIs K ca (.type "ValueError") [1, 2, 3, 4, 5, 6, 7, 8] [9, 10]
variable {P : Program} {w : World} {K : PySem.W.Frag} {mg : Str → Option Value} {base : Heap} {ca : CT}
theorem sc_BadKey_x : FnScope ["self", "key"] ["self", "key"] (defScope (inClass (top 2) 0)) := ⟨rfl, rfl, rfl, by decide +kernel, rfl, by decide +kernel, by decide +kernel⟩
theorem e_BadKey (T : Txt K mg ca) : CanX P w K mg base ca 1 1 "BadKey" "key" :=
  canX_of T.x_BadKey sc_BadKey_x fun fa cdv A outer s H E hr => pss_cons (ps_expr (pe_bas T.bas_CellError (by rfl) (pa_cons (pe_var (i := 0) rfl (Or.inl rfl)) pa_nil))) (pss_one (ps_ost (pe_var (i := 0) rfl (Or.inl rfl)) (pe_var (i := 1) rfl (Or.inl rfl))))
theorem sc_BadSheet_x : FnScope ["self", "word"] ["self", "word"] (defScope (inClass (top 3) 0)) := ⟨rfl, rfl, rfl, by decide +kernel, rfl, by decide +kernel, by decide +kernel⟩
theorem e_BadSheet (T : Txt K mg ca) : CanX P w K mg base ca 1 2 "BadSheet" "word" :=
  canX_of T.x_BadSheet sc_BadSheet_x fun fa cdv A outer s H E hr => pss_cons (ps_expr (pe_bas T.bas_CellError (by rfl) (pa_cons (pe_var (i := 0) rfl (Or.inl rfl)) pa_nil))) (pss_one (ps_ost (pe_var (i := 0) rfl (Or.inl rfl)) (pe_var (i := 1) rfl (Or.inl rfl))))
theorem sc_BadText_x : FnScope ["self", "line", "number"] ["self", "line", "number"] (defScope (inClass (top 4) 0)) := ⟨rfl, rfl, rfl, by decide +kernel, rfl, by decide +kernel, by decide +kernel⟩
theorem e_BadText (T : Txt K mg ca) : CanX2 P w K mg base ca 1 3 "BadText" "line" "number" :=
  canX2_of T.x_BadText sc_BadText_x fun fa cdv A outer s H E hr => pss_cons (ps_expr (pe_bas T.bas_CellError (by rfl) (pa_cons (pe_var (i := 0) rfl (Or.inl rfl)) pa_nil))) (pss_cons (ps_ost (pe_var (i := 0) rfl (Or.inl rfl)) (pe_var (i := 1) rfl (Or.inl rfl))) (pss_one (ps_ost (pe_var (i := 0) rfl (Or.inl rfl)) (pe_var (i := 2) rfl (Or.inl rfl)))))
theorem sc_BadValue_x : FnScope ["self", "value"] ["self", "value"] (defScope (inClass (top 5) 0)) := ⟨rfl, rfl, rfl, by decide +kernel, rfl, by decide +kernel, by decide +kernel⟩
theorem e_BadValue (T : Txt K mg ca) : CanX P w K mg base ca 1 4 "BadValue" "value" :=
  canX_of T.x_BadValue sc_BadValue_x fun fa cdv A outer s H E hr => pss_cons (ps_expr (pe_bas T.bas_CellError (by rfl) (pa_cons (pe_var (i := 0) rfl (Or.inl rfl)) pa_nil))) (pss_one (ps_ost (pe_var (i := 0) rfl (Or.inl rfl)) (pe_var (i := 1) rfl (Or.inl rfl))))
theorem sc_Barred_x : FnScope ["self", "numbers"] ["self", "numbers"] (defScope (inClass (top 6) 0)) := ⟨rfl, rfl, rfl, by decide +kernel, rfl, by decide +kernel, by decide +kernel⟩
theorem e_Barred (T : Txt K mg ca) : CanX P w K mg base ca 1 5 "Barred" "numbers" :=
  canX_of T.x_Barred sc_Barred_x fun fa cdv A outer s H E hr => pss_cons (ps_expr (pe_bas T.bas_CellError (by rfl) (pa_cons (pe_var (i := 0) rfl (Or.inl rfl)) pa_nil))) (pss_one (ps_ost (pe_var (i := 0) rfl (Or.inl rfl)) (pe_var (i := 1) rfl (Or.inl rfl))))
theorem sc_TooMany_x : FnScope ["self", "limit"] ["self", "limit"] (defScope (inClass (top 9) 0)) := ⟨rfl, rfl, rfl, by decide +kernel, rfl, by decide +kernel, by decide +kernel⟩
theorem e_TooMany (T : Txt K mg ca) : CanX P w K mg base ca 1 8 "TooMany" "limit" :=
  canX_of T.x_TooMany sc_TooMany_x fun fa cdv A outer s H E hr => pss_cons (ps_expr (pe_bas T.bas_CellError (by rfl) (pa_cons (pe_var (i := 0) rfl (Or.inl rfl)) pa_nil))) (pss_one (ps_ost (pe_var (i := 0) rfl (Or.inl rfl)) (pe_var (i := 1) rfl (Or.inl rfl))))
theorem sc_NoKey_x : FnScope ["self", "number"] ["self", "number"] (defScope (inClass (top 10) 0)) := ⟨rfl, rfl, rfl, by decide +kernel, rfl, by decide +kernel, by decide +kernel⟩
theorem e_NoKey (T : Txt K mg ca) : CanXL P w K mg base ca 1 9 "NoKey" "number" :=
  canXL_of T.x_NoKey sc_NoKey_x fun fa cdv A outer s H E hr => pss_cons (ps_expr (pe_leinit (by rfl) T.bas_LookupError.1 T.bas_LookupError.2 (pa_cons (pe_var (i := 0) rfl (Or.inl rfl)) pa_nil))) (pss_one (ps_osL (pe_var (i := 0) rfl (Or.inl rfl)) (pe_var (i := 1) rfl (Or.inl rfl))))
theorem sc_NoPart_x : FnScope ["self", "number"] ["self", "number"] (defScope (inClass (top 11) 0)) := ⟨rfl, rfl, rfl, by decide +kernel, rfl, by decide +kernel, by decide +kernel⟩
theorem e_NoPart (T : Txt K mg ca) : CanXL P w K mg base ca 1 10 "NoPart" "number" :=
  canXL_of T.x_NoPart sc_NoPart_x fun fa cdv A outer s H E hr => pss_cons (ps_expr (pe_leinit (by rfl) T.bas_LookupError.1 T.bas_LookupError.2 (pa_cons (pe_var (i := 0) rfl (Or.inl rfl)) pa_nil))) (pss_one (ps_osL (pe_var (i := 0) rfl (Or.inl rfl)) (pe_var (i := 1) rfl (Or.inl rfl))))
/-! _law_bag -/
def b__law_bag : Sm :=
  sSeq (sPar 1 2 (eCons (eC (.int 0)) (eCons (b2 (eC (.int 11237)) (b2 (eC (.int 79)) (b1 (eCons (eV 0) (eNil)) fLen) opMulZ) opAddZ) (eNil)))) (sSeq (sFor (b1 (b3' (eV 0) (oNone) (oSome (eC (.int 63))) opSlZ) itS) (gV 3) (sIf (b2 (eV 3) (b2 (eC (.int 10)) (eC (.int 18)) opPow) (cI fun i j => decide (i ≥ j))) (sSet 1 (b2 (b2 (b2 (eV 1) (eC (.int 73)) opMulZ) (eV 3) opAddZ) (b2 (eC (.int 10)) (eC (.int 18)) opPow) opSub)) (sSeq (sSet 2 (b2 (b2 (b2 (eV 2) (eC (.int 2862933555777941757)) opMulZ) (b2 (eC (.int 2)) (b1 (eCons (eV 3) (eNil)) fAbs) opMulZ) opAddZ) (b1 (eCons (b2 (eV 3) (eC (.int 0)) (fun x y h => toV ((cI fun i j => decide (i < j)) x y h))) (eNil)) fInt) opAddZ)) (sSet 2 (b2 (b1 (eCons (eV 2) (eNil)) fInt) (eC (.int 2305843009213693951)) opMod))))) (sRt (eRg (eLst (eCons (eV 1) (eCons (eV 2) (eCons (eC (.int 0)) (eNil))))))))
def d__law_bag : List Wv → DH → Rs Wv := defD 4 b__law_bag
theorem sc__law_bag : FnScope ["_law_script", "_law_great", "_law_small", "_law_cell"] ["_law_script"] (defScope (top 18)) := ⟨rfl, rfl, rfl, by decide +kernel, rfl, by decide +kernel, by decide +kernel⟩
theorem c__law_bag (T : Txt K mg ca) : Can P w K mg base ca 1 "_law_bag" 1 d__law_bag :=
  can_of T.f__law_bag sc__law_bag fun f cdv A outer s H E hr => by
    have nd := sc__law_bag.nd
    exact pds_cons (pds_par rfl nd rfl rfl (by decide) rfl rfl (pda_cons (pd_int) (pda_cons (pd_op op_addZ v_addZ (pd_int) (pd_op op_mulZ v_mulZ (pd_int) (pd_callB call_lenA v_len (by rfl) T.n_len bt_len (pda_cons (pd_v 0) (pda_nil))))) (pda_nil))) (by rfl)) (pds_cons (pds_for (passes_of rfl) rfl (pdi_seq (pd_slZ (pd_v 0) (pdo_none) (pdo_some (pd_int)))) (pdg_name nd rfl (by first | exact Or.inl rfl | exact Or.inr rfl)) (pds_one (pds_if (pdt_cmp op_ge v_cI (pd_v 3) (pd_op op_pow v_pow (pd_int) (pd_int)) (nomark _)) (pds_one (pds_set nd rfl (by first | exact Or.inl rfl | exact Or.inr rfl) (pd_op op_sub v_sub (pd_op op_addZ v_addZ (pd_op op_mulZ v_mulZ (pd_v 1) (pd_int)) (pd_v 3)) (pd_op op_pow v_pow (pd_int) (pd_int))))) (pds_cons (pds_set nd rfl (by first | exact Or.inl rfl | exact Or.inr rfl) (pd_op op_addZ v_addZ (pd_op op_addZ v_addZ (pd_op op_mulZ v_mulZ (pd_v 2) (pd_int)) (pd_op op_mulZ v_mulZ (pd_int) (pd_callB call_abs v_abs (by rfl) T.n_abs bt_abs (pda_cons (pd_v 3) (pda_nil))))) (pd_callT call_int1 v_int (by rfl) T.n_int bt_int (pda_cons (pd_cmp op_lt v_cI (pd_v 3) (pd_int) (nomark _)) (pda_nil))))) (pds_one (pds_set nd rfl (by first | exact Or.inl rfl | exact Or.inr rfl) (pd_op op_mod v_mod (pd_callT call_int1 v_int (by rfl) T.n_int bt_int (pda_cons (pd_v 2) (pda_nil))) (pd_int)))))))) (pds_one (pds_ret (pd_rg (pf_lst (pda_cons (pd_v 1) (pda_cons (pd_v 2) (pda_cons (pd_int) (pda_nil)))))))))
/-! _law_draw -/
def b__law_draw : Sm :=
  sSeq (sIf (b2 (b2 (eV 0) (eC (.int 0)) opIxZ) (eC (.int 0)) (cI fun i j => decide (i > j))) (sSeq (sSet 2 (b2 (b1 (eCons (b2 (eV 0) (eC (.int 0)) opIxZ) (eNil)) fInt) (eV 1) opMod)) (sSeq (sTo (b2 (b2 (eV 0) (eC (.int 0)) opIxZ) (eV 1) opFdiv) (gSb (eV 0) (eC (.int 0)))) (sRt (eV 2)))) (sNx)) (sSeq (sTo (b2 (b2 (eV 0) (eC (.int 2)) opIxZ) (eC (.int 1)) opAddZ) (gSb (eV 0) (eC (.int 2)))) (sSeq (sSet 3 (b2 (b2 (b2 (eV 0) (eC (.int 1)) opIxZ) (eC (.int 2862933555777941757)) opMulZ) (b2 (eC (.int 3037000493)) (b2 (eV 0) (eC (.int 2)) opIxZ) opMulZ) opAddZ)) (sSeq (sTo (b2 (b1 (eCons (eV 3) (eNil)) fInt) (eC (.int 2305843009213693951)) opMod) (gSb (eV 0) (eC (.int 1)))) (sRt (b2 (b2 (b2 (b1 (eCons (b2 (b2 (eV 0) (eC (.int 1)) opIxZ) (b2 (eV 0) (eC (.int 1)) opIxZ) opMulZ) (eNil)) fInt) (eC (.int 2305843009213693921)) opMod) (eC (.int 4096)) opFdiv) (eV 1) opMod)))))
def d__law_draw : List Wv → DH → Rs Wv := defD 4 b__law_draw
theorem sc__law_draw : FnScope ["_law_bag_here", "_law_limit", "_law_digit", "_law_mixed"] ["_law_bag_here", "_law_limit"] (defScope (top 19)) := ⟨rfl, rfl, rfl, by decide +kernel, rfl, by decide +kernel, by decide +kernel⟩
theorem c__law_draw (T : Txt K mg ca) : Can P w K mg base ca 1 "_law_draw" 2 d__law_draw :=
  can_of T.f__law_draw sc__law_draw fun f cdv A outer s H E hr => by
    have nd := sc__law_draw.nd
    exact pds_cons (pds_if (pdt_cmp op_gt v_cI (pd_ixZ (hu_of hr) (pd_v 0) (pd_int)) (pd_int) (nomark _)) (pds_cons (pds_set nd rfl (by first | exact Or.inl rfl | exact Or.inr rfl) (pd_op op_mod v_mod (pd_callT call_int1 v_int (by rfl) T.n_int bt_int (pda_cons (pd_ixZ (hu_of hr) (pd_v 0) (pd_int)) (pda_nil))) (pd_v 1))) (pds_cons (pds_asg (pd_op op_fdivW v_fdiv (pd_ixZ (hu_of hr) (pd_v 0) (pd_int)) (pd_v 1)) (pdg_sub (hu_of hr) (pd_v 0) (pd_int)) (hgx := goes_sb)) (pds_one (pds_ret (pd_v 2))))) (pds_nil)) (pds_cons (pds_asg (pd_op op_addZ v_addZ (pd_ixZ (hu_of hr) (pd_v 0) (pd_int)) (pd_int)) (pdg_sub (hu_of hr) (pd_v 0) (pd_int)) (hgx := goes_sb)) (pds_cons (pds_set nd rfl (by first | exact Or.inl rfl | exact Or.inr rfl) (pd_op op_addZ v_addZ (pd_op op_mulZ v_mulZ (pd_ixZ (hu_of hr) (pd_v 0) (pd_int)) (pd_int)) (pd_op op_mulZ v_mulZ (pd_int) (pd_ixZ (hu_of hr) (pd_v 0) (pd_int))))) (pds_cons (pds_asg (pd_op op_mod v_mod (pd_callT call_int1 v_int (by rfl) T.n_int bt_int (pda_cons (pd_v 3) (pda_nil))) (pd_int)) (pdg_sub (hu_of hr) (pd_v 0) (pd_int)) (hgx := goes_sb)) (pds_one (pds_ret (pd_op op_mod v_mod (pd_op op_fdivW v_fdiv (pd_op op_mod v_mod (pd_callT call_int1 v_int (by rfl) T.n_int bt_int (pda_cons (pd_op op_mulZ v_mulZ (pd_ixZ (hu_of hr) (pd_v 0) (pd_int)) (pd_ixZ (hu_of hr) (pd_v 0) (pd_int))) (pda_nil))) (pd_int)) (pd_int)) (pd_v 1)))))))
/-! _law_pick -/
def b__law_pick : Sm :=
  sRt (b2 (eV 1) (b1 (eCons (eV 0) (eCons (b1 (eCons (eV 1) (eNil)) fLenB) (eNil))) d__law_draw) opIxB)
def d__law_pick : List Wv → DH → Rs Wv := defD 2 b__law_pick
theorem sc__law_pick : FnScope ["_law_bag_here", "_law_items"] ["_law_bag_here", "_law_items"] (defScope (top 20)) := ⟨rfl, rfl, rfl, by decide +kernel, rfl, by decide +kernel, by decide +kernel⟩
theorem c__law_pick (T : Txt K mg ca) (c__law_draw : Can P w K mg base ca 1 "_law_draw" 2 d__law_draw) : Can P w K mg base ca 2 "_law_pick" 2 d__law_pick :=
  can_of T.f__law_pick sc__law_pick fun f cdv A outer s H E hr => by
    have nd := sc__law_pick.nd
    exact pds_one (pds_ret (pd_ixB (hu_of hr) (pd_v 1) (pd_ch c__law_draw (hr.mono (by decide : 1 ≤ 1)) (by rfl) (pas_of (takes_of rfl rfl rfl rfl)) (pda_cons (pd_v 0) (pda_cons (pd_callB call_lenA v_lenB (by rfl) T.n_len bt_len (pda_cons (pd_v 1) (pda_nil))) (pda_nil))) (len_cons (len_cons len_nil)))))
/-! _law_odd -/
def b__law_odd : Sm :=
  sSeq (sSet 1 (eBx .lst (eCons (eC .non) (eCons (eC (.bl true)) (eCons (eC (.bl false)) (eCons (eC (.int 0)) (eCons (eC (.int 1)) (eCons (b1 (eC (.int 1)) opNeg) (eCons (eC (.int 12)) (eCons (eC (.int 13)) (eCons (b2 (eC (.int 10)) (eC (.int 39)) opPow) (eCons (eC (.str "")) (eCons (eC (.str "0")) (eCons (eC (.str "sum")) (eCons (eTup (eNil)) (eCons (eRg (eLst (eNil))) (eCons (eTup (eCons (eC (.int 0)) (eNil))) (eCons (eTup (eCons (eC (.int 1)) (eCons (eC (.int 0)) (eNil)))) (eCons (eRg (eLst (eCons (eC (.int 0)) (eNil)))) (eCons (eTup (eCons (eC (.int 0)) (eCons (eC (.bl true)) (eNil)))) (eCons (eFz (eDct0)) (eCons (eTup (eCons (eC (.int 0)) (eCons (eC (.int 0)) (eNil)))) (eCons (eTup (eCons (eC (.int 0)) (eCons (eC (.int 1)) (eCons (eC (.int 2)) (eNil))))) (eNil)))))))))))))))))))))))) (sRt (b1 (eCons (eV 0) (eCons (b2 (eV 1) (eBx .lst (eCons (eTup (eCons (eFz (eLst (eNil))) (eNil))) (eCons (eTup (eCons (eC .non) (eNil))) (eCons (eTup (eCons (eTup (eCons (eC (.int 0)) (eCons (eC (.int 0)) (eCons (eC (.str "sum")) (eNil))))) (eNil))) (eCons (eTup (eCons (eC (.int 0)) (eCons (eC (.int 0)) (eCons (eC (.str "sum")) (eNil))))) (eCons (eTup (eCons (eC (.int 1)) (eCons (eC (.int 2)) (eCons (eTup (eNil)) (eNil))))) (eCons (eTup (eCons (eC (.int 2)) (eCons (eC (.int 5)) (eCons (eTup (eNil)) (eNil))))) (eCons (eRg (eLst (eCons (eC (.int 0)) (eCons (eC (.int 0)) (eCons (eC (.str "sum")) (eNil)))))) (eCons (eFz (eDsp [(eC (.str "0"), eC (.int 1))])) (eCons (eTup (eCons (eC (.int 0)) (eCons (eFz (eLst (eCons (eC (.int 0)) (eNil)))) (eNil)))) (eNil))))))))))) opCatB) (eNil))) d__law_pick))
def d__law_odd : List Wv → DH → Rs Wv := defD 2 b__law_odd
theorem sc__law_odd : FnScope ["_law_bag_here", "_law_some"] ["_law_bag_here"] (defScope (top 21)) := ⟨rfl, rfl, rfl, by decide +kernel, rfl, by decide +kernel, by decide +kernel⟩
theorem c__law_odd (T : Txt K mg ca) (c__law_pick : Can P w K mg base ca 2 "_law_pick" 2 d__law_pick) : Can P w K mg base ca 3 "_law_odd" 1 d__law_odd :=
  can_of T.f__law_odd sc__law_odd fun f cdv A outer s H E hr => by
    have nd := sc__law_odd.nd
    exact pds_cons (pds_set nd rfl (by first | exact Or.inl rfl | exact Or.inr rfl) (pd_bxL (pda_cons (pd_non) (pda_cons (pd_bl) (pda_cons (pd_bl) (pda_cons (pd_int) (pda_cons (pd_int) (pda_cons (pd_un un_neg v_neg (pd_int)) (pda_cons (pd_int) (pda_cons (pd_int) (pda_cons (pd_op op_pow v_pow (pd_int) (pd_int)) (pda_cons (pd_str) (pda_cons (pd_str) (pda_cons (pd_str) (pda_cons (pd_tup (pda_nil)) (pda_cons (pd_rg (pf_lst (pda_nil))) (pda_cons (pd_tup (pda_cons (pd_int) (pda_nil))) (pda_cons (pd_tup (pda_cons (pd_int) (pda_cons (pd_int) (pda_nil)))) (pda_cons (pd_rg (pf_lst (pda_cons (pd_int) (pda_nil)))) (pda_cons (pd_tup (pda_cons (pd_int) (pda_cons (pd_bl) (pda_nil)))) (pda_cons (pd_fz (pf_dct0)) (pda_cons (pd_tup (pda_cons (pd_int) (pda_cons (pd_int) (pda_nil)))) (pda_cons (pd_tup (pda_cons (pd_int) (pda_cons (pd_int) (pda_cons (pd_int) (pda_nil))))) (pda_nil)))))))))))))))))))))))) (pds_one (pds_ret (pd_ch c__law_pick (hr.mono (by decide : 2 ≤ 2)) (by rfl) (pas_of (takes_of rfl rfl rfl rfl)) (pda_cons (pd_v 0) (pda_cons (pd_op op_cat v_catB (pd_v 1) (pd_bxL (pda_cons (pd_tup (pda_cons (pd_fz (pf_lst (pda_nil))) (pda_nil))) (pda_cons (pd_tup (pda_cons (pd_non) (pda_nil))) (pda_cons (pd_tup (pda_cons (pd_tup (pda_cons (pd_int) (pda_cons (pd_int) (pda_cons (pd_str) (pda_nil))))) (pda_nil))) (pda_cons (pd_tup (pda_cons (pd_int) (pda_cons (pd_int) (pda_cons (pd_str) (pda_nil))))) (pda_cons (pd_tup (pda_cons (pd_int) (pda_cons (pd_int) (pda_cons (pd_tup (pda_nil)) (pda_nil))))) (pda_cons (pd_tup (pda_cons (pd_int) (pda_cons (pd_int) (pda_cons (pd_tup (pda_nil)) (pda_nil))))) (pda_cons (pd_rg (pf_lst (pda_cons (pd_int) (pda_cons (pd_int) (pda_cons (pd_str) (pda_nil)))))) (pda_cons (pd_fz (pf_disp (pdp_cons (pd_str) (pd_int) (pdp_nil)))) (pda_cons (pd_tup (pda_cons (pd_int) (pda_cons (pd_fz (pf_lst (pda_cons (pd_int) (pda_nil)))) (pda_nil)))) (pda_nil)))))))))))) (pda_nil))) (len_cons (len_cons len_nil)))))
/-! _law_sorts -/
def b__law_sorts : Sm :=
  sSeq (sSet 1 (eFz (eLst (eCons (b1 (eV 0) (opXiB [1] [2, 3, 4, 5, 6, 7, 8, 9, 10])) (eCons (b1 (eV 0) (opXiB [2] [1, 3, 4, 5, 6, 7, 8, 9, 10])) (eCons (b1 (eV 0) (opXiB [3] [1, 2, 4, 5, 6, 7, 8, 9, 10])) (eCons (b1 (eV 0) (opXiB [4] [1, 2, 3, 5, 6, 7, 8, 9, 10])) (eNil)))))))) (sSeq (sSet 1 (b2 (eV 1) (eFz (eLst (eCons (b1 (eV 0) (opXiB [5] [1, 2, 3, 4, 6, 7, 8, 9, 10])) (eCons (b1 (eV 0) (opXiB [6] [1, 2, 3, 4, 5, 7, 8, 9, 10])) (eCons (b1 (eV 0) (opXiB [7] [1, 2, 3, 4, 5, 6, 8, 9, 10])) (eCons (b1 (eV 0) (opXiB [8] [1, 2, 3, 4, 5, 6, 7, 9, 10])) (eNil))))))) opAddZ)) (sSeq (sSet 1 (b2 (eV 1) (eFz (eLst (eCons (b1 (eV 0) (opXiB [9] [1, 2, 3, 4, 5, 6, 7, 8, 10])) (eCons (b1 (eV 0) (opXiB [10] [1, 2, 3, 4, 5, 6, 7, 8, 9])) (eCons (b1 (eV 0) (opXiB [1, 2, 3, 4, 5, 6, 7, 8] [9, 10])) (eCons (b1 (eV 0) (opXiB [1, 2, 3, 4, 5, 6, 7, 8] [9, 10])) (eNil))))))) opAddZ)) (sRt (b2 (eV 1) (eFz (eLst (eCons (b1 (eV 0) (opXiB [9, 10] [1, 2, 3, 4, 5, 6, 7, 8])) (eCons (b1 (eV 0) (opXiB [] [1, 2, 3, 4, 5, 6, 7, 8, 9, 10])) (eCons (b1 (eV 0) (opXiB [] [1, 2, 3, 4, 5, 6, 7, 8, 9, 10])) (eNil)))))) opAddZ))))
def d__law_sorts : List Wv → DH → Rs Wv := defD 2 b__law_sorts
theorem sc__law_sorts : FnScope ["_law_error", "_law_found"] ["_law_error"] (defScope (top 22)) := ⟨rfl, rfl, rfl, by decide +kernel, rfl, by decide +kernel, by decide +kernel⟩
theorem c__law_sorts (T : Txt K mg ca) : Can P w K mg base ca 1 "_law_sorts" 1 d__law_sorts :=
  can_of T.f__law_sorts sc__law_sorts fun f cdv A outer s H E hr => by
    have nd := sc__law_sorts.nd
    exact pds_cons (pds_set nd rfl (by first | exact Or.inl rfl | exact Or.inr rfl) (pd_fz (pf_lst (pda_cons (pd_xiB (by rfl) T.n_isinstance T.xis_BadKey (pe_glob (by rfl) T.v_BadKey rfl : PE _ (.Name _ _) (tC (.ref (ca.CA 1)))) (fun _ r => r) (pd_v 0)) (pda_cons (pd_xiB (by rfl) T.n_isinstance T.xis_BadSheet (pe_glob (by rfl) T.v_BadSheet rfl : PE _ (.Name _ _) (tC (.ref (ca.CA 2)))) (fun _ r => r) (pd_v 0)) (pda_cons (pd_xiB (by rfl) T.n_isinstance T.xis_BadText (pe_glob (by rfl) T.v_BadText rfl : PE _ (.Name _ _) (tC (.ref (ca.CA 3)))) (fun _ r => r) (pd_v 0)) (pda_cons (pd_xiB (by rfl) T.n_isinstance T.xis_BadValue (pe_glob (by rfl) T.v_BadValue rfl : PE _ (.Name _ _) (tC (.ref (ca.CA 4)))) (fun _ r => r) (pd_v 0)) (pda_nil)))))))) (pds_cons (pds_set nd rfl (by first | exact Or.inl rfl | exact Or.inr rfl) (pd_op op_addZ v_addZ (pd_v 1) (pd_fz (pf_lst (pda_cons (pd_xiB (by rfl) T.n_isinstance T.xis_Barred (pe_glob (by rfl) T.v_Barred rfl : PE _ (.Name _ _) (tC (.ref (ca.CA 5)))) (fun _ r => r) (pd_v 0)) (pda_cons (pd_xiB (by rfl) T.n_isinstance T.xis_Full (pe_glob (by rfl) T.v_Full rfl : PE _ (.Name _ _) (tC (.ref (ca.CA 6)))) (fun _ r => r) (pd_v 0)) (pda_cons (pd_xiB (by rfl) T.n_isinstance T.xis_NothingToUndo (pe_glob (by rfl) T.v_NothingToUndo rfl : PE _ (.Name _ _) (tC (.ref (ca.CA 7)))) (fun _ r => r) (pd_v 0)) (pda_cons (pd_xiB (by rfl) T.n_isinstance T.xis_TooMany (pe_glob (by rfl) T.v_TooMany rfl : PE _ (.Name _ _) (tC (.ref (ca.CA 8)))) (fun _ r => r) (pd_v 0)) (pda_nil))))))))) (pds_cons (pds_set nd rfl (by first | exact Or.inl rfl | exact Or.inr rfl) (pd_op op_addZ v_addZ (pd_v 1) (pd_fz (pf_lst (pda_cons (pd_xiB (by rfl) T.n_isinstance T.xis_NoKey (pe_glob (by rfl) T.v_NoKey rfl : PE _ (.Name _ _) (tC (.ref (ca.CA 9)))) (fun _ r => r) (pd_v 0)) (pda_cons (pd_xiB (by rfl) T.n_isinstance T.xis_NoPart (pe_glob (by rfl) T.v_NoPart rfl : PE _ (.Name _ _) (tC (.ref (ca.CA 10)))) (fun _ r => r) (pd_v 0)) (pda_cons (pd_xiB (by rfl) T.n_isinstance T.xis_CellError (pe_glob (by rfl) T.v_CellError rfl : PE _ (.Name _ _) (tC (.ref (ca.CA 0)))) (fun _ r => r) (pd_v 0)) (pda_cons (pd_xiB (by rfl) T.n_isinstance T.xis_ValueError (pe_bltn (by rfl) T.n_ValueError bt_ValueError rfl : PE _ (.Name _ _) (tC (.ty "ValueError"))) (fun _ r => r) (pd_v 0)) (pda_nil))))))))) (pds_one (pds_ret (pd_op op_addZ v_addZ (pd_v 1) (pd_fz (pf_lst (pda_cons (pd_xiB (by rfl) T.n_isinstance T.xis_LookupError (pe_bltn (by rfl) T.n_LookupError bt_LookupError rfl : PE _ (.Name _ _) (tC (.ty "LookupError"))) (fun _ r => r) (pd_v 0)) (pda_cons (pd_xiB (by rfl) T.n_isinstance T.xis_KeyError (pe_bltn (by rfl) T.n_KeyError bt_KeyError rfl : PE _ (.Name _ _) (tC (.ty "KeyError"))) (fun _ r => r) (pd_v 0)) (pda_cons (pd_xiB (by rfl) T.n_isinstance T.xis_IndexError (pe_bltn (by rfl) T.n_IndexError bt_IndexError rfl : PE _ (.Name _ _) (tC (.ty "IndexError"))) (fun _ r => r) (pd_v 0)) (pda_nil)))))))))))
/-! law -/
def b_law : Sm :=
  sSeq (sSet 1 (b1 (eCons (eV 0) (eNil)) d__law_bag)) (sSeq (sIf (b2 (b1 (eCons (eFz (eLst (eCons (eC (.int 12)) (eCons (eC (.int 20)) (eCons (eC (.int 12)) (eCons (eC (.int 1000000000000)) (eCons (eC (.int 6)) (eNil)))))))) (eNil)) fReprB) (b1 (eCons (eFz (eLst (eCons (eC (.int 12)) (eCons (eC (.int 20)) (eCons (eC (.int 12)) (eCons (b2 (eC (.int 10)) (eC (.int 12)) opPow) (eCons (eC (.int 6)) (eNil)))))))) (eNil)) fReprB) opNe) (sRt (eC (.bl false))) (sNx)) (sSeq (sFor (b1 (eC (.int 6)) itRa) (gV 2) (sSeq (sPar 3 4 (eCons (b1 (b1 (eCons (eV 1) (eNil)) d__law_odd) (slR [])) (eCons (b1 (eCons (eV 1) (eCons (eBx .lst (eCons (eRg (eLst (eCons (b1 (b1 (eCons (eV 1) (eNil)) d__law_odd) (slR [])) (eNil)))) (eCons (b1 (eCons (eV 1) (eNil)) d__law_odd) (eCons (eC (.str "key")) (eNil))))) (eNil))) d__law_pick) (eNil)))) (sSeq (sSet 5 (eBx .lst (eCons (b1 (eCons (eV 4) (eNil)) (xcR 1 1)) (eCons (b1 (eCons (eV 4) (eNil)) (xcR 2 1)) (eCons (b1 (eCons (eV 3) (eCons (eV 4) (eNil))) (xcR2 3)) (eCons (b1 (eCons (eV 4) (eNil)) (xcR 4 1)) (eCons (b1 (eCons (eV 4) (eNil)) (xcR 5 1)) (eCons (eXc0 6) (eCons (eXc0 7) (eCons (b1 (eCons (eV 4) (eNil)) (xcR 8 1)) (eCons (b1 (eCons (eV 4) (eNil)) (xcR 9 1)) (eCons (b1 (eCons (eV 4) (eNil)) (xcR 10 1)) (eNil))))))))))))) (sSeq (sSet 6 (eBx .lst (eCons (b1 (b2 (eV 5) (eC (.int 0)) opIxB) (opXfB [(1, 0)])) (eCons (b1 (b2 (eV 5) (eC (.int 1)) opIxB) (opXfB [(2, 0)])) (eCons (b1 (b2 (eV 5) (eC (.int 2)) opIxB) (opXfB [(3, 0), (9, 0), (10, 0)])) (eCons (b1 (b2 (eV 5) (eC (.int 3)) opIxB) (opXfB [(4, 0)])) (eCons (b1 (b2 (eV 5) (eC (.int 4)) opIxB) (opXfB [(5, 0)])) (eCons (b1 (b2 (eV 5) (eC (.int 7)) opIxB) (opXfB [(8, 0)])) (eCons (b1 (b2 (eV 5) (eC (.int 8)) opIxB) (opXfB [(3, 0), (9, 0), (10, 0)])) (eCons (b1 (b2 (eV 5) (eC (.int 9)) opIxB) (opXfB [(3, 0), (9, 0), (10, 0)])) (eNil))))))))))) (sSeq (sIf (eOr (b2 (b1 (eCons (eV 6) (eNil)) fReprB) (b1 (eCons (b2 (eBx .lst (eCons (eV 4) (eNil))) (eC (.int 8)) opMulB) (eNil)) fReprB) opNe) (b2 (b1 (eCons (b1 (b2 (eV 5) (eC (.int 2)) opIxB) (opXfB [(3, 1)])) (eNil)) fReprB) (b1 (eCons (eV 3) (eNil)) fReprB) opNe)) (sRt (eC (.bl false))) (sNx)) (sSeq (sIf (eT (b1 (eV 4) (isT .list))) (sSeq (sEx (bM cLst (eV 4) (eCons (eC (.int 7)) (eNil)) mAppend)) (sSeq (sSet 6 (eBx .lst (eCons (b1 (b2 (eV 5) (eC (.int 0)) opIxB) (opXfB [(1, 0)])) (eCons (b1 (b2 (eV 5) (eC (.int 1)) opIxB) (opXfB [(2, 0)])) (eCons (b1 (b2 (eV 5) (eC (.int 2)) opIxB) (opXfB [(3, 0), (9, 0), (10, 0)])) (eCons (b1 (b2 (eV 5) (eC (.int 3)) opIxB) (opXfB [(4, 0)])) (eCons (b1 (b2 (eV 5) (eC (.int 4)) opIxB) (opXfB [(5, 0)])) (eCons (b1 (b2 (eV 5) (eC (.int 7)) opIxB) (opXfB [(8, 0)])) (eCons (b1 (b2 (eV 5) (eC (.int 8)) opIxB) (opXfB [(3, 0), (9, 0), (10, 0)])) (eCons (b1 (b2 (eV 5) (eC (.int 9)) opIxB) (opXfB [(3, 0), (9, 0), (10, 0)])) (eNil))))))))))) (sSeq (sIf (eOr (b2 (b1 (eCons (eV 6) (eNil)) fReprB) (b1 (eCons (b2 (eBx .lst (eCons (eV 4) (eNil))) (eC (.int 8)) opMulB) (eNil)) fReprB) opNe) (b2 (b1 (eCons (b1 (b1 (eCons (eV 4) (eCons (eV 3) (eNil))) (xcR2 3)) (opXfB [(3, 1)])) (eNil)) fReprB) (b1 (eCons (eV 4) (eNil)) fReprB) opNe)) (sRt (eC (.bl false))) (sNx)) (sSeq (sSet 7 (b1 (eCons (eV 4) (eCons (eV 3) (eNil))) (xcR2 3))) (sSeq (sEx (bM cLst (eV 4) (eCons (eC (.int 8)) (eNil)) mAppend)) (sIf (b2 (b1 (eCons (b1 (eV 7) (opXfB [(3, 1)])) (eNil)) fReprB) (b1 (eCons (eV 4) (eNil)) fReprB) opNe) (sRt (eC (.bl false))) (sNx))))))) (sNx)) (sForA (b1 (eCons (eV 5) (eNil)) itEnB) (gPair 8 9) (sSeq (sSet 10 (b2 (eV 8) (eC (.int 8)) (fun x y h => toV ((cI fun i j => decide (i < j)) x y h)))) (sSeq (sSet 11 (b2 (eFz (eLc (b1 (eC (.int 10)) itRa) [12] (gV 12) (tYes') (b2 (eV 12) (eV 8) (fun x y h => toV (opEq x y h))))) (eFz (eLst (eCons (eV 10) (eCons (eV 10) (eCons (eNotV (eV 10)) (eCons (eC (.bl false)) (eCons (eC (.bl false)) (eNil)))))))) opAddZ)) (sIf (b2 (b1 (eCons (eV 9) (eNil)) d__law_sorts) (eV 11) opNe) (sRt (eC (.bl false))) (sNx))))))))))) (sRt (eC (.bl true)))))
def d_law : List Wv → DH → Rs Wv := defD 13 b_law
abbrev sN_law : List Str := ["_law_script", "_law_bag_here", "_law_turn", "_law_p", "_law_q", "_law_some", "_law_found", "_law_last", "_law_spot", "_law_error", "_law_is_cell", "_law_due", "_law_at"]
theorem sc_law : FnScope ["_law_script", "_law_bag_here", "_law_turn", "_law_p", "_law_q", "_law_some", "_law_found", "_law_last", "_law_spot", "_law_error", "_law_is_cell", "_law_due", "_law_at"] ["_law_script"] (defScope (top 23)) := ⟨rfl, rfl, rfl, by decide +kernel, rfl, by decide +kernel, by decide +kernel⟩
theorem ok_law (T : Txt K mg ca) (c__law_bag : Can P w K mg base ca 1 "_law_bag" 1 d__law_bag) (c__law_odd : Can P w K mg base ca 3 "_law_odd" 1 d__law_odd) (c__law_pick : Can P w K mg base ca 2 "_law_pick" 2 d__law_pick) (c__law_sorts : Can P w K mg base ca 1 "_law_sorts" 1 d__law_sorts) {fa : Addr} {fd : FuncData} (F : Fun K "law" "law" (top 23) fa fd) : FnG P w K mg base 4 fa fd ["_law_script"] (spD ⟨K, ca⟩ 1 d_law) :=
  def_okG F sc_law fun cdv A outer s H E hr hg => by
    have nd := sc_law.nd
    exact pds_cons (pds_set nd rfl (by first | exact Or.inl rfl | exact Or.inr rfl) (pd_ch c__law_bag (hr.mono (by decide : 1 ≤ 3)) (by rfl) (pas_of (takes_of rfl rfl rfl rfl)) (pda_cons (pd_v 0) (pda_nil)) (len_cons len_nil))) (pds_cons (pds_if (pdt_cmp (op_neA hr.units) v_ne (pd_callB (call_reprB hg hr.units) v_reprB (by rfl) T.n_repr bt_repr (pda_cons (pd_fz (pf_lst (pda_cons (pd_gi (by rfl) T.g_MAX_CELLS) (pda_cons (pd_gi (by rfl) T.g_MAX_DEEDS) (pda_cons (pd_gi (by rfl) T.g_MAX_KEYS) (pda_cons (pd_gi (by rfl) T.g_MAX_MODULUS) (pda_cons (pd_gi (by rfl) T.g_MAX_RULED) (pda_nil)))))))) (pda_nil))) (pd_callB (call_reprB hg hr.units) v_reprB (by rfl) T.n_repr bt_repr (pda_cons (pd_fz (pf_lst (pda_cons (pd_int) (pda_cons (pd_int) (pda_cons (pd_int) (pda_cons (pd_op op_pow v_pow (pd_int) (pd_int)) (pda_cons (pd_int) (pda_nil)))))))) (pda_nil))) (nomark _)) (pds_one (pds_ret (pd_bl))) (pds_nil)) (pds_cons (pds_for (passes_of rfl) rfl (pdi_range1 (by rfl) T.n_range (pd_int)) (pdg_name nd rfl (by first | exact Or.inl rfl | exact Or.inr rfl)) (pds_cons (pds_par rfl nd rfl rfl (by decide) rfl rfl (pda_cons (pd_seal ars_nil (pd_ch c__law_odd (hr.mono (by decide : 3 ≤ 3)) (by rfl) (pas_of (takes_of rfl rfl rfl rfl)) (pda_cons (pd_v 1) (pda_nil)) (len_cons len_nil))) (pda_cons (pd_ch c__law_pick (hr.mono (by decide : 2 ≤ 3)) (by rfl) (pas_of (takes_of rfl rfl rfl rfl)) (pda_cons (pd_v 1) (pda_cons (pd_bxL (pda_cons (pd_rg (pf_lst (pda_cons (pd_seal ars_nil (pd_ch c__law_odd (hr.mono (by decide : 3 ≤ 3)) (by rfl) (pas_of (takes_of rfl rfl rfl rfl)) (pda_cons (pd_v 1) (pda_nil)) (len_cons len_nil))) (pda_nil)))) (pda_cons (pd_ch c__law_odd (hr.mono (by decide : 3 ≤ 3)) (by rfl) (pas_of (takes_of rfl rfl rfl rfl)) (pda_cons (pd_v 1) (pda_nil)) (len_cons len_nil)) (pda_cons (pd_str) (pda_nil))))) (pda_nil))) (len_cons (len_cons len_nil))) (pda_nil))) (by rfl)) (pds_cons (pds_set nd rfl (by first | exact Or.inl rfl | exact Or.inr rfl) (pd_bxL (pda_cons (pd_xc1 (e_BadKey T) (hr.mono (by decide : 2 ≤ 3)) (by rfl) (pda_cons (pd_v 4) (pda_nil))) (pda_cons (pd_xc1 (e_BadSheet T) (hr.mono (by decide : 2 ≤ 3)) (by rfl) (pda_cons (pd_v 4) (pda_nil))) (pda_cons (pd_xc2 (e_BadText T) (hr.mono (by decide : 2 ≤ 3)) (by rfl) (pda_cons (pd_v 3) (pda_cons (pd_v 4) (pda_nil)))) (pda_cons (pd_xc1 (e_BadValue T) (hr.mono (by decide : 2 ≤ 3)) (by rfl) (pda_cons (pd_v 4) (pda_nil))) (pda_cons (pd_xc1 (e_Barred T) (hr.mono (by decide : 2 ≤ 3)) (by rfl) (pda_cons (pd_v 4) (pda_nil))) (pda_cons (pd_xc0 T.x0_Full (by rfl)) (pda_cons (pd_xc0 T.x0_NothingToUndo (by rfl)) (pda_cons (pd_xc1 (e_TooMany T) (hr.mono (by decide : 2 ≤ 3)) (by rfl) (pda_cons (pd_v 4) (pda_nil))) (pda_cons (pd_xcL (e_NoKey T) (hr.mono (by decide : 2 ≤ 3)) (by rfl) (pda_cons (pd_v 4) (pda_nil))) (pda_cons (pd_xcL (e_NoPart T) (hr.mono (by decide : 2 ≤ 3)) (by rfl) (pda_cons (pd_v 4) (pda_nil))) (pda_nil))))))))))))) (pds_cons (pds_set nd rfl (by first | exact Or.inl rfl | exact Or.inr rfl) (pd_bxL (pda_cons (pd_xfB T.xf_key (pd_ixB (hu_of hr) (pd_v 5) (pd_int))) (pda_cons (pd_xfB T.xf_word (pd_ixB (hu_of hr) (pd_v 5) (pd_int))) (pda_cons (pd_xfB T.xf_number (pd_ixB (hu_of hr) (pd_v 5) (pd_int))) (pda_cons (pd_xfB T.xf_value (pd_ixB (hu_of hr) (pd_v 5) (pd_int))) (pda_cons (pd_xfB T.xf_numbers (pd_ixB (hu_of hr) (pd_v 5) (pd_int))) (pda_cons (pd_xfB T.xf_limit (pd_ixB (hu_of hr) (pd_v 5) (pd_int))) (pda_cons (pd_xfB T.xf_number (pd_ixB (hu_of hr) (pd_v 5) (pd_int))) (pda_cons (pd_xfB T.xf_number (pd_ixB (hu_of hr) (pd_v 5) (pd_int))) (pda_nil))))))))))) (pds_cons (pds_if (pdt_w (pdw_or (pdt_cmp (op_neA hr.units) v_ne (pd_callB (call_reprB hg hr.units) v_reprB (by rfl) T.n_repr bt_repr (pda_cons (pd_v 6) (pda_nil))) (pd_callB (call_reprB hg hr.units) v_reprB (by rfl) T.n_repr bt_repr (pda_cons (pd_op op_mulZ v_mulB (pd_bxL (pda_cons (pd_v 4) (pda_nil))) (pd_int)) (pda_nil))) (nomark _)) (pdw_or1 (pdt_cmp (op_neA hr.units) v_ne (pd_callB (call_reprB hg hr.units) v_reprB (by rfl) T.n_repr bt_repr (pda_cons (pd_xfB T.xf_line (pd_ixB (hu_of hr) (pd_v 5) (pd_int))) (pda_nil))) (pd_callB (call_reprB hg hr.units) v_reprB (by rfl) T.n_repr bt_repr (pda_cons (pd_v 3) (pda_nil))) (nomark _))))) (pds_one (pds_ret (pd_bl))) (pds_nil)) (pds_cons (pds_if (pdt_val (pd_isT .list (by rfl) T.n_isinstance (by rfl) T.n_list bt_list (pd_v 4))) (pds_cons (pds_expr (pd_bm PySem.F.plainAttrs_list PySem.F.slot_list_append PySem.F.type_list_append mt_append ty_lst v_append (pd_v 4) (pda_cons (pd_int) (pda_nil)))) (pds_cons (pds_set nd rfl (by first | exact Or.inl rfl | exact Or.inr rfl) (pd_bxL (pda_cons (pd_xfB T.xf_key (pd_ixB (hu_of hr) (pd_v 5) (pd_int))) (pda_cons (pd_xfB T.xf_word (pd_ixB (hu_of hr) (pd_v 5) (pd_int))) (pda_cons (pd_xfB T.xf_number (pd_ixB (hu_of hr) (pd_v 5) (pd_int))) (pda_cons (pd_xfB T.xf_value (pd_ixB (hu_of hr) (pd_v 5) (pd_int))) (pda_cons (pd_xfB T.xf_numbers (pd_ixB (hu_of hr) (pd_v 5) (pd_int))) (pda_cons (pd_xfB T.xf_limit (pd_ixB (hu_of hr) (pd_v 5) (pd_int))) (pda_cons (pd_xfB T.xf_number (pd_ixB (hu_of hr) (pd_v 5) (pd_int))) (pda_cons (pd_xfB T.xf_number (pd_ixB (hu_of hr) (pd_v 5) (pd_int))) (pda_nil))))))))))) (pds_cons (pds_if (pdt_w (pdw_or (pdt_cmp (op_neA hr.units) v_ne (pd_callB (call_reprB hg hr.units) v_reprB (by rfl) T.n_repr bt_repr (pda_cons (pd_v 6) (pda_nil))) (pd_callB (call_reprB hg hr.units) v_reprB (by rfl) T.n_repr bt_repr (pda_cons (pd_op op_mulZ v_mulB (pd_bxL (pda_cons (pd_v 4) (pda_nil))) (pd_int)) (pda_nil))) (nomark _)) (pdw_or1 (pdt_cmp (op_neA hr.units) v_ne (pd_callB (call_reprB hg hr.units) v_reprB (by rfl) T.n_repr bt_repr (pda_cons (pd_xfB T.xf_line (pd_xc2 (e_BadText T) (hr.mono (by decide : 2 ≤ 3)) (by rfl) (pda_cons (pd_v 4) (pda_cons (pd_v 3) (pda_nil))))) (pda_nil))) (pd_callB (call_reprB hg hr.units) v_reprB (by rfl) T.n_repr bt_repr (pda_cons (pd_v 4) (pda_nil))) (nomark _))))) (pds_one (pds_ret (pd_bl))) (pds_nil)) (pds_cons (pds_set nd rfl (by first | exact Or.inl rfl | exact Or.inr rfl) (pd_xc2 (e_BadText T) (hr.mono (by decide : 2 ≤ 3)) (by rfl) (pda_cons (pd_v 4) (pda_cons (pd_v 3) (pda_nil))))) (pds_cons (pds_expr (pd_bm PySem.F.plainAttrs_list PySem.F.slot_list_append PySem.F.type_list_append mt_append ty_lst v_append (pd_v 4) (pda_cons (pd_int) (pda_nil)))) (pds_one (pds_if (pdt_cmp (op_neA hr.units) v_ne (pd_callB (call_reprB hg hr.units) v_reprB (by rfl) T.n_repr bt_repr (pda_cons (pd_xfB T.xf_line (pd_v 7)) (pda_nil))) (pd_callB (call_reprB hg hr.units) v_reprB (by rfl) T.n_repr bt_repr (pda_cons (pd_v 4) (pda_nil))) (nomark _)) (pds_one (pds_ret (pd_bl))) (pds_nil)))))))) (pds_nil)) (pds_one (pds_forA (passes_of rfl) rfl (pdi_enB (by rfl) T.n_enumerate (pda_cons (pd_v 5) (pda_nil))) (pdg_pair rfl nd rfl rfl (by first | exact Or.inl rfl | exact Or.inr rfl) (by first | exact Or.inl rfl | exact Or.inr rfl)) (pds_cons (pds_set nd rfl (by first | exact Or.inl rfl | exact Or.inr rfl) (pd_cmp op_lt v_cI (pd_v 8) (pd_int) (nomark _))) (pds_cons (pds_set nd rfl (by first | exact Or.inl rfl | exact Or.inr rfl) (pd_op op_addZ v_addZ (pd_fz (pf_lc (own := [("_law_at", 12)]) (by decide) rfl nd (pdi_range1 (by rfl) T.n_range (pd_int)) (show BlkOk sN_law (defScope (top 23)) _ _ from blk_by (by decide +kernel)) (fun _ _ _ _ _ => pdgi_name nd rfl (by first | exact Or.inl rfl | exact Or.inr rfl)) (fun _ _ _ _ _ => pts_no) (fun _ _ _ _ _ => pd_cmp (op_eqA hr.units) v_eq (pd_v 12) (pd_v 8) (nomark _)))) (pd_fz (pf_lst (pda_cons (pd_v 10) (pda_cons (pd_v 10) (pda_cons (pd_not (pd_v 10)) (pda_cons (pd_bl) (pda_cons (pd_bl) (pda_nil)))))))))) (pds_one (pds_if (pdt_cmp (op_neA hr.units) v_ne (pd_ch c__law_sorts (hr.mono (by decide : 1 ≤ 3)) (by rfl) (pas_of (takes_of rfl rfl rfl rfl)) (pda_cons (pd_v 9) (pda_nil)) (len_cons len_nil)) (pd_v 11) (nomark _)) (pds_one (pds_ret (pd_bl))) (pds_nil))))))))))))) (pds_one (pds_ret (pd_bl)))))
/-! is_integer (not reached) -/
/-! are_below (not reached) -/
/-! is_choice (not reached) -/
/-! choices (not reached) -/
/-! divisor (not reached) -/
/-! added (not reached) -/
/-! worth (not reached) -/
/-! is_filling (not reached) -/
/-! are_values (not reached) -/
/-! told (not reached) -/
/-! all_told (not reached) -/
/-! half (not reached) -/
/-! adds (not reached) -/
/-! is_paper (not reached) -/
/-! some_keys (not reached) -/
theorem c_all (T : Txt K mg ca) {fa : Addr} {fd : FuncData} (F : Fun K "law" "law" (top 23) fa fd) : FnG P w K mg base 4 fa fd ["_law_script"] (spD ⟨K, ca⟩ 1 d_law) := by
  have c__law_bag : Can P w K mg base ca 1 "_law_bag" 1 d__law_bag := Kc.c__law_bag T
  have c__law_draw : Can P w K mg base ca 1 "_law_draw" 2 d__law_draw := Kc.c__law_draw T
  have c__law_pick : Can P w K mg base ca 2 "_law_pick" 2 d__law_pick := Kc.c__law_pick T c__law_draw
  have c__law_odd : Can P w K mg base ca 3 "_law_odd" 1 d__law_odd := Kc.c__law_odd T c__law_pick
  have c__law_sorts : Can P w K mg base ca 1 "_law_sorts" 1 d__law_sorts := Kc.c__law_sorts T
  exact Kc.ok_law T c__law_bag c__law_odd c__law_pick c__law_sorts F
end Kc
namespace Kc
open PySem PySem.Spec PyProof.Rows L2 DL
namespace Rb
def Bg (rst h : DH) : Prop := ∃ (g s k : Int), h = .lst [.int g, .int s, .int k] :: rst ∧ 0 ≤ s ∧ s < 2305843009213693951
theorem draw_ok {rst h : DH} {l : Int} (hb : Bg rst h) (h0 : 0 < l) (h1 : l < 18446744073709551616) : ∃ i h', d__law_draw [.r 0, .d (.int l)] h = .ok (.d (.int i)) h' ∧ Bg rst h' ∧ 0 ≤ i ∧ i < l := by
  obtain ⟨g, s, k, rfl, s0, s1⟩ := hb
  unfold d__law_draw defD b__law_draw
  by_cases hg : g > 0
  · have h1' : l.natAbs < 18446744073709551616 := by omega
    simp [sSeq, sIf, sSet, sTo, sPar, sRt, sRtN, sNx, sEx, b1, b2, b3, b3', eV, eC, eCons, eNil, eTup, eLst, eFz, eRg, eIte, eAnd, eOr, eNot, eNotV, eAndV, eOrV, eT, vT, eB, toV, eIsN, eNotN, isN, tupR, lstR, fzR, allD, DO.frz, opIxZ, opIx, dctOf, seqOf, lstOf, lst1Of, atI, ixN, cI, opAddZ, opAdd, opSub, opMulZ, opMul, mulL, opFdiv, opMod, opPow, opNeg, fLen, fInt, fAbs, fMin2, fMax2, fTuple, fList, gV, gSb, stD, gTup', gCons', gNil', oNone, oSome, oI, opSlZ, opSl, itS, itRa, itRb, itEn, fixOf, isT, tyN, isK, Ty.name, hg, h0, h1']
    exact ⟨_, _, ⟨rfl, rfl⟩, ⟨_, _, _, rfl, s0, s1⟩, Int.emod_nonneg _ (by omega), Int.emod_lt_of_pos _ h0⟩
  · have m0 := Int.emod_nonneg (s * 2862933555777941757 + 3037000493 * (k + 1)) (by decide : (2305843009213693951 : Int) ≠ 0)
    have m1 := Int.emod_lt_of_pos (s * 2862933555777941757 + 3037000493 * (k + 1)) (by decide : (0 : Int) < 2305843009213693951)
    have hm : ((s * 2862933555777941757 + 3037000493 * (k + 1)) % 2305843009213693951).natAbs < 18446744073709551616 := by omega
    have h1' : l.natAbs < 18446744073709551616 := by omega
    simp [sSeq, sIf, sSet, sTo, sPar, sRt, sRtN, sNx, sEx, b1, b2, b3, b3', eV, eC, eCons, eNil, eTup, eLst, eFz, eRg, eIte, eAnd, eOr, eNot, eNotV, eAndV, eOrV, eT, vT, eB, toV, eIsN, eNotN, isN, tupR, lstR, fzR, allD, DO.frz, opIxZ, opIx, dctOf, seqOf, lstOf, lst1Of, atI, ixN, cI, opAddZ, opAdd, opSub, opMulZ, opMul, mulL, opFdiv, opMod, opPow, opNeg, fLen, fInt, fAbs, fMin2, fMax2, fTuple, fList, gV, gSb, stD, gTup', gCons', gNil', oNone, oSome, oI, opSlZ, opSl, itS, itRa, itRb, itEn, fixOf, isT, tyN, isK, Ty.name, hg, h0, h1', hm]
    refine ⟨_, _, And.intro rfl rfl, ⟨_, _, _, rfl, m0, m1⟩, ?_, ?_⟩
    · exact Int.emod_nonneg _ (by omega)
    · exact Int.emod_lt_of_pos _ h0
theorem bag_ok (ns : List Int) (hn : ns.length ≤ 63) : ∃ h', d__law_bag [.d (scrD ns)] [] = .ok (.r 0) h' ∧ Bg [] h' := by
  unfold d__law_bag defD b__law_bag
  have st := forGo_inv (g := gV 3) (F := sIf (b2 (eV 3) (b2 (eC (.int 10)) (eC (.int 18)) opPow) (cI fun i j => decide (i ≥ j))) (sSet 1 (b2 (b2 (b2 (eV 1) (eC (.int 73)) opMulZ) (eV 3) opAddZ) (b2 (eC (.int 10)) (eC (.int 18)) opPow) opSub)) (sSeq (sSet 2 (b2 (b2 (b2 (eV 2) (eC (.int 2862933555777941757)) opMulZ) (b2 (eC (.int 2)) (b1 (eCons (eV 3) (eNil)) fAbs) opMulZ) opAddZ) (b1 (eCons (b2 (eV 3) (eC (.int 0)) (fun x y h => toV ((cI fun i j => decide (i < j)) x y h))) (eNil)) fInt) opAddZ)) (sSet 2 (b2 (b1 (eCons (eV 2) (eNil)) fInt) (eC (.int 2305843009213693951)) opMod))))
    (fun ds h => ∃ g s c, ds = [some (.d (scrD ns)), some (.d (.int g)), some (.d (.int s)), c] ∧ h = [] ∧ 0 ≤ s ∧ s < 2305843009213693951) (xs := DL.cut (ns.map .int) none (some 63)) (ds := [some (.d (scrD ns)), some (.d (.int 0)), some (.d (.int (11237 + 79 * (ns.length : Int)))), none]) (h := [])
    (fun x hx ds h i => by
      obtain ⟨g, s, c, rfl, rfl, s0, s1⟩ := i
      have hx' := List.mem_of_mem_drop (List.mem_of_mem_take hx)
      obtain ⟨z, _, rfl⟩ := List.mem_map.mp hx'
      by_cases hz : z ≥ 1000000000000000000
      · refine ⟨[some (.d (scrD ns)), some (.d (.int g)), some (.d (.int s)), some (.d (.int z))], [], [some (.d (scrD ns)), some (.d (.int (g * 73 + z - 1000000000000000000))), some (.d (.int s)), some (.d (.int z))], [], rfl, ?_, _, _, _, rfl, rfl, s0, s1⟩
        simp [sSeq, sIf, sSet, sTo, sPar, sRt, sRtN, sNx, sEx, b1, b2, b3, b3', eV, eC, eCons, eNil, eTup, eLst, eFz, eRg, eIte, eAnd, eOr, eNot, eNotV, eAndV, eOrV, eT, vT, eB, toV, eIsN, eNotN, isN, tupR, lstR, fzR, allD, DO.frz, opIxZ, opIx, dctOf, seqOf, lstOf, lst1Of, atI, ixN, cI, opAddZ, opAdd, opSub, opMulZ, opMul, mulL, opFdiv, opMod, opPow, opNeg, fLen, fInt, fAbs, fMin2, fMax2, fTuple, fList, gV, gSb, stD, gTup', gCons', gNil', oNone, oSome, oI, opSlZ, opSl, itS, itRa, itRb, itEn, fixOf, isT, tyN, isK, Ty.name, hz]
      · by_cases hz2 : z < 0
        · refine ⟨[some (.d (scrD ns)), some (.d (.int g)), some (.d (.int s)), some (.d (.int z))], [], [some (.d (scrD ns)), some (.d (.int g)), some (.d (.int ((s * 2862933555777941757 + 2 * -z + 1) % 2305843009213693951))), some (.d (.int z))], [], rfl, ?_, _, _, _, rfl, rfl, Int.emod_nonneg _ (by decide), Int.emod_lt_of_pos _ (by decide)⟩
          simp [sSeq, sIf, sSet, sTo, sPar, sRt, sRtN, sNx, sEx, b1, b2, b3, b3', eV, eC, eCons, eNil, eTup, eLst, eFz, eRg, eIte, eAnd, eOr, eNot, eNotV, eAndV, eOrV, eT, vT, eB, toV, eIsN, eNotN, isN, tupR, lstR, fzR, allD, DO.frz, opIxZ, opIx, dctOf, seqOf, lstOf, lst1Of, atI, ixN, cI, opAddZ, opAdd, opSub, opMulZ, opMul, mulL, opFdiv, opMod, opPow, opNeg, fLen, fInt, fAbs, fMin2, fMax2, fTuple, fList, gV, gSb, stD, gTup', gCons', gNil', oNone, oSome, oI, opSlZ, opSl, itS, itRa, itRb, itEn, fixOf, isT, tyN, isK, Ty.name, hz, hz2]
        · refine ⟨[some (.d (scrD ns)), some (.d (.int g)), some (.d (.int s)), some (.d (.int z))], [], [some (.d (scrD ns)), some (.d (.int g)), some (.d (.int ((s * 2862933555777941757 + 2 * z) % 2305843009213693951))), some (.d (.int z))], [], rfl, ?_, _, _, _, rfl, rfl, Int.emod_nonneg _ (by decide), Int.emod_lt_of_pos _ (by decide)⟩
          simp [sSeq, sIf, sSet, sTo, sPar, sRt, sRtN, sNx, sEx, b1, b2, b3, b3', eV, eC, eCons, eNil, eTup, eLst, eFz, eRg, eIte, eAnd, eOr, eNot, eNotV, eAndV, eOrV, eT, vT, eB, toV, eIsN, eNotN, isN, tupR, lstR, fzR, allD, DO.frz, opIxZ, opIx, dctOf, seqOf, lstOf, lst1Of, atI, ixN, cI, opAddZ, opAdd, opSub, opMulZ, opMul, mulL, opFdiv, opMod, opPow, opNeg, fLen, fInt, fAbs, fMin2, fMax2, fTuple, fList, gV, gSb, stD, gTup', gCons', gNil', oNone, oSome, oI, opSlZ, opSl, itS, itRa, itRb, itEn, fixOf, isT, tyN, isK, Ty.name, hz, hz2])
    ⟨_, _, _, rfl, rfl, by omega, by omega⟩
  obtain ⟨ds', h', e, g, s, c, rfl, rfl, s0, s1⟩ := st
  refine ⟨[.lst [.int g, .int s, .int 0]], ?_, g, s, 0, rfl, s0, s1⟩
  unfold scrD at e ⊢
  simp [sSeq, sIf, sSet, sTo, sPar, sRt, sRtN, sNx, sEx, b1, b2, b3, b3', eV, eC, eCons, eNil, eTup, eLst, eFz, eRg, eIte, eAnd, eOr, eNot, eNotV, eAndV, eOrV, eT, vT, eB, toV, eIsN, eNotN, isN, tupR, lstR, fzR, allD, DO.frz, opIxZ, opIx, dctOf, seqOf, lstOf, lst1Of, atI, ixN, cI, opAddZ, opAdd, opSub, opMulZ, opMul, mulL, opFdiv, opMod, opPow, opNeg, fLen, fInt, fAbs, fMin2, fMax2, fTuple, fList, gV, gSb, stD, gTup', gCons', gNil', oNone, oSome, oI, opSlZ, opSl, itS, itRa, itRb, itEn, fixOf, isT, tyN, isK, Ty.name] at e
  simp [sSeq, sIf, sSet, sTo, sPar, sRt, sRtN, sNx, sEx, b1, b2, b3, b3', eV, eC, eCons, eNil, eTup, eLst, eFz, eRg, eIte, eAnd, eOr, eNot, eNotV, eAndV, eOrV, eT, vT, eB, toV, eIsN, eNotN, isN, tupR, lstR, fzR, allD, DO.frz, opIxZ, opIx, dctOf, seqOf, lstOf, lst1Of, atI, ixN, cI, opAddZ, opAdd, opSub, opMulZ, opMul, mulL, opFdiv, opMod, opPow, opNeg, fLen, fInt, fAbs, fMin2, fMax2, fTuple, fList, gV, gSb, stD, gTup', gCons', gNil', oNone, oSome, oI, opSlZ, opSl, itS, itRa, itRb, itEn, fixOf, isT, tyN, isK, Ty.name, sFor, e]

end Rb
open Rb
/-! ### what is drawn -/
def d5 : List Dv := [.non, .bl true, .bl false, .int 0, .int 1, .int (-1), .int 12, .int 13, .int (10 ^ 39), .str "", .str "0", .str "sum", .tup [], .tup [.int 0], .tup [.int 1, .int 0], .tup [.int 0, .bl true], .dct [] [], .tup [.int 0, .int 0], .tup [.int 0, .int 1, .int 2],
  .tup [.lst []], .tup [.non], .tup [.tup [.int 0, .int 0, .str "sum"]], .tup [.int 0, .int 0, .str "sum"], .tup [.int 1, .int 2, .tup []], .tup [.int 2, .int 5, .tup []], .dct [.inr "0"] [.int 1], .tup [.int 0, .lst [.int 0]]]
def l5 : List (List Dv) := [[], [.int 0], [.int 0, .int 0, .str "sum"]]
def p5 : List Dv := d5 ++ l5.map .lst
def q5 : List (List Dv) := l5 ++ p5.map fun y => [y]
def k5 : List Dv := d5 ++ [.str "key"]
def r8 (x : Dv) : Dv := .lst [x, x, x, x, x, x, x, x]
theorem show_p : ∀ x ∈ p5, (reprD x).isSome = true := List.all_eq_true.mp (show (p5.all fun x => (reprD x).isSome) = true by decide +kernel)
theorem show_k : ∀ x ∈ k5, (reprD (r8 x)).isSome = true ∧ tyN (.d x) [] ≠ none ∧ tyN (.d x) [] ≠ some "list" := fun x hx => by
  have := List.all_eq_true.mp (show (k5.all fun x => (reprD (r8 x)).isSome && decide (tyN (.d x) [] ≠ none) && decide (tyN (.d x) [] ≠ some "list")) = true by decide +kernel) x hx
  simpa only [Bool.and_eq_true, decide_eq_true_eq, and_assoc] using this
theorem show_q : ∀ xs ∈ q5, ((reprD (r8 (.lst xs))).isSome = true ∧ (reprD (r8 (.lst (xs ++ [.int 7])))).isSome = true) ∧ ((reprD (.lst (xs ++ [.int 7]))).isSome = true ∧ (reprD (.lst ((xs ++ [.int 7]) ++ [.int 8]))).isSome = true) ∧ xs.length < 1000 := fun xs hx => by
  have := List.all_eq_true.mp (show (q5.all fun xs => ((reprD (r8 (.lst xs))).isSome && (reprD (r8 (.lst (xs ++ [.int 7])))).isSome) && (((reprD (.lst (xs ++ [.int 7]))).isSome && (reprD (.lst ((xs ++ [.int 7]) ++ [.int 8]))).isSome) && decide (xs.length < 1000))) = true by decide +kernel) xs hx
  simpa only [Bool.and_eq_true, decide_eq_true_eq] using this
theorem get_app {h l : DH} {n : Nat} {o : DO} (e : h[n]? = some o) : (h ++ l)[n]? = some o := by
  rw [List.getElem?_append_left (List.getElem?_eq_some_iff.mp e).1]; exact e
theorem get_at {h l : DH} (k : Nat) : (h ++ l)[h.length + k]? = l[k]? := by
  rw [List.getElem?_append_right (Nat.le_add_right _ _), Nat.add_sub_cancel_left]
theorem get_at0 {h l : DH} : (h ++ l)[h.length]? = l[0]? := get_at 0
theorem get_set {h : DH} {n m : Nat} {o u : DO} (e : h[n]? = some o) (ne : m ≠ n) : (h.set m u)[n]? = some o := by rw [List.getElem?_set_ne ne]; exact e
theorem bg_app {rst h l : DH} (b : Bg rst h) : Bg (rst ++ l) (h ++ l) := by
  obtain ⟨g, s, k, rfl, s0, s1⟩ := b
  exact ⟨g, s, k, rfl, s0, s1⟩
theorem bg_set {rst h : DH} {n : Nat} {u : DO} (b : Bg rst h) : Bg (rst.set n u) (h.set (n + 1) u) := by
  obtain ⟨g, s, k, rfl, s0, s1⟩ := b
  exact ⟨g, s, k, rfl, s0, s1⟩
theorem bg_get {rst h : DH} {n : Nat} (b : Bg rst h) : h[n + 1]? = rst[n]? := by
  obtain ⟨g, s, k, rfl, s0, s1⟩ := b
  rfl
theorem bg_len {rst h : DH} (b : Bg rst h) : h.length = rst.length + 1 := by
  obtain ⟨g, s, k, rfl, s0, s1⟩ := b
  rfl
theorem atI_memW {xs : List Wv} {i : Int} (h0 : 0 ≤ i) (h1 : i < xs.length) : ∃ x, atI xs i = some x ∧ x ∈ xs := by
  have e : atI xs i = xs[i.toNat]? := by
    unfold atI ixN
    rw [if_pos h0, if_pos (by omega)]
    rfl
  have hl : i.toNat < xs.length := by omega
  exact ⟨xs[i.toNat], by rw [e, List.getElem?_eq_getElem hl], List.getElem_mem hl⟩
theorem pick5 {rst h : DH} {n : Nat} {ws : List Wv} (b : Bg rst h) (e : rst[n]? = some (.box .lst ws)) (h0 : ws ≠ []) (h1 : ws.length < 1000000) : ∃ w h', d__law_pick [.r 0, .r (n + 1)] h = .ok w h' ∧ Bg rst h' ∧ w ∈ ws := by
  have hp : 0 < ws.length := List.length_pos_iff.mpr h0
  obtain ⟨i, h', ed, hb', i0, i1⟩ := draw_ok (l := (ws.length : Int)) b (by omega) (by omega)
  obtain ⟨x, ex, hx⟩ := atI_memW i0 i1
  have g1 : bxL (.r (n + 1)) h = some ws := by simp only [bxL, bg_get b, e]
  have g2 : bxL (.r (n + 1)) h' = some ws := by simp only [bxL, bg_get hb', e]
  refine ⟨x, h', ?_, hb', hx⟩
  unfold d__law_pick defD b__law_pick
  simp [sRt, b2, b1, eV, eCons, eNil, fLenB, g1, ed, opIxB, g2, ex]
/-- what an odd thing is: data, or a list that may be changed -/
def Od (rst : DH) (w : Wv) : Prop := (∃ x, w = .d x ∧ x ∈ d5) ∨ ∃ n xs, w = .r (n + 1) ∧ rst[n]? = some (.lst xs) ∧ xs ∈ l5
theorem Od.app {rst l : DH} {w : Wv} (o : Od rst w) : Od (rst ++ l) w := by
  rcases o with z | ⟨n, xs, e1, e2, e3⟩
  · exact .inl z
  · exact .inr ⟨n, xs, e1, get_app e2, e3⟩
def w51 (N : Nat) : List Wv := [.d .non, .d (.bl true), .d (.bl false), .d (.int 0), .d (.int 1), .d (.int (-1)), .d (.int 12), .d (.int 13), .d (.int (10 ^ 39)), .d (.str ""), .d (.str "0"), .d (.str "sum"), .d (.tup []), .r N, .d (.tup [.int 0]), .d (.tup [.int 1, .int 0]), .r (N + 1), .d (.tup [.int 0, .bl true]), .d (.dct [] []), .d (.tup [.int 0, .int 0]), .d (.tup [.int 0, .int 1, .int 2])]
def w52 (N : Nat) : List Wv := [.d (.tup [.lst []]), .d (.tup [.non]), .d (.tup [.tup [.int 0, .int 0, .str "sum"]]), .d (.tup [.int 0, .int 0, .str "sum"]), .d (.tup [.int 1, .int 2, .tup []]), .d (.tup [.int 2, .int 5, .tup []]), .r (N + 3), .d (.dct [.inr "0"] [.int 1]), .d (.tup [.int 0, .lst [.int 0]])]
def o5 (N : Nat) : DH := [.lst [], .lst [.int 0], .box .lst (w51 N), .lst [.int 0, .int 0, .str "sum"], .box .lst (w52 N), .box .lst (w51 N ++ w52 N)]
theorem odd_eq {h h' : DH} {w : Wv} (e : d__law_pick [.r 0, .r (h.length + 5)] (h ++ o5 h.length) = .ok w h') : d__law_odd [.r 0] h = .ok w h' := by
  have e1 : (h ++ [DO.lst [], DO.lst [.int 0]] ++ [DO.box .lst (w51 h.length)])[h.length + 2]? = some (.box .lst (w51 h.length)) := by rw [List.append_assoc, get_at]; rfl
  unfold d__law_odd defD b__law_odd
  simp only [sSeq, sSet, sTo, gV, List.map_cons, List.map_nil, List.length_cons, List.length_nil, List.replicate, List.cons_append, List.nil_append, eBx, b1, b2, eCons, eNil, eC, eV, eTup, tupR, allD, eRg, eLst, lstR, eFz, fzR, DO.frz, opNeg, opPow, bxR, sRt]
  simp [eDct0, eDsp, ePairs, b1, eC, DL.keyOf, dispR, mergeD, putD, allD, opCatB, bxL, List.append_assoc]
  simp [o5, w51, w52] at e
  rw [e]
theorem odd5 {rst h : DH} (b : Bg rst h) : ∃ w h' l, d__law_odd [.r 0] h = .ok w h' ∧ Bg (rst ++ l) h' ∧ Od (rst ++ l) w := by
  have hl := bg_len b
  obtain ⟨w, h', e, b', hw⟩ := pick5 (n := h.length + 4) (ws := w51 h.length ++ w52 h.length) (bg_app (l := o5 h.length) b) (by rw [hl, show rst.length + 1 + 4 = rst.length + 5 from rfl, get_at]; rfl) (by simp [w51]) (by simp [w51, w52])
  refine ⟨w, h', o5 h.length, odd_eq e, b', ?_⟩
  have i1 : ∀ w ∈ w51 h.length ++ w52 h.length, Od (rst ++ o5 h.length) w := by
    have g0 : (rst ++ o5 h.length)[rst.length]? = some (.lst []) := by rw [get_at0]; rfl
    have g1 : (rst ++ o5 h.length)[rst.length + 1]? = some (.lst [.int 0]) := by rw [get_at]; rfl
    have g3 : (rst ++ o5 h.length)[rst.length + 3]? = some (.lst [.int 0, .int 0, .str "sum"]) := by rw [get_at]; rfl
    have od : ∀ x, x ∈ d5 → Od (rst ++ o5 h.length) (.d x) := fun x hx => .inl ⟨x, rfl, hx⟩
    have m0 : Od (rst ++ o5 h.length) (.r h.length) := .inr ⟨rst.length, [], by rw [hl], g0, by simp [l5]⟩
    have m1 : Od (rst ++ o5 h.length) (.r (h.length + 1)) := .inr ⟨rst.length + 1, [.int 0], by rw [hl], g1, by simp [l5]⟩
    have m3 : Od (rst ++ o5 h.length) (.r (h.length + 3)) := .inr ⟨rst.length + 3, _, by rw [hl], g3, by simp [l5]⟩
    intro w hw
    simp only [w51, w52, List.cons_append, List.nil_append, List.mem_cons, List.not_mem_nil, or_false] at hw
    rcases hw with rfl | rfl | rfl | rfl | rfl | rfl | rfl | rfl | rfl | rfl | rfl | rfl | rfl | rfl | rfl | rfl | rfl | rfl | rfl | rfl | rfl | rfl | rfl | rfl | rfl | rfl | rfl | rfl | rfl | rfl <;>
      first | exact m0 | exact m1 | exact m3 | exact od _ (by simp [d5])
  exact i1 w hw
/-- .. as data, from where nobody will change it -/
theorem seal5 {rst h : DH} {w : Wv} (b : Bg rst h) (o : Od rst w) : ∃ x h' rst', slR [] w h = .ok (.d x) h' ∧ Bg rst' h' ∧ x ∈ p5 := by
  rcases o with ⟨x, rfl, hx⟩ | ⟨n, xs, rfl, e, hx⟩
  · exact ⟨x, h, rst, rfl, b, List.mem_append_left _ hx⟩
  · exact ⟨.lst xs, h.set (n + 1) .gone, rst.set n .gone, by simp only [slR, bg_get b, e], bg_set b, List.mem_append_right _ (List.mem_map_of_mem hx)⟩
/-! ### one turn -/
abbrev xOdd : DS → DH → Rs Wv := b1 (eCons (eV 1) (eNil)) d__law_odd
def xPQ : DS → DH → Rs (List Wv) := eCons (b1 xOdd (slR [])) (eCons (b1 (eCons (eV 1) (eCons (eBx .lst (eCons (eRg (eLst (eCons (b1 xOdd (slR [])) (eNil)))) (eCons xOdd (eCons (eC (.str "key")) (eNil))))) (eNil))) d__law_pick) (eNil))
def Qo (rst : DH) (q : Wv) : Prop := (∃ x, q = .d x ∧ x ∈ k5) ∨ ∃ n xs, q = .r (n + 1) ∧ rst[n]? = some (.lst xs) ∧ xs ∈ q5
theorem pq5 {rst h : DH} {ds : DS} (d1 : ds[1]? = some (some (.r 0))) (b : Bg rst h) : ∃ x q h' rst', xPQ ds h = .ok [.d x, q] h' ∧ Bg rst' h' ∧ x ∈ p5 ∧ Qo rst' q := by
  obtain ⟨w1, h1, l1, e1, b1', o1⟩ := odd5 b
  obtain ⟨x, h2, r2, e2, b2', hx⟩ := seal5 b1' o1
  obtain ⟨w3, h3, l3, e3, b3', o3⟩ := odd5 b2'
  obtain ⟨y, h4, r4, e4, b4', hy⟩ := seal5 b3' o3
  have b5' := bg_app (l := [.lst [y]]) b4'
  obtain ⟨w6, h6, l6, e6, b6', o6⟩ := odd5 b5'
  have b7' := bg_app (l := [.box .lst [.r h4.length, w6, .d (.str "key")]]) b6'
  have hl4 := bg_len b4'
  have hl6 := bg_len b6'
  have g6 : ((r4 ++ [DO.lst [y]] ++ l6) ++ [.box .lst [.r h4.length, w6, .d (.str "key")]])[h6.length - 1]? = some (.box .lst [.r h4.length, w6, .d (.str "key")]) := by
    rw [hl6, Nat.add_sub_cancel, get_at0]; rfl
  obtain ⟨q, h8, e8, b8', hq⟩ := pick5 b7' g6 (by simp) (by simp)
  have hs : h6.length - 1 + 1 = h6.length := by omega
  rw [hs] at e8
  refine ⟨x, q, h8, _, ?_, b8', hx, ?_⟩
  · unfold xPQ
    simp only [xOdd, eCons, eNil, b1, b2, eV, d1, e1, e2, e3, e4, eRg, eLst, lstR, allD, Option.map_some, List.length_cons, List.length_nil, Nat.reduceAdd, Nat.reduceLeDiff, if_true, e6, eC, eBx, bxR, e8]
  · have n4 : ((r4 ++ [DO.lst [y]] ++ l6) ++ [.box .lst [.r h4.length, w6, .d (.str "key")]])[r4.length]? = some (.lst [y]) := get_app (get_app (by rw [get_at0]; rfl))
    simp only [List.mem_cons, List.not_mem_nil, or_false] at hq
    rcases hq with rfl | rfl | rfl
    · exact .inr ⟨r4.length, [y], by rw [hl4], n4, List.mem_append_right _ (List.mem_map_of_mem (f := fun y => [y]) hy)⟩
    · rcases o6.app (l := [.box .lst [.r h4.length, q, .d (.str "key")]]) with ⟨z, rfl, hz⟩ | ⟨n, xs, rfl, en, hz⟩
      · exact .inl ⟨z, rfl, List.mem_append_left _ hz⟩
      · exact .inr ⟨n, xs, rfl, en, List.mem_append_left _ hz⟩
    · exact .inl ⟨_, rfl, by simp [k5]⟩
/-! the errors -/
def xErrs : DS → DH → Rs Wv := eBx .lst (eCons (b1 (eCons (eV 4) (eNil)) (xcR 1 1)) (eCons (b1 (eCons (eV 4) (eNil)) (xcR 2 1)) (eCons (b1 (eCons (eV 3) (eCons (eV 4) (eNil))) (xcR2 3)) (eCons (b1 (eCons (eV 4) (eNil)) (xcR 4 1)) (eCons (b1 (eCons (eV 4) (eNil)) (xcR 5 1)) (eCons (eXc0 6) (eCons (eXc0 7) (eCons (b1 (eCons (eV 4) (eNil)) (xcR 8 1)) (eCons (b1 (eCons (eV 4) (eNil)) (xcR 9 1)) (eCons (b1 (eCons (eV 4) (eNil)) (xcR 10 1)) (eNil)))))))))))
structure Er (h : DH) (m N : Nat) (p q : Wv) : Prop where
  b : h[m]? = some (.box .lst [.r N, .r (N + 1), .r (N + 2), .r (N + 3), .r (N + 4), .r (N + 5), .r (N + 6), .r (N + 7), .r (N + 8), .r (N + 9)])
  e0 : h[N]? = some (.box (.exc (1)) [q])
  e1 : h[N + 1]? = some (.box (.exc (2)) [q])
  e2 : h[N + 2]? = some (.box (.exc (3)) [q, p])
  e3 : h[N + 3]? = some (.box (.exc (4)) [q])
  e4 : h[N + 4]? = some (.box (.exc (5)) [q])
  e5 : h[N + 5]? = some (.box (.exc (6)) [])
  e6 : h[N + 6]? = some (.box (.exc (7)) [])
  e7 : h[N + 7]? = some (.box (.exc (8)) [q])
  e8 : h[N + 8]? = some (.box (.exc (9)) [q])
  e9 : h[N + 9]? = some (.box (.exc (10)) [q])
theorem Er.app {h l : DH} {m N : Nat} {p q : Wv} (E : Er h m N p q) : Er (h ++ l) m N p q := ⟨get_app E.b, get_app E.e0, get_app E.e1, get_app E.e2, get_app E.e3, get_app E.e4, get_app E.e5, get_app E.e6, get_app E.e7, get_app E.e8, get_app E.e9⟩
theorem get_ne {h : DH} {n m : Nat} {k : Bk} {ws : List Wv} {xs : List Dv} {u : DO} (e : h[n]? = some (.box k ws)) (d : h[m]? = some (.lst xs)) : (h.set m u)[n]? = some (.box k ws) := get_set e fun z => by rw [z, e] at d; cases d
theorem Er.set {h : DH} {n m N : Nat} {p q : Wv} {xs : List Dv} {u : DO} (E : Er h m N p q) (d : h[n]? = some (.lst xs)) : Er (h.set n u) m N p q := ⟨get_ne E.b d, get_ne E.e0 d, get_ne E.e1 d, get_ne E.e2 d, get_ne E.e3 d, get_ne E.e4 d, get_ne E.e5 d, get_ne E.e6 d, get_ne E.e7 d, get_ne E.e8 d, get_ne E.e9 d⟩
theorem errs5 {h : DH} {ds : DS} {p q : Wv} (d3 : ds[3]? = some (some p)) (d4 : ds[4]? = some (some q)) : ∃ l, xErrs ds h = .ok (.r (h.length + 10)) (h ++ l) ∧ Er (h ++ l) (h.length + 10) h.length p q := by
  refine ⟨[.box (.exc (1)) [q], .box (.exc (2)) [q], .box (.exc (3)) [q, p], .box (.exc (4)) [q], .box (.exc (5)) [q], .box (.exc (6)) [], .box (.exc (7)) [], .box (.exc (8)) [q], .box (.exc (9)) [q], .box (.exc (10)) [q], .box .lst [.r h.length, .r (h.length + 1), .r (h.length + 2), .r (h.length + 3), .r (h.length + 4), .r (h.length + 5), .r (h.length + 6), .r (h.length + 7), .r (h.length + 8), .r (h.length + 9)]], ?_, ?_⟩
  · unfold xErrs
    simp [eBx, eCons, eNil, b1, b2, eV, d3, d4, xcR, xcR2, eXc0, bxR, List.append_assoc]
  · exact ⟨by rw [get_at]; rfl, by rw [get_at0]; rfl, by rw [get_at]; rfl, by rw [get_at]; rfl, by rw [get_at]; rfl, by rw [get_at]; rfl, by rw [get_at]; rfl, by rw [get_at]; rfl, by rw [get_at]; rfl, by rw [get_at]; rfl, by rw [get_at]; rfl⟩
abbrev xFld (i : Int) (t : List (Nat × Nat)) : DS → DH → Rs Wv := b1 (b2 (eV 5) (eC (.int i)) opIxB) (opXfB t)
def xFound : DS → DH → Rs Wv := eBx .lst (eCons (xFld 0 [(1, 0)]) (eCons (xFld 1 [(2, 0)]) (eCons (xFld 2 [(3, 0), (9, 0), (10, 0)]) (eCons (xFld 3 [(4, 0)]) (eCons (xFld 4 [(5, 0)]) (eCons (xFld 7 [(8, 0)]) (eCons (xFld 8 [(3, 0), (9, 0), (10, 0)]) (eCons (xFld 9 [(3, 0), (9, 0), (10, 0)]) (eNil)))))))))
theorem fld5 {h : DH} {ds : DS} {m k c j : Nat} {i : Int} {ws us : List Wv} {w : Wv} {t : List (Nat × Nat)} (d5 : ds[5]? = some (some (.r m))) (hb : h[m]? = some (.box .lst us)) (ha : atI us i = some (.r k)) (hk : h[k]? = some (.box (.exc c) ws)) (ht : t.lookup c = some j) (hw : ws[j]? = some w) : xFld i t ds h = .ok w h := by
  simp only [xFld, b1, b2, eV, d5, eC, opIxB, bxL, hb, ha, opXfB, bxX, hk, ht, hw]
theorem found5 {h : DH} {ds : DS} {m N : Nat} {p q : Wv} (d5 : ds[5]? = some (some (.r m))) (E : Er h m N p q) : xFound ds h = .ok (.r h.length) (h ++ [.box .lst [q, q, q, q, q, q, q, q]]) := by
  have f0 := fld5 (t := [(1, 0)]) (i := 0) d5 E.b rfl E.e0 rfl rfl
  have f1 := fld5 (t := [(2, 0)]) (i := 1) d5 E.b rfl E.e1 rfl rfl
  have f2 := fld5 (t := [(3, 0), (9, 0), (10, 0)]) (i := 2) d5 E.b rfl E.e2 rfl rfl
  have f3 := fld5 (t := [(4, 0)]) (i := 3) d5 E.b rfl E.e3 rfl rfl
  have f4 := fld5 (t := [(5, 0)]) (i := 4) d5 E.b rfl E.e4 rfl rfl
  have f7 := fld5 (t := [(8, 0)]) (i := 7) d5 E.b rfl E.e7 rfl rfl
  have f8 := fld5 (t := [(3, 0), (9, 0), (10, 0)]) (i := 8) d5 E.b rfl E.e8 rfl rfl
  have f9 := fld5 (t := [(3, 0), (9, 0), (10, 0)]) (i := 9) d5 E.b rfl E.e9 rfl rfl
  unfold xFound eBx b1
  simp only [eCons, b2, f0, f1, f2, f3, f4, f7, f8, f9, eNil, bxR, List.length_cons, List.length_nil, Nat.reduceAdd, Nat.reduceLeDiff, if_true]
/-! what is told of q -/
def Sn (q : Wv) (h : DH) (x : Dv) : Prop := q = .d x ∨ ∃ n xs, q = .r n ∧ h[n]? = some (.lst xs) ∧ x = .lst xs
theorem Sn.app {q : Wv} {h l : DH} {x : Dv} (s : Sn q h x) : Sn q (h ++ l) x := by
  rcases s with z | ⟨n, xs, z, e, z2⟩
  · exact .inl z
  · exact .inr ⟨n, xs, z, get_app e, z2⟩
theorem Sn.no {q : Wv} {h : DH} {x : Dv} (s : Sn q h x) : bxL q h = none ∧ frzW q h = some x := by
  rcases s with rfl | ⟨n, xs, rfl, e, rfl⟩
  · exact ⟨rfl, rfl⟩
  · exact ⟨by simp only [bxL, e], by simp only [frzW, e, DO.frz]⟩
theorem Sn.rep {q : Wv} {h : DH} {x : Dv} {t : Str} (s : Sn q h x) (ht : reprD x = some t) : fReprB [q] h = .ok (.d (.str t)) h := by
  simp only [fReprB, snapB, s.no.1, s.no.2, ht]
theorem rep8 {q : Wv} {h : DH} {x : Dv} {t : Str} {f : Nat} (s : Sn q h x) (hf : h[f]? = some (.box .lst [q, q, q, q, q, q, q, q])) (ht : reprD (r8 x) = some t) : fReprB [.r f] h = .ok (.d (.str t)) h := by
  have z := s.no.2
  simp only [fReprB, snapB, bxL, hf, snapL, z, show Dv.lst [x, x, x, x, x, x, x, x] = r8 x from rfl, ht]
abbrev xMul : DS → DH → Rs Wv := b2 (eBx .lst (eCons (eV 4) (eNil))) (eC (.int 8)) opMulB
theorem mul5 {h : DH} {ds : DS} {q : Wv} (d4 : ds[4]? = some (some q)) : ∃ l, xMul ds h = .ok (.r (h.length + 1)) (h ++ l) ∧ (h ++ l)[h.length + 1]? = some (.box .lst [q, q, q, q, q, q, q, q]) := by
  refine ⟨[.box .lst [q], .box .lst [q, q, q, q, q, q, q, q]], ?_, by rw [get_at]; rfl⟩
  have e : bxL (.r h.length) (h ++ [DO.box .lst [q]]) = some [q] := by simp only [bxL, get_at0, List.getElem?_cons_zero]
  simp only [xMul, b2, eBx, b1, eCons, eNil, eV, d4, eC, bxR, List.length_cons, List.length_nil, Nat.reduceAdd, Nat.reduceLeDiff, if_true, opMulB, e, List.append_assoc, List.cons_append, List.nil_append, List.length_append]
  rfl
theorem one_ok {f : DS → DH → Rs Wv} {ds : DS} {h h1 : DH} {a : Wv} (e : f ds h = .ok a h1) : eCons f eNil ds h = .ok [a] h1 := by simp only [eCons, b2, e, eNil]
theorem two_ok {f g : DS → DH → Rs Wv} {ds : DS} {h h1 h2 : DH} {a b : Wv} (e : f ds h = .ok a h1) (e2 : g ds h1 = .ok b h2) : eCons f (eCons g eNil) ds h = .ok [a, b] h2 := by simp only [eCons, b2, e, e2, eNil]
theorem b1_ok {α β : Type} {f : DS → DH → Rs α} {F : α → DH → Rs β} {ds : DS} {h h1 : DH} {a : α} {r : Rs β} (e : f ds h = .ok a h1) (k : F a h1 = r) : b1 f F ds h = r := by simp only [b1, e, k]
theorem v_ok {ds : DS} {h : DH} {i : Nat} {w : Wv} (d : ds[i]? = some (some w)) : eV i ds h = .ok w h := by simp only [eV, d]
theorem rp_ok {f : DS → DH → Rs Wv} {ds : DS} {h h1 : DH} {a : Wv} {r : Rs Wv} (e : f ds h = .ok a h1) (k : fReprB [a] h1 = r) : b1 (eCons f eNil) fReprB ds h = r := b1_ok (one_ok e) k
theorem ne_ok {f g : DS → DH → Rs Wv} {ds : DS} {h h1 h2 : DH} {t : Str} (e : f ds h = .ok (.d (.str t)) h1) (e2 : g ds h1 = .ok (.d (.str t)) h2) : b2 f g opNe ds h = .ok false h2 := by
  simp only [b2, e, e2, k_neS, decide_true, Bool.not_true]
def tA : DS → DH → Rs Bool := b2 (b1 (eCons (eV 6) (eNil)) fReprB) (b1 (eCons xMul (eNil)) fReprB) opNe
theorem tA5 {h : DH} {ds : DS} {q : Wv} {x : Dv} {t : Str} {f : Nat} (d4 : ds[4]? = some (some q)) (d6 : ds[6]? = some (some (.r f))) (s : Sn q h x) (hf : h[f]? = some (.box .lst [q, q, q, q, q, q, q, q])) (ht : reprD (r8 x) = some t) : ∃ l, tA ds h = .ok false (h ++ l) := by
  obtain ⟨l, e, g⟩ := mul5 (h := h) d4
  refine ⟨l, ?_⟩
  have e1 := rep8 s hf ht
  have e2 := rep8 (s.app (l := l)) g ht
  exact ne_ok (rp_ok (v_ok d6) e1) (rp_ok e e2)
def tB : DS → DH → Rs Bool := b2 (b1 (eCons (xFld 2 [(3, 1)]) (eNil)) fReprB) (b1 (eCons (eV 3) (eNil)) fReprB) opNe
theorem tB5 {h : DH} {ds : DS} {p q : Wv} {x : Dv} {t : Str} {m N : Nat} (d3 : ds[3]? = some (some p)) (d5 : ds[5]? = some (some (.r m))) (E : Er h m N p q) (s : Sn p h x) (ht : reprD x = some t) : tB ds h = .ok false h := by
  have f2 := fld5 (t := [(3, 1)]) (i := 2) d5 E.b rfl E.e2 rfl rfl
  have e := s.rep ht
  exact ne_ok (rp_ok f2 e) (rp_ok (v_ok d3) e)
abbrev xBad : DS → DH → Rs Wv := b1 (eCons (eV 4) (eCons (eV 3) (eNil))) (xcR2 3)
theorem bad5 {h : DH} {ds : DS} {p q : Wv} (d3 : ds[3]? = some (some p)) (d4 : ds[4]? = some (some q)) : xBad ds h = .ok (.r h.length) (h ++ [.box (.exc (3)) [p, q]]) := by
  exact b1_ok (two_ok (v_ok d4) (v_ok d3)) rfl
def tC5 : DS → DH → Rs Bool := b2 (b1 (eCons (b1 xBad (opXfB [(3, 1)])) (eNil)) fReprB) (b1 (eCons (eV 4) (eNil)) fReprB) opNe
theorem xf5 {h : DH} {k : Nat} {p q : Wv} (hk : h[k]? = some (.box (.exc (3)) [p, q])) : opXfB [(3, 1)] (.r k) h = .ok q h := by
  simp only [opXfB, bxX, hk]
  rfl
theorem tC5_ok {h : DH} {ds : DS} {p q : Wv} {x : Dv} {t : Str} (d3 : ds[3]? = some (some p)) (d4 : ds[4]? = some (some q)) (s : Sn q h x) (ht : reprD x = some t) : ∃ l, tC5 ds h = .ok false (h ++ l) := by
  refine ⟨[.box (.exc (3)) [p, q]], ?_⟩
  have e := (s.app (l := [.box (.exc (3)) [p, q]])).rep ht
  have f := xf5 (h := h ++ [.box (.exc (3)) [p, q]]) (k := h.length) (p := p) (q := q) (by rw [get_at0]; rfl)
  have z := bad5 (h := h) d3 d4
  exact ne_ok (rp_ok (b1_ok z f) e) (rp_ok (v_ok d4) e)
def tD5 : DS → DH → Rs Bool := b2 (b1 (eCons (b1 (eV 7) (opXfB [(3, 1)])) (eNil)) fReprB) (b1 (eCons (eV 4) (eNil)) fReprB) opNe
theorem tD5_ok {h : DH} {ds : DS} {p q : Wv} {x : Dv} {t : Str} {k : Nat} (d4 : ds[4]? = some (some q)) (d7 : ds[7]? = some (some (.r k))) (hk : h[k]? = some (.box (.exc (3)) [p, q])) (s : Sn q h x) (ht : reprD x = some t) : tD5 ds h = .ok false h := by
  have e := s.rep ht
  have f := xf5 hk
  exact ne_ok (rp_ok (b1_ok (v_ok d7) f) e) (rp_ok (v_ok d4) e)
abbrev sNo : Sm := sRt (eC (.bl false))
abbrev sApp (i : Int) : Sm := sEx (bM cLst (eV 4) (eCons (eC (.int i)) (eNil)) mAppend)
theorem app5 {h : DH} {ds : DS} {n : Nat} {xs : List Dv} {i : Int} (d4 : ds[4]? = some (some (.r n))) (e : h[n]? = some (.lst xs)) (hl : xs.length < 1000000) : sApp i ds h = .nx ds (h.set n (.lst (xs ++ [.int i]))) := by
  simp only [sApp, sEx, bM, eV, d4, k_cL e, if_true, eCons, b2, eNil, eC, mAppend, e, hl]
def sL5 : Sm := sSeq (sApp 7) (sSeq (sSet 6 xFound) (sSeq (sIf (eOr tA tC5) sNo sNx) (sSeq (sSet 7 xBad) (sSeq (sApp 8) (sIf tD5 sNo sNx)))))
theorem if_no {c : DS → DH → Rs Bool} {F K : Sm} {ds : DS} {h h1 : DH} {r : So} (e : c ds h = .ok false h1) (k : K ds h1 = r) : sIf c F K ds h = r := by simp only [sIf, e, Bool.false_eq_true, if_false, k]
theorem if_yes {c : DS → DH → Rs Bool} {F K : Sm} {ds : DS} {h h1 : DH} {r : So} (e : c ds h = .ok true h1) (k : F ds h1 = r) : sIf c F K ds h = r := by simp only [sIf, e, if_true, k]
theorem seq_ok {F K : Sm} {ds ds1 : DS} {h h1 : DH} {r : So} (e : F ds h = .nx ds1 h1) (k : K ds1 h1 = r) : sSeq F K ds h = r := by simp only [sSeq, e, k]
theorem set_ok {f : DS → DH → Rs Wv} {i : Nat} {ds : DS} {h h1 : DH} {w : Wv} (e : f ds h = .ok w h1) : sSet i f ds h = .nx (ds.set i (some w)) h1 := by simp only [sSet, sTo, e, gV]
theorem or_ok {t u : DS → DH → Rs Bool} {ds : DS} {h h1 h2 : DH} (e : t ds h = .ok false h1) (e2 : u ds h1 = .ok false h2) : eOr t u ds h = .ok false h2 := by
  simp only [eOr, e, e2, Bool.false_eq_true, if_false]
/-- a frame of law -/
def Fr (ds : DS) (p q : Wv) (m : Nat) : Prop := ds.length = 13 ∧ ds[1]? = some (some (.r 0)) ∧ ds[3]? = some (some p) ∧ ds[4]? = some (some q) ∧ ds[5]? = some (some (.r m))
theorem Fr.set {ds : DS} {p q : Wv} {m i : Nat} {u : Option Wv} (f : Fr ds p q m) (hi : 5 < i) : Fr (ds.set i u) p q m := by
  obtain ⟨f0, f1, f2, f3, f4⟩ := f
  exact ⟨by rw [List.length_set]; exact f0, by rw [List.getElem?_set_ne (by omega)]; exact f1, by rw [List.getElem?_set_ne (by omega)]; exact f2, by rw [List.getElem?_set_ne (by omega)]; exact f3, by rw [List.getElem?_set_ne (by omega)]; exact f4⟩
theorem get_upd {ds : DS} {i : Nat} {u : Option Wv} (h : i < ds.length) : (ds.set i u)[i]? = some u := List.getElem?_set_self h
theorem list5 {rst h : DH} {ds : DS} {p : Dv} {n m N : Nat} {xs : List Dv} (f : Fr ds (.d p) (.r (n + 1)) m) (b : Bg rst h) (e : rst[n]? = some (.lst xs)) (hq : xs ∈ q5) (E : Er h m N (.d p) (.r (n + 1))) :
    ∃ ds' h' rst', sL5 ds h = .nx ds' h' ∧ Fr ds' (.d p) (.r (n + 1)) m ∧ Bg rst' h' ∧ Er h' m N (.d p) (.r (n + 1)) := by
  obtain ⟨⟨_, k2⟩, ⟨k3, k4⟩, k5⟩ := show_q xs hq
  obtain ⟨t2, k2⟩ := Option.isSome_iff_exists.mp k2
  obtain ⟨t3, k3⟩ := Option.isSome_iff_exists.mp k3
  obtain ⟨t4, k4⟩ := Option.isSome_iff_exists.mp k4
  have eh : h[n + 1]? = some (.lst xs) := by rw [bg_get b]; exact e
  have a1 := app5 (i := 7) f.2.2.2.1 eh (by omega)
  have b1' := bg_set (n := n) (u := .lst (xs ++ [.int 7])) b
  have E1 := E.set (u := .lst (xs ++ [.int 7])) eh
  have lt : n + 1 < h.length := (List.getElem?_eq_some_iff.mp eh).1
  have eh1 : (h.set (n + 1) (.lst (xs ++ [.int 7])))[n + 1]? = some (.lst (xs ++ [.int 7])) := List.getElem?_set_self lt
  generalize h.set (n + 1) (.lst (xs ++ [.int 7])) = h1 at a1 b1' E1 eh1
  have a2 := found5 f.2.2.2.2 E1
  have f2 := f.set (i := 6) (u := some (.r h1.length)) (by decide)
  have s1 : Sn (.r (n + 1)) (h1 ++ [.box .lst [.r (n + 1), .r (n + 1), .r (n + 1), .r (n + 1), .r (n + 1), .r (n + 1), .r (n + 1), .r (n + 1)]]) (.lst (xs ++ [.int 7])) := .inr ⟨_, _, rfl, get_app eh1, rfl⟩
  obtain ⟨l3, a3⟩ := tA5 f2.2.2.2.1 (get_upd (by rw [f.1]; decide)) s1 (by rw [get_at0]; rfl) k2
  obtain ⟨l4, a4⟩ := tC5_ok (h := (h1 ++ [DO.box .lst [.r (n + 1), .r (n + 1), .r (n + 1), .r (n + 1), .r (n + 1), .r (n + 1), .r (n + 1), .r (n + 1)]]) ++ l3) f2.2.2.1 f2.2.2.2.1 s1.app k3
  have a5 := bad5 (h := (h1 ++ [DO.box .lst [.r (n + 1), .r (n + 1), .r (n + 1), .r (n + 1), .r (n + 1), .r (n + 1), .r (n + 1), .r (n + 1)]]) ++ l3 ++ l4) f2.2.2.1 f2.2.2.2.1
  have ap : ∃ l, (h1 ++ [DO.box .lst [.r (n + 1), .r (n + 1), .r (n + 1), .r (n + 1), .r (n + 1), .r (n + 1), .r (n + 1), .r (n + 1)]]) ++ l3 ++ l4 = h1 ++ l := ⟨_, by rw [List.append_assoc, List.append_assoc]⟩
  obtain ⟨l5, ap⟩ := ap
  rw [ap] at a4 a5
  have f5 := f2.set (i := 7) (u := some (.r (h1 ++ l5).length)) (by decide)
  have eh5 : ((h1 ++ l5) ++ [DO.box (.exc (3)) [.d p, .r (n + 1)]])[n + 1]? = some (.lst (xs ++ [.int 7])) := get_app (get_app eh1)
  have g5 : ((h1 ++ l5) ++ [DO.box (.exc (3)) [.d p, .r (n + 1)]])[(h1 ++ l5).length]? = some (.box (.exc (3)) [.d p, .r (n + 1)]) := by rw [get_at0]; rfl
  have E5 := (E1.app (l := l5)).app (l := [DO.box (.exc (3)) [.d p, .r (n + 1)]])
  have b5' := bg_app (l := [DO.box (.exc (3)) [.d p, .r (n + 1)]]) (bg_app (l := l5) b1')
  generalize hh5 : (h1 ++ l5) ++ [DO.box (.exc (3)) [.d p, .r (n + 1)]] = h5 at a5 eh5 g5 E5 b5'
  have a6 := app5 (i := 8) f5.2.2.2.1 eh5 (by rw [List.length_append]; simp; omega)
  have lt5 : n + 1 < h5.length := (List.getElem?_eq_some_iff.mp eh5).1
  have s6 : Sn (.r (n + 1)) (h5.set (n + 1) (.lst ((xs ++ [.int 7]) ++ [.int 8]))) (.lst ((xs ++ [.int 7]) ++ [.int 8])) := .inr ⟨_, _, rfl, List.getElem?_set_self lt5, rfl⟩
  have a7 := tD5_ok (p := .d p) f5.2.2.2.1 (get_upd (by rw [f2.1]; decide)) (get_ne (u := .lst ((xs ++ [.int 7]) ++ [.int 8])) g5 eh5) s6 k4
  refine ⟨_, _, _, ?_, f5, bg_set (u := .lst ((xs ++ [.int 7]) ++ [.int 8])) b5', E5.set eh5⟩
  exact seq_ok a1 (seq_ok (set_ok a2) (seq_ok (if_no (or_ok a3 a4) rfl) (seq_ok (set_ok a5) (seq_ok a6 (if_no a7 rfl)))))
theorem len13 {ds : DS} (h : ds.length = 13) : ∃ a0 a1 a2 a3 a4 a5 a6 a7 a8 a9 a10 a11 a12, ds = [a0, a1, a2, a3, a4, a5, a6, a7, a8, a9, a10, a11, a12] := by
  rcases ds with _ | ⟨a0, ds⟩
  · simp at h
  rcases ds with _ | ⟨a1, ds⟩
  · simp at h
  rcases ds with _ | ⟨a2, ds⟩
  · simp at h
  rcases ds with _ | ⟨a3, ds⟩
  · simp at h
  rcases ds with _ | ⟨a4, ds⟩
  · simp at h
  rcases ds with _ | ⟨a5, ds⟩
  · simp at h
  rcases ds with _ | ⟨a6, ds⟩
  · simp at h
  rcases ds with _ | ⟨a7, ds⟩
  · simp at h
  rcases ds with _ | ⟨a8, ds⟩
  · simp at h
  rcases ds with _ | ⟨a9, ds⟩
  · simp at h
  rcases ds with _ | ⟨a10, ds⟩
  · simp at h
  rcases ds with _ | ⟨a11, ds⟩
  · simp at h
  rcases ds with _ | ⟨a12, ds⟩
  · simp at h
  rcases ds with _ | ⟨b, ds⟩
  · exact ⟨_, _, _, _, _, _, _, _, _, _, _, _, _, rfl⟩
  · simp at h
/-! every error is of its own class, and of those that these derive from -/
def due5 (i : Nat) : List Dv := ((List.range 10).map fun j => Dv.bl (decide (j = i))) ++ [.bl (decide (i < 8)), .bl (decide (i < 8)), .bl (!decide (i < 8)), .bl false, .bl false]
theorem sorts5 {h : DH} {k i : Nat} {ws : List Wv} (hi : i < 10) (hk : h[k]? = some (.box (.exc (i + 1)) ws)) : d__law_sorts [.r k] h = .ok (.d (.lst (due5 i))) h := by
  have z : i = 0 ∨ i = 1 ∨ i = 2 ∨ i = 3 ∨ i = 4 ∨ i = 5 ∨ i = 6 ∨ i = 7 ∨ i = 8 ∨ i = 9 := by omega
  unfold d__law_sorts defD b__law_sorts
  rcases z with rfl | rfl | rfl | rfl | rfl | rfl | rfl | rfl | rfl | rfl <;>
    (simp [sSeq, sSet, sTo, gV, eFz, b1, eLst, eCons, b2, eNil, eV, opXiB, bxX, hk, lstR, allD, fzR, DO.frz, opAddZ, lst1Of, lstOf, sRt]; rfl)
abbrev x11 : DS → DH → Rs Wv := b2 (eFz (eLc (b1 (eC (.int 10)) itRa) [12] (gV 12) (tYes') (b2 (eV 12) (eV 8) (fun x y h => toV (opEq x y h))))) (eFz (eLst (eCons (eV 10) (eCons (eV 10) (eCons (eNotV (eV 10)) (eCons (eC (.bl false)) (eCons (eC (.bl false)) (eNil)))))))) opAddZ
def sIt5 : Sm := sSeq (sSet 10 (b2 (eV 8) (eC (.int 8)) (fun x y h => toV ((cI fun i j => decide (i < j)) x y h)))) (sSeq (sSet 11 x11) (sIf (b2 (b1 (eCons (eV 9) (eNil)) d__law_sorts) (eV 11) opNe) sNo sNx))
theorem ne_due : ∀ i, i < 10 → ∀ h, opNe (.d (.lst (due5 i))) (.d (.lst (due5 i))) h = .ok false h := fun i hi h => by
  have z : i = 0 ∨ i = 1 ∨ i = 2 ∨ i = 3 ∨ i = 4 ∨ i = 5 ∨ i = 6 ∨ i = 7 ∨ i = 8 ∨ i = 9 := by omega
  rcases z with rfl | rfl | rfl | rfl | rfl | rfl | rfl | rfl | rfl | rfl <;> rfl
theorem it5 {h : DH} {ds : DS} {p q : Wv} {m k i : Nat} {ws : List Wv} (f : Fr ds p q m) (hi : i < 10) (hk : h[k]? = some (.box (.exc (i + 1)) ws)) : ∃ ds1 ds2, gPair 8 9 (i, .r k) ds h = .nx ds1 h ∧ sIt5 ds1 h = .nx ds2 h ∧ Fr ds2 p q m := by
  have f1 := (f.set (i := 8) (u := some (.d (.int (i : Nat)))) (by decide)).set (i := 9) (u := some (.r k)) (by decide)
  have f2 := (f1.set (i := 10) (u := some (.d (.bl (decide (i < 8))))) (by decide)).set (i := 11) (u := some (.d (.lst (due5 i)))) (by decide)
  refine ⟨_, _, rfl, ?_, f2⟩
  have es := sorts5 hi hk
  have en := ne_due i hi h
  have z : i = 0 ∨ i = 1 ∨ i = 2 ∨ i = 3 ∨ i = 4 ∨ i = 5 ∨ i = 6 ∨ i = 7 ∨ i = 8 ∨ i = 9 := by omega
  obtain ⟨a0, a1, a2, a3, a4, a5, a6, a7, a8, a9, a10, a11, a12, rfl⟩ := len13 f.1
  have fin : ∀ {ds : DS}, ds[9]? = some (some (.r k)) → ds[11]? = some (some (.d (.lst (due5 i)))) → b2 (b1 (eCons (eV 9) (eNil)) d__law_sorts) (eV 11) opNe ds h = .ok false h := fun {ds} g1 g2 => by
    simp only [b2, b1, eCons, eNil, eV, g1, g2, es, en]
  unfold sIt5
  rcases z with rfl | rfl | rfl | rfl | rfl | rfl | rfl | rfl | rfl | rfl <;>
    exact seq_ok (set_ok rfl) (seq_ok (set_ok rfl) (if_no (fin rfl rfl) rfl))
theorem go_cons {α : Type} {g : α → Sm} {F : Sm} {x : α} {r : List α} {ds ds1 ds2 : DS} {h h1 h2 : DH} {res : So} (e1 : g x ds h = .nx ds1 h1) (e2 : F ds1 h1 = .nx ds2 h2) (k : forGoA g F r ds2 h2 = res) : forGoA g F (x :: r) ds h = res := by simp only [forGoA, e1, e2, k]
theorem loop5 {h : DH} {ds : DS} {p q : Wv} {m N : Nat} (f : Fr ds p q m) (E : Er h m N p q) : ∃ ds', sForA (b1 (eCons (eV 5) (eNil)) itEnB) (gPair 8 9) sIt5 ds h = .nx ds' h ∧ Fr ds' p q m := by
  have ei : itEnB [.r m] h = .ok [(0, .r N), (1, .r (N + 1)), (2, .r (N + 2)), (3, .r (N + 3)), (4, .r (N + 4)), (5, .r (N + 5)), (6, .r (N + 6)), (7, .r (N + 7)), (8, .r (N + 8)), (9, .r (N + 9))] h := by
    simp only [itEnB, bxL, E.b]; rfl
  have e5 : b1 (eCons (eV 5) (eNil)) itEnB ds h = .ok [(0, .r N), (1, .r (N + 1)), (2, .r (N + 2)), (3, .r (N + 3)), (4, .r (N + 4)), (5, .r (N + 5)), (6, .r (N + 6)), (7, .r (N + 7)), (8, .r (N + 8)), (9, .r (N + 9))] h := b1_ok (one_ok (v_ok f.2.2.2.2)) ei
  obtain ⟨_, d0, p0, q0, f⟩ := it5 f (by decide) E.e0
  obtain ⟨_, d1, p1, q1, f⟩ := it5 f (by decide) E.e1
  obtain ⟨_, d2, p2, q2, f⟩ := it5 f (by decide) E.e2
  obtain ⟨_, d3, p3, q3, f⟩ := it5 f (by decide) E.e3
  obtain ⟨_, d4, p4, q4, f⟩ := it5 f (by decide) E.e4
  obtain ⟨_, d5, p5, q5, f⟩ := it5 f (by decide) E.e5
  obtain ⟨_, d6, p6, q6, f⟩ := it5 f (by decide) E.e6
  obtain ⟨_, d7, p7, q7, f⟩ := it5 f (by decide) E.e7
  obtain ⟨_, d8, p8, q8, f⟩ := it5 f (by decide) E.e8
  obtain ⟨_, d9, p9, q9, f⟩ := it5 f (by decide) E.e9
  refine ⟨d9, ?_, f⟩
  simp only [sForA, e5]
  exact go_cons p0 q0 (go_cons p1 q1 (go_cons p2 q2 (go_cons p3 q3 (go_cons p4 q4 (go_cons p5 q5 (go_cons p6 q6 (go_cons p7 q7 (go_cons p8 q8 (go_cons p9 q9 rfl)))))))))
def sTurn5 : Sm := sSeq (sPar 3 4 xPQ) (sSeq (sSet 5 xErrs) (sSeq (sSet 6 xFound) (sSeq (sIf (eOr tA tB) sNo sNx) (sSeq (sIf (eT (b1 (eV 4) (isT .list))) sL5 sNx) (sForA (b1 (eCons (eV 5) (eNil)) itEnB) (gPair 8 9) sIt5)))))
theorem turn5 {rst h : DH} {ds : DS} (hl : ds.length = 13) (d1 : ds[1]? = some (some (.r 0))) (b : Bg rst h) : ∃ ds' h' rst', sTurn5 ds h = .nx ds' h' ∧ ds'.length = 13 ∧ ds'[1]? = some (some (.r 0)) ∧ Bg rst' h' := by
  obtain ⟨x, q, h1, r1, e1, b1', hx, hq⟩ := pq5 d1 b
  have ep : sPar 3 4 xPQ ds h = .nx ((ds.set 3 (some (.d x))).set 4 (some q)) h1 := by simp only [sPar, e1]
  have g3 : ((ds.set 3 (some (.d x))).set 4 (some q))[3]? = some (some (.d x)) := by rw [List.getElem?_set_ne (by decide)]; exact get_upd (by rw [hl]; decide)
  have g4 : ((ds.set 3 (some (.d x))).set 4 (some q))[4]? = some (some q) := get_upd (by rw [List.length_set, hl]; decide)
  have g1 : ((ds.set 3 (some (.d x))).set 4 (some q))[1]? = some (some (.r 0)) := by rw [List.getElem?_set_ne (by decide), List.getElem?_set_ne (by decide)]; exact d1
  have gl : ((ds.set 3 (some (.d x))).set 4 (some q)).length = 13 := by rw [List.length_set, List.length_set]; exact hl
  generalize (ds.set 3 (some (.d x))).set 4 (some q) = ds1 at ep g3 g4 g1 gl
  obtain ⟨l2, e2, E⟩ := errs5 (h := h1) g3 g4
  have f : Fr (ds1.set 5 (some (.r (h1.length + 10)))) (.d x) q (h1.length + 10) := ⟨by rw [List.length_set]; exact gl, by rw [List.getElem?_set_ne (by decide)]; exact g1, by rw [List.getElem?_set_ne (by decide)]; exact g3, by rw [List.getElem?_set_ne (by decide)]; exact g4, get_upd (by rw [gl]; decide)⟩
  have b2' := bg_app (l := l2) b1'
  have e3 := found5 f.2.2.2.2 E
  have f3 := f.set (i := 6) (u := some (.r (h1 ++ l2).length)) (by decide)
  have b3' := bg_app (l := [.box .lst [q, q, q, q, q, q, q, q]]) b2'
  have E3 := E.app (l := [.box .lst [q, q, q, q, q, q, q, q]])
  have gf : ((h1 ++ l2) ++ [DO.box .lst [q, q, q, q, q, q, q, q]])[(h1 ++ l2).length]? = some (.box .lst [q, q, q, q, q, q, q, q]) := by rw [get_at0]; rfl
  -- what is told of q
  have sq : ∃ y t, Sn q ((h1 ++ l2) ++ [DO.box .lst [q, q, q, q, q, q, q, q]]) y ∧ reprD (r8 y) = some t := by
    rcases hq with ⟨y, rfl, hy⟩ | ⟨n, xs, rfl, en, hy⟩
    · obtain ⟨t, ht⟩ := Option.isSome_iff_exists.mp (show_k y hy).1
      exact ⟨y, t, .inl rfl, ht⟩
    · obtain ⟨t, ht⟩ := Option.isSome_iff_exists.mp (show_q xs hy).1.1
      exact ⟨.lst xs, t, .inr ⟨n + 1, xs, rfl, get_app (get_app (by rw [bg_get b1']; exact en)), rfl⟩, ht⟩
  obtain ⟨y, t, sq, ht⟩ := sq
  obtain ⟨tp, htp⟩ := Option.isSome_iff_exists.mp (show_p x hx)
  obtain ⟨l4, e4⟩ := tA5 f3.2.2.2.1 (get_upd (by rw [f.1]; decide)) sq gf ht
  have E4 := E3.app (l := l4)
  have b4' := bg_app (l := l4) b3'
  have e5 := tB5 f3.2.2.1 f3.2.2.2.2 E4 (.inl rfl) htp
  have ap : ∃ l, ((h1 ++ l2) ++ [DO.box .lst [q, q, q, q, q, q, q, q]]) ++ l4 = h1 ++ l ∧ Bg (r1 ++ l) (h1 ++ l) := ⟨l2 ++ ([DO.box .lst [q, q, q, q, q, q, q, q]] ++ l4), by simp only [List.append_assoc], bg_app b1'⟩
  obtain ⟨l, ap, b5'⟩ := ap
  rw [ap] at e4 e5 E4
  -- a list is changed
  have big : ∃ ds' h' rst', sIf (eT (b1 (eV 4) (isT .list))) sL5 sNx ((ds1.set 5 (some (.r (h1.length + 10)))).set 6 (some (.r (h1 ++ l2).length))) (h1 ++ l) = .nx ds' h' ∧ Fr ds' (.d x) q (h1.length + 10) ∧ Bg rst' h' ∧ Er h' (h1.length + 10) h1.length (.d x) q := by
    rcases hq with ⟨y, rfl, hy⟩ | ⟨n, xs, rfl, en, hy⟩
    · obtain ⟨_, k2, k3⟩ := show_k y hy
      have ty : tyN (.d y) (h1 ++ l) = tyN (.d y) [] := by cases y <;> rfl
      refine ⟨_, _, _, if_no ?_ rfl, f3, b5', E4⟩
      cases q : tyN (.d y) [] with
      | none => exact absurd q k2
      | some s =>
        have ne : s ≠ "list" := fun z => k3 (by rw [q, z])
        have er : isT .list (.d y) (h1 ++ l) = .ok (.d (.bl false)) (h1 ++ l) := k_isT (ty.trans q) (by simpa [isK, Ty.name] using ne)
        simp only [eT, b1, v_ok f3.2.2.2.1, er, vT]
    · have en' : (r1 ++ l)[n]? = some (.lst xs) := get_app en
      obtain ⟨ds', h', rst', e6, f6, b6, E6⟩ := list5 f3 b5' en' hy E4
      refine ⟨ds', h', rst', if_yes ?_ e6, f6, b6, E6⟩
      have er : isT .list (.r (n + 1)) (h1 ++ l) = .ok (.d (.bl true)) (h1 ++ l) := k_isT (s := "list") (by simp only [tyN, bg_get b5', en']) (by decide)
      simp only [eT, b1, v_ok f3.2.2.2.1, er, vT]
  obtain ⟨ds6, h6, r6, e6, f6, b6, E6⟩ := big
  obtain ⟨ds7, e7, f7⟩ := loop5 f6 E6
  exact ⟨ds7, h6, r6, seq_ok ep (seq_ok (set_ok e2) (seq_ok (set_ok e3) (seq_ok (if_no (or_ok e4 e5) rfl) (seq_ok e6 e7)))), f7.1, f7.2.1, b6⟩
theorem bounds5 : ∃ t, reprD (.lst [.int 12, .int 20, .int 12, .int 1000000000000, .int 6]) = some t := Option.isSome_iff_exists.mp (by decide +kernel)
theorem law_eq : b_law = sSeq (sSet 1 (b1 (eCons (eV 0) (eNil)) d__law_bag)) (sSeq (sIf (b2 (b1 (eCons (eFz (eLst (eCons (eC (.int 12)) (eCons (eC (.int 20)) (eCons (eC (.int 12)) (eCons (eC (.int 1000000000000)) (eCons (eC (.int 6)) (eNil)))))))) (eNil)) fReprB) (b1 (eCons (eFz (eLst (eCons (eC (.int 12)) (eCons (eC (.int 20)) (eCons (eC (.int 12)) (eCons (b2 (eC (.int 10)) (eC (.int 12)) opPow) (eCons (eC (.int 6)) (eNil)))))))) (eNil)) fReprB) opNe) (sRt (eC (.bl false))) (sNx)) (sSeq (sFor (b1 (eC (.int 6)) itRa) (gV 2) sTurn5) (sRt (eC (.bl true))))) := rfl
theorem law_true (ns : List Int) (hn : ns.length ≤ 63) : ∃ h', d_law [.d (scrD ns)] [] = .ok (.d (.bl true)) h' := by
  obtain ⟨h0, e0, hb0⟩ := bag_ok ns hn
  obtain ⟨t, ht⟩ := bounds5
  have a1 : sSet 1 (b1 (eCons (eV 0) (eNil)) d__law_bag) [some (.d (scrD ns)), none, none, none, none, none, none, none, none, none, none, none, none] [] = .nx [some (.d (scrD ns)), some (.r 0), none, none, none, none, none, none, none, none, none, none, none] h0 := set_ok (b1_ok (one_ok (v_ok rfl)) e0)
  have r1 : fReprB [.d (.lst [.int 12, .int 20, .int 12, .int 1000000000000, .int 6])] h0 = .ok (.d (.str t)) h0 := Sn.rep (.inl rfl) ht
  have st := forGo_inv (g := gV 2) (F := sTurn5) (fun ds h => ds.length = 13 ∧ ds[1]? = some (some (.r 0)) ∧ ∃ rst, Bg rst h) (xs := rng 0 6) (ds := [some (.d (scrD ns)), some (.r 0), none, none, none, none, none, none, none, none, none, none, none]) (h := h0)
    (fun x _ ds h ⟨i1, i2, rst, i3⟩ => by
      obtain ⟨ds', h', rst', e, j1, j2, j3⟩ := turn5 (ds := ds.set 2 (some (.d x))) (by rw [List.length_set]; exact i1) (by rw [List.getElem?_set_ne (by decide)]; exact i2) i3
      exact ⟨_, _, _, _, rfl, e, j1, j2, _, j3⟩)
    ⟨rfl, rfl, _, hb0⟩
  obtain ⟨ds', h', e, _⟩ := st
  have ef : sFor (b1 (eC (.int 6)) itRa) (gV 2) sTurn5 [some (.d (scrD ns)), some (.r 0), none, none, none, none, none, none, none, none, none, none, none] h0 = .nx ds' h' := by
    simp only [sFor, b1, eC, k_itRa (i := 6) (n := 6) (h := h0) (by decide) rfl, e]
  refine ⟨h', ?_⟩
  unfold d_law defD
  rw [law_eq]
  have z : ∀ {r : So}, r = .rt (.d (.bl true)) h' → (match r with | .nx _ h' => Rs.ok (Wv.d .non) h' | .rt w h' => .ok w h' | .er e _ h' => .er e h' | _ => .bad) = .ok (.d (.bl true)) h' := fun {r} e => by rw [e]
  exact z (seq_ok a1 (seq_ok (if_no (ne_ok (rp_ok rfl r1) (rp_ok rfl r1)) rfl) (seq_ok ef rfl)))
end Kc
namespace Kc
open PySem PySem.Spec PyProof.Rows L2 DL
/-! ### the head -/
def FSs : List (List Str) := [[], ["key"], ["word"], ["number", "line"], ["value"], ["numbers"], [], [], ["limit"], ["number"], ["number"]]
theorem all_mk {l : PySem.W.OpenLaw} {w : World} {K : PySem.W.Frag} {h : Heap} {mg : Str → Option Value} {fa f0 f1 f2 f3 f4 f5 : Addr} {od0 an0 od1 an1 od2 an2 od3 an3 od4 an4 od5 an5 : Option Addr} {sl0 sl1 sl2 sl3 sl4 sl5 : Array (Option Value)} {oc0 kV0 dc0 pm0 cd0 ct0 oc1 kV1 dc1 pm1 cd1 ct1 oc2 kV2 dc2 pm2 cd2 ct2 oc3 kV3 dc3 pm3 cd3 ct3 oc4 kV4 dc4 pm4 cd4 ct4 oc5 kV5 dc5 pm5 cd5 ct5 : Value} {X0 X1 X2 X3 X4 X5 X6 X7 X8 X9 X10 : Addr} {xf1 : Addr} {xod1 xan1 : Option Addr} {xsl1 : Array (Option Value)} {xoc1 xkV1 xdc1 xpm1 xcd1 xct1 : Value} {xN1 : Addr} {xnm1 xq1 : Str} {xbs1 xbm1 xsub1 : List Value} {xsn1 : List Str} {xab1 : Bool} {xcol1 : Option Bool} {xdd1 : Option Addr} {xk01 xk11 xk21 xk31 xk51 : Option Value} {xf2 : Addr} {xod2 xan2 : Option Addr} {xsl2 : Array (Option Value)} {xoc2 xkV2 xdc2 xpm2 xcd2 xct2 : Value} {xN2 : Addr} {xnm2 xq2 : Str} {xbs2 xbm2 xsub2 : List Value} {xsn2 : List Str} {xab2 : Bool} {xcol2 : Option Bool} {xdd2 : Option Addr} {xk02 xk12 xk22 xk32 xk52 : Option Value} {xf3 : Addr} {xod3 xan3 : Option Addr} {xsl3 : Array (Option Value)} {xoc3 xkV3 xdc3 xpm3 xcd3 xct3 : Value} {xN3 : Addr} {xnm3 xq3 : Str} {xbs3 xbm3 xsub3 : List Value} {xsn3 : List Str} {xab3 : Bool} {xcol3 : Option Bool} {xdd3 : Option Addr} {xk03 xk13 xk23 xk33 xk53 : Option Value} {xf4 : Addr} {xod4 xan4 : Option Addr} {xsl4 : Array (Option Value)} {xoc4 xkV4 xdc4 xpm4 xcd4 xct4 : Value} {xN4 : Addr} {xnm4 xq4 : Str} {xbs4 xbm4 xsub4 : List Value} {xsn4 : List Str} {xab4 : Bool} {xcol4 : Option Bool} {xdd4 : Option Addr} {xk04 xk14 xk24 xk34 xk54 : Option Value} {xf5 : Addr} {xod5 xan5 : Option Addr} {xsl5 : Array (Option Value)} {xoc5 xkV5 xdc5 xpm5 xcd5 xct5 : Value} {xN5 : Addr} {xnm5 xq5 : Str} {xbs5 xbm5 xsub5 : List Value} {xsn5 : List Str} {xab5 : Bool} {xcol5 : Option Bool} {xdd5 : Option Addr} {xk05 xk15 xk25 xk35 xk55 : Option Value} {xf8 : Addr} {xod8 xan8 : Option Addr} {xsl8 : Array (Option Value)} {xoc8 xkV8 xdc8 xpm8 xcd8 xct8 : Value} {xN8 : Addr} {xnm8 xq8 : Str} {xbs8 xbm8 xsub8 : List Value} {xsn8 : List Str} {xab8 : Bool} {xcol8 : Option Bool} {xdd8 : Option Addr} {xk08 xk18 xk28 xk38 xk58 : Option Value} {xf9 : Addr} {xod9 xan9 : Option Addr} {xsl9 : Array (Option Value)} {xoc9 xkV9 xdc9 xpm9 xcd9 xct9 : Value} {xN9 : Addr} {xnm9 xq9 : Str} {xbs9 xbm9 xsub9 : List Value} {xsn9 : List Str} {xab9 : Bool} {xcol9 : Option Bool} {xdd9 : Option Addr} {xk09 xk19 xk29 xk39 xk59 : Option Value} {xf10 : Addr} {xod10 xan10 : Option Addr} {xsl10 : Array (Option Value)} {xoc10 xkV10 xdc10 xpm10 xcd10 xct10 : Value} {xN10 : Addr} {xnm10 xq10 : Str} {xbs10 xbm10 xsub10 : List Value} {xsn10 : List Str} {xab10 : Bool} {xcol10 : Option Bool} {xdd10 : Option Addr} {xk010 xk110 xk210 xk310 xk510 : Option Value} {t_MAX_CELLS : Tok} {t_MAX_DEEDS : Tok} {t_MAX_KEYS : Tok} {t_MAX_MODULUS : Tok} {t_MAX_RULED : Tok} (X : K.In h) (G : h.Ns mainGlobals mg) (hfa : mg "law" = some (.ref fa))
    (xm0 : PySem.W.nsIn K mainGlobals "CellError" = some (some (.ref X0)))
    (bg0 : PySem.W.specialIn K (.ref X0) "__getattribute__" = some (some (.builtin "type.__getattribute__")))
    (bt0 : PySem.W.typeIn K (.ref X0) = some (.type "type"))
    (br0 : PySem.W.readsIn K X0 (.type "type") = true)
    (bv0 : PySem.W.findCls K (.ref X0) (.type "type") "__init__" = some (.val (.builtin "ValueError.__init__")))
    (xm1 : PySem.W.nsIn K mainGlobals "BadKey" = some (some (.ref X1)))
    (xo1 : K.lookup X1 = some (excClassObj xnm1 xq1 X1 xN1 xbs1 xbm1 true xsn1 xsub1 xab1 xcol1 xdd1 xk01 xk11 xk21 xk31 xk51 "ValueError.__new__"))
    (xr1 : PySem.HandSPX.refsVE xbm1 = true)
    (xs1 : PySem.W.findIn K (.ref X1) "__setattr__" = some (some (.builtin "object.__setattr__")))
    (xe1 : PySem.W.subIn K (.ref X1) (.type "BaseException") = some true)
    (xt1 : PySem.W.typeIn K (.ref X1) = some (.type "type"))
    (xk1 : PySem.W.keepIn K (.ref X1) = true)
    (xa1 : PySem.W.findIn K (.ref X1) "__init__" = some (some (.ref xf1)))
    (xi1 : PySem.W.typeIn K (.ref xf1) = some (.type "function"))
    (xn1 : PySem.W.findIn K (.ref X1) "key" = some none)
    (xl1 : K.lookup xf1 = some ⟨xoc1, xod1, .func (PySem.W.fnOf "__init__" "BadKey.__init__" (defArgs (inClass (top 2) 0)) (defBody (inClass (top 2) 0)) (defScope (inClass (top 2) 0)) .none xkV1 xdc1 xpm1 xan1 xcd1 xct1), xsl1⟩)
    (xc1 : PySem.W.codeIn K xcd1 "BadKey.__init__" = true)
    (xp1 : PySem.W.keepIn K (.ref xf1) = true)
    (xga1 : PySem.W.findIn K (.ref X1) "__getattribute__" = some (some (.builtin "BaseException.__getattribute__")))
    (xgg1 : PySem.W.findIn K (.ref X1) "__getattr__" = some none)
    (xhd1 : PySem.W.hasDictIn K X1 = true)
    (xm2 : PySem.W.nsIn K mainGlobals "BadSheet" = some (some (.ref X2)))
    (xo2 : K.lookup X2 = some (excClassObj xnm2 xq2 X2 xN2 xbs2 xbm2 true xsn2 xsub2 xab2 xcol2 xdd2 xk02 xk12 xk22 xk32 xk52 "ValueError.__new__"))
    (xr2 : PySem.HandSPX.refsVE xbm2 = true)
    (xs2 : PySem.W.findIn K (.ref X2) "__setattr__" = some (some (.builtin "object.__setattr__")))
    (xe2 : PySem.W.subIn K (.ref X2) (.type "BaseException") = some true)
    (xt2 : PySem.W.typeIn K (.ref X2) = some (.type "type"))
    (xk2 : PySem.W.keepIn K (.ref X2) = true)
    (xa2 : PySem.W.findIn K (.ref X2) "__init__" = some (some (.ref xf2)))
    (xi2 : PySem.W.typeIn K (.ref xf2) = some (.type "function"))
    (xn2 : PySem.W.findIn K (.ref X2) "word" = some none)
    (xl2 : K.lookup xf2 = some ⟨xoc2, xod2, .func (PySem.W.fnOf "__init__" "BadSheet.__init__" (defArgs (inClass (top 3) 0)) (defBody (inClass (top 3) 0)) (defScope (inClass (top 3) 0)) .none xkV2 xdc2 xpm2 xan2 xcd2 xct2), xsl2⟩)
    (xc2 : PySem.W.codeIn K xcd2 "BadSheet.__init__" = true)
    (xp2 : PySem.W.keepIn K (.ref xf2) = true)
    (xga2 : PySem.W.findIn K (.ref X2) "__getattribute__" = some (some (.builtin "BaseException.__getattribute__")))
    (xgg2 : PySem.W.findIn K (.ref X2) "__getattr__" = some none)
    (xhd2 : PySem.W.hasDictIn K X2 = true)
    (xm3 : PySem.W.nsIn K mainGlobals "BadText" = some (some (.ref X3)))
    (xo3 : K.lookup X3 = some (excClassObj xnm3 xq3 X3 xN3 xbs3 xbm3 true xsn3 xsub3 xab3 xcol3 xdd3 xk03 xk13 xk23 xk33 xk53 "ValueError.__new__"))
    (xr3 : PySem.HandSPX.refsVE xbm3 = true)
    (xs3 : PySem.W.findIn K (.ref X3) "__setattr__" = some (some (.builtin "object.__setattr__")))
    (xe3 : PySem.W.subIn K (.ref X3) (.type "BaseException") = some true)
    (xt3 : PySem.W.typeIn K (.ref X3) = some (.type "type"))
    (xk3 : PySem.W.keepIn K (.ref X3) = true)
    (xa3 : PySem.W.findIn K (.ref X3) "__init__" = some (some (.ref xf3)))
    (xi3 : PySem.W.typeIn K (.ref xf3) = some (.type "function"))
    (xn3 : PySem.W.findIn K (.ref X3) "number" = some none)
    (xnb3 : PySem.W.findIn K (.ref X3) "line" = some none)
    (xl3 : K.lookup xf3 = some ⟨xoc3, xod3, .func (PySem.W.fnOf "__init__" "BadText.__init__" (defArgs (inClass (top 4) 0)) (defBody (inClass (top 4) 0)) (defScope (inClass (top 4) 0)) .none xkV3 xdc3 xpm3 xan3 xcd3 xct3), xsl3⟩)
    (xc3 : PySem.W.codeIn K xcd3 "BadText.__init__" = true)
    (xp3 : PySem.W.keepIn K (.ref xf3) = true)
    (xga3 : PySem.W.findIn K (.ref X3) "__getattribute__" = some (some (.builtin "BaseException.__getattribute__")))
    (xgg3 : PySem.W.findIn K (.ref X3) "__getattr__" = some none)
    (xhd3 : PySem.W.hasDictIn K X3 = true)
    (xm4 : PySem.W.nsIn K mainGlobals "BadValue" = some (some (.ref X4)))
    (xo4 : K.lookup X4 = some (excClassObj xnm4 xq4 X4 xN4 xbs4 xbm4 true xsn4 xsub4 xab4 xcol4 xdd4 xk04 xk14 xk24 xk34 xk54 "ValueError.__new__"))
    (xr4 : PySem.HandSPX.refsVE xbm4 = true)
    (xs4 : PySem.W.findIn K (.ref X4) "__setattr__" = some (some (.builtin "object.__setattr__")))
    (xe4 : PySem.W.subIn K (.ref X4) (.type "BaseException") = some true)
    (xt4 : PySem.W.typeIn K (.ref X4) = some (.type "type"))
    (xk4 : PySem.W.keepIn K (.ref X4) = true)
    (xa4 : PySem.W.findIn K (.ref X4) "__init__" = some (some (.ref xf4)))
    (xi4 : PySem.W.typeIn K (.ref xf4) = some (.type "function"))
    (xn4 : PySem.W.findIn K (.ref X4) "value" = some none)
    (xl4 : K.lookup xf4 = some ⟨xoc4, xod4, .func (PySem.W.fnOf "__init__" "BadValue.__init__" (defArgs (inClass (top 5) 0)) (defBody (inClass (top 5) 0)) (defScope (inClass (top 5) 0)) .none xkV4 xdc4 xpm4 xan4 xcd4 xct4), xsl4⟩)
    (xc4 : PySem.W.codeIn K xcd4 "BadValue.__init__" = true)
    (xp4 : PySem.W.keepIn K (.ref xf4) = true)
    (xga4 : PySem.W.findIn K (.ref X4) "__getattribute__" = some (some (.builtin "BaseException.__getattribute__")))
    (xgg4 : PySem.W.findIn K (.ref X4) "__getattr__" = some none)
    (xhd4 : PySem.W.hasDictIn K X4 = true)
    (xm5 : PySem.W.nsIn K mainGlobals "Barred" = some (some (.ref X5)))
    (xo5 : K.lookup X5 = some (excClassObj xnm5 xq5 X5 xN5 xbs5 xbm5 true xsn5 xsub5 xab5 xcol5 xdd5 xk05 xk15 xk25 xk35 xk55 "ValueError.__new__"))
    (xr5 : PySem.HandSPX.refsVE xbm5 = true)
    (xs5 : PySem.W.findIn K (.ref X5) "__setattr__" = some (some (.builtin "object.__setattr__")))
    (xe5 : PySem.W.subIn K (.ref X5) (.type "BaseException") = some true)
    (xt5 : PySem.W.typeIn K (.ref X5) = some (.type "type"))
    (xk5 : PySem.W.keepIn K (.ref X5) = true)
    (xa5 : PySem.W.findIn K (.ref X5) "__init__" = some (some (.ref xf5)))
    (xi5 : PySem.W.typeIn K (.ref xf5) = some (.type "function"))
    (xn5 : PySem.W.findIn K (.ref X5) "numbers" = some none)
    (xl5 : K.lookup xf5 = some ⟨xoc5, xod5, .func (PySem.W.fnOf "__init__" "Barred.__init__" (defArgs (inClass (top 6) 0)) (defBody (inClass (top 6) 0)) (defScope (inClass (top 6) 0)) .none xkV5 xdc5 xpm5 xan5 xcd5 xct5), xsl5⟩)
    (xc5 : PySem.W.codeIn K xcd5 "Barred.__init__" = true)
    (xp5 : PySem.W.keepIn K (.ref xf5) = true)
    (xga5 : PySem.W.findIn K (.ref X5) "__getattribute__" = some (some (.builtin "BaseException.__getattribute__")))
    (xgg5 : PySem.W.findIn K (.ref X5) "__getattr__" = some none)
    (xhd5 : PySem.W.hasDictIn K X5 = true)
    (xm6 : PySem.W.nsIn K mainGlobals "Full" = some (some (.ref X6)))
    (xm7 : PySem.W.nsIn K mainGlobals "NothingToUndo" = some (some (.ref X7)))
    (xm8 : PySem.W.nsIn K mainGlobals "TooMany" = some (some (.ref X8)))
    (xo8 : K.lookup X8 = some (excClassObj xnm8 xq8 X8 xN8 xbs8 xbm8 true xsn8 xsub8 xab8 xcol8 xdd8 xk08 xk18 xk28 xk38 xk58 "ValueError.__new__"))
    (xr8 : PySem.HandSPX.refsVE xbm8 = true)
    (xs8 : PySem.W.findIn K (.ref X8) "__setattr__" = some (some (.builtin "object.__setattr__")))
    (xe8 : PySem.W.subIn K (.ref X8) (.type "BaseException") = some true)
    (xt8 : PySem.W.typeIn K (.ref X8) = some (.type "type"))
    (xk8 : PySem.W.keepIn K (.ref X8) = true)
    (xa8 : PySem.W.findIn K (.ref X8) "__init__" = some (some (.ref xf8)))
    (xi8 : PySem.W.typeIn K (.ref xf8) = some (.type "function"))
    (xn8 : PySem.W.findIn K (.ref X8) "limit" = some none)
    (xl8 : K.lookup xf8 = some ⟨xoc8, xod8, .func (PySem.W.fnOf "__init__" "TooMany.__init__" (defArgs (inClass (top 9) 0)) (defBody (inClass (top 9) 0)) (defScope (inClass (top 9) 0)) .none xkV8 xdc8 xpm8 xan8 xcd8 xct8), xsl8⟩)
    (xc8 : PySem.W.codeIn K xcd8 "TooMany.__init__" = true)
    (xp8 : PySem.W.keepIn K (.ref xf8) = true)
    (xga8 : PySem.W.findIn K (.ref X8) "__getattribute__" = some (some (.builtin "BaseException.__getattribute__")))
    (xgg8 : PySem.W.findIn K (.ref X8) "__getattr__" = some none)
    (xhd8 : PySem.W.hasDictIn K X8 = true)
    (xm9 : PySem.W.nsIn K mainGlobals "NoKey" = some (some (.ref X9)))
    (xo9 : K.lookup X9 = some (excClassObj xnm9 xq9 X9 xN9 xbs9 xbm9 true xsn9 xsub9 xab9 xcol9 xdd9 xk09 xk19 xk29 xk39 xk59 "LookupError.__new__"))
    (xr9 : PySem.W.excTail leTail xbm9 = true)
    (xs9 : PySem.W.findIn K (.ref X9) "__setattr__" = some (some (.builtin "object.__setattr__")))
    (xe9 : PySem.W.subIn K (.ref X9) (.type "BaseException") = some true)
    (xt9 : PySem.W.typeIn K (.ref X9) = some (.type "type"))
    (xk9 : PySem.W.keepIn K (.ref X9) = true)
    (xa9 : PySem.W.findIn K (.ref X9) "__init__" = some (some (.ref xf9)))
    (xi9 : PySem.W.typeIn K (.ref xf9) = some (.type "function"))
    (xn9 : PySem.W.findIn K (.ref X9) "number" = some none)
    (xl9 : K.lookup xf9 = some ⟨xoc9, xod9, .func (PySem.W.fnOf "__init__" "NoKey.__init__" (defArgs (inClass (top 10) 0)) (defBody (inClass (top 10) 0)) (defScope (inClass (top 10) 0)) .none xkV9 xdc9 xpm9 xan9 xcd9 xct9), xsl9⟩)
    (xc9 : PySem.W.codeIn K xcd9 "NoKey.__init__" = true)
    (xp9 : PySem.W.keepIn K (.ref xf9) = true)
    (xga9 : PySem.W.findIn K (.ref X9) "__getattribute__" = some (some (.builtin "BaseException.__getattribute__")))
    (xgg9 : PySem.W.findIn K (.ref X9) "__getattr__" = some none)
    (xhd9 : PySem.W.hasDictIn K X9 = true)
    (xm10 : PySem.W.nsIn K mainGlobals "NoPart" = some (some (.ref X10)))
    (xo10 : K.lookup X10 = some (excClassObj xnm10 xq10 X10 xN10 xbs10 xbm10 true xsn10 xsub10 xab10 xcol10 xdd10 xk010 xk110 xk210 xk310 xk510 "LookupError.__new__"))
    (xr10 : PySem.W.excTail leTail xbm10 = true)
    (xs10 : PySem.W.findIn K (.ref X10) "__setattr__" = some (some (.builtin "object.__setattr__")))
    (xe10 : PySem.W.subIn K (.ref X10) (.type "BaseException") = some true)
    (xt10 : PySem.W.typeIn K (.ref X10) = some (.type "type"))
    (xk10 : PySem.W.keepIn K (.ref X10) = true)
    (xa10 : PySem.W.findIn K (.ref X10) "__init__" = some (some (.ref xf10)))
    (xi10 : PySem.W.typeIn K (.ref xf10) = some (.type "function"))
    (xn10 : PySem.W.findIn K (.ref X10) "number" = some none)
    (xl10 : K.lookup xf10 = some ⟨xoc10, xod10, .func (PySem.W.fnOf "__init__" "NoPart.__init__" (defArgs (inClass (top 11) 0)) (defBody (inClass (top 11) 0)) (defScope (inClass (top 11) 0)) .none xkV10 xdc10 xpm10 xan10 xcd10 xct10), xsl10⟩)
    (xc10 : PySem.W.codeIn K xcd10 "NoPart.__init__" = true)
    (xp10 : PySem.W.keepIn K (.ref xf10) = true)
    (xga10 : PySem.W.findIn K (.ref X10) "__getattribute__" = some (some (.builtin "BaseException.__getattribute__")))
    (xgg10 : PySem.W.findIn K (.ref X10) "__getattr__" = some none)
    (xhd10 : PySem.W.hasDictIn K X10 = true)
    (xz6 : PySem.W.excIn K X6 [.type "ValueError", .type "Exception", .type "BaseException", .type "object"] "ValueError.__new__" = true)
    (xk6 : PySem.W.keepIn K (.ref X6) = true)
    (xe6 : PySem.W.subIn K (.ref X6) (.type "BaseException") = some true)
    (xt6 : PySem.W.typeIn K (.ref X6) = some (.type "type"))
    (xga6 : PySem.W.findIn K (.ref X6) "__getattribute__" = some (some (.builtin "BaseException.__getattribute__")))
    (xgg6 : PySem.W.findIn K (.ref X6) "__getattr__" = some none)
    (xhd6 : PySem.W.hasDictIn K X6 = true)
    (xz7 : PySem.W.excIn K X7 [.type "ValueError", .type "Exception", .type "BaseException", .type "object"] "ValueError.__new__" = true)
    (xk7 : PySem.W.keepIn K (.ref X7) = true)
    (xe7 : PySem.W.subIn K (.ref X7) (.type "BaseException") = some true)
    (xt7 : PySem.W.typeIn K (.ref X7) = some (.type "type"))
    (xga7 : PySem.W.findIn K (.ref X7) "__getattribute__" = some (some (.builtin "BaseException.__getattribute__")))
    (xgg7 : PySem.W.findIn K (.ref X7) "__getattr__" = some none)
    (xhd7 : PySem.W.hasDictIn K X7 = true)
    (le0 : PySem.W.nsIn K mainGlobals "LookupError" = some none)
    (le1 : PySem.W.findCls K (.type "LookupError") (.type "type") "__init__" = some (.val (.builtin "LookupError.__init__")))
    (xca1 : PySem.W.findIn K (.ref X1) "__class__" = some (some (.builtin "object.__class__")))
    (xcm1 : PySem.W.mroIn K X1 (.type "object") = some true)
    (xca2 : PySem.W.findIn K (.ref X2) "__class__" = some (some (.builtin "object.__class__")))
    (xcm2 : PySem.W.mroIn K X2 (.type "object") = some true)
    (xca3 : PySem.W.findIn K (.ref X3) "__class__" = some (some (.builtin "object.__class__")))
    (xcm3 : PySem.W.mroIn K X3 (.type "object") = some true)
    (xca4 : PySem.W.findIn K (.ref X4) "__class__" = some (some (.builtin "object.__class__")))
    (xcm4 : PySem.W.mroIn K X4 (.type "object") = some true)
    (xca5 : PySem.W.findIn K (.ref X5) "__class__" = some (some (.builtin "object.__class__")))
    (xcm5 : PySem.W.mroIn K X5 (.type "object") = some true)
    (xca6 : PySem.W.findIn K (.ref X6) "__class__" = some (some (.builtin "object.__class__")))
    (xcm6 : PySem.W.mroIn K X6 (.type "object") = some true)
    (xca7 : PySem.W.findIn K (.ref X7) "__class__" = some (some (.builtin "object.__class__")))
    (xcm7 : PySem.W.mroIn K X7 (.type "object") = some true)
    (xca8 : PySem.W.findIn K (.ref X8) "__class__" = some (some (.builtin "object.__class__")))
    (xcm8 : PySem.W.mroIn K X8 (.type "object") = some true)
    (xca9 : PySem.W.findIn K (.ref X9) "__class__" = some (some (.builtin "object.__class__")))
    (xcm9 : PySem.W.mroIn K X9 (.type "object") = some true)
    (xca10 : PySem.W.findIn K (.ref X10) "__class__" = some (some (.builtin "object.__class__")))
    (xcm10 : PySem.W.mroIn K X10 (.type "object") = some true)
    (xcn : PySem.W.specialIn K (.builtin "object.__class__") "__get__" = some (some (.builtin "getset_descriptor.__get__")))
    (xct : PySem.W.takesIn K (.builtin "object.__class__") = some true)
    (kt_BadKey_1 : PySem.W.kitOne K (.ref X1) (.ref X1) = some true)
    (kt_BadKey_2 : PySem.W.kitOne K (.ref X2) (.ref X1) = some false)
    (kt_BadKey_3 : PySem.W.kitOne K (.ref X3) (.ref X1) = some false)
    (kt_BadKey_4 : PySem.W.kitOne K (.ref X4) (.ref X1) = some false)
    (kt_BadKey_5 : PySem.W.kitOne K (.ref X5) (.ref X1) = some false)
    (kt_BadKey_6 : PySem.W.kitOne K (.ref X6) (.ref X1) = some false)
    (kt_BadKey_7 : PySem.W.kitOne K (.ref X7) (.ref X1) = some false)
    (kt_BadKey_8 : PySem.W.kitOne K (.ref X8) (.ref X1) = some false)
    (kt_BadKey_9 : PySem.W.kitOne K (.ref X9) (.ref X1) = some false)
    (kt_BadKey_10 : PySem.W.kitOne K (.ref X10) (.ref X1) = some false)
    (kt_BadSheet_2 : PySem.W.kitOne K (.ref X2) (.ref X2) = some true)
    (kt_BadSheet_1 : PySem.W.kitOne K (.ref X1) (.ref X2) = some false)
    (kt_BadSheet_3 : PySem.W.kitOne K (.ref X3) (.ref X2) = some false)
    (kt_BadSheet_4 : PySem.W.kitOne K (.ref X4) (.ref X2) = some false)
    (kt_BadSheet_5 : PySem.W.kitOne K (.ref X5) (.ref X2) = some false)
    (kt_BadSheet_6 : PySem.W.kitOne K (.ref X6) (.ref X2) = some false)
    (kt_BadSheet_7 : PySem.W.kitOne K (.ref X7) (.ref X2) = some false)
    (kt_BadSheet_8 : PySem.W.kitOne K (.ref X8) (.ref X2) = some false)
    (kt_BadSheet_9 : PySem.W.kitOne K (.ref X9) (.ref X2) = some false)
    (kt_BadSheet_10 : PySem.W.kitOne K (.ref X10) (.ref X2) = some false)
    (kt_BadText_3 : PySem.W.kitOne K (.ref X3) (.ref X3) = some true)
    (kt_BadText_1 : PySem.W.kitOne K (.ref X1) (.ref X3) = some false)
    (kt_BadText_2 : PySem.W.kitOne K (.ref X2) (.ref X3) = some false)
    (kt_BadText_4 : PySem.W.kitOne K (.ref X4) (.ref X3) = some false)
    (kt_BadText_5 : PySem.W.kitOne K (.ref X5) (.ref X3) = some false)
    (kt_BadText_6 : PySem.W.kitOne K (.ref X6) (.ref X3) = some false)
    (kt_BadText_7 : PySem.W.kitOne K (.ref X7) (.ref X3) = some false)
    (kt_BadText_8 : PySem.W.kitOne K (.ref X8) (.ref X3) = some false)
    (kt_BadText_9 : PySem.W.kitOne K (.ref X9) (.ref X3) = some false)
    (kt_BadText_10 : PySem.W.kitOne K (.ref X10) (.ref X3) = some false)
    (kt_BadValue_4 : PySem.W.kitOne K (.ref X4) (.ref X4) = some true)
    (kt_BadValue_1 : PySem.W.kitOne K (.ref X1) (.ref X4) = some false)
    (kt_BadValue_2 : PySem.W.kitOne K (.ref X2) (.ref X4) = some false)
    (kt_BadValue_3 : PySem.W.kitOne K (.ref X3) (.ref X4) = some false)
    (kt_BadValue_5 : PySem.W.kitOne K (.ref X5) (.ref X4) = some false)
    (kt_BadValue_6 : PySem.W.kitOne K (.ref X6) (.ref X4) = some false)
    (kt_BadValue_7 : PySem.W.kitOne K (.ref X7) (.ref X4) = some false)
    (kt_BadValue_8 : PySem.W.kitOne K (.ref X8) (.ref X4) = some false)
    (kt_BadValue_9 : PySem.W.kitOne K (.ref X9) (.ref X4) = some false)
    (kt_BadValue_10 : PySem.W.kitOne K (.ref X10) (.ref X4) = some false)
    (kt_Barred_5 : PySem.W.kitOne K (.ref X5) (.ref X5) = some true)
    (kt_Barred_1 : PySem.W.kitOne K (.ref X1) (.ref X5) = some false)
    (kt_Barred_2 : PySem.W.kitOne K (.ref X2) (.ref X5) = some false)
    (kt_Barred_3 : PySem.W.kitOne K (.ref X3) (.ref X5) = some false)
    (kt_Barred_4 : PySem.W.kitOne K (.ref X4) (.ref X5) = some false)
    (kt_Barred_6 : PySem.W.kitOne K (.ref X6) (.ref X5) = some false)
    (kt_Barred_7 : PySem.W.kitOne K (.ref X7) (.ref X5) = some false)
    (kt_Barred_8 : PySem.W.kitOne K (.ref X8) (.ref X5) = some false)
    (kt_Barred_9 : PySem.W.kitOne K (.ref X9) (.ref X5) = some false)
    (kt_Barred_10 : PySem.W.kitOne K (.ref X10) (.ref X5) = some false)
    (kt_CellError_1 : PySem.W.kitOne K (.ref X1) (.ref X0) = some true)
    (kt_CellError_2 : PySem.W.kitOne K (.ref X2) (.ref X0) = some true)
    (kt_CellError_3 : PySem.W.kitOne K (.ref X3) (.ref X0) = some true)
    (kt_CellError_4 : PySem.W.kitOne K (.ref X4) (.ref X0) = some true)
    (kt_CellError_5 : PySem.W.kitOne K (.ref X5) (.ref X0) = some true)
    (kt_CellError_6 : PySem.W.kitOne K (.ref X6) (.ref X0) = some true)
    (kt_CellError_7 : PySem.W.kitOne K (.ref X7) (.ref X0) = some true)
    (kt_CellError_8 : PySem.W.kitOne K (.ref X8) (.ref X0) = some true)
    (kt_CellError_9 : PySem.W.kitOne K (.ref X9) (.ref X0) = some false)
    (kt_CellError_10 : PySem.W.kitOne K (.ref X10) (.ref X0) = some false)
    (kt_Full_6 : PySem.W.kitOne K (.ref X6) (.ref X6) = some true)
    (kt_Full_1 : PySem.W.kitOne K (.ref X1) (.ref X6) = some false)
    (kt_Full_2 : PySem.W.kitOne K (.ref X2) (.ref X6) = some false)
    (kt_Full_3 : PySem.W.kitOne K (.ref X3) (.ref X6) = some false)
    (kt_Full_4 : PySem.W.kitOne K (.ref X4) (.ref X6) = some false)
    (kt_Full_5 : PySem.W.kitOne K (.ref X5) (.ref X6) = some false)
    (kt_Full_7 : PySem.W.kitOne K (.ref X7) (.ref X6) = some false)
    (kt_Full_8 : PySem.W.kitOne K (.ref X8) (.ref X6) = some false)
    (kt_Full_9 : PySem.W.kitOne K (.ref X9) (.ref X6) = some false)
    (kt_Full_10 : PySem.W.kitOne K (.ref X10) (.ref X6) = some false)
    (kt_IndexError_1 : PySem.W.kitOne K (.ref X1) (.type "IndexError") = some false)
    (kt_IndexError_2 : PySem.W.kitOne K (.ref X2) (.type "IndexError") = some false)
    (kt_IndexError_3 : PySem.W.kitOne K (.ref X3) (.type "IndexError") = some false)
    (kt_IndexError_4 : PySem.W.kitOne K (.ref X4) (.type "IndexError") = some false)
    (kt_IndexError_5 : PySem.W.kitOne K (.ref X5) (.type "IndexError") = some false)
    (kt_IndexError_6 : PySem.W.kitOne K (.ref X6) (.type "IndexError") = some false)
    (kt_IndexError_7 : PySem.W.kitOne K (.ref X7) (.type "IndexError") = some false)
    (kt_IndexError_8 : PySem.W.kitOne K (.ref X8) (.type "IndexError") = some false)
    (kt_IndexError_9 : PySem.W.kitOne K (.ref X9) (.type "IndexError") = some false)
    (kt_IndexError_10 : PySem.W.kitOne K (.ref X10) (.type "IndexError") = some false)
    (kt_KeyError_1 : PySem.W.kitOne K (.ref X1) (.type "KeyError") = some false)
    (kt_KeyError_2 : PySem.W.kitOne K (.ref X2) (.type "KeyError") = some false)
    (kt_KeyError_3 : PySem.W.kitOne K (.ref X3) (.type "KeyError") = some false)
    (kt_KeyError_4 : PySem.W.kitOne K (.ref X4) (.type "KeyError") = some false)
    (kt_KeyError_5 : PySem.W.kitOne K (.ref X5) (.type "KeyError") = some false)
    (kt_KeyError_6 : PySem.W.kitOne K (.ref X6) (.type "KeyError") = some false)
    (kt_KeyError_7 : PySem.W.kitOne K (.ref X7) (.type "KeyError") = some false)
    (kt_KeyError_8 : PySem.W.kitOne K (.ref X8) (.type "KeyError") = some false)
    (kt_KeyError_9 : PySem.W.kitOne K (.ref X9) (.type "KeyError") = some false)
    (kt_KeyError_10 : PySem.W.kitOne K (.ref X10) (.type "KeyError") = some false)
    (kt_LookupError_9 : PySem.W.kitOne K (.ref X9) (.type "LookupError") = some true)
    (kt_LookupError_10 : PySem.W.kitOne K (.ref X10) (.type "LookupError") = some true)
    (kt_LookupError_1 : PySem.W.kitOne K (.ref X1) (.type "LookupError") = some false)
    (kt_LookupError_2 : PySem.W.kitOne K (.ref X2) (.type "LookupError") = some false)
    (kt_LookupError_3 : PySem.W.kitOne K (.ref X3) (.type "LookupError") = some false)
    (kt_LookupError_4 : PySem.W.kitOne K (.ref X4) (.type "LookupError") = some false)
    (kt_LookupError_5 : PySem.W.kitOne K (.ref X5) (.type "LookupError") = some false)
    (kt_LookupError_6 : PySem.W.kitOne K (.ref X6) (.type "LookupError") = some false)
    (kt_LookupError_7 : PySem.W.kitOne K (.ref X7) (.type "LookupError") = some false)
    (kt_LookupError_8 : PySem.W.kitOne K (.ref X8) (.type "LookupError") = some false)
    (kt_NoKey_9 : PySem.W.kitOne K (.ref X9) (.ref X9) = some true)
    (kt_NoKey_1 : PySem.W.kitOne K (.ref X1) (.ref X9) = some false)
    (kt_NoKey_2 : PySem.W.kitOne K (.ref X2) (.ref X9) = some false)
    (kt_NoKey_3 : PySem.W.kitOne K (.ref X3) (.ref X9) = some false)
    (kt_NoKey_4 : PySem.W.kitOne K (.ref X4) (.ref X9) = some false)
    (kt_NoKey_5 : PySem.W.kitOne K (.ref X5) (.ref X9) = some false)
    (kt_NoKey_6 : PySem.W.kitOne K (.ref X6) (.ref X9) = some false)
    (kt_NoKey_7 : PySem.W.kitOne K (.ref X7) (.ref X9) = some false)
    (kt_NoKey_8 : PySem.W.kitOne K (.ref X8) (.ref X9) = some false)
    (kt_NoKey_10 : PySem.W.kitOne K (.ref X10) (.ref X9) = some false)
    (kt_NoPart_10 : PySem.W.kitOne K (.ref X10) (.ref X10) = some true)
    (kt_NoPart_1 : PySem.W.kitOne K (.ref X1) (.ref X10) = some false)
    (kt_NoPart_2 : PySem.W.kitOne K (.ref X2) (.ref X10) = some false)
    (kt_NoPart_3 : PySem.W.kitOne K (.ref X3) (.ref X10) = some false)
    (kt_NoPart_4 : PySem.W.kitOne K (.ref X4) (.ref X10) = some false)
    (kt_NoPart_5 : PySem.W.kitOne K (.ref X5) (.ref X10) = some false)
    (kt_NoPart_6 : PySem.W.kitOne K (.ref X6) (.ref X10) = some false)
    (kt_NoPart_7 : PySem.W.kitOne K (.ref X7) (.ref X10) = some false)
    (kt_NoPart_8 : PySem.W.kitOne K (.ref X8) (.ref X10) = some false)
    (kt_NoPart_9 : PySem.W.kitOne K (.ref X9) (.ref X10) = some false)
    (kt_NothingToUndo_7 : PySem.W.kitOne K (.ref X7) (.ref X7) = some true)
    (kt_NothingToUndo_1 : PySem.W.kitOne K (.ref X1) (.ref X7) = some false)
    (kt_NothingToUndo_2 : PySem.W.kitOne K (.ref X2) (.ref X7) = some false)
    (kt_NothingToUndo_3 : PySem.W.kitOne K (.ref X3) (.ref X7) = some false)
    (kt_NothingToUndo_4 : PySem.W.kitOne K (.ref X4) (.ref X7) = some false)
    (kt_NothingToUndo_5 : PySem.W.kitOne K (.ref X5) (.ref X7) = some false)
    (kt_NothingToUndo_6 : PySem.W.kitOne K (.ref X6) (.ref X7) = some false)
    (kt_NothingToUndo_8 : PySem.W.kitOne K (.ref X8) (.ref X7) = some false)
    (kt_NothingToUndo_9 : PySem.W.kitOne K (.ref X9) (.ref X7) = some false)
    (kt_NothingToUndo_10 : PySem.W.kitOne K (.ref X10) (.ref X7) = some false)
    (kt_TooMany_8 : PySem.W.kitOne K (.ref X8) (.ref X8) = some true)
    (kt_TooMany_1 : PySem.W.kitOne K (.ref X1) (.ref X8) = some false)
    (kt_TooMany_2 : PySem.W.kitOne K (.ref X2) (.ref X8) = some false)
    (kt_TooMany_3 : PySem.W.kitOne K (.ref X3) (.ref X8) = some false)
    (kt_TooMany_4 : PySem.W.kitOne K (.ref X4) (.ref X8) = some false)
    (kt_TooMany_5 : PySem.W.kitOne K (.ref X5) (.ref X8) = some false)
    (kt_TooMany_6 : PySem.W.kitOne K (.ref X6) (.ref X8) = some false)
    (kt_TooMany_7 : PySem.W.kitOne K (.ref X7) (.ref X8) = some false)
    (kt_TooMany_9 : PySem.W.kitOne K (.ref X9) (.ref X8) = some false)
    (kt_TooMany_10 : PySem.W.kitOne K (.ref X10) (.ref X8) = some false)
    (kt_ValueError_1 : PySem.W.kitOne K (.ref X1) (.type "ValueError") = some true)
    (kt_ValueError_2 : PySem.W.kitOne K (.ref X2) (.type "ValueError") = some true)
    (kt_ValueError_3 : PySem.W.kitOne K (.ref X3) (.type "ValueError") = some true)
    (kt_ValueError_4 : PySem.W.kitOne K (.ref X4) (.type "ValueError") = some true)
    (kt_ValueError_5 : PySem.W.kitOne K (.ref X5) (.type "ValueError") = some true)
    (kt_ValueError_6 : PySem.W.kitOne K (.ref X6) (.type "ValueError") = some true)
    (kt_ValueError_7 : PySem.W.kitOne K (.ref X7) (.type "ValueError") = some true)
    (kt_ValueError_8 : PySem.W.kitOne K (.ref X8) (.type "ValueError") = some true)
    (kt_ValueError_9 : PySem.W.kitOne K (.ref X9) (.type "ValueError") = some false)
    (kt_ValueError_10 : PySem.W.kitOne K (.ref X10) (.type "ValueError") = some false)
    (a0 : PySem.W.nsIn K mainGlobals "_law_bag" = some (some (.ref f0)))
    (l0 : K.lookup f0 = some ⟨oc0, od0, .func (PySem.W.fnOf "_law_bag" "_law_bag" (defArgs (top 18)) (defBody (top 18)) (defScope (top 18)) .none kV0 dc0 pm0 an0 cd0 ct0), sl0⟩)
    (c0 : PySem.W.codeIn K cd0 "_law_bag" = true)
    (k0 : PySem.W.keepIn K (.ref f0) = true)
    (a1 : PySem.W.nsIn K mainGlobals "_law_draw" = some (some (.ref f1)))
    (l1 : K.lookup f1 = some ⟨oc1, od1, .func (PySem.W.fnOf "_law_draw" "_law_draw" (defArgs (top 19)) (defBody (top 19)) (defScope (top 19)) .none kV1 dc1 pm1 an1 cd1 ct1), sl1⟩)
    (c1 : PySem.W.codeIn K cd1 "_law_draw" = true)
    (k1 : PySem.W.keepIn K (.ref f1) = true)
    (a2 : PySem.W.nsIn K mainGlobals "_law_pick" = some (some (.ref f2)))
    (l2 : K.lookup f2 = some ⟨oc2, od2, .func (PySem.W.fnOf "_law_pick" "_law_pick" (defArgs (top 20)) (defBody (top 20)) (defScope (top 20)) .none kV2 dc2 pm2 an2 cd2 ct2), sl2⟩)
    (c2 : PySem.W.codeIn K cd2 "_law_pick" = true)
    (k2 : PySem.W.keepIn K (.ref f2) = true)
    (a3 : PySem.W.nsIn K mainGlobals "_law_odd" = some (some (.ref f3)))
    (l3 : K.lookup f3 = some ⟨oc3, od3, .func (PySem.W.fnOf "_law_odd" "_law_odd" (defArgs (top 21)) (defBody (top 21)) (defScope (top 21)) .none kV3 dc3 pm3 an3 cd3 ct3), sl3⟩)
    (c3 : PySem.W.codeIn K cd3 "_law_odd" = true)
    (k3 : PySem.W.keepIn K (.ref f3) = true)
    (a4 : PySem.W.nsIn K mainGlobals "_law_sorts" = some (some (.ref f4)))
    (l4 : K.lookup f4 = some ⟨oc4, od4, .func (PySem.W.fnOf "_law_sorts" "_law_sorts" (defArgs (top 22)) (defBody (top 22)) (defScope (top 22)) .none kV4 dc4 pm4 an4 cd4 ct4), sl4⟩)
    (c4 : PySem.W.codeIn K cd4 "_law_sorts" = true)
    (k4 : PySem.W.keepIn K (.ref f4) = true)
    (a5 : PySem.W.nsIn K mainGlobals "law" = some (some (.ref f5)))
    (l5 : K.lookup f5 = some ⟨oc5, od5, .func (PySem.W.fnOf "law" "law" (defArgs (top 23)) (defBody (top 23)) (defScope (top 23)) .none kV5 dc5 pm5 an5 cd5 ct5), sl5⟩)
    (c5 : PySem.W.codeIn K cd5 "law" = true)
    (k5 : PySem.W.keepIn K (.ref f5) = true)
    (z_IndexError : PySem.W.nsIn K mainGlobals "IndexError" = some none)
    (z_KeyError : PySem.W.nsIn K mainGlobals "KeyError" = some none)
    (z_LookupError : PySem.W.nsIn K mainGlobals "LookupError" = some none)
    (z_ValueError : PySem.W.nsIn K mainGlobals "ValueError" = some none)
    (z_abs : PySem.W.nsIn K mainGlobals "abs" = some none)
    (z_enumerate : PySem.W.nsIn K mainGlobals "enumerate" = some none)
    (z_int : PySem.W.nsIn K mainGlobals "int" = some none)
    (z_isinstance : PySem.W.nsIn K mainGlobals "isinstance" = some none)
    (z_len : PySem.W.nsIn K mainGlobals "len" = some none)
    (z_list : PySem.W.nsIn K mainGlobals "list" = some none)
    (z_range : PySem.W.nsIn K mainGlobals "range" = some none)
    (z_repr : PySem.W.nsIn K mainGlobals "repr" = some none)
    (i_MAX_CELLS : PySem.W.nsIn K mainGlobals "MAX_CELLS" = some (some (.int 12 t_MAX_CELLS)))
    (i_MAX_DEEDS : PySem.W.nsIn K mainGlobals "MAX_DEEDS" = some (some (.int 20 t_MAX_DEEDS)))
    (i_MAX_KEYS : PySem.W.nsIn K mainGlobals "MAX_KEYS" = some (some (.int 12 t_MAX_KEYS)))
    (i_MAX_MODULUS : PySem.W.nsIn K mainGlobals "MAX_MODULUS" = some (some (.int 1000000000000 t_MAX_MODULUS)))
    (i_MAX_RULED : PySem.W.nsIn K mainGlobals "MAX_RULED" = some (some (.int 6 t_MAX_RULED)))
    : ∃ fd : FuncData, (∀ (s : Shared) (v : Value), BindsTo s fd ⟨[v], []⟩ [("_law_script", v)]) ∧ ∀ base : Heap, K.In base → base.Ns mainGlobals mg → FnG l.prog w K mg base 4 fa fd ["_law_script"] (spT K 63) := by
  have e := hfa.symm.trans (PySem.W.mg_of X G a5)
  cases e
  have T : Txt K mg (mkCT [X0, X1, X2, X3, X4, X5, X6, X7, X8, X9, X10] FSs) := {
    n_IndexError := PySem.W.mg_none_of X G z_IndexError
    n_KeyError := PySem.W.mg_none_of X G z_KeyError
    n_LookupError := PySem.W.mg_none_of X G z_LookupError
    n_ValueError := PySem.W.mg_none_of X G z_ValueError
    n_abs := PySem.W.mg_none_of X G z_abs
    n_enumerate := PySem.W.mg_none_of X G z_enumerate
    n_int := PySem.W.mg_none_of X G z_int
    n_isinstance := PySem.W.mg_none_of X G z_isinstance
    n_len := PySem.W.mg_none_of X G z_len
    n_list := PySem.W.mg_none_of X G z_list
    n_range := PySem.W.mg_none_of X G z_range
    n_repr := PySem.W.mg_none_of X G z_repr
    g_MAX_CELLS := int_of X G i_MAX_CELLS
    g_MAX_DEEDS := int_of X G i_MAX_DEEDS
    g_MAX_KEYS := int_of X G i_MAX_KEYS
    g_MAX_MODULUS := int_of X G i_MAX_MODULUS
    g_MAX_RULED := int_of X G i_MAX_RULED
    f__law_bag := hasFn_of X G a0 l0 c0 k0 (fun _ _ _ _ _ _ us hl => match us, hl with | [_], _ => rfl)
    f__law_draw := hasFn_of X G a1 l1 c1 k1 (fun _ _ _ _ _ _ us hl => match us, hl with | [_, _], _ => rfl)
    f__law_pick := hasFn_of X G a2 l2 c2 k2 (fun _ _ _ _ _ _ us hl => match us, hl with | [_, _], _ => rfl)
    f__law_odd := hasFn_of X G a3 l3 c3 k3 (fun _ _ _ _ _ _ us hl => match us, hl with | [_], _ => rfl)
    f__law_sorts := hasFn_of X G a4 l4 c4 k4 (fun _ _ _ _ _ _ us hl => match us, hl with | [_], _ => rfl)
    f_law := hasFn_of X G a5 l5 c5 k5 (fun _ _ _ _ _ _ us hl => match us, hl with | [_], _ => rfl)
    x_BadKey := hasX_of (C := X1) rfl (PySem.W.mg_of X G xm1) xo1 xr1 xs1 xe1 xt1 xk1 rfl xa1 xi1 xn1 xl1 xc1 xp1 (fun _ _ _ _ _ _ us hl => match us, hl with | [_, _], _ => rfl)
    x_BadSheet := hasX_of (C := X2) rfl (PySem.W.mg_of X G xm2) xo2 xr2 xs2 xe2 xt2 xk2 rfl xa2 xi2 xn2 xl2 xc2 xp2 (fun _ _ _ _ _ _ us hl => match us, hl with | [_, _], _ => rfl)
    x_BadText := hasX2_of (C := X3) rfl (PySem.W.mg_of X G xm3) xo3 xr3 xs3 xe3 xt3 xk3 rfl xa3 xi3 xnb3 xn3 xl3 xc3 xp3 (fun _ _ _ _ _ _ us hl => match us, hl with | [_, _, _], _ => rfl)
    x_BadValue := hasX_of (C := X4) rfl (PySem.W.mg_of X G xm4) xo4 xr4 xs4 xe4 xt4 xk4 rfl xa4 xi4 xn4 xl4 xc4 xp4 (fun _ _ _ _ _ _ us hl => match us, hl with | [_, _], _ => rfl)
    x_Barred := hasX_of (C := X5) rfl (PySem.W.mg_of X G xm5) xo5 xr5 xs5 xe5 xt5 xk5 rfl xa5 xi5 xn5 xl5 xc5 xp5 (fun _ _ _ _ _ _ us hl => match us, hl with | [_, _], _ => rfl)
    x_TooMany := hasX_of (C := X8) rfl (PySem.W.mg_of X G xm8) xo8 xr8 xs8 xe8 xt8 xk8 rfl xa8 xi8 xn8 xl8 xc8 xp8 (fun _ _ _ _ _ _ us hl => match us, hl with | [_, _], _ => rfl)
    x_NoKey := hasXL_of (h := h) (C := X9) rfl (PySem.W.mg_of X G xm9) xo9 xr9 xs9 xe9 xt9 xk9 rfl xa9 xi9 xn9 xl9 xc9 xp9 (fun _ _ _ _ _ _ us hl => match us, hl with | [_, _], _ => rfl)
    x_NoPart := hasXL_of (h := h) (C := X10) rfl (PySem.W.mg_of X G xm10) xo10 xr10 xs10 xe10 xt10 xk10 rfl xa10 xi10 xn10 xl10 xc10 xp10 (fun _ _ _ _ _ _ us hl => match us, hl with | [_, _], _ => rfl)
    x0_Full := ⟨xz6, PySem.W.mg_of X G xm6, xk6, xe6, xt6⟩
    x0_NothingToUndo := ⟨xz7, PySem.W.mg_of X G xm7, xk7, xe7, xt7⟩
    bas_LookupError := ⟨PySem.W.mg_none_of X G le0, le1⟩
    bas_CellError := ⟨_, PySem.W.mg_of X G xm0, bg0, bt0, br0, bv0⟩
    v_BadKey := PySem.W.mg_of X G xm1
    v_BadSheet := PySem.W.mg_of X G xm2
    v_BadText := PySem.W.mg_of X G xm3
    v_BadValue := PySem.W.mg_of X G xm4
    v_Barred := PySem.W.mg_of X G xm5
    v_CellError := PySem.W.mg_of X G xm0
    v_Full := PySem.W.mg_of X G xm6
    v_NoKey := PySem.W.mg_of X G xm9
    v_NoPart := PySem.W.mg_of X G xm10
    v_NothingToUndo := PySem.W.mg_of X G xm7
    v_TooMany := PySem.W.mg_of X G xm8
    xis_BadKey := ⟨(ex_cons ⟨⟨xga1, xgg1, xe1, xhd1, xca1, xcn, xct, xcm1⟩, kt_BadKey_1⟩ ex_nil), (ex_cons ⟨⟨xga2, xgg2, xe2, xhd2, xca2, xcn, xct, xcm2⟩, kt_BadKey_2⟩ (ex_cons ⟨⟨xga3, xgg3, xe3, xhd3, xca3, xcn, xct, xcm3⟩, kt_BadKey_3⟩ (ex_cons ⟨⟨xga4, xgg4, xe4, xhd4, xca4, xcn, xct, xcm4⟩, kt_BadKey_4⟩ (ex_cons ⟨⟨xga5, xgg5, xe5, xhd5, xca5, xcn, xct, xcm5⟩, kt_BadKey_5⟩ (ex_cons ⟨⟨xga6, xgg6, xe6, xhd6, xca6, xcn, xct, xcm6⟩, kt_BadKey_6⟩ (ex_cons ⟨⟨xga7, xgg7, xe7, xhd7, xca7, xcn, xct, xcm7⟩, kt_BadKey_7⟩ (ex_cons ⟨⟨xga8, xgg8, xe8, xhd8, xca8, xcn, xct, xcm8⟩, kt_BadKey_8⟩ (ex_cons ⟨⟨xga9, xgg9, xe9, xhd9, xca9, xcn, xct, xcm9⟩, kt_BadKey_9⟩ (ex_cons ⟨⟨xga10, xgg10, xe10, xhd10, xca10, xcn, xct, xcm10⟩, kt_BadKey_10⟩ ex_nil)))))))))⟩
    xis_BadSheet := ⟨(ex_cons ⟨⟨xga2, xgg2, xe2, xhd2, xca2, xcn, xct, xcm2⟩, kt_BadSheet_2⟩ ex_nil), (ex_cons ⟨⟨xga1, xgg1, xe1, xhd1, xca1, xcn, xct, xcm1⟩, kt_BadSheet_1⟩ (ex_cons ⟨⟨xga3, xgg3, xe3, xhd3, xca3, xcn, xct, xcm3⟩, kt_BadSheet_3⟩ (ex_cons ⟨⟨xga4, xgg4, xe4, xhd4, xca4, xcn, xct, xcm4⟩, kt_BadSheet_4⟩ (ex_cons ⟨⟨xga5, xgg5, xe5, xhd5, xca5, xcn, xct, xcm5⟩, kt_BadSheet_5⟩ (ex_cons ⟨⟨xga6, xgg6, xe6, xhd6, xca6, xcn, xct, xcm6⟩, kt_BadSheet_6⟩ (ex_cons ⟨⟨xga7, xgg7, xe7, xhd7, xca7, xcn, xct, xcm7⟩, kt_BadSheet_7⟩ (ex_cons ⟨⟨xga8, xgg8, xe8, xhd8, xca8, xcn, xct, xcm8⟩, kt_BadSheet_8⟩ (ex_cons ⟨⟨xga9, xgg9, xe9, xhd9, xca9, xcn, xct, xcm9⟩, kt_BadSheet_9⟩ (ex_cons ⟨⟨xga10, xgg10, xe10, xhd10, xca10, xcn, xct, xcm10⟩, kt_BadSheet_10⟩ ex_nil)))))))))⟩
    xis_BadText := ⟨(ex_cons ⟨⟨xga3, xgg3, xe3, xhd3, xca3, xcn, xct, xcm3⟩, kt_BadText_3⟩ ex_nil), (ex_cons ⟨⟨xga1, xgg1, xe1, xhd1, xca1, xcn, xct, xcm1⟩, kt_BadText_1⟩ (ex_cons ⟨⟨xga2, xgg2, xe2, xhd2, xca2, xcn, xct, xcm2⟩, kt_BadText_2⟩ (ex_cons ⟨⟨xga4, xgg4, xe4, xhd4, xca4, xcn, xct, xcm4⟩, kt_BadText_4⟩ (ex_cons ⟨⟨xga5, xgg5, xe5, xhd5, xca5, xcn, xct, xcm5⟩, kt_BadText_5⟩ (ex_cons ⟨⟨xga6, xgg6, xe6, xhd6, xca6, xcn, xct, xcm6⟩, kt_BadText_6⟩ (ex_cons ⟨⟨xga7, xgg7, xe7, xhd7, xca7, xcn, xct, xcm7⟩, kt_BadText_7⟩ (ex_cons ⟨⟨xga8, xgg8, xe8, xhd8, xca8, xcn, xct, xcm8⟩, kt_BadText_8⟩ (ex_cons ⟨⟨xga9, xgg9, xe9, xhd9, xca9, xcn, xct, xcm9⟩, kt_BadText_9⟩ (ex_cons ⟨⟨xga10, xgg10, xe10, xhd10, xca10, xcn, xct, xcm10⟩, kt_BadText_10⟩ ex_nil)))))))))⟩
    xis_BadValue := ⟨(ex_cons ⟨⟨xga4, xgg4, xe4, xhd4, xca4, xcn, xct, xcm4⟩, kt_BadValue_4⟩ ex_nil), (ex_cons ⟨⟨xga1, xgg1, xe1, xhd1, xca1, xcn, xct, xcm1⟩, kt_BadValue_1⟩ (ex_cons ⟨⟨xga2, xgg2, xe2, xhd2, xca2, xcn, xct, xcm2⟩, kt_BadValue_2⟩ (ex_cons ⟨⟨xga3, xgg3, xe3, xhd3, xca3, xcn, xct, xcm3⟩, kt_BadValue_3⟩ (ex_cons ⟨⟨xga5, xgg5, xe5, xhd5, xca5, xcn, xct, xcm5⟩, kt_BadValue_5⟩ (ex_cons ⟨⟨xga6, xgg6, xe6, xhd6, xca6, xcn, xct, xcm6⟩, kt_BadValue_6⟩ (ex_cons ⟨⟨xga7, xgg7, xe7, xhd7, xca7, xcn, xct, xcm7⟩, kt_BadValue_7⟩ (ex_cons ⟨⟨xga8, xgg8, xe8, xhd8, xca8, xcn, xct, xcm8⟩, kt_BadValue_8⟩ (ex_cons ⟨⟨xga9, xgg9, xe9, xhd9, xca9, xcn, xct, xcm9⟩, kt_BadValue_9⟩ (ex_cons ⟨⟨xga10, xgg10, xe10, xhd10, xca10, xcn, xct, xcm10⟩, kt_BadValue_10⟩ ex_nil)))))))))⟩
    xis_Barred := ⟨(ex_cons ⟨⟨xga5, xgg5, xe5, xhd5, xca5, xcn, xct, xcm5⟩, kt_Barred_5⟩ ex_nil), (ex_cons ⟨⟨xga1, xgg1, xe1, xhd1, xca1, xcn, xct, xcm1⟩, kt_Barred_1⟩ (ex_cons ⟨⟨xga2, xgg2, xe2, xhd2, xca2, xcn, xct, xcm2⟩, kt_Barred_2⟩ (ex_cons ⟨⟨xga3, xgg3, xe3, xhd3, xca3, xcn, xct, xcm3⟩, kt_Barred_3⟩ (ex_cons ⟨⟨xga4, xgg4, xe4, xhd4, xca4, xcn, xct, xcm4⟩, kt_Barred_4⟩ (ex_cons ⟨⟨xga6, xgg6, xe6, xhd6, xca6, xcn, xct, xcm6⟩, kt_Barred_6⟩ (ex_cons ⟨⟨xga7, xgg7, xe7, xhd7, xca7, xcn, xct, xcm7⟩, kt_Barred_7⟩ (ex_cons ⟨⟨xga8, xgg8, xe8, xhd8, xca8, xcn, xct, xcm8⟩, kt_Barred_8⟩ (ex_cons ⟨⟨xga9, xgg9, xe9, xhd9, xca9, xcn, xct, xcm9⟩, kt_Barred_9⟩ (ex_cons ⟨⟨xga10, xgg10, xe10, xhd10, xca10, xcn, xct, xcm10⟩, kt_Barred_10⟩ ex_nil)))))))))⟩
    xis_CellError := ⟨(ex_cons ⟨⟨xga1, xgg1, xe1, xhd1, xca1, xcn, xct, xcm1⟩, kt_CellError_1⟩ (ex_cons ⟨⟨xga2, xgg2, xe2, xhd2, xca2, xcn, xct, xcm2⟩, kt_CellError_2⟩ (ex_cons ⟨⟨xga3, xgg3, xe3, xhd3, xca3, xcn, xct, xcm3⟩, kt_CellError_3⟩ (ex_cons ⟨⟨xga4, xgg4, xe4, xhd4, xca4, xcn, xct, xcm4⟩, kt_CellError_4⟩ (ex_cons ⟨⟨xga5, xgg5, xe5, xhd5, xca5, xcn, xct, xcm5⟩, kt_CellError_5⟩ (ex_cons ⟨⟨xga6, xgg6, xe6, xhd6, xca6, xcn, xct, xcm6⟩, kt_CellError_6⟩ (ex_cons ⟨⟨xga7, xgg7, xe7, xhd7, xca7, xcn, xct, xcm7⟩, kt_CellError_7⟩ (ex_cons ⟨⟨xga8, xgg8, xe8, xhd8, xca8, xcn, xct, xcm8⟩, kt_CellError_8⟩ ex_nil)))))))), (ex_cons ⟨⟨xga9, xgg9, xe9, xhd9, xca9, xcn, xct, xcm9⟩, kt_CellError_9⟩ (ex_cons ⟨⟨xga10, xgg10, xe10, xhd10, xca10, xcn, xct, xcm10⟩, kt_CellError_10⟩ ex_nil))⟩
    xis_Full := ⟨(ex_cons ⟨⟨xga6, xgg6, xe6, xhd6, xca6, xcn, xct, xcm6⟩, kt_Full_6⟩ ex_nil), (ex_cons ⟨⟨xga1, xgg1, xe1, xhd1, xca1, xcn, xct, xcm1⟩, kt_Full_1⟩ (ex_cons ⟨⟨xga2, xgg2, xe2, xhd2, xca2, xcn, xct, xcm2⟩, kt_Full_2⟩ (ex_cons ⟨⟨xga3, xgg3, xe3, xhd3, xca3, xcn, xct, xcm3⟩, kt_Full_3⟩ (ex_cons ⟨⟨xga4, xgg4, xe4, xhd4, xca4, xcn, xct, xcm4⟩, kt_Full_4⟩ (ex_cons ⟨⟨xga5, xgg5, xe5, xhd5, xca5, xcn, xct, xcm5⟩, kt_Full_5⟩ (ex_cons ⟨⟨xga7, xgg7, xe7, xhd7, xca7, xcn, xct, xcm7⟩, kt_Full_7⟩ (ex_cons ⟨⟨xga8, xgg8, xe8, xhd8, xca8, xcn, xct, xcm8⟩, kt_Full_8⟩ (ex_cons ⟨⟨xga9, xgg9, xe9, xhd9, xca9, xcn, xct, xcm9⟩, kt_Full_9⟩ (ex_cons ⟨⟨xga10, xgg10, xe10, xhd10, xca10, xcn, xct, xcm10⟩, kt_Full_10⟩ ex_nil)))))))))⟩
    xis_IndexError := ⟨ex_nil, (ex_cons ⟨⟨xga1, xgg1, xe1, xhd1, xca1, xcn, xct, xcm1⟩, kt_IndexError_1⟩ (ex_cons ⟨⟨xga2, xgg2, xe2, xhd2, xca2, xcn, xct, xcm2⟩, kt_IndexError_2⟩ (ex_cons ⟨⟨xga3, xgg3, xe3, xhd3, xca3, xcn, xct, xcm3⟩, kt_IndexError_3⟩ (ex_cons ⟨⟨xga4, xgg4, xe4, xhd4, xca4, xcn, xct, xcm4⟩, kt_IndexError_4⟩ (ex_cons ⟨⟨xga5, xgg5, xe5, xhd5, xca5, xcn, xct, xcm5⟩, kt_IndexError_5⟩ (ex_cons ⟨⟨xga6, xgg6, xe6, xhd6, xca6, xcn, xct, xcm6⟩, kt_IndexError_6⟩ (ex_cons ⟨⟨xga7, xgg7, xe7, xhd7, xca7, xcn, xct, xcm7⟩, kt_IndexError_7⟩ (ex_cons ⟨⟨xga8, xgg8, xe8, xhd8, xca8, xcn, xct, xcm8⟩, kt_IndexError_8⟩ (ex_cons ⟨⟨xga9, xgg9, xe9, xhd9, xca9, xcn, xct, xcm9⟩, kt_IndexError_9⟩ (ex_cons ⟨⟨xga10, xgg10, xe10, xhd10, xca10, xcn, xct, xcm10⟩, kt_IndexError_10⟩ ex_nil))))))))))⟩
    xis_KeyError := ⟨ex_nil, (ex_cons ⟨⟨xga1, xgg1, xe1, xhd1, xca1, xcn, xct, xcm1⟩, kt_KeyError_1⟩ (ex_cons ⟨⟨xga2, xgg2, xe2, xhd2, xca2, xcn, xct, xcm2⟩, kt_KeyError_2⟩ (ex_cons ⟨⟨xga3, xgg3, xe3, xhd3, xca3, xcn, xct, xcm3⟩, kt_KeyError_3⟩ (ex_cons ⟨⟨xga4, xgg4, xe4, xhd4, xca4, xcn, xct, xcm4⟩, kt_KeyError_4⟩ (ex_cons ⟨⟨xga5, xgg5, xe5, xhd5, xca5, xcn, xct, xcm5⟩, kt_KeyError_5⟩ (ex_cons ⟨⟨xga6, xgg6, xe6, xhd6, xca6, xcn, xct, xcm6⟩, kt_KeyError_6⟩ (ex_cons ⟨⟨xga7, xgg7, xe7, xhd7, xca7, xcn, xct, xcm7⟩, kt_KeyError_7⟩ (ex_cons ⟨⟨xga8, xgg8, xe8, xhd8, xca8, xcn, xct, xcm8⟩, kt_KeyError_8⟩ (ex_cons ⟨⟨xga9, xgg9, xe9, xhd9, xca9, xcn, xct, xcm9⟩, kt_KeyError_9⟩ (ex_cons ⟨⟨xga10, xgg10, xe10, xhd10, xca10, xcn, xct, xcm10⟩, kt_KeyError_10⟩ ex_nil))))))))))⟩
    xis_LookupError := ⟨(ex_cons ⟨⟨xga9, xgg9, xe9, xhd9, xca9, xcn, xct, xcm9⟩, kt_LookupError_9⟩ (ex_cons ⟨⟨xga10, xgg10, xe10, xhd10, xca10, xcn, xct, xcm10⟩, kt_LookupError_10⟩ ex_nil)), (ex_cons ⟨⟨xga1, xgg1, xe1, xhd1, xca1, xcn, xct, xcm1⟩, kt_LookupError_1⟩ (ex_cons ⟨⟨xga2, xgg2, xe2, xhd2, xca2, xcn, xct, xcm2⟩, kt_LookupError_2⟩ (ex_cons ⟨⟨xga3, xgg3, xe3, xhd3, xca3, xcn, xct, xcm3⟩, kt_LookupError_3⟩ (ex_cons ⟨⟨xga4, xgg4, xe4, xhd4, xca4, xcn, xct, xcm4⟩, kt_LookupError_4⟩ (ex_cons ⟨⟨xga5, xgg5, xe5, xhd5, xca5, xcn, xct, xcm5⟩, kt_LookupError_5⟩ (ex_cons ⟨⟨xga6, xgg6, xe6, xhd6, xca6, xcn, xct, xcm6⟩, kt_LookupError_6⟩ (ex_cons ⟨⟨xga7, xgg7, xe7, xhd7, xca7, xcn, xct, xcm7⟩, kt_LookupError_7⟩ (ex_cons ⟨⟨xga8, xgg8, xe8, xhd8, xca8, xcn, xct, xcm8⟩, kt_LookupError_8⟩ ex_nil))))))))⟩
    xis_NoKey := ⟨(ex_cons ⟨⟨xga9, xgg9, xe9, xhd9, xca9, xcn, xct, xcm9⟩, kt_NoKey_9⟩ ex_nil), (ex_cons ⟨⟨xga1, xgg1, xe1, xhd1, xca1, xcn, xct, xcm1⟩, kt_NoKey_1⟩ (ex_cons ⟨⟨xga2, xgg2, xe2, xhd2, xca2, xcn, xct, xcm2⟩, kt_NoKey_2⟩ (ex_cons ⟨⟨xga3, xgg3, xe3, xhd3, xca3, xcn, xct, xcm3⟩, kt_NoKey_3⟩ (ex_cons ⟨⟨xga4, xgg4, xe4, xhd4, xca4, xcn, xct, xcm4⟩, kt_NoKey_4⟩ (ex_cons ⟨⟨xga5, xgg5, xe5, xhd5, xca5, xcn, xct, xcm5⟩, kt_NoKey_5⟩ (ex_cons ⟨⟨xga6, xgg6, xe6, xhd6, xca6, xcn, xct, xcm6⟩, kt_NoKey_6⟩ (ex_cons ⟨⟨xga7, xgg7, xe7, xhd7, xca7, xcn, xct, xcm7⟩, kt_NoKey_7⟩ (ex_cons ⟨⟨xga8, xgg8, xe8, xhd8, xca8, xcn, xct, xcm8⟩, kt_NoKey_8⟩ (ex_cons ⟨⟨xga10, xgg10, xe10, xhd10, xca10, xcn, xct, xcm10⟩, kt_NoKey_10⟩ ex_nil)))))))))⟩
    xis_NoPart := ⟨(ex_cons ⟨⟨xga10, xgg10, xe10, xhd10, xca10, xcn, xct, xcm10⟩, kt_NoPart_10⟩ ex_nil), (ex_cons ⟨⟨xga1, xgg1, xe1, xhd1, xca1, xcn, xct, xcm1⟩, kt_NoPart_1⟩ (ex_cons ⟨⟨xga2, xgg2, xe2, xhd2, xca2, xcn, xct, xcm2⟩, kt_NoPart_2⟩ (ex_cons ⟨⟨xga3, xgg3, xe3, xhd3, xca3, xcn, xct, xcm3⟩, kt_NoPart_3⟩ (ex_cons ⟨⟨xga4, xgg4, xe4, xhd4, xca4, xcn, xct, xcm4⟩, kt_NoPart_4⟩ (ex_cons ⟨⟨xga5, xgg5, xe5, xhd5, xca5, xcn, xct, xcm5⟩, kt_NoPart_5⟩ (ex_cons ⟨⟨xga6, xgg6, xe6, xhd6, xca6, xcn, xct, xcm6⟩, kt_NoPart_6⟩ (ex_cons ⟨⟨xga7, xgg7, xe7, xhd7, xca7, xcn, xct, xcm7⟩, kt_NoPart_7⟩ (ex_cons ⟨⟨xga8, xgg8, xe8, xhd8, xca8, xcn, xct, xcm8⟩, kt_NoPart_8⟩ (ex_cons ⟨⟨xga9, xgg9, xe9, xhd9, xca9, xcn, xct, xcm9⟩, kt_NoPart_9⟩ ex_nil)))))))))⟩
    xis_NothingToUndo := ⟨(ex_cons ⟨⟨xga7, xgg7, xe7, xhd7, xca7, xcn, xct, xcm7⟩, kt_NothingToUndo_7⟩ ex_nil), (ex_cons ⟨⟨xga1, xgg1, xe1, xhd1, xca1, xcn, xct, xcm1⟩, kt_NothingToUndo_1⟩ (ex_cons ⟨⟨xga2, xgg2, xe2, xhd2, xca2, xcn, xct, xcm2⟩, kt_NothingToUndo_2⟩ (ex_cons ⟨⟨xga3, xgg3, xe3, xhd3, xca3, xcn, xct, xcm3⟩, kt_NothingToUndo_3⟩ (ex_cons ⟨⟨xga4, xgg4, xe4, xhd4, xca4, xcn, xct, xcm4⟩, kt_NothingToUndo_4⟩ (ex_cons ⟨⟨xga5, xgg5, xe5, xhd5, xca5, xcn, xct, xcm5⟩, kt_NothingToUndo_5⟩ (ex_cons ⟨⟨xga6, xgg6, xe6, xhd6, xca6, xcn, xct, xcm6⟩, kt_NothingToUndo_6⟩ (ex_cons ⟨⟨xga8, xgg8, xe8, xhd8, xca8, xcn, xct, xcm8⟩, kt_NothingToUndo_8⟩ (ex_cons ⟨⟨xga9, xgg9, xe9, xhd9, xca9, xcn, xct, xcm9⟩, kt_NothingToUndo_9⟩ (ex_cons ⟨⟨xga10, xgg10, xe10, xhd10, xca10, xcn, xct, xcm10⟩, kt_NothingToUndo_10⟩ ex_nil)))))))))⟩
    xis_TooMany := ⟨(ex_cons ⟨⟨xga8, xgg8, xe8, xhd8, xca8, xcn, xct, xcm8⟩, kt_TooMany_8⟩ ex_nil), (ex_cons ⟨⟨xga1, xgg1, xe1, xhd1, xca1, xcn, xct, xcm1⟩, kt_TooMany_1⟩ (ex_cons ⟨⟨xga2, xgg2, xe2, xhd2, xca2, xcn, xct, xcm2⟩, kt_TooMany_2⟩ (ex_cons ⟨⟨xga3, xgg3, xe3, xhd3, xca3, xcn, xct, xcm3⟩, kt_TooMany_3⟩ (ex_cons ⟨⟨xga4, xgg4, xe4, xhd4, xca4, xcn, xct, xcm4⟩, kt_TooMany_4⟩ (ex_cons ⟨⟨xga5, xgg5, xe5, xhd5, xca5, xcn, xct, xcm5⟩, kt_TooMany_5⟩ (ex_cons ⟨⟨xga6, xgg6, xe6, xhd6, xca6, xcn, xct, xcm6⟩, kt_TooMany_6⟩ (ex_cons ⟨⟨xga7, xgg7, xe7, xhd7, xca7, xcn, xct, xcm7⟩, kt_TooMany_7⟩ (ex_cons ⟨⟨xga9, xgg9, xe9, xhd9, xca9, xcn, xct, xcm9⟩, kt_TooMany_9⟩ (ex_cons ⟨⟨xga10, xgg10, xe10, xhd10, xca10, xcn, xct, xcm10⟩, kt_TooMany_10⟩ ex_nil)))))))))⟩
    xis_ValueError := ⟨(ex_cons ⟨⟨xga1, xgg1, xe1, xhd1, xca1, xcn, xct, xcm1⟩, kt_ValueError_1⟩ (ex_cons ⟨⟨xga2, xgg2, xe2, xhd2, xca2, xcn, xct, xcm2⟩, kt_ValueError_2⟩ (ex_cons ⟨⟨xga3, xgg3, xe3, xhd3, xca3, xcn, xct, xcm3⟩, kt_ValueError_3⟩ (ex_cons ⟨⟨xga4, xgg4, xe4, xhd4, xca4, xcn, xct, xcm4⟩, kt_ValueError_4⟩ (ex_cons ⟨⟨xga5, xgg5, xe5, xhd5, xca5, xcn, xct, xcm5⟩, kt_ValueError_5⟩ (ex_cons ⟨⟨xga6, xgg6, xe6, xhd6, xca6, xcn, xct, xcm6⟩, kt_ValueError_6⟩ (ex_cons ⟨⟨xga7, xgg7, xe7, xhd7, xca7, xcn, xct, xcm7⟩, kt_ValueError_7⟩ (ex_cons ⟨⟨xga8, xgg8, xe8, xhd8, xca8, xcn, xct, xcm8⟩, kt_ValueError_8⟩ ex_nil)))))))), (ex_cons ⟨⟨xga9, xgg9, xe9, xhd9, xca9, xcn, xct, xcm9⟩, kt_ValueError_9⟩ (ex_cons ⟨⟨xga10, xgg10, xe10, xhd10, xca10, xcn, xct, xcm10⟩, kt_ValueError_10⟩ ex_nil))⟩
    xf_key := xfl_cons rfl (by show (["key"] : List Str).Nodup; decide +kernel) ⟨xga1, xgg1, xe1, xhd1⟩ xn1 (xfl_nil)
    xf_limit := xfl_cons rfl (by show (["limit"] : List Str).Nodup; decide +kernel) ⟨xga8, xgg8, xe8, xhd8⟩ xn8 (xfl_nil)
    xf_line := xfl_cons rfl (by show (["number", "line"] : List Str).Nodup; decide +kernel) ⟨xga3, xgg3, xe3, xhd3⟩ xnb3 (xfl_nil)
    xf_number := xfl_cons rfl (by show (["number", "line"] : List Str).Nodup; decide +kernel) ⟨xga3, xgg3, xe3, xhd3⟩ xn3 (xfl_cons rfl (by show (["number"] : List Str).Nodup; decide +kernel) ⟨xga9, xgg9, xe9, xhd9⟩ xn9 (xfl_cons rfl (by show (["number"] : List Str).Nodup; decide +kernel) ⟨xga10, xgg10, xe10, xhd10⟩ xn10 (xfl_nil)))
    xf_numbers := xfl_cons rfl (by show (["numbers"] : List Str).Nodup; decide +kernel) ⟨xga5, xgg5, xe5, xhd5⟩ xn5 (xfl_nil)
    xf_value := xfl_cons rfl (by show (["value"] : List Str).Nodup; decide +kernel) ⟨xga4, xgg4, xe4, xhd4⟩ xn4 (xfl_nil)
    xf_word := xfl_cons rfl (by show (["word"] : List Str).Nodup; decide +kernel) ⟨xga2, xgg2, xe2, xhd2⟩ xn2 (xfl_nil) }
  exact ⟨PySem.W.fnOf "law" "law" (defArgs (top 23)) (defBody (top 23)) (defScope (top 23)) .none kV5 dc5 pm5 an5 cd5 ct5, fun s v => .of_eq rfl, fun base _ _ => (c_all T (fun_mk (st := top 23) l5 c5 k5)).toT law_true⟩
def exs : List (KF → Bool) := [
  fun K => decide (PySem.W.nsIn K mainGlobals "CellError" = some (some (.ref (He.ga K "CellError")))),
  fun K => decide (PySem.W.specialIn K (.ref (He.ga K "CellError")) "__getattribute__" = some (some (.builtin "type.__getattribute__"))),
  fun K => decide (PySem.W.typeIn K (.ref (He.ga K "CellError")) = some (.type "type")),
  fun K => PySem.W.readsIn K (He.ga K "CellError") (.type "type"),
  fun K => chkCv (.ref (He.ga K "CellError")) "__init__" "ValueError.__init__" K,
  fun K => decide (PySem.W.nsIn K mainGlobals "BadKey" = some (some (.ref (He.ga K "BadKey")))),
  fun K => chkXc (He.ga K "BadKey") "ValueError.__new__" (PySem.HandSPX.refsVE) K,
  fun K => decide (PySem.W.findIn K (.ref (He.ga K "BadKey")) "__setattr__" = some (some (.builtin "object.__setattr__"))),
  fun K => decide (PySem.W.subIn K (.ref (He.ga K "BadKey")) (.type "BaseException") = some true),
  fun K => decide (PySem.W.typeIn K (.ref (He.ga K "BadKey")) = some (.type "type")),
  fun K => PySem.W.keepIn K (.ref (He.ga K "BadKey")),
  fun K => decide (PySem.W.findIn K (.ref (He.ga K "BadKey")) "__init__" = some (some (.ref (He.ma K (He.ga K "BadKey") "__init__")))),
  fun K => decide (PySem.W.typeIn K (.ref (He.ma K (He.ga K "BadKey") "__init__")) = some (.type "function")),
  fun K => decide (PySem.W.findIn K (.ref (He.ga K "BadKey")) "key" = some none),
  fun K => PySem.W.keepIn K (.ref (He.ma K (He.ga K "BadKey") "__init__")),
  fun K => decide (PySem.W.findIn K (.ref (He.ga K "BadKey")) "__getattribute__" = some (some (.builtin "BaseException.__getattribute__"))),
  fun K => decide (PySem.W.findIn K (.ref (He.ga K "BadKey")) "__getattr__" = some none),
  fun K => PySem.W.hasDictIn K (He.ga K "BadKey"),
  fun K => decide (PySem.W.nsIn K mainGlobals "BadSheet" = some (some (.ref (He.ga K "BadSheet")))),
  fun K => chkXc (He.ga K "BadSheet") "ValueError.__new__" (PySem.HandSPX.refsVE) K,
  fun K => decide (PySem.W.findIn K (.ref (He.ga K "BadSheet")) "__setattr__" = some (some (.builtin "object.__setattr__"))),
  fun K => decide (PySem.W.subIn K (.ref (He.ga K "BadSheet")) (.type "BaseException") = some true),
  fun K => decide (PySem.W.typeIn K (.ref (He.ga K "BadSheet")) = some (.type "type")),
  fun K => PySem.W.keepIn K (.ref (He.ga K "BadSheet")),
  fun K => decide (PySem.W.findIn K (.ref (He.ga K "BadSheet")) "__init__" = some (some (.ref (He.ma K (He.ga K "BadSheet") "__init__")))),
  fun K => decide (PySem.W.typeIn K (.ref (He.ma K (He.ga K "BadSheet") "__init__")) = some (.type "function")),
  fun K => decide (PySem.W.findIn K (.ref (He.ga K "BadSheet")) "word" = some none),
  fun K => PySem.W.keepIn K (.ref (He.ma K (He.ga K "BadSheet") "__init__")),
  fun K => decide (PySem.W.findIn K (.ref (He.ga K "BadSheet")) "__getattribute__" = some (some (.builtin "BaseException.__getattribute__"))),
  fun K => decide (PySem.W.findIn K (.ref (He.ga K "BadSheet")) "__getattr__" = some none),
  fun K => PySem.W.hasDictIn K (He.ga K "BadSheet"),
  fun K => decide (PySem.W.nsIn K mainGlobals "BadText" = some (some (.ref (He.ga K "BadText")))),
  fun K => chkXc (He.ga K "BadText") "ValueError.__new__" (PySem.HandSPX.refsVE) K,
  fun K => decide (PySem.W.findIn K (.ref (He.ga K "BadText")) "__setattr__" = some (some (.builtin "object.__setattr__"))),
  fun K => decide (PySem.W.subIn K (.ref (He.ga K "BadText")) (.type "BaseException") = some true),
  fun K => decide (PySem.W.typeIn K (.ref (He.ga K "BadText")) = some (.type "type")),
  fun K => PySem.W.keepIn K (.ref (He.ga K "BadText")),
  fun K => decide (PySem.W.findIn K (.ref (He.ga K "BadText")) "__init__" = some (some (.ref (He.ma K (He.ga K "BadText") "__init__")))),
  fun K => decide (PySem.W.typeIn K (.ref (He.ma K (He.ga K "BadText") "__init__")) = some (.type "function")),
  fun K => decide (PySem.W.findIn K (.ref (He.ga K "BadText")) "number" = some none),
  fun K => decide (PySem.W.findIn K (.ref (He.ga K "BadText")) "line" = some none),
  fun K => PySem.W.keepIn K (.ref (He.ma K (He.ga K "BadText") "__init__")),
  fun K => decide (PySem.W.findIn K (.ref (He.ga K "BadText")) "__getattribute__" = some (some (.builtin "BaseException.__getattribute__"))),
  fun K => decide (PySem.W.findIn K (.ref (He.ga K "BadText")) "__getattr__" = some none),
  fun K => PySem.W.hasDictIn K (He.ga K "BadText"),
  fun K => decide (PySem.W.nsIn K mainGlobals "BadValue" = some (some (.ref (He.ga K "BadValue")))),
  fun K => chkXc (He.ga K "BadValue") "ValueError.__new__" (PySem.HandSPX.refsVE) K,
  fun K => decide (PySem.W.findIn K (.ref (He.ga K "BadValue")) "__setattr__" = some (some (.builtin "object.__setattr__"))),
  fun K => decide (PySem.W.subIn K (.ref (He.ga K "BadValue")) (.type "BaseException") = some true),
  fun K => decide (PySem.W.typeIn K (.ref (He.ga K "BadValue")) = some (.type "type")),
  fun K => PySem.W.keepIn K (.ref (He.ga K "BadValue")),
  fun K => decide (PySem.W.findIn K (.ref (He.ga K "BadValue")) "__init__" = some (some (.ref (He.ma K (He.ga K "BadValue") "__init__")))),
  fun K => decide (PySem.W.typeIn K (.ref (He.ma K (He.ga K "BadValue") "__init__")) = some (.type "function")),
  fun K => decide (PySem.W.findIn K (.ref (He.ga K "BadValue")) "value" = some none),
  fun K => PySem.W.keepIn K (.ref (He.ma K (He.ga K "BadValue") "__init__")),
  fun K => decide (PySem.W.findIn K (.ref (He.ga K "BadValue")) "__getattribute__" = some (some (.builtin "BaseException.__getattribute__"))),
  fun K => decide (PySem.W.findIn K (.ref (He.ga K "BadValue")) "__getattr__" = some none),
  fun K => PySem.W.hasDictIn K (He.ga K "BadValue"),
  fun K => decide (PySem.W.nsIn K mainGlobals "Barred" = some (some (.ref (He.ga K "Barred")))),
  fun K => chkXc (He.ga K "Barred") "ValueError.__new__" (PySem.HandSPX.refsVE) K,
  fun K => decide (PySem.W.findIn K (.ref (He.ga K "Barred")) "__setattr__" = some (some (.builtin "object.__setattr__"))),
  fun K => decide (PySem.W.subIn K (.ref (He.ga K "Barred")) (.type "BaseException") = some true),
  fun K => decide (PySem.W.typeIn K (.ref (He.ga K "Barred")) = some (.type "type")),
  fun K => PySem.W.keepIn K (.ref (He.ga K "Barred")),
  fun K => decide (PySem.W.findIn K (.ref (He.ga K "Barred")) "__init__" = some (some (.ref (He.ma K (He.ga K "Barred") "__init__")))),
  fun K => decide (PySem.W.typeIn K (.ref (He.ma K (He.ga K "Barred") "__init__")) = some (.type "function")),
  fun K => decide (PySem.W.findIn K (.ref (He.ga K "Barred")) "numbers" = some none),
  fun K => PySem.W.keepIn K (.ref (He.ma K (He.ga K "Barred") "__init__")),
  fun K => decide (PySem.W.findIn K (.ref (He.ga K "Barred")) "__getattribute__" = some (some (.builtin "BaseException.__getattribute__"))),
  fun K => decide (PySem.W.findIn K (.ref (He.ga K "Barred")) "__getattr__" = some none),
  fun K => PySem.W.hasDictIn K (He.ga K "Barred"),
  fun K => decide (PySem.W.nsIn K mainGlobals "Full" = some (some (.ref (He.ga K "Full")))),
  fun K => decide (PySem.W.nsIn K mainGlobals "NothingToUndo" = some (some (.ref (He.ga K "NothingToUndo")))),
  fun K => decide (PySem.W.nsIn K mainGlobals "TooMany" = some (some (.ref (He.ga K "TooMany")))),
  fun K => chkXc (He.ga K "TooMany") "ValueError.__new__" (PySem.HandSPX.refsVE) K,
  fun K => decide (PySem.W.findIn K (.ref (He.ga K "TooMany")) "__setattr__" = some (some (.builtin "object.__setattr__"))),
  fun K => decide (PySem.W.subIn K (.ref (He.ga K "TooMany")) (.type "BaseException") = some true),
  fun K => decide (PySem.W.typeIn K (.ref (He.ga K "TooMany")) = some (.type "type")),
  fun K => PySem.W.keepIn K (.ref (He.ga K "TooMany")),
  fun K => decide (PySem.W.findIn K (.ref (He.ga K "TooMany")) "__init__" = some (some (.ref (He.ma K (He.ga K "TooMany") "__init__")))),
  fun K => decide (PySem.W.typeIn K (.ref (He.ma K (He.ga K "TooMany") "__init__")) = some (.type "function")),
  fun K => decide (PySem.W.findIn K (.ref (He.ga K "TooMany")) "limit" = some none),
  fun K => PySem.W.keepIn K (.ref (He.ma K (He.ga K "TooMany") "__init__")),
  fun K => decide (PySem.W.findIn K (.ref (He.ga K "TooMany")) "__getattribute__" = some (some (.builtin "BaseException.__getattribute__"))),
  fun K => decide (PySem.W.findIn K (.ref (He.ga K "TooMany")) "__getattr__" = some none),
  fun K => PySem.W.hasDictIn K (He.ga K "TooMany"),
  fun K => decide (PySem.W.nsIn K mainGlobals "NoKey" = some (some (.ref (He.ga K "NoKey")))),
  fun K => chkXc (He.ga K "NoKey") "LookupError.__new__" (PySem.W.excTail leTail) K,
  fun K => decide (PySem.W.findIn K (.ref (He.ga K "NoKey")) "__setattr__" = some (some (.builtin "object.__setattr__"))),
  fun K => decide (PySem.W.subIn K (.ref (He.ga K "NoKey")) (.type "BaseException") = some true),
  fun K => decide (PySem.W.typeIn K (.ref (He.ga K "NoKey")) = some (.type "type")),
  fun K => PySem.W.keepIn K (.ref (He.ga K "NoKey")),
  fun K => decide (PySem.W.findIn K (.ref (He.ga K "NoKey")) "__init__" = some (some (.ref (He.ma K (He.ga K "NoKey") "__init__")))),
  fun K => decide (PySem.W.typeIn K (.ref (He.ma K (He.ga K "NoKey") "__init__")) = some (.type "function")),
  fun K => decide (PySem.W.findIn K (.ref (He.ga K "NoKey")) "number" = some none),
  fun K => PySem.W.keepIn K (.ref (He.ma K (He.ga K "NoKey") "__init__")),
  fun K => decide (PySem.W.findIn K (.ref (He.ga K "NoKey")) "__getattribute__" = some (some (.builtin "BaseException.__getattribute__"))),
  fun K => decide (PySem.W.findIn K (.ref (He.ga K "NoKey")) "__getattr__" = some none),
  fun K => PySem.W.hasDictIn K (He.ga K "NoKey"),
  fun K => decide (PySem.W.nsIn K mainGlobals "NoPart" = some (some (.ref (He.ga K "NoPart")))),
  fun K => chkXc (He.ga K "NoPart") "LookupError.__new__" (PySem.W.excTail leTail) K,
  fun K => decide (PySem.W.findIn K (.ref (He.ga K "NoPart")) "__setattr__" = some (some (.builtin "object.__setattr__"))),
  fun K => decide (PySem.W.subIn K (.ref (He.ga K "NoPart")) (.type "BaseException") = some true),
  fun K => decide (PySem.W.typeIn K (.ref (He.ga K "NoPart")) = some (.type "type")),
  fun K => PySem.W.keepIn K (.ref (He.ga K "NoPart")),
  fun K => decide (PySem.W.findIn K (.ref (He.ga K "NoPart")) "__init__" = some (some (.ref (He.ma K (He.ga K "NoPart") "__init__")))),
  fun K => decide (PySem.W.typeIn K (.ref (He.ma K (He.ga K "NoPart") "__init__")) = some (.type "function")),
  fun K => decide (PySem.W.findIn K (.ref (He.ga K "NoPart")) "number" = some none),
  fun K => PySem.W.keepIn K (.ref (He.ma K (He.ga K "NoPart") "__init__")),
  fun K => decide (PySem.W.findIn K (.ref (He.ga K "NoPart")) "__getattribute__" = some (some (.builtin "BaseException.__getattribute__"))),
  fun K => decide (PySem.W.findIn K (.ref (He.ga K "NoPart")) "__getattr__" = some none),
  fun K => PySem.W.hasDictIn K (He.ga K "NoPart"),
  fun K => PySem.W.excIn K (He.ga K "Full") [.type "ValueError", .type "Exception", .type "BaseException", .type "object"] "ValueError.__new__",
  fun K => PySem.W.keepIn K (.ref (He.ga K "Full")),
  fun K => decide (PySem.W.subIn K (.ref (He.ga K "Full")) (.type "BaseException") = some true),
  fun K => decide (PySem.W.typeIn K (.ref (He.ga K "Full")) = some (.type "type")),
  fun K => decide (PySem.W.findIn K (.ref (He.ga K "Full")) "__getattribute__" = some (some (.builtin "BaseException.__getattribute__"))),
  fun K => decide (PySem.W.findIn K (.ref (He.ga K "Full")) "__getattr__" = some none),
  fun K => PySem.W.hasDictIn K (He.ga K "Full"),
  fun K => PySem.W.excIn K (He.ga K "NothingToUndo") [.type "ValueError", .type "Exception", .type "BaseException", .type "object"] "ValueError.__new__",
  fun K => PySem.W.keepIn K (.ref (He.ga K "NothingToUndo")),
  fun K => decide (PySem.W.subIn K (.ref (He.ga K "NothingToUndo")) (.type "BaseException") = some true),
  fun K => decide (PySem.W.typeIn K (.ref (He.ga K "NothingToUndo")) = some (.type "type")),
  fun K => decide (PySem.W.findIn K (.ref (He.ga K "NothingToUndo")) "__getattribute__" = some (some (.builtin "BaseException.__getattribute__"))),
  fun K => decide (PySem.W.findIn K (.ref (He.ga K "NothingToUndo")) "__getattr__" = some none),
  fun K => PySem.W.hasDictIn K (He.ga K "NothingToUndo"),
  fun K => decide (PySem.W.nsIn K mainGlobals "LookupError" = some none),
  fun K => chkCv (.type "LookupError") "__init__" "LookupError.__init__" K,
  fun K => decide (PySem.W.findIn K (.ref (He.ga K "BadKey")) "__class__" = some (some (.builtin "object.__class__"))),
  fun K => decide (PySem.W.mroIn K (He.ga K "BadKey") (.type "object") = some true),
  fun K => decide (PySem.W.findIn K (.ref (He.ga K "BadSheet")) "__class__" = some (some (.builtin "object.__class__"))),
  fun K => decide (PySem.W.mroIn K (He.ga K "BadSheet") (.type "object") = some true),
  fun K => decide (PySem.W.findIn K (.ref (He.ga K "BadText")) "__class__" = some (some (.builtin "object.__class__"))),
  fun K => decide (PySem.W.mroIn K (He.ga K "BadText") (.type "object") = some true),
  fun K => decide (PySem.W.findIn K (.ref (He.ga K "BadValue")) "__class__" = some (some (.builtin "object.__class__"))),
  fun K => decide (PySem.W.mroIn K (He.ga K "BadValue") (.type "object") = some true),
  fun K => decide (PySem.W.findIn K (.ref (He.ga K "Barred")) "__class__" = some (some (.builtin "object.__class__"))),
  fun K => decide (PySem.W.mroIn K (He.ga K "Barred") (.type "object") = some true),
  fun K => decide (PySem.W.findIn K (.ref (He.ga K "Full")) "__class__" = some (some (.builtin "object.__class__"))),
  fun K => decide (PySem.W.mroIn K (He.ga K "Full") (.type "object") = some true),
  fun K => decide (PySem.W.findIn K (.ref (He.ga K "NothingToUndo")) "__class__" = some (some (.builtin "object.__class__"))),
  fun K => decide (PySem.W.mroIn K (He.ga K "NothingToUndo") (.type "object") = some true),
  fun K => decide (PySem.W.findIn K (.ref (He.ga K "TooMany")) "__class__" = some (some (.builtin "object.__class__"))),
  fun K => decide (PySem.W.mroIn K (He.ga K "TooMany") (.type "object") = some true),
  fun K => decide (PySem.W.findIn K (.ref (He.ga K "NoKey")) "__class__" = some (some (.builtin "object.__class__"))),
  fun K => decide (PySem.W.mroIn K (He.ga K "NoKey") (.type "object") = some true),
  fun K => decide (PySem.W.findIn K (.ref (He.ga K "NoPart")) "__class__" = some (some (.builtin "object.__class__"))),
  fun K => decide (PySem.W.mroIn K (He.ga K "NoPart") (.type "object") = some true),
  fun K => decide (PySem.W.specialIn K (.builtin "object.__class__") "__get__" = some (some (.builtin "getset_descriptor.__get__"))),
  fun K => decide (PySem.W.takesIn K (.builtin "object.__class__") = some true),
  fun K => decide (PySem.W.kitOne K (.ref (He.ga K "BadKey")) (.ref (He.ga K "BadKey")) = some true),
  fun K => decide (PySem.W.kitOne K (.ref (He.ga K "BadSheet")) (.ref (He.ga K "BadKey")) = some false),
  fun K => decide (PySem.W.kitOne K (.ref (He.ga K "BadText")) (.ref (He.ga K "BadKey")) = some false),
  fun K => decide (PySem.W.kitOne K (.ref (He.ga K "BadValue")) (.ref (He.ga K "BadKey")) = some false),
  fun K => decide (PySem.W.kitOne K (.ref (He.ga K "Barred")) (.ref (He.ga K "BadKey")) = some false),
  fun K => decide (PySem.W.kitOne K (.ref (He.ga K "Full")) (.ref (He.ga K "BadKey")) = some false),
  fun K => decide (PySem.W.kitOne K (.ref (He.ga K "NothingToUndo")) (.ref (He.ga K "BadKey")) = some false),
  fun K => decide (PySem.W.kitOne K (.ref (He.ga K "TooMany")) (.ref (He.ga K "BadKey")) = some false),
  fun K => decide (PySem.W.kitOne K (.ref (He.ga K "NoKey")) (.ref (He.ga K "BadKey")) = some false),
  fun K => decide (PySem.W.kitOne K (.ref (He.ga K "NoPart")) (.ref (He.ga K "BadKey")) = some false),
  fun K => decide (PySem.W.kitOne K (.ref (He.ga K "BadSheet")) (.ref (He.ga K "BadSheet")) = some true),
  fun K => decide (PySem.W.kitOne K (.ref (He.ga K "BadKey")) (.ref (He.ga K "BadSheet")) = some false),
  fun K => decide (PySem.W.kitOne K (.ref (He.ga K "BadText")) (.ref (He.ga K "BadSheet")) = some false),
  fun K => decide (PySem.W.kitOne K (.ref (He.ga K "BadValue")) (.ref (He.ga K "BadSheet")) = some false),
  fun K => decide (PySem.W.kitOne K (.ref (He.ga K "Barred")) (.ref (He.ga K "BadSheet")) = some false),
  fun K => decide (PySem.W.kitOne K (.ref (He.ga K "Full")) (.ref (He.ga K "BadSheet")) = some false),
  fun K => decide (PySem.W.kitOne K (.ref (He.ga K "NothingToUndo")) (.ref (He.ga K "BadSheet")) = some false),
  fun K => decide (PySem.W.kitOne K (.ref (He.ga K "TooMany")) (.ref (He.ga K "BadSheet")) = some false),
  fun K => decide (PySem.W.kitOne K (.ref (He.ga K "NoKey")) (.ref (He.ga K "BadSheet")) = some false),
  fun K => decide (PySem.W.kitOne K (.ref (He.ga K "NoPart")) (.ref (He.ga K "BadSheet")) = some false),
  fun K => decide (PySem.W.kitOne K (.ref (He.ga K "BadText")) (.ref (He.ga K "BadText")) = some true),
  fun K => decide (PySem.W.kitOne K (.ref (He.ga K "BadKey")) (.ref (He.ga K "BadText")) = some false),
  fun K => decide (PySem.W.kitOne K (.ref (He.ga K "BadSheet")) (.ref (He.ga K "BadText")) = some false),
  fun K => decide (PySem.W.kitOne K (.ref (He.ga K "BadValue")) (.ref (He.ga K "BadText")) = some false),
  fun K => decide (PySem.W.kitOne K (.ref (He.ga K "Barred")) (.ref (He.ga K "BadText")) = some false),
  fun K => decide (PySem.W.kitOne K (.ref (He.ga K "Full")) (.ref (He.ga K "BadText")) = some false),
  fun K => decide (PySem.W.kitOne K (.ref (He.ga K "NothingToUndo")) (.ref (He.ga K "BadText")) = some false),
  fun K => decide (PySem.W.kitOne K (.ref (He.ga K "TooMany")) (.ref (He.ga K "BadText")) = some false),
  fun K => decide (PySem.W.kitOne K (.ref (He.ga K "NoKey")) (.ref (He.ga K "BadText")) = some false),
  fun K => decide (PySem.W.kitOne K (.ref (He.ga K "NoPart")) (.ref (He.ga K "BadText")) = some false),
  fun K => decide (PySem.W.kitOne K (.ref (He.ga K "BadValue")) (.ref (He.ga K "BadValue")) = some true),
  fun K => decide (PySem.W.kitOne K (.ref (He.ga K "BadKey")) (.ref (He.ga K "BadValue")) = some false),
  fun K => decide (PySem.W.kitOne K (.ref (He.ga K "BadSheet")) (.ref (He.ga K "BadValue")) = some false),
  fun K => decide (PySem.W.kitOne K (.ref (He.ga K "BadText")) (.ref (He.ga K "BadValue")) = some false),
  fun K => decide (PySem.W.kitOne K (.ref (He.ga K "Barred")) (.ref (He.ga K "BadValue")) = some false),
  fun K => decide (PySem.W.kitOne K (.ref (He.ga K "Full")) (.ref (He.ga K "BadValue")) = some false),
  fun K => decide (PySem.W.kitOne K (.ref (He.ga K "NothingToUndo")) (.ref (He.ga K "BadValue")) = some false),
  fun K => decide (PySem.W.kitOne K (.ref (He.ga K "TooMany")) (.ref (He.ga K "BadValue")) = some false),
  fun K => decide (PySem.W.kitOne K (.ref (He.ga K "NoKey")) (.ref (He.ga K "BadValue")) = some false),
  fun K => decide (PySem.W.kitOne K (.ref (He.ga K "NoPart")) (.ref (He.ga K "BadValue")) = some false),
  fun K => decide (PySem.W.kitOne K (.ref (He.ga K "Barred")) (.ref (He.ga K "Barred")) = some true),
  fun K => decide (PySem.W.kitOne K (.ref (He.ga K "BadKey")) (.ref (He.ga K "Barred")) = some false),
  fun K => decide (PySem.W.kitOne K (.ref (He.ga K "BadSheet")) (.ref (He.ga K "Barred")) = some false),
  fun K => decide (PySem.W.kitOne K (.ref (He.ga K "BadText")) (.ref (He.ga K "Barred")) = some false),
  fun K => decide (PySem.W.kitOne K (.ref (He.ga K "BadValue")) (.ref (He.ga K "Barred")) = some false),
  fun K => decide (PySem.W.kitOne K (.ref (He.ga K "Full")) (.ref (He.ga K "Barred")) = some false),
  fun K => decide (PySem.W.kitOne K (.ref (He.ga K "NothingToUndo")) (.ref (He.ga K "Barred")) = some false),
  fun K => decide (PySem.W.kitOne K (.ref (He.ga K "TooMany")) (.ref (He.ga K "Barred")) = some false),
  fun K => decide (PySem.W.kitOne K (.ref (He.ga K "NoKey")) (.ref (He.ga K "Barred")) = some false),
  fun K => decide (PySem.W.kitOne K (.ref (He.ga K "NoPart")) (.ref (He.ga K "Barred")) = some false),
  fun K => decide (PySem.W.kitOne K (.ref (He.ga K "BadKey")) (.ref (He.ga K "CellError")) = some true),
  fun K => decide (PySem.W.kitOne K (.ref (He.ga K "BadSheet")) (.ref (He.ga K "CellError")) = some true),
  fun K => decide (PySem.W.kitOne K (.ref (He.ga K "BadText")) (.ref (He.ga K "CellError")) = some true),
  fun K => decide (PySem.W.kitOne K (.ref (He.ga K "BadValue")) (.ref (He.ga K "CellError")) = some true),
  fun K => decide (PySem.W.kitOne K (.ref (He.ga K "Barred")) (.ref (He.ga K "CellError")) = some true),
  fun K => decide (PySem.W.kitOne K (.ref (He.ga K "Full")) (.ref (He.ga K "CellError")) = some true),
  fun K => decide (PySem.W.kitOne K (.ref (He.ga K "NothingToUndo")) (.ref (He.ga K "CellError")) = some true),
  fun K => decide (PySem.W.kitOne K (.ref (He.ga K "TooMany")) (.ref (He.ga K "CellError")) = some true),
  fun K => decide (PySem.W.kitOne K (.ref (He.ga K "NoKey")) (.ref (He.ga K "CellError")) = some false),
  fun K => decide (PySem.W.kitOne K (.ref (He.ga K "NoPart")) (.ref (He.ga K "CellError")) = some false),
  fun K => decide (PySem.W.kitOne K (.ref (He.ga K "Full")) (.ref (He.ga K "Full")) = some true),
  fun K => decide (PySem.W.kitOne K (.ref (He.ga K "BadKey")) (.ref (He.ga K "Full")) = some false),
  fun K => decide (PySem.W.kitOne K (.ref (He.ga K "BadSheet")) (.ref (He.ga K "Full")) = some false),
  fun K => decide (PySem.W.kitOne K (.ref (He.ga K "BadText")) (.ref (He.ga K "Full")) = some false),
  fun K => decide (PySem.W.kitOne K (.ref (He.ga K "BadValue")) (.ref (He.ga K "Full")) = some false),
  fun K => decide (PySem.W.kitOne K (.ref (He.ga K "Barred")) (.ref (He.ga K "Full")) = some false),
  fun K => decide (PySem.W.kitOne K (.ref (He.ga K "NothingToUndo")) (.ref (He.ga K "Full")) = some false),
  fun K => decide (PySem.W.kitOne K (.ref (He.ga K "TooMany")) (.ref (He.ga K "Full")) = some false),
  fun K => decide (PySem.W.kitOne K (.ref (He.ga K "NoKey")) (.ref (He.ga K "Full")) = some false),
  fun K => decide (PySem.W.kitOne K (.ref (He.ga K "NoPart")) (.ref (He.ga K "Full")) = some false),
  fun K => decide (PySem.W.kitOne K (.ref (He.ga K "BadKey")) (.type "IndexError") = some false),
  fun K => decide (PySem.W.kitOne K (.ref (He.ga K "BadSheet")) (.type "IndexError") = some false),
  fun K => decide (PySem.W.kitOne K (.ref (He.ga K "BadText")) (.type "IndexError") = some false),
  fun K => decide (PySem.W.kitOne K (.ref (He.ga K "BadValue")) (.type "IndexError") = some false),
  fun K => decide (PySem.W.kitOne K (.ref (He.ga K "Barred")) (.type "IndexError") = some false),
  fun K => decide (PySem.W.kitOne K (.ref (He.ga K "Full")) (.type "IndexError") = some false),
  fun K => decide (PySem.W.kitOne K (.ref (He.ga K "NothingToUndo")) (.type "IndexError") = some false),
  fun K => decide (PySem.W.kitOne K (.ref (He.ga K "TooMany")) (.type "IndexError") = some false),
  fun K => decide (PySem.W.kitOne K (.ref (He.ga K "NoKey")) (.type "IndexError") = some false),
  fun K => decide (PySem.W.kitOne K (.ref (He.ga K "NoPart")) (.type "IndexError") = some false),
  fun K => decide (PySem.W.kitOne K (.ref (He.ga K "BadKey")) (.type "KeyError") = some false),
  fun K => decide (PySem.W.kitOne K (.ref (He.ga K "BadSheet")) (.type "KeyError") = some false),
  fun K => decide (PySem.W.kitOne K (.ref (He.ga K "BadText")) (.type "KeyError") = some false),
  fun K => decide (PySem.W.kitOne K (.ref (He.ga K "BadValue")) (.type "KeyError") = some false),
  fun K => decide (PySem.W.kitOne K (.ref (He.ga K "Barred")) (.type "KeyError") = some false),
  fun K => decide (PySem.W.kitOne K (.ref (He.ga K "Full")) (.type "KeyError") = some false),
  fun K => decide (PySem.W.kitOne K (.ref (He.ga K "NothingToUndo")) (.type "KeyError") = some false),
  fun K => decide (PySem.W.kitOne K (.ref (He.ga K "TooMany")) (.type "KeyError") = some false),
  fun K => decide (PySem.W.kitOne K (.ref (He.ga K "NoKey")) (.type "KeyError") = some false),
  fun K => decide (PySem.W.kitOne K (.ref (He.ga K "NoPart")) (.type "KeyError") = some false),
  fun K => decide (PySem.W.kitOne K (.ref (He.ga K "NoKey")) (.type "LookupError") = some true),
  fun K => decide (PySem.W.kitOne K (.ref (He.ga K "NoPart")) (.type "LookupError") = some true),
  fun K => decide (PySem.W.kitOne K (.ref (He.ga K "BadKey")) (.type "LookupError") = some false),
  fun K => decide (PySem.W.kitOne K (.ref (He.ga K "BadSheet")) (.type "LookupError") = some false),
  fun K => decide (PySem.W.kitOne K (.ref (He.ga K "BadText")) (.type "LookupError") = some false),
  fun K => decide (PySem.W.kitOne K (.ref (He.ga K "BadValue")) (.type "LookupError") = some false),
  fun K => decide (PySem.W.kitOne K (.ref (He.ga K "Barred")) (.type "LookupError") = some false),
  fun K => decide (PySem.W.kitOne K (.ref (He.ga K "Full")) (.type "LookupError") = some false),
  fun K => decide (PySem.W.kitOne K (.ref (He.ga K "NothingToUndo")) (.type "LookupError") = some false),
  fun K => decide (PySem.W.kitOne K (.ref (He.ga K "TooMany")) (.type "LookupError") = some false),
  fun K => decide (PySem.W.kitOne K (.ref (He.ga K "NoKey")) (.ref (He.ga K "NoKey")) = some true),
  fun K => decide (PySem.W.kitOne K (.ref (He.ga K "BadKey")) (.ref (He.ga K "NoKey")) = some false),
  fun K => decide (PySem.W.kitOne K (.ref (He.ga K "BadSheet")) (.ref (He.ga K "NoKey")) = some false),
  fun K => decide (PySem.W.kitOne K (.ref (He.ga K "BadText")) (.ref (He.ga K "NoKey")) = some false),
  fun K => decide (PySem.W.kitOne K (.ref (He.ga K "BadValue")) (.ref (He.ga K "NoKey")) = some false),
  fun K => decide (PySem.W.kitOne K (.ref (He.ga K "Barred")) (.ref (He.ga K "NoKey")) = some false),
  fun K => decide (PySem.W.kitOne K (.ref (He.ga K "Full")) (.ref (He.ga K "NoKey")) = some false),
  fun K => decide (PySem.W.kitOne K (.ref (He.ga K "NothingToUndo")) (.ref (He.ga K "NoKey")) = some false),
  fun K => decide (PySem.W.kitOne K (.ref (He.ga K "TooMany")) (.ref (He.ga K "NoKey")) = some false),
  fun K => decide (PySem.W.kitOne K (.ref (He.ga K "NoPart")) (.ref (He.ga K "NoKey")) = some false),
  fun K => decide (PySem.W.kitOne K (.ref (He.ga K "NoPart")) (.ref (He.ga K "NoPart")) = some true),
  fun K => decide (PySem.W.kitOne K (.ref (He.ga K "BadKey")) (.ref (He.ga K "NoPart")) = some false),
  fun K => decide (PySem.W.kitOne K (.ref (He.ga K "BadSheet")) (.ref (He.ga K "NoPart")) = some false),
  fun K => decide (PySem.W.kitOne K (.ref (He.ga K "BadText")) (.ref (He.ga K "NoPart")) = some false),
  fun K => decide (PySem.W.kitOne K (.ref (He.ga K "BadValue")) (.ref (He.ga K "NoPart")) = some false),
  fun K => decide (PySem.W.kitOne K (.ref (He.ga K "Barred")) (.ref (He.ga K "NoPart")) = some false),
  fun K => decide (PySem.W.kitOne K (.ref (He.ga K "Full")) (.ref (He.ga K "NoPart")) = some false),
  fun K => decide (PySem.W.kitOne K (.ref (He.ga K "NothingToUndo")) (.ref (He.ga K "NoPart")) = some false),
  fun K => decide (PySem.W.kitOne K (.ref (He.ga K "TooMany")) (.ref (He.ga K "NoPart")) = some false),
  fun K => decide (PySem.W.kitOne K (.ref (He.ga K "NoKey")) (.ref (He.ga K "NoPart")) = some false),
  fun K => decide (PySem.W.kitOne K (.ref (He.ga K "NothingToUndo")) (.ref (He.ga K "NothingToUndo")) = some true),
  fun K => decide (PySem.W.kitOne K (.ref (He.ga K "BadKey")) (.ref (He.ga K "NothingToUndo")) = some false),
  fun K => decide (PySem.W.kitOne K (.ref (He.ga K "BadSheet")) (.ref (He.ga K "NothingToUndo")) = some false),
  fun K => decide (PySem.W.kitOne K (.ref (He.ga K "BadText")) (.ref (He.ga K "NothingToUndo")) = some false),
  fun K => decide (PySem.W.kitOne K (.ref (He.ga K "BadValue")) (.ref (He.ga K "NothingToUndo")) = some false),
  fun K => decide (PySem.W.kitOne K (.ref (He.ga K "Barred")) (.ref (He.ga K "NothingToUndo")) = some false),
  fun K => decide (PySem.W.kitOne K (.ref (He.ga K "Full")) (.ref (He.ga K "NothingToUndo")) = some false),
  fun K => decide (PySem.W.kitOne K (.ref (He.ga K "TooMany")) (.ref (He.ga K "NothingToUndo")) = some false),
  fun K => decide (PySem.W.kitOne K (.ref (He.ga K "NoKey")) (.ref (He.ga K "NothingToUndo")) = some false),
  fun K => decide (PySem.W.kitOne K (.ref (He.ga K "NoPart")) (.ref (He.ga K "NothingToUndo")) = some false),
  fun K => decide (PySem.W.kitOne K (.ref (He.ga K "TooMany")) (.ref (He.ga K "TooMany")) = some true),
  fun K => decide (PySem.W.kitOne K (.ref (He.ga K "BadKey")) (.ref (He.ga K "TooMany")) = some false),
  fun K => decide (PySem.W.kitOne K (.ref (He.ga K "BadSheet")) (.ref (He.ga K "TooMany")) = some false),
  fun K => decide (PySem.W.kitOne K (.ref (He.ga K "BadText")) (.ref (He.ga K "TooMany")) = some false),
  fun K => decide (PySem.W.kitOne K (.ref (He.ga K "BadValue")) (.ref (He.ga K "TooMany")) = some false),
  fun K => decide (PySem.W.kitOne K (.ref (He.ga K "Barred")) (.ref (He.ga K "TooMany")) = some false),
  fun K => decide (PySem.W.kitOne K (.ref (He.ga K "Full")) (.ref (He.ga K "TooMany")) = some false),
  fun K => decide (PySem.W.kitOne K (.ref (He.ga K "NothingToUndo")) (.ref (He.ga K "TooMany")) = some false),
  fun K => decide (PySem.W.kitOne K (.ref (He.ga K "NoKey")) (.ref (He.ga K "TooMany")) = some false),
  fun K => decide (PySem.W.kitOne K (.ref (He.ga K "NoPart")) (.ref (He.ga K "TooMany")) = some false),
  fun K => decide (PySem.W.kitOne K (.ref (He.ga K "BadKey")) (.type "ValueError") = some true),
  fun K => decide (PySem.W.kitOne K (.ref (He.ga K "BadSheet")) (.type "ValueError") = some true),
  fun K => decide (PySem.W.kitOne K (.ref (He.ga K "BadText")) (.type "ValueError") = some true),
  fun K => decide (PySem.W.kitOne K (.ref (He.ga K "BadValue")) (.type "ValueError") = some true),
  fun K => decide (PySem.W.kitOne K (.ref (He.ga K "Barred")) (.type "ValueError") = some true),
  fun K => decide (PySem.W.kitOne K (.ref (He.ga K "Full")) (.type "ValueError") = some true),
  fun K => decide (PySem.W.kitOne K (.ref (He.ga K "NothingToUndo")) (.type "ValueError") = some true),
  fun K => decide (PySem.W.kitOne K (.ref (He.ga K "TooMany")) (.type "ValueError") = some true),
  fun K => decide (PySem.W.kitOne K (.ref (He.ga K "NoKey")) (.type "ValueError") = some false),
  fun K => decide (PySem.W.kitOne K (.ref (He.ga K "NoPart")) (.type "ValueError") = some false),
  fun K => decide (PySem.W.nsIn K mainGlobals "_law_bag" = some (some (.ref (He.ga K "_law_bag")))),
  fun K => PySem.W.keepIn K (.ref (He.ga K "_law_bag")),
  fun K => decide (PySem.W.nsIn K mainGlobals "_law_draw" = some (some (.ref (He.ga K "_law_draw")))),
  fun K => PySem.W.keepIn K (.ref (He.ga K "_law_draw")),
  fun K => decide (PySem.W.nsIn K mainGlobals "_law_pick" = some (some (.ref (He.ga K "_law_pick")))),
  fun K => PySem.W.keepIn K (.ref (He.ga K "_law_pick")),
  fun K => decide (PySem.W.nsIn K mainGlobals "_law_odd" = some (some (.ref (He.ga K "_law_odd")))),
  fun K => PySem.W.keepIn K (.ref (He.ga K "_law_odd")),
  fun K => decide (PySem.W.nsIn K mainGlobals "_law_sorts" = some (some (.ref (He.ga K "_law_sorts")))),
  fun K => PySem.W.keepIn K (.ref (He.ga K "_law_sorts")),
  fun K => decide (PySem.W.nsIn K mainGlobals "law" = some (some (.ref (He.ga K "law")))),
  fun K => PySem.W.keepIn K (.ref (He.ga K "law")),
  fun K => decide (PySem.W.nsIn K mainGlobals "IndexError" = some none),
  fun K => decide (PySem.W.nsIn K mainGlobals "KeyError" = some none),
  fun K => decide (PySem.W.nsIn K mainGlobals "LookupError" = some none),
  fun K => decide (PySem.W.nsIn K mainGlobals "ValueError" = some none),
  fun K => decide (PySem.W.nsIn K mainGlobals "abs" = some none),
  fun K => decide (PySem.W.nsIn K mainGlobals "enumerate" = some none),
  fun K => decide (PySem.W.nsIn K mainGlobals "int" = some none),
  fun K => decide (PySem.W.nsIn K mainGlobals "isinstance" = some none),
  fun K => decide (PySem.W.nsIn K mainGlobals "len" = some none),
  fun K => decide (PySem.W.nsIn K mainGlobals "list" = some none),
  fun K => decide (PySem.W.nsIn K mainGlobals "range" = some none),
  fun K => decide (PySem.W.nsIn K mainGlobals "repr" = some none),
  chkInt "MAX_CELLS" 12,
  chkInt "MAX_DEEDS" 20,
  chkInt "MAX_KEYS" 12,
  chkInt "MAX_MODULUS" 1000000000000,
  chkInt "MAX_RULED" 6]
def dfs : List Dfk := [
  ⟨fun K => (He.ma K (He.ga K "BadKey") "__init__"), "__init__", "BadKey.__init__", inClass (top 2) 0⟩,
  ⟨fun K => (He.ma K (He.ga K "BadSheet") "__init__"), "__init__", "BadSheet.__init__", inClass (top 3) 0⟩,
  ⟨fun K => (He.ma K (He.ga K "BadText") "__init__"), "__init__", "BadText.__init__", inClass (top 4) 0⟩,
  ⟨fun K => (He.ma K (He.ga K "BadValue") "__init__"), "__init__", "BadValue.__init__", inClass (top 5) 0⟩,
  ⟨fun K => (He.ma K (He.ga K "Barred") "__init__"), "__init__", "Barred.__init__", inClass (top 6) 0⟩,
  ⟨fun K => (He.ma K (He.ga K "TooMany") "__init__"), "__init__", "TooMany.__init__", inClass (top 9) 0⟩,
  ⟨fun K => (He.ma K (He.ga K "NoKey") "__init__"), "__init__", "NoKey.__init__", inClass (top 10) 0⟩,
  ⟨fun K => (He.ma K (He.ga K "NoPart") "__init__"), "__init__", "NoPart.__init__", inClass (top 11) 0⟩,
  ⟨fun K => (He.ga K "_law_bag"), "_law_bag", "_law_bag", top 18⟩,
  ⟨fun K => (He.ga K "_law_draw"), "_law_draw", "_law_draw", top 19⟩,
  ⟨fun K => (He.ga K "_law_pick"), "_law_pick", "_law_pick", top 20⟩,
  ⟨fun K => (He.ga K "_law_odd"), "_law_odd", "_law_odd", top 21⟩,
  ⟨fun K => (He.ga K "_law_sorts"), "_law_sorts", "_law_sorts", top 22⟩,
  ⟨fun K => (He.ga K "law"), "law", "law", top 23⟩]
def tfs : List (KF → Addr) := []
theorem facts {l : PySem.W.OpenLaw} {w : World} {K : KF} {h : Heap} {mg : Str → Option Value} {fa : Addr} (X : K.In h) (G : h.Ns mainGlobals mg) (hfa : mg "law" = some (.ref fa)) (c : SaysK exs dfs tfs h K) :
    ∃ fd : FuncData, (∀ (s : Shared) (v : Value), BindsTo s fd ⟨[v], []⟩ [("_law_script", v)]) ∧ ∀ base : Heap, K.In base → base.Ns mainGlobals mg → (∀ p ∈ tfs.map (fun a => cTK K (a K)), LamX.TabB base mg p.1 p.2) → FnG l.prog w K mg base 4 fa fd ["_law_script"] (spTT K 63 (tfs.map fun a => cTK K (a K))) := by
  obtain ⟨_, _, _, _, _, _, _, _, _, _, _, _, _, _, _, xo1, xr1⟩ := xc_at (C := (He.ga K "BadKey")) (nw := "ValueError.__new__") (tl := PySem.HandSPX.refsVE) (exK c 6 (f := fun K => chkXc (He.ga K "BadKey") "ValueError.__new__" (PySem.HandSPX.refsVE) K) rfl)
  obtain ⟨_, _, _, _, _, _, _, _, _, xl1, xc1⟩ := fnK_at c 0 rfl
  obtain ⟨_, _, _, _, _, _, _, _, _, _, _, _, _, _, _, xo2, xr2⟩ := xc_at (C := (He.ga K "BadSheet")) (nw := "ValueError.__new__") (tl := PySem.HandSPX.refsVE) (exK c 19 (f := fun K => chkXc (He.ga K "BadSheet") "ValueError.__new__" (PySem.HandSPX.refsVE) K) rfl)
  obtain ⟨_, _, _, _, _, _, _, _, _, xl2, xc2⟩ := fnK_at c 1 rfl
  obtain ⟨_, _, _, _, _, _, _, _, _, _, _, _, _, _, _, xo3, xr3⟩ := xc_at (C := (He.ga K "BadText")) (nw := "ValueError.__new__") (tl := PySem.HandSPX.refsVE) (exK c 32 (f := fun K => chkXc (He.ga K "BadText") "ValueError.__new__" (PySem.HandSPX.refsVE) K) rfl)
  obtain ⟨_, _, _, _, _, _, _, _, _, xl3, xc3⟩ := fnK_at c 2 rfl
  obtain ⟨_, _, _, _, _, _, _, _, _, _, _, _, _, _, _, xo4, xr4⟩ := xc_at (C := (He.ga K "BadValue")) (nw := "ValueError.__new__") (tl := PySem.HandSPX.refsVE) (exK c 46 (f := fun K => chkXc (He.ga K "BadValue") "ValueError.__new__" (PySem.HandSPX.refsVE) K) rfl)
  obtain ⟨_, _, _, _, _, _, _, _, _, xl4, xc4⟩ := fnK_at c 3 rfl
  obtain ⟨_, _, _, _, _, _, _, _, _, _, _, _, _, _, _, xo5, xr5⟩ := xc_at (C := (He.ga K "Barred")) (nw := "ValueError.__new__") (tl := PySem.HandSPX.refsVE) (exK c 59 (f := fun K => chkXc (He.ga K "Barred") "ValueError.__new__" (PySem.HandSPX.refsVE) K) rfl)
  obtain ⟨_, _, _, _, _, _, _, _, _, xl5, xc5⟩ := fnK_at c 4 rfl
  obtain ⟨_, _, _, _, _, _, _, _, _, _, _, _, _, _, _, xo8, xr8⟩ := xc_at (C := (He.ga K "TooMany")) (nw := "ValueError.__new__") (tl := PySem.HandSPX.refsVE) (exK c 74 (f := fun K => chkXc (He.ga K "TooMany") "ValueError.__new__" (PySem.HandSPX.refsVE) K) rfl)
  obtain ⟨_, _, _, _, _, _, _, _, _, xl8, xc8⟩ := fnK_at c 5 rfl
  obtain ⟨_, _, _, _, _, _, _, _, _, _, _, _, _, _, _, xo9, xr9⟩ := xc_at (C := (He.ga K "NoKey")) (nw := "LookupError.__new__") (tl := PySem.W.excTail leTail) (exK c 87 (f := fun K => chkXc (He.ga K "NoKey") "LookupError.__new__" (PySem.W.excTail leTail) K) rfl)
  obtain ⟨_, _, _, _, _, _, _, _, _, xl9, xc9⟩ := fnK_at c 6 rfl
  obtain ⟨_, _, _, _, _, _, _, _, _, _, _, _, _, _, _, xo10, xr10⟩ := xc_at (C := (He.ga K "NoPart")) (nw := "LookupError.__new__") (tl := PySem.W.excTail leTail) (exK c 100 (f := fun K => chkXc (He.ga K "NoPart") "LookupError.__new__" (PySem.W.excTail leTail) K) rfl)
  obtain ⟨_, _, _, _, _, _, _, _, _, xl10, xc10⟩ := fnK_at c 7 rfl
  obtain ⟨_, _, _, _, _, _, _, _, _, l0, c0⟩ := fnK_at c 8 rfl
  obtain ⟨_, _, _, _, _, _, _, _, _, l1, c1⟩ := fnK_at c 9 rfl
  obtain ⟨_, _, _, _, _, _, _, _, _, l2, c2⟩ := fnK_at c 10 rfl
  obtain ⟨_, _, _, _, _, _, _, _, _, l3, c3⟩ := fnK_at c 11 rfl
  obtain ⟨_, _, _, _, _, _, _, _, _, l4, c4⟩ := fnK_at c 12 rfl
  obtain ⟨_, _, _, _, _, _, _, _, _, l5, c5⟩ := fnK_at c 13 rfl
  obtain ⟨_, i_MAX_CELLS⟩ := int_at (x := "MAX_CELLS") (i := 12) (exK c 324 rfl)
  obtain ⟨_, i_MAX_DEEDS⟩ := int_at (x := "MAX_DEEDS") (i := 20) (exK c 325 rfl)
  obtain ⟨_, i_MAX_KEYS⟩ := int_at (x := "MAX_KEYS") (i := 12) (exK c 326 rfl)
  obtain ⟨_, i_MAX_MODULUS⟩ := int_at (x := "MAX_MODULUS") (i := 1000000000000) (exK c 327 rfl)
  obtain ⟨_, i_MAX_RULED⟩ := int_at (x := "MAX_RULED") (i := 6) (exK c 328 rfl)
  obtain ⟨fd, hb, hf⟩ := all_mk (l := l) (w := w) (fa := fa) (f0 := (He.ga K "_law_bag")) (f1 := (He.ga K "_law_draw")) (f2 := (He.ga K "_law_pick")) (f3 := (He.ga K "_law_odd")) (f4 := (He.ga K "_law_sorts")) (f5 := (He.ga K "law")) (X0 := (He.ga K "CellError")) (X1 := (He.ga K "BadKey")) (X2 := (He.ga K "BadSheet")) (X3 := (He.ga K "BadText")) (X4 := (He.ga K "BadValue")) (X5 := (He.ga K "Barred")) (X6 := (He.ga K "Full")) (X7 := (He.ga K "NothingToUndo")) (X8 := (He.ga K "TooMany")) (X9 := (He.ga K "NoKey")) (X10 := (He.ga K "NoPart")) (xf1 := (He.ma K (He.ga K "BadKey") "__init__")) (xf2 := (He.ma K (He.ga K "BadSheet") "__init__")) (xf3 := (He.ma K (He.ga K "BadText") "__init__")) (xf4 := (He.ma K (He.ga K "BadValue") "__init__")) (xf5 := (He.ma K (He.ga K "Barred") "__init__")) (xf8 := (He.ma K (He.ga K "TooMany") "__init__")) (xf9 := (He.ma K (He.ga K "NoKey") "__init__")) (xf10 := (He.ma K (He.ga K "NoPart") "__init__")) X G hfa
    (of_decide_eq_true (exK c 0 rfl))
    (of_decide_eq_true (exK c 1 rfl))
    (of_decide_eq_true (exK c 2 rfl))
    (exK c 3 rfl)
    (cv_at (c := (.ref (He.ga K "CellError"))) (m := "__init__") (s := "ValueError.__init__") (exK c 4 (f := fun K => chkCv (.ref (He.ga K "CellError")) "__init__" "ValueError.__init__" K) rfl))
    (of_decide_eq_true (exK c 5 rfl))
    xo1
    xr1
    (of_decide_eq_true (exK c 7 rfl))
    (of_decide_eq_true (exK c 8 rfl))
    (of_decide_eq_true (exK c 9 rfl))
    (exK c 10 rfl)
    (of_decide_eq_true (exK c 11 rfl))
    (of_decide_eq_true (exK c 12 rfl))
    (of_decide_eq_true (exK c 13 rfl))
    xl1
    xc1
    (exK c 14 rfl)
    (of_decide_eq_true (exK c 15 rfl))
    (of_decide_eq_true (exK c 16 rfl))
    (exK c 17 rfl)
    (of_decide_eq_true (exK c 18 rfl))
    xo2
    xr2
    (of_decide_eq_true (exK c 20 rfl))
    (of_decide_eq_true (exK c 21 rfl))
    (of_decide_eq_true (exK c 22 rfl))
    (exK c 23 rfl)
    (of_decide_eq_true (exK c 24 rfl))
    (of_decide_eq_true (exK c 25 rfl))
    (of_decide_eq_true (exK c 26 rfl))
    xl2
    xc2
    (exK c 27 rfl)
    (of_decide_eq_true (exK c 28 rfl))
    (of_decide_eq_true (exK c 29 rfl))
    (exK c 30 rfl)
    (of_decide_eq_true (exK c 31 rfl))
    xo3
    xr3
    (of_decide_eq_true (exK c 33 rfl))
    (of_decide_eq_true (exK c 34 rfl))
    (of_decide_eq_true (exK c 35 rfl))
    (exK c 36 rfl)
    (of_decide_eq_true (exK c 37 rfl))
    (of_decide_eq_true (exK c 38 rfl))
    (of_decide_eq_true (exK c 39 rfl))
    (of_decide_eq_true (exK c 40 rfl))
    xl3
    xc3
    (exK c 41 rfl)
    (of_decide_eq_true (exK c 42 rfl))
    (of_decide_eq_true (exK c 43 rfl))
    (exK c 44 rfl)
    (of_decide_eq_true (exK c 45 rfl))
    xo4
    xr4
    (of_decide_eq_true (exK c 47 rfl))
    (of_decide_eq_true (exK c 48 rfl))
    (of_decide_eq_true (exK c 49 rfl))
    (exK c 50 rfl)
    (of_decide_eq_true (exK c 51 rfl))
    (of_decide_eq_true (exK c 52 rfl))
    (of_decide_eq_true (exK c 53 rfl))
    xl4
    xc4
    (exK c 54 rfl)
    (of_decide_eq_true (exK c 55 rfl))
    (of_decide_eq_true (exK c 56 rfl))
    (exK c 57 rfl)
    (of_decide_eq_true (exK c 58 rfl))
    xo5
    xr5
    (of_decide_eq_true (exK c 60 rfl))
    (of_decide_eq_true (exK c 61 rfl))
    (of_decide_eq_true (exK c 62 rfl))
    (exK c 63 rfl)
    (of_decide_eq_true (exK c 64 rfl))
    (of_decide_eq_true (exK c 65 rfl))
    (of_decide_eq_true (exK c 66 rfl))
    xl5
    xc5
    (exK c 67 rfl)
    (of_decide_eq_true (exK c 68 rfl))
    (of_decide_eq_true (exK c 69 rfl))
    (exK c 70 rfl)
    (of_decide_eq_true (exK c 71 rfl))
    (of_decide_eq_true (exK c 72 rfl))
    (of_decide_eq_true (exK c 73 rfl))
    xo8
    xr8
    (of_decide_eq_true (exK c 75 rfl))
    (of_decide_eq_true (exK c 76 rfl))
    (of_decide_eq_true (exK c 77 rfl))
    (exK c 78 rfl)
    (of_decide_eq_true (exK c 79 rfl))
    (of_decide_eq_true (exK c 80 rfl))
    (of_decide_eq_true (exK c 81 rfl))
    xl8
    xc8
    (exK c 82 rfl)
    (of_decide_eq_true (exK c 83 rfl))
    (of_decide_eq_true (exK c 84 rfl))
    (exK c 85 rfl)
    (of_decide_eq_true (exK c 86 rfl))
    xo9
    xr9
    (of_decide_eq_true (exK c 88 rfl))
    (of_decide_eq_true (exK c 89 rfl))
    (of_decide_eq_true (exK c 90 rfl))
    (exK c 91 rfl)
    (of_decide_eq_true (exK c 92 rfl))
    (of_decide_eq_true (exK c 93 rfl))
    (of_decide_eq_true (exK c 94 rfl))
    xl9
    xc9
    (exK c 95 rfl)
    (of_decide_eq_true (exK c 96 rfl))
    (of_decide_eq_true (exK c 97 rfl))
    (exK c 98 rfl)
    (of_decide_eq_true (exK c 99 rfl))
    xo10
    xr10
    (of_decide_eq_true (exK c 101 rfl))
    (of_decide_eq_true (exK c 102 rfl))
    (of_decide_eq_true (exK c 103 rfl))
    (exK c 104 rfl)
    (of_decide_eq_true (exK c 105 rfl))
    (of_decide_eq_true (exK c 106 rfl))
    (of_decide_eq_true (exK c 107 rfl))
    xl10
    xc10
    (exK c 108 rfl)
    (of_decide_eq_true (exK c 109 rfl))
    (of_decide_eq_true (exK c 110 rfl))
    (exK c 111 rfl)
    (exK c 112 rfl)
    (exK c 113 rfl)
    (of_decide_eq_true (exK c 114 rfl))
    (of_decide_eq_true (exK c 115 rfl))
    (of_decide_eq_true (exK c 116 rfl))
    (of_decide_eq_true (exK c 117 rfl))
    (exK c 118 rfl)
    (exK c 119 rfl)
    (exK c 120 rfl)
    (of_decide_eq_true (exK c 121 rfl))
    (of_decide_eq_true (exK c 122 rfl))
    (of_decide_eq_true (exK c 123 rfl))
    (of_decide_eq_true (exK c 124 rfl))
    (exK c 125 rfl)
    (of_decide_eq_true (exK c 126 rfl))
    (cv_at (c := (.type "LookupError")) (m := "__init__") (s := "LookupError.__init__") (exK c 127 (f := fun K => chkCv (.type "LookupError") "__init__" "LookupError.__init__" K) rfl))
    (of_decide_eq_true (exK c 128 rfl))
    (of_decide_eq_true (exK c 129 rfl))
    (of_decide_eq_true (exK c 130 rfl))
    (of_decide_eq_true (exK c 131 rfl))
    (of_decide_eq_true (exK c 132 rfl))
    (of_decide_eq_true (exK c 133 rfl))
    (of_decide_eq_true (exK c 134 rfl))
    (of_decide_eq_true (exK c 135 rfl))
    (of_decide_eq_true (exK c 136 rfl))
    (of_decide_eq_true (exK c 137 rfl))
    (of_decide_eq_true (exK c 138 rfl))
    (of_decide_eq_true (exK c 139 rfl))
    (of_decide_eq_true (exK c 140 rfl))
    (of_decide_eq_true (exK c 141 rfl))
    (of_decide_eq_true (exK c 142 rfl))
    (of_decide_eq_true (exK c 143 rfl))
    (of_decide_eq_true (exK c 144 rfl))
    (of_decide_eq_true (exK c 145 rfl))
    (of_decide_eq_true (exK c 146 rfl))
    (of_decide_eq_true (exK c 147 rfl))
    (of_decide_eq_true (exK c 148 rfl))
    (of_decide_eq_true (exK c 149 rfl))
    (of_decide_eq_true (exK c 150 rfl))
    (of_decide_eq_true (exK c 151 rfl))
    (of_decide_eq_true (exK c 152 rfl))
    (of_decide_eq_true (exK c 153 rfl))
    (of_decide_eq_true (exK c 154 rfl))
    (of_decide_eq_true (exK c 155 rfl))
    (of_decide_eq_true (exK c 156 rfl))
    (of_decide_eq_true (exK c 157 rfl))
    (of_decide_eq_true (exK c 158 rfl))
    (of_decide_eq_true (exK c 159 rfl))
    (of_decide_eq_true (exK c 160 rfl))
    (of_decide_eq_true (exK c 161 rfl))
    (of_decide_eq_true (exK c 162 rfl))
    (of_decide_eq_true (exK c 163 rfl))
    (of_decide_eq_true (exK c 164 rfl))
    (of_decide_eq_true (exK c 165 rfl))
    (of_decide_eq_true (exK c 166 rfl))
    (of_decide_eq_true (exK c 167 rfl))
    (of_decide_eq_true (exK c 168 rfl))
    (of_decide_eq_true (exK c 169 rfl))
    (of_decide_eq_true (exK c 170 rfl))
    (of_decide_eq_true (exK c 171 rfl))
    (of_decide_eq_true (exK c 172 rfl))
    (of_decide_eq_true (exK c 173 rfl))
    (of_decide_eq_true (exK c 174 rfl))
    (of_decide_eq_true (exK c 175 rfl))
    (of_decide_eq_true (exK c 176 rfl))
    (of_decide_eq_true (exK c 177 rfl))
    (of_decide_eq_true (exK c 178 rfl))
    (of_decide_eq_true (exK c 179 rfl))
    (of_decide_eq_true (exK c 180 rfl))
    (of_decide_eq_true (exK c 181 rfl))
    (of_decide_eq_true (exK c 182 rfl))
    (of_decide_eq_true (exK c 183 rfl))
    (of_decide_eq_true (exK c 184 rfl))
    (of_decide_eq_true (exK c 185 rfl))
    (of_decide_eq_true (exK c 186 rfl))
    (of_decide_eq_true (exK c 187 rfl))
    (of_decide_eq_true (exK c 188 rfl))
    (of_decide_eq_true (exK c 189 rfl))
    (of_decide_eq_true (exK c 190 rfl))
    (of_decide_eq_true (exK c 191 rfl))
    (of_decide_eq_true (exK c 192 rfl))
    (of_decide_eq_true (exK c 193 rfl))
    (of_decide_eq_true (exK c 194 rfl))
    (of_decide_eq_true (exK c 195 rfl))
    (of_decide_eq_true (exK c 196 rfl))
    (of_decide_eq_true (exK c 197 rfl))
    (of_decide_eq_true (exK c 198 rfl))
    (of_decide_eq_true (exK c 199 rfl))
    (of_decide_eq_true (exK c 200 rfl))
    (of_decide_eq_true (exK c 201 rfl))
    (of_decide_eq_true (exK c 202 rfl))
    (of_decide_eq_true (exK c 203 rfl))
    (of_decide_eq_true (exK c 204 rfl))
    (of_decide_eq_true (exK c 205 rfl))
    (of_decide_eq_true (exK c 206 rfl))
    (of_decide_eq_true (exK c 207 rfl))
    (of_decide_eq_true (exK c 208 rfl))
    (of_decide_eq_true (exK c 209 rfl))
    (of_decide_eq_true (exK c 210 rfl))
    (of_decide_eq_true (exK c 211 rfl))
    (of_decide_eq_true (exK c 212 rfl))
    (of_decide_eq_true (exK c 213 rfl))
    (of_decide_eq_true (exK c 214 rfl))
    (of_decide_eq_true (exK c 215 rfl))
    (of_decide_eq_true (exK c 216 rfl))
    (of_decide_eq_true (exK c 217 rfl))
    (of_decide_eq_true (exK c 218 rfl))
    (of_decide_eq_true (exK c 219 rfl))
    (of_decide_eq_true (exK c 220 rfl))
    (of_decide_eq_true (exK c 221 rfl))
    (of_decide_eq_true (exK c 222 rfl))
    (of_decide_eq_true (exK c 223 rfl))
    (of_decide_eq_true (exK c 224 rfl))
    (of_decide_eq_true (exK c 225 rfl))
    (of_decide_eq_true (exK c 226 rfl))
    (of_decide_eq_true (exK c 227 rfl))
    (of_decide_eq_true (exK c 228 rfl))
    (of_decide_eq_true (exK c 229 rfl))
    (of_decide_eq_true (exK c 230 rfl))
    (of_decide_eq_true (exK c 231 rfl))
    (of_decide_eq_true (exK c 232 rfl))
    (of_decide_eq_true (exK c 233 rfl))
    (of_decide_eq_true (exK c 234 rfl))
    (of_decide_eq_true (exK c 235 rfl))
    (of_decide_eq_true (exK c 236 rfl))
    (of_decide_eq_true (exK c 237 rfl))
    (of_decide_eq_true (exK c 238 rfl))
    (of_decide_eq_true (exK c 239 rfl))
    (of_decide_eq_true (exK c 240 rfl))
    (of_decide_eq_true (exK c 241 rfl))
    (of_decide_eq_true (exK c 242 rfl))
    (of_decide_eq_true (exK c 243 rfl))
    (of_decide_eq_true (exK c 244 rfl))
    (of_decide_eq_true (exK c 245 rfl))
    (of_decide_eq_true (exK c 246 rfl))
    (of_decide_eq_true (exK c 247 rfl))
    (of_decide_eq_true (exK c 248 rfl))
    (of_decide_eq_true (exK c 249 rfl))
    (of_decide_eq_true (exK c 250 rfl))
    (of_decide_eq_true (exK c 251 rfl))
    (of_decide_eq_true (exK c 252 rfl))
    (of_decide_eq_true (exK c 253 rfl))
    (of_decide_eq_true (exK c 254 rfl))
    (of_decide_eq_true (exK c 255 rfl))
    (of_decide_eq_true (exK c 256 rfl))
    (of_decide_eq_true (exK c 257 rfl))
    (of_decide_eq_true (exK c 258 rfl))
    (of_decide_eq_true (exK c 259 rfl))
    (of_decide_eq_true (exK c 260 rfl))
    (of_decide_eq_true (exK c 261 rfl))
    (of_decide_eq_true (exK c 262 rfl))
    (of_decide_eq_true (exK c 263 rfl))
    (of_decide_eq_true (exK c 264 rfl))
    (of_decide_eq_true (exK c 265 rfl))
    (of_decide_eq_true (exK c 266 rfl))
    (of_decide_eq_true (exK c 267 rfl))
    (of_decide_eq_true (exK c 268 rfl))
    (of_decide_eq_true (exK c 269 rfl))
    (of_decide_eq_true (exK c 270 rfl))
    (of_decide_eq_true (exK c 271 rfl))
    (of_decide_eq_true (exK c 272 rfl))
    (of_decide_eq_true (exK c 273 rfl))
    (of_decide_eq_true (exK c 274 rfl))
    (of_decide_eq_true (exK c 275 rfl))
    (of_decide_eq_true (exK c 276 rfl))
    (of_decide_eq_true (exK c 277 rfl))
    (of_decide_eq_true (exK c 278 rfl))
    (of_decide_eq_true (exK c 279 rfl))
    (of_decide_eq_true (exK c 280 rfl))
    (of_decide_eq_true (exK c 281 rfl))
    (of_decide_eq_true (exK c 282 rfl))
    (of_decide_eq_true (exK c 283 rfl))
    (of_decide_eq_true (exK c 284 rfl))
    (of_decide_eq_true (exK c 285 rfl))
    (of_decide_eq_true (exK c 286 rfl))
    (of_decide_eq_true (exK c 287 rfl))
    (of_decide_eq_true (exK c 288 rfl))
    (of_decide_eq_true (exK c 289 rfl))
    (of_decide_eq_true (exK c 290 rfl))
    (of_decide_eq_true (exK c 291 rfl))
    (of_decide_eq_true (exK c 292 rfl))
    (of_decide_eq_true (exK c 293 rfl))
    (of_decide_eq_true (exK c 294 rfl))
    (of_decide_eq_true (exK c 295 rfl))
    (of_decide_eq_true (exK c 296 rfl))
    (of_decide_eq_true (exK c 297 rfl))
    (of_decide_eq_true (exK c 298 rfl))
    (of_decide_eq_true (exK c 299 rfl))
    (of_decide_eq_true (exK c 300 rfl))
    l0
    c0
    (exK c 301 rfl)
    (of_decide_eq_true (exK c 302 rfl))
    l1
    c1
    (exK c 303 rfl)
    (of_decide_eq_true (exK c 304 rfl))
    l2
    c2
    (exK c 305 rfl)
    (of_decide_eq_true (exK c 306 rfl))
    l3
    c3
    (exK c 307 rfl)
    (of_decide_eq_true (exK c 308 rfl))
    l4
    c4
    (exK c 309 rfl)
    (of_decide_eq_true (exK c 310 rfl))
    l5
    c5
    (exK c 311 rfl)
    (of_decide_eq_true (exK c 312 rfl))
    (of_decide_eq_true (exK c 313 rfl))
    (of_decide_eq_true (exK c 314 rfl))
    (of_decide_eq_true (exK c 315 rfl))
    (of_decide_eq_true (exK c 316 rfl))
    (of_decide_eq_true (exK c 317 rfl))
    (of_decide_eq_true (exK c 318 rfl))
    (of_decide_eq_true (exK c 319 rfl))
    (of_decide_eq_true (exK c 320 rfl))
    (of_decide_eq_true (exK c 321 rfl))
    (of_decide_eq_true (exK c 322 rfl))
    (of_decide_eq_true (exK c 323 rfl))
    i_MAX_CELLS
    i_MAX_DEEDS
    i_MAX_KEYS
    i_MAX_MODULUS
    i_MAX_RULED
  exact ⟨fd, hb, fun base b1 b2 _ => (hf base b1 b2).toE⟩
end Kc
namespace Kc
open PySem PySem.W PySem.Calls PyProof.Rows DL
def nm0 : List PySem.Str := ["CellError", "BadKey", "BadSheet", "BadText", "BadValue", "Barred", "Full", "NothingToUndo", "TooMany", "NoKey", "NoPart", "MAX_CELLS", "MAX_DEEDS", "MAX_KEYS", "MAX_MODULUS", "MAX_RULED", "_law_bag", "_law_draw", "_law_pick", "_law_odd", "_law_sorts"]
def names : List PySem.Str := nm0
abbrev R : OpenRow := OpenLaw.row PySem.Challenge.rw_keylesscells_k51_errors_and_bounds
set_option maxHeartbeats 0 in
theorem run (w : World) : HandSHeadRun.RunEq R (view R.prog [23]) (hookK exs dfs tfs) (fun s => obsK exs dfs tfs (HandSHeadRun.getT s)) 20000 names w := by
  intro os
  kernel_rfl
end Kc
open PySem PySem.W PySem.Calls PyProof.Rows in
set_option maxRecDepth 100000 in
set_option maxHeartbeats 0 in
theorem PySem.Challenge.cw_keylesscells_k51_errors_and_bounds_holds : PySem.Challenge.rw_keylesscells_k51_errors_and_bounds.Holds := by
  w_on; o_law
  refine HandSHeadRun.head_any (r := Kc.R) (q := view Kc.R.prog [23]) (H := DL.hookK Kc.exs Kc.dfs Kc.tfs) (ob := fun s => DL.obsK Kc.exs Kc.dfs Kc.tfs (HandSHeadRun.getT s)) (M := 20000) (loose := Kc.names) (d := HandSHeadRun.topDef Kc.R.prog 23) (kwd := []) DL.obsK_eq
    (by kernel_rfl) (fun s => by kernel_rfl) Kc.run (by kernel_rfl) (by kernel_rfl) (by kernel_rfl) (by rfl) (by first | assumption | decide +kernel) (by decide +kernel) ⟨rfl, rfl, rfl, rfl, rfl, by decide +kernel⟩ ?hw ?hc
  case hw => w_witness2
  case hc =>
    refine DL.walk_K (l := PySem.Challenge.rw_keylesscells_k51_errors_and_bounds) (n := 63) (k := 4) (x := "_law_script") rfl (by decide) (by kernel_rfl) ⟨rfl, by decide, by decide⟩ (by decide +kernel) ?F
    intro w mg fa h K KX c G hmg
    have hmg2 : mg ("law" : PySem.Str) = some (.ref fa) := by
      have e : (HandSHeadRun.topDef Kc.R.prog 23).name = ("law" : PySem.Str) := by kernel_rfl
      rw [← e]; exact hmg
    exact Kc.facts KX G hmg2 c
#print axioms PySem.Challenge.cw_keylesscells_k51_errors_and_bounds_holds
