import PyProof.Rows.All
import Wide.All
import OpenK.AllK
import Wide.FinOn
import HandS.ForMost
import HandS.ForExc
import PySem.Challenge.RW_wakingheads_k79_items_written_and_read
import HandS.Lambda
import HandS.TupAny
import HandS.Deep
import HandS.More
import HandS.Flow
import HandS.IsInst
import HandS.FStr
import HandS.ExcInit
import HandS.ExcIs
import HandS.ExcField
import HandS.Dict
import HandS.Replace
import HandS.ReplaceLit
import HandS.EndTab
import PyProof.StrLawsChain
import PyProof.StrLawsTight
import PyProof.StrLawsRepr
import KE.KIntText
import PyProof.Rows.StrIntSpec
import PyProof.FitsReplace
set_option Elab.async false
set_option linter.all false
set_option maxRecDepth 100000
set_option maxHeartbeats 8000000
namespace VI
open PySem PySem.Spec L2

inductive D where
  | non | bl (b : Bool) | int (i : Int) | str (x : Str) | tup (xs : List D) | loc (l : Nat) | fn (f c : Nat) (q : Str) (ds : List D) (us : List V) | gd (k : Nat) | rl (xs : List D) | exn (c : Nat) (ns : List Str) (ds : List D)

inductive Ob where
  | lst (xs : List D)
  | dct (ks : List Key) (vs : List D)
  | dtp (ks : List (List Key)) (vs : List D)
  | ins (c : Nat) (ns : List Str) (vs : List D)

structure Exn where
  c : Nat
  ns : List Str
  vs : List D

abbrev Mem := List Ob
abbrev EnvD := List (Option D)

inductive Res (α : Type) where
  | ok (a : α) (M : Mem)
  | exc (x : Exn) (M : Mem)
  | bad

def Res.bind {α β : Type} (r : Res α) (g : α → Mem → Res β) : Res β :=
  match r with
  | .ok a M => g a M
  | .exc x M => .exc x M
  | .bad => .bad

/-- where the program's defs and classes stand -/
structure Tab where
  K : PySem.W.Frag
  fa : Nat → Addr
  ca : Nat → Addr
  ga : Nat → Addr
  gt : Nat → List (Str × D)
  fd : Nat → FuncData
  ps : Nat → List Str
  nm : Nat → Str
  tl : List (Addr × Str)

/-- a list that is only read -/
def SqR (K : PySem.W.Frag) (H : Hp) (a : Addr) (xs : List V) : Prop :=
  (∃ o, H a = some (.frz o (.lst xs))) ∨
    ∃ (o : Obj) (its : Array Value) (n : Nat), K.lookup a = some o ∧ o.cls = .type "list" ∧ o.dict = none ∧ o.data = .seq its n ∧ its.size ≤ sizeLine ∧ Vals xs its.toList
theorem SqR.sq {K : PySem.W.Frag} {H : Hp} {a : Addr} {xs : List V} (h : SqR K H a xs) : SqL K H a xs := by
  rcases h with ⟨o, h⟩ | h
  · exact .inl (.inr ⟨o, h⟩)
  · exact .inr h
/-- a caught exception's object -/
def ExcO (C : Addr) (dd : Option Addr) (a : Addr) : HO := .ext fun h => ∃ oe vs, h.get? a = some oe ∧ oe.cls = .ref C ∧ oe.dict = dd ∧ oe.data = .fields vs
mutual
def Rep (T : Tab) (mu : List Addr) (H : Hp) : D → V → Prop
  | .non, v => v = .non
  | .bl b, v => v = .bl b
  | .int i, v => v = .int i
  | .str x, v => v = .str x
  | .tup ds, v => ∃ p vs, v = .ref p ∧ SqT T.K H p vs ∧ RepL T mu H ds vs
  | .loc l, v => ∃ p, mu[l]? = some p ∧ v = .ref p
  | .rl ds, v => ∃ p vs, v = .ref p ∧ SqR T.K H p vs ∧ RepL T mu H ds vs
  | .fn f c q ds us, v => v = .ref f ∧ H c = some (LamX.CodeO c q) ∧ RepL T mu H ds us
  | .gd k, v => v = .ref (T.ga k)
  | .exn c ns ds, v => ∃ a dd, v = .ref a ∧ H a = some (ExcO (T.ca c) dd a) ∧ ((ns = [] ∧ ds = [] ∧ dd = none) ∨ ∃ p ws, dd = some p ∧ H p = some (.xd (ns.zip ws)) ∧ ns.length = ws.length ∧ RepL T mu H ds ws)
def RepL (T : Tab) (mu : List Addr) (H : Hp) : List D → List V → Prop
  | [], vs => vs = []
  | d :: ds, vs => ∃ v r, vs = v :: r ∧ Rep T mu H d v ∧ RepL T mu H ds r
end

/-- what values lean on -/
structure Ext0 (T : Tab) (mu : List Addr) (H : Hp) (mu' : List Addr) (H' : Hp) : Prop where
  pre : ∃ t, mu' = mu ++ t
  sq : ∀ p vs, SqT T.K H p vs → SqT T.K H' p vs
  sr : ∀ p vs, SqR T.K H p vs → SqR T.K H' p vs
  ex : ∀ a φ, H a = some (.ext φ) → H' a = some (.ext φ)
  xd : ∀ a fs, H a = some (.xd fs) → H' a = some (.xd fs)
structure Grow (T : Tab) (mu : List Addr) (H : Hp) (mu' : List Addr) (H' : Hp) : Prop where
  pre : ∃ t, mu' = mu ++ t
  new : ∀ b ∈ mu', b ∉ mu → H b = none
  oth : ∀ b o, H b = some o → (∀ ps, o ≠ .tbl ps) → b ∉ mu → H' b = some o
  tb : ∀ b ps, H b = some (.tbl ps) → ∃ qs, H' b = some (.tbl qs)
  sq : ∀ p vs, SqT T.K H p vs → SqT T.K H' p vs
  sr : ∀ p vs, SqR T.K H p vs → SqR T.K H' p vs
  ex : ∀ a φ, H a = some (.ext φ) → H' a = some (.ext φ)
  xd : ∀ a fs, H a = some (.xd fs) → H' a = some (.xd fs)

section
variable {T : Tab} {mu mu1 mu2 : List Addr} {H H1 H2 : Hp} {M : Mem}
theorem Grow.refl : Grow T mu H mu H := ⟨⟨[], by simp⟩, fun b h n => absurd h n, fun _ _ h _ _ => h, fun _ ps h => ⟨ps, h⟩, fun _ _ h => h, fun _ _ h => h, fun _ _ h => h, fun _ _ h => h⟩
theorem Grow.get (g : Grow T mu H mu1 H1) {l : Nat} {p : Addr} (h : mu[l]? = some p) : mu1[l]? = some p := by
  obtain ⟨t, rfl⟩ := g.pre
  have hl : l < mu.length := (List.getElem?_eq_some_iff.mp h).1
  rw [List.getElem?_append_left hl]; exact h
theorem Ext0.get (g : Ext0 T mu H mu1 H1) {l : Nat} {p : Addr} (h : mu[l]? = some p) : mu1[l]? = some p := by
  obtain ⟨t, rfl⟩ := g.pre
  have hl : l < mu.length := (List.getElem?_eq_some_iff.mp h).1
  rw [List.getElem?_append_left hl]; exact h
theorem Grow.mem (g : Grow T mu H mu1 H1) {b : Addr} (h : b ∈ mu) : b ∈ mu1 := by
  obtain ⟨t, rfl⟩ := g.pre
  exact List.mem_append_left _ h
theorem Grow.trans (a : Grow T mu H mu1 H1) (b : Grow T mu1 H1 mu2 H2) : Grow T mu H mu2 H2 := by
  refine ⟨?_, fun c hc hn => ?_, fun c o ho ht hn => ?_, fun c ps h => (let ⟨qs, e⟩ := a.tb c ps h; b.tb c qs e), fun p vs h => b.sq _ _ (a.sq _ _ h), fun p vs h => b.sr _ _ (a.sr _ _ h), fun p q h => b.ex _ _ (a.ex _ _ h), fun p q h => b.xd _ _ (a.xd _ _ h)⟩
  · obtain ⟨t, rfl⟩ := a.pre
    obtain ⟨u, rfl⟩ := b.pre
    exact ⟨t ++ u, by rw [List.append_assoc]⟩
  · by_cases h1 : c ∈ mu1
    · exact a.new c h1 hn
    · cases e : H c with
      | none => rfl
      | some o =>
        have q := b.new c hc h1
        by_cases ht : ∃ ps, o = .tbl ps
        · obtain ⟨ps, rfl⟩ := ht
          obtain ⟨qs, e2⟩ := a.tb c ps e
          rw [e2] at q
          cases q
        · rw [a.oth c o e (fun ps z => ht ⟨ps, z⟩) hn] at q
          cases q
  · refine b.oth c o (a.oth c o ho ht hn) ht fun h1 => ?_
    have q := a.new c h1 hn
    rw [ho] at q
    cases q

mutual
theorem Rep.mono0 (g : Ext0 T mu H mu1 H1) : ∀ {d : D} {v : V}, Rep T mu H d v → Rep T mu1 H1 d v
  | .non, _, h => by simpa [Rep] using h
  | .bl _, _, h => by simpa [Rep] using h
  | .int _, _, h => by simpa [Rep] using h
  | .str _, _, h => by simpa [Rep] using h
  | .tup ds, v, h => by
    simp only [Rep] at h ⊢
    obtain ⟨p, vs, e, s, r⟩ := h
    exact ⟨p, vs, e, g.sq _ _ s, RepL.mono0 g r⟩
  | .rl ds, v, h => by
    simp only [Rep] at h ⊢
    obtain ⟨p, vs, e, s, r⟩ := h
    exact ⟨p, vs, e, g.sr _ _ s, RepL.mono0 g r⟩
  | .exn c ns ds, v, h => by
    simp only [Rep] at h ⊢
    obtain ⟨a, dd, e, x, r⟩ := h
    refine ⟨a, dd, e, g.ex _ _ x, ?_⟩
    rcases r with r | ⟨p, ws, e1, e2, e3, r⟩
    · exact .inl r
    · exact .inr ⟨p, ws, e1, g.xd _ _ e2, e3, RepL.mono0 g r⟩
  | .loc l, v, h => by
    simp only [Rep] at h ⊢
    obtain ⟨p, e, r⟩ := h
    exact ⟨p, g.get e, r⟩
  | .fn f c q ds us, v, h => by
    simp only [Rep] at h ⊢
    exact ⟨h.1, g.ex _ _ h.2.1, RepL.mono0 g h.2.2⟩
  | .gd _, _, h => by simpa [Rep] using h
theorem RepL.mono0 (g : Ext0 T mu H mu1 H1) : ∀ {ds : List D} {vs : List V}, RepL T mu H ds vs → RepL T mu1 H1 ds vs
  | [], vs, h => by simpa [RepL] using h
  | d :: ds, vs, h => by
    simp only [RepL] at h ⊢
    obtain ⟨v, r, e, a, b⟩ := h
    exact ⟨v, r, e, Rep.mono0 g a, RepL.mono0 g b⟩
end

theorem Grow.ext (g : Grow T mu H mu1 H1) : Ext0 T mu H mu1 H1 := ⟨g.pre, g.sq, g.sr, g.ex, g.xd⟩
theorem Rep.mono (g : Grow T mu H mu1 H1) {d : D} {v : V} (h : Rep T mu H d v) : Rep T mu1 H1 d v := h.mono0 g.ext
theorem RepL.mono (g : Grow T mu H mu1 H1) {ds : List D} {vs : List V} (h : RepL T mu H ds vs) : RepL T mu1 H1 ds vs := h.mono0 g.ext
theorem RepL.cons {d : D} {ds : List D} {v : V} {vs : List V} (a : Rep T mu H d v) (b : RepL T mu H ds vs) : RepL T mu H (d :: ds) (v :: vs) := by
  simp only [RepL]; exact ⟨v, vs, rfl, a, b⟩
theorem RepL.nil : RepL T mu H [] [] := by simp only [RepL]
theorem RepL.inv_nil {vs : List V} (h : RepL T mu H [] vs) : vs = [] := by simpa only [RepL] using h
theorem RepL.inv_cons {d : D} {ds : List D} {vs : List V} (h : RepL T mu H (d :: ds) vs) : ∃ v r, vs = v :: r ∧ Rep T mu H d v ∧ RepL T mu H ds r := by simpa only [RepL] using h
theorem RepL.length : ∀ {ds : List D} {vs : List V}, RepL T mu H ds vs → ds.length = vs.length
  | [], vs, h => by rw [h.inv_nil]; rfl
  | d :: ds, vs, h => by
    obtain ⟨v, r, rfl, a, b⟩ := h.inv_cons
    simp [RepL.length b]
theorem RepL.get : ∀ {ds : List D} {vs : List V} {i : Nat} {d : D}, RepL T mu H ds vs → ds[i]? = some d → ∃ v, vs[i]? = some v ∧ Rep T mu H d v
  | [], vs, i, d, h, e => by simp at e
  | d :: ds, vs, 0, d', h, e => by
    obtain ⟨v, r, rfl, a, b⟩ := h.inv_cons
    simp at e; subst e
    exact ⟨v, rfl, a⟩
  | d :: ds, vs, i + 1, d', h, e => by
    obtain ⟨v, r, rfl, a, b⟩ := h.inv_cons
    simpa using RepL.get (i := i) b (by simpa using e)
theorem RepL.getV : ∀ {ds : List D} {vs : List V} {i : Nat} {v : V}, RepL T mu H ds vs → vs[i]? = some v → ∃ d, ds[i]? = some d ∧ Rep T mu H d v := fun {ds vs i v} h e => by
  have hl := h.length
  have hi : i < ds.length := by rw [hl]; exact (List.getElem?_eq_some_iff.mp e).1
  obtain ⟨v', e', r⟩ := h.get (List.getElem?_eq_getElem hi)
  rw [e] at e'; cases e'
  exact ⟨_, List.getElem?_eq_getElem hi, r⟩
theorem RepL.append : ∀ {ds es : List D} {vs us : List V}, RepL T mu H ds vs → RepL T mu H es us → RepL T mu H (ds ++ es) (vs ++ us)
  | [], es, vs, us, h, k => by rw [h.inv_nil]; exact k
  | d :: ds, es, vs, us, h, k => by
    obtain ⟨v, r, rfl, a, b⟩ := h.inv_cons
    exact RepL.cons a (RepL.append b k)
theorem RepL.take : ∀ {ds : List D} {vs : List V} (n : Nat), RepL T mu H ds vs → RepL T mu H (ds.take n) (vs.take n)
  | [], vs, n, h => by rw [h.inv_nil]; simpa using RepL.nil
  | d :: ds, vs, 0, h => by simpa using RepL.nil
  | d :: ds, vs, n + 1, h => by
    obtain ⟨v, r, rfl, a, b⟩ := h.inv_cons
    exact RepL.cons a (RepL.take n b)
theorem RepL.drop : ∀ {ds : List D} {vs : List V} (n : Nat), RepL T mu H ds vs → RepL T mu H (ds.drop n) (vs.drop n)
  | [], vs, n, h => by rw [h.inv_nil]; simpa using RepL.nil
  | d :: ds, vs, 0, h => h
  | d :: ds, vs, n + 1, h => by
    obtain ⟨v, r, rfl, a, b⟩ := h.inv_cons
    exact RepL.drop n b
theorem RepL.set : ∀ {ds : List D} {vs : List V} {d : D} {v : V} (i : Nat), RepL T mu H ds vs → Rep T mu H d v → RepL T mu H (ds.set i d) (vs.set i v)
  | [], vs, d, v, i, h, k => by rw [h.inv_nil]; simpa using RepL.nil
  | d :: ds, vs, d', v', 0, h, k => by
    obtain ⟨v, r, rfl, a, b⟩ := h.inv_cons
    exact RepL.cons k b
  | d :: ds, vs, d', v', i + 1, h, k => by
    obtain ⟨v, r, rfl, a, b⟩ := h.inv_cons
    exact RepL.cons a (RepL.set i b k)
theorem RepL.of_get : ∀ {ds : List D} {vs : List V}, ds.length = vs.length → (∀ (i : Nat) (d : D) (v : V), ds[i]? = some d → vs[i]? = some v → Rep T mu H d v) → RepL T mu H ds vs
  | [], [], _, _ => RepL.nil
  | [], _ :: _, h, _ => by simp at h
  | _ :: _, [], h, _ => by simp at h
  | d :: ds, v :: vs, h, k => RepL.cons (k 0 d v rfl rfl) (RepL.of_get (by simpa using h) fun i d v a b => k (i + 1) d v (by simpa using a) (by simpa using b))

/-- what stands at an address -/
def ObR (T : Tab) (mu : List Addr) (H : Hp) : Ob → Addr → Prop
  | .lst xs, p => ∃ vs, H p = some (.lst vs) ∧ RepL T mu H xs vs
  | .dct ks vs, p => ∃ ws, H p = some (.dK (ks.zip ws)) ∧ ks.length = ws.length ∧ RepL T mu H vs ws
  | .dtp ks vs, p => ∃ ws, H p = some (.dT (ks.zip ws)) ∧ ks.length = ws.length ∧ RepL T mu H vs ws
  | .ins c ns vs, p => ∃ dx ws, H p = some (.ins (T.ca c) dx (ns.zip ws)) ∧ ns.length = ws.length ∧ RepL T mu H vs ws

structure Sim (T : Tab) (mu : List Addr) (M : Mem) (H : Hp) : Prop where
  len : mu.length = M.length
  nd : mu.Nodup
  tb : LamX.Tabs T.tl H
  ob : ∀ (l : Nat) (o : Ob), M[l]? = some o → ∃ p, mu[l]? = some p ∧ ObR T mu H o p

def EnvR (T : Tab) (mu : List Addr) (H : Hp) (rho : EnvD) (σ : St) : Prop :=
  rho.length = σ.length ∧ ∀ (i : Nat) (d : D), rho[i]? = some (some d) → ∃ v, σ[i]? = some (some v) ∧ Rep T mu H d v

theorem EnvR.mono {rho : EnvD} {σ : St} (g : Grow T mu H mu1 H1) (h : EnvR T mu H rho σ) : EnvR T mu1 H1 rho σ :=
  ⟨h.1, fun i d e => let ⟨v, a, b⟩ := h.2 i d e; ⟨v, a, b.mono g⟩⟩
theorem EnvR.set {rho : EnvD} {σ : St} {i : Nat} {d : D} {v : V} (h : EnvR T mu H rho σ) (r : Rep T mu H d v) : EnvR T mu H (rho.set i (some d)) (σ.set i (some v)) := by
  refine ⟨by simpa using h.1, fun j e he => ?_⟩
  by_cases hj : i = j
  · subst hj
    by_cases hi : i < rho.length
    · rw [List.getElem?_set_self hi] at he
      cases he
      exact ⟨v, List.getElem?_set_self (by rw [← h.1]; exact hi), r⟩
    · rw [List.getElem?_eq_none (by simpa using hi)] at he
      cases he
  · rw [List.getElem?_set_ne hj] at he
    rw [List.getElem?_set_ne hj]
    exact h.2 j e he

theorem Sim.at {l : Nat} {o : Ob} (S : Sim T mu M H) (h : M[l]? = some o) : ∃ p, mu[l]? = some p ∧ ObR T mu H o p := S.ob l o h
/-- what is no object of M -/
def Fixed : HO → Prop
  | .tup _ => True
  | .frz _ _ => True
  | .ext _ => True
  | .xd _ => True
  | .tbl _ => True
  | _ => False
theorem ObR.some {o : Ob} {p : Addr} (h : ObR T mu H o p) : ∃ u, H p = some u ∧ ¬ Fixed u := by
  cases o with
  | lst xs => obtain ⟨vs, e, _⟩ := h; exact ⟨_, e, fun z => z⟩
  | dct ks vs => obtain ⟨ws, e, _⟩ := h; exact ⟨_, e, fun z => z⟩
  | dtp ks vs => obtain ⟨ws, e, _⟩ := h; exact ⟨_, e, fun z => z⟩
  | ins c ns vs => obtain ⟨dx, ws, e, _⟩ := h; exact ⟨_, e, fun z => z⟩
/-- an object's description leans on its own place and on what its parts are -/
theorem ObR.keep {o : Ob} {p : Addr} (h : ObR T mu H o p) (e : H1 p = H p) (m : ∀ ds vs, RepL T mu H ds vs → RepL T mu1 H1 ds vs) : ObR T mu1 H1 o p := by
  cases o with
  | lst xs => obtain ⟨vs, a, b⟩ := h; exact ⟨vs, e.trans a, m _ _ b⟩
  | dct ks vs => obtain ⟨ws, a, c, b⟩ := h; exact ⟨ws, e.trans a, c, m _ _ b⟩
  | dtp ks vs => obtain ⟨ws, a, c, b⟩ := h; exact ⟨ws, e.trans a, c, m _ _ b⟩
  | ins c ns vs => obtain ⟨dx, ws, a, c, b⟩ := h; exact ⟨dx, ws, e.trans a, c, m _ _ b⟩
/-- nothing fixed stands there -/
def NoFix (H : Hp) (p : Addr) : Prop := ∀ u, H p = some u → ¬ Fixed u
theorem NoFix.none {p : Addr} (h : H p = none) : NoFix H p := fun u e => by rw [h] at e; cases e
theorem NoFix.ob {o : Ob} {p : Addr} (h : ObR T mu H o p) : NoFix H p := fun u e => by
  obtain ⟨w, e1, n⟩ := h.some
  rw [e] at e1; cases e1; exact n
theorem NoFix.lst {p : Addr} {xs : List V} (h : H p = some (.lst xs)) : NoFix H p := fun u e => by
  rw [h] at e; cases e; exact fun z => z
theorem NoFix.dk {p : Addr} {xs : List (Key × V)} (h : H p = some (.dK xs)) : NoFix H p := fun u e => by
  rw [h] at e; cases e; exact fun z => z
theorem NoFix.ne {p b : Addr} {u : HO} (n : NoFix H p) (h : H b = some u) (f : Fixed u) : b ≠ p := fun z => n u (by rw [← z]; exact h) f
theorem sqT_upd {p : Addr} {o : HO} (n : NoFix H p) {q : Addr} {vs : List V} (h : SqT T.K H q vs) : SqT T.K (upd H p o) q vs := by
  rcases h with (h | ⟨u, h⟩) | h
  · exact .inl (.inl (by rw [upd_ne (n.ne h trivial)]; exact h))
  · exact .inl (.inr ⟨u, by rw [upd_ne (n.ne h trivial)]; exact h⟩)
  · exact .inr h
theorem sqR_upd {p : Addr} {o : HO} (n : NoFix H p) {q : Addr} {vs : List V} (h : SqR T.K H q vs) : SqR T.K (upd H p o) q vs := by
  rcases h with ⟨u, h⟩ | h
  · exact .inl ⟨u, by rw [upd_ne (n.ne h trivial)]; exact h⟩
  · exact .inr h
theorem ext_touch {p : Addr} {o : HO} (n : NoFix H p) (t : List Addr) : Ext0 T mu H (mu ++ t) (upd H p o) :=
  ⟨⟨t, rfl⟩, fun q vs s => sqT_upd n s, fun q vs s => sqR_upd n s, fun a φ h => by rw [upd_ne (n.ne h trivial)]; exact h, fun a φ h => by rw [upd_ne (n.ne h trivial)]; exact h⟩
theorem tabs_upd {p : Addr} {o : HO} {l : List (Addr × Str)} (n : NoFix H p) (h : LamX.Tabs l H) : LamX.Tabs l (upd H p o) := fun q hq => by
  obtain ⟨ps, h1, h2, h3⟩ := h q hq
  refine ⟨ps, by rw [upd_ne (n.ne h1 trivial)]; exact h1, h2, fun pos cv hc => ?_⟩
  obtain ⟨c, e1, e2⟩ := h3 pos cv hc
  exact ⟨c, e1, by rw [upd_ne (n.ne e2 trivial)]; exact e2⟩
theorem grow_upd {p : Addr} {o : HO} {t : List Addr} (n : NoFix H p) (hp : H p = none ∨ p ∈ mu) (ht : ∀ b ∈ t, b ∉ mu → H b = none) : Grow T mu H (mu ++ t) (upd H p o) := by
  have x : Ext0 T mu H (mu ++ t) (L2.upd H p o) := ext_touch n t
  refine ⟨x.pre, fun b hb hn => ?_, fun b u e _ hm => ?_, fun b ps e => ⟨ps, by rw [upd_ne (n.ne e trivial)]; exact e⟩, x.sq, x.sr, x.ex, x.xd⟩
  · rcases List.mem_append.mp hb with z | z
    · exact absurd z hn
    · exact ht b z hn
  · refine (upd_ne fun z => ?_).trans e
    subst z
    rcases hp with q | q
    · rw [q] at e; cases e
    · exact hm q
/-- a new thing that is no object of M (a tuple) -/
theorem Grow.side {p : Addr} {o : HO} (h : H p = none) : Grow T mu H mu (L2.upd H p o) := by
  have g : Grow T mu H (mu ++ []) (L2.upd H p o) := grow_upd (NoFix.none h) (.inl h) (fun b hb => absurd hb (by simp))
  rwa [List.append_nil] at g
theorem Sim.free (S : Sim T mu M H) {p : Addr} (h : H p = none) : p ∉ mu := fun hm => by
  obtain ⟨l, hl⟩ := List.getElem?_of_mem hm
  have : l < M.length := by rw [← S.len]; exact (List.getElem?_eq_some_iff.mp hl).1
  obtain ⟨q, e, r⟩ := S.ob l _ (List.getElem?_eq_getElem this)
  rw [hl] at e; cases e
  obtain ⟨u, e, _⟩ := r.some
  rw [h] at e; cases e
/-- one place that is no object's is changed -/
theorem Sim.touch (S : Sim T mu M H) {p : Addr} {o : HO} (hp : p ∉ mu) (n : NoFix H p) : Sim T mu M (upd H p o) := by
  refine ⟨S.len, S.nd, tabs_upd n S.tb, fun l ob e => ?_⟩
  obtain ⟨q, e1, r⟩ := S.ob l ob e
  have x : Ext0 T mu H mu (upd H p o) := by
    have y : Ext0 T mu H (mu ++ []) (upd H p o) := ext_touch n []
    rwa [List.append_nil] at y
  exact ⟨q, e1, r.keep (upd_ne fun z => hp (z ▸ List.mem_of_getElem? e1)) fun ds vs h => h.mono0 x⟩
theorem Sim.side (S : Sim T mu M H) {p : Addr} {o : HO} (h : H p = none) : Sim T mu M (upd H p o) := S.touch (S.free h) (NoFix.none h)
/-- a new object -/
theorem Grow.alloc {p : Addr} {o : HO} (h : H p = none) : Grow T mu H (mu ++ [p]) (upd H p o) :=
  grow_upd (NoFix.none h) (.inl h) fun b hb _ => by simp at hb; rw [hb]; exact h
/-- a place is taken among the objects -/
theorem Sim.adopt (S : Sim T mu M H) {p : Addr} {o : HO} {ob : Ob} (hp : p ∉ mu) (n : NoFix H p) (r : ObR T (mu ++ [p]) (upd H p o) ob p) : Sim T (mu ++ [p]) (M ++ [ob]) (upd H p o) := by
  have x : Ext0 T mu H (mu ++ [p]) (upd H p o) := ext_touch n [p]
  refine ⟨by simp [S.len], List.nodup_append.mpr ⟨S.nd, by simp, fun a ha b hb => by simp at hb; subst hb; rintro rfl; exact hp ha⟩, tabs_upd n S.tb, fun l u e => ?_⟩
  by_cases hl : l < M.length
  · rw [List.getElem?_append_left hl] at e
    obtain ⟨q, e1, r1⟩ := S.ob l u e
    exact ⟨q, x.get e1, r1.keep (upd_ne fun z => hp (z ▸ List.mem_of_getElem? e1)) fun ds vs h => h.mono0 x⟩
  · rw [List.getElem?_append_right (by omega)] at e
    have hz : l - M.length = 0 := by
      have := (List.getElem?_eq_some_iff.mp e).1
      simp at this; omega
    rw [hz] at e; simp at e; subst e
    refine ⟨p, ?_, r⟩
    rw [List.getElem?_append_right (by rw [S.len]; omega), S.len, hz]; rfl
theorem Sim.alloc (S : Sim T mu M H) {p : Addr} {o : HO} {ob : Ob} (h : H p = none) (r : ObR T (mu ++ [p]) (upd H p o) ob p) : Sim T (mu ++ [p]) (M ++ [ob]) (upd H p o) := S.adopt (S.free h) (NoFix.none h) r
/-- an object is changed -/
theorem Grow.write {p : Addr} {o : HO} {ob : Ob} (hp : p ∈ mu) (r : ObR T mu H ob p) : Grow T mu H mu (L2.upd H p o) := by
  have g : Grow T mu H (mu ++ []) (L2.upd H p o) := grow_upd (NoFix.ob r) (.inr hp) (fun b hb => absurd hb (by simp))
  rwa [List.append_nil] at g
theorem Sim.write (S : Sim T mu M H) {l : Nat} {p : Addr} {o : HO} {ob ob' : Ob} (e : M[l]? = some ob) (hp : mu[l]? = some p) (r : ObR T mu (upd H p o) ob' p) : Sim T mu (M.set l ob') (upd H p o) := by
  obtain ⟨p', e1, r1⟩ := S.ob l ob e
  rw [hp] at e1; cases e1
  have hpm := List.mem_of_getElem? hp
  have g : Grow T mu H mu (upd H p o) := Grow.write hpm r1
  refine ⟨by simp [S.len], S.nd, tabs_upd (NoFix.ob r1) S.tb, fun k u ek => ?_⟩
  by_cases hk : l = k
  · subst hk
    rw [List.getElem?_set_self (List.getElem?_eq_some_iff.mp e).1] at ek
    cases ek
    exact ⟨p, hp, r⟩
  · rw [List.getElem?_set_ne hk] at ek
    obtain ⟨q, e2, r2⟩ := S.ob k u ek
    refine ⟨q, e2, r2.keep (upd_ne fun z => hk ?_) fun ds vs x => RepL.mono g x⟩
    subst z
    obtain ⟨h1, e1⟩ := List.getElem?_eq_some_iff.mp hp
    obtain ⟨h2, e2⟩ := List.getElem?_eq_some_iff.mp e2
    exact (List.getElem_inj S.nd).mp (e1.trans e2.symm)
/-- an object that was laid ahead is taken among the objects -/
theorem Grow.adopt {p : Addr} {o : HO} {H2 : Hp} (hn : H p = none) (g : Grow T mu H mu1 H2) (n : NoFix H2 p) : Grow T mu H (mu1 ++ [p]) (upd H2 p o) := by
  have x : Ext0 T mu1 H2 (mu1 ++ [p]) (L2.upd H2 p o) := ext_touch n [p]
  refine ⟨?_, fun b hb hm => ?_, fun b u e ht hm => ?_, fun b ps e => ?_, fun q vs s => x.sq _ _ (g.sq _ _ s), fun q vs s => x.sr _ _ (g.sr _ _ s), fun q vs s => x.ex _ _ (g.ex _ _ s), fun q vs s => x.xd _ _ (g.xd _ _ s)⟩
  · obtain ⟨t, rfl⟩ := g.pre
    exact ⟨t ++ [p], by rw [List.append_assoc]⟩
  · rcases List.mem_append.mp hb with z | z
    · exact g.new b z hm
    · simp at z; rw [z]; exact hn
  · rw [upd_ne (ne_of_none e hn)]
    exact g.oth b u e ht hm
  · rw [upd_ne (ne_of_none e hn)]
    exact g.tb b ps e
theorem Grow.touch {p : Addr} {o : HO} {H2 : Hp} (g : Grow T mu H mu1 H2) (hn : H p = none) (n : NoFix H2 p) : Grow T mu H mu1 (upd H2 p o) := by
  have x : Ext0 T mu1 H2 (mu1 ++ []) (L2.upd H2 p o) := ext_touch n []
  refine ⟨g.pre, g.new, fun b u e ht hm => ?_, fun b ps e => ?_, fun q vs s => x.sq _ _ (g.sq _ _ s), fun q vs s => x.sr _ _ (g.sr _ _ s), fun q vs s => x.ex _ _ (g.ex _ _ s), fun q vs s => x.xd _ _ (g.xd _ _ s)⟩
  · rw [upd_ne (ne_of_none e hn)]
    exact g.oth b u e ht hm
  · rw [upd_ne (ne_of_none e hn)]
    exact g.tb b ps e
end

/-! ### results -/
def ExR (T : Tab) (mu : List Addr) (H : Hp) (x : Exn) (cls : Value) (dd : Option Addr) : Prop :=
  cls = .ref (T.ca x.c) ∧ ((x.ns = [] ∧ x.vs = [] ∧ dd = none) ∨ ∃ p ws, dd = some p ∧ H p = some (.xd (x.ns.zip ws)) ∧ x.ns.length = ws.length ∧ RepL T mu H x.vs ws)

def OkG {α β : Type} (T : Tab) (rel : List Addr → Hp → α → β → Prop) (W : WX) (σ : St) (Q : β → Hp → Prop) (mu : List Addr) (H : Hp) : Res α → Prop
  | .ok a M' => ∀ mu' H' y, Sim T mu' M' H' → Grow T mu H mu' H' → rel mu' H' a y → Q y H'
  | .exc x M' => ∀ mu' H' cls dd, Sim T mu' M' H' → Grow T mu H mu' H' → ExR T mu' H' x cls dd → W cls dd σ H'
  | .bad => False

theorem OkG.later {α β : Type} {T : Tab} {rel : List Addr → Hp → α → β → Prop} {W : WX} {σ : St} {Q : β → Hp → Prop} {mu mu1 : List Addr} {H H1 : Hp} (g : Grow T mu H mu1 H1) {r : Res α}
    (h : OkG T rel W σ Q mu H r) : OkG T rel W σ Q mu1 H1 r := by
  cases r with
  | ok a M' => exact fun mu' H' y S G R => h mu' H' y S (g.trans G) R
  | exc x M' => exact fun mu' H' c d S G R => h mu' H' c d S (g.trans G) R
  | bad => exact h
theorem OkG.bind {α β γ δ : Type} {T : Tab} {rel : List Addr → Hp → α → β → Prop} {rel2 : List Addr → Hp → γ → δ → Prop} {W : WX} {σ : St} {Q : δ → Hp → Prop} {mu : List Addr} {H : Hp} {r : Res α} {k : α → Mem → Res γ}
    (h : OkG T rel2 W σ Q mu H (r.bind k)) : OkG T rel W σ (fun y H1 => ∃ mu1 M1 a, Sim T mu1 M1 H1 ∧ Grow T mu H mu1 H1 ∧ rel mu1 H1 a y ∧ OkG T rel2 W σ Q mu1 H1 (k a M1)) mu H r := by
  cases r with
  | ok a M' => exact fun mu' H' y S G R => ⟨mu', M', a, S, G, R, OkG.later G h⟩
  | exc x M' => exact h
  | bad => exact h

def tG {α β : Type} (T : Tab) (rel : List Addr → Hp → α → β → Prop) (W : WX) (f : EnvD → Mem → Res α) : St → Hp → (β → Hp → Prop) → Prop :=
  fun σ H Q => ∃ mu M rho, Sim T mu M H ∧ EnvR T mu H rho σ ∧ OkG T rel W σ Q mu H (f rho M)
def relB : List Addr → Hp → Bool → Bool → Prop := fun _ _ a b => a = b
abbrev tV (T : Tab) (W : WX) (f : EnvD → Mem → Res D) : TE := tG T (Rep T) W f
abbrev tL (T : Tab) (W : WX) (f : EnvD → Mem → Res (List D)) : TA := tG T (RepL T) W f
abbrev tB (T : Tab) (W : WX) (f : EnvD → Mem → Res Bool) : TT := tG T relB W f

theorem tG.intro {α β : Type} {T : Tab} {rel : List Addr → Hp → α → β → Prop} {W : WX} {f : EnvD → Mem → Res α} {σ : St} {H : Hp} {Q : β → Hp → Prop} {mu : List Addr} {M : Mem} {rho : EnvD}
    (S : Sim T mu M H) (E : EnvR T mu H rho σ) (h : OkG T rel W σ Q mu H (f rho M)) : tG T rel W f σ H Q := ⟨mu, M, rho, S, E, h⟩

theorem imp_e {X : Cx} {e : Expr} {t t' : TE} (h : PE X e t) (i : ∀ σ H Q, t' σ H Q → t σ H Q) : PE X e t' := ⟨fun pins s σ H Q I q => h.run pins s σ H Q I (i _ _ _ q)⟩
theorem imp_t {X : Cx} {e : Expr} {t t' : TT} (h : PT X e t) (i : ∀ σ H Q, t' σ H Q → t σ H Q) : PT X e t' := ⟨fun pins s σ H Q I q => h.run pins s σ H Q I (i _ _ _ q)⟩
theorem imp_a {X : Cx} {e : List Expr} {t t' : TA} (h : PA X e t) (i : ∀ σ H Q, t' σ H Q → t σ H Q) : PA X e t' := ⟨fun pos pins s σ H Q I q => h.run pos pins s σ H Q I (i _ _ _ q)⟩
theorem imp_s {X : Cx} {e : Stmt} {t t' : TS} (h : PS X e t) (i : ∀ Dn σ H, t' Dn σ H → t Dn σ H) : PS X e t' := ⟨fun pins s σ H Q I q => h.run pins s σ H Q I (i _ _ _ q)⟩
theorem imp_ss {X : Cx} {e : List Stmt} {t t' : TS} (h : PSs X e t) (i : ∀ Dn σ H, t' Dn σ H → t Dn σ H) : PSs X e t' := ⟨fun pins s σ H Q I q => h.run pins s σ H Q I (i _ _ _ q)⟩
end VI
namespace VI
open PySem PySem.Spec L2

abbrev lim : Nat := 16777216
theorem lim_eq : sizeLine = lim := sizeLine_eq

structure Gd (X : Cx) (T : Tab) (n : Nat) : Prop where
  K : X.K = T.K
  calm : X.calm = true
  room : Room n X.A
  guards : X.A.guards = some []
  nd : X.N.Nodup
  gd : ∀ k, T.gt k ≠ [] → (∃ es n, KDict X.K X.w (T.ga k) es n) ∧ ∀ z, match (T.gt k).lookup z with
    | none => PySem.W.nsIn X.K (T.ga k) z = some none
    | some d => ∃ u v, PySem.W.nsIn X.K (T.ga k) z = some (some u) ∧ RelV v u ∧ ∀ mu H, Rep T mu H d v

/-- an operation on values: a value and the store behind it -/
abbrev Op1 := Option (D × Mem)
def OkO (T : Tab) (Q : V → Hp → Prop) (mu : List Addr) (H : Hp) : Op1 → Prop
  | some (d, M') => ∀ mu' H' y, Sim T mu' M' H' → Grow T mu H mu' H' → Rep T mu' H' d y → Q y H'
  | none => False
def liftO (o : Op1) : Res D := match o with
  | some (d, M) => .ok d M
  | none => .bad
theorem OkO.of {T : Tab} {W : WX} {σ : St} {Q : V → Hp → Prop} {mu : List Addr} {H : Hp} {o : Op1} (h : OkG T (Rep T) W σ Q mu H (liftO o)) : OkO T Q mu H o := by
  cases o with
  | none => exact h
  | some p => exact h

/-- a two-place operation does what g says -/
def Op2 (X : Cx) (T : Tab) (f : Value → Value → Sem Value) (g : D → D → Mem → Op1) : Prop :=
  OpR X f (fun x y H Q => ∃ mu M a b, Sim T mu M H ∧ Rep T mu H a x ∧ Rep T mu H b y ∧ OkO T Q mu H (g a b M))

section
variable {T : Tab} {mu : List Addr} {H : Hp} {M : Mem} {v : V}
theorem Rep.int_inv {i : Int} (h : Rep T mu H (.int i) v) : v = .int i := by simpa only [Rep] using h
theorem Rep.bl_inv {i : Bool} (h : Rep T mu H (.bl i) v) : v = .bl i := by simpa only [Rep] using h
theorem Rep.str_inv {i : Str} (h : Rep T mu H (.str i) v) : v = .str i := by simpa only [Rep] using h
theorem Rep.non_inv (h : Rep T mu H .non v) : v = .non := by simpa only [Rep] using h
theorem Rep.fn_inv {f c : Nat} {q : Str} {ds : List D} {us : List V} (h : Rep T mu H (.fn f c q ds us) v) : v = .ref f ∧ H c = some (LamX.CodeO c q) ∧ RepL T mu H ds us := by simpa only [Rep] using h
theorem Rep.tup_inv {ds : List D} (h : Rep T mu H (.tup ds) v) : ∃ p vs, v = .ref p ∧ SqT T.K H p vs ∧ RepL T mu H ds vs := by simpa only [Rep] using h
theorem Rep.loc_inv {l : Nat} (h : Rep T mu H (.loc l) v) : ∃ p, mu[l]? = some p ∧ v = .ref p := by simpa only [Rep] using h
theorem Rep.int_mk (i : Int) : Rep T mu H (.int i) (.int i) := by simp only [Rep]
theorem Rep.bl_mk (i : Bool) : Rep T mu H (.bl i) (.bl i) := by simp only [Rep]
theorem Rep.str_mk (i : Str) : Rep T mu H (.str i) (.str i) := by simp only [Rep]
theorem Rep.non_mk : Rep T mu H .non .non := by simp only [Rep]
theorem Rep.fn_mk {f c : Nat} {q : Str} {ds : List D} {us : List V} (h : H c = some (LamX.CodeO c q)) (r : RepL T mu H ds us) : Rep T mu H (.fn f c q ds us) (.ref f) := by simp only [Rep, true_and]; exact ⟨h, r⟩
theorem Rep.tup_mk {ds : List D} {p : Addr} {vs : List V} (s : SqT T.K H p vs) (r : RepL T mu H ds vs) : Rep T mu H (.tup ds) (.ref p) := by
  simp only [Rep]; exact ⟨p, vs, rfl, s, r⟩
theorem Rep.loc_mk {l : Nat} {p : Addr} (e : mu[l]? = some p) : Rep T mu H (.loc l) (.ref p) := by
  simp only [Rep]; exact ⟨p, e, rfl⟩
/-- the end of an operation that makes a new tuple -/
theorem OkO.tup {Q : V → Hp → Prop} {ds : List D} {vs : List V} {p : Addr} (S : Sim T mu M H) (r : RepL T mu H ds vs) (hp : H p = none) (h : OkO T Q mu H (some (.tup ds, M))) : Q (.ref p) (upd H p (.tup vs)) := by
  have g : Grow T mu H mu (upd H p (.tup vs)) := Grow.side hp
  exact h mu _ _ (S.side hp) g (Rep.tup_mk (SqT.of upd_same) (RepL.mono g r))
theorem last_loc {p : Addr} (S : Sim T mu M H) : (mu ++ [p])[M.length]? = some p := by
  rw [← S.len, List.getElem?_append_right (Nat.le_refl _)]; simp
/-- the end of an operation that makes a new list -/
theorem OkO.lst {Q : V → Hp → Prop} {ds : List D} {vs : List V} {p : Addr} (S : Sim T mu M H) (r : RepL T mu H ds vs) (hp : H p = none) (h : OkO T Q mu H (some (.loc M.length, M ++ [.lst ds]))) : Q (.ref p) (upd H p (.lst vs)) := by
  have g : Grow T mu H (mu ++ [p]) (upd H p (.lst vs)) := Grow.alloc hp
  exact h _ _ _ (S.alloc hp ⟨vs, upd_same, RepL.mono g r⟩) g (Rep.loc_mk (last_loc S))
theorem Sim.lst {l : Nat} {xs : List D} {p : Addr} (S : Sim T mu M H) (e : M[l]? = some (.lst xs)) (hp : mu[l]? = some p) : ∃ vs, H p = some (.lst vs) ∧ RepL T mu H xs vs := by
  obtain ⟨q, e1, r⟩ := S.ob l _ e
  rw [hp] at e1; cases e1
  exact r
theorem OkO.here {Q : V → Hp → Prop} {d : D} (S : Sim T mu M H) (r : Rep T mu H d v) (h : OkO T Q mu H (some (d, M))) : Q v H := h mu H v S Grow.refl r
end

/-! ### arithmetic -/
def oAdd : D → D → Mem → Op1
  | .int i, .int j, M => some (.int (i + j), M)
  | .str x, .str y, M => if x.length + y.length ≤ lim then some (.str (x ++ y), M) else none
  | .tup xs, .tup ys, M => if xs.length + ys.length ≤ lim then some (.tup (xs ++ ys), M) else none
  | .loc l, .loc k, M => match M[l]?, M[k]? with
    | some (.lst xs), some (.lst ys) => if xs.length + ys.length ≤ lim then some (.loc M.length, M ++ [.lst (xs ++ ys)]) else none
    | _, _ => none
  | _, _, _ => none
def oSub : D → D → Mem → Op1
  | .int i, .int j, M => some (.int (i - j), M)
  | _, _, _ => none
def mulB (i j : Int) : Bool := decide (-(2 ^ 64) < i ∧ i < 2 ^ 64) || decide (-(2 ^ 64) < j ∧ j < 2 ^ 64)
def oMul : D → D → Mem → Op1
  | .int i, .int j, M => if mulB i j then some (.int (i * j), M) else none
  | .str x, .int n, M => if x.length ≤ 1000 ∧ -1000 ≤ n ∧ n ≤ 1000 then some (.str (Txt.mul x n), M) else none
  | _, _, _ => none
theorem small_fits {n : Nat} (h : n ≤ 1000000) : Builtin.Str.tooLong n = false := by
  have e : (2 : Nat) ^ 24 = 16777216 := by decide
  unfold Builtin.Str.tooLong sizeLine
  exact decide_eq_false (by omega)
theorem mulOk_small {x : Str} {n : Int} (h1 : x.length ≤ 1000) (h2 : -1000 ≤ n) (h3 : n ≤ 1000) : MulOk x n := by
  have hm : x.length * n.toNat ≤ 1000 * 1000 := Nat.mul_le_mul h1 (by omega)
  refine ⟨?_, fun h4 _ h => ?_, fun _ _ => small_fits (by omega)⟩
  · rw [Bool.or_eq_false_iff]
    exact ⟨decide_eq_false (by omega), decide_eq_false (by omega)⟩
  · have : (2 ^ 63 - 1) / n ≥ 9223372036854775807 / 1000 := by
      show (9223372036854775807 : Int) / n ≥ 9223372036854775807 / 1000
      refine (Int.le_ediv_iff_mul_le (by omega)).mpr ?_
      have : (9223372036854775807 : Int) / 1000 = 9223372036854775 := by decide
      rw [this]
      have : (9223372036854775 : Int) * n ≤ 9223372036854775 * 1000 := Int.mul_le_mul_of_nonneg_left h3 (by decide)
      omega
    omega
def oFdiv : D → D → Mem → Op1
  | .int i, .int j, M => if 0 < j ∧ j < 1073741824 then some (.int (i / j), M) else none
  | _, _, _ => none
def oMod : D → D → Mem → Op1
  | .int i, .int j, M => if 0 < j then some (.int (i % j), M) else none
  | _, _, _ => none
def oPow : D → D → Mem → Op1
  | .int i, .int j, M => if 0 ≤ j ∧ j ≤ 1000000 ∧ i.natAbs < 2 ^ 64 then some (.int (i ^ j.toNat), M) else none
  | _, _, _ => none

section
variable {X : Cx} {T : Tab} {n : Nat}
theorem op_oSub (G : Gd X T n) : Op2 X T (binaryOp .Sub) oSub := by
  intro pins s σ H x y v u Q I rx ry ⟨mu, M, a, b, S, ra, rb, h⟩
  cases a <;> cases b <;> first | exact h.elim | skip
  rename_i i j
  cases ra.int_inv
  cases rb.int_inv
  exact op_sub pins s σ H _ _ v u Q I rx ry ⟨i, j, rfl, rfl, h.here S (Rep.int_mk _)⟩
theorem op_oMul (G : Gd X T n) : Op2 X T (binaryOp .Mult) oMul := by
  intro pins s σ H x y v u Q I rx ry ⟨mu, M, a, b, S, ra, rb, h⟩
  cases a <;> cases b <;> first | exact h.elim | skip
  case int.int i j =>
    cases ra.int_inv
    cases rb.int_inv
    simp only [oMul] at h
    split at h
    · rename_i hb
      simp only [mulB, Bool.or_eq_true, decide_eq_true_eq] at hb
      exact op_mul pins s σ H _ _ v u Q I rx ry ⟨i, j, rfl, rfl, hb, h.here S (Rep.int_mk _)⟩
    · exact h.elim
  case str.int i j =>
    cases ra.str_inv
    cases rb.int_inv
    simp only [oMul] at h
    split at h
    · rename_i hb
      obtain ⟨t, rfl⟩ := (show ∃ t, v = .str i t from rx)
      obtain ⟨t2, rfl⟩ := (show ∃ t, u = .int j t from ry)
      exact SB.mul (mulOk_small hb.1 hb.2.1 hb.2.2) fun t' k => ⟨.str (Txt.mul i j), H, I.tok k, ⟨t', rfl⟩, h.here S (Rep.str_mk _)⟩
    · exact h.elim
theorem op_oFdiv (G : Gd X T n) : Op2 X T (binaryOp .FloorDiv) oFdiv := by
  intro pins s σ H x y v u Q I rx ry ⟨mu, M, a, b, S, ra, rb, h⟩
  cases a <;> cases b <;> first | exact h.elim | skip
  rename_i i j
  cases ra.int_inv
  cases rb.int_inv
  simp only [oFdiv] at h
  split at h
  · rename_i hb
    exact op_fdiv pins s σ H _ _ v u Q I rx ry ⟨i, j, rfl, rfl, hb, h.here S (Rep.int_mk _)⟩
  · exact h.elim
theorem op_oMod (G : Gd X T n) : Op2 X T (binaryOp .Mod) oMod := by
  intro pins s σ H x y v u Q I rx ry ⟨mu, M, a, b, S, ra, rb, h⟩
  cases a <;> cases b <;> first | exact h.elim | skip
  rename_i i j
  cases ra.int_inv
  cases rb.int_inv
  simp only [oMod] at h
  split at h
  · rename_i hb
    exact op_mod pins s σ H _ _ v u Q I rx ry ⟨i, j, rfl, rfl, hb, h.here S (Rep.int_mk _)⟩
  · exact h.elim
theorem op_oPow (G : Gd X T n) : Op2 X T (binaryOp .Pow) oPow := by
  intro pins s σ H x y v u Q I rx ry ⟨mu, M, a, b, S, ra, rb, h⟩
  cases a <;> cases b <;> first | exact h.elim | skip
  rename_i i j
  cases ra.int_inv
  cases rb.int_inv
  simp only [oPow] at h
  split at h
  · rename_i hb
    exact op_pow pins s σ H _ _ v u Q I rx ry ⟨i, j, rfl, rfl, hb, h.here S (Rep.int_mk _)⟩
  · exact h.elim
theorem op_oAdd (G : Gd X T n) : Op2 X T (binaryOp .Add) oAdd := by
  intro pins s σ H x y v u Q I rx ry ⟨mu, M, a, b, S, ra, rb, h⟩
  cases a <;> cases b <;> first | exact h.elim | skip
  · rename_i i j
    cases ra.int_inv
    cases rb.int_inv
    exact op_add pins s σ H _ _ v u Q I rx ry ⟨i, j, rfl, rfl, h.here S (Rep.int_mk _)⟩
  · rename_i i j
    cases ra.str_inv
    cases rb.str_inv
    simp only [oAdd] at h
    split at h
    · rename_i hb
      exact op_add_str pins s σ H _ _ v u Q I rx ry ⟨i, j, rfl, rfl, by rw [lim_eq]; exact hb, h.here S (Rep.str_mk _)⟩
    · exact h.elim
  · rename_i xs ys
    obtain ⟨p, vs, rfl, hp, rp⟩ := ra.tup_inv
    obtain ⟨q, ws, rfl, hq, rq⟩ := rb.tup_inv
    simp only [oAdd] at h
    split at h
    · rename_i hb
      rw [← G.K] at hp hq
      refine op_catA pins s σ H _ _ v u Q I rx ry ⟨p, q, vs, ws, rfl, rfl, hp, hq, by rw [lim_eq, ← rp.length, ← rq.length]; exact hb, fun e => ?_, fun _ e => ?_, fun _ _ r hr => ?_⟩
      · subst e
        have z : xs = [] := by
          have := rp.length
          exact List.eq_nil_of_length_eq_zero (by simpa using this)
        subst z
        exact h.here S (by rw [List.nil_append]; rw [G.K] at hq; exact Rep.tup_mk hq rq)
      · subst e
        have z : ys = [] := by
          have := rq.length
          exact List.eq_nil_of_length_eq_zero (by simpa using this)
        subst z
        exact h.here S (by rw [List.append_nil]; rw [G.K] at hp; exact Rep.tup_mk hp rp)
      · exact OkO.tup S (rp.append rq) hr h
    · exact h.elim
  · rename_i l k
    obtain ⟨p, hp, rfl⟩ := ra.loc_inv
    obtain ⟨q, hq, rfl⟩ := rb.loc_inv
    simp only [oAdd] at h
    split at h
    · rename_i xs ys e1 e2
      split at h
      · rename_i hb
        obtain ⟨vs, h1, r1⟩ := S.lst e1 hp
        obtain ⟨ws, h2, r2⟩ := S.lst e2 hq
        exact op_cat pins s σ H _ _ v u Q I rx ry ⟨p, q, vs, ws, rfl, rfl, h1, h2, by rw [lim_eq, ← r1.length, ← r2.length]; exact hb, fun r hr => OkO.lst S (r1.append r2) hr h⟩
      · exact h.elim
    · exact h.elim
end
end VI
namespace VI
open PySem PySem.Spec L2

def mapO {α β : Type} (f : α → Option β) : List α → Option (List β)
  | [] => some []
  | x :: xs => match f x, mapO f xs with
    | some y, some ys => some (y :: ys)
    | _, _ => none
/-- a value as plain data -/
def pd (M : Mem) : Nat → D → Option PyData
  | _, .non => some .none
  | _, .bl b => some (.bool b)
  | _, .int i => some (.int i)
  | _, .str x => some (.str x)
  | n + 1, .tup xs => (mapO (pd M n) xs).map PyData.tuple
  | n + 1, .loc l => match M[l]? with
    | some (.lst xs) => (mapO (pd M n) xs).map PyData.list
    | _ => none
  | _, _ => none
theorem pd_dp {T : Tab} {mu : List Addr} {M : Mem} {H : Hp} (S : Sim T mu M H) : ∀ (n : Nat) {d : D} {p : PyData} {v : V}, pd M n d = some p → Rep T mu H d v → Dp T.K H v p := by
  intro n
  induction n with
  | zero =>
    intro d p v h r
    cases d with
    | non => simp [pd] at h; subst h; cases r.non_inv; exact Dp.non
    | bl b => simp [pd] at h; subst h; cases r.bl_inv; exact Dp.bl b
    | int b => simp [pd] at h; subst h; cases r.int_inv; exact Dp.int b
    | str b => simp [pd] at h; subst h; cases r.str_inv; exact Dp.str b
    | tup xs => simp [pd] at h
    | loc l => simp [pd] at h
    | fn f c q ds us => simp [pd] at h
    | gd k => simp [pd] at h
    | rl k => simp [pd] at h
    | exn c ns ds => simp [pd] at h
  | succ n ih =>
    have all : ∀ {ds : List D} {ps : List PyData} {vs : List V}, mapO (pd M n) ds = some ps → RepL T mu H ds vs → DpAll T.K H vs ps := by
      intro ds
      induction ds with
      | nil => intro ps vs h r; simp [mapO] at h; subst h; rw [r.inv_nil]; exact DpAll.nil
      | cons d ds ihd =>
        intro ps vs h r
        obtain ⟨v, w, rfl, a, b⟩ := r.inv_cons
        simp only [mapO] at h
        split at h
        · rename_i q qs h1 h2
          cases h
          exact DpAll.cons (ih h1 a) (ihd h2 b)
        · cases h
    intro d p v h r
    cases d with
    | non => simp [pd] at h; subst h; cases r.non_inv; exact Dp.non
    | bl b => simp [pd] at h; subst h; cases r.bl_inv; exact Dp.bl b
    | int b => simp [pd] at h; subst h; cases r.int_inv; exact Dp.int b
    | str b => simp [pd] at h; subst h; cases r.str_inv; exact Dp.str b
    | tup xs =>
      simp only [pd, Option.map_eq_some_iff] at h
      obtain ⟨ps, h, rfl⟩ := h
      obtain ⟨a, vs, rfl, hs, rl⟩ := r.tup_inv
      exact Dp.tup hs (all h rl)
    | loc l =>
      simp only [pd] at h
      split at h
      · rename_i xs e
        simp only [Option.map_eq_some_iff] at h
        obtain ⟨ps, h, rfl⟩ := h
        obtain ⟨a, ha, rfl⟩ := r.loc_inv
        obtain ⟨vs, hv, rl⟩ := S.lst e ha
        exact Dp.lst (SqL.of hv) (all h rl)
      · cases h
    | fn f c q ds us => simp [pd] at h
    | gd k => simp [pd] at h
    | rl k => simp [pd] at h
    | exn c ns ds => simp [pd] at h

def scalD : D → D → Option Bool
  | .int i, .int j => some (decide (i = j))
  | .str x, .str y => some (decide (x = y))
  | .bl a, .bl b => some (decide (a = b))
  | .non, .non => some true
  | .non, .int _ => some false
  | .int _, .non => some false
  | .non, .bl _ => some false
  | .bl _, .non => some false
  | .non, .str _ => some false
  | .str _, .non => some false
  | .int _, .str _ => some false
  | .str _, .int _ => some false
  | .bl _, .str _ => some false
  | .str _, .bl _ => some false
  | _, _ => none
theorem scalD_ok {T : Tab} {mu : List Addr} {H : Hp} {a b : D} {x y : V} {c : Bool} (h : scalD a b = some c) (ra : Rep T mu H a x) (rb : Rep T mu H b y) : scal x y = true ∧ decide (x = y) = c := by
  cases a <;> cases b <;> simp only [scalD] at h <;> first | (cases h; done) | skip
  all_goals
    simp only [Rep] at ra rb
    subst ra rb
    simp only [Option.some.injEq] at h
    subst h
    simp [scal]
def eqD (M : Mem) (a b : D) : Option Bool :=
  match scalD a b with
  | some c => some c
  | none => match pd M 12 a, pd M 12 b with
    | some p, some q => if SeqAt.shaped p && SeqAt.shaped q then some (PyData.eqv p q) else none
    | _, _ => none
def oEq (a b : D) (M : Mem) : Op1 := (eqD M a b).map fun c => (.bl c, M)
def oNe (a b : D) (M : Mem) : Op1 := (eqD M a b).map fun c => (.bl (!c), M)
def ltS (x y : Str) : Bool := decide (x.cps.toList < y.cps.toList)
def oLt : D → D → Mem → Op1
  | .int i, .int j, M => some (.bl (decide (i < j)), M)
  | .str x, .str y, M => some (.bl (ltS x y), M)
  | _, _, _ => none
def oLe : D → D → Mem → Op1
  | .int i, .int j, M => some (.bl (decide (i ≤ j)), M)
  | .str x, .str y, M => some (.bl (!ltS y x), M)
  | _, _, _ => none
def oGt : D → D → Mem → Op1
  | .int i, .int j, M => some (.bl (decide (j < i)), M)
  | .str x, .str y, M => some (.bl (ltS y x), M)
  | _, _, _ => none
def oGe : D → D → Mem → Op1
  | .int i, .int j, M => some (.bl (decide (j ≤ i)), M)
  | .str x, .str y, M => some (.bl (!ltS x y), M)
  | _, _, _ => none
def isNon : D → Bool
  | .non => true
  | _ => false
def oIs (a b : D) (M : Mem) : Op1 := match b with
  | .non => some (.bl (isNon a), M)
  | _ => none
def oIsNot (a b : D) (M : Mem) : Op1 := match b with
  | .non => some (.bl (!isNon a), M)
  | _ => none
/-- flat values and their == -/
def flatD : D → Bool
  | .non => true
  | .bl _ => true
  | .int _ => true
  | .str _ => true
  | _ => false
def eqF : D → D → Bool
  | .non, .non => true
  | .bl a, .bl b => a == b
  | .bl a, .int b => (if a then 1 else 0) == b
  | .int a, .bl b => a == (if b then 1 else 0)
  | .int a, .int b => a == b
  | .str a, .str b => a == b
  | _, _ => false
def inS (x y : Str) : Bool := match x.cps.toList with
  | [c] => decide (c ∈ y.cps.toList)
  | _ => !(Builtin.Str.occurrences y x 0 y.length 1).isEmpty
def keyD : D → Option Key
  | .int i => some (.inl i)
  | .str x => some (.inr x)
  | _ => none
/-- x in y -/
def memD (gt : Nat → List (Str × D)) (M : Mem) (a : D) : D → Option Bool
  | .gd k => match a with
    | .str x => if (gt k).isEmpty then none else some ((gt k).lookup x).isSome
    | _ => none
  | .str y => match a with
    | .str x => some (inS x y)
    | _ => none
  | .tup xs => if flatD a && xs.all flatD then some (xs.any fun b => eqF b a) else none
  | .loc l => match M[l]? with
    | some (.lst xs) => if flatD a && xs.all flatD then some (xs.any fun b => eqF b a) else
        match pd M 12 a, mapO (pd M 12) xs with
        | some p, some ps => if SeqAt.shaped p && SeqAt.shaped (.list ps) then some (ps.any fun z => PyData.eqv z p) else none
        | _, _ => none
    | some (.dct ks vs) => (keyD a).map fun k => ks.any fun a => decide (a = k)
    | _ => none
  | _ => none
def oIn (gt : Nat → List (Str × D)) (a b : D) (M : Mem) : Op1 := (memD gt M a b).map fun c => (.bl c, M)
def oNotIn (gt : Nat → List (Str × D)) (a b : D) (M : Mem) : Op1 := (memD gt M a b).map fun c => (.bl (!c), M)

section
variable {T : Tab} {mu : List Addr} {H : Hp} {M : Mem}
theorem flat_ok {d : D} {v : V} (f : flatD d = true) (r : Rep T mu H d v) : flatV v = true := by
  cases d <;> simp only [flatD] at f <;> first | (cases f; done) | skip
  all_goals
    simp only [Rep] at r
    subst r
    rfl
theorem eqF_ok {a b : D} {x y : V} (fa : flatD a = true) (fb : flatD b = true) (ra : Rep T mu H a x) (rb : Rep T mu H b y) : eqV x y = eqF a b := by
  cases a <;> simp only [flatD] at fa <;> first | (cases fa; done) | skip
  all_goals
    cases b <;> simp only [flatD] at fb <;> first | (cases fb; done) | skip
  all_goals
    simp only [Rep] at ra rb
    subst ra rb
    rfl
theorem flatL_ok : ∀ {ds : List D} {vs : List V}, ds.all flatD = true → RepL T mu H ds vs → vs.all flatV = true
  | [], vs, f, r => by rw [r.inv_nil]; rfl
  | d :: ds, vs, f, r => by
    obtain ⟨v, w, rfl, a, b⟩ := r.inv_cons
    simp only [List.all_cons, Bool.and_eq_true] at f ⊢
    exact ⟨flat_ok f.1 a, flatL_ok f.2 b⟩
theorem anyF_ok {a : D} {x : V} (fa : flatD a = true) (ra : Rep T mu H a x) : ∀ {ds : List D} {vs : List V}, ds.all flatD = true → RepL T mu H ds vs → inV x vs = ds.any fun b => eqF b a
  | [], vs, f, r => by rw [r.inv_nil]; rfl
  | d :: ds, vs, f, r => by
    obtain ⟨v, w, rfl, c, b⟩ := r.inv_cons
    simp only [List.all_cons, Bool.and_eq_true] at f
    have ih := anyF_ok fa ra f.2 b
    simp only [inV, List.any_cons] at ih ⊢
    rw [ih, eqF_ok f.1 fa c ra]
theorem Sim.dct {l : Nat} {ks : List Key} {vs : List D} {p : Addr} (S : Sim T mu M H) (e : M[l]? = some (.dct ks vs)) (hp : mu[l]? = some p) : ∃ ws, H p = some (.dK (ks.zip ws)) ∧ ks.length = ws.length ∧ RepL T mu H vs ws := by
  obtain ⟨q, e1, r⟩ := S.ob l _ e
  rw [hp] at e1; cases e1
  exact r
theorem key_ok {d : D} {k : Key} {v : V} (h : keyD d = some k) (r : Rep T mu H d v) : v = kV k := by
  cases d <;> simp only [keyD] at h <;> first | (cases h; done) | skip
  all_goals
    simp only [Rep] at r
    subst r
    simp only [Option.some.injEq] at h
    subst h
    rfl
theorem valV_zip_some (k : Key) : ∀ {ks : List Key} {ws : List V}, ks.length = ws.length → (valV (ks.zip ws) k).isSome = ks.any fun a => decide (a = k)
  | [], [], _ => by simp [valV]
  | [], _ :: _, h => by simp at h
  | _ :: _, [], h => by simp at h
  | a :: ks, w :: ws, h => by
    have ih := valV_zip_some k (ks := ks) (ws := ws) (by simpa using h)
    rw [List.zip_cons_cons, List.any_cons, ← ih]
    by_cases e : a = k
    · subst e; rw [valV_pos rfl]; simp
    · rw [valV_neg e]; simp [e]
end

section
variable {X : Cx} {T : Tab} {n : Nat}
theorem op_oEq (G : Gd X T n) : Op2 X T (compareOp .Eq) oEq := by
  intro pins s σ H x y v u Q I rx ry ⟨mu, M, a, b, S, ra, rb, h⟩
  simp only [oEq, eqD] at h
  split at h
  · rename_i c hc
    obtain ⟨e1, e2⟩ := scalD_ok hc ra rb
    exact op_eq pins s σ H x y v u Q I rx ry ⟨e1, by rw [e2]; exact h.here S (Rep.bl_mk _)⟩
  · split at h
    · rename_i p q e1 e2
      split at h
      · rename_i hs
        simp only [Bool.and_eq_true] at hs
        have hd1 := pd_dp S 12 e1 ra
        have hd2 := pd_dp S 12 e2 rb
        rw [← G.K] at hd1 hd2
        exact op_eqD (G.room.units) pins s σ H x y v u Q I rx ry ⟨p, q, hd1, hd2, hs.1, hs.2, h.here S (Rep.bl_mk _)⟩
      · exact h.elim
    · exact h.elim
theorem op_oNe (G : Gd X T n) : Op2 X T (compareOp .NotEq) oNe := by
  intro pins s σ H x y v u Q I rx ry ⟨mu, M, a, b, S, ra, rb, h⟩
  simp only [oNe, eqD] at h
  split at h
  · rename_i c hc
    obtain ⟨e1, e2⟩ := scalD_ok hc ra rb
    exact op_ne pins s σ H x y v u Q I rx ry ⟨e1, by rw [e2]; exact h.here S (Rep.bl_mk _)⟩
  · split at h
    · rename_i p q e1 e2
      split at h
      · rename_i hs
        simp only [Bool.and_eq_true] at hs
        have hd1 := pd_dp S 12 e1 ra
        have hd2 := pd_dp S 12 e2 rb
        rw [← G.K] at hd1 hd2
        exact op_neD (G.room.units) pins s σ H x y v u Q I rx ry ⟨p, q, hd1, hd2, hs.1, hs.2, h.here S (Rep.bl_mk _)⟩
      · exact h.elim
    · exact h.elim
theorem op_oLt (G : Gd X T n) : Op2 X T (compareOp .Lt) oLt := by
  intro pins s σ H x y v u Q I rx ry ⟨mu, M, a, b, S, ra, rb, h⟩
  cases a <;> cases b <;> first | exact h.elim | skip
  · cases ra.int_inv; cases rb.int_inv
    exact op_lt pins s σ H _ _ v u Q I rx ry ⟨_, _, rfl, rfl, h.here S (Rep.bl_mk _)⟩
  · cases ra.str_inv; cases rb.str_inv
    exact op_lt_str pins s σ H _ _ v u Q I rx ry ⟨_, _, rfl, rfl, h.here S (Rep.bl_mk _)⟩
theorem op_oLe (G : Gd X T n) : Op2 X T (compareOp .LtE) oLe := by
  intro pins s σ H x y v u Q I rx ry ⟨mu, M, a, b, S, ra, rb, h⟩
  cases a <;> cases b <;> first | exact h.elim | skip
  · cases ra.int_inv; cases rb.int_inv
    exact op_le pins s σ H _ _ v u Q I rx ry ⟨_, _, rfl, rfl, h.here S (Rep.bl_mk _)⟩
  · cases ra.str_inv; cases rb.str_inv
    exact op_le_str pins s σ H _ _ v u Q I rx ry ⟨_, _, rfl, rfl, h.here S (Rep.bl_mk _)⟩
theorem op_oGt (G : Gd X T n) : Op2 X T (compareOp .Gt) oGt := by
  intro pins s σ H x y v u Q I rx ry ⟨mu, M, a, b, S, ra, rb, h⟩
  cases a <;> cases b <;> first | exact h.elim | skip
  · cases ra.int_inv; cases rb.int_inv
    exact op_gt pins s σ H _ _ v u Q I rx ry ⟨_, _, rfl, rfl, h.here S (Rep.bl_mk _)⟩
  · cases ra.str_inv; cases rb.str_inv
    exact op_gt_str pins s σ H _ _ v u Q I rx ry ⟨_, _, rfl, rfl, h.here S (Rep.bl_mk _)⟩
theorem op_oGe (G : Gd X T n) : Op2 X T (compareOp .GtE) oGe := by
  intro pins s σ H x y v u Q I rx ry ⟨mu, M, a, b, S, ra, rb, h⟩
  cases a <;> cases b <;> first | exact h.elim | skip
  · cases ra.int_inv; cases rb.int_inv
    exact op_ge pins s σ H _ _ v u Q I rx ry ⟨_, _, rfl, rfl, h.here S (Rep.bl_mk _)⟩
  · cases ra.str_inv; cases rb.str_inv
    exact op_ge_str pins s σ H _ _ v u Q I rx ry ⟨_, _, rfl, rfl, h.here S (Rep.bl_mk _)⟩
theorem isNon_ok {mu : List Addr} {H : Hp} {d : D} {v : V} (r : Rep T mu H d v) : decide (v = V.non) = isNon d := by
  cases d
  case tup xs => obtain ⟨p, vs, rfl, _⟩ := r.tup_inv; simp [isNon]
  case loc l => obtain ⟨p, _, rfl⟩ := r.loc_inv; simp [isNon]
  case rl l =>
    simp only [Rep] at r
    obtain ⟨p, vs, rfl, _⟩ := r
    simp [isNon]
  case exn c ns ds =>
    simp only [Rep] at r
    obtain ⟨p, dd, rfl, _⟩ := r
    simp [isNon]
  case fn f c q ds us =>
    obtain ⟨rfl, _⟩ := r.fn_inv
    simp [isNon]
  all_goals
    simp only [Rep] at r
    subst r
    simp [isNon]
theorem op_oIs (G : Gd X T n) : Op2 X T (compareOp .Is) oIs := by
  intro pins s σ H x y v u Q I rx ry ⟨mu, M, a, b, S, ra, rb, h⟩
  cases b <;> first | exact h.elim | skip
  cases rb.non_inv
  exact op_isN pins s σ H _ _ v u Q I rx ry ⟨rfl, by rw [isNon_ok ra]; exact h.here S (Rep.bl_mk _)⟩
theorem op_oIsNot (G : Gd X T n) : Op2 X T (compareOp .IsNot) oIsNot := by
  intro pins s σ H x y v u Q I rx ry ⟨mu, M, a, b, S, ra, rb, h⟩
  cases b <;> first | exact h.elim | skip
  cases rb.non_inv
  exact op_notN pins s σ H _ _ v u Q I rx ry ⟨rfl, by rw [isNon_ok ra]; exact h.here S (Rep.bl_mk _)⟩
theorem sign_eq {x : Str} {c : Nat} (h : x.cps.toList = [c]) : x = ⟨#[c]⟩ := by
  cases x with
  | mk a =>
    congr 1
    have := congrArg List.toArray h
    simpa using this
theorem op_oIn (G : Gd X T n) : Op2 X T (compareOp .In) (oIn T.gt) := by
  intro pins s σ H x y v u Q I rx ry ⟨mu, M, a, b, S, ra, rb, h⟩
  simp only [oIn] at h
  cases b <;> first | exact h.elim | skip
  case str y' =>
    cases rb.str_inv
    cases a <;> first | exact h.elim | skip
    rename_i x'
    cases ra.str_inv
    simp only [memD, inS] at h
    split at h
    · rename_i c hc
      have e := sign_eq hc
      exact op_in_sign pins s σ H _ _ v u Q I rx ry ⟨c, y', by rw [e], rfl, h.here S (Rep.bl_mk _)⟩
    · exact op_in_str pins s σ H _ _ v u Q I rx ry ⟨_, _, rfl, rfl, h.here S (Rep.bl_mk _)⟩
  case gd k =>
    simp only [memD] at h
    cases a <;> first | exact h.elim | skip
    rename_i x'
    cases ra.str_inv
    have ev : y = .ref (T.ga k) := by simpa only [Rep] using rb
    subst ev
    simp only at h
    split at h
    · exact h.elim
    · rename_i hne
      obtain ⟨⟨es, m, kd⟩, hz⟩ := G.gd k (by intro z; rw [z] at hne; exact hne rfl)
      have q := hz x'
      cases e : (T.gt k).lookup x' with
      | none =>
        rw [e] at q h
        exact op_in_kd kd pins s σ H _ _ v u Q I rx ry ⟨x', none, rfl, rfl, q, h.here S (Rep.bl_mk _)⟩
      | some d =>
        rw [e] at q h
        obtain ⟨u0, v0, q1, q2, q3⟩ := q
        exact op_in_kd kd pins s σ H _ _ v u Q I rx ry ⟨x', some u0, rfl, rfl, q1, h.here S (Rep.bl_mk _)⟩
  case tup xs =>
    obtain ⟨p, vs, rfl, hp, rl⟩ := rb.tup_inv
    simp only [memD] at h
    split at h
    · rename_i hf
      simp only [Bool.and_eq_true] at hf
      rw [← G.K] at hp
      refine op_in_seq pins s σ H _ _ v u Q I rx ry ⟨p, vs, rfl, .inr hp, flat_ok hf.1 ra, flatL_ok hf.2 rl, ?_⟩
      rw [anyF_ok hf.1 ra hf.2 rl]
      exact h.here S (Rep.bl_mk _)
    · exact h.elim
  case loc l =>
    obtain ⟨p, hp, rfl⟩ := rb.loc_inv
    simp only [memD] at h
    split at h
    · rename_i xs e
      obtain ⟨vs, hv, rl⟩ := S.lst e hp
      split at h
      · rename_i hf
        simp only [Bool.and_eq_true] at hf
        refine op_in_seq pins s σ H _ _ v u Q I rx ry ⟨p, vs, rfl, .inl (SqL.of hv), flat_ok hf.1 ra, flatL_ok hf.2 rl, ?_⟩
        rw [anyF_ok hf.1 ra hf.2 rl]
        exact h.here S (Rep.bl_mk _)
      · split at h
        · rename_i q qs e1 e2
          split at h
          · rename_i hs
            simp only [Bool.and_eq_true] at hs
            have hd1 := pd_dp S 12 e1 ra
            have hd2 : Dp T.K H (.ref p) (.list qs) := pd_dp S 13 (d := .loc l) (by simp only [pd, e, e2, Option.map_some]) (Rep.loc_mk hp)
            rw [← G.K] at hd1 hd2
            have hu : X.A.units + 65 < cLine := by have := G.room.un; omega
            exact op_inD hu pins s σ H _ _ v u Q I rx ry ⟨q, qs, hd1, hd2, hs.1, hs.2, h.here S (Rep.bl_mk _)⟩
          · exact h.elim
        · exact h.elim
    · rename_i ks vs e
      obtain ⟨ws, hw, hl, rl⟩ := S.dct e hp
      cases hk : keyD a with
      | none => rw [hk] at h; exact h.elim
      | some k =>
        rw [hk] at h
        have ev := key_ok hk ra
        subst ev
        obtain rfl : u = Value.ref p := ry
        have hu : X.A.units + 1 < cLine := by have := G.room.un; omega
        refine d_in hu I (DGet.k hw) rx fun s' I' => ⟨.bl _, H, I', rfl, ?_⟩
        rw [valV_zip_some k hl]
        exact h.here S (Rep.bl_mk _)
    · exact h.elim
end
end VI
namespace VI
open PySem PySem.Spec L2

section
variable {X : Cx} {T : Tab} {n : Nat}
theorem op_oNotIn (G : Gd X T n) : Op2 X T (compareOp .NotIn) (oNotIn T.gt) := by
  intro pins s σ H x y v u Q I rx ry ⟨mu, M, a, b, S, ra, rb, h⟩
  simp only [oNotIn] at h
  cases b <;> first | exact h.elim | skip
  case str y' =>
    cases rb.str_inv
    cases a <;> first | exact h.elim | skip
    rename_i x'
    cases ra.str_inv
    simp only [memD, inS] at h
    split at h
    · rename_i c hc
      have e := sign_eq hc
      exact op_notIn_sign pins s σ H _ _ v u Q I rx ry ⟨c, y', by rw [e], rfl, h.here S (Rep.bl_mk _)⟩
    · exact op_notin_str pins s σ H _ _ v u Q I rx ry ⟨_, _, rfl, rfl, h.here S (Rep.bl_mk _)⟩
  case gd k =>
    simp only [memD] at h
    cases a <;> first | exact h.elim | skip
    rename_i x'
    cases ra.str_inv
    have ev : y = .ref (T.ga k) := by simpa only [Rep] using rb
    subst ev
    simp only at h
    split at h
    · exact h.elim
    · rename_i hne
      obtain ⟨⟨es, m, kd⟩, hz⟩ := G.gd k (by intro z; rw [z] at hne; exact hne rfl)
      have q := hz x'
      cases e : (T.gt k).lookup x' with
      | none =>
        rw [e] at q h
        exact op_notIn_kd kd pins s σ H _ _ v u Q I rx ry ⟨x', none, rfl, rfl, q, h.here S (Rep.bl_mk _)⟩
      | some d =>
        rw [e] at q h
        obtain ⟨u0, v0, q1, q2, q3⟩ := q
        exact op_notIn_kd kd pins s σ H _ _ v u Q I rx ry ⟨x', some u0, rfl, rfl, q1, h.here S (Rep.bl_mk _)⟩
  case tup xs =>
    obtain ⟨p, vs, rfl, hp, rl⟩ := rb.tup_inv
    simp only [memD] at h
    split at h
    · rename_i hf
      simp only [Bool.and_eq_true] at hf
      rw [← G.K] at hp
      refine op_notIn_seq pins s σ H _ _ v u Q I rx ry ⟨p, vs, rfl, .inr hp, flat_ok hf.1 ra, flatL_ok hf.2 rl, ?_⟩
      rw [anyF_ok hf.1 ra hf.2 rl]
      exact h.here S (Rep.bl_mk _)
    · exact h.elim
  case loc l =>
    obtain ⟨p, hp, rfl⟩ := rb.loc_inv
    simp only [memD] at h
    split at h
    · rename_i xs e
      obtain ⟨vs, hv, rl⟩ := S.lst e hp
      split at h
      · rename_i hf
        simp only [Bool.and_eq_true] at hf
        refine op_notIn_seq pins s σ H _ _ v u Q I rx ry ⟨p, vs, rfl, .inl (SqL.of hv), flat_ok hf.1 ra, flatL_ok hf.2 rl, ?_⟩
        rw [anyF_ok hf.1 ra hf.2 rl]
        exact h.here S (Rep.bl_mk _)
      · split at h
        · rename_i q qs e1 e2
          split at h
          · rename_i hs
            simp only [Bool.and_eq_true] at hs
            have hd1 := pd_dp S 12 e1 ra
            have hd2 : Dp T.K H (.ref p) (.list qs) := pd_dp S 13 (d := .loc l) (by simp only [pd, e, e2, Option.map_some]) (Rep.loc_mk hp)
            rw [← G.K] at hd1 hd2
            have hu : X.A.units + 65 < cLine := by have := G.room.un; omega
            exact op_notInD hu pins s σ H _ _ v u Q I rx ry ⟨q, qs, hd1, hd2, hs.1, hs.2, h.here S (Rep.bl_mk _)⟩
          · exact h.elim
        · exact h.elim
    · rename_i ks vs e
      obtain ⟨ws, hw, hl, rl⟩ := S.dct e hp
      cases hk : keyD a with
      | none => rw [hk] at h; exact h.elim
      | some k =>
        rw [hk] at h
        have ev := key_ok hk ra
        subst ev
        obtain rfl : u = Value.ref p := ry
        have hu : X.A.units + 1 < cLine := by have := G.room.un; omega
        refine d_notIn hu I (DGet.k hw) rx fun s' I' => ⟨.bl _, H, I', rfl, ?_⟩
        rw [valV_zip_some k hl]
        exact h.here S (Rep.bl_mk _)
    · exact h.elim
end

/-! ### expressions -/
abbrev EvE := EnvD → Mem → Res D
abbrev EvT := EnvD → Mem → Res Bool
abbrev EvA := EnvD → Mem → Res (List D)
def eBad {α : Type} : EnvD → Mem → Res α := fun _ _ => .bad
def eVar (i : Nat) : EvE := fun rho M => match rho[i]? with
  | some (some d) => .ok d M
  | _ => .bad
def eCon (d : D) : EvE := fun _ M => .ok d M
def eBin (g : D → D → Mem → Op1) (a b : EvE) : EvE := fun rho M => (a rho M).bind fun x M1 => (b rho M1).bind fun y M2 => liftO (g x y M2)
def eNeg (a : EvE) : EvE := fun rho M => (a rho M).bind fun x M1 => match x with
  | .int i => .ok (.int (-i)) M1
  | _ => .bad
/-- a value's truth -/
def truD (M : Mem) : D → Option Bool
  | .non => some false
  | .bl b => some b
  | .int i => some (i != 0)
  | .str x => if x.length ≤ lim then some ((x.length : Int) != 0) else none
  | .tup xs => some (!xs.isEmpty)
  | .loc l => match M[l]? with
    | some (.lst xs) => some (!xs.isEmpty)
    | some (.dct ks vs) => some (!ks.isEmpty)
    | _ => none
  | _ => none
def truR (x : D) (M : Mem) : Res Bool := match truD M x with
  | some b => .ok b M
  | none => .bad
def eTru (a : EvE) : EvT := fun rho M => (a rho M).bind truR
def eNot (a : EvT) : EvT := fun rho M => (a rho M).bind fun b M1 => .ok (!b) M1
def eAndT (a b : EvT) : EvT := fun rho M => (a rho M).bind fun c M1 => if c then b rho M1 else .ok false M1
def eOrT (a b : EvT) : EvT := fun rho M => (a rho M).bind fun c M1 => if c then .ok true M1 else b rho M1
def eAndV (a b : EvE) : EvE := fun rho M => (a rho M).bind fun x M1 => (truR x M1).bind fun c M2 => if c then b rho M2 else .ok x M2
def eOrV (a b : EvE) : EvE := fun rho M => (a rho M).bind fun x M1 => (truR x M1).bind fun c M2 => if c then .ok x M2 else b rho M2
def eNotV (a : EvE) : EvE := fun rho M => (a rho M).bind fun x M1 => (truR x M1).bind fun c M2 => .ok (.bl (!c)) M2
def eIte {α : Type} (c : EvT) (a b : EnvD → Mem → Res α) : EnvD → Mem → Res α := fun rho M => (c rho M).bind fun k M1 => if k then a rho M1 else b rho M1
def eChain (g g' : D → D → Mem → Op1) (a b c : EvE) : EvE := fun rho M => (a rho M).bind fun x M1 => (b rho M1).bind fun y M2 => (liftO (g x y M2)).bind fun z M3 => match z with
  | .bl true => (c rho M3).bind fun w M4 => liftO (g' y w M4)
  | .bl false => .ok (.bl false) M3
  | _ => .bad
def eANil : EvA := fun _ M => .ok [] M
def eACons (a : EvE) (b : EvA) : EvA := fun rho M => (a rho M).bind fun x M1 => (b rho M1).bind fun xs M2 => .ok (x :: xs) M2
def eTup (a : EvA) : EvE := fun rho M => (a rho M).bind fun xs M1 => if xs.length ≤ lim then .ok (.tup xs) M1 else .bad
def eLst (a : EvA) : EvE := fun rho M => (a rho M).bind fun xs M1 => if xs.length ≤ lim then .ok (.loc M1.length) (M1 ++ [.lst xs]) else .bad
/-- value of a test that is a comparison -/
def eBool (a : EvE) : EvT := fun rho M => (a rho M).bind fun x M1 => match x with
  | .bl b => .ok b M1
  | _ => .bad

section
variable {X : Cx} {T : Tab} {n : Nat} {W : WX} {a b c : Expr} {fa fb fc : EvE} {pos : Pos}

theorem tru_dk {mu : List Addr} {M : Mem} {H : Hp} (G : Gd X T n) (S : Sim T mu M H) {d : D} {v : V} {k : Bool} (h : truD M d = some k) (r : Rep T mu H d v) : TruV X.K v H k := by
  cases d <;> simp only [truD] at h <;> first | (cases h; done) | skip
  case non => cases r.non_inv; cases h; rfl
  case bl b => cases r.bl_inv; cases h; rfl
  case int i => cases r.int_inv; cases h; rfl
  case str x =>
    cases r.str_inv
    split at h
    · rename_i hz
      cases h
      exact ⟨by rw [lim_eq]; exact hz, rfl⟩
    · cases h
  case tup xs =>
    obtain ⟨p, vs, rfl, hp, rl⟩ := r.tup_inv
    cases h
    rw [← G.K] at hp
    refine .inr (.inl ⟨vs, hp, ?_⟩)
    have := rl.length
    cases xs <;> cases vs <;> first | rfl | simp at this
  case loc l =>
    obtain ⟨p, hp, rfl⟩ := r.loc_inv
    split at h
    · rename_i xs e
      cases h
      obtain ⟨vs, hv, rl⟩ := S.lst e hp
      refine .inl ⟨vs, SqL.of hv, ?_⟩
      have := rl.length
      cases xs <;> cases vs <;> first | rfl | simp at this
    · rename_i ks vs e
      cases h
      obtain ⟨ws, hw, hl, rl⟩ := S.dct e hp
      refine .inr (.inr ⟨_, hw, ?_⟩)
      cases ks <;> cases ws <;> first | rfl | simp at hl
    · cases h

theorem bind_assoc {α β γ : Type} (r : Res α) (f : α → Mem → Res β) (g : β → Mem → Res γ) : (r.bind f).bind g = r.bind fun a M => (f a M).bind g := by
  cases r <;> rfl
/-- from one value on -/
theorem step1 {γ δ : Type} {rel : List Addr → Hp → γ → δ → Prop} {f : EvE} {k : D → Mem → Res γ} {σ : St} {H : Hp} {Q : δ → Hp → Prop} {P : V → Hp → Prop} {mu : List Addr} {M : Mem} {rho : EnvD}
    (S : Sim T mu M H) (E : EnvR T mu H rho σ) (h : OkG T rel W σ Q mu H ((f rho M).bind k))
    (go : ∀ mu1 M1 d v H1, Sim T mu1 M1 H1 → EnvR T mu1 H1 rho σ → Grow T mu H mu1 H1 → Rep T mu1 H1 d v → OkG T rel W σ Q mu1 H1 (k d M1) → P v H1) : tV T W f σ H P := by
  refine tG.intro S E ?_
  have h' := OkG.bind (rel := Rep T) h
  cases e : f rho M with
  | ok d M1 =>
    rw [e] at h'
    exact fun mu1 H1 y S1 G1 R1 => by
      obtain ⟨mu2, M2, d2, S2, G2, R2, h2⟩ := h' mu1 H1 y S1 G1 R1
      exact go mu2 M2 d2 y H1 S2 (E.mono G2) G2 R2 h2
  | exc x M1 => rw [e] at h'; exact h'
  | bad => rw [e] at h'; exact h'
theorem stepA {γ δ : Type} {rel : List Addr → Hp → γ → δ → Prop} {f : EvA} {k : List D → Mem → Res γ} {σ : St} {H : Hp} {Q : δ → Hp → Prop} {P : List V → Hp → Prop} {mu : List Addr} {M : Mem} {rho : EnvD}
    (S : Sim T mu M H) (E : EnvR T mu H rho σ) (h : OkG T rel W σ Q mu H ((f rho M).bind k))
    (go : ∀ mu1 M1 d v H1, Sim T mu1 M1 H1 → EnvR T mu1 H1 rho σ → Grow T mu H mu1 H1 → RepL T mu1 H1 d v → OkG T rel W σ Q mu1 H1 (k d M1) → P v H1) : tL T W f σ H P := by
  refine tG.intro S E ?_
  have h' := OkG.bind (rel := RepL T) h
  cases e : f rho M with
  | ok d M1 =>
    rw [e] at h'
    exact fun mu1 H1 y S1 G1 R1 => by
      obtain ⟨mu2, M2, d2, S2, G2, R2, h2⟩ := h' mu1 H1 y S1 G1 R1
      exact go mu2 M2 d2 y H1 S2 (E.mono G2) G2 R2 h2
  | exc x M1 => rw [e] at h'; exact h'
  | bad => rw [e] at h'; exact h'
theorem stepB {γ δ : Type} {rel : List Addr → Hp → γ → δ → Prop} {f : EvT} {k : Bool → Mem → Res γ} {σ : St} {H : Hp} {Q : δ → Hp → Prop} {P : Bool → Hp → Prop} {mu : List Addr} {M : Mem} {rho : EnvD}
    (S : Sim T mu M H) (E : EnvR T mu H rho σ) (h : OkG T rel W σ Q mu H ((f rho M).bind k))
    (go : ∀ mu1 M1 d H1, Sim T mu1 M1 H1 → EnvR T mu1 H1 rho σ → Grow T mu H mu1 H1 → OkG T rel W σ Q mu1 H1 (k d M1) → P d H1) : tB T W f σ H P := by
  refine tG.intro S E ?_
  have h' := OkG.bind (rel := relB) h
  cases e : f rho M with
  | ok d M1 =>
    rw [e] at h'
    exact fun mu1 H1 y S1 G1 R1 => by
      obtain ⟨mu2, M2, d2, S2, G2, R2, h2⟩ := h' mu1 H1 y S1 G1 R1
      cases R2
      exact go mu2 M2 y H1 S2 (E.mono G2) G2 h2
  | exc x M1 => rw [e] at h'; exact h'
  | bad => rw [e] at h'; exact h'
/-- a value at hand -/
theorem OkG.here {α β : Type} {rel : List Addr → Hp → α → β → Prop} {mu : List Addr} {M : Mem} {H : Hp} {σ : St} {Q : β → Hp → Prop} {d : α} {v : β} (S : Sim T mu M H) (r : rel mu H d v) (h : OkG T rel W σ Q mu H (.ok d M)) : Q v H := h mu H v S Grow.refl r

theorem den_var {i : Nat} {x : Str} (hN : X.N[i]? = some x) (hv : Vis X.env.scope x) (hd : (x == ("__debug__" : Str)) = false) (hcd : (x == ("__classdict__" : Str)) = false) : PE X (.Name x pos) (tV T W (eVar i)) := by
  refine imp_e (pe_var (i := i) hN hv hd hcd) fun σ H Q h => ?_
  obtain ⟨mu, M, rho, S, E, h⟩ := h
  simp only [eVar] at h
  split at h
  · rename_i d e
    obtain ⟨v, hv, r⟩ := E.2 i d e
    exact ⟨v, hv, OkG.here S r h⟩
  · exact h.elim
theorem den_bad {e : Expr} : PE X e (tV T W eBad) := ⟨fun pins s σ H Q I h => by
  obtain ⟨mu, M, rho, S, E, h⟩ := h
  exact h.elim⟩
theorem den_badT {e : Expr} : PT X e (tB T W eBad) := ⟨fun pins s σ H Q I h => by
  obtain ⟨mu, M, rho, S, E, h⟩ := h
  exact h.elim⟩
theorem den_badA {e : List Expr} : PA X e (tL T W eBad) := ⟨fun pos pins s σ H Q I h => by
  obtain ⟨mu, M, rho, S, E, h⟩ := h
  exact h.elim⟩
theorem den_con {e : Expr} {d : D} {v : V} (h : PE X e (tC v)) (r : ∀ mu H, Rep T mu H d v) : PE X e (tV T W (eCon d)) := imp_e h fun σ H Q h => by
  obtain ⟨mu, M, rho, S, E, h⟩ := h
  exact OkG.here S (r mu H) h
theorem den_op {op : Operator} {g : D → D → Mem → Op1} (o : Op2 X T (binaryOp op) g) (ha : PE X a (tV T W fa)) (hb : PE X b (tV T W fb)) : PE X (.BinOp a op b pos) (tV T W (eBin g fa fb)) := by
  refine imp_e (pe_op o ha hb) fun σ H Q h => ?_
  obtain ⟨mu, M, rho, S, E, h⟩ := h
  refine step1 S E h fun mu1 M1 d v H1 S1 E1 G1 R1 h1 => ?_
  refine step1 S1 E1 h1 fun mu2 M2 d2 v2 H2 S2 E2 G2 R2 h2 => ?_
  exact ⟨mu2, M2, d, d2, S2, R1.mono G2, R2, OkO.of h2⟩
theorem den_cmp {op : CmpOp} {g : D → D → Mem → Op1} (o : Op2 X T (compareOp op) g) (ha : PE X a (tV T W fa)) (hb : PE X b (tV T W fb)) (hm : behindInMarks op b = false) : PE X (.Compare a [op] [b] pos) (tV T W (eBin g fa fb)) := by
  refine imp_e (pe_cmpR o ha hb hm) fun σ H Q h => ?_
  obtain ⟨mu, M, rho, S, E, h⟩ := h
  refine step1 S E h fun mu1 M1 d v H1 S1 E1 G1 R1 h1 => ?_
  refine step1 S1 E1 h1 fun mu2 M2 d2 v2 H2 S2 E2 G2 R2 h2 => ?_
  exact ⟨mu2, M2, d, d2, S2, R1.mono G2, R2, OkO.of h2⟩
theorem OkO.bl {mu : List Addr} {H : Hp} {σ : St} {Q : Bool → Hp → Prop} {o : Op1} (h : OkG T relB W σ Q mu H ((liftO o).bind fun x M1 => match x with
  | .bl b => .ok b M1
  | _ => .bad)) : OkO T (fun y H1 => ∃ k, y = .bl k ∧ Q k H1) mu H o := by
  cases o with
  | none => exact h.elim
  | some p =>
    obtain ⟨d, M1⟩ := p
    cases d <;> first | exact h.elim | skip
    rename_i b
    intro mu' H' y S G R
    cases R.bl_inv
    exact ⟨b, rfl, h mu' H' b S G rfl⟩
theorem denT_cmp {op : CmpOp} {g : D → D → Mem → Op1} (o : Op2 X T (compareOp op) g) (ha : PE X a (tV T W fa)) (hb : PE X b (tV T W fb)) (hm : behindInMarks op b = false) : PT X (.Compare a [op] [b] pos) (tB T W (eBool (eBin g fa fb))) := by
  refine imp_t (pt_cmpR o ha hb hm) fun σ H Q h => ?_
  obtain ⟨mu, M, rho, S, E, h⟩ := h
  simp only [eBool, eBin, bind_assoc] at h
  refine step1 S E h fun mu1 M1 d v H1 S1 E1 G1 R1 h1 => ?_
  refine step1 S1 E1 h1 fun mu2 M2 d2 v2 H2 S2 E2 G2 R2 h2 => ?_
  exact ⟨mu2, M2, d, d2, S2, R1.mono G2, R2, OkO.bl h2⟩
theorem den_chain {op op' : CmpOp} {g g' : D → D → Mem → Op1} (o : Op2 X T (compareOp op) g) (o' : Op2 X T (compareOp op') g') (ha : PE X a (tV T W fa)) (hb : PE X b (tV T W fb)) (hc : PE X c (tV T W fc))
    (hm : lastMarks [op, op'] [b, c] = false) : PE X (.Compare a [op, op'] [b, c] pos) (tV T W (eChain g g' fa fb fc)) := by
  refine imp_e (pe_chain o o' ha hb hc hm) fun σ H Q h => ?_
  obtain ⟨mu, M, rho, S, E, h⟩ := h
  refine step1 S E h fun mu1 M1 d v H1 S1 E1 G1 R1 h1 => ?_
  refine step1 S1 E1 h1 fun mu2 M2 d2 v2 H2 S2 E2 G2 R2 h2 => ?_
  refine ⟨mu2, M2, d, d2, S2, R1.mono G2, R2, ?_⟩
  cases e : g d d2 M2 with
  | none => rw [e] at h2; exact h2.elim
  | some p =>
    obtain ⟨z, M3⟩ := p
    rw [e] at h2
    intro mu3 H3 y S3 G3 R3
    cases z <;> first | exact h2.elim | skip
    rename_i k
    cases R3.bl_inv
    refine ⟨k, rfl, ?_⟩
    cases k with
    | false => exact OkG.here S3 (Rep.bl_mk _) (OkG.later G3 h2)
    | true =>
      refine step1 S3 ((E2.mono G3)) (OkG.later G3 h2) fun mu4 M4 d4 v4 H4 S4 E4 G4 R4 h4 => ?_
      exact ⟨mu4, M4, d2, d4, S4, (R2.mono G3).mono G4, R4, OkO.of h4⟩
theorem denT_chain {op op' : CmpOp} {g g' : D → D → Mem → Op1} (o : Op2 X T (compareOp op) g) (o' : Op2 X T (compareOp op') g') (ha : PE X a (tV T W fa)) (hb : PE X b (tV T W fb)) (hc : PE X c (tV T W fc))
    (hm : lastMarks [op, op'] [b, c] = false) : PT X (.Compare a [op, op'] [b, c] pos) (tB T W (eBool (eChain g g' fa fb fc))) := by
  refine imp_t (pt_chain o o' ha hb hc hm) fun σ H Q h => ?_
  obtain ⟨mu, M, rho, S, E, h⟩ := h
  simp only [eBool, eChain, bind_assoc] at h
  refine step1 S E h fun mu1 M1 d v H1 S1 E1 G1 R1 h1 => ?_
  refine step1 S1 E1 h1 fun mu2 M2 d2 v2 H2 S2 E2 G2 R2 h2 => ?_
  refine ⟨mu2, M2, d, d2, S2, R1.mono G2, R2, ?_⟩
  cases e : g d d2 M2 with
  | none => rw [e] at h2; exact h2.elim
  | some p =>
    obtain ⟨z, M3⟩ := p
    rw [e] at h2
    intro mu3 H3 y S3 G3 R3
    cases z <;> first | exact h2.elim | skip
    rename_i k
    cases R3.bl_inv
    refine ⟨k, rfl, ?_⟩
    cases k with
    | false => exact ⟨false, rfl, OkG.here (rel := relB) S3 rfl (OkG.later G3 h2)⟩
    | true =>
      have h3 := OkG.later G3 h2
      simp only [liftO, Res.bind] at h3
      change OkG T relB W σ Q mu3 H3 (((fc rho M3).bind fun w M4 => liftO (g' d2 w M4)).bind _) at h3
      rw [bind_assoc] at h3
      refine step1 S3 ((E2.mono G3)) h3 fun mu4 M4 d4 v4 H4 S4 E4 G4 R4 h4 => ?_
      exact ⟨mu4, M4, d2, d4, S4, (R2.mono G3).mono G4, R4, OkO.bl h4⟩
theorem den_neg (ha : PE X a (tV T W fa)) : PE X (.UnaryOp .USub a pos) (tV T W (eNeg fa)) := by
  refine imp_e (pe_un un_neg ha) fun σ H Q h => ?_
  obtain ⟨mu, M, rho, S, E, h⟩ := h
  refine step1 S E h fun mu1 M1 d v H1 S1 E1 G1 R1 h1 => ?_
  cases d <;> first | exact h1.elim | skip
  cases R1.int_inv
  exact ⟨_, rfl, OkG.here S1 (Rep.int_mk _) h1⟩
theorem truR_ok {γ δ : Type} {rel : List Addr → Hp → γ → δ → Prop} {mu : List Addr} {M : Mem} {H : Hp} {σ : St} {Q : δ → Hp → Prop} {d : D} {v : V} {k : Bool → Mem → Res γ} (G : Gd X T n) (S : Sim T mu M H) (r : Rep T mu H d v)
    (h : OkG T rel W σ Q mu H ((truR d M).bind k)) : ∃ c, TruV X.K v H c ∧ OkG T rel W σ Q mu H (k c M) := by
  simp only [truR] at h
  split at h
  · rename_i c e
    exact ⟨c, tru_dk G S e r, h⟩
  · exact h.elim
theorem denT_tru (G : Gd X T n) (ha : PE X a (tV T W fa)) (he : ∀ whole, isTrue a X.env whole = (do let v ← whole; standAt a.pos; holding [v] (truthy v))) : PT X a (tB T W (eTru fa)) := by
  refine imp_t (pt_truth ha he) fun σ H Q h => ?_
  obtain ⟨mu, M, rho, S, E, h⟩ := h
  refine step1 S E h fun mu1 M1 d v H1 S1 E1 G1 R1 h1 => ?_
  have h1' : OkG T relB W σ Q mu1 H1 ((truR d M1).bind fun c M => .ok c M) := by
    cases e : truR d M1 <;> rw [e] at h1 <;> exact h1
  obtain ⟨c, tc, h2⟩ := truR_ok G S1 R1 h1'
  exact ⟨c, tc, OkG.here (rel := relB) S1 rfl h2⟩
variable {ta tb' : EvT} {rest : List Expr}
theorem denT_not (ha : PT X a (tB T W ta)) : PT X (.UnaryOp .Not a pos) (tB T W (eNot ta)) := by
  refine imp_t (pt_not ha) fun σ H Q h => ?_
  obtain ⟨mu, M, rho, S, E, h⟩ := h
  exact stepB S E h fun mu1 M1 d H1 S1 E1 G1 h1 => OkG.here (rel := relB) S1 rfl h1
theorem denW_one_and (ha : PT X a (tB T W ta)) : PW X (.BoolOp .And [a] pos) (tB T W ta) := pw_and1 ha
theorem denW_one_or (ha : PT X a (tB T W ta)) : PW X (.BoolOp .Or [a] pos) (tB T W ta) := pw_or1 ha
theorem imp_w {X : Cx} {e : Expr} {t t' : TT} (h : PW X e t) (i : ∀ σ H Q, t' σ H Q → t σ H Q) : PW X e t' := ⟨fun wh pins s σ H Q I q => h.run wh pins s σ H Q I (i _ _ _ q)⟩
theorem denW_and (ha : PT X a (tB T W ta)) (hb : PW X (.BoolOp .And (b :: rest) pos) (tB T W tb')) : PW X (.BoolOp .And (a :: b :: rest) pos) (tB T W (eAndT ta tb')) := by
  refine imp_w (pw_and ha hb) fun σ H Q h => ?_
  obtain ⟨mu, M, rho, S, E, h⟩ := h
  refine stepB S E h fun mu1 M1 d H1 S1 E1 G1 h1 => ?_
  cases d with
  | true => exact tG.intro S1 E1 h1
  | false => exact OkG.here (rel := relB) S1 rfl h1
theorem denW_or (ha : PT X a (tB T W ta)) (hb : PW X (.BoolOp .Or (b :: rest) pos) (tB T W tb')) : PW X (.BoolOp .Or (a :: b :: rest) pos) (tB T W (eOrT ta tb')) := by
  refine imp_w (pw_or ha hb) fun σ H Q h => ?_
  obtain ⟨mu, M, rho, S, E, h⟩ := h
  refine stepB S E h fun mu1 M1 d H1 S1 E1 G1 h1 => ?_
  cases d with
  | false => exact tG.intro S1 E1 h1
  | true => exact OkG.here (rel := relB) S1 rfl h1
theorem den_andV (G : Gd X T n) (ha : PE X a (tV T W fa)) (hb : PE X (.BoolOp .And (b :: rest) pos) (tV T W fb)) : PE X (.BoolOp .And (a :: b :: rest) pos) (tV T W (eAndV fa fb)) := by
  refine imp_e (pe_andT ha hb) fun σ H Q h => ?_
  obtain ⟨mu, M, rho, S, E, h⟩ := h
  refine step1 S E h fun mu1 M1 d v H1 S1 E1 G1 R1 h1 => ?_
  obtain ⟨c, tc, h2⟩ := truR_ok G S1 R1 h1
  refine ⟨c, tc, ?_⟩
  cases c with
  | true => exact tG.intro S1 E1 h2
  | false => exact OkG.here S1 R1 h2
theorem den_orV (G : Gd X T n) (ha : PE X a (tV T W fa)) (hb : PE X (.BoolOp .Or (b :: rest) pos) (tV T W fb)) : PE X (.BoolOp .Or (a :: b :: rest) pos) (tV T W (eOrV fa fb)) := by
  refine imp_e (pe_orT ha hb) fun σ H Q h => ?_
  obtain ⟨mu, M, rho, S, E, h⟩ := h
  refine step1 S E h fun mu1 M1 d v H1 S1 E1 G1 R1 h1 => ?_
  obtain ⟨c, tc, h2⟩ := truR_ok G S1 R1 h1
  refine ⟨c, tc, ?_⟩
  cases c with
  | false => exact tG.intro S1 E1 h2
  | true => exact OkG.here S1 R1 h2
theorem den_notV (G : Gd X T n) (ha : PE X a (tV T W fa)) : PE X (.UnaryOp .Not a pos) (tV T W (eNotV fa)) := by
  refine imp_e (pe_notT ha) fun σ H Q h => ?_
  obtain ⟨mu, M, rho, S, E, h⟩ := h
  refine step1 S E h fun mu1 M1 d v H1 S1 E1 G1 R1 h1 => ?_
  obtain ⟨c, tc, h2⟩ := truR_ok G S1 R1 h1
  exact ⟨c, tc, OkG.here S1 (Rep.bl_mk _) h2⟩
theorem den_ite (hc : PT X c (tB T W ta)) (ha : PE X a (tV T W fa)) (hb : PE X b (tV T W fb)) : PE X (.IfExp c a b pos) (tV T W (eIte ta fa fb)) := by
  refine imp_e (pe_ifExp hc ha hb) fun σ H Q h => ?_
  obtain ⟨mu, M, rho, S, E, h⟩ := h
  refine stepB S E h fun mu1 M1 d H1 S1 E1 G1 h1 => ?_
  cases d with
  | true => exact tG.intro S1 E1 h1
  | false => exact tG.intro S1 E1 h1
variable {es : List Expr} {la : EvA}
theorem den_aNil : PA X [] (tL T W eANil) := imp_a pa_nil fun σ H Q h => by
  obtain ⟨mu, M, rho, S, E, h⟩ := h
  exact OkG.here S RepL.nil h
theorem den_aCons (ha : PE X a (tV T W fa)) (hb : PA X es (tL T W la)) (hs : starEach (a :: es) X.env = (false, eval a X.env) :: starEach es X.env) : PA X (a :: es) (tL T W (eACons fa la)) := by
  refine imp_a (pa_cons ha hb hs) fun σ H Q h => ?_
  obtain ⟨mu, M, rho, S, E, h⟩ := h
  refine step1 S E h fun mu1 M1 d v H1 S1 E1 G1 R1 h1 => ?_
  refine stepA S1 E1 h1 fun mu2 M2 d2 v2 H2 S2 E2 G2 R2 h2 => ?_
  exact OkG.here S2 (RepL.cons (R1.mono G2) R2) h2
theorem den_tup {k : Nat} (ha : PA X es (tL T W la)) : PE X (.Tuple es k pos) (tV T W (eTup la)) := by
  refine imp_e (pe_tup ha) fun σ H Q h => ?_
  obtain ⟨mu, M, rho, S, E, h⟩ := h
  refine stepA S E h fun mu1 M1 d v H1 S1 E1 G1 R1 h1 => ?_
  split at h1
  · rename_i hz
    exact ⟨by rw [lim_eq, ← R1.length]; exact hz, fun p hp => OkO.tup S1 R1 hp (OkO.of (o := some (.tup d, M1)) h1)⟩
  · exact h1.elim
theorem den_lst (ha : PA X es (tL T W la)) : PE X (.List es pos) (tV T W (eLst la)) := by
  refine imp_e (pe_lst ha) fun σ H Q h => ?_
  obtain ⟨mu, M, rho, S, E, h⟩ := h
  refine stepA S E h fun mu1 M1 d v H1 S1 E1 G1 R1 h1 => ?_
  split at h1
  · rename_i hz
    exact ⟨by rw [lim_eq, ← R1.length]; exact hz, fun p hp => OkO.lst S1 R1 hp (OkO.of (o := some (.loc M1.length, M1 ++ [.lst d])) h1)⟩
  · exact h1.elim
end
end VI
namespace VI
open PySem PySem.Spec L2

/-! ### subscripts -/
def dget {κ : Type} [DecidableEq κ] : List κ → List D → κ → Option D
  | k' :: ks, v :: vs, k => if k' = k then some v else dget ks vs k
  | _, _, _ => none
def dput {κ : Type} [DecidableEq κ] (ks : List κ) (vs : List D) (k : κ) (d : D) : List κ × List D :=
  match ks, vs with
  | k' :: ks, v :: vs => if k' = k then (k' :: ks, d :: vs) else ((k' :: (dput ks vs k d).1), (v :: (dput ks vs k d).2))
  | _, _ => ([k], [d])
theorem dget_ok {T : Tab} {mu : List Addr} {H : Hp} {κ : Type} [DecidableEq κ] (k : κ) : ∀ {ks : List κ} {vs : List D} {ws : List V}, ks.length = ws.length → RepL T mu H vs ws →
    (∀ d, dget ks vs k = some d → ∃ v, valV (ks.zip ws) k = some v ∧ Rep T mu H d v) ∧ (dget ks vs k = none → valV (ks.zip ws) k = none)
  | [], vs, ws, hl, r => by
    refine ⟨fun d e => ?_, fun _ => by simp [valV]⟩
    simp [dget] at e
  | a :: ks, [], ws, hl, r => by rw [r.inv_nil] at hl; simp at hl
  | a :: ks, d :: vs, ws, hl, r => by
    obtain ⟨v, w, rfl, r1, r2⟩ := r.inv_cons
    have ih := dget_ok k (ks := ks) (vs := vs) (ws := w) (by simpa using hl) r2
    by_cases e : a = k
    · subst e
      rw [List.zip_cons_cons, valV_pos rfl]
      simp only [dget, if_true]
      exact ⟨fun d' z => by cases z; exact ⟨v, rfl, r1⟩, fun z => by cases z⟩
    · rw [List.zip_cons_cons, valV_neg e]
      simp only [dget, if_neg e]
      exact ih
def oIdx (gt : Nat → List (Str × D)) : D → D → Mem → Op1
  | .tup xs, .int i, M => (atI xs i).map fun d => (d, M)
  | .rl xs, .int i, M => (atI xs i).map fun d => (d, M)
  | .str x, .int i, M => if x.length ≤ lim then (atI x.cps.toList i).map fun c => (.str ⟨#[c]⟩, M) else none
  | .gd k, .str z, M => if (gt k).isEmpty then none else ((gt k).lookup z).map fun d => (d, M)
  | .loc l, i, M => match M[l]? with
    | some (.lst xs) => match i with
      | .int k => (atI xs k).map fun d => (d, M)
      | _ => none
    | some (.dct ks vs) => (keyD i).bind fun k => (dget ks vs k).map fun d => (d, M)
    | _ => none
  | _, _, _ => none
theorem atI_ok {T : Tab} {mu : List Addr} {H : Hp} {ds : List D} {vs : List V} {i : Int} {d : D} (r : RepL T mu H ds vs) (h : atI ds i = some d) : ∃ v, atI vs i = some v ∧ Rep T mu H d v := by
  unfold atI at h ⊢
  rw [r.length] at h
  cases e : ixN vs.length i with
  | none => rw [e] at h; cases h
  | some j =>
    rw [e] at h
    exact r.get h
section
variable {X : Cx} {T : Tab} {n : Nat}
theorem ix_o (G : Gd X T n) : IxR X (fun x y H Q => ∃ mu M a b, Sim T mu M H ∧ Rep T mu H a x ∧ Rep T mu H b y ∧ OkO T Q mu H (oIdx T.gt a b M)) := by
  intro value slice pins s σ H x y v u Q I rx ry ⟨mu, M, a, b, S, ra, rb, h⟩ hs
  cases a
  case tup xs =>
    cases b <;> first | exact h.elim | skip
    rename_i i
    cases rb.int_inv
    obtain ⟨p, vs, rfl, hp, rl⟩ := ra.tup_inv
    simp only [oIdx] at h
    cases e : atI xs i with
    | none => rw [e] at h; exact h.elim
    | some d =>
      rw [e] at h
      obtain ⟨w, e2, r2⟩ := atI_ok rl e
      rw [← G.K] at hp
      exact ix_tup value slice pins s σ H _ _ v u Q I rx ry ⟨p, vs, i, w, rfl, rfl, hp, e2, h.here S r2⟩ hs
  case rl xs =>
    cases b <;> first | exact h.elim | skip
    rename_i i
    cases rb.int_inv
    simp only [Rep] at ra
    obtain ⟨p, vs, rfl, hp, rl⟩ := ra
    simp only [oIdx] at h
    cases e : atI xs i with
    | none => rw [e] at h; exact h.elim
    | some d =>
      rw [e] at h
      obtain ⟨w, e2, r2⟩ := atI_ok rl e
      rw [← G.K] at hp
      exact ix_list value slice pins s σ H _ _ v u Q I rx ry ⟨p, vs, i, w, rfl, rfl, hp.sq, e2, h.here S r2⟩ hs
  case str z =>
    cases b <;> first | exact h.elim | skip
    rename_i i
    cases rb.int_inv
    cases ra.str_inv
    simp only [oIdx] at h
    split at h
    · rename_i hz
      cases e : atI z.cps.toList i with
      | none => rw [e] at h; exact h.elim
      | some c =>
        rw [e] at h
        exact ix_str value slice pins s σ H _ _ v u Q I rx ry ⟨z, i, c, rfl, rfl, by rw [lim_eq]; exact hz, e, h.here S (Rep.str_mk _)⟩ hs
    · exact h.elim
  case gd k =>
    cases b <;> first | exact h.elim | skip
    rename_i z
    cases rb.str_inv
    have ev : x = .ref (T.ga k) := by simpa only [Rep] using ra
    subst ev
    simp only [oIdx] at h
    split at h
    · exact h.elim
    · rename_i hne
      obtain ⟨⟨es, m, kd⟩, hz⟩ := G.gd k (by intro z; rw [z] at hne; exact hne rfl)
      have q := hz z
      cases e : (T.gt k).lookup z with
      | none => rw [e] at h; exact h.elim
      | some d =>
        rw [e] at q h
        obtain ⟨u0, v0, q1, q2, q3⟩ := q
        exact ix_kdict value slice pins s σ H _ _ v u Q I rx ry ⟨_, z, v0, rfl, rfl, ⟨es, m, u0, kd.at_, kd.lit, q1, q2⟩, h.here S (q3 _ _)⟩ hs
  case loc l =>
    obtain ⟨p, hp, rfl⟩ := ra.loc_inv
    simp only [oIdx] at h
    split at h
    · rename_i xs e
      obtain ⟨vs, hv, rl⟩ := S.lst e hp
      split at h
      · rename_i i
        cases rb.int_inv
        cases e : atI xs i with
        | none => rw [e] at h; exact h.elim
        | some d =>
          rw [e] at h
          obtain ⟨w, e2, r2⟩ := atI_ok rl e
          exact ix_list value slice pins s σ H _ _ v u Q I rx ry ⟨p, vs, i, w, rfl, rfl, SqL.of hv, e2, h.here S r2⟩ hs
      · exact h.elim
    · rename_i ks vs e
      obtain ⟨ws, hw, hl, rl⟩ := S.dct e hp
      cases hk : keyD b with
      | none => rw [hk] at h; exact h.elim
      | some k =>
        rw [hk] at h
        have ev := key_ok hk rb
        subst ev
        cases e2 : dget ks vs k with
        | none => simp only [Option.bind_some, e2] at h; exact h.elim
        | some d =>
          simp only [Option.bind_some, e2] at h
          obtain ⟨w, q1, q2⟩ := (dget_ok k hl rl).1 d e2
          obtain rfl : v = Value.ref p := rx
          have hu : X.A.units + 1 < cLine := by have := G.room.un; omega
          have dg : DGet H p (kV k) (some w) := by rw [← q1]; exact DGet.k hw
          exact PyProof.Rows.tail_any (dict_typeIs I dg) PySem.F.slot_dict_getitem.lookup (d_getItem hu I dg ry fun w' s' I' rw' => ⟨w, H, I', rw', h.here S q2⟩) hs
    · exact h.elim
  all_goals exact h.elim
theorem den_ix {W : WX} {a b : Expr} {fa fb : EvE} {pos : Pos} (G : Gd X T n) (ha : PE X a (tV T W fa)) (hb : PE X b (tV T W fb)) (hs : PlainIx b) : PE X (.Subscript a b pos) (tV T W (eBin (oIdx T.gt) fa fb)) := by
  refine imp_e (pe_ix (ix_o G) ha hb hs) fun σ H Q h => ?_
  obtain ⟨mu, M, rho, S, E, h⟩ := h
  refine step1 S E h fun mu1 M1 d v H1 S1 E1 G1 R1 h1 => ?_
  refine step1 S1 E1 h1 fun mu2 M2 d2 v2 H2 S2 E2 G2 R2 h2 => ?_
  exact ⟨mu2, M2, d, d2, S2, R1.mono G2, R2, OkO.of h2⟩
end

/-! ### slices -/
abbrev EvO := EnvD → Mem → Res (Option Int)
def ePart : Option EvE → EvO
  | none => fun _ M => .ok none M
  | some f => fun rho M => (f rho M).bind fun x M1 => match x with
    | .int i => .ok (some i) M1
    | _ => .bad
def cutD {α : Type} (xs : List α) (lo hi : Option Int) : List α := (xs.drop (HT.sIx xs.length 0 lo)).take (HT.sIx xs.length xs.length hi - HT.sIx xs.length 0 lo)
def oSlc (x : D) (lo hi : Option Int) (M : Mem) : Op1 := match x with
  | .tup xs => some (.tup (cutD xs lo hi), M)
  | .str z => if z.length ≤ lim then some (.str (cutS z lo hi), M) else none
  | .rl xs => some (.loc M.length, M ++ [.lst (cutD xs lo hi)])
  | .loc l => match M[l]? with
    | some (.lst xs) => some (.loc M.length, M ++ [.lst (cutD xs lo hi)])
    | _ => none
  | _ => none
def eSlc (a : EvE) (lo hi : Option EvE) : EvE := fun rho M => (a rho M).bind fun x M1 => (ePart lo rho M1).bind fun l M2 => (ePart hi rho M2).bind fun h M3 => liftO (oSlc x l h M3)
def relO : List Addr → Hp → Option Int → Option Int → Prop := fun _ _ a b => a = b
theorem cut_ok {T : Tab} {mu : List Addr} {H : Hp} {ds : List D} {vs : List V} (lo hi : Option Int) (r : RepL T mu H ds vs) : RepL T mu H (cutD ds lo hi) (cutV vs lo hi) := by
  unfold cutD cutV
  rw [r.length]
  exact (r.drop _).take _
theorem imp_o {X : Cx} {e : Option Expr} {t t' : TO} (h : PO X e t) (i : ∀ σ H Q, t' σ H Q → t σ H Q) : PO X e t' := ⟨fun pins s σ H Q I q => h.run pins s σ H Q I (i _ _ _ q)⟩
section
variable {X : Cx} {T : Tab} {n : Nat} {W : WX}
theorem den_poN : PO X none (tG T relO W (ePart none)) := imp_o po_none fun σ H Q h => by
  obtain ⟨mu, M, rho, S, E, h⟩ := h
  exact OkG.here (rel := relO) S rfl h
theorem den_poS {a : Expr} {fa : EvE} (ha : PE X a (tV T W fa)) : PO X (some a) (tG T relO W (ePart (some fa))) := imp_o (po_some ha) fun σ H Q h => by
  obtain ⟨mu, M, rho, S, E, h⟩ := h
  refine step1 S E h fun mu1 M1 d v H1 S1 E1 G1 R1 h1 => ?_
  cases d <;> first | exact h1.elim | skip
  cases R1.int_inv
  exact ⟨_, rfl, OkG.here (rel := relO) S1 rfl h1⟩
theorem sl_o (G : Gd X T n) : SlR X (fun x lo hi H Q => ∃ mu M a, Sim T mu M H ∧ Rep T mu H a x ∧ OkO T Q mu H (oSlc a lo hi M)) := by
  intro pins s σ H x v vl vu lo hi sl Q I rx hsl pl pu ⟨mu, M, a, S, ra, h⟩
  cases a <;> first | exact h.elim | skip
  case tup xs =>
    obtain ⟨p, vs, rfl, hp, rl⟩ := ra.tup_inv
    rw [← G.K] at hp
    refine sl_tupA pins s σ H _ v vl vu lo hi sl Q I rx hsl pl pu ⟨p, vs, rfl, hp, fun e => ?_, fun _ q hq => OkO.tup S (cut_ok lo hi rl) hq h⟩
    have e' : cutV vs lo hi = vs := by
      unfold cutV
      rw [e.1, e.2]; simp
    have e2 : cutD xs lo hi = xs := by
      unfold cutD
      rw [rl.length, e.1, e.2, ← rl.length]; simp
    simp only [oSlc, e2] at h
    rw [G.K] at hp
    exact h.here S (Rep.tup_mk hp rl)
  case str z =>
    cases ra.str_inv
    simp only [oSlc] at h
    split at h
    · rename_i hz
      exact sl_str pins s σ H _ v vl vu lo hi sl Q I rx hsl pl pu ⟨z, rfl, by rw [lim_eq]; exact hz, h.here S (Rep.str_mk _)⟩
    · exact h.elim
  case rl xs =>
    simp only [Rep] at ra
    obtain ⟨p, vs, rfl, hp, rl⟩ := ra
    rw [← G.K] at hp
    exact sl_list pins s σ H _ v vl vu lo hi sl Q I rx hsl pl pu ⟨p, vs, rfl, hp.sq, fun q hq => OkO.lst S (cut_ok lo hi rl) hq h⟩
  case loc l =>
    obtain ⟨p, hp, rfl⟩ := ra.loc_inv
    simp only [oSlc] at h
    split at h
    · rename_i xs e
      obtain ⟨vs, hv, rl⟩ := S.lst e hp
      exact sl_list pins s σ H _ v vl vu lo hi sl Q I rx hsl pl pu ⟨p, vs, rfl, SqL.of hv, fun q hq => OkO.lst S (cut_ok lo hi rl) hq h⟩
    · exact h.elim
theorem stepO {γ δ : Type} {rel : List Addr → Hp → γ → δ → Prop} {f : EvO} {k : Option Int → Mem → Res γ} {σ : St} {H : Hp} {Q : δ → Hp → Prop} {P : Option Int → Hp → Prop} {mu : List Addr} {M : Mem} {rho : EnvD}
    (S : Sim T mu M H) (E : EnvR T mu H rho σ) (h : OkG T rel W σ Q mu H ((f rho M).bind k))
    (go : ∀ mu1 M1 d H1, Sim T mu1 M1 H1 → EnvR T mu1 H1 rho σ → Grow T mu H mu1 H1 → OkG T rel W σ Q mu1 H1 (k d M1) → P d H1) : tG T relO W f σ H P := by
  refine tG.intro S E ?_
  have h' := OkG.bind (rel := relO) h
  cases e : f rho M with
  | ok d M1 =>
    rw [e] at h'
    exact fun mu1 H1 y S1 G1 R1 => by
      obtain ⟨mu2, M2, d2, S2, G2, R2, h2⟩ := h' mu1 H1 y S1 G1 R1
      cases R2
      exact go mu2 M2 y H1 S2 (E.mono G2) G2 h2
  | exc x M1 => rw [e] at h'; exact h'
  | bad => rw [e] at h'; exact h'
theorem den_slc {a : Expr} {lo hi : Option Expr} {fa : EvE} {fl fh : Option EvE} {pos p2 : Pos} (G : Gd X T n) (ha : PE X a (tV T W fa)) (hl : PO X lo (tG T relO W (ePart fl))) (hh : PO X hi (tG T relO W (ePart fh))) :
    PE X (.Subscript a (.Slice lo hi none p2) pos) (tV T W (eSlc fa fl fh)) := by
  refine imp_e (pe_slice (sl_o G) ha hl hh) fun σ H Q h => ?_
  obtain ⟨mu, M, rho, S, E, h⟩ := h
  refine step1 S E h fun mu1 M1 d v H1 S1 E1 G1 R1 h1 => ?_
  refine stepO S1 E1 h1 fun mu2 M2 l H2 S2 E2 G2 h2 => ?_
  refine stepO S2 E2 h2 fun mu3 M3 k H3 S3 E3 G3 h3 => ?_
  exact ⟨mu3, M3, d, S3, (R1.mono G2).mono G3, OkO.of h3⟩
end

/-! ### calls of what is built in -/
def Cal (X : Cx) (T : Tab) (f : Value) (g : List D → Mem → Op1) : Prop :=
  CallR X f (fun xs H Q => ∃ mu M as, Sim T mu M H ∧ RepL T mu H as xs ∧ OkO T Q mu H (g as M))
def eBlt (g : List D → Mem → Op1) (a : EvA) : EvE := fun rho M => (a rho M).bind fun xs M1 => liftO (g xs M1)
def oLen : List D → Mem → Op1
  | [.str x], M => if x.length ≤ lim then some (.int x.length, M) else none
  | [.tup xs], M => some (.int xs.length, M)
  | [.rl xs], M => some (.int xs.length, M)
  | [.loc l], M => match M[l]? with
    | some (.lst xs) => some (.int xs.length, M)
    | some (.dct ks vs) => some (.int ks.length, M)
    | _ => none
  | _, _ => none
def oAbs : List D → Mem → Op1
  | [.int i], M => some (.int (if i < 0 then -i else i), M)
  | _, _ => none
def oInt : List D → Mem → Op1
  | [.int i], M => some (.int i, M)
  | [.bl b], M => some (.int (if b then 1 else 0), M)
  | [.str x], M => match PySem.intText? x with
    | some i => if x.length ≤ 640 then some (.int i, M) else none
    | none => none
  | _, _ => none
def oStr : List D → Mem → Op1
  | [.int i], M => if i.natAbs.log2 < 1920 then some (.str (toString i), M) else none
  | _, _ => none
def oList : List D → Mem → Op1
  | [.tup xs], M => some (.loc M.length, M ++ [.lst xs])
  | [.rl xs], M => some (.loc M.length, M ++ [.lst xs])
  | [.loc l], M => match M[l]? with
    | some (.lst xs) => some (.loc M.length, M ++ [.lst xs])
    | _ => none
  | _, _ => none
def oTuple : List D → Mem → Op1
  | [.tup xs], M => some (.tup xs, M)
  | [.rl xs], M => some (.tup xs, M)
  | [.loc l], M => match M[l]? with
    | some (.lst xs) => some (.tup xs, M)
    | _ => none
  | _, _ => none
def blOf : D → Option Bool
  | .bl b => some b
  | _ => none
def blsD (M : Mem) : List D → Option (List Bool)
  | [.loc l] => match M[l]? with
    | some (.lst xs) => mapO blOf xs
    | _ => none
  | _ => none
def oAll (as : List D) (M : Mem) : Op1 := (blsD M as).map fun bs => (.bl (bs.all id), M)
def oAny (as : List D) (M : Mem) : Op1 := (blsD M as).map fun bs => (.bl (bs.any id), M)
section
variable {X : Cx} {T : Tab} {n : Nat} {W : WX}
theorem one_inv {mu : List Addr} {H : Hp} {d : D} {vs : List V} (r : RepL T mu H [d] vs) : ∃ v, vs = [v] ∧ Rep T mu H d v := by
  obtain ⟨v, w, rfl, a, b⟩ := r.inv_cons
  rw [b.inv_nil]
  exact ⟨v, rfl, a⟩
theorem cal_len (G : Gd X T n) : Cal X T (.builtin "len") oLen := by
  intro pins s σ H xs us Q I r ⟨mu, M, as, S, ra, h⟩
  unfold oLen at h
  split at h
  · rename_i x
    obtain ⟨v, rfl, r1⟩ := one_inv ra
    cases r1.str_inv
    split at h
    · rename_i hz
      exact call_len_str pins s σ H _ us Q I r ⟨x, rfl, by rw [lim_eq]; exact hz, h.here S (Rep.int_mk _)⟩
    · exact h.elim
  · obtain ⟨v, rfl, r1⟩ := one_inv ra
    obtain ⟨p, vs, rfl, hp, rl⟩ := r1.tup_inv
    rw [← G.K] at hp
    exact call_len_seq pins s σ H _ us Q I r ⟨p, vs, rfl, .inr hp, by rw [← rl.length]; exact h.here S (Rep.int_mk _)⟩
  · obtain ⟨v, rfl, r1⟩ := one_inv ra
    simp only [Rep] at r1
    obtain ⟨p, vs, rfl, hp, rl⟩ := r1
    rw [← G.K] at hp
    exact call_len_seq pins s σ H _ us Q I r ⟨p, vs, rfl, .inl hp.sq, by rw [← rl.length]; exact h.here S (Rep.int_mk _)⟩
  · obtain ⟨v, rfl, r1⟩ := one_inv ra
    obtain ⟨p, hp, rfl⟩ := r1.loc_inv
    split at h
    · rename_i xs e
      obtain ⟨vs, hv, rl⟩ := S.lst e hp
      exact call_len_seq pins s σ H _ us Q I r ⟨p, vs, rfl, .inl (SqL.of hv), by rw [← rl.length]; exact h.here S (Rep.int_mk _)⟩
    · rename_i ks vs e
      obtain ⟨ws, hw, hl, rl⟩ := S.dct e hp
      refine call_lenD pins s σ H _ us Q I r ⟨p, _, rfl, hw, ?_⟩
      rw [List.length_zip, ← hl, Nat.min_self]
      exact h.here S (Rep.int_mk _)
    · exact h.elim
  · exact h.elim
theorem cal_abs (G : Gd X T n) : Cal X T (.builtin "abs") oAbs := by
  intro pins s σ H xs us Q I r ⟨mu, M, as, S, ra, h⟩
  unfold oAbs at h
  split at h
  · obtain ⟨v, rfl, r1⟩ := one_inv ra
    cases r1.int_inv
    exact call_abs pins s σ H _ us Q I r ⟨_, rfl, h.here S (Rep.int_mk _)⟩
  · exact h.elim
theorem cal_int (G : Gd X T n) : Cal X T (.type "int") oInt := by
  intro pins s σ H xs us Q I r ⟨mu, M, as, S, ra, h⟩
  unfold oInt at h
  split at h
  · obtain ⟨v, rfl, r1⟩ := one_inv ra
    cases r1.int_inv
    exact call_int1 pins s σ H _ us Q I r (.inl ⟨_, rfl, h.here S (Rep.int_mk _)⟩)
  · obtain ⟨v, rfl, r1⟩ := one_inv ra
    cases r1.bl_inv
    exact call_int1 pins s σ H _ us Q I r (.inr ⟨_, rfl, h.here S (Rep.int_mk _)⟩)
  · obtain ⟨v, rfl, r1⟩ := one_inv ra
    cases r1.str_inv
    split at h
    · rename_i i e
      split at h
      · rename_i hz
        exact call_int_str pins s σ H _ us Q I r ⟨_, _, rfl, e, hz, h.here S (Rep.int_mk _)⟩
      · exact h.elim
    · exact h.elim
  · exact h.elim
theorem cal_str (G : Gd X T n) : Cal X T (.type "str") oStr := by
  intro pins s σ H xs us Q I r ⟨mu, M, as, S, ra, h⟩
  unfold oStr at h
  split at h
  · obtain ⟨v, rfl, r1⟩ := one_inv ra
    cases r1.int_inv
    split at h
    · rename_i hz
      exact call_str_int pins s σ H _ us Q I r ⟨_, rfl, hz, h.here S (Rep.str_mk _)⟩
    · exact h.elim
  · exact h.elim
theorem cal_list (G : Gd X T n) : Cal X T (.type "list") oList := by
  intro pins s σ H xs us Q I r ⟨mu, M, as, S, ra, h⟩
  unfold oList at h
  split at h
  · obtain ⟨v, rfl, r1⟩ := one_inv ra
    obtain ⟨p, vs, rfl, hp, rl⟩ := r1.tup_inv
    rw [← G.K] at hp
    exact call_list_of pins s σ H _ us Q I r ⟨p, vs, rfl, .inr hp, fun q hq => OkO.lst S rl hq h⟩
  · obtain ⟨v, rfl, r1⟩ := one_inv ra
    simp only [Rep] at r1
    obtain ⟨p, vs, rfl, hp, rl⟩ := r1
    rw [← G.K] at hp
    exact call_list_of pins s σ H _ us Q I r ⟨p, vs, rfl, .inl hp.sq, fun q hq => OkO.lst S rl hq h⟩
  · obtain ⟨v, rfl, r1⟩ := one_inv ra
    obtain ⟨p, hp, rfl⟩ := r1.loc_inv
    split at h
    · rename_i xs e
      obtain ⟨vs, hv, rl⟩ := S.lst e hp
      exact call_list_of pins s σ H _ us Q I r ⟨p, vs, rfl, .inl (SqL.of hv), fun q hq => OkO.lst S rl hq h⟩
    · exact h.elim
  · exact h.elim
theorem cal_tuple (G : Gd X T n) : Cal X T (.type "tuple") oTuple := by
  intro pins s σ H xs us Q I r ⟨mu, M, as, S, ra, h⟩
  unfold oTuple at h
  split at h
  · obtain ⟨v, rfl, r1⟩ := one_inv ra
    obtain ⟨p, vs, rfl, hp, rl⟩ := r1.tup_inv
    have hp' := hp
    rw [← G.K] at hp'
    exact call_tuple_of pins s σ H _ us Q I r ⟨p, vs, rfl, .inr ⟨hp', h.here S (Rep.tup_mk hp rl)⟩⟩
  · obtain ⟨v, rfl, r1⟩ := one_inv ra
    simp only [Rep] at r1
    obtain ⟨p, vs, rfl, hp, rl⟩ := r1
    rw [← G.K] at hp
    exact call_tuple_of pins s σ H _ us Q I r ⟨p, vs, rfl, .inl ⟨hp.sq, fun q hq => OkO.tup S rl hq h⟩⟩
  · obtain ⟨v, rfl, r1⟩ := one_inv ra
    obtain ⟨p, hp, rfl⟩ := r1.loc_inv
    split at h
    · rename_i xs e
      obtain ⟨vs, hv, rl⟩ := S.lst e hp
      exact call_tuple_of pins s σ H _ us Q I r ⟨p, vs, rfl, .inl ⟨SqL.of hv, fun q hq => OkO.tup S rl hq h⟩⟩
    · exact h.elim
  · exact h.elim
theorem bls_ok {mu : List Addr} {H : Hp} : ∀ {ds : List D} {bs : List Bool} {vs : List V}, mapO blOf ds = some bs → RepL T mu H ds vs → vs = bs.map V.bl
  | [], bs, vs, h, r => by simp [mapO] at h; subst h; rw [r.inv_nil]; rfl
  | d :: ds, bs, vs, h, r => by
    obtain ⟨v, w, rfl, a, b⟩ := r.inv_cons
    simp only [mapO] at h
    split at h
    · rename_i q qs h1 h2
      cases h
      rw [bls_ok h2 b]
      cases d <;> simp only [blOf] at h1 <;> first | (cases h1; done) | skip
      cases h1
      cases a.bl_inv
      rfl
    · cases h
theorem bls_inv {mu : List Addr} {H : Hp} {M : Mem} {as : List D} {bs : List Bool} {xs : List V} (S : Sim T mu M H) (h : blsD M as = some bs) (ra : RepL T mu H as xs) : ∃ p, xs = [.ref p] ∧ H p = some (.lst (bs.map V.bl)) := by
  unfold blsD at h
  split at h
  · obtain ⟨v, rfl, r1⟩ := one_inv ra
    obtain ⟨p, hp, rfl⟩ := r1.loc_inv
    split at h
    · rename_i zs e
      obtain ⟨vs, hv, rl⟩ := S.lst e hp
      have := bls_ok h rl
      subst this
      exact ⟨p, rfl, hv⟩
    · cases h
  · cases h
theorem cal_all (G : Gd X T n) : Cal X T (.builtin "all") oAll := by
  intro pins s σ H xs us Q I r ⟨mu, M, as, S, ra, h⟩
  unfold oAll at h
  cases e : blsD M as with
  | none => rw [e] at h; exact h.elim
  | some bs =>
    rw [e] at h
    obtain ⟨p, rfl, hp⟩ := bls_inv S e ra
    exact cr_all G.calm pins s σ H _ us Q I r ⟨p, bs, rfl, SqL.of hp, h.here S (Rep.bl_mk _)⟩
theorem cal_any (G : Gd X T n) : Cal X T (.builtin "any") oAny := by
  intro pins s σ H xs us Q I r ⟨mu, M, as, S, ra, h⟩
  unfold oAny at h
  cases e : blsD M as with
  | none => rw [e] at h; exact h.elim
  | some bs =>
    rw [e] at h
    obtain ⟨p, rfl, hp⟩ := bls_inv S e ra
    exact cr_any G.calm pins s σ H _ us Q I r ⟨p, bs, rfl, SqL.of hp, h.here S (Rep.bl_mk _)⟩
theorem den_blt {id : String} {x : Str} {g : List D → Mem → Op1} {e : Expr} {es : List Expr} {la : EvA} {p pos : Pos} (c : Cal X T (.builtin id) g) (hg : Gl X x) (hm : X.mg x = none) (hv : bootBuiltins x = some (.builtin id)) (ha : PA X (e :: es) (tL T W la))
    (hn : x ≠ "__name__") (hdb : (x == ("__debug__" : Str)) = false) (he : starEach (e :: es) X.env = (false, eval e X.env) :: starEach es X.env) (hpl : (backTo pos (starEach es X.env)).any (·.1) = false) :
    PE X (.Call (.Name x p) (e :: es) [] pos) (tV T W (eBlt g la)) := by
  refine imp_e (pe_callB c hg hm hv ha hn hdb he hpl) fun σ H Q h => ?_
  obtain ⟨mu, M, rho, S, E, h⟩ := h
  refine stepA S E h fun mu1 M1 d v H1 S1 E1 G1 R1 h1 => ?_
  exact ⟨mu1, M1, d, S1, R1, OkO.of h1⟩
theorem den_bltT {id : String} {x : Str} {g : List D → Mem → Op1} {e : Expr} {es : List Expr} {la : EvA} {p pos : Pos} (c : Cal X T (.type id) g) (hg : Gl X x) (hm : X.mg x = none) (hv : bootBuiltins x = some (.type id)) (ha : PA X (e :: es) (tL T W la))
    (hn : x ≠ "__name__") (hdb : (x == ("__debug__" : Str)) = false) (he : starEach (e :: es) X.env = (false, eval e X.env) :: starEach es X.env) (hpl : (backTo pos (starEach es X.env)).any (·.1) = false) :
    PE X (.Call (.Name x p) (e :: es) [] pos) (tV T W (eBlt g la)) := by
  refine imp_e (pe_callTy c hg hm hv ha hn hdb he hpl) fun σ H Q h => ?_
  obtain ⟨mu, M, rho, S, E, h⟩ := h
  refine stepA S E h fun mu1 M1 d v H1 S1 E1 G1 R1 h1 => ?_
  exact ⟨mu1, M1, d, S1, R1, OkO.of h1⟩
end
end VI
namespace VI
open PySem PySem.Spec L2

/-! ### methods of what is built in -/
def MtS (X : Cx) (T : Tab) (id : String) (m : D → List D → Mem → Op1) : Prop :=
  MtR X id (fun x xs H Q => ∃ mu M a as, Sim T mu M H ∧ Rep T mu H a x ∧ RepL T mu H as xs ∧ OkO T Q mu H (m a as M))
def mAppend : D → List D → Mem → Op1
  | .loc l, [d], M => match M[l]? with
    | some (.lst xs) => if xs.length < lim then some (.non, M.set l (.lst (xs ++ [d]))) else none
    | _ => none
  | _, _, _ => none
def mExtend : D → List D → Mem → Op1
  | .loc l, [.loc k], M => match M[l]?, M[k]? with
    | some (.lst xs), some (.lst ys) => if xs.length + ys.length ≤ lim then some (.non, M.set l (.lst (xs ++ ys))) else none
    | _, _ => none
  | _, _, _ => none
def strOf : D → Option Str
  | .str x => some x
  | _ => none
def strsD (M : Mem) : D → Option (List Str)
  | .tup xs => mapO strOf xs
  | .loc l => match M[l]? with
    | some (.lst xs) => mapO strOf xs
    | _ => none
  | _ => none
def mJoin : D → List D → Mem → Op1
  | .str a, [d], M => match strsD M d with
    | some ys => if (ys.map (·.length)).sum + ys.length * a.length ≤ 16777216 then some (.str (Txt.join a ys), M) else none
    | none => none
  | _, _, _ => none
def mSplit : D → List D → Mem → Op1
  | .str a, [.str b], M => if (b.length == 0) = false ∧ a.length + 2 ≤ lim then some (.loc M.length, M ++ [.lst ((Txt.split a b).map .str)]) else none
  | _, _, _ => none
def tyD (M : Mem) (t : String) : D → Bool
  | .str _ => decide (t = "str")
  | .loc l => match M[l]? with
    | some (.lst _) => decide (t = "list")
    | some (.dct _ _) => decide (t = "dict")
    | some (.dtp _ _) => decide (t = "dict")
    | _ => false
  | _ => false
def eMth (t : String) (m : D → List D → Mem → Op1) (o : EvE) (a : EvA) : EvE := fun rho M => (o rho M).bind fun x M1 => if tyD M1 t x then (a rho M1).bind fun xs M2 => liftO (m x xs M2) else .bad
section
variable {X : Cx} {T : Tab} {n : Nat} {W : WX}
theorem OkO.set {mu : List Addr} {H : Hp} {M : Mem} {l : Nat} {p : Addr} {ob ob' : Ob} {o : HO} {Q : V → Hp → Prop} {d : D} {v : V} (S : Sim T mu M H) (e : M[l]? = some ob) (hp : mu[l]? = some p)
    (r : ∀ ds vs, RepL T mu H ds vs → RepL T mu (upd H p o) ds vs → True) (ro : Grow T mu H mu (upd H p o) → ObR T mu (upd H p o) ob' p) (rv : Rep T mu (upd H p o) d v) (h : OkO T Q mu H (some (d, M.set l ob'))) : Q v (upd H p o) := by
  obtain ⟨q, e1, r1⟩ := S.ob l ob e
  rw [hp] at e1; cases e1
  have g : Grow T mu H mu (upd H p o) := Grow.write (List.mem_of_getElem? hp) r1
  exact h mu _ v (S.write e hp (ro g)) g rv
theorem mt_oAppend (G : Gd X T n) : MtS X T "list.append" mAppend := by
  intro pins s σ H x xs v us Q I rx rs ⟨mu, M, a, as, S, ra, rl, h⟩
  unfold mAppend at h
  split at h
  · rename_i l d M'
    obtain ⟨y, rfl, ry⟩ := one_inv rl
    obtain ⟨p, hp, rfl⟩ := ra.loc_inv
    split at h
    · rename_i zs e
      split at h
      · rename_i hz
        obtain ⟨vs, hv, rv⟩ := S.lst e hp
        refine mt_append pins s σ H _ _ v us Q I rx rs ⟨p, vs, y, rfl, rfl, hv, by rw [lim_eq, ← rv.length]; exact hz, ?_⟩
        exact OkO.set (ob' := .lst (zs ++ [M'])) S e hp (fun _ _ _ _ => trivial) (fun g => ⟨_, upd_same, RepL.mono g (rv.append (RepL.cons ry RepL.nil))⟩) Rep.non_mk h
      · exact h.elim
    · exact h.elim
  · exact h.elim
theorem mt_oExtend (G : Gd X T n) : MtS X T "list.extend" mExtend := by
  intro pins s σ H x xs v us Q I rx rs ⟨mu, M, a, as, S, ra, rl, h⟩
  unfold mExtend at h
  split at h
  · rename_i l k M'
    obtain ⟨y, rfl, ry⟩ := one_inv rl
    obtain ⟨p, hp, rfl⟩ := ra.loc_inv
    obtain ⟨q, hq, rfl⟩ := ry.loc_inv
    split at h
    · rename_i zs ys e e2
      split at h
      · rename_i hz
        obtain ⟨vs, hv, rv⟩ := S.lst e hp
        obtain ⟨ws, hw, rw2⟩ := S.lst e2 hq
        refine mt_extend pins s σ H _ _ v us Q I rx rs ⟨p, q, vs, ws, rfl, rfl, hv, hw, by rw [lim_eq, ← rv.length, ← rw2.length]; exact hz, ?_⟩
        exact OkO.set (ob' := .lst (zs ++ ys)) S e hp (fun _ _ _ _ => trivial) (fun g => ⟨_, upd_same, RepL.mono g (rv.append rw2)⟩) Rep.non_mk h
      · exact h.elim
    · exact h.elim
  · exact h.elim
theorem strs_ok {mu : List Addr} {H : Hp} : ∀ {ds : List D} {bs : List Str} {vs : List V}, mapO strOf ds = some bs → RepL T mu H ds vs → vs = bs.map V.str
  | [], bs, vs, h, r => by simp [mapO] at h; subst h; rw [r.inv_nil]; rfl
  | d :: ds, bs, vs, h, r => by
    obtain ⟨v, w, rfl, a, b⟩ := r.inv_cons
    simp only [mapO] at h
    split at h
    · rename_i q qs h1 h2
      cases h
      rw [strs_ok h2 b]
      cases d <;> simp only [strOf] at h1 <;> first | (cases h1; done) | skip
      cases h1
      cases a.str_inv
      rfl
    · cases h
theorem strs_rep {mu : List Addr} {H : Hp} : ∀ (ys : List Str), RepL T mu H (ys.map D.str) (ys.map V.str)
  | [] => RepL.nil
  | y :: ys => RepL.cons (Rep.str_mk y) (strs_rep ys)
theorem mt_oJoin (G : Gd X T n) : MtS X T "str.join" mJoin := by
  intro pins s σ H x xs v us Q I rx rs ⟨mu, M, a, as, S, ra, rl, h⟩
  unfold mJoin at h
  split at h
  · rename_i z d M'
    obtain ⟨y, rfl, ry⟩ := one_inv rl
    cases ra.str_inv
    split at h
    · rename_i ys e
      split at h
      · rename_i hz
        unfold strsD at e
        split at e
        · obtain ⟨p, vs, rfl, hp, rv⟩ := ry.tup_inv
          have ev := strs_ok e rv
          subst ev
          rw [← G.K] at hp
          exact mt_join pins s σ H _ _ v us Q I rx rs ⟨_, p, ys, rfl, rfl, .inr hp, hz, h.here S (Rep.str_mk _)⟩
        · obtain ⟨p, hp, rfl⟩ := ry.loc_inv
          split at e
          · rename_i e2
            obtain ⟨vs, hv, rv⟩ := S.lst e2 hp
            have ev := strs_ok e rv
            subst ev
            exact mt_join pins s σ H _ _ v us Q I rx rs ⟨_, p, ys, rfl, rfl, .inl (SqL.of hv), hz, h.here S (Rep.str_mk _)⟩
          · cases e
        · cases e
      · exact h.elim
    · exact h.elim
  · exact h.elim
theorem mt_oSplit (G : Gd X T n) : MtS X T "str.split" mSplit := by
  intro pins s σ H x xs v us Q I rx rs ⟨mu, M, a, as, S, ra, rl, h⟩
  unfold mSplit at h
  split at h
  · rename_i z d M'
    obtain ⟨y, rfl, ry⟩ := one_inv rl
    cases ra.str_inv
    cases ry.str_inv
    split at h
    · rename_i hz
      exact mt_split pins s σ H _ _ v us Q I rx rs ⟨_, _, rfl, rfl, hz.1, by rw [lim_eq]; exact hz.2, fun p hp => OkO.lst S (strs_rep _) hp h⟩
    · exact h.elim
  · exact h.elim
theorem tyV_ok {mu : List Addr} {H : Hp} {M : Mem} {t : String} {d : D} {v : V} (S : Sim T mu M H) (h : tyD M t d = true) (r : Rep T mu H d v) : tyV X.K t v H := by
  unfold tyD at h
  split at h
  · cases r.str_inv
    have q := of_decide_eq_true h
    exact q
  · obtain ⟨p, hp, rfl⟩ := r.loc_inv
    split at h
    · rename_i e
      obtain ⟨vs, hv, _⟩ := S.lst e hp
      exact .inl ⟨of_decide_eq_true h, _, SqL.of hv⟩
    · rename_i e
      obtain ⟨ws, hw, _⟩ := S.dct e hp
      exact .inr (.inr (.inl ⟨of_decide_eq_true h, .inl ⟨_, hw⟩⟩))
    · rename_i e
      obtain ⟨q, e1, ws, hw, _⟩ := S.ob _ _ e
      rw [hp] at e1; cases e1
      exact .inr (.inr (.inl ⟨of_decide_eq_true h, .inr ⟨_, hw⟩⟩))
    · cases h
  · cases h
variable {o e : Expr} {es : List Expr} {name : Str} {apos cpos : Pos} {t id : String} {m : D → List D → Mem → Op1} {fo : EvE} {la : EvA}
theorem den_mth (pa : PlainAttrs t) (slot : Slot t name id) (hty : typeOf (.builtin id) = pure (.type "method_descriptor")) (hm : MtS X T id m) (ho : PE X o (tV T W fo)) (ha : PA X (e :: es) (tL T W la))
    (hbase : attributeBase o name X.env (eval o X.env) = eval o X.env)
    (hfew : ((backTo cpos (starEach (e :: es) X.env)).all (fun x => !x.1) && (backToKw cpos (keywordEach [] X.env)).all (fun x => x.1.isSome)
      && decide ((e :: es).length + ([] : List Keyword).length + (if ([] : List Keyword).isEmpty then 0 else 1) < 30)) = true)
    (hline : (apos.endLine == cpos.line) = true) (hs : starEach (e :: es) X.env = (false, eval e X.env) :: starEach es X.env) (hplain : (backTo cpos (starEach es X.env)).any (·.1) = false) :
    PE X (.Call (.Attribute o name apos) (e :: es) [] cpos) (tV T W (eMth t m fo la)) := by
  refine imp_e (pe_bm pa slot hty hm ho ha hbase hfew hline hs hplain) fun σ H Q h => ?_
  obtain ⟨mu, M, rho, S, E, h⟩ := h
  refine step1 S E h fun mu1 M1 d v H1 S1 E1 G1 R1 h1 => ?_
  split at h1
  · rename_i ht
    refine ⟨tyV_ok S1 ht R1, ?_⟩
    refine stepA S1 E1 h1 fun mu2 M2 ds vs H2 S2 E2 G2 R2 h2 => ?_
    exact ⟨mu2, M2, d, ds, S2, R1.mono G2, R2, OkO.of h2⟩
  · exact h1.elim
theorem den_mth0 (pa : PlainAttrs t) (slot : Slot t name id) (hty : typeOf (.builtin id) = pure (.type "method_descriptor")) (hm : MtS X T id m) (ho : PE X o (tV T W fo))
    (hbase : attributeBase o name X.env (eval o X.env) = eval o X.env) (hline : (apos.endLine == cpos.line) = true) :
    PE X (.Call (.Attribute o name apos) [] [] cpos) (tV T W (eMth t m fo eANil)) := by
  refine imp_e (pe_bm0 pa slot hty hm ho hbase hline) fun σ H Q h => ?_
  obtain ⟨mu, M, rho, S, E, h⟩ := h
  refine step1 S E h fun mu1 M1 d v H1 S1 E1 G1 R1 h1 => ?_
  split at h1
  · rename_i ht
    exact ⟨tyV_ok S1 ht R1, mu1, M1, d, [], S1, R1, RepL.nil, OkO.of h1⟩
  · exact h1.elim
end

/-! ### repr, f'..', isinstance -/
def oRepr : List D → Mem → Op1
  | [d], M => match pd M 12 d with
    | some p => if PyProof.Rows.isDisplay p && p.showable && !p.hasDict && decide (p.depth ≤ 60) && decide (p.shown.length ≤ lim) then some (.str p.shown, M) else none
    | none => none
  | _, _ => none
def eFmt (a : EvE) : EvE := fun rho M => (a rho M).bind fun x M1 => match x with
  | .str y => if y.length ≤ lim then .ok (.str y) M1 else .bad
  | .int i => if i.natAbs.log2 < 1920 then .ok (.str (toString i)) M1 else .bad
  | _ => .bad
def eJs : List EvE → Str → EnvD → Mem → Res Str
  | [], acc, _, M => .ok acc M
  | f :: fs, acc, rho, M => (f rho M).bind fun x M1 => match x with
    | .str y => if (acc ++ y).length ≤ lim then eJs fs (acc ++ y) rho M1 else .bad
    | _ => .bad
def eJoined (fs : List EvE) : EvE := fun rho M => (eJs fs Str.empty rho M).bind fun x M1 => .ok (.str x) M1
def tyName (M : Mem) : D → Option String
  | .non => some "NoneType"
  | .bl _ => some "bool"
  | .int _ => some "int"
  | .str _ => some "str"
  | .tup _ => some "tuple"
  | .loc l => match M[l]? with
    | some (.lst _) => some "list"
    | some (.dct _ _) => some "dict"
    | some (.dtp _ _) => some "dict"
    | _ => none
  | _ => none
def isiD (M : Mem) (t : String) (d : D) : Option Bool := (tyName M d).bind fun a => kitB a t
def eIsi (t : String) (a : EvE) : EvE := fun rho M => (a rho M).bind fun x M1 => match isiD M1 t x with
  | some b => .ok (.bl b) M1
  | none => .bad
section
variable {X : Cx} {T : Tab} {n : Nat} {W : WX}
theorem cal_repr (G : Gd X T n) : Cal X T (.builtin "repr") oRepr := by
  intro pins s σ H xs us Q I r ⟨mu, M, as, S, ra, h⟩
  unfold oRepr at h
  split at h
  · rename_i d M'
    obtain ⟨v, rfl, r1⟩ := one_inv ra
    split at h
    · rename_i p e
      split at h
      · rename_i hc
        simp only [Bool.and_eq_true, decide_eq_true_eq, Bool.not_eq_true'] at hc
        obtain ⟨⟨⟨⟨h1, h2⟩, h3⟩, h4⟩, h5⟩ := hc
        have hd := pd_dp S 12 e r1
        rw [← G.K] at hd
        obtain ⟨u, rfl, ru⟩ := vals1 r
        obtain ⟨ads, rd⟩ := Dp.reads I p v u hd ru
        obtain ⟨a, rfl⟩ := PyProof.Rows.isRef_of_reads rd h1
        have hu : X.A.units + (p.depth + 1) < cLine := by have := G.room.un; omega
        exact repr_of_reads' rd h2 (PyData.noDict_hsm h3) G.guards hu (fun _ _ e => e) (fun h' t tk hk => ⟨.str p.shown, H, I.kept (t' := tk) hk, ⟨t, rfl⟩, h.here S (Rep.str_mk _)⟩) (by rw [lim_eq]; exact h5)
      · exact h.elim
    · exact h.elim
  · exact h.elim
theorem den_fmt {a : Expr} {fa : EvE} {pos : Pos} (ha : PE X a (tV T W fa)) : PE X (.FormattedValue a (-1) none pos) (tV T W (eFmt fa)) := by
  refine imp_e (pe_fmt ha) fun σ H Q h => ?_
  obtain ⟨mu, M, rho, S, E, h⟩ := h
  refine step1 S E h fun mu1 M1 d v H1 S1 E1 G1 R1 h1 => ?_
  cases d <;> first | exact h1.elim | skip
  · rename_i i
    cases R1.int_inv
    dsimp only at h1
    split at h1
    · rename_i hz
      exact .inr ⟨i, rfl, hz, OkG.here S1 (Rep.str_mk _) h1⟩
    · exact h1.elim
  · rename_i y
    cases R1.str_inv
    dsimp only at h1
    split at h1
    · rename_i hz
      exact .inl ⟨y, rfl, by rw [lim_eq]; exact hz, OkG.here S1 (Rep.str_mk _) h1⟩
    · exact h1.elim
inductive PJs (X : Cx) (T : Tab) (W : WX) : List Expr → List EvE → Prop where
  | nil : PJs X T W [] []
  | cons {e : Expr} {f : EvE} {es : List Expr} {fs : List EvE} (h : PE X e (tV T W f)) (r : PJs X T W es fs) : PJs X T W (e :: es) (f :: fs)
theorem PJs.pj {es : List Expr} {fs : List EvE} (h : PJs X T W es fs) : PJ X es (fs.map fun f => tV T W f) := by
  induction h with
  | nil => exact .nil
  | cons h r ih => exact .cons h ih
theorem js_ok : ∀ (fs : List EvE) {acc : Str} {mu : List Addr} {M : Mem} {H : Hp} {σ : St} {rho : EnvD} {Q : V → Hp → Prop}, Sim T mu M H → EnvR T mu H rho σ →
    OkG T (Rep T) W σ Q mu H ((eJs fs acc rho M).bind fun x M1 => .ok (.str x) M1) → tJs (fs.map fun f => tV T W f) acc σ H (fun out H1 => Q (.str out) H1)
  | [], acc, mu, M, H, σ, rho, Q, S, E, h => OkG.here S (Rep.str_mk _) h
  | f :: fs, acc, mu, M, H, σ, rho, Q, S, E, h => by
    simp only [eJs, bind_assoc] at h
    refine step1 S E h fun mu1 M1 d v H1 S1 E1 G1 R1 h1 => ?_
    cases d <;> first | exact h1.elim | skip
    rename_i y
    cases R1.str_inv
    dsimp only at h1
    split at h1
    · rename_i hz
      exact ⟨y, rfl, by rw [lim_eq]; exact hz, js_ok fs S1 E1 h1⟩
    · exact h1.elim
theorem den_joined {v1 v2 : Expr} {rest : List Expr} {fs : List EvE} {pos : Pos} (h : PJs X T W (v1 :: v2 :: rest) fs) : PE X (.JoinedStr (v1 :: v2 :: rest) pos) (tV T W (eJoined fs)) := by
  refine imp_e (pe_joined h.pj) fun σ H Q h => ?_
  obtain ⟨mu, M, rho, S, E, h⟩ := h
  exact js_ok fs S E h
theorem tyX_ok {mu : List Addr} {M : Mem} {H : Hp} {d : D} {v : V} {a : String} (S : Sim T mu M H) (r : Rep T mu H d v) (h : tyName M d = some a) : TyX T.K H v (.type a) := by
  cases d <;> simp only [tyName] at h <;> first | (cases h; done) | skip
  case non => cases h; cases r.non_inv; exact .base .non
  case bl b => cases h; cases r.bl_inv; exact .base (.bl b)
  case int b => cases h; cases r.int_inv; exact .base (.int b)
  case str b => cases h; cases r.str_inv; exact .base (.str b)
  case tup xs =>
    cases h
    obtain ⟨p, vs, rfl, hp, _⟩ := r.tup_inv
    rcases hp with (hp | ⟨o, hp⟩) | ⟨o, its, m, k1, k2, _⟩
    · exact .base (.tup hp)
    · exact .fTuple hp
    · exact .kTuple k1 k2
  case loc l =>
    obtain ⟨p, hp, rfl⟩ := r.loc_inv
    split at h
    · rename_i e
      cases h
      obtain ⟨vs, hv, _⟩ := S.lst e hp
      exact .base (.lst hv)
    · rename_i e
      cases h
      obtain ⟨ws, hw, _⟩ := S.dct e hp
      exact .base (.dK hw)
    · rename_i e
      cases h
      obtain ⟨q, e1, ws, hw, _⟩ := S.ob _ _ e
      rw [hp] at e1; cases e1
      exact .base (.dT hw)
    · cases h
theorem den_isi {a : Expr} {fa : EvE} {p p2 pos : Pos} {t : String} {y : Str} (G : Gd X T n) (ha : PE X a (tV T W fa)) (hg : Gl X "isinstance") (hm : X.mg "isinstance" = none) (hgy : Gl X y) (hmy : X.mg y = none) (hvy : bootBuiltins y = some (.type t))
    (hn : y ≠ "__name__") (hdb : (y == ("__debug__" : Str)) = false)
    (hs : starEach [a, .Name y p2] X.env = (false, eval a X.env) :: starEach [.Name y p2] X.env) (hs2 : starEach [.Name y p2] X.env = (false, eval (.Name y p2) X.env) :: starEach [] X.env) (hpl : (backTo pos (starEach [.Name y p2] X.env)).any (·.1) = false)
    (hb : bootBuiltins "isinstance" = some (.builtin "isinstance")) :
    PE X (.Call (.Name "isinstance" p) [a, .Name y p2] [] pos) (tV T W (eIsi t fa)) := by
  refine imp_e (pe_callB call_isi hg hm hb (pa_cons ha (pa_cons (pe_bltn (v := .ty t) hgy hmy hvy rfl hn hdb) pa_nil hs2) hs) (by decide) (by decide) hs hpl) fun σ H Q h => ?_
  obtain ⟨mu, M, rho, S, E, h⟩ := h
  refine step1 S E h fun mu1 M1 d v H1 S1 E1 G1 R1 h1 => ?_
  split at h1
  · rename_i b e
    simp only [isiD] at e
    cases ea : tyName M1 d with
    | none => rw [ea] at e; cases e
    | some a' =>
      rw [ea] at e
      have tx := tyX_ok S1 R1 ea
      rw [← G.K] at tx
      exact ⟨v, .ty t, .type a', .type t, b, rfl, .ty t, tx, kit_ty e, OkG.here S1 (Rep.bl_mk _) h1⟩
  · exact h1.elim
end
end VI
namespace VI
open PySem PySem.Spec L2

mutual
def beqD : D → D → Bool
  | .non, .non => true
  | .bl a, .bl b => a == b
  | .int a, .int b => decide (a = b)
  | .str a, .str b => decide (a = b)
  | .tup a, .tup b => beqDs a b
  | .loc a, .loc b => a == b
  | .fn f c q ds us, .fn f' c' q' ds' us' => f == f' && c == c' && decide (q = q') && beqDs ds ds' && decide (us = us')
  | .gd a, .gd b => a == b
  | .rl a, .rl b => beqDs a b
  | .exn c ns a, .exn c' ns' b => c == c' && decide (ns = ns') && beqDs a b
  | _, _ => false
def beqDs : List D → List D → Bool
  | [], [] => true
  | a :: as, b :: bs => beqD a b && beqDs as bs
  | _, _ => false
end
mutual
theorem beqD_eq : ∀ {a b : D}, beqD a b = true → a = b
  | .non, b, h => by cases b <;> simp_all [beqD]
  | .bl a, b, h => by cases b <;> simp_all [beqD]
  | .int a, b, h => by cases b <;> simp_all [beqD]
  | .str a, b, h => by cases b <;> simp_all [beqD]
  | .tup a, b, h => by
    cases b <;> simp only [beqD] at h <;> first | (cases h; done) | skip
    rw [beqDs_eq h]
  | .loc a, b, h => by cases b <;> simp_all [beqD]
  | .fn f c q ds us, b, h => by
    cases b <;> simp only [beqD] at h <;> first | (cases h; done) | skip
    simp only [Bool.and_eq_true, beq_iff_eq, decide_eq_true_eq] at h
    rw [h.1.1.1.1, h.1.1.1.2, h.1.1.2, beqDs_eq h.1.2, h.2]
  | .gd a, b, h => by cases b <;> simp_all [beqD]
  | .rl a, b, h => by
    cases b <;> simp only [beqD] at h <;> first | (cases h; done) | skip
    rw [beqDs_eq h]
  | .exn c ns a, b, h => by
    cases b <;> simp only [beqD] at h <;> first | (cases h; done) | skip
    simp only [Bool.and_eq_true, beq_iff_eq, decide_eq_true_eq] at h
    rw [h.1.1, h.1.2, beqDs_eq h.2]
theorem beqDs_eq : ∀ {a b : List D}, beqDs a b = true → a = b
  | [], b, h => by cases b <;> simp_all [beqDs]
  | x :: xs, b, h => by
    cases b with
    | nil => simp [beqDs] at h
    | cons y ys =>
      simp only [beqDs, Bool.and_eq_true] at h
      rw [beqD_eq h.1, beqDs_eq h.2]
end
mutual
theorem beqD_self : ∀ a : D, beqD a a = true
  | .non => rfl
  | .bl a => by simp [beqD]
  | .int a => by simp [beqD]
  | .str a => by simp [beqD]
  | .tup a => by simp only [beqD]; exact beqDs_self a
  | .loc a => by simp [beqD]
  | .fn f c q ds us => by simp only [beqD, beq_self_eq_true, decide_true, Bool.true_and, Bool.and_true]; exact beqDs_self ds
  | .gd a => by simp [beqD]
  | .rl a => by simp only [beqD]; exact beqDs_self a
  | .exn c ns a => by simp only [beqD, beq_self_eq_true, decide_true, Bool.true_and]; exact beqDs_self a
theorem beqDs_self : ∀ a : List D, beqDs a a = true
  | [] => rfl
  | x :: xs => by simp only [beqDs, Bool.and_eq_true]; exact ⟨beqD_self x, beqDs_self xs⟩
end

/-! ### what is walked -/
inductive Src where
  | lst (l : Nat) (xs : List D)
  | tup (xs : List D)
  | rl (xs : List D)
  | txt (x : Str)
  | rng (lo : Int) (n : Nat)
def Src.items : Src → List D
  | .lst _ xs => xs
  | .tup xs => xs
  | .rl xs => xs
  | .txt x => x.cps.toList.map fun c => .str ⟨#[c]⟩
  | .rng lo n => (List.range n).map fun k : Nat => .int (lo + (k : Int))
def Src.stands : Src → Mem → Bool
  | .lst l xs, M => match M[l]? with
    | some (.lst ys) => beqDs xs ys
    | _ => false
  | _, _ => true
def SrcR (T : Tab) (mu : List Addr) (H : Hp) : Src → It → Prop
  | .lst l xs, J => ∃ p, mu[l]? = some p ∧ J = Itl T.K p
  | .tup xs, J => ∃ p vs, J = Itt T.K p ∧ SqT T.K H p vs ∧ RepL T mu H xs vs
  | .rl xs, J => ∃ p vs, J = Itl T.K p ∧ SqR T.K H p vs ∧ RepL T mu H xs vs
  | .txt x, J => J = Its x
  | .rng lo n, J => J = Itr lo n
section
variable {T : Tab} {mu mu' : List Addr} {H H' : Hp} {M : Mem} {src : Src} {J : It}
theorem SrcR.mono (g : Grow T mu H mu' H') (h : SrcR T mu H src J) : SrcR T mu' H' src J := by
  cases src with
  | lst l xs => obtain ⟨p, e, r⟩ := h; exact ⟨p, g.get e, r⟩
  | tup xs => obtain ⟨p, vs, e, s, r⟩ := h; exact ⟨p, vs, e, g.sq _ _ s, r.mono g⟩
  | rl xs => obtain ⟨p, vs, e, s, r⟩ := h; exact ⟨p, vs, e, g.sr _ _ s, r.mono g⟩
  | txt x => exact h
  | rng lo n => exact h
theorem src_list (S : Sim T mu M H) (h : SrcR T mu H (.lst l xs) J) (st : Src.stands (.lst l xs) M = true) : ∃ p vs, J = Itl T.K p ∧ SqL T.K H p vs ∧ RepL T mu H xs vs ∧ ∀ ys, SqL T.K H p ys → H p = some (.lst vs) := by
  obtain ⟨p, hp, rfl⟩ := h
  simp only [Src.stands] at st
  split at st
  · rename_i zs e
    have := beqDs_eq st
    subst this
    obtain ⟨vs, hv, rl⟩ := S.lst e hp
    exact ⟨p, vs, rfl, SqL.of hv, rl, fun _ _ => hv⟩
  · cases st
end
section
variable {X : Cx} {T : Tab} {mu : List Addr} {H : Hp} {M : Mem} {src : Src} {J : It} {i : Nat}
/-- a turn: what comes -/
theorem src_go (S : Sim T mu M H) (h : SrcR T mu H src J) (st : src.stands M = true) {d : D} (e : src.items[i]? = some d) : J.go i H ∧ ∃ v, Rep T mu H d v ∧ ∀ x H', J.yld i H x H' → H' = H ∧ x = v := by
  cases src with
  | lst l xs =>
    obtain ⟨p, vs, rfl, hs, rl, _⟩ := src_list S h st
    obtain ⟨v, hv, r⟩ := rl.get e
    exact ⟨⟨vs, v, hs, hv⟩, v, r, fun x H' ⟨e1, e2⟩ => ⟨e1, by have := e2 vs hs; rw [hv] at this; exact (Option.some.inj this).symm⟩⟩
  | tup xs =>
    obtain ⟨p, vs, rfl, hs, rl⟩ := h
    obtain ⟨v, hv, r⟩ := rl.get e
    exact ⟨⟨vs, v, hs, hv⟩, v, r, fun x H' ⟨e1, e2⟩ => ⟨e1, by have := e2 vs hs; rw [hv] at this; exact (Option.some.inj this).symm⟩⟩
  | rl xs =>
    obtain ⟨p, vs, rfl, hs, rl⟩ := h
    obtain ⟨v, hv, r⟩ := rl.get e
    exact ⟨⟨vs, v, hs.sq, hv⟩, v, r, fun x H' ⟨e1, e2⟩ => ⟨e1, by have := e2 vs hs.sq; rw [hv] at this; exact (Option.some.inj this).symm⟩⟩
  | txt x =>
    cases (show J = Its x from h)
    simp only [Src.items, List.getElem?_map] at e
    cases ec : x.cps.toList[i]? with
    | none => rw [ec] at e; cases e
    | some c =>
      rw [ec] at e
      simp only [Option.map_some, Option.some.injEq] at e
      subst e
      have ec' : x.cps[i]? = some c := by simpa using ec
      have hi : i < x.cps.size := (Array.getElem?_eq_some_iff.mp ec').1
      refine ⟨hi, .str ⟨#[c]⟩, Rep.str_mk _, fun y H' ⟨e1, c', e2, e3⟩ => ⟨e1, ?_⟩⟩
      rw [ec'] at e2
      cases e2
      exact e3
  | rng lo n =>
    cases (show J = Itr lo n from h)
    simp only [Src.items, List.getElem?_map] at e
    by_cases hi : i < n
    · rw [List.getElem?_range hi] at e
      simp only [Option.map_some, Option.some.injEq] at e
      subst e
      exact ⟨hi, _, Rep.int_mk _, fun y H' ⟨e1, e2⟩ => ⟨e1, e2⟩⟩
    · rw [List.getElem?_eq_none (by simpa using hi)] at e
      cases e
theorem src_stop (S : Sim T mu M H) (h : SrcR T mu H src J) (st : src.stands M = true) (e : src.items.length ≤ i) : J.stop i H := by
  cases src with
  | lst l xs =>
    obtain ⟨p, vs, rfl, hs, rl, _⟩ := src_list S h st
    exact ⟨vs, hs, by rw [← rl.length]; exact e⟩
  | tup xs =>
    obtain ⟨p, vs, rfl, hs, rl⟩ := h
    exact ⟨vs, hs, by rw [← rl.length]; exact e⟩
  | rl xs =>
    obtain ⟨p, vs, rfl, hs, rl⟩ := h
    exact ⟨vs, hs.sq, by rw [← rl.length]; exact e⟩
  | txt x =>
    cases (show J = Its x from h)
    show x.cps.size ≤ i
    simpa [Src.items] using e
  | rng lo n =>
    cases (show J = Itr lo n from h)
    show n ≤ i
    simpa [Src.items] using e
end
abbrev EvI := EnvD → Mem → Res Src
def srcD (M : Mem) : D → Option Src
  | .tup xs => some (.tup xs)
  | .rl xs => some (.rl xs)
  | .str x => some (.txt x)
  | .loc l => match M[l]? with
    | some (.lst xs) => some (.lst l xs)
    | _ => none
  | _ => none
def eSrc (a : EvE) : EvI := fun rho M => (a rho M).bind fun x M1 => match srcD M1 x with
  | some s => .ok s M1
  | none => .bad
def inR (i : Int) : Bool := decide (-(2 ^ 62) ≤ i) && decide (i < 2 ^ 62)
def eRng (a : EvA) : EvI := fun rho M => (a rho M).bind fun xs M1 => match xs with
  | [.int n] => if inR n then .ok (.rng 0 n.toNat) M1 else .bad
  | _ => .bad
def eRng2 (a : EvA) : EvI := fun rho M => (a rho M).bind fun xs M1 => match xs with
  | [.int i, .int j] => if inR i && inR j then .ok (.rng i (j - i).toNat) M1 else .bad
  | _ => .bad
section
variable {X : Cx} {T : Tab} {n : Nat} {W : WX} {tg a b : Expr} {fa : EvE}
abbrev tI (T : Tab) (W : WX) (f : EvI) : TI := tG T (SrcR T) W f
theorem imp_i {X : Cx} {tg e : Expr} {t t' : TI} (h : PI X tg e t) (i : ∀ σ H Q, t' σ H Q → t σ H Q) : PI X tg e t' := ⟨fun pins s σ H Q I q => h.run pins s σ H Q I (i _ _ _ q)⟩
/-- the three kinds of value that are walked, by one rule -/
theorem pi_three {tl : TE} (hl : PE X a tl) : PI X tg a (fun σ H R => tl σ H fun x H1 => (∃ p, x = .ref p ∧ (∃ xs, SqL X.K H1 p xs) ∧ R (Itl X.K p) H1) ∨ (∃ p, x = .ref p ∧ (∃ xs, SqT X.K H1 p xs) ∧ R (Itt X.K p) H1) ∨ ∃ z, x = .str z ∧ R (Its z) H1) := by
  refine ⟨fun pins s σ H R I hh => ?_⟩
  have w0 := hl.run pins s σ H _ I hh
  refine thn w0 fun v s1 ⟨y, K1, J1, ry, hy⟩ => ?_
  rcases hy with ⟨p, rfl, ⟨xs, hq⟩, q⟩ | ⟨p, rfl, ⟨xs, hq⟩, q⟩ | ⟨z, rfl, q⟩
  · obtain rfl : v = Value.ref p := ry
    obtain ⟨its, rv, pl, hz⟩ := J1.list hq
    exact wpAny_pyIter_list pl.isList (pi_one (tk := s1.toks) J1 _ (turn_list p _) ⟨_, Heap.get?_push_size _ rfl, rfl, rfl⟩ q)
  · obtain rfl : v = Value.ref p := ry
    obtain ⟨its, rv, pl, hz⟩ := J1.tuple hq
    exact wpAny_pyIter_tuple (show s1.heap.IsTuple p its.toArray from pl) (pi_one (tk := s1.toks) J1 _ (turn_tuple p _) ⟨_, Heap.get?_push_size _ rfl, rfl, rfl⟩ q)
  · obtain ⟨t, rfl⟩ := ry
    cases hw : z.cps.all (· < 128) with
    | false => exact wpAny_pyIter_wide hw (pi_one (tk := s1.toks) J1 _ (turn_str _ z t "str_iterator" (.inr rfl)) ⟨_, Heap.get?_push_size _ rfl, rfl, rfl⟩ q)
    | true => exact wpAny_pyIter_ascii hw (pi_one (tk := s1.toks) J1 _ (turn_str _ z t "str_ascii_iterator" (.inl rfl)) ⟨_, Heap.get?_push_size _ rfl, rfl, rfl⟩ q)
theorem den_src (G : Gd X T n) (ha : PE X a (tV T W fa)) : PI X tg a (tI T W (eSrc fa)) := by
  refine imp_i (pi_three ha) fun σ H Q h => ?_
  obtain ⟨mu, M, rho, S, E, h⟩ := h
  refine step1 S E h fun mu1 M1 d v H1 S1 E1 G1 R1 h1 => ?_
  split at h1
  · rename_i src e
    have key : ∀ J, SrcR T mu1 H1 src J → Q J H1 := fun J r => OkG.here (rel := SrcR T) S1 r h1
    unfold srcD at e
    split at e
    · cases e
      obtain ⟨p, vs, rfl, hp, rl⟩ := R1.tup_inv
      refine .inr (.inl ⟨p, rfl, ⟨vs, by rw [G.K]; exact hp⟩, key _ ⟨p, vs, by rw [G.K], hp, rl⟩⟩)
    · cases e
      simp only [Rep] at R1
      obtain ⟨p, vs, rfl, hp, rl⟩ := R1
      refine .inl ⟨p, rfl, ⟨vs, by rw [G.K]; exact hp.sq⟩, key _ ⟨p, vs, by rw [G.K], hp, rl⟩⟩
    · cases e
      cases R1.str_inv
      exact .inr (.inr ⟨_, rfl, key _ rfl⟩)
    · obtain ⟨p, hp, rfl⟩ := R1.loc_inv
      split at e
      · rename_i xs e2
        cases e
        obtain ⟨vs, hv, rl⟩ := S1.lst e2 hp
        exact .inl ⟨p, rfl, ⟨vs, SqL.of hv⟩, key _ ⟨p, hp, by rw [G.K]⟩⟩
      · cases e
    · cases e
  · exact h1.elim
theorem den_rng1 {la : EvA} {p pos : Pos} (hg : Gl X "range") (hm : X.mg "range" = none) (ha : PA X [a] (tL T W la)) (hs : starEach [a] X.env = [(false, eval a X.env)]) : PI X tg (.Call (.Name "range" p) [a] [] pos) (tI T W (eRng la)) := by
  refine imp_i (pi_range1 hg hm ha hs) fun σ H Q h => ?_
  obtain ⟨mu, M, rho, S, E, h⟩ := h
  refine stepA S E h fun mu1 M1 d v H1 S1 E1 G1 R1 h1 => ?_
  split at h1
  · rename_i k
    obtain ⟨x, rfl, r⟩ := one_inv R1
    cases r.int_inv
    split at h1
    · rename_i hz
      simp only [inR, Bool.and_eq_true, decide_eq_true_eq] at hz
      exact ⟨k, rfl, hz.1, hz.2, OkG.here (rel := SrcR T) (d := .rng 0 k.toNat) S1 rfl h1⟩
    · exact h1.elim
  · exact h1.elim
theorem den_rng2 {la : EvA} {p pos : Pos} (hg : Gl X "range") (hm : X.mg "range" = none) (ha : PA X [a, b] (tL T W la)) (hs : starEach [a, b] X.env = [(false, eval a X.env), (false, eval b X.env)]) (hs2 : starEach [b] X.env = [(false, eval b X.env)]) :
    PI X tg (.Call (.Name "range" p) [a, b] [] pos) (tI T W (eRng2 la)) := by
  refine imp_i (pi_range2 hg hm ha hs hs2) fun σ H Q h => ?_
  obtain ⟨mu, M, rho, S, E, h⟩ := h
  refine stepA S E h fun mu1 M1 d v H1 S1 E1 G1 R1 h1 => ?_
  split at h1
  · rename_i i j
    obtain ⟨x, w, rfl, r, r2⟩ := R1.inv_cons
    obtain ⟨y, rfl, r3⟩ := one_inv r2
    cases r.int_inv
    cases r3.int_inv
    split at h1
    · rename_i hz
      simp only [inR, Bool.and_eq_true, decide_eq_true_eq] at hz
      exact ⟨i, j, rfl, ⟨hz.1.1, hz.1.2, hz.2.1, hz.2.2⟩, OkG.here (rel := SrcR T) (d := .rng i (j - i).toNat) S1 rfl h1⟩
    · exact h1.elim
  · exact h1.elim
end
end VI
namespace VI
open PySem PySem.Spec L2

/-! ### targets -/
inductive Tgt where
  | nm (i : Nat)
  | tp (ts : List Nat)
def setE : List Nat → List D → EnvD → EnvD
  | i :: is, d :: ds, rho => setE is ds (rho.set i (some d))
  | _, _, rho => rho
def setS : List Nat → List V → St → St
  | i :: is, v :: vs, σ => setS is vs (σ.set i (some v))
  | _, _, σ => σ
def bindT : Tgt → D → EnvD → Option EnvD
  | .nm i, d, rho => some (rho.set i (some d))
  | .tp is, .tup ds, rho => if ds.length = is.length then some (setE is ds rho) else none
  | _, _, _ => none
def Tgt.slots : Tgt → List Nat
  | .nm i => [i]
  | .tp is => is
def gNames : List Nat → TGs
  | [] => gNil
  | i :: is => gCons (gName i) (gNames is)
def gT (K : PySem.W.Frag) : Tgt → TG
  | .nm i => gName i
  | .tp is => gTup K is.length (gNames is)
theorem gNames_ok : ∀ {is : List Nat} {vs : List V} {σ : St} {H : Hp} {Q : St → Hp → Prop}, vs.length = is.length → Q (setS is vs σ) H → gNames is vs σ H Q
  | [], [], σ, H, Q, _, q => ⟨rfl, q⟩
  | [], _ :: _, σ, H, Q, h, q => by simp at h
  | _ :: _, [], σ, H, Q, h, q => by simp at h
  | i :: is, v :: vs, σ, H, Q, h, q => ⟨v, vs, rfl, gNames_ok (is := is) (vs := vs) (by simpa using h) q⟩
theorem setE_ok {T : Tab} {mu : List Addr} {H : Hp} : ∀ {is : List Nat} {ds : List D} {vs : List V} {rho : EnvD} {σ : St}, EnvR T mu H rho σ → RepL T mu H ds vs → EnvR T mu H (setE is ds rho) (setS is vs σ)
  | [], ds, vs, rho, σ, E, r => by
    cases ds <;> cases vs <;> exact E
  | i :: is, [], vs, rho, σ, E, r => by rw [r.inv_nil]; exact E
  | i :: is, d :: ds, vs, rho, σ, E, r => by
    obtain ⟨v, w, rfl, a, b⟩ := r.inv_cons
    exact setE_ok (is := is) (E.set a) b
theorem wipe_set {σ : St} {i : Nat} {v : V} : ∀ {vs : List Nat}, i ∈ vs → wipe (σ.set i (some v)) vs = wipe σ vs
  | [], h => by simp at h
  | a :: vs, h => by
    unfold wipe
    by_cases e : i ∈ vs
    · rw [wipe_set e]
    · have ha : a = i := by
        rcases List.mem_cons.mp h with z | z
        · exact z.symm
        · exact absurd z e
      subst ha
      have key : ∀ vs : List Nat, a ∉ vs → wipe (σ.set a (some v)) vs = (wipe σ vs).set a (some v) := by
        intro vs
        induction vs with
        | nil => intro _; rfl
        | cons b vs ih =>
          intro hb
          simp only [List.mem_cons, not_or] at hb
          unfold wipe
          rw [ih hb.2, List.set_comm _ _ hb.1]
      rw [key vs e, List.set_set]
theorem wipe_at (σ : St) (i : Nat) : ∀ vs : List Nat, (wipe σ vs)[i]? = if i ∈ vs ∧ i < σ.length then some none else σ[i]?
  | [] => by simp [wipe]
  | v :: vs => by
    have ih := wipe_at σ i vs
    unfold wipe
    by_cases e : v = i
    · subst e
      by_cases hl : v < σ.length
      · rw [List.getElem?_set_self (by rw [wipe_length]; exact hl)]
        simp [hl]
      · rw [List.getElem?_eq_none (by rw [List.length_set, wipe_length]; omega), List.getElem?_eq_none (by omega : σ.length ≤ v)]
        simp [hl]
    · rw [List.getElem?_set_ne e, ih]
      have : (i ∈ v :: vs) ↔ i ∈ vs := by simp [Ne.symm e]
      simp [this]
theorem wipe_wipe (σ : St) (vs : List Nat) : wipe (wipe σ vs) vs = wipe σ vs := by
  refine List.ext_getElem? fun i => ?_
  rw [wipe_at, wipe_length, wipe_at]
  by_cases h : i ∈ vs ∧ i < σ.length <;> simp [h]
theorem wipe_setS {vs : List Nat} : ∀ {is : List Nat} {ws : List V} {σ : St}, (∀ i ∈ is, i ∈ vs) → wipe (setS is ws σ) vs = wipe σ vs
  | [], ws, σ, h => by cases ws <;> rfl
  | i :: is, [], σ, h => rfl
  | i :: is, v :: ws, σ, h => by
    show wipe (setS is ws (σ.set i (some v))) vs = _
    rw [wipe_setS (is := is) fun j hj => h j (List.mem_cons_of_mem _ hj), wipe_set (h i List.mem_cons_self)]
theorem gT_ok {T : Tab} {mu : List Addr} {H : Hp} {t : Tgt} {d : D} {v : V} {rho rho' : EnvD} {σ : St} {Q : St → Hp → Prop} (E : EnvR T mu H rho σ) (r : Rep T mu H d v) (h : bindT t d rho = some rho')
    (q : ∀ σ', EnvR T mu H rho' σ' → (∀ vs, (∀ i ∈ t.slots, i ∈ vs) → wipe σ' vs = wipe σ vs) → Q σ' H) : gT T.K t v σ H Q := by
  cases t with
  | nm i =>
    simp only [bindT, Option.some.injEq] at h
    subst h
    exact q _ (E.set r) fun vs hv => wipe_set (hv i (by simp [Tgt.slots]))
  | tp is =>
    cases d <;> simp only [bindT] at h <;> first | (cases h; done) | skip
    rename_i ds
    split at h
    · rename_i hl
      cases h
      obtain ⟨p, vs, rfl, hp, rl⟩ := r.tup_inv
      refine ⟨p, vs, rfl, hp, by rw [← rl.length]; exact hl, gNames_ok (by rw [← rl.length]; exact hl) ?_⟩
      exact q _ (setE_ok E rl) fun ws hw => wipe_setS hw
    · cases h
def wipeD (rho : EnvD) : List Nat → EnvD
  | [] => rho
  | v :: vs => (wipeD rho vs).set v none
theorem wipeD_ok {T : Tab} {mu : List Addr} {H : Hp} {rho : EnvD} {σ : St} (E : EnvR T mu H rho σ) : ∀ vs : List Nat, EnvR T mu H (wipeD rho vs) (wipe σ vs)
  | [] => E
  | v :: vs => by
    have ih := wipeD_ok E vs
    unfold wipeD wipe
    refine ⟨by simpa using ih.1, fun i d e => ?_⟩
    by_cases hi : v = i
    · subst hi
      by_cases hl : v < (wipeD rho vs).length
      · rw [List.getElem?_set_self hl] at e; cases e
      · rw [List.getElem?_eq_none (by simpa using hl)] at e; cases e
    · rw [List.getElem?_set_ne hi] at e
      rw [List.getElem?_set_ne hi]
      exact ih.2 i d e

/-! ### [.. for .. in ..] -/
def lcLoop (src : Src) (t : Tgt) (cond : EvT) (elt : EvE) : List D → List D → EnvD → Mem → Res (List D)
  | [], acc, rho, M => if src.stands M then .ok acc M else .bad
  | x :: xs, acc, rho, M => if src.stands M then
      match bindT t x rho with
      | none => .bad
      | some rho1 => match cond rho1 M with
        | .ok true M1 => match elt rho1 M1 with
          | .ok d M2 => if acc.length < lim then lcLoop src t cond elt xs (acc ++ [d]) rho M2 else .bad
          | _ => .bad
        | .ok false M1 => lcLoop src t cond elt xs acc rho M1
        | _ => .bad
    else .bad
def eLc (src : EvI) (t : Tgt) (vs : List Nat) (cond : EvT) (elt : EvE) : EvE := fun rho M => (src rho M).bind fun s M1 => (lcLoop s t cond elt s.items [] (wipeD rho vs) M1).bind fun acc M2 => .ok (.loc M2.length) (M2 ++ [.lst acc])
def eYes : EvT := fun _ M => .ok true M
def W0 : WX := fun _ _ _ _ => False
section
variable {X : Cx} {T : Tab} {n : Nat} {W : WX}
theorem lc_ok {src : Src} {J : It} {t : Tgt} {vs : List Nat} {cond : EvT} {elt : EvE} {rho : EnvD} {σ : St} {Q : VK} {mu : List Addr} {H : Hp} {M : Mem} (S : Sim T mu M H) (E : EnvR T mu H rho σ) (R : SrcR T mu H src J) (hvs : ∀ i ∈ t.slots, i ∈ vs)
    {tt : TT} {te : TE} (htt : ∀ σ H Q, tB T W0 cond σ H Q → tt σ H Q) (hte : ∀ σ H Q, tV T W0 elt σ H Q → te σ H Q)
    (h : OkG T (Rep T) W σ Q mu H ((lcLoop src t cond elt src.items [] (wipeD rho vs) M).bind fun acc M2 => .ok (.loc M2.length) (M2 ++ [.lst acc]))) :
    ∀ D, H D = none → ∃ Wv : Nat → Nat → Hp → Prop, (∃ m, Wv 0 m (upd H D (.lst []))) ∧ ∀ i m H, Wv i m H →
      (J.stop i H ∧ Q (.ref D) H) ∨ (J.go i H ∧ ∃ Nx : Hp → Prop, (∀ H', Nx H' → ∃ m', m' < m ∧ Wv (i + 1) m' H') ∧ ∀ x H', J.yld i H x H' → gT T.K t x (wipe σ vs) H' fun σ2 H2 => wipe σ2 vs = wipe σ vs ∧ tt σ2 H2 fun b H3 =>
        if b = true then te σ2 H3 fun y H4 => ∃ acc, H4 D = some (.lst acc) ∧ acc.length < sizeLine ∧ Nx (upd H4 D (.lst (acc ++ [y]))) else Nx H3) := by
  intro D hD
  let Inv' : Nat → Hp → Prop := fun i H1 => ∃ mu1 M1 acc ws, Sim T mu1 M1 H1 ∧ Grow T mu H mu1 H1 ∧ D ∉ mu1 ∧ H1 D = some (.lst ws) ∧ RepL T mu1 H1 acc ws ∧
    OkG T (Rep T) W σ Q mu H ((lcLoop src t cond elt (src.items.drop i) acc (wipeD rho vs) M1).bind fun acc M2 => .ok (.loc M2.length) (M2 ++ [.lst acc]))
  refine ⟨fun i m H1 => m = src.items.length - i ∧ i ≤ src.items.length ∧ Inv' i H1, ⟨src.items.length, by simp, Nat.zero_le _, mu, M, [], [], S.side hD, Grow.side hD, S.free hD, upd_same, RepL.nil, by simpa using h⟩, ?_⟩
  rintro i m H1 ⟨rfl, hi, mu1, M1, acc, ws, S1, G1, nD, hw, rw1, h1⟩
  by_cases hlt : i < src.items.length
  · right
    have ed : src.items.drop i = src.items[i] :: src.items.drop (i + 1) := List.drop_eq_getElem_cons hlt
    rw [ed] at h1
    simp only [lcLoop] at h1
    split at h1
    · rename_i st
      obtain ⟨go, v, rv, hy⟩ := src_go S1 (R.mono G1) st (List.getElem?_eq_getElem hlt)
      refine ⟨go, fun H' => i + 1 ≤ src.items.length ∧ Inv' (i + 1) H', fun H' hN => ⟨_, by omega, rfl, hN.1, hN.2⟩, fun x H' y => ?_⟩
      obtain ⟨rfl, rfl⟩ := hy x H' y
      split at h1
      · exact h1.elim
      · rename_i rho1 eb
        refine gT_ok (wipeD_ok (E.mono G1) vs) rv eb fun σ2 E2 hw2 => ⟨(hw2 vs hvs).trans (wipe_wipe σ vs), htt _ _ _ ?_⟩
        refine tG.intro S1 E2 ?_
        cases ec : cond rho1 M1 with
        | bad => rw [ec] at h1; exact h1.elim
        | exc x M2 => rw [ec] at h1; exact h1.elim
        | ok c M2 =>
          rw [ec] at h1
          intro mu2 H2 c' S2 G2 ecc
          cases (show c = c' from ecc)
          have G02 := G1.trans G2
          have nD2 : D ∉ mu2 := fun z => by
            have q := G2.new D z nD
            rw [hw] at q; cases q
          have hw2' := G2.oth D _ hw (fun _ z => nomatch z) nD
          cases c with
          | false =>
            simp only [Bool.false_eq_true, if_false]
            exact ⟨hlt, mu2, M2, acc, ws, S2, G02, nD2, hw2', rw1.mono G2, h1⟩
          | true =>
            simp only [if_true]
            refine hte _ _ _ (tG.intro S2 (E2.mono G2) ?_)
            cases ee : elt rho1 M2 with
            | bad => simp only [ee] at h1; exact h1.elim
            | exc x M3 => simp only [ee] at h1; exact h1.elim
            | ok d M3 =>
              simp only [ee] at h1
              intro mu3 H3 y3 S3 G3 R3
              split at h1
              · rename_i hz
                have nD3 : D ∉ mu3 := fun z => by
                  have q := G3.new D z nD2
                  rw [hw2'] at q; cases q
                have hw3 := G3.oth D _ hw2' (fun _ z => nomatch z) nD2
                have nf := NoFix.lst hw3
                have x0 : Ext0 T mu3 H3 mu3 (upd H3 D (.lst (ws ++ [y3]))) := by
                  have y : Ext0 T mu3 H3 (mu3 ++ []) (upd H3 D (.lst (ws ++ [y3]))) := ext_touch nf []
                  rwa [List.append_nil] at y
                refine ⟨ws, hw3, by rw [lim_eq, ← rw1.length]; exact hz, hlt, mu3, M3, acc ++ [d], ws ++ [y3], S3.touch nD3 nf, (G02.trans G3).touch hD nf, nD3, upd_same, ?_, h1⟩
                exact ((rw1.mono (G2.trans G3)).append (RepL.cons R3 RepL.nil)).mono0 x0
              · exact h1.elim
    · exact h1.elim
  · left
    have e : i = src.items.length := by omega
    subst e
    rw [List.drop_length] at h1
    simp only [lcLoop] at h1
    split at h1
    · rename_i st
      refine ⟨src_stop S1 (R.mono G1) st (Nat.le_refl _), ?_⟩
      have nf := NoFix.lst hw
      -- the list is taken among the objects
      have hu : upd H1 D (.lst ws) = H1 := by
        funext b
        by_cases hb : b = D
        · subst hb; rw [upd_same, hw]
        · rw [upd_ne hb]
      have S2 : Sim T (mu1 ++ [D]) (M1 ++ [.lst acc]) H1 := by
        rw [← hu]
        exact S1.adopt nD nf ⟨ws, upd_same, rw1.mono0 (ext_touch nf [D])⟩
      have G2 : Grow T mu H (mu1 ++ [D]) H1 := by
        rw [← hu]
        exact G1.adopt hD nf
      exact h1 _ _ _ S2 G2 (Rep.loc_mk (last_loc S1))
    · exact h1.elim
theorem den_lc {elt tg iter : Expr} {ifs : List Expr} {scope : Scope} {own : List (Str × Nat)} {pos : Pos} {fs : EvI} {t : Tgt} {fc : EvT} {fe : EvE} {tt : TT} (G : Gd X T n) (hi : PI X tg iter (tI T W fs)) (ok : BlkOk X.N X.env.scope scope own)
    (hg : ∀ (s : Shared) (H : Hp) (C : Addr) (cl : List (Str × Addr)) (fp : List Addr), PG (X.blk s H scope (compEnvC scope cl C X.env) fp) tg (gT T.K t))
    (ht : ∀ (s : Shared) (H : Hp) (C : Addr) (cl : List (Str × Addr)) (fp : List Addr), PTs (X.blk s H scope (compEnvC scope cl C X.env) fp) ifs tt) (htt : ∀ σ H Q, tB T W0 fc σ H Q → tt σ H Q)
    (he : ∀ (s : Shared) (H : Hp) (C : Addr) (cl : List (Str × Addr)) (fp : List Addr), PE (X.blk s H scope (compEnvC scope cl C X.env) fp) elt (tV T W0 fe)) (hs : ∀ x, foldedSetIterable iter X.env x = pure x) (hvs : ∀ i ∈ t.slots, i ∈ own.map (·.2)) :
    PE X (.ListComp elt [⟨tg, iter, ifs, 0⟩] scope pos) (tV T W (eLc fs t (own.map (·.2)) fc fe)) := by
  refine imp_e (pe_lc G.calm G.nd hi ok hg ht he hs) fun σ H Q h => ?_
  obtain ⟨mu, M, rho, S, E, h⟩ := h
  refine tG.intro S E ?_
  simp only [eLc] at h
  cases e : fs rho M with
  | bad => rw [e] at h; exact h
  | exc x M1 => rw [e] at h; exact h
  | ok src M1 =>
    rw [e] at h
    intro mu1 H1 J S1 G1 R1
    exact lc_ok S1 (E.mono G1) R1 hvs htt (fun _ _ _ q => q) (OkG.later G1 h)
end
end VI
namespace VI
open PySem PySem.Spec L2

/-! ### statements -/
inductive Fl where
  | nx (rho : EnvD)
  | bk (rho : EnvD)
  | ct (rho : EnvD)
  | rt (d : D)
inductive RS where
  | ok (f : Fl) (M : Mem)
  | exc (x : Exn) (rho : EnvD) (M : Mem)
  | bad
abbrev EvS := EnvD → Mem → RS
def OkS (T : Tab) (W : WX) (Dn : Ends) (mu : List Addr) (H : Hp) : RS → Prop
  | .ok (.nx rho) M' => ∀ mu' H' σ', Sim T mu' M' H' → Grow T mu H mu' H' → EnvR T mu' H' rho σ' → Dn.nx σ' H'
  | .ok (.bk rho) M' => ∀ mu' H' σ', Sim T mu' M' H' → Grow T mu H mu' H' → EnvR T mu' H' rho σ' → Dn.bk σ' H'
  | .ok (.ct rho) M' => ∀ mu' H' σ', Sim T mu' M' H' → Grow T mu H mu' H' → EnvR T mu' H' rho σ' → Dn.ct σ' H'
  | .ok (.rt d) M' => ∀ mu' H' v, Sim T mu' M' H' → Grow T mu H mu' H' → Rep T mu' H' d v → Dn.rt v H'
  | .exc x rho M' => ∀ mu' H' σ' cls dd, Sim T mu' M' H' → Grow T mu H mu' H' → EnvR T mu' H' rho σ' → ExR T mu' H' x cls dd → W cls dd σ' H'
  | .bad => False
def tS (T : Tab) (W : WX) (f : EvS) : TS := fun Dn σ H => ∃ mu M rho, Sim T mu M H ∧ EnvR T mu H rho σ ∧ OkS T W Dn mu H (f rho M)
def sWith {α : Type} (f : EnvD → Mem → Res α) (k : α → EvS) : EvS := fun rho M => match f rho M with
  | .ok a M1 => k a rho M1
  | .exc x M1 => .exc x rho M1
  | .bad => .bad
def sNil : EvS := fun rho M => .ok (.nx rho) M
def sSeq (f g : EvS) : EvS := fun rho M => match f rho M with
  | .ok (.nx r) M1 => g r M1
  | r => r
def sBad : EvS := fun _ _ => .bad
def sAsg (t : Tgt) (e : EvE) : EvS := sWith e fun d rho M => match bindT t d rho with
  | some r => .ok (.nx r) M
  | none => .bad
def sIf (c : EvT) (a b : EvS) : EvS := sWith c fun k rho M => if k then a rho M else b rho M
def sRet (e : EvE) : EvS := sWith e fun d _ M => .ok (.rt d) M
def sRetN : EvS := fun _ M => .ok (.rt .non) M
def sExpr (e : EvE) : EvS := sWith e fun _ rho M => .ok (.nx rho) M
def sBrk : EvS := fun rho M => .ok (.bk rho) M
def sCnt : EvS := fun rho M => .ok (.ct rho) M
def forLoop (src : Src) (t : Tgt) (body : EvS) : List D → EvS
  | [], rho, M => if src.stands M then .ok (.nx rho) M else .bad
  | x :: xs, rho, M => if src.stands M then
      match bindT t x rho with
      | none => .bad
      | some r => match body r M with
        | .ok (.nx r1) M1 => forLoop src t body xs r1 M1
        | .ok (.ct r1) M1 => forLoop src t body xs r1 M1
        | .ok (.bk r1) M1 => .ok (.nx r1) M1
        | r => r
    else .bad
def sFor (src : EvI) (t : Tgt) (body : EvS) : EvS := sWith src fun s rho M => forLoop s t body s.items rho M
def whileLoop (c : EvT) (body : EvS) : Nat → EvS
  | 0, _, _ => .bad
  | n + 1, rho, M => match c rho M with
    | .ok true M1 => match body rho M1 with
      | .ok (.nx r1) M2 => whileLoop c body n r1 M2
      | .ok (.ct r1) M2 => whileLoop c body n r1 M2
      | .ok (.bk r1) M2 => .ok (.nx r1) M2
      | r => r
    | .ok false M1 => .ok (.nx rho) M1
    | .exc x M1 => .exc x rho M1
    | .bad => .bad
/-- o[i] = e -/
def oPut (o i v : D) (M : Mem) : Option Mem := match o with
  | .loc l => match M[l]? with
    | some (.lst xs) => match i with
      | .int k => (ixN xs.length k).map fun j => M.set l (.lst (xs.set j v))
      | _ => none
    | some (.dct ks vs) => match keyD i with
      | some k => if ks.length < lim ∧ ks.length = vs.length then some (M.set l (.dct (dputK ks vs k v).1 (dputK ks vs k v).2)) else none
      | none => none
    | _ => none
  | _ => none
where
  dputK (ks : List Key) (vs : List D) (k : Key) (d : D) : List Key × List D :=
    if (ks.any fun a => decide (a = k)) = true then (ks, List.zipWith (fun a v => if a = k then d else v) ks vs) else (ks ++ [k], vs ++ [d])
def sPut (o i e : EvE) : EvS := sWith (fun rho M => (e rho M).bind fun v M1 => (o rho M1).bind fun x M2 => (i rho M2).bind fun y M3 => match oPut x y v M3 with
  | some M4 => .ok () M4
  | none => .bad) fun _ rho M => .ok (.nx rho) M
section
variable {T : Tab} {W : WX} {Dn : Ends} {mu mu1 : List Addr} {H H1 : Hp} {M : Mem} {rho : EnvD} {σ : St}
theorem OkS.later (g : Grow T mu H mu1 H1) {r : RS} (h : OkS T W Dn mu H r) : OkS T W Dn mu1 H1 r := by
  cases r with
  | ok f M' =>
    cases f with
    | nx r => exact fun mu' H' σ' S G R => h mu' H' σ' S (g.trans G) R
    | bk r => exact fun mu' H' σ' S G R => h mu' H' σ' S (g.trans G) R
    | ct r => exact fun mu' H' σ' S G R => h mu' H' σ' S (g.trans G) R
    | rt d => exact fun mu' H' σ' S G R => h mu' H' σ' S (g.trans G) R
  | exc x r M' => exact fun mu' H' σ' c d S G R => h mu' H' σ' c d S (g.trans G) R
  | bad => exact h
/-- the part of a statement that is an expression -/
theorem sWith_ok {α β : Type} {rel : List Addr → Hp → α → β → Prop} {f : EnvD → Mem → Res α} {k : α → EvS} {P : β → Hp → Prop} (S : Sim T mu M H) (E : EnvR T mu H rho σ) (h : OkS T W Dn mu H (sWith f k rho M))
    (go : ∀ mu1 M1 a y H1, Sim T mu1 M1 H1 → EnvR T mu1 H1 rho σ → Grow T mu H mu1 H1 → rel mu1 H1 a y → OkS T W Dn mu1 H1 (k a rho M1) → P y H1) : tG T rel W f σ H P := by
  refine tG.intro S E ?_
  simp only [sWith] at h
  cases e : f rho M with
  | ok a M1 => rw [e] at h; exact fun mu1 H1 y S1 G1 R1 => go mu1 M1 a y H1 S1 (E.mono G1) G1 R1 (h.later G1)
  | exc x M1 => rw [e] at h; exact fun mu1 H1 c d S1 G1 R1 => h mu1 H1 σ c d S1 G1 (E.mono G1) R1
  | bad => rw [e] at h; exact h
theorem OkS.nx (S : Sim T mu M H) (E : EnvR T mu H rho σ) (h : OkS T W Dn mu H (.ok (.nx rho) M)) : Dn.nx σ H := h mu H σ S Grow.refl E
theorem OkS.rt {d : D} {v : V} (S : Sim T mu M H) (r : Rep T mu H d v) (h : OkS T W Dn mu H (.ok (.rt d) M)) : Dn.rt v H := h mu H v S Grow.refl r
end
section
variable {X : Cx} {T : Tab} {n : Nat} {W : WX} {st : Stmt} {sts : List Stmt} {f g : EvS} {pos : Pos} {e : Expr} {fe : EvE}
theorem den_sBad : PS X st (tS T W sBad) := ⟨fun pins s σ H Dn I h => by
  obtain ⟨mu, M, rho, S, E, h⟩ := h
  exact h.elim⟩
theorem den_ssBad : PSs X sts (tS T W sBad) := ⟨fun pins s σ H Dn I h => by
  obtain ⟨mu, M, rho, S, E, h⟩ := h
  exact h.elim⟩
theorem den_sNil : PSs X [] (tS T W sNil) := imp_ss pss_nil fun Dn σ H h => by
  obtain ⟨mu, M, rho, S, E, h⟩ := h
  exact h.nx S E
theorem den_sSeq (h1 : PS X st (tS T W f)) (h2 : PSs X sts (tS T W g)) : PSs X (st :: sts) (tS T W (sSeq f g)) := by
  refine imp_ss (pss_cons h1 h2) fun Dn σ H h => ?_
  obtain ⟨mu, M, rho, S, E, h⟩ := h
  refine ⟨mu, M, rho, S, E, ?_⟩
  simp only [sSeq] at h
  cases e : f rho M with
  | bad => rw [e] at h; exact h
  | exc x r M1 => rw [e] at h; exact h
  | ok k M1 =>
    rw [e] at h
    cases k with
    | nx r => exact fun mu' H' σ' S' G' E' => ⟨mu', M1, r, S', E', h.later G'⟩
    | bk r => exact h
    | ct r => exact h
    | rt d => exact h
theorem den_pass : PS X (.Pass pos) (tS T W sNil) := imp_s ps_pass fun Dn σ H h => by
  obtain ⟨mu, M, rho, S, E, h⟩ := h
  exact h.nx S E
theorem den_brk : PS X (.Break pos) (tS T W sBrk) := imp_s ps_break fun Dn σ H h => by
  obtain ⟨mu, M, rho, S, E, h⟩ := h
  exact h mu H σ S Grow.refl E
theorem den_cnt : PS X (.Continue pos) (tS T W sCnt) := imp_s ps_continue fun Dn σ H h => by
  obtain ⟨mu, M, rho, S, E, h⟩ := h
  exact h mu H σ S Grow.refl E
theorem den_ret (he : PE X e (tV T W fe)) : PS X (.Return (some e) pos) (tS T W (sRet fe)) := imp_s (ps_ret he) fun Dn σ H h => by
  obtain ⟨mu, M, rho, S, E, h⟩ := h
  exact sWith_ok (rel := Rep T) S E h fun mu1 M1 d v H1 S1 E1 G1 R1 h1 => h1.rt S1 R1
theorem den_retN : PS X (.Return none pos) (tS T W sRetN) := imp_s ps_retN fun Dn σ H h => by
  obtain ⟨mu, M, rho, S, E, h⟩ := h
  exact OkS.rt S Rep.non_mk h
theorem den_expr (he : PE X e (tV T W fe)) (hs : swapsWith e none pos.line X.env = pure false) : PS X (.Expr e pos) (tS T W (sExpr fe)) := imp_s (ps_expr he hs) fun Dn σ H h => by
  obtain ⟨mu, M, rho, S, E, h⟩ := h
  exact sWith_ok (rel := Rep T) S E h fun mu1 M1 d v H1 S1 E1 G1 R1 h1 => h1.nx S1 E1
theorem den_if {c : Expr} {a b : List Stmt} {fc : EvT} (hc : PT X c (tB T W fc)) (ha : PSs X a (tS T W f)) (hb : PSs X b (tS T W g)) : PS X (.If c a b pos) (tS T W (sIf fc f g)) := imp_s (ps_if hc ha hb) fun Dn σ H h => by
  obtain ⟨mu, M, rho, S, E, h⟩ := h
  refine sWith_ok (rel := relB) S E h fun mu1 M1 d v H1 S1 E1 G1 R1 h1 => ?_
  cases (show d = v from R1)
  cases d with
  | true => exact ⟨mu1, M1, rho, S1, E1, h1⟩
  | false => exact ⟨mu1, M1, rho, S1, E1, h1⟩
theorem asg_ok {t : Tgt} {Dn : Ends} {σ : St} {H : Hp} (h : tS T W (sAsg t fe) Dn σ H) : tAsg (tV T W fe) (gT T.K t) Dn σ H := by
  obtain ⟨mu, M, rho, S, E, h⟩ := h
  refine sWith_ok (rel := Rep T) S E h fun mu1 M1 d v H1 S1 E1 G1 R1 h1 => ?_
  split at h1
  · rename_i r eb
    exact gT_ok E1 R1 eb fun σ' E' _ => h1.nx S1 E'
  · exact h1.elim
theorem den_asg {tg : Expr} {t : Tgt} (he : PE X e (tV T W fe)) (hg : PG X tg (gT T.K t)) (hs : swapsWithSole [tg] e pos.line X.env = pure false) (hw : swappedStores [tg] e X.env = pure none)
    (h1 : (assignEach [tg] X.env).map (·.2) = [assign tg X.env]) : PS X (.Assign [tg] e pos) (tS T W (sAsg t fe)) := imp_s (ps_asg he hg hs hw h1) fun Dn σ H h => asg_ok h
/-- name = [.. for ..], the list stored ahead of the variables' end -/
theorem den_asgLc {i : Nat} {y : Str} {py : Pos} {elt tg iter : Expr} {ifs : List Expr} {scope : Scope} {own : List (Str × Nat)} {pos spos : Pos} {fs : EvI} {t : Tgt} {fc : EvT} {fe : EvE} {tt : TT} (G : Gd X T n)
    (hy : X.N[i]? = some y) (hyl : X.env.scope.names.lookup y = some .local) (hsw : swapsWith (.ListComp elt [⟨tg, iter, ifs, 0⟩] scope pos) (some (.Name y py)) spos.line X.env = pure true)
    (hi : PI X tg iter (tI T W fs)) (ok : BlkOk X.N X.env.scope scope own)
    (hg : ∀ (s : Shared) (H : Hp) (C : Addr) (cl : List (Str × Addr)) (fp : List Addr), PG (X.blk s H scope (compEnvC scope cl C X.env) fp) tg (gT T.K t))
    (ht : ∀ (s : Shared) (H : Hp) (C : Addr) (cl : List (Str × Addr)) (fp : List Addr), PTs (X.blk s H scope (compEnvC scope cl C X.env) fp) ifs tt) (htt : ∀ σ H Q, tB T W0 fc σ H Q → tt σ H Q)
    (he : ∀ (s : Shared) (H : Hp) (C : Addr) (cl : List (Str × Addr)) (fp : List Addr), PE (X.blk s H scope (compEnvC scope cl C X.env) fp) elt (tV T W0 fe)) (hs : ∀ x, foldedSetIterable iter X.env x = pure x) (hvs : ∀ i ∈ t.slots, i ∈ own.map (·.2)) :
    PS X (.Assign [.Name y py] (.ListComp elt [⟨tg, iter, ifs, 0⟩] scope pos) spos) (tS T W (sAsg (.nm i) (eLc fs t (own.map (·.2)) fc fe))) := by
  refine imp_s (ps_setLc G.calm G.nd hy hyl hsw hi ok hg ht he hs) fun Dn σ H h => ?_
  obtain ⟨mu, M, rho, S, E, h⟩ := h
  have h2 : tV T W (eLc fs t (own.map (·.2)) fc fe) σ H (fun x H1 => gName i x σ H1 Dn.nx) :=
    sWith_ok (rel := Rep T) S E h fun mu1 M1 d v H1 S1 E1 G1 R1 h1 => h1.nx S1 (E1.set R1)
  obtain ⟨mu0, M0, rho0, S0, E0, h0⟩ := h2
  refine tG.intro S0 E0 ?_
  simp only [eLc] at h0
  cases e : fs rho0 M0 with
  | bad => rw [e] at h0; exact h0
  | exc x M1 => rw [e] at h0; exact h0
  | ok src M1 =>
    rw [e] at h0
    intro mu1 H1 J S1 G1 R1
    exact lc_ok S1 (E0.mono G1) R1 hvs htt (fun _ _ _ q => q) (OkG.later G1 h0)
theorem for_ok {src : Src} {J : It} {t : Tgt} {body : EvS} {Dn : Ends} {σ : St} {H : Hp} {mu : List Addr} {M : Mem} {rho : EnvD} (S : Sim T mu M H) (E : EnvR T mu H rho σ) (R : SrcR T mu H src J)
    (h : OkS T W Dn mu H (forLoop src t body src.items rho M)) :
    ∃ Wv : Nat → Nat → St → Hp → Prop, (∃ m, Wv 0 m σ H) ∧ ∀ i m σ H, Wv i m σ H →
      (J.stop i H ∧ Dn.nx σ H) ∨ (J.go i H ∧ ∃ N : St → Hp → Prop, (∀ σ' H', N σ' H' → ∃ m', m' < m ∧ Wv (i + 1) m' σ' H') ∧ ∀ x H', J.yld i H x H' → gT T.K t x σ H' fun σ2 H2 => tS T W body { Dn with nx := N, ct := N, bk := Dn.nx } σ2 H2) := by
  refine ⟨fun i m σ1 H1 => m = src.items.length - i ∧ i ≤ src.items.length ∧ ∃ mu1 M1 rho1, Sim T mu1 M1 H1 ∧ Grow T mu H mu1 H1 ∧ EnvR T mu1 H1 rho1 σ1 ∧ OkS T W Dn mu H (forLoop src t body (src.items.drop i) rho1 M1),
    ⟨src.items.length, by simp, Nat.zero_le _, mu, M, rho, S, Grow.refl, E, by simpa using h⟩, ?_⟩
  rintro i m σ1 H1 ⟨rfl, hi, mu1, M1, rho1, S1, G1, E1, h1⟩
  by_cases hlt : i < src.items.length
  · right
    have ed : src.items.drop i = src.items[i] :: src.items.drop (i + 1) := List.drop_eq_getElem_cons hlt
    rw [ed] at h1
    simp only [forLoop] at h1
    split at h1
    · rename_i st
      obtain ⟨go, v, rv, hy⟩ := src_go S1 (R.mono G1) st (List.getElem?_eq_getElem hlt)
      refine ⟨go, fun σ' H' => i + 1 ≤ src.items.length ∧ ∃ mu1 M1 rho1, Sim T mu1 M1 H' ∧ Grow T mu H mu1 H' ∧ EnvR T mu1 H' rho1 σ' ∧ OkS T W Dn mu H (forLoop src t body (src.items.drop (i + 1)) rho1 M1),
        fun σ' H' hN => ⟨_, by omega, rfl, hN.1, hN.2⟩, fun x H' y => ?_⟩
      obtain ⟨rfl, rfl⟩ := hy x H' y
      split at h1
      · exact h1.elim
      · rename_i r eb
        refine gT_ok E1 rv eb fun σ2 E2 _ => ⟨mu1, M1, r, S1, E2, ?_⟩
        cases ebd : body r M1 with
        | bad => rw [ebd] at h1; exact h1.elim
        | exc x q M2 => rw [ebd] at h1; exact h1.later G1
        | ok k M2 =>
          rw [ebd] at h1
          cases k with
          | nx q => exact fun mu' H' σ' S' G' E' => ⟨hlt, mu', M2, q, S', G1.trans G', E', h1⟩
          | ct q => exact fun mu' H' σ' S' G' E' => ⟨hlt, mu', M2, q, S', G1.trans G', E', h1⟩
          | bk q => exact h1.later G1
          | rt d => exact h1.later G1
    · exact h1.elim
  · left
    have e : i = src.items.length := by omega
    subst e
    rw [List.drop_length] at h1
    simp only [forLoop] at h1
    split at h1
    · rename_i st
      exact ⟨src_stop S1 (R.mono G1) st (Nat.le_refl _), (h1.later G1).nx S1 E1⟩
    · exact h1.elim
theorem den_for {tg iter : Expr} {t : Tgt} {fs : EvI} {body : List Stmt} (G : Gd X T n) (hp : PassesOwn (model X.prog X.w) X.A X.env X.xe) (hi : PI X tg iter (tI T W fs)) (hg : PG X tg (gT T.K t)) (hb : PSs X body (tS T W f))
    (hs : ∀ x, foldedSetIterable iter X.env x = pure x) : PS X (.For tg iter body [] pos) (tS T W (sFor fs t f)) := by
  refine imp_s (ps_for hp G.calm hi hg hb hs) fun Dn σ H h => ?_
  obtain ⟨mu, M, rho, S, E, h⟩ := h
  exact sWith_ok (rel := SrcR T) S E h fun mu1 M1 src J H1 S1 E1 G1 R1 h1 => for_ok S1 E1 R1 h1
theorem den_while {c : Expr} {body : List Stmt} {fc : EvT} {k : Nat} (hp : PassesOwn (model X.prog X.w) X.A X.env X.xe) (hc : PT X c (tB T W fc)) (hb : PSs X body (tS T W f)) : PS X (.While c body [] pos) (tS T W (whileLoop fc f k)) := by
  refine imp_s (ps_while hp hc hb) fun Dn σ H h => ?_
  obtain ⟨mu, M, rho, S, E, h⟩ := h
  refine ⟨fun m σ1 H1 => ∃ mu1 M1 rho1, Sim T mu1 M1 H1 ∧ Grow T mu H mu1 H1 ∧ EnvR T mu1 H1 rho1 σ1 ∧ OkS T W Dn mu H (whileLoop fc f m rho1 M1), ⟨k, mu, M, rho, S, Grow.refl, E, h⟩, ?_⟩
  rintro m σ1 H1 ⟨mu1, M1, rho1, S1, G1, E1, h1⟩
  cases m with
  | zero => exact h1.elim
  | succ m =>
    simp only [whileLoop] at h1
    refine tG.intro S1 E1 ?_
    cases ec : fc rho1 M1 with
    | bad => rw [ec] at h1; exact h1
    | exc x M2 => rw [ec] at h1; exact fun mu2 H2 cl d S2 G2 R2 => h1 mu2 H2 σ1 cl d S2 (G1.trans G2) (E1.mono G2) R2
    | ok b M2 =>
      rw [ec] at h1
      intro mu2 H2 b' S2 G2 eb
      cases (show b = b' from eb)
      cases b with
      | false =>
        simp only [Bool.false_eq_true, if_false]
        exact (h1.later (G1.trans G2)).nx S2 (E1.mono G2)
      | true =>
        simp only [if_true]
        refine ⟨fun σ' H' => ∃ mu1 M1 rho1, Sim T mu1 M1 H' ∧ Grow T mu H mu1 H' ∧ EnvR T mu1 H' rho1 σ' ∧ OkS T W Dn mu H (whileLoop fc f m rho1 M1), fun σ' H' hN => ⟨m, Nat.lt_succ_self _, hN⟩, mu2, M2, rho1, S2, E1.mono G2, ?_⟩
        have G02 := G1.trans G2
        cases ebd : f rho1 M2 with
        | bad => simp only [ebd] at h1; exact h1.elim
        | exc x q M3 => simp only [ebd] at h1; exact h1.later G02
        | ok kk M3 =>
          simp only [ebd] at h1
          cases kk with
          | nx q => exact fun mu' H' σ' S' G' E' => ⟨mu', M3, q, S', G02.trans G', E', h1⟩
          | ct q => exact fun mu' H' σ' S' G' E' => ⟨mu', M3, q, S', G02.trans G', E', h1⟩
          | bk q => exact h1.later G02
          | rt d => exact h1.later G02
theorem putK_ok {mu : List Addr} {H : Hp} {k : Key} {d : D} {v : V} {ks : List Key} {vs : List D} {ws : List V} (hl : ks.length = ws.length) (r : RepL T mu H vs ws) (rv : Rep T mu H d v) :
    ∃ ws', putK (ks.zip ws) k v = (oPut.dputK ks vs k d).1.zip ws' ∧ (oPut.dputK ks vs k d).1.length = ws'.length ∧ RepL T mu H (oPut.dputK ks vs k d).2 ws' := by
  have anyE : ∀ {ks : List Key} {ws : List V}, ks.length = ws.length → ((ks.zip ws).any fun kv => decide (kv.1 = k)) = ks.any fun a => decide (a = k) := by
    intro ks
    induction ks with
    | nil => intro ws _; simp
    | cons a ks ih =>
      intro ws h
      cases ws with
      | nil => simp at h
      | cons w ws => simp only [List.zip_cons_cons, List.any_cons]; rw [ih (by simpa using h)]
  unfold oPut.dputK putK
  rw [anyE hl]
  by_cases c : (ks.any fun a => decide (a = k)) = true
  · rw [if_pos c, if_pos c]
    refine ⟨List.zipWith (fun a w => if a = k then v else w) ks ws, ?_, by simp [hl], ?_⟩
    · have : ∀ {ks : List Key} {ws : List V}, ks.length = ws.length → (ks.zip ws).map (fun kv => if kv.1 = k then (kv.1, v) else kv) = ks.zip (List.zipWith (fun a w => if a = k then v else w) ks ws) := by
        intro ks
        induction ks with
        | nil => intro ws _; simp
        | cons a ks ih =>
          intro ws h
          cases ws with
          | nil => simp at h
          | cons w ws =>
            simp only [List.zip_cons_cons, List.map_cons, List.zipWith_cons_cons]
            rw [ih (by simpa using h)]
            by_cases e : a = k <;> simp [e]
      exact this hl
    · have : ∀ {ks : List Key} {vs : List D} {ws : List V}, RepL T mu H vs ws → RepL T mu H (List.zipWith (fun a x => if a = k then d else x) ks vs) (List.zipWith (fun a w => if a = k then v else w) ks ws) := by
        intro ks
        induction ks with
        | nil => intro vs ws _; simpa using RepL.nil
        | cons a ks ih =>
          intro vs ws h
          cases vs with
          | nil => rw [h.inv_nil]; simpa using RepL.nil
          | cons x vs =>
            obtain ⟨w, u, rfl, p, q⟩ := h.inv_cons
            simp only [List.zipWith_cons_cons]
            refine RepL.cons ?_ (ih q)
            by_cases e : a = k
            · simp only [e, if_true]; exact rv
            · simp only [e, if_false]; exact p
      exact this r
  · rw [if_neg c, if_neg c]
    refine ⟨ws ++ [v], ?_, by simp [hl], r.append (RepL.cons rv RepL.nil)⟩
    rw [List.zip_append hl]
    rfl
theorem set_o (G : Gd X T n) : PSet X (fun o i v H Q => ∃ mu M a b c, Sim T mu M H ∧ Rep T mu H a o ∧ Rep T mu H b i ∧ Rep T mu H c v ∧ ∃ M', oPut a b c M = some M' ∧ ∀ mu' H', Sim T mu' M' H' → Grow T mu H mu' H' → Q H') := by
  intro pins s σ H o i v ov iv u Q I ro ri rv ⟨mu, M, a, b, c, S, ra, rb, rc, M', h, q⟩
  unfold oPut at h
  split at h
  · rename_i l
    obtain ⟨p, hp, rfl⟩ := ra.loc_inv
    have hpm := List.mem_of_getElem? hp
    split at h
    · rename_i xs e
      obtain ⟨vs, hv, rl⟩ := S.lst e hp
      split at h
      · rename_i k
        cases rb.int_inv
        simp only [Option.map_eq_some_iff] at h
        obtain ⟨j, hj, rfl⟩ := h
        refine set_list pins s σ H _ _ v ov iv u Q I ro ri rv ⟨p, vs, k, j, rfl, rfl, hv, by rw [← rl.length]; exact hj, ?_⟩
        have g : Grow T mu H mu (upd H p (.lst (vs.set j v))) := Grow.write (ob := .lst xs) hpm ⟨vs, hv, rl⟩
        exact q mu _ (S.write (ob' := .lst (xs.set j c)) e hp ⟨_, upd_same, (rl.set j rc).mono g⟩) g
      · cases h
    · rename_i ks vs e
      obtain ⟨ws, hw, hl, rl⟩ := S.dct e hp
      split at h
      · rename_i k hk
        have ek := key_ok hk rb
        subst ek
        split at h
        · rename_i hz
          cases h
          obtain ⟨ws', e1, e2, e3⟩ := putK_ok (k := k) hl rl rc
          obtain rfl : ov = Value.ref p := ro
          have hu : X.A.units + 1 < cLine := by have := G.room.un; omega
          have hlen : (ks.zip ws).length < sizeLine := by rw [lim_eq, List.length_zip, ← hl, Nat.min_self]; exact hz.1
          have g : Grow T mu H mu (upd H p (.dK (putK (ks.zip ws) k v))) := Grow.write (ob := .dct ks vs) hpm ⟨ws, hw, hl, rl⟩
          refine d_setItem hu I (DPut.k hw hlen) ri rv fun s' I' => ⟨_, I', q mu _ (S.write (ob' := .dct (oPut.dputK ks vs k c).1 (oPut.dputK ks vs k c).2) e hp ⟨ws', by rw [upd_same, e1], e2, e3.mono g⟩) g⟩
        · cases h
      · cases h
    · cases h
  · cases h
theorem den_put {o i : Expr} {fo fi : EvE} {pos' : Pos} (G : Gd X T n) (he : PE X e (tV T W fe)) (ho : PE X o (tV T W fo)) (hi : PE X i (tV T W fi))
    (ha : ∀ v, assign (.Subscript o i pos') X.env v = (do
      let ov ← holding [v] (eval o X.env)
      let iv ← holding [v, ov] (eval i X.env)
      standAt pos'
      holding [v, ov, iv] (setItem ov iv v)
      release [v, ov, iv] []))
    (hs : swapsWithSole [.Subscript o i pos'] e pos.line X.env = pure false) (hw : swappedStores [.Subscript o i pos'] e X.env = pure none)
    (h1 : (assignEach [.Subscript o i pos'] X.env).map (·.2) = [assign (.Subscript o i pos') X.env]) : PS X (.Assign [.Subscript o i pos'] e pos) (tS T W (sPut fo fi fe)) := by
  refine imp_s (ps_asg he (pg_sub ho hi (set_o G) ha) hs hw h1) fun Dn σ H h => ?_
  obtain ⟨mu, M, rho, S, E, h⟩ := h
  have h' : tG T (fun _ _ _ _ => True) W (fun rho M => (fe rho M).bind fun v M1 => (fo rho M1).bind fun x M2 => (fi rho M2).bind fun y M3 => match oPut x y v M3 with
    | some M4 => .ok () M4
    | none => .bad) σ H (fun (_ : Unit) H1 => Dn.nx σ H1) := sWith_ok S E h fun mu1 M1 _ _ H1 S1 E1 G1 _ h1 => h1.nx S1 E1
  obtain ⟨mu0, M0, rho0, S0, E0, h0⟩ := h'
  refine step1 S0 E0 h0 fun mu1 M1 d v H1 S1 E1 G1 R1 h1 => ?_
  refine step1 S1 E1 h1 fun mu2 M2 d2 v2 H2 S2 E2 G2 R2 h2 => ?_
  refine step1 S2 E2 h2 fun mu3 M3 d3 v3 H3 S3 E3 G3 R3 h3 => ?_
  split at h3
  · rename_i M4 e4
    exact ⟨mu3, M3, d2, d3, d, S3, R2.mono G3, R3, (R1.mono G2).mono G3, M4, e4, fun mu' H' S' G' => h3 mu' H' () S' G' trivial⟩
  · exact h3.elim
end
end VI
namespace VI
open PySem PySem.Spec L2

/-! ### calls of the text's own defs -/
abbrev CF := Nat → List D → Mem → Res D
def OkF (T : Tab) (Q : VK) (E : XK) (mu : List Addr) (H : Hp) : Res D → Prop
  | .ok d M' => ∀ mu' H' v, Sim T mu' M' H' → Grow T mu H mu' H' → Rep T mu' H' d v → Q v H'
  | .exc x M' => ∀ mu' H' cls dd, Sim T mu' M' H' → Grow T mu H mu' H' → ExR T mu' H' x cls dd → E cls dd H'
  | .bad => False
def spI (T : Tab) (m : Nat) (g : List D → Mem → Res D) : Sp := fun vs H Q E => ∃ mu M ds, Sim T mu M H ∧ RepL T mu H ds vs ∧ ds.length = m ∧ OkF T Q E mu H (g ds M)
structure FnG (P : Program) (w : World) (mg : Str → Option Value) (base : Heap) (T : Tab) (n k : Nat) (g : List D → Mem → Res D) : Prop where
  run : ∀ (A : Around) (outer : List Env) (s : Shared) (H : Hp) (args : Args) (us : List Value) (vs : List V) (Q : VK) (E : XK), Room n A → A.guards = some [] → Env0 P w T.K mg base A outer s H →
    BindsTo s (T.fd k) args ((T.ps k).zip us) → Vals vs us → spI T (T.ps k).length g vs H Q E → codeAny (model P w) A (.call (.ref (T.fa k)) args) (CR (L2.CX P w) outer P w H s Q E) s
theorem FnG.mono {P : Program} {w : World} {mg : Str → Option Value} {base : Heap} {T : Tab} {n m k : Nat} {g : List D → Mem → Res D} (F : FnG P w mg base T n k g) (h : n ≤ m) : FnG P w mg base T m k g :=
  ⟨fun A outer s H args us vs Q E hr => F.run A outer s H args us vs Q E (hr.mono h)⟩
def eCall (g : List D → Mem → Res D) (a : EvA) : EvE := fun rho M => (a rho M).bind g
def runBody (body : EvS) (m : Nat) (ds : List D) (M : Mem) : Res D := match body (ds.map some ++ List.replicate (m - ds.length) none) M with
  | .ok (.nx _) M1 => .ok .non M1
  | .ok (.rt d) M1 => .ok d M1
  | .exc x _ M1 => .exc x M1
  | _ => .bad
def GdOk (T : Tab) (w : World) : Prop := ∀ k, T.gt k ≠ [] → (∃ es n, KDict T.K w (T.ga k) es n) ∧ ∀ z, match (T.gt k).lookup z with
    | none => PySem.W.nsIn T.K (T.ga k) z = some none
    | some d => ∃ u v, PySem.W.nsIn T.K (T.ga k) z = some (some u) ∧ RelV v u ∧ ∀ mu H, Rep T mu H d v
section
variable {X : Cx} {T : Tab} {n k : Nat} {W : WX} {g : List D → Mem → Res D}
theorem OkF.of {σ : St} {Q : V → Hp → Prop} {mu : List Addr} {H : Hp} {r : Res D} (h : OkG T (Rep T) W σ Q mu H r) : OkF T Q (fun c d H' => W c d σ H') mu H r := by
  cases r with
  | ok d M => exact h
  | exc x M => exact h
  | bad => exact h
/-- the callee runs -/
theorem run_g {pins : List (Addr × Obj)} {σ : St} {H : Hp} {s : Shared} {Q : VK} {us ds : List Value} {vs dvs : List V} (G : Gd X T n) (F : FnG X.prog X.w X.mg X.base T n k g) (tk : Takes X W) (hb : Binds X.K (T.fd k) (T.ps k) ds) (hd : Vals dvs ds)
    (I : Inv X pins σ H s) (r : Vals vs us) (h : spI T (T.ps k).length g (vs ++ dvs) H Q (fun c d H' => W c d σ H')) : wpAny (model X.prog X.w) X.A (call (.ref (T.fa k)) us) (EP X pins σ Q) X.xe s := by
  have r2 : Vals (vs ++ dvs) (us ++ ds) := r.append hd
  have hl : (us ++ ds).length = (T.ps k).length := by
    obtain ⟨mu, M, as, S, ra, hn, _⟩ := h
    rw [← r2.length, ← ra.length]; exact hn
  have e0 : Env0 X.prog X.w T.K X.mg X.base X.A X.stack s H := by rw [← G.K]; exact I.env0
  refine wpAny_call (codeAny_mono (F.run X.A X.stack s H ⟨us, []⟩ (us ++ ds) (vs ++ dvs) Q _ G.room G.guards e0 (hb s us I.kIn hl) r2 h) fun r s' hq => ?_)
  cases r with
  | error e => exact passAt tk σ pins H s e s' I hq
  | ok fl =>
    cases fl with
    | ret u => exact I.after hq
    | next => exact hq.elim
    | brk => exact hq.elim
    | cont => exact hq.elim
theorem den_call {x : Str} {p pos : Pos} {e : Expr} {es : List Expr} {la : EvA} {dds : List D} {dvs : List V} {ds : List Value} (G : Gd X T n) (F : FnG X.prog X.w X.mg X.base T n k g) (tk : Takes X W) (hg : Gl X x) (hm : X.mg x = some (.ref (T.fa k)))
    (hk : PySem.W.keepIn X.K (.ref (T.fa k)) = true) (hb : Binds X.K (T.fd k) (T.ps k) ds) (hd : Vals dvs ds) (hr : ∀ mu H, RepL T mu H dds dvs) (ha : PA X (e :: es) (tL T W la)) (hl : (e :: es).length + dds.length = (T.ps k).length)
    (hlen : ∀ rho M ds M', la rho M = .ok ds M' → ds.length = (e :: es).length)
    (hdb : (x == ("__debug__" : Str)) = false) (he : starEach (e :: es) X.env = (false, eval e X.env) :: starEach es X.env) (hpl : (backTo pos (starEach es X.env)).any (·.1) = false) :
    PE X (.Call (.Name x p) (e :: es) [] pos) (tV T W (eCall (fun as M => g (as ++ dds) M) la)) := by
  refine ⟨fun pins s σ H Q I h => ?_⟩
  refine wpAny_Call_Name_kw (ld_glob I hg hm ?_ hdb)
  have ht : tL T W la σ H (fun vs H1 => ∃ mu1 M1 as, Sim T mu1 M1 H1 ∧ RepL T mu1 H1 as vs ∧ as.length = (e :: es).length ∧ OkG T (Rep T) W σ Q mu1 H1 (g (as ++ dds) M1)) := by
    obtain ⟨mu, M, rho, S, E, h⟩ := h
    refine tG.intro S E ?_
    simp only [eCall] at h
    cases ea : la rho M with
    | bad => rw [ea] at h; exact h
    | exc y M1 => rw [ea] at h; exact h
    | ok as M1 =>
      rw [ea] at h
      exact fun mu1 H1 y S1 G1 R1 => ⟨mu1, M1, as, S1, R1, hlen _ _ _ _ ea, OkG.later G1 h⟩
  refine PySem.W.callWith_K (h₀ := X.base) I.ok.mod.kin hk (thn (ha.run pos pins s σ H _ I ht) fun us s1 hu => ?_) he hpl
  obtain ⟨vs, H1, I1, r, mu1, M1, as, S1, R1, hn, h1⟩ := hu
  refine ⟨I1.kIn, ?_⟩
  exact run_g G F tk hb hd I1 r ⟨mu1, M1, as ++ dds, S1, R1.append (hr _ _), by rw [List.length_append, hn]; exact hl, OkF.of h1⟩
/-- without arguments -/
theorem den_call0 {x : Str} {p pos : Pos} {dds : List D} {dvs : List V} {ds : List Value} (G : Gd X T n) (F : FnG X.prog X.w X.mg X.base T n k g) (tk : Takes X W) (hg : Gl X x) (hm : X.mg x = some (.ref (T.fa k)))
    (hk : PySem.W.keepIn X.K (.ref (T.fa k)) = true) (hb : Binds X.K (T.fd k) (T.ps k) ds) (hd : Vals dvs ds) (hr : ∀ mu H, RepL T mu H dds dvs) (hl : dds.length = (T.ps k).length)
    (hdb : (x == ("__debug__" : Str)) = false) :
    PE X (.Call (.Name x p) [] [] pos) (tV T W (eCall (fun as M => g (as ++ dds) M) eANil)) := by
  refine ⟨fun pins s σ H Q I h => ?_⟩
  refine wpAny_Call_Name_kw (ld_glob I hg hm ?_ hdb)
  obtain ⟨mu, M, rho, S, E, h⟩ := h
  exact PySem.W.callWith_K0 I.kIn hk (run_g (vs := []) (us := []) G F tk hb hd I .nil ⟨mu, M, dds, S, hr _ _, hl, OkF.of h⟩)
end
section
variable {P : Program} {w : World} {mg : Str → Option Value} {base : Heap} {T : Tab} {n k : Nat}
theorem start_ok {T : Tab} {mu : List Addr} {H : Hp} {N : List Str} {ds : List D} {vs : List V} (r : RepL T mu H ds vs) : EnvR T mu H (ds.map some ++ List.replicate (N.length - ds.length) none) (L2.start N vs) := by
  unfold L2.start
  have hl := r.length
  refine ⟨by simp [hl], fun i d e => ?_⟩
  by_cases hi : i < ds.length
  · rw [List.getElem?_append_left (by simpa using hi), List.getElem?_map] at e
    cases ed : ds[i]? with
    | none => rw [ed] at e; cases e
    | some d' =>
      rw [ed] at e
      simp only [Option.map_some, Option.some.injEq] at e
      subst e
      obtain ⟨v, hv, rv⟩ := r.get ed
      exact ⟨v, by rw [List.getElem?_append_left (by rw [List.length_map, ← hl]; exact hi), List.getElem?_map, hv]; rfl, rv⟩
  · rw [List.getElem?_append_right (by simpa using hi), List.getElem?_replicate] at e
    split at e <;> cases e
/-- a def by its body -/
theorem fn_body {name qual : Str} {params : Arguments} {body : List Stmt} {scope : Scope} {dV kV doc pm cdv ct oc : Value} {an od : Option Addr} {osl : Array (Option Value)} {N : List Str} {sem : EvS}
    (lk : T.K.lookup (T.fa k) = some ⟨oc, od, .func (T.fd k), osl⟩) (hfd : T.fd k = PySem.W.fnOf name qual params body scope dV kV doc pm an cdv ct) (hcd : PySem.W.codeIn T.K cdv qual = true) (S : FnScope N (T.ps k) scope)
    (hbody : ∀ (A : Around) (outer : List Env) (s : Shared) (H : Hp) (E : XK), Gd (cxOf (L2.CX P w) P w T.K mg base N qual scope (T.fa k) cdv A outer s H E) T n →
      PSs (cxOf (L2.CX P w) P w T.K mg base N qual scope (T.fa k) cdv A outer s H E) body (tS T (fun c d _ H => E c d H) sem)) (gdk : GdOk T w) :
    FnG P w mg base T (n + 1) k (runBody sem N.length) := by
  refine ⟨fun A outer s H args us vs Q E hr hgd e0 hb r hsp => ?_⟩
  obtain ⟨mu, M, ds, Sm, ra, hn, h⟩ := hsp
  have hl : vs.length = (T.ps k).length := by rw [← ra.length]; exact hn
  rw [hfd] at lk hb
  refine LamX.run_ofS lk hcd S hr e0 hb r hl fun hr' => ⟨_, hbody A outer s H E ⟨rfl, rfl, hr', hgd, S.nd, gdk⟩, mu, M, _, Sm, start_ok ra, ?_⟩
  unfold runBody at h
  generalize hrs : sem (ds.map some ++ List.replicate (N.length - ds.length) none) M = rs at h
  cases rs with
  | bad => exact h
  | exc x rho M1 => exact fun mu' H' σ' c d S' G' _ X' => h mu' H' c d S' G' X'
  | ok f M1 =>
    cases f with
    | nx rho => exact fun mu' H' σ' S' G' _ => h mu' H' .non S' G' Rep.non_mk
    | rt d => exact h
    | bk rho => exact h.elim
    | ct rho => exact h.elim
end
end VI
namespace VI
open PySem PySem.Spec L2

/-! ### an exception caught, and kept by a name beyond the suite -/
def ExcV (cls : Value) (dd : Option Addr) (a : Addr) : HO := .ext fun h => ∃ oe vs, h.get? a = some oe ∧ oe.cls = cls ∧ oe.dict = dd ∧ oe.data = .fields vs
section
variable {X : Cx} {pins : List (Addr × Obj)} {σ : L2.St} {H : Hp} {s : Shared}
theorem inv_track {a : Addr} {oe : Obj} {fv : Array Value} (I : Inv X ((a, oe) :: pins) σ H s) (hd : oe.data = .fields fv) (h0 : X.s_0.heap.get? a = none) (hp : ∀ p ∈ X.pn ++ pins, p.1 ≠ a) :
    Inv X pins σ (upd H a (ExcV oe.cls oe.dict a)) s := by
  obtain ⟨ha, na, nL, nF, _⟩ := I.pin (a, oe) (List.mem_append_right _ List.mem_cons_self)
  have off : ∀ {b : Addr} {u : HO}, H b = some u → b ≠ a := fun {b u} e => ne_of_none e na
  have offO : ∀ {b : Addr} {o : Obj}, X.s_0.heap.get? b = some o → b ≠ a := fun {b o} e z => by rw [z, h0] at e; cases e
  refine ⟨I.ok, I.os, I.bare, ⟨I.base.keep, I.base.slot, fun b o e n hx => ?_, I.base.there, fun b xs e => ?_, fun b o u e => ?_, fun b ps e => ?_⟩, I.loc, I.cell, ?_, fun x c e => ?_, fun p hq => ?_, fun b u e => ?_, I.len⟩
  · rw [upd_ne (offO e)]; exact I.base.free b o e n hx
  · have q := I.base.tups b xs e
    rw [upd_ne (off q)]; exact q
  · have q := I.base.frzs b o u e
    rw [upd_ne (off q)]; exact q
  · obtain ⟨more, q⟩ := I.base.tbls b ps e
    exact ⟨more, by rw [upd_ne (off q)]; exact q⟩
  · rw [upd_ne (Ne.symm nL)]; exact I.free
  · rw [upd_ne fun z => ?_]
    · exact I.freeC x c e
    · obtain ⟨v, o, ho, hod⟩ := I.cell x c e
      rw [z, ha] at ho; cases ho; rw [hd] at hod; cases hod
  · have hm : p ∈ X.pn ++ ((a, oe) :: pins) := (List.mem_append.mp hq).elim (fun z => List.mem_append_left _ z) fun z => List.mem_append_right _ (List.mem_cons_of_mem _ z)
    obtain ⟨e1, e2, e3, e4, e5⟩ := I.pin p hm
    exact ⟨e1, by rw [upd_ne (hp p hq)]; exact e2, e3, e4, e5⟩
  · by_cases hb : b = a
    · subst hb
      rw [upd_same] at e
      cases e
      refine ⟨⟨oe, fv, ha, rfl, rfl, hd⟩, ⟨oe, ha⟩, fun h1 h2 ⟨o, vs, p1, p2, p3, p4⟩ st => ⟨o, vs, st _ p1, p2, p3, p4⟩⟩
    · rw [upd_ne hb] at e
      refine (I.hok b u e).stay (fun c v _ q => q) (fun c q => ?_) fun c xs q => ?_
      · rw [upd_ne (off q)]; exact q
      · rw [upd_ne (off q)]; exact q
theorem unsuite_keep {a : Addr} {oe : Obj} (I : Inv (X.suite a ((a, oe) :: (X.pn ++ pins))) [] σ H s) (ok : X.Ok) : Inv X ((a, oe) :: pins) σ H s :=
  ⟨ok, I.os, I.bare, I.base, I.loc, I.cell, I.free, I.freeC, fun p hp => I.pin p (by
    rw [List.append_nil]
    rcases List.mem_append.mp hp with z | z
    · exact List.mem_cons_of_mem _ (List.mem_append_left _ z)
    · rcases List.mem_cons.mp z with z | z
      · rw [z]; exact List.mem_cons_self
      · exact List.mem_cons_of_mem _ (List.mem_append_right _ z)), I.hok, I.len⟩
end
/-- what the clause 'except x as n: y = n' wishes of an exception of the body; slots i of n, j of y -/
def wKeep (K : PySem.W.Frag) (c : Value) (i j : Nat) (Wout : WX) (D : Ends) : WX := fun cls d σ H =>
  ∃ b, PySem.W.exmOne K cls c = some b ∧ (b = true → ∀ a, H a = none → D.nx ((σ.set i (some (.ref a))).set j (some (.ref a)) |>.set i none) (upd H a (ExcV cls d a))) ∧ (b = false → Wout cls d σ H)
section
variable {X : Cx} {x n y : Str} {c : Value} {i j : Nat} {body : List Stmt} {np pn pa pv pos pos' : Pos} {tb : WX → TS} {Wout : WX}
theorem ps_try_keep (hex : X.ex = []) (hs : X.stack = X.env :: X.outer) (hf : X.env.frame = some X.env.locals) (hN : X.N.Nodup) (hi : X.N[i]? = some n) (hj : X.N[j]? = some y) (hln : X.env.kindOf n = some .local) (hly : X.env.kindOf y = some .local) (hc : Names X x c) (tk : Takes X Wout)
    (hdn : (n == ("__debug__" : Str)) = false) (hdc : (n == ("__classdict__" : Str)) = false)
    (hb : ∀ (W : WX) (pn : List (Addr × Obj)) (xe : Value → Shared → Prop), Takes (X.tr pn xe) W → PassesOwn (model X.prog X.w) X.A X.env xe → PSs (X.tr pn xe) body (tb W)) :
    PS X (.Try body [.ExceptHandler (some (.Name x np)) (some n) [.Assign [.Name y pn] (.Name n pv) pa] pos'] [] [] pos) (fun D σ H => tb (wKeep X.K c i j Wout D) D σ H) := by
  refine ⟨fun pins s σ H D I hyp => ?_⟩
  have ok := I.ok
  have hfr : X.A.frames = some (X.env :: X.outer) := by rw [ok.frames, hs]
  have lcn : Loc X.env.scope n := .inl hln
  have lcy : Loc X.env.scope y := .inl hly
  refine wpAny_Try_except ?_
  refine wpAny_mono ((hb (wKeep X.K c i j Wout D) (X.pn ++ pins) (fun e s₁ => wpAny (model X.prog X.w) X.A (noteFrame e X.env) (fun _ s₂ => wpAny (model X.prog X.w) X.A (setFlight e none) (fun _ s₃ =>
    wpAny (model X.prog X.w) X.A (handleBy e X.env [.ExceptHandler (some (.Name x np)) (some n) [.Assign [.Name y pn] (.Name n pv) pa] pos']) (SP X pins D) X.xe s₃) X.xe s₂) X.xe s₁) (fun u s' xx => ?_) PassesOwn.looking).run [] s σ H D (I.toTry _) hyp) (fun f s1 hsp => ?_) (fun e s1 he => he)
  · obtain ⟨a, B, sI, ps', σa, Ha, cls, d, rfl, Ja, nb, up, sky, na, os, ag, b, hb1, hyes, hno⟩ := xx
    have J : Inv X pins σa Ha sI := Ja.ofTry ok
    have sky2 : Sky B (X.env :: X.outer) a (Zc cls d) X.env.locals s'.heap := by rw [← hs]; exact sky
    show wpAny (model X.prog X.w) X.A (noteFrame (.ref a) X.env) _ _ _
    refine Sky.land Zc.steady hfr hf sky2 fun h3 fl3 up3 => ?_
    have J3 : Inv X pins σa Ha { s' with heap := h3 } := J.landed nb fl3.1 (up.trans up3) os ag
    obtain ⟨oe3, vs3, he3, hz3, hd3⟩ := fl3.there
    have aff : a ∉ frs (X.env :: X.outer) := fun hm => by
      obtain ⟨_, o', e', hnf⟩ := fl3.2.2.1.mem hm
      rw [he3] at e'; cases e'
      exact hnf _ hd3
    have aL : a ≠ X.env.locals := fun z => aff (List.mem_filterMap.mpr ⟨X.env, List.mem_cons_self, by rw [hf, z]⟩)
    have aF : a ∉ X.fs := fun hm => by
      obtain ⟨e, he, q⟩ := List.mem_filterMap.mp hm
      exact aff (List.mem_filterMap.mpr ⟨e, List.mem_cons_of_mem _ he, q⟩)
    have aI : sI.heap.get? a = none := by
      cases q : sI.heap.get? a with
      | none => rfl
      | some o =>
        have z := nb a o q (by rw [hs]; exact aff)
        rw [fl3.2.1] at z; cases z
    have a0 : X.s_0.heap.get? a = none := by
      cases q : X.s_0.heap.get? a with
      | none => rfl
      | some o =>
        obtain ⟨o', e'⟩ := J.base.there a o q (by rw [hex]; simp)
        rw [aI] at e'; cases e'
    have apn : ∀ p ∈ X.pn ++ pins, p.1 ≠ a := fun p hp z => by
      have e := (J.pin p hp).1
      rw [z, aI] at e; cases e
    have S3 := J3.suite he3 hd3 na aL aF
    refine wpAny_handleBy_cons (codeAny_handlers_test ?_) (by intro q; cases q)
    have LT : PySem.W.Looks (model X.prog X.w) h3 (typeOf (.ref a)) cls := fun A Q E s k q => wpAny_typeOf_ref (k _ _ he3) (by rw [hz3.1]; exact q)
    have LM := PySem.W.exm_one (M := model X.prog X.w) (J3.kIn) LT hb1
    have test : ∀ {Q : Value → Shared → Prop} {E : Value → Shared → Prop}, Q c { s' with heap := h3 } → wpAny (model X.prog X.w) (X.A.mark (some (.ref a))) (eval (.Name x np) X.env) Q E { s' with heap := h3 } := fun {Q E} q => by
      obtain ⟨hg, hdbg, hm | ⟨hm, hv, hnn⟩⟩ := hc
      · exact ld_glob (X := X.suite a ((a, oe3) :: (X.pn ++ pins))) S3 hg hm q hdbg
      · exact ld_blt (X := X.suite a ((a, oe3) :: (X.pn ++ pins))) S3 hg hm hv q hnn hdbg
    refine test (LM.here ?_)
    cases b with
    | true =>
      refine codeAny_handlers_suite_as (HandSPX.lands_againZ fl3 fun h4 fl4 up4 => ?_)
      have J4 : Inv X pins σa Ha { s' with heap := h4 } := J.landed nb fl4.1 ((up.trans up3).trans up4) os ag
      obtain ⟨oe4, vs4, he4, hz4, hd4⟩ := fl4.there
      have S4 := J4.suite he4 hd4 na aL aF
      refine store_ok (X := X.suite a ((a, oe4) :: (X.pn ++ pins))) (v := .ref a) S4 hN hi lcn rfl (fun s5 S5 => ?_) (.inr hln)
      have suite : PSs (X.suite a ((a, oe4) :: (X.pn ++ pins))) [.Assign [.Name y pn] (.Name n pv) pa] (tAsg (tVar i) (gName j)) :=
        pss_one (ps_set hN hj lcy (pe_var hi (.inl hln) hdn hdc) rfl (.inr hly))
      have hil : i < σa.length := by rw [J.len]; exact (List.getElem?_eq_some_iff.mp hi).1
      refine wpAny_mono (suite.run [] s5 _ Ha ⟨fun σ6 H6 => σ6 = (σa.set i (some (.ref a))).set j (some (.ref a)) ∧ H6 = Ha, fun _ _ => False, fun _ _ => False, fun _ _ => False⟩ S5 ⟨.ref a, List.getElem?_set_self hil, rfl, rfl⟩) (fun f s6 hsp => ?_) (fun _ _ z => z.elim)
      cases f with
      | next =>
        obtain ⟨σ6, H6, S6, e6, eH⟩ := hsp
        subst e6 eH
        refine gone_ok (unsuite_keep S6 ok) hN hi hln fun s7 J7 => ?_
        have J8 := inv_track J7 hd4 a0 apn
        rw [hz4.1, hz4.2] at J8
        exact ⟨_, _, J8, hyes rfl a na⟩
      | brk => obtain ⟨_, _, _, z⟩ := hsp; exact z.elim
      | cont => obtain ⟨_, _, _, z⟩ := hsp; exact z.elim
      | ret u => obtain ⟨_, _, _, _, _, z⟩ := hsp; exact z.elim
    | false =>
      show wpAny _ X.A (handleBy (.ref a) X.env []) _ _ _
      refine wpAny_handleBy_nil ?_
      obtain ⟨_, _, _, ox, xs, tr, otr, ts, gx, _, dx, tx, _⟩ := id fl3
      unfold PySem.passOn
      refine wpAny_bind (wpAny_field gx dx tx ?_)
      rw [if_neg (show ¬ ((Value.ref tr == Value.none) = true) from by simp)]
      have fin : wpAny (model X.prog X.w) X.A (setFlight (.ref a) X.env.frame) (fun _ s4 => wpAny (model X.prog X.w) X.A (throw (.ref a) : Sem Flow) (SP X pins D) X.xe s4) X.xe { s' with heap := h3 } := by
        rw [hf]
        refine HandSPX.setFlight_upZ fl3 fun h4 hh4 up4 => wpAny_throw (tk _ _ ⟨a, B, sI, pins, σa, Ha, cls, d, rfl, J, nb, (up.trans up3).trans up4, .inr (.inr (by rw [hs]; exact hh4)), na, os, ag, hno rfl⟩)
      first
        | exact wpAny_bind (wpAny_pure (wpAny_bind fin))
        | exact wpAny_bind fin
  · cases f with
    | next =>
      obtain ⟨σ', H', J', q⟩ := hsp
      exact wpAny_execs_nil ⟨σ', H', J'.ofTry ok, q⟩
    | brk =>
      obtain ⟨σ', H', J', q⟩ := hsp
      exact ⟨σ', H', J'.ofTry ok, q⟩
    | cont =>
      obtain ⟨σ', H', J', q⟩ := hsp
      exact ⟨σ', H', J'.ofTry ok, q⟩
    | ret u =>
      obtain ⟨v, σ', H', J', r, q⟩ := hsp
      exact ⟨v, σ', H', J'.ofTry ok, r, q⟩
end
end VI
namespace VI
open PySem PySem.Spec L2

/-! ### raising an own error that has an __init__ -/
section
variable {X : Cx} {e : Expr} {es : List Expr} {ta : TA} {p1 p2 pos : Pos}
theorem pe_oinit {y : Str} {CH : Addr} {pl : Sem Bool} (hg : Gl X y) (hm : X.mg y = some (.ref CH)) (hr : PySem.W.readsIn X.K CH (.type "type") = true)
    (hsp : PySem.W.specialIn X.K (.ref CH) "__getattribute__" = some (some (.builtin "type.__getattribute__"))) (vV : PySem.W.findCls X.K (.ref CH) (.type "type") "__init__" = some (.val (.builtin "ValueError.__init__"))) (ha : PA X (e :: es) ta)
    (hc : eval (.Call (.Attribute (.Name y p1) "__init__" p2) (e :: es) [] pos) X.env = (do
      let ov ← eval (.Name y p1) X.env
      standAt p2.atName
      let (f, first) ← holding [ov] (getMethod ov "__init__" pl)
      callWith pos f first (backTo pos (starEach (e :: es) X.env)) (backToKw pos (keywordEach [] X.env))))
    (he : starEach (e :: es) X.env = (false, eval e X.env) :: starEach es X.env) (hpl : (backTo pos (starEach es X.env)).any (·.1) = false) (hdb : (y == ("__debug__" : Str)) = false) :
    PE X (.Call (.Attribute (.Name y p1) "__init__" p2) (e :: es) [] pos) (tVeI X.K ta) := by
  constructor
  intro pins s σ H Q I h
  apply PySem.W.methodCall_KW (pl := pl) _ hc
  apply ld_glob I hg hm _ hdb
  apply PySem.W.method_cls I.kIn hsp
  apply PySem.W.cls_value I.kIn hr vV (by decide +kernel)
  show wpAny _ _ (callWith pos (Value.builtin "ValueError.__init__") [] (backTo pos (starEach (e :: es) X.env)) []) _ _ _
  refine PyProof.Rows.callWith_method1 (thn (ha.run pos pins _ σ H _ (I.tok _) h) fun us s1 ⟨vs, H1, I1, r1, a, C, ws, ev, hl, TC, ea, q⟩ => ?_) he hpl
  subst ev
  obtain ⟨u0, ur, rfl, ra, rw'⟩ : ∃ u0 ur, us = u0 :: ur ∧ RelV (.ref a) u0 ∧ Vals ws ur := by
    cases r1 with
    | cons x y => exact ⟨_, _, rfl, x, y⟩
  cases (show u0 = Value.ref a from ra)
  exact oinit_ok TC I1 ea (by rw [← Paired.length rw', sizeLine_eq]; omega) fun s' J => ⟨.non, H1, J, rfl, q⟩
end
/-- what the __init__ of an own error does -/
def spOx (K : PySem.W.Frag) (f : Str) : Sp := fun vs H Q _ => ∃ (a C : Addr) (y : V), vs = [.ref a, y] ∧ OexC K C ∧ H a = some (exo a C none) ∧ PySem.W.findIn K (.ref C) f = some none ∧
  ∀ dx, H dx = none → dx ≠ a → Q .non (upd (upd H dx (exd dx [(f, y)])) a (exo a C (some dx)))
theorem spOx_len {K : PySem.W.Frag} {f : Str} {vs : List V} {H : Hp} {Q : VK} {E : XK} (h : spOx K f vs H Q E) : vs.length = 2 := by
  obtain ⟨a, C, y, rfl, _⟩ := h
  rfl
theorem spOx_body {X : Cx} {f : Str} {CH : Addr} {t : Str} {y0 y1 y2 : Str} {e0 e1 e3 : Expr} {p1 p2 p3 p4 pos pos2 : Pos} {e2 : Expr} {pl : Sem Bool}
    (h1 : PE X (.Call (.Attribute (.Name y0 p1) "__init__" p2) [e0, e1] [] pos) (tVeI X.K (tCons (tVar 0) (tCons (tC (.str t)) tNil))))
    (h2 : PS X (.Assign [.Attribute e3 f p3] e2 pos2) (tOst X.K f (tVar 0) (tVar 1))) (hs : swapsWith (.Call (.Attribute (.Name y0 p1) "__init__" p2) [e0, e1] [] pos) none p4.line X.env = pure false)
    {N : List Str} {vs : List V} {H : Hp} {Q : VK} {E : XK} (hsp : spOx X.K f vs H Q E) (hN : N.length = 2) :
    ∃ t, PSs X [.Expr (.Call (.Attribute (.Name y0 p1) "__init__" p2) [e0, e1] [] pos) p4, .Assign [.Attribute e3 f p3] e2 pos2] t ∧ t { nx := fun _ H' => Q .non H', rt := Q } (L2.start N vs) H := by
  refine ⟨_, pss_cons (ps_expr h1 hs) (pss_one h2), ?_⟩
  obtain ⟨a, C, y, rfl, TC, ha, hf, q⟩ := hsp
  have e0 : (L2.start N [.ref a, y]) = [some (.ref a), some y] := by unfold L2.start; rw [hN]; rfl
  rw [e0]
  refine ⟨_, rfl, a, C, [.str t], rfl, by simp, TC, ha, ?_⟩
  exact ⟨_, rfl, _, rfl, a, C, rfl, TC, hf, .inl ⟨ha, fun dx n ne => q dx n ne⟩⟩
def eRaise (c : Nat) (f : Str) (la : EvA) : EvS := fun rho M => match la rho M with
  | .ok [d] M1 => .exc ⟨c, [f], [d]⟩ rho M1
  | .exc x M1 => .exc x rho M1
  | _ => .bad
section
variable {X : Cx} {T : Tab} {n : Nat} {W : WX} {c : Nat} {f : Str} {la : EvA} {e : Expr} {p pos rpos : Pos}
theorem den_raise {x : Str} {fI : Addr} {k : Nat} {fd : FuncData} {ps : List Str} {CX : CXT} (G : Gd X T n) (tk : Takes X W) (TC : OexC X.K (T.ca c)) (iC : PySem.W.findIn X.K (.ref (T.ca c)) "__init__" = some (some (.ref fI))) (tI : PySem.W.typeIn X.K (.ref fI) = some (.type "function"))
    (F1 : FnOk X.prog X.w X.K X.mg X.base CX k fI fd ps (spOx X.K f)) (hr : Room (k + 1) X.A) (hb : Binds X.K fd ps []) (hx : Passes CX X (fun _ _ _ => False)) (hg : Gl X x) (hm : X.mg x = some (.ref (T.ca c))) (hno : PySem.W.findIn X.K (.ref (T.ca c)) f = some none) (ha : PA X [e] (tL T W la))
    (hdb : (x == ("__debug__" : Str)) = false) (he : starEach [e] X.env = (false, eval e X.env) :: starEach [] X.env) (hpl : (backTo pos (starEach [] X.env)).any (·.1) = false) :
    PS X (.Raise (some (.Call (.Name x p) [e] [] pos)) none rpos) (tS T W (eRaise c f la)) := by
  refine imp_s (ps_raise G.calm tk (pmk_oex TC iC tI F1 hr hb .nil hx hg hm ha hdb he hpl)) fun Dn σ H h => ?_
  obtain ⟨mu, M, rho, S, E, h⟩ := h
  refine ⟨mu, M, rho, S, E, ?_⟩
  simp only [eRaise] at h
  cases el : la rho M with
  | bad => rw [el] at h; exact h.elim
  | exc x M1 => rw [el] at h; exact fun mu1 H1 cls dd S1 G1 r => h mu1 H1 σ cls dd S1 G1 (E.mono G1) r
  | ok ds M1 =>
    rw [el] at h
    intro mu1 H1 vs S1 G1 R1
    have hl := R1.length
    match ds, vs, hl, R1, h with
    | [], _, _, _, h => exact h.elim
    | _ :: _ :: _, _, _, _, h => exact h.elim
    | [d], [v], _, R1, h =>
    obtain ⟨v', w', e1, rv, _⟩ := R1.inv_cons
    cases e1
    refine ⟨by simp, fun a na => ⟨a, T.ca c, v, rfl, TC, upd_same, hno, fun dx n1 ne => ⟨rfl, dx, [(f, v)], upd_same, ?_, ?_, ?_⟩⟩⟩
    · rw [upd_ne ne, upd_same]
    · rw [upd_ne ne] at n1; exact n1
    · have e2 : upd (del (upd (upd (upd H1 a (exo a (T.ca c) none)) dx (exd dx [(f, v)])) a (exo a (T.ca c) (some dx))) a) dx (.xd [(f, v)]) = upd H1 dx (.xd [(f, v)]) := by
        funext b
        by_cases hb : b = dx
        · subst hb; rw [upd_same, upd_same]
        · rw [upd_ne hb, upd_ne hb]
          by_cases hb2 : b = a
          · subst hb2; rw [del_same, na]
          · rw [del_ne hb2, upd_ne hb2, upd_ne hb, upd_ne hb2]
      rw [e2]
      rw [upd_ne ne] at n1
      have g2 : Grow T mu1 H1 mu1 (upd H1 dx (.xd [(f, v)])) := Grow.side n1
      exact h mu1 _ σ _ _ (S1.side n1) (G1.trans g2) ((E.mono G1).mono g2) ⟨rfl, .inr ⟨dx, [v], rfl, upd_same, rfl, (RepL.cons rv RepL.nil).mono g2⟩⟩
end

/-! ### try: body; except x as n: y = n -/
def sTryKeep (cs : Nat → Option Bool) (i j : Nat) (body : EvS) : EvS := fun rho M => match body rho M with
  | .exc x rho1 M1 => match cs x.c with
    | some true => .ok (.nx (((rho1.set i none).set j (some (.exn x.c x.ns x.vs))).set i none)) M1
    | some false => .exc x rho1 M1
    | none => .bad
  | r => r
theorem EnvR.wipe {T : Tab} {mu : List Addr} {H : Hp} {rho : EnvD} {σ : St} (E : EnvR T mu H rho σ) (i : Nat) (v : Option V) : EnvR T mu H (rho.set i none) (σ.set i v) := by
  refine ⟨by simpa using E.1, fun k d e => ?_⟩
  by_cases h : i = k
  · subst h
    by_cases hl : i < rho.length
    · rw [List.getElem?_set_self hl] at e; cases e
    · rw [List.getElem?_eq_none (by simpa using hl)] at e; cases e
  · rw [List.getElem?_set_ne h] at e
    rw [List.getElem?_set_ne h]
    exact E.2 k d e
theorem Gd.tr {X : Cx} {T : Tab} {n : Nat} (G : Gd X T n) (pn : List (Addr × Obj)) (xe : Value → Shared → Prop) : Gd (X.tr pn xe) T n := ⟨G.K, G.calm, G.room, G.guards, G.nd, G.gd⟩
section
variable {X : Cx} {T : Tab} {n : Nat} {W : WX}
theorem den_tryKeep {x nm y : Str} {c : Value} {i j : Nat} {cs : Nat → Option Bool} {body : List Stmt} {np pn pa pv pos pos' : Pos} {sb : EvS} (G : Gd X T n) (hex : X.ex = []) (hs : X.stack = X.env :: X.outer) (hf : X.env.frame = some X.env.locals) (hi : X.N[i]? = some nm) (hj : X.N[j]? = some y) (hln : X.env.kindOf nm = some .local) (hly : X.env.kindOf y = some .local) (hc : Names X x c) (tk : Takes X W)
    (hdn : (nm == ("__debug__" : Str)) = false) (hdc : (nm == ("__classdict__" : Str)) = false) (hcs : ∀ k b, cs k = some b → PySem.W.exmOne X.K (.ref (T.ca k)) c = some b)
    (hb : ∀ (W : WX) (pn : List (Addr × Obj)) (xe : Value → Shared → Prop), Takes (X.tr pn xe) W → PassesOwn (model X.prog X.w) X.A X.env xe → PSs (X.tr pn xe) body (tS T W sb)) :
    PS X (.Try body [.ExceptHandler (some (.Name x np)) (some nm) [.Assign [.Name y pn] (.Name nm pv) pa] pos'] [] [] pos) (tS T W (sTryKeep cs i j sb)) := by
  refine imp_s (ps_try_keep (tb := fun W => tS T W sb) hex hs hf G.nd hi hj hln hly hc tk hdn hdc hb) fun Dn σ H h => ?_
  obtain ⟨mu, M, rho, S, E, h⟩ := h
  refine ⟨mu, M, rho, S, E, ?_⟩
  simp only [sTryKeep] at h
  cases eb : sb rho M with
  | bad => rw [eb] at h; exact h.elim
  | ok fl M1 => rw [eb] at h; cases fl <;> exact h
  | exc x rho1 M1 =>
    rw [eb] at h
    intro mu1 H1 σ1 cls dd S1 G1 E1 XR
    simp only at h
    obtain ⟨ecls, hx⟩ := XR
    cases ec : cs x.c with
    | none => rw [ec] at h; exact h.elim
    | some b =>
      rw [ec] at h
      refine ⟨b, by rw [ecls]; exact hcs _ _ ec, fun hbt a na => ?_, fun hbf => ?_⟩
      · subst hbt
        have g2 : Grow T mu1 H1 mu1 (upd H1 a (ExcV cls dd a)) := Grow.side na
        have rep : Rep T mu1 (upd H1 a (ExcV cls dd a)) (.exn x.c x.ns x.vs) (.ref a) := by
          simp only [Rep]
          refine ⟨a, dd, rfl, by rw [upd_same, ecls]; rfl, ?_⟩
          rcases hx with z | ⟨p, ws, e1, e2, e3, r⟩
          · exact .inl z
          · exact .inr ⟨p, ws, e1, g2.xd _ _ e2, e3, r.mono g2⟩
        exact h mu1 _ _ (S1.side na) (G1.trans g2) ((((E1.mono g2).wipe i _).set rep).wipe i _)
      · subst hbf
        exact h mu1 H1 σ1 cls dd S1 G1 E1 ⟨ecls, hx⟩
end

/-! ### what is asked of a kept exception -/
section
open PySem.W PySem.Calls
variable {prog : Program} {w : World} {A : Around} {E : Value → Shared → Prop} {s : Shared} {K : Frag} {x D : Addr} {ox : Obj} {od : Option Obj}
theorem cls_of_kept {Q : Option Value → Shared → Prop} (C : ExcC K D) (X : K.In s.heap) (I : InstAt s.heap x ox D od) (h : Q (some (.ref D)) { s with toks := s.toks + 1 }) : wpAny (model prog w) A (getAttr? (.ref x) "__class__") Q E s := by
  have found : findObj K D od "__class__" = some (.bind (.builtin "getset_descriptor.__get__") (.builtin "object.__class__")) := by
    obtain ⟨cd, hcd, _⟩ := any_some C.hd
    unfold findObj
    rw [hcd, Option.bind_some, C.ha, Option.bind_some]
    simp [C.hn, C.ht]
  obtain ⟨h0, gs, dw, tk, osx⟩ := s
  have kin := I.type (M := model prog w)
  have get := looks_findIn (M := model prog w) X C.hg
  have own := looks_findIn (M := model prog w) X C.hk
  have fnd := looks_find (M := model prog w) X I found
  have below : Looks (model prog w) h0 (isInstance (.ref x) (.type "BaseException")) true := kin.andThen (looks_subIn X C.hs)
  have n0 : (false && onTheHeap (Value.builtin "BaseException.__getattribute__")) = false := rfl
  have n1 : (Value.builtin "BaseException.__getattribute__" == Value.builtin "object.__getattribute__") = false := by decide +kernel
  have n2 : (onTheHeap (Value.ref D) && Value.builtin "BaseException.__getattribute__" == Value.builtin "object.__getattribute__") = false := by rw [n1]; rfl
  unfold getAttr? getAttrBy? getAttrBy
  apply wpAny_bind; apply wpAny_mkText; apply wpAny_bind; apply wpAny_attempt; apply wpAny_holding; apply wpAny_bind
  refine kin.at ?_
  apply wpAny_bind
  refine get.at ?_
  show wpAny _ _ (if (onTheHeap (Value.ref D) && Value.builtin "BaseException.__getattribute__" == Value.builtin "object.__getattribute__") = true then _ else _) _ _ _
  rw [n2]; rw [if_neg Bool.false_ne_true]
  unfold getAttrByItsOwn hookBefore
  apply wpAny_bind
  rw [if_pos (show onTheHeap (Value.ref D) = true from rfl)]
  refine own.at ?_
  apply wpAny_bind; apply wpAny_attempt; apply wpAny_holding
  unfold callGetattribute
  rw [n0]; rw [if_neg Bool.false_ne_true]
  unfold boundAndCalled
  rw [PySem.F.excAttr_ValueError.ga.bind (.ref x)]
  apply wpAny_bind; apply wpAny_pure
  show wpAny _ _ (call (.builtin "BaseException.__getattribute__") [.ref x, .str "__class__" tk]) _ _ _
  apply wpAny_call; refine codeAny_call_builtin PySem.F.excAttr_ValueError.ga.plain PySem.F.entry_bexc_ga ?_
  refine @check_slot (model prog w) _ _ ⟨h0, gs, dw, tk + 1, osx⟩ "BaseException.__getattribute__" "BaseException" "__getattribute__" (.ref x) [.str "__class__" tk] [] _ (by decide +kernel) (by decide +kernel) below (PySem.F.args_bexc_ga (.ref x) (.str "__class__" tk)) ?_
  unfold Builtin.«object.__getattribute__»
  apply wpAny_bind
  refine wpAny_of_eq (a := ((Value.ref x : Value), [Value.str "__class__" tk])) (by first | rfl | (simp only [slotArgs]; rfl)) ?_
  apply wpAny_bind; apply wpAny_pure; apply wpAny_bind
  refine kin.at ?_
  apply wpAny_bind
  refine fnd.at ?_
  show wpAny _ _ (holding [Value.builtin "object.__class__"] (call (.builtin "getset_descriptor.__get__") [.builtin "object.__class__", .ref x, .ref D]) >>= ret) _ _ _
  apply wpAny_bind; apply wpAny_holding; apply wpAny_call
  refine class_get (s := ⟨h0, gs, dw, tk + 1, osx⟩) (ox := ox) (od := od) X I C.hm ?_
  apply wpAny_pure
  show wpAny _ _ (handedOut (.ref D)) _ _ _
  rw [handedOut_of (v := .ref D) rfl]
  first
    | exact wpAny_pure (wpAny_pure h)
    | exact wpAny_pure (wpAny_bind (wpAny_pure (wpAny_pure h)))
    | exact wpAny_pure h
theorem kit_kept (C : ExcC K D) : KitX K (.ref x) (.ref D) (fun h => InstAt h x ox D od) where
  ty := fun _ _ _ I => I.type
  it := fun M h Y _ => by
    obtain ⟨cd, hcd, _⟩ := any_some C.hd
    unfold clsIn at hcd
    split at hcd
    · rename_i ho
      intro A' Q' E' s' k q
      unfold isType loadHead
      apply wpAny_bind
      exact wpAny_loadPart (k _ _ (Y _ _ ho)) (wpAny_pure q)
    · cases hcd
  ne := fun h tp dd its n sl Y htp => by
    obtain ⟨cd, hcd, _⟩ := any_some C.hd
    rw [beq_eq_false_iff_ne]
    intro q
    cases q
    unfold clsIn at hcd
    split at hcd
    · rename_i ho
      rw [Y _ _ ho] at htp
      cases htp
    · cases hcd
  ca := fun Y I k => cls_of_kept C Y I k
end
end VI
namespace VI
open PySem PySem.Spec L2

def XdOk (H : Hp) (dd : Option Addr) : Prop := dd = none ∨ ∃ p fs, dd = some p ∧ H p = some (.xd fs)
theorem Rep.exn_inv {T : Tab} {mu : List Addr} {H : Hp} {c : Nat} {ns : List Str} {ds : List D} {v : V} (h : Rep T mu H (.exn c ns ds) v) :
    ∃ a dd, v = .ref a ∧ H a = some (ExcO (T.ca c) dd a) ∧ XdOk H dd ∧ ((ns = [] ∧ ds = [] ∧ dd = none) ∨ ∃ p ws, dd = some p ∧ H p = some (.xd (ns.zip ws)) ∧ ns.length = ws.length ∧ RepL T mu H ds ws) := by
  simp only [Rep] at h
  obtain ⟨a, dd, e, x, r⟩ := h
  refine ⟨a, dd, e, x, ?_, r⟩
  rcases r with z | ⟨p, ws, e1, e2, _⟩
  · exact .inl z.2.2
  · exact .inr ⟨p, _, e1, e2⟩
section
variable {X : Cx} {T : Tab} {n : Nat} {W : WX}
theorem inst_kept {pins : List (Addr × Obj)} {σ : St} {H : Hp} {s : Shared} {a D : Addr} {dd : Option Addr} (I : Inv X pins σ H s) (ha : H a = some (ExcO D dd a)) (hd : XdOk H dd) : ∃ ox od, PySem.W.InstAt s.heap a ox D od := by
  obtain ⟨⟨oe, vs, h1, h2, h3, h4⟩, _, _⟩ := I.hok a _ ha
  have hno : PySem.W.notCls oe = true := by unfold PySem.W.notCls; rw [h4]
  rcases hd with z | ⟨p, fs, z, hp⟩
  · exact ⟨oe, none, h1, h2, hno, by rw [h3, z]; trivial⟩
  · have hx : ObjOk X.prog X.w H s.heap p (.xd fs) := I.hok p _ hp
    obtain ⟨mA, hns, hr⟩ := hx
    obtain ⟨od, ho, hl⟩ := lookIn_ns hns
    exact ⟨oe, some od, h1, h2, hno, by rw [h3, z]; exact ho⟩
def rIsXT (K : PySem.W.Frag) : List V → Hp → VK → Prop := fun xs H Q => ∃ (a D tp : Addr) (dd : Option Addr) (cs : List V) (us : List Value) (b : Bool), xs = [.ref a, .ref tp] ∧ H a = some (ExcO D dd a) ∧ XdOk H dd ∧ ExcC K D ∧
  H tp = some (.tup cs) ∧ Paired ClsV cs us ∧ PySem.W.kitAny K (.ref D) us = some b ∧ Q (.bl b) H
def rIsXO (K : PySem.W.Frag) : List V → Hp → VK → Prop := fun xs H Q => ∃ (a D : Addr) (dd : Option Addr) (c : V) (u : Value) (b : Bool), xs = [.ref a, c] ∧ H a = some (ExcO D dd a) ∧ XdOk H dd ∧ ExcC K D ∧
  ClsV c u ∧ PySem.W.kitOne K (.ref D) u = some b ∧ Q (.bl b) H
theorem call_isXO : CallR X (.builtin "isinstance") (rIsXO X.K) := by
  intro pins s σ H xs us Q I r h
  obtain ⟨a, D, dd, c, u, b, rfl, ha, hd, C, k, e, q⟩ := h
  obtain ⟨u1, u2, rfl, r1, r2⟩ := vals2 r
  cases (show u1 = Value.ref a from r1)
  have e2 := k.eq r2
  subst e2
  obtain ⟨ox, od, J⟩ := inst_kept I ha hd
  exact PySem.W.kia_one (kit_kept (ox := ox) (od := od) C) I.kIn J e (fun z => nomatch z) fun tk => ⟨.bl b, H, I.tok tk, rfl, q⟩
theorem call_isXT : CallR X (.builtin "isinstance") (rIsXT X.K) := by
  intro pins s σ H xs us Q I r h
  obtain ⟨a, D, tp, dd, cs, ws, b, rfl, ha, hd, C, hT, k, e, q⟩ := h
  obtain ⟨u1, u2, rfl, r1, r2⟩ := vals2 r
  cases (show u1 = Value.ref a from r1)
  cases (show u2 = Value.ref tp from r2)
  obtain ⟨ox, od, J⟩ := inst_kept I ha hd
  have ht : ObjOk X.prog X.w H s.heap tp (.tup cs) := I.hok tp _ hT
  obtain ⟨_, its, rv, o, h1, h2, m, h3⟩ := ht
  cases ClsV.all k rv
  obtain ⟨oc, odd, dt, sl⟩ := o
  simp only at h2 h3
  subst h2 h3
  exact PySem.W.kia_tup (kit_kept (ox := ox) (od := od) C) I.kIn J h1 e (fun z => nomatch z) fun tk => ⟨.bl b, H, I.tok tk, rfl, q⟩
/-- isinstance(e, ..) of a kept exception, f tells of which classes -/
def eIsX (f : Nat → Option Bool) (a : EvE) : EvE := fun rho M => (a rho M).bind fun x M1 => match x with
  | .exn c _ _ => match f c with
    | some b => .ok (.bl b) M1
    | none => .bad
  | _ => .bad
theorem den_isXT {a : Expr} {fa : EvE} {es : List Expr} {te : TA} {cs : List V} {us : List Value} {f : Nat → Option Bool} {k : Nat} {p p3 pos : Pos} (G : Gd X T n) (ha : PE X a (tV T W fa)) (hg : Gl X "isinstance") (hm : X.mg "isinstance" = none) (hes : PA X es te) (hte : ∀ σ H Q, Q cs H → te σ H Q) (hz : cs.length ≤ 1000)
    (hcu : Paired ClsV cs us) (hf : ∀ c b, f c = some b → ExcC X.K (T.ca c) ∧ PySem.W.kitAny X.K (.ref (T.ca c)) us = some b)
    (hs : starEach [a, .Tuple es k p3] X.env = (false, eval a X.env) :: starEach [.Tuple es k p3] X.env) (hs2 : starEach [.Tuple es k p3] X.env = (false, eval (.Tuple es k p3) X.env) :: starEach [] X.env) (hpl : (backTo pos (starEach [.Tuple es k p3] X.env)).any (·.1) = false)
    (hb : bootBuiltins "isinstance" = some (.builtin "isinstance")) :
    PE X (.Call (.Name "isinstance" p) [a, .Tuple es k p3] [] pos) (tV T W (eIsX f fa)) := by
  refine imp_e (pe_callB call_isXT hg hm hb (pa_cons ha (pa_cons (pe_tup hes) pa_nil hs2) hs) (by decide) (by decide) hs hpl) fun σ H Q h => ?_
  obtain ⟨mu, M, rho, S, E, h⟩ := h
  refine step1 S E h fun mu1 M1 d v H1 S1 E1 G1 R1 h1 => ?_
  cases d <;> first | exact h1.elim | skip
  rename_i c ns ds
  simp only at h1
  refine hte _ _ _ ⟨by rw [sizeLine_eq]; omega, fun tp ntp => ?_⟩
  cases e : f c with
  | none => rw [e] at h1; exact h1.elim
  | some b =>
    rw [e] at h1
    obtain ⟨C, hk⟩ := hf c b e
    have g2 : Grow T mu1 H1 mu1 (upd H1 tp (.tup cs)) := Grow.side ntp
    obtain ⟨a, dd, rfl, x1, x2, _⟩ := (R1.mono g2).exn_inv
    exact ⟨a, T.ca c, tp, dd, cs, us, b, rfl, x1, x2, C, upd_same, hcu, hk, h1 mu1 _ (.bl b) (S1.side ntp) g2 (Rep.bl_mk b)⟩
theorem den_isXO {a b : Expr} {fa : EvE} {c : V} {u : Value} {f : Nat → Option Bool} {p pos : Pos} (G : Gd X T n) (ha : PE X a (tV T W fa)) (hg : Gl X "isinstance") (hm : X.mg "isinstance" = none) (hcl : PE X b (tC c)) (hcu : ClsV c u)
    (hf : ∀ k b, f k = some b → ExcC X.K (T.ca k) ∧ PySem.W.kitOne X.K (.ref (T.ca k)) u = some b)
    (hs : starEach [a, b] X.env = (false, eval a X.env) :: starEach [b] X.env) (hs2 : starEach [b] X.env = (false, eval b X.env) :: starEach [] X.env) (hpl : (backTo pos (starEach [b] X.env)).any (·.1) = false)
    (hb : bootBuiltins "isinstance" = some (.builtin "isinstance")) :
    PE X (.Call (.Name "isinstance" p) [a, b] [] pos) (tV T W (eIsX f fa)) := by
  refine imp_e (pe_callB call_isXO hg hm hb (pa_cons ha (pa_cons hcl pa_nil hs2) hs) (by decide) (by decide) hs hpl) fun σ H Q h => ?_
  obtain ⟨mu, M, rho, S, E, h⟩ := h
  refine step1 S E h fun mu1 M1 d v H1 S1 E1 G1 R1 h1 => ?_
  cases d <;> first | exact h1.elim | skip
  rename_i k ns ds
  simp only at h1
  cases e : f k with
  | none => rw [e] at h1; exact h1.elim
  | some b =>
    rw [e] at h1
    obtain ⟨C, hk⟩ := hf k b e
    obtain ⟨a, dd, rfl, x1, x2, _⟩ := R1.exn_inv
    exact ⟨a, T.ca k, dd, c, u, b, rfl, x1, x2, C, hcu, hk, h1 mu1 _ (.bl b) S1 Grow.refl (Rep.bl_mk b)⟩

/-- e.f of a kept exception -/
def eXf (ok : Nat → Bool) (f : Str) (a : EvE) : EvE := fun rho M => (a rho M).bind fun x M1 => match x with
  | .exn c ns ds => if ok c then match dget ns ds f with
      | some d => .ok d M1
      | none => .bad
    else .bad
  | _ => .bad
theorem lookup_of {T : Tab} {mu : List Addr} {H : Hp} {f : Str} {d : D} : ∀ {ns : List Str} {ds : List D} {ws : List V}, ns.length = ws.length → RepL T mu H ds ws → dget ns ds f = some d → ∃ v, (ns.zip ws).lookup f = some v ∧ Rep T mu H d v
  | [], ds, ws, _, _, h => by simp [dget] at h
  | k :: ns, [], ws, _, _, h => by simp [dget] at h
  | k :: ns, x :: ds, [], hl, _, h => by simp at hl
  | k :: ns, x :: ds, w :: ws, hl, r, h => by
    obtain ⟨v', r', e, a, b⟩ := r.inv_cons
    cases e
    simp only [dget] at h
    by_cases hk : k = f
    · subst hk
      simp at h
      subst h
      exact ⟨w, by simp [List.lookup], a⟩
    · simp [hk] at h
      obtain ⟨v, hv, rv⟩ := lookup_of (by simpa using hl) b h
      refine ⟨v, ?_, rv⟩
      have : (f == k) = false := by simpa using Ne.symm hk
      simp [List.lookup, this, hv]
theorem den_xf {a : Expr} {fa : EvE} {f : Str} {ok : Nat → Bool} {pos : Pos} (G : Gd X T n) (ha : PE X a (tV T W fa)) (hf : ∀ c, ok c = true → ExcC X.K (T.ca c) ∧ PySem.W.findIn X.K (.ref (T.ca c)) f = some none)
    (hb : attributeBase a f X.env (eval a X.env) = eval a X.env) : PE X (.Attribute a f pos) (tV T W (eXf ok f fa)) := by
  constructor
  intro pins s σ H Q I h
  have h' : tV T W fa σ H fun v H1 => ∃ (a C dd : Addr) (fs : List (Str × V)) (w : V), v = .ref a ∧ ExcC X.K C ∧ PySem.W.findIn X.K (.ref C) f = some none ∧ H1 a = some (ExcO C (some dd) a) ∧ H1 dd = some (.xd fs) ∧ fs.lookup f = some w ∧ Q w H1 := by
    obtain ⟨mu, M, rho, S, E, h⟩ := h
    refine step1 S E h fun mu1 M1 d v H1 S1 E1 G1 R1 h1 => ?_
    cases d <;> first | exact h1.elim | skip
    rename_i c ns ds
    simp only at h1
    split at h1
    · rename_i hok
      split at h1
      · rename_i d e
        obtain ⟨C, hno⟩ := hf c hok
        obtain ⟨a, dd, rfl, x1, x2, x3⟩ := R1.exn_inv
        rcases x3 with z | ⟨p, ws, rfl, e2, e3, r⟩
        · rw [z.1] at e; simp [dget] at e
        · obtain ⟨w, hw, rw'⟩ := lookup_of e3 r e
          exact ⟨a, T.ca c, p, _, w, rfl, C, hno, x1, e2, hw, h1 mu1 _ w S1 Grow.refl rw'⟩
      · exact h1.elim
    · exact h1.elim
  refine attr_of hb (thn (ha.run pins s σ H _ I h') fun u s1 hh => ?_)
  obtain ⟨v, H1, I1, rv, a, C, dd, fs, w, rfl, hC, hno, x1, x2, hl, q⟩ := hh
  cases (show u = Value.ref a from rv)
  obtain ⟨⟨oe, vs, h1, h2, h3, h4⟩, _, _⟩ := I1.hok a _ x1
  have hx : ObjOk X.prog X.w H1 s1.heap dd (.xd fs) := I1.hok dd _ x2
  obtain ⟨mA, hns, hr⟩ := hx
  obtain ⟨od, ho, hlk⟩ := lookIn_ns hns
  obtain ⟨u, hu, ru⟩ := RelO.some_of (v := w) (o := mA f) (by rw [← hl]; exact hr f)
  have hno' : PySem.W.notCls oe = true := by unfold PySem.W.notCls; rw [h4]
  have J : PySem.W.InstAt s1.heap a oe C (some od) := ⟨h1, h2, hno', by rw [h3]; exact ho⟩
  exact HandSPX.exc_get I1.kIn J hC.hg hC.hk hC.hs (PySem.W.findObj_own hC.hd hno rfl (by rw [hlk, hu])) (handed_of ru) ⟨w, H1, I1.tok _, ru, q⟩
end
end VI
namespace VI
open PySem PySem.Spec L2

/-! ### a lambda without parameters, handed to a def -/
section
variable {T : Tab} {mu : List Addr} {M : Mem} {H : Hp}
theorem sqT_two {p c : Addr} {ps : Array Value} {o o' : HO} (hp : H p = some (.tbl ps)) (hc : H c = none) {q : Addr} {vs : List V} (h : SqT T.K H q vs) : SqT T.K (upd (upd H p o) c o') q vs := by
  have ne1 : ∀ {b : Addr} {u : HO}, H b = some u → (∀ z, u ≠ .tbl z) → upd (upd H p o) c o' b = some u := fun {b u} e n => by
    rw [upd_ne (ne_of_none e hc), upd_ne fun z => n ps (by rw [z, hp] at e; exact (Option.some.inj e).symm)]
    exact e
  rcases h with (h | ⟨u, h⟩) | h
  · exact .inl (.inl (ne1 h fun _ z => nomatch z))
  · exact .inl (.inr ⟨u, ne1 h fun _ z => nomatch z⟩)
  · exact .inr h
theorem two_at {p c : Addr} {ps : Array Value} {o o' : HO} (hp : H p = some (.tbl ps)) (hc : H c = none) {b : Addr} {u : HO} (e : H b = some u) (n : ∀ z, u ≠ .tbl z) : upd (upd H p o) c o' b = some u := by
  rw [upd_ne (ne_of_none e hc), upd_ne fun z => n ps (by rw [z, hp] at e; exact (Option.some.inj e).symm)]
  exact e
theorem sqR_two {p c : Addr} {ps : Array Value} {o o' : HO} (hp : H p = some (.tbl ps)) (hc : H c = none) {q : Addr} {vs : List V} (h : SqR T.K H q vs) : SqR T.K (upd (upd H p o) c o') q vs := by
  rcases h with ⟨u, h⟩ | h
  · exact .inl ⟨u, two_at hp hc h fun _ z => nomatch z⟩
  · exact .inr h
theorem ext_two {p c : Addr} {ps : Array Value} {o o' : HO} (hp : H p = some (.tbl ps)) (hc : H c = none) : Ext0 T mu H mu (upd (upd H p o) c o') :=
  ⟨⟨[], by simp⟩, fun q vs s => sqT_two hp hc s, fun q vs s => sqR_two hp hc s, fun a φ h => two_at hp hc h (fun _ z => nomatch z), fun a fs h => two_at hp hc h (fun _ z => nomatch z)⟩
theorem grow_two {p c : Addr} {ps qs : Array Value} {o' : HO} (hp : H p = some (.tbl ps)) (hc : H c = none) : Grow T mu H mu (upd (upd H p (.tbl qs)) c o') := by
  have x : Ext0 T mu H mu (upd (upd H p (.tbl qs)) c o') := ext_two hp hc
  refine ⟨x.pre, fun b hb hn => absurd hb hn, fun b u e n _ => two_at hp hc e n, fun b rs e => ?_, x.sq, x.sr, x.ex, x.xd⟩
  rw [upd_ne (ne_of_none e hc)]
  by_cases hb : b = p
  · subst hb; exact ⟨qs, upd_same⟩
  · exact ⟨rs, by rw [upd_ne hb]; exact e⟩
theorem Sim.two {p c : Addr} {ps qs : Array Value} {o' : HO} (S : Sim T mu M H) (hp : H p = some (.tbl ps)) (hc : H c = none) (ht : LamX.Tabs T.tl (upd (upd H p (.tbl qs)) c o')) : Sim T mu M (upd (upd H p (.tbl qs)) c o') := by
  refine ⟨S.len, S.nd, ht, fun l ob e => ?_⟩
  obtain ⟨q, e1, r⟩ := S.ob l ob e
  refine ⟨q, e1, r.keep ?_ fun ds vs h => h.mono0 (ext_two hp hc)⟩
  obtain ⟨u, hu, nf⟩ := r.some
  rw [two_at hp hc hu fun z e => nf (by rw [e]; trivial), hu]
end
open LamX in
/-- the making of a lambda: its code object is new, or it stood in the table -/
theorem lam_made {X : Cx} {pins : List (Addr × Obj)} {σ : St} {H : Hp} {s : Shared} {tl : List (Addr × Str)} {c P : Addr} {params : Arguments} {body : Expr} {scope : Scope} {pos : Pos} {E : Value → Shared → Prop} {Q : Value → Shared → Prop} {q : Str} (I : Inv X pins σ H s) (TB : TabB X.base X.mg c P) (hcode : X.env.code = .ref c)
    (hq : q = X.env.qual ++ "<lambda>") (hm : (P, q) ∈ tl) (hu : ∀ p ∈ tl, p.1 = P → p.2 = q) (hT : Tabs tl H) (hdef : defaultsOf params X.env = ([], [])) (hfree : ∀ y ∈ scope.names, y.2 = .free → ∃ c, X.env.cells.lookup y.1 = some c)
    (h : ∀ (f c' : Addr) (pm ctv : Value) (H1 : Hp) (s' : Shared), Inv X pins σ H1 s' → (H1 = H ∨ ∃ ps qs, H P = some (.tbl ps) ∧ H c' = none ∧ H1 = upd (upd H P (.tbl qs)) c' (CodeO c' q)) → Tabs tl H1 →
      s'.heap.get? f = some (PySem.W.kla_obj "<lambda>" q params body scope (cloFrom X.env.cells scope.names []) pm c' ctv) → H1 f = none → f ∉ frs X.stack → H1 c' = some (CodeO c' q) → Q (.ref f) s') :
    wpAny (model X.prog X.w) X.A (eval (.Lambda params body scope pos) X.env) Q E s := by
  subst hq
  obtain ⟨ps, hP, ht, ha⟩ := hT _ hm
  apply PySem.W.kla_eval hdef
  have bP := TB.bm.keeps I.bk
  have gP : s.heap.get? P = some { cls := .none, data := .fields ps } := I.hok P _ hP
  have nofr : ∀ f, s.heap.objs.size ≤ f → f ∉ frs X.stack := by
    intro f hf z
    rcases List.mem_cons.mp (I.stkSub _ z) with e | e
    · have h1 := I.lt
      rw [← e] at h1
      exact absurd (Nat.lt_of_lt_of_le h1 hf) (Nat.lt_irrefl _)
    · exact I.nofs hf e
  cases hc : codeAmong pos ps.toList with
  | some cv =>
    obtain ⟨c', rfl, hco⟩ := ha pos cv hc
    refine PySem.W.kla_makeFunctionHit (mg := X.mg) (c := c) (P := P) (ps := ps) (closure_ok hfree) I.ok.glob (I.mod.glob.keeps I.bk) hcode (TB.code.keeps I.bk) gP ht hc bP fun ctv h' tk hx hsz => ?_
    exact h h'.objs.size c' ((X.mg "__name__").getD .none) ctv H _ (I.kept fun b o e => Heap.get?_push_of_some _ (hx b o e)) (.inl rfl) hT (Heap.get?_push_size _ rfl) (I.hok.fresh hsz) (nofr _ hsz) hco
  | none =>
    refine PySem.W.kla_makeFunction (mg := X.mg) (c := c) (P := P) (ps := ps) (closure_ok hfree) I.ok.glob (I.mod.glob.keeps I.bk) hcode (TB.code.keeps I.bk) gP ht hc TB.gP bP fun c' ctv h' tk hx hge hlt hrec htb => ?_
    obtain ⟨c2, oc, vs, t, e2, hoc, hd, hv⟩ := hrec
    cases e2
    have hsz : s.heap.objs.size ≤ h'.objs.size := by omega
    have nC : H c' = none := I.hok.fresh hge
    generalize hqs : ps ++ #[rawInt pos.line, rawInt pos.col, .ref c'] = qs at htb
    have I1 := inv_table (t' := tk) (more := #[rawInt pos.line, rawInt pos.col, .ref c']) (h' := h'.push (PySem.W.kla_obj "<lambda>" (X.env.qual ++ "<lambda>") params body scope (cloFrom X.env.cells scope.names []) ((X.mg "__name__").getD .none) c' ctv)) I hP
      (fun b o hb e => Heap.get?_push_of_some _ (hx b o hb e)) (Heap.get?_push_of_some _ (by rw [hqs]; exact htb)) hge ⟨oc, vs, t, Heap.get?_push_of_some _ hoc, hd, hv⟩
    rw [hqs] at I1
    have eL : qs.toList = ps.toList ++ [rawInt pos.line, rawInt pos.col, .ref c'] := by rw [← hqs]; simp
    have stay : ∀ b o, H b = some o → (∀ z, o ≠ .tbl z) → upd (upd H P (.tbl qs)) c' (CodeO c' (X.env.qual ++ "<lambda>")) b = some o := fun b o e n => two_at hP nC e n
    refine h h'.objs.size c' ((X.mg "__name__").getD .none) ctv _ _ I1 (.inr ⟨ps, qs, hP, nC, rfl⟩) (fun p hp => ?_) (Heap.get?_push_size _ rfl) ?_ (nofr _ hsz) upd_same
    · by_cases hb : p.1 = P
      · rw [hu p hp hb, hb]
        refine ⟨qs, by rw [upd_ne (ne_of_none hP nC), upd_same], by rw [eL]; exact PySem.TriplesOk_snoc _ _ _ _ ht, fun p' cv hcv => ?_⟩
        rw [eL] at hcv
        rcases among_app _ ht hcv with z | z
        · obtain ⟨c0, e1, e2⟩ := ha p' cv z
          exact ⟨c0, e1, stay _ _ e2 codeO_ne⟩
        · exact ⟨c', z, upd_same⟩
      · obtain ⟨ps', a1, a2, a3⟩ := hT p hp
        refine ⟨ps', by rw [upd_ne (ne_of_none a1 nC), upd_ne hb]; exact a1, a2, fun p' cv hcv => ?_⟩
        obtain ⟨c0, e1, e2⟩ := a3 p' cv hcv
        exact ⟨c0, e1, stay _ _ e2 codeO_ne⟩
    · have n1 : h'.objs.size ≠ c' := by omega
      have n2 : h'.objs.size ≠ P := (Nat.ne_of_lt (Nat.lt_of_lt_of_le (Heap.lt_size gP) hsz)).symm
      rw [upd_ne n1, upd_ne n2]
      exact I.hok.fresh hsz

def getE (is : List Nat) (rho : EnvD) : Option (List D) := match is with
  | [] => some []
  | i :: is => match rho[i]? with
    | some (some d) => (getE is rho).map (d :: ·)
    | _ => none
/-- the slots of the lambda's body, from what it captured -/
def capE (m : Nat) (is : List Nat) (ds : List D) : EnvD := setE is ds (List.replicate m none)
/-- a() where a is the lambda at f that was handed in; ask: what its body does with what it captured -/
def eAct (i : Nat) (f c : Nat) (q : Str) (us : List V) (ask : List D → Mem → Res D) : EvE := fun rho M => match rho[i]? with
  | some (some (.fn f' c' q' ds us')) => if f' = f ∧ c' = c ∧ q' = q ∧ us' = us then ask ds M else .bad
  | _ => .bad
def eLamCall (is : List Nat) (g : List D → Mem → Res D) : EvE := fun rho M => match getE is rho with
  | some ds => g ds M
  | none => .bad
theorem getE_ok {T : Tab} {mu : List Addr} {H : Hp} {rho : EnvD} {σ : St} (E : EnvR T mu H rho σ) : ∀ {is : List Nat} {ds : List D}, getE is rho = some ds → ∃ vs, RepL T mu H ds vs ∧ ∀ (mu' : List Addr) (H' : Hp) (ds' : List D) (r : EnvD), r.length = σ.length → RepL T mu' H' ds' vs → EnvR T mu' H' r σ → EnvR T mu' H' (setE is ds' r) σ
  | [], ds, h => by
    simp only [getE, Option.some.injEq] at h
    subst h
    exact ⟨[], RepL.nil, fun mu' H' ds' r hl rr e => by
      cases ds' with
      | nil => exact e
      | cons d ds' =>
        have := rr.length
        simp at this⟩
  | i :: is, ds, h => by
    simp only [getE] at h
    split at h
    · rename_i d e
      simp only [Option.map_eq_some_iff] at h
      obtain ⟨ds', h, rfl⟩ := h
      obtain ⟨v, hv, rv⟩ := E.2 i d e
      obtain ⟨vs, r1, k⟩ := getE_ok E h
      refine ⟨v :: vs, RepL.cons rv r1, fun mu' H' ds2 r hl rr er => ?_⟩
      cases ds2 with
      | nil =>
        have := rr.length
        simp at this
      | cons d2 ds2 =>
      obtain ⟨v', w', e1, ra, rb⟩ := rr.inv_cons
      cases e1
      have s1 : σ.set i (some v) = σ := by
        have hi : i < σ.length := (List.getElem?_eq_some_iff.mp hv).1
        refine List.ext_getElem? fun j => ?_
        by_cases hj : i = j
        · subst hj; rw [List.getElem?_set_self hi, hv]
        · rw [List.getElem?_set_ne hj]
      have e2 := EnvR.set (i := i) er ra
      rw [s1] at e2
      exact k mu' H' ds2 (r.set i (some d2)) (by simpa using hl) rb e2
    · cases h
theorem env_empty {T : Tab} {mu : List Addr} {H : Hp} {σ : St} {m : Nat} (h : σ.length = m) : EnvR T mu H (List.replicate m none) σ := by
  refine ⟨by simp [h], fun i d e => ?_⟩
  rw [List.getElem?_replicate] at e
  split at e <;> cases e

/-- the context of a def that is called with a lambda by X's text at s -/
abbrev gCx (X : Cx) (Ng : List Str) (qg : Str) (sg : Scope) (g : Addr) (cdg : Value) (s : Shared) (H : Hp) (E : XK) : Cx := cxOf (L2.CX X.prog X.w) X.prog X.w X.K X.mg X.base Ng qg sg g cdg X.A X.stack s H E
section
open LamX
variable {X : Cx} {T : Tab} {n : Nat} {W : WX}
theorem act_ok {pins : List (Addr × Obj)} {σ : St} {H : Hp} {s : Shared} {E0 : XK} {Ng : List Str} {qg : Str} {sg : Scope} {g f c' : Addr} {cdg pm ctv : Value} {params : Arguments} {body : Expr} {scope : Scope} {i : Nat} {a : Str} {pn : List (Addr × Obj)} {xe : Value → Shared → Prop} {q : Str} {fb : EvE} {is : List Nat} {us : List V} {p1 p2 : Pos}
    (I : Inv X pins σ H s) (hq : q = X.env.qual ++ "<lambda>") (L : LamS X.env.scope scope) (hf : s.heap.get? f = some (PySem.W.kla_obj "<lambda>" q params body scope (cloFrom X.env.cells scope.names []) pm c' ctv)) (hfn : H f = none) (hfr : f ∉ frs X.stack)
    (hbind : bindArgs (PySem.W.kla_fn "<lambda>" q params body scope (cloFrom X.env.cells scope.names []) pm (.ref c') ctv) ⟨[], []⟩ = pure [])
    (tk : Takes ((gCx X Ng qg sg g cdg s H E0).tr pn xe) W) (hr : Room (n + 1) (X.A.deeper (PyProof.Rows.envOfC qg sg s.heap.objs.size g cdg))) (hgd : X.A.guards = some []) (hK : X.K = T.K) (gdk : GdOk T X.w) (hNd : X.N.Nodup)
    (hbody : ∀ (A : Around) (outer : List Env) (s : Shared) (H : Hp) (E : XK) (f c' : Addr), Gd (lamCx X A outer s H E scope f c') T n → PE (lamCx X A outer s H E scope f c') body (tV T (fun c d _ H => E c d H) fb))
    (hcap : ∀ mu H ds, RepL T mu H ds us → EnvR T mu H (capE X.N.length is ds) σ)
    (hN : Ng[i]? = some a) (hv : Vis sg a) (hd : (a == ("__debug__" : Str)) = false) (hcd : (a == ("__classdict__" : Str)) = false) :
    PE ((gCx X Ng qg sg g cdg s H E0).tr pn xe) (.Call (.Name a p1) [] [] p2) (fun σZ HZ Q => ∃ mu M ds, Sim T mu M HZ ∧ σZ[i]? = some (some (.ref f)) ∧ HZ c' = some (CodeO c' q) ∧ RepL T mu HZ ds us ∧ OkG T (Rep T) W σZ Q mu HZ (fb (capE X.N.length is ds) M)) := by
  constructor
  intro pinsZ sZ σZ HZ Q IZ hh
  obtain ⟨mu, M, ds, S, hs, hc, rds, h⟩ := hh
  have hvar : PE ((gCx X Ng qg sg g cdg s H E0).tr pn xe) (.Name a p1) (tVar i) := pe_var hN hv hd hcd
  refine wpAny_Call_Name_kw (thn (hvar.run pinsZ sZ σZ HZ (fun v H1 => v = .ref f ∧ H1 = HZ) IZ ⟨.ref f, hs, rfl, rfl⟩) fun u s1 ⟨v, H1, I1, r1, ev, eH⟩ => ?_)
  subst ev
  rw [eH] at I1
  cases (show u = Value.ref f from r1)
  have of1 := I1.base.keep f _ hf hfn hfr (fun z => nomatch (show f ∈ ([] : List Addr) from z))
  apply PySem.W.callWith_F0 ⟨_, _, _, _, of1⟩
  have un : Un (frs X.stack) [] H HZ s.heap s1.heap := I1.base
  obtain ⟨⟨oc, vs, t, hoc, hdc, hvc⟩, _, _⟩ := I1.hok c' _ hc
  let EE : XK := fun cls d H' => W cls d σZ H'
  have rc : codeAny (model X.prog X.w) (X.A.deeper (PyProof.Rows.envOfC qg sg s.heap.objs.size g cdg)) (.call (.ref f) ⟨[], []⟩) (CR (L2.CX X.prog X.w) (PyProof.Rows.envOfC qg sg s.heap.objs.size g cdg :: X.stack) X.prog X.w HZ s1 Q EE) s1 := by
    refine PySem.W.kla_callFunE hr.depth of1 rfl L.co L.gen rfl ⟨c', oc, vs, t, rfl, hoc, hdc, hvc⟩ ?_
    rw [hbind]
    apply wpAny_pure
    refine wpAny_newFunctionEnv (fun y hy => (L.own y hy).2) (fun y hy => absurd hy (by simp)) (fun h₁ hns hsb => ⟨I1.nolimit.fresh _ hsb, ?_⟩) L.kind
    subst hq
    show codeAny _ _ (.expr body (lamEnv X scope s1.heap.objs.size f c')) _ _
    have kp : ∀ b o, s1.heap.get? b = some o → h₁.get? b = some o := fun b o e => hsb.extBut b o (Nat.ne_of_lt (Heap.lt_size e)) (Heap.get?_push_of_some _ e)
    have J : Inv (lamCx X (X.A.deeper (PyProof.Rows.envOfC qg sg s.heap.objs.size g cdg)) (PyProof.Rows.envOfC qg sg s.heap.objs.size g cdg :: X.stack) s1 HZ EE scope f c') [] σ HZ { s1 with heap := h₁, toks := s1.toks + ([] : List (Str × Value)).length } :=
      lam_start2 I L I1.env0 hr.hd un hns kp
    have G : Gd (lamCx X (X.A.deeper (PyProof.Rows.envOfC qg sg s.heap.objs.size g cdg)) (PyProof.Rows.envOfC qg sg s.heap.objs.size g cdg :: X.stack) s1 HZ EE scope f c') T n := ⟨hK, rfl, hr.deeper _, hgd, hNd, by
      intro k hk
      have := gdk k hk
      rw [← hK] at this
      exact this⟩
    refine PySem.W.kla_codeExpr (wpAny_mono ((hbody _ _ s1 HZ EE f c' G).run [] _ σ HZ Q J ⟨mu, M, _, S, hcap mu HZ ds rds, ?_⟩) (fun v s' hq => ?_) fun e s' hq => hq)
    · cases er : fb (capE X.N.length is ds) M with
      | bad => rw [er] at h; exact h.elim
      | ok d M1 => rw [er] at h; exact h
      | exc x M1 => rw [er] at h; exact h
    · obtain ⟨w', H', J', rv, q⟩ := hq
      exact ⟨w', H', J'.os, J'.bare, J'.base, J'.hok, rv, q⟩
  refine wpAny_call (codeAny_mono rc fun r s' hq => ?_)
  cases r with
  | error e => exact passAt tk σZ pinsZ HZ s1 e s' I1 hq
  | ok fl =>
    cases fl with
    | ret u => exact I1.after hq
    | next => exact hq.elim
    | brk => exact hq.elim
    | cont => exact hq.elim
/-- x(lambda: body), x a def of the text with one parameter that it calls; sem: what x's body does by what that call does -/
theorem den_lamcall {x a : Str} {g c P : Addr} {m : Nat} {pg : Arguments} {bg : List Stmt} {sg : Scope} {dV kV doc pm cdv ct oc : Value} {an od : Option Addr} {osl : Array (Option Value)} {Ng : List Str} {params : Arguments} {body : Expr} {scope : Scope} {p lpos pos : Pos} {q : Str}
    {sem : EvE → EvS} {fb : EvE} {is : List Nat} {gs : List D → Mem → Res D} (G : Gd X T n) (tk : Takes X W) (hg : Gl X x) (hm : X.mg x = some (.ref g)) (hk : PySem.W.keepIn X.K (.ref g) = true)
    (lk : X.K.lookup g = some ⟨oc, od, .func (PySem.W.fnOf x x pg bg sg dV kV doc pm an cdv ct), osl⟩) (hcg : PySem.W.codeIn X.K cdv x = true) (hb : L2.Binds X.K (PySem.W.fnOf x x pg bg sg dV kV doc pm an cdv ct) [a] []) (Sg : FnScope Ng [a] sg) (hNg : Ng[0]? = some a) (hva : Vis sg a)
    (hG : ∀ (fact : EvE) (s : Shared) (H : Hp) (E : XK), Gd (gCx X Ng x sg g cdv s H E) T m → (∀ (W : WX) (pn : List (Addr × Obj)) (xe : Value → Shared → Prop) (p1 p2 : Pos), Takes ((gCx X Ng x sg g cdv s H E).tr pn xe) W → PE ((gCx X Ng x sg g cdv s H E).tr pn xe) (.Call (.Name a p1) [] [] p2) (tV T W fact)) →
      PSs (gCx X Ng x sg g cdv s H E) bg (tS T (fun c d _ H => E c d H) (sem fact)))
    (TB : TabB X.base X.mg c P) (hcode : X.env.code = .ref c) (hq : q = X.env.qual ++ "<lambda>") (hmT : (P, q) ∈ T.tl) (hu : ∀ p ∈ T.tl, p.1 = P → p.2 = q) (hr : Room (m + 2) X.A) (hr1 : Room (n + 2) X.A) (L : LamS X.env.scope scope) (hdef : defaultsOf params X.env = ([], []))
    (hbind : ∀ (q : Str) (cl : List (Str × Addr)) (pm cv ctv : Value), bindArgs (PySem.W.kla_fn "<lambda>" q params body scope cl pm cv ctv) ⟨[], []⟩ = pure [])
    (hbody : ∀ (A : Around) (outer : List Env) (s : Shared) (H : Hp) (E : XK) (f c' : Addr), Gd (lamCx X A outer s H E scope f c') T n → PE (lamCx X A outer s H E scope f c') body (tV T (fun c d _ H => E c d H) fb))
    (hinv : ∀ f c us ds M, runBody (sem (eAct 0 f c q us fun ds M => fb (capE X.N.length is ds) M)) Ng.length [.fn f c q ds us] M = gs ds M) (gdk : GdOk T X.w)
    (hdb : (x == ("__debug__" : Str)) = false) (hd : (a == ("__debug__" : Str)) = false) (hcd : (a == ("__classdict__" : Str)) = false) (hs1 : starEach [.Lambda params body scope lpos] X.env = (false, eval (.Lambda params body scope lpos) X.env) :: starEach [] X.env) (hpl : (backTo pos (starEach [] X.env)).any (·.1) = false) :
    PE X (.Call (.Name x p) [.Lambda params body scope lpos] [] pos) (tV T W (eLamCall is gs)) := by
  constructor
  intro pins s σ H Q I h
  obtain ⟨mu, M, rho, S, En, h⟩ := h
  simp only [eLamCall] at h
  cases hge : getE is rho with
  | none => rw [hge] at h; exact h.elim
  | some ds =>
  rw [hge] at h
  obtain ⟨us, rds, cap⟩ := getE_ok En hge
  refine wpAny_Call_Name_kw (ld_glob I hg hm ?_ hdb)
  refine PySem.W.callWith_K (h₀ := X.base) I.ok.mod.kin hk ?_ hs1 hpl
  show wpAny _ _ (spliced ((false, eval (.Lambda params body scope lpos) X.env) :: backTo pos (starEach [] X.env))) _ _ s
  refine Calls.spliced_cons (lam_made I TB hcode hq hmT hu S.tb hdef (L.has I.ok) fun f c' pm' ctv H1 s' I1 hH T1 hf hfn hfr hco => ?_)
  refine Calls.spliced_nil ⟨I1.kIn, ?_⟩
  obtain ⟨S1, G1⟩ : Sim T mu M H1 ∧ Grow T mu H mu H1 := by
    rcases hH with rfl | ⟨ps, qs, e1, e2, rfl⟩
    · exact ⟨S, Grow.refl⟩
    · exact ⟨S.two e1 e2 T1, grow_two e1 e2⟩
  have rds1 := rds.mono G1
  have rep : Rep T mu H1 (.fn f c' q ds us) (.ref f) := Rep.fn_mk hco rds1
  let EE : XK := fun cls d H' => W cls d σ H'
  have rc : codeAny (model X.prog X.w) X.A (.call (.ref g) ⟨[.ref f], []⟩) (CR (L2.CX X.prog X.w) X.stack X.prog X.w H1 s' Q EE) s' := by
    refine run_ofS (N := Ng) (ps := [a]) (us := [.ref f]) (vs := [.ref f]) lk hcg Sg hr I1.env0 (hb s' [.ref f] I1.kIn rfl) (.cons rfl .nil) rfl fun hr' => ?_
    have Gg : Gd (gCx X Ng x sg g cdv s' H1 EE) T m := ⟨G.K, rfl, hr'.mono (Nat.le_succ _), G.guards, Sg.nd, by
      intro k hk
      have := gdk k hk
      rw [← G.K] at this
      exact this⟩
    have hrn : Room (n + 1) (X.A.deeper (PyProof.Rows.envOfC x sg s'.heap.objs.size g cdv)) := hr1.deeper _
    let ask : List D → Mem → Res D := fun ds M => fb (capE X.N.length is ds) M
    have acts := hG (eAct 0 f c' q us ask) s' H1 EE Gg fun W2 pn xe p1 p2 tk2 => by
      refine imp_e (act_ok (n := n) (i := 0) (us := us) (is := is) (q := q) (fb := fb) I1 hq L hf hfn hfr (hbind _ _ _ _ _) tk2 hrn G.guards G.K gdk G.nd hbody (fun mu' H' ds' r' => ?_) hNg hva hd hcd) fun σZ HZ Q' hh => ?_
      · exact cap mu' H' ds' _ (by rw [List.length_replicate, I.len]) r' (env_empty I.len)
      · obtain ⟨mu2, M2, rho2, S2, E2, h2⟩ := hh
        simp only [eAct] at h2
        split at h2
        · rename_i f2 c2 q2 ds2 us2 e2
          split at h2
          · rename_i hcond
            obtain ⟨rfl, rfl, rfl, rfl⟩ := hcond
            obtain ⟨v, hv, rv⟩ := E2.2 _ _ e2
            obtain ⟨rfl, e4, e5⟩ := rv.fn_inv
            exact ⟨mu2, M2, ds2, S2, hv, e4, e5, h2⟩
          · exact h2.elim
        · exact h2.elim
    refine ⟨_, acts, mu, M, _, S1, start_ok (RepL.cons rep RepL.nil), ?_⟩
    have hi := hinv f c' us ds M
    unfold runBody at hi
    dsimp only at h
    rw [← hi] at h
    generalize hrs : sem (eAct 0 f c' q us ask) ([D.fn f c' q ds us].map some ++ List.replicate (Ng.length - [D.fn f c' q ds us].length) none) M = rs at h
    cases rs with
    | bad => exact h.elim
    | exc x rho M1 => exact fun mu' H' σ' c d S' G' _ X' => h mu' H' c d S' (G1.trans G') X'
    | ok fl M1 =>
      cases fl with
      | nx rho => exact fun mu' H' σ' S' G' _ => h mu' H' .non S' (G1.trans G') Rep.non_mk
      | rt d => exact fun mu' H' v S' G' r => h mu' H' v S' (G1.trans G') r
      | bk rho => exact h.elim
      | ct rho => exact h.elim
  refine wpAny_call (codeAny_mono rc fun r s2 hq2 => ?_)
  cases r with
  | error e => exact passAt tk σ pins H1 s' e s2 I1 hq2
  | ok fl =>
    cases fl with
    | ret u => exact I1.after hq2
    | next => exact hq2.elim
    | brk => exact hq2.elim
    | cont => exact hq2.elim
end
end VI
namespace VI
open PySem PySem.Spec L2

/-! ### {k: v, ..} with written keys -/
def eVals : List EvE → EvA
  | [] => eANil
  | f :: fs => eACons f (eVals fs)
def eDct (ks : List Key) (fs : List EvE) : EvE := fun rho M => (eVals fs rho M).bind fun ds M1 => .ok (.loc M1.length) (M1 ++ [.dct ks ds])
inductive PDs (X : Cx) (T : Tab) (W : WX) : List (Option Expr) → List Expr → List Key → List EvE → Prop where
  | nil : PDs X T W [] [] [] []
  | cons {k v : Expr} {key : Key} {f : EvE} {ks : List (Option Expr)} {vs : List Expr} {keys : List Key} {fs : List EvE} (hk : PE X k (tC (kV key))) (hv : PE X v (tV T W f)) (r : PDs X T W ks vs keys fs) : PDs X T W (some k :: ks) (v :: vs) (key :: keys) (f :: fs)
def trsOf (T : Tab) (W : WX) : List Key → List EvE → List (TE × TE)
  | k :: ks, f :: fs => (tC (kV k), tV T W f) :: trsOf T W ks fs
  | _, _ => []
section
variable {X : Cx} {T : Tab} {n : Nat} {W : WX} {pos : Pos}
theorem PDs.pps {es : List (Option Expr)} {vs : List Expr} {ks : List Key} {fs : List EvE} (h : PDs X T W es vs ks fs) : PPs X pos es vs (trsOf T W ks fs) := by
  induction h with
  | nil => exact pps_nil
  | cons hk hv r ih => exact pps_cons hk hv ih
theorem PDs.len {es : List (Option Expr)} {vs : List Expr} {ks : List Key} {fs : List EvE} (h : PDs X T W es vs ks fs) : es.length = vs.length ∧ es.all (·.isSome) = true ∧ ks.length = fs.length ∧ es.length = ks.length := by
  induction h with
  | nil => exact ⟨rfl, rfl, rfl, rfl⟩
  | cons hk hv r ih => exact ⟨by simp [ih.1], by simp [ih.2.1], by simp [ih.2.2.1], by simp [ih.2.2.2]⟩
def ExcOnly {α : Type} (T : Tab) (W : WX) (σ : St) (mu : List Addr) (H : Hp) : Res α → Prop
  | .ok _ _ => True
  | .exc x M' => ∀ mu' H' cls dd, Sim T mu' M' H' → Grow T mu H mu' H' → ExR T mu' H' x cls dd → W cls dd σ H'
  | .bad => False
theorem ExcOnly.later {α : Type} {σ : St} {mu mu1 : List Addr} {H H1 : Hp} (g : Grow T mu H mu1 H1) {r : Res α} (h : ExcOnly T W σ mu H r) : ExcOnly T W σ mu1 H1 r := by
  cases r with
  | ok a M => trivial
  | exc x M => exact fun mu' H' cls dd S' G' X' => h mu' H' cls dd S' (g.trans G') X'
  | bad => exact h
theorem pairs_ok {σ : St} {rho : EnvD} : ∀ (ks : List Key) (fs : List EvE) {P : List (V × V) → Hp → Prop} {mu : List Addr} {M : Mem} {H : Hp}, ks.length = fs.length → Sim T mu M H → EnvR T mu H rho σ →
    ExcOnly T W σ mu H (eVals fs rho M) → (∀ mu2 M2 ds ws H2, eVals fs rho M = .ok ds M2 → ks.length = ws.length → Sim T mu2 M2 H2 → Grow T mu H mu2 H2 → RepL T mu2 H2 ds ws → P ((ks.zip ws).map (fun kv => (kV kv.1, kv.2))) H2) → tPairs (trsOf T W ks fs) σ H P
  | [], [], P, mu, M, H, hl, S, E, h, go => go mu M [] [] H rfl rfl S Grow.refl RepL.nil
  | [], f :: fs, P, mu, M, H, hl, S, E, h, go => by simp at hl
  | k :: ks, [], P, mu, M, H, hl, S, E, h, go => by simp at hl
  | key :: ks, f :: fs, P, mu, M, H, hl, S, E, h, go => by
    show tC (kV key) σ H fun x H1 => tV T W f σ H1 fun y H2 => tPairs (trsOf T W ks fs) σ H2 fun ps H3 => P ((x, y) :: ps) H3
    refine tG.intro S E ?_
    cases ef : f rho M with
    | bad => simp only [eVals, eACons, ef, Res.bind] at h; exact h
    | exc x M1 => simp only [eVals, eACons, ef, Res.bind] at h; exact h
    | ok d M1 =>
      intro mu1 H1 v S1 G1 R1
      have h1 : ExcOnly T W σ mu1 H1 (eVals fs rho M1) := by
        simp only [eVals, eACons, ef, Res.bind] at h
        cases eg : eVals fs rho M1 with
        | ok ds M2 => trivial
        | exc x M2 => rw [eg] at h; exact ExcOnly.later (r := (.exc x M2 : Res (List D))) G1 h
        | bad => rw [eg] at h; exact h
      refine pairs_ok ks fs (by simpa using hl) S1 (E.mono G1) h1 fun mu2 M2 ds ws H2 e1 e2 S2 G2 R2 => ?_
      exact go mu2 M2 (d :: ds) (v :: ws) H2 (by simp only [eVals, eACons, ef, Res.bind, e1]) (by simp [e2]) S2 (G1.trans G2) (RepL.cons (R1.mono G2) R2)
theorem merge_new {ks : List Key} : ∀ {ws : List V} {acc : List (Key × V)}, ks.Nodup → (∀ k ∈ ks, ∀ kv ∈ acc, kv.1 ≠ k) → mergeK acc (ks.zip ws) = acc ++ ks.zip ws := by
  induction ks with
  | nil => intro ws acc _ _; simp [mergeK]
  | cons k ks ih =>
    intro ws acc hn hd
    cases ws with
    | nil => simp [mergeK]
    | cons w ws =>
      rw [List.nodup_cons] at hn
      have e : putK acc k w = acc ++ [(k, w)] := by
        unfold putK
        rw [if_neg]
        intro z
        obtain ⟨kv, h1, h2⟩ := List.any_eq_true.mp z
        exact hd k List.mem_cons_self kv h1 (of_decide_eq_true h2)
      have q := ih (ws := ws) (acc := acc ++ [(k, w)]) hn.2 (fun k' hk' kv hkv => by
        rcases List.mem_append.mp hkv with z | z
        · exact hd k' (List.mem_cons_of_mem _ hk') kv z
        · simp at z
          subst z
          exact fun e => hn.1 (by rw [show k = k' from e]; exact hk'))
      show List.foldl (fun acc kv => putK acc kv.1 kv.2) (putK acc k w) (ks.zip ws) = _
      rw [e]
      rw [show List.foldl (fun acc kv => putK acc kv.1 kv.2) (acc ++ [(k, w)]) (ks.zip ws) = mergeK (acc ++ [(k, w)]) (ks.zip ws) from rfl, q]
      simp
theorem den_disp {es : List (Option Expr)} {vs : List Expr} {ks : List Key} {fs : List EvE} (G : Gd X T n) (h : PDs X T W es vs ks fs) (hn : ks.Nodup) (h0 : es ≠ []) (h15 : es.length ≤ 15) : PE X (.Dict es vs pos) (tV T W (eDct ks fs)) := by
  obtain ⟨hl, hall, hk, hek⟩ := h.len
  refine imp_e (pe_disp h.pps hall hl h0 h15) fun σ H Q h => ?_
  obtain ⟨mu, M, rho, S, E, h⟩ := h
  intro p np
  have g0 : Grow T mu H mu (upd H p (.dK [])) := Grow.side np
  have h1 : ExcOnly T W σ mu (upd H p (.dK [])) (eVals fs rho M) := by
    simp only [eDct] at h
    cases eg : eVals fs rho M with
    | ok ds M2 => trivial
    | exc x M2 => rw [eg] at h; exact ExcOnly.later (r := (.exc x M2 : Res (List D))) g0 h
    | bad => rw [eg] at h; exact h
  refine pairs_ok ks fs hk (S.side np) (E.mono g0) h1 fun mu2 M2 ds ws H2 e1 e2 S2 G2 R2 => ?_
  have pm : p ∉ mu2 := fun z => by
    have q := G2.new p z (S.free np)
    rw [upd_same] at q; cases q
  have e3 : H2 p = some (.dK []) := G2.oth p _ upd_same (fun _ z => nomatch z) (S.free np)
  refine ⟨e3, ks.zip ws, rfl, by rw [List.length_zip, ← e2, Nat.min_self, ← hek]; exact h15, ?_⟩
  have nf := NoFix.dk e3
  have em : mergeK [] (ks.zip ws) = ks.zip ws := by
    rw [merge_new hn (fun _ _ kv hkv => absurd hkv (by simp))]
    rfl
  rw [em]
  have S3 : Sim T (mu2 ++ [p]) (M2 ++ [.dct ks ds]) (upd H2 p (.dK (ks.zip ws))) := S2.adopt pm nf ⟨ws, upd_same, e2, R2.mono0 (ext_touch nf [p])⟩
  have G3 : Grow T mu H (mu2 ++ [p]) (upd H2 p (.dK (ks.zip ws))) := Grow.adopt np (g0.trans G2) nf
  simp only [eDct, e1, Res.bind] at h
  exact h _ _ (.ref p) S3 G3 (Rep.loc_mk (last_loc S2))
theorem den_dnew (G : Gd X T n) : PE X (.Dict [] [] pos) (tV T W (eDct [] [])) := by
  refine imp_e pe_dnewK fun σ H Q h => ?_
  obtain ⟨mu, M, rho, S, E, h⟩ := h
  intro p np
  exact h _ _ (.ref p) (S.alloc (ob := .dct [] []) np ⟨[], upd_same, rfl, RepL.nil⟩) (Grow.alloc np) (Rep.loc_mk (last_loc S))
end
end VI
namespace VI
open PySem PySem.Spec L2

/-! ### where a token is out: o.replace(..) of written texts -/
theorem imp_et {X : Cx} {e : Expr} {t t' : TE} (h : PET X e t) (i : ∀ σ H Q, t' σ H Q → t σ H Q) : PET X e t' := fun pins s σ H Q h0 I q => h pins s σ H Q h0 I (i _ _ _ q)
theorem imp_st {X : Cx} {e : Stmt} {t t' : TS} (h : PST X e t) (i : ∀ D σ H, t' D σ H → t D σ H) : PST X e t' := fun pins s σ H D h0 I q => h pins s σ H D h0 I (i _ _ _ q)
theorem imp_sst {X : Cx} {e : List Stmt} {t t' : TS} (h : PSsT X e t) (i : ∀ D σ H, t' D σ H → t D σ H) : PSsT X e t' := fun pins s σ H D h0 I q => h pins s σ H D h0 I (i _ _ _ q)
def eRepl (y z : Str) (a : EvE) : EvE := fun rho M => (a rho M).bind fun v M1 => match v with
  | .str x => if x.length + (x.length + 1) * z.length ≤ 16777216 then .ok (.str (Txt.replace x y z)) M1 else .bad
  | _ => .bad
section
variable {X : Cx} {T : Tab} {n : Nat} {W : WX} {o e : Expr} {es : List Expr} {fo fe : EvE} {y z : Str} {j k : Nat} {c0 c1 apos pos cpos : Pos} {la : EvA}
theorem repl_ok {σ : St} {H : Hp} {Q : VK} (h : tV T W (eRepl y z fo) σ H Q) : CwR.tReplC (tV T W fo) y z σ H Q := by
  obtain ⟨mu, M, rho, S, E, h⟩ := h
  refine step1 S E h fun mu1 M1 d v H1 S1 E1 G1 R1 h1 => ?_
  cases d <;> first | exact h1.elim | skip
  rename_i x
  cases R1.str_inv
  dsimp only at h1
  split at h1
  · rename_i hz
    exact ⟨x, rfl, hz, h1 mu1 H1 _ S1 Grow.refl (Rep.str_mk _)⟩
  · exact h1.elim
theorem den_repl (ho : PE X o (tV T W fo)) (hyz : (y == z) = false)
    (hst : starEach [.Constant (.str y) j c0, .Constant (.str z) k c1] X.env = [(false, eval (.Constant (.str y) j c0) X.env), (false, eval (.Constant (.str z) k c1) X.env)])
    (hbase : attributeBase o "replace" X.env (eval o X.env) = eval o X.env) (hline : (apos.endLine == pos.line) = true) :
    PET X (.Call (.Attribute o "replace" apos) [.Constant (.str y) j c0, .Constant (.str z) k c1] [] pos) (tV T W (eRepl y z fo)) :=
  imp_et (CwR.pet_replC ho hyz hst hbase hline) fun σ H Q h => repl_ok h
theorem pet_bm {t id : String} {name : Str} {r : V → List V → Hp → VK → Prop} {to : TE} {ta : TA} (pa : PlainAttrs t) (slot : Slot t name id) (hty : typeOf (.builtin id) = pure (.type "method_descriptor")) (hm : MtR X id r) (ho : PET X o to) (ha : PA X (e :: es) ta)
    (hbase : attributeBase o name X.env (eval o X.env) = eval o X.env)
    (hfew : ((backTo cpos (starEach (e :: es) X.env)).all (fun x => !x.1) && (backToKw cpos (keywordEach [] X.env)).all (fun x => x.1.isSome) && decide ((e :: es).length + ([] : List Keyword).length + (if ([] : List Keyword).isEmpty then 0 else 1) < 30)) = true)
    (hline : (apos.endLine == cpos.line) = true) (hs : starEach (e :: es) X.env = (false, eval e X.env) :: starEach es X.env) (hplain : (backTo cpos (starEach es X.env)).any (·.1) = false) :
    PET X (.Call (.Attribute o name apos) (e :: es) [] cpos) (tBM X.K t r to ta) := by
  intro pins s σ H Q h0 I h
  apply wpAny_Call_method_late hbase hfew hline rfl
  refine thn (ho pins s σ H _ h0 I h) fun v s1 hh => ?_
  obtain ⟨x, H1, I1, r1, ty, q1⟩ := hh
  obtain ⟨h1, h2⟩ := tyV_is I1 r1 ty
  refine ⟨t, id, pa, slot, hty, h1, h2, ?_⟩
  have hA := ha.run cpos pins s1 σ H1 _ I1 q1
  rw [hs] at hA ⊢
  have np : (false || (backTo cpos (starEach es X.env)).any (·.1)) = false := by rw [hplain]; rfl
  refine Calls.callWith_builtin np (Calls.evalArgs_plain ?_)
  refine thn hA fun us s2 hh => ?_
  obtain ⟨vs, H2, I2, r2, q2⟩ := hh
  exact hm pins s2 σ H2 x vs v us Q I2 r1 r2 q2
theorem den_mthT {t id : String} {name : Str} {m : D → List D → Mem → Op1} (pa : PlainAttrs t) (slot : Slot t name id) (hty : typeOf (.builtin id) = pure (.type "method_descriptor")) (hm : MtS X T id m) (ho : PET X o (tV T W fo)) (ha : PA X (e :: es) (tL T W la))
    (hbase : attributeBase o name X.env (eval o X.env) = eval o X.env)
    (hfew : ((backTo cpos (starEach (e :: es) X.env)).all (fun x => !x.1) && (backToKw cpos (keywordEach [] X.env)).all (fun x => x.1.isSome) && decide ((e :: es).length + ([] : List Keyword).length + (if ([] : List Keyword).isEmpty then 0 else 1) < 30)) = true)
    (hline : (apos.endLine == cpos.line) = true) (hs : starEach (e :: es) X.env = (false, eval e X.env) :: starEach es X.env) (hplain : (backTo cpos (starEach es X.env)).any (·.1) = false) :
    PET X (.Call (.Attribute o name apos) (e :: es) [] cpos) (tV T W (eMth t m fo la)) := by
  refine imp_et (pet_bm pa slot hty hm ho ha hbase hfew hline hs hplain) fun σ H Q h => ?_
  obtain ⟨mu, M, rho, S, E, h⟩ := h
  refine step1 S E h fun mu1 M1 d v H1 S1 E1 G1 R1 h1 => ?_
  split at h1
  · rename_i ht
    refine ⟨tyV_ok S1 ht R1, ?_⟩
    refine stepA S1 E1 h1 fun mu2 M2 ds vs H2 S2 E2 G2 R2 h2 => ?_
    exact ⟨mu2, M2, d, ds, S2, R1.mono G2, R2, OkO.of h2⟩
  · exact h1.elim
theorem den_asgT {tg : Expr} {t : Tgt} (he : PET X e (tV T W fe)) (hg : PG X tg (gT T.K t)) (hs : swapsWithSole [tg] e pos.line X.env = pure false) (hw : swappedStores [tg] e X.env = pure none)
    (h1 : (assignEach [tg] X.env).map (·.2) = [assign tg X.env]) : PST X (.Assign [tg] e pos) (tS T W (sAsg t fe)) := by
  intro pins s σ H Dn h0 I h
  have hh := asg_ok h
  apply wpAny_Assign_stores _ hs hw
  refine thn (he pins s σ H _ h0 I hh) fun v s1 q => ?_
  obtain ⟨x, H1, I1, r1, q1⟩ := q
  rw [h1]
  refine thn (hg.run pins s1 σ H1 x v _ I1 r1 q1) fun _ s2 q => ?_
  exact q
theorem den_retT (he : PET X e (tV T W fe)) : PST X (.Return (some e) pos) (tS T W (sRet fe)) := imp_st (CwR.pst_ret he) fun Dn σ H h => by
  obtain ⟨mu, M, rho, S, E, h⟩ := h
  exact sWith_ok (rel := Rep T) S E h fun mu1 M1 d v H1 S1 E1 G1 R1 h1 => h1.rt S1 R1
theorem den_sNilT : PSsT X [] (tS T W sNil) := PSsT.of den_sNil
theorem den_sSeqT {st : Stmt} {sts : List Stmt} {f g : EvS} (h1 : PST X st (tS T W f)) (h2 : PSsT X sts (tS T W g)) : PSsT X (st :: sts) (tS T W (sSeq f g)) := by
  refine imp_sst (psst_cons h1 h2) fun Dn σ H h => ?_
  obtain ⟨mu, M, rho, S, E, h⟩ := h
  refine ⟨mu, M, rho, S, E, ?_⟩
  simp only [sSeq] at h
  cases e : f rho M with
  | bad => rw [e] at h; exact h
  | exc x r M1 => rw [e] at h; exact h
  | ok k M1 =>
    rw [e] at h
    cases k with
    | nx r => exact fun mu' H' σ' S' G' E' => ⟨mu', M1, r, S', E', h.later G'⟩
    | bk r => exact h
    | ct r => exact h
    | rt d => exact h
end
/-- a def with parameters and no cells, entered: tokens are out -/
theorem run_ofT {CX : CXT} {P : Program} {w : World} {K : PySem.W.Frag} {mg : Str → Option Value} {base : Heap} {k : Nat} {f : Addr} {name qual : Str} {params : Arguments} {body : List Stmt} {scope : Scope} {dV kV doc pm cdv ct oc : Value} {an od : Option Addr}
    {osl : Array (Option Value)} {N ps : List Str} (lk : K.lookup f = some ⟨oc, od, .func (PySem.W.fnOf name qual params body scope dV kV doc pm an cdv ct), osl⟩) (hcd : PySem.W.codeIn K cdv qual = true) (S : FnScope N ps scope) (hps : ps ≠ []) (hnc : ∀ x ∈ scope.names, x.2 ≠ .cell)
    {A : Around} {outer : List Env} {s : Shared} {H : Hp} {args : Args} {us : List Value} {vs : List V} {Q : VK} {E : XK} (hr : Room (k + 1) A) (e0 : Env0 P w K mg base A outer s H) (hb : BindsTo s (PySem.W.fnOf name qual params body scope dV kV doc pm an cdv ct) args (ps.zip us)) (r : Vals vs us) (hl : vs.length = ps.length)
    (hbody : Room k (A.deeper (PyProof.Rows.envOfC qual scope s.heap.objs.size f cdv)) → ∃ t, PSsT (cxOf CX P w K mg base N qual scope f cdv A outer s H E) body t ∧ t { nx := fun _ H' => Q .non H', rt := Q } (L2.start N vs) H) :
    codeAny (model P w) A (.call (.ref f) args) (CR CX outer P w H s Q E) s := by
  have KX := e0.mod.kin.keeps fun b o e => (e0.bs b o e).1
  have lim := e0.mod.nolimit.keeps fun b o e => (e0.bs b o e).1
  have ul : us.length = ps.length := by rw [← Paired.length r]; exact hl
  have noc : cellsFrom (s.heap.objs.size + 1) scope.names [] = [] := by
    have key : ∀ (l : List (Str × NameKind)) (a : Nat) (acc : List (Str × Addr)), (∀ x ∈ l, x.2 ≠ .cell) → cellsFrom a l acc = acc := by
      intro l
      induction l with
      | nil => intro a acc _; rfl
      | cons x l ih =>
        intro a acc h
        obtain ⟨y, kd⟩ := x
        have hx : kd ≠ .cell := h (y, kd) List.mem_cons_self
        cases kd <;> first | exact absurd rfl hx | exact ih _ _ fun z hz => h z (List.mem_cons_of_mem _ hz)
    exact key _ _ _ hnc
  have loc : ∀ y ∈ ps.zip us, scope.names.lookup y.1 = some .local := fun ⟨a, v⟩ hy => by
    rcases S.par a (List.of_mem_zip hy).1 with q | q
    · exact q
    · exact absurd rfl (hnc _ (PySem.mem_of_lookup q))
  refine codeAny_call_function hr.depth (KX _ _ lk) rfl S.co S.gen rfl (PySem.W.codeRec_of KX hcd) (hb _ _ _ _ ?_)
  refine wpAny_newFunctionEnv hnc loc (fun h' hns hsb => ?_) S.kind
  have kp : ∀ b o, s.heap.get? b = some o → h'.get? b = some o := fun b o e => hsb.extBut b o (Nat.ne_of_lt (Heap.lt_size e)) (Heap.get?_push_of_some _ e)
  refine ⟨lim.keeps kp, codeAny_func ?_⟩
  obtain ⟨t, ht, hq⟩ := hbody (hr.deeper _)
  have x : InCallC s s.heap.objs.size (bindL (PyProof.Rows.envOfC qual scope s.heap.objs.size f cdv).kindOf (ps.zip us) fun _ => none) (cellsFrom (s.heap.objs.size + 1) scope.names []) (bindC (PyProof.Rows.envOfC qual scope s.heap.objs.size f cdv).kindOf (ps.zip us) fun _ => none)
      { s with heap := h', toks := s.toks + (ps.zip us).length } := by
    rw [noc]
    refine ⟨⟨⟨h', _, rfl⟩, ?_, kp, Nat.le_refl _⟩, fun _ _ e => by simp at e, List.Pairwise.nil, fun _ _ e => by simp at e⟩
    have eb : bindL (PyProof.Rows.envOfC qual scope s.heap.objs.size f cdv).kindOf (ps.zip us) (fun _ => none) = fun y => (ps.zip us).reverse.lookup y := by
      have key : ∀ (kf : Str → Option NameKind) (l : List (Str × Value)) (m : Str → Option Value), (∀ y ∈ l, kf y.1 = some .local) → bindL kf l m = fun y => (l.reverse.lookup y).or (m y) := by
        intro kf l
        induction l with
        | nil => intro m _; funext y; simp [bindL]
        | cons x l ih =>
          intro m h
          obtain ⟨a, v⟩ := x
          have ha : kf a = some .local := h (a, v) List.mem_cons_self
          funext y
          simp only [bindL, ha, if_true]
          rw [ih _ fun z hz => h z (List.mem_cons_of_mem _ hz)]
          rw [List.reverse_cons, List.lookup_append, Option.or_assoc]
          congr 1
          by_cases hy : y = a
          · subst hy; simp [List.lookup]
          · have : (y == a) = false := by simpa using hy
            simp [List.lookup, hy, this]
      rw [key _ _ _ loc]
      funext y
      simp
    rw [eb]
    exact hns
  have I := inv_start (CX := CX) (E := E) S hr.hd e0 hl r x
  have tk1 : 1 ≤ s.toks + (ps.zip us).length := by
    have : 0 < ps.length := List.length_pos_iff.mpr hps
    rw [List.length_zip, ul, Nat.min_self]; omega
  have ee : newEnv scope s.heap.objs.size mainGlobals [] (qual ++ ".<locals>.") (some f) cdv none builtinsNs = PyProof.Rows.envOfC qual scope s.heap.objs.size f cdv := by
    unfold PyProof.Rows.envOfC
    rw [noc]
    rfl
  have ee2 : newEnv (PySem.W.fnOf name qual params body scope dV kV doc pm an cdv ct).scope s.heap.objs.size (PySem.W.fnOf name qual params body scope dV kV doc pm an cdv ct).globals (PySem.W.fnOf name qual params body scope dV kV doc pm an cdv ct).closure
      ((PySem.W.fnOf name qual params body scope dV kV doc pm an cdv ct).qualname ++ ".<locals>.") (some f) (PySem.W.fnOf name qual params body scope dV kV doc pm an cdv ct).code none (PySem.W.fnOf name qual params body scope dV kV doc pm an cdv ct).builtins = PyProof.Rows.envOfC qual scope s.heap.objs.size f cdv := ee
  rw [ee2]
  refine wpAny_mono (ht [] _ (L2.start N vs) H _ tk1 I hq) (fun fl s' hs => ?_) fun e s' hs => hs
  cases fl with
  | ret u =>
    obtain ⟨v, σ', H', J, rv, q⟩ := hs
    exact ⟨v, H', J.os, J.bare, J.base, J.hok, rv, q⟩
  | next =>
    obtain ⟨σ', H', J, q⟩ := hs
    exact ⟨V.non, H', J.os, J.bare, J.base, J.hok, rfl, q⟩
  | brk =>
    obtain ⟨_, _, _, q⟩ := hs
    exact q.elim
  | cont =>
    obtain ⟨_, _, _, q⟩ := hs
    exact q.elim
section
variable {P : Program} {w : World} {mg : Str → Option Value} {base : Heap} {T : Tab} {n k : Nat}
theorem fn_bodyT {name qual : Str} {params : Arguments} {body : List Stmt} {scope : Scope} {dV kV doc pm cdv ct oc : Value} {an od : Option Addr} {osl : Array (Option Value)} {N : List Str} {sem : EvS}
    (lk : T.K.lookup (T.fa k) = some ⟨oc, od, .func (T.fd k), osl⟩) (hfd : T.fd k = PySem.W.fnOf name qual params body scope dV kV doc pm an cdv ct) (hcd : PySem.W.codeIn T.K cdv qual = true) (S : FnScope N (T.ps k) scope) (hps : T.ps k ≠ []) (hnc : ∀ x ∈ scope.names, x.2 ≠ .cell)
    (hbody : ∀ (A : Around) (outer : List Env) (s : Shared) (H : Hp) (E : XK), Gd (cxOf (L2.CX P w) P w T.K mg base N qual scope (T.fa k) cdv A outer s H E) T n →
      PSsT (cxOf (L2.CX P w) P w T.K mg base N qual scope (T.fa k) cdv A outer s H E) body (tS T (fun c d _ H => E c d H) sem)) (gdk : GdOk T w) :
    FnG P w mg base T (n + 1) k (runBody sem N.length) := by
  refine ⟨fun A outer s H args us vs Q E hr hgd e0 hb r hsp => ?_⟩
  obtain ⟨mu, M, ds, Sm, ra, hn, h⟩ := hsp
  have hl : vs.length = (T.ps k).length := by rw [← ra.length]; exact hn
  rw [hfd] at lk hb
  refine run_ofT lk hcd S hps hnc hr e0 hb r hl fun hr' => ⟨_, hbody A outer s H E ⟨rfl, rfl, hr', hgd, S.nd, gdk⟩, mu, M, _, Sm, start_ok ra, ?_⟩
  unfold runBody at h
  generalize hrs : sem (ds.map some ++ List.replicate (N.length - ds.length) none) M = rs at h
  cases rs with
  | bad => exact h
  | exc x rho M1 => exact fun mu' H' σ' c d S' G' _ X' => h mu' H' c d S' G' X'
  | ok f M1 =>
    cases f with
    | nx rho => exact fun mu' H' σ' S' G' _ => h mu' H' .non S' G' Rep.non_mk
    | rt d => exact h
    | bk rho => exact h.elim
    | ct rho => exact h.elim
end
end VI
namespace VI
open PySem PySem.Spec L2

/-! ### the end: the law's def, called behind the top -/
/-- what the head tells of the law's world, tables of code objects among it -/
structure LawW (P : Program) (w : World) (T : Tab) (mg : Str → Option Value) (k kl : Nat) (x : Str) (h : Heap) (cs : List (Addr × Addr)) (g : List D → Mem → Res D) : Prop where
  tab : ∀ p ∈ cs, h.get? p.2 = some { cls := .none, data := .fields #[] }
  out : ∀ p ∈ cs, T.K.lookup p.2 = none
  code : ∀ p ∈ cs, PySem.W.CodeHd h p.1 p.2
  tl : ∀ p ∈ T.tl, ∃ q ∈ cs, q.2 = p.1
  ps : T.ps kl = [x]
  bind : ∀ (s : Shared) (u : Value), BindsTo s (T.fd kl) ⟨[u], []⟩ [(x, u)]
  fn : ∀ base : Heap, T.K.In base → base.Ns mainGlobals mg → (∀ p ∈ cs, LamX.TabB base mg p.1 p.2) → FnG P w mg base T k kl g
theorem law_vi {P : Program} {w : World} {T : Tab} {mg mb : Str → Option Value} {k kl n : Nat} {a : Addr} {x : Str} {s1 : Shared} {vs : List Value} {ns : List Int} {cs : List (Addr × Addr)} {g : List D → Mem → Res D} (L : LawW P w T mg k kl x s1.heap cs g)
    (KX : T.K.In s1.heap) (hns : s1.heap.Ns mainGlobals mg) (hb : s1.heap.Ns builtinsNs mb) (hbb : ∀ x : Str, x ≠ "__name__" → mb x = bootBuiltins x) (hlim : s1.heap.NoLimit) (hg : s1.gens = #[])
    (hbm : ∃ (bm : Addr) (ob : Obj), mg "__builtins__" = some (.ref bm) ∧ bm ≠ builtinsNs ∧ s1.heap.get? bm = some ob ∧ ob.cls = .type "module" ∧ ob.dict = some builtinsNs ∧ ob.data = .plain)
    (ha : s1.heap.get? a = some { cls := .type "list", data := .seq vs.toArray }) (hi : PyProof.Rows.IntsAre vs ns) (hl : ns.length ≤ sizeLine) (hr : Room k callerA) (hok : ∃ M, g [.rl (ns.map D.int)] [] = .ok (.bl true) M) :
    codeAny (model P w) callerA (.call (.ref (T.fa kl)) ⟨[.ref a], []⟩) (fun r s' => r = .ok (.ret (.bool true)) ∧ OldK s1.heap s'.heap ∧ s'.os = s1.os ∧ PyProof.Rows.AllBare s'.gens) s1 := by
  have rv := vals_ints hi
  have lenV := hi.length
  let tabs := cs.map (·.2)
  have atT : ∀ b ∈ tabs, s1.heap.get? b = some { cls := .none, data := .fields #[] } := by
    intro b hb
    obtain ⟨p, hp, rfl⟩ := List.mem_map.mp hb
    exact L.tab p hp
  have aT : a ∉ tabs := by
    intro z
    have q := atT a z
    rw [ha] at q
    exact nomatch congrArg Obj.data (Option.some.inj q)
  let fz : HO := .frz { cls := .type "list", data := .seq vs.toArray } (.lst (ns.map V.int))
  obtain ⟨H, hA, hT, hO⟩ : ∃ H : Hp, (H a = some fz ∧ T.K.lookup a = none ∨ H a = none ∧ ∃ o, T.K.lookup a = some o) ∧ (∀ b ∈ tabs, H b = some (.tbl #[])) ∧ ∀ b, b ≠ a → b ∉ tabs → H b = none := by
    cases hk : T.K.lookup a with
    | none => exact ⟨fun b => if b = a then some fz else if b ∈ tabs then some (.tbl #[]) else none, .inl ⟨if_pos rfl, rfl⟩, fun b hb => by
        have : b ≠ a := fun z => aT (z ▸ hb)
        simp [this, hb], fun b h1 h2 => by simp [h1, h2]⟩
    | some o => exact ⟨fun b => if b ∈ tabs then some (.tbl #[]) else none, .inr ⟨if_neg aT, o, rfl⟩, fun b hb => by simp [hb], fun b h1 h2 => by simp [h2]⟩
  have kinds : ∀ b u, H b = some u → (b = a ∧ u = fz ∧ T.K.lookup a = none) ∨ (b ∈ tabs ∧ u = .tbl #[]) := by
    intro b u e
    by_cases h1 : b = a
    · subst h1
      rcases hA with ⟨h, hk⟩ | ⟨h, _⟩
      · rw [h] at e; cases e; exact .inl ⟨rfl, rfl, hk⟩
      · rw [h] at e; cases e
    · by_cases h2 : b ∈ tabs
      · rw [hT b h2] at e; cases e; exact .inr ⟨h2, rfl⟩
      · rw [hO b h1 h2] at e; cases e
  have hokH : HOk P w H s1.heap := by
    intro b u e
    rcases kinds b u e with ⟨rfl, rfl, _⟩ | ⟨hb, rfl⟩
    · exact ⟨ha, by rw [List.length_map]; exact hl, vs, _, rv, ha⟩
    · exact atT b hb
  have free : ∀ {b : Addr} {o : Obj}, s1.heap.get? b = some o → (∀ us m, o.data ≠ .seq us m) → o.data ≠ .fields #[] → H b = none := by
    intro b o e n1 n2
    cases q : H b with
    | none => rfl
    | some u =>
      rcases kinds b u q with ⟨rfl, _⟩ | ⟨hb, _⟩
      · rw [ha] at e; cases e; exact absurd rfl (n1 _ _)
      · rw [atT b hb] at e; cases e; exact absurd rfl n2
  have down : ∀ {b : Addr} {o : Obj}, s1.heap.get? b = some o → H b = none → (hidT s1.heap H).get? b = some o := fun e n => hidT_get e n
  have nsD : ∀ {b : Addr} {m : Str → Option Value}, s1.heap.Ns b m → (hidT s1.heap H).Ns b m := by
    rintro b m ⟨o, es, ep, e, d, r⟩
    exact ⟨o, es, ep, down e (free e (fun _ _ z => by rw [d] at z; cases z) (fun z => by rw [d] at z; cases z)), d, r⟩
  have kin : T.K.In (hidT s1.heap H) := by
    intro b o e
    refine down (KX b o e) ?_
    cases q : H b with
    | none => rfl
    | some u =>
      rcases kinds b u q with ⟨rfl, _, hk⟩ | ⟨hb, _⟩
      · rw [hk] at e; cases e
      · obtain ⟨p, hp, rfl⟩ := List.mem_map.mp hb
        rw [L.out p hp] at e; cases e
  have mod : L2.Mod T.K mg (hidT s1.heap H) := by
    obtain ⟨mc, h1, h2⟩ := hlim
    exact ⟨kin, nsD hns, ⟨mb, nsD hb, hbb⟩, mc, nsD h1, h2⟩
  have tbs : ∀ p ∈ cs, LamX.TabB (hidT s1.heap H) mg p.1 p.2 := by
    intro p hp
    have gT := L.tab p hp
    have notG : mainGlobals ≠ p.2 := by
      intro z
      obtain ⟨o, es, ep, e, hd, _⟩ := hns
      rw [z, gT] at e
      cases e
      cases hd
    refine ⟨?_, ?_, notG⟩
    · obtain ⟨o, us, file, tf, flags, tg, inF, text, tt, e1, r1, r2, r3, rest⟩ := L.code p hp
      refine ⟨o, us, file, tf, flags, tg, inF, text, tt, down e1 (free e1 (fun _ _ z => ?_) fun z => ?_), r1, r2, r3, rest⟩
      · rw [r2] at z; cases z
      · rw [r2] at z; cases z; simp at r3
    · obtain ⟨bm, ob, b1, b2, b3, b4, b5, b6⟩ := hbm
      refine ⟨bm, ob, b1, b2, fun q => ?_, fun q => ?_, down b3 (free b3 (fun _ _ z => ?_) fun z => ?_), b4, b5, b6⟩
      · obtain ⟨o, es, ep, e, hd, _⟩ := hns
        rw [q, e] at b3; cases b3; rw [hd] at b6; cases b6
      · rw [q, gT] at b3; cases b3; cases b6
      · rw [b6] at z; cases z
      · rw [b6] at z; cases z
  have e0 : Env0 P w T.K mg (hidT s1.heap H) callerA [] s1 H := ⟨rfl, mod, fun b o e => of_hidT e, Nat.le_of_eq (hidT_size _ _), trivial, fun b hb => (nomatch (show b ∈ ([] : List Addr) from hb)), hokH, .of_eq hg⟩
  have sim : Sim T [] [] H := by
    refine ⟨rfl, List.nodup_nil, fun p hp => ?_, fun l o e => by simp at e⟩
    obtain ⟨q, hq, e⟩ := L.tl p hp
    exact LamX.TabS.nil (hT p.1 (e ▸ List.mem_map.mpr ⟨q, hq, rfl⟩))
  have allI : ∀ ns : List Int, RepL T [] H (ns.map D.int) (ns.map V.int) := by
    intro ns
    induction ns with
    | nil => exact RepL.nil
    | cons i ns ih => exact RepL.cons (Rep.int_mk i) ih
  have script : Rep T [] H (.rl (ns.map D.int)) (.ref a) := by
    simp only [Rep]
    refine ⟨a, ns.map V.int, rfl, ?_, allI ns⟩
    rcases hA with ⟨h, _⟩ | ⟨_, o, hk⟩
    · exact .inl ⟨_, h⟩
    · have e := KX a o hk
      rw [ha] at e
      cases e
      exact .inr ⟨_, vs.toArray, _, hk, rfl, rfl, rfl, by rw [List.size_toArray, lenV]; exact hl, by simpa using rv⟩
  obtain ⟨M, hgo⟩ := hok
  have run := (L.fn _ kin (nsD hns) tbs).run callerA [] s1 H ⟨[.ref a], []⟩ [.ref a] [.ref a] (fun v _ => v = .bl true) (fun _ _ _ => False) hr rfl e0 (by rw [L.ps]; exact L.bind s1 (.ref a)) (.cons rfl .nil)
    ⟨[], [], [.rl (ns.map D.int)], sim, RepL.cons script RepL.nil, by rw [L.ps]; rfl, by rw [hgo]; exact fun mu' H' v _ _ r => r.bl_inv⟩
  refine codeAny_mono run fun r s' h => ?_
  cases r with
  | error e =>
    obtain ⟨_, _, _, _, _, _, _, _, _, _, _, _, z⟩ := h
    exact z.elim
  | ok fl =>
    cases fl with
    | next => exact h.elim
    | brk => exact h.elim
    | cont => exact h.elim
    | ret u =>
      obtain ⟨v, H', os, bare, un, hok', r', q⟩ := h
      cases (show v = .bl true from q)
      obtain rfl : u = Value.bool true := r'
      have keep : ∀ b o, b ∉ tabs → s1.heap.get? b = some o → s'.heap.get? b = some o := by
        intro b o nb e
        cases q : H b with
        | none => exact un.keep b o e q (fun z => (nomatch (show b ∈ ([] : List Addr) from z))) (by simp)
        | some u =>
          rcases kinds b u q with ⟨rfl, rfl, _⟩ | ⟨hb, _⟩
          · obtain ⟨e1, _⟩ := hokH b _ q
            obtain ⟨e2, _⟩ := hok' b _ (un.frzs b _ _ q)
            rw [e] at e1; cases e1
            exact e2
          · exact absurd hb nb
      have grown : ∀ p ∈ cs, ∃ more : Array Value, s'.heap.get? p.2 = some { cls := .none, data := .fields more } := by
        intro p hp
        obtain ⟨more, z⟩ := un.tbls p.2 #[] (hT p.2 (List.mem_map.mpr ⟨p, hp, rfl⟩))
        exact ⟨_, hok' p.2 _ z⟩
      refine ⟨rfl, ⟨fun b o e => ?_, fun b o e => ?_⟩, os, bare⟩
      · by_cases hb : b ∈ tabs
        · obtain ⟨p, hp, rfl⟩ := List.mem_map.mp hb
          obtain ⟨more, hm⟩ := grown p hp
          rw [L.tab p hp] at e
          cases e
          exact .inr (.inl ⟨((L.code p hp).tab (L.tab p hp)).isCodeTable, rfl, #[], more, rfl, by rw [Array.empty_append]; exact hm⟩)
        · exact .inl (keep b o hb e)
      · by_cases hb : b ∈ tabs
        · obtain ⟨p, hp, rfl⟩ := List.mem_map.mp hb
          obtain ⟨more, hm⟩ := grown p hp
          exact ⟨_, hm⟩
        · exact ⟨o, keep b o hb e⟩
/-- the goal that k_head leaves -/
theorem walk_vi {l : PySem.W.OpenLaw} {n k kl : Nat} {q : Program} {loose : List Str} {XP : (Str → Option Value) → Heap → Prop} {YP : World → Heap → Prop} {d : DefRec} {K : Params → PySem.W.Frag} {x : Str} {g : List D → Mem → Res D}
    (hn : l.most = some n) (hn2 : n ≤ sizeLine) (hdf : d.params.defaults = []) (hr : Room k callerA) (hY : ∀ (w : World) (h : Heap), YP w h → (K w.params).In h)
    (F : ∀ (w : World) (mg : Str → Option Value) (fa : Addr) (h : Heap), YP w h → (K w.params).In h → h.Ns mainGlobals mg → mg d.name = some (.ref fa) → ∃ (T : Tab) (cs : List (Addr × Addr)), T.K = K w.params ∧ T.fa kl = fa ∧ LawW l.prog w T mg k kl x h cs g)
    (hok : ∀ ns : List Int, ns.length ≤ n → (∀ z ∈ ns, Builtin.Int.intBits z ≤ 1048576) → ∃ M, g [.rl (ns.map D.int)] [] = .ok (.bl true) M) :
    PySem.W.WalkO q loose XP YP l.row.toRowW d [] (fun f vs => PySem.call f vs) := by
  refine Att.attach_callB hn hdf fun w s₀ s₁ mg mb fa o pm cd doc a vs ns G Y ho hd hcd hmg hobj hints hlen hbits hg => ?_
  obtain ⟨T, cs, eK, ef, L⟩ := F w mg fa _ Y (hY w _ Y) G.T.g hmg
  rw [← ef]
  exact law_vi (n := n) L (by rw [eK]; exact hY w _ Y) G.T.g G.T.b G.T.builtins G.T.nolimit hg G.T.bmain hobj hints (Nat.le_trans hlen hn2) hr (hok ns hlen hbits)
end VI
namespace VI
open PySem PySem.Spec L2

/-! ### the rules once more, in the shape in which a program prints them -/
def visB (sc : Scope) (x : Str) : Bool := match sc.names.lookup x with
  | some .local => true
  | some .cell => true
  | some .free => true
  | _ => false
theorem vis_by {sc : Scope} {x : Str} (h : visB sc x = true) : Vis sc x := by
  unfold visB at h
  split at h
  · exact .inl (by assumption)
  · exact .inr (.inl (by assumption))
  · exact .inr (.inr (by assumption))
  · cases h
def locB (sc : Scope) (x : Str) : Bool := match sc.names.lookup x with
  | some .local => true
  | some .cell => true
  | _ => false
theorem loc_by {sc : Scope} {x : Str} (h : locB sc x = true) : L2.Loc sc x := by
  unfold locB at h
  split at h
  · exact .inl (by assumption)
  · exact .inr (by assumption)
  · cases h
def blkB (N : List Str) (sc scope : Scope) (own : List (Str × Nat)) : Bool :=
  decide (scope.kind = .function) && scope.names.all (fun y => decide (scope.names.lookup y.1 = some y.2)) && own.all (fun p => decide (N[p.2]? = some p.1)) &&
  scope.names.all (fun y => !decide (y.2 = .free) || decide (sc.names.lookup y.1 = some .cell) || decide (sc.names.lookup y.1 = some .free)) &&
  scope.names.all (fun y => !(decide (y.2 = .local) || decide (y.2 = .cell)) || (own.map (·.1)).contains y.1 || !N.contains y.1)
theorem blk_by {N : List Str} {sc scope : Scope} {own : List (Str × Nat)} (h : blkB N sc scope own = true) : BlkOk N sc scope own := by
  unfold blkB at h
  simp only [Bool.and_eq_true, decide_eq_true_eq, List.all_eq_true, Bool.or_eq_true, Bool.not_eq_true', Bool.or_eq_false_iff, decide_eq_false_iff_not] at h
  obtain ⟨⟨⟨⟨h1, h2⟩, h3⟩, h4⟩, h5⟩ := h
  refine ⟨h1, h2, h3, fun y hy e => ?_, fun y hy e => ?_⟩
  · rcases h4 y hy with (z | z) | z
    · exact absurd e z
    · exact .inl z
    · exact .inr z
  · rcases h5 y hy with (z | z) | z
    · rcases e with e | e
      · exact absurd e z.1
      · exact absurd e z.2
    · exact .inl (by simpa using z)
    · exact .inr (by simpa using z)
theorem Gd.blk {X : Cx} {T : Tab} {n : Nat} (G : Gd X T n) (s : Shared) (H : Hp) (scope : Scope) (cenv : Env) (fp : List Addr) : Gd (X.blk s H scope cenv fp) T n := ⟨G.K, G.calm, G.room, G.guards, G.nd, G.gd⟩
/-- arguments -/
inductive PVs (X : Cx) (T : Tab) (W : WX) : List Expr → List EvE → Prop where
  | nil : PVs X T W [] []
  | cons {e : Expr} {f : EvE} {es : List Expr} {fs : List EvE} (h : PE X e (tV T W f)) (r : PVs X T W es fs) (hs : starEach (e :: es) X.env = (false, eval e X.env) :: starEach es X.env := by rfl) : PVs X T W (e :: es) (f :: fs)
theorem PVs.pa {X : Cx} {T : Tab} {W : WX} {es : List Expr} {fs : List EvE} (h : PVs X T W es fs) : PA X es (tL T W (eVals fs)) := by
  induction h with
  | nil => exact den_aNil
  | cons h r hs ih => exact den_aCons h ih hs
theorem PVs.len {X : Cx} {T : Tab} {W : WX} {es : List Expr} {fs : List EvE} (h : PVs X T W es fs) : fs.length = es.length := by
  induction h with
  | nil => rfl
  | cons h r hs ih => simp [ih]
theorem vals_len : ∀ {fs : List EvE} {rho : EnvD} {M M' : Mem} {ds : List D}, eVals fs rho M = .ok ds M' → ds.length = fs.length
  | [], rho, M, M', ds, h => by cases h; rfl
  | f :: fs, rho, M, M', ds, h => by
    simp only [eVals, eACons] at h
    cases e : f rho M with
    | bad => rw [e] at h; cases h
    | exc x M1 => rw [e] at h; cases h
    | ok d M1 =>
      rw [e] at h
      simp only [Res.bind] at h
      cases e2 : eVals fs rho M1 with
      | bad => rw [e2] at h; cases h
      | exc x M1 => rw [e2] at h; cases h
      | ok ds2 M2 =>
        rw [e2] at h
        cases h
        simp [vals_len e2]
/-- a def of the text as it stands behind the top -/
structure DefF (T : Tab) (mg : Str → Option Value) (k : Nat) (x : Str) (st : Stmt) (ps : List Str) (cdv : Value) : Prop where
  ex : ∃ (oc : Value) (od : Option Addr) (kV doc pm : Value) (an : Option Addr) (ct : Value) (osl : Array (Option Value)),
    T.fd k = PySem.W.fnOf x x (defArgs st) (defBody st) (defScope st) .none kV doc pm an cdv ct ∧ T.K.lookup (T.fa k) = some ⟨oc, od, .func (T.fd k), osl⟩ ∧ PySem.W.codeIn T.K cdv x = true
  kp : PySem.W.keepIn T.K (.ref (T.fa k)) = true
  mg : mg x = some (.ref (T.fa k))
  psk : T.ps k = ps
  b : Binds T.K (T.fd k) ps []
section
variable {P : Program} {w : World} {mg : Str → Option Value} {base : Heap} {T : Tab} {n k : Nat}
theorem DefF.fn {x : Str} {st : Stmt} {ps N : List Str} {cdv : Value} {sem : EvS} (Dk : DefF T mg k x st ps cdv) (S : FnScope N ps (defScope st)) (gdk : GdOk T w)
    (hbody : ∀ (A : Around) (outer : List Env) (s : Shared) (H : Hp) (E : XK), Gd (cxOf (L2.CX P w) P w T.K mg base N x (defScope st) (T.fa k) cdv A outer s H E) T n →
      PSs (cxOf (L2.CX P w) P w T.K mg base N x (defScope st) (T.fa k) cdv A outer s H E) (defBody st) (tS T (fun c d _ H => E c d H) sem)) : FnG P w mg base T (n + 1) k (runBody sem N.length) := by
  obtain ⟨oc, od, kV, doc, pm, an, ct, osl, hfd, lk, hcd⟩ := Dk.ex
  exact fn_body lk hfd hcd (by rw [Dk.psk]; exact S) hbody gdk
theorem DefF.fnT {x : Str} {st : Stmt} {ps N : List Str} {cdv : Value} {sem : EvS} (Dk : DefF T mg k x st ps cdv) (S : FnScope N ps (defScope st)) (gdk : GdOk T w) (hps : ps ≠ []) (hnc : (defScope st).names.all (fun y => !decide (y.2 = .cell)) = true)
    (hbody : ∀ (A : Around) (outer : List Env) (s : Shared) (H : Hp) (E : XK), Gd (cxOf (L2.CX P w) P w T.K mg base N x (defScope st) (T.fa k) cdv A outer s H E) T n →
      PSsT (cxOf (L2.CX P w) P w T.K mg base N x (defScope st) (T.fa k) cdv A outer s H E) (defBody st) (tS T (fun c d _ H => E c d H) sem)) : FnG P w mg base T (n + 1) k (runBody sem N.length) := by
  obtain ⟨oc, od, kV, doc, pm, an, ct, osl, hfd, lk, hcd⟩ := Dk.ex
  refine fn_bodyT lk hfd hcd (by rw [Dk.psk]; exact S) (by rw [Dk.psk]; exact hps) (fun y hy => ?_) hbody gdk
  have := List.all_eq_true.mp hnc y hy
  simpa using this
end
section
variable {X : Cx} {T : Tab} {n k : Nat} {W : WX} {a b c e : Expr} {es : List Expr} {fa fb fc fe : EvE} {fs : List EvE} {pos p apos cpos : Pos}
theorem q_var (i : Nat) {x : Str} (hN : X.N[i]? = some x := by rfl) (hv : visB X.env.scope x = true := by rfl) (hd : (x == ("__debug__" : Str)) = false := by rfl) (hcd : (x == ("__classdict__" : Str)) = false := by rfl) : PE X (.Name x pos) (tV T W (eVar i)) := den_var hN (vis_by hv) hd hcd
theorem q_int {i : Int} {j : Nat} : PE X (.Constant (.int i) j pos) (tV T W (eCon (.int i))) := den_con pe_int fun _ _ => Rep.int_mk i
theorem q_str {x : Str} {j : Nat} : PE X (.Constant (.str x) j pos) (tV T W (eCon (.str x))) := den_con pe_str fun _ _ => Rep.str_mk x
theorem q_non {j : Nat} : PE X (.Constant .none j pos) (tV T W (eCon .non)) := den_con pe_non fun _ _ => Rep.non_mk
theorem q_bl {v : Bool} {j : Nat} : PE X (.Constant (.bool v) j pos) (tV T W (eCon (.bl v))) := den_con pe_bl fun _ _ => Rep.bl_mk v
/-- a constant of the module -/
structure Con (T : Tab) (mg : Str → Option Value) (x : Str) (d : D) : Prop where
  ex : ∃ v u, mg x = some u ∧ RelV v u ∧ ∀ mu H, Rep T mu H d v
theorem q_con {x : Str} {d : D} (C : Con T X.mg x d) (hg : Gl X x := by rfl) (hd : (x == ("__debug__" : Str)) = false := by rfl) : PE X (.Name x pos) (tV T W (eCon d)) := by
  obtain ⟨v, u, h1, h2, h3⟩ := C.ex
  exact den_con (pe_glob hg h1 h2 hd) h3
theorem q_bin {op : Operator} {g : D → D → Mem → Op1} (o : Op2 X T (binaryOp op) g) (ha : PE X a (tV T W fa)) (hb : PE X b (tV T W fb)) : PE X (.BinOp a op b pos) (tV T W (eBin g fa fb)) := den_op o ha hb
theorem q_cmp {op : CmpOp} {g : D → D → Mem → Op1} (o : Op2 X T (compareOp op) g) (ha : PE X a (tV T W fa)) (hb : PE X b (tV T W fb)) (hm : behindInMarks op b = false := by rfl) : PE X (.Compare a [op] [b] pos) (tV T W (eBin g fa fb)) := den_cmp o ha hb hm
theorem q_cmpT {op : CmpOp} {g : D → D → Mem → Op1} (o : Op2 X T (compareOp op) g) (ha : PE X a (tV T W fa)) (hb : PE X b (tV T W fb)) (hm : behindInMarks op b = false := by rfl) : PT X (.Compare a [op] [b] pos) (tB T W (eBool (eBin g fa fb))) := denT_cmp o ha hb hm
theorem q_chain {op op' : CmpOp} {g g' : D → D → Mem → Op1} (o : Op2 X T (compareOp op) g) (o' : Op2 X T (compareOp op') g') (ha : PE X a (tV T W fa)) (hb : PE X b (tV T W fb)) (hc : PE X c (tV T W fc)) (hm : lastMarks [op, op'] [b, c] = false := by rfl) :
    PE X (.Compare a [op, op'] [b, c] pos) (tV T W (eChain g g' fa fb fc)) := den_chain o o' ha hb hc hm
theorem q_chainT {op op' : CmpOp} {g g' : D → D → Mem → Op1} (o : Op2 X T (compareOp op) g) (o' : Op2 X T (compareOp op') g') (ha : PE X a (tV T W fa)) (hb : PE X b (tV T W fb)) (hc : PE X c (tV T W fc)) (hm : lastMarks [op, op'] [b, c] = false := by rfl) :
    PT X (.Compare a [op, op'] [b, c] pos) (tB T W (eBool (eChain g g' fa fb fc))) := denT_chain o o' ha hb hc hm
theorem q_tru (G : Gd X T n) (ha : PE X a (tV T W fa)) (he : ∀ whole, isTrue a X.env whole = (do let v ← whole; standAt a.pos; holding [v] (truthy v)) := by intro _; rfl) : PT X a (tB T W (eTru fa)) := denT_tru G ha he
theorem q_one {op : BoolOp} (ha : PE X a (tV T W fa)) : PE X (.BoolOp op [a] pos) (tV T W fa) := pe_one ha
theorem q_tup {j : Nat} (h : PVs X T W es fs) : PE X (.Tuple es j pos) (tV T W (eTup (eVals fs))) := den_tup h.pa
theorem q_lst (h : PVs X T W es fs) : PE X (.List es pos) (tV T W (eLst (eVals fs))) := den_lst h.pa
theorem q_ix (G : Gd X T n) (ha : PE X a (tV T W fa)) (hb : PE X b (tV T W fb)) (hs : PlainIx b := by exact fun _ _ => rfl) : PE X (.Subscript a b pos) (tV T W (eBin (oIdx T.gt) fa fb)) := den_ix G ha hb hs
theorem q_blt {id : String} {x : Str} {g : List D → Mem → Op1} (c : Cal X T (.builtin id) g) (hm : X.mg x = none) (ha : PVs X T W (e :: es) fs) (hg : Gl X x := by rfl) (hv : bootBuiltins x = some (.builtin id) := by rfl)
    (hn : x ≠ "__name__" := by decide) (hdb : (x == ("__debug__" : Str)) = false := by rfl) (he : starEach (e :: es) X.env = (false, eval e X.env) :: starEach es X.env := by rfl) (hpl : (backTo pos (starEach es X.env)).any (·.1) = false := by rfl) :
    PE X (.Call (.Name x p) (e :: es) [] pos) (tV T W (eBlt g (eVals fs))) := den_blt c hg hm hv ha.pa hn hdb he hpl
theorem q_bltT {id : String} {x : Str} {g : List D → Mem → Op1} (c : Cal X T (.type id) g) (hm : X.mg x = none) (ha : PVs X T W (e :: es) fs) (hg : Gl X x := by rfl) (hv : bootBuiltins x = some (.type id) := by rfl)
    (hn : x ≠ "__name__" := by decide) (hdb : (x == ("__debug__" : Str)) = false := by rfl) (he : starEach (e :: es) X.env = (false, eval e X.env) :: starEach es X.env := by rfl) (hpl : (backTo pos (starEach es X.env)).any (·.1) = false := by rfl) :
    PE X (.Call (.Name x p) (e :: es) [] pos) (tV T W (eBlt g (eVals fs))) := den_bltT c hg hm hv ha.pa hn hdb he hpl
theorem q_isi {t : String} {y : Str} {p2 : Pos} (G : Gd X T n) (ha : PE X a (tV T W fa)) (hm : X.mg "isinstance" = none) (hmy : X.mg y = none) (hg : Gl X "isinstance" := by rfl) (hgy : Gl X y := by rfl) (hvy : bootBuiltins y = some (.type t) := by rfl)
    (hn : y ≠ "__name__" := by decide) (hdb : (y == ("__debug__" : Str)) = false := by rfl)
    (hs : starEach [a, .Name y p2] X.env = (false, eval a X.env) :: starEach [.Name y p2] X.env := by rfl) (hs2 : starEach [.Name y p2] X.env = (false, eval (.Name y p2) X.env) :: starEach [] X.env := by rfl) (hpl : (backTo pos (starEach [.Name y p2] X.env)).any (·.1) = false := by rfl)
    (hb : bootBuiltins "isinstance" = some (.builtin "isinstance") := by rfl) :
    PE X (.Call (.Name "isinstance" p) [a, .Name y p2] [] pos) (tV T W (eIsi t fa)) := den_isi G ha hg hm hgy hmy hvy hn hdb hs hs2 hpl hb
theorem q_mth {t id : String} {name : Str} {m : D → List D → Mem → Op1} (pa : PlainAttrs t) (slot : Slot t name id) (hty : typeOf (.builtin id) = pure (.type "method_descriptor")) (hm : MtS X T id m) (ho : PE X a (tV T W fa)) (ha : PVs X T W (e :: es) fs)
    (hbase : attributeBase a name X.env (eval a X.env) = eval a X.env := by rfl)
    (hfew : ((backTo cpos (starEach (e :: es) X.env)).all (fun x => !x.1) && (backToKw cpos (keywordEach [] X.env)).all (fun x => x.1.isSome)
      && decide ((e :: es).length + ([] : List Keyword).length + (if ([] : List Keyword).isEmpty then 0 else 1) < 30)) = true := by rfl)
    (hline : (apos.endLine == cpos.line) = true := by rfl) (hs : starEach (e :: es) X.env = (false, eval e X.env) :: starEach es X.env := by rfl) (hplain : (backTo cpos (starEach es X.env)).any (·.1) = false := by rfl) :
    PE X (.Call (.Attribute a name apos) (e :: es) [] cpos) (tV T W (eMth t m fa (eVals fs))) := den_mth pa slot hty hm ho ha.pa hbase hfew hline hs hplain
theorem q_mthT {t id : String} {name : Str} {m : D → List D → Mem → Op1} (pa : PlainAttrs t) (slot : Slot t name id) (hty : typeOf (.builtin id) = pure (.type "method_descriptor")) (hm : MtS X T id m) (ho : PET X a (tV T W fa)) (ha : PVs X T W (e :: es) fs)
    (hbase : attributeBase a name X.env (eval a X.env) = eval a X.env := by rfl)
    (hfew : ((backTo cpos (starEach (e :: es) X.env)).all (fun x => !x.1) && (backToKw cpos (keywordEach [] X.env)).all (fun x => x.1.isSome)
      && decide ((e :: es).length + ([] : List Keyword).length + (if ([] : List Keyword).isEmpty then 0 else 1) < 30)) = true := by rfl)
    (hline : (apos.endLine == cpos.line) = true := by rfl) (hs : starEach (e :: es) X.env = (false, eval e X.env) :: starEach es X.env := by rfl) (hplain : (backTo cpos (starEach es X.env)).any (·.1) = false := by rfl) :
    PET X (.Call (.Attribute a name apos) (e :: es) [] cpos) (tV T W (eMth t m fa (eVals fs))) := den_mthT pa slot hty hm ho ha.pa hbase hfew hline hs hplain
theorem q_repl {y z : Str} {j k : Nat} {c0 c1 : Pos} (ho : PE X a (tV T W fa)) (hyz : (y == z) = false := by rfl)
    (hst : starEach [.Constant (.str y) j c0, .Constant (.str z) k c1] X.env = [(false, eval (.Constant (.str y) j c0) X.env), (false, eval (.Constant (.str z) k c1) X.env)] := by rfl)
    (hbase : attributeBase a "replace" X.env (eval a X.env) = eval a X.env := by rfl) (hline : (apos.endLine == pos.line) = true := by rfl) :
    PET X (.Call (.Attribute a "replace" apos) [.Constant (.str y) j c0, .Constant (.str z) k c1] [] pos) (tV T W (eRepl y z fa)) := den_repl ho hyz hst hbase hline
theorem q_call {x : Str} {st : Stmt} {ps : List Str} {cdv : Value} {lv : Nat} {g : List D → Mem → Res D} (G : Gd X T n) (F : FnG X.prog X.w X.mg X.base T lv k g) (Dk : DefF T X.mg k x st ps cdv) (tk : Takes X W) (ha : PVs X T W (e :: es) fs) (hlv : lv ≤ n := by decide)
    (hl : (e :: es).length = ps.length := by rfl) (hg : Gl X x := by rfl) (hdb : (x == ("__debug__" : Str)) = false := by rfl) (he : starEach (e :: es) X.env = (false, eval e X.env) :: starEach es X.env := by rfl) (hpl : (backTo pos (starEach es X.env)).any (·.1) = false := by rfl) :
    PE X (.Call (.Name x p) (e :: es) [] pos) (tV T W (eCall g (eVals fs))) := by
  have := den_call (pos := pos) (p := p) (dds := []) G (F.mono hlv) tk hg Dk.mg (by rw [G.K]; exact Dk.kp) (by rw [G.K, Dk.psk]; exact Dk.b) .nil (fun _ _ => RepL.nil) ha.pa (by rw [Dk.psk]; simpa using hl) (fun rho M ds M' h => by rw [vals_len h, ha.len]) hdb he hpl
  simpa only [List.append_nil] using this
theorem q_lc {elt tg iter : Expr} {ifs : List Expr} {scope : Scope} (own : List (Str × Nat)) {sv : EvI} {t : Tgt} {vt : EvT} {ve : EvE} {tt : TT} (G : Gd X T n) (hi : PI X tg iter (tI T W sv))
    (hg : ∀ (s : Shared) (H : Hp) (C : Addr) (cl : List (Str × Addr)) (fp : List Addr), PG (X.blk s H scope (compEnvC scope cl C X.env) fp) tg (gT T.K t))
    (ht : ∀ (s : Shared) (H : Hp) (C : Addr) (cl : List (Str × Addr)) (fp : List Addr), PTs (X.blk s H scope (compEnvC scope cl C X.env) fp) ifs tt) (htt : ∀ σ H Q, tB T W0 vt σ H Q → tt σ H Q)
    (he : ∀ (s : Shared) (H : Hp) (C : Addr) (cl : List (Str × Addr)) (fp : List Addr), PE (X.blk s H scope (compEnvC scope cl C X.env) fp) elt (tV T W0 ve)) (ok : blkB X.N X.env.scope scope own = true := by rfl) (hs : ∀ x, foldedSetIterable iter X.env x = pure x := by exact fun _ => rfl) (hvs : t.slots.all (fun i => (own.map (·.2)).contains i) = true := by rfl) :
    PE X (.ListComp elt [⟨tg, iter, ifs, 0⟩] scope pos) (tV T W (eLc sv t (own.map (·.2)) vt ve)) := den_lc G hi (blk_by ok) hg ht htt he hs (by
  intro i hi
  have := List.all_eq_true.mp hvs i hi
  simpa using this)
theorem q_nm (i : Nat) {x : Str} (hN : X.N.Nodup) (hi : X.N[i]? = some x := by rfl) (hl : locB X.env.scope x = true := by rfl) (hf : X.fn x = true ∨ X.env.scope.names.lookup x = some .local := by first | exact .inr rfl | exact .inl rfl) : PG X (.Name x pos) (gT T.K (.nm i)) := pg_name hN hi (loc_by hl) hf
inductive PNs (X : Cx) : List Expr → List Nat → Prop where
  | nil : PNs X [] []
  | cons (i : Nat) {x : Str} {p : Pos} {es : List Expr} {is : List Nat} (r : PNs X es is) (hi : X.N[i]? = some x := by rfl) (hl : locB X.env.scope x = true := by rfl) (hf : X.fn x = true ∨ X.env.scope.names.lookup x = some .local := by first | exact .inr rfl | exact .inl rfl)
      (ha : (assignEach (.Name x p :: es) X.env).map (·.2) = assign (.Name x p) X.env :: (assignEach es X.env).map (·.2) := by rfl) : PNs X (.Name x p :: es) (i :: is)
theorem PNs.pgs {X : Cx} {es : List Expr} {is : List Nat} (h : PNs X es is) (hN : X.N.Nodup) : PGs X es (gNames is) := by
  induction h with
  | nil => exact pgs_nil
  | cons i r hi hl hf ha ih => exact pgs_cons (pg_name hN hi (loc_by hl) hf) ih ha
theorem q_tp {is : List Nat} {j : Nat} (G : Gd X T n) (h : PNs X es is) (h1 : (assignEach es X.env).length = is.length := by rfl) (h2 : List.findIdx? (fun x => x.1) (assignEach es X.env) = none := by rfl) : PG X (.Tuple es j pos) (gT T.K (.tp is)) := by
  show PG X _ (gTup T.K is.length (gNames is))
  rw [← G.K]
  exact pg_tup G.calm (h.pgs G.nd) h1 h2
end
section
variable {X : Cx} {T : Tab} {n : Nat} {W : WX} {st : Stmt} {sts : List Stmt} {f g : EvS} {pos : Pos} {e : Expr} {fe : EvE}
theorem q_expr (he : PE X e (tV T W fe)) (hs : swapsWith e none pos.line X.env = pure false := by rfl) : PS X (.Expr e pos) (tS T W (sExpr fe)) := den_expr he hs
theorem q_asg {tg : Expr} {t : Tgt} (hg : PG X tg (gT T.K t)) (he : PE X e (tV T W fe)) (hs : swapsWithSole [tg] e pos.line X.env = pure false := by rfl) (hw : swappedStores [tg] e X.env = pure none := by rfl)
    (h1 : (assignEach [tg] X.env).map (·.2) = [assign tg X.env] := by rfl) : PS X (.Assign [tg] e pos) (tS T W (sAsg t fe)) := den_asg he hg hs hw h1
theorem q_asgT {tg : Expr} {t : Tgt} (hg : PG X tg (gT T.K t)) (he : PET X e (tV T W fe)) (hs : swapsWithSole [tg] e pos.line X.env = pure false := by rfl) (hw : swappedStores [tg] e X.env = pure none := by rfl)
    (h1 : (assignEach [tg] X.env).map (·.2) = [assign tg X.env] := by rfl) : PST X (.Assign [tg] e pos) (tS T W (sAsg t fe)) := den_asgT he hg hs hw h1
theorem q_for {tg iter : Expr} {t : Tgt} {fs : EvI} {body : List Stmt} (G : Gd X T n) (hp : PassesOwn (model X.prog X.w) X.A X.env X.xe) (hi : PI X tg iter (tI T W fs)) (hg : PG X tg (gT T.K t)) (hb : PSs X body (tS T W f))
    (hs : ∀ x, foldedSetIterable iter X.env x = pure x := by exact fun _ => rfl) : PS X (.For tg iter body [] pos) (tS T W (sFor fs t f)) := den_for G hp hi hg hb hs
theorem q_put {o i : Expr} {fo fi : EvE} {pos' : Pos} (G : Gd X T n) (he : PE X e (tV T W fe)) (ho : PE X o (tV T W fo)) (hi : PE X i (tV T W fi))
    (ha : ∀ v, assign (.Subscript o i pos') X.env v = (do
      let ov ← holding [v] (eval o X.env)
      let iv ← holding [v, ov] (eval i X.env)
      standAt pos'
      holding [v, ov, iv] (setItem ov iv v)
      release [v, ov, iv] []) := by exact fun _ => rfl)
    (hs : swapsWithSole [.Subscript o i pos'] e pos.line X.env = pure false := by rfl) (hw : swappedStores [.Subscript o i pos'] e X.env = pure none := by rfl)
    (h1 : (assignEach [.Subscript o i pos'] X.env).map (·.2) = [assign (.Subscript o i pos') X.env] := by rfl) : PS X (.Assign [.Subscript o i pos'] e pos) (tS T W (sPut fo fi fe)) := den_put G he ho hi ha hs hw h1
theorem q_rng1 {a tg : Expr} {fs : List EvE} {p : Pos} (hm : X.mg "range" = none) (ha : PVs X T W [a] fs) (hg : Gl X "range" := by rfl) (hs : starEach [a] X.env = [(false, eval a X.env)] := by rfl) : PI X tg (.Call (.Name "range" p) [a] [] pos) (tI T W (eRng (eVals fs))) := den_rng1 hg hm ha.pa hs
end
end VI
namespace VI
open PySem PySem.Spec L2

/-- an own error with one field, as it stands behind the top -/
structure RaiseF (P : Program) (w : World) (mg : Str → Option Value) (base : Heap) (T : Tab) (c : Nat) (x f : Str) : Prop where
  oex : OexC T.K (T.ca c)
  glo : mg x = some (.ref (T.ca c))
  no : PySem.W.findIn T.K (.ref (T.ca c)) f = some none
  init : ∃ (fI : Addr) (fd : FuncData) (ps : List Str), PySem.W.findIn T.K (.ref (T.ca c)) "__init__" = some (some (.ref fI)) ∧ PySem.W.typeIn T.K (.ref fI) = some (.type "function") ∧ FnOk P w T.K mg base CX0 1 fI fd ps (spOx T.K f) ∧ Binds T.K fd ps []
/-- the def __init__ of such an error -/
theorem init_ok {P : Program} {w : World} {K : PySem.W.Frag} {mg : Str → Option Value} {base : Heap} {qual y a b t f : Str} {st : Stmt} {fI CH : Addr} {fd : FuncData} {p1 p2 p3 p4 p5 p6 p7 p8 pos pos2 : Pos} {j : Nat} (F : Fun K "__init__" qual st fI fd) (S : FnScope [a, b] [a, b] (defScope st))
    (hbd : defBody st = [.Expr (.Call (.Attribute (.Name y p1) "__init__" p2) [.Name a p5, .Constant (.str t) j p6] [] pos) p4, .Assign [.Attribute (.Name a p7) f p3] (.Name b p8) pos2])
    (hm : mg y = some (.ref CH)) (hr : PySem.W.readsIn K CH (.type "type") = true) (hsp : PySem.W.specialIn K (.ref CH) "__getattribute__" = some (some (.builtin "type.__getattribute__"))) (vV : PySem.W.findCls K (.ref CH) (.type "type") "__init__" = some (.val (.builtin "ValueError.__init__")))
    (hg : (defScope st).names.lookup y = some .globalImplicit) (hdb : (y == ("__debug__" : Str)) = false) (hva : visB (defScope st) a = true) (hvb : visB (defScope st) b = true) (hda : (a == ("__debug__" : Str)) = false) (hca : (a == ("__classdict__" : Str)) = false) (hdb2 : (b == ("__debug__" : Str)) = false) (hcb : (b == ("__classdict__" : Str)) = false)
    (hev : ∀ (cdv : Value) (A : Around) (outer : List Env) (s : Shared) (H : Hp) (E : XK), ∃ pl : Sem Bool, eval (.Call (.Attribute (.Name y p1) "__init__" p2) [.Name a p5, .Constant (.str t) j p6] [] pos) (cxOf CX0 P w K mg base [a, b] qual (defScope st) fI cdv A outer s H E).nox.env = (do
      let ov ← eval (.Name y p1) (cxOf CX0 P w K mg base [a, b] qual (defScope st) fI cdv A outer s H E).nox.env
      standAt p2.atName
      let (f, first) ← holding [ov] (getMethod ov "__init__" pl)
      callWith pos f first (backTo pos (starEach [.Name a p5, .Constant (.str t) j p6] (cxOf CX0 P w K mg base [a, b] qual (defScope st) fI cdv A outer s H E).nox.env)) (backToKw pos (keywordEach [] (cxOf CX0 P w K mg base [a, b] qual (defScope st) fI cdv A outer s H E).nox.env))))
    (hsw : ∀ (env : Env), swapsWith (.Call (.Attribute (.Name y p1) "__init__" p2) [.Name a p5, .Constant (.str t) j p6] [] pos) none p4.line env = pure false) (hsw2 : ∀ (env : Env), swapsWith (.Name b p8) (some (.Attribute (.Name a p7) f p3)) pos2.line env = pure false) :
    FnOk P w K mg base CX0 1 fI fd [a, b] (spOx K f) := by
  refine F.ok S (fun vs H Q E h => spOx_len h) fun cdv A outer s H vs Q E hr' h => ?_
  rw [hbd]
  have va : PE (cxOf CX0 P w K mg base [a, b] qual (defScope st) fI cdv A outer s H E).nox (.Name a p5) (tVar 0) := pe_var rfl (vis_by hva) hda hca
  have vb : PE (cxOf CX0 P w K mg base [a, b] qual (defScope st) fI cdv A outer s H E).nox (.Name b p8) (tVar 1) := pe_var rfl (vis_by hvb) hdb2 hcb
  have vc : PE (cxOf CX0 P w K mg base [a, b] qual (defScope st) fI cdv A outer s H E).nox (.Name a p7) (tVar 0) := pe_var rfl (vis_by hva) hda hca
  have ha : PA (cxOf CX0 P w K mg base [a, b] qual (defScope st) fI cdv A outer s H E).nox [.Name a p5, .Constant (.str t) j p6] (tCons (tVar 0) (tCons (tC (.str t)) tNil)) := pa_cons va (pa_cons pe_str pa_nil rfl) rfl
  obtain ⟨pl, hpl⟩ := hev cdv A outer s H E
  have h1 := pe_oinit (X := (cxOf CX0 P w K mg base [a, b] qual (defScope st) fI cdv A outer s H E).nox) (y := y) (p1 := p1) (p2 := p2) (pos := pos) (e := .Name a p5) (es := [.Constant (.str t) j p6]) hg hm hr hsp vV ha hpl rfl rfl hdb
  have h2 := ps_ost (X := (cxOf CX0 P w K mg base [a, b] qual (defScope st) fI cdv A outer s H E).nox) (f := f) (p' := p3) (pos := pos2) vc vb (hsw2 _)
  exact spOx_body (y1 := a) (y2 := b) (CH := CH) (pl := pure true) h1 h2 (hsw _) h rfl
section
variable {X : Cx} {T : Tab} {n : Nat} {W : WX} {c : Nat} {f : Str} {e : Expr} {p pos rpos : Pos} {fs : List EvE}
theorem q_raise {x : Str} (G : Gd X T n) (tk : Takes X W) (R : RaiseF X.prog X.w X.mg X.base T c x f) (ha : PVs X T W [e] fs) (hn : 2 ≤ n := by decide) (hg : Gl X x := by rfl) (hdb : (x == ("__debug__" : Str)) = false := by rfl)
    (he : starEach [e] X.env = (false, eval e X.env) :: starEach [] X.env := by rfl) (hpl : (backTo pos (starEach [] X.env)).any (·.1) = false := by rfl) :
    PS X (.Raise (some (.Call (.Name x p) [e] [] pos)) none rpos) (tS T W (eRaise c f (eVals fs))) := by
  obtain ⟨fI, fd, ps, h1, h2, h3, h4⟩ := R.init
  have eK := G.K
  exact den_raise (CX := CX0) (k := 1) G tk (by rw [eK]; exact R.oex) (by rw [eK]; exact h1) (by rw [eK]; exact h2) (by rw [eK]; exact h3) (G.room.mono hn) (by rw [eK]; exact h4) pass0 hg R.glo (by rw [eK]; exact R.no) ha.pa hdb he hpl
theorem q_tryKeep {x nm y : Str} {c : Value} (i j : Nat) {cs : Nat → Option Bool} {body : List Stmt} {np pn pa pv pos' : Pos} {sb : EvS} (G : Gd X T n) (tk : Takes X W) (hm : X.mg x = some c) (hcs : ∀ k b, cs k = some b → PySem.W.exmOne T.K (.ref (T.ca k)) c = some b)
    (hb : ∀ (W : WX) (pn : List (Addr × Obj)) (xe : Value → Shared → Prop), Takes (X.tr pn xe) W → PassesOwn (model X.prog X.w) X.A X.env xe → PSs (X.tr pn xe) body (tS T W sb))
    (hex : X.ex = [] := by rfl) (hs : X.stack = X.env :: X.outer := by rfl) (hf : X.env.frame = some X.env.locals := by rfl) (hi : X.N[i]? = some nm := by rfl) (hj : X.N[j]? = some y := by rfl) (hln : X.env.kindOf nm = some .local := by rfl) (hly : X.env.kindOf y = some .local := by rfl)
    (hg : Gl X x := by rfl) (hdx : (x == ("__debug__" : Str)) = false := by rfl) (hdn : (nm == ("__debug__" : Str)) = false := by rfl) (hdc : (nm == ("__classdict__" : Str)) = false := by rfl) :
    PS X (.Try body [.ExceptHandler (some (.Name x np)) (some nm) [.Assign [.Name y pn] (.Name nm pv) pa] pos'] [] [] pos) (tS T W (sTryKeep cs i j sb)) :=
  den_tryKeep G hex hs hf hi hj hln hly ⟨hg, hdx, .inl hm⟩ tk hdn hdc (by rw [G.K]; exact hcs) hb
theorem q_xf {a : Expr} {fa : EvE} {ok : Nat → Bool} (G : Gd X T n) (ha : PE X a (tV T W fa)) (hf : ∀ c, ok c = true → ExcC T.K (T.ca c) ∧ PySem.W.findIn T.K (.ref (T.ca c)) f = some none)
    (hb : attributeBase a f X.env (eval a X.env) = eval a X.env := by rfl) : PE X (.Attribute a f pos) (tV T W (eXf ok f fa)) := den_xf G ha (by rw [G.K]; exact hf) hb
/-- names of own classes -/
inductive PCl (X : Cx) (T : Tab) : List Expr → List Nat → Prop where
  | nil : PCl X T [] []
  | cons {x : Str} {p : Pos} {c : Nat} {es : List Expr} {cs : List Nat} (hm : X.mg x = some (.ref (T.ca c))) (r : PCl X T es cs) (hg : Gl X x := by rfl) (hd : (x == ("__debug__" : Str)) = false := by rfl)
      (hs : starEach (.Name x p :: es) X.env = (false, eval (.Name x p) X.env) :: starEach es X.env := by rfl) : PCl X T (.Name x p :: es) (c :: cs)
theorem PCl.pa {es : List Expr} {cs : List Nat} (h : PCl X T es cs) : PA X es (fun _ H Q => Q (cs.map fun c => V.ref (T.ca c)) H) := by
  induction h with
  | nil => exact pa_nil
  | cons hm r hg hd hs ih => exact pa_cons (pe_glob hg hm (v := .ref _) rfl hd) ih hs
theorem clsAll {T : Tab} : ∀ (cs : List Nat), Paired ClsV (cs.map fun c => V.ref (T.ca c)) (cs.map fun c => Value.ref (T.ca c))
  | [] => .nil
  | c :: cs => .cons (.own _) (clsAll cs)
theorem q_isXT {a : Expr} {fa : EvE} {es : List Expr} {cs : List Nat} {ok : Nat → Option Bool} {k : Nat} {p3 : Pos} (G : Gd X T n) (ha : PE X a (tV T W fa)) (hm : X.mg "isinstance" = none) (hes : PCl X T es cs)
    (hf : ∀ c b, ok c = some b → ExcC T.K (T.ca c) ∧ PySem.W.kitAny T.K (.ref (T.ca c)) (cs.map fun c => Value.ref (T.ca c)) = some b) (hz : cs.length ≤ 1000 := by decide) (hg : Gl X "isinstance" := by rfl)
    (hs : starEach [a, .Tuple es k p3] X.env = (false, eval a X.env) :: starEach [.Tuple es k p3] X.env := by rfl) (hs2 : starEach [.Tuple es k p3] X.env = (false, eval (.Tuple es k p3) X.env) :: starEach [] X.env := by rfl) (hpl : (backTo pos (starEach [.Tuple es k p3] X.env)).any (·.1) = false := by rfl)
    (hb : bootBuiltins "isinstance" = some (.builtin "isinstance") := by rfl) :
    PE X (.Call (.Name "isinstance" p) [a, .Tuple es k p3] [] pos) (tV T W (eIsX ok fa)) :=
  den_isXT G ha hg hm hes.pa (fun _ _ _ h => h) (by simpa using hz) (clsAll cs) (by rw [G.K]; exact hf) hs hs2 hpl hb
theorem q_isXO {a : Expr} {fa : EvE} {x : Str} {p2 : Pos} {c : Nat} {ok : Nat → Option Bool} (G : Gd X T n) (ha : PE X a (tV T W fa)) (hm : X.mg "isinstance" = none) (hmx : X.mg x = some (.ref (T.ca c)))
    (hf : ∀ k b, ok k = some b → ExcC T.K (T.ca k) ∧ PySem.W.kitOne T.K (.ref (T.ca k)) (.ref (T.ca c)) = some b) (hg : Gl X "isinstance" := by rfl) (hgx : Gl X x := by rfl) (hd : (x == ("__debug__" : Str)) = false := by rfl)
    (hs : starEach [a, .Name x p2] X.env = (false, eval a X.env) :: starEach [.Name x p2] X.env := by rfl) (hs2 : starEach [.Name x p2] X.env = (false, eval (.Name x p2) X.env) :: starEach [] X.env := by rfl) (hpl : (backTo pos (starEach [.Name x p2] X.env)).any (·.1) = false := by rfl)
    (hb : bootBuiltins "isinstance" = some (.builtin "isinstance") := by rfl) :
    PE X (.Call (.Name "isinstance" p) [a, .Name x p2] [] pos) (tV T W (eIsX ok fa)) :=
  den_isXO G ha hg hm (pe_glob hgx hmx (v := .ref _) rfl hd) (.own _) (by rw [G.K]; exact hf) hs hs2 hpl hb
theorem pe_tyB {x : Str} {t : String} {pos : Pos} (hg : Gl X x) (hm : X.mg x = none) (hv : bootBuiltins x = some (.type t)) (hn : x ≠ "__name__") (hd : (x == ("__debug__" : Str)) = false) : PE X (.Name x pos) (tC (.ty t)) :=
  ⟨fun _ _ _ H _ I h => ld_blt I hg hm hv ⟨.ty t, H, I, rfl, h⟩ hn hd⟩
theorem q_isXB {a : Expr} {fa : EvE} {x : Str} {t : String} {p2 : Pos} {ok : Nat → Option Bool} (G : Gd X T n) (ha : PE X a (tV T W fa)) (hm : X.mg "isinstance" = none) (hmx : X.mg x = none)
    (hf : ∀ k b, ok k = some b → ExcC T.K (T.ca k) ∧ PySem.W.kitOne T.K (.ref (T.ca k)) (.type t) = some b) (hv : bootBuiltins x = some (.type t) := by rfl) (hn : x ≠ "__name__" := by decide) (hg : Gl X "isinstance" := by rfl) (hgx : Gl X x := by rfl) (hd : (x == ("__debug__" : Str)) = false := by rfl)
    (hs : starEach [a, .Name x p2] X.env = (false, eval a X.env) :: starEach [.Name x p2] X.env := by rfl) (hs2 : starEach [.Name x p2] X.env = (false, eval (.Name x p2) X.env) :: starEach [] X.env := by rfl) (hpl : (backTo pos (starEach [.Name x p2] X.env)).any (·.1) = false := by rfl)
    (hb : bootBuiltins "isinstance" = some (.builtin "isinstance") := by rfl) :
    PE X (.Call (.Name "isinstance" p) [a, .Name x p2] [] pos) (tV T W (eIsX ok fa)) :=
  den_isXO G ha hg hm (pe_tyB hgx hmx hv hn hd) (.ty t) (by rw [G.K]; exact hf) hs hs2 hpl hb
/-- x(lambda: body) -/
theorem q_lamcall {x a : Str} {st : Stmt} {kg : Nat} {cdg : Value} {Ng : List Str} {co Pt : Addr} {params : Arguments} {body : Expr} {scope : Scope} {lpos : Pos} {q : Str} {sem : EvE → EvS} {fb : EvE} (is : List Nat) {gs : List D → Mem → Res D} {l : Nat} {X : Cx} (G : Gd X T n) (tk : Takes X W) (Dk : DefF T X.mg kg x st [a] cdg) (gdk : GdOk T X.w)
    (Sg : FnScope Ng [a] (defScope st))
    (hG : ∀ (fact : EvE) (A : Around) (outer : List Env) (s : Shared) (H : Hp) (E : XK), Gd (cxOf (L2.CX X.prog X.w) X.prog X.w T.K X.mg X.base Ng x (defScope st) (T.fa kg) cdg A outer s H E) T 0 →
      (∀ (W : WX) (pn : List (Addr × Obj)) (xe : Value → Shared → Prop) (p1 p2 : Pos), Takes ((cxOf (L2.CX X.prog X.w) X.prog X.w T.K X.mg X.base Ng x (defScope st) (T.fa kg) cdg A outer s H E).tr pn xe) W → PE ((cxOf (L2.CX X.prog X.w) X.prog X.w T.K X.mg X.base Ng x (defScope st) (T.fa kg) cdg A outer s H E).tr pn xe) (.Call (.Name a p1) [] [] p2) (tV T W fact)) →
      PSs (cxOf (L2.CX X.prog X.w) X.prog X.w T.K X.mg X.base Ng x (defScope st) (T.fa kg) cdg A outer s H E) (defBody st) (tS T (fun c d _ H => E c d H) (sem fact)))
    (TB : LamX.TabB X.base X.mg co Pt) (hmT : (Pt, q) ∈ T.tl) (hu : ∀ p ∈ T.tl, p.1 = Pt → p.2 = q) (hl : l + 2 ≤ n)
    (hbody : ∀ (A : Around) (outer : List Env) (s : Shared) (H : Hp) (E : XK) (f c' : Addr), Gd (LamX.lamCx X A outer s H E scope f c') T l → PE (LamX.lamCx X A outer s H E scope f c') body (tV T (fun c d _ H => E c d H) fb))
    (hinv : ∀ f c us ds M, runBody (sem (eAct 0 f c q us fun ds M => fb (capE X.N.length is ds) M)) Ng.length [.fn f c q ds us] M = gs ds M)
    (hbind : ∀ (q : Str) (cl : List (Str × Addr)) (pm cv ctv : Value), bindArgs (PySem.W.kla_fn "<lambda>" q params body scope cl pm cv ctv) ⟨[], []⟩ = pure [])
    (hcode : X.env.code = .ref co := by rfl) (hq : q = X.env.qual ++ "<lambda>" := by rfl) (hN0 : Ng[0]? = some a := by rfl) (hva : visB (defScope st) a = true := by rfl) (hL : LamX.lamSB X.env.scope scope = true := by rfl) (hdef : defaultsOf params X.env = ([], []) := by rfl) (hg : Gl X x := by rfl)
    (hdb : (x == ("__debug__" : Str)) = false := by rfl) (hd : (a == ("__debug__" : Str)) = false := by rfl) (hcd : (a == ("__classdict__" : Str)) = false := by rfl) (hs1 : starEach [.Lambda params body scope lpos] X.env = (false, eval (.Lambda params body scope lpos) X.env) :: starEach [] X.env := by rfl) (hpl : (backTo pos (starEach [] X.env)).any (·.1) = false := by rfl) :
    PE X (.Call (.Name x p) [.Lambda params body scope lpos] [] pos) (tV T W (eLamCall is gs)) := by
  obtain ⟨oc, od, kV, doc, pm, an, ct, osl, hfd, lk, hcdg⟩ := Dk.ex
  have eK := G.K
  have hb := Dk.b
  rw [hfd] at hb lk
  refine den_lamcall (m := 0) (n := l) (c := co) (P := Pt) (q := q) (is := is) (sem := sem) (fb := fb) (gs := gs) (Ng := Ng) ⟨G.K, G.calm, G.room.mono (by omega), G.guards, G.nd, G.gd⟩ tk hg Dk.mg (by rw [eK]; exact Dk.kp) (by rw [eK]; exact lk) (by rw [eK]; exact hcdg) (by rw [eK]; exact hb) Sg hN0 (vis_by hva) (fun fact s H E Gg act => ?_) TB hcode hq hmT hu (G.room.mono (by omega)) (G.room.mono hl) (LamX.lamS_by hL) hdef hbind hbody hinv gdk hdb hd hcd hs1 hpl
  have := hG fact X.A X.stack s H E
  rw [← eK] at this
  exact this Gg act
end
end VI
namespace VI
open PySem PySem.Spec L2

section
variable {X : Cx} {T : Tab} {n k : Nat} {W : WX} {a b c e : Expr} {es : List Expr} {fa fb fc fe : EvE} {fs : List EvE} {pos p apos cpos : Pos} {gt : Nat → List (Str × D)}
theorem t_ix (G : Gd X T n) (h : T.gt = gt) (ha : PE X a (tV T W fa)) (hb : PE X b (tV T W fb)) (hs : PlainIx b := by exact fun _ _ => rfl) : PE X (.Subscript a b pos) (tV T W (eBin (oIdx gt) fa fb)) := by
  subst h; exact den_ix G ha hb hs
theorem t_in (G : Gd X T n) (h : T.gt = gt) : Op2 X T (compareOp .In) (oIn gt) := by subst h; exact op_oIn G
theorem t_notIn (G : Gd X T n) (h : T.gt = gt) : Op2 X T (compareOp .NotIn) (oNotIn gt) := by subst h; exact op_oNotIn G
theorem tk_blk : Takes X W0 := LamX.takes0
theorem t_yes {T : Tab} : ∀ (σ : St) (H : Hp) (Q : Bool → Hp → Prop), tB T W0 eYes σ H Q → tYes σ H Q := fun σ H Q h => by
  obtain ⟨mu, M, rho, S, E, h⟩ := h
  exact OkG.here (rel := relB) S rfl h
theorem q_asgLc (i : Nat) {y : Str} {py : Pos} {elt tg iter : Expr} {ifs : List Expr} {scope : Scope} (own : List (Str × Nat)) {pos spos : Pos} {sv : EvI} {t : Tgt} {vt : EvT} {ve : EvE} {tt : TT} (G : Gd X T n)
    (hi : PI X tg iter (tI T W sv))
    (hg : ∀ (s : Shared) (H : Hp) (C : Addr) (cl : List (Str × Addr)) (fp : List Addr), PG (X.blk s H scope (compEnvC scope cl C X.env) fp) tg (gT T.K t))
    (ht : ∀ (s : Shared) (H : Hp) (C : Addr) (cl : List (Str × Addr)) (fp : List Addr), PTs (X.blk s H scope (compEnvC scope cl C X.env) fp) ifs tt) (htt : ∀ σ H Q, tB T W0 vt σ H Q → tt σ H Q)
    (he : ∀ (s : Shared) (H : Hp) (C : Addr) (cl : List (Str × Addr)) (fp : List Addr), PE (X.blk s H scope (compEnvC scope cl C X.env) fp) elt (tV T W0 ve))
    (hy : X.N[i]? = some y := by rfl) (hyl : X.env.scope.names.lookup y = some .local := by rfl) (hsw : swapsWith (.ListComp elt [⟨tg, iter, ifs, 0⟩] scope pos) (some (.Name y py)) spos.line X.env = pure true := by rfl)
    (ok : blkB X.N X.env.scope scope own = true := by rfl) (hs : ∀ x, foldedSetIterable iter X.env x = pure x := by exact fun _ => rfl) (hvs : t.slots.all (fun i => (own.map (·.2)).contains i) = true := by rfl) :
    PS X (.Assign [.Name y py] (.ListComp elt [⟨tg, iter, ifs, 0⟩] scope pos) spos) (tS T W (sAsg (.nm i) (eLc sv t (own.map (·.2)) vt ve))) := den_asgLc G hy hyl hsw hi (blk_by ok) hg ht htt he hs (by
  intro i hi
  have := List.all_eq_true.mp hvs i hi
  simpa using this)
end
section
variable {P : Program} {w : World} {K : PySem.W.Frag} {mg : Str → Option Value} {base : Heap} {N : List Str} {q : Str} {sc : Scope} {f : Addr} {cdv : Value} {A : Around} {outer : List Env} {s : Shared} {H : Hp} {E : XK}
theorem tk_fn : Takes (cxOf (L2.CX P w) P w K mg base N q sc f cdv A outer s H E) (fun c d _ H => E c d H) := takes_of rfl rfl rfl rfl
theorem hp_fn : PassesOwn (model P w) (cxOf (L2.CX P w) P w K mg base N q sc f cdv A outer s H E).A (cxOf (L2.CX P w) P w K mg base N q sc f cdv A outer s H E).env (cxOf (L2.CX P w) P w K mg base N q sc f cdv A outer s H E).xe := passes_of rfl
theorem tk_lam {X : Cx} {A : Around} {outer : List Env} {s : Shared} {H : Hp} {E : XK} {scope : Scope} {f c' : Addr} : Takes (LamX.lamCx X A outer s H E scope f c') (fun c d _ H => E c d H) := takes_of rfl rfl rfl rfl
end
end VI
namespace VI
open PySem PySem.Spec L2

/-! ### what the written part says, taken out of the head -/
structure RawF (K : PySem.W.Frag) (x : Str) (st : Stmt) (f : Addr) (fd : FuncData) (cdv : Value) : Prop where
  at_ : PySem.W.nsIn K mainGlobals x = some (some (.ref f))
  ex : ∃ (oc : Value) (od : Option Addr) (kV doc pm : Value) (an : Option Addr) (ct : Value) (osl : Array (Option Value)),
    fd = PySem.W.fnOf x x (defArgs st) (defBody st) (defScope st) .none kV doc pm an cdv ct ∧ K.lookup f = some ⟨oc, od, .func fd, osl⟩
  cd : PySem.W.codeIn K cdv x = true
  kp : PySem.W.keepIn K (.ref f) = true
theorem rawF {K : PySem.W.Frag} {x : Str} {st : Stmt} {f : Addr} {cdv : Value} {oc : Value} {od : Option Addr} {kV doc pm : Value} {an : Option Addr} {ct : Value} {osl : Array (Option Value)} (a : PySem.W.nsIn K mainGlobals x = some (some (.ref f)))
    (l : K.lookup f = some ⟨oc, od, .func (PySem.W.fnOf x x (defArgs st) (defBody st) (defScope st) .none kV doc pm an cdv ct), osl⟩) (c : PySem.W.codeIn K cdv x = true) (k : PySem.W.keepIn K (.ref f) = true) : ∃ f fd cdv, RawF K x st f fd cdv :=
  ⟨f, _, cdv, a, ⟨oc, od, kV, doc, pm, an, ct, osl, rfl, l⟩, c, k⟩
/-- a def that makes a lambda: its code object and that one's table -/
theorem rawM {K : PySem.W.Frag} {x : Str} {st : Stmt} {f co Pt : Addr} {oc : Value} {od : Option Addr} {kV doc pm : Value} {an : Option Addr} {ct : Value} {osl : Array (Option Value)} (a : PySem.W.nsIn K mainGlobals x = some (some (.ref f)))
    (l : K.lookup f = some ⟨oc, od, .func (PySem.W.fnOf x x (defArgs st) (defBody st) (defScope st) .none kV doc pm an (.ref co) ct), osl⟩) (c : PySem.W.codeIn K (.ref co) x = true) (k : PySem.W.keepIn K (.ref f) = true) {o : Obj} (lc : K.lookup co = some o)
    (hc : o.cls = .type "code" ∧ ∃ (vs : Array Value) (file : Str) (tf : Tok) (flags : Int) (tg : Tok) (inF : Bool) (text : Int) (tt : Tok), o.data = .fields vs ∧ vs[11]? = some (.ref Pt) ∧ vs.getD 11 .none = .ref Pt ∧ vs.getD 18 .none = .str file tf ∧ vs.getD 7 .none = .int flags tg ∧ vs.getD 9 .none = .bool inF ∧ vs.getD 10 .none = .int text tt ∧ co ≠ Pt) :
    ∃ f fd co Pt, RawF K x st f fd (.ref co) ∧ ∀ h : Heap, K.In h → PySem.W.CodeHd h co Pt := by
  obtain ⟨h1, vs, file, tf, flags, tg, inF, text, tt, h2⟩ := hc
  exact ⟨f, _, co, Pt, ⟨a, ⟨oc, od, kV, doc, pm, an, ct, osl, rfl, l⟩, c, k⟩, fun h X => ⟨o, vs, file, tf, flags, tg, inF, text, tt, X _ _ lc, h1, h2⟩⟩
theorem RawF.def {K : PySem.W.Frag} {x : Str} {st : Stmt} {f : Addr} {fd : FuncData} {cdv : Value} {h : Heap} {mg : Str → Option Value} {T : Tab} {k : Nat} {ps : List Str} (R : RawF K x st f fd cdv) (X : K.In h) (G : h.Ns mainGlobals mg) (eK : T.K = K) (ef : T.fa k = f) (ed : T.fd k = fd) (ep : T.ps k = ps)
    (hb : ∀ (kV doc pm : Value) (an : Option Addr) (cdv ct : Value) (us : List Value), us.length = ps.length → bindArgs (PySem.W.fnOf x x (defArgs st) (defBody st) (defScope st) .none kV doc pm an cdv ct) ⟨us, []⟩ = pure (ps.zip us)) : DefF T mg k x st ps cdv := by
  obtain ⟨oc, od, kV, doc, pm, an, ct, osl, h1, h2⟩ := R.ex
  have F : Fun K x x st f fd := ⟨⟨oc, od, kV, doc, pm, an, cdv, ct, osl, h1, by rw [h2], R.cd⟩, R.kp⟩
  subst eK ef ed ep
  exact ⟨⟨oc, od, kV, doc, pm, an, ct, osl, h1, h2, R.cd⟩, R.kp, PySem.W.mg_of X G R.at_, rfl, F.binds hb⟩
section
variable {K : PySem.W.Frag} {h : Heap} {mg : Str → Option Value} {T : Tab} {x : Str}
theorem conS {s : Str} {t : Tok} (X : K.In h) (G : h.Ns mainGlobals mg) (a : PySem.W.nsIn K mainGlobals x = some (some (.str s t))) : Con T mg x (.str s) := ⟨.str s, _, PySem.W.mg_of X G a, ⟨t, rfl⟩, fun _ _ => Rep.str_mk s⟩
theorem conI {i : Int} {t : Tok} (X : K.In h) (G : h.Ns mainGlobals mg) (a : PySem.W.nsIn K mainGlobals x = some (some (.int i t))) : Con T mg x (.int i) := ⟨.int i, _, PySem.W.mg_of X G a, ⟨t, rfl⟩, fun _ _ => Rep.int_mk i⟩
theorem conT {p : Addr} {o : Obj} {its : Array Value} {n : Nat} {vs : List V} {ds : List D} (eK : T.K = K) (X : K.In h) (G : h.Ns mainGlobals mg) (a : PySem.W.nsIn K mainGlobals x = some (some (.ref p))) (l : K.lookup p = some o) (hc : o.cls = .type "tuple" ∧ o.data = .seq its n ∧ its.size ≤ 1000 ∧ Vals vs its.toList)
    (r : ∀ mu H, RepL T mu H ds vs) : Con T mg x (.tup ds) := by
  refine ⟨.ref p, _, PySem.W.mg_of X G a, rfl, fun mu H => ?_⟩
  simp only [Rep]
  exact ⟨p, vs, rfl, .inr ⟨o, its, n, by rw [eK]; exact l, hc.1, hc.2.1, by rw [sizeLine_eq]; have := hc.2.2.1; omega, hc.2.2.2⟩, r mu H⟩
theorem conD {p : Addr} {k : Nat} (X : K.In h) (G : h.Ns mainGlobals mg) (a : PySem.W.nsIn K mainGlobals x = some (some (.ref p))) (e : T.ga k = p) : Con T mg x (.gd k) := ⟨.ref p, _, PySem.W.mg_of X G a, rfl, fun mu H => by simp only [Rep]; rw [e]⟩
/-- a written dict of texts -/
inductive EsR : List DictEntry → List (Str × D) → Prop where
  | nil : EsR [] []
  | str {e : DictEntry} {k x : Str} {t u : Tok} {es : List DictEntry} {l : List (Str × D)} (hk : e.key = .str k t) (hv : e.val = .str x u) (r : EsR es l) : EsR (e :: es) ((k, .str x) :: l)
  | int {e : DictEntry} {k : Str} {i : Int} {t u : Tok} {es : List DictEntry} {l : List (Str × D)} (hk : e.key = .str k t) (hv : e.val = .int i u) (r : EsR es l) : EsR (e :: es) ((k, .int i) :: l)
theorem EsR.find {es : List DictEntry} {l : List (Str × D)} (r : EsR es l) (z : Str) : (es.any fun x => x.refKey) = false ∧ match l.lookup z with
    | none => es.find? (fun x => x.key.isStr z) = none
    | some d => ∃ e v, es.find? (fun x => x.key.isStr z) = some e ∧ RelV v e.val ∧ ∀ (T : Tab) mu H, Rep T mu H d v := by
  induction r with
  | nil => exact ⟨rfl, rfl⟩
  | @str e k x t u es l hk hv r ih =>
    refine ⟨by rw [List.any_cons, ih.1, Bool.or_false]; unfold DictEntry.refKey; rw [hk], ?_⟩
    by_cases hz : z = k
    · subst hz
      have e1 : e.key.isStr z = true := by rw [hk]; simp [Value.isStr]
      have e2 : List.lookup z ((z, D.str x) :: l) = some (.str x) := by simp [List.lookup]
      rw [e2]
      exact ⟨e, .str x, by simp only [List.find?, e1], by rw [hv]; exact ⟨u, rfl⟩, fun T mu H => Rep.str_mk x⟩
    · have e1 : ¬ e.key.isStr z = true := by rw [hk]; simp [Value.isStr, Ne.symm hz]
      have e2 : List.lookup z ((k, D.str x) :: l) = l.lookup z := by
        have : (z == k) = false := by simpa using hz
        simp [List.lookup, this]
      rw [e2]
      have e3 : (e.key.isStr z) = false := by simpa using e1
      simp only [List.find?, e3]
      exact ih.2
  | @int e k x t u es l hk hv r ih =>
    refine ⟨by rw [List.any_cons, ih.1, Bool.or_false]; unfold DictEntry.refKey; rw [hk], ?_⟩
    by_cases hz : z = k
    · subst hz
      have e1 : e.key.isStr z = true := by rw [hk]; simp [Value.isStr]
      have e2 : List.lookup z ((z, D.int x) :: l) = some (.int x) := by simp [List.lookup]
      rw [e2]
      exact ⟨e, .int x, by simp only [List.find?, e1], by rw [hv]; exact ⟨u, rfl⟩, fun T mu H => Rep.int_mk x⟩
    · have e1 : ¬ e.key.isStr z = true := by rw [hk]; simp [Value.isStr, Ne.symm hz]
      have e2 : List.lookup z ((k, D.int x) :: l) = l.lookup z := by
        have : (z == k) = false := by simpa using hz
        simp [List.lookup, this]
      rw [e2]
      have e3 : (e.key.isStr z) = false := by simpa using e1
      simp only [List.find?, e3]
      exact ih.2
/-- a written dict as the interpreter knows it -/
structure RawD (K : PySem.W.Frag) (w : World) (x : Str) (p : Addr) (l : List (Str × D)) : Prop where
  at_ : PySem.W.nsIn K mainGlobals x = some (some (.ref p))
  kd : ∃ es n, KDict K w p es n ∧ EsR es.toList l
theorem rawD {w : World} {p : Addr} {es : Array DictEntry} {n : Nat} {l : List (Str × D)} (a : PySem.W.nsIn K mainGlobals x = some (some (.ref p))) (hl : K.lookup p = some ⟨.type "dict", none, .dict es n, #[]⟩) (lit : PySem.W.KeysLit w.params es.toList) (low : (p == sysModules) = false) (r : EsR es.toList l) : ∃ p, RawD K w x p l :=
  ⟨p, a, es, n, ⟨hl, lit, low⟩, r⟩
theorem RawD.gd {w : World} {p : Addr} {l : List (Str × D)} {k : Nat} (R : RawD K w x p l) (eK : T.K = K) (ea : T.ga k = p) (eg : T.gt k = l) : (∃ es n, KDict T.K w (T.ga k) es n) ∧ ∀ z, match (T.gt k).lookup z with
    | none => PySem.W.nsIn T.K (T.ga k) z = some none
    | some d => ∃ u v, PySem.W.nsIn T.K (T.ga k) z = some (some u) ∧ RelV v u ∧ ∀ mu H, Rep T mu H d v := by
  obtain ⟨es, n, kd, r⟩ := R.kd
  subst eK ea eg
  refine ⟨⟨es, n, kd⟩, fun z => ?_⟩
  obtain ⟨h1, h2⟩ := r.find z
  cases e : (T.gt k).lookup z with
  | none =>
    rw [e] at h2
    simp only at h2
    unfold PySem.W.nsIn
    rw [kd.at_]
    simp only [h2, h1, Bool.false_eq_true, if_false]
  | some d =>
    rw [e] at h2
    simp only at h2
    obtain ⟨en, v, h3, h4, h5⟩ := h2
    refine ⟨en.val, v, ?_, h4, fun mu H => h5 T mu H⟩
    unfold PySem.W.nsIn
    rw [kd.at_]
    simp only [h3]
/-- an own class of exceptions -/
structure RawX (K : PySem.W.Frag) (x : Str) (C : Addr) : Prop where
  at_ : PySem.W.nsIn K mainGlobals x = some (some (.ref C))
  oex : OexC K C
  exc : ExcC K C
theorem rawX {C : Addr} {nm q : Str} {N dd0 : Addr} {bs bm : List Value} {sn : List Str} {sub : List Value} {ab : Bool} {col : Option Bool} {dd : Option Addr} {k0 k1 k2 k3 k5 : Option Value} (a : PySem.W.nsIn K mainGlobals x = some (some (.ref C)))
    (l : K.lookup C = some (excClassObj nm q C N bs bm true sn sub ab col dd k0 k1 k2 k3 k5 "ValueError.__new__")) (hbm : HandSPX.refsVE bm = true)
    (sa : PySem.W.findIn K (.ref C) "__setattr__" = some (some (.builtin "object.__setattr__"))) (hs : PySem.W.subIn K (.ref C) (.type "BaseException") = some true) (ty : PySem.W.typeIn K (.ref C) = some (.type "type")) (kp : PySem.W.keepIn K (.ref C) = true)
    (hg : PySem.W.findIn K (.ref C) "__getattribute__" = some (some (.builtin "BaseException.__getattribute__"))) (hk : PySem.W.findIn K (.ref C) "__getattr__" = some none) (hd : PySem.W.hasDictIn K C = true) (ha : PySem.W.findIn K (.ref C) "__class__" = some (some (.builtin "object.__class__")))
    (hn : PySem.W.specialIn K (.builtin "object.__class__") "__get__" = some (some (.builtin "getset_descriptor.__get__"))) (ht : PySem.W.takesIn K (.builtin "object.__class__") = some true) (hm : PySem.W.mroIn K C (.type "object") = some true) : ∃ C, RawX K x C :=
  ⟨C, a, ⟨⟨nm, q, N, bs, bm, sn, sub, ab, col, dd, k0, k1, k2, k3, k5, l, hbm⟩, sa, hs, ty, kp⟩, ⟨hg, hk, hs, hd, ha, hn, ht, hm⟩⟩
theorem rawI {C fI : Addr} {qual : Str} {st : Stmt} {oc : Value} {od : Option Addr} {kV doc pm : Value} {an : Option Addr} {cdv ct : Value} {osl : Array (Option Value)} (iC : PySem.W.findIn K (.ref C) "__init__" = some (some (.ref fI))) (tI : PySem.W.typeIn K (.ref fI) = some (.type "function"))
    (l : K.lookup fI = some ⟨oc, od, .func (PySem.W.fnOf "__init__" qual (defArgs st) (defBody st) (defScope st) .none kV doc pm an cdv ct), osl⟩) (c : PySem.W.codeIn K cdv qual = true) (k : PySem.W.keepIn K (.ref fI) = true) :
    ∃ fI fd, PySem.W.findIn K (.ref C) "__init__" = some (some (.ref fI)) ∧ PySem.W.typeIn K (.ref fI) = some (.type "function") ∧ Fun K "__init__" qual st fI fd :=
  ⟨fI, _, iC, tI, ⟨oc, od, kV, doc, pm, an, cdv, ct, osl, rfl, l, c⟩, k⟩
theorem kitO {t : Value} {C : Addr} {b : Bool} (ht : PySem.W.typeIn K (.ref C) = some (.type "type")) (hd : PySem.W.hasDictIn K C = true) (hs : PySem.W.subIn K t (.ref C) = some b) (hne : (t == .ref C) = false) : PySem.W.kitOne K t (.ref C) = some b := by
  obtain ⟨cd, hc, _⟩ := PySem.W.any_some hd
  unfold PySem.W.kitOne
  rw [hne]
  simp only [Bool.false_eq_true, if_false]
  unfold PySem.W.kitCls
  simp only [hc, ht, Option.isSome_some, beq_self_eq_true, Bool.and_self, if_true]
  exact hs
theorem kitS {t : Value} : PySem.W.kitOne K t t = some true := by
  unfold PySem.W.kitOne
  simp
theorem kitB' {t : Value} {n : String} {b : Bool} (hm : PySem.W.kitMeta n = true) (hs : PySem.W.subIn K t (.type n) = some b) (hne : (t == .type n) = false) : PySem.W.kitOne K t (.type n) = some b := by
  unfold PySem.W.kitOne
  rw [hne]
  simp only [Bool.false_eq_true, if_false]
  unfold PySem.W.kitCls
  simp only [hm, if_true]
  exact hs
theorem kitF {t c : Value} {cs : List Value} {b : Bool} (h : PySem.W.kitOne K t c = some false) (hr : PySem.W.kitAny K t cs = some b) : PySem.W.kitAny K t (c :: cs) = some b := by
  unfold PySem.W.kitAny
  rw [h]
  exact hr
theorem kitT {t c : Value} {cs : List Value} (h : PySem.W.kitOne K t c = some true) : PySem.W.kitAny K t (c :: cs) = some true := by
  unfold PySem.W.kitAny
  rw [h]
theorem RawF.bind {st : Stmt} {f : Addr} {fd : FuncData} {cdv : Value} {ps : List Str} (R : RawF K x st f fd cdv)
    (hb : ∀ (kV doc pm : Value) (an : Option Addr) (cdv ct : Value) (us : List Value), us.length = ps.length → bindArgs (PySem.W.fnOf x x (defArgs st) (defBody st) (defScope st) .none kV doc pm an cdv ct) ⟨us, []⟩ = pure (ps.zip us)) (us : List Value) (hl : us.length = ps.length) (s : Shared) : BindsTo s fd ⟨us, []⟩ (ps.zip us) := by
  obtain ⟨oc, od, kV, doc, pm, an, ct, osl, h1, h2⟩ := R.ex
  rw [h1]
  exact .of_eq (hb _ _ _ _ _ _ us hl)
end
section
variable {K : PySem.W.Frag} {x : Str}
theorem rawF' {st : Stmt} {f f0 : Addr} {cdv : Value} {oc : Value} {od : Option Addr} {kV doc pm : Value} {an : Option Addr} {ct : Value} {osl : Array (Option Value)} (e : f = f0) (a : PySem.W.nsIn K mainGlobals x = some (some (.ref f)))
    (l : K.lookup f = some ⟨oc, od, .func (PySem.W.fnOf x x (defArgs st) (defBody st) (defScope st) .none kV doc pm an cdv ct), osl⟩) (c : PySem.W.codeIn K cdv x = true) (k : PySem.W.keepIn K (.ref f) = true) : ∃ f fd cdv, f = f0 ∧ RawF K x st f fd cdv :=
  ⟨f, _, cdv, e, a, ⟨oc, od, kV, doc, pm, an, ct, osl, rfl, l⟩, c, k⟩
theorem rawM' {st : Stmt} {f f0 co Pt Pt0 : Addr} {oc : Value} {od : Option Addr} {kV doc pm : Value} {an : Option Addr} {ct : Value} {osl : Array (Option Value)} (e : f = f0) (ep : Pt = Pt0) (a : PySem.W.nsIn K mainGlobals x = some (some (.ref f)))
    (l : K.lookup f = some ⟨oc, od, .func (PySem.W.fnOf x x (defArgs st) (defBody st) (defScope st) .none kV doc pm an (.ref co) ct), osl⟩) (c : PySem.W.codeIn K (.ref co) x = true) (k : PySem.W.keepIn K (.ref f) = true) {o : Obj} (lc : K.lookup co = some o)
    (hc : o.cls = .type "code" ∧ ∃ (vs : Array Value) (file : Str) (tf : Tok) (flags : Int) (tg : Tok) (inF : Bool) (text : Int) (tt : Tok), o.data = .fields vs ∧ vs[11]? = some (.ref Pt) ∧ vs.getD 11 .none = .ref Pt ∧ vs.getD 18 .none = .str file tf ∧ vs.getD 7 .none = .int flags tg ∧ vs.getD 9 .none = .bool inF ∧ vs.getD 10 .none = .int text tt ∧ co ≠ Pt) :
    ∃ f fd co Pt, f = f0 ∧ Pt = Pt0 ∧ RawF K x st f fd (.ref co) ∧ ∀ h : Heap, K.In h → PySem.W.CodeHd h co Pt := by
  obtain ⟨h1, vs, file, tf, flags, tg, inF, text, tt, h2⟩ := hc
  exact ⟨f, _, co, Pt, e, ep, ⟨a, ⟨oc, od, kV, doc, pm, an, ct, osl, rfl, l⟩, c, k⟩, fun h X => ⟨o, vs, file, tf, flags, tg, inF, text, tt, X _ _ lc, h1, h2⟩⟩
theorem rawD' {w : World} {p p0 : Addr} {es : Array DictEntry} {n : Nat} {l : List (Str × D)} (e : p = p0) (a : PySem.W.nsIn K mainGlobals x = some (some (.ref p))) (hl : K.lookup p = some ⟨.type "dict", none, .dict es n, #[]⟩) (lit : PySem.W.KeysLit w.params es.toList) (low : (p == sysModules) = false) (r : EsR es.toList l) : ∃ p, p = p0 ∧ RawD K w x p l :=
  ⟨p, e, a, es, n, ⟨hl, lit, low⟩, r⟩
theorem rawX' {C : Addr} {nm q : Str} {N : Addr} {bs bm : List Value} {sn : List Str} {sub : List Value} {ab : Bool} {col : Option Bool} {dd : Option Addr} {k0 k1 k2 k3 k5 : Option Value} (a : PySem.W.nsIn K mainGlobals x = some (some (.ref C)))
    (l : K.lookup C = some (excClassObj nm q C N bs bm true sn sub ab col dd k0 k1 k2 k3 k5 "ValueError.__new__")) (b : HandSPX.refsVE bm = true)
    (s : PySem.W.findIn K (.ref C) "__setattr__" = some (some (.builtin "object.__setattr__"))) (h : PySem.W.subIn K (.ref C) (.type "BaseException") = some true) (t : PySem.W.typeIn K (.ref C) = some (.type "type")) (k : PySem.W.keepIn K (.ref C) = true)
    (g : PySem.W.findIn K (.ref C) "__getattribute__" = some (some (.builtin "BaseException.__getattribute__"))) (e : PySem.W.findIn K (.ref C) "__getattr__" = some none) (d : PySem.W.hasDictIn K C = true) (i : PySem.W.findIn K (.ref C) "__class__" = some (some (.builtin "object.__class__")))
    (n : PySem.W.specialIn K (.builtin "object.__class__") "__get__" = some (some (.builtin "getset_descriptor.__get__"))) (u : PySem.W.takesIn K (.builtin "object.__class__") = some true) (m : PySem.W.mroIn K C (.type "object") = some true) : RawX K x C :=
  ⟨a, ⟨⟨nm, q, N, bs, bm, sn, sub, ab, col, dd, k0, k1, k2, k3, k5, l, b⟩, s, h, t, k⟩, ⟨g, e, h, d, i, n, u, m⟩⟩
end
end VI
namespace VI
open PySem PySem.Spec L2

/-! ### plain reckoning over the interpreter -/
def Ret {α : Type} (r : Res α) (M : Mem) (a : α) : Prop := ∃ M', r = .ok a M' ∧ M <+: M'
theorem pre_get {M M' : Mem} {l : Nat} {o : Ob} (h : M <+: M') (e : M[l]? = some o) : M'[l]? = some o := by
  obtain ⟨J, rfl⟩ := h
  rw [List.getElem?_append_left (List.getElem?_eq_some_iff.mp e).1]
  exact e
theorem pre_add (M : Mem) (J : List Ob) : M <+: M ++ J := ⟨J, rfl⟩
theorem pre_last (M : Mem) (o : Ob) : (M ++ [o])[M.length]? = some o := by simp
theorem lc_ret {src : Src} {t : Tgt} {cond : EvT} {elt : EvE} {rho : EnvD} {M0 : Mem} (c : D → Bool) (h : D → D) (st : ∀ M, M0 <+: M → src.stands M = true) : ∀ (xs acc : List D) (M : Mem), M0 <+: M →
    (∀ x ∈ xs, ∃ rho1, bindT t x rho = some rho1 ∧ ∀ M1, M0 <+: M1 → ∃ M2, cond rho1 M1 = .ok (c x) M2 ∧ M1 <+: M2 ∧ (c x = true → ∃ M3, elt rho1 M2 = .ok (h x) M3 ∧ M2 <+: M3)) → acc.length + xs.length ≤ lim →
    Ret (lcLoop src t cond elt xs acc rho M) M (acc ++ (xs.filter c).map h)
  | [], acc, M, hp, hb, hl => ⟨M, by simp [lcLoop, st M hp], List.prefix_refl M⟩
  | x :: xs, acc, M, hp, hb, hl => by
    obtain ⟨rho1, e1, hx⟩ := hb x List.mem_cons_self
    obtain ⟨M2, e2, p2, h3⟩ := hx M hp
    simp only [List.length_cons] at hl
    cases hc : c x with
    | false =>
      rw [hc] at e2
      obtain ⟨M', e, p⟩ := lc_ret c h st xs acc M2 (hp.trans p2) (fun y hy => hb y (List.mem_cons_of_mem _ hy)) (by omega)
      refine ⟨M', ?_, p2.trans p⟩
      simp only [lcLoop, st M hp, if_true, e1, e2]
      rw [e]
      simp [hc]
    | true =>
      obtain ⟨M3, e3, p3⟩ := h3 hc
      rw [hc] at e2
      obtain ⟨M', e, p⟩ := lc_ret c h st xs (acc ++ [h x]) M3 (hp.trans (p2.trans p3)) (fun y hy => hb y (List.mem_cons_of_mem _ hy)) (by simp; omega)
      refine ⟨M', ?_, (p2.trans p3).trans p⟩
      have hlt : acc.length < lim := by omega
      simp only [lcLoop, st M hp, if_true, e1, e2, e3, hlt]
      rw [e]
      simp [hc]
theorem lc_val {src : EvI} {s : Src} {t : Tgt} {vs : List Nat} {cond : EvT} {elt : EvE} {rho : EnvD} {M M1 : Mem} (c : D → Bool) (h : D → D) (es : src rho M = .ok s M1) (p1 : M <+: M1) (st : ∀ M', M1 <+: M' → s.stands M' = true)
    (hb : ∀ x ∈ s.items, ∃ rho1, bindT t x (wipeD rho vs) = some rho1 ∧ ∀ M1', M1 <+: M1' → ∃ M2, cond rho1 M1' = .ok (c x) M2 ∧ M1' <+: M2 ∧ (c x = true → ∃ M3, elt rho1 M2 = .ok (h x) M3 ∧ M2 <+: M3)) (hl : s.items.length ≤ lim) :
    ∃ M2, eLc src t vs cond elt rho M = .ok (.loc M2.length) (M2 ++ [.lst ((s.items.filter c).map h)]) ∧ M <+: M2 := by
  obtain ⟨M2, e, p⟩ := lc_ret c h st s.items [] M1 (List.prefix_refl M1) hb (by simpa using hl)
  refine ⟨M2, ?_, p1.trans p⟩
  unfold eLc
  rw [es]
  simp only [Res.bind]
  rw [e]
  simp
theorem bls_map (p : D → Bool) : ∀ xs : List D, mapO blOf (xs.map fun x => .bl (p x)) = some (xs.map p)
  | [] => rfl
  | x :: xs => by simp [mapO, blOf, bls_map p xs]
/-- all([.. for .. in ..]) -/
theorem all_val {src : EvI} {s : Src} {t : Tgt} {vs : List Nat} {elt : EvE} {rho : EnvD} {M M1 : Mem} (p : D → Bool) (es : src rho M = .ok s M1) (p1 : M <+: M1) (st : ∀ M', M1 <+: M' → s.stands M' = true)
    (hb : ∀ x ∈ s.items, ∃ rho1, bindT t x (wipeD rho vs) = some rho1 ∧ ∀ M1', M1 <+: M1' → ∃ M3, elt rho1 M1' = .ok (.bl (p x)) M3 ∧ M1' <+: M3) (hl : s.items.length ≤ lim) :
    Ret (eBlt oAll (eVals [eLc src t vs eYes elt]) rho M) M (.bl (s.items.all p)) := by
  obtain ⟨M2, e, q⟩ := lc_val (t := t) (vs := vs) (cond := eYes) (elt := elt) (fun _ => true) (fun x => .bl (p x)) es p1 st (fun x hx => by
    obtain ⟨r, e1, h1⟩ := hb x hx
    exact ⟨r, e1, fun M1' hp => ⟨M1', rfl, List.prefix_refl _, fun _ => h1 M1' hp⟩⟩) hl
  refine ⟨M2 ++ [.lst ((s.items.filter fun _ => true).map fun x => .bl (p x))], ?_, q.trans (pre_add _ _)⟩
  have ef : (s.items.filter fun _ => true) = s.items := List.filter_eq_self.mpr fun _ _ => rfl
  rw [ef] at e ⊢
  simp only [eBlt, eVals, eACons, eANil, e, Res.bind, liftO, oAll, blsD, pre_last, bls_map]
  simp [List.all_map, Function.comp_def]
/-- [x for x in .. if ..] == [] and != [] -/
theorem none_val {src : EvI} {s : Src} {i : Nat} {vs : List Nat} {cond : EvT} {rho : EnvD} {M M1 : Mem} (c : D → Bool) (hi : i < rho.length) (es : src rho M = .ok s M1) (p1 : M <+: M1) (st : ∀ M', M1 <+: M' → s.stands M' = true)
    (hb : ∀ x ∈ s.items, ∀ M1', M1 <+: M1' → Ret (cond ((wipeD rho vs).set i (some x)) M1') M1' (c x)) (hl : s.items.length ≤ lim) :
    ∃ M2, eLc src (.nm i) vs cond (eVar i) rho M = .ok (.loc M2.length) (M2 ++ [.lst (s.items.filter c)]) ∧ M <+: M2 := by
  have wl : ∀ (vs : List Nat) (rho : EnvD), (wipeD rho vs).length = rho.length := by
    intro vs
    induction vs with
    | nil => intro _; rfl
    | cons v vs ih => intro rho; simp [wipeD, ih]
  obtain ⟨M2, e, q⟩ := lc_val (t := .nm i) (vs := vs) (cond := cond) (elt := eVar i) c id es p1 st (fun x hx => ⟨_, rfl, fun M1' hp => by
    obtain ⟨M2, e, q⟩ := hb x hx M1' hp
    refine ⟨M2, e, q, fun _ => ⟨M2, ?_, List.prefix_refl _⟩⟩
    unfold eVar
    rw [List.getElem?_set_self (by rw [wl]; exact hi)]
    rfl⟩) hl
  exact ⟨M2, by simpa using e, q⟩
section
variable {a b : EvE} {s t : EvT} {rho : EnvD} {M : Mem} {f g : EvS}
@[simp] theorem v_var {i : Nat} : eVar i rho M = match rho[i]? with | some (some d) => .ok d M | _ => .bad := rfl
@[simp] theorem v_con {d : D} : eCon d rho M = .ok d M := rfl
@[simp] theorem v_bin {g : D → D → Mem → Op1} : eBin g a b rho M = (a rho M).bind fun x M1 => (b rho M1).bind fun y M2 => liftO (g x y M2) := rfl
@[simp] theorem v_tru : eTru a rho M = (a rho M).bind truR := rfl
@[simp] theorem v_not : eNot s rho M = (s rho M).bind fun b M1 => .ok (!b) M1 := rfl
@[simp] theorem v_andT : eAndT s t rho M = (s rho M).bind fun c M1 => if c then t rho M1 else .ok false M1 := rfl
@[simp] theorem v_orT : eOrT s t rho M = (s rho M).bind fun c M1 => if c then .ok true M1 else t rho M1 := rfl
@[simp] theorem v_andV : eAndV a b rho M = (a rho M).bind fun x M1 => (truR x M1).bind fun c M2 => if c then b rho M2 else .ok x M2 := rfl
@[simp] theorem v_orV : eOrV a b rho M = (a rho M).bind fun x M1 => (truR x M1).bind fun c M2 => if c then .ok x M2 else b rho M2 := rfl
@[simp] theorem v_ite {α : Type} {a b : EnvD → Mem → Res α} : eIte s a b rho M = (s rho M).bind fun k M1 => if k then a rho M1 else b rho M1 := rfl
@[simp] theorem v_chain {g g' : D → D → Mem → Op1} {c : EvE} : eChain g g' a b c rho M = (a rho M).bind fun x M1 => (b rho M1).bind fun y M2 => (liftO (g x y M2)).bind fun z M3 => match z with
  | .bl true => (c rho M3).bind fun w M4 => liftO (g' y w M4)
  | .bl false => .ok (.bl false) M3
  | _ => .bad := rfl
@[simp] theorem v_nil : eVals [] rho M = .ok [] M := rfl
@[simp] theorem v_cons {fs : List EvE} : eVals (a :: fs) rho M = (a rho M).bind fun x M1 => (eVals fs rho M1).bind fun xs M2 => .ok (x :: xs) M2 := rfl
@[simp] theorem v_tup {l : EvA} : eTup l rho M = (l rho M).bind fun xs M1 => if xs.length ≤ lim then .ok (.tup xs) M1 else .bad := rfl
@[simp] theorem v_lst {l : EvA} : eLst l rho M = (l rho M).bind fun xs M1 => if xs.length ≤ lim then .ok (.loc M1.length) (M1 ++ [.lst xs]) else .bad := rfl
@[simp] theorem v_bool : eBool a rho M = (a rho M).bind fun x M1 => match x with | .bl b => .ok b M1 | _ => .bad := rfl
@[simp] theorem v_blt {g : List D → Mem → Op1} {l : EvA} : eBlt g l rho M = (l rho M).bind fun xs M1 => liftO (g xs M1) := rfl
@[simp] theorem v_call {g : List D → Mem → Res D} {l : EvA} : eCall g l rho M = (l rho M).bind g := rfl
@[simp] theorem v_mth {ty : String} {m : D → List D → Mem → Op1} {l : EvA} : eMth ty m a l rho M = (a rho M).bind fun x M1 => if tyD M1 ty x then (l rho M1).bind fun xs M2 => liftO (m x xs M2) else .bad := rfl
@[simp] theorem v_isi {ty : String} : eIsi ty a rho M = (a rho M).bind fun x M1 => match isiD M1 ty x with | some b => .ok (.bl b) M1 | none => .bad := rfl
@[simp] theorem v_slc {lo hi : Option EvE} : eSlc a lo hi rho M = (a rho M).bind fun x M1 => (ePart lo rho M1).bind fun l M2 => (ePart hi rho M2).bind fun h M3 => liftO (oSlc x l h M3) := rfl
@[simp] theorem v_partN : ePart none rho M = .ok none M := rfl
@[simp] theorem v_partS {f : EvE} : ePart (some f) rho M = (f rho M).bind fun x M1 => match x with | .int i => .ok (some i) M1 | _ => .bad := rfl
@[simp] theorem v_seq : sSeq f g rho M = match f rho M with | .ok (.nx r) M1 => g r M1 | r => r := rfl
@[simp] theorem v_snil : sNil rho M = .ok (.nx rho) M := rfl
@[simp] theorem v_sif {c : EvT} : sIf c f g rho M = match c rho M with | .ok k M1 => (if k then f rho M1 else g rho M1) | .exc x M1 => .exc x rho M1 | .bad => .bad := by
  first | unfold sIf sWith | unfold sRet sWith | unfold sAsg sWith | unfold sExpr sWith
  cases h : c rho M <;> rfl
@[simp] theorem v_ret : sRet a rho M = match a rho M with | .ok d M1 => .ok (.rt d) M1 | .exc x M1 => .exc x rho M1 | .bad => .bad := by
  first | unfold sIf sWith | unfold sRet sWith | unfold sAsg sWith | unfold sExpr sWith
  cases h : a rho M <;> rfl
@[simp] theorem v_asg {t : Tgt} : sAsg t a rho M = match a rho M with | .ok d M1 => (match bindT t d rho with | some r => .ok (.nx r) M1 | none => .bad) | .exc x M1 => .exc x rho M1 | .bad => .bad := by
  first | unfold sIf sWith | unfold sRet sWith | unfold sAsg sWith | unfold sExpr sWith
  cases h : a rho M <;> rfl
@[simp] theorem v_expr : sExpr a rho M = match a rho M with | .ok d M1 => .ok (.nx rho) M1 | .exc x M1 => .exc x rho M1 | .bad => .bad := by
  first | unfold sIf sWith | unfold sRet sWith | unfold sAsg sWith | unfold sExpr sWith
  cases h : a rho M <;> rfl
@[simp] theorem v_bindok {α β : Type} {x : α} {k : α → Mem → Res β} : (Res.ok x M).bind k = k x M := rfl
@[simp] theorem v_bindexc {α β : Type} {x : Exn} {k : α → Mem → Res β} : (Res.exc x M : Res α).bind k = .exc x M := rfl
@[simp] theorem v_bindbad {α β : Type} {k : α → Mem → Res β} : (Res.bad : Res α).bind k = .bad := rfl
@[simp] theorem v_lift {d : D} : liftO (some (d, M)) = .ok d M := rfl
end
/-! ### operations at what is written -/
section
variable {M : Mem} {x y : Str} {i j : Int} {l k : Nat} {xs ys : List D} {p q : Bool} {gt : Nat → List (Str × D)} {d : D}
@[simp] theorem o_tru_bl : truR (.bl p) M = .ok p M := rfl
@[simp] theorem o_tru_int : truR (.int i) M = .ok (i != 0) M := rfl
@[simp] theorem o_tru_non : truR .non M = .ok false M := rfl
@[simp] theorem o_len_str (h : x.length ≤ lim) : oLen [.str x] M = some (.int x.length, M) := by simp [oLen, h]
@[simp] theorem o_len_tup : oLen [.tup xs] M = some (.int xs.length, M) := rfl
theorem o_len_loc (h : M[l]? = some (.lst xs)) : oLen [.loc l] M = some (.int xs.length, M) := by simp [oLen, h]
@[simp] theorem o_le : oLe (.int i) (.int j) M = some (.bl (decide (i ≤ j)), M) := rfl
@[simp] theorem o_lt : oLt (.int i) (.int j) M = some (.bl (decide (i < j)), M) := rfl
@[simp] theorem o_gt : oGt (.int i) (.int j) M = some (.bl (decide (j < i)), M) := rfl
@[simp] theorem o_ge : oGe (.int i) (.int j) M = some (.bl (decide (j ≤ i)), M) := rfl
@[simp] theorem o_eq_str : oEq (.str x) (.str y) M = some (.bl (decide (x = y)), M) := rfl
@[simp] theorem o_ne_str : oNe (.str x) (.str y) M = some (.bl (!decide (x = y)), M) := rfl
@[simp] theorem o_eq_int : oEq (.int i) (.int j) M = some (.bl (decide (i = j)), M) := rfl
@[simp] theorem o_ne_int : oNe (.int i) (.int j) M = some (.bl (!decide (i = j)), M) := rfl
@[simp] theorem o_add : oAdd (.int i) (.int j) M = some (.int (i + j), M) := rfl
@[simp] theorem o_sub : oSub (.int i) (.int j) M = some (.int (i - j), M) := rfl
@[simp] theorem o_all_loc {bs : List Bool} (h : M[l]? = some (.lst xs)) (e : mapO blOf xs = some bs) : oAll [.loc l] M = some (.bl (bs.all id), M) := by simp [oAll, blsD, h, e]
@[simp] theorem o_is_non : oIs d .non M = some (.bl (isNon d), M) := rfl
@[simp] theorem o_isi_str : isiD M "str" (.str x) = some true := rfl
@[simp] theorem o_isi_tup : isiD M "tuple" (.tup xs) = some true := rfl
theorem seq_last {o : Ob} : (M ++ [o])[M.length]? = some o := by simp
theorem at0 {α : Type} {a : α} {as : List α} : atI (a :: as) 0 = some a := by
  unfold atI ixN
  simp
theorem at_nat {α : Type} {as : List α} {k : Nat} {a : α} (h : as[k]? = some a) : atI as (k : Int) = some a := by
  have hk := (List.getElem?_eq_some_iff.mp h).1
  unfold atI ixN
  simp [hk, h, List.getElem?_eq_getElem]
  exact Option.some.inj ((List.getElem?_eq_getElem hk).symm.trans h)
theorem at1 {α : Type} {a b : α} {as : List α} : atI (a :: b :: as) 1 = some b := at_nat (k := 1) rfl
theorem at2 {α : Type} {a b c : α} {as : List α} : atI (a :: b :: c :: as) 2 = some c := at_nat (k := 2) rfl
@[simp] theorem o_ix_t0 {as : List D} : oIdx gt (.tup (d :: as)) (.int 0) M = some (d, M) := by simp [oIdx, at0]
@[simp] theorem o_ix_t1 {as : List D} {b : D} : oIdx gt (.tup (b :: d :: as)) (.int 1) M = some (d, M) := by simp [oIdx, at1]
@[simp] theorem o_ix_t2 {as : List D} {b c : D} : oIdx gt (.tup (b :: c :: d :: as)) (.int 2) M = some (d, M) := by simp [oIdx, at2]
end
def isDig (c : Nat) : Bool := decide (c ∈ ("0123456789" : Str).cps.toList)
def isLet (c : Nat) : Bool := decide (c ∈ ("abcdefghijklmnopqrstuvwxyz" : Str).cps.toList)
def figs (x : Str) (m : Int) : Bool := decide (1 ≤ x.length) && decide ((x.length : Int) ≤ m) && x.cps.toList.all isDig && (!decide (x.cps.toList.head? = some 48) || decide (x = ("0" : Str)))
def plainS (x : Str) : Bool := decide (1 ≤ x.length) && decide (x.length ≤ 8) && x.cps.toList.all isLet
def inD (y : Str) : D → Bool
  | .str x => inS x y
  | _ => false
theorem all_txt (x y : Str) : (Src.txt x).items.all (inD y) = x.cps.toList.all fun c => decide (c ∈ y.cps.toList) := by
  simp only [Src.items, List.all_map]
  rfl
theorem len_txt (x : Str) : (Src.txt x).items.length = x.length := by simp [Src.items, Str.length]
/-- [sign in y for sign in x] -/
theorem lc_in (gt : Nat → List (Str × D)) (x y : Str) {i k : Nat} {vs : List Nat} {rho : EnvD} (M : Mem) (hx : x.length ≤ lim) (hi : rho[k]? = some (some (.str x))) (hw : (wipeD rho vs).length > i) :
    ∃ M1, eLc (eSrc (eVar k)) (.nm i) vs eYes (eBin (oIn gt) (eVar i) (eCon (.str y))) rho M = .ok (.loc M1.length) (M1 ++ [.lst ((Src.txt x).items.map fun d => .bl (inD y d))]) ∧ M <+: M1 := by
  have es : eSrc (eVar k) rho M = .ok (.txt x) M := by simp [eSrc, hi, srcD]
  obtain ⟨M2, e, q⟩ := lc_val (t := .nm i) (vs := vs) (cond := eYes) (elt := eBin (oIn gt) (eVar i) (eCon (.str y))) (fun _ => true) (fun d => .bl (inD y d)) es (List.prefix_refl M) (fun _ _ => rfl) (fun d hd => by
    refine ⟨_, rfl, fun M1' _ => ⟨M1', rfl, List.prefix_refl _, fun _ => ⟨M1', ?_, List.prefix_refl _⟩⟩⟩
    obtain ⟨c, _, rfl⟩ := List.mem_map.mp hd
    simp [hw, oIn, memD, inD]) (by rw [len_txt]; exact hx)
  have ef : ((Src.txt x).items.filter fun _ => true) = (Src.txt x).items := List.filter_eq_self.mpr fun _ _ => rfl
  rw [ef] at e
  exact ⟨M2, e, q⟩
theorem bls_in (x y : Str) : mapO blOf ((Src.txt x).items.map fun d => .bl (inD y d)) = some ((Src.txt x).items.map (inD y)) := bls_map _ _
theorem head_ix (gt : Nat → List (Str × D)) {x : Str} {c : Nat} {r : List Nat} (hx : x.length ≤ lim) (h : x.cps.toList = c :: r) (M : Mem) : oIdx gt (.str x) (.int 0) M = some (.str ⟨#[c]⟩, M) := by
  simp [oIdx, hx, h, at0]
theorem one_zero {c : Nat} : ((⟨#[c]⟩ : Str) = ("0" : Str)) = (c = 48) := by
  have e : ("0" : Str) = ⟨#[48]⟩ := rfl
  rw [e]
  simp
theorem str_ext {x y : Str} (h : x.cps.toList = y.cps.toList) : x = y := by
  obtain ⟨a⟩ := x
  obtain ⟨b⟩ := y
  have : a = b := Array.toList_inj.mp h
  rw [this]
end VI
namespace K79
open PySem PySem.Spec L2 VI
def top (i : Nat) : Stmt := PySem.Challenge.pw_wakingheads_k79_items_written_and_read.main.body.getD i (.Pass ⟨0, 0, 0, 0⟩)
def clsBody : Stmt → Nat → Stmt := fun st i => match st with
  | .ClassDef (body := b) .. => b.getD i (.Pass ⟨0, 0, 0, 0⟩)
  | _ => .Pass ⟨0, 0, 0, 0⟩
def gt0 : Nat → List (Str × D) := fun k => match k with
  | 0 => [(("=" : Str), .str ("same" : Str)), (("#" : Str), .str ("unlike" : Str))]
  | 1 => [(("same" : Str), .str ("=" : Str)), (("unlike" : Str), .str ("#" : Str))]
  | _ => []
abbrev s_are_figures : Stmt := top 22
abbrev s_is_value : Stmt := top 23
abbrev s_is_plain : Stmt := top 24
abbrev s_is_new : Stmt := top 25
abbrev s_is_name : Stmt := top 26
abbrev s_is_term : Stmt := top 27
abbrev s_is_thing : Stmt := top 28
abbrev s_is_fact : Stmt := top 29
abbrev s_item_in : Stmt := top 32
abbrev s_read_item : Stmt := top 33
abbrev s_show_item : Stmt := top 36
abbrev s__law_pen : Stmt := top 38
abbrev s__law_draw : Stmt := top 39
abbrev s__law_word : Stmt := top 40
abbrev s__law_figures : Stmt := top 41
abbrev s__law_is_value : Stmt := top 42
abbrev s__law_is_plain : Stmt := top 43
abbrev s__law_is_new : Stmt := top 44
abbrev s__law_is_term : Stmt := top 45
abbrev s__law_is_thing : Stmt := top 46
abbrev s__law_is_fact : Stmt := top 47
abbrev s__law_is_item : Stmt := top 48
abbrev s__law_item_in : Stmt := top 49
abbrev s__law_item_text : Stmt := top 50
abbrev s__law_refusal : Stmt := top 51
abbrev s__law_sign_bent : Stmt := top 52
abbrev s__law_word_bent : Stmt := top 53
abbrev s__law_term : Stmt := top 54
abbrev s__law_made_item : Stmt := top 55
abbrev s__law_text_right : Stmt := top 56
abbrev s_law : Stmt := top 57
abbrev s_NoText : Stmt := clsBody (top 10) 0
def cs_HeadError : Nat → Option Bool := fun c => match c with
  | 9 => some true
  | _ => none
def ok_i0 : Nat → Option Bool := fun c => match c with
  | 9 => some false
  | _ => none
def ok_i1 : Nat → Option Bool := fun c => match c with
  | 9 => some false
  | _ => none
def ok_i2 : Nat → Option Bool := fun c => match c with
  | 9 => some true
  | _ => none
def ok_i3 : Nat → Option Bool := fun c => match c with
  | 9 => some true
  | _ => none
def ok_line : Nat → Bool := fun c => match c with
  | 9 => true
  | _ => false
/-- what stands behind the top -/
structure Wd (P : Program) (w : World) (mg : Str → Option Value) (base : Heap) (T : Tab) (co Pt : Nat → Addr) (cv : Nat → Value) : Prop where
  gdk : GdOk T w
  gt : T.gt = gt0
  z_len : mg "len" = none
  z_all : mg "all" = none
  z_isinstance : mg "isinstance" = none
  z_str : mg "str" = none
  z_tuple : mg "tuple" = none
  z_list : mg "list" = none
  z_abs : mg "abs" = none
  z_int : mg "int" = none
  z_range : mg "range" = none
  z_ValueError : mg "ValueError" = none
  z_bool : mg "bool" = none
  z_repr : mg "repr" = none
  c_FIGURES : Con T mg "FIGURES" (.str ("0123456789" : Str))
  c_LONGEST_VALUE : Con T mg "LONGEST_VALUE" (.int (6))
  c_LONGEST : Con T mg "LONGEST" (.int (8))
  c_LETTERS : Con T mg "LETTERS" (.str ("abcdefghijklmnopqrstuvwxyz" : Str))
  c_LONGEST_NEW : Con T mg "LONGEST_NEW" (.int (30))
  c_MOST_ARGS : Con T mg "MOST_ARGS" (.int (3))
  c_FACTS_terms : Con T mg "FACTS_terms" (.tup [(.str ("same" : Str)), (.str ("unlike" : Str))])
  c_FACTS_reader : Con T mg "FACTS_reader" (.gd 0)
  c_SIGNS : Con T mg "SIGNS" (.gd 1)
  d_are_figures : DefF T mg 0 "are_figures" s_are_figures ["text", "most"] (cv 0)
  d_is_value : DefF T mg 1 "is_value" s_is_value ["thing"] (cv 1)
  d_is_plain : DefF T mg 2 "is_plain" s_is_plain ["thing"] (cv 2)
  d_is_new : DefF T mg 3 "is_new" s_is_new ["thing"] (cv 3)
  d_is_name : DefF T mg 4 "is_name" s_is_name ["thing"] (cv 4)
  d_is_term : DefF T mg 5 "is_term" s_is_term ["thing"] (cv 5)
  d_is_thing : DefF T mg 6 "is_thing" s_is_thing ["thing"] (cv 6)
  d_is_fact : DefF T mg 7 "is_fact" s_is_fact ["thing"] (cv 7)
  d_item_in : DefF T mg 8 "item_in" s_item_in ["words"] (cv 8)
  d_read_item : DefF T mg 9 "read_item" s_read_item ["text"] (cv 9)
  d_show_item : DefF T mg 10 "show_item" s_show_item ["item"] (cv 10)
  d__law_pen : DefF T mg 11 "_law_pen" s__law_pen ["_law_script"] (cv 11)
  d__law_draw : DefF T mg 12 "_law_draw" s__law_draw ["_law_pen_here", "_law_many"] (cv 12)
  d__law_word : DefF T mg 13 "_law_word" s__law_word ["_law_pen_here"] (cv 13)
  d__law_figures : DefF T mg 14 "_law_figures" s__law_figures ["_law_text", "_law_most"] (cv 14)
  d__law_is_value : DefF T mg 15 "_law_is_value" s__law_is_value ["_law_thing"] (cv 15)
  d__law_is_plain : DefF T mg 16 "_law_is_plain" s__law_is_plain ["_law_thing"] (cv 16)
  d__law_is_new : DefF T mg 17 "_law_is_new" s__law_is_new ["_law_thing"] (cv 17)
  d__law_is_term : DefF T mg 18 "_law_is_term" s__law_is_term ["_law_thing"] (cv 18)
  d__law_is_thing : DefF T mg 19 "_law_is_thing" s__law_is_thing ["_law_thing"] (cv 19)
  d__law_is_fact : DefF T mg 20 "_law_is_fact" s__law_is_fact ["_law_thing"] (cv 20)
  d__law_is_item : DefF T mg 21 "_law_is_item" s__law_is_item ["_law_thing"] (cv 21)
  d__law_item_in : DefF T mg 22 "_law_item_in" s__law_item_in ["_law_words"] (cv 22)
  d__law_item_text : DefF T mg 23 "_law_item_text" s__law_item_text ["_law_item"] (cv 23)
  d__law_refusal : DefF T mg 24 "_law_refusal" s__law_refusal ["_law_ask"] (cv 24)
  d__law_sign_bent : DefF T mg 25 "_law_sign_bent" s__law_sign_bent ["_law_pen_here", "_law_text"] (cv 25)
  d__law_word_bent : DefF T mg 26 "_law_word_bent" s__law_word_bent ["_law_pen_here", "_law_text", "_law_others"] (cv 26)
  d__law_term : DefF T mg 27 "_law_term" s__law_term ["_law_pen_here", "_law_words"] (cv 27)
  d__law_made_item : DefF T mg 28 "_law_made_item" s__law_made_item ["_law_pen_here", "_law_words"] (cv 28)
  d__law_text_right : DefF T mg 29 "_law_text_right" s__law_text_right ["_law_text"] (.ref (co 29))
  d_law : DefF T mg 30 "law" s_law ["_law_script"] (.ref (co 30))
  g_NoText : mg "NoText" = some (.ref (T.ca 9))
  g_HeadError : mg "HeadError" = some (.ref (T.ca 0))
  g_NoChoice : mg "NoChoice" = some (.ref (T.ca 2))
  g_NoItems : mg "NoItems" = some (.ref (T.ca 6))
  g_NoLevels : mg "NoLevels" = some (.ref (T.ca 4))
  g_NoLine : mg "NoLine" = some (.ref (T.ca 10))
  g_NoRules : mg "NoRules" = some (.ref (T.ca 1))
  g_NoSaved : mg "NoSaved" = some (.ref (T.ca 8))
  g_Over : mg "Over" = some (.ref (T.ca 7))
  g_TooLong : mg "TooLong" = some (.ref (T.ca 3))
  g_Unfit : mg "Unfit" = some (.ref (T.ca 5))
  g_NoBack : mg "NoBack" = some (.ref (T.ca 12))
  g_NoHand : mg "NoHand" = some (.ref (T.ca 11))
  r_NoText : RaiseF P w mg base T 9 "NoText" "line"
  m_HeadError : ∀ k b, cs_HeadError k = some b → PySem.W.exmOne T.K (.ref (T.ca k)) (.ref (T.ca 0)) = some b
  i_0 : ∀ c b, ok_i0 c = some b → ExcC T.K (T.ca c) ∧ PySem.W.kitAny T.K (.ref (T.ca c)) (([2, 6, 4, 10, 1, 8, 7, 3, 5] : List Nat).map fun c => Value.ref (T.ca c)) = some b
  i_1 : ∀ c b, ok_i1 c = some b → ExcC T.K (T.ca c) ∧ PySem.W.kitAny T.K (.ref (T.ca c)) (([12, 11] : List Nat).map fun c => Value.ref (T.ca c)) = some b
  i_2 : ∀ c b, ok_i2 c = some b → ExcC T.K (T.ca c) ∧ PySem.W.kitOne T.K (.ref (T.ca c)) (.type "ValueError") = some b
  i_3 : ∀ c b, ok_i3 c = some b → ExcC T.K (T.ca c) ∧ PySem.W.kitOne T.K (.ref (T.ca c)) (.ref (T.ca 9)) = some b
  f_line : ∀ c, ok_line c = true → ExcC T.K (T.ca c) ∧ PySem.W.findIn T.K (.ref (T.ca c)) "line" = some none
  tb__law_text_right : LamX.TabB base mg (co 29) (Pt 29)
  tl__law_text_right : (Pt 29, (("_law_text_right" : Str) ++ (".<locals>." : Str) ++ ("<lambda>" : Str))) ∈ T.tl
  tu__law_text_right : ∀ p ∈ T.tl, p.1 = Pt 29 → p.2 = (("_law_text_right" : Str) ++ (".<locals>." : Str) ++ ("<lambda>" : Str))
  tb_law : LamX.TabB base mg (co 30) (Pt 30)
  tl_law : (Pt 30, (("law" : Str) ++ (".<locals>." : Str) ++ ("<lambda>" : Str))) ∈ T.tl
  tu_law : ∀ p ∈ T.tl, p.1 = Pt 30 → p.2 = (("law" : Str) ++ (".<locals>." : Str) ++ ("<lambda>" : Str))
theorem sc_are_figures : FnScope ["text", "most", "sign"] ["text", "most"] (defScope s_are_figures) := ⟨rfl, rfl, rfl, by decide +kernel, rfl, by decide +kernel, by decide +kernel⟩
def b_are_figures : EvS := sSeq (sIf (eOrT (eNot (eBool (eChain oLe oLe (eCon (.int 1)) (eBlt oLen (eVals [eVar 0])) (eVar 1)))) (eNot (eTru (eBlt oAll (eVals [eLc (eSrc (eVar 0)) (.nm 2) [2] (eYes) (eBin (oIn gt0) (eVar 2) (eCon (.str ("0123456789" : Str))))]))))) (sSeq (sRet (eCon (.bl false))) (sNil)) (sNil)) (sSeq (sRet (eOrV (eBin oNe (eBin (oIdx gt0) (eVar 0) (eCon (.int 0))) (eCon (.str ("0" : Str)))) (eBin oEq (eVar 0) (eCon (.str ("0" : Str)))))) (sNil))
def g_are_figures : List D → Mem → Res D := runBody b_are_figures 3
theorem sc_is_value : FnScope ["thing"] ["thing"] (defScope s_is_value) := ⟨rfl, rfl, rfl, by decide +kernel, rfl, by decide +kernel, by decide +kernel⟩
def b_is_value : EvS := sSeq (sRet (eAndV (eIsi "str" (eVar 0)) (eCall g_are_figures (eVals [eVar 0, eCon (.int (6))])))) (sNil)
def g_is_value : List D → Mem → Res D := runBody b_is_value 1
theorem sc_is_plain : FnScope ["thing", "sign"] ["thing"] (defScope s_is_plain) := ⟨rfl, rfl, rfl, by decide +kernel, rfl, by decide +kernel, by decide +kernel⟩
def b_is_plain : EvS := sSeq (sIf (eOrT (eNot (eTru (eIsi "str" (eVar 0)))) (eNot (eBool (eChain oLe oLe (eCon (.int 1)) (eBlt oLen (eVals [eVar 0])) (eCon (.int (8))))))) (sSeq (sRet (eCon (.bl false))) (sNil)) (sNil)) (sSeq (sRet (eBlt oAll (eVals [eLc (eSrc (eVar 0)) (.nm 1) [1] (eYes) (eBin (oIn gt0) (eVar 1) (eCon (.str ("abcdefghijklmnopqrstuvwxyz" : Str))))]))) (sNil))
def g_is_plain : List D → Mem → Res D := runBody b_is_plain 2
theorem sc_is_new : FnScope ["thing"] ["thing"] (defScope s_is_new) := ⟨rfl, rfl, rfl, by decide +kernel, rfl, by decide +kernel, by decide +kernel⟩
def b_is_new : EvS := sSeq (sIf (eOrT (eNot (eTru (eIsi "str" (eVar 0)))) (eBool (eBin oNe (eSlc (eVar 0) none (some (eCon (.int 1)))) (eCon (.str ("~" : Str)))))) (sSeq (sRet (eCon (.bl false))) (sNil)) (sNil)) (sSeq (sRet (eAndV (eCall g_are_figures (eVals [eSlc (eVar 0) (some (eCon (.int 1))) none, eCon (.int (30))])) (eBin oNe (eVar 0) (eCon (.str ("~0" : Str)))))) (sNil))
def g_is_new : List D → Mem → Res D := runBody b_is_new 1
theorem sc_is_name : FnScope ["thing"] ["thing"] (defScope s_is_name) := ⟨rfl, rfl, rfl, by decide +kernel, rfl, by decide +kernel, by decide +kernel⟩
def b_is_name : EvS := sSeq (sRet (eOrV (eCall g_is_plain (eVals [eVar 0])) (eCall g_is_new (eVals [eVar 0])))) (sNil)
def g_is_name : List D → Mem → Res D := runBody b_is_name 1
theorem sc_is_term : FnScope ["thing"] ["thing"] (defScope s_is_term) := ⟨rfl, rfl, rfl, by decide +kernel, rfl, by decide +kernel, by decide +kernel⟩
def b_is_term : EvS := sSeq (sRet (eOrV (eCall g_is_value (eVals [eVar 0])) (eCall g_is_name (eVals [eVar 0])))) (sNil)
def g_is_term : List D → Mem → Res D := runBody b_is_term 1
theorem sc_is_thing : FnScope ["thing", "term"] ["thing"] (defScope s_is_thing) := ⟨rfl, rfl, rfl, by decide +kernel, rfl, by decide +kernel, by decide +kernel⟩
def b_is_thing : EvS := sSeq (sIf (eOrT (eNot (eTru (eIsi "tuple" (eVar 0)))) (eOrT (eBool (eBin oNe (eBlt oLen (eVals [eVar 0])) (eCon (.int 2)))) (eOrT (eNot (eTru (eCall g_is_plain (eVals [eBin (oIdx gt0) (eVar 0) (eCon (.int 0))])))) (eNot (eTru (eIsi "tuple" (eBin (oIdx gt0) (eVar 0) (eCon (.int 1))))))))) (sSeq (sRet (eCon (.bl false))) (sNil)) (sNil)) (sSeq (sRet (eAndV (eBin oLe (eBlt oLen (eVals [eBin (oIdx gt0) (eVar 0) (eCon (.int 1))])) (eCon (.int (3)))) (eBlt oAll (eVals [eLc (eSrc (eBin (oIdx gt0) (eVar 0) (eCon (.int 1)))) (.nm 1) [1] (eYes) (eCall g_is_term (eVals [eVar 1]))])))) (sNil))
def g_is_thing : List D → Mem → Res D := runBody b_is_thing 2
theorem sc_is_fact : FnScope ["thing"] ["thing"] (defScope s_is_fact) := ⟨rfl, rfl, rfl, by decide +kernel, rfl, by decide +kernel, by decide +kernel⟩
def b_is_fact : EvS := sSeq (sIf (eOrT (eNot (eTru (eIsi "tuple" (eVar 0)))) (eOrT (eBool (eBin oNe (eBlt oLen (eVals [eVar 0])) (eCon (.int 3)))) (eOrT (eNot (eTru (eIsi "str" (eBin (oIdx gt0) (eVar 0) (eCon (.int 0)))))) (eBool (eBin (oNotIn gt0) (eBin (oIdx gt0) (eVar 0) (eCon (.int 0))) (eCon (.tup [(.str ("same" : Str)), (.str ("unlike" : Str))]))))))) (sSeq (sRet (eCon (.bl false))) (sNil)) (sNil)) (sSeq (sRet (eAndV (eCall g_is_term (eVals [eBin (oIdx gt0) (eVar 0) (eCon (.int 1))])) (eCall g_is_term (eVals [eBin (oIdx gt0) (eVar 0) (eCon (.int 2))])))) (sNil))
def g_is_fact : List D → Mem → Res D := runBody b_is_fact 1
theorem sc_item_in : FnScope ["words", "fact", "thing"] ["words"] (defScope s_item_in) := ⟨rfl, rfl, rfl, by decide +kernel, rfl, by decide +kernel, by decide +kernel⟩
def b_item_in : EvS := sSeq (sIf (eAndT (eBool (eBin oEq (eBlt oLen (eVals [eVar 0])) (eCon (.int 3)))) (eBool (eBin (oIn gt0) (eBin (oIdx gt0) (eVar 0) (eCon (.int 1))) (eCon (.gd 0))))) (sSeq (sAsg (.nm 1) (eTup (eVals [eBin (oIdx gt0) (eCon (.gd 0)) (eBin (oIdx gt0) (eVar 0) (eCon (.int 1))), eBin (oIdx gt0) (eVar 0) (eCon (.int 0)), eBin (oIdx gt0) (eVar 0) (eCon (.int 2))]))) (sSeq (sRet (eIte (eTru (eCall g_is_fact (eVals [eVar 1]))) (eVar 1) (eCon .non))) (sNil))) (sNil)) (sSeq (sAsg (.nm 2) (eTup (eVals [eBin (oIdx gt0) (eVar 0) (eCon (.int 0)), eBlt oTuple (eVals [eSlc (eVar 0) (some (eCon (.int 1))) none])]))) (sSeq (sRet (eIte (eTru (eCall g_is_thing (eVals [eVar 2]))) (eVar 2) (eCon .non))) (sNil)))
def g_item_in : List D → Mem → Res D := runBody b_item_in 3
theorem sc_read_item : FnScope ["text", "item"] ["text"] (defScope s_read_item) := ⟨rfl, rfl, rfl, by decide +kernel, rfl, by decide +kernel, by decide +kernel⟩
def b_read_item : EvS := sSeq (sIf (eNot (eTru (eIsi "str" (eVar 0)))) (sSeq (eRaise 9 ("line" : Str) (eVals [eCon .non])) (sNil)) (sNil)) (sSeq (sAsg (.nm 1) (eCall g_item_in (eVals [eMth "str" mSplit (eVar 0) (eVals [eCon (.str (" " : Str))])]))) (sSeq (sIf (eBool (eBin oIs (eVar 1) (eCon .non))) (sSeq (eRaise 9 ("line" : Str) (eVals [eCon (.int 0)])) (sNil)) (sNil)) (sSeq (sRet (eVar 1)) (sNil))))
def g_read_item : List D → Mem → Res D := runBody b_read_item 2
theorem sc_show_item : FnScope ["item", "sign", "args", "word", "one", "other"] ["item"] (defScope s_show_item) := ⟨rfl, rfl, rfl, by decide +kernel, rfl, by decide +kernel, by decide +kernel⟩
def b_show_item : EvS := sSeq (sIf (eBool (eBin oEq (eBlt oLen (eVals [eVar 0])) (eCon (.int 2)))) (sSeq (sAsg (.tp [1, 2]) (eVar 0)) (sSeq (sRet (eMth "str" mJoin (eCon (.str (" " : Str))) (eVals [eBin oAdd (eLst (eVals [eVar 1])) (eBlt oList (eVals [eVar 2]))]))) (sNil))) (sNil)) (sSeq (sAsg (.tp [3, 4, 5]) (eVar 0)) (sSeq (sRet (eJoined [eFmt (eVar 4), eCon (.str (" " : Str)), eFmt (eBin (oIdx gt0) (eCon (.gd 1)) (eVar 3)), eCon (.str (" " : Str)), eFmt (eVar 5)])) (sNil)))
def g_show_item : List D → Mem → Res D := runBody b_show_item 6
theorem sc__law_pen : FnScope ["_law_script"] ["_law_script"] (defScope s__law_pen) := ⟨rfl, rfl, rfl, by decide +kernel, rfl, by decide +kernel, by decide +kernel⟩
def b__law_pen : EvS := sSeq (sRet (eDct [.inr ("cells" : Str), .inr ("at" : Str), .inr ("left" : Str)] [eBlt oList (eVals [eSlc (eVar 0) none (some (eCon (.int 63)))]), eCon (.int 0), eCon (.int 0)])) (sNil)
def g__law_pen : List D → Mem → Res D := runBody b__law_pen 1
theorem sc__law_draw : FnScope ["_law_pen_here", "_law_many", "_law_found", "_law_at", "_law_cell", "_law_whole", "_law_one", "_law_two"] ["_law_pen_here", "_law_many"] (defScope s__law_draw) := ⟨rfl, rfl, rfl, by decide +kernel, rfl, by decide +kernel, by decide +kernel⟩
def b__law_draw : EvS := sSeq (sIf (eBool (eBin oGt (eBin (oIdx gt0) (eVar 0) (eCon (.str ("left" : Str)))) (eCon (.int 0)))) (sSeq (sAsg (.nm 2) (eBin oMod (eBin (oIdx gt0) (eVar 0) (eCon (.str ("left" : Str)))) (eVar 1))) (sSeq (sPut (eVar 0) (eCon (.str ("left" : Str))) (eBin oFdiv (eBin (oIdx gt0) (eVar 0) (eCon (.str ("left" : Str)))) (eVar 1))) (sSeq (sRet (eVar 2)) (sNil)))) (sNil)) (sSeq (sAsg (.nm 3) (eBin (oIdx gt0) (eVar 0) (eCon (.str ("at" : Str))))) (sSeq (sPut (eVar 0) (eCon (.str ("at" : Str))) (eBin oAdd (eVar 3) (eCon (.int 1)))) (sSeq (sAsg (.nm 4) (eBin oAdd (eBin oMul (eCon (.int 2017)) (eVar 3)) (eCon (.int 331)))) (sSeq (sIf (eBool (eBin oNe (eBin (oIdx gt0) (eVar 0) (eCon (.str ("cells" : Str)))) (eLst (eVals [])))) (sSeq (sAsg (.nm 4) (eBin (oIdx gt0) (eBin (oIdx gt0) (eVar 0) (eCon (.str ("cells" : Str)))) (eBin oMod (eVar 3) (eBlt oLen (eVals [eBin (oIdx gt0) (eVar 0) (eCon (.str ("cells" : Str)))]))))) (sNil)) (sNil)) (sSeq (sIf (eAndT (eBool (eBin oLt (eVar 3) (eBlt oLen (eVals [eBin (oIdx gt0) (eVar 0) (eCon (.str ("cells" : Str)))])))) (eBool (eBin oGe (eBlt oAbs (eVals [eVar 4])) (eBin oPow (eCon (.int 10)) (eCon (.int 18)))))) (sSeq (sAsg (.nm 5) (eBin oAdd (eBin oMul (eCon (.int 2)) (eBlt oAbs (eVals [eVar 4]))) (eBlt oInt (eVals [eBin oLt (eVar 4) (eCon (.int 0))])))) (sSeq (sPut (eVar 0) (eCon (.str ("left" : Str))) (eBin oFdiv (eVar 5) (eVar 1))) (sSeq (sRet (eBin oMod (eVar 5) (eVar 1))) (sNil)))) (sNil)) (sSeq (sAsg (.nm 6) (eBin oMod (eBin oPow (eBin oAdd (eBin oAdd (eBin oMod (eVar 4) (eCon (.int 2147483563))) (eBin oMul (eCon (.int 70657)) (eVar 3))) (eCon (.int 47))) (eCon (.int 5))) (eCon (.int 2147483647)))) (sSeq (sAsg (.nm 7) (eBin oMod (eBin oPow (eBin oAdd (eBin oMul (eVar 6) (eBin oAdd (eVar 3) (eCon (.int 65543)))) (eBin oMul (eBin oMul (eCon (.int 86239)) (eVar 3)) (eVar 3))) (eCon (.int 3))) (eCon (.int 2147483489)))) (sSeq (sRet (eBin oMod (eBin oFdiv (eVar 7) (eCon (.int 32))) (eVar 1))) (sNil)))))))))
def g__law_draw : List D → Mem → Res D := runBody b__law_draw 8
theorem sc__law_word : FnScope ["_law_pen_here", "_law_letters", "_law_many", "_law_k"] ["_law_pen_here"] (defScope s__law_word) := ⟨rfl, rfl, rfl, by decide +kernel, rfl, by decide +kernel, by decide +kernel⟩
def b__law_word : EvS := sSeq (sAsg (.nm 1) (eCon (.str ("abcdefghijklmnopqrstuvwxyz" : Str)))) (sSeq (sAsg (.nm 2) (eBin (oIdx gt0) (eLst (eVals [eCon (.int 1), eCon (.int 8), eBin oAdd (eCon (.int 1)) (eCall g__law_draw (eVals [eVar 0, eCon (.int 8)]))])) (eCall g__law_draw (eVals [eVar 0, eCon (.int 3)])))) (sSeq (sRet (eMth "str" mJoin (eCon (.str ("" : Str))) (eVals [eLc (eRng (eVals [eVar 2])) (.nm 3) [3] (eYes) (eBin (oIdx gt0) (eVar 1) (eCall g__law_draw (eVals [eVar 0, eCon (.int 26)])))]))) (sNil)))
def g__law_word : List D → Mem → Res D := runBody b__law_word 4
theorem sc__law_figures : FnScope ["_law_text", "_law_most", "_law_sign"] ["_law_text", "_law_most"] (defScope s__law_figures) := ⟨rfl, rfl, rfl, by decide +kernel, rfl, by decide +kernel, by decide +kernel⟩
def b__law_figures : EvS := sSeq (sIf (eOrT (eBool (eBin oEq (eVar 0) (eCon (.str ("" : Str))))) (eOrT (eBool (eBin oGt (eBlt oLen (eVals [eVar 0])) (eVar 1))) (eBool (eBin oNe (eLc (eSrc (eVar 0)) (.nm 2) [2] (eBool (eBin (oNotIn gt0) (eVar 2) (eCon (.str ("0123456789" : Str))))) (eVar 2)) (eLst (eVals [])))))) (sSeq (sRet (eCon (.bl false))) (sNil)) (sNil)) (sSeq (sRet (eOrV (eBin oEq (eVar 0) (eCon (.str ("0" : Str)))) (eBin oNe (eBin (oIdx gt0) (eVar 0) (eCon (.int 0))) (eCon (.str ("0" : Str)))))) (sNil))
def g__law_figures : List D → Mem → Res D := runBody b__law_figures 3
theorem sc__law_is_value : FnScope ["_law_thing"] ["_law_thing"] (defScope s__law_is_value) := ⟨rfl, rfl, rfl, by decide +kernel, rfl, by decide +kernel, by decide +kernel⟩
def b__law_is_value : EvS := sSeq (sRet (eAndV (eIsi "str" (eVar 0)) (eCall g__law_figures (eVals [eVar 0, eCon (.int 6)])))) (sNil)
def g__law_is_value : List D → Mem → Res D := runBody b__law_is_value 1
theorem sc__law_is_plain : FnScope ["_law_thing", "_law_sign"] ["_law_thing"] (defScope s__law_is_plain) := ⟨rfl, rfl, rfl, by decide +kernel, rfl, by decide +kernel, by decide +kernel⟩
def b__law_is_plain : EvS := sSeq (sIf (eOrT (eNot (eTru (eIsi "str" (eVar 0)))) (eOrT (eBool (eBin oEq (eVar 0) (eCon (.str ("" : Str))))) (eBool (eBin oGt (eBlt oLen (eVals [eVar 0])) (eCon (.int 8)))))) (sSeq (sRet (eCon (.bl false))) (sNil)) (sNil)) (sSeq (sRet (eBin oEq (eLc (eSrc (eVar 0)) (.nm 1) [1] (eBool (eBin (oNotIn gt0) (eVar 1) (eCon (.str ("abcdefghijklmnopqrstuvwxyz" : Str))))) (eVar 1)) (eLst (eVals [])))) (sNil))
def g__law_is_plain : List D → Mem → Res D := runBody b__law_is_plain 2
theorem sc__law_is_new : FnScope ["_law_thing"] ["_law_thing"] (defScope s__law_is_new) := ⟨rfl, rfl, rfl, by decide +kernel, rfl, by decide +kernel, by decide +kernel⟩
def b__law_is_new : EvS := sSeq (sRet (eAndV (eIsi "str" (eVar 0)) (eAndV (eBin oEq (eSlc (eVar 0) none (some (eCon (.int 1)))) (eCon (.str ("~" : Str)))) (eAndV (eCall g__law_figures (eVals [eSlc (eVar 0) (some (eCon (.int 1))) none, eCon (.int 30)])) (eBin oNe (eSlc (eVar 0) (some (eCon (.int 1))) none) (eCon (.str ("0" : Str)))))))) (sNil)
def g__law_is_new : List D → Mem → Res D := runBody b__law_is_new 1
theorem sc__law_is_term : FnScope ["_law_thing"] ["_law_thing"] (defScope s__law_is_term) := ⟨rfl, rfl, rfl, by decide +kernel, rfl, by decide +kernel, by decide +kernel⟩
def b__law_is_term : EvS := sSeq (sRet (eOrV (eCall g__law_is_value (eVals [eVar 0])) (eOrV (eCall g__law_is_plain (eVals [eVar 0])) (eCall g__law_is_new (eVals [eVar 0]))))) (sNil)
def g__law_is_term : List D → Mem → Res D := runBody b__law_is_term 1
theorem sc__law_is_thing : FnScope ["_law_thing", "_law_term_here"] ["_law_thing"] (defScope s__law_is_thing) := ⟨rfl, rfl, rfl, by decide +kernel, rfl, by decide +kernel, by decide +kernel⟩
def b__law_is_thing : EvS := sSeq (sIf (eOrT (eNot (eTru (eIsi "tuple" (eVar 0)))) (eOrT (eBool (eBin oNe (eBlt oLen (eVals [eVar 0])) (eCon (.int 2)))) (eNot (eTru (eCall g__law_is_plain (eVals [eBin (oIdx gt0) (eVar 0) (eCon (.int 0))])))))) (sSeq (sRet (eCon (.bl false))) (sNil)) (sNil)) (sSeq (sIf (eOrT (eNot (eTru (eIsi "tuple" (eBin (oIdx gt0) (eVar 0) (eCon (.int 1)))))) (eBool (eBin oGt (eBlt oLen (eVals [eBin (oIdx gt0) (eVar 0) (eCon (.int 1))])) (eCon (.int 3))))) (sSeq (sRet (eCon (.bl false))) (sNil)) (sNil)) (sSeq (sRet (eBin oEq (eLc (eSrc (eBin (oIdx gt0) (eVar 0) (eCon (.int 1)))) (.nm 1) [1] (eNot (eTru (eCall g__law_is_term (eVals [eVar 1])))) (eVar 1)) (eLst (eVals [])))) (sNil)))
def g__law_is_thing : List D → Mem → Res D := runBody b__law_is_thing 2
theorem sc__law_is_fact : FnScope ["_law_thing"] ["_law_thing"] (defScope s__law_is_fact) := ⟨rfl, rfl, rfl, by decide +kernel, rfl, by decide +kernel, by decide +kernel⟩
def b__law_is_fact : EvS := sSeq (sIf (eOrT (eNot (eTru (eIsi "tuple" (eVar 0)))) (eBool (eBin oNe (eBlt oLen (eVals [eVar 0])) (eCon (.int 3))))) (sSeq (sRet (eCon (.bl false))) (sNil)) (sNil)) (sSeq (sIf (eOrT (eNot (eTru (eIsi "str" (eBin (oIdx gt0) (eVar 0) (eCon (.int 0)))))) (eBool (eBin (oNotIn gt0) (eBin (oIdx gt0) (eVar 0) (eCon (.int 0))) (eTup (eVals [eCon (.str ("same" : Str)), eCon (.str ("unlike" : Str))]))))) (sSeq (sRet (eCon (.bl false))) (sNil)) (sNil)) (sSeq (sRet (eAndV (eCall g__law_is_term (eVals [eBin (oIdx gt0) (eVar 0) (eCon (.int 1))])) (eCall g__law_is_term (eVals [eBin (oIdx gt0) (eVar 0) (eCon (.int 2))])))) (sNil)))
def g__law_is_fact : List D → Mem → Res D := runBody b__law_is_fact 1
theorem sc__law_is_item : FnScope ["_law_thing"] ["_law_thing"] (defScope s__law_is_item) := ⟨rfl, rfl, rfl, by decide +kernel, rfl, by decide +kernel, by decide +kernel⟩
def b__law_is_item : EvS := sSeq (sRet (eOrV (eCall g__law_is_thing (eVals [eVar 0])) (eCall g__law_is_fact (eVals [eVar 0])))) (sNil)
def g__law_is_item : List D → Mem → Res D := runBody b__law_is_item 1
theorem sc__law_item_in : FnScope ["_law_words", "_law_item", "_law_one"] ["_law_words"] (defScope s__law_item_in) := ⟨rfl, rfl, rfl, by decide +kernel, rfl, by decide +kernel, by decide +kernel⟩
def b__law_item_in : EvS := sSeq (sIf (eBool (eBin oEq (eVar 0) (eLst (eVals [])))) (sSeq (sRet (eLst (eVals []))) (sNil)) (sNil)) (sSeq (sAsg (.nm 1) (eTup (eVals [eBin (oIdx gt0) (eVar 0) (eCon (.int 0)), eBlt oTuple (eVals [eSlc (eVar 0) (some (eCon (.int 1))) none])]))) (sSeq (sIf (eAndT (eBool (eBin oEq (eBlt oLen (eVals [eVar 0])) (eCon (.int 3)))) (eBool (eBin (oIn gt0) (eBin (oIdx gt0) (eVar 0) (eCon (.int 1))) (eTup (eVals [eCon (.str ("=" : Str)), eCon (.str ("#" : Str))]))))) (sSeq (sAsg (.nm 1) (eTup (eVals [eBin (oIdx gt0) (eLst (eVals [eCon (.str ("same" : Str)), eCon (.str ("unlike" : Str))])) (eBlt oInt (eVals [eBin oEq (eBin (oIdx gt0) (eVar 0) (eCon (.int 1))) (eCon (.str ("#" : Str)))])), eBin (oIdx gt0) (eVar 0) (eCon (.int 0)), eBin (oIdx gt0) (eVar 0) (eCon (.int 2))]))) (sNil)) (sNil)) (sSeq (sRet (eLc (eSrc (eLst (eVals [eVar 1]))) (.nm 2) [2] (eTru (eCall g__law_is_item (eVals [eVar 2]))) (eVar 2))) (sNil))))
def g__law_item_in : List D → Mem → Res D := runBody b__law_item_in 3
theorem sc__law_item_text : FnScope ["_law_item", "_law_found", "_law_term_here"] ["_law_item"] (defScope s__law_item_text) := ⟨rfl, rfl, rfl, by decide +kernel, rfl, by decide +kernel, by decide +kernel⟩
def b__law_item_text : EvS := sSeq (sIf (eBool (eBin oEq (eBlt oLen (eVals [eVar 0])) (eCon (.int 3)))) (sSeq (sRet (eBin oAdd (eBin oAdd (eBin (oIdx gt0) (eVar 0) (eCon (.int 1))) (eBin (oIdx gt0) (eLst (eVals [eCon (.str (" = " : Str)), eCon (.str (" # " : Str))])) (eBlt oInt (eVals [eBin oEq (eBin (oIdx gt0) (eVar 0) (eCon (.int 0))) (eCon (.str ("unlike" : Str)))])))) (eBin (oIdx gt0) (eVar 0) (eCon (.int 2))))) (sNil)) (sNil)) (sSeq (sAsg (.nm 1) (eBin (oIdx gt0) (eVar 0) (eCon (.int 0)))) (sSeq (sFor (eSrc (eBin (oIdx gt0) (eVar 0) (eCon (.int 1)))) (.nm 2) (sSeq (sAsg (.nm 1) (eBin oAdd (eBin oAdd (eVar 1) (eCon (.str (" " : Str)))) (eVar 2))) (sNil))) (sSeq (sRet (eVar 1)) (sNil))))
def g__law_item_text : List D → Mem → Res D := runBody b__law_item_text 3
theorem sc__law_refusal : FnScope ["_law_ask", "_law_caught", "_law_found", "e"] ["_law_ask"] (defScope s__law_refusal) := ⟨rfl, rfl, rfl, by decide +kernel, rfl, by decide +kernel, by decide +kernel⟩
def b__law_refusal (fact : EvE) : EvS := sSeq (sAsg (.nm 1) (eCon .non)) (sSeq (sAsg (.nm 2) (eCon .non)) (sSeq (sTryKeep cs_HeadError 3 1 (sSeq (sAsg (.nm 2) (fact)) (sNil))) (sSeq (sIf (eBool (eBin oIs (eVar 1) (eCon .non))) (sSeq (sRet (eLst (eVals [eVar 2]))) (sNil)) (sNil)) (sSeq (sIf (eTru (eIsX ok_i0 (eVar 1))) (sSeq (sRet (eTup (eVals []))) (sNil)) (sNil)) (sSeq (sIf (eOrT (eTru (eIsX ok_i1 (eVar 1))) (eNot (eTru (eIsX ok_i2 (eVar 1))))) (sSeq (sRet (eTup (eVals []))) (sNil)) (sNil)) (sSeq (sIf (eOrT (eNot (eTru (eIsX ok_i3 (eVar 1)))) (eTru (eIsi "bool" (eXf ok_line ("line" : Str) (eVar 1))))) (sSeq (sRet (eTup (eVals []))) (sNil)) (sNil)) (sSeq (sRet (eTup (eVals [eXf ok_line ("line" : Str) (eVar 1)]))) (sNil))))))))
theorem sc__law_sign_bent : FnScope ["_law_pen_here", "_law_text", "_law_signs", "_law_sign", "_law_at", "_law_way"] ["_law_pen_here", "_law_text"] (defScope s__law_sign_bent) := ⟨rfl, rfl, rfl, by decide +kernel, rfl, by decide +kernel, by decide +kernel⟩
def b__law_sign_bent : EvS := sSeq (sAsg (.nm 2) (eCon (.str (" !\"#$&'()*+,-./0123456789:;<=>?@ABCDEFGHIJKLMNOPQRSTUVWXYZ[\\]^_`abcdefghijklmnopqrstuvwxyz{|}~\n" : Str)))) (sSeq (sAsg (.nm 3) (eBin (oIdx gt0) (eVar 2) (eCall g__law_draw (eVals [eVar 0, eBlt oLen (eVals [eVar 2])])))) (sSeq (sAsg (.nm 4) (eCall g__law_draw (eVals [eVar 0, eBin oAdd (eBlt oLen (eVals [eVar 1])) (eCon (.int 1))]))) (sSeq (sAsg (.nm 5) (eCall g__law_draw (eVals [eVar 0, eCon (.int 4)]))) (sSeq (sRet (eBin oAdd (eBin oAdd (eSlc (eVar 1) none (some (eVar 4))) (eBin (oIdx gt0) (eLst (eVals [eVar 3, eVar 3, eCon (.str ("" : Str)), eBin oMul (eSlc (eVar 1) (some (eVar 4)) (some (eBin oAdd (eVar 4) (eCon (.int 1))))) (eCon (.int 2))])) (eVar 5))) (eSlc (eVar 1) (some (eBin oAdd (eVar 4) (eBlt oInt (eVals [eBin oGt (eVar 5) (eCon (.int 0))])))) none))) (sNil)))))
def g__law_sign_bent : List D → Mem → Res D := runBody b__law_sign_bent 6
theorem sc__law_word_bent : FnScope ["_law_pen_here", "_law_text", "_law_others", "_law_words", "_law_at", "_law_new", "_law_some"] ["_law_pen_here", "_law_text", "_law_others"] (defScope s__law_word_bent) := ⟨rfl, rfl, rfl, by decide +kernel, rfl, by decide +kernel, by decide +kernel⟩
def b__law_word_bent : EvS := sSeq (sAsg (.nm 3) (eMth "str" mSplit (eRepl ("\n" : Str) (" \n " : Str) (eVar 1)) (eVals [eCon (.str (" " : Str))]))) (sSeq (sAsg (.nm 4) (eCall g__law_draw (eVals [eVar 0, eBlt oLen (eVals [eVar 3])]))) (sSeq (sAsg (.nm 5) (eBin (oIdx gt0) (eBin oAdd (eVar 2) (eLst (eVals [eBin (oIdx gt0) (eVar 3) (eBin oSub (eVar 4) (eCon (.int 1)))]))) (eCall g__law_draw (eVals [eVar 0, eBin oAdd (eBlt oLen (eVals [eVar 2])) (eCon (.int 1))])))) (sSeq (sAsg (.nm 6) (eLst (eVals [eBin oAdd (eSlc (eVar 3) none (some (eVar 4))) (eSlc (eVar 3) (some (eBin oAdd (eVar 4) (eCon (.int 1)))) none), eBin oAdd (eSlc (eVar 3) none (some (eBin oAdd (eVar 4) (eCon (.int 1))))) (eSlc (eVar 3) (some (eVar 4)) none), eBin oAdd (eBin oAdd (eSlc (eVar 3) none (some (eVar 4))) (eLst (eVals [eVar 5]))) (eSlc (eVar 3) (some (eBin oAdd (eVar 4) (eCon (.int 1)))) none)]))) (sSeq (sExpr (eMth "list" mAppend (eVar 6) (eVals [eBin oAdd (eBin oAdd (eSlc (eVar 3) none (some (eVar 4))) (eLst (eVals [eVar 5]))) (eSlc (eVar 3) (some (eVar 4)) none)]))) (sSeq (sRet (eRepl (" \n " : Str) ("\n" : Str) (eMth "str" mJoin (eCon (.str (" " : Str))) (eVals [eBin (oIdx gt0) (eVar 6) (eCall g__law_draw (eVals [eVar 0, eCon (.int 4)]))])))) (sNil))))))
def g__law_word_bent : List D → Mem → Res D := runBody b__law_word_bent 7
theorem sc__law_term : FnScope ["_law_pen_here", "_law_words", "_law_number", "_law_way"] ["_law_pen_here", "_law_words"] (defScope s__law_term) := ⟨rfl, rfl, rfl, by decide +kernel, rfl, by decide +kernel, by decide +kernel⟩
def b__law_term : EvS := sSeq (sAsg (.nm 2) (eCall g__law_draw (eVals [eVar 0, eBin oPow (eCon (.int 10)) (eCon (.int 6))]))) (sSeq (sAsg (.nm 3) (eCall g__law_draw (eVals [eVar 0, eCon (.int 6)]))) (sSeq (sIf (eBool (eBin oLt (eVar 3) (eCon (.int 3)))) (sSeq (sRet (eBin (oIdx gt0) (eVar 1) (eCall g__law_draw (eVals [eVar 0, eBlt oLen (eVals [eVar 1])])))) (sNil)) (sNil)) (sSeq (sRet (eBin (oIdx gt0) (eLst (eVals [eBin oAdd (eBin oAdd (eCon (.str ("~" : Str))) (eBlt oStr (eVals [eBin oAdd (eCon (.int 1)) (eVar 2)]))) (eBin oMul (eCon (.str ("0" : Str))) (eBin oMul (eCon (.int 24)) (eBlt oInt (eVals [eBin oEq (eBin oMod (eVar 2) (eCon (.int 4))) (eCon (.int 0))])))), eBlt oStr (eVals [eVar 2]), eCon (.str ("999999" : Str))])) (eBin oSub (eVar 3) (eCon (.int 3))))) (sNil))))
def g__law_term : List D → Mem → Res D := runBody b__law_term 4
theorem sc__law_made_item : FnScope ["_law_pen_here", "_law_words", "_law_k"] ["_law_pen_here", "_law_words"] (defScope s__law_made_item) := ⟨rfl, rfl, rfl, by decide +kernel, rfl, by decide +kernel, by decide +kernel⟩
def b__law_made_item : EvS := sSeq (sIf (eBool (eBin oEq (eCall g__law_draw (eVals [eVar 0, eCon (.int 3)])) (eCon (.int 0)))) (sSeq (sRet (eTup (eVals [eBin (oIdx gt0) (eLst (eVals [eCon (.str ("same" : Str)), eCon (.str ("unlike" : Str))])) (eCall g__law_draw (eVals [eVar 0, eCon (.int 2)])), eCall g__law_term (eVals [eVar 0, eVar 1]), eCall g__law_term (eVals [eVar 0, eVar 1])]))) (sNil)) (sNil)) (sSeq (sRet (eTup (eVals [eBin (oIdx gt0) (eVar 1) (eCall g__law_draw (eVals [eVar 0, eBlt oLen (eVals [eVar 1])])), eBlt oTuple (eVals [eLc (eRng (eVals [eCall g__law_draw (eVals [eVar 0, eCon (.int 4)])])) (.nm 2) [2] (eYes) (eCall g__law_term (eVals [eVar 0, eVar 1]))])]))) (sNil))
def g__law_made_item : List D → Mem → Res D := runBody b__law_made_item 3
theorem sc__law_text_right : FnScope ["_law_text", "_law_due", "_law_found"] ["_law_text"] (defScope s__law_text_right) := ⟨rfl, rfl, rfl, by decide +kernel, rfl, by decide +kernel, by decide +kernel⟩
def gl__law_text_right : List D → Mem → Res D := fun ds M => runBody (b__law_refusal (eAct 0 0 0 "" [] fun ds M => (eCall g_read_item (eVals [eVar 0])) (capE 3 [0] ds) M)) 4 [.fn 0 0 "" ds []] M
def b__law_text_right : EvS := sSeq (sAsg (.nm 1) (eCall g__law_item_in (eVals [eMth "str" mSplit (eVar 0) (eVals [eCon (.str (" " : Str))])]))) (sSeq (sAsg (.nm 2) (eLamCall [0] gl__law_text_right)) (sSeq (sIf (eBool (eBin oEq (eVar 1) (eLst (eVals [])))) (sSeq (sRet (eBin oEq (eVar 2) (eTup (eVals [eCon (.int 0)])))) (sNil)) (sNil)) (sSeq (sRet (eAndV (eBin oEq (eBlt oRepr (eVals [eVar 2])) (eBlt oRepr (eVals [eVar 1]))) (eBin oEq (eCall g_show_item (eVals [eBin (oIdx gt0) (eVar 1) (eCon (.int 0))])) (eVar 0)))) (sNil))))
def g__law_text_right : List D → Mem → Res D := runBody b__law_text_right 3
theorem sc_law : FnScope ["_law_script", "_law_pen_here", "_law_words", "_law_others", "_law_texts", "_law_k", "_law_item", "_law_kept", "_law_text", "_law_thing"] ["_law_script"] (defScope s_law) := ⟨rfl, rfl, rfl, by decide +kernel, rfl, by decide +kernel, by decide +kernel⟩
def gl_law : List D → Mem → Res D := fun ds M => runBody (b__law_refusal (eAct 0 0 0 "" [] fun ds M => (eCall g_read_item (eVals [eVar 9])) (capE 10 [9] ds) M)) 4 [.fn 0 0 "" ds []] M
def b_law : EvS := sSeq (sAsg (.nm 1) (eCall g__law_pen (eVals [eVar 0]))) (sSeq (sAsg (.nm 2) (eLst (eVals [eCall g__law_word (eVals [eVar 1]), eCall g__law_word (eVals [eVar 1]), eCon (.str ("a" : Str)), eCon (.str ("same" : Str))]))) (sSeq (sAsg (.nm 3) (eLst (eVals [eCon (.str ("=" : Str)), eCon (.str ("#" : Str)), eCon (.str ("same" : Str)), eCon (.str ("~1" : Str)), eCon (.str ("0" : Str)), eCon (.str ("00" : Str)), eCon (.str ("~0" : Str)), eCon (.str ("A" : Str)), eCon (.str ("" : Str)), eCon (.str ("zzzzzzzzz" : Str)), eCon (.str ("1000000" : Str)), eBin (oIdx gt0) (eVar 2) (eCon (.int 0))]))) (sSeq (sAsg (.nm 4) (eLst (eVals [eCon (.str ("" : Str)), eCon (.str (" " : Str)), eCon (.str ("=" : Str)), eCon (.str ("a =" : Str)), eCon (.str ("= a" : Str)), eCon (.str ("a = " : Str)), eCon (.str ("a = b c" : Str)), eCon (.str ("a  b" : Str)), eCon (.str ("a " : Str)), eCon (.str (" a" : Str)), eCon (.str ("a\n" : Str)), eCon (.str ("unlike" : Str)), eCon (.str ("a = a" : Str))]))) (sSeq (sFor (eRng (eVals [eCon (.int 8)])) (.nm 5) (sSeq (sAsg (.nm 6) (eCall g__law_made_item (eVals [eVar 1, eVar 2]))) (sSeq (sAsg (.nm 7) (eBlt oRepr (eVals [eVar 6]))) (sSeq (sAsg (.nm 8) (eCall g_show_item (eVals [eVar 6]))) (sSeq (sIf (eOrT (eNot (eTru (eIsi "str" (eVar 8)))) (eBool (eBin oNe (eVar 8) (eCall g__law_item_text (eVals [eVar 6]))))) (sSeq (sRet (eCon (.bl false))) (sNil)) (sNil)) (sSeq (sIf (eOrT (eBool (eBin oNe (eBlt oRepr (eVals [eCall g_read_item (eVals [eVar 8])])) (eVar 7))) (eBool (eBin oNe (eBlt oRepr (eVals [eVar 6])) (eVar 7)))) (sSeq (sRet (eCon (.bl false))) (sNil)) (sNil)) (sSeq (sAsg (.nm 4) (eBin oAdd (eVar 4) (eLst (eVals [eCall g__law_sign_bent (eVals [eVar 1, eVar 8]), eCall g__law_sign_bent (eVals [eVar 1, eVar 8]), eCall g__law_word_bent (eVals [eVar 1, eVar 8, eVar 3])])))) (sNil)))))))) (sSeq (sIf (eBool (eBin oNe (eLc (eSrc (eVar 4)) (.nm 8) [8] (eNot (eTru (eCall g__law_text_right (eVals [eVar 8])))) (eVar 8)) (eLst (eVals [])))) (sSeq (sRet (eCon (.bl false))) (sNil)) (sNil)) (sSeq (sFor (eSrc (eLst (eVals [eCon .non, eCon (.bl true), eCon (.int 0), eCon (.int 7), eLst (eVals []), eLst (eVals [eCon (.str ("a" : Str))]), eTup (eVals [eCon (.str ("a" : Str)), eTup (eVals [])]), eDct [] [], eTup (eVals [eCon (.str ("same" : Str)), eCon (.str ("a" : Str)), eCon (.str ("b" : Str))])]))) (.nm 9) (sSeq (sIf (eBool (eBin oNe (eLamCall [9] gl_law) (eTup (eVals [eCon .non])))) (sSeq (sRet (eCon (.bl false))) (sNil)) (sNil)) (sNil))) (sSeq (sRet (eCon (.bl true))) (sNil))))))))
def g_law : List D → Mem → Res D := runBody b_law 10
end K79
namespace K79
open PySem PySem.Spec L2 VI
theorem ret_are_figures (x : Str) (m : Int) (hx : x.length ≤ 100000) (M : Mem) : Ret (g_are_figures [.str x, .int m] M) M (.bl (figs x m)) := by
  have hz : x.length ≤ lim := by unfold lim; omega
  obtain ⟨M1, e1, p1⟩ := lc_in gt0 x ("0123456789" : Str) (k := 0) (i := 2) (vs := [2]) (rho := [some (.str x), some (.int m), none]) M hz rfl (by simp [wipeD])
  have e2 := bls_in x ("0123456789" : Str)
  have e3 := all_txt x ("0123456789" : Str)
  unfold g_are_figures runBody b_are_figures
  by_cases h1 : 1 ≤ x.length
  · have h1' : (1 : Int) ≤ (x.length : Int) := by omega
    by_cases h2 : (x.length : Int) ≤ m
    · refine ⟨M1 ++ [.lst ((Src.txt x).items.map fun d => .bl (inD ("0123456789" : Str) d))], ?_, p1.trans (pre_add M1 _)⟩
      have ea := o_all_loc (seq_last (M := M1) (o := .lst ((Src.txt x).items.map fun d => .bl (inD ("0123456789" : Str) d)))) e2
      have eb : ((Src.txt x).items.map (inD ("0123456789" : Str))).all id = x.cps.toList.all isDig := by
        rw [List.all_map]
        exact e3
      rw [eb] at ea
      cases hq : x.cps.toList.all isDig with
      | false =>
        rw [hq] at ea
        simp [e1, ea, hz, h1, h1', h2, figs, hq]
      | true =>
        rw [hq] at ea
        cases hc : x.cps.toList with
        | nil =>
          have : x.length = 0 := by simpa [Str.length] using congrArg List.length hc
          omega
        | cons c r =>
          have hh := head_ix gt0 hz hc
          have hq2 : isDig c = true ∧ r.all isDig = true := by rw [hc] at hq; simpa using hq
          by_cases h0 : c = 48
          · simp [e1, ea, hz, h1, h1', h2, figs, hq2, hh, hc, one_zero, h0]
            have : isDig 48 = true := by decide
            simpa [h0, this] using hq2.2
          · simp [e1, ea, hz, h1, h1', h2, figs, hq2, hh, hc, one_zero, h0]
    · refine ⟨M, ?_, List.prefix_refl M⟩
      simp [hz, h1, h1', h2, figs]
  · have h1' : ¬ (1 : Int) ≤ (x.length : Int) := by omega
    refine ⟨M, ?_, List.prefix_refl M⟩
    simp [hz, h1, h1', figs]
end K79
namespace VI
open PySem PySem.Spec L2
def hd1 (x : Str) : Str := cutS x none (some 1)
def tl1 (x : Str) : Str := cutS x (some 1) none
def newS (x : Str) : Bool := decide (hd1 x = ("~" : Str)) && (figs (tl1 x) 30 && !decide (x = ("~0" : Str)))
def termS (x : Str) : Bool := figs x 6 || (plainS x || newS x)
theorem hd1_l (x : Str) : (hd1 x).cps.toList = x.cps.toList.take 1 := by
  unfold hd1 cutS
  simp [HT.sIx, Str.length]
theorem tl1_l (x : Str) : (tl1 x).cps.toList = x.cps.toList.drop 1 := by
  unfold tl1 cutS
  simp only [HT.sIx]
  by_cases h : x.length = 0
  · have : x.cps.toList = [] := by
      have : x.cps.toList.length = 0 := by simpa [Str.length] using h
      exact List.length_eq_zero_iff.mp this
    simp [this]
  · have h1 : min (1 : Int).toNat x.length = 1 := by
      have : (1 : Int).toNat = 1 := rfl
      omega
    have hn : ¬ ((1 : Int) < 0) := by decide
    simp only [hn, if_false, h1]
    rw [List.take_of_length_le (by simp [Str.length])]
theorem tl1_len (x : Str) : (tl1 x).length ≤ x.length := cutS_length x _ _
theorem len_l (x : Str) : x.length = x.cps.toList.length := by simp [Str.length]
end VI
namespace K79
open PySem PySem.Spec L2 VI
section
variable {x : Str} {M : Mem}
theorem ret_is_value (hx : x.length ≤ 100000) (M : Mem) : Ret (g_is_value [.str x] M) M (.bl (figs x 6)) := by
  obtain ⟨M1, e1, p1⟩ := ret_are_figures x 6 hx M
  refine ⟨M1, ?_, p1⟩
  unfold g_is_value runBody b_is_value
  simp [e1]
theorem ret_is_plain (hx : x.length ≤ 100000) (M : Mem) : Ret (g_is_plain [.str x] M) M (.bl (plainS x)) := by
  have hz : x.length ≤ lim := by unfold lim; omega
  obtain ⟨M1, e1, p1⟩ := lc_in gt0 x ("abcdefghijklmnopqrstuvwxyz" : Str) (k := 0) (i := 1) (vs := [1]) (rho := [some (.str x), none]) M hz rfl (by simp [wipeD])
  have ea := o_all_loc (seq_last (M := M1) (o := .lst ((Src.txt x).items.map fun d => .bl (inD ("abcdefghijklmnopqrstuvwxyz" : Str) d)))) (bls_in x _)
  have eb : ((Src.txt x).items.map (inD ("abcdefghijklmnopqrstuvwxyz" : Str))).all id = x.cps.toList.all isLet := by
    rw [List.all_map]
    exact all_txt x _
  rw [eb] at ea
  unfold g_is_plain runBody b_is_plain
  by_cases h1 : 1 ≤ x.length
  · have h1' : (1 : Int) ≤ (x.length : Int) := by omega
    by_cases h2 : x.length ≤ 8
    · have h2' : (x.length : Int) ≤ 8 := by omega
      exact ⟨_, by simp [e1, ea, hz, h1, h1', h2, h2', plainS]; rfl, p1.trans (pre_add M1 _)⟩
    · have h2' : ¬ (x.length : Int) ≤ 8 := by omega
      exact ⟨M, by simp [hz, h1, h1', h2, h2', plainS], List.prefix_refl M⟩
  · have h1' : ¬ (1 : Int) ≤ (x.length : Int) := by omega
    exact ⟨M, by simp [hz, h1, h1', plainS], List.prefix_refl M⟩
theorem slc_hd (hz : x.length ≤ lim) : oSlc (.str x) none (some 1) M = some (.str (hd1 x), M) := by simp [oSlc, hz, hd1]
theorem slc_tl (hz : x.length ≤ lim) : oSlc (.str x) (some 1) none M = some (.str (tl1 x), M) := by simp [oSlc, hz, tl1]
theorem ret_is_new (hx : x.length ≤ 100000) (M : Mem) : Ret (g_is_new [.str x] M) M (.bl (newS x)) := by
  have hz : x.length ≤ lim := by unfold lim; omega
  obtain ⟨M1, e1, p1⟩ := ret_are_figures (tl1 x) 30 (Nat.le_trans (tl1_len x) hx) M
  unfold g_is_new runBody b_is_new
  by_cases h1 : hd1 x = ("~" : Str)
  · refine ⟨M1, ?_, p1⟩
    cases h2 : figs (tl1 x) 30 <;> rw [h2] at e1 <;> simp [slc_hd hz, slc_tl hz, e1, h1, h2, newS]
  · refine ⟨M, ?_, List.prefix_refl M⟩
    simp [slc_hd hz, h1, newS]
theorem ret_is_name (hx : x.length ≤ 100000) (M : Mem) : Ret (g_is_name [.str x] M) M (.bl (plainS x || newS x)) := by
  obtain ⟨M1, e1, p1⟩ := ret_is_plain hx M
  obtain ⟨M2, e2, p2⟩ := ret_is_new hx M1
  unfold g_is_name runBody b_is_name
  cases h : plainS x with
  | true => rw [h] at e1; exact ⟨M1, by simp [e1], p1⟩
  | false => rw [h] at e1; exact ⟨M2, by simp [e1, e2], p1.trans p2⟩
theorem ret_is_term (hx : x.length ≤ 100000) (M : Mem) : Ret (g_is_term [.str x] M) M (.bl (termS x)) := by
  obtain ⟨M1, e1, p1⟩ := ret_is_value hx M
  obtain ⟨M2, e2, p2⟩ := ret_is_name hx M1
  unfold g_is_term runBody b_is_term
  cases h : figs x 6 with
  | true => rw [h] at e1; exact ⟨M1, by simp [e1, termS, h], p1⟩
  | false => rw [h] at e1; exact ⟨M2, by simp [e1, e2, termS, h], p1.trans p2⟩
end
end K79
namespace VI
open PySem PySem.Spec L2
def ok (x : Str) : Prop := x.length ≤ 100000 ∧ ∀ c ∈ x.cps.toList, c < 128
theorem ok.strOk {x : Str} (h : ok x) : PyData.strOk x = true := by
  unfold PyData.strOk
  rw [← Array.all_toList]
  rw [List.all_eq_true]
  intro c hc
  have := h.2 c hc
  simp; omega
theorem mapO_str (f : D → Option PyData) (hf : ∀ x, f (.str x) = some (.str x)) : ∀ as : List Str, mapO f (as.map D.str) = some (as.map PyData.str)
  | [] => rfl
  | a :: as => by simp [mapO, hf, mapO_str f hf as]
theorem pd_str (M : Mem) (n : Nat) (x : Str) : pd M n (.str x) = some (.str x) := by cases n <;> rfl
theorem pd_strs (M : Mem) (n : Nat) (as : List Str) : mapO (pd M n) (as.map D.str) = some (as.map PyData.str) := mapO_str _ (pd_str M n) as
theorem canLay_strs : ∀ {as : List Str}, (∀ a ∈ as, ok a) → PyData.canLayAll0 (as.map PyData.str) = true
  | [], _ => rfl
  | a :: as, h => by
    simp only [List.map_cons, PyData.canLayAll0, PyData.canLay0, (h a List.mem_cons_self).strOk, Bool.true_and]
    exact canLay_strs fun b hb => h b (List.mem_cons_of_mem _ hb)
theorem depth_strs : ∀ as : List Str, PyData.depthAll (as.map PyData.str) = 0
  | [] => rfl
  | a :: as => by simp [PyData.depthAll, PyData.depth, depth_strs as]
theorem shaped_strs {as : List Str} (h : ∀ a ∈ as, ok a) : SeqAt.shaped (.list (as.map PyData.str)) = true := by
  unfold SeqAt.shaped
  simp [PyData.canLay0, PyData.depth, canLay_strs h, depth_strs]
theorem eqv_nil (ps : List PyData) : PyData.eqv (.list ps) (.list []) = ps.isEmpty := by
  cases ps <;> simp [PyData.eqv, PyData.eqvAll]
/-- == [] and != [] of a list of texts -/
theorem o_eq_nil {M : Mem} {l k : Nat} {as : List Str} (hl : M[l]? = some (.lst (as.map D.str))) (hk : M[k]? = some (.lst [])) (h : ∀ a ∈ as, ok a) : oEq (.loc l) (.loc k) M = some (.bl as.isEmpty, M) := by
  have e1 : pd M 12 (.loc l) = some (.list (as.map PyData.str)) := by simp [pd, hl, pd_strs]
  have e2 : pd M 12 (.loc k) = some (.list []) := by simp [pd, hk, mapO]
  have e3 : SeqAt.shaped (.list []) = true := rfl
  simp [oEq, eqD, scalD, e1, e2, shaped_strs h, e3, eqv_nil]
theorem o_ne_nil {M : Mem} {l k : Nat} {as : List Str} (hl : M[l]? = some (.lst (as.map D.str))) (hk : M[k]? = some (.lst [])) (h : ∀ a ∈ as, ok a) : oNe (.loc l) (.loc k) M = some (.bl (!as.isEmpty), M) := by
  have e1 : pd M 12 (.loc l) = some (.list (as.map PyData.str)) := by simp [pd, hl, pd_strs]
  have e2 : pd M 12 (.loc k) = some (.list []) := by simp [pd, hk, mapO]
  have e3 : SeqAt.shaped (.list []) = true := rfl
  simp [oNe, eqD, scalD, e1, e2, shaped_strs h, e3, eqv_nil]
/-- [f(x) for x in texts] -/
theorem lc_call {g : List D → Mem → Res D} {e : EvE} {i : Nat} {vs : List Nat} {rho : EnvD} {M M0 : Mem} {s : Src} (p : Str → Bool) {as : List Str} (es : eSrc e rho M = .ok s M0) (pm : M <+: M0) (hs : s.items = as.map D.str) (st : ∀ M', M0 <+: M' → s.stands M' = true) (hw : (wipeD rho vs).length > i)
    (hg : ∀ a ∈ as, ∀ M, Ret (g [.str a] M) M (.bl (p a))) (hl : as.length ≤ lim) :
    ∃ M1, eLc (eSrc e) (.nm i) vs eYes (eCall g (eVals [eVar i])) rho M = .ok (.loc M1.length) (M1 ++ [.lst (as.map fun a => .bl (p a))]) ∧ M <+: M1 := by
  let h : D → D := fun d => match d with
    | .str a => .bl (p a)
    | _ => .non
  obtain ⟨M2, e1, q⟩ := lc_val (t := .nm i) (vs := vs) (cond := eYes) (elt := eCall g (eVals [eVar i])) (fun _ => true) h es pm st (fun d hd => by
    refine ⟨_, rfl, fun M1' _ => ⟨M1', rfl, List.prefix_refl _, fun _ => ?_⟩⟩
    rw [hs] at hd
    obtain ⟨a, ha, rfl⟩ := List.mem_map.mp hd
    obtain ⟨M3, e3, p3⟩ := hg a ha M1'
    exact ⟨M3, by simp [hw, e3, h], p3⟩) (by rw [hs, List.length_map]; exact hl)
  have ef : (s.items.filter fun _ => true) = s.items := List.filter_eq_self.mpr fun _ _ => rfl
  rw [ef, hs, List.map_map] at e1
  exact ⟨M2, e1, q⟩
/-- [x for x in texts if not f(x)] -/
theorem lc_not {g : List D → Mem → Res D} {e : EvE} {i : Nat} {vs : List Nat} {rho : EnvD} {M M0 : Mem} {s : Src} (p : Str → Bool) {as : List Str} (es : eSrc e rho M = .ok s M0) (pm : M <+: M0) (hs : s.items = as.map D.str) (st : ∀ M', M0 <+: M' → s.stands M' = true) (hw : (wipeD rho vs).length > i)
    (hg : ∀ a ∈ as, ∀ M, Ret (g [.str a] M) M (.bl (p a))) (hl : as.length ≤ lim) :
    ∃ M1, eLc (eSrc e) (.nm i) vs (eNot (eTru (eCall g (eVals [eVar i])))) (eVar i) rho M = .ok (.loc M1.length) (M1 ++ [.lst ((as.filter fun a => !p a).map D.str)]) ∧ M <+: M1 := by
  let c : D → Bool := fun d => match d with
    | .str a => !p a
    | _ => false
  obtain ⟨M2, e1, q⟩ := lc_val (t := .nm i) (vs := vs) (cond := eNot (eTru (eCall g (eVals [eVar i])))) (elt := eVar i) c id es pm st (fun d hd => by
    refine ⟨_, rfl, fun M1' _ => ?_⟩
    rw [hs] at hd
    obtain ⟨a, ha, rfl⟩ := List.mem_map.mp hd
    obtain ⟨M3, e3, p3⟩ := hg a ha M1'
    exact ⟨M3, by simp [hw, e3, c], p3, fun _ => ⟨M3, by simp [hw], List.prefix_refl _⟩⟩) (by rw [hs, List.length_map]; exact hl)
  have ef : (s.items.filter c).map id = (as.filter fun a => !p a).map D.str := by
    rw [List.map_id, hs, List.filter_map]
    rfl
  rw [ef] at e1
  exact ⟨M2, e1, q⟩
/-- [c for c in text if c not in y] -/
theorem lc_out (gt : Nat → List (Str × D)) (x y : Str) {i k : Nat} {vs : List Nat} {rho : EnvD} (M : Mem) (hx : x.length ≤ lim) (hi : rho[k]? = some (some (.str x))) (hw : (wipeD rho vs).length > i) :
    ∃ M1, eLc (eSrc (eVar k)) (.nm i) vs (eBool (eBin (oNotIn gt) (eVar i) (eCon (.str y)))) (eVar i) rho M = .ok (.loc M1.length) (M1 ++ [.lst (((x.cps.toList.filter fun c => !decide (c ∈ y.cps.toList)).map fun c => (⟨#[c]⟩ : Str)).map D.str)]) ∧ M <+: M1 := by
  have es : eSrc (eVar k) rho M = .ok (.txt x) M := by simp [eSrc, hi, srcD]
  obtain ⟨M2, e, q⟩ := lc_val (t := .nm i) (vs := vs) (cond := eBool (eBin (oNotIn gt) (eVar i) (eCon (.str y)))) (elt := eVar i) (fun d => !inD y d) id es (List.prefix_refl M) (fun _ _ => rfl) (fun d hd => by
    refine ⟨_, rfl, fun M1' _ => ?_⟩
    obtain ⟨c, _, rfl⟩ := List.mem_map.mp hd
    exact ⟨M1', by simp [hw, oNotIn, memD, inD], List.prefix_refl _, fun _ => ⟨M1', by simp [hw], List.prefix_refl _⟩⟩) (by rw [len_txt]; exact hx)
  have ef : ((Src.txt x).items.filter fun d => !inD y d).map id = ((x.cps.toList.filter fun c => !decide (c ∈ y.cps.toList)).map fun c => (⟨#[c]⟩ : Str)).map D.str := by
    rw [List.map_id]
    simp only [Src.items, List.filter_map, List.map_map]
    rfl
  rw [ef] at e
  exact ⟨M2, e, q⟩
end VI
namespace K79
open PySem PySem.Spec L2 VI
def thingT (w : Str) (as : List Str) : Bool := plainS w && (decide (as.length ≤ 3) && as.all termS)
theorem bls_strs (p : Str → Bool) : ∀ as : List Str, mapO blOf (as.map fun a => D.bl (p a)) = some (as.map p)
  | [] => rfl
  | a :: as => by simp [mapO, blOf, bls_strs p as]
theorem ret_is_thing {w : Str} {as : List Str} (hw : ok w) (ha : ∀ a ∈ as, ok a) (hn : as.length ≤ lim) (M : Mem) : Ret (g_is_thing [.tup [.str w, .tup (as.map D.str)]] M) M (.bl (thingT w as)) := by
  obtain ⟨M1, e1, p1⟩ := ret_is_plain hw.1 M
  have es : eSrc (eBin (oIdx gt0) (eVar 0) (eCon (.int 1))) [some (.tup [.str w, .tup (as.map D.str)]), none] M1 = .ok (.tup (as.map D.str)) M1 := by simp [eSrc, srcD]
  obtain ⟨M2, e2, p2⟩ := lc_call (g := g_is_term) (i := 1) (vs := [1]) termS es (List.prefix_refl M1) rfl (fun _ _ => rfl) (by simp [wipeD]) (fun a h M => ret_is_term (ha a h).1 M) hn
  have ea := o_all_loc (seq_last (M := M2) (o := .lst (as.map fun a => D.bl (termS a)))) (bls_strs termS as)
  have eb : (as.map termS).all id = as.all termS := by rw [List.all_map]; rfl
  rw [eb] at ea
  unfold g_is_thing runBody b_is_thing
  cases hp : plainS w with
  | false => rw [hp] at e1; exact ⟨M1, by simp [e1, thingT, hp], p1⟩
  | true =>
    rw [hp] at e1
    by_cases h3 : as.length ≤ 3
    · have h3' : (as.length : Int) ≤ 3 := by omega
      exact ⟨_, by simp [e1, e2, ea, thingT, hp, h3, h3']; rfl, (p1.trans p2).trans (pre_add M2 _)⟩
    · have h3' : ¬ (as.length : Int) ≤ 3 := by omega
      exact ⟨M1, by simp [e1, thingT, hp, h3, h3'], p1⟩
end K79
namespace VI
open PySem PySem.Spec L2
theorem cut_tail {α : Type} (xs : List α) : cutD xs (some 1) none = xs.drop 1 := by
  unfold cutD
  simp only [HT.sIx]
  cases xs with
  | nil => rfl
  | cons x xs =>
    have h1 : min (1 : Int).toNat (x :: xs).length = 1 := by
      have : (1 : Int).toNat = 1 := rfl
      simp
    have hn : ¬ ((1 : Int) < 0) := by decide
    simp only [hn, if_false, h1]
    rw [List.take_of_length_le (by simp)]
section
variable {M : Mem} {l : Nat} {xs : List D} {gt : Nat → List (Str × D)} {d : D}
theorem o_ix_loc {k : Nat} (h : M[l]? = some (.lst xs)) (e : xs[k]? = some d) : oIdx gt (.loc l) (.int (k : Int)) M = some (d, M) := by simp [oIdx, h, at_nat e]
theorem o_ix_l0 (h : M[l]? = some (.lst xs)) (e : xs[0]? = some d) : oIdx gt (.loc l) (.int 0) M = some (d, M) := o_ix_loc (k := 0) h e
theorem o_ix_l1 (h : M[l]? = some (.lst xs)) (e : xs[1]? = some d) : oIdx gt (.loc l) (.int 1) M = some (d, M) := o_ix_loc (k := 1) h e
theorem o_ix_l2 (h : M[l]? = some (.lst xs)) (e : xs[2]? = some d) : oIdx gt (.loc l) (.int 2) M = some (d, M) := o_ix_loc (k := 2) h e
theorem o_slc_tl (h : M[l]? = some (.lst xs)) : oSlc (.loc l) (some 1) none M = some (.loc M.length, M ++ [.lst (xs.drop 1)]) := by simp [oSlc, h, cut_tail]
theorem o_tuple (h : M[l]? = some (.lst xs)) : oTuple [.loc l] M = some (.tup xs, M) := by simp [oTuple, h]
theorem o_list_t : oList [.tup xs] M = some (.loc M.length, M ++ [.lst xs]) := rfl
end
end VI
namespace K79
open PySem PySem.Spec L2 VI
def signOf (s : Str) : Option Str := if s = ("=" : Str) then some "same" else if s = ("#" : Str) then some "unlike" else none
def thingOf (w : Str) (as : List Str) : Option D := if thingT w as then some (.tup [.str w, .tup (as.map D.str)]) else none
def itemOf : List Str → Option D
  | [] => none
  | [w, s, b] => match signOf s with
    | some v => if termS w && termS b then some (.tup [.str v, .str w, .str b]) else none
    | none => thingOf w [s, b]
  | w :: as => thingOf w as
theorem ret_is_fact {v a b : Str} (hv : v = ("same" : Str) ∨ v = ("unlike" : Str)) (ha : ok a) (hb : ok b) (M : Mem) : Ret (g_is_fact [.tup [.str v, .str a, .str b]] M) M (.bl (termS a && termS b)) := by
  obtain ⟨M1, e1, p1⟩ := ret_is_term ha.1 M
  obtain ⟨M2, e2, p2⟩ := ret_is_term hb.1 M1
  have hm : oNotIn gt0 (.str v) (.tup [.str "same", .str "unlike"]) M = some (.bl false, M) := by
    rcases hv with rfl | rfl <;> rfl
  unfold g_is_fact runBody b_is_fact
  cases h : termS a with
  | false => rw [h] at e1; exact ⟨M1, by simp [hm, e1], p1⟩
  | true => rw [h] at e1; exact ⟨M2, by simp [hm, e1, e2], p1.trans p2⟩
theorem in_gd0 (s : Str) (M : Mem) : oIn gt0 (.str s) (.gd 0) M = some (.bl (signOf s).isSome, M) := by
  unfold signOf
  by_cases h1 : s = ("=" : Str)
  · subst h1; rfl
  · by_cases h2 : s = ("#" : Str)
    · subst h2; rfl
    · have e1 : (s == ("=" : Str)) = false := by simpa using h1
      have e2 : (s == ("#" : Str)) = false := by simpa using h2
      simp [oIn, memD, gt0, List.lookup, e1, e2, h1, h2]
theorem ix_gd0 {s v : Str} (h : signOf s = some v) (M : Mem) : oIdx gt0 (.gd 0) (.str s) M = some (.str v, M) := by
  unfold signOf at h
  by_cases h1 : s = ("=" : Str)
  · subst h1; simp at h; subst h; rfl
  · by_cases h2 : s = ("#" : Str)
    · subst h2
      have : (if ("#" : Str) = ("=" : Str) then some ("same" : Str) else some ("unlike" : Str)) = some ("unlike" : Str) := rfl
      simp at h
      rw [this] at h
      cases h
      rfl
    · simp [h1, h2] at h
theorem sign_two {s v : Str} (h : signOf s = some v) : v = ("same" : Str) ∨ v = ("unlike" : Str) := by
  unfold signOf at h
  split at h
  · cases h; exact .inl rfl
  · split at h
    · cases h; exact .inr rfl
    · cases h
def orNon : Option D → D
  | some d => d
  | none => .non
theorem thing_part {w : Str} {as : List Str} {l : Nat} {M : Mem} (hl : M[l]? = some (.lst ((w :: as).map D.str))) (hw : ok w) (ha : ∀ a ∈ as, ok a) (hn : as.length ≤ lim) :
    ∃ M0 M1, oIdx gt0 (.loc l) (.int 0) M = some (.str w, M) ∧ oSlc (.loc l) (some 1) none M = some (.loc M.length, M0) ∧ oTuple [.loc M.length] M0 = some (.tup (as.map D.str), M0) ∧ g_is_thing [.tup [.str w, .tup (as.map D.str)]] M0 = .ok (.bl (thingT w as)) M1 ∧ M <+: M1 := by
  have s0 : oSlc (.loc l) (some 1) none M = some (.loc M.length, M ++ [.lst (as.map D.str)]) := by
    have := o_slc_tl hl
    simpa using this
  obtain ⟨M1, e1, p1⟩ := ret_is_thing hw ha hn (M ++ [.lst (as.map D.str)])
  exact ⟨_, M1, o_ix_l0 hl rfl, s0, o_tuple seq_last, e1, (pre_add M _).trans p1⟩
theorem ret_item_in {ws : List Str} (hne : ws ≠ []) (hw : ∀ a ∈ ws, ok a) (hn : ws.length ≤ lim) {l : Nat} (M : Mem) (hl : M[l]? = some (.lst (ws.map D.str))) : Ret (g_item_in [.loc l] M) M (orNon (itemOf ws)) := by
  have hlen := o_len_loc hl
  have h2 : (2 : Nat) ≤ lim := by unfold lim; omega
  unfold g_item_in runBody b_item_in
  match ws, hne, hw, hl, hn, hlen with
  | [w, s, b], _, hw, hl, hn, hlen =>
    have i0 : ∀ M', M <+: M' → oIdx gt0 (.loc l) (.int 0) M' = some (.str w, M') := fun M' p => o_ix_l0 (pre_get p hl) rfl
    have i1 : ∀ M', M <+: M' → oIdx gt0 (.loc l) (.int 1) M' = some (.str s, M') := fun M' p => o_ix_l1 (pre_get p hl) rfl
    have i2 : ∀ M', M <+: M' → oIdx gt0 (.loc l) (.int 2) M' = some (.str b, M') := fun M' p => o_ix_l2 (pre_get p hl) rfl
    have okw := hw w (by simp)
    have okb := hw b (by simp)
    have h3 : (3 : Nat) ≤ lim := by unfold lim; omega
    have pM := List.prefix_refl M
    cases hs : signOf s with
    | some v =>
      obtain ⟨M1, e1, p1⟩ := ret_is_fact (sign_two hs) okw okb M
      have ig := ix_gd0 hs
      cases ht : termS w && termS b with
      | true => rw [ht] at e1; exact ⟨M1, by simp [hlen, i0 M pM, i1 M pM, i2 M pM, in_gd0, hs, ig, h3, bindT, e1, itemOf, ht, orNon], p1⟩
      | false => rw [ht] at e1; exact ⟨M1, by simp [hlen, i0 M pM, i1 M pM, i2 M pM, in_gd0, hs, ig, h3, bindT, e1, itemOf, ht, orNon], p1⟩
    | none =>
      obtain ⟨M0, M1, j0, s0, t0, e1, p1⟩ := thing_part hl okw (fun a h => hw a (List.mem_cons_of_mem _ h)) (by simp at hn ⊢; omega)
      refine ⟨M1, ?_, p1⟩
      have ei : itemOf [w, s, b] = thingOf w [s, b] := by simp [itemOf, hs]
      rw [ei]
      cases h : thingT w [s, b] <;> rw [h] at e1 <;> simp at s0 t0 e1 <;> simp [hlen, i1 M pM, in_gd0, hs, j0, s0, t0, e1, h2, thingOf, h, orNon, bindT]
  | [], h, _, _, _, _ => exact absurd rfl h
  | [w], _, hw, hl, hn, hlen =>
    obtain ⟨M0, M1, j0, s0, t0, e1, p1⟩ := thing_part hl (hw w (by simp)) (as := []) (fun a h => absurd h (by simp)) (by simp)
    refine ⟨M1, ?_, p1⟩
    rw [show itemOf [w] = thingOf w [] from rfl]
    cases h : thingT w [] <;> rw [h] at e1 <;> simp at s0 t0 e1 <;> simp [hlen, j0, s0, t0, e1, h2, thingOf, h, orNon, bindT]
  | [w, a], _, hw, hl, hn, hlen =>
    obtain ⟨M0, M1, j0, s0, t0, e1, p1⟩ := thing_part hl (hw w (by simp)) (fun a h => hw a (List.mem_cons_of_mem _ h)) (by simp at hn ⊢; omega)
    refine ⟨M1, ?_, p1⟩
    rw [show itemOf [w, a] = thingOf w [a] from rfl]
    cases h : thingT w [a] <;> rw [h] at e1 <;> simp at s0 t0 e1 <;> simp [hlen, j0, s0, t0, e1, h2, thingOf, h, orNon, bindT]
  | w :: a :: b :: c :: r, _, hw, hl, hn, hlen =>
    obtain ⟨M0, M1, j0, s0, t0, e1, p1⟩ := thing_part hl (hw w (by simp)) (fun a h => hw a (List.mem_cons_of_mem _ h)) (by simp at hn ⊢; omega)
    refine ⟨M1, ?_, p1⟩
    rw [show itemOf (w :: a :: b :: c :: r) = thingOf w (a :: b :: c :: r) from rfl]
    have h3 : ¬ ((r.length : Int) + 1 + 1 + 1 + 1 = 3) := by omega
    cases h : thingT w (a :: b :: c :: r) <;> rw [h] at e1 <;> simp at s0 t0 e1 <;> simp [hlen, h3, j0, s0, t0, e1, h2, thingOf, h, orNon, bindT]
end K79
namespace VI
open PySem PySem.Spec L2
theorem app_l (a b : Str) : (a ++ b).cps.toList = a.cps.toList ++ b.cps.toList := by
  show (a.cps ++ b.cps).toList = _
  simp
theorem app_len (a b : Str) : (a ++ b).length = a.length + b.length := by rw [len_l, len_l, len_l, app_l, List.length_append]
theorem empty_app (a : Str) : Str.empty ++ a = a := str_ext (by rw [app_l]; rfl)
theorem app_assoc (a b c : Str) : a ++ b ++ c = a ++ (b ++ c) := str_ext (by simp [app_l])
/-- what stands in joined texts -/
theorem join_mem (sep : Str) : ∀ {ws : List Str} {w : Str}, w ∈ ws → w.length ≤ (Str.join sep ws).length ∧ ∀ c ∈ w.cps.toList, c ∈ (Str.join sep ws).cps.toList
  | [], w, h => by simp at h
  | [x], w, h => by
    simp at h
    subst h
    exact ⟨Nat.le_refl _, fun c hc => hc⟩
  | x :: y :: r, w, h => by
    show w.length ≤ (x ++ sep ++ Str.join sep (y :: r)).length ∧ ∀ c ∈ w.cps.toList, c ∈ (x ++ sep ++ Str.join sep (y :: r)).cps.toList
    rcases List.mem_cons.mp h with rfl | h
    · refine ⟨by rw [app_len, app_len]; omega, fun c hc => ?_⟩
      rw [app_l, app_l]
      simp [hc]
    · obtain ⟨h1, h2⟩ := join_mem sep h
      refine ⟨by rw [app_len]; omega, fun c hc => ?_⟩
      rw [app_l]
      exact List.mem_append_right _ (h2 c hc)
theorem join_count (sep : Str) (hs : 1 ≤ sep.length) : ∀ ws : List Str, ws.length ≤ (Str.join sep ws).length + 1
  | [] => by simp
  | [x] => by simp
  | x :: y :: r => by
    have ih := join_count sep hs (y :: r)
    show (x :: y :: r).length ≤ (x ++ sep ++ Str.join sep (y :: r)).length + 1
    rw [app_len, app_len]
    simp only [List.length_cons] at ih ⊢
    omega
theorem join_ok {sep : Str} (hs : ∀ c ∈ sep.cps.toList, c < 128) : ∀ {ws : List Str}, (∀ w ∈ ws, ∀ c ∈ w.cps.toList, c < 128) → ∀ c ∈ (Str.join sep ws).cps.toList, c < 128
  | [], h, c, hc => by simp [Str.join, Str.empty] at hc
  | [x], h, c, hc => h x (by simp) c hc
  | x :: y :: r, h, c, hc => by
    have e : Str.join sep (x :: y :: r) = x ++ sep ++ Str.join sep (y :: r) := rfl
    rw [e, app_l, app_l] at hc
    rcases List.mem_append.mp hc with hc | hc
    · rcases List.mem_append.mp hc with hc | hc
      · exact h x (by simp) c hc
      · exact hs c hc
    · exact join_ok hs (fun w hw => h w (List.mem_cons_of_mem _ hw)) c hc
theorem split_ne (x y : Str) : Txt.split x y ≠ [] := by
  unfold Txt.split
  split
  · simp
  · split
    · simp
    · rw [StrLaws.partsBetween_eq]
      obtain ⟨p, r, e⟩ := StrLaws.partsFrom_ne x y.length 0 (Builtin.Str.occurrences x y 0 x.length (x.length + 1))
      rw [e]
      simp
def sp : Str := " "
theorem sp_l : sp.cps.toList = [32] := rfl
theorem sp_eq : sp = ⟨#[32]⟩ := rfl
theorem split_join (t : Str) : Str.join sp (Txt.split t sp) = t := StrLaws.join_split t sp
theorem split_ok {t : Str} (h : ok t) : (∀ w ∈ Txt.split t sp, ok w) ∧ (Txt.split t sp).length ≤ 100001 := by
  have e := split_join t
  refine ⟨fun w hw => ?_, ?_⟩
  · obtain ⟨h1, h2⟩ := join_mem sp hw
    rw [e] at h1 h2
    exact ⟨Nat.le_trans h1 h.1, fun c hc => h.2 c (h2 c hc)⟩
  · have := join_count sp (by decide) (Txt.split t sp)
    rw [e] at this
    have := h.1
    omega
/-- texts without blanks, joined by blanks, come apart again -/
theorem join_inj : ∀ {as bs : List Str}, as ≠ [] → bs ≠ [] → (∀ a ∈ as, 32 ∉ a.cps.toList) → (∀ b ∈ bs, 32 ∉ b.cps.toList) → Str.join sp as = Str.join sp bs → as = bs := by
  have cut : ∀ {x y r s : List Nat}, 32 ∉ x → 32 ∉ y → x ++ 32 :: r = y ++ 32 :: s → x = y ∧ r = s := by
    intro x
    induction x with
    | nil =>
      intro y r s _ hy e
      cases y with
      | nil => simp at e; exact ⟨rfl, e⟩
      | cons c y =>
        simp only [List.nil_append, List.cons_append, List.cons.injEq] at e
        exact absurd (by rw [← e.1]; simp) hy
    | cons c x ih =>
      intro y r s hx hy e
      cases y with
      | nil =>
        simp only [List.nil_append, List.cons_append, List.cons.injEq] at e
        exact absurd (by rw [e.1]; simp) hx
      | cons d y =>
        simp only [List.cons_append, List.cons.injEq] at e
        obtain ⟨h1, h2⟩ := ih (fun h => hx (List.mem_cons_of_mem _ h)) (fun h => hy (List.mem_cons_of_mem _ h)) e.2
        exact ⟨by rw [e.1, h1], h2⟩
  have two : ∀ (x y : Str) (r : List Str), (Str.join sp (x :: y :: r)).cps.toList = x.cps.toList ++ 32 :: (Str.join sp (y :: r)).cps.toList := by
    intro x y r
    show (x ++ sp ++ Str.join sp (y :: r)).cps.toList = _
    rw [app_l, app_l, sp_l]
    simp
  intro as
  induction as with
  | nil => intro bs h; exact absurd rfl h
  | cons a as ih =>
    intro bs _ hb ha hb2 e
    have el : (Str.join sp (a :: as)).cps.toList = (Str.join sp bs).cps.toList := by rw [e]
    cases bs with
    | nil => exact absurd rfl hb
    | cons b bs =>
    cases as with
    | nil =>
      cases bs with
      | nil => rw [str_ext (x := a) (y := b) el]
      | cons c r =>
        rw [two] at el
        exact absurd (by rw [show (Str.join sp [a]).cps.toList = a.cps.toList from rfl] at el; rw [el]; simp) (ha a (by simp))
    | cons x as =>
      cases bs with
      | nil =>
        rw [two] at el
        exact absurd (by rw [show (Str.join sp [b]).cps.toList = b.cps.toList from rfl] at el; rw [← el]; simp) (hb2 b (by simp))
      | cons c r =>
        rw [two, two] at el
        obtain ⟨h1, h2⟩ := cut (ha a (by simp)) (hb2 b (by simp)) el
        rw [str_ext h1, ih (bs := c :: r) (by simp) (by simp) (fun z hz => ha z (List.mem_cons_of_mem _ hz)) (fun z hz => hb2 z (List.mem_cons_of_mem _ hz)) (str_ext h2)]
theorem split_of_join {ws : List Str} (hne : ws ≠ []) (h : ∀ a ∈ ws, 32 ∉ a.cps.toList) : Txt.split (Str.join sp ws) sp = ws := by
  refine join_inj (split_ne _ _) hne ?_ h (split_join _)
  exact StrLaws.split_free _ 32
@[simp] theorem v_raise {c : Nat} {f : Str} {la : EvA} {rho : EnvD} {M : Mem} : eRaise c f la rho M = match la rho M with
  | .ok [d] M1 => .exc ⟨c, [f], [d]⟩ rho M1
  | .exc x M1 => .exc x rho M1
  | _ => .bad := rfl
theorem o_split {t : Str} {M : Mem} (h : t.length ≤ 100000) : mSplit (.str t) [.str sp] M = some (.loc M.length, M ++ [.lst ((Txt.split t sp).map D.str)]) := by
  have h1 : t.length + 2 ≤ lim := by unfold lim; omega
  have h2 : (sp.length == 0) = false := rfl
  simp [mSplit, h1, h2]
@[simp] theorem ty_str {x : Str} {M : Mem} : tyD M "str" (.str x) = true := rfl
theorem mapO_of : ∀ ws : List Str, mapO strOf (ws.map D.str) = some ws
  | [] => rfl
  | w :: ws => by simp [mapO, strOf, mapO_of ws]
theorem o_join {M : Mem} {l : Nat} {ws : List Str} {sep : Str} (hl : M[l]? = some (.lst (ws.map D.str))) (hz : (ws.map (·.length)).sum + ws.length * sep.length ≤ 16777216) : mJoin (.str sep) [.loc l] M = some (.str (Str.join sep ws), M) := by
  simp [mJoin, strsD, hl, mapO_of, hz, Txt.join, StrLaws.glued_eq_join]
end VI
namespace K79
open PySem PySem.Spec L2 VI
theorem ret_read {t : Str} (h : ok t) (M : Mem) : (∀ d, itemOf (Txt.split t sp) = some d → Ret (g_read_item [.str t] M) M d) ∧
    (itemOf (Txt.split t sp) = none → ∃ M', g_read_item [.str t] M = .exc ⟨9, ["line"], [.int 0]⟩ M' ∧ M <+: M') := by
  obtain ⟨h1, h2⟩ := split_ok h
  have s0 : mSplit (.str t) [.str (" " : Str)] M = _ := o_split h.1
  obtain ⟨M1, e1, p1⟩ := ret_item_in (split_ne t sp) h1 (by unfold lim; omega) (l := M.length) (M ++ [.lst ((Txt.split t sp).map D.str)]) seq_last
  unfold g_read_item runBody b_read_item
  refine ⟨fun d hd => ?_, fun hd => ?_⟩
  · rw [hd] at e1
    have hn : VI.isNon d = false := by
      have key : ∀ w as, thingOf w as = some d → VI.isNon d = false := by
        intro w as h
        unfold thingOf at h
        split at h
        · cases h; rfl
        · cases h
      unfold itemOf at hd
      split at hd
      · cases hd
      · split at hd
        · split at hd
          · cases hd; rfl
          · cases hd
        · exact key _ _ hd
      · exact key _ _ hd
    refine ⟨M1, ?_, (pre_add M _).trans p1⟩
    simp only [orNon] at e1
    simp [s0, e1, bindT, hn]
  · rw [hd] at e1
    refine ⟨M1, ?_, (pre_add M _).trans p1⟩
    simp only [orNon] at e1
    simp [s0, e1, bindT, VI.isNon]
theorem ret_read_no {d : D} {M : Mem} (h : isiD M "str" d = some false) : g_read_item [d] M = .exc ⟨9, ["line"], [.non]⟩ M := by
  unfold g_read_item runBody b_read_item
  simp [h]
end K79
namespace VI
open PySem PySem.Spec L2
theorem empty_iff {x : Str} : x = ("" : Str) ↔ x.length = 0 := by
  constructor
  · intro h; subst h; rfl
  · intro h
    refine str_ext ?_
    have : x.cps.toList.length = 0 := by rw [← len_l]; exact h
    rw [List.length_eq_zero_iff.mp this]
    rfl
theorem ones_ok {x : Str} (h : ok x) (p : Nat → Bool) : ∀ a ∈ ((x.cps.toList.filter p).map fun c => (⟨#[c]⟩ : Str)), ok a := by
  intro a ha
  obtain ⟨c, hc, rfl⟩ := List.mem_map.mp ha
  refine ⟨by simp [Str.length], fun d hd => ?_⟩
  simp at hd
  subst hd
  exact h.2 d ((List.mem_filter.mp hc).1)
theorem filter_none {α : Type} (p : α → Bool) (xs : List α) : (xs.filter fun c => !p c).isEmpty = xs.all p := by
  induction xs with
  | nil => rfl
  | cons x xs ih =>
    cases h : p x <;> simp [h, ih]
@[simp] theorem set_len {ds : EnvD} {i : Nat} {v : Option D} : (ds.set i v).length = ds.length := List.length_set
end VI
namespace K79
open PySem PySem.Spec L2 VI
section
variable {x : Str} {M : Mem}
theorem lret_figures (hx : ok x) (m : Int) (M : Mem) : Ret (g__law_figures [.str x, .int m] M) M (.bl (figs x m)) := by
  have hz : x.length ≤ lim := by have := hx.1; unfold lim; omega
  obtain ⟨M1, e1, p1⟩ := lc_out gt0 x ("0123456789" : Str) (k := 0) (i := 2) (vs := [2]) (rho := [some (.str x), some (.int m), none]) M hz rfl (by simp [wipeD])
  let as : List Str := (x.cps.toList.filter fun c => !decide (c ∈ ("0123456789" : Str).cps.toList)).map fun c => (⟨#[c]⟩ : Str)
  have ha : ∀ a ∈ as, ok a := ones_ok hx _
  have h0 : (0 : Nat) ≤ lim := Nat.zero_le _
  have en := o_ne_nil (M := M1 ++ [Ob.lst (as.map D.str)] ++ [Ob.lst []]) (l := M1.length) (k := (M1 ++ [Ob.lst (as.map D.str)]).length) (as := as) (by simp) (by simp) ha
  have ee : as.isEmpty = x.cps.toList.all isDig := by
    have : as.isEmpty = (x.cps.toList.filter fun c => !decide (c ∈ ("0123456789" : Str).cps.toList)).isEmpty := by
      show (List.map _ _).isEmpty = _
      simp
    rw [this]
    exact filter_none (fun c => decide (c ∈ ("0123456789" : Str).cps.toList)) _
  rw [ee] at en
  have e1' : eLc (eSrc (eVar 0)) (.nm 2) [2] (eBool (eBin (oNotIn gt0) (eVar 2) (eCon (.str ("0123456789" : Str))))) (eVar 2) [some (.str x), some (.int m), none] M = .ok (.loc M1.length) (M1 ++ [Ob.lst (as.map D.str)]) := e1
  unfold g__law_figures runBody b__law_figures
  by_cases h1 : x = ("" : Str)
  · have hl : x.length = 0 := empty_iff.mp h1
    refine ⟨M, ?_, List.prefix_refl M⟩
    have hf : figs x m = false := by unfold figs; simp [hl]
    rw [hf]
    simp [h1]
  · have hl : 1 ≤ x.length := by
      have : x.length ≠ 0 := fun z => h1 (empty_iff.mpr z)
      omega
    by_cases h2 : m < (x.length : Int)
    · have hf : figs x m = false := by unfold figs; simp; intro _ h; omega
      refine ⟨M, ?_, List.prefix_refl M⟩
      rw [hf]
      simp [h1, h2, hz]
    · have h2' : (x.length : Int) ≤ m := by omega
      have h2d : decide (m < (x.length : Int)) = false := decide_eq_false h2
      cases hq : x.cps.toList.all isDig with
      | false =>
        rw [hq] at en
        have hf : figs x m = false := by unfold figs; simp [hq]
        rw [hf]
        refine ⟨_, ?_, (p1.trans (pre_add M1 [Ob.lst (as.map D.str)])).trans (pre_add _ [Ob.lst []])⟩
        simp at en
        simp [h1, h2, h2d, hz, e1', en, h0]
      | true =>
        rw [hq] at en
        simp at en
        cases hc : x.cps.toList with
        | nil =>
          have : x.length = 0 := by rw [len_l, hc]; rfl
          omega
        | cons c r =>
          have hh := head_ix gt0 hz hc
          have hf : figs x m = (!decide (c = 48) || decide (x = ("0" : Str))) := by
            unfold figs
            rw [hq, hc]
            simp [hl, h2']
          rw [hf]
          refine ⟨_, ?_, (p1.trans (pre_add M1 [Ob.lst (as.map D.str)])).trans (pre_add _ [Ob.lst []])⟩
          by_cases hx0 : x = ("0" : Str)
          · have hx1 : decide (x = ("0" : Str)) = true := decide_eq_true hx0
            have h10 : ¬ (("0" : Str) = ("" : Str)) := by decide
            simp [h1, h2, h2d, hz, e1', en, h0, hh, one_zero, hx1]
          · have hx1 : decide (x = ("0" : Str)) = false := decide_eq_false hx0
            simp [h1, h2, h2d, hz, e1', en, h0, hh, one_zero, hx1]
end
end K79
namespace VI
open PySem PySem.Spec L2
theorem tl1_ok {x : Str} (h : ok x) : ok (tl1 x) := ⟨Nat.le_trans (tl1_len x) h.1, fun c hc => h.2 c (by rw [tl1_l] at hc; exact List.mem_of_mem_drop hc)⟩
end VI
namespace K79
open PySem PySem.Spec L2 VI
section
variable {x : Str} {M : Mem}
theorem lret_value (hx : ok x) (M : Mem) : Ret (g__law_is_value [.str x] M) M (.bl (figs x 6)) := by
  obtain ⟨M1, e1, p1⟩ := lret_figures hx 6 M
  refine ⟨M1, ?_, p1⟩
  unfold g__law_is_value runBody b__law_is_value
  simp [e1]
theorem lret_plain (hx : ok x) (M : Mem) : Ret (g__law_is_plain [.str x] M) M (.bl (plainS x)) := by
  have hz : x.length ≤ lim := by have := hx.1; unfold lim; omega
  obtain ⟨M1, e1, p1⟩ := lc_out gt0 x ("abcdefghijklmnopqrstuvwxyz" : Str) (k := 0) (i := 1) (vs := [1]) (rho := [some (.str x), none]) M hz rfl (by simp [wipeD])
  let as : List Str := (x.cps.toList.filter fun c => !decide (c ∈ ("abcdefghijklmnopqrstuvwxyz" : Str).cps.toList)).map fun c => (⟨#[c]⟩ : Str)
  have ha : ∀ a ∈ as, ok a := ones_ok hx _
  have h0 : (0 : Nat) ≤ lim := Nat.zero_le _
  have en := o_eq_nil (M := M1 ++ [Ob.lst (as.map D.str)] ++ [Ob.lst []]) (l := M1.length) (k := (M1 ++ [Ob.lst (as.map D.str)]).length) (as := as) (by simp) (by simp) ha
  have ee : as.isEmpty = x.cps.toList.all isLet := by
    have : as.isEmpty = (x.cps.toList.filter fun c => !decide (c ∈ ("abcdefghijklmnopqrstuvwxyz" : Str).cps.toList)).isEmpty := by
      show (List.map _ _).isEmpty = _
      simp
    rw [this]
    exact filter_none (fun c => decide (c ∈ ("abcdefghijklmnopqrstuvwxyz" : Str).cps.toList)) _
  rw [ee] at en
  have e1' : eLc (eSrc (eVar 0)) (.nm 1) [1] (eBool (eBin (oNotIn gt0) (eVar 1) (eCon (.str ("abcdefghijklmnopqrstuvwxyz" : Str))))) (eVar 1) [some (.str x), none] M = .ok (.loc M1.length) (M1 ++ [Ob.lst (as.map D.str)]) := e1
  unfold g__law_is_plain runBody b__law_is_plain
  by_cases h1 : x = ("" : Str)
  · have hl : x.length = 0 := empty_iff.mp h1
    refine ⟨M, ?_, List.prefix_refl M⟩
    have hf : plainS x = false := by unfold plainS; simp [hl]
    rw [hf]
    simp [h1]
  · have hl : 1 ≤ x.length := by
      have : x.length ≠ 0 := fun z => h1 (empty_iff.mpr z)
      omega
    by_cases h2 : 8 < x.length
    · have hf : plainS x = false := by unfold plainS; simp; intro _ h; omega
      have h2' : (8 : Int) < (x.length : Int) := by omega
      refine ⟨M, ?_, List.prefix_refl M⟩
      rw [hf]
      simp [h1, h2, h2', hz]
    · have h2' : ¬ (8 : Int) < (x.length : Int) := by omega
      have h3 : x.length ≤ 8 := by omega
      refine ⟨_, ?_, (p1.trans (pre_add M1 [Ob.lst (as.map D.str)])).trans (pre_add _ [Ob.lst []])⟩
      have hf : plainS x = x.cps.toList.all isLet := by unfold plainS; simp [hl, h3]
      rw [hf]
      simp at en
      simp [h1, h2, h2', hz, e1', en, h0]
theorem hd_tl {x : Str} (h : hd1 x = ("~" : Str)) : x.cps.toList = 126 :: (tl1 x).cps.toList := by
  have e : (hd1 x).cps.toList = [126] := by rw [h]; rfl
  rw [hd1_l] at e
  rw [tl1_l]
  cases hx : x.cps.toList with
  | nil => rw [hx] at e; simp at e
  | cons c r => rw [hx] at e; simp at e; rw [e]; rfl
theorem new_same (h : hd1 x = ("~" : Str)) : decide (tl1 x = ("0" : Str)) = decide (x = ("~0" : Str)) := by
  have e := hd_tl h
  by_cases h1 : tl1 x = ("0" : Str)
  · have : x = ("~0" : Str) := str_ext (by rw [e, h1]; rfl)
    rw [decide_eq_true h1, decide_eq_true this]
  · have : ¬ x = ("~0" : Str) := fun z => h1 (str_ext (by
      rw [z] at e
      have : (("~0" : Str)).cps.toList = [126, 48] := rfl
      rw [this] at e
      simp at e
      rw [z, ← e]
      rfl))
    rw [decide_eq_false h1, decide_eq_false this]
theorem lret_new (hx : ok x) (M : Mem) : Ret (g__law_is_new [.str x] M) M (.bl (newS x)) := by
  have hz : x.length ≤ lim := by have := hx.1; unfold lim; omega
  obtain ⟨M1, e1, p1⟩ := lret_figures (tl1_ok hx) 30 M
  unfold g__law_is_new runBody b__law_is_new
  by_cases h1 : hd1 x = ("~" : Str)
  · have hs := new_same h1
    refine ⟨M1, ?_, p1⟩
    cases h2 : figs (tl1 x) 30 <;> rw [h2] at e1 <;> simp [slc_hd hz, slc_tl hz, e1, h1, h2, newS, hs]
  · refine ⟨M, ?_, List.prefix_refl M⟩
    simp [slc_hd hz, h1, newS]
theorem lret_term (hx : ok x) (M : Mem) : Ret (g__law_is_term [.str x] M) M (.bl (termS x)) := by
  obtain ⟨M1, e1, p1⟩ := lret_value hx M
  obtain ⟨M2, e2, p2⟩ := lret_plain hx M1
  obtain ⟨M3, e3, p3⟩ := lret_new hx M2
  unfold g__law_is_term runBody b__law_is_term
  cases h : figs x 6 with
  | true => rw [h] at e1; exact ⟨M1, by simp [e1, termS, h], p1⟩
  | false =>
    rw [h] at e1
    cases h2 : plainS x with
    | true => rw [h2] at e2; exact ⟨M2, by simp [e1, e2, termS, h, h2], p1.trans p2⟩
    | false => rw [h2] at e2; exact ⟨M3, by simp [e1, e2, e3, termS, h, h2], (p1.trans p2).trans p3⟩
theorem lret_thing {w : Str} {as : List Str} (hw : ok w) (ha : ∀ a ∈ as, ok a) (hn : as.length ≤ lim) (M : Mem) : Ret (g__law_is_thing [.tup [.str w, .tup (as.map D.str)]] M) M (.bl (thingT w as)) := by
  obtain ⟨M1, e1, p1⟩ := lret_plain hw M
  have es : eSrc (eBin (oIdx gt0) (eVar 0) (eCon (.int 1))) [some (.tup [.str w, .tup (as.map D.str)]), none] M1 = .ok (.tup (as.map D.str)) M1 := by simp [eSrc, srcD]
  obtain ⟨M2, e2, p2⟩ := lc_not (g := g__law_is_term) (i := 1) (vs := [1]) termS es (List.prefix_refl M1) rfl (fun _ _ => rfl) (by simp [wipeD]) (fun a h M => lret_term (ha a h) M) hn
  let bs := as.filter fun a => !termS a
  have hb : ∀ a ∈ bs, ok a := fun a h => ha a (List.mem_filter.mp h).1
  have e2' : eLc (eSrc (eBin (oIdx gt0) (eVar 0) (eCon (.int 1)))) (.nm 1) [1] (eNot (eTru (eCall g__law_is_term (eVals [eVar 1])))) (eVar 1) [some (.tup [.str w, .tup (as.map D.str)]), none] M1 = .ok (.loc M2.length) (M2 ++ [Ob.lst (bs.map D.str)]) := e2
  have en := o_eq_nil (M := M2 ++ [Ob.lst (bs.map D.str)] ++ [Ob.lst []]) (l := M2.length) (k := (M2 ++ [Ob.lst (bs.map D.str)]).length) (as := bs) (by simp) (by simp) hb
  rw [show bs.isEmpty = as.all termS from filter_none termS as] at en
  simp at en
  have h0 : (0 : Nat) ≤ lim := Nat.zero_le _
  unfold g__law_is_thing runBody b__law_is_thing
  cases hp : plainS w with
  | false => rw [hp] at e1; exact ⟨M1, by simp [e1, thingT, hp], p1⟩
  | true =>
    rw [hp] at e1
    by_cases h3 : as.length ≤ 3
    · have h3' : ¬ (3 : Int) < (as.length : Int) := by omega
      exact ⟨_, by simp [e1, e2', en, thingT, hp, h3, h3', h0], ((p1.trans p2).trans (pre_add M2 [Ob.lst (bs.map D.str)])).trans (pre_add _ [Ob.lst []])⟩
    · have h3' : (3 : Int) < (as.length : Int) := by omega
      exact ⟨M1, by simp [e1, thingT, hp, h3, h3'], p1⟩
theorem lret_thing3 {a b c : D} (M : Mem) : Ret (g__law_is_thing [.tup [a, b, c]] M) M (.bl false) := by
  refine ⟨M, ?_, List.prefix_refl M⟩
  unfold g__law_is_thing runBody b__law_is_thing
  simp
theorem lret_fact2 {a b : D} (M : Mem) : Ret (g__law_is_fact [.tup [a, b]] M) M (.bl false) := by
  refine ⟨M, ?_, List.prefix_refl M⟩
  unfold g__law_is_fact runBody b__law_is_fact
  simp
theorem lret_fact {v a b : Str} (hv : v = ("same" : Str) ∨ v = ("unlike" : Str)) (ha : ok a) (hb : ok b) (M : Mem) : Ret (g__law_is_fact [.tup [.str v, .str a, .str b]] M) M (.bl (termS a && termS b)) := by
  obtain ⟨M1, e1, p1⟩ := lret_term ha M
  obtain ⟨M2, e2, p2⟩ := lret_term hb M1
  have hm : oNotIn gt0 (.str v) (.tup [.str "same", .str "unlike"]) M = some (.bl false, M) := by
    rcases hv with rfl | rfl <;> rfl
  have h2 : (2 : Nat) ≤ lim := by unfold lim; omega
  unfold g__law_is_fact runBody b__law_is_fact
  cases h : termS a with
  | false => rw [h] at e1; exact ⟨M1, by simp [hm, e1, h2], p1⟩
  | true => rw [h] at e1; exact ⟨M2, by simp [hm, e1, e2, h2], p1.trans p2⟩
theorem lret_item_t {w : Str} {as : List Str} (hw : ok w) (ha : ∀ a ∈ as, ok a) (hn : as.length ≤ lim) (M : Mem) : Ret (g__law_is_item [.tup [.str w, .tup (as.map D.str)]] M) M (.bl (thingT w as)) := by
  obtain ⟨M1, e1, p1⟩ := lret_thing hw ha hn M
  obtain ⟨M2, e2, p2⟩ := lret_fact2 (a := .str w) (b := .tup (as.map D.str)) M1
  unfold g__law_is_item runBody b__law_is_item
  cases h : thingT w as with
  | true => rw [h] at e1; exact ⟨M1, by simp [e1], p1⟩
  | false => rw [h] at e1; exact ⟨M2, by simp [e1, e2], p1.trans p2⟩
theorem lret_item_f {v a b : Str} (hv : v = ("same" : Str) ∨ v = ("unlike" : Str)) (ha : ok a) (hb : ok b) (M : Mem) : Ret (g__law_is_item [.tup [.str v, .str a, .str b]] M) M (.bl (termS a && termS b)) := by
  obtain ⟨M1, e1, p1⟩ := lret_thing3 (a := .str v) (b := .str a) (c := .str b) M
  obtain ⟨M2, e2, p2⟩ := lret_fact hv ha hb M1
  unfold g__law_is_item runBody b__law_is_item
  exact ⟨M2, by simp [e1, e2], p1.trans p2⟩
end
end K79
namespace VI
open PySem PySem.Spec L2
/-- [x for x in [d] if f(x)] -/
theorem lc_one {src : EvI} {l i : Nat} {vs : List Nat} {cond : EvT} {rho : EnvD} {M M1 : Mem} {d : D} {b : Bool} (es : src rho M = .ok (.lst l [d]) M1) (p1 : M <+: M1) (hl : M1[l]? = some (.lst [d])) (hw : (wipeD rho vs).length > i)
    (hg : ∀ M', M1 <+: M' → Ret (cond ((wipeD rho vs).set i (some d)) M') M' b) :
    ∃ M2, eLc src (.nm i) vs cond (eVar i) rho M = .ok (.loc M2.length) (M2 ++ [Ob.lst (if b then [d] else [])]) ∧ M <+: M2 := by
  obtain ⟨M2, e1, q⟩ := lc_val (t := .nm i) (vs := vs) (cond := cond) (elt := eVar i) (fun _ => b) id es p1 (fun M' p => by
    simp only [Src.stands, pre_get p hl]
    exact beqDs_self [d]) (fun x hx => by
    have : x = d := by simpa [Src.items] using hx
    subst this
    refine ⟨_, rfl, fun M1' p => ?_⟩
    obtain ⟨M3, e3, p3⟩ := hg M1' p
    exact ⟨M3, e3, p3, fun _ => ⟨M3, by simp [hw], List.prefix_refl _⟩⟩) (by simp [Src.items]; unfold lim; omega)
  refine ⟨M2, ?_, q⟩
  cases b <;> simpa [Src.items] using e1
end VI
namespace K79
open PySem PySem.Spec L2 VI
def listOf : Option D → List D
  | some d => [d]
  | none => []
theorem isnil {ws : List Str} (hne : ws ≠ []) (hw : ∀ a ∈ ws, ok a) {l : Nat} {M : Mem} (hl : M[l]? = some (.lst (ws.map D.str))) : oEq (.loc l) (.loc M.length) (M ++ [Ob.lst []]) = some (.bl false, M ++ [Ob.lst []]) := by
  have := o_eq_nil (M := M ++ [Ob.lst []]) (l := l) (k := M.length) (as := ws) (pre_get (pre_add M _) hl) seq_last hw
  rw [this]
  cases ws with
  | nil => exact absurd rfl hne
  | cons => rfl
theorem thing_l {w : Str} {as : List Str} {l : Nat} {M M' : Mem} (hl : M[l]? = some (.lst ((w :: as).map D.str))) (p : M <+: M') :
    ∃ M0, oIdx gt0 (.loc l) (.int 0) M' = some (.str w, M') ∧ oSlc (.loc l) (some 1) none M' = some (.loc M'.length, M0) ∧ oTuple [.loc M'.length] M0 = some (.tup (as.map D.str), M0) ∧ M' <+: M0 := by
  have hl' := pre_get p hl
  refine ⟨M' ++ [Ob.lst (as.map D.str)], o_ix_l0 hl' rfl, ?_, o_tuple seq_last, pre_add _ _⟩
  simpa using o_slc_tl hl'
theorem lc_thing {w : Str} {as : List Str} (hw : ok w) (ha : ∀ a ∈ as, ok a) (hn : as.length ≤ lim) {l : Nat} (M : Mem) :
    ∃ M2, eLc (eSrc (eLst (eVals [eVar 1]))) (.nm 2) [2] (eTru (eCall g__law_is_item (eVals [eVar 2]))) (eVar 2) [some (.loc l), some (.tup [.str w, .tup (as.map D.str)]), none] M = .ok (.loc M2.length) (M2 ++ [Ob.lst (listOf (thingOf w as))]) ∧ M <+: M2 := by
  have h1 : (1 : Nat) ≤ lim := by unfold lim; omega
  have es : eSrc (eLst (eVals [eVar 1])) [some (.loc l), some (.tup [.str w, .tup (as.map D.str)]), none] M = .ok (.lst M.length [.tup [.str w, .tup (as.map D.str)]]) (M ++ [Ob.lst [.tup [.str w, .tup (as.map D.str)]]]) := by simp [eSrc, h1, srcD]
  obtain ⟨M2, e2, p2⟩ := lc_one (i := 2) (vs := [2]) (cond := eTru (eCall g__law_is_item (eVals [eVar 2]))) (b := thingT w as) es (pre_add M _) seq_last (by simp [wipeD]) (fun M' p => by
    obtain ⟨M3, e3, p3⟩ := lret_item_t hw ha hn M'
    exact ⟨M3, by simp [wipeD, e3], p3⟩)
  refine ⟨M2, ?_, p2⟩
  rw [e2]
  unfold thingOf
  cases thingT w as <;> rfl
theorem lc_fact {v a b : Str} (hv : v = ("same" : Str) ∨ v = ("unlike" : Str)) (ha : ok a) (hb : ok b) {l : Nat} (M : Mem) :
    ∃ M2, eLc (eSrc (eLst (eVals [eVar 1]))) (.nm 2) [2] (eTru (eCall g__law_is_item (eVals [eVar 2]))) (eVar 2) [some (.loc l), some (.tup [.str v, .str a, .str b]), none] M = .ok (.loc M2.length) (M2 ++ [Ob.lst (listOf (if termS a && termS b then some (.tup [.str v, .str a, .str b]) else none))]) ∧ M <+: M2 := by
  have h1 : (1 : Nat) ≤ lim := by unfold lim; omega
  have es : eSrc (eLst (eVals [eVar 1])) [some (.loc l), some (.tup [.str v, .str a, .str b]), none] M = .ok (.lst M.length [.tup [.str v, .str a, .str b]]) (M ++ [Ob.lst [.tup [.str v, .str a, .str b]]]) := by simp [eSrc, h1, srcD]
  obtain ⟨M2, e2, p2⟩ := lc_one (i := 2) (vs := [2]) (cond := eTru (eCall g__law_is_item (eVals [eVar 2]))) (b := termS a && termS b) es (pre_add M _) seq_last (by simp [wipeD]) (fun M' p => by
    obtain ⟨M3, e3, p3⟩ := lret_item_f hv ha hb M'
    exact ⟨M3, by simp [wipeD, e3], p3⟩)
  refine ⟨M2, ?_, p2⟩
  rw [e2]
  cases termS a && termS b <;> rfl
theorem sign_in (s : Str) (M : Mem) : oIn gt0 (.str s) (.tup [.str "=", .str "#"]) M = some (.bl (signOf s).isSome, M) := by
  unfold signOf
  by_cases h1 : s = ("=" : Str)
  · subst h1; rfl
  · by_cases h2 : s = ("#" : Str)
    · subst h2; rfl
    · have e1 : (("=" : Str) == s) = false := by simpa using Ne.symm h1
      have e2 : (("#" : Str) == s) = false := by simpa using Ne.symm h2
      simp [oIn, memD, flatD, eqF, e1, e2, h1, h2]
theorem sign_ix {s v : Str} (h : signOf s = some v) (M : Mem) : oIdx gt0 (.loc M.length) (.int (if s = ("#" : Str) then 1 else 0)) (M ++ [Ob.lst [.str "same", .str "unlike"]]) = some (.str v, M ++ [Ob.lst [.str "same", .str "unlike"]]) := by
  unfold signOf at h
  by_cases h1 : s = ("=" : Str)
  · subst h1
    simp at h
    subst h
    exact o_ix_l0 seq_last rfl
  · rw [if_neg h1] at h
    by_cases h2 : s = ("#" : Str)
    · rw [if_pos h2] at h ⊢
      cases h
      exact o_ix_l1 seq_last rfl
    · rw [if_neg h2] at h; cases h
theorem lret_item_in {ws : List Str} (hne : ws ≠ []) (hw : ∀ a ∈ ws, ok a) (hn : ws.length ≤ lim) {l : Nat} (M : Mem) (hl : M[l]? = some (.lst (ws.map D.str))) :
    ∃ M2, g__law_item_in [.loc l] M = .ok (.loc M2.length) (M2 ++ [Ob.lst (listOf (itemOf ws))]) ∧ M <+: M2 := by
  have en := isnil hne hw hl
  obtain ⟨Ma, hMa⟩ : ∃ Ma, Ma = M ++ [Ob.lst []] := ⟨_, rfl⟩
  have pa : M <+: Ma := by rw [hMa]; exact pre_add M _
  rw [← hMa] at en
  have h0 : (0 : Nat) ≤ lim := Nat.zero_le _
  have h2 : (2 : Nat) ≤ lim := by unfold lim; omega
  have h3 : (3 : Nat) ≤ lim := by unfold lim; omega
  unfold g__law_item_in runBody b__law_item_in
  match ws, hne, hw, hl, hn with
  | [], h, _, _, _ => exact absurd rfl h
  | [w, s, b], _, hw, hl, hn =>
    obtain ⟨M0, i0, s0, t0, p0⟩ := thing_l hl pa
    have hlen := o_len_loc (pre_get (pa.trans p0) hl)
    have i1 : oIdx gt0 (.loc l) (.int 1) M0 = some (.str s, M0) := o_ix_l1 (pre_get (pa.trans p0) hl) rfl
    have okw := hw w (by simp)
    have okb := hw b (by simp)
    cases hs : signOf s with
    | none =>
      obtain ⟨M2, e2, p2⟩ := lc_thing (as := [s, b]) (l := l) okw (fun a h => hw a (List.mem_cons_of_mem _ h)) (by simp at hn ⊢; omega) M0
      have ei : itemOf [w, s, b] = thingOf w [s, b] := by simp [itemOf, hs]
      rw [ei]
      refine ⟨M2, ?_, (pa.trans p0).trans p2⟩
      simp at i0 s0 t0 e2
      simp [h0, ← hMa, en, i0, s0, t0, h2, bindT, hlen, i1, sign_in, hs, e2]
    | some v =>
      have ix := sign_ix hs M0
      obtain ⟨Mb, hMb⟩ : ∃ Mb, Mb = M0 ++ [Ob.lst [D.str "same", D.str "unlike"]] := ⟨_, rfl⟩
      have pb : M <+: Mb := (pa.trans p0).trans (by rw [hMb]; exact pre_add M0 _)
      rw [← hMb] at ix
      have j0 : oIdx gt0 (.loc l) (.int 0) Mb = some (.str w, Mb) := o_ix_l0 (pre_get pb hl) rfl
      have j1 : oIdx gt0 (.loc l) (.int 1) Mb = some (.str s, Mb) := o_ix_l1 (pre_get pb hl) rfl
      have j2 : oIdx gt0 (.loc l) (.int 2) Mb = some (.str b, Mb) := o_ix_l2 (pre_get pb hl) rfl
      obtain ⟨M2, e2, p2⟩ := lc_fact (l := l) (sign_two hs) okw okb Mb
      have ei : itemOf [w, s, b] = if termS w && termS b then some (.tup [.str v, .str w, .str b]) else none := by simp [itemOf, hs]
      rw [ei]
      refine ⟨M2, ?_, pb.trans p2⟩
      simp at i0 s0 t0 e2
      simp [h0, ← hMa, en, i0, s0, t0, h2, h3, bindT, hlen, i1, sign_in, hs, ← hMb, ix, j0, j1, j2, oInt, e2]
  | [w], _, hw, hl, hn =>
    obtain ⟨M0, i0, s0, t0, p0⟩ := thing_l (as := []) hl pa
    have hlen := o_len_loc (pre_get (pa.trans p0) hl)
    obtain ⟨M2, e2, p2⟩ := lc_thing (as := []) (l := l) (hw w (by simp)) (fun a h => absurd h (by simp)) (by simp) M0
    rw [show itemOf [w] = thingOf w [] from rfl]
    refine ⟨M2, ?_, (pa.trans p0).trans p2⟩
    simp at i0 s0 t0 e2
    simp [h0, ← hMa, en, i0, s0, t0, h2, bindT, hlen, e2]
  | [w, a], _, hw, hl, hn =>
    obtain ⟨M0, i0, s0, t0, p0⟩ := thing_l hl pa
    have hlen := o_len_loc (pre_get (pa.trans p0) hl)
    obtain ⟨M2, e2, p2⟩ := lc_thing (as := [a]) (l := l) (hw w (by simp)) (fun a h => hw a (List.mem_cons_of_mem _ h)) (by simp at hn ⊢; omega) M0
    rw [show itemOf [w, a] = thingOf w [a] from rfl]
    refine ⟨M2, ?_, (pa.trans p0).trans p2⟩
    simp at i0 s0 t0 e2
    simp [h0, ← hMa, en, i0, s0, t0, h2, bindT, hlen, e2]
  | w :: a :: b :: c :: r, _, hw, hl, hn =>
    obtain ⟨M0, i0, s0, t0, p0⟩ := thing_l hl pa
    have hlen := o_len_loc (pre_get (pa.trans p0) hl)
    obtain ⟨M2, e2, p2⟩ := lc_thing (as := a :: b :: c :: r) (l := l) (hw w (by simp)) (fun a h => hw a (List.mem_cons_of_mem _ h)) (by simp at hn ⊢; omega) M0
    rw [show itemOf (w :: a :: b :: c :: r) = thingOf w (a :: b :: c :: r) from rfl]
    refine ⟨M2, ?_, (pa.trans p0).trans p2⟩
    have hq : ¬ ((r.length : Int) + 1 + 1 + 1 + 1 = 3) := by omega
    simp at i0 s0 t0 e2
    simp [h0, ← hMa, en, i0, s0, t0, h2, bindT, hlen, hq, e2]
end K79
namespace VI
open PySem PySem.Spec L2
@[simp] theorem v_for {src : EvI} {t : Tgt} {f : EvS} {rho : EnvD} {M : Mem} : sFor src t f rho M = match src rho M with
  | .ok s M1 => forLoop s t f s.items rho M1
  | .exc x M1 => .exc x rho M1
  | .bad => .bad := by
  unfold sFor sWith
  cases h : src rho M <;> rfl
@[simp] theorem v_fmt {a : EvE} {rho : EnvD} {M : Mem} : eFmt a rho M = (a rho M).bind fun x M1 => match x with
  | .str y => if y.length ≤ lim then .ok (.str y) M1 else .bad
  | .int i => if i.natAbs.log2 < 1920 then .ok (.str (toString i)) M1 else .bad
  | _ => .bad := rfl
@[simp] theorem v_jsn {acc : Str} {rho : EnvD} {M : Mem} : eJs [] acc rho M = .ok acc M := rfl
@[simp] theorem v_jsc {a : EvE} {fs : List EvE} {acc : Str} {rho : EnvD} {M : Mem} : eJs (a :: fs) acc rho M = (a rho M).bind fun x M1 => match x with
  | .str y => if (acc ++ y).length ≤ lim then eJs fs (acc ++ y) rho M1 else .bad
  | _ => .bad := rfl
@[simp] theorem v_joined {fs : List EvE} {rho : EnvD} {M : Mem} : eJoined fs rho M = (eJs fs Str.empty rho M).bind fun x M1 => .ok (.str x) M1 := rfl
theorem o_add_str {x y : Str} {M : Mem} (h : x.length + y.length ≤ lim) : oAdd (.str x) (.str y) M = some (.str (x ++ y), M) := by simp [oAdd, h]
theorem sum_ok : ∀ {ws : List Str}, (∀ w ∈ ws, ok w) → (ws.map (·.length)).sum ≤ ws.length * 100000
  | [], _ => by simp
  | w :: ws, h => by
    have h1 := (h w List.mem_cons_self).1
    have h2 := sum_ok (ws := ws) fun a ha => h a (List.mem_cons_of_mem _ ha)
    simp only [List.map_cons, List.sum_cons, List.length_cons]
    omega
end VI
namespace K79
open PySem PySem.Spec L2 VI
theorem ret_show_t {w : Str} {as : List Str} (hw : ok w) (ha : ∀ a ∈ as, ok a) (hn : as.length ≤ 3) (M : Mem) : Ret (g_show_item [.tup [.str w, .tup (as.map D.str)]] M) M (.str (Str.join sp (w :: as))) := by
  have h1 : (1 : Nat) ≤ lim := by unfold lim; omega
  have hz : 1 + as.length ≤ lim := by unfold lim; omega
  have hs : ((w :: as).map (·.length)).sum + (w :: as).length * sp.length ≤ 16777216 := by
    have := sum_ok (ws := w :: as) (fun a h => by
      rcases List.mem_cons.mp h with rfl | h
      · exact hw
      · exact ha a h)
    have e : sp.length = 1 := rfl
    rw [e]
    simp only [List.length_cons] at this ⊢
    omega
  let M1 := M ++ [Ob.lst [D.str w]]
  let M2 := M1 ++ [Ob.lst (as.map D.str)]
  have e1 : oAdd (.loc M.length) (.loc M1.length) M2 = some (.loc M2.length, M2 ++ [Ob.lst ((w :: as).map D.str)]) := by
    have g1 : M2[M.length]? = some (.lst [D.str w]) := pre_get (pre_add M1 _) seq_last
    have g2 : M2[M1.length]? = some (.lst (as.map D.str)) := seq_last
    simp [oAdd, g1, g2, hz]
  have e2 : mJoin (.str sp) [.loc M2.length] (M2 ++ [Ob.lst ((w :: as).map D.str)]) = some (.str (Str.join sp (w :: as)), M2 ++ [Ob.lst ((w :: as).map D.str)]) := o_join seq_last hs
  refine ⟨M2 ++ [Ob.lst ((w :: as).map D.str)], ?_, ((pre_add M _).trans (pre_add M1 _)).trans (pre_add M2 _)⟩
  unfold g_show_item runBody b_show_item
  simp only [M2, M1, sp] at e1 e2 ⊢
  simp at e1 e2
  simp [bindT, setE, h1, o_list_t, e1, e2]
theorem sign_back {s v : Str} (h : signOf s = some v) (M : Mem) : oIdx gt0 (.gd 1) (.str v) M = some (.str s, M) := by
  unfold signOf at h
  by_cases h1 : s = ("=" : Str)
  · subst h1; simp at h; subst h; rfl
  · rw [if_neg h1] at h
    by_cases h2 : s = ("#" : Str)
    · subst h2; rw [if_pos rfl] at h; cases h; rfl
    · rw [if_neg h2] at h; cases h
theorem sign_len {s v : Str} (h : signOf s = some v) : s.length = 1 ∧ s.cps.toList ≠ [32] := by
  unfold signOf at h
  by_cases h1 : s = ("=" : Str)
  · subst h1; exact ⟨rfl, by decide⟩
  · rw [if_neg h1] at h
    by_cases h2 : s = ("#" : Str)
    · subst h2; exact ⟨rfl, by decide⟩
    · rw [if_neg h2] at h; cases h
theorem ret_show_f {s v a b : Str} (hs : signOf s = some v) (ha : ok a) (hb : ok b) (M : Mem) : Ret (g_show_item [.tup [.str v, .str a, .str b]] M) M (.str (Str.join sp [a, s, b])) := by
  have hl := (sign_len hs).1
  have hla := ha.1
  have hlb := hb.1
  have e1 : (" " : Str).length = 1 := rfl
  have l1 : a.length ≤ lim := by unfold lim; omega
  have l2 : s.length ≤ lim := by unfold lim; omega
  have l3 : b.length ≤ lim := by unfold lim; omega
  have l4 : a.length + 1 ≤ lim := by unfold lim; omega
  have l5 : a.length + 1 + s.length ≤ lim := by unfold lim; omega
  have l6 : a.length + 1 + s.length + 1 ≤ lim := by unfold lim; omega
  have l7 : a.length + 1 + s.length + 1 + b.length ≤ lim := by unfold lim; omega
  have ej : a ++ (" " : Str) ++ s ++ (" " : Str) ++ b = Str.join sp [a, s, b] := by
    show _ = a ++ sp ++ (s ++ sp ++ b)
    refine str_ext ?_
    simp [app_l, sp]
  refine ⟨M, ?_, List.prefix_refl M⟩
  unfold g_show_item runBody b_show_item
  simp [bindT, setE, sign_back hs, empty_app, app_len, e1, l1, l2, l3, l4, l5, l6, l7, ej]
theorem lret_text_f {s v a b : Str} (hs : signOf s = some v) (ha : ok a) (hb : ok b) (M : Mem) : Ret (g__law_item_text [.tup [.str v, .str a, .str b]] M) M (.str (Str.join sp [a, s, b])) := by
  have hla := ha.1
  have hlb := hb.1
  have h2 : (2 : Nat) ≤ lim := by unfold lim; omega
  let M1 := M ++ [Ob.lst [D.str " = ", D.str " # "]]
  have key : ∃ z : Str, z.length = 3 ∧ oIdx gt0 (.loc M.length) (.int (if v = ("unlike" : Str) then 1 else 0)) M1 = some (.str z, M1) ∧ a ++ z ++ b = Str.join sp [a, s, b] := by
    have ej : ∀ z : Str, z.cps.toList = 32 :: s.cps.toList ++ [32] → a ++ z ++ b = Str.join sp [a, s, b] := by
      intro z hz
      show _ = a ++ sp ++ (s ++ sp ++ b)
      refine str_ext ?_
      simp [app_l, hz, sp_l]
    unfold signOf at hs
    by_cases h1 : s = ("=" : Str)
    · subst h1
      simp at hs
      subst hs
      exact ⟨" = ", rfl, o_ix_l0 seq_last rfl, ej _ rfl⟩
    · rw [if_neg h1] at hs
      by_cases h3 : s = ("#" : Str)
      · subst h3
        rw [if_pos rfl] at hs
        cases hs
        exact ⟨" # ", rfl, o_ix_l1 seq_last rfl, ej _ rfl⟩
      · rw [if_neg h3] at hs; cases hs
  obtain ⟨z, hz, hi, hj⟩ := key
  have l1 : a.length + z.length ≤ lim := by unfold lim; omega
  have l2 : (a ++ z).length + b.length ≤ lim := by rw [app_len]; unfold lim; omega
  refine ⟨M1, ?_, pre_add M _⟩
  unfold g__law_item_text runBody b__law_item_text
  simp only [M1] at hi ⊢
  simp [h2, oInt, hi, o_add_str l1, o_add_str l2, hj]
theorem text_loop {item : D} {M : Mem} {xs : List D} : ∀ (as : List Str) (acc : Str) (z : Option D), (∀ a ∈ as, ok a) → acc.length + (as.map (·.length)).sum + as.length ≤ 10000000 →
    ∃ z', forLoop (.tup xs) (.nm 2) (sSeq (sAsg (.nm 1) (eBin oAdd (eBin oAdd (eVar 1) (eCon (.str (" " : Str)))) (eVar 2))) sNil) (as.map D.str) [some item, some (.str acc), z] M = .ok (.nx [some item, some (.str (as.foldl (fun r a => r ++ sp ++ a) acc)), z']) M
  | [], acc, z, _, _ => ⟨z, rfl⟩
  | a :: as, acc, z, h, hl => by
    simp only [List.map_cons, List.sum_cons, List.length_cons] at hl
    have e1 : (" " : Str).length = 1 := rfl
    have l1 : acc.length + (" " : Str).length ≤ lim := by rw [e1]; unfold lim; omega
    have l2 : (acc ++ (" " : Str)).length + a.length ≤ lim := by rw [app_len, e1]; unfold lim; omega
    obtain ⟨z', e⟩ := text_loop (item := item) (M := M) (xs := xs) as (acc ++ sp ++ a) (some (.str a)) (fun b hb => h b (List.mem_cons_of_mem _ hb)) (by rw [app_len, app_len, show sp.length = 1 from rfl]; omega)
    refine ⟨z', ?_⟩
    simp only [List.foldl_cons]
    rw [← e]
    simp [forLoop, Src.stands, bindT, o_add_str l1, o_add_str l2, sp]
theorem join_fold : ∀ (as : List Str) (w : Str), as.foldl (fun r a => r ++ sp ++ a) w = Str.join sp (w :: as)
  | [], w => rfl
  | a :: as, w => by
    simp only [List.foldl_cons]
    rw [join_fold as (w ++ sp ++ a)]
    show _ = w ++ sp ++ Str.join sp (a :: as)
    cases as with
    | nil => rfl
    | cons b as =>
      show w ++ sp ++ a ++ sp ++ Str.join sp (b :: as) = w ++ sp ++ (a ++ sp ++ Str.join sp (b :: as))
      refine str_ext ?_
      simp [app_l]
theorem lret_text_t {w : Str} {as : List Str} (hw : ok w) (ha : ∀ a ∈ as, ok a) (hn : as.length ≤ 3) (M : Mem) : Ret (g__law_item_text [.tup [.str w, .tup (as.map D.str)]] M) M (.str (Str.join sp (w :: as))) := by
  have hs := sum_ok ha
  have hwl := hw.1
  obtain ⟨z', e⟩ := text_loop (item := .tup [.str w, .tup (as.map D.str)]) (M := M) (xs := as.map D.str) as w none ha (by omega)
  rw [join_fold] at e
  refine ⟨M, ?_, List.prefix_refl M⟩
  unfold g__law_item_text runBody b__law_item_text
  simp [bindT, eSrc, srcD, Src.items]
  rw [e]
  simp
end K79
namespace VI
open PySem PySem.Spec L2
@[simp] theorem v_isx {f : Nat → Option Bool} {a : EvE} {rho : EnvD} {M : Mem} : eIsX f a rho M = (a rho M).bind fun x M1 => match x with
  | .exn c _ _ => match f c with
    | some b => .ok (.bl b) M1
    | none => .bad
  | _ => .bad := rfl
@[simp] theorem v_xf {g : Nat → Bool} {f : Str} {a : EvE} {rho : EnvD} {M : Mem} : eXf g f a rho M = (a rho M).bind fun x M1 => match x with
  | .exn c ns ds => if g c then match dget ns ds f with
      | some d => .ok d M1
      | none => .bad
    else .bad
  | _ => .bad := rfl
@[simp] theorem v_try {cs : Nat → Option Bool} {i j : Nat} {f : EvS} {rho : EnvD} {M : Mem} : sTryKeep cs i j f rho M = match f rho M with
  | .exc x rho1 M1 => match cs x.c with
    | some true => .ok (.nx (((rho1.set i none).set j (some (.exn x.c x.ns x.vs))).set i none)) M1
    | some false => .exc x rho1 M1
    | none => .bad
  | r => r := rfl
@[simp] theorem v_act {i f c : Nat} {q : Str} {us : List V} {ask : List D → Mem → Res D} {rho : EnvD} {M : Mem} : eAct i f c q us ask rho M = match rho[i]? with
  | some (some (.fn f' c' q' ds us')) => if f' = f ∧ c' = c ∧ q' = q ∧ us' = us then ask ds M else .bad
  | _ => .bad := rfl
@[simp] theorem n_non : VI.isNon .non = true := rfl
@[simp] theorem n_exn {c : Nat} {ns : List Str} {ds : List D} : VI.isNon (.exn c ns ds) = false := rfl
@[simp] theorem v_lam {is : List Nat} {g : List D → Mem → Res D} {rho : EnvD} {M : Mem} : eLamCall is g rho M = match getE is rho with
  | some ds => g ds M
  | none => .bad := rfl
end VI
namespace K79
open PySem PySem.Spec L2 VI
def refused : Res D → Res D
  | .ok d M1 => .ok (.loc M1.length) (M1 ++ [Ob.lst [d]])
  | .exc x M1 => if x.c = 9 then match dget x.ns x.vs ("line" : Str) with
      | none => .bad
      | some d => match isiD M1 "bool" d with
        | none => .bad
        | some true => .ok (.tup []) M1
        | some false => .ok (.tup [d]) M1
    else .bad
  | .bad => .bad
theorem cs_no {c : Nat} (h : c ≠ 9) : cs_HeadError c = none := by
  unfold cs_HeadError
  split
  · exact absurd rfl h
  · rfl
theorem refusal_val (f c : Nat) (q : Str) (us : List V) (ds : List D) (ask : List D → Mem → Res D) (M : Mem) : runBody (b__law_refusal (eAct 0 f c q us ask)) 4 [.fn f c q ds us] M = refused (ask ds M) := by
  have h1 : (1 : Nat) ≤ lim := by unfold lim; omega
  have h0 : (0 : Nat) ≤ lim := Nat.zero_le _
  unfold runBody b__law_refusal
  cases ha : ask ds M with
  | bad => simp [bindT, ha, refused]
  | ok d M1 => simp [bindT, ha, refused, h1]
  | exc x M1 =>
    by_cases hc : x.c = 9
    · have e1 : cs_HeadError 9 = some true := rfl
      have e2 : ok_i0 9 = some false := rfl
      have e3 : ok_i1 9 = some false := rfl
      have e4 : ok_i2 9 = some true := rfl
      have e5 : ok_i3 9 = some true := rfl
      have e6 : ok_line 9 = true := rfl
      cases hd : dget x.ns x.vs ("line" : Str) with
      | none => simp [bindT, ha, refused, h1, h0, e1, e2, e3, e4, e5, e6, hc, hd]
      | some d =>
        cases hb : isiD M1 "bool" d with
        | none => simp [bindT, ha, refused, h1, h0, e1, e2, e3, e4, e5, e6, hc, hd, hb]
        | some b => cases b <;> simp [bindT, ha, refused, h1, h0, e1, e2, e3, e4, e5, e6, hc, hd, hb]
    · simp [bindT, ha, refused, cs_no hc, hc]
end K79
namespace VI
open PySem PySem.Spec L2
theorem tup_len (ts : List Str) : (tupleText ts).length ≤ (ts.map (·.length)).sum + ts.length * 2 + 3 := by
  have h := StrLaws.join_length_le ", " ts
  have e1 : ("(" : Str).length = 1 := rfl
  have e2 : (", " : Str).length = 2 := rfl
  have e3 : (if ts.length == 1 then (",)" : String) else ")" : String).length ≤ 2 := by split <;> decide
  unfold tupleText
  rw [app_len, app_len, e1]
  rw [e2] at h
  have e4 : (Str.ofString (if ts.length == 1 then ",)" else ")")).length ≤ 2 := by split <;> decide
  omega
theorem rep_len {x : Str} (h : ok x) : (reprText x).length ≤ 10 * x.length + 2 := StrLaws.reprText_len x fun c hc => by have := h.2 c hc; omega
theorem shown_strs : ∀ as : List Str, PyData.shownAll (as.map PyData.str) = as.map reprText
  | [] => rfl
  | a :: as => by simp [PyData.shownAll, PyData.shown, shown_strs as]
theorem showable_strs : ∀ as : List Str, PyData.showableAll (as.map PyData.str) = true
  | [] => rfl
  | a :: as => by simp [PyData.showableAll, PyData.showable, showable_strs as]
theorem noDict_strs : ∀ as : List Str, PyData.hasDictAll (as.map PyData.str) = false
  | [] => rfl
  | a :: as => by simp [PyData.hasDictAll, PyData.hasDict, noDict_strs as]
/-- what is fit to be compared and shown -/
structure Fit (d : D) (p : PyData) : Prop where
  pd : ∀ M n, 2 ≤ n → VI.pd M n d = some p
  lay : p.canLay0 = true
  dep : p.depth ≤ 2
  show_ : p.showable = true
  noD : p.hasDict = false
  len : p.shown.length ≤ 100000
  dis : PyProof.Rows.isDisplay p = true
theorem oRepr_fit {d : D} {p : PyData} (F : Fit d p) (M : Mem) : oRepr [d] M = some (.str p.shown, M) := by
  have h1 : p.depth ≤ 60 := Nat.le_trans F.dep (by decide)
  have h2 : p.shown.length ≤ lim := Nat.le_trans F.len (by unfold lim; omega)
  simp [oRepr, F.pd M 12 (by decide), F.dis, F.show_, F.noD, h1, h2]
theorem eqv_self_all : ∀ ps : List PyData, (∀ p ∈ ps, PyData.eqv p p = true) → PyData.eqvAll ps ps = true
  | [], _ => by simp [PyData.eqvAll]
  | p :: ps, h => by simp [PyData.eqvAll, h p List.mem_cons_self, eqv_self_all ps fun q hq => h q (List.mem_cons_of_mem _ hq)]
end VI
namespace K79
open PySem PySem.Spec L2 VI
theorem plain_len {x : Str} (h : plainS x = true) : x.length ≤ 8 ∧ 1 ≤ x.length := by
  unfold plainS at h
  simp at h
  omega
theorem figs_len {x : Str} {m : Int} (h : figs x m = true) : (x.length : Int) ≤ m ∧ 1 ≤ x.length := by
  unfold figs at h
  simp at h
  omega
theorem term_len {x : Str} (h : termS x = true) : x.length ≤ 31 ∧ 1 ≤ x.length := by
  unfold termS at h
  simp only [Bool.or_eq_true] at h
  rcases h with h | h | h
  · have := figs_len h
    omega
  · have := plain_len h
    omega
  · unfold newS at h
    simp only [Bool.and_eq_true, decide_eq_true_eq] at h
    have e := hd_tl h.1
    have := figs_len h.2.1
    have l : x.length = (tl1 x).length + 1 := by rw [len_l, e, len_l (tl1 x)]; rfl
    omega
theorem fit_thing {w : Str} {as : List Str} (hw : ok w) (ha : ∀ a ∈ as, ok a) (h : thingT w as = true) : Fit (.tup [.str w, .tup (as.map D.str)]) (.tuple [.str w, .tuple (as.map PyData.str)]) := by
  unfold thingT at h
  simp only [Bool.and_eq_true, decide_eq_true_eq, List.all_eq_true] at h
  obtain ⟨h1, h2, h3⟩ := h
  refine ⟨fun M n hn => ?_, ?_, ?_, ?_, ?_, ?_, rfl⟩
  · obtain ⟨k, rfl⟩ : ∃ k, n = k + 2 := ⟨n - 2, by omega⟩
    simp [VI.pd, mapO, pd_strs]
  · simp [PyData.canLay0, PyData.canLayAll0, hw.strOk, canLay_strs ha]
  · simp [PyData.depth, PyData.depthAll, depth_strs]
  · simp [PyData.showable, PyData.showableAll, showable_strs]
  · simp [PyData.hasDict, PyData.hasDictAll, noDict_strs]
  · simp only [PyData.shown, PyData.shownAll, shown_strs]
    have e1 := tup_len [reprText w, tupleText (as.map reprText)]
    have e2 := tup_len (as.map reprText)
    have e3 := rep_len hw
    have e4 := (plain_len h1).1
    have key : ∀ bs : List Str, (∀ b ∈ bs, ok b ∧ b.length ≤ 31) → ((bs.map reprText).map (·.length)).sum ≤ bs.length * 312 := by
      intro bs
      induction bs with
      | nil => intro _; simp
      | cons b bs ih =>
        intro hb
        have q1 := ih fun c hc => hb c (List.mem_cons_of_mem _ hc)
        obtain ⟨q2, q3⟩ := hb b List.mem_cons_self
        have q4 := rep_len q2
        simp only [List.map_cons, List.sum_cons, List.length_cons]
        omega
    have e5 := key as fun a h => ⟨ha a h, (term_len (h3 a h)).1⟩
    simp only [List.map_cons, List.map_nil, List.sum_cons, List.sum_nil, List.length_cons, List.length_nil, List.length_map] at e1 e2
    omega
theorem fit_fact {v a b : Str} (hv : v = ("same" : Str) ∨ v = ("unlike" : Str)) (ha : ok a) (hb : ok b) (h : (termS a && termS b) = true) : Fit (.tup [.str v, .str a, .str b]) (.tuple [.str v, .str a, .str b]) := by
  simp only [Bool.and_eq_true] at h
  have okv : ok v := by
    rcases hv with rfl | rfl
    · exact ⟨by decide, by decide⟩
    · exact ⟨by decide, by decide⟩
  have lv : v.length ≤ 6 := by rcases hv with rfl | rfl <;> decide
  refine ⟨fun M n hn => ?_, ?_, ?_, ?_, ?_, ?_, rfl⟩
  · obtain ⟨k, rfl⟩ : ∃ k, n = k + 2 := ⟨n - 2, by omega⟩
    simp [VI.pd, mapO]
  · simp [PyData.canLay0, PyData.canLayAll0, ha.strOk, hb.strOk, okv.strOk]
  · simp [PyData.depth, PyData.depthAll]
  · simp [PyData.showable, PyData.showableAll]
  · simp [PyData.hasDict, PyData.hasDictAll]
  · simp only [PyData.shown, PyData.shownAll]
    have e1 := tup_len [reprText v, reprText a, reprText b]
    have e2 := rep_len okv
    have e3 := rep_len ha
    have e4 := rep_len hb
    have e5 := (term_len h.1).1
    have e6 := (term_len h.2).1
    simp only [List.map_cons, List.map_nil, List.sum_cons, List.sum_nil, List.length_cons, List.length_nil] at e1
    omega
/-- an item that words write, shown, is those words -/
theorem item_facts {ws : List Str} {d : D} (hne : ws ≠ []) (hw : ∀ a ∈ ws, ok a) (h : itemOf ws = some d) : (∃ p, Fit d p) ∧ (∀ M, Ret (g_show_item [d] M) M (.str (Str.join sp ws))) ∧ (∀ M, Ret (g__law_item_text [d] M) M (.str (Str.join sp ws))) := by
  have thing : ∀ w as, ok w → (∀ a ∈ as, ok a) → thingOf w as = some d → (∃ p, Fit d p) ∧ (∀ M, Ret (g_show_item [d] M) M (.str (Str.join sp (w :: as)))) ∧ (∀ M, Ret (g__law_item_text [d] M) M (.str (Str.join sp (w :: as)))) := by
    intro w as hw ha h
    unfold thingOf at h
    split at h
    · rename_i ht
      cases h
      have hn : as.length ≤ 3 := by
        unfold thingT at ht
        simp at ht
        exact ht.2.1
      exact ⟨⟨_, fit_thing hw ha ht⟩, ret_show_t hw ha hn, lret_text_t hw ha hn⟩
    · cases h
  match ws, hne, hw, h with
  | [], h, _, _ => exact absurd rfl h
  | [w, s, b], _, hw, h =>
    cases hs : signOf s with
    | none =>
      have ei : itemOf [w, s, b] = thingOf w [s, b] := by simp [itemOf, hs]
      rw [ei] at h
      exact thing w [s, b] (hw w (by simp)) (fun a ha => hw a (List.mem_cons_of_mem _ ha)) h
    | some v =>
      have ei : itemOf [w, s, b] = if termS w && termS b then some (.tup [.str v, .str w, .str b]) else none := by simp [itemOf, hs]
      rw [ei] at h
      split at h
      · rename_i ht
        cases h
        have okw := hw w (by simp)
        have okb := hw b (by simp)
        exact ⟨⟨_, fit_fact (sign_two hs) okw okb ht⟩, ret_show_f hs okw okb, lret_text_f hs okw okb⟩
      · cases h
  | [w], _, hw, h => exact thing w [] (hw w (by simp)) (fun a ha => absurd ha (by simp)) h
  | [w, a], _, hw, h => exact thing w [a] (hw w (by simp)) (fun a ha => hw a (List.mem_cons_of_mem _ ha)) h
  | w :: a :: b :: c :: r, _, hw, h => exact thing w (a :: b :: c :: r) (hw w (by simp)) (fun a ha => hw a (List.mem_cons_of_mem _ ha)) h
end K79
namespace VI
open PySem PySem.Spec L2
theorem repr_one {d : D} {p : PyData} (F : Fit d p) {M : Mem} {l : Nat} (hl : M[l]? = some (.lst [d])) : oRepr [.loc l] M = some (.str (PyData.list [p]).shown, M) := by
  have e : VI.pd M 12 (.loc l) = some (.list [p]) := by simp [VI.pd, hl, mapO, F.pd M 11 (by decide)]
  have h1 : (PyData.list [p]).depth ≤ 60 := by
    have := F.dep
    simp [PyData.depth, PyData.depthAll]
    omega
  have h2 : (PyData.list [p]).shown.length ≤ lim := by
    have e1 : (PyData.list [p]).shown = ("[" : Str) ++ ("" : Str) ++ p.shown ++ ("]" : Str) := by
      simp [PyData.shown, PyData.shownAll]
      rfl
    rw [e1]
    simp only [app_len]
    have e2 : ("[" : Str).length = 1 := rfl
    have e3 : ("]" : Str).length = 1 := rfl
    have e4 : ("" : Str).length = 0 := rfl
    have := F.len
    unfold lim
    omega
  have h3 : (PyData.list [p]).showable = true := by simp [PyData.showable, PyData.showableAll, F.show_]
  have h4 : (PyData.list [p]).hasDict = false := by simp [PyData.hasDict, PyData.hasDictAll, F.noD]
  have h5 : PyProof.Rows.isDisplay (PyData.list [p]) = true := rfl
  simp [oRepr, e, h1, h2, h3, h4, h5]
theorem ne_one {d : D} {p : PyData} (F : Fit d p) {M : Mem} {l k : Nat} (hl : M[l]? = some (.lst [d])) (hk : M[k]? = some (.lst [])) : oEq (.loc l) (.loc k) M = some (.bl false, M) := by
  have e1 : VI.pd M 12 (.loc l) = some (.list [p]) := by simp [VI.pd, hl, mapO, F.pd M 11 (by decide)]
  have e2 : VI.pd M 12 (.loc k) = some (.list []) := by simp [VI.pd, hk, mapO]
  have h1 : SeqAt.shaped (.list [p]) = true := by
    have := F.dep
    simp [SeqAt.shaped, PyData.canLay0, PyData.canLayAll0, F.lay, PyData.depth, PyData.depthAll]
    omega
  have h2 : SeqAt.shaped (.list []) = true := rfl
  simp [oEq, eqD, scalD, e1, e2, h1, h2, eqv_nil]
end VI
namespace K79
open PySem PySem.Spec L2 VI
theorem gl_val {t : Str} (M : Mem) : gl__law_text_right [.str t] M = refused (g_read_item [.str t] M) := by
  unfold gl__law_text_right
  rw [refusal_val]
  simp [capE, setE]
theorem lret_right {t : Str} (h : ok t) (M : Mem) : Ret (g__law_text_right [.str t] M) M (.bl true) := by
  obtain ⟨h1, h2⟩ := split_ok h
  have hne := split_ne t sp
  have hj := split_join t
  generalize hws : Txt.split t sp = ws at h1 h2 hne hj
  have s0 : mSplit (.str t) [.str (" " : Str)] M = some (.loc M.length, M ++ [.lst (ws.map D.str)]) := by
    rw [← hws]; exact o_split h.1
  obtain ⟨M2, e2, p2⟩ := lret_item_in hne h1 (by unfold lim; omega) (l := M.length) (M ++ [.lst (ws.map D.str)]) seq_last
  obtain ⟨r1, r2⟩ := ret_read h (M2 ++ [Ob.lst (listOf (itemOf ws))])
  rw [hws] at r1 r2
  have h0 : (0 : Nat) ≤ lim := Nat.zero_le _
  have h1' : (1 : Nat) ≤ lim := by unfold lim; omega
  unfold g__law_text_right runBody b__law_text_right
  cases hi : itemOf ws with
  | none =>
    obtain ⟨M3, e3, p3⟩ := r2 hi
    rw [hi] at e2 e3 p3
    have gv : gl__law_text_right [.str t] (M2 ++ [Ob.lst (listOf none)]) = .ok (.tup [.int 0]) M3 := by
      rw [gl_val, e3]
      rfl
    have en := o_eq_nil (M := M3 ++ [Ob.lst []]) (l := M2.length) (k := M3.length) (as := []) (pre_get (p3.trans (pre_add M3 _)) (seq_last (M := M2) (o := Ob.lst []))) seq_last (fun a ha => absurd ha (by simp))
    have ee : oEq (.tup [.int 0]) (.tup [.int 0]) (M3 ++ [Ob.lst []]) = some (.bl true, M3 ++ [Ob.lst []]) := rfl
    refine ⟨M3 ++ [Ob.lst []], ?_, (((pre_add M _).trans p2).trans ((pre_add M2 _).trans p3)).trans (pre_add M3 _)⟩
    simp only [listOf] at e2 gv
    simp at en
    simp [s0, e2, bindT, getE, gv, h0, h1', en, ee]
  | some d =>
    obtain ⟨M3, e3, p3⟩ := r1 d hi
    rw [hi] at e2 e3 p3
    obtain ⟨⟨p, F⟩, hs, _⟩ := item_facts hne h1 hi
    have gv : gl__law_text_right [.str t] (M2 ++ [Ob.lst (listOf (some d))]) = .ok (.loc M3.length) (M3 ++ [Ob.lst [d]]) := by
      rw [gl_val, e3]
      rfl
    have g2 : (M3 ++ [Ob.lst [d]])[M2.length]? = some (.lst [d]) := pre_get (p3.trans (pre_add M3 _)) (seq_last (M := M2) (o := Ob.lst [d]))
    have g3 : (M3 ++ [Ob.lst [d]])[M3.length]? = some (.lst [d]) := seq_last
    obtain ⟨M4, hM4⟩ : ∃ M4, M4 = M3 ++ [Ob.lst [d]] := ⟨_, rfl⟩
    rw [← hM4] at gv g2 g3
    have en := ne_one F (M := M4 ++ [Ob.lst []]) (l := M2.length) (k := M4.length) (pre_get (pre_add M4 _) g2) seq_last
    obtain ⟨M5, hM5⟩ : ∃ M5, M5 = M4 ++ [Ob.lst []] := ⟨_, rfl⟩
    have p5 : M4 <+: M5 := by rw [hM5]; exact pre_add M4 _
    rw [← hM5] at en
    have ra := repr_one F (pre_get p5 g3)
    have rb := repr_one F (pre_get p5 g2)
    have ix : oIdx gt0 (.loc M2.length) (.int 0) M5 = some (d, M5) := o_ix_l0 (pre_get p5 g2) rfl
    obtain ⟨M6, e6, p6⟩ := hs M5
    rw [hj] at e6
    refine ⟨M6, ?_, ((((pre_add M _).trans p2).trans ((pre_add M2 _).trans p3)).trans (by rw [hM5, hM4] at p6; exact (pre_add M3 [Ob.lst [d]]).trans ((pre_add _ _).trans p6)))⟩
    simp only [listOf] at e2 gv
    simp [s0, e2, bindT, getE, gv, h0, h1', ← hM5, en, ra, rb, ix, e6]
end K79
namespace VI
open PySem PySem.Spec L2
@[simp] theorem v_put {o i e : EvE} {rho : EnvD} {M : Mem} : sPut o i e rho M = match (e rho M).bind fun v M1 => (o rho M1).bind fun x M2 => (i rho M2).bind fun y M3 => match oPut x y v M3 with
    | some M4 => .ok () M4
    | none => .bad with
  | .ok _ M1 => .ok (.nx rho) M1
  | .exc x M1 => .exc x rho M1
  | .bad => .bad := by
  unfold sPut sWith
  dsimp only
  generalize (e rho M).bind _ = r
  cases r <;> rfl
theorem o_mul {i j : Int} {M : Mem} (h : -(2 ^ 64) < i ∧ i < 2 ^ 64) : oMul (.int i) (.int j) M = some (.int (i * j), M) := by
  have : mulB i j = true := by unfold mulB; simp only [h, decide_true, Bool.true_or]; simp
  simp [oMul, this]
theorem o_mul2 {i j : Int} {M : Mem} (h : -(2 ^ 64) < j ∧ j < 2 ^ 64) : oMul (.int i) (.int j) M = some (.int (i * j), M) := by
  have : mulB i j = true := by unfold mulB; simp only [h, decide_true, Bool.or_true]; simp
  simp [oMul, this]
theorem o_mod {i j : Int} {M : Mem} (h : 0 < j) : oMod (.int i) (.int j) M = some (.int (i % j), M) := by simp [oMod, h]
theorem o_fdiv {i j : Int} {M : Mem} (h : 0 < j) (h2 : j < 1073741824) : oFdiv (.int i) (.int j) M = some (.int (i / j), M) := by simp [oFdiv, h, h2]
theorem o_pow {i j : Int} {M : Mem} (h : 0 ≤ j) (h2 : j ≤ 1000000) (h3 : i.natAbs < 2 ^ 64) : oPow (.int i) (.int j) M = some (.int (i ^ j.toNat), M) := by
  simp only [oPow]
  rw [if_pos ⟨h, h2, h3⟩]
theorem o_abs {i : Int} {M : Mem} : oAbs [.int i] M = some (.int (if i < 0 then -i else i), M) := rfl
theorem o_int_bl {b : Bool} {M : Mem} : oInt [.bl b] M = some (.int (if b then 1 else 0), M) := rfl
theorem mapO_int (f : D → Option PyData) (hf : ∀ x, f (.int x) = some (.int x)) : ∀ as : List Int, mapO f (as.map D.int) = some (as.map PyData.int)
  | [] => rfl
  | a :: as => by simp [mapO, hf, mapO_int f hf as]
theorem ne_ints {M : Mem} {l k : Nat} {as : List Int} (hl : M[l]? = some (.lst (as.map D.int))) (hk : M[k]? = some (.lst [])) : oNe (.loc l) (.loc k) M = some (.bl (!as.isEmpty), M) := by
  have e1 : VI.pd M 12 (.loc l) = some (.list (as.map PyData.int)) := by simp [VI.pd, hl, mapO_int (VI.pd M 11) fun _ => rfl]
  have e2 : VI.pd M 12 (.loc k) = some (.list []) := by simp [VI.pd, hk, mapO]
  have c1 : ∀ as : List Int, PyData.canLayAll0 (as.map PyData.int) = true := by
    intro as
    induction as with
    | nil => rfl
    | cons a as ih => simp [PyData.canLayAll0, PyData.canLay0, ih]
  have c2 : ∀ as : List Int, PyData.depthAll (as.map PyData.int) = 0 := by
    intro as
    induction as with
    | nil => rfl
    | cons a as ih => simp [PyData.depthAll, PyData.depth, ih]
  have h1 : SeqAt.shaped (.list (as.map PyData.int)) = true := by simp [SeqAt.shaped, PyData.canLay0, c1, PyData.depth, c2]
  have h2 : SeqAt.shaped (.list []) = true := rfl
  simp [oNe, eqD, scalD, e1, e2, h1, h2, eqv_nil]
/-- all but p stays -/
def Ext (p : Nat) (M M' : Mem) : Prop := M.length ≤ M'.length ∧ ∀ l, l < M.length → l ≠ p → M'[l]? = M[l]?
theorem Ext.refl {p : Nat} (M : Mem) : Ext p M M := ⟨Nat.le_refl _, fun _ _ _ => rfl⟩
theorem Ext.trans {p : Nat} {M M' M'' : Mem} (a : Ext p M M') (b : Ext p M' M'') : Ext p M M'' := ⟨Nat.le_trans a.1 b.1, fun l h n => (b.2 l (Nat.lt_of_lt_of_le h a.1) n).trans (a.2 l h n)⟩
theorem Ext.of {p : Nat} {M M' : Mem} (h : M <+: M') : Ext p M M' := by
  obtain ⟨J, rfl⟩ := h
  exact ⟨by simp, fun l hl _ => List.getElem?_append_left hl⟩
theorem Ext.get {p l : Nat} {M M' : Mem} {o : Ob} (h : Ext p M M') (e : M[l]? = some o) (n : l ≠ p) : M'[l]? = some o := by
  rw [h.2 l (List.getElem?_eq_some_iff.mp e).1 n]; exact e
theorem Ext.set {p : Nat} {M : Mem} {o : Ob} : Ext p M (M.set p o) := ⟨by simp, fun l _ n => List.getElem?_set_ne (Ne.symm n)⟩
def penO (c : Nat) (a l : Int) : Ob := .dct [.inr ("cells" : Str), .inr ("at" : Str), .inr ("left" : Str)] [.loc c, .int a, .int l]
structure Pen (p n : Nat) (M : Mem) : Prop where
  ex : ∃ (c : Nat) (cells : List Int) (a l : Int), M[p]? = some (penO c a l) ∧ M[c]? = some (.lst (cells.map D.int)) ∧ cells.length ≤ 63 ∧ c ≠ p ∧ 0 ≤ a ∧ a ≤ (n : Int)
theorem Pen.pre {p n : Nat} {M M' : Mem} (P : Pen p n M) (h : M <+: M') : Pen p n M' := by
  obtain ⟨c, cells, a, l, h1, h2, r⟩ := P.ex
  exact ⟨c, cells, a, l, pre_get h h1, pre_get h h2, r⟩
theorem Pen.le {p n m : Nat} {M : Mem} (P : Pen p n M) (h : n ≤ m) : Pen p m M := by
  obtain ⟨c, cells, a, l, h1, h2, h3, h4, h5, h6⟩ := P.ex
  exact ⟨c, cells, a, l, h1, h2, h3, h4, h5, by omega⟩
section
variable {p c : Nat} {a l z : Int} {M : Mem} {gt : Nat → List (Str × D)}
theorem pen_left (h : M[p]? = some (penO c a l)) : oIdx gt (.loc p) (.str ("left" : Str)) M = some (.int l, M) := by
  simp only [oIdx, h, penO]
  rfl
theorem pen_at (h : M[p]? = some (penO c a l)) : oIdx gt (.loc p) (.str ("at" : Str)) M = some (.int a, M) := by
  simp only [oIdx, h, penO]
  rfl
theorem pen_cells (h : M[p]? = some (penO c a l)) : oIdx gt (.loc p) (.str ("cells" : Str)) M = some (.loc c, M) := by
  simp only [oIdx, h, penO]
  rfl
theorem put_left (h : M[p]? = some (penO c a l)) : oPut (.loc p) (.str ("left" : Str)) (.int z) M = some (M.set p (penO c a z)) := by
  have h3 : 3 < lim := by unfold lim; omega
  simp [oPut, h, penO, keyD, h3]
  rfl
theorem put_at (h : M[p]? = some (penO c a l)) : oPut (.loc p) (.str ("at" : Str)) (.int z) M = some (M.set p (penO c z l)) := by
  have h3 : 3 < lim := by unfold lim; omega
  simp [oPut, h, penO, keyD, h3]
  rfl
theorem set_here {o o' : Ob} (h : M[p]? = some o) : (M.set p o')[p]? = some o' := List.getElem?_set_self (List.getElem?_eq_some_iff.mp h).1
end
end VI
namespace K79
open PySem PySem.Spec L2 VI
theorem draw_spec {p n : Nat} {k : Int} {M : Mem} (P : Pen p n M) (hn : n ≤ 1000000) (h0 : 0 < k) (hk : k < 1073741824) :
    ∃ r M', g__law_draw [.loc p, .int k] M = .ok (.int r) M' ∧ 0 ≤ r ∧ r < k ∧ Ext p M M' ∧ Pen p (n + 1) M' := by
  obtain ⟨c, cells, a, l, hp, hc, hl, hne, ha, han⟩ := P.ex
  unfold g__law_draw runBody b__law_draw
  by_cases hleft : 0 < l
  · refine ⟨l % k, M.set p (penO c a (l / k)), ?_, Int.emod_nonneg _ (by omega), Int.emod_lt_of_pos _ h0, Ext.set, c, cells, a, l / k, set_here hp, ?_, hl, hne, ha, by omega⟩
    · simp [pen_left hp, hleft, o_mod h0, o_fdiv h0 hk, bindT, put_left hp]
    · rw [List.getElem?_set_ne (Ne.symm hne)]; exact hc
  · have hM1 : (M.set p (penO c (a + 1) l))[p]? = some (penO c (a + 1) l) := set_here hp
    have hc1 : (M.set p (penO c (a + 1) l))[c]? = some (.lst (cells.map D.int)) := by rw [List.getElem?_set_ne (Ne.symm hne)]; exact hc
    obtain ⟨M1, eM1⟩ : ∃ M1, M1 = M.set p (penO c (a + 1) l) := ⟨_, rfl⟩
    have x1 : Ext p M M1 := by rw [eM1]; exact Ext.set
    rw [← eM1] at hM1 hc1
    obtain ⟨M2, eM2⟩ : ∃ M2, M2 = M1 ++ [Ob.lst []] := ⟨_, rfl⟩
    have p2 : M1 <+: M2 := by rw [eM2]; exact pre_add M1 _
    have hM2 := pre_get p2 hM1
    have hc2 := pre_get p2 hc1
    have hnil : M2[M1.length]? = some (.lst []) := by rw [eM2]; exact seq_last
    have ne2 := ne_ints hc2 hnil
    have len2 := o_len_loc hc2
    have hz : (0 : Nat) ≤ lim := Nat.zero_le _
    -- the cell
    obtain ⟨cell, hcell⟩ : ∃ cell : Int, cells = [] ∧ cell = 2017 * a + 331 ∨ cells ≠ [] ∧ cells[(a % (cells.length : Int)).toNat]? = some cell := by
      cases hcs : cells with
      | nil => exact ⟨_, .inl ⟨rfl, rfl⟩⟩
      | cons x xs =>
        have hpos : (0 : Int) < ((x :: xs).length : Int) := by simp
        have h1 := Int.emod_nonneg a (show ((x :: xs).length : Int) ≠ 0 by omega)
        have h2 := Int.emod_lt_of_pos a hpos
        have h3 : (a % ((x :: xs).length : Int)).toNat < (x :: xs).length := by omega
        exact ⟨_, .inr ⟨by simp, List.getElem?_eq_getElem h3⟩⟩
    have hb1 : (cell % 2147483563 + 70657 * a + 47).natAbs < 2 ^ 64 := by
      have q1 := Int.emod_nonneg cell (show (2147483563 : Int) ≠ 0 by decide)
      have q2 := Int.emod_lt_of_pos cell (show (0 : Int) < 2147483563 by decide)
      have : (2 : Nat) ^ 64 = 18446744073709551616 := by decide
      omega
    obtain ⟨one, hone⟩ : ∃ one : Int, one = (cell % 2147483563 + 70657 * a + 47) ^ 5 % 2147483647 := ⟨_, rfl⟩
    have o1 : 0 ≤ one := by rw [hone]; exact Int.emod_nonneg _ (by decide)
    have o2 : one < 2147483647 := by rw [hone]; exact Int.emod_lt_of_pos _ (by decide)
    have han' : a ≤ 1000000 := by omega
    have hb2 : (one * (a + 65543) + 86239 * a * a).natAbs < 2 ^ 64 := by
      have q1 : 0 ≤ one * (a + 65543) := Int.mul_nonneg o1 (by omega)
      have q2 : one * (a + 65543) ≤ 2147483647 * 1065543 := Int.mul_le_mul (by omega) (by omega) (by omega) (by decide)
      have q3 : 0 ≤ 86239 * a * a := Int.mul_nonneg (by omega) ha
      have q4 : 86239 * a * a ≤ 86239000000 * 1000000 := Int.mul_le_mul (by omega) han' ha (by decide)
      have : (2 : Nat) ^ 64 = 18446744073709551616 := by decide
      omega
    obtain ⟨two, htwo⟩ : ∃ two : Int, two = (one * (a + 65543) + 86239 * a * a) ^ 3 % 2147483489 := ⟨_, rfl⟩
    have t64 : (2 : Int) ^ 64 = 18446744073709551616 := by decide
    have m1 : ∀ M, oMul (.int 2017) (.int a) M = some (.int (2017 * a), M) := fun M => o_mul (by rw [t64]; omega)
    have m2 : ∀ z M, oMul (.int 2) (.int z) M = some (.int (2 * z), M) := fun z M => o_mul (by rw [t64]; omega)
    have m3 : ∀ M, oMul (.int 70657) (.int a) M = some (.int (70657 * a), M) := fun M => o_mul (by rw [t64]; omega)
    have m4 : ∀ z M, oMul (.int one) (.int z) M = some (.int (one * z), M) := fun z M => o_mul (by rw [t64]; omega)
    have m5 : ∀ M, oMul (.int 86239) (.int a) M = some (.int (86239 * a), M) := fun M => o_mul (by rw [t64]; omega)
    have m6 : ∀ z M, oMul (.int z) (.int a) M = some (.int (z * a), M) := fun z M => o_mul2 (by rw [t64]; omega)
    have w1 : ∀ M, oPow (.int 10) (.int 18) M = some (.int (10 ^ 18), M) := fun M => o_pow (by decide) (by decide) (by decide)
    have w2 : ∀ M, oPow (.int (cell % 2147483563 + 70657 * a + 47)) (.int 5) M = some (.int ((cell % 2147483563 + 70657 * a + 47) ^ 5), M) := fun M => o_pow (by decide) (by decide) hb1
    have w3 : ∀ M, oPow (.int (one * (a + 65543) + 86239 * a * a)) (.int 3) M = some (.int ((one * (a + 65543) + 86239 * a * a) ^ 3), M) := fun M => o_pow (by decide) (by decide) hb2
    have d1 : ∀ z M, oMod (.int z) (.int 2147483563) M = some (.int (z % 2147483563), M) := fun z M => o_mod (by decide)
    have d2 : ∀ z M, oMod (.int z) (.int 2147483647) M = some (.int (z % 2147483647), M) := fun z M => o_mod (by decide)
    have d3 : ∀ z M, oMod (.int z) (.int 2147483489) M = some (.int (z % 2147483489), M) := fun z M => o_mod (by decide)
    have d4 : ∀ z M, oFdiv (.int z) (.int 32) M = some (.int (z / 32), M) := fun z M => o_fdiv (by decide) (by decide)
    have d5 : ∀ z M, oMod (.int z) (.int k) M = some (.int (z % k), M) := fun z M => o_mod h0
    have d6 : ∀ z M, oFdiv (.int z) (.int k) M = some (.int (z / k), M) := fun z M => o_fdiv h0 hk
    have fin : ∀ M3, M2 <+: M3 → Ext p M M3 ∧ Pen p (n + 1) M3 := fun M3 h3 => ⟨x1.trans (Ext.of (p2.trans h3)), c, cells, a + 1, l, pre_get h3 hM2, pre_get h3 hc2, hl, hne, by omega, by omega⟩
    rcases hcell with ⟨hcs, hcell⟩ | ⟨hcs, hcell⟩
    · subst hcs
      simp at ne2 len2
      have hlt : ¬ (a < 0) := by omega
      obtain ⟨f1, f2⟩ := fin M2 (List.prefix_refl _)
      refine ⟨two / 32 % k, M2, ?_, Int.emod_nonneg _ (by omega), Int.emod_lt_of_pos _ h0, f1, f2⟩
      subst hcell
      simp [pen_left hp, pen_at hp, hleft, bindT, put_at hp, ← eM1, m1, pen_cells hM1, hz, ← eM2, ne2, pen_cells hM2, len2, hlt, d1, m3, w2, d2, ← hone, m4, m5, m6, w3, d3, ← htwo, d4, d5]
    · have he : cells.isEmpty = false := by cases cells with
        | nil => exact absurd rfl hcs
        | cons => rfl
      rw [he] at ne2
      have hpos : (0 : Int) < (cells.length : Int) := by
        cases cells with
        | nil => exact absurd rfl hcs
        | cons => simp
      have q1 := Int.emod_nonneg a (show (cells.length : Int) ≠ 0 by omega)
      have ix : ∀ M, M[c]? = some (.lst (cells.map D.int)) → oIdx gt0 (.loc c) (.int (a % (cells.length : Int))) M = some (.int cell, M) := by
        intro M hM
        have e : (a % (cells.length : Int)) = (((a % (cells.length : Int)).toNat : Nat) : Int) := by omega
        rw [e]
        refine o_ix_loc hM ?_
        rw [List.getElem?_map, hcell]
        rfl
      have ix2 := ix M2 hc2
      have d7 : ∀ z M, oMod (.int z) (.int (cells.length : Int)) M = some (.int (z % (cells.length : Int)), M) := fun z M => o_mod hpos
      have len3 : oLen [.loc c] M2 = some (.int (cells.length : Int), M2) := by rw [len2, List.length_map]
      obtain ⟨ab, hab⟩ : ∃ ab : Int, ab = if cell < 0 then -cell else cell := ⟨_, rfl⟩
      have ab0 : oAbs [.int cell] M2 = some (.int ab, M2) := by rw [hab]; rfl
      by_cases hbig : a < (cells.length : Int) ∧ (10 : Int) ^ 18 ≤ ab
      · obtain ⟨b1, b2⟩ := hbig
        obtain ⟨wh, hwh⟩ : ∃ wh : Int, wh = 2 * ab + (if cell < 0 then 1 else 0) := ⟨_, rfl⟩
        refine ⟨wh % k, M2.set p (penO c (a + 1) (wh / k)), ?_, Int.emod_nonneg _ (by omega), Int.emod_lt_of_pos _ h0, (x1.trans (Ext.of p2)).trans Ext.set, c, cells, a + 1, wh / k, set_here hM2, ?_, hl, hne, by omega, by omega⟩
        · simp [pen_left hp, pen_at hp, hleft, bindT, put_at hp, ← eM1, m1, pen_cells hM1, hz, ← eM2, ne2, pen_cells hM2, len3, d7, ix2, b1, ab0, w1, b2, m2, o_int_bl]
          simp at b2
          simp [b2, ← hwh, d6, d5, put_left hM2]
        · rw [List.getElem?_set_ne (Ne.symm hne)]; exact hc2
      · obtain ⟨f1, f2⟩ := fin M2 (List.prefix_refl _)
        refine ⟨two / 32 % k, M2, ?_, Int.emod_nonneg _ (by omega), Int.emod_lt_of_pos _ h0, f1, f2⟩
        by_cases b1 : a < (cells.length : Int)
        · have b2 : ¬ (10 : Int) ^ 18 ≤ ab := fun z => hbig ⟨b1, z⟩
          simp at b2
          have b3 : ¬ (1000000000000000000 : Int) ≤ ab := by omega
          simp [pen_left hp, pen_at hp, hleft, bindT, put_at hp, ← eM1, m1, pen_cells hM1, hz, ← eM2, ne2, pen_cells hM2, len3, d7, ix2, b1, ab0, w1, b2, b3, d1, m3, w2, d2, ← hone, m4, m5, m6, w3, d3, ← htwo, d4, d5]
        · simp [pen_left hp, pen_at hp, hleft, bindT, put_at hp, ← eM1, m1, pen_cells hM1, hz, ← eM2, ne2, pen_cells hM2, len3, d7, ix2, b1, d1, m3, w2, d2, ← hone, m4, m5, m6, w3, d3, ← htwo, d4, d5]
end K79
namespace VI
open PySem PySem.Spec L2
def numS (n : Nat) : Str := ⟨((Nat.toDigits 10 n).map Char.toNat).toArray⟩
theorem num_facts : ∀ n : Nat, (∀ c ∈ (Nat.toDigits 10 n).map Char.toNat, isDig c = true) ∧ (n ≠ 0 → ((Nat.toDigits 10 n).map Char.toNat).head? ≠ some 48) ∧ (Nat.toDigits 10 n) ≠ [] := by
  intro n
  induction n using Nat.strongRecOn with
  | ind n ih =>
    have small : ∀ m, m < 10 → isDig (Nat.digitChar m).toNat = true ∧ (m ≠ 0 → (Nat.digitChar m).toNat ≠ 48) := by decide
    by_cases h : n < 10
    · rw [Nat.toDigits_of_lt_base h]
      obtain ⟨h1, h2⟩ := small n h
      exact ⟨by simpa using h1, fun hn => by simpa using h2 hn, by simp⟩
    · rw [Nat.toDigits_of_base_le (by decide) (by omega)]
      obtain ⟨i1, i2, i3⟩ := ih (n / 10) (by omega)
      refine ⟨fun c hc => ?_, fun _ => ?_, by simp⟩
      · rw [List.map_append, List.mem_append] at hc
        rcases hc with hc | hc
        · exact i1 c hc
        · simp at hc
          subst hc
          exact (small (n % 10) (by omega)).1
      · have := i2 (by omega)
        cases hd : Nat.toDigits 10 (n / 10) with
        | nil => exact absurd hd i3
        | cons x xs => rw [hd] at this; simpa using this
theorem num_text (n : Nat) : (Str.ofString (toString ((n : Nat) : Int))) = numS n := PyProof.Rows.text_ofNat n
theorem numS_l (n : Nat) : (numS n).cps.toList = (Nat.toDigits 10 n).map Char.toNat := by simp [numS]
theorem num_len {n k : Nat} (hk : 1 ≤ k) (h : n < 10 ^ k) : (numS n).length ≤ k := by
  rw [len_l, numS_l, List.length_map]
  exact PyProof.Rows.digits10_le hk h
theorem num_len1 (n : Nat) : 1 ≤ (numS n).length := by
  rw [len_l, numS_l, List.length_map]
  have := (num_facts n).2.2
  cases h : Nat.toDigits 10 n with
  | nil => exact absurd h this
  | cons => simp
theorem dig_ok {x : Str} (h : ∀ c ∈ x.cps.toList, isDig c = true) (hl : x.length ≤ 100000) : ok x := ⟨hl, fun c hc => by
  have := h c hc
  unfold isDig at this
  have h2 := of_decide_eq_true this
  have e : (("0123456789" : Str)).cps.toList = [48, 49, 50, 51, 52, 53, 54, 55, 56, 57] := rfl
  rw [e] at h2
  simp at h2
  omega⟩
theorem num_figs {n : Nat} {k : Nat} (hk : 1 ≤ k) (h : n < 10 ^ k) : figs (numS n) (k : Int) = true := by
  have h1 := num_len1 n
  have h2 := num_len hk h
  have h3 := (num_facts n).1
  unfold figs
  rw [numS_l]
  simp only [Bool.and_eq_true, decide_eq_true_eq, List.all_eq_true, Bool.or_eq_true, Bool.not_eq_true', decide_eq_false_iff_not]
  refine ⟨⟨⟨h1, by omega⟩, h3⟩, ?_⟩
  by_cases hn : n = 0
  · subst hn; right; rfl
  · left; exact (num_facts n).2.1 hn
end VI
namespace K79
open PySem PySem.Spec L2 VI
/-- a name made new -/
theorem new_term {n z : Nat} (hn : 1 ≤ n) (h : (numS n).length + z ≤ 30) : termS (("~" : Str) ++ numS n ++ ⟨(List.replicate z 48).toArray⟩) = true := by
  have e : (("~" : Str) ++ numS n ++ (⟨(List.replicate z 48).toArray⟩ : Str)).cps.toList = 126 :: ((Nat.toDigits 10 n).map Char.toNat ++ List.replicate z 48) := by
    rw [app_l, app_l, numS_l]
    have : (("~" : Str)).cps.toList = [126] := rfl
    rw [this]
    simp
  generalize hx : (("~" : Str) ++ numS n ++ (⟨(List.replicate z 48).toArray⟩ : Str)) = x at e
  have h1 : hd1 x = ("~" : Str) := str_ext (by rw [hd1_l, e]; rfl)
  have h2 : (tl1 x).cps.toList = (Nat.toDigits 10 n).map Char.toNat ++ List.replicate z 48 := by rw [tl1_l, e]; rfl
  have nf := num_facts n
  have nl := num_len1 n
  have ll : (tl1 x).length = (numS n).length + z := by rw [len_l, h2, len_l, numS_l]; simp
  have h3 : figs (tl1 x) 30 = true := by
    unfold figs
    simp only [Bool.and_eq_true, decide_eq_true_eq, List.all_eq_true, Bool.or_eq_true, Bool.not_eq_true', decide_eq_false_iff_not]
    refine ⟨⟨⟨by omega, by omega⟩, fun c hc => ?_⟩, .inl ?_⟩
    · rw [h2] at hc
      rcases List.mem_append.mp hc with hc | hc
      · exact nf.1 c hc
      · rw [(List.mem_replicate.mp hc).2]; decide
    · rw [h2]
      have := nf.2.1 (by omega)
      cases hd : (Nat.toDigits 10 n).map Char.toNat with
      | nil => exact absurd (List.map_eq_nil_iff.mp hd) nf.2.2
      | cons y ys => rw [hd] at this; simpa using this
  have h4 : x ≠ ("~0" : Str) := by
    intro hh
    rw [hh] at e
    have e0 : (("~0" : Str)).cps.toList = [126, 48] := rfl
    rw [e0] at e
    simp at e
    have := nf.2.1 (by omega)
    cases hd : (Nat.toDigits 10 n).map Char.toNat with
    | nil => exact absurd (List.map_eq_nil_iff.mp hd) nf.2.2
    | cons y ys =>
      rw [hd] at e this
      simp at e this
      exact this e.1.symm
  unfold termS newS
  simp [h1, h3, h4]
theorem term_ok {x : Str} (h : termS x = true) : ok x ∧ 32 ∉ x.cps.toList := by
  have hl := (term_len h).1
  have fig : ∀ y m, figs y m = true → ∀ c ∈ y.cps.toList, c < 128 ∧ c ≠ 32 := by
    intro y m hy c hc
    unfold figs at hy
    simp only [Bool.and_eq_true, List.all_eq_true] at hy
    have := hy.1.2 c hc
    unfold isDig at this
    have h2 := of_decide_eq_true this
    have e : (("0123456789" : Str)).cps.toList = [48, 49, 50, 51, 52, 53, 54, 55, 56, 57] := rfl
    rw [e] at h2
    simp at h2
    omega
  have all : ∀ c ∈ x.cps.toList, c < 128 ∧ c ≠ 32 := by
    unfold termS at h
    simp only [Bool.or_eq_true] at h
    rcases h with h | h | h
    · exact fig x 6 h
    · intro c hc
      unfold plainS at h
      simp only [Bool.and_eq_true, List.all_eq_true] at h
      have := h.2 c hc
      unfold isLet at this
      have h2 := of_decide_eq_true this
      have e : (("abcdefghijklmnopqrstuvwxyz" : Str)).cps.toList = [97, 98, 99, 100, 101, 102, 103, 104, 105, 106, 107, 108, 109, 110, 111, 112, 113, 114, 115, 116, 117, 118, 119, 120, 121, 122] := rfl
      rw [e] at h2
      simp at h2
      omega
    · unfold newS at h
      simp only [Bool.and_eq_true, decide_eq_true_eq] at h
      intro c hc
      rw [hd_tl h.1] at hc
      rcases List.mem_cons.mp hc with rfl | hc
      · exact ⟨by decide, by decide⟩
      · exact fig _ _ h.2.1 c hc
  exact ⟨⟨by omega, fun c hc => (all c hc).1⟩, fun hc => (all 32 hc).2 rfl⟩
theorem plain_term {x : Str} (h : plainS x = true) : termS x = true := by unfold termS; simp [h]
end K79
namespace VI
open PySem PySem.Spec L2
/-- a comprehension whose turns change the store -/
theorem lc_state {src : Src} {t : Tgt} {elt : EvE} {rho : EnvD} (R : D → Prop) (Inv : Nat → Mem → Prop) (N : Nat) (st : ∀ M, src.stands M = true) : ∀ (xs acc : List D) (i : Nat) (M : Mem), Inv i M → i + xs.length ≤ N → acc.length + xs.length ≤ lim →
    (∀ x ∈ xs, ∃ rho1, bindT t x rho = some rho1 ∧ ∀ i M, i < N → Inv i M → ∃ d M', elt rho1 M = .ok d M' ∧ R d ∧ Inv (i + 1) M') →
    ∃ ds M', lcLoop src t eYes elt xs acc rho M = .ok (acc ++ ds) M' ∧ ds.length = xs.length ∧ (∀ d ∈ ds, R d) ∧ Inv (i + xs.length) M'
  | [], acc, i, M, hI, _, _, _ => ⟨[], M, by simp [lcLoop, st], rfl, fun d h => absurd h (by simp), hI⟩
  | x :: xs, acc, i, M, hI, hN, hl, hb => by
    obtain ⟨rho1, e1, h1⟩ := hb x List.mem_cons_self
    simp only [List.length_cons] at hN hl
    obtain ⟨d, M1, e2, hR, hI1⟩ := h1 i M (by omega) hI
    obtain ⟨ds, M2, e3, e4, e5, e6⟩ := lc_state R Inv N st xs (acc ++ [d]) (i + 1) M1 hI1 (by omega) (by simp; omega) fun y hy => hb y (List.mem_cons_of_mem _ hy)
    refine ⟨d :: ds, M2, ?_, by simp [e4], fun y hy => ?_, ?_⟩
    · have hlt : acc.length < lim := by omega
      simp only [lcLoop, st, if_true, e1, eYes, e2, hlt]
      rw [e3]
      simp
    · rcases List.mem_cons.mp hy with rfl | hy
      · exact hR
      · exact e5 y hy
    · rw [List.length_cons, show i + (xs.length + 1) = i + 1 + xs.length by omega]; exact e6
theorem mul24 : Txt.mul ("0" : Str) 24 = ⟨(List.replicate 24 48).toArray⟩ := rfl
theorem mul0 : Txt.mul ("0" : Str) 0 = ⟨(List.replicate 0 48).toArray⟩ := rfl
theorem o_str {n : Nat} {M : Mem} (h : n < 2 ^ 30) : oStr [.int (n : Int)] M = some (.str (numS n), M) := by
  have : ((n : Int).natAbs).log2 < 1920 := by
    by_cases h0 : n = 0
    · subst h0; decide
    · have := (Nat.log2_lt h0).mpr h
      simp only [Int.natAbs_natCast]
      omega
  simp only [oStr, if_pos this]
  rw [num_text]
theorem at_int {α : Type} {as : List α} {r : Int} (h0 : 0 ≤ r) (h : r < (as.length : Int)) : ∃ a, atI as r = some a ∧ a ∈ as := by
  have hk : r.toNat < as.length := by omega
  have e : ((r.toNat : Nat) : Int) = r := by omega
  have q := at_nat (List.getElem?_eq_getElem hk)
  rw [e] at q
  exact ⟨_, q, List.getElem_mem hk⟩
end VI
namespace K79
open PySem PySem.Spec L2 VI
structure Sta (p wl : Nat) (W : List Str) (n : Nat) (M : Mem) : Prop where
  pen : Pen p n M
  at_ : M[wl]? = some (.lst (W.map D.str))
  ne : wl ≠ p
  len : W.length = 4
  pl : ∀ w ∈ W, plainS w = true
theorem Sta.pre {p wl n : Nat} {W : List Str} {M M' : Mem} (S : Sta p wl W n M) (h : M <+: M') : Sta p wl W n M' := ⟨S.pen.pre h, pre_get h S.at_, S.ne, S.len, S.pl⟩
theorem Sta.le {p wl n m : Nat} {W : List Str} {M : Mem} (S : Sta p wl W n M) (h : n ≤ m) : Sta p wl W m M := ⟨S.pen.le h, S.at_, S.ne, S.len, S.pl⟩
section
variable {p wl n : Nat} {W : List Str} {M : Mem}
theorem draw_sta {k : Int} (S : Sta p wl W n M) (hn : n ≤ 1000000) (h0 : 0 < k) (hk : k < 1073741824) : ∃ r M', g__law_draw [.loc p, .int k] M = .ok (.int r) M' ∧ 0 ≤ r ∧ r < k ∧ Ext p M M' ∧ Sta p wl W (n + 1) M' := by
  obtain ⟨r, M', e, h1, h2, x, P⟩ := draw_spec S.pen hn h0 hk
  exact ⟨r, M', e, h1, h2, x, P, x.get S.at_ S.ne, S.ne, S.len, S.pl⟩
theorem pick {r : Int} (S : Sta p wl W n M) (h0 : 0 ≤ r) (h : r < 4) : ∃ w, oIdx gt0 (.loc wl) (.int r) M = some (.str w, M) ∧ plainS w = true := by
  obtain ⟨d, h1, h2⟩ := at_int (as := W.map D.str) h0 (by rw [List.length_map, S.len]; exact h)
  obtain ⟨w, hw, rfl⟩ := List.mem_map.mp h2
  exact ⟨w, by simp [oIdx, S.at_, h1], S.pl w hw⟩
theorem term_spec (S : Sta p wl W n M) (hn : n ≤ 900000) : ∃ x M', g__law_term [.loc p, .loc wl] M = .ok (.str x) M' ∧ termS x = true ∧ Ext p M M' ∧ Sta p wl W (n + 3) M' := by
  have w1 : oPow (.int 10) (.int 6) M = some (.int 1000000, M) := o_pow (by decide) (by decide) (by decide)
  obtain ⟨num, M1, e1, n1, n2, x1, S1⟩ := draw_sta S (by omega) (show (0 : Int) < 1000000 by decide) (by decide)
  obtain ⟨way, M2, e2, v1, v2, x2, S2⟩ := draw_sta S1 (by omega) (show (0 : Int) < 6 by decide) (by decide)
  have l2 : oLen [.loc wl] M2 = some (.int 4, M2) := by rw [o_len_loc S2.at_, List.length_map, S.len]; rfl
  obtain ⟨r, M3, e3, r1, r2, x3, S3⟩ := draw_sta S2 (by omega) (show (0 : Int) < 4 by decide) (by decide)
  unfold g__law_term runBody b__law_term
  by_cases hw : way < 3
  · obtain ⟨w, ew, pw⟩ := pick S3 r1 r2
    refine ⟨w, M3, ?_, plain_term pw, (x1.trans x2).trans x3, S3⟩
    simp [w1, e1, e2, bindT, hw, l2, e3, ew]
  · obtain ⟨N, hN⟩ : ∃ N : Nat, num = (N : Int) := ⟨num.toNat, by omega⟩
    have hN6 : N < 10 ^ 6 := by omega
    have h30 : N + 1 < 2 ^ 30 := by have : (2 : Nat) ^ 30 = 1073741824 := by decide
                                    omega
    have s1 : oStr [.int (1 + num)] M2 = some (.str (numS (N + 1)), M2) := by
      rw [hN, show (1 + (N : Int)) = ((N + 1 : Nat) : Int) by omega]
      exact o_str h30
    have s2 : oStr [.int num] M2 = some (.str (numS N), M2) := by rw [hN]; exact o_str (by omega)
    have d4 : oMod (.int num) (.int 4) M2 = some (.int (num % 4), M2) := o_mod (by decide)
    obtain ⟨z, hz, hzz⟩ : ∃ z : Nat, oMul (.str ("0" : Str)) (.int (24 * (if num % 4 = 0 then 1 else 0))) M2 = some (.str ⟨(List.replicate z 48).toArray⟩, M2) ∧ (numS (N + 1)).length + z ≤ 30 := by
      have l0 : ("0" : Str).length ≤ 1000 := by decide
      by_cases h4 : num % 4 = 0
      · refine ⟨24, ?_, ?_⟩
        · rw [if_pos h4]
          simp only [oMul]
          rw [if_pos ⟨l0, by decide, by decide⟩]
          rfl
        · have : (numS (N + 1)).length ≤ 6 := num_len (by decide) (by omega)
          omega
      · refine ⟨0, ?_, ?_⟩
        · rw [if_neg h4]
          simp only [oMul]
          rw [if_pos ⟨l0, by decide, by decide⟩]
          rfl
        · have : (numS (N + 1)).length ≤ 7 := num_len (by decide) (by omega)
          omega
    have m24 : oMul (.int 24) (.int (if num % 4 = 0 then 1 else 0)) M2 = some (.int (24 * (if num % 4 = 0 then 1 else 0)), M2) := o_mul (by have : (2 : Int) ^ 64 = 18446744073709551616 := by decide
                                                                                                                                            omega)
    have nt := new_term (n := N + 1) (z := z) (by omega) hzz
    have lz : (⟨(List.replicate z 48).toArray⟩ : Str).length = z := by simp [Str.length]
    generalize (⟨(List.replicate z 48).toArray⟩ : Str) = zs at hz nt lz
    have lt : ("~" : Str).length = 1 := rfl
    have a1 : oAdd (.str ("~" : Str)) (.str (numS (N + 1))) M2 = some (.str (("~" : Str) ++ numS (N + 1)), M2) := o_add_str (by rw [lt]; unfold lim; omega)
    have a2 : oAdd (.str (("~" : Str) ++ numS (N + 1))) (.str zs) M2 = some (.str (("~" : Str) ++ numS (N + 1) ++ zs), M2) := o_add_str (by rw [app_len, lt, lz]; unfold lim; omega)
    have t2 : termS (numS N) = true := by
      have := num_figs (n := N) (k := 6) (by decide) hN6
      unfold termS
      simp only [Bool.or_eq_true]
      exact .inl this
    have t3 : termS ("999999" : Str) = true := by decide
    have h3 : (3 : Nat) ≤ lim := by unfold lim; omega
    obtain ⟨M4, hM4⟩ : ∃ M4, M4 = M2 ++ [Ob.lst [.str (("~" : Str) ++ numS (N + 1) ++ zs), .str (numS N), .str ("999999" : Str)]] := ⟨_, rfl⟩
    have p4 : M2 <+: M4 := by rw [hM4]; exact pre_add M2 _
    have g4 : M4[M2.length]? = some (.lst [.str (("~" : Str) ++ numS (N + 1) ++ zs), .str (numS N), .str ("999999" : Str)]) := by rw [hM4]; exact seq_last
    obtain ⟨d, hd, hm⟩ := at_int (as := [D.str (("~" : Str) ++ numS (N + 1) ++ zs), .str (numS N), .str ("999999" : Str)]) (r := way - 3) (by omega) (by simp; omega)
    have ix : oIdx gt0 (.loc M2.length) (.int (way - 3)) M4 = some (d, M4) := by simp [oIdx, g4, hd]
    obtain ⟨x, hx, tx⟩ : ∃ x, d = .str x ∧ termS x = true := by
      simp only [List.mem_cons, List.not_mem_nil, or_false] at hm
      rcases hm with h | h | h
      · exact ⟨_, h, nt⟩
      · exact ⟨_, h, t2⟩
      · exact ⟨_, h, t3⟩
    refine ⟨x, M4, ?_, tx, (x1.trans x2).trans (Ext.of p4), (S2.pre p4).le (by omega)⟩
    subst hx
    simp [w1, e1, e2, bindT, hw, s1, s2, d4, o_int_bl, m24, hz, a1, a2, h3, ← hM4, ix]
end
end K79
namespace VI
open PySem PySem.Spec L2
@[simp] theorem v_rng {l : EvA} {rho : EnvD} {M : Mem} : eRng l rho M = (l rho M).bind fun xs M1 => match xs with
  | [.int n] => if inR n then .ok (.rng 0 n.toNat) M1 else .bad
  | _ => .bad := rfl
theorem inR_small {n : Int} (h0 : 0 ≤ n) (h : n ≤ 1000000) : inR n = true := by
  unfold inR
  have : (2 : Int) ^ 62 = 4611686018427387904 := by decide
  simp
  omega
theorem strs_of {ds : List D} {R : Str → Prop} (h : ∀ d ∈ ds, ∃ x, d = .str x ∧ R x) : ∃ xs : List Str, ds = xs.map D.str ∧ ∀ x ∈ xs, R x := by
  induction ds with
  | nil => exact ⟨[], rfl, fun x hx => absurd hx (by simp)⟩
  | cons d ds ih =>
    obtain ⟨xs, e, r⟩ := ih fun y hy => h y (List.mem_cons_of_mem _ hy)
    obtain ⟨x, rfl, rx⟩ := h d List.mem_cons_self
    refine ⟨x :: xs, by rw [e]; rfl, fun y hy => ?_⟩
    rcases List.mem_cons.mp hy with rfl | hy
    · exact rx
    · exact r y hy
end VI
namespace K79
open PySem PySem.Spec L2 VI
section
variable {p wl n : Nat} {W : List Str} {M : Mem}
theorem term_nosign {x : Str} (h : termS x = true) : signOf x = none := by
  unfold signOf
  by_cases h1 : x = ("=" : Str)
  · subst h1
    have : termS ("=" : Str) = false := by decide
    rw [this] at h; cases h
  · by_cases h2 : x = ("#" : Str)
    · subst h2
      have : termS ("#" : Str) = false := by decide
      rw [this] at h; cases h
    · simp [h1, h2]
/-- an item that is made: the words that write it -/
theorem made_spec (S : Sta p wl W n M) (hn : n ≤ 800000) : ∃ ws d M', g__law_made_item [.loc p, .loc wl] M = .ok d M' ∧ itemOf ws = some d ∧ ws ≠ [] ∧ (∀ w ∈ ws, ok w ∧ 32 ∉ w.cps.toList) ∧ (Str.join sp ws).length ≤ 200 ∧ Ext p M M' ∧ Sta p wl W (n + 20) M' := by
  obtain ⟨r, M1, e1, r1, r2, x1, S1⟩ := draw_sta S (by omega) (show (0 : Int) < 3 by decide) (by decide)
  have h2l : (2 : Nat) ≤ lim := by unfold lim; omega
  have h3l : (3 : Nat) ≤ lim := by unfold lim; omega
  unfold g__law_made_item runBody b__law_made_item
  by_cases h0 : r = 0
  · obtain ⟨Ma, hMa⟩ : ∃ Ma, Ma = M1 ++ [Ob.lst [.str ("same" : Str), .str ("unlike" : Str)]] := ⟨_, rfl⟩
    have pa : M1 <+: Ma := by rw [hMa]; exact pre_add M1 _
    obtain ⟨q, M2, e2, q1, q2, x2, S2⟩ := draw_sta (S1.pre pa) (by omega) (show (0 : Int) < 2 by decide) (by decide)
    have ga : Ma[M1.length]? = some (.lst [.str ("same" : Str), .str ("unlike" : Str)]) := by rw [hMa]; exact seq_last
    have np : M1.length ≠ p := by
      obtain ⟨_, _, _, _, hp, _⟩ := S1.pen.ex
      have := (List.getElem?_eq_some_iff.mp hp).1
      omega
    have gb := x2.get ga np
    obtain ⟨s, v, hs, ev⟩ : ∃ s v, signOf s = some v ∧ oIdx gt0 (.loc M1.length) (.int q) M2 = some (.str v, M2) := by
      by_cases hq : q = 0
      · subst hq; exact ⟨"=", "same", rfl, o_ix_l0 gb rfl⟩
      · have : q = 1 := by omega
        subst this; exact ⟨"#", "unlike", rfl, o_ix_l1 gb rfl⟩
    obtain ⟨a, M3, e3, ta, x3, S3⟩ := term_spec S2 (by omega)
    obtain ⟨b, M4, e4, tb, x4, S4⟩ := term_spec S3 (by omega)
    refine ⟨[a, s, b], .tup [.str v, .str a, .str b], M4, ?_, ?_, by simp, ?_, ?_, ((((x1.trans (Ext.of pa)).trans x2).trans x3).trans x4), S4.le (by omega)⟩
    · simp [e1, h0, h2l, h3l, ← hMa, e2, ev, e3, e4]
    · simp [itemOf, hs, ta, tb]
    · intro w hw
      simp only [List.mem_cons, List.not_mem_nil, or_false] at hw
      rcases hw with rfl | rfl | rfl
      · exact term_ok ta
      · have sl := sign_len hs
        unfold signOf at hs
        split at hs
        · rename_i h; subst h; exact ⟨⟨by decide, by decide⟩, by decide⟩
        · split at hs
          · rename_i h; subst h; exact ⟨⟨by decide, by decide⟩, by decide⟩
          · cases hs
      · exact term_ok tb
    · have e : Str.join sp [a, s, b] = a ++ sp ++ (s ++ sp ++ b) := rfl
      rw [e, app_len, app_len, app_len, app_len]
      have := (term_len ta).1
      have := (term_len tb).1
      have := (sign_len hs).1
      have : sp.length = 1 := rfl
      omega
  · have l1 : oLen [.loc wl] M1 = some (.int 4, M1) := by rw [o_len_loc S1.at_, List.length_map, S.len]; rfl
    obtain ⟨q, M2, e2, q1, q2, x2, S2⟩ := draw_sta S1 (by omega) (show (0 : Int) < 4 by decide) (by decide)
    obtain ⟨w, ew, pw⟩ := pick S2 q1 q2
    obtain ⟨k, M3, e3, k1, k2, x3, S3⟩ := draw_sta S2 (by omega) (show (0 : Int) < 4 by decide) (by decide)
    have hk : inR k = true := inR_small k1 (by omega)
    obtain ⟨ds, M4, e4, f1, f2, f3⟩ := lc_state (src := .rng 0 k.toNat) (t := .nm 2) (elt := eCall g__law_term (eVals [eVar 0, eVar 1])) (rho := [some (.loc p), some (.loc wl), none]) (fun d => ∃ x, d = .str x ∧ termS x = true) (fun i M => Ext p M3 M ∧ Sta p wl W (n + 3 + 3 * i) M) 3 (fun _ => rfl)
      (Src.rng 0 k.toNat).items [] 0 M3 ⟨Ext.refl _, S3.le (by omega)⟩ (by simp [Src.items]; omega) (by simp [Src.items]; first | omega | (unfold lim; omega)) (fun x _ => ⟨_, rfl, fun i M hi ⟨xa, Sa⟩ => by
        obtain ⟨y, M', ey, ty, xy, Sy⟩ := term_spec Sa (by omega)
        exact ⟨.str y, M', by simp [ey], ⟨y, rfl, ty⟩, xa.trans xy, Sy.le (by omega)⟩⟩)
    obtain ⟨as, rfl, has⟩ := strs_of f2
    have hlen : as.length ≤ 3 := by
      have : as.length = k.toNat := by simpa [Src.items] using f1
      omega
    obtain ⟨xf, Sf⟩ := f3
    have elc : eLc (eRng (eVals [eCall g__law_draw (eVals [eVar 0, eCon (.int 4)])])) (.nm 2) [2] eYes (eCall g__law_term (eVals [eVar 0, eVar 1])) [some (.loc p), some (.loc wl), none] M2 = .ok (.loc M4.length) (M4 ++ [Ob.lst (as.map D.str)]) := by
      unfold eLc
      have es : eRng (eVals [eCall g__law_draw (eVals [eVar 0, eCon (.int 4)])]) [some (.loc p), some (.loc wl), none] M2 = .ok (.rng 0 k.toNat) M3 := by simp [e3, hk]
      rw [es]
      simp only [v_bindok, wipeD]
      have : (List.set [some (D.loc p), some (D.loc wl), none] 2 none) = [some (.loc p), some (.loc wl), none] := rfl
      rw [this, e4]
      simp
    have tt : oTuple [.loc M4.length] (M4 ++ [Ob.lst (as.map D.str)]) = some (.tup (as.map D.str), M4 ++ [Ob.lst (as.map D.str)]) := o_tuple seq_last
    have th : thingT w as = true := by
      unfold thingT
      simp only [pw, Bool.true_and, Bool.and_eq_true, decide_eq_true_eq, List.all_eq_true]
      exact ⟨hlen, has⟩
    refine ⟨w :: as, .tup [.str w, .tup (as.map D.str)], M4 ++ [Ob.lst (as.map D.str)], ?_, ?_, by simp, ?_, ?_, (((x1.trans x2).trans x3).trans xf).trans (Ext.of (pre_add M4 _)), (Sf.pre (pre_add M4 _)).le ?_⟩
    · simp [e1, h0, h2l, l1, e2, ew, elc, tt]
    · have key : thingOf w as = some (.tup [.str w, .tup (as.map D.str)]) := by simp [thingOf, th]
      match as, has, key with
      | [], _, key => exact key
      | [a], _, key => exact key
      | [s, b], has, key =>
        have : signOf s = none := term_nosign (has s (by simp))
        simp only [itemOf, this]
        exact key
      | a :: b :: c :: r, _, key => exact key
    · intro y hy
      rcases List.mem_cons.mp hy with rfl | hy
      · exact term_ok (plain_term pw)
      · exact term_ok (has y hy)
    · have l8 := (plain_len pw).1
      have key : ∀ (ws : List Str) (m : Nat), (∀ x ∈ ws, x.length ≤ 31) → ws.length ≤ m → (Str.join sp ws).length ≤ 32 * m := by
        intro ws
        induction ws with
        | nil => intro m _ _; simp [Str.join, Str.empty, Str.length]
        | cons x ws ih =>
          intro m h1 h2
          cases ws with
          | nil =>
            have := h1 x (by simp)
            simp only [List.length_cons, List.length_nil] at h2
            show x.length ≤ _
            omega
          | cons y r =>
            simp only [List.length_cons] at h2
            have q := ih (m - 1) (fun z hz => h1 z (List.mem_cons_of_mem _ hz)) (by simp only [List.length_cons]; omega)
            show (x ++ sp ++ Str.join sp (y :: r)).length ≤ _
            rw [app_len, app_len]
            have := h1 x (by simp)
            have : sp.length = 1 := rfl
            omega
      have := key (w :: as) 4 (fun x hx => by
        rcases List.mem_cons.mp hx with rfl | hx
        · omega
        · exact (term_len (has x hx)).1) (by simp; omega)
      omega
    · have : (Src.rng 0 k.toNat).items.length ≤ 3 := by simp [Src.items]; omega
      omega
end
end K79
namespace VI
open PySem PySem.Spec L2
@[simp] theorem v_dct {ks : List Key} {fs : List EvE} {rho : EnvD} {M : Mem} : eDct ks fs rho M = (eVals fs rho M).bind fun ds M1 => .ok (.loc M1.length) (M1 ++ [Ob.dct ks ds]) := rfl
theorem cut_first {α : Type} (xs : List α) (h : xs.length ≤ 63) : cutD xs none (some 63) = xs := by
  unfold cutD
  simp only [HT.sIx]
  have hn : ¬ ((63 : Int) < 0) := by decide
  have h1 : min (63 : Int).toNat xs.length = xs.length := by
    have : (63 : Int).toNat = 63 := rfl
    omega
  simp only [hn, if_false, h1]
  simp
theorem o_list_loc {M : Mem} {l : Nat} {xs : List D} (h : M[l]? = some (.lst xs)) : oList [.loc l] M = some (.loc M.length, M ++ [Ob.lst xs]) := by simp [oList, h]
theorem join0 : ∀ ws : List Str, (Str.join ("" : Str) ws).length = (ws.map (·.length)).sum ∧ ∀ c ∈ (Str.join ("" : Str) ws).cps.toList, ∃ w ∈ ws, c ∈ w.cps.toList
  | [] => ⟨rfl, fun c hc => by simp [Str.join, Str.empty] at hc⟩
  | [x] => ⟨by simp [Str.join], fun c hc => ⟨x, by simp, hc⟩⟩
  | x :: y :: r => by
    obtain ⟨h1, h2⟩ := join0 (y :: r)
    have e : Str.join ("" : Str) (x :: y :: r) = x ++ ("" : Str) ++ Str.join ("" : Str) (y :: r) := rfl
    have e0 : ("" : Str).length = 0 := rfl
    have e1 : ("" : Str).cps.toList = [] := rfl
    refine ⟨by rw [e, app_len, app_len, h1, e0]; simp, fun c hc => ?_⟩
    rw [e, app_l, app_l, e1] at hc
    simp only [List.append_nil, List.mem_append] at hc
    rcases hc with hc | hc
    · exact ⟨x, by simp, hc⟩
    · obtain ⟨w, hw, hcw⟩ := h2 c hc
      exact ⟨w, List.mem_cons_of_mem _ hw, hcw⟩
theorem cut_sub (x : Str) (lo hi : Option Int) : (∀ c ∈ (cutS x lo hi).cps.toList, c ∈ x.cps.toList) ∧ (cutS x lo hi).length ≤ x.length := by
  refine ⟨fun c hc => ?_, cutS_length x lo hi⟩
  unfold cutS at hc
  simp only [List.toList_toArray] at hc
  exact List.mem_of_mem_drop (List.mem_of_mem_take hc)
theorem o_slc_str {x : Str} {lo hi : Option Int} {M : Mem} (h : x.length ≤ lim) : oSlc (.str x) lo hi M = some (.str (cutS x lo hi), M) := by simp [oSlc, h]
theorem mul2 (x : Str) : (∀ c ∈ (Txt.mul x 2).cps.toList, c ∈ x.cps.toList) ∧ (Txt.mul x 2).length ≤ 2 * x.length := by
  unfold Txt.mul
  have h1 : ¬ ((2 : Int) < 1) := by decide
  rw [if_neg h1]
  split
  · exact ⟨fun c hc => hc, by omega⟩
  · have e : (2 : Int).toNat = 2 := rfl
    rw [e]
    simp only [List.replicate, List.foldl]
    refine ⟨fun c hc => ?_, ?_⟩
    · simp at hc
      exact Array.mem_toList_iff.mpr hc
    · simp [Str.length]; omega
end VI
namespace K79
open PySem PySem.Spec L2 VI
theorem pen_spec {ns : List Int} (h : ns.length ≤ 63) (M : Mem) : ∃ p M', g__law_pen [.rl (ns.map D.int)] M = .ok (.loc p) M' ∧ M <+: M' ∧ Pen p 0 M' := by
  obtain ⟨M1, hM1⟩ : ∃ M1, M1 = M ++ [Ob.lst (ns.map D.int)] := ⟨_, rfl⟩
  have p1 : M <+: M1 := by rw [hM1]; exact pre_add M _
  have g1 : M1[M.length]? = some (.lst (ns.map D.int)) := by rw [hM1]; exact seq_last
  obtain ⟨M2, hM2⟩ : ∃ M2, M2 = M1 ++ [Ob.lst (ns.map D.int)] := ⟨_, rfl⟩
  have p2 : M1 <+: M2 := by rw [hM2]; exact pre_add M1 _
  have g2 : M2[M1.length]? = some (.lst (ns.map D.int)) := by rw [hM2]; exact seq_last
  have s1 : oSlc (.rl (ns.map D.int)) none (some 63) M = some (.loc M.length, M1) := by
    simp only [oSlc, cut_first (ns.map D.int) (by rw [List.length_map]; exact h), ← hM1]
  have s2 : oList [.loc M.length] M1 = some (.loc M1.length, M2) := by rw [o_list_loc g1, ← hM2]
  refine ⟨M2.length, M2 ++ [penO M1.length 0 0], ?_, (p1.trans p2).trans (pre_add M2 _), M1.length, ns, 0, 0, seq_last, pre_get (pre_add M2 _) g2, h, ?_, by omega, by omega⟩
  · unfold g__law_pen runBody b__law_pen
    simp [s1, s2, penO]
  · have := (List.getElem?_eq_some_iff.mp g2).1
    omega
theorem word_spec {p n : Nat} {M : Mem} (P : Pen p n M) (hn : n ≤ 900000) : ∃ w M', g__law_word [.loc p] M = .ok (.str w) M' ∧ plainS w = true ∧ Ext p M M' ∧ Pen p (n + 10) M' := by
  obtain ⟨r, M1, e1, r1, r2, x1, P1⟩ := draw_spec P (by omega) (show (0 : Int) < 8 by decide) (by decide)
  have h3l : (3 : Nat) ≤ lim := by unfold lim; omega
  obtain ⟨Ma, hMa⟩ : ∃ Ma, Ma = M1 ++ [Ob.lst [.int 1, .int 8, .int (1 + r)]] := ⟨_, rfl⟩
  have pa : M1 <+: Ma := by rw [hMa]; exact pre_add M1 _
  have ga : Ma[M1.length]? = some (.lst [.int 1, .int 8, .int (1 + r)]) := by rw [hMa]; exact seq_last
  obtain ⟨q, M2, e2, q1, q2, x2, P2⟩ := draw_spec (P1.pre pa) (by omega) (show (0 : Int) < 3 by decide) (by decide)
  have np : M1.length ≠ p := by
    obtain ⟨_, _, _, _, hp, _⟩ := P1.ex
    have := (List.getElem?_eq_some_iff.mp hp).1
    omega
  have gb := x2.get ga np
  obtain ⟨m, em, m1, m8⟩ : ∃ m : Int, oIdx gt0 (.loc M1.length) (.int q) M2 = some (.int m, M2) ∧ 1 ≤ m ∧ m ≤ 8 := by
    by_cases h0 : q = 0
    · subst h0; exact ⟨1, o_ix_l0 gb rfl, by omega, by omega⟩
    · by_cases h1 : q = 1
      · subst h1; exact ⟨8, o_ix_l1 gb rfl, by omega, by omega⟩
      · have : q = 2 := by omega
        subst this; exact ⟨1 + r, o_ix_l2 gb rfl, by omega, by omega⟩
  have hm : inR m = true := inR_small (by omega) (by omega)
  have hL : (("abcdefghijklmnopqrstuvwxyz" : Str)).length = 26 := rfl
  obtain ⟨ds, M4, e4, f1, f2, f3⟩ := lc_state (src := .rng 0 m.toNat) (t := .nm 3) (elt := eBin (oIdx gt0) (eVar 1) (eCall g__law_draw (eVals [eVar 0, eCon (.int 26)]))) (rho := [some (.loc p), some (.str ("abcdefghijklmnopqrstuvwxyz" : Str)), some (.int m), none]) (fun d => ∃ x : Str, d = .str x ∧ (x.length = 1 ∧ x.cps.toList.all isLet = true)) (fun i M => Ext p M2 M ∧ Pen p (n + 2 + i) M) 8 (fun _ => rfl)
    (Src.rng 0 m.toNat).items [] 0 M2 ⟨Ext.refl _, P2.le (by omega)⟩ (by simp [Src.items]; omega) (by simp [Src.items]; first | omega | (unfold lim; omega)) (fun x _ => ⟨_, rfl, fun i M hi ⟨xa, Pa⟩ => by
      obtain ⟨y, M', ey, y1, y2, xy, Py⟩ := draw_spec Pa (by omega) (show (0 : Int) < 26 by decide) (by decide)
      obtain ⟨c, hc, hcm⟩ := at_int (as := (("abcdefghijklmnopqrstuvwxyz" : Str)).cps.toList) y1 (by rw [← len_l, hL]; exact y2)
      have hz : (("abcdefghijklmnopqrstuvwxyz" : Str)).length ≤ lim := by rw [hL]; unfold lim; omega
      have ei : oIdx gt0 (.str ("abcdefghijklmnopqrstuvwxyz" : Str)) (.int y) M' = some (.str ⟨#[c]⟩, M') := by simp [oIdx, hz, hc]
      refine ⟨.str ⟨#[c]⟩, M', by simp [ey, ei], ⟨⟨#[c]⟩, rfl, by simp [Str.length], ?_⟩, xa.trans xy, Py.le (by omega)⟩
      simp [isLet]
      simpa using hcm⟩)
  obtain ⟨ws, rfl, hws⟩ := strs_of f2
  obtain ⟨xf, Pf⟩ := f3
  have hlen : ws.length = m.toNat := by simpa [Src.items] using f1
  have elc : eLc (eRng (eVals [eVar 2])) (.nm 3) [3] eYes (eBin (oIdx gt0) (eVar 1) (eCall g__law_draw (eVals [eVar 0, eCon (.int 26)]))) [some (.loc p), some (.str ("abcdefghijklmnopqrstuvwxyz" : Str)), some (.int m), none] M2 = .ok (.loc M4.length) (M4 ++ [Ob.lst (ws.map D.str)]) := by
    unfold eLc
    have es : eRng (eVals [eVar 2]) [some (.loc p), some (.str ("abcdefghijklmnopqrstuvwxyz" : Str)), some (.int m), none] M2 = .ok (.rng 0 m.toNat) M2 := by simp [hm]
    rw [es]
    simp only [v_bindok, wipeD]
    have : (List.set [some (.loc p), some (.str ("abcdefghijklmnopqrstuvwxyz" : Str)), some (.int m), none] 3 none) = [some (D.loc p), some (.str ("abcdefghijklmnopqrstuvwxyz" : Str)), some (.int m), none] := rfl
    rw [this, e4]
    simp
  obtain ⟨j1, j2⟩ := join0 ws
  have sum1 : ∀ ws : List Str, (∀ x ∈ ws, x.length = 1) → (ws.map (·.length)).sum = ws.length := by
    intro ws
    induction ws with
    | nil => intro _; rfl
    | cons x ws ih =>
      intro h
      have := ih fun y hy => h y (List.mem_cons_of_mem _ hy)
      have := h x List.mem_cons_self
      simp only [List.map_cons, List.sum_cons, List.length_cons]
      omega
  have hs1 := sum1 ws fun x hx => (hws x hx).1
  have oj : mJoin (.str ("" : Str)) [.loc M4.length] (M4 ++ [Ob.lst (ws.map D.str)]) = some (.str (Str.join ("" : Str) ws), M4 ++ [Ob.lst (ws.map D.str)]) := o_join seq_last (by rw [hs1]; have : ("" : Str).length = 0 := rfl; rw [this]; omega)
  refine ⟨Str.join ("" : Str) ws, M4 ++ [Ob.lst (ws.map D.str)], ?_, ?_, ((x1.trans (Ext.of pa)).trans x2).trans (xf.trans (Ext.of (pre_add M4 _))), (Pf.pre (pre_add M4 _)).le ?_⟩
  · unfold g__law_word runBody b__law_word
    simp [bindT, e1, h3l, ← hMa, e2, em, elc, oj]
  · unfold plainS
    simp only [Bool.and_eq_true, decide_eq_true_eq, List.all_eq_true]
    refine ⟨⟨by rw [j1, hs1]; omega, by rw [j1, hs1]; omega⟩, fun c hc => ?_⟩
    obtain ⟨w, hw, hcw⟩ := j2 c hc
    exact List.all_eq_true.mp (hws w hw).2 c hcw
  · have : (Src.rng 0 m.toNat).items.length ≤ 8 := by simp [Src.items]; omega
    omega
end K79
namespace VI
open PySem PySem.Spec L2
theorem join_exact (sep : Str) : ∀ ws : List Str, ws ≠ [] → (Str.join sep ws).length + sep.length = (ws.map (·.length)).sum + ws.length * sep.length
  | [], h => absurd rfl h
  | [x], _ => by simp [Str.join]
  | x :: y :: r, _ => by
    have ih := join_exact sep (y :: r) (by simp)
    have e : Str.join sep (x :: y :: r) = x ++ sep ++ Str.join sep (y :: r) := rfl
    rw [e, app_len, app_len]
    simp only [List.map_cons, List.sum_cons, List.length_cons, Nat.succ_mul] at ih ⊢
    omega
theorem join_chars (sep : Str) : ∀ ws : List Str, ∀ c ∈ (Str.join sep ws).cps.toList, c ∈ sep.cps.toList ∨ ∃ w ∈ ws, c ∈ w.cps.toList
  | [], c, hc => by simp [Str.join, Str.empty] at hc
  | [x], c, hc => .inr ⟨x, by simp, hc⟩
  | x :: y :: r, c, hc => by
    have e : Str.join sep (x :: y :: r) = x ++ sep ++ Str.join sep (y :: r) := rfl
    rw [e, app_l, app_l] at hc
    simp only [List.mem_append] at hc
    rcases hc with (hc | hc) | hc
    · exact .inr ⟨x, by simp, hc⟩
    · exact .inl hc
    · rcases join_chars sep (y :: r) c hc with h | ⟨w, hw, h⟩
      · exact .inl h
      · exact .inr ⟨w, List.mem_cons_of_mem _ hw, h⟩
theorem parts_sub (x : Str) (w : Nat) : ∀ (cuts : List Nat) (a : Nat), (∀ p ∈ StrLaws.partsFrom x w a cuts, ∀ c ∈ p.cps.toList, c ∈ x.cps.toList) ∧ (StrLaws.partsFrom x w a cuts).length = cuts.length + 1 := by
  have sub : ∀ i j, ∀ c ∈ (Builtin.Str.strSub x i j).cps.toList, c ∈ x.cps.toList := by
    intro i j c hc
    unfold Builtin.Str.strSub at hc
    simp at hc
    exact List.mem_of_mem_drop (List.mem_of_mem_take hc)
  intro cuts
  induction cuts with
  | nil =>
    intro a
    refine ⟨fun p hp => ?_, rfl⟩
    simp [StrLaws.partsFrom] at hp
    subst hp
    exact sub _ _
  | cons b r ih =>
    intro a
    obtain ⟨h1, h2⟩ := ih (b + w)
    refine ⟨fun p hp => ?_, by simp [StrLaws.partsFrom, h2]⟩
    simp only [StrLaws.partsFrom, List.mem_cons] at hp
    rcases hp with rfl | hp
    · exact sub _ _
    · exact h1 p hp
theorem repl_facts (x y z : Str) : (∀ c ∈ (Txt.replace x y z).cps.toList, c ∈ x.cps.toList ∨ c ∈ z.cps.toList) ∧ (Txt.replace x y z).length ≤ x.length + (x.length + 2) * z.length := by
  unfold Txt.replace
  split
  · exact ⟨fun c hc => .inl hc, by omega⟩
  · have self := StrLaws.glued_between_self x y (x.length + 1)
    rw [StrLaws.glued_eq_join, StrLaws.partsBetween_eq] at self ⊢
    obtain ⟨h1, h2⟩ := parts_sub x y.length (Builtin.Str.occurrences x y 0 x.length (x.length + 1)) 0
    have ho := StrLaws.occ_length_le x y 0 x.length (x.length + 1)
    generalize StrLaws.partsFrom x y.length 0 (Builtin.Str.occurrences x y 0 x.length (x.length + 1)) = ps at self h1 h2 ⊢
    have hne : ps ≠ [] := by intro h; rw [h] at h2; simp at h2
    have e1 := join_exact y ps hne
    have e2 := StrLaws.join_length_le z ps
    rw [self] at e1
    refine ⟨fun c hc => ?_, ?_⟩
    · rcases join_chars z ps c hc with h | ⟨w, hw, h⟩
      · exact .inr h
      · exact .inl (h1 w hw c h)
    · have hl : 1 ≤ ps.length := by rw [h2]; omega
      have e3 : y.length ≤ ps.length * y.length := Nat.le_mul_of_pos_left _ hl
      have e4 : ps.length * z.length ≤ (x.length + 2) * z.length := Nat.mul_le_mul_right _ (by omega)
      omega
end VI
namespace K79
open PySem PySem.Spec L2 VI
def signs : Str := " !\"#$&'()*+,-./0123456789:;<=>?@ABCDEFGHIJKLMNOPQRSTUVWXYZ[\\]^_`abcdefghijklmnopqrstuvwxyz{|}~\n"
section
variable {p wl n : Nat} {W : List Str} {M : Mem}
theorem sign_spec (S : Sta p wl W n M) (hn : n ≤ 800000) {t : Str} (ht : ok t) (hl : t.length ≤ 1000) : ∃ u M', g__law_sign_bent [.loc p, .str t] M = .ok (.str u) M' ∧ ok u ∧ Ext p M M' ∧ Sta p wl W (n + 3) M' := by
  have hL : signs.length = 95 := rfl
  have lz : t.length ≤ lim := by unfold lim; omega
  have lS : signs.length ≤ lim := by rw [hL]; unfold lim; omega
  obtain ⟨r, M1, e1, r1, r2, x1, S1⟩ := draw_sta S (by omega) (show (0 : Int) < (signs.length : Int) by rw [hL]; decide) (by rw [hL]; decide)
  obtain ⟨a, M2, e2, a1, a2, x2, S2⟩ := draw_sta S1 (by omega) (show (0 : Int) < (t.length : Int) + 1 by omega) (by omega)
  obtain ⟨w, M3, e3, w1, w2, x3, S3⟩ := draw_sta S2 (by omega) (show (0 : Int) < 4 by decide) (by decide)
  obtain ⟨c, hc, hcm⟩ := at_int (as := signs.cps.toList) r1 (by rw [← len_l]; exact r2)
  have ec : oIdx gt0 (.str signs) (.int r) M1 = some (.str ⟨#[c]⟩, M1) := by simp [oIdx, lS, hc]
  have hc128 : c < 128 := by
    have : ∀ c ∈ signs.cps.toList, c < 128 := by decide
    exact this c hcm
  have okc : ok (⟨#[c]⟩ : Str) := ⟨by simp [Str.length], fun d hd => by simp at hd; subst hd; exact hc128⟩
  have h4l : (4 : Nat) ≤ lim := by unfold lim; omega
  -- what is put in
  obtain ⟨q1, q2⟩ := cut_sub t (some a) (some (a + 1))
  obtain ⟨m1, m2⟩ := mul2 (cutS t (some a) (some (a + 1)))
  have om : oMul (.str (cutS t (some a) (some (a + 1)))) (.int 2) M3 = some (.str (Txt.mul (cutS t (some a) (some (a + 1))) 2), M3) := by
    simp only [oMul]
    rw [if_pos ⟨by omega, by decide, by decide⟩]
  obtain ⟨M4, hM4⟩ : ∃ M4, M4 = M3 ++ [Ob.lst [.str ⟨#[c]⟩, .str ⟨#[c]⟩, .str ("" : Str), .str (Txt.mul (cutS t (some a) (some (a + 1))) 2)]] := ⟨_, rfl⟩
  have p4 : M3 <+: M4 := by rw [hM4]; exact pre_add M3 _
  have g4 : M4[M3.length]? = some (.lst [.str ⟨#[c]⟩, .str ⟨#[c]⟩, .str ("" : Str), .str (Txt.mul (cutS t (some a) (some (a + 1))) 2)]) := by rw [hM4]; exact seq_last
  obtain ⟨d, hd, hdm⟩ := at_int (as := [D.str ⟨#[c]⟩, .str ⟨#[c]⟩, .str ("" : Str), .str (Txt.mul (cutS t (some a) (some (a + 1))) 2)]) w1 (by simp; omega)
  have ix : oIdx gt0 (.loc M3.length) (.int w) M4 = some (d, M4) := by simp [oIdx, g4, hd]
  obtain ⟨v, hv, okv, lv⟩ : ∃ v, d = .str v ∧ ok v ∧ v.length ≤ 2000 := by
    simp only [List.mem_cons, List.not_mem_nil, or_false] at hdm
    rcases hdm with h | h | h | h
    · exact ⟨_, h, okc, by simp [Str.length]⟩
    · exact ⟨_, h, okc, by simp [Str.length]⟩
    · exact ⟨_, h, ⟨by decide, by decide⟩, by decide⟩
    · exact ⟨_, h, ⟨by omega, fun z hz => ht.2 z (q1 z (m1 z hz))⟩, by omega⟩
  subst hv
  obtain ⟨c1, c2⟩ := cut_sub t none (some a)
  obtain ⟨c3, c4⟩ := cut_sub t (some (a + if (0 : Int) < w then 1 else 0)) none
  have ad1 : oAdd (.str (cutS t none (some a))) (.str v) M4 = some (.str (cutS t none (some a) ++ v), M4) := o_add_str (by unfold lim; omega)
  have ad2 : oAdd (.str (cutS t none (some a) ++ v)) (.str (cutS t (some (a + if (0 : Int) < w then 1 else 0)) none)) M4 = some (.str (cutS t none (some a) ++ v ++ cutS t (some (a + if (0 : Int) < w then 1 else 0)) none), M4) := o_add_str (by rw [app_len]; unfold lim; omega)
  refine ⟨cutS t none (some a) ++ v ++ cutS t (some (a + if (0 : Int) < w then 1 else 0)) none, M4, ?_, ⟨by rw [app_len, app_len]; omega, fun z hz => ?_⟩, ((x1.trans x2).trans x3).trans (Ext.of p4), (S3.pre p4).le (by omega)⟩
  · unfold g__law_sign_bent runBody b__law_sign_bent
    have es : (" !\"#$&'()*+,-./0123456789:;<=>?@ABCDEFGHIJKLMNOPQRSTUVWXYZ[\\]^_`abcdefghijklmnopqrstuvwxyz{|}~\n" : Str) = signs := rfl
    rw [es]
    simp [bindT, lS, lz, e1, ec, e2, e3, o_slc_str lz, om, h4l, ← hM4, ix, ad1, o_int_bl, ad2]
  · rw [app_l, app_l] at hz
    simp only [List.mem_append] at hz
    rcases hz with (h | h) | h
    · exact ht.2 z (c1 z h)
    · exact okv.2 z h
    · exact ht.2 z (c3 z h)
end
end K79
namespace VI
open PySem PySem.Spec L2
theorem at_any {α : Type} {as : List α} {r : Int} (h0 : -(as.length : Int) ≤ r) (h : r < (as.length : Int)) : ∃ a, atI as r = some a ∧ a ∈ as := by
  by_cases hn : 0 ≤ r
  · exact at_int hn h
  · have hk : (r + (as.length : Int)).toNat < as.length := by omega
    refine ⟨as[(r + (as.length : Int)).toNat], ?_, List.getElem_mem hk⟩
    unfold atI ixN
    rw [if_neg hn, if_pos h0]
    simp only [Option.bind_some]
    exact List.getElem?_eq_getElem hk
def sumL (ws : List Str) : Nat := (ws.map (·.length)).sum
theorem sumL_app (a b : List Str) : sumL (a ++ b) = sumL a + sumL b := by simp [sumL]
theorem sumL_take : ∀ (n : Nat) (ws : List Str), sumL (ws.take n) ≤ sumL ws
  | 0, ws => by simp [sumL]
  | n + 1, [] => by simp [sumL]
  | n + 1, w :: ws => by
    have := sumL_take n ws
    simp only [sumL, List.take_succ_cons, List.map_cons, List.sum_cons] at this ⊢
    omega
theorem sumL_drop : ∀ (n : Nat) (ws : List Str), sumL (ws.drop n) ≤ sumL ws
  | 0, ws => by simp
  | n + 1, [] => by simp
  | n + 1, w :: ws => by
    have := sumL_drop n ws
    simp only [sumL, List.drop_succ_cons, List.map_cons, List.sum_cons] at this ⊢
    omega
theorem cut_map (ws : List Str) (lo hi : Option Int) : cutD (ws.map D.str) lo hi = (cutD ws lo hi).map D.str := by
  unfold cutD
  simp [List.map_take, List.map_drop]
theorem cut_facts (ws : List Str) (lo hi : Option Int) : sumL (cutD ws lo hi) ≤ sumL ws ∧ (cutD ws lo hi).length ≤ ws.length ∧ ∀ w ∈ cutD ws lo hi, w ∈ ws := by
  unfold cutD
  refine ⟨Nat.le_trans (sumL_take _ _) (sumL_drop _ _), by simp; omega, fun w hw => List.mem_of_mem_drop (List.mem_of_mem_take hw)⟩
/-- an expression that makes a list of texts -/
def EvL (e : EvE) (rho : EnvD) (M : Mem) (ys : List Str) : Prop := ∃ M' l, e rho M = .ok (.loc l) M' ∧ M <+: M' ∧ M'[l]? = some (.lst (ys.map D.str)) ∧ M.length ≤ l
theorem evl_slc {rho : EnvD} {M : Mem} {i l : Nat} {ws : List Str} {lo hi : Option EvE} {a b : Option Int} (hi' : rho[i]? = some (some (.loc l))) (hl : M[l]? = some (.lst (ws.map D.str))) (ha : ePart lo rho M = .ok a M) (hb : ePart hi rho M = .ok b M) : EvL (eSlc (eVar i) lo hi) rho M (cutD ws a b) := by
  refine ⟨M ++ [Ob.lst ((cutD ws a b).map D.str)], M.length, ?_, pre_add M _, seq_last, Nat.le_refl _⟩
  simp [hi', ha, hb, oSlc, hl, cut_map]
theorem evl_one {rho : EnvD} {M : Mem} {i : Nat} {v : Str} (h : rho[i]? = some (some (.str v))) : EvL (eLst (eVals [eVar i])) rho M [v] := by
  have h1 : (1 : Nat) ≤ lim := by unfold lim; omega
  exact ⟨M ++ [Ob.lst [.str v]], M.length, by simp [h, h1], pre_add M _, seq_last, Nat.le_refl _⟩
theorem evl_add {a b : EvE} {rho : EnvD} {M : Mem} {ys zs : List Str} (ha : EvL a rho M ys) (hb : ∀ M', M <+: M' → EvL b rho M' zs) (hl : ys.length + zs.length ≤ lim) : EvL (eBin oAdd a b) rho M (ys ++ zs) := by
  obtain ⟨M1, l1, e1, p1, g1, k1⟩ := ha
  obtain ⟨M2, l2, e2, p2, g2, k2⟩ := hb M1 p1
  have h1 := pre_get p2 g1
  have := List.IsPrefix.length_le p2
  have := List.IsPrefix.length_le p1
  refine ⟨M2 ++ [Ob.lst ((ys ++ zs).map D.str)], M2.length, ?_, (p1.trans p2).trans (pre_add M2 _), seq_last, by omega⟩
  simp [e1, e2, oAdd, h1, g2, hl]
end VI
namespace K79
open PySem PySem.Spec L2 VI
theorem Sta.setNew {p wl n s l : Nat} {W : List Str} {M : Mem} {r : List D} {o : Ob} (S : Sta p wl W n M) (h : M[s]? = some (.lst (.loc l :: r))) (hp : s ≠ p) : Sta p wl W n (M.set s o) := by
  obtain ⟨c, cells, a, z, h1, h2, h3, h4, h5, h6⟩ := S.pen.ex
  have hc : s ≠ c := by
    rintro rfl
    rw [h] at h2
    cases cells with
    | nil => simp at h2
    | cons x xs => simp at h2
  have hw : s ≠ wl := by
    rintro rfl
    have e := S.at_
    rw [h] at e
    cases hW : W with
    | nil => rw [hW] at e; simp at e
    | cons x xs => rw [hW] at e; simp at e
  exact ⟨⟨c, cells, a, z, by rw [List.getElem?_set_ne hp]; exact h1, by rw [List.getElem?_set_ne hc]; exact h2, h3, h4, h5, h6⟩, by rw [List.getElem?_set_ne hw]; exact S.at_, S.ne, S.len, S.pl⟩
theorem word_spec2 {p wl n : Nat} {W : List Str} {M : Mem} (S : Sta p wl W n M) (hn : n ≤ 800000) {t : Str} (ht : ok t) (hl : t.length ≤ 200) {ol : Nat} {O : List Str} (hO : M[ol]? = some (.lst (O.map D.str))) (op : ol ≠ p) (hO1 : ∀ o ∈ O, ok o ∧ o.length ≤ 20) (hO2 : O.length = 12) :
    ∃ u M', g__law_word_bent [.loc p, .str t, .loc ol] M = .ok (.str u) M' ∧ ok u ∧ Ext p M M' ∧ Sta p wl W (n + 3) M' := by
  obtain ⟨r1, r2⟩ := repl_facts t ("\n" : Str) (" \n " : Str)
  have l3 : (" \n " : Str).length = 3 := rfl
  have l1 : ("\n" : Str).length = 1 := rfl
  rw [l3] at r2
  have rc : t.length + (t.length + 1) * (" \n " : Str).length ≤ 16777216 := by rw [l3]; omega
  obtain ⟨tt, htt⟩ : ∃ tt, tt = Txt.replace t ("\n" : Str) (" \n " : Str) := ⟨_, rfl⟩
  rw [← htt] at r1 r2
  have okt : ok tt := ⟨by omega, fun c hc => by
    rcases r1 c hc with h | h
    · exact ht.2 c h
    · have : ∀ c ∈ (" \n " : Str).cps.toList, c < 128 := by decide
      exact this c h⟩
  obtain ⟨s1, s2⟩ := split_ok okt
  have hne := split_ne tt sp
  have hj := split_join tt
  have os : mSplit (.str tt) [.str (" " : Str)] M = some (.loc M.length, M ++ [Ob.lst ((Txt.split tt sp).map D.str)]) := o_split okt.1
  generalize Txt.split tt sp = ws at s1 s2 hne hj os
  have lsp : sp.length = 1 := rfl
  have je := join_exact sp ws hne
  rw [hj, lsp] at je
  have hpos : 1 ≤ ws.length := List.length_pos_iff.mpr hne
  have hsum : sumL ws + ws.length = tt.length + 1 := by unfold sumL; omega
  obtain ⟨M1, hM1⟩ : ∃ M1, M1 = M ++ [Ob.lst (ws.map D.str)] := ⟨_, rfl⟩
  have p1 : M <+: M1 := by rw [hM1]; exact pre_add M _
  have g1 : M1[M.length]? = some (.lst (ws.map D.str)) := by rw [hM1]; exact seq_last
  rw [← hM1] at os
  have plt : p < M.length := by
    obtain ⟨_, _, _, _, hp, _⟩ := S.pen.ex
    exact (List.getElem?_eq_some_iff.mp hp).1
  have np : M.length ≠ p := by omega
  have ln1 : oLen [.loc M.length] M1 = some (.int (ws.length : Int), M1) := by rw [o_len_loc g1, List.length_map]
  obtain ⟨a, M2, e2, a1, a2, x2, S2⟩ := draw_sta (S.pre p1) (by omega) (show (0 : Int) < (ws.length : Int) by omega) (by omega)
  have g2 := x2.get g1 np
  obtain ⟨dw, hdw, hdm⟩ := at_any (as := ws.map D.str) (r := a - 1) (by rw [List.length_map]; omega) (by rw [List.length_map]; omega)
  obtain ⟨w', hw', rfl⟩ := List.mem_map.mp hdm
  have ixw : oIdx gt0 (.loc M.length) (.int (a - 1)) M2 = some (.str w', M2) := by simp [oIdx, g2, hdw]
  have h1l : (1 : Nat) ≤ lim := by unfold lim; omega
  obtain ⟨M3, hM3⟩ : ∃ M3, M3 = M2 ++ [Ob.lst [.str w']] := ⟨_, rfl⟩
  have p3 : M2 <+: M3 := by rw [hM3]; exact pre_add M2 _
  have g3 : M3[M2.length]? = some (.lst [.str w']) := by rw [hM3]; exact seq_last
  have o1 := (Ext.of (p := p) p1).get hO op
  have o2 := x2.get o1 op
  have o3 := pre_get p3 o2
  obtain ⟨M4, hM4⟩ : ∃ M4, M4 = M3 ++ [Ob.lst ((O ++ [w']).map D.str)] := ⟨_, rfl⟩
  have p4 : M3 <+: M4 := by rw [hM4]; exact pre_add M3 _
  have g4 : M4[M3.length]? = some (.lst ((O ++ [w']).map D.str)) := by rw [hM4]; exact seq_last
  have oa : oAdd (.loc ol) (.loc M2.length) M3 = some (.loc M3.length, M4) := by
    have hz : O.length + 1 ≤ lim := by rw [hO2]; unfold lim; omega
    have := List.map_append (f := D.str) (l₁ := O) (l₂ := [w'])
    rw [hM4, this]
    simp only [oAdd, o3, g3]
    rw [if_pos (by simpa using hz)]
    rfl
  have ln4 : oLen [.loc ol] M4 = some (.int 12, M4) := by rw [o_len_loc (pre_get p4 o3), List.length_map, hO2]; rfl
  have S4 := (S2.pre p3).pre p4
  obtain ⟨q, M5, e5, q1, q2, x5, S5⟩ := draw_sta S4 (by omega) (show (0 : Int) < 13 by decide) (by decide)
  have n3 : M3.length ≠ p := by
    have := List.IsPrefix.length_le p3
    have := x2.1
    have := List.IsPrefix.length_le p1
    omega
  have g5 := x5.get g4 n3
  obtain ⟨dv, hdv, hdvm⟩ := at_int (as := (O ++ [w']).map D.str) q1 (by simp [hO2]; omega)
  obtain ⟨v, hv, rfl⟩ := List.mem_map.mp hdvm
  have ixv : oIdx gt0 (.loc M3.length) (.int q) M5 = some (.str v, M5) := by
    simp only [oIdx, g5, hdv]
    rfl
  have wlen : ∀ w ∈ ws, w.length ≤ tt.length := fun w hw => by
    have := (join_mem sp hw).1
    rw [hj] at this; exact this
  have okv : ok v ∧ v.length ≤ 1000 := by
    rcases List.mem_append.mp hv with h | h
    · exact ⟨(hO1 v h).1, by have := (hO1 v h).2; omega⟩
    · simp at h; subst h
      exact ⟨s1 _ hw', by have := wlen _ hw'; omega⟩
  -- the four lists
  let rho : EnvD := [some (.loc p), some (.str t), some (.loc ol), some (.loc M.length), some (.int a), some (.str v), none]
  have gw5 : M5[M.length]? = some (.lst (ws.map D.str)) := x5.get (pre_get p4 (pre_get p3 g2)) np
  have ww : ws.length ≤ 2000 := by omega
  have big : ∀ k : Nat, k ≤ 10000 → k ≤ lim := fun k hk => by unfold lim; omega
  have cf := cut_facts ws
  have pv4 : ∀ M, ePart (some (eVar 4)) rho M = .ok (some a) M := fun M => rfl
  have pv5 : ∀ M, ePart (some (eBin oAdd (eVar 4) (eCon (.int 1)))) rho M = .ok (some (a + 1)) M := fun M => rfl
  have E1 : ∀ M', M5 <+: M' → EvL (eBin oAdd (eSlc (eVar 3) none (some (eVar 4))) (eSlc (eVar 3) (some (eBin oAdd (eVar 4) (eCon (.int 1)))) none)) rho M' (cutD ws none (some a) ++ cutD ws (some (a + 1)) none) := fun M' h =>
    evl_add (evl_slc rfl (pre_get h gw5) rfl (pv4 _)) (fun M'' h2 => evl_slc rfl (pre_get (h.trans h2) gw5) (pv5 _) rfl) (big _ (by have := (cf none (some a)).2.1; have := (cf (some (a + 1)) none).2.1; omega))
  have E2 : ∀ M', M5 <+: M' → EvL (eBin oAdd (eSlc (eVar 3) none (some (eBin oAdd (eVar 4) (eCon (.int 1))))) (eSlc (eVar 3) (some (eVar 4)) none)) rho M' (cutD ws none (some (a + 1)) ++ cutD ws (some a) none) := fun M' h =>
    evl_add (evl_slc rfl (pre_get h gw5) rfl (pv5 _)) (fun M'' h2 => evl_slc rfl (pre_get (h.trans h2) gw5) (pv4 _) rfl) (big _ (by have := (cf none (some (a + 1))).2.1; have := (cf (some a) none).2.1; omega))
  have E3 : ∀ M', M5 <+: M' → EvL (eBin oAdd (eBin oAdd (eSlc (eVar 3) none (some (eVar 4))) (eLst (eVals [eVar 5]))) (eSlc (eVar 3) (some (eBin oAdd (eVar 4) (eCon (.int 1)))) none)) rho M' (cutD ws none (some a) ++ [v] ++ cutD ws (some (a + 1)) none) := fun M' h =>
    evl_add (evl_add (evl_slc rfl (pre_get h gw5) rfl (pv4 _)) (fun M'' _ => evl_one rfl) (big _ (by have := (cf none (some a)).2.1; simp; omega))) (fun M'' h2 => evl_slc rfl (pre_get (h.trans h2) gw5) (pv5 _) rfl) (big _ (by have := (cf none (some a)).2.1; have := (cf (some (a + 1)) none).2.1; simp; omega))
  have E4 : ∀ (rho' : EnvD) M', rho'[3]? = some (some (.loc M.length)) → rho'[4]? = some (some (.int a)) → rho'[5]? = some (some (.str v)) → M5 <+: M' → EvL (eBin oAdd (eBin oAdd (eSlc (eVar 3) none (some (eVar 4))) (eLst (eVals [eVar 5]))) (eSlc (eVar 3) (some (eVar 4)) none)) rho' M' (cutD ws none (some a) ++ [v] ++ cutD ws (some a) none) := fun rho' M' k3 k4 k5 h =>
    evl_add (evl_add (evl_slc k3 (pre_get h gw5) rfl (by simp [k4])) (fun M'' _ => evl_one k5) (big _ (by have := (cf none (some a)).2.1; simp; omega))) (fun M'' h2 => evl_slc k3 (pre_get (h.trans h2) gw5) (by simp [k4]) rfl) (big _ (by have := (cf none (some a)).2.1; have := (cf (some a) none).2.1; simp; omega))
  obtain ⟨M6, l1', e6, p6, g6, k6⟩ := E1 M5 (List.prefix_refl _)
  obtain ⟨M7, l2', e7, p7, g7, k7⟩ := E2 M6 p6
  obtain ⟨M8, l3', e8, p8, g8, k8⟩ := E3 M7 (p6.trans p7)
  obtain ⟨M9, hM9⟩ : ∃ M9, M9 = M8 ++ [Ob.lst [.loc l1', .loc l2', .loc l3']] := ⟨_, rfl⟩
  have p9 : M8 <+: M9 := by rw [hM9]; exact pre_add M8 _
  have g9 : M9[M8.length]? = some (.lst [.loc l1', .loc l2', .loc l3']) := by rw [hM9]; exact seq_last
  have p59 := ((p6.trans p7).trans p8).trans p9
  obtain ⟨M10, l4', e10, p10, g10, k10⟩ := E4 [some (.loc p), some (.str t), some (.loc ol), some (.loc M.length), some (.int a), some (.str v), some (.loc M8.length)] M9 rfl rfl rfl p59
  have g10s := pre_get p10 g9
  obtain ⟨M11, hM11⟩ : ∃ M11, M11 = M10.set M8.length (.lst [.loc l1', .loc l2', .loc l3', .loc l4']) := ⟨_, rfl⟩
  have s8 : M8.length ≠ p := by
    have := List.IsPrefix.length_le ((p6.trans p7).trans p8)
    have := x5.1
    have := List.IsPrefix.length_le p4
    have := List.IsPrefix.length_le p3
    have := x2.1
    have := List.IsPrefix.length_le p1
    omega
  have S11 : Sta p wl W (n + 2) M11 := by
    rw [hM11]
    exact ((S5.pre (p59.trans p10)).setNew g10s s8).le (by omega)
  have h11 : M11[M8.length]? = some (.lst [.loc l1', .loc l2', .loc l3', .loc l4']) := by rw [hM11]; exact set_here g10s
  obtain ⟨z, M12, e12, z1, z2, x12, S12⟩ := draw_sta S11 (by omega) (show (0 : Int) < 4 by decide) (by decide)
  have h12 := x12.get h11 s8
  obtain ⟨d, hd, hdm⟩ := at_int (as := [D.loc l1', .loc l2', .loc l3', .loc l4']) z1 (by simp; omega)
  have ixd : oIdx gt0 (.loc M8.length) (.int z) M12 = some (d, M12) := by
    simp only [oIdx, h12, hd]
    rfl
  have n5 : p < M5.length := by
    have := x5.1
    have := List.IsPrefix.length_le p4
    have := List.IsPrefix.length_le p3
    have := x2.1
    have := List.IsPrefix.length_le p1
    omega
  have look : ∀ (li : Nat) (ys : List Str), M10[li]? = some (.lst (ys.map D.str)) → M5.length ≤ li → M12[li]? = some (.lst (ys.map D.str)) := by
    intro li ys h h5
    have ns : li ≠ M8.length := by
      rintro rfl
      rw [g10s] at h
      cases ys with
      | nil => simp at h
      | cons y ys => simp at h
    refine x12.get ?_ (by omega)
    rw [hM11, List.getElem?_set_ne (Ne.symm ns)]
    exact h
  have k5 := List.IsPrefix.length_le p6
  have k56 := List.IsPrefix.length_le p7
  have k57 := List.IsPrefix.length_le p8
  have k58 := List.IsPrefix.length_le p9
  have inw : ∀ lo hi, ∀ y ∈ cutD ws lo hi, ok y := fun lo hi y hy => s1 y ((cf lo hi).2.2 y hy)
  have sv : sumL [v] ≤ 1000 := by simp [sumL]; exact okv.2
  obtain ⟨li, ys, rfl, gy, oky, sy, ly⟩ : ∃ li ys, d = .loc li ∧ M12[li]? = some (.lst (ys.map D.str)) ∧ (∀ y ∈ ys, ok y) ∧ sumL ys ≤ 4000 ∧ ys.length ≤ 5000 := by
    have c1 := cf none (some a)
    have c2 := cf (some (a + 1)) none
    have c3 := cf none (some (a + 1))
    have c4 := cf (some a) none
    simp only [List.mem_cons, List.not_mem_nil, or_false] at hdm
    rcases hdm with h | h | h | h
    · refine ⟨_, _, h, look _ _ (pre_get (((p7.trans p8).trans p9).trans p10) g6) (by omega), fun y hy => ?_, by rw [sumL_app]; omega, by rw [List.length_append]; omega⟩
      rcases List.mem_append.mp hy with hy | hy
      · exact inw _ _ y hy
      · exact inw _ _ y hy
    · refine ⟨_, _, h, look _ _ (pre_get ((p8.trans p9).trans p10) g7) (by omega), fun y hy => ?_, by rw [sumL_app]; omega, by rw [List.length_append]; omega⟩
      rcases List.mem_append.mp hy with hy | hy
      · exact inw _ _ y hy
      · exact inw _ _ y hy
    · refine ⟨_, _, h, look _ _ (pre_get (p9.trans p10) g8) (by omega), fun y hy => ?_, by rw [sumL_app, sumL_app]; omega, by simp only [List.length_append, List.length_cons, List.length_nil]; omega⟩
      simp only [List.mem_append, List.mem_cons, List.not_mem_nil, or_false] at hy
      rcases hy with (hy | hy) | hy
      · exact inw _ _ y hy
      · rw [hy]; exact okv.1
      · exact inw _ _ y hy
    · refine ⟨_, _, h, look _ _ g10 (by omega), fun y hy => ?_, by rw [sumL_app, sumL_app]; omega, by simp only [List.length_append, List.length_cons, List.length_nil]; omega⟩
      simp only [List.mem_append, List.mem_cons, List.not_mem_nil, or_false] at hy
      rcases hy with (hy | hy) | hy
      · exact inw _ _ y hy
      · rw [hy]; exact okv.1
      · exact inw _ _ y hy
  have bl1 : (" " : Str).length = 1 := rfl
  have fit : (ys.map (·.length)).sum + ys.length * (" " : Str).length ≤ 16777216 := by rw [bl1]; unfold sumL at sy; omega
  have oj : mJoin (.str (" " : Str)) [.loc li] M12 = some (.str (Str.join sp ys), M12) := o_join gy fit
  have jl : (Str.join sp ys).length ≤ 9000 := by
    have := StrLaws.join_length_le sp ys
    rw [lsp] at this
    unfold sumL at sy
    omega
  obtain ⟨f1, f2⟩ := repl_facts (Str.join sp ys) (" \n " : Str) ("\n" : Str)
  rw [l1] at f2
  have fc : (Str.join sp ys).length + ((Str.join sp ys).length + 1) * ("\n" : Str).length ≤ 16777216 := by rw [l1]; omega
  refine ⟨Txt.replace (Str.join sp ys) (" \n " : Str) ("\n" : Str), M12, ?_, ⟨by omega, fun c hc => ?_⟩, ?_, S12⟩
  · have lt3 : (3 : Nat) < lim := by unfold lim; omega
    have h3l : (3 : Nat) ≤ lim := by unfold lim; omega
    have oap : mAppend (.loc M8.length) [.loc l4'] M10 = some (.non, M11) := by
      simp only [mAppend, g10s, List.length_cons, List.length_nil]
      rw [if_pos (by omega), hM11]
      rfl
    have tyl : tyD M9 "list" (.loc M8.length) = true := by simp only [tyD, g9]; rfl
    simp only [rho] at e6 e7 e8
    unfold g__law_word_bent runBody b__law_word_bent
    have en : eBin (oIdx gt0) (eBin oAdd (eVar 2) (eLst (eVals [eBin (oIdx gt0) (eVar 3) (eBin oSub (eVar 4) (eCon (.int 1)))]))) (eCall g__law_draw (eVals [eVar 0, eBin oAdd (eBlt oLen (eVals [eVar 2])) (eCon (.int 1))])) [some (.loc p), some (.str t), some (.loc ol), some (.loc M.length), some (.int a), none, none] M2 = .ok (.str v) M5 := by
      simp [ixw, h1l, ← hM3, oa, ln4, e5, ixv]
    have ef : eBin (oIdx gt0) (eVar 6) (eCall g__law_draw (eVals [eVar 0, eCon (.int 4)])) [some (.loc p), some (.str t), some (.loc ol), some (.loc M.length), some (.int a), some (.str v), some (.loc M8.length)] M11 = .ok (.loc li) M12 := by
      simp [e12, ixd]
    simp [-v_bin, -v_slc, eRepl, bindT, rc, ← htt, os, ln1, e2, en, e6, e7, e8, h3l, ← hM9, tyl, e10, oap, ef, oj, fc]
  · rcases f1 c hc with h | h
    · rcases join_chars sp ys c h with h | ⟨w, hw, h⟩
      · have : ∀ c ∈ sp.cps.toList, c < 128 := by decide
        exact this c h
      · exact (oky w hw).2 c h
    · have : ∀ c ∈ ("\n" : Str).cps.toList, c < 128 := by decide
      exact this c h
  · have xa : Ext p M M10 := (((((Ext.of p1).trans x2).trans (Ext.of p3)).trans (Ext.of p4)).trans x5).trans (Ext.of (p59.trans p10))
    have mlt : M.length ≤ M8.length := by
      have := x5.1
      have := List.IsPrefix.length_le p4
      have := List.IsPrefix.length_le p3
      have := x2.1
      have := List.IsPrefix.length_le p1
      omega
    refine Ext.trans ?_ x12
    rw [hM11]
    refine ⟨by rw [List.length_set]; exact xa.1, fun l hl hn => ?_⟩
    rw [List.getElem?_set_ne (by omega)]
    exact xa.2 l hl hn
end K79
namespace K79
open PySem PySem.Spec L2 VI
def turnS : EvS := (sSeq (sAsg (.nm 6) (eCall g__law_made_item (eVals [eVar 1, eVar 2]))) (sSeq (sAsg (.nm 7) (eBlt oRepr (eVals [eVar 6]))) (sSeq (sAsg (.nm 8) (eCall g_show_item (eVals [eVar 6]))) (sSeq (sIf (eOrT (eNot (eTru (eIsi "str" (eVar 8)))) (eBool (eBin oNe (eVar 8) (eCall g__law_item_text (eVals [eVar 6]))))) (sSeq (sRet (eCon (.bl false))) (sNil)) (sNil)) (sSeq (sIf (eOrT (eBool (eBin oNe (eBlt oRepr (eVals [eCall g_read_item (eVals [eVar 8])])) (eVar 7))) (eBool (eBin oNe (eBlt oRepr (eVals [eVar 6])) (eVar 7)))) (sSeq (sRet (eCon (.bl false))) (sNil)) (sNil)) (sSeq (sAsg (.nm 4) (eBin oAdd (eVar 4) (eLst (eVals [eCall g__law_sign_bent (eVals [eVar 1, eVar 8]), eCall g__law_sign_bent (eVals [eVar 1, eVar 8]), eCall g__law_word_bent (eVals [eVar 1, eVar 8, eVar 3])])))) (sNil)))))))
structure LawM (p wl ol tl n : Nat) (W O ts : List Str) (M : Mem) : Prop where
  sta : Sta p wl W n M
  oo : M[ol]? = some (.lst (O.map D.str))
  op : ol ≠ p
  o1 : ∀ o ∈ O, ok o ∧ o.length ≤ 20
  o2 : O.length = 12
  tt : M[tl]? = some (.lst (ts.map D.str))
  tp : tl ≠ p
  t1 : ∀ t ∈ ts, ok t
theorem turn_spec {p wl ol tl n : Nat} {W O ts : List Str} {M : Mem} (L : LawM p wl ol tl n W O ts M) (hn : n ≤ 700000) (hl : ts.length ≤ 1000) {s d5 d6 d7 d8 d9 : Option D} :
    ∃ e6 e7 e8 tl' ts' M', turnS [s, some (.loc p), some (.loc wl), some (.loc ol), some (.loc tl), d5, d6, d7, d8, d9] M = .ok (.nx [s, some (.loc p), some (.loc wl), some (.loc ol), some (.loc tl'), d5, e6, e7, e8, d9]) M' ∧ LawM p wl ol tl' (n + 100) W O ts' M' ∧ ts'.length = ts.length + 3 ∧ Ext p M M' := by
  obtain ⟨ws, d, M1, e1, hi, hne, hw, hlen, x1, S1⟩ := made_spec L.sta (by omega)
  have hok : ∀ a ∈ ws, ok a := fun a ha => (hw a ha).1
  obtain ⟨⟨q, F⟩, hs, ht⟩ := item_facts hne hok hi
  have r1 := oRepr_fit F M1
  obtain ⟨M2, e2, p2⟩ := hs M1
  obtain ⟨M3, e3, p3⟩ := ht M2
  have okt : ok (Str.join sp ws) := ⟨by omega, join_ok (by decide) fun w h => (hok w h).2⟩
  obtain ⟨rd, _⟩ := ret_read okt M3
  rw [split_of_join hne fun a ha => (hw a ha).2] at rd
  obtain ⟨M4, e4, p4⟩ := rd d hi
  have r4 := oRepr_fit F M4
  have S4 := (((S1.pre p2).pre p3).pre p4)
  have x4 : Ext p M M4 := x1.trans (Ext.of ((p2.trans p3).trans p4))
  obtain ⟨u1, M5, e5, ok5, x5, S5⟩ := sign_spec S4 (by omega) okt (by omega)
  obtain ⟨u2, M6, e6, ok6, x6, S6⟩ := sign_spec S5 (by omega) okt (by omega)
  have o6 := ((x4.trans x5).trans x6).get L.oo L.op
  obtain ⟨u3, M7, e7, ok7, x7, S7⟩ := word_spec2 S6 (by omega) okt hlen o6 L.op L.o1 L.o2
  have xx := (((x4.trans x5).trans x6).trans x7)
  have o7 := xx.get L.oo L.op
  have t7 := xx.get L.tt L.tp
  have plt : p < M7.length := by
    obtain ⟨_, _, _, _, hp, _⟩ := S7.pen.ex
    exact (List.getElem?_eq_some_iff.mp hp).1
  obtain ⟨M8, hM8⟩ : ∃ M8, M8 = M7 ++ [Ob.lst [.str u1, .str u2, .str u3]] := ⟨_, rfl⟩
  have p8 : M7 <+: M8 := by rw [hM8]; exact pre_add M7 _
  have g8 : M8[M7.length]? = some (.lst [.str u1, .str u2, .str u3]) := by rw [hM8]; exact seq_last
  obtain ⟨M9, hM9⟩ : ∃ M9, M9 = M8 ++ [Ob.lst ((ts ++ [u1, u2, u3]).map D.str)] := ⟨_, rfl⟩
  have p9 : M8 <+: M9 := by rw [hM9]; exact pre_add M8 _
  have g9 : M9[M8.length]? = some (.lst ((ts ++ [u1, u2, u3]).map D.str)) := by rw [hM9]; exact seq_last
  have oa : oAdd (.loc tl) (.loc M7.length) M8 = some (.loc M8.length, M9) := by
    have hz : ts.length + 3 ≤ lim := by unfold lim; omega
    have hm := List.map_append (f := D.str) (l₁ := ts) (l₂ := [u1, u2, u3])
    rw [hM9, hm]
    simp only [oAdd, pre_get p8 t7, g8]
    rw [if_pos (by simpa using hz)]
    rfl
  have h3l : (3 : Nat) ≤ lim := by unfold lim; omega
  have len8 := List.IsPrefix.length_le p8
  refine ⟨some d, some (.str q.shown), some (.str (Str.join sp ws)), M8.length, ts ++ [u1, u2, u3], M9, ?_, ⟨((S7.pre p8).pre p9).le (by omega), pre_get p9 (pre_get p8 o7), L.op, L.o1, L.o2, g9, by omega, fun t ht => ?_⟩, by simp, xx.trans (Ext.of (p8.trans p9))⟩
  · unfold turnS
    simp [bindT, e1, r1, e2, e3, e4, r4, e5, e6, e7, h3l, ← hM8, oa]
  · simp only [List.mem_append, List.mem_cons, List.not_mem_nil, or_false] at ht
    rcases ht with h | h | h | h
    · exact L.t1 t h
    · rw [h]; exact ok5
    · rw [h]; exact ok6
    · rw [h]; exact ok7
theorem loop_spec {p wl ol : Nat} {W O : List Str} {s d9 : Option D} : ∀ (xs : List D) (tl n : Nat) (ts : List Str) (M : Mem) (d5 d6 d7 d8 : Option D), LawM p wl ol tl n W O ts M → n + 100 * xs.length ≤ 700000 → ts.length + 3 * xs.length ≤ 1000 →
    ∃ e5 e6 e7 e8 tl' ts' M', forLoop (.rng 0 8) (.nm 5) turnS xs [s, some (.loc p), some (.loc wl), some (.loc ol), some (.loc tl), d5, d6, d7, d8, d9] M = .ok (.nx [s, some (.loc p), some (.loc wl), some (.loc ol), some (.loc tl'), e5, e6, e7, e8, d9]) M' ∧ LawM p wl ol tl' (n + 100 * xs.length) W O ts' M' ∧ ts'.length = ts.length + 3 * xs.length
  | [], tl, n, ts, M, d5, d6, d7, d8, L, _, _ => ⟨d5, d6, d7, d8, tl, ts, M, by simp [forLoop, Src.stands], L, by simp⟩
  | x :: xs, tl, n, ts, M, d5, d6, d7, d8, L, h1, h2 => by
    simp only [List.length_cons] at h1 h2
    obtain ⟨e6, e7, e8, tl', ts', M', e, L', hl, _⟩ := turn_spec L (by omega) (by omega) (s := s) (d5 := some x) (d6 := d6) (d7 := d7) (d8 := d8) (d9 := d9)
    obtain ⟨f5, f6, f7, f8, tl2, ts2, M2, e2, L2, hl2⟩ := loop_spec xs tl' (n + 100) ts' M' (some x) e6 e7 e8 L' (by omega) (by omega)
    refine ⟨f5, f6, f7, f8, tl2, ts2, M2, ?_, by rw [List.length_cons, show n + 100 * (xs.length + 1) = n + 100 + 100 * xs.length by omega]; exact L2, by rw [hl2, hl, List.length_cons]; omega⟩
    rw [← e2]
    simp only [forLoop, Src.stands, if_true, bindT]
    have es : (List.set [s, some (D.loc p), some (.loc wl), some (.loc ol), some (.loc tl), d5, d6, d7, d8, d9] 5 (some x)) = [s, some (.loc p), some (.loc wl), some (.loc ol), some (.loc tl), some x, d6, d7, d8, d9] := rfl
    rw [es, e]
end K79
namespace K79
open PySem PySem.Spec L2 VI
def lastS : EvS := (sSeq (sIf (eBool (eBin oNe (eLamCall [9] gl_law) (eTup (eVals [eCon .non])))) (sSeq (sRet (eCon (.bl false))) (sNil)) (sNil)) (sNil))
theorem gl_law_no {d : D} {M : Mem} (h : isiD M "str" d = some false) : gl_law [d] M = .ok (.tup [.non]) M := by
  have e1 : gl_law [d] M = refused ((eCall g_read_item (eVals [eVar 9])) (capE 10 [9] [d]) M) := by
    unfold gl_law
    exact refusal_val 0 0 "" [] [d] _ M
  have e2 : (eCall g_read_item (eVals [eVar 9])) (capE 10 [9] [d]) M = g_read_item [d] M := by
    simp [capE, setE]
  rw [e1, e2, ret_read_no h]
  rfl
theorem last_spec {l : Nat} {ys : List D} {M : Mem} (h : M[l]? = some (.lst ys)) {d0 d1 d2 d3 d4 d5 d6 d7 d8 : Option D} : ∀ (xs : List D) (d9 : Option D), (∀ d ∈ xs, isiD M "str" d = some false) →
    ∃ e9, forLoop (.lst l ys) (.nm 9) lastS xs [d0, d1, d2, d3, d4, d5, d6, d7, d8, d9] M = .ok (.nx [d0, d1, d2, d3, d4, d5, d6, d7, d8, e9]) M
  | [], d9, _ => ⟨d9, by simp [forLoop, Src.stands, h, beqDs_self]⟩
  | x :: xs, d9, hx => by
    obtain ⟨e9, e⟩ := last_spec h xs (some x) (fun d hd => hx d (List.mem_cons_of_mem _ hd))
    refine ⟨e9, ?_⟩
    rw [← e]
    have h1 : (1 : Nat) ≤ lim := by unfold lim; omega
    have st : (Src.lst l ys).stands M = true := by simp [Src.stands, h, beqDs_self]
    have en : oNe (.tup [.non]) (.tup [.non]) M = some (.bl false, M) := rfl
    have es : (List.set [d0, d1, d2, d3, d4, d5, d6, d7, d8, d9] 9 (some x)) = [d0, d1, d2, d3, d4, d5, d6, d7, d8, some x] := rfl
    have eb : lastS [d0, d1, d2, d3, d4, d5, d6, d7, d8, some x] M = .ok (.nx [d0, d1, d2, d3, d4, d5, d6, d7, d8, some x]) M := by
      unfold lastS
      simp [getE, gl_law_no (hx x (by simp)), h1, en]
    simp only [forLoop, st, if_true, bindT, es, eb]
end K79
namespace K79
open PySem PySem.Spec L2 VI
def othersOf (w : Str) : List Str := ["=", "#", "same", "~1", "0", "00", "~0", "A", "", "zzzzzzzzz", "1000000", w]
def texts0 : List Str := ["", " ", "=", "a =", "= a", "a = ", "a = b c", "a  b", "a ", " a", "a\n", "unlike", "a = a"]
def nineE : EvE := eLst (eVals [eCon .non, eCon (.bl true), eCon (.int 0), eCon (.int 7), eLst (eVals []), eLst (eVals [eCon (.str ("a" : Str))]), eTup (eVals [eCon (.str ("a" : Str)), eTup (eVals [])]), eDct [] [], eTup (eVals [eCon (.str ("same" : Str)), eCon (.str ("a" : Str)), eCon (.str ("b" : Str))])])
theorem nine_spec (rho : EnvD) (M : Mem) : ∃ xs M1 l, nineE rho M = .ok (.loc l) M1 ∧ M <+: M1 ∧ M1[l]? = some (.lst xs) ∧ ∀ d ∈ xs, isiD M1 "str" d = some false := by
  have h0 : (0 : Nat) ≤ lim := Nat.zero_le _
  have h1 : (1 : Nat) ≤ lim := by unfold lim; omega
  have h2 : (2 : Nat) ≤ lim := by unfold lim; omega
  have h3 : (3 : Nat) ≤ lim := by unfold lim; omega
  have h9 : (9 : Nat) ≤ lim := by unfold lim; omega
  obtain ⟨A, hA⟩ : ∃ A, A = M ++ [Ob.lst []] := ⟨_, rfl⟩
  obtain ⟨B, hB⟩ : ∃ B, B = A ++ [Ob.lst [.str "a"]] := ⟨_, rfl⟩
  obtain ⟨C, hC⟩ : ∃ C, C = B ++ [Ob.dct [] []] := ⟨_, rfl⟩
  have gA : A[M.length]? = some (.lst []) := by rw [hA]; exact seq_last
  have gB : B[A.length]? = some (.lst [.str "a"]) := by rw [hB]; exact seq_last
  have gC : C[B.length]? = some (.dct [] []) := by rw [hC]; exact seq_last
  have pA : M <+: A := by rw [hA]; exact pre_add M _
  have pB : A <+: B := by rw [hB]; exact pre_add A _
  have pC : B <+: C := by rw [hC]; exact pre_add B _
  obtain ⟨xs, hxs⟩ : ∃ xs : List D, xs = [.non, .bl true, .int 0, .int 7, .loc M.length, .loc A.length, .tup [.str "a", .tup []], .loc B.length, .tup [.str "same", .str "a", .str "b"]] := ⟨_, rfl⟩
  obtain ⟨E, hE⟩ : ∃ E, E = C ++ [Ob.lst xs] := ⟨_, rfl⟩
  have pE : C <+: E := by rw [hE]; exact pre_add C _
  have gE : E[C.length]? = some (.lst xs) := by rw [hE]; exact seq_last
  refine ⟨xs, E, C.length, ?_, pA.trans (pB.trans (pC.trans pE)), gE, ?_⟩
  · unfold nineE
    simp [h0, h1, h2, h3, h9]
    simp [hE, hxs, hC, hB, hA]
  · intro d hd
    have kA := pre_get (pB.trans (pC.trans pE)) gA
    have kB := pre_get (pC.trans pE) gB
    have kC := pre_get pE gC
    rw [hxs] at hd
    simp only [List.mem_cons, List.not_mem_nil, or_false] at hd
    rcases hd with h | h | h | h | h | h | h | h | h <;> subst h <;> first | rfl | (simp [isiD, tyName, kA]; done) | (simp [isiD, tyName, kB]; done) | (simp [isiD, tyName, kC]; done) | (unfold isiD tyName; simp only [kA]; rfl) | (unfold isiD tyName; simp only [kB]; rfl) | (unfold isiD tyName; simp only [kC]; rfl)
end K79
namespace K79
open PySem PySem.Spec L2 VI
theorem plainS_ok {w : Str} (h : plainS w = true) : ok w ∧ w.length ≤ 20 := by
  unfold plainS at h
  simp only [Bool.and_eq_true, decide_eq_true_eq, List.all_eq_true] at h
  refine ⟨⟨by omega, fun c hc => ?_⟩, by omega⟩
  have := h.2 c hc
  unfold isLet at this
  have hm := of_decide_eq_true this
  have hall : ∀ c ∈ ("abcdefghijklmnopqrstuvwxyz" : Str).cps.toList, c < 128 := by decide
  exact hall c hm
theorem b_law_eq : b_law = sSeq (sAsg (.nm 1) (eCall g__law_pen (eVals [eVar 0]))) (sSeq (sAsg (.nm 2) (eLst (eVals [eCall g__law_word (eVals [eVar 1]), eCall g__law_word (eVals [eVar 1]), eCon (.str ("a" : Str)), eCon (.str ("same" : Str))]))) (sSeq (sAsg (.nm 3) (eLst (eVals [eCon (.str ("=" : Str)), eCon (.str ("#" : Str)), eCon (.str ("same" : Str)), eCon (.str ("~1" : Str)), eCon (.str ("0" : Str)), eCon (.str ("00" : Str)), eCon (.str ("~0" : Str)), eCon (.str ("A" : Str)), eCon (.str ("" : Str)), eCon (.str ("zzzzzzzzz" : Str)), eCon (.str ("1000000" : Str)), eBin (oIdx gt0) (eVar 2) (eCon (.int 0))]))) (sSeq (sAsg (.nm 4) (eLst (eVals [eCon (.str ("" : Str)), eCon (.str (" " : Str)), eCon (.str ("=" : Str)), eCon (.str ("a =" : Str)), eCon (.str ("= a" : Str)), eCon (.str ("a = " : Str)), eCon (.str ("a = b c" : Str)), eCon (.str ("a  b" : Str)), eCon (.str ("a " : Str)), eCon (.str (" a" : Str)), eCon (.str ("a\n" : Str)), eCon (.str ("unlike" : Str)), eCon (.str ("a = a" : Str))]))) (sSeq (sFor (eRng (eVals [eCon (.int 8)])) (.nm 5) turnS) (sSeq (sIf (eBool (eBin oNe (eLc (eSrc (eVar 4)) (.nm 8) [8] (eNot (eTru (eCall g__law_text_right (eVals [eVar 8])))) (eVar 8)) (eLst (eVals [])))) (sSeq (sRet (eCon (.bl false))) (sNil)) (sNil)) (sSeq (sFor (eSrc nineE) (.nm 9) lastS) (sSeq (sRet (eCon (.bl true))) (sNil)))))))) := rfl
theorem law_holds (ns : List Int) (hn : ns.length ≤ 63) : ∃ M, g_law [.rl (ns.map D.int)] [] = .ok (.bl true) M := by
  obtain ⟨p, M1, e1, _, P1⟩ := pen_spec hn []
  obtain ⟨w0, M2, e2, pl0, x2, P2⟩ := word_spec P1 (by omega)
  obtain ⟨w1, M3, e3, pl1, x3, P3⟩ := word_spec P2 (by omega)
  have h0 : (0 : Nat) ≤ lim := Nat.zero_le _
  have h1 : (1 : Nat) ≤ lim := by unfold lim; omega
  have h4 : (4 : Nat) ≤ lim := by unfold lim; omega
  have h12 : (12 : Nat) ≤ lim := by unfold lim; omega
  have h13 : (13 : Nat) ≤ lim := by unfold lim; omega
  have plt : p < M3.length := by
    obtain ⟨_, _, _, _, hp, _⟩ := P3.ex
    exact (List.getElem?_eq_some_iff.mp hp).1
  obtain ⟨A, hA⟩ : ∃ A, A = M3 ++ [Ob.lst [.str w0, .str w1, .str "a", .str "same"]] := ⟨_, rfl⟩
  have pA : M3 <+: A := by rw [hA]; exact pre_add M3 _
  have gA : A[M3.length]? = some (.lst [.str w0, .str w1, .str "a", .str "same"]) := by rw [hA]; exact seq_last
  obtain ⟨B, hB⟩ : ∃ B, B = A ++ [Ob.lst ((othersOf w0).map D.str)] := ⟨_, rfl⟩
  have pB : A <+: B := by rw [hB]; exact pre_add A _
  have gB : B[A.length]? = some (.lst ((othersOf w0).map D.str)) := by rw [hB]; exact seq_last
  obtain ⟨C, hC⟩ : ∃ C, C = B ++ [Ob.lst (texts0.map D.str)] := ⟨_, rfl⟩
  have pC : B <+: C := by rw [hC]; exact pre_add B _
  have gC : C[B.length]? = some (.lst (texts0.map D.str)) := by rw [hC]; exact seq_last
  have lA := List.IsPrefix.length_le pA
  have lB := List.IsPrefix.length_le pB
  have ix : oIdx gt0 (.loc M3.length) (.int 0) A = some (.str w0, A) := o_ix_l0 gA rfl
  have hB' : A ++ [Ob.lst [.str "=", .str "#", .str "same", .str "~1", .str "0", .str "00", .str "~0", .str "A", .str "", .str "zzzzzzzzz", .str "1000000", .str w0]] = B := hB.symm
  have hC' : B ++ [Ob.lst [.str "", .str " ", .str "=", .str "a =", .str "= a", .str "a = ", .str "a = b c", .str "a  b", .str "a ", .str " a", .str "a\n", .str "unlike", .str "a = a"]] = C := hC.symm
  have L : LawM p M3.length A.length B.length 20 [w0, w1, "a", "same"] (othersOf w0) texts0 C := by
    refine ⟨⟨(((P3.pre pA).pre pB).pre pC).le (by omega), pre_get pC (pre_get pB gA), by omega, rfl, ?_⟩, pre_get pC gB, by omega, ?_, rfl, gC, by omega, ?_⟩
    · intro w hw
      simp only [List.mem_cons, List.not_mem_nil, or_false] at hw
      rcases hw with h | h | h | h
      · rw [h]; exact pl0
      · rw [h]; exact pl1
      · rw [h]; decide
      · rw [h]; decide
    · intro o ho
      unfold othersOf at ho
      simp only [List.mem_cons, List.not_mem_nil, or_false] at ho
      rcases ho with h | h | h | h | h | h | h | h | h | h | h | h <;> subst h <;> first | exact plainS_ok pl0 | (unfold ok; decide)
    · intro t ht
      unfold texts0 at ht
      simp only [List.mem_cons, List.not_mem_nil, or_false] at ht
      rcases ht with h | h | h | h | h | h | h | h | h | h | h | h | h <;> subst h <;> (unfold ok; decide)
  have li : (Src.rng 0 8).items.length = 8 := rfl
  obtain ⟨e5, e6, e7, e8, tl, ts, D1, ef, L2, hts⟩ := loop_spec (s := some (.rl (ns.map D.int))) (d9 := none) (Src.rng 0 8).items B.length 20 texts0 C none none none none L (by rw [li]; omega) (by rw [li]; decide)
  rw [li] at hts
  have hts' : ts.length = 37 := hts
  have es : eSrc (eVar 4) [some (.rl (ns.map D.int)), some (.loc p), some (.loc M3.length), some (.loc A.length), some (.loc tl), e5, e6, e7, e8, none] D1 = .ok (.lst tl (ts.map D.str)) D1 := by simp [eSrc, srcD, L2.tt]
  obtain ⟨E1, elc, pE⟩ := lc_not (g := g__law_text_right) (i := 8) (vs := [8]) (fun _ => true) es (List.prefix_refl D1) rfl (fun M' hM => by simp [Src.stands, pre_get hM L2.tt, beqDs_self]) (by simp [wipeD]) (fun a ha M => lret_right (L2.t1 a ha) M) (by rw [hts']; unfold lim; omega)
  have ff : ts.filter (fun _ => !true) = [] := by simp
  rw [ff] at elc
  obtain ⟨E2, hE2⟩ : ∃ E2, E2 = E1 ++ [Ob.lst []] := ⟨_, rfl⟩
  have elc' := elc
  simp only [List.map_nil, ← hE2] at elc'
  obtain ⟨E3, hE3⟩ : ∃ E3, E3 = E2 ++ [Ob.lst []] := ⟨_, rfl⟩
  have en : oNe (.loc E1.length) (.loc E2.length) E3 = some (.bl false, E3) := o_ne_nil (as := []) (by rw [hE3]; exact pre_get (pre_add E2 _) (by rw [hE2]; exact seq_last)) (by rw [hE3]; exact seq_last) (fun a ha => absurd ha (by simp))
  obtain ⟨xs, F1, l, en9, _, gl, hxs⟩ := nine_spec [some (.rl (ns.map D.int)), some (.loc p), some (.loc M3.length), some (.loc A.length), some (.loc tl), e5, e6, e7, e8, none] E3
  obtain ⟨e9, efl⟩ := last_spec gl (d0 := some (.rl (ns.map D.int))) (d1 := some (.loc p)) (d2 := some (.loc M3.length)) (d3 := some (.loc A.length)) (d4 := some (.loc tl)) (d5 := e5) (d6 := e6) (d7 := e7) (d8 := e8) xs none hxs
  have es9 : eSrc nineE [some (.rl (ns.map D.int)), some (.loc p), some (.loc M3.length), some (.loc A.length), some (.loc tl), e5, e6, e7, e8, none] E3 = .ok (.lst l xs) F1 := by simp [eSrc, en9, srcD, gl]
  refine ⟨F1, ?_⟩
  have i8 : inR 8 = true := by decide
  unfold g_law runBody
  rw [b_law_eq]
  simp [bindT, e1, e2, e3, h0, h1, h4, h12, h13, ← hA, ix, hB', hC', i8]
  simp [ef, elc', ← hE3, en, es9]
  have hi : (Src.lst l xs).items = xs := rfl
  rw [hi, efl]
end K79
namespace K79
open PySem PySem.Spec L2 VI
theorem gi__law_text_right : ∀ f c us ds M {q : Str}, runBody (b__law_refusal (eAct 0 f c q us fun ds M => (eCall g_read_item (eVals [eVar 0])) (capE 3 [0] ds) M)) 4 [.fn f c q ds us] M = gl__law_text_right ds M := by
  intro f c us ds M q
  unfold gl__law_text_right
  rw [refusal_val, refusal_val]
theorem gi_law : ∀ f c us ds M {q : Str}, runBody (b__law_refusal (eAct 0 f c q us fun ds M => (eCall g_read_item (eVals [eVar 9])) (capE 10 [9] ds) M)) 4 [.fn f c q ds us] M = gl_law ds M := by
  intro f c us ds M q
  unfold gl_law
  rw [refusal_val, refusal_val]
section
variable {P : Program} {w : World} {mg : Str → Option Value} {base : Heap} {T : Tab} {co Pt : Nat → Addr} {cv : Nat → Value}
theorem w_are_figures (F : Wd P w mg base T co Pt cv) : FnG P w mg base T 1 0 g_are_figures := F.d_are_figures.fn (n := 0) sc_are_figures F.gdk fun A outer s H E G =>
  den_sSeq (den_if ((denW_or (denT_not (q_chainT (op_oLe G) (op_oLe G) (q_int) (q_blt (cal_len G) F.z_len (.cons (q_var 0) .nil)) (q_var 1))) (denW_one_or (denT_not (q_tru G (q_blt (cal_all G) F.z_all (.cons (q_lc [(("sign" : Str), 2)] G (den_src G (q_var 0)) (fun s1 H1 C1 cl1 fp1 => (q_nm 2 (((G).blk s1 H1 _ _ fp1)).nd)) (fun s1 H1 C1 cl1 fp1 => pts_nil) t_yes (fun s1 H1 C1 cl1 fp1 => q_cmp (t_in ((G).blk s1 H1 _ _ fp1) F.gt) (q_var 2) (q_con F.c_FIGURES))) .nil)))))).pt) (den_sSeq (den_ret (q_bl)) (den_sNil)) (den_sNil)) (den_sSeq (den_ret (den_orV G (q_cmp (op_oNe G) (t_ix G F.gt (q_var 0) (q_int)) (q_str)) (q_one (q_cmp (op_oEq G) (q_var 0) (q_str))))) (den_sNil))
theorem w_is_value (F : Wd P w mg base T co Pt cv) : FnG P w mg base T 2 1 g_is_value := F.d_is_value.fn (n := 1) sc_is_value F.gdk fun A outer s H E G =>
  den_sSeq (den_ret (den_andV G (q_isi G (q_var 0) F.z_isinstance F.z_str) (q_one (q_call G (w_are_figures F) F.d_are_figures tk_fn (.cons (q_var 0) (.cons (q_con F.c_LONGEST_VALUE) .nil)))))) (den_sNil)
theorem w_is_plain (F : Wd P w mg base T co Pt cv) : FnG P w mg base T 1 2 g_is_plain := F.d_is_plain.fn (n := 0) sc_is_plain F.gdk fun A outer s H E G =>
  den_sSeq (den_if ((denW_or (denT_not (q_tru G (q_isi G (q_var 0) F.z_isinstance F.z_str))) (denW_one_or (denT_not (q_chainT (op_oLe G) (op_oLe G) (q_int) (q_blt (cal_len G) F.z_len (.cons (q_var 0) .nil)) (q_con F.c_LONGEST))))).pt) (den_sSeq (den_ret (q_bl)) (den_sNil)) (den_sNil)) (den_sSeq (den_ret (q_blt (cal_all G) F.z_all (.cons (q_lc [(("sign" : Str), 1)] G (den_src G (q_var 0)) (fun s1 H1 C1 cl1 fp1 => (q_nm 1 (((G).blk s1 H1 _ _ fp1)).nd)) (fun s1 H1 C1 cl1 fp1 => pts_nil) t_yes (fun s1 H1 C1 cl1 fp1 => q_cmp (t_in ((G).blk s1 H1 _ _ fp1) F.gt) (q_var 1) (q_con F.c_LETTERS))) .nil))) (den_sNil))
theorem w_is_new (F : Wd P w mg base T co Pt cv) : FnG P w mg base T 2 3 g_is_new := F.d_is_new.fn (n := 1) sc_is_new F.gdk fun A outer s H E G =>
  den_sSeq (den_if ((denW_or (denT_not (q_tru G (q_isi G (q_var 0) F.z_isinstance F.z_str))) (denW_one_or (q_cmpT (op_oNe G) (den_slc G (q_var 0) den_poN (den_poS (q_int))) (q_str)))).pt) (den_sSeq (den_ret (q_bl)) (den_sNil)) (den_sNil)) (den_sSeq (den_ret (den_andV G (q_call G (w_are_figures F) F.d_are_figures tk_fn (.cons (den_slc G (q_var 0) (den_poS (q_int)) den_poN) (.cons (q_con F.c_LONGEST_NEW) .nil))) (q_one (q_cmp (op_oNe G) (q_var 0) (q_str))))) (den_sNil))
theorem w_is_name (F : Wd P w mg base T co Pt cv) : FnG P w mg base T 3 4 g_is_name := F.d_is_name.fn (n := 2) sc_is_name F.gdk fun A outer s H E G =>
  den_sSeq (den_ret (den_orV G (q_call G (w_is_plain F) F.d_is_plain tk_fn (.cons (q_var 0) .nil)) (q_one (q_call G (w_is_new F) F.d_is_new tk_fn (.cons (q_var 0) .nil))))) (den_sNil)
theorem w_is_term (F : Wd P w mg base T co Pt cv) : FnG P w mg base T 4 5 g_is_term := F.d_is_term.fn (n := 3) sc_is_term F.gdk fun A outer s H E G =>
  den_sSeq (den_ret (den_orV G (q_call G (w_is_value F) F.d_is_value tk_fn (.cons (q_var 0) .nil)) (q_one (q_call G (w_is_name F) F.d_is_name tk_fn (.cons (q_var 0) .nil))))) (den_sNil)
theorem w_is_thing (F : Wd P w mg base T co Pt cv) : FnG P w mg base T 5 6 g_is_thing := F.d_is_thing.fn (n := 4) sc_is_thing F.gdk fun A outer s H E G =>
  den_sSeq (den_if ((denW_or (denT_not (q_tru G (q_isi G (q_var 0) F.z_isinstance F.z_tuple))) (denW_or (q_cmpT (op_oNe G) (q_blt (cal_len G) F.z_len (.cons (q_var 0) .nil)) (q_int)) (denW_or (denT_not (q_tru G (q_call G (w_is_plain F) F.d_is_plain tk_fn (.cons (t_ix G F.gt (q_var 0) (q_int)) .nil)))) (denW_one_or (denT_not (q_tru G (q_isi G (t_ix G F.gt (q_var 0) (q_int)) F.z_isinstance F.z_tuple))))))).pt) (den_sSeq (den_ret (q_bl)) (den_sNil)) (den_sNil)) (den_sSeq (den_ret (den_andV G (q_cmp (op_oLe G) (q_blt (cal_len G) F.z_len (.cons (t_ix G F.gt (q_var 0) (q_int)) .nil)) (q_con F.c_MOST_ARGS)) (q_one (q_blt (cal_all G) F.z_all (.cons (q_lc [(("term" : Str), 1)] G (den_src G (t_ix G F.gt (q_var 0) (q_int))) (fun s1 H1 C1 cl1 fp1 => (q_nm 1 (((G).blk s1 H1 _ _ fp1)).nd)) (fun s1 H1 C1 cl1 fp1 => pts_nil) t_yes (fun s1 H1 C1 cl1 fp1 => q_call ((G).blk s1 H1 _ _ fp1) (w_is_term F) F.d_is_term tk_blk (.cons (q_var 1) .nil))) .nil))))) (den_sNil))
theorem w_is_fact (F : Wd P w mg base T co Pt cv) : FnG P w mg base T 5 7 g_is_fact := F.d_is_fact.fn (n := 4) sc_is_fact F.gdk fun A outer s H E G =>
  den_sSeq (den_if ((denW_or (denT_not (q_tru G (q_isi G (q_var 0) F.z_isinstance F.z_tuple))) (denW_or (q_cmpT (op_oNe G) (q_blt (cal_len G) F.z_len (.cons (q_var 0) .nil)) (q_int)) (denW_or (denT_not (q_tru G (q_isi G (t_ix G F.gt (q_var 0) (q_int)) F.z_isinstance F.z_str))) (denW_one_or (q_cmpT (t_notIn G F.gt) (t_ix G F.gt (q_var 0) (q_int)) (q_con F.c_FACTS_terms)))))).pt) (den_sSeq (den_ret (q_bl)) (den_sNil)) (den_sNil)) (den_sSeq (den_ret (den_andV G (q_call G (w_is_term F) F.d_is_term tk_fn (.cons (t_ix G F.gt (q_var 0) (q_int)) .nil)) (q_one (q_call G (w_is_term F) F.d_is_term tk_fn (.cons (t_ix G F.gt (q_var 0) (q_int)) .nil))))) (den_sNil))
theorem w_item_in (F : Wd P w mg base T co Pt cv) : FnG P w mg base T 6 8 g_item_in := F.d_item_in.fn (n := 5) sc_item_in F.gdk fun A outer s H E G =>
  den_sSeq (den_if ((denW_and (q_cmpT (op_oEq G) (q_blt (cal_len G) F.z_len (.cons (q_var 0) .nil)) (q_int)) (denW_one_and (q_cmpT (t_in G F.gt) (t_ix G F.gt (q_var 0) (q_int)) (q_con F.c_FACTS_reader)))).pt) (den_sSeq (q_asg (q_nm 1 (G).nd) (q_tup (.cons (t_ix G F.gt (q_con F.c_FACTS_reader) (t_ix G F.gt (q_var 0) (q_int))) (.cons (t_ix G F.gt (q_var 0) (q_int)) (.cons (t_ix G F.gt (q_var 0) (q_int)) .nil))))) (den_sSeq (den_ret (den_ite (q_tru G (q_call G (w_is_fact F) F.d_is_fact tk_fn (.cons (q_var 1) .nil))) (q_var 1) (q_non))) (den_sNil))) (den_sNil)) (den_sSeq (q_asg (q_nm 2 (G).nd) (q_tup (.cons (t_ix G F.gt (q_var 0) (q_int)) (.cons (q_bltT (cal_tuple G) F.z_tuple (.cons (den_slc G (q_var 0) (den_poS (q_int)) den_poN) .nil)) .nil)))) (den_sSeq (den_ret (den_ite (q_tru G (q_call G (w_is_thing F) F.d_is_thing tk_fn (.cons (q_var 2) .nil))) (q_var 2) (q_non))) (den_sNil)))
theorem w_read_item (F : Wd P w mg base T co Pt cv) : FnG P w mg base T 7 9 g_read_item := F.d_read_item.fn (n := 6) sc_read_item F.gdk fun A outer s H E G =>
  den_sSeq (den_if (denT_not (q_tru G (q_isi G (q_var 0) F.z_isinstance F.z_str))) (den_sSeq (q_raise G tk_fn F.r_NoText (.cons (q_non) .nil)) (den_sNil)) (den_sNil)) (den_sSeq (q_asg (q_nm 1 (G).nd) (q_call G (w_item_in F) F.d_item_in tk_fn (.cons (q_mth PySem.F.plainAttrs_str PySem.F.slot_str_split PySem.F.type_str_split (mt_oSplit G) (q_var 0) (.cons (q_str) .nil)) .nil))) (den_sSeq (den_if (q_cmpT (op_oIs G) (q_var 1) (q_non)) (den_sSeq (q_raise G tk_fn F.r_NoText (.cons (q_int) .nil)) (den_sNil)) (den_sNil)) (den_sSeq (den_ret (q_var 1)) (den_sNil))))
theorem w_show_item (F : Wd P w mg base T co Pt cv) : FnG P w mg base T 1 10 g_show_item := F.d_show_item.fn (n := 0) sc_show_item F.gdk fun A outer s H E G =>
  den_sSeq (den_if (q_cmpT (op_oEq G) (q_blt (cal_len G) F.z_len (.cons (q_var 0) .nil)) (q_int)) (den_sSeq (q_asg (q_tp G (.cons 1 (.cons 2 (.nil)))) (q_var 0)) (den_sSeq (den_ret (q_mth PySem.F.plainAttrs_str PySem.F.slot_str_join PySem.F.type_str_join (mt_oJoin G) (q_str) (.cons (q_bin (op_oAdd G) (q_lst (.cons (q_var 1) .nil)) (q_bltT (cal_list G) F.z_list (.cons (q_var 2) .nil))) .nil))) (den_sNil))) (den_sNil)) (den_sSeq (q_asg (q_tp G (.cons 3 (.cons 4 (.cons 5 (.nil))))) (q_var 0)) (den_sSeq (den_ret (den_joined (PJs.cons (den_fmt (q_var 4)) (PJs.cons (q_str) (PJs.cons (den_fmt (t_ix G F.gt (q_con F.c_SIGNS) (q_var 3))) (PJs.cons (q_str) (PJs.cons (den_fmt (q_var 5)) (PJs.nil)))))))) (den_sNil)))
theorem w__law_pen (F : Wd P w mg base T co Pt cv) : FnG P w mg base T 1 11 g__law_pen := F.d__law_pen.fn (n := 0) sc__law_pen F.gdk fun A outer s H E G =>
  den_sSeq (den_ret (den_disp G (PDs.cons pe_str (q_bltT (cal_list G) F.z_list (.cons (den_slc G (q_var 0) den_poN (den_poS (q_int))) .nil)) (PDs.cons pe_str (q_int) (PDs.cons pe_str (q_int) (PDs.nil)))) (by decide) (by simp) (by decide))) (den_sNil)
theorem w__law_draw (F : Wd P w mg base T co Pt cv) : FnG P w mg base T 1 12 g__law_draw := F.d__law_draw.fn (n := 0) sc__law_draw F.gdk fun A outer s H E G =>
  den_sSeq (den_if (q_cmpT (op_oGt G) (t_ix G F.gt (q_var 0) (q_str)) (q_int)) (den_sSeq (q_asg (q_nm 2 (G).nd) (q_bin (op_oMod G) (t_ix G F.gt (q_var 0) (q_str)) (q_var 1))) (den_sSeq (q_put G (q_bin (op_oFdiv G) (t_ix G F.gt (q_var 0) (q_str)) (q_var 1)) (q_var 0) (q_str)) (den_sSeq (den_ret (q_var 2)) (den_sNil)))) (den_sNil)) (den_sSeq (q_asg (q_nm 3 (G).nd) (t_ix G F.gt (q_var 0) (q_str))) (den_sSeq (q_put G (q_bin (op_oAdd G) (q_var 3) (q_int)) (q_var 0) (q_str)) (den_sSeq (q_asg (q_nm 4 (G).nd) (q_bin (op_oAdd G) (q_bin (op_oMul G) (q_int) (q_var 3)) (q_int))) (den_sSeq (den_if (q_cmpT (op_oNe G) (t_ix G F.gt (q_var 0) (q_str)) (q_lst (.nil))) (den_sSeq (q_asg (q_nm 4 (G).nd) (t_ix G F.gt (t_ix G F.gt (q_var 0) (q_str)) (q_bin (op_oMod G) (q_var 3) (q_blt (cal_len G) F.z_len (.cons (t_ix G F.gt (q_var 0) (q_str)) .nil))))) (den_sNil)) (den_sNil)) (den_sSeq (den_if ((denW_and (q_cmpT (op_oLt G) (q_var 3) (q_blt (cal_len G) F.z_len (.cons (t_ix G F.gt (q_var 0) (q_str)) .nil))) (denW_one_and (q_cmpT (op_oGe G) (q_blt (cal_abs G) F.z_abs (.cons (q_var 4) .nil)) (q_bin (op_oPow G) (q_int) (q_int))))).pt) (den_sSeq (q_asg (q_nm 5 (G).nd) (q_bin (op_oAdd G) (q_bin (op_oMul G) (q_int) (q_blt (cal_abs G) F.z_abs (.cons (q_var 4) .nil))) (q_bltT (cal_int G) F.z_int (.cons (q_cmp (op_oLt G) (q_var 4) (q_int)) .nil)))) (den_sSeq (q_put G (q_bin (op_oFdiv G) (q_var 5) (q_var 1)) (q_var 0) (q_str)) (den_sSeq (den_ret (q_bin (op_oMod G) (q_var 5) (q_var 1))) (den_sNil)))) (den_sNil)) (den_sSeq (q_asg (q_nm 6 (G).nd) (q_bin (op_oMod G) (q_bin (op_oPow G) (q_bin (op_oAdd G) (q_bin (op_oAdd G) (q_bin (op_oMod G) (q_var 4) (q_int)) (q_bin (op_oMul G) (q_int) (q_var 3))) (q_int)) (q_int)) (q_int))) (den_sSeq (q_asg (q_nm 7 (G).nd) (q_bin (op_oMod G) (q_bin (op_oPow G) (q_bin (op_oAdd G) (q_bin (op_oMul G) (q_var 6) (q_bin (op_oAdd G) (q_var 3) (q_int))) (q_bin (op_oMul G) (q_bin (op_oMul G) (q_int) (q_var 3)) (q_var 3))) (q_int)) (q_int))) (den_sSeq (den_ret (q_bin (op_oMod G) (q_bin (op_oFdiv G) (q_var 7) (q_int)) (q_var 1))) (den_sNil)))))))))
theorem w__law_word (F : Wd P w mg base T co Pt cv) : FnG P w mg base T 2 13 g__law_word := F.d__law_word.fn (n := 1) sc__law_word F.gdk fun A outer s H E G =>
  den_sSeq (q_asg (q_nm 1 (G).nd) (q_str)) (den_sSeq (q_asg (q_nm 2 (G).nd) (t_ix G F.gt (q_lst (.cons (q_int) (.cons (q_int) (.cons (q_bin (op_oAdd G) (q_int) (q_call G (w__law_draw F) F.d__law_draw tk_fn (.cons (q_var 0) (.cons (q_int) .nil)))) .nil)))) (q_call G (w__law_draw F) F.d__law_draw tk_fn (.cons (q_var 0) (.cons (q_int) .nil))))) (den_sSeq (den_ret (q_mth PySem.F.plainAttrs_str PySem.F.slot_str_join PySem.F.type_str_join (mt_oJoin G) (q_str) (.cons (q_lc [(("_law_k" : Str), 3)] G (q_rng1 F.z_range (.cons (q_var 2) .nil)) (fun s1 H1 C1 cl1 fp1 => (q_nm 3 (((G).blk s1 H1 _ _ fp1)).nd)) (fun s1 H1 C1 cl1 fp1 => pts_nil) t_yes (fun s1 H1 C1 cl1 fp1 => t_ix ((G).blk s1 H1 _ _ fp1) F.gt (q_var 1) (q_call ((G).blk s1 H1 _ _ fp1) (w__law_draw F) F.d__law_draw tk_blk (.cons (q_var 0) (.cons (q_int) .nil))))) .nil))) (den_sNil)))
theorem w__law_figures (F : Wd P w mg base T co Pt cv) : FnG P w mg base T 1 14 g__law_figures := F.d__law_figures.fn (n := 0) sc__law_figures F.gdk fun A outer s H E G =>
  den_sSeq (den_if ((denW_or (q_cmpT (op_oEq G) (q_var 0) (q_str)) (denW_or (q_cmpT (op_oGt G) (q_blt (cal_len G) F.z_len (.cons (q_var 0) .nil)) (q_var 1)) (denW_one_or (q_cmpT (op_oNe G) (q_lc [(("_law_sign" : Str), 2)] G (den_src G (q_var 0)) (fun s1 H1 C1 cl1 fp1 => (q_nm 2 (((G).blk s1 H1 _ _ fp1)).nd)) (fun s1 H1 C1 cl1 fp1 => pts_one (q_cmpT (t_notIn ((G).blk s1 H1 _ _ fp1) F.gt) (q_var 2) (q_str))) (fun _ _ _ h => h) (fun s1 H1 C1 cl1 fp1 => q_var 2)) (q_lst (.nil)))))).pt) (den_sSeq (den_ret (q_bl)) (den_sNil)) (den_sNil)) (den_sSeq (den_ret (den_orV G (q_cmp (op_oEq G) (q_var 0) (q_str)) (q_one (q_cmp (op_oNe G) (t_ix G F.gt (q_var 0) (q_int)) (q_str))))) (den_sNil))
theorem w__law_is_value (F : Wd P w mg base T co Pt cv) : FnG P w mg base T 2 15 g__law_is_value := F.d__law_is_value.fn (n := 1) sc__law_is_value F.gdk fun A outer s H E G =>
  den_sSeq (den_ret (den_andV G (q_isi G (q_var 0) F.z_isinstance F.z_str) (q_one (q_call G (w__law_figures F) F.d__law_figures tk_fn (.cons (q_var 0) (.cons (q_int) .nil)))))) (den_sNil)
theorem w__law_is_plain (F : Wd P w mg base T co Pt cv) : FnG P w mg base T 1 16 g__law_is_plain := F.d__law_is_plain.fn (n := 0) sc__law_is_plain F.gdk fun A outer s H E G =>
  den_sSeq (den_if ((denW_or (denT_not (q_tru G (q_isi G (q_var 0) F.z_isinstance F.z_str))) (denW_or (q_cmpT (op_oEq G) (q_var 0) (q_str)) (denW_one_or (q_cmpT (op_oGt G) (q_blt (cal_len G) F.z_len (.cons (q_var 0) .nil)) (q_int))))).pt) (den_sSeq (den_ret (q_bl)) (den_sNil)) (den_sNil)) (den_sSeq (den_ret (q_cmp (op_oEq G) (q_lc [(("_law_sign" : Str), 1)] G (den_src G (q_var 0)) (fun s1 H1 C1 cl1 fp1 => (q_nm 1 (((G).blk s1 H1 _ _ fp1)).nd)) (fun s1 H1 C1 cl1 fp1 => pts_one (q_cmpT (t_notIn ((G).blk s1 H1 _ _ fp1) F.gt) (q_var 1) (q_str))) (fun _ _ _ h => h) (fun s1 H1 C1 cl1 fp1 => q_var 1)) (q_lst (.nil)))) (den_sNil))
theorem w__law_is_new (F : Wd P w mg base T co Pt cv) : FnG P w mg base T 2 17 g__law_is_new := F.d__law_is_new.fn (n := 1) sc__law_is_new F.gdk fun A outer s H E G =>
  den_sSeq (den_ret (den_andV G (q_isi G (q_var 0) F.z_isinstance F.z_str) (den_andV G (q_cmp (op_oEq G) (den_slc G (q_var 0) den_poN (den_poS (q_int))) (q_str)) (den_andV G (q_call G (w__law_figures F) F.d__law_figures tk_fn (.cons (den_slc G (q_var 0) (den_poS (q_int)) den_poN) (.cons (q_int) .nil))) (q_one (q_cmp (op_oNe G) (den_slc G (q_var 0) (den_poS (q_int)) den_poN) (q_str))))))) (den_sNil)
theorem w__law_is_term (F : Wd P w mg base T co Pt cv) : FnG P w mg base T 3 18 g__law_is_term := F.d__law_is_term.fn (n := 2) sc__law_is_term F.gdk fun A outer s H E G =>
  den_sSeq (den_ret (den_orV G (q_call G (w__law_is_value F) F.d__law_is_value tk_fn (.cons (q_var 0) .nil)) (den_orV G (q_call G (w__law_is_plain F) F.d__law_is_plain tk_fn (.cons (q_var 0) .nil)) (q_one (q_call G (w__law_is_new F) F.d__law_is_new tk_fn (.cons (q_var 0) .nil)))))) (den_sNil)
theorem w__law_is_thing (F : Wd P w mg base T co Pt cv) : FnG P w mg base T 4 19 g__law_is_thing := F.d__law_is_thing.fn (n := 3) sc__law_is_thing F.gdk fun A outer s H E G =>
  den_sSeq (den_if ((denW_or (denT_not (q_tru G (q_isi G (q_var 0) F.z_isinstance F.z_tuple))) (denW_or (q_cmpT (op_oNe G) (q_blt (cal_len G) F.z_len (.cons (q_var 0) .nil)) (q_int)) (denW_one_or (denT_not (q_tru G (q_call G (w__law_is_plain F) F.d__law_is_plain tk_fn (.cons (t_ix G F.gt (q_var 0) (q_int)) .nil))))))).pt) (den_sSeq (den_ret (q_bl)) (den_sNil)) (den_sNil)) (den_sSeq (den_if ((denW_or (denT_not (q_tru G (q_isi G (t_ix G F.gt (q_var 0) (q_int)) F.z_isinstance F.z_tuple))) (denW_one_or (q_cmpT (op_oGt G) (q_blt (cal_len G) F.z_len (.cons (t_ix G F.gt (q_var 0) (q_int)) .nil)) (q_int)))).pt) (den_sSeq (den_ret (q_bl)) (den_sNil)) (den_sNil)) (den_sSeq (den_ret (q_cmp (op_oEq G) (q_lc [(("_law_term_here" : Str), 1)] G (den_src G (t_ix G F.gt (q_var 0) (q_int))) (fun s1 H1 C1 cl1 fp1 => (q_nm 1 (((G).blk s1 H1 _ _ fp1)).nd)) (fun s1 H1 C1 cl1 fp1 => pts_one (denT_not (q_tru ((G).blk s1 H1 _ _ fp1) (q_call ((G).blk s1 H1 _ _ fp1) (w__law_is_term F) F.d__law_is_term tk_blk (.cons (q_var 1) .nil))))) (fun _ _ _ h => h) (fun s1 H1 C1 cl1 fp1 => q_var 1)) (q_lst (.nil)))) (den_sNil)))
theorem w__law_is_fact (F : Wd P w mg base T co Pt cv) : FnG P w mg base T 4 20 g__law_is_fact := F.d__law_is_fact.fn (n := 3) sc__law_is_fact F.gdk fun A outer s H E G =>
  den_sSeq (den_if ((denW_or (denT_not (q_tru G (q_isi G (q_var 0) F.z_isinstance F.z_tuple))) (denW_one_or (q_cmpT (op_oNe G) (q_blt (cal_len G) F.z_len (.cons (q_var 0) .nil)) (q_int)))).pt) (den_sSeq (den_ret (q_bl)) (den_sNil)) (den_sNil)) (den_sSeq (den_if ((denW_or (denT_not (q_tru G (q_isi G (t_ix G F.gt (q_var 0) (q_int)) F.z_isinstance F.z_str))) (denW_one_or (q_cmpT (t_notIn G F.gt) (t_ix G F.gt (q_var 0) (q_int)) (q_tup (.cons (q_str) (.cons (q_str) .nil)))))).pt) (den_sSeq (den_ret (q_bl)) (den_sNil)) (den_sNil)) (den_sSeq (den_ret (den_andV G (q_call G (w__law_is_term F) F.d__law_is_term tk_fn (.cons (t_ix G F.gt (q_var 0) (q_int)) .nil)) (q_one (q_call G (w__law_is_term F) F.d__law_is_term tk_fn (.cons (t_ix G F.gt (q_var 0) (q_int)) .nil))))) (den_sNil)))
theorem w__law_is_item (F : Wd P w mg base T co Pt cv) : FnG P w mg base T 5 21 g__law_is_item := F.d__law_is_item.fn (n := 4) sc__law_is_item F.gdk fun A outer s H E G =>
  den_sSeq (den_ret (den_orV G (q_call G (w__law_is_thing F) F.d__law_is_thing tk_fn (.cons (q_var 0) .nil)) (q_one (q_call G (w__law_is_fact F) F.d__law_is_fact tk_fn (.cons (q_var 0) .nil))))) (den_sNil)
theorem w__law_item_in (F : Wd P w mg base T co Pt cv) : FnG P w mg base T 6 22 g__law_item_in := F.d__law_item_in.fn (n := 5) sc__law_item_in F.gdk fun A outer s H E G =>
  den_sSeq (den_if (q_cmpT (op_oEq G) (q_var 0) (q_lst (.nil))) (den_sSeq (den_ret (q_lst (.nil))) (den_sNil)) (den_sNil)) (den_sSeq (q_asg (q_nm 1 (G).nd) (q_tup (.cons (t_ix G F.gt (q_var 0) (q_int)) (.cons (q_bltT (cal_tuple G) F.z_tuple (.cons (den_slc G (q_var 0) (den_poS (q_int)) den_poN) .nil)) .nil)))) (den_sSeq (den_if ((denW_and (q_cmpT (op_oEq G) (q_blt (cal_len G) F.z_len (.cons (q_var 0) .nil)) (q_int)) (denW_one_and (q_cmpT (t_in G F.gt) (t_ix G F.gt (q_var 0) (q_int)) (q_tup (.cons (q_str) (.cons (q_str) .nil)))))).pt) (den_sSeq (q_asg (q_nm 1 (G).nd) (q_tup (.cons (t_ix G F.gt (q_lst (.cons (q_str) (.cons (q_str) .nil))) (q_bltT (cal_int G) F.z_int (.cons (q_cmp (op_oEq G) (t_ix G F.gt (q_var 0) (q_int)) (q_str)) .nil))) (.cons (t_ix G F.gt (q_var 0) (q_int)) (.cons (t_ix G F.gt (q_var 0) (q_int)) .nil))))) (den_sNil)) (den_sNil)) (den_sSeq (den_ret (q_lc [(("_law_one" : Str), 2)] G (den_src G (q_lst (.cons (q_var 1) .nil))) (fun s1 H1 C1 cl1 fp1 => (q_nm 2 (((G).blk s1 H1 _ _ fp1)).nd)) (fun s1 H1 C1 cl1 fp1 => pts_one (q_tru ((G).blk s1 H1 _ _ fp1) (q_call ((G).blk s1 H1 _ _ fp1) (w__law_is_item F) F.d__law_is_item tk_blk (.cons (q_var 2) .nil)))) (fun _ _ _ h => h) (fun s1 H1 C1 cl1 fp1 => q_var 2))) (den_sNil))))
theorem w__law_item_text (F : Wd P w mg base T co Pt cv) : FnG P w mg base T 1 23 g__law_item_text := F.d__law_item_text.fn (n := 0) sc__law_item_text F.gdk fun A outer s H E G =>
  den_sSeq (den_if (q_cmpT (op_oEq G) (q_blt (cal_len G) F.z_len (.cons (q_var 0) .nil)) (q_int)) (den_sSeq (den_ret (q_bin (op_oAdd G) (q_bin (op_oAdd G) (t_ix G F.gt (q_var 0) (q_int)) (t_ix G F.gt (q_lst (.cons (q_str) (.cons (q_str) .nil))) (q_bltT (cal_int G) F.z_int (.cons (q_cmp (op_oEq G) (t_ix G F.gt (q_var 0) (q_int)) (q_str)) .nil)))) (t_ix G F.gt (q_var 0) (q_int)))) (den_sNil)) (den_sNil)) (den_sSeq (q_asg (q_nm 1 (G).nd) (t_ix G F.gt (q_var 0) (q_int))) (den_sSeq (q_for G hp_fn (den_src G (t_ix G F.gt (q_var 0) (q_int))) (q_nm 2 (G).nd) (den_sSeq (q_asg (q_nm 1 (G).nd) (q_bin (op_oAdd G) (q_bin (op_oAdd G) (q_var 1) (q_str)) (q_var 2))) (den_sNil))) (den_sSeq (den_ret (q_var 1)) (den_sNil))))
theorem wb__law_refusal (F : Wd P w mg base T co Pt cv) {fact : EvE} {A : Around} {outer : List Env} {s : Shared} {H : Hp} {E : XK} {n : Nat} (G : Gd (cxOf (L2.CX P w) P w T.K mg base ["_law_ask", "_law_caught", "_law_found", "e"] "_law_refusal" (defScope s__law_refusal) (T.fa 24) (cv 24) A outer s H E) T n)
    (act : ∀ (W : WX) (pn : List (Addr × Obj)) (xe : Value → Shared → Prop) (p1 p2 : Pos), Takes ((cxOf (L2.CX P w) P w T.K mg base ["_law_ask", "_law_caught", "_law_found", "e"] "_law_refusal" (defScope s__law_refusal) (T.fa 24) (cv 24) A outer s H E).tr pn xe) W → PE ((cxOf (L2.CX P w) P w T.K mg base ["_law_ask", "_law_caught", "_law_found", "e"] "_law_refusal" (defScope s__law_refusal) (T.fa 24) (cv 24) A outer s H E).tr pn xe) (.Call (.Name "_law_ask" p1) [] [] p2) (tV T W fact)) :
    PSs (cxOf (L2.CX P w) P w T.K mg base ["_law_ask", "_law_caught", "_law_found", "e"] "_law_refusal" (defScope s__law_refusal) (T.fa 24) (cv 24) A outer s H E) (defBody s__law_refusal) (tS T (fun c d _ H => E c d H) (b__law_refusal fact)) :=
  den_sSeq (q_asg (q_nm 1 (G).nd) (q_non)) (den_sSeq (q_asg (q_nm 2 (G).nd) (q_non)) (den_sSeq (q_tryKeep 3 1 G tk_fn F.g_HeadError F.m_HeadError (fun W1 pn1 xe1 tk1 hp1 => den_sSeq (q_asg (q_nm 2 (((G).tr pn1 xe1)).nd) (act _ _ _ _ _ tk1)) (den_sNil))) (den_sSeq (den_if (q_cmpT (op_oIs G) (q_var 1) (q_non)) (den_sSeq (den_ret (q_lst (.cons (q_var 2) .nil))) (den_sNil)) (den_sNil)) (den_sSeq (den_if (q_tru G (q_isXT G (q_var 1) F.z_isinstance (.cons F.g_NoChoice (.cons F.g_NoItems (.cons F.g_NoLevels (.cons F.g_NoLine (.cons F.g_NoRules (.cons F.g_NoSaved (.cons F.g_Over (.cons F.g_TooLong (.cons F.g_Unfit (.nil)))))))))) F.i_0)) (den_sSeq (den_ret (q_tup (.nil))) (den_sNil)) (den_sNil)) (den_sSeq (den_if ((denW_or (q_tru G (q_isXT G (q_var 1) F.z_isinstance (.cons F.g_NoBack (.cons F.g_NoHand (.nil))) F.i_1)) (denW_one_or (denT_not (q_tru G (q_isXB G (q_var 1) F.z_isinstance F.z_ValueError F.i_2))))).pt) (den_sSeq (den_ret (q_tup (.nil))) (den_sNil)) (den_sNil)) (den_sSeq (den_if ((denW_or (denT_not (q_tru G (q_isXO G (q_var 1) F.z_isinstance F.g_NoText F.i_3))) (denW_one_or (q_tru G (q_isi G (q_xf G (q_var 1) F.f_line) F.z_isinstance F.z_bool)))).pt) (den_sSeq (den_ret (q_tup (.nil))) (den_sNil)) (den_sNil)) (den_sSeq (den_ret (q_tup (.cons (q_xf G (q_var 1) F.f_line) .nil))) (den_sNil))))))))
theorem w__law_sign_bent (F : Wd P w mg base T co Pt cv) : FnG P w mg base T 2 25 g__law_sign_bent := F.d__law_sign_bent.fn (n := 1) sc__law_sign_bent F.gdk fun A outer s H E G =>
  den_sSeq (q_asg (q_nm 2 (G).nd) (q_str)) (den_sSeq (q_asg (q_nm 3 (G).nd) (t_ix G F.gt (q_var 2) (q_call G (w__law_draw F) F.d__law_draw tk_fn (.cons (q_var 0) (.cons (q_blt (cal_len G) F.z_len (.cons (q_var 2) .nil)) .nil))))) (den_sSeq (q_asg (q_nm 4 (G).nd) (q_call G (w__law_draw F) F.d__law_draw tk_fn (.cons (q_var 0) (.cons (q_bin (op_oAdd G) (q_blt (cal_len G) F.z_len (.cons (q_var 1) .nil)) (q_int)) .nil)))) (den_sSeq (q_asg (q_nm 5 (G).nd) (q_call G (w__law_draw F) F.d__law_draw tk_fn (.cons (q_var 0) (.cons (q_int) .nil)))) (den_sSeq (den_ret (q_bin (op_oAdd G) (q_bin (op_oAdd G) (den_slc G (q_var 1) den_poN (den_poS (q_var 4))) (t_ix G F.gt (q_lst (.cons (q_var 3) (.cons (q_var 3) (.cons (q_str) (.cons (q_bin (op_oMul G) (den_slc G (q_var 1) (den_poS (q_var 4)) (den_poS (q_bin (op_oAdd G) (q_var 4) (q_int)))) (q_int)) .nil))))) (q_var 5))) (den_slc G (q_var 1) (den_poS (q_bin (op_oAdd G) (q_var 4) (q_bltT (cal_int G) F.z_int (.cons (q_cmp (op_oGt G) (q_var 5) (q_int)) .nil)))) den_poN))) (den_sNil)))))
theorem w__law_word_bent (F : Wd P w mg base T co Pt cv) : FnG P w mg base T 2 26 g__law_word_bent := F.d__law_word_bent.fnT (n := 1) sc__law_word_bent F.gdk (by decide) (by rfl) fun A outer s H E G =>
  den_sSeqT (q_asgT (q_nm 3 (G).nd) (q_mthT PySem.F.plainAttrs_str PySem.F.slot_str_split PySem.F.type_str_split (mt_oSplit G) (q_repl (q_var 1)) (.cons (q_str) .nil))) (den_sSeqT (PST.of (q_asg (q_nm 4 (G).nd) (q_call G (w__law_draw F) F.d__law_draw tk_fn (.cons (q_var 0) (.cons (q_blt (cal_len G) F.z_len (.cons (q_var 3) .nil)) .nil))))) (den_sSeqT (PST.of (q_asg (q_nm 5 (G).nd) (t_ix G F.gt (q_bin (op_oAdd G) (q_var 2) (q_lst (.cons (t_ix G F.gt (q_var 3) (q_bin (op_oSub G) (q_var 4) (q_int))) .nil))) (q_call G (w__law_draw F) F.d__law_draw tk_fn (.cons (q_var 0) (.cons (q_bin (op_oAdd G) (q_blt (cal_len G) F.z_len (.cons (q_var 2) .nil)) (q_int)) .nil)))))) (den_sSeqT (PST.of (q_asg (q_nm 6 (G).nd) (q_lst (.cons (q_bin (op_oAdd G) (den_slc G (q_var 3) den_poN (den_poS (q_var 4))) (den_slc G (q_var 3) (den_poS (q_bin (op_oAdd G) (q_var 4) (q_int))) den_poN)) (.cons (q_bin (op_oAdd G) (den_slc G (q_var 3) den_poN (den_poS (q_bin (op_oAdd G) (q_var 4) (q_int)))) (den_slc G (q_var 3) (den_poS (q_var 4)) den_poN)) (.cons (q_bin (op_oAdd G) (q_bin (op_oAdd G) (den_slc G (q_var 3) den_poN (den_poS (q_var 4))) (q_lst (.cons (q_var 5) .nil))) (den_slc G (q_var 3) (den_poS (q_bin (op_oAdd G) (q_var 4) (q_int))) den_poN)) .nil)))))) (den_sSeqT (PST.of (q_expr (q_mth PySem.F.plainAttrs_list PySem.F.slot_list_append PySem.F.type_list_append (mt_oAppend G) (q_var 6) (.cons (q_bin (op_oAdd G) (q_bin (op_oAdd G) (den_slc G (q_var 3) den_poN (den_poS (q_var 4))) (q_lst (.cons (q_var 5) .nil))) (den_slc G (q_var 3) (den_poS (q_var 4)) den_poN)) .nil)))) (den_sSeqT (den_retT (q_repl (q_mth PySem.F.plainAttrs_str PySem.F.slot_str_join PySem.F.type_str_join (mt_oJoin G) (q_str) (.cons (t_ix G F.gt (q_var 6) (q_call G (w__law_draw F) F.d__law_draw tk_fn (.cons (q_var 0) (.cons (q_int) .nil)))) .nil)))) (den_sNilT))))))
theorem w__law_term (F : Wd P w mg base T co Pt cv) : FnG P w mg base T 2 27 g__law_term := F.d__law_term.fn (n := 1) sc__law_term F.gdk fun A outer s H E G =>
  den_sSeq (q_asg (q_nm 2 (G).nd) (q_call G (w__law_draw F) F.d__law_draw tk_fn (.cons (q_var 0) (.cons (q_bin (op_oPow G) (q_int) (q_int)) .nil)))) (den_sSeq (q_asg (q_nm 3 (G).nd) (q_call G (w__law_draw F) F.d__law_draw tk_fn (.cons (q_var 0) (.cons (q_int) .nil)))) (den_sSeq (den_if (q_cmpT (op_oLt G) (q_var 3) (q_int)) (den_sSeq (den_ret (t_ix G F.gt (q_var 1) (q_call G (w__law_draw F) F.d__law_draw tk_fn (.cons (q_var 0) (.cons (q_blt (cal_len G) F.z_len (.cons (q_var 1) .nil)) .nil))))) (den_sNil)) (den_sNil)) (den_sSeq (den_ret (t_ix G F.gt (q_lst (.cons (q_bin (op_oAdd G) (q_bin (op_oAdd G) (q_str) (q_bltT (cal_str G) F.z_str (.cons (q_bin (op_oAdd G) (q_int) (q_var 2)) .nil))) (q_bin (op_oMul G) (q_str) (q_bin (op_oMul G) (q_int) (q_bltT (cal_int G) F.z_int (.cons (q_cmp (op_oEq G) (q_bin (op_oMod G) (q_var 2) (q_int)) (q_int)) .nil))))) (.cons (q_bltT (cal_str G) F.z_str (.cons (q_var 2) .nil)) (.cons (q_str) .nil)))) (q_bin (op_oSub G) (q_var 3) (q_int)))) (den_sNil))))
theorem w__law_made_item (F : Wd P w mg base T co Pt cv) : FnG P w mg base T 3 28 g__law_made_item := F.d__law_made_item.fn (n := 2) sc__law_made_item F.gdk fun A outer s H E G =>
  den_sSeq (den_if (q_cmpT (op_oEq G) (q_call G (w__law_draw F) F.d__law_draw tk_fn (.cons (q_var 0) (.cons (q_int) .nil))) (q_int)) (den_sSeq (den_ret (q_tup (.cons (t_ix G F.gt (q_lst (.cons (q_str) (.cons (q_str) .nil))) (q_call G (w__law_draw F) F.d__law_draw tk_fn (.cons (q_var 0) (.cons (q_int) .nil)))) (.cons (q_call G (w__law_term F) F.d__law_term tk_fn (.cons (q_var 0) (.cons (q_var 1) .nil))) (.cons (q_call G (w__law_term F) F.d__law_term tk_fn (.cons (q_var 0) (.cons (q_var 1) .nil))) .nil))))) (den_sNil)) (den_sNil)) (den_sSeq (den_ret (q_tup (.cons (t_ix G F.gt (q_var 1) (q_call G (w__law_draw F) F.d__law_draw tk_fn (.cons (q_var 0) (.cons (q_blt (cal_len G) F.z_len (.cons (q_var 1) .nil)) .nil)))) (.cons (q_bltT (cal_tuple G) F.z_tuple (.cons (q_lc [(("_law_k" : Str), 2)] G (q_rng1 F.z_range (.cons (q_call G (w__law_draw F) F.d__law_draw tk_fn (.cons (q_var 0) (.cons (q_int) .nil))) .nil)) (fun s1 H1 C1 cl1 fp1 => (q_nm 2 (((G).blk s1 H1 _ _ fp1)).nd)) (fun s1 H1 C1 cl1 fp1 => pts_nil) t_yes (fun s1 H1 C1 cl1 fp1 => q_call ((G).blk s1 H1 _ _ fp1) (w__law_term F) F.d__law_term tk_blk (.cons (q_var 0) (.cons (q_var 1) .nil)))) .nil)) .nil)))) (den_sNil))
theorem w__law_text_right (F : Wd P w mg base T co Pt cv) : FnG P w mg base T 10 29 g__law_text_right := F.d__law_text_right.fn (n := 9) sc__law_text_right F.gdk fun A outer s H E G =>
  den_sSeq (q_asg (q_nm 1 (G).nd) (q_call G (w__law_item_in F) F.d__law_item_in tk_fn (.cons (q_mth PySem.F.plainAttrs_str PySem.F.slot_str_split PySem.F.type_str_split (mt_oSplit G) (q_var 0) (.cons (q_str) .nil)) .nil))) (den_sSeq (q_asg (q_nm 2 (G).nd) (q_lamcall [0] (l := 7) G tk_fn F.d__law_refusal F.gdk sc__law_refusal (fun fact A outer s H E G9 act => wb__law_refusal F G9 act) F.tb__law_text_right F.tl__law_text_right F.tu__law_text_right (by decide) (fun A outer s H E f9 c9 G9 => q_call G9 (w_read_item F) F.d_read_item tk_lam (.cons (q_var 0) .nil)) (fun f9 c9 us ds M => gi__law_text_right f9 c9 us ds M) (fun _ _ _ _ _ => rfl))) (den_sSeq (den_if (q_cmpT (op_oEq G) (q_var 1) (q_lst (.nil))) (den_sSeq (den_ret (q_cmp (op_oEq G) (q_var 2) (q_tup (.cons (q_int) .nil)))) (den_sNil)) (den_sNil)) (den_sSeq (den_ret (den_andV G (q_cmp (op_oEq G) (q_blt (cal_repr G) F.z_repr (.cons (q_var 2) .nil)) (q_blt (cal_repr G) F.z_repr (.cons (q_var 1) .nil))) (q_one (q_cmp (op_oEq G) (q_call G (w_show_item F) F.d_show_item tk_fn (.cons (t_ix G F.gt (q_var 1) (q_int)) .nil)) (q_var 0))))) (den_sNil))))
theorem w_law (F : Wd P w mg base T co Pt cv) : FnG P w mg base T 11 30 g_law := F.d_law.fn (n := 10) sc_law F.gdk fun A outer s H E G =>
  den_sSeq (q_asg (q_nm 1 (G).nd) (q_call G (w__law_pen F) F.d__law_pen tk_fn (.cons (q_var 0) .nil))) (den_sSeq (q_asg (q_nm 2 (G).nd) (q_lst (.cons (q_call G (w__law_word F) F.d__law_word tk_fn (.cons (q_var 1) .nil)) (.cons (q_call G (w__law_word F) F.d__law_word tk_fn (.cons (q_var 1) .nil)) (.cons (q_str) (.cons (q_str) .nil)))))) (den_sSeq (q_asg (q_nm 3 (G).nd) (q_lst (.cons (q_str) (.cons (q_str) (.cons (q_str) (.cons (q_str) (.cons (q_str) (.cons (q_str) (.cons (q_str) (.cons (q_str) (.cons (q_str) (.cons (q_str) (.cons (q_str) (.cons (t_ix G F.gt (q_var 2) (q_int)) .nil)))))))))))))) (den_sSeq (q_asg (q_nm 4 (G).nd) (q_lst (.cons (q_str) (.cons (q_str) (.cons (q_str) (.cons (q_str) (.cons (q_str) (.cons (q_str) (.cons (q_str) (.cons (q_str) (.cons (q_str) (.cons (q_str) (.cons (q_str) (.cons (q_str) (.cons (q_str) .nil))))))))))))))) (den_sSeq (q_for G hp_fn (q_rng1 F.z_range (.cons (q_int) .nil)) (q_nm 5 (G).nd) (den_sSeq (q_asg (q_nm 6 (G).nd) (q_call G (w__law_made_item F) F.d__law_made_item tk_fn (.cons (q_var 1) (.cons (q_var 2) .nil)))) (den_sSeq (q_asg (q_nm 7 (G).nd) (q_blt (cal_repr G) F.z_repr (.cons (q_var 6) .nil))) (den_sSeq (q_asg (q_nm 8 (G).nd) (q_call G (w_show_item F) F.d_show_item tk_fn (.cons (q_var 6) .nil))) (den_sSeq (den_if ((denW_or (denT_not (q_tru G (q_isi G (q_var 8) F.z_isinstance F.z_str))) (denW_one_or (q_cmpT (op_oNe G) (q_var 8) (q_call G (w__law_item_text F) F.d__law_item_text tk_fn (.cons (q_var 6) .nil))))).pt) (den_sSeq (den_ret (q_bl)) (den_sNil)) (den_sNil)) (den_sSeq (den_if ((denW_or (q_cmpT (op_oNe G) (q_blt (cal_repr G) F.z_repr (.cons (q_call G (w_read_item F) F.d_read_item tk_fn (.cons (q_var 8) .nil)) .nil)) (q_var 7)) (denW_one_or (q_cmpT (op_oNe G) (q_blt (cal_repr G) F.z_repr (.cons (q_var 6) .nil)) (q_var 7)))).pt) (den_sSeq (den_ret (q_bl)) (den_sNil)) (den_sNil)) (den_sSeq (q_asg (q_nm 4 (G).nd) (q_bin (op_oAdd G) (q_var 4) (q_lst (.cons (q_call G (w__law_sign_bent F) F.d__law_sign_bent tk_fn (.cons (q_var 1) (.cons (q_var 8) .nil))) (.cons (q_call G (w__law_sign_bent F) F.d__law_sign_bent tk_fn (.cons (q_var 1) (.cons (q_var 8) .nil))) (.cons (q_call G (w__law_word_bent F) F.d__law_word_bent tk_fn (.cons (q_var 1) (.cons (q_var 8) (.cons (q_var 3) .nil)))) .nil)))))) (den_sNil)))))))) (den_sSeq (den_if (q_cmpT (op_oNe G) (q_lc [(("_law_text" : Str), 8)] G (den_src G (q_var 4)) (fun s1 H1 C1 cl1 fp1 => (q_nm 8 (((G).blk s1 H1 _ _ fp1)).nd)) (fun s1 H1 C1 cl1 fp1 => pts_one (denT_not (q_tru ((G).blk s1 H1 _ _ fp1) (q_call ((G).blk s1 H1 _ _ fp1) (w__law_text_right F) F.d__law_text_right tk_blk (.cons (q_var 8) .nil))))) (fun _ _ _ h => h) (fun s1 H1 C1 cl1 fp1 => q_var 8)) (q_lst (.nil))) (den_sSeq (den_ret (q_bl)) (den_sNil)) (den_sNil)) (den_sSeq (q_for G hp_fn (den_src G (q_lst (.cons (q_non) (.cons (q_bl) (.cons (q_int) (.cons (q_int) (.cons (q_lst (.nil)) (.cons (q_lst (.cons (q_str) .nil)) (.cons (q_tup (.cons (q_str) (.cons (q_tup (.nil)) .nil))) (.cons (den_dnew G) (.cons (q_tup (.cons (q_str) (.cons (q_str) (.cons (q_str) .nil)))) .nil))))))))))) (q_nm 9 (G).nd) (den_sSeq (den_if (q_cmpT (op_oNe G) (q_lamcall [9] (l := 7) G tk_fn F.d__law_refusal F.gdk sc__law_refusal (fun fact A outer s H E G9 act => wb__law_refusal F G9 act) F.tb_law F.tl_law F.tu_law (by decide) (fun A outer s H E f9 c9 G9 => q_call G9 (w_read_item F) F.d_read_item tk_lam (.cons (q_var 9) .nil)) (fun f9 c9 us ds M => gi_law f9 c9 us ds M) (fun _ _ _ _ _ => rfl)) (q_tup (.cons (q_non) .nil))) (den_sSeq (den_ret (q_bl)) (den_sNil)) (den_sNil)) (den_sNil))) (den_sSeq (den_ret (q_bl)) (den_sNil))))))))
end
end K79
open PySem PySem.W PyProof.Rows in
set_option maxHeartbeats 0 in
open_top hd for PySem.Challenge.rw_wakingheads_k79_items_written_and_read
namespace K79
open PySem PySem.Spec L2 VI
def tabOf (K : PySem.W.Frag) (fds : Nat → FuncData) : Tab := ⟨K, fun k => ([214, 221, 226, 233, 240, 247, 252, 259, 267, 274, 282, 289, 296, 301, 306, 313, 318, 325, 332, 337, 344, 351, 356, 363, 370, 377, 384, 391, 396, 403, 408] : List Nat).getD k 0, fun k => ([24, 44, 63, 82, 94, 113, 125, 137, 149, 168, 180, 192, 205] : List Nat).getD k 0, fun k => ([260, 275] : List Nat).getD k 0, gt0, fds, fun k => ([["text", "most"], ["thing"], ["thing"], ["thing"], ["thing"], ["thing"], ["thing"], ["thing"], ["words"], ["text"], ["item"], ["_law_script"], ["_law_pen_here", "_law_many"], ["_law_pen_here"], ["_law_text", "_law_most"], ["_law_thing"], ["_law_thing"], ["_law_thing"], ["_law_thing"], ["_law_thing"], ["_law_thing"], ["_law_thing"], ["_law_words"], ["_law_item"], ["_law_ask"], ["_law_pen_here", "_law_text"], ["_law_pen_here", "_law_text", "_law_others"], ["_law_pen_here", "_law_words"], ["_law_pen_here", "_law_words"], ["_law_text"], ["_law_script"]] : List (List Str)).getD k [], fun _ => ("" : Str), [(398, (("_law_text_right" : Str) ++ (".<locals>." : Str) ++ ("<lambda>" : Str))), (405, (("law" : Str) ++ (".<locals>." : Str) ++ ("<lambda>" : Str)))]⟩
def ptOf : Nat → Addr := fun k => match k with
  | 29 => 398
  | 30 => 405
  | _ => 0
end K79
open PySem PySem.W PyProof.Rows
set_option maxHeartbeats 0 in
theorem K79.over (hlaw : ∀ ns : List Int, ns.length ≤ 63 → (∀ z ∈ ns, Builtin.Int.intBits z ≤ 1048576) → ∃ M, K79.g_law [.rl (ns.map VI.D.int)] [] = .ok (.bl true) M) : PySem.Challenge.rw_wakingheads_k79_items_written_and_read.Holds := by
  refine hd ?_
  refine VI.walk_vi (l := PySem.Challenge.rw_wakingheads_k79_items_written_and_read) (k := 11) (kl := 30) (x := "_law_script") (g := K79.g_law) rfl (by decide) rfl ⟨rfl, by decide, by decide⟩ (fun w h Y => PySem.W.km_in_of Y) ?F hlaw
  case F =>
  intro w mg fa h Y KX G hmg
  have T1 := PySem.W.km_tabs_of Y
  have hfa : mg "law" = some (.ref fa) := hmg
  clear Y hmg
  obtain ⟨f0, fd0, cd0, e0, r0⟩ : ∃ f fd cdv, f = 214 ∧ VI.RawF (hd.heap_39 w.params) "are_figures" K79.s_are_figures f fd cdv := by
    refine' VI.rawF' (f := 214) rfl ?a ?l ?c ?k
    (case a => k_is); (case l => k_is); (case c => k_is); (case k => k_is)
  subst e0
  obtain ⟨f1, fd1, cd1, e1, r1⟩ : ∃ f fd cdv, f = 221 ∧ VI.RawF (hd.heap_39 w.params) "is_value" K79.s_is_value f fd cdv := by
    refine' VI.rawF' (f := 221) rfl ?a ?l ?c ?k
    (case a => k_is); (case l => k_is); (case c => k_is); (case k => k_is)
  subst e1
  obtain ⟨f2, fd2, cd2, e2, r2⟩ : ∃ f fd cdv, f = 226 ∧ VI.RawF (hd.heap_39 w.params) "is_plain" K79.s_is_plain f fd cdv := by
    refine' VI.rawF' (f := 226) rfl ?a ?l ?c ?k
    (case a => k_is); (case l => k_is); (case c => k_is); (case k => k_is)
  subst e2
  obtain ⟨f3, fd3, cd3, e3, r3⟩ : ∃ f fd cdv, f = 233 ∧ VI.RawF (hd.heap_39 w.params) "is_new" K79.s_is_new f fd cdv := by
    refine' VI.rawF' (f := 233) rfl ?a ?l ?c ?k
    (case a => k_is); (case l => k_is); (case c => k_is); (case k => k_is)
  subst e3
  obtain ⟨f4, fd4, cd4, e4, r4⟩ : ∃ f fd cdv, f = 240 ∧ VI.RawF (hd.heap_39 w.params) "is_name" K79.s_is_name f fd cdv := by
    refine' VI.rawF' (f := 240) rfl ?a ?l ?c ?k
    (case a => k_is); (case l => k_is); (case c => k_is); (case k => k_is)
  subst e4
  obtain ⟨f5, fd5, cd5, e5, r5⟩ : ∃ f fd cdv, f = 247 ∧ VI.RawF (hd.heap_39 w.params) "is_term" K79.s_is_term f fd cdv := by
    refine' VI.rawF' (f := 247) rfl ?a ?l ?c ?k
    (case a => k_is); (case l => k_is); (case c => k_is); (case k => k_is)
  subst e5
  obtain ⟨f6, fd6, cd6, e6, r6⟩ : ∃ f fd cdv, f = 252 ∧ VI.RawF (hd.heap_39 w.params) "is_thing" K79.s_is_thing f fd cdv := by
    refine' VI.rawF' (f := 252) rfl ?a ?l ?c ?k
    (case a => k_is); (case l => k_is); (case c => k_is); (case k => k_is)
  subst e6
  obtain ⟨f7, fd7, cd7, e7, r7⟩ : ∃ f fd cdv, f = 259 ∧ VI.RawF (hd.heap_39 w.params) "is_fact" K79.s_is_fact f fd cdv := by
    refine' VI.rawF' (f := 259) rfl ?a ?l ?c ?k
    (case a => k_is); (case l => k_is); (case c => k_is); (case k => k_is)
  subst e7
  obtain ⟨f8, fd8, cd8, e8, r8⟩ : ∃ f fd cdv, f = 267 ∧ VI.RawF (hd.heap_39 w.params) "item_in" K79.s_item_in f fd cdv := by
    refine' VI.rawF' (f := 267) rfl ?a ?l ?c ?k
    (case a => k_is); (case l => k_is); (case c => k_is); (case k => k_is)
  subst e8
  obtain ⟨f9, fd9, cd9, e9, r9⟩ : ∃ f fd cdv, f = 274 ∧ VI.RawF (hd.heap_39 w.params) "read_item" K79.s_read_item f fd cdv := by
    refine' VI.rawF' (f := 274) rfl ?a ?l ?c ?k
    (case a => k_is); (case l => k_is); (case c => k_is); (case k => k_is)
  subst e9
  obtain ⟨f10, fd10, cd10, e10, r10⟩ : ∃ f fd cdv, f = 282 ∧ VI.RawF (hd.heap_39 w.params) "show_item" K79.s_show_item f fd cdv := by
    refine' VI.rawF' (f := 282) rfl ?a ?l ?c ?k
    (case a => k_is); (case l => k_is); (case c => k_is); (case k => k_is)
  subst e10
  obtain ⟨f11, fd11, cd11, e11, r11⟩ : ∃ f fd cdv, f = 289 ∧ VI.RawF (hd.heap_39 w.params) "_law_pen" K79.s__law_pen f fd cdv := by
    refine' VI.rawF' (f := 289) rfl ?a ?l ?c ?k
    (case a => k_is); (case l => k_is); (case c => k_is); (case k => k_is)
  subst e11
  obtain ⟨f12, fd12, cd12, e12, r12⟩ : ∃ f fd cdv, f = 296 ∧ VI.RawF (hd.heap_39 w.params) "_law_draw" K79.s__law_draw f fd cdv := by
    refine' VI.rawF' (f := 296) rfl ?a ?l ?c ?k
    (case a => k_is); (case l => k_is); (case c => k_is); (case k => k_is)
  subst e12
  obtain ⟨f13, fd13, cd13, e13, r13⟩ : ∃ f fd cdv, f = 301 ∧ VI.RawF (hd.heap_39 w.params) "_law_word" K79.s__law_word f fd cdv := by
    refine' VI.rawF' (f := 301) rfl ?a ?l ?c ?k
    (case a => k_is); (case l => k_is); (case c => k_is); (case k => k_is)
  subst e13
  obtain ⟨f14, fd14, cd14, e14, r14⟩ : ∃ f fd cdv, f = 306 ∧ VI.RawF (hd.heap_39 w.params) "_law_figures" K79.s__law_figures f fd cdv := by
    refine' VI.rawF' (f := 306) rfl ?a ?l ?c ?k
    (case a => k_is); (case l => k_is); (case c => k_is); (case k => k_is)
  subst e14
  obtain ⟨f15, fd15, cd15, e15, r15⟩ : ∃ f fd cdv, f = 313 ∧ VI.RawF (hd.heap_39 w.params) "_law_is_value" K79.s__law_is_value f fd cdv := by
    refine' VI.rawF' (f := 313) rfl ?a ?l ?c ?k
    (case a => k_is); (case l => k_is); (case c => k_is); (case k => k_is)
  subst e15
  obtain ⟨f16, fd16, cd16, e16, r16⟩ : ∃ f fd cdv, f = 318 ∧ VI.RawF (hd.heap_39 w.params) "_law_is_plain" K79.s__law_is_plain f fd cdv := by
    refine' VI.rawF' (f := 318) rfl ?a ?l ?c ?k
    (case a => k_is); (case l => k_is); (case c => k_is); (case k => k_is)
  subst e16
  obtain ⟨f17, fd17, cd17, e17, r17⟩ : ∃ f fd cdv, f = 325 ∧ VI.RawF (hd.heap_39 w.params) "_law_is_new" K79.s__law_is_new f fd cdv := by
    refine' VI.rawF' (f := 325) rfl ?a ?l ?c ?k
    (case a => k_is); (case l => k_is); (case c => k_is); (case k => k_is)
  subst e17
  obtain ⟨f18, fd18, cd18, e18, r18⟩ : ∃ f fd cdv, f = 332 ∧ VI.RawF (hd.heap_39 w.params) "_law_is_term" K79.s__law_is_term f fd cdv := by
    refine' VI.rawF' (f := 332) rfl ?a ?l ?c ?k
    (case a => k_is); (case l => k_is); (case c => k_is); (case k => k_is)
  subst e18
  obtain ⟨f19, fd19, cd19, e19, r19⟩ : ∃ f fd cdv, f = 337 ∧ VI.RawF (hd.heap_39 w.params) "_law_is_thing" K79.s__law_is_thing f fd cdv := by
    refine' VI.rawF' (f := 337) rfl ?a ?l ?c ?k
    (case a => k_is); (case l => k_is); (case c => k_is); (case k => k_is)
  subst e19
  obtain ⟨f20, fd20, cd20, e20, r20⟩ : ∃ f fd cdv, f = 344 ∧ VI.RawF (hd.heap_39 w.params) "_law_is_fact" K79.s__law_is_fact f fd cdv := by
    refine' VI.rawF' (f := 344) rfl ?a ?l ?c ?k
    (case a => k_is); (case l => k_is); (case c => k_is); (case k => k_is)
  subst e20
  obtain ⟨f21, fd21, cd21, e21, r21⟩ : ∃ f fd cdv, f = 351 ∧ VI.RawF (hd.heap_39 w.params) "_law_is_item" K79.s__law_is_item f fd cdv := by
    refine' VI.rawF' (f := 351) rfl ?a ?l ?c ?k
    (case a => k_is); (case l => k_is); (case c => k_is); (case k => k_is)
  subst e21
  obtain ⟨f22, fd22, cd22, e22, r22⟩ : ∃ f fd cdv, f = 356 ∧ VI.RawF (hd.heap_39 w.params) "_law_item_in" K79.s__law_item_in f fd cdv := by
    refine' VI.rawF' (f := 356) rfl ?a ?l ?c ?k
    (case a => k_is); (case l => k_is); (case c => k_is); (case k => k_is)
  subst e22
  obtain ⟨f23, fd23, cd23, e23, r23⟩ : ∃ f fd cdv, f = 363 ∧ VI.RawF (hd.heap_39 w.params) "_law_item_text" K79.s__law_item_text f fd cdv := by
    refine' VI.rawF' (f := 363) rfl ?a ?l ?c ?k
    (case a => k_is); (case l => k_is); (case c => k_is); (case k => k_is)
  subst e23
  obtain ⟨f24, fd24, cd24, e24, r24⟩ : ∃ f fd cdv, f = 370 ∧ VI.RawF (hd.heap_39 w.params) "_law_refusal" K79.s__law_refusal f fd cdv := by
    refine' VI.rawF' (f := 370) rfl ?a ?l ?c ?k
    (case a => k_is); (case l => k_is); (case c => k_is); (case k => k_is)
  subst e24
  obtain ⟨f25, fd25, cd25, e25, r25⟩ : ∃ f fd cdv, f = 377 ∧ VI.RawF (hd.heap_39 w.params) "_law_sign_bent" K79.s__law_sign_bent f fd cdv := by
    refine' VI.rawF' (f := 377) rfl ?a ?l ?c ?k
    (case a => k_is); (case l => k_is); (case c => k_is); (case k => k_is)
  subst e25
  obtain ⟨f26, fd26, cd26, e26, r26⟩ : ∃ f fd cdv, f = 384 ∧ VI.RawF (hd.heap_39 w.params) "_law_word_bent" K79.s__law_word_bent f fd cdv := by
    refine' VI.rawF' (f := 384) rfl ?a ?l ?c ?k
    (case a => k_is); (case l => k_is); (case c => k_is); (case k => k_is)
  subst e26
  obtain ⟨f27, fd27, cd27, e27, r27⟩ : ∃ f fd cdv, f = 391 ∧ VI.RawF (hd.heap_39 w.params) "_law_term" K79.s__law_term f fd cdv := by
    refine' VI.rawF' (f := 391) rfl ?a ?l ?c ?k
    (case a => k_is); (case l => k_is); (case c => k_is); (case k => k_is)
  subst e27
  obtain ⟨f28, fd28, cd28, e28, r28⟩ : ∃ f fd cdv, f = 396 ∧ VI.RawF (hd.heap_39 w.params) "_law_made_item" K79.s__law_made_item f fd cdv := by
    refine' VI.rawF' (f := 396) rfl ?a ?l ?c ?k
    (case a => k_is); (case l => k_is); (case c => k_is); (case k => k_is)
  subst e28
  obtain ⟨f29, fd29, co29, pt29, e29, e29p, r29, hd29⟩ : ∃ f fd co Pt, f = 403 ∧ Pt = 398 ∧ VI.RawF (hd.heap_39 w.params) "_law_text_right" K79.s__law_text_right f fd (.ref co) ∧ ∀ h : Heap, (hd.heap_39 w.params).In h → PySem.W.CodeHd h co Pt := by
    refine' VI.rawM' (f := 403) (Pt := 398) rfl rfl ?a ?l ?c ?k ?lc ?hc
    (case a => k_is); (case l => k_is); (case c => k_is); (case k => k_is); (case lc => k_is); (case hc => exact ⟨rfl, _, _, _, _, _, _, _, _, rfl, rfl, rfl, rfl, rfl, rfl, rfl, by decide⟩)
  subst e29 e29p
  obtain ⟨f30, fd30, co30, pt30, e30, e30p, r30, hd30⟩ : ∃ f fd co Pt, f = 408 ∧ Pt = 405 ∧ VI.RawF (hd.heap_39 w.params) "law" K79.s_law f fd (.ref co) ∧ ∀ h : Heap, (hd.heap_39 w.params).In h → PySem.W.CodeHd h co Pt := by
    refine' VI.rawM' (f := 408) (Pt := 405) rfl rfl ?a ?l ?c ?k ?lc ?hc
    (case a => k_is); (case l => k_is); (case c => k_is); (case k => k_is); (case lc => k_is); (case hc => exact ⟨rfl, _, _, _, _, _, _, _, _, rfl, rfl, rfl, rfl, rfl, rfl, rfl, by decide⟩)
  subst e30 e30p
  obtain ⟨p0, ep0, rd0⟩ : ∃ p, p = 260 ∧ VI.RawD (hd.heap_39 w.params) w "FACTS_reader" p (K79.gt0 0) := by
    refine' VI.rawD' (p := 260) rfl ?a ?l ?k ?o ?r
    (case a => k_is); (case l => k_is)
    (case k => exact ⟨⟨_, _, rfl, rfl⟩, ⟨⟨_, _, rfl, rfl⟩, trivial⟩⟩); (case o => rfl); (case r => first | exact .str rfl rfl (.str rfl rfl (.nil)) | exact .int rfl rfl (.int rfl rfl (.nil)))
  subst ep0
  obtain ⟨p1, ep1, rd1⟩ : ∃ p, p = 275 ∧ VI.RawD (hd.heap_39 w.params) w "SIGNS" p (K79.gt0 1) := by
    refine' VI.rawD' (p := 275) rfl ?a ?l ?k ?o ?r
    (case a => k_is); (case l => k_is)
    (case k => exact ⟨⟨_, _, rfl, rfl⟩, ⟨⟨_, _, rfl, rfl⟩, trivial⟩⟩); (case o => rfl); (case r => first | exact .str rfl rfl (.str rfl rfl (.nil)) | exact .int rfl rfl (.int rfl rfl (.nil)))
  subst ep1
  have x_NoText : VI.RawX (hd.heap_39 w.params) "NoText" 168 := by
    refine' VI.rawX' ?a ?l ?b ?s ?h ?t ?k ?g ?e ?d ?i ?n ?u ?m
    (case a => k_is); (case l => k_is); (case b => decide +kernel); (case s => k_is); (case h => k_is); (case t => k_is); (case k => k_is); (case g => k_is); (case e => k_is); (case d => k_is); (case i => k_is); (case n => k_is); (case u => k_is); (case m => k_is)
  have no_NoText : PySem.W.findIn (hd.heap_39 w.params) (.ref 168) "line" = some none := by k_is
  obtain ⟨fi_NoText, fdi_NoText, i1_NoText, i2_NoText, i3_NoText⟩ : ∃ fI fd, PySem.W.findIn (hd.heap_39 w.params) (.ref 168) "__init__" = some (some (.ref fI)) ∧ PySem.W.typeIn (hd.heap_39 w.params) (.ref fI) = some (.type "function") ∧ L2.Fun (hd.heap_39 w.params) "__init__" "NoText.__init__" K79.s_NoText fI fd := by
    refine' VI.rawI ?a ?t ?l ?c ?k
    (case a => k_is); (case t => k_is); (case l => k_is); (case c => k_is); (case k => k_is)
  have b1_NoText : PySem.W.nsIn (hd.heap_39 w.params) mainGlobals "HeadError" = some (some (.ref 24)) := by k_is
  have b2_NoText : PySem.W.readsIn (hd.heap_39 w.params) 24 (.type "type") = true := by k_is
  have b3_NoText : PySem.W.specialIn (hd.heap_39 w.params) (.ref 24) "__getattribute__" = some (some (.builtin "type.__getattribute__")) := by k_is
  have b4_NoText : PySem.W.findCls (hd.heap_39 w.params) (.ref 24) (.type "type") "__init__" = some (.val (.builtin "ValueError.__init__")) := by k_is
  have ty_HeadError : PySem.W.typeIn (hd.heap_39 w.params) (.ref 24) = some (.type "type") := by k_is
  have hd_HeadError : PySem.W.hasDictIn (hd.heap_39 w.params) 24 = true := by k_is
  have su_NoText_HeadError : PySem.W.subIn (hd.heap_39 w.params) (.ref 168) (.ref 24) = some true := by k_is
  have ty_NoRules : PySem.W.typeIn (hd.heap_39 w.params) (.ref 44) = some (.type "type") := by k_is
  have hd_NoRules : PySem.W.hasDictIn (hd.heap_39 w.params) 44 = true := by k_is
  have su_NoText_NoRules : PySem.W.subIn (hd.heap_39 w.params) (.ref 168) (.ref 44) = some false := by k_is
  have ty_NoChoice : PySem.W.typeIn (hd.heap_39 w.params) (.ref 63) = some (.type "type") := by k_is
  have hd_NoChoice : PySem.W.hasDictIn (hd.heap_39 w.params) 63 = true := by k_is
  have su_NoText_NoChoice : PySem.W.subIn (hd.heap_39 w.params) (.ref 168) (.ref 63) = some false := by k_is
  have ty_TooLong : PySem.W.typeIn (hd.heap_39 w.params) (.ref 82) = some (.type "type") := by k_is
  have hd_TooLong : PySem.W.hasDictIn (hd.heap_39 w.params) 82 = true := by k_is
  have su_NoText_TooLong : PySem.W.subIn (hd.heap_39 w.params) (.ref 168) (.ref 82) = some false := by k_is
  have ty_NoLevels : PySem.W.typeIn (hd.heap_39 w.params) (.ref 94) = some (.type "type") := by k_is
  have hd_NoLevels : PySem.W.hasDictIn (hd.heap_39 w.params) 94 = true := by k_is
  have su_NoText_NoLevels : PySem.W.subIn (hd.heap_39 w.params) (.ref 168) (.ref 94) = some false := by k_is
  have ty_Unfit : PySem.W.typeIn (hd.heap_39 w.params) (.ref 113) = some (.type "type") := by k_is
  have hd_Unfit : PySem.W.hasDictIn (hd.heap_39 w.params) 113 = true := by k_is
  have su_NoText_Unfit : PySem.W.subIn (hd.heap_39 w.params) (.ref 168) (.ref 113) = some false := by k_is
  have ty_NoItems : PySem.W.typeIn (hd.heap_39 w.params) (.ref 125) = some (.type "type") := by k_is
  have hd_NoItems : PySem.W.hasDictIn (hd.heap_39 w.params) 125 = true := by k_is
  have su_NoText_NoItems : PySem.W.subIn (hd.heap_39 w.params) (.ref 168) (.ref 125) = some false := by k_is
  have ty_Over : PySem.W.typeIn (hd.heap_39 w.params) (.ref 137) = some (.type "type") := by k_is
  have hd_Over : PySem.W.hasDictIn (hd.heap_39 w.params) 137 = true := by k_is
  have su_NoText_Over : PySem.W.subIn (hd.heap_39 w.params) (.ref 168) (.ref 137) = some false := by k_is
  have ty_NoSaved : PySem.W.typeIn (hd.heap_39 w.params) (.ref 149) = some (.type "type") := by k_is
  have hd_NoSaved : PySem.W.hasDictIn (hd.heap_39 w.params) 149 = true := by k_is
  have su_NoText_NoSaved : PySem.W.subIn (hd.heap_39 w.params) (.ref 168) (.ref 149) = some false := by k_is
  have ty_NoText : PySem.W.typeIn (hd.heap_39 w.params) (.ref 168) = some (.type "type") := by k_is
  have hd_NoText : PySem.W.hasDictIn (hd.heap_39 w.params) 168 = true := by k_is
  have su_NoText_NoText : PySem.W.subIn (hd.heap_39 w.params) (.ref 168) (.ref 168) = some true := by k_is
  have ty_NoLine : PySem.W.typeIn (hd.heap_39 w.params) (.ref 180) = some (.type "type") := by k_is
  have hd_NoLine : PySem.W.hasDictIn (hd.heap_39 w.params) 180 = true := by k_is
  have su_NoText_NoLine : PySem.W.subIn (hd.heap_39 w.params) (.ref 168) (.ref 180) = some false := by k_is
  have ty_NoHand : PySem.W.typeIn (hd.heap_39 w.params) (.ref 192) = some (.type "type") := by k_is
  have hd_NoHand : PySem.W.hasDictIn (hd.heap_39 w.params) 192 = true := by k_is
  have su_NoText_NoHand : PySem.W.subIn (hd.heap_39 w.params) (.ref 168) (.ref 192) = some false := by k_is
  have ty_NoBack : PySem.W.typeIn (hd.heap_39 w.params) (.ref 205) = some (.type "type") := by k_is
  have hd_NoBack : PySem.W.hasDictIn (hd.heap_39 w.params) 205 = true := by k_is
  have su_NoText_NoBack : PySem.W.subIn (hd.heap_39 w.params) (.ref 168) (.ref 205) = some false := by k_is
  have be_HeadError : PySem.W.subIn (hd.heap_39 w.params) (.ref 24) (.type "BaseException") = some true := by k_is
  have sb_NoText_ValueError : PySem.W.subIn (hd.heap_39 w.params) (.ref 168) (.type "ValueError") = some true := by k_is
  have no29 : List.lookup 398 (hd.heap_39 w.params) = none := by first | kernel_rfl | rfl | decide
  have no30 : List.lookup 405 (hd.heap_39 w.params) = none := by first | kernel_rfl | rfl | decide
  let co : Nat → Addr := fun k => ([0, 0, 0, 0, 0, 0, 0, 0, 0, 0, 0, 0, 0, 0, 0, 0, 0, 0, 0, 0, 0, 0, 0, 0, 0, 0, 0, 0, 0, co29, co30] : List Nat).getD k 0
  let cv : Nat → Value := fun k => ([cd0, cd1, cd2, cd3, cd4, cd5, cd6, cd7, cd8, cd9, cd10, cd11, cd12, cd13, cd14, cd15, cd16, cd17, cd18, cd19, cd20, cd21, cd22, cd23, cd24, cd25, cd26, cd27, cd28, .none, .none] : List Value).getD k .none
  refine ⟨K79.tabOf (hd.heap_39 w.params) (fun k => ([fd0, fd1, fd2, fd3, fd4, fd5, fd6, fd7, fd8, fd9, fd10, fd11, fd12, fd13, fd14, fd15, fd16, fd17, fd18, fd19, fd20, fd21, fd22, fd23, fd24, fd25, fd26, fd27, fd28, fd29, fd30] : List FuncData).getD k fd0), [(co29, 398), (co30, 405)], rfl, ?_, ?_⟩
  · have e := (PySem.W.mg_of KX G r30.at_)
    have e2 := hfa.symm.trans e
    exact (Value.ref.inj (Option.some.inj e2)).symm
  refine ⟨fun p hp => ?_, fun p hp => ?_, fun p hp => ?_, fun p hp => ?_, rfl, ?_, fun base KB GB TB => ?_⟩
  · simp only [List.mem_cons, List.not_mem_nil, or_false] at hp
    rcases hp with rfl | rfl
    · exact T1 398 (by simp)
    · exact T1 405 (by simp)
  · simp only [List.mem_cons, List.not_mem_nil, or_false] at hp
    rcases hp with rfl | rfl
    · exact no29
    · exact no30
  · simp only [List.mem_cons, List.not_mem_nil, or_false] at hp
    rcases hp with rfl | rfl
    · exact hd29 h KX
    · exact hd30 h KX
  · simp only [K79.tabOf, List.mem_cons, List.not_mem_nil, or_false] at hp
    rcases hp with rfl | rfl
    · exact ⟨(co29, 398), by simp, rfl⟩
    · exact ⟨(co30, 405), by simp, rfl⟩
  · exact fun s u => r30.bind (ps := ["_law_script"]) (fun _ _ _ _ _ _ us hl => match us, hl with | [_], _ => rfl) [u] rfl s
  · have F : K79.Wd (PySem.Challenge.rw_wakingheads_k79_items_written_and_read).prog w mg base (K79.tabOf (hd.heap_39 w.params) (fun k => ([fd0, fd1, fd2, fd3, fd4, fd5, fd6, fd7, fd8, fd9, fd10, fd11, fd12, fd13, fd14, fd15, fd16, fd17, fd18, fd19, fd20, fd21, fd22, fd23, fd24, fd25, fd26, fd27, fd28, fd29, fd30] : List FuncData).getD k fd0)) co K79.ptOf cv := {
      gdk := fun k hk => match k, hk with
        | 0, _ => rd0.gd rfl rfl rfl
        | 1, _ => rd1.gd rfl rfl rfl
        | _ + 2, h => absurd rfl h
      gt := rfl
      z_len := PySem.W.mg_none_of KX G (by k_is)
      z_all := PySem.W.mg_none_of KX G (by k_is)
      z_isinstance := PySem.W.mg_none_of KX G (by k_is)
      z_str := PySem.W.mg_none_of KX G (by k_is)
      z_tuple := PySem.W.mg_none_of KX G (by k_is)
      z_list := PySem.W.mg_none_of KX G (by k_is)
      z_abs := PySem.W.mg_none_of KX G (by k_is)
      z_int := PySem.W.mg_none_of KX G (by k_is)
      z_range := PySem.W.mg_none_of KX G (by k_is)
      z_ValueError := PySem.W.mg_none_of KX G (by k_is)
      z_bool := PySem.W.mg_none_of KX G (by k_is)
      z_repr := PySem.W.mg_none_of KX G (by k_is)
      c_FIGURES := by
        refine' VI.conS KX G ?a
        (case a => k_is)
      c_LONGEST_VALUE := by
        refine' VI.conI KX G ?a
        (case a => k_is)
      c_LONGEST := by
        refine' VI.conI KX G ?a
        (case a => k_is)
      c_LETTERS := by
        refine' VI.conS KX G ?a
        (case a => k_is)
      c_LONGEST_NEW := by
        refine' VI.conI KX G ?a
        (case a => k_is)
      c_MOST_ARGS := by
        refine' VI.conI KX G ?a
        (case a => k_is)
      c_FACTS_terms := by
        refine' VI.conT (K := (hd.heap_39 w.params)) (vs := [L2.V.str "same", L2.V.str "unlike"]) (p := 209) rfl KX G ?a ?l ?hc ?r
        (case a => k_is); (case l => k_is)
        (case hc => exact ⟨rfl, rfl, by decide, .cons ⟨_, rfl⟩ (.cons ⟨_, rfl⟩ (.nil))⟩); (case r => exact fun mu H => VI.RepL.cons (VI.Rep.str_mk _) (VI.RepL.cons (VI.Rep.str_mk _) (VI.RepL.nil)))
      c_FACTS_reader := VI.conD KX G rd0.at_ rfl
      c_SIGNS := VI.conD KX G rd1.at_ rfl
      d_are_figures := r0.def KX G rfl rfl rfl rfl (fun _ _ _ _ _ _ us hl => match us, hl with | [_, _], _ => rfl)
      d_is_value := r1.def KX G rfl rfl rfl rfl (fun _ _ _ _ _ _ us hl => match us, hl with | [_], _ => rfl)
      d_is_plain := r2.def KX G rfl rfl rfl rfl (fun _ _ _ _ _ _ us hl => match us, hl with | [_], _ => rfl)
      d_is_new := r3.def KX G rfl rfl rfl rfl (fun _ _ _ _ _ _ us hl => match us, hl with | [_], _ => rfl)
      d_is_name := r4.def KX G rfl rfl rfl rfl (fun _ _ _ _ _ _ us hl => match us, hl with | [_], _ => rfl)
      d_is_term := r5.def KX G rfl rfl rfl rfl (fun _ _ _ _ _ _ us hl => match us, hl with | [_], _ => rfl)
      d_is_thing := r6.def KX G rfl rfl rfl rfl (fun _ _ _ _ _ _ us hl => match us, hl with | [_], _ => rfl)
      d_is_fact := r7.def KX G rfl rfl rfl rfl (fun _ _ _ _ _ _ us hl => match us, hl with | [_], _ => rfl)
      d_item_in := r8.def KX G rfl rfl rfl rfl (fun _ _ _ _ _ _ us hl => match us, hl with | [_], _ => rfl)
      d_read_item := r9.def KX G rfl rfl rfl rfl (fun _ _ _ _ _ _ us hl => match us, hl with | [_], _ => rfl)
      d_show_item := r10.def KX G rfl rfl rfl rfl (fun _ _ _ _ _ _ us hl => match us, hl with | [_], _ => rfl)
      d__law_pen := r11.def KX G rfl rfl rfl rfl (fun _ _ _ _ _ _ us hl => match us, hl with | [_], _ => rfl)
      d__law_draw := r12.def KX G rfl rfl rfl rfl (fun _ _ _ _ _ _ us hl => match us, hl with | [_, _], _ => rfl)
      d__law_word := r13.def KX G rfl rfl rfl rfl (fun _ _ _ _ _ _ us hl => match us, hl with | [_], _ => rfl)
      d__law_figures := r14.def KX G rfl rfl rfl rfl (fun _ _ _ _ _ _ us hl => match us, hl with | [_, _], _ => rfl)
      d__law_is_value := r15.def KX G rfl rfl rfl rfl (fun _ _ _ _ _ _ us hl => match us, hl with | [_], _ => rfl)
      d__law_is_plain := r16.def KX G rfl rfl rfl rfl (fun _ _ _ _ _ _ us hl => match us, hl with | [_], _ => rfl)
      d__law_is_new := r17.def KX G rfl rfl rfl rfl (fun _ _ _ _ _ _ us hl => match us, hl with | [_], _ => rfl)
      d__law_is_term := r18.def KX G rfl rfl rfl rfl (fun _ _ _ _ _ _ us hl => match us, hl with | [_], _ => rfl)
      d__law_is_thing := r19.def KX G rfl rfl rfl rfl (fun _ _ _ _ _ _ us hl => match us, hl with | [_], _ => rfl)
      d__law_is_fact := r20.def KX G rfl rfl rfl rfl (fun _ _ _ _ _ _ us hl => match us, hl with | [_], _ => rfl)
      d__law_is_item := r21.def KX G rfl rfl rfl rfl (fun _ _ _ _ _ _ us hl => match us, hl with | [_], _ => rfl)
      d__law_item_in := r22.def KX G rfl rfl rfl rfl (fun _ _ _ _ _ _ us hl => match us, hl with | [_], _ => rfl)
      d__law_item_text := r23.def KX G rfl rfl rfl rfl (fun _ _ _ _ _ _ us hl => match us, hl with | [_], _ => rfl)
      d__law_refusal := r24.def KX G rfl rfl rfl rfl (fun _ _ _ _ _ _ us hl => match us, hl with | [_], _ => rfl)
      d__law_sign_bent := r25.def KX G rfl rfl rfl rfl (fun _ _ _ _ _ _ us hl => match us, hl with | [_, _], _ => rfl)
      d__law_word_bent := r26.def KX G rfl rfl rfl rfl (fun _ _ _ _ _ _ us hl => match us, hl with | [_, _, _], _ => rfl)
      d__law_term := r27.def KX G rfl rfl rfl rfl (fun _ _ _ _ _ _ us hl => match us, hl with | [_, _], _ => rfl)
      d__law_made_item := r28.def KX G rfl rfl rfl rfl (fun _ _ _ _ _ _ us hl => match us, hl with | [_, _], _ => rfl)
      d__law_text_right := r29.def KX G rfl rfl rfl rfl (fun _ _ _ _ _ _ us hl => match us, hl with | [_], _ => rfl)
      d_law := r30.def KX G rfl rfl rfl rfl (fun _ _ _ _ _ _ us hl => match us, hl with | [_], _ => rfl)
      g_NoText := PySem.W.mg_of KX G (by k_is)
      g_HeadError := PySem.W.mg_of KX G (by k_is)
      g_NoChoice := PySem.W.mg_of KX G (by k_is)
      g_NoItems := PySem.W.mg_of KX G (by k_is)
      g_NoLevels := PySem.W.mg_of KX G (by k_is)
      g_NoLine := PySem.W.mg_of KX G (by k_is)
      g_NoRules := PySem.W.mg_of KX G (by k_is)
      g_NoSaved := PySem.W.mg_of KX G (by k_is)
      g_Over := PySem.W.mg_of KX G (by k_is)
      g_TooLong := PySem.W.mg_of KX G (by k_is)
      g_Unfit := PySem.W.mg_of KX G (by k_is)
      g_NoBack := PySem.W.mg_of KX G (by k_is)
      g_NoHand := PySem.W.mg_of KX G (by k_is)
      r_NoText := ⟨x_NoText.oex, PySem.W.mg_of KX G x_NoText.at_, no_NoText, fi_NoText, fdi_NoText, ["self", "line"], i1_NoText, i2_NoText, VI.init_ok i3_NoText ⟨rfl, rfl, rfl, by decide +kernel, rfl, by decide +kernel, by decide +kernel⟩ rfl (PySem.W.mg_of KX G b1_NoText) b2_NoText b3_NoText b4_NoText rfl rfl rfl rfl rfl rfl rfl rfl (fun _ _ _ _ _ _ => ⟨_, rfl⟩) (fun _ => rfl) (fun _ => rfl), i3_NoText.binds (fun _ _ _ _ _ _ us hl => match us, hl with | [_, _], _ => rfl)⟩
      m_HeadError := fun k b hk => by
        unfold K79.cs_HeadError at hk
        split at hk
        · cases hk
          exact PySem.W.exm_ref be_HeadError hd_HeadError ty_HeadError su_NoText_HeadError
        · cases hk
      i_0 := fun k b hk => by
        unfold K79.ok_i0 at hk
        split at hk
        · cases hk
          exact ⟨x_NoText.exc, VI.kitF (VI.kitO ty_NoChoice hd_NoChoice su_NoText_NoChoice rfl) (VI.kitF (VI.kitO ty_NoItems hd_NoItems su_NoText_NoItems rfl) (VI.kitF (VI.kitO ty_NoLevels hd_NoLevels su_NoText_NoLevels rfl) (VI.kitF (VI.kitO ty_NoLine hd_NoLine su_NoText_NoLine rfl) (VI.kitF (VI.kitO ty_NoRules hd_NoRules su_NoText_NoRules rfl) (VI.kitF (VI.kitO ty_NoSaved hd_NoSaved su_NoText_NoSaved rfl) (VI.kitF (VI.kitO ty_Over hd_Over su_NoText_Over rfl) (VI.kitF (VI.kitO ty_TooLong hd_TooLong su_NoText_TooLong rfl) (VI.kitF (VI.kitO ty_Unfit hd_Unfit su_NoText_Unfit rfl) (rfl)))))))))⟩
        · cases hk
      i_1 := fun k b hk => by
        unfold K79.ok_i1 at hk
        split at hk
        · cases hk
          exact ⟨x_NoText.exc, VI.kitF (VI.kitO ty_NoBack hd_NoBack su_NoText_NoBack rfl) (VI.kitF (VI.kitO ty_NoHand hd_NoHand su_NoText_NoHand rfl) (rfl))⟩
        · cases hk
      i_2 := fun k b hk => by
        unfold K79.ok_i2 at hk
        split at hk
        · cases hk
          exact ⟨x_NoText.exc, VI.kitB' (by decide +kernel) sb_NoText_ValueError rfl⟩
        · cases hk
      i_3 := fun k b hk => by
        unfold K79.ok_i3 at hk
        split at hk
        · cases hk
          exact ⟨x_NoText.exc, VI.kitS⟩
        · cases hk
      f_line := fun k hk => by
        unfold K79.ok_line at hk
        split at hk
        · exact ⟨x_NoText.exc, no_NoText⟩
        · cases hk
      tb__law_text_right := TB (co29, 398) (by simp)
      tl__law_text_right := List.mem_cons_self
      tu__law_text_right := fun p hp e => by
        simp only [K79.tabOf, List.mem_cons, List.not_mem_nil, or_false] at hp
        rcases hp with rfl | rfl
        · rfl
        · exact absurd e (by decide)
      tb_law := TB (co30, 405) (by simp)
      tl_law := List.mem_cons_of_mem _ (List.mem_cons_self)
      tu_law := fun p hp e => by
        simp only [K79.tabOf, List.mem_cons, List.not_mem_nil, or_false] at hp
        rcases hp with rfl | rfl
        · exact absurd e (by decide)
        · rfl
      }
    exact K79.w_law F
theorem PySem.Challenge.cw_wakingheads_k79_items_written_and_read_holds : PySem.Challenge.rw_wakingheads_k79_items_written_and_read.Holds :=
  K79.over fun ns h _ => K79.law_holds ns h
